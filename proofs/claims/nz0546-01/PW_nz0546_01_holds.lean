import PyProof.Rows.All
import PyProof.ExcClass2
import PyProof.ExcArgsOwn
import PyProof.ExcBaseAll.Exception
import PyProof.ExcAttrAll.Exception
import KE.KLam
import KE.KDictOf
import KE.KEqDict
import KE.RegKIsAll
import Open.Tops
import Wide.FinOn
import OpenK.AllK
import Wide.All
import Lean
import PySem.Challenge.RW_nz0546_01
set_option Elab.async false
set_option maxRecDepth 100000
set_option linter.all false
set_option genInjectivity false
set_option genSizeOf false
set_option genSizeOfSpec false
namespace Mine
open PySem PySem.W PySem.Calls PyProof.Rows
noncomputable def qe(tb:String->Option Builtin) (p:Program) (w:World) (cX:Nat) (ann:Option Value):Nat->SharedT->Thread->Option SharedT
 |0,_,_=>none
 |n+1,s,t=>match through t with
  |true=>some s
  |false=>match stepOk cX ann t with
   |false=>none
   |true=>match stepT (denote tb) p w s t with
    |some (s',t')=>qe tb p w cX ann n s' t'
    |none=>none
theorem wV{tb:String->Option Builtin}{p:Program}{w:World}{cX:Nat}{ann:Option Value}(n:Nat):∀(s s':SharedT) (t:Thread),qe tb p w cX ann n s t=some s'->topRun tb p w cX ann n s.abs t=some s'.abs:=by
 induction n with
 |zero=>exact fun _ _ _ h=>nomatch h
 |succ n ih =>
  intro s s' t h
  unfold qe at h
  unfold topRun
  cases ht:through t with
  |true=>rw[ht] at h;(injection h with h;subst h);rfl
  |false =>
   rw[ht] at h
   cases hk:stepOk cX ann t with
   |false=>rw[hk] at h;injection h
   |true =>
    rw[hk] at h
    cases hs:stepT (denote tb) p w s t with
    |none=>rw[hs] at h;injection h
    |some r =>
     obtain⟨wW,t₂⟩:=r
     rw[hs] at h
     dsimp only at h ⊢
     rw[stepT_spec hs]
     exact ih _ _ _ h
noncomputable def o7(P:Params) (x:Str):Int:=if x.cps.isEmpty then 0 else reduceHash (P.strHash x.cps)
noncomputable def uQ(vs:List Value):Obj:={ cls:=.type "tuple",data:=.seq vs.toArray }
noncomputable def texts(t:Nat):List Str->List Value
 |[]=>[]
 |x::r=>.str x t::texts (t+1) r
noncomputable def Me{α:Type}(x:Expr) (Vg:Str->α) (int:Int->α) (str:Str->α) (tup:List Expr->α) (no:α):α:=Expr.casesOn (motive_1:=fun _=>α) x (fun _ _ _=>no) (fun _ _ _=>no) (fun _ _ _ _=>no) (fun _ _ _=>no) (fun _ _ _ _=>no) (fun _ _ _ _=>no) (fun _ _ _=>no) (fun _ _ _=>no) (fun _ _ _ _=>no) (fun _ _ _ _=>no) (fun _ _ _ _ _=>no) (fun _ _ _ _=>no) (fun _ _=>no) (fun _ _=>no) (fun _ _=>no) (fun _ _ _ _=>no) (fun _ _ _ _=>no) (fun _ _ _ _=>no) (fun _ _=>no) (fun c _ _=>match c with| .int i=>int i|.str s=>str s|_=>no) (fun _ _ _=>no) (fun _ _ _=>no) (fun _ _=>no) (fun x _=>Vg x) (fun _ _=>no) (fun l _ _=>tup l) (fun _ _ _ _=>no)
noncomputable def Jk{α:Type}(x:Stmt) (fn:Str->Arguments->List Stmt->Scope->Pos->α) (cl:Str->List Expr->List Stmt->List Str->Pos->α) (asg:List Expr->Expr->Pos->α) (no:α):α:=Stmt.casesOn (motive_2:=fun _=>α) x (fun a b c _ _ _ d _ _ p=>fn a b c d p) (fun _ _ _ _ _ _ _ _ _ _=>no) (fun a b _ c _ _ _ _ _ d p=>cl a b c d p) (fun _ _=>no) (fun _ _=>no) (fun t v p=>asg t v p) (fun _ _ _ _ _ _ _=>no) (fun _ _ _ _=>no) (fun _ _ _ _ _=>no) (fun _ _ _ _ _=>no) (fun _ _ _ _ _=>no) (fun _ _ _ _=>no) (fun _ _ _ _=>no) (fun _ _ _=>no) (fun _ _ _=>no) (fun _ _ _=>no) (fun _ _ _=>no) (fun _ _ _ _ _=>no) (fun _ _ _ _ _=>no) (fun _ _ _=>no) (fun _ _=>no) (fun _ _ _ _=>no) (fun _ _=>no) (fun _ _=>no) (fun _ _=>no) (fun _=>no) (fun _=>no) (fun _=>no)
noncomputable def consts(t:Nat):List Expr->List Value
 |[]=>[]
 |x::r=>Me x (fun _=>.none::consts t r) (fun i=>.int i t::consts (t+1) r) (fun s=>.str s t::consts (t+1) r) (fun _=>.none::consts t r) (.none::consts t r)
noncomputable def qx:Str:="/claim/cut.py"
abbrev Row:=Nat×Nat×Nat×Nat
noncomputable def T8(qn name:Str) (args:Arguments) (body:List Stmt) (sc:Scope) (pos:Pos) (pm:Value):Row->List Obj
 |(f,t,g,k) =>
 let fd:FuncData:={ name:=name,qualname:=qn,params:=args,body:=.stmts body,scope:=sc,globals:=builtinsNs,closure:=[],defaults:=.none,kwdefaults:=.none }
 let lo (l1 l2:Value):List Obj:=[{ cls:=.none,data:=.func fd },{ cls:=.type "code",data:=.fields #[.str name t,.str qn (t+1),.str qx (t+2),rawInt pos.line,rawInt args.args.length,rawInt 0,rawInt 0,rawInt 3,.ref f,.bool true,rawInt 181,.ref (f+1),.none,l1,l2,.ref (g-2),rawInt (k-2:Nat),rawInt pos.line,.str qx (k-1)] },
  { cls:=.type "function",data:=.func { fd with globals:=mainGlobals,defaults:=(match args.defaults with| []=>.none|_=>.ref (f-1)),pyModule:=pm,code:=.ref (g-1),builtins:=builtinsNs } }]
 let rest:List Obj:=uQ []::{ cls:=.none,data:=.fields #[] }::(match g-f with
  |4=>lo .none .none
  |_=>let c:=(localNames args sc (.stmts body)).getD ([],[]);uQ (texts (t+3) c.1)::uQ (texts (t+3+c.1.length) c.2)::lo (.ref (f+2)) (.ref (f+3)))
 match args.defaults with
 |[]=>rest
 |ds=>uQ (consts (t-1) ds)::rest
noncomputable def Cy(P:Params) (x:Str) (k a:Nat):DictEntry:=⟨o7 P x,.str x k,.ref a⟩
noncomputable def Vh(P:Params) (s:Stmt) (w:Row):List DictEntry :=
 let d (x:Str):List DictEntry:=[Cy P x w.2.2.2 w.2.2.1]
 Jk s (fun x _ _ _ _=>d x) (fun x _ _ _ _=>d x) (fun ts v _=>Me (ts.headD default) (fun x=>Me v (fun _=>[]) (fun i=>[⟨o7 P x,.str x w.2.2.2,.int i w.2.1⟩]) (fun _=>[]) (fun _=>d x) []) (fun _=>[]) (fun _=>[]) (fun _=>[]) []) []
noncomputable def Vi(s:Stmt) (w:Row):List Value :=
 Jk s (fun _ _ _ _ pos=>[rawInt pos.line,rawInt pos.col,.ref (w.2.2.1-1)]) (fun _ _ _ _ pos=>[rawInt pos.line,rawInt pos.col,.ref (w.1+5)]) (fun _ _ _=>[]) []
noncomputable def Jl(P:Params):List Stmt->List Row->List DictEntry
 |s::r,w::q=>Vh P s w++Jl P r q
 |_,_=>[]
noncomputable def Jm:List Stmt->List Row->List Value
 |s::r,w::q=>Vi s w++Jm r q
 |_,_=>[]
noncomputable def defsOf(l:List Stmt):List Stmt:=l.filter fun s=>Jk s (fun _ _ _ _ _=>true) (fun _ _ _ _ _=>false) (fun _ _ _=>false) false
noncomputable def Ik(c:Str) (pm:Value):List Stmt->List Row->List Obj
 |s::r,w::q=>Jk s (fun name args body sc pos=>T8 (c ++ "." ++ name) name args body sc pos pm w++Ik c pm r q) (fun _ _ _ _ _=>[]) (fun _ _ _=>[]) []
 |_,_=>[]
noncomputable def QK(P:Params) (c:Str) (kind:Nat) (body:List Stmt) (sa:List Str) (pos:Pos) (pm:Value):Row->Nat×Nat×List Row->List Obj
 |(b,t,_,_),(s,ks,ms) =>
 let bt:List Value:=match kind with| 0=>[]|1=>[.type "Exception"]|_=>[.ref 24]
 let me:List DictEntry:=Jl P (defsOf body) ms
 let e0:DictEntry:=⟨o7 P "__module__",.str "__module__" (t+7),pm⟩
 let e2:DictEntry:=⟨o7 P "__firstlineno__",.str "__firstlineno__" (t+11),.int pos.line (t+10)⟩
 let e3:DictEntry:=Cy P "__static_attributes__" ks s
 let u:=ks+1
 let dE (k:Nat):DictEntry:=⟨o7 P "__doc__",.str "__doc__" k,.none⟩
 let MN (k:Nat):Obj:={ cls:=.type "getset_descriptor",data:=.fields #[.str "__weakref__" k,.ref (s+2),.builtin "ExceptionGroup.__weakref__",.none] }
 let bs:List Value:=match kind with| 0=>[.type "object"]|_=>bt
 let s0:Option Value:=match kind with| 0=>none|_=>some (.ref b)
 let sub:List Value:=match kind with| 1=>[.ref 44]|_=>[]
 let ty (l:List Value) (n:String):Obj:=Obj.mk (.type "type") none (.cls { name:=c,bases:=bs,mro:=.ref (s+2)::l,ns:=s+1,qualname:=c,subclasses:=sub }) #[s0,none,some (.str c t),some (.str c (t+8)),some (.builtin n),some (.bool true)]
 let ns (l:List DictEntry) (n:Nat):Obj:={ cls:=.type "dict",data:=.dict (e0::e2::me++e3::l).toArray n }
 [uQ bt,{ cls:=.type "builtin_function_or_method",data:=.fields #[.builtin "type.__prepare__",.type "type"] },
  { cls:=.type "dict",data:=.dict (e0::⟨o7 P "__qualname__",.str "__qualname__" (t+9),.str c (t+8)⟩::e2::me++[e3]).toArray (4+ms.length) },
  uQ [],{ cls:=.none,data:=.fields (Jm (defsOf body) ms).toArray },
  { cls:=.type "code",data:=.fields #[.str c (t+2),.str c (t+3),.str qx (t+4),rawInt pos.line,rawInt 0,rawInt 0,rawInt 0,rawInt 0,.ref (b+3),.bool false,rawInt 181,.ref (b+4),.none,.none,.none,.none,rawInt (t+5:Nat),rawInt pos.line,.str qx (t+6)] },
  { cls:=.type "frame",slots:=#[some (.ref (b+5)),some (.ref 3),some (.ref (b+2)),none,some pm,none,some (.ref 0)] }]++Ik c pm (defsOf body) ms++[uQ (texts (ks-sa.length) sa)] ++
 (match kind with
  |0=>[ns [Cy P "__dict__" (u+1) (s+3),Cy P "__weakref__" (u+3) (s+4),dE (u+4)] 4,ty [.type "object"] "object.__new__",{ cls:=.type "getset_descriptor",data:=.fields #[.str "__dict__" u,.ref (s+2),.builtin "function.__dict__",.builtin "function.__dict__#set"] },MN (u+2)]
  |1=>[ns [Cy P "__weakref__" (u+1) (s+3),dE (u+2)] 3,ty [.type "Exception",.type "BaseException",.type "object"] "Exception.__new__",MN u]
  |_=>[ns [dE u] 2,ty [.ref 24,.type "Exception",.type "BaseException",.type "object"] "Exception.__new__"]) ++
 [{ cls:=.type "super",data:=.fields #[.ref (s+2),.ref (s+2),.ref (s+2)] },{ cls:=.type "builtin_function_or_method",data:=.fields #[.builtin "object.__init_subclass__",.ref (s+2)] }]
noncomputable def uR(P:Params) (pm:Value):List Stmt->List Row->List (Nat×Nat×List Row)->List Obj
 |s::r,w::q,cs=>Jk s (fun name args body sc pos=>T8 name name args body sc pos pm w++uR P pm r q cs)
   (fun c bases body sa pos=>match cs with
    |d::cs=>QK P c (match bases with| b::_=>Me b (fun x=>if x==("Exception" : Str) then 1 else 2) (fun _=>0) (fun _=>0) (fun _=>0) 0|_=>0) body sa pos pm w d++uR P pm r q cs
    |[]=>[])
   (fun _ v _=>Me v (fun _=>uR P pm r q cs) (fun _=>uR P pm r q cs) (fun x=>uR P (.str x w.2.1) r q cs) (fun es=>uQ (consts w.2.1 es)::uR P pm r q cs) (uR P pm r q cs)) (uR P pm r q cs)
 |_,_,_=>[]
noncomputable def iN(pm:Value):List Stmt->List Row->Value
 |s::r,w::q=>Jk s (fun _ _ _ _ _=>iN pm r q) (fun _ _ _ _ _=>iN pm r q) (fun _ v _=>Me v (fun _=>iN pm r q) (fun _=>iN pm r q) (fun x=>iN (.str x w.2.1) r q) (fun _=>iN pm r q) (iN pm r q)) (iN pm r q)
 |_,_=>pm
noncomputable def Il:List Row:=[(0,187,0,0),(15,189,24,208),(28,209,44,233),(0,234,0,0),(0,236,0,237),(47,238,63,266),(68,267,84,295),(89,296,113,338),(118,339,134,369),(139,370,156,404),(161,405,167,411),(168,412,174,417),(175,418,181,424),(182,425,188,431),(189,432,195,439),(196,440,202,447),(203,448,209,454),(210,455,216,461),(217,462,223,468),(224,469,230,475),(0,476,0,0),(231,478,237,485),(238,486,244,493),(245,494,251,502),(252,503,256,508),(257,509,263,516),(264,517,268,522),(0,523,0,0),(269,525,269,527),(270,528,270,530),(271,531,271,533),(272,534,278,541),(279,542,285,550),(286,551,292,557),(293,558,299,564),(300,565,306,571),(307,572,313,578),(314,579,320,586),(321,587,327,596),(328,597,334,606),(0,607,0,0),(335,609,341,617),(342,618,348,629),(349,630,353,635),(354,636,360,645),(361,646,367,656),(368,657,374,670),(375,671,381,681),(382,682,388,692),(389,693,395,701),(396,702,402,709),(403,710,409,720),(410,721,416,732),(417,733,423,742),(424,743,430,751),(431,752,437,763),(438,764,444,779),(446,780,450,785),(0,786,0,0),(451,788,457,794),(458,795,464,801),(465,802,471,808),(472,809,478,815),(479,816,485,826),(486,827,492,836),(493,837,499,847),(500,848,506,861),(507,862,513,874),(514,875,520,882),(521,883,527,893),(528,894,534,904),(535,905,541,915),(542,916,548,924),(549,925,553,930),(554,931,558,936),(559,937,565,948),(566,949,570,954),(571,955,577,966),(578,967,584,974),(585,975,591,985),(592,986,598,1000),(599,1001,605,1008),(606,1009,610,1014),(611,1015,615,1020),(616,1021,622,1027),(623,1028,629,1039),(0,1040,0,0),(0,1042,0,1043),(630,1044,636,1053),(637,1054,643,1060),(644,1061,650,1070),(651,1071,657,1080),(658,1081,664,1088),(665,1089,671,1100),(672,1101,678,1110),(679,1111,685,1123),(686,1124,692,1140),(693,1141,699,1149),(700,1150,704,1155),(706,1157,712,1164),(713,1165,719,1174),(720,1175,726,1183),(727,1184,733,1192),(734,1193,740,1201),(741,1202,747,1220),(748,1221,754,1232),(0,1233,0,0),(0,1235,0,1236),(755,1237,761,1244),(762,1245,768,1254),(769,1255,775,1262),(776,1263,782,1269),(783,1270,789,1278),(790,1279,796,1288),(797,1289,803,1296),(804,1297,810,1305),(811,1306,817,1314),(818,1315,824,1322),(825,1323,831,1332),(832,1333,838,1339),(839,1340,845,1349),(846,1350,852,1357),(853,1358,857,1363),(858,1364,864,1371),(865,1372,869,1377),(870,1378,876,1384),(0,1385,0,0),(877,1387,883,1395),(884,1396,890,1405),(891,1406,897,1413),(898,1414,904,1421),(905,1422,911,1434),(912,1435,918,1447),(919,1448,925,1456),(926,1457,932,1465),(933,1466,939,1483),(940,1484,946,1499),(947,1500,953,1512),(954,1513,960,1525),(961,1526,967,1536),(968,1537,972,1542),(973,1543,979,1554),(980,1555,986,1562),(987,1563,993,1577),(994,1578,1000,1591),(1001,1592,1007,1602),(1008,1603,1014,1614),(1015,1615,1021,1624),(0,1625,0,0),(1022,1627,1028,1637),(1029,1638,1035,1644),(1036,1645,1042,1652),(1043,1653,1049,1661),(1050,1662,1054,1667),(1055,1668,1061,1677),(1062,1678,1066,1683),(1067,1684,1071,1689),(1072,1690,1078,1697),(1079,1698,1083,1703)]
noncomputable def QL:List (Nat×Nat×List Row):=[(22,201,[]),(42,230,[(35,221,41,228)]),(61,259,[(54,250,60,256)]),(82,288,[(75,279,81,285)]),(111,331,[(97,308,103,317),(104,318,110,325)]),(132,362,[(125,351,131,358)]),(154,397,[(147,382,153,391)])]
noncomputable def bd:List Stmt:=PySem.Challenge.pw_nz0546_01.main.body
noncomputable def setName(v:Value):List DictEntry->List DictEntry
 |e::r=>{ e with val:=v }::r
 |[]=>[]
noncomputable def MO(P:Params) (k:Nat):List Obj :=
 let l:=bd.take k
 let q:=Il.take k
 [boot_o_0 P,boot_o_1 P,(match k with
   |0=>boot_o_2 P
   |_=>match boot_o_2 P with
    |⟨c,d,.dict es n,sl⟩=>⟨c,d,.dict (es++#[⟨o7 P "type.__subclasses__.Exception.0",.str "type.__subclasses__.Exception.0" 205,rawInt 24⟩,⟨o7 P "type.__subclasses__.Exception.n",.str "type.__subclasses__.Exception.n" 206,rawInt 1⟩]) (n+2),sl⟩
    |o=>o),
  (match boot_o_3 P with
   |⟨c,d,.dict es n,sl⟩=>let m:=Jl P l q;⟨c,d,.dict ((setName (iN ((es.toList.head?.map (·.val)).getD .none) l q) es.toList)++m).toArray (n+m.length),sl⟩
   |o=>o),
  boot_o_4 P,boot_o_5 P,boot_o_6 P,boot_o_7 P,boot_o_8 P,boot_o_9 P,boot_o_10 P,
  uQ [],{ cls:=.none,data:=.fields (Jm l q).toArray },
  { cls:=.type "code",data:=.fields #[.str "<module>" 182,.str "<module>" 183,.str qx 184,rawInt 1,rawInt 0,rawInt 0,rawInt 0,rawInt 0,.ref 11,.bool false,rawInt 181,.ref 12,.none,.none,.none,.none,rawInt 185,rawInt 1,.str qx 186] },
  { cls:=.type "frame",slots:=#[some (.ref 13),some (.ref 3),some (.ref 3),none,some (.str "__main__" 164),none,some (.ref 0)] }]
noncomputable def zO(P:Params) (k:Nat):List Obj:=MO P k++uR P .none (bd.take k) (Il.take k) QL
noncomputable def uS:List Obj->List Obj
 |a::_::r=>a::uS r
 |l=>l
noncomputable def qy:Nat->List Obj->BT
 |0,_=>.nil
 |_+1,[]=>.nil
 |n+1,a::r=>.node a (qy n (uS r)) (qy n (uS r.tail))
noncomputable def FE:Nat->Nat×Nat
 |0=>(15,187)
 |10=>(161,405)
 |60=>(458,795)
 |110=>(769,1255)
 |_=>(1084,1704)
noncomputable def Sn(w:World) (os:OsState) (k:Nat):SharedT:={ tree:=qy 11 (zO w.params k),n:=(FE k).1,life:={ },gens:=#[],drawn:={ },toks:=(FE k).2,os:=os }
noncomputable def yR:Env:={ scope:=PySem.Challenge.pw_nz0546_01.main.scope,locals:=mainNs,globals:=mainNs,cells:=[],code:=Value.ref 13,frame:=some 14 }
noncomputable def FF:Code:=PySem.Code.body bd yR
noncomputable def p0:Pos:={ line:=0,col:=0,endLine:=0,endCol:=0 }
noncomputable def MP(s:Stmt):Pos:=Jk s (fun _ _ _ _ p=>p) (fun _ _ _ _ p=>p) (fun _ _ p=>p) p0
noncomputable def posK(k:Nat):Pos:=match k with| 0=>p0|k+1=>match bd.drop k with| s::_=>MP s|[]=>p0
def iw(a b:Nat):Prop:=∀(w:World) (os:OsState),segRunT treeTable PySem.Challenge.pw_nz0546_01 w 11 (some (.ref 6)) 1 20000 (Sn w os a)
  (piecesOf ((bd.drop a).take (b-a)) yR FF (posK a) [topFrame p0])=some (.next,Sn w os b,FF,posK b)
theorem tH(n:Nat):∀l:List Obj,l.length<n->(∀i:Nat,(uS l)[i]? = l[2*i]?)/\2*(uS l).length<=l.length+1:=by
 induction n with
 |zero=>exact fun l h=>absurd h (Nat.not_lt_zero _)
 |succ n ih =>
  intro l h
  cases l with
  |nil=>exact⟨fun i=>rfl,Nat.zero_le _⟩
  |cons a l=>cases l with
   |nil=>exact⟨fun i=>by cases i<;>rfl,Nat.le_refl _⟩
   |cons b r =>
    have z:=ih r (Nat.lt_of_succ_lt (Nat.lt_of_succ_lt_succ h))
    exact⟨fun i=>by
     cases i with
     |zero=>rfl
     |succ i=>exact z.1 i,Nat.succ_le_succ (Nat.succ_le_succ z.2)⟩
theorem wX(l:List Obj):∀i:Nat,(uS l)[i]? = l[2*i]?:=(tH _ l (Nat.lt_succ_self _)).1
theorem wY(l:List Obj):2*(uS l).length<=l.length+1:=(tH _ l (Nat.lt_succ_self _)).2
theorem half_lt{o k p:Nat}(h:2*o<=k+1) (h2:k+1<p*2):o<p:=by omega
theorem Cz(j:Nat) (h:(j+1) % 2=1):2*((j+1) / 2)=j:=by omega
theorem AX(j:Nat) (h:¬(j+2) % 2=1):2*((j+2) / 2-1)=j:=by
 rw[Nat.add_div_right j (by decide),Nat.succ_sub_one]
 exact Nat.mul_div_cancel' (Nat.dvd_of_mod_eq_zero ((Nat.mod_two_eq_zero_or_one j).resolve_right fun q=>h ((Nat.add_mod_right j 2).trans q)))
theorem FG(n:Nat):∀(l:List Obj) (i:Nat),l.length<2 ^ n->(qy n l).get i=l[i]?:=by
 induction n with
 |zero =>
  intro l i h
  cases l with
  |nil=>rfl
  |cons=>exact absurd h (Nat.not_lt.mpr (Nat.succ_le_succ (Nat.zero_le _)))
 |succ n ih =>
  intro l i h
  cases l with
  |nil=>rfl
  |cons a r =>
   have hp:r.length+1<2 ^ n*2:=h
   show(BT.node a (qy n (uS r)) (qy n (uS r.tail))).get i=_
   rw[BT.get_node,ih _ _ (half_lt (wY r) hp),ih _ _ (half_lt (Nat.le_trans (wY r.tail) (Nat.succ_le_succ (List.length_tail▸Nat.sub_le ..))) hp),wX,wX]
   cases i with
   |zero=>rfl
   |succ j =>
    rw[if_neg (Nat.succ_ne_zero j)]
    by_cases q:(j+1) % 2=1
    ·rw[if_pos q,Cz j q];rfl
    ·rw[if_neg q]
     cases j with
     |zero=>exact absurd rfl q
     |succ j=>rw[AX j q];cases r<;>rfl
theorem tK{l:List Obj}{n:Nat}(hn:l.length=n) (h:n<2048) (life:Life):absHeap (qy 11 l) n life=⟨l.toArray,life⟩:=by
 unfold absHeap BT.list
 congr 2
 apply List.ext_getElem?
 intro i
 rw[List.getElem?_map]
 by_cases q:i<n
 ·rw[List.getElem?_range q,Option.map_some,FG 11 l i (by omega),List.getElem?_eq_getElem (by omega)];rfl
 ·rw[List.getElem?_eq_none (by rw[List.length_range];omega),List.getElem?_eq_none (by omega)];rfl
theorem Vj:iw 0 10:=fun w os=>by kernel_rfl
theorem Vk:iw 10 60:=fun w os=>by kernel_rfl
theorem Vl:iw 60 110:=fun w os=>by kernel_rfl
theorem Vm:iw 110 159:=fun w os=>by kernel_rfl
noncomputable def fO(w:World) (os:OsState):Shared:=⟨boot_heap w.params,Array.mk [],boot_drawn,boot_toks,os⟩
@[irreducible] noncomputable def hE (P:Params):Heap:=⟨(zO P 159).toArray,{ }⟩
noncomputable def j9(w:World) (os:OsState):Shared:=⟨hE w.params,#[],{ },1704,os⟩
theorem QM(w:World) (os:OsState):(Sn w os 0).abs=⟨⟨(zO w.params 0).toArray,{ }⟩,#[],{ },187,os⟩:=by
 unfold Sn SharedT.abs
 rw[tK (n:=(FE 0).1) (by kernel_rfl) (by decide)];rfl
theorem QN(w:World) (os:OsState):(Sn w os 159).abs=j9 w os:=by
 unfold Sn SharedT.abs
 rw[tK (n:=(FE 159).1) (by kernel_rfl) (by decide)];unfold j9 hE;rfl
theorem QO(w:World) (os:OsState):topGo treeTable PySem.Challenge.pw_nz0546_01 w 11 (some (.ref 6)) 12 (fO w os) (topStub PySem.Challenge.pw_nz0546_01)=some (⟨⟨(zO w.params 0).toArray,{ }⟩,#[],{ },187,os⟩,⟨denote treeTable (.body bd yR),FF,p0,[topFrame p0]⟩):=by kernel_rfl
theorem QS(w:World) (os:OsState):segRunT treeTable PySem.Challenge.pw_nz0546_01 w 11 (some (.ref 6)) 1 10 (Sn w os 0) (blockOf bd yR FF p0 [topFrame p0])=some (.next,Sn w os 0,FF,posK 0):=by kernel_rfl
theorem QT(w:World) (os:OsState):qe treeTable PySem.Challenge.pw_nz0546_01 w 11 (some (.ref 6)) 5 (Sn w os 159) ⟨doneF .next,FF,posK 159,[topFrame p0]⟩=some (Sn w os 159):=by kernel_rfl
theorem zP{a b N:Nat}{w:World}{os:OsState}{r:Shared}(h:iw a b) (wQ:a<=b) (k:topRun treeTable PySem.Challenge.pw_nz0546_01 w 11 (some (.ref 6)) N (Sn w os b).abs (restOf (bd.drop b) yR FF (posK b) [topFrame p0])=some r) :
  topRun treeTable PySem.Challenge.pw_nz0546_01 w 11 (some (.ref 6)) (20000+N) (Sn w os a).abs (restOf (bd.drop a) yR FF (posK a) [topFrame p0])=some r:=by
 have e:bd.drop a=(bd.drop a).take (b-a)++bd.drop b:=by
  have h1:=(List.take_append_drop (b-a) (bd.drop a)).symm
  rwa [List.drop_drop,show a+(b-a)=b by omega] at h1
 rw[e]
 exact piece_app (segRun_of (h w os)) k
theorem Jo(p1:iw 0 10) (p2:iw 10 60) (p3:iw 60 110) (p4:iw 110 159) (w:World) (os:OsState) :
  topRun treeTable PySem.Challenge.pw_nz0546_01 w 11 (some (.ref 6)) 200000 (fO w os) (topStub PySem.Challenge.pw_nz0546_01)=some (j9 w os):=by
 have z:bd.drop 159=[]:=List.drop_eq_nil_of_le (by decide +kernel)
 have k7:=wV _ _ _ _ (QT w os)
 have k8:topRun treeTable PySem.Challenge.pw_nz0546_01 w 11 (some (.ref 6)) 5 (Sn w os 159).abs (restOf (bd.drop 159) yR FF (posK 159) [topFrame p0])=some (Sn w os 159).abs:=by
  rw[z];exact piece_nil k7
 have k:=zP p1 (by omega) (zP p2 (by omega) (zP p3 (by omega) (zP p4 (by omega) k8)))
 have k9:=piece_block (segRun_of (QS w os)) k
 rw[QN,QM] at k9
 have Vn:=go_top (QO w os) k9
 exact topRun_mono 119973 _ _ _ _ Vn
noncomputable def MQ:Program:={ PySem.Challenge.pw_nz0546_01 with main:={ PySem.Challenge.pw_nz0546_01.main with body:=bd.drop 158 } }
noncomputable def uT:List Str:=(PySem.Challenge.pw_nz0546_01.boundNames).filter fun k=>!(k==Str.ofString "law")
theorem Vo(w:World):(fencedOpening treeTable PySem.Challenge.pw_nz0546_01 w 200000).map (fun s=>(s.heap,s.gens,s.drawn,s.toks))=some (boot_heap w.params,Array.mk [],boot_drawn,boot_toks) :=
 boot_open (by kernel_rfl) (by rfl) (fun s=>rfl) w
theorem QU(w:World) (os:OsState):(staticsOk (importedModules PySem.Challenge.pw_nz0546_01.main.body) (fO w os).heap (j9 w os).heap&&namesBound PySem.Challenge.pw_nz0546_01 (j9 w os).heap&&gensDone (j9 w os)&&laidKept (fO w os).heap (j9 w os).heap)=true:=by kernel_rfl
theorem Vp(w:World) (os:OsState):((fO w os).heap.isNs mainGlobals&&(fO w os).gens.size==0)=true:=by kernel_rfl
theorem st1(w:World) (os:OsState):(fO w os).heap.objs.size=11:=by kernel_rfl
theorem st2(w:World) (os:OsState):(fO w os).heap.nsMap mainGlobals "__annotations__" = some (.ref 6):=by kernel_rfl
theorem MR(w:World) (os:OsState):openSeen MQ uT (importedModules PySem.Challenge.pw_nz0546_01.main.body) (fun _=>true) true (j9 w os)=openGood MQ uT:=by kernel_rfl
end Mine
namespace Mine
open PySem
abbrev Tx:=List Nat
noncomputable def tx(s:Tx):Str:=⟨s.toArray⟩
inductive gZ|null|missing|aQ|symbol|call|aJ
@[reducible] noncomputable def gZ.CA:gZ->Bool
 |.aQ=>true
 |.aJ=>true
 |_=>false
set_option genCtorIdx false in
inductive PV
 |none
 |bool (b:Bool)
 |int (i:Int)
 |str (s:Tx)
 |tup (l:List PV)
 |lst (l:List PV)
 |aK (l:List (Tx×PV))
 |eT (l:List (Int×PV))
 |inst (c:gZ) (fs:List (Tx×PV))
noncomputable def PV.ctorIdx(t:PV):Nat:=PV.casesOn (motive_1:=fun _=>Nat) t 0 (fun _=>1) (fun _=>2) (fun _=>3) (fun _=>4) (fun _=>5) (fun _=>6) (fun _=>7) (fun _ _=>8)
set_option genCtorIdx false in
inductive AV
 |t (d:PV)
 |r (i:Nat)
noncomputable def AV.ctorIdx(t:AV):Nat:=AV.casesOn (motive:=fun _=>Nat) t (fun _=>0) (fun _=>1)
set_option genCtorIdx false in
inductive Node
 |fz (d:PV)
 |lst (l:List PV)
 |aK (l:List (Tx×PV))
 |eT (l:List (Int×PV))
 |inst (c:gZ) (fs:List (Tx×AV))
noncomputable def Node.ctorIdx(t:Node):Nat:=Node.casesOn (motive:=fun _=>Nat) t (fun _=>0) (fun _=>1) (fun _=>2) (fun _=>3) (fun _ _=>4)
noncomputable def lim:Nat:=4096
inductive yS|add|sub|mul|fdiv|mod
inductive Cm|eq|ne|lt|le|gt|ge|is|ee|oj|sL
inductive Bi|len|max2|qz|abs|chr|list|dX|dict|l9|isStr
inductive Mt|append|extend|pop|reverse|index|w6|qA
set_option genCtorIdx false in
inductive E
 |none
 |bool (b:Bool)
 |int (i:Int)
 |str (s:Tx)
 |var (i:Nat)
 |glob (i:Int) (x:Tx)
 |attr (e:E) (f:Tx)
 |bin (o:yS) (a b:E)
 |neg (a:E)
 |not (a:E)
 |cmp (o:Cm) (a b:E)
 |and (l:List E)
 |or (l:List E)
 |ite (c a b:E)
 |list (l:List E)
 |tup (l:List E)
 |dm (ks:List Tx) (vs:List E)
 |CB
 |sub (a i:E)
 |slice (a:E) (lo hi:Option E)
 |call (f:Nat) (l:List E)
 |new (c:gZ) (f:Nat) (l:List E)
 |copy (f:Nat) (a:E)
 |bi (b:Bi) (l:List E)
 |b4 (m:Mt) (a:E) (l:List E)
 |comp (x:Nat) (src:E) (cond:Option E) (elt:E)
 |cM (x:Nat) (src:List E) (cond:Option E) (elt:E)
 |o8 (x:Nat) (src key val:E)
 |CC (pre:Tx) (e:E) (post:Tx)
 |kept (e:E)
 |pure (e:E)
noncomputable def E.ctorIdx(t:E):Nat:=E.casesOn (motive_1:=fun _=>Nat) t 0 (fun _=>1) (fun _=>2) (fun _=>3) (fun _=>4) (fun _ _=>5) (fun _ _=>6) (fun _ _ _=>7) (fun _=>8) (fun _=>9) (fun _ _ _=>10) (fun _=>11) (fun _=>12) (fun _ _ _=>13) (fun _=>14) (fun _=>15) (fun _ _=>16) 17 (fun _ _=>18) (fun _ _ _=>19) (fun _ _=>20) (fun _ _ _=>21) (fun _ _=>22) (fun _ _=>23) (fun _ _ _=>24) (fun _ _ _ _=>25) (fun _ _ _ _=>26) (fun _ _ _ _=>27) (fun _ _ _=>28) (fun _=>29) (fun _=>30)
set_option genCtorIdx false in
inductive S
 |assign (x:Nat) (e:E)
 |qf (x y:Nat) (e:E)
 |setattr (o:E) (f:Tx) (e:E)
 |dN (o i e:E)
 |qg (o i:E)
 |expr (e:E)
 |ifs (c:E) (a b:List S)
 |gk (x:Nat) (src:E) (body:List S)
 |forR (x:Nat) (src:List E) (body:List S)
 |ret (e:E)
 |FH
 |raise (e:E)
 |cont
 |bad
 |cut (n:Nat) (s:S)
noncomputable def S.ctorIdx(t:S):Nat:=S.casesOn (motive_1:=fun _=>Nat) t (fun _ _=>0) (fun _ _ _=>1) (fun _ _ _=>2) (fun _ _ _=>3) (fun _ _=>4) (fun _=>5) (fun _ _ _=>6) (fun _ _ _=>7) (fun _ _ _=>8) (fun _=>9) 10 (fun _=>11) 12 13 (fun _ _=>14)
abbrev aB:=List Node
abbrev Gm:=List (Option AV)
abbrev R(α:Type):=Option (Except (Tx×aB) (α×aB))
@[reducible] noncomputable def ok {α:Type}(a:α) (st:aB):R α:=some (.ok (a,st))
noncomputable def R.bind{α β:Type}:R α->(α->aB->R β)->R β
 |some (.ok (a,st)),f=>f a st
 |some (.error m),_=>some (.error m)
 |Option.none,_=>Option.none
noncomputable def gZ.n:gZ->Nat|.null=>0|.missing=>1|.aQ=>2|.symbol=>3|.call=>4|.aJ=>5
mutual
noncomputable def i6:Nat->aB->AV->Option (PV×aB)
 |_,st,.t d=>some (d,st)
 |0,_,.r _=>Option.none
 |n+1,st,.r i=>match st[i]? with
  |some (.fz d)=>some (d,st)
  |some (.lst l)=>some (.lst l,st.set i (.fz (.lst l)))
  |some (.aK l)=>some (.aK l,st.set i (.fz (.aK l)))
  |some (.eT l)=>some (.eT l,st.set i (.fz (.eT l)))
  |some (.inst c fs)=>match pZ n st fs with
   |some (ds,st')=>match st'[i]? with
    |some (.inst c' fs')=>if c'.n=c.n/\fs'.map (·.1)=fs.map (·.1) then some (.inst c ds,st'.set i (.fz (.inst c ds))) else Option.none
    |_=>Option.none
   |Option.none=>Option.none
  |Option.none=>Option.none
noncomputable def pZ:Nat->aB->List (Tx×AV)->Option (List (Tx×PV)×aB)
 |_,st,[]=>some ([],st)
 |0,_,_::_=>Option.none
 |n+1,st,(f,a)::r=>match i6 n st a with
  |some (d,st')=>match pZ n st' r with
   |some (ds,dO)=>some ((f,d)::ds,dO)
   |Option.none=>Option.none
  |Option.none=>Option.none
end
noncomputable def cR:Nat:=24
noncomputable def eU(st:aB) (a:AV):R PV:=match i6 cR st a with
 |some (d,st')=>ok d st'
 |Option.none=>Option.none
noncomputable def fy:aB->List AV->R (List PV)
 |st,[]=>ok [] st
 |st,a::r=>(eU st a).bind fun d st=>(fy st r).bind fun ds st=>ok (d::ds) st
noncomputable def Jp:Option Node->Option PV
 |some (.fz d)=>some d
 |some (.lst l)=>some (.lst l)
 |some (.aK l)=>some (.aK l)
 |some (.eT l)=>some (.eT l)
 |_=>Option.none
noncomputable def vw(st:aB):AV->Option PV
 |.t d=>some d
 |.r i=>Jp st[i]?
noncomputable def cj{α:Type}(k:Tx):List (Tx×α)->Option α
 |[]=>Option.none
 |p::r=>if p.1=k then some p.2 else cj k r
noncomputable def gK{α:Type}(k:Int):List (Int×α)->Option α
 |[]=>Option.none
 |p::r=>if p.1=k then some p.2 else gK k r
noncomputable def putK{α:Type}(k:Tx) (v:α) (l:List (Tx×α)):List (Tx×α):=if l.any (fun p=>decide (p.1=k)) then l.map (fun p=>if p.1=k then(p.1,v) else p) else l++[(k,v)]
noncomputable def w7{α:Type}(k:Int) (v:α) (l:List (Int×α)):List (Int×α):=if l.any (fun p=>decide (p.1=k)) then l.map (fun p=>if p.1=k then(p.1,v) else p) else l++[(k,v)]
noncomputable def FI{α:Type}(k:Tx) (l:List (Tx×α)):List (Tx×α):=l.filter fun p=>decide (p.1≠k)
noncomputable def truth:PV->Option Bool
 |.none=>some false
 |.bool b=>some b
 |_=>Option.none
noncomputable def isNone:PV->Bool
 |.none=>true
 |_=>false
noncomputable def fN:PV->Bool
 |.none=>true
 |.int _=>true
 |.str _=>true
 |_=>false
noncomputable def i7:PV->PV->Bool
 |.none,e=>isNone e
 |.int i,e=>(match e with| .int j=>decide (i=j)|_=>false)
 |.str s,e=>(match e with| .str t=>decide (s=t)|_=>false)
 |_,_=>false
noncomputable def mZ:Nat->PV->Bool
 |0,d=>fN d
 |n+1,d=>match d with
  |.tup l=>l.all (mZ n)
  |.lst l=>l.all (mZ n)
  |.aK l=>l.isEmpty
  |d=>fN d
noncomputable def MS:PV->Bool
 |.aK l=>l.all fun p=>mZ 8 p.2
 |_=>false
noncomputable def Cp(d:PV):Bool:=mZ 8 d||MS d
noncomputable def CD:PV->Bool
 |.tup l=>l.all Cp
 |_=>false
open Classical in
noncomputable def qB(d e:PV):Option Bool:=if d=e/\CD d=true then some true else Option.none
noncomputable def tL(a b:Nat) (d e:PV):Option Bool:=if a=b then(if a=0 then some true else qB d e) else some false
noncomputable def eqT(d e:PV):Option Bool:=if fN d&&fN e then some (i7 d e) else match d with
 |.lst l=>(match e with| .lst k=>tL l.length k.length d e|_=>qB d e)
 |.aK l=>(match e with| .aK k=>tL l.length k.length d e|_=>qB d e)
 |_=>qB d e
noncomputable def arith:yS->Int->Int->Option Int
 |.add,a,b=>some (a+b)
 |.sub,a,b=>some (a-b)
 |.mul,_,_=>Option.none
 |.fdiv,a,b=>if b=0\/b.natAbs ≥ 1048576 then Option.none else some (Int.fdiv a b)
 |.mod,a,b=>if b=0 then Option.none else some (Int.fmod a b)
noncomputable def AY:Cm->Int->Int->Bool
 |.lt,a,b=>decide (a<b)
 |.le,a,b=>decide (a<=b)
 |.gt,a,b=>decide (b<a)
 |.ge,a,b=>decide (b<=a)
 |_,_,_=>false
noncomputable def Fo(d:PV) (l:List PV):Option Bool:=if fN d&&l.all fN then some (l.any fun e=>i7 e d) else Option.none
noncomputable def isIn(d:PV):PV->Option Bool
 |.lst l=>Fo d l
 |.tup l=>Fo d l
 |.aK l=>(match d with| .str k=>some (cj k l).isSome|_=>Option.none)
 |.eT l=>(match d with| .int k=>some (gK k l).isSome|_=>Option.none)
 |_=>Option.none
noncomputable def MT(o:Cm) (d e:PV):Option Bool:=match d with
 |.int a=>(match e with| .int b=>some (AY o a b)|_=>Option.none)
 |_=>Option.none
noncomputable def qC(o:Cm) (d e:PV):Option Bool:=match o with
 |.eq=>eqT d e
 |.ne=>(eqT d e).map (!·)
 |.is=>if isNone e then some (isNone d) else Option.none
 |.ee=>if isNone e then some (!isNone d) else Option.none
 |.oj=>isIn d e
 |.sL=>(isIn d e).map (!·)
 |o=>MT o d e
noncomputable def alloc(st:aB) (nd:Node):R AV:=ok (.r st.length) (st++[nd])
noncomputable def sQ(o:Option PV) (st:aB):R AV:=match o with| some r=>ok (.t r) st|Option.none=>Option.none
noncomputable def m6(o:Option Int) (st:aB):R AV:=match o with| some r=>ok (.t (.int r)) st|Option.none=>Option.none
noncomputable def jF(o:Option Bool) (st:aB):R AV:=match o with| some r=>ok (.t (.bool r)) st|Option.none=>Option.none
noncomputable def isAdd:yS->Bool|.add=>true|_=>false
noncomputable def isMul:yS->Bool|.mul=>true|_=>false
noncomputable def rep1(l:List PV) (n:Int) (st:aB):R AV:=match l with
 |[d]=>if -2000<=n/\n<=2000 then alloc st (.lst (List.replicate n.toNat d)) else Option.none
 |_=>Option.none
noncomputable def Jq(a b:List PV) (st:aB):R AV:=if a.length+b.length<=lim then alloc st (.lst (a++b)) else Option.none
noncomputable def Jr(o:yS) (st:aB) (d e:PV):R AV:=match d with
 |.int a=>(match e with| .int b=>m6 (arith o a b) st|_=>Option.none)
 |.lst a=>(match e with
  |.lst b=>if isAdd o then Jq a b st else Option.none
  |.int n=>if isMul o then rep1 a n st else Option.none
  |_=>Option.none)
 |_=>Option.none
noncomputable def Mf:Option Int->Nat
 |some i=>i.toNat
 |Option.none=>0
noncomputable def MU(n:Nat):Option Int->Nat
 |some i=>i.toNat
 |Option.none=>n
noncomputable def cut(l:List PV) (lo hi:Option Int):List PV:=(l.take (MU l.length hi)).drop (Mf lo)
noncomputable def w9(l:List PV) (i:PV):Option PV:=match i with| .int k=>if 0<=k then l[k.toNat]? else Option.none|_=>Option.none
noncomputable def item(d:PV) (i:PV):Option PV:=match d with
 |.lst l=>w9 l i
 |.tup l=>w9 l i
 |.aK l=>(match i with| .str k=>cj k l|_=>Option.none)
 |_=>Option.none
noncomputable def AZ:PV->Option Int
 |.lst l=>some l.length
 |.tup l=>some l.length
 |.aK l=>some l.length
 |.eT l=>some l.length
 |_=>Option.none
noncomputable def cH(a b:Int):List PV:=(List.range (b-a).toNat).map fun(k:Nat)=>PV.int (a+(k:Int))
noncomputable def intsOf:List PV->Option (List Int)
 |[]=>some []
 |.int i::r=>(intsOf r).map (i::·)
 |_=>Option.none
noncomputable def maxOf:List Int->Option Int
 |[]=>Option.none
 |a::r=>some (r.foldl max a)
noncomputable def idxOf(d:PV):List PV->Nat->Option Nat
 |[],_=>Option.none
 |e::r,n=>if i7 e d then some n else idxOf d r (n+1)
noncomputable def Mg(b:Bi) (st:aB) (x:PV):R AV:=match b with
 |.len=>m6 (AZ x) st
 |.qz=>(match x with| .lst l=>m6 ((intsOf l).bind maxOf) st|_=>Option.none)
 |.abs=>(match x with| .int i=>ok (.t (.int i.natAbs)) st|_=>Option.none)
 |.chr=>(match x with| .int i=>if 0<=i/\i<128 then ok (.t (.str [i.toNat])) st else Option.none|_=>Option.none)
 |.list=>(match x with| .lst l=>alloc st (.lst l)|_=>Option.none)
 |.dict=>(match x with| .aK l=>alloc st (.aK l)|_=>Option.none)
 |_=>Option.none
noncomputable def Im(st:aB) (x y:PV):R AV:=match x with
 |.int a=>(match y with| .int b=>ok (.t (.int (max a b))) st|_=>Option.none)
 |_=>Option.none
noncomputable def xd(b:Bi) (st:aB):List PV->R AV
 |[x]=>Mg b st x
 |[x,y]=>(match b with| .max2=>Im st x y|_=>Option.none)
 |_=>Option.none
noncomputable def yT:Option Node->Option Bool
 |some (.inst c _)=>some c.CA
 |some (.fz (.inst c _))=>some c.CA
 |_=>Option.none
noncomputable def yU:PV->Option Bool
 |.inst c _=>some c.CA
 |.none=>some false
 |.str _=>some false
 |_=>Option.none
noncomputable def ou(st:aB):AV->Option Bool
 |.t d=>yU d
 |.r i=>yT st[i]?
noncomputable def A0(o:Option AV) (st:aB):R AV:=match o with| some r=>ok r st|Option.none=>Option.none
noncomputable def MV(f:Tx):Option Node->Option AV
 |some (.inst _ fs)=>cj f fs
 |some (.fz (.inst _ fs))=>(cj f fs).map AV.t
 |_=>Option.none
noncomputable def MW(f:Tx):PV->Option AV
 |.inst _ fs=>(cj f fs).map AV.t
 |_=>Option.none
noncomputable def uU(st:aB) (a:AV) (f:Tx):R AV:=match a with
 |.t d=>A0 (MW f d) st
 |.r i=>A0 (MV f st[i]?) st
inductive MK|list|tup|dict
noncomputable def T9:Mt->Option MK|.w6=>Option.none|.qA=>Option.none|_=>some .list
noncomputable def Vq:Mt->Option MK|.index=>some .tup|_=>Option.none
noncomputable def Vr:Mt->Option MK|.w6=>some .dict|.qA=>some .dict|_=>Option.none
noncomputable def mK(m:Mt):Option PV->Option MK
 |some (.lst _)=>T9 m
 |some (.tup _)=>Vq m
 |some (.aK _)=>Vr m
 |_=>Option.none
noncomputable def xe(m:Mt) (st:aB) (a:AV):Option MK:=mK m (vw st a)
noncomputable def sN:PV->Bool
 |.str _=>true
 |.none=>true
 |_=>false
noncomputable def m7(l:List PV):Bool:=l.all sN
noncomputable def Mh{α:Type}(a:AV) (f:Nat->Option α):Option α:=match a with| .r i=>f i|_=>Option.none
noncomputable def FL(o:Option Node) (st:aB) (i:Nat) (d:PV):R AV:=match o with
 |some (.lst xs)=>if xs.length<2000 then ok (.t .none) (st.set i (.lst (xs++[d]))) else Option.none
 |_=>Option.none
noncomputable def MX(o:Option Node) (st:aB) (i:Nat) (d:PV):R AV:=match o with
 |some (.lst xs)=>(match d with| .lst ys=>if xs.length+ys.length<2000 then ok (.t .none) (st.set i (.lst (xs++ys))) else Option.none|_=>Option.none)
 |_=>Option.none
noncomputable def MY(o:Option Node) (st:aB) (i:Nat):R AV:=match o with
 |some (.lst xs)=>sQ xs.getLast? (st.set i (.lst xs.dropLast))
 |_=>Option.none
noncomputable def MZ(o:Option Node) (st:aB) (i:Nat):R AV:=match o with
 |some (.lst xs)=>ok (.t .none) (st.set i (.lst xs.reverse))
 |_=>Option.none
noncomputable def FN(d:PV) (xs:List PV) (st:aB):R AV:=match d with
 |.str _=>if m7 xs then m6 ((idxOf d xs 0).map fun n=>(n:Int)) st else Option.none
 |_=>Option.none
noncomputable def M0(k:MK) (o:Option PV) (d:PV) (st:aB):R AV:=match o with
 |some (.lst xs)=>(match k with| .list=>FN d xs st|_=>Option.none)
 |some (.tup xs)=>(match k with| .tup=>FN d xs st|_=>Option.none)
 |_=>Option.none
noncomputable def CG(o:Option PV) (k e:PV) (st:aB):R AV:=match o with
 |some (.aK xs)=>(match k with| .str x=>ok (.t ((cj x xs).getD e)) st|_=>Option.none)
 |_=>Option.none
noncomputable def mh(m:Mt) (k:MK) (st:aB) (a:AV):List PV->R AV
 |[]=>(match m with
  |.pop=>Mh a fun i=>MY st[i]? st i
  |.reverse=>Mh a fun i=>MZ st[i]? st i
  |_=>Option.none)
 |[d]=>(match m with
  |.append=>Mh a fun i=>FL st[i]? st i d
  |.extend=>Mh a fun i=>MX st[i]? st i d
  |.index=>M0 k (vw st a) d st
  |.w6=>CG (vw st a) d .none st
  |_=>Option.none)
 |[d,e]=>(match m with| .qA=>CG (vw st a) d e st|_=>Option.none)
 |_=>Option.none
noncomputable def mj:PV->Option (List PV)
 |.lst l=>some l
 |.tup l=>some l
 |.aK l=>if l.all (fun p=>decide (p.1.length<=4096)&&p.1.all (· < 0x110000)) then some (l.map fun p=>.str p.1) else Option.none
 |_=>Option.none
noncomputable def under(n:Nat):AV->Bool
 |.r i=>decide (i<n)
 |_=>true
noncomputable def dM(n:Nat):Node->Bool
 |.inst _ fs=>fs.all fun p=>under n p.2
 |_=>true
noncomputable def back(n:Nat) (st:aB):Option aB:=if(st.take n).all (dM n) then some (st.take n) else Option.none
noncomputable def dc(n:Nat):Gm->aB->Option (Gm×aB)
 |[],st=>some ([],st)
 |some (.r i)::g,st=>if i<n then(dc n g st).map fun q=>(some (.r i)::q.1,q.2) else match i6 cR st (.r i) with
  |some (d,st')=>(dc n g st').map fun q=>(some (.t d)::q.1,q.2)
  |Option.none=>Option.none
 |x::g,st=>(dc n g st).map fun q=>(x::q.1,q.2)
noncomputable def kc(n m:Nat) (g:Gm) (st:aB):Option (Gm×aB):=match dc n g st with
 |some (g',st')=>match back m st' with
  |some dO=>some (g',dO)
  |Option.none=>Option.none
 |Option.none=>Option.none
noncomputable def settle(n:Nat) (g:Gm) (st:aB):Option (Gm×aB):=kc n n g st
noncomputable def cT(st:aB) (a:AV):Option Bool:=(vw st a).bind truth
abbrev fj:=Nat->List AV->aB->R AV
noncomputable def uV(st:aB):List AV->R (List PV)
 |[]=>ok [] st
 |a::r=>match vw st a with
  |some d=>(uV st r).bind fun ds st=>ok (d::ds) st
  |Option.none=>Option.none
noncomputable def A1:AV->Option Int
 |.t (.int b)=>some b
 |_=>Option.none
noncomputable def M4(a b:Int):Option (List PV):=if(-2000<=a/\a<=2000)/\-2000<=b/\b<=2000 then some (cH a b) else Option.none
noncomputable def sM:List AV->Option (List PV)
 |[x]=>(A1 x).bind fun b=>if -2000<=b/\b<=2000 then some (cH 0 b) else Option.none
 |[x,y]=>(A1 x).bind fun a=>(A1 y).bind fun b=>M4 a b
 |_=>Option.none
noncomputable def M5(d:PV):Option (Tx×PV):=match d with
 |.tup [.str k,v]=>some (k,v)
 |_=>Option.none
noncomputable def FP:List PV->Option (List (Tx×PV))
 |[]=>some []
 |d::r=>match M5 d with
  |some p=>(FP r).map (p::·)
  |Option.none=>Option.none
noncomputable def turns(f:PV->aB->R (Option PV)):List PV->aB->R (List PV)
 |[],st=>ok [] st
 |d::ds,st=>match f d st with
  |some (.ok (o,st'))=>match back st.length st' with
   |some dO=>(turns f ds dO).bind fun l M6=>ok (match o with| some e=>e::l|Option.none=>l) M6
   |Option.none=>Option.none
  |_=>Option.none
noncomputable def gm{α:Type}(b:Option Bool) (x y:Option α):Option α:=match b with
 |some true=>x
 |some false=>y
 |Option.none=>Option.none
noncomputable def oB{α β:Type}(o:Option α) (f:α->Option β):Option β:=match o with| some a=>f a|Option.none=>Option.none
abbrev Kv:=Gm->aB->R AV
noncomputable def A3(o:Option (Option AV)) (st:aB):R AV:=match o with| some (some a)=>ok a st|_=>Option.none
noncomputable def yV(o:yS) (st:aB) (d e:Option PV):R AV:=oB d fun d=>oB e fun e=>Jr o st d e
noncomputable def gh(o:Cm) (st:aB) (d e:Option PV):R AV:=oB d fun d=>oB e fun e=>jF (qC o d e) st
noncomputable def sR(st:aB) (d e:Option PV):R AV:=oB d fun d=>oB e fun e=>sQ (item d e) st
noncomputable def Js(a:AV) (st:aB):R AV:=match a with| .t (.int i)=>ok (.t (.int (-i))) st|_=>Option.none
noncomputable def FQ(b:Option Bool) (st:aB):R AV:=match b with| some b=>ok (.t (.bool (!b))) st|Option.none=>Option.none
noncomputable def k1{β:Type}(P:aB->AV->R β) (k:Kv) (g:Gm) (st:aB):R β:=(k g st).bind fun a st=>P st a
noncomputable def k2{β:Type}(P:aB->AV->AV->R β) (k k':Kv) (g:Gm) (st:aB):R β:=(k g st).bind fun a st=>(k' g st).bind fun b st=>P st a b
noncomputable def kN{β:Type}(P:aB->List AV->R β) (k:Gm->aB->R (List AV)) (g:Gm) (st:aB):R β:=(k g st).bind fun as st=>P st as
noncomputable def CH(f:Tx) (st:aB) (a:AV):R AV:=uU st a f
noncomputable def M7(o:yS) (st:aB) (a b:AV):R AV:=yV o st (vw st a) (vw st b)
noncomputable def M8(o:Cm) (st:aB) (a b:AV):R AV:=gh o st (vw st a) (vw st b)
noncomputable def M9(st:aB) (a b:AV):R AV:=sR st (vw st a) (vw st b)
noncomputable def Jt(st:aB) (a:AV):R AV:=Js a st
noncomputable def A4(st:aB) (a:AV):R AV:=FQ (cT st a) st
noncomputable def CI(st:aB) (as:List AV):R AV:=(fy st as).bind fun ds st=>alloc st (.lst ds)
noncomputable def Ju(st:aB) (as:List AV):R AV:=(fy st as).bind fun ds st=>ok (.t (.tup ds)) st
noncomputable def CK(ks:List Tx) (st:aB) (as:List AV):R AV:=(fy st as).bind fun ds st=>if ks.length=ds.length then alloc st (.aK (ks.zip ds)) else Option.none
noncomputable def Io(C:fj) (f:Nat) (st:aB) (as:List AV):R AV:=C f as st
noncomputable def Na(i:Nat) (a:AV) (st:aB):R AV:=match a with
 |.t .none=>ok (.r i) st
 |_=>Option.none
noncomputable def A5(C:fj) (c:gZ) (f:Nat) (st:aB) (as:List AV):R AV:=(C f (.r st.length::as) (st++[.inst c []])).bind fun a st'=>Na st.length a st'
noncomputable def xg(C:fj) (f:Nat) (st:aB) (a:AV):R AV:=match ou st a with
 |some true=>C f [a] st
 |_=>Option.none
noncomputable def Jv:PV->Option Bool
 |.str _=>some true
 |.none=>some false
 |.inst _ _=>some false
 |.tup _=>some false
 |_=>Option.none
noncomputable def Nb:AV->Option Bool
 |.t d=>Jv d
 |_=>Option.none
noncomputable def Ua(n:Int) (st:aB):R AV:=if -2000<=n/\n<=2000 then alloc st (.lst (cH 0 n)) else Option.none
noncomputable def one{β:Type}(as:List AV) (P:AV->Option β):Option β:=match as with| [a]=>P a|_=>Option.none
noncomputable def FT(b:Bi) (st:aB) (as:List AV):R AV:=match b with
 |.l9=>one as fun a=>jF (ou st a) st
 |.isStr=>one as fun a=>jF (Nb a) st
 |.dX=>one as fun a=>oB (A1 a) fun n=>Ua n st
 |b=>(uV st as).bind fun ds st=>xd b st ds
noncomputable def uW(o:Option MK) (m:Mt) (a:AV) (ks:Gm->aB->R (List AV)) (g:Gm) (st:aB):R AV:=oB o fun k=>(ks g st).bind fun as st=>(fy st as).bind fun ds st=>mh m k st a ds
noncomputable def Ip(m:Mt) (k:Kv) (ks:Gm->aB->R (List AV)) (g:Gm) (st:aB):R AV:=(k g st).bind fun a st=>uW (xe m st a) m a ks g st
noncomputable def FU(k x y:Kv) (g:Gm) (st:aB):R AV:=(k g st).bind fun a st=>gm (cT st a) (x g st) (y g st)
noncomputable def FW(k x:Kv) (g:Gm) (st:aB):R AV:=(k g st).bind fun a st=>gm (cT st a) (x g st) (ok a st)
noncomputable def Qe(k x:Kv) (g:Gm) (st:aB):R AV:=(k g st).bind fun a st=>gm (cT st a) (ok a st) (x g st)
noncomputable def Ub(a:AV) (st:aB):R (Option Int):=match a with| .t (.int i)=>if 0<=i then ok (some i) st else Option.none|_=>Option.none
noncomputable def Iq(st:aB) (a:AV):R (Option Int):=Ub a st
noncomputable def Uc(o:Option PV) (p q:Option Int) (st:aB):R AV:=match o with
 |some (.lst l)=>alloc st (.lst (cut l p q))
 |_=>Option.none
noncomputable def CL(k:Kv) (k1 k2:Gm->aB->R (Option Int)) (g:Gm) (st:aB):R AV:=(k g st).bind fun a st=>(k1 g st).bind fun p st=>(k2 g st).bind fun q st=>Uc (vw st a) p q st
noncomputable def eV(st:aB) (a:AV):R Bool:=oB (cT st a) fun r=>ok r st
noncomputable def m8(st:aB) (a:AV):R (List PV):=(eU st a).bind fun d st=>oB (mj d) fun l=>ok l st
noncomputable def qD(st:aB) (as:List AV):R (List PV):=oB (sM as) fun l=>ok l st
noncomputable def jq(x:Nat) (kt:Gm->aB->R Bool) (ke:Kv) (g:Gm) (d:PV) (st:aB):R (Option PV) :=
 (kt (g.set x (some (.t d))) st).bind fun b st=>if b then(ke (g.set x (some (.t d))) st).bind fun a st=>(eU st a).bind fun d st=>ok (some d) st else ok Option.none st
noncomputable def qE(src:Gm->aB->R (List PV)) (f:Gm->PV->aB->R (Option PV)) (g:Gm) (st:aB):R AV:=(src g st).bind fun items st=>(turns (f g) items st).bind fun l st=>alloc st (.lst l)
noncomputable def Jw(kk:AV) (vd:PV) (st:aB):R (Option PV):=match kk with
 |.t (.str kt)=>if kt=[115,104,97,114,101,100] then Option.none else ok (some (.tup [.str kt,vd])) st
 |_=>Option.none
noncomputable def ow(x:Nat) (kk kv:Kv) (g:Gm) (d:PV) (st:aB):R (Option PV) :=
 (kk (g.set x (some (.t d))) st).bind fun k st=>(kv (g.set x (some (.t d))) st).bind fun v st=>(eU st v).bind fun vd st=>Jw k vd st
noncomputable def FY(l:List PV) (st:aB):R AV:=oB (FP l) fun ps=>if(ps.map (·.1)).Nodup then alloc st (.aK ps) else Option.none
noncomputable def yW(src:Gm->aB->R (List PV)) (f:Gm->PV->aB->R (Option PV)) (g:Gm) (st:aB):R AV:=(src g st).bind fun items st=>(turns (f g) items st).bind fun l st=>FY l st
noncomputable def CM(p q:Tx) (st:aB) (a:AV):R AV:=match a with| .t (.str s)=>if s.length<=1000 then ok (.t (.str (p++s++q))) st else Option.none|_=>Option.none
noncomputable def zQ:R AV->R AV
 |some (.ok p)=>some (.ok p)
 |some (.error (m,st'))=>ok (.t (.str m)) st'
 |Option.none=>Option.none
noncomputable def qF(k:Kv) (ks:Gm->aB->R (List AV)) (g:Gm) (st:aB):R (List AV):=(k g st).bind fun a st=>(ks g st).bind fun as st=>ok (a::as) st
noncomputable def kg(n:Nat) (d:PV) (st:aB):R AV:=match back n st with
 |some st=>ok (.t d) st
 |Option.none=>Option.none
noncomputable def A6(own:Bool) (n:Nat) (a:AV) (st:aB):R AV:=match own with
 |true=>ok a st
 |false=>(eU st a).bind fun d st=>kg n d st
noncomputable def xh(k:Kv) (g:Gm) (st:aB):R AV:=(k g st).bind fun a st'=>A6 false st.length a st'
mutual
noncomputable def ev(C:fj):E->Kv
 |.none=>fun _ st=>ok (.t .none) st
 |.bool b=>fun _ st=>ok (.t (.bool b)) st
 |.int i=>fun _ st=>ok (.t (.int i)) st
 |.str s=>fun _ st=>ok (.t (.str s)) st
 |.var i=>fun g st=>A3 g[i]? st
 |.glob i _=>fun _ st=>ok (.t (.int i)) st
 |.attr e f=>k1 (CH f) (ev C e)
 |.bin o x y=>k2 (M7 o) (ev C x) (ev C y)
 |.neg x=>k1 Jt (ev C x)
 |.not x=>k1 A4 (ev C x)
 |.cmp o x y=>k2 (M8 o) (ev C x) (ev C y)
 |.and l=>m9 C l
 |.or l=>uX C l
 |.ite c x y=>FU (ev C c) (ev C x) (ev C y)
 |.list l=>kN CI (gg C l)
 |.tup l=>kN Ju (gg C l)
 |.dm ks l=>kN (CK ks) (gg C l)
 |.CB=>fun _ st=>alloc st (.eT [])
 |.sub x i=>k2 M9 (ev C x) (ev C i)
 |.slice x lo hi=>CL (ev C x) (Qf C lo) (Qf C hi)
 |.call f l=>kN (Io C f) (gg C l)
 |.new c f l=>kN (A5 C c f) (gg C l)
 |.copy f x=>k1 (xg C f) (ev C x)
 |.bi b l=>kN (FT b) (gg C l)
 |.b4 m x l=>Ip m (ev C x) (gg C l)
 |.comp x src c e=>qE (k1 m8 (ev C src)) (jq x (A7 C c) (ev C e))
 |.cM x src c e=>qE (kN qD (gg C src)) (jq x (A7 C c) (ev C e))
 |.o8 x src k v=>yW (k1 m8 (ev C src)) (ow x (ev C k) (ev C v))
 |.CC p x q=>k1 (CM p q) (ev C x)
 |.kept x=>fun g st=>zQ (ev C x g st)
 |.pure x=>xh (ev C x)
noncomputable def gg(C:fj):List E->Gm->aB->R (List AV)
 |[]=>fun _ st=>ok [] st
 |e::r=>qF (ev C e) (gg C r)
noncomputable def Qf(C:fj):Option E->Gm->aB->R (Option Int)
 |Option.none=>fun _ st=>ok Option.none st
 |some e=>k1 Iq (ev C e)
noncomputable def m9(C:fj):List E->Kv
 |[]=>fun _ _=>Option.none
 |e::r=>match r with
  |[]=>ev C e
  |_::_=>FW (ev C e) (m9 C r)
noncomputable def uX(C:fj):List E->Kv
 |[]=>fun _ _=>Option.none
 |e::r=>match r with
  |[]=>ev C e
  |_::_=>Qe (ev C e) (uX C r)
noncomputable def A7(C:fj):Option E->Gm->aB->R Bool
 |Option.none=>fun _ st=>ok true st
 |some c=>k1 eV (ev C c)
end
set_option genCtorIdx false in
inductive Out
 |next (g:Gm) (st:aB)
 |ret (a:AV) (st:aB)
 |cont (g:Gm) (st:aB)
 |exc (m:Tx) (st:aB)
noncomputable def Out.ctorIdx(t:Out):Nat:=Out.casesOn (motive:=fun _=>Nat) t (fun _ _=>0) (fun _ _=>1) (fun _ _=>2) (fun _ _=>3)
noncomputable def R.out{α:Type}:R α->(α->aB->Option Out)->Option Out
 |some (.ok (a,st)),f=>f a st
 |some (.error (m,st)),_=>some (.exc m st)
 |Option.none,_=>Option.none
noncomputable def b9:Tx:=[115,104,97,114,101,100]
noncomputable def Nc:PV->Bool
 |.inst .aQ _=>true
 |_=>false
noncomputable def Nd(st:aB) (i:Nat):Option Node->Option aB
 |some (.fz d)=>if Nc d then some st else Option.none
 |some (.inst .aQ _)=>some st
 |some (.inst .aJ fs)=>some (st.set i (.inst .aQ fs))
 |_=>Option.none
noncomputable def FZ(st:aB) (i:Nat) (f:Tx) (a:AV):Option Node->Option aB
 |some (.inst c fs)=>some (st.set i (.inst c (putK f a fs)))
 |_=>Option.none
noncomputable def xj(st:aB) (o:AV) (f:Tx) (a:AV):Option aB:=match o with
 |.t d=>if f=b9/\Nc d=true then some st else Option.none
 |.r i=>if f=b9 then Nd st i st[i]? else FZ st i f a st[i]?
noncomputable def Nf(st:aB) (i:Nat) (l:List PV) (k d:PV):Option aB:=match k with
 |.int n=>if 0<=n/\n<l.length then some (st.set i (.lst (l.set n.toNat d))) else Option.none
 |_=>Option.none
noncomputable def Ng(st:aB) (i:Nat) (l:List (Tx×PV)) (k d:PV):Option aB:=match k with
 |.str x=>if x≠b9/\l.length<2000 then some (st.set i (.aK (putK x d l))) else Option.none
 |_=>Option.none
noncomputable def Nh(st:aB) (i:Nat) (l:List (Int×PV)) (k d:PV):Option aB:=match k with
 |.int n=>if l.length<2000 then some (st.set i (.eT (w7 n d l))) else Option.none
 |_=>Option.none
noncomputable def xm(o:Option Node) (st:aB) (i:Nat) (k:PV) (d:PV):Option aB:=match o with
 |some (.lst l)=>Nf st i l k d
 |some (.aK l)=>Ng st i l k d
 |some (.eT l)=>Nh st i l k d
 |_=>Option.none
noncomputable def A8(st:aB) (o:AV) (k:PV) (d:PV):Option aB:=Mh o fun i=>xm st[i]? st i k d
noncomputable def QV(st:aB) (i:Nat) (l:List (Tx×PV)) (k:PV):Option aB:=match k with
 |.str x=>if(cj x l).isSome then some (st.set i (.aK (FI x l))) else Option.none
 |_=>Option.none
noncomputable def Ni(o:Option Node) (st:aB) (i:Nat) (k:PV):Option aB:=match o with
 |some (.aK l)=>QV st i l k
 |_=>Option.none
noncomputable def QW(st:aB) (o:AV) (k:PV):Option aB:=Mh o fun i=>Ni st[i]? st i k
noncomputable def loop(f:Gm->aB->Option Out) (x n:Nat):List PV->Gm->aB->Option (Gm×aB)
 |[],g,st=>some (g,st)
 |d::ds,g,st=>match f (g.set x (some (.t d))) st with
  |some (.next g' st')=>match settle n g' st' with
   |some (F0,dO)=>loop f x n ds F0 dO
   |Option.none=>Option.none
  |some (.cont g' st')=>match settle n g' st' with
   |some (F0,dO)=>loop f x n ds F0 dO
   |Option.none=>Option.none
  |_=>Option.none
noncomputable def CN:Option (Gm×aB)->Option Out
 |some (g,st)=>some (.next g st)
 |Option.none=>Option.none
abbrev Ks:=Gm->aB->Option Out
noncomputable def Jx(x y:Nat) (g:Gm) (st:aB):Option PV->Option Out
 |some (.tup [d,e])=>some (.next ((g.set x (some (.t d))).set y (some (.t e))) st)
 |_=>Option.none
noncomputable def o9(o:Option aB) (g:Gm):Option Out:=match o with
 |some st=>some (.next g st)
 |Option.none=>Option.none
noncomputable def uY(a:AV) (st:aB):Option Out:=match a with| .t (.str m)=>some (.exc m st)|_=>Option.none
noncomputable def iy(x:Nat) (k:Kv):Ks:=fun g st=>(k g st).out fun a st=>some (.next (g.set x (some a)) st)
noncomputable def xo(x y:Nat) (k:Kv):Ks:=fun g st=>(k g st).out fun a st=>Jx x y g st (vw st a)
noncomputable def xq(f:Tx) (ko ke:Kv):Ks:=fun g st=>(ke g st).out fun a st=>(ko g st).out fun b st=>o9 (xj st b f a) g
noncomputable def xr(ko ki ke:Kv):Ks:=fun g st=>(ke g st).out fun a st=>(ko g st).out fun b st=>(ki g st).out fun k st=>(eU st a).out fun d st=>oB (vw st k) fun kd=>o9 (A8 st b kd d) g
noncomputable def xu(ko ki:Kv):Ks:=fun g st=>(ko g st).out fun b st=>(ki g st).out fun k st=>oB (vw st k) fun kd=>o9 (QW st b kd) g
noncomputable def Ir(k:Kv):Ks:=fun g st=>(k g st).out fun _ st=>some (.next g st)
noncomputable def F1(k:Kv) (a b:Ks):Ks:=fun g st=>(k g st).out fun t st=>gm (cT st t) (a g st) (b g st)
noncomputable def kFor(x:Nat) (src:Gm->aB->R (List PV)) (f:Ks):Ks:=fun g st=>(src g st).out fun items st=>CN (loop f x st.length items g st)
noncomputable def Nj(k:Kv):Ks:=fun g st=>(k g st).out fun a st=>some (.ret a st)
noncomputable def CO(k:Kv):Ks:=fun g st=>(k g st).out fun a st=>uY a st
noncomputable def Jy(a b:Ks):Ks:=fun g st=>match a g st with
 |some (.next g' st')=>b g' st'
 |q=>q
noncomputable def qG(n:Nat) (a:Ks):Ks:=fun g st=>match a g st with
 |some (.next g' st')=>if n<=st.length then CN (kc n st.length g' st') else Option.none
 |q=>q
mutual
noncomputable def ex(C:fj):S->Ks
 |.assign x e=>iy x (ev C e)
 |.qf x y e=>xo x y (ev C e)
 |.setattr o f e=>xq f (ev C o) (ev C e)
 |.dN o i e=>xr (ev C o) (ev C i) (ev C e)
 |.qg o i=>xu (ev C o) (ev C i)
 |.expr e=>Ir (ev C e)
 |.ifs c a b=>F1 (ev C c) (bO C a) (bO C b)
 |.gk x src body=>kFor x (k1 m8 (ev C src)) (bO C body)
 |.forR x src body=>kFor x (kN qD (gg C src)) (bO C body)
 |.ret e=>Nj (ev C e)
 |.FH=>fun _ st=>some (.ret (.t .none) st)
 |.raise e=>CO (ev C e)
 |.cont=>fun g st=>some (.cont g st)
 |.bad=>fun _ _=>Option.none
 |.cut n s=>qG n (ex C s)
noncomputable def bO(C:fj):List S->Ks
 |[]=>fun g st=>some (.next g st)
 |s::r=>Jy (ex C s) (bO C r)
end
structure Fn where
 np:Nat
 df:List PV
 nl:Nat
 ref:Bool
 own:Bool
 body:List S
noncomputable def Fn.start(F:Fn) (as:List AV):Option Gm :=
 if as.length<=F.np/\F.np<=as.length+F.df.length then some ((as++(F.df.drop (as.length+F.df.length-F.np)).map AV.t).map some++List.replicate F.nl Option.none) else Option.none
noncomputable def CP(own:Bool) (n:Nat):Option Out->R AV
 |some (.ret a st)=>A6 own n a st
 |some (.next _ st)=>A6 own n (.t .none) st
 |some (.exc m st)=>some (.error (m,st))
 |_=>Option.none
noncomputable def Jz(st:aB):Option (PV×aB)->R AV
 |some (d,_)=>ok (.t d) st
 |Option.none=>Option.none
noncomputable def yX(st:aB):Option Out->R AV
 |some (.ret a st')=>Jz st (i6 cR st' a)
 |some (.next _ _)=>ok (.t .none) st
 |some (.exc m _)=>some (.error (m,st))
 |_=>Option.none
noncomputable def fq(C:fj) (F:Fn) (as:List AV) (st:aB):R AV:=match F.ref with
 |true=>oB (F.start as) fun g=>CP F.own st.length (bO C F.body g st)
 |false=>(fy st as).bind fun ds st=>oB (F.start (ds.map AV.t)) fun g=>yX st (bO C F.body g [])
noncomputable def call(T:Nat->Fn):Nat->fj
 |0,_,_,_=>Option.none
 |k+1,f,as,st=>fq (call T k) (T f) as st
end Mine
namespace Mine
open PySem PySem.W PySem.Calls PyProof.Rows
theorem kh{a b:Tx}(h:tx a=tx b):a=b:=List.toArray_inj (congrArg Str.cps h)
noncomputable def sS(s:Tx):Bool:=decide (s.length<=lim)&&s.all (· < 0x110000)
noncomputable def fc:Str:=Str.ofString "shared"
noncomputable def fieldNames:List Str:=["kind","items","attrs","shared","loose","name","tags","code","message"]
inductive gi(h:Heap) (a dx C:Addr) (m:Str->Option Value):Prop
 |mk (o:Obj) (e:h.get? a=some o) (c:o.cls=.ref C) (nd:∀c,o.data≠.cls c) (hd:o.dict=some dx) (ne:dx≠a) (n:h.Ns1 dx m) (ed:h.ExactDictFk dx) (w:Within m fieldNames)
structure Cx where
 prog:Program
 w:World
 h₀:Heap
 os:OsState
 mg:Str->Option Value
 mb:Str->Option Value
 cA:gZ->Addr
 mO:Addr
 fA:Nat->Addr
 fd:Nat->FuncData
 P:Addr -- the table of the law's own code's inner codes
 ng:Str -- the name that bK lambdas bear
@[reducible] noncomputable def Cx.cX (cx:Cx):Nat:=cx.h₀.objs.size
set_option genCtorIdx false in
inductive FO
 |lst (vs:List Value) (n:Nat)
 |tup (vs:List Value)
 |dS (kvs:List (Str×Value)) (ep:Nat)
 |dI (kvs:List (Int×Value))
 |ins (c:gZ) (dx:Addr) (gs:List (Tx×Value))
 |CQ
 |pg
noncomputable def FO.ctorIdx(t:FO):Nat:=FO.casesOn (motive:=fun _=>Nat) t (fun _ _=>0) (fun _=>1) (fun _ _=>2) (fun _=>3) (fun _ _ _=>4) 5 6
set_option genCtorIdx false in
inductive Lg
 |out
 |nd (i:Nat)
 |fz (o:FO)
noncomputable def Lg.ctorIdx(t:Lg):Nat:=Lg.casesOn (motive:=fun _=>Nat) t 0 (fun _=>1) (fun _=>2)
inductive mq(cx:Cx) (h:Heap) (a dx:Addr) (c:gZ) (gs:List (Tx×Value)):Prop
 |mk (m:Str->Option Value) (i:gi h a dx (cx.cA c) m) (sh:c=.aQ->∃v,m fc=some v) (f:∀p∈gs,tx p.1≠fc/\m (tx p.1)=some p.2)
inductive Iu(cx:Cx) (h:Heap) (a:Addr):Prop
 |mk (o:Obj) (fs:Array Value) (t:Tok) (e:h.get? a=some o) (d:o.data=.fields fs) (q:fs[1]? = some (.str cx.ng t))
structure A9(h:Heap) (a:Addr) (items:Array Value):Prop where
 tup:IsTup h a items
 dict:∀o,h.get? a=some o->o.dict=none
noncomputable def Is(cx:Cx) (h:Heap) (a:Addr):FO->Prop
 |.lst vs n=>h.get? a=some { cls:=.type "list",data:=.seq vs.toArray n }
 |.tup vs=>A9 h a vs.toArray
 |.dS kvs ep=>h.DictAt (strKind cx.prog cx.w) a kvs ep
 |.dI kvs=>h.DictOf (intKind cx.prog cx.w) a kvs
 |.ins c dx gs=>mq cx h a dx c gs
 |.CQ=>Iu cx h a
 |.pg=>True
abbrev Pl:=Addr×Addr
structure Wd where
 G:Addr->Lg
 as:List Pl
 st:aB
 s:Shared
@[reducible] noncomputable def Wd.h (w:Wd):Heap:=w.s.heap
@[reducible] noncomputable def Wd.n (w:Wd):Nat:=w.s.heap.objs.size
inductive Sh:FO->PV->List Value->List PV->Prop
 |lst {vs:List Value}{l:List PV}{n:Nat}(z:l.length<=lim):Sh (.lst vs n) (.lst l) vs l
 |tup {vs:List Value}{l:List PV}(z:l.length<=lim):Sh (.tup vs) (.tup l) vs l
 |dS {kvs:List (Str×Value)}{ep:Nat}{l:List (Tx×PV)}(z:l.length<=lim) (k:kvs.map (·.1)=l.map (fun p=>tx p.1)) (n:fc∉kvs.map (·.1)):Sh (.dS kvs ep) (.aK l) (kvs.map (·.2)) (l.map (·.2))
 |dI {kvs:List (Int×Value)}{l:List (Int×PV)}(z:l.length<=lim) (k:kvs.map (·.1)=l.map (·.1)):Sh (.dI kvs) (.eT l) (kvs.map (·.2)) (l.map (·.2))
 |ins {c:gZ}{dx:Addr}{gs:List (Tx×Value)}{fs:List (Tx×PV)}(k:gs.map (·.1)=fs.map (·.1)):Sh (.ins c dx gs) (.inst c fs) (gs.map (·.2)) (fs.map (·.2))
mutual
inductive Rep(G:Addr->Lg):Value->PV->Prop
 |none:Rep G .none .none
 |bool (b:Bool):Rep G (.bool b) (.bool b)
 |int (i:Int) (t:Tok):Rep G (.int i t) (.int i)
 |str (s:Tx) (t:Tok) (z:sS s=true):Rep G (.str (tx s) t) (.str s)
 |ref {a:Addr}{o:FO}{d:PV}{vs:List Value}{l:List PV}(g:G a=.fz o) (q:Sh o d vs l) (r:bh G vs l):Rep G (.ref a) d
inductive bh(G:Addr->Lg):List Value->List PV->Prop
 |nil:bh G [] []
 |cons {v:Value}{vs:List Value}{d:PV}{l:List PV}(x:Rep G v d) (r:bh G vs l):bh G (v::vs) (d::l)
end
@[reducible] noncomputable def Sub (G G':Addr->Lg):Prop:=∀a o,G a=.fz o->G' a=.fz o
mutual
theorem Rep.mono{G G':Addr->Lg}(hs:Sub G G'):∀{v:Value}{d:PV},Rep G v d->Rep G' v d
 |_,_,.none=>.none
 |_,_,.bool b=>.bool b
 |_,_,.int i t=>.int i t
 |_,_,.str s t z=>.str s t z
 |_,_,.ref g q r=>.ref (hs _ _ g) q (bh.mono hs r)
theorem bh.mono{G G':Addr->Lg}(hs:Sub G G'):∀{vs:List Value}{l:List PV},bh G vs l->bh G' vs l
 |_,_,.nil=>.nil
 |_,_,.cons x r=>.cons (Rep.mono hs x) (bh.mono hs r)
end
theorem bh.ind{G:Addr->Lg}{M:∀vs l,bh G vs l->Prop}(h0:M [] [] .nil) (h1:∀(v:Value) (vs:List Value) (d:PV) (l:List PV) (x:Rep G v d) (r:bh G vs l),M vs l r->M (v::vs) (d::l) (.cons x r)){vs:List Value}{l:List PV}(r:bh G vs l):M vs l r :=
 bh.rec (motive_1:=fun _ _ _=>True) (motive_2:=M) trivial (fun _=>trivial) (fun _ _=>trivial) (fun _ _ _=>trivial) (fun _ _ _ _=>trivial) h0 (fun x r _ ih=>h1 _ _ _ _ x r ih) r
inductive JA(l:List PV):FO->List Value->List PV->Prop
 |mk {vs:List Value}{n:Nat}(z:l.length<=lim):JA l (.lst vs n) vs l
inductive JB(l:List PV):FO->List Value->List PV->Prop
 |mk {vs:List Value}(z:l.length<=lim):JB l (.tup vs) vs l
inductive JC(l:List (Tx×PV)):FO->List Value->List PV->Prop
 |mk {kvs:List (Str×Value)}{ep:Nat}(z:l.length<=lim) (k:kvs.map (·.1)=l.map (fun p=>tx p.1)) (n:fc∉kvs.map (·.1)):JC l (.dS kvs ep) (kvs.map (·.2)) (l.map (·.2))
inductive JD(c:gZ) (fs:List (Tx×PV)):FO->List Value->List PV->Prop
 |mk {dx:Addr}{gs:List (Tx×Value)}(k:gs.map (·.1)=fs.map (·.1)):JD c fs (.ins c dx gs) (gs.map (·.2)) (fs.map (·.2))
noncomputable def Vs(o:FO) (vs:List Value) (ds:List PV):PV->Prop
 |.lst l=>JA l o vs ds
 |.tup l=>JB l o vs ds
 |.aK l=>JC l o vs ds
 |.inst c fs=>JD c fs o vs ds
 |_=>True
theorem Sh.inv{o:FO}{d:PV}{vs:List Value}{ds:List PV}(q:Sh o d vs ds):Vs o vs ds d:=by
 induction q with
 |lst z=>exact .mk z
 |tup z=>exact .mk z
 |dS z k n=>exact .mk z k n
 |ins k=>exact .mk k
 |_=>trivial
theorem Sh.QX{o:FO}{c:gZ}{fs:List (Tx×PV)}{vs:List Value}{ds:List PV}(q:Sh o (.inst c fs) vs ds):JD c fs o vs ds:=q.inv
theorem Sh.Qg{o:FO}{l:List PV}{vs:List Value}{ds:List PV}(q:Sh o (.lst l) vs ds):JA l o vs ds:=q.inv
theorem Sh.Qh{o:FO}{l:List PV}{vs:List Value}{ds:List PV}(q:Sh o (.tup l) vs ds):JB l o vs ds:=q.inv
theorem Sh.Mi{o:FO}{l:List (Tx×PV)}{vs:List Value}{ds:List PV}(q:Sh o (.aK l) vs ds):JC l o vs ds:=q.inv
noncomputable def Nk:PV->Bool
 |.none=>false
 |.bool _=>false
 |.int _=>false
 |.str _=>false
 |_=>true
inductive Nl(G:Addr->Lg) (d:PV):Value->Prop
 |mk {a:Addr}{o:FO}{vs:List Value}{l:List PV}(g:G a=.fz o) (q:Sh o d vs l) (r:bh G vs l):Nl G d (.ref a)
theorem Rep.big{G:Addr->Lg}{v:Value}{d:PV}(x:Rep G v d):Nk d=true->Nl G d v:=by
 cases x with
 |ref g q r=>exact fun _=>.mk g q r
 |_=>exact fun h=>nomatch h
inductive uZ(as:List Pl) (v:Value) (i:Nat):Prop
 |mk (p:Pl) (e:as[i]? = some p) (q:v=.ref p.1)
noncomputable def cO(G:Addr->Lg) (as:List Pl) (v:Value):AV->Prop
 |.t d=>Rep G v d
 |.r i=>uZ as v i
@[reducible] noncomputable def Pre (as Ba:List Pl):Prop:=∀(i:Nat) (p:Pl),as[i]? = some p->Ba[i]? = some p
inductive oz(G:Addr->Lg) (as:List Pl):List (Tx×Value)->List (Tx×AV)->Prop
 |nil:oz G as [] []
 |cons {f:Tx}{v:Value}{a:AV}{gs:List (Tx×Value)}{fs:List (Tx×AV)}(x:cO G as v a) (r:oz G as gs fs):oz G as ((f,v)::gs) ((f,a)::fs)
noncomputable def Cq:Node->Option PV
 |.lst l=>some (.lst l)
 |.aK l=>some (.aK l)
 |.eT l=>some (.eT l)
 |_=>Option.none
inductive gn(cx:Cx) (G:Addr->Lg) (as:List Pl) (h:Heap) (p:Pl):Node->Prop
 |fz {d:PV}(r:Rep G (.ref p.1) d):gn cx G as h p (.fz d)
 |tr {nd:Node}{d:PV}{o:FO}{vs:List Value}{l:List PV}(e:Cq nd=some d) (i:Is cx h p.1 o) (q:Sh o d vs l) (r:bh G vs l):gn cx G as h p nd
 |inst {c:gZ}{gs:List (Tx×Value)}{fs:List (Tx×AV)}(i:mq cx h p.1 p.2 c gs) (r:oz G as gs fs):gn cx G as h p (.inst c fs)
noncomputable def own:Node->Pl->List Addr
 |.fz _,_=>[]
 |.inst _ _,p=>[p.1,p.2]
 |_,p=>[p.1]
structure eS(cx:Cx) (w:Wd):Prop where
 len:w.as.length=w.st.length
 nodes:∀(i:Nat) (p:Pl) (nd:Node),w.as[i]? = some p->w.st[i]? = some nd->gn cx w.G w.as w.h p nd
 ff:∀(i:Nat) (p:Pl) (nd:Node),w.as[i]? = some p->w.st[i]? = some nd->∀a∈own nd p,w.G a=.nd i
 fz:∀a o,w.G a=.fz o->Is cx w.h a o
 pg:∀a c dx gs,w.G a=.fz (.ins c dx gs)->w.G dx=.fz .pg
 lo:∀a,w.G a≠.out->cx.cX<=a
 live:∀a,w.G a≠.out->∃o,w.h.get? a=some o
section
variable {cx:Cx}{h h':Heap}{a dx:Addr}{o:FO}
theorem gi.fk{C:Addr}{m:Str->Option Value}:gi h a dx C m->h.InstFk a C m
 |.mk o e c nd hd ne n ed _=>⟨o,e,c,nd,.inr ⟨dx,hd,ne,n,ed⟩⟩
theorem gi.congr{C:Addr}{m:Str->Option Value}(e:h'.get? a=h.get? a) (ed:h'.get? dx=h.get? dx):gi h a dx C m->gi h' a dx C m
 |.mk o e1 c nd hd ne ⟨o1,es,ep,g,r⟩ ⟨o2,g2,r2⟩ w=>.mk o (e.trans e1) c nd hd ne ⟨o1,es,ep,ed.trans g,r⟩ ⟨o2,ed.trans g2,r2⟩ w
theorem Is.congr(e:h'.get? a=h.get? a):∀{o:FO},(∀c dx gs,o=.ins c dx gs->h'.get? dx=h.get? dx)->Is cx h a o->Is cx h' a o
 |.lst _ _,_,q=>e.trans q
 |.tup _,_,⟨⟨o,q,r⟩,d⟩=>⟨⟨o,e.trans q,r⟩,fun o q=>d o (e.symm.trans q)⟩
 |.dS _ _,_,⟨o,es,q,r⟩=>⟨o,es,e.trans q,r⟩
 |.dI _,_,⟨o,es,ep,q,⟨o',r⟩,s⟩=>⟨o,es,ep,e.trans q,⟨o',r⟩,s⟩
 |.ins c dx gs,k,.mk m i sh f=>.mk m (i.congr e (k c dx gs rfl)) sh f
 |.CQ,_,.mk o fs t q d r=>.mk o fs t (e.trans q) d r
 |.pg,_,_=>trivial
theorem u0{p:Pl}{d:PV}:∀{nd:Node},Cq nd=some d->p.1∈own nd p
 |.lst _,_=>.head _
 |.aK _,_=>.head _
 |.eT _,_=>.head _
theorem Sh.Iv{nd:Node}{d:PV}{vs:List Value}{l:List PV}{c:gZ}{gs:List (Tx×Value)}(e:Cq nd=some d) (q:Sh o d vs l) (z:o=.ins c dx gs):False:=by
 induction q with
 |ins=>cases nd<;>cases e
 |_=>injection z
theorem gn.congr{G:Addr->Lg}{as:List Pl}{p:Pl}{nd:Node}(k:∀a∈own nd p,h'.get? a=h.get? a):gn cx G as h p nd->gn cx G as h' p nd
 |.fz r=>.fz r
 |.tr e i q r=>.tr e (i.congr (k _ (u0 e)) fun _ _ _ z=>(q.Iv e z).elim) q r
 |.inst (.mk m i sh f) r=>.inst (.mk m (i.congr (k _ (.head _)) (k _ (.tail _ (.head _)))) sh f) r
theorem cO.mono{G G':Addr->Lg}{as Ba:List Pl}(hs:Sub G G') (ha:Pre as Ba){v:Value}:∀{x:AV},cO G as v x->cO G' Ba v x
 |.t _,r=>Rep.mono hs r
 |.r _,.mk p e q=>.mk p (ha _ _ e) q
theorem oz.mono{G G':Addr->Lg}{as Ba:List Pl}(hs:Sub G G') (ha:Pre as Ba){gs:List (Tx×Value)}{fs:List (Tx×AV)}(r:oz G as gs fs):oz G' Ba gs fs:=by
 induction r with
 |nil=>exact .nil
 |cons x _ ih=>exact .cons (x.mono hs ha) ih
theorem gn.mono{G G':Addr->Lg}{as Ba:List Pl}{p:Pl}{nd:Node}(hs:Sub G G') (ha:Pre as Ba):gn cx G as h p nd->gn cx G' Ba h p nd
 |.fz r=>.fz (r.mono hs)
 |.tr e i q r=>.tr e i q (r.mono hs)
 |.inst i r=>.inst i (r.mono hs ha)
end
section
variable {cx:Cx}{w:Wd}{s':Shared}
theorem eS.step(S:eS cx w) (k:∀a,w.G a≠.out->s'.heap.get? a=w.h.get? a):eS cx { w with s:=s' } where
 len:=S.len
 nodes i p nd e1 e2:=(S.nodes i p nd e1 e2).congr fun a ha=>k a (S.ff i p nd e1 e2 a ha▸fun q=>by injection q)
 ff:=S.ff
 fz a o e:=(S.fz a o e).congr (k a (e▸fun q=>by injection q)) fun c dx gs z=>k dx (S.pg a c dx gs (z▸e)▸fun q=>by injection q)
 pg:=S.pg
 lo:=S.lo
 live a ha:=(k a ha).symm▸S.live a ha
inductive Nm{α:Type}(l:List α) (i j:Nat) (y x:α):Prop
 |here (e:j=i) (q:x=y)
 |there (n:j≠i) (q:l[j]? = some x)
theorem qH{α:Type}{l:List α}{i j:Nat}{y x:α}(e:(l.set i y)[j]? = some x):Nm l i j y x:=by
 rw[List.getElem?_set] at e
 by_cases q:i=j
 ·rw[if_pos q] at e
  split at e
  ·exact .here q.symm (Option.some.inj e).symm
  ·injection e
 ·rw[if_neg q] at e;exact .there (Ne.symm q) e
theorem JE{G:Addr->Lg}{a:Addr}{i j:Nat}(e:G a=.nd i) (q:G a=.nd j):i=j:=by
 rw[e] at q;injection q
theorem eS.set(S:eS cx w){i:Nat}{p:Pl}{nd nd':Node}(e1:w.as[i]? = some p) (e2:w.st[i]? = some nd) (ho:∀a∈own nd' p,a∈own nd p)
  (k:∀a,a∉own nd p->w.G a≠.out->s'.heap.get? a=w.h.get? a) (lv:∀a∈own nd p,∃o,s'.heap.get? a=some o) (r:gn cx w.G w.as s'.heap p nd'):eS cx { w with st:=w.st.set i nd',s:=s' } where
 len:=S.len.trans (List.length_set ..).symm
 nodes j q x f1 f2:=by
  induction qH f2 with
  |here e z=>subst e z;rw[e1] at f1;(injection f1 with f1;subst f1);exact r
  |there n z=>exact(S.nodes j q x f1 z).congr fun a ha=>k a (fun y=>n (JE (S.ff j q x f1 z a ha) (S.ff i p nd e1 e2 a y))) (S.ff j q x f1 z a ha▸fun q=>by injection q)
 ff j q x f1 f2 a ha:=by
  induction qH f2 with
  |here e z=>subst e z;rw[e1] at f1;(injection f1 with f1;subst f1);exact S.ff j p nd e1 e2 a (ho a ha)
  |there n z=>exact S.ff j q x f1 z a ha
 fz a o e:=by
  have no:∀b y,w.G b=.fz y->b∉own nd p:=fun b y e z=>by rw[S.ff i p nd e1 e2 b z] at e;injection e
  exact(S.fz a o e).congr (k a (no a o e) (e▸fun q=>by injection q)) fun c dx gs z=>k dx (no dx _ (S.pg a c dx gs (z▸e))) (S.pg a c dx gs (z▸e)▸fun q=>by injection q)
 pg:=S.pg
 lo:=S.lo
 live a ha:=by
  by_cases q:a∈own nd p
  ·exact lv a q
  ·exact(k a q ha).symm▸S.live a ha
noncomputable def put(G:Addr->Lg) (l:List Addr) (x:Lg):Addr->Lg:=fun a=>if a∈l then x else G a
theorem iO{G:Addr->Lg}{l:List Addr}{x:Lg}{a:Addr}(h:a∈l):put G l x a=x:=if_pos h
theorem cE{G:Addr->Lg}{l:List Addr}{x:Lg}{a:Addr}(h:a∉l):put G l x a=G a:=if_neg h
theorem qh{G:Addr->Lg}{l:List Addr}{x:Lg}(h:∀a∈l,∀o,G a≠.fz o):Sub G (put G l x):=fun a o e=>(cE fun q=>h a q o e).trans e
theorem qI{α:Type}{l:List α}{x:α}{i:Nat}{p:α}(e:l[i]? = some p):(l++[x])[i]? = some p:=by
 rw[List.getElem?_append_left (List.getElem?_eq_some_iff.mp e).1];exact e
inductive JF{α:Type}(l:List α) (i:Nat) (y x:α):Prop
 |here (e:i=l.length) (q:x=y)
 |there (q:l[i]? = some x)
theorem lA{α:Type}{l:List α}{i:Nat}{y x:α}(e:(l++[y])[i]? = some x):JF l i y x:=by
 rcases Nat.lt_or_ge i l.length with hj|hj
 ·rw[List.getElem?_append_left hj] at e;exact .there e
 ·rw[List.getElem?_append_right hj] at e
  cases hz:i-l.length with
  |zero=>rw[hz] at e;exact .here (by omega) (Option.some.inj e).symm
  |succ n=>rw[hz] at e;injection e
theorem eS.push(S:eS cx w){p:Pl}{nd:Node}(k:∀a,w.G a≠.out->s'.heap.get? a=w.h.get? a) (hn:∀a∈own nd p,w.G a=.out/\cx.cX<=a) (lv:∀a∈own nd p,∃o,s'.heap.get? a=some o)
  (r:gn cx (put w.G (own nd p) (.nd w.st.length)) (w.as++[p]) s'.heap p nd):eS cx ⟨put w.G (own nd p) (.nd w.st.length),w.as++[p],w.st++[nd],s'⟩:=by
 have S':=S.step k
 have sub:Sub w.G (put w.G (own nd p) (.nd w.st.length)):=qh fun a ha o e=>by rw[(hn a ha).1] at e;injection e
 have old:∀a,w.G a≠.out->put w.G (own nd p) (.nd w.st.length) a=w.G a:=fun a ha=>cE fun q=>ha (hn a q).1
 have Ud:∀a o,put w.G (own nd p) (.nd w.st.length) a=.fz o->w.G a=.fz o:=fun a o e=>by
  by_cases q:a∈own nd p
  ·rw[iO q] at e;injection e
  ·rwa [cE q] at e
 constructor
 ·show(w.as++[p]).length=(w.st++[nd]).length
  rw[List.length_append,List.length_append,S.len];rfl
 ·intro j q x f1 f2
  induction lA f1 with
  |here e z =>
   subst e z
   induction lA f2 with
   |here _ z=>subst z;exact r
   |there z=>exact absurd (List.getElem?_eq_some_iff.mp z).1 (by rw[S.len];exact Nat.lt_irrefl _)
  |there z=>induction lA f2 with
   |here e _=>exact absurd (List.getElem?_eq_some_iff.mp z).1 (by rw[e,S.len];exact Nat.lt_irrefl _)
   |there y=>exact(S'.nodes j q x z y).mono sub fun _ _ e=>qI e
 ·intro j q x f1 f2 a ha
  induction lA f1 with
  |here e z =>
   subst e z
   induction lA f2 with
   |here _ z=>subst z;exact(iO ha).trans (congrArg Lg.nd S.len.symm)
   |there z=>exact absurd (List.getElem?_eq_some_iff.mp z).1 (by rw[S.len];exact Nat.lt_irrefl _)
  |there z=>induction lA f2 with
   |here e _=>exact absurd (List.getElem?_eq_some_iff.mp z).1 (by rw[e,S.len];exact Nat.lt_irrefl _)
   |there y=>have e:=S.ff j q x z y a ha;exact(old a (e▸fun q=>by injection q)).trans e
 ·exact fun a o e=>S'.fz a o (Ud a o e)
 ·exact fun a c dx gs e=>sub _ _ (S.pg a c dx gs (Ud a _ e))
 ·intro a ha
  by_cases q:a∈own nd p
  ·exact(hn a q).2
  ·exact S.lo a fun z=>ha ((cE q).trans z)
 ·intro a ha
  by_cases q:a∈own nd p
  ·exact lv a q
  ·exact S'.live a fun z=>ha ((cE q).trans z)
end
inductive u5(G:Addr->Lg) (cv:Value):Prop
 |mk (c:Addr) (e:cv=.ref c) (g:G c=.fz .CQ)
inductive kj(cx:Cx) (w:Wd):Prop
 |mk (ps:Array Value) (e:w.h.get? cx.P=some { cls:=.none,data:=.fields ps }) (t:TriplesOk ps.toList) (c:∀pos cv,codeAmong pos ps.toList=some cv->u5 w.G cv)
theorem u5.mono{G G':Addr->Lg}{cv:Value}(hs:Sub G G'):u5 G cv->u5 G' cv
 |.mk c e g=>.mk c e (hs _ _ g)
theorem kj.step{cx:Cx}{w w':Wd}(hP:w'.h.get? cx.P=w.h.get? cx.P) (hs:Sub w.G w'.G):kj cx w->kj cx w'
 |.mk ps e t c=>.mk ps (hP.trans e) t fun pos cv q=>(c pos cv q).mono hs
structure Inv(cx:Cx) (w:Wd):Prop where
 rel:eS cx w
 old:OldK cx.h₀ w.h
 os:w.s.os=cx.os
 gens:w.s.gens=#[]
 lim:w.h.NoLimit
 low:cStatics<cx.cX
 i8:cx.P<cx.cX
 ge:cx.cX<=w.n
 tab:kj cx w
noncomputable def nh(h h':Heap) (a:Addr):Prop:=∀o,h.get? a=some o->∃sl,h'.get? a=some { o with slots:=sl }
theorem nh.trans{h h' Ue:Heap}{a:Addr}(x:nh h h' a) (y:nh h' Ue a):nh h Ue a:=fun o e =>
 let⟨_,e'⟩:=x o e;let⟨sl,e''⟩:=y _ e';⟨sl,e''⟩
theorem nh.of_eq{h h':Heap}{a:Addr}(k:h'.get? a=h.get? a):nh h h' a:=fun o e=>⟨o.slots,k.trans e⟩
theorem nh.ns{h h':Heap}{a:Addr}(x:nh h h' a){m:Str->Option Value}:h.Ns a m->h'.Ns a m
 |⟨o,es,ep,e,r⟩=>let⟨_,e'⟩:=x o e;⟨_,es,ep,e',r⟩
structure Ev(cx:Cx) (fr:List Addr) (W:Addr->Prop) (w w':Wd):Prop where
 inv:Inv cx w'
 size:w.n<=w'.n
 keep:∀a,cx.cX<=a->a<w.n->w.G a=.out->a∉fr->¬W a->∀o,w.h.get? a=some o->w'.h.get? a=some o
 frame:∀a,a∈fr->¬W a->nh w.h w'.h a
 sub:Sub w.G w'.G
 pre:Pre w.as w'.as
 out:∀a,a<w.n->w.G a=.out->w'.G a=.out
@[reducible] noncomputable def om:Addr->Prop:=fun _=>False
structure iz(cx:Cx) (w:Wd) (a:Addr):Prop where
 ge:cx.cX<=a
 lt:a<w.n
 out:w.G a=.out
section
variable {cx:Cx}{fr:List Addr}{W:Addr->Prop}{w w' zR:Wd}{s':Shared}
theorem Ev.refl(I:Inv cx w):Ev cx fr W w w:=⟨I,Nat.le_refl _,fun _ _ _ _ _ _ _ e=>e,fun _ _ _=>nh.of_eq rfl,fun _ _ q=>q,fun _ _ q=>q,fun _ _ q=>q⟩
theorem Ev.trans(x:Ev cx fr W w w') (y:Ev cx fr W w' zR):Ev cx fr W w zR where
 inv:=y.inv
 size:=Nat.le_trans x.size y.size
 keep a h1 h2 h3 h4 h5 o e:=y.keep a h1 (Nat.lt_of_lt_of_le h2 x.size) (x.out a h2 h3) h4 h5 o (x.keep a h1 h2 h3 h4 h5 o e)
 frame a h1 h2:=(x.frame a h1 h2).trans (y.frame a h1 h2)
 sub a o e:=y.sub a o (x.sub a o e)
 pre i p e:=y.pre i p (x.pre i p e)
 out a h1 h2:=y.out a (Nat.lt_of_lt_of_le h1 x.size) (x.out a h1 h2)
theorem Ev.weaken{QY:List Addr}{W':Addr->Prop}(x:Ev cx fr W w w') (hw:∀a,a<w.n->W a->W' a) (hf:∀a,a<w.n->(a∈fr↔a∈QY)) (hl:∀a∈QY,a<w.n):Ev cx QY W' w w' :=
 ⟨x.inv,x.size,fun a h1 h2 h3 h4 h5=>x.keep a h1 h2 h3 (fun z=>h4 ((hf a h2).mp z)) fun z=>h5 (hw a h2 z),fun a h1 h2=>x.frame a ((hf a (hl a h1)).mpr h1) fun z=>h2 (hw a (hl a h1) z),x.sub,x.pre,x.out⟩
theorem iz.ev{a:Addr}(p:iz cx w a) (x:Ev cx fr W w w'):iz cx w' a:=⟨p.ge,Nat.lt_of_lt_of_le p.lt x.size,x.out a p.lt p.out⟩
theorem eS.lt(S:eS cx w){a:Addr}(h:w.G a≠.out):a<w.n:=let⟨_,e⟩:=S.live a h;Heap.lt_size e
theorem eS.mu(S:eS cx w){a:Addr}(h:w.n<=a):w.G a=.out:=Classical.byContradiction fun q=>Nat.not_lt.mpr h (S.lt q)
theorem lB{h h':Heap}{a:Addr}(k:∀b o,h.get? b=some o->h'.get? b=some o) (e:∃o,h.get? a=some o):h'.get? a=h.get? a:=let⟨o,q⟩:=e;(k a o q).trans q.symm
theorem Inv.keeps(I:Inv cx w) (k:∀b o,w.h.get? b=some o->s'.heap.get? b=some o) (h1:s'.os=w.s.os) (h2:s'.gens=w.s.gens) (hz:w.n<=s'.heap.objs.size):Ev cx fr W w { w with s:=s' } where
 inv:=⟨I.rel.step fun a ha=>lB k (I.rel.live a ha),I.old.step_keeps k,h1.trans I.os,h2.trans I.gens,I.lim.keeps k,I.low,I.i8,Nat.le_trans I.ge hz,
  let⟨_,e,_,_⟩:=I.tab;I.tab.step (lB k ⟨_,e⟩) fun _ _ q=>q⟩
 size:=hz
 keep a _ _ _ _ _:=k a
 frame a _ _:=fun o e=>⟨o.slots,k a o e⟩
 sub _ _ q:=q
 pre _ _ q:=q
 out _ _ q:=q
noncomputable def Wd.push(w:Wd) (p:Pl) (nd:Node) (s':Shared):Wd:=⟨put w.G (own nd p) (.nd w.st.length),w.as++[p],w.st++[nd],s'⟩
theorem Inv.push{p:Pl}{nd:Node}(I:Inv cx w) (k:∀b o,w.h.get? b=some o->s'.heap.get? b=some o) (h1:s'.os=w.s.os) (h2:s'.gens=w.s.gens) (hz:w.n<=s'.heap.objs.size) (hn:∀a∈own nd p,w.n<=a)
  (lv:∀a∈own nd p,∃o,s'.heap.get? a=some o) (r:gn cx (w.push p nd s').G (w.as++[p]) s'.heap p nd):Ev cx fr W w (w.push p nd s'):=by
 have no:∀a,a<w.n->a∉own nd p:=fun a h q=>Nat.not_lt.mpr (hn a q) h
 have sub:Sub w.G (w.push p nd s').G:=qh fun a q o e=>no a (I.rel.lt (e▸fun q=>by injection q)) q
 exact⟨⟨I.rel.push (fun a ha=>lB k (I.rel.live a ha)) (fun a ha=>⟨I.rel.mu (hn a ha),Nat.le_trans I.ge (hn a ha)⟩) lv r,I.old.step_keeps k,h1.trans I.os,h2.trans I.gens,I.lim.keeps k,I.low,I.i8,Nat.le_trans I.ge hz,
  let⟨_,e,_,_⟩:=I.tab;I.tab.step (lB k ⟨_,e⟩) sub⟩,hz,fun a _ _ _ _ _=>k a,fun a _ _ o e=>⟨o.slots,k a o e⟩,sub,fun _ _=>qI,fun a h e=>(cE (no a h)).trans e⟩
end
noncomputable def ek(l:List Env):List Addr:=l.filterMap (·.frame)
noncomputable def bJ:Str:=Str.ofString "message"
inductive CR(cx:Cx) (N:Nat) (w:Wd) (a:Addr) (vs:Array Value):Prop
 |mk (T:Addr) (oT:Obj) (ts:Array Value) (h1:vs[1]? = some (.ref T)) (h2:T≠a) (h3:w.h.get? T=some oT) (h4:oT.data=.fields ts) (h5:ts[3]? = some .none) (p:iz cx w T) (n:N<=T)
inductive CS(cx:Cx) (l:List Env) (N:Nat) (w:Wd) (a:Addr) (m:Tx) (vs:Array Value):Prop
 |mk (dx:Addr) (oe:Obj) (mm:Str->Option Value) (t:Tok) (h2:w.h.get? a=some oe) (h3:oe.cls=.ref cx.mO) (h4:oe.dict=some dx) (h5:oe.data=.fields vs) (p:iz cx w a) (n:N<=a) (h6:dx≠a) (h7:dx∉ek l)
  (h8:w.h.Ns1 dx mm) (h9:w.h.ExactDictFk dx) (Mj:mm bJ=some (.str (tx m) t)) (Iw:sS m=true)
inductive u6(cx:Cx) (l:List Env) (N:Nat) (w:Wd) (e:Value) (m:Tx):Prop
 |mk (a:Addr) (vs:Array Value) (q:e=.ref a) (x:CS cx l N w a m vs) (t:CR cx N w a vs)
inductive xw(cx:Cx) (l:List Env) (N:Nat) (w:Wd) (e:Value) (m:Tx):Prop
 |mk (a:Addr) (vs:Array Value) (q:e=.ref a) (x:CS cx l N w a m vs) (t:vs[1]? = some .none\/CR cx N w a vs)
section
variable {cx:Cx}{l:List Env}{N N':Nat}{w:Wd}{e:Value}{m:Tx}{a:Addr}{vs:Array Value}
theorem CR.mono(hn:N'<=N):CR cx N w a vs->CR cx N' w a vs
 |.mk T oT ts h1 h2 h3 h4 h5 p n=>.mk T oT ts h1 h2 h3 h4 h5 p (Nat.le_trans hn n)
theorem CS.mono(hn:N'<=N):CS cx l N w a m vs->CS cx l N' w a m vs
 |.mk dx oe mm t h2 h3 h4 h5 p n h6 h7 h8 h9 Mj Iw=>.mk dx oe mm t h2 h3 h4 h5 p (Nat.le_trans hn n) h6 h7 h8 h9 Mj Iw
theorem u6.mono(hn:N'<=N):u6 cx l N w e m->u6 cx l N' w e m
 |.mk a vs q x t=>.mk a vs q (x.mono hn) (t.mono hn)
theorem xw.mono(hn:N'<=N):xw cx l N w e m->xw cx l N' w e m
 |.mk a vs q x t=>.mk a vs q (x.mono hn) (t.imp id (·.mono hn))
theorem u6.toS:u6 cx l N w e m->xw cx l N w e m
 |.mk a vs q x t=>.mk a vs q x (.inr t)
end
abbrev iA(cx:Cx) (l:List Env) (w w':Wd):Prop:=Ev cx (ek l) om w w'
structure bT{α β:Type}(cx:Cx) (l:List Env) (w:Wd) (r:R β) (Rel:α->β->Wd->Prop) (Q:α->Shared->Prop) (E:Value->Shared->Prop):Prop where
 ne:r≠none
 ok:∀(b:β) (a:α) (w':Wd),r=some (.ok (b,w'.st))->iA cx l w w'->Rel a b w'->Q a w'.s
 err:∀(m:Tx) (e:Value) (w':Wd),r=some (.error (m,w'.st))->iA cx l w w'->u6 cx l w.n w' e m->E e w'.s
noncomputable def Wp{α β:Type}(cx:Cx) (A:Around) (l:List Env) (w:Wd) (x:Sem α) (r:R β) (Rel:α->β->Wd->Prop):Prop :=
 ∀Q E,bT cx l w r Rel Q E->wpAny (model cx.prog cx.w) A x Q E w.s
section
variable {α β γ δ:Type}{cx:Cx}{A:Around}{l:List Env}{w w':Wd}{x:Sem α}{r r':R β}{f:β->aB->R γ}{Rel:α->β->Wd->Prop}{Rel2:δ->γ->Wd->Prop}{Q:δ->Shared->Prop}{E:Value->Shared->Prop}{Q0:α->Shared->Prop}
theorem Wp.none:Wp cx A l w x (Option.none:R β) Rel:=fun _ _ T=>absurd rfl T.ne
theorem Wp.ite{c:Prop} [Decidable c] (h:c->Wp cx A l w x r Rel):Wp cx A l w x (if c then r else Option.none) Rel:=by
 by_cases q:c
 ·rw[if_pos q];exact h q
 ·rw[if_neg q];exact .none
theorem Wp.oB{ε:Type}{o:Option ε}{f:ε->R β}(h:∀v,o=some v->Wp cx A l w x (f v) Rel):Wp cx A l w x (Mine.oB o f) Rel:=by
 induction o with
 |none=>exact .none
 |some v=>exact h v rfl
theorem bT.later(T:bT cx l w (r.bind f) Rel2 Q E){b:β}(e:r=some (.ok (b,w'.st))) (ev:iA cx l w w'):bT cx l w' (f b w'.st) Rel2 Q E:=by
 subst e
 exact⟨T.ne,fun b a zR e x rel=>T.ok b a zR e (ev.trans x) rel,fun m e zR q x z=>T.err m e zR q (ev.trans x) (z.mono ev.size)⟩
theorem bT.fails(T:bT cx l w (r.bind f) Rel2 Q E){m:Tx}{e:Value}(q:r=some (.error (m,w'.st))) (ev:iA cx l w w') (z:u6 cx l w.n w' e m):E e w'.s:=by
 subst q
 exact T.err m e w' rfl ev z
theorem Wp.step(hx:Wp cx A l w x r Rel) (T:bT cx l w (r.bind f) Rel2 Q E) (k:∀b a w',iA cx l w w'->Rel a b w'->bT cx l w' (f b w'.st) Rel2 Q E->Q0 a w'.s):wpAny (model cx.prog cx.w) A x Q0 E w.s :=
 hx Q0 E ⟨fun e=>T.ne (by rw[e];rfl),fun b a w' e ev rel=>k b a w' ev rel (T.later e ev),fun _ _ _ q ev z=>T.fails q ev z⟩
theorem bT.done{a:δ}{b:γ}(T:bT cx l w (Mine.ok b w.st) Rel2 Q E) (I:Inv cx w) (r:Rel2 a b w):Q a w.s:=T.ok b a w rfl (.refl I) r
theorem bT.at{a:δ}{b:γ}(T:bT cx l w (Mine.ok b w'.st) Rel2 Q E) (ev:iA cx l w w') (r:Rel2 a b w'):Q a w'.s:=T.ok b a w' rfl ev r
end
@[reducible] noncomputable def cG (v:Value) (a:AV) (w:Wd):Prop:=cO w.G w.as v a
theorem Inv.toks{cx:Cx}{fr:List Addr}{W:Addr->Prop}{w:Wd}{s':Shared}(I:Inv cx w) (h0:s'.heap=w.h) (h1:s'.os=w.s.os) (h2:s'.gens=w.s.gens):Ev cx fr W w { w with s:=s' }:=I.keeps (fun _ _ e=>h0▸e) h1 h2 (h0▸Nat.le_refl _)
noncomputable def Mk(G:Addr->Lg) (nd:Node) (p:Pl) (o:FO):Addr->Lg:=put (put G (own nd p) (.fz .pg)) [p.1] (.fz o)
inductive QZ(G:Addr->Lg) (nd:Node) (p:Pl) (o:FO) (a:Addr):Prop
 |here (e:a=p.1) (q:Mk G nd p o a=.fz o)
 |own (h:a∈own nd p) (q:Mk G nd p o a=.fz .pg)
 |else(h:a∉own nd p) (q:Mk G nd p o a=G a)
theorem pn{G:Addr->Lg}{nd:Node}{p:Pl}{o:FO}(a:Addr):QZ G nd p o a:=by
 by_cases e:a=p.1
 ·exact .here e (iO (by rw[e];exact .head _))
 ·have n:a∉[p.1]:=fun q=>e (List.mem_singleton.mp q)
  by_cases h:a∈own nd p
  ·exact .own h ((cE n).trans (iO h))
  ·exact .else h ((cE n).trans (cE h))
noncomputable def Wd.fr(w:Wd) (i:Nat) (nd:Node) (p:Pl) (o:FO) (d:PV):Wd:=⟨Mk w.G nd p o,w.as,w.st.set i (.fz d),w.s⟩
section
variable {cx:Cx}{fr:List Addr}{W:Addr->Prop}{w:Wd}{i:Nat}{p:Pl}{nd:Node}{o:FO}{d:PV}
theorem Inv.freeze(I:Inv cx w) (e1:w.as[i]? = some p) (e2:w.st[i]? = some nd) (hp:p.1∈own nd p) (hi:Is cx w.h p.1 o) (hd:∀c dx gs,o=.ins c dx gs->dx∈own nd p/\dx≠p.1)
  (r:Rep (w.fr i nd p o d).G (.ref p.1) d):Ev cx fr W w (w.fr i nd p o d):=by
 have S:=I.rel
 have no:∀a,a∈own nd p->w.G a=.nd i:=S.ff i p nd e1 e2
 have sub:Sub w.G (w.fr i nd p o d).G:=fun a y e=>by
  induction pn (G:=w.G) (nd:=nd) (p:=p) (o:=o) a with
  |here z q=>rw[z,no _ hp] at e;injection e
  |own h q=>rw[no a h] at e;injection e
  |«else» h q=>exact q.trans e
 have qJ:∀a,(w.fr i nd p o d).G a≠.out->w.G a≠.out:=fun a n z=>by
  induction pn (G:=w.G) (nd:=nd) (p:=p) (o:=o) a with
  |here e q=>rw[e,no _ hp] at z;injection z
  |own h q=>rw[no a h] at z;injection z
  |«else» h q=>exact n (q.trans z)
 refine⟨⟨⟨S.len.trans (List.length_set ..).symm,fun j q x f1 f2=>?_,fun j q x f1 f2 a ha=>?_,fun a y e=>?_,fun a c dx gs e=>?_,fun a ha=>S.lo a (qJ a ha),fun a ha=>S.live a (qJ a ha)⟩,
  I.old,I.os,I.gens,I.lim,I.low,I.i8,I.ge,kj.step (w:=w) (w':=w.fr i nd p o d) rfl sub I.tab⟩,Nat.le_refl _,fun _ _ _ _ _ _ _ e=>e,fun _ _ _=>nh.of_eq rfl,sub,fun _ _ e=>e,fun a _ e=>?_⟩
 ·induction qH f2 with
  |here e z=>subst e z;obtain rfl:q=p:=Option.some.inj (f1.symm.trans e1);exact .fz r
  |there n z=>exact(S.nodes j q x f1 z).mono sub fun _ _ e=>e
 ·induction qH f2 with
  |here e z=>subst z;cases ha
  |there n z =>
   have g:=S.ff j q x f1 z a ha
   induction pn (G:=w.G) (nd:=nd) (p:=p) (o:=o) a with
   |here e y=>rw[e,no _ hp] at g;(injection g with g;subst g);exact absurd rfl n
   |own h y=>rw[no a h] at g;(injection g with g;subst g);exact absurd rfl n
   |«else» h y=>exact y.trans g
 ·induction pn (G:=w.G) (nd:=nd) (p:=p) (o:=o) a with
  |here z q=>rw[z];have:=q.symm.trans e;(injection this with this;subst this);exact hi
  |own h q=>have:=q.symm.trans e;(injection this with this;subst this);trivial
  |«else» h q=>exact S.fz a y (q.symm.trans e)
 ·induction pn (G:=w.G) (nd:=nd) (p:=p) (o:=o) a with
  |here z q =>
   have:=q.symm.trans e
   injection this with this;subst this
   have Ug:=hd c dx gs rfl;have h1:=Ug.1;have h2:=Ug.2
   induction pn (G:=w.G) (nd:=nd) (p:=p) (o:=.ins c dx gs) dx with
   |here e _=>exact absurd e h2
   |own _ q=>exact q
   |«else» h _=>exact absurd h1 h
  |own h q=>have:=q.symm.trans e;cases this
  |«else» h q=>exact sub dx _ (S.pg a c dx gs (q.symm.trans e))
 ·induction pn (G:=w.G) (nd:=nd) (p:=p) (o:=o) a with
  |here z q=>rw[z,no _ hp] at e;injection e
  |own h q=>rw[no a h] at e;injection e
  |«else» h q=>exact q.trans e
inductive Q3(cx:Cx) (w:Wd) (v:Value) (d:PV) (st':aB):Prop
 |mk (G':Addr->Lg) (ev:∀fr W,Ev cx fr W w ⟨G',w.as,st',w.s⟩) (r:Rep G' v d)
inductive Q4(cx:Cx) (w:Wd) (vs:List Value) (ds:List PV) (st':aB):Prop
 |mk (G':Addr->Lg) (ev:∀fr W,Ev cx fr W w ⟨G',w.as,st',w.s⟩) (r:bh G' vs ds)
theorem Inv.zS{vs:List Value}{l:List PV}(I:Inv cx w) (e1:w.as[i]? = some p) (e2:w.st[i]? = some nd) (hp:p.1∈own nd p) (hi:Is cx w.h p.1 o) (hd:∀c dx gs,o=.ins c dx gs->dx∈own nd p/\dx≠p.1)
  (q:Sh o d vs l) (r:bh w.G vs l):Q3 cx w (.ref p.1) d (w.st.set i (.fz d)):=by
 have sub:Sub w.G (Mk w.G nd p o):=fun a y e=>by
  induction pn (G:=w.G) (nd:=nd) (p:=p) (o:=o) a with
  |here z q=>rw[z,I.rel.ff i p nd e1 e2 _ hp] at e;injection e
  |own h q=>rw[I.rel.ff i p nd e1 e2 a h] at e;injection e
  |«else» h q=>exact q.trans e
 have z:Rep (Mk w.G nd p o) (.ref p.1) d:=.ref (iO (.head _)) q (r.mono sub)
 exact .mk _ (fun fr W=>I.freeze e1 e2 hp hi hd z) z
end
inductive Q5(cx:Cx) (w:Wd) (gs:List (Tx×Value)) (ds:List (Tx×PV)) (st':aB):Prop
 |mk (G':Addr->Lg) (ev:∀fr W,Ev cx fr W w ⟨G',w.as,st',w.s⟩) (k:gs.map (·.1)=ds.map (·.1)) (r:bh G' (gs.map (·.2)) (ds.map (·.2)))
section
variable {cx:Cx}{w:Wd}{v:Value}{a:AV}{d:PV}{st':aB}{q:Tx×aB}
theorem gi.ne{h:Heap}{a dx C:Addr}{m:Str->Option Value}:gi h a dx C m->dx≠a
 |.mk _ _ _ _ _ ne _ _ _=>ne
theorem gn.freeze{i:Nat}{p:Pl}{nd:Node}(I:Inv cx w) (e1:w.as[i]? = some p) (e2:w.st[i]? = some nd) (hd:Cq nd=some d):Q3 cx w (.ref p.1) d (w.st.set i (.fz d)):=by
 induction I.rel.nodes i p nd e1 e2 with
 |fz r=>injection hd
 |tr e j q r=>(injection e.symm.trans hd with zx;subst zx);exact I.zS e1 e2 (u0 e) j (fun _ _ _ z=>(q.Iv e z).elim) q r
 |inst j r=>injection hd
mutual
theorem fL:∀(n:Nat){w:Wd}{a:AV}{d:PV}{st':aB}{v:Value},Inv cx w->cO w.G w.as v a->i6 n w.st a=some (d,st')->Q3 cx w v d st'
 |0,_,.r _,_,_,_,_,_,e=>nomatch e
 |0,_,.t _,_,_,_,I,r,e=>by cases e;exact .mk _ (fun _ _=>.refl I) r
 |_+1,_,.t _,_,_,_,I,r,e=>by cases e;exact .mk _ (fun _ _=>.refl I) r
 |n+1,w,.r i,d,st',_,I,.mk p hp rfl,e=>by
  unfold i6 at e
  cases hn:w.st[i]? with
  |none=>rw[hn] at e;injection e
  |some nd =>
   rw[hn] at e
   induction nd with
   |fz d0=>cases e;cases I.rel.nodes i p _ hp hn with| fz r=>exact .mk _ (fun _ _=>.refl I) r|tr e=>injection e
   |lst l=>cases e;exact gn.freeze I hp hn rfl
   |aK l=>cases e;exact gn.freeze I hp hn rfl
   |eT l=>cases e;exact gn.freeze I hp hn rfl
   |inst c fs =>
    cases I.rel.nodes i p _ hp hn with
    |tr e=>injection e
    |@inst _ gs _ j r =>
     dsimp only at e
     cases h1:pZ n w.st fs with
     |none=>rw[h1] at e;injection e
     |some x =>
      rw[h1] at e
      obtain⟨ds,st1⟩:=x
      obtain⟨G1,tM,k,rr⟩:=qK n I r h1
      dsimp only at e
      cases h2:st1[i]? with
      |none=>rw[h2] at e;injection e
      |some Vt =>
       rw[h2] at e
       induction Vt with
       |inst c' fs' =>
        dsimp only at e
        split at e
        ·cases e
         have ne:=let⟨_,i,_,_⟩:=j;i.ne
         obtain⟨G2,wR,r2⟩:=Inv.zS (w:=⟨G1,w.as,st1,w.s⟩) (o:=.ins c p.2 gs) (d:=.inst c ds) (tM [] om).inv hp h2 (.head _) j (fun _ _ _ z=>by cases z;exact⟨.tail _ (.head _),ne⟩) (.ins k) rr
         exact .mk G2 (fun fr W=>(tM fr W).trans (wR fr W)) r2
        ·injection e
       |_=>injection e
theorem qK:∀(n:Nat){w:Wd}{fs:List (Tx×AV)}{ds:List (Tx×PV)}{st':aB}{gs:List (Tx×Value)},Inv cx w->oz w.G w.as gs fs->pZ n w.st fs=some (ds,st')->Q5 cx w gs ds st'
 |0,_,[],_,_,_,I,.nil,e=>by cases e;exact .mk _ (fun _ _=>.refl I) rfl .nil
 |_+1,_,[],_,_,_,I,.nil,e=>by cases e;exact .mk _ (fun _ _=>.refl I) rfl .nil
 |0,_,_::_,_,_,_,_,_,e=>nomatch e
 |n+1,w,(f,a)::fs,ds,st',_,I,.cons x r,e=>by
  unfold pZ at e
  cases h1:i6 n w.st a with
  |none=>rw[h1] at e;injection e
  |some y =>
   rw[h1] at e
   obtain⟨d,st1⟩:=y
   obtain⟨G1,tM,r1⟩:=fL n I x h1
   dsimp only at e
   cases h2:pZ n st1 fs with
   |none=>rw[h2] at e;injection e
   |some y =>
    rw[h2] at e
    obtain⟨YR,st2⟩:=y
    cases e
    obtain⟨G2,wR,k,r2⟩:=qK (w:=⟨G1,w.as,st1,w.s⟩) n (tM [] om).inv (r.mono (tM [] om).sub fun _ _ e=>e) h2
    exact .mk G2 (fun fr W=>(tM fr W).trans (wR fr W)) (congrArg (f::·) k) (.cons (r1.mono (wR [] om).sub) r2)
end
inductive dw(G:Addr->Lg) (as:List Pl):List Value->List AV->Prop
 |nil:dw G as [] []
 |cons {v:Value}{vs:List Value}{a:AV}{l:List AV}(x:cO G as v a) (r:dw G as vs l):dw G as (v::vs) (a::l)
theorem dw.mono{G G':Addr->Lg}{as Ba:List Pl}(hs:Sub G G') (ha:Pre as Ba){vs:List Value}{l:List AV}(r:dw G as vs l):dw G' Ba vs l:=by
 induction r with
 |nil=>exact .nil
 |cons x _ ih=>exact .cons (x.mono hs ha) ih
theorem dw.length{G:Addr->Lg}{as:List Pl}{vs:List Value}{l:List AV}(r:dw G as vs l):vs.length=l.length:=by
 induction r with
 |nil=>rfl
 |cons _ _ ih=>exact congrArg Nat.succ ih
theorem ni{r:R PV}(e:eU w.st a=r):r=none\/∃d st',i6 cR w.st a=some (d,st')/\r=ok d st':=by
 subst e
 unfold eU
 induction i6 cR w.st a with
 |none=>exact .inl rfl
 |some x=>exact .inr ⟨_,_,rfl,rfl⟩
theorem bT.eU{γ δ:Type}{l:List Env}{f:PV->aB->R γ}{Rel2:δ->γ->Wd->Prop}{Q:δ->Shared->Prop}{E:Value->Shared->Prop}{P:Prop}(I:Inv cx w) (r:cO w.G w.as v a) (T:bT cx l w ((Mine.eU w.st a).bind f) Rel2 Q E)
  (k:∀d G' st',iA cx l w ⟨G',w.as,st',w.s⟩->Rep G' v d->bT cx l ⟨G',w.as,st',w.s⟩ (f d st') Rel2 Q E->P):P:=by
 rcases ni (w:=w) (a:=a) rfl with e|⟨d,st',h,e⟩
 ·exact absurd (by rw[e];rfl) T.ne
 ·obtain⟨G',ev,r'⟩:=fL _ I r h
  exact k d G' st' (ev _ _) r' (T.later (w':=⟨G',w.as,st',w.s⟩) e (ev _ _))
theorem mP:∀{w:Wd}{as:List AV}{vs:List Value},Inv cx w->dw w.G w.as vs as->fy w.st as=none\/∃ds st',fy w.st as=ok ds st'/\Q4 cx w vs ds st'
 |w,[],_,I,.nil=>.inr ⟨[],w.st,rfl,.mk _ (fun _ _=>.refl I) .nil⟩
 |w,a::as,_,I,.cons x r=>by
  unfold fy
  rcases ni (w:=w) (a:=a) rfl with e|⟨d,st1,h,e⟩
  ·rw[e];exact .inl rfl
  ·rw[e]
   obtain⟨G1,tM,r1⟩:=fL _ I x h
   rcases mP (w:=⟨G1,w.as,st1,w.s⟩) (as:=as) (tM [] om).inv (r.mono (tM [] om).sub fun _ _ e=>e) with e|⟨ds,st2,e,G2,wR,r2⟩
   ·exact .inl (by show R.bind (fy st1 as) _=_;rw[e];rfl)
   ·exact .inr ⟨d::ds,st2,by show R.bind (fy st1 as) _=_;rw[e];rfl,.mk G2 (fun fr W=>(tM fr W).trans (wR fr W)) (.cons (r1.mono (wR [] om).sub) r2)⟩
theorem bT.fy{γ δ:Type}{l:List Env}{as:List AV}{vs:List Value}{f:List PV->aB->R γ}{Rel2:δ->γ->Wd->Prop}{Q:δ->Shared->Prop}{E:Value->Shared->Prop}{P:Prop}(I:Inv cx w) (r:dw w.G w.as vs as) (T:bT cx l w ((Mine.fy w.st as).bind f) Rel2 Q E)
  (k:∀ds G' st',iA cx l w ⟨G',w.as,st',w.s⟩->bh G' vs ds->bT cx l ⟨G',w.as,st',w.s⟩ (f ds st') Rel2 Q E->P):P:=by
 rcases mP I r with e|⟨ds,st',e,G',ev,r'⟩
 ·exact absurd (by rw[e];rfl) T.ne
 ·exact k ds G' st' (ev _ _) r' (T.later (w':=⟨G',w.as,st',w.s⟩) e (ev _ _))
end
structure Kx where
 A:Around
 l:List Env
 env:Env
 vs:List (Str×Nat)
inductive JG(h:Heap) (a:Addr):Prop
 |mk (o:Obj) (e:h.get? a=some o) (d:∀vs,o.data≠.fields vs)
structure dK(cx:Cx) (l:List Env) (w:Wd):Prop where
 at':∀a∈ek l,iz cx w a
 ob:∀a∈ek l,JG w.h a
 env:∀e∈l,e.scope.kind≠.module/\∃L,e.frame=some L
structure yY(cx:Cx) (K:Kx) (w:Wd) (c:Addr):Prop where
 dQ:iz cx w c
 JH:c∉ek K.l
 ne:c≠K.env.locals
 cell:∃v,w.h.IsCell c v
structure jZ(cx:Cx) (K:Kx) (w:Wd):Prop where
 fn:K.env.scope.kind=.function
 glob:K.env.globals=mainGlobals
 blt:K.env.builtins=builtinsNs
 dQ:iz cx w K.env.locals
 ns:∃m,w.h.Ns K.env.locals m
 cell:∀x c,K.env.cells.lookup x=some c->yY cx K w c
 apart:∀x y c,K.env.cells.lookup x=some c->K.env.cells.lookup y=some c->x=y
 kinds:∀x,K.env.kindOf x=some .cell\/K.env.kindOf x=some .free->∃c,K.env.cells.lookup x=some c
inductive pq(env:Env) (h:Heap) (x:Str) (v:Value):Prop
 |loc (k:env.kindOf x=some .local) (m:Str->Option Value) (n:h.Ns env.locals m) (e:m x=some v)
 |cell (k:env.kindOf x=some .cell\/env.kindOf x=some .free) (c:Addr) (e:env.cells.lookup x=some c) (z:h.IsCell c (some v))
inductive CT(K:Kx) (w:Wd) (x:Str) (a:AV):Prop
 |mk (v:Value) (h:pq K.env w.h x v) (r:cO w.G w.as v a)
structure At(cx:Cx) (K:Kx) (g:Gm) (w:Wd):Prop where
 inv:Inv cx w
 fr:dK cx K.l w
 eo:jZ cx K w
 vars:∀x i a,(x,i)∈K.vs->g[i]? = some (some a)->CT K w x a
section
variable {cx:Cx}{l:List Env}{W:Addr->Prop}{w w':Wd}{K:Kx}{g:Gm}{a:Addr}
theorem dK.Bb(x:dK cx l w) (y:Ev cx (ek l) W w w') (h:∀a∈ek l,¬W a):dK cx l w' where
 at' a ha:=(x.at' a ha).ev y
 ob a ha:=let⟨o,e,d⟩:=x.ob a ha;let⟨_,e'⟩:=y.frame a ha (h a ha) o e;⟨_,e',d⟩
 env:=x.env
theorem dK.ev(x:dK cx l w) (y:iA cx l w w'):dK cx l w':=x.Bb y fun _ _ q=>q
structure nj(K:Kx) (a:Addr):Prop where
 fr:a∉ek K.l
 loc:a≠K.env.locals
 cell:∀x c,K.env.cells.lookup x=some c->c≠a
theorem xx{m:Str->Option Value}(y:Ev cx (ek l) W w w') (p:iz cx w a) (hw:¬W a) (n:w.h.Ns a m):w'.h.Ns a m:=by
 by_cases q:a∈ek l
 ·exact(y.frame a q hw).ns n
 ·let⟨o,es,ep,e,r⟩:=n
  exact⟨o,es,ep,y.keep a p.ge p.lt p.out q hw o e,r⟩
theorem yY.CU{c:Addr}{v:Option Value}(x:yY cx K w c) (y:Ev cx (ek K.l) W w w') (hw:¬W c):w.h.IsCell c v->w'.h.IsCell c v
 |⟨o,e,d⟩=>⟨o,y.keep c x.dQ.ge x.dQ.lt x.dQ.out x.JH hw o e,d⟩
theorem jZ.Bb(x:jZ cx K w) (y:Ev cx (ek K.l) W w w') (hW:∀a,W a->nj K a):jZ cx K w' where
 fn:=x.fn
 glob:=x.glob
 blt:=x.blt
 dQ:=x.dQ.ev y
 ns:=let⟨m,n⟩:=x.ns;⟨m,xx y x.dQ (fun q=>(hW _ q).loc rfl) n⟩
 cell n c e:=let z:=x.cell n c e;⟨z.dQ.ev y,z.JH,z.ne,let⟨v,q⟩:=z.cell;⟨v,z.CU y (fun q=>(hW _ q).cell n c e rfl) q⟩⟩
 apart:=x.apart
 kinds:=x.kinds
theorem pq.ev{x:Str}{v:Value}(O:jZ cx K w) (y:Ev cx (ek K.l) W w w') (hl:¬W K.env.locals) (hc:∀c,K.env.cells.lookup x=some c->¬W c):pq K.env w.h x v->pq K.env w'.h x v
 |.loc k m n e=>.loc k m (xx y O.dQ hl n) e
 |.cell k c e z=>.cell k c e ((O.cell x c e).CU y (hc c e) z)
theorem cO.ev{fr:List Addr}{v:Value}{x:AV}(r:cO w.G w.as v x) (y:Ev cx fr W w w'):cO w'.G w'.as v x:=r.mono y.sub y.pre
theorem At.Bb(x:At cx K g w) (y:Ev cx (ek K.l) W w w') (hW:∀a,W a->nj K a):At cx K g w' where
 inv:=y.inv
 fr:=x.fr.Bb y fun _ h q=>(hW _ q).fr h
 eo:=x.eo.Bb y hW
 vars n i a e1 e2:=let⟨v,h,r⟩:=x.vars n i a e1 e2;⟨v,h.ev x.eo y (fun q=>(hW _ q).loc rfl) fun c e q=>(hW _ q).cell n c e rfl,r.ev y⟩
theorem At.ev(x:At cx K g w) (y:iA cx K.l w w'):At cx K g w':=x.Bb y fun _ q=>q.elim
theorem Bc{M:Model}{A:Around}{E:Value->Shared->Prop}{s:Shared}{env:Env}{x:Str}{v:Value}{Q:Value->Shared->Prop}(hk:env.scope.kind=.function) (hn:(x==("__classdict__" : Str))=false) (h:Q v s):pq env s.heap x v->wpAny M A (loadName env x) Q E s
 |.loc k _ n e=>wpAny_loadName_local hk k n e h
 |.cell (.inl k) _ e z=>wpAny_loadName_cell hk k e z h
 |.cell (.inr k) _ e z=>wpAny_loadName_free hk k e z h hn
structure fP(K:Kx) (x:Str) (i:Nat):Prop where
 kind:K.env.kindOf x=some .local\/K.env.kindOf x=some .cell
 at':∀j,(x,j)∈K.vs->j=i
 uniq:∀y,(y,i)∈K.vs->y=x
inductive Spot(env:Env) (x:Str) (b:Addr):Prop
 |loc (k:env.kindOf x=some .local) (e:b=env.locals)
 |cell (k:env.kindOf x=some .cell) (e:env.cells.lookup x=some b)
@[reducible] noncomputable def Wd.at (w:Wd) (s':Shared):Wd:={ w with s:=s' }
theorem qL{h₀ h h':Heap}{a:Addr}(K:OldK h₀ h) (ha:h₀.objs.size<=a) (hs:Heap.ExtBut a h h'):OldK h₀ h':=by
 have ne:∀b o,h₀.get? b=some o->b≠a:=fun b o e=>Nat.ne_of_lt (Nat.lt_of_lt_of_le (Heap.lt_size e) ha)
 refine⟨fun b o e=>?_,fun b o e=>let⟨o',ho'⟩:=K.there b o e;⟨o',hs b o' (ne b o e) ho'⟩⟩
 rcases K.old b o e with x|⟨t,hc,vs,more,hv,x⟩|⟨rfl,hc,⟨o',es,n,ho',r⟩,z⟩
 ·exact .inl (hs b _ (ne b o e) x)
 ·exact .inr (.inl ⟨t,hc,vs,more,hv,hs b _ (ne b o e) x⟩)
 ·exact .inr (.inr ⟨rfl,hc,⟨o',es,n,hs _ _ (ne _ o e) ho',r⟩,fun key=>by rw[OldK.staticOf_congr ((hs _ _ (ne _ o e) ho').trans ho'.symm) key];exact z key⟩)
theorem Inv.ext{fr:List Addr}{b:Addr}{s':Shared}(I:Inv cx w) (p:iz cx w b) (hs:Heap.ExtBut b w.h s'.heap) (hz:w.n<=s'.heap.objs.size) (h1:s'.os=w.s.os) (h2:s'.gens=w.s.gens):Ev cx fr (fun c=>c=b) w (w.at s') where
 inv:=⟨I.rel.step fun c hc=>let⟨o,e⟩:=I.rel.live c hc;(hs c o (fun q=>hc (q▸p.out)) e).trans e.symm,qL I.old p.ge hs,h1.trans I.os,h2.trans I.gens,I.lim.extBut hs (Nat.ne_of_lt (Nat.lt_of_lt_of_le I.low p.ge)),I.low,I.i8,Nat.le_trans I.ge hz,
  let⟨_,e,_,_⟩:=I.tab;I.tab.step ((hs _ _ (Nat.ne_of_lt (Nat.lt_of_lt_of_le I.i8 p.ge)) e).trans e.symm) fun _ _ q=>q⟩
 size:=hz
 keep c _ _ _ _ hw o e:=hs c o hw e
 frame c _ hw:=fun o e=>⟨o.slots,hs c o hw e⟩
 sub _ _ q:=q
 pre _ _ q:=q
 out _ _ q:=q
theorem Inv.dQ{fr:List Addr}{b:Addr}{s':Shared}(I:Inv cx w) (p:iz cx w b) (hs:Heap.SameBut b w.h s'.heap) (h1:s'.os=w.s.os) (h2:s'.gens=w.s.gens):Ev cx fr (fun c=>c=b) w (w.at s'):=I.ext p hs.extBut (Nat.le_of_eq hs.1.symm) h1 h2
theorem iz.same{b:Addr}{s':Shared}(p:iz cx w a) (hs:Heap.SameBut b w.h s'.heap):iz cx (w.at s') a:=⟨p.ge,Nat.lt_of_lt_of_le p.lt (Nat.le_of_eq hs.1.symm),p.out⟩
theorem At.store{x:Str}{i:Nat}{v:Value}{a:AV}{s':Shared}(X:At cx K g w) (V:fP K x i) (I:Inv cx (w.at s')) (fr:dK cx K.l (w.at s')) (eo:jZ cx K (w.at s')) (r:cO w.G w.as v a) (hx:pq K.env s'.heap x v)
  (ho:∀y u,y≠x->pq K.env w.h y u->pq K.env s'.heap y u):At cx K (g.set i (some a)) (w.at s') where
 inv:=I
 fr:=fr
 eo:=eo
 vars y j c e1 e2:=by
  cases qH e2 with
  |here e q=>(injection q with q;subst q);subst e;cases V.uniq y e1;exact⟨v,hx,r⟩
  |there n q =>
   obtain⟨u,h1,h2⟩:=X.vars y j c e1 q
   exact⟨u,ho y u (fun z=>n (V.at' j (z▸e1))) h1,h2⟩
theorem Ns.unique{h:Heap}{m m':Str->Option Value}:h.Ns a m->h.Ns a m'->m=m'
 |⟨o,es,ep,q,d,_,f⟩,⟨o',es',ep',q',d',_,f'⟩=>by
  injection q.symm.trans q' with zx;subst zx
  injection d.symm.trans d' with zx;subst zx
  exact funext fun n=>(f n).symm.trans (f' n)
theorem dK.same{b:Addr}{s':Shared}(x:dK cx l w) (hs:Heap.SameBut b w.h s'.heap) (hb:b∈ek l->JG s'.heap b):dK cx l (w.at s') where
 at' a ha:=(x.at' a ha).same hs
 ob a ha:=by
  by_cases q:a=b
  ·exact q▸hb (q▸ha)
  ·obtain⟨o,e,d⟩:=x.ob a ha;exact⟨o,(hs.2 a q).trans e,d⟩
 env:=x.env
theorem jZ.same{b:Addr}{s':Shared}(x:jZ cx K w) (hs:Heap.SameBut b w.h s'.heap) (hn:∃m,s'.heap.Ns K.env.locals m) (hc:∀y c,K.env.cells.lookup y=some c->∃v,s'.heap.IsCell c v):jZ cx K (w.at s') where
 fn:=x.fn
 glob:=x.glob
 blt:=x.blt
 dQ:=x.dQ.same hs
 ns:=hn
 cell y c e:=let z:=x.cell y c e;⟨z.dQ.same hs,z.JH,z.ne,hc y c e⟩
 apart:=x.apart
 kinds:=x.kinds
theorem jd{h h':Heap}{b c:Addr}{v:Option Value}(hs:Heap.SameBut b h h') (n:c≠b):h.IsCell c v->h'.IsCell c v
 |⟨o,e,d⟩=>⟨o,(hs.2 c n).trans e,d⟩
theorem qM{M:Model}{A:Around}{E:Value->Shared->Prop}{x:Str}{i:Nat}{v:Value}{a:AV}{Q:Unit->Shared->Prop}(X:At cx K g w) (V:fP K x i) (r:cO w.G w.as v a)
  (h:∀b s',Spot K.env x b->Ev cx (ek K.l) (fun c=>c=b) w (w.at s')->At cx K (g.set i (some a)) (w.at s')->Q () s'):wpAny M A (storeName K.env x v) Q E w.s:=by
 obtain⟨m,hm⟩:=X.eo.ns
 rcases V.kind with hx|hx
 ·refine wpAny_storeName_local hx hm (fun h' hn hs=>?_) (by rw[X.eo.fn];rfl)
  have ev:=X.inv.dQ (fr:=ek K.l) (s':=⟨h',w.s.gens,w.s.drawn,w.s.toks+1,w.s.os⟩) X.eo.dQ hs rfl rfl
  refine h _ _ (.loc hx rfl) ev (X.store V ev.inv (X.fr.same hs fun _=>?_) (X.eo.same hs ⟨_,hn⟩ fun y c e=>?_) r (.loc hx _ hn (if_pos rfl)) fun y u hy=>?_)
  ·let⟨o,es,ep,e,d,_⟩:=hn
   exact⟨o,e,fun vs q=>by rw[d] at q;injection q⟩
  ·obtain⟨_,_,q,v,z⟩:=X.eo.cell y c e
   exact⟨v,jd hs q z⟩
  ·rintro(⟨k,m',n',e⟩|⟨k,c,e,z⟩)
   ·cases Ns.unique n' hm;exact .loc k _ hn ((if_neg hy).trans e)
   ·exact .cell k c e (jd hs (X.eo.cell y c e).ne z)
 ·obtain⟨c,hc⟩:=X.eo.kinds x (.inl hx)
  have z:=X.eo.cell x c hc
  obtain⟨Vu,z0⟩:=z.cell
  refine wpAny_storeName_cell X.eo.fn hx hc z0 fun h' hz hs=>?_
  have ev:=X.inv.dQ (fr:=ek K.l) (s':=⟨h',w.s.gens,w.s.drawn,w.s.toks,w.s.os⟩) z.dQ hs rfl rfl
  have Vv:h'.Ns K.env.locals m:=hm.sameBut hs (Ne.symm z.ne)
  refine h _ _ (.cell hx hc) ev (X.store V ev.inv (X.fr.same hs fun q=>absurd q z.JH) (X.eo.same hs ⟨m,Vv⟩ fun y d e=>?_) r (.cell (.inl hx) c hc hz) fun y u hy=>?_)
  ·by_cases q:d=c
   ·exact q▸⟨_,hz⟩
   ·obtain⟨v,y⟩:=(X.eo.cell y d e).cell;exact⟨v,jd hs q y⟩
  ·rintro(⟨k,m',n',e⟩|⟨k,d,e,q⟩)
   ·exact .loc k m' (n'.sameBut hs (Ne.symm z.ne)) e
   ·exact .cell k d e (jd hs (fun qq=>hy (X.eo.apart y x d e (qq▸hc))) q)
end
inductive Vw(cx:Cx) (w:Wd):Value->PV->Prop
 |none:Vw cx w .none .none
 |bool (b:Bool):Vw cx w (.bool b) (.bool b)
 |int (i:Int) (t:Tok):Vw cx w (.int i t) (.int i)
 |str (s:Tx) (t:Tok) (z:sS s=true):Vw cx w (.str (tx s) t) (.str s)
 |ref {a:Addr}{o:FO}{d:PV}{vs:List Value}{l:List PV}(ge:cx.cX<=a) (i:Is cx w.h a o) (q:Sh o d vs l) (r:bh w.G vs l):Vw cx w (.ref a) d
inductive Np(cx:Cx) (w:Wd) (d:PV):Value->Prop
 |mk {a:Addr}{o:FO}{vs:List Value}{l:List PV}(ge:cx.cX<=a) (i:Is cx w.h a o) (q:Sh o d vs l) (r:bh w.G vs l):Np cx w d (.ref a)
theorem Vw.big{cx:Cx}{w:Wd}{v:Value}{d:PV}(x:Vw cx w v d):Nk d=true->Np cx w d v:=by
 cases x with
 |ref ge i q r=>exact fun _=>.mk ge i q r
 |_=>exact fun h=>nomatch h
inductive u7(cx:Cx) (w:Wd) (v:Value):Option PV->Prop
 |none:u7 cx w v Option.none
 |some {d:PV}(x:Vw cx w v d):u7 cx w v (some d)
noncomputable def clsName:gZ->Str
 |.null=>"Null"
 |.missing=>"Missing"
 |.aQ=>"Vector"
 |.symbol=>"Symbol"
 |.call=>"Call"
 |.aJ=>"Vector"
noncomputable def fQ:gZ->Nat
 |.null=>0
 |.missing=>1
 |.aQ=>2
 |.symbol=>4
 |.call=>5
 |.aJ=>2
noncomputable def fh:List Tx:=[[107,105,110,100],[105,116,101,109,115],[97,116,116,114,115],[115,104,97,114,101,100],[108,111,111,115,101],[110,97,109,101],[116,97,103,115],[99,111,100,101]]
theorem kq:∀f∈fh,typeLookup (.type "object") (tx f)=pure none:=by
 intro f hf
 rw[typeLookup_type,builtinLookup_eq_fast]
 revert f
 refine List.forall_mem_cons.mpr ⟨by kernel_rfl,?_⟩
 repeat(refine List.forall_mem_cons.mpr ⟨by kernel_rfl,?_⟩)
 exact fun _ q=>nomatch q
inductive oA(C N:Addr):Obj->Prop
 |mk (nm q:Str) (bs:List Value) (sn:List Str) (sub:List Value) (col:Option Bool) (dd:Option Addr) (k0 k1 k2 k3 k5:Option Value):oA C N (excClassObj nm q C N bs [.type "object"] true sn sub false col dd k0 k1 k2 k3 k5 "object.__new__")
theorem oA.cls{C N:Addr}{o:Obj}(x:oA C N o):o.cls≠.none:=by cases x;exact fun q=>by injection q
structure Iz(cx:Cx) (c:gZ) (N:Addr) (mN:Str->Option Value):Prop where
 obj:∃o,cx.h₀.get? (cx.cA c)=some o/\oA (cx.cA c) N o
 ns:cx.h₀.Ns N mN
 Nq:∀o,cx.h₀.get? N=some o->o.cls≠.none
 ga:mN "__getattribute__" = none
 Q6:mN "__getattr__" = none
 sa:mN "__setattr__" = none
 fields:∀f∈fh,mN (tx f)=none
 init:mN "__init__" = some (.ref (cx.fA (fQ c)))
 copy:c=.aQ->mN "copy" = some (.ref (cx.fA 3))
inductive IA(cx:Cx) (c:gZ):Prop
 |mk (N:Addr) (mN:Str->Option Value) (x:Iz cx c N mN)
noncomputable def cy:List Str:=["isinstance","len","list","max","range","dict","abs","chr","str"]
structure Base(cx:Cx) (nm:Nat->Option Str):Prop where
 g:cx.h₀.Ns mainGlobals cx.mg
 gC:∀o,cx.h₀.get? mainGlobals=some o->o.cls≠.none
 b:cx.h₀.Ns builtinsNs cx.mb
 bC:∀o,cx.h₀.get? builtinsNs=some o->o.cls≠.none
 blt:∀x∈cy,cx.mg x=none/\cx.mb x=bootBuiltins x
 cls:∀c,IA cx c
 cg:∀c,cx.mg (clsName c)=some (.ref (cx.cA c))
 fg:∀k x,nm k=some x->cx.mg x=some (.ref (cx.fA k))
 most:∃t,cx.mg "MOST_LENGTH" = some (.int 1000000 t)
 sys:sysModules<cx.cX
 v0:cx.cA .aJ=cx.cA .aQ
section
variable {cx:Cx}{nm:Nat->Option Str}{w:Wd}{K:Kx}{g:Gm}{v:Value}{a:AV}{d:PV}{h:Heap}{A:Around}{l:List Env}{E:Value->Shared->Prop}{Q:Value->Shared->Prop}{G:Addr->Lg}{as:List Pl}{f:Tx}
theorem Rep.vw(S:eS cx w):Rep w.G v d->Vw cx w v d
 |.none=>.none
 |.bool b=>.bool b
 |.int i t=>.int i t
 |.str s t z=>.str s t z
 |.ref e q r=>.ref (S.lo _ (e▸fun q=>by injection q)) (S.fz _ _ e) q r
theorem gn.vw{p:Pl}{i:Nat}{nd:Node}(S:eS cx w) (e1:w.as[i]? = some p) (e2:w.st[i]? = some nd):u7 cx w (.ref p.1) (Jp (some nd)):=by
 cases S.nodes i p nd e1 e2 with
 |fz r=>exact .some (r.vw S)
 |tr e j q r =>
  have z:=Vw.ref (S.lo _ (S.ff i p nd e1 e2 _ (u0 e)▸fun q=>by injection q)) j q r
  cases nd<;>first| (cases e;exact .some z)|injection e
 |inst=>exact .none
theorem cO.vw(S:eS cx w):∀{a:AV},cO w.G w.as v a->u7 cx w v (vw w.st a)
 |.t _,r=>.some (Rep.vw S r)
 |.r i,.mk p e q=>by
  subst q
  show u7 cx w _ (Jp w.st[i]?)
  cases h:w.st[i]? with
  |none=>exact .none
  |some nd=>exact gn.vw S e h
theorem OldK.tN{a:Addr}{m:Str->Option Value}(K:OldK cx.h₀ h) (n:cx.h₀.Ns a m) (hc:∀o,cx.h₀.get? a=some o->o.cls≠.none):h.Ns a m:=by
 obtain⟨o,es,ep,e,r⟩:=n
 exact⟨o,es,ep,K.get_of_cls e (hc o e),r⟩
structure F2(h:Heap) (C N:Addr) (mN:Str->Option Value):Prop where
 obj:∃o,h.get? C=some o/\oA C N o
 ns:h.Ns N mN
theorem OldK.cls{c:gZ}{N:Addr}{mN:Str->Option Value}(K:OldK cx.h₀ h) (X:Iz cx c N mN):F2 h (cx.cA c) N mN where
 obj:=let⟨o,e,z⟩:=X.obj;⟨o,K.get_of_cls e z.cls,z⟩
 ns:=OldK.tN K X.ns X.Nq
noncomputable def SE(cx:Cx) (K:Kx) (x:Expr) (f:Kv):Prop:=∀g w,At cx K g w->Wp cx K.A K.l w (eval x K.env) (f g w.st) cG
theorem bT.same{s':Shared}(T:bT cx l w (Mine.ok a w.st) cG Q E) (I:Inv cx w) (r:cO w.G w.as v a) (h0:s'.heap=w.h:=by rfl) (h1:s'.os=w.s.os:=by rfl) (h2:s'.gens=w.s.gens:=by rfl):Q v s':=T.ok a v (w.at s') rfl (I.toks h0 h1 h2) r
theorem F3{k:Nat}{pos:Pos}:SE cx K (.Constant .none k pos) fun _ st=>ok (.t .none) st:=fun _ _ X _ _ T=>wpAny_Constant_none (T.done X.inv Rep.none)
theorem F4{b:Bool}{k:Nat}{pos:Pos}:SE cx K (.Constant (.bool b) k pos) fun _ st=>ok (.t (.bool b)) st:=fun _ _ X _ _ T=>wpAny_Constant_bool (T.done X.inv (Rep.bool b))
theorem JI{i:Int}{k:Nat}{pos:Pos}:SE cx K (.Constant (.int i) k pos) fun _ st=>ok (.t (.int i)) st:=fun _ _ X _ _ T=>wpAny_Constant_int (T.same X.inv (Rep.int i _))
theorem JJ{x:Tx}{k:Nat}{pos:Pos}(hx:sS x=true):SE cx K (.Constant (.str (tx x)) k pos) fun _ st=>ok (.t (.str x)) st:=fun _ _ X _ _ T=>wpAny_Constant_str (T.same X.inv (Rep.str x _ hx))
theorem JK{x:Str}{pos:Pos}{o:Option (Option AV)}(I:Inv cx w) (hk:K.env.scope.kind=.function) (hd:(x==("__debug__" : Str))=false) (hn:(x==("__classdict__" : Str))=false) (h:∀a,o=some (some a)->CT K w x a) :
  Wp cx A l w (eval (.Name x pos) K.env) (A3 o w.st) cG:=by
 induction o with
 |none=>exact .none
 |some o=>induction o with
  |none=>exact .none
  |some a=>exact fun Q E T=>let⟨v,h1,h2⟩:=h a rfl;wpAny_Name (Bc hk hn (T.done I h2) h1) hd
theorem JL{x:Str}{i:Nat}{pos:Pos}(hx:(x,i)∈K.vs) (hd:(x==("__debug__" : Str))=false) (hn:(x==("__classdict__" : Str))=false):SE cx K (.Name x pos) fun g st=>A3 g[i]? st :=
 fun _ _ X=>JK X.inv X.eo.fn hd hn fun a e=>X.vars x i a hx e
theorem gp{x:Str}{pos:Pos}(X:At cx K g w) (B:Base cx nm) (hk:K.env.kindOf x=some .globalImplicit) (hd:(x==("__debug__" : Str))=false) (hv:cx.mg x=some v) (h:Q v w.s) :
  wpAny (model cx.prog cx.w) A (eval (.Name x pos) K.env) Q E w.s :=
 Name_function_global X.eo.fn hk (loadGlobal_global (by rw[X.eo.glob];exact OldK.tN X.inv.old B.g B.gC) hv h) hd
theorem iJ{x:Str}{pos:Pos}(X:At cx K g w) (B:Base cx nm) (hk:K.env.kindOf x=some .globalImplicit) (hd:(x==("__debug__" : Str))=false) (hu:x∈cy) (hv:bootBuiltins x=some v) (h:Q v w.s) :
  wpAny (model cx.prog cx.w) A (eval (.Name x pos) K.env) Q E w.s :=
 Name_function_global X.eo.fn hk (loadGlobal_builtin (by rw[X.eo.glob];exact OldK.tN X.inv.old B.g B.gC) (B.blt x hu).1 (by rw[X.eo.blt];exact OldK.tN X.inv.old B.b B.bC) ((B.blt x hu).2.trans hv) h) hd
theorem F5{pos:Pos}(B:Base cx nm) (hk:K.env.kindOf "MOST_LENGTH" = some .globalImplicit):SE cx K (.Name "MOST_LENGTH" pos) fun _ st=>ok (.t (.int 1000000)) st:=fun _ _ X _ _ T =>
 let⟨t,ht⟩:=B.most;gp X B hk (by decide) ht (T.done X.inv (Rep.int 1000000 t))
theorem Rep.handed(r:Rep G v d):handedOut v=pure v:=by cases r<;>rfl
theorem cO.handed:∀{a:AV},cO G as v a->handedOut v=pure v
 |.t _,r=>Rep.handed r
 |.r _,.mk _ _ q=>q▸rfl
inductive Vx(G:Addr->Lg) (as:List Pl) (gs:List (Tx×Value)) (f:Tx) (b:AV):Prop
 |mk (u:Value) (m:(f,u)∈gs) (r:cO G as u b)
theorem oz.find{b:AV}{gs:List (Tx×Value)}{fs:List (Tx×AV)}(x:oz G as gs fs) (e:cj f fs=some b):Vx G as gs f b:=by
 induction x with
 |nil=>injection e
 |@cons k u c gs fs x r ih =>
  unfold cj at e
  by_cases h:k=f
  ·rw[if_pos h] at e;(injection e with e;subst e);exact .mk u (h▸.head _) x
  ·rw[if_neg h] at e;obtain⟨u,m,r⟩:=ih e;exact .mk u (.tail _ m) r
theorem oz.zT:∀{gs:List (Tx×Value)}{fs:List (Tx×PV)},gs.map (·.1)=fs.map (·.1)->bh G (gs.map (·.2)) (fs.map (·.2))->oz G as gs (fs.map fun p=>(p.1,.t p.2))
 |[],[],_,_=>.nil
 |(_,_)::_,(_,_)::_,e,.cons x r=>by
  obtain⟨q,e'⟩:=List.cons.inj e
  subst q
  exact .cons x (oz.zT e' r)
theorem zU:∀{fs:List (Tx×PV)},cj f (fs.map fun p=>(p.1,AV.t p.2))=(cj f fs).map AV.t
 |[]=>rfl
 |(k,_)::fs=>by
  show(if k=f then _ else cj f (fs.map _))=Option.map AV.t (if k=f then _ else cj f fs)
  by_cases h:k=f
  ·rw[if_pos h,if_pos h];rfl
  ·rw[if_neg h,if_neg h];exact zU
theorem xy{a dx:Addr}{c:gZ}{gs:List (Tx×Value)}{fs:List (Tx×AV)}(I:Inv cx w) (B:Base cx nm) (hf:f∈fh) (i:mq cx w.h a dx c gs) (x:oz w.G w.as gs fs):Wp cx A l w (getAttr (.ref a) (tx f) true) (A0 (cj f fs) w.st) cG:=by
 cases h:cj f fs with
 |none=>exact .none
 |some b =>
  obtain⟨u,m,r⟩:=x.find h
  obtain⟨mm,i,_,hm⟩:=i
  obtain⟨N,mN,X⟩:=B.cls c
  have hX:=OldK.cls I.old X
  obtain⟨o,hC,z⟩:=hX.obj
  induction z
  exact fun Q E T=>load_attrFk hC hX.ns X.ga (X.fields f hf) (kq f hf) i.fk (hm _ m).2 r.handed (T.same I r)
theorem F6(I:Inv cx w) (B:Base cx nm) (hf:f∈fh):∀{a:AV},cO w.G w.as v a->Wp cx A l w (getAttr v (tx f) true) (CH f w.st a) cG:=by
 have tree:∀(d:PV),Rep w.G v d->Wp cx A l w (getAttr v (tx f) true) (A0 (MW f d) w.st) cG:=fun d r=>by
  cases r with
  |ref e q r =>
   induction q with
   |ins k=>have z:=xy (A:=A) (l:=l) I B hf (I.rel.fz _ _ e) (oz.zT k r);rw[zU] at z;exact z
   |_=>exact .none
  |_=>exact .none
 intro a r
 induction a with
 |t d=>exact tree d r
 |r i =>
  obtain⟨p,e,rfl⟩:=r
  show Wp cx A l w _ (A0 (MV f w.st[i]?) w.st) cG
  cases h:w.st[i]? with
  |none=>exact .none
  |some nd =>
   cases I.rel.nodes i p nd e h with
   |fz r=>have z:=tree _ r;rename_i d;cases d<;>first| exact z|exact .none
   |tr e=>cases nd<;>first| exact .none|injection e
   |inst j x=>exact xy I B hf j x
end
end Mine
namespace Mine
open PySem PySem.W PySem.Calls PyProof.Rows PySem.SeqAt
noncomputable def Fp(cx:Cx) (A:Around) (s:Shared) (y x:Value) (b:Bool):Prop:=∀(E:Value->Shared->Prop) (Q:Bool->Shared->Prop),Q b s->wpAny (model cx.prog cx.w) A (eqBool y x) Q E s
structure CV(cx:Cx) (A:Around) (s:Shared) (y x:Value) (b:Bool):Prop where
 eq:∀(E:Value->Shared->Prop) (Q:Value->Shared->Prop),Q (.bool b) s->wpAny (model cx.prog cx.w) A (compareOp .Eq y x) Q E s
 ne:∀(E:Value->Shared->Prop) (Q:Value->Shared->Prop),Q (.bool (!b)) s->wpAny (model cx.prog cx.w) A (compareOp .NotEq y x) Q E s
section
variable {cx:Cx}{A:Around}{s:Shared}{w:Wd}{v u:Value}{d e:PV}{b:Bool}{G:Addr->Lg}
theorem Fp.of(h:EqAt A s v u b):Fp cx A s v u b:=h cx.prog cx.w
theorem CV.of(h1:RcAt A s v u b) (h2:RcNeAt A s v u (!b)):CV cx A s v u b:=⟨h1 cx.prog cx.w,h2 cx.prog cx.w⟩
theorem Fp.of_refs{l m:Addr}(IB:l≠m) (h:CV cx A s (.ref l) (.ref m) b):Fp cx A s (.ref l) (.ref m) b:=fun E Q hq=>by
 unfold eqBool
 refine wpAny_holding ?_
 refine wpAny_ite_split (fun wQ=>absurd (by have:=eq_of_beq wQ;injection this) IB) (fun _=>?_)
 exact wpAny_bind (h.eq E _ (wpAny_truthy_bool hq))
theorem JM{l m:Addr}{items mQ:Array Value}(hl:IsTup s.heap l items) (hb:IsTup s.heap m mQ) (hu:A.units<cLine) (hz:items.size=mQ.size)
  (he:∀p∈items.toList.zip mQ.toList,Fp cx A.in1 s p.1 p.2 true):∀E Q,Q (.bool true) s->wpAny (model cx.prog cx.w) A (compareOp .Eq (.ref l) (.ref m)) Q E s:=fun E Q h=>by
 obtain⟨⟨cls,dd,data,sl⟩,ho,hc,n,hd⟩:=hl
 obtain⟨⟨Q7,dd2,data2,sl2⟩,F7,JN,n2,hd2⟩:=hb
 simp only at hc hd JN hd2
 subst hc hd JN hd2
 refine wpAny_richCompare_same_room (op:=.Eq) ⟨_,ho,rfl⟩ ⟨_,F7,rfl⟩ PySem.F.slot_tuple_eq (wpAny_call_entry PySem.F.slot_tuple_eq ⟨_,ho,rfl⟩ PySem.F.entry_tuple_eq ?_ (PySem.F.args_tuple_eq_2 _ _)) hu
 have f2:=AutoSeq1.sub_tuple_tuple
 wp_walk using AutoSeq1.wpAny_loadPart' ho,AutoSeq1.wpAny_loadPart' F7,wpAny_forIn_list _ (fun rest b s'=>b.1=none/\s'=s/\∀p∈rest,Fp cx A.in1 s p.1 p.2 true) _
 case turn =>
  rintro⟨y,x⟩ rest b s' ⟨hb',rfl,hR⟩
  refine wpAny_bind (hR _ (.head _) _ _ ?_)
  wp_walk
  exact⟨rfl,rfl,fun p hp=>hR p (.tail _ hp)⟩
 case fin =>
  rintro⟨b1,b2⟩ s' ⟨hb',rfl,_⟩
  subst hb'
  wp_walk
  exact⟨_,rfl,fun z=>(nomatch z),by simpa [Builtin.Tuple.tupleCompareSizes,hz] using h⟩
 case h=>exact⟨rfl,rfl,he⟩
theorem tup_ne{l m:Addr}{items mQ:Array Value}(hl:IsTup s.heap l items) (hb:IsTup s.heap m mQ) (hu:A.units<cLine) (hz:items.size=mQ.size)
  (he:∀p∈items.toList.zip mQ.toList,Fp cx A.in1 s p.1 p.2 true):∀E Q,Q (.bool false) s->wpAny (model cx.prog cx.w) A (compareOp .NotEq (.ref l) (.ref m)) Q E s:=fun E Q h=>by
 obtain⟨⟨cls,dd,data,sl⟩,ho,hc,n,hd⟩:=hl
 obtain⟨⟨Q7,dd2,data2,sl2⟩,F7,JN,n2,hd2⟩:=hb
 simp only at hc hd JN hd2
 subst hc hd JN hd2
 refine wpAny_richCompare_same_room (op:=.NotEq) ⟨_,ho,rfl⟩ ⟨_,F7,rfl⟩ PySem.F.slot_tuple_ne (wpAny_call_entry PySem.F.slot_tuple_ne ⟨_,ho,rfl⟩ PySem.F.entry_tuple_ne ?_ (PySem.F.args_tuple_ne_2 _ _)) hu
 have f2:=AutoSeq1.sub_tuple_tuple
 wp_walk using AutoSeq1.wpAny_loadPart' ho,AutoSeq1.wpAny_loadPart' F7,wpAny_forIn_list _ (fun rest b s'=>b.1=none/\s'=s/\∀p∈rest,Fp cx A.in1 s p.1 p.2 true) _
 case turn =>
  rintro⟨y,x⟩ rest b s' ⟨hb',rfl,hR⟩
  refine wpAny_bind (hR _ (.head _) _ _ ?_)
  wp_walk
  exact⟨rfl,rfl,fun p hp=>hR p (.tail _ hp)⟩
 case fin =>
  rintro⟨b1,b2⟩ s' ⟨hb',rfl,_⟩
  subst hb'
  wp_walk
  exact⟨_,rfl,fun z=>(nomatch z),by simpa [Builtin.Tuple.tupleCompareSizes,hz,bne] using h⟩
 case h=>exact⟨rfl,rfl,he⟩
noncomputable def toPy:PV->PyData
 |.int i=>.int i
 |.str s=>.str (tx s)
 |_=>.none
theorem Sh.yZ{o:FO}{vs:List Value}{l:List PV}(q:Sh o d vs l) (h:fN d=true):False:=by cases q<;>injection h
theorem flat(h:fN d=true):Rep G v d->PyProof.V.Flat v (toPy d)
 |.none=>fun _=>.none
 |.int i t=>fun _=>.int i t
 |.str s t _=>fun _=>.str (tx s) t
 |.bool _=>nomatch h
 |.ref _ q _=>(q.yZ h).elim
theorem CW(s t:Tx):(tx s==tx t)=decide (s=t):=by
 by_cases h:s=t
 ·subst h;rw[decide_eq_true rfl,beq_self_eq_true]
 ·rw[decide_eq_false h];exact beq_eq_false_iff_ne.mpr fun z=>h (kh z)
theorem Nr(x:Vw cx w v d) (y:Vw cx w u e) (hd:fN d=true) (he:fN e=true):CV cx A w.s v u (i7 d e):=by
 induction x with
 |none=>induction y with
  |none=>exact .of RcAt.none_none RcNeAt.none_none
  |int j t=>exact .of (RcAt.none_int j t) (RcNeAt.none_int j t)
  |str s t=>exact .of (RcAt.none_str _ t) (RcNeAt.none_str _ t)
  |bool=>injection he
  |ref _ _ q=>exact(q.yZ he).elim
 |int i t=>induction y with
  |none=>exact .of (RcAt.int_none i t) (RcNeAt.int_none i t)
  |int j t'=>exact .of (RcAt.int_int i t j t') (RcNeAt.int_int i t j t')
  |str s t'=>exact .of (RcAt.int_str i t _ t') (RcNeAt.int_str i t _ t')
  |bool=>injection he
  |ref _ _ q=>exact(q.yZ he).elim
 |str s t=>induction y with
  |none=>exact .of (RcAt.str_none _ t) (RcNeAt.str_none _ t)
  |int j t'=>exact .of (RcAt.str_int _ t j t') (RcNeAt.str_int _ t j t')
  |str s' t' =>
   have z:CV cx A w.s (.str (tx s) t) (.str (tx s') t') (tx s==tx s'):=.of (RcAt.str_str _ t _ t') (RcNeAt.str_str _ t _ t')
   rw[CW] at z;exact z
  |bool=>injection he
  |ref _ _ q=>exact(q.yZ he).elim
 |bool=>injection hd
 |ref _ _ q=>exact(q.yZ hd).elim
theorem JO:∀{d e:PV},fN d=true->fN e=true->PyData.eqv (toPy d) (toPy e)=i7 d e
 |.none,.none,_,_=>rfl
 |.none,.int _,_,_=>rfl
 |.none,.str _,_,_=>rfl
 |.int _,.none,_,_=>rfl
 |.int _,.int _,_,_=>rfl
 |.int _,.str _,_,_=>rfl
 |.str _,.none,_,_=>rfl
 |.str _,.int _,_,_=>rfl
 |.str s,.str t,_,_=>CW s t
theorem CX(x:Rep G v d) (y:Rep G u e) (hd:fN d=true) (he:fN e=true):EqAt A s v u (i7 d e):=JO hd he▸keq_flat (flat hd x) (flat he y)
theorem tP:∀{d:PV},fN d=true->i7 d d=true
 |.none,_=>rfl
 |.int _,_=>decide_eq_true rfl
 |.str _,_=>decide_eq_true rfl
inductive Q8(G:Addr->Lg) (v u:Value) (l:List PV):Prop
 |mk (d:PV) (m:d∈l) (x:Rep G v d) (y:Rep G u d)
theorem bh.both{vs us:List Value}{l:List PV}(r:bh G vs l) (q:bh G us l):∀p∈vs.zip us,Q8 G p.1 p.2 l:=by
 induction r using bh.ind generalizing us with
 |h0=>exact fun _ h=>nomatch h
 |h1 v vs d l x r ih =>
  cases q with
  |cons y q =>
   intro p h
   rcases List.mem_cons.mp h with rfl|h
   ·exact .mk d (.head _) x y
   ·cases ih q p h with| mk e m a b=>exact .mk e (.tail _ m) a b
theorem bh.length{vs:List Value}{l:List PV}(r:bh G vs l):vs.length=l.length:=by
 induction r using bh.ind with
 |h0=>rfl
 |h1 v vs d l x r ih=>exact congrArg Nat.succ ih
theorem all_true(n:Nat):(List.range n).all (fun _=>true)=true:=List.all_eq_true.mpr fun _ _=>rfl
theorem zV{p p':Program}{w w':World}{h:Heap}{a:Addr}(d:h.DictOf (strKind p w) a []):h.DictOf (strKind p' w') a []:=by
 obtain⟨o,es,ep,e,ex,hd,_,pp,_⟩:=d
 have:es=#[]:=by
  cases he:es.toList with
  |nil=>exact Array.toList_eq_nil_iff.mp he
  |cons x r=>rw[he] at pp;cases pp
 subst this
 exact⟨o,_,ep,e,ex,hd,fun e he=>absurd he (by simp),.nil,by simp⟩
theorem JP{α:Type}{vs us:List α}(j:Nat) (h1:j<vs.toArray.size) (h2:j<us.toArray.size):(vs.toArray[j],us.toArray[j])∈vs.zip us :=
 by
 simp only[List.size_toArray] at h1 h2
 exact List.mem_iff_getElem.mpr ⟨j,by rw[List.length_zip];omega,by simp⟩
noncomputable def xA(cx:Cx) (w:Wd) (A:Around) (l:List PV):Prop:=∀d∈l,∀{v u:Value},Rep w.G v d->Rep w.G u d->EqAt A w.s v u true
theorem xA.at{vs us:List Value}{l:List PV}(h:xA cx w A l) (r:bh w.G vs l) (r':bh w.G us l) (j:Nat) (h1:j<vs.toArray.size) (h2:j<us.toArray.size):EqAt A w.s vs.toArray[j] us.toArray[j] true :=
 let⟨d,m,a,b⟩:=bh.both r r' _ (JP j h1 h2)
 h d m a b
theorem u9(S:eS cx w) (hs:sysModules<cx.cX){a:Addr}{o:FO}(g:w.G a=.fz o):(a==sysModules)=false:=beq_eq_false_iff_ne.mpr (Nat.ne_of_gt (Nat.lt_of_lt_of_le hs (S.lo _ (g▸fun q=>nomatch q))))
theorem CY(S:eS cx w){l:List PV}(h:xA cx w A.in1 l) (hu:A.units<cLine) (x:Rep w.G v (.tup l)) (y:Rep w.G u (.tup l)):EqAt A w.s v u true:=by
 induction x.big rfl with| @mk a _ vs _ g q r =>
 induction y.big rfl with| @mk b _ us _ g' q' r' =>
 by_cases wQ:a=b
 ·exact wQ▸EqAt.same _
 induction q.Qh with| mk z =>
 induction q'.Qh with| mk z' =>
 have:=RcAt.tuples (e:=fun _=>true) (S.fz _ _ g).tup (S.fz _ _ g').tup hu (h.at r r')
 rw[all_true,List.size_toArray,List.size_toArray,r.length,r'.length,beq_self_eq_true] at this
 exact EqAt.of_refs wQ this
theorem CZ(S:eS cx w){l:List PV}(h:xA cx w A.in1 l) (hu:A.units<cLine) (x:Rep w.G v (.lst l)) (y:Rep w.G u (.lst l)):EqAt A w.s v u true:=by
 induction x.big rfl with| @mk a _ vs _ g q r =>
 induction y.big rfl with| @mk b _ us _ g' q' r' =>
 by_cases wQ:a=b
 ·exact wQ▸EqAt.same _
 induction q.Qg with| mk z =>
 induction q'.Qg with| mk z' =>
 have:=RcAt.lists (e:=fun _=>true) (Heap.PlainList.isList ⟨_,S.fz _ _ g⟩) (Heap.PlainList.isList ⟨_,S.fz _ _ g'⟩) (r.length.trans r'.length.symm) hu (h.at r r')
 rw[all_true] at this
 exact EqAt.of_refs wQ this
theorem C0(S:eS cx w) (hs:sysModules<cx.cX) (hu:A.units<cLine) (x:Rep w.G v (.aK [])) (y:Rep w.G u (.aK [])):EqAt A w.s v u true:=by
 induction x.big rfl with| @mk a _ vs _ g q r =>
 induction y.big rfl with| @mk b _ us _ g' q' r' =>
 by_cases wQ:a=b
 ·exact wQ▸EqAt.same _
 induction q.Mi with| mk z k n =>
 induction q'.Mi with| mk z' k' n' =>
 obtain rfl:=List.map_eq_nil_iff.mp k
 obtain rfl:=List.map_eq_nil_iff.mp k'
 exact EqAt.of_refs wQ fun prog w' E Q h=>keq_eq (r:=true) (u9 S hs g) (u9 S hs g') (zV (p':=prog) (w':=w') (Heap.DictAt.dictOf (S.fz _ _ g))) (zV (Heap.DictAt.dictOf (S.fz _ _ g'))) hu (fun _=>.nil) h
theorem tQ(S:eS cx w) (hs:sysModules<cx.cX) (n:Nat):∀{A:Around}{v u:Value}{d:PV},mZ n d=true->Rep w.G v d->Rep w.G u d->A.units+n<cLine->EqAt A w.s v u true:=by
 induction n with
 |zero=>exact fun h x y _=>tP h▸CX x y h h
 |succ n ih =>
  intro A v u d h x y hu
  have F8:A.units<cLine:=Nat.lt_of_le_of_lt (Nat.le_add_right ..) hu
  have it:∀{l:List PV},l.all (mZ n)=true->xA cx w A.in1 l:=fun h d m v u a b=>ih (List.all_eq_true.mp h d m) a b (by rw[show A.in1.units=A.units+1 from rfl,Nat.add_assoc,Nat.add_comm 1];exact hu)
  by_cases hd:fN d=true
  ·exact tP hd▸CX x y hd hd
  cases d with
  |tup l=>exact CY S (it h) F8 x y
  |lst l=>exact CZ S (it h) F8 x y
  |aK l =>
   obtain rfl:=List.isEmpty_iff.mp h
   exact C0 S hs F8 x y
  |_=>exact absurd h hd
end
section
variable {cx:Cx}{A:Around}{w:Wd}{v u:Value}{d e:PV}{b:Bool}{G:Addr->Lg}
theorem pA:∀{kvs:List (Str×Value)},(kvs.map (·.1)).Nodup->∀p∈kvs,valueAt kvs p.1=some p.2
 |p::kvs,nd,_,.head _=>by
  unfold valueAt
  rw[List.find?_cons,decide_eq_true rfl];rfl
 |q::kvs,nd,p,.tail _ h=>by
  obtain⟨h1,h2⟩:=List.nodup_cons.mp nd
  have ih:=pA h2 p h
  unfold valueAt at ih ⊢
  have h0:decide (q.1=p.1)=false:=decide_eq_false fun z=>h1 (by show q.1∈_;rw[z];exact List.mem_map_of_mem (f:=(·.1)) h)
  rw[List.find?_cons,h0]
  exact ih
theorem F9(S:eS cx w) (hs:sysModules<cx.cX) (hu:A.units+8<cLine){kb:List (Str×Value)}:∀{ka k':List (Str×Value)}{l:List PV},ka.map (·.1)=k'.map (·.1)->bh w.G (ka.map (·.2)) l->bh w.G (k'.map (·.2)) l ->
  (∀p∈k',valueAt kb p.1=some p.2)->(∀d∈l,mZ 8 d=true)->KeqHits A w.s kb ka true:=by
 intro ka
 induction ka with
 |nil=>exact fun _ _ _ _ _=>.nil
 |cons p ka ih =>
  intro k' l e r q hm hf
  cases k' with
  |nil=>injection e
  |cons p' k' =>
   cases r with| cons r1 r2 =>
   cases q with| cons q1 q2 =>
   have e1:p.1=p'.1:=(List.cons.inj e).1
   exact .hit (e:=true) (b:=true) (e1▸hm _ (.head _)) (tQ S hs 8 (hf _ (.head _)) r1 q1 hu) (ih (List.cons.inj e).2 r2 q2 (fun p hp=>hm p (.tail _ hp)) fun d hd=>hf d (.tail _ hd))
theorem zW{a c:Addr}{ka kb:List (Str×Value)}(ha:(a==sysModules)=false) (hb:(c==sysModules)=false) (da:w.h.DictOf (strKind cx.prog cx.w) a ka) (db:w.h.DictOf (strKind cx.prog cx.w) c kb) (hu:A.units<cLine)
  (hits:ka.length=kb.length->KeqHits A.in1 w.s kb ka true):CV cx A w.s (.ref a) (.ref c) (ka.length==kb.length) :=
 ⟨fun E Q h=>keq_eq ha hb da db hu hits (by rw[Bool.and_true];exact h),fun E Q h=>keq_ne ha hb da db hu hits (by rw[Bool.and_true];exact h)⟩
theorem Ga{a c:Addr}{vs us:List Value}(l1:w.h.IsList a vs.toArray) (l2:w.h.IsList c us.toArray) (hu:A.units<cLine) (h:vs.length=us.length->vs.length=0):CV cx A w.s (.ref a) (.ref c) (vs.length==us.length):=by
 by_cases e:vs.length=us.length
 ·have he:∀j (h1:j<vs.toArray.size) (h2:j<us.toArray.size),EqAt A.in1 w.s vs.toArray[j] us.toArray[j] true:=fun j h1 _=>absurd h1 (by rw[List.size_toArray,h e];exact Nat.not_lt_zero _)
  have z1:=RcAt.lists (e:=fun _=>true) l1 l2 e hu he
  have z2:=RcNeAt.lists (e:=fun _=>true) l1 l2 e hu he
  rw[all_true] at z1 z2
  rw[e,beq_self_eq_true]
  exact .of z1 z2
 ·rw[beq_eq_false_iff_ne.mpr e]
  exact .of (RcAt.lists_lengths l1 l2 (bne_iff_ne.mpr e) hu) (RcNeAt.lists_lengths l1 l2 (bne_iff_ne.mpr e) hu)
theorem C1{a:Addr}{ka:List (Str×Value)}(d:w.h.DictOf (strKind cx.prog cx.w) a ka):(ka.map (·.1)).Nodup:=by
 obtain⟨_,_,_,JQ⟩:=d;have nd:=JQ.2.2.2.2.2;exact nd
theorem big(hs:sysModules<cx.cX){a:Addr}(h:cx.cX<=a):(a==sysModules)=false:=beq_eq_false_iff_ne.mpr (Nat.ne_of_gt (Nat.lt_of_lt_of_le hs h))
theorem map_len{α β:Type}{f:α->β}{l k:List α}(e:l.map f=k.map f):l.length=k.length:=by have:=congrArg List.length e;rwa [List.length_map,List.length_map] at this
theorem C2(S:eS cx w) (hs:sysModules<cx.cX) (hu:A.units+10<cLine){l:List (Tx×PV)}(h:∀p∈l,mZ 8 p.2=true) (x:Rep w.G v (.aK l)) (y:Rep w.G u (.aK l)):Fp cx A w.s v u true:=by
 induction x.big rfl with| @mk a _ vs _ g q r =>
 induction y.big rfl with| @mk c _ us _ g' q' r' =>
 by_cases wQ:a=c
 ·exact wQ▸.of (EqAt.same _)
 induction q.Mi with| mk z k n =>
 induction q'.Mi with| mk z' k' n' =>
 have e:=k.trans k'.symm
 have db:=Heap.DictAt.dictOf (S.fz _ _ g')
 have z:=zW (A:=A) (u9 S hs g) (u9 S hs g') (Heap.DictAt.dictOf (S.fz _ _ g)) db (Nat.lt_of_le_of_lt (Nat.le_add_right ..) hu) fun _ =>
  F9 S hs (by show A.units+1+8<cLine;omega) e r r' (pA (C1 db)) fun d hd=>by
   obtain⟨p,hp,rfl⟩:=List.mem_map.mp hd
   exact h p hp
 rw[map_len e,beq_self_eq_true] at z
 exact .of_refs wQ z
theorem C3(S:eS cx w) (hs:sysModules<cx.cX) (hu:A.units+10<cLine) (h:Cp d=true) (x:Rep w.G v d) (y:Rep w.G u d):Fp cx A w.s v u true:=by
 rcases(Bool.or_eq_true _ _).mp h with h|h
 ·exact .of (tQ S hs 8 h x y (by omega))
 ·cases d with
  |aK l=>exact C2 S hs hu (List.all_eq_true.mp h) x y
  |_=>injection h
inductive Gb:PV->PV->Bool->Prop
 |sc {d e:PV}(hd:fN d=true) (he:fN e=true):Gb d e (i7 d e)
 |lst {l k:List PV}(h:l.length=k.length->l.length=0):Gb (.lst l) (.lst k) (l.length==k.length)
 |Qi {l k:List (Tx×PV)}(h:l.length=k.length->l.length=0):Gb (.aK l) (.aK k) (l.length==k.length)
 |same {d:PV}(h:CD d=true):Gb d d true
theorem lC(h:qB d e=some b):Gb d e b:=by
 unfold qB at h
 split at h
 ·rename_i q;(injection h with h;subst h);obtain⟨rfl,q⟩:=q;exact .same q
 ·injection h
theorem tR{m n:Nat}(h:tL m n d e=some b) (k:(m=n->m=0)->Gb d e (m==n)):Gb d e b:=by
 unfold tL at h
 split at h
 ·rename_i q
  split at h
  ·rename_i z;(injection h with h;subst h);have:=k fun _=>z;rwa [q,beq_self_eq_true] at this
  ·exact lC h
 ·rename_i q;(injection h with h;subst h);have:=k fun z=>absurd z q;rwa [beq_eq_false_iff_ne.mpr q] at this
theorem zX(h:eqT d e=some b):Gb d e b:=by
 unfold eqT at h
 split at h
 ·rename_i q
  injection h with h;subst h
  obtain⟨h1,h2⟩:=Bool.and_eq_true_iff.mp q
  exact .sc h1 h2
 ·cases d with
  |lst l=>cases e with
   |lst k=>exact tR h .lst
   |_=>exact lC h
  |aK l=>cases e with
   |aK k=>exact tR h .Qi
   |_=>exact lC h
  |_=>exact lC h
theorem JR(hu:A.units<cLine){l k:List PV}(x:Vw cx w v (.lst l)) (y:Vw cx w u (.lst k)) (h:l.length=k.length->l.length=0):CV cx A w.s v u (l.length==k.length):=by
 induction x.big rfl with| mk ge i q r =>
 induction y.big rfl with| mk Q9 i' q' r' =>
 induction q.Qg with| mk z =>
 induction q'.Qg with| mk z' =>
 rw[<-r.length,<-r'.length] at h ⊢
 exact Ga (Heap.PlainList.isList ⟨_,i⟩) (Heap.PlainList.isList ⟨_,i'⟩) hu h
theorem JS(hs:sysModules<cx.cX) (hu:A.units<cLine){l k:List (Tx×PV)}(x:Vw cx w v (.aK l)) (y:Vw cx w u (.aK k)) (h:l.length=k.length->l.length=0):CV cx A w.s v u (l.length==k.length):=by
 induction x.big rfl with| mk ge i q r =>
 induction y.big rfl with| mk Q9 i' q' r' =>
 induction q.Mi with| @mk ka _ z k1 n =>
 induction q'.Mi with| @mk kb _ z' k2 n' =>
 have e1:=congrArg List.length k1
 have e2:=congrArg List.length k2
 rw[List.length_map,List.length_map] at e1 e2
 rw[<-e1,<-e2] at h ⊢
 refine zW (big hs ge) (big hs Q9) (Heap.DictAt.dictOf i) (Heap.DictAt.dictOf i') hu fun e=>?_
 rw[List.eq_nil_of_length_eq_zero (h e)]
 exact .nil
theorem JT(S:eS cx w) (hs:sysModules<cx.cX) (hu:A.units+16<cLine){l:List PV}(x:Vw cx w v (.tup l)) (y:Vw cx w u (.tup l)) (h:CD (.tup l)=true):CV cx A w.s v u true:=by
 induction x.big rfl with| mk ge i q r =>
 induction y.big rfl with| mk Q9 i' q' r' =>
 induction q.Qh with| mk z =>
 induction q'.Qh with| mk z' =>
 have F8:A.units<cLine:=Nat.lt_of_le_of_lt (Nat.le_add_right ..) hu
 have he:=fun p hp=>let⟨d,m,a,b⟩:=bh.both r r' p hp;C3 (A:=A.in1) S hs (by show A.units+1+10<cLine;omega) (List.all_eq_true.mp h d m) a b
 have hz:=r.length.trans r'.length.symm
 exact⟨JM i.tup i'.tup F8 hz he,tup_ne i.tup i'.tup F8 hz he⟩
theorem C4(S:eS cx w) (hs:sysModules<cx.cX) (hu:A.units+16<cLine) (x:Vw cx w v d) (y:Vw cx w u e) (h:Gb d e b):CV cx A w.s v u b:=by
 have F8:A.units<cLine:=Nat.lt_of_le_of_lt (Nat.le_add_right ..) hu
 induction h with
 |sc hd he=>exact Nr x y hd he
 |lst h=>exact JR F8 x y h
 |Qi h=>exact JS hs F8 x y h
 |@same d h =>
  cases d with
  |tup l=>exact JT S hs hu x y h
  |_=>injection h
end
noncomputable def Nt:Cm->CmpOp
 |.eq=>.Eq
 |.ne=>.NotEq
 |.lt=>.Lt
 |.le=>.LtE
 |.gt=>.Gt
 |.ge=>.GtE
 |.is=>.Is
 |.ee=>.IsNot
 |.oj=>.In
 |.sL=>.NotIn
noncomputable def JU(cx:Cx) (A:Around) (s:Shared) (o:CmpOp) (v u:Value) (b:Bool):Prop:=∀(E:Value->Shared->Prop) (Q:Value->Shared->Prop),(∀tk,Q (.bool b) { s with toks:=tk })->wpAny (model cx.prog cx.w) A (compareOp o v u) Q E s
structure Ra(cx:Cx) (A:Around) (s:Shared) (v u:Value) (b:Bool):Prop where
 oj:JU cx A s .In v u b
 sL:JU cx A s .NotIn v u (!b)
noncomputable def Uh:Value->PV
 |.int i _=>.int i
 |.str s _=>.str s.cps.toList
 |_=>.none
noncomputable def Cr(d:PV) (v:Value):Bool:=i7 (Uh v) d
section
variable {cx:Cx}{A:Around}{w:Wd}{v u:Value}{d e:PV}{b:Bool}{G:Addr->Lg}{o:Cm}
theorem y9(h:fN d=true):Rep G v d->Uh v=d
 |.none=>rfl
 |.int _ _=>rfl
 |.str _ _ _=>rfl
 |.bool _=>nomatch h
 |.ref _ q _=>(q.yZ h).elim
theorem Vw.rep(h:fN d=true):Vw cx w v d->Rep w.G v d
 |.none=>.none
 |.int i t=>.int i t
 |.str s t z=>.str s t z
 |.bool _=>nomatch h
 |.ref _ _ q _=>(q.yZ h).elim
theorem zY{vs:List Value}{l:List PV}(r:bh G vs l):l.all fN=true->vs.any (Cr d)=l.any fun e=>i7 e d:=by
 induction r using bh.ind with
 |h0=>exact fun _=>rfl
 |h1 v vs e l x r ih =>
  intro h
  obtain⟨h1,h2⟩:=Bool.and_eq_true_iff.mp h
  rw[List.any_cons,List.any_cons,ih h2,show Cr d v=i7 e d from congrArg (i7 · d) (y9 h1 x)]
theorem xB(y:Rep w.G u d) (hd:fN d=true){vs:List Value}{l:List PV}(r:bh w.G vs l):l.all fN=true->∀v∈vs,EqAt A w.s v u (Cr d v):=by
 induction r using bh.ind with
 |h0=>exact fun _ _ q=>nomatch q
 |h1 v vs e l x r ih =>
  intro h z hz
  obtain⟨h1,h2⟩:=Bool.and_eq_true_iff.mp h
  rcases List.mem_cons.mp hz with rfl|hz
  ·rw[show Cr d z=i7 e d from congrArg (i7 · d) (y9 h1 x)];exact CX x y h1 hd
  ·exact ih h2 z hz
theorem any_toArray{vs:List Value}{f:Value->Bool}:vs.toArray.any f=vs.any f:=List.any_toArray
inductive Rb(d:PV) (l:List PV) (b:Bool):Prop
 |mk (h:fN d=true) (k:l.all fN=true) (e:(l.any fun e=>i7 e d)=b)
theorem zZ{l:List PV}(h:Fo d l=some b):Rb d l b:=by
 unfold Fo at h
 split at h
 ·rename_i q;(injection h with h;subst h);exact .mk (Bool.and_eq_true_iff.mp q).1 (Bool.and_eq_true_iff.mp q).2 rfl
 ·injection h
theorem in_list{a:Addr}{vs:List Value}{l:List PV}(i:w.h.PlainList a vs.toArray) (x:Vw cx w v d) (r:bh w.G vs l):Rb d l b->Ra cx A w.s v (.ref a) b
 |.mk hd hl q=>by
  have he:=fun y hy=>xB (A:=A.in1) (x.rep hd) hd r hl y (List.mem_toArray.mp hy)
  have q:=any_toArray.trans ((zY r hl).trans q)
  exact⟨fun E Q h=>in_listAt _ (Heap.PlainList.isList i) he (by rw[q];exact h _),fun E Q h=>notIn_listAt _ (Heap.PlainList.isList i) he (by rw[q];exact h _)⟩
theorem JV{a:Addr}{vs:List Value}{l:List PV}(i:IsTup w.h a vs.toArray) (x:Vw cx w v d) (r:bh w.G vs l):Rb d l b->Ra cx A w.s v (.ref a) b
 |.mk hd hl q=>by
  have he:=fun y hy=>xB (A:=A.in1) (x.rep hd) hd r hl y (List.mem_toArray.mp hy)
  have q:=any_toArray.trans ((zY r hl).trans q)
  exact⟨fun E Q h=>in_tupleAt _ i he (by rw[q];exact h _),fun E Q h=>notIn_tupleAt _ i he (by rw[q];exact h _)⟩
inductive Val(G:Addr->Lg) (o:Option Value):Option PV->Prop
 |none (e:o=none):Val G o none
 |some {d:PV}(v:Value) (e:o=some v) (r:Rep G v d):Val G o (some d)
theorem pB{K:Type} [DecidableEq K] {k:K}{v:Value}{kvs:List (K×Value)}:valueAt ((k,v)::kvs) k=some v:=by
 unfold valueAt;rw[List.find?_cons,decide_eq_true rfl];rfl
theorem nq{K:Type} [DecidableEq K] {k j:K}{v:Value}{kvs:List (K×Value)}(h:k≠j):valueAt ((k,v)::kvs) j=valueAt kvs j:=by
 unfold valueAt;rw[List.find?_cons,decide_eq_false h]
theorem lD{k:Tx}{kvs:List (Str×Value)}:∀{l:List (Tx×PV)},kvs.map (·.1)=l.map (fun p=>tx p.1)->bh G (kvs.map (·.2)) (l.map (·.2))->Val G (valueAt kvs (tx k)) (cj k l):=by
 induction kvs with
 |nil =>
  intro l q r
  cases l with
  |nil=>exact .none rfl
  |cons=>injection q
 |cons p kvs ih =>
  intro l q r
  cases l with
  |nil=>injection q
  |cons e l =>
   cases r with| cons x r =>
   obtain⟨j,v⟩:=p
   obtain rfl:j=tx e.1:=(List.cons.inj q).1
   unfold cj
   by_cases h:e.1=k
   ·rw[if_pos h,<-h,pB];exact .some v rfl x
   ·rw[if_neg h,nq fun z=>h (kh z)];exact ih (List.cons.inj q).2 r
theorem Be{k:Int}{kvs:List (Int×Value)}:∀{l:List (Int×PV)},kvs.map (·.1)=l.map (·.1)->bh G (kvs.map (·.2)) (l.map (·.2))->Val G (valueAt kvs k) (gK k l):=by
 induction kvs with
 |nil =>
  intro l q r
  cases l with
  |nil=>exact .none rfl
  |cons=>injection q
 |cons p kvs ih =>
  intro l q r
  cases l with
  |nil=>injection q
  |cons e l =>
   cases r with| cons x r =>
   obtain⟨j,v⟩:=p
   obtain rfl:j=e.1:=(List.cons.inj q).1
   unfold gK
   by_cases h:e.1=k
   ·rw[if_pos h,<-h,pB];exact .some v rfl x
   ·rw[if_neg h,nq h];exact ih (List.cons.inj q).2 r
theorem Val.isSome{o:Option Value}{q:Option PV}(x:Val G o q):o.isSome=q.isSome:=by
 induction x with
 |none e=>rw[e];rfl
 |some v e r=>rw[e];rfl
theorem z5(hs:sysModules<cx.cX) (x:Vw cx w v d) (y:Vw cx w u e) (h:isIn d e=some b):Ra cx A w.s v u b:=by
 induction y with
 |ref ge i q r =>
  induction q with
  |lst z=>exact in_list ⟨_,i⟩ x r (zZ h)
  |tup z=>exact JV i.tup x r (zZ h)
  |dS z k n =>
   induction x with
   |str t tk =>
    injection h with h;subst h
    have z:=(lD (k:=t) k r).isSome
    exact⟨fun E Q h=>wpAny_in_of (knd:=strKind cx.prog cx.w) (strKind_is _ _ _ _) (big hs ge) (Heap.DictOf.mapOf (Heap.DictAt.dictOf i)) (by rw[z];exact h _),
     fun E Q h=>wpAny_notIn_of (knd:=strKind cx.prog cx.w) (strKind_is _ _ _ _) (big hs ge) (Heap.DictOf.mapOf (Heap.DictAt.dictOf i)) (by rw[z];exact h _)⟩
   |ref _ _ q _=>cases q<;>injection h
   |_=>injection h
  |dI z k =>
   induction x with
   |int t tk =>
    injection h with h;subst h
    have z:=(Be (k:=t) k r).isSome
    exact⟨fun E Q h=>wpAny_in_of (knd:=intKind cx.prog cx.w) (intKind_is _ _ _ _) (big hs ge) (Heap.DictOf.mapOf i) (by rw[z];exact h _),
     fun E Q h=>wpAny_notIn_of (knd:=intKind cx.prog cx.w) (intKind_is _ _ _ _) (big hs ge) (Heap.DictOf.mapOf i) (by rw[z];exact h _)⟩
   |ref _ _ q _=>cases q<;>injection h
   |_=>injection h
  |ins k=>injection h
 |_=>injection h
theorem Vw.isNone(x:Vw cx w v d):isNone d=(v==.none):=by
 induction x with
 |ref _ _ q _=>induction q<;>rfl
 |_=>rfl
inductive Nu(o:Cm):Value->Value->Bool->Prop
 |mk (i j:Int) (t t':Tok):Nu o (.int i t) (.int j t') (AY o i j)
theorem qi(x:Vw cx w v d) (y:Vw cx w u e) (h:MT o d e=some b):Nu o v u b:=by
 induction x with
 |int i t=>induction y with
  |int j t'=>(injection h with h;subst h);exact .mk i j t t'
  |ref _ _ q _=>cases q<;>injection h
  |_=>injection h
 |ref _ _ q _=>cases q<;>injection h
 |_=>injection h
theorem Ui(y:Vw cx w u e){c:Bool}(h:(if isNone e then some c else Option.none)=some b):u=.none/\b=c:=by
 split at h
 ·rename_i q;(injection h with h;subst h);exact⟨eq_of_beq (y.isNone.symm.trans q),rfl⟩
 ·injection h
theorem C5(S:eS cx w) (hs:sysModules<cx.cX) (hu:A.units+16<cLine) (x:Vw cx w v d) (y:Vw cx w u e) (h:qC o d e=some b):JU cx A w.s (Nt o) v u b:=by
 induction o with
 |eq=>exact fun E Q k=>(C4 S hs hu x y (zX h)).eq E Q (k _)
 |ne =>
  obtain⟨c,q,z⟩:=Option.map_eq_some_iff.mp h
  exact z▸fun E Q k=>(C4 S hs hu x y (zX q)).ne E Q (k _)
 |lt=>cases qi x y h;exact fun E Q k=>PySem.P.lt_int (k _)
 |le=>cases qi x y h;exact fun E Q k=>PySem.P.le_int (k _)
 |gt=>cases qi x y h;exact fun E Q k=>PySem.P.gt_int (k _)
 |ge=>cases qi x y h;exact fun E Q k=>PySem.P.ge_int (k _)
 |is =>
  obtain⟨q,z⟩:=Ui y h
  exact q▸z▸x.isNone▸fun E Q k=>is_none (k _)
 |ee =>
  obtain⟨q,z⟩:=Ui y h
  exact q▸z▸x.isNone▸fun E Q k=>isNot_none (k _)
 |oj=>exact(z5 hs x y h).oj
 |sL =>
  obtain⟨c,q,z⟩:=Option.map_eq_some_iff.mp h
  exact z▸(z5 hs x y q).sL
end
end Mine
namespace Mine
open PySem PySem.W PySem.Calls PyProof.Rows
@[reducible] noncomputable def JW (b c:Bool) (_:Wd):Prop:=b=c
noncomputable def ST(cx:Cx) (K:Kx) (x:Expr) (f:Kv):Prop:=∀g w,At cx K g w->Wp cx K.A K.l w (isTrue x K.env (eval x K.env)) (k1 eV f g w.st) JW
structure SX(cx:Cx) (K:Kx) (x:Expr) (f:Kv):Prop where
 v:SE cx K x f
 t:ST cx K x f
section
variable {cx:Cx}{nm:Nat->Option Str}{w w':Wd}{K:Kx}{g:Gm}{v u:Value}{a b:AV}{A:Around}{l:List Env}{E:Value->Shared->Prop}{x y:Expr}{f f':Kv}{pos:Pos}{α β:Type}{st:aB}
theorem R.bind_assoc{γ:Type}{r:R α}{p:α->aB->R β}{q:β->aB->R γ}:(r.bind p).bind q=r.bind fun a st=>(p a st).bind q:=by
 induction r with
 |none=>rfl
 |some z=>induction z<;>rfl
theorem R.bind_congr{r:R α}{p q:α->aB->R β}(h:∀a st,p a st=q a st):r.bind p=r.bind q:=congrArg _ (funext fun a=>funext (h a))
theorem jr{p:AV->aB->R β}{q:Bool->aB->R β}(h:∀a st,p a st=Mine.oB (cT st a) fun b=>q b st):(f g st).bind p=(k1 eV f g st).bind q:=by
 unfold k1
 rw[R.bind_assoc]
 refine R.bind_congr fun a st=>(h a st).trans ?_
 unfold eV
 induction cT st a<;>rfl
theorem qj{o:Option Bool}{x y:Option α}:gm o x y=Mine.oB o fun b=>gm (some b) x y:=by induction o<;>rfl
theorem Bf{Q:Bool->Shared->Prop}{s':Shared}(x:u7 cx w v o){b:Bool}(q:o.bind truth=some b) (h:Q b s'):wpAny (model cx.prog cx.w) A (truthy v) Q E s':=by
 induction x with
 |none=>injection q
 |some x =>
  induction x with
  |none=>(injection q with q;subst q);exact truthy_none h
  |bool=>(injection q with q;subst q);exact wpAny_truthy_bool h
  |ref _ _ z _=>cases z<;>injection q
  |_=>injection q
theorem lE{Q:Bool->Shared->Prop}{δ:Type}{Rel:δ->β->Wd->Prop}{Q2:δ->Shared->Prop}{k:Bool->R β}(I:Inv cx w) (x:cO w.G w.as v a) (T:bT cx l w (Mine.oB (cT w.st a) k) Rel Q2 E)
  (h:∀b,cT w.st a=some b->bT cx l w (k b) Rel Q2 E->Q b w.s):wpAny (model cx.prog cx.w) A (truthy v) Q E w.s:=by
 have key:∀o,cT w.st a=o->bT cx l w (Mine.oB o k) Rel Q2 E->wpAny (model cx.prog cx.w) A (truthy v) Q E w.s:=fun o e T=>by
  induction o with
  |none=>exact absurd rfl T.ne
  |some b=>exact Bf (x.vw I.rel) e (h b e T)
 exact key _ rfl T
theorem ST.of(ih:SE cx K x f) (he:∀whole,isTrue x K.env whole=(do let v <-whole;standAt x.pos;holding [v] (truthy v)):=by intro;rfl):ST cx K x f:=fun g w X _ _ T =>
 wpAny_isTrue_value ((ih g w X).step T fun _ _ _ ev r T=>lE ev.inv r T fun _ _ T=>T.done ev.inv rfl) (he _)
theorem SX.of(ih:SE cx K x f) (he:∀whole,isTrue x K.env whole=(do let v <-whole;standAt x.pos;holding [v] (truthy v)):=by intro;rfl):SX cx K x f:=⟨ih,.of ih he⟩
theorem bT.at2{Rel:α->β->Wd->Prop}{Q:α->Shared->Prop}{o o':Option PV}{k:PV->PV->R β}(T:bT cx l w (Mine.oB o fun d=>Mine.oB o' fun e=>k d e) Rel Q E) (x:u7 cx w v o) (y:u7 cx w u o'){p:Prop}
  (h:∀d e,Vw cx w v d->Vw cx w u e->bT cx l w (k d e) Rel Q E->p):p:=by
 induction x with
 |none=>exact absurd rfl T.ne
 |some x=>induction y with
  |none=>exact absurd rfl T.ne
  |some y=>exact h _ _ x y T
theorem bT.jF{Rel:α->AV->Wd->Prop}{Q:α->Shared->Prop}{o:Option Bool}(T:bT cx l w (Mine.jF o w.st) Rel Q E){p:Prop}(h:∀b,o=some b->bT cx l w (Mine.ok (.t (.bool b)) w.st) Rel Q E->p):p:=by
 induction o with
 |none=>exact absurd rfl T.ne
 |some b=>exact h b rfl T
theorem bT.Rc{Rel:α->Bool->Wd->Prop}{Q:α->Shared->Prop}{o:Option Bool}(T:bT cx l w ((Mine.jF o w.st).bind fun a st=>eV st a) Rel Q E){p:Prop}(h:∀b,o=some b->bT cx l w (Mine.ok b w.st) Rel Q E->p):p:=by
 induction o with
 |none=>exact absurd rfl T.ne
 |some b=>exact h b rfl T
theorem bT.Rd{o:Cm}{Rel:α->Bool->Wd->Prop}{Q:α->Shared->Prop}{d e:Option PV}(T:bT cx l w ((gh o w.st d e).bind fun a st=>eV st a) Rel Q E) (x:u7 cx w v d) (y:u7 cx w u e){p:Prop}
  (h:∀d e b,Vw cx w v d->Vw cx w u e->qC o d e=some b->bT cx l w (Mine.ok b w.st) Rel Q E->p):p:=by
 induction x with
 |none=>exact absurd rfl T.ne
 |some x=>induction y with
  |none=>exact absurd rfl T.ne
  |some y=>exact T.Rc fun b q T=>h _ _ b x y q T
theorem bT.gh{o:Cm}{Rel:α->AV->Wd->Prop}{Q:α->Shared->Prop}{d e:Option PV}(T:bT cx l w (Mine.gh o w.st d e) Rel Q E) (x:u7 cx w v d) (y:u7 cx w u e){p:Prop}
  (h:∀d e b,Vw cx w v d->Vw cx w u e->qC o d e=some b->bT cx l w (Mine.ok (.t (.bool b)) w.st) Rel Q E->p):p :=
 T.at2 x y fun d e x y T=>T.jF fun b q T=>h d e b x y q T
theorem SX.cmp{o:Cm}(B:Base cx nm) (hu:K.A.units+16<cLine) (hm:behindInMarks (Nt o) y=false) (h1:SE cx K x f) (h2:SE cx K y f'):SX cx K (.Compare x [Nt o] [y] pos) (k2 (M8 o) f f') where
 v g w X Q E T:=wpAny_Compare1 ((h1 g w X).step T fun a v w1 e1 r1 T=>(h2 g w1 (X.ev e1)).step T fun b u w2 e2 r2 T =>
  T.gh ((r1.ev e2).vw e2.inv.rel) (r2.vw e2.inv.rel) fun _ _ c x y q T=>C5 e2.inv.rel B.sys hu x y q E _ fun _=>T.same e2.inv (Rep.bool c)) hm
 t g w X Q E T:=by
  unfold k1 k2 at T
  rw[R.bind_assoc] at T
  refine wpAny_isTrue_Compare1 ((h1 g w X).step T fun a v w1 e1 r1 T=>?_) hm
  rw[R.bind_assoc] at T
  exact(h2 g w1 (X.ev e1)).step T fun b u w2 e2 r2 T =>
   bT.Rd T ((r1.ev e2).vw e2.inv.rel) (r2.vw e2.inv.rel) fun _ _ c x y q T=>C5 e2.inv.rel B.sys hu x y q E _ fun _=>wpAny_truthy_bool (T.ok c c (w2.at _) rfl (e2.inv.toks rfl rfl rfl) rfl)
theorem SX.not(h:SX cx K x f):SX cx K (.UnaryOp .Not x pos) (k1 A4 f) where
 v g w X Q E T:=by
  have e:k1 A4 f g w.st=(f g w.st).bind fun a st=>Mine.oB (cT st a) fun b=>ok (.t (.bool (!b))) st:=R.bind_congr fun a st=>by
   unfold A4;induction cT st a<;>rfl
  rw[e] at T
  exact wpAny_UnaryOp ((h.v g w X).step T fun a v w1 e1 r T=>not_value (lE e1.inv r T fun b _ T=>T.done e1.inv (Rep.bool _)))
 t g w X Q E T:=by
  have e:k1 eV (k1 A4 f) g w.st=(k1 eV f g w.st).bind fun b st=>ok (!b) st:=by
   show(R.bind _ _).bind _=_
   rw[R.bind_assoc]
   exact jr fun a st=>by unfold A4;induction cT st a<;>rfl
  rw[e] at T
  rw[arm_isTrue_UnaryOp]
  exact wpAny_bind ((h.t g w X).step T fun b c w1 e1 r T=>wpAny_pure (T.done e1.inv (congrArg _ r)))
theorem qN{β γ:Type}{o:Option Bool}{x y:R β}{f:β->aB->R γ}:R.bind (gm o x y) f=gm o (x.bind f) (y.bind f):=by
 induction o with
 |none=>rfl
 |some b=>induction b<;>rfl
theorem Gc{o:Option Bool}{r:R Bool}:gm o r (Mine.oB o fun b=>ok b st)=Mine.oB o fun b=>gm (some b) r (ok false st):=by
 induction o with
 |none=>rfl
 |some b=>induction b<;>rfl
theorem JX{o:Option Bool}{r:R Bool}:gm o (Mine.oB o fun b=>ok b st) r=Mine.oB o fun b=>gm (some b) (ok true st) r:=by
 induction o with
 |none=>rfl
 |some b=>induction b<;>rfl
theorem SX.ite{z:Expr}{f2:Kv}(h:ST cx K x f) (h1:SX cx K y f') (h2:SX cx K z f2):SX cx K (.IfExp x y z pos) (FU f f' f2) where
 v g w X Q E T:=by
  have e:FU f f' f2 g w.st=(k1 eV f g w.st).bind fun b st=>gm (some b) (f' g st) (f2 g st):=jr fun a st=>qj
  rw[e] at T
  refine wpAny_IfExp ((h g w X).step T fun b c w1 e1 r T=>?_)
  cases r
  cases b with
  |true=>exact h1.v g w1 (X.ev e1) Q E T
  |false=>exact h2.v g w1 (X.ev e1) Q E T
 t g w X Q E T:=by
  have e:k1 eV (FU f f' f2) g w.st=(k1 eV f g w.st).bind fun b st=>gm (some b) (k1 eV f' g st) (k1 eV f2 g st):=by
   show(R.bind _ _).bind _=_
   rw[R.bind_assoc]
   exact jr fun a st=>qN.trans qj
  rw[e] at T
  rw[arm_isTrue_IfExp]
  refine wpAny_bind ((h g w X).step T fun b c w1 e1 r T=>?_)
  cases r
  cases b with
  |true=>exact h1.t g w1 (X.ev e1) Q E T
  |false=>exact h2.t g w1 (X.ev e1) Q E T
structure BX(cx:Cx) (K:Kx) (op:BoolOp) (pos:Pos) (xs:List Expr) (f:Kv):Prop where
 v:∀g w,At cx K g w->Wp cx K.A K.l w (boolOp pos op (evalEach xs K.env)) (f g w.st) cG
 t:∀g w,At cx K g w->Wp cx K.A K.l w (allTrue op xs K.env) (k1 eV f g w.st) JW
theorem SX.bool{op:BoolOp}{xs:List Expr}(h:BX cx K op pos xs f):SX cx K (.BoolOp op xs pos) f where
 v g w X Q E T:=by rw[arm_eval_BoolOp];exact h.v g w X Q E T
 t g w X Q E T:=wpAny_isTrue_BoolOp (h.t g w X Q E T)
theorem BX.Rf(h:SX cx K x f):BX cx K .And pos [x] f where
 v:=h.v
 t g w X Q E T:=wpAny_allTrue_And_cons (h.t g w X _ E ⟨T.ne,fun b c w1 e1 ev r=>by
  cases r
  have z:=T.ok b b w1 e1 ev rfl
  cases b with
  |true=>exact wpAny_allTrue_And_nil z
  |false=>exact z,T.err⟩)
theorem BX.Vy(h:SX cx K x f):BX cx K .Or pos [x] f where
 v:=h.v
 t g w X Q E T:=wpAny_allTrue_Or_cons (h.t g w X _ E ⟨T.ne,fun b c w1 e1 ev r=>by
  cases r
  have z:=T.ok b b w1 e1 ev rfl
  cases b with
  |true=>exact z
  |false=>exact wpAny_allTrue_Or_nil z,T.err⟩)
theorem BX.and{xs:List Expr}(h:SX cx K x f) (r:BX cx K .And pos (y::xs) f'):BX cx K .And pos (x::y::xs) (FW f f') where
 v g w X Q E T:=by
  have e:FW f f' g w.st=(f g w.st).bind fun a st=>Mine.oB (cT st a) fun b=>gm (some b) (f' g st) (ok a st):=R.bind_congr fun a st=>qj
  rw[e] at T
  refine wpAny_bind ((h.v g w X).step T fun a v w1 e1 rel T=>wpAny_bind (wpAny_standAt (wpAny_bind (wpAny_holding (lE e1.inv rel T fun b _ T=>?_)))))
  induction b with
  |true=>exact r.v g w1 (X.ev e1) Q E T
  |false=>exact wpAny_pure (T.done e1.inv rel)
 t g w X Q E T:=by
  have e:k1 eV (FW f f') g w.st=(k1 eV f g w.st).bind fun b st=>gm (some b) (k1 eV f' g st) (ok false st):=by
   show(R.bind _ _).bind _=_
   rw[R.bind_assoc]
   exact jr fun a st=>qN.trans Gc
  rw[e] at T
  refine wpAny_allTrue_And_cons ((h.t g w X).step T fun b c w1 e1 rel T=>?_)
  cases rel
  cases b with
  |true=>exact r.t g w1 (X.ev e1) Q E T
  |false=>exact T.done e1.inv rfl
theorem BX.or{xs:List Expr}(h:SX cx K x f) (r:BX cx K .Or pos (y::xs) f'):BX cx K .Or pos (x::y::xs) (Qe f f') where
 v g w X Q E T:=by
  have e:Qe f f' g w.st=(f g w.st).bind fun a st=>Mine.oB (cT st a) fun b=>gm (some b) (ok a st) (f' g st):=R.bind_congr fun a st=>qj
  rw[e] at T
  refine wpAny_bind ((h.v g w X).step T fun a v w1 e1 rel T=>wpAny_bind (wpAny_standAt (wpAny_bind (wpAny_holding (lE e1.inv rel T fun b _ T=>?_)))))
  induction b with
  |true=>exact wpAny_pure (T.done e1.inv rel)
  |false=>exact r.v g w1 (X.ev e1) Q E T
 t g w X Q E T:=by
  have e:k1 eV (Qe f f') g w.st=(k1 eV f g w.st).bind fun b st=>gm (some b) (ok true st) (k1 eV f' g st):=by
   show(R.bind _ _).bind _=_
   rw[R.bind_assoc]
   exact jr fun a st=>qN.trans JX
  rw[e] at T
  refine wpAny_allTrue_Or_cons ((h.t g w X).step T fun b c w1 e1 rel T=>?_)
  cases rel
  cases b with
  |true=>exact T.done e1.inv rfl
  |false=>exact r.t g w1 (X.ev e1) Q E T
end
structure iP(w:Wd) (s':Shared):Prop where
 k:∀b o,w.h.get? b=some o->s'.heap.get? b=some o
 os:s'.os=w.s.os
 gens:s'.gens=w.s.gens
 z:w.n<=s'.heap.objs.size
noncomputable def Wd.za(w:Wd) (o:FO) (s':Shared):Wd:=⟨put w.G [w.n] (.fz o),w.as,w.st,s'⟩
section
variable {cx:Cx}{nm:Nat->Option Str}{w w':Wd}{K:Kx}{v u:Value}{A:Around}{l:List Env}{E:Value->Shared->Prop}{Q:Value->Shared->Prop}{d:PV}{o:FO}{us:List Value}{ds:List PV}{s':Shared}{nd:Node}
theorem iP.push{ob:Obj}{tk:Nat}:iP w { w.s with heap:=w.h.push ob,toks:=tk }:=⟨fun _ _ e=>Heap.get?_push_of_some _ e,rfl,rfl,by show _<=(w.h.push ob).objs.size;rw[Heap.size_push];exact Nat.le_succ _⟩
theorem iP.keep(g:iP w s'){a:Addr}(S:eS cx w) (h:w.G a≠.out):s'.heap.get? a=w.h.get? a:=lB g.k (S.live a h)
theorem iP.ev{fr:List Addr}{W:Addr->Prop}(g:iP w s') (I:Inv cx w):Ev cx fr W w (w.at s'):=I.keeps g.k g.os g.gens g.z
theorem qO{p:Pl}(e:Cq nd=some d):own nd p=[p.1]:=by cases nd<;>first| rfl|injection e
theorem gq{α:Type}{l:List α}{x:α}{n:Nat}(e:n=l.length):(l++[x])[n]? = some x:=by
 subst e;rw[List.getElem?_append_right (Nat.le_refl _),Nat.sub_self];rfl
theorem bT.JY(T:bT cx l w (alloc w.st nd) cG Q E) (I:Inv cx w) (g:iP w s') (e:Cq nd=some d) (i:Is cx s'.heap w.n o) (lv:∃o,s'.heap.get? w.n=some o) (q:Sh o d us ds) (r:bh w.G us ds):Q (.ref w.n) s':=by
 have ho:own nd (w.n,0)=[w.n]:=qO e
 have hn:∀a∈own nd (w.n,0),w.n<=a:=fun a h=>Nat.le_of_eq (List.mem_singleton.mp (ho▸h)).symm
 have sub:Sub w.G (w.push (w.n,0) nd s').G:=qh fun a h o e=>Nat.not_lt.mpr (hn a h) (I.rel.lt (e▸fun q=>by injection q))
 exact T.ok _ _ (w.push (w.n,0) nd s') rfl (I.push g.k g.os g.gens g.z hn (fun a h=>List.mem_singleton.mp (ho▸h)▸lv) (.tr e i q (r.mono sub))) (.mk _ (gq I.rel.len.symm) rfl)
theorem bT.Bg(T:bT cx l w (alloc w.st (.lst ds)) cG Q E) (I:Inv cx w) (g:iP w s') (i:s'.heap.PlainList w.n us.toArray) (hl:ds.length<=lim) (r:bh w.G us ds):Q (.ref w.n) s' :=
 let⟨n,e⟩:=i;T.JY (o:=.lst us n) I g rfl e ⟨_,e⟩ (.lst hl) r
theorem Inv.za{fr:List Addr}{W:Addr->Prop}(I:Inv cx w) (g:iP w s') (i:Is cx s'.heap w.n o) (hd:∀c dx gs,o≠.ins c dx gs) (lv:∃o,s'.heap.get? w.n=some o):Ev cx fr W w (w.za o s'):=by
 have S:=I.rel
 have S':=S.step (s':=s') fun a h=>g.keep S h
 have no:∀a,w.G a≠.out->a∉[w.n]:=fun a h q=>Nat.lt_irrefl _ (List.mem_singleton.mp q▸S.lt h)
 have old:∀a,w.G a≠.out->(w.za o s').G a=w.G a:=fun a h=>cE (no a h)
 have sub:Sub w.G (w.za o s').G:=fun a y e=>(old a (e▸fun q=>by injection q)).trans e
 refine⟨⟨⟨S.len,fun i p nd e1 e2=>(S'.nodes i p nd e1 e2).mono sub fun _ _ e=>e,fun i p nd e1 e2 a h=>?_,fun a y e=>?_,fun a c dx gs e=>?_,fun a h=>?_,fun a h=>?_⟩,
  I.old.step_keeps g.k,g.os.trans I.os,g.gens.trans I.gens,I.lim.keeps g.k,I.low,I.i8,Nat.le_trans I.ge g.z,let⟨_,e,_,_⟩:=I.tab;kj.step (w:=w) (w':=w.za o s') (lB g.k ⟨_,e⟩) sub I.tab⟩,
  g.z,fun a _ _ _ _ _=>g.k a,fun a _ _ o e=>⟨o.slots,g.k a o e⟩,sub,fun _ _ e=>e,fun a h e=>(cE fun q=>Nat.lt_irrefl _ (List.mem_singleton.mp q▸h)).trans e⟩
 ·have e:=S.ff i p nd e1 e2 a h
  exact(old a (e▸fun q=>by injection q)).trans e
 ·by_cases q:a∈[w.n]
  ·cases(iO q).symm.trans e
   exact List.mem_singleton.mp q▸i
  ·exact S'.fz a y ((cE q).symm.trans e)
 ·by_cases q:a∈[w.n]
  ·cases(iO q).symm.trans e
   exact absurd rfl (hd c dx gs)
  ·exact sub _ _ (S.pg a c dx gs ((cE q).symm.trans e))
 ·by_cases q:a∈[w.n]
  ·exact List.mem_singleton.mp q▸I.ge
  ·exact S.lo a fun z=>h ((cE q).trans z)
 ·by_cases q:a∈[w.n]
  ·exact List.mem_singleton.mp q▸lv
  ·exact S'.live a fun z=>h ((cE q).trans z)
theorem bT.Rg(T:bT cx l w (Mine.ok (.t (.tup ds)) w.st) cG Q E) (I:Inv cx w) (g:iP w s') (i:A9 s'.heap w.n us.toArray) (hl:ds.length<=lim) (r:bh w.G us ds):Q (.ref w.n) s':=by
 have ev:=I.za (o:=.tup us) (fr:=ek l) (W:=om) g i (fun _ _ _ q=>by injection q) (let⟨⟨_,e,_⟩,_⟩:=i;⟨_,e⟩)
 exact T.ok _ _ (w.za (.tup us) s') rfl ev (Rep.ref (iO (.head _)) (.tup hl) (r.mono ev.sub))
@[reducible] noncomputable def je (us:List Value):Obj:={ cls:=.type "list",data:=.seq us.toArray }
@[reducible] noncomputable def JZ (us:List Value):Obj:={ cls:=.type "tuple",data:=.seq us.toArray }
theorem nt{h:Heap}:(h.push (je us)).PlainList h.objs.size us.toArray:=⟨_,Heap.get?_push_size _ rfl⟩
theorem Ge{h:Heap}:A9 (h.push (JZ us)) h.objs.size us.toArray:=⟨⟨_,Heap.get?_push_size _ rfl,rfl,_,rfl⟩,fun o q=>by rw[Heap.get?_push_size _ rfl] at q;(injection q with q;subst q);rfl⟩
theorem bh.append{G:Addr->Lg}{vs us:List Value}{l k:List PV}(r:bh G vs l) (q:bh G us k):bh G (vs++us) (l++k):=by
 induction r using bh.ind with
 |h0=>exact q
 |h1 v vs d l x r ih=>exact .cons x ih
theorem bh.replicate{G:Addr->Lg}(x:Rep G v d):∀n,bh G (List.replicate n v) (List.replicate n d)
 |0=>.nil
 |n+1=>.cons x (bh.replicate x n)
theorem PlainList.typeIs{s:Shared}{a:Addr}{bK:Array Value}(x:s.heap.PlainList a bK):s.TypeIs (.ref a) "list":=let⟨_,e⟩:=x;⟨_,e,rfl⟩
theorem qP{s:Shared}{a b:Addr}{us ws:List Value}(ha:s.heap.PlainList a us.toArray) (hb:s.heap.PlainList b ws.toArray) (hsz:us.length+ws.length<=lim)
  (h:Q (.ref s.heap.objs.size) { s with heap:=s.heap.push (je (us++ws)) }):wpAny (model cx.prog cx.w) A (binaryOp .Add (.ref a) (.ref b)) Q E s:=by
 obtain⟨n,ho⟩:=id ha
 obtain⟨n2,F7⟩:=id hb
 refine concat_meets (PlainList.typeIs ha) (PlainList.typeIs hb) noFill_list_add seq_list_add PySem.F.slot_list_add PySem.F.entry_list_add (PySem.F.args_list_add_2 _ _)
  (list_addW a b us.toArray ws.toArray n n2 none none #[] #[] (by rw[List.size_toArray,List.size_toArray];exact Nat.le_trans hsz (by decide))) ⟨ho,F7,?_⟩
 rw[List.append_toArray]
 exact h
theorem j0(v:Value):∀(n:Nat) (acc:Array Value),List.foldl (fun x1 x2=>x1++x2) acc (List.replicate n #[v])=acc++(List.replicate n v).toArray
 |0,_=>Array.append_empty.symm
 |n+1,acc=>by
  rw[List.replicate_succ,List.foldl_cons,j0 v n,List.replicate_succ,Array.append_assoc]
  exact congrArg _ (Array.ext' (by rw[Array.toList_append];rfl))
theorem sU{s:Shared}{a:Addr}{v:Value}{x:Int}{u:Tok}(ha:s.heap.PlainList a #[v]) (h1:-2000<=x) (h2:x<=2000)
  (h:Q (.ref s.heap.objs.size) { s with heap:=s.heap.push (je (List.replicate x.toNat v)) }):wpAny (model cx.prog cx.w) A (binaryOp .Mult (.ref a) (.int x u)) Q E s:=by
 obtain⟨k,hl⟩:=id ha
 refine wpAny_binaryOp_repeat_ref (T:="list") (U:="int") (by decide) ⟨_,hl,rfl⟩ (fun s'=>typeIs_int s' x u) noFill_list_mul PySem.F.fills_int_mul PySem.F.slot_int_rmul repeat_list PySem.F.slot_int_index.lookup
  (call_meets PySem.F.slot_int_rmul (typeIs_int s x u) PySem.F.entry_int_rmul (PySem.F.args_int_rmul_2 _ _) (int___rmul___int_list x u a #[v] k)
   ⟨hl,rfl,⟨_,hl,rfl⟩,call_meets PySem.F.slot_list_mul ⟨_,hl,rfl⟩ PySem.F.entry_list_mul (PySem.F.args_list_mul_2 _ _)
    (AutoListH.list___mul___list_int_3 a #[v] k x u (by simp[Builtin.List.listFitsIndex];omega) (by simp;omega) (by simp[Builtin.List.listTooLong,sizeLine];omega))
    ⟨hl,?_⟩⟩)
 have e:List.foldl (fun x1 x2=>x1++x2) #[] (List.replicate (if(#[v]:Array Value).isEmpty=true then 0 else x.toNat) #[v])=(List.replicate x.toNat v).toArray :=
  (j0 v x.toNat #[]).trans Array.empty_append
 show wants Q E _ _
 rw[e]
 exact h
end
noncomputable def Qj:yS->Operator
 |.add=>.Add
 |.sub=>.Sub
 |.mul=>.Mult
 |.fdiv=>.FloorDiv
 |.mod=>.Mod
theorem Bh{a b:Int}(hb:b.natAbs<1048576):¬(Builtin.divisionGoesByPylong a b)=true:=by
 unfold Builtin.divisionGoesByPylong
 simp only[Bool.and_eq_true,decide_eq_true_eq]
 intro h
 have h0:(if(b==0)=true then 0 else b.natAbs.log2 / 30+1)<=300:=by
  split
  ·omega
  ·by_cases h0:b.natAbs=0
   ·rw[h0];decide
   ·have:=(Nat.log2_lt h0).mpr (show b.natAbs<2 ^ 20 from hb);omega
 omega
inductive Ar(o:yS) (a b c:Int):Prop
 |add (h:o=.add) (e:c=a+b)
 |sub (h:o=.sub) (e:c=a-b)
 |fdiv (h:o=.fdiv) (z:b≠0) (k:b.natAbs<1048576) (e:c=Int.fdiv a b)
 |mod (h:o=.mod) (z:b≠0) (e:c=Int.fmod a b)
theorem z6{α:Type}{c:Prop} [Decidable c] {x y:α}(h:(if c then none else some x)=some y):¬c/\x=y:=by
 by_cases q:c
 ·rw[if_pos q] at h;injection h
 ·rw[if_neg q] at h;exact⟨q,Option.some.inj h⟩
theorem Bj{o:yS}{a b c:Int}(h:arith o a b=some c):Ar o a b c:=by
 induction o with
 |add=>(injection h with h;subst h);exact .add rfl rfl
 |sub=>(injection h with h;subst h);exact .sub rfl rfl
 |mul=>injection h
 |fdiv=>let⟨q,e⟩:=z6 h;exact .fdiv rfl (fun z=>q (.inl z)) (Nat.lt_of_not_le fun z=>q (.inr z)) e.symm
 |mod=>let⟨q,e⟩:=z6 h;exact .mod rfl q e.symm
section
variable {cx:Cx}{nm:Nat->Option Str}{w w':Wd}{K:Kx}{v u:Value}{A:Around}{l:List Env}{E:Value->Shared->Prop}{Q:Value->Shared->Prop}{d e:PV}{us:List Value}{ds:List PV}{s':Shared}{x y:Expr}{f f':Kv}{pos:Pos}
theorem bT.no{α β:Type}{Rel:α->β->Wd->Prop}{Q:α->Shared->Prop}{p:Prop}(T:bT cx l w none Rel Q E):p:=absurd rfl T.ne
theorem bT.m6{α:Type}{Rel:α->AV->Wd->Prop}{Q:α->Shared->Prop}{o:Option Int}(T:bT cx l w (Mine.m6 o w.st) Rel Q E){p:Prop}(h:∀b,o=some b->bT cx l w (Mine.ok (.t (.int b)) w.st) Rel Q E->p):p:=by
 induction o with
 |none=>exact T.no
 |some b=>exact h b rfl T
theorem bT.sQ{α:Type}{Rel:α->AV->Wd->Prop}{Q:α->Shared->Prop}{o:Option PV}(T:bT cx l w (Mine.sQ o w.st) Rel Q E){p:Prop}(h:∀b,o=some b->bT cx l w (Mine.ok (.t b) w.st) Rel Q E->p):p:=by
 induction o with
 |none=>exact T.no
 |some b=>exact h b rfl T
theorem bT.ite{α β:Type}{Rel:α->β->Wd->Prop}{Q:α->Shared->Prop}{c:Prop} [Decidable c] {r:R β}(T:bT cx l w (if c then r else none) Rel Q E){p:Prop}(h:c->bT cx l w r Rel Q E->p):p:=by
 by_cases q:c
 ·rw[if_pos q] at T;exact h q T
 ·rw[if_neg q] at T;exact T.no
theorem bT.Nv{α β:Type}{Rel:α->β->Wd->Prop}{Q:α->Shared->Prop}{c:Bool}{r:R β}(T:bT cx l w (if c then r else none) Rel Q E){p:Prop}(h:c=true->bT cx l w r Rel Q E->p):p:=T.ite h
theorem Gf{o:yS}{a b c:Int}{t t':Tok}{s:Shared}(h:Ar o a b c) (k:Q (.int c s.toks) { s with toks:=s.toks+1 }):wpAny (model cx.prog cx.w) A (binaryOp (Qj o) (.int a t) (.int b t')) Q E s:=by
 induction h with
 |add h e=>subst h e;exact AutoIntOps.add_0 k
 |sub h e=>subst h e;exact AutoIntOps.sub_0 k
 |fdiv h z n e=>subst h e;exact AutoIntOps.floordiv_1 (fun q=>z (eq_of_beq q)) (Bh n) k
 |mod h z e=>subst h e;exact AutoIntOps.mod_1 (fun q=>z (eq_of_beq q)) k
theorem J0{o:yS}(I:Inv cx w) (x:Vw cx w v d) (y:Vw cx w u e) (T:bT cx l w (Jr o w.st d e) cG Q E):wpAny (model cx.prog cx.w) A (binaryOp (Qj o) v u) Q E w.s:=by
 induction x with
 |int a t =>
  induction y with
  |int b t'=>exact T.m6 fun c h T=>Gf (Bj h) (T.same I (Rep.int c _))
  |ref _ _ q _=>induction q<;>exact T.no
  |_=>exact T.no
 |ref _ i q r =>
  induction q with
  |lst z =>
   induction y with
   |int n t' =>
    induction o with
    |mul =>
     cases r with
     |nil=>exact T.no
     |cons x r=>cases r with
      |cons=>exact T.no
      |nil=>exact bT.ite T fun hc T=>sU ⟨_,i⟩ hc.1 hc.2 (T.Bg I .push nt (by rw[List.length_replicate];unfold lim;omega) (bh.replicate x _))
    |_=>exact T.no
   |ref _ i' q' r' =>
    induction q' with
    |lst z' =>
     induction o with
     |add=>exact bT.ite T fun hc T=>qP ⟨_,i⟩ ⟨_,i'⟩ (by rw[r.length,r'.length];exact hc) (T.Bg I .push nt (by rw[List.length_append];exact hc) (r.append r'))
     |_=>exact T.no
    |_=>exact T.no
   |_=>exact T.no
  |_=>exact T.no
 |_=>exact T.no
theorem SE.bin{o:yS}(h1:SE cx K x f) (h2:SE cx K y f'):SE cx K (.BinOp x (Qj o) y pos) (k2 (M7 o) f f'):=fun g w X Q E T =>
 wpAny_BinOp ((h1 g w X).step T fun _ _ _ e1 r1 T=>(h2 g _ (X.ev e1)).step T fun _ _ _ e2 r2 T=>T.at2 ((r1.ev e2).vw e2.inv.rel) (r2.vw e2.inv.rel) fun _ _ x y T=>J0 e2.inv x y T)
theorem J3{a:AV}(I:Inv cx w) (r:cO w.G w.as v a) (T:bT cx l w (Jt w.st a) cG Q E):wpAny (model cx.prog cx.w) A (unaryOp .USub v) Q E w.s:=by
 induction a with
 |r i=>exact T.no
 |t d=>cases d with
  |int i=>cases r with
   |int=>exact PySem.P.neg_int (T.same I (Rep.int _ _))
   |ref _ q _=>cases q
  |_=>exact T.no
theorem SE.neg(h:SE cx K x f):SE cx K (.UnaryOp .USub x pos) (k1 Jt f):=fun g w X Q E T =>
 wpAny_UnaryOp ((h g w X).step T fun _ _ _ e1 r1 T=>J3 e1.inv r1 T)
theorem jt{o:Value}{T id:String}{s:Shared}{Qb:Bool->Shared->Prop}(hT:s.TypeIs o T) (hl:typeLookup (.type T) "__getitem__" = pure (some (.builtin id))) (h:Qb false s):wpAny (model cx.prog cx.w) A (getitemInPython o) Qb E s:=by
 rw[getitemInPython_of_ne hT.not_modules]
 refine wpAny_bind (wpAny_specialOf hT hl ?_)
 first| exact wpAny_pure h|exact wpAny_bind (wpAny_pure h)
inductive Nx(cx:Cx) (A:Around) (w:Wd) (v u:Value) (r:PV):Prop
 |mk (T id:String) (t:w.s.TypeIs v T) (k:typeLookup (.type T) "__getitem__" = pure (some (.builtin id)))
  (h:∀(E:Value->Shared->Prop) (Q:Value->Shared->Prop),(∀y tk,Rep w.G y r->Q y { w.s with toks:=tk })->wpAny (model cx.prog cx.w) A (getItem v u) Q E w.s)
inductive Vz(G:Addr->Lg) (vs:List Value) (i:Nat) (d:PV):Prop
 |mk (v:Value) (e:vs[i]? = some v) (r:Rep G v d)
theorem bh.get{G:Addr->Lg}{vs:List Value}{l:List PV}(r:bh G vs l):∀{i:Nat}{d:PV},l[i]? = some d->Vz G vs i d:=by
 induction r using bh.ind with
 |h0=>exact fun q=>nomatch q
 |h1 v vs d l x r ih =>
  intro i e h
  induction i with
  |zero=>(injection h with h;subst h);exact .mk _ rfl x
  |succ i=>cases ih (i:=i) h with| mk u q x=>exact .mk u q x
inductive Uj(l:List PV) (r:PV):PV->Prop
 |mk (k:Int) (h:0<=k) (e:l[k.toNat]? = some r):Uj l r (.int k)
theorem tS{l:List PV}{r:PV}(h:w9 l e=some r):Uj l r e:=by
 cases e with
 |int k =>
  unfold w9 at h
  dsimp only at h
  split at h
  ·rename_i q;exact .mk k q h
  ·injection h
 |_=>injection h
theorem Gg{r:PV}(x:Vw cx w v d) (y:Vw cx w u e) (h:item d e=some r):Nx cx A w v u r:=by
 induction x with
 |ref _ i q rr =>
  induction q with
  |lst z =>
   obtain⟨k,hk,hi⟩:=tS h
   cases y with
   |int k t =>
    obtain⟨y,e,ry⟩:=rr.get hi
    have qQ:k.toNat<_:=(List.getElem?_eq_some_iff.mp hi).1
    unfold lim at z
    exact .mk "list" _ (Heap.PlainList.isList ⟨_,i⟩).typeIs slot_list_getitem.lookup fun E Q h=>wpAny_getItem_list (Heap.PlainList.isList ⟨_,i⟩) hk (by omega) (List.getElem?_toArray.trans e) (h y _ ry)
   |ref _ _ q _=>cases q
  |tup z =>
   obtain⟨k,hk,hi⟩:=tS h
   cases y with
   |int k t =>
    obtain⟨y,e,ry⟩:=rr.get hi
    have qQ:k.toNat<_:=(List.getElem?_eq_some_iff.mp hi).1
    have hsz:=rr.length
    unfold lim at z
    exact .mk "tuple" _ i.tup.typeIs slot_tuple_getitem.lookup fun E Q h=>PyProof.Rows.getItem_tuple i.tup (by omega) (by omega) (seqIndex_of hk (by rw[List.size_toArray,hsz];omega)) (List.getElem?_toArray.trans e) (h y _ ry)
   |ref _ _ q _=>cases q
  |dS z k n =>
   induction y with
   |str t tk =>
    have vl:=lD (k:=t) k rr
    have h':cj t _=some r:=h
    rw[h'] at vl
    cases vl with
    |some y e ry=>exact .mk "dict" _ (Heap.DictOf.typeIs (Heap.DictAt.dictOf i)) slot_dict_getitem.lookup fun E Q h=>wpAny_getItem_of (knd:=strKind cx.prog cx.w) (strKind_is _ _ _ _) (Heap.DictOf.mapOf (Heap.DictAt.dictOf i)) e (h y _ ry)
   |ref _ _ q _=>cases q<;>injection h
   |_=>injection h
  |_=>injection h
 |_=>injection h
theorem SE.sub(Rh:∀o i,subscripted y false o i=operate [o,i] (getItem o i)) (h1:SE cx K x f) (h2:SE cx K y f'):SE cx K (.Subscript x y pos) (k2 M9 f f'):=fun g w X Q E T=>by
 rw[eval_Subscript]
 refine wpAny_bind ((h1 g w X).step T fun a v w1 e1 r1 T=>wpAny_bind (wpAny_holding ((h2 g w1 (X.ev e1)).step T fun b u w2 e2 r2 T=>wpAny_bind (wpAny_standAt ?_))))
 refine T.at2 ((r1.ev e2).vw e2.inv.rel) (r2.vw e2.inv.rel) fun d e x y T=>T.sQ fun r h T=>?_
 obtain⟨T',id,hT,hl,hg⟩:=Gg (A:=K.A) x y h
 refine wpAny_bind (jt hT hl ?_)
 rw[Rh]
 exact wpAny_bind (wpAny_operating (hg _ _ fun z tk rz=>wpAny_bind (wpAny_letTemporaryGo (wpAny_pure (T.same e2.inv rz)))))
end
structure C6(v:Value) (o:Option Int) (_:Wd):Prop where
 p:IsPart v o
 z:∀i,o=some i->0<=i
noncomputable def SO(cx:Cx) (K:Kx) (x:Option Expr) (f:Gm->aB->R (Option Int)):Prop:=∀g w,At cx K g w->Wp cx K.A K.l w (evalPart x K.env) (f g w.st) C6
theorem minD{α:Type}{l:List α}{n a b:Nat}(h:l.length=n):(l.take b).drop a=(l.take (min b n)).drop (min a n):=by
 apply List.ext_getElem?
 intro i
 simp only[List.getElem?_drop,List.getElem?_take]
 rcases Nat.le_total a n with ha|ha
 ·rw[Nat.min_eq_left ha]
  by_cases hb:a+i<n
  ·have:(a+i<b)↔(a+i<min b n):=by omega
   simp only[this]
  ·rw[List.getElem?_eq_none (h▸Nat.le_of_not_lt hb)];split<;>split<;>rfl
 ·rw[List.getElem?_eq_none (show l.length<=a+i by omega),List.getElem?_eq_none (show l.length<=min a n+i by omega)];split<;>split<;>rfl
noncomputable def xC(o:Option Int) (d:Int) (n:Nat):Int:=match o with
 |none=>d
 |some i=>max 0 (min (if i<0 then i+n else i) n)
theorem C7(k n:Nat):max 0 (min (if(k:Int)<0 then(k:Int)+n else k) (n:Int))=((min k n:Nat):Int):=by
 rw[if_neg (Int.not_lt.mpr (Int.natCast_nonneg k)),show min (k:Int) (n:Int)=((min k n:Nat):Int) by omega]
 exact Int.max_eq_right (Int.natCast_nonneg _)
theorem tT{i:Int}{d:Int}{n:Nat}(h:0<=i):xC (some i) d n=((min i.toNat n:Nat):Int):=by
 obtain⟨k,rfl⟩:=Int.eq_ofNat_of_zero_le h
 exact C7 k n
theorem bounds{lo hi:Option Int}{n:Nat}(Ri:∀i,lo=some i->0<=i) (Rj:∀i,hi=some i->0<=i):sliceBounds lo hi none n=(((min (Mf lo) n:Nat):Int),((min (MU n hi) n:Nat):Int),1):=by
 have e:sliceBounds lo hi none n=(xC lo 0 n,xC hi n n,1):=rfl
 have h1:xC lo 0 n=((min (Mf lo) n:Nat):Int):=by
  induction lo with
  |none=>exact congrArg Nat.cast (Nat.zero_min n).symm
  |some i=>exact tT (Ri i rfl)
 have h2:xC hi n n=((min (MU n hi) n:Nat):Int):=by
  induction hi with
  |none=>exact congrArg Nat.cast (Nat.min_self n).symm
  |some i=>exact tT (Rj i rfl)
 rw[e,h1,h2]
section
variable {cx:Cx}{nm:Nat->Option Str}{w w':Wd}{K:Kx}{v u:Value}{A:Around}{l:List Env}{E:Value->Shared->Prop}{Q:Value->Shared->Prop}{d e:PV}{us:List Value}{ds:List PV}{s':Shared}{x y:Expr}{f f':Kv}{pos:Pos}{G:Addr->Lg}
theorem SO.none:SO cx K Option.none fun _ st=>ok Option.none st:=fun _ _ X _ _ T=>wpAny_pure (T.done X.inv ⟨.none,fun _ h=>nomatch h⟩)
theorem SO.some(h:SE cx K x f):SO cx K (some x) (k1 Iq f):=fun g w X Q E T=>(h g w X).step T fun a v w1 e1 r T=>by
 cases a with
 |r i=>exact T.no
 |t d=>cases d with
  |int i=>cases r with
   |int _ t=>exact bT.ite T fun hi T=>T.done e1.inv ⟨.int i t,fun j q=>by(injection q with q;subst q);exact hi⟩
   |ref _ q _=>cases q
  |_=>exact T.no
theorem bh.take{vs:List Value}{l:List PV}(n:Nat) (r:bh G vs l):bh G (vs.take n) (l.take n):=by
 induction r using bh.ind generalizing n with
 |h0=>rw[List.take_nil,List.take_nil];exact .nil
 |h1 v vs d l x r ih =>
  induction n with
  |zero=>exact .nil
  |succ n=>exact .cons x (ih n)
theorem bh.drop{vs:List Value}{l:List PV}(n:Nat) (r:bh G vs l):bh G (vs.drop n) (l.drop n):=by
 induction r using bh.ind generalizing n with
 |h0=>rw[List.drop_nil,List.drop_nil];exact .nil
 |h1 v vs d l x r ih =>
  induction n with
  |zero=>exact .cons x r
  |succ n=>exact ih n
inductive Rk(G:Addr->Lg) (us:List Value) (ds:List PV) (lo hi:Option Int):Prop
 |mk (ws:List Value) (e:slicePick us.toArray lo hi none=ws.toArray) (r:bh G ws (cut ds lo hi))
theorem J4{lo hi:Option Int}(r:bh G us ds) (Ri:∀i,lo=some i->0<=i) (Rj:∀i,hi=some i->0<=i):Rk G us ds lo hi:=by
 have e:cut ds lo hi=(ds.take (min (MU us.length hi) us.length)).drop (min (Mf lo) us.length):=by rw[r.length];exact minD rfl
 refine .mk ((us.drop (min (Mf lo) us.length)).take (min (MU us.length hi) us.length-min (Mf lo) us.length)) ?_ ?_
 ·unfold slicePick
  rw[List.size_toArray,bounds Ri Rj]
  simp only[sliceRange_one,pick_run]
 ·rw[e,List.drop_take]
  exact(r.drop _).take _
theorem iP.trans{s1:Shared}(x:iP w s1) (y:iP (w.at s1) s'):iP w s':=⟨fun b o e=>y.k b o (x.k b o e),y.os.trans x.os,y.gens.trans x.gens,Nat.le_trans x.z y.z⟩
theorem bT.Ny{α β:Type}{Rel:α->β->Wd->Prop}{Q:α->Shared->Prop}{r:R β}(T:bT cx l w r Rel Q E) (I:Inv cx w) (g:iP w s'):bT cx l (w.at s') r Rel Q E :=
 ⟨T.ne,fun b a zR e x rel=>T.ok b a zR e ((g.ev I).trans x) rel,fun m e zR q x z=>T.err m e zR q ((g.ev I).trans x) (z.mono g.z)⟩
theorem C8{p:Addr}{u1 u2:Value}{b c:Option Int}(I:Inv cx w) (i:w.h.PlainList p us.toArray) (z:ds.length<=lim) (r:bh w.G us ds) (r1:C6 u1 b w) (r2:C6 u2 c w) (T:bT cx l w (alloc w.st (.lst (cut ds b c))) cG Q E){s1:Shared}
  (hs:s1={ w.s with heap:=w.h.push { cls:=.type "slice",data:=.fields #[u1,u2,.none] } }):wpAny (model cx.prog cx.w) A (getItem (.ref p) (.ref w.n)) Q E s1:=by
 obtain⟨ws,e1,rw'⟩:=J4 r r1.z r2.z
 subst hs
 have g:=iP.push (w:=w) (ob:={ cls:=.type "slice",data:=.fields #[u1,u2,.none] }) (tk:=w.s.toks)
 refine wpAny_getItem_list_slice ((Heap.PlainList.isList i).push _) (Heap.IsSliceOf.new ..) r1.p r2.p .none (by decide) ?_ (by rw[List.size_toArray,r.length];exact Nat.le_trans z (by decide))
 rw[e1]
 refine(T.Ny I g).Bg (us:=ws) (g.ev (fr:=[]) (W:=om) I).inv .push nt ?_ rw'
 unfold cut
 rw[List.length_drop,List.length_take]
 omega
theorem SE.slice{lo hi:Option Expr}{p:Pos}{f1 f2:Gm->aB->R (Option Int)}(h:SE cx K x f) (h1:SO cx K lo f1) (h2:SO cx K hi f2):SE cx K (.Subscript x (.Slice lo hi none p) pos) (CL f f1 f2):=fun g w X Q E T=>by
 rw[eval_Subscript]
 refine wpAny_bind ((h g w X).step T fun a v w0 e0 r0 T=>wpAny_bind (wpAny_holding (wpAny_Slice ?_)))
 refine(h1 g w0 (X.ev e0)).step T fun b u1 w1 e1 r1 T=>(h2 g w1 ((X.ev e0).ev e1)).step T fun c u2 w2 e2 r2 T=>?_
 rw[evalPart_none]
 refine wpAny_pure (wpAny_bind (wpAny_standAt ?_))
 have key:∀{o:Option PV},u7 cx w2 v o->bT cx K.l w2 (Uc o b c w2.st) cG Q E->wpAny (model cx.prog cx.w) K.A (getitemInPython v >>= fun q=>subscripted (.Slice lo hi Option.none p) q v (.ref w2.n) >>= fun r=>letTemporaryGo x v r >>= fun _=>pure r) Q E { w2.s with heap:=w2.h.push { cls:=.type "slice",data:=.fields #[u1,u2,.none] } }:=fun y T=>by
  induction y with
  |none=>exact T.no
  |some y =>
   induction y with
   |ref _ i q r =>
    induction q with
    |lst z =>
     refine wpAny_bind (jt (T:="list") ((Heap.PlainList.isList ⟨_,i⟩).push _).typeIs list_getitem_lookup ?_)
     show wpAny _ K.A (operate [_,_] (getItem _ _) >>= _) _ _ _
     refine wpAny_bind (wpAny_operating (C8 (Q:=fun r s=>wpAny _ _ (letTemporaryGo _ _ r >>= fun _=>pure r) Q E s) e2.inv ⟨_,i⟩ z r ⟨r1.p,r1.z⟩ r2 ⟨T.ne,fun b' a' w' q' x' rel=>wpAny_bind (wpAny_letTemporaryGo (wpAny_pure (T.ok b' a' w' q' x' rel))),T.err⟩ rfl))
    |_=>exact T.no
   |_=>exact T.no
 exact key (((r0.ev e1).ev e2).vw e2.inv.rel) T
end
theorem Inv.adopt{cx:Cx}{fr:List Addr}{w w0:Wd}{s':Shared}{nd:Node}{d:PV}{o:FO}{us:List Value}{ds:List PV}{a:Addr}(I:Inv cx w) (p:iz cx w a) (hs:Heap.SameBut a w.h s'.heap) (h1:s'.os=w.s.os) (h2:s'.gens=w.s.gens)
  (e:Cq nd=some d) (i:Is cx s'.heap a o) (lv:∃o,s'.heap.get? a=some o) (q:Sh o d us ds) (r:bh w.G us ds) (ev:Ev cx fr (fun b=>b=a) w0 w) (hz:w0.n<=a):Ev cx fr om w0 (w.push (a,0) nd s'):=by
 have I1:=(I.dQ (fr:=[]) p hs h1 h2).inv
 have ho:own nd (a,0)=[a]:=qO e
 have hb:∀b∈own nd (a,0),b=a:=fun b h=>List.mem_singleton.mp (ho▸h)
 have sub:Sub w.G (w.push (a,0) nd s').G:=qh fun b h o e=>by
  have z:=p.out
  rw[<-hb b h,e] at z
  injection z
 have ne:∀c,c<w0.n->c≠a:=fun c h=>Nat.ne_of_lt (Nat.lt_of_lt_of_le h hz)
 exact⟨⟨eS.push (w:=w.at s') I1.rel (fun _ _=>rfl) (fun b h=>hb b h▸⟨p.out,p.ge⟩) (fun b h=>hb b h▸lv) (.tr e i q (r.mono sub)),I1.old,I1.os,I1.gens,I1.lim,I1.low,I1.i8,I1.ge,kj.step (w:=w.at s') (w':=w.push (a,0) nd s') rfl sub I1.tab⟩,
  Nat.le_trans ev.size (Nat.le_of_eq hs.1.symm),fun c h1 h2 h3 h4 _ o e=>(hs.2 c (ne c h2)).trans (ev.keep c h1 h2 h3 h4 (ne c h2) o e),fun c h _ o e =>
   let n:=ne c (Heap.lt_size e);let⟨sl,e'⟩:=ev.frame c h n o e;⟨sl,(hs.2 c n).trans e'⟩,fun b o e=>sub b o (ev.sub b o e),fun _ _ e=>qI (ev.pre _ _ e),
  fun c h e=>(cE fun q=>ne c h (hb c q)).trans (ev.out c h e)⟩
structure Rl(n:Nat) (us:List Value) (as:List AV) (w:Wd):Prop where
 r:dw w.G w.as us as
 n:us.length=n
structure Nz(cx:Cx) (ts:List Tx) (ps:List (Value×Value)) (as:List AV) (w:Wd):Prop where
 c:Carries (strKind cx.prog cx.w) ps ((ts.map tx).zip (ps.map (·.2)))
 r:dw w.G w.as (ps.map (·.2)) as
 n:ps.length=ts.length
inductive KeysAre:List Tx->List (Option Expr)->Prop
 |nil:KeysAre [] []
 |cons {t:Tx}{k:Nat}{p:Pos}{ts:List Tx}{xs:List (Option Expr)}:KeysAre ts xs->KeysAre (t::ts) (some (Expr.Constant (.str (tx t)) k p)::xs)
theorem KeysAre.length{ts:List Tx}{xs:List (Option Expr)}(h:KeysAre ts xs):xs.length=ts.length:=by
 induction h with
 |nil=>rfl
 |cons _ ih=>exact congrArg Nat.succ ih
theorem KeysAre.all{ts:List Tx}{xs:List (Option Expr)}(h:KeysAre ts xs):xs.all (·.isSome)=true:=by
 induction h with
 |nil=>rfl
 |cons _ ih=>exact ih
structure SA(cx:Cx) (K:Kx) (xs:List Expr) (f:Gm->aB->R (List AV)):Prop where
 head:∀x r,xs=x::r->starEach xs K.env=(false,eval x K.env)::starEach r K.env
 plain:∀pos,(backTo pos (starEach xs K.env)).any (·.1)=false
 w:∀pos g w,At cx K g w->Wp cx K.A K.l w (spliced (backTo pos (starEach xs K.env))) (f g w.st) (Rl xs.length)
 p:∀{ts NB},KeysAre ts NB->ts.length=xs.length->∀pos g w,At cx K g w->Wp cx K.A K.l w (evalPairs (pairTrees NB xs K.env pos)) (f g w.st) (Nz cx ts)
section
variable {cx:Cx}{nm:Nat->Option Str}{w w':Wd}{K:Kx}{g:Gm}{v u:Value}{A:Around}{l:List Env}{E:Value->Shared->Prop}{Q:Value->Shared->Prop}{d e:PV}{us:List Value}{ds:List PV}{s':Shared}{x y:Expr}{f f':Kv}{pos:Pos}{xs:List Expr}{fs:Gm->aB->R (List AV)}
theorem At.toks(X:At cx K g w){tk:Nat}:iA cx K.l w (w.at { w.s with toks:=tk }):=X.inv.toks rfl rfl rfl
theorem bT.start{α β:Type}{Rel:α->β->Wd->Prop}{Q:α->Shared->Prop}{r:R β}(T:bT cx l w r Rel Q E) (ev:iA cx l w w'):bT cx l w' r Rel Q E :=
 ⟨T.ne,fun b a zR e x rel=>T.ok b a zR e (ev.trans x) rel,fun m e zR q x z=>T.err m e zR q (ev.trans x) (z.mono ev.size)⟩
theorem bT.run{α β γ δ:Type}{x:Sem α}{r:R β}{k:β->aB->R γ}{Rel:α->β->Wd->Prop}{Rel2:δ->γ->Wd->Prop}{Q:δ->Shared->Prop}{Q0:α->Shared->Prop}(T:bT cx l w (r.bind k) Rel2 Q E) (ev:iA cx l w w') (h:Wp cx A l w' x r Rel)
  (go:∀b a w1,iA cx l w' w1->Rel a b w1->bT cx l w (k b w1.st) Rel2 Q E->Q0 a w1.s):wpAny (model cx.prog cx.w) A x Q0 E w'.s :=
 h Q0 E ⟨fun e=>T.ne (by rw[e];rfl),fun b a w1 e e1 rel=>go b a w1 e1 rel (by subst e;exact T),fun m e w1 q e1 z=>by
  subst q
  exact T.err m e w1 rfl (ev.trans e1) (z.mono ev.size)⟩
theorem bT.jf{γ δ:Type}{w1:Wd}{as:List AV}{vs:List Value}{f:List PV->aB->R γ}{Rel2:δ->γ->Wd->Prop}{Q:δ->Shared->Prop}{P:Prop}(I:Inv cx w1) (r:dw w1.G w1.as vs as) (T:bT cx l w ((Mine.fy w1.st as).bind f) Rel2 Q E)
  (k:∀ds G' st',iA cx l w1 ⟨G',w1.as,st',w1.s⟩->bh G' vs ds->bT cx l w (f ds st') Rel2 Q E->P):P:=by
 rcases mP I r with e|⟨ds,st',e,G',ev,r'⟩
 ·exact absurd (by rw[e];rfl) T.ne
 ·exact k ds G' st' (ev _ _) r' (by rw[e] at T;exact T)
theorem SA.nil:SA cx K [] fun _ st=>ok [] st where
 head _ _ q:=nomatch q
 plain _:=rfl
 w _ _ _ X _ _ T:=wpAny_items_nil (T.done X.inv ⟨.nil,rfl⟩)
 p hk hl _ _ _ X _ _ T:=by
  induction hk with
  |nil=>exact evalPairs_nil (T.done X.inv ⟨trivial,.nil,rfl⟩)
  |cons=>injection hl
theorem dw.ev{fr:List Addr}{as:List AV}(r:dw w.G w.as us as) (y:Ev cx fr om w w'):dw w'.G w'.as us as:=r.mono y.sub y.pre
theorem SA.cons(he:∀rest,starEach (x::rest) K.env=(false,eval x K.env)::starEach rest K.env) (h:SE cx K x f) (r:SA cx K xs fs):SA cx K (x::xs) (qF f fs) where
 head _ _ q:=by cases q;exact he _
 plain pos:=by rw[he];exact r.plain pos
 w pos g w X Q E T:=wpAny_items_cons ((h g w X).step T fun a v w1 e1 r1 T=>(r.w pos g w1 (X.ev e1)).step T fun b us w2 e2 r2 T=>T.done e2.inv ⟨.cons (r1.ev e2) r2.r,congrArg Nat.succ r2.n⟩) (he xs)
 p hk hl pos g w X Q E T:=by
  induction hk with
  |nil=>injection hl
  |cons hk =>
   have e0:=X.toks (tk:=w.s.toks+1)
   exact evalPairs_cons (wpAny_Constant_str (wpAny_bind (Wp.step (w:=w.at _) (h g _ (X.ev e0)) (T.start e0) fun a v w1 e1 r1 T=>wpAny_bind (wpAny_standAt (wpAny_pure
    ((r.p hk (Nat.succ.inj hl) pos g w1 ((X.ev e0).ev e1)).step T fun b us w2 e2 r2 T=>T.done e2.inv ⟨⟨strKind_is _ _ _ _,rfl,r2.c⟩,.cons (r1.ev e2) r2.r,congrArg Nat.succ r2.n⟩))))))
theorem SE.list(r:SA cx K xs fs) (hl:xs.length<=100):SE cx K (.List xs pos) (kN CI fs):=fun g w X Q E T =>
 wpAny_List ((r.w pos g w X).step T fun as us w1 e1 r1 T=>T.fy e1.inv r1.r fun ds G' st' e2 r2 T =>
  have hn:us.length<=100:=Nat.le_trans (Nat.le_of_eq r1.n) hl
  ⟨Nat.le_trans hn (by decide),T.Bg (w:=⟨G',w1.as,st',w1.s⟩) e2.inv .push nt (r2.length▸Nat.le_trans hn (by decide)) r2⟩)
theorem SE.tup{k:Nat}(r:SA cx K xs fs) (hl:xs.length<=100):SE cx K (.Tuple xs k pos) (kN Ju fs):=fun g w X Q E T =>
 wpAny_Tuple ((r.w pos g w X).step T fun as us w1 e1 r1 T=>T.fy e1.inv r1.r fun ds G' st' e2 r2 T =>
  have hn:us.length<=100:=Nat.le_trans (Nat.le_of_eq r1.n) hl
  ⟨Nat.le_trans hn (by decide),T.Rg (w:=⟨G',w1.as,st',w1.s⟩) e2.inv .push Ge (r2.length▸Nat.le_trans hn (by decide)) r2⟩)
@[reducible] noncomputable def zc:Obj:={ cls:=.type "dict",data:=.dict #[] }
theorem iz.new{ob:Obj}(I:Inv cx w):iz cx (w.at { w.s with heap:=w.h.push ob }) w.n:=⟨I.ge,by show w.n<(w.h.push ob).objs.size;rw[Heap.size_push];exact Nat.lt_succ_self _,I.rel.mu (Nat.le_refl _)⟩
theorem dK.fresh{a:Addr}(x:dK cx l w) (h:w.n<=a):a∉ek l:=fun q=>Nat.not_lt.mpr h (x.at' a q).lt
theorem stored_new{K:Type} [DecidableEq K] {acc:List (K×Value)}{k:K}{v:Value}(h:k∉acc.map (·.1)):stored acc k v=acc++[(k,v)]:=by
 rw[stored,if_neg]
 rw[List.any_eq_true];rintro⟨kv,hkv,he⟩
 exact h (List.mem_map.mpr ⟨kv,hkv,of_decide_eq_true he⟩)
theorem qR{K:Type} [DecidableEq K]:∀(kvs acc:List (K×Value)),((acc++kvs).map (·.1)).Nodup->merged acc kvs=acc++kvs
 |[],acc,_=>(List.append_nil acc).symm
 |(k,v)::kvs,acc,h=>by
  have h1:k∉acc.map (·.1):=by
   rw[List.map_append,List.nodup_append] at h
   intro q
   exact h.2.2 k q k (.head _) rfl
  show merged (stored acc k v) kvs=_
  rw[stored_new h1,qR kvs _ (by rw[List.append_assoc];exact h),List.append_assoc]
  rfl
theorem C9{ts:List Tx}(h:ts.Nodup):(ts.map tx).Nodup:=List.Pairwise.map tx (fun _ _ n e=>n (kh e)) h
theorem qk{α β:Type}{a:List α}{b:List β}(h:a.length=b.length):(a.zip b).map (·.1)=a:=List.map_fst_zip (Nat.le_of_eq h)
theorem z7{α β:Type}{a:List α}{b:List β}(h:a.length=b.length):(a.zip b).map (·.2)=b:=List.map_snd_zip (Nat.le_of_eq h.symm)
theorem lF{t:Tx}(h:tx t=fc):t=b9:=kh (h.trans (by decide))
theorem Sh.ofKeys{ep:Nat}{ts:List Tx}(hn:us.length=ts.length) (hd:ts.length=ds.length) (hz:ts.length<=lim) (hs:b9∉ts):Sh (.dS ((ts.map tx).zip us) ep) (.aK (ts.zip ds)) us ds:=by
 have h1:(ts.map tx).length=us.length:=by rw[List.length_map,hn]
 have z:=Sh.dS (ep:=ep) (kvs:=(ts.map tx).zip us) (l:=ts.zip ds) (by rw[List.length_zip];exact Nat.le_trans (Nat.min_le_left _ _) hz)
  (by rw[qk h1,show(fun p:Tx×PV=>tx p.1)=tx ∘ Prod.fst from rfl,<-List.map_map,qk hd])
  (by rw[qk h1];intro q;obtain⟨t,ht,he⟩:=List.mem_map.mp q;exact hs (lF he▸ht))
 rwa [z7 h1,z7 hd] at z
theorem SE.dict{ts:List Tx}{NB:List (Option Expr)}(r:SA cx K xs fs) (hk:KeysAre ts NB) (hl:ts.length=xs.length) (h0:xs≠[]) (hlen:xs.length<=15) (VA:ts.Nodup) (IC:b9∉ts):SE cx K (.Dict NB xs pos) (kN (CK ts) fs):=fun g w X Q E T=>by
 have Uk:=hk.length.trans hl
 refine wpAny_Dict_walk (knd:=strKind cx.prog cx.w) hk.all Uk (fun e=>h0 (List.length_eq_zero_iff.mp (by rw[<-Uk,e];rfl))) (by omega) ?_
 have e0:iA cx K.l w (w.at { w.s with heap:=w.h.push zc }):=iP.push.ev X.inv
 have pv:iz cx (w.at { w.s with heap:=w.h.push zc }) w.n:=.new X.inv
 refine T.run e0 (r.p hk hl pos g _ (X.ev e0)) fun as ps w1 e1 r1 T=>T.jf e1.inv r1.r fun ds G' st' e2 r2 T=>bT.ite T fun hd T=>?_
 refine⟨_,r1.c,e1.keep _ pv.ge pv.lt pv.out (X.fr.fresh (Nat.le_refl _)) (fun q=>q) |> fun k=>?_,fun h' Gh ID=>?_⟩
 ·obtain⟨o,es,ep,q,z⟩:=Heap.DictOf.new (knd:=strKind cx.prog cx.w) w.h
  exact⟨o,es,ep,k o q,z⟩
 ·have hn:(ps.map (·.2)).length=ts.length:=(List.length_map ..).trans r1.n
  rw[qR _ [] (by rw[List.nil_append,qk ((List.length_map ..).trans hn.symm)];exact C9 VA)] at Gh
  obtain⟨ep,Gh⟩:=Gh.dictAt
  have hd2:Is cx h' w.n (.dS ((ts.map tx).zip (ps.map (·.2))) ep):=Gh
  exact T.ok _ _ (Wd.push ⟨G',w1.as,st',w1.s⟩ (w.n,0) (.aK (ts.zip ds)) { w1.s with heap:=h',toks:=w1.s.toks+ps.length }) rfl
   (Inv.adopt (w:=⟨G',w1.as,st',w1.s⟩) e2.inv ((pv.ev e1).ev e2) ID rfl rfl rfl hd2 (let⟨_,_,e,_⟩:=Gh;⟨_,e⟩) (.ofKeys hn hd (Nat.le_trans (by omega:ts.length<=15) (by decide)) IC) r2 (((e0.trans e1).trans e2).weaken (fun _ _ q=>q.elim) (fun _ _=>.rfl) fun a q=>(X.fr.at' a q).lt) (Nat.le_refl _)) (.mk _ (gq e2.inv.rel.len.symm) rfl)
theorem SE.IE{nd:Node}{o:FO}(e:Cq nd=some d) (i:∀h,Is cx (Heap.push h zc) h.objs.size o) (q:Sh o d [] []):SE cx K (.Dict [] [] pos) fun _ st=>alloc st nd:=fun g w X Q E T =>
 wpAny_Dict_empty (T.JY X.inv .push e (i _) ⟨_,Heap.get?_push_size _ rfl⟩ q .nil)
end
theorem size_update(h:Heap) (a:Addr) (f:Obj->Obj):(h.update a f).objs.size=h.objs.size:=by
 unfold Heap.update;split<;>simp
theorem oE{M:Model}{Γ:Ctx}{p:Pos}{t:Sem Fin}{fs:List Frame}{s s':Shared}{e:End}(h:Runs M Γ p t fs s e s'):s.heap.objs.size<=s'.heap.objs.size:=by
 induction h<;>(try simp only[Shared.setGen,size_update,Heap.size_push] at *)<;>omega
theorem zd{M:Model}{Γ:Ctx}{p:Pos}{g:Nat}{r:Resume}{s s':Shared}{res:GenResult}(h:Wakes M Γ p g r s res s'):s.heap.objs.size<=s'.heap.objs.size:=by
 unfold Wakes at h
 split at h
 ·exact h.elim
 ·split at h
  ·obtain⟨Rm,cz,hr,_,_,rfl⟩:=h;exact(oE hr:(s.setGen g .running).heap.objs.size<=cz.heap.objs.size)
  ·rw[h.2];exact Nat.le_refl _
  ·rw[h.2];exact Nat.le_refl _
 ·obtain⟨Rm,cz,hr,_,_,rfl⟩:=h;exact(oE hr:(s.setGen g .running).heap.objs.size<=cz.heap.objs.size)
 ·rw[h.2];exact Nat.le_refl _
 ·rw[h.2];exact Nat.le_refl _
theorem Gi{α:Type}(M:Model) (Γ:Ctx) (n:Nat) (t:Sem α):∀(Q:α->Pos->Shared->Prop) (E:Value->Pos->Shared->Prop) (p:Pos) (s:Shared),n<=s.heap.objs.size->Sem.wp M Γ t Q E p s ->
  Sem.wp M Γ t (fun a p' s'=>n<=s'.heap.objs.size/\Q a p' s') (fun e p' s'=>n<=s'.heap.objs.size/\E e p' s') p s:=by
 have pu:∀(h:Heap) (o:Obj),n<=h.objs.size->n<=(h.push o).objs.size:=fun h o q=>by rw[Heap.size_push];omega
 induction t with
 |pure a=>intro Q E p s hn h;exact⟨hn,h⟩
 |raise e=>intro Q E p s hn h;exact⟨hn,h⟩
 |rule _ k ih=>intro Q E p s hn h;exact ih () Q E p s hn h
 |«at» p' k ih=>intro Q E p s hn h;exact ih () Q E p' s hn h
 |load a _ k ih=>intro Q E p s hn h;obtain⟨o,ho,h⟩:=h;exact⟨o,ho,ih o Q E p s hn h⟩
 |update a _ f k ih=>intro Q E p s hn h;exact⟨h.1,ih () Q E p _ (by show n<=(s.heap.update a f).objs.size;rw[size_update];exact hn) h.2⟩
 |loadIfAlive a k ih=>intro Q E p s hn h;exact ih _ Q E p s hn h
 |point _ k ih=>intro Q E p s hn h;exact ih () Q E p s hn h
 |alloc o k ih=>intro Q E p s hn h;exact ih _ Q E p _ (pu _ _ hn) h
 |fresh k ih=>intro Q E p s hn h;exact ih _ Q E p _ hn h
 |ask k ih=>intro Q E p s hn h;exact ih _ Q E p s hn h
 |choose src m k ih=>intro Q E p s hn h;exact⟨h.1,ih _ Q E p _ hn h.2⟩
 |os q _ k ih=>intro Q E p s hn h;exact ih _ Q E p _ hn h
 |call c hd _ _ k ih=>intro Q E p s hn h;obtain⟨r,s',hr,h⟩:=h;exact⟨r,s',hr,ih r Q E p s' (Nat.le_trans hn (oE hr)) h⟩
 |handled own k ih=>intro Q E p s hn h;exact ih _ Q E p s hn h
 |genState g k ih=>intro Q E p s hn h;obtain⟨st,hs,h⟩:=h;exact⟨st,hs,ih _ Q E p s hn h⟩
 |newGen c k ih=>intro Q E p s hn h;exact ih _ Q E p _ hn h
 |resume g r _ k ih=>intro Q E p s hn h;obtain⟨res,s',hw,h⟩:=h;exact⟨res,s',hw,ih res Q E p s' (Nat.le_trans hn (zd hw)) h⟩
 |stack k ih=>intro Q E p s hn h;exact ih _ Q E p s hn h
 |thread k ih=>intro Q E p s hn h;exact ih _ Q E p s hn h
 |_=>intro Q E p s _ h;exact h
theorem er{α:Type}{M:Model}{A:Around}{s:Shared}{t:Sem α}{Q:α->Shared->Prop}{E:Value->Shared->Prop}(h:wpAny M A t (fun a s'=>s.heap.objs.size<=s'.heap.objs.size->Q a s') (fun e s'=>s.heap.objs.size<=s'.heap.objs.size->E e s') s):wpAny M A t Q E s :=
 fun Γ p Qk=>Sem.wp_mono M Γ t (fun _ _ _ x=>x.2 x.1) (fun _ _ _ x=>x.2 x.1) p s (Gi M Γ _ t _ _ p s (Nat.le_refl _) (h Γ p Qk))
structure Cs(cx:Cx) (D:Frag):Prop where
 VB:D.In cx.h₀
 cls:∀a o,D.lookup a=some o->o.cls≠.none
 plain:∀c,plainGet D (cx.cA c) "__class__" = true
 Rn:∀c,hasDictIn D (cx.cA c)=true
 J5:∀c,findIn D (.ref (cx.cA c)) "__class__" = some (some (.builtin "object.__class__"))
 get:specialIn D (.builtin "object.__class__") "__get__" = some (some (.builtin "getset_descriptor.__get__"))
 takes:takesIn D (.builtin "object.__class__")=some true
 mro:∀c,mroIn D (cx.cA c) (.type "object")=some true
 CA:∀c,kitOne D (.ref (cx.cA c)) (.ref (cx.cA .aQ))=some c.CA
 Ro:kitOne D (.type "NoneType") (.ref (cx.cA .aQ))=some false
 Rp:kitOne D (.type "str") (.ref (cx.cA .aQ))=some false
 VC:∀c,kitOne D (.ref (cx.cA c)) (.type "str")=some false
 Rq:kitOne D (.type "str") (.type "str")=some true
 NC:kitOne D (.type "NoneType") (.type "str")=some false/\kitOne D (.type "tuple") (.type "str")=some false
 makes:∀c,makesIn D (cx.cA c)=true
 init:∀c,findIn D (.ref (cx.cA c)) "__init__" = some (some (.ref (cx.fA (fQ c))))
 fn:∀c,typeIn D (.ref (cx.fA (fQ c)))=some (.type "function")
section
variable {cx:Cx}{D:Frag}{nm:Nat->Option Str}{w w':Wd}{K:Kx}{g:Gm}{v u:Value}{a:AV}{A:Around}{l:List Env}{E:Value->Shared->Prop}{Q:Value->Shared->Prop}{d e:PV}{us:List Value}{ds:List PV}{s':Shared}{b:Bool}
theorem Cs.here(X:Cs cx D){h:Heap}(O:OldK cx.h₀ h):D.In h:=fun a o e=>O.get_of_cls (X.VB a o e) (X.cls a o e)
noncomputable def Gj(cx:Cx) (A:Around) (w:Wd) (v t:Value) (b:Bool):Prop:=∀(E:Value->Shared->Prop) (Q:Value->Shared->Prop),(∀tk,Q (.bool b) { w.s with toks:=tk })->wpAny (model cx.prog cx.w) A (PySem.call (.builtin "isinstance") [v,t]) Q E w.s
theorem Bk{o:Obj}(nd:∀c,o.data≠.cls c):notCls o=true:=by
 unfold notCls
 split
 ·rename_i c' hc;exact absurd hc (nd c')
 ·rfl
theorem qS{a dx:Addr}{c:gZ}{gs:List (Tx×Value)}{t:Value}(KB:Cs cx D) (I:Inv cx w) (e:kitOne D (.ref (cx.cA c)) t=some b):mq cx w.h a dx c gs->Gj cx A w (.ref a) t b
 |.mk m (.mk o e1 cc nd hd ne n ⟨od,ed,_⟩ _) _ _=>fun E Q h =>
  kia_one (kitx_own (KB.plain c) (KB.Rn c) (KB.J5 c) KB.get KB.takes (KB.mro c)) (KB.here I.old) (show InstAt w.h a o (cx.cA c) (some od) from⟨e1,cc,Bk nd,by rw[hd];exact ed⟩) e (fun q=>by injection q) h
theorem tU(KB:Cs cx D) (I:Inv cx w) (r:Rep w.G v d) (q:yU d=some b):Gj cx A w v (.ref (cx.cA .aQ)) b:=by
 cases r with
 |none=>(injection q with q;subst q);exact fun E Q h=>kia_one kitx_none (KB.here I.old) trivial KB.Ro (fun q=>by injection q) h
 |str=>(injection q with q;subst q);exact fun E Q h=>kia_one kitx_str (KB.here I.old) trivial KB.Rp (fun q=>by injection q) h
 |ref e z r =>
  induction z with
  |ins k=>(injection q with q;subst q);exact qS KB I (KB.CA _) (I.rel.fz _ _ e)
  |_=>injection q
 |_=>injection q
theorem Dc(KB:Cs cx D) (I:Inv cx w) (r:cO w.G w.as v a) (q:ou w.st a=some b):Gj cx A w v (.ref (cx.cA .aQ)) b:=by
 induction a with
 |t d=>exact tU KB I r q
 |r i =>
  obtain⟨p,hp,rfl⟩:=r
  have q:yT w.st[i]? = some b:=q
  cases hn:w.st[i]? with
  |none=>rw[hn] at q;injection q
  |some nd =>
   rw[hn] at q
   cases I.rel.nodes i p nd hp hn with
   |fz r =>
    rename_i d
    cases d with
    |inst c fs=>exact tU KB I r q
    |_=>injection q
   |tr e=>cases nd<;>first| (cases q;done)|(injection e;done)
   |inst i r=>(injection q with q;subst q);exact qS KB I (KB.CA _) i
theorem Dd(KB:Cs cx D) (I:Inv cx w) (r:Rep w.G v d) (q:Jv d=some b):Gj cx A w v (.type "str") b:=by
 cases r with
 |none=>(injection q with q;subst q);exact fun E Q h=>kia_one kitx_none (KB.here I.old) trivial KB.NC.1 (fun q=>by injection q) h
 |str=>(injection q with q;subst q);exact fun E Q h=>kia_one kitx_str (KB.here I.old) trivial KB.Rq (fun q=>by injection q) h
 |ref e z r =>
  induction z with
  |ins k=>(injection q with q;subst q);exact qS KB I (KB.VC _) (I.rel.fz _ _ e)
  |tup z =>
   injection q with q;subst q
   obtain⟨⟨o,e1,e2,_⟩,_⟩:=I.rel.fz _ _ e
   exact fun E Q h=>kia_one kitx_tuple (KB.here I.old) ⟨o,e1,e2⟩ KB.NC.2 (fun q=>by injection q) h
  |_=>injection q
 |_=>injection q
end
noncomputable def ze:Bi->Value
 |.len=>.builtin "len"
 |.max2=>.builtin "max"
 |.qz=>.builtin "max"
 |.abs=>.builtin "abs"
 |.chr=>.builtin "chr"
 |.list=>.type "list"
 |.dict=>.type "dict"
 |_=>.none
section
variable {cx:Cx}{D:Frag}{nm:Nat->Option Str}{w w':Wd}{K:Kx}{g:Gm}{v u:Value}{a:AV}{A:Around}{l:List Env}{E:Value->Shared->Prop}{Q:Value->Shared->Prop}{d e:PV}{us:List Value}{ds:List PV}{s':Shared}{b:Bool}{G:Addr->Lg}
inductive Ml(cx:Cx) (w:Wd):List Value->List PV->Prop
 |nil:Ml cx w [] []
 |cons {v:Value}{vs:List Value}{d:PV}{l:List PV}(x:Vw cx w v d) (r:Ml cx w vs l):Ml cx w (v::vs) (d::l)
inductive Ql(cx:Cx) (w:Wd) (us:List Value):R (List PV)->Prop
 |none:Ql cx w us none
 |ok (ds:List PV) (x:Ml cx w us ds):Ql cx w us (Mine.ok ds w.st)
theorem tV(S:eS cx w):∀{sO:List AV}{us:List Value},dw w.G w.as us sO->Ql cx w us (uV w.st sO)
 |[],_,.nil=>.ok [] .nil
 |a::sO,_,.cons x r=>by
  unfold uV
  generalize vw w.st a=o,x.vw S=y
  induction y with
  |none=>exact .none
  |some y =>
   dsimp only
   generalize uV w.st sO=q,tV S r=z
   induction z with
   |none=>exact .none
   |ok ds z=>exact .ok _ (.cons y z)
theorem bT.uV{γ δ:Type}{as:List AV}{f:List PV->aB->R γ}{Rel2:δ->γ->Wd->Prop}{Q:δ->Shared->Prop}{P:Prop}(I:Inv cx w) (r:dw w.G w.as us as) (T:bT cx l w ((Mine.uV w.st as).bind f) Rel2 Q E)
  (k:∀ds,Ml cx w us ds->bT cx l w (f ds w.st) Rel2 Q E->P):P:=by
 have key:∀{q},Ql cx w us q->bT cx l w (q.bind f) Rel2 Q E->P:=fun z T=>by
  induction z with
  |none=>exact T.no
  |ok ds z=>exact k ds z T
 exact key (tV I.rel r) T
theorem bT.grown(T:bT cx l w (Mine.ok a w.st) cG Q E) (I:Inv cx w) (gr:iP w s') (r:cO w.G w.as v a):Q v s':=T.ok _ _ (w.at s') rfl (gr.ev I) r
theorem gM{α β γ:Type}{f:α->γ}{h:β->γ}{l:List α}{k:List β}(e:l.map f=k.map h):l.length=k.length:=by have:=congrArg List.length e;rwa [List.length_map,List.length_map] at this
theorem J6(I:Inv cx w) (hs:sysModules<cx.cX) (x:Vw cx w v d) (T:bT cx l w (m6 (AZ d) w.st) cG Q E):wpAny (model cx.prog cx.w) A (PySem.call (.builtin "len") [v]) Q E w.s:=by
 induction x with
 |ref ge i q r =>
  induction q with
  |lst z=>unfold lim at z;exact kun_lenL (Heap.PlainList.isList ⟨_,i⟩) (by rw[List.size_toArray,r.length]) (by omega) (T.same I (Rep.int _ _))
  |tup z=>unfold lim at z;exact kun_lenT i.tup (by rw[List.size_toArray,r.length]) (by omega) (T.same I (Rep.int _ _))
  |dS z k n=>unfold lim at z;exact call_len_dict (big hs ge) (Heap.DictAt.dictOf i) (by rw[gM k];omega) (gM k▸T.same I (Rep.int _ _))
  |dI z k=>unfold lim at z;exact call_len_dict (big hs ge) i (by rw[gM k];omega) (gM k▸T.same I (Rep.int _ _))
  |ins=>exact T.no
 |_=>exact T.no
inductive ND(us:List Value) (ns:List Int):Prop
 |mk (xs:List (Int×Tok)) (e:us.toArray=intItems xs.toArray) (q:xs.map (·.1)=ns)
theorem pF:∀{l:List PV}{us:List Value}{ns:List Int},bh G us l->intsOf l=some ns->ND us ns
 |[],_,_,.nil,e=>by(injection e with e;subst e);exact .mk [] (by simp[intItems]) rfl
 |d::l,_,ns,.cons x r,e=>by
  cases x with
  |int i t =>
   obtain⟨YS,e',rfl⟩:=Option.map_eq_some_iff.mp e
   obtain⟨xs,h1,h2⟩:=pF r e'
   refine .mk ((i,t)::xs) ?_ (congrArg (i::·) h2)
   have h1:=congrArg Array.toList h1
   apply Array.toList_inj.mp
   simp[intItems] at h1 ⊢
   exact h1
  |ref _ q _=>cases q<;>injection e
  |_=>injection e
theorem jG:∀{l:List Int}{a:Int},a<=l.foldl max a
 |[],_=>Int.le_refl _
 |b::_,a=>Int.le_trans (Int.le_max_left a b) jG
theorem qT:∀{l:List Int}{a x:Int},x∈a::l->x<=l.foldl max a
 |_,_,_,.head _=>jG
 |b::_,a,_,.tail _ (.head _)=>Int.le_trans (Int.le_max_right a b) jG
 |_::l,_,_,.tail _ (.tail _ h)=>qT (l:=l) (.tail _ h)
theorem max_mem:∀{l:List Int}{a:Int},l.foldl max a∈a::l
 |[],_=>.head _
 |b::l,a=>by
  show l.foldl max (max a b)∈_
  rcases List.mem_cons.mp (max_mem (l:=l) (a:=max a b)) with q|q
  ·rw[q]
   rcases Int.le_total a b with h|h
   ·rw[Int.max_eq_right h];exact .tail _ (.head _)
   ·rw[Int.max_eq_left h];exact .head _
  ·exact .tail _ (.tail _ q)
theorem J7{ns:List Int}{n m:Int}(h:m∈n::ns) (k:∀y∈n::ns,y<=m):m=ns.foldl max n:=Int.le_antisymm (qT h) (k _ max_mem)
theorem Gk(hh:A.handled=none) (I:Inv cx w) (x:Vw cx w v d) (T:bT cx l w (Mg .qz w.st d) cG Q E):wpAny (model cx.prog cx.w) A (PySem.call (.builtin "max") [v]) Q E w.s:=by
 induction x with
 |ref ge i q r =>
  induction q with
  |lst z =>
   rename_i vs k m0
   have T:bT cx l w (m6 ((intsOf k).bind maxOf) w.st) cG Q E:=T
   cases h:intsOf k with
   |none=>rw[h] at T;exact T.no
   |some ns =>
    rw[h] at T
    induction ns with
    |nil=>exact T.no
    |cons n ns =>
     obtain⟨xs,e1,e2⟩:=pF r h
     have i:=Heap.PlainList.isList ⟨_,i⟩
     rw[e1] at i
     have hlen:xs.toArray.size=(n::ns).length:=by rw[List.size_toArray,<-e2,List.length_map]
     refine er (max_intList hh i (hlen▸Nat.succ_pos _) fun v h' tk hv hk hsz=>?_)
     obtain⟨t,rfl⟩:=intItems_at hv
     have hn:∀i,numAt xs.toArray i=(n::ns).getD i 0:=fun i=>by rw[<-e2];simp[numAt_eq]
     obtain⟨g1,g2⟩:=argBest_gt (numAt xs.toArray) (xs.toArray.size-1)
     generalize argBest (fun i j=>decide (numAt xs.toArray i>numAt xs.toArray j)) (xs.toArray.size-1)=j at *
     refine(fun hm:numAt xs.toArray j=ns.foldl max n=>?_) (J7 (by rw[hn];exact getD_mem (by rw[<-hlen];have:=Nat.succ_pos ns.length;rw[List.length_cons] at hlen;omega)) fun y hy=>?_)
     ·rw[hm];exact bT.grown T I ⟨hk,rfl,rfl,hsz⟩ (Rep.int _ _)
     ·obtain⟨i,hi,rfl⟩:=mem_getD hy
      rw[<-hn i];exact g2 i (by omega)
  |_=>exact T.no
 |_=>exact T.no
theorem J8(I:Inv cx w) (x:Vw cx w v d) (T:bT cx l w (Mg .abs w.st d) cG Q E):wpAny (model cx.prog cx.w) A (PySem.call (.builtin "abs") [v]) Q E w.s:=by
 induction x with
 |int i t =>
  refine call_abs_int fun u tk=>?_
  have:(if i<0 then -i else i)=(i.natAbs:Int):=by split<;>omega
  rw[this]
  exact T.same I (Rep.int _ _)
 |ref _ _ q _=>induction q<;>exact T.no
 |_=>exact T.no
theorem J9(I:Inv cx w) (x:Vw cx w v d) (T:bT cx l w (Mg .chr w.st d) cG Q E):wpAny (model cx.prog cx.w) A (PySem.call (.builtin "chr") [v]) Q E w.s:=by
 induction x with
 |int i t=>exact bT.ite T fun hc T=>PySem.P.chr_of_int (by simp;omega) (T.same I (Rep.str [i.toNat] _ (by simp[sS,lim];omega)))
 |ref _ _ q _=>induction q<;>exact T.no
 |_=>exact T.no
theorem Gl(I:Inv cx w) (x:Vw cx w v d) (T:bT cx l w (Mg .list w.st d) cG Q E):wpAny (model cx.prog cx.w) A (PySem.call (.type "list") [v]) Q E w.s:=by
 induction x with
 |ref ge i q r =>
  induction q with
  |lst z =>
   have ho:=i
   have z':=z
   unfold lim at z'
   exact er (call_list_seq (hsz:=by rw[List.size_toArray,r.length];exact Nat.le_trans z (by decide)) _ (.inl rfl) ho rfl rfl fun h' c' hk hD hsz=>bT.Bg T I ⟨hk,rfl,rfl,hsz⟩ ⟨c',hD⟩ z r)
  |_=>exact T.no
 |_=>exact T.no
theorem Gn(I:Inv cx w) (hs:sysModules<cx.cX) (x:Vw cx w v d) (T:bT cx l w (Mg .dict w.st d) cG Q E):wpAny (model cx.prog cx.w) A (PySem.call (.type "dict") [v]) Q E w.s:=by
 induction x with
 |ref ge i q r =>
  induction q with
  |dS z k n =>
   refine kt_call_dict (big hs ge) (Heap.DictAt.dictOf i) (by rw[gM k];exact Nat.le_trans z (by decide)) fun h' hd ID=>?_
   have De:∀b o,w.h.get? b=some o->h'.get? b=some o:=fun b o e=>by
    rw[ID.2 b (Nat.ne_of_lt (Heap.lt_size e))];exact Heap.get?_push_of_some _ e
   obtain⟨ep,hd⟩:=hd.dictAt
   exact bT.JY (o:=.dS _ ep) T I ⟨De,rfl,rfl,by rw[ID.1,Heap.size_push];exact Nat.le_succ _⟩ rfl hd (let⟨_,_,e,_⟩:=hd;⟨_,e⟩) (.dS z k n) r
  |_=>exact T.no
 |_=>exact T.no
theorem Gp(hh:A.handled=none) (I:Inv cx w) (x:Vw cx w v d) (y:Vw cx w u e) (T:bT cx l w (Im w.st d e) cG Q E):wpAny (model cx.prog cx.w) A (PySem.call (.builtin "max") [v,u]) Q E w.s:=by
 induction x with
 |int i t =>
  induction y with
  |int j t' =>
   refine er (max_two_ints hh fun h' tk hk hsz=>?_)
   have T:bT cx l w (Mine.ok (.t (.int (max i j))) w.st) cG Q E:=T
   by_cases hc:j>i
   ·rw[if_pos hc]
    rw[Int.max_eq_right (Int.le_of_lt hc)] at T
    exact T.grown I ⟨hk,rfl,rfl,hsz⟩ (Rep.int _ _)
   ·rw[if_neg hc]
    rw[Int.max_eq_left (Int.not_lt.mp hc)] at T
    exact T.grown I ⟨hk,rfl,rfl,hsz⟩ (Rep.int _ _)
  |ref _ _ q _=>induction q<;>exact T.no
  |_=>exact T.no
 |ref _ _ q _=>induction q<;>exact T.no
 |_=>exact T.no
theorem NF{b:Bi}(B:Base cx nm) (hh:A.handled=none) (I:Inv cx w) (x:Ml cx w us ds) (T:bT cx l w (xd b w.st ds) cG Q E):wpAny (model cx.prog cx.w) A (PySem.call (ze b) us) Q E w.s:=by
 cases x with
 |nil=>exact T.no
 |cons x r =>
  cases r with
  |nil =>
   cases b with
   |len=>exact J6 I B.sys x T
   |qz=>exact Gk hh I x T
   |abs=>exact J8 I x T
   |chr=>exact J9 I x T
   |list=>exact Gl I x T
   |dict=>exact Gn I B.sys x T
   |_=>exact T.no
  |cons y r =>
   cases r with
   |nil =>
    cases b with
    |max2=>exact Gp hh I x y T
    |_=>exact T.no
   |cons=>exact T.no
end
section
variable {cx:Cx}{D:Frag}{nm:Nat->Option Str}{w w':Wd}{K:Kx}{g:Gm}{v u:Value}{a:AV}{A:Around}{l:List Env}{E:Value->Shared->Prop}{Q:Value->Shared->Prop}{d e:PV}{us:List Value}{ds:List PV}{s':Shared}{b:Bool}{G:Addr->Lg}{x y:Expr}{xs:List Expr}{f:Kv}{fs:Gm->aB->R (List AV)}{p p2 pos Rt:Pos}
theorem SA.call{f:Value}{s:Shared}(r:SA cx K (x::xs) fs) (hf:(∃id,f=.builtin id)\/∃T,f=.type T)
  (h:wpAny (model cx.prog cx.w) A (spliced (backTo pos (starEach (x::xs) K.env))) (fun us cz=>wpAny (model cx.prog cx.w) A (PySem.call f us) Q E cz) E s) :
  wpAny (model cx.prog cx.w) A (callWith pos f [] (backTo pos (starEach (x::xs) K.env)) []) Q E s:=by
 have hp:=r.plain pos
 rw[r.head x xs rfl] at h hp ⊢
 rcases hf with⟨id,rfl⟩|⟨T,rfl⟩
 ·exact Calls.callWith_builtin hp (evalArgs_plain h)
 ·exact PySem.callWith_type hp (evalArgs_plain h)
theorem Ru{β:Type}{P:aB->List AV->R β}{st:aB}:kN P (qF f fun _ st=>ok [] st) g st=(f g st).bind fun a st=>P st [a]:=R.bind_assoc
theorem SE.bi{b:Bi}{n:Str}(B:Base cx nm) (hh:K.A.handled=none) (hb:∀st as,FT b st as=(uV st as).bind fun ds st=>xd b st ds) (hf:(∃id,ze b=.builtin id)\/∃T,ze b=.type T)
  (hx:bootBuiltins n=some (ze b)) (hu:n∈cy) (hk:K.env.kindOf n=some .globalImplicit) (hd:(n==("__debug__" : Str))=false) (r:SA cx K (x::xs) fs):SE cx K (.Call (.Name n p) (x::xs) [] pos) (kN (FT b) fs):=fun g w X Q E T =>
 wpAny_Call_Name_kw (iJ X B hk hd hu hx (r.call hf ((r.w pos g w X).step T fun as us w1 e1 r1 T=>bT.uV e1.inv r1.r (hb _ _▸T) fun _ x T=>NF B hh e1.inv x T)))
theorem Ul{t:Value}{n:Str}{f2:AV->aB->R AV}(B:Base cx nm) (X:At cx K g w) (hk:K.env.kindOf "isinstance" = some .globalImplicit) (he:∀rest,starEach (x::rest) K.env=(false,eval x K.env)::starEach rest K.env) (h:SE cx K x f)
  (T:bT cx K.l w ((f g w.st).bind f2) cG Q E) (ht:∀{w1:Wd}{Q1:Value->Shared->Prop},iA cx K.l w w1->Q1 t w1.s->wpAny (model cx.prog cx.w) K.A (eval (.Name n p2) K.env) Q1 E w1.s)
  (k:∀a v w1,iA cx K.l w w1->cG v a w1->bT cx K.l w1 (f2 a w1.st) cG Q E->wpAny (model cx.prog cx.w) K.A (PySem.call (.builtin "isinstance") [v,t]) Q E w1.s) :
  wpAny (model cx.prog cx.w) K.A (eval (.Call (.Name "isinstance" p) [x,.Name n p2] [] pos) K.env) Q E w.s:=by
 refine wpAny_Call_Name_kw (iJ X B hk (by decide) (by decide) rfl ?_)
 have key:wpAny (model cx.prog cx.w) K.A (spliced (backTo pos (starEach [x,.Name n p2] K.env))) (fun us cz=>wpAny (model cx.prog cx.w) K.A (PySem.call (.builtin "isinstance") us) Q E cz) E w.s :=
  wpAny_items_cons ((h g w X).step T fun a v w1 e1 r1 T=>wpAny_items_cons (ht e1 (wpAny_items_nil (k a v w1 e1 r1 T))) rfl) (he _)
 have e1:starEach [x,.Name n p2] K.env=(false,eval x K.env)::starEach [.Name n p2] K.env:=he _
 rw[e1] at key ⊢
 exact Calls.callWith_builtin rfl (evalArgs_plain key)
theorem SE.l9(B:Base cx nm) (KB:Cs cx D) (hk:K.env.kindOf "isinstance" = some .globalImplicit) (NG:K.env.kindOf "Vector" = some .globalImplicit)
  (he:∀rest,starEach (x::rest) K.env=(false,eval x K.env)::starEach rest K.env) (h:SE cx K x f):SE cx K (.Call (.Name "isinstance" p) [x,.Name "Vector" p2] [] pos) (kN (FT .l9) (qF f fun _ st=>ok [] st)):=fun g w X Q E T =>
 Ul (f2:=fun a st=>jF (ou st a) st) B X hk he h (by rw[Ru] at T;exact T) (fun e q=>gp (X.ev e) B NG (by decide) (B.cg .aQ) q)
  fun a v w1 e1 r1 T=>T.jF fun b q T=>Dc KB e1.inv r1 q E Q fun _=>T.same e1.inv (Rep.bool b)
theorem SE.isStr(B:Base cx nm) (KB:Cs cx D) (hk:K.env.kindOf "isinstance" = some .globalImplicit) (NG:K.env.kindOf "str" = some .globalImplicit)
  (he:∀rest,starEach (x::rest) K.env=(false,eval x K.env)::starEach rest K.env) (h:SE cx K x f):SE cx K (.Call (.Name "isinstance" p) [x,.Name "str" p2] [] pos) (kN (FT .isStr) (qF f fun _ st=>ok [] st)):=fun g w X Q E T =>
 Ul (f2:=fun a st=>jF (Nb a) st) B X hk he h (by rw[Ru] at T;exact T) (fun e q=>iJ (X.ev e) B NG (by decide) (by decide) rfl q)
  fun a v w1 e1 r1 T=>T.jF fun b q T2=>by
   induction a with
   |t d=>exact Dd KB e1.inv r1 q E Q fun _=>T2.same e1.inv (Rep.bool b)
   |r i=>injection q
theorem Bl{ys:Array Value}{n:Nat}{a:Int}(h1:ys.size=n) (h2:∀(j:Nat) (v:Value),ys[j]? = some v->∃t,v=.int (a+(j:Int)*1) t):bh G ys.toList ((List.range n).map fun(k:Nat)=>PV.int (a+(k:Int))):=by
 have key:∀(xs:List Value) (m:Nat),(∀(j:Nat) (v:Value),xs[j]? = some v->∃t,v=.int (a+((m+j:Nat):Int)) t)->bh G xs ((List.range' m xs.length).map fun(k:Nat)=>PV.int (a+(k:Int))):=by
  intro xs
  induction xs with
  |nil=>intro m _;exact .nil
  |cons x xs ih =>
   intro m hx
   obtain⟨t,rfl⟩:=hx 0 x rfl
   refine .cons (Rep.int _ _) (ih (m+1) fun j v e=>?_)
   obtain⟨t,rfl⟩:=hx (j+1) v e
   exact⟨t,by rw[show m+(j+1)=m+1+j by omega]⟩
 have:=key ys.toList 0 fun j v e=>by
  obtain⟨t,rfl⟩:=h2 j v (Array.getElem?_toList.symm.trans e)
  exact⟨t,by rw[Int.mul_one,Nat.zero_add]⟩
 rw[List.range_eq_range',<-h1]
 exact this
theorem rangeSize_one(a b:Int):Builtin.Range.rangeSize a b 1=((b-a).toNat:Int):=by
 show(if a<b then(b-a-1) / 1+1 else 0)=_
 by_cases h:a<b
 ·rw[if_pos h,Int.ediv_one,Int.sub_add_cancel,Int.toNat_of_nonneg (Int.sub_nonneg_of_le (Int.le_of_lt h))]
 ·rw[if_neg h,Int.toNat_of_nonpos (Int.sub_nonpos_of_le (Int.not_lt.mp h))];rfl
theorem tW{a b:Int}:(cH a b).length=(b-a).toNat:=by unfold cH;rw[List.length_map,List.length_range]
theorem list_range{n:Int}{t:Tok}{s1:Shared}(hh:A.handled=none) (I:Inv cx w) (h:-2000<=n/\n<=2000) (T:bT cx l w (alloc w.st (.lst (cH 0 n))) cG Q E)
  (hs:s1={ w.s with heap:=w.h.push { cls:=.type "range",data:=.fields #[.int 0 w.s.toks,.int n t,.int 1 (w.s.toks+1)] },toks:=w.s.toks+1+1 }):wpAny (model cx.prog cx.w) A (PySem.call (.type "list") [.ref w.n]) Q E s1:=by
 subst hs
 have hR:IsRange (w.h.push { cls:=.type "range",data:=.fields #[.int 0 w.s.toks,.int n t,.int 1 (w.s.toks+1)] }) w.n 0 n 1 w.s.toks t (w.s.toks+1):=Heap.get?_push_size _ rfl
 have g:=iP.push (w:=w) (ob:={ cls:=.type "range",data:=.fields #[.int 0 w.s.toks,.int n t,.int 1 (w.s.toks+1)] }) (tk:=w.s.toks+1+1)
 refine er (call_list_range hh hR (small_one (by omega) (by omega) (by omega) (by omega)) (rangeSize_one 0 n) (by omega) fun h' tk Rv c' hk hD NH hz=>?_)
 exact(T.Ny I g).Bg (us:=Rv.toList) (g.ev (fr:=[]) (W:=om) I).inv ⟨hk,rfl,rfl,hz⟩ ⟨c',hD⟩ (by rw[tW];unfold lim;omega) (Bl (a:=0) NH.1 NH.2)
theorem SE.dX(B:Base cx nm) (hh:K.A.handled=none) (hk:K.env.kindOf "list" = some .globalImplicit) (NG:K.env.kindOf "range" = some .globalImplicit)
  (he:∀rest,starEach (x::rest) K.env=(false,eval x K.env)::starEach rest K.env) (h:SE cx K x f):SE cx K (.Call (.Name "list" p) [.Call (.Name "range" p2) [x] [] Rt] [] pos) (kN (FT .dX) (qF f fun _ st=>ok [] st)):=fun g w X Q E T=>by
 rw[Ru] at T
 refine wpAny_Call_Name_kw (iJ X B hk (by decide) (by decide) rfl (PySem.callWith_type1 (?_:wpAny _ _ (eval _ _) _ _ _)))
 refine wpAny_Call_Name_kw (iJ X B NG (by decide) (by decide) rfl ((SA.cons he h .nil).call (.inr ⟨_,rfl⟩) (wpAny_items_cons ((h g w X).step T fun a v w1 e1 r1 T=>wpAny_items_nil ?_) (he _))))
 induction a with
 |r i=>exact T.no
 |t d=>cases d with
  |int n=>cases r1 with
   |int _ t=>exact bT.ite T fun hn T=>call_range_1 (list_range hh e1.inv hn T rfl)
   |ref _ q _=>cases q
  |_=>exact T.no
end
end Mine
namespace Mine
open PySem PySem.W PySem.Calls PyProof.Rows PySem.SeqAt
section
variable {cx:Cx}{nm:Nat->Option Str}{w w':Wd}{K:Kx}{g:Gm}{v u:Value}{a b:AV}{A:Around}{l:List Env}{E:Value->Shared->Prop}{Q:Value->Shared->Prop}{d e d0:PV}{us:List Value}{ds xs ys:List PV}{s':Shared}{G:Addr->Lg}{i:Nat}{p:Pl}{nd nd':Node}{o:FO}
theorem Inv.upd{fr:List Addr}{W:Addr->Prop}(I:Inv cx w) (e1:w.as[i]? = some p) (e2:w.st[i]? = some nd) (o1:Cq nd=some d0) (o2:Cq nd'=some d) (hs:Heap.SameBut p.1 w.h s'.heap) (h1:s'.os=w.s.os) (h2:s'.gens=w.s.gens)
  (j:Is cx s'.heap p.1 o) (lv:∃o,s'.heap.get? p.1=some o) (q:Sh o d us ds) (r:bh w.G us ds) (hf:∀a∈fr,w.G a=.out):Ev cx fr W w ⟨w.G,w.as,w.st.set i nd',s'⟩:=by
 have o1:own nd p=[p.1]:=qO o1
 have ff:=I.rel.ff i p nd e1 e2 p.1 (o1▸.head _)
 have qJ:∀a,w.G a=.out->a≠p.1:=fun a h q=>by rw[q,ff] at h;injection h
 have hp:cx.cX<=p.1:=I.rel.lo _ (ff▸fun q=>by injection q)
 exact⟨⟨I.rel.set e1 e2 (fun a h=>o1.symm▸(qO o2)▸h) (fun a h _=>hs.2 a fun q=>h (o1.symm▸q▸.head _)) (fun a h=>List.mem_singleton.mp (o1▸h)▸lv) (.tr o2 j q r),
  I.old.step_same hp hs,h1.trans I.os,h2.trans I.gens,I.lim.sameBut hs (Nat.ne_of_lt (Nat.lt_of_lt_of_le I.low hp)),I.low,I.i8,Nat.le_trans I.ge (Nat.le_of_eq hs.1.symm),kj.step (w:=w) (w':=⟨w.G,w.as,w.st.set i nd',s'⟩) (hs.2 _ (Nat.ne_of_lt (Nat.lt_of_lt_of_le I.i8 hp))) (fun _ _ q=>q) I.tab⟩,
  Nat.le_of_eq hs.1.symm,fun a _ _ h _ _ o e=>(hs.2 a (qJ a h)).trans e,fun a h _=>nh.of_eq (hs.2 a (qJ a (hf a h))),fun _ _ q=>q,fun _ _ q=>q,fun _ _ q=>q⟩
inductive NI(cx:Cx) (w:Wd) (i:Nat) (v:Value) (xs:List PV):Prop
 |mk (p:Pl) (us:List Value) (hp:w.as[i]? = some p) (q:v=.ref p.1) (z:xs.length<=lim) (h:w.h.PlainList p.1 us.toArray) (r:bh w.G us xs)
theorem xD(I:Inv cx w) (hn:w.st[i]? = some (.lst xs)):uZ w.as v i->NI cx w i v xs
 |.mk p hp q=>by
  cases I.rel.nodes i p _ hp hn with
  |tr e j q' r=>(injection e with e;subst e);cases q' with| lst z=>exact .mk p _ hp q z ⟨_,j⟩ r
theorem bT.Gq(T:bT cx l w (Mine.ok b (w.st.set i (.lst ys))) cG Q E) (I:Inv cx w) (fr:dK cx l w) (hp:w.as[i]? = some p) (hn:w.st[i]? = some (.lst xs)) (hs:Heap.SameBut p.1 w.h s'.heap) (ql:s'.heap.PlainList p.1 us.toArray) (r:bh w.G us ys) (z:ys.length<=lim)
  (rb:cO w.G w.as v b) (h1:s'.os=w.s.os:=by rfl) (h2:s'.gens=w.s.gens:=by rfl):Q v s' :=
 let⟨n,e⟩:=ql;T.ok _ _ ⟨w.G,w.as,w.st.set i (.lst ys),s'⟩ rfl (I.upd (o:=.lst us n) hp hn rfl rfl hs h1 h2 e ⟨_,e⟩ (.lst z) r fun a h=>(fr.at' a h).out) rb
theorem lG{h:Heap}{b:Addr}{items:Array Value}{n:Nat}(ho:h.get? b=some { cls:=.type "list",dict:=none,data:=.seq items n,slots:=#[] }) (f:Array Value->Array Value):(h.update b (Obj.mapSeq f)).PlainList b (f items):=⟨_,IsL.update ho f⟩
theorem Bm(I:Inv cx w) (fr:dK cx l w) (rel:uZ w.as v i) (x:Rep w.G u d) (T:bT cx l w (FL w.st[i]? w.st i d) cG Q E):wpAny (model cx.prog cx.w) A (PySem.call (.builtin "list.append") [v,u]) Q E w.s:=by
 cases hn:w.st[i]? with
 |none=>rw[hn] at T;exact T.no
 |some nd =>
  rw[hn] at T
  induction nd with
  |lst xs =>
    refine bT.ite T fun hc T=>?_
    obtain⟨p,us,hp,rfl,z,h1,h2⟩:=xD I hn rel
    have e:=h2.length
    exact wpAny_list_append_plain (hsz:=by rw[List.size_toArray,e];exact Nat.le_trans z (by decide)) h1 fun h' ql hs=>T.Gq (us:=us++[u]) I fr hp hn hs (by rw[List.push_toArray] at ql;exact ql) (h2.append (.cons x .nil)) (by rw[List.length_append];unfold lim;exact Nat.le_trans (Nat.succ_le_of_lt hc) (by decide)) Rep.none
  |_=>exact T.no
theorem Bo(I:Inv cx w) (fr:dK cx l w) (rel:uZ w.as v i) (x:Rep w.G u d) (T:bT cx l w (MX w.st[i]? w.st i d) cG Q E):wpAny (model cx.prog cx.w) A (PySem.call (.builtin "list.extend") [v,u]) Q E w.s:=by
 cases hn:w.st[i]? with
 |none=>rw[hn] at T;exact T.no
 |some nd =>
  rw[hn] at T
  induction nd with
  |lst xs =>
   cases x with
   |ref g q rb =>
    induction q with
    |lst zb =>
     refine bT.ite T fun hc T=>?_
     obtain⟨p,us',hp,rfl,z,h1,h2⟩:=xD I hn rel
     obtain⟨n,ho⟩:=id h1
     have F7:=I.rel.fz _ _ g
     rename_i ws _ n2 _
     have e1:=h2.length
     have e2:=rb.length
     refine call_meets PySem.F.slot_list_extend ⟨_,ho,rfl⟩ PySem.F.entry_list_extend (PySem.F.args_list_extend_2 _ _)
      (PySem.AutoSeq1.list_extend_list_list_0 p.1 us'.toArray n _ ws.toArray n2 (by simp[Builtin.List.listTooLong,sizeLine];intros;omega) (by simp[sizeLine];omega) (by simp[sizeLine];omega)) ⟨ho,F7,?_⟩
     have ql:=lG ho (fun x=>x++ws.toArray)
     rw[List.append_toArray] at ql
     exact T.Gq I fr hp hn (Heap.SameBut.update ..) ql (h2.append rb) (by rw[List.length_append];unfold lim;omega) Rep.none
    |_=>exact T.no
   |_=>exact T.no
  |_=>exact T.no
theorem Ka(I:Inv cx w) (fr:dK cx l w) (rel:uZ w.as v i) (T:bT cx l w (MY w.st[i]? w.st i) cG Q E):wpAny (model cx.prog cx.w) A (PySem.call (.builtin "list.pop") [v]) Q E w.s:=by
 cases hn:w.st[i]? with
 |none=>rw[hn] at T;exact T.no
 |some nd =>
  rw[hn] at T
  induction nd with
  |lst xs =>
   have T:bT cx l w (sQ xs.getLast? (w.st.set i (.lst xs.dropLast))) cG Q E:=T
   cases hl:xs.getLast? with
   |none=>rw[hl] at T;exact T.no
   |some d =>
    rw[hl] at T
    obtain⟨p,us',hp,rfl,z,h1,h2⟩:=xD I hn rel
    obtain⟨n,ho⟩:=id h1
    have e1:=h2.length
    unfold lim at z
    obtain⟨u,hu,ru⟩:=h2.get (i:=xs.length-1) (by rw[<-List.getLast?_eq_getElem?];exact hl)
    refine call_meets PySem.F.slot_list_pop ⟨_,ho,rfl⟩ PySem.F.entry_list_pop (PySem.F.args_list_pop_1 _) (PySem.MeetsSeq.list_pop_last p.1 us'.toArray n u (by simp[e1,hu]) (by simp[sizeLine];omega)) ⟨ho,?_⟩
    have ql:=lG ho (fun xs=>xs.eraseIdxIfInBounds (us'.toArray.size-1))
    have ed:us'.toArray.eraseIdxIfInBounds (us'.toArray.size-1)=us'.dropLast.toArray:=Array.toList_inj.mp (by simp[List.eraseIdx_length_sub_one])
    rw[ed] at ql
    exact bT.Gq T I fr hp hn (Heap.SameBut.update ..) ql (by rw[List.dropLast_eq_take,List.dropLast_eq_take,e1];exact h2.take _) (by rw[List.length_dropLast];unfold lim;omega) ru
  |_=>exact T.no
theorem bh.reverse{vs:List Value}{l:List PV}(r:bh G vs l):bh G vs.reverse l.reverse:=by
 induction r using bh.ind with
 |h0=>exact .nil
 |h1 v vs d l x r ih=>rw[List.reverse_cons,List.reverse_cons];exact ih.append (.cons x .nil)
theorem zf(I:Inv cx w) (fr:dK cx l w) (rel:uZ w.as v i) (T:bT cx l w (MZ w.st[i]? w.st i) cG Q E):wpAny (model cx.prog cx.w) A (PySem.call (.builtin "list.reverse") [v]) Q E w.s:=by
 cases hn:w.st[i]? with
 |none=>rw[hn] at T;exact T.no
 |some nd =>
  rw[hn] at T
  induction nd with
  |lst xs =>
   obtain⟨p,us',hp,rfl,z,h1,h2⟩:=xD I hn rel
   obtain⟨n,ho⟩:=id h1
   have e1:=h2.length
   have z':=z
   unfold lim at z'
   refine call_meets PySem.F.slot_list_reverse ⟨_,ho,rfl⟩ PySem.F.entry_list_reverse (PySem.F.args_list_reverse_1 _) (PySem.AutoSeq1.list_reverse_list_0 p.1 us'.toArray n (by simp[sizeLine];omega)) ⟨ho,?_⟩
   have ql:=lG ho (fun x=>x.reverse)
   rw[List.reverse_toArray] at ql
   exact bT.Gq T I fr hp hn (Heap.SameBut.update ..) ql h2.reverse (by rw[List.length_reverse];exact z) Rep.none
  |_=>exact T.no
end
noncomputable def z8:Mt->Str
 |.append=>"append"
 |.extend=>"extend"
 |.pop=>"pop"
 |.reverse=>"reverse"
 |.index=>"index"
 |.w6=>"get"
 |.qA=>"get"
noncomputable def Rx(k:MK):String:=match k with
 |.tup=>"tuple.index"
 |_=>"list.index"
noncomputable def IF(m:Mt) (k:MK):String:=match m with
 |.append=>"list.append"
 |.extend=>"list.extend"
 |.pop=>"list.pop"
 |.reverse=>"list.reverse"
 |.index=>Rx k
 |.w6=>"dict.get"
 |.qA=>"dict.get"
theorem xE(l:Addr) (items:Array Value) (x:Value) (e:Value->Bool) (he:∀y,y∈items->MeetsSeq.EqGives y x (e y)) (j:Nat) (hj:j<items.size)
  (hit:e items[j]=true) (VD:∀m (hm:m<items.size),m<j->e items[m]=false) :
  Meets (Builtin.«tuple.index» ⟨[.ref l,x],[]⟩) (fun _ R s=>IsTup s.heap l items/\R (.ok (.ret (.int j s.toks))) { s with toks:=s.toks+1 }):=by
 intro prog w A R s hs
 have NJ:=s;have hp:=NJ.1;have g:=NJ.2;have d:=NJ.3;have tk:=NJ.4;have os:=NJ.5
 have JQ:=hs;have ht:=JQ.1;have hq:=JQ.2
 obtain⟨o,ho,hc,n,hd⟩:=id ht
 unfold Builtin.«tuple.index»
 wp_walk using ho
 rw[hd]
 refine wpAny_pure (wpAny_pure ?_)
 dsimp only
 refine wpAny_bind (wpAny_pure (wpAny_bind (wpAny_pure (wpAny_bind ?_))))
 rw[Std.Legacy.Range.forIn_eq_forIn_range']
 simp only[Std.Legacy.Range.size,Nat.sub_zero,Nat.min_self,Nat.add_sub_cancel,Nat.div_one]
 have key:∀(k i:Nat) (Q:Option PySem.Fin×Unit->Shared->Prop) (E:Value->Shared->Prop) (s:Shared),i+k=items.size->i<=j->Q (some (.done (.ret (.int j s.toks))),()) { s with toks:=s.toks+1 } ->
   wpAny (model prog w) A.in1 (forIn (List.range' i k) ((none:Option PySem.Fin),()) fun(i:Nat) _ =>
    match items[i]? with
    |some y=>do
     if <-eqBool y x then do
       let r <-retInt (i:Int)
       pure (ForInStep.done (some r,()))
      else pure (ForInStep.yield (none,()))
    |_=>pure (ForInStep.yield (none,()))) Q E s:=by
  intro k
  induction k with
  |zero=>intro i Q E s h1 h2 _;exact absurd hj (by omega)
  |succ k ih =>
   intro i Q E s h1 h2 hQ
   have qQ:i<items.size:=by omega
   rw[List.range'_succ,List.forIn_cons]
   have hi:items[i]? = some items[i]:=by simp[qQ]
   simp only[hi]
   refine wpAny_bind (wpAny_bind (he _ (Array.getElem_mem qQ) prog w _ _ _ _ ?_))
   by_cases VE:i=j
   ·subst VE
    rw[hit]
    simp only[if_true]
    exact wpAny_bind (wpAny_bind (wpAny_mkInt (wpAny_pure (wpAny_pure (wpAny_pure hQ)))))
   ·rw[VD i qQ (by omega)]
    simp only[Bool.false_eq_true,if_false]
    exact wpAny_pure (ih (i+1) Q E s (by omega) (by omega) hQ)
 refine key items.size 0 _ _ _ (by omega) (by omega) ?_
 exact wpAny_pure hq
section
variable {cx:Cx}{nm:Nat->Option Str}{w w':Wd}{K:Kx}{g:Gm}{v u:Value}{a b:AV}{A:Around}{l:List Env}{E:Value->Shared->Prop}{Q:Value->Shared->Prop}{d e d0:PV}{us:List Value}{ds xs ys:List PV}{s':Shared}{G:Addr->Lg}{i:Nat}{p:Pl}{nd nd':Node}{o:FO}{y:Tx}
inductive Ry(us:List Value) (y:Tx) (k n:Nat):Prop
 |mk (j:Nat) (e:n=k+j) (h:j<us.length) (hit:Cr (.str y) us[j]=true) (no:∀m (hm:m<us.length),m<j->Cr (.str y) us[m]=false)
theorem Gr:∀{d:PV},sN d=true->fN d=true
 |.none,_=>rfl
 |.str _,_=>rfl
theorem Df{us:List Value}{xs:List PV}(r:bh G us xs):∀{k n:Nat},m7 xs=true->idxOf (.str y) xs k=some n->Ry us y k n:=by
 induction r using bh.ind with
 |h0=>exact fun _ q=>nomatch q
 |h1 u us d xs x r ih =>
  intro k n hs q
  obtain⟨h1,h2⟩:=Bool.and_eq_true_iff.mp hs
  have e:Cr (.str y) u=i7 d (.str y):=congrArg (i7 · _) (y9 (Gr h1) x)
  unfold idxOf at q
  cases h:i7 d (.str y) with
  |true =>
   rw[h] at q e
   injection q with q;subst q
   exact .mk 0 rfl (Nat.succ_pos _) e fun m _ z=>absurd z (Nat.not_lt_zero _)
  |false =>
   rw[h] at q e
   obtain⟨j,e1,h3,hit,no⟩:=ih h2 q
   exact .mk (j+1) (by omega) (Nat.succ_lt_succ h3) hit fun m hm z=>by
    induction m with
    |zero=>exact e
    |succ m=>exact no m (Nat.lt_of_succ_lt_succ hm) (Nat.lt_of_succ_lt_succ z)
theorem Gu{t:Tok}(r:Rep G u d) (hs:sN d=true):MeetsSeq.EqGives u (.str (tx y) t) (Cr (.str y) u):=by
 cases r with
 |none=>exact fun prog w A E s Q hq=>(EqAt.none_str (A:=A) (s:=s) (tx y) t) prog w E Q hq
 |str s t' _ =>
  have:Cr (.str y) (.str (tx s) t')=((tx s).cps.toList==(tx y).cps.toList):=by
   show decide (s=y)=(s==y)
   exact Bool.eq_iff_iff.mpr (by rw[decide_eq_true_iff,beq_iff_eq])
  rw[this]
  exact SeqRoads2.EqGives.str _ _ _ _
 |ref _ q _=>cases q<;>injection hs
 |_=>injection hs
theorem pG{t:Tok}{us:List Value}{xs:List PV}(r:bh G us xs):m7 xs=true->∀z∈us,MeetsSeq.EqGives z (.str (tx y) t) (Cr (.str y) z):=by
 induction r using bh.ind with
 |h0=>exact fun _ _ q=>nomatch q
 |h1 u us d xs x r ih =>
  intro hs z hz
  obtain⟨h1,h2⟩:=Bool.and_eq_true_iff.mp hs
  rcases List.mem_cons.mp hz with rfl|hz
  ·exact Gu x h1
  ·exact ih h2 z hz
theorem xF{o:Option Nat}{c:Int}(h:Option.map (fun n=>n) (o >>= fun a=>pure (a:Int))=some c):∃n,o=some n/\(n:Int)=c:=by
 induction o with
 |none=>injection h
 |some n=>(injection h with h;subst h);exact⟨n,rfl,rfl⟩
theorem Dg{k:MK}{o:Option PV}(I:Inv cx w) (y:u7 cx w v o) (x:Vw cx w u e) (T:bT cx l w (M0 k o e w.st) cG Q E):wpAny (model cx.prog cx.w) A (PySem.call (.builtin (IF .index k)) [v,u]) Q E w.s:=by
 induction y with
 |none=>exact T.no
 |some y =>
  induction y with
  |ref ge i q r =>
   induction q with
   |lst z =>
    induction k with
    |list =>
     rename_i us xs m0
     have T:bT cx l w (FN e xs w.st) cG Q E:=T
     induction x with
     |str t tk =>
       refine bT.Nv T fun hs T=>T.m6 fun c q T=>?_
       obtain⟨n,hn,rfl⟩:=xF q
       obtain⟨j,e1,h1,hit,no⟩:=Df r hs hn
       obtain rfl:n=j:=e1.trans (Nat.zero_add _)
       have hl:=r.length
       unfold lim at z
       have ho:=i
       exact call_meets PySem.F.slot_list_index ⟨_,ho,rfl⟩ PySem.F.entry_list_index (PySem.F.args_list_index_2 _ _)
        (MeetsSeq.list_index _ us.toArray _ (.str (tx t) tk) (Cr (.str t)) (fun z hz=>pG r hs z (List.mem_toArray.mp hz)) n h1 (by omega) hit no) ⟨ho,T.same I (Rep.int _ _)⟩
     |ref _ _ q _=>induction q<;>exact T.no
     |_=>exact T.no
    |_=>exact T.no
   |tup z =>
    induction k with
    |tup =>
     rename_i us xs
     have T:bT cx l w (FN e xs w.st) cG Q E:=T
     induction x with
     |str t tk =>
       refine bT.Nv T fun hs T=>T.m6 fun c q T=>?_
       obtain⟨n,hn,rfl⟩:=xF q
       obtain⟨j,e1,h1,hit,no⟩:=Df r hs hn
       obtain rfl:n=j:=e1.trans (Nat.zero_add _)
       exact call_meets PySem.F.slot_tuple_index i.tup.typeIs PySem.F.entry_tuple_index (PySem.F.args_tuple_index_2 _ _)
        (xE _ us.toArray (.str (tx t) tk) (Cr (.str t)) (fun z hz=>pG r hs z (List.mem_toArray.mp hz)) n h1 hit no) ⟨i.tup,T.same I (Rep.int _ _)⟩
     |ref _ _ q _=>induction q<;>exact T.no
     |_=>exact T.no
    |_=>exact T.no
   |_=>exact T.no
  |_=>exact T.no
theorem z9{c:PV}{x:Value}{o:Option Value}{q:Option PV}(I:Inv cx w) (vl:Val w.G o q) (rx:Rep w.G x c) (T:bT cx l w (Mine.ok (.t (q.getD c)) w.st) cG Q E){tk:Nat}:Q (o.getD x) { w.s with toks:=tk }:=by
 induction vl with
 |none e=>rw[e];exact T.same I rx
 |some y e ry=>rw[e];exact T.same I ry
inductive Rz(cx:Cx) (w:Wd) (q:Option PV) (c:PV) (v u:Value) (r:R AV):Prop
 |no (h:r=none)
 |ok (a:Addr) (kvs:List (Str×Value)) (t:Tx) (tk:Tok) (o:Option PV) (h1:v=.ref a) (h2:u=.str (tx t) tk) (ge:cx.cX<=a) (i:w.h.DictOf (strKind cx.prog cx.w) a kvs) (vl:Val w.G (valueAt kvs (tx t)) o) (e:r=Mine.ok (.t (o.getD c)) w.st)
theorem Dh{c:PV}{q:Option PV}(y:u7 cx w v q) (z:Vw cx w u e):Rz cx w q c v u (CG q e c w.st):=by
 induction y with
 |none=>exact .no rfl
 |some y =>
  induction y with
  |ref ge i q r =>
   induction q with
   |dS zz k n =>
    induction z with
    |str t tk=>exact .ok _ _ t tk _ rfl rfl ge (Heap.DictAt.dictOf i) (lD k r) rfl
    |ref _ _ q _=>induction q<;>exact .no rfl
    |_=>exact .no rfl
   |_=>exact .no rfl
  |_=>exact .no rfl
theorem Gw{q:Option PV}(hs:sysModules<cx.cX) (I:Inv cx w) (y:u7 cx w v q) (z:Vw cx w u e) (T:bT cx l w (CG q e .none w.st) cG Q E):wpAny (model cx.prog cx.w) A (PySem.call (.builtin "dict.get") [v,u]) Q E w.s:=by
 induction Dh (c:=.none) y z with
 |no h=>rw[h] at T;exact T.no
 |ok a kvs t tk o h1 h2 ge i vl e =>
  subst h1 h2
  exact call_meetsIn PySem.F.slot_dict_get (Heap.DictOf.typeIs i) PySem.F.entry_dict_get (PySem.F.args_dict_get_2 _ _) (meets_dict_get (strKind cx.prog cx.w) a (k:=tx t) (strKind_is _ _ _ _) (big hs ge)) ⟨valueAt kvs,Heap.DictOf.mapOf i,z9 I vl .none (e▸T)⟩
theorem Gx{c:PV}{x:Value}{q:Option PV}(hs:sysModules<cx.cX) (I:Inv cx w) (y:u7 cx w v q) (z:Vw cx w u e) (rx:Rep w.G x c) (T:bT cx l w (CG q e c w.st) cG Q E):wpAny (model cx.prog cx.w) A (PySem.call (.builtin "dict.get") [v,u,x]) Q E w.s:=by
 induction Dh (c:=c) y z with
 |no h=>rw[h] at T;exact T.no
 |ok a kvs t tk o h1 h2 ge i vl e =>
  subst h1 h2
  exact call_meetsIn PySem.F.slot_dict_get (Heap.DictOf.typeIs i) PySem.F.entry_dict_get (PySem.F.args_dict_get_3 _ _ _) (meets_dict_get_default (strKind cx.prog cx.w) a (k:=tx t) (strKind_is _ _ _ _) (big hs ge) x) ⟨valueAt kvs,Heap.DictOf.mapOf i,z9 I vl rx (e▸T)⟩
end
end Mine
namespace Mine
open PySem PySem.W PySem.Calls PyProof.Rows
noncomputable def mR:Expr->Bool
 |.Call f l _ _=>(match l with| []=>(match f with| .Name _ _=>false|_=>true)|_::_=>true)
 |_=>true
theorem gu{o:Expr}{name:Str}{env:Env}{whole:Sem Value}(h:mR o=true):attributeBase o name env whole=whole:=by
 unfold attributeBase
 split
 ·injection h
 ·rfl
section
variable {cx:Cx}{nm:Nat->Option Str}{w w':Wd}{K:Kx}{g:Gm}{v u:Value}{a b:AV}{A:Around}{l:List Env}{E:Value->Shared->Prop}{Q:Value->Shared->Prop}{d e d0:PV}{us:List Value}{ds xs ys:List PV}{m:Mt}{k:MK}{x:Expr}{f:Kv}{fs:Gm->aB->R (List AV)}
inductive MethAt(w:Wd) (m:Mt) (k:MK) (v:Value):Prop
 |mk (T:String) (pa:PlainAttrs T) (slot:Slot T (z8 m) (IF m k)) (ty:typeOf (.builtin (IF m k))=pure (.type "method_descriptor")) (hT:w.s.TypeIs v T) (hd:∀a,v=.ref a->∃ob,w.h.get? a=some ob/\ob.dict=none)
theorem NK(hT:w.s.TypeIs v "list") (hd:∀a,v=.ref a->∃ob,w.h.get? a=some ob/\ob.dict=none) (q:T9 m=some k):MethAt w m k v:=by
 induction m with
 |append=>(injection q with q;subst q);exact .mk _ _root_.PySem.F.plainAttrs_list _root_.PySem.F.slot_list_append _root_.PySem.F.type_list_append hT hd
 |extend=>(injection q with q;subst q);exact .mk _ _root_.PySem.F.plainAttrs_list _root_.PySem.F.slot_list_extend _root_.PySem.F.type_list_extend hT hd
 |pop=>(injection q with q;subst q);exact .mk _ _root_.PySem.F.plainAttrs_list _root_.PySem.F.slot_list_pop _root_.PySem.F.type_list_pop hT hd
 |reverse=>(injection q with q;subst q);exact .mk _ _root_.PySem.F.plainAttrs_list _root_.PySem.F.slot_list_reverse _root_.PySem.F.type_list_reverse hT hd
 |index=>(injection q with q;subst q);exact .mk _ _root_.PySem.F.plainAttrs_list _root_.PySem.F.slot_list_index _root_.PySem.F.type_list_index hT hd
 |_=>injection q
theorem nu{a:Addr}{ob:Obj}(e:w.h.get? a=some ob) (d:ob.dict=none):∀c,Value.ref a=.ref c->∃ob,w.h.get? c=some ob/\ob.dict=none:=fun _ q=>by(injection q with q;subst q);exact⟨ob,e,d⟩
theorem Gy{o:Option PV}(y:u7 cx w v o) (q:mK m o=some k):MethAt w m k v:=by
 induction y with
 |none=>injection q
 |some y =>
  induction y with
  |ref ge i z r =>
   induction z with
   |lst z=>have ho:=i;exact NK ⟨_,ho,rfl⟩ (nu ho rfl) q
   |tup z =>
    obtain⟨⟨ob,ho,h2⟩,hd⟩:=i
    induction m with
    |index=>(injection q with q;subst q);exact .mk _ _root_.PySem.F.plainAttrs_tuple _root_.PySem.F.slot_tuple_index _root_.PySem.F.type_tuple_index (IsTup.typeIs ⟨ob,ho,h2⟩) (nu ho (hd ob ho))
    |_=>injection q
   |dS z k' n =>
    have hT:=Heap.DictOf.typeIs (Heap.DictAt.dictOf i)
    obtain⟨ob,es,ho,ex,_⟩:=i
    induction m with
    |w6=>(injection q with q;subst q);exact .mk _ _root_.PySem.F.plainAttrs_dict _root_.PySem.F.slot_dict_get _root_.PySem.F.type_dict_get hT (nu ho ex.2.1)
    |qA=>(injection q with q;subst q);exact .mk _ _root_.PySem.F.plainAttrs_dict _root_.PySem.F.slot_dict_get _root_.PySem.F.type_dict_get hT (nu ho ex.2.1)
    |_=>injection q
   |_=>injection q
  |_=>injection q
theorem NL(I:Inv cx w) (fr:dK cx l w) (rel:cO w.G w.as v a) (T:bT cx l w (mh m k w.st a []) cG Q E):wpAny (model cx.prog cx.w) A (PySem.call (.builtin (IF m k)) [v]) Q E w.s:=by
 induction m with
 |pop=>induction a with
  |t=>exact T.no
  |r i=>exact Ka I fr rel T
 |reverse=>induction a with
  |t=>exact T.no
  |r i=>exact zf I fr rel T
 |_=>exact T.no
theorem NN(B:Base cx nm) (I:Inv cx w) (fr:dK cx l w) (rel:cO w.G w.as v a) (x:Rep w.G u d) (T:bT cx l w (mh m k w.st a [d]) cG Q E):wpAny (model cx.prog cx.w) A (PySem.call (.builtin (IF m k)) [v,u]) Q E w.s:=by
 induction m with
 |append=>induction a with
  |t=>exact T.no
  |r i=>exact Bm I fr rel x T
 |extend=>induction a with
  |t=>exact T.no
  |r i=>exact Bo I fr rel x T
 |index=>exact Dg I (rel.vw I.rel) (x.vw I.rel) T
 |w6=>exact Gw B.sys I (rel.vw I.rel) (x.vw I.rel) T
 |_=>exact T.no
theorem Gz(B:Base cx nm) (I:Inv cx w) (fr:dK cx l w) (rel:cO w.G w.as v a) (r:bh w.G us ds) (T:bT cx l w (mh m k w.st a ds) cG Q E):wpAny (model cx.prog cx.w) A (PySem.call (.builtin (IF m k)) (v::us)) Q E w.s:=by
 cases r with
 |nil=>exact NL I fr rel T
 |cons x r =>
  cases r with
  |nil=>exact NN B I fr rel x T
  |cons y r =>
   cases r with
   |nil =>
    induction m with
    |qA=>exact Gx B.sys I (rel.vw I.rel) (x.vw I.rel) y T
    |_=>exact T.no
   |cons=>exact T.no
theorem SE.b4{apos pos:Pos}{xs:List Expr}(B:Base cx nm) (hb:mR x=true) (hl:(apos.endLine==pos.line)=true) (hlen:xs.length<10) (h:SE cx K x f) (r:SA cx K xs fs):SE cx K (.Call (.Attribute x (z8 m) apos) xs [] pos) (Ip m f fs):=fun g w X Q E T=>by
 refine wpAny_Call_method_lateS (gu hb) (by rw[<-List.not_any_eq_all_not,r.plain];exact decide_eq_true (by show xs.length+0+0<30;omega)) hl ?_
 refine(h g w X).step T fun a v w1 e1 r1 T=>?_
 have key:∀{o},xe m w1.st a=o->bT cx K.l w1 (uW o m a fs g w1.st) cG Q E->MethodOnS cx.prog cx.w K.A E (z8 m) v pos (backTo pos (starEach xs K.env)) Q w1.s:=fun{o} q T=>by
  induction o with
  |none=>exact T.no
  |some k =>
   obtain⟨T',pa,slot,hty,hT,hd⟩:=Gy (r1.vw e1.inv.rel) q
   refine⟨T',IF m k,pa,slot,hty,hT,hd,?_⟩
   have key:wpAny (model cx.prog cx.w) K.A (spliced (backTo pos (starEach xs K.env))) (fun us cz=>wpAny (model cx.prog cx.w) K.A (PySem.call (.builtin (IF m k)) (v::us)) Q E cz) E w1.s :=
    (r.w pos g w1 (X.ev e1)).step T fun as us w2 e2 r2 T=>T.fy e2.inv r2.r fun ds G' st' e3 r3 T =>
     Gz (w:=⟨G',w2.as,st',w2.s⟩) B e3.inv ((X.fr.ev (e1.trans e2)).ev e3) ((r1.ev e2).ev e3) r3 T
   have hp:=r.plain pos
   induction xs with
   |nil=>exact callWith_method0 fun Γ p Qk=>key Γ p Qk Γ p Qk
   |cons y ys =>
    rw[r.head y ys rfl] at key hp ⊢
    exact Calls.callWith_builtin hp (evalArgs_plain key)
 exact key rfl T
end
theorem iK(a b:Tx):tx (a++b)=tx a++tx b:=by
 show(⟨(a++b).toArray⟩ : Str)=⟨a.toArray++b.toArray⟩
 rw[List.append_toArray]
theorem vc(a:Tx):(tx a).length=a.length:=List.size_toArray ..
theorem Um{p x q:Tx}:Str.empty++tx p++tx x++tx q=tx (p++x++q):=by
 show tx []++tx p++tx x++tx q=_
 rw[<-iK,<-iK,<-iK,List.nil_append]
theorem VF{p x:Tx}:Str.empty++tx p++tx x=tx (p++x):=by
 show tx []++tx p++tx x=_
 rw[<-iK,<-iK,List.nil_append]
theorem RA{p x q:Tx}(hp:sS p=true) (hx:sS x=true) (hq:sS q=true) (h1:p.length<=100) (h2:q.length<=100) (h3:x.length<=1000):sS (p++x++q)=true:=by
 unfold sS at hp hx hq ⊢
 rw[List.all_append,List.all_append,(Bool.and_eq_true_iff.mp hp).2,(Bool.and_eq_true_iff.mp hx).2,(Bool.and_eq_true_iff.mp hq).2]
 exact Bool.and_eq_true_iff.mpr ⟨decide_eq_true (by rw[List.length_append,List.length_append];unfold lim;omega),rfl⟩
section
variable {cx:Cx}{w:Wd}{K:Kx}{v:Value}{a:AV}{l:List Env}{E:Value->Shared->Prop}{Q:Value->Shared->Prop}{x:Expr}{f:Kv}
inductive VG(cx:Cx) (l:List Env) (w:Wd) (p q:Tx) (v:Value) (Q:Value->Shared->Prop) (E:Value->Shared->Prop):Prop
 |mk (x:Tx) (t:Tok) (e:v=.str (tx x) t) (z:sS x=true) (h:x.length<=1000) (T:bT cx l w (Mine.ok (.t (.str (p++x++q))) w.st) cG Q E)
theorem NO{p q:Tx}(r:cO w.G w.as v a) (T:bT cx l w (CM p q w.st a) cG Q E):VG cx l w p q v Q E:=by
 induction a with
 |r i=>exact T.no
 |t d=>cases d with
  |str x=>cases r with
   |str _ t z=>exact bT.ite T fun h T=>.mk x t rfl z h T
   |ref _ q _=>cases q
  |_=>exact T.no
theorem SE.CC{p q:Tx}{k1 k2:Nat}{p1 p2 p3 pos:Pos}(hp:sS p=true) (hq:sS q=true) (ql:p.length<=100) (VH:q.length<=100) (h:SE cx K x f) :
  SE cx K (.JoinedStr [.Constant (.str (tx p)) k1 p1,.FormattedValue x (-1) none p2,.Constant (.str (tx q)) k2 p3] pos) (Mine.k1 (CM p q) f):=fun g w X Q E T=>by
 refine wpAny_JoinedStr ?_
 have e0:=X.toks (tk:=w.s.toks+1)
 refine wpAny_Constant_str ⟨tx p,_,rfl,by show(tx []++tx p).length<=_;rw[<-iK,vc];exact Nat.le_trans ql (by decide),?_⟩
 refine wpAny_FormattedValue_plain (Wp.step (w:=w.at _) (h g _ (X.ev e0)) (T.start e0) fun a v w1 e1 r1 T=>?_)
 obtain⟨x,t,rfl,z,hc,T⟩:=NO r1 T
 have hz:(Str.empty++tx p++tx x++tx q).length<=sizeLine:=by rw[Um,vc,List.length_append,List.length_append];exact Nat.le_trans (by omega:_<=1200) (by decide)
 have fin:∀t' k',∃y t,Value.str (tx x) t'=.str y t/\(Str.empty++tx p++y).length<=sizeLine/\wpAny (model cx.prog cx.w) K.A (eval (.Constant (.str (tx q)) k2 p3) K.env) (fun v cz=>∃y1 t1,v=.str y1 t1/\(Str.empty++tx p++y++y1).length<=sizeLine /\
   (Str.empty++tx p++y++y1).length<=sizeLine/\Q (.str (Str.empty++tx p++y++y1) cz.toks) { cz with toks:=cz.toks+1 }) E { w1.s with toks:=k' }:=fun t' k' =>
  ⟨tx x,t',rfl,by rw[VF,vc,List.length_append];exact Nat.le_trans (by omega:_<=1200) (by decide),wpAny_Constant_str ⟨tx q,_,rfl,hz,hz,by rw[Um];exact T.same e1.inv (Rep.str _ _ (RA hp z hq ql VH hc))⟩⟩
 exact wpAny_formatField_str (fin _ _) (fin _ _) (by rw[vc];exact Nat.le_trans hc (by decide))
end
inductive ve(cx:Cx) (w:Wd) (I:Addr) (ds:List PV):Prop
 |list {m:Nat}(a:Addr) (us vs:List Value) (i:Nat) (g:w.G a=.fz (.lst us m)) (h:w.h.IsListIter I a i) (le:i<=us.length) (e:us.drop i=vs) (r:bh w.G vs ds):ve cx w I ds
 |tup (a:Addr) (us vs:List Value) (i:Nat) (g:w.G a=.fz (.tup us)) (h:w.h.IsTupleIter I a i) (le:i<=us.length) (e:us.drop i=vs) (r:bh w.G vs ds):ve cx w I ds
 |dict (a:Addr) (kvs:List (Str×Value)) (ep i:Nat) (l:List Tx) (g:w.G a=.fz (.dS kvs ep)) (h:w.h.IsKeyIter I a i kvs.length ep) (le:i<=kvs.length) (k:(kvs.map (·.1)).drop i=l.map tx) (ok:∀s∈l,sS s=true) (e:l.map .str=ds):ve cx w I ds
 |range (x:Int) (n:Nat) (h:IsRangeIter w.h I x n 1) (e:(List.range n).map (fun(k:Nat)=>PV.int (x+(k:Int)))=ds):ve cx w I ds
structure Kc{α:Type}(l:List α) (i:Nat) (a:α) (r:List α):Prop where
 lt:i<l.length
 at':l[i]? = some a
 rest:l.drop (i+1)=r
theorem vf{α:Type}{l:List α}{i:Nat}{a:α}{r:List α}(e:l.drop i=a::r):Kc l i a r:=by
 have h:i<l.length:=Nat.lt_of_not_le fun q=>by rw[List.drop_eq_nil_of_le q] at e;injection e
 rw[List.drop_eq_getElem_cons h] at e
 cases e
 exact⟨h,List.getElem?_eq_getElem h,rfl⟩
theorem qU{α:Type}{l:List α}{i:Nat}(e:l.drop i=[]) (h:i<=l.length):i=l.length:=Nat.le_antisymm h (List.drop_eq_nil_iff.mp e)
section
variable {cx:Cx}{nm:Nat->Option Str}{w w':Wd}{A:Around}{E:Value->Shared->Prop}{I:Addr}{d:PV}{ds:List PV}{fr:List Addr}{W:Addr->Prop}{v:Value}
theorem Ev.obj(y:Ev cx fr W w w') (p:iz cx w I) (h1:I∉fr) (h2:¬W I):∀o,w.h.get? I=some o->w'.h.get? I=some o:=y.keep I p.ge p.lt p.out h1 h2
theorem ve.mv(y:Ev cx fr W w w') (p:iz cx w I) (h1:I∉fr) (h2:¬W I):ve cx w I ds->ve cx w' I ds
 |.list a us vs i g h le e r=>.list a us vs i (y.sub _ _ g) (h.at (y.obj p h1 h2)) le e (r.mono y.sub)
 |.tup a us vs i g h le e r=>.tup a us vs i (y.sub _ _ g) (h.at (y.obj p h1 h2)) le e (r.mono y.sub)
 |.dict a kvs ep i l g h le k ok e=>.dict a kvs ep i l (y.sub _ _ g) (h.at (y.obj p h1 h2)) le k ok e
 |.range x n h e=>.range x n (y.obj p h1 h2 _ h) e
theorem Inv.exts{s':Shared}(J:Inv cx w) (p:iz cx w I) (hk:∀b o,b∉[I]->w.h.get? b=some o->s'.heap.get? b=some o) (hz:w.n<=s'.heap.objs.size) (h1:s'.os=w.s.os) (h2:s'.gens=w.s.gens):∀fr,Ev cx fr (fun c=>c=I) w (w.at s') :=
 fun _=>J.ext p (fun b o hb e=>hk b o (fun q=>hb (List.mem_singleton.mp q)) e) hz h1 h2
theorem iz.tX{a:Addr}{o:FO}(p:iz cx w I) (g:w.G a=.fz o):a≠I:=fun q=>by have:=p.out;rw[<-q,g] at this;injection this
section
variable {fp:List Addr}{n i:Nat}{P:Nat->Value->Prop}{St:Nat->Heap->Prop}{Q:Option Value->Shared->Prop}
theorem lH(X:Walks cx.prog cx.w A I fp [I] n P St) (J:Inv cx w) (p:iz cx w I) (hi:i<n) (st:St i w.h) (h:∀v s',P i v->St (i+1) s'.heap->(∀fr,Ev cx fr (fun c=>c=I) w (w.at s'))->Q (some v) s'):wpAny (model cx.prog cx.w) A (pyNext (.ref I)) Q E w.s :=
 er (X.item i w.s _ _ hi st fun v _ _ h1 h2 h3 hz=>h v _ h1 h2 (J.exts p h3 hz rfl rfl))
theorem lI(X:Walks cx.prog cx.w A I fp [I] n P St) (J:Inv cx w) (p:iz cx w I) (st:St n w.h) (h:∀s',(∀fr,Ev cx fr (fun c=>c=I) w (w.at s'))->Q none s'):wpAny (model cx.prog cx.w) A (pyNext (.ref I)) Q E w.s :=
 er (X.done w.s _ _ st fun _ _ h3 hz=>h _ (J.exts p h3 hz rfl rfl))
end
theorem qV{x:Int}{n:Nat}:(List.range (n+1)).map (fun(k:Nat)=>PV.int (x+(k:Int)))=PV.int x::(List.range n).map (fun(k:Nat)=>PV.int (x+1+(k:Int))):=by
 rw[List.range_succ_eq_map,List.map_cons,List.map_map]
 exact congr (congrArg _ (congrArg PV.int (Int.add_zero x))) (List.map_congr_left fun k _=>congrArg PV.int (by show x+((k+1:Nat):Int)=_;omega))
theorem ve.next{Q:Option Value->Shared->Prop}(hh:A.handled=none) (J:Inv cx w) (p:iz cx w I) (it:ve cx w I (d::ds)) (h:∀v s',Rep w.G v d->(∀fr,Ev cx fr (fun c=>c=I) w (w.at s'))->ve cx (w.at s') I ds->Q (some v) s') :
  wpAny (model cx.prog cx.w) A (pyNext (.ref I)) Q E w.s:=by
 cases it with
 |list a us vs i g hI le e r =>
  cases r with| cons x r =>
  have z:=vf e
  exact lH (Walks.list hh I a (p.tX g) us.toArray) J p (by rw[List.size_toArray];exact z.lt) ⟨hI,Heap.PlainList.isList ⟨_,J.rel.fz _ _ g⟩⟩ fun v s' hv st ev =>
   h v s' (Option.some.inj (z.at'.symm.trans ((List.getElem?_toArray).symm.trans hv))▸x) ev (.list a us _ (i+1) g st.1 z.lt z.rest r)
 |tup a us vs i g hI le e r =>
  cases r with| cons x r =>
  have z:=vf e
  exact lH (Walks.tuple hh I a (p.tX g) us.toArray) J p (by rw[List.size_toArray];exact z.lt) ⟨hI,A9.tup (J.rel.fz _ _ g)⟩ fun v s' hv st ev =>
   h v s' (Option.some.inj (z.at'.symm.trans ((List.getElem?_toArray).symm.trans hv))▸x) ev (.tup a us _ (i+1) g st.1 z.lt z.rest r)
 |dict a kvs ep i l g hI le k ok e =>
  cases l with
  |nil=>injection e
  |cons t l =>
   cases e
   have z:=vf k
   have hi:i<kvs.length:=List.length_map (f:=(·.1)) (as:=kvs)▸z.lt
   refine lH (Walks.dictKeys hh I a (p.tX g) kvs ep) J p hi ⟨hI,J.rel.fz _ _ g⟩ fun v s' hv st ev=>?_
   obtain⟨y,x,hx,hv⟩:=hv
   have hy:=z.at'
   rw[List.getElem?_map,hx] at hy
   injection hy with hy;subst hy
   obtain⟨tk,rfl⟩:=Value.isStrOf_shape (show Value.isStrOf (tx t) v=true from hv)
   exact h _ s' (.str t tk (ok t (.head _))) ev (.dict a kvs ep (i+1) l g st.1 hi z.rest (fun s q=>ok s (.tail _ q)) rfl)
 |range x n hI e =>
  cases n with
  |zero=>injection e
  |succ n =>
   rw[qV] at e
   cases e
   refine lH (i:=0) (Walks.range hh I x 1 (n+1)) J p (Nat.succ_pos n) (by rw[show x+((0:Nat):Int)*1=x by omega,show((n+1:Nat):Int)-((0:Nat):Int)=((n+1:Nat):Int) by omega];exact hI) fun v s' hv st ev=>?_
   obtain⟨t,rfl⟩:=hv
   rw[show x+((0+1:Nat):Int)*1=x+1 by omega,show((n+1:Nat):Int)-((0+1:Nat):Int)=(n:Int) by omega] at st
   exact h _ s' (by rw[show x+((0:Nat):Int)*1=x by omega];exact .int x t) ev (.range (x+1) n st rfl)
theorem ve.done{Q:Option Value->Shared->Prop}(hh:A.handled=none) (J:Inv cx w) (p:iz cx w I) (it:ve cx w I []) (h:∀s',(∀fr,Ev cx fr (fun c=>c=I) w (w.at s'))->Q none s') :
  wpAny (model cx.prog cx.w) A (pyNext (.ref I)) Q E w.s:=by
 induction it with
 |list a us vs i g hI le e r =>
  cases r
  cases qU e le
  exact lI (Walks.list hh I a (p.tX g) us.toArray) J p ⟨hI,Heap.PlainList.isList ⟨_,J.rel.fz _ _ g⟩⟩ h
 |tup a us vs i g hI le e r =>
  cases r
  cases qU e le
  exact lI (Walks.tuple hh I a (p.tX g) us.toArray) J p ⟨hI,A9.tup (J.rel.fz _ _ g)⟩ h
 |dict a kvs ep i l g hI le k ok e =>
  induction l with
  |cons=>injection e
  |nil =>
   cases(qU k (Nat.le_trans le (Nat.le_of_eq (List.length_map ..).symm))).trans (List.length_map ..)
   exact lI (Walks.dictKeys hh I a (p.tX g) kvs ep) J p ⟨hI,J.rel.fz _ _ g⟩ h
 |range x n hI e =>
  induction n with
  |succ n=>rw[qV] at e;injection e
  |zero=>exact lI (Walks.range hh I x 1 0) J p (by rw[show x+((0:Nat):Int)*1=x by omega];exact hI) h
end
noncomputable def Wd.cut(w:Wd) (n:Nat) (st:aB):Wd:=⟨w.G,w.as.take n,st,w.s⟩
structure IG(n:Nat) (st st':aB):Prop where
 eq:st'=st.take n
 refs:∀nd∈st.take n,dM n nd=true
theorem qW{n:Nat}{st st':aB}(e:back n st=some st'):IG n st st':=by
 unfold back at e
 split at e
 ·rename_i h;(injection e with e;subst e);exact⟨rfl,List.all_eq_true.mp h⟩
 ·injection e
theorem qm{α:Type}{l:List α}{n i:Nat}{x:α}(e:(l.take n)[i]? = some x):i<n/\l[i]? = some x:=by
 rw[List.getElem?_take] at e
 split at e
 ·exact⟨by assumption,e⟩
 ·injection e
theorem xG{α:Type}{l:List α}{n i:Nat}{x:α}(h:i<n) (e:l[i]? = some x):(l.take n)[i]? = some x:=by rw[List.getElem?_take,if_pos h];exact e
section
variable {cx:Cx}{w w0:Wd}{n:Nat}{st':aB}{fr:List Addr}{W:Addr->Prop}
theorem cO.cut{G:Addr->Lg}{as:List Pl}{v:Value}:∀{a:AV},under n a=true->cO G as v a->cO G (as.take n) v a
 |.t _,_,r=>r
 |.r _,h,.mk p e q=>.mk p (xG (of_decide_eq_true h) e) q
theorem oz.cut{G:Addr->Lg}{as:List Pl}{gs:List (Tx×Value)}{fs:List (Tx×AV)}(r:oz G as gs fs):(∀p∈fs,under n p.2=true)->oz G (as.take n) gs fs:=by
 induction r with
 |nil=>exact fun _=>.nil
 |cons x _ ih=>exact fun h=>.cons (x.cut (h _ (.head _))) (ih fun p q=>h p (.tail _ q))
theorem gn.cut{G:Addr->Lg}{as:List Pl}{h:Heap}{p:Pl}{nd:Node}(r:dM n nd=true):gn cx G as h p nd->gn cx G (as.take n) h p nd
 |.fz x=>.fz x
 |.tr e i q x=>.tr e i q x
 |.inst i x=>.inst i (x.cut (List.all_eq_true.mp r))
theorem eS.back(S:eS cx w) (e:IG n w.st st'):eS cx (w.cut n st') where
 len:=by obtain⟨rfl,_⟩:=e;exact(List.length_take ..).trans ((congrArg (min n) S.len).trans (List.length_take ..).symm)
 nodes i p nd e1 e2:=let q:=e.eq▸e2;(S.nodes i p nd (qm e1).2 (qm q).2).cut (e.refs nd (List.mem_of_getElem? q))
 ff i p nd e1 e2:=S.ff i p nd (qm e1).2 (qm (e.eq▸e2)).2
 fz:=S.fz
 pg:=S.pg
 lo:=S.lo
 live:=S.live
theorem Ev.back(x:Ev cx fr W w0 w) (hn:w0.as.length<=n) (e:back n w.st=some st'):Ev cx fr W w0 (w.cut n st') where
 inv:=⟨x.inv.rel.back (qW e),x.inv.old,x.inv.os,x.inv.gens,x.inv.lim,x.inv.low,x.inv.i8,x.inv.ge,let⟨ps,e,t,c⟩:=x.inv.tab;⟨ps,e,t,c⟩⟩
 size:=x.size
 keep:=x.keep
 frame:=x.frame
 sub:=x.sub
 pre i p e:=xG (Nat.lt_of_lt_of_le (List.getElem?_eq_some_iff.mp e).1 hn) (x.pre i p e)
 out:=x.out
end
noncomputable def qX(env:Env):List (Str×NameKind)->List (Str×Addr)->List (Str×Addr)
 |[],cs=>cs
 |x::r,cs=>qX env r (if x.2==.free then(x.1,(env.cells.lookup x.1).getD 0)::cs else cs)
noncomputable def i9(scope:Scope) (env:Env):List (Str×Addr):=qX env scope.names []
abbrev vg(env:Env) (l:List (Str×NameKind)):Prop:=∀x∈l,x.2=.free->∃c,env.cells.lookup x.1=some c
theorem gH{scope:Scope}{env:Env}(h:vg env scope.names):closureFor scope env=pure (i9 scope env):=by
 have key:∀(l:List (Str×NameKind)) (cs:List (Str×Addr)),vg env l ->
   (forIn l cs fun(x:Str×NameKind) cs=>(do
    let(name,kind):=x
    if kind==.free then do
     let c <-cellOf env name
     pure (ForInStep.yield ((name,c)::cs))
    else pure (ForInStep.yield cs):Sem (ForInStep (List (Str×Addr)))))=pure (qX env l cs):=by
  intro l
  induction l with
  |nil=>intro cs _;rfl
  |cons x l ih =>
   intro cs hl
   rw[List.forIn_cons]
   have Un:vg env l:=fun y hy=>hl y (.tail _ hy)
   cases hk:(x.2==NameKind.free) with
   |true =>
    obtain⟨c,hc⟩:=hl x (.head _) (eq_of_beq hk)
    have z:=ih ((x.1,c)::cs) Un
    simp only[qX,hk,if_true,hc,Option.getD_some,cellOf]
    exact z
   |false =>
    simp only[qX,hk,Bool.false_eq_true,if_false]
    exact ih cs Un
 have:=key scope.names [] h
 unfold closureFor i9
 first
  |exact this
  |(rw[this];rfl)
  |(show(forIn scope.names [] _ >>= fun r=>pure r)=_;rw[this];rfl)
theorem lJ{env:Env}{y:Str}:∀{l:List (Str×NameKind)}{cs:List (Str×Addr)},vg env l->(qX env l cs).lookup y=if(y,NameKind.free)∈l then env.cells.lookup y else cs.lookup y
 |[],_,_=>by rw[if_neg (List.not_mem_nil)];rfl
 |(n,k)::r,cs,h=>by
  have hr:vg env r:=fun x hx=>h x (.tail _ hx)
  rw[qX,lJ hr]
  by_cases q:(y,NameKind.free)∈r
  ·rw[if_pos q,if_pos (.tail _ q)]
  ·rw[if_neg q]
   cases hk:(k==NameKind.free) with
   |true =>
    cases eq_of_beq hk
    obtain⟨c,hc⟩:=h (n,.free) (.head _) rfl
    rw[if_pos rfl,hc]
    by_cases z:y=n
    ·subst z;rw[List.lookup_cons,beq_self_eq_true,if_pos (.head _),hc];rfl
    ·rw[List.lookup_cons,beq_eq_false_iff_ne.mpr z,if_neg]
     intro m;cases m with
     |head=>exact z rfl
     |tail _ m=>exact q m
   |false =>
    rw[if_neg Bool.false_ne_true,if_neg]
    intro m;cases m with
    |head=>injection hk
    |tail _ m=>exact q m
theorem qY{α:Type}{f:Str->α->α}{x:Str}:∀{l:List (Str×α)},(l.map fun p=>(p.1,f p.1 p.2)).lookup x=(l.lookup x).map (f x)
 |[]=>rfl
 |(n,k)::r=>by
  rw[List.map_cons,List.lookup_cons,List.lookup_cons]
  cases h:x==n with
  |true=>cases eq_of_beq h;rfl
  |false=>exact qY
noncomputable def vh(env:Env) (x:Str) (k:NameKind):NameKind:=if(k==.free&&env.scope.kind==.function&&env.kindOf x==some .cell)=true then .cell else k
theorem gw{scope:Scope}{cl:List (Str×Addr)}{C:Addr}{env:Env}{x:Str}:(compEnvC scope cl C env).kindOf x=(scope.names.lookup x).map (vh env x):=by
 rw[<-qY (f:=vh env)]
 show List.lookup x (scope.names.map _)=_
 exact congrArg (List.lookup x) (List.map_congr_left fun p _=>by
  unfold vh
  by_cases h:(p.2==.free&&env.scope.kind==.function&&env.kindOf p.1==some .cell)=true
  ·rw[if_pos h];exact if_pos h
  ·rw[if_neg h];exact if_neg h)
theorem mem_lookup{α:Type}{x:Str}{k:α}:∀{l:List (Str×α)},l.lookup x=some k->(x,k)∈l
 |[],h=>nomatch h
 |(n,k')::r,h=>by
  rw[List.lookup_cons] at h
  cases q:x==n with
  |true=>rw[q] at h;(injection h with h;subst h);cases eq_of_beq q;exact .head _
  |false=>rw[q] at h;exact .tail _ (mem_lookup h)
structure g7(K:Kx) (scope:Scope) (x:Str) (ix:Nat):Prop where
 kind:scope.kind=.function
 qZ:∀y∈scope.names,y.2≠.cell
 locals:∀y∈scope.names,y.2=.local->scope.names.lookup y.1=some .local
 NP:scope.names.lookup x=some .local
 free:∀y∈scope.names,y.2=.free->K.env.kindOf y.1=some .cell\/K.env.kindOf y.1=some .free
noncomputable def vj(scope:Scope) (x:Str) (ix:Nat) (vs:List (Str×Nat)):List (Str×Nat):=(x,ix)::vs.filter fun p=>scope.names.lookup p.1==some .free&&p.2 != ix
noncomputable def ju(K:Kx) (scope:Scope) (x:Str) (ix:Nat) (C:Addr):Kx:=⟨K.A,K.l,compEnvC scope (i9 scope K.env) C K.env,vj scope x ix K.vs⟩
section
variable {cx:Cx}{K:Kx}{w:Wd}{g:Gm}{scope:Scope}{x y:Str}{ix:Nat}{C c:Addr}
theorem g7.has(O:g7 K scope x ix) (eo:jZ cx K w):vg K.env scope.names:=fun y hy hf=>eo.kinds y.1 (O.free y hy hf)
theorem g7.up(O:g7 K scope x ix) (eo:jZ cx K w) (e:(i9 scope K.env).lookup y=some c):K.env.cells.lookup y=some c:=by
 unfold i9 at e
 rw[lJ (O.has eo)] at e
 split at e
 ·exact e
 ·injection e
theorem g7.RB(O:g7 K scope x ix):fP (ju K scope x ix C) x ix where
 kind:=.inl (by show Env.kindOf (compEnvC ..) x=_;rw[gw,O.NP];rfl)
 at' j h:=by
  cases h with
  |head=>rfl
  |tail _ h=>have:=(List.mem_filter.mp h).2;rw[O.NP] at this;injection this
 uniq y h:=by
  cases h with
  |head=>rfl
  |tail _ h=>have:=(Bool.and_eq_true_iff.mp (List.mem_filter.mp h).2).2;rw[bne_self_eq_false] at this;injection this
theorem At.comp(O:g7 K scope x ix) (X:At cx K g w) (hC:iz cx w C) (hn:∃m,w.h.Ns C m) (hc:∀x c,K.env.cells.lookup x=some c->c≠C):At cx (ju K scope x ix C) (g.set ix none) w where
 inv:=X.inv
 fr:=X.fr
 eo:={
  fn:=O.kind
  glob:=X.eo.glob
  blt:=X.eo.blt
  dQ:=hC
  ns:=hn
  cell:=fun y c e=>let z:=X.eo.cell y c (O.up X.eo e);⟨z.dQ,z.JH,hc y c (O.up X.eo e),z.cell⟩
  apart:=fun y z c e1 e2=>X.eo.apart y z c (O.up X.eo e1) (O.up X.eo e2)
  kinds:=fun y hy=>by
   have hm:(y,NameKind.free)∈scope.names:=by
    unfold ju at hy
    dsimp only at hy
    rw[gw] at hy
    cases q:scope.names.lookup y with
    |none=>rw[q] at hy;rcases hy with h|h<;>injection h
    |some k =>
     rw[q] at hy
     have nc:=O.qZ _ (mem_lookup q)
     induction k<;>first| exact mem_lookup q|exact absurd rfl nc|(rcases hy with h|h<;>cases h)
   obtain⟨c,hc⟩:=X.eo.kinds y (O.free _ hm rfl)
   exact⟨c,by show(i9 scope K.env).lookup y=_;unfold i9;rw[lJ (O.has X.eo),if_pos hm];exact hc⟩ }
 vars y j a e1 e2:=by
  cases e1 with
  |head=>rw[List.getElem?_set] at e2;rw[if_pos rfl] at e2;split at e2<;>cases e2
  |tail _ e1 =>
   obtain⟨e1,q⟩:=List.mem_filter.mp e1
   obtain⟨q1,q2⟩:=Bool.and_eq_true_iff.mp q
   have hl:=eq_of_beq q1
   rw[List.getElem?_set_ne (fun z=>bne_iff_ne.mp q2 z.symm)] at e2
   obtain⟨v,h1,h2⟩:=X.vars y j a e1 e2
   have hm:=mem_lookup hl
   have hf:=O.free _ hm rfl
   refine⟨v,?_,h2⟩
   induction h1 with
   |loc k=>rcases hf with q|q<;>cases k.symm.trans q
   |cell k c e z =>
    refine .cell ?_ c (by show(i9 scope K.env).lookup y=_;unfold i9;rw[lJ (O.has X.eo),if_pos hm];exact e) z
    show Env.kindOf (compEnvC ..) y=_\/Env.kindOf (compEnvC ..) y=_
    rw[gw,hl]
    by_cases h:(NameKind.free==.free&&K.env.scope.kind==.function&&K.env.kindOf y==some .cell)=true
    ·exact .inl (congrArg some (if_pos h))
    ·exact .inr (congrArg some (if_neg h))
end
noncomputable def R.bn{α β:Type}:R α->(α->aB->R β)->R β
 |some (.ok (a,st)),f=>f a st
 |_,_=>Option.none
inductive Mm(cx:Cx) (v:Value) (ds:List PV) (w:Wd):Prop
 |val (d:PV) (r:Rep w.G v d) (e:mj d=some ds)
 |sM (a:Addr) (x y:Int) (t u z:Tok) (q:v=.ref a) (h:IsRange w.h a x y 1 t u z) (hx:-2000<=x/\x<=2000) (hy:-2000<=y/\y<=2000) (e:cH x y=ds)
noncomputable def Src(cx:Cx) (K:Kx) (x:Expr) (f:Gm->aB->R (List PV)):Prop:=∀g w,At cx K g w->Wp cx K.A K.l w (eval x K.env) (f g w.st) (Mm cx)
section
variable {α β γ:Type}{r:R α}
theorem lK{f:α->aB->R β}{k:β->aB->R γ}:(r.bind f).bn k=r.bn fun a st=>(f a st).bn k:=by
 induction r with
 |none=>rfl
 |some z=>induction z<;>rfl
theorem q7{f:PV->aB->R (Option PV)}{d:PV}{ds done:List PV}{st:aB}:(turns f (d::ds) st).bind (fun l st=>ok (done++l) st) =
  (f d st).bn fun o st'=>oB (back st.length st') fun st2=>(turns f ds st2).bind fun l st=>ok ((done++o.toList)++l) st:=by
 have fin:∀(o:Option PV) (q:R (List PV)),(q.bind fun l st=>ok (match o with| some e=>e::l|none=>l) st).bind (fun l st=>ok (done++l) st)=q.bind fun l st=>ok ((done++o.toList)++l) st:=fun o q=>by
  rw[R.bind_assoc]
  refine R.bind_congr fun l st=>?_
  induction o with
  |none=>exact congrArg (fun x=>ok x st) (by rw[Option.toList,List.append_nil])
  |some e=>exact congrArg (fun x=>ok x st) (List.append_cons ..)
 have e:turns f (d::ds) st=(match f d st with
  |some (.ok (o,st'))=>match back st.length st' with
   |some dO=>(turns f ds dO).bind fun l Mn=>ok (match o with| some e=>e::l|none=>l) Mn
   |none=>none
  |_=>none):=rfl
 rw[e]
 induction f d st with
 |none=>rfl
 |some z=>induction z with
  |error=>rfl
  |ok z =>
   obtain⟨o,st'⟩:=z
   show R.bind (match back st.length st' with| some dO=>_|none=>none) _=oB (back st.length st') _
   induction back st.length st' with
   |none=>rfl
   |some st2=>exact fin o (turns f ds st2)
end
section
variable {cx:Cx}{nm:Nat->Option Str}{w w' w0:Wd}{K:Kx}{g:Gm}{v u:Value}{a:AV}{A:Around}{l:List Env}{E:Value->Shared->Prop}{Q:Value->Shared->Prop}{d e:PV}{us:List Value}{ds:List PV}{x y:Expr}{xs:List Expr}{f:Kv}{fs:Gm->aB->R (List AV)}{p pos:Pos}{I b:Addr}
theorem bT.oB{α β γ:Type}{Rel:α->β->Wd->Prop}{Q:α->Shared->Prop}{o:Option γ}{k:γ->R β}(T:bT cx l w (Mine.oB o k) Rel Q E){p:Prop}(h:∀c,o=some c->bT cx l w (k c) Rel Q E->p):p:=by
 induction o with
 |none=>exact T.no
 |some c=>exact h c rfl T
theorem Src.val(h:SE cx K x f):Src cx K x (k1 m8 f):=fun g w X _ _ T =>
 (h g w X).step T fun _ _ _ e1 r1 T=>T.eU e1.inv r1 fun d _ _ e2 r2 T=>T.oB fun _ e T=>T.done e2.inv (.val d r2 e)
theorem Src.range(B:Base cx nm) (hk:K.env.kindOf "range" = some .globalImplicit) (r:SA cx K (x::xs) fs):Src cx K (.Call (.Name "range" p) (x::xs) [] pos) (kN qD fs):=fun g w X Q E T=>by
 refine wpAny_Call_Name_kw (iJ X B hk (by decide) (by decide) rfl (r.call (.inr ⟨_,rfl⟩) ((r.w pos g w X).step T fun as us w1 e1 r1 T=>T.oB fun ds e T=>?_)))
 have fin:∀{ob:Obj}{tk:Nat}(x y:Int) (t u z:Tok),IsRange (w1.h.push ob) w1.n x y 1 t u z->(-2000<=x/\x<=2000)->(-2000<=y/\y<=2000)->cH x y=ds->Q (.ref w1.n) { w1.s with heap:=w1.h.push ob,toks:=tk } :=
  fun x y t u z h hx hy e=>T.ok _ _ (w1.at _) rfl (iP.push.ev e1.inv) (.sM _ x y t u z rfl h hx hy e)
 obtain⟨r,_⟩:=r1
 cases r with
 |nil=>injection e
 |@cons v us a as ra r =>
  have int:∀{v:Value}{a:AV}{i:Int},cO w1.G w1.as v a->A1 a=some i->∃t,v=.int i t:=fun{v a i} r e=>by
   cases a with
   |r=>injection e
   |t d=>cases d with
    |int j=>(injection e with e;subst e);cases r with
     |int _ t=>exact⟨t,rfl⟩
     |ref _ q=>cases q
    |_=>injection e
  cases r with
  |nil =>
   obtain⟨i,hi,e⟩:=Option.bind_eq_some_iff.mp e
   obtain⟨t,rfl⟩:=int ra hi
   split at e
   ·rename_i h;exact call_range_1 (fin 0 i _ _ _ (Heap.get?_push_size _ rfl) (by decide) h (Option.some.inj e))
   ·injection e
  |@cons v2 us a2 as rb r =>
   cases r with
   |cons=>injection e
   |nil =>
    obtain⟨i,hi,e⟩:=Option.bind_eq_some_iff.mp e
    obtain⟨j,hj,e⟩:=Option.bind_eq_some_iff.mp e
    obtain⟨t,rfl⟩:=int ra hi
    obtain⟨t2,rfl⟩:=int rb hj
    unfold M4 at e
    split at e
    ·rename_i h;exact call_range_2 (fin i j _ _ _ (Heap.get?_push_size _ rfl) h.1 h.2 (Option.some.inj e))
    ·injection e
theorem Mm.iter(hs:sysModules<cx.cX) (J:Inv cx w) (it:Mm cx v ds w) (h:∀ob,ve cx (w.at { w.s with heap:=w.h.push ob }) w.n ds->Q (.ref w.n) { w.s with heap:=w.h.push ob }):wpAny (model cx.prog cx.w) A (pyIter v) Q E w.s:=by
 induction it with
 |val d r e =>
  cases r with
  |ref g q r =>
   induction q with
   |lst z=>(injection e with e;subst e);exact wpAny_pyIter_list (Heap.PlainList.isList ⟨_,J.rel.fz _ _ g⟩) (h _ (.list _ _ _ 0 g ⟨_,Heap.get?_push_size _ rfl,rfl,rfl⟩ (Nat.zero_le _) rfl r))
   |tup z=>(injection e with e;subst e);exact wpAny_pyIter_tuple (A9.tup (J.rel.fz _ _ g)) (h _ (.tup _ _ _ 0 g ⟨_,Heap.get?_push_size _ rfl,rfl,rfl⟩ (Nat.zero_le _) rfl r))
   |@dS kvs ep l z k n =>
    unfold mj at e
    dsimp only at e
    split at e
    ·rename_i ok
     injection e with e;subst e
     exact wpAny_pyIter_dict (big hs (J.rel.lo _ (g▸fun q=>by injection q))) (J.rel.fz _ _ g) (h _ (.dict _ kvs ep 0 (l.map (·.1)) g ⟨_,Heap.get?_push_size _ rfl,rfl,rfl⟩ (Nat.zero_le _) (by rw[List.drop_zero,List.map_map];exact k)
      (fun s hs=>by obtain⟨p,hp,rfl⟩:=List.mem_map.mp hs;exact List.all_eq_true.mp ok p hp) (List.map_map ..)))
    ·injection e
   |_=>injection e
  |_=>injection e
 |sM a x y t u z q hR hx hy e =>
  subst q
  refine wpAny_pyIter_range hR (small_one (by omega) (by omega) (by omega) (by omega)) (h _ (.range x (y-x).toNat ?_ e))
  rw[rangeSize_one]
  exact Heap.get?_push_size _ rfl
theorem Mm.lim(it:Mm cx v ds w):ds.length<=Mine.lim:=by
 induction it with
 |sM _ x y _ _ _ _ _ hx hy e=>rw[<-e,tW];unfold Mine.lim;omega
 |val d r e =>
  cases r with
  |ref g q r=>induction q with
   |lst z=>(injection e with e;subst e);exact z
   |tup z=>(injection e with e;subst e);exact z
   |dS z =>
    unfold mj at e
    dsimp only at e
    split at e
    ·(injection e with e;subst e);rw[List.length_map];exact z
    ·injection e
   |_=>injection e
  |_=>injection e
theorem ve.self(it:ve cx w I ds) (h:Q (.ref I) w.s):wpAny (model cx.prog cx.w) A (pyIter (.ref I)) Q E w.s:=by
 induction it with
 |list _ _ _ _ _ hI=>exact wpAny_pyIter_listiter hI h
 |tup _ _ _ _ _ hI=>exact wpAny_pyIter_tupleiter hI h
 |dict _ _ _ _ _ _ hI=>exact wpAny_pyIter_keyiter hI h
 |range _ _ hI=>exact wpAny_pyIter_rangeiter hI h
theorem At.turn{x:Str}{i:Nat}{px:Pos}{M:Option Value->Shared->Prop}{Qb:Unit->Shared->Prop}{E1:Value->Shared->Prop}(hh:K.A.handled=none) (X:At cx K g w) (V:fP K x i) (p:iz cx w I) (fI:nj K I) (it:ve cx w I (d::ds))
  (hM:∀v s',wpAny (model cx.prog cx.w) K.A (assign (.Name x px) K.env v) Qb E1 s'->M (some v) s')
  (hb:∀b s',Spot K.env x b->Ev cx (ek K.l) (fun c=>c=I\/c=b) w (w.at s')->At cx K (g.set i (some (.t d))) (w.at s')->ve cx (w.at s') I ds->Qb () s'):wpAny (model cx.prog cx.w) K.A (pyNext (.ref I)) M E w.s :=
 it.next hh X.inv p fun v s1 rv ev VI=>hM v s1 (wpAny_assign_Name (qM (w:=w.at s1) (a:=.t d) (X.Bb (ev _) fun a q=>q▸fI) V rv fun b s2 hs wR X2 =>
  have nb:I≠b:=by
   induction hs with
   |loc _ e=>exact e▸fI.loc
   |cell _ e=>exact(fI.cell _ _ e).symm
  have wd:∀{W W':Addr->Prop}{w1 w2:Wd},(∀a,W a->W' a)->Ev cx (ek K.l) W w1 w2->Ev cx (ek K.l) W' w1 w2:=fun h y=>⟨y.inv,y.size,fun a h1 h2 h3 h4 h5=>y.keep a h1 h2 h3 h4 fun q=>h5 (h a q),fun a h1 h2=>y.frame a h1 fun q=>h2 (h a q),y.sub,y.pre,y.out⟩
  hb b s2 hs ((wd (fun _=>.inl) (ev _)).trans (wd (fun _=>.inr) wR)) X2 (VI.mv wR (p.ev (ev [])) fI.fr nb)))
end
abbrev Acc:=Addr->Wd->List PV->Prop
structure CF(cx:Cx) (K:Kx) (w0:Wd) (I D:Addr) (B:Acc):Prop where
 hh:K.A.handled=none
 nI:nj K I
 nD:nj K D
 ne:I≠D
 hI:w0.n<=I
 hD:w0.n<=D
 hC:w0.n<=K.env.locals
 lim:∀a∈ek K.l,a<w0.n
 mono:∀{w w':Wd}{W:Addr->Prop}{done:List PV},Ev cx (ek K.l) W w w'->iz cx w D->¬W D->B D w done->B D w' done
structure CE(cx:Cx) (K:Kx) (w0:Wd) (D:Addr) (B:Acc) (g:Gm) (done:List PV) (w:Wd):Prop where
 at':At cx K g w
 ev:iA cx K.l w0 w
 pD:iz cx w D
 acc:B D w done
structure CJ(cx:Cx) (K:Kx) (w0:Wd) (I D:Addr) (B:Acc) (g:Gm) (ds done:List PV) (w:Wd):Prop where
 c:CE cx K w0 D B g done w
 it:ve cx w I ds
 pI:iz cx w I
 len:done.length+ds.length<=lim
inductive LI(cx:Cx) (K:Kx) (w0:Wd) (I D:Addr) (B:Acc) (g:Gm) (P:R (List PV)->Prop) (f:PV->aB->R (Option PV)) (n:Nat) (s:Shared):Prop
 |mk (ds done:List PV) (w:Wd) (hn:ds.length=n) (hs:w.s=s) (J:CJ cx K w0 I D B g ds done w) (T:P ((turns f ds w.st).bind fun l st=>ok (done++l) st))
section
variable {cx:Cx}{nm:Nat->Option Str}{w w' w0 w1:Wd}{K:Kx}{g:Gm}{v u:Value}{A:Around}{l:List Env}{E:Value->Shared->Prop}{d:PV}{ds done:List PV}{I D:Addr}{B:Acc}{x:Str}{ix:Nat}{P:R (List PV)->Prop}{f:PV->aB->R (Option PV)}{W W':Addr->Prop}
theorem Ev.wide{fr:List Addr}(y:Ev cx fr W w w') (h:∀a,W a->W' a):Ev cx fr W' w w':=⟨y.inv,y.size,fun a h1 h2 h3 h4 h5=>y.keep a h1 h2 h3 h4 fun q=>h5 (h a q),fun a h1 h2=>y.frame a h1 fun q=>h2 (h a q),y.sub,y.pre,y.out⟩
theorem Ev.over{fr:List Addr}(x:Ev cx fr W' w0 w) (y:Ev cx fr W w w') (hW:∀a,W a->w0.n<=a\/W' a) (hf:∀a∈fr,a<w0.n):Ev cx fr W' w0 w' where
 inv:=y.inv
 size:=Nat.le_trans x.size y.size
 keep a h1 h2 h3 h4 h5 o e:=y.keep a h1 (Nat.lt_of_lt_of_le h2 x.size) (x.out a h2 h3) h4 (fun q=>(hW a q).elim (fun q=>Nat.not_lt.mpr q h2) h5) o (x.keep a h1 h2 h3 h4 h5 o e)
 frame a h1 h2:=(x.frame a h1 h2).trans (y.frame a h1 fun q=>(hW a q).elim (fun q=>Nat.not_lt.mpr q (hf a h1)) h2)
 sub a o e:=y.sub a o (x.sub a o e)
 pre i p e:=y.pre i p (x.pre i p e)
 out a h1 h2:=y.out a (Nat.lt_of_lt_of_le h1 x.size) (x.out a h1 h2)
theorem At.weak{g':Gm}(X:At cx K g w) (h:∀(i:Nat) (a:AV),g'[i]? = some (some a)->g[i]? = some (some a)):At cx K g' w:=⟨X.inv,X.fr,X.eo,fun x i a e1 e2=>X.vars x i a e1 (h i a e2)⟩
theorem Wp.bn{α β γ:Type}{x:Sem α}{r:R β}{k:β->aB->R γ}{Rel:α->β->Wd->Prop}{P:R γ->Prop}{Q0:α->Shared->Prop}(hx:Wp cx A l w x r Rel) (hP:P Option.none->False) (T:P (r.bn k)) (go:∀b a w1,iA cx l w w1->Rel a b w1->P (k b w1.st)->Q0 a w1.s):wpAny (model cx.prog cx.w) A x Q0 E w.s :=
 hx Q0 E ⟨fun e=>hP (by rw[e] at T;exact T),fun b a w1 e ev rel=>go b a w1 ev rel (by subst e;exact T),fun m e w1 q _ _=>(hP (by subst q;exact T)).elim⟩
theorem qo{α γ:Type}{o:Option α}{k:α->Option γ}{P:Option γ->Prop}(hP:P Option.none->False) (T:P (Mine.oB o k)){p:Prop}(h:∀c,o=some c->P (k c)->p):p:=by
 induction o with
 |none=>exact(hP T).elim
 |some c=>exact h c rfl T
theorem CJ.next(F:CF cx K w0 I D B){Di:List PV}{st2:aB}(J:CJ cx K w0 I D B (g.set ix (some (.t d))) ds done w1) (y:Ev cx (ek K.l) (fun a=>a=D) w1 w') (e:back w1.st.length w'.st=some st2)
  (acc:B D (w'.cut w1.st.length st2) Di) (hl:Di.length<=done.length+1) (hn:done.length+1+ds.length<=lim):CJ cx K w0 I D B (g.set ix none) ds Di (w'.cut w1.st.length st2):=by
 have z:=y.back (n:=w1.st.length) (Nat.le_of_eq J.c.at'.inv.rel.len) e
 exact⟨⟨(J.c.at'.Bb z fun a q=>q▸F.nD).weak fun i a h=>by
   rw[List.getElem?_set] at h ⊢
   split at h
   ·split at h<;>cases h
   ·rename_i q;rw[if_neg q];exact h,
  J.c.ev.over z (fun a q=>.inl (q▸F.hD)) F.lim,J.c.pD.ev z,acc⟩,J.it.mv z J.pI F.nI.fr F.ne,J.pI.ev z,by omega⟩
theorem CJ.turn{px:Pos}{Rr:Result->Shared->Prop}{E1 E2:Value->Shared->Prop}{Bd:Shared->Prop}(F:CF cx K w0 I D B) (V:fP K x ix) (hx:K.env.kindOf x=some .local) (J:CJ cx K w0 I D B (g.set ix none) ds done w)
  (h0:∀s',ds=[]->CE cx K w0 D B (g.set ix none) done (w.at s')->Rr (.ok .next) s')
  (h1:∀d Cu s',ds=d::Cu->CJ cx K w0 I D B (g.set ix (some (.t d))) Cu done (w.at s')->done.length+1+Cu.length<=lim->Bd s') :
  wpAny (model cx.prog cx.w) K.A (pyNext (.ref I)) (fun r cz=>match r with
   |none=>Rr (.ok .next) cz
   |some v=>wpAny (model cx.prog cx.w) K.A (assign (.Name x px) K.env v) (fun _ wW=>Bd wW) E1 cz) E2 w.s:=by
 obtain⟨⟨X,ev,pD,acc⟩,it,pI,len⟩:=J
 induction ds with
 |nil =>
  exact it.done F.hh X.inv pI fun s' z=>h0 s' rfl ⟨X.Bb (z _) fun a q=>q▸F.nI,ev.over (z _) (fun a q=>.inl (q▸F.hI)) F.lim,pD.ev (z []),F.mono (z _) pD F.ne.symm acc⟩
 |cons d ds =>
  refine X.turn F.hh V pI F.nI it (M:=fun r cz=>match r with
   |none=>Rr (.ok .next) cz
   |some v=>wpAny (model cx.prog cx.w) K.A (assign (.Name x px) K.env v) (fun _ wW=>Bd wW) E1 cz) (fun v s' h=>h) fun b s' hb y X it=>?_
  have eb:b=K.env.locals:=by
   induction hb with
   |loc _ e=>exact e
   |cell k _=>cases hx.symm.trans k
  subst eb
  rw[List.length_cons] at len
  rw[List.set_set] at X
  exact h1 d ds s' rfl ⟨⟨X,ev.over y (fun a q=>.inl (q.elim (fun q=>q▸F.hI) fun q=>q▸F.hC)) F.lim,pD.ev y,F.mono y pD (fun q=>q.elim F.ne.symm F.nD.loc) acc⟩,it,pI.ev y,by omega⟩ (by omega)
noncomputable def Fq(cx:Cx) (K:Kx) (ifs:List Expr) (k:Gm->aB->R Bool):Prop :=
 ∀g w,At cx K g w->Wp cx K.A K.l w (forIn ifs true fun c r=>if r=true then do let ok <-isTrue c K.env (eval c K.env);pure (ForInStep.yield ok) else pure (ForInStep.yield r)) (k g w.st) JW
theorem Fq.nil:Fq cx K [] fun _ st=>ok true st:=fun _ _ X _ _ T=>wpAny_tests_nil (T.done X.inv rfl)
theorem Fq.one{c:Expr}{k:Kv}(h:ST cx K c k):Fq cx K [c] (k1 eV k):=fun g w X Q E T=>wpAny_tests_one (h g w X Q E T)
noncomputable def vn:Acc:=fun D w done=>∃us:List Value,w.h.PlainList D us.toArray/\bh w.G us done
theorem lM{fr:List Addr}(hD:D∉fr) (y:Ev cx fr W w w') (p:iz cx w D) (h:¬W D):vn D w done->vn D w' done
 |⟨us,a,r⟩=>⟨us,a.at (y.obj p hD h),r.mono y.sub⟩
theorem bT.NQ{γ:Type}{w1:Wd}{v:Value}{a:AV}{k:PV->aB->R γ}{P:R γ->Prop}(I:Inv cx w1) (r:cO w1.G w1.as v a) (hP:P Option.none->False) (T:P ((Mine.eU w1.st a).bn k)){p:Prop}(h:∀d G' st',iA cx l w1 ⟨G',w1.as,st',w1.s⟩->Rep G' v d->P (k d st')->p):p:=by
 rcases ni (w:=w1) (a:=a) rfl with e|⟨d,st',e,e'⟩
 ·exact(hP (by rw[e] at T;exact T)).elim
 ·obtain⟨G',ev,r'⟩:=fL _ I r e
  exact h d G' st' (ev _ _) r' (by rw[e'] at T;exact T)
theorem tY{elt iter:Expr}{ifs:List Expr}{px pos:Pos}{sc':Scope}{kt:Gm->aB->R Bool}{ke:Kv}{Rr:Result->Shared->Prop}(F:CF cx K w0 I D vn) (V:fP K x ix) (hx:K.env.kindOf x=some .local) (ht:Fq cx K ifs kt) (he:SE cx K elt ke)
  (hP:P Option.none->False) (J:CJ cx K w0 I D vn (g.set ix none) ds [] w) (T:P (turns (jq ix kt ke g) ds w.st)) (hR:∀done w',CE cx K w0 D vn (g.set ix none) done w'->done.length<=lim->P (ok done w'.st)->Rr (.ok .next) w'.s) :
  codeAny (model cx.prog cx.w) K.A (.compLoop (.ListComp elt [⟨.Name x px,iter,ifs,0⟩] sc' pos) 0 (.ref I) (.ref D) K.env) Rr w.s:=by
 refine codeAny_compLoop_tests (LI cx K w0 I D vn (g.set ix none) P (jq ix kt ke g)) (fun n s L=>?_) ds.length ⟨ds,[],w,rfl,rfl,J,by
  have:(fun(l:List PV) st=>ok ([]++l) st)=ok:=rfl
  rw[this]
  cases h:turns (jq ix kt ke g) ds w.st with
  |none=>rw[h] at T;exact(hP T).elim
  |some z=>rw[h] at T;induction z<;>exact T⟩
 obtain⟨ds,done,w,rfl,rfl,J,T⟩:=L
 refine J.turn F V hx (fun s' e C=>?_) fun d Cu s' e J1 hn=>?_
 ·subst e;exact hR done (w.at s') C (Nat.le_trans (Nat.le_add_right ..) J.len) (by rw[<-List.append_nil done];exact T)
 ·subst e
  rw[q7] at T
  unfold jq at T
  rw[lK] at T
  refine(ht _ _ J1.c.at').bn hP T fun b c w3 e3 VJ T=>?_
  cases VJ
  cases b with
  |false =>
   refine qo hP T fun st2 e T=>?_
   exact⟨Cu.length,Nat.lt_succ_self _,.mk Cu done (w3.cut w.st.length st2) rfl rfl (J1.next F (e3.wide fun _ q=>q.elim) e (lM (w':=w3) (W:=om) F.nD.fr e3 J1.c.pD (fun q=>q) J1.c.acc :) (Nat.le_succ _) hn) (by rw[Option.toList,List.append_nil] at T;exact T)⟩
  |true =>
   rw[if_pos rfl,lK] at T
   refine(he _ _ (J1.c.at'.ev e3)).bn hP T fun a v w4 e4 rv T=>?_
   rw[lK] at T
   refine bT.NQ (l:=K.l) e4.inv rv hP T fun d' G' st' e5 rd T=>qo hP T fun st2 e T=>?_
   have Dj:=(e3.trans e4).trans e5
   obtain⟨us,pl,ru⟩:=lM F.nD.fr Dj J1.c.pD (fun q=>q) J1.c.acc
   have hsz:us.toArray.size<=sizeLine:=by rw[List.size_toArray,ru.length];exact Nat.le_trans (by omega:done.length<=lim) (by decide)
   refine wpAny_list_append_plain (hsz:=hsz) pl fun h6 RC RD=>?_
   exact⟨Cu.length,Nat.lt_succ_self _,.mk Cu (done++[d']) _ rfl rfl (J1.next (w':=⟨G',w4.as,st',{ w4.s with heap:=h6 }⟩) F ((Dj.wide fun _ q=>q.elim).trans (e5.inv.dQ (w:=⟨G',w4.as,st',w4.s⟩) (J1.c.pD.ev Dj) RD rfl rfl)) e
    ⟨us++[v],by rw[<-List.push_toArray];exact RC,ru.append (.cons rd .nil)⟩ (by rw[List.length_append];exact Nat.le_refl _) hn) T⟩
end
structure RE(cx:Cx) (D:Addr) (w:Wd) (done:List PV) (ps:List (Tx×PV)) (kvs:List (Str×Value)):Prop where
 e:FP done=some ps
 d:w.h.DictOf (strKind cx.prog cx.w) D kvs
 len:kvs.length<=done.length
 sh:b9∉ps.map (·.1)
 r:(ps.map (·.1)).Nodup->kvs.map (·.1)=ps.map (fun p=>tx p.1)/\bh w.G (kvs.map (·.2)) (ps.map (·.2))
noncomputable def xH(cx:Cx):Acc:=fun D w done=>∃ps kvs,RE cx D w done ps kvs
theorem Dk{k:Tx}{d:PV}{l:List PV}:∀{ps:List (Tx×PV)},FP l=some ps->FP (l++[.tup [.str k,d]])=some (ps++[(k,d)]):=by
 induction l with
 |nil=>exact fun e=>by(injection e with e;subst e);rfl
 |cons x l ih =>
  intro ps e
  have key:∀o:Option (Tx×PV),(match o with| some p=>(FP l).map (p::·)|none=>none)=some ps->(match o with| some p=>(FP (l++[.tup [.str k,d]])).map (p::·)|none=>none)=some (ps++[(k,d)]):=fun o e=>by
   induction o with
   |none=>injection e
   |some p =>
    obtain⟨qs,h,rfl⟩:=Option.map_eq_some_iff.mp e
    exact congrArg (Option.map (p::·)) (ih h)
  exact key (M5 x) e
section
variable {cx:Cx}{nm:Nat->Option Str}{w w' w0 w1:Wd}{K:Kx}{g:Gm}{v u:Value}{A:Around}{l:List Env}{E:Value->Shared->Prop}{d:PV}{ds done items:List PV}{I D:Addr}{B:Acc}{x:Str}{ix:Nat}{P:R (List PV)->Prop}{f:PV->aB->R (Option PV)}{W W':Addr->Prop}{nd:Node}{o:FO}{us:List Value}{scope:Scope}{px pos:Pos}{iter:Expr}
theorem tZ{fr:List Addr}(hD:D∉fr) (y:Ev cx fr W w w') (p:iz cx w D) (h:¬W D):xH cx D w done->xH cx D w' done
 |⟨ps,kvs,a⟩=>⟨ps,kvs,a.e,a.d.at (y.obj p hD h),a.len,a.sh,fun n=>⟨(a.r n).1,(a.r n).2.mono y.sub⟩⟩
theorem zg{kx vx:Expr}{sc':Scope}{kk kv:Kv}{Rr:Result->Shared->Prop}(F:CF cx K w0 I D (xH cx)) (V:fP K x ix) (hx:K.env.kindOf x=some .local) (hk:SE cx K kx kk) (hv:SE cx K vx kv)
  (hP:P Option.none->False) (J:CJ cx K w0 I D (xH cx) (g.set ix none) ds [] w) (T:P (turns (ow ix kk kv g) ds w.st)) (hR:∀done w',CE cx K w0 D (xH cx) (g.set ix none) done w'->done.length<=lim->P (ok done w'.st)->Rr (.ok .next) w'.s) :
  codeAny (model cx.prog cx.w) K.A (.compLoop (.DictComp kx vx [⟨.Name x px,iter,[],0⟩] sc' pos) 0 (.ref I) (.ref D) K.env) Rr w.s:=by
 refine codeAny_compLoop_testsD (LI cx K w0 I D (xH cx) (g.set ix none) P (ow ix kk kv g)) (fun n s L=>?_) ds.length ⟨ds,[],w,rfl,rfl,J,by
  have:(fun(l:List PV) st=>ok ([]++l) st)=ok:=rfl
  rw[this]
  cases h:turns (ow ix kk kv g) ds w.st with
  |none=>rw[h] at T;exact(hP T).elim
  |some z=>rw[h] at T;induction z<;>exact T⟩
 obtain⟨ds,done,w,rfl,rfl,J,T⟩:=L
 refine J.turn F V hx (fun s' e C=>?_) fun d Cu s' e J1 hn=>wpAny_tests_nil ?_
 ·subst e;exact hR done (w.at s') C (Nat.le_trans (Nat.le_add_right ..) J.len) (by rw[<-List.append_nil done];exact T)
 ·subst e
  rw[if_pos rfl]
  rw[q7] at T
  unfold ow at T
  rw[lK] at T
  refine(hk _ _ J1.c.at').bn hP T fun b c w3 e3 rk T=>?_
  rw[lK] at T
  refine(hv _ _ (J1.c.at'.ev e3)).bn hP T fun a v w4 e4 rv T=>?_
  rw[lK] at T
  refine bT.NQ (l:=K.l) e4.inv rv hP T fun d' G' st' e5 rd T=>?_
  induction b with
  |r=>exact(hP T).elim
  |t b=>cases b with
   |str kt =>
    cases rk with
    |ref _ q=>cases q
    |str _ tk _ =>
    by_cases hs:kt=[115,104,97,114,101,100]
    ·rw[Jw,if_pos hs] at T;exact(hP T).elim
    ·rw[Jw,if_neg hs] at T
     refine qo hP T fun st2 e T=>?_
     have Dj:=(e3.trans e4).trans e5
     obtain⟨ps,kvs,a⟩:=tZ F.nD.fr Dj J1.c.pD (fun q=>q) J1.c.acc
     refine wpAny_dictSet_pairs (knd:=strKind cx.prog cx.w) (k:=tx kt) (hsz:=Nat.le_trans a.len (Nat.le_trans (by omega:done.length<=lim) (by decide))) (strKind_is _ _ _ _) a.d fun h6 RC RD=>?_
     exact⟨Cu.length,Nat.lt_succ_self _,.mk Cu (done++[PV.tup [PV.str kt,d']]) _ rfl rfl (J1.next (w':=⟨G',w4.as,st',{ w4.s with heap:=h6,toks:=w4.s.toks+1 }⟩) F ((Dj.wide fun _ q=>q.elim).trans (e5.inv.dQ (w:=⟨G',w4.as,st',w4.s⟩) (J1.c.pD.ev Dj) RD rfl rfl)) e
      ⟨ps++[(kt,d')],stored kvs (tx kt) v,Dk a.e,RC,by rw[List.length_append];exact Nat.le_trans (stored_length_le ..) (Nat.succ_le_succ a.len),fun q=>by
       rw[List.map_append] at q
       rcases List.mem_append.mp q with q|q
       ·exact a.sh q
       ·exact hs (List.mem_singleton.mp q).symm,fun n=>by
       rw[List.map_append] at n
       have JQ:=List.nodup_append.mp n;have n1:=JQ.1;have n3:=JQ.2.2
       have Mp:=a.r n1;have r1:=Mp.1;have r2:=Mp.2
       have nk:tx kt∉kvs.map (·.1):=fun q=>by
        rw[r1] at q
        obtain⟨p,NR⟩:=List.mem_map.mp q;have hp:=NR.1;have he:=NR.2
        exact n3 p.1 (List.mem_map_of_mem hp) kt (.head _) (kh he)
       rw[stored_new nk,List.map_append,List.map_append,List.map_append,List.map_append,r1]
       exact⟨rfl,r2.append (.cons rd .nil)⟩⟩ (by rw[List.length_append];exact Nat.le_refl _) hn) T⟩
   |_=>exact(hP T).elim
theorem oG{e:Expr}{Dl:Sem Value}{RR:Value->Addr->Result->Shared->Prop}(hs:sysModules<cx.cX) (hh:K.A.handled=none) (X:At cx K g w) (O:g7 K scope x ix) (it:Mm cx v items w)
  (Bp:∀(w':Wd) (Q:Value->Shared->Prop),(∀ob,B w'.n (w'.at { w'.s with heap:=w'.h.push ob }) []->Q (.ref w'.n) { w'.s with heap:=w'.h.push ob })->wpAny (model cx.prog cx.w) K.A Dl Q E w'.s)
  (mono:∀{D:Addr}{w w':Wd}{W:Addr->Prop}{done:List PV},D∉ek K.l->Ev cx (ek K.l) W w w'->iz cx w D->¬W D->B D w done->B D w' done)
  (NS:∀I D C s4,CF cx (ju K scope x ix C) w I D B->CJ cx (ju K scope x ix C) w I D B (g.set ix none) items [] (w.at s4)->codeAny (model cx.prog cx.w) K.A (.compStart e 0 (.ref I) (.ref D) (compEnvC scope (i9 scope K.env) C K.env)) (RR (.ref D) C) s4) :
  wpAny (model cx.prog cx.w) K.A (pyIter v) (fun it wW=>wpAny (model cx.prog cx.w) K.A Dl (fun acc Kd=>wpAny (model cx.prog cx.w) K.A (newFunctionEnv scope K.env.globals (i9 scope K.env) [] K.env.qual none .none (some K.env)) (fun NT RG =>
    codeAny (model cx.prog cx.w) K.A (.compStart e 0 it acc { NT with scope:=relabel scope K.env }) (RR acc NT.locals) RG) E Kd) E wW) E w.s:=by
 refine it.iter hs X.inv fun yM RH=>?_
 have e2:iA cx K.l w (w.at { w.s with heap:=w.h.push yM }):=iP.push.ev X.inv
 refine Bp (w.at { w.s with heap:=w.h.push yM }) _ fun GA acc=>?_
 have e3:iA cx K.l (w.at { w.s with heap:=w.h.push yM }) (w.at { w.s with heap:=(w.h.push yM).push GA }):=iP.push.ev e2.inv
 refine wpAny_newFunctionEnv O.qZ (fun _ h=>nomatch h) (fun h4 hn NU=>?_) O.kind
 have e4:iA cx K.l (w.at { w.s with heap:=(w.h.push yM).push GA }) (w.at { w.s with heap:=h4,toks:=w.s.toks+0 }) :=
  e3.inv.keeps (fun b o q=>(NU.2 b (Nat.ne_of_lt (Heap.lt_size q))).trans (Heap.get?_push_of_some _ q)) rfl rfl (by rw[NU.1];exact Nat.le_trans (Nat.le_succ _) (Nat.le_of_eq (Heap.size_push ..).symm))
 have z1:(w.h.push yM).objs.size=w.n+1:=Heap.size_push ..
 have z2:((w.h.push yM).push GA).objs.size=w.n+2:=(Heap.size_push ..).trans (congrArg Nat.succ z1)
 have p1:=iz.new (ob:=yM) X.inv
 have p2:=iz.new (ob:=GA) e2.inv
 have hC:iz cx (w.at { w.s with heap:=h4,toks:=w.s.toks+0 }) ((w.h.push yM).push GA).objs.size :=
  ⟨Nat.le_trans X.inv.ge (by rw[z2];exact Nat.le_add_right ..),by show _<h4.objs.size;rw[NU.1];exact Nat.lt_of_lt_of_le (Nat.lt_succ_self _) (Nat.le_of_eq (Heap.size_push ..).symm),X.inv.rel.mu (by show w.n<=_;rw[z2];exact Nat.le_add_right ..)⟩
 have lc:∀y c,K.env.cells.lookup y=some c->c<w.n:=fun y c q=>(X.eo.cell y c q).dQ.lt
 have fresh:∀a,w.n<=a->a<w.n+2->nj (ju K scope x ix ((w.h.push yM).push GA).objs.size) a:=fun a h1 h2 =>
  ⟨X.fr.fresh h1,fun q=>by rw[show a=((w.h.push yM).push GA).objs.size from q,z2] at h2;exact Nat.lt_irrefl _ h2,fun y c q z=>Nat.not_lt.mpr h1 (z▸lc y c (O.up X.eo q))⟩
 have n1:(w.at { w.s with heap:=w.h.push yM }).n=w.n+1:=z1
 have Qm:=e3.trans e4
 have hD:w.n∉ek K.l:=X.fr.fresh (Nat.le_refl _)
 have Uo:(w.at { w.s with heap:=w.h.push yM }).n∉ek K.l:=X.fr.fresh (by rw[n1];exact Nat.le_succ _)
 refine NS w.n (w.at { w.s with heap:=w.h.push yM }).n _ _ ⟨hh,fresh _ (Nat.le_refl _) (by omega),fresh _ (by rw[n1];exact Nat.le_succ _) (by rw[n1];omega),by rw[n1];exact Nat.ne_of_lt (Nat.lt_succ_self _),Nat.le_refl _,by rw[n1];exact Nat.le_succ _,
  by show w.n<=((w.h.push yM).push GA).objs.size;rw[z2];exact Nat.le_add_right ..,fun a q=>(X.fr.at' a q).lt,fun y p n b=>mono Uo y p n b⟩
  ⟨⟨At.comp O ((X.ev e2).ev Qm) hC ⟨_,hn⟩ fun y c q z=>?_,e2.trans Qm,p2.ev e4,mono Uo e4 p2 (fun q=>q) acc⟩,RH.mv Qm p1 hD fun q=>q,p1.ev Qm,by rw[List.length_nil,Nat.zero_add];exact it.lim⟩
 refine Nat.not_lt.mpr ?_ (lc y c q)
 show w.n<=c
 rw[z]
 show w.n<=((w.h.push yM).push GA).objs.size
 rw[z2]
 exact Nat.le_add_right ..
structure NV(cx:Cx) (l:List Env) (w0 w:Wd) (C:Addr):Prop where
 ev:iA cx l w0 w
 pC:iz cx w C
 ns:∃m,w.h.Ns C m
theorem CE.fin(F:CF cx K w0 I D B) (c:CE cx K w0 D B g done w) (e:Cq nd=some d) (i:Is cx w.h D o) (lv:∃o,w.h.get? D=some o) (q:Sh o d us ds) (r:bh w.G us ds):NV cx K.l w0 (w.push (D,0) nd w.s) K.env.locals where
 ev:=c.at'.inv.adopt c.pD (Heap.SameBut.refl ..) rfl rfl e i lv q r (c.ev.wide fun _ q=>q.elim) F.hD
 pC:=⟨c.at'.eo.dQ.ge,c.at'.eo.dQ.lt,(cE fun q=>F.nD.loc (List.mem_singleton.mp (qO (p:=(D,0)) e▸q)).symm).trans c.at'.eo.dQ.out⟩
 ns:=c.at'.eo.ns
inductive NW(cx:Cx) (w:Wd) (D:Addr) (nd:Node):Prop
 |mk (d:PV) (o:FO) (us:List Value) (ds:List PV) (e:Cq nd=some d) (i:Is cx w.h D o) (lv:∃o,w.h.get? D=some o) (q:Sh o d us ds) (r:bh w.G us ds)
theorem t6(hl:done.length<=lim):vn D w done->NW cx w D (.lst done)
 |⟨us,⟨n,e⟩,r⟩=>.mk _ (.lst us n) us done rfl e ⟨_,e⟩ (.lst hl) r
theorem Bq{ps:List (Tx×PV)}(hl:done.length<=lim) (e:FP done=some ps) (n:(ps.map (·.1)).Nodup):xH cx D w done->NW cx w D (.aK ps)
 |⟨ps',kvs,a⟩=>by
  injection a.e.symm.trans e with zx;subst zx
  obtain⟨r1,r2⟩:=a.r n
  obtain⟨ep,di⟩:=a.d.dictAt
  refine .mk _ (.dS kvs ep) _ _ rfl di (let⟨_,_,e,_⟩:=di;⟨_,e⟩) (.dS ?_ r1 fun q=>?_) r2
  ·rw[<-List.length_map (f:=fun p:Tx×PV=>tx p.1),<-r1,List.length_map];exact Nat.le_trans a.len hl
  ·rw[r1] at q
   obtain⟨p,hp,he⟩:=List.mem_map.mp q
   exact a.sh (List.mem_map.mpr ⟨p,hp,lF he⟩)
theorem SE.comp{elt:Expr}{ifs:List Expr}{k:Gm->aB->R (List PV)}{kt:Gm->aB->R Bool}{ke:Kv}(B:Base cx nm) (hh:K.A.handled=none) (O:g7 K scope x ix) (hs:∀y,foldedSetIterable iter K.env y=pure y)
  (h1:Src cx K iter k) (ht:∀C,Fq cx (ju K scope x ix C) ifs kt) (he:∀C,SE cx (ju K scope x ix C) elt ke):SE cx K (.ListComp elt [⟨.Name x px,iter,ifs,0⟩] scope pos) (qE k (jq ix kt ke)):=fun g w X Q E T=>by
 rw[eval_ListComp]
 refine wpAny_comprehension_free (use:=none) rfl hs (gH (O.has X.eo)) O.kind O.locals ((h1 g w X).step T fun items v w1 e1 it T=>?_)
 refine oG (RR:=fun acc C=>compPost (model cx.prog cx.w) K.A E none Q acc C) (B:=vn) B.sys hh (X.ev e1) O it (fun w' Q h=>wpAny_newList (h _ ⟨[],⟨_,Heap.get?_push_size _ rfl⟩,.nil⟩)) (fun hD y p n b=>lM hD y p n b) fun I D C s4 F J=>?_
 have loop:=tY (elt:=elt) (iter:=iter) (px:=px) (pos:=pos) (sc':=scope) (Rr:=compPost (model cx.prog cx.w) K.A E none Q (.ref D) C) (P:=fun r=>bT cx K.l w1 (r.bind fun l st=>alloc st (.lst l)) cG Q E) F O.RB (by show Env.kindOf (compEnvC ..) x=_;rw[gw,O.NP];rfl) (ht C) (he C) (fun T=>T.no) J T fun done w' c hl T=>by
  induction t6 (cx:=cx) hl c.acc with
  |mk d o us ds e i lv q r =>
   obtain⟨ev,pC,m,hm⟩:=c.fin F e i lv q r
   exact⟨m,hm,fun h' ID=>T.ok _ _ ((w'.push (D,0) (.lst done) w'.s).at { w'.s with heap:=h' }) rfl (ev.over (ev.inv.dQ (fr:=ek K.l) pC ID rfl rfl) (fun a q=>.inl (q▸F.hC)) F.lim) (.mk _ (gq c.at'.inv.rel.len.symm) rfl)⟩
 exact codeAny_compStart_list loop (J.it.self loop)
end
noncomputable def Dm(env:Env) (a:Addr):Prop:=a=env.locals\/∃x,env.cells.lookup x=some a
abbrev Dn(cx:Cx) (K:Kx) (w w':Wd):Prop:=Ev cx (ek K.l) (Dm K.env) w w'
structure gO(cx:Cx) (K:Kx) (w:Wd) (r:Option Out) (Q:Flow->Shared->Prop) (E:Value->Shared->Prop):Prop where
 ne:r≠none
 next:∀(g:Gm) (w':Wd),r=some (.next g w'.st)->Dn cx K w w'->At cx K g w'->Q .next w'.s
 cont:∀(g:Gm) (w':Wd),r=some (.cont g w'.st)->Dn cx K w w'->At cx K g w'->Q .cont w'.s
 ret:∀(a:AV) (v:Value) (g:Gm) (w':Wd),r=some (.ret a w'.st)->Dn cx K w w'->At cx K g w'->cO w'.G w'.as v a->Q (.ret v) w'.s
 exc:∀(m:Tx) (e:Value) (g:Gm) (w':Wd),r=some (.exc m w'.st)->Dn cx K w w'->At cx K g w'->xw cx K.l w.n w' e m->E e w'.s
noncomputable def jH(cx:Cx) (K:Kx) (x:Stmt) (f:Ks):Prop:=∀g w,At cx K g w->∀Q E,gO cx K w (f g w.st) Q E->wpAny (model cx.prog cx.w) K.A (exec x K.env) Q E w.s
noncomputable def sV(cx:Cx) (K:Kx) (x:List Stmt) (f:Ks):Prop:=∀g w,At cx K g w->∀Q E,gO cx K w (f g w.st) Q E->wpAny (model cx.prog cx.w) K.A (execs x K.env) Q E w.s
section
variable {cx:Cx}{nm:Nat->Option Str}{w w' w0 w1:Wd}{K:Kx}{g g':Gm}{v u:Value}{a:AV}{Q:Flow->Shared->Prop}{E:Value->Shared->Prop}{d:PV}{r:Option Out}{x y:Str}{i ix:Nat}{e:Expr}{f:Kv}{px py pos oH:Pos}{F G:Ks}{scope:Scope}{iter:Expr}{W:Addr->Prop}
theorem gO.no{p:Prop}(T:gO cx K w none Q E):p:=absurd rfl T.ne
theorem gO.later(T:gO cx K w r Q E) (ev:Dn cx K w w'):gO cx K w' r Q E :=
 ⟨T.ne,fun g w1 e y=>T.next g w1 e (ev.trans y),fun g w1 e y=>T.cont g w1 e (ev.trans y),fun a v g w1 e y=>T.ret a v g w1 e (ev.trans y),fun m e g w1 q y X z=>T.exc m e g w1 q (ev.trans y) X (z.mono ev.size)⟩
theorem Ev.oJ{fr:List Addr}(y:Ev cx fr om w w'):Ev cx fr W w w':=y.wide fun _ q=>q.elim
theorem Wp.oJ{α β:Type}{x:Sem α}{r:R β}{k:β->aB->Option Out}{Rel:α->β->Wd->Prop}{Q0:α->Shared->Prop}(hx:Wp cx K.A K.l w x r Rel) (X:At cx K g w) (T:gO cx K w (r.out k) Q E)
  (go:∀b a w',iA cx K.l w w'->At cx K g w'->Rel a b w'->gO cx K w' (k b w'.st) Q E->Q0 a w'.s):wpAny (model cx.prog cx.w) K.A x Q0 E w.s :=
 hx Q0 E ⟨fun e=>T.ne (by rw[e];rfl),fun b a w' e ev rel=>go b a w' ev (X.ev ev) rel (by subst e;exact gO.later T ev.oJ),fun m e w' q ev z=>by subst q;exact T.exc m e g w' rfl ev.oJ (X.ev ev) z.toS⟩
theorem gO.done(T:gO cx K w (some (.next g w.st)) Q E) (X:At cx K g w):Q .next w.s:=T.next g w rfl (.refl X.inv) X
theorem gO.oB{γ:Type}{o:Option γ}{k:γ->Option Out}(T:gO cx K w (Mine.oB o k) Q E){p:Prop}(h:∀c,o=some c->gO cx K w (k c) Q E->p):p:=by
 induction o with
 |none=>exact T.no
 |some c=>exact h c rfl T
theorem q8{α β:Type}{r:R α}{p:α->aB->R β}{q:β->aB->Option Out}:(r.bind p).out q=r.out fun a st=>(p a st).out q:=by
 induction r with
 |none=>rfl
 |some z=>induction z<;>rfl
theorem jH.bad{x:Stmt}:jH cx K x fun _ _=>none:=fun _ _ _ _ _ T=>T.no
theorem sV.nil:sV cx K [] fun g st=>some (.next g st):=fun _ _ X _ _ T=>wpAny_execs_nil (T.done X)
theorem sV.cons{x:Stmt}{xs:List Stmt}(h1:jH cx K x F) (h2:sV cx K xs G):sV cx K (x::xs) (Jy F G):=fun g w X Q E T=>by
 unfold Jy at T
 refine wpAny_execs_cons (h1 g w X _ _ ⟨fun q=>T.ne (by rw[q]),fun g1 w1 e ev X1=>?_,fun g1 w1 e ev X1=>?_,fun a v g1 w1 e ev X1 r=>?_,fun m u g1 w1 e ev X1 q=>?_⟩)
 ·rw[e] at T;exact h2 g1 w1 X1 Q E (T.later ev)
 ·rw[e] at T;exact T.cont g1 w1 rfl ev X1
 ·rw[e] at T;exact T.ret a v g1 w1 rfl ev X1 r
 ·rw[e] at T;exact T.exc m u g1 w1 rfl ev X1 q
theorem oM{Q0:Unit->Shared->Prop}(X:At cx K g w) (V:fP K x i) (r:cO w.G w.as v a) (h:∀s',Dn cx K w (w.at s')->At cx K (g.set i (some a)) (w.at s')->Q0 () s'):wpAny (model cx.prog cx.w) K.A (storeName K.env x v) Q0 E w.s :=
 qM X V r fun b s' hb ev X'=>h s' (ev.wide fun c q=>by
  induction hb with
  |loc _ e=>exact .inl (q.trans e)
  |cell _ e=>exact .inr ⟨x,q▸e⟩) X'
theorem jH.assign(hs:swapsWith e (some (.Name x px)) pos.line K.env=pure false) (V:fP K x i) (h:SE cx K e f):jH cx K (.Assign [.Name x px] e pos) (iy i f):=fun g w X Q E T =>
 wpAny_Assign_Name ((h g w X).oJ X T fun _ _ _ _ X1 r T=>oM X1 V r fun s' ev X2=>T.next _ (Wd.at _ s') rfl ev X2) hs
theorem jH.ret(h:SE cx K e f):jH cx K (.Return (some e) pos) (Nj f):=fun g w X Q E T=>wpAny_Return_some ((h g w X).oJ X T fun a v w1 _ X1 r T=>T.ret a v g w1 rfl (.refl X1.inv) X1 r)
theorem jH.FH:jH cx K (.Return none pos) fun _ st=>some (.ret (.t .none) st):=fun g w X Q E T=>wpAny_Return_none (T.ret _ .none g w rfl (.refl X.inv) X Rep.none)
theorem jH.cont:jH cx K (.Continue pos) fun g st=>some (.cont g st):=fun g w X Q E T=>wpAny_Continue (T.cont g w rfl (.refl X.inv) X)
theorem jH.expr(hi:interactive K.env=false) (hs:swapsWith e none pos.line K.env=pure false) (h:SE cx K e f):jH cx K (.Expr e pos) (Ir f):=fun g w X Q E T=>wpAny_Expr_any ((h g w X).oJ X T fun _ _ _ _ X1 _ T=>T.done X1) hi hs
theorem jH.ifs{xs ys:List Stmt}(h:ST cx K e f) (h1:sV cx K xs F) (h2:sV cx K ys G):jH cx K (.If e xs ys pos) (F1 f F G):=fun g w X Q E T=>by
 have e0:F1 f F G g w.st=(k1 eV f g w.st).out fun b st=>gm (some b) (F g st) (G g st):=by
  unfold k1
  rw[q8]
  unfold F1
  refine congrArg _ (funext fun a=>funext fun st=>?_)
  unfold eV
  cases cT st a<;>rfl
 rw[e0] at T
 refine wpAny_If ((h g w X).oJ X T fun b c w1 _ X1 r T=>?_)
 cases r
 cases b with
 |true=>exact h1 g w1 X1 Q E T
 |false=>exact h2 g w1 X1 Q E T
theorem t7{D C:Addr}{n:Nat}{j:Nat}(X:At cx K g w0) (z:NV cx K.l w0 w C) (V:fP K y j) (hC:w0.n<=C) (r:cO w.G w.as (.ref D) (.r n)) (T:gO cx K w0 (some (.next (g.set j (some (.r n))) w.st)) Q E) :
  wpAny (model cx.prog cx.w) K.A (assign (.Name y py) K.env (.ref D)) (fun _ NX=>∃m,NX.heap.Ns C m/\∀h',Heap.SameBut C NX.heap h'->Q .next { NX with heap:=h' }) E w.s:=by
 have fC:nj K C:=⟨X.fr.fresh hC,fun q=>Nat.not_lt.mpr hC (q▸X.eo.dQ.lt),fun y c e q=>Nat.not_lt.mpr hC (q▸(X.eo.cell y c e).dQ.lt)⟩
 obtain⟨m,hm⟩:=z.ns
 refine wpAny_assign_Name (qM (X.ev z.ev) V r fun b s3 hb II X3=>?_)
 have nb:C≠b:=by
  induction hb with
  |loc _ e=>exact e▸fC.loc
  |cell _ e=>exact(fC.cell _ _ e).symm
 have pC:=z.pC.ev II
 have ev:Dn cx K w0 (w.at s3):=z.ev.oJ.trans (II.wide fun c q=>by
  induction hb with
  |loc _ e=>exact .inl (q.trans e)
  |cell _ e=>exact .inr ⟨y,q▸e⟩)
 refine⟨m,xx II z.pC nb hm,fun h4 NU=>?_⟩
 have Mq:=X3.inv.dQ (fr:=ek K.l) (s':={ s3 with heap:=h4 }) pC NU rfl rfl
 exact T.next _ ((w.at s3).at { s3 with heap:=h4 }) rfl (ev.over Mq (fun a q=>.inl (q▸hC)) fun a q=>(X.fr.at' a q).lt) (X3.Bb Mq fun a q=>q▸fC)
theorem jH.zh{elt:Expr}{ifs:List Expr}{k:Gm->aB->R (List PV)}{kt:Gm->aB->R Bool}{ke:Kv}{j:Nat}(B:Base cx nm) (hh:K.A.handled=none) (O:g7 K scope x ix) (hf:∀y,foldedSetIterable iter K.env y=pure y)
  (hs:swapsWith (.ListComp elt [⟨.Name x px,iter,ifs,0⟩] scope oH) (some (.Name y py)) pos.line K.env=pure true) (V:fP K y j)
  (h1:Src cx K iter k) (ht:∀C,Fq cx (ju K scope x ix C) ifs kt) (he:∀C,SE cx (ju K scope x ix C) elt ke):jH cx K (.Assign [.Name y py] (.ListComp elt [⟨.Name x px,iter,ifs,0⟩] scope oH) pos) (iy j (qE k (jq ix kt ke))):=fun g w X Q E T=>by
 unfold iy qE at T
 rw[q8] at T
 rw[exec_Assign_Name_used _ _ _ _ hs]
 refine wpAny_bind (wpAny_standAt (wpAny_bind ?_))
 show wpAny _ K.A (do let _ <-comprehension (.ListComp elt [⟨.Name x px,iter,ifs,0⟩] scope oH) scope K.env _ (newList []) false (eval iter K.env) (some (PySem.assign (.Name y py) K.env))) _ _ w.s
 refine wpAny_bind (wpAny_mono (wpAny_comprehension_free (use:=some (PySem.assign (.Name y py) K.env)) (Q:=fun _ s'=>Q .next s') rfl hf (gH (O.has X.eo)) O.kind O.locals ((h1 g w X).oJ X T fun items v w1 e1 X1 it T=>?_)) (fun _ s' hq=>wpAny_pure (wpAny_pure hq)) fun _ _ e=>e)
 refine oG (RR:=fun acc C=>compPost (model cx.prog cx.w) K.A E (some (PySem.assign (.Name y py) K.env)) (fun _ s'=>Q .next s') acc C) (B:=vn) B.sys hh X1 O it (fun w' Q h=>wpAny_newList (h _ ⟨[],⟨_,Heap.get?_push_size _ rfl⟩,.nil⟩)) (fun hD y p n b=>lM hD y p n b) fun I D C s4 F J=>?_
 have loop:=tY (elt:=elt) (iter:=iter) (px:=px) (pos:=oH) (sc':=scope) (Rr:=compPost (model cx.prog cx.w) K.A E (some (PySem.assign (.Name y py) K.env)) (fun _ s'=>Q .next s') (.ref D) C) (P:=fun r=>gO cx K w1 ((r.bind fun l st=>alloc st (.lst l)).out fun a st=>some (.next (g.set j (some a)) st)) Q E) F O.RB (by show Env.kindOf (compEnvC ..) x=_;rw[gw,O.NP];rfl) (ht C) (he C) (fun T=>T.no) J T fun done w' c hl T=>by
  induction t6 (cx:=cx) hl c.acc with
  |mk d o us ds e i lv q r=>exact t7 (w:=w'.push (D,0) (.lst done) w'.s) X1 (c.fin F e i lv q r) V F.hC (.mk _ (gq c.at'.inv.rel.len.symm) rfl) T
 exact codeAny_compStart_list loop (J.it.self loop)
theorem jH.xJ{kx vx:Expr}{k:Gm->aB->R (List PV)}{kk kv:Kv}{j:Nat}(B:Base cx nm) (hh:K.A.handled=none) (O:g7 K scope x ix) (hf:∀y,foldedSetIterable iter K.env y=pure y)
  (hs:swapsWith (.DictComp kx vx [⟨.Name x px,iter,[],0⟩] scope oH) (some (.Name y py)) pos.line K.env=pure true) (V:fP K y j)
  (h1:Src cx K iter k) (hk:∀C,SE cx (ju K scope x ix C) kx kk) (hv:∀C,SE cx (ju K scope x ix C) vx kv):jH cx K (.Assign [.Name y py] (.DictComp kx vx [⟨.Name x px,iter,[],0⟩] scope oH) pos) (iy j (yW k (ow ix kk kv))):=fun g w X Q E T=>by
 unfold iy yW at T
 rw[q8] at T
 rw[exec_Assign_Name_used _ _ _ _ hs]
 refine wpAny_bind (wpAny_standAt (wpAny_bind ?_))
 show wpAny _ K.A (do let _ <-comprehension (.DictComp kx vx [⟨.Name x px,iter,[],0⟩] scope oH) scope K.env _ newDict false (eval iter K.env) (some (PySem.assign (.Name y py) K.env))) _ _ w.s
 refine wpAny_bind (wpAny_mono (wpAny_comprehension_free (use:=some (PySem.assign (.Name y py) K.env)) (Q:=fun _ s'=>Q .next s') rfl hf (gH (O.has X.eo)) O.kind O.locals ((h1 g w X).oJ X T fun items v w1 e1 X1 it T=>?_)) (fun _ s' hq=>wpAny_pure (wpAny_pure hq)) fun _ _ e=>e)
 refine oG (RR:=fun acc C=>compPost (model cx.prog cx.w) K.A E (some (PySem.assign (.Name y py) K.env)) (fun _ s'=>Q .next s') acc C) (B:=xH cx) B.sys hh X1 O it (fun w' Q h=>?_) (fun hD y p n b=>tZ hD y p n b) fun I D C s4 F J=>?_
 ·simp only[newDict,newObj]
  exact wpAny_bind (wpAny_alloc (wpAny_pure (h _ ⟨[],[],rfl,Heap.DictOf.new _,Nat.le_refl _,List.not_mem_nil,fun _=>⟨rfl,.nil⟩⟩)))
 have loop:=zg (iter:=iter) (px:=px) (pos:=oH) (sc':=scope) (Rr:=compPost (model cx.prog cx.w) K.A E (some (PySem.assign (.Name y py) K.env)) (fun _ s'=>Q .next s') (.ref D) C) (P:=fun r=>gO cx K w1 ((r.bind FY).out fun a st=>some (.next (g.set j (some a)) st)) Q E) F O.RB (by show Env.kindOf (compEnvC ..) x=_;rw[gw,O.NP];rfl) (hk C) (hv C) (fun T=>T.no) J T fun done w' c hl T=>by
  have T:gO cx K w1 (R.out (FY done w'.st) fun a st=>some (.next (g.set j (some a)) st)) Q E:=T
  unfold FY at T
  cases hp:FP done with
  |none=>rw[hp] at T;exact T.no
  |some ps =>
   rw[hp] at T
   by_cases hn:(ps.map (·.1)).Nodup
   ·unfold oB at T
    dsimp only at T
    rw[if_pos hn] at T
    induction Bq hl hp hn c.acc with
    |mk d o us ds e i lv q r=>exact t7 (w:=w'.push (D,0) (.aK ps) w'.s) X1 (c.fin F e i lv q r) V F.hC (.mk _ (gq c.at'.inv.rel.len.symm) rfl) T
   ·unfold oB at T
    dsimp only at T
    rw[if_neg hn] at T;exact T.no
 exact codeAny_compStart_dict loop (J.it.self loop)
end
theorem q9:∀f∈fh,tx f∈fieldNames:=by decide
theorem jI:tx b9=fc:=by decide
section
variable {cx:Cx}{nm:Nat->Option Str}{w w':Wd}{K:Kx}{g:Gm}{v u:Value}{a b:AV}{A:Around}{E:Value->Shared->Prop}{d:PV}{i:Nat}{p:Pl}{nd nd':Node}{fr:List Addr}{W:Addr->Prop}{s':Shared}{c:Addr}{x dx C:Addr}{m:Str->Option Value}{f:Tx}{h h':Heap}{cl:gZ}{gs:List (Tx×Value)}{fs:List (Tx×AV)}{G:Addr->Lg}{as:List Pl}{st':aB}
theorem Inv.RI(I:Inv cx w) (e1:w.as[i]? = some p) (e2:w.st[i]? = some nd) (ho:∀a∈own nd' p,a∈own nd p) (hc:c∈own nd p) (hs:Heap.ExtBut c w.h s'.heap) (hz:w.n<=s'.heap.objs.size) (h1:s'.os=w.s.os) (h2:s'.gens=w.s.gens)
  (lv:∃o,s'.heap.get? c=some o) (r:gn cx w.G w.as s'.heap p nd') (hf:∀a∈fr,w.G a=.out):Ev cx fr W w ⟨w.G,w.as,w.st.set i nd',s'⟩:=by
 have ff:=I.rel.ff i p nd e1 e2 c hc
 have qJ:∀a,w.G a=.out->a≠c:=fun a h q=>by rw[q,ff] at h;injection h
 have hp:cx.cX<=c:=I.rel.lo _ (ff▸fun q=>by injection q)
 have same:∀a,a≠c->(∃o,w.h.get? a=some o)->s'.heap.get? a=w.h.get? a:=fun a q ⟨o,e⟩=>(hs a o q e).trans e.symm
 have nC:cx.P≠c:=Nat.ne_of_lt (Nat.lt_of_lt_of_le I.i8 hp)
 exact⟨⟨I.rel.set e1 e2 ho (fun a h g=>same a (fun q=>h (q▸hc)) (I.rel.live a g)) (fun a h=>by
   by_cases q:a=c
   ·exact q▸lv
   ·obtain⟨o,e⟩:=I.rel.live a (I.rel.ff i p nd e1 e2 a h▸fun q=>by injection q)
    exact⟨o,hs a o q e⟩) r,
  qL I.old hp hs,h1.trans I.os,h2.trans I.gens,I.lim.extBut hs (Nat.ne_of_lt (Nat.lt_of_lt_of_le I.low hp)),I.low,I.i8,Nat.le_trans I.ge hz,let⟨_,e,_,_⟩:=I.tab;kj.step (w:=w) (w':=⟨w.G,w.as,w.st.set i nd',s'⟩) (same _ nC ⟨_,e⟩) (fun _ _ q=>q) I.tab⟩,
  hz,fun a _ _ h _ _ o e=>hs a o (qJ a h) e,fun a h _ o e=>⟨o.slots,hs a o (qJ a (hf a h)) e⟩,fun _ _ q=>q,fun _ _ q=>q,fun _ _ q=>q⟩
theorem Ns1.unique{m m':Str->Option Value}(x:h.Ns1 dx m) (y:h.Ns1 dx m'):m=m':=Ns.unique x.ns y.ns
theorem mq.share(hi:gi h x dx C m) (Qn:gi h' x dx C fun y=>if y=fc then some v else m y) (hs:Heap.ExtBut dx h h'):mq cx h c dx cl gs->mq cx h' c dx cl gs
 |.mk m2 (.mk o2 e2 c2 nd2 hd2 ne2 n2 ed2 w2) sh f=>by
  obtain⟨o,e,cc,nd,hd,ne,n,ed,ww⟩:=hi
  obtain⟨_,_,_,_,_,_,n',ed',w'⟩:=Qn
  cases Ns1.unique n n2
  exact .mk _ (.mk o2 (hs _ _ ne2.symm e2) c2 nd2 hd2 ne2 n' ed' w') (fun _=>⟨v,if_pos rfl⟩) fun p hp=>⟨(f p hp).1,(if_neg (f p hp).1).trans (f p hp).2⟩
theorem Inv.shared(I:Inv cx w) (hd:w.G dx=.fz .pg) (hs:Heap.ExtBut dx w.h s'.heap) (hz:w.n<=s'.heap.objs.size) (h1:s'.os=w.s.os) (h2:s'.gens=w.s.gens) (lv:∃o,s'.heap.get? dx=some o)
  (hu:∀{c cl gs},mq cx w.h c dx cl gs->mq cx s'.heap c dx cl gs) (hf:∀a∈fr,w.G a=.out):Ev cx fr W w (w.at s'):=by
 have S:=I.rel
 have qJ:∀a,w.G a=.out->a≠dx:=fun a h q=>by rw[q,hd] at h;injection h
 have hp:cx.cX<=dx:=S.lo _ (hd▸fun q=>by injection q)
 have same:∀a,a≠dx->(∃o,w.h.get? a=some o)->s'.heap.get? a=w.h.get? a:=fun a q ⟨o,e⟩=>(hs a o q e).trans e.symm
 have k:∀a,a≠dx->w.G a≠.out->s'.heap.get? a=w.h.get? a:=fun a q g=>same a q (S.live a g)
 refine⟨⟨⟨S.len,fun i p nd e1 e2=>(S.nodes i p nd e1 e2).congr fun a ha=>?_,S.ff,fun a o e=>?_,S.pg,S.lo,fun a ha=>?_⟩,qL I.old hp hs,h1.trans I.os,h2.trans I.gens,I.lim.extBut hs (Nat.ne_of_lt (Nat.lt_of_lt_of_le I.low hp)),I.low,I.i8,Nat.le_trans I.ge hz,
  let⟨_,e,_,_⟩:=I.tab;I.tab.step (same _ (Nat.ne_of_lt (Nat.lt_of_lt_of_le I.i8 hp)) ⟨_,e⟩) fun _ _ q=>q⟩,hz,fun a _ _ h _ _ o e=>hs a o (qJ a h) e,fun a h _ o e=>⟨o.slots,hs a o (qJ a (hf a h)) e⟩,fun _ _ q=>q,fun _ _ q=>q,fun _ _ q=>q⟩
 ·have g:=S.ff i p nd e1 e2 a ha
  exact k a (fun q=>by rw[q,hd] at g;injection g) (g▸fun q=>by injection q)
 ·by_cases q:a=dx
  ·rw[q,hd] at e;(injection e with e;subst e);trivial
  ·have ka:=k a q (e▸fun q=>by injection q)
   by_cases z:∃c gs,o=.ins c dx gs
   ·obtain⟨c,gs,rfl⟩:=z;exact hu (S.fz a _ e)
   ·exact(S.fz a o e).congr ka fun c d gs y=>k d (fun q=>z ⟨c,gs,q▸y⟩) (S.pg a c d gs (y▸e)▸fun q=>by injection q)
 ·by_cases q:a=dx
  ·exact q▸lv
  ·exact(k a q ha).symm▸S.live a ha
theorem GB{o o':Obj}(h1:o.cls=o'.cls) (h2:o.dict=o'.dict) (h3:o.data=o'.data) (h4:o.slots=o'.slots):o=o':=congr (congr (congr (congrArg Obj.mk h1) h2) h3) h4
theorem mw{Q:Unit->Shared->Prop}(I:Inv cx w) (B:Base cx nm) (hf:f∈fh) (hi:gi w.h x dx (cx.cA cl) m)
  (hq:∀h' tk,gi h' x dx (cx.cA cl) (fun y=>if y=tx f then some v else m y)->Heap.ExtBut dx w.h h'->w.n<=h'.objs.size->Q () { w.s with heap:=h',toks:=tk }):wpAny (model cx.prog cx.w) A (setAttr (.ref x) (tx f) v) Q E w.s:=by
 obtain⟨N,mN,X⟩:=B.cls cl
 have hX:=OldK.cls I.old X
 obtain⟨o,hC,z⟩:=hX.obj
 induction z
 obtain⟨ox,ex,ec,nd,hd,ne,n,ed,ww⟩:=id hi
 have VK:x≠cx.cA cl:=fun q=>by
  rw[q,hC] at ex
  injection ex with ex;subst ex
  exact nd _ rfl
 refine er (store_attrFk PySem.F.store_object hC hX.ns X.sa (X.fields f hf) (kq f hf) VK hi.fk (fun h1 Dp hI hk NY hz=>?_) ww)
 obtain⟨VL,e1,c1,d1,s1,Dq⟩:=NY ox ex
 cases GB c1 ((Dq dx hd).trans hd.symm) d1 s1
 refine hq h1 Dp ?_ (fun b o hb e=>?_) hz
 ·obtain⟨o2,e2,c2,nd2,h2⟩:=hI
  injection e1.symm.trans e2 with zx;subst zx
  rcases h2 with⟨z,_⟩|⟨d,z1,z2,z3,z4⟩
  ·injection hd.symm.trans z
  ·injection hd.symm.trans z1 with zx;subst zx
   exact .mk _ e1 c2 nd2 hd z2 z3 z4 fun y hy=>by
    by_cases q:y=tx f
    ·exact q▸q9 f hf
    ·exact ww y (by rwa [if_neg q] at hy)
 ·by_cases q:b=x
  ·subst q;(injection ex.symm.trans e with zx;subst zx);exact e1
  ·exact hk b o q (fun VM YT e0 e2 z=>by
    injection ex.symm.trans e0 with zx;subst zx
    injection hd.symm.trans e2 with zx;subst zx
    exact hb z) e
theorem gi.live:gi h x dx C m->∃o,h.get? dx=some o
 |.mk _ _ _ _ _ _ ⟨o,_,_,e,_⟩ _ _=>⟨o,e⟩
theorem Dr{α:Type}{k:Tx}{v:α}{l:List (Tx×α)}{q:Tx×α}(h:q∈putK k v l):q=(k,v)\/(q∈l/\q.1≠k):=by
 unfold putK at h
 split at h
 ·obtain⟨p,hp,he⟩:=List.mem_map.mp h
  split at he
  ·rename_i e;left;rw[<-he,e]
  ·rename_i e;right;rw[<-he];exact⟨hp,e⟩
 ·rename_i hn
  rcases List.mem_append.mp h with h|h
  ·exact .inr ⟨h,fun e=>hn (List.any_eq_true.mpr ⟨q,h,decide_eq_true e⟩)⟩
  ·exact .inl (List.mem_singleton.mp h)
theorem oz.put(rv:cO G as v a) (r:oz G as gs fs):oz G as (putK f v gs) (putK f a fs):=by
 have map:oz G as (gs.map fun p=>if p.1=f then(p.1,v) else p) (fs.map fun p=>if p.1=f then(p.1,a) else p):=by
  induction r with
  |nil=>exact .nil
  |@cons k _ _ _ _ x _ ih =>
   by_cases h:k=f
   ·rw[List.map_cons,List.map_cons,if_pos h,if_pos h];exact .cons rv ih
   ·rw[List.map_cons,List.map_cons,if_neg h,if_neg h];exact .cons x ih
 have any:gs.any (fun p=>decide (p.1=f))=fs.any (fun p=>decide (p.1=f)):=by
  clear map
  induction r with
  |nil=>rfl
  |cons _ _ ih=>rw[List.any_cons,List.any_cons,ih]
 have app:∀{gs fs},oz G as gs fs->oz G as (gs++[(f,v)]) (fs++[(f,a)]):=fun r=>by
  induction r with
  |nil=>exact .cons rv .nil
  |cons x _ ih=>exact .cons x ih
 unfold putK
 rw[any]
 split
 ·exact map
 ·exact app r
theorem pH{Q:Unit->Shared->Prop}(I:Inv cx w) (B:Base cx nm) (ic:∀a∈fr,w.G a=.out) (hs:Nc d=true) (r:Rep w.G u d) (h:∀s',Ev cx fr om w (w.at s')->Q () s'):wpAny (model cx.prog cx.w) A (setAttr u (tx b9) v) Q E w.s:=by
 cases d with
 |inst c fs =>
  induction r.big rfl with| mk gx q r =>
  induction q.QX with| mk k =>
  have hd:=I.rel.pg _ _ _ _ gx
  induction I.rel.fz _ _ gx with| mk m i sh fm =>
  refine mw I B (by decide) i fun h' tk i' hs hz=>h _ ?_
  rw[jI] at i'
  exact I.shared (s':={ w.s with heap:=h',toks:=tk }) hd hs hz rfl rfl i'.live (fun z=>z.share i i' hs) ic
 |_=>injection hs
noncomputable def Ds(cx:Cx) (w:Wd) (f:Tx) (v:Value) (c c':gZ) (fs fs':List (Tx×AV)):Prop:=∀(gs:List (Tx×Value)) (m:Str->Option Value),oz w.G w.as gs fs->(c=.aQ->∃v,m fc=some v)->(∀p∈gs,tx p.1≠fc/\m (tx p.1)=some p.2) ->
 ∃RJ,oz w.G w.as RJ fs'/\(c'=.aQ->∃u,(if fc=tx f then some v else m fc)=some u)/\∀p∈RJ,tx p.1≠fc/\(if tx p.1=tx f then some v else m (tx p.1))=some p.2
theorem gn.QX{h:Heap}{as:List Pl}{c:gZ}{fs:List (Tx×AV)}(x:gn cx G as h p (.inst c fs)):∃gs,mq cx h p.1 p.2 c gs/\oz G as gs fs:=by
 cases x with
 |inst i r=>exact⟨_,i,r⟩
 |tr e=>exact nomatch e
theorem oN{Q:Unit->Shared->Prop}{c c':gZ}{fs fs':List (Tx×AV)}(I:Inv cx w) (B:Base cx nm) (ic:∀a∈fr,w.G a=.out) (hf:f∈fh) (hp:w.as[i]? = some p) (hn:w.st[i]? = some (.inst c fs)) (e2:cx.cA c'=cx.cA c) (k:Ds cx w f v c c' fs fs')
  (h:∀s',Ev cx fr om w ⟨w.G,w.as,w.st.set i (.inst c' fs'),s'⟩->Q () s'):wpAny (model cx.prog cx.w) A (setAttr (.ref p.1) (tx f) v) Q E w.s:=by
 obtain⟨gs,ia,r⟩:=(I.rel.nodes i p _ hp hn).QX
 induction ia with| mk m ii sh fm =>
 obtain⟨RJ,r',z⟩:=k _ _ r sh fm
 exact mw I B hf ii fun h' tk i' hs hz=>h _ (I.RI (nd':=.inst c' fs') (s':={ w.s with heap:=h',toks:=tk }) hp hn (fun _ q=>q) (.tail _ (.head _)) hs hz rfl rfl i'.live (.inst (.mk _ (e2.symm▸i') z.1 z.2) r') ic)
theorem xK{c:gZ}{fs:List (Tx×AV)}:Ds cx w b9 v c .aQ fs fs:=fun gs m r _ fm =>
 ⟨gs,r,fun _=>⟨v,if_pos jI.symm⟩,fun p hp=>⟨(fm p hp).1,(if_neg fun q=>(fm p hp).1 (q.trans jI)).trans (fm p hp).2⟩⟩
theorem GC{c:gZ}{fs:List (Tx×AV)}(IC:¬f=b9) (ra:cO w.G w.as v a):Ds cx w f v c c fs (putK f a fs):=fun gs m r sh fm =>
 have es:tx f≠fc:=fun q=>IC (lF q)
 ⟨putK f v gs,r.put ra,fun q=>let⟨u,e⟩:=sh q;⟨u,(if_neg es.symm).trans e⟩,fun q hq=>by
  rcases Dr hq with rfl|⟨h1,h2⟩
  ·exact⟨es,if_pos rfl⟩
  ·exact⟨(fm q h1).1,(if_neg fun z=>h2 (kh z)).trans (fm q h1).2⟩⟩
theorem set_same{nd:Node}{st:aB}(hn:st[i]? = some nd):st.set i nd=st:=by
 obtain⟨hi,he⟩:=List.getElem?_eq_some_iff.mp hn
 rw[<-he];exact List.set_getElem_self hi
theorem gn.VN{h:Heap}{as:List Pl}(x:gn cx G as h p (.fz d)):Rep G (.ref p.1) d:=by
 cases x with
 |fz r=>exact r
 |tr e=>exact nomatch e
theorem Ke{Q:Unit->Shared->Prop}(I:Inv cx w) (B:Base cx nm) (ic:∀a∈fr,w.G a=.out) (hp:w.as[i]? = some p) (hn:w.st[i]? = some nd) (e:Nd w.st i (some nd)=some st') (h:∀s',Ev cx fr om w ⟨w.G,w.as,st',s'⟩->Q () s'):wpAny (model cx.prog cx.w) A (setAttr (.ref p.1) (tx b9) v) Q E w.s:=by
 cases nd with
 |fz d =>
  by_cases q:Nc d=true
  ·cases(if_pos q).symm.trans e;exact pH I B ic q (I.rel.nodes i p _ hp hn).VN h
  ·cases(if_neg q).symm.trans e
 |inst c fs =>
  cases c with
  |aQ=>(injection e with e;subst e);exact oN (c':=.aQ) (fs':=fs) I B ic (by decide) hp hn rfl (xK (cx:=cx)) (by rw[set_same hn];exact h)
  |aJ=>(injection e with e;subst e);exact oN (c':=.aQ) (fs':=fs) I B ic (by decide) hp hn B.v0.symm (xK (cx:=cx)) h
  |_=>injection e
 |_=>injection e
theorem GD{Q:Unit->Shared->Prop}(I:Inv cx w) (B:Base cx nm) (ic:∀a∈fr,w.G a=.out) (hf:f∈fh) (rb:cO w.G w.as u b) (ra:cO w.G w.as v a) (e:xj w.st b f a=some st')
  (h:∀s',Ev cx fr om w ⟨w.G,w.as,st',s'⟩->Q () s'):wpAny (model cx.prog cx.w) A (setAttr u (tx f) v) Q E w.s:=by
 cases b with
 |t d =>
  by_cases q:f=b9/\Nc d=true
  ·cases(if_pos q).symm.trans e
   obtain⟨rfl,q⟩:=q
   exact pH I B ic q rb h
  ·cases(if_neg q).symm.trans e
 |r j =>
  induction rb with| mk p hp z =>
  rw[z]
  by_cases IC:f=b9
  ·have e2:Nd w.st j w.st[j]? = some st':=(if_pos IC).symm.trans e
   clear e
   subst IC
   revert e2
   cases hn:w.st[j]? with
   |none=>exact fun e=>nomatch e
   |some nd=>exact fun e=>Ke I B ic hp hn e h
  ·have e2:FZ w.st j f a w.st[j]? = some st':=(if_neg IC).symm.trans e
   clear e
   revert e2
   cases hn:w.st[j]? with
   |none=>exact fun e=>nomatch e
   |some nd =>
    intro e
    cases nd with
    |inst c fs=>(injection e with e;subst e);exact oN (c':=c) I B ic hf hp hn rfl (GC IC ra) h
    |_=>injection e
theorem dK.out{l:List Env}(x:dK cx l w):∀a∈ek l,w.G a=.out:=fun a h=>(x.at' a h).out
theorem jH.setattr{o e:Expr}{fo fe:Kv}{pos' pos:Pos}{f:Tx}(B:Base cx nm) (hf:f∈fh) (hs:swapsWith e (some (.Attribute o (tx f) pos')) pos.line K.env=pure false) (h1:SE cx K o fo) (h2:SE cx K e fe):jH cx K (.Assign [.Attribute o (tx f) pos'] e pos) (xq f fo fe):=fun g w X Q E T =>
 plainObj_wpAny_Assign_Attribute ((h2 g w X).oJ X T fun a v w1 _ X1 ra T=>(h1 g w1 X1).oJ X1 T fun b u w2 e2 X2 rb T=>by
  cases hq:xj w2.st b f a with
  |none=>rw[hq] at T;exact T.no
  |some st' =>
   rw[hq] at T
   exact GD X2.inv B X2.fr.out hf rb (ra.ev e2) hq fun s' ev=>T.next g ⟨w2.G,w2.as,st',s'⟩ rfl ev.oJ (X2.ev ev)) hs
end
inductive vo{κ Kf:Type}(G:Addr->Lg) (f:κ->Kf):List (Kf×Value)->List (κ×PV)->Prop
 |nil:vo G f [] []
 |cons {k:κ}{v:Value}{d:PV}{a:List (Kf×Value)}{b:List (κ×PV)}(x:Rep G v d) (r:vo G f a b):vo G f ((f k,v)::a) ((k,d)::b)
section
variable {κ Kf:Type}{G:Addr->Lg}{f:κ->Kf}{kvs:List (Kf×Value)}{ds:List (κ×PV)}{v:Value}{d:PV}{k:κ}
theorem vo.of:∀{ds:List (κ×PV)},kvs.map (·.1)=ds.map (fun p=>f p.1)->bh G (kvs.map (·.2)) (ds.map (·.2))->vo G f kvs ds:=by
 induction kvs with
 |nil =>
  intro ds e r
  cases ds with
  |nil=>exact .nil
  |cons=>injection e
 |cons kv kvs ih =>
  intro ds e r
  cases ds with
  |nil=>injection e
  |cons p ds =>
   obtain⟨k',v⟩:=kv
   obtain⟨e1,e2⟩:=List.cons.inj e
   subst e1
   cases r with| cons x r=>exact .cons x (ih e2 r)
theorem vo.keys(r:vo G f kvs ds):kvs.map (·.1)=ds.map (fun p=>f p.1):=by
 induction r with
 |nil=>rfl
 |cons _ _ ih=>exact congrArg (List.cons _) ih
theorem vo.Kg(r:vo G f kvs ds):bh G (kvs.map (·.2)) (ds.map (·.2)):=by
 induction r with
 |nil=>exact .nil
 |cons x _ ih=>exact .cons x ih
variable [DecidableEq κ] [DecidableEq Kf]
theorem GF(hf:∀a b,f a=f b->a=b){a:κ}:decide (f a=f k)=decide (a=k):=by
 by_cases h:a=k
 ·rw[h,decide_eq_true rfl,decide_eq_true rfl]
 ·rw[decide_eq_false h,decide_eq_false fun q=>h (hf _ _ q)]
noncomputable def xM(k:κ) (d:PV) (l:List (κ×PV)):List (κ×PV):=if l.any (fun p=>decide (p.1=k)) then l.map (fun p=>if p.1=k then(p.1,d) else p) else l++[(k,d)]
theorem vo.put(hf:∀a b,f a=f b->a=b) (x:Rep G v d) (r:vo G f kvs ds):vo G f (stored kvs (f k) v) (xM k d ds):=by
 have any:kvs.any (fun p=>decide (p.1=f k))=ds.any (fun p=>decide (p.1=k)):=by
  induction r with
  |nil=>rfl
  |cons _ _ ih=>exact congr (congrArg or (GF hf)) ih
 unfold xM stored
 rw[any]
 clear any
 split
 ·rename_i hh
  clear hh
  induction r with
  |nil=>exact .nil
  |@cons j _ _ _ _ y _ ih =>
   rw[List.map_cons,List.map_cons]
   by_cases h:j=k
   ·rw[if_pos h,if_pos (h▸rfl)];exact .cons x ih
   ·rw[if_neg h,if_neg fun q=>h (hf _ _ q)];exact .cons y ih
 ·rename_i hh
  clear hh
  induction r with
  |nil=>exact .cons x .nil
  |cons y _ ih=>exact .cons y ih
theorem vo.without(hf:∀a b,f a=f b->a=b) (r:vo G f kvs ds):vo G f (without kvs (f k)) (ds.filter fun p=>decide (p.1≠k)):=by
 unfold PySem.without
 induction r with
 |nil=>exact .nil
 |@cons j _ _ _ _ y _ ih =>
  by_cases h:j=k
  ·rw[List.filter_cons,List.filter_cons,if_neg (show ¬decide (f j≠f k)=true from fun q=>of_decide_eq_true q (congrArg f h)),if_neg (show ¬decide (j≠k)=true from fun q=>of_decide_eq_true q h)];exact ih
  ·rw[List.filter_cons,List.filter_cons,if_pos (show decide (f j≠f k)=true from decide_eq_true fun q=>h (hf _ _ q)),if_pos (show decide (j≠k)=true from decide_eq_true h)];exact .cons y ih
theorem xN:(xM k d ds).length<=ds.length+1:=by
 unfold xM
 split
 ·rw[List.length_map];exact Nat.le_succ _
 ·rw[List.length_append];exact Nat.le_refl _
theorem Br{j:κ}(h:j∈(xM k d ds).map (·.1)):j=k\/j∈ds.map (·.1):=by
 unfold xM at h
 split at h
 ·rw[List.map_map] at h
  obtain⟨p,hp,e⟩:=List.mem_map.mp h
  refine .inr (List.mem_map.mpr ⟨p,hp,e▸?_⟩)
  show p.1=(if p.1=k then(p.1,d) else p).1
  split<;>rfl
 ·rw[List.map_append] at h
  exact(List.mem_append.mp h).elim .inr fun h=>.inl (List.mem_singleton.mp h)
end
section
variable {cx:Cx}{nm:Nat->Option Str}{w w':Wd}{K:Kx}{g:Gm}{v u kv:Value}{a b:AV}{A:Around}{E:Value->Shared->Prop}{d kd:PV}{i:Nat}{p:Pl}{nd nd':Node}{fr:List Addr}{W:Addr->Prop}{s':Shared}{st':aB}{ls:List (Tx×PV)}{li:List (Int×PV)}
theorem bh.set{G:Addr->Lg}{vs:List Value}{l:List PV}(x:Rep G v d) (r:bh G vs l):∀n,bh G (vs.set n v) (l.set n d):=by
 induction r using bh.ind with
 |h0=>exact fun _=>.nil
 |h1 v vs d l y r ih =>
  intro n
  induction n with
  |zero=>exact .cons x r
  |succ n=>exact .cons y (ih n)
inductive NZ(cx:Cx) (w:Wd) (i:Nat) (v:Value) (ls:List (Tx×PV)):Prop
 |mk (p:Pl) (kvs:List (Str×Value)) (ep:Nat) (hp:w.as[i]? = some p) (q:v=.ref p.1) (z:ls.length<=lim) (h:w.h.DictAt (strKind cx.prog cx.w) p.1 kvs ep) (r:vo w.G tx kvs ls) (n:b9∉ls.map (·.1))
theorem IJ(I:Inv cx w) (hn:w.st[i]? = some (.aK ls)):uZ w.as v i->NZ cx w i v ls
 |.mk p hp q=>by
  cases I.rel.nodes i p _ hp hn with
  |tr e j q' r=>(injection e with e;subst e);cases q' with| dS z k n=>exact .mk p _ _ hp q z j (.of k r) fun h=>n (k▸by obtain⟨p,hp,e⟩:=List.mem_map.mp h;exact List.mem_map.mpr ⟨p,hp,e▸jI⟩)
theorem Inv.N5{kvs:List (Str×Value)}{ls':List (Tx×PV)}(I:Inv cx w) (ic:∀a∈fr,w.G a=.out) (hp:w.as[i]? = some p) (hn:w.st[i]? = some (.aK ls)) (hs:Heap.SameBut p.1 w.h s'.heap) (h1:s'.os=w.s.os) (h2:s'.gens=w.s.gens)
  (hd:s'.heap.DictOf (strKind cx.prog cx.w) p.1 kvs) (r:vo w.G tx kvs ls') (z:ls'.length<=Mine.lim) (n:b9∉ls'.map (·.1)):Ev cx fr W w ⟨w.G,w.as,w.st.set i (.aK ls'),s'⟩:=by
 obtain⟨ep,hd⟩:=hd.dictAt
 refine I.upd (o:=.dS kvs ep) (nd':=.aK ls') hp hn rfl rfl hs h1 h2 hd (let⟨_,_,e,_⟩:=hd;⟨_,e⟩) (.dS z r.keys fun q=>?_) r.Kg ic
 rw[r.keys] at q
 obtain⟨p,hp,he⟩:=List.mem_map.mp q
 exact n (List.mem_map.mpr ⟨p,hp,lF he⟩)
theorem Dt{t:Tx}:Vw cx w v (.str t)->∃tk,v=.str (tx t) tk
 |.str _ tk _=>⟨tk,rfl⟩
 |.ref _ _ q _=>nomatch q
theorem Du{t:Int}:Vw cx w v (.int t)->∃tk,v=.int t tk
 |.int _ tk=>⟨tk,rfl⟩
 |.ref _ _ q _=>nomatch q
theorem ri{α:Type}{c:Prop} [Decidable c] {x y:α}(h:(if c then some x else none)=some y):c/\x=y:=by
 by_cases q:c
 ·rw[if_pos q] at h;exact⟨q,Option.some.inj h⟩
 ·rw[if_neg q] at h;injection h
theorem GG{Q:Unit->Shared->Prop}(I:Inv cx w) (ic:∀a∈fr,w.G a=.out) (rb:cO w.G w.as u b) (rk:Vw cx w kv kd) (rv:Rep w.G v d) (e:A8 w.st b kd d=some st') (h:∀s',Ev cx fr om w ⟨w.G,w.as,st',s'⟩->Q () s') :
  wpAny (model cx.prog cx.w) A (setItem u kv v) Q E w.s:=by
 induction b with
 |t=>injection e
 |r i =>
  replace e:xm w.st[i]? w.st i kd d=some st':=e
  cases hn:w.st[i]? with
  |none=>rw[hn] at e;injection e
  |some nd =>
   rw[hn] at e
   induction nd with
   |lst l =>
    cases kd with
    |int n =>
     obtain⟨hb,rfl⟩:=ri e
     obtain⟨t,rfl⟩:=Du rk
     obtain⟨p,us,hp,rfl,z,hl,r⟩:=xD I hn rb
     obtain⟨n0,ho⟩:=id hl
     have hlen:=r.length
     have z':l.length<=4096:=z
     have ql:=lG ho (·.setIfInBounds n.toNat v)
     rw[List.setIfInBounds_toArray] at ql
     obtain⟨m,ql⟩:=ql
     exact ki_setAt ho hb.1 (by omega) (by rw[List.size_toArray];omega) (h _ (I.upd (o:=.lst (us.set n.toNat v) m) (nd':=.lst (l.set n.toNat d)) hp hn rfl rfl (Heap.SameBut.update ..) rfl rfl ql ⟨_,ql⟩ (.lst (by rw[List.length_set];exact z)) (r.set rv _) ic))
    |_=>injection e
   |aK l =>
    cases kd with
    |str y =>
     obtain⟨hb,rfl⟩:=ri e
     obtain⟨t,rfl⟩:=Dt rk
     obtain⟨p,kvs,ep,hp,rfl,z,hd,r,n⟩:=IJ I hn rb
     refine wpAny_setItem_pairs (knd:=strKind cx.prog cx.w) (k:=tx y) (strKind_is _ _ _ _) hd.dictOf (fun h1 Dq hs=>h _ ?_) ?_
     ·exact I.N5 (s':={ w.s with heap:=h1,toks:=w.s.toks+1 }) (ls':=xM y d l) ic hp hn hs rfl rfl Dq (r.put (fun _ _=>kh) rv) (Nat.le_trans xN (Nat.le_trans (Nat.succ_le_of_lt hb.2) (by decide))) fun q=>(Br q).elim (fun q=>hb.1 q.symm) n
     ·rw[gM r.keys];exact Nat.le_trans z (by decide)
    |_=>injection e
   |eT l =>
    cases kd with
    |int y =>
     obtain⟨hb,rfl⟩:=ri e
     obtain⟨t,rfl⟩:=Du rk
     obtain⟨p,hp,rfl⟩:=rb
     cases I.rel.nodes i p _ hp hn with
     |tr e hd q r =>
      injection e with e;subst e
      cases q with
      |dI z k =>
       have r:vo w.G (fun x:Int=>x) _ _:=.of k r
       refine wpAny_setItem_pairs (knd:=intKind cx.prog cx.w) (k:=y) (intKind_is _ _ _ _) hd (fun h1 Dq hs=>h _ ?_) ?_
       ·have rp:=r.put (k:=y) (fun _ _ q=>q) rv
        exact I.upd (o:=.dI (stored _ y v)) (nd':=.eT (xM y d l)) (s':={ w.s with heap:=h1,toks:=w.s.toks+1 }) hp hn rfl rfl hs rfl rfl Dq (let⟨_,_,_,e,_⟩:=Dq;⟨_,e⟩) (.dI (Nat.le_trans xN (Nat.le_trans (Nat.succ_le_of_lt hb) (by decide))) rp.keys) rp.Kg ic
       ·rw[gM k];exact Nat.le_trans z (by decide)
    |_=>injection e
   |_=>injection e
theorem jH.dN{o i e:Expr}{fo fi fe:Kv}{pos' pos:Pos}(hs:swapsWith e (some (.Subscript o i pos')) pos.line K.env=pure false) (h1:SE cx K o fo) (h2:SE cx K i fi) (h3:SE cx K e fe):jH cx K (.Assign [.Subscript o i pos'] e pos) (xr fo fi fe):=fun g w X Q E T =>
 wpAny_Assign_Subscript ((h3 g w X).oJ X T fun a v w1 _ X1 ra T=>(h1 g w1 X1).oJ X1 T fun b u w2 e2 X2 rb T=>(h2 g w2 X2).oJ X2 T fun k kv w3 e3 X3 rk T=>by
  rcases ni (w:=w3) (a:=a) rfl with e|⟨d,st',e,e'⟩
  ·rw[e] at T;exact T.no
  ·rw[e'] at T
   obtain⟨G',ev,rd⟩:=fL _ X3.inv (ra.ev (e2.trans e3)) e
   have ev:=ev (ek K.l) om
   have X4:=X3.ev ev
   refine gO.oB (T.later ev.oJ) fun kd hk T=>?_
   have rk:=cO.vw X4.inv.rel (rk.ev ev)
   rw[show vw (Wd.st ⟨G',w3.as,st',w3.s⟩) k=some kd from hk] at rk
   cases rk with| some rk =>
   cases hq:A8 st' b kd d with
   |none=>rw[hq] at T;exact T.no
   |some VO =>
    rw[hq] at T
    exact GG (w:=⟨G',w3.as,st',w3.s⟩) X4.inv X4.fr.out ((rb.ev e3).ev ev) rk rd hq fun s' ev=>T.next g ⟨G',w3.as,VO,s'⟩ rfl ev.oJ (X4.ev ev)) hs
theorem Bs{t:Tx}{kvs:List (Str×Value)}{ls:List (Tx×PV)}{G:Addr->Lg}(r:vo G tx kvs ls) (h:(cj t ls).isSome=true):(valueAt kvs (tx t)).isSome=true:=(lD r.keys r.Kg).isSome.trans h
theorem jH.qg{o i:Expr}{fo fi:Kv}{pos' pos:Pos}(h1:SE cx K o fo) (h2:SE cx K i fi):jH cx K (.Delete [.Subscript o i pos'] pos) (xu fo fi):=fun g w X Q E T =>
 wpAny_Delete (wpAny_deleteEach_cons (delete_Subscript ((h1 g w X).oJ X T fun b u w1 _ X1 rb T=>(h2 g w1 X1).oJ X1 T fun k kv w2 e2 X2 rk T=>gO.oB T fun kd hk T=>by
  have rk:=cO.vw X2.inv.rel rk
  rw[hk] at rk
  cases rk with| some rk =>
  have rb:=rb.ev e2
  induction b with
  |t=>exact T.no
  |r i =>
   replace T:gO cx K w2 (o9 (Ni w2.st[i]? w2.st i kd) g) Q E:=T
   cases hn:w2.st[i]? with
   |none=>rw[hn] at T;exact T.no
   |some nd =>
    rw[hn] at T
    induction nd with
    |aK l =>
     cases kd with
     |str y =>
      replace T:gO cx K w2 (o9 (if(cj y l).isSome then some (w2.st.set i (.aK (FI y l))) else none) g) Q E:=T
      split at T
      ·rename_i hf
       obtain⟨t,rfl⟩:=Dt rk
       obtain⟨p,kvs,ep,hp,rfl,z,hd,r,n⟩:=IJ X2.inv hn rb
       have hd:=hd.dictOf
       unfold delItem
       refine wpAny_holding (wpAny_bind (wpAny_sequenceKey hd.typeIs (by decide) (wpAny_bind (wpAny_callSpecial?_slot (name:=Str.ofString "__delitem__") hd.typeIs PySem.F.slot_dict_delitem
        (call_meetsIn PySem.F.slot_dict_delitem hd.typeIs PySem.F.entry_dict_delitem (PySem.F.args_dict_delitem_2 _ _) (meets_dict_delitem_pairs (k:=tx y) (strKind cx.prog cx.w) p.1 (strKind_is _ _ _ _)) ⟨kvs,hd,by rw[gM r.keys];exact Nat.le_trans z (by decide),Bs r hf,fun h1 Dq hs=>wpAny_pure (wpAny_deleteEach_nil ?_)⟩)))))
       have ev:=X2.inv.N5 (fr:=ek K.l) (W:=om) (s':={ w2.s with heap:=h1,toks:=w2.s.toks+1 }) (ls':=FI y l) X2.fr.out hp hn hs rfl rfl Dq (r.without (k:=y) fun _ _=>kh) (Nat.le_trans (List.length_filter_le ..) z) fun q=>by
        obtain⟨q,hq,he⟩:=List.mem_map.mp q
        exact n (List.mem_map.mpr ⟨q,(List.mem_filter.mp hq).1,he⟩)
       exact T.next g ⟨w2.G,w2.as,w2.st.set i (.aK (FI y l)),{ w2.s with heap:=h1,toks:=w2.s.toks+1 }⟩ rfl ev.oJ (X2.ev ev)
      ·exact T.no
     |_=>exact T.no
    |_=>exact T.no)))
end
section
variable {cx:Cx}{nm:Nat->Option Str}{w w' w0 w1:Wd}{K:Kx}{g g':Gm}{v u:Value}{a:AV}{Q:Flow->Shared->Prop}{E:Value->Shared->Prop}{x y:Str}{i j n:Nat}{e:Expr}{f:Kv}{px py pt pos:Pos}{F:Ks}{I:Addr}{d:PV}{ds:List PV}{st':aB}{iter:Expr}{body:List Stmt}{k:Gm->aB->R (List PV)}
theorem xO{s:Shared}{E:Value->Shared->Prop}{A:Around}{t:Addr}{items:Array Value}{targets:List (Bool×(Value->Sem Unit))}{Q:Unit->Shared->Prop}(hh:A.handled=none) (ht:s.heap.IsTuple t items) (hn:targets.length=items.size) (N6:targets.findIdx? (·.1)=none)
  (h:∀h',Heap.ExtBut s.heap.objs.size s.heap h'->s.heap.objs.size<=h'.objs.size->wpAny (model cx.prog cx.w) A (assignInOrder (targets.map (·.2)) items.toList) Q E { s with heap:=h' }):wpAny (model cx.prog cx.w) A (unpack (.ref t) targets) Q E s:=by
 unfold unpack
 rw[hn,N6]
 refine wpAny_bind (wpAny_holding (er (wpAny_unpackItems_tuple hh ht ?_)))
 exact fun h' hx hz=>h h' hx hz
inductive Pair(cx:Cx) (w:Wd) (v:Value) (x y:Nat) (g:Gm):Option Out->Prop
 |no:Pair cx w v x y g none
 |mk (a:Addr) (u1 u2:Value) (d1 d2:PV) (q:v=.ref a) (i:IsTup w.h a #[u1,u2]) (r1:Rep w.G u1 d1) (r2:Rep w.G u2 d2):Pair cx w v x y g (some (.next ((g.set x (some (.t d1))).set y (some (.t d2))) w.st))
theorem GH{o:Option PV}(z:u7 cx w v o):Pair cx w v i j g (Jx i j g w.st o):=by
 induction z with
 |none=>exact .no
 |some z=>induction z with
  |ref ge h q r=>induction q with
   |tup z=>cases r with
    |nil=>exact .no
    |cons x r=>cases r with
     |nil=>exact .no
     |cons y r=>cases r with
      |nil=>exact .mk _ _ _ _ _ rfl h.tup x y
      |cons=>exact .no
   |_=>exact .no
  |_=>exact .no
theorem jH.qf{z} (hh:K.A.handled=none) (hs:swapsWithSole [.Tuple [.Name x px,.Name y py] z pt] e pos.line K.env=pure false) (hw:swappedStores [.Tuple [.Name x px,.Name y py] z pt] e K.env=pure none) (V1:fP K x i) (V2:fP K y j) (h:SE cx K e f) :
  jH cx K (.Assign [.Tuple [.Name x px,.Name y py] z pt] e pos) (xo i j f):=fun g w X Q E T =>
 wpAny_Assign_stores ((h g w X).oJ X T fun a v w1 _ X1 r T=>by
  have p:=GH (i:=i) (j:=j) (g:=g) (r.vw X1.inv.rel)
  revert T p
  generalize Jx i j g w1.st (vw w1.st a)=o
  intro T p
  induction p with
  |no=>exact T.no
  |mk a u1 u2 d1 d2 q ht r1 r2 =>
   subst q
   show wpAny _ K.A (PySem.assign (.Tuple [.Name x px,.Name y py] z pt) K.env (.ref a)) _ _ _
   rw[arm_assign_Tuple]
   refine wpAny_bind (wpAny_standAt ?_)
   show wpAny _ K.A (unpack (.ref a) [(false,PySem.assign (.Name x px) K.env),(false,PySem.assign (.Name y py) K.env)]) _ _ _
   refine xO hh ht rfl rfl fun h2 Kh VP=>?_
   have wR:iA cx K.l w1 (w1.at { w1.s with heap:=h2 }):=X1.inv.keeps (fun b o e=>Kh b o (Nat.ne_of_lt (Heap.lt_size e)) e) rfl rfl VP
   show wpAny _ K.A (assignInOrder [PySem.assign (.Name x px) K.env,PySem.assign (.Name y py) K.env] [u1,u2]) _ _ _
   unfold assignInOrder
   refine wpAny_bind (wpAny_holding (wpAny_assign_Name (oM (a:=.t d1) (X1.ev wR) V1 r1 fun s3 II X3=>?_)))
   unfold assignInOrder
   refine wpAny_bind (wpAny_holding (wpAny_assign_Name (oM (w:=w1.at s3) (a:=.t d2) X3 V2 (r2.mono II.sub) fun s4 Mq X4=>?_)))
   unfold assignInOrder
   exact wpAny_pure (T.next _ (w1.at s4) rfl ((wR.oJ.trans II).trans Mq) X4)) hs hw
inductive Bt(cx:Cx) (w:Wd) (n:Nat) (g g':Gm) (st':aB):Prop
 |mk (G':Addr->Lg) (ev:∀fr W,Ev cx fr W w ⟨G',w.as,st',w.s⟩) (r:∀(j:Nat) (a':AV),g'[j]? = some (some a')->∃a,g[j]? = some (some a)/\(∀v,cO w.G w.as v a->cO G' w.as v a')/\under n a'=true)
theorem vp(n:Nat) (x:Option AV) (g:Gm) (st:aB):dc n (x::g) st=match x with
 |some (.r i)=>if i<n then(dc n g st).map fun q=>(some (.r i)::q.1,q.2) else match i6 cR st (.r i) with
  |some (d,st')=>(dc n g st').map fun q=>(some (.t d)::q.1,q.2)
  |Option.none=>Option.none
 |x=>(dc n g st).map fun q=>(x::q.1,q.2):=by
 induction x with
 |none=>rfl
 |some a=>induction a<;>rfl
theorem Bt.cons{x x':Option AV}{G1:Addr->Lg}{st1:aB}(ev:∀fr W,Ev cx fr W w ⟨G1,w.as,st1,w.s⟩) (h:∀a',x'=some a'->∃a,x=some a/\(∀v,cO w.G w.as v a->cO G1 w.as v a')/\under n a'=true)
  (z:Bt cx ⟨G1,w.as,st1,w.s⟩ n g g' st'):Bt cx w n (x::g) (x'::g') st':=by
 obtain⟨G',ev',r⟩:=z
 refine .mk G' (fun fr W=>(ev fr W).trans (ev' fr W)) fun j a' q=>?_
 induction j with
 |zero =>
  obtain⟨a,e,h,u⟩:=h a' (Option.some.inj q)
  exact⟨a,congrArg some e,fun v r=>(h v r).mono (ev' [] om).sub fun _ _ e=>e,u⟩
 |succ j =>
  obtain⟨a,e,h,u⟩:=r j a' q
  exact⟨a,e,fun v r=>h v (r.mono (ev [] om).sub fun _ _ e=>e),u⟩
theorem zj{g:Gm}:∀{g':Gm}{w:Wd}{st':aB},Inv cx w->dc n g w.st=some (g',st')->Bt cx w n g g' st':=by
 induction g with
 |nil=>exact fun I e=>by cases e;exact .mk _ (fun _ _=>.refl I) fun _ _ q=>nomatch q
 |cons x g ih =>
  intro g' w st' I e
  rw[vp] at e
  have plain:(∀a,x=some a->under n a=true)->(dc n g w.st).map (fun q=>(x::q.1,q.2))=some (g',st')->Bt cx w n (x::g) g' st':=fun h e=>by
   obtain⟨⟨g1,st1⟩,e1,e2⟩:=Option.map_eq_some_iff.mp e
   cases e2
   exact Bt.cons (G1:=w.G) (st1:=w.st) (fun _ _=>.refl I) (fun a e=>⟨a,e,fun _ r=>r,h a e⟩) (ih I e1)
  induction x with
  |none=>exact plain (fun a q=>nomatch q) e
  |some a =>
   induction a with
   |t d=>exact plain (fun a q=>by(injection q with q;subst q);rfl) e
   |r i =>
    dsimp only at e
    split at e
    ·rename_i hi;exact plain (fun a q=>by(injection q with q;subst q);exact decide_eq_true hi) e
    ·cases h1:i6 cR w.st (.r i) with
     |none=>rw[h1] at e;injection e
     |some q =>
      obtain⟨d,st1⟩:=q
      rw[h1] at e
      obtain⟨⟨g2,st2⟩,e1,e2⟩:=Option.map_eq_some_iff.mp e
      cases e2
      have hp:∃p,w.as[i]? = some p:=by
       cases hn:w.st[i]? with
       |none=>unfold cR i6 at h1;rw[hn] at h1;injection h1
       |some nd=>exact⟨_,List.getElem?_eq_getElem (I.rel.len▸(List.getElem?_eq_some_iff.mp hn).1)⟩
      obtain⟨p,hp⟩:=hp
      obtain⟨G1,ev,r1⟩:=fL _ I (v:=.ref p.1) (a:=.r i) (uZ.mk p hp rfl) h1
      refine .cons ev (fun a q=>?_) (ih (w:=⟨G1,w.as,st1,w.s⟩) (ev [] om).inv e1)
      injection q with q;subst q
      refine⟨_,rfl,fun v r=>?_,rfl⟩
      obtain⟨p',hp',rfl⟩:=r
      injection hp.symm.trans hp' with zx;subst zx
      exact r1
inductive GI(cx:Cx) (K:Kx) (w:Wd) (n:Nat) (g':Gm) (st':aB):Prop
 |mk (G':Addr->Lg) (X:At cx K g' ⟨G',w.as.take n,st',w.s⟩) (ev:∀{fr W w0},Ev cx fr W w0 w->w0.as.length<=n->Ev cx fr W w0 ⟨G',w.as.take n,st',w.s⟩) (eq:∃st1:aB,st'=st1.take n/\st1.length=w.as.length)
theorem zk{m:Nat}(h:n<=m):under n a=true->under m a=true:=by
 induction a with
 |t d=>exact fun _=>rfl
 |r i=>exact fun q=>decide_eq_true (Nat.lt_of_lt_of_le (of_decide_eq_true q) h)
theorem At.kc{m:Nat}(RK:n<=m) (X:At cx K g w) (e:kc n m g w.st=some (g',st')):GI cx K w m g' st':=by
 unfold Mine.kc at e
 cases h1:dc n g w.st with
 |none=>rw[h1] at e;injection e
 |some q =>
  obtain⟨g1,st1⟩:=q
  rw[h1] at e
  dsimp only at e
  cases h2:back m st1 with
  |none=>rw[h2] at e;injection e
  |some st2 =>
   rw[h2] at e
   cases e
   obtain⟨G',ev,hz⟩:=zj X.inv h1
   have fr:=X.fr.ev (ev _ _)
   have eo:=X.eo.Bb (ev _ om) fun _ q=>q.elim
   have S:=(ev [] om).inv.rel
   have z:=(ev (ek K.l) om).inv
   have iv:Inv cx ⟨G',w.as.take m,_,w.s⟩:=⟨S.back (qW h2),z.old,z.os,z.gens,z.lim,z.low,z.i8,z.ge,let⟨ps,e,t,c⟩:=z.tab;⟨ps,e,t,c⟩⟩
   exact .mk G' ⟨iv,⟨fun a h=>let p:=fr.at' a h;⟨p.ge,p.lt,p.out⟩,fr.ob,fr.env⟩,⟨eo.fn,eo.glob,eo.blt,⟨eo.dQ.ge,eo.dQ.lt,eo.dQ.out⟩,eo.ns,fun y c e=>let z:=eo.cell y c e;⟨⟨z.dQ.ge,z.dQ.lt,z.dQ.out⟩,z.JH,z.ne,z.cell⟩,eo.apart,eo.kinds⟩,
    fun y j a e1 e2=>let⟨a0,e3,e4,u⟩:=hz j a e2;let⟨v,v1,v2⟩:=X.vars y j a0 e1 e3;⟨v,v1,(e4 v v2).cut (zk RK u)⟩⟩
    (fun y h=>(y.trans (ev _ _)).back h h2) ⟨st1,(qW h2).eq,S.len.symm⟩
theorem jH.cut{x:Stmt}(h:jH cx K x F):jH cx K x (qG n F):=fun g w X Q E T=>by
 unfold qG at T
 refine h g w X Q E ⟨fun q=>T.ne (by rw[q]),fun g1 w1 e ev X1=>?_,fun g1 w1 e ev X1=>?_,fun a v g1 w1 e ev X1 r=>?_,fun m u g1 w1 e ev X1 q=>?_⟩
 ·rw[e] at T
  dsimp only at T
  split at T
  ·rename_i hn
   cases hc:Mine.kc n w.st.length g1 w1.st with
   |none=>rw[hc] at T;exact T.no
   |some q =>
    obtain⟨g2,st2⟩:=q
    rw[hc] at T
    obtain⟨G',X',ev',_,_,_⟩:=X1.kc hn hc
    exact T.next g2 ⟨G',w1.as.take w.st.length,st2,w1.s⟩ rfl (ev' ev (Nat.le_of_eq X.inv.rel.len)) X'
  ·exact T.no
 ·rw[e] at T;exact T.cont g1 w1 rfl ev X1
 ·rw[e] at T;exact T.ret a v g1 w1 rfl ev X1 r
 ·rw[e] at T;exact T.exc m u g1 w1 rfl ev X1 q
structure FJ(cx:Cx) (K:Kx) (w0:Wd) (I:Addr) (g:Gm) (ds:List PV) (w:Wd):Prop where
 at':At cx K g w
 ev:Dn cx K w0 w
 it:ve cx w I ds
 pI:iz cx w I
 len:w.as.length=w0.as.length
inductive LF(cx:Cx) (K:Kx) (w0:Wd) (I:Addr) (P:Option (Gm×aB)->Prop) (f:Ks) (i:Nat) (n:Nat) (s:Shared):Prop
 |mk (g:Gm) (ds:List PV) (w:Wd) (hn:ds.length=n) (hs:w.s=s) (J:FJ cx K w0 I g ds w) (T:P (loop f i w0.as.length ds g w.st))
theorem Bu{f:Ks}{g:Gm}{st:aB}:loop f i n (d::ds) g st=match f (g.set i (some (.t d))) st with
  |some (.next g' st')=>oB (settle n g' st') fun q=>loop f i n ds q.1 q.2
  |some (.cont g' st')=>oB (settle n g' st') fun q=>loop f i n ds q.1 q.2
  |_=>Option.none:=by
 have e:loop f i n (d::ds) g st=(match f (g.set i (some (.t d))) st with
  |some (.next g' st')=>match settle n g' st' with
   |some (F0,dO)=>loop f i n ds F0 dO
   |Option.none=>Option.none
  |some (.cont g' st')=>match settle n g' st' with
   |some (F0,dO)=>loop f i n ds F0 dO
   |Option.none=>Option.none
  |_=>Option.none):=rfl
 rw[e]
 cases f (g.set i (some (.t d))) st with
 |none=>rfl
 |some o=>induction o with
  |next g' st'=>show(match settle n g' st' with| some (F0,dO)=>_|none=>none)=oB (settle n g' st') _;cases settle n g' st'<;>rfl
  |cont g' st'=>show(match settle n g' st' with| some (F0,dO)=>_|none=>none)=oB (settle n g' st') _;cases settle n g' st'<;>rfl
  |_=>rfl
theorem FJ.next{P:Option (Gm×aB)->Prop}{g2:Gm}(hP:P none->False) (fI:nj K I) (nI:¬Dm K.env I) (J:FJ cx K w0 I g ds w) (ev:Dn cx K w w') (X:At cx K g2 w') (T:P (oB (settle w0.as.length g2 w'.st) fun q=>loop F i w0.as.length ds q.1 q.2)) :
  LF cx K w0 I P F i ds.length w'.s:=qo hP T fun q e T=>by
 obtain⟨g3,Mn⟩:=q
 obtain⟨G',X',ev',st1,e1,e2⟩:=X.kc (Nat.le_refl _) e
 have hl:=J.len
 have z:=ev' ev (Nat.le_of_eq hl)
 have ln:w0.as.length<=w'.as.length:=Nat.le_of_not_lt fun q=>by
  have:=ev.pre w'.as.length (w.as[w'.as.length]'(hl▸q)) (List.getElem?_eq_getElem _)
  rw[List.getElem?_eq_none (Nat.le_refl _)] at this
  injection this
 exact .mk g3 ds ⟨G',w'.as.take w0.as.length,Mn,w'.s⟩ rfl rfl ⟨X',J.ev.trans z,J.it.mv z J.pI fI.fr nI,J.pI.ev z,(List.length_take ..).trans (Nat.min_eq_left ln)⟩ T
theorem jH.for(B:Base cx nm) (hh:K.A.handled=none) (hs:∀y,foldedSetIterable iter K.env y=pure y) (V:fP K x i) (h1:Src cx K iter k) (h2:sV cx K body F):jH cx K (.For (.Name x px) iter body [] pos) (kFor i k F):=fun g w X Q E T =>
 wpAny_For ((h1 g w X).oJ X T fun items v w1 _ X1 it T=>it.iter B.sys X1.inv fun ob RH=>by
  have e2:iA cx K.l w1 (w1.at { w1.s with heap:=w1.h.push ob }):=iP.push.ev X1.inv
  have p2:=iz.new (ob:=ob) X1.inv
  have lt:∀a,Dm K.env a->a<w1.n:=fun a h=>h.elim (fun e=>e▸X1.eo.dQ.lt) fun⟨y,e⟩=>(X1.eo.cell y a e).dQ.lt
  have fI:nj K w1.n:=⟨X1.fr.fresh (Nat.le_refl _),fun q=>Nat.lt_irrefl _ (lt _ (.inl q)),fun y c e q=>Nat.lt_irrefl _ (q▸lt c (.inr ⟨y,e⟩))⟩
  have nI:¬Dm K.env w1.n:=fun q=>Nat.lt_irrefl _ (lt _ q)
  have ll:w1.st.length=w1.as.length:=X1.inv.rel.len.symm
  rw[ll] at T
  refine codeAny_forLoop (LF cx K w1 w1.n (fun r=>gO cx K w1 (CN r) Q E) F i) (fun n s L=>?_) items.length (.mk g items (w1.at { w1.s with heap:=w1.h.push ob }) rfl rfl ⟨X1.ev e2,e2.oJ,RH,p2,rfl⟩ T)
  obtain⟨g,ds,w,rfl,rfl,J,T⟩:=L
  have ov:∀{b:Addr}{s':Shared},Spot K.env x b->Ev cx (ek K.l) (fun c=>c=w1.n\/c=b) w (w.at s')->Dn cx K w1 (w.at s'):=fun hb y=>J.ev.over y (fun a q=>q.elim (fun q=>.inl (Nat.le_of_eq q.symm)) fun q=>.inr (by
   induction hb with
   |loc _ e=>exact .inl (q.trans e)
   |cell _ e=>exact .inr ⟨x,q▸e⟩)) fun a q=>(X1.fr.at' a q).lt
  induction ds with
  |nil=>exact J.it.done hh J.at'.inv J.pI fun s' y=>wpAny_execs_nil (T.next g (w.at s') rfl (J.ev.over (y _) (fun a q=>.inl (Nat.le_of_eq q.symm)) fun a q=>(X1.fr.at' a q).lt) (J.at'.Bb (y _) fun a q=>q▸fI))
  |cons d ds =>
   rw[Bu] at T
   refine J.at'.turn hh V J.pI fI J.it (M:=fun r cz=>match r with
    |none=>wpAny (model cx.prog cx.w) K.A (execs [] K.env) (fun f Kd=>_) _ cz
    |some v=>wpAny (model cx.prog cx.w) K.A (PySem.assign (.Name x px) K.env v) _ _ cz) (fun v s' h=>h) fun b s' hb y X2 VQ=>?_
   have J2:FJ cx K w1 w1.n (g.set i (some (.t d))) ds (w.at s'):=⟨X2,ov hb y,VQ,J.pI.ev y,J.len⟩
   refine h2 _ _ X2 _ _ ⟨fun q=>T.ne (by rw[q];rfl),fun g' w' e ev X'=>?_,fun g' w' e ev X'=>?_,fun a v g' w' e=>?_,fun m u g' w' e=>?_⟩
   ·rw[e] at T;exact⟨ds.length,Nat.lt_succ_self _,J2.next (fun T=>T.no) fI nI ev X' T⟩
   ·rw[e] at T;exact⟨ds.length,Nat.lt_succ_self _,J2.next (fun T=>T.no) fI nI ev X' T⟩
   ·rw[e] at T;exact T.no
   ·rw[e] at T;exact T.no) hs
end
theorem rj(o:Obj) (f:Array Value->Array Value):(o.mapFields f).dict=o.dict:=by
 unfold Obj.mapFields;split<;>rfl
structure Lt(fr:List Addr) (e:Addr) (oe:Obj) (vs:Array Value) (h h':Heap) (T:Addr):Prop where
 lo:h.objs.size<=T
 hi:T<h'.objs.size
 keep:∀b o,b∉fr->b≠e->h.get? b=some o->h'.get? b=some o
 slots:∀b,b≠e->nh h h' b
 exc:∃Mr,h'.get? e=some Mr/\Mr.cls=oe.cls/\Mr.dict=oe.dict/\Mr.data=.fields (vs.setIfInBounds 1 (.ref T))
 top:∃oT ts,h'.get? T=some oT/\oT.data=.fields ts/\ts[3]? = some .none
theorem nv{M:Model}{A:Around}{E:Value->Shared->Prop}{s:Shared}{base:Heap}{env:Env}{outer:List Env}{L e:Addr}{oe:Obj}{vs:Array Value}{head:Value}{GJ:Bool}{Q:Unit->Shared->Prop}
  (ic:A.frames=some (env::outer)) (hl:s.heap.FunFrames base (env::outer)) (hf:env.frame=some L)
  (he:s.heap.get? e=some oe) (hd:oe.data=.fields vs) (hsz:1<vs.size)
  (h:∀h' T,Lt (ek (env::outer)) e oe vs s.heap h' T->Q () { s with heap:=h' }) :
  wpAny M A (do let a <-frameOf env;let pl <-entryPlaceOf L GJ;let b <-EntryCells.newEntry head a .none (rawInt L) .none pl;setField (.ref e) 1 b) (fun _ s'=>wpAny M A (setFlight (.ref e) none) Q E s') E s:=by
 have RL:e∉ek (env::outer):=fun hm=>by
  obtain⟨_,o,ho,RM⟩:=hl.mem hm
  rw[he] at ho;(injection ho with ho;subst ho);exact RM vs hd
 refine wpAny_bind (wpAny_frameOf_fun ic hl hf fun iQ Aa=>?_)
 refine wpAny_bind (wpAny_entryPlaceOf fun pl ql=>?_)
 unfold EntryCells.newEntry newFields
 refine wpAny_bind (wpAny_newObj_type ?_ (ql.sizeOk5 _ _ _ _ _))
 have Dv:iQ.get? e=some oe:=(Aa.2.1 e RL).trans he
 generalize Bp:({ cls:=.type "traceback",dict:=none,data:=.fields ([head,.ref L,.none,rawInt L,.none]++(if pl.isEmpty then List.replicate 6 Value.none else pl)).toArray }:Obj)=tb
 have VR:∃ts,tb.data=.fields ts/\3<ts.size:=by
  refine⟨_,by rw[<-Bp],?_⟩
  simp only[List.size_toArray,List.length_append,List.length_cons,List.length_nil];omega
 obtain⟨ts,htd,hts⟩:=VR
 clear Bp
 have Up:iQ.objs.size≠e:=Nat.ne_of_gt (Heap.lt_size Dv)
 refine wpAny_setField (Heap.get?_push_of_some tb Dv) hd hsz ?_
 have Dw:=Obj.data_mapFields hd (·.setIfInBounds 1 (Value.ref iQ.objs.size))
 have Dy:=Heap.get?_update_self (Obj.mapFields (·.setIfInBounds 1 (Value.ref iQ.objs.size))) (Heap.get?_push_of_some tb Dv) (Obj.isFreed_of_fields Dw)
 have IK:((iQ.push tb).update e (Obj.mapFields (·.setIfInBounds 1 (Value.ref iQ.objs.size)))).objs.size=iQ.objs.size+1:=(size_update ..).trans (Heap.size_push ..)
 have Dz:∀b,b≠e->((iQ.push tb).update e (Obj.mapFields (·.setIfInBounds 1 (Value.ref iQ.objs.size)))).get? b=(iQ.push tb).get? b:=fun b hb=>Heap.get?_update_other _ _ hb.symm
 generalize(iQ.push tb).update e (Obj.mapFields (·.setIfInBounds 1 (Value.ref iQ.objs.size)))=h3 at Dy IK Dz
 have IL:h3.get? iQ.objs.size=some tb:=(Dz _ Up).trans (Heap.get?_push_size iQ (Obj.isFreed_of_fields htd))
 unfold setFlight
 refine wpAny_bind (wpAny_field Dy Dw (x:=.ref iQ.objs.size) (by rw[Array.getElem?_setIfInBounds_self_of_lt hsz]) ?_)
 rw[if_pos (show(Value.ref iQ.objs.size != Value.none)=true from rfl)]
 refine wpAny_setField IL htd hts (h _ iQ.objs.size ?_)
 have keep:∀b o,b≠e->iQ.get? b=some o->(h3.update iQ.objs.size (Obj.mapFields (·.setIfInBounds 3 ((none:Option Addr).elim Value.none fun f=>rawInt f)))).get? b=some o:=fun b o N7 hb =>
  (Heap.get?_update_other _ _ (Nat.ne_of_gt (Heap.lt_size hb))).trans ((Dz b N7).trans (Heap.get?_push_of_some _ hb))
 exact⟨Nat.le_of_eq Aa.1.symm,Nat.lt_of_lt_of_eq (Nat.lt_succ_self _) (IK.symm.trans (size_update ..).symm),fun b o hb N7 e'=>keep b o N7 ((Aa.2.1 b hb).trans e'),fun b N7 o e'=>let⟨sl,hs⟩:=Aa.2.2 b o e';⟨sl,keep b _ N7 hs⟩,
  ⟨_,(Heap.get?_update_other _ _ Up).trans Dy,Obj.cls_mapFields _ _,rj _ _,Dw⟩,⟨_,_,Heap.get?_update_self _ IL (Obj.isFreed_of_fields (Obj.data_mapFields htd _)),Obj.data_mapFields htd _,Array.getElem?_setIfInBounds_self_of_lt hts⟩⟩
section
variable {cx:Cx}{l:List Env}{w w':Wd}{env:Env}{s':Shared}{A:Around}{E:Value->Shared->Prop}{fr:List Addr}{W:Addr->Prop}{N:Nat}{e:Value}{m:Tx}{L:Addr}
theorem DA{h₀ h h':Heap}(K:OldK h₀ h) (hs:∀b o,b<h₀.objs.size->h.get? b=some o->h'.get? b=some o):OldK h₀ h':=by
 have lt:∀b o,h₀.get? b=some o->b<h₀.objs.size:=fun b o e=>Heap.lt_size e
 refine⟨fun b o e=>?_,fun b o e=>let⟨o',ho'⟩:=K.there b o e;⟨o',hs b o' (lt b o e) ho'⟩⟩
 rcases K.old b o e with x|⟨t,hc,vs,more,hv,x⟩|⟨rfl,hc,⟨o',es,n,ho',r⟩,z⟩
 ·exact .inl (hs b _ (lt b o e) x)
 ·exact .inr (.inl ⟨t,hc,vs,more,hv,hs b _ (lt b o e) x⟩)
 ·exact .inr (.inr ⟨rfl,hc,⟨o',es,n,hs _ _ (lt _ o e) ho',r⟩,fun key=>by rw[OldK.staticOf_congr ((hs _ _ (lt _ o e) ho').trans ho'.symm) key];exact z key⟩)
theorem Inv.VS(I:Inv cx w) (hW:∀a,W a->w.G a=.out/\cx.cX<=a) (hf:∀a∈fr,w.G a=.out/\cx.cX<=a) (k:∀a o,¬W a->a∉fr->w.h.get? a=some o->s'.heap.get? a=some o) (u:∀a∈fr,¬W a->nh w.h s'.heap a)
  (hz:w.n<=s'.heap.objs.size) (h1:s'.os=w.s.os) (h2:s'.gens=w.s.gens):Ev cx fr W w (w.at s'):=by
 have kk:∀a,(w.G a≠.out\/a<cx.cX)->(∃o,w.h.get? a=some o)->s'.heap.get? a=w.h.get? a:=fun a h ⟨o,e⟩ =>
  have no:∀{p:Prop},(w.G a=.out/\cx.cX<=a)->p:=fun q=>(h.elim (fun h=>h q.1) fun h=>Nat.not_lt.mpr q.2 h).elim
  (k a o (fun q=>no (hW a q)) (fun q=>no (hf a q)) e).trans e.symm
 have low:∀a o,a<cx.cX->w.h.get? a=some o->s'.heap.get? a=some o:=fun a o h e=>(kk a (.inr h) ⟨o,e⟩).trans e
 exact⟨⟨I.rel.step fun a h=>kk a (.inl h) (I.rel.live a h),DA I.old low,h1.trans I.os,h2.trans I.gens,let⟨mc,hmc,Ms⟩:=I.lim;⟨mc,hmc.at' fun o e=>low _ o I.low e,Ms⟩,I.low,I.i8,Nat.le_trans I.ge hz,
  let⟨_,e,_,_⟩:=I.tab;I.tab.step (kk _ (.inr I.i8) ⟨_,e⟩) fun _ _ q=>q⟩,hz,fun a _ _ _ h4 h5 o e=>k a o h5 h4 e,u,fun _ _ q=>q,fun _ _ q=>q,fun _ _ q=>q⟩
theorem dK.Bv(fr:dK cx l w):w.h.FunFrames (default:Heap) l:=by
 have h1:=fr.ob
 have h2:=fr.env
 clear fr
 induction l with
 |nil=>trivial
 |cons e l ih =>
  obtain⟨hk,L,hL⟩:=h2 e (.head _)
  have hs:ek (e::l)=L::ek l:=by unfold ek;rw[List.filterMap_cons,hL]
  rw[hs] at h1
  obtain⟨o,ho,hd⟩:=h1 L (.head _)
  exact⟨hk,⟨L,o,hL,rfl,ho,hd⟩,ih (fun a ha=>h1 a (.tail _ ha)) fun e he=>h2 e (.tail _ he)⟩
theorem fF(hf:env.frame=some L):ek (env::l)=L::ek l:=by unfold ek;rw[List.filterMap_cons,hf]
theorem u6.out(hf:env.frame=some L):u6 cx (env::l) N w e m->u6 cx l N w e m
 |.mk a vs q (.mk dx oe mm t h2 h3 h4 h5 p n h6 h7 h8 h9 Mj Iw) tr=>.mk a vs q (.mk dx oe mm t h2 h3 h4 h5 p n h6 (fun q=>h7 (by rw[fF hf];exact .tail _ q)) h8 h9 Mj Iw) tr
theorem Ns1.get{h h':Heap}{a:Addr}{m:Str->Option Value}{o:Obj}(n:h.Ns1 a m) (e:h.get? a=some o) (e':h'.get? a=some o):h'.Ns1 a m :=
 let⟨_,es,ep,e1,r⟩:=n;⟨o,es,ep,e',by(injection e.symm.trans e1 with zx;subst zx);exact r⟩
theorem pJ{Q:Unit->Shared->Prop}(ic:A.frames=some (env::l)) (hf:env.frame=some L) (I:Inv cx w) (fr:dK cx (env::l) w) (x:xw cx (env::l) N w e m)
  (hQ:∀s',Ev cx (ek (env::l)) (fun a=>N<=a) w (w.at s')->u6 cx (env::l) N (w.at s') e m->Q () s'):wpAny (model cx.prog cx.w) A (noteFrame e env) (fun _ wW=>wpAny (model cx.prog cx.w) A (setFlight e none) Q E wW) E w.s:=by
 obtain⟨a,vs,rfl,⟨dx,oe,mm,t,he,hc,GK,hd,pa,hNa,IB,hnfr,Kl,Qo,N8,N9⟩,hvs⟩:=x
 have hl:=fr.Bv
 obtain⟨od,es,ep,hod,Mu,hn1r⟩:=id Kl
 have VT:∀{b:Addr}{o:Obj}{us:Array Value},b∈ek (env::l)->w.h.get? b=some o->o.data≠.fields us:=fun hb e d=>let⟨_,e',Gh⟩:=fr.ob _ hb;by(injection e.symm.trans e' with zx;subst zx);exact Gh _ d
 have fin:∀(X:Addr->Prop) (h1 h2:Heap) (T:Addr),(∀b,X b->N<=b/\w.G b=.out/\cx.cX<=b/\b≠a/\b≠dx/\b∉ek (env::l))->h1.objs.size=w.n->(∀b o,¬X b->w.h.get? b=some o->h1.get? b=some o)->Lt (ek (env::l)) a oe vs h1 h2 T->Q () { w.s with heap:=h2 }:=fun X h1 h2 T hX hz k1 y=>by
  have hT:w.n<=T:=hz▸y.lo
  have ev:Ev cx (ek (env::l)) (fun b=>X b\/b=a) w (w.at { w.s with heap:=h2 }):=by
   refine I.VS (fun b h=>?_) (fun b h=>⟨(fr.at' b h).out,(fr.at' b h).ge⟩) (fun b o h1 h2 e=>y.keep b o h2 (fun q=>h1 (.inr q)) (k1 b o (fun q=>h1 (.inl q)) e)) (fun b h h' o e=>?_) (Nat.le_trans hT (Nat.le_of_lt y.hi)) rfl rfl
   ·rcases h with h|rfl
    ·exact⟨(hX b h).2.1,(hX b h).2.2.1⟩
    ·exact⟨pa.out,pa.ge⟩
   ·exact y.slots b (fun q=>h' (.inr q)) o (k1 b o (fun q=>h' (.inl q)) e)
  have Uq:h2.get? dx=some od:=y.keep dx od hnfr IB (k1 dx od (fun q=>(hX dx q).2.2.2.2.1 rfl) hod)
  obtain⟨Mr,z1,z2,z3,z4⟩:=y.exc
  obtain⟨oT,ts,w1,w2,w3⟩:=y.top
  have Mv:T≠a:=fun q=>Nat.not_lt.mpr hT (q▸pa.lt)
  have Oa:1<vs.size:=by
   rcases hvs with q|⟨_,_,_,q,_⟩<;>exact(Array.getElem?_eq_some_iff.mp q).1
  refine hQ _ (ev.wide fun b h=>h.elim (fun h=>(hX b h).1) fun h=>h▸hNa) (.mk a _ rfl (.mk dx Mr mm t z1 (z2.trans hc) (z3.trans GK) z4 (pa.ev ev) hNa IB hnfr (Ns1.get Kl hod Uq) ?_ N8 N9) (.mk T oT ts (Array.getElem?_setIfInBounds_self_of_lt Oa) Mv w1 w2 w3 ⟨Nat.le_trans I.ge hT,y.hi,I.rel.mu hT⟩ (Nat.le_trans (Nat.le_trans hNa (Nat.le_of_lt pa.lt)) hT)))
  obtain⟨o,e1,r⟩:=Qo
  injection e1.symm.trans hod with zx;subst zx
  exact⟨_,Uq,r⟩
 unfold noteFrame
 simp only[hf]
 rcases hvs with h1|⟨T,oT,ts,h1,Mv,hT,DB,h3,pT,hNT⟩
 ·refine wpAny_bind (wpAny_field he hd h1 ?_)
  rw[if_neg (by decide)]
  exact nv ic hl hf he hd (Array.getElem?_eq_some_iff.mp h1).1 fun h2 T y=>fin (fun _=>False) w.h h2 T (fun _ q=>q.elim) rfl (fun _ _ _ e=>e) y
 ·refine wpAny_bind (wpAny_field he hd h1 ?_)
  rw[if_pos (show(Value.ref T != Value.none)=true from rfl)]
  refine wpAny_bind (wpAny_field hT DB h3 ?_)
  rw[if_neg (show ¬((Value.none==rawInt L)=true) from by simp[rawInt])]
  refine wpAny_bind (wpAny_setField hT DB (Array.getElem?_eq_some_iff.mp h3).1 ?_)
  have other:∀b,b≠T->(w.h.update T (Obj.mapFields (·.setIfInBounds 3 Value.none))).get? b=w.h.get? b:=fun b hb=>Heap.get?_update_other _ _ (Ne.symm hb)
  have hz:(w.h.update T (Obj.mapFields (·.setIfInBounds 3 Value.none))).objs.size=w.n:=size_update ..
  have VU:T∉ek (env::l):=fun q=>VT q hT DB
  have VV:dx≠T:=fun q=>by subst q;(injection hod.symm.trans hT with zx;subst zx);rw[DB] at Mu;injection Mu
  refine nv ic (hl.of_keeps fun b o hb RM=>⟨o,(other b fun q=>?_).trans hb,rfl⟩) hf ((other a Mv.symm).trans he) hd (Array.getElem?_eq_some_iff.mp h1).1 fun h2 T2 y =>
   fin (fun b=>b=T) _ h2 T2 (fun b q=>q▸⟨hNT,pT.out,pT.ge,Mv,VV.symm,VU⟩) hz (fun b o hb e=>(other b hb).trans e) y
  subst q
  injection hb.symm.trans hT with zx;subst zx
  exact RM ts DB
theorem kr{Q:Unit->Shared->Prop}(ic:A.frames=some (env::l)) (hf:env.frame=some L) (I:Inv cx w) (fr:dK cx (env::l) w) (x:xw cx (env::l) N w e m)
  (hQ:∀s',Ev cx (ek (env::l)) (fun a=>N<=a) w (w.at s')->u6 cx (env::l) N (w.at s') e m->Q () s'):wpAny (model cx.prog cx.w) A («leaving» env e) Q E w.s:=by
 unfold«leaving»
 exact wpAny_bind (pJ ic hf I fr x hQ)
end
theorem Km{x y:Str}(h:x≠y):(x==y)=false:=beq_eq_false_iff_ne.mpr h
theorem mS{α:Type}{x:Str}{ps:List Str}:∀{us:List α}{i:Nat},ps.Nodup->ps[i]? = some x->(ps.zip us).lookup x=us[i]?:=by
 induction ps with
 |nil=>exact fun _ e=>nomatch e
 |cons p ps ih =>
  intro us i hn e
  obtain⟨h1,h2⟩:=List.nodup_cons.mp hn
  cases us with
  |nil=>rfl
  |cons u us =>
   rw[List.zip_cons_cons,List.lookup_cons]
   cases i with
   |zero=>(injection e with e;subst e);rw[beq_self_eq_true];rfl
   |succ i=>rw[Km (show x≠p from fun q=>h1 (q▸List.mem_of_getElem? e))];exact ih h2 e
theorem zl{fin:List (Str×Value)}{ps:List Str}:∀{vals:List Value},ps.length=vals.length->(∀(i:Nat) (x:Str),ps[i]? = some x->fin.lookup x=vals[i]?)->ps.filterMap (fun n=>(fin.lookup n).map (n,·))=ps.zip vals:=by
 induction ps with
 |nil=>exact fun _ _=>rfl
 |cons p ps ih =>
  intro vals h hl
  induction vals with
  |nil=>injection h
  |cons v vals =>
   rw[List.filterMap_cons,hl 0 p rfl]
   exact congrArg (List.cons _) (ih (Nat.succ.inj h) fun i x e=>hl (i+1) x e)
inductive ny(h:Heap) (fd:FuncData):List Value->Prop
 |no (e:fd.defaults=.none):ny h fd []
 |one (T:Addr) (o:Obj) (n:Nat) (d:Value) (e:fd.defaults=.ref T) (ho:h.get? T=some o) (hd:o.data=.seq #[d] n):ny h fd [d]
theorem rm{M:Model}{A:Around}{E:Value->Shared->Prop}{s:Shared}{fd:FuncData}{ds:List Value}{Q:Option (Array Value)->Shared->Prop}(h:ny s.heap fd ds) (hq:∀d,(d.getD #[]).toList=ds->Q d s):wpAny M A (seqItems? fd.defaults) Q E s:=by
 induction h with
 |no e=>rw[e];exact wpAny_pure (hq none rfl)
 |one T o n d e ho hd=>rw[e];exact wpAny_seqItems ho hd (hq _ rfl)
structure Plain(fd:FuncData) (ps:List Str):Prop where
 GN:fd.params.posonlyargs=[]
 args:fd.params.args.map (·.arg)=ps
 vararg:fd.params.vararg=none
 kwonly:fd.params.kwonlyargs=[]
 kwarg:fd.params.kwarg=none
 nodup:ps.Nodup
inductive Given(us:List Value) (n:Nat):List Value->List Value->Prop
 |all (ds:List Value) (h:us.length=n) (k:ds.length<=n):Given us n ds us
 |one (d:Value) (h:us.length+1=n):Given us n [d] (us++[d])
section
variable {us ds vals:List Value}{ps:List Str}{n:Nat}
theorem Given.len(g:Given us n ds vals):n=vals.length:=by
 induction g with
 |all _ h=>exact h.symm
 |one d h=>rw[List.length_append];exact h.symm
theorem Given.le(g:Given us n ds vals):us.length<=n:=by
 induction g with
 |all _ h=>exact Nat.le_of_eq h
 |one d h=>exact Nat.le_of_succ_le (Nat.le_of_eq h)
theorem Given.dl(g:Given us n ds vals):ds.length<=n/\n-ds.length<=us.length:=by
 induction g with
 |all _ h k=>exact⟨k,h▸Nat.sub_le ..⟩
 |one d h=>exact⟨h▸Nat.le_add_left ..,by rw[<-h];exact Nat.le_refl _⟩
theorem Given.missing(g:Given us ps.length ds vals) (hn:ps.Nodup):List.filter (fun n=>(List.lookup n (ps.zip us)).isNone) (List.take (ps.length-(ds.drop (ds.length-ps.length)).length) ps)=[]:=by
 rw[Nat.sub_eq_zero_of_le g.dl.1,List.drop_zero]
 rw[List.filter_eq_nil_iff]
 intro x hx
 obtain⟨i,hi,he⟩:=List.mem_take_iff_getElem.mp hx
 have Qn:i<ps.length-ds.length:=Nat.lt_of_lt_of_le hi (Nat.min_le_left ..)
 rw[mS hn (by rw[<-he];exact List.getElem?_eq_getElem (Nat.lt_of_lt_of_le Qn (Nat.sub_le ..))),List.getElem?_eq_getElem (Nat.lt_of_lt_of_le Qn g.dl.2)]
 exact Bool.false_ne_true
noncomputable def DC(x:Str×Value) (r:List (Str×Value)):Sem (ForInStep (List (Str×Value))):=if(List.lookup x.1 r).isNone=true then pure (ForInStep.yield (r++[(x.1,x.2)])) else pure (ForInStep.yield r)
theorem Given.fill(g:Given us ps.length ds vals) (hn:ps.Nodup) (h1:ds.length<=1):forIn ((ps.drop (ps.length-(ds.drop (ds.length-ps.length)).length)).zip (ds.drop (ds.length-ps.length))) (ps.zip us) DC=pure (ps.zip vals):=by
 have z1:ds.length-ps.length=0:=Nat.sub_eq_zero_of_le g.dl.1
 rw[z1,List.drop_zero]
 cases ds with
 |nil=>cases g with| all=>rw[List.zip_nil_right];rfl
 |cons d ds =>
  cases List.eq_nil_of_length_eq_zero (Nat.le_zero.mp (Nat.le_of_succ_le_succ h1))
  obtain⟨qs,q,rfl⟩ : ∃qs q,ps=qs++[q]:=⟨ps.dropLast,ps.getLast (fun z=>by have:=g.dl.1;rw[z] at this;exact absurd this (Nat.not_succ_le_zero 0)),(List.dropLast_concat_getLast _).symm⟩
  have hz:(qs++[q]).length-[d].length=qs.length:=by rw[List.length_append];rfl
  rw[hz,List.drop_left]
  have ha:=mS (us:=us) hn (gq rfl:(qs++[q])[qs.length]? = some q)
  show DC (q,d) ((qs++[q]).zip us) >>= _=_
  unfold DC
  cases g with
  |all _ h=>rw[if_neg (by rw[ha,List.getElem?_eq_getElem (by rw[h,List.length_append];exact Nat.lt_succ_self _)];exact Bool.false_ne_true)];rfl
  |one d' h =>
   have hq:us.length=qs.length:=by rw[List.length_append] at h;exact Nat.succ.inj h
   have e:(qs++[q]).zip us=qs.zip us:=by
    have:=List.zip_append (r₁:=[q]) (r₂:=([]:List Value)) hq.symm
    rw[List.append_nil,List.zip_nil_right,List.append_nil] at this
    exact this
   rw[if_pos (by rw[ha,List.getElem?_eq_none (Nat.le_of_eq hq)];rfl),List.zip_append hq.symm,e]
   rfl
end
theorem oO{α:Type}{M:Model}{A:Around}{E:Value->Shared->Prop}{s:Shared}{Q:α->Shared->Prop}{c:Prop} [Decidable c] {x y:Sem α}(h:¬c) (k:wpAny M A y Q E s):wpAny M A (if c then x else y) Q E s:=by rw[if_neg h];exact k
theorem Bw{M:Model}{A:Around}{E:Value->Shared->Prop}{Q:List (Str×Value)->Shared->Prop}{s:Shared}{us ds vals:List Value}{ar:List Arg}{nm qn kd df bd sc gl cl Kn kdf doc pm an cd ct bt} (hd:∀Q:Option (Array Value)->Shared->Prop,(∀d,(d.getD #[]).toList=ds->Q d s)->wpAny M A (seqItems? Kn) Q E s)
  (g:Given us (ar.map (·.arg)).length ds vals) (hn:(ar.map (·.arg)).Nodup) (h1:ds.length<=1) (hq:Q ((ar.map (·.arg)).zip vals) s):wpAny M A (bindArgs ⟨nm,qn,⟨[],ar,none,[],kd,none,df⟩,bd,sc,gl,cl,Kn,kdf,doc,pm,an,cd,ct,bt⟩ ⟨us,[]⟩) Q E s :=
 wpAny_bind (wpAny_pure (wpAny_bind (hd _ fun d Mu =>
  oO (fun q=>Nat.not_lt.mpr g.le (of_decide_eq_true (Bool.and_eq_true_iff.mp q).1)) (oO (fun q=>Bool.false_ne_true ((congrArg (fun l:List Str=>!l.isEmpty) ((show Given us (ar.map (·.arg)).length (d.getD #[]).toList vals from Mu.symm▸g).missing hn)).symm.trans q))
   (wpAny_bind (wpAny_of_eq ((show Given us (ar.map (·.arg)).length (d.getD #[]).toList vals from Mu.symm▸g).fill hn (Mu.symm▸h1)) (wpAny_bind (wpAny_pure (oO (fun q=>nomatch q) (wpAny_pure (show Q (List.filterMap _ (ar.map (·.arg)++[])) s from
    (List.append_nil (ar.map (·.arg))).symm▸(zl (fin:=(ar.map (·.arg)).zip vals) g.len fun i x e=>mS hn e).symm▸hq)))))))))))
theorem args_eq{p:Arguments}(h1:p.posonlyargs=[]) (h2:p.vararg=none) (h3:p.kwonlyargs=[]) (h4:p.kwarg=none):p=⟨[],p.args,none,[],p.kw_defaults,none,p.defaults⟩ :=
 match p,h1,h2,h3,h4 with
 |⟨_,a,_,_,b,_,c⟩,h1,h2,h3,h4=>congrFun (congr (congrFun (congr (congr (congrFun (congrArg Arguments.mk h1) a) h2) h3) b) h4) c
theorem jg{s:Shared}{fd:FuncData}{us ds vals:List Value}{ps:List Str}(P:Plain fd ps) (hd:ny s.heap fd ds) (g:Given us ps.length ds vals):BindsTo s fd ⟨us,[]⟩ (ps.zip vals):=fun M A E Q hq=>by
 cases P.args
 exact Eq.subst (motive:=fun p=>wpAny M A (bindArgs { fd with params:=p } ⟨us,[]⟩) Q E s) (args_eq P.GN P.vararg P.kwonly P.kwarg).symm (Bw (fun Q=>rm hd) g P.nodup (by induction hd<;>exact Nat.le_of_ble_eq_true rfl) hq)
theorem xP{B:List (Str×Value)->(Str->Option Value)->Str->Option Value}{c:Str->Prop}(h0:∀m,B [] m=m) (h1:∀n v r m,c n->B ((n,v)::r) m=B r fun y=>if y=n then some v else m y) (h2:∀n v r m,¬c n->B ((n,v)::r) m=B r m)
  {y:Str}(hy:c y){ps:List Str}:∀{vals:List Value}{m:Str->Option Value}{j:Nat}{v:Value},ps.Nodup->ps[j]? = some y->vals[j]? = some v->B (ps.zip vals) m y=some v:=by
 have out:∀{ps:List Str}{vals:List Value}{m:Str->Option Value},y∉ps->B (ps.zip vals) m y=m y:=fun{ps}=>by
  induction ps with
  |nil=>intro vals m _;exact congrFun (h0 m) y
  |cons p ps ih =>
   intro vals m h
   induction vals with
   |nil=>exact congrFun (h0 m) y
   |cons u vals =>
    rw[List.zip_cons_cons]
    by_cases hp:c p
    ·rw[h1 _ _ _ _ hp,ih fun q=>h (.tail _ q)];exact if_neg (show ¬y=p from fun q=>h (q▸.head _))
    ·rw[h2 _ _ _ _ hp];exact ih fun q=>h (.tail _ q)
 induction ps with
 |nil=>exact fun _ e=>nomatch e
 |cons p ps ih =>
  intro vals m j v hn e1 e2
  obtain⟨n1,n2⟩:=List.nodup_cons.mp hn
  induction vals with
  |nil=>injection e2
  |cons u vals =>
   rw[List.zip_cons_cons]
   induction j with
   |zero=>(injection e1 with e1;subst e1);(injection e2 with e2;subst e2);rw[h1 _ _ _ _ hy,out n1];exact if_pos rfl
   |succ j =>
    by_cases hp:c p
    ·rw[h1 _ _ _ _ hp];exact ih n2 e1 e2
    ·rw[h2 _ _ _ _ hp];exact ih n2 e1 e2
theorem t8{k:Str->Option NameKind}{y:Str}{ps:List Str}{vals:List Value}{m:Str->Option Value}{j:Nat}{v:Value}(hn:ps.Nodup) (e1:ps[j]? = some y) (e2:vals[j]? = some v) (hk:k y=some .local):bindL k (ps.zip vals) m y=some v :=
 xP (B:=bindL k) (c:=fun x=>k x=some .local) (fun _=>rfl) (fun n v r m h=>congrArg (bindL k r) (if_pos h)) (fun n v r m h=>congrArg (bindL k r) (if_neg h)) hk hn e1 e2
theorem Bx{k:Str->Option NameKind}{y:Str}{ps:List Str}{vals:List Value}{m:Str->Option Value}{j:Nat}{v:Value}(hn:ps.Nodup) (e1:ps[j]? = some y) (e2:vals[j]? = some v) (hk:k y≠some .local):bindC k (ps.zip vals) m y=some v :=
 xP (B:=bindC k) (c:=fun x=>k x≠some .local) (fun _=>rfl) (fun n v r m h=>congrArg (bindC k r) (if_neg h)) (fun n v r m h=>congrArg (bindC k r) (if_pos (Classical.not_not.mp h))) hk hn e1 e2
theorem rq{x:Str}{names:List (Str×NameKind)}:∀{n:Nat}{acc:List (Str×Addr)},((x,NameKind.cell)∈names\/∃c,acc.lookup x=some c)->∃c,(cellsFrom n names acc).lookup x=some c:=by
 induction names with
 |nil=>exact fun h=>h.elim (fun h=>nomatch h) id
 |cons p r ih =>
  intro n acc h
  obtain⟨y,k⟩:=p
  unfold cellsFrom
  cases hk:(k==NameKind.cell) with
  |true =>
   refine ih (h.elim (fun h=>?_) fun⟨c,h⟩=>.inr ?_)
   ·cases h with
    |head=>exact .inr ⟨n,by rw[List.lookup_cons,beq_self_eq_true]⟩
    |tail _ h=>exact .inl h
   ·rw[List.lookup_cons]
    cases x==y with
    |true=>exact⟨n,rfl⟩
    |false=>exact⟨c,h⟩
  |false =>
   refine ih (h.elim (fun h=>?_) .inr)
   cases h with
   |head=>injection hk
   |tail _ h=>exact .inl h
structure FnAt(cx:Cx) (f:Nat) (Fd:Fn) (ps:List Str) (ds:List Value) (vs:List (Str×Nat)) (body:List Stmt):Prop where
 obj:∃o,cx.h₀.get? (cx.fA f)=some o/\o.cls≠.none/\o.data=.func (cx.fd f)
 code:∃c oc fs t,(cx.fd f).code=.ref c/\cx.h₀.get? c=some oc/\oc.cls≠.none/\oc.data=.fields fs/\fs[1]? = some (.str (cx.fd f).qualname t)
 body:(cx.fd f).body=.stmts body
 RN:(cx.fd f).closure=[]
 glob:(cx.fd f).globals=mainGlobals
 blt:(cx.fd f).builtins=builtinsNs
 co:(cx.fd f).scope.isCoroutine=false
 gen:(cx.fd f).scope.isGenerator=false
 kind:(cx.fd f).scope.kind=.function
 plain:Plain (cx.fd f) ps
 np:ps.length=Fd.np
 pk:∀x∈ps,(cx.fd f).scope.names.lookup x=some .local\/(cx.fd f).scope.names.lookup x=some .cell
 free:∀x,(cx.fd f).scope.names.lookup x≠some .free
 VW:∀y j,(y,j)∈vs->j<Fd.np->ps[j]? = some y
 defs:ny cx.h₀ (cx.fd f) ds
 Oc:∀T o,(cx.fd f).defaults=.ref T->cx.h₀.get? T=some o->o.cls≠.none
 Kn:∀G,bh G ds Fd.df
 dl:ds.length<=ps.length
noncomputable def dY(cx:Cx) (f:Nat) (L:Addr):Env:=callEnvC (cx.fd f) L (cx.fA f)
noncomputable def pK(cx:Cx) (A:Around) (l:List Env) (f:Nat) (vs:List (Str×Nat)) (L:Addr):Kx:=⟨A.deeper (dY cx f L),dY cx f L::l,dY cx f L,vs⟩
structure GP(cx:Cx) (A:Around) (l:List Env) (f:Nat) (vs:List (Str×Nat)) (g:Gm) (w:Wd) (s1:Shared):Prop where
 at':At cx (pK cx A l f vs w.n) g (w.at s1)
 ev:iA cx l w (w.at s1)
 new:∀a,Dm (dY cx f w.n) a->w.n<=a
section
variable {cx:Cx}{l:List Env}{w w' w1:Wd}{vs:List (Str×Nat)}{g:Gm}{s1:Shared}{A:Around}{E:Value->Shared->Prop}{f:Nat}{Fd:Fn}{ps:List Str}{ds us vals:List Value}{body:List Stmt}{C:fj}{sO:List AV}{h:Heap}{W:Addr->Prop}
theorem FnAt.defAt(X:FnAt cx f Fd ps ds vs body) (K:OldK cx.h₀ h):ny h (cx.fd f) ds:=by
 have d:=X.defs
 induction d with
 |no e=>exact .no e
 |one T o n d e ho hd=>exact .one T o n d e (K.get_of_cls ho (X.Oc T o e ho)) hd
theorem dw.of{G:Addr->Lg}{as:List Pl}{vs:List Value}{l:List PV}(r:bh G vs l):dw G as vs (l.map AV.t):=by
 induction r using bh.ind with
 |h0=>exact .nil
 |h1 v vs d l x r ih=>exact .cons x ih
theorem dw.append{G:Addr->Lg}{as:List Pl}{a b:List Value}{x y:List AV}(r:dw G as a x) (q:dw G as b y):dw G as (a++b) (x++y):=by
 induction r with
 |nil=>exact q
 |cons x _ ih=>exact .cons x ih
theorem dw.get{G:Addr->Lg}{as:List Pl}{us:List Value}{x:List AV}(r:dw G as us x):∀{i:Nat}{a:AV},x[i]? = some a->∃v,us[i]? = some v/\cO G as v a:=by
 induction r with
 |nil=>exact fun e=>nomatch e
 |cons x _ ih =>
  intro i a e
  induction i with
  |zero=>(injection e with e;subst e);exact⟨_,rfl,x⟩
  |succ i=>exact ih (i:=i) e
inductive IM(w:Wd) (us ds:List Value) (n:Nat) (g:Gm):Prop
 |mk (vals:List Value) (as:List AV) (gv:Given us n ds vals) (r:dw w.G w.as vals as) (hg:∀(j:Nat) (a:AV),g[j]? = some (some a)->j<n/\as[j]? = some a)
theorem By{a p d:Nat}(hd:d<=1) (hb:a<=p/\p<=a+d) (hq:¬a=p):a+1=p/\d=1 :=
 have h:a+1<=p:=Nat.lt_of_le_of_ne hb.1 hq
 have e:d=1:=Nat.le_antisymm hd (Nat.le_of_add_le_add_left (Nat.le_trans h hb.2))
 ⟨Nat.le_antisymm h (e▸hb.2),e⟩
theorem begun(hd:ds.length<=1) (dl:ds.length<=Fd.np) (rd:bh w.G ds Fd.df) (r:dw w.G w.as us sO) (e:Fd.start sO=some g):IM w us ds Fd.np g:=by
 unfold Fn.start at e
 split at e
 ·rename_i hb
  injection e with e;subst e
  have h1:=r.length
  have h2:=rd.length
  have fin:∀{vals:List Value}{ex:List PV},Given us Fd.np ds vals->dw w.G w.as vals (sO++ex.map AV.t)->IM w us ds Fd.np ((sO++ex.map AV.t).map some++List.replicate Fd.nl none):=fun{vals ex} gv ra =>
   have hl:((sO++ex.map AV.t).map some).length=Fd.np:=(List.length_map ..).trans (ra.length.symm.trans gv.len.symm)
   .mk vals _ gv ra fun j a q=>by
    by_cases hj:j<Fd.np
    ·rw[List.getElem?_append_left (hl.symm▸hj),List.getElem?_map] at q
     obtain⟨a',e1,e2⟩:=Option.map_eq_some_iff.mp q
     injection e2 with e2;subst e2
     exact⟨hj,e1⟩
    ·rw[List.getElem?_append_right (hl.symm▸Nat.le_of_not_lt hj)] at q
     cases(List.mem_replicate.mp (List.mem_of_getElem? q)).2
  by_cases hq:sO.length=Fd.np
  ·rw[hq,Nat.add_sub_cancel_left,List.drop_eq_nil_of_le (Nat.le_refl _)]
   exact fin (ex:=[]) (.all ds (h1.trans hq) dl) (by rw[List.map_nil,List.append_nil];exact r)
  ·have hz:=By hd (h2▸hb) hq
   obtain⟨d,rfl⟩:=List.length_eq_one_iff.mp hz.2
   rw[show sO.length+Fd.df.length-Fd.np=0 by rw[<-h2,<-hz.1];exact Nat.sub_self _,List.drop_zero]
   exact fin (.one d (by rw[h1];exact hz.1)) (r.append (.of rd))
 ·injection e
theorem FnAt.entry(X:FnAt cx f Fd ps ds vs body) (I:Inv cx w) (fr:dK cx l w) (hv:∀y j a,(y,j)∈vs->g[j]? = some (some a)->∃v,ps[j]? = some y/\vals[j]? = some v/\cO w.G w.as v a)
  (IP:InCallC w.s (dY cx f w.n).locals (bindL (dY cx f w.n).kindOf (ps.zip vals) fun _=>none) (dY cx f w.n).cells (bindC (dY cx f w.n).kindOf (ps.zip vals) fun _=>none) s1):GP cx A l f vs g w s1:=by
 obtain⟨⟨⟨h1,tk,Ko⟩,yN,De,hfresh⟩,nA,hapart,habove⟩:=IP
 have yN:s1.heap.Ns w.n _:=yN
 have qQ:w.n<s1.heap.objs.size:=by obtain⟨o,_,_,e,_⟩:=yN;exact Heap.lt_size e
 have ev:iA cx l w (w.at s1):=I.keeps De (by rw[Ko]) (by rw[Ko]) (Nat.le_of_lt qQ)
 have pL:iz cx (w.at s1) w.n:=⟨I.ge,qQ,I.rel.mu (Nat.le_refl _)⟩
 have Mw:=fr.ev ev
 have RP:ek (dY cx f w.n::l)=w.n::ek l:=fF rfl
 obtain⟨oL,esL,epL,eoL,dL,_⟩:=id yN
 have wQ:∀y c,(dY cx f w.n).cells.lookup y=some c->w.n<c:=fun y c e=>habove y c (PySem.mem_of_lookup e)
 have ck:∀y,(dY cx f w.n).kindOf y=some .cell->∃c,(dY cx f w.n).cells.lookup y=some c:=fun y hy=>rq (.inl (PySem.mem_of_lookup hy))
 refine⟨⟨ev.inv,⟨fun a ha=>?_,fun a ha=>?_,fun e he=>?_⟩,⟨X.kind,X.glob,X.blt,pL,⟨_,yN⟩,fun y c e=>?_,fun y z c e1 e2=>name_of_addr hapart (PySem.mem_of_lookup e1) (PySem.mem_of_lookup e2),fun y hy=>?_⟩,fun y j a e1 e2=>?_⟩,ev,fun a h=>h.elim (fun h=>Nat.le_of_eq h.symm) fun⟨y,e⟩=>Nat.le_of_lt (wQ y a e)⟩
 ·rw[show ek (pK cx A l f vs w.n).l=w.n::ek l from RP] at ha
  cases ha with
  |head=>exact pL
  |tail _ ha=>exact Mw.at' a ha
 ·rw[show ek (pK cx A l f vs w.n).l=w.n::ek l from RP] at ha
  cases ha with
  |head=>exact⟨oL,eoL,fun vs q=>by rw[dL] at q;injection q⟩
  |tail _ ha=>exact Mw.ob a ha
 ·cases he with
  |head=>exact⟨fun q=>(by rw[show(dY cx f w.n).scope.kind=.function from X.kind] at q;injection q),_,rfl⟩
  |tail _ he=>exact Mw.env e he
 ·have hc:=wQ y c e
  refine⟨⟨Nat.le_trans I.ge (Nat.le_of_lt hc),(nA y c e).lt,I.rel.mu (Nat.le_of_lt hc)⟩,fun q=>?_,Nat.ne_of_gt hc,_,nA y c e⟩
  rw[show ek (pK cx A l f vs w.n).l=w.n::ek l from RP] at q
  cases q with
  |head=>exact Nat.lt_irrefl _ hc
  |tail _ q=>exact Nat.lt_asymm hc (fr.at' c q).lt
 ·exact hy.elim (ck y) fun hy=>absurd hy (X.free y)
 ·obtain⟨v,hy,tM,rv⟩:=hv y j a e1 e2
  refine⟨v,?_,rv.ev ev⟩
  rcases X.pk y (List.mem_of_getElem? hy) with hk|hk
  ·exact .loc hk _ yN (t8 X.plain.nodup hy tM hk)
  ·obtain⟨c,hc⟩:=ck y hk
   refine .cell (.inl hk) c hc ?_
   have z:=nA y c hc
   rw[Bx X.plain.nodup hy tM (fun q=>by cases(show(cx.fd f).scope.names.lookup y=some .local from q).symm.trans hk)] at z
   exact z
theorem Ev.pop{env:Env}{L:Addr}(hf:env.frame=some L) (y:Ev cx (ek (env::l)) W w w'):Ev cx (ek l) (fun a=>W a\/a=L) w w':=by
 rw[fF hf] at y
 exact⟨y.inv,y.size,fun a h1 h2 h3 h4 h5=>y.keep a h1 h2 h3 (fun q=>by
  cases q with
  |head=>exact h5 (.inr rfl)
  |tail _ q=>exact h4 q) fun q=>h5 (.inl q),fun a h1 h2=>y.frame a (.tail _ h1) fun q=>h2 (.inl q),y.sub,y.pre,y.out⟩
noncomputable def BodyOk(cx:Cx) (A:Around) (l:List Env) (C:fj) (f:Nat) (Fd:Fn) (vs:List (Str×Nat)) (body:List Stmt):Prop:=∀L,sV cx (pK cx A l f vs L) body (bO C Fd.body)
noncomputable def post(Q E:Value->Shared->Prop):Result->Shared->Prop:=fun r s'=>match r with
 |.ok (.ret v)=>Q v s'
 |.ok _=>False
 |.error e=>E e s'
noncomputable def Callee(cx:Cx) (A:Around) (l:List Env) (C:fj) (f:Nat):Prop :=
 ∀w us sO,Inv cx w->dK cx l w->dw w.G w.as us sO->∀Q E,bT cx l w (C f sO w.st) cG Q E->codeAny (model cx.prog cx.w) A (.call (.ref (cx.fA f)) ⟨us,[]⟩) (post Q E) w.s
structure RQ(cx:Cx) (l:List Env) (w:Wd) (r:Option Out) (Q:Value->Shared->Prop) (E:Value->Shared->Prop):Prop where
 ne:r≠none
 nc:∀g st,r≠some (.cont g st)
 next:∀(g:Gm) (w':Wd),r=some (.next g w'.st)->iA cx l w w'->Q .none w'.s
 ret:∀(a:AV) (v:Value) (w':Wd),r=some (.ret a w'.st)->iA cx l w w'->cO w'.G w'.as v a->Q v w'.s
 exc:∀(m:Tx) (e:Value) (w':Wd),r=some (.exc m w'.st)->iA cx l w w'->u6 cx l w.n w' e m->E e w'.s
theorem ny.le{fd:FuncData}(d:ny h fd ds):ds.length<=1:=by induction d<;>exact Nat.le_of_ble_eq_true rfl
theorem FnAt.run{Q:Value->Shared->Prop}(X:FnAt cx f Fd ps ds vs body) (gP:A.depth<recursionLimit) (ic:A.frames=some l) (hb:BodyOk cx A l C f Fd vs body) (I:Inv cx w) (fr:dK cx l w) (ar:dw w.G w.as us sO) (GQ:Fd.start sO=some g)
  (T:RQ cx l w (bO C Fd.body g w.st) Q E):codeAny (model cx.prog cx.w) A (.call (.ref (cx.fA f)) ⟨us,[]⟩) (post Q E) w.s:=by
 obtain⟨o,ho,hc,hd⟩:=X.obj
 obtain⟨c,oc,fs,t,c1,c2,c3,c4,c5⟩:=X.code
 have da:=X.defAt I.old
 obtain⟨vals,as,gv,ra,hg⟩:=begun (w:=w) da.le (X.np▸X.dl) (X.Kn _) ar GQ
 rw[<-X.np] at gv hg
 refine codeAny_call_function gP (I.old.get_of_cls ho hc) hd X.co X.gen X.body ⟨c,oc,fs,t,c1,I.old.get_of_cls c2 c3,c4,c5⟩ (jg X.plain da gv _ _ _ _ ?_)
 rw[X.RN]
 refine wpAny_newFunctionEnv_cells X.kind (fun p hp=>(X.pk p.1 (List.of_mem_zip hp).1).imp id fun q=>⟨q,let⟨c,hc⟩:=rq (n:=w.n+1) (acc:=[]) (.inl (PySem.mem_of_lookup q));by rw[hc];rfl⟩) fun env he s1 x=>?_
 cases(he:env=dY cx f w.n)
 refine⟨I.lim.keeps x.toInCall.keep,codeAny_func ?_⟩
 obtain⟨X1,tM,new⟩:=X.entry (A:=A) I fr (fun y j a e1 e2=>let⟨hj,ea⟩:=hg j a e2;let⟨v,q,r⟩:=ra.get ea;⟨v,X.VW y j e1 (X.np▸hj),q,r⟩) x
 have lim:∀a∈ek l,a<w.n:=fun a q=>(fr.at' a q).lt
 have GR:∀{w'},Dn cx (pK cx A l f vs w.n) (w.at s1) w'->iA cx l w w':=fun y=>tM.over (y.pop rfl) (fun a q=>.inl (q.elim (new a) fun q=>Nat.le_of_eq q.symm)) lim
 exact hb w.n g (w.at s1) X1 _ _ ⟨T.ne,fun g' w' e y _=>T.next g' w' e (GR y),fun g' w' e _ _=>absurd e (T.nc _ _),fun a v g' w' e y _ r=>T.ret a v w' e (GR y) r,fun m u g' w' e y X' q =>
  kr (N:=w.n) (Around.frames_deeper ic) rfl X'.inv X'.fr (q.mono tM.size) fun s2 z zx=>T.exc m u (w'.at s2) e ((GR y).over (z.pop rfl) (fun a q=>.inl (q.elim id fun q=>Nat.le_of_eq q.symm)) lim) (zx.out rfl)⟩
noncomputable def hide(G:Addr->Lg):Addr->Lg:=fun a=>match G a with| .nd _=>.out|x=>x
noncomputable def nB(G G':Addr->Lg):Addr->Lg:=fun a=>match G a with| .nd i=>.nd i|_=>G' a
theorem lN{G:Addr->Lg}{a:Addr}{o:FO}:hide G a=.fz o↔G a=.fz o:=by
 unfold hide
 cases G a with
 |nd=>exact⟨fun q=>(by injection q),fun q=>(by injection q)⟩
 |_=>exact Iff.rfl
theorem ku{G:Addr->Lg}{a:Addr}(h:G a=.out):hide G a=.out:=by unfold hide;rw[h]
theorem Ab{G:Addr->Lg}{a:Addr}{i:Nat}(h:G a=.nd i):hide G a=.out:=by unfold hide;rw[h]
theorem vq{G G':Addr->Lg}{a:Addr}{i:Nat}(h:G a=.nd i):nB G G' a=.nd i:=by unfold nB;rw[h]
theorem gy{G G':Addr->Lg}{a:Addr}(h:∀i,G a≠.nd i):nB G G' a=G' a:=by
 unfold nB
 cases q:G a with
 |nd i=>exact absurd q (h i)
 |_=>rfl
noncomputable def Wd.alone(w:Wd):Wd:=⟨hide w.G,[],[],w.s⟩
noncomputable def Wd.fR(w w':Wd):Wd:=⟨nB w.G w'.G,w.as,w.st,w'.s⟩
theorem Inv.alone(I:Inv cx w):Inv cx w.alone where
 rel:={ len:=rfl,nodes:=fun _ _ _ q=>(nomatch q),ff:=fun _ _ _ q=>(nomatch q),fz:=fun a o e=>I.rel.fz a o (lN.mp e),pg:=fun a c dx gs e=>lN.mpr (I.rel.pg a c dx gs (lN.mp e)),lo:=fun a h=>I.rel.lo a fun q=>h (ku q),live:=fun a h=>I.rel.live a fun q=>h (ku q) }
 old:=I.old
 os:=I.os
 gens:=I.gens
 lim:=I.lim
 low:=I.low
 i8:=I.i8
 ge:=I.ge
 tab:=let⟨ps,e,t,c⟩:=I.tab;⟨ps,e,t,fun pos cv q=>(c pos cv q).mono fun _ _=>lN.mpr⟩
theorem iz.alone{a:Addr}(p:iz cx w a):iz cx w.alone a:=⟨p.ge,p.lt,ku p.out⟩
theorem dK.alone(x:dK cx l w):dK cx l w.alone:=⟨fun a h=>(x.at' a h).alone,x.ob,x.env⟩
theorem bh.sub{G G':Addr->Lg}{vs:List Value}{l:List PV}(r:bh G vs l) (h:∀a o,G a=.fz o->G' a=.fz o):bh G' vs l:=r.mono h
theorem rt(I:Inv cx w) (y:iA cx l w.alone w'):Sub w'.G (w.fR w').G:=fun a o e=>by
 refine(gy fun i q=>?_).trans e
 have:=y.out a (I.rel.lt (q▸fun z=>by injection z)) (Ab q)
 rw[this] at e
 injection e
theorem Ev.fR(I:Inv cx w) (fr:dK cx l w) (y:iA cx l w.alone w'):iA cx l w (w.fR w'):=by
 have S:=I.rel
 have sub:=rt I y
 have out:∀a,a<w.n->w.G a=.out->(w.fR w').G a=.out:=fun a h e=>(gy fun i q=>by rw[e] at q;injection q).trans (y.out a h (ku e))
 have up:Sub w.G (w.fR w').G:=fun a o e=>sub a o (y.sub a o (lN.mpr e))
 have nd:∀{a i},w.G a=.nd i->w'.h.get? a=w.h.get? a:=fun{a i} e=>by
  have g:w.G a≠.out:=e▸fun q=>by injection q
  obtain⟨o,q⟩:=S.live a g
  exact(y.keep a (S.lo a g) (S.lt g) (Ab e) (fun z=>g (fr.at' a z).out) (fun z=>z) o q).trans q.symm
 refine⟨⟨⟨S.len,fun i p n e1 e2=>((S.nodes i p n e1 e2).congr fun a ha=>nd (S.ff i p n e1 e2 a ha)).mono up fun _ _ e=>e,fun i p n e1 e2 a ha=>vq (S.ff i p n e1 e2 a ha),fun a o e=>?_,fun a c dx gs e=>?_,fun a h=>?_,fun a h=>?_⟩,y.inv.old,y.inv.os,y.inv.gens,y.inv.lim,y.inv.low,y.inv.i8,y.inv.ge,
  let⟨ps,e,t,c⟩:=y.inv.tab;⟨ps,e,t,fun pos cv q=>(c pos cv q).mono sub⟩⟩,y.size,fun a h1 h2 h3 h4 h5=>y.keep a h1 h2 (ku h3) h4 h5,y.frame,up,fun _ _ e=>e,out⟩
 ·replace e:nB w.G w'.G a=.fz o:=e
  cases q:w.G a with
  |nd i=>rw[vq q] at e;injection e
  |_=>rw[gy (fun i z=>by rw[q] at z;injection z)] at e;exact y.inv.rel.fz a o e
 ·replace e:nB w.G w'.G a=_:=e
  cases q:w.G a with
  |nd i=>rw[vq q] at e;injection e
  |_=>rw[gy (fun i z=>by rw[q] at z;injection z)] at e;exact sub _ _ (y.inv.rel.pg a c dx gs e)
 ·replace h:nB w.G w'.G a≠_:=h
  cases q:w.G a with
  |nd i=>exact S.lo a (q▸fun z=>by injection z)
  |_=>rw[gy (fun i z=>by rw[q] at z;injection z)] at h;exact y.inv.rel.lo a h
 ·replace h:nB w.G w'.G a≠_:=h
  cases q:w.G a with
  |nd i=>obtain⟨o,e⟩:=S.live a (q▸fun z=>by injection z);exact⟨o,(nd q).trans e⟩
  |_=>rw[gy (fun i z=>by rw[q] at z;injection z)] at h;exact y.inv.rel.live a h
theorem u6.fR{e:Value}{m:Tx}(I:Inv cx w):u6 cx l w.n w' e m->u6 cx l w.n (w.fR w') e m
 |.mk a vs q (.mk dx oe mm t h2 h3 h4 h5 p n h6 h7 h8 h9 Mj Iw) (.mk T oT ts w1 w2 w3 w4 w5 pT nT) =>
  have pv:∀{a},w.n<=a->iz cx w' a->iz cx (w.fR w') a:=fun n p=>⟨p.ge,p.lt,(gy fun i q=>by rw[I.rel.mu n] at q;injection q).trans p.out⟩
  .mk a vs q (.mk dx oe mm t h2 h3 h4 h5 (pv n p) n h6 h7 h8 h9 Mj Iw) (.mk T oT ts w1 w2 w3 w4 w5 (pv nT pT) nT)
theorem vt{Q:Value->Shared->Prop}{own:Bool}{a:AV}{v:Value}(I:Inv cx w) (y:iA cx l w w') (r:cO w'.G w'.as v a) (T:bT cx l w (A6 own w.st.length a w'.st) cG Q E):Q v w'.s:=by
 induction own with
 |true=>exact T.ok _ v w' rfl y r
 |false =>
  replace T:bT cx l w ((Mine.eU w'.st a).bind fun d st=>kg w.st.length d st) cG Q E:=T
  rcases ni (w:=w') (a:=a) rfl with q|⟨d,st1,q,q'⟩
  ·rw[q] at T;exact T.no
  ·rw[q'] at T
   obtain⟨G',ev,rd⟩:=fL _ y.inv r q
   replace T:bT cx l w (kg w.st.length d st1) cG Q E:=T
   unfold kg at T
   cases hk:back w.st.length st1 with
   |none=>rw[hk] at T;exact T.no
   |some st2=>rw[hk] at T;exact T.ok _ v (Wd.cut ⟨G',w'.as,st1,w'.s⟩ _ st2) rfl ((y.trans (ev _ _)).back (w:=⟨G',w'.as,st1,w'.s⟩) (Nat.le_of_eq I.rel.len) hk) rd
theorem zm(X:FnAt cx f Fd ps ds vs body) (gP:A.depth<recursionLimit) (ic:A.frames=some l) (hb:BodyOk cx A l C f Fd vs body) (I:Inv cx w) (fr:dK cx l w) (ar:dw w.G w.as us sO){Q:Value->Shared->Prop}
  (T:bT cx l w (fq C Fd sO w.st) cG Q E):codeAny (model cx.prog cx.w) A (.call (.ref (cx.fA f)) ⟨us,[]⟩) (post Q E) w.s:=by
 unfold fq at T
 cases Od:Fd.ref with
 |true =>
  rw[Od] at T
  exact T.oB fun g GQ T=>X.run gP ic hb I fr ar GQ ⟨fun q=>T.ne (by rw[q];rfl),fun g' st q=>T.ne (by rw[q];rfl),fun g' w' e y=>vt I y (show cO _ _ _ (.t .none) from Rep.none) (e▸T),fun a v w' e y r=>vt I y r (e▸T),fun m u w' e y z=>bT.err (e▸T) m u w' rfl y z⟩
 |false =>
  rw[Od] at T
  refine T.fy I ar fun Cu G' st' e1 r1 T=>T.oB fun g GQ T=>?_
  have I1:=e1.inv
  have Mw:=fr.ev e1
  have bs:∀{w'},iA cx l (Wd.alone ⟨G',w.as,st',w.s⟩) w'->iA cx l ⟨G',w.as,st',w.s⟩ (Wd.fR ⟨G',w.as,st',w.s⟩ w'):=fun y=>y.fR I1 Mw
  refine X.run (w:=Wd.alone ⟨G',w.as,st',w.s⟩) gP ic hb I1.alone Mw.alone (.of (r1.sub fun _ _=>lN.mpr)) GQ ⟨fun q=>T.ne (by rw[show bO C Fd.body g []=none from q];rfl),fun g' st q=>T.ne (by rw[show bO C Fd.body g []=_ from q];rfl),fun g' w' e y=>?_,fun a v w' e y r=>?_,fun m u w' e y z=>?_⟩
  ·rw[show bO C Fd.body g []=_ from e] at T
   exact T.ok _ .none (Wd.fR ⟨G',w.as,st',w.s⟩ w') rfl (bs y) Rep.none
  ·rw[show bO C Fd.body g []=_ from e] at T
   replace T:bT cx l ⟨G',w.as,st',w.s⟩ (Jz st' (i6 cR w'.st a)) cG Q E:=T
   cases hq:i6 cR w'.st a with
   |none=>rw[hq] at T;exact T.no
   |some q =>
    rw[hq] at T
    obtain⟨G2,ev,rd⟩:=fL _ y.inv r hq
    have y2:=y.trans (ev _ _)
    exact T.ok _ v (Wd.fR ⟨G',w.as,st',w.s⟩ ⟨G2,w'.as,q.2,w'.s⟩) rfl (bs y2) (rd.mono (rt I1 y2))
  ·rw[show bO C Fd.body g []=_ from e] at T
   exact T.err m u (Wd.fR ⟨G',w.as,st',w.s⟩ w') rfl (bs y) (z.fR I1)
end
inductive gQ(h:Heap) (a:Addr) (fd:FuncData):Prop
 |mk (o:Obj) (e:h.get? a=some o) (c:o.cls=.type "function") (d:o.data=.func fd)
theorem gQ.old{h₀ h:Heap}{a:Addr}{fd:FuncData}(K:OldK h₀ h):gQ h₀ a fd->gQ h a fd
 |.mk o e c d=>.mk o (K.get_of_cls e (by rw[c];exact fun q=>by injection q)) c d
section
variable {cx:Cx}{D:Frag}{nm:Nat->Option Str}{K:Kx}{g:Gm}{w w':Wd}{s:Shared}{E:Value->Shared->Prop}{Q:Value->Shared->Prop}{f:Nat}{C:fj}{x:Str}{p pos apos:Pos}{xs:List Expr}{fs:Gm->aB->R (List AV)}{us:List Value}{as:List AV}{c:gZ}{v:Value}{a:AV}{k:Kv}{o:Expr}
theorem SA.args{A:Around}{fv:Value}{Q:Args->Shared->Prop}(r:SA cx K xs fs) (h:wpAny (model cx.prog cx.w) A (spliced (backTo pos (starEach xs K.env))) (fun us cz=>Q ⟨us,[]⟩ cz) E s) :
  wpAny (model cx.prog cx.w) A (evalArgs fv true (backTo pos (starEach xs K.env)) []) Q E s:=by
 induction xs with
 |nil=>exact wpAny_bind (wpAny_mono h (fun us s1 q=>wpAny_bind (wpAny_pure (wpAny_holding (wpAny_bind (wpAny_evalAll_nil (wpAny_bind (wpAny_pure (wpAny_pure q)))))))) fun _ _ q=>q)
 |cons y ys =>
  rw[r.head y ys rfl] at h ⊢
  exact evalArgs_plain h
theorem SE.call(B:Base cx nm) (hx:nm f=some x) (hk:K.env.kindOf x=some .globalImplicit) (hd:(x==("__debug__" : Str))=false) (O:gQ cx.h₀ (cx.fA f) (cx.fd f)) (hC:Callee cx K.A K.l C f) (r:SA cx K xs fs) :
  SE cx K (.Call (.Name x p) xs [] pos) (kN (Io C f) fs):=fun g w X Q E T =>
 let⟨o,ho,hc,Gh⟩:=O
 wpAny_Call_Name_kw (gp X B hk hd (B.fg f x hx) (Calls.callWith_function (o:=o) (fd:=cx.fd f) (r.args ((r.w pos g w X).step T fun as us w1 e1 r1 T =>
  ⟨⟨e1.inv.old.get_of_cls ho (by rw[hc];exact fun q=>by injection q),Gh⟩,wpAny_call (hC w1 us as e1.inv (X.fr.ev e1) r1.r Q E T)⟩))))
theorem sW{M:Model}{A:Around}{C:Addr}{args:List (Bool×Sem Value)}(GQ:args.any (·.1)=false)
  (h:wpAny M A (evalArgs (.ref C) true args []) (fun as cz=>(∃N o,cz.heap.get? C=some o/\oA C N o)/\wpAny M A (PySem.call (.ref C) as.pos as.kw) Q E cz) E s) :
  wpAny M A (callWith pos (.ref C) [] args []) Q E s:=by
 unfold callWith
 refine wpAny_bind (wpAny_holding (wpAny_mono h (fun as cz iQ=>?_) fun _ _ x=>x))
 obtain⟨⟨N,o,e,hC⟩,hc⟩:=iQ
 induction hC with
 |mk nm q bs sn sub col dd k0 k1 k2 k3 k5 =>
 have f1:=tc_lookup
 have hT:cz.TypeIs (.ref C) "type":=⟨_,e,rfl⟩
 refine wpAny_bind (wpAny_standAt ?_)
 show wpAny _ _ (keeperOf (.ref C) >>= _) _ _ _
 unfold keeperOf specialOf
 repeat(any_goals(first| assumption|with_reducible refine wpAny_loadPart_at e ?_|with_reducible refine wpAny_load' e ?_|wp_step))
 rw[if_pos (by rfl),GQ]
 show wpAny _ _ (PySem.call (.ref C) ([]++as.pos) as.kw >>= fun r=>do holding [r] point;pure r) _ _ _
 exact wpAny_bind (wpAny_mono hc (fun r s' hr=>wpAny_bind (wpAny_holding (wpAny_point (wpAny_pure hr)))) fun _ _ x=>x)
noncomputable def Oe(cx:Cx) (c:gZ) (s:Shared):Shared:={ s with heap:=(s.heap.push emptyDict).push (instObj (cx.cA c) s.heap.objs.size) }
noncomputable def Wd.inst(cx:Cx) (c:gZ) (w:Wd):Wd:=w.push (w.n+1,w.n) (.inst c []) (Oe cx c w.s)
theorem DE{fr:List Addr}{W:Addr->Prop}(hc:c≠.aQ) (I:Inv cx w):Ev cx fr W w (w.inst cx c):=by
 have hd:((w.h.push emptyDict).push (instObj (cx.cA c) w.n)).get? w.n=some emptyDict:=Heap.get?_push_of_some _ (Heap.get?_push_size _ rfl)
 have hx:((w.h.push emptyDict).push (instObj (cx.cA c) w.n)).get? (w.n+1)=some (instObj (cx.cA c) w.n):=by
  have:=Heap.get?_push_size (w.h.push emptyDict) (o:=instObj (cx.cA c) w.n) rfl
  rwa [Heap.size_push] at this
 have hz:(Oe cx c w.s).heap.objs.size=w.n+1+1:=by show((w.h.push emptyDict).push (instObj (cx.cA c) w.n)).objs.size=_;rw[Heap.size_push,Heap.size_push]
 refine I.push (fun b o e=>Heap.get?_push_of_some _ (Heap.get?_push_of_some _ e)) rfl rfl (by rw[hz];exact Nat.le_add_right _ 2) (List.forall_mem_cons.mpr ⟨Nat.le_succ _,List.forall_mem_cons.mpr ⟨Nat.le_refl _,fun _ q=>nomatch q⟩⟩)
  (List.forall_mem_cons.mpr ⟨⟨_,hx⟩,List.forall_mem_cons.mpr ⟨⟨_,hd⟩,fun _ q=>nomatch q⟩⟩) (.inst (gs:=[]) (.mk (fun _=>none) (.mk _ hx rfl (fun c q=>by injection q) rfl (Nat.ne_of_lt (Nat.lt_succ_self _)) (Heap.Ns1.of_empty ⟨_,#[],_,hd,rfl,fun e he=>absurd he (by simp),fun _=>rfl⟩) ⟨_,hd,rfl,rfl⟩ fun y hy=>absurd rfl hy) (fun q=>absurd q hc) fun _ q=>nomatch q) .nil)
theorem bT.split{α β γ δ:Type}{l:List Env}{r:R β}{f:β->aB->R γ}{Rel:α->β->Wd->Prop}{Rel2:δ->γ->Wd->Prop}{Q:δ->Shared->Prop}{Q0:α->Shared->Prop}(T:bT cx l w (r.bind f) Rel2 Q E)
  (k:∀b a w',iA cx l w w'->Rel a b w'->bT cx l w' (f b w'.st) Rel2 Q E->Q0 a w'.s):bT cx l w r Rel Q0 E :=
 ⟨fun e=>T.ne (by rw[e];rfl),fun b a w' e ev rel=>k b a w' ev rel (T.later e ev),fun _ _ _ q ev z=>T.fails q ev z⟩
theorem DF{G:Addr->Lg}:Rep G v .none->v=.none
 |.none=>rfl
 |.ref _ q _=>nomatch q
theorem GS{l:List Env}{b:Value}{z:AV}{i:Nat}(I:Inv cx w') (r:cO w'.G w'.as b z) (rs:uZ w'.as v i) (T:bT cx l w' (Na i z w'.st) cG Q E):b=.none/\Q v w'.s:=by
 induction z with
 |r=>exact T.no
 |t d=>cases d with
  |none=>exact⟨DF r,T.done I rs⟩
  |_=>exact T.no
theorem SE.new(B:Base cx nm) (KB:Cs cx D) (hc:c≠.aQ) (hk:K.env.kindOf (clsName c)=some .globalImplicit) (hd:(clsName c==("__debug__" : Str))=false)
  (hC:∀us,Callee cx (K.A.under (.builtin "type.__call__" ⟨.ref (cx.cA c)::us,[]⟩)) K.l C (fQ c)) (r:SA cx K xs fs) :
  SE cx K (.Call (.Name (clsName c) p) xs [] pos) (kN (A5 C c (fQ c)) fs):=fun g w X Q E T=>by
 refine wpAny_Call_Name_kw (gp X B hk hd (B.cg c) (sW (r.plain pos) (r.args ((r.w pos g w X).step T fun as us w1 e1 r1 T=>?_))))
 obtain⟨N,mN,XC⟩:=B.cls c
 have KI:=KB.here e1.inv.old
 obtain⟨oc,h1,h2⟩:=(OldK.cls e1.inv.old XC).obj
 refine⟨⟨N,oc,h1,h2⟩,wpAny_call (make_core (makes_of KI (KB.makes c)) (looks_findIn KI (KB.init c)) (fun self=>bind_fn KI self (KB.fn c)) (.inl rfl) ?_)⟩
 have e2:iA cx K.l w1 (w1.inst cx c):=DE hc e1.inv
 have hs:(w1.inst cx c).as[w1.st.length]? = some (w1.n+1,w1.n):=gq e1.inv.rel.len.symm
 have T1:bT cx K.l (w1.inst cx c) (C (fQ c) (.r w1.st.length::as) (w1.inst cx c).st) cG (fun v s'=>v=.none/\Q (.ref (w1.n+1)) s') E:=(T.start e2).split fun z b w' e3 r3 T=>GS e3.inv r3 (.mk _ (e3.pre _ _ hs) rfl) T
 refine codeAny_mono (hC _ (w1.inst cx c) (.ref (w1.n+1)::us) (.r w1.st.length::as) e2.inv ((X.fr.ev e1).ev e2) (.cons (.mk _ hs rfl) (r1.r.ev e2)) _ _ T1) fun r s' z=>?_
 induction r with
 |error e=>exact z
 |ok fl=>induction fl with
  |ret v=>exact z
  |_=>exact z.elim
theorem Base.vec(B:Base cx nm):c.CA=true->cx.cA c=cx.cA .aQ:=fun q=>by cases c<;>first| rfl|exact B.v0|injection q
theorem pM{d:PV}(S:eS cx w) (B:Base cx nm) (r:Rep w.G v d) (e:yU d=some true):∃x dx m,v=.ref x/\gi w.h x dx (cx.cA .aQ) m:=by
 cases r with
 |ref g z r =>
  induction z with
  |@ins cl _ _ _ _=>cases S.fz _ _ g with
   |mk m i=>exact⟨_,_,m,rfl,B.vec (Option.some.inj e)▸i⟩
  |_=>injection e
 |_=>cases e
theorem xQ(S:eS cx w) (B:Base cx nm) (r:cO w.G w.as v a) (e:ou w.st a=some true):∃x dx m,v=.ref x/\gi w.h x dx (cx.cA .aQ) m:=by
 induction a with
 |t d=>exact pM S B r e
 |r i =>
  obtain⟨p,hp,rfl⟩:=r
  replace e:yT w.st[i]? = some true:=e
  cases hn:w.st[i]? with
  |none=>rw[hn] at e;injection e
  |some nd =>
   rw[hn] at e
   cases S.nodes i p nd hp hn with
   |@fz d r=>exact pM S B r (by cases d<;>first| exact e|injection e)
   |tr q=>cases nd<;>first| (cases q;done)|(injection e;done)
   |@inst cl _ _ i=>induction i with
    |mk m i=>exact⟨_,_,m,rfl,B.vec (Option.some.inj e)▸i⟩
theorem xR:typeLookup (.type "object") "copy" = pure none:=by rw[typeLookup_type,builtinLookup_eq_fast];kernel_rfl
theorem gi.GU{h:Heap}{x dx C:Addr}{m:Str->Option Value}:gi h x dx C m->m "copy" = none
 |.mk _ _ _ _ _ _ _ _ w=>Classical.byContradiction fun q=>absurd (w "copy" q) (by decide)
theorem SE.copy(B:Base cx nm) (hb:mR o=true) (hl:(apos.endLine==pos.line)=true) (O:gQ cx.h₀ (cx.fA 3) (cx.fd 3)) (hC:Callee cx K.A K.l C 3) (h1:SE cx K o k) :
  SE cx K (.Call (.Attribute o "copy" apos) [] [] pos) (k1 (xg C 3) k):=fun g w X Q E T=>by
 rw[arm_eval_Call,gu hb]
 refine wpAny_bind ((h1 g w X).step T fun a v w1 e1 r1 T=>wpAny_bind (wpAny_standAt ?_))
 cases hq:ou w1.st a with
 |none=>unfold xg at T;rw[hq] at T;exact T.no
 |some b =>
  induction b with
  |false=>unfold xg at T;rw[hq] at T;exact T.no
  |true =>
   unfold xg at T
   rw[hq] at T
   have I:=e1.inv
   obtain⟨x,dx,m,rfl,hi⟩:=xQ I.rel B r1 hq
   obtain⟨N,mN,XC⟩:=B.cls .aQ
   obtain⟨⟨oc,h1,h2⟩,yN⟩:=OldK.cls I.old XC
   obtain⟨of,hof,hofc,hofd⟩:=O.old I.old
   induction h2 with
   |mk Ur q bs sn sub col dd k0 k1 k2 k3 k5 =>
   unfold methodCall
   refine wpAny_bind (wpAny_holding (method_ofFk h1 yN XC.ga XC.Q6 (XC.copy rfl) hof hofc xR hi.fk hi.GU (wpAny_bind (wpAny_of_eq (show methodCallPos true o K.env apos pos=pure pos from by unfold methodCallPos;simp[hl]) (callWith_meth0 hofd hof (wpAny_call ?_))))))
   exact hC w1 [.ref x] [a] I (X.fr.ev e1) (.cons r1 .nil) Q E T
end
@[reducible] noncomputable def iB:List Value:=[.type "Exception",.type "BaseException",.type "object"]
inductive oQ(C D N:Addr):Obj->Prop
 |mk (nm q:Str) (bs:List Value) (sn:List Str) (sub:List Value) (ab:Bool) (col:Option Bool) (dd:Option Addr) (k0 k1 k2 k3 k5:Option Value):oQ C D N (excClassObj nm q C N bs (.ref D::iB) true sn sub ab col dd k0 k1 k2 k3 k5 "Exception.__new__")
inductive Here(h:Heap) (a:Addr):Prop
 |mk (o:Obj) (e:h.get? a=some o) (c:o.cls≠.none)
structure jv(h:Heap) (C D N:Addr) (mN mD:Str->Option Value):Prop where
 obj:∃o,h.get? C=some o/\oQ C D N o
 ns:h.Ns N mN
 Nq:Here h N
 base:∃c0 dd cd sl,h.get? D=some { cls:=c0,dict:=dd,data:=.cls cd,slots:=sl }/\c0≠.none/\h.Ns cd.ns mD/\Here h cd.ns
noncomputable def Kp(h h':Heap):Prop:=∀b o,h.get? b=some o->o.cls≠.none->h'.get? b=some o
theorem Ac{h h':Heap}{N:Addr}{m:Str->Option Value}(k:Kp h h'):Here h N->h.Ns N m->h'.Ns N m
 |.mk o e c,⟨o',es,ep,e',r⟩=>⟨o',es,ep,k N o' e' (by(injection e.symm.trans e' with zx;subst zx);exact c),r⟩
theorem Here.keep{h h':Heap}{N:Addr}(k:Kp h h'):Here h N->Here h' N
 |.mk o e c=>.mk o (k _ _ e c) c
theorem jv.keep{h h':Heap}{C D N:Addr}{mN mD:Str->Option Value}(R:jv h C D N mN mD) (k:Kp h h'):jv h' C D N mN mD where
 obj:=let⟨o,e,z⟩:=R.obj;⟨o,k _ _ e (by induction z;exact fun q=>by injection q),z⟩
 ns:=Ac k R.Nq R.ns
 Nq:=R.Nq.keep k
 base:=let⟨c0,dd,cd,sl,e,c,n,x⟩:=R.base;⟨c0,dd,cd,sl,k _ _ e c,c,Ac k x n,x.keep k⟩
theorem kC:typeLookup (.type "Exception") bJ=pure none:=by rw[typeLookup_type,builtinLookup_eq_fast];kernel_rfl
section
variable {M:Model}{prog:Program}{w:World}{A:Around}{E:Value->Shared->Prop}{s:Shared}{C D N e dx fI:Addr}{mN mD:Str->Option Value}{oe oI:Obj}{v iN:Value}{vs:Array Value}{tk:Tok}{rest:List Value}
theorem gz(R:jv s.heap C D N mN mD){name:Str}{y z:Option Value}{Q:Option Value->Shared->Prop}(hz:(match mN name with| some v=>some v|none=>y)=z) (h1:mD name=none) (hB:typeLookup (.type "Exception") name=pure y)
  (hq:Q z s):wpAny M A (typeLookup (.ref C) name) Q E s:=by
 subst hz
 obtain⟨o,hC,hO⟩:=R.obj
 induction hO with
 |mk nm q bs sn sub ab col dd k0 k1 k2 k3 k5 =>
 obtain⟨c0,dd',cd,sl,hD,_,hND,_⟩:=R.base
 have kD:lookupAlong iB name=pure y:=by
  rw[typeLookup_eq,F.excBase_Exception.mroIs] at hB;exact hB
 rw[typeLookup_eq]
 refine wpAny_bind (wpAny_mroOf_exc hC ?_)
 rw[lookupAlong_cons]
 refine wpAny_bind (wpAny_classOwn_exc hC R.ns ?_)
 cases hv:mN name with
 |some v=>rw[hv] at hq;exact wpAny_pure hq
 |none =>
  rw[hv] at hq
  dsimp only
  rw[lookupAlong_cons]
  refine wpAny_bind (wpAny_classOwn_cls hD hND ?_)
  rw[h1]
  dsimp only
  rw[kD]
  exact wpAny_pure hq
theorem vv{Q:Unit->Shared->Prop}(hC:∃o,s.heap.get? C=some o/\oQ C D N o) (he:s.heap.get? e=some oe) (hc:oe.cls=.ref C) (hq:Q () s) :
  wpAny M A (checkBuiltinCall "object.__setattr__" ⟨[.ref e,iN,v],[]⟩) Q E s:=by
 obtain⟨o,hC,hO⟩:=hC
 induction hO with
 |mk nm q bs sn sub ab col dd k0 k1 k2 k3 k5 =>
 have SF:=F.store_Exception
 have Of:(Value.ref C::.ref D::iB).contains (.type "object")=true:=rfl
 have ha:=SF.args (.ref e) iN v
 simp only[checkBuiltinCall,SF.kind,SF.split]
 refine wpAny_bind ?_
 unfold isInstance
 repeat(first| (with_reducible refine wpAny_loadPart_at he ?_;rw[hc])|(with_reducible refine wpAny_isSubtype_exc hC ?_;rw[Of])|wp_step)
 exact hq
structure Qp(h h':Heap) (e dx:Addr) (oe:Obj) (v:Value):Prop where
 at':h'.get? e=some { oe with dict:=some dx }
 ge:h.objs.size<=dx
 ex:h'.ExactDictFk dx
 ns:h'.Ns1 dx (fun y=>if y=bJ then some v else none)
 keep:∀b o,b≠e->h.get? b=some o->h'.get? b=some o
@[reducible] noncomputable def qp:Obj:={ cls:=.type "dict",data:=.dict #[] }
theorem BA{o:Obj}{dd:Option Addr}(h:o.isFreed=false):({ o with dict:=dd }:Obj).isFreed=false:=by
 obtain⟨oc,od,odt,osl⟩:=o
 induction odt<;>first| rfl|exact h
theorem BB{Q:Fin->Shared->Prop}{h:Heap}(hx:h.get? e=some oe)
  (hz:∀h' Dp,Qp h h' e h.objs.size oe v->Q (.done (.ret .none)) { s with heap:=h',toks:=Dp }) :
  wpAny M A (Builtin.ObjectAttr.storeInDict h.objs.size (.str bJ tk) bJ v) Q E { s with heap:=(h.push qp).update e fun o=>{ cls:=o.cls,dict:=some h.objs.size,data:=o.data,slots:=o.slots } }:=by
 have Og:(h.push qp).get? e=some oe:=Heap.get?_push_of_some _ hx
 have Us:e≠h.objs.size:=Nat.ne_of_lt (Heap.lt_size hx)
 have Ut:=(Heap.get?_update_ne (h.push qp) _ _ (fun o=>{ cls:=o.cls,dict:=some h.objs.size,data:=o.data,slots:=o.slots }) Us.symm).trans (Heap.get?_push_at (o:=qp) rfl rfl)
 unfold Builtin.ObjectAttr.storeInDict Builtin.ObjectAttr.newKeyGuard
 refine wpAny_bind (wpAny_pure (wpAny_bind (wpAny_nsSet1EFk (Heap.Ns1.of_empty ⟨_,#[],_,Ut,rfl,fun e he=>absurd he (by simp),fun _=>rfl⟩) fun h' Uu hs Kq=>?_)))
 obtain⟨oD,esD,epD,hoD,hdD,hcD⟩:=Uu.count (Within.cons bJ v Within.nil)
 refine wpAny_bind (wpAny_lookBehind hoD (by rw[hdD];exact pastItsLine_dict (Nat.le_trans hcD (by rw[List.length_cons,List.length_nil,sizeLine_eq];omega))) ?_)
 wp_walk
 obtain⟨VX,e',c',d'⟩:=Kq _ Ut
 exact hz h' _ ⟨(hs.2 e Us).trans (Heap.get?_update_self _ Og (BA (Heap.get?_some_iff.mp hx).2)),Nat.le_refl _,⟨VX,e',c',d'⟩,Uu,fun b o VY hb=>(hs.2 b (Nat.ne_of_lt (Heap.lt_size hb))).trans ((Heap.get?_update_ne _ _ _ _ VY).trans (Heap.get?_push_of_some _ hb))⟩
structure mz(mN mD:Str->Option Value) (fI:Addr):Prop where
 init:mN "__init__" = some (.ref fI)
 Oh:mD "__init__" = none
 set:mN "__setattr__" = none
 RS:mD "__setattr__" = none
 msg:mN bJ=none
 Kr:mD bJ=none
 ga:mN "__getattribute__" = none
 VZ:mD "__getattribute__" = none
 Q6:mN "__getattr__" = none
 RT:mD "__getattr__" = none
theorem vz{Q:Fin->Shared->Prop}(R:jv s.heap C D N mN mD) (X:mz mN mD fI) (hx:s.heap.get? e=some oe) (hc:oe.cls=.ref C) (RU:oe.dict=none) (vC:oe.data=.fields vs)
  (hq:∀h' Dp,Qp s.heap h' e s.heap.objs.size oe v->Q (.done (.ret .none)) { s with heap:=h',toks:=Dp }) :
  wpAny (model prog w) A (Builtin.«object.__setattr__» ⟨[.ref e,.str bJ tk,v],[]⟩) Q E s:=by
 have SF:=F.store_Exception
 have Oi:=SF.passes (.ref e)
 obtain⟨o,hC,hO⟩:=R.obj
 induction hO with
 |mk nm q bs sn sub ab col dd k0 k1 k2 k3 k5 =>
 unfold Builtin.«object.__setattr__»
 repeat(first| rw[refuse_eq]|(rw[refuseLoop_ref,refuseLoop_ref,Oi])|(with_reducible refine wpAny_loadPart_at hx ?_;rw[hc])|with_reducible refine wpAny_mroOf_exc hC ?_|(with_reducible refine gz (by exact R) (by rw[X.msg]) X.Kr kC ?_)|wp_step)
 rw[RU,if_neg (by simp[typeHasDict]),vC]
 refine wpAny_bind (wpAny_alloc' ?_)
 refine wpAny_bind (wpAny_update' (Heap.get?_push_of_some _ hx) ?_)
 exact wpAny_pure (BB hx hq)
theorem vH{Q:Unit->Shared->Prop}(R:jv s.heap C D N mN mD) (X:mz mN mD fI) (hx:s.heap.get? e=some oe) (hc:oe.cls=.ref C) (RU:oe.dict=none) (vC:oe.data=.fields vs)
  (hq:∀h' Dp,Qp s.heap h' e s.heap.objs.size oe v->Q () { s with heap:=h',toks:=Dp }):wpAny (model prog w) A (setAttr (.ref e) bJ v) Q E s:=by
 have SF:=F.store_Exception
 have f3:=SF.slot.bind (.ref e)
 unfold setAttr callSpecial? specialOf
 repeat(any_goals(first| assumption|(with_reducible refine wpAny_loadPart_at hx ?_;rw[hc])|(with_reducible refine gz (by exact R) (by rw[X.set]) X.RS SF.slot.lookup ?_)|wp_step))
 refine codeAny_call_builtin SF.slot.plain SF.entry (vv R.obj hx hc (vz R X hx hc RU vC fun h' Dp z=>?_))
 repeat(any_goals(first| assumption|wp_step))
 exact hq h' Dp z
@[reducible] noncomputable def vI (C T:Addr):Obj:={ cls:=.ref C,data:=.fields #[.ref T,.none,.none,.none,.bool false,.none] }
@[reducible] noncomputable def nE (h:Heap) (C:Addr) (rest:List Value):Heap:=(h.push { cls:=.type "tuple",data:=.seq rest.toArray }).push (vI C h.objs.size)
theorem dg{h:Heap}(b:Addr) (o:Obj) (e:h.get? b=some o):(nE h C rest).get? b=some o:=Heap.get?_push_of_some _ (Heap.get?_push_of_some _ e)
theorem kF{h:Heap}:(nE h C rest).get? (h.objs.size+1)=some (vI C h.objs.size):=by
 have:=Heap.get?_push_size (h.push { cls:=.type "tuple",data:=.seq rest.toArray }) (o:=vI C h.objs.size) rfl
 rwa [Heap.size_push] at this
theorem ja{Q:PySem.Fin->Shared->Prop}(R:jv s.heap C D N mN mD) (X:mz mN mD fI) (RV:s.heap.get? fI=some oI) (RW:oI.cls=.type "function")
  (hq:wpAny (model prog w) A (PySem.call (.ref fI) (.ref (s.heap.objs.size+1)::rest)) (fun r s'=>r=.none/\Q (.done (.ret (.ref (s.heap.objs.size+1)))) s') E { s with heap:=nE s.heap C rest }) (kD:rest.length<=sizeLine) :
  wpAny (model prog w) A (Builtin.«type.__call__» ⟨.ref C::rest,[]⟩) Q E s:=by
 obtain⟨o,hC,hO⟩:=R.obj
 induction hO with
 |mk nm q bs sn sub ab col dd k0 k1 k2 k3 k5 =>
 have Fx:=F.excBase_Exception
 obtain⟨c0,dd',cd,sl,hD,_,hND,_⟩:=R.base
 have T:OwnTail s.heap iB (.ref D::iB):=.own hD hND X.Oh .base
 repeat(first| with_reducible refine wpAny_loadPart_at hC ?_|with_reducible refine wpAny_madeBy_exc hC ?_|wp_step)
 refine codeAny_call_builtin_code (Code.quiet_builtin _ Fx.quiet) (wpAny_check_new_subT Fx T hC ?_)
 refine codeAny_exc_new_subT Fx T hC ?_ kD
 show wpAny _ _ _ _ _ _
 have RX:=kF (C:=C) (rest:=rest) (h:=s.heap)
 have V0:(Value.ref C::.ref D::iB).contains (.ref C)=true:=by simp
 unfold isInstance
 repeat(first| with_reducible refine wpAny_loadPart_at RX ?_|(with_reducible refine wpAny_isSubtype_exc (dg _ _ hC) ?_;rw[V0])|wp_step)
 show wpAny _ _ (typeLookup (.ref C) _) _ _ _
 refine wpAny_typeLookup_tail (dg _ _ hC) (R.ns.keeps dg) (T.keeps dg) Fx.mroIs Fx.init.lookup ?_
 rw[X.init]
 refine wpAny_holding (wpAny_bind ?_)
 unfold bindSpecial
 refine wpAny_bind (wpAny_typeOf (T:="function") ⟨_,dg _ _ RV,RW⟩ ?_)
 rw[if_pos (by decide)]
 refine wpAny_pure (wpAny_bind (wpAny_mono hq (fun r s' hr=>?_) fun _ _ x=>x))
 obtain⟨rfl,hQ⟩:=hr
 wp_walk
 exact hQ
theorem kG{Q:Value->Shared->Prop}(R:jv s.heap C D N mN mD) (X:mz mN mD fI) (RV:s.heap.get? fI=some oI) (RW:oI.cls=.type "function")
  (hq:wpAny (model prog w) (A.under (.builtin "type.__call__" ⟨.ref C::rest,[]⟩)) (PySem.call (.ref fI) (.ref (s.heap.objs.size+1)::rest)) (fun r s'=>r=.none/\Q (.ref (s.heap.objs.size+1)) s') E { s with heap:=nE s.heap C rest }) (kD:rest.length<=sizeLine) :
  wpAny (model prog w) A (PySem.call (.ref C) rest) Q E s:=by
 obtain⟨o,hC,hO⟩:=R.obj
 induction hO with
 |mk nm q bs sn sub ab col dd k0 k1 k2 k3 k5 =>
 have f1:=tc_lookup
 have f2:=tc_bind (.ref C)
 have hT:s.TypeIs (.ref C) "type":=⟨_,hC,rfl⟩
 refine wpAny_call (codeAny_of_tree ?_)
 show wpAny _ _ (callAny (.ref C) _) _ _ _
 repeat(any_goals(first| assumption|with_reducible refine wpAny_loadPart_at hC ?_|wp_step))
 refine⟨rfl,?_⟩
 refine codeAny_call_builtin_at (Code.quiet_builtin _ (by decide +kernel)) entry_typeCall (wpAny_check_type_call_sub hC (ja R X RV RW ?_ kD))
 exact hq
theorem rC{env:Env}{x:Sem Value}{Q:Flow->Shared->Prop}(hh:A.handled=none)
  (h:wpAny (model prog w) A x (fun v cz=>∃e oe vs,v=.ref e/\(∃o,cz.heap.get? C=some o/\oQ C D N o)/\cz.heap.get? e=some oe/\oe.cls=.ref C/\oe.data=.fields vs/\vs[1]? = some .none/\E (.ref e) cz) E s) :
  wpAny (model prog w) A (raiseStmt env (some x) none) Q E s:=by
 have Of:(Value.ref C::.ref D::iB).contains (.type "BaseException")=true:=rfl
 unfold raiseStmt
 refine wpAny_bind (wpAny_mono h (fun v cz iQ=>?_) fun _ _ x=>x)
 obtain⟨e,oe,vs,rfl,⟨o,hC,hO⟩,he,hc,vC,Oa,hE⟩:=iQ
 induction hO with
 |mk nm q bs sn sub ab col dd k0 k1 k2 k3 k5 =>
 repeat(first| (with_reducible refine wpAny_loadPart_at he ?_;rw[hc])|with_reducible refine wpAny_loadPart_at hC ?_|(with_reducible refine wpAny_isSubtype_exc hC ?_;rw[Of])|wp_step)
 rw[vC]
 refine wpAny_pure ?_
 rw[Oa]
 refine wpAny_pure ?_
 rw[if_neg (by decide)]
 exact wpAny_pure (wpAny_raiseNew_none hh hE)
end
noncomputable def t9:Str:=Str.ofString "self"
structure zo(fd:FuncData):Prop where
 body:∃p1 p2 p3 p4,fd.body=.stmts [.Assign [.Attribute (.Name t9 p1) bJ p2] (.Name bJ p3) p4]
 co:fd.scope.isCoroutine=false
 gen:fd.scope.isGenerator=false
 kind:fd.scope.kind=.function
 plain:Plain fd [t9,bJ]
 Kn:fd.defaults=.none
 cells:∀x∈fd.scope.names,x.2≠.cell
 l1:fd.scope.names.lookup t9=some .local
 l2:fd.scope.names.lookup bJ=some .local
structure rD(h:Heap) (fI:Addr) (fd:FuncData):Prop where
 obj:gQ h fI fd
 code:h.CodeRec fd.code fd.qualname
theorem rD.keep{h h':Heap}{fI:Addr}{fd:FuncData}(k:∀b o,h.get? b=some o->h'.get? b=some o) (X:rD h fI fd):rD h' fI fd where
 obj:=let⟨o,e,c,d⟩:=X.obj;⟨o,k _ _ e,c,d⟩
 code:=let⟨c,oc,fs,t,a,b,r⟩:=X.code;⟨c,oc,fs,t,a,k _ _ b,r⟩
inductive pN(cx:Cx):Prop
 |mk (D N:Addr) (mN mD:Str->Option Value) (fI:Addr) (fd:FuncData) (R:jv cx.h₀ cx.mO D N mN mD) (X:mz mN mD fI) (O:gQ cx.h₀ fI fd) (c:Addr) (oc:Obj) (fs:Array Value) (t:Tok) (e1:fd.code=.ref c) (e2:cx.h₀.get? c=some oc) (e3:oc.cls≠.none)
   (e4:oc.data=.fields fs) (e5:fs[1]? = some (.str fd.qualname t)) (F:zo fd) (g:cx.mg "Refusal" = some (.ref cx.mO))
section
variable {cx:Cx}{nm:Nat->Option Str}{w w':Wd}{K:Kx}{g:Gm}{s:Shared}{A:Around}{E:Value->Shared->Prop}{C D N e fI:Addr}{mN mD:Str->Option Value}{fd:FuncData}{oe:Obj}{v:Value}{vs:Array Value}{a:AV}{m:Tx}{t:Tok}
theorem DG{Q:Value->Shared->Prop}(gP:A.depth<recursionLimit) (R:jv s.heap C D N mN mD) (X:mz mN mD fI) (O:rD s.heap fI fd) (F:zo fd) (RY:s.heap.NoLimit)
  (he:s.heap.get? e=some oe) (V3:oe.cls=.ref C) (Qo:oe.dict=none) (sX:oe.data=.fields vs)
  (hQ:∀h0 h' tk dx,(∀b o,s.heap.get? b=some o->h0.get? b=some o)->s.heap.objs.size<h0.objs.size->Qp h0 h' e dx oe v->h0.objs.size<=h'.objs.size->Q .none { s with heap:=h',toks:=tk }) :
  wpAny (model cx.prog cx.w) A (PySem.call (.ref fI) [.ref e,v]) Q E s:=by
 obtain⟨⟨o,ho,_,hd⟩,hcr⟩:=O
 obtain⟨p1,p2,p3,p4,hb⟩:=F.body
 refine wpAny_call (codeAny_call_def gP ho hd RY hcr hb (jg F.plain (.no F.Kn) (.all [] rfl (Nat.zero_le _))) F.cells ?_ (fun h0 yN RZ=>?_) F.co F.gen F.kind)
 ·exact List.forall_mem_cons.mpr ⟨F.l1,List.forall_mem_cons.mpr ⟨F.l2,fun _ q=>nomatch q⟩⟩
 ·have lt:s.heap.objs.size<h0.objs.size:=by obtain⟨o,_,_,q,_⟩:=yN;exact Heap.lt_size q
  refine wpAny_execs_cons (plainObj_wpAny_Assign_Attribute (ldc F.kind F.l2 yN (v:=v) rfl (ldc F.kind F.l1 yN (v:=.ref e) rfl (er (vH (by exact R.keep fun b o e _=>RZ b o e) X (RZ e oe he) V3 Qo sX fun h' Dp z=>?_)))))
  exact fun hz=>wpAny_execs_nil (hQ h0 h' Dp _ RZ lt z hz)
structure Made(cx:Cx) (w:Wd) (u:Value) (h':Heap):Prop where
 keep:∀b o,w.h.get? b=some o->h'.get? b=some o
 at':∃dx,h'.get? (w.n+1)=some { vI cx.mO w.n with dict:=some dx }/\w.n+1<dx/\h'.ExactDictFk dx/\h'.Ns1 dx (fun y=>if y=bJ then some u else none)
theorem Made.size{h':Heap}(M:Made cx w v h'):w.n+1<h'.objs.size:=let⟨_,e,_⟩:=M.at';Heap.lt_size e
theorem DH{Q:Value->Shared->Prop}(gP:A.depth+1<recursionLimit) (RO:pN cx) (I:Inv cx w) (hq:∀h' tk,Made cx w v h'->Q (.ref (w.n+1)) { w.s with heap:=h',toks:=tk }) :
  wpAny (model cx.prog cx.w) A (PySem.call (.ref cx.mO) [v]) Q E w.s:=by
 obtain⟨D,N,mN,mD,fI,fd,R0,X,O,c,oc,fs,t,e1,e2,e3,e4,e5,F,_⟩:=RO
 have R:=R0.keep fun b o e c=>I.old.get_of_cls e c
 have O1:rD w.h fI fd:=⟨O.old I.old,c,oc,fs,t,e1,I.old.get_of_cls e2 e3,e4,e5⟩
 have O2:=O1.keep (dg (C:=cx.mO) (rest:=[v]))
 obtain⟨o,ho,hc,_⟩:=O1.obj
 refine kG R X ho hc (DG (s:={ w.s with heap:=nE w.h cx.mO [v] }) gP (R.keep fun b o e _=>dg b o e) X O2 F (I.lim.keeps dg) kF rfl rfl rfl fun h0 h' tk dx k0 lt z zz=>⟨rfl,hq h' tk ⟨fun b o e=>z.keep b o (Nat.ne_of_lt (Nat.lt_succ_of_lt (Heap.lt_size e))) (k0 b o (dg b o e)),dx,z.at',Nat.lt_of_lt_of_le (Heap.lt_size (k0 _ _ kF)) z.ge,z.ex,z.ns⟩⟩) (by simp[sizeLine])
theorem Made.exc{l:List Env}{h':Heap}{tk:Nat}(I:Inv cx w) (fr:dK cx l w) (hm:sS m=true) (M:Made cx w (.str (tx m) t) h'):iA cx l w (w.at { w.s with heap:=h',toks:=tk })/\xw cx l w.n (w.at { w.s with heap:=h',toks:=tk }) (.ref (w.n+1)) m:=by
 obtain⟨dx,z1,z2,z3,z4⟩:=M.at'
 have ev:iA cx l w (w.at { w.s with heap:=h',toks:=tk }):=I.keeps M.keep rfl rfl (Nat.le_of_lt (Nat.lt_of_succ_lt M.size))
 exact⟨ev,.mk (w.n+1) _ rfl (.mk dx _ _ t z1 rfl rfl rfl ⟨Nat.le_succ_of_le I.ge,M.size,I.rel.mu (Nat.le_succ _)⟩ (Nat.le_succ _) (Nat.ne_of_gt z2) (fr.fresh (Nat.le_of_lt (Nat.lt_of_succ_lt z2))) z4 z3 (if_pos rfl) hm) (.inl rfl)⟩
theorem GV{G:Addr->Lg}:Rep G v (.str m)->∃t,v=.str (tx m) t/\sS m=true
 |.str _ t z=>⟨t,rfl,z⟩
 |.ref _ q _=>nomatch q
theorem BC{Q:Flow->Shared->Prop}{p:Prop}(r:cO w.G w.as v a) (T:gO cx K w (uY a w.st) Q E) (h:∀m t,v=.str (tx m) t->sS m=true->gO cx K w (some (.exc m w.st)) Q E->p):p:=by
 induction a with
 |r i=>exact T.no
 |t d=>cases d with
  |str m=>obtain⟨t,e,z⟩:=GV r;exact h m t e z T
  |_=>exact T.no
theorem jH.raise{np oH pos:Pos}{e:Expr}{k:Kv}(B:Base cx nm) (RO:pN cx) (hh:K.A.handled=none) (gP:K.A.depth+1<recursionLimit) (hk:K.env.kindOf "Refusal" = some .globalImplicit)
  (he:∀rest,starEach (e::rest) K.env=(false,eval e K.env)::starEach rest K.env) (h1:SE cx K e k):jH cx K (.Raise (some (.Call (.Name "Refusal" np) [e] [] oH)) none pos) (CO k):=fun g w X Q E T=>by
 obtain⟨D,N,mN,mD,fI,fd,R0,_,_,_,_,_,_,_,_,_,_,_,_,hg⟩:=id RO
 have r:SA cx K [e] (qF k fun _ st=>ok [] st):=.cons he h1 .nil
 rw[arm_exec_Raise]
 refine wpAny_bind (wpAny_standAt (rC (C:=cx.mO) (D:=D) (N:=N) hh (wpAny_bind (wpAny_mono (wpAny_Call_ofName (gp (Q:=_) X B hk (by decide) hg ?_)) (fun v Kd R1=>wpAny_bind (wpAny_standAt (wpAny_pure R1))) fun _ _ x=>x))))
 unfold callWith
 refine wpAny_bind (wpAny_holding (r.args (wpAny_items_cons (Wp.oJ (h1 g w X) X T fun a v w1 e1 X1 r1 T=>wpAny_items_nil (wpAny_bind (wpAny_standAt ?_))) (he []))))
 refine BC r1 T fun m t e hm T=>?_
 subst e
 have R:=R0.keep fun b o e c=>X1.inv.old.get_of_cls e c
 obtain⟨o,ho,hO⟩:=R.obj
 have main:wpAny (model cx.prog cx.w) K.A (PySem.call (.ref cx.mO) [.str (tx m) t]) (fun v cz=>∃e oe vs,v=.ref e/\(∃o,cz.heap.get? cx.mO=some o/\oQ cx.mO D N o)/\cz.heap.get? e=some oe/\oe.cls=.ref cx.mO/\oe.data=.fields vs/\vs[1]? = some .none/\E (.ref e) cz) E w1.s :=
  DH gP RO X1.inv fun h' tk M=>by
   obtain⟨ev,x⟩:=M.exc (tk:=tk) X1.inv X1.fr hm
   obtain⟨dx,z,_⟩:=M.at'
   exact⟨_,_,_,rfl,⟨o,M.keep _ _ ho,hO⟩,z,rfl,rfl,rfl,T.exc m _ g (w1.at { w1.s with heap:=h',toks:=tk }) rfl ev.oJ (X1.ev ev) x⟩
 induction hO with
 |mk Ur q bs sn sub ab col dd k0 k1 k2 k3 k5 =>
 refine wpAny_bind (wpAny_keeperOf_exc ho ?_)
 rw[show((backTo oH (starEach [e] K.env)).any (fun x=>x.1)||(backToKw oH (keywordEach [] K.env)).any fun x=>x.1.isNone)=false from by rw[r.plain oH];rfl]
 exact wpAny_bind (wpAny_mono main (fun _ _ h=>wpAny_bind (wpAny_holding (wpAny_point (wpAny_pure h)))) fun _ _ x=>x)
end
section
variable {M:Model}{prog:Program}{w:World}{A:Around}{E:Value->Shared->Prop}{s:Shared}{C D N a dx fI:Addr}{mN mD mm:Str->Option Value}{o:Obj}{v iN:Value}{vs:Array Value}{tk:Tok}
theorem vJ{Q:Unit->Shared->Prop}(hC:∃o,s.heap.get? C=some o/\oQ C D N o) (hx:s.heap.get? a=some o) (hc:o.cls=.ref C) (hq:Q () s):wpAny M A (checkBuiltinCall "BaseException.__getattribute__" ⟨[.ref a,iN],[]⟩) Q E s:=by
 obtain⟨o',hC,hO⟩:=hC
 induction hO with
 |mk nm q bs sn sub ab col dd k0 k1 k2 k3 k5 =>
 have hk:builtinKind "BaseException.__getattribute__" = some .slot:=by decide +kernel
 have Ku:splitId "BaseException.__getattribute__" = some ("BaseException","__getattribute__"):=by decide +kernel
 have Of:(Value.ref C::.ref D::iB).contains (.type "BaseException")=true:=rfl
 have ha:=F.args_bexc_ga (.ref a) iN
 simp only[checkBuiltinCall,hk,Ku]
 refine wpAny_bind ?_
 unfold isInstance
 repeat(first| (with_reducible refine wpAny_loadPart_at hx ?_;rw[hc])|(with_reducible refine wpAny_isSubtype_exc hC ?_;rw[Of])|wp_step)
 exact hq
theorem vK{Q:PySem.Fin->Shared->Prop}(R:jv s.heap C D N mN mD) (X:mz mN mD fI) (hx:s.heap.get? a=some o) (hc:o.cls=.ref C) (vC:o.data=.fields vs) (GK:o.dict=some dx) (yN:s.heap.Ns1 dx mm) (hv:mm bJ=some v)
  (hq:Q (.done (.ret v)) s):wpAny (model prog w) A (Builtin.«object.__getattribute__» ⟨[.ref a,.str bJ tk],[]⟩) Q E s:=by
 obtain⟨o',hC,hO⟩:=R.obj
 induction hO with
 |mk nm q bs sn sub ab col dd k0 k1 k2 k3 k5 =>
 repeat(any_goals(first| assumption|(with_reducible refine wpAny_loadPart_at hx ?_;rw[hc])|(with_reducible refine gz (z:=none) (by exact R) (by rw[X.msg]) X.Kr kC ?_)|wp_step))
 try (refine gz (z:=none) (by exact R) (by rw[X.msg]) X.Kr kC ?_)
 repeat(any_goals(first| assumption|(with_reducible refine wpAny_loadPart_at hx ?_;rw[hc])|wp_step))
 rw[vC]
 dsimp only
 unfold instanceDict
 repeat(first| (with_reducible refine wpAny_loadPart_at hx ?_;rw[hc])|with_reducible refine wpAny_loadPart_at hC ?_|wp_step)
 rw[GK]
 repeat(first| (with_reducible refine wpAny_nsGet yN.ns ?_;rw[hv])|wp_step)
 exact hq
theorem vO{expr:Bool}{Q:Value->Shared->Prop}(R:jv s.heap C D N mN mD) (X:mz mN mD fI) (hx:s.heap.get? a=some o) (hc:o.cls=.ref C) (vC:o.data=.fields vs) (GK:o.dict=some dx) (yN:s.heap.Ns1 dx mm) (hv:mm bJ=some v) (hh:handedOut v=pure v)
  (hq:Q v { s with toks:=s.toks+1 }):wpAny (model prog w) A (getAttr (.ref a) bJ expr) Q E s:=by
 have FB:=F.attrBase_Exception
 have f3:=FB.ga.bind (.ref a)
 have YU:(expr&&onTheHeap (Value.builtin "BaseException.__getattribute__"))=false:=by induction expr<;>rfl
 have Kh:(Value.builtin "BaseException.__getattribute__" == Value.builtin "object.__getattribute__")=false:=by decide +kernel
 have YV:(onTheHeap (Value.ref C)&&Value.builtin "BaseException.__getattribute__" == Value.builtin "object.__getattribute__")=false:=by rw[Kh];rfl
 unfold getAttr getAttrBy
 repeat(any_goals(first| assumption|(with_reducible refine wpAny_loadPart_at hx ?_;rw[hc])|wp_step))
 refine gz (by exact R) (by rw[X.ga]) X.VZ FB.ga.lookup ?_
 repeat(any_goals(first| assumption|(with_reducible refine wpAny_loadPart_at hx ?_;rw[hc])|(with_reducible refine gz (z:=none) (by exact R) (by rw[X.Q6]) X.RT FB.noGetattr ?_)|wp_step))
 refine codeAny_call_builtin FB.ga.plain F.entry_bexc_ga (vJ (by exact R.obj) hx hc (vK (by exact R) X hx hc vC GK yN hv ?_))
 show wpAny _ _ (handedOut v) _ _ _
 rw[hh]
 exact wpAny_pure hq
end
structure ua(cx:Cx):Prop where
 code:∃c,(cx.fd 83).code=.ref c/\CodeHd cx.h₀ c cx.P
 bt:cx.h₀.BuiltinsAt cx.mg cx.P
 ne:mainGlobals≠cx.P/\cx.P≠cStatics
 tab:∃IQ,cx.h₀.get? cx.P=some (tabObj IQ)
 q:cx.ng=((cx.fd 83).qualname ++ ".<locals>.") ++ "<lambda>"
theorem sY{pos:Pos}{a b:Int}{c cv:Value}(l:List Value) (h:TriplesOk l) (e:codeAmong pos (l++[rawInt a,rawInt b,c])=some cv):codeAmong pos l=some cv\/cv=c:=by
 fun_induction TriplesOk l with
 |case1 =>
  right
  simp only[List.nil_append,codeAmong,rawInt] at e
  split at e
  ·exact(Option.some.inj e).symm
  ·injection e
 |case2 a' t b' u x rest ih =>
  simp only[List.cons_append,codeAmong] at e ⊢
  split at e
  ·rename_i hc;rw[if_pos hc];exact .inl e
  ·rename_i hc;rw[if_neg hc];exact ih h e
 |case3 l h1 h2=>exact h.elim
theorem rE{h₀ h:Heap}{c P:Addr}(K:OldK h₀ h) (x:CodeHd h₀ c P):CodeHd h c P:=by
 obtain⟨o,vs,file,tf,flags,tg,inF,text,tt,e,ec,r⟩:=x
 exact⟨o,vs,file,tf,flags,tg,inF,text,tt,K.get_of_cls e (by rw[ec];exact fun q=>by injection q),ec,r⟩
theorem BD{h:Heap}{c P:Addr}(x:CodeHd h c P):c≠P:=by obtain⟨_,_,_,_,_,_,_,_,_,_,_,_,_,_,_,_,_,_,q⟩:=x;exact q
theorem BE{h h':Heap}{c P:Addr}(k:∀o,h.get? c=some o->h'.get? c=some o) (x:CodeHd h c P):CodeHd h' c P:=by
 obtain⟨o,vs,file,tf,flags,tg,inF,text,tt,e,r⟩:=x
 exact⟨o,vs,file,tf,flags,tg,inF,text,tt,k _ e,r⟩
theorem rF{h₀ h:Heap}{P:Addr}{mg:Str->Option Value}(K:OldK h₀ h) (x:h₀.BuiltinsAt mg P):h.BuiltinsAt mg P:=by
 obtain⟨bm,o,e1,e2,e3,e4,e5,e6,r⟩:=x
 exact⟨bm,o,e1,e2,e3,e4,K.get_of_cls e5 (by rw[e6];exact fun q=>by injection q),e6,r⟩
noncomputable def Wd.CQ(w:Wd) (c:Addr) (s':Shared):Wd:=⟨put w.G [c] (.fz .CQ),w.as,w.st,s'⟩
theorem Inv.lam{cx:Cx}{w:Wd}{fr:List Addr}{W:Addr->Prop}{c:Addr}{ps more:Array Value}{s1:Shared}(LO:ua cx) (I:Inv cx w) (hP:w.h.get? cx.P=some (tabObj ps)) (V4:s1.heap.get? cx.P=some (tabObj (ps++more))) (hx:Heap.ExtBut cx.P w.h s1.heap) (hz:w.n<=s1.heap.objs.size) (hc:w.n<=c) (h1:s1.os=w.s.os) (h2:s1.gens=w.s.gens) (i:Iu cx s1.heap c)
  (GW:kj cx (w.CQ c s1)) (hf:∀a∈fr,cx.cX<=a):Ev cx fr W w (w.CQ c s1):=by
 have S:=I.rel
 have V5:∀a,cx.cX<=a->a≠cx.P:=fun a ha q=>Nat.not_lt.mpr ha (q▸I.i8)
 have kk:∀a,cx.cX<=a->∀o,w.h.get? a=some o->s1.heap.get? a=some o:=fun a ha o e=>hx a o (V5 a ha) e
 have S':=S.step (s':=s1) fun a h=>let⟨o,e⟩:=S.live a h;(kk a (S.lo a h) o e).trans e.symm
 have no:∀a,w.G a≠.out->a∉[c]:=fun a h q=>Nat.not_lt.mpr hc (by rw[<-List.mem_singleton.mp q];exact S.lt h)
 have old:∀a,w.G a≠.out->(w.CQ c s1).G a=w.G a:=fun a h=>cE (no a h)
 have sub:Sub w.G (w.CQ c s1).G:=fun a y e=>(old a (e▸fun q=>by injection q)).trans e
 obtain⟨c0,h0,hC⟩:=LO.code
 obtain⟨IQ,R2⟩:=LO.tab
 have Mx:=rE I.old hC
 refine⟨⟨⟨S.len,fun i p nd e1 e2=>(S'.nodes i p nd e1 e2).mono sub fun _ _ e=>e,fun i p nd e1 e2 a h=>?_,fun a y e=>?_,fun a d dx gs e=>?_,fun a h=>?_,fun a h=>?_⟩,
  I.old.step_table (hC.tab R2) (Mx.tab hP) ((BE (fun o e=>hx _ _ (BD Mx) e) Mx).tab V4) hx LO.ne.2,h1.trans I.os,h2.trans I.gens,I.lim.extBut hx (Ne.symm LO.ne.2),I.low,I.i8,Nat.le_trans I.ge hz,GW⟩,
  hz,fun a h _ _ _ _=>kk a h,fun a h _ o e=>⟨o.slots,kk a (hf a h) o e⟩,sub,fun _ _ e=>e,fun a h e=>(cE fun q=>Nat.not_lt.mpr hc (by rw[<-List.mem_singleton.mp q];exact h)).trans e⟩
 ·have e:=S.ff i p nd e1 e2 a h
  exact(old a (e▸fun q=>by injection q)).trans e
 ·by_cases q:a∈[c]
  ·cases(iO q).symm.trans e
   exact List.mem_singleton.mp q▸i
  ·exact S'.fz a y ((cE q).symm.trans e)
 ·by_cases q:a∈[c]
  ·cases(iO q).symm.trans e
  ·exact sub _ _ (S.pg a d dx gs ((cE q).symm.trans e))
 ·by_cases q:a∈[c]
  ·exact List.mem_singleton.mp q▸Nat.le_trans I.ge hc
  ·exact S.lo a fun z=>h ((cE q).trans z)
 ·by_cases q:a∈[c]
  ·induction i with
   |mk o _ _ e=>exact⟨o,List.mem_singleton.mp q▸e⟩
  ·exact S'.live a fun z=>h ((cE q).trans z)
structure V6(cx:Cx) (w w':Wd) (f:Addr) (fd:FuncData):Prop where
 ev:∀{fr W},(∀a∈fr,cx.cX<=a)->Ev cx fr W w w'
 as:w'.as=w.as
 st:w'.st=w.st
 obj:gQ w'.h f fd
 code:w'.h.CodeRec fd.code cx.ng
 ge:w.n<=f
theorem DI{cx:Cx}{nm:Nat->Option Str}{w:Wd}{K:Kx}{g:Gm}{E:Value->Shared->Prop}{scope:Scope}{params:Arguments}{body:Expr}{pos:Pos}{i9:List (Str×Addr)}{Q:Value->Shared->Prop}(LO:ua cx) (B:Base cx nm) (X:At cx K g w) (Ad:K.env.code=(cx.fd 83).code) (DJ:K.env.qual ++ "<lambda>" = cx.ng)
  (R3:defaultsOf params K.env=([],[])) (Uv:closureFor scope K.env=pure i9)
  (h:∀f w' pm uc IS,V6 cx w w' f (kla_fn "<lambda>" cx.ng params body scope i9 pm uc IS)->Q (.ref f) w'.s):wpAny (model cx.prog cx.w) K.A (eval (.Lambda params body scope pos) K.env) Q E w.s:=by
 refine kla_eval R3 ?_
 rw[DJ]
 have I:=X.inv
 obtain⟨ps,hP,ht,hall⟩:=I.tab
 obtain⟨c0,h0,hC⟩:=LO.code
 have Mx:=rE I.old hC
 have Uw:=rF I.old LO.bt
 have hg:=OldK.tN I.old B.g B.gC
 cases hm:codeAmong pos ps.toList with
 |none =>
  refine kla_makeFunction Uv X.eo.glob hg (Ad.trans h0) Mx hP ht hm LO.ne.1 Uw fun c' IS h1 tk hx R4 qQ R5 GW=>?_
  have kp:∀(ob:Obj) b o,h1.get? b=some o->(h1.push ob).get? b=some o:=fun ob b o e=>Heap.get?_push_of_some _ e
  have Oj:w.n<=h1.objs.size:=Nat.le_of_lt (Nat.lt_of_le_of_lt R4 qQ)
  obtain⟨c2,oc,fs,t,q1,q2,q3,q4⟩:=id R5
  injection q1 with q1;subst q1
  have tab:∀{s1:Shared},s1.heap.get? cx.P=some (tabObj (ps++#[rawInt pos.line,rawInt pos.col,.ref c']))->kj cx (w.CQ c' s1):=fun e=>.mk _ e (by rw[Array.toList_append];exact TriplesOk_snoc _ _ _ _ ht) fun pos' cv q=>by
   rw[Array.toList_append] at q
   rcases sY _ ht q with q|q
   ·obtain⟨c3,z1,z2⟩:=hall pos' cv q
    exact .mk c3 z1 ((cE fun q=>Nat.not_lt.mpr R4 (by rw[<-List.mem_singleton.mp q];exact I.rel.lt (z2▸fun q=>by injection q))).trans z2)
   ·exact .mk c' q (iO (.head _))
  exact h _ (w.CQ c' _) _ _ _ ⟨fun hf=>I.lam LO hP (kp _ _ _ GW) (fun b o hb e=>kp _ b o (hx b o hb e)) (by rw[Heap.size_push];exact Nat.le_succ_of_le Oj) R4 rfl rfl (.mk oc fs t (kp _ _ _ q2) q3 q4) (tab (kp _ _ _ GW)) hf,rfl,rfl,.mk _ (Heap.get?_push_size _ rfl) rfl rfl,⟨c',oc,fs,t,rfl,kp _ _ _ q2,q3,q4⟩,Oj⟩
 |some cv =>
  refine kla_makeFunctionHit Uv X.eo.glob hg (Ad.trans h0) Mx hP ht hm Uw fun IS h1 tk k1 Oj=>?_
  obtain⟨c',rfl,hF⟩:=hall pos cv hm
  obtain⟨oc,fs,t,q2,q3,q4⟩:=I.rel.fz _ _ hF
  have kp:∀(ob:Obj) b o,w.h.get? b=some o->(h1.push ob).get? b=some o:=fun ob b o e=>Heap.get?_push_of_some _ (k1 b o e)
  exact h _ (w.at _) _ _ _ ⟨fun _=>I.keeps (kp _) rfl rfl (by rw[Heap.size_push];exact Nat.le_succ_of_le Oj),rfl,rfl,.mk _ (Heap.get?_push_size _ rfl) rfl rfl,⟨c',oc,fs,t,rfl,kp _ _ _ q2,q3,q4⟩,Oj⟩
noncomputable def ie:Str:=Str.ofString "error"
noncomputable def zp:Str:=Str.ofString "ask"
theorem Ns1.same{h h':Heap}{a b:Addr}{m:Str->Option Value}(hs:Heap.SameBut b h h') (n:a≠b):h.Ns1 a m->h'.Ns1 a m
 |⟨o,es,ep,e,r⟩=>⟨o,es,ep,(hs.2 a n).trans e,r⟩
section
variable {cx:Cx}{nm:Nat->Option Str}{w w':Wd}{K:Kx}{g:Gm}{env:Env}{l:List Env}{A:Around}{E:Value->Shared->Prop}{scope:Scope}{L1:Addr}{N N0:Nat}{e:Value}{m:Tx}{mL:Str->Option Value}{p4 p5 p6 p7 p8:Pos}
structure R6(e dx T L1:Addr):Prop where
 he:e≠L1
 hd:dx≠L1
 hT:T≠L1
 hq:dx≠T
theorem u6.apart{a dx T:Addr}{oe oT oL:Obj}{vs ts:Array Value}{mm:Str->Option Value}{h:Heap}(he:h.get? a=some oe) (hd:oe.data=.fields vs) (hT:h.get? T=some oT) (DB:oT.data=.fields ts) (hn:h.Ns1 dx mm) (hL:h.get? L1=some oL) (Qq:∀vs,oL.data≠.fields vs) (hx:dx≠L1):R6 a dx T L1 where
 he q:=by subst q;(injection he.symm.trans hL with zx;subst zx);exact Qq vs hd
 hd:=hx
 hT q:=by subst q;(injection hT.symm.trans hL with zx;subst zx);exact Qq ts DB
 hq q:=by
  subst q
  obtain⟨o,es,ep,e1,hdd,_⟩:=hn
  injection e1.symm.trans hT with zx;subst zx
  rw[DB] at hdd;injection hdd
theorem zq{A':Around}{E':Value->Shared->Prop}{a dx D Nn fI:Addr}{oe:Obj}{vs:Array Value}{mm mN mD:Str->Option Value}{t:Tok}{s:Shared}{Q:Flow->Shared->Prop}(My:env.scope.kind=.function) (Ol:env.kindOf ie=some .local) (R:jv s.heap cx.mO D Nn mN mD) (X:mz mN mD fI)
  (he:s.heap.get? a=some oe) (hc:oe.cls=.ref cx.mO) (hd:oe.data=.fields vs) (GK:oe.dict=some dx) (Kl:s.heap.Ns1 dx mm) (N8:mm bJ=some (.str (tx m) t)) (hn:s.heap.Ns env.locals mL) (V7:mL ie=some (.ref a))
  (hQ:∀h' tk,Heap.SameBut env.locals s.heap h'->Q (.ret (.str (tx m) t)) { s with heap:=h',toks:=tk }) :
  wpAny (model cx.prog cx.w) A (execs [.Return (some (.Attribute (.Name ie p5) bJ p6)) p7] env) (fun fl s'=>wpAny (model cx.prog cx.w) A' (do bindName env ie .none;unbindBehindTheSuite env ie p8) (fun _ NX=>Q fl NX) E' s') E s:=by
 have R7:(env.scope.kind==.class||(env.scope.kind==.module&&env.locals != env.globals))=false:=by rw[My];rfl
 refine wpAny_execs_cons (wpAny_Return_some (Attribute_any_ (wpAny_Name (wpAny_loadName_local My Ol hn V7 ?_) (by decide)) (by with_unfolding_all rfl)))
 refine vO R X he hc hd GK Kl N8 rfl ?_
 exact wpAny_nameGoes Ol hn R7 fun h3 m3 Qs Mz=>hQ h3 _ Mz
theorem xS{Q:Flow->Shared->Prop}(B:Base cx nm) (RO:pN cx) (My:env.scope.kind=.function) (V8:env.globals=mainGlobals) (R8:env.locals=L1) (ic:env.frame=some L1)
  (V9:env.kindOf "Refusal" = some .globalImplicit) (Ol:env.kindOf ie=some .local) (I:Inv cx w) (fr:dK cx (env::l) w) (Ux:N0<=L1) (Wa:N0<=N) (x:u6 cx (env::l) N w e m) (hn:w.h.Ns L1 mL)
  (hQ:∀s' t,Ev cx (ek l) (fun a=>N0<=a) w (w.at s')->sS m=true->Q (.ret (.str (tx m) t)) s') :
  wpAny (model cx.prog cx.w) A (handleBy e env [.ExceptHandler (some (.Name "Refusal" p4)) (some ie) [.Return (some (.Attribute (.Name ie p5) bJ p6)) p7] p8]) Q E w.s:=by
 obtain⟨a,vs,rfl,⟨dx,oe,mm,t,he,hc,GK,hd,pa,hNa,IB,hnfr,Kl,Qo,N8,N9⟩,⟨T,oT,ts,Oa,Mv,hT,DB,h3,pT,hNT⟩⟩:=x
 obtain⟨D,Nn,mN,mD,fI,_,R0,X,_,_,_,_,_,_,_,_,_,_,_,hg⟩:=RO
 obtain⟨o,hC,hO⟩:=(R0.keep fun b o e c=>I.old.get_of_cls e c).obj
 induction hO with
 |mk Ur q bs sn sub ab col dd k0 k1 k2 k3 k5 =>
 have R7:(env.scope.kind==.class||(env.scope.kind==.module&&env.locals != env.globals))=false:=by rw[My];rfl
 have hL:L1∈ek (env::l):=by rw[fF ic];exact .head _
 obtain⟨oL,hoL,Qq⟩:=fr.ob L1 hL
 have ap:=u6.apart he hd hT DB Kl hoL Qq fun q=>hnfr (q▸hL)
 subst R8
 refine wpAny_handleBy_cons (codeAny_handlers_test ?_) (by intro q;injection q)
 refine Name_function_global My V9 (loadGlobal_global (by rw[V8];exact OldK.tN I.old B.g B.gC) hg ?_) (by decide)
 refine wpAny_excMatches_sub_self hC he hc rfl (codeAny_handlers_suite_as (wpAny_setFlight_none he hd Oa hT DB (Array.getElem?_eq_some_iff.mp h3).1 ?_))
 have Ko:Heap.SameBut T w.h (w.h.update T (Obj.mapFields (·.setIfInBounds 3 .none))):=Heap.SameBut.update ..
 have tM:Ev cx (ek l) (fun c=>c=T) w (w.at { w.s with heap:=w.h.update T (Obj.mapFields (·.setIfInBounds 3 .none)) }):=I.dQ pT Ko rfl rfl
 refine wpAny_storeName_local Ol (hn.sameBut Ko (Ne.symm ap.hT)) (fun h2 Wb R9=>?_) R7
 have pL:=(fr.at' _ hL).ev tM
 have wR:Ev cx (ek l) (fun c=>c=env.locals) _ (w.at ⟨h2,w.s.gens,w.s.drawn,w.s.toks+1,w.s.os⟩):=tM.inv.dQ pL R9 rfl rfl
 refine zq My Ol (by exact R0.keep fun b o e c=>wR.inv.old.get_of_cls e c) X ((R9.2 a ap.he).trans ((Ko.2 a (Ne.symm Mv)).trans he)) hc hd GK (Ns1.same R9 ap.hd (Ns1.same Ko ap.hq Kl)) N8 Wb (if_pos rfl) fun h' tk Mz=>?_
 have II:Ev cx (ek l) (fun c=>c=env.locals) _ (w.at ⟨h',w.s.gens,w.s.drawn,tk,w.s.os⟩):=wR.inv.dQ (pL.ev wR) Mz rfl rfl
 exact hQ _ t (((tM.wide fun _ q=>q▸Nat.le_trans Wa hNT).trans (wR.wide fun _ q=>q▸Ux)).trans (II.wide fun _ q=>q▸Ux)) N9
structure iR(env:Env) (scope:Scope) (vs yO:List (Str×Nat)):Prop where
 kind:scope.kind=.function
 co:scope.isCoroutine=false
 gen:scope.isGenerator=false
 qZ:∀y∈scope.names,y.2≠.cell
 free:∀y∈scope.names,y.2=.free->env.kindOf y.1=some .cell\/env.kindOf y.1=some .free
 vars:∀y j,(y,j)∈yO->(y,j)∈vs/\scope.names.lookup y=some .free
theorem dK.cons{L:Addr}(fr:dK cx l w) (hf:env.frame=some L) (hk:env.scope.kind≠.module) (p:iz cx w L) (ho:JG w.h L):dK cx (env::l) w where
 at' a ha:=by
  rw[fF hf] at ha
  cases ha with
  |head=>exact p
  |tail _ ha=>exact fr.at' a ha
 ob a ha:=by
  rw[fF hf] at ha
  cases ha with
  |head=>exact ho
  |tail _ ha=>exact fr.ob a ha
 env e he:=by
  cases he with
  |head=>exact⟨hk,L,hf⟩
  |tail _ he=>exact fr.env e he
theorem dK.tail{L:Addr}(fr:dK cx (env::l) w) (hf:env.frame=some L):dK cx l w :=
 ⟨fun a ha=>fr.at' a (by rw[fF hf];exact .tail _ ha),fun a ha=>fr.ob a (by rw[fF hf];exact .tail _ ha),fun e he=>fr.env e (.tail _ he)⟩
theorem iR.has{vs yO:List (Str×Nat)}(O:iR K.env scope vs yO) (X:jZ cx K w):vg K.env scope.names:=fun y hy hf=>X.kinds y.1 (O.free y hy hf)
theorem ud{y:Str}(h:vg env scope.names) (m:(y,NameKind.free)∈scope.names):(i9 scope env).lookup y=env.cells.lookup y:=by unfold i9;rw[lJ h,if_pos m]
theorem lP{y:Str}{c:Addr}(h:vg env scope.names) (e:(i9 scope env).lookup y=some c):env.cells.lookup y=some c:=by
 unfold i9 at e
 rw[lJ h] at e
 by_cases q:(y,NameKind.free)∈scope.names
 ·rw[if_pos q] at e;exact e
 ·rw[if_neg q] at e;injection e
noncomputable def vV(cx:Cx) (K:Kx) (scope:Scope) (L f:Addr) (uc:Value):Env:=newEnv scope L mainGlobals (i9 scope K.env) (cx.ng ++ ".<locals>.") (some f) uc none builtinsNs
theorem At.lam{A2:Around}{l2:List Env}{f L:Addr}{uc:Value}{yO:List (Str×Nat)}(O:iR K.env scope K.vs yO) (X:At cx K g w) (nA:∀y c,K.env.cells.lookup y=some c->c∉ek l2/\c≠L)
  (fr:dK cx (vV cx K scope L f uc::l2) w) (hn:∃m,w.h.Ns L m):At cx ⟨A2,vV cx K scope L f uc::l2,vV cx K scope L f uc,yO⟩ g w:=by
 have Kw:=O.has X.eo
 have ic:ek (vV cx K scope L f uc::l2)=L::ek l2:=fF rfl
 have pL:=fr.at' L (by rw[ic];exact .head _)
 refine⟨X.inv,fr,⟨O.kind,rfl,rfl,pL,hn,fun y c e=>?_,fun y z c e1 e2=>X.eo.apart y z c (lP Kw e1) (lP Kw e2),fun y hy=>?_⟩,fun y j a e1 e2=>?_⟩
 ·obtain⟨p,q,r,z⟩:=X.eo.cell y c (lP Kw e)
  obtain⟨h1,h2⟩:=nA y c (lP Kw e)
  exact⟨p,fun q=>by
   rw[show ek (Kx.l ⟨A2,vV cx K scope L f uc::l2,vV cx K scope L f uc,yO⟩)=L::ek l2 from ic] at q
   cases q with
   |head=>exact h2 rfl
   |tail _ q=>exact h1 q,h2,z⟩
 ·replace hy:scope.names.lookup y=some .cell\/scope.names.lookup y=some .free:=hy
  rcases hy with hy|hy
  ·exact absurd rfl (O.qZ _ (PySem.mem_of_lookup hy))
  ·have m:=PySem.mem_of_lookup hy
   exact let⟨c,e⟩:=Kw _ m rfl;⟨c,(ud Kw m).trans e⟩
 ·obtain⟨h1,h2⟩:=O.vars y j e1
  obtain⟨v,h3,h4⟩:=X.vars y j a h1 e2
  have m:=PySem.mem_of_lookup h2
  refine⟨v,?_,h4⟩
  rcases h3 with⟨k,_⟩|⟨k,c,e5,z⟩
  ·rcases O.free _ m rfl with q|q<;>rw[q] at k<;>cases k
  ·exact .cell (.inr h2) c ((ud Kw m).trans e5) z
end
noncomputable def noParams:Arguments:={ posonlyargs:=[],args:=[],vararg:=none,kwonlyargs:=[],kw_defaults:=[],kwarg:=none,defaults:=[] }
section
variable {cx:Cx}{nm:Nat->Option Str}{w w':Wd}{K:Kx}{g:Gm}{l2:List Env}{A2:Around}{E:Value->Shared->Prop}{Q:Value->Shared->Prop}{scope:Scope}{f:Addr}{x:Expr}{k:Kv}{yO:List (Str×Nat)}{pm uc IS:Value}
noncomputable def Ky(cx:Cx) (A2:Around) (l2:List Env) (scope:Scope) (yO:List (Str×Nat)) (x:Expr) (k:Kv):Prop:=∀env,env.scope=scope->SE cx ⟨A2.deeper env,env::l2,env,yO⟩ x k
theorem DK(gP:A2.depth<recursionLimit) (ic:A2.frames=some l2) (O:iR K.env scope K.vs yO) (X:At cx K g w) (fr:dK cx l2 w) (nA:∀y c,K.env.cells.lookup y=some c->c∉ek l2)
  (Ob:gQ w.h f (kla_fn "<lambda>" cx.ng noParams x scope (i9 scope K.env) pm uc IS)) (Cd:w.h.CodeRec uc cx.ng) (hx:Ky cx A2 l2 scope yO x k) (T:bT cx l2 w (k g w.st) cG Q E) :
  codeAny (model cx.prog cx.w) A2 (.call (.ref f) ⟨[],[]⟩) (post Q E) w.s:=by
 obtain⟨o,ho,_,hd⟩:=Ob
 refine kla_callFunE gP ho hd O.co O.gen rfl Cd (jg (us:=[]) (ds:=[]) (ps:=[]) ⟨rfl,rfl,rfl,rfl,rfl,.nil⟩ (.no rfl) (.all [] rfl (Nat.le_refl _)) _ _ _ _ ?_)
 refine wpAny_newFunctionEnv O.qZ (fun p hp=>nomatch hp) (fun h3 Qs Mz=>⟨X.inv.lim.fresh _ Mz,kla_codeExpr ?_⟩) O.kind
 have k3:∀b o,w.h.get? b=some o->h3.get? b=some o:=fun b o e=>Mz.extBut b o (Nat.ne_of_lt (Heap.lt_size e)) (Heap.get?_push_of_some _ e)
 have qQ:w.n<h3.objs.size:=by obtain⟨o,_,_,e,_⟩:=Qs;exact Heap.lt_size e
 have ev:∀{fr W},Ev cx fr W w (w.at { w.s with heap:=h3,toks:=w.s.toks+0 }):=X.inv.keeps k3 rfl rfl (Nat.le_of_lt qQ)
 have lim:∀a∈ek l2,a<w.n:=fun a q=>(fr.at' a q).lt
 have Wc:=(fr.ev ev).cons (env:=vV cx K scope w.n f uc) rfl (by show scope.kind≠_;rw[O.kind];exact fun q=>by injection q) ⟨X.inv.ge,qQ,X.inv.rel.mu (Nat.le_refl _)⟩ (let⟨o,es,ep,e,d,_⟩:=Qs;⟨o,e,fun vs q=>by rw[d] at q;injection q⟩)
 have X3:=At.lam (A2:=A2.deeper (vV cx K scope w.n f uc)) O (X.ev ev) (fun y c e=>⟨nA y c e,Nat.ne_of_lt (X.eo.cell y c e).dQ.lt⟩) Wc ⟨_,Qs⟩
 have GR:∀{w'},iA cx (vV cx K scope w.n f uc::l2) (w.at { w.s with heap:=h3,toks:=w.s.toks+0 }) w'->iA cx l2 w w':=fun y=>ev.over (y.pop rfl) (fun a q=>.inl (q.elim False.elim fun q=>Nat.le_of_eq q.symm)) lim
 exact hx _ rfl g _ X3 _ _ ⟨T.ne,fun b v w' e y r=>T.ok b v w' e (GR y) r,fun m u w' e y z=>kr (N:=h3.objs.size) (Around.frames_deeper ic) rfl y.inv (X3.fr.ev y) z.toS fun s2 y2 z2 =>
  T.err m u (w'.at s2) e ((GR y).over (y2.pop rfl) (fun a q=>.inl (q.elim (Nat.le_trans (Nat.le_of_lt qQ)) fun q=>Nat.le_of_eq q.symm)) lim) ((z2.out rfl).mono (Nat.le_of_lt qQ))⟩
@[reducible] noncomputable def IT (p1 p2 p3 p4 p5 p6 p7 p8 p9:Pos):List Stmt:=[.Try [.Return (some (.Call (.Name zp p1) [] [] p2)) p3] [.ExceptHandler (some (.Name "Refusal" p4)) (some ie) [.Return (some (.Attribute (.Name ie p5) bJ p6)) p7] p8] [] [] p9]
structure rG(cx:Cx) (Fd:Fn):Prop where
 fn:∃p1 p2 p3 p4 p5 p6 p7 p8 p9,FnAt cx 82 Fd [zp] [] [] (IT p1 p2 p3 p4 p5 p6 p7 p8 p9)
 obj:gQ cx.h₀ (cx.fA 82) (cx.fd 82)
 ask:(cx.fd 82).scope.names.lookup zp=some .local
 err:(cx.fd 82).scope.names.lookup ie=some .local
 ref:(cx.fd 82).scope.names.lookup ("Refusal" : Str)=some .globalImplicit
theorem BF{Fd:Fn}(B:Base cx nm) (RO:pN cx) (KP:rG cx Fd) (O:iR K.env scope K.vs yO) (X:At cx K g w) (ic:K.A.frames=some K.l) (gP:K.A.depth+2<recursionLimit) (hx:Ky cx (K.A.deeper (dY cx 82 w.n)) (dY cx 82 w.n::K.l) scope yO x k)
  (Ob:gQ w.h f (kla_fn "<lambda>" cx.ng noParams x scope (i9 scope K.env) pm uc IS)) (Cd:w.h.CodeRec uc cx.ng) (T:bT cx K.l w (zQ (k g w.st)) cG Q E) :
  codeAny (model cx.prog cx.w) K.A (.call (.ref (cx.fA 82)) ⟨[.ref f],[]⟩) (post Q E) w.s:=by
 obtain⟨p1,p2,p3,p4,p5,p6,p7,p8,p9,FK⟩:=KP.fn
 obtain⟨o,ho,hc,hd⟩:=FK.obj
 obtain⟨c,oc,fs,t,c1,c2,c3,c4,c5⟩:=FK.code
 refine codeAny_call_function (Nat.lt_of_le_of_lt (Nat.le_add_right _ 2) gP) (X.inv.old.get_of_cls ho hc) hd FK.co FK.gen FK.body ⟨c,oc,fs,t,c1,X.inv.old.get_of_cls c2 c3,c4,c5⟩ (jg FK.plain (FK.defAt X.inv.old) (.all [] rfl (Nat.zero_le _)) _ _ _ _ ?_)
 rw[FK.RN]
 refine wpAny_newFunctionEnv_cells FK.kind (fun p hp=>.inl (by rw[List.mem_singleton.mp (List.of_mem_zip hp).1];exact KP.ask)) fun env he s2 IP=>?_
 cases(he:env=dY cx 82 w.n)
 refine⟨X.inv.lim.keeps IP.toInCall.keep,codeAny_func ?_⟩
 obtain⟨X2,ev,_⟩:=FK.entry (A:=K.A) (g:=g) (vals:=[.ref f]) X.inv X.fr (fun _ _ _ q=>nomatch q) IP
 have qQ:w.n<s2.heap.objs.size:=by obtain⟨o,_,_,e,_⟩:=IP.toInCall.ns;exact Heap.lt_size e
 have We:=t8 (m:=fun _=>none) (k:=(dY cx 82 w.n).kindOf) (ps:=[zp]) (vals:=[.ref f]) (j:=0) FK.plain.nodup rfl rfl KP.ask
 obtain⟨of,hof,hofc,hofd⟩:=Ob
 have Sa:=IP.toInCall.keep
 have lim:∀a∈ek K.l,a<w.n:=fun a q=>(X.fr.at' a q).lt
 have GR:∀{w'},iA cx (dY cx 82 w.n::K.l) (w.at s2) w'->iA cx K.l w w':=fun y=>ev.over (y.pop rfl) (fun a q=>.inl (q.elim False.elim fun q=>Nat.le_of_eq q.symm)) lim
 have nA:∀y c,K.env.cells.lookup y=some c->c∉ek (dY cx 82 w.n::K.l):=fun y c e q=>by
  rw[fF (env:=dY cx 82 w.n) rfl] at q
  cases q with
  |head=>exact Nat.lt_irrefl _ (X.eo.cell y _ e).dQ.lt
  |tail _ q=>exact(X.eo.cell y c e).JH q
 refine wpAny_execs_cons (wpAny_Try_except (wpAny_execs_cons (wpAny_Return_some (wpAny_Call_Name_kw (wpAny_Name (wpAny_loadName_local X2.eo.fn KP.ask IP.toInCall.ns We ?_) (by decide))))))
 refine Calls.callWith_function (o:=of) (fd:=kla_fn "<lambda>" cx.ng noParams x scope (i9 scope K.env) pm uc IS) ((SA.nil (cx:=cx) (K:=pK cx K.A K.l 82 [] w.n)).args (wpAny_items_nil ⟨⟨Sa _ _ hof,hofd⟩,wpAny_call ?_⟩))
 refine DK (Nat.lt_of_succ_lt gP) (Around.frames_deeper ic) O (X.ev ev) X2.fr nA (.mk of (Sa _ _ hof) hofc hofd) (let⟨c,oc,fs,t,a,b,r⟩:=Cd;⟨c,oc,fs,t,a,Sa _ _ b,r⟩) hx ⟨fun q=>T.ne (by rw[show k g w.st=none from q];rfl),fun b v w' e y r=>?_,fun m u w' e y z=>?_⟩
 ·have e':k g w.st=some (.ok (b,w'.st)):=e
  exact T.ok b v w' (by rw[e'];rfl) (GR y) r
 ·have e':k g w.st=some (.error (m,w'.st)):=e
  have pL:iz cx (w.at s2) w.n:=⟨X.inv.ge,qQ,X.inv.rel.mu (Nat.le_refl _)⟩
  refine pJ (N:=s2.heap.objs.size) (Around.frames_deeper ic) (L:=w.n) rfl y.inv (X2.fr.ev y) z.toS fun s3 y3 z3=>?_
  have Wf:Ev cx (ek K.l) (fun a=>w.n<=a) w (w'.at s3):=((GR y).wide fun _ q=>q.elim).trans ((y3.pop rfl).wide fun a q=>q.elim (Nat.le_trans (Nat.le_of_lt qQ)) fun q=>Nat.le_of_eq q.symm)
  refine xS (N0:=w.n) B RO X2.eo.fn X2.eo.glob rfl rfl KP.ref KP.err y3.inv ((X2.fr.ev y).Bb y3 fun a h q=>Nat.not_lt.mpr q (X2.fr.at' a h).lt) (Nat.le_refl _) (Nat.le_of_lt qQ) z3
   (xx (l:=dY cx 82 w.n::K.l) y3 (pL.ev y) (fun q=>Nat.not_lt.mpr q qQ) (xx (l:=dY cx 82 w.n::K.l) y pL (fun q=>q) IP.toInCall.ns)) fun s' t Wg N9=>?_
  exact T.ok (.t (.str m)) _ (w'.at s') (by rw[e'];rfl) ((Ev.refl X.inv).over (Wf.trans Wg) (fun _ q=>.inl q) lim) (Rep.str m t N9)
theorem SE.kept{p pos Sb:Pos}{Fd:Fn}{Ae:Str}(B:Base cx nm) (LO:ua cx) (RO:pN cx) (KP:rG cx Fd) (RK:nm 82=some Ae) (Wh:(Ae==("__debug__" : Str))=false)
  (hk:K.env.kindOf Ae=some .globalImplicit) (O:iR K.env scope K.vs yO) (Ad:K.env.code=(cx.fd 83).code) (DJ:K.env.qual ++ "<lambda>" = cx.ng)
  (ic:K.A.frames=some K.l) (gP:K.A.depth+2<recursionLimit)
  (hx:∀L,Ky cx (K.A.deeper (dY cx 82 L)) (dY cx 82 L::K.l) scope yO x k) :
  SE cx K (.Call (.Name Ae p) [.Lambda noParams x scope Sb] [] pos) (fun g st=>zQ (k g st)):=fun g w X Q E T=>by
 obtain⟨oK,hoK,hcK,hdK⟩:=KP.obj
 refine wpAny_Call_Name_kw (gp X B hk Wh (B.fg 82 _ RK) (Calls.callWith_function (o:=oK) (fd:=cx.fd 82) (evalArgs_plain (wpAny_items_cons (DI LO B X Ad DJ rfl (gH (O.has X.eo)) fun f w1 pm uc IS L=>?_) rfl))))
 have ev:iA cx K.l w w1:=L.ev fun a ha=>(X.fr.at' a ha).ge
 refine wpAny_items_nil ⟨⟨ev.inv.old.get_of_cls hoK (by rw[hcK];exact fun q=>by injection q),hdK⟩,wpAny_call (BF B RO KP O (X.ev ev) ic gP (hx _) L.obj L.code ?_)⟩
 rw[L.st]
 exact T.start ev
end
noncomputable def oX(o:Option Expr):List Expr:=match o with| some x=>[x]|none=>[]
noncomputable def Om(l:List Comprehension):List Expr:=match l with
 |⟨t,it,ifs,_⟩::_=>t::it::ifs
 |[]=>[]
noncomputable def kids:Expr->List Expr
 |.BinOp a _ b _=>[a,b]
 |.UnaryOp _ a _=>[a]
 |.Compare a _ l _=>a::l
 |.BoolOp _ l _=>l
 |.IfExp a b c _=>[a,b,c]
 |.List l _=>l
 |.Tuple l _ _=>l
 |.Dict ks l _=>l++ks.flatMap oX
 |.Subscript a b _=>[a,b]
 |.Slice a b _ _=>[(oX a).headD default,(oX b).headD default]
 |.Call f l _ _=>f::l
 |.Attribute a _ _=>[a]
 |.ListComp e g _ _=>e::Om g
 |.DictComp k v g _ _=>k::v::Om g
 |.JoinedStr l _=>l
 |.FormattedValue a _ _ _=>[a]
 |.Lambda _ b _ _=>[b]
 |_=>[]
noncomputable def bY(i:Nat) (x:Expr):Expr:=(kids x).getD i default
noncomputable def rest(x:Expr):List Expr:=(kids x).drop 1
noncomputable def GX:Expr->Nat×Str×Scope×Option Expr
 |.Constant _ k _=>(k,default,default,none)
 |.Tuple _ k _=>(k,default,default,none)
 |.Name n _=>(0,n,default,none)
 |.ListComp _ _ s _=>(0,default,s,none)
 |.DictComp _ _ _ s _=>(0,default,s,none)
 |.Lambda _ _ s _=>(0,default,s,none)
 |.Slice a _ _ _=>(0,default,default,a)
 |_=>(0,default,default,none)
noncomputable def Kz(x:Expr):Nat:=(GX x).1
noncomputable def dZ(x:Expr):Str:=(GX x).2.1
noncomputable def fB(x:Expr):Scope:=(GX x).2.2.1
noncomputable def GY(c:Const) (x:Expr):Expr:=.Constant c (Kz x) x.pos
noncomputable def GZ(t:Tx) (x:Expr):Expr:=GY (.str (tx t)) x
noncomputable def jj(n:Str) (x:Expr):Expr:=.Name n x.pos
noncomputable def Af:List Tx->List Expr->List (Option Expr)
 |[],_=>[]
 |t::ts,l=>some (GZ t (l.headD default))::Af ts (l.drop 1)
noncomputable def kH(f:Expr) (l:List Expr) (x:Expr):Expr:=.Call f l [] x.pos
noncomputable def vW(x:Expr) (it:Expr) (ifs:List Expr):List Comprehension:=[⟨jj (dZ x) x,it,ifs,0⟩]
noncomputable def DL:Bi->Str
 |.len=>"len"
 |.max2=>"max"
 |.qz=>"max"
 |.abs=>"abs"
 |.chr=>"chr"
 |.list=>"list"
 |.dict=>"dict"
 |_=>"isinstance"
noncomputable def Uy(b:Bi) (l:List Expr) (x:Expr):Expr:=match b with
 |.l9=>kH (jj "isinstance" (bY 0 x)) (l++[jj "Vector" (bY 2 x)]) x
 |.isStr=>kH (jj "isinstance" (bY 0 x)) (l++[jj "str" (bY 2 x)]) x
 |.dX=>kH (jj "list" (bY 0 x)) [kH (jj "range" (bY 0 (bY 1 x))) l (bY 1 x)] x
 |b=>kH (jj (DL b) (bY 0 x)) l x
noncomputable def DM(b:Bi) (x:Expr):List Expr:=match b with| .dX=>rest (bY 1 x)|_=>rest x
noncomputable def G0(a:Expr) (n:Str) (x:Expr):Expr:=.Attribute a n x.pos
noncomputable def eG:E->Expr->Expr:=E.rec (motive_1:=fun _=>Expr->Expr) (motive_2:=fun _=>List Expr->List Expr) (motive_3:=fun _=>Expr->Option Expr)
 (fun x=>GY .none x) (fun b x=>GY (.bool b) x) (fun i x=>GY (.int i) x) (fun s x=>GZ s x) (fun _ x=>jj (dZ x) x) (fun _ _ x=>jj "MOST_LENGTH" x)
 (fun _ f a x=>G0 (a (bY 0 x)) (tx f) x) (fun o _ _ a b x=>.BinOp (a (bY 0 x)) (Qj o) (b (bY 1 x)) x.pos) (fun _ a x=>.UnaryOp .USub (a (bY 0 x)) x.pos) (fun _ a x=>.UnaryOp .Not (a (bY 0 x)) x.pos)
 (fun o _ _ a b x=>.Compare (a (bY 0 x)) [Nt o] [b (bY 1 x)] x.pos) (fun _ l x=>.BoolOp .And (l (kids x)) x.pos) (fun _ l x=>.BoolOp .Or (l (kids x)) x.pos) (fun _ _ _ c a b x=>.IfExp (c (bY 0 x)) (a (bY 1 x)) (b (bY 2 x)) x.pos)
 (fun _ l x=>.List (l (kids x)) x.pos) (fun _ l x=>.Tuple (l (kids x)) (Kz x) x.pos) (fun ks _ l x=>.Dict (Af ks ((kids x).drop ks.length)) (l (kids x)) x.pos) (fun x=>.Dict [] [] x.pos)
 (fun _ _ a i x=>.Subscript (a (bY 0 x)) (i (bY 1 x)) x.pos) (fun _ _ _ a lo hi x=>.Subscript (a (bY 0 x)) (.Slice (lo (bY 0 (bY 1 x))) (hi (bY 1 (bY 1 x))) none (bY 1 x).pos) x.pos)
 (fun _ _ l x=>kH (jj (dZ (bY 0 x)) (bY 0 x)) (l (rest x)) x) (fun c _ _ l x=>kH (jj (clsName c) (bY 0 x)) (l (rest x)) x) (fun _ _ a x=>kH (G0 (a (bY 0 (bY 0 x))) "copy" (bY 0 x)) [] x)
 (fun b _ l x=>Uy b (l (DM b x)) x) (fun m _ _ a l x=>kH (G0 (a (bY 0 (bY 0 x))) (z8 m) (bY 0 x)) (l (rest x)) x)
 (fun _ _ _ _ src c e x=>.ListComp (e (bY 0 x)) (vW (bY 1 x) (src (bY 2 x)) (oX (c (bY 3 x)))) (fB x) x.pos)
 (fun _ _ _ _ src c e x=>.ListComp (e (bY 0 x)) (vW (bY 1 x) (kH (jj "range" (bY 0 (bY 2 x))) (src (rest (bY 2 x))) (bY 2 x)) (oX (c (bY 3 x)))) (fB x) x.pos)
 (fun _ _ _ _ src k v x=>.DictComp (k (bY 0 x)) (v (bY 1 x)) (vW (bY 2 x) (src (bY 3 x)) []) (fB x) x.pos)
 (fun p _ q e x=>.JoinedStr [GZ p (bY 0 x),.FormattedValue (e (bY 0 (bY 1 x))) (-1) none (bY 1 x).pos,GZ q (bY 2 x)] x.pos)
 (fun _ e x=>kH (jj (dZ (bY 0 x)) (bY 0 x)) [.Lambda noParams (e (bY 0 (bY 1 x))) (fB (bY 1 x)) (bY 1 x).pos] x)
 (fun _ e x=>e x)
 (fun _=>[]) (fun _ _ e l xs=>e (xs.headD default)::l (xs.drop 1)) (fun _=>none) (fun _ e x=>some (e x))
noncomputable def Oo(l:List E) (xs:List Expr):List Expr:=kids (eG (.list l) (.List xs default))
noncomputable def Sd(x:Expr):Option Expr:=(GX x).2.2.2
noncomputable def Se(o:Option E) (x:Expr):Option Expr:=Sd (bY 1 (eG (.slice .none o none) (.Subscript default (.Slice (some x) none none default) default)))
noncomputable def rH(k:Nat) (x:Expr):Bool:=!(Nat.beq x.ctorIdx k)
noncomputable def plainArg(x:Expr):Bool:=rH 22 x
noncomputable def Ah(x:Expr):Bool:=rH 15 x&&rH 0 x&&rH 3 x&&rH 5 x
noncomputable def xT(x:Expr):Bool:=rH 26 x
noncomputable def iL(x:Expr):Bool:=rH 7 x
structure Cn where
 kd:Str->Option NameKind
 vs:List (Str×Nat)
 lw:Bool
noncomputable def gl(Γ:Cn) (n:Str):Bool:=decide (Γ.kd n=some .globalImplicit)
noncomputable def gI(Γ:Cn) (n:Str):Bool:=gl Γ n&&!(n==("__debug__" : Str))
noncomputable def Oq(kd:Str->Option NameKind) (x:Str) (k:NameKind):NameKind:=if(k==.free&&kd x==some .cell)=true then .cell else k
noncomputable def Cn.comp(Γ:Cn) (scope:Scope) (x:Str) (ix:Nat):Cn:=⟨fun z=>(scope.names.lookup z).map (Oq Γ.kd z),vj scope x ix Γ.vs,Γ.lw⟩
noncomputable def DN(scope:Scope) (vs:List (Str×Nat)):List (Str×Nat):=vs.filter fun p=>scope.names.lookup p.1==some .free
noncomputable def Cn.lam(Γ:Cn) (scope:Scope):Cn:=⟨fun z=>scope.names.lookup z,DN scope Γ.vs,false⟩
noncomputable def freeOk(Γ:Cn) (scope:Scope):Bool:=scope.names.all fun z=>z.2 != .free||Γ.kd z.1==some .cell||Γ.kd z.1==some .free
noncomputable def DO(scope:Scope):Bool:=scope.names.all fun z=>z.2 != .cell
noncomputable def KA(Γ:Cn) (scope:Scope) (x:Str):Bool:=decide (scope.kind=.function)&&DO scope&&scope.names.all (fun z=>z.2 != .local||scope.names.lookup z.1==some .local)&&scope.names.lookup x==some .local&&freeOk Γ scope
noncomputable def DP(Γ:Cn) (scope:Scope):Bool:=decide (scope.kind=.function)&&!scope.isCoroutine&&!scope.isGenerator&&DO scope&&freeOk Γ scope
noncomputable def Ot(Γ:Cn) (b:Bi) (n:Nat):Bool:=match b with
 |.l9=>decide (n=1)&&gl Γ "isinstance" && gl Γ "Vector"
 |.isStr=>decide (n=1)&&gl Γ "isinstance" && gl Γ "str"
 |.dX=>decide (n=1)&&gl Γ "list" && gl Γ "range"
 |b=>decide (0<n)&&gl Γ (DL b)
noncomputable def rI(nm:Nat->Option Str):E->Cn->Expr->Bool:=E.rec (motive_1:=fun _=>Cn->Expr->Bool) (motive_2:=fun _=>Cn->List Expr->Bool) (motive_3:=fun _=>Cn->Expr->Bool)
 (fun _ _=>true) (fun _ _ _=>true) (fun _ _ _=>true) (fun s _ _=>sS s) (fun i Γ x=>decide ((dZ x,i)∈Γ.vs)&&!(dZ x==("__debug__" : Str))&&!(dZ x==("__classdict__" : Str))) (fun i _ Γ x=>decide (i=1000000)&&gl Γ "MOST_LENGTH")
 (fun e f a Γ x=>a Γ (bY 0 x)&&decide (f∈fh)&&mR (eG e (bY 0 x))) (fun _ _ _ a b Γ x=>a Γ (bY 0 x)&&b Γ (bY 1 x)) (fun _ a Γ x=>a Γ (bY 0 x)) (fun _ a Γ x=>a Γ (bY 0 x))
 (fun o _ e a b Γ x=>a Γ (bY 0 x)&&b Γ (bY 1 x)&&!behindInMarks (Nt o) (eG e (bY 1 x))) (fun _ l Γ x=>l Γ (kids x)) (fun _ l Γ x=>l Γ (kids x)) (fun _ _ _ c a b Γ x=>c Γ (bY 0 x)&&a Γ (bY 1 x)&&b Γ (bY 2 x))
 (fun l ok Γ x=>ok Γ (kids x)&&decide (l.length<=100)) (fun l ok Γ x=>ok Γ (kids x)&&decide (l.length<=100)) (fun ks l ok Γ x=>ok Γ (kids x)&&decide (ks.length=l.length)&&decide (l.length<=15)&&decide ks.Nodup&&decide (b9∉ks)) (fun _ _=>true)
 (fun _ e a i Γ x=>a Γ (bY 0 x)&&i Γ (bY 1 x)&&xT (eG e (bY 1 x))) (fun _ _ _ a lo hi Γ x=>a Γ (bY 0 x)&&(hi Γ (bY 1 (bY 1 x))&&lo Γ (bY 0 (bY 1 x))))
 (fun f _ l Γ x=>l Γ (rest x)&&decide (nm f=some (dZ (bY 0 x)))&&gI Γ (dZ (bY 0 x))) (fun c f _ l Γ x=>l Γ (rest x)&&decide (c.n≠2)&&decide (f=fQ c)&&gI Γ (clsName c)) (fun f e a Γ x=>a Γ (bY 0 (bY 0 x))&&decide (f=3)&&mR (eG e (bY 0 (bY 0 x)))&&((bY 0 x).pos.endLine==x.pos.line))
 (fun b l ok Γ x=>ok Γ (DM b x)&&Ot Γ b l.length) (fun m e l a ok Γ x=>a Γ (bY 0 (bY 0 x))&&ok Γ (rest x)&&mR (eG e (bY 0 (bY 0 x)))&&((bY 0 x).pos.endLine==x.pos.line)&&decide (l.length<10))
 (fun ix s _ _ src c e Γ x=>src Γ (bY 2 x)&&c (Γ.comp (fB x) (dZ (bY 1 x)) ix) (bY 3 x)&&e (Γ.comp (fB x) (dZ (bY 1 x)) ix) (bY 0 x)&&KA Γ (fB x) (dZ (bY 1 x))&&iL (eG s (bY 2 x)))
 (fun ix s _ _ src c e Γ x=>src Γ (rest (bY 2 x))&&c (Γ.comp (fB x) (dZ (bY 1 x)) ix) (bY 3 x)&&e (Γ.comp (fB x) (dZ (bY 1 x)) ix) (bY 0 x)&&KA Γ (fB x) (dZ (bY 1 x))&&decide (0<s.length)&&gl Γ "range")
 (fun _ _ _ _ _ _ _ _ _=>false)
 (fun p _ q e Γ x=>e Γ (bY 0 (bY 1 x))&&sS p&&sS q&&decide (p.length<=100)&&decide (q.length<=100))
 (fun _ e Γ x=>e (Γ.lam (fB (bY 1 x))) (bY 0 (bY 1 x))&&Γ.lw&&decide (nm 82=some (dZ (bY 0 x)))&&gI Γ (dZ (bY 0 x))&&DP Γ (fB (bY 1 x)))
 (fun e a Γ x=>a Γ x&&Ah (eG e x))
 (fun _ _=>true) (fun e _ a l Γ xs=>a Γ (xs.headD default)&&l Γ (xs.drop 1)&&plainArg (eG e (xs.headD default))) (fun _ _=>true) (fun _ a Γ x=>a Γ x)
noncomputable def Uz(nm:Nat->Option Str) (l:List E) (Γ:Cn) (xs:List Expr):Bool:=rI nm (.and l) Γ (.BoolOp .And xs default)
noncomputable def Sf(nm:Nat->Option Str) (o:Option E) (Γ:Cn) (x:Expr):Bool:=rI nm (.slice .none o none) Γ (.Subscript default (.Slice (some x) none none default) default)
theorem aP{a b:Bool}(h:(a&&b)=true){p:Prop}(k:a=true->b=true->p):p:=by
 induction a with
 |false=>injection h
 |true=>exact k rfl h
theorem BG{a:Bool}(h:(!a)=true):a=false:=by cases a<;>first| rfl|injection h
theorem SE.attr{cx:Cx}{nm:Nat->Option Str}{K:Kx}{x:Expr}{f:Tx}{k:Kv}{pos:Pos}(B:Base cx nm) (hf:f∈fh) (hb:mR x=true) (h:SE cx K x k):SE cx K (.Attribute x (tx f) pos) (k1 (CH f) k):=fun g w X Q E T =>
 Attribute_any_ ((h g w X).step T fun a v w1 e1 r1 T=>F6 e1.inv B hf r1 Q E T) (by rw[arm_eval_Attribute,gu hb])
theorem eW{e:Expr}{env:Env}(h:plainArg e=true):∀rest,starEach (e::rest) env=(false,eval e env)::starEach rest env:=fun rest=>by
 cases e<;>first| rfl|injection h
theorem nF{y:Expr}(h:xT y=true) (o i:Value):subscripted y false o i=operate [o,i] (getItem o i):=by
 cases y<;>first| rfl|injection h
theorem fS{y:Expr}{env:Env}(h:iL y=true) (x:Value):foldedSetIterable y env x=pure x:=by
 cases y<;>first| rfl|injection h
structure kI(cx:Cx) (D U:Nat) (Γ:Cn) (K:Kx):Prop where
 fn:K.env.scope.kind=.function
 kd:∀y,K.env.kindOf y=Γ.kd y
 vs:K.vs=Γ.vs
 Cv:Γ.lw=true->K.env.code=(cx.fd 83).code/\K.env.qual ++ "<lambda>" = cx.ng
 fr:K.A.frames=some K.l
 hh:K.A.handled=none
 d:K.A.depth<=D+if Γ.lw then 0 else 2
 u:K.A.units<=U+if Γ.lw then 0 else 6
structure Hyp(cx:Cx) (F:Frag) (nm:Nat->Option Str) (C:fj) (D U:Nat):Prop where
 B:Base cx nm
 KB:Cs cx F
 RO:pN cx
 O:∀f x,nm f=some x->gQ cx.h₀ (cx.fA f) (cx.fd f)
 O3:gQ cx.h₀ (cx.fA 3) (cx.fd 3)
 LO:ua cx
 kept:∃Fd,rG cx Fd
 hC:∀f A l,A.frames=some l->A.handled=none->A.depth<=D+3->A.units<=U+12->Callee cx A l C f
 hD:D+8<recursionLimit
 hU:U+40<cLine
section
variable {cx:Cx}{F:Frag}{nm:Nat->Option Str}{C:fj}{D U:Nat}{Γ:Cn}{K:Kx}{x y:Expr}{n:Str}{scope:Scope}{ix:Nat}{k:Kv}
theorem le_if{a d:Nat}{b:Bool}{m:Nat}(h:a<=d+if b then 0 else m):a<=d+m:=by
 induction b with
 |true=>exact Nat.le_trans h (Nat.add_le_add_left (Nat.zero_le m) d)
 |false=>exact h
theorem kI.callee(R:kI cx D U Γ K) (H:Hyp cx F nm C D U) (f:Nat):Callee cx K.A K.l C f:=H.hC f _ _ R.fr R.hh (Nat.le_succ_of_le (le_if R.d)) (Nat.le_trans (le_if R.u) (Nat.add_le_add_left (by decide) U))
theorem kI.units(R:kI cx D U Γ K) (H:Hyp cx F nm C D U):K.A.units+16<cLine:=Nat.lt_of_le_of_lt (Nat.add_le_add_right (Nat.le_trans (le_if R.u) (Nat.add_le_add_left (by decide:6<=24) U)) 16) H.hU
theorem kI.gl(R:kI cx D U Γ K) (h:gl Γ n=true):K.env.kindOf n=some .globalImplicit:=(R.kd n).trans (of_decide_eq_true h)
theorem kI.gI(R:kI cx D U Γ K) (h:gI Γ n=true):K.env.kindOf n=some .globalImplicit/\(n==("__debug__" : Str))=false:=aP h fun a b=>⟨R.gl a,BG b⟩
theorem Ai(R:kI cx D U Γ K) (h:freeOk Γ scope=true):∀y∈scope.names,y.2=.free->K.env.kindOf y.1=some .cell\/K.env.kindOf y.1=some .free:=fun z hz hf=>by
 have q:=List.all_eq_true.mp h z hz
 rw[R.kd]
 simp only[Bool.or_eq_true,bne_iff_ne,beq_iff_eq] at q
 exact q.elim (fun q=>q.elim (fun q=>absurd hf q) .inl) .inr
theorem DQ(h:DO scope=true):∀y∈scope.names,y.2≠.cell:=fun z hz=>bne_iff_ne.mp (List.all_eq_true.mp h z hz)
theorem oR{x:Str}(R:kI cx D U Γ K) (h:KA Γ scope x=true):g7 K scope x ix:=aP h fun h h5=>aP h fun h h4=>aP h fun h h3=>aP h fun h1 h2 =>
 ⟨of_decide_eq_true h1,DQ h2,fun z hz hl=>by
  have q:=List.all_eq_true.mp h3 z hz
  simp only[Bool.or_eq_true,bne_iff_ne,beq_iff_eq] at q
  exact q.resolve_left fun q=>q hl,eq_of_beq h4,Ai R h5⟩
theorem kI.comp{x:Str}{A:Addr}(R:kI cx D U Γ K) (h:KA Γ scope x=true):kI cx D U (Γ.comp scope x ix) (ju K scope x ix A) where
 fn:=aP h fun h _=>aP h fun h _=>aP h fun h _=>aP h fun h _=>of_decide_eq_true h
 kd y:=by
  refine gw.trans (congrArg (fun f=>(scope.names.lookup y).map f) (funext fun k=>?_))
  unfold vh Oq
  rw[R.fn,R.kd,show(ScopeKind.function==ScopeKind.function)=true from rfl,Bool.and_true]
 vs:=by show vj _ _ _ K.vs=vj _ _ _ Γ.vs;rw[R.vs]
 Cv:=R.Cv
 fr:=R.fr
 hh:=R.hh
 d:=R.d
 u:=R.u
theorem xU(R:kI cx D U Γ K) (h:DP Γ scope=true):iR K.env scope K.vs (DN scope Γ.vs):=aP h fun h h5=>aP h fun h h4=>aP h fun h h3=>aP h fun h1 h2 =>
 ⟨of_decide_eq_true h1,BG h2,BG h3,DQ h4,Ai R h5,fun y j m=>let⟨a,b⟩:=List.mem_filter.mp m;⟨R.vs▸a,eq_of_beq b⟩⟩
noncomputable def Gd(cx:Cx) (D U:Nat) (Γ:Cn) (x:Expr) (k:Kv):Prop:=∀K,kI cx D U Γ K->SX cx K x k
inductive GL(cx:Cx) (C:fj) (D U:Nat) (Γ:Cn):List Expr->List E->Prop
 |nil:GL cx C D U Γ [] []
 |cons {x:Expr}{e:E}{xs:List Expr}{l:List E}(p:plainArg x=true) (h:Gd cx D U Γ x (ev C e)) (r:GL cx C D U Γ xs l):GL cx C D U Γ (x::xs) (e::l)
variable {xs:List Expr}{l:List E}
theorem GL.length(r:GL cx C D U Γ xs l):xs.length=l.length:=by
 induction r with
 |nil=>rfl
 |cons _ _ _ ih=>exact congrArg Nat.succ ih
theorem GL.sa(r:GL cx C D U Γ xs l) (R:kI cx D U Γ K):SA cx K xs (gg C l):=by
 induction r with
 |nil=>exact .nil
 |cons p h _ ih=>exact .cons (eW p) (h K R).v ih
theorem GL.and{pos:Pos}(r:GL cx C D U Γ xs l) (R:kI cx D U Γ K):BX cx K .And pos xs (m9 C l):=by
 induction r with
 |nil=>exact⟨fun _ _ _=>.none,fun _ _ _=>.none⟩
 |cons p h r ih=>induction r with
  |nil=>exact .Rf (h K R)
  |cons=>exact .and (h K R) ih
theorem GL.or{pos:Pos}(r:GL cx C D U Γ xs l) (R:kI cx D U Γ K):BX cx K .Or pos xs (uX C l):=by
 induction r with
 |nil=>exact⟨fun _ _ _=>.none,fun _ _ _=>.none⟩
 |cons p h r ih=>induction r with
  |nil=>exact .Vy (h K R)
  |cons=>exact .or (h K R) ih
theorem Gd.of(h:∀K,kI cx D U Γ K->SE cx K x k) (he:∀K:Kx,∀whole,isTrue x K.env whole=(do let v <-whole;standAt x.pos;holding [v] (truthy v)):=by intro _ _;rfl):Gd cx D U Γ x k:=fun K R=>.of (h K R) (he K)
theorem xV:∀{ts:List Tx}{l:List Expr},KeysAre ts (Af ts l)
 |[],_=>.nil
 |_::_,_=>.cons xV
theorem zu{env:Env}(h:Ah x=true):∀whole,isTrue x env whole=(do let v <-whole;standAt x.pos;holding [v] (truthy v)):=by
 cases x<;>first| exact fun _=>rfl|injection h
theorem SE.pure(h:SE cx K x k):SE cx K x (xh k):=fun g w X Q E T=>h g w X Q E ⟨fun q=>T.ne (by unfold xh;rw[q];rfl),fun b a w' e ev r=>by
 unfold xh at T
 rw[e] at T
 have T:bT cx K.l w (A6 false w.st.length b w'.st) cG Q E:=T
 exact vt X.inv ev r T,fun m e w' q ev z=>by
 unfold xh at T
 rw[q] at T
 exact T.err m e w' rfl ev z⟩
theorem G3{ts:List Tx}{kl:List Expr}{pos:Pos}(r:GL cx C D U Γ xs l) (h1:ts.length=l.length) (h2:l.length<=15) (h3:ts.Nodup) (h4:b9∉ts):Gd cx D U Γ (.Dict (Af ts kl) xs pos) (ev C (.dm ts l)):=.of fun K R=>by
 induction r with
 |nil =>
  induction ts with
  |nil=>exact SE.IE (nd:=.aK []) (o:=.dS [] 0) rfl (fun h=>⟨_,#[],Heap.get?_push_size _ rfl,⟨rfl,rfl,rfl⟩,rfl,fun _ he=>by simp at he,.nil,List.nodup_nil⟩) (.dS (kvs:=[]) (l:=[]) (Nat.zero_le _) rfl fun q=>nomatch q)
  |cons=>injection h1
 |cons p h r=>exact SE.dict ((GL.cons p h r).sa R) xV (h1.trans (GL.cons p h r).length.symm) (fun q=>nomatch q) ((GL.cons p h r).length▸h2) h3 h4
theorem vX{elt:Expr}{x:Str}{px pos:Pos}{iter:Expr}{c:Option E}{src:Gm->aB->R (List PV)}{e:E}{y:Option Expr}(H:Hyp cx F nm C D U) (hc:KA Γ scope x=true) (hi:iL iter=true) (h1:∀K,kI cx D U Γ K->Src cx K iter src)
  (ht:∀K,kI cx D U (Γ.comp scope x ix) K->Fq cx K (oX y) (A7 C c)) (he:Gd cx D U (Γ.comp scope x ix) elt (ev C e)):Gd cx D U Γ (.ListComp elt [⟨.Name x px,iter,oX y,0⟩] scope pos) (qE src (jq ix (A7 C c) (ev C e))):=.of fun K R =>
 SE.comp H.B R.hh (oR R hc) (fS hi) (h1 K R) (fun A=>ht _ (R.comp hc)) fun A=>(he _ (R.comp hc)).v
theorem oS{z:Expr}(H:Hyp cx F nm C D U) (h1:decide (0<l.length)=true) (h2:gl Γ "range" = true) (r:GL cx C D U Γ xs l):∀K,kI cx D U Γ K->Src cx K (kH (jj "range" (bY 0 z)) xs z) (kN qD (gg C l)):=fun K R=>by
 induction r with
 |nil=>injection h1
 |cons p q r=>exact .range H.B (R.gl h2) ((GL.cons p q r).sa R)
theorem KC{c:gZ}{z z':Expr}(H:Hyp cx F nm C D U) (hc:decide (c.n≠2)=true) (hg:gI Γ (clsName c)=true) (r:GL cx C D U Γ xs l) (K:Kx) (R:kI cx D U Γ K):SE cx K (kH (jj (clsName c) z') xs z) (kN (A5 C c (fQ c)) (gg C l)) :=
 SE.new H.B H.KB (fun q=>by subst q;injection hc) (R.gI hg).1 (R.gI hg).2 (fun us=>H.hC _ _ _ R.fr R.hh (Nat.add_le_add_right (le_if R.d) 1) (Nat.le_trans (Nat.add_le_add (le_if R.u) (show(Code.builtin "type.__call__" ⟨[],[]⟩).cUnits<=6 from by decide +kernel)) (Nat.le_refl _))) (r.sa R)
theorem G4{z z' z2:Expr}{n:Str}{e:E}(H:Hyp cx F nm C D U) (hl:Γ.lw=true) (hn:nm 82=some n) (hg:gI Γ n=true) (hs:DP Γ scope=true) (ih:Gd cx D U (Γ.lam scope) x (ev C e)):Gd cx D U Γ (kH (jj n z') [.Lambda noParams x scope z2.pos] z) (ev C (.kept e)):=.of fun K R=>by
 obtain⟨Fd,KP⟩:=H.kept
 have d:=R.d
 have u:=R.u
 rw[hl] at d u
 refine SE.kept H.B H.LO H.RO KP hn (R.gI hg).2 (R.gI hg).1 (xU R hs) (R.Cv hl).1 (R.Cv hl).2 R.fr (Nat.lt_of_le_of_lt (Nat.add_le_add d (by decide:2<=8)) H.hD) fun L env he=>?_
 subst he
 exact(ih ⟨(K.A.deeper (dY cx 82 L)).deeper env,env::dY cx 82 L::K.l,env,DN env.scope Γ.vs⟩ ⟨(xU R hs).kind,fun _=>rfl,rfl,fun q=>(nomatch q),Around.frames_deeper (Around.frames_deeper R.fr),R.hh,Nat.add_le_add_right d 2,Nat.add_le_add_right u 6⟩).v
theorem mT{z:Expr}{b:Bi}{n:Str}(H:Hyp cx F nm C D U) (r:GL cx C D U Γ xs l) (h:(decide (0<l.length)&&gl Γ n)=true) (hb:∀st as,FT b st as=(uV st as).bind fun ds st=>xd b st ds) (hf:(∃id,ze b=.builtin id)\/∃T,ze b=.type T)
  (hx:bootBuiltins n=some (ze b)) (hu:n∈cy) (hd:(n==("__debug__" : Str))=false):Gd cx D U Γ (kH (jj n (bY 0 z)) xs z) (kN (FT b) (gg C l)):=.of fun K R=>aP h fun h1 h2=>by
 induction r with
 |nil=>injection h1
 |cons p q r=>exact SE.bi H.B R.hh hb hf hx hu (R.gl h2) hd ((GL.cons p q r).sa R)
theorem GL.one(r:GL cx C D U Γ xs l) (h:decide (l.length=1)=true){p:Prop}(k:∀x e,xs=[x]->l=[e]->plainArg x=true->Gd cx D U Γ x (ev C e)->p):p:=by
 induction r with
 |nil=>injection h
 |cons a b r=>induction r with
  |nil=>exact k _ _ rfl rfl a b
  |cons=>exact absurd (of_decide_eq_true h) (fun q=>nomatch q)
theorem Ou{b:Bi}{z:Expr}(H:Hyp cx F nm C D U) (r:GL cx C D U Γ xs l) (h:Ot Γ b l.length=true):Gd cx D U Γ (Uy b xs z) (ev C (.bi b l)):=by
 induction b with
 |l9=>exact aP h fun h h3=>aP h fun h1 h2=>r.one h1 fun x e q1 q2 p g=>by subst q1 q2;exact .of fun K R=>SE.l9 H.B H.KB (R.gl h2) (R.gl h3) (eW p) (g K R).v
 |isStr=>exact aP h fun h h3=>aP h fun h1 h2=>r.one h1 fun x e q1 q2 p g=>by subst q1 q2;exact .of fun K R=>SE.isStr H.B H.KB (R.gl h2) (R.gl h3) (eW p) (g K R).v
 |dX=>exact aP h fun h h3=>aP h fun h1 h2=>r.one h1 fun x e q1 q2 p g=>by subst q1 q2;exact .of fun K R=>SE.dX H.B R.hh (R.gl h2) (R.gl h3) (eW p) (g K R).v
 |len=>exact mT H r h (fun _ _=>rfl) (.inl ⟨_,rfl⟩) rfl (by decide) (by decide)
 |max2=>exact mT H r h (fun _ _=>rfl) (.inl ⟨_,rfl⟩) rfl (by decide) (by decide)
 |qz=>exact mT H r h (fun _ _=>rfl) (.inl ⟨_,rfl⟩) rfl (by decide) (by decide)
 |abs=>exact mT H r h (fun _ _=>rfl) (.inl ⟨_,rfl⟩) rfl (by decide) (by decide)
 |chr=>exact mT H r h (fun _ _=>rfl) (.inl ⟨_,rfl⟩) rfl (by decide) (by decide)
 |list=>exact mT H r h (fun _ _=>rfl) (.inr ⟨_,rfl⟩) rfl (by decide) (by decide)
 |dict=>exact mT H r h (fun _ _=>rfl) (.inr ⟨_,rfl⟩) rfl (by decide) (by decide)
noncomputable def M1(cx:Cx) (nm:Nat->Option Str) (C:fj) (D U:Nat) (e:E):Prop:=∀Γ x,rI nm e Γ x=true->Gd cx D U Γ (eG e x) (ev C e)
noncomputable def M2(cx:Cx) (nm:Nat->Option Str) (C:fj) (D U:Nat) (l:List E):Prop:=∀Γ xs,Uz nm l Γ xs=true->GL cx C D U Γ (Oo l xs) l
structure GO(cx:Cx) (C:fj) (D U:Nat) (Γ:Cn) (x:Option Expr) (o:Option E):Prop where
 so:∀K,kI cx D U Γ K->SO cx K x (Qf C o)
 st:∀K,kI cx D U Γ K->Fq cx K (oX x) (A7 C o)
noncomputable def M3(cx:Cx) (nm:Nat->Option Str) (C:fj) (D U:Nat) (o:Option E):Prop:=∀Γ x,Sf nm o Γ x=true->GO cx C D U Γ (Se o x) o
theorem gA(H:Hyp cx F nm C D U) (e:E):M1 cx nm C D U e:=E.rec (motive_1:=M1 cx nm C D U) (motive_2:=M2 cx nm C D U) (motive_3:=M3 cx nm C D U)
 (fun Γ x h=>.of fun K R=>F3) (fun b Γ x h=>.of fun K R=>F4) (fun i Γ x h=>.of fun K R=>JI) (fun s Γ x h=>.of fun K R=>JJ h)
 (fun i Γ x h=>.of fun K R=>aP h fun h h3=>aP h fun h1 h2=>JL (R.vs▸of_decide_eq_true h1) (BG h2) (BG h3))
 (fun i t Γ x h=>.of fun K R=>aP h fun h1 h2=>(of_decide_eq_true h1:i=1000000)▸F5 H.B (R.gl h2))
 (fun e f ih Γ x h=>.of fun K R=>aP h fun h h3=>aP h fun h1 h2=>SE.attr H.B (of_decide_eq_true h2) h3 (ih Γ _ h1 K R).v)
 (fun o a b oq yP Γ x h=>.of fun K R=>aP h fun h1 h2=>SE.bin (oq Γ _ h1 K R).v (yP Γ _ h2 K R).v)
 (fun a ih Γ x h K R=>.of (SE.neg (ih Γ _ h K R).v))
 (fun a ih Γ x h K R=>.not (ih Γ _ h K R))
 (fun o a b oq yP Γ x h K R=>aP h fun h h3=>aP h fun h1 h2=>.cmp H.B (R.units H) (BG h3) (oq Γ _ h1 K R).v (yP Γ _ h2 K R).v)
 (fun l ih Γ x h K R=>.bool ((ih Γ _ h).and R)) (fun l ih Γ x h K R=>.bool ((ih Γ _ h).or R))
 (fun c a b KD oq yP Γ x h K R=>aP h fun h h3=>aP h fun h1 h2=>.ite (KD Γ _ h1 K R).t (oq Γ _ h2 K R) (yP Γ _ h3 K R))
 (fun l ih Γ x h=>.of fun K R=>aP h fun h1 h2=>SE.list ((ih Γ _ h1).sa R) ((ih Γ _ h1).length▸of_decide_eq_true h2))
 (fun l ih Γ x h=>.of fun K R=>aP h fun h1 h2=>SE.tup ((ih Γ _ h1).sa R) ((ih Γ _ h1).length▸of_decide_eq_true h2))
 (fun ks l ih Γ x h=>aP h fun h h5=>aP h fun h h4=>aP h fun h h3=>aP h fun h1 h2=>G3 (ih Γ _ h1) (of_decide_eq_true h2) (of_decide_eq_true h3) (of_decide_eq_true h4) (of_decide_eq_true h5))
 (fun Γ x h=>.of fun K R=>SE.IE (nd:=.eT []) (o:=.dI []) rfl (fun h=>Heap.DictOf.new h) (.dI (kvs:=[]) (l:=[]) (Nat.zero_le _) rfl))
 (fun a i oq Ov Γ x h=>.of fun K R=>aP h fun h h3=>aP h fun h1 h2=>SE.sub (nF h3) (oq Γ _ h1 K R).v (Ov Γ _ h2 K R).v)
 (fun a lo hi oq Aj Sg Γ x h=>.of fun K R=>aP h fun h1 h=>aP h fun h3 h2=>SE.slice (oq Γ _ h1 K R).v ((Aj Γ _ h2).so K R) ((Sg Γ _ h3).so K R))
 (fun f l ih Γ x h=>.of fun K R=>aP h fun h h3=>aP h fun h1 h2=>SE.call H.B (of_decide_eq_true h2) (R.gI h3).1 (R.gI h3).2 (H.O f _ (of_decide_eq_true h2)) (R.callee H f) ((ih Γ _ h1).sa R))
 (fun c f l ih Γ x h=>aP h fun h h4=>aP h fun h h3=>aP h fun h1 h2=>(of_decide_eq_true h3:f=fQ c)▸.of fun K R=>KC H h2 h4 (ih Γ _ h1) K R)
 (fun f a ih Γ x h=>aP h fun h h4=>aP h fun h h3=>aP h fun h1 h2=>(of_decide_eq_true h2:f=3)▸.of fun K R=>SE.copy H.B h3 h4 H.O3 (R.callee H 3) (ih Γ _ h1 K R).v)
 (fun b l ih Γ x h=>aP h fun h1 h2=>Ou H (ih Γ _ h1) h2)
 (fun m a l oq Aj Γ x h=>.of fun K R=>aP h fun h h5=>aP h fun h h4=>aP h fun h h3=>aP h fun h1 h2=>SE.b4 H.B h3 h4 ((Aj Γ _ h2).length▸of_decide_eq_true h5) (oq Γ _ h1 K R).v ((Aj Γ _ h2).sa R))
 (fun ix s c e DR KD DS Γ x h=>aP h fun h h5=>aP h fun h h4=>aP h fun h h3=>aP h fun h1 h2=>vX H h4 h5 (fun K R=>.val (DR Γ _ h1 K R).v) (fun K R=>(KD _ _ h2).st K R) (DS _ _ h3))
 (fun ix s c e DR KD DS Γ x h=>aP h fun h h6=>aP h fun h h5=>aP h fun h h4=>aP h fun h h3=>aP h fun h1 h2=>vX H h4 rfl (oS H h5 h6 (DR Γ _ h1)) (fun K R=>(KD _ _ h2).st K R) (DS _ _ h3))
 (fun _ _ _ _ _ _ _ _ _ h=>nomatch h)
 (fun p e q ih Γ x h=>.of fun K R=>aP h fun h h5=>aP h fun h h4=>aP h fun h h3=>aP h fun h1 h2=>SE.CC h2 h3 (of_decide_eq_true h4) (of_decide_eq_true h5) (ih Γ _ h1 K R).v)
 (fun e ih Γ x h=>aP h fun h h5=>aP h fun h h4=>aP h fun h h3=>aP h fun h1 h2=>G4 H h2 (of_decide_eq_true h3) h4 h5 (ih _ _ h1))
 (fun e ih Γ x h=>aP h fun h1 h2=>.of (fun K R=>(ih Γ x h1 K R).v.pure) fun K=>zu h2)
 (fun Γ xs h=>.nil) (fun e l DS Aj Γ xs h=>aP h fun h h3=>aP h fun h1 h2=>.cons h3 (DS Γ _ h1) (Aj Γ _ h2)) (fun Γ x h=>⟨fun K R=>.none,fun K R=>.nil⟩) (fun e ih Γ x h=>⟨fun K R=>.some (ih Γ _ h K R).v,fun K R=>.one (ih Γ _ h K R).t⟩) e
end
noncomputable def fT(x:Expr):Bool:=rH 8 x&&rH 9 x&&rH 10 x
theorem gS{v:Expr}{t:Option Expr}{n:Nat}{env:Env}(h:fT v=true):swapsWith v t n env=pure false:=by
 cases v<;>first| rfl|injection h
theorem zv{t v:Expr}{n:Nat}{env:Env}(h:fT v=true):swapsWithSole [t] v n env=pure false:=by unfold swapsWithSole;exact gS h
noncomputable def DT(x:Expr):Bool:=rH 25 x
theorem vY{env:Env}{a b:Expr}{z:Nat}{pt:Pos}{v:Expr}(h:DT v=true):swappedStores [.Tuple [a,b] z pt] v env=pure none:=by
 cases v<;>first| rfl|injection h
noncomputable def IU:Stmt->List Expr×List Stmt×List Stmt
 |.Assign ts v _=>(v::ts,[],[])
 |.Delete ts _=>(ts,[],[])
 |.Expr v _=>([v],[],[])
 |.If t a b _=>([t],a,b)
 |.For t it a _ _=>([t,it],a,[])
 |.Return v _=>(oX v,[],[])
 |.Raise v _ _=>(oX v,[],[])
 |_=>([],[],[])
noncomputable def Si(x:Stmt):List Expr:=(IU x).1
noncomputable def v5(x:Stmt):List Stmt×List Stmt:=(IU x).2
noncomputable def kS(i:Nat) (x:Stmt):Expr:=(Si x).getD i default
noncomputable def Ow(x:Expr):Expr:=jj (dZ x) x
noncomputable def Ox(a i x:Expr):Expr:=.Subscript a i x.pos
noncomputable def Oz:S->Stmt->Stmt:=S.rec (motive_1:=fun _=>Stmt->Stmt) (motive_2:=fun _=>List Stmt->List Stmt)
 (fun _ e x=>.Assign [Ow (kS 1 x)] (eG e (kS 0 x)) x.pos)
 (fun _ _ e x=>.Assign [.Tuple [Ow (bY 0 (kS 1 x)),Ow (bY 1 (kS 1 x))] (Kz (kS 1 x)) (kS 1 x).pos] (eG e (kS 0 x)) x.pos)
 (fun o f e x=>.Assign [G0 (eG o (bY 0 (kS 1 x))) (tx f) (kS 1 x)] (eG e (kS 0 x)) x.pos)
 (fun o i e x=>.Assign [Ox (eG o (bY 0 (kS 1 x))) (eG i (bY 1 (kS 1 x))) (kS 1 x)] (eG e (kS 0 x)) x.pos)
 (fun o i x=>.Delete [Ox (eG o (bY 0 (kS 0 x))) (eG i (bY 1 (kS 0 x))) (kS 0 x)] x.pos)
 (fun e x=>.Expr (eG e (kS 0 x)) x.pos)
 (fun c _ _ a b x=>.If (eG c (kS 0 x)) (a (v5 x).1) (b (v5 x).2) x.pos)
 (fun _ src _ b x=>.For (Ow (kS 0 x)) (eG src (kS 1 x)) (b (v5 x).1) [] x.pos)
 (fun _ src _ b x=>.For (Ow (kS 0 x)) (kH (jj "range" (bY 0 (kS 1 x))) (Oo src (rest (kS 1 x))) (kS 1 x)) (b (v5 x).1) [] x.pos)
 (fun e x=>.Return (some (eG e (kS 0 x))) x.pos) (fun x=>.Return none x.pos)
 (fun e x=>.Raise (some (kH (jj "Refusal" (bY 0 (kS 0 x))) [eG e (bY 1 (kS 0 x))] (kS 0 x))) none x.pos)
 (fun x=>.Continue x.pos) (fun x=>x) (fun _ _ s=>s) (fun _=>[]) (fun _ _ s l xs=>s (xs.headD default)::l (xs.drop 1))
noncomputable def zw(l:List S) (xs:List Stmt):List Stmt:=(v5 (Oz (.ifs .none l []) (.If default xs [] default))).1
noncomputable def MA(Γ:Cn) (y:Str) (i:Nat):Bool:=(Γ.kd y==some .local||Γ.kd y==some .cell)&&Γ.vs.all (fun p=>p.1 != y||p.2==i)&&Γ.vs.all (fun p=>p.2 != i||p.1==y)
noncomputable def Qt(Γ:Cn) (scope:Scope) (y:Str) (py cp:Pos):Bool:=Γ.kd y==some .local&&py.line==cp.line&&!(scope.names.any fun(n,k)=>n==y&&(k==.local||k==.cell))
noncomputable def G5(nm:Nat->Option Str) (e:E) (Γ:Cn) (x:Expr) (y:Str) (py:Pos):Bool:=match e with
 |.comp _ _ _ _=>rI nm e Γ x
 |.cM _ _ _ _=>rI nm e Γ x
 |.o8 ix src k v=>rI nm src Γ (bY 3 x)&&rI nm k (Γ.comp (fB x) (dZ (bY 2 x)) ix) (bY 0 x)&&rI nm v (Γ.comp (fB x) (dZ (bY 2 x)) ix) (bY 1 x)&&Qt Γ (fB x) y py x.pos&&KA Γ (fB x) (dZ (bY 2 x))&&iL (eG src (bY 3 x))
 |_=>false
noncomputable def UA(nm:Nat->Option Str):S->Cn->Stmt->Bool:=S.rec (motive_1:=fun _=>Cn->Stmt->Bool) (motive_2:=fun _=>Cn->List Stmt->Bool)
 (fun i e Γ x=>MA Γ (dZ (kS 1 x)) i&&cond (fT (eG e (kS 0 x))) (rI nm e Γ (kS 0 x)) (G5 nm e Γ (kS 0 x) (dZ (kS 1 x)) (kS 1 x).pos))
 (fun i j e Γ x=>rI nm e Γ (kS 0 x)&&MA Γ (dZ (bY 0 (kS 1 x))) i&&MA Γ (dZ (bY 1 (kS 1 x))) j&&fT (eG e (kS 0 x))&&DT (eG e (kS 0 x)))
 (fun o f e Γ x=>rI nm o Γ (bY 0 (kS 1 x))&&rI nm e Γ (kS 0 x)&&fT (eG e (kS 0 x))&&decide (f∈fh))
 (fun o i e Γ x=>rI nm o Γ (bY 0 (kS 1 x))&&rI nm i Γ (bY 1 (kS 1 x))&&rI nm e Γ (kS 0 x)&&fT (eG e (kS 0 x)))
 (fun o i Γ x=>rI nm o Γ (bY 0 (kS 0 x))&&rI nm i Γ (bY 1 (kS 0 x)))
 (fun e Γ x=>rI nm e Γ (kS 0 x)&&fT (eG e (kS 0 x)))
 (fun c _ _ a b Γ x=>rI nm c Γ (kS 0 x)&&(b Γ (v5 x).2&&a Γ (v5 x).1))
 (fun i src _ b Γ x=>rI nm src Γ (kS 1 x)&&b Γ (v5 x).1&&MA Γ (dZ (kS 0 x)) i&&iL (eG src (kS 1 x)))
 (fun i src _ b Γ x=>Uz nm src Γ (rest (kS 1 x))&&b Γ (v5 x).1&&MA Γ (dZ (kS 0 x)) i&&decide (0<src.length)&&gl Γ "range")
 (fun e Γ x=>rI nm e Γ (kS 0 x)) (fun _ _=>true) (fun e Γ x=>rI nm e Γ (bY 1 (kS 0 x))&&gl Γ "Refusal" && plainArg (eG e (bY 1 (kS 0 x)))) (fun _ _=>true) (fun _ _=>true) (fun _ _ s=>s)
 (fun _ _=>true) (fun _ _ a l Γ xs=>a Γ (xs.headD default)&&l Γ (xs.drop 1))
noncomputable def Sj(nm:Nat->Option Str) (l:List S) (Γ:Cn) (xs:List Stmt):Bool:=UA nm (.ifs .none l []) Γ (.If default xs [] default)
section
variable {cx:Cx}{F:Frag}{nm:Nat->Option Str}{C:fj}{D U:Nat}{Γ:Cn}{K:Kx}{x v:Expr}{y:Str}{scope:Scope}{ix i:Nat}{k:Kv}{py pos:Pos}
theorem kJ(R:kI cx D U Γ K) (h:MA Γ y i=true):fP K y i:=aP h fun h h3=>aP h fun h1 h2=>by
 simp only[Bool.or_eq_true,beq_iff_eq,bne_iff_ne,List.all_eq_true] at h1 h2 h3
 exact⟨R.kd y▸h1,fun j m=>(h2 _ (R.vs▸m)).resolve_left fun q=>q rfl,fun z m=>(h3 _ (R.vs▸m)).resolve_left fun q=>q rfl⟩
theorem rJ{elt:Expr}{gens:List Comprehension}{cp:Pos}{n:Nat}(R:kI cx D U Γ K):swapsWith (.ListComp elt gens scope cp) (some (.Name y py)) n K.env=pure (Qt Γ scope y py cp):=by
 show(pure (K.env.blockKind==.function&&K.env.kindOf y==some .local&&py.line==(Expr.ListComp elt gens scope cp).pos.line&&!(scope.names.any fun(n,k)=>n==y&&(k==.local||k==.cell))):Sem Bool)=_
 have hb:K.env.blockKind=.function:=by unfold Env.blockKind;rw[R.fn];rfl
 rw[hb,R.kd]
 rfl
theorem zy{kx vx:Expr}{gens:List Comprehension}{cp:Pos}{n:Nat}(R:kI cx D U Γ K):swapsWith (.DictComp kx vx gens scope cp) (some (.Name y py)) n K.env=pure (Qt Γ scope y py cp):=by
 show(pure (K.env.blockKind==.function&&K.env.kindOf y==some .local&&py.line==(Expr.DictComp kx vx gens scope cp).pos.line&&!(scope.names.any fun(n,k)=>n==y&&(k==.local||k==.cell))):Sem Bool)=_
 have hb:K.env.blockKind=.function:=by unfold Env.blockKind;rw[R.fn];rfl
 rw[hb,R.kd]
 rfl
theorem mU(H:Hyp cx F nm C D U):∀l,M2 cx nm C D U l
 |[]=>fun Γ xs h=>.nil
 |e::l=>fun Γ xs h=>aP h fun h h3=>aP h fun h1 h2=>.cons h3 (gA H e Γ _ h1) (mU H l Γ _ h2)
theorem rK(H:Hyp cx F nm C D U):∀o,M3 cx nm C D U o
 |none=>fun Γ x h=>⟨fun K R=>.none,fun K R=>.nil⟩
 |some e=>fun Γ x h=>⟨fun K R=>.some (gA H e Γ _ h K R).v,fun K R=>.one (gA H e Γ _ h K R).t⟩
theorem rL{elt:Expr}{z:Str}{px cp:Pos}{iter:Expr}{c:Option E}{src:Gm->aB->R (List PV)}{e:E}{o:Option Expr}(H:Hyp cx F nm C D U) (R:kI cx D U Γ K) (V:fP K y i) (hc:KA Γ scope z=true) (hi:iL iter=true) (h1:∀K,kI cx D U Γ K->Src cx K iter src)
  (ht:∀K,kI cx D U (Γ.comp scope z ix) K->Fq cx K (oX o) (A7 C c)) (he:Gd cx D U (Γ.comp scope z ix) elt (ev C e)):jH cx K (.Assign [.Name y py] (.ListComp elt [⟨.Name z px,iter,oX o,0⟩] scope cp) pos) (iy i (qE src (jq ix (A7 C c) (ev C e)))):=by
 cases UB:Qt Γ scope y py cp with
 |false=>exact .assign ((rJ R).trans (congrArg pure UB)) V (vX H hc hi h1 ht he K R).v
 |true=>exact .zh H.B R.hh (oR R hc) (fS hi) ((rJ R).trans (congrArg pure UB)) V (h1 K R) (fun A=>ht _ (R.comp hc)) fun A=>(he _ (R.comp hc)).v
inductive v7:E->Prop
 |comp (ix:Nat) (s:E) (c:Option E) (e:E):v7 (.comp ix s c e)
 |cM (ix:Nat) (s:List E) (c:Option E) (e:E):v7 (.cM ix s c e)
 |o8 (ix:Nat) (s k v:E):v7 (.o8 ix s k v)
theorem BH{e:E}(h:G5 nm e Γ x y py=true):v7 e:=by
 cases e with
 |comp=>exact .comp ..
 |cM=>exact .cM ..
 |o8=>exact .o8 ..
 |_=>exact absurd h Bool.false_ne_true
theorem DU(H:Hyp cx F nm C D U) (R:kI cx D U Γ K) (V:fP K y i) (e:E) (h:G5 nm e Γ x y py=true):jH cx K (.Assign [.Name y py] (eG e x) pos) (iy i (ev C e)):=by
 have E1:=gA H
 induction BH h with
 |comp ix s c e=>exact aP h fun h h5=>aP h fun h h4=>aP h fun h h3=>aP h fun h1 h2=>rL H R V h4 h5 (fun K R=>.val (E1 s Γ _ h1 K R).v) (fun K R=>(rK H c _ _ h2).st K R) (E1 e _ _ h3)
 |cM ix s c e=>exact aP h fun h h6=>aP h fun h h5=>aP h fun h h4=>aP h fun h h3=>aP h fun h1 h2=>rL H R V h4 rfl (oS H h5 h6 (mU H s Γ _ h1)) (fun K R=>(rK H c _ _ h2).st K R) (E1 e _ _ h3)
 |o8 ix s k v=>exact aP h fun h h6=>aP h fun h h5=>aP h fun h h4=>aP h fun h h3=>aP h fun h1 h2=>jH.xJ H.B R.hh (oR R h5) (fS h6) ((zy R).trans (congrArg pure h4)) V (.val (E1 s Γ _ h1 K R).v) (fun A=>(E1 k _ _ h2 _ (R.comp h5)).v) fun A=>(E1 v _ _ h3 _ (R.comp h5)).v
theorem BI(H:Hyp cx F nm C D U) (R:kI cx D U Γ K) (V:fP K y i) (e:E) (h:cond (fT (eG e x)) (rI nm e Γ x) (G5 nm e Γ x y py)=true):jH cx K (.Assign [.Name y py] (eG e x) pos) (iy i (ev C e)):=by
 induction hp:fT (eG e x) with
 |true=>rw[hp] at h;exact .assign (gS hp) V (gA H e Γ x h K R).v
 |false=>rw[hp] at h;exact DU H R V e h
noncomputable def N1(cx:Cx) (nm:Nat->Option Str) (C:fj) (D U:Nat) (s:S):Prop:=∀Γ x,UA nm s Γ x=true->∀K,kI cx D U Γ K->jH cx K (Oz s x) (ex C s)
noncomputable def N2(cx:Cx) (nm:Nat->Option Str) (C:fj) (D U:Nat) (l:List S):Prop:=∀Γ xs,Sj nm l Γ xs=true->∀K,kI cx D U Γ K->sV cx K (zw l xs) (bO C l)
theorem zA(H:Hyp cx F nm C D U) (l:List S):N2 cx nm C D U l :=
 have E1:=gA H
 S.rec_1 (motive_1:=N1 cx nm C D U) (motive_2:=N2 cx nm C D U)
 (fun i e Γ x h K R=>aP h fun h1 h2=>BI H R (kJ R h1) e h2)
 (fun i j e Γ x h K R=>aP h fun h h5=>aP h fun h h4=>aP h fun h h3=>aP h fun h1 h2=>.qf R.hh (zv h4) (vY h5) (kJ R h2) (kJ R h3) (E1 e Γ _ h1 K R).v)
 (fun o f e Γ x h K R=>aP h fun h h4=>aP h fun h h3=>aP h fun h1 h2=>.setattr H.B (of_decide_eq_true h4) (gS h3) (E1 o Γ _ h1 K R).v (E1 e Γ _ h2 K R).v)
 (fun o i e Γ x h K R=>aP h fun h h4=>aP h fun h h3=>aP h fun h1 h2=>.dN (gS h4) (E1 o Γ _ h1 K R).v (E1 i Γ _ h2 K R).v (E1 e Γ _ h3 K R).v)
 (fun o i Γ x h K R=>aP h fun h1 h2=>.qg (E1 o Γ _ h1 K R).v (E1 i Γ _ h2 K R).v)
 (fun e Γ x h K R=>aP h fun h1 h2=>.expr (show interactive K.env=false by unfold interactive;rw[R.fn];rfl) (gS h2) (E1 e Γ _ h1 K R).v)
 (fun c a b oq yP Γ x h K R=>aP h fun h1 h=>aP h fun h3 h2=>.ifs (E1 c Γ _ h1 K R).t (oq Γ _ h2 K R) (yP Γ _ h3 K R))
 (fun i s b ih Γ x h K R=>aP h fun h h4=>aP h fun h h3=>aP h fun h1 h2=>.for H.B R.hh (fS h4) (kJ R h3) (.val (E1 s Γ _ h1 K R).v) (ih Γ _ h2 K R))
 (fun i s b ih Γ x h K R=>aP h fun h h5=>aP h fun h h4=>aP h fun h h3=>aP h fun h1 h2=>.for H.B R.hh (fS rfl) (kJ R h3) (oS H h4 h5 (mU H s Γ _ h1) K R) (ih Γ _ h2 K R))
 (fun e Γ x h K R=>.ret (E1 e Γ _ h K R).v) (fun Γ x h K R=>.FH)
 (fun e Γ x h K R=>aP h fun h h3=>aP h fun h1 h2=>.raise H.B H.RO R.hh (Nat.lt_of_le_of_lt (Nat.add_le_add (le_if R.d) (by decide:1<=6)) H.hD) (R.gl h2) (eW h3) (E1 e Γ _ h1 K R).v)
 (fun Γ x h K R=>.cont) (fun Γ x h K R=>.bad) (fun _ _ ih Γ x h K R=>(ih Γ x h K R).cut)
 (fun Γ xs h K R=>.nil) (fun s l DR Aj Γ xs h K R=>aP h fun h1 h2=>.cons (DR Γ _ h1 K R) (Aj Γ _ h2 K R)) l
end
structure OA(cx:Cx) (F:Frag) (nm:Nat->Option Str) (T:Nat->Fn):Prop where
 B:Base cx nm
 KB:Cs cx F
 RO:pN cx
 O:∀f x,nm f=some x->gQ cx.h₀ (cx.fA f) (cx.fd f)
 O3:gQ cx.h₀ (cx.fA 3) (cx.fd 3)
 LO:ua cx
 kept:∃Fd,rG cx Fd
 fns:∀f,(∃ps ds vs body,FnAt cx f (T f) ps ds vs body/\zw (T f).body body=body/\Sj nm (T f).body ⟨fun y=>(cx.fd f).scope.names.lookup y,vs,decide (f=83)⟩ body=true)\/∀C as st,fq C (T f) as st=none
theorem Ak{D k n m r L:Nat}(h:D+m*(k+1)+r<L) (hn:n<=m):D+m+r<L/\D+m+m*k+r<L/\D+n<L:=by
 rw[Nat.mul_succ,Nat.add_comm (m*k) m,<-Nat.add_assoc] at h
 have h2:D+m+r<L:=Nat.lt_of_le_of_lt (Nat.add_le_add_right (Nat.le_add_right _ _) r) h
 exact⟨h2,h,Nat.lt_of_le_of_lt (Nat.le_trans (Nat.add_le_add_left hn D) (Nat.le_add_right _ r)) h2⟩
theorem walk{cx:Cx}{F:Frag}{nm:Nat->Option Str}{T:Nat->Fn}(S:OA cx F nm T) (k:Nat):∀(D U:Nat),D+4*k+8<recursionLimit->U+16*k+40<cLine->∀(f:Nat) (A:Around) (l:List Env),A.frames=some l->A.handled=none->A.depth<=D+3->A.units<=U+12->Callee cx A l (call T k) f:=by
 induction k with
 |zero=>exact fun D U _ _ f A l _ _ _ _ w us sO I fr ar Q E T=>T.no
 |succ k ih =>
  intro D U hD hU f A l h1 h2 h3 h4
  rcases S.fns f with⟨ps,ds,vs,body,X,hd,hc⟩|hn
  ·have Mp:=Ak hD (by decide:3<=4);have d1:=Mp.1;have d2:=Mp.2.1;have d3:=Mp.2.2
   have NR:=Ak hU (Nat.zero_le 16);have u1:=NR.1;have u2:=NR.2.1
   have H:Hyp cx F nm (call T k) (D+4) (U+16):=⟨S.B,S.KB,S.RO,S.O,S.O3,S.LO,S.kept,ih _ _ d2 u2,d1,u1⟩
   have hb:BodyOk cx A l (call T k) f (T f) vs body:=fun L=>by
    have z:=zA H (T f).body _ body hc (pK cx A l f vs L) ⟨X.kind,fun y=>rfl,rfl,fun hl=>?_,Around.frames_deeper h1,h2,Nat.le_trans (Nat.add_le_add_right h3 1) (Nat.le_add_right _ _),Nat.le_trans (Nat.add_le_add_right h4 3) (Nat.le_trans (Nat.add_le_add_left (by decide:15<=16) U) (Nat.le_add_right _ _))⟩
    ·rw[hd] at z;exact z
    ·obtain rfl:=of_decide_eq_true hl
     exact⟨rfl,S.LO.q.symm⟩
   exact fun w us sO I fr ar Q E T'=>zm X (Nat.lt_of_le_of_lt h3 d3) h1 hb I fr ar T'
  ·exact fun w us sO I fr ar Q E T'=>absurd (hn _ _ _) T'.ne
end Mine
namespace Mine
open PySem
noncomputable def bq:Tx:=[78,85,76,76]
noncomputable def aj:Tx:=[107,105,110,100]
noncomputable def az:Tx:=[97,116,116,114,115]
noncomputable def bF:Tx:=[109,105,115,115,105,110,103]
noncomputable def ai:Tx:=[105,116,101,109,115]
noncomputable def kK:Tx:=[115,104,97,114,101,100]
noncomputable def aX:Tx:=[108,111,111,115,101]
noncomputable def cS:Tx:=[115,121,109,98,111,108]
noncomputable def ig:Tx:=[110,97,109,101]
noncomputable def aI:Tx:=[108,97,110,103,117,97,103,101]
noncomputable def b6:Tx:=[116,97,103,115]
noncomputable def jJ:Tx:=[99,111,100,101]
noncomputable def v8:Tx:=[77,79,83,84,95,76,69,78,71,84,72]
noncomputable def aa:Tx:=[105,110,116,101,103,101,114]
noncomputable def ao:Tx:=[99,104,97,114,97,99,116,101,114]
noncomputable def bG:Tx:=[110,97,109,101,115]
noncomputable def mC:Tx:=[101,110,118,105,114,111,110,109,101,110,116]
noncomputable def dU:Tx:=[100,105,109]
noncomputable def bP:Tx:=[100,105,109,110,97,109,101,115]
noncomputable def bZ:Tx:=[99,97,110,39,116,32,109,105,120,32,78,65,115,32,119,105,116,104,32,110,101,103,97,116,105,118,101,32,115,117,98,115,99,114,105,112,116,115]
noncomputable def b3:Tx:=[99,97,110,39,116,32,109,105,120,32,112,111,115,105,116,105,118,101,32,97,110,100,32,110,101,103,97,116,105,118,101,32,115,117,98,115,99,114,105,112,116,115]
noncomputable def bw:Tx:=[108,111,103,105,99,97,108]
noncomputable def aY:Tx:=[100,111,117,98,108,101]
noncomputable def fU:Tx:=[105,110,118,97,108,105,100,32,115,117,98,115,99,114,105,112,116,32,116,121,112,101,32,39]
noncomputable def t_:Tx:=[39]
noncomputable def aE:Tx:=[108,105,115,116]
noncomputable def cI:Tx:=[101,120,112,114,101,115,115,105,111,110]
noncomputable def bH:Tx:=[112,97,105,114,108,105,115,116]
noncomputable def eH:Tx:=[60,78,65,62]
noncomputable def bQ:Tx:=[115,117,98,115,99,114,105,112,116,32,111,117,116,32,111,102,32,98,111,117,110,100,115]
noncomputable def pO:Tx:=[97]
noncomputable def pP:Tx:=[98]
noncomputable def jK:Tx:=[97,98]
noncomputable def jw:Tx:=[97,98,99]
noncomputable def BJ:Tx:=[99]
noncomputable def eX:Tx:=[105,110,118,97,108,105,100,32,115,117,98,115,99,114,105,112,116,32,116,121,112,101,32,39,108,105,115,116,39]
noncomputable def Sk:Tx:=[102]
noncomputable def Sl:Tx:=[120]
noncomputable def Qu:Tx:=[119]
noncomputable def Qv:Tx:=[121]
noncomputable def OB:Tx:=[122]
noncomputable def ir:Tx:=[117,110,105,116]
noncomputable def MB:Tx:=[109]
noncomputable def f0:Fn:=⟨1,[],0,true,true,[.setattr (.var 0) aj (.str bq),.setattr (.var 0) az .none]⟩
noncomputable def f1:Fn:=⟨1,[],0,true,true,[.setattr (.var 0) aj (.str bF),.setattr (.var 0) az .none]⟩
noncomputable def f2:Fn:=⟨4,[.none],0,true,true,[.setattr (.var 0) aj (.var 1),.setattr (.var 0) ai (.var 2),.setattr (.var 0) az (.var 3),.setattr (.var 0) kK (.bool false),.setattr (.var 0) aX (.bool false)]⟩
noncomputable def f3:Fn:=⟨1,[],1,true,true,[.assign 1 .none,.ifs (.cmp .ee (.attr (.var 0) az) .none) [.assign 1 (.bi .dict [(.attr (.var 0) az)])] [],.ret (.new .aJ 2 [(.attr (.var 0) aj),(.bi .list [(.attr (.var 0) ai)]),(.var 1)])]⟩
noncomputable def f4:Fn:=⟨2,[],0,true,true,[.setattr (.var 0) aj (.str cS),.setattr (.var 0) ig (.var 1),.setattr (.var 0) az .none]⟩
noncomputable def f5:Fn:=⟨4,[.none],0,true,true,[.setattr (.var 0) aj (.str aI),.setattr (.var 0) ai (.var 1),.setattr (.var 0) b6 (.var 2),.setattr (.var 0) az (.var 3),.setattr (.var 0) jJ .none]⟩
noncomputable def f6:Fn:=⟨1,[],0,false,false,[.ifs (.cmp .gt (.var 0) (.glob 1000000 v8)) [.bad] [],.ret (.var 0)]⟩
noncomputable def f7:Fn:=⟨1,[],0,false,false,[.ret (.new .aJ 2 [(.str aa),(.bi .list [(.var 0)])])]⟩
noncomputable def f8:Fn:=⟨1,[],0,false,false,[.ret (.new .aJ 2 [(.str ao),(.bi .list [(.var 0)])])]⟩
noncomputable def f9:Fn:=⟨2,[],0,true,true,[.ifs (.cmp .ee (.var 1) .none) [.setattr (.var 0) az (.dm [bG] [(.call 8 [(.var 1)])])] [],.ret (.var 0)]⟩
noncomputable def Wi:Fn:=⟨1,[],0,false,false,[.ret (.bi .l9 [(.var 0)])]⟩
noncomputable def Wj:Fn:=⟨1,[],0,true,true,[.ifs (.attr (.var 0) aX) [.bad] [],.ret (.copy 3 (.var 0))]⟩
noncomputable def Wk:Fn:=⟨1,[],0,false,false,[.ifs (.bi .l9 [(.var 0)]) [.setattr (.var 0) kK (.bool true)] [],.ret (.var 0)]⟩
noncomputable def Wl:Fn:=⟨2,[],0,true,true,[.ifs (.cmp .is (.attr (.var 0) az) .none) [.ret .none] [],.ret (.b4 .w6 (.attr (.var 0) az) [(.var 1)])]⟩
noncomputable def Wm:Fn:=⟨2,[],0,true,true,[.ifs (.and [(.cmp .ee (.attr (.var 0) az) .none),(.cmp .oj (.var 1) (.attr (.var 0) az))]) [.qg (.attr (.var 0) az) (.var 1),.ifs (.cmp .eq (.bi .len [(.attr (.var 0) az)]) (.int 0)) [.bad] []] []]⟩
noncomputable def Wn:Fn:=⟨3,[],0,true,true,[.ifs (.cmp .is (.attr (.var 0) az) .none) [.setattr (.var 0) az (.dm [] [])] [],.dN (.attr (.var 0) az) (.var 1) (.call 12 [(.var 2)])]⟩
noncomputable def Wo:Fn:=⟨1,[],3,true,true,[.ifs (.cmp .eq (.attr (.var 0) aj) (.str aI)) [.bad,.bad] [],.ifs (.cmp .eq (.attr (.var 0) aj) (.str mC)) [.bad] [],.assign 1 (.call 17 [(.var 0)]),.ifs (.and [(.cmp .ee (.var 1) .none),(.cmp .eq (.bi .len [(.var 1)]) (.int 1))]) [.assign 2 (.call 18 [(.var 0)]),.ret (.ite (.cmp .is (.var 2) .none) .none (.sub (.var 2) (.int 0)))] [],.assign 3 (.call 13 [(.var 0),(.str bG)]),.ifs (.cmp .is (.var 3) .none) [.ret .none] [],.ret (.bi .list [(.attr (.var 3) ai)])]⟩
noncomputable def Wq:Fn:=⟨1,[],1,true,true,[.assign 1 (.call 13 [(.var 0),(.str dU)]),.ifs (.cmp .is (.var 1) .none) [.ret .none] [],.ret (.bi .list [(.attr (.var 1) ai)])]⟩
noncomputable def Wr:Fn:=⟨1,[],2,true,true,[.assign 1 (.call 13 [(.var 0),(.str bP)]),.ifs (.cmp .is (.var 1) .none) [.ret .none] [],.ret (.comp 2 (.attr (.var 1) ai) none (.ite (.cmp .eq (.attr (.var 2) aj) (.str bq)) .none (.bi .list [(.attr (.var 2) ai)])))]⟩
noncomputable def Ws:Fn:=⟨1,[],0,false,false,[.ret (.and [(.cmp .ee (.var 0) .none),(.cmp .gt (.sub (.var 0) (.int 1)) (.int 0))])]⟩
noncomputable def Wt:Fn:=⟨1,[],1,false,false,[.ifs (.not (.call 19 [(.var 0)])) [.bad] [],.assign 1 (.bin .fdiv (.bi .abs [(.sub (.var 0) (.int 0))]) (.sub (.var 0) (.int 1))),.ret (.ite (.cmp .ge (.sub (.var 0) (.int 0)) (.int 0)) (.var 1) (.bin .sub (.int 0) (.var 1)))]⟩
noncomputable def Wu:Fn:=⟨1,[],2,false,false,[.ifs (.cmp .eq (.attr (.var 0) aj) (.str aa)) [.ret (.attr (.var 0) ai)] [],.assign 1 (.list []),.gk 2 (.attr (.var 0) ai) [.ifs (.or [(.cmp .is (.var 2) .none),(.cmp .eq (.sub (.var 2) (.int 1)) (.int 0))]) [.expr (.b4 .append (.var 1) [.none])] [.expr (.b4 .append (.var 1) [(.call 20 [(.var 2)])])]],.ret (.var 1)]⟩
noncomputable def Wv:Fn:=⟨2,[],4,false,false,[.assign 2 (.bi .len [(.var 0)]),.ifs (.cmp .eq (.var 2) (.int 0)) [.ret (.list [])] [],.assign 3 (.list []),.forR 4 [(.bi .max2 [(.var 1),(.var 2)])] [.assign 5 (.sub (.var 0) (.bin .mod (.var 4) (.var 2))),.ifs (.cmp .is (.var 5) .none) [.expr (.b4 .append (.var 3) [.none])] [.ifs (.cmp .ne (.var 5) (.int 0)) [.expr (.b4 .append (.var 3) [(.var 4)])] []]],.ret (.var 3)]⟩
noncomputable def Ww:Fn:=⟨2,[],5,false,false,[.assign 2 (.list []),.assign 3 .CB,.assign 4 (.bool false),.gk 5 (.var 0) [.ifs (.cmp .is (.var 5) .none) [.assign 4 (.bool true),.expr (.b4 .append (.var 2) [.none])] [.ifs (.cmp .gt (.var 5) (.int 0)) [.expr (.b4 .append (.var 2) [(.bin .sub (.var 5) (.int 1))])] [.ifs (.cmp .lt (.var 5) (.int 0)) [.dN (.var 3) (.bin .sub (.neg (.var 5)) (.int 1)) (.bool true)] []]]],.ifs (.cmp .eq (.bi .len [(.var 3)]) (.int 0)) [.ret (.var 2)] [],.ifs (.var 4) [.raise (.str bZ)] [],.ifs (.cmp .gt (.bi .len [(.var 2)]) (.int 0)) [.raise (.str b3)] [],.ret (.cM 6 [(.var 1)] (some (.cmp .sL (.var 6) (.var 3))) (.var 6))]⟩
noncomputable def Wx:Fn:=⟨1,[],3,false,false,[.assign 1 (.dm [] []),.ifs (.cmp .ee (.var 0) .none) [.forR 2 [(.bi .len [(.var 0)])] [.assign 3 (.sub (.var 0) (.var 2)),.ifs (.and [(.cmp .ee (.var 3) .none),(.cmp .ne (.var 3) (.str [])),(.cmp .sL (.var 3) (.var 1))]) [.dN (.var 1) (.var 3) (.var 2)] []]] [],.ret (.var 1)]⟩
noncomputable def Wy:Fn:=⟨2,[],3,false,false,[.assign 2 (.call 24 [(.var 1)]),.assign 3 (.list []),.gk 4 (.var 0) [.ifs (.and [(.cmp .ee (.var 4) .none),(.cmp .oj (.var 4) (.var 2))]) [.expr (.b4 .append (.var 3) [(.sub (.var 2) (.var 4))])] [.expr (.b4 .append (.var 3) [.none])]],.ret (.var 3)]⟩
noncomputable def Wz:Fn:=⟨4,[],1,false,false,[.assign 4 (.attr (.var 0) aj),.ifs (.cmp .eq (.var 4) (.str bF)) [.bad] [],.ifs (.cmp .eq (.var 4) (.str bq)) [.ret (.tup [(.list []),.none])] [],.ifs (.cmp .eq (.var 4) (.str bw)) [.ret (.tup [(.call 22 [(.attr (.var 0) ai),(.var 1)]),.none])] [],.ifs (.or [(.cmp .eq (.var 4) (.str aa)),(.cmp .eq (.var 4) (.str aY))]) [.ret (.tup [(.call 23 [(.call 21 [(.var 0)]),(.var 1)]),.none])] [],.ifs (.cmp .eq (.var 4) (.str ao)) [.ifs (.var 3) [.bad] [],.ret (.tup [(.call 25 [(.attr (.var 0) ai),(.var 2)]),.none])] [],.raise (.CC fU (.var 4) t_)]⟩
noncomputable def WA:Fn:=⟨3,[],0,false,false,[.ifs (.cmp .is (.var 0) .none) [.bad] [],.ifs (.not (.var 2)) [.bad] [],.ret (.b4 .qA (.call 24 [(.var 1)]) [(.var 0),(.neg (.int 1))])]⟩
noncomputable def WB:Fn:=⟨2,[],0,false,false,[.ifs (.cmp .is (.var 0) .none) [.bad] [],.ifs (.cmp .gt (.var 0) (.int 0)) [.ret (.bin .sub (.var 0) (.int 1))] [],.bad,.bad,.bad,.bad,.bad]⟩
noncomputable def WC:Fn:=⟨4,[],1,false,false,[.assign 4 (.attr (.var 0) aj),.ifs (.cmp .eq (.var 4) (.str cS)) [.bad] [],.ifs (.cmp .sL (.var 4) (.tup [(.str bw),(.str aa),(.str aY),(.str ao)])) [.bad,.bad] [],.ifs (.cmp .eq (.bi .len [(.attr (.var 0) ai)]) (.int 0)) [.bad] [],.ifs (.cmp .gt (.bi .len [(.attr (.var 0) ai)]) (.int 1)) [.bad] [],.ifs (.cmp .eq (.var 4) (.str ao)) [.ret (.call 27 [(.sub (.attr (.var 0) ai) (.int 0)),(.var 2),(.var 3)])] [],.ifs (.cmp .eq (.var 4) (.str bw)) [.bad] [],.ret (.call 28 [(.sub (.call 21 [(.var 0)]) (.int 0)),(.var 1)])]⟩
noncomputable def WD:Fn:=⟨2,[],1,false,false,[.ifs (.or [(.cmp .is (.var 1) .none),(.cmp .sL (.attr (.var 0) aj) (.tup [(.str aa),(.str aY),(.str ao)]))]) [.ret (.bool false)] [],.assign 2 (.call 17 [(.var 0)]),.ret (.and [(.cmp .ee (.var 2) .none),(.cmp .eq (.bi .len [(.var 2)]) (.int 2)),(.cmp .eq (.sub (.var 2) (.int 1)) (.bi .len [(.var 1)]))])]⟩
noncomputable def WE:Fn:=⟨3,[.none],0,false,false,[.ifs (.not (.call 30 [(.var 0),(.var 1)])) [.ret .none] [],.bad,.bad,.bad,.bad,.bad]⟩
noncomputable def WG:Fn:=⟨1,[],0,false,false,[.ifs (.cmp .oj (.var 0) (.tup [(.str aE),(.str cI),(.str bH)])) [.ret (.new .null 0 [])] [],.ret .none]⟩
noncomputable def WH:Fn:=⟨1,[],0,false,false,[.ret (.cmp .oj (.var 0) (.tup [(.str aE),(.str cI),(.str bH)]))]⟩
noncomputable def WI:Fn:=⟨1,[],0,false,false,[.ifs (.cmp .eq (.var 0) (.str bH)) [.ret (.str aE)] [],.ret (.var 0)]⟩
noncomputable def WJ:Fn:=⟨2,[],3,false,false,[.assign 2 (.list []),.assign 3 (.bi .len [(.attr (.var 0) ai)]),.gk 4 (.var 1) [.ifs (.or [(.cmp .is (.var 4) .none),(.cmp .ge (.var 4) (.var 3))]) [.expr (.b4 .append (.var 2) [(.call 32 [(.attr (.var 0) aj)])])] [.expr (.b4 .append (.var 2) [(.sub (.attr (.var 0) ai) (.var 4))])]],.ret (.var 2)]⟩
noncomputable def WK:Fn:=⟨2,[],2,false,false,[.assign 2 (.list []),.gk 3 (.var 1) [.ifs (.or [(.cmp .is (.var 3) .none),(.cmp .ge (.var 3) (.bi .len [(.var 0)]))]) [.expr (.b4 .append (.var 2) [(.str eH)])] [.expr (.b4 .append (.var 2) [(.sub (.var 0) (.var 3))])]],.ret (.var 2)]⟩
noncomputable def WL:Fn:=⟨2,[],3,true,true,[.assign 2 (.call 16 [(.var 0)]),.assign 3 (.sub (.call 26 [(.var 1),(.bi .len [(.attr (.var 0) ai)]),(.var 2),(.bool false)]) (.int 0)),.assign 4 (.new .aJ 2 [(.call 34 [(.attr (.var 0) aj)]),(.call 35 [(.var 0),(.var 3)])]),.ifs (.cmp .ee (.var 2) .none) [.expr (.call 9 [(.var 4),(.call 36 [(.var 2),(.var 3)])])] [],.ret (.var 4)]⟩
noncomputable def WM:Fn:=⟨1,[],1,false,false,[.assign 1 (.call 13 [(.var 0),(.str bP)]),.ifs (.cmp .is (.var 1) .none) [.ret .none] [],.ret (.call 16 [(.var 1)])]⟩
noncomputable def WN:Fn:=⟨2,[],3,false,false,[.assign 2 (.bool false),.assign 3 (.list []),.gk 4 (.var 0) [.ifs (.cmp .is (.var 4) .none) [.bad] [.assign 2 (.bool true),.expr (.b4 .append (.var 3) [(.call 12 [(.call 8 [(.var 4)])])])]],.ifs (.not (.var 2)) [.bad] [],.ret (.call 9 [(.new .aJ 2 [(.str aE),(.var 3)]),(.var 1)])]⟩
noncomputable def WO:Fn:=⟨4,[],1,true,true,[.setattr (.var 0) az (.dm [dU] [(.call 7 [(.var 1)])]),.ifs (.cmp .ee (.var 2) .none) [.assign 4 (.call 39 [(.var 2),(.var 3)]),.ifs (.cmp .ee (.var 4) .none) [.dN (.attr (.var 0) az) (.str bP) (.var 4)] []] []]⟩
noncomputable def WQ:Fn:=⟨3,[],3,true,true,[.assign 3 (.call 37 [(.var 0),(.var 1)]),.ifs (.and [(.var 2),(.cmp .eq (.bi .len [(.attr (.var 3) ai)]) (.int 1))]) [.ret (.var 3)] [],.assign 4 (.call 16 [(.var 3)]),.assign 5 .none,.ifs (.cmp .ee (.var 4) .none) [.assign 5 (.list [(.var 4)])] [],.expr (.call 40 [(.var 3),(.list [(.bi .len [(.attr (.var 3) ai)])]),(.var 5),(.call 38 [(.var 0)])]),.ret (.var 3)]⟩
noncomputable def WR:Fn:=⟨2,[],6,false,false,[.ifs (.cmp .ne (.bi .len [(.var 1)]) (.int 1)) [.bad] [],.assign 2 (.new .aJ 2 [(.str aE),(.bi .list [(.attr (.var 0) ai)])]),.assign 4 (.comp 3 (.attr (.var 0) b6) none (.ite (.cmp .ee (.var 3) .none) (.var 3) (.str []))),.assign 5 (.sub (.call 26 [(.sub (.var 1) (.int 0)),(.bi .len [(.attr (.var 2) ai)]),(.var 4),(.bool false)]) (.int 0)),.ifs (.cmp .eq (.bi .len [(.var 5)]) (.int 0)) [.ret (.new .null 0 [])] [],.assign 6 (.list []),.gk 7 (.var 5) [.ifs (.or [(.cmp .is (.var 7) .none),(.cmp .ge (.var 7) (.bi .len [(.attr (.var 0) b6)])),(.cmp .eq (.sub (.attr (.var 0) b6) (.var 7)) (.str []))]) [.expr (.b4 .append (.var 6) [.none])] [.expr (.b4 .append (.var 6) [(.sub (.attr (.var 0) b6) (.var 7))])]],.ret (.new .call 5 [(.call 35 [(.var 2),(.var 5)]),(.var 6)])]⟩
noncomputable def WS:Fn:=⟨4,[],2,false,false,[.ifs (.cmp .eq (.attr (.var 0) aj) (.str bq)) [.bad] [],.ifs (.or [(.cmp .eq (.bi .len [(.var 1)]) (.int 0)),(.and [(.cmp .eq (.bi .len [(.var 1)]) (.int 1)),(.cmp .eq (.attr (.sub (.var 1) (.int 0)) aj) (.str bF))])]) [.ifs (.and [(.cmp .ne (.attr (.var 0) aj) (.str aI)),(.not (.call 10 [(.var 0)]))]) [.bad] [],.ret (.var 0)] [],.ifs (.cmp .eq (.attr (.var 0) aj) (.str aI)) [.ret (.call 42 [(.var 0),(.var 1)])] [],.ifs (.not (.call 10 [(.var 0)])) [.bad] [],.assign 4 (.call 17 [(.var 0)]),.ifs (.cmp .eq (.bi .len [(.var 1)]) (.int 1)) [.assign 5 (.call 31 [(.sub (.var 1) (.int 0)),(.var 4),(.call 18 [(.var 0)])]),.ifs (.cmp .ee (.var 5) .none) [.bad] [],.ifs (.and [(.cmp .ee (.var 4) .none),(.cmp .eq (.bi .len [(.var 4)]) (.int 1))]) [.ret (.call 41 [(.var 0),(.sub (.var 1) (.int 0)),(.var 2)])] [],.ret (.call 37 [(.var 0),(.sub (.var 1) (.int 0))])] [],.bad,.bad]⟩
noncomputable def WT:Fn:=⟨3,[],3,false,false,[.ifs (.cmp .eq (.attr (.var 0) aj) (.str bq)) [.bad] [],.ifs (.cmp .eq (.attr (.var 0) aj) (.str mC)) [.bad,.bad] [],.ifs (.cmp .eq (.attr (.var 0) aj) (.str aI)) [.assign 4 (.comp 3 (.attr (.var 0) b6) none (.ite (.cmp .ee (.var 3) .none) (.var 3) (.str []))),.assign 5 (.call 29 [(.var 1),(.bi .len [(.attr (.var 0) ai)]),(.var 4),(.var 2)]),.ifs (.or [(.cmp .is (.var 5) .none),(.cmp .lt (.var 5) (.int 0)),(.cmp .ge (.var 5) (.bi .len [(.attr (.var 0) ai)]))]) [.raise (.str bQ)] [],.ret (.sub (.attr (.var 0) ai) (.var 5))] [],.bad,.bad]⟩
noncomputable def WU:Fn:=⟨1,[],0,false,false,[.ret (.and [(.call 10 [(.var 0)]),(.not (.call 33 [(.attr (.var 0) aj)])),(.cmp .gt (.bi .len [(.attr (.var 0) ai)]) (.int 1))])]⟩
noncomputable def WV:Fn:=⟨3,[],1,false,false,[.ifs (.or [(.cmp .eq (.bi .len [(.var 1)]) (.int 0)),(.cmp .eq (.attr (.sub (.var 1) (.int 0)) aj) (.str bF))]) [.bad] [],.ifs (.cmp .gt (.bi .len [(.var 1)]) (.int 1)) [.bad,.bad,.bad] [],.assign 3 (.sub (.var 1) (.int 0)),.ifs (.or [(.not (.call 45 [(.var 3)])),(.not (.or [(.call 33 [(.attr (.var 0) aj)]),(.cmp .eq (.attr (.var 0) aj) (.str aI))]))]) [.ret (.call 44 [(.var 0),(.var 3),(.var 2)])] [],.bad,.bad,.bad]⟩
noncomputable def WW:Fn:=⟨1,[],1,false,false,[.assign 1 (.tup [(.str bq),(.str bw),(.str aa),(.str aY),(.str ao),(.str aE),(.str cI)]),.ifs (.cmp .oj (.var 0) (.var 1)) [.ret (.b4 .index (.var 1) [(.var 0)])] [],.bad]⟩
noncomputable def WX:Fn:=⟨1,[],3,false,false,[.assign 1 (.tup [(.str bq),(.str bw),(.str aa),(.str aY),(.str ao),(.str aE),(.str cI)]),.assign 2 (.int 0),.gk 3 (.var 0) [.assign 2 (.bi .max2 [(.var 2),(.call 47 [(.var 3)])])],.ret (.sub (.var 1) (.var 2))]⟩
noncomputable def WY:Fn:=⟨4,[],0,false,false,[.ifs (.cmp .eq (.var 0) (.var 2)) [.bad] [],.ifs (.or [(.cmp .eq (.var 2) (.str aE)),(.cmp .eq (.var 2) (.str cI)),(.cmp .eq (.var 2) (.str bH))]) [.ret (.ite (.call 50 [(.var 0)]) (.call 12 [(.new .aJ 2 [(.var 0),(.list [(.var 1)])])]) (.var 1))] [],.bad,.bad,.bad,.bad,.bad]⟩
noncomputable def WZ:Fn:=⟨1,[],0,false,false,[.ret (.cmp .oj (.var 0) (.tup [(.str bw),(.str aa),(.str aY),(.str ao)]))]⟩
noncomputable def W0:Fn:=⟨2,[],0,true,true,[.ifs (.cmp .ee (.var 1) .none) [.bad] [],.ret (.var 0)]⟩
noncomputable def W1:Fn:=⟨3,[],2,false,false,[.ifs (.not (.bi .l9 [(.var 0)])) [.bad] [],.assign 3 (.attr (.var 0) ai),.ifs (.cmp .ne (.attr (.var 0) aj) (.var 1)) [.assign 3 (.comp 4 (.attr (.var 0) ai) none (.call 49 [(.attr (.var 0) aj),(.var 4),(.var 1),(.var 2)]))] [],.ret (.call 51 [(.new .aJ 2 [(.var 1),(.bi .list [(.var 3)])]),(.call 16 [(.var 0)])])]⟩
noncomputable def W2:Fn:=⟨1,[],0,false,false,[.ret (.call 52 [(.var 0),(.str aE),(.list [])])]⟩
noncomputable def W4:Fn:=⟨3,[],0,false,false,[.ifs (.or [(.cmp .eq (.attr (.var 0) aj) (.var 1)),(.and [(.call 33 [(.attr (.var 0) aj)]),(.call 33 [(.var 1)])])]) [.ret (.attr (.var 0) ai)] [],.ifs (.call 33 [(.var 1)]) [.ret (.attr (.call 53 [(.var 0)]) ai)] [],.bad]⟩
noncomputable def W5:Fn:=⟨3,[],0,true,true,[.ifs (.cmp .eq (.attr (.var 0) aj) (.var 1)) [.ret (.call 11 [(.var 0)])] [],.bad,.bad,.bad]⟩
noncomputable def W6:Fn:=⟨2,[],0,false,false,[.ifs (.call 10 [(.var 0)]) [.ret (.var 0)] [],.ifs (.call 33 [(.attr (.var 1) aj)]) [.ret (.new .aJ 2 [(.str aE),(.list [(.var 0)])])] [],.bad,.bad]⟩
noncomputable def W7:Fn:=⟨2,[],0,false,false,[.ret (.call 48 [(.list [(.call 34 [(.attr (.var 0) aj)]),(.call 34 [(.attr (.var 1) aj)])])])]⟩
noncomputable def W8:Fn:=⟨4,[],3,true,true,[.assign 4 (.bi .len [(.attr (.var 0) ai)]),.forR 5 [(.var 4),(.call 6 [(.var 1)])] [.expr (.b4 .append (.attr (.var 0) ai) [(.call 32 [(.attr (.var 0) aj)])])],.expr (.call 14 [(.var 0),(.str dU)]),.expr (.call 14 [(.var 0),(.str bP)]),.ifs (.and [(.cmp .is (.var 2) .none),(.cmp .is (.var 3) .none)]) [.FH] [],.assign 6 (.bin .mul (.list [(.str [])]) (.var 4)),.ifs (.cmp .ee (.var 2) .none) [.assign 6 (.bi .list [(.var 2)])] [],.ifs (.cmp .ee (.var 3) .none) [.expr (.b4 .extend (.var 6) [(.var 3)])] [],.expr (.b4 .extend (.var 6) [(.bin .mul (.list [(.str [])]) (.bin .sub (.var 1) (.bi .len [(.var 6)])))]),.expr (.call 15 [(.var 0),(.str bG),(.call 8 [(.var 6)])])]⟩
noncomputable def W9:Fn:=⟨3,[],4,true,true,[.assign 3 (.bi .len [(.var 2)]),.assign 4 (.call 33 [(.attr (.var 0) aj)]),.forR 5 [(.bi .len [(.var 1)])] [.ifs (.cmp .ee (.sub (.var 1) (.var 5)) .none) [.assign 6 (.sub (.var 2) (.bin .mod (.var 5) (.var 3))),.ifs (.var 4) [.expr (.call 12 [(.var 6)])] [],.dN (.attr (.var 0) ai) (.sub (.var 1) (.var 5)) (.var 6)] []]]⟩
noncomputable def Xa:Fn:=⟨2,[],0,false,false,[.ifs (.cmp .gt (.bi .len [(.attr (.var 1) ai)]) (.int 1)) [.bad] []]⟩
noncomputable def Xb:Fn:=⟨1,[],2,false,false,[.assign 1 (.int 0),.gk 2 (.var 0) [.ifs (.and [(.cmp .ee (.var 2) .none),(.cmp .ge (.var 2) (.var 1))]) [.assign 1 (.bin .add (.var 2) (.int 1))] []],.ret (.var 1)]⟩
noncomputable def Xc:Fn:=⟨2,[],10,false,false,[.assign 2 (.call 16 [(.var 0)]),.assign 3 (.call 6 [(.bi .max2 [(.bi .len [(.attr (.var 0) ai)]),(.call 61 [(.var 1)])])]),.assign 4 .CB,.gk 5 (.var 1) [.ifs (.cmp .ee (.var 5) .none) [.dN (.var 4) (.var 5) (.bool true)] []],.assign 6 (.list []),.assign 7 (.list []),.forR 8 [(.var 3)] [.ifs (.cmp .sL (.var 8) (.var 4)) [.assign 9 (.cmp .lt (.var 8) (.bi .len [(.attr (.var 0) ai)])),.expr (.b4 .append (.var 6) [(.ite (.var 9) (.sub (.attr (.var 0) ai) (.var 8)) (.new .null 0 []))]),.ifs (.cmp .ee (.var 2) .none) [.expr (.b4 .append (.var 7) [(.ite (.var 9) (.sub (.var 2) (.var 8)) (.str []))])] []] []],.assign 10 (.new .aJ 2 [(.attr (.var 0) aj),(.var 6)]),.ifs (.cmp .ee (.attr (.var 0) az) .none) [.gk 11 (.attr (.var 0) az) [.ifs (.cmp .sL (.var 11) (.tup [(.str bG),(.str dU),(.str bP)])) [.bad] []]] [],.ifs (.cmp .ee (.var 2) .none) [.expr (.call 15 [(.var 10),(.str bG),(.call 8 [(.var 7)])])] [],.ret (.var 10)]⟩
noncomputable def Xd:Fn:=⟨5,[],5,false,false,[.assign 5 (.call 16 [(.var 0)]),.assign 3 (.call 56 [(.var 3),(.var 0)]),.expr (.call 60 [(.var 1),(.var 3)]),.assign 6 (.call 57 [(.var 0),(.var 3)]),.ifs (.and [(.cmp .gt (.bi .len [(.var 1)]) (.int 0)),(.cmp .eq (.bi .len [(.attr (.var 3) ai)]) (.int 0))]) [.bad] [],.assign 7 (.call 55 [(.var 0),(.var 6),(.var 4)]),.ifs (.cmp .eq (.bi .len [(.var 1)]) (.int 0)) [.bad] [],.ifs (.cmp .ne (.bin .mod (.bi .len [(.var 1)]) (.bi .len [(.attr (.var 3) ai)])) (.int 0)) [.bad] [],.assign 8 (.call 54 [(.var 3),(.var 6),(.var 4)]),.assign 9 (.call 61 [(.var 1)]),.ifs (.cmp .gt (.var 9) (.bi .len [(.attr (.var 7) ai)])) [.expr (.call 58 [(.var 7),(.var 9),(.var 5),(.var 2)])] [],.expr (.call 59 [(.var 7),(.var 1),(.var 8)]),.ret (.var 7)]⟩
noncomputable def Xe:Fn:=⟨4,[],2,false,false,[.ifs (.cmp .eq (.attr (.var 0) aj) (.str bq)) [.bad,.bad,.bad,.bad] [],.qf 4 5 (.call 26 [(.var 1),(.bi .len [(.attr (.var 0) ai)]),(.call 16 [(.var 0)]),(.bool true)]),.ifs (.cmp .eq (.attr (.var 2) aj) (.str bq)) [.ifs (.call 33 [(.attr (.var 0) aj)]) [.ret (.call 62 [(.var 0),(.var 4)])] [],.bad,.bad] [],.ret (.call 63 [(.var 0),(.var 4),(.var 5),(.var 2),(.var 3)])]⟩
noncomputable def Xf:Fn:=⟨1,[],4,false,false,[.assign 1 (.new .aJ 2 [(.str aE),(.bi .list [(.attr (.var 0) ai)])]),.assign 2 (.list []),.assign 3 (.bool false),.gk 4 (.attr (.var 0) b6) [.expr (.b4 .append (.var 2) [(.ite (.cmp .is (.var 4) .none) (.str []) (.var 4))]),.assign 3 (.or [(.var 3),(.cmp .ee (.var 4) .none)])],.ifs (.var 3) [.expr (.call 15 [(.var 1),(.str bG),(.call 8 [(.var 2)])])] [],.ret (.var 1)]⟩
noncomputable def Xg:Fn:=⟨1,[],3,false,false,[.ifs (.cmp .eq (.bi .len [(.attr (.var 0) ai)]) (.int 0)) [.ret (.new .null 0 [])] [],.assign 1 (.call 16 [(.var 0)]),.assign 2 (.bin .mul (.list [.none]) (.bi .len [(.attr (.var 0) ai)])),.ifs (.cmp .ee (.var 1) .none) [.assign 2 (.comp 3 (.var 1) none (.ite (.or [(.cmp .is (.var 3) .none),(.cmp .eq (.var 3) (.str []))]) .none (.var 3)))] [],.ret (.new .call 5 [(.bi .list [(.attr (.var 0) ai)]),(.var 2)])]⟩
noncomputable def Xh:Fn:=⟨4,[],2,false,false,[.ifs (.cmp .eq (.attr (.var 0) aj) (.str aI)) [.ret (.call 66 [(.call 67 [(.call 65 [(.var 0)]),(.var 1),(.var 2),(.var 3)])])] [],.ifs (.and [(.cmp .ne (.attr (.var 0) aj) (.str bq)),(.not (.call 10 [(.var 0)]))]) [.bad] [],.ifs (.cmp .eq (.bi .len [(.var 1)]) (.int 0)) [.bad] [],.ifs (.cmp .eq (.bi .len [(.var 1)]) (.int 1)) [.assign 4 (.call 17 [(.var 0)]),.assign 5 (.call 31 [(.sub (.var 1) (.int 0)),(.var 4),(.call 18 [(.var 0)])]),.ifs (.and [(.cmp .ee (.var 5) .none),(.cmp .ne (.attr (.var 2) aj) (.str bq))]) [.bad] [],.ret (.call 64 [(.var 0),(.sub (.var 1) (.int 0)),(.var 2),(.var 3)])] [],.bad,.bad,.bad]⟩
noncomputable def Xi:Fn:=⟨2,[],0,false,false,[.ifs (.call 33 [(.attr (.var 0) aj)]) [.ret (.attr (.var 0) aj)] [],.bad,.bad,.bad]⟩
noncomputable def Xj:Fn:=⟨5,[],4,false,false,[.assign 5 (.call 16 [(.var 0)]),.ifs (.not (.call 33 [(.attr (.var 0) aj)])) [.bad,.bad] [],.assign 6 (.call 68 [(.var 0),(.var 3)]),.assign 7 (.call 55 [(.var 0),(.var 6),(.var 4)]),.ifs (.cmp .ge (.var 1) (.bi .len [(.attr (.var 7) ai)])) [.assign 8 .none,.ifs (.cmp .ee (.var 2) .none) [.assign 8 (.list [(.var 2)])] [],.expr (.call 58 [(.var 7),(.bin .add (.var 1) (.int 1)),(.var 5),(.var 8)])] [],.ifs (.call 33 [(.var 6)]) [.dN (.attr (.var 7) ai) (.var 1) (.call 12 [(.var 3)])] [.bad],.ret (.var 7)]⟩
noncomputable def Xk:Fn:=⟨4,[],3,false,false,[.ifs (.cmp .eq (.attr (.var 0) aj) (.str bq)) [.bad,.bad,.bad,.bad] [],.assign 4 (.bi .len [(.attr (.var 0) ai)]),.assign 5 (.call 29 [(.var 1),(.var 4),(.call 16 [(.var 0)]),(.bool true)]),.ifs (.cmp .is (.var 5) .none) [.bad] [],.ifs (.and [(.cmp .eq (.attr (.var 2) aj) (.str bq)),(.call 33 [(.attr (.var 0) aj)])]) [.ifs (.or [(.cmp .lt (.var 5) (.int 0)),(.cmp .ge (.var 5) (.var 4))]) [.ret (.var 0)] [],.ret (.call 62 [(.var 0),(.list [(.var 5)])])] [],.assign 6 .none,.ifs (.cmp .lt (.var 5) (.int 0)) [.assign 5 (.var 4),.assign 6 (.ite (.cmp .eq (.attr (.var 1) aj) (.str cS)) (.attr (.var 1) ig) (.sub (.attr (.var 1) ai) (.int 0)))] [],.ret (.call 69 [(.var 0),(.var 5),(.var 6),(.var 2),(.var 3)])]⟩
noncomputable def Xl:Fn:=⟨4,[],0,false,false,[.ifs (.cmp .eq (.attr (.var 0) aj) (.str aI)) [.ret (.call 66 [(.call 71 [(.call 65 [(.var 0)]),(.var 1),(.var 2),(.var 3)])])] [],.ifs (.and [(.cmp .ne (.attr (.var 0) aj) (.str bq)),(.not (.call 10 [(.var 0)]))]) [.bad] [],.ifs (.cmp .eq (.bi .len [(.var 1)]) (.int 1)) [.ret (.call 70 [(.var 0),(.sub (.var 1) (.int 0)),(.var 2),(.var 3)])] [],.bad,.bad,.bad]⟩
noncomputable def Xm:Fn:=⟨4,[],1,false,false,[.ifs (.or [(.cmp .eq (.bi .len [(.var 1)]) (.int 0)),(.cmp .eq (.attr (.sub (.var 1) (.int 0)) aj) (.str bF))]) [.bad] [],.ifs (.cmp .gt (.bi .len [(.var 1)]) (.int 1)) [.bad,.bad,.bad,.bad] [],.assign 4 (.sub (.var 1) (.int 0)),.ifs (.and [(.call 45 [(.var 4)]),(.or [(.call 33 [(.attr (.var 0) aj)]),(.cmp .eq (.attr (.var 0) aj) (.str aI))])]) [.bad] [],.ret (.call 71 [(.var 0),(.list [(.var 4)]),(.var 2),(.var 3)])]⟩
noncomputable def Xn:Fn:=⟨4,[],0,false,false,[.ifs (.cmp .eq (.attr (.var 0) aj) (.str aI)) [.ret (.call 66 [(.call 73 [(.call 65 [(.var 0)]),(.var 1),(.var 2),(.var 3)])])] [],.ifs (.cmp .eq (.attr (.var 0) aj) (.str bq)) [.bad] [],.ifs (.not (.call 10 [(.var 0)])) [.bad] [],.ifs (.not (.call 33 [(.attr (.var 0) aj)])) [.bad,.bad] [],.ret (.call 70 [(.var 0),(.call 8 [(.list [(.var 1)])]),(.var 2),(.var 3)])]⟩
noncomputable def Xo:Fn:=⟨1,[],4,true,true,[.assign 1 (.list []),.gk 2 (.slice (.var 0) none (some (.int 40))) [.assign 3 (.ite (.cmp .ge (.var 2) (.int 0)) (.var 2) (.bin .sub (.int 7) (.var 2))),.expr (.b4 .append (.var 1) [(.bin .mod (.var 3) (.int 1024))]),.assign 3 (.bin .fdiv (.var 3) (.int 1024)),.forR 4 [(.int 30)] [.ifs (.cmp .gt (.var 3) (.int 0)) [.expr (.b4 .append (.var 1) [(.bin .mod (.var 3) (.int 1024))]),.assign 3 (.bin .fdiv (.var 3) (.int 1024))] []]],.assign 1 (.slice (.var 1) none (some (.int 160))),.expr (.b4 .reverse (.var 1) []),.ret (.var 1)]⟩
noncomputable def Xp:Fn:=⟨1,[],0,true,false,[.ret (.ite (.cmp .ne (.var 0) (.list [])) (.b4 .pop (.var 0) []) (.int 0))]⟩
noncomputable def Xq:Fn:=⟨1,[],1,true,false,[.assign 1 (.bin .mod (.call 75 [(.var 0)]) (.int 8)),.ret (.sub (.list [(.str pO),(.str pP),(.str jK),(.str jw),(.str []),.none,(.str BJ),(.bi .chr [(.bin .add (.int 97) (.bin .mod (.call 75 [(.var 0)]) (.int 26)))])]) (.var 1))]⟩
noncomputable def Xr:Fn:=⟨1,[],2,true,false,[.assign 1 (.bin .mod (.call 75 [(.var 0)]) (.int 10)),.ifs (.cmp .eq (.var 1) (.int 0)) [.ret .none] [],.ifs (.cmp .lt (.var 1) (.int 8)) [.ret (.tup [(.ite (.cmp .gt (.var 1) (.int 5)) (.bin .sub (.bin .mod (.call 75 [(.var 0)]) (.int 14)) (.int 4)) (.bin .mod (.call 75 [(.var 0)]) (.int 12))),(.int 1)])] [],.ifs (.cmp .eq (.var 1) (.int 8)) [.ret (.sub (.list [(.tup [(.int 0),(.int 0)]),(.tup [(.int 1),(.int 0)]),(.tup [(.neg (.int 1)),(.int 0)])]) (.bin .mod (.call 75 [(.var 0)]) (.int 3)))] [],.assign 2 (.bin .sub (.bin .mod (.call 75 [(.var 0)]) (.int 41)) (.int 10)),.ret (.ite (.cmp .eq (.bin .mod (.var 2) (.int 2)) (.int 0)) (.tup [(.bin .fdiv (.var 2) (.int 2)),(.int 1)]) (.tup [(.var 2),(.int 2)]))]⟩
noncomputable def Xs:Fn:=⟨1,[],8,true,false,[.assign 1 (.bin .mod (.call 75 [(.var 0)]) (.int 7)),.assign 2 (.bin .mod (.call 75 [(.var 0)]) (.int 10)),.ifs (.cmp .eq (.var 1) (.int 0)) [.ret (.new .missing 1 [])] [],.ifs (.cmp .eq (.var 1) (.int 1)) [.ret (.new .null 0 [])] [],.ifs (.cmp .eq (.var 1) (.int 2)) [.ret (.new .aJ 2 [(.str bw),(.cM 3 [(.var 2)] none (.sub (.list [(.int 1),(.int 0),.none]) (.bin .mod (.call 75 [(.var 0)]) (.int 3))))])] [],.ifs (.cmp .eq (.var 1) (.int 3)) [.assign 5 (.cM 4 [(.var 2)] none (.call 77 [(.var 0)])),.ret (.new .aJ 2 [(.str aa),(.comp 6 (.var 5) none (.ite (.or [(.cmp .is (.var 6) .none),(.cmp .ne (.sub (.var 6) (.int 1)) (.int 1))]) .none (.sub (.var 6) (.int 0))))])] [],.ifs (.cmp .eq (.var 1) (.int 4)) [.ret (.new .aJ 2 [(.str aY),(.cM 7 [(.var 2)] none (.call 77 [(.var 0)]))])] [],.ifs (.cmp .eq (.var 1) (.int 5)) [.ret (.new .aJ 2 [(.str ao),(.cM 8 [(.var 2)] none (.call 76 [(.var 0)]))])] [],.ret (.new .aJ 2 [(.str aE),(.list [])])]⟩
noncomputable def Xu:Fn:=⟨2,[],2,false,false,[.assign 2 (.list []),.gk 3 (.var 1) [.ifs (.or [(.cmp .is (.var 3) .none),(.and [(.cmp .eq (.var 0) (.str aY)),(.cmp .eq (.sub (.var 3) (.int 1)) (.int 0))])]) [.expr (.b4 .append (.var 2) [.none])] [.ifs (.cmp .eq (.var 0) (.str aY)) [.expr (.b4 .append (.var 2) [(.ite (.cmp .ge (.sub (.var 3) (.int 0)) (.int 0)) (.bin .fdiv (.sub (.var 3) (.int 0)) (.sub (.var 3) (.int 1))) (.neg (.bin .fdiv (.neg (.sub (.var 3) (.int 0))) (.sub (.var 3) (.int 1)))))])] [.expr (.b4 .append (.var 2) [(.var 3)])]]],.ret (.var 2)]⟩
noncomputable def Xv:Fn:=⟨4,[],11,false,false,[.assign 4 (.attr (.var 0) aj),.ifs (.cmp .eq (.var 4) (.str bF)) [.ret (.tup [(.bi .dX [(.var 1)]),.none])] [],.ifs (.cmp .eq (.var 4) (.str bq)) [.ret (.tup [(.list []),.none])] [],.ifs (.cmp .eq (.var 4) (.str aE)) [.ret (.str eX)] [],.ifs (.cmp .eq (.var 4) (.str bw)) [.assign 5 (.list []),.forR 6 [(.ite (.cmp .ne (.attr (.var 0) ai) (.list [])) (.bi .max2 [(.var 1),(.bi .len [(.attr (.var 0) ai)])]) (.int 0))] [.assign 7 (.sub (.attr (.var 0) ai) (.bin .mod (.var 6) (.bi .len [(.attr (.var 0) ai)]))),.ifs (.cmp .ne (.var 7) (.int 0)) [.expr (.b4 .append (.var 5) [(.ite (.cmp .eq (.var 7) (.int 1)) (.var 6) .none)])] []],.ret (.tup [(.var 5),.none])] [],.ifs (.cmp .eq (.var 4) (.str ao)) [.assign 5 (.list []),.assign 8 (.list []),.gk 7 (.attr (.var 0) ai) [.assign 9 (.and [(.cmp .ee (.var 7) .none),(.cmp .ne (.var 7) (.str []))]),.ifs (.and [(.var 9),(.cmp .ee (.var 2) .none),(.cmp .oj (.var 7) (.var 2))]) [.expr (.b4 .append (.var 5) [(.b4 .index (.var 2) [(.var 7)])])] [.ifs (.not (.var 3)) [.expr (.b4 .append (.var 5) [.none])] [.bad]]],.ret (.tup [(.var 5),(.ite (.var 3) (.var 8) .none)])] [],.assign 10 (.call 79 [(.var 4),(.attr (.var 0) ai)]),.assign 12 (.comp 11 (.var 10) (some (.and [(.cmp .ee (.var 11) .none),(.cmp .lt (.var 11) (.int 0))])) (.var 11)),.ifs (.cmp .eq (.var 12) (.list [])) [.ret (.tup [(.comp 13 (.var 10) (some (.cmp .ne (.var 13) (.int 0))) (.ite (.cmp .is (.var 13) .none) .none (.bin .sub (.var 13) (.int 1)))),.none])] [],.ifs (.cmp .oj .none (.var 10)) [.ret (.str bZ)] [],.ifs (.cmp .gt (.bi .qz [(.var 10)]) (.int 0)) [.ret (.str b3)] [],.ret (.tup [(.cM 14 [(.var 1)] (some (.cmp .sL (.bin .sub (.neg (.var 14)) (.int 1)) (.var 10))) (.var 14)),.none])]⟩
noncomputable def Xw:Fn:=⟨1,[],4,false,false,[.ifs (.or [(.bi .isStr [(.var 0)]),(.cmp .is (.var 0) .none)]) [.ret (.var 0)] [],.ifs (.cmp .eq (.attr (.var 0) aj) (.str bq)) [.ret (.str bq)] [],.ifs (.cmp .eq (.attr (.var 0) aj) (.str cS)) [.ret (.tup [(.str cS),(.attr (.var 0) ig)])] [],.ifs (.cmp .eq (.attr (.var 0) aj) (.str aI)) [.ret (.tup [(.str aI),(.comp 1 (.attr (.var 0) ai) none (.call 81 [(.var 1)])),(.bi .list [(.attr (.var 0) b6)])])] [],.assign 2 (.dm [] []),.ifs (.cmp .ee (.attr (.var 0) az) .none) [.assign 2 (.o8 3 (.attr (.var 0) az) (.var 3) (.call 81 [(.sub (.attr (.var 0) az) (.var 3))]))] [],.ifs (.cmp .oj (.attr (.var 0) aj) (.tup [(.str aE),(.str cI),(.str bH)])) [.ret (.tup [(.attr (.var 0) aj),(.comp 4 (.attr (.var 0) ai) none (.call 81 [(.var 4)])),(.var 2)])] [],.ret (.tup [(.attr (.var 0) aj),(.bi .list [(.attr (.var 0) ai)]),(.var 2)])]⟩
noncomputable def Xx:Fn:=⟨1,[],0,false,false,[.bad]⟩
noncomputable def Xy:Fn:=⟨1,[],42,false,false,[.assign 1 (.call 74 [.var 0]),.assign 2 (.bin .mod (.call 75 [.var 1]) (.int 5)),.cut 3 (.assign 4 (.bin .add (.pure (.list [.none])) (.pure (.cM 3 [.var 2] none (.sub (.pure (.list [.none,.str pO,.str pP,.str jK])) (.bin .mod (.call 75 [.var 1]) (.int 4))))))),.cut 3 (.assign 6 (.bin .add (.pure (.list [.pure (.new .symbol 4 [.str Sk])])) (.pure (.cM 5 [.var 2] none (.ite (.cmp .ne (.var 5) (.int 2)) (.pure (.new .aJ 2 [.str aa,.pure (.list [.var 5])])) (.pure (.new .symbol 4 [.str Sl]))))))),.cut 3 (.assign 7 (.new .call 5 [.var 6,.var 4])),.assign 8 (.call 81 [.var 7]),.assign 9 (.bi .len [.var 6]),.cut 3 (.assign 11 (.comp 10 (.var 4) none (.ite (.cmp .is (.var 10) .none) (.str []) (.var 10)))),.forR 12 [.bin .add (.int 1) (.bin .mod (.call 75 [.var 1]) (.int 2))] [.assign 13 (.call 78 [.var 1]),.assign 14 (.call 80 [.var 13,.var 9,.var 11,.bool false]),.assign 15 (.call 81 [.kept (.call 43 [.var 7,.pure (.list [.var 13]),.bool true,.bool true])]),.ifs (.bi .isStr [.var 14]) [.assign 16 (.var 14)] [.ifs (.cmp .eq (.attr (.var 13) aj) (.str bF)) [.assign 16 (.var 8)] [.ifs (.cmp .eq (.sub (.var 14) (.int 0)) (.pure (.list []))) [.assign 16 (.str bq)] [.cut 3 (.assign 18 (.comp 17 (.sub (.var 14) (.int 0)) none (.ite (.and [.cmp .ee (.var 17) .none,.cmp .lt (.var 17) (.var 9)]) (.sub (.sub (.var 8) (.int 1)) (.var 17)) (.str bq)))),.assign 16 (.tup [.str aI,.var 18,.pure (.comp 19 (.sub (.var 14) (.int 0)) none (.ite (.and [.cmp .ee (.var 19) .none,.cmp .lt (.var 19) (.var 9)]) (.sub (.var 4) (.var 19)) .none))])]]],.ifs (.cmp .ne (.var 15) (.var 16)) [.bad] []],.assign 20 (.bin .add (.int 1) (.bin .mod (.call 75 [.var 1]) (.bin .add (.var 9) (.int 1)))),.assign 15 (.call 81 [.kept (.call 46 [.var 7,.pure (.list [.pure (.new .aJ 2 [.str aa,.pure (.list [.var 20])])]),.bool true])]),.ifs (.cmp .ne (.var 15) (.ite (.cmp .le (.var 20) (.var 9)) (.sub (.sub (.var 8) (.int 1)) (.bin .sub (.var 20) (.int 1))) (.str bQ))) [.bad] [],.assign 21 (.sub (.pure (.list [.pure (.new .aJ 2 [.str ao,.pure (.list [.str Qu])]),.pure (.new .symbol 4 [.str Qv]),.pure (.new .null 0 [])])) (.bin .mod (.call 75 [.var 1]) (.int 3))),.assign 22 (.call 81 [.var 21]),.assign 23 (.bin .add (.int 1) (.bin .mod (.call 75 [.var 1]) (.var 9))),.ifs (.cmp .eq (.attr (.var 21) aj) (.str bq)) [.assign 16 (.tup [.str aI,.pure (.bin .add (.pure (.slice (.sub (.var 8) (.int 1)) none (some (.bin .sub (.var 23) (.int 1))))) (.pure (.slice (.sub (.var 8) (.int 1)) (some (.var 23)) none))),.pure (.bin .add (.pure (.slice (.var 4) none (some (.bin .sub (.var 23) (.int 1))))) (.pure (.slice (.var 4) (some (.var 23)) none)))]),.assign 16 (.ite (.cmp .eq (.sub (.var 16) (.int 1)) (.pure (.list []))) (.str bq) (.var 16))] [.assign 16 (.tup [.str aI,.pure (.bin .add (.pure (.bin .add (.pure (.slice (.sub (.var 8) (.int 1)) none (some (.bin .sub (.var 23) (.int 1))))) (.pure (.list [.var 22])))) (.pure (.slice (.sub (.var 8) (.int 1)) (some (.var 23)) none))),.var 4])],.ifs (.cmp .ne (.call 81 [.call 72 [.var 7,.pure (.list [.pure (.new .aJ 2 [.str aa,.pure (.list [.var 23])])]),.var 21,.pure (.list [])]]) (.var 16)) [.bad] [],.ifs (.cmp .ne (.call 81 [.call 67 [.var 7,.pure (.list [.pure (.new .aJ 2 [.str aa,.pure (.list [.var 23])])]),.var 21,.pure (.list [])]]) (.var 16)) [.bad] [],.assign 24 (.sub (.pure (.list [.str pO,.str pP,.str OB])) (.bin .mod (.call 75 [.var 1]) (.int 3))),.ifs (.cmp .oj (.var 24) (.var 4)) [.assign 23 (.b4 .index (.var 4) [.var 24]),.ifs (.cmp .eq (.attr (.var 21) aj) (.str bq)) [.assign 16 (.tup [.str aI,.pure (.bin .add (.pure (.slice (.sub (.var 8) (.int 1)) none (some (.var 23)))) (.pure (.slice (.sub (.var 8) (.int 1)) (some (.bin .add (.var 23) (.int 1))) none))),.pure (.bin .add (.pure (.slice (.var 4) none (some (.var 23)))) (.pure (.slice (.var 4) (some (.bin .add (.var 23) (.int 1))) none)))])] [.assign 16 (.tup [.str aI,.pure (.bin .add (.pure (.bin .add (.pure (.slice (.sub (.var 8) (.int 1)) none (some (.var 23)))) (.pure (.list [.var 22])))) (.pure (.slice (.sub (.var 8) (.int 1)) (some (.bin .add (.var 23) (.int 1))) none))),.var 4])]] [.assign 16 (.ite (.cmp .eq (.attr (.var 21) aj) (.str bq)) (.var 8) (.tup [.str aI,.pure (.bin .add (.sub (.var 8) (.int 1)) (.pure (.list [.var 22]))),.pure (.bin .add (.var 4) (.pure (.list [.var 24])))]))],.ifs (.or [.cmp .ne (.call 81 [.call 73 [.var 7,.var 24,.var 21,.pure (.list [])]]) (.var 16),.cmp .ne (.call 81 [.var 7]) (.var 8)]) [.bad] [],.cut 3 (.assign 26 (.cM 25 [.var 2] none (.call 76 [.var 1]))),.cut 3 (.assign 28 (.new .aJ 2 [.str bH,.pure (.cM 27 [.var 2] none (.pure (.new .aJ 2 [.str aa,.pure (.list [.var 27])]))),.pure (.dm [bG] [.pure (.new .aJ 2 [.str ao,.var 26])])])),.assign 30 (.new .aJ 2 [.str aa,.pure (.cM 29 [.bin .add (.var 2) (.int 1)] none (.bin .add (.int 10) (.var 29))),.dm [dU] [.pure (.new .aJ 2 [.str aa,.pure (.list [.bin .add (.var 2) (.int 1)])])]]),.assign 31 .none,.cut 3 (.ifs (.cmp .eq (.bin .mod (.call 75 [.var 1]) (.int 2)) (.int 1)) [.assign 31 (.cM 32 [.bin .add (.var 2) (.int 1)] none (.bi .chr [.bin .add (.int 97) (.var 32)])),.dN (.attr (.var 30) az) (.str bP) (.pure (.new .aJ 2 [.str aE,.pure (.list [.pure (.new .aJ 2 [.str ao,.var 31])])]))] []),.assign 13 (.call 78 [.var 1]),.assign 14 (.call 80 [.var 13,.var 2,.var 26,.bool false]),.assign 15 (.call 81 [.kept (.call 43 [.var 28,.pure (.list [.var 13]),.bool true,.bool true])]),.ifs (.bi .isStr [.var 14]) [.ifs (.cmp .ne (.var 15) (.var 14)) [.bad] []] [.ifs (.cmp .ne (.attr (.var 13) aj) (.str bF)) [.cut 3 (.assign 18 (.comp 33 (.sub (.var 14) (.int 0)) none (.ite (.and [.cmp .ee (.var 33) .none,.cmp .lt (.var 33) (.var 2)]) (.tup [.str aa,.pure (.list [.var 33]),.pure (.dm [] [])]) (.str bq)))),.cut 3 (.assign 35 (.comp 34 (.sub (.var 14) (.int 0)) none (.ite (.and [.cmp .ee (.var 34) .none,.cmp .lt (.var 34) (.var 2)]) (.sub (.var 26) (.var 34)) (.str eH)))),.ifs (.cmp .ne (.var 15) (.tup [.str aE,.var 18,.pure (.dm [bG] [.tup [.str ao,.var 35,.pure (.dm [] [])]])])) [.bad] []] []],.assign 14 (.call 80 [.var 13,.bin .add (.var 2) (.int 1),.var 31,.bool false]),.gk 36 (.pure (.list [.bool false,.bool true])) [.assign 15 (.call 81 [.kept (.call 43 [.var 30,.pure (.list [.var 13]),.var 36,.bool true])]),.ifs (.bi .isStr [.var 14]) [.ifs (.cmp .ne (.var 15) (.var 14)) [.bad] [],.cont] [],.ifs (.cmp .eq (.attr (.var 13) aj) (.str bF)) [.cont] [],.cut 3 (.assign 18 (.comp 37 (.sub (.var 14) (.int 0)) none (.ite (.and [.cmp .ee (.var 37) .none,.cmp .le (.var 37) (.var 2)]) (.bin .add (.int 10) (.var 37)) .none))),.assign 35 .none,.ifs (.cmp .ee (.var 31) .none) [.assign 35 (.tup [.str ao,.pure (.comp 38 (.sub (.var 14) (.int 0)) none (.ite (.and [.cmp .ee (.var 38) .none,.cmp .le (.var 38) (.var 2)]) (.sub (.var 31) (.var 38)) (.str eH))),.pure (.dm [] [])])] [],.assign 39 (.ite (.and [.var 36,.cmp .eq (.bi .len [.var 18]) (.int 1)]) (.dm [] []) (.dm [dU] [.tup [.str aa,.pure (.list [.bi .len [.var 18]]),.pure (.dm [] [])]])),.cut 3 (.ifs (.and [.cmp .ee (.var 35) .none,.cmp .eq (.var 39) (.pure (.dm [] []))]) [.assign 39 (.dm [bG] [.var 35])] [.ifs (.cmp .ee (.var 35) .none) [.dN (.var 39) (.str bP) (.tup [.str aE,.pure (.list [.var 35]),.pure (.dm [] [])])] []]),.ifs (.cmp .ne (.var 15) (.tup [.str aa,.var 18,.var 39])) [.bad] []],.assign 40 (.new .aJ 2 [.str aa,.pure (.list [.int 1,.int 2,.int 3,.int 4]),.dm [dU,ir] [.pure (.new .aJ 2 [.str aa,.pure (.list [.int 2,.int 2])]),.pure (.new .aJ 2 [.str ao,.pure (.list [.str MB])])]]),.cut 3 (.ifs (.cmp .eq (.bin .mod (.call 75 [.var 1]) (.int 2)) (.int 1)) [.dN (.attr (.var 40) az) (.str bP) (.pure (.new .aJ 2 [.str aE,.pure (.list [.pure (.new .aJ 2 [.str ao,.pure (.list [.str pO,.str pP])]),.pure (.new .null 0 [])])]))] []),.assign 41 (.bin .add (.int 1) (.bin .mod (.call 75 [.var 1]) (.int 8))),.assign 15 (.call 81 [.call 67 [.var 40,.pure (.list [.pure (.new .aJ 2 [.str aa,.pure (.list [.var 41])])]),.pure (.new .aJ 2 [.str aa,.pure (.list [.int 9])]),.pure (.list [])]]),.assign 16 (.call 81 [.var 40]),.ifs (.cmp .gt (.var 41) (.int 4)) [.cut 3 (.assign 39 (.dm [ir] [.sub (.sub (.var 16) (.int 2)) (.str ir)])),.ret (.cmp .eq (.var 15) (.tup [.str aa,.pure (.bin .add (.pure (.bin .add (.pure (.list [.int 1,.int 2,.int 3,.int 4])) (.pure (.bin .mul (.pure (.list [.none])) (.bin .sub (.var 41) (.int 5)))))) (.pure (.list [.int 9]))),.var 39]))] [],.ret (.cmp .eq (.var 15) (.tup [.str aa,.pure (.cM 42 [.int 1,.int 5] none (.ite (.cmp .eq (.var 42) (.var 41)) (.int 9) (.var 42))),.sub (.var 16) (.int 2)]))]⟩
noncomputable def T:Nat->Fn
 |0=>f0
 |1=>f1
 |2=>f2
 |3=>f3
 |4=>f4
 |5=>f5
 |6=>f6
 |7=>f7
 |8=>f8
 |9=>f9
 |10=>Wi
 |11=>Wj
 |12=>Wk
 |13=>Wl
 |14=>Wm
 |15=>Wn
 |16=>Wo
 |17=>Wq
 |18=>Wr
 |19=>Ws
 |20=>Wt
 |21=>Wu
 |22=>Wv
 |23=>Ww
 |24=>Wx
 |25=>Wy
 |26=>Wz
 |27=>WA
 |28=>WB
 |29=>WC
 |30=>WD
 |31=>WE
 |32=>WG
 |33=>WH
 |34=>WI
 |35=>WJ
 |36=>WK
 |37=>WL
 |38=>WM
 |39=>WN
 |40=>WO
 |41=>WQ
 |42=>WR
 |43=>WS
 |44=>WT
 |45=>WU
 |46=>WV
 |47=>WW
 |48=>WX
 |49=>WY
 |50=>WZ
 |51=>W0
 |52=>W1
 |53=>W2
 |54=>W4
 |55=>W5
 |56=>W6
 |57=>W7
 |58=>W8
 |59=>W9
 |60=>Xa
 |61=>Xb
 |62=>Xc
 |63=>Xd
 |64=>Xe
 |65=>Xf
 |66=>Xg
 |67=>Xh
 |68=>Xi
 |69=>Xj
 |70=>Xk
 |71=>Xl
 |72=>Xm
 |73=>Xn
 |74=>Xo
 |75=>Xp
 |76=>Xq
 |77=>Xr
 |78=>Xs
 |79=>Xu
 |80=>Xv
 |81=>Xw
 |82=>Xx
 |83=>Xy
 |_=>⟨0,[],0,true,false,[.bad]⟩
noncomputable def Qw:Nat->List (Str×Nat)
 |0=>[("self",0)]
 |1=>[("self",0)]
 |2=>[("self",0),("kind",1),("items",2),("attrs",3)]
 |3=>[("self",0),("attrs",1)]
 |4=>[("self",0),("name",1)]
 |5=>[("self",0),("items",1),("tags",2),("attrs",3)]
 |6=>[("n",0)]
 |7=>[("items",0)]
 |8=>[("items",0)]
 |9=>[("v",0),("names",1)]
 |10=>[("v",0)]
 |11=>[("v",0)]
 |12=>[("v",0)]
 |13=>[("v",0),("name",1)]
 |14=>[("v",0),("name",1)]
 |15=>[("v",0),("name",1),("value",2)]
 |16=>[("v",0),("dims",1),("rows",2),("names",3)]
 |17=>[("v",0),("dims",1)]
 |18=>[("v",0),("found",1)]
 |19=>[("x",0)]
 |20=>[("x",0),("found",1)]
 |21=>[("ix",0),("found",1),("item",2)]
 |22=>[("items",0),("n",1),("count",2),("places",3),("i",4),("item",5)]
 |23=>[("items",0),("n",1),("places",2),("left_out",3),("lacks",4),("item",5)]
 |24=>[("names",0),("table",1),("i",2),("name",3)]
 |25=>[("texts",0),("names",1),("table",2),("places",3),("item",4)]
 |26=>[("ix",0),("n",1),("names",2),("extend",3),("kind",4)]
 |27=>[("item",0),("names",1),("exact",2)]
 |28=>[("item",0),("n",1)]
 |29=>[("ix",0),("n",1),("names",2),("exact",3),("kind",4)]
 |30=>[("ix",0),("dims",1),("shape",2)]
 |31=>[("ix",0),("dims",1),("dimnames",2)]
 |32=>[("kind",0)]
 |33=>[("kind",0)]
 |34=>[("kind",0)]
 |35=>[("v",0),("places",1),("found",2),("n",3),("place",4)]
 |36=>[("names",0),("places",1),("found",2),("place",3)]
 |37=>[("v",0),("ix",1),("names",2),("places",3),("result",4)]
 |38=>[("v",0),("dimnames",1)]
 |39=>[("lists",0),("heads",1),("filled",2),("items",3),("texts",4)]
 |40=>[("result",0),("extents",1),("lists",2),("heads",3),("value",4)]
 |41=>[("v",0),("ix",1),("drop",2),("result",3),("names",4),("lists",5)]
 |42=>[("v",0),("indexes",1),("row",2),("tags",4),("places",5),("picked",6),("place",7)]
 |43=>[("v",0),("indexes",1),("drop",2),("exact",3),("dims",4),("places",5)]
 |44=>[("v",0),("ix",1),("exact",2),("tags",4),("place",5)]
 |45=>[("ix",0)]
 |46=>[("v",0),("indexes",1),("exact",2),("ix",3)]
 |47=>[("kind",0),("kinds",1)]
 |48=>[("kinds",0),("names",1),("most",2),("kind",3)]
 |49=>[("kind",0),("item",1),("to",2),("notes",3)]
 |50=>[("kind",0)]
 |51=>[("v",0),("names",1)]
 |52=>[("v",0),("kind",1),("notes",2),("items",3)]
 |53=>[("v",0)]
 |54=>[("v",0),("kind",1),("notes",2)]
 |55=>[("v",0),("kind",1),("notes",2)]
 |56=>[("value",0),("target",1)]
 |57=>[("v",0),("value",1)]
 |58=>[("v",0),("count",1),("names",2),("added",3),("n",4),("i",5),("texts",6)]
 |59=>[("v",0),("places",1),("items",2),("count",3),("listed",4),("i",5),("item",6)]
 |60=>[("places",0),("value",1)]
 |61=>[("places",0),("count",1),("place",2)]
 |62=>[("v",0),("places",1),("names",2),("count",3),("gone",4),("place",5),("items",6),("kept_names",7),("i",8),("inside",9),("result",10),("name",11)]
 |63=>[("v",0),("places",1),("added",2),("value",3),("notes",4),("names",5),("kind",6),("result",7),("items",8),("count",9)]
 |64=>[("v",0),("ix",1),("value",2),("notes",3),("places",4),("added",5)]
 |65=>[("v",0),("result",1),("names",2),("filled",3),("tag",4)]
 |66=>[("v",0),("names",1),("tags",2)]
 |67=>[("v",0),("indexes",1),("value",2),("notes",3),("dims",4),("places",5)]
 |68=>[("v",0),("value",1)]
 |69=>[("v",0),("place",1),("name",2),("value",3),("notes",4),("names",5),("kind",6),("result",7),("added",8)]
 |70=>[("v",0),("ix",1),("value",2),("notes",3),("n",4),("place",5),("name",6)]
 |71=>[("v",0),("parts",1),("value",2),("notes",3)]
 |72=>[("v",0),("indexes",1),("value",2),("notes",3),("ix",4)]
 |73=>[("v",0),("name",1),("value",2),("notes",3)]
 |74=>[("script",0),("row",1),("cell",2),("figure",3),("lap",4)]
 |75=>[("row",0)]
 |76=>[("row",0),("choice",1)]
 |77=>[("row",0),("kind",1),("n",2)]
 |78=>[("row",0),("kind",1),("many",2),("numbers_in",5)]
 |79=>[("kind",0),("items",1),("found",2),("item",3)]
 |80=>[("ix",0),("n",1),("names",2),("extend",3),("kind",4),("found",5),("spot",6),("item",7),("added",8),("good",9),("cuts",10),("below",12)]
 |81=>[("v",0),("attrs",2)]
 |83=>[("script",0),("row",1),("many",2),("tags",4),("items",6),("v",7),("held",8),("n",9),("named_so",11),("lap",12),("ix",13),("found",14),("told",15),("due",16),("shown",18),("at",20),("value",21),("put",22),("spot",23),("name",24),("names",26),("pairs",28),("line",30),("heads",31),("labels_of",35),("drop",36),("attrs",39),("square",40),("far",41)]
 |_=>[]
noncomputable def G6:Nat->Option Str
 |6=>some "room"
 |7=>some "integer"
 |8=>some "character"
 |9=>some "named"
 |10=>some "is_vector"
 |11=>some "own"
 |12=>some "share"
 |13=>some "get_attr"
 |14=>some "drop_attr"
 |15=>some "put_attr"
 |16=>some "names_of"
 |17=>some "dim_of"
 |18=>some "dimnames_of"
 |19=>some "is_finite"
 |20=>some "to_whole"
 |21=>some "whole_subscripts"
 |22=>some "logical_places"
 |23=>some "whole_places"
 |24=>some "first_places"
 |25=>some "name_places"
 |26=>some "positions"
 |27=>some "one_name"
 |28=>some "one_whole"
 |29=>some "one_place"
 |30=>some "is_matrix_index"
 |31=>some "matrix_index"
 |32=>some "lacking_item"
 |33=>some "is_list_kind"
 |34=>some "result_kind"
 |35=>some "items_at"
 |36=>some "names_at"
 |37=>some "subset_vector"
 |38=>some "heads_of_dimnames"
 |39=>some "dimnames_value"
 |40=>some "put_shape"
 |41=>some "subset_row"
 |42=>some "subset_call"
 |43=>some "subset_any"
 |44=>some "element_step"
 |45=>some "is_long_index"
 |46=>some "element"
 |47=>some "kind_order"
 |48=>some "common_kind"
 |49=>some "item_as"
 |50=>some "is_atomic_kind"
 |51=>some "with_names"
 |52=>some "as_kind"
 |53=>some "as_list"
 |54=>some "converted_items"
 |55=>some "raised"
 |56=>some "value_vector"
 |57=>some "assigned_kind"
 |58=>some "extend_vector"
 |59=>some "put_items"
 |60=>some "check_places"
 |61=>some "first_count"
 |62=>some "delete_places"
 |63=>some "assign_places"
 |64=>some "assign_vector"
 |65=>some "list_of_call"
 |66=>some "call_of_list"
 |67=>some "assign_any"
 |68=>some "element_kind"
 |69=>some "put_element"
 |70=>some "assign_step"
 |71=>some "assign_down"
 |72=>some "assign_element"
 |73=>some "assign_dollar"
 |74=>some "_law_row"
 |75=>some "_law_next"
 |76=>some "_law_text"
 |77=>some "_law_number"
 |78=>some "_law_index"
 |79=>some "_law_cut"
 |80=>some "_law_due"
 |81=>some "_law_view"
 |82=>some "_law_kept"
 |83=>some "law"
 |_=>none
end Mine
namespace Mine
open PySem PySem.W PySem.Calls PyProof.Rows
noncomputable def jL(P:Params) (a:Addr):Obj:=((hE P).get? a).getD default
theorem G7{P:Params}{a:Addr}(h:((hE P).get? a).isSome=true):(hE P).get? a=some (jL P a):=by
 unfold jL;cases e:(hE P).get? a with
 |none=>rw[e] at h;cases h
 |some o=>rfl
noncomputable def Xz:List Addr:=[60,81,103,110,131,153,167,181,188,195,209,223,230,237,244,251,256,263,268,306,320,341,348,353,360,367,381,395,402,409,430,450,457,464,478,485,492,499,520,534,541,565,570,577,610,622,629,761,768,831,838,864,869,876,883,890,897,904,911,918,925,932,939,946,953,967,972,979,986,993,1000,1007,1014,1021,1028,1035,1042,1049,1054,1061,1066,1071,1078,1083]
noncomputable def Cw(k:Nat):Addr:=Xz.getD k 0
noncomputable def sZ:gZ->Addr|.null=>63|.missing=>84|.aQ=>113|.symbol=>134|.call=>156|.aJ=>113
noncomputable def UC:gZ->Nat|.null=>238|.missing=>267|.aQ=>296|.symbol=>339|.call=>370|.aJ=>296
noncomputable def sP(o:Obj):FuncData:=match o.data with| .func fd=>fd|_=>default
noncomputable def DV(o:Obj):Array Value:=match o.data with| .fields vs=>vs|_=>#[]
noncomputable def G8(v:Value):Addr:=match v with| .ref a=>a|_=>0
noncomputable def Sm(v:Value):Tok:=match v with| .str _ t=>t|_=>0
noncomputable def nG(P:Params) (k:Nat):FuncData:=sP (jL P (Cw k))
noncomputable def xW(w:World) (os:OsState):Cx where
 prog:=PySem.Challenge.pw_nz0546_01
 w:=w
 h₀:=hE w.params
 os:=os
 mg:=(hE w.params).nsMap mainGlobals
 mb:=(hE w.params).nsMap builtinsNs
 cA:=sZ
 mO:=44
 fA:=Cw
 fd:=nG w.params
 P:=1080
 ng:=("law" ++ ".<locals>.") ++ "<lambda>"
noncomputable def jh(fd:FuncData):List Stmt:=match fd.body with| .stmts b=>b|_=>[]
noncomputable def BK(fd:FuncData):Addr:=G8 fd.code
noncomputable def IW(P:Params) (a:Addr):List (Option Obj):=let o:=jL P a;let c:=BK (sP o);[some { cls:=.type "function",dict:=o.dict,data:=.func (sP o),slots:=o.slots },some { cls:=.type "code",dict:=(jL P c).dict,data:=.fields (DV (jL P c)),slots:=(jL P c).slots }]
noncomputable def IX(P:Params) (fd:FuncData):List Value:=[.ref (BK fd),.str fd.qualname (Sm ((DV (jL P (BK fd))).getD 1 .none))]
noncomputable def OC(P:Params) (a:Addr):List (Option Obj)×List (Option Value)×FuncBody:=let fd:=sP (jL P a);([(hE P).get? a,(hE P).get? (BK fd)],[some fd.code,(DV (jL P (BK fd)))[1]?],fd.body)
noncomputable def OD(P:Params) (a:Addr) (F:Fn):List (Option Obj)×List (Option Value)×FuncBody:=let fd:=sP (jL P a);(IW P a,(IX P fd).map some,.stmts (zw F.body (jh fd)))
theorem G9(w:World):((List.range 84).map fun k=>OC w.params (Cw k))=(List.range 84).map fun k=>OD w.params (Cw k) (T k):=by kernel_rfl
theorem OE(w:World):((List.range 84).all fun k=>Sj G6 (T k).body ⟨fun y=>(nG w.params k).scope.names.lookup y,Qw k,decide (k=83)⟩ (jh (nG w.params k)))=true:=by kernel_rfl
noncomputable def OF(fd:FuncData):List Str:=fd.params.args.map (·.arg)
noncomputable def XD(fd:FuncData) (ps:List Str):Bool:=(ps.all fun x=>fd.scope.names.lookup x==some .local||fd.scope.names.lookup x==some .cell)&&fd.scope.names.all (fun q=>q.2 != .free)&&decide ps.Nodup
noncomputable def XE(ps:List Str) (np:Nat) (vs:List (Str×Nat)):Bool:=(vs.all fun q=>!decide (q.2<np)||ps[q.2]? == some q.1)&&decide (ps.length=np)
theorem Hf(w:World):((List.range 84).all fun k=>XD (nG w.params k) (OF (nG w.params k))&&XE (OF (nG w.params k)) (T k).np (Qw k))=true:=by kernel_rfl
noncomputable def IY(fd:FuncData):(List (Str×Addr)×List Addr×List Bool)×ScopeKind×List Arg×List Arg×Option Arg×Option Arg:=((fd.closure,[fd.globals,fd.builtins],[fd.scope.isCoroutine,fd.scope.isGenerator]),fd.scope.kind,fd.params.posonlyargs,fd.params.kwonlyargs,fd.params.vararg,fd.params.kwarg)
noncomputable def IZ:(List (Str×Addr)×List Addr×List Bool)×ScopeKind×List Arg×List Arg×Option Arg×Option Arg:=(([],[mainGlobals,builtinsNs],[false,false]),.function,[],[],none,none)
theorem Hg(w:World):((List.range 84).map fun k=>IY (nG w.params k))=(List.range 84).map fun _=>IZ:=by kernel_rfl
noncomputable def So(o:Obj):Nat:=match o.data with| .seq _ n=>n|_=>0
noncomputable def OG(P:Params) (fd:FuncData) (df:List PV):Value×Option Obj×List PV:=(fd.defaults,cond df.isEmpty none ((hE P).get? (G8 fd.defaults)),df)
noncomputable def OH(P:Params) (fd:FuncData) (df:List PV):Value×Option Obj×List PV:=let o:=jL P (G8 fd.defaults);cond df.isEmpty (.none,none,[]) (.ref (G8 fd.defaults),some { cls:=.type "tuple",dict:=o.dict,data:=.seq #[.none] (So o),slots:=o.slots },[.none])
theorem KE(w:World):((List.range 84).map fun k=>OG w.params (nG w.params k) (T k).df)=(List.range 84).map fun k=>OH w.params (nG w.params k) (T k).df:=by kernel_rfl
theorem OI:((List.range 84).all fun k=>decide ((T k).df.length<=(T k).np))=true:=by kernel_rfl
section
variable {w:World}{os:OsState}{k:Nat}
theorem atK{α:Type}{f g:Nat->α}(h:(List.range 84).map f=(List.range 84).map g) (hk:k<84):f k=g k:=List.map_inj_left.mp h k (List.mem_range.mpr hk)
theorem KG{f:Nat->Bool}(h:(List.range 84).all f=true) (hk:k<84):f k=true:=List.all_eq_true.mp h k (List.mem_range.mpr hk)
noncomputable def Sp(F:Fn):List Value:=F.df.map fun _=>.none
theorem Hh{P:Params}{fd:FuncData}{df:List PV}(h:OG P fd df=OH P fd df):ny (hE P) fd (df.map fun _=>.none)/\(∀T o,fd.defaults=.ref T->(hE P).get? T=some o->o.cls≠.none)/\∀G,bh G (df.map fun _=>.none) df:=by
 cases df with
 |nil =>
  obtain⟨h1,_⟩:=Prod.ext_iff.mp h
  have h1:fd.defaults=.none:=h1
  refine⟨.no h1,fun T o e=>?_,fun G=>.nil⟩
  rw[h1] at e;cases e
 |cons d r =>
  obtain⟨h1,h⟩:=Prod.ext_iff.mp h
  obtain⟨h2,h3⟩:=Prod.ext_iff.mp h
  cases(h3:d::r=[.none])
  refine⟨.one _ _ _ .none h1 h2 rfl,fun T o e g=>?_,fun G=>.cons .none .nil⟩
  cases(show fd.defaults=_ from h1).symm.trans e
  cases(show _=some _ from h2).symm.trans g
  exact fun q=>by cases q
theorem Hi(hk:k<84):gQ (xW w os).h₀ ((xW w os).fA k) ((xW w os).fd k)/\FnAt (xW w os) k (T k) (OF (nG w.params k)) (Sp (T k)) (Qw k) (jh (nG w.params k))/\zw (T k).body (jh (nG w.params k))=jh (nG w.params k):=by
 obtain⟨h1,h⟩:=Prod.ext_iff.mp (atK (G9 w) hk)
 obtain⟨h2,h3⟩:=Prod.ext_iff.mp h
 obtain⟨o1,h1⟩:=List.cons.inj h1
 obtain⟨o2,_⟩:=List.cons.inj h1
 obtain⟨c1,h2⟩:=List.cons.inj h2
 obtain⟨c2,_⟩:=List.cons.inj h2
 obtain⟨r1,r⟩:=Prod.ext_iff.mp (atK (Hg w) hk)
 obtain⟨r2,r⟩:=Prod.ext_iff.mp r
 obtain⟨r3,r⟩:=Prod.ext_iff.mp r
 obtain⟨r4,r⟩:=Prod.ext_iff.mp r
 obtain⟨r5,r6⟩:=Prod.ext_iff.mp r
 obtain⟨r1,r⟩:=Prod.ext_iff.mp r1
 obtain⟨r7,r8⟩:=Prod.ext_iff.mp r
 obtain⟨d1,d2,d3⟩:=Hh (atK (KE w) hk)
 have b:(nG w.params k).body=.stmts (zw (T k).body (jh (nG w.params k))):=h3
 have e:zw (T k).body (jh (nG w.params k))=jh (nG w.params k):=by
  have z:=congrArg (fun b=>match b with| .stmts l=>l|_=>[]) b
  exact z.symm
 refine aP (KG (Hf w) hk) fun s1 s2=>aP s1 fun s1 s3=>aP s1 fun s1 s4=>aP s2 fun s2 s5=>⟨.mk _ o1 rfl rfl,⟨⟨_,o1,(fun q=>by cases q),rfl⟩,⟨_,_,_,_,Option.some.inj c1,o2,(fun q=>by cases q),rfl,c2⟩,b.trans (congrArg _ e),r1,(List.cons.inj r7).1,(List.cons.inj (List.cons.inj r7).2).1,(List.cons.inj r8).1,(List.cons.inj (List.cons.inj r8).2).1,r2,⟨r3,rfl,r5,r4,r6,of_decide_eq_true s3⟩,of_decide_eq_true s5,fun x hx=>?_,fun x q=>?_,fun y j m hj=>?_,d1,d2,d3,?_⟩,e⟩
 ·exact(Bool.or_eq_true _ _▸List.all_eq_true.mp s1 x hx).imp eq_of_beq eq_of_beq
 ·exact absurd (show false=true from List.all_eq_true.mp s4 _ (PySem.mem_of_lookup q)) Bool.false_ne_true
 ·have z:=List.all_eq_true.mp s2 _ m
  rw[decide_eq_true hj] at z
  exact eq_of_beq z
 ·rw[of_decide_eq_true s5]
  exact Nat.le_trans (Nat.le_of_eq (List.length_map ..)) (of_decide_eq_true (KG OI hk))
end
section
variable (w:World) (os:OsState)
theorem OJ{P:Params}{a:Addr}(h:(hE P).isNs a=true):(hE P).Ns a ((hE P).nsMap a):=.of_isNs h
noncomputable def OL(v:Value):Bool:=match v with| .none=>false|_=>true
noncomputable def kM(P:Params) (a:Addr):Bool:=OL (jL P a).cls
theorem jx{P:Params}{a:Addr}(h:kM P a=true):∀o,(hE P).get? a=some o->o.cls≠.none:=fun o e q=>by
 unfold kM jL at h
 rw[e] at h
 replace h:OL o.cls=true:=h
 rw[q] at h
 cases h
noncomputable def rM:List gZ:=[.null,.missing,.aQ,.symbol,.call,.aJ]
theorem kO(c:gZ):c∈rM:=by
 induction c
 ·exact .head _
 ·exact .tail _ (.head _)
 ·exact .tail _ (.tail _ (.head _))
 ·exact .tail _ (.tail _ (.tail _ (.head _)))
 ·exact .tail _ (.tail _ (.tail _ (.tail _ (.head _))))
 ·exact .tail _ (.tail _ (.tail _ (.tail _ (.tail _ (.head _)))))
noncomputable def Sq(P:Params) (c:gZ):Bool :=
 let C:=sZ c
 let m:=(hE P).nsMap (C-1)
 (hE P).isNs (C-1)&&kM P (C-1)&&Option.isNone (m "__getattribute__")&&Option.isNone (m "__getattr__")&&Option.isNone (m "__setattr__")&&(fh.all fun f=>Option.isNone (m (tx f)))
theorem DW:rM.all (Sq w.params)=true:=by kernel_rfl
noncomputable def I0(P:Params) (c:gZ):Option Obj×Option Value×Option Value:=let m:=(hE P).nsMap (sZ c-1);((hE P).get? (sZ c),m "__init__",m "copy")
noncomputable def OM(c:gZ):Option Obj×Option Value×Option Value:=(some (excClassObj (clsName c) (clsName c) (sZ c) (sZ c-1) [.type "object"] [.type "object"] true [] [] false none none none none (some (.str (clsName c) (UC c))) (some (.str (clsName c) (UC c+8))) (some (.bool true)) "object.__new__"),some (.ref (Cw (fQ c))),cond c.CA (some (.ref (Cw 3))) none)
theorem DX:rM.map (I0 w.params)=rM.map OM:=by kernel_rfl
theorem ON(c:gZ):IA (xW w os) c:=by
 have q:I0 w.params c=OM c:=List.map_inj_left.mp (DX w) c (kO c)
 obtain⟨q1,q⟩:=Prod.ext_iff.mp q
 obtain⟨q2,q3⟩:=Prod.ext_iff.mp q
 exact aP (List.all_eq_true.mp (DW w) c (kO c)) fun h h6=>aP h fun h h5=>aP h fun h h4=>aP h fun h h3=>aP h fun h1 h2 =>
  .mk _ _ ⟨⟨_,q1,.mk ..⟩,OJ h1,jx h2,Option.isNone_iff_eq_none.mp h3,Option.isNone_iff_eq_none.mp h4,Option.isNone_iff_eq_none.mp h5,fun f hf=>Option.isNone_iff_eq_none.mp (List.all_eq_true.mp h6 f hf),q2,fun q=>by subst q;exact q3⟩
noncomputable def XF(P:Params):Bool:=(hE P).isNs mainGlobals&&kM P mainGlobals&&(hE P).isNs builtinsNs&&kM P builtinsNs&&decide (sysModules<(hE P).objs.size)
theorem KH:XF w.params=true:=by kernel_rfl
noncomputable def XG(P:Params):(List (Option Value)×List (Option Value))×List (Option Value)×List (Option Value)×List (Option Value) :=
 let m:=(hE P).nsMap mainGlobals
 let b:=(hE P).nsMap builtinsNs
 ((cy.map m,cy.map b),rM.map (fun c=>m (clsName c)),(List.range 84).map (fun k=>match G6 k with| some x=>m x|none=>none),[m "MOST_LENGTH",m "Refusal",m "__builtins__",m "law"])
noncomputable def XH:(List (Option Value)×List (Option Value))×List (Option Value)×List (Option Value)×List (Option Value) :=
 ((cy.map fun _=>none,cy.map bootBuiltins),rM.map (fun c=>some (.ref (sZ c))),(List.range 84).map (fun k=>match G6 k with| some x=>some (.ref (Cw k))|none=>none),[some (.int 1000000 236),some (.ref 44),some (.ref 4),some (.ref 1083)])
theorem DY:XG w.params=XH:=by kernel_rfl
theorem KJ(j:Nat):G6 (j+84)=none:=by kernel_rfl
theorem DZ{k:Nat}{x:Str}(h:G6 k=some x):k<84:=by
 rcases Nat.lt_or_ge k 84 with q|q
 ·exact q
 ·obtain⟨j,rfl⟩:=Nat.exists_eq_add_of_le q
  rw[Nat.add_comm,KJ] at h
  cases h
theorem xX(P:Params):(hE P).objs.size=1084:=by kernel_rfl
theorem names4:(hE w.params).nsMap mainGlobals "MOST_LENGTH" = some (.int 1000000 236)/\(hE w.params).nsMap mainGlobals "Refusal" = some (.ref 44)/\(hE w.params).nsMap mainGlobals "__builtins__" = some (.ref 4)/\(hE w.params).nsMap mainGlobals "law" = some (.ref 1083):=by
 obtain⟨_,q⟩:=Prod.ext_iff.mp (DY w)
 obtain⟨_,q⟩:=Prod.ext_iff.mp q
 obtain⟨_,q⟩:=Prod.ext_iff.mp q
 obtain⟨a,q⟩:=List.cons.inj q
 obtain⟨b,q⟩:=List.cons.inj q
 obtain⟨c,q⟩:=List.cons.inj q
 exact⟨a,b,c,(List.cons.inj q).1⟩
theorem OO:Base (xW w os) G6:=by
 obtain⟨q1,q⟩:=Prod.ext_iff.mp (DY w)
 obtain⟨q3,q⟩:=Prod.ext_iff.mp q
 obtain⟨q4,_⟩:=Prod.ext_iff.mp q
 obtain⟨q1,q2⟩:=Prod.ext_iff.mp q1
 replace q1:cy.map ((hE w.params).nsMap mainGlobals)=cy.map fun _=>none:=q1
 replace q2:cy.map ((hE w.params).nsMap builtinsNs)=cy.map bootBuiltins:=q2
 replace q3:rM.map (fun c=>(hE w.params).nsMap mainGlobals (clsName c))=rM.map fun c=>some (.ref (sZ c)):=q3
 replace q4:(List.range 84).map (fun k=>match G6 k with| some x=>(hE w.params).nsMap mainGlobals x|none=>none)=(List.range 84).map fun k=>match G6 k with| some x=>some (.ref (Cw k))|none=>none:=q4
 refine aP (KH w) fun h h5=>aP h fun h h4=>aP h fun h h3=>aP h fun h1 h2=>⟨OJ h1,jx h2,OJ h3,jx h4,fun x hx=>⟨List.map_inj_left.mp q1 x hx,List.map_inj_left.mp q2 x hx⟩,ON w os,fun c=>List.map_inj_left.mp q3 c (kO c),fun k x e=>?_,⟨_,(names4 w).1⟩,of_decide_eq_true h5,rfl⟩
 have z:=List.map_inj_left.mp q4 k (List.mem_range.mpr (DZ e))
 rw[e] at z
 exact z
end
section
variable (w:World) (os:OsState)
noncomputable def kL:List Addr:=[63,62,84,83,113,112,134,133,156,155,60,81,103,131,153]
noncomputable def kE(P:Params):Frag:=kL.map fun a=>(a,jL P a)
theorem rN{f:Addr->Obj}{a:Addr}{o:Obj}:∀{l:List Addr},(l.map fun a=>(a,f a)).lookup a=some o->a∈l/\o=f a
 |[],h=>by cases h
 |b::r,h=>by
  rw[List.map_cons,List.lookup_cons] at h
  cases q:a==b with
  |true=>rw[q] at h;cases h;rw[eq_of_beq q];exact⟨.head _,rfl⟩
  |false=>rw[q] at h;have:=rN h;exact⟨.tail _ this.1,this.2⟩
noncomputable def kB(P:Params) (c:gZ):Bool:=plainGet (kE P) (sZ c) "__class__" && hasDictIn (kE P) (sZ c)&&makesIn (kE P) (sZ c)
noncomputable def kV(P:Params) (c:gZ):(List (Option (Option Value))×List (Option Bool))×Option Value :=
 (([findIn (kE P) (.ref (sZ c)) "__class__",findIn (kE P) (.ref (sZ c)) "__init__"],[mroIn (kE P) (sZ c) (.type "object"),kitOne (kE P) (.ref (sZ c)) (.ref 113),kitOne (kE P) (.ref (sZ c)) (.type "str")]),typeIn (kE P) (.ref (Cw (fQ c))))
noncomputable def kW(c:gZ):(List (Option (Option Value))×List (Option Bool))×Option Value:=(([some (some (.builtin "object.__class__")),some (some (.ref (Cw (fQ c))))],[some true,some c.CA,some false]),some (.type "function"))
noncomputable def XI(P:Params):Option (Option Value)×List (Option Bool):=(specialIn (kE P) (.builtin "object.__class__") "__get__",[takesIn (kE P) (.builtin "object.__class__"),kitOne (kE P) (.type "NoneType") (.ref 113),kitOne (kE P) (.type "str") (.ref 113),kitOne (kE P) (.type "str") (.type "str"),kitOne (kE P) (.type "NoneType") (.type "str"),kitOne (kE P) (.type "tuple") (.type "str")])
theorem OP:(rM.all (kB w.params)&&kL.all fun a=>((hE w.params).get? a).isSome&&kM w.params a)=true:=by kernel_rfl
theorem OQ:rM.map (kV w.params)=rM.map kW:=by kernel_rfl
theorem OR:XI w.params=(some (some (.builtin "getset_descriptor.__get__")),[some true,some false,some false,some true,some false,some false]):=by kernel_rfl
theorem nH{α:Type}{a b c x y z:α}{r t:List α}(h:a::b::c::r=x::y::z::t):a=x/\b=y/\c=z/\r=t :=
 let⟨h1,h⟩:=List.cons.inj h;let⟨h2,h⟩:=List.cons.inj h;let⟨h3,h⟩:=List.cons.inj h;⟨h1,h2,h3,h⟩
theorem ue(c:gZ):findIn (kE w.params) (.ref (sZ c)) "__class__" = some (some (.builtin "object.__class__"))/\findIn (kE w.params) (.ref (sZ c)) "__init__" = some (some (.ref (Cw (fQ c))))/\mroIn (kE w.params) (sZ c) (.type "object")=some true/\kitOne (kE w.params) (.ref (sZ c)) (.ref 113)=some c.CA /\
  kitOne (kE w.params) (.ref (sZ c)) (.type "str")=some false/\typeIn (kE w.params) (.ref (Cw (fQ c)))=some (.type "function"):=by
 obtain⟨q,q6⟩:=Prod.ext_iff.mp (List.map_inj_left.mp (OQ w) c (kO c))
 obtain⟨q1,q⟩:=Prod.ext_iff.mp q
 obtain⟨q1,q2⟩:=List.cons.inj q1
 obtain⟨q3,q4,q5,_⟩:=nH q
 exact⟨q1,(List.cons.inj q2).1,q3,q4,q5,q6⟩
theorem Ss:Cs (xW w os) (kE w.params):=aP (OP w) fun h1 h2=>by
 obtain⟨g0,q⟩:=Prod.ext_iff.mp (OR w)
 obtain⟨g1,g2,g3,q⟩:=nH q
 obtain⟨g4,g5,g6,_⟩:=nH q
 have k:∀c,kB w.params c=true:=fun c=>List.all_eq_true.mp h1 c (kO c)
 have at':∀a o,(kE w.params).lookup a=some o->(hE w.params).get? a=some o/\o.cls≠.none:=fun a o e=>by
  obtain⟨m,rfl⟩:=rN e
  exact aP (List.all_eq_true.mp h2 a m) fun e1 e2=>⟨G7 e1,jx e2 _ (G7 e1)⟩
 exact⟨fun a o e=>(at' a o e).1,fun a o e=>(at' a o e).2,fun c=>aP (k c) fun h _=>aP h fun h _=>h,fun c=>aP (k c) fun h _=>aP h fun _ h=>h,fun c=>(ue w c).1,g0,g1,fun c=>(ue w c).2.2.1,fun c=>(ue w c).2.2.2.1,g2,g3,fun c=>(ue w c).2.2.2.2.1,g4,⟨g5,g6⟩,
  fun c=>aP (k c) fun _ h=>h,fun c=>(ue w c).2.1,fun c=>(ue w c).2.2.2.2.2⟩
end
section
variable (w:World) (os:OsState)
noncomputable def Su(o:Obj):ClassData:=match o.data with| .cls cd=>cd|_=>⟨"",[],[],0,"",true,[],[],false,none,false⟩
noncomputable def Al(P:Params):FuncData:=sP (jL P 41)
noncomputable def Sv(P:Params):Bool:=(hE P).isNs 43&&(hE P).isNs 23&&([43,23].all fun a=>((hE P).get? a).isSome&&kM P a)&&((Al P).scope.names.all fun x=>x.2 != .cell)
theorem Am:Sv w.params=true:=by kernel_rfl
theorem OS:[("__init__" : Str),"__setattr__",bJ,"__getattribute__","__getattr__"].map (fun x=>((hE w.params).nsMap 43 x,(hE w.params).nsMap 23 x))=[(some (.ref 41),none),(none,none),(none,none),(none,none),(none,none)]:=by kernel_rfl
noncomputable def Sw(P:Params):List (Option Obj)×List (Option Value)×Addr×FuncBody×Value :=
 let c:=BK (Al P)
 ([(hE P).get? 44,(hE P).get? 24,(hE P).get? 41,(hE P).get? c],[some (Al P).code,(DV (jL P c))[1]?],(Su (jL P 24)).ns,(Al P).body,(Al P).defaults)
noncomputable def Sx(P:Params):List (Option Obj)×List (Option Value)×Addr×FuncBody×Value :=
 ([some (excClassObj "Refusal" "Refusal" 44 43 [.ref 24] (.ref 24::iB) true [] [] false none none (some (.ref 28)) none (some (.str "Refusal" 209)) (some (.str "Refusal" 217)) (some (.bool true)) "Exception.__new__"),
  some { cls:=.type "type",dict:=none,data:=.cls (Su (jL P 24)),slots:=(jL P 24).slots }]++IW P 41,(IX P (Al P)).map some,23,.stmts [.Assign [.Attribute (.Name t9 ⟨7,8,7,12⟩) bJ ⟨7,8,7,20⟩] (.Name bJ ⟨7,23,7,30⟩) ⟨7,8,7,30⟩],.none)
theorem An:Sw w.params=Sx w.params:=by kernel_rfl
theorem Sy:(IY (Al w.params)).2=IZ.2:=by kernel_rfl
theorem OT:[(Al w.params).scope.isCoroutine,(Al w.params).scope.isGenerator]=[false,false]:=by kernel_rfl
theorem Sz:((Al w.params).params.args.map (·.arg),(Al w.params).scope.names.lookup t9,(Al w.params).scope.names.lookup bJ)=([t9,bJ],some .local,some .local):=by kernel_rfl
theorem I2{P:Params}{a:Addr}(h:(((hE P).get? a).isSome&&kM P a)=true):Here (hE P) a:=aP h fun h1 h2=>.mk _ (G7 h1) (jx h2 _ (G7 h1))
theorem KL:mz ((hE w.params).nsMap 43) ((hE w.params).nsMap 23) 41:=by
 obtain⟨a,b,c,q⟩:=nH (OS w)
 obtain⟨d,q⟩:=List.cons.inj q
 obtain⟨e,_⟩:=List.cons.inj q
 obtain⟨a1,a2⟩:=Prod.mk.inj a
 obtain⟨b1,b2⟩:=Prod.mk.inj b
 obtain⟨c1,c2⟩:=Prod.mk.inj c
 obtain⟨d1,d2⟩:=Prod.mk.inj d
 obtain⟨e1,e2⟩:=Prod.mk.inj e
 exact⟨a1,a2,b1,b2,c1,c2,d1,d2,e1,e2⟩
theorem OU:zo (Al w.params):=by
 obtain⟨_,q⟩:=Prod.ext_iff.mp (An w)
 obtain⟨_,q⟩:=Prod.ext_iff.mp q
 obtain⟨_,q⟩:=Prod.ext_iff.mp q
 obtain⟨b,d⟩:=Prod.ext_iff.mp q
 obtain⟨k,r⟩:=Prod.ext_iff.mp (Sy w)
 obtain⟨r1,r⟩:=Prod.ext_iff.mp r
 obtain⟨r2,r⟩:=Prod.ext_iff.mp r
 obtain⟨r3,r4⟩:=Prod.ext_iff.mp r
 obtain⟨c1,c⟩:=List.cons.inj (OT w)
 obtain⟨p,l⟩:=Prod.mk.inj (Sz w)
 obtain⟨l1,l2⟩:=Prod.mk.inj l
 exact aP (Am w) fun h h4=>⟨⟨_,_,_,_,b⟩,c1,(List.cons.inj c).1,k,⟨r1,p,r3,r2,r4,by decide⟩,d,fun x hx=>bne_iff_ne.mp (List.all_eq_true.mp h4 x hx),l1,l2⟩
theorem KN:pN (xW w os):=by
 obtain⟨o,q⟩:=Prod.ext_iff.mp (An w)
 obtain⟨v,q⟩:=Prod.ext_iff.mp q
 obtain⟨n,_⟩:=Prod.ext_iff.mp q
 obtain⟨o1,o2,o3,o4⟩:=nH o
 obtain⟨c1,v⟩:=List.cons.inj v
 have n:(Su (jL w.params 24)).ns=23:=n
 refine aP (Am w) fun h _=>aP h fun h h3=>aP h fun h1 h2=>.mk 24 43 ((hE w.params).nsMap 43) ((hE w.params).nsMap 23) 41 (Al w.params) ⟨⟨_,o1,.mk ..⟩,OJ h1,I2 (List.all_eq_true.mp h3 43 (.head _)),⟨_,_,_,_,o2,(fun q=>by cases q),?_,?_⟩⟩ (KL w) (.mk _ o3 rfl rfl) _ _ _ _ (Option.some.inj c1) (List.cons.inj o4).1 (fun q=>by cases q) rfl (List.cons.inj v).1 (OU w) (names4 w).2.1
 ·rw[n];exact OJ h2
 ·rw[n];exact I2 (List.all_eq_true.mp h3 23 (.tail _ (.head _)))
end
section
variable (w:World) (os:OsState)
noncomputable def fC(P:Params):Array Value:=DV (jL P 1082)
theorem OV:[(hE w.params).get? 1082,(hE w.params).get? 1080,(hE w.params).get? 4]=[some { cls:=.type "code",data:=.fields (fC w.params) },some (tabObj #[]),some { cls:=.type "module",dict:=some builtinsNs,data:=.plain }]:=by kernel_rfl
theorem SD:((fC w.params)[11]?,[11,18,7,9,10].map (fun i=>(fC w.params).getD i .none))=(some (.ref 1080),[.ref 1080,.str qx 1702,rawInt 3,.bool true,rawInt 181]):=by kernel_rfl
theorem SG:((nG w.params 83).code,(nG w.params 83).qualname)=(Value.ref 1082,("law" : Str)):=by kernel_rfl
theorem OW:((nG w.params 82).params.args.map (·.arg),(nG w.params 82).body,[zp,ie,("Refusal" : Str)].map (fun x=>(nG w.params 82).scope.names.lookup x)) =
  ([zp],.stmts (IT ⟨1290,15,1290,18⟩ ⟨1290,15,1290,20⟩ ⟨1290,8,1290,20⟩ ⟨1291,11,1291,18⟩ ⟨1292,15,1292,20⟩ ⟨1292,15,1292,28⟩ ⟨1292,8,1292,28⟩ ⟨1291,4,1292,28⟩ ⟨1289,4,1292,28⟩),[some .local,some .local,some .globalImplicit]):=by kernel_rfl
theorem XJ:Sp (T 82)=[]:=by kernel_rfl
theorem KO:ua (xW w os):=by
 obtain⟨l1,l2,l3,_⟩:=nH (OV w)
 obtain⟨l4,l⟩:=Prod.mk.inj (SD w)
 obtain⟨l5,l6,l7,l⟩:=nH l
 obtain⟨l8,l⟩:=List.cons.inj l
 obtain⟨XK,l11⟩:=Prod.mk.inj (SG w)
 exact⟨⟨1082,XK,_,_,_,_,_,_,_,_,_,l1,rfl,rfl,l4,l5,l6,l7,l8,(List.cons.inj l).1,by show(1082:Nat)≠1080;decide⟩,⟨4,_,(names4 w).2.2.1,by decide,by decide,by show(4:Nat)≠1080;decide,l3,rfl,rfl,rfl⟩,(by show mainGlobals≠1080/\1080≠cStatics;decide),⟨_,l2⟩,(by show _=((nG w.params 83).qualname ++ ".<locals>.") ++ "<lambda>";rw[l11];rfl)⟩
theorem Hj{k:Nat}(hk:k<84):gQ (xW w os).h₀ ((xW w os).fA k) ((xW w os).fd k)/\FnAt (xW w os) k (T k) (OF (nG w.params k)) (Sp (T k)) (Qw k) (jh (nG w.params k))/\zw (T k).body (jh (nG w.params k))=jh (nG w.params k):=Hi hk
theorem OX:rG (xW w os) (T 82):=by
 obtain⟨k1,k⟩:=Prod.mk.inj (OW w)
 obtain⟨k2,k⟩:=Prod.mk.inj k
 obtain⟨a,b,c,_⟩:=nH k
 obtain⟨O,X,_⟩:=Hj w os (k:=82) (by decide)
 have hb:jh (nG w.params 82)=_:=congrArg (fun b=>match b with| .stmts l=>l|_=>[]) k2
 rw[show OF (nG w.params 82)=[zp] from k1,hb,XJ] at X
 exact⟨⟨_,_,_,_,_,_,_,_,_,⟨X.obj,X.code,X.body,X.RN,X.glob,X.blt,X.co,X.gen,X.kind,X.plain,X.np,X.pk,X.free,(fun y j e=>nomatch e),X.defs,X.Oc,X.Kn,X.dl⟩⟩,O,a,b,c⟩
theorem SH(j:Nat):T (j+84)=⟨0,[],0,true,false,[.bad]⟩:=by kernel_rfl
theorem Hl{C:fj}{as:List AV}{st:aB}:fq C ⟨0,[],0,true,false,[.bad]⟩ as st=none:=by
 show oB (Fn.start _ as) _=none
 cases Fn.start ⟨0,[],0,true,false,[.bad]⟩ as<;>rfl
theorem OY:OA (xW w os) (kE w.params) G6 T where
 B:=OO w os
 KB:=Ss w os
 RO:=KN w os
 O:=fun f x e=>(Hj w os (DZ e)).1
 O3:=(Hj w os (k:=3) (by decide)).1
 LO:=KO w os
 kept:=⟨_,OX w os⟩
 fns:=fun f=>by
  rcases Nat.lt_or_ge f 84 with q|q
  ·obtain⟨_,X,h⟩:=Hj w os q
   exact .inl ⟨_,_,_,_,X,h,KG (OE w) q⟩
  ·refine .inr fun C as st=>?_
   obtain⟨j,rfl⟩:=Nat.exists_eq_add_of_le q
   rw[Nat.add_comm,SH]
   exact Hl
end
end Mine
namespace Mine
open PySem
theorem af{α β} (a:α) st (f:α->aB->R β):R.bind (ok a st) f=f a st:=rfl
theorem xY{α β} m (f:α->aB->R β):R.bind (some (.error m)) f=some (.error m):=rfl
theorem aF{α} (a:α) st (f:α->aB->Option Out):R.out (ok a st) f=f a st:=rfl
theorem Ao{α} m st (f:α->aB->Option Out):R.out (some (.error (m,st))) f=some (.exc m st):=rfl
noncomputable def pick(b:Option Bool) (C:fj) (x y:List S) (g:Gm) (st:aB):Option Out:=gm b (bO C x g st) (bO C y g st)
theorem aS(C x y g st):pick (some true) C x y g st=bO C x g st:=rfl
theorem bD(C x y g st):pick (some false) C x y g st=bO C y g st:=rfl
theorem aM(C c a b g st):ex C (.ifs c a b) g st=(ev C c g st).out fun t st=>pick (cT st t) C a b g st:=rfl
theorem bx(C e g st):ex C (.expr e) g st=(ev C e g st).out fun _ st=>some (.next g st):=rfl
theorem aC(C x e g st):ex C (.assign x e) g st=(ev C e g st).out fun a st=>some (.next (g.set x (some a)) st):=rfl
theorem aW(C e g st):ex C (.ret e) g st=(ev C e g st).out fun a st=>some (.ret a st):=rfl
theorem rO(C e g st):ex C (.raise e) g st=(ev C e g st).out fun a st=>uY a st:=rfl
theorem rP(m st):uY (.t (.str m)) st=some (.exc m st):=rfl
noncomputable def I3(k:Option PV) (st:aB) (b:AV) (d:PV) (g:Gm):Option Out:=oB k fun k=>o9 (A8 st b k d) g
theorem rQ(C o i e g st):ex C (.dN o i e) g st=(ev C e g st).out fun a st=>(ev C o g st).out fun b st=>(ev C i g st).out fun k st=>(eU st a).out fun d st=>I3 (vw st k) st b d g:=rfl
theorem Aq(k st b d g):I3 (some k) st b d g=o9 (A8 st b k d) g:=rfl
theorem As(st g):o9 (some st) g=some (.next g st):=rfl
noncomputable def mE(o:Option Out) (C:fj) (r:List S):Option Out:=match o with
 |some (.next g' st')=>bO C r g' st'
 |q=>q
theorem ah(C s r g st):bO C (s::r) g st=mE (ex C s g st) C r:=rfl
theorem aL(C g st):bO C [] g st=some (.next g st):=rfl
theorem au(C r g st):mE (some (.next g st)) C r=bO C r g st:=rfl
theorem bB(C r g st):mE (some (.ret g st)) C r=some (.ret g st):=rfl
theorem kP(C r g st):mE (some (.exc g st)) C r=some (.exc g st):=rfl
theorem av(C i g st):ev C (.var i) g st=A3 (g[i]?) st:=rfl
theorem ay(a st):A3 (some (some a)) st=ok a st:=rfl
theorem aH(C g st):ev C .none g st=ok (.t .none) st:=rfl
theorem bI(C s g st):ev C (.str s) g st=ok (.t (.str s)) st:=rfl
theorem bg(C s g st):ev C (.int s) g st=ok (.t (.int s)) st:=rfl
theorem v9(C s g st):ev C (.bool s) g st=ok (.t (.bool s)) st:=rfl
theorem cQ(C e f g st):ev C (.attr e f) g st=(ev C e g st).bind fun a st=>uU st a f:=rfl
theorem aG(C o x y g st):ev C (.cmp o x y) g st=(ev C x g st).bind fun a st=>(ev C y g st).bind fun b st=>gh o st (vw st a) (vw st b):=rfl
theorem aV(st d):vw st (.t d)=some d:=rfl
theorem cP(st i):vw st (.r i)=Jp (st[i]?):=rfl
theorem bX(l):Jp (some (.lst l))=some (.lst l):=rfl
theorem I4(l):Jp (some (.aK l))=some (.aK l):=rfl
theorem uf(l):Jp (some (.eT l))=some (.eT l):=rfl
theorem bk(st d):gh .is st (some d) (some .none)=ok (.t (.bool (isNone d))) st:=rfl
theorem cu(st d):gh .ee st (some d) (some .none)=ok (.t (.bool (!isNone d))) st:=rfl
theorem eu(st a b):gh .ge st (some (.int a)) (some (.int b))=ok (.t (.bool (decide (b<=a)))) st:=rfl
theorem dW(st a b):gh .gt st (some (.int a)) (some (.int b))=ok (.t (.bool (decide (b<a)))) st:=rfl
theorem fV(st a b):gh .lt st (some (.int a)) (some (.int b))=ok (.t (.bool (decide (a<b)))) st:=rfl
theorem cJ(st a b):gh .eq st (some (.int a)) (some (.int b))=ok (.t (.bool (decide (a=b)))) st:=rfl
theorem gT(st a b):gh .ne st (some (.int a)) (some (.int b))=ok (.t (.bool (!decide (a=b)))) st:=rfl
theorem cV(st a b):gh .eq st (some (.str a)) (some (.str b))=ok (.t (.bool (decide (a=b)))) st:=rfl
theorem iS(st a b):gh .ne st (some (.str a)) (some (.str b))=ok (.t (.bool (!decide (a=b)))) st:=rfl
theorem xZ(st b):gh .ne st (some .none) (some (.int b))=ok (.t (.bool true)) st:=rfl
theorem D0(st b):gh .eq st (some .none) (some (.int b))=ok (.t (.bool false)) st:=rfl
theorem ug(st k l):gh .oj st (some (.str k)) (some (.aK l))=ok (.t (.bool (cj k l).isSome)) st:=rfl
theorem uh(st k l):gh .sL st (some (.str k)) (some (.aK l))=ok (.t (.bool (!(cj k l).isSome))) st:=rfl
theorem um(st k l):gh .sL st (some (.int k)) (some (.eT l))=ok (.t (.bool (!(gK k l).isSome))) st:=rfl
theorem isNone_none:isNone .none=true:=rfl
theorem bN(i):isNone (.int i)=false:=rfl
theorem cB(i):isNone (.str i)=false:=rfl
theorem eY(i):isNone (.tup i)=false:=rfl
theorem mV(i):isNone (.lst i)=false:=rfl
theorem ak(st b):cT st (.t (.bool b))=some b:=rfl
noncomputable def SI(b:Option Bool) (a:AV) (C:fj) (r:List E) (g:Gm) (st:aB):R AV:=gm b (ok a st) (uX C r g st)
theorem dz(C l g st):ev C (.or l) g st=uX C l g st:=rfl
theorem fu(C e g st):uX C [e] g st=ev C e g st:=rfl
theorem dB(C e f r g st):uX C (e::f::r) g st=(ev C e g st).bind fun a st=>SI (cT st a) a C (f::r) g st:=rfl
theorem j5(a C r g st):SI (some true) a C r g st=ok a st:=rfl
theorem eZ(a C r g st):SI (some false) a C r g st=uX C r g st:=rfl
noncomputable def KQ(b:Option Bool) (a:AV) (C:fj) (r:List E) (g:Gm) (st:aB):R AV:=gm b (m9 C r g st) (ok a st)
theorem dh(C l g st):ev C (.and l) g st=m9 C l g st:=rfl
theorem eN(C e g st):m9 C [e] g st=ev C e g st:=rfl
theorem dj(C e f r g st):m9 C (e::f::r) g st=(ev C e g st).bind fun a st=>KQ (cT st a) a C (f::r) g st:=rfl
theorem ez(a C r g st):KQ (some true) a C r g st=m9 C r g st:=rfl
theorem kQ(a C r g st):KQ (some false) a C r g st=ok a st:=rfl
noncomputable def KR(b:Option Bool) (C:fj) (x y:E) (g:Gm) (st:aB):R AV:=gm b (ev C x g st) (ev C y g st)
theorem cK(C c x y g st):ev C (.ite c x y) g st=(ev C c g st).bind fun a st=>KR (cT st a) C x y g st:=rfl
theorem fW(C x y g st):KR (some true) C x y g st=ev C x g st:=rfl
theorem fX(C x y g st):KR (some false) C x y g st=ev C y g st:=rfl
theorem kR(C x g st):ev C (.not x) g st=(ev C x g st).bind fun a st=>FQ (cT st a) st:=rfl
theorem kT(b st):FQ (some b) st=ok (.t (.bool (!b))) st:=rfl
theorem aA(C g st):gg C [] g st=ok [] st:=rfl
theorem aq(C e r g st):gg C (e::r) g st=(ev C e g st).bind fun a st=>(gg C r g st).bind fun as st=>ok (a::as) st:=rfl
noncomputable def I5(k:Option MK) (m:Mt) (a:AV) (C:fj) (l:List E) (g:Gm) (st:aB):R AV:=uW k m a (gg C l) g st
theorem br(C m x l g st):ev C (.b4 m x l) g st=(ev C x g st).bind fun a st=>I5 (xe m st a) m a C l g st:=rfl
theorem bu(k m a C l g st):I5 (some k) m a C l g st=(gg C l g st).bind fun as st=>(fy st as).bind fun ds st=>mh m k st a ds:=rfl
theorem aU(m st a):xe m st a=mK m (vw st a):=rfl
theorem aZ(l):mK .append (some (.lst l))=some .list:=rfl
theorem D3(l):mK .index (some (.lst l))=some .list:=rfl
theorem uo(l):mK .qA (some (.aK l))=some .dict:=rfl
theorem D4(l):mK .pop (some (.lst l))=some .list:=rfl
theorem jf(st):fy st []=ok [] st:=rfl
theorem cL(st d):fy st [.t d]=ok [d] st:=rfl
theorem mF(st d e):fy st [.t d,.t e]=ok [d,e] st:=rfl
theorem dF(st d):eU st (.t d)=ok d st:=rfl
theorem bf(st k i d):mh .append k st (.r i) [d]=FL (st[i]?) st i d:=rfl
theorem bV(xs st i d):FL (some (.lst xs)) st i d=if xs.length<2000 then ok (.t .none) (st.set i (.lst (xs++[d]))) else Option.none:=rfl
theorem bW(C f l g st):ev C (.call f l) g st=(gg C l g st).bind fun as st=>C f as st:=rfl
theorem bR(C x i g st):ev C (.sub x i) g st=(ev C x g st).bind fun a st=>(ev C i g st).bind fun b st=>sR st (vw st a) (vw st b):=rfl
theorem fD(st l) (n:Nat):sR st (some (.lst l)) (some (.int n))=sQ (l[n]?) st:=rfl
theorem nJ(st d l):sR st (some (.tup (d::l))) (some (.int 0))=ok (.t d) st:=rfl
theorem gJ(st d e l):sR st (some (.tup (d::e::l))) (some (.int 1))=ok (.t e) st:=rfl
theorem Ho(st d l):sR st (some (.lst (d::l))) (some (.int 0))=ok (.t d) st:=rfl
theorem KS(st l k):sR st (some (.aK l)) (some (.str k))=sQ (cj k l) st:=rfl
theorem fE(st d):sQ (some d) st=ok (.t d) st:=rfl
theorem b7(C o x y g st):ev C (.bin o x y) g st=(ev C x g st).bind fun a st=>(ev C y g st).bind fun b st=>yV o st (vw st a) (vw st b):=rfl
theorem x6(st a b):yV .add st (some (.int a)) (some (.int b))=ok (.t (.int (a+b))) st:=rfl
theorem eK(st a b):yV .sub st (some (.int a)) (some (.int b))=ok (.t (.int (a-b))) st:=rfl
theorem e7(st a b) (h:b≠0):yV .mod st (some (.int a)) (some (.int b))=ok (.t (.int (a.fmod b))) st:=by
 show(match(if b=0 then none else some (a.fmod b)) with| some c=>ok (AV.t (.int c)) st|none=>none)=_
 rw[if_neg h]
theorem gB(st a b) (h:¬(b=0\/b.natAbs ≥ 1048576)):yV .fdiv st (some (.int a)) (some (.int b))=ok (.t (.int (a.fdiv b))) st:=by
 show(match(if b=0\/b.natAbs ≥ 1048576 then none else some (a.fdiv b)) with| some c=>ok (AV.t (.int c)) st|none=>none)=_
 rw[if_neg h]
theorem oU(C x g st):ev C (.neg x) g st=(ev C x g st).bind fun a st=>Js a st:=rfl
theorem oW(i st):Js (.t (.int i)) st=ok (.t (.int (-i))) st:=rfl
theorem cC(C l g st):ev C (.bi .len l) g st=(gg C l g st).bind fun as st=>(uV st as).bind fun ds st=>xd .len st ds:=rfl
theorem x7(C l g st):ev C (.bi .abs l) g st=(gg C l g st).bind fun as st=>(uV st as).bind fun ds st=>xd .abs st ds:=rfl
theorem D5(C l g st):ev C (.bi .max2 l) g st=(gg C l g st).bind fun as st=>(uV st as).bind fun ds st=>xd .max2 st ds:=rfl
theorem uq(C l g st):ev C (.bi .qz l) g st=(gg C l g st).bind fun as st=>(uV st as).bind fun ds st=>xd .qz st ds:=rfl
noncomputable def KU(o:Option PV) (st:aB):R (List PV):=match o with| some d=>ok [d] st|none=>none
theorem ef(st a):uV st [a]=KU (vw st a) st:=by
 show(match vw st a with| some d=>R.bind (uV st []) fun ds st=>ok (d::ds) st|none=>none)=_
 unfold KU
 cases vw st a<;>rfl
theorem cW(d st):KU (some d) st=ok [d] st:=rfl
theorem OZ(st d e):uV st [.t d,.t e]=ok [d,e] st:=rfl
theorem gj(l st):xd .len st [.lst l]=ok (.t (.int l.length)) st:=rfl
theorem Au(l st):xd .len st [.eT l]=ok (.t (.int l.length)) st:=rfl
theorem I6(i st):xd .abs st [.int i]=ok (.t (.int i.natAbs)) st:=rfl
theorem O0(a b st):xd .max2 st [.int a,.int b]=ok (.t (.int (max a b))) st:=rfl
noncomputable def O4(o:Option Bool) (st:aB):R Bool:=oB o fun r=>ok r st
theorem j6(C g st):A7 C none g st=ok true st:=rfl
theorem mG(C c g st):A7 C (some c) g st=(ev C c g st).bind fun b st=>O4 (cT st b) st:=rfl
theorem jk(b st):O4 (some b) st=ok b st:=rfl
theorem D6(st i k d):A8 st (.r i) k d=xm (st[i]?) st i k d:=rfl
theorem Hp(l st i n d):xm (some (.eT l)) st i (.int n) d=if l.length<2000 then some (st.set i (.eT (w7 n d l))) else Option.none:=rfl
theorem Hq(l st i x d):xm (some (.aK l)) st i (.str x) d=if x≠b9/\l.length<2000 then some (st.set i (.aK (putK x d l))) else Option.none:=rfl
theorem eB(C l g st):ev C (.tup l) g st=(gg C l g st).bind fun as st=>(fy st as).bind fun ds st=>ok (.t (.tup ds)) st:=rfl
theorem eE(C l g st):ev C (.list l) g st=(gg C l g st).bind fun as st=>(fy st as).bind fun ds st=>alloc st (.lst ds):=rfl
theorem bS(st nd):alloc st nd=ok (.r st.length) (st++[nd]):=rfl
noncomputable def UD(as:List AV) (st:aB):R AV:=one as fun a=>oB (A1 a) fun n=>Ua n st
theorem O5(n st):UD [.t (.int n)] st=if -2000<=n/\n<=2000 then alloc st (.lst (cH 0 n)) else Option.none:=rfl
theorem Hr(C l g st):ev C (.bi .dX l) g st=(gg C l g st).bind fun as st=>UD as st:=rfl
theorem wc(l:List PV):eqT (.lst l) (.lst [])=some (decide (l.length=0)):=by
 show tL l.length 0 _ _=_
 unfold tL
 by_cases h:l.length=0
 ·rw[if_pos h,if_pos h,decide_eq_true h]
 ·rw[if_neg h,decide_eq_false h]
theorem rR(st l):gh .ne st (some (.lst l)) (some (.lst []))=ok (.t (.bool (!decide (l.length=0)))) st:=by
 show jF ((eqT (.lst l) (.lst [])).map (!·)) st=_
 rw[wc];rfl
theorem nK(st l):gh .eq st (some (.lst l)) (some (.lst []))=ok (.t (.bool (decide (l.length=0)))) st:=by
 show jF (eqT (.lst l) (.lst [])) st=_
 rw[wc];rfl
theorem BL(C l g st):ev C (.bi .list l) g st=(gg C l g st).bind fun as st=>(uV st as).bind fun ds st=>xd .list st ds:=rfl
theorem KV(l st):xd .list st [.lst l]=alloc st (.lst l):=rfl
theorem BN(st b):gh .eq st (some .none) (some (.str b))=ok (.t (.bool false)) st:=rfl
theorem jl:(!true)=false:=rfl
theorem iC:(!false)=true:=rfl
theorem nL(C:fj):∀(a b:List S) (g:Gm) (st:aB),bO C (a++b) g st=mE (bO C a g st) C b
 |[],b,g,st=>rfl
 |s::a,b,g,st=>by
  rw[List.cons_append,ah,ah]
  cases h:ex C s g st with
  |none=>rfl
  |some o=>induction o with
   |next g' st'=>exact nL C a b g' st'
   |ret _ _=>rfl
   |cont _ _=>rfl
   |exc _ _=>rfl
theorem aN{C:fj}(n:Nat){l:List S}{g g':Gm}{st st':aB}{o:Option Out}(h1:bO C (l.take n) g st=some (.next g' st')) (h2:bO C (l.drop n) g' st'=o):bO C l g st=o:=by
 rw[<-List.take_append_drop n l,nL,h1]
 exact h2
theorem bE{C:fj}{s:S}{r:List S}{g g':Gm}{st st':aB}{o:Option Out}(h1:ex C s g st=some (.next g' st')) (h2:bO C r g' st'=o):bO C (s::r) g st=o:=by
 rw[ah,h1];exact h2
theorem bz{T:Nat->Fn}{k f:Nat}{ds:List PV}{g:Gm}{a:AV}{st st' dO:aB}{d:PV}(hr:(T f).ref=false) (hs:(T f).start (ds.map AV.t)=some g) (hb:bO (call T k) (T f).body g []=some (.ret a st'))
  (hf:i6 cR st' a=some (d,dO)):call T (k+1) f (ds.map AV.t) st=ok (.t d) st:=by
 have e:∀(ds:List PV) (st:aB),fy st (ds.map AV.t)=ok ds st:=by
  intro ds;induction ds with
  |nil=>intro st;rfl
  |cons d ds ih =>
   intro st
   show R.bind (ok d st) (fun d st=>(fy st (ds.map AV.t)).bind fun ds st=>ok (d::ds) st)=_
   rw[af,ih,af]
 show fq (call T k) (T f) (ds.map AV.t) st=_
 simp only[fq,hr,e,af,hs]
 show yX st (bO (call T k) (T f).body g [])=_
 rw[hb]
 show Jz st (i6 cR st' a)=_
 rw[hf]
 rfl
theorem fG{T:Nat->Fn}{k f:Nat}{ds:List PV}{g:Gm}{st st':aB}{m:Tx}(hr:(T f).ref=false) (hs:(T f).start (ds.map AV.t)=some g) (hb:bO (call T k) (T f).body g []=some (.exc m st')):call T (k+1) f (ds.map AV.t) st=some (.error (m,st)):=by
 have e:∀(ds:List PV) (st:aB),fy st (ds.map AV.t)=ok ds st:=by
  intro ds;induction ds with
  |nil=>intro st;rfl
  |cons d ds ih =>
   intro st
   show R.bind (ok d st) (fun d st=>(fy st (ds.map AV.t)).bind fun ds st=>ok (d::ds) st)=_
   rw[af,ih,af]
 show fq (call T k) (T f) (ds.map AV.t) st=_
 simp only[fq,hr,e,af,hs]
 show yX st (bO (call T k) (T f).body g [])=_
 rw[hb]
 rfl
theorem gU:∀(ds:List PV) (st:aB),fy st (ds.map AV.t)=ok ds st
 |[],st=>rfl
 |d::ds,st=>by
  show R.bind (ok d st) (fun d st=>(fy st (ds.map AV.t)).bind fun ds st=>ok (d::ds) st)=_
  rw[af,gU ds st,af]
theorem D7{T:Nat->Fn}{k f:Nat}{as:List AV}{ds:List PV}{st st':aB}(hr:(T f).ref=false) (h:fy st as=ok ds st'):call T (k+1) f as st=call T (k+1) f (ds.map AV.t) st':=by
 show fq (call T k) (T f) as st=fq (call T k) (T f) (ds.map AV.t) st'
 simp only[fq,hr,h,gU]
theorem dG{T:Nat->Fn}{k f:Nat}{l:List E}{g:Gm}{as:List AV}{ds:List PV}{st st1 st2:aB}{r:R AV}(h1:gg (call T (k+1)) l g st=ok as st1) (hr:(T f).ref=false) (h2:fy st1 as=ok ds st2) (h3:call T (k+1) f (ds.map AV.t) st2=r) :
  ev (call T (k+1)) (.call f l) g st=r:=by
 show R.bind (gg (call T (k+1)) l g st) _=r
 rw[h1,af,<-h3]
 exact D7 hr h2
def Turn(f:Gm->aB->Option Out) (n:Nat) (g:Gm) (st:aB) (g':Gm) (st':aB):Prop:=∃g1 st1,(f g st=some (.next g1 st1)\/f g st=some (.cont g1 st1))/\settle n g1 st1=some (g',st')
theorem ur{f:Gm->aB->Option Out}{x n:Nat}{d:PV}{ds:List PV}{g g':Gm}{st st':aB}(h:Turn f n (g.set x (some (.t d))) st g' st'):loop f x n (d::ds) g st=loop f x n ds g' st':=by
 obtain⟨g1,st1,h1|h1,h2⟩:=h<;>simp only[loop,h1,h2]
theorem uu{α:Type}{f:Gm->aB->Option Out}{x n:Nat}(enc:α->PV) (Inv:List α->Gm->aB->Prop) :
  ∀(items pre:List α) (g:Gm) (st:aB),Inv pre g st->(∀(p:List α) (a:α) (q:List α) (g:Gm) (st:aB),pre++items=p++a::q->Inv p g st->∃g' st',Turn f n (g.set x (some (.t (enc a)))) st g' st'/\Inv (p++[a]) g' st') ->
   ∃g' st',loop f x n (items.map enc) g st=some (g',st')/\Inv (pre++items) g' st'
 |[],pre,g,st,h,_=>⟨g,st,rfl,by rw[List.append_nil];exact h⟩
 |a::r,pre,g,st,h,hs=>by
  obtain⟨g1,st1,t,i⟩:=hs pre a r g st rfl h
  have e:pre++a::r=(pre++[a])++r:=by rw[List.append_assoc];rfl
  obtain⟨g2,st2,t2,i2⟩:=uu enc Inv r (pre++[a]) g1 st1 i (by rw[<-e];exact hs)
  exact⟨g2,st2,by rw[List.map_cons,ur t];exact t2,by rw[e];exact i2⟩
theorem dH{α:Type}{f:Gm->aB->Option Out}{x n:Nat}(enc:α->PV) (Inv:List α->Gm->aB->Prop) (items:List α) (g:Gm) (st:aB) (h0:Inv [] g st)
  (hs:∀(p:List α) (a:α) (q:List α) (g:Gm) (st:aB),items=p++a::q->Inv p g st->∃g' st',Turn f n (g.set x (some (.t (enc a)))) st g' st'/\Inv (p++[a]) g' st') :
  ∃g' st',loop f x n (items.map enc) g st=some (g',st')/\Inv items g' st':=uu enc Inv items [] g st h0 hs
theorem x8{k:Kv}{g:Gm}{st st1 st2:aB}{a:AV}{d:PV}{items:List PV}(h1:k g st=ok a st1) (h2:eU st1 a=ok d st2) (h3:mj d=some items):k1 m8 k g st=ok items st2:=by
 show R.bind (k g st) _=_
 rw[h1,af]
 show R.bind (eU st1 a) _=_
 rw[h2,af,h3];rfl
theorem we{k:Gm->aB->R (List AV)}{g:Gm}{st st1:aB}{as:List AV}{items:List PV}(h1:k g st=ok as st1) (h3:sM as=some items):kN qD k g st=ok items st1:=by
 show R.bind (k g st) _=_
 rw[h1,af]
 show oB (sM as) _=_
 rw[h3];rfl
theorem eL{C:fj}{x:Nat}{src:E}{body:List S}{g g':Gm}{st st1 st2 st':aB}{a:AV}{d:PV}{items:List PV}(h1:ev C src g st=ok a st1) (h2:eU st1 a=ok d st2) (h3:mj d=some items)
  (h4:loop (bO C body) x st2.length items g st2=some (g',st')):ex C (.gk x src body) g st=some (.next g' st'):=by
 have e:k1 m8 (ev C src) g st=ok items st2:=x8 h1 h2 h3
 show R.out (k1 m8 (ev C src) g st) _=_
 rw[e,aF,h4];rfl
theorem kU{C:fj}{x:Nat}{src:List E}{body:List S}{g g':Gm}{st st1 st':aB}{as:List AV}{items:List PV}(h1:gg C src g st=ok as st1) (h3:sM as=some items)
  (h4:loop (bO C body) x st1.length items g st1=some (g',st')):ex C (.forR x src body) g st=some (.next g' st'):=by
 have e:kN qD (gg C src) g st=ok items st1:=we h1 h3
 show R.out (kN qD (gg C src) g st) _=_
 rw[e,aF,h4];rfl
theorem jy{α:Type}{f:PV->aB->R (Option PV)}{st:aB}(enc:α->PV) (φ:α->Option PV):∀(items:List α),(∀d∈items,∃st',f (enc d) st=some (.ok (φ d,st'))/\back st.length st'=some st)->turns f (items.map enc) st=ok (items.filterMap φ) st
 |[],_=>rfl
 |d::ds,h=>by
  obtain⟨st',h1,h2⟩:=h d (.head _)
  have ih:=jy enc φ ds fun e he=>h e (.tail _ he)
  simp only[List.map_cons,turns,h1,h2,ih,af]
  cases h3:φ d with
  |none=>rw[List.filterMap_cons_none h3]
  |some e=>rw[List.filterMap_cons_some h3]
theorem lQ{α:Type}{f:PV->aB->R (Option PV)}{st:aB}(enc φ:α->PV) (items:List α) (h:∀d∈items,∃st',f (enc d) st=some (.ok (some (φ d),st'))/\back st.length st'=some st):turns f (items.map enc) st=ok (items.map φ) st:=by
 rw[jy enc (fun a=>some (φ a)) items h]
 rw[show(fun a=>some (φ a))=some ∘ φ from rfl,List.filterMap_eq_map]
noncomputable def dJ(C:fj) (x:Nat) (c:Option E) (e:E) (g:Gm):PV->aB->R (Option PV):=fun d st=>(A7 C c (g.set x (some (.t d))) st).bind fun b st=>if b then(ev C e (g.set x (some (.t d))) st).bind fun a st=>(eU st a).bind fun d st=>ok (some d) st else ok Option.none st
theorem dR{C:fj}{x:Nat}{src:E}{c:Option E}{e:E}{g:Gm}{st st1 st2:aB}{a:AV}{d:PV}{items l:List PV}(h1:ev C src g st=ok a st1) (h2:eU st1 a=ok d st2) (h3:mj d=some items) (h4:turns (dJ C x c e g) items st2=ok l st2) :
  ev C (.comp x src c e) g st=alloc st2 (.lst l):=by
 have q:k1 m8 (ev C src) g st=ok items st2:=x8 h1 h2 h3
 show R.bind (k1 m8 (ev C src) g st) _=_
 rw[q,af]
 show R.bind (turns (dJ C x c e g) items st2) _=_
 rw[h4,af]
theorem pQ{C:fj}{x:Nat}{src:List E}{c:Option E}{e:E}{g:Gm}{st st1:aB}{as:List AV}{items l:List PV}(h1:gg C src g st=ok as st1) (h3:sM as=some items) (h4:turns (dJ C x c e g) items st1=ok l st1) :
  ev C (.cM x src c e) g st=alloc st1 (.lst l):=by
 have q:kN qD (gg C src) g st=ok items st1:=we h1 h3
 show R.bind (kN qD (gg C src) g st) _=_
 rw[q,af]
 show R.bind (turns (dJ C x c e g) items st1) _=_
 rw[h4,af]
theorem x9(n:Nat):cH 0 n=(List.range n).map fun(k:Nat)=>PV.int k:=by
 unfold cH
 rw[Int.sub_zero,Int.toNat_natCast]
 exact List.map_congr_left fun k _=>by rw[Int.zero_add]
theorem nM{n:Nat}(h:n<=2000):sM [.t (.int n)]=some ((List.range n).map fun(k:Nat)=>PV.int k):=by
 show(if -2000<=(n:Int)/\(n:Int)<=2000 then some (cH 0 n) else none)=_
 rw[if_pos ⟨by omega,by omega⟩,x9]
noncomputable def vec(k:Tx) (l:List PV) (at_:PV):PV:=.inst .aQ [(aj,.str k),(ai,.lst l),(az,at_),(aX,.bool false)]
noncomputable def cU:PV:=.inst .null [(aj,.str bq),(az,.none)]
noncomputable def pR:PV:=.inst .missing [(aj,.str bF),(az,.none)]
noncomputable def SJ(n:Tx):PV:=.inst .symbol [(aj,.str cS),(ig,.str n),(az,.none)]
noncomputable def bA(l tags:List PV):PV:=.inst .call [(aj,.str aI),(ai,.lst l),(b6,.lst tags),(az,.none),(jJ,.none)]
noncomputable def bodyOf(l:List S) (i:Nat):List S:=match l[i]? with
 |some (.gk _ _ b)=>b
 |some (.forR _ _ b)=>b
 |_=>[]
noncomputable def cF:Option Nat->PV
 |none=>.none
 |some i=>.int i
theorem j7:cF none=.none:=rfl
theorem j8(i:Nat):cF (some i)=.int i:=rfl
noncomputable def iZ:Option Int->PV
 |none=>.none
 |some i=>.int i
theorem qa:iZ none=.none:=rfl
theorem lX(i:Int):iZ (some i)=.int i:=rfl
noncomputable def aD:Option Tx->PV
 |none=>.none
 |some s=>.str s
theorem rS:aD none=.none:=rfl
theorem jz(i:Tx):aD (some i)=.str i:=rfl
theorem fY(k l a st):uU st (.t (vec k l a)) ai=ok (.t (.lst l)) st:=rfl
theorem wg(k l a st):uU st (.t (vec k l a)) aj=ok (.t (.str k)) st:=rfl
theorem O6{α:Type}(a b:α):(if false=true then a else b)=b:=rfl
theorem ya(l a st):uU st (.t (bA l a)) ai=ok (.t (.lst l)) st:=rfl
theorem qt(l a st):uU st (.t (bA l a)) b6=ok (.t (.lst a)) st:=rfl
noncomputable def aT(l:List PV) (lk:PV) (p:Option Nat):PV:=match p.bind (l[·]?) with
 |none=>lk
 |some d=>d
theorem zB(l lk):aT l lk none=lk:=rfl
theorem rT(l lk){i:Nat}(h:l.length<=i):aT l lk (some i)=lk:=by
 show(match l[i]? with| none=>lk|some d=>d)=lk
 rw[List.getElem?_eq_none h]
theorem wh(l lk){i:Nat}(h:i<l.length):aT l lk (some i)=l[i]:=by
 show(match l[i]? with| none=>lk|some d=>d)=l[i]
 rw[List.getElem?_eq_getElem h]
theorem bL{p:Prop} [Decidable p] (h:¬p):decide p=false:=decide_eq_false h
theorem dD{p:Prop} [Decidable p] (h:p):decide p=true:=decide_eq_true h
theorem cY{α:Sort _}{p:Prop} [Decidable p] {a b:α}(h:p):(if p then a else b)=a:=if_pos h
theorem lY{α:Sort _}{p:Prop} [Decidable p] {a b:α}(h:¬p):(if p then a else b)=b:=if_neg h
theorem KW:bodyOf (T 35).body 2=[.ifs (.or [(.cmp .is (.var 4) .none),(.cmp .ge (.var 4) (.var 3))]) [.expr (.b4 .append (.var 2) [(.call 32 [(.attr (.var 0) aj)])])] [.expr (.b4 .append (.var 2) [(.sub (.attr (.var 0) ai) (.var 4))])]]:=rfl
theorem KX(C:fj) (kd:Tx) (l:List PV) (a lk ps:PV) (hC:∀st,C 32 [.t (.str kd)] st=ok (.t lk) st) (found:List PV) (hf:found.length<2000) (p:Option Nat) :
 bO C (bodyOf (T 35).body 2) [some (.t (vec kd l a)),some (.t ps),some (.r 0),some (.t (.int l.length)),some (.t (cF p))] [.lst found]
  = some (.next [some (.t (vec kd l a)),some (.t ps),some (.r 0),some (.t (.int l.length)),some (.t (cF p))] [.lst (found++[aT l lk p])]):=by
 rw[KW]
 induction p with
 |none=>simp only[af,aF,aS,aM,bx,ah,aL,au,av,ay,aH,cQ,aG,aV,cP,bX,bk,isNone_none,ak,dz,dB,j5,aA,aq,br,bu,aU,aZ,cL,bf,bV,bW,wg,List.getElem?_cons_zero,List.getElem?_cons_succ,List.set_cons_zero,j7,cY hf,hC,zB]
 |some i=>
  by_cases h:l.length<=i
  ·simp only[af,aF,aS,aM,bx,ah,aL,au,av,ay,aH,cQ,aG,aV,cP,bX,bk,eu,bN,ak,dz,fu,dB,eZ,aA,aq,br,bu,aU,aZ,cL,bf,bV,bW,wg,List.getElem?_cons_zero,List.getElem?_cons_succ,List.set_cons_zero,j8,cY hf,hC,rT l lk h,Int.ofNat_le,dD h]
  ·simp only[af,aF,bD,aM,bx,ah,aL,au,av,ay,aH,cQ,aG,aV,cP,bX,bk,eu,bN,ak,dz,fu,dB,eZ,aA,aq,br,bu,aU,aZ,cL,bf,bV,bR,fD,fE,fY,List.getElem?_cons_zero,List.getElem?_cons_succ,List.set_cons_zero,j8,cY hf,wh l lk (Nat.lt_of_not_le h),Int.ofNat_le,bL h,List.getElem?_eq_getElem (Nat.lt_of_not_le h)]
theorem nN(k:Nat) (kd:Tx) (l:List PV) (a lk:PV) (hk:∀st,call T (k+1) 32 [.t (.str kd)] st=ok (.t lk) st) (ps:List (Option Nat)) (R2:ps.length<2000) (st:aB) :
  call T (k+2) 35 [.t (vec kd l a),.t (.lst (ps.map cF))] st=ok (.t (.lst (ps.map (aT l lk)))) st:=by
 obtain⟨g',st',h1,x,rfl,rfl⟩:=dH (f:=bO (call T (k+1)) (bodyOf (T 35).body 2)) (x:=4) (n:=1) cF
  (fun pre g st=>∃x,g=[some (.t (vec kd l a)),some (.t (.lst (ps.map cF))),some (.r 0),some (.t (.int l.length)),x]/\st=[.lst (pre.map (aT l lk))])
  ps [some (.t (vec kd l a)),some (.t (.lst (ps.map cF))),some (.r 0),some (.t (.int l.length)),none] [.lst []] ⟨_,rfl,rfl⟩ (by
   rintro p b q g st e ⟨x,rfl,rfl⟩
   refine⟨_,_,⟨_,_,.inl (KX _ kd l a lk _ hk _ ?_ b),rfl⟩,_,rfl,?_⟩
   ·have:=congrArg List.length e;simp at this ⊢;omega
   ·rw[List.map_append];rfl)
 refine bz (ds:=[vec kd l a,.lst (ps.map cF)]) rfl rfl (aN 2 (g':=[some (.t (vec kd l a)),some (.t (.lst (ps.map cF))),some (.r 0),some (.t (.int l.length)),none]) (st':=[.lst []]) rfl (bE (eL rfl rfl rfl h1) rfl)) rfl
theorem BO(k:Nat) (st:aB):call T (k+2) 32 [.t (.str aE)] st=ok (.t cU) st:=rfl
theorem s6(k:Nat) (st:aB):call T (k+2) 32 [.t (.str bH)] st=ok (.t cU) st:=rfl
theorem nO(k:Nat) (st:aB):call T (k+2) 32 [.t (.str aa)] st=ok (.t .none) st:=rfl
theorem KY:bodyOf (T 36).body 1=[.ifs (.or [(.cmp .is (.var 3) .none),(.cmp .ge (.var 3) (.bi .len [(.var 0)]))]) [.expr (.b4 .append (.var 2) [(.str eH)])] [.expr (.b4 .append (.var 2) [(.sub (.var 0) (.var 3))])]]:=rfl
theorem KZ(C:fj) (l:List PV) (ps:PV) (found:List PV) (hf:found.length<2000) (p:Option Nat) :
 bO C (bodyOf (T 36).body 1) [some (.t (.lst l)),some (.t ps),some (.r 0),some (.t (cF p))] [.lst found]
  = some (.next [some (.t (.lst l)),some (.t ps),some (.r 0),some (.t (cF p))] [.lst (found++[aT l (.str eH) p])]):=by
 rw[KY]
 induction p with
 |none=>simp only[af,aF,aS,aM,bx,ah,aL,au,av,ay,aH,bI,aG,aV,cP,bX,bk,isNone_none,ak,dz,dB,j5,aA,aq,br,bu,aU,aZ,cL,bf,bV,List.getElem?_cons_zero,List.getElem?_cons_succ,List.set_cons_zero,j7,cY hf,zB]
 |some i=>
  by_cases h:l.length<=i
  ·simp only[af,aF,aS,aM,bx,ah,aL,au,av,ay,aH,bI,aG,aV,cP,bX,bk,eu,bN,ak,dz,fu,dB,eZ,aA,aq,br,bu,aU,aZ,cL,bf,bV,cC,ef,cW,gj,List.getElem?_cons_zero,List.getElem?_cons_succ,List.set_cons_zero,j8,cY hf,rT l (.str eH) h,Int.ofNat_le,dD h]
  ·simp only[af,aF,bD,aM,bx,ah,aL,au,av,ay,aH,aG,aV,cP,bX,bk,eu,bN,ak,dz,fu,dB,eZ,aA,aq,br,bu,aU,aZ,cL,bf,bV,bR,fD,fE,cC,ef,cW,gj,List.getElem?_cons_zero,List.getElem?_cons_succ,List.set_cons_zero,j8,cY hf,wh l (.str eH) (Nat.lt_of_not_le h),Int.ofNat_le,bL h,List.getElem?_eq_getElem (Nat.lt_of_not_le h)]
theorem yb(k:Nat) (l:List PV) (ps:List (Option Nat)) (R2:ps.length<2000) (st:aB) :
  call T (k+1) 36 [.t (.lst l),.t (.lst (ps.map cF))] st=ok (.t (.lst (ps.map (aT l (.str eH))))) st:=by
 obtain⟨g',st',h1,x,rfl,rfl⟩:=dH (f:=bO (call T k) (bodyOf (T 36).body 1)) (x:=3) (n:=1) cF
  (fun pre g st=>∃x,g=[some (.t (.lst l)),some (.t (.lst (ps.map cF))),some (.r 0),x]/\st=[.lst (pre.map (aT l (.str eH)))])
  ps [some (.t (.lst l)),some (.t (.lst (ps.map cF))),some (.r 0),none] [.lst []] ⟨_,rfl,rfl⟩ (by
   rintro p b q g st e ⟨x,rfl,rfl⟩
   refine⟨_,_,⟨_,_,.inl (KZ _ l _ _ ?_ b),rfl⟩,_,rfl,?_⟩
   ·have:=congrArg List.length e;simp at this ⊢;omega
   ·rw[List.map_append];rfl)
 exact bz (ds:=[.lst l,.lst (ps.map cF)]) rfl rfl (aN 1 (g':=[some (.t (.lst l)),some (.t (.lst (ps.map cF))),some (.r 0),none]) (st':=[.lst []]) rfl (bE (eL rfl rfl rfl h1) rfl)) rfl
noncomputable def fM:Option (Int×Int)->PV
 |none=>.none
 |some (a,b)=>.tup [.int a,.int b]
noncomputable def cutD(a b:Int):Int:=if 0<=a then(a.natAbs:Int).fdiv b else 0-(a.natAbs:Int).fdiv b
noncomputable def iD:Option (Int×Int)->Option Int
 |none=>none
 |some (a,b)=>if b=0 then none else some (cutD a b)
noncomputable def Ft:Option (Int×Int)->Prop
 |none=>True
 |some (_,b)=>0<=b/\b<1048576
theorem K0:(T 20).body=[.ifs (.not (.call 19 [(.var 0)])) [.bad] [],.assign 1 (.bin .fdiv (.bi .abs [(.sub (.var 0) (.int 0))]) (.sub (.var 0) (.int 1))),.ret (.ite (.cmp .ge (.sub (.var 0) (.int 0)) (.int 0)) (.var 1) (.bin .sub (.int 0) (.var 1)))]:=rfl
theorem uv(k:Nat) (a b:Int) (hb:0<b) (st:aB):call T (k+1) 19 [.t (.tup [.int a,.int b])] st=ok (.t (.bool true)) st:=by
 refine bz (ds:=[.tup [.int a,.int b]]) (a:=.t (.bool true)) (st':=[]) rfl rfl ?_ rfl
 show bO _ [.ret (.and [(.cmp .ee (.var 0) .none),(.cmp .gt (.sub (.var 0) (.int 1)) (.int 0))])] [some (.t (.tup [.int a,.int b]))] []=some (.ret _ [])
 simp only[af,aF,aW,ah,bB,av,ay,aH,bg,aG,aV,cu,dW,eY,ak,dh,eN,dj,ez,bR,gJ,iC,List.getElem?_cons_zero,dD hb]
theorem D9(k:Nat) (a b:Int) (hb:0<b) (YW:b<1048576) (st:aB):call T (k+2) 20 [.t (.tup [.int a,.int b])] st=ok (.t (.int (cutD a b))) st:=by
 refine bz (ds:=[.tup [.int a,.int b]]) (a:=.t (.int (cutD a b))) (st':=[]) rfl rfl ?_ rfl
 rw[K0]
 show bO _ _ [some (.t (.tup [.int a,.int b])),none] []=_
 have h2:¬(b=0\/b.natAbs ≥ 1048576):=by omega
 unfold cutD
 by_cases h:0<=a
 ·simp only[af,aF,bD,aM,aC,aW,ah,aL,au,bB,av,ay,bg,aG,aV,eu,ak,cK,fW,kR,kT,aA,aq,bW,bR,nJ,gJ,b7,x7,ef,cW,I6,jl,List.getElem?_cons_zero,List.getElem?_cons_succ,List.set_cons_zero,List.set_cons_succ,uv k a b hb,gB _ _ _ h2,dD h,cY h]
 ·simp only[af,aF,bD,aM,aC,aW,ah,aL,au,bB,av,ay,bg,aG,aV,eu,ak,cK,fX,kR,kT,aA,aq,bW,bR,nJ,gJ,b7,eK,x7,ef,cW,I6,jl,List.getElem?_cons_zero,List.getElem?_cons_succ,List.set_cons_zero,List.set_cons_succ,uv k a b hb,gB _ _ _ h2,bL h,lY h]
theorem K1:bodyOf (T 21).body 2=[.ifs (.or [(.cmp .is (.var 2) .none),(.cmp .eq (.sub (.var 2) (.int 1)) (.int 0))]) [.expr (.b4 .append (.var 1) [.none])] [.expr (.b4 .append (.var 1) [(.call 20 [(.var 2)])])]]:=rfl
theorem K2(k:Nat) (v:AV) (found:List PV) (hf:found.length<2000) (p:Option (Int×Int)) (hp:Ft p) :
 bO (call T (k+2)) (bodyOf (T 21).body 2) [some v,some (.r 0),some (.t (fM p))] [.lst found]
  = some (.next [some v,some (.r 0),some (.t (fM p))] [.lst (found++[iZ (iD p)])]):=by
 rw[K1]
 match p,hp with
 |none,_=>simp only[af,aF,aS,aM,bx,ah,aL,au,av,ay,aH,aG,aV,cP,bX,bk,isNone_none,ak,dz,dB,j5,aA,aq,br,bu,aU,aZ,cL,bf,bV,List.getElem?_cons_zero,List.getElem?_cons_succ,List.set_cons_zero,qa,cY hf,fM,iD]
 |some (a,b),hp =>
  by_cases h:b=0
  ·subst h;simp only[af,aF,aS,aM,bx,ah,aL,au,av,ay,aH,bg,aG,aV,cP,bX,bk,cJ,eY,ak,dz,fu,dB,eZ,aA,aq,br,bu,aU,aZ,cL,bf,bV,bR,gJ,List.getElem?_cons_zero,List.getElem?_cons_succ,List.set_cons_zero,qa,if_true,decide_true,cY hf,fM,iD]
  ·have h1:0<b:=by have:=hp.1;omega
   simp only[af,aF,bD,aM,bx,ah,aL,au,av,ay,aH,bg,aG,aV,cP,bX,bk,cJ,eY,ak,dz,fu,dB,eZ,aA,aq,br,bu,aU,aZ,cL,bf,bV,bW,bR,gJ,List.getElem?_cons_zero,List.getElem?_cons_succ,List.set_cons_zero,lX,cY hf,fM,iD,bL h,lY h,D9 k a b h1 hp.2]
theorem wj(k:Nat) (l:List (Option (Int×Int))) (a:PV) (hl:l.length<2000) (hd:∀p∈l,Ft p) (st:aB) :
  call T (k+3) 21 [.t (vec aY (l.map fM) a)] st=ok (.t (.lst (l.map fun p=>iZ (iD p)))) st:=by
 obtain⟨g',st',h1,x,rfl,rfl⟩:=dH (f:=bO (call T (k+2)) (bodyOf (T 21).body 2)) (x:=2) (n:=1) fM
  (fun pre g st=>∃x,g=[some (.t (vec aY (l.map fM) a)),some (.r 0),x]/\st=[.lst (pre.map (fun p=>iZ (iD p)))])
  l [some (.t (vec aY (l.map fM) a)),some (.r 0),none] [.lst []] ⟨_,rfl,rfl⟩ (by
   rintro p b q g st e ⟨x,rfl,rfl⟩
   refine⟨_,_,⟨_,_,.inl (K2 _ _ _ ?_ b (hd b ?_)),rfl⟩,_,rfl,?_⟩
   ·have:=congrArg List.length e;simp at this ⊢;omega
   ·rw[e];simp
   ·rw[List.map_append];rfl)
 exact bz (ds:=[vec aY (l.map fM) a]) rfl rfl (aN 2 (g':=[some (.t (vec aY (l.map fM) a)),some (.r 0),none]) (st':=[.lst []]) rfl (bE (eL rfl rfl rfl h1) rfl)) rfl
theorem jm(k:Nat) (l:List PV) (a:PV) (st:aB):call T (k+3) 21 [.t (vec aa l a)] st=ok (.t (.lst l)) st:=rfl
noncomputable def rU:Option Int->Option (Option Nat)
 |none=>some none
 |some i=>if 0<i then some (some (i-1).toNat) else none
noncomputable def posOf(l:List (Option Int)):List (Option Nat):=l.filterMap rU
noncomputable def qb(D:List (Int×PV)):Option Int->List (Int×PV)
 |none=>D
 |some i=>if i<0 then w7 (-i-1) (.bool true) D else D
noncomputable def jM(l:List (Option Int)):List (Int×PV):=l.foldl qb []
noncomputable def iT:Option Int->Bool
 |none=>false
 |some i=>decide (i<0)
noncomputable def iu(l:List (Option Int)):Bool:=l.any iT
noncomputable def dP(l:List (Option Int)):Bool:=l.any Option.isNone
theorem zC{α:Type}(k k':Int) (v:α):∀(l:List (Int×α)),(gK k (w7 k' v l)).isSome=(decide (k'=k)||(gK k l).isSome):=by
 have h1:∀(l:List (Int×α)),(gK k (l.map (fun p=>if p.1=k' then(p.1,v) else p))).isSome=(gK k l).isSome:=by
  intro l;induction l with
  |nil=>rfl
  |cons p r ih =>
   simp only[List.map_cons,gK]
   by_cases h:p.1=k'
   ·rw[if_pos h];by_cases h2:p.1=k<;>simp[h2,ih]
   ·rw[if_neg h];by_cases h2:p.1=k<;>simp[h2,ih]
 have h2:∀(l:List (Int×α)),(gK k (l++[(k',v)])).isSome=(decide (k'=k)||(gK k l).isSome):=by
  intro l;induction l with
  |nil=>simp only[List.nil_append,gK];by_cases h:k'=k<;>simp[h]
  |cons p r ih=>simp only[List.cons_append,gK];by_cases h:p.1=k<;>simp[h,ih]
 have h3:∀(l:List (Int×α)),l.any (fun p=>decide (p.1=k'))=true->k'=k->(gK k l).isSome=true:=by
  intro l;induction l with
  |nil=>intro h;injection h
  |cons p r ih =>
   intro h e;simp only[gK]
   by_cases h2:p.1=k
   ·simp[h2]
   ·rw[if_neg h2];refine ih ?_ e;simpa [e,h2] using h
 intro l
 unfold w7
 by_cases h:l.any (fun p=>decide (p.1=k'))=true
 ·rw[if_pos h,h1]
  by_cases e:k'=k
  ·rw[h3 l h e];simp
  ·simp[e]
 ·rw[if_neg h,h2]
theorem yc{α:Type}(k:Int) (v:α) (l:List (Int×α)):(w7 k v l).length<=l.length+1/\0<(w7 k v l).length:=by
 unfold w7
 by_cases h:l.any (fun p=>decide (p.1=k))=true
 ·rw[if_pos h];induction l with
  |nil=>injection h
  |cons=>simp
 ·rw[if_neg h];simp
theorem lR(l:List (Option Int)) (a:Option Int):jM (l++[a])=qb (jM l) a:=by
 unfold jM;rw[List.foldl_append];rfl
theorem snoc_ind{α:Type}{P:List α->Prop}(h0:P []) (hs:∀l a,P l->P (l++[a])) (l:List α):P l:=by
 have:∀(r:List α),P r.reverse:=by
  intro r;induction r with
  |nil=>exact h0
  |cons a r ih=>rw[List.reverse_cons];exact hs _ _ ih
 have h:=this l.reverse
 rwa [List.reverse_reverse] at h
theorem Ea(l:List (Option Int)):(jM l).length<=l.length:=by
 induction l using snoc_ind with
 |h0=>exact Nat.le_refl _
 |hs l a ih =>
  rw[lR,List.length_append]
  induction a with
  |none=>simp[qb];omega
  |some i =>
   simp only[qb]
   by_cases h:i<0
   ·rw[if_pos h];have:=(yc (-i-1) (.bool true) (jM l)).1;simp;omega
   ·rw[if_neg h];simp;omega
theorem yd(l:List (Option Int)):(jM l).length=0↔iu l=false:=by
 induction l using snoc_ind with
 |h0=>exact⟨fun _=>rfl,fun _=>rfl⟩
 |hs l a ih =>
  rw[lR,iu,List.any_append]
  rw[iu] at ih
  induction a with
  |none=>simp only[qb,List.any_cons,List.any_nil,iT,Bool.or_false];exact ih
  |some i =>
   simp only[qb,List.any_cons,List.any_nil,iT,Bool.or_false]
   by_cases h:i<0
   ·rw[if_pos h];have:=(yc (-i-1) (.bool true) (jM l)).2
    rw[decide_eq_true h,Bool.or_true]
    exact⟨fun e=>by omega,fun e=>by injection e⟩
   ·rw[if_neg h,decide_eq_false h,Bool.or_false];exact ih
theorem uw(l:List (Option Int)) (k:Nat):(gK (k:Int) (jM l)).isSome=decide (some (-(k:Int)-1)∈l):=by
 induction l using snoc_ind with
 |h0=>rfl
 |hs l a ih =>
  rw[lR]
  induction a with
  |none=>simp only[qb];rw[ih];simp
  |some i =>
   simp only[qb]
   by_cases h:i<0
   ·rw[if_pos h,zC,ih]
    have e1:(-i-1=(k:Int))↔(-(k:Int)-1=i):=by omega
    simp only[List.mem_append,List.mem_singleton,Option.some.injEq,Bool.decide_or,e1]
    exact Bool.or_comm _ _
   ·rw[if_neg h,ih]
    have e1:¬(-(k:Int)-1=i):=by omega
    simp only[List.mem_append,List.mem_singleton,Option.some.injEq,e1,or_false]
theorem K3:bodyOf (T 23).body 3=[.ifs (.cmp .is (.var 5) .none) [.assign 4 (.bool true),.expr (.b4 .append (.var 2) [.none])] [.ifs (.cmp .gt (.var 5) (.int 0)) [.expr (.b4 .append (.var 2) [(.bin .sub (.var 5) (.int 1))])] [.ifs (.cmp .lt (.var 5) (.int 0)) [.dN (.var 3) (.bin .sub (.neg (.var 5)) (.int 1)) (.bool true)] []]]]:=rfl
theorem zD(l:List (Option Int)) (a:Option Int):posOf (l++[a])=posOf l++(rU a).toList:=by
 unfold posOf;rw[List.filterMap_append]
 cases h:rU a with
 |none=>rw[List.filterMap_cons_none h];rfl
 |some b=>rw[List.filterMap_cons_some h];rfl
theorem ux(l:List (Option Int)):(posOf l).length<=l.length:=List.length_filterMap_le _ _
theorem wk(l:List (Option Int)) (a:Option Int):dP (l++[a])=(dP l||a.isNone):=by
 unfold dP;rw[List.any_append];simp
theorem K4(C:fj) (v n:AV) (pre:List (Option Int)) (hf:pre.length<2000) (p:Option Int) :
 bO C (bodyOf (T 23).body 3) [some v,some n,some (.r 0),some (.r 1),some (.t (.bool (dP pre))),some (.t (iZ p)),none] [.lst ((posOf pre).map cF),.eT (jM pre)]
  = some (.next [some v,some n,some (.r 0),some (.r 1),some (.t (.bool (dP (pre++[p])))),some (.t (iZ p)),none] [.lst ((posOf (pre++[p])).map cF),.eT (jM (pre++[p]))]):=by
 rw[K3,wk,zD,lR,List.map_append]
 have h1:(posOf pre).length<2000:=Nat.lt_of_le_of_lt (ux pre) hf
 have h2:(jM pre).length<2000:=Nat.lt_of_le_of_lt (Ea pre) hf
 match p with
 |none=>simp only[af,aF,aS,aM,bx,aC,ah,aL,au,av,ay,aH,v9,aG,aV,cP,bX,bk,isNone_none,ak,aA,aq,br,bu,aU,aZ,cL,bf,bV,List.getElem?_cons_zero,List.getElem?_cons_succ,List.set_cons_zero,List.set_cons_succ,j7,qa,List.length_map,cY h1,rU,qb,Option.toList,List.map_cons,List.map_nil,Option.isNone,Bool.or_true]
 |some i =>
  by_cases h:0<i
  ·have h3:¬i<0:=by omega
   have h4:((i-1).toNat:Int)=i-1:=Int.toNat_of_nonneg (by omega)
   simp only[af,aF,aS,bD,aM,bx,ah,aL,au,av,ay,aH,bg,aG,aV,cP,bX,bk,dW,bN,ak,aA,aq,br,bu,aU,aZ,cL,bf,bV,b7,eK,List.getElem?_cons_zero,List.getElem?_cons_succ,List.set_cons_zero,j8,lX,List.length_map,cY h1,rU,qb,Option.toList,List.map_cons,List.map_nil,Option.isNone,Bool.or_false,dD h,cY h,lY h3,h4]
  ·by_cases h3:i<0
   ·simp only[af,aF,aS,bD,aM,rQ,Aq,As,ah,aL,au,av,ay,aH,bg,v9,aG,aV,bk,dW,fV,bN,ak,dF,b7,eK,oU,oW,D6,Hp,List.getElem?_cons_zero,List.getElem?_cons_succ,List.set_cons_zero,List.set_cons_succ,lX,cY h2,rU,qb,Option.toList,List.map_nil,Option.isNone,Bool.or_false,bL h,lY h,cY h3,dD h3,List.append_nil]
   ·simp only[af,aF,bD,aM,ah,aL,au,av,ay,aH,bg,aG,aV,bk,dW,fV,bN,ak,List.getElem?_cons_zero,List.getElem?_cons_succ,lX,rU,qb,Option.toList,List.map_nil,Option.isNone,Bool.or_false,bL h,lY h,lY h3,bL h3,List.append_nil]
noncomputable def gD(l:List (Option Int)) (n:Nat):List (Option Nat):=(List.range n).filterMap fun(k:Nat)=>if some (-(k:Int)-1)∈l then none else some (some k)
noncomputable def cD(l:List (Option Int)) (n:Nat):Except Tx (List (Option Nat)) :=
 if iu l=false then .ok (posOf l) else if dP l=true then .error bZ else if 0<(posOf l).length then .error b3 else .ok (gD l n)
noncomputable def Eb:Except Tx (List (Option Nat))->aB->R AV
 |.ok pl,st=>ok (.t (.lst (pl.map cF))) st
 |.error m,st=>some (.error (m,st))
theorem nP(k:Nat) (l:List (Option Int)) (n:Nat) (hl:l.length<2000) (hn:n<=2000) (st:aB):call T (k+1) 23 [.t (.lst (l.map iZ)),.t (.int n)] st=Eb (cD l n) st:=by
 obtain⟨g',st',h1,x,rfl,rfl⟩:=dH (f:=bO (call T k) (bodyOf (T 23).body 3)) (x:=5) (n:=2) iZ
  (fun pre g st=>∃x,g=[some (.t (.lst (l.map iZ))),some (.t (.int n)),some (.r 0),some (.r 1),some (.t (.bool (dP pre))),x,none]/\st=[.lst ((posOf pre).map cF),.eT (jM pre)])
  l [some (.t (.lst (l.map iZ))),some (.t (.int n)),some (.r 0),some (.r 1),some (.t (.bool false)),none,none] [.lst [],.eT []] ⟨_,rfl,rfl⟩ (by
   rintro p b q g st e ⟨x,rfl,rfl⟩
   refine⟨_,_,⟨_,_,.inl (K4 _ _ _ _ ?_ b),rfl⟩,_,rfl,rfl⟩
   have:=congrArg List.length e;simp at this ⊢;omega)
 have pre:=fun{o:Option Out} h2=>aN (C:=call T k) (l:=(T 23).body) (o:=o) 3 (g:=[some (.t (.lst (l.map iZ))),some (.t (.int n)),none,none,none,none,none]) (st:=[]) (g':=[some (.t (.lst (l.map iZ))),some (.t (.int n)),some (.r 0),some (.r 1),some (.t (.bool false)),none,none]) (st':=[.lst [],.eT []]) rfl
  (bE (eL rfl rfl rfl h1) h2)
 change (∀{o:Option Out},bO (call T k) [.ifs (.cmp .eq (.bi .len [(.var 3)]) (.int 0)) [.ret (.var 2)] [],.ifs (.var 4) [.raise (.str bZ)] [],.ifs (.cmp .gt (.bi .len [(.var 2)]) (.int 0)) [.raise (.str b3)] [],.ret (.cM 6 [(.var 1)] (some (.cmp .sL (.var 6) (.var 3))) (.var 6))] _ _=o->_) at pre
 unfold cD
 by_cases n1:iu l=false
 ·rw[if_pos n1]
  have n2:((jM l).length:Int)=0:=by have:=(yd l).2 n1;omega
  exact bz (ds:=[.lst (l.map iZ),.int n]) rfl rfl (pre (by simp only[af,aF,aS,aM,aW,ah,bB,av,ay,bg,aG,aV,cP,uf,cJ,ak,aA,aq,cC,ef,cW,Au,List.getElem?_cons_zero,List.getElem?_cons_succ,dD n2];rfl)) rfl
 ·rw[if_neg n1]
  have n2:¬((jM l).length:Int)=0:=fun e=>n1 ((yd l).1 (by omega))
  by_cases m1:dP l=true
  ·rw[if_pos m1]
   exact fG (ds:=[.lst (l.map iZ),.int n]) rfl rfl (pre (by simp only[af,aF,aS,bD,aM,rO,rP,ah,aL,au,kP,av,ay,bI,bg,aG,aV,cP,uf,cJ,ak,aA,aq,cC,ef,cW,Au,List.getElem?_cons_zero,List.getElem?_cons_succ,bL n2,m1];rfl))
  ·rw[if_neg m1]
   by_cases p1:0<(posOf l).length
   ·rw[if_pos p1]
    have p2:(0:Int)<((posOf l).length:Int):=by omega
    exact fG (ds:=[.lst (l.map iZ),.int n]) rfl rfl (pre (by simp only[af,aF,aS,bD,aM,rO,rP,ah,aL,au,kP,av,ay,bI,bg,aG,aV,cP,bX,uf,dW,cJ,ak,aA,aq,cC,ef,cW,gj,Au,List.getElem?_cons_zero,List.getElem?_cons_succ,List.length_map,bL n2,(Bool.not_eq_true _).mp m1,dD p2];rfl))
   ·rw[if_neg p1]
    have p2:¬(0:Int)<((posOf l).length:Int):=by omega
    have h3:turns (dJ (call T k) 6 (some (.cmp .sL (.var 6) (.var 3))) (.var 6) [some (.t (.lst (l.map iZ))),some (.t (.int n)),some (.r 0),some (.r 1),some (.t (.bool (dP l))),x,none]) ((List.range n).map fun(k:Nat)=>PV.int k) [.lst ((posOf l).map cF),.eT (jM l)]
      = ok ((List.range n).filterMap fun(k:Nat)=>if some (-(k:Int)-1)∈l then none else some (PV.int k)) [.lst ((posOf l).map cF),.eT (jM l)]:=by
     refine jy _ _ _ fun d _=>⟨[.lst ((posOf l).map cF),.eT (jM l)],?_,rfl⟩
     unfold dJ
     by_cases q:some (-(d:Int)-1)∈l
     ·simp only[af,av,ay,aG,aV,cP,uf,um,ak,dF,mG,jk,jl,O6,List.getElem?_cons_zero,List.getElem?_cons_succ,List.set_cons_zero,List.set_cons_succ,uw,dD q,cY q]
     ·simp only[af,av,ay,aG,aV,cP,uf,um,ak,dF,mG,jk,iC,List.getElem?_cons_zero,List.getElem?_cons_succ,List.set_cons_zero,List.set_cons_succ,if_true,uw,bL q,lY q]
    have h4:((List.range n).filterMap fun(k:Nat)=>if some (-(k:Int)-1)∈l then none else some (PV.int k))=(gD l n).map cF:=by
     unfold gD
     rw[List.map_filterMap]
     congr 1;funext j
     by_cases q:some (-(j:Int)-1)∈l
     ·rw[if_pos q,if_pos q];rfl
     ·rw[if_neg q,if_neg q];rfl
    rw[h4] at h3
    refine bz (ds:=[.lst (l.map iZ),.int n]) (a:=.r 2) (st':=[.lst ((posOf l).map cF),.eT (jM l),.lst ((gD l n).map cF)]) rfl rfl (pre ?_) rfl
    have h5:=pQ (C:=call T k) (src:=[.var 1]) (g:=[some (.t (.lst (l.map iZ))),some (.t (.int n)),some (.r 0),some (.r 1),some (.t (.bool (dP l))),x,none]) (st:=[.lst ((posOf l).map cF),.eT (jM l)]) rfl (nM hn) h3
    rw[(Bool.not_eq_true _).mp m1] at h5
    simp only[af,aF,bD,aM,aW,ah,aL,au,bB,av,ay,bg,aG,aV,cP,bX,uf,dW,cJ,ak,aA,aq,cC,ef,cW,gj,Au,List.getElem?_cons_zero,List.getElem?_cons_succ,List.length_map,List.cons_append,List.nil_append,List.length_cons,List.length_nil,Nat.zero_add,Nat.reduceAdd,bL n2,(Bool.not_eq_true _).mp m1,bL p2,h5,alloc]
noncomputable def zE(k:Nat):Option (Option Int)->Option (Option Nat)
 |some none=>some none
 |some (some v)=>if v=0 then none else some (some k)
 |none=>none
noncomputable def wm(l:List (Option Int)) (k:Nat):Option (Option Nat):=zE k (l[k % l.length]?)
noncomputable def jN(l:List (Option Int)) (n:Nat):List (Option Nat):=if l.length=0 then[] else(List.range (max n l.length)).filterMap (wm l)
theorem K5:bodyOf (T 22).body 3=[.assign 5 (.sub (.var 0) (.bin .mod (.var 4) (.var 2))),.ifs (.cmp .is (.var 5) .none) [.expr (.b4 .append (.var 3) [.none])] [.ifs (.cmp .ne (.var 5) (.int 0)) [.expr (.b4 .append (.var 3) [(.var 4)])] []]]:=rfl
theorem jA(a b:Nat):(a:Int).fmod (b:Int)=((a % b:Nat):Int):=(Int.ofNat_fmod a b).symm
theorem K6(C:fj) (l:List (Option Int)) (hl:0<l.length) (n x:Option AV) (found:List (Option Nat)) (hf:found.length<2000) (k:Nat) :
 bO C (bodyOf (T 22).body 3) [some (.t (.lst (l.map iZ))),n,some (.t (.int l.length)),some (.r 0),some (.t (.int k)),x] [.lst (found.map cF)]
  = some (.next [some (.t (.lst (l.map iZ))),n,some (.t (.int l.length)),some (.r 0),some (.t (.int k)),some (.t (iZ (l[k % l.length]'(Nat.mod_lt _ hl))))] [.lst ((found++(wm l k).toList).map cF)]):=by
 have hj:k % l.length<l.length:=Nat.mod_lt _ hl
 have h1:((l.length:Int))≠0:=by omega
 have h2:(l.map iZ)[k % l.length]? = some (iZ l[k % l.length]):=by rw[List.getElem?_map,List.getElem?_eq_getElem hj];rfl
 rw[K5]
 unfold wm
 rw[List.getElem?_eq_getElem hj]
 generalize l[k % l.length]=q at h2
 match q,h2 with
 |none,h2=>simp only[af,aF,aS,aM,bx,aC,ah,aL,au,av,ay,aH,aG,aV,cP,bX,bk,isNone_none,ak,aA,aq,br,bu,aU,aZ,cL,bf,bV,bR,fD,fE,b7,List.getElem?_cons_zero,List.getElem?_cons_succ,List.set_cons_zero,List.set_cons_succ,j7,qa,List.length_map,cY hf,e7 _ _ _ h1,jA,h2,zE,Option.toList,List.map_append,List.map_cons,List.map_nil]
 |some v,h2 =>
  by_cases h:v=0
  ·simp only[af,aF,bD,aM,aC,ah,aL,au,av,ay,aH,bg,aG,aV,bk,gT,bN,ak,bR,fD,fE,b7,jl,List.getElem?_cons_zero,List.getElem?_cons_succ,List.set_cons_zero,List.set_cons_succ,lX,e7 _ _ _ h1,jA,h2,zE,Option.toList,List.append_nil,dD h,cY h]
  ·simp only[af,aF,aS,bD,aM,bx,aC,ah,aL,au,av,ay,aH,bg,aG,aV,cP,bX,bk,gT,bN,ak,aA,aq,br,bu,aU,aZ,cL,bf,bV,bR,fD,fE,b7,iC,List.getElem?_cons_zero,List.getElem?_cons_succ,List.set_cons_zero,List.set_cons_succ,j8,lX,List.length_map,cY hf,e7 _ _ _ h1,jA,h2,zE,Option.toList,List.map_append,List.map_cons,List.map_nil,bL h,lY h]
theorem kX{α β:Type}(f:α->Option β) (l:List α) (a:α):(l++[a]).filterMap f=l.filterMap f++(f a).toList:=by
 rw[List.filterMap_append]
 cases h:f a with
 |none=>rw[List.filterMap_cons_none h];rfl
 |some b=>rw[List.filterMap_cons_some h];rfl
theorem rV(k:Nat) (l:List (Option Int)) (n:Nat) (hl:l.length<2000) (hn:n<2000) (st:aB):call T (k+1) 22 [.t (.lst (l.map iZ)),.t (.int n)] st=ok (.t (.lst ((jN l n).map cF))) st:=by
 unfold jN
 by_cases h0:l.length=0
 ·rw[if_pos h0]
  obtain rfl:=List.eq_nil_of_length_eq_zero h0
  exact bz (ds:=[.lst [],.int n]) rfl rfl rfl rfl
 ·rw[if_neg h0]
  have SK:0<l.length:=Nat.pos_of_ne_zero h0
  have SM:¬((l.length:Int)=0):=by omega
  obtain⟨g',st',h1,x,y,rfl,rfl⟩:=dH (f:=bO (call T k) (bodyOf (T 22).body 3)) (x:=4) (n:=1) (fun(k:Nat)=>PV.int k)
   (fun pre g st=>∃x y,g=[some (.t (.lst (l.map iZ))),some (.t (.int n)),some (.t (.int l.length)),some (.r 0),x,y]/\st=[.lst ((pre.filterMap (wm l)).map cF)])
   (List.range (max n l.length)) [some (.t (.lst (l.map iZ))),some (.t (.int n)),some (.t (.int l.length)),some (.r 0),none,none] [.lst []] ⟨_,_,rfl,rfl⟩ (by
    rintro p b q g st e ⟨x,y,rfl,rfl⟩
    refine⟨_,_,⟨_,_,.inl (K6 _ l SK _ _ _ ?_ b),rfl⟩,_,_,rfl,?_⟩
    ·have:=congrArg List.length e;have h:=List.length_filterMap_le (wm l) p;simp at this ⊢;omega
    ·rw[kX];rfl)
  have hr:sM [.t (.int (max (n:Int) (l.length:Int)))]=some ((List.range (max n l.length)).map fun(k:Nat)=>PV.int k):=by
   rw[show max (n:Int) (l.length:Int)=((max n l.length:Nat):Int) by omega]
   exact nM (by omega)
  refine bz (ds:=[.lst (l.map iZ),.int n]) (g:=[some (.t (.lst (l.map iZ))),some (.t (.int n)),none,none,none,none]) rfl rfl (aN 3 (g':=[some (.t (.lst (l.map iZ))),some (.t (.int n)),some (.t (.int l.length)),some (.r 0),none,none]) (st':=[.lst []]) ?_ (bE (kU rfl hr h1) rfl)) rfl
  show bO _ [.assign 2 (.bi .len [(.var 0)]),.ifs (.cmp .eq (.var 2) (.int 0)) [.ret (.list [])] [],.assign 3 (.list [])] _ _=_
  simp only[af,aF,bD,aM,aC,ah,aL,au,av,ay,bg,aG,aV,cJ,ak,aA,aq,jf,cC,ef,cW,gj,eE,bS,List.getElem?_cons_zero,List.getElem?_cons_succ,List.set_cons_zero,List.set_cons_succ,List.length_map,List.nil_append,List.length_nil,bL SM]
noncomputable def d7(s:Tx):List (Option Tx)->Option Nat
 |[]=>none
 |a::r=>if a=some s then some 0 else(d7 s r).map (· + 1)
theorem uy(s:Tx) (a:Option Tx):∀(l:List (Option Tx)),d7 s (l++[a])=match d7 s l with
  |some i=>some i
  |none=>if a=some s then some l.length else none
 |[]=>by
  show(if a=some s then some 0 else(d7 s []).map _)=if a=some s then some 0 else none
  rfl
 |b::r=>by
  show(if b=some s then some 0 else(d7 s (r++[a])).map (· + 1))=match(if b=some s then some 0 else(d7 s r).map (· + 1)) with
   |some i=>some i
   |none=>if a=some s then some (r.length+1) else none
  by_cases h:b=some s
  ·rw[if_pos h,if_pos h]
  ·rw[if_neg h,if_neg h,uy s a r]
   cases d7 s r with
   |some i=>rfl
   |none=>by_cases h2:a=some s<;>simp[h2]
theorem wo{s:Tx}{l:List (Option Tx)}{i:Nat}(h:d7 s l=some i):i<l.length:=by
 induction l generalizing i with
 |nil=>injection h
 |cons a r ih =>
  rw[d7] at h
  by_cases h2:a=some s
  ·rw[if_pos h2] at h;(injection h with h;subst h);simp
  ·rw[if_neg h2] at h
   obtain⟨j,hj,rfl⟩:=Option.map_eq_some_iff.mp h
   have:=ih hj;simp;omega
noncomputable def qc(D:List (Tx×PV)) (i:Nat):Option Tx->List (Tx×PV)
 |none=>D
 |some s=>if s=[] then D else if(cj s D).isSome=true then D else D++[(s,.int i)]
noncomputable def ye:List (Option Tx)->List (Tx×PV)×Nat:=fun l=>l.foldl (fun q x=>(qc q.1 q.2 x,q.2+1)) ([],0)
noncomputable def wU(l:List (Option Tx)):List (Tx×PV):=(ye l).1
theorem uz(l:List (Option Tx)) (a:Option Tx):ye (l++[a])=(qc (ye l).1 (ye l).2 a,(ye l).2+1):=by
 unfold ye;rw[List.foldl_append];rfl
theorem Ec(l:List (Option Tx)):(ye l).2=l.length:=by
 induction l using snoc_ind with
 |h0=>rfl
 |hs l a ih=>rw[uz];show(ye l).2+1=_;rw[ih];simp
theorem rW(l:List (Option Tx)) (a:Option Tx):wU (l++[a])=qc (wU l) l.length a:=by
 unfold wU;rw[uz,Ec]
theorem Ed(D:List (Tx×PV)) (i:Nat) (a:Option Tx):(qc D i a).length<=D.length+1:=by
 induction a with
 |none=>simp[qc]
 |some s =>
  simp only[qc]
  by_cases h:s=[]
  ·rw[if_pos h];omega
  ·rw[if_neg h];by_cases h2:(cj s D).isSome=true
   ·rw[if_pos h2];omega
   ·rw[if_neg h2];simp
theorem Hs(l:List (Option Tx)):(wU l).length<=l.length:=by
 induction l using snoc_ind with
 |h0=>exact Nat.le_refl _
 |hs l a ih=>rw[rW];have:=Ed (wU l) l.length a;simp;omega
theorem uA{α:Type}(s t:Tx) (v:α):∀(D:List (Tx×α)),cj s (D++[(t,v)])=match cj s D with
  |some d=>some d
  |none=>if t=s then some v else none
 |[]=>rfl
 |p::r=>by
  show(if p.1=s then some p.2 else cj s (r++[(t,v)]))=match(if p.1=s then some p.2 else cj s r) with
   |some d=>some d
   |none=>if t=s then some v else none
  by_cases h:p.1=s
  ·rw[if_pos h,if_pos h]
  ·rw[if_neg h,if_neg h,uA s t v r]
theorem Ef(s:Tx) (l:List (Option Tx)):cj s (wU l)=if s=[] then none else(d7 s l).map fun(i:Nat)=>PV.int i:=by
 induction l using snoc_ind with
 |h0=>by_cases h:s=[]<;>simp[h]<;>rfl
 |hs l a ih =>
  rw[rW,uy]
  induction a with
  |none =>
   simp only[qc];rw[ih]
   by_cases h:s=[]
   ·rw[if_pos h,if_pos h]
   ·rw[if_neg h,if_neg h];cases d7 s l<;>simp
  |some t =>
   simp only[qc]
   by_cases ht:t=[]
   ·rw[if_pos ht,ih]
    by_cases h:s=[]
    ·rw[if_pos h,if_pos h]
    ·have:¬(some t=some s):=fun e=>h (by rw[<-Option.some.inj e,ht])
     rw[if_neg h,if_neg h];cases d7 s l<;>simp[this]
   ·rw[if_neg ht]
    by_cases hd:(cj t (wU l)).isSome=true
    ·rw[if_pos hd,ih]
     by_cases h:s=[]
     ·rw[if_pos h,if_pos h]
     ·rw[if_neg h,if_neg h]
      cases hs:d7 s l with
      |some i=>rfl
      |none =>
       by_cases e:t=s
       ·subst e;rw[ih,if_neg h,hs] at hd;injection hd
       ·simp[e]
    ·rw[if_neg hd,uA,ih]
     by_cases h:s=[]
     ·have:¬(t=s):=fun e=>ht (e.trans h)
      rw[if_pos h,if_pos h];simp[this]
     ·rw[if_neg h,if_neg h]
      cases hs:d7 s l with
      |some i=>rfl
      |none=>by_cases e:t=s<;>simp[e]
theorem BP{α:Type}{s:Tx}{v:α}:∀{D:List (Tx×α)},cj s D=none->putK s v D=D++[(s,v)]:=by
 intro D h
 have:D.any (fun p=>decide (p.1=s))=false:=by
  induction D with
  |nil=>rfl
  |cons p r ih =>
   rw[cj] at h
   by_cases e:p.1=s
   ·rw[if_pos e] at h;injection h
   ·rw[if_neg e] at h;rw[List.any_cons,ih h,decide_eq_false e];rfl
 unfold putK
 rw[this];rfl
noncomputable def fJ:Option (List (Option Tx))->PV
 |none=>.none
 |some l=>.lst (l.map aD)
noncomputable def okN(o:Option (List (Option Tx))):Prop:=∀l,o=some l->l.length<2000/\∀s,some s∈l->s≠b9
noncomputable def zF(o:Option (List (Option Tx))):List (Tx×PV):=match o with
 |none=>[]
 |some l=>wU l
theorem K7:(T 24).body=[.assign 1 (.dm [] []),.ifs (.cmp .ee (.var 0) .none) [.forR 2 [(.bi .len [(.var 0)])] [.assign 3 (.sub (.var 0) (.var 2)),.ifs (.and [(.cmp .ee (.var 3) .none),(.cmp .ne (.var 3) (.str [])),(.cmp .sL (.var 3) (.var 1))]) [.dN (.var 1) (.var 3) (.var 2)] []]] [],.ret (.var 1)]:=rfl
noncomputable def O7:List S:=[.assign 3 (.sub (.var 0) (.var 2)),.ifs (.and [(.cmp .ee (.var 3) .none),(.cmp .ne (.var 3) (.str [])),(.cmp .sL (.var 3) (.var 1))]) [.dN (.var 1) (.var 3) (.var 2)] []]
theorem K8(C:fj) (l p:List (Option Tx)) (x:Option AV) (a:Option Tx) (hp:p.length<2000) (ha:l[p.length]? = some a) (hs:∀s,a=some s->s≠b9) :
 bO C O7 [some (.t (.lst (l.map aD))),some (.r 0),some (.t (.int p.length)),x] [.aK (wU p)]
  = some (.next [some (.t (.lst (l.map aD))),some (.r 0),some (.t (.int p.length)),some (.t (aD a))] [.aK (wU (p++[a]))]):=by
 have h2:(l.map aD)[p.length]? = some (aD a):=by rw[List.getElem?_map,ha];rfl
 have h3:(wU p).length<2000:=Nat.lt_of_le_of_lt (Hs p) hp
 rw[rW]
 unfold O7
 match a,hs,h2 with
 |none,_,h2=>simp only[af,aF,bD,aM,aC,ah,aL,au,av,ay,aH,aG,aV,cu,isNone_none,ak,dh,dj,kQ,bR,fD,fE,jl,List.getElem?_cons_zero,List.getElem?_cons_succ,List.set_cons_zero,List.set_cons_succ,rS,h2,qc]
 |some s,hs,h2 =>
  by_cases h:s=[]
  ·simp only[af,aF,bD,aM,aC,ah,aL,au,av,ay,aH,bI,aG,aV,cu,iS,cB,ak,dh,dj,ez,kQ,bR,fD,fE,jl,iC,List.getElem?_cons_zero,List.getElem?_cons_succ,List.set_cons_zero,List.set_cons_succ,jz,h2,qc,dD h,cY h]
  ·by_cases h4:(cj s (wU p)).isSome=true
   ·simp only[af,aF,bD,aM,aC,ah,aL,au,av,ay,aH,bI,aG,aV,cP,I4,cu,iS,uh,cB,ak,dh,eN,dj,ez,bR,fD,fE,jl,iC,List.getElem?_cons_zero,List.getElem?_cons_succ,List.set_cons_zero,List.set_cons_succ,jz,if_true,h2,qc,bL h,lY h,h4]
   ·have h5:cj s (wU p)=none:=by simpa using h4
    have h6:s≠b9/\(wU p).length<2000:=⟨hs s rfl,h3⟩
    simp only[af,aF,aS,aM,aC,rQ,Aq,As,ah,aL,au,av,ay,aH,bI,aG,aV,cP,I4,cu,iS,uh,cB,ak,dh,eN,dj,ez,dF,bR,fD,fE,D6,Hq,iC,List.getElem?_cons_zero,List.getElem?_cons_succ,List.set_cons_zero,List.set_cons_succ,jz,h2,qc,bL h,lY h,h5,Option.isSome,Bool.false_eq_true,if_false,cY h6,BP h5]
theorem BQ{n:Nat}{p q:List Nat}{a:Nat}(e:List.range n=p++a::q):a=p.length/\p.length<n:=by
 have h1:=congrArg List.length e
 have h2:=congrArg (fun l=>l[p.length]?) e
 simp at h1 h2
 have h3:p.length<n:=by omega
 rw[List.getElem?_range h3] at h2
 exact⟨(Option.some.inj h2).symm,h3⟩
theorem jO(k:Nat) (o:Option (List (Option Tx))) (ho:okN o) (st:aB):call T (k+1) 24 [.t (fJ o)] st=ok (.t (.aK (zF o))) st:=by
 match o,ho with
 |none,_=>rfl
 |some l,ho =>
  obtain⟨hl,hs⟩:=ho l rfl
  obtain⟨g',st',h1,x,y,rfl,rfl⟩:=dH (f:=bO (call T k) O7) (x:=2) (n:=1) (fun(k:Nat)=>PV.int k)
   (fun pre g st=>∃x y,g=[some (.t (.lst (l.map aD))),some (.r 0),x,y]/\st=[.aK (wU (l.take pre.length))])
   (List.range l.length) [some (.t (.lst (l.map aD))),some (.r 0),none,none] [.aK []] ⟨_,_,rfl,rfl⟩ (by
    rintro p b q g st e ⟨x,y,rfl,rfl⟩
    obtain⟨rfl,hb⟩:=BQ e
    have e1:(l.take p.length).length=p.length:=by rw[List.length_take];omega
    have ht:=K8 (call T k) l (l.take p.length) y (l[p.length]) (by omega) (by rw[e1];exact List.getElem?_eq_getElem hb) (fun s XM=>hs s (by rw[<-XM];exact List.getElem_mem hb))
    rw[e1] at ht
    refine⟨_,_,⟨_,_,.inl ht,rfl⟩,_,_,rfl,?_⟩
    show[Node.aK _]=_
    rw[List.length_append,List.length_singleton,List.take_add_one,List.getElem?_eq_getElem hb];rfl)
  rw[List.length_range,List.take_length] at h1
  refine bz (ds:=[.lst (l.map aD)]) (g:=[some (.t (.lst (l.map aD))),none,none,none]) (a:=.r 0) (st':=[.aK (wU l)]) rfl rfl ?_ rfl
  rw[K7]
  have h2:ex (call T k) (.forR 2 [(.bi .len [(.var 0)])] O7) [some (.t (.lst (l.map aD))),some (.r 0),none,none] [.aK []]=some (.next [some (.t (.lst (l.map aD))),some (.r 0),x,y] [.aK (wU l)]):=by
   refine kU (st1:=[.aK []]) (as:=[.t (.int l.length)]) ?_ (nM (Nat.le_of_lt hl)) h1
   simp only[af,av,ay,aV,aA,aq,cC,ef,cW,gj,List.getElem?_cons_zero,List.length_map]
  refine aN 1 (g':=[some (.t (.lst (l.map aD))),some (.r 0),none,none]) (st':=[.aK []]) rfl ?_
  show bO _ [.ifs (.cmp .ee (.var 0) .none) [.forR 2 [(.bi .len [(.var 0)])] O7] [],.ret (.var 1)] _ _=_
  simp only[af,aF,aS,aM,aW,ah,aL,au,bB,av,ay,aH,aG,aV,cu,mV,ak,iC,List.getElem?_cons_zero,List.getElem?_cons_succ,h2]
noncomputable def e8(o:Option (List (Option Tx))):Option Tx->Option Nat
 |none=>none
 |some s=>if s=[] then none else o.bind (d7 s)
theorem uB(s:Tx) (o:Option (List (Option Tx))):cj s (zF o)=(e8 o (some s)).map fun(i:Nat)=>PV.int i:=by
 induction o with
 |none=>show none=_;by_cases h:s=[]<;>simp[e8,h]
 |some l =>
  show cj s (wU l)=_
  rw[Ef]
  by_cases h:s=[]<;>simp[e8,h]
theorem K9:bodyOf (T 25).body 2=[.ifs (.and [(.cmp .ee (.var 4) .none),(.cmp .oj (.var 4) (.var 2))]) [.expr (.b4 .append (.var 3) [(.sub (.var 2) (.var 4))])] [.expr (.b4 .append (.var 3) [.none])]]:=rfl
theorem La(C:fj) (o:Option (List (Option Tx))) (u v:Option AV) (found:List (Option Nat)) (hf:found.length<2000) (a:Option Tx) :
 bO C (bodyOf (T 25).body 2) [u,v,some (.t (.aK (zF o))),some (.r 0),some (.t (aD a))] [.lst (found.map cF)]
  = some (.next [u,v,some (.t (.aK (zF o))),some (.r 0),some (.t (aD a))] [.lst ((found++[e8 o a]).map cF)]):=by
 rw[K9]
 match a with
 |none=>simp only[af,aF,bD,aM,bx,ah,aL,au,av,ay,aH,aG,aV,cP,bX,cu,isNone_none,ak,dh,dj,kQ,aA,aq,br,bu,aU,aZ,cL,bf,bV,jl,List.getElem?_cons_zero,List.getElem?_cons_succ,List.set_cons_zero,j7,rS,List.length_map,cY hf,List.map_append,List.map_cons,List.map_nil,e8]
 |some s =>
  have h:=uB s o
  generalize e8 o (some s)=q at h
  induction q with
  |none=>simp only[af,aF,bD,aM,bx,ah,aL,au,av,ay,aH,aG,aV,cP,bX,cu,ug,cB,ak,dh,eN,dj,ez,aA,aq,br,bu,aU,aZ,cL,bf,bV,iC,List.getElem?_cons_zero,List.getElem?_cons_succ,List.set_cons_zero,j7,jz,List.length_map,cY hf,List.map_append,List.map_cons,List.map_nil,h,Option.map,Option.isSome]
  |some i=>simp only[af,aF,aS,aM,bx,ah,aL,au,av,ay,aH,aG,aV,cP,bX,cu,ug,cB,ak,dh,eN,dj,ez,aA,aq,br,bu,aU,aZ,cL,bf,bV,bR,KS,fE,iC,List.getElem?_cons_zero,List.getElem?_cons_succ,List.set_cons_zero,j8,jz,List.length_map,cY hf,List.map_append,List.map_cons,List.map_nil,h,Option.map,Option.isSome]
theorem yf(k:Nat) (l:List (Option Tx)) (o:Option (List (Option Tx))) (ho:okN o) (hl:l.length<2000) (st:aB):call T (k+2) 25 [.t (.lst (l.map aD)),.t (fJ o)] st=ok (.t (.lst ((l.map (e8 o)).map cF))) st:=by
 obtain⟨g',st',h1,x,rfl,rfl⟩:=dH (f:=bO (call T (k+1)) (bodyOf (T 25).body 2)) (x:=4) (n:=1) aD
  (fun pre g st=>∃x,g=[some (.t (.lst (l.map aD))),some (.t (fJ o)),some (.t (.aK (zF o))),some (.r 0),x]/\st=[.lst ((pre.map (e8 o)).map cF)])
  l [some (.t (.lst (l.map aD))),some (.t (fJ o)),some (.t (.aK (zF o))),some (.r 0),none] [.lst []] ⟨_,rfl,rfl⟩ (by
   rintro p b q g st e ⟨x,rfl,rfl⟩
   refine⟨_,_,⟨_,_,.inl (La _ o _ _ _ ?_ b),rfl⟩,_,rfl,?_⟩
   ·have:=congrArg List.length e;simp at this ⊢;omega
   ·rw[List.map_append (l₁:=p)];rfl)
 refine bz (ds:=[.lst (l.map aD),fJ o]) (g:=[some (.t (.lst (l.map aD))),some (.t (fJ o)),none,none,none]) rfl rfl (aN 2 (g':=[some (.t (.lst (l.map aD))),some (.t (fJ o)),some (.t (.aK (zF o))),some (.r 0),none]) (st':=[.lst []]) ?_ (bE (eL rfl rfl rfl h1) rfl)) rfl
 show bO _ [.assign 2 (.call 24 [(.var 1)]),.assign 3 (.list [])] _ _=_
 simp only[af,aF,aC,ah,aL,au,av,ay,aA,aq,jf,bW,eE,bS,List.getElem?_cons_zero,List.getElem?_cons_succ,List.set_cons_zero,List.set_cons_succ,List.nil_append,List.length_nil,jO k o ho]
set_option genCtorIdx false in
inductive Ix
 |missing|null|list
 |logical (l:List (Option Int))
 |integer (l:List (Option Int))
 |eF (l:List (Option (Int×Int)))
 |character (l:List (Option Tx))
noncomputable def Ix.ctorIdx(t:Ix):Nat:=Ix.casesOn (motive:=fun _=>Nat) t 0 1 2 (fun _=>3) (fun _=>4) (fun _=>5) (fun _=>6)
noncomputable def Ix.pv:Ix->PV
 |.missing=>pR
 |.null=>cU
 |.list=>vec aE [] .none
 |.logical l=>vec bw (l.map iZ) .none
 |.integer l=>vec aa (l.map iZ) .none
 |.eF l=>vec aY (l.map fM) .none
 |.character l=>vec ao (l.map aD) .none
noncomputable def Ix.ok:Ix->Prop
 |.logical l=>l.length<1000/\∀v,some v∈l->v=0\/v=1
 |.integer l=>l.length<1000
 |.eF l=>l.length<1000/\∀p∈l,Ft p
 |.character l=>l.length<1000
 |_=>True
noncomputable def iE(n:Nat) (o:Option (List (Option Tx))):Ix->Except Tx (List (Option Nat))
 |.missing=>.ok ((List.range n).map some)
 |.null=>.ok []
 |.list=>.error eX
 |.logical l=>.ok (jN l n)
 |.integer l=>cD l n
 |.eF l=>cD (l.map iD) n
 |.character l=>.ok (l.map (e8 o))
noncomputable def zG:Except Tx (List (Option Nat))->aB->R AV
 |.ok pl,st=>Mine.ok (.t (.tup [.lst (pl.map cF),.none])) st
 |.error m,st=>some (.error (m,st))
noncomputable def s7:Except Tx (List (Option Nat))->aB->R AV
 |.ok pl,st=>Mine.ok (.t (.tup [.lst (pl.map cF),.none])) st
 |.error m,st=>Mine.ok (.t (.str m)) st
theorem oY:(T 26).body=[.assign 4 (.attr (.var 0) aj),.ifs (.cmp .eq (.var 4) (.str bF)) [.bad] [],.ifs (.cmp .eq (.var 4) (.str bq)) [.ret (.tup [(.list []),.none])] [],.ifs (.cmp .eq (.var 4) (.str bw)) [.ret (.tup [(.call 22 [(.attr (.var 0) ai),(.var 1)]),.none])] [],.ifs (.or [(.cmp .eq (.var 4) (.str aa)),(.cmp .eq (.var 4) (.str aY))]) [.ret (.tup [(.call 23 [(.call 21 [(.var 0)]),(.var 1)]),.none])] [],.ifs (.cmp .eq (.var 4) (.str ao)) [.ifs (.var 3) [.bad] [],.ret (.tup [(.call 25 [(.attr (.var 0) ai),(.var 2)]),.none])] [],.raise (.CC fU (.var 4) t_)]:=rfl
theorem positions(k:Nat) (ix:Ix) (hx:ix.ok) (hm:ix≠.missing) (n:Nat) (hn:n<1000) (o:Option (List (Option Tx))) (ho:okN o) (st:aB):call T (k+5) 26 [.t ix.pv,.t (.int n),.t (fJ o),.t (.bool false)] st=zG (iE n o ix) st:=by
 match ix,hx,hm with
 |.null,_,_=>rfl
 |.list,_,_=>exact fG (ds:=[(Ix.list).pv,.int n,fJ o,.bool false]) rfl rfl rfl
 |.logical l,hx,_ =>
  refine bz (ds:=[(Ix.logical l).pv,.int n,fJ o,.bool false]) (a:=.t (.tup [.lst ((jN l n).map cF),.none])) (st':=[]) rfl rfl (aN 3 (g':=[some (.t (vec bw (l.map iZ) .none)),some (.t (.int n)),some (.t (fJ o)),some (.t (.bool false)),some (.t (.str bw))]) (st':=[]) rfl ?_) rfl
  rw[oY]
  simp only[af,aF,aS,aM,aW,ah,bB,av,ay,aH,bI,cQ,aG,aV,cV,ak,aA,aq,mF,bW,eB,fY,List.getElem?_cons_zero,List.getElem?_cons_succ,decide_true,List.drop_succ_cons,List.drop_zero,rV _ l n (by have:=hx.1;omega) (by omega)]
 |.integer l,hx,_ =>
  have hx:l.length<1000:=hx
  have pre:=fun{o1:Option Out} h2=>aN (C:=call T (k+4)) (l:=(T 26).body) (o:=o1) 4 (g:=[some (.t (vec aa (l.map iZ) .none)),some (.t (.int n)),some (.t (fJ o)),some (.t (.bool false)),none]) (st:=[]) (g':=[some (.t (vec aa (l.map iZ) .none)),some (.t (.int n)),some (.t (fJ o)),some (.t (.bool false)),some (.t (.str aa))]) (st':=[]) rfl h2
  show _=zG (cD l n) st
  have h:=nP (k+3) l n (by omega) (by omega) []
  cases hw:cD l n with
  |ok pl =>
   rw[hw] at h
   refine bz (ds:=[(Ix.integer l).pv,.int n,fJ o,.bool false]) (a:=.t (.tup [.lst (pl.map cF),.none])) (st':=[]) rfl rfl (pre ?_) rfl
   rw[oY]
   simp only[af,aF,aS,aM,aW,ah,bB,av,ay,aH,bI,aG,aV,cV,ak,dz,dB,j5,aA,aq,mF,bW,eB,List.getElem?_cons_zero,List.getElem?_cons_succ,decide_true,List.drop_succ_cons,List.drop_zero,jm,h,Eb]
  |error m =>
   rw[hw] at h
   refine fG (ds:=[(Ix.integer l).pv,.int n,fJ o,.bool false]) (st':=[]) rfl rfl (pre ?_)
   rw[oY]
   simp only[af,xY,aF,Ao,aS,aM,aW,ah,kP,av,ay,aH,bI,aG,aV,cV,ak,dz,dB,j5,aA,aq,bW,eB,List.getElem?_cons_zero,List.getElem?_cons_succ,decide_true,List.drop_succ_cons,List.drop_zero,jm,h,Eb]
 |.eF l,hx,_ =>
  have pre:=fun{o1:Option Out} h2=>aN (C:=call T (k+4)) (l:=(T 26).body) (o:=o1) 4 (g:=[some (.t (vec aY (l.map fM) .none)),some (.t (.int n)),some (.t (fJ o)),some (.t (.bool false)),none]) (st:=[]) (g':=[some (.t (vec aY (l.map fM) .none)),some (.t (.int n)),some (.t (fJ o)),some (.t (.bool false)),some (.t (.str aY))]) (st':=[]) rfl h2
  show _=zG (cD (l.map iD) n) st
  have h:=nP (k+3) (l.map iD) n (by have:=hx.1;simp;omega) (by omega) []
  have SN:=wj (k+1) l .none (by have:=hx.1;omega) hx.2 []
  rw[show(l.map fun p=>iZ (iD p))=(l.map iD).map iZ by rw[List.map_map];rfl] at SN
  cases hw:cD (l.map iD) n with
  |ok pl =>
   rw[hw] at h
   refine bz (ds:=[(Ix.eF l).pv,.int n,fJ o,.bool false]) (a:=.t (.tup [.lst (pl.map cF),.none])) (st':=[]) rfl rfl (pre ?_) rfl
   rw[oY]
   simp only[af,aF,aS,aM,aW,ah,bB,av,ay,aH,bI,aG,aV,cV,ak,dz,fu,dB,eZ,aA,aq,mF,bW,eB,List.getElem?_cons_zero,List.getElem?_cons_succ,decide_true,List.drop_succ_cons,List.drop_zero,show decide (aY=aa)=false from rfl,SN,h,Eb]
  |error m =>
   rw[hw] at h
   refine fG (ds:=[(Ix.eF l).pv,.int n,fJ o,.bool false]) (st':=[]) rfl rfl (pre ?_)
   rw[oY]
   simp only[af,xY,aF,Ao,aS,aM,aW,ah,kP,av,ay,aH,bI,aG,aV,cV,ak,dz,fu,dB,eZ,aA,aq,bW,eB,List.getElem?_cons_zero,List.getElem?_cons_succ,decide_true,List.drop_succ_cons,List.drop_zero,show decide (aY=aa)=false from rfl,SN,h,Eb]
 |.character l,hx,_ =>
  refine bz (ds:=[(Ix.character l).pv,.int n,fJ o,.bool false]) (a:=.t (.tup [.lst ((l.map (e8 o)).map cF),.none])) (st':=[]) rfl rfl (aN 5 (g':=[some (.t (vec ao (l.map aD) .none)),some (.t (.int n)),some (.t (fJ o)),some (.t (.bool false)),some (.t (.str ao))]) (st':=[]) rfl ?_) rfl
  rw[oY]
  have hx:l.length<1000:=hx
  simp only[af,aF,aS,bD,aM,aW,ah,aL,au,bB,av,ay,aH,bI,cQ,aG,aV,cV,ak,aA,aq,mF,bW,eB,fY,List.getElem?_cons_zero,List.getElem?_cons_succ,decide_true,List.drop_succ_cons,List.drop_zero,yf _ l o ho (by omega)]
theorem Lb{a b:Int}:cutD a b=if 0<=a then a.fdiv b else -((-a).fdiv b):=by
 unfold cutD
 by_cases h:0<=a
 ·rw[if_pos h,if_pos h,Int.natAbs_of_nonneg h]
 ·rw[if_neg h,if_neg h,Int.zero_sub,show(a.natAbs:Int)=-a by omega]
theorem Eg:bodyOf (T 79).body 1=[.ifs (.or [(.cmp .is (.var 3) .none),(.and [(.cmp .eq (.var 0) (.str aY)),(.cmp .eq (.sub (.var 3) (.int 1)) (.int 0))])]) [.expr (.b4 .append (.var 2) [.none])] [.ifs (.cmp .eq (.var 0) (.str aY)) [.expr (.b4 .append (.var 2) [(.ite (.cmp .ge (.sub (.var 3) (.int 0)) (.int 0)) (.bin .fdiv (.sub (.var 3) (.int 0)) (.sub (.var 3) (.int 1))) (.neg (.bin .fdiv (.neg (.sub (.var 3) (.int 0))) (.sub (.var 3) (.int 1)))))])] [.expr (.b4 .append (.var 2) [(.var 3)])]]]:=rfl
theorem yg(k:Nat) (l:List (Option Int)) (hl:l.length<2000) (st:aB):call T (k+1) 79 [.t (.str aa),.t (.lst (l.map iZ))] st=ok (.t (.lst (l.map iZ))) st:=by
 obtain⟨g',st',h1,x,rfl,rfl⟩:=dH (f:=bO (call T k) (bodyOf (T 79).body 1)) (x:=3) (n:=1) iZ
  (fun pre g st=>∃x,g=[some (.t (.str aa)),some (.t (.lst (l.map iZ))),some (.r 0),x]/\st=[.lst (pre.map iZ)])
  l [some (.t (.str aa)),some (.t (.lst (l.map iZ))),some (.r 0),none] [.lst []] ⟨_,rfl,rfl⟩ (by
   rintro p b q g st e ⟨x,rfl,rfl⟩
   have hf:p.length<2000:=by have:=congrArg List.length e;simp at this ⊢;omega
   refine⟨_,_,⟨[some (.t (.str aa)),some (.t (.lst (l.map iZ))),some (.r 0),some (.t (iZ b))],[.lst ((p++[b]).map iZ)],.inl ?_,rfl⟩,_,rfl,rfl⟩
   rw[Eg,List.map_append]
   match b with
   |none=>simp only[af,aF,aS,aM,bx,ah,aL,au,av,ay,aH,aG,aV,cP,bX,bk,isNone_none,ak,dz,dB,j5,aA,aq,br,bu,aU,aZ,cL,bf,bV,List.getElem?_cons_zero,List.getElem?_cons_succ,List.set_cons_zero,List.set_cons_succ,qa,List.length_map,cY hf,List.map_cons,List.map_nil]
   |some i=>simp only[af,aF,bD,aM,bx,ah,aL,au,av,ay,aH,bI,aG,aV,cP,bX,bk,cV,bN,ak,dz,fu,dB,eZ,dh,dj,kQ,aA,aq,br,bu,aU,aZ,cL,bf,bV,List.getElem?_cons_zero,List.getElem?_cons_succ,List.set_cons_zero,List.set_cons_succ,lX,List.length_map,cY hf,List.map_cons,List.map_nil,show decide (aa=aY)=false from rfl])
 exact bz (ds:=[.str aa,.lst (l.map iZ)]) rfl rfl (aN 1 (g':=[some (.t (.str aa)),some (.t (.lst (l.map iZ))),some (.r 0),none]) (st':=[.lst []]) rfl (bE (eL rfl rfl rfl h1) rfl)) rfl
theorem zH(k:Nat) (l:List (Option (Int×Int))) (hl:l.length<2000) (hd:∀p∈l,Ft p) (st:aB):call T (k+1) 79 [.t (.str aY),.t (.lst (l.map fM))] st=ok (.t (.lst ((l.map iD).map iZ))) st:=by
 obtain⟨g',st',h1,x,rfl,rfl⟩:=dH (f:=bO (call T k) (bodyOf (T 79).body 1)) (x:=3) (n:=1) fM
  (fun pre g st=>∃x,g=[some (.t (.str aY)),some (.t (.lst (l.map fM))),some (.r 0),x]/\st=[.lst ((pre.map iD).map iZ)])
  l [some (.t (.str aY)),some (.t (.lst (l.map fM))),some (.r 0),none] [.lst []] ⟨_,rfl,rfl⟩ (by
   rintro p b q g st e ⟨x,rfl,rfl⟩
   have hf:p.length<2000:=by have:=congrArg List.length e;simp at this ⊢;omega
   have hb:Ft b:=hd b (by rw[e];simp)
   refine⟨_,_,⟨[some (.t (.str aY)),some (.t (.lst (l.map fM))),some (.r 0),some (.t (fM b))],[.lst (((p++[b]).map iD).map iZ)],.inl ?_,rfl⟩,_,rfl,rfl⟩
   rw[Eg,List.map_append,List.map_append]
   match b,hb with
   |none,_=>simp only[af,aF,aS,aM,bx,ah,aL,au,av,ay,aH,aG,aV,cP,bX,bk,isNone_none,ak,dz,dB,j5,aA,aq,br,bu,aU,aZ,cL,bf,bV,List.getElem?_cons_zero,List.getElem?_cons_succ,List.set_cons_zero,List.set_cons_succ,qa,List.length_map,cY hf,List.map_cons,List.map_nil,fM,iD]
   |some (a,b),hb =>
    by_cases h:b=0
    ·subst h;simp only[af,aF,aS,aM,bx,ah,aL,au,av,ay,aH,bI,bg,aG,aV,cP,bX,bk,cJ,cV,eY,ak,dz,fu,dB,eZ,dh,eN,dj,ez,aA,aq,br,bu,aU,aZ,cL,bf,bV,bR,gJ,List.getElem?_cons_zero,List.getElem?_cons_succ,List.set_cons_zero,List.set_cons_succ,qa,if_true,decide_true,List.length_map,cY hf,List.map_cons,List.map_nil,fM,iD]
    ·have h2:¬(b=0\/b.natAbs ≥ 1048576):=by have:=hb.1;have:=hb.2;omega
     have hc:iD (some (a,b))=some (cutD a b):=if_neg h
     rw[Lb] at hc
     by_cases h3:0<=a
     ·simp only[af,aF,aS,bD,aM,bx,ah,aL,au,av,ay,aH,bI,bg,aG,aV,cP,bX,bk,eu,cJ,cV,eY,ak,dz,fu,dB,eZ,dh,eN,dj,ez,cK,fW,aA,aq,br,bu,aU,aZ,cL,bf,bV,bR,nJ,gJ,b7,List.getElem?_cons_zero,List.getElem?_cons_succ,List.set_cons_zero,List.set_cons_succ,lX,decide_true,List.length_map,hc,cY hf,List.map_cons,List.map_nil,fM,bL h,dD h3,cY h3,gB _ _ _ h2]
     ·simp only[af,aF,aS,bD,aM,bx,ah,aL,au,av,ay,aH,bI,bg,aG,aV,cP,bX,bk,eu,cJ,cV,eY,ak,dz,fu,dB,eZ,dh,eN,dj,ez,cK,fX,aA,aq,br,bu,aU,aZ,cL,bf,bV,bR,nJ,gJ,b7,oU,oW,List.getElem?_cons_zero,List.getElem?_cons_succ,List.set_cons_zero,List.set_cons_succ,lX,decide_true,List.length_map,hc,cY hf,List.map_cons,List.map_nil,fM,bL h,bL h3,lY h3,gB _ _ _ h2])
 exact bz (ds:=[.str aY,.lst (l.map fM)]) rfl rfl (aN 1 (g':=[some (.t (.str aY)),some (.t (.lst (l.map fM))),some (.r 0),none]) (st':=[.lst []]) rfl (bE (eL rfl rfl rfl h1) rfl)) rfl
theorem I7(a:Option Int):fN (iZ a)=true:=by induction a<;>rfl
theorem Eh(a:Option Tx):fN (aD a)=true:=by induction a<;>rfl
theorem Ht(a:Option Int) (j:Int):i7 (iZ a) (.int j)=decide (a=some j):=by
 induction a with
 |none=>rfl
 |some i=>show decide (i=j)=_;simp
theorem Ei(a:Option Int):i7 (iZ a) .none=a.isNone:=by induction a<;>rfl
theorem rX(a:Option Tx) (s:Tx):i7 (aD a) (.str s)=decide (a=some s):=by
 induction a with
 |none=>rfl
 |some i=>show decide (i=s)=_;simp
theorem wu{α:Type}(enc:α->PV) (p:α->Bool) (d:PV) (hk:fN d=true) (l:List α) (hs:∀a,fN (enc a)=true) (h:∀a,i7 (enc a) d=p a):Fo d (l.map enc)=some (l.any p):=by
 unfold Fo
 rw[hk,Bool.true_and,if_pos (by rw[List.all_map,List.all_eq_true];exact fun a _=>hs a),List.any_map]
 exact congrArg (fun q=>some (l.any q)) (funext h)
theorem mW{α:Type} [DecidableEq α] (a:α) (l:List α) [Decidable (a∈l)]:(l.any fun b=>decide (b=a))=decide (a∈l):=by
 rw[Bool.eq_iff_iff,List.any_eq_true,decide_eq_true_iff]
 exact⟨fun⟨b,hb,e⟩=>by rw[<-of_decide_eq_true e];exact hb,fun h=>⟨a,h,decide_eq_true rfl⟩⟩
theorem Av(st:aB) (j:Int) (l:List (Option Int)):gh .sL st (some (.int j)) (some (.lst (l.map iZ)))=ok (.t (.bool (!decide (some j∈l)))) st:=by
 show jF ((Fo (.int j) (l.map iZ)).map (!·)) st=_
 rw[wu iZ (fun b=>decide (b=some j)) (.int j) rfl l I7 fun a=>Ht a j,mW];rfl
theorem wz(st:aB) (l:List (Option Int)):gh .oj st (some .none) (some (.lst (l.map iZ)))=ok (.t (.bool (dP l))) st:=by
 show jF (Fo .none (l.map iZ)) st=_
 rw[wu iZ Option.isNone .none rfl l I7 Ei];rfl
theorem yh(s:Tx) (l:List (Option Tx)):(d7 s l).isSome=decide (some s∈l):=by
 induction l with
 |nil=>rfl
 |cons a r ih =>
  rw[d7]
  by_cases h:a=some s
  ·rw[if_pos h,h];simp
  ·have h':¬some s=a:=fun e=>h e.symm
   rw[if_neg h,Option.isSome_map,ih];simp[h']
theorem in_str(st:aB) (s:Tx) (l:List (Option Tx)):gh .oj st (some (.str s)) (some (.lst (l.map aD)))=ok (.t (.bool (d7 s l).isSome)) st:=by
 show jF (Fo (.str s) (l.map aD)) st=_
 rw[wu aD (fun b=>decide (b=some s)) (.str s) rfl l Eh fun a=>rX a s,mW,yh];rfl
theorem rY(s:Tx):∀(l:List (Option Tx)) (n:Nat),idxOf (.str s) (l.map aD) n=(d7 s l).map (· + n)
 |[],n=>rfl
 |a::r,n=>by
  rw[List.map_cons,d7,idxOf,rX]
  by_cases h:a=some s
  ·rw[if_pos h];simp[h]
  ·rw[if_neg h,rY s r (n+1),decide_eq_false h,if_neg (by decide),Option.map_map]
   show Option.map _ _=_;congr 1;funext x;show x+(n+1)=x+1+n;omega
theorem Aw(l:List (Option Tx)):m7 (l.map aD)=true:=by
 unfold m7;rw[List.all_eq_true];intro e he
 obtain⟨a,_,rfl⟩:=List.mem_map.mp he
 induction a<;>rfl
theorem Hu(st:aB) (s:Tx) (l:List (Option Tx)){i:Nat}(h:d7 s l=some i):mh .index .list st (.t (.lst (l.map aD))) [.str s]=ok (.t (.int i)) st:=by
 show(if m7 (l.map aD)=true then m6 ((idxOf (.str s) (l.map aD) 0).map fun n=>(n:Int)) st else none)=_
 rw[if_pos (Aw l),rY,h];rfl
theorem BR(l:List Int):intsOf (l.map PV.int)=some l:=by
 induction l with
 |nil=>rfl
 |cons a r ih=>rw[List.map_cons,intsOf,ih];rfl
theorem foldl_max(r:List Int):∀a:Int,0<r.foldl max a↔0<a\/∃b∈r,0<b:=by
 induction r with
 |nil=>intro a;simp
 |cons b r ih =>
  intro a;rw[List.foldl_cons,ih]
  constructor
  ·rintro(h|⟨c,hc,h⟩)
   ·by_cases ha:0<a
    ·exact .inl ha
    ·exact .inr ⟨b,.head _,by omega⟩
   ·exact .inr ⟨c,.tail _ hc,h⟩
  ·rintro(h|⟨c,hc,h⟩)
   ·exact .inl (by omega)
   ·cases hc with
    |head=>exact .inl (by omega)
    |tail _ hc=>exact .inr ⟨c,hc,h⟩
theorem all_some{l:List (Option Int)}(h:¬dP l=true):∃m:List Int,l=m.map some:=by
 induction l with
 |nil=>exact⟨[],rfl⟩
 |cons a r ih =>
  rw[dP,List.any_cons] at h
  induction a with
  |none=>exact absurd rfl h
  |some i =>
   obtain⟨m,hm⟩:=ih (by simpa [dP] using h)
   exact⟨i::m,by rw[hm];rfl⟩
theorem Hv(m:List Int):0<(posOf (m.map some)).length↔∃b∈m,0<b:=by
 induction m with
 |nil=>simp[posOf]
 |cons a r ih =>
  rw[List.map_cons,posOf]
  by_cases h:0<a
  ·have:rU (some a)=some (some (a-1).toNat):=if_pos h
   rw[List.filterMap_cons_some this]
   exact⟨fun _=>⟨a,.head _,h⟩,fun _=>by simp⟩
  ·have:rU (some a)=none:=if_neg h
   rw[List.filterMap_cons_none this]
   rw[posOf] at ih;rw[ih]
   constructor
   ·rintro⟨b,hb,h2⟩;exact⟨b,.tail _ hb,h2⟩
   ·rintro⟨b,hb,h2⟩
    cases hb with
    |head=>exact absurd h2 h
    |tail _ hb=>exact⟨b,hb,h2⟩
theorem Ej(st:aB){l:List (Option Int)}(h:¬dP l=true) (hn:iu l≠false):∃m:Int,xd .qz st [.lst (l.map iZ)]=ok (.t (.int m)) st/\(0<m↔0<(posOf l).length):=by
 obtain⟨m,rfl⟩:=all_some h
 induction m with
 |nil=>exact absurd rfl hn
 |cons a r =>
  refine⟨r.foldl max a,?_,?_⟩
  ·show(match(intsOf (((a::r).map some).map iZ)).bind maxOf with| some m=>ok (AV.t (.int m)) st|none=>none)=_
   rw[List.map_map,show iZ ∘ some=PV.int from rfl,BR];rfl
  ·rw[foldl_max,Hv]
   constructor
   ·rintro(h|⟨b,hb,h2⟩)
    ·exact⟨a,.head _,h⟩
    ·exact⟨b,.tail _ hb,h2⟩
   ·rintro⟨b,hb,h2⟩
    cases hb with
    |head=>exact .inl h2
    |tail _ hb=>exact .inr ⟨b,hb,h2⟩
noncomputable def MC(ix:PV) (n:Nat) (o:Option (List (Option Tx))) (kd:Tx):Gm:=[some (.t ix),some (.t (.int n)),some (.t (fJ o)),some (.t (.bool false)),some (.t (.str kd)),none,none,none,none,none,none,none,none,none,none]
theorem rZ(ix n o kd):MC ix n o kd=[some (.t ix),some (.t (.int n)),some (.t (fJ o)),some (.t (.bool false)),some (.t (.str kd)),none,none,none,none,none,none,none,none,none,none]:=rfl
theorem Ek(k:Nat) (n:Nat) (hn:n<1000) (o:Option (List (Option Tx))) (st:aB):call T (k+1) 80 [.t pR,.t (.int n),.t (fJ o),.t (.bool false)] st=s7 (iE n o .missing) st:=by
 refine bz (ds:=[pR,.int n,fJ o,.bool false]) (a:=.t (.tup [.lst (((List.range n).map some).map cF),.none])) (st':=[.fz (.lst (((List.range n).map some).map cF))]) rfl rfl (aN 1 (g':=MC pR n o bF) (st':=[]) rfl ?_) rfl
 rw[show(T 80).body.drop 1=.ifs (.cmp .eq (.var 4) (.str bF)) [.ret (.tup [(.bi .dX [(.var 1)]),.none])] []::(T 80).body.drop 2 from rfl]
 have h1:(-2000:Int)<=n/\(n:Int)<=2000:=by omega
 have h2:cH 0 n=((List.range n).map some).map cF:=by rw[x9,List.map_map];rfl
 simp only[af,aF,aS,aM,aW,ah,av,ay,aH,bI,aG,aV,cV,ak,aA,aq,eB,bS,O5,Hr,List.getElem?_cons_zero,List.getElem?_cons_succ,decide_true,List.nil_append,List.length_nil,rZ,cY h1,h2]
 rfl
noncomputable def El:List S:=[.assign 7 (.sub (.attr (.var 0) ai) (.bin .mod (.var 6) (.bi .len [(.attr (.var 0) ai)]))),.ifs (.cmp .ne (.var 7) (.int 0)) [.expr (.b4 .append (.var 5) [(.ite (.cmp .eq (.var 7) (.int 1)) (.var 6) .none)])] []]
theorem Hw(C:fj) (l:List (Option Int)) (hl:0<l.length) (hv:∀v,some v∈l->v=0\/v=1) (g1 g2 g3 g4 g8 g9 ga gb gc gd ge x:Option AV) (nd:Node) (found:List (Option Nat)) (hf:found.length<2000) (k:Nat) :
 bO C El [some (.t (vec bw (l.map iZ) .none)),g1,g2,g3,g4,some (.r 0),some (.t (.int k)),x,g8,g9,ga,gb,gc,gd,ge] [.lst (found.map cF),nd]
  = some (.next [some (.t (vec bw (l.map iZ) .none)),g1,g2,g3,g4,some (.r 0),some (.t (.int k)),some (.t (iZ (l[k % l.length]'(Nat.mod_lt _ hl)))),g8,g9,ga,gb,gc,gd,ge] [.lst ((found++(wm l k).toList).map cF),nd]):=by
 have hj:k % l.length<l.length:=Nat.mod_lt _ hl
 have h1:((l.length:Int))≠0:=by omega
 have h2:(l.map iZ)[k % l.length]? = some (iZ l[k % l.length]):=by rw[List.getElem?_map,List.getElem?_eq_getElem hj];rfl
 unfold wm El
 rw[List.getElem?_eq_getElem hj]
 have Qx:=fun v (e:l[k % l.length]=some v)=>hv v (by rw[<-e];exact List.getElem_mem hj)
 generalize l[k % l.length]=q at h2 Qx
 match q,h2,Qx with
 |none,h2,_=>simp only[af,aF,aS,aM,bx,aC,ah,aL,au,av,ay,aH,bg,cQ,aG,aV,cP,bX,xZ,D0,ak,cK,fX,aA,aq,br,bu,aU,aZ,cL,bf,bV,bR,fD,fE,b7,cC,ef,cW,gj,fY,List.getElem?_cons_zero,List.getElem?_cons_succ,List.set_cons_zero,List.set_cons_succ,j7,qa,List.length_map,cY hf,e7 _ _ _ h1,jA,h2,zE,Option.toList,List.map_append,List.map_cons,List.map_nil]
 |some v,h2,Qx =>
  rcases Qx v rfl with h|h
  ·subst h
   simp only[af,aF,bD,aM,aC,ah,aL,au,av,ay,bg,cQ,aG,aV,gT,ak,aA,aq,bR,fD,fE,b7,cC,ef,cW,gj,jl,fY,List.getElem?_cons_zero,List.getElem?_cons_succ,List.set_cons_zero,List.set_cons_succ,lX,if_true,decide_true,List.length_map,e7 _ _ _ h1,jA,h2,zE,Option.toList,List.append_nil]
  ·subst h
   simp only[af,aF,aS,aM,bx,aC,ah,aL,au,av,ay,bg,cQ,aG,aV,cP,bX,cJ,gT,ak,cK,fW,aA,aq,br,bu,aU,aZ,cL,bf,bV,bR,fD,fE,b7,cC,ef,cW,gj,iC,fY,List.getElem?_cons_zero,List.getElem?_cons_succ,List.set_cons_zero,List.set_cons_succ,j8,lX,decide_true,decide_false,List.length_map,cY hf,e7 _ _ _ h1,jA,h2,zE,Option.toList,List.map_append,List.map_cons,List.map_nil,show ¬((1:Int)=0) by decide,if_false]
theorem yi(k:Nat) (l:List (Option Int)) (hl:l.length<1000) (hv:∀v,some v∈l->v=0\/v=1) (n:Nat) (hn:n<1000) (o:Option (List (Option Tx))) (st:aB) :
  call T (k+1) 80 [.t (Ix.logical l).pv,.t (.int n),.t (fJ o),.t (.bool false)] st=s7 (iE n o (.logical l)) st:=by
 have hb:(T 80).body.drop 4=.ifs (.cmp .eq (.var 4) (.str bw)) [.assign 5 (.list []),.forR 6 [(.ite (.cmp .ne (.attr (.var 0) ai) (.list [])) (.bi .max2 [(.var 1),(.bi .len [(.attr (.var 0) ai)])]) (.int 0))] El,.ret (.tup [(.var 5),.none])] []::(T 80).body.drop 5:=rfl
 obtain⟨x,y,h2⟩ : ∃x y,ex (call T k) (.forR 6 [(.ite (.cmp .ne (.attr (.var 0) ai) (.list [])) (.bi .max2 [(.var 1),(.bi .len [(.attr (.var 0) ai)])]) (.int 0))] El)
   [some (.t (vec bw (l.map iZ) .none)),some (.t (.int n)),some (.t (fJ o)),some (.t (.bool false)),some (.t (.str bw)),some (.r 0),none,none,none,none,none,none,none,none,none] [.lst []]
   = some (.next [some (.t (vec bw (l.map iZ) .none)),some (.t (.int n)),some (.t (fJ o)),some (.t (.bool false)),some (.t (.str bw)),some (.r 0),x,y,none,none,none,none,none,none,none] [.lst ((jN l n).map cF),.lst []]):=by
  unfold jN
  by_cases h0:l.length=0
  ·rw[if_pos h0]
   obtain rfl:=List.eq_nil_of_length_eq_zero h0
   exact⟨_,_,rfl⟩
  ·rw[if_neg h0]
   have SK:0<l.length:=Nat.pos_of_ne_zero h0
   obtain⟨g',st',h1,x,y,rfl,rfl⟩:=dH (f:=bO (call T k) El) (x:=6) (n:=2) (fun(k:Nat)=>PV.int k)
    (fun pre g st=>∃x y,g=[some (.t (vec bw (l.map iZ) .none)),some (.t (.int n)),some (.t (fJ o)),some (.t (.bool false)),some (.t (.str bw)),some (.r 0),x,y,none,none,none,none,none,none,none]/\st=[.lst ((pre.filterMap (wm l)).map cF),.lst []])
    (List.range (max n l.length)) [some (.t (vec bw (l.map iZ) .none)),some (.t (.int n)),some (.t (fJ o)),some (.t (.bool false)),some (.t (.str bw)),some (.r 0),none,none,none,none,none,none,none,none,none] [.lst [],.lst []] ⟨_,_,rfl,rfl⟩ (by
     rintro p b q g st e ⟨x,y,rfl,rfl⟩
     refine⟨_,_,⟨_,_,.inl (Hw _ l SK hv _ _ _ _ _ _ _ _ _ _ _ _ _ _ ?_ b),rfl⟩,_,_,rfl,?_⟩
     ·have:=congrArg List.length e;have h:=List.length_filterMap_le (wm l) p;simp at this ⊢;omega
     ·rw[kX];rfl)
   have hr:sM [.t (.int (max (n:Int) (l.length:Int)))]=some ((List.range (max n l.length)).map fun(k:Nat)=>PV.int k):=by
    rw[show max (n:Int) (l.length:Int)=((max n l.length:Nat):Int) by omega]
    exact nM (by omega)
   refine⟨x,y,kU (st1:=[.lst [],.lst []]) ?_ hr h1⟩
   simp only[af,av,ay,cQ,aG,aV,cP,bX,ak,cK,fW,aA,aq,jf,cC,D5,ef,cW,OZ,gj,O0,eE,bS,rR,iC,fY,List.getElem?_cons_zero,List.getElem?_cons_succ,List.length_map,List.cons_append,List.nil_append,List.length_cons,List.length_nil,Nat.zero_add,bL h0]
 refine bz (ds:=[(Ix.logical l).pv,.int n,fJ o,.bool false]) (a:=.t (.tup [.lst ((jN l n).map cF),.none])) (st':=[.fz (.lst ((jN l n).map cF)),.lst []]) rfl rfl (aN 4 (g':=MC (vec bw (l.map iZ) .none) n o bw) (st':=[]) rfl ?_) rfl
 rw[hb]
 simp only[af,aF,aS,aM,aC,aW,ah,au,av,ay,aH,bI,aG,aV,cV,ak,aA,aq,jf,eB,eE,bS,List.getElem?_cons_zero,List.getElem?_cons_succ,List.set_cons_zero,List.set_cons_succ,decide_true,List.nil_append,List.length_nil,rZ,h2]
 rfl
noncomputable def Em:List S:=[.assign 9 (.and [(.cmp .ee (.var 7) .none),(.cmp .ne (.var 7) (.str []))]),.ifs (.and [(.var 9),(.cmp .ee (.var 2) .none),(.cmp .oj (.var 7) (.var 2))]) [.expr (.b4 .append (.var 5) [(.b4 .index (.var 2) [(.var 7)])])] [.ifs (.not (.var 3)) [.expr (.b4 .append (.var 5) [.none])] [.bad]]]
theorem Hx(C:fj) (o:Option (List (Option Tx))) (g0 g1 g4 g6 x ga gb gc gd ge:Option AV) (nd:Node) (found:List (Option Nat)) (hf:found.length<2000) (a:Option Tx) :
 ∃y,bO C Em [g0,g1,some (.t (fJ o)),some (.t (.bool false)),g4,some (.r 0),g6,some (.t (aD a)),some (.r 1),x,ga,gb,gc,gd,ge] [.lst (found.map cF),nd]
  = some (.next [g0,g1,some (.t (fJ o)),some (.t (.bool false)),g4,some (.r 0),g6,some (.t (aD a)),some (.r 1),some (.t (.bool y)),ga,gb,gc,gd,ge] [.lst ((found++[e8 o a]).map cF),nd]):=by
 unfold Em
 match a with
 |none=>exact⟨false,by simp only[af,aF,aS,bD,aM,bx,aC,ah,aL,au,av,ay,aH,aG,aV,cP,bX,cu,isNone_none,ak,dh,dj,kQ,kR,kT,aA,aq,br,bu,aU,aZ,cL,bf,bV,jl,iC,List.getElem?_cons_zero,List.getElem?_cons_succ,List.set_cons_zero,List.set_cons_succ,j7,rS,List.length_map,cY hf,List.map_append,List.map_cons,List.map_nil,e8]⟩
 |some s =>
  by_cases h:s=[]
  ·exact⟨false,by simp only[af,aF,aS,bD,aM,bx,aC,ah,aL,au,av,ay,aH,bI,aG,aV,cP,bX,cu,iS,cB,ak,dh,eN,dj,ez,kQ,kR,kT,aA,aq,br,bu,aU,aZ,cL,bf,bV,jl,iC,List.getElem?_cons_zero,List.getElem?_cons_succ,List.set_cons_zero,List.set_cons_succ,j7,jz,List.length_map,cY hf,List.map_append,List.map_cons,List.map_nil,e8,dD h,cY h]⟩
  ·match o with
   |none=>exact⟨true,by simp only[af,aF,aS,bD,aM,bx,aC,ah,aL,au,av,ay,aH,bI,aG,aV,cP,bX,cu,iS,isNone_none,cB,ak,dh,eN,dj,ez,kQ,kR,kT,aA,aq,br,bu,aU,aZ,cL,bf,bV,jl,iC,List.getElem?_cons_zero,List.getElem?_cons_succ,List.set_cons_zero,List.set_cons_succ,j7,jz,List.length_map,cY hf,List.map_append,List.map_cons,List.map_nil,e8,bL h,lY h,fJ,Option.bind]⟩
   |some l =>
    cases hi:d7 s l with
    |none=>exact⟨true,by simp only[af,aF,aS,bD,aM,bx,aC,ah,aL,au,av,ay,aH,bI,aG,aV,cP,bX,cu,iS,cB,mV,ak,dh,eN,dj,ez,kR,kT,aA,aq,br,bu,aU,aZ,cL,bf,bV,iC,List.getElem?_cons_zero,List.getElem?_cons_succ,List.set_cons_zero,List.set_cons_succ,j7,jz,List.length_map,cY hf,List.map_append,List.map_cons,List.map_nil,e8,bL h,lY h,fJ,Option.bind,in_str,hi,Option.isSome]⟩
    |some i=>exact⟨true,by simp only[af,aF,aS,aM,bx,aC,ah,aL,au,av,ay,aH,bI,aG,aV,cP,bX,cu,iS,cB,mV,ak,dh,eN,dj,ez,aA,aq,br,bu,aU,aZ,D3,cL,bf,bV,iC,List.getElem?_cons_zero,List.getElem?_cons_succ,List.set_cons_zero,List.set_cons_succ,j8,jz,List.length_map,cY hf,List.map_append,List.map_cons,List.map_nil,e8,bL h,lY h,fJ,Option.bind,in_str,hi,Option.isSome,Hu _ s l hi]⟩
theorem s8(k:Nat) (l:List (Option Tx)) (hl:l.length<1000) (n:Nat) (o:Option (List (Option Tx))) (st:aB) :
  call T (k+1) 80 [.t (Ix.character l).pv,.t (.int n),.t (fJ o),.t (.bool false)] st=s7 (iE n o (.character l)) st:=by
 have hb:(T 80).body.drop 5=.ifs (.cmp .eq (.var 4) (.str ao)) [.assign 5 (.list []),.assign 8 (.list []),.gk 7 (.attr (.var 0) ai) Em,.ret (.tup [(.var 5),(.ite (.var 3) (.var 8) .none)])] []::(T 80).body.drop 6:=rfl
 obtain⟨g',st',h1,x,y,rfl,rfl⟩:=dH (f:=bO (call T k) Em) (x:=7) (n:=2) aD
  (fun pre g st=>∃x y,g=[some (.t (vec ao (l.map aD) .none)),some (.t (.int n)),some (.t (fJ o)),some (.t (.bool false)),some (.t (.str ao)),some (.r 0),none,x,some (.r 1),y,none,none,none,none,none]/\st=[.lst ((pre.map (e8 o)).map cF),.lst []])
  l [some (.t (vec ao (l.map aD) .none)),some (.t (.int n)),some (.t (fJ o)),some (.t (.bool false)),some (.t (.str ao)),some (.r 0),none,none,some (.r 1),none,none,none,none,none,none] [.lst [],.lst []] ⟨_,_,rfl,rfl⟩ (by
   rintro p b q g st e ⟨x,y,rfl,rfl⟩
   obtain⟨z,hz⟩:=Hx (call T k) o (some (.t (vec ao (l.map aD) .none))) (some (.t (.int n))) (some (.t (.str ao))) none y none none none none none (.lst []) (p.map (e8 o)) (by have:=congrArg List.length e;simp at this ⊢;omega) b
   refine⟨_,_,⟨_,_,.inl hz,rfl⟩,_,_,rfl,?_⟩
   rw[List.map_append (l₁:=p)];rfl)
 have h2:=eL (C:=call T k) (x:=7) (src:=.attr (.var 0) ai) (body:=Em) (st:=[.lst [],.lst []]) (st2:=[.lst [],.lst []]) rfl rfl rfl h1
 refine bz (ds:=[(Ix.character l).pv,.int n,fJ o,.bool false]) (a:=.t (.tup [.lst ((l.map (e8 o)).map cF),.none])) (st':=[.fz (.lst ((l.map (e8 o)).map cF)),.lst []]) rfl rfl (aN 5 (g':=MC (vec ao (l.map aD) .none) n o ao) (st':=[]) rfl ?_) rfl
 rw[hb]
 simp only[af,aF,aS,aM,aC,aW,ah,au,av,ay,aH,bI,aG,aV,cV,ak,cK,fX,aA,aq,jf,eB,eE,bS,List.getElem?_cons_zero,List.getElem?_cons_succ,List.set_cons_zero,List.set_cons_succ,decide_true,List.cons_append,List.nil_append,List.length_cons,List.length_nil,Nat.zero_add,rZ,h2]
 rfl
theorem BS(c:List (Option Int)):(c.filterMap fun a=>if iT a=true then some (iZ a) else none).length=0↔iu c=false:=by
 induction c with
 |nil=>exact⟨fun _=>rfl,fun _=>rfl⟩
 |cons a r ih =>
  rw[iu,List.any_cons]
  cases h:iT a with
  |true=>rw[List.filterMap_cons_some (by rw[h];rfl)];simp
  |false=>rw[List.filterMap_cons_none (by rw[h];rfl),Bool.false_or];exact ih
noncomputable def pz:Option Int->PV
 |none=>.none
 |some i=>.int (i-1)
theorem Lc{c:List (Option Int)}(h:iu c=false):(c.filterMap fun a=>if a=some 0 then none else some (pz a))=(posOf c).map cF:=by
 unfold posOf
 rw[List.map_filterMap]
 induction c with
 |nil=>rfl
 |cons a r ih =>
  rw[iu,List.any_cons,Bool.or_eq_false_iff] at h
  have ih:=ih h.2
  have e:(if a=some 0 then none else some (pz a))=(rU a).map cF:=by
   induction a with
   |none=>rfl
   |some i =>
    have hi:¬i<0:=of_decide_eq_false h.1
    by_cases h0:i=0
    ·subst h0;rfl
    ·have h1:0<i:=by omega
     have h2:((i-1).toNat:Int)=i-1:=Int.toNat_of_nonneg (by omega)
     have h3:¬(some i=some 0):=fun e=>h0 (Option.some.inj e)
     simp only[h3,if_false,rU,cY h1,Option.map,cF,h2,pz]
  simp only[List.filterMap_cons,ih];rw[e]
theorem Hy(c:List (Option Int)) (n:Nat):((List.range n).filterMap fun(k:Nat)=>if some (-(k:Int)-1)∈c then none else some (PV.int k))=(gD c n).map cF:=by
 unfold gD
 rw[List.map_filterMap]
 congr 1;funext j
 by_cases q:some (-(j:Int)-1)∈c
 ·rw[if_pos q,if_pos q];rfl
 ·rw[if_neg q,if_neg q];rfl
noncomputable def s9(g0:Option AV) (n:Nat) (g2 g3 g4:Option AV) (c:List (Option Int)) (x y z:Option AV):Gm:=[g0,some (.t (.int n)),g2,g3,g4,none,none,none,none,none,some (.t (.lst (c.map iZ))),x,y,z,none]
theorem iF(g0 n g2 g3 g4 c x y z):s9 g0 n g2 g3 g4 c x y z=[g0,some (.t (.int n)),g2,g3,g4,none,none,none,none,none,some (.t (.lst (c.map iZ))),x,y,z,none]:=rfl
noncomputable def jB:Except Tx (List (Option Nat))->PV
 |.ok pl=>.tup [.lst (pl.map cF),.none]
 |.error m=>.str m
theorem En(C:fj) (g0 g2 g3 g4:Option AV) (c:List (Option Int)) (n:Nat) (hn:n<=2000):∃st',bO C ((T 80).body.drop 7) (s9 g0 n g2 g3 g4 c none none none) []=some (.ret (.t (jB (cD c n))) st'):=by
 rw[show(T 80).body.drop 7=[.assign 12 (.comp 11 (.var 10) (some (.and [(.cmp .ee (.var 11) .none),(.cmp .lt (.var 11) (.int 0))])) (.var 11)),
   .ifs (.cmp .eq (.var 12) (.list [])) [.ret (.tup [(.comp 13 (.var 10) (some (.cmp .ne (.var 13) (.int 0))) (.ite (.cmp .is (.var 13) .none) .none (.bin .sub (.var 13) (.int 1)))),.none])] [],
   .ifs (.cmp .oj .none (.var 10)) [.ret (.str bZ)] [],.ifs (.cmp .gt (.bi .qz [(.var 10)]) (.int 0)) [.ret (.str b3)] [],
   .ret (.tup [(.cM 14 [(.var 1)] (some (.cmp .sL (.bin .sub (.neg (.var 14)) (.int 1)) (.var 10))) (.var 14)),.none])] from rfl]
 have h1:turns (dJ C 11 (some (.and [(.cmp .ee (.var 11) .none),(.cmp .lt (.var 11) (.int 0))])) (.var 11) (s9 g0 n g2 g3 g4 c none none none)) (c.map iZ) []=ok (c.filterMap fun a=>if iT a=true then some (iZ a) else none) []:=by
  refine jy _ _ _ fun a _=>⟨[],?_,rfl⟩
  unfold dJ
  rw[iF]
  match a with
  |none=>simp only[af,av,ay,aH,aG,aV,cu,isNone_none,ak,dh,dj,kQ,dF,mG,jk,jl,List.getElem?_cons_zero,List.getElem?_cons_succ,List.set_cons_zero,List.set_cons_succ,qa,iT,Bool.false_eq_true,if_false]
  |some i =>
   by_cases h:i<0
   ·simp only[af,av,ay,aH,bg,aG,aV,cu,fV,bN,ak,dh,eN,dj,ez,dF,mG,jk,iC,List.getElem?_cons_zero,List.getElem?_cons_succ,List.set_cons_zero,List.set_cons_succ,lX,if_true,iT,dD h]
   ·simp only[af,av,ay,aH,bg,aG,aV,cu,fV,bN,ak,dh,eN,dj,ez,dF,mG,jk,iC,List.getElem?_cons_zero,List.getElem?_cons_succ,List.set_cons_zero,List.set_cons_succ,lX,iT,bL h,Bool.false_eq_true,if_false]
 have UE:ev C (.comp 11 (.var 10) (some (.and [(.cmp .ee (.var 11) .none),(.cmp .lt (.var 11) (.int 0))])) (.var 11)) (s9 g0 n g2 g3 g4 c none none none) []=alloc [] (.lst (c.filterMap fun a=>if iT a=true then some (iZ a) else none)):=dR rfl rfl rfl h1
 have hb:=BS c
 generalize(c.filterMap fun a=>if iT a=true then some (iZ a) else none)=bl at UE hb
 have hA:ex C (.assign 12 (.comp 11 (.var 10) (some (.and [(.cmp .ee (.var 11) .none),(.cmp .lt (.var 11) (.int 0))])) (.var 11))) (s9 g0 n g2 g3 g4 c none none none) []=some (.next (s9 g0 n g2 g3 g4 c none (some (.r 0)) none) [.lst bl]):=by
  show(ev C _ _ _).out _=_
  rw[UE];rfl
 rw[ah,hA,au]
 unfold cD
 by_cases n1:iu c=false
 ·rw[if_pos n1]
  have n2:=hb.2 n1
  have h2:turns (dJ C 13 (some (.cmp .ne (.var 13) (.int 0))) (.ite (.cmp .is (.var 13) .none) .none (.bin .sub (.var 13) (.int 1))) (s9 g0 n g2 g3 g4 c none (some (.r 0)) none)) (c.map iZ) [.lst bl,.lst []]=ok (c.filterMap fun a=>if a=some 0 then none else some (pz a)) [.lst bl,.lst []]:=by
   refine jy _ _ _ fun a _=>⟨[.lst bl,.lst []],?_,rfl⟩
   unfold dJ
   rw[iF]
   match a with
   |none=>simp only[af,av,ay,aH,bg,aG,aV,bk,xZ,isNone_none,ak,cK,fW,dF,mG,jk,List.getElem?_cons_zero,List.getElem?_cons_succ,List.set_cons_zero,List.set_cons_succ,qa,if_true,pz,show ¬((none:Option Int)=some 0) by decide,if_false]
   |some i =>
    by_cases h:i=0
    ·subst h;simp only[af,av,ay,aH,bg,aG,aV,bk,gT,bN,ak,cK,fX,dF,b7,eK,mG,jk,jl,List.getElem?_cons_zero,List.getElem?_cons_succ,List.set_cons_zero,List.set_cons_succ,lX,if_true,decide_true,pz,Bool.false_eq_true,if_false]
    ·have h3:¬(some i=some 0):=fun e=>h (Option.some.inj e)
     simp only[af,av,ay,aH,bg,aG,aV,bk,gT,bN,ak,cK,fX,dF,b7,eK,mG,jk,iC,List.getElem?_cons_zero,List.getElem?_cons_succ,List.set_cons_zero,List.set_cons_succ,lX,if_true,pz,bL h,h3,if_false]
  rw[Lc n1] at h2
  have UG:ev C (.comp 13 (.var 10) (some (.cmp .ne (.var 13) (.int 0))) (.ite (.cmp .is (.var 13) .none) .none (.bin .sub (.var 13) (.int 1)))) (s9 g0 n g2 g3 g4 c none (some (.r 0)) none) [.lst bl,.lst []]=_:=dR rfl rfl rfl h2
  rw[iF] at UG ⊢
  refine⟨[.lst bl,.lst [],.fz (.lst ((posOf c).map cF))],?_⟩
  simp only[af,aF,aS,aM,aW,ah,av,ay,aH,aG,cP,bX,ak,aA,aq,jf,eB,eE,bS,nK,List.getElem?_cons_zero,List.getElem?_cons_succ,List.cons_append,List.nil_append,List.length_cons,List.length_nil,Nat.zero_add,Nat.reduceAdd,UG,dD n2]
  rfl
 ·rw[if_neg n1]
  have n2:¬bl.length=0:=fun e=>n1 (hb.1 e)
  by_cases m1:dP c=true
  ·rw[if_pos m1,iF]
   exact⟨_,by simp only[af,aF,aS,bD,aM,aW,ah,aL,au,bB,av,ay,aH,bI,aG,aV,cP,bX,ak,aA,jf,eE,bS,nK,List.getElem?_cons_zero,List.getElem?_cons_succ,List.cons_append,List.nil_append,List.length_cons,List.length_nil,Nat.zero_add,bL n2,wz,m1];rfl⟩
  ·rw[if_neg m1]
   have m2:=(Bool.not_eq_true _).mp m1
   obtain⟨m,hm1,Ms⟩:=Ej [.lst bl,.lst []] m1 n1
   by_cases p1:0<(posOf c).length
   ·rw[if_pos p1,iF]
    exact⟨_,by simp only[af,aF,aS,bD,aM,aW,ah,aL,au,bB,av,ay,aH,bI,bg,aG,aV,cP,bX,dW,ak,aA,aq,jf,uq,ef,cW,eE,bS,nK,List.getElem?_cons_zero,List.getElem?_cons_succ,List.cons_append,List.nil_append,List.length_cons,List.length_nil,Nat.zero_add,bL n2,wz,m2,hm1,dD (Ms.2 p1)];rfl⟩
   ·rw[if_neg p1]
    have p2:¬0<m:=fun e=>p1 (Ms.1 e)
    have h3:turns (dJ C 14 (some (.cmp .sL (.bin .sub (.neg (.var 14)) (.int 1)) (.var 10))) (.var 14) (s9 g0 n g2 g3 g4 c none (some (.r 0)) none)) ((List.range n).map fun(k:Nat)=>PV.int k) [.lst bl,.lst []]=ok ((List.range n).filterMap fun(k:Nat)=>if some (-(k:Int)-1)∈c then none else some (PV.int k)) [.lst bl,.lst []]:=by
     refine jy _ _ _ fun d _=>⟨[.lst bl,.lst []],?_,rfl⟩
     unfold dJ
     rw[iF]
     by_cases q:some (-(d:Int)-1)∈c
     ·simp only[af,av,ay,bg,aG,aV,ak,dF,b7,eK,oU,oW,mG,jk,jl,List.getElem?_cons_zero,List.getElem?_cons_succ,List.set_cons_zero,List.set_cons_succ,Av,dD q,cY q,Bool.false_eq_true,if_false]
     ·simp only[af,av,ay,bg,aG,aV,ak,dF,b7,eK,oU,oW,mG,jk,iC,List.getElem?_cons_zero,List.getElem?_cons_succ,List.set_cons_zero,List.set_cons_succ,if_true,Av,bL q,lY q]
    rw[Hy] at h3
    have UH:ev C (.cM 14 [(.var 1)] (some (.cmp .sL (.bin .sub (.neg (.var 14)) (.int 1)) (.var 10))) (.var 14)) (s9 g0 n g2 g3 g4 c none (some (.r 0)) none) [.lst bl,.lst []]=_:=pQ rfl (nM hn) h3
    rw[iF] at UH ⊢
    refine⟨[.lst bl,.lst [],.fz (.lst ((gD c n).map cF))],?_⟩
    simp only[af,aF,bD,aM,aW,ah,aL,au,av,ay,aH,bg,aG,aV,cP,bX,dW,ak,aA,aq,jf,uq,ef,cW,eB,eE,bS,nK,List.getElem?_cons_zero,List.getElem?_cons_succ,List.cons_append,List.nil_append,List.length_cons,List.length_nil,Nat.zero_add,Nat.reduceAdd,UH,bL n2,wz,m2,hm1,bL p2]
    rfl
theorem yj(k:Nat) (l:List (Option Int)) (hl:l.length<1000) (n:Nat) (hn:n<1000) (o:Option (List (Option Tx))) (st:aB) :
  call T (k+2) 80 [.t (Ix.integer l).pv,.t (.int n),.t (fJ o),.t (.bool false)] st=s7 (iE n o (.integer l)) st:=by
 obtain⟨st',h⟩:=En (call T (k+1)) (some (.t (vec aa (l.map iZ) .none))) (some (.t (fJ o))) (some (.t (.bool false))) (some (.t (.str aa))) l n (by omega)
 have hc:=yg k l (by omega) []
 have e:s7 (cD l n) st=ok (.t (jB (cD l n))) st:=by cases cD l n<;>rfl
 show _=s7 (cD l n) st
 rw[e]
 refine bz (ds:=[(Ix.integer l).pv,.int n,fJ o,.bool false]) rfl rfl (aN 6 (g':=MC (vec aa (l.map iZ) .none) n o aa) (st':=[]) rfl (bE ?_ h)) rfl
 show ex _ (.assign 10 (.call 79 [(.var 4),(.attr (.var 0) ai)])) _ _=_
 simp only[af,aF,aC,av,ay,cQ,aA,aq,bW,fY,List.getElem?_cons_zero,List.getElem?_cons_succ,List.set_cons_zero,List.set_cons_succ,rZ,iF,hc]
theorem zI(k:Nat) (l:List (Option (Int×Int))) (hl:l.length<1000) (hd:∀p∈l,Ft p) (n:Nat) (hn:n<1000) (o:Option (List (Option Tx))) (st:aB) :
  call T (k+2) 80 [.t (Ix.eF l).pv,.t (.int n),.t (fJ o),.t (.bool false)] st=s7 (iE n o (.eF l)) st:=by
 obtain⟨st',h⟩:=En (call T (k+1)) (some (.t (vec aY (l.map fM) .none))) (some (.t (fJ o))) (some (.t (.bool false))) (some (.t (.str aY))) (l.map iD) n (by omega)
 have hc:=zH k l (by omega) hd []
 have e:s7 (cD (l.map iD) n) st=ok (.t (jB (cD (l.map iD) n))) st:=by cases cD (l.map iD) n<;>rfl
 show _=s7 (cD (l.map iD) n) st
 rw[e]
 refine bz (ds:=[(Ix.eF l).pv,.int n,fJ o,.bool false]) rfl rfl (aN 6 (g':=MC (vec aY (l.map fM) .none) n o aY) (st':=[]) rfl (bE ?_ h)) rfl
 show ex _ (.assign 10 (.call 79 [(.var 4),(.attr (.var 0) ai)])) _ _=_
 simp only[af,aF,aC,av,ay,cQ,aA,aq,bW,fY,List.getElem?_cons_zero,List.getElem?_cons_succ,List.set_cons_zero,List.set_cons_succ,rZ,iF,hc]
theorem Hz(k:Nat) (ix:Ix) (hx:ix.ok) (n:Nat) (hn:n<1000) (o:Option (List (Option Tx))) (st:aB):call T (k+2) 80 [.t ix.pv,.t (.int n),.t (fJ o),.t (.bool false)] st=s7 (iE n o ix) st:=by
 match ix,hx with
 |.missing,_=>exact Ek _ n hn o st
 |.null,_=>rfl
 |.list,_=>rfl
 |.logical l,hx=>exact yi _ l hx.1 hx.2 n hn o st
 |.integer l,hx=>exact yj k l hx n hn o st
 |.eF l,hx=>exact zI k l hx.1 hx.2 n hn o st
 |.character l,hx=>exact s8 _ l hx n o st
set_option genCtorIdx false in
inductive It
 |sym (s:Tx)|int (i:Int)|chr (s:Tx)|null
noncomputable def It.ctorIdx(t:It):Nat:=It.casesOn (motive:=fun _=>Nat) t (fun _=>0) (fun _=>1) (fun _=>2) 3
noncomputable def It.pv:It->PV
 |.sym s=>SJ s
 |.int i=>vec aa [.int i] .none
 |.chr s=>vec ao [.str s] .none
 |.null=>cU
noncomputable def It.view:It->PV
 |.sym s=>.tup [.str cS,.str s]
 |.int i=>.tup [.str aa,.lst [.int i],.aK []]
 |.chr s=>.tup [.str ao,.lst [.str s],.aK []]
 |.null=>.str bq
theorem nQ(k:Nat) (it:It) (st:aB):call T (k+2) 81 [.t it.pv] st=ok (.t it.view) st:=by induction it<;>rfl
theorem kY(k:Nat) (m:Tx) (st:aB):call T (k+2) 81 [.t (.str m)] st=ok (.t (.str m)) st:=rfl
noncomputable def nR(bK:List It) (tg:List PV):PV:=.tup [.str aI,.lst (bK.map It.view),.lst tg]
theorem views(k:Nat) (x:Nat) (g:Gm) (hx:x<g.length) (bK:List It) (st:aB) (hb:back st.length st=some st):turns (dJ (call T (k+2)) x none (.call 81 [(.var x)]) g) (bK.map It.pv) st=ok (bK.map It.view) st:=by
 refine lQ It.pv It.view bK fun it _=>⟨st,?_,hb⟩
 unfold dJ
 simp only[af,av,ay,aA,aq,dF,bW,j6,if_true,List.getElem?_set_self hx,nQ k it]
theorem gE(k:Nat) (bK:List It) (tg:List PV) (st:aB):call T (k+3) 81 [.t (bA (bK.map It.pv) tg)] st=ok (.t (nR bK tg)) st:=by
 refine bz (ds:=[bA (bK.map It.pv) tg]) (a:=.t (nR bK tg)) (st':=[.fz (.lst (bK.map It.view)),.fz (.lst tg)]) rfl rfl (aN 3 (g':=[some (.t (bA (bK.map It.pv) tg)),none,none,none,none]) (st':=[]) rfl ?_) rfl
 rw[show(T 81).body.drop 3=.ifs (.cmp .eq (.attr (.var 0) aj) (.str aI)) [.ret (.tup [(.str aI),(.comp 1 (.attr (.var 0) ai) none (.call 81 [(.var 1)])),(.bi .list [(.attr (.var 0) b6)])])] []::(T 81).body.drop 4 from rfl]
 have h:=views k 1 [some (.t (bA (bK.map It.pv) tg)),none,none,none,none] (show 1<5 by decide) bK [] rfl
 have h':=dR (C:=call T (k+2)) (src:=.attr (.var 0) ai) (st:=[]) rfl rfl rfl h
 have hg:∀st,uU st (.t (bA (bK.map It.pv) tg)) aj=ok (.t (.str aI)) st:=fun st=>rfl
 simp only[af,aF,aS,aM,aW,ah,av,ay,bI,cQ,aG,aV,cV,ak,aA,aq,ef,cW,eB,bS,BL,KV,qt,List.getElem?_cons_zero,decide_true,List.cons_append,List.nil_append,List.length_cons,List.length_nil,Nat.zero_add,h',hg]
 rfl
noncomputable def jP:Option (List PV)->PV
 |none=>.none
 |some l=>.aK [(bG,vec ao l .none)]
noncomputable def Fv:Option (List PV)->PV
 |none=>.aK []
 |some l=>.aK [(bG,.tup [.str ao,.lst l,.aK []])]
theorem BU(k:Nat) (bK:List It) (o:Option (List PV)) (st:aB):call T (k+4) 81 [.t (vec aE (bK.map It.pv) (jP o))] st=ok (.t (.tup [.str aE,.lst (bK.map It.view),Fv o])) st:=by
 match o with
 |none =>
  refine bz (ds:=[vec aE (bK.map It.pv) .none]) (a:=.t (.tup [.str aE,.lst (bK.map It.view),.aK []])) (st':=[.fz (.aK []),.fz (.lst (bK.map It.view))]) rfl rfl (aN 6 (g':=[some (.t (vec aE (bK.map It.pv) .none)),none,some (.r 0),none,none]) (st':=[.aK []]) rfl ?_) rfl
  rw[show(T 81).body.drop 6=.ifs (.cmp .oj (.attr (.var 0) aj) (.tup [(.str aE),(.str cI),(.str bH)])) [.ret (.tup [(.attr (.var 0) aj),(.comp 4 (.attr (.var 0) ai) none (.call 81 [(.var 4)])),(.var 2)])] []::(T 81).body.drop 7 from rfl]
  have h:=views (k+1) 4 [some (.t (vec aE (bK.map It.pv) .none)),none,some (.r 0),none,none] (show 4<5 by decide) bK [.aK []] rfl
  have h':=dR (C:=call T (k+3)) (src:=.attr (.var 0) ai) (st:=[.aK []]) (st2:=[.aK []]) rfl rfl rfl h
  have hc:ev (call T (k+3)) (.cmp .oj (.attr (.var 0) aj) (.tup [(.str aE),(.str cI),(.str bH)])) [some (.t (vec aE (bK.map It.pv) .none)),none,some (.r 0),none,none] [.aK []]=ok (.t (.bool true)) [.aK []]:=rfl
  simp only[ah,aM,hc,aF,ak,aS]
  simp only[af,aW,av,ay,cQ,aA,aq,eB,bS,wg,List.getElem?_cons_zero,List.getElem?_cons_succ,List.cons_append,List.nil_append,List.length_cons,List.length_nil,Nat.zero_add,h']
  rfl
 |some l =>
  refine bz (ds:=[vec aE (bK.map It.pv) (jP (some l))]) (a:=.t (.tup [.str aE,.lst (bK.map It.view),Fv (some l)])) (st':=[.aK [],.fz (Fv (some l)),.fz (.lst (bK.map It.view))]) rfl rfl (aN 6 (g':=[some (.t (vec aE (bK.map It.pv) (jP (some l)))),none,some (.r 1),none,none]) (st':=[.aK [],.aK [(bG,.tup [.str ao,.lst l,.aK []])]]) rfl ?_) rfl
  rw[show(T 81).body.drop 6=.ifs (.cmp .oj (.attr (.var 0) aj) (.tup [(.str aE),(.str cI),(.str bH)])) [.ret (.tup [(.attr (.var 0) aj),(.comp 4 (.attr (.var 0) ai) none (.call 81 [(.var 4)])),(.var 2)])] []::(T 81).body.drop 7 from rfl]
  have h:=views (k+1) 4 [some (.t (vec aE (bK.map It.pv) (jP (some l)))),none,some (.r 1),none,none] (show 4<5 by decide) bK [.aK [],.aK [(bG,.tup [.str ao,.lst l,.aK []])]] rfl
  have h':=dR (C:=call T (k+3)) (src:=.attr (.var 0) ai) (st:=[.aK [],.aK [(bG,.tup [.str ao,.lst l,.aK []])]]) (st2:=[.aK [],.aK [(bG,.tup [.str ao,.lst l,.aK []])]]) rfl rfl rfl h
  have hc:ev (call T (k+3)) (.cmp .oj (.attr (.var 0) aj) (.tup [(.str aE),(.str cI),(.str bH)])) [some (.t (vec aE (bK.map It.pv) (jP (some l)))),none,some (.r 1),none,none] [.aK [],.aK [(bG,.tup [.str ao,.lst l,.aK []])]]=ok (.t (.bool true)) [.aK [],.aK [(bG,.tup [.str ao,.lst l,.aK []])]]:=rfl
  simp only[ah,aM,hc,aF,ak,aS]
  simp only[af,aW,av,ay,cQ,aA,aq,eB,bS,wg,List.getElem?_cons_zero,List.getElem?_cons_succ,List.cons_append,List.nil_append,List.length_cons,List.length_nil,Nat.zero_add,Nat.reduceAdd,h']
  rfl
noncomputable def eO:Option Tx->PV
 |none=>.str []
 |some s=>.str s
theorem uC(C:fj) (x:Nat) (g:Gm) (hx:x<g.length) (tO:List (Option Tx)) (st:aB) (hb:back st.length st=some st):turns (dJ C x none (.ite (.cmp .ee (.var x) .none) (.var x) (.str [])) g) (tO.map aD) st=ok (tO.map eO) st:=by
 refine lQ aD eO tO fun a _=>⟨st,?_,hb⟩
 unfold dJ
 induction a with
 |none=>simp only[af,av,ay,aH,bI,aG,aV,cu,isNone_none,ak,cK,fX,dF,j6,jl,rS,if_true,List.getElem?_set_self hx,eO]
 |some s=>simp only[af,av,ay,aH,aG,aV,cu,cB,ak,cK,fW,dF,j6,iC,jz,if_true,List.getElem?_set_self hx,eO]
noncomputable def r9:Option Tx->Option Tx
 |none=>some []
 |some s=>some s
theorem zJ(tO:List (Option Tx)):tO.map eO=(tO.map r9).map aD:=by
 rw[List.map_map];exact List.map_congr_left fun a _=>by induction a<;>rfl
noncomputable def O8:List S:=[.ifs (.or [(.cmp .is (.var 7) .none),(.cmp .ge (.var 7) (.bi .len [(.attr (.var 0) b6)])),(.cmp .eq (.sub (.attr (.var 0) b6) (.var 7)) (.str []))]) [.expr (.b4 .append (.var 6) [.none])] [.expr (.b4 .append (.var 6) [(.sub (.attr (.var 0) b6) (.var 7))])]]
theorem Ld(C:fj) (l:List PV) (tO:List (Option Tx)) (ht:∀s,some s∈tO->s≠[]) (g1 g2 g3 g4 g5:Option AV) (n0 n1 n2:Node) (found:List PV) (hf:found.length<2000) (p:Option Nat) :
 bO C O8 [some (.t (bA l (tO.map aD))),g1,g2,g3,g4,g5,some (.r 3),some (.t (cF p))] [n0,n1,n2,.lst found]
  = some (.next [some (.t (bA l (tO.map aD))),g1,g2,g3,g4,g5,some (.r 3),some (.t (cF p))] [n0,n1,n2,.lst (found++[aT (tO.map aD) .none p])]):=by
 unfold O8
 induction p with
 |none=>simp only[af,aF,aS,aM,bx,ah,aL,au,av,ay,aH,aG,aV,cP,bX,bk,isNone_none,ak,dz,dB,j5,aA,aq,br,bu,aU,aZ,cL,bf,bV,List.getElem?_cons_zero,List.getElem?_cons_succ,List.set_cons_zero,List.set_cons_succ,j7,cY hf,zB]
 |some i =>
  by_cases h:tO.length<=i
  ·have h':(tO.map aD).length<=i:=by rw[List.length_map];exact h
   simp only[af,aF,aS,aM,bx,ah,aL,au,av,ay,aH,cQ,aG,aV,cP,bX,bk,eu,bN,ak,dz,dB,j5,eZ,aA,aq,br,bu,aU,aZ,cL,bf,bV,cC,ef,cW,gj,qt,List.getElem?_cons_zero,List.getElem?_cons_succ,List.set_cons_zero,List.set_cons_succ,j8,List.length_map,cY hf,rT (tO.map aD) .none h',Int.ofNat_le,dD h]
  ·have h2:i<tO.length:=Nat.lt_of_not_le h
   have h3:(tO.map aD)[i]? = some (aD tO[i]):=by rw[List.getElem?_map,List.getElem?_eq_getElem h2];rfl
   have h4:aT (tO.map aD) .none (some i)=aD tO[i]:=by
    rw[wh (tO.map aD) .none (by rw[List.length_map];exact h2),List.getElem_map]
   have h5:=fun s (e:tO[i]=some s)=>ht s (by rw[<-e];exact List.getElem_mem h2)
   generalize tO[i]=q at h3 h4 h5
   match q,h3,h4,h5 with
   |none,h3,h4,_=>simp only[af,aF,bD,aM,bx,ah,aL,au,av,ay,aH,bI,cQ,aG,aV,cP,bX,bk,eu,bN,ak,dz,fu,dB,eZ,aA,aq,br,bu,aU,aZ,cL,bf,bV,bR,fD,fE,cC,ef,cW,gj,BN,qt,List.getElem?_cons_zero,List.getElem?_cons_succ,List.set_cons_zero,List.set_cons_succ,j8,rS,List.length_map,cY hf,h4,Int.ofNat_le,bL h,h3]
   |some s,h3,h4,h5=>simp only[af,aF,bD,aM,bx,ah,aL,au,av,ay,aH,bI,cQ,aG,aV,cP,bX,bk,eu,cV,bN,ak,dz,fu,dB,eZ,aA,aq,br,bu,aU,aZ,cL,bf,bV,bR,fD,fE,cC,ef,cW,gj,qt,List.getElem?_cons_zero,List.getElem?_cons_succ,List.set_cons_zero,List.set_cons_succ,j8,jz,List.length_map,cY hf,h4,Int.ofNat_le,bL h,h3,bL (h5 s rfl)]
noncomputable def I8(bK:List It) (tO:List (Option Tx)):Except Tx (List (Option Nat))->aB->R AV
 |.ok pl,st=>if pl.length=0 then Mine.ok (.t cU) st else Mine.ok (.t (bA (pl.map (aT (bK.map It.pv) cU)) (pl.map (aT (tO.map aD) .none)))) st
 |.error m,st=>some (.error (m,st))
theorem gF{C:fj}{c:gZ}{f:Nat}{l:List E}{g:Gm}{as:List AV}{st st1 st2:aB}(h1:gg C l g st=ok as st1) (h2:C f (.r st1.length::as) (st1++[.inst c []])=ok (.t .none) st2):ev C (.new c f l) g st=ok (.r st1.length) st2:=by
 show R.bind (gg C l g st) _=_
 rw[h1,af]
 show R.bind (C f (.r st1.length::as) (st1++[.inst c []])) _=_
 rw[h2,af];rfl
theorem qu{ix:Ix}(hx:ix.ok){n:Nat}(hn:n<1000){o:Option (List (Option Tx))}{pl:List (Option Nat)}(h:iE n o ix=.ok pl):pl.length<=1000:=by
 have hw:∀(c:List (Option Int)),c.length<1000->cD c n=.ok pl->pl.length<=1000:=by
  intro c hc h
  unfold cD at h
  by_cases h1:iu c=false
  ·rw[if_pos h1] at h;(injection h with h;subst h);exact Nat.le_trans (ux c) (Nat.le_of_lt hc)
  ·rw[if_neg h1] at h
   by_cases h2:dP c=true
   ·rw[if_pos h2] at h;injection h
   ·rw[if_neg h2] at h
    by_cases h3:0<(posOf c).length
    ·rw[if_pos h3] at h;injection h
    ·rw[if_neg h3] at h;(injection h with h;subst h)
     refine Nat.le_trans (List.length_filterMap_le _ _) ?_
     rw[List.length_range];omega
 match ix,hx,h with
 |.missing,_,h=>(injection h with h;subst h);simp;omega
 |.null,_,h=>(injection h with h;subst h);simp
 |.logical l,hx,h =>
  (injection h with h;subst h);unfold jN
  by_cases h0:l.length=0
  ·rw[if_pos h0];simp
  ·rw[if_neg h0]
   refine Nat.le_trans (List.length_filterMap_le _ _) ?_
   have:=hx.1
   rw[List.length_range];omega
 |.integer l,hx,h=>exact hw l hx h
 |.eF l,hx,h=>exact hw (l.map iD) (by rw[List.length_map];exact hx.1) h
 |.character l,hx,h =>
  injection h with h;subst h
  have hx:l.length<1000:=hx
  simp;omega
noncomputable def jQ(tO:List (Option Tx)):Prop:=tO.length<1000/\∀s,some s∈tO->s≠[]/\s≠b9
theorem Eo{tO:List (Option Tx)}(h:jQ tO):okN (some (tO.map r9)):=by
 intro l hl;(injection hl with hl;subst hl)
 refine⟨by have:=h.1;simp;omega,fun s hs=>?_⟩
 obtain⟨a,ha,e⟩:=List.mem_map.mp hs
 induction a with
 |none=>(injection e with e;subst e);decide
 |some t=>(injection e with e;subst e);exact(h.2 _ ha).2
noncomputable def iG(l:List PV):List Node:=[.lst l,.inst .aQ [(aj,.t (.str aE)),(ai,.r 0),(az,.t .none),(aX,.t (.bool false))]]
noncomputable def O9(bK:List It) (tO:List (Option Tx)) (pl:List (Option Nat)):List Node:=[.fz (.lst (bK.map It.pv)),.fz (vec aE (bK.map It.pv) .none),.fz (.lst (tO.map eO)),.lst (pl.map (aT (tO.map aD) .none)),.inst .call [(aj,.t (.str aI)),(ai,.t (.lst (pl.map (aT (bK.map It.pv) cU)))),(b6,.r 3),(az,.t .none),(jJ,.t .none)]]
theorem yk(k:Nat) (bK:List It) (hi:bK.length<1000) (tO:List (Option Tx)) (ht:jQ tO) (ix:Ix) (hx:ix.ok) (hm:ix≠.missing) (st:aB) :
  call T (k+7) 42 [.t (bA (bK.map It.pv) (tO.map aD)),.t (.lst [ix.pv])] st=I8 bK tO (iE bK.length (some (tO.map r9)) ix) st:=by
 have sd:=positions (k+1) ix hx hm bK.length hi (some (tO.map r9)) (Eo ht)
 have hlen:=fun pl=>qu hx hi (o:=some (tO.map r9)) (pl:=pl)
 generalize iE bK.length (some (tO.map r9)) ix=D at sd hlen
 have h2:=dR (C:=call T (k+6)) (x:=3) (src:=.attr (.var 0) b6) (c:=none) (e:=.ite (.cmp .ee (.var 3) .none) (.var 3) (.str [])) (g:=[some (.t (bA (bK.map It.pv) (tO.map aD))),some (.t (.lst [ix.pv])),some (.r 1),none,none,none,none,none]) (st:=iG (bK.map It.pv)) (st2:=iG (bK.map It.pv)) rfl rfl rfl
  (uC _ 3 [some (.t (bA (bK.map It.pv) (tO.map aD))),some (.t (.lst [ix.pv])),some (.r 1),none,none,none,none,none] (show 3<8 by decide) tO _ rfl)
 have s2:bO (call T (k+6)) ((T 42).body.take 3) [some (.t (bA (bK.map It.pv) (tO.map aD))),some (.t (.lst [ix.pv])),none,none,none,none,none,none] [] =
   some (.next [some (.t (bA (bK.map It.pv) (tO.map aD))),some (.t (.lst [ix.pv])),some (.r 1),none,some (.r 2),none,none,none] (iG (bK.map It.pv)++[Node.lst (tO.map eO)])):=by
  refine aN 2 (g':=[some (.t (bA (bK.map It.pv) (tO.map aD))),some (.t (.lst [ix.pv])),some (.r 1),none,none,none,none,none]) (st':=iG (bK.map It.pv)) rfl ?_
  show bO _ [.assign 4 (.comp 3 (.attr (.var 0) b6) none (.ite (.cmp .ee (.var 3) .none) (.var 3) (.str [])))] _ _=_
  simp only[ah,aC,h2];rfl
 have h3:ev (call T (k+6)) (.call 26 [(.sub (.var 1) (.int 0)),(.bi .len [(.attr (.var 2) ai)]),(.var 4),(.bool false)]) [some (.t (bA (bK.map It.pv) (tO.map aD))),some (.t (.lst [ix.pv])),some (.r 1),none,some (.r 2),none,none,none] (iG (bK.map It.pv)++[Node.lst (tO.map eO)])=zG D (iG (bK.map It.pv)++[Node.fz (PV.lst (tO.map eO))]):=by
  refine dG (f:=26) (as:=[.t ix.pv,.t (.int bK.length),.r 2,.t (.bool false)]) (ds:=[ix.pv,.int bK.length,.lst (tO.map eO),.bool false]) (st1:=iG (bK.map It.pv)++[Node.lst (tO.map eO)]) (st2:=iG (bK.map It.pv)++[Node.fz (PV.lst (tO.map eO))]) ?_ rfl rfl ?_
  ·rw[<-List.length_map (f:=It.pv)];rfl
  ·rw[zJ];exact sd _
 induction D with
 |error m =>
  refine fG (ds:=[bA (bK.map It.pv) (tO.map aD),.lst [ix.pv]]) (st':=iG (bK.map It.pv)++[Node.fz (PV.lst (tO.map eO))]) rfl rfl (aN 3 s2 ?_)
  rw[show(T 42).body.drop 3=.assign 5 (.sub (.call 26 [(.sub (.var 1) (.int 0)),(.bi .len [(.attr (.var 2) ai)]),(.var 4),(.bool false)]) (.int 0))::(T 42).body.drop 4 from rfl]
  simp only[ah,aC,bR,h3];rfl
 |ok pl =>
  have hl:=hlen pl rfl
  have s3:bO (call T (k+6)) ((T 42).body.take 4) [some (.t (bA (bK.map It.pv) (tO.map aD))),some (.t (.lst [ix.pv])),none,none,none,none,none,none] [] =
   some (.next [some (.t (bA (bK.map It.pv) (tO.map aD))),some (.t (.lst [ix.pv])),some (.r 1),none,some (.r 2),some (.t (.lst (pl.map cF))),none,none] (iG (bK.map It.pv)++[Node.fz (PV.lst (tO.map eO))])):=by
   refine aN 3 s2 ?_
   show bO _ [.assign 5 (.sub (.call 26 [(.sub (.var 1) (.int 0)),(.bi .len [(.attr (.var 2) ai)]),(.var 4),(.bool false)]) (.int 0))] _ _=_
   simp only[ah,aC,bR,h3];rfl
  show _=if pl.length=0 then Mine.ok (AV.t cU) st else Mine.ok (AV.t (bA (pl.map (aT (bK.map It.pv) cU)) (pl.map (aT (tO.map aD) .none)))) st
  by_cases h0:pl.length=0
  ·rw[if_pos h0]
   obtain rfl:=List.eq_nil_of_length_eq_zero h0
   exact bz (ds:=[bA (bK.map It.pv) (tO.map aD),.lst [ix.pv]]) rfl rfl (aN 4 s3 rfl) rfl
  ·rw[if_neg h0]
   have SM:¬(pl.length:Int)=0:=by omega
   obtain⟨g',st',h1,x,rfl,rfl⟩:=dH (f:=bO (call T (k+6)) O8) (x:=7) (n:=4) cF
    (fun pre g st=>∃x,g=[some (.t (bA (bK.map It.pv) (tO.map aD))),some (.t (.lst [ix.pv])),some (.r 1),none,some (.r 2),some (.t (.lst (pl.map cF))),some (.r 3),x]/\st=iG (bK.map It.pv)++[Node.fz (PV.lst (tO.map eO)),.lst (pre.map (aT (tO.map aD) .none))])
    pl [some (.t (bA (bK.map It.pv) (tO.map aD))),some (.t (.lst [ix.pv])),some (.r 1),none,some (.r 2),some (.t (.lst (pl.map cF))),some (.r 3),none] (iG (bK.map It.pv)++[Node.fz (PV.lst (tO.map eO)),Node.lst []]) ⟨_,rfl,rfl⟩ (by
     rintro p b q g st e ⟨x,rfl,rfl⟩
     refine⟨_,_,⟨_,_,.inl (Ld _ _ tO (fun s hs=>(ht.2 s hs).1) _ _ _ _ _ _ _ _ _ ?_ b),rfl⟩,_,rfl,?_⟩
     ·have:=congrArg List.length e;simp at this ⊢;omega
     ·rw[List.map_append];rfl)
   have hF:=eL (C:=call T (k+6)) (x:=7) (src:=.var 5) (body:=O8) (g:=[some (.t (bA (bK.map It.pv) (tO.map aD))),some (.t (.lst [ix.pv])),some (.r 1),none,some (.r 2),some (.t (.lst (pl.map cF))),some (.r 3),none]) (st:=iG (bK.map It.pv)++[Node.fz (PV.lst (tO.map eO)),Node.lst []]) (st2:=iG (bK.map It.pv)++[Node.fz (PV.lst (tO.map eO)),Node.lst []]) (items:=pl.map cF) rfl rfl rfl h1
   have Le:ev (call T (k+6)) (.call 35 [(.var 2),(.var 5)]) [some (.t (bA (bK.map It.pv) (tO.map aD))),some (.t (.lst [ix.pv])),some (.r 1),none,some (.r 2),some (.t (.lst (pl.map cF))),some (.r 3),x] (iG (bK.map It.pv)++[Node.fz (PV.lst (tO.map eO)),.lst (pl.map (aT (tO.map aD) .none))]) =
     ok (.t (.lst (pl.map (aT (bK.map It.pv) cU)))) [.fz (.lst (bK.map It.pv)),.fz (vec aE (bK.map It.pv) .none),.fz (.lst (tO.map eO)),.lst (pl.map (aT (tO.map aD) .none))]:=by
    refine dG (f:=35) (as:=[.r 1,.t (.lst (pl.map cF))]) (ds:=[vec aE (bK.map It.pv) .none,.lst (pl.map cF)]) rfl rfl rfl ?_
    exact nN (k+4) aE (bK.map It.pv) .none cU (BO _) pl (by omega) _
   have sX:gg (call T (k+6)) [(.call 35 [(.var 2),(.var 5)]),(.var 6)] [some (.t (bA (bK.map It.pv) (tO.map aD))),some (.t (.lst [ix.pv])),some (.r 1),none,some (.r 2),some (.t (.lst (pl.map cF))),some (.r 3),x] (iG (bK.map It.pv)++[Node.fz (PV.lst (tO.map eO)),.lst (pl.map (aT (tO.map aD) .none))])=ok [AV.t (.lst (pl.map (aT (bK.map It.pv) cU))),AV.r 3] [.fz (.lst (bK.map It.pv)),.fz (vec aE (bK.map It.pv) .none),.fz (.lst (tO.map eO)),.lst (pl.map (aT (tO.map aD) .none))]:=by
    rw[aq,Le];rfl
   have Bp:=gF (C:=call T (k+6)) (c:=.call) (f:=5) sX (st2:=(O9 bK tO pl)) rfl
   refine bz (ds:=[bA (bK.map It.pv) (tO.map aD),.lst [ix.pv]]) (a:=.r 4) (st':=O9 bK tO pl) (d:=bA (pl.map (aT (bK.map It.pv) cU)) (pl.map (aT (tO.map aD) .none))) rfl rfl (aN 4 s3 ?_) rfl
   rw[show(T 42).body.drop 4=[.ifs (.cmp .eq (.bi .len [(.var 5)]) (.int 0)) [.ret (.new .null 0 [])] [],.assign 6 (.list []),.gk 7 (.var 5) O8,.ret (.new .call 5 [(.call 35 [(.var 2),(.var 5)]),(.var 6)])] from rfl]
   refine aN 2 (g':=[some (.t (bA (bK.map It.pv) (tO.map aD))),some (.t (.lst [ix.pv])),some (.r 1),none,some (.r 2),some (.t (.lst (pl.map cF))),some (.r 3),none]) (st':=iG (bK.map It.pv)++[Node.fz (PV.lst (tO.map eO)),Node.lst []]) ?_ (bE hF ?_)
   ·show bO _ [.ifs (.cmp .eq (.bi .len [(.var 5)]) (.int 0)) [.ret (.new .null 0 [])] [],.assign 6 (.list [])] _ _=_
    simp only[af,aF,bD,aM,aC,ah,aL,au,av,ay,bg,aG,aV,cJ,ak,aA,aq,jf,cC,ef,cW,gj,eE,bS,List.getElem?_cons_zero,List.getElem?_cons_succ,List.set_cons_zero,List.set_cons_succ,List.length_map,bL SM];rfl
   ·show bO _ [.ret (.new .call 5 [(.call 35 [(.var 2),(.var 5)]),(.var 6)])] _ _=_
    simp only[ah,aW,Bp];rfl
theorem lS{T:Nat->Fn}{k f:Nat}{as:List AV}{g:Gm}{a:AV}{st st':aB}(hr:(T f).ref=true) (ho:(T f).own=true) (hs:(T f).start as=some g) (hb:bO (call T k) (T f).body g st=some (.ret a st')):call T (k+1) f as st=ok a st':=by
 show fq (call T k) (T f) as st=_
 simp only[fq,hr,ho,hs]
 show CP true _ (bO (call T k) (T f).body g st)=_
 rw[hb]
 rfl
theorem kZ{T:Nat->Fn}{k f:Nat}{as:List AV}{g:Gm}{m:Tx}{st st':aB}(hr:(T f).ref=true) (hs:(T f).start as=some g) (hb:bO (call T k) (T f).body g st=some (.exc m st')):call T (k+1) f as st=some (.error (m,st')):=by
 show fq (call T k) (T f) as st=_
 simp only[fq,hr,hs]
 show CP _ _ (bO (call T k) (T f).body g st)=_
 rw[hb]
 rfl
noncomputable def aR(l:List PV) (n:Nat):Option (List PV)->PV
 |none=>vec aa l (.aK [(dU,vec aa [.int n] .none)])
 |some hs=>vec aa l (.aK [(dU,vec aa [.int n] .none),(bP,vec aE [vec ao hs .none] .none)])
noncomputable def b5(l nm:List PV):PV:=vec bH l (.aK [(bG,vec ao nm .none)])
noncomputable def MD(j:Nat) (SE:aB) (SF:List (Option Nat)->aB):Except Tx (List (Option Nat))->R AV
 |.ok pl=>Mine.ok (.r j) (SF pl)
 |.error m=>some (.error (m,SE))
theorem ME:(T 37).body=[.assign 2 (.call 16 [(.var 0)]),.assign 3 (.sub (.call 26 [(.var 1),(.bi .len [(.attr (.var 0) ai)]),(.var 2),(.bool false)]) (.int 0)),.assign 4 (.new .aJ 2 [(.call 34 [(.attr (.var 0) aj)]),(.call 35 [(.var 0),(.var 3)])]),.ifs (.cmp .ee (.var 2) .none) [.expr (.call 9 [(.var 4),(.call 36 [(.var 2),(.var 3)])])] [],.ret (.var 4)]:=rfl
noncomputable def k6(l:List PV) (nm:List (Option Tx)) (pl:List (Option Nat)):aB:=[Node.fz (.lst (nm.map aD)),Node.inst .aQ [(aj,.t (.str aE)),(ai,.t (.lst (pl.map (aT l cU)))),(az,.r 2),(aX,.t (.bool false))],Node.aK [(bG,vec ao (pl.map (aT (nm.map aD) (.str eH))) .none)]]
theorem Ep(k:Nat) (l:List PV) (hl:l.length<1000) (nm:List (Option Tx)) (ho:okN (some nm)) (ix:Ix) (hx:ix.ok) (hm:ix≠.missing) :
  call T (k+8) 37 [.t (b5 l (nm.map aD)),.t ix.pv] []=MD 1 [Node.fz (.lst (nm.map aD))] (fun pl=>k6 l nm pl) (iE l.length (some nm) ix):=by
 have sd:=positions (k+2) ix hx hm l.length hl (some nm) ho
 have hlen:=fun pl=>qu hx hl (o:=some nm) (pl:=pl)
 generalize iE l.length (some nm) ix=D at sd hlen
 have s0:bO (call T (k+7)) ((T 37).body.take 1) [some (.t (b5 l (nm.map aD))),some (.t ix.pv),none,none,none] []=some (.next [some (.t (b5 l (nm.map aD))),some (.t ix.pv),some (.r 0),none,none] [Node.lst (nm.map aD)]):=rfl
 have h1:ev (call T (k+7)) (.call 26 [(.var 1),(.bi .len [(.attr (.var 0) ai)]),(.var 2),(.bool false)]) [some (.t (b5 l (nm.map aD))),some (.t ix.pv),some (.r 0),none,none] [Node.lst (nm.map aD)]=zG D [Node.fz (.lst (nm.map aD))] :=
  dG (f:=26) (as:=[.t ix.pv,.t (.int l.length),.r 0,.t (.bool false)]) (ds:=[ix.pv,.int l.length,.lst (nm.map aD),.bool false]) (st1:=[Node.lst (nm.map aD)]) (st2:=[Node.fz (.lst (nm.map aD))]) rfl rfl rfl (sd _)
 induction D with
 |error m =>
  refine kZ (as:=[.t (b5 l (nm.map aD)),.t ix.pv]) (g:=[some (.t (b5 l (nm.map aD))),some (.t ix.pv),none,none,none]) rfl rfl (aN 1 s0 ?_)
  rw[ME]
  show bO _ (.assign 3 (.sub (.call 26 [(.var 1),(.bi .len [(.attr (.var 0) ai)]),(.var 2),(.bool false)]) (.int 0))::_) _ _=_
  simp only[ah,aC,bR,h1];rfl
 |ok pl =>
  have hp:=hlen pl rfl
  have s1:ex (call T (k+7)) (.assign 3 (.sub (.call 26 [(.var 1),(.bi .len [(.attr (.var 0) ai)]),(.var 2),(.bool false)]) (.int 0))) [some (.t (b5 l (nm.map aD))),some (.t ix.pv),some (.r 0),none,none] [Node.lst (nm.map aD)]=some (.next [some (.t (b5 l (nm.map aD))),some (.t ix.pv),some (.r 0),some (.t (.lst (pl.map cF))),none] [Node.fz (.lst (nm.map aD))]):=by
   simp only[aC,bR,h1];rfl
  have Le:ev (call T (k+7)) (.call 35 [(.var 0),(.var 3)]) [some (.t (b5 l (nm.map aD))),some (.t ix.pv),some (.r 0),some (.t (.lst (pl.map cF))),none] [Node.fz (.lst (nm.map aD))]=ok (.t (.lst (pl.map (aT l cU)))) [Node.fz (.lst (nm.map aD))] :=
   dG (f:=35) (as:=[.t (b5 l (nm.map aD)),.t (.lst (pl.map cF))]) (ds:=[b5 l (nm.map aD),.lst (pl.map cF)]) (st1:=[Node.fz (.lst (nm.map aD))]) (st2:=[Node.fz (.lst (nm.map aD))]) rfl rfl rfl (nN (k+5) bH l (.aK [(bG,vec ao (nm.map aD) .none)]) (cU) (s6 _) pl (by omega) _)
  have Pa:ev (call T (k+7)) (.call 34 [(.attr (.var 0) aj)]) [some (.t (b5 l (nm.map aD))),some (.t ix.pv),some (.r 0),some (.t (.lst (pl.map cF))),none] [Node.fz (.lst (nm.map aD))]=ok (.t (.str aE)) [Node.fz (.lst (nm.map aD))]:=rfl
  have sX:gg (call T (k+7)) [(.call 34 [(.attr (.var 0) aj)]),(.call 35 [(.var 0),(.var 3)])] [some (.t (b5 l (nm.map aD))),some (.t ix.pv),some (.r 0),some (.t (.lst (pl.map cF))),none] [Node.fz (.lst (nm.map aD))]=ok [AV.t (.str aE),AV.t (.lst (pl.map (aT l cU)))] [Node.fz (.lst (nm.map aD))]:=by
   simp only[aq,aA,Pa,Le,af]
  have s2:ex (call T (k+7)) (.assign 4 (.new .aJ 2 [(.call 34 [(.attr (.var 0) aj)]),(.call 35 [(.var 0),(.var 3)])])) [some (.t (b5 l (nm.map aD))),some (.t ix.pv),some (.r 0),some (.t (.lst (pl.map cF))),none] [Node.fz (.lst (nm.map aD))]=some (.next [some (.t (b5 l (nm.map aD))),some (.t ix.pv),some (.r 0),some (.t (.lst (pl.map cF))),some (.r 1)] [Node.fz (.lst (nm.map aD)),Node.inst .aQ [(aj,.t (.str aE)),(ai,.t (.lst (pl.map (aT l cU)))),(az,.t .none),(aX,.t (.bool false))]]):=by
   have h:=gF (C:=call T (k+7)) (c:=.aJ) (f:=2) sX (st2:=[Node.fz (.lst (nm.map aD)),Node.inst .aQ [(aj,.t (.str aE)),(ai,.t (.lst (pl.map (aT l cU)))),(az,.t .none),(aX,.t (.bool false))]]) rfl
   simp only[aC,h];rfl
  refine lS (as:=[.t (b5 l (nm.map aD)),.t ix.pv]) (g:=[some (.t (b5 l (nm.map aD))),some (.t ix.pv),none,none,none]) rfl rfl rfl (aN 1 s0 ?_)
  rw[ME]
  refine bE s1 (bE s2 ?_)
  have SP:ev (call T (k+7)) (.call 36 [(.var 2),(.var 3)]) [some (.t (b5 l (nm.map aD))),some (.t ix.pv),some (.r 0),some (.t (.lst (pl.map cF))),some (.r 1)] [Node.fz (.lst (nm.map aD)),Node.inst .aQ [(aj,.t (.str aE)),(ai,.t (.lst (pl.map (aT l cU)))),(az,.t .none),(aX,.t (.bool false))]]=ok (.t (.lst (pl.map (aT (nm.map aD) (.str eH))))) [Node.fz (.lst (nm.map aD)),Node.inst .aQ [(aj,.t (.str aE)),(ai,.t (.lst (pl.map (aT l cU)))),(az,.t .none),(aX,.t (.bool false))]] :=
   dG (f:=36) (as:=[.r 0,.t (.lst (pl.map cF))]) (ds:=[.lst ((nm.map aD)),.lst (pl.map cF)]) (st1:=[Node.fz (.lst (nm.map aD)),Node.inst .aQ [(aj,.t (.str aE)),(ai,.t (.lst (pl.map (aT l cU)))),(az,.t .none),(aX,.t (.bool false))]]) (st2:=[Node.fz (.lst (nm.map aD)),Node.inst .aQ [(aj,.t (.str aE)),(ai,.t (.lst (pl.map (aT l cU)))),(az,.t .none),(aX,.t (.bool false))]]) rfl rfl rfl (yb (k+6) ((nm.map aD)) pl (by omega) _)
  have Lf:gg (call T (k+7)) [(.var 4),(.call 36 [(.var 2),(.var 3)])] [some (.t (b5 l (nm.map aD))),some (.t ix.pv),some (.r 0),some (.t (.lst (pl.map cF))),some (.r 1)] [Node.fz (.lst (nm.map aD)),Node.inst .aQ [(aj,.t (.str aE)),(ai,.t (.lst (pl.map (aT l cU)))),(az,.t .none),(aX,.t (.bool false))]]=ok [AV.r 1,AV.t (.lst (pl.map (aT (nm.map aD) (.str eH))))] [Node.fz (.lst (nm.map aD)),Node.inst .aQ [(aj,.t (.str aE)),(ai,.t (.lst (pl.map (aT l cU)))),(az,.t .none),(aX,.t (.bool false))]]:=by
   simp only[aq,aA,av,ay,List.getElem?_cons_succ,List.getElem?_cons_zero,SP,af]
  have s3:ex (call T (k+7)) (.ifs (.cmp .ee (.var 2) .none) [.expr (.call 9 [(.var 4),(.call 36 [(.var 2),(.var 3)])])] []) [some (.t (b5 l (nm.map aD))),some (.t ix.pv),some (.r 0),some (.t (.lst (pl.map cF))),some (.r 1)] [Node.fz (.lst (nm.map aD)),Node.inst .aQ [(aj,.t (.str aE)),(ai,.t (.lst (pl.map (aT l cU)))),(az,.t .none),(aX,.t (.bool false))]]=some (.next [some (.t (b5 l (nm.map aD))),some (.t ix.pv),some (.r 0),some (.t (.lst (pl.map cF))),some (.r 1)] (k6 l nm pl)):=by
   have hc:ev (call T (k+7)) (.cmp .ee (.var 2) .none) [some (.t (b5 l (nm.map aD))),some (.t ix.pv),some (.r 0),some (.t (.lst (pl.map cF))),some (.r 1)] [Node.fz (.lst (nm.map aD)),Node.inst .aQ [(aj,.t (.str aE)),(ai,.t (.lst (pl.map (aT l cU)))),(az,.t .none),(aX,.t (.bool false))]]=ok (.t (.bool true)) [Node.fz (.lst (nm.map aD)),Node.inst .aQ [(aj,.t (.str aE)),(ai,.t (.lst (pl.map (aT l cU)))),(az,.t .none),(aX,.t (.bool false))]]:=rfl
   simp only[aM,hc,aF,ak,aS,ah,bx,bW,Lf,af];rfl
  exact bE s3 rfl
noncomputable def iU(l:List PV) (n:Nat) (pl:List (Option Nat)):aB:=[Node.fz (.lst [.int n]),Node.lst [.int n],Node.inst .aQ [(aj,.t (.str aa)),(ai,.t (.lst (pl.map (aT l .none)))),(az,.t .none),(aX,.t (.bool false))]]
theorem Er(k:Nat) (l:List PV) (hl:l.length<1000) (n:Nat)  (ix:Ix) (hx:ix.ok) (hm:ix≠.missing) :
  call T (k+8) 37 [.t (aR l n none),.t ix.pv] [Node.fz (.lst [.int n])]=MD 2 [Node.fz (.lst [.int n]),Node.lst [.int n]] (fun pl=>iU l n pl) (iE l.length (none) ix):=by
 have sd:=positions (k+2) ix hx hm l.length hl (none) (fun _ h=>by injection h)
 have hlen:=fun pl=>qu hx hl (o:=none) (pl:=pl)
 generalize iE l.length (none) ix=D at sd hlen
 have s0:bO (call T (k+7)) ((T 37).body.take 1) [some (.t (aR l n none)),some (.t ix.pv),none,none,none] [Node.fz (.lst [.int n])]=some (.next [some (.t (aR l n none)),some (.t ix.pv),some (.t .none),none,none] [Node.fz (.lst [.int n]),Node.lst [.int n]]):=rfl
 have h1:ev (call T (k+7)) (.call 26 [(.var 1),(.bi .len [(.attr (.var 0) ai)]),(.var 2),(.bool false)]) [some (.t (aR l n none)),some (.t ix.pv),some (.t .none),none,none] [Node.fz (.lst [.int n]),Node.lst [.int n]]=zG D [Node.fz (.lst [.int n]),Node.lst [.int n]] :=
  dG (f:=26) (as:=[.t ix.pv,.t (.int l.length),.t .none,.t (.bool false)]) (ds:=[ix.pv,.int l.length,.none,.bool false]) (st1:=[Node.fz (.lst [.int n]),Node.lst [.int n]]) (st2:=[Node.fz (.lst [.int n]),Node.lst [.int n]]) rfl rfl rfl (sd _)
 induction D with
 |error m =>
  refine kZ (as:=[.t (aR l n none),.t ix.pv]) (g:=[some (.t (aR l n none)),some (.t ix.pv),none,none,none]) rfl rfl (aN 1 s0 ?_)
  rw[ME]
  show bO _ (.assign 3 (.sub (.call 26 [(.var 1),(.bi .len [(.attr (.var 0) ai)]),(.var 2),(.bool false)]) (.int 0))::_) _ _=_
  simp only[ah,aC,bR,h1];rfl
 |ok pl =>
  have hp:=hlen pl rfl
  have s1:ex (call T (k+7)) (.assign 3 (.sub (.call 26 [(.var 1),(.bi .len [(.attr (.var 0) ai)]),(.var 2),(.bool false)]) (.int 0))) [some (.t (aR l n none)),some (.t ix.pv),some (.t .none),none,none] [Node.fz (.lst [.int n]),Node.lst [.int n]]=some (.next [some (.t (aR l n none)),some (.t ix.pv),some (.t .none),some (.t (.lst (pl.map cF))),none] [Node.fz (.lst [.int n]),Node.lst [.int n]]):=by
   simp only[aC,bR,h1];rfl
  have Le:ev (call T (k+7)) (.call 35 [(.var 0),(.var 3)]) [some (.t (aR l n none)),some (.t ix.pv),some (.t .none),some (.t (.lst (pl.map cF))),none] [Node.fz (.lst [.int n]),Node.lst [.int n]]=ok (.t (.lst (pl.map (aT l .none)))) [Node.fz (.lst [.int n]),Node.lst [.int n]] :=
   dG (f:=35) (as:=[.t (aR l n none),.t (.lst (pl.map cF))]) (ds:=[aR l n none,.lst (pl.map cF)]) (st1:=[Node.fz (.lst [.int n]),Node.lst [.int n]]) (st2:=[Node.fz (.lst [.int n]),Node.lst [.int n]]) rfl rfl rfl (nN (k+5) aa l (.aK [(dU,vec aa [.int n] .none)]) (.none) (nO _) pl (by omega) _)
  have Pa:ev (call T (k+7)) (.call 34 [(.attr (.var 0) aj)]) [some (.t (aR l n none)),some (.t ix.pv),some (.t .none),some (.t (.lst (pl.map cF))),none] [Node.fz (.lst [.int n]),Node.lst [.int n]]=ok (.t (.str aa)) [Node.fz (.lst [.int n]),Node.lst [.int n]]:=rfl
  have sX:gg (call T (k+7)) [(.call 34 [(.attr (.var 0) aj)]),(.call 35 [(.var 0),(.var 3)])] [some (.t (aR l n none)),some (.t ix.pv),some (.t .none),some (.t (.lst (pl.map cF))),none] [Node.fz (.lst [.int n]),Node.lst [.int n]]=ok [AV.t (.str aa),AV.t (.lst (pl.map (aT l .none)))] [Node.fz (.lst [.int n]),Node.lst [.int n]]:=by
   simp only[aq,aA,Pa,Le,af]
  have s2:ex (call T (k+7)) (.assign 4 (.new .aJ 2 [(.call 34 [(.attr (.var 0) aj)]),(.call 35 [(.var 0),(.var 3)])])) [some (.t (aR l n none)),some (.t ix.pv),some (.t .none),some (.t (.lst (pl.map cF))),none] [Node.fz (.lst [.int n]),Node.lst [.int n]]=some (.next [some (.t (aR l n none)),some (.t ix.pv),some (.t .none),some (.t (.lst (pl.map cF))),some (.r 2)] [Node.fz (.lst [.int n]),Node.lst [.int n],Node.inst .aQ [(aj,.t (.str aa)),(ai,.t (.lst (pl.map (aT l .none)))),(az,.t .none),(aX,.t (.bool false))]]):=by
   have h:=gF (C:=call T (k+7)) (c:=.aJ) (f:=2) sX (st2:=[Node.fz (.lst [.int n]),Node.lst [.int n],Node.inst .aQ [(aj,.t (.str aa)),(ai,.t (.lst (pl.map (aT l .none)))),(az,.t .none),(aX,.t (.bool false))]]) rfl
   simp only[aC,h];rfl
  refine lS (as:=[.t (aR l n none),.t ix.pv]) (g:=[some (.t (aR l n none)),some (.t ix.pv),none,none,none]) rfl rfl rfl (aN 1 s0 ?_)
  rw[ME]
  refine bE s1 (bE s2 ?_)
  rfl
noncomputable def gV(l:List PV) (n:Nat) (hs:List (Option Tx)) (pl:List (Option Nat)):aB:=[Node.fz (.lst [.int n]),Node.fz (.lst [.lst (hs.map aD)]),Node.lst [.int n],Node.lst [.lst (hs.map aD)],Node.inst .aQ [(aj,.t (.str aa)),(ai,.t (.lst (pl.map (aT l .none)))),(az,.r 5),(aX,.t (.bool false))],Node.aK [(bG,vec ao (pl.map (aT (hs.map aD) (.str eH))) .none)]]
theorem Es(k:Nat) (l:List PV) (hl:l.length<1000) (n:Nat) (hs:List (Option Tx)) (ho:okN (some hs)) (ix:Ix) (hx:ix.ok) (hm:ix≠.missing) :
  call T (k+8) 37 [.t (aR l n (some (hs.map aD))),.t ix.pv] [Node.fz (.lst [.int n]),Node.fz (.lst [.lst (hs.map aD)])]=MD 4 [Node.fz (.lst [.int n]),Node.fz (.lst [.lst (hs.map aD)]),Node.lst [.int n],Node.lst [.lst (hs.map aD)]] (fun pl=>gV l n hs pl) (iE l.length (some hs) ix):=by
 have sd:=positions (k+2) ix hx hm l.length hl (some hs) ho
 have hlen:=fun pl=>qu hx hl (o:=some hs) (pl:=pl)
 generalize iE l.length (some hs) ix=D at sd hlen
 have s0:bO (call T (k+7)) ((T 37).body.take 1) [some (.t (aR l n (some (hs.map aD)))),some (.t ix.pv),none,none,none] [Node.fz (.lst [.int n]),Node.fz (.lst [.lst (hs.map aD)])]=some (.next [some (.t (aR l n (some (hs.map aD)))),some (.t ix.pv),some (.t (.lst (hs.map aD))),none,none] [Node.fz (.lst [.int n]),Node.fz (.lst [.lst (hs.map aD)]),Node.lst [.int n],Node.lst [.lst (hs.map aD)]]):=rfl
 have h1:ev (call T (k+7)) (.call 26 [(.var 1),(.bi .len [(.attr (.var 0) ai)]),(.var 2),(.bool false)]) [some (.t (aR l n (some (hs.map aD)))),some (.t ix.pv),some (.t (.lst (hs.map aD))),none,none] [Node.fz (.lst [.int n]),Node.fz (.lst [.lst (hs.map aD)]),Node.lst [.int n],Node.lst [.lst (hs.map aD)]]=zG D [Node.fz (.lst [.int n]),Node.fz (.lst [.lst (hs.map aD)]),Node.lst [.int n],Node.lst [.lst (hs.map aD)]] :=
  dG (f:=26) (as:=[.t ix.pv,.t (.int l.length),.t (.lst (hs.map aD)),.t (.bool false)]) (ds:=[ix.pv,.int l.length,.lst (hs.map aD),.bool false]) (st1:=[Node.fz (.lst [.int n]),Node.fz (.lst [.lst (hs.map aD)]),Node.lst [.int n],Node.lst [.lst (hs.map aD)]]) (st2:=[Node.fz (.lst [.int n]),Node.fz (.lst [.lst (hs.map aD)]),Node.lst [.int n],Node.lst [.lst (hs.map aD)]]) rfl rfl rfl (sd _)
 induction D with
 |error m =>
  refine kZ (as:=[.t (aR l n (some (hs.map aD))),.t ix.pv]) (g:=[some (.t (aR l n (some (hs.map aD)))),some (.t ix.pv),none,none,none]) rfl rfl (aN 1 s0 ?_)
  rw[ME]
  show bO _ (.assign 3 (.sub (.call 26 [(.var 1),(.bi .len [(.attr (.var 0) ai)]),(.var 2),(.bool false)]) (.int 0))::_) _ _=_
  simp only[ah,aC,bR,h1];rfl
 |ok pl =>
  have hp:=hlen pl rfl
  have s1:ex (call T (k+7)) (.assign 3 (.sub (.call 26 [(.var 1),(.bi .len [(.attr (.var 0) ai)]),(.var 2),(.bool false)]) (.int 0))) [some (.t (aR l n (some (hs.map aD)))),some (.t ix.pv),some (.t (.lst (hs.map aD))),none,none] [Node.fz (.lst [.int n]),Node.fz (.lst [.lst (hs.map aD)]),Node.lst [.int n],Node.lst [.lst (hs.map aD)]]=some (.next [some (.t (aR l n (some (hs.map aD)))),some (.t ix.pv),some (.t (.lst (hs.map aD))),some (.t (.lst (pl.map cF))),none] [Node.fz (.lst [.int n]),Node.fz (.lst [.lst (hs.map aD)]),Node.lst [.int n],Node.lst [.lst (hs.map aD)]]):=by
   simp only[aC,bR,h1];rfl
  have Le:ev (call T (k+7)) (.call 35 [(.var 0),(.var 3)]) [some (.t (aR l n (some (hs.map aD)))),some (.t ix.pv),some (.t (.lst (hs.map aD))),some (.t (.lst (pl.map cF))),none] [Node.fz (.lst [.int n]),Node.fz (.lst [.lst (hs.map aD)]),Node.lst [.int n],Node.lst [.lst (hs.map aD)]]=ok (.t (.lst (pl.map (aT l .none)))) [Node.fz (.lst [.int n]),Node.fz (.lst [.lst (hs.map aD)]),Node.lst [.int n],Node.lst [.lst (hs.map aD)]] :=
   dG (f:=35) (as:=[.t (aR l n (some (hs.map aD))),.t (.lst (pl.map cF))]) (ds:=[aR l n (some (hs.map aD)),.lst (pl.map cF)]) (st1:=[Node.fz (.lst [.int n]),Node.fz (.lst [.lst (hs.map aD)]),Node.lst [.int n],Node.lst [.lst (hs.map aD)]]) (st2:=[Node.fz (.lst [.int n]),Node.fz (.lst [.lst (hs.map aD)]),Node.lst [.int n],Node.lst [.lst (hs.map aD)]]) rfl rfl rfl (nN (k+5) aa l (.aK [(dU,vec aa [.int n] .none),(bP,vec aE [vec ao (hs.map aD) .none] .none)]) (.none) (nO _) pl (by omega) _)
  have Pa:ev (call T (k+7)) (.call 34 [(.attr (.var 0) aj)]) [some (.t (aR l n (some (hs.map aD)))),some (.t ix.pv),some (.t (.lst (hs.map aD))),some (.t (.lst (pl.map cF))),none] [Node.fz (.lst [.int n]),Node.fz (.lst [.lst (hs.map aD)]),Node.lst [.int n],Node.lst [.lst (hs.map aD)]]=ok (.t (.str aa)) [Node.fz (.lst [.int n]),Node.fz (.lst [.lst (hs.map aD)]),Node.lst [.int n],Node.lst [.lst (hs.map aD)]]:=rfl
  have sX:gg (call T (k+7)) [(.call 34 [(.attr (.var 0) aj)]),(.call 35 [(.var 0),(.var 3)])] [some (.t (aR l n (some (hs.map aD)))),some (.t ix.pv),some (.t (.lst (hs.map aD))),some (.t (.lst (pl.map cF))),none] [Node.fz (.lst [.int n]),Node.fz (.lst [.lst (hs.map aD)]),Node.lst [.int n],Node.lst [.lst (hs.map aD)]]=ok [AV.t (.str aa),AV.t (.lst (pl.map (aT l .none)))] [Node.fz (.lst [.int n]),Node.fz (.lst [.lst (hs.map aD)]),Node.lst [.int n],Node.lst [.lst (hs.map aD)]]:=by
   simp only[aq,aA,Pa,Le,af]
  have s2:ex (call T (k+7)) (.assign 4 (.new .aJ 2 [(.call 34 [(.attr (.var 0) aj)]),(.call 35 [(.var 0),(.var 3)])])) [some (.t (aR l n (some (hs.map aD)))),some (.t ix.pv),some (.t (.lst (hs.map aD))),some (.t (.lst (pl.map cF))),none] [Node.fz (.lst [.int n]),Node.fz (.lst [.lst (hs.map aD)]),Node.lst [.int n],Node.lst [.lst (hs.map aD)]]=some (.next [some (.t (aR l n (some (hs.map aD)))),some (.t ix.pv),some (.t (.lst (hs.map aD))),some (.t (.lst (pl.map cF))),some (.r 4)] [Node.fz (.lst [.int n]),Node.fz (.lst [.lst (hs.map aD)]),Node.lst [.int n],Node.lst [.lst (hs.map aD)],Node.inst .aQ [(aj,.t (.str aa)),(ai,.t (.lst (pl.map (aT l .none)))),(az,.t .none),(aX,.t (.bool false))]]):=by
   have h:=gF (C:=call T (k+7)) (c:=.aJ) (f:=2) sX (st2:=[Node.fz (.lst [.int n]),Node.fz (.lst [.lst (hs.map aD)]),Node.lst [.int n],Node.lst [.lst (hs.map aD)],Node.inst .aQ [(aj,.t (.str aa)),(ai,.t (.lst (pl.map (aT l .none)))),(az,.t .none),(aX,.t (.bool false))]]) rfl
   simp only[aC,h];rfl
  refine lS (as:=[.t (aR l n (some (hs.map aD))),.t ix.pv]) (g:=[some (.t (aR l n (some (hs.map aD)))),some (.t ix.pv),none,none,none]) rfl rfl rfl (aN 1 s0 ?_)
  rw[ME]
  refine bE s1 (bE s2 ?_)
  have SP:ev (call T (k+7)) (.call 36 [(.var 2),(.var 3)]) [some (.t (aR l n (some (hs.map aD)))),some (.t ix.pv),some (.t (.lst (hs.map aD))),some (.t (.lst (pl.map cF))),some (.r 4)] [Node.fz (.lst [.int n]),Node.fz (.lst [.lst (hs.map aD)]),Node.lst [.int n],Node.lst [.lst (hs.map aD)],Node.inst .aQ [(aj,.t (.str aa)),(ai,.t (.lst (pl.map (aT l .none)))),(az,.t .none),(aX,.t (.bool false))]]=ok (.t (.lst (pl.map (aT (hs.map aD) (.str eH))))) [Node.fz (.lst [.int n]),Node.fz (.lst [.lst (hs.map aD)]),Node.lst [.int n],Node.lst [.lst (hs.map aD)],Node.inst .aQ [(aj,.t (.str aa)),(ai,.t (.lst (pl.map (aT l .none)))),(az,.t .none),(aX,.t (.bool false))]] :=
   dG (f:=36) (as:=[.t (.lst (hs.map aD)),.t (.lst (pl.map cF))]) (ds:=[.lst ((hs.map aD)),.lst (pl.map cF)]) (st1:=[Node.fz (.lst [.int n]),Node.fz (.lst [.lst (hs.map aD)]),Node.lst [.int n],Node.lst [.lst (hs.map aD)],Node.inst .aQ [(aj,.t (.str aa)),(ai,.t (.lst (pl.map (aT l .none)))),(az,.t .none),(aX,.t (.bool false))]]) (st2:=[Node.fz (.lst [.int n]),Node.fz (.lst [.lst (hs.map aD)]),Node.lst [.int n],Node.lst [.lst (hs.map aD)],Node.inst .aQ [(aj,.t (.str aa)),(ai,.t (.lst (pl.map (aT l .none)))),(az,.t .none),(aX,.t (.bool false))]]) rfl rfl rfl (yb (k+6) ((hs.map aD)) pl (by omega) _)
  have Lf:gg (call T (k+7)) [(.var 4),(.call 36 [(.var 2),(.var 3)])] [some (.t (aR l n (some (hs.map aD)))),some (.t ix.pv),some (.t (.lst (hs.map aD))),some (.t (.lst (pl.map cF))),some (.r 4)] [Node.fz (.lst [.int n]),Node.fz (.lst [.lst (hs.map aD)]),Node.lst [.int n],Node.lst [.lst (hs.map aD)],Node.inst .aQ [(aj,.t (.str aa)),(ai,.t (.lst (pl.map (aT l .none)))),(az,.t .none),(aX,.t (.bool false))]]=ok [AV.r 4,AV.t (.lst (pl.map (aT (hs.map aD) (.str eH))))] [Node.fz (.lst [.int n]),Node.fz (.lst [.lst (hs.map aD)]),Node.lst [.int n],Node.lst [.lst (hs.map aD)],Node.inst .aQ [(aj,.t (.str aa)),(ai,.t (.lst (pl.map (aT l .none)))),(az,.t .none),(aX,.t (.bool false))]]:=by
   simp only[aq,aA,av,ay,List.getElem?_cons_succ,List.getElem?_cons_zero,SP,af]
  have s3:ex (call T (k+7)) (.ifs (.cmp .ee (.var 2) .none) [.expr (.call 9 [(.var 4),(.call 36 [(.var 2),(.var 3)])])] []) [some (.t (aR l n (some (hs.map aD)))),some (.t ix.pv),some (.t (.lst (hs.map aD))),some (.t (.lst (pl.map cF))),some (.r 4)] [Node.fz (.lst [.int n]),Node.fz (.lst [.lst (hs.map aD)]),Node.lst [.int n],Node.lst [.lst (hs.map aD)],Node.inst .aQ [(aj,.t (.str aa)),(ai,.t (.lst (pl.map (aT l .none)))),(az,.t .none),(aX,.t (.bool false))]]=some (.next [some (.t (aR l n (some (hs.map aD)))),some (.t ix.pv),some (.t (.lst (hs.map aD))),some (.t (.lst (pl.map cF))),some (.r 4)] (gV l n hs pl)):=by
   have hc:ev (call T (k+7)) (.cmp .ee (.var 2) .none) [some (.t (aR l n (some (hs.map aD)))),some (.t ix.pv),some (.t (.lst (hs.map aD))),some (.t (.lst (pl.map cF))),some (.r 4)] [Node.fz (.lst [.int n]),Node.fz (.lst [.lst (hs.map aD)]),Node.lst [.int n],Node.lst [.lst (hs.map aD)],Node.inst .aQ [(aj,.t (.str aa)),(ai,.t (.lst (pl.map (aT l .none)))),(az,.t .none),(aX,.t (.bool false))]]=ok (.t (.bool true)) [Node.fz (.lst [.int n]),Node.fz (.lst [.lst (hs.map aD)]),Node.lst [.int n],Node.lst [.lst (hs.map aD)],Node.inst .aQ [(aj,.t (.str aa)),(ai,.t (.lst (pl.map (aT l .none)))),(az,.t .none),(aX,.t (.bool false))]]:=rfl
   simp only[aM,hc,aF,ak,aS,ah,bx,bW,Lf,af];rfl
  exact bE s3 rfl
theorem bU{C:fj}{c:E}{a b r:List S}{g:Gm}{st st1:aB}{t:AV}{o:Option Out}(hc:ev C c g st=ok t st1) (ht:cT st1 t=some true) (h:bO C a g st1=o) (hr:mE o C r=o):bO C (.ifs c a b::r) g st=o:=by
 rw[ah,aM,hc,aF,ht,aS,h,hr]
noncomputable def resT:Except Tx PV->aB->R AV
 |.ok d,st=>Mine.ok (.t d) st
 |.error m,st=>some (.error (m,st))
noncomputable def uD{α β:Type}(f:α->β):Except Tx α->Except Tx β
 |.ok a=>.ok (f a)
 |.error m=>.error m
noncomputable def yl(bK:List It) (tO:List (Option Tx)) (pl:List (Option Nat)):PV:=if pl.length=0 then cU else bA (pl.map (aT (bK.map It.pv) cU)) (pl.map (aT (tO.map aD) .none))
theorem Et(bK:List It) (tO:List (Option Tx)) (D:Except Tx (List (Option Nat))) (st:aB):I8 bK tO D st=resT (uD (yl bK tO) D) st:=by
 induction D with
 |error m=>rfl
 |ok pl =>
  show(if _ then _ else _)=Mine.ok (AV.t (if _ then _ else _)) st
  by_cases h:pl.length=0
  ·rw[if_pos h,if_pos h]
  ·rw[if_neg h,if_neg h]
noncomputable def Lh:Except Tx PV->aB->Option Out
 |.ok d,st=>some (.ret (.t d) st)
 |.error m,st=>some (.exc m st)
theorem Ax{C:fj}{e:E}{g:Gm}{st:aB}{D:Except Tx PV}(h:ev C e g st=resT D st) (r:List S):bO C (.ret e::r) g st=Lh D st:=by
 rw[ah,aW,h];induction D<;>rfl
theorem Eu(k:Nat) (bK:List It) (hi:bK.length<1000) (tO:List (Option Tx)) (ht:jQ tO) (ix:Ix) (hx:ix.ok) (hm:ix≠.missing) (st:aB) :
  call T (k+8) 43 [.t (bA (bK.map It.pv) (tO.map aD)),.t (.lst [ix.pv]),.t (.bool true),.t (.bool true)] st=resT (uD (yl bK tO) (iE bK.length (some (tO.map r9)) ix)) st:=by
 have Qy:=yk k bK hi tO ht ix hx hm []
 rw[Et] at Qy
 generalize uD (yl bK tO) (iE bK.length (some (tO.map r9)) ix)=D at Qy
 have s1:bO (call T (k+7)) ((T 43).body.take 2) [some (.t (bA (bK.map It.pv) (tO.map aD))),some (.t (.lst [ix.pv])),some (.t (.bool true)),some (.t (.bool true)),none,none] []=some (.next [some (.t (bA (bK.map It.pv) (tO.map aD))),some (.t (.lst [ix.pv])),some (.t (.bool true)),some (.t (.bool true)),none,none] []):=by
  clear Qy
  induction ix with
  |missing=>exact absurd rfl hm
  |null=>kernel_rfl
  |list=>kernel_rfl
  |logical l=>kernel_rfl
  |integer l=>kernel_rfl
  |eF l=>kernel_rfl
  |character l=>kernel_rfl
 have h2:bO (call T (k+7)) ((T 43).body.drop 2) [some (.t (bA (bK.map It.pv) (tO.map aD))),some (.t (.lst [ix.pv])),some (.t (.bool true)),some (.t (.bool true)),none,none] []=Lh D []:=by
  refine bU (c:=.cmp .eq (.attr (.var 0) aj) (.str aI)) (a:=[.ret (.call 42 [(.var 0),(.var 1)])]) (st1:=[]) (t:=.t (.bool true)) rfl rfl (Ax ?_ []) (by induction D<;>rfl)
  exact dG (f:=42) (as:=[.t (bA (bK.map It.pv) (tO.map aD)),.t (.lst [ix.pv])]) (ds:=[bA (bK.map It.pv) (tO.map aD),.lst [ix.pv]]) (st1:=[]) (st2:=[]) rfl rfl rfl Qy
 induction D with
 |ok d=>exact bz (ds:=[bA (bK.map It.pv) (tO.map aD),.lst [ix.pv],.bool true,.bool true]) rfl rfl (aN 2 s1 h2) rfl
 |error m=>exact fG (ds:=[bA (bK.map It.pv) (tO.map aD),.lst [ix.pv],.bool true,.bool true]) rfl rfl (aN 2 s1 h2)
theorem tn(k:Nat) (bK:List It) (tO:List (Option Tx)) (st:aB) :
  call T (k+8) 43 [.t (bA (bK.map It.pv) (tO.map aD)),.t (.lst [pR]),.t (.bool true),.t (.bool true)] st=ok (.t (bA (bK.map It.pv) (tO.map aD))) st:=by kernel_rfl
noncomputable def pairD(l nm:List PV) (pl:List (Option Nat)):PV:=vec aE (pl.map (aT l cU)) (jP (some (pl.map (aT nm (.str eH)))))
noncomputable def Fy:List S:=[.assign 5 (.call 31 [(.sub (.var 1) (.int 0)),(.var 4),(.call 18 [(.var 0)])]),.ifs (.cmp .ee (.var 5) .none) [.bad] [],.ifs (.and [(.cmp .ee (.var 4) .none),(.cmp .eq (.bi .len [(.var 4)]) (.int 1))]) [.ret (.call 41 [(.var 0),(.sub (.var 1) (.int 0)),(.var 2)])] [],.ret (.call 37 [(.var 0),(.sub (.var 1) (.int 0))])]
theorem MF:(T 43).body.drop 5=.ifs (.cmp .eq (.bi .len [(.var 1)]) (.int 1)) Fy []::(T 43).body.drop 6:=rfl
theorem BV(k:Nat) (l:List PV) (hl:l.length<1000) (nm:List (Option Tx)) (ho:okN (some nm)) (ix:Ix) (hx:ix.ok) (hm:ix≠.missing) (st:aB) :
  call T (k+9) 43 [.t (b5 l (nm.map aD)),.t (.lst [ix.pv]),.t (.bool true),.t (.bool true)] st=resT (uD (pairD l (nm.map aD)) (iE l.length (some nm) ix)) st:=by
 have Fz:=Ep k l hl nm ho ix hx hm
 generalize iE l.length (some nm) ix=D at Fz
 have s1:bO (call T (k+8)) ((T 43).body.take 5) [some (.t (b5 l (nm.map aD))),some (.t (.lst [ix.pv])),some (.t (.bool true)),some (.t (.bool true)),none,none] []=some (.next [some (.t (b5 l (nm.map aD))),some (.t (.lst [ix.pv])),some (.t (.bool true)),some (.t (.bool true)),some (.t .none),none] []):=by
  clear Fz
  induction ix with
  |missing=>exact absurd rfl hm
  |null=>kernel_rfl
  |list=>kernel_rfl
  |logical l=>kernel_rfl
  |integer l=>kernel_rfl
  |eF l=>kernel_rfl
  |character l=>kernel_rfl
 have s2:bO (call T (k+8)) (Fy.take 3) [some (.t (b5 l (nm.map aD))),some (.t (.lst [ix.pv])),some (.t (.bool true)),some (.t (.bool true)),some (.t .none),none] []=some (.next [some (.t (b5 l (nm.map aD))),some (.t (.lst [ix.pv])),some (.t (.bool true)),some (.t (.bool true)),some (.t .none),some (.t .none)] []):=by
  clear Fz
  induction ix with
  |missing=>exact absurd rfl hm
  |null=>kernel_rfl
  |list=>kernel_rfl
  |logical l=>kernel_rfl
  |integer l=>kernel_rfl
  |eF l=>kernel_rfl
  |character l=>kernel_rfl
 have h1:ev (call T (k+8)) (.call 37 [(.var 0),(.sub (.var 1) (.int 0))]) [some (.t (b5 l (nm.map aD))),some (.t (.lst [ix.pv])),some (.t (.bool true)),some (.t (.bool true)),some (.t .none),some (.t .none)] []=MD 1 [Node.fz (.lst (nm.map aD))] (fun pl=>k6 l nm pl) D:=Fz
 induction D with
 |ok pl =>
  have s3:bO (call T (k+8)) Fy [some (.t (b5 l (nm.map aD))),some (.t (.lst [ix.pv])),some (.t (.bool true)),some (.t (.bool true)),some (.t .none),none] []=some (.ret (.r 1) (k6 l nm pl)):=by
   refine aN 3 s2 ?_
   show bO _ [.ret _] _ _=_
   rw[ah,aW,h1];rfl
  refine bz (ds:=[b5 l (nm.map aD),.lst [ix.pv],.bool true,.bool true]) rfl rfl (aN 5 s1 ?_) (show i6 cR (k6 l nm pl) (.r 1)=some (pairD l (nm.map aD) pl,_) from rfl)
  rw[MF]
  exact bU (st1:=[]) (t:=.t (.bool true)) rfl rfl s3 rfl
 |error m =>
  have s3:bO (call T (k+8)) Fy [some (.t (b5 l (nm.map aD))),some (.t (.lst [ix.pv])),some (.t (.bool true)),some (.t (.bool true)),some (.t .none),none] []=some (.exc m [Node.fz (.lst (nm.map aD))]):=by
   refine aN 3 s2 ?_
   show bO _ [.ret _] _ _=_
   rw[ah,aW,h1];rfl
  refine fG (ds:=[b5 l (nm.map aD),.lst [ix.pv],.bool true,.bool true]) (st':=[Node.fz (.lst (nm.map aD))]) rfl rfl (aN 5 s1 ?_)
  rw[MF]
  exact bU (st1:=[]) (t:=.t (.bool true)) rfl rfl s3 rfl
theorem se(k:Nat) (l:List PV) (nm:List PV) (st:aB):call T (k+9) 43 [.t (b5 l nm),.t (.lst [pR]),.t (.bool true),.t (.bool true)] st=ok (.t (b5 l nm)) st:=by kernel_rfl
noncomputable def mH(X:List PV) (L:Option (List PV)) (drop:Bool):PV:=if drop=true/\X.length=1 then vec aa X (jP L) else aR X X.length L
theorem UI:(T 41).body.drop 1=.ifs (.and [(.var 2),(.cmp .eq (.bi .len [(.attr (.var 3) ai)]) (.int 1))]) [.ret (.var 3)] []::(T 41).body.drop 2:=rfl
noncomputable def UJ(l:List PV) (n:Nat) (pl:List (Option Nat)):aB:=[Node.fz (.lst [.int n]),Node.lst [.int n],Node.inst .aQ [(aj,.t (.str aa)),(ai,.t (.lst (pl.map (aT l .none)))),(az,.r 4),(aX,.t (.bool false))],Node.fz (.lst [.int ((pl.map (aT l .none)).length:Nat)]),Node.aK [(dU,vec aa [.int ((pl.map (aT l .none)).length:Nat)] .none)]]
theorem BW(k:Nat) (l:List PV) (n:Nat) (ix:PV) (drop:Bool) (pl:List (Option Nat)):∃st' dO,bO (call T (k+8)) ((T 41).body.drop 1) [some (.t (aR l n none)),some (.t ix),some (.t (.bool drop)),some (.r 2),none,none] (iU l n pl)=some (.ret (.r 2) st')/\i6 cR st' (.r 2)=some (mH (pl.map (aT l .none)) none drop,dO):=by
 have kD:bO (call T (k+8)) ((T 41).body.drop 2) [some (.t (aR l n none)),some (.t ix),some (.t (.bool drop)),some (.r 2),none,none] (iU l n pl)=some (.ret (.r 2) (UJ l n pl)):=by kernel_rfl
 have ic:∃dO,i6 cR (UJ l n pl) (.r 2)=some (aR (pl.map (aT l .none)) (pl.map (aT l .none)).length none,dO):=⟨_,rfl⟩
 obtain⟨dO,ic⟩:=ic
 unfold mH
 rw[UI]
 induction drop with
 |false =>
  rw[if_neg (fun h=>by cases h.1)]
  exact⟨_,_,kD,ic⟩
 |true =>
  have hlen:ev (call T (k+8)) (.cmp .eq (.bi .len [(.attr (.var 3) ai)]) (.int 1)) [some (.t (aR l n none)),some (.t ix),some (.t (.bool true)),some (.r 2),none,none] (iU l n pl)=ok (.t (.bool (decide (((pl.map (aT l .none)).length:Int)=1)))) (iU l n pl):=rfl
  by_cases h1:(pl.map (aT l .none)).length=1
  ·rw[if_pos ⟨rfl,h1⟩]
   have Li:(((pl.map (aT l .none)).length:Int)=1):=by omega
   refine⟨iU l n pl,_,?_,rfl⟩
   rw[ah,aM,dh,dj]
   simp only[av,ay,List.getElem?_cons_zero,List.getElem?_cons_succ,af,ak,ez,eN,hlen,dD Li,aF,aS,ah,aW,bB]
  ·rw[if_neg (fun h=>h1 h.2)]
   have Li:¬(((pl.map (aT l .none)).length:Int)=1):=by omega
   refine⟨_,_,?_,ic⟩
   rw[ah,aM,dh,dj]
   simp only[av,ay,List.getElem?_cons_zero,List.getElem?_cons_succ,af,ak,ez,eN,hlen,bL Li,aF,bD,aL,au,kD]
theorem SQ(k:Nat) (l:List PV) (hl:l.length<1000) (n:Nat)  (ix:Ix) (hx:ix.ok) (hm:ix≠.missing) (drop:Bool) :
  match iE l.length none ix with
  |.error m=>call T (k+9) 41 [.t (aR l n none),.t ix.pv,.t (.bool drop)] [Node.fz (.lst [.int n])]=some (.error (m,[Node.fz (.lst [.int n]),Node.lst [.int n]]))
  |.ok pl=>∃st' dO,call T (k+9) 41 [.t (aR l n none),.t ix.pv,.t (.bool drop)] [Node.fz (.lst [.int n])]=ok (.r 2) st'/\i6 cR st' (.r 2)=some (mH (pl.map (aT l .none)) none drop,dO):=by
 have Fz:=Er k l hl n  ix hx hm
 generalize iE l.length none ix=D at Fz
 have h1:ev (call T (k+8)) (.call 37 [(.var 0),(.var 1)]) [some (.t (aR l n none)),some (.t ix.pv),some (.t (.bool drop)),none,none,none] [Node.fz (.lst [.int n])]=MD 2 [Node.fz (.lst [.int n]),Node.lst [.int n]] (fun pl=>iU l n pl) D:=Fz
 have s0:(T 41).body=.assign 3 (.call 37 [(.var 0),(.var 1)])::(T 41).body.drop 1:=rfl
 induction D with
 |error m =>
  refine kZ (as:=[.t (aR l n none),.t ix.pv,.t (.bool drop)]) (g:=[some (.t (aR l n none)),some (.t ix.pv),some (.t (.bool drop)),none,none,none]) rfl rfl ?_
  rw[s0,ah,aC,h1];rfl
 |ok pl =>
  obtain⟨st',dO,h2,h3⟩:=BW k l n ix.pv drop pl
  refine⟨st',dO,lS (as:=[.t (aR l n none),.t ix.pv,.t (.bool drop)]) (g:=[some (.t (aR l n none)),some (.t ix.pv),some (.t (.bool drop)),none,none,none]) rfl rfl rfl ?_,h3⟩
  rw[s0,ah,aC,h1]
  exact h2
theorem BY(k:Nat) (l:List PV) (hl:l.length<1000) (n:Nat)  (ix:Ix) (hx:ix.ok) (hm:ix≠.missing) (drop:Bool) (st:aB) :
  call T (k+10) 43 [.t (aR l n none),.t (.lst [ix.pv]),.t (.bool drop),.t (.bool true)] st=resT (uD (fun pl=>mH (pl.map (aT l .none)) none drop) (iE l.length none ix)) st:=by
 have Ew:=SQ k l hl n  ix hx hm drop
 generalize iE l.length none ix=D at Ew
 have s1:bO (call T (k+9)) ((T 43).body.take 5) [some (.t (aR l n none)),some (.t (.lst [ix.pv])),some (.t (.bool drop)),some (.t (.bool true)),none,none] []=some (.next [some (.t (aR l n none)),some (.t (.lst [ix.pv])),some (.t (.bool drop)),some (.t (.bool true)),some (.r 0),none] [Node.lst [.int n]]):=by
  clear Ew
  induction ix with
  |missing=>exact absurd rfl hm
  |null=>kernel_rfl
  |list=>kernel_rfl
  |logical l=>kernel_rfl
  |integer l=>kernel_rfl
  |eF l=>kernel_rfl
  |character l=>kernel_rfl
 have s2:bO (call T (k+9)) (Fy.take 2) [some (.t (aR l n none)),some (.t (.lst [ix.pv])),some (.t (.bool drop)),some (.t (.bool true)),some (.r 0),none] [Node.lst [.int n]]=some (.next [some (.t (aR l n none)),some (.t (.lst [ix.pv])),some (.t (.bool drop)),some (.t (.bool true)),some (.r 0),some (.t .none)] [Node.fz (.lst [.int n])]):=by
  clear Ew
  induction ix with
  |missing=>exact absurd rfl hm
  |null=>kernel_rfl
  |list=>kernel_rfl
  |logical l=>kernel_rfl
  |integer l=>kernel_rfl
  |eF l=>kernel_rfl
  |character l=>kernel_rfl
 have s3:Fy.drop 2=.ifs (.and [(.cmp .ee (.var 4) .none),(.cmp .eq (.bi .len [(.var 4)]) (.int 1))]) [.ret (.call 41 [(.var 0),(.sub (.var 1) (.int 0)),(.var 2)])] []::Fy.drop 3:=rfl
 have hc:ev (call T (k+9)) (.and [(.cmp .ee (.var 4) .none),(.cmp .eq (.bi .len [(.var 4)]) (.int 1))]) [some (.t (aR l n none)),some (.t (.lst [ix.pv])),some (.t (.bool drop)),some (.t (.bool true)),some (.r 0),some (.t .none)] [Node.fz (.lst [.int n])]=ok (.t (.bool true)) [Node.fz (.lst [.int n])]:=by kernel_rfl
 have ym:∀r,call T (k+9) 41 [.t (aR l n none),.t ix.pv,.t (.bool drop)] [Node.fz (.lst [.int n])]=r->ev (call T (k+9)) (.call 41 [(.var 0),(.sub (.var 1) (.int 0)),(.var 2)]) [some (.t (aR l n none)),some (.t (.lst [ix.pv])),some (.t (.bool drop)),some (.t (.bool true)),some (.r 0),some (.t .none)] [Node.fz (.lst [.int n])]=r:=fun r h=>h
 induction D with
 |error m =>
  refine fG (ds:=[aR l n none,.lst [ix.pv],.bool drop,.bool true]) (st':=[Node.fz (.lst [.int n]),Node.lst [.int n]]) rfl rfl (aN 5 s1 ?_)
  rw[MF]
  refine bU (st1:=[Node.lst [.int n]]) (t:=.t (.bool true)) rfl rfl (aN 2 s2 ?_) rfl
  rw[s3]
  refine bU hc rfl (o:=some (.exc m [Node.fz (.lst [.int n]),Node.lst [.int n]])) ?_ rfl
  rw[ah,aW,ym _ Ew];rfl
 |ok pl =>
  obtain⟨st',dO,h4,h5⟩:=Ew
  refine bz (ds:=[aR l n none,.lst [ix.pv],.bool drop,.bool true]) (st':=st') rfl rfl (aN 5 s1 ?_) h5
  rw[MF]
  refine bU (st1:=[Node.lst [.int n]]) (t:=.t (.bool true)) rfl rfl (aN 2 s2 ?_) rfl
  rw[s3]
  refine bU hc rfl (o:=some (.ret (.r 2) st')) ?_ rfl
  rw[ah,aW,ym _ h4];rfl
theorem sf(k:Nat) (l:List PV) (n:Nat) (drop:Bool) (st:aB):call T (k+10) 43 [.t (aR l n none),.t (.lst [pR]),.t (.bool drop),.t (.bool true)] st=ok (.t (aR l n none)) st:=by kernel_rfl
noncomputable def UK(l:List PV) (n:Nat) (hs:List (Option Tx)) (pl:List (Option Nat)):aB:=[Node.fz (.lst [.int n]),Node.fz (.lst [.lst (hs.map aD)]),Node.lst [.int n],Node.lst [.lst (hs.map aD)],Node.inst .aQ [(aj,.t (.str aa)),(ai,.t (.lst (pl.map (aT l .none)))),(az,.r 9),(aX,.t (.bool false))],Node.aK [(bG,vec ao (pl.map (aT (hs.map aD) (.str eH))) .none)],Node.fz (.lst (pl.map (aT (hs.map aD) (.str eH)))),Node.fz (.lst [.lst (pl.map (aT (hs.map aD) (.str eH)))]),Node.fz (.lst [.int ((pl.map (aT l .none)).length:Nat)]),Node.aK [(dU,vec aa [.int ((pl.map (aT l .none)).length:Nat)] .none),(bP,vec aE [vec ao (pl.map (aT (hs.map aD) (.str eH))) .none] .none)]]
theorem BZ(k:Nat) (l:List PV) (n:Nat) (hs:List (Option Tx)) (ix:PV) (drop:Bool) (pl:List (Option Nat)):∃st' dO,bO (call T (k+8)) ((T 41).body.drop 1) [some (.t (aR l n (some (hs.map aD)))),some (.t ix),some (.t (.bool drop)),some (.r 4),none,none] (gV l n hs pl)=some (.ret (.r 4) st')/\i6 cR st' (.r 4)=some (mH (pl.map (aT l .none)) (some (pl.map (aT (hs.map aD) (.str eH)))) drop,dO):=by
 have kD:bO (call T (k+8)) ((T 41).body.drop 2) [some (.t (aR l n (some (hs.map aD)))),some (.t ix),some (.t (.bool drop)),some (.r 4),none,none] (gV l n hs pl)=some (.ret (.r 4) (UK l n hs pl)):=by kernel_rfl
 have ic:∃dO,i6 cR (UK l n hs pl) (.r 4)=some (aR (pl.map (aT l .none)) (pl.map (aT l .none)).length (some (pl.map (aT (hs.map aD) (.str eH)))),dO):=⟨_,rfl⟩
 obtain⟨dO,ic⟩:=ic
 unfold mH
 rw[UI]
 induction drop with
 |false =>
  rw[if_neg (fun h=>by cases h.1)]
  exact⟨_,_,kD,ic⟩
 |true =>
  have hlen:ev (call T (k+8)) (.cmp .eq (.bi .len [(.attr (.var 3) ai)]) (.int 1)) [some (.t (aR l n (some (hs.map aD)))),some (.t ix),some (.t (.bool true)),some (.r 4),none,none] (gV l n hs pl)=ok (.t (.bool (decide (((pl.map (aT l .none)).length:Int)=1)))) (gV l n hs pl):=rfl
  by_cases h1:(pl.map (aT l .none)).length=1
  ·rw[if_pos ⟨rfl,h1⟩]
   have Li:(((pl.map (aT l .none)).length:Int)=1):=by omega
   refine⟨gV l n hs pl,_,?_,rfl⟩
   rw[ah,aM,dh,dj]
   simp only[av,ay,List.getElem?_cons_zero,List.getElem?_cons_succ,af,ak,ez,eN,hlen,dD Li,aF,aS,ah,aW,bB]
  ·rw[if_neg (fun h=>h1 h.2)]
   have Li:¬(((pl.map (aT l .none)).length:Int)=1):=by omega
   refine⟨_,_,?_,ic⟩
   rw[ah,aM,dh,dj]
   simp only[av,ay,List.getElem?_cons_zero,List.getElem?_cons_succ,af,ak,ez,eN,hlen,bL Li,aF,bD,aL,au,kD]
theorem SR(k:Nat) (l:List PV) (hl:l.length<1000) (n:Nat) (hs:List (Option Tx)) (ho:okN (some hs)) (ix:Ix) (hx:ix.ok) (hm:ix≠.missing) (drop:Bool) :
  match iE l.length (some hs) ix with
  |.error m=>call T (k+9) 41 [.t (aR l n (some (hs.map aD))),.t ix.pv,.t (.bool drop)] [Node.fz (.lst [.int n]),Node.fz (.lst [.lst (hs.map aD)])]=some (.error (m,[Node.fz (.lst [.int n]),Node.fz (.lst [.lst (hs.map aD)]),Node.lst [.int n],Node.lst [.lst (hs.map aD)]]))
  |.ok pl=>∃st' dO,call T (k+9) 41 [.t (aR l n (some (hs.map aD))),.t ix.pv,.t (.bool drop)] [Node.fz (.lst [.int n]),Node.fz (.lst [.lst (hs.map aD)])]=ok (.r 4) st'/\i6 cR st' (.r 4)=some (mH (pl.map (aT l .none)) (some (pl.map (aT (hs.map aD) (.str eH)))) drop,dO):=by
 have Fz:=Es k l hl n hs ho ix hx hm
 generalize iE l.length (some hs) ix=D at Fz
 have h1:ev (call T (k+8)) (.call 37 [(.var 0),(.var 1)]) [some (.t (aR l n (some (hs.map aD)))),some (.t ix.pv),some (.t (.bool drop)),none,none,none] [Node.fz (.lst [.int n]),Node.fz (.lst [.lst (hs.map aD)])]=MD 4 [Node.fz (.lst [.int n]),Node.fz (.lst [.lst (hs.map aD)]),Node.lst [.int n],Node.lst [.lst (hs.map aD)]] (fun pl=>gV l n hs pl) D:=Fz
 have s0:(T 41).body=.assign 3 (.call 37 [(.var 0),(.var 1)])::(T 41).body.drop 1:=rfl
 induction D with
 |error m =>
  refine kZ (as:=[.t (aR l n (some (hs.map aD))),.t ix.pv,.t (.bool drop)]) (g:=[some (.t (aR l n (some (hs.map aD)))),some (.t ix.pv),some (.t (.bool drop)),none,none,none]) rfl rfl ?_
  rw[s0,ah,aC,h1];rfl
 |ok pl =>
  obtain⟨st',dO,h2,h3⟩:=BZ k l n hs ix.pv drop pl
  refine⟨st',dO,lS (as:=[.t (aR l n (some (hs.map aD))),.t ix.pv,.t (.bool drop)]) (g:=[some (.t (aR l n (some (hs.map aD)))),some (.t ix.pv),some (.t (.bool drop)),none,none,none]) rfl rfl rfl ?_,h3⟩
  rw[s0,ah,aC,h1]
  exact h2
theorem B0(k:Nat) (l:List PV) (hl:l.length<1000) (n:Nat) (hs:List (Option Tx)) (ho:okN (some hs)) (ix:Ix) (hx:ix.ok) (hm:ix≠.missing) (drop:Bool) (st:aB) :
  call T (k+10) 43 [.t (aR l n (some (hs.map aD))),.t (.lst [ix.pv]),.t (.bool drop),.t (.bool true)] st=resT (uD (fun pl=>mH (pl.map (aT l .none)) (some (pl.map (aT (hs.map aD) (.str eH)))) drop) (iE l.length (some hs) ix)) st:=by
 have Ew:=SR k l hl n hs ho ix hx hm drop
 generalize iE l.length (some hs) ix=D at Ew
 have s1:bO (call T (k+9)) ((T 43).body.take 5) [some (.t (aR l n (some (hs.map aD)))),some (.t (.lst [ix.pv])),some (.t (.bool drop)),some (.t (.bool true)),none,none] []=some (.next [some (.t (aR l n (some (hs.map aD)))),some (.t (.lst [ix.pv])),some (.t (.bool drop)),some (.t (.bool true)),some (.r 0),none] [Node.lst [.int n]]):=by
  clear Ew
  induction ix with
  |missing=>exact absurd rfl hm
  |null=>kernel_rfl
  |list=>kernel_rfl
  |logical l=>kernel_rfl
  |integer l=>kernel_rfl
  |eF l=>kernel_rfl
  |character l=>kernel_rfl
 have s2:bO (call T (k+9)) (Fy.take 2) [some (.t (aR l n (some (hs.map aD)))),some (.t (.lst [ix.pv])),some (.t (.bool drop)),some (.t (.bool true)),some (.r 0),none] [Node.lst [.int n]]=some (.next [some (.t (aR l n (some (hs.map aD)))),some (.t (.lst [ix.pv])),some (.t (.bool drop)),some (.t (.bool true)),some (.r 0),some (.t .none)] [Node.fz (.lst [.int n]),Node.fz (.lst [.lst (hs.map aD)])]):=by
  clear Ew
  induction ix with
  |missing=>exact absurd rfl hm
  |null=>kernel_rfl
  |list=>kernel_rfl
  |logical l=>kernel_rfl
  |integer l=>kernel_rfl
  |eF l=>kernel_rfl
  |character l=>kernel_rfl
 have s3:Fy.drop 2=.ifs (.and [(.cmp .ee (.var 4) .none),(.cmp .eq (.bi .len [(.var 4)]) (.int 1))]) [.ret (.call 41 [(.var 0),(.sub (.var 1) (.int 0)),(.var 2)])] []::Fy.drop 3:=rfl
 have hc:ev (call T (k+9)) (.and [(.cmp .ee (.var 4) .none),(.cmp .eq (.bi .len [(.var 4)]) (.int 1))]) [some (.t (aR l n (some (hs.map aD)))),some (.t (.lst [ix.pv])),some (.t (.bool drop)),some (.t (.bool true)),some (.r 0),some (.t .none)] [Node.fz (.lst [.int n]),Node.fz (.lst [.lst (hs.map aD)])]=ok (.t (.bool true)) [Node.fz (.lst [.int n]),Node.fz (.lst [.lst (hs.map aD)])]:=by kernel_rfl
 have ym:∀r,call T (k+9) 41 [.t (aR l n (some (hs.map aD))),.t ix.pv,.t (.bool drop)] [Node.fz (.lst [.int n]),Node.fz (.lst [.lst (hs.map aD)])]=r->ev (call T (k+9)) (.call 41 [(.var 0),(.sub (.var 1) (.int 0)),(.var 2)]) [some (.t (aR l n (some (hs.map aD)))),some (.t (.lst [ix.pv])),some (.t (.bool drop)),some (.t (.bool true)),some (.r 0),some (.t .none)] [Node.fz (.lst [.int n]),Node.fz (.lst [.lst (hs.map aD)])]=r:=fun r h=>h
 induction D with
 |error m =>
  refine fG (ds:=[aR l n (some (hs.map aD)),.lst [ix.pv],.bool drop,.bool true]) (st':=[Node.fz (.lst [.int n]),Node.fz (.lst [.lst (hs.map aD)]),Node.lst [.int n],Node.lst [.lst (hs.map aD)]]) rfl rfl (aN 5 s1 ?_)
  rw[MF]
  refine bU (st1:=[Node.lst [.int n]]) (t:=.t (.bool true)) rfl rfl (aN 2 s2 ?_) rfl
  rw[s3]
  refine bU hc rfl (o:=some (.exc m [Node.fz (.lst [.int n]),Node.fz (.lst [.lst (hs.map aD)]),Node.lst [.int n],Node.lst [.lst (hs.map aD)]])) ?_ rfl
  rw[ah,aW,ym _ Ew];rfl
 |ok pl =>
  obtain⟨st',dO,h4,h5⟩:=Ew
  refine bz (ds:=[aR l n (some (hs.map aD)),.lst [ix.pv],.bool drop,.bool true]) (st':=st') rfl rfl (aN 5 s1 ?_) h5
  rw[MF]
  refine bU (st1:=[Node.lst [.int n]]) (t:=.t (.bool true)) rfl rfl (aN 2 s2 ?_) rfl
  rw[s3]
  refine bU hc rfl (o:=some (.ret (.r 4) st')) ?_ rfl
  rw[ah,aW,ym _ h4];rfl
theorem sj(k:Nat) (l:List PV) (n:Nat) (hs:List (Option Tx)) (drop:Bool) (st:aB):call T (k+10) 43 [.t (aR l n (some (hs.map aD))),.t (.lst [pR]),.t (.bool drop),.t (.bool true)] st=ok (.t (aR l n (some (hs.map aD)))) st:=by kernel_rfl
theorem B3(k:Nat) (a:Int) (h:0<a) (n:PV) (st:aB):call T (k+1) 28 [.t (.int a),.t n] st=ok (.t (.int (a-1))) st:=by
 refine bz (ds:=[.int a,n]) (a:=.t (.int (a-1))) (st':=[]) rfl rfl ?_ rfl
 rw[show(T 28).body=.ifs (.cmp .is (.var 0) .none) [.bad] []::.ifs (.cmp .gt (.var 0) (.int 0)) [.ret (.bin .sub (.var 0) (.int 1))] []::(T 28).body.drop 2 from rfl]
 show bO _ _ [some (.t (.int a)),some (.t n)] []=_
 simp only[af,aF,aS,bD,aM,aW,ah,aL,au,bB,av,ay,aH,bg,aG,aV,bk,dW,bN,ak,b7,eK,List.getElem?_cons_zero,dD h]
theorem tu(k:Nat) (a:Int) (h:0<a) (n:Int) (nm:PV) (st:aB):call T (k+5) 29 [.t (vec aa [.int a] .none),.t (.int n),.t nm,.t (.bool true)] st=ok (.t (.int (a-1))) st:=by
 refine bz (ds:=[vec aa [.int a] .none,.int n,nm,.bool true]) (a:=.t (.int (a-1))) (st':=[]) rfl rfl (aN 7 (g':=[some (.t (vec aa [.int a] .none)),some (.t (.int n)),some (.t nm),some (.t (.bool true)),some (.t (.str aa))]) (st':=[]) (by kernel_rfl) ?_) rfl
 show bO _ [.ret (.call 28 [(.sub (.call 21 [(.var 0)]) (.int 0)),(.var 1)])] _ _=_
 simp only[af,aF,aW,ah,bB,av,ay,bg,aV,aA,aq,bW,bR,Ho,List.getElem?_cons_zero,List.getElem?_cons_succ,jm,B3 _ a h]
noncomputable def elemR(bK:List It) (j:Nat):Except Tx PV:=match bK[j]? with
 |some it=>.ok it.pv
 |none=>.error bQ
theorem wA(k:Nat) (bK:List It) (hi:bK.length<1000) (tO:List (Option Tx)) (j:Nat) (st:aB) :
  call T (k+6) 44 [.t (bA (bK.map It.pv) (tO.map aD)),.t (vec aa [.int (j+1:Nat)] .none),.t (.bool true)] st=resT (elemR bK j) st:=by
 have hj:(0:Int)<((j+1:Nat):Int):=by omega
 have h2:=dR (C:=call T (k+5)) (x:=3) (src:=.attr (.var 0) b6) (c:=none) (e:=.ite (.cmp .ee (.var 3) .none) (.var 3) (.str [])) (g:=[some (.t (bA (bK.map It.pv) (tO.map aD))),some (.t (vec aa [.int (j+1:Nat)] .none)),some (.t (.bool true)),none,none,none]) (st:=[]) (st2:=[]) rfl rfl rfl
  (uC _ 3 [some (.t (bA (bK.map It.pv) (tO.map aD))),some (.t (vec aa [.int (j+1:Nat)] .none)),some (.t (.bool true)),none,none,none] (show 3<6 by decide) tO _ rfl)
 have h3:ev (call T (k+5)) (.call 29 [(.var 1),(.bi .len [(.attr (.var 0) ai)]),(.var 4),(.var 2)]) [some (.t (bA (bK.map It.pv) (tO.map aD))),some (.t (vec aa [.int (j+1:Nat)] .none)),some (.t (.bool true)),none,some (.r 0),none] [.lst (tO.map eO)]=ok (.t (.int j)) [.fz (.lst (tO.map eO))]:=by
  refine dG (f:=29) (as:=[.t (vec aa [.int (j+1:Nat)] .none),.t (.int ((bK.map It.pv).length:Nat)),.r 0,.t (.bool true)]) (ds:=[vec aa [.int (j+1:Nat)] .none,.int ((bK.map It.pv).length:Nat),.lst (tO.map eO),.bool true]) (st1:=[.lst (tO.map eO)]) (st2:=[.fz (.lst (tO.map eO))]) rfl rfl rfl ?_
  have h:=tu k ((j+1:Nat):Int) hj ((bK.map It.pv).length:Nat) (.lst (tO.map eO)) [.fz (.lst (tO.map eO))]
  rw[show(((j+1:Nat):Int)-1)=(j:Int) by omega] at h
  exact h
 have e:(T 44).body.drop 2=.ifs (.cmp .eq (.attr (.var 0) aj) (.str aI)) [.assign 4 (.comp 3 (.attr (.var 0) b6) none (.ite (.cmp .ee (.var 3) .none) (.var 3) (.str []))),.assign 5 (.call 29 [(.var 1),(.bi .len [(.attr (.var 0) ai)]),(.var 4),(.var 2)]),.ifs (.or [(.cmp .is (.var 5) .none),(.cmp .lt (.var 5) (.int 0)),(.cmp .ge (.var 5) (.bi .len [(.attr (.var 0) ai)]))]) [.raise (.str bQ)] [],.ret (.sub (.attr (.var 0) ai) (.var 5))] []::(T 44).body.drop 3:=rfl
 have s1:bO (call T (k+5)) ((T 44).body.take 2) [some (.t (bA (bK.map It.pv) (tO.map aD))),some (.t (vec aa [.int (j+1:Nat)] .none)),some (.t (.bool true)),none,none,none] []=some (.next [some (.t (bA (bK.map It.pv) (tO.map aD))),some (.t (vec aa [.int (j+1:Nat)] .none)),some (.t (.bool true)),none,none,none] []):=by kernel_rfl
 have UL:¬((j:Int)<0):=by omega
 unfold elemR
 by_cases h:j<bK.length
 ·have h4:(bK.map It.pv)[j]? = some bK[j].pv:=by rw[List.getElem?_map,List.getElem?_eq_getElem h];rfl
  have h5:¬((bK.length:Int)<=(j:Int)):=by omega
  rw[List.getElem?_eq_getElem h]
  refine bz (ds:=[bA (bK.map It.pv) (tO.map aD),vec aa [.int (j+1:Nat)] .none,.bool true]) (a:=.t bK[j].pv) (st':=[.fz (.lst (tO.map eO))]) rfl rfl (aN 2 s1 ?_) rfl
  rw[e]
  refine bU (st1:=[]) (t:=.t (.bool true)) rfl rfl (bE (by rw[aC,h2];rfl) (bE (by rw[aC];exact congrArg (fun r=>R.out r _) h3) ?_)) rfl
  simp only[af,aF,bD,aM,aW,ah,aL,au,bB,av,ay,aH,bg,cQ,aG,aV,bk,eu,fV,bN,ak,dz,fu,dB,eZ,aA,aq,bR,fD,fE,cC,ef,cW,gj,ya,List.getElem?_cons_zero,List.getElem?_cons_succ,List.set_cons_zero,List.set_cons_succ,List.length_map,List.length_nil,bL UL,bL h5,h4]
 ·have h5:((bK.length:Int)<=(j:Int)):=by omega
  rw[List.getElem?_eq_none (Nat.le_of_not_lt h)]
  refine fG (ds:=[bA (bK.map It.pv) (tO.map aD),vec aa [.int (j+1:Nat)] .none,.bool true]) (st':=[.fz (.lst (tO.map eO))]) rfl rfl (aN 2 s1 ?_)
  rw[e]
  refine bU (st1:=[]) (t:=.t (.bool true)) rfl rfl (bE (by rw[aC,h2];rfl) (bE (by rw[aC];exact congrArg (fun r=>R.out r _) h3) ?_)) rfl
  simp only[af,aF,aS,aM,rO,rP,ah,kP,av,ay,aH,bI,bg,cQ,aG,aV,bk,eu,fV,bN,ak,dz,fu,dB,eZ,aA,aq,cC,ef,cW,gj,ya,List.getElem?_cons_zero,List.getElem?_cons_succ,List.set_cons_zero,List.set_cons_succ,List.length_map,List.length_nil,bL UL,dD h5]
theorem element(k:Nat) (bK:List It) (hi:bK.length<1000) (tO:List (Option Tx)) (j:Nat) (st:aB) :
  call T (k+7) 46 [.t (bA (bK.map It.pv) (tO.map aD)),.t (.lst [vec aa [.int (j+1:Nat)] .none]),.t (.bool true)] st=resT (elemR bK j) st:=by
 have h:=wA k bK hi tO j []
 generalize elemR bK j=D at h
 have s1:bO (call T (k+6)) ((T 46).body.take 3) [some (.t (bA (bK.map It.pv) (tO.map aD))),some (.t (.lst [vec aa [.int (j+1:Nat)] .none])),some (.t (.bool true)),none] []=some (.next [some (.t (bA (bK.map It.pv) (tO.map aD))),some (.t (.lst [vec aa [.int (j+1:Nat)] .none])),some (.t (.bool true)),some (.t (vec aa [.int (j+1:Nat)] .none))] []):=by kernel_rfl
 have h2:bO (call T (k+6)) ((T 46).body.drop 3) [some (.t (bA (bK.map It.pv) (tO.map aD))),some (.t (.lst [vec aa [.int (j+1:Nat)] .none])),some (.t (.bool true)),some (.t (vec aa [.int (j+1:Nat)] .none))] []=Lh D []:=by
  refine bU (c:=.or [(.not (.call 45 [(.var 3)])),(.not (.or [(.call 33 [(.attr (.var 0) aj)]),(.cmp .eq (.attr (.var 0) aj) (.str aI))]))]) (a:=[.ret (.call 44 [(.var 0),(.var 3),(.var 2)])]) (st1:=[]) (t:=.t (.bool true)) (by kernel_rfl) rfl (Ax ?_ []) (by induction D<;>rfl)
  exact h
 induction D with
 |ok d=>exact bz (ds:=[bA (bK.map It.pv) (tO.map aD),.lst [vec aa [.int (j+1:Nat)] .none],.bool true]) rfl rfl (aN 3 s1 h2) rfl
 |error m=>exact fG (ds:=[bA (bK.map It.pv) (tO.map aD),.lst [vec aa [.int (j+1:Nat)] .none],.bool true]) rfl rfl (aN 3 s1 h2)
noncomputable def pS(l:List PV) (tO:List (Option Tx)):PV:=vec aE l (jP (if tO.any Option.isSome=true then some (tO.map eO) else none))
noncomputable def Pb:List S:=[.expr (.b4 .append (.var 2) [(.ite (.cmp .is (.var 4) .none) (.str []) (.var 4))]),.assign 3 (.or [(.var 3),(.cmp .ee (.var 4) .none)])]
theorem Lj(C:fj) (g0:Option AV) (n0 n1:Node) (b:Bool) (found:List PV) (hf:found.length<2000) (a:Option Tx) :
 bO C Pb [g0,some (.r 1),some (.r 2),some (.t (.bool b)),some (.t (aD a))] [n0,n1,.lst found]=some (.next [g0,some (.r 1),some (.r 2),some (.t (.bool (b||a.isSome))),some (.t (aD a))] [n0,n1,.lst (found++[eO a])]):=by
 unfold Pb
 induction a with
 |none=>induction b<;>simp only[af,aF,bx,aC,ah,aL,au,av,ay,aH,bI,aG,aV,cP,bX,bk,cu,isNone_none,ak,dz,fu,dB,j5,eZ,cK,fW,aA,aq,br,bu,aU,aZ,cL,bf,bV,jl,List.getElem?_cons_zero,List.getElem?_cons_succ,List.set_cons_zero,List.set_cons_succ,rS,cY hf,eO,Option.isSome,Bool.or_false]
 |some s=>induction b<;>simp only[af,aF,bx,aC,ah,aL,au,av,ay,aH,aG,aV,cP,bX,bk,cu,cB,ak,dz,fu,dB,j5,eZ,cK,fX,aA,aq,br,bu,aU,aZ,cL,bf,bV,iC,List.getElem?_cons_zero,List.getElem?_cons_succ,List.set_cons_zero,List.set_cons_succ,jz,cY hf,eO,Option.isSome,Bool.or_true]
noncomputable def Pc(l:List PV) (tO:List (Option Tx)) (b:Bool) (x:Option AV):Gm:=[some (.t (bA l (tO.map aD))),some (.r 1),some (.r 2),some (.t (.bool b)),x]
theorem nS(k:Nat) (l:List PV) (tO:List (Option Tx)) (ht:tO.length<1000) (st:aB):call T (k+5) 65 [.t (bA l (tO.map aD))] st=ok (.t (pS l tO)) st:=by
 obtain⟨g',st',h1,x,rfl,rfl⟩:=dH (f:=bO (call T (k+4)) Pb) (x:=4) (n:=3) aD
  (fun pre g st=>∃x,g=Pc l tO (pre.any Option.isSome) x/\st=iG l++[Node.lst (pre.map eO)])
  tO (Pc l tO false none) (iG l++[Node.lst []]) ⟨_,rfl,rfl⟩ (by
   rintro p b q g st e ⟨x,rfl,rfl⟩
   refine⟨Pc l tO (p.any Option.isSome||b.isSome) (some (.t (aD b))),iG l++[Node.lst (p.map eO++[eO b])],⟨_,_,.inl (Lj _ _ _ _ _ _ ?_ b),rfl⟩,some (.t (aD b)),?_,?_⟩
   ·have:=congrArg List.length e;simp at this ⊢;omega
   ·rw[List.any_append,List.any_cons,List.any_nil,Bool.or_false]
   ·rw[List.map_append];rfl)
 have hF:=eL (C:=call T (k+4)) (x:=4) (src:=.attr (.var 0) b6) (body:=Pb) (g:=Pc l tO false none) (st:=iG l++[Node.lst []]) (st2:=iG l++[Node.lst []]) (items:=tO.map aD) rfl rfl rfl h1
 have s1:bO (call T (k+4)) ((T 65).body.take 3) [some (.t (bA l (tO.map aD))),none,none,none,none] []=some (.next (Pc l tO false none) (iG l++[Node.lst []])):=by kernel_rfl
 have e:(T 65).body.drop 3=.gk 4 (.attr (.var 0) b6) Pb::(T 65).body.drop 4:=rfl
 unfold pS
 cases hb:tO.any Option.isSome with
 |false =>
  rw[hb] at hF
  refine bz (ds:=[bA l (tO.map aD)]) (a:=.r 1) (st':=iG l++[Node.lst (tO.map eO)]) rfl rfl (aN 3 s1 ?_) rfl
  rw[e]
  exact bE hF (by kernel_rfl)
 |true =>
  rw[hb] at hF
  refine bz (ds:=[bA l (tO.map aD)]) (a:=.r 1) (st':=[.lst l,.inst .aQ [(aj,.t (.str aE)),(ai,.r 0),(az,.r 3),(aX,.t (.bool false))],.fz (.lst (tO.map eO)),.aK [(bG,vec ao (tO.map eO) .none)]]) rfl rfl (aN 3 s1 ?_) rfl
  rw[e]
  exact bE hF (by kernel_rfl)
theorem B4(C:fj) (x:Nat) (g:Gm) (hx:x<g.length) (tO:List (Option Tx)) (ht:∀s,some s∈tO->s≠[]) (st:aB) (hb:back st.length st=some st) :
  turns (dJ C x none (.ite (.or [(.cmp .is (.var x) .none),(.cmp .eq (.var x) (.str []))]) .none (.var x)) g) (tO.map eO) st=ok (tO.map aD) st:=by
 refine lQ eO aD tO fun a ha=>⟨st,?_,hb⟩
 unfold dJ
 induction a with
 |none=>simp only[af,av,ay,aH,bI,aG,aV,bk,cV,cB,ak,dz,fu,dB,eZ,cK,fW,dF,j6,rS,if_true,decide_true,List.getElem?_set_self hx,eO]
 |some s=>simp only[af,av,ay,aH,bI,aG,aV,bk,cV,cB,ak,dz,fu,dB,eZ,cK,fX,dF,j6,jz,if_true,List.getElem?_set_self hx,eO,bL (ht s ha)]
theorem yo(st:aB) (l:List PV) (h:l.length<1000):yV .mul st (some (.lst [.none])) (some (.int (l.length:Nat)))=alloc st (.lst (List.replicate l.length .none)):=by
 show(if -2000<=((l.length:Nat):Int)/\((l.length:Nat):Int)<=2000 then alloc st (.lst (List.replicate ((l.length:Nat):Int).toNat .none)) else none)=_
 rw[if_pos ⟨by omega,by omega⟩,Int.toNat_natCast]
noncomputable def tB(l:List PV) (tO:List (Option Tx)):PV:=if l.length=0 then cU else bA l (tO.map aD)
theorem Lk(x:PV) (X:List PV) (tO:List (Option Tx)):tB (x::X) tO=bA (x::X) (tO.map aD):=by
 unfold tB;rw[if_neg (by simp)]
theorem Ex(n:Nat):List.replicate n PV.none=(List.replicate n (none:Option Tx)).map aD:=by rw[List.map_replicate];rfl
noncomputable def UM(a b:Nat):Node:=.inst .call [(aj,.t (.str aI)),(ai,.r a),(b6,.r b),(az,.t .none),(jJ,.t .none)]
theorem UN:(T 66).body.drop 2=.assign 2 (.bin .mul (.list [.none]) (.bi .len [(.attr (.var 0) ai)]))::(T 66).body.drop 3:=rfl
theorem SS:(T 66).body.drop 3=.ifs (.cmp .ee (.var 1) .none) [.assign 2 (.comp 3 (.var 1) none (.ite (.or [(.cmp .is (.var 3) .none),(.cmp .eq (.var 3) (.str []))]) .none (.var 3)))] []::(T 66).body.drop 4:=rfl
theorem jR(k:Nat) (l:List PV) (hl:l.length<1000) (o:Option (List (Option Tx))) (ho:∀tO,o=some tO->∀s,some s∈tO->s≠[]) (st:aB) :
  call T (k+6) 66 [.t (vec aE l (jP (o.map (·.map eO))))] st=ok (.t (tB l (o.getD (List.replicate l.length none)))) st:=by
 match l,hl with
 |[],_=>induction o<;>kernel_rfl
 |x::X,hl =>
  rw[Lk]
  induction o with
  |none =>
   have s1:bO (call T (k+5)) ((T 66).body.take 2) [some (.t (vec aE (x::X) .none)),none,none,none] []=some (.next [some (.t (vec aE (x::X) .none)),some (.t .none),none,none] []):=by kernel_rfl
   show _=ok (AV.t (bA (x::X) ((List.replicate (x::X).length none).map aD))) st
   rw[<-Ex]
   refine bz (ds:=[vec aE (x::X) .none]) (a:=.r 3) (st':=[.lst [.none],.lst (List.replicate (x::X).length .none),.lst (x::X),UM 2 1]) rfl rfl (aN 2 s1 ?_) rfl
   rw[UN]
   refine bE (g':=[some (.t (vec aE (x::X) .none)),some (.t .none),some (.r 1),none]) (st':=[.lst [.none],.lst (List.replicate (x::X).length .none)]) ?_ ?_
   ·have h:=yo [.lst [.none]] (x::X) hl
    simp only[aC,b7,eE,aq,aA,aH,af,cL,bS,cC,cQ,av,ay,List.getElem?_cons_zero,fY,ef,aV,cW,gj,List.nil_append,List.length_nil,cP,bX,h];rfl
   ·kernel_rfl
  |some tO =>
   have s1:bO (call T (k+5)) ((T 66).body.take 2) [some (.t (vec aE (x::X) (jP (some (tO.map eO))))),none,none,none] []=some (.next [some (.t (vec aE (x::X) (jP (some (tO.map eO))))),some (.r 0),none,none] [.lst (tO.map eO)]):=by kernel_rfl
   show _=ok (AV.t (bA (x::X) (tO.map aD))) st
   have h3:=dR (C:=call T (k+5)) (x:=3) (src:=.var 1) (c:=none) (e:=.ite (.or [(.cmp .is (.var 3) .none),(.cmp .eq (.var 3) (.str []))]) .none (.var 3)) (g:=[some (.t (vec aE (x::X) (jP (some (tO.map eO))))),some (.r 0),some (.r 2),none]) (st:=[.lst (tO.map eO),.lst [.none],.lst (List.replicate (x::X).length .none)]) (st2:=[.fz (.lst (tO.map eO)),.lst [.none],.lst (List.replicate (x::X).length .none)]) rfl rfl rfl
    (B4 _ 3 [some (.t (vec aE (x::X) (jP (some (tO.map eO))))),some (.r 0),some (.r 2),none] (show 3<4 by decide) tO (ho tO rfl) _ rfl)
   refine bz (ds:=[vec aE (x::X) (jP (some (tO.map eO)))]) (a:=.r 5) (st':=[.fz (.lst (tO.map eO)),.lst [.none],.lst (List.replicate (x::X).length .none),.lst (tO.map aD),.lst (x::X),UM 4 3]) rfl rfl (aN 2 s1 ?_) rfl
   rw[UN]
   refine bE (g':=[some (.t (vec aE (x::X) (jP (some (tO.map eO))))),some (.r 0),some (.r 2),none]) (st':=[.lst (tO.map eO),.lst [.none],.lst (List.replicate (x::X).length .none)]) ?_ ?_
   ·have h:=yo [.lst (tO.map eO),.lst [.none]] (x::X) hl
    rw[List.length_cons] at h
    simp only[aC,b7,eE,aq,aA,aH,af,cL,bS,cC,cQ,av,ay,List.getElem?_cons_zero,fY,ef,aV,cW,gj,List.cons_append,List.nil_append,List.length_cons,List.length_nil,List.getElem?_cons_succ,Nat.zero_add,cP,bX,h];rfl
   ·rw[SS]
    refine bE (g':=[some (.t (vec aE (x::X) (jP (some (tO.map eO))))),some (.r 0),some (.r 3),none]) (st':=[.fz (.lst (tO.map eO)),.lst [.none],.lst (List.replicate (x::X).length .none),.lst (tO.map aD)]) ?_ ?_
    ·have hc:ev (call T (k+5)) (.cmp .ee (.var 1) .none) [some (.t (vec aE (x::X) (jP (some (tO.map eO))))),some (.r 0),some (.r 2),none] [.lst (tO.map eO),.lst [.none],.lst (List.replicate (x::X).length .none)]=ok (.t (.bool true)) [.lst (tO.map eO),.lst [.none],.lst (List.replicate (x::X).length .none)]:=rfl
     rw[aM,hc,aF,ak,aS,ah,aC,h3];rfl
    ·kernel_rfl
noncomputable def aO(m:Nat):List It:=[It.sym Sk,.int 0,.int 1,.sym Sl,.int 3].take (m+1)
noncomputable def isNul:It->Bool
 |.null=>true
 |_=>false
noncomputable def mX{α:Type}(val:It) (p:Nat) (v:α) (l:List α):List α:=if isNul val=true then l.eraseIdx p else l.set p v
noncomputable def eg{α:Type}(val:It) (p:Nat) (l:List α):List α:=if isNul val=true then l.eraseIdx p else l
noncomputable def MG(o:Option (List PV)) (m:Nat):Prop:=match o with
 |none=>True
 |some s=>s.length=m+1
noncomputable def isVal(val:It):Prop:=val=.chr Qu\/val=.sym Qv\/val=.null
noncomputable def valN(j:Nat):It:=match j with| 0=>.chr Qu|1=>.sym Qv|_=>.null
theorem wB(j:Nat):isVal (valN j):=match j with| 0=>.inl rfl|1=>.inr (.inl rfl)|_+2=>.inr (.inr rfl)
theorem wC{val:It}(h:isVal val){p:Prop}(k:∀j,j<3->val=valN j->p):p:=by
 rcases h with h|h|h
 ·exact k 0 (by decide) h
 ·exact k 1 (by decide) h
 ·exact k 2 (by decide) h
noncomputable def Ll:List (Nat×Nat×Nat):=(List.range 5).flatMap fun m=>(List.range (m+1)).flatMap fun p=>(List.range 3).map fun b=>(m,p,b)
theorem Ay{m p b:Nat}(hm:m<5) (hp:p<m+1) (hb:b<3):(m,p,b)∈Ll:=List.mem_flatMap.mpr ⟨m,List.mem_range.mpr hm,List.mem_flatMap.mpr ⟨p,List.mem_range.mpr hp,List.mem_map.mpr ⟨b,List.mem_range.mpr hb,rfl⟩⟩⟩
theorem nU{α:Type}{f g:Nat×Nat×Nat->α}(h:Ll.map f=Ll.map g){m p b:Nat}(hm:m<5) (hp:p<m+1) (hb:b<3):f (m,p,b)=g (m,p,b):=List.map_inj_left.mp h _ (Ay hm hp hb)
noncomputable def I9{α:Type}(n:Nat) (f:Nat->α):List α:=(List.range n).map f
theorem zK{α:Type}{n:Nat}(d:α){l:List α}(hl:l.length=n):l=I9 n fun i=>l.getD i d:=List.ext_getElem? fun i=>by
 unfold I9
 rw[List.getElem?_map]
 by_cases h:i<n
 ·rw[List.getElem?_range h]
  show _=some ((l[i]?).getD d)
  rw[List.getElem?_eq_getElem (hl.symm▸h)];rfl
 ·rw[List.getElem?_eq_none (hl.symm▸Nat.le_of_not_lt h),List.getElem?_eq_none (by rw[List.length_range];exact Nat.le_of_not_lt h)];rfl
noncomputable def oF(n:Nat) (b:Bool) (f:Nat->PV):Option (List PV):=cond b (some (I9 n f)) none
theorem Ja{m:Nat}{o:Option (List PV)}(ho:MG o m){p:Prop}(k:∀b f,o=oF (m+1) b f->p):p:=by
 cases o with
 |none=>exact k false (fun _=>.none) rfl
 |some s=>exact k true _ (congrArg some (zK .none ho))
noncomputable def XN(q:Nat×Nat×Nat) (f k:Nat) (o:Option (List PV)) (st:aB):R AV:=call T (k+16) f [.t (vec aE ((aO q.1).map It.pv) (jP o)),.t (.lst [vec aa [.int ((q.2.1+1:Nat):Int)] .none]),.t (valN q.2.2).pv,.t (.lst [])] st
noncomputable def XO(q:Nat×Nat×Nat) (o:Option (List PV)) (st:aB):R AV:=ok (.t (vec aE ((mX (valN q.2.2) q.2.1 (valN q.2.2) (aO q.1)).map It.pv) (jP (o.map (eg (valN q.2.2) q.2.1))))) st
@[reducible] noncomputable def Qz (f k:Nat) (m p:Nat) (val:It) (o:Option (List PV)) (st:aB):Prop :=
 call T (k+16) f [.t (vec aE ((aO m).map It.pv) (jP o)),.t (.lst [vec aa [.int ((p+1:Nat):Int)] .none]),.t val.pv,.t (.lst [])] st=ok (.t (vec aE ((mX val p val (aO m)).map It.pv) (jP (o.map (eg val p))))) st
theorem p7(f:Nat) (h:∀b,(Ll.map fun q k f' st=>XN q f k (oF (q.1+1) b f') st)=Ll.map fun q k f' st=>XO q (oF (q.1+1) b f') st) (k m p:Nat) (hm:m<5) (hp:p<m+1) (val:It) (hv:isVal val) (o:Option (List PV)) (ho:MG o m) (st:aB):Qz f k m p val o st :=
 wC hv fun j hj e=>Ja ho fun b g q=>by subst e q;exact congrFun (congrFun (congrFun (nU (h b) hm hp hj) k) g) st
theorem SV(k m p:Nat) (hm:m<5) (hp:p<m+1) (val:It) (hv:isVal val) (o:Option (List PV)) (ho:MG o m) (st:aB):Qz 71 k m p val o st:=p7 71 (fun b=>by cases b<;>kernel_rfl) k m p hm hp val hv o ho st
theorem XQ(k m p:Nat) (hm:m<5) (hp:p<m+1) (val:It) (hv:isVal val) (o:Option (List PV)) (ho:MG o m) (st:aB):Qz 67 k m p val o st:=p7 67 (fun b=>by cases b<;>kernel_rfl) k m p hm hp val hv o ho st
noncomputable def B5(nm:Tx):PV:=vec ao [.str nm] .none
noncomputable def HA:Option (List PV)->aB
 |none=>[]
 |some s=>[.fz (.lst s)]
noncomputable def FA(m:Nat) (o:Option (List PV)) (val:It) (nm:Tx) (a b c:Option AV):Gm:=[some (.t (vec aE ((aO m).map It.pv) (jP o))),some (.t (B5 nm)),some (.t val.pv),some (.t (.lst [])),a,b,c]
noncomputable def UO(val:It) (p:Nat) (s:List PV):aB:=if isNul val=true then[.fz (.lst s),.fz (.lst [.int ((p:Nat):Int)])] else[.fz (.lst s)]
@[reducible] noncomputable def XR (k m p:Nat) (val:It) (nm:Tx) (s:List PV):Prop :=
 bO (call T (k+16)) ((T 70).body.drop 3) (FA m (some s) val nm (some (.t (.int ((m+1:Nat):Int)))) (some (.t (.int ((p:Nat):Int)))) none) (HA (some s))=some (.ret (.t (vec aE ((mX val p val (aO m)).map It.pv) (jP (some (eg val p s))))) (UO val p s))
noncomputable def Ey(val:It) (nm:Tx) (l:List PV) (o:Option (List PV)):PV:=if isNul val=true then vec aE l (jP o) else vec aE (l++[val.pv]) (jP (some (o.getD (List.replicate l.length (.str []))++[.str nm])))
@[reducible] noncomputable def XS (k m:Nat) (val:It) (nm:Tx) (o:Option (List PV)):Prop :=
 bO (call T (k+16)) ((T 70).body.drop 3) (FA m o val nm (some (.t (.int ((m+1:Nat):Int)))) (some (.t (.int (-1)))) none) (HA o)=some (.ret (.t (Ey val nm ((aO m).map It.pv) o)) (HA o))
theorem XT(k m p:Nat) (hm:m<5) (hp:p<m+1) (val:It) (hv:isVal val) (nm:Tx) (s:List PV) (ho:s.length=m+1):XR k m p val nm s :=
 wC hv fun j hj e=>by
  subst e
  rw[zK .none ho]
  exact congrFun (congrFun (congrFun (nU (f:=fun q k nm g=>bO (call T (k+16)) ((T 70).body.drop 3) (FA q.1 (some (I9 (q.1+1) g)) (valN q.2.2) nm (some (.t (.int ((q.1+1:Nat):Int)))) (some (.t (.int ((q.2.1:Nat):Int)))) none) (HA (some (I9 (q.1+1) g)))) (g:=fun q k nm g=>some (.ret (.t (vec aE ((mX (valN q.2.2) q.2.1 (valN q.2.2) (aO q.1)).map It.pv) (jP (some (eg (valN q.2.2) q.2.1 (I9 (q.1+1) g)))))) (UO (valN q.2.2) q.2.1 (I9 (q.1+1) g)))) (by kernel_rfl) hm hp hj) k) nm) fun i=>s.getD i .none
theorem XU(k m:Nat) (hm:m<5) (val:It) (hv:isVal val) (nm:Tx) (o:Option (List PV)) (ho:MG o m):XS k m val nm o :=
 wC hv fun j hj e=>Ja ho fun b g q=>by
  subst e q
  exact congrFun (congrFun (congrFun (nU (p:=0) (f:=fun q k nm g=>bO (call T (k+16)) ((T 70).body.drop 3) (FA q.1 (oF (q.1+1) b g) (valN q.2.2) nm (some (.t (.int ((q.1+1:Nat):Int)))) (some (.t (.int (-1)))) none) (HA (oF (q.1+1) b g))) (g:=fun q k nm g=>some (.ret (.t (Ey (valN q.2.2) nm ((aO q.1).map It.pv) (oF (q.1+1) b g))) (HA (oF (q.1+1) b g)))) (by induction b<;>kernel_rfl) hm (Nat.succ_pos m) hj) k) nm) g
theorem Az(st:aB) (k:MK) (x:Tx) (xs:List (Tx×PV)) (d:PV):mh .qA k st (.t (.aK xs)) [.str x,d]=ok (.t ((cj x xs).getD d)) st:=rfl
noncomputable def sq:Option Nat->Int
 |some i=>i
 |none=>-1
theorem Ez(k:Nat) (s:Tx) (on:Option (List (Option Tx))) (ho:okN on) (st:aB):call T (k+2) 27 [.t (.str s),.t (fJ on),.t (.bool true)] st=ok (.t (.int (sq (e8 on (some s))))) st:=by
 refine bz (ds:=[.str s,fJ on,.bool true]) (a:=.t (.int (sq (e8 on (some s))))) (st':=[]) rfl rfl ?_ rfl
 rw[show(T 27).body=[.ifs (.cmp .is (.var 0) .none) [.bad] [],.ifs (.not (.var 2)) [.bad] [],.ret (.b4 .qA (.call 24 [(.var 1)]) [(.var 0),(.neg (.int 1))])] from rfl]
 show bO _ _ [some (.t (.str s)),some (.t (fJ on)),some (.t (.bool true))] []=_
 have h:=uB s on
 cases hc:e8 on (some s) with
 |none=>rw[hc] at h;simp only[af,aF,bD,aM,aW,ah,aL,au,bB,av,ay,aH,bg,aG,aV,bk,cB,ak,kR,kT,aA,aq,br,bu,aU,uo,mF,bW,oU,oW,jl,List.getElem?_cons_zero,List.getElem?_cons_succ,jO k on ho,Az,h,Option.map,Option.getD,sq]
 |some i=>rw[hc] at h;simp only[af,aF,bD,aM,aW,ah,aL,au,bB,av,ay,aH,bg,aG,aV,bk,cB,ak,kR,kT,aA,aq,br,bu,aU,uo,mF,bW,oU,oW,jl,List.getElem?_cons_zero,List.getElem?_cons_succ,jO k on ho,Az,h,Option.map,Option.getD,sq]
theorem tC(k:Nat) (s:Tx) (n:Int) (on:Option (List (Option Tx))) (ho:okN on) (st:aB):call T (k+5) 29 [.t (B5 s),.t (.int n),.t (fJ on),.t (.bool true)] st=ok (.t (.int (sq (e8 on (some s))))) st:=by
 have h:=Ez (k+2) s on ho []
 refine bz (ds:=[B5 s,.int n,fJ on,.bool true]) (a:=.t (.int (sq (e8 on (some s))))) (st':=[]) rfl rfl (aN 5 (g':=[some (.t (B5 s)),some (.t (.int n)),some (.t (fJ on)),some (.t (.bool true)),some (.t (.str ao))]) (st':=[]) (by kernel_rfl) ?_) rfl
 rw[show(T 29).body.drop 5=.ifs (.cmp .eq (.var 4) (.str ao)) [.ret (.call 27 [(.sub (.attr (.var 0) ai) (.int 0)),(.var 2),(.var 3)])] []::(T 29).body.drop 6 from rfl]
 refine bU (st1:=[]) (t:=.t (.bool true)) (by kernel_rfl) rfl (o:=some (.ret (.t (.int (sq (e8 on (some s))))) [])) ?_ rfl
 have h2:ev (call T (k+4)) (.call 27 [(.sub (.attr (.var 0) ai) (.int 0)),(.var 2),(.var 3)]) [some (.t (B5 s)),some (.t (.int n)),some (.t (fJ on)),some (.t (.bool true)),some (.t (.str ao))] []=ok (.t (.int (sq (e8 on (some s))))) []:=h
 rw[ah,aW,h2];rfl
theorem XW:(T 70).body.drop 2=.assign 5 (.call 29 [(.var 1),(.var 4),(.call 16 [(.var 0)]),(.bool true)])::(T 70).body.drop 3:=rfl
noncomputable def wD(val:It) (nm:Tx) (m:Nat) (on:Option (List (Option Tx))):PV:=match e8 on (some nm) with
 |some p=>vec aE ((mX val p val (aO m)).map It.pv) (jP ((on.map (·.map aD)).map (eg val p)))
 |none=>Ey val nm ((aO m).map It.pv) (on.map (·.map aD))
theorem HB{on:List (Option Tx)}{s:Tx}{i:Nat}(h:e8 (some on) (some s)=some i):i<on.length:=by
 have h:(if s=[] then none else d7 s on)=some i:=h
 by_cases h0:s=[]
 ·rw[if_pos h0] at h;injection h
 ·rw[if_neg h0] at h;exact wo h
theorem yp(k m:Nat) (hm:m<5) (val:It) (hv:isVal val) (nm:Tx) (on:Option (List (Option Tx))) (ho:okN on) (hl:∀l,on=some l->l.length=m+1) (st:aB) :
  call T (k+17) 70 [.t (vec aE ((aO m).map It.pv) (jP (on.map (·.map aD)))),.t (B5 nm),.t val.pv,.t (.lst [])] st=ok (.t (wD val nm m on)) st:=by
 have s1:bO (call T (k+16)) ((T 70).body.take 2) (FA m (on.map (·.map aD)) val nm none none none) []=some (.next (FA m (on.map (·.map aD)) val nm (some (.t (.int ((m+1:Nat):Int)))) none none) []):=by
  match m,hm with
  |0,_=>induction hv with
   |inl h=>subst h;kernel_rfl
   |inr h=>induction h with
    |inl h=>subst h;kernel_rfl
    |inr h=>subst h;kernel_rfl
  |1,_=>induction hv with
   |inl h=>subst h;kernel_rfl
   |inr h=>induction h with
    |inl h=>subst h;kernel_rfl
    |inr h=>subst h;kernel_rfl
  |2,_=>induction hv with
   |inl h=>subst h;kernel_rfl
   |inr h=>induction h with
    |inl h=>subst h;kernel_rfl
    |inr h=>subst h;kernel_rfl
  |3,_=>induction hv with
   |inl h=>subst h;kernel_rfl
   |inr h=>induction h with
    |inl h=>subst h;kernel_rfl
    |inr h=>subst h;kernel_rfl
  |4,_=>induction hv with
   |inl h=>subst h;kernel_rfl
   |inr h=>induction h with
    |inl h=>subst h;kernel_rfl
    |inr h=>subst h;kernel_rfl
 have UP:=tC (k+11) nm ((m+1:Nat):Int) on ho
 have s2:ev (call T (k+16)) (.call 29 [(.var 1),(.var 4),(.call 16 [(.var 0)]),(.bool true)]) (FA m (on.map (·.map aD)) val nm (some (.t (.int ((m+1:Nat):Int)))) none none) []=ok (.t (.int (sq (e8 on (some nm))))) (HA (on.map (·.map aD))):=by
  induction on with
  |none =>
   refine dG (f:=29) (as:=[.t (B5 nm),.t (.int ((m+1:Nat):Int)),.t .none,.t (.bool true)]) (ds:=[B5 nm,.int ((m+1:Nat):Int),.none,.bool true]) (st1:=[]) (st2:=[]) (by kernel_rfl) rfl rfl (UP _)
  |some l =>
   refine dG (f:=29) (as:=[.t (B5 nm),.t (.int ((m+1:Nat):Int)),.r 0,.t (.bool true)]) (ds:=[B5 nm,.int ((m+1:Nat):Int),.lst (l.map aD),.bool true]) (st1:=[.lst (l.map aD)]) (st2:=[.fz (.lst (l.map aD))]) (by kernel_rfl) rfl rfl (UP _)
 obtain⟨st',h3⟩ : ∃st',bO (call T (k+16)) ((T 70).body.drop 3) (FA m (on.map (·.map aD)) val nm (some (.t (.int ((m+1:Nat):Int)))) (some (.t (.int (sq (e8 on (some nm)))))) none) (HA (on.map (·.map aD)))=some (.ret (.t (wD val nm m on)) st'):=by
  unfold wD
  cases hc:e8 on (some nm) with
  |none =>
   exact⟨_,XU k m hm val hv nm _ (by induction on with
    |none=>trivial
    |some l=>show(l.map aD).length=_;rw[List.length_map];exact hl l rfl)⟩
  |some p =>
   match on,hl,hc with
   |none,_,hc =>
    have h0:e8 none (some nm)=none:=by
     show(if nm=[] then none else none)=none
     by_cases h:nm=[]
     ·rw[if_pos h]
     ·rw[if_neg h]
    rw[h0] at hc;injection hc
   |some l,hl,hc =>
    have h1:=HB hc
    rw[hl l rfl] at h1
    exact⟨_,XT k m p hm h1 val hv nm _ (by rw[List.length_map];exact hl l rfl)⟩
 refine bz (ds:=[vec aE ((aO m).map It.pv) (jP (on.map (·.map aD))),B5 nm,val.pv,.lst []]) (g:=FA m (on.map (·.map aD)) val nm none none none) (a:=.t (wD val nm m on)) (st':=st') rfl (by kernel_rfl) (aN 2 s1 ?_) rfl
 rw[XW]
 refine bE (g':=FA m (on.map (·.map aD)) val nm (some (.t (.int ((m+1:Nat):Int)))) (some (.t (.int (sq (e8 on (some nm)))))) none) (st':=HA (on.map (·.map aD))) ?_ h3
 rw[aC,s2];rfl
noncomputable def oT(tO:List (Option Tx)):Option (List (Option Tx)):=if tO.any Option.isSome=true then some tO else none
theorem sr(l:List PV) (tO:List (Option Tx)):pS l tO=vec aE l (jP ((oT tO).map (·.map eO))):=by
 unfold pS oT
 by_cases h:tO.any Option.isSome=true
 ·rw[if_pos h,if_pos h];rfl
 ·rw[if_neg h,if_neg h];rfl
theorem uE{α β:Type}(f:α->β):∀(l:List α) (p:Nat),(l.map f).eraseIdx p=(l.eraseIdx p).map f
 |[],_=>rfl
 |a::r,0=>rfl
 |a::r,p+1=>by show f a::(r.map f).eraseIdx p=f a::(r.eraseIdx p).map f;rw[uE f r p]
theorem EA{α β:Type}(f:α->β) (val:It) (p:Nat) (l:List α):eg val p (l.map f)=(eg val p l).map f:=by
 unfold eg
 by_cases h:isNul val=true
 ·rw[if_pos h,if_pos h,uE]
 ·rw[if_neg h,if_neg h]
theorem B6{α β:Type}(f:α->β) (val:It) (p:Nat) (o:Option (List α)):(o.map (·.map f)).map (eg val p)=(o.map (eg val p)).map (·.map f):=by
 induction o with
 |none=>rfl
 |some l=>show some (eg val p (l.map f))=some ((eg val p l).map f);rw[EA]
theorem AA{val:It}{p:Nat}{bK:List It}{tO:List (Option Tx)}(hl:tO.length=bK.length):(mX val p val bK).length=(eg val p tO).length:=by
 unfold mX eg
 by_cases h:isNul val=true
 ·rw[if_pos h,if_pos h,List.length_eraseIdx,List.length_eraseIdx,hl]
 ·rw[if_neg h,if_neg h,List.length_set,hl]
theorem nV{tO:List (Option Tx)}(h:¬tO.any Option.isSome=true):tO=List.replicate tO.length none:=by
 rw[List.eq_replicate_iff]
 refine⟨rfl,fun a ha=>?_⟩
 induction a with
 |none=>rfl
 |some s=>exact absurd (List.any_eq_true.mpr ⟨_,ha,rfl⟩) h
theorem EB(val:It) (p n:Nat):∃j,eg val p (List.replicate n (none:Option Tx))=List.replicate j none:=by
 refine⟨(eg val p (List.replicate n (none:Option Tx))).length,?_⟩
 rw[List.eq_replicate_iff]
 refine⟨rfl,fun a ha=>?_⟩
 unfold eg at ha
 by_cases h:isNul val=true
 ·rw[if_pos h] at ha;exact List.eq_of_mem_replicate (List.mem_of_mem_eraseIdx ha)
 ·rw[if_neg h] at ha;exact List.eq_of_mem_replicate ha
theorem B7{val:It}{p:Nat}{bK:List It}{tO:List (Option Tx)}(hl:tO.length=bK.length):((oT tO).map (eg val p)).getD (List.replicate ((mX val p val bK).map It.pv).length none)=eg val p tO:=by
 rw[List.length_map,AA hl]
 unfold oT
 by_cases h:tO.any Option.isSome=true
 ·rw[if_pos h];rfl
 ·rw[if_neg h]
  show List.replicate _ none=_
  have e:=nV h
  generalize tO.length=n at e
  obtain⟨j,hj⟩:=EB val p n
  subst e
  rw[hj,List.length_replicate]
theorem HC{val:It}{p:Nat}{tO:List (Option Tx)}(ht:jQ tO):∀t,(oT tO).map (eg val p)=some t->∀s,some s∈t->s≠[]:=by
 intro t e s hs
 obtain⟨u,hu,rfl⟩:=Option.map_eq_some_iff.mp e
 have XX:u=tO:=by
  unfold oT at hu
  by_cases h:tO.any Option.isSome=true
  ·rw[if_pos h] at hu;exact(Option.some.inj hu).symm
  ·rw[if_neg h] at hu;injection hu
 subst XX
 unfold eg at hs
 by_cases h:isNul val=true
 ·rw[if_pos h] at hs;exact(ht.2 s (List.mem_of_mem_eraseIdx hs)).1
 ·rw[if_neg h] at hs;exact(ht.2 s hs).1
theorem AB{tO:List (Option Tx)}{m:Nat}(hl:tO.length=m+1):MG ((oT tO).map (·.map eO)) m:=by
 unfold oT
 by_cases h:tO.any Option.isSome=true
 ·rw[if_pos h];show(tO.map eO).length=_;rw[List.length_map,hl]
 ·rw[if_neg h];trivial
theorem fZ(m:Nat) (hm:m<5):(aO m).length=m+1:=by
 unfold aO;rw[List.length_take];simp;omega
noncomputable def lg(val:It) (p m:Nat) (tO:List (Option Tx)):PV:=tB ((mX val p val (aO m)).map It.pv) (eg val p tO)
noncomputable def d8(p:Nat):PV:=vec aa [.int ((p+1:Nat):Int)] .none
noncomputable def lZ(m:Nat) (tO:List (Option Tx)):PV:=bA ((aO m).map It.pv) (tO.map aD)
theorem inner(f k m p:Nat) (hm:m<5) (hp:p<m+1) (val:It) (tO:List (Option Tx)) (hl:tO.length=m+1) (ht:jQ tO)
  (hP:∀st,Qz f (k+2) m p val ((oT tO).map (·.map eO)) st) :
  (∀st,call T (k+18) 65 [.t (lZ m tO)] st=ok (.t (pS ((aO m).map It.pv) tO)) st) /\
  ∃d,(∀st,call T (k+18) f [.t (pS ((aO m).map It.pv) tO),.t (.lst [d8 p]),.t val.pv,.t (.lst [])] st=ok (.t d) st)/\∀st,call T (k+18) 66 [.t d] st=ok (.t (lg val p m tO)) st:=by
 refine⟨fun st=>nS (k+13) _ tO ht.1 st,vec aE ((mX val p val (aO m)).map It.pv) (jP (((oT tO).map (eg val p)).map (·.map eO))),fun st=>?_,fun st=>?_⟩
 ·rw[sr,<-B6];exact hP st
 ·have hlen:((mX val p val (aO m)).map It.pv).length<1000:=by
   rw[List.length_map,AA (tO:=tO) (by rw[hl,fZ m hm])]
   unfold eg
   by_cases h:isNul val=true
   ·rw[if_pos h];have:=List.length_eraseIdx_le tO p;omega
   ·rw[if_neg h];omega
  rw[jR (k+12) _ hlen ((oT tO).map (eg val p)) (HC ht) st,B7 (by rw[hl,fZ m hm])];rfl
theorem B8(k m p:Nat) (hm:m<5) (hp:p<m+1) (val:It) (hv:isVal val) (tO:List (Option Tx)) (hl:tO.length=m+1) (ht:jQ tO) (st:aB) :
  call T (k+19) 71 [.t (lZ m tO),.t (.lst [d8 p]),.t val.pv,.t (.lst [])] st=ok (.t (lg val p m tO)) st:=by
 obtain⟨h1,d,h2,h3⟩:=inner 71 k m p hm hp val tO hl ht (fun st=>SV (k+2) m p hm hp val hv _ (AB hl) st)
 refine bz (ds:=[lZ m tO,.lst [d8 p],val.pv,.lst []]) (g:=[some (.t (lZ m tO)),some (.t (.lst [d8 p])),some (.t val.pv),some (.t (.lst []))]) (a:=.t (lg val p m tO)) (st':=[]) rfl rfl ?_ rfl
 rw[show(T 71).body=.ifs (.cmp .eq (.attr (.var 0) aj) (.str aI)) [.ret (.call 66 [(.call 71 [(.call 65 [(.var 0)]),(.var 1),(.var 2),(.var 3)])])] []::(T 71).body.drop 1 from rfl]
 refine bU (st1:=[]) (t:=.t (.bool true)) (by kernel_rfl) rfl (o:=some (.ret (.t (lg val p m tO)) [])) ?_ rfl
 simp only[af,aF,aW,ah,bB,av,ay,aA,aq,bW,List.getElem?_cons_zero,List.getElem?_cons_succ,h1,h2,h3]
theorem wF(k m p:Nat) (hm:m<5) (hp:p<m+1) (val:It) (hv:isVal val) (tO:List (Option Tx)) (hl:tO.length=m+1) (ht:jQ tO) (st:aB) :
  call T (k+19) 67 [.t (lZ m tO),.t (.lst [d8 p]),.t val.pv,.t (.lst [])] st=ok (.t (lg val p m tO)) st:=by
 obtain⟨h1,d,h2,h3⟩:=inner 67 k m p hm hp val tO hl ht (fun st=>XQ (k+2) m p hm hp val hv _ (AB hl) st)
 refine bz (ds:=[lZ m tO,.lst [d8 p],val.pv,.lst []]) (g:=[some (.t (lZ m tO)),some (.t (.lst [d8 p])),some (.t val.pv),some (.t (.lst [])),none,none]) (a:=.t (lg val p m tO)) (st':=[]) rfl rfl ?_ rfl
 rw[show(T 67).body=.ifs (.cmp .eq (.attr (.var 0) aj) (.str aI)) [.ret (.call 66 [(.call 67 [(.call 65 [(.var 0)]),(.var 1),(.var 2),(.var 3)])])] []::(T 67).body.drop 1 from rfl]
 refine bU (st1:=[]) (t:=.t (.bool true)) (by kernel_rfl) rfl (o:=some (.ret (.t (lg val p m tO)) [])) ?_ rfl
 simp only[af,aF,aW,ah,bB,av,ay,aA,aq,bW,List.getElem?_cons_zero,List.getElem?_cons_succ,h1,h2,h3]
theorem su(k m p:Nat) (hm:m<5) (hp:p<m+1) (val:It) (hv:isVal val) (tO:List (Option Tx)) (hl:tO.length=m+1) (ht:jQ tO) (st:aB) :
  call T (k+20) 72 [.t (lZ m tO),.t (.lst [d8 p]),.t val.pv,.t (.lst [])] st=ok (.t (lg val p m tO)) st:=by
 have h:=B8 k m p hm hp val hv tO hl ht
 have s1:bO (call T (k+19)) ((T 72).body.take 4) [some (.t (lZ m tO)),some (.t (.lst [d8 p])),some (.t val.pv),some (.t (.lst [])),none] []=some (.next [some (.t (lZ m tO)),some (.t (.lst [d8 p])),some (.t val.pv),some (.t (.lst [])),some (.t (d8 p))] []):=by kernel_rfl
 refine bz (ds:=[lZ m tO,.lst [d8 p],val.pv,.lst []]) (g:=[some (.t (lZ m tO)),some (.t (.lst [d8 p])),some (.t val.pv),some (.t (.lst [])),none]) (a:=.t (lg val p m tO)) (st':=[.fz (.lst [d8 p])]) rfl rfl (aN 4 s1 ?_) rfl
 have h2:ev (call T (k+19)) (.call 71 [(.var 0),(.list [(.var 4)]),(.var 2),(.var 3)]) [some (.t (lZ m tO)),some (.t (.lst [d8 p])),some (.t val.pv),some (.t (.lst [])),some (.t (d8 p))] []=ok (.t (lg val p m tO)) [.fz (.lst [d8 p])] :=
  dG (f:=71) (as:=[.t (lZ m tO),.r 0,.t val.pv,.t (.lst [])]) (ds:=[lZ m tO,.lst [d8 p],val.pv,.lst []]) (st1:=[.lst [d8 p]]) (st2:=[.fz (.lst [d8 p])]) (by kernel_rfl) rfl (by kernel_rfl) (h _)
 show bO _ [.ret (.call 71 [(.var 0),(.list [(.var 4)]),(.var 2),(.var 3)])] _ _=_
 rw[ah,aW,h2];rfl
theorem yq(k m:Nat) (hm:m<5) (val:It) (hv:isVal val) (nm:Tx) (on:Option (List (Option Tx))) (ho:okN on) (hl:∀l,on=some l->l.length=m+1) (st:aB) :
  call T (k+18) 73 [.t (vec aE ((aO m).map It.pv) (jP (on.map (·.map aD)))),.t (.str nm),.t val.pv,.t (.lst [])] st=ok (.t (wD val nm m on)) st:=by
 have h:=yp k m hm val hv nm on ho hl
 have s1:bO (call T (k+17)) ((T 73).body.take 4) [some (.t (vec aE ((aO m).map It.pv) (jP (on.map (·.map aD))))),some (.t (.str nm)),some (.t val.pv),some (.t (.lst []))] []=some (.next [some (.t (vec aE ((aO m).map It.pv) (jP (on.map (·.map aD))))),some (.t (.str nm)),some (.t val.pv),some (.t (.lst []))] []):=by kernel_rfl
 refine bz (ds:=[vec aE ((aO m).map It.pv) (jP (on.map (·.map aD))),.str nm,val.pv,.lst []]) (g:=[some (.t (vec aE ((aO m).map It.pv) (jP (on.map (·.map aD))))),some (.t (.str nm)),some (.t val.pv),some (.t (.lst []))]) (a:=.t (wD val nm m on)) (st':=[.fz (.lst [.str nm])]) rfl rfl (aN 4 s1 ?_) rfl
 have h8:ev (call T (k+17)) (.call 8 [(.list [(.var 1)])]) [some (.t (vec aE ((aO m).map It.pv) (jP (on.map (·.map aD))))),some (.t (.str nm)),some (.t val.pv),some (.t (.lst []))] []=ok (.t (B5 nm)) [.fz (.lst [.str nm])]:=by kernel_rfl
 have sX:gg (call T (k+17)) [(.var 0),(.call 8 [(.list [(.var 1)])]),(.var 2),(.var 3)] [some (.t (vec aE ((aO m).map It.pv) (jP (on.map (·.map aD))))),some (.t (.str nm)),some (.t val.pv),some (.t (.lst []))] []=ok [AV.t (vec aE ((aO m).map It.pv) (jP (on.map (·.map aD)))),AV.t (B5 nm),AV.t val.pv,AV.t (.lst [])] [.fz (.lst [.str nm])]:=by
  simp only[aq,aA,av,ay,List.getElem?_cons_zero,List.getElem?_cons_succ,af,h8]
 show bO _ [.ret (.call 70 [(.var 0),(.call 8 [(.list [(.var 1)])]),(.var 2),(.var 3)])] _ _=_
 rw[ah,aW,bW,sX,af,h];rfl
theorem HD(nm:Tx) (h0:nm≠[]) (tO:List (Option Tx)):d7 nm (tO.map r9)=d7 nm tO:=by
 induction tO with
 |nil=>rfl
 |cons a r ih =>
  rw[List.map_cons,d7,d7,ih]
  induction a with
  |none =>
   have e1:¬(r9 none=some nm):=fun e=>h0 (Option.some.inj (show some []=some nm from e)).symm
   rw[if_neg e1,if_neg (by simp)]
  |some s=>rfl
theorem HE(nm:Tx) (h0:nm≠[]) (tO:List (Option Tx)):e8 ((oT tO).map (·.map r9)) (some nm)=d7 nm tO:=by
 show(if nm=[] then none else((oT tO).map (·.map r9)).bind (d7 nm))=_
 rw[if_neg h0]
 unfold oT
 by_cases h:tO.any Option.isSome=true
 ·rw[if_pos h];exact HD nm h0 tO
 ·rw[if_neg h]
  show none=_
  rw[nV h]
  generalize tO.length=n
  induction n with
  |zero=>rfl
  |succ n ih=>rw[List.replicate_succ,d7,if_neg (by simp),<-ih];rfl
noncomputable def yr(val:It) (nm:Tx) (m:Nat) (tO:List (Option Tx)):PV:=match d7 nm tO with
 |some p=>lg val p m tO
 |none=>if isNul val=true then tB ((aO m).map It.pv) tO else tB ((aO m++[val]).map It.pv) (tO++[some nm])
theorem AD(o:Option (List (Option Tx))):o.map (·.map eO)=(o.map (·.map r9)).map (·.map aD):=by
 induction o with
 |none=>rfl
 |some l=>show some (l.map eO)=some ((l.map r9).map aD);rw[zJ]
theorem tD(k m:Nat) (hm:m<5) (val:It) (hv:isVal val) (nm:Tx) (h0:nm≠[]) (tO:List (Option Tx)) (hl:tO.length=m+1) (ht:jQ tO) (st:aB) :
  call T (k+19) 73 [.t (lZ m tO),.t (.str nm),.t val.pv,.t (.lst [])] st=ok (.t (yr val nm m tO)) st:=by
 have h1:∀st,call T (k+18) 65 [.t (lZ m tO)] st=ok (.t (pS ((aO m).map It.pv) tO)) st:=fun st=>nS (k+13) _ tO ht.1 st
 have XY:okN ((oT tO).map (·.map r9)):=by
  unfold oT
  by_cases h:tO.any Option.isSome=true
  ·rw[if_pos h];exact Eo ht
  ·rw[if_neg h];exact fun l e=>by injection e
 have h2:∀st,call T (k+18) 73 [.t (pS ((aO m).map It.pv) tO),.t (.str nm),.t val.pv,.t (.lst [])] st=ok (.t (wD val nm m ((oT tO).map (·.map r9)))) st:=fun st=>by
  rw[sr,AD]
  refine yq k m hm val hv nm _ XY (fun l e=>?_) st
  obtain⟨u,hu,rfl⟩:=Option.map_eq_some_iff.mp e
  unfold oT at hu
  by_cases h:tO.any Option.isSome=true
  ·rw[if_pos h] at hu;(injection hu with hu;subst hu);rw[List.length_map,hl]
  ·rw[if_neg h] at hu;injection hu
 have h3:∀st,call T (k+18) 66 [.t (wD val nm m ((oT tO).map (·.map r9)))] st=ok (.t (yr val nm m tO)) st:=fun st=>by
  unfold wD yr
  rw[HE nm h0 tO]
  cases hf:d7 nm tO with
  |some p =>
   have hp:=wo hf
   rw[hl] at hp
   obtain⟨_,d,hd,h66⟩:=inner 71 k m p hm hp val tO hl ht (fun st=>SV (k+2) m p hm hp val hv _ (AB hl) st)
   have hd2:=SV (k+2) m p hm hp val hv ((oT tO).map (·.map eO)) (AB hl) []
   have Dq:=hd []
   rw[sr] at Dq
   have e:=Dq.symm.trans hd2
   injection e with e;injection e with e;injection e with e;injection e with e
   subst e
   rw[<-AD]
   exact h66 st
  |none =>
   show call T (k+18) 66 [.t (Ey val nm ((aO m).map It.pv) (((oT tO).map (·.map r9)).map (·.map aD)))] st=_
   unfold Ey
   have UQ:((aO m).map It.pv).length=m+1:=by rw[List.length_map,fZ m hm]
   by_cases hn:isNul val=true
   ·rw[if_pos hn,if_pos hn,<-AD,jR (k+12) _ (by omega) (oT tO) (fun t e s hs=>?_) st]
    ·congr 4
     unfold oT
     by_cases h:tO.any Option.isSome=true
     ·rw[if_pos h];rfl
     ·rw[if_neg h,UQ,<-hl];exact(nV h).symm
    ·unfold oT at e
     by_cases h:tO.any Option.isSome=true
     ·rw[if_pos h] at e;(injection e with e;subst e);exact(ht.2 s hs).1
     ·rw[if_neg h] at e;injection e
   ·rw[if_neg hn,if_neg hn]
    have e1:(((oT tO).map (·.map r9)).map (·.map aD)).getD (List.replicate ((aO m).map It.pv).length (.str []))++[PV.str nm]=(tO++[some nm]).map eO:=by
     rw[List.map_append]
     congr 1
     rw[<-AD,UQ,<-hl]
     unfold oT
     by_cases h:tO.any Option.isSome=true
     ·rw[if_pos h];rfl
     ·rw[if_neg h]
      show List.replicate tO.length (PV.str [])=_
      conv=>rhs;rw[nV h,List.map_replicate]
      rfl
    rw[e1,show(aO m).map It.pv++[val.pv]=(aO m++[val]).map It.pv by rw[List.map_append];rfl]
    refine jR (k+12) ((aO m++[val]).map It.pv) (by rw[List.length_map,List.length_append,fZ m hm];simp;omega) (some (tO++[some nm])) (fun t e s hs=>?_) st
    injection e with e;subst e
    rcases List.mem_append.mp hs with hs|hs
    ·exact(ht.2 s hs).1
    ·cases hs with
     |head=>exact h0
     |tail _ q=>cases q
 refine bz (ds:=[lZ m tO,.str nm,val.pv,.lst []]) (g:=[some (.t (lZ m tO)),some (.t (.str nm)),some (.t val.pv),some (.t (.lst []))]) (a:=.t (yr val nm m tO)) (st':=[]) rfl rfl ?_ rfl
 rw[show(T 73).body=.ifs (.cmp .eq (.attr (.var 0) aj) (.str aI)) [.ret (.call 66 [(.call 73 [(.call 65 [(.var 0)]),(.var 1),(.var 2),(.var 3)])])] []::(T 73).body.drop 1 from rfl]
 refine bU (st1:=[]) (t:=.t (.bool true)) (by kernel_rfl) rfl (o:=some (.ret (.t (yr val nm m tO)) [])) ?_ rfl
 simp only[af,aF,aW,ah,bB,av,ay,aA,aq,bW,List.getElem?_cons_zero,List.getElem?_cons_succ,h1,h2,h3]
noncomputable def Rw(l:List PV):Prop:=∀d∈l,∃i:Int,d=.int i/\0<=i/\i<1024
noncomputable def W(la:List PV) (lb:PV) (l:List PV) (rest:aB):aB:=.lst la::.fz lb::.lst l::rest
theorem Pd(la lb l rest):W la lb l rest=.lst la::.fz lb::.lst l::rest:=rfl
noncomputable def Cl(rest:aB):Prop:=rest.all (dM (rest.length+3))=true
theorem iW{la:List PV}{lb:PV}{l:List PV}{rest:aB}(h:Cl rest) (X:aB){n:Nat}(hn:n=rest.length+3):back n (W la lb l rest++X)=some (W la lb l rest):=by
 subst hn
 have e:(W la lb l rest++X).take (rest.length+3)=W la lb l rest:=by
  have:(W la lb l rest).length=rest.length+3:=rfl
  rw[<-this,List.take_left]
 unfold back
 rw[e,if_pos]
 show(dM _ (.lst la)&&(dM _ (.fz lb)&&(dM _ (.lst l)&&rest.all (dM (rest.length+3)))))=true
 rw[h];rfl
theorem jS{T:Nat->Fn}{k f:Nat}{as:List AV}{g:Gm}{a:AV}{d:PV}{st st' dO Mn:aB}(hr:(T f).ref=true) (ho:(T f).own=false) (hs:(T f).start as=some g) (hb:bO (call T k) (T f).body g st=some (.ret a st')) (hf:eU st' a=ok d dO) (hk:back st.length dO=some Mn):call T (k+1) f as st=ok (.t d) Mn:=by
 show fq (call T k) (T f) as st=_
 simp only[fq,hr,ho,hs]
 show CP false _ (bO (call T k) (T f).body g st)=_
 rw[hb]
 show(eU st' a).bind (fun d st=>kg _ d st)=_
 rw[hf]
 show kg _ d dO=_
 unfold kg
 rw[hk]
theorem HF{l:List PV}(h:Rw l) (hl:¬l.length=0):∃(i:Int) (l':List PV),0<=i/\i<1024/\Rw l'/\l=l'++[.int i]:=by
 have IB:l≠[]:=fun e=>hl (by rw[e];rfl)
 obtain⟨i,e,h1,h2⟩:=h (l.getLast IB) (List.getLast_mem IB)
 exact⟨i,l.dropLast,h1,h2,fun d hd=>h d (List.dropLast_subset l hd),by rw[<-e,List.dropLast_concat_getLast]⟩
theorem Lm(st:aB) (i:Nat) (l:List PV) (d:PV) (k:MK) (h:st[i]? = some (.lst (l++[d]))):mh .pop k st (.r i) []=ok (.t d) (st.set i (.lst l)):=by
 show(match st[i]? with
   |some (.lst xs)=>match xs.getLast? with
    |some d=>ok (AV.t d) (st.set i (.lst xs.dropLast))
    |Option.none=>Option.none
   |_=>Option.none)=_
 rw[h]
 simp
theorem next(la:List PV) (lb:PV) (l:List PV) (hl:Rw l) (rest:aB) (hc:Cl rest):∃(i:Int) (l':List PV),0<=i/\i<1024/\Rw l'/\∀k,call T (k+1) 75 [.r 2] (W la lb l rest)=ok (.t (.int i)) (W la lb l' rest):=by
 have hb:(T 75).body=[.ret (.ite (.cmp .ne (.var 0) (.list [])) (.b4 .pop (.var 0) []) (.int 0))]:=rfl
 by_cases h0:l.length=0
 ·refine⟨0,l,by omega,by omega,hl,fun k=>jS (g:=[some (.r 2)]) (a:=.t (.int 0)) (st':=W la lb l rest++[.lst []]) rfl rfl rfl ?_ rfl (iW hc _ rfl)⟩
  rw[hb,Pd]
  simp only[af,aF,aW,ah,bB,av,ay,bg,aG,cP,bX,ak,cK,fX,aA,jf,eE,bS,rR,jl,List.getElem?_cons_zero,List.getElem?_cons_succ,List.cons_append,List.getElem?_concat_length,dD h0]
 ·obtain⟨i,l',h1,h2,h3,rfl⟩:=HF hl h0
  refine⟨i,l',h1,h2,h3,fun k=>jS (g:=[some (.r 2)]) (a:=.t (.int i)) (st':=W la lb l' rest++[.lst []]) rfl rfl rfl ?_ rfl (iW hc _ rfl)⟩
  rw[hb,Pd]
  have hp:=fun k=>Lm (.lst la::.fz lb::.lst (l'++[.int i])::(rest++[.lst []])) 2 l' (.int i) k rfl
  simp only[af,aF,aW,ah,bB,av,ay,aG,cP,bX,ak,cK,fW,aA,br,bu,aU,D4,jf,eE,bS,rR,iC,List.getElem?_cons_zero,List.getElem?_cons_succ,List.set_cons_zero,List.set_cons_succ,List.cons_append,List.getElem?_concat_length,bL h0,hp]
  rfl
theorem jT{a m:Int}(ha:0<=a) (hm:0<m):0<=a.fmod m/\a.fmod m<m:=⟨Int.fmod_nonneg_of_pos a hm,Int.fmod_lt_of_pos a hm⟩
theorem yt(la:List PV) (lb:PV) (l:List PV) (hl:Rw l) (rest:aB) (hc:Cl rest) (e:E) (g:Gm) (x:Nat) (hx:g[x]? = some (some (.r 2))) (m:Int) (hm:0<m) (k:Nat) (he:∀l,ev (call T (k+1)) e g (W la lb l rest)=ok (.t (.int m)) (W la lb l rest)) :
  ∃(i:Int) (l':List PV),0<=i/\i<m/\Rw l'/\ev (call T (k+1)) (.bin .mod (.call 75 [.var x]) e) g (W la lb l rest)=ok (.t (.int i)) (W la lb l' rest):=by
 obtain⟨i,l',h1,h2,h3,h4⟩:=next la lb l hl rest hc
 refine⟨i.fmod m,l',(jT h1 hm).1,(jT h1 hm).2,h3,?_⟩
 have XZ:m≠0:=by omega
 simp only[af,av,ay,aV,aA,aq,bW,b7,hx,h4,he,e7 _ _ _ XZ]
theorem d9(la:List PV) (lb:PV) (l:List PV) (hl:Rw l) (rest:aB) (hc:Cl rest) (g:Gm) (x:Nat) (hx:g[x]? = some (some (.r 2))) (m:Int) (hm:0<m) (k:Nat) :
  ∃(i:Int) (l':List PV),0<=i/\i<m/\Rw l'/\ev (call T (k+1)) (.bin .mod (.call 75 [.var x]) (.int m)) g (W la lb l rest)=ok (.t (.int i)) (W la lb l' rest) :=
 yt la lb l hl rest hc (.int m) g x hx m hm k fun _=>rfl
noncomputable def nW(t:Option Tx):Prop:=∀s,t=some s->s.length<=3
theorem Ln(i:Int) (st:aB) (h:0<=i/\i<128):xd .chr st [.int i]=ok (.t (.str [i.toNat])) st:=by
 show(if 0<=i/\i<128 then ok (AV.t (.str [i.toNat])) st else none)=_
 rw[if_pos h]
theorem Lo(C:fj) (l g st):ev C (.bi .chr l) g st=(gg C l g st).bind fun as st=>(uV st as).bind fun ds st=>xd .chr st ds:=rfl
theorem EC{p:Int->Prop}(i:Int) (a:0<=i) (b:i<0):p i:=absurd a (Int.not_le.mpr b)
theorem fK{p:Int->Prop}{n:Nat}(h:∀i:Int,0<=i->i<n->p i) (k:p n) (i:Int) (a:0<=i) (b:i<(n+1:Nat)):p i:=by
 by_cases q:i<n
 ·exact h i a q
 ·exact(Int.le_antisymm (Int.le_of_lt_add_one b) (Int.not_lt.mp q))▸k
theorem text(la:List PV) (lb:PV) (l:List PV) (hl:Rw l) (rest:aB) (hc:Cl rest) (k:Nat):∃(t:Option Tx) (l':List PV),nW t/\Rw l'/\call T (k+2) 76 [.r 2] (W la lb l rest)=ok (.t (aD t)) (W la lb l' rest):=by
 obtain⟨i,l1,a1,a2,h1,e1⟩:=d9 la lb l hl rest hc [some (.r 2),none] 0 rfl 8 (by omega) k
 obtain⟨j,l2,b1,b2,h2,e2⟩:=d9 la lb l1 h1 rest hc [some (.r 2),some (.t (.int i))] 0 rfl 26 (by omega) k
 have hj:0<=97+j/\97+j<128:=⟨by omega,by omega⟩
 have hb:(T 76).body=[.assign 1 (.bin .mod (.call 75 [(.var 0)]) (.int 8)),.ret (.sub (.list [(.str pO),(.str pP),(.str jK),(.str jw),(.str []),.none,(.str BJ),(.bi .chr [(.bin .add (.int 97) (.bin .mod (.call 75 [(.var 0)]) (.int 26)))])]) (.var 1))]:=rfl
 have sX:gg (call T (k+1)) [(.str pO),(.str pP),(.str jK),(.str jw),(.str []),.none,(.str BJ),(.bi .chr [(.bin .add (.int 97) (.bin .mod (.call 75 [(.var 0)]) (.int 26)))])] [some (.r 2),some (.t (.int i))] (W la lb l1 rest)=ok ([PV.str pO,.str pP,.str jK,.str jw,.str [],.none,.str BJ,.str [(97+j).toNat]].map AV.t) (W la lb l2 rest):=by
  simp only[aq,aA,bI,aH,af,Lo,b7 (o:=.add),bg,e2,aV,x6,ef,cW,Ln _ _ hj]
  rfl
 have h3:ev (call T (k+1)) (.list [(.str pO),(.str pP),(.str jK),(.str jw),(.str []),.none,(.str BJ),(.bi .chr [(.bin .add (.int 97) (.bin .mod (.call 75 [(.var 0)]) (.int 26)))])]) [some (.r 2),some (.t (.int i))] (W la lb l1 rest)=ok (.r (rest.length+3)) (W la lb l2 rest++[.lst [.str pO,.str pP,.str jK,.str jw,.str [],.none,.str BJ,.str [(97+j).toNat]]]):=by
  rw[eE,sX,af,gU,af];rfl
 have hi:∀i:Int,0<=i->i<8->∃t,nW t/\sR (W la lb l2 rest++[.lst [.str pO,.str pP,.str jK,.str jw,.str [],.none,.str BJ,.str [(97+j).toNat]]]) (some (.lst [.str pO,.str pP,.str jK,.str jw,.str [],.none,.str BJ,.str [(97+j).toNat]])) (some (.int i))=ok (.t (aD t)) (W la lb l2 rest++[.lst [.str pO,.str pP,.str jK,.str jw,.str [],.none,.str BJ,.str [(97+j).toNat]]]):=by
  exact fK (n:=7) (fK (n:=6) (fK (n:=5) (fK (n:=4) (fK (n:=3) (fK (n:=2) (fK (n:=1) (fK (n:=0) EC
   ⟨some pO,fun s h=>by(injection h with h;subst h);decide,rfl⟩) ⟨some pP,fun s h=>by(injection h with h;subst h);decide,rfl⟩) ⟨some jK,fun s h=>by(injection h with h;subst h);decide,rfl⟩) ⟨some jw,fun s h=>by(injection h with h;subst h);decide,rfl⟩)
   ⟨some [],fun s h=>by(injection h with h;subst h);decide,rfl⟩) ⟨none,(fun s h=>nomatch h),rfl⟩) ⟨some BJ,fun s h=>by(injection h with h;subst h);decide,rfl⟩) ⟨some [(97+j).toNat],fun s h=>by(injection h with h;subst h);simp,rfl⟩
 obtain⟨t,ht,hi⟩:=hi i a1 a2
 refine⟨t,l2,ht,h2,jS (g:=[some (.r 2),none]) (a:=.t (aD t)) (st':=W la lb l2 rest++[.lst [.str pO,.str pP,.str jK,.str jw,.str [],.none,.str BJ,.str [(97+j).toNat]]]) rfl rfl rfl ?_ rfl (iW hc _ rfl)⟩
 rw[hb]
 refine bE (g':=[some (.r 2),some (.t (.int i))]) (st':=W la lb l1 rest) (by rw[aC,e1];rfl) ?_
 have hv:vw (W la lb l2 rest++[.lst [.str pO,.str pP,.str jK,.str jw,.str [],.none,.str BJ,.str [(97+j).toNat]]]) (.r (rest.length+3))=some (.lst [.str pO,.str pP,.str jK,.str jw,.str [],.none,.str BJ,.str [(97+j).toNat]]):=by
  have:(W la lb l2 rest).length=rest.length+3:=rfl
  rw[cP,<-this,List.getElem?_concat_length];rfl
 simp only[ah,aW,bR,h3,af,av,List.getElem?_cons_zero,List.getElem?_cons_succ,ay,hv,aV,hi,aF,bB]
theorem B9{n m:Nat}(h:n<=m) (nd:Node) (hr:dM n nd=true):dM m nd=true:=by
 induction nd with
 |inst c fs =>
  show(fs.all _)=true
  have hr:(fs.all fun p=>match p.2 with| .r i=>decide (i<n)|_=>true)=true:=hr
  rw[List.all_eq_true] at hr ⊢
  intro p hp
  have:=hr p hp
  cases hq:p.2 with
  |t d=>rfl
  |r i=>rw[hq] at this;exact decide_eq_true (Nat.lt_of_lt_of_le (of_decide_eq_true this) h)
 |_=>rfl
theorem wG{rest:aB}(h:Cl rest) (nd:Node) (hn:dM (rest.length+4) nd=true):Cl (rest++[nd]):=by
 unfold Cl at h ⊢
 rw[List.all_append,List.length_append,List.length_singleton]
 rw[Bool.and_eq_true]
 refine⟨?_,by simpa using hn⟩
 rw[List.all_eq_true] at h ⊢
 exact fun x hx=>B9 (by omega) x (h x hx)
theorem wH(la lb l rest nd):W la lb l (rest++[nd])=W la lb l rest++[nd]:=rfl
theorem Jb(la lb l rest):(W la lb l rest).length=rest.length+3:=rfl
theorem number(la:List PV) (lb:PV) (l:List PV) (hl:Rw l) (rest:aB) (hc:Cl rest) (k:Nat):∃(p:Option (Int×Int)) (l':List PV),Ft p/\Rw l'/\call T (k+2) 77 [.r 2] (W la lb l rest)=ok (.t (fM p)) (W la lb l' rest):=by
 obtain⟨i,l1,a1,a2,h1,e1⟩:=d9 la lb l hl rest hc [some (.r 2),none,none] 0 rfl 10 (by omega) k
 have hb:(T 77).body=[.assign 1 (.bin .mod (.call 75 [(.var 0)]) (.int 10)),.ifs (.cmp .eq (.var 1) (.int 0)) [.ret .none] [],.ifs (.cmp .lt (.var 1) (.int 8)) [.ret (.tup [(.ite (.cmp .gt (.var 1) (.int 5)) (.bin .sub (.bin .mod (.call 75 [(.var 0)]) (.int 14)) (.int 4)) (.bin .mod (.call 75 [(.var 0)]) (.int 12))),(.int 1)])] [],.ifs (.cmp .eq (.var 1) (.int 8)) [.ret (.sub (.list [(.tup [(.int 0),(.int 0)]),(.tup [(.int 1),(.int 0)]),(.tup [(.neg (.int 1)),(.int 0)])]) (.bin .mod (.call 75 [(.var 0)]) (.int 3)))] [],.assign 2 (.bin .sub (.bin .mod (.call 75 [(.var 0)]) (.int 41)) (.int 10)),.ret (.ite (.cmp .eq (.bin .mod (.var 2) (.int 2)) (.int 0)) (.tup [(.bin .fdiv (.var 2) (.int 2)),(.int 1)]) (.tup [(.var 2),(.int 2)]))]:=rfl
 have fin:∀(p:Option (Int×Int)) (l':List PV) (X:aB),bO (call T (k+1)) ((T 77).body.drop 1) [some (.r 2),some (.t (.int i)),none] (W la lb l1 rest)=some (.ret (.t (fM p)) (W la lb l' rest++X))->call T (k+2) 77 [.r 2] (W la lb l rest)=ok (.t (fM p)) (W la lb l' rest):=by
  intro p l' X h
  refine jS (g:=[some (.r 2),none,none]) (a:=.t (fM p)) (st':=W la lb l' rest++X) rfl rfl rfl ?_ rfl (iW hc _ rfl)
  rw[hb]
  exact bE (g':=[some (.r 2),some (.t (.int i)),none]) (st':=W la lb l1 rest) (by rw[aC,e1];rfl) h
 have hd:(T 77).body.drop 1=[.ifs (.cmp .eq (.var 1) (.int 0)) [.ret .none] [],.ifs (.cmp .lt (.var 1) (.int 8)) [.ret (.tup [(.ite (.cmp .gt (.var 1) (.int 5)) (.bin .sub (.bin .mod (.call 75 [(.var 0)]) (.int 14)) (.int 4)) (.bin .mod (.call 75 [(.var 0)]) (.int 12))),(.int 1)])] [],.ifs (.cmp .eq (.var 1) (.int 8)) [.ret (.sub (.list [(.tup [(.int 0),(.int 0)]),(.tup [(.int 1),(.int 0)]),(.tup [(.neg (.int 1)),(.int 0)])]) (.bin .mod (.call 75 [(.var 0)]) (.int 3)))] [],.assign 2 (.bin .sub (.bin .mod (.call 75 [(.var 0)]) (.int 41)) (.int 10)),.ret (.ite (.cmp .eq (.bin .mod (.var 2) (.int 2)) (.int 0)) (.tup [(.bin .fdiv (.var 2) (.int 2)),(.int 1)]) (.tup [(.var 2),(.int 2)]))]:=rfl
 rw[hd] at fin
 by_cases c0:i=0
 ·exact⟨none,l1,trivial,h1,fin none l1 [] (by rw[List.append_nil];simp only[af,aF,aS,aM,aW,ah,bB,av,ay,aH,bg,aG,aV,cJ,ak,List.getElem?_cons_zero,List.getElem?_cons_succ,dD c0,fM])⟩
 by_cases c8:i<8
 ·by_cases c5:5<i
  ·obtain⟨j,l2,b1,b2,h2,e2⟩:=d9 la lb l1 h1 rest hc [some (.r 2),some (.t (.int i)),none] 0 rfl 14 (by omega) k
   refine⟨some (j-4,1),l2,⟨by omega,by omega⟩,h2,fin (some (j-4,1)) l2 [] ?_⟩
   rw[List.append_nil]
   simp only[ah,aM,aG,av,List.getElem?_cons_zero,List.getElem?_cons_succ,ay,af,bg,aV,cJ,fV,dW,bL c0,dD c8,dD c5,aF,ak,bD,aS,aL,au,aW,eB,aq,aA,cK,fW,b7 (o:=.sub),e2,eK,mF,bB,fM]
  ·obtain⟨j,l2,b1,b2,h2,e2⟩:=d9 la lb l1 h1 rest hc [some (.r 2),some (.t (.int i)),none] 0 rfl 12 (by omega) k
   refine⟨some (j,1),l2,⟨by omega,by omega⟩,h2,fin (some (j,1)) l2 [] ?_⟩
   rw[List.append_nil]
   simp only[ah,aM,aG,av,List.getElem?_cons_zero,List.getElem?_cons_succ,ay,af,bg,aV,cJ,fV,dW,bL c0,dD c8,bL c5,aF,ak,bD,aS,aL,au,aW,eB,aq,aA,cK,fX,e2,mF,bB,fM]
 by_cases c9:i=8
 ·obtain⟨j,l2,b1,b2,h2,e2⟩:=d9 la lb l1 h1 (rest++[.lst [.tup [.int 0,.int 0],.tup [.int 1,.int 0],.tup [.int (-1),.int 0]]]) (wG hc _ rfl) [some (.r 2),some (.t (.int i)),none] 0 rfl 3 (by omega) k
  rw[wH,wH] at e2
  have SW:ev (call T (k+1)) (.list [(.tup [(.int 0),(.int 0)]),(.tup [(.int 1),(.int 0)]),(.tup [(.neg (.int 1)),(.int 0)])]) [some (.r 2),some (.t (.int i)),none] (W la lb l1 rest)=ok (.r (rest.length+3)) (W la lb l1 rest++[.lst [.tup [.int 0,.int 0],.tup [.int 1,.int 0],.tup [.int (-1),.int 0]]]):=rfl
  have hv:vw (W la lb l2 rest++[.lst [.tup [.int 0,.int 0],.tup [.int 1,.int 0],.tup [.int (-1),.int 0]]]) (.r (rest.length+3))=some (.lst [.tup [.int 0,.int 0],.tup [.int 1,.int 0],.tup [.int (-1),.int 0]]):=by
   rw[cP,<-Jb la lb l2 rest,List.getElem?_concat_length];rfl
  have hi:∃a:Int,sR (W la lb l2 rest++[.lst [.tup [.int 0,.int 0],.tup [.int 1,.int 0],.tup [.int (-1),.int 0]]]) (some (.lst [.tup [.int 0,.int 0],.tup [.int 1,.int 0],.tup [.int (-1),.int 0]])) (some (.int j))=ok (.t (fM (some (a,0)))) (W la lb l2 rest++[.lst [.tup [.int 0,.int 0],.tup [.int 1,.int 0],.tup [.int (-1),.int 0]]]):=by
   have:j=0\/j=1\/j=2:=by omega
   rcases this with h|h|h<;>subst h
   ·exact⟨0,rfl⟩
   ·exact⟨1,rfl⟩
   ·exact⟨-1,rfl⟩
  obtain⟨a,hi⟩:=hi
  refine⟨some (a,0),l2,⟨by omega,by omega⟩,h2,fin (some (a,0)) l2 [.lst [.tup [.int 0,.int 0],.tup [.int 1,.int 0],.tup [.int (-1),.int 0]]] ?_⟩
  simp only[ah,aM,aG,av,List.getElem?_cons_zero,List.getElem?_cons_succ,ay,af,bg,aV,cJ,fV,dW,bL c0,bL c8,dD c9,aF,ak,bD,aS,aL,au,aW,bR,SW,e2,hv,hi,bB]
 ·obtain⟨j,l2,b1,b2,h2,e2⟩:=d9 la lb l1 h1 rest hc [some (.r 2),some (.t (.int i)),none] 0 rfl 41 (by omega) k
  have n2:(2:Int)≠0:=by decide
  have n3:¬((2:Int)=0\/(2:Int).natAbs ≥ 1048576):=by decide
  by_cases c2:(j-10).fmod 2=0
  ·refine⟨some ((j-10).fdiv 2,1),l2,⟨by omega,by omega⟩,h2,fin (some ((j-10).fdiv 2,1)) l2 [] ?_⟩
   rw[List.append_nil]
   simp only[ah,aM,aG,av,List.getElem?_cons_zero,List.getElem?_cons_succ,List.set_cons_zero,List.set_cons_succ,ay,af,bg,aV,cJ,fV,dW,bL c0,bL c8,bL c9,aF,ak,bD,aS,aL,au,aW,aC,b7 (o:=.sub),e2,eK,cK,b7 (o:=.mod),e7 _ _ _ n2,dD c2,fW,eB,aq,aA,b7 (o:=.fdiv),gB _ _ _ n3,mF,bB,fM]
  ·refine⟨some (j-10,2),l2,⟨by omega,by omega⟩,h2,fin (some (j-10,2)) l2 [] ?_⟩
   rw[List.append_nil]
   simp only[ah,aM,aG,av,List.getElem?_cons_zero,List.getElem?_cons_succ,List.set_cons_zero,List.set_cons_succ,ay,af,bg,aV,cJ,fV,dW,bL c0,bL c8,bL c9,aF,ak,bD,aS,aL,au,aW,aC,b7 (o:=.sub),e2,eK,cK,b7 (o:=.mod),e7 _ _ _ n2,bL c2,fX,eB,aq,aA,mF,bB,fM]
theorem gG{α:Type}{f:PV->aB->R (Option PV)}(P:α->Prop) (enc:α->PV) (la:List PV) (lb:PV) (rest:aB)
  (hf:∀d l,Rw l->∃a l' st',P a/\Rw l'/\f d (W la lb l rest)=some (.ok (some (enc a),st'))/\back (W la lb l rest).length st'=some (W la lb l' rest)) :
  ∀(items l:List PV),Rw l->∃(as:List α) (l':List PV),as.length=items.length/\(∀a∈as,P a)/\Rw l'/\turns f items (W la lb l rest)=ok (as.map enc) (W la lb l' rest)
 |[],l,hl=>⟨[],l,rfl,(fun a h=>by cases h),hl,rfl⟩
 |d::ds,l,hl=>by
  obtain⟨a,l1,st',h1,h2,h3,h4⟩:=hf d l hl
  obtain⟨as,l2,e1,e2,e3,e4⟩:=gG P enc la lb rest hf ds l1 h2
  refine⟨a::as,l2,by rw[List.length_cons,List.length_cons,e1],fun b hb=>?_,e3,?_⟩
  ·cases hb with
   |head=>exact h1
   |tail _ hb=>exact e2 b hb
  ·simp only[turns,h3,h4,e4,af,List.map_cons]
theorem gW{C:fj}{x:Nat}{src:List E}{c:Option E}{e:E}{g:Gm}{st st1 st2:aB}{as:List AV}{items l:List PV}(h1:gg C src g st=ok as st1) (h3:sM as=some items) (h4:turns (dJ C x c e g) items st1=ok l st2) :
  ev C (.cM x src c e) g st=alloc st2 (.lst l):=by
 have q:kN qD (gg C src) g st=ok items st1:=we h1 h3
 show R.bind (kN qD (gg C src) g st) _=_
 rw[q,af]
 show R.bind (turns (dJ C x c e g) items st1) _=_
 rw[h4,af]
theorem iH(Q:aB) (a:Node) (R':aB):(Q++a::R')[Q.length]? = some a:=by
 rw[List.getElem?_append_right (Nat.le_refl _),Nat.sub_self];rfl
theorem yu(Q:aB) (a b:Node) (R':aB):(Q++a::b::R')[Q.length+1]? = some b:=by
 rw[List.getElem?_append_right (Nat.le_succ _),show Q.length.succ-Q.length=1 by omega];rfl
theorem iI(Q:aB) (a b:Node) (R':aB):(Q++a::R').set Q.length b=Q++b::R':=by
 rw[List.set_append_right _ _ (Nat.le_refl _),Nat.sub_self];rfl
theorem ED(Q:aB) (a b c:Node) (R':aB):(Q++a::b::R').set (Q.length+1) c=Q++a::c::R':=by
 rw[List.set_append_right _ _ (Nat.le_succ _),show Q.length.succ-Q.length=1 by omega];rfl
noncomputable def uF(o:Option aB) (g:Gm):Option Out:=match o with
  |some st=>some (.next g st)
  |Option.none=>Option.none
theorem iX(C o f e g st):ex C (.setattr o f e) g st=(ev C e g st).out fun a st=>(ev C o g st).out fun b st=>uF (xj st b f a) g:=rfl
theorem c7(Q:aB) (c:gZ) (fs:List (Tx×AV)) (f:Tx) (a:AV) (h:f≠b9):xj (Q++[.inst c fs]) (.r Q.length) f a=some (Q++[.inst c (putK f a fs)]):=by
 simp only[xj,FZ,Nd,if_neg h,iH,iI]
theorem HG(Q:aB) (fs:List (Tx×AV)) (a:AV):xj (Q++[.inst .aJ fs]) (.r Q.length) kK a=some (Q++[.inst .aQ fs]):=by
 simp only[xj,FZ,Nd,if_pos (show kK=b9 from rfl),iH,iI]
theorem lq{T:Nat->Fn}{k f:Nat}{as:List AV}{g g':Gm}{st st':aB}(hr:(T f).ref=true) (ho:(T f).own=true) (hs:(T f).start as=some g) (hb:bO (call T k) (T f).body g st=some (.next g' st')):call T (k+1) f as st=ok (.t .none) st':=by
 show fq (call T k) (T f) as st=_
 simp only[fq,hr,ho,hs]
 show CP true _ (bO (call T k) (T f).body g st)=_
 rw[hb]
 rfl
noncomputable def iV(a b c:AV):Node:=.inst .aQ [(aj,a),(ai,b),(az,c),(aX,.t (.bool false))]
theorem oZ(k:Nat) (Q:aB) (a b c:AV):call T (k+1) 2 [.r Q.length,a,b,c] (Q++[.inst .aJ []])=ok (.t .none) (Q++[iV a b c]):=by
 refine lq (g:=[some (.r Q.length),some a,some b,some c]) (g':=[some (.r Q.length),some a,some b,some c]) rfl rfl rfl ?_
 have h1:=c7 Q .aJ [] aj a (by decide)
 have h2:=c7 Q .aJ [(aj,a)] ai b (by decide)
 have h3:=c7 Q .aJ [(aj,a),(ai,b)] az c (by decide)
 have h4:=HG Q [(aj,a),(ai,b),(az,c)] (.t (.bool false))
 have h5:=c7 Q .aQ [(aj,a),(ai,b),(az,c)] aX (.t (.bool false)) (by decide)
 rw[show(T 2).body=[.setattr (.var 0) aj (.var 1),.setattr (.var 0) ai (.var 2),.setattr (.var 0) az (.var 3),.setattr (.var 0) kK (.bool false),.setattr (.var 0) aX (.bool false)] from rfl]
 rw[show putK aj a []=[(aj,a)] from rfl] at h1
 rw[show putK ai b [(aj,a)]=[(aj,a),(ai,b)] from rfl] at h2
 rw[show putK az c [(aj,a),(ai,b)]=[(aj,a),(ai,b),(az,c)] from rfl] at h3
 rw[show putK aX (AV.t (.bool false)) [(aj,a),(ai,b),(az,c)]=[(aj,a),(ai,b),(az,c),(aX,.t (.bool false))] from rfl] at h5
 simp only[ah,iX,av,v9,List.getElem?_cons_zero,List.getElem?_cons_succ,ay,aF,h1,h2,h3,h4,h5,uF,au,aL]
 rfl
theorem EE(k:Nat) (Q:aB) (a b:AV):call T (k+1) 2 [.r Q.length,a,b] (Q++[.inst .aJ []])=ok (.t .none) (Q++[iV a b (.t .none)]):=oZ k Q a b (.t .none)
theorem nX(k:Nat) (Q:aB) (X:List PV) (kd:Tx) (l:List E) (g:Gm) (st:aB) (h:gg (call T (k+1)) l g st=ok [.t (.str kd),.r Q.length] (Q++[.lst X])):ev (call T (k+1)) (.new .aJ 2 l) g st=ok (.r (Q.length+1)) (Q++[.lst X,iV (.t (.str kd)) (.r Q.length) (.t .none)]):=by
 have h2:=EE k (Q++[.lst X]) (.t (.str kd)) (.r Q.length)
 have h3:=gF (C:=call T (k+1)) (c:=.aJ) (f:=2) h h2
 rw[List.length_append,List.append_assoc] at h3
 exact h3
theorem HH(Q:aB) (X:List PV) (kd:Tx):eU (Q++[.lst X,iV (.t (.str kd)) (.r Q.length) (.t .none)]) (.r (Q.length+1))=ok (vec kd X .none) (Q++[.fz (.lst X),.fz (vec kd X .none)]):=by
 have hF:pZ 23 (Q++[.lst X,iV (.t (.str kd)) (.r Q.length) (.t .none)]) [(aj,.t (.str kd)),(ai,.r Q.length),(az,.t .none),(aX,.t (.bool false))]=some ([(aj,.str kd),(ai,.lst X),(az,.none),(aX,.bool false)],Q++[.fz (.lst X),iV (.t (.str kd)) (.r Q.length) (.t .none)]):=by
  simp only[pZ,i6,iH,iI]
 have e1:=yu Q (.lst X) (iV (.t (.str kd)) (.r Q.length) (.t .none)) []
 have e2:=yu Q (.fz (.lst X)) (iV (.t (.str kd)) (.r Q.length) (.t .none)) []
 have e3:=ED Q (.fz (.lst X)) (iV (.t (.str kd)) (.r Q.length) (.t .none)) (.fz (vec kd X .none)) []
 rw[iV] at e1 e2 e3 hF ⊢
 have:i6 24 (Q++[.lst X,iV (.t (.str kd)) (.r Q.length) (.t .none)]) (.r (Q.length+1))=some (vec kd X .none,Q++[.fz (.lst X),.fz (vec kd X .none)]):=by
  rw[iV]
  simp only[i6,e1,hF,e2]
  exact congrArg (fun s=>some (vec kd X .none,s)) e3
 rw[iV] at this
 simp only[eU,cR,this]
theorem uG(Q:aB) (c:gZ) (a b:Tx) (x y:PV):eU (Q++[.inst c [(a,.t x),(b,.t y)]]) (.r Q.length)=ok (.inst c [(a,x),(b,y)]) (Q++[.fz (.inst c [(a,x),(b,y)])]):=by
 have:i6 24 (Q++[.inst c [(a,.t x),(b,.t y)]]) (.r Q.length)=some (.inst c [(a,x),(b,y)],Q++[.fz (.inst c [(a,x),(b,y)])]):=by
  simp only[i6,iH,pZ,iI,and_self,if_true]
 simp only[eU,cR,this]
theorem uH(k:Nat) (Q:aB):call T (k+1) 0 [.r Q.length] (Q++[.inst .null []])=ok (.t .none) (Q++[.inst .null [(aj,.t (.str bq)),(az,.t .none)]]):=by
 refine lq (g:=[some (.r Q.length)]) (g':=[some (.r Q.length)]) rfl rfl rfl ?_
 have h1:=c7 Q .null [] aj (.t (.str bq)) (by decide)
 have h2:=c7 Q .null [(aj,.t (.str bq))] az (.t .none) (by decide)
 rw[show(T 0).body=[.setattr (.var 0) aj (.str bq),.setattr (.var 0) az .none] from rfl]
 rw[show putK aj (AV.t (.str bq)) []=[(aj,.t (.str bq))] from rfl] at h1
 rw[show putK az (AV.t .none) [(aj,.t (.str bq))]=[(aj,.t (.str bq)),(az,.t .none)] from rfl] at h2
 simp only[ah,iX,av,bI,aH,List.getElem?_cons_zero,ay,aF,h1,h2,uF,au,aL]
theorem Ca(k:Nat) (Q:aB):call T (k+1) 1 [.r Q.length] (Q++[.inst .missing []])=ok (.t .none) (Q++[.inst .missing [(aj,.t (.str bF)),(az,.t .none)]]):=by
 refine lq (g:=[some (.r Q.length)]) (g':=[some (.r Q.length)]) rfl rfl rfl ?_
 have h1:=c7 Q .missing [] aj (.t (.str bF)) (by decide)
 have h2:=c7 Q .missing [(aj,.t (.str bF))] az (.t .none) (by decide)
 rw[show(T 1).body=[.setattr (.var 0) aj (.str bF),.setattr (.var 0) az .none] from rfl]
 rw[show putK aj (AV.t (.str bF)) []=[(aj,.t (.str bF))] from rfl] at h1
 rw[show putK az (AV.t .none) [(aj,.t (.str bF))]=[(aj,.t (.str bF)),(az,.t .none)] from rfl] at h2
 simp only[ah,iX,av,bI,aH,List.getElem?_cons_zero,ay,aF,h1,h2,uF,au,aL]
noncomputable def uI(i n:Int) (x5:Option AV):Gm:=[some (.r 2),some (.t (.int i)),some (.t (.int n)),none,none,x5,none,none,none]
theorem Pe{n:Int}(h1:0<=n) (h2:n<10):sM [.t (.int n)]=some (cH 0 n)/\(cH 0 n).length<10:=by
 refine⟨?_,by unfold cH;simp;omega⟩
 show(if -2000<=n/\n<=2000 then some (cH 0 n) else none)=_
 rw[if_pos ⟨by omega,by omega⟩]
theorem wI(la:List PV) (lb:PV) (rest:aB) (hc:Cl rest) (k:Nat) (i n:Int) (d:PV) (l:List PV) (hl:Rw l) :
  ∃(a:Option Int) (l':List PV) (st':aB),(∀v,a=some v->v=0\/v=1)/\Rw l'/\dJ (call T (k+1)) 3 none (.sub (.list [(.int 1),(.int 0),.none]) (.bin .mod (.call 75 [(.var 0)]) (.int 3))) (uI i n none) d (W la lb l rest)=some (.ok (some (iZ a),st'))/\back (W la lb l rest).length st'=some (W la lb l' rest):=by
 obtain⟨j,l2,b1,b2,h2,e2⟩:=d9 la lb l hl (rest++[.lst [.int 1,.int 0,.none]]) (wG hc _ rfl) ((uI i n none).set 3 (some (.t d))) 0 rfl 3 (by omega) k
 rw[wH,wH] at e2
 have SW:ev (call T (k+1)) (.list [(.int 1),(.int 0),.none]) ((uI i n none).set 3 (some (.t d))) (W la lb l rest)=ok (.r (rest.length+3)) (W la lb l rest++[.lst [.int 1,.int 0,.none]]):=rfl
 have hv:vw (W la lb l2 rest++[.lst [.int 1,.int 0,.none]]) (.r (rest.length+3))=some (.lst [.int 1,.int 0,.none]):=by
  rw[cP,<-Jb la lb l2 rest,List.getElem?_concat_length];rfl
 have hi:∃a:Option Int,(∀v,a=some v->v=0\/v=1)/\sR (W la lb l2 rest++[.lst [.int 1,.int 0,.none]]) (some (.lst [.int 1,.int 0,.none])) (some (.int j))=ok (.t (iZ a)) (W la lb l2 rest++[.lst [.int 1,.int 0,.none]]):=by
  have:j=0\/j=1\/j=2:=by omega
  rcases this with h|h|h<;>subst h
  ·exact⟨some 1,(fun v e=>by(injection e with e;subst e);exact .inr rfl),rfl⟩
  ·exact⟨some 0,(fun v e=>by(injection e with e;subst e);exact .inl rfl),rfl⟩
  ·exact⟨none,(fun v e=>by injection e),rfl⟩
 obtain⟨a,ha,hi⟩:=hi
 refine⟨a,l2,W la lb l2 rest++[.lst [.int 1,.int 0,.none]],ha,h2,?_,iW hc _ rfl⟩
 unfold dJ
 simp only[j6,af,if_true,bR,SW,e2,hv,aV,hi,dF]
theorem pU(la:List PV) (lb:PV) (rest:aB) (hc:Cl rest) (k x:Nat) (i n:Int) (Kh:∀d,((uI i n none).set x (some (.t d)))[0]? = some (some (.r 2))) (d:PV) (l:List PV) (hl:Rw l) :
  ∃(a:Option (Int×Int)) (l':List PV) (st':aB),Ft a/\Rw l'/\dJ (call T (k+2)) x none (.call 77 [(.var 0)]) (uI i n none) d (W la lb l rest)=some (.ok (some (fM a),st'))/\back (W la lb l rest).length st'=some (W la lb l' rest):=by
 obtain⟨p,l',h1,h2,h3⟩:=number la lb l hl rest hc k
 refine⟨p,l',W la lb l' rest,h1,h2,?_,by have:=iW (la:=la) (lb:=lb) (l:=l') hc [] (n:=(W la lb l rest).length) rfl;rwa [List.append_nil] at this⟩
 unfold dJ
 simp only[j6,af,if_true,bW,aq,aA,av,Kh,ay,h3,dF]
theorem Cb(la:List PV) (lb:PV) (rest:aB) (hc:Cl rest) (k x:Nat) (g:Gm) (y:Nat) (Kh:∀d,(g.set x (some (.t d)))[y]? = some (some (.r 2))) (d:PV) (l:List PV) (hl:Rw l) :
  ∃(a:Option Tx) (l':List PV) (st':aB),nW a/\Rw l'/\dJ (call T (k+2)) x none (.call 76 [(.var y)]) g d (W la lb l rest)=some (.ok (some (aD a),st'))/\back (W la lb l rest).length st'=some (W la lb l' rest):=by
 obtain⟨p,l',h1,h2,h3⟩:=text la lb l hl rest hc k
 refine⟨p,l',W la lb l' rest,h1,h2,?_,by have:=iW (la:=la) (lb:=lb) (l:=l') hc [] (n:=(W la lb l rest).length) rfl;rwa [List.append_nil] at this⟩
 unfold dJ
 simp only[j6,af,if_true,bW,aq,aA,av,Kh,ay,h3,dF]
noncomputable def qd:Option (Int×Int)->Option Int
 |none=>none
 |some (a,b)=>if b=1 then some a else none
theorem EF(C:fj) (g:Gm) (hg:g.length=9) (ps:List (Option (Int×Int))) (st:aB) (hb:back st.length st=some st) :
  turns (dJ C 6 none (.ite (.or [(.cmp .is (.var 6) .none),(.cmp .ne (.sub (.var 6) (.int 1)) (.int 1))]) .none (.sub (.var 6) (.int 0))) g) (ps.map fM) st=ok (ps.map fun p=>iZ (qd p)) st:=by
 refine lQ fM (fun p=>iZ (qd p)) ps fun a _=>⟨st,?_,hb⟩
 have hx:6<g.length:=by omega
 unfold dJ
 match a with
 |none=>simp only[af,av,ay,aH,aG,aV,bk,isNone_none,ak,dz,dB,j5,cK,fW,dF,j6,qa,if_true,List.getElem?_set_self hx,fM,qd]
 |some (a,b) =>
  by_cases h:b=1
  ·simp only[af,av,ay,aH,bg,aG,aV,bk,gT,eY,ak,dz,fu,dB,eZ,cK,fX,dF,bR,nJ,gJ,j6,jl,lX,if_true,List.getElem?_set_self hx,fM,qd,dD h,cY h]
  ·simp only[af,av,ay,aH,bg,aG,aV,bk,gT,eY,ak,dz,fu,dB,eZ,cK,fW,dF,bR,gJ,j6,iC,qa,if_true,List.getElem?_set_self hx,fM,qd,bL h,lY h]
theorem nY{k:Nat}{l l':List PV}{la:List PV}{lb:PV}{rest:aB}(hc:Cl rest) (kd:Tx) (X:List PV) (D:aB)
  (hb:bO (call T (k+1)) (T 78).body [some (.r 2),none,none,none,none,none,none,none,none] (W la lb l rest)=some (.ret (.r ((W la lb l' rest++D).length+1)) ((W la lb l' rest++D)++[.lst X,iV (.t (.str kd)) (.r (W la lb l' rest++D).length) (.t .none)]))) :
  call T (k+2) 78 [.r 2] (W la lb l rest)=ok (.t (vec kd X .none)) (W la lb l' rest):=by
 refine jS (g:=[some (.r 2),none,none,none,none,none,none,none,none]) rfl rfl rfl hb (HH _ X kd) ?_
 rw[List.append_assoc]
 exact iW hc _ rfl
theorem sy{C:fj}{c e:E}{r:List S}{g:Gm}{st st1:aB}{t:AV}(hc:ev C c g st=ok (.t (.bool true)) st) (he:ev C e g st=ok t st1):bO C (.ifs c [.ret e] []::r) g st=some (.ret t st1):=by
 refine bU hc rfl (o:=some (.ret t st1)) ?_ rfl
 rw[ah,aW,he];rfl
noncomputable def mJ(la:List PV) (lb:PV) (l l2:List PV) (rest:aB) (k:Nat) (n i:Int):Prop:=∀{o:Option Out},bO (call T (k+2)) ((T 78).body.drop 2) (uI i n none) (W la lb l2 rest)=o->bO (call T (k+2)) (T 78).body [some (.r 2),none,none,none,none,none,none,none,none] (W la lb l rest)=o
noncomputable def pV(la:List PV) (lb:PV) (l:List PV) (rest:aB) (k:Nat):Prop:=∃(ix:Ix) (l':List PV),ix.ok/\Rw l'/\call T (k+3) 78 [.r 2] (W la lb l rest)=ok (.t ix.pv) (W la lb l' rest)
theorem mJ.pre{la:List PV}{lb:PV}{l l2:List PV}{rest:aB}{k:Nat}{n i:Int}(s2:mJ la lb l l2 rest k n i) (j:Nat){o:Option Out}(hp:bO (call T (k+2)) (((T 78).body.drop 2).take j) (uI i n none) (W la lb l2 rest)=some (.next (uI i n none) (W la lb l2 rest))) (h:bO (call T (k+2)) (((T 78).body.drop 2).drop j) (uI i n none) (W la lb l2 rest)=o) :
  bO (call T (k+2)) (T 78).body [some (.r 2),none,none,none,none,none,none,none,none] (W la lb l rest)=o:=s2 (aN j hp h)
theorem X0{la:List PV}{lb:PV}{l l2:List PV}{rest:aB}{k:Nat}{n:Int}(hc:Cl rest) (h2:Rw l2) (s2:mJ la lb l l2 rest k n 0):pV la lb l rest k:=by
 refine⟨.missing,l2,trivial,h2,jS (g:=[some (.r 2),none,none,none,none,none,none,none,none]) rfl rfl rfl (s2.pre 0 (by kernel_rfl) ?_) (uG (W la lb l2 rest) .missing aj az (.str bF) .none) (iW hc _ rfl)⟩
 exact sy (c:=.cmp .eq (.var 1) (.int 0)) (e:=.new .missing 1 []) (by kernel_rfl) (gF (st1:=W la lb l2 rest) rfl (Ca _ _))
theorem X5{la:List PV}{lb:PV}{l l2:List PV}{rest:aB}{k:Nat}{n:Int}(hc:Cl rest) (h2:Rw l2) (s2:mJ la lb l l2 rest k n 1):pV la lb l rest k:=by
 refine⟨.null,l2,trivial,h2,jS (g:=[some (.r 2),none,none,none,none,none,none,none,none]) rfl rfl rfl (s2.pre 1 (by kernel_rfl) ?_) (uG (W la lb l2 rest) .null aj az (.str bq) .none) (iW hc _ rfl)⟩
 exact sy (c:=.cmp .eq (.var 1) (.int 1)) (e:=.new .null 0 []) (by kernel_rfl) (gF (st1:=W la lb l2 rest) rfl (uH _ _))
theorem X6{la:List PV}{lb:PV}{l l2:List PV}{rest:aB}{k:Nat}{n:Int}(hc:Cl rest) (h2:Rw l2) (hr:sM [.t (.int n)]=some (cH 0 n)) (hn:(cH 0 n).length<10) (s2:mJ la lb l l2 rest k n 2):pV la lb l rest k:=by
 have sX:∀x,gg (call T (k+2)) [.var 2] (uI 2 n x) (W la lb l2 rest)=ok [.t (.int n)] (W la lb l2 rest):=fun x=>rfl
 obtain⟨as,l3,c1,c2,c3,c4⟩:=gG (fun a:Option Int=>∀v,a=some v->v=0\/v=1) iZ la lb rest (wI la lb rest hc (k+1) 2 n) (cH 0 n) l2 h2
 have sA:=gW (sX none) hr c4
 refine⟨.logical as,l3,⟨by omega,fun v hv=>c2 _ hv v rfl⟩,c3,nY hc bw (as.map iZ) [] (s2.pre 2 (by kernel_rfl) ?_)⟩
 rw[List.append_nil]
 refine sy (c:=.cmp .eq (.var 1) (.int 2)) (e:=.new .aJ 2 [(.str bw),(.cM 3 [(.var 2)] none (.sub (.list [(.int 1),(.int 0),.none]) (.bin .mod (.call 75 [(.var 0)]) (.int 3))))]) (by kernel_rfl) (nX (k+1) (W la lb l3 rest) (as.map iZ) bw _ _ _ ?_)
 simp only[aq,aA,bI,af,sA,bS]
theorem X7{la:List PV}{lb:PV}{l l2:List PV}{rest:aB}{k:Nat}{n:Int}(hc:Cl rest) (h2:Rw l2) (hr:sM [.t (.int n)]=some (cH 0 n)) (hn:(cH 0 n).length<10) (s2:mJ la lb l l2 rest k n 3):pV la lb l rest k:=by
 have sX:∀x,gg (call T (k+2)) [.var 2] (uI 3 n x) (W la lb l2 rest)=ok [.t (.int n)] (W la lb l2 rest):=fun x=>rfl
 obtain⟨as,l3,c1,c2,c3,c4⟩:=gG Ft fM la lb rest (fun d l=>pU la lb rest hc k 4 3 n (fun d=>rfl) d l) (cH 0 n) l2 h2
 have sA:=gW (sX none) hr c4
 have hb:back (W la lb l3 rest++[Node.fz (.lst (as.map fM))]).length (W la lb l3 rest++[Node.fz (.lst (as.map fM))])=some (W la lb l3 rest++[Node.fz (.lst (as.map fM))]):=by
  have h:=iW (la:=la) (lb:=lb) (l:=l3) (wG hc (.fz (.lst (as.map fM))) rfl) [] (n:=(rest++[Node.fz (.lst (as.map fM))]).length+3) rfl
  rw[List.append_nil] at h;exact h
 have JN:=EF (call T (k+2)) (uI 3 n (some (.r (W la lb l3 rest).length))) rfl as _ hb
 have hf:eU (W la lb l3 rest++[Node.lst (as.map fM)]) (.r (W la lb l3 rest).length)=ok (.lst (as.map fM)) (W la lb l3 rest++[Node.fz (.lst (as.map fM))]):=by
  simp only[eU,cR,i6,iH,iI]
 have Lp:=dR (C:=call T (k+2)) (x:=6) (src:=.var 5) (c:=none) (g:=uI 3 n (some (.r (W la lb l3 rest).length))) (st:=W la lb l3 rest++[Node.lst (as.map fM)]) (st1:=W la lb l3 rest++[Node.lst (as.map fM)]) rfl hf rfl JN
 refine⟨.integer (as.map qd),l3,show(as.map qd).length<1000 by rw[List.length_map];omega,c3,?_⟩
 rw[show(Ix.integer (as.map qd)).pv=vec aa (as.map fun p=>iZ (qd p)) .none by show vec aa ((as.map qd).map iZ) .none=_;rw[List.map_map];rfl]
 refine nY hc aa (as.map fun p=>iZ (qd p)) [.fz (.lst (as.map fM))] (s2.pre 3 (by kernel_rfl) ?_)
 rw[show((T 78).body.drop 2).drop 3=.ifs (.cmp .eq (.var 1) (.int 3)) [.assign 5 (.cM 4 [(.var 2)] none (.call 77 [(.var 0)])),.ret (.new .aJ 2 [(.str aa),(.comp 6 (.var 5) none (.ite (.or [(.cmp .is (.var 6) .none),(.cmp .ne (.sub (.var 6) (.int 1)) (.int 1))]) .none (.sub (.var 6) (.int 0))))])] []::((T 78).body.drop 2).drop 4 from rfl]
 refine bU (st1:=W la lb l2 rest) (t:=.t (.bool true)) (by kernel_rfl) rfl (bE (g':=uI 3 n (some (.r (W la lb l3 rest).length))) (st':=W la lb l3 rest++[Node.lst (as.map fM)]) (by rw[aC,sA,bS];rfl) ?_) (o:=some (.ret _ _)) rfl
 have hn:=nX (k+1) (W la lb l3 rest++[Node.fz (.lst (as.map fM))]) (as.map fun p=>iZ (qd p)) aa [(.str aa),(.comp 6 (.var 5) none (.ite (.or [(.cmp .is (.var 6) .none),(.cmp .ne (.sub (.var 6) (.int 1)) (.int 1))]) .none (.sub (.var 6) (.int 0))))] (uI 3 n (some (.r (W la lb l3 rest).length))) (W la lb l3 rest++[Node.lst (as.map fM)]) (by
  simp only[aq,aA,bI,af,Lp,bS])
 rw[ah,aW,hn];rfl
theorem X8{la:List PV}{lb:PV}{l l2:List PV}{rest:aB}{k:Nat}{n:Int}(hc:Cl rest) (h2:Rw l2) (hr:sM [.t (.int n)]=some (cH 0 n)) (hn:(cH 0 n).length<10) (s2:mJ la lb l l2 rest k n 4):pV la lb l rest k:=by
 have sX:∀x,gg (call T (k+2)) [.var 2] (uI 4 n x) (W la lb l2 rest)=ok [.t (.int n)] (W la lb l2 rest):=fun x=>rfl
 obtain⟨as,l3,c1,c2,c3,c4⟩:=gG Ft fM la lb rest (fun d l=>pU la lb rest hc k 7 4 n (fun d=>rfl) d l) (cH 0 n) l2 h2
 have sA:=gW (sX none) hr c4
 refine⟨.eF as,l3,⟨by omega,c2⟩,c3,nY hc aY (as.map fM) [] (s2.pre 4 (by kernel_rfl) ?_)⟩
 rw[List.append_nil]
 refine sy (c:=.cmp .eq (.var 1) (.int 4)) (e:=.new .aJ 2 [(.str aY),(.cM 7 [(.var 2)] none (.call 77 [(.var 0)]))]) (by kernel_rfl) (nX (k+1) (W la lb l3 rest) (as.map fM) aY _ _ _ ?_)
 simp only[aq,aA,bI,af,sA,bS]
theorem Yb{la:List PV}{lb:PV}{l l2:List PV}{rest:aB}{k:Nat}{n:Int}(hc:Cl rest) (h2:Rw l2) (hr:sM [.t (.int n)]=some (cH 0 n)) (hn:(cH 0 n).length<10) (s2:mJ la lb l l2 rest k n 5):pV la lb l rest k:=by
 have sX:∀x,gg (call T (k+2)) [.var 2] (uI 5 n x) (W la lb l2 rest)=ok [.t (.int n)] (W la lb l2 rest):=fun x=>rfl
 obtain⟨as,l3,c1,c2,c3,c4⟩:=gG nW aD la lb rest (fun d l=>Cb la lb rest hc k 8 (uI 5 n none) 0 (fun d=>rfl) d l) (cH 0 n) l2 h2
 have sA:=gW (sX none) hr c4
 refine⟨.character as,l3,show as.length<1000 by omega,c3,nY hc ao (as.map aD) [] (s2.pre 5 (by kernel_rfl) ?_)⟩
 rw[List.append_nil]
 refine sy (c:=.cmp .eq (.var 1) (.int 5)) (e:=.new .aJ 2 [(.str ao),(.cM 8 [(.var 2)] none (.call 76 [(.var 0)]))]) (by kernel_rfl) (nX (k+1) (W la lb l3 rest) (as.map aD) ao _ _ _ ?_)
 simp only[aq,aA,bI,af,sA,bS]
theorem Yc{la:List PV}{lb:PV}{l l2:List PV}{rest:aB}{k:Nat}{n:Int}(hc:Cl rest) (h2:Rw l2) (s2:mJ la lb l l2 rest k n 6):pV la lb l rest k:=by
 refine⟨.list,l2,trivial,h2,nY hc aE [] [] (s2.pre 6 (by kernel_rfl) ?_)⟩
 rw[List.append_nil]
 show bO _ [.ret (.new .aJ 2 [(.str aE),(.list [])])] _ _=_
 have hn:=nX (k+1) (W la lb l2 rest) [] aE [(.str aE),(.list [])] (uI 6 n none) (W la lb l2 rest) rfl
 rw[ah,aW,hn];rfl
theorem index(la:List PV) (lb:PV) (l:List PV) (hl:Rw l) (rest:aB) (hc:Cl rest) (k:Nat):∃(ix:Ix) (l':List PV),ix.ok/\Rw l'/\call T (k+3) 78 [.r 2] (W la lb l rest)=ok (.t ix.pv) (W la lb l' rest):=by
 obtain⟨i,l1,a1,a2,h1,e1⟩:=d9 la lb l hl rest hc [some (.r 2),none,none,none,none,none,none,none,none] 0 rfl 7 (by omega) (k+1)
 obtain⟨n,l2,b1,b2,h2,e2⟩:=d9 la lb l1 h1 rest hc [some (.r 2),some (.t (.int i)),none,none,none,none,none,none,none] 0 rfl 10 (by omega) (k+1)
 have hr:=Pe b1 b2
 have all:∀i:Int,0<=i->i<7->mJ la lb l l2 rest k n i->pV la lb l rest k :=
  fK (n:=6) (fK (n:=5) (fK (n:=4) (fK (n:=3) (fK (n:=2) (fK (n:=1) (fK (n:=0) EC (X0 hc h2)) (X5 hc h2)) (X6 hc h2 hr.1 hr.2)) (X7 hc h2 hr.1 hr.2)) (X8 hc h2 hr.1 hr.2)) (Yb hc h2 hr.1 hr.2)) (Yc hc h2)
 refine all i a1 a2 fun{o} h=>?_
 rw[show(T 78).body=.assign 1 (.bin .mod (.call 75 [(.var 0)]) (.int 7))::.assign 2 (.bin .mod (.call 75 [(.var 0)]) (.int 10))::(T 78).body.drop 2 from rfl]
 refine bE (g':=[some (.r 2),some (.t (.int i)),none,none,none,none,none,none,none]) (st':=W la lb l1 rest) (by rw[aC,e1];rfl) ?_
 exact bE (g':=uI i n none) (st':=W la lb l2 rest) (by rw[aC,e2];rfl) h
theorem EG{l:List PV}(h:Rw l){i:Int}(h1:0<=i) (h2:i<1024):Rw (l++[.int i]):=by
 intro d hd
 rcases List.mem_append.mp hd with hd|hd
 ·exact h d hd
 ·cases hd with
  |head=>exact⟨i,rfl,h1,h2⟩
  |tail _ q=>cases q
noncomputable def EH:List S:=[.ifs (.cmp .gt (.var 3) (.int 0)) [.expr (.b4 .append (.var 1) [(.bin .mod (.var 3) (.int 1024))]),.assign 3 (.bin .fdiv (.var 3) (.int 1024))] []]
noncomputable def MH:List S:=[.assign 3 (.ite (.cmp .ge (.var 2) (.int 0)) (.var 2) (.bin .sub (.int 7) (.var 2))),.expr (.b4 .append (.var 1) [(.bin .mod (.var 3) (.int 1024))]),.assign 3 (.bin .fdiv (.var 3) (.int 1024)),.forR 4 [(.int 30)] EH]
theorem c1:(1024:Int)≠0:=by decide
theorem c2:¬((1024:Int)=0\/(1024:Int).natAbs ≥ 1048576):=by decide
noncomputable def yQ(s c:PV) (m5:Int) (y:Option AV):Gm:=[some (.t s),some (.r 0),some (.t c),some (.t (.int m5)),y]
theorem wJ(s c m5 y):yQ s c m5 y=[some (.t s),some (.r 0),some (.t c),some (.t (.int m5)),y]:=rfl
theorem yv{a:Int}(h:0<=a):0<=a.fdiv 1024:=Int.fdiv_nonneg h (by decide)
theorem HJ(C:fj) (s c lb:PV) (m5:Int) (h0:0<=m5) (found:List PV) (hf:Rw found) (hl:found.length<2000) (y:AV) :
  ∃(lu:Int) (cZ:List PV),0<=lu/\Rw cZ/\cZ.length<=found.length+1/\bO C EH (yQ s c m5 (some y)) [.lst found,.fz lb]=some (.next (yQ s c lu (some y)) [.lst cZ,.fz lb]):=by
 unfold EH
 by_cases h:0<m5
 ·have hr:=jT h0 (show(0:Int)<1024 by decide)
  refine⟨m5.fdiv 1024,found++[.int (m5.fmod 1024)],yv h0,EG hf hr.1 hr.2,by simp,?_⟩
  simp only[af,aF,aS,aM,bx,aC,ah,aL,au,av,ay,bg,aG,aV,cP,bX,dW,ak,aA,aq,br,bu,aU,aZ,cL,bf,bV,b7,List.getElem?_cons_zero,List.getElem?_cons_succ,List.set_cons_zero,List.set_cons_succ,wJ,dD h,e7 _ _ _ c1,gB _ _ _ c2,cY hl]
 ·refine⟨m5,found,h0,hf,by omega,?_⟩
  simp only[af,aF,bD,aM,ah,aL,au,av,ay,bg,aG,aV,dW,ak,List.getElem?_cons_zero,List.getElem?_cons_succ,wJ,bL h]
noncomputable def Lq(y:Option AV):Prop:=y=none\/∃d,y=some (AV.t d)
theorem HK(C:fj) (s c lb:PV) (m5:Int) (h0:0<=m5) (found:List PV) (hf:Rw found) (hl:found.length<=1300) (y:Option AV) (hy:Lq y) :
  ∃(lu:Int) (cZ:List PV) (y':Option AV),Rw cZ/\cZ.length<=found.length+30/\Lq y'/\ex C (.forR 4 [(.int 30)] EH) (yQ s c m5 y) [.lst found,.fz lb]=some (.next (yQ s c lu y') [.lst cZ,.fz lb]):=by
 obtain⟨g',st',h1,lu,cZ,y',i1,i2,i3,i4,rfl,rfl⟩:=dH (f:=bO C EH) (x:=4) (n:=2) (fun(k:Nat)=>PV.int k)
  (fun pre g st=>∃(lu:Int) (cZ:List PV) (y':Option AV),0<=lu/\Rw cZ/\cZ.length<=found.length+pre.length/\Lq y'/\g=yQ s c lu y'/\st=[.lst cZ,.fz lb])
  (List.range 30) (yQ s c m5 y) [.lst found,.fz lb] ⟨m5,found,y,h0,hf,by simp,hy,rfl,rfl⟩ (by
   rintro p b q g st e ⟨lu,cZ,y',i1,i2,i3,i4,rfl,rfl⟩
   have hp:p.length<30:=by have:=congrArg List.length e;simp at this;omega
   obtain⟨f2,fd2,j1,j2,j3,j4⟩:=HJ C s c lb lu i1 cZ i2 (by omega) (.t (.int b))
   exact⟨yQ s c f2 (some (.t (.int b))),[.lst fd2,.fz lb],⟨_,_,.inl j4,rfl⟩,f2,fd2,_,j1,j2,by simp;omega,.inr ⟨_,rfl⟩,rfl,rfl⟩)
 exact⟨lu,cZ,y',i2,by simpa using i3,i4,kU (st1:=[.lst found,.fz lb]) (as:=[.t (.int (30:Nat))]) rfl (nM (by omega)) h1⟩
theorem Lr(C:fj) (s lb:PV) (c:Int) (found:List PV) (hf:Rw found) (hl:found.length<=1260) (x y:Option AV) (hy:Lq y) :
  ∃(lu:Int) (cZ:List PV) (y':Option AV),Rw cZ/\cZ.length<=found.length+31/\Lq y'/\bO C MH [some (.t s),some (.r 0),some (.t (.int c)),x,y] [.lst found,.fz lb]=some (.next (yQ s (.int c) lu y') [.lst cZ,.fz lb]):=by
 have key:∀m5:Int,0<=m5->ev C (.ite (.cmp .ge (.var 2) (.int 0)) (.var 2) (.bin .sub (.int 7) (.var 2))) [some (.t s),some (.r 0),some (.t (.int c)),x,y] [.lst found,.fz lb]=ok (.t (.int m5)) [.lst found,.fz lb] ->
   ∃(lu:Int) (cZ:List PV) (y':Option AV),Rw cZ/\cZ.length<=found.length+31/\Lq y'/\bO C MH [some (.t s),some (.r 0),some (.t (.int c)),x,y] [.lst found,.fz lb]=some (.next (yQ s (.int c) lu y') [.lst cZ,.fz lb]):=by
  intro m5 h0 he
  have hr:=jT h0 (show(0:Int)<1024 by decide)
  have Yd:found.length<2000:=by omega
  obtain⟨lu,cZ,y',i1,i2,i4,i3⟩:=HK C s (.int c) lb (m5.fdiv 1024) (yv h0) (found++[.int (m5.fmod 1024)]) (EG hf hr.1 hr.2) (by simp;omega) y hy
  refine⟨lu,cZ,y',i1,by simp at i2;omega,i4,?_⟩
  have e1:ex C (.assign 3 (.ite (.cmp .ge (.var 2) (.int 0)) (.var 2) (.bin .sub (.int 7) (.var 2)))) [some (.t s),some (.r 0),some (.t (.int c)),x,y] [.lst found,.fz lb]=some (.next (yQ s (.int c) m5 y) [.lst found,.fz lb]):=by
   rw[aC,he];rfl
  have e2:ex C (.expr (.b4 .append (.var 1) [(.bin .mod (.var 3) (.int 1024))])) (yQ s (.int c) m5 y) [.lst found,.fz lb]=some (.next (yQ s (.int c) m5 y) [.lst (found++[.int (m5.fmod 1024)]),.fz lb]):=by
   simp only[af,aF,bx,av,ay,bg,aV,cP,bX,aA,aq,br,bu,aU,aZ,cL,bf,bV,b7,List.getElem?_cons_zero,List.getElem?_cons_succ,List.set_cons_zero,wJ,e7 _ _ _ c1,cY Yd]
  have e3:ex C (.assign 3 (.bin .fdiv (.var 3) (.int 1024))) (yQ s (.int c) m5 y) [.lst (found++[.int (m5.fmod 1024)]),.fz lb]=some (.next (yQ s (.int c) (m5.fdiv 1024) y) [.lst (found++[.int (m5.fmod 1024)]),.fz lb]):=by
   simp only[af,aF,aC,av,ay,bg,aV,b7,List.getElem?_cons_zero,List.getElem?_cons_succ,List.set_cons_zero,List.set_cons_succ,wJ,gB _ _ _ c2]
  rw[MH,ah,e1,au,ah,e2,au,ah,e3,au,ah,i3,au,aL]
 by_cases h:0<=c
 ·exact key c h (by simp only[af,av,ay,bg,aG,aV,eu,ak,cK,fW,List.getElem?_cons_zero,List.getElem?_cons_succ,dD h])
 ·exact key (7-c) (by omega) (by simp only[af,av,ay,bg,aG,aV,eu,ak,cK,fX,b7,eK,List.getElem?_cons_zero,List.getElem?_cons_succ,bL h])
noncomputable def gR(zs:List Int) (a b c:Option AV):Gm:=[some (.t (.lst (zs.map PV.int))),some (.r 0),a,b,c]
theorem EI(l:List PV) (n:Nat):cut l none (some (n:Int))=l.take n:=by
 show(l.take ((n:Int).toNat)).drop 0=_
 rw[Int.toNat_natCast];rfl
theorem HL(k:Nat) (zs:List Int):∃(la:List PV) (lb:PV) (l:List PV),Rw l/\call T (k+1) 74 [.t (.lst (zs.map PV.int))] []=ok (.r 2) (W la lb l []):=by
 obtain⟨g',st',h1,found,x,y,z,i1,i2,i3,rfl,rfl⟩:=dH (f:=bO (call T k) MH) (x:=2) (n:=2) PV.int
  (fun pre g st=>∃(found:List PV) (x y z:Option AV),Rw found/\found.length<=31*pre.length/\Lq z/\g=gR zs x y z/\st=[.lst found,.fz (.lst ((zs.take 40).map PV.int))])
  (zs.take 40) (gR zs none none none) [.lst [],.fz (.lst ((zs.take 40).map PV.int))] ⟨[],none,none,none,(fun d h=>by cases h),by simp,.inl rfl,rfl,rfl⟩ (by
   rintro p b q g st e ⟨found,x,y,z,i1,i2,i3,rfl,rfl⟩
   have hp:p.length<40:=by
    have h1:=congrArg List.length e
    have h2:(zs.take 40).length<=40:=by rw[List.length_take];omega
    simp at h1;omega
   obtain⟨f2,fd2,y2,j1,j2,j4,j3⟩:=Lr (call T k) (.lst (zs.map PV.int)) (.lst ((zs.take 40).map PV.int)) b found i1 (by omega) y z i3
   have hy:settle 2 (yQ (.lst (zs.map PV.int)) (.int b) f2 y2) [.lst fd2,.fz (.lst ((zs.take 40).map PV.int))]=some (gR zs (some (.t (.int b))) (some (.t (.int f2))) y2,[.lst fd2,.fz (.lst ((zs.take 40).map PV.int))]):=by
    rcases j4 with rfl|⟨d,rfl⟩<;>rfl
   exact⟨_,_,⟨_,_,.inl j3,hy⟩,fd2,_,_,y2,j1,by simp;omega,j4,rfl,rfl⟩)
 have hb:(T 74).body=[.assign 1 (.list []),.gk 2 (.slice (.var 0) none (some (.int 40))) MH,.assign 1 (.slice (.var 1) none (some (.int 160))),.expr (.b4 .reverse (.var 1) []),.ret (.var 1)]:=rfl
 have SY:cut (zs.map PV.int) none (some 40)=(zs.take 40).map PV.int:=by rw[show(40:Int)=((40:Nat):Int) from rfl,EI,List.map_take]
 have Rh:ev (call T k) (.slice (.var 0) none (some (.int 40))) (gR zs none none none) [.lst []]=ok (.r 1) [.lst [],.lst ((zs.take 40).map PV.int)]:=by
  rw[<-SY];rfl
 have hF:=eL (C:=call T k) (x:=2) (src:=.slice (.var 0) none (some (.int 40))) (body:=MH) (g:=gR zs none none none) (st:=[.lst []]) (st2:=[.lst [],.fz (.lst ((zs.take 40).map PV.int))]) (items:=(zs.take 40).map PV.int) Rh rfl rfl h1
 have hR:Rw (cut found none (some 160)).reverse:=by
  intro d hd
  rw[List.mem_reverse,show(160:Int)=((160:Nat):Int) from rfl,EI] at hd
  exact i1 d (List.mem_of_mem_take hd)
 refine⟨found,.lst ((zs.take 40).map PV.int),(cut found none (some 160)).reverse,hR,lS (g:=gR zs none none none |>.set 1 none) rfl rfl rfl ?_⟩
 rw[hb]
 refine bE (g':=gR zs none none none) (st':=[.lst []]) rfl (bE hF ?_)
 kernel_rfl
abbrev Ve:=Nat->Option AV
noncomputable def bM(v:Ve) (i:Nat) (d:PV):Ve:=fun j=>cond (Nat.beq j i) (some (.t d)) (v j)
noncomputable def Gv(n:Nat) (v:Ve):Gm:=(List.range n).map v
theorem Gv.get{n i:Nat}{v:Ve}(h:Nat.blt i n=true):(Gv n v)[i]? = some (v i):=by
 unfold Gv
 rw[List.getElem?_map,List.getElem?_range (Nat.le_of_ble_eq_true h)];rfl
theorem Gv.set{n x:Nat}{v:Ve}{d:PV}:(Gv n v).set x (some (.t d))=Gv n (bM v x d):=List.ext_getElem? fun i=>by
 by_cases hi:i<n
 ·have hb:Nat.blt i n=true:=Nat.ble_eq_true_of_le hi
  rw[Gv.get hb,List.getElem?_set,Gv.get hb]
  unfold bM
  by_cases q:x=i
  ·rw[if_pos q,if_pos (by unfold Gv;rw[List.length_map,List.length_range];exact q▸hi),q,Nat.beq_refl];rfl
  ·rw[if_neg q,show Nat.beq i x=false from Bool.eq_false_iff.mpr fun h=>q (Nat.eq_of_beq_eq_true h).symm];rfl
 ·rw[List.getElem?_eq_none (by rw[List.length_set];unfold Gv;rw[List.length_map,List.length_range];exact Nat.le_of_not_lt hi),List.getElem?_eq_none (by unfold Gv;rw[List.length_map,List.length_range];exact Nat.le_of_not_lt hi)]
noncomputable def Fl(st:aB):Prop:=st.all (dM st.length)=true
theorem Fl.back{st:aB}(h:Fl st) (X:aB):back st.length (st++X)=some st:=by
 unfold Mine.back
 rw[List.take_left];exact if_pos h
theorem Fl.AE{st:aB}(h:Fl st):Mine.back st.length st=some st:=by have:=h.back [];rwa [List.append_nil] at this
set_option genCtorIdx false in
inductive Pr|t (d:PV)|f (d:PV)|x (m:Tx)
noncomputable def Pr.ctorIdx(t:Pr):Nat:=Pr.casesOn (motive:=fun _=>Nat) t (fun _=>0) (fun _=>1) (fun _=>2)
noncomputable def S0(o:Option AV):Option Pr:=match o with| some (.t d)=>some (.t d)|_=>none
noncomputable def tb(p:Option Pr) (f:PV->Option Pr):Option Pr:=match p with| some (.t d)=>f d|_=>none
noncomputable def iY(p:Option Pr) (o:Option (List PV)):Option (List PV):=match p with| some (.t d)=>o.bind fun ds=>some (d::ds)|_=>none
noncomputable def jb(p:Option Pr):Option PV:=match p with| some (.t d)=>some d|some (.f d)=>some d|_=>none
noncomputable def uJ(p:Option Pr):Option Pr:=match p with| some (.f d)=>some (.t d)|p=>p
noncomputable def AF(p:Option Pr):Option Pr:=match p with| some (.t d)=>some (.t d)|some (.x m)=>some (.t (.str m))|_=>none
noncomputable def mY(f:PV->Option Pr):List PV->Option (List PV)
 |[]=>some []
 |a::r=>(jb (f a)).bind fun d=>(mY f r).bind fun ds=>some (d::ds)
noncomputable def Cc(d:PV) (x y:Option Pr):Option Pr:=(truth d).bind fun b=>cond b x y
noncomputable def Ls(f:Tx) (d:PV):Option Pr:=match d with| .inst _ fs=>(cj f fs).map .t|_=>none
noncomputable def gX(l:List PV):Option Pr:=some (.f (.lst l))
noncomputable def S1(a b:List PV):Option Pr:=if a.length+b.length<=lim then gX (a++b) else none
noncomputable def S2(l:List PV) (n:Int):Option Pr:=match l with| [d]=>if -2000<=n/\n<=2000 then gX (List.replicate n.toNat d) else none|_=>none
noncomputable def Lu(o:yS) (d e:PV):Option Pr:=match d with
 |.int a=>(match e with| .int b=>(arith o a b).map fun i=>.t (.int i)|_=>none)
 |.lst a=>(match e with
  |.lst b=>cond (isAdd o) (S1 a b) none
  |.int n=>cond (isMul o) (S2 a n) none
  |_=>none)
 |_=>none
noncomputable def ji(o:Option Bool):Option Pr:=o.map fun b=>.t (.bool b)
noncomputable def EJ(d:PV) (p q:Option Int):Option Pr:=match d with| .lst l=>gX (cut l p q)|_=>none
noncomputable def yw(p:Option Pr):Option (Option Int):=match p with| some (.t (.int i))=>if 0<=i then some (some i) else none|_=>none
noncomputable def Jc(ks:List Tx) (ds:List PV):Option Pr:=if ks.length=ds.length then some (.f (.aK (ks.zip ds))) else none
noncomputable def HM(c:gZ) (f:Nat) (ds:List PV):Option Pr:=match c with
 |.aJ=>cond (Nat.beq f 2) (match ds with
  |[a,b]=>some (.f (.inst .aQ [(aj,a),(ai,b),(az,.none),(aX,.bool false)]))
  |[a,b,c]=>some (.f (.inst .aQ [(aj,a),(ai,b),(az,c),(aX,.bool false)]))
  |_=>none) none
 |.null=>cond (Nat.beq f 0) (match ds with| []=>some (.f cU)|_=>none) none
 |.symbol=>cond (Nat.beq f 4) (match ds with| [a]=>some (.f (.inst .symbol [(aj,.str cS),(ig,a),(az,.none)]))|_=>none) none
 |.call=>cond (Nat.beq f 5) (match ds with| [a,b]=>some (.f (.inst .call [(aj,.str aI),(ai,a),(b6,b),(az,.none),(jJ,.none)]))|_=>none) none
 |_=>none
noncomputable def S3(b:Bi) (ds:List PV):Option Pr:=match ds with
 |[x]=>(match b with
  |.len=>(AZ x).map fun i=>.t (.int i)
  |.chr=>(match x with| .int i=>if 0<=i/\i<128 then some (.t (.str [i.toNat])) else none|_=>none)
  |.isStr=>ji (Jv x)
  |_=>none)
 |_=>none
noncomputable def Lv(m:Mt) (x:PV) (ds:List PV):Option Pr:=match m with
 |.index=>(match x with
  |.lst xs=>(match ds with
   |[d]=>(match d with| .str _=>if m7 xs then(idxOf d xs 0).map fun(n:Nat)=>.t (.int (n:Int)) else none|_=>none)
   |_=>none)
  |_=>none)
 |_=>none
structure LR where
 s:Option (List PV)
 a:Option Pr
 o:Option Pr
noncomputable def HN(r:List E) (p q:Option Pr):Option Pr:=match r with| []=>p|_::_=>q
noncomputable def pe(F:Nat->List PV->Option Pr) (n:Nat):E->Ve->Option Pr:=E.rec (motive_1:=fun _=>Ve->Option Pr) (motive_2:=fun _=>Ve->LR) (motive_3:=fun _=>Ve->Option (Option Int))
 (fun _=>some (.t .none)) (fun b _=>some (.t (.bool b))) (fun i _=>some (.t (.int i))) (fun s _=>some (.t (.str s))) (fun i v=>cond (Nat.blt i n) (S0 (v i)) none) (fun _ _ _=>none)
 (fun _ f a v=>tb (a v) (Ls f)) (fun o _ _ a b v=>tb (a v) fun d=>tb (b v) (Lu o d)) (fun _ _ _=>none) (fun _ a v=>tb (a v) fun d=>ji ((truth d).map (!·)))
 (fun o _ _ a b v=>tb (a v) fun d=>tb (b v) fun e=>ji (qC o d e)) (fun _ l v=>(l v).a) (fun _ l v=>(l v).o) (fun _ _ _ c a b v=>tb (c v) fun d=>Cc d (a v) (b v))
 (fun _ l v=>(l v).s.bind gX) (fun _ l v=>(l v).s.bind fun ds=>some (.t (.tup ds))) (fun ks _ l v=>(l v).s.bind (Jc ks)) (fun _=>none)
 (fun _ _ a i v=>tb (a v) fun d=>tb (i v) fun e=>(item d e).map .t) (fun _ _ _ a lo hi v=>tb (a v) fun d=>(lo v).bind fun p=>(hi v).bind fun q=>EJ d p q)
 (fun f _ l v=>(l v).s.bind (F f)) (fun c f _ l v=>(l v).s.bind (HM c f)) (fun _ _ _ _=>none)
 (fun b _ l v=>(l v).s.bind (S3 b)) (fun m _ _ a l v=>tb (a v) fun x=>(l v).s.bind (Lv m x))
 (fun x _ c _ src _ e v=>cond c.isNone (tb (src v) fun d=>(mj d).bind fun items=>(mY (fun it=>e (bM v x it)) items).bind gX) none)
 (fun x _ c _ src _ e v=>cond c.isNone ((src v).s.bind fun ds=>(sM (ds.map AV.t)).bind fun items=>(mY (fun it=>e (bM v x it)) items).bind gX) none)
 (fun _ _ _ _ _ _ _ _=>none) (fun _ _ _ _ _=>none) (fun _ a v=>AF (a v)) (fun _ a v=>uJ (a v))
 (fun _=>⟨some [],none,none⟩) (fun _ r p l v=>⟨iY (p v) (l v).s,HN r (p v) (tb (p v) fun d=>Cc d (l v).a (some (.t d))),HN r (p v) (tb (p v) fun d=>Cc d (some (.t d)) (l v).o)⟩)
 (fun _=>some none) (fun _ a v=>yw (a v))
inductive Ag(st:aB):Option Pr->R AV->Prop
 |no (r:R AV):Ag st none r
 |t (d:PV):Ag st (some (.t d)) (ok (.t d) st)
 |f (d:PV) (j:Nat) (X X':aB) (hj:st.length<=j) (h:eU (st++X) (.r j)=ok d (st++X')):Ag st (some (.f d)) (ok (.r j) (st++X))
 |x (m:Tx):Ag st (some (.x m)) (some (.error (m,st)))
section
variable {st:aB}{p:Option Pr}{r:R AV}{n k:Nat}{v:Ve}{g:Gm}
theorem Ag.tb{f:PV->Option Pr}{q:AV->aB->R AV}(h:Ag st p r) (hq:∀d,Ag st (f d) (q (.t d) st)):Ag st (Mine.tb p f) (r.bind q):=by
 induction h with
 |t d=>exact hq d
 |_=>exact .no _
theorem Ag.ob{α:Type}{o:Option α}{f:α->Option Pr}(h:∀a,o=some a->Ag st (f a) r):Ag st (o.bind f) r:=by
 induction o with
 |none=>exact .no _
 |some a=>exact h a rfl
theorem Ag.ite{c:Prop} [Decidable c] {q:Option Pr}(h:c->Ag st q r):Ag st (if c then q else none) r:=by
 by_cases hc:c
 ·rw[if_pos hc];exact h hc
 ·rw[if_neg hc];exact .no _
theorem Ag.cd{c:Bool}{q:Option Pr}(h:c=true->Ag st q r):Ag st (cond c q none) r:=by
 induction c with
 |true=>exact h rfl
 |false=>exact .no _
theorem Ag.lst(l:List PV):Ag st (gX l) (alloc st (.lst l)):=.f _ _ _ [.fz (.lst l)] (Nat.le_refl _) (by simp only[eU,cR,i6,iH,iI])
theorem Ag.Qi(l:List (Tx×PV)):Ag st (some (.f (.aK l))) (alloc st (.aK l)):=.f _ _ _ [.fz (.aK l)] (Nat.le_refl _) (by simp only[eU,cR,i6,iH,iI])
theorem uK(st:aB):∀(fs:List (Tx×PV)) (n:Nat),fs.length<=n->pZ n st (fs.map fun p=>(p.1,AV.t p.2))=some (fs,st)
 |[],_,_=>by unfold pZ;rfl
 |p::r,n+1,h=>by
  have ih:=uK st r n (Nat.le_of_succ_le_succ h)
  rw[List.map_cons,pZ,show i6 n st (.t p.2)=some (p.2,st) by unfold i6;rfl]
  dsimp only
  rw[ih]
theorem Ag.ins{c c':gZ}{f:Nat}{ds:List PV}(fs:List (Tx×PV)) (hl:fs.length<=23) (h:call T k f (.r st.length::ds.map AV.t) (st++[.inst c []])=ok (.t .none) (st++[.inst c' (fs.map fun p=>(p.1,.t p.2))])):Ag st (some (.f (.inst c' fs))) (A5 (call T k) c f st (ds.map AV.t)):=by
 unfold A5
 rw[h]
 refine .f _ _ _ [.fz (.inst c' fs)] (Nat.le_refl _) ?_
 have hf:=uK (st++[.inst c' (fs.map fun p=>(p.1,AV.t p.2))]) fs 23 hl
 simp only[eU,cR,i6,iH,hf,iI,and_self,if_true]
end
noncomputable def Ye(F:Nat->List PV->Option Pr) (n:Nat):List E->Ve->LR:=E.rec_1 (motive_1:=fun _=>Ve->Option Pr) (motive_2:=fun _=>Ve->LR) (motive_3:=fun _=>Ve->Option (Option Int))
 (fun _=>some (.t .none)) (fun b _=>some (.t (.bool b))) (fun i _=>some (.t (.int i))) (fun s _=>some (.t (.str s))) (fun i v=>cond (Nat.blt i n) (S0 (v i)) none) (fun _ _ _=>none)
 (fun _ f a v=>tb (a v) (Ls f)) (fun o _ _ a b v=>tb (a v) fun d=>tb (b v) (Lu o d)) (fun _ _ _=>none) (fun _ a v=>tb (a v) fun d=>ji ((truth d).map (!·)))
 (fun o _ _ a b v=>tb (a v) fun d=>tb (b v) fun e=>ji (qC o d e)) (fun _ l v=>(l v).a) (fun _ l v=>(l v).o) (fun _ _ _ c a b v=>tb (c v) fun d=>Cc d (a v) (b v))
 (fun _ l v=>(l v).s.bind gX) (fun _ l v=>(l v).s.bind fun ds=>some (.t (.tup ds))) (fun ks _ l v=>(l v).s.bind (Jc ks)) (fun _=>none)
 (fun _ _ a i v=>tb (a v) fun d=>tb (i v) fun e=>(item d e).map .t) (fun _ _ _ a lo hi v=>tb (a v) fun d=>(lo v).bind fun p=>(hi v).bind fun q=>EJ d p q)
 (fun f _ l v=>(l v).s.bind (F f)) (fun c f _ l v=>(l v).s.bind (HM c f)) (fun _ _ _ _=>none)
 (fun b _ l v=>(l v).s.bind (S3 b)) (fun m _ _ a l v=>tb (a v) fun x=>(l v).s.bind (Lv m x))
 (fun x _ c _ src _ e v=>cond c.isNone (tb (src v) fun d=>(mj d).bind fun items=>(mY (fun it=>e (bM v x it)) items).bind gX) none)
 (fun x _ c _ src _ e v=>cond c.isNone ((src v).s.bind fun ds=>(sM (ds.map AV.t)).bind fun items=>(mY (fun it=>e (bM v x it)) items).bind gX) none)
 (fun _ _ _ _ _ _ _ _=>none) (fun _ _ _ _ _=>none) (fun _ a v=>AF (a v)) (fun _ a v=>uJ (a v))
 (fun _=>⟨some [],none,none⟩) (fun _ r p l v=>⟨iY (p v) (l v).s,HN r (p v) (tb (p v) fun d=>Cc d (l v).a (some (.t d))),HN r (p v) (tb (p v) fun d=>Cc d (some (.t d)) (l v).o)⟩)
 (fun _=>some none) (fun _ a v=>yw (a v))
noncomputable def po(F:Nat->List PV->Option Pr) (n:Nat) (o:Option E) (v:Ve):Option (Option Int):=match o with| none=>some none|some e=>yw (pe F n e v)
noncomputable def Fc(k f:Nat) (ds:List PV):Option Pr:=cond (T f).ref none (match call T k f (ds.map AV.t) [] with
 |some (.ok (.t d,_))=>some (.t d)
 |some (.error (m,_))=>some (.x m)
 |_=>none)
section
variable {st:aB}{p:Option Pr}{r:R AV}{n k:Nat}{v:Ve}{g:Gm}
theorem Pf(f:Nat) (ds:List PV):Ag st (Fc k f ds) (call T k f (ds.map .t) st):=by
 unfold Fc
 cases hr:(T f).ref with
 |true=>exact .no _
 |false =>
  induction k with
  |zero=>exact .no _
  |succ k =>
   have e:∀s,call T (k+1) f (ds.map .t) s=oB ((T f).start (ds.map AV.t)) fun g=>yX s (bO (call T k) (T f).body g []):=fun s=>by
    show fq (call T k) (T f) (ds.map .t) s=_
    unfold fq
    rw[hr,gU];rfl
   rw[e,e]
   cases(T f).start (ds.map AV.t) with
   |none=>exact .no _
   |some g =>
    show Ag st (match yX [] (bO (call T k) (T f).body g []) with| some (.ok (.t d,_))=>_|some (.error (m,_))=>_|_=>_) (yX st (bO (call T k) (T f).body g []))
    cases bO (call T k) (T f).body g [] with
    |none=>exact .no _
    |some o =>
     induction o with
     |next=>exact .t _
     |cont=>exact .no _
     |exc m=>exact .x _
     |ret a s =>
      unfold yX
      dsimp only
      cases i6 cR s a with
      |none=>exact .no _
      |some q=>exact .t _
theorem EK(k:Nat) (Q:aB) (a:AV):call T (k+1) 4 [.r Q.length,a] (Q++[.inst .symbol []])=ok (.t .none) (Q++[.inst .symbol [(aj,.t (.str cS)),(ig,a),(az,.t .none)]]):=by
 refine lq (g:=[some (.r Q.length),some a]) (g':=[some (.r Q.length),some a]) rfl rfl rfl ?_
 have h1:=c7 Q .symbol [] aj (.t (.str cS)) (by decide)
 have h2:=c7 Q .symbol [(aj,.t (.str cS))] ig a (by decide)
 have h3:=c7 Q .symbol [(aj,.t (.str cS)),(ig,a)] az (.t .none) (by decide)
 rw[show(T 4).body=[.setattr (.var 0) aj (.str cS),.setattr (.var 0) ig (.var 1),.setattr (.var 0) az .none] from rfl]
 simp only[ah,iX,av,bI,aH,List.getElem?_cons_zero,List.getElem?_cons_succ,ay,aF,h1,show putK aj (AV.t (.str cS)) []=[(aj,.t (.str cS))] from rfl,uF,au,h2,show putK ig a [(aj,AV.t (.str cS))]=[(aj,.t (.str cS)),(ig,a)] from rfl,h3,aL]
 rfl
theorem Ce(k:Nat) (Q:aB) (a b:AV):call T (k+1) 5 [.r Q.length,a,b] (Q++[.inst .call []])=ok (.t .none) (Q++[.inst .call [(aj,.t (.str aI)),(ai,a),(b6,b),(az,.t .none),(jJ,.t .none)]]):=by
 refine lq (g:=[some (.r Q.length),some a,some b,some (.t .none)]) (g':=[some (.r Q.length),some a,some b,some (.t .none)]) rfl rfl rfl ?_
 have h1:=c7 Q .call [] aj (.t (.str aI)) (by decide)
 have h2:=c7 Q .call [(aj,.t (.str aI))] ai a (by decide)
 have h3:=c7 Q .call [(aj,.t (.str aI)),(ai,a)] b6 b (by decide)
 have h4:=c7 Q .call [(aj,.t (.str aI)),(ai,a),(b6,b)] az (.t .none) (by decide)
 have h5:=c7 Q .call [(aj,.t (.str aI)),(ai,a),(b6,b),(az,.t .none)] jJ (.t .none) (by decide)
 rw[show(T 5).body=[.setattr (.var 0) aj (.str aI),.setattr (.var 0) ai (.var 1),.setattr (.var 0) b6 (.var 2),.setattr (.var 0) az (.var 3),.setattr (.var 0) jJ .none] from rfl]
 simp only[ah,iX,av,bI,aH,List.getElem?_cons_zero,List.getElem?_cons_succ,ay,aF,h1,show putK aj (AV.t (.str aI)) []=[(aj,.t (.str aI))] from rfl,uF,au,h2,show putK ai a [(aj,AV.t (.str aI))]=[(aj,.t (.str aI)),(ai,a)] from rfl,h3,show putK b6 b [(aj,AV.t (.str aI)),(ai,a)]=[(aj,.t (.str aI)),(ai,a),(b6,b)] from rfl,h4,show putK az (AV.t .none) [(aj,AV.t (.str aI)),(ai,a),(b6,b)]=[(aj,.t (.str aI)),(ai,a),(b6,b),(az,.t .none)] from rfl,h5,aL]
 rfl
theorem Lw(c:gZ) (f:Nat) (ds:List PV):Ag st (HM c f ds) (A5 (call T (k+1)) c f st (ds.map .t)):=by
 cases c with
 |aJ =>
  refine .cd fun hf=>?_
  cases Nat.eq_of_beq_eq_true hf
  cases ds with
  |nil=>exact .no _
  |cons a ds=>cases ds with
   |nil=>exact .no _
   |cons b ds=>cases ds with
    |nil=>exact Ag.ins [(aj,a),(ai,b),(az,.none),(aX,.bool false)] (Nat.le_of_ble_eq_true rfl) (oZ k st (.t a) (.t b) (.t .none))
    |cons c ds=>cases ds with
     |nil=>exact Ag.ins [(aj,a),(ai,b),(az,c),(aX,.bool false)] (Nat.le_of_ble_eq_true rfl) (oZ k st (.t a) (.t b) (.t c))
     |cons=>exact .no _
 |null =>
  refine .cd fun hf=>?_
  cases Nat.eq_of_beq_eq_true hf
  cases ds with
  |nil=>exact Ag.ins [(aj,.str bq),(az,.none)] (Nat.le_of_ble_eq_true rfl) (uH k st)
  |cons=>exact .no _
 |symbol =>
  refine .cd fun hf=>?_
  cases Nat.eq_of_beq_eq_true hf
  cases ds with
  |nil=>exact .no _
  |cons a ds=>cases ds with
   |nil=>exact Ag.ins [(aj,.str cS),(ig,a),(az,.none)] (Nat.le_of_ble_eq_true rfl) (EK k st (.t a))
   |cons=>exact .no _
 |call =>
  refine .cd fun hf=>?_
  cases Nat.eq_of_beq_eq_true hf
  cases ds with
  |nil=>exact .no _
  |cons a ds=>cases ds with
   |nil=>exact .no _
   |cons b ds=>cases ds with
    |nil=>exact Ag.ins [(aj,.str aI),(ai,a),(b6,b),(az,.none),(jJ,.none)] (Nat.le_of_ble_eq_true rfl) (Ce k st (.t a) (.t b))
    |cons=>exact .no _
 |_=>exact .no _
theorem Lx(f:Tx) (d:PV):Ag st (Ls f d) (uU st (.t d) f):=by
 cases d with
 |inst c fs=>show Ag st ((cj f fs).map .t) (A0 ((cj f fs).map AV.t) st);cases cj f fs<;>constructor
 |_=>exact .no _
theorem yx(o:Option Bool):Ag st (ji o) (jF o st):=by induction o<;>constructor
theorem HO(o:yS) (d e:PV):Ag st (Lu o d e) (Jr o st d e):=by
 cases d with
 |int a =>
  cases e with
  |int b=>show Ag st ((arith o a b).map _) (m6 (arith o a b) st);cases arith o a b<;>constructor
  |_=>exact .no _
 |lst a =>
  cases e with
  |lst b =>
   refine .cd fun h=>?_
   show Ag st _ (if isAdd o=true then Jq a b st else none)
   rw[if_pos h]
   refine .ite fun h=>?_
   unfold Jq;rw[if_pos h];exact .lst _
  |int n =>
   refine .cd fun h=>?_
   show Ag st _ (if isMul o=true then rep1 a n st else none)
   rw[if_pos h]
   induction a with
   |nil=>exact .no _
   |cons x a=>induction a with
    |nil =>
     refine .ite fun h=>?_
     show Ag st _ (if -2000<=n/\n<=2000 then _ else _)
     rw[if_pos h];exact .lst _
    |cons=>exact .no _
  |_=>exact .no _
 |_=>exact .no _
theorem Ly(b:Bi) (ds:List PV):Ag st (S3 b ds) (FT b st (ds.map .t)):=by
 induction ds with
 |nil=>exact .no _
 |cons x ds =>
  induction ds with
  |cons=>exact .no _
  |nil =>
   induction b with
   |len=>show Ag st ((AZ x).map _) (m6 (AZ x) st);cases AZ x<;>constructor
   |chr =>
    cases x with
    |int i =>
     refine .ite fun h=>?_
     show Ag st _ (if 0<=i/\i<128 then _ else _)
     rw[if_pos h];exact .t _
    |_=>exact .no _
   |isStr=>exact yx _
   |_=>exact .no _
theorem Lz(m:Mt) (x:PV){l:Gm->aB->R (List AV)}{ds:List PV}(h:l g st=ok (ds.map .t) st):Ag st (Lv m x ds) (uW (xe m st (.t x)) m (.t x) l g st):=by
 induction m with
 |index =>
  cases x with
  |lst xs =>
   show Ag st _ ((l g st).bind fun as st=>(fy st as).bind fun ds st=>mh .index .list st (.t (.lst xs)) ds)
   rw[h,af,gU,af]
   induction ds with
   |nil=>exact .no _
   |cons d ds=>induction ds with
    |cons=>exact .no _
    |nil=>cases d with
     |str s =>
      refine .ite fun h=>?_
      show Ag st _ (if m7 xs=true then _ else _)
      rw[if_pos h]
      cases idxOf (.str s) xs 0<;>constructor
     |_=>exact .no _
  |_=>exact .no _
 |_=>exact .no _
theorem EL{q:Option Pr}{r':R AV}(d:PV) (h:Ag st p r) (h':Ag st q r'):Ag st (Cc d p q) (gm (cT st (.t d)) r r'):=by
 show Ag st ((truth d).bind _) (gm (truth d) r r')
 cases truth d with
 |none=>exact .no _
 |some b=>induction b with
  |true=>exact h
  |false=>exact h'
structure LA(st:aB) (p:LR) (r:R (List AV)) (a o:R AV):Prop where
 s:∀ds,p.s=some ds->r=ok (ds.map .t) st
 a:Ag st p.a a
 o:Ag st p.o o
theorem LA.bind{p:LR}{r:R (List AV)}{a o:R AV}{f:List PV->Option Pr}{q:List AV->aB->R AV}(h:LA st p r a o) (hq:∀ds,Ag st (f ds) (q (ds.map .t) st)):Ag st (p.s.bind f) (r.bind q):=.ob fun ds e=>by rw[h.s ds e];exact hq ds
noncomputable def P1(k n:Nat) (e:E):Prop:=∀v st,Fl st->Ag st (pe (Fc (k+1)) n e v) (ev (call T (k+1)) e (Gv n v) st)
noncomputable def P2(k n:Nat) (l:List E):Prop:=∀v st,Fl st->LA st (Ye (Fc (k+1)) n l v) (gg (call T (k+1)) l (Gv n v) st) (m9 (call T (k+1)) l (Gv n v) st) (uX (call T (k+1)) l (Gv n v) st)
noncomputable def P3(k n:Nat) (o:Option E):Prop:=∀v st,Fl st->∀q,po (Fc (k+1)) n o v=some q->Qf (call T (k+1)) o (Gv n v) st=ok q st
theorem HP{x:Nat}{e:E}{d y:PV}(hs:Fl st) (z:Ag st p (ev (call T (k+1)) e (Gv n (bM v x d)) st)) (h:jb p=some y):∃st',jq x (A7 (call T (k+1)) none) (ev (call T (k+1)) e) (Gv n v) d st=some (.ok (some y,st'))/\back st.length st'=some st:=by
 rw[<-Gv.set] at z
 show ∃st',((ev (call T (k+1)) e ((Gv n v).set x (some (.t d))) st).bind fun a st=>(eU st a).bind fun d st=>ok (some d) st)=_/\_
 revert z h
 generalize ev (call T (k+1)) e ((Gv n v).set x (some (.t d))) st=r
 intro z h
 induction z with
 |no=>injection h
 |x=>injection h
 |t d=>(injection h with h;subst h);exact⟨st,rfl,hs.AE⟩
 |f d j X X' hj hf=>(injection h with h;subst h);exact⟨st++X',by rw[af,hf];rfl,hs.back X'⟩
theorem EM{x:Nat}{e:E}(hs:Fl st) (ih:P1 k n e){items:List PV}:∀ds:List PV,mY (fun it=>pe (Fc (k+1)) n e (bM v x it)) items=some ds->turns (jq x (A7 (call T (k+1)) none) (ev (call T (k+1)) e) (Gv n v)) items st=ok ds st:=by
 induction items with
 |nil=>exact fun ds h=>by(injection h with h;subst h);rfl
 |cons d items Ov =>
  intro ds h
  obtain⟨y,h1,h⟩:=Option.bind_eq_some_iff.mp (h:(jb (pe (Fc (k+1)) n e (bM v x d))).bind _=some ds)
  obtain⟨ys,h2,h⟩:=Option.bind_eq_some_iff.mp h
  injection h with h;subst h
  obtain⟨st',t1,t2⟩:=HP hs (ih (bM v x d) st hs) h1
  unfold turns
  rw[t1]
  dsimp only
  rw[t2]
  dsimp only
  rw[Ov ys h2]
  rfl
theorem AG{x:Nat}{c:Option E}{e:E}{o:Option (List PV)}(hs:Fl st) (c0:c.isNone=true) (ih:P1 k n e):Ag st (o.bind fun items=>(mY (fun it=>pe (Fc (k+1)) n e (bM v x it)) items).bind gX) (R.bind (oB o fun l=>(ok l st:R (List PV))) fun items st=>(turns (jq x (A7 (call T (k+1)) c) (ev (call T (k+1)) e) (Gv n v)) items st).bind fun l st=>alloc st (.lst l)):=by
 induction c with
 |some c=>injection c0
 |none =>
  induction o with
  |none=>exact .no _
  |some items =>
   show Ag st ((mY _ items).bind gX) (R.bind (turns _ items st) _)
   refine .ob fun ds h=>?_
   rw[EM hs ih ds h]
   exact .lst ds
theorem Ag.Yg{α:Type}{f:PV->Option Pr}{p':AV->aB->R α}{q:α->aB->R AV}(h:Ag st p r) (hq:∀d,Ag st (f d) ((p' (.t d) st).bind q)):Ag st (Mine.tb p f) ((r.bind p').bind q):=by
 induction h with
 |t d=>exact hq d
 |_=>exact .no _
theorem HQ{q:Option Int}{r:R AV}(h:Ag st p r) (hq:yw p=some q):(r.bind fun a st=>Ub a st)=ok q st:=by
 induction h with
 |t d =>
  cases d with
  |int i =>
   unfold yw at hq
   dsimp only at hq
   split at hq
   ·rename_i h;(injection hq with hq;subst hq);exact if_pos h
   ·injection hq
  |_=>injection hq
 |_=>injection hq
theorem HR(hs:Fl st) (h:Ag st p r):Ag st (uJ p) (r.bind fun a st'=>A6 false st.length a st'):=by
 induction h with
 |no=>exact .no _
 |x=>exact .x _
 |t d =>
  show Ag st (some (.t d)) (kg st.length d st)
  unfold kg
  rw[hs.AE];exact .t d
 |f d j X X' hj h =>
  show Ag st (some (.t d)) ((eU (st++X) (.r j)).bind fun d st'=>kg st.length d st')
  rw[h,af]
  unfold kg
  rw[hs.back];exact .t d
theorem HS(h:Ag st p r):Ag st (AF p) (zQ r):=by
 induction h with
 |t d=>exact .t d
 |x m=>exact .t _
 |_=>exact .no _
theorem HT{o:Option (List PV)}{q:aB->R (List AV)}{ds:List PV}(z:Ag st p r) (y:∀ds,o=some ds->q st=ok (ds.map .t) st) (h:iY p o=some ds):(r.bind fun a st=>(q st).bind fun as st=>ok (a::as) st)=ok (ds.map .t) st:=by
 induction z with
 |t d =>
  obtain⟨xs,h1,h2⟩:=Option.bind_eq_some_iff.mp h
  injection h2 with h2;subst h2
  rw[af,y xs h1];rfl
 |_=>injection h
theorem EN(k n:Nat) (e:E):P1 k n e:=E.rec (motive_1:=P1 k n) (motive_2:=P2 k n) (motive_3:=P3 k n)
 (fun _ _ _=>.t _) (fun _ _ _ _=>.t _) (fun _ _ _ _=>.t _) (fun _ _ _ _=>.t _)
 (fun i v st _=>.cd fun h=>by
  show Ag st (S0 (v i)) (A3 (Gv n v)[i]? st)
  rw[Gv.get h]
  cases v i with
  |none=>exact .no _
  |some a=>induction a<;>constructor)
 (fun _ _ _ _ _=>.no _)
 (fun e f ih v st hs=>(ih v st hs).tb fun d=>Lx f d)
 (fun o a b oq yP v st hs=>(oq v st hs).tb fun d=>(yP v st hs).tb fun e=>HO o d e)
 (fun _ _ _ _ _=>.no _)
 (fun a ih v st hs=>(ih v st hs).tb fun d=>by
  show Ag st (ji ((truth d).map _)) (FQ (truth d) st)
  cases truth d<;>constructor)
 (fun o a b oq yP v st hs=>(oq v st hs).tb fun d=>(yP v st hs).tb fun e=>yx (qC o d e))
 (fun l ih v st hs=>(ih v st hs).a) (fun l ih v st hs=>(ih v st hs).o)
 (fun c a b KD oq yP v st hs=>(KD v st hs).tb fun d=>EL d (oq v st hs) (yP v st hs))
 (fun l ih v st hs=>(ih v st hs).bind fun ds=>by unfold CI;rw[gU];exact .lst ds)
 (fun l ih v st hs=>(ih v st hs).bind fun ds=>by unfold Ju;rw[gU];exact .t _)
 (fun ks l ih v st hs=>(ih v st hs).bind fun ds=>by
  unfold CK;rw[gU]
  refine .ite fun h=>?_
  show Ag st _ (if ks.length=ds.length then _ else _)
  rw[if_pos h];exact .Qi _)
 (fun _ _ _=>.no _)
 (fun a i oq Ov v st hs=>(oq v st hs).tb fun d=>(Ov v st hs).tb fun e=>by
  show Ag st ((item d e).map _) (sQ (item d e) st)
  cases item d e<;>constructor)
 (fun a lo hi oq Aj Sg v st hs=>(oq v st hs).tb fun d=>.ob fun p h1=>.ob fun q h2=>by
  rw[Aj v st hs p (by induction lo<;>exact h1),af,Sg v st hs q (by induction hi<;>exact h2),af]
  cases d with
  |lst l=>exact .lst _
  |_=>exact .no _)
 (fun f l ih v st hs=>(ih v st hs).bind fun ds=>Pf f ds)
 (fun c f l ih v st hs=>(ih v st hs).bind fun ds=>Lw c f ds)
 (fun _ _ _ _ _ _=>.no _)
 (fun b l ih v st hs=>(ih v st hs).bind fun ds=>Ly b ds)
 (fun m a l oq Aj v st hs=>(oq v st hs).tb fun x=>.ob fun ds h=>Lz m x ((Aj v st hs).s ds h))
 (fun x s c e DR _ DS v st hs=>.cd fun h=>(DR v st hs).Yg fun d=>AG hs h DS)
 (fun x s c e DR _ DS v st hs=>.cd fun h=>.ob fun ds q=>by
  show Ag st _ (R.bind (R.bind (gg (call T (k+1)) s (Gv n v) st) _) _)
  rw[(DR v st hs).s ds q]
  exact AG hs h DS)
 (fun _ _ _ _ _ _ _ _ _ _=>.no _) (fun _ _ _ _ _ _ _=>.no _)
 (fun a ih v st hs=>HS (ih v st hs))
 (fun a ih v st hs=>HR hs (ih v st hs))
 (fun _ _ _=>⟨fun ds h=>by(injection h with h;subst h);rfl,.no _,.no _⟩)
 (fun e r DS Yh v st hs=>by
  have z:=DS v st hs
  have y:=Yh v st hs
  refine⟨fun ds h=>?_,?_,?_⟩
  ·exact HT (q:=gg (call T (k+1)) r (Gv n v)) z y.s h
  ·induction r with
   |nil=>exact z
   |cons=>exact z.tb fun d=>EL d y.a (.t d)
  ·induction r with
   |nil=>exact z
   |cons=>exact z.tb fun d=>EL d (.t d) y.o)
 (fun _ _ _ q h=>by(injection h with h;subst h);rfl)
 (fun e ih v st hs q h=>HQ (ih v st hs) h) e
end
noncomputable def HU(n:Nat) (x:Option AV):Prop:=∀i,x=some (.r i)->i<n
noncomputable def pW(n:Nat) (g:Gm):Prop:=∀x∈g,HU n x
theorem Pg(n:Nat) (d:PV):HU n (some (.t d)):=fun i e=>by cases e
theorem jn{n:Nat}{x:Option AV}(h:HU n x) (g:Gm) (st:aB):dc n (x::g) st=(dc n g st).map fun q=>(x::q.1,q.2):=by
 induction x with
 |none=>rfl
 |some a=>induction a with
  |t d=>rfl
  |r i=>simp only[dc,if_pos (h i rfl)]
theorem jU{n:Nat}{st:aB}:∀{g:Gm},pW n g->dc n g st=some (g,st)
 |[],_=>rfl
 |x::g,h=>by rw[jn (h x (.head _)),jU fun y hy=>h y (.tail _ hy)];rfl
theorem gY{n j:Nat}{d:PV}{st st':aB}(hj:¬j<n) (hf:i6 cR st (.r j)=some (d,st')):∀{g:Gm}{i:Nat},pW n g->i<g.length->dc n (g.set i (some (.r j))) st=some (g.set i (some (.t d)),st')
 |[],_,_,hi=>absurd hi (Nat.not_lt_zero _)
 |x::g,0,h,_=>by
  rw[List.set_cons_zero,List.set_cons_zero]
  simp only[dc,if_neg hj,hf,jU (fun y hy=>h y (.tail _ hy):pW n g),Option.map]
 |x::g,i+1,h,hi=>by
  rw[List.set_cons_succ,List.set_cons_succ,jn (h x (.head _)),gY hj hf (fun y hy=>h y (.tail _ hy)) (Nat.lt_of_succ_lt_succ hi)];rfl
theorem HV{n:Nat}{g:Gm}{i:Nat}{x:Option AV}(h:pW n g) (hx:HU n x):pW n (g.set i x):=fun y hy=>by
 rcases List.mem_or_eq_of_mem_set hy with h1|h1
 ·exact h y h1
 ·rw[h1];exact hx
noncomputable abbrev Gs (v:Ve):Gm:=Gv 43 v
theorem Gs.ok{v:Ve}(h:pW 3 (Gs v)) (x:Nat) (d:PV):pW 3 (Gs (bM v x d)):=by
 unfold Gs at h ⊢
 rw[<-Gv.set];exact HV h (Pg _ _)
theorem Gs.len{v:Ve}:(Gs v).length=43:=by unfold Gs Gv;rw[List.length_map,List.length_range]
noncomputable def Ph(b:Bool) (v:Ve) (x:Nat) (p:Option Pr):Option Ve:=match p with
 |some (.t d)=>some (bM v x d)
 |some (.f d)=>cond b (some (bM v x d)) none
 |_=>none
noncomputable def S4(p:Option Pr):Option Bool:=match p with| some (.t d)=>truth d|_=>none
noncomputable def px(F:Nat->List PV->Option Pr):S->Bool->Ve->Option Ve:=S.rec (motive_1:=fun _=>Bool->Ve->Option Ve) (motive_2:=fun _=>Ve->Option Ve)
 (fun x e b v=>cond (Nat.blt x 43) (Ph b v x (pe F 43 e v)) none) (fun _ _ _ _ _=>none) (fun _ _ _ _ _=>none) (fun _ _ _ _ _=>none) (fun _ _ _ _=>none) (fun _ _ _=>none)
 (fun c _ _ a b _ v=>(S4 (pe F 43 c v)).bind fun t=>cond t (a v) (b v)) (fun _ _ _ _ _ _=>none) (fun _ _ _ _ _ _=>none) (fun _ _ _=>none) (fun _ _=>none) (fun _ _ _=>none) (fun _ _=>none) (fun _ _=>none)
 (fun m _ s _ v=>cond (Nat.beq m 3) (s true v) none) (fun v=>some v) (fun _ _ s l v=>(s false v).bind l)
noncomputable def EO(F:Nat->List PV->Option Pr) (l:List S) (v:Ve):Option Ve:=px F (.ifs (.bool true) l []) false v
structure XA(st:aB) (v':Ve) (o:Option Out) (b:Bool):Prop where
 ok:pW 3 (Gs v')
 a:b=false->o=some (.next (Gs v') st)
 b:b=true->∃g st1,o=some (.next g st1)/\kc 3 st.length g st1=some (Gs v',st)
section
variable {k:Nat}{st:aB}{v v':Ve}{o:Option Out}{b:Bool}{C:fj}
theorem EP(hs:Fl st) (h:pW 3 (Gs v)):kc 3 st.length (Gs v) st=some (Gs v,st):=by
 unfold kc
 rw[jU h]
 dsimp only
 rw[hs.AE]
theorem XA.of(hs:Fl st) (h:pW 3 (Gs v)) (e:o=some (.next (Gs v) st)):XA st v o b:=⟨h,fun _=>e,fun _=>⟨_,_,e,EP hs h⟩⟩
noncomputable def Yi(k:Nat) (s:S):Prop:=∀b v st v',Fl st->3<=st.length->pW 3 (Gs v)->px (Fc (k+1)) s b v=some v'->XA st v' (ex (call T (k+1)) s (Gs v) st) b
noncomputable def UR(k:Nat) (l:List S):Prop:=∀v st v',Fl st->3<=st.length->pW 3 (Gs v)->EO (Fc (k+1)) l v=some v'->XA st v' (bO (call T (k+1)) l (Gs v) st) false
theorem Pj{x:Nat}{p:Option Pr}{r:R AV}(hs:Fl st) (h3:3<=st.length) (h:pW 3 (Gs v)) (hx:Nat.blt x 43=true) (z:Ag st p r) (e:Ph b v x p=some v'):XA st v' (r.out fun a st=>some (.next ((Gs v).set x (some a)) st)) b:=by
 induction z with
 |t d=>(injection e with e;subst e);exact .of hs (Gs.ok h x d) (congrArg (fun g=>some (Out.next g st)) Gv.set)
 |f d j X X' hj hf =>
  induction b with
  |false=>injection e
  |true =>
   injection e with e;subst e
   refine⟨Gs.ok h x d,(fun q=>nomatch q),fun _=>⟨_,_,rfl,?_⟩⟩
   unfold kc
   have S5:i6 cR (st++X) (.r j)=some (d,st++X'):=by
    unfold eU at hf
    cases q:i6 cR (st++X) (.r j) with
    |none=>rw[q] at hf;injection hf
    |some y=>obtain⟨d1,s1⟩:=y;rw[q] at hf;cases hf;rfl
   rw[gY (fun q=>Nat.not_lt.mpr (Nat.le_trans h3 hj) q) S5 h (Gs.len▸Nat.le_of_ble_eq_true hx),Gv.set]
   dsimp only
   rw[hs.back]
 |_=>injection e
theorem HW{m:Nat}(h3:3<=st.length) (hm:Nat.beq m 3=true) (hs:Fl st){f:Ks}(z:XA st v' (f (Gs v) st) true):XA st v' (qG m f (Gs v) st) b:=by
 obtain⟨g,st1,e1,e2⟩:=z.b rfl
 cases Nat.eq_of_beq_eq_true hm
 refine .of hs z.ok ?_
 unfold qG
 rw[e1]
 dsimp only
 rw[if_pos h3,e2];rfl
theorem Pk{p:Option Pr}{r:R AV}{t:Bool}{x y:Option Out}{f:aB->Bool->Option Out}(z:Ag st p r) (h:S4 p=some t):(r.out fun a st=>gm (cT st a) (f st true) (f st false))=f st t:=by
 induction z with
 |t d =>
  show gm (truth d) _ _=_
  replace h:truth d=some t:=h
  rw[h];induction t<;>rfl
 |_=>injection h
theorem Pn(k:Nat) (l:List S):UR k l:=S.rec_1 (motive_1:=Yi k) (motive_2:=UR k)
 (fun x e b v st v' hs h3 h q=>by
  replace q:cond (Nat.blt x 43) (Ph b v x (pe (Fc (k+1)) 43 e v)) none=some v':=q
  cases hx:Nat.blt x 43 with
  |false=>rw[hx] at q;injection q
  |true=>rw[hx] at q;exact Pj hs h3 h hx (EN k 43 e v st hs) q)
 (fun _ _ _ _ _ _ _ _ _ _ q=>nomatch q) (fun _ _ _ _ _ _ _ _ _ _ q=>nomatch q) (fun _ _ _ _ _ _ _ _ _ _ q=>nomatch q) (fun _ _ _ _ _ _ _ _ _ q=>nomatch q) (fun _ _ _ _ _ _ _ _ q=>nomatch q)
 (fun c a b oq yP t v st v' hs h3 h q=>by
  obtain⟨t,h1,h2⟩:=Option.bind_eq_some_iff.mp (q:(S4 (pe (Fc (k+1)) 43 c v)).bind _=some v')
  have e:=Pk (x:=none) (y:=none) (f:=fun st t=>cond t (bO (call T (k+1)) a (Gs v) st) (bO (call T (k+1)) b (Gs v) st)) (EN k 43 c v st hs) h1
  induction t with
  |true=>exact .of hs (oq v st v' hs h3 h h2).ok (e.trans ((oq v st v' hs h3 h h2).a rfl))
  |false=>exact .of hs (yP v st v' hs h3 h h2).ok (e.trans ((yP v st v' hs h3 h h2).a rfl)))
 (fun _ _ _ _ _ _ _ _ _ _ _ q=>nomatch q) (fun _ _ _ _ _ _ _ _ _ _ _ q=>nomatch q) (fun _ _ _ _ _ _ _ _ q=>nomatch q) (fun _ _ _ _ _ _ _ q=>nomatch q) (fun _ _ _ _ _ _ _ _ q=>nomatch q) (fun _ _ _ _ _ _ _ q=>nomatch q) (fun _ _ _ _ _ _ _ q=>nomatch q)
 (fun m s ih b v st v' hs h3 h q=>by
  replace q:cond (Nat.beq m 3) (px (Fc (k+1)) s true v) none=some v':=q
  cases hm:Nat.beq m 3 with
  |false=>rw[hm] at q;injection q
  |true=>rw[hm] at q;exact HW h3 hm hs (ih true v st v' hs h3 h q))
 (fun v st v' hs _ h q=>by(injection q with q;subst q);exact .of hs h rfl)
 (fun s l DR Aj v st v' hs h3 h q=>by
  obtain⟨v1,h1,h2⟩:=Option.bind_eq_some_iff.mp (q:(px (Fc (k+1)) s false v).bind (EO (Fc (k+1)) l)=some v')
  have z:=DR false v st v1 hs h3 h h1
  have y:=Aj v1 st v' hs h3 z.ok h2
  exact .of hs y.ok ((ah _ _ _ _ _).trans ((congrArg (fun o=>mE o _ l) (z.a rfl)).trans (y.a rfl)))) l
end
theorem fH(n:Nat) (s:Tx):mZ n (.str s)=true:=by cases n<;>rfl
theorem qv(n:Nat) (s:Int):mZ n (.int s)=true:=by cases n<;>rfl
theorem sC(n:Nat):mZ n .none=true:=by cases n<;>rfl
theorem nZ(n:Nat):mZ (n+1) (.aK [])=true:=rfl
theorem lT{n:Nat}{l:List PV}(h:∀d∈l,mZ n d=true):mZ (n+1) (.lst l)=true:=List.all_eq_true.mpr h
theorem lU{n:Nat}{l:List PV}(h:∀d∈l,mZ n d=true):mZ (n+1) (.tup l)=true:=List.all_eq_true.mpr h
theorem LB{a b d:PV}(h:d∈[a,b]):d=a\/d=b:=by simpa using h
theorem tE{a b c d:PV}(h:d∈[a,b,c]):d=a\/d=b\/d=c:=by simpa using h
theorem Cf{a d:PV}(h:d∈[a]):d=a:=by simpa using h
theorem yy(n:Nat) (it:It):mZ (n+2) it.view=true:=by
 match it with
 |.sym s =>
  refine lU fun d hd=>?_
  rcases LB hd with rfl|rfl<;>exact fH _ _
 |.int i =>
  refine lU fun d hd=>?_
  rcases tE hd with rfl|rfl|rfl
  ·exact fH _ _
  ·refine lT fun d hd=>?_
   rw[Cf hd];exact qv _ _
  ·exact nZ _
 |.chr s =>
  refine lU fun d hd=>?_
  rcases tE hd with rfl|rfl|rfl
  ·exact fH _ _
  ·refine lT fun d hd=>?_
   rw[Cf hd];exact fH _ _
  ·exact nZ _
 |.null=>exact fH _ _
theorem AH(n:Nat) (t:Option Tx):mZ n (aD t)=true:=by
 cases t with
 |none=>exact sC n
 |some s=>exact fH n s
theorem LC{d:PV}(h:mZ 8 d=true):Cp d=true:=by unfold Cp;rw[h];rfl
theorem lV{l:List PV}(h:∀d∈l,mZ 7 d=true):Cp (.lst l)=true:=LC (lT h)
theorem lW(s:Tx):Cp (.str s)=true:=rfl
theorem jV{l:List PV}(h:∀d∈l,Cp d=true):eqT (.tup l) (.tup l)=some true:=(if_pos ⟨rfl,List.all_eq_true.mpr h⟩ : qB _ _=some true)
theorem jW(s:Tx):eqT (.str s) (.str s)=some true:=congrArg some (decide_eq_true rfl)
theorem iM(bK:List It) (tO:List (Option Tx)):eqT (nR bK (tO.map aD)) (nR bK (tO.map aD))=some true:=by
 refine jV fun d hd=>?_
 rcases tE hd with rfl|rfl|rfl
 ·exact lW _
 ·exact lV fun d hd=>by obtain⟨it,_,rfl⟩:=List.mem_map.mp hd;exact yy 5 it
 ·exact lV fun d hd=>by obtain⟨t,_,rfl⟩:=List.mem_map.mp hd;exact AH 7 t
theorem HX(st:aB){d:PV}(h:eqT d d=some true):gh .ne st (some d) (some d)=ok (.t (.bool false)) st:=by
 show jF ((eqT d d).map (!·)) st=_
 rw[h];rfl
theorem HY(st:aB){d:PV}(h:eqT d d=some true):gh .eq st (some d) (some d)=ok (.t (.bool true)) st:=by
 show jF (eqT d d) st=_
 rw[h];rfl
structure Ct where
 k:Nat
 la:List PV
 lb:PV
 Q:Option Out->Prop
noncomputable abbrev Ct.C (c:Ct):fj:=call T (c.k+20)
noncomputable def Ct.F(c:Ct):Nat->List PV->Option Pr:=Fc (c.k+20)
noncomputable abbrev Ct.W (c:Ct) (l:List PV) (P:aB):aB:=Mine.W c.la c.lb l P
noncomputable def Fw(c:Ct) (ss:List S) (v:Ve) (l:List PV) (P:aB):Prop:=Rw l->Cl P->pW 3 (Gs v)->c.Q (bO c.C ss (Gs v) (c.W l P))
noncomputable def Bd(i:Nat):List S:=(T 83).body.drop i
noncomputable def eR(M:E):E:=.bin .mod (.call 75 [.var 1]) M
section
variable {c:Ct}{ss ss':List S}{v v':Ve}{l l':List PV}{P P':aB}{s:S}{x m:Nat}{e M a b:E}{d:PV}
theorem Cl.fl{la:List PV}{lb:PV}(h:Cl P):Fl (W la lb l P):=h
theorem W3{la:List PV}{lb:PV}:3<=(W la lb l P).length:=Nat.le_add_left 3 P.length
theorem Po(h:Cl P) (e:E):Ag (c.W l P) (pe c.F 43 e v) (ev c.C e (Gs v) (c.W l P)):=EN (c.k+19) 43 e v _ h.fl
theorem jC(h:Cl P) (q:pe c.F 43 e v=some (.t d)):ev c.C e (Gs v) (c.W l P)=ok (.t d) (c.W l P):=by
 have z:=Po (c:=c) (v:=v) (l:=l) h e
 rw[q] at z
 revert z
 generalize ev c.C e (Gs v) (c.W l P)=r
 intro z
 cases z;rfl
theorem Fw.to(h:ss=ss') (H:Fw c ss' v l P):Fw c ss v l P:=h▸H
theorem Fw.re(h:Gs v=Gs v') (H:Fw c ss v' l P):Fw c ss v l P:=by unfold Fw;rw[h];exact H
theorem Fw.next(hs:ss.take 1=[s]) (he:Rw l->Cl P->pW 3 (Gs v)->(Rw l'/\Cl P'/\pW 3 (Gs v'))/\ex c.C s (Gs v) (c.W l P)=some (.next (Gs v') (c.W l' P'))) (H:Fw c (ss.drop 1) v' l' P'):Fw c ss v l P:=fun hl hc hk=>by
 obtain⟨⟨h1,h2,h3⟩,e⟩:=he hl hc hk
 have q:bO c.C ss (Gs v) (c.W l P)=bO c.C (ss.drop 1) (Gs v') (c.W l' P'):=aN 1 (by rw[hs,ah,e];rfl) rfl
 rw[q];exact H h1 h2 h3
theorem Fw.run(n:Nat) (v':Ve) (h:EO c.F (ss.take n) v=some v') (H:Fw c (ss.drop n) v' l P):Fw c ss v l P:=fun hl hc hk=>by
 have z:=Pn (c.k+19) (ss.take n) v (c.W l P) v' hc.fl W3 hk h
 have q:bO c.C ss (Gs v) (c.W l P)=bO c.C (ss.drop n) (Gs v') (c.W l P):=aN n (z.a rfl) rfl
 rw[q];exact H hl hc z.ok
theorem Fw.set(hs:ss.take 1=[.assign x e]) (hx:Nat.blt x 43=true) (h:pe c.F 43 e v=some (.t d)) (H:Fw c (ss.drop 1) (bM v x d) l P):Fw c ss v l P:=.run 1 _ (by
 rw[hs]
 show(cond (Nat.blt x 43) (Ph false v x (pe c.F 43 e v)) none).bind _=_
 rw[hx,h];rfl) H
theorem Fw.asg(m:Nat) (f:Nat->PV) (hs:ss.take 1=[.assign x e]) (h1:v 1=some (.r 2)) (hM:pe c.F 43 M v=some (.t (.int m))) (hm:Nat.blt 0 m=true)
  (hK:∀st st' (j:Nat),Cl P->j<m->(∀{a d},pe c.F 43 a v=some (.t d)->ev c.C a (Gs v) st=ok (.t d) st)->ev c.C (eR M) (Gs v) st=ok (.t (.int j)) st'->ev c.C e (Gs v) st=ok (.t (f j)) st') (H:∀(j:Nat) l',j<m->Fw c (ss.drop 1) (bM v x (f j)) l' P):Fw c ss v l P:=fun hl hc hk=>by
 obtain⟨i,l',a1,a2,h2,e2⟩:=yt c.la c.lb l hl P hc M (Gs v) 1 ((Gv.get rfl).trans (congrArg some h1)) m (Int.ofNat_lt.mpr (Nat.le_of_ble_eq_true hm)) (c.k+19) fun l=>jC hc hM
 obtain⟨j,rfl⟩:=Int.eq_ofNat_of_zero_le a1
 have hj:=Int.ofNat_lt.mp a2
 exact Fw.next hs (fun _ _ _=>⟨⟨h2,hc,Gs.ok hk x _⟩,by rw[aC,hK _ _ j hc hj (jC hc) e2];exact congrArg (fun g=>some (Out.next g _)) Gv.set⟩) (H j l' hj) hl hc hk
theorem S6(st st':aB) (j:Nat):Cl P->j<m->(∀{a d},pe c.F 43 a v=some (.t d)->ev c.C a (Gs v) st=ok (.t d) st)->ev c.C (eR M) (Gs v) st=ok (.t (.int j)) st'->ev c.C (eR M) (Gs v) st=ok (.t (.int j)) st':=fun _ _ _ e=>e
theorem AI(st st':aB) (j:Nat):Cl P->j<m->(∀{a d},pe c.F 43 a v=some (.t d)->ev c.C a (Gs v) st=ok (.t d) st)->ev c.C (eR M) (Gs v) st=ok (.t (.int j)) st'->ev c.C (.bin .add (.int 1) (eR M)) (Gs v) st=ok (.t (.int ((j+1:Nat):Int))) st':=fun _ _ _ e=>by
 rw[b7,bg,af,e,af,aV,aV,x6,Int.add_comm];rfl
theorem k_sub{L:List PV}{f:Nat->PV}(h:pe c.F 43 a v=some (.t (.lst L))) (hf:(List.range m).map (L[·]?)=(List.range m).map fun j=>some (f j)) (st st':aB) (j:Nat):Cl P->j<m->(∀{a d},pe c.F 43 a v=some (.t d)->ev c.C a (Gs v) st=ok (.t d) st)->ev c.C (eR M) (Gs v) st=ok (.t (.int j)) st'->ev c.C (.sub a (eR M)) (Gs v) st=ok (.t (f j)) st':=fun _ hj ha e=>by
 rw[bR,ha h,af,e,af,aV,aV,fD,List.map_inj_left.mp hf j (List.mem_range.mpr hj)];rfl
theorem Fw.ix(hs:ss.take 1=[.assign 13 (.call 78 [.var 1])]) (h1:v 1=some (.r 2)) (H:∀(ix:Ix) l',ix.ok->Fw c (ss.drop 1) (bM v 13 ix.pv) l' P):Fw c ss v l P:=fun hl hc hk=>by
 obtain⟨ix,l',hx,h2,e⟩:=index c.la c.lb l hl P hc (c.k+17)
 refine Fw.next hs (fun _ _ _=>⟨⟨h2,hc,Gs.ok hk 13 _⟩,?_⟩) (H ix l' hx) hl hc hk
 have e:c.C 78 [.r 2] (c.W l P)=ok (.t ix.pv) (c.W l' P):=e
 rw[aC,bW,aq,av,Gv.get rfl,h1,ay,af,aA,af,af,e]
 exact congrArg (fun g=>some (Out.next g _)) Gv.set
theorem AJ{C:fj}{A B r:List S}{g:Gm}{st:aB}{t:Bool}(h:ev C e g st=ok (.t d) st) (ht:truth d=some t):bO C (.ifs e A B::r) g st=bO C (cond t A B++r) g st:=by
 rw[ah,aM,h,aF,nL]
 show mE (pick (truth d) C A B g st) C r=_
 rw[ht]
 induction t<;>rfl
theorem take1{s:S}(h:ss.take 1=[s]):ss=s::ss.drop 1:=(List.take_append_drop 1 ss).symm.trans (congrArg (· ++ ss.drop 1) h)
noncomputable def QA(ss:List S):List S×List S:=match ss with| s::_=>(match s with| .ifs _ a b=>(a,b)|_=>([],[]))|_=>([],[])
noncomputable def S7(t:Bool) (ss:List S):List S:=cond t (QA ss).1 (QA ss).2++ss.drop 1
theorem Fw.ifs(t:Bool) (hs:ss.take 1=[.ifs e (QA ss).1 (QA ss).2]) (h:pe c.F 43 e v=some (.t (.bool t))) (H:Fw c (S7 t ss) v l P):Fw c ss v l P:=fun hl hc hk =>
 ((congrArg (fun s=>bO c.C s (Gs v) (c.W l P)) (take1 hs)).trans (AJ (jC hc h) rfl))▸H hl hc hk
theorem Fw.LD(h:EO c.F (ss.take 1) v=some (bM v x d)) (H:Fw c (ss.drop 1) (bM v x d) l P):Fw c ss v l P:=.run 1 _ h H
theorem Fw.same{A:List S}(hs:ss.take 1=[.ifs (.cmp .ne a b) A []]) (ha:pe c.F 43 a v=some (.t d)) (hb:pe c.F 43 b v=some (.t d)) (he:eqT d d=some true) (H:Fw c (ss.drop 1) v l P):Fw c ss v l P:=fun hl hc hk=>by
 have:=H hl hc hk
 rw[take1 hs,AJ (t:=false) (d:=.bool false) (by rw[aG,jC hc ha,af,jC hc hb,af];exact HX _ he) rfl];exact this
theorem Fw.ret(hs:ss.take 1=[.ret (.cmp .eq a b)]) (ha:pe c.F 43 a v=some (.t d)) (hb:pe c.F 43 b v=some (.t d)) (he:eqT d d=some true) (hq:∀st,c.Q (some (.ret (.t (.bool true)) st))):Fw c ss v l P:=fun hl hc hk=>by
 rw[take1 hs,ah,aW,aG,jC hc ha,af,jC hc hb,af,aV,HY _ he];exact hq _
noncomputable def TQ(P:aB) (c:Ct) (I:Ve->Prop) (o:Option Out):Prop:=∃v l X,(o=some (.next (Gs v) (c.W l (P++X)))\/o=some (.cont (Gs v) (c.W l (P++X))))/\I v/\pW 3 (Gs v)/\Rw l
theorem Cg(hc:Cl P) (X:aB) (hk:pW 3 (Gs v)):settle (P.length+3) (Gs v) (c.W l (P++X))=some (Gs v,c.W l P):=by
 show kc _ _ _ _=_
 unfold kc
 rw[jU fun y hy i q=>Nat.lt_of_lt_of_le (hk y hy i q) (Nat.le_add_left 3 P.length)]
 exact congrArg (fun o=>match o with| some st=>some (Gs v,st)|none=>none) (hc.fl.back X:back (c.W l P).length (c.W l P++X)=_)
noncomputable def Ct.turn(c:Ct) (P:aB) (I:Ve->Prop):Ct:=⟨c.k,c.la,c.lb,TQ P c I⟩
theorem Fw.end{I:Ve->Prop}{X:aB}(h:I v):Fw (c.turn P I) [] v l (P++X):=fun hl _ hk=>⟨v,l,X,.inl rfl,h,hk,hl⟩
theorem Fw.S8{I:Ve->Prop}(h:I v):Fw (c.turn P I) [] v l P:=fun hl _ hk=>⟨v,l,[],.inl (by rw[List.append_nil];rfl),h,hk,hl⟩
theorem Fw.cont{I:Ve->Prop}{r:List S}(h:I v):Fw (c.turn P I) (.cont::r) v l P:=fun hl _ hk=>⟨v,l,[],.inr (by rw[List.append_nil];rfl),h,hk,hl⟩
theorem AK{I:Ve->Prop}{B:List S}(hc:Cl P){items:List PV}:(∀d∈items,∀v l,I v->Fw (c.turn P I) B (bM v x d) l P)->∀v l,I v->Rw l->pW 3 (Gs v)->∃v' l',loop (bO c.C B) x (P.length+3) items (Gs v) (c.W l P)=some (Gs v',c.W l' P)/\I v'/\pW 3 (Gs v')/\Rw l':=by
 induction items with
 |nil=>exact fun _ v l h hl hk=>⟨v,l,rfl,h,hk,hl⟩
 |cons d ds ih =>
  intro hb v l h hl hk
  obtain⟨v1,l1,X,e,h1,k1,r1⟩:=hb d (.head _) v l h hl hc (Gs.ok hk x d)
  obtain⟨v2,l2,e2,z⟩:=ih (fun d q=>hb d (.tail _ q)) v1 l1 h1 r1 k1
  have e:bO c.C B (Gs (bM v x d)) (c.W l P)=_\/bO c.C B (Gs (bM v x d)) (c.W l P)=_:=e
  rw[show Gs (bM v x d)=(Gs v).set x (some (.t d)) from Gv.set.symm] at e
  exact⟨v2,l2,(ur ⟨_,_,e,Cg hc X k1⟩).trans e2,z⟩
theorem Fw.gk{I:Ve->Prop}{B:List S}{items:List PV}(hs:ss.take 1=[.gk x e B]) (h:pe c.F 43 e v=some (.t (.lst items))) (hi:I v) (hb:∀d∈items,∀v l,I v->Fw (c.turn P I) B (bM v x d) l P) (H:∀v l,I v->Fw c (ss.drop 1) v l P):Fw c ss v l P:=fun hl hc hk=>by
 obtain⟨v',l',q,h1,k1,r1⟩:=AK hc hb v l hi hl hk
 exact Fw.next hs (fun _ _ _=>⟨⟨r1,hc,k1⟩,eL (jC hc h) rfl rfl q⟩) (H v' l' h1) hl hc hk
theorem Fw.forR{I:Ve->Prop}{B:List S}(m:Nat) (hs:ss.take 1=[.forR x [.bin .add (.int 1) (eR (.int m))] B]) (h1:v 1=some (.r 2)) (hm:Nat.blt 0 m=true) (Ms:Nat.ble m 2000=true) (hi:I v) (hb:∀d v l,I v->Fw (c.turn P I) B (bM v x d) l P) (H:∀v l,I v->Fw c (ss.drop 1) v l P):Fw c ss v l P:=fun hl hc hk=>by
 obtain⟨i,l1,a1,a2,h2,e2⟩:=d9 c.la c.lb l hl P hc (Gs v) 1 ((Gv.get rfl).trans (congrArg some h1)) m (Int.ofNat_lt.mpr (Nat.le_of_ble_eq_true hm)) (c.k+19)
 obtain⟨j,rfl⟩:=Int.eq_ofNat_of_zero_le a1
 obtain⟨v',l',q,h3,k1,r1⟩:=AK hc (items:=(List.range (j+1)).map fun(k:Nat)=>PV.int k) (fun d _=>hb d) v l1 hi h2 hk
 have e:=AI (c:=c) (v:=v) (M:=.int m) (P:=P) (m:=m) _ _ j hc (Int.ofNat_lt.mp a2) (jC hc) e2
 exact Fw.next hs (fun _ _ _=>⟨⟨r1,hc,k1⟩,kU (st1:=c.W l1 P) (by rw[aq,e,af,aA,af]) (nM (Nat.le_trans (Int.ofNat_lt.mp a2) (Nat.le_of_ble_eq_true Ms))) q⟩) (H v' l' h3) hl hc hk
end
noncomputable def US:Except Tx PV->Pr
 |.ok d=>.t d
 |.error m=>.x m
noncomputable def Pp:Except Tx PV->PV
 |.ok d=>d
 |.error m=>.str m
noncomputable def n5(F:Nat->List PV->Option Pr) (p:Option Pr):Option Pr:=(iY (AF p) (some [])).bind (F 81)
section
variable {c:Ct}{F:Nat->List PV->Option Pr}{v:Ve}
theorem jc{f:Nat}{ds:List PV}{d:PV}(hr:(T f).ref=false) (h:call T (c.k+20) f (ds.map AV.t) []=ok (.t d) []):c.F f ds=some (.t d):=by
 unfold Ct.F Fc
 rw[hr,h];rfl
theorem n6{f:Nat}{ds:List PV}{D:Except Tx PV}(hr:(T f).ref=false) (h:call T (c.k+20) f (ds.map AV.t) []=resT D []):c.F f ds=some (US D):=by
 unfold Ct.F Fc
 rw[hr,h];induction D<;>rfl
theorem told{f:Nat}{ds:List PV}{D:Except Tx PV}(h:F f ds=some (US D)):n5 F (F f ds)=F 81 [Pp D]:=by rw[h];induction D<;>rfl
theorem sD{α:Type}{f:PV->Option Pr}{enc g:α->PV}(h:∀a,jb (f (enc a))=some (g a)):∀L:List α,mY f (L.map enc)=some (L.map g)
 |[]=>rfl
 |a::L=>by
  rw[List.map_cons,List.map_cons,mY,h a,sD h L];rfl
theorem jX{α:Type}{x:Nat}{src e:E}{L:List α}{enc:α->PV}(g:α->PV) (hs:pe F 43 src v=some (.t (.lst (L.map enc)))) (h:∀a,jb (pe F 43 e (bM v x (enc a)))=some (g a)):pe F 43 (.comp x src none e) v=some (.f (.lst (L.map g))):=by
 show Mine.tb (pe F 43 src v) (fun d=>(mj d).bind fun items=>(mY (fun it=>pe F 43 e (bM v x it)) items).bind gX)=_
 rw[hs]
 show(mY (fun it=>pe F 43 e (bM v x it)) (L.map enc)).bind gX=_
 rw[sD h];rfl
theorem ER{x:Nat}{a e:E}{n:Nat}(g:Nat->PV) (hn:n<=2000) (hs:pe F 43 a v=some (.t (.int n))) (h:∀i:Nat,jb (pe F 43 e (bM v x (.int i)))=some (g i)):pe F 43 (.cM x [a] none e) v=some (.f (.lst ((List.range n).map g))):=by
 show(iY (pe F 43 a v) (some [])).bind (fun ds=>(sM (ds.map AV.t)).bind fun items=>(mY (fun it=>pe F 43 e (bM v x it)) items).bind gX)=_
 rw[hs]
 show(sM [.t (.int n)]).bind (fun items=>(mY (fun it=>pe F 43 e (bM v x it)) items).bind gX)=_
 rw[nM hn]
 show(mY (fun it=>pe F 43 e (bM v x it)) ((List.range n).map fun(k:Nat)=>PV.int k)).bind gX=_
 rw[sD (enc:=fun(k:Nat)=>PV.int k) h];rfl
noncomputable def Yj(o:Cm) (p q a b:Option Pr):Option Pr:=tb (tb (tb p fun d=>tb (some (.t .none)) fun e=>ji (qC .ee d e)) fun d=>Cc d (tb p fun d=>tb q fun e=>ji (qC o d e)) (some (.t d))) fun d=>Cc d a b
noncomputable def Jd(o:Cm) (x y a b:E):E:=.ite (.and [.cmp .ee x .none,.cmp o x y]) a b
theorem Pq(o:Cm) (x y a b:E):pe F 43 (Jd o x y a b) v=Yj o (pe F 43 x v) (pe F 43 y v) (pe F 43 a v) (pe F 43 b v):=rfl
theorem uL{x n:Nat}{y a b:E}{L:List PV}{dv:PV}(o:Cm) (ho:∀i:Nat,AY o i n=decide (i<L.length)) (hc:∀i:Nat,qC o (.int i) (.int n)=some (AY o i n)) (h0:∀it,pe F 43 (.var x) (bM v x it)=some (.t it)) (h1:∀it,pe F 43 y (bM v x it)=some (.t (.int n)))
  (h2:∀i:Nat,i<L.length->jb (pe F 43 a (bM v x (.int i)))=L[i]?) (h3:∀it,jb (pe F 43 b (bM v x it))=some dv) (p:Option Nat):jb (pe F 43 (Jd o (.var x) y a b) (bM v x (cF p)))=some (aT L dv p):=by
 rw[Pq,h0,h1]
 induction p with
 |none=>exact h3 _
 |some i =>
  show jb (tb (Cc (.bool true) (ji (qC o (.int i) (.int n))) _) fun d=>Cc d _ _)=_
  rw[hc,ho]
  by_cases h:i<L.length
  ·rw[decide_eq_true h,wh L dv h,<-List.getElem?_eq_getElem h,<-h2 i h];rfl
  ·rw[decide_eq_false h,rT L dv (Nat.le_of_not_lt h),<-h3 (cF (some i))];rfl
theorem AL(n:Nat) (i:Nat):AY .lt i n=decide (i<n):=decide_eq_decide.mpr Int.ofNat_lt
end
section
variable {c:Ct}{ss:List S}{v:Ve}{l:List PV}{P:aB}{x:Nat}{e:E}{d:PV}
theorem Fw.wK(hs:ss.take 1=[.cut 3 (.assign x e)]) (hx:Nat.blt x 43=true) (h:jb (pe c.F 43 e v)=some d) (H:Fw c (ss.drop 1) (bM v x d) l P):Fw c ss v l P:=.run 1 _ (by
 rw[hs]
 show(cond (Nat.blt x 43) (Ph true v x (pe c.F 43 e v)) none).bind _=_
 rw[hx]
 revert h
 generalize pe c.F 43 e v=p
 intro h
 induction p with
 |none=>injection h
 |some p=>cases p<;>cases h<;>rfl) H
theorem AM{α:Type}{a:E}{n:Nat}(Pr:α->Prop) (enc:α->PV) (hl:Rw l) (hc:Cl P) (hn:n<=2000) (h:pe c.F 43 a v=some (.t (.int n)))
  (ht:∀d l,Rw l->∃y l',Pr y/\Rw l'/\ev c.C e (Gs (bM v x d)) (c.W l P)=ok (.t (enc y)) (c.W l' P)) :
  ∃(as:List α) (l':List PV),as.length=n/\(∀y∈as,Pr y)/\Rw l'/\ev c.C (.cM x [a] none e) (Gs v) (c.W l P)=ok (.r (P.length+3)) (c.W l' P++[.lst (as.map enc)]):=by
 obtain⟨as,l',h1,h2,h3,h4⟩:=gG (f:=dJ c.C x none e (Gs v)) Pr enc c.la c.lb P (fun d l hl=>by
  obtain⟨y,l',q1,q2,q3⟩:=ht d l hl
  refine⟨y,l',c.W l' P,q1,q2,?_,hc.fl.AE⟩
  unfold dJ
  rw[j6,af,if_pos rfl,show(Gs v).set x (some (.t d))=Gs (bM v x d) from Gv.set,q3];rfl) ((List.range n).map fun(k:Nat)=>PV.int k) l hl
 refine⟨as,l',h1.trans (by rw[List.length_map,List.length_range]),h2,h3,?_⟩
 rw[gW (st1:=c.W l P) (as:=[.t (.int n)]) (by rw[aq,jC hc h,af,aA,af]) (nM hn) h4,bS];rfl
theorem Fw.Pu(hs:ss.take 1=[.cut 3 (.assign x e)]) (hx:Nat.blt x 43=true) (he:Rw l->Cl P->∃l' L,Rw l'/\ev c.C e (Gs v) (c.W l P)=ok (.r (P.length+3)) (c.W l' P++[.lst L])/\Fw c (ss.drop 1) (bM v x (.lst L)) l' P):Fw c ss v l P:=fun hl hc hk=>by
 obtain⟨l',L,h1,h2,H⟩:=he hl hc
 refine Fw.next hs (fun _ _ _=>⟨⟨h1,hc,Gs.ok hk x _⟩,?_⟩) H hl hc hk
 have e1:ex c.C (.assign x e) (Gs v) (c.W l P)=some (.next ((Gs v).set x (some (.r (P.length+3)))) (c.W l' P++[.lst L])):=by rw[aC,h2];rfl
 have hf:i6 cR (c.W l' P++[.lst L]) (.r (P.length+3))=some (.lst L,c.W l' P++[.fz (.lst L)]):=by
  have:=iH (c.W l' P) (.lst L) []
  have q:=iI (c.W l' P) (.lst L) (.fz (.lst L)) []
  simp only[cR,i6,show P.length+3=(c.W l' P).length from rfl,this,q]
 show qG 3 (ex c.C (.assign x e)) (Gs v) (c.W l P)=_
 unfold qG
 rw[e1]
 dsimp only
 rw[if_pos W3]
 unfold kc
 rw[gY (fun q=>Nat.not_lt.mpr (Nat.le_add_left 3 P.length) q) hf hk (Gs.len▸Nat.le_of_ble_eq_true hx),Gv.set]
 dsimp only
 rw[show(c.W l P).length=(c.W l' P).length from rfl,hc.fl.back];rfl
theorem Gs.bM{v w:Ve}(h:Gs v=Gs w) (x:Nat) (d:PV):Gs (bM v x d)=Gs (Mine.bM w x d):=Gv.set.symm.trans ((congrArg (fun g=>List.set g x (some (.t d))) h).trans Gv.set)
end
noncomputable def up1(u:Ve):Ve:=fun j=>cond (Nat.beq j 1) (some (.r 2)) (u j)
noncomputable def vA(m:Nat) (u:Ve):Ve:=bM (up1 u) 2 (.int (m:Nat))
noncomputable def HZ(m:Nat):List PV:=(aO m).map It.pv
noncomputable def ES(ts:List (Option Tx)):PV:=.lst ((none::ts).map eO)
noncomputable def UT(ts:List (Option Tx)):PV:=.lst ((none::ts).map aD)
noncomputable def LG(m:Nat) (ts:List (Option Tx)):PV:=nR (aO m) ((none::ts).map aD)
noncomputable def V(m:Nat) (ts:List (Option Tx)) (u:Ve):Ve:=bM (bM (bM (bM (bM (vA m u) 4 (UT ts)) 7 (lZ m (none::ts))) 8 (LG m ts)) 9 (.int ((m+1:Nat):Int))) 11 (ES ts)
theorem i0{v:Ve}{i x:Nat}{a d:PV}(h:Nat.beq x i=false):bM (bM v i a) x d=bM (bM v x d) i a:=funext fun j=>by
 unfold bM
 cases hx:Nat.beq j x with
 |false=>rfl
 |true=>rw[Nat.eq_of_beq_eq_true hx,h];rfl
theorem yz{v:Ve}{x:Nat}{d:PV}(h:Nat.beq x 1=false):bM (up1 v) x d=up1 (bM v x d):=funext fun j=>by
 show cond (Nat.beq j x) _ (cond (Nat.beq j 1) _ (v j))=cond (Nat.beq j 1) _ (cond (Nat.beq j x) _ (v j))
 cases hx:Nat.beq j x with
 |false=>rfl
 |true=>rw[Nat.eq_of_beq_eq_true hx,h];rfl
noncomputable def IV(m:Nat) (ts:List (Option Tx)) (v:Ve):Prop:=∃u,Gs v=Gs (V m ts u)
theorem IV.set{m x:Nat}{ts:List (Option Tx)}{v:Ve}(h:IV m ts v) (d:PV) (hx:[1,2,4,7,8,9,11].map (Nat.beq x)=[false,false,false,false,false,false,false]):IV m ts (bM v x d):=by
 obtain⟨u,e⟩:=h
 simp only[List.map_cons,List.cons.injEq] at hx
 obtain⟨h1,h2,h4,h7,h8,h9,Iw,_⟩:=hx
 refine⟨bM u x d,(Gs.bM e x d).trans (congrArg Gs ?_)⟩
 unfold V vA
 rw[i0 Iw,i0 h9,i0 h8,i0 h7,i0 h4,i0 h2,yz h1]
noncomputable def LH:List (Option Tx):=[none,some pO,some pP,some jK]
theorem LJ{ts:List (Option Tx)}(h:∀a∈ts,a∈LH) (hl:ts.length<5):jQ (none::ts):=⟨Nat.lt_trans (Nat.succ_lt_succ hl) (by decide),fun s hs=>by
 cases hs with
 |tail _ hs=>exact(by decide:∀a∈LH,∀s,a=some s->s≠[]/\s≠b9) _ (h _ hs) s rfl⟩
noncomputable def e4:E:=.bin .add (.pure (.list [.none])) (.pure (.cM 3 [.var 2] none (.sub (.pure (.list [.none,.str pO,.str pP,.str jK])) (eR (.int 4)))))
noncomputable def e6:E:=.bin .add (.pure (.list [.pure (.new .symbol 4 [.str Sk])])) (.pure (.cM 5 [.var 2] none (.ite (.cmp .ne (.var 5) (.int 2)) (.pure (.new .aJ 2 [.str aa,.pure (.list [.var 5])])) (.pure (.new .symbol 4 [.str Sl])))))
noncomputable def Yk:E:=.comp 10 (.var 4) none (.ite (.cmp .is (.var 10) .none) (.str []) (.var 10))
theorem Yl{F:Nat->List PV->Option Pr}(m:Nat) (hm:m<5) (u:Ve) (t:PV):jb (pe F 43 e6 (bM (vA m u) 4 t))=some (.lst (HZ m)):=by
 match m,hm with
 |0,_=>kernel_rfl
 |1,_=>kernel_rfl
 |2,_=>kernel_rfl
 |3,_=>kernel_rfl
 |4,_=>kernel_rfl
section
variable {c:Ct}{l:List PV}
theorem Mq(m:Nat) (hm:m<5) (u:Ve) (hl:Rw l):∃(ts:List (Option Tx)) (l':List PV),ts.length=m/\jQ (none::ts)/\Rw l'/\ev c.C e4 (Gs (vA m u)) (c.W l [])=ok (.r 3) (c.W l' []++[.lst ((none::ts).map aD)]):=by
 obtain⟨ts,l',h1,h2,h3,h4⟩:=AM (c:=c) (v:=vA m u) (a:=.var 2) (x:=3) (e:=.sub (.pure (.list [.none,.str pO,.str pP,.str jK])) (eR (.int 4))) (· ∈ LH) aD hl (P:=[]) rfl (n:=m) (by omega) rfl fun d l hl=>by
  obtain⟨i,l',a1,a2,r,e⟩:=d9 c.la c.lb l hl [] rfl (Gs (bM (vA m u) 3 d)) 1 rfl 4 (by decide) (c.k+19)
  obtain⟨j,rfl⟩:=Int.eq_ofNat_of_zero_le a1
  have hj:j<4:=Int.ofNat_lt.mp a2
  have q:=k_sub (c:=c) (v:=bM (vA m u) 3 d) (M:=.int 4) (a:=.pure (.list [.none,.str pO,.str pP,.str jK])) (P:=[]) (L:=LH.map aD) (f:=fun j=>aD (LH.getD j none)) rfl rfl (c.W l []) (c.W l' []) j rfl hj (jC rfl) e
  exact⟨LH.getD j none,l',List.getD_eq_getElem?_getD▸(by rw[List.getElem?_eq_getElem (show j<LH.length from hj)];exact List.getElem_mem _),r,q⟩
 refine⟨ts,l',h1,LJ h2 (h1▸hm),h3,?_⟩
 unfold e4
 have hp:ev c.C (.pure (.cM 3 [.var 2] none (.sub (.pure (.list [.none,.str pO,.str pP,.str jK])) (eR (.int 4))))) (Gs (vA m u)) (c.W l [])=ok (.t (.lst (ts.map aD))) (c.W l' []):=by
  show R.bind (ev c.C (.cM 3 _ none _) (Gs (vA m u)) (c.W l [])) _=_
  rw[h4];rfl
 rw[b7,jC (P:=[]) (d:=.lst [.none]) rfl rfl,af,hp,af]
 show(if[PV.none].length+(ts.map aD).length<=lim then alloc _ (.lst ([PV.none]++ts.map aD)) else none)=_
 rw[if_pos (by rw[List.length_map,h1];exact Nat.le_trans (Nat.add_le_add_left (Nat.le_of_lt hm) 1) (by decide))];rfl
theorem S9(v:Ve) (hv:∀m,Gs (bM v 2 (.int (m:Nat)))=Gs (vA m v)) (h1:v 1=some (.r 2)) (H:∀m ts u l,m<5->ts.length=m->jQ (none::ts)->Fw c (Bd 8) (V m ts u) l []):Fw c (Bd 1) v l []:=by
 refine .asg (x:=2) (M:=.int 5) 5 (fun j=>.int j) (by kernel_rfl) h1 rfl rfl S6 fun m l hm=>?_
 refine .re (hv m) (.Pu (e:=e4) (x:=4) (by kernel_rfl) rfl fun hl hc=>?_)
 obtain⟨ts,l1,q1,q2,q3,q4⟩:=Mq m hm v hl
 refine⟨l1,_,q3,q4,.wK (x:=6) (e:=e6) (by kernel_rfl) rfl (Yl m hm v _) ?_⟩
 refine .wK (x:=7) (e:=.new .call 5 [.var 6,.var 4]) (d:=lZ m (none::ts)) (by kernel_rfl) rfl (by kernel_rfl) ?_
 refine .set (x:=8) (e:=.call 81 [.var 7]) (d:=LG m ts) (by kernel_rfl) rfl ((by kernel_rfl:_=c.F 81 [lZ m (none::ts)]).trans (jc rfl (gE (c.k+17) (aO m) ((none::ts).map aD) []))) ?_
 refine .set (x:=9) (e:=.bi .len [.var 6]) (d:=.int ((m+1:Nat):Int)) (by kernel_rfl) rfl ((by kernel_rfl:_=some (Pr.t (.int ((HZ m).length:Nat)))).trans (by unfold HZ;rw[List.length_map,fZ m hm])) ?_
 refine .wK (x:=11) (e:=Yk) (d:=ES ts) (by kernel_rfl) rfl (congrArg jb (jX (L:=none::ts) (enc:=aD) eO (by kernel_rfl) fun a=>by induction a<;>kernel_rfl)) ?_
 exact .to (ss':=Bd 8) (by kernel_rfl) (.re (v':=V m ts (bM v 6 (.lst (HZ m)))) (by kernel_rfl) (H m ts _ l1 hm q1 q2))
end
noncomputable def QB(bK:List It) (p:Option Nat):It:=(p.bind (bK[·]?)).getD .null
theorem ET{α:Type}(f:α->PV) (L:List α) (d:α) (p:Option Nat):aT (L.map f) (f d) p=f ((p.bind (L[·]?)).getD d):=by
 unfold aT
 induction p with
 |none=>rfl
 |some i=>simp only[Option.bind];rw[List.getElem?_map];cases L[i]?<;>rfl
noncomputable def pX(bK:List It) (tO:List (Option Tx)) (pl:List (Option Nat)):PV:=if pl.length=0 then .str bq else nR (pl.map (QB bK)) ((pl.map fun p=>(p.bind (tO[·]?)).getD none).map aD)
theorem jD{α:Type}(f:α->PV) (L:List α) (d:α) (pl:List (Option Nat)):pl.map (aT (L.map f) (f d))=(pl.map fun p=>(p.bind (L[·]?)).getD d).map f:=by
 rw[List.map_map];exact List.map_congr_left fun p _=>ET f L d p
theorem Ci(k:Nat) (bK:List It) (tO:List (Option Tx)) (pl:List (Option Nat)) (st:aB):call T (k+3) 81 [.t (yl bK tO pl)] st=ok (.t (pX bK tO pl)) st:=by
 unfold yl pX
 by_cases h:pl.length=0
 ·rw[if_pos h,if_pos h];exact nQ (k+1) .null st
 ·rw[if_neg h,if_neg h,show cU=It.pv .null from rfl,show PV.none=aD none from rfl,jD It.pv bK .null,jD aD tO none]
  exact gE k _ _ st
theorem EU(bK:List It) (tO:List (Option Tx)) (pl:List (Option Nat)):eqT (pX bK tO pl) (pX bK tO pl)=some true:=by
 unfold pX
 by_cases h:pl.length=0
 ·rw[if_pos h];exact jW _
 ·rw[if_neg h];exact iM _ _
noncomputable def e9(ix:Ix):Bool:=match ix with| .missing=>true|_=>false
theorem qw{ix:Ix}(h:e9 ix=false):ix≠.missing:=fun e=>by subst e;injection h
theorem jY{ix:Ix}(h:e9 ix=true):ix=.missing:=by cases ix<;>first| rfl|injection h
section
variable {c:Ct}{F:Nat->List PV->Option Pr}{v u:Ve}{l:List PV}{m:Nat}{ts:List (Option Tx)}{x y t:PV}{ix:Ix}
theorem AN(v:Ve):pe F 43 (.cmp .eq (.attr (.var 13) aj) (.str bF)) (bM (bM (bM v 13 ix.pv) 14 x) 15 y)=some (.t (.bool (e9 ix))):=by induction ix<;>kernel_rfl
theorem Tc(n:Nat) (hn:n<1000) (o:Option (List (Option Tx))) (hx:ix.ok):c.F 80 [ix.pv,.int n,fJ o,.bool false]=some (.t (jB (iE n o ix))):=jc rfl ((Hz (c.k+18) ix hx n hn o []).trans (by cases iE n o ix<;>rfl))
noncomputable def Je(m:Nat) (ts:List (Option Tx)) (D:Except Tx (List (Option Nat))):PV:=match D with| .error e=>.str e|.ok pl=>pX (aO m) (none::ts) pl
noncomputable def uM(m:Nat) (ts:List (Option Tx)) (ix:Ix) (D:Except Tx (List (Option Nat))):PV:=cond (e9 ix) (LG m ts) (Je m ts D)
noncomputable def D8(m:Nat) (ts:List (Option Tx)) (ix:Ix):Except Tx (List (Option Nat)):=iE (m+1) (some ((none::ts).map r9)) ix
theorem LK(hm:m<5) (ht:jQ (none::ts)) (hx:ix.ok):n5 c.F (c.F 43 [lZ m (none::ts),.lst [ix.pv],.bool true,.bool true])=some (.t (uM m ts ix (D8 m ts ix))):=by
 cases hi:e9 ix with
 |true =>
  cases jY hi
  exact(told (n6 (D:=.ok (lZ m (none::ts))) rfl (tn (c.k+12) (aO m) (none::ts) []))).trans (jc rfl (gE (c.k+17) (aO m) ((none::ts).map aD) []))
 |false =>
  have h:=Eu (c.k+12) (aO m) (by rw[fZ m hm];omega) (none::ts) ht ix hx (qw hi) []
  rw[fZ m hm] at h
  refine(told (n6 rfl h)).trans (jc rfl ?_)
  unfold uM D8
  rw[hi]
  cases iE (m+1) (some ((none::ts).map r9)) ix with
  |error e=>exact kY (c.k+18) e _
  |ok pl=>exact Ci (c.k+17) (aO m) (none::ts) pl _
noncomputable def b8:List S:=bodyOf (T 83).body 8
noncomputable def Ym:E:=.call 81 [.kept (.call 43 [.var 7,.pure (.list [.var 13]),.bool true,.bool true])]
noncomputable def UU:E:=.comp 17 (.sub (.var 14) (.int 0)) none (Jd .lt (.var 17) (.var 9) (.sub (.sub (.var 8) (.int 1)) (.var 17)) (.str bq))
noncomputable def Td:E:=.comp 19 (.sub (.var 14) (.int 0)) none (Jd .lt (.var 19) (.var 9) (.sub (.var 4) (.var 19)) .none)
noncomputable def vB(m:Nat) (ts:List (Option Tx)) (u:Ve) (a b d:PV):Ve:=bM (bM (bM (V m ts u) 13 a) 14 b) 15 d
theorem Te{pl:List (Option Nat)}(hm:m<5):pe F 43 UU (vB m ts u x (jB (.ok pl)) y)=some (.f (.lst ((pl.map (QB (aO m))).map It.view))):=by
 have hl:((aO m).map It.view).length=m+1:=by rw[List.length_map,fZ m hm]
 have z:=jX (F:=F) (v:=vB m ts u x (jB (.ok pl)) y) (x:=17) (src:=.sub (.var 14) (.int 0)) (L:=pl) (enc:=cF) (aT ((aO m).map It.view) (.str bq)) (by kernel_rfl) (uL (n:=m+1) (y:=.var 9) (a:=.sub (.sub (.var 8) (.int 1)) (.var 17)) (b:=.str bq) .lt (fun i=>hl.symm▸AL (m+1) i) (fun i=>rfl) (fun it=>rfl) (fun it=>by kernel_rfl) (fun i _=>(by kernel_rfl:_=jb ((((aO m).map It.view)[i]?).map Pr.t)).trans (by cases((aO m).map It.view)[i]?<;>rfl)) fun it=>rfl)
 rw[show PV.str bq=It.view .null from rfl,jD It.view (aO m) .null] at z
 exact z
theorem Tf{pl:List (Option Nat)}(hl:ts.length=m) (w:PV):pe F 43 Td (bM (vB m ts u x (jB (.ok pl)) y) 18 w)=some (.f (.lst ((pl.map fun p=>(p.bind ((none::ts)[·]?)).getD none).map aD))):=by
 have hl:((none::ts).map aD).length=m+1:=by rw[List.length_map,List.length_cons,hl]
 have z:=jX (F:=F) (v:=bM (vB m ts u x (jB (.ok pl)) y) 18 w) (x:=19) (src:=.sub (.var 14) (.int 0)) (L:=pl) (enc:=cF) (aT ((none::ts).map aD) .none) (by kernel_rfl) (uL (n:=m+1) (y:=.var 9) (a:=.sub (.var 4) (.var 19)) (b:=.none) .lt (fun i=>hl.symm▸AL (m+1) i) (fun i=>rfl) (fun it=>rfl) (fun it=>by kernel_rfl) (fun i _=>(by kernel_rfl:_=jb ((((none::ts).map aD)[i]?).map Pr.t)).trans (by cases((none::ts).map aD)[i]?<;>rfl)) fun it=>rfl)
 rw[show PV.none=aD none from rfl,jD aD (none::ts) none] at z
 exact z
theorem IV.base(u:Ve):IV m ts (V m ts u):=⟨u,rfl⟩
theorem QC(u:Ve) (a b d:PV):IV m ts (vB m ts u a b d):=(((IV.base u).set a rfl).set b rfl).set d rfl
noncomputable def tupP(q:Option Pr) (d:PV):Option Pr:=(iY (some (.t (.str aI))) (iY (some (.t d)) (iY (uJ q) (some [])))).bind fun ds=>some (.t (.tup ds))
noncomputable def Pw:E:=.tup [.str aI,.var 18,.pure Td]
theorem LL(w:Ve) (d:PV):pe F 43 Pw (bM w 18 d)=tupP (pe F 43 Td (bM w 18 d)) d:=by kernel_rfl
theorem LM{pl:List (Option Nat)}:pe F 43 (.cmp .eq (.sub (.var 14) (.int 0)) (.pure (.list []))) (vB m ts u x (jB (.ok pl)) y)=some (.t (.bool (decide (pl.length=0)))) :=
 (by kernel_rfl:_=ji (eqT (.lst (pl.map cF)) (.lst []))).trans (by rw[wc,List.length_map];rfl)
theorem H6{ss:List S}{w:Ve}{tv:PV}(hs:ss=[.ifs (.cmp .ne (.var 15) (.var 16)) [.bad] []]) (h:IV m ts w) (Yn:pe (c.turn [] (IV m ts)).F 43 (.var 15) w=some (.t tv)) (Yo:pe (c.turn [] (IV m ts)).F 43 (.var 16) w=some (.t tv)) (he:eqT tv tv=some true):Fw (c.turn [] (IV m ts)) ss w l []:=by
 subst hs
 exact .same rfl Yn Yo he (.S8 h)
theorem Px(hm:m<5) (hl:ts.length=m) (D:Except Tx (List (Option Nat))) (hD:e9 ix=true->D=.ok ((List.range (m+1)).map some)):Fw (c.turn [] (IV m ts)) (b8.drop 3) (vB m ts u ix.pv (jB D) (uM m ts ix D)) l []:=by
 cases hi:e9 ix with
 |true =>
  cases jY hi
  cases hD rfl
  refine .ifs (e:=.bi .isStr [.var 14]) false (by kernel_rfl) (by kernel_rfl) (.ifs true (by kernel_rfl) (AN _) (.LD (x:=16) (d:=LG m ts) (by kernel_rfl) (H6 (tv:=LG m ts) (by kernel_rfl) ((QC u _ _ _).set _ rfl) (by kernel_rfl) (by kernel_rfl) (iM _ _))))
 |false =>
  have ht:uM m ts ix D=Je m ts D:=by unfold uM;rw[hi];rfl
  rw[ht]
  induction D with
  |error e=>exact .ifs (e:=.bi .isStr [.var 14]) true (by kernel_rfl) (by kernel_rfl) (.LD (x:=16) (d:=.str e) (by kernel_rfl) (H6 (tv:=.str e) (by kernel_rfl) ((QC u _ _ _).set _ rfl) (by kernel_rfl) (by kernel_rfl) (jW e)))
  |ok pl =>
   have he:=EU (aO m) (none::ts) pl
   refine .ifs (e:=.bi .isStr [.var 14]) false (by kernel_rfl) (by kernel_rfl) (.ifs false (by kernel_rfl) ((AN _).trans (by rw[hi])) (.ifs (decide (pl.length=0)) (by kernel_rfl) LM ?_))
   revert he
   show _->Fw _ _ (vB m ts u ix.pv (jB (.ok pl)) (pX (aO m) (none::ts) pl)) _ _
   generalize hp:pX (aO m) (none::ts) pl=tv
   intro he
   by_cases h0:pl.length=0
   ·rw[decide_eq_true h0]
    obtain rfl:.str bq=tv:=by rw[<-hp];exact(if_pos h0).symm
    exact .LD (x:=16) (d:=.str bq) (by kernel_rfl) (H6 (by kernel_rfl) ((QC u _ _ _).set _ rfl) (by kernel_rfl) (by kernel_rfl) he)
   ·rw[decide_eq_false h0]
    refine .wK (x:=18) (e:=UU) (by kernel_rfl) rfl (congrArg jb (Te hm)) (.set (x:=16) (e:=Pw) (d:=tv) (by kernel_rfl) rfl ((LL _ _).trans ?_) (H6 (by kernel_rfl) (((QC u _ _ _).set _ rfl).set _ rfl) (by kernel_rfl) (by kernel_rfl) he))
    rw[Tf hl,<-hp]
    exact congrArg (fun d=>some (Pr.t d)) (if_neg h0).symm
theorem Py(hm:m<5) (hl:ts.length=m) (ht:jQ (none::ts)) (h:IV m ts v) (d:PV):Fw (c.turn [] (IV m ts)) b8 (bM v 12 d) l []:=by
 obtain⟨u,hu⟩:=h
 refine .re ((Gs.bM hu 12 d).trans (by kernel_rfl:_=Gs (V m ts (bM u 12 d)))) ?_
 generalize bM u 12 d=u
 refine .ix (by kernel_rfl) (by kernel_rfl) fun ix l hx=>?_
 refine .set (x:=14) (e:=.call 80 [.var 13,.var 9,.var 11,.bool false]) (d:=jB (D8 m ts ix)) (by kernel_rfl) rfl ((by kernel_rfl:_=(c.turn [] (IV m ts)).F 80 [ix.pv,.int (m+1:Nat),ES ts,.bool false]).trans ?_) ?_
 ·have:=Tc (c:=c.turn [] (IV m ts)) (m+1) (by omega) (some ((none::ts).map r9)) hx
  rwa [show fJ (some ((none::ts).map r9))=ES ts from(congrArg PV.lst (zJ _)).symm] at this
 refine .set (x:=15) (e:=Ym) (d:=uM m ts ix (D8 m ts ix)) (by kernel_rfl) rfl ((by kernel_rfl:_=n5 (c.turn [] (IV m ts)).F ((c.turn [] (IV m ts)).F 43 [lZ m (none::ts),.lst [ix.pv],.bool true,.bool true])).trans (LK hm ht hx)) ?_
 exact .to (ss':=b8.drop 3) (by kernel_rfl) (Px hm hl _ fun hi=>by cases jY hi;rfl)
theorem Tg(hm:m<5) (hl:ts.length=m) (ht:jQ (none::ts)) (H:∀u l,Fw c (Bd 9) (V m ts u) l []):Fw c (Bd 8) (V m ts u) l [] :=
 .forR (x:=12) (I:=IV m ts) (B:=b8) 2 (by kernel_rfl) rfl rfl rfl ⟨u,rfl⟩ (fun d v l h=>Py hm hl ht h d) fun v l ⟨u,h⟩=>.re h (.to (ss':=Bd 9) (by kernel_rfl) (H u l))
end
section
variable {c:Ct}{F:Nat->List PV->Option Pr}{v u:Ve}{l:List PV}{P:aB}{m j p:Nat}{ts:List (Option Tx)}{d e x y:PV}{ss:List S}{a b:E}
theorem Fw.iv(h:IV m ts v) (H:∀u,Fw c ss (V m ts u) l P):Fw c ss v l P:=by
 obtain⟨u,h⟩:=h
 exact .re h (H u)
theorem Fw.LN(n:Nat){v':Ve}(h:(EO c.F (ss.take n) v).map Gs=some (Gs v')) (H:Fw c (ss.drop n) v' l P):Fw c ss v l P:=by
 obtain⟨w,h1,h2⟩:=Option.map_eq_some_iff.mp h
 exact .run n w h1 (.re h2 H)
theorem n7(ha:pe F 43 a v=some (.t d)) (hb:pe F 43 b v=some (.t d)) (he:eqT d d=some true):pe F 43 (.cmp .ne a b) v=some (.t (.bool false)):=by
 show Mine.tb (pe F 43 a v) (fun d=>Mine.tb (pe F 43 b v) fun e=>ji ((eqT d e).map (!·)))=_
 rw[ha,hb]
 show ji ((eqT d d).map (!·))=_
 rw[he];rfl
theorem Pz(ha:pe F 43 a v=some (.t (.bool false))) (hb:pe F 43 b v=some (.t (.bool false))):pe F 43 (.or [a,b]) v=some (.t (.bool false)):=by
 show Mine.tb (pe F 43 a v) (fun d=>Cc d (some (.t d)) (pe F 43 b v))=_
 rw[ha,hb];rfl
noncomputable def o5(F:Nat->List PV->Option Pr) (p:Option Pr):Option Pr:=(iY p (some [])).bind (F 81)
noncomputable def H7(m j:Nat):PV:=(((aO m).map It.view)[j]?).getD (.str bQ)
noncomputable def Yp:E:=.call 81 [.kept (.call 46 [.var 7,.pure (.list [.pure (.new .aJ 2 [.str aa,.pure (.list [.var 20])])]),.bool true])]
noncomputable def PA:E:=.ite (.cmp .le (.var 20) (.var 9)) (.sub (.sub (.var 8) (.int 1)) (.bin .sub (.var 20) (.int 1))) (.str bQ)
theorem EV(j:Nat):((j+1:Nat):Int)-1=(j:Int):=Int.add_sub_cancel j 1
theorem LP(hm:m<5):pe F 43 PA (bM (bM (V m ts u) 20 (.int ((j+1:Nat):Int))) 15 x)=some (.t (H7 m j)):=by
 have hl:((aO m).map It.view).length=m+1:=by rw[List.length_map,fZ m hm]
 refine(by kernel_rfl:_=Cc (.bool (decide (((j+1:Nat):Int)<=((m+1:Nat):Int)))) ((w9 ((aO m).map It.view) (.int (((j+1:Nat):Int)-1))).map Pr.t) (some (.t (.str bQ)))).trans ?_
 rw[EV]
 unfold H7
 by_cases h:j<m+1
 ·rw[decide_eq_true (Int.ofNat_le.mpr h),List.getElem?_eq_getElem (hl.symm▸h)]
  show(((aO m).map It.view)[j]?).map Pr.t=_
  rw[List.getElem?_eq_getElem (hl.symm▸h)];rfl
 ·rw[decide_eq_false (fun q=>h (Int.ofNat_le.mp q)),List.getElem?_eq_none (hl.symm▸Nat.le_of_not_lt h)];rfl
theorem EW(it:It):eqT it.view it.view=some true:=by
 induction it with
 |null=>exact jW _
 |sym s=>exact jV fun d hd=>by rcases LB hd with rfl|rfl<;>exact lW _
 |int i =>
  refine jV fun d hd=>?_
  rcases tE hd with rfl|rfl|rfl
  ·exact lW _
  ·exact lV fun d hd=>by rw[Cf hd];exact qv _ _
  ·rfl
 |chr s =>
  refine jV fun d hd=>?_
  rcases tE hd with rfl|rfl|rfl
  ·exact lW _
  ·exact lV fun d hd=>by rw[Cf hd];exact fH _ _
  ·rfl
theorem LQ:eqT (H7 m j) (H7 m j)=some true:=by
 unfold H7
 rw[List.getElem?_map]
 cases(aO m)[j]? with
 |none=>exact jW _
 |some it=>exact EW it
theorem Th(hm:m<5):n5 c.F (c.F 46 [lZ m (none::ts),.lst [d8 j],.bool true])=some (.t (H7 m j)):=by
 refine(told (n6 rfl (element (c.k+13) (aO m) (by rw[fZ m hm];omega) (none::ts) j []))).trans (jc rfl ?_)
 unfold elemR H7
 rw[List.getElem?_map]
 cases(aO m)[j]? with
 |none=>exact kY (c.k+18) _ _
 |some it=>exact nQ (c.k+18) it _
theorem Ti(hm:m<5) (H:∀u l,Fw c (Bd 12) (V m ts u) l []):Fw c (Bd 9) (V m ts u) l []:=by
 refine .asg (x:=20) (M:=.bin .add (.var 9) (.int 1)) (m+2) (fun j=>.int ((j+1:Nat):Int)) (by kernel_rfl) rfl (by kernel_rfl) rfl AI fun j l hj=>?_
 refine .set (x:=15) (e:=Yp) (d:=H7 m j) (by kernel_rfl) rfl ((by kernel_rfl:_=n5 c.F (c.F 46 [lZ m (none::ts),.lst [d8 j],.bool true])).trans (Th hm)) ?_
 refine .ifs (e:=.cmp .ne (.var 15) PA) false (by kernel_rfl) (n7 (d:=H7 m j) (by kernel_rfl) (LP hm) LQ) ?_
 exact .iv (((IV.base u).set _ rfl).set _ rfl) fun u=>.to (ss':=Bd 12) (by kernel_rfl) (H u l)
noncomputable def gf(val:It) (p m:Nat) (tO:List (Option Tx)):PV:=if(mX val p val (aO m)).length=0 then .str bq else nR (mX val p val (aO m)) ((eg val p tO).map aD)
theorem sE(k:Nat) (val:It) (p m:Nat) (tO:List (Option Tx)) (st:aB):call T (k+3) 81 [.t (lg val p m tO)] st=ok (.t (gf val p m tO)) st:=by
 unfold lg gf tB
 rw[List.length_map]
 by_cases h:(mX val p val (aO m)).length=0
 ·rw[if_pos h,if_pos h];exact nQ (k+1) .null st
 ·rw[if_neg h,if_neg h];exact gE k _ _ st
theorem o6(val:It) (p m:Nat) (tO:List (Option Tx)):eqT (gf val p m tO) (gf val p m tO)=some true:=by
 unfold gf
 by_cases h:(mX val p val (aO m)).length=0
 ·rw[if_pos h];exact jW _
 ·rw[if_neg h];exact iM _ _
noncomputable abbrev wL (m:Nat) (f:Nat->Option Tx):List (Option Tx):=I9 m f
theorem EX(hl:ts.length=m):ts=wL m fun i=>ts.getD i none:=zK none hl
noncomputable def vD(m:Nat) (ts:List (Option Tx)) (u:Ve) (j:Nat):Ve:=bM (bM (V m ts u) 21 (valN j).pv) 22 (valN j).view
theorem Tj(F:Nat->List PV->Option Pr) (hm:m<5) (hp:p<m+1) (hj:j<3) (f:Nat->Option Tx) (u:Ve):(EO F ((Bd 15).take 1) (bM (vD m (wL m f) u j) 23 (.int ((p+1:Nat):Int)))).map Gs=some (Gs (bM (bM (vD m (wL m f) u j) 23 (.int ((p+1:Nat):Int))) 16 (gf (valN j) p m (none::wL m f)))) :=
 congrFun (congrFun (nU (f:=fun q f u=>(EO F ((Bd 15).take 1) (bM (vD q.1 (wL q.1 f) u q.2.2) 23 (.int ((q.2.1+1:Nat):Int)))).map Gs) (g:=fun q f u=>some (Gs (bM (bM (vD q.1 (wL q.1 f) u q.2.2) 23 (.int ((q.2.1+1:Nat):Int))) 16 (gf (valN q.2.2) q.2.1 q.1 (none::wL q.1 f))))) (by kernel_rfl) hm hp hj) f) u
noncomputable def Tn:E:=.pure (.list [.pure (.new .aJ 2 [.str ao,.pure (.list [.str Qu])]),.pure (.new .symbol 4 [.str Qv]),.pure (.new .null 0 [])])
noncomputable def LS(f:Nat):E:=.call 81 [.call f [.var 7,.pure (.list [.pure (.new .aJ 2 [.str aa,.pure (.list [.var 23])])]),.var 21,.pure (.list [])]]
noncomputable def vP(m:Nat) (ts:List (Option Tx)) (u:Ve) (j p:Nat):Ve:=bM (bM (vD m ts u j) 23 (.int ((p+1:Nat):Int))) 16 (gf (valN j) p m (none::ts))
theorem EY(f:Nat):pe F 43 (LS f) (vP m ts u j p)=o5 F (F f [lZ m (none::ts),.lst [d8 p],(valN j).pv,.lst []]):=by kernel_rfl
theorem PB(h:c.F 72 [x,y,d,e]=some (.t (lg (valN j) p m (none::ts)))):o5 c.F (c.F 72 [x,y,d,e])=some (.t (gf (valN j) p m (none::ts))):=by
 rw[h];exact(jc rfl (sE (c.k+17) (valN j) p m (none::ts) []):c.F 81 [lg (valN j) p m (none::ts)]=_)
theorem LU(h:c.F 67 [x,y,d,e]=some (.t (lg (valN j) p m (none::ts)))):o5 c.F (c.F 67 [x,y,d,e])=some (.t (gf (valN j) p m (none::ts))):=by
 rw[h];exact(jc rfl (sE (c.k+17) (valN j) p m (none::ts) []):c.F 81 [lg (valN j) p m (none::ts)]=_)
theorem PC(hm:m<5) (hl:ts.length=m) (ht:jQ (none::ts)) (H:∀u l j,j<3->Fw c (Bd 18) (vD m ts u j) l []):Fw c (Bd 12) (V m ts u) l []:=by
 refine .asg (x:=21) (M:=.int 3) 3 (fun j=>(valN j).pv) (e:=.sub Tn (eR (.int 3))) (by kernel_rfl) rfl rfl rfl (k_sub (L:=[(valN 0).pv,(valN 1).pv,(valN 2).pv]) (by kernel_rfl) rfl) fun j l hj=>?_
 refine .set (x:=22) (e:=.call 81 [.var 21]) (d:=(valN j).view) (by kernel_rfl) rfl ((by kernel_rfl:_=c.F 81 [(valN j).pv]).trans (jc rfl (nQ (c.k+18) (valN j) []))) ?_
 refine .asg (x:=23) (M:=.var 9) (m+1) (fun p=>.int ((p+1:Nat):Int)) (by kernel_rfl) rfl (by kernel_rfl) rfl AI fun p l hp=>?_
 have qQ:(none::ts).length=m+1:=congrArg Nat.succ hl
 refine .LN 1 (v':=vP m ts u j p) ?_ ?_
 ·have:=Tj c.F hm hp hj (fun i=>ts.getD i none) u
  rw[<-EX hl] at this
  exact this
 refine .ifs (e:=.cmp .ne (LS 72) (.var 16)) false (by kernel_rfl) (n7 (d:=gf (valN j) p m (none::ts)) ((EY 72).trans (PB (jc rfl (su c.k m p hm hp (valN j) (wB j) (none::ts) qQ ht [])))) (by kernel_rfl) (o6 _ _ _ _)) ?_
 refine .ifs (e:=.cmp .ne (LS 67) (.var 16)) false (by kernel_rfl) (n7 (d:=gf (valN j) p m (none::ts)) ((EY 67).trans (LU (jc rfl (wF (c.k+1) m p hm hp (valN j) (wB j) (none::ts) qQ ht [])))) (by kernel_rfl) (o6 _ _ _ _)) ?_
 exact .to (ss':=Bd 18) (by kernel_rfl) (.re (v':=vD m ts (bM (bM u 23 (.int ((p+1:Nat):Int))) 16 (gf (valN j) p m (none::ts))) j) (by kernel_rfl) (H _ l j hj))
end
section
variable {c:Ct}{F:Nat->List PV->Option Pr}{v u:Ve}{l:List PV}{P:aB}{m j p q:Nat}{ts:List (Option Tx)}{d e x y:PV}{ss:List S}{a b:E}{nm:Tx}
noncomputable def n8(val:It) (nm:Tx) (m:Nat) (tO:List (Option Tx)):PV:=if isNul val=true then nR (aO m) (tO.map aD) else nR (aO m++[val]) ((tO++[some nm]).map aD)
noncomputable def tF(val:It) (nm:Tx) (m:Nat) (tO:List (Option Tx)):PV:=match d7 nm tO with
 |some p=>gf val p m tO
 |none=>n8 val nm m tO
theorem EZ(val:It) (nm:Tx) (m:Nat) (tO:List (Option Tx)):eqT (tF val nm m tO) (tF val nm m tO)=some true:=by
 unfold tF
 cases d7 nm tO with
 |some p=>exact o6 _ _ _ _
 |none =>
  show eqT (n8 val nm m tO) (n8 val nm m tO)=_
  unfold n8
  by_cases h:isNul val=true
  ·rw[if_pos h];exact iM _ _
  ·rw[if_neg h];exact iM _ _
theorem E0(k m:Nat) (hm:m<5) (val:It) (nm:Tx) (tO:List (Option Tx)) (st:aB):call T (k+3) 81 [.t (yr val nm m tO)] st=ok (.t (tF val nm m tO)) st:=by
 unfold yr tF
 cases d7 nm tO with
 |some p=>exact sE k val p m tO st
 |none =>
  show call T (k+3) 81 [.t (if isNul val=true then tB ((aO m).map It.pv) tO else tB ((aO m++[val]).map It.pv) (tO++[some nm]))] st=ok (.t (n8 val nm m tO)) st
  unfold n8 tB
  rw[List.length_map,List.length_map,List.length_append,fZ m hm]
  by_cases h:isNul val=true
  ·rw[if_pos h,if_pos h,if_neg (Nat.succ_ne_zero m)];exact gE k _ _ st
  ·rw[if_neg h,if_neg h,if_neg (show ¬m+1+[val].length=0 from Nat.succ_ne_zero _)];exact gE k _ _ st
noncomputable def To(j:Nat):Tx:=match j with| 0=>pO|1=>pP|_=>OB
theorem LV(j:Nat):To j≠[]:=match j with| 0=>(by decide)|1=>(by decide)|_+2=>(by decide:OB≠[])
theorem PD:pe F 43 (.cmp .oj (.var 24) (.var 4)) (bM (vD m ts u j) 24 (.str nm))=some (.t (.bool (d7 nm (none::ts)).isSome)) :=
 (by kernel_rfl:_=ji (Fo (.str nm) ((none::ts).map aD))).trans (by
  rw[wu aD (fun b=>decide (b=some nm)) (.str nm) rfl (none::ts) Eh fun a=>rX a nm,mW,yh];rfl)
theorem LW(h:d7 nm (none::ts)=some q):pe F 43 (.b4 .index (.var 4) [.var 24]) (bM (vD m ts u j) 24 (.str nm))=some (.t (.int (q:Nat))) :=
 (by kernel_rfl:_=if m7 ((none::ts).map aD) then(idxOf (.str nm) ((none::ts).map aD) 0).map fun(n:Nat)=>Pr.t (.int (n:Int)) else none).trans (by
  rw[if_pos (Aw (none::ts)),rY,h];rfl)
theorem E3(h:d7 nm (none::ts)=some q):Nat.blt 0 q=true:=by
 rw[d7,if_neg (fun z=>nomatch z)] at h
 obtain⟨r,_,rfl⟩:=Option.map_eq_some_iff.mp h
 rfl
noncomputable def vQ(m:Nat) (ts:List (Option Tx)) (u:Ve) (j q:Nat):Ve:=bM (vD m ts u j) 23 (.int (q:Nat))
noncomputable def vN(m:Nat) (ts:List (Option Tx)) (u:Ve) (j:Nat) (nm:Tx):Ve:=bM (vD m ts u j) 24 (.str nm)
noncomputable def PE:List S:=((S7 true (Bd 19)).drop 1).take 1
noncomputable def PF:List S:=(S7 false (Bd 19)).take 1
theorem H8{α:Type}{f g:Nat×Nat×Nat->α}(h:(Ll.filter fun q=>Nat.blt 0 q.2.1).map f=(Ll.filter fun q=>Nat.blt 0 q.2.1).map g){b:Nat}(hm:m<5) (hp:p<m+1) (h0:Nat.blt 0 p=true) (hb:b<3):f (m,p,b)=g (m,p,b):=List.map_inj_left.mp h _ (List.mem_filter.mpr ⟨Ay hm hp hb,h0⟩)
theorem PG(F:Nat->List PV->Option Pr) (hm:m<5) (hq:q<m+1) (h0:Nat.blt 0 q=true) (hj:j<3) (f:Nat->Option Tx) (u:Ve):(EO F PE (vQ m (wL m f) u j q)).map Gs=some (Gs (bM (vQ m (wL m f) u j q) 16 (gf (valN j) q m (none::wL m f)))) :=
 congrFun (congrFun (H8 (f:=fun q f u=>(EO F PE (vQ q.1 (wL q.1 f) u q.2.2 q.2.1)).map Gs) (g:=fun q f u=>some (Gs (bM (vQ q.1 (wL q.1 f) u q.2.2 q.2.1) 16 (gf (valN q.2.2) q.2.1 q.1 (none::wL q.1 f))))) (by kernel_rfl) hm hq h0 hj) f) u
theorem PI(F:Nat->List PV->Option Pr) (hm:m<5) (hj:j<3) (f:Nat->Option Tx) (u:Ve) (nm:Tx):(EO F PF (vN m (wL m f) u j nm)).map Gs=some (Gs (bM (vN m (wL m f) u j nm) 16 (n8 (valN j) nm m (none::wL m f)))) :=
 congrFun (congrFun (congrFun (nU (p:=0) (f:=fun q f u nm=>(EO F PF (vN q.1 (wL q.1 f) u q.2.2 nm)).map Gs) (g:=fun q f u nm=>some (Gs (bM (vN q.1 (wL q.1 f) u q.2.2 nm) 16 (n8 (valN q.2.2) nm q.1 (none::wL q.1 f))))) (by kernel_rfl) hm (Nat.succ_pos m) hj) f) u) nm
noncomputable def Yq:E:=.call 81 [.call 73 [.var 7,.var 24,.var 21,.pure (.list [])]]
noncomputable def vE(m:Nat) (ts:List (Option Tx)) (u:Ve) (j:Nat) (nm:Tx):Ve:=bM (vN m ts u j nm) 16 (tF (valN j) nm m (none::ts))
theorem PJ(hm:m<5) (hl:ts.length=m) (ht:jQ (none::ts)) (hn:nm≠[]):o5 c.F (c.F 73 [lZ m (none::ts),.str nm,(valN j).pv,.lst []])=some (.t (tF (valN j) nm m (none::ts))):=by
 rw[jc (c:=c) (f:=73) (ds:=[lZ m (none::ts),.str nm,(valN j).pv,.lst []]) rfl (tD (c.k+1) m hm (valN j) (wB j) nm hn (none::ts) (congrArg Nat.succ hl) ht [])]
 exact(jc rfl (E0 (c.k+17) m hm (valN j) nm (none::ts) []):c.F 81 [yr (valN j) nm m (none::ts)]=_)
theorem Jf(hm:m<5) (hl:ts.length=m) (ht:jQ (none::ts)) (hn:nm≠[]) (H:∀u l,Fw c (Bd 21) (V m ts u) l []):Fw c (Bd 20) (vE m ts u j nm) l [] :=
 .ifs (e:=.or [.cmp .ne Yq (.var 16),.cmp .ne (.call 81 [.var 7]) (.var 8)]) false (by kernel_rfl) (Pz (n7 (d:=tF (valN j) nm m (none::ts)) ((by kernel_rfl:_=o5 c.F (c.F 73 [lZ m (none::ts),.str nm,(valN j).pv,.lst []])).trans (PJ hm hl ht hn)) (by kernel_rfl) (EZ _ _ _ _))
  (n7 (d:=LG m ts) ((by kernel_rfl:_=c.F 81 [lZ m (none::ts)]).trans (jc rfl (gE (c.k+17) (aO m) ((none::ts).map aD) []))) (by kernel_rfl) (iM _ _)))
  (.iv (((((IV.base u).set _ rfl).set _ rfl).set _ rfl).set _ rfl) fun u=>.to (ss':=Bd 21) (by kernel_rfl) (H u l))
theorem PK(hm:m<5) (hl:ts.length=m) (ht:jQ (none::ts)) (hj:j<3) (H:∀u l,Fw c (Bd 21) (V m ts u) l []):Fw c (Bd 18) (vD m ts u j) l []:=by
 refine .asg (x:=24) (M:=.int 3) 3 (fun i=>.str (To i)) (e:=.sub (.pure (.list [.str pO,.str pP,.str OB])) (eR (.int 3))) (by kernel_rfl) rfl rfl rfl (k_sub (L:=[.str pO,.str pP,.str OB]) (by kernel_rfl) rfl) fun i l _=>?_
 have hn:=LV i
 generalize To i=nm at hn
 have hd:tF (valN j) nm m (none::ts)=match d7 nm (none::ts) with| some p=>gf (valN j) p m (none::ts)|none=>n8 (valN j) nm m (none::ts):=rfl
 refine .ifs (e:=.cmp .oj (.var 24) (.var 4)) _ (by kernel_rfl) PD ?_
 have T:=EX hl
 cases hq:d7 nm (none::ts) with
 |some q =>
  rw[hq] at hd
  refine .set (x:=23) (e:=.b4 .index (.var 4) [.var 24]) (d:=.int (q:Nat)) (by kernel_rfl) rfl (LW hq) (.re (v':=vQ m ts (bM u 24 (.str nm)) j q) (by kernel_rfl) (.LN 1 (v':=bM (vQ m ts (bM u 24 (.str nm)) j q) 16 (gf (valN j) q m (none::ts))) ?_ ?_))
  ·have:=PG c.F hm (hl▸wo hq:q<m+1) (E3 hq) hj (fun i=>ts.getD i none) (bM u 24 (.str nm))
   rw[<-T] at this;exact this
  ·rw[show gf (valN j) q m (none::ts)=tF (valN j) nm m (none::ts) from hd.symm]
   exact .to (ss':=Bd 20) (by kernel_rfl) (.re (v':=vE m ts (bM u 23 (.int (q:Nat))) j nm) (by kernel_rfl) (Jf hm hl ht hn H))
 |none =>
  rw[hq] at hd
  refine .LN 1 (v':=vE m ts u j nm) ?_ (.to (ss':=Bd 20) (by kernel_rfl) (Jf hm hl ht hn H))
  unfold vE
  rw[hd]
  have:=PI c.F hm hj (fun i=>ts.getD i none) u nm
  rw[<-T] at this;exact this
end
section
variable {c:Ct}{F:Nat->List PV->Option Pr}{v u:Ve}{l:List PV}{P:aB}{m j p q:Nat}{ts c6:List (Option Tx)}{d e x y:PV}{ss:List S}{a b:E}{ix:Ix}
theorem Fw.LX(n:Nat) (he:Rw l->Cl P->pW 3 (Gs v)->∃v' l' P',Rw l'/\Cl P'/\pW 3 (Gs v')/\bO c.C (ss.take n) (Gs v) (c.W l P)=some (.next (Gs v') (c.W l' P'))/\Fw c (ss.drop n) v' l' P'):Fw c ss v l P:=fun hl hc hk=>by
 obtain⟨v',l',P',h1,h2,h3,e,H⟩:=he hl hc hk
 rw[show bO c.C ss (Gs v) (c.W l P)=bO c.C (ss.drop n) (Gs v') (c.W l' P') from aN n e rfl]
 exact H h1 h2 h3
theorem n9{n i1 i2:Nat}{d1 d2:PV}{st st1 st2:aB}(h1:¬i1<n) (h2:¬i2<n) (f1:i6 cR st (.r i1)=some (d1,st1)) (f2:i6 cR st1 (.r i2)=some (d2,st2)):∀{g:Gm}{i j:Nat},pW n g->i<j->j<g.length ->
  dc n ((g.set i (some (.r i1))).set j (some (.r i2))) st=some ((g.set i (some (.t d1))).set j (some (.t d2)),st2)
 |[],_,_,_,_,h=>absurd h (Nat.not_lt_zero _)
 |_::_,_,0,_,h,_=>absurd h (Nat.not_lt_zero _)
 |x::g,0,j+1,h,_,hj=>by
  rw[List.set_cons_zero,List.set_cons_zero,List.set_cons_succ,List.set_cons_succ]
  simp only[dc,if_neg h1,f1,gY h2 f2 (fun y hy=>h y (.tail _ hy):pW n g) (Nat.lt_of_succ_lt_succ hj),Option.map]
 |x::g,i+1,j+1,h,hi,hj=>by
  rw[List.set_cons_succ,List.set_cons_succ,List.set_cons_succ,List.set_cons_succ,jn (h x (.head _)),n9 h1 h2 f1 f2 (fun y hy=>h y (.tail _ hy)) (Nat.lt_of_succ_lt_succ hi) (Nat.lt_of_succ_lt_succ hj)];rfl
theorem wM{s:S}{x j n:Nat}{g:Gm}{st st1:aB}{X:aB}{l':List PV}{P':aB}(he:ex c.C s g st=some (.next ((Gs v).set x (some (.r j))) st1)) (hf:i6 cR st1 (.r j)=some (d,c.W l' P'++X)) (hk:pW 3 (Gs v)) (hc:Cl P') (hj:3<=j) (hx:Nat.blt x 43=true) (hl:st.length=P'.length+3):ex c.C (.cut 3 s) g st=some (.next (Gs (bM v x d)) (c.W l' P')):=by
 show qG 3 (ex c.C s) g st=_
 unfold qG
 rw[he]
 dsimp only
 rw[if_pos (hl▸Nat.le_add_left 3 _)]
 unfold kc
 rw[gY (Nat.not_lt.mpr hj) hf hk (Gs.len▸Nat.le_of_ble_eq_true hx),Gv.set]
 dsimp only
 rw[show st.length=(c.W l' P').length from hl,hc.fl.back];rfl
theorem E4{s:S}{x x' j j' n:Nat}{g:Gm}{st st1 st2:aB}{X:aB}{l':List PV}{P':aB}{d':PV}(he:ex c.C s g st=some (.next (((Gs v).set x (some (.r j))).set x' (some (.r j'))) st1)) (hf:i6 cR st1 (.r j)=some (d,st2)) (S5:i6 cR st2 (.r j')=some (d',c.W l' P'++X)) (hk:pW 3 (Gs v)) (hc:Cl P') (hj:3<=j) (Yr:3<=j') (Ys:Nat.blt x x'=true) (hx:Nat.blt x' 43=true) (hl:st.length=P'.length+3):ex c.C (.cut 3 s) g st=some (.next (Gs (bM (bM v x d) x' d')) (c.W l' P')):=by
 show qG 3 (ex c.C s) g st=_
 unfold qG
 rw[he]
 dsimp only
 rw[if_pos (hl▸Nat.le_add_left 3 _)]
 unfold kc
 rw[n9 (Nat.not_lt.mpr hj) (Nat.not_lt.mpr Yr) hf S5 hk (Nat.le_of_ble_eq_true Ys) (Gs.len▸Nat.le_of_ble_eq_true hx),Gv.set,Gv.set]
 dsimp only
 rw[show st.length=(c.W l' P').length from hl,hc.fl.back];rfl
theorem AO{g:Gm}{A:List S}(hl:Rw l) (hc:Cl P) (h1:g[1]? = some (some (.r 2))):∃(t:Bool) (l':List PV),Rw l'/\ex c.C (.ifs (.cmp .eq (eR (.int 2)) (.int 1)) A []) g (c.W l P)=bO c.C (cond t A []) g (c.W l' P):=by
 obtain⟨i,l',a1,a2,r,e⟩:=d9 c.la c.lb l hl P hc g 1 h1 2 (by decide) (c.k+19)
 have e:ev c.C (.bin .mod (.call 75 [.var 1]) (.int 2)) g (c.W l P)=ok (.t (.int i)) (c.W l' P):=e
 refine⟨decide (i=1),l',r,?_⟩
 rw[aM,aG,eR,e,af,bg,af,aV,aV,cJ,aF,ak]
 cases decide (i=1)<;>rfl
noncomputable def oh(m:Nat):List PV:=(List.range m).map fun(i:Nat)=>vec aa [.int i] .none
noncomputable def ly(m:Nat):List PV:=(List.range (m+1)).map fun(i:Nat)=>PV.int (10+i)
noncomputable def PL(m:Nat):PV:=vec aa [.int ((m+1:Nat):Int)] .none
noncomputable def l0(m:Nat):List (Option Tx):=(List.range (m+1)).map fun i=>some [97+i]
noncomputable def hO(m:Nat):Bool->Option (List (Option Tx))
 |false=>none
 |true=>some (l0 m)
noncomputable def lO(m:Nat) (b:Bool):Option (List PV):=(hO m b).map (·.map aD)
noncomputable def H9(m:Nat) (b:Bool):PV:=aR (ly m) (m+1) (lO m b)
noncomputable def UW(m:Nat) (b:Bool):List (Tx×PV):=match b with
 |false=>[(dU,PL m)]
 |true=>[(dU,PL m),(bP,vec aE [vec ao ((l0 m).map aD) .none] .none)]
noncomputable def Yt:E:=.cM 25 [.var 2] none (.call 76 [.var 1])
noncomputable def UX:E:=.cM 27 [.var 2] none (.pure (.new .aJ 2 [.str aa,.pure (.list [.var 27])]))
noncomputable def Tp:E:=.new .aJ 2 [.str bH,.pure UX,.pure (.dm [bG] [.pure (.new .aJ 2 [.str ao,.var 26])])]
noncomputable def vF(m:Nat) (c6:List (Option Tx)) (u:Ve):Ve:=bM (vA m u) 26 (.lst (c6.map aD))
noncomputable def vG(m:Nat) (c6:List (Option Tx)) (u:Ve):Ve:=bM (vF m c6 u) 28 (b5 (oh m) (c6.map aD))
noncomputable def vL(m:Nat) (c6:List (Option Tx)) (b:Bool) (u:Ve):Ve:=bM (bM (vG m c6 u) 30 (H9 m b)) 31 (fJ (hO m b))
noncomputable def J2(m:Nat) (b:Bool):aB:=[.fz (.aK (UW m b)),.fz (H9 m b)]
theorem Tq(hm:m<5):pe F 43 Tp (vF m c6 u)=some (.f (b5 (oh m) (c6.map aD))):=by
 have h:=ER (F:=F) (v:=vF m c6 u) (x:=27) (a:=.var 2) (e:=.pure (.new .aJ 2 [.str aa,.pure (.list [.var 27])])) (n:=m) (fun i=>vec aa [.int i] .none) (by omega) (by kernel_rfl) fun i=>by kernel_rfl
 have q:∀p,pe F 43 UX (vF m c6 u)=p->pe F 43 Tp (vF m c6 u)=(iY (some (.t (.str bH))) (iY (uJ p) (iY (some (.t (.aK [(bG,vec ao (c6.map aD) .none)]))) (some [])))).bind (HM .aJ 2):=fun p h=>by subst h;kernel_rfl
 exact(q _ h).trans (by kernel_rfl)
theorem PM(hm:m<5) (H:∀c6 u l,c6.length=m->(∀t∈c6,nW t)->Fw c (Bd 23) (vG m c6 u) l []):Fw c (Bd 21) (vA m u) l []:=by
 refine .Pu (e:=Yt) (x:=26) (by kernel_rfl) rfl fun hl hc=>?_
 obtain⟨c6,l',h1,h2,h3,h4⟩:=AM (c:=c) (v:=vA m u) (a:=.var 2) (x:=25) (e:=.call 76 [.var 1]) nW aD hl (P:=[]) rfl (n:=m) (by omega) rfl fun d l hl=>by
  obtain⟨t,l',q1,q2,q3⟩:=text c.la c.lb l hl [] rfl (c.k+18)
  refine⟨t,l',q1,q2,?_⟩
  rw[bW,aq,av,Gv.get rfl]
  exact q3
 exact⟨l',_,h3,h4,.wK (x:=28) (e:=Tp) (by kernel_rfl) rfl (congrArg jb (Tq hm)) (.to (ss':=Bd 23) (by kernel_rfl) (H c6 u l' h1 h2))⟩
noncomputable def N3(m:Nat) (b:Bool):Node:=.aK (UW m b)
noncomputable def N4(m:Nat):Node:=iV (.t (.str aa)) (.t (.lst (ly m))) (.r 3)
noncomputable def MI(v:Ve):Gm:=(Gs (bM v 31 .none)).set 30 (some (.r 4))
theorem Tr(hm:m<5):bO c.C ((Bd 23).take 2) (Gs (vG m c6 u)) (c.W l [])=some (.next (MI (vG m c6 u)) (c.W l [N3 m false,N4 m])):=by
 match m,hm with
 |0,_=>kernel_rfl
 |1,_=>kernel_rfl
 |2,_=>kernel_rfl
 |3,_=>kernel_rfl
 |4,_=>kernel_rfl
noncomputable def PN:List S:=match(Bd 25) with| s::_=>(match s with| .cut _ s=>(match s with| .ifs _ a _=>a|_=>[])|_=>[])|_=>[]
theorem LY:(Bd 25).take 1=[.cut 3 (.ifs (.cmp .eq (eR (.int 2)) (.int 1)) PN [])]:=by kernel_rfl
theorem Tt(hm:m<5):bO c.C PN (MI (vG m c6 u)) (c.W l [N3 m false,N4 m])=some (.next ((MI (vG m c6 u)).set 31 (some (.r 5))) (c.W l [N3 m true,N4 m,.fz (fJ (hO m true))])):=by
 match m,hm with
 |0,_=>kernel_rfl
 |1,_=>kernel_rfl
 |2,_=>kernel_rfl
 |3,_=>kernel_rfl
 |4,_=>kernel_rfl
theorem PO(hm:m<5) (H:∀b u l,Fw c (Bd 26) (vL m c6 b u) l (J2 m b)):Fw c (Bd 23) (vG m c6 u) l []:=.LX 3 fun hl hc hk=>by
 have e0:bO c.C ((Bd 23).take 3) (Gs (vG m c6 u)) (c.W l [])=ex c.C (.cut 3 (.ifs (.cmp .eq (eR (.int 2)) (.int 1)) PN [])) (MI (vG m c6 u)) (c.W l [N3 m false,N4 m]):=by
  rw[show(Bd 23).take 3=(Bd 23).take 2++(Bd 25).take 1 by kernel_rfl,nL,Tr hm,LY]
  show mE (ex _ _ _ _) _ []=_
  cases ex c.C (.cut 3 (.ifs (.cmp .eq (eR (.int 2)) (.int 1)) PN [])) (MI (vG m c6 u)) (c.W l [N3 m false,N4 m]) with
  |none=>rfl
  |some o=>induction o<;>rfl
 obtain⟨t,l',r,e⟩:=AO (c:=c) (g:=MI (vG m c6 u)) (A:=PN) hl (P:=[N3 m false,N4 m]) rfl (by kernel_rfl)
 have QD:=Gs.ok hk 31 .none
 rw[e0]
 induction t with
 |false =>
  have z:=wM (c:=c) (v:=bM (vG m c6 u) 31 .none) (x:=30) (j:=4) (d:=H9 m false) (P':=J2 m false) (X:=[]) (l':=l') e (by rfl) QD rfl (by decide) rfl rfl (n:=0)
  rw[z]
  exact⟨_,l',J2 m false,r,(rfl:Cl (J2 m false)),Gs.ok QD 30 _,rfl,.to (ss':=Bd 26) (by kernel_rfl) (.re (v':=vL m c6 false u) (by kernel_rfl) (H false u l'))⟩
 |true =>
  have z:=E4 (c:=c) (v:=bM (vG m c6 u) 31 .none) (x:=30) (j:=4) (d:=H9 m true) (d':=fJ (hO m true)) (x':=31) (j':=5) (P':=J2 m true) (X:=[.fz (fJ (hO m true))]) (l':=l') (e.trans (Tt hm)) (by rfl) (by rfl) QD rfl (by decide) (by decide) rfl rfl rfl (n:=0)
  rw[z]
  exact⟨_,l',J2 m true,r,(rfl:Cl (J2 m true)),Gs.ok (Gs.ok QD 30 _) 31 _,rfl,.to (ss':=Bd 26) (by kernel_rfl) (.re (v':=vL m c6 true u) (by kernel_rfl) (H true u l'))⟩
end
noncomputable def jo(m:Nat):List It:=(List.range m).map fun(i:Nat)=>It.int i
theorem AP(m:Nat):oh m=(jo m).map It.pv:=by unfold oh jo;rw[List.map_map];rfl
theorem yC(m:Nat):(oh m).length=m:=by unfold oh;rw[List.length_map,List.length_range]
theorem jE(m:Nat):(ly m).length=m+1:=by unfold ly;rw[List.length_map,List.length_range]
noncomputable def sF(m:Nat) (c6:List (Option Tx)) (pl:List (Option Nat)):PV:=.tup [.str aE,.lst ((pl.map (QB (jo m))).map It.view),Fv (some (pl.map (aT (c6.map aD) (.str eH))))]
theorem zL(k m:Nat) (c6:List (Option Tx)) (pl:List (Option Nat)) (st:aB):call T (k+4) 81 [.t (pairD (oh m) (c6.map aD) pl)] st=ok (.t (sF m c6 pl)) st:=by
 unfold pairD sF
 rw[AP,show cU=It.pv .null from rfl,jD It.pv (jo m) .null]
 exact BU k _ _ st
theorem zM(k m:Nat) (nm:List PV) (st:aB):call T (k+4) 81 [.t (b5 (oh m) nm)] st=ok (.t (.tup [.str bH,.lst ((jo m).map It.view),Fv (some nm)])) st:=by
 rw[AP]
 refine bz (ds:=[b5 ((jo m).map It.pv) nm]) (a:=.t (.tup [.str bH,.lst ((jo m).map It.view),Fv (some nm)])) (st':=[.aK [],.fz (Fv (some nm)),.fz (.lst ((jo m).map It.view))]) rfl rfl (aN 6 (g':=[some (.t (b5 ((jo m).map It.pv) nm)),none,some (.r 1),none,none]) (st':=[.aK [],.aK [(bG,.tup [.str ao,.lst nm,.aK []])]]) (by kernel_rfl) ?_) rfl
 rw[show(T 81).body.drop 6=.ifs (.cmp .oj (.attr (.var 0) aj) (.tup [(.str aE),(.str cI),(.str bH)])) [.ret (.tup [(.attr (.var 0) aj),(.comp 4 (.attr (.var 0) ai) none (.call 81 [(.var 4)])),(.var 2)])] []::(T 81).body.drop 7 from rfl]
 have h:=views (k+1) 4 [some (.t (b5 ((jo m).map It.pv) nm)),none,some (.r 1),none,none] (show 4<5 by decide) (jo m) [.aK [],.aK [(bG,.tup [.str ao,.lst nm,.aK []])]] rfl
 have h':=dR (C:=call T (k+3)) (x:=4) (src:=.attr (.var 0) ai) (c:=none) (e:=.call 81 [(.var 4)]) (st:=[.aK [],.aK [(bG,.tup [.str ao,.lst nm,.aK []])]]) (st2:=[.aK [],.aK [(bG,.tup [.str ao,.lst nm,.aK []])]]) rfl rfl rfl h
 refine bU (st1:=[.aK [],.aK [(bG,.tup [.str ao,.lst nm,.aK []])]]) (t:=.t (.bool true)) (by kernel_rfl) rfl (o:=some (.ret (.t (.tup [.str bH,.lst ((jo m).map It.view),Fv (some nm)])) [.aK [],.fz (Fv (some nm)),.fz (.lst ((jo m).map It.view))])) ?_ rfl
 have hk:∀st,uU st (.t (b5 ((jo m).map It.pv) nm)) aj=ok (.t (.str bH)) st:=fun st=>rfl
 simp only[ah,aW,eB,aq,aA,cQ,av,List.getElem?_cons_zero,List.getElem?_cons_succ,ay,af,hk,h',bS]
 rfl
noncomputable def lz(L:List PV):PV:=.tup [.str ao,.lst L,.aK []]
noncomputable def wN(n:Nat):PV:=.tup [.str aa,.lst [.int (n:Nat)],.aK []]
noncomputable def uN(n:Nat) (o:Option (List PV)) (drop:Bool):List (Tx×PV):=if drop=true/\n=1 then(match o with
  |none=>[]
  |some L=>[(bG,lz L)])
 else match o with
  |none=>[(dU,wN n)]
  |some L=>[(dU,wN n),(bP,.tup [.str aE,.lst [lz L],.aK []])]
noncomputable def yD(X:List PV) (o:Option (List PV)) (drop:Bool):PV:=.tup [.str aa,.lst X,.aK (uN X.length o drop)]
theorem sG(k:Nat) (X:List PV) (o:Option (List PV)) (drop:Bool) (st:aB):call T (k+8) 81 [.t (mH X o drop)] st=ok (.t (yD X o drop)) st:=by
 unfold mH yD uN
 by_cases h:drop=true/\X.length=1
 ·rw[if_pos h,if_pos h]
  induction o<;>kernel_rfl
 ·rw[if_neg h,if_neg h]
  induction o<;>kernel_rfl
theorem AQ{l:List (Tx×PV)}(h:(l.all fun p=>mZ 8 p.2)=true):Cp (.aK l)=true:=by
 unfold Cp
 rw[show MS (.aK l)=true from h,Bool.or_true]
theorem sH{a:Tx}{d:PV}(h:mZ 8 d=true):Cp (.aK [(a,d)])=true:=AQ (List.all_eq_true.mpr fun x hx=>by cases hx with| head=>exact h|tail _ q=>cases q)
theorem E5:Cp (.aK [])=true:=rfl
theorem E6{a b:Tx}{d e:PV}(wQ:a≠b) (h1:mZ 8 d=true) (h2:mZ 8 e=true):Cp (.aK [(a,d),(b,e)])=true:=AQ (List.all_eq_true.mpr fun x hx=>by
 cases hx with
 |head=>exact h1
 |tail _ q=>cases q with| head=>exact h2|tail _ q=>cases q)
theorem sI(n:Nat) (L:List PV) (h:∀d∈L,mZ n d=true):mZ (n+2) (lz L)=true:=by
 refine lU fun d hd=>?_
 rcases tE hd with rfl|rfl|rfl
 ·exact fH _ _
 ·exact lT h
 ·exact nZ _
theorem yE(k n:Nat):mZ (k+3) (wN n)=true:=by
 refine lU fun d hd=>?_
 rcases tE hd with rfl|rfl|rfl
 ·exact fH _ _
 ·exact lT fun d hd=>by rw[Cf hd];exact qv _ _
 ·exact nZ _
theorem wO(n:Nat) (c6:List (Option Tx)) (pl:List (Option Nat)):∀d∈pl.map (aT (c6.map aD) (.str eH)),mZ n d=true:=by
 intro d hd
 obtain⟨p,_,rfl⟩:=List.mem_map.mp hd
 unfold aT
 induction p with
 |none=>exact fH n _
 |some i =>
  simp only[Option.bind]
  rw[List.getElem?_map]
  cases c6[i]? with
  |none=>exact fH n _
  |some t=>exact AH n t
theorem Cj(m:Nat) (c6:List (Option Tx)) (pl:List (Option Nat)):eqT (sF m c6 pl) (sF m c6 pl)=some true:=by
 refine jV fun d hd=>?_
 rcases tE hd with rfl|rfl|rfl
 ·exact lW _
 ·exact lV fun d hd=>by obtain⟨it,_,rfl⟩:=List.mem_map.mp hd;exact yy 5 it
 ·exact sH (sI 6 _ (wO 6 c6 pl))
theorem Ck(X:List PV) (hX:∀d∈X,mZ 7 d=true) (c6:Option (List (Option Tx))) (pl:List (Option Nat)) (drop:Bool) :
  eqT (yD X (c6.map fun l=>pl.map (aT (l.map aD) (.str eH))) drop) (yD X (c6.map fun l=>pl.map (aT (l.map aD) (.str eH))) drop)=some true:=by
 refine jV fun d hd=>?_
 rcases tE hd with rfl|rfl|rfl
 ·exact lW _
 ·exact lV hX
 ·unfold uN
  by_cases h:drop=true/\X.length=1
  ·rw[if_pos h]
   induction c6 with
   |none=>exact E5
   |some l=>exact sH (sI 6 _ (wO 6 l pl))
  ·rw[if_neg h]
   induction c6 with
   |none=>exact sH (yE 5 _)
   |some l =>
    refine E6 (by decide) (yE 5 _) (lU fun d hd=>?_)
    rcases tE hd with rfl|rfl|rfl
    ·exact fH _ _
    ·exact lT fun d hd=>by rw[Cf hd];exact sI 4 _ (wO 4 l pl)
    ·exact nZ _
noncomputable def PR{α:Type}(f:α->PV):Except Tx α->PV
 |.ok a=>f a
 |.error e=>.str e
noncomputable def bs(L:List (Nat×PV)) (u:Ve):Ve:=L.foldr (fun p v=>bM v p.1 p.2) (up1 u)
noncomputable def AR(L:List (Nat×PV)) (v:Ve):Prop:=∃u,Gs v=Gs (bs L u)
theorem E7{x:Nat}{u:Ve}{d:PV}(h1:Nat.beq x 1=false):∀{L:List (Nat×PV)},(L.any fun p=>Nat.beq x p.1)=false->bM (bs L u) x d=bs L (bM u x d)
 |[],_=>yz h1
 |p::L,h=>by
  rw[List.any_cons,Bool.or_eq_false_iff] at h
  show bM (bM (bs L u) p.1 p.2) x d=bM (bs L (bM u x d)) p.1 p.2
  rw[i0 h.1,E7 h1 h.2]
theorem AR.set{L:List (Nat×PV)}{v:Ve}{x:Nat}(h:AR L v) (d:PV) (h1:Nat.beq x 1=false) (hx:(L.any fun p=>Nat.beq x p.1)=false):AR L (bM v x d):=by
 obtain⟨u,e⟩:=h
 exact⟨bM u x d,(Gs.bM e x d).trans (congrArg Gs (E7 h1 hx))⟩
section
variable {c:Ct}{F:Nat->List PV->Option Pr}{v u:Ve}{l:List PV}{P:aB}{m j p q:Nat}{c6:List (Option Tx)}{d e x y:PV}{ss:List S}{a b:E}{ix:Ix}{bt drop:Bool}{pl:List (Option Nat)}{w:Ve}
theorem Fw.has{L:List (Nat×PV)}(h:AR L v) (H:∀u,Fw c ss (bs L u) l P):Fw c ss v l P:=by
 obtain⟨u,h⟩:=h
 exact .re h (H u)
theorem yF(w:Ve):pe F 43 (.cmp .ne (.attr (.var 13) aj) (.str bF)) (bM (bM (bM w 13 ix.pv) 14 x) 15 y)=some (.t (.bool (!e9 ix))):=by induction ix<;>kernel_rfl
noncomputable def uO(m:Nat) (c6:List (Option Tx)) (ix:Ix) (D:Except Tx (List (Option Nat))):PV:=cond (e9 ix) (.tup [.str bH,.lst ((jo m).map It.view),Fv (some (c6.map aD))]) (PR (sF m c6) D)
noncomputable def Tu:E:=.call 81 [.kept (.call 43 [.var 28,.pure (.list [.var 13]),.bool true,.bool true])]
theorem PS(hl:c6.length<1000) (hg:∀t∈c6,nW t):okN (some c6):=fun q hq=>by
 injection hq with hq;subst hq
 exact⟨Nat.lt_trans hl (by decide),fun s hs e=>absurd (hg _ hs s rfl) (by rw[e];decide)⟩
theorem LZ(hm:m<5) (hl:c6.length=m) (hg:∀t∈c6,nW t) (hx:ix.ok):n5 c.F (c.F 43 [b5 (oh m) (c6.map aD),.lst [ix.pv],.bool true,.bool true])=some (.t (uO m c6 ix (iE m (some c6) ix))):=by
 unfold uO
 cases hi:e9 ix with
 |true =>
  cases jY hi
  exact(told (n6 (D:=.ok (b5 (oh m) (c6.map aD))) rfl (se (c.k+11) (oh m) (c6.map aD) []))).trans (jc rfl (zM (c.k+16) m (c6.map aD) []))
 |false =>
  have h:=BV (c.k+11) (oh m) (by rw[yC];omega) c6 (PS (by omega) hg) ix hx (qw hi) []
  rw[yC] at h
  refine(told (n6 rfl h)).trans (jc rfl ?_)
  cases iE m (some c6) ix with
  |error e=>exact kY (c.k+18) e _
  |ok pl=>exact zL (c.k+16) m c6 pl _
noncomputable def UY:E:=.comp 33 (.sub (.var 14) (.int 0)) none (Jd .lt (.var 33) (.var 2) (.tup [.str aa,.pure (.list [.var 33]),.pure (.dm [] [])]) (.str bq))
noncomputable def UZ:E:=.comp 34 (.sub (.var 14) (.int 0)) none (Jd .lt (.var 34) (.var 2) (.sub (.var 26) (.var 34)) (.str eH))
noncomputable def Yu:E:=.tup [.str aE,.var 18,.pure (.dm [bG] [.tup [.str ao,.var 35,.pure (.dm [] [])]])]
noncomputable def vM(m:Nat) (c6:List (Option Tx)) (bt:Bool) (u:Ve) (a b d:PV):Ve:=bM (bM (bM (vL m c6 bt u) 13 a) 14 b) 15 d
noncomputable def Yv(m:Nat) (pl:List (Option Nat)):PV:=.lst ((pl.map (QB (jo m))).map It.view)
noncomputable def Yw(c6:List (Option Tx)) (pl:List (Option Nat)):PV:=.lst (pl.map (aT (c6.map aD) (.str eH)))
theorem Tv:pe F 43 UY (vM m c6 bt u x (jB (.ok pl)) y)=some (.f (Yv m pl)):=by
 have hl:((jo m).map It.view).length=m:=by unfold jo;rw[List.length_map,List.length_map,List.length_range]
 have z:=jX (F:=F) (v:=vM m c6 bt u x (jB (.ok pl)) y) (x:=33) (src:=.sub (.var 14) (.int 0)) (L:=pl) (enc:=cF) (aT ((jo m).map It.view) (.str bq)) (by kernel_rfl) (uL (n:=m) (y:=.var 2) (a:=.tup [.str aa,.pure (.list [.var 33]),.pure (.dm [] [])]) (b:=.str bq) .lt (fun i=>hl.symm▸AL m i) (fun i=>rfl) (fun it=>rfl) (fun it=>by kernel_rfl) (fun i h=>by
  have h:i<m:=hl▸h
  unfold jo
  rw[List.getElem?_map,List.getElem?_map,List.getElem?_range h]
  kernel_rfl) fun it=>rfl)
 rw[show PV.str bq=It.view .null from rfl,jD It.view (jo m) .null] at z
 exact z
theorem Tw(hl:c6.length=m):pe F 43 UZ (bM (vM m c6 bt u x (jB (.ok pl)) y) 18 d)=some (.f (Yw c6 pl)):=by
 have hl:(c6.map aD).length=m:=by rw[List.length_map,hl]
 exact jX (F:=F) (v:=bM (vM m c6 bt u x (jB (.ok pl)) y) 18 d) (x:=34) (src:=.sub (.var 14) (.int 0)) (L:=pl) (enc:=cF) (aT (c6.map aD) (.str eH)) (by kernel_rfl) (uL (n:=m) (y:=.var 2) (a:=.sub (.var 26) (.var 34)) (b:=.str eH) .lt (fun i=>hl.symm▸AL m i) (fun i=>rfl) (fun it=>rfl) (fun it=>by kernel_rfl) (fun i _=>(by kernel_rfl:_=jb (((c6.map aD)[i]?).map Pr.t)).trans (by cases(c6.map aD)[i]?<;>rfl)) fun it=>rfl)
noncomputable def L3(m:Nat) (bt:Bool) (ix:Ix):List (Nat×PV):=[(13,ix.pv),(31,fJ (hO m bt)),(30,H9 m bt),(2,.int (m:Nat))]
theorem L0(x y:PV):AR (L3 m bt ix) (vM m c6 bt u ix.pv x y):=⟨bM (bM (bM (bM u 26 (.lst (c6.map aD))) 28 (b5 (oh m) (c6.map aD))) 14 x) 15 y,by kernel_rfl⟩
theorem PT(hl:c6.length=m) (D:Except Tx (List (Option Nat))) (hD:e9 ix=true->D=.ok ((List.range m).map some)) (H:∀u,Fw c (Bd 30) (bs (L3 m bt ix) u) l P):Fw c (Bd 29) (vM m c6 bt u ix.pv (jB D) (uO m c6 ix D)) l P:=by
 cases hi:e9 ix with
 |true =>
  cases hD hi
  exact .ifs (e:=.bi .isStr [.var 14]) false (by kernel_rfl) (by kernel_rfl) (.ifs false (by kernel_rfl) ((yF _).trans (by rw[hi];rfl)) (.has (L0 _ _) fun u=>.to (ss':=Bd 30) (by kernel_rfl) (H u)))
 |false =>
  have ht:uO m c6 ix D=PR (sF m c6) D:=by unfold uO;rw[hi];rfl
  induction D with
  |error e =>
   rw[ht]
   exact .ifs (e:=.bi .isStr [.var 14]) true (by kernel_rfl) (by kernel_rfl) (.ifs (e:=.cmp .ne (.var 15) (.var 14)) false (by kernel_rfl) (n7 (d:=.str e) (by kernel_rfl) (by kernel_rfl) (jW e)) (.has (L0 _ _) fun u=>.to (ss':=Bd 30) (by kernel_rfl) (H u)))
  |ok pl =>
   rw[ht]
   refine .ifs (e:=.bi .isStr [.var 14]) false (by kernel_rfl) (by kernel_rfl) (.ifs true (by kernel_rfl) ((yF _).trans (by rw[hi];rfl)) ?_)
   refine .wK (x:=18) (e:=UY) (by kernel_rfl) rfl (congrArg jb Tv) (.wK (x:=35) (e:=UZ) (by kernel_rfl) rfl (congrArg jb (Tw hl)) ?_)
   exact .ifs (e:=.cmp .ne (.var 15) Yu) false (by kernel_rfl) (n7 (d:=sF m c6 pl) (by kernel_rfl) (by kernel_rfl) (Cj m c6 pl)) (.has (((L0 _ _).set _ rfl rfl).set _ rfl rfl) fun u=>.to (ss':=Bd 30) (by kernel_rfl) (H u))
theorem PU(hm:m<5) (hl:c6.length=m) (hg:∀t∈c6,nW t) (H:∀ix u l,ix.ok->Fw c (Bd 30) (bs (L3 m bt ix) u) l P):Fw c (Bd 26) (vL m c6 bt u) l P:=by
 refine .ix (by kernel_rfl) (by kernel_rfl) fun ix l hx=>?_
 refine .set (x:=14) (e:=.call 80 [.var 13,.var 2,.var 26,.bool false]) (d:=jB (iE m (some c6) ix)) (by kernel_rfl) rfl ((by kernel_rfl:_=c.F 80 [ix.pv,.int m,fJ (some c6),.bool false]).trans (Tc m (by omega) (some c6) hx)) ?_
 refine .set (x:=15) (e:=Tu) (d:=uO m c6 ix (iE m (some c6) ix)) (by kernel_rfl) rfl ((by kernel_rfl:_=n5 c.F (c.F 43 [b5 (oh m) (c6.map aD),.lst [ix.pv],.bool true,.bool true])).trans (LZ hm hl hg hx)) ?_
 exact .to (ss':=Bd 29) (by kernel_rfl) (PT hl _ (fun hi=>by cases jY hi;rfl) fun u=>H ix u l hx)
end
theorem yG(m:Nat):(l0 m).length=m+1:=by unfold l0;rw[List.length_map,List.length_range]
theorem PW{m:Nat}(hm:m<5):okN (some (l0 m)):=fun q hq=>by
 injection hq with hq;subst hq
 refine⟨by rw[yG];omega,fun s hs e=>?_⟩
 obtain⟨i,_,h⟩:=List.mem_map.mp hs
 injection h with h;subst h
 exact nomatch congrArg List.length e
theorem yH(m i:Nat) (h:i<m+1):(ly m)[i]? = some (.int (10+i)):=by
 unfold ly;rw[List.getElem?_map,List.getElem?_range h];rfl
theorem Yx(m:Nat) (pl:List (Option Nat)):∀d∈pl.map (aT (ly m) .none),mZ 7 d=true:=fun d hd=>by
 obtain⟨p,_,rfl⟩:=List.mem_map.mp hd
 induction p with
 |none=>exact sC 7
 |some i =>
  by_cases h:i<m+1
  ·unfold aT;simp only[Option.bind];rw[yH m i h];exact qv 7 _
  ·rw[rT (ly m) .none (by rw[jE];omega)];exact sC 7
section
variable {c:Ct}{F:Nat->List PV->Option Pr}{v u:Ve}{l:List PV}{P:aB}{m j p q:Nat}{d e x y:PV}{ss:List S}{a b:E}{ix:Ix}{bt drop:Bool}{pl:List (Option Nat)}{w:Ve}{X:List PV}{o:Option (List PV)}
noncomputable def Ia(m:Nat) (b:Bool) (pl:List (Option Nat)):Option (List PV):=(hO m b).map fun l=>pl.map (aT (l.map aD) (.str eH))
noncomputable def uP(m:Nat) (pl:List (Option Nat)):List PV:=pl.map (aT (ly m) .none)
noncomputable def yI(m:Nat) (bt drop:Bool) (pl:List (Option Nat)):PV:=yD (uP m pl) (Ia m bt pl) drop
theorem L2(hm:m<5) (hx:ix.ok):∃tv,n5 c.F (c.F 43 [H9 m bt,.lst [ix.pv],.bool drop,.bool true])=some (.t tv)/\(e9 ix=false->tv=PR (yI m bt drop) (iE (m+1) (hO m bt) ix)):=by
 have U0:(ly m).length<1000:=by rw[jE];omega
 cases hi:e9 ix with
 |true =>
  cases jY hi
  induction bt with
  |false=>exact⟨.tup [.str aa,.lst (ly m),.aK [(dU,wN (m+1))]],(told (n6 (D:=.ok (H9 m false)) rfl (sf (c.k+10) (ly m) (m+1) drop []))).trans (jc rfl (by kernel_rfl)),(fun h=>nomatch h)⟩
  |true=>exact⟨.tup [.str aa,.lst (ly m),.aK [(dU,wN (m+1)),(bP,.tup [.str aE,.lst [lz ((l0 m).map aD)],.aK []])]],(told (n6 (D:=.ok (H9 m true)) rfl (sj (c.k+10) (ly m) (m+1) (l0 m) drop []))).trans (jc rfl (by kernel_rfl)),(fun h=>nomatch h)⟩
 |false =>
  induction bt with
  |false =>
   have h:=BY (c.k+10) (ly m) U0 (m+1) ix hx (qw hi) drop []
   rw[jE] at h
   refine⟨PR (yI m false drop) (iE (m+1) none ix),(told (n6 rfl h)).trans (jc rfl ?_),fun _=>rfl⟩
   cases iE (m+1) none ix with
   |error e=>exact kY (c.k+18) e _
   |ok pl=>exact sG (c.k+12) _ _ _ _
  |true =>
   have h:=B0 (c.k+10) (ly m) U0 (m+1) (l0 m) (PW hm) ix hx (qw hi) drop []
   rw[jE] at h
   refine⟨PR (yI m true drop) (iE (m+1) (some (l0 m)) ix),(told (n6 rfl h)).trans (jc rfl ?_),fun _=>rfl⟩
   cases iE (m+1) (some (l0 m)) ix with
   |error e=>exact kY (c.k+18) e _
   |ok pl=>exact sG (c.k+12) _ _ _ _
noncomputable def Jg:List S:=match Bd 31 with| s::_=>(match s with| .gk _ _ b=>b|_=>[])|_=>[]
noncomputable def Tz:E:=.call 81 [.kept (.call 43 [.var 30,.pure (.list [.var 13]),.var 36,.bool true])]
noncomputable def U1:E:=.comp 37 (.sub (.var 14) (.int 0)) none (Jd .le (.var 37) (.var 2) (.bin .add (.int 10) (.var 37)) .none)
noncomputable def TA:E:=.comp 38 (.sub (.var 14) (.int 0)) none (Jd .le (.var 38) (.var 2) (.sub (.var 31) (.var 38)) (.str eH))
noncomputable def Dj:E:=.tup [.str ao,.pure TA,.pure (.dm [] [])]
noncomputable def L4(m:Nat) (bt:Bool) (ix:Ix) (D:Except Tx (List (Option Nat))):List (Nat×PV):=(14,jB D)::L3 m bt ix
noncomputable def vS(m:Nat) (bt:Bool) (ix:Ix) (D:Except Tx (List (Option Nat))) (u:Ve) (drop:Bool) (tv:PV):Ve:=bM (bM (bs (L4 m bt ix D) u) 36 (.bool drop)) 15 tv
theorem Jh(i:Nat):AY .le i m=decide (i<m+1):=decide_eq_decide.mpr (Int.ofNat_le.trans Nat.lt_succ_iff.symm)
theorem TF:pe F 43 U1 (vS m bt ix (.ok pl) u drop y)=some (.f (.lst (uP m pl))) :=
 jX (F:=F) (v:=vS m bt ix (.ok pl) u drop y) (x:=37) (src:=.sub (.var 14) (.int 0)) (L:=pl) (enc:=cF) (aT (ly m) .none) (by kernel_rfl) (uL (n:=m) (y:=.var 2) (a:=.bin .add (.int 10) (.var 37)) (b:=.none) .le (fun i=>(jE m).symm▸Jh i) (fun i=>rfl) (fun it=>rfl) (fun it=>by kernel_rfl) (fun i h=>(yH m i (jE m▸h)).symm▸(by kernel_rfl)) fun it=>rfl)
noncomputable def vT(m:Nat) (ix:Ix) (pl:List (Option Nat)) (u:Ve) (drop:Bool) (tv:PV):Ve:=bM (bM (vS m true ix (.ok pl) u drop tv) 18 (.lst (uP m pl))) 35 .none
theorem TG:pe F 43 TA (vT m ix pl u drop y)=some (.f (.lst (pl.map (aT ((l0 m).map aD) (.str eH))))):=by
 have hl:((l0 m).map aD).length=m+1:=by rw[List.length_map,yG]
 exact jX (F:=F) (v:=vT m ix pl u drop y) (x:=38) (src:=.sub (.var 14) (.int 0)) (L:=pl) (enc:=cF) (aT ((l0 m).map aD) (.str eH)) (by kernel_rfl) (uL (n:=m) (y:=.var 2) (a:=.sub (.var 31) (.var 38)) (b:=.str eH) .le (fun i=>hl.symm▸Jh i) (fun i=>rfl) (fun it=>rfl) (fun it=>by kernel_rfl) (fun i _=>(by kernel_rfl:_=jb ((((l0 m).map aD)[i]?).map Pr.t)).trans (by cases((l0 m).map aD)[i]?<;>rfl)) fun it=>rfl)
theorem TH:pe F 43 Dj (vT m ix pl u drop y)=some (.t (lz (pl.map (aT ((l0 m).map aD) (.str eH))))):=by
 have q:∀p,pe F 43 TA (vT m ix pl u drop y)=p->pe F 43 Dj (vT m ix pl u drop y)=(iY (some (.t (.str ao))) (iY (uJ p) (iY (some (.t (.aK []))) (some [])))).bind (fun ds=>some (.t (.tup ds))):=fun p h=>by subst h;kernel_rfl
 exact(q _ TG).trans rfl
noncomputable def oV:Option (List PV)->PV
 |none=>.none
 |some L=>lz L
noncomputable def vR(u:Ve) (X:List PV) (o:Option (List PV)) (drop:Bool):Ve:=bM (bM (bM u 18 (.lst X)) 35 (oV o)) 36 (.bool drop)
noncomputable def U3:E:=.and [.var 36,.cmp .eq (.bi .len [.var 18]) (.int 1)]
noncomputable def QE(t:Bool):E:=cond t (.dm [] []) (.dm [dU] [.tup [.str aa,.pure (.list [.bi .len [.var 18]]),.pure (.dm [] [])]])
noncomputable def TJ:E:=.ite U3 (QE true) (QE false)
noncomputable def sJ(X:List PV) (drop:Bool):Bool:=cond drop (decide ((X.length:Int)=(1:Int))) false
noncomputable def MJ(n:Nat) (t:Bool):List (Tx×PV):=cond t [] [(dU,wN n)]
noncomputable def QF(n:Nat) (o:Option (List PV)) (t:Bool):List (Tx×PV):=match o with
 |none=>MJ n t
 |some L=>cond t [(bG,lz L)] [(dU,wN n),(bP,.tup [.str aE,.lst [lz L],.aK []])]
theorem L5(X:List PV) (o:Option (List PV)) (drop:Bool):QF X.length o (sJ X drop)=uN X.length o drop:=by
 unfold uN sJ QF MJ
 induction drop with
 |false=>rw[if_neg (fun h=>nomatch h.1)];induction o<;>rfl
 |true =>
  by_cases h:X.length=1
  ·rw[if_pos ⟨rfl,h⟩,h];induction o<;>rfl
  ·rw[if_neg (fun q=>h q.2),show(cond true (decide ((X.length:Int)=1)) false)=false from decide_eq_false fun q=>h (Int.ofNat.inj q)];induction o<;>rfl
theorem TL(hc:Cl (J2 m bt)):ex c.C (.assign 39 TJ) (Gs (vR u X o drop)) (c.W l (J2 m bt))=some (.next ((Gs (vR u X o drop)).set 39 (some (.r 5))) (c.W l (J2 m bt++[.aK (MJ X.length (sJ X drop))]))):=by
 have h:pe c.F 43 U3 (vR u X o drop)=some (.t (.bool (sJ X drop))):=by induction drop<;>kernel_rfl
 rw[aC,TJ,cK,jC hc h,af,ak]
 cases sJ X drop with
 |true=>exact(by kernel_rfl:R.out (ev c.C (QE true) (Gs (vR u X o drop)) (c.W l (J2 m bt))) (fun a st=>some (.next ((Gs (vR u X o drop)).set 39 (some a)) st))=_)
 |false=>exact(by kernel_rfl:R.out (ev c.C (QE false) (Gs (vR u X o drop)) (c.W l (J2 m bt))) (fun a st=>some (.next ((Gs (vR u X o drop)).set 39 (some a)) st))=_)
noncomputable def U4:S:=match Jg.drop 7 with| s::_=>(match s with| .cut _ s=>s|s=>s)|_=>.bad
noncomputable def QG(o:Option (List PV)) (t:Bool):Nat:=match o with| none=>5|some _=>cond t 6 5
noncomputable def U5(n:Nat) (o:Option (List PV)) (t:Bool):aB:=match o with
 |none=>[.aK (MJ n t)]
 |some L=>cond t [.aK [],.aK [(bG,lz L)]] [.aK [(dU,wN n),(bP,.tup [.str aE,.lst [lz L],.aK []])]]
noncomputable def PX(n:Nat) (o:Option (List PV)) (t:Bool):Node:=match o with
 |none=>.fz (.aK (MJ n t))
 |some L=>cond t (.aK []) (.fz (.aK [(dU,wN n),(bP,.tup [.str aE,.lst [lz L],.aK []])]))
noncomputable def U6(o:Option (List PV)) (t:Bool):aB:=match o with
 |none=>[]
 |some L=>cond t [.fz (.aK [(bG,lz L)])] []
theorem TM(t:Bool):ex c.C U4 ((Gs (vR u X o drop)).set 39 (some (.r 5))) (c.W l (J2 m bt++[.aK (MJ X.length t)]))=some (.next ((Gs (vR u X o drop)).set 39 (some (.r (QG o t)))) (c.W l (J2 m bt++U5 X.length o t))):=by
 induction o<;>induction t<;>kernel_rfl
theorem E8(n:Nat) (t:Bool):Cl (J2 m bt++[PX n o t]):=by induction o<;>induction t<;>rfl
theorem L6(t:Bool):3<=QG o t:=by induction o<;>induction t<;>exact Nat.le_of_ble_eq_true rfl
theorem PY(n:Nat) (t:Bool):i6 cR (c.W l (J2 m bt++U5 n o t)) (.r (QG o t))=some (.aK (QF n o t),c.W l (J2 m bt++[PX n o t])++U6 o t):=by induction o<;>induction t<;>rfl
theorem PZ(h8:ss.take 2=[.assign 39 TJ,.cut 3 U4]) (H:Fw c (ss.drop 2) (bM (vR u X o drop) 39 (.aK (uN X.length o drop))) l (J2 m bt++[PX X.length o (sJ X drop)])):Fw c ss (vR u X o drop) l (J2 m bt):=.LX 2 fun hl hc hk=>by
 have e1:=TL (c:=c) (l:=l) (u:=u) (X:=X) (o:=o) (drop:=drop) hc
 rw[<-L5] at H
 generalize sJ X drop=t at e1 H
 have z:=wM (c:=c) (v:=vR u X o drop) (x:=39) (j:=QG o t) (d:=.aK (QF X.length o t)) (P':=J2 m bt++[PX X.length o t]) (X:=U6 o t) (l':=l) (n:=0) (TM t) (PY _ t) hk (E8 _ t) (L6 t) rfl rfl
 refine⟨_,l,J2 m bt++[PX X.length o t],hl,E8 _ t,Gs.ok hk 39 _,?_,H⟩
 rw[h8,ah,e1,au,ah,z];rfl
end
section
variable {c:Ct}{F:Nat->List PV->Option Pr}{v u:Ve}{l:List PV}{P:aB}{m:Nat}{d x y tv:PV}{ss:List S}{ix:Ix}{bt drop:Bool}{pl:List (Option Nat)}{X:List PV}{o:Option (List PV)}{D:Except Tx (List (Option Nat))}
theorem AR.base{L:List (Nat×PV)}(u:Ve):AR L (bs L u):=⟨u,rfl⟩
theorem TN(u:Ve):AR (L4 m bt ix D) (vS m bt ix D u drop tv):=((AR.base u).set _ rfl rfl).set _ rfl rfl
theorem yJ:pe F 43 (.cmp .eq (.attr (.var 13) aj) (.str bF)) (vS m bt ix D u drop tv)=some (.t (.bool (e9 ix))):=by induction ix<;>kernel_rfl
noncomputable def vU(m:Nat) (bt:Bool) (ix:Ix) (D:Except Tx (List (Option Nat))) (u:Ve) (tv:PV):Ve:=bM (bs (L4 m bt ix D) u) 15 tv
theorem Ji(ht:tv=yI m bt drop pl):Fw (c.turn (J2 m bt) (AR (L4 m bt ix D))) (Jg.drop 6) (vR (vU m bt ix D u tv) (uP m pl) (Ia m bt pl) drop) l (J2 m bt):=by
 refine PZ (by kernel_rfl) (.ifs (e:=.cmp .ne (.var 15) (.tup [.str aa,.var 18,.var 39])) false (by kernel_rfl) (n7 (d:=tv) (by kernel_rfl) ((by kernel_rfl:_=some (Pr.t (yI m bt drop pl))).trans (by rw[ht])) (by rw[ht];exact Ck _ (Yx m pl) (hO m bt) pl drop)) ?_)
 exact .to (ss':=[]) (by kernel_rfl) (.end (((((AR.base u).set _ rfl rfl).set _ rfl rfl).set _ rfl rfl |>.set _ rfl rfl).set _ rfl rfl))
theorem L7(hm:m<5) (hx:ix.ok) (h:AR (L4 m bt ix (iE (m+1) (hO m bt) ix)) v):Fw (c.turn (J2 m bt) (AR (L4 m bt ix (iE (m+1) (hO m bt) ix)))) Jg (bM v 36 (.bool drop)) l (J2 m bt):=by
 obtain⟨u,hu⟩:=h
 obtain⟨tv,h1,h2⟩:=L2 (c:=c) (m:=m) (bt:=bt) (drop:=drop) hm hx
 refine .re (Gs.bM hu 36 (.bool drop)) (.set (x:=15) (e:=Tz) (d:=tv) (by kernel_rfl) rfl ((by kernel_rfl:_=n5 c.F (c.F 43 [H9 m bt,.lst [ix.pv],.bool drop,.bool true])).trans h1) ?_)
 have hD:e9 ix=true->iE (m+1) (hO m bt) ix=.ok ((List.range (m+1)).map some):=fun hi=>by cases jY hi;rfl
 revert h2 hD
 show _->_->Fw _ _ (vS m bt ix (iE (m+1) (hO m bt) ix) u drop tv) _ _
 generalize iE (m+1) (hO m bt) ix=D
 intro h2 hD
 have hs:=TN (m:=m) (bt:=bt) (ix:=ix) (D:=D) (drop:=drop) (tv:=tv) u
 cases hi:e9 ix with
 |true =>
  cases hD hi
  exact .ifs (e:=.bi .isStr [.var 14]) false (by kernel_rfl) (by kernel_rfl) (.ifs true (by kernel_rfl) (yJ.trans (by rw[hi])) (.to (ss':=.cont::Jg.drop 3) (by kernel_rfl) (.cont hs)))
 |false =>
  have h2:=h2 hi
  induction D with
  |error e =>
   exact .ifs (e:=.bi .isStr [.var 14]) true (by kernel_rfl) (by kernel_rfl) (.ifs (e:=.cmp .ne (.var 15) (.var 14)) false (by kernel_rfl) (n7 (d:=tv) (by kernel_rfl) ((by kernel_rfl:_=some (Pr.t (.str e))).trans (by rw[h2];rfl)) (by rw[h2];exact jW e)) (.to (ss':=.cont::Jg.drop 2) (by kernel_rfl) (.cont hs)))
  |ok pl =>
   refine .ifs (e:=.bi .isStr [.var 14]) false (by kernel_rfl) (by kernel_rfl) (.ifs false (by kernel_rfl) (yJ.trans (by rw[hi])) (.wK (x:=18) (e:=U1) (by kernel_rfl) rfl (congrArg jb TF) (.set (x:=35) (e:=.none) (d:=.none) (by kernel_rfl) rfl rfl ?_)))
   induction bt with
   |false=>exact .ifs (e:=.cmp .ee (.var 31) .none) false (by kernel_rfl) (by kernel_rfl) (.to (ss':=Jg.drop 6) (by kernel_rfl) (.re (v':=vR (vU m false ix (.ok pl) u tv) (uP m pl) (Ia m false pl) drop) (by kernel_rfl) (Ji h2)))
   |true=>exact .ifs (e:=.cmp .ee (.var 31) .none) true (by kernel_rfl) (by kernel_rfl) (.set (x:=35) (e:=Dj) (by kernel_rfl) rfl TH (.to (ss':=Jg.drop 6) (by kernel_rfl) (.re (v':=vR (vU m true ix (.ok pl) u tv) (uP m pl) (Ia m true pl) drop) (by kernel_rfl) (Ji h2))))
theorem P0(hm:m<5) (hx:ix.ok) (H:∀u l,Fw c (Bd 32) (up1 u) l (J2 m bt)):Fw c (Bd 30) (bs (L3 m bt ix) u) l (J2 m bt):=by
 refine .set (x:=14) (e:=.call 80 [.var 13,.bin .add (.var 2) (.int 1),.var 31,.bool false]) (d:=jB (iE (m+1) (hO m bt) ix)) (by kernel_rfl) rfl ((by kernel_rfl:_=c.F 80 [ix.pv,.int (m+1:Nat),fJ (hO m bt),.bool false]).trans (Tc (m+1) (by omega) (hO m bt) hx)) ?_
 refine .gk (x:=36) (e:=.pure (.list [.bool false,.bool true])) (items:=[.bool false,.bool true]) (B:=Jg) (I:=AR (L4 m bt ix (iE (m+1) (hO m bt) ix))) (by kernel_rfl) (by kernel_rfl) ⟨u,by kernel_rfl⟩ (fun d hd v l h=>?_) fun v l ⟨u,h⟩=>.re h (.to (ss':=Bd 32) (by kernel_rfl) (.re (v':=up1 (bs (L4 m bt ix (iE (m+1) (hO m bt) ix)) u)) (by kernel_rfl) (H _ l)))
 rcases LB hd with rfl|rfl<;>exact L7 hm hx h
noncomputable def U7:PV:=vec aa [.int 2,.int 2] .none
noncomputable def vm:PV:=vec ao [.str MB] .none
noncomputable def QH:Bool->List (Tx×PV)
 |false=>[(dU,U7),(ir,vm)]
 |true=>[(dU,U7),(ir,vm),(bP,vec aE [vec ao [.str pO,.str pP] .none,cU] .none)]
noncomputable def i4:List PV:=[.int 1,.int 2,.int 3,.int 4]
noncomputable def FD(b:Bool):PV:=vec aa i4 (.aK (QH b))
noncomputable def U8(j:Nat):List PV:=cond (Nat.blt j 4) (i4.set j (.int 9)) (i4++List.replicate (j-4) .none++[.int 9])
noncomputable def P4:Bool->List (Tx×PV)
 |false=>[(dU,.tup [.str aa,.lst [.int 2,.int 2],.aK []]),(ir,lz [.str MB])]
 |true=>[(dU,.tup [.str aa,.lst [.int 2,.int 2],.aK []]),(ir,lz [.str MB]),(bP,.tup [.str aE,.lst [lz [.str pO,.str pP],.str bq],.aK []])]
noncomputable def P5(b:Bool) (j:Nat):PV:=vec aa (U8 j) (.aK (cond (Nat.blt j 4) (QH b) [(ir,vm)]))
noncomputable def E9(b:Bool) (j:Nat):PV:=.tup [.str aa,.lst (U8 j),.aK (cond (Nat.blt j 4) (P4 b) [(ir,lz [.str MB])])]
noncomputable def P6(b:Bool):PV:=.tup [.str aa,.lst i4,.aK (P4 b)]
noncomputable def U9:List (Bool×Nat):=[false,true].flatMap fun b=>(List.range 8).map fun j=>(b,j)
theorem oi{α:Type}{f g:Bool×Nat->α}(h:U9.map f=U9.map g) (b:Bool){j:Nat}(hj:j<8):f (b,j)=g (b,j):=List.map_inj_left.mp h _ (List.mem_flatMap.mpr ⟨b,(by induction b<;>decide),List.mem_map.mpr ⟨j,List.mem_range.mpr hj,rfl⟩⟩)
theorem TP(k:Nat) (b:Bool){j:Nat}(hj:j<8):call T (k+20) 67 [.t (FD b),.t (.lst [d8 j]),.t (vec aa [.int 9] .none),.t (.lst [])] []=ok (.t (P5 b j)) [] :=
 congrFun (oi (f:=fun q k=>call T (k+20) 67 [.t (FD q.1),.t (.lst [d8 q.2]),.t (vec aa [.int 9] .none),.t (.lst [])] []) (g:=fun q k=>ok (.t (P5 q.1 q.2)) []) (by kernel_rfl) b hj) k
theorem TR(k:Nat) (b:Bool){j:Nat}(hj:j<8):call T (k+20) 81 [.t (P5 b j)] []=ok (.t (E9 b j)) [] :=
 congrFun (oi (f:=fun q k=>call T (k+20) 81 [.t (P5 q.1 q.2)] []) (g:=fun q k=>ok (.t (E9 q.1 q.2)) []) (by kernel_rfl) b hj) k
theorem Fb{d:PV}(h:CD d=true):eqT d d=some true:=by
 cases d with
 |tup l=>exact jV (List.all_eq_true.mp h)
 |_=>injection h
theorem AS(b:Bool){j:Nat}(hj:j<8):eqT (E9 b j) (E9 b j)=some true:=Fb (oi (f:=fun q=>CD (E9 q.1 q.2)) (g:=fun _=>true) (by kernel_rfl) b hj)
noncomputable def QI(m:Nat) (bt b:Bool):aB:=J2 m bt++[.fz (.aK (QH b)),.fz (FD b)]
noncomputable def ML(m:Nat) (bt b:Bool):aB:=J2 m bt++[.aK (QH b),iV (.t (.str aa)) (.t (.lst i4)) (.r 5)]
noncomputable def QJ:List S:=match(Bd 33) with| s::_=>(match s with| .cut _ s=>(match s with| .ifs _ a _=>a|_=>[])|_=>[])|_=>[]
theorem TS:bO c.C ((Bd 32).take 1) (Gs (up1 u)) (c.W l (J2 m bt))=some (.next ((Gs (up1 u)).set 40 (some (.r 6))) (c.W l (ML m bt false))):=by kernel_rfl
theorem TU:bO c.C QJ ((Gs (up1 u)).set 40 (some (.r 6))) (c.W l (ML m bt false))=some (.next ((Gs (up1 u)).set 40 (some (.r 6))) (c.W l (ML m bt true))):=by kernel_rfl
theorem P7(H:∀b l,Fw c (Bd 34) (bM (up1 u) 40 (FD b)) l (QI m bt b)):Fw c (Bd 32) (up1 u) l (J2 m bt):=.LX 2 fun hl hc hk=>by
 have hp:∀b,Cl (QI m bt b):=fun b=>rfl
 obtain⟨t,l',r,e⟩:=AO (c:=c) (g:=(Gs (up1 u)).set 40 (some (.r 6))) (A:=QJ) hl (P:=ML m bt false) rfl (by kernel_rfl)
 have e':ex c.C (.ifs (.cmp .eq (eR (.int 2)) (.int 1)) QJ []) ((Gs (up1 u)).set 40 (some (.r 6))) (c.W l (ML m bt false))=some (.next ((Gs (up1 u)).set 40 (some (.r 6))) (c.W l' (ML m bt t))):=by
  induction t with
  |false=>exact e
  |true=>exact e.trans TU
 have z:=wM (c:=c) (v:=up1 u) (x:=40) (j:=6) (d:=FD t) (P':=QI m bt t) (X:=[]) (l':=l') (n:=0) e' (by induction t<;>rfl) hk (hp t) (by decide) rfl rfl
 refine⟨_,l',QI m bt t,r,hp t,Gs.ok hk 40 _,?_,.to (ss':=Bd 34) (by kernel_rfl) (H t l')⟩
 rw[show(Bd 32).take 2=(Bd 32).take 1++[.cut 3 (.ifs (.cmp .eq (eR (.int 2)) (.int 1)) QJ [])] by kernel_rfl,nL,TS]
 show mE (ex _ _ _ _) _ []=_
 rw[z];rfl
noncomputable def Yy:E:=.call 81 [.call 67 [.var 40,.pure (.list [.pure (.new .aJ 2 [.str aa,.pure (.list [.var 41])])]),.pure (.new .aJ 2 [.str aa,.pure (.list [.int 9])]),.pure (.list [])]]
noncomputable def vZ(u:Ve) (b:Bool) (j:Nat):Ve:=bM (bM (bM (bM (up1 u) 40 (FD b)) 41 (.int ((j+1:Nat):Int))) 15 (E9 b j)) 16 (P6 b)
noncomputable def rA:E:=.tup [.str aa,.pure (.bin .add (.pure (.bin .add (.pure (.list [.int 1,.int 2,.int 3,.int 4])) (.pure (.bin .mul (.pure (.list [.none])) (.bin .sub (.var 41) (.int 5)))))) (.pure (.list [.int 9]))),.var 39]
noncomputable def rB:E:=.tup [.str aa,.pure (.cM 42 [.int 1,.int 5] none (.ite (.cmp .eq (.var 42) (.var 41)) (.int 9) (.var 42))),.sub (.var 16) (.int 2)]
noncomputable def wZ(u:Ve) (q:Bool×Nat):Ve:=cond (Nat.blt q.2 4) (vZ u q.1 q.2) (bM (vZ u q.1 q.2) 39 (.aK [(ir,lz [.str MB])]))
theorem Yz(F:Nat->List PV->Option Pr) (u:Ve) (b:Bool){j:Nat}(hj:j<8):pe F 43 (cond (Nat.blt j 4) rB rA) (wZ u (b,j))=some (.t (E9 b j)) :=
 congrFun (congrFun (oi (f:=fun q F u=>pe F 43 (cond (Nat.blt q.2 4) rB rA) (wZ u q)) (g:=fun q F u=>some (.t (E9 q.1 q.2))) (by kernel_rfl) b hj) F) u
theorem YA(F:Nat->List PV->Option Pr) (u:Ve) (b:Bool){j:Nat}(hj:j<8):pe F 43 (.cmp .gt (.var 41) (.int 4)) (vZ u b j)=some (.t (.bool (!Nat.blt j 4))) :=
 congrFun (congrFun (oi (f:=fun q F u=>pe F 43 (.cmp .gt (.var 41) (.int 4)) (vZ u q.1 q.2)) (g:=fun q F u=>some (.t (.bool (!Nat.blt q.2 4)))) (by kernel_rfl) b hj) F) u
theorem P8(b:Bool) (hq:∀st,c.Q (some (.ret (.t (.bool true)) st))):Fw c (Bd 34) (bM (up1 u) 40 (FD b)) l P:=by
 refine .asg (x:=41) (M:=.int 8) 8 (fun j=>.int ((j+1:Nat):Int)) (by kernel_rfl) rfl rfl rfl AI fun j l hj=>?_
 refine .set (x:=15) (e:=Yy) (d:=E9 b j) (by kernel_rfl) rfl ((by kernel_rfl:_=o5 c.F (c.F 67 [FD b,.lst [d8 j],vec aa [.int 9] .none,.lst []])).trans ?_) ?_
 ·rw[jc (c:=c) (f:=67) (ds:=[FD b,.lst [d8 j],vec aa [.int 9] .none,.lst []]) rfl (TP c.k b hj)]
  exact(jc rfl (TR c.k b hj):c.F 81 [P5 b j]=_)
 refine .set (x:=16) (e:=.call 81 [.var 40]) (d:=P6 b) (by kernel_rfl) rfl ((by kernel_rfl:_=c.F 81 [FD b]).trans (jc rfl (by induction b<;>kernel_rfl))) ?_
 have z:=Yz c.F u b hj
 refine .ifs (e:=.cmp .gt (.var 41) (.int 4)) (!Nat.blt j 4) (by kernel_rfl) (YA c.F u b hj) ?_
 unfold wZ at z
 revert z
 dsimp only
 cases Nat.blt j 4 with
 |true=>exact fun z=>.ret (a:=.var 15) (b:=rB) (d:=E9 b j) (by kernel_rfl) (by kernel_rfl) z (AS b hj) hq
 |false=>exact fun z=>.wK (x:=39) (e:=.dm [ir] [.sub (.sub (.var 16) (.int 2)) (.str ir)]) (by kernel_rfl) rfl (by induction b<;>kernel_rfl) (.ret (a:=.var 15) (b:=rA) (d:=E9 b j) (by kernel_rfl) (by kernel_rfl) z (AS b hj) hq)
end
theorem L8(c:Ct) (hq:∀st,c.Q (some (.ret (.t (.bool true)) st))) (v:Ve) (hv:∀m,Gs (bM v 2 (.int (m:Nat)))=Gs (vA m v)) (h1:v 1=some (.r 2)) (l:List PV):Fw c (Bd 1) v l [] :=
 S9 v hv h1 fun m ts u l hm hl ht=>Tg hm hl ht fun u l=>Ti hm fun u l=>PC hm hl ht fun u l j hj=>PK hm hl ht hj fun u l =>
  .re (v':=vA m (bM (bM (bM (bM (bM u 4 (UT ts)) 7 (lZ m (none::ts))) 8 (LG m ts)) 9 (.int ((m+1:Nat):Int))) 11 (ES ts))) (by kernel_rfl) (PM hm fun c6 u l hn hg=>PO hm fun b u l=>PU hm hn hg fun ix u l hx=>P0 hm hx fun u l=>P7 fun b l=>P8 b hq)
theorem Fe(k:Nat) (zs:List Int):call T (k+21) 83 [.t (.lst (zs.map PV.int))] []=ok (.t (.bool true)) []:=by
 obtain⟨la,lb,l,hl,h0⟩:=HL (k+19) zs
 obtain⟨st',h⟩:=L8 ⟨k,la,lb,fun o=>∃st',o=some (.ret (.t (.bool true)) st')⟩ (fun st=>⟨st,rfl⟩) (up1 (bM (fun _=>none) 0 (.lst (zs.map PV.int)))) (fun m=>by kernel_rfl) rfl l hl rfl (fun x hx i e=>by
  subst e
  obtain⟨j,_,h⟩:=List.mem_map.mp hx
  unfold up1 bM at h
  cases h1:Nat.beq j 1 with
  |true=>rw[h1] at h;(injection h with h;injection h with h;subst h);decide
  |false=>rw[h1] at h;cases h0:Nat.beq j 0<;>rw[h0] at h<;>cases h)
 refine bz (ds:=[.lst (zs.map PV.int)]) (g:=Gv 43 (bM (fun _=>none) 0 (.lst (zs.map PV.int)))) (a:=.t (.bool true)) (st':=st') rfl (by kernel_rfl) (aN 1 (g':=Gs (up1 (bM (fun _=>none) 0 (.lst (zs.map PV.int))))) (st':=W la lb l []) ?_ h) rfl
 rw[show(T 83).body.take 1=[.assign 1 (.call 74 [.var 0])] by kernel_rfl,ah,aC]
 rw[show ev (call T (k+20)) (.call 74 [.var 0]) (Gv 43 (bM (fun _=>none) 0 (.lst (zs.map PV.int)))) []=call T (k+20) 74 [.t (.lst (zs.map PV.int))] [] by kernel_rfl,h0]
 kernel_rfl
end Mine
namespace Mine
open PySem PySem.W PySem.Calls PyProof.Rows
theorem has_int{d:WData}(h:WShape.has [] d .int=true):∃z:Int,d=.int z:=by
 cases d<;>first| exact⟨_,rfl⟩|exact absurd (show false=true from h) Bool.false_ne_true
theorem pY:∀{xs:List WData},WShape.hasItems [] xs .int=true->∃zs:List Int,xs=zs.map .int
 |[],_=>⟨[],rfl⟩
 |x::xs,h=>by
  obtain⟨h1,h2⟩:=Bool.and_eq_true_iff.mp (show(WShape.has [] x .int&&WShape.hasItems [] xs .int)=true from h)
  obtain⟨z,rfl⟩:=has_int h1
  obtain⟨zs,rfl⟩:=pY h2
  exact⟨z::zs,rfl⟩
theorem Ib{args:List WData}(h:WShape.hasAll [] args [.list .int]=true):∃zs:List Int,args=[.list (zs.map .int)]:=by
 obtain⟨d,r,rfl,h1,h2⟩:=hasAllW_cons h
 have h3:r=[]:=by cases r with| nil=>rfl|cons _ _=>cases h2
 subst h3
 cases d with
 |list xs=>obtain⟨zs,rfl⟩:=pY (xs:=xs) ((Bool.or_false _).symm.trans (show(WShape.hasItems [] xs .int||false)=true from h1));exact⟨zs,rfl⟩
 |_=>exact absurd (show false=true from h1) Bool.false_ne_true
theorem lay_ints{cl:Str->Option Addr}{P:Params}{ord:List DictEntry->List DictEntry}:∀(zs:List Int) (s:Shared) (r:List Value×Shared),layAllW [] cl P ord (zs.map .int) s=some r->r.2.heap=s.heap/\∀G,bh G r.1 (zs.map .int)
 |[],s,r,e=>by cases e;exact⟨rfl,fun _=>.nil⟩
 |z::zs,s,r,e=>by
  obtain⟨a,q,h1,h2,rfl⟩:=layAllW_cons e
  cases h1
  obtain⟨h3,h4⟩:=lay_ints zs _ _ h2
  exact⟨h3,fun G=>.cons (.int z _) (h4 G)⟩
theorem Ma(zs:List Int) (h8:(WTm.and (.not (.lt (.lit (.int (63:Nat))) (.len (.arg 0)))) (.lit (.bool true))).holds [] { args:=[.list (zs.map .int)] }=true):zs.length<=63:=by
 rcases Nat.lt_or_ge 63 zs.length with h|h
 ·exfalso
  have h9:less? (.int 63) (.int (zs.length:Int))=some true:=congrArg some (decide_eq_true (by omega))
  simp[WTm.holds,WTm.value,h9] at h8
 ·exact h
theorem Ic{h₀ h h':Heap}{b:Addr}{o:Obj}(k:∀b o,h₀.get? b=some o->h.get? b=some o) (e:h₀.get? b=some o) (x:asItWas h₀ h' b o):asItWas h h' b o:=by
 rcases x with x|⟨⟨c,oc,vs,a1,a2,a3,a4⟩,r⟩|⟨rfl,hc,r,z⟩
 ·exact .inl x
 ·exact .inr (.inl ⟨⟨c,oc,vs,k _ _ a1,a2,a3,a4⟩,r⟩)
 ·refine .inr (.inr ⟨rfl,hc,r,fun key=>?_⟩)
  rw[OldK.staticOf_congr ((k _ _ e).trans e.symm) key];exact z key
noncomputable def yK(vs:List Value) (s:Shared):Wd:=⟨fun a=>if a=1084 then .fz (.lst vs 0) else .out,[],[],s⟩
theorem AU{vs:List Value}{s:Shared}:(yK vs s).G 1084=.fz (.lst vs 0):=if_pos (e:=.out) (Eq.refl (1084:Addr))
theorem Ff{G:Addr->Lg}{v:Value}{b:Bool}:Rep G v (.bool b)->v=.bool b
 |.bool _=>rfl
 |.ref _ q _=>nomatch q
theorem AW{vs:List Value}{s:Shared}{a:Addr}{o:FO}(e:(yK vs s).G a=.fz o):a=1084/\o=.lst vs 0:=by
 by_cases q:a=1084
 ·exact⟨q,by have:=(if_pos q).symm.trans e;cases this;rfl⟩
 ·have:=(if_neg q).symm.trans e;cases this
theorem yL{vs:List Value}{s:Shared}{a:Addr}(e:(yK vs s).G a≠.out):a=1084:=Classical.byContradiction fun q=>e (if_neg q)
theorem Ie{w:World}{s:Shared}{vs:List Value}(h1:s.heap=(hE w.params).push (je vs)) (h2:s.gens=#[]) (hl:s.heap.NoLimit):Inv (xW w s.os) (yK vs s)/\s.heap.get? 1084=some (je vs):=by
 have hk:∀b o,(hE w.params).get? b=some o->s.heap.get? b=some o:=fun b o e=>by rw[h1];exact Heap.get?_push_of_some _ e
 have hn:s.heap.get? 1084=some (je vs):=by
  have:=Heap.get?_push_size (hE w.params) (o:=je vs) rfl
  rw[xX] at this
  rw[h1];exact this
 have hsz:s.heap.objs.size=1085:=by rw[h1,Heap.size_push,xX]
 have en:(xW w s.os).cX=1084:=xX _
 obtain⟨_,l2,_⟩:=nH (OV w)
 refine⟨⟨⟨rfl,fun i p nd e=>(nomatch e),fun i p nd e=>(nomatch e),fun a o e=>?_,fun a c dx gs e=>?_,fun a e=>?_,fun a e=>?_⟩,.of_keep hk,rfl,h2,hl,?_,?_,?_,.mk #[] (hk _ _ l2) trivial fun pos cv e=>(nomatch e)⟩,hn⟩
 ·obtain⟨rfl,rfl⟩:=AW e;exact hn
 ·cases(AW e).2
 ·rw[en,yL e];exact Nat.le_refl _
 ·rw[yL e];exact⟨_,hn⟩
 ·rw[en];decide
 ·rw[en];exact(by decide:1080<1084)
 ·rw[en];show 1084<=s.heap.objs.size;rw[hsz];decide
theorem Fg(Cv:∀zs:List Int,call T 21 83 [.t (.lst (zs.map .int))] []=ok (.t (.bool true)) []) (w:World) (s cz:Shared) (hs:s.heap=hE w.params) (zs:List Int) (hz:zs.length<=63) (vs:List Value) (hv:∀G,bh G vs (zs.map .int))
  (h1:cz.heap=s.heap.push (je vs)) (h2:cz.gens=#[]) (hl:cz.heap.NoLimit){c:ClaimW}(hr:c.raises=fun _ _=>false) (hp:∀a d,c.post a (.bool true) d=true) (cl:Str->Option Addr) (Ig:ExcName->Option Value) (args:List WData) :
  wpAny (model PySem.Challenge.pw_nz0546_01 w) callerA (PySem.call (.ref 1083) [.ref 1084]) (fun v s'=>GoodWG c cl Ig args cz (.ok (.ret v)) s') (fun e s'=>GoodWG c cl Ig args cz (.error e) s') cz:=by
 rw[hs] at h1
 obtain⟨I,hn⟩:=Ie h1 h2 hl
 have hC:=walk (OY w cz.os) 21 callerA.depth callerA.units (by decide +kernel) (by decide +kernel) 83 callerA [] rfl rfl (Nat.le_add_right _ _) (Nat.le_add_right _ _)
 have hk:∀b o,(hE w.params).get? b=some o->cz.heap.get? b=some o:=fun b o e=>by rw[h1];exact Heap.get?_push_of_some _ e
 refine wpAny_call (codeAny_mono (hC (yK vs cz) [.ref 1084] [.t (.lst (zs.map .int))] I ⟨(fun a ha=>nomatch ha),(fun a ha=>nomatch ha),(fun e he=>nomatch he)⟩ (.cons (Rep.ref AU (.lst (by rw[List.length_map];exact Nat.le_trans hz (by decide))) (hv _)) .nil) (fun v s'=>GoodWG c cl Ig args cz (.ok (.ret v)) s') (fun e s'=>GoodWG c cl Ig args cz (.error e) s')
  ⟨(by rw[show(yK vs cz).st=[] from rfl,Cv zs];exact fun q=>by cases q),fun b v w' e ev rel=>?_,fun m u w' e=>?_⟩) fun r s' z=>?_)
 ·rw[show(yK vs cz).st=[] from rfl,Cv zs] at e
  have e1:AV.t (.bool true)=b:=(Prod.mk.inj (Except.ok.inj (Option.some.inj e))).1
  subst e1
  replace rel:Rep w'.G v (.bool true):=rel
  cases Ff rel
  refine⟨.inl ⟨_,.bool true,[],rfl,fun cls=>by rw[hr],.bool true,hp _ _,fun _=>⟨.nil,fun a ha=>nomatch ha⟩⟩,⟨fun b o e=>?_,fun b o e=>?_⟩,ev.inv.os,.of_eq ev.inv.gens⟩
  all_goals
   rw[h1] at e
   rcases Heap.get?_push_cases e with⟨hb,rfl⟩|e'
   ·rw[xX] at hb
    subst hb
    have Va:=ev.inv.rel.fz 1084 _ (ev.sub 1084 _ AU)
    first
     |exact .inl Va
     |exact⟨_,Va⟩
   ·first
     |exact Ic hk e' (ev.inv.old.old b o e')
     |exact ev.inv.old.there b o e'
 ·rw[show(yK vs cz).st=[] from rfl,Cv zs] at e;cases e
 ·induction r with
  |error e=>exact z
  |ok fl=>induction fl with
   |ret v=>exact z
   |_=>exact z.elim
theorem cN{a b:Bool}(h:a=true) (k:b=true):(a&&b)=true:=by rw[h,k];rfl
theorem YB:namesResolve PySem.Challenge.rw_nz0546_01.row.prog=true:=by kernel_rfl
theorem TV:(!(importedModules PySem.Challenge.rw_nz0546_01.row.prog.main.body).all cThrough.contains)=false:=by kernel_rfl
theorem TX:readsOut PySem.Challenge.rw_nz0546_01.row.prog PySem.Challenge.rw_nz0546_01.row.prog.main.body "vars" = false:=by kernel_rfl
theorem TY:readsOut PySem.Challenge.rw_nz0546_01.row.prog PySem.Challenge.rw_nz0546_01.row.prog.main.body "dir" = false:=by kernel_rfl
theorem TZ:readsOut PySem.Challenge.rw_nz0546_01.row.prog PySem.Challenge.rw_nz0546_01.row.prog.main.body "locals" = false:=by kernel_rfl
theorem T3:noRoadLSs { strict:=false,foot:=none } PySem.Challenge.rw_nz0546_01.row.prog.main.body=true:=by kernel_rfl
theorem P9{f:Str->Bool}{x y z:Str}(h:f x=false) (k:f y=false) (l:f z=false):[x,y,z].filter f=[]:=by rw[List.filter,h,List.filter,k,List.filter,l];rfl
theorem Ih{a:Bool}{b:List Str}{s:List Stmt}(h:a=false) (k:b=[]) (l:noRoadLSs { strict:=false,foot:=none } s=true):noRoadLSs { strict:=a,foot:=none,bare:=b } s=true:=by subst h k;exact l
theorem YC:noRoadLSs { strict:=!(importedModules PySem.Challenge.rw_nz0546_01.row.prog.main.body).all cThrough.contains,foot:=none,bare:=(["vars","dir","locals"]:List Str).filter (readsOut PySem.Challenge.rw_nz0546_01.row.prog PySem.Challenge.rw_nz0546_01.row.prog.main.body) } PySem.Challenge.rw_nz0546_01.row.prog.main.body=true:=Ih TV (P9 TX TY TZ) T3
theorem YD:namesMeet PySem.Challenge.rw_nz0546_01.row.prog PySem.Challenge.rw_nz0546_01.row.prog.main.body (fun _ n=>attrL n)=true:=by kernel_rfl
theorem YE:looksOpen PySem.Challenge.rw_nz0546_01.row.prog=true:=by
 unfold looksOpen
 exact cN (cN (cN (cN (cN (by kernel_rfl) (by kernel_rfl)) YB) (by kernel_rfl)) YC) YD
theorem YF:OpenRow.partSaid PySem.Challenge.rw_nz0546_01.row=true:=by
 unfold OpenRow.partSaid
 refine cN (cN (cN (cN (cN (cN (cN (cN (cN (cN (cN (cN (cN YE ?_) ?_) ?_) ?_) ?_) ?_) ?_) ?_) ?_) ?_) ?_) ?_) ?_
 all_goals kernel_rfl
theorem Vb:PySem.Challenge.rw_nz0546_01.row.wellSaid=true:=by
 unfold OpenRow.wellSaid
 exact cN (cN YF (by kernel_rfl)) (by kernel_rfl)
theorem YG:(PySem.Challenge.rw_nz0546_01.bound'.all (fun n=>!builtinNamed n||PySem.Challenge.rw_nz0546_01.about==[n]||!PySem.Challenge.rw_nz0546_01.reads n))=true:=by kernel_rfl
theorem YH:namesMeet PySem.Challenge.rw_nz0546_01.prog PySem.Challenge.rw_nz0546_01.above (fun _ n=>!PySem.Challenge.rw_nz0546_01.own.contains n)=true:=by kernel_rfl
theorem YI:noRoadLSs { strict:=true,foot:=some PySem.Challenge.rw_nz0546_01.bound',writes:=PySem.Challenge.rw_nz0546_01.writes,may:=PySem.Challenge.rw_nz0546_01.may } PySem.Challenge.rw_nz0546_01.footing=true:=by kernel_rfl
theorem Mb:PySem.Challenge.rw_nz0546_01.wellSaid=true:=by
 unfold OpenLaw.wellSaid
 refine cN (cN (cN (cN (cN (cN (cN (cN (cN (cN (cN (cN (cN (cN (cN (cN (cN (cN Vb ?_) ?_) ?_) ?_) ?_) YI) ?_) ?_) ?_) YG) ?_) ?_) ?_) ?_) ?_) ?_) YH) ?_
 all_goals kernel_rfl
noncomputable def MM(x:Str):Nat:=x.cps.toList.foldr (fun c a=>a*1000+c) 0
noncomputable def apart:List (Str×NameKind)->Bool
 |[]=>true
 |a::r=>r.all (fun b=>!(Nat.beq (MM a.1) (MM b.1)))&&apart r
theorem Vc{x y:Str}(h:(!(Nat.beq (MM x) (MM y)))=true){p:Prop}(e:x=y):p:=by rw[e,Nat.beq_refl] at h;injection h
theorem Mc(x:Str×NameKind):∀l:List (Str×NameKind),apart l=true->(x∈l->l.filter (fun y=>y.1==x.1)=[x])/\(l.all (fun b=>!(Nat.beq (MM x.1) (MM b.1)))=true->l.filter (fun y=>y.1==x.1)=[]):=fun l=>by
 induction l with
 |nil=>exact fun _=>⟨(fun m=>nomatch m),fun _=>rfl⟩
 |cons y r ih =>
  intro h
  have h:=Bool.and_eq_true_iff.mp h
  have z:=ih h.2
  refine⟨fun m=>?_,fun q=>?_⟩
  ·cases List.mem_cons.mp m with
   |inl e =>
    subst e
    exact(List.filter_cons_of_pos (p:=fun y:Str×NameKind=>y.1==x.1) (beq_self_eq_true x.1)).trans (congrArg (x::·) (z.2 h.1))
   |inr m=>exact(List.filter_cons_of_neg (p:=fun y:Str×NameKind=>y.1==x.1) fun e=>Vc (List.all_eq_true.mp h.1 _ m) (eq_of_beq e)).trans (z.1 m)
  ·have q:=Bool.and_eq_true_iff.mp q
   exact(List.filter_cons_of_neg (p:=fun y:Str×NameKind=>y.1==x.1) fun e=>Vc q.1 (eq_of_beq e).symm).trans (z.2 q.2)
theorem Fi{sc:Scope}(h:apart sc.names=true):TablesWhole.noTwice sc=true:=List.all_eq_true.mpr fun x m=>by
 dsimp only
 rw[(Mc x _ h).1 m]
theorem Fj{p:Program}(h0:TablesWhole.wSs TablesWhole.gather p.main.scope ⟨p.main.scope,[],[],[],none⟩ p.main.scope p.main.body=[]) (h1:TablesWhole.noTwice p.main.scope=true) (h2:TablesWhole.wSs TablesWhole.holds p.main.scope ⟨p.main.scope,[],[],[],none⟩ p.main.scope p.main.body=true)
  (h3:p.modules=[]) (h4:p.parses=[]) (h5:p.harvested=[]):p.tablesWhole=true:=by
 show(((true&&(TablesWhole.noTwice p.main.scope&&(TablesWhole.wSs TablesWhole.holds p.main.scope ⟨p.main.scope,[],TablesWhole.wSs TablesWhole.gather p.main.scope ⟨p.main.scope,[],[],[],none⟩ p.main.scope p.main.body,[],none⟩ p.main.scope p.main.body&&true))) &&
  (TablesWhole.holds.all (p.modules.map fun(_,_,m)=>TablesWhole.wModule TablesWhole.holds m)&&(TablesWhole.holds.all (p.parses.map (TablesWhole.wParse TablesWhole.holds))&&(TablesWhole.holds.all (p.harvested.map (TablesWhole.wParse TablesWhole.holds))&&true)))))=true
 rw[h0,h1,h2,h3,h4,h5]
 rfl
theorem YJ:TablesWhole.wSs TablesWhole.gather PySem.Challenge.pw_nz0546_01.main.scope ⟨PySem.Challenge.pw_nz0546_01.main.scope,[],[],[],none⟩ PySem.Challenge.pw_nz0546_01.main.scope PySem.Challenge.pw_nz0546_01.main.body=[]:=by kernel_rfl
theorem YK:apart PySem.Challenge.pw_nz0546_01.main.scope.names=true:=by kernel_rfl
theorem YL:TablesWhole.wSs TablesWhole.holds PySem.Challenge.pw_nz0546_01.main.scope ⟨PySem.Challenge.pw_nz0546_01.main.scope,[],[],[],none⟩ PySem.Challenge.pw_nz0546_01.main.scope PySem.Challenge.pw_nz0546_01.main.body=true:=by kernel_rfl
theorem tw:PySem.Challenge.pw_nz0546_01.tablesWhole=true:=Fj YJ (Fi YK) YL rfl rfl rfl
theorem zN{tb:String->Option Builtin}{p:Program}{w:World}{N:Nat}{tG cz:Shared}(h0:(tG.heap.isNs mainGlobals&&tG.gens.size==0)=true)
  (h1:topRun tb p w tG.heap.objs.size (tG.heap.nsMap mainGlobals "__annotations__") N tG (topStub p)=some cz)
  (h2:(staticsOk (importedModules p.main.body) tG.heap cz.heap&&namesBound p cz.heap&&gensDone cz&&laidKept tG.heap cz.heap)=true):topFrom tb p w N tG=some cz:=by
 unfold topFrom
 rw[h0]
 dsimp only
 rw[h1,Option.bind_some,h2]
theorem Qa(run:∀w os,topRun treeTable PySem.Challenge.pw_nz0546_01 w 11 (some (.ref 6)) 200000 (fO w os) (topStub PySem.Challenge.pw_nz0546_01)=some (j9 w os)) :
  LeftO PySem.Challenge.pw_nz0546_01 MQ uT (fun _=>true) (fun s=>s.heap) (fun w=>hE w.params) 200000:=fun w=>by
 obtain⟨s,hs,hv⟩:=Option.map_eq_some_iff.mp (Vo w)
 have GQ:s=fO w s.os:=by
  obtain⟨hp,g,d,t,os⟩:=s
  simp only[Prod.mk.injEq] at hv
  obtain⟨rfl,rfl,rfl,rfl⟩:=hv
  rfl
 have h1:=run w s.os
 rw[<-st1 w s.os,<-st2 w s.os] at h1
 have h2:=zN (Vp w s.os) h1 (QU w s.os)
 rw[<-GQ] at h2
 unfold openEnds
 rw[hs,Option.bind_some,h2,Option.map_some]
 exact congrArg some (Prod.ext (MR w s.os) (by unfold j9;rfl))
theorem Qc(w:World):(hE w.params).nsMap mainGlobals "law" = some (.ref 1083)/\(hE w.params).get? 1083=some { cls:=.type "function",dict:=none,data:=.func (sP (jL w.params 1083)),slots:=(jL w.params 1083).slots } /\
  PySem.Challenge.pw_nz0546_01.theDef "law" = some ((sP (jL w.params 1083)).params,jh (sP (jL w.params 1083)),(sP (jL w.params 1083)).scope)/\(sP (jL w.params 1083)).name = "law" /\ (sP (jL w.params 1083)).qualname = "law" /\ (sP (jL w.params 1083)).body=.stmts (jh (sP (jL w.params 1083))) /\
  (sP (jL w.params 1083)).globals=mainNs/\(sP (jL w.params 1083)).closure=[]/\(sP (jL w.params 1083)).builtins=builtinsNs/\(sP (jL w.params 1083)).params.defaults=[]/\(sP (jL w.params 1083)).defaults=.none /\
  kwWritten? (sP (jL w.params 1083)).params.kwonlyargs (sP (jL w.params 1083)).params.kw_defaults=some []/\(sP (jL w.params 1083)).kwdefaults=.none :=
 ⟨by kernel_rfl,by kernel_rfl,by kernel_rfl,by kernel_rfl,by kernel_rfl,by kernel_rfl,by kernel_rfl,by kernel_rfl,by kernel_rfl,by kernel_rfl,by kernel_rfl,by kernel_rfl,by kernel_rfl⟩
theorem YM:chainsOk MQ=true:=by kernel_rfl
theorem YN:opensWell PySem.Challenge.pw_nz0546_01=true:=by kernel_rfl
theorem YO:frees PySem.Challenge.rw_nz0546_01.row.toRowW=true:=by kernel_rfl
theorem Vd:PySem.Challenge.rw_nz0546_01.row.toRowW.promised:=⟨[.list [.int 3,.int 1]],by decide +kernel,by decide +kernel⟩
theorem YQ:PySem.Challenge.pw_nz0546_01.bare:=⟨rfl,rfl,rfl,rfl,rfl,tw⟩
theorem Ii(Cv:∀zs:List Int,call T 21 83 [.t (.lst (zs.map .int))] []=ok (.t (.bool true)) []){w:World}{s:Shared}(hy:s.heap=hE w.params) (hz:s.asleep) (Jj:s.gens=#[]) (G:Ground MQ uT [] (fun _ _=>True) w s (s.heap.nsMap mainGlobals) (s.heap.nsMap builtinsNs) s.heap)
  (T4:s.heap.nsMap mainGlobals "law" = some (.ref 1083)){free:Addr->Prop}{gens:Prop}{kept:Heap->Prop}(hk:∀h,kept h):ClaimW.CallFrom (callStub "law") PySem.Challenge.rw_nz0546_01.row.claim w free gens kept s:=by
 refine ClaimW.callFrom_of_specG (c:=PySem.Challenge.rw_nz0546_01.row.claim) hz Jj fun args T5 T6 ord Qd=>?_
 have hG:=G.T.g
 have fp:=frees_parts YO
 have Fk:=pre_splitW T5
 obtain⟨⟨vs,cz⟩,hlaid⟩:=Option.isSome_iff_exists.mp (layAllW_isSome (P:=w.params) (ord:=ord) (cl:=classAt s.heap) (R:=PySem.Challenge.rw_nz0546_01.row.records) (fun c hc=>by cases hc) args PySem.Challenge.rw_nz0546_01.row.args s Fk.1)
 have keeps:=layAllW_keeps _ _ _ hlaid
 have Vf:=layAllW_rest _ _ _ hlaid
 obtain⟨as,hrd,hio⟩:=reads_layAllW Qd _ _ _ hlaid T6 cz.heap (fun _ _ e=>e)
 have L:Laid PySem.Challenge.rw_nz0546_01.row.records w s cz args vs as:=⟨⟨ord,Qd,hlaid⟩,hrd,hio.1,hio.2,keeps,Vf.1.trans Jj,Vf.2.2.1⟩
 obtain⟨zs,rfl⟩:=Ib Fk.1
 obtain⟨a,q,h1,h2,h3⟩:=layAllW_cons hlaid
 obtain⟨q2,h4,h5⟩:=layW_list h1
 have T7:=lay_ints zs _ _ h4
 cases h2
 cases h3
 subst h5
 have hlen:zs.length<=63:=Ma zs Fk.2
 have hv:(q2.2.heap.objs.size:Nat)=1084:=by rw[T7.1,hy,xX]
 refine⟨_,_,hlaid,?_⟩
 show wpAny _ callerA (do match <-nsGet mainNs "law" with
  |some f=>do ret (<-PySem.call f [.ref q2.2.heap.objs.size])
  |none=>unsupported "claim.caller:no-such-global") _ _ _
 have hi:=ident_freeW fp.2.1 fp.2.2.1 fp.2.2.2.1
 refine wpAny_bind (wpAny_nsGet (hG.keeps keeps) ?_)
 rw[T4]
 refine wpAny_bind ?_
 have hl:=Fg Cv w s _ hy zs hlen q2.1 T7.2 (by rw[T7.1]) L.gens (G.T.nolimit.keeps keeps) (c:=PySem.Challenge.rw_nz0546_01.row.claim) rfl (fun a d=>by kernel_rfl) (classAt s.heap) (ExcName.means s.heap) [.list (zs.map .int)]
 rw[<-hv] at hl
 refine wpAny_mono hl (fun v s' g=>wpAny_pure ?_) fun e s' g=>?_
 ·have z:=g.laid (c:=PySem.Challenge.rw_nz0546_01.row.claim) fp.1 rfl hi L
  exact⟨_,rfl,z.1,z.2.1,z.2.2,hk _⟩
 ·have z:=g.laid (c:=PySem.Challenge.rw_nz0546_01.row.claim) fp.1 rfl hi L
  exact⟨z.1,z.2.1,z.2.2,hk _⟩
theorem Ij{w:World}{s:Shared}(hy:s.heap=hE w.params) (hg:s.heap.isNs mainGlobals=true):isTheDefsW PySem.Challenge.pw_nz0546_01 s.heap "law":=by
 have d:=Qc w
 rw[hy] at hg ⊢
 exact⟨1083,_,_,_,_,_,(Pin.globalOf_eq hg _).trans d.1,d.2.1,rfl,d.2.2.1,d.2.2.2.1,d.2.2.2.2.1,rfl,d.2.2.2.2.2.1,rfl,d.2.2.2.2.2.2.1,d.2.2.2.2.2.2.2.1,d.2.2.2.2.2.2.2.2.1,.inl ⟨d.2.2.2.2.2.2.2.2.2.1,d.2.2.2.2.2.2.2.2.2.2.1⟩,_,d.2.2.2.2.2.2.2.2.2.2.2.1,.inl ⟨rfl,d.2.2.2.2.2.2.2.2.2.2.2.2⟩⟩
theorem Co(Cv:∀zs:List Int,call T 21 83 [.t (.lst (zs.map .int))] []=ok (.t (.bool true)) []) (run:∀w os,topRun treeTable PySem.Challenge.pw_nz0546_01 w 11 (some (.ref 6)) 200000 (fO w os) (topStub PySem.Challenge.pw_nz0546_01)=some (j9 w os)) (Mb:PySem.Challenge.rw_nz0546_01.row.wellSaid=true):PySem.Challenge.rw_nz0546_01.row.Holds:=by
 have be:=fun w=>(Qa run).behind (XP:=fun _ _=>True) (fun _ _=>trivial) YM w
 refine⟨Mb,Vd,⟨YQ,YN,rfl⟩,Vd.witness,fun w=>⟨(be w).1,fun s' ID=>?_⟩⟩
 obtain⟨tG,z⟩:=(be w).2 s' ID
 obtain⟨s,t⟩:=z.2.2
 have hy:s.heap=hE w.params:=t.2.2.2.2.2
 exact⟨tG,z.1,z.2.1,s,t.1,fun n hn=>List.mem_singleton.mp (hn:n∈[("law" : Str)])▸Ij hy t.2.2.2.1,(fun x hx=>nomatch hx),(fun x hx=>nomatch hx),
  Ii Cv hy t.2.1 (Array.eq_empty_of_size_eq_zero (beq_iff_eq.mp t.2.2.1)) t.2.2.2.2.1 (by rw[hy];exact(Qc w).1) fun _ q=>nomatch q⟩
end Mine
open PySem PySem.W PyProof.Rows
theorem PySem.Challenge.cw_nz0546_01_holds : PySem.Challenge.rw_nz0546_01.Holds :=
 ⟨Mine.Mb,Mine.Co (Mine.Fe 0) (Mine.Jo Mine.Vj Mine.Vk Mine.Vl Mine.Vm) Mine.Vb⟩
