import PyProof.Rows.All
import Wide.All
import OpenK.KWith
import KE.KSuperObj
import PyProof.ExcInit
import PyProof.InstStoreFacts
import KE.KSortTup
import KE.BytesMake
import Wide.FinOn
import KE.BytesMulAny
import KE.KDictSum
import KE.KDictOf
import PyProof.AttrMiss
import KE.KDictLaws
import Wide.BytesFacts
import PyProof.ExcAttrAll.Exception
import KE.KBytesCut
import KE.KBytesWalk
import KE.KSuper
import Lean
import PySem.Challenge.RW_nu0177_01
set_option Elab.async false
set_option linter.all false
set_option linter.unusedVariables false
set_option maxHeartbeats 0
set_option maxRecDepth 100000
set_option genSizeOfSpec false
set_option genInjectivity false
set_option compiler.extract_closed false
set_option compiler.reuse false
section
open PySem PySem.W PyProof.Rows PySem.Calls
namespace Nu
noncomputable def Dx (i:Nat):Stmt:=PySem.Challenge.pw_nu0177_01.main.body.getD i (.Pass default)
noncomputable def yJ (st:Stmt):List Stmt:=by
 cases st
 case ClassDef _ _ _ b _ _ _ _ _ _ _=>exact b
 all_goals exact []
noncomputable def Dc (i j:Nat):Stmt:=(yJ (Dx i)).getD j (.Pass default)
noncomputable def P5 (st:Stmt):Str×Arguments×List Stmt×Scope:=by
 cases st
 case FunctionDef n a b _ _ _ s _ _ _=>exact (n,a,b,s)
 all_goals exact (Str.empty,{ posonlyargs:=[],args:=[],vararg:=none,kwonlyargs:=[],kw_defaults:=[],kwarg:=none,defaults:=[] },[],{ kind:=.function,names:=[],isGenerator:=false,isCoroutine:=false,more:=[] })
noncomputable def Acj (st:Stmt):Str:=(P5 st).1
noncomputable def pG (st:Stmt):Arguments:=(P5 st).2.1
noncomputable def Uc (st:Stmt):List Stmt:=(P5 st).2.2.1
noncomputable def Hu (st:Stmt):Scope:=(P5 st).2.2.2
noncomputable def Jp (st:Stmt)(qual:Str)(dfl pm cd:Value):FuncData:=
 { name:=Acj st,qualname:=qual,params:=pG st,body:=.stmts (Uc st),scope:=Hu st,globals:=mainGlobals,closure:=[],defaults:=dfl,kwdefaults:=.none,doc:=.none,pyModule:=pm,code:=cd,builtins:=builtinsNs }
noncomputable def P7:List (Str×Value):=[("ShapeError",.ref 48),("TableFault",.ref 61),("check_room",.ref 70),("number_at",.ref 77),("OctetsIn",.ref 163),("number_octets",.ref 172),("OctetsOut",.ref 259),("Variations",.ref 299),
 ("find",.ref 310),("need_code",.ref 317),("read_ranges",.ref 324),("read_glyphs",.ref 331),("read_record",.ref 338),("read_variations",.ref 345),
 ("default_ranges",.ref 352),("ranges_octets",.ref 359),("glyphs_octets",.ref 366),("write_variations",.ref 373),("_law_pen",.ref 380),("_law_draw",.ref 387),("_law_pick",.ref 394),("_law_laid",.ref 399),("_law_pairs",.ref 404),("_law_ranges",.ref 411),
 ("_law_rows",.ref 416),("_law_octets",.ref 421),("_law_fault",.ref 428),("_law_bent_right",.ref 435)]
noncomputable def mE:List (Str×Int):=[("LAST_CODE",1114111),("MOST_MORE",255),("HEAD_SIZE",10),("RECORD_SIZE",11)]
noncomputable def gZ:List (Str×Value):=[("bytes",.type "bytes"),("range",.type "range"),("len",.builtin "len"),("sorted",.builtin "sorted"),("list",.type "list"),("dict",.type "dict"),("tuple",.type "tuple"),("abs",.builtin "abs"),("int",.type "int"),("enumerate",.type "enumerate"),("bytearray",.type "bytearray"),("super",.type "super")]
noncomputable def bO:List (Addr×List (Str×Addr)×List Str):=
 [(163,[("__init__",92),("need",99),("number",106),("u8",113),("u16",120),("u24",134),("u32",141)],["data","at"]),
  (259,[("__init__",186),("u8",193),("u16",200),("u24",214),("u32",221),("octets",256)],["made"]),
  (299,[("__init__",277),("is_default",284),("own_pairs",291),("told",296)],["defaults","others"])]
noncomputable def Zx:List Addr:=(P7.filterMap λp=>match p.2 with | .ref a=>some a | _=>none)++bO.flatMap λe=>e.2.1.map (·.2)
noncomputable def BW (a:Addr)(st:Stmt)(q:Str):Addr×Stmt×Str:=(a,st,q)
noncomputable def Sk:List (Addr×Stmt×Str):=[BW 70 (Dx 5) "check_room",BW 77 (Dx 6) "number_at",BW 99 (Dc 7 1) "OctetsIn.need",BW 106 (Dc 7 2) "OctetsIn.number",BW 113 (Dc 7 3) "OctetsIn.u8",BW 120 (Dc 7 4) "OctetsIn.u16",BW 134 (Dc 7 6) "OctetsIn.u24",BW 141 (Dc 7 7) "OctetsIn.u32",
 BW 172 (Dx 8) "number_octets",BW 186 (Dc 9 0) "OctetsOut.__init__",BW 193 (Dc 9 1) "OctetsOut.u8",BW 200 (Dc 9 2) "OctetsOut.u16",BW 214 (Dc 9 4) "OctetsOut.u24",BW 221 (Dc 9 5) "OctetsOut.u32",BW 256 (Dc 9 10) "OctetsOut.octets",
 BW 277 (Dc 15 0) "Variations.__init__",BW 284 (Dc 15 1) "Variations.is_default",BW 291 (Dc 15 2) "Variations.own_pairs",BW 296 (Dc 15 3) "Variations.told",
 BW 310 (Dx 16) "find",BW 317 (Dx 17) "need_code",BW 324 (Dx 18) "read_ranges",BW 331 (Dx 19) "read_glyphs",BW 338 (Dx 20) "read_record",BW 345 (Dx 21) "read_variations",BW 352 (Dx 22) "default_ranges",BW 359 (Dx 23) "ranges_octets",BW 366 (Dx 24) "glyphs_octets",BW 373 (Dx 25) "write_variations",
 BW 380 (Dx 27) "_law_pen",BW 387 (Dx 28) "_law_draw",BW 394 (Dx 29) "_law_pick",BW 399 (Dx 30) "_law_laid",BW 404 (Dx 31) "_law_pairs",BW 411 (Dx 32) "_law_ranges",BW 416 (Dx 33) "_law_rows",BW 421 (Dx 34) "_law_octets",BW 428 (Dx 35) "_law_fault",BW 435 (Dx 36) "_law_bent_right",BW 440 (Dx 37) "law"]
noncomputable def ES:List Value:=[.ref 48,.type "Exception",.type "BaseException",.type "object"]
noncomputable def Aax:List Addr:=[163,162,299,298,259,258,61,60,48,47,2,38,92]++Sk.map (·.1)
noncomputable def L3 (h:Heap):Frag:=Aax.filterMap λa=>(h.get? a).map λo=>(a,o)
noncomputable def dataOf (h:Heap)(a:Addr):Option Data:=(h.get? a).map (·.data)
noncomputable def zW (v:Value):Option Str:=by
 cases v
 case str x _=>exact some x
 all_goals exact none
noncomputable def zY (v:Value):Option Int:=by
 cases v
 case int x _=>exact some x
 all_goals exact none
noncomputable def zX (v:Value):Option Addr:=by
 cases v
 case ref x=>exact some x
 all_goals exact none
noncomputable def qE (d:Data):Option (Array Value):=by
 cases d
 case fields vs=>exact some vs
 all_goals exact none
noncomputable def uP (d:Data):Option FuncData:=by
 cases d
 case func f=>exact some f
 all_goals exact none
noncomputable def Aa5 (d:Data):Option ClassData:=by
 cases d
 case cls c=>exact some c
 all_goals exact none
noncomputable def Acq (d:Data):Option (Array Value):=by
 cases d
 case seq xs _=>exact some xs
 all_goals exact none
noncomputable def zT (d:Data):Option (Option Value):=by
 cases d
 case cell v=>exact some v
 all_goals exact none
noncomputable def nth (h:Heap)(a:Addr)(i:Nat):Option Str:=((dataOf h a).bind qE).bind λvs=>vs[i]?.bind zW
noncomputable def bM (h:Heap)(cd:Value)(q:Str):Bool:=((zX cd).bind λc=>nth h c 1)==some q
noncomputable def nJ (f:FuncData):FuncData:={ f with pyModule:=.none,code:=.none }
noncomputable def bC (h:Heap)(a:Addr):Option FuncData:=((dataOf h a).bind uP).bind λf=>bif bM h f.code f.qualname then some (nJ f) else none
noncomputable def seq1 (h:Heap)(a:Addr):Bool:=((dataOf h a).bind Acq).any λxs=>xs.size==1
noncomputable def uM (h:Heap)(a:Addr)(q:Str):Bool:=nth h a 2==some q
noncomputable def uS (h:Heap)(a b:Addr):Bool:=(dataOf h a).bind zT==some (some (.ref b))
noncomputable def zP (h:Heap)(a:Addr):Bool:=((dataOf h a).bind Aa5).isSome
noncomputable def zR (h:Heap):Bool:=(h.get? 61).any λo=>o.cls==.type "type" && o.slots.size==6&&o.slots[4]?==some (some (.builtin "Exception.__new__"))&&(Aa5 o.data).any λcd=>cd.mro==.ref 61::ES&&cd.hasDict&&!cd.hasDel
noncomputable def zU (K:Frag)(e:Addr×List (Str×Addr)×List Str):Bool:=
 findIn K (.ref e.1) "__getattribute__"== some (some (.builtin "object.__getattribute__"))&&findIn K (.ref e.1) "__getattr__"== some none&&findIn K (.ref e.1) "__setattr__"== some (some (.builtin "object.__setattr__")) &&
 hasDictIn K e.1&&plainOver K e.1&&makesIn K e.1&&(e.2.1.all λp=>findIn K (.ref e.1) p.1==some (some (.ref p.2))&&typeIn K (.ref p.2)==some (.type "function"))&&e.2.2.all λx=>findIn K (.ref e.1) x==some none
noncomputable def Aah (K:Frag):Bool:=(clsIn K 61).any λcd=>cd.mro==.ref 61::ES&&cd.hasDict
noncomputable def zQ (K:Frag):Bool:=
 Aah K&&findIn K (.ref 61) "__setattr__"== some (some (.builtin "object.__setattr__"))&&findIn K (.ref 61) "__init__"== some (some (.ref 38))&&typeIn K (.ref 38)==some (.type "function") &&
 findIn K (.ref 61) "what"== some none&&findIn K (.ref 61) "at"== some none&&alongIn K "__init__" [.type "Exception",.type "BaseException",.type "object"]==some (some (.builtin "Exception.__init__")) &&
 mroIn K 61 (.type "Exception")==some true&&mroIn K 61 (.ref 48)==some true&&nsIn K cStatics "thirdparty.any"== some none &&
 findIn K (.ref 61) "__getattribute__"== some (some (.builtin "BaseException.__getattribute__"))&&findIn K (.ref 61) "__getattr__"== some none
noncomputable def xV (h:Heap)(e:Str×Int):Bool:=(h.nsMap mainGlobals e.1).bind zY==some e.2
noncomputable def Aa7 (h:Heap):Bool:=(h.get? 38).any λo=>o.cls==.type "function" && (uP o.data).any λf=>f.code==.ref 37
noncomputable def dN (file:Str)(h:Heap):Bool:=
 (P7.all λe=>h.nsMap mainGlobals e.1==some e.2)&&mE.all (xV h)&&(gZ.all λe=>(h.nsMap mainGlobals e.1).isNone)&&Zx.all (λa=>keepIn (L3 h) (.ref a))&&bO.all (zU (L3 h)) &&
 seq1 h 85&&seq1 h 30&&bM h (.ref 37) "ShapeError.__init__" && uM h 37 file&&uS h 25 48&&zP h 48&&zR h&&zQ (L3 h)&&Aa7 h&&h.nsMap mainGlobals "law"== some (.ref 440)
noncomputable def pF (h:Heap):List (Option FuncData):=bC h 38::bC h 92::Sk.map λe=>bC h e.1
noncomputable def yF:List (Option FuncData):=some { Jp (Dc 2 0) "ShapeError.__init__" (.ref 30) .none .none with closure:=[("__class__",25)],closureTuple:=.ref 31 }::some (Jp (Dc 7 0) "OctetsIn.__init__" (.ref 85) .none .none)::Sk.map λe=>some (Jp e.2.1 e.2.2 .none .none .none)
noncomputable def QV:Program:={ PySem.Challenge.pw_nu0177_01 with main:={ PySem.Challenge.pw_nu0177_01.main with body:=(PySem.Challenge.pw_nu0177_01.main.body.drop 37) } }
noncomputable def uB:List Str:=(["ShapeError","TableFault","check_room","number_at","OctetsIn","number_octets","OctetsOut","LAST_CODE","MOST_MORE","HEAD_SIZE","RECORD_SIZE","Variations","find","need_code","read_ranges","read_glyphs","read_record","read_variations","default_ranges","ranges_octets","glyphs_octets","write_variations","_wall","_law_pen","_law_draw","_law_pick","_law_laid","_law_pairs","_law_ranges","_law_rows","_law_octets","_law_fault","_law_bent_right"]:List String).map Str.ofString
theorem xS:LeftO PySem.Challenge.pw_nu0177_01 QV uB (λ_=>true) (λs=>(dN PySem.Challenge.pw_nu0177_01.main.file s.heap,pF s.heap)) (λ_=>(true,yF)) 5614:=by
 intro w
 run_tac do
  let g <-Lean.Elab.Tactic.getMainGoal
  let u:=(<-Lean.instantiateMVars (<-g.getType)).consumeMData
  g.assign (.app (.app (.const ``Eq.refl u.getAppFn.constLevels!) (u.getArg! 0)) (u.getArg! 1))
theorem xB:PySem.Challenge.rw_nu0177_01.wellSaid=true:=by
 run_tac do
  let g <-Lean.Elab.Tactic.getMainGoal
  let u:=(<-Lean.instantiateMVars (<-g.getType)).consumeMData
  g.assign (.app (.app (.const ``Eq.refl u.getAppFn.constLevels!) (u.getArg! 0)) (u.getArg! 1))
end Nu
end
namespace BN
theorem mpr {α:Sort u}{a b:α}(m:α->Prop)(h:a=b)(e:m b):m a:=h▸e
open Lean
def fix {α β:Type}(d:α->β)(f:(α->β)->α->β):Nat->α->β
 | 0,a=>d a
 | n+1,a=>f (fix d f n) a
def lm {α β:Type}(f:α->β):List α->List β
 | []=>[]
 | a::l=>f a::lm f l
def lf {α β:Type}(f:β->α->β):β->List α->β
 | b,[]=>b
 | b,a::l=>lf f (f b a) l
def lq {α:Type}(f:α->Bool)(l:List α):List α:=lf (λr a=>if f a then a::r else r) [] l.reverse
def ms {σ α β:Type}(f:α->StateM σ β):List α->StateM σ (List β)
 | [],s=>([],s)
 | a::l,s=>let (b,s):=f a s;let (l,s):=ms f l s;(b::l,s)
def mo {α β:Type}(f:α->Option β):List α->Option (List β)
 | []=>some []
 | a::l=>match f a,mo f l with | some b,some l=>some (b::l) | _,_=>none
def fs {σ α β:Type}(f:β->α->StateM σ β):β->List α->StateM σ β
 | b,[],s=>(b,s)
 | b,a::l,s=>let (b,s):=f b a s;fs f b l s
abbrev Mp:=Std.HashMap Expr Expr
abbrev M:=StateM Mp
def ins (m:Mp)(k v:Expr):Mp:=m.insert k v
def look (m:Mp)(k:Expr):Option Expr:=m[k]?
def got (e:Expr):M (Option Expr):=modifyGet λs=>(look s e,s)
def put (e r:Expr):M Expr:=modifyGet λs=>(r,ins s e r)
def atom (e:Expr):Bool:=match e with
 | .app .. | .lam .. | .forallE .. | .letE .. | .mdata .. | .proj ..=>false
 | _=>true
def small (e:Expr):Bool:=match e with
 | .proj _ _ x=>atom x
 | _=>atom e
def RZ (e:Expr):List (Expr×Nat):=match e with
 | .app f x=>[(f,0),(x,0)]
 | .mdata _ x | .proj _ _ x=>[(x,0)]
 | .lam _ T b _ | .forallE _ T b _=>[(T,0),(b,1)]
 | .letE _ T v b _=>[(T,0),(v,0),(b,1)]
 | _=>[]

def once (b:Expr)(i:Nat):Bool:=
 let step (self:Expr->Nat->StateM (Mp×List Nat) Unit) (e:Expr) (i:Nat):StateM (Mp×List Nat) Unit:=do
  if e.looseBVarRange<=i then return
  let k:=Expr.app e (.bvar i)
  if <-modifyGet λ(m,d)=>if d.length≥2 || (look m k).isSome then (true,m,d) else (false,ins m k k,if e==.bvar i&&!d.contains i then i::d else d) then return
  fs (λ_ (x,n)=>self x (i+n)) () (RZ e)
 ((fix (λ_ _=>pure ()) step 4000 b i).run ({},[])).2.2.length<=1
def HB (f:Expr)(as:List Expr):Expr:=lf .app f as
def ap (n:Name)(us:List Level)(as:List Expr):Expr:=HB (.const n us) as

def defeq (env:Environment):Expr->Bool:=
 fix (λ_=>false) (λself h=>match h.getAppFn with
  | .const k _=>
   let a (i:Nat):=self (h.getAppArgs.getD i h)
   let n:=h.getAppNumArgs
   if k==``Eq.refl || k==``rfl then true
   else if k==``id then n==2&&a 1
   else if k==``Eq.symm then n==4&&a 3
   else if k==``Eq.trans then n==6&&a 4&&a 5
   else if k==``congrArg then n==6&&a 5
   else if k==``congrFun || k==``congrFun' then n==6&&a 4
   else if k==``congr then n==8&&a 6&&a 7
   else match env.find? k with
    | some (.thmInfo v)=>
     let b:=Nat.repeat (λb=>match b with | .lam _ _ b _ | .mdata _ b=>b | .app f x=>if f.isAppOfArity ``id 1 then x else b | b=>b) 40 v.value
     b.isAppOfArity ``Eq.refl 2 || b.isAppOfArity ``rfl 2
    | _=>false
  | _=>false) 100

def cast (env:Environment):Bool->Expr->Expr->Expr->Expr->Expr:=
 fix (λs A B h p=>if s then ap ``Eq.mp [0] [B,A,h,p] else ap ``Eq.mpr [0] [A,B,h,p]) (λself s A B h p=>
  if defeq env h then p else
  let as:=h.getAppArgs
  let a (i:Nat):=as.getD i h
  let k:=h.getAppFn.constName?.getD .anonymous
  let n:=as.size
  if k==``id&&n==2 then self s A B (a 1) p
  else if k==``Eq.symm&&n==4 then self (!s) A B (a 3) p
  else if k==``Eq.trans&&n==6 then
   let y:=a 2
   if s then self s A y (a 5) (self s y B (a 4) p) else self s A y (a 4) (self s y B (a 5) p)
  else if k==``congrArg&&n==6 then
   let u:=h.getAppFn.constLevels!.head!
   if s then ap ``Eq.ndrec [0,u] [a 0,a 2,a 4,p,a 3,a 5] else ap ``mpr [u] [a 0,a 2,a 3,a 4,a 5,p]
  else if k==``propext&&n==3 then .app (.proj ``Iff (if s then 0 else 1) (a 2)) p
  else if k==``eq_true&&n==2 then (if s then p else a 1)
  else if k==``eq_self&&n==2&&!s then ap ``Eq.refl h.getAppFn.constLevels! [a 0,a 1]
  else if s then ap ``Eq.mp [0] [B,A,h,p] else ap ``Eq.mpr [0] [A,B,h,p]) 100

def cut (i:Nat)(e:Expr):Option Expr:=
 fix (β:=Expr->Option Expr) (λ_ _=>none) (λself i e=>match e with
  | .lam n T b bi=>if i==0 then (if b.hasLooseBVar 0 then none else some (b.lowerLooseBVars 1 1)) else (self (i-1) b).map (.lam n T · bi)
  | .forallE n T b bi=>if i==0 then (if b.hasLooseBVar 0 then none else some (b.lowerLooseBVars 1 1)) else (self (i-1) b).map (.forallE n T · bi)
  | _=>none) (i+1) i e

def live (ts:List (Nat×Nat))(o:Nat)(as:List Expr):List Expr:=
 lf (λas i=>
  match mo (λ(p,q)=>(as[p]?.bind (cut (q+i))).map ((p,·))) ts with
  | some l=>(lf (λas (p,e)=>as.set p e) as l).eraseIdx (o+i)
  | none=>as) as (List.range (as.length-o)).reverse
def Aco (n:Nat)(e:Expr):List Expr×Expr:=
 Nat.repeat (λ(ts,b)=>match b with | .lam _ T b _=>(T::ts,b) | b=>(ts,b)) n ([],e)
def fQ (d:Nat)(e:Expr):Option Expr:=if lf (λr i=>r || e.hasLooseBVar i) false (List.range d) then none else some (e.lowerLooseBVars d d)

def Q2 (env:Environment)(nf:List Nat)(np:Nat)(as:List Expr):Option (List Expr):=do
 let x <-as[np+1]?
 let .lam _ _ (.forallE _ E _ _) _ <-as[np]? | none
 if !(E.isAppOfArity ``Eq 3&&E.appArg!==.bvar 0&&E.appFn!.appArg!==x.liftLooseBVars 0 1) then none
 let o:=np+2+nf.length
 if as.length != o+1 || !(as.getD o x).isAppOfArity ``Eq.refl 2 then none
 let alts <-mo (λ(n,a)=>do
  let (ts,b):=Aco (n+1) a
  let bs:=b.getAppArgs.toList
  let [_,_,m,p,y,q]:=bs.take 6 | none
  if !(b.isAppOf ``Eq.ndrec&&y==x.liftLooseBVars 0 (n+1)&&q.isAppOfArity ``Eq.symm 4&&q.appArg!==.bvar 0&&ts.length==n+1) then none
  return ((<-fQ (n+1) m,<-mo (fQ (n+1)) (bs.drop 6)),lf (λb T=>.lam `a T b .default) (<-fQ 1 p) ts.tail)) (nf.zip (as.drop (np+2)))
 let (m,xs):=(<-alts.head?).1
 if lf (λr a=>r || a.1 != (m,xs)) false alts then none
 return as.take np++m::x::(lm (·.2) alts++xs)
def cases (env:Environment)(k:Name)(f:Expr)(as:List Expr):Option Expr:=do
 let .str I "casesOn":=k | none
 let some (.inductInfo iv):=env.find? I | none
 let np:=iv.numParams
 let nf:=lm (λc=>match env.find? c with | some (.ctorInfo v)=>v.numFields | _=>0) iv.ctors
 let x <-as[np+1+iv.numIndices]?
 let prop:=iv.type.getForallBody.isProp
 if iv.numIndices==0 then
  if let some as:=Q2 env nf np as then return HB f as
  if nf.length==1&&!iv.isRec&&small x&&(!prop || I==``And) then
   let n:=nf.headD 0
   let (ts,b):=Aco n (as.getD (np+2) x)
   if ts.length==n then return (b.instantiateRev (lm (λi=>.proj I i x) (List.range n)).toArray).beta (as.drop (np+3)).toArray
 if I==``Eq&&as.length==8 then
  let .lam _ _ b _ <-as[5]? | none
  if b.isAppOfArity ``False.elim 2 then
   let .forallE _ _ G _:=b.getAppArgs.getD 0 b | none
   return ap ``False.elim [0] [<-fQ 2 G,b.appArg!.instantiate1 (ap ``Eq.symm [1] [as.getD 0 x,as.getD 1 x,as.getD 3 x,as.getD 4 x])]
 let o:=np+2+iv.numIndices
 if as.length>o+nf.length then
  let X8:=live ((np,iv.numIndices+1)::lm (λi=>(o+i,nf.getD i 0)) (List.range nf.length)) (o+nf.length) as
  if X8.length<as.length then return HB f X8
 let .lam _ _ G _ <-as[np]? | none
 let el:=if I==``Exists then ``Exists.elim else ``Or.elim
 if (I==``Exists || I==``Or)&&as.length≥o+nf.length&&!G.hasLooseBVar 0 then
  return HB (.const el f.constLevels!) (as.set np (G.lowerLooseBVars 1 1))
 none
def rule (env:Environment)(f:Expr)(k:Name)(as:List Expr):Expr:=
 let e:=HB f as
 let a (i:Nat):=as.getD i f
 let n:=as.length
 let rest (m:Nat) (x:Expr):=x.beta (as.drop m).toArray
 if k==``id&&n≥2 then rest 2 (a 1)
 else if k==``Eq.mpr&&n≥4&&f.constLevels!==[0] then rest 4 (cast env false (a 0) (a 1) (a 2) (a 3))
 else if k==``Eq.mp&&n≥4&&f.constLevels!==[0] then rest 4 (cast env true (a 1) (a 0) (a 2) (a 3))
 else if k==``of_eq_true&&n≥2 then
  let r:=cast env false (a 0) (.const ``True []) (a 1) (.const ``True.intro [])
  if r.isAppOf ``Eq.mpr then e else rest 2 r
 else if k==``Eq.symm&&n==4&&(a 3).isAppOfArity ``Eq.symm 4 then (a 3).appArg!
 else if k==``Eq.trans&&n==6&&defeq env (a 5) then a 4
 else if k==``Eq.trans&&n==6&&defeq env (a 4) then a 5
 else if (k==``Iff.mp || k==``Iff.mpr)&&n≥3 then
  if (a 2).isAppOfArity ``Iff.intro 4 then rest 3 ((a 2).getAppArgs.getD (if k==``Iff.mp then 2 else 3) f) else rest 3 (.proj ``Iff (if k==``Iff.mp then 0 else 1) (a 2))
 else if k==``Eq.ndrec&&n>6 then HB f (live [(2,1),(3,0)] 6 as)
 else if k==``Eq.rec&&n>6 then HB f (live [(2,2),(3,0)] 6 as)
 else if k==``Prod.mk&&n==4 then match a 2,a 3 with
  | .proj ``Prod 0 x,.proj ``Prod 1 y=>if x==y then x else e
  | _,_=>e
 else match env.getProjectionFnInfo? k with
  | some pi=>match (a pi.numParams),env.find? pi.ctorName.getPrefix with
   | x,some (.inductInfo iv)=>
    if n<=pi.numParams then e
    else if iv.type.getForallBody.isProp then rest (pi.numParams+1) (.proj pi.ctorName.getPrefix pi.i x)
    else if k.getPrefix==``Prod&&x.isAppOfArity ``Prod.mk 4 then rest 3 (x.getAppArgs.getD (2+pi.i) x)
    else e
   | _,_=>e
  | none=>(cases env k f as).getD e
def Acp (n:Name):Bool:=match n with
 | .str p s=>s.startsWith "match_" || s.startsWith "_proof_" || (p != .anonymous&&s == "_f")
 | _=>false
def Y1 (env:Environment):Expr->M Expr:=
 fix pure (λself e=>do
  if atom e then return e
  if let some r:=<-got e then return r
  let r <-match e with
   | .mdata _ x=>self x
   | .proj s i x=>do
    let x <-self x
    pure <| if (s==``And || s==``Prod)&&(x.isAppOfArity ``And.intro 4 || x.isAppOfArity ``Prod.mk 4) then x.getAppArgs.getD (2+i) x else .proj s i x
   | .lam _ T b _=>do
    let T <-self T
    let b <-self b
    pure <| match b with
     | .app f (.bvar 0)=>if f.hasLooseBVar 0 then .lam `a T b .default else f.lowerLooseBVars 1 1
     | _=>.lam `a T b .default
   | .forallE _ T b _=>pure <| .forallE `a (<-self T) (<-self b) .default
   | .letE _ T v b _=>do
    let v <-self v
    let b <-self b
    if small v || once b 0 then pure (b.instantiate1 v).headBeta
    else pure <| .letE `a (<-self T) v b true
   | _=>do
    let f:=e.getAppFn
    let as:=e.getAppArgs.toList
    match f with
    | .lam n T b _=>
     let x::xs:=as | pure e
     if xs.isEmpty || small x || once b 0 then self ((Expr.letE n T x b true).beta xs.toArray)
     else
      let T <-self T
      let b <-self b
      pure <| HB (.lam `a T b .default) (<-ms self as)
    | .letE _ _ v b _=>
     if small v || once b 0 then self ((b.instantiate1 v).beta as.toArray)
     else pure <| HB (<-self f) (<-ms self as)
    | .const k us=>
     match if Acp k then (env.find? k).bind (λc=>(c.value? (allowOpaque:=true)).map (·.instantiateLevelParams c.levelParams us)) else none with
     | some v=>self (v.beta as.toArray)
     | none=>
      match cases env k f as with
      | some e=>self e
      | none=>
       if k==``And.casesOn&&as.length≥5 then
        let h <-self (as.getD 3 f)
        if small h then self (HB f (as.set 3 h))
        else
         let T:=ap ``And [] (as.take 2)
         self (.letE `a T h (HB f ((lm (·.liftLooseBVars 0 1) as).set 3 (.bvar 0))) true)
       else pure <| rule env f k (<-ms self as)
    | _=>pure <| (<-self f).beta (<-ms self as).toArray
  put e r) 4000
def clean (env:Environment)(e:Expr):Expr:=Nat.repeat (λe=>ShareCommon.shareCommon' ((Y1 env e).run {}).1) 3 (ShareCommon.shareCommon' e)


abbrev Lp:=Std.HashMap Expr (List Expr)
def Aay (m:Lp)(k:Expr)(v:List Expr):Lp:=m.insert k v
def dR (m:Lp)(k:Expr):List Expr:=(m[k]?).getD []

def body (m:Mp)(f x:Expr):Expr:=(look m (.app f f)).getD (x.instantiate1 f)
def parts (m:Mp)(f:Expr)(e:Expr):List (Expr×Nat):=lm (λ(x,n)=>(if n==0 then x else body m f x,n)) (RZ e)

def visit:Expr->StateM (Mp×List Expr×Nat) Unit:=
 fix (λ_=>pure ()) (λself e=>do
  if atom e then return
  if let some f:=<-modifyGet λ(m,o,i)=>if (look m e).isSome then (none,m,o,i) else
    let f:Expr:=.fvar ⟨.num `v i⟩
    match e with
    | .lam _ _ b _ | .forallE _ _ b _ | .letE _ _ _ b _=>(some f,ins (ins (ins m e f) f e) (.app f f) (b.instantiate1 f),o,i+1)
    | _=>(some f,ins m e e,o,i) then
   let ps <-modifyGet λ(m,s)=>(parts m f e,m,s)
   fs (λ_ (x,_)=>self x) () ps
   modify λ(m,o,i)=>(m,e::o,i)) 4000
def nb (e:Expr):Nat:=match e with | .app .. | .mdata ..=>32 | .lam .. | .forallE ..=>48 | .letE ..=>56 | .proj ..=>40 | _=>0

def own (e:Expr):Nat:=
 fix (·.2.2) (λ(self:List Expr×Mp×Nat->Nat) (st,m,n)=>match st with
  | []=>n
  | x::st=>if n>2000 then n else if (look m x).isSome || !(x.hasFVar || x.hasLooseBVars) then self (st,m,n) else self (lm (·.1) (RZ x)++st,ins m x x,n+nb x)) 400 ([e],{},0)

def typ (env:Environment)(lc:LocalContext)(m:Mp):Expr->Option Expr:=
 fix (λ_=>none) (λself e=>match e with
  | .const c us=>(env.find? c).map λc=>c.type.instantiateLevelParams c.levelParams us
  | .fvar i=>match look m e with
   | some (.lam _ T _ _) | some (.forallE _ T _ _) | some (.letE _ T _ _ _)=>some T
   | _=>(lc.find? i).map (·.type)
  | .app ..=>lf (λt a=>match t with | some (.forallE _ _ b _)=>some (b.instantiate1 a) | _=>none) (self e.getAppFn) e.getAppArgs.toList
  | .lam n T b bi=>do
   let f <-look m e
   let t <-self (body m f b)
   return .forallE n T (t.abstract #[f]) bi
  | .forallE _ _ b _=>do
   let f <-look m e
   let t <-self (body m f b)
   if t.isProp then some t else none
  | _=>none) 50
def YH (l:Lp)(x:Expr):Nat:=(dR l x).length
def yH (m:Mp)(s:Expr):Expr:=
 let num (f:FVarId):Nat:=match f.name with | .num `v i=>i+1 | _=>0
 
 let f:=lf (λa f=>if num f>num a then f else a) ⟨`root⟩ (collectFVars {} s).fvarIds.toList
 if (look m (.fvar f)).isSome then .fvar f else .fvar ⟨`root⟩
structure Hs where
 d:Lp         
 h:Mp         
 w:Lp:={}   
def RA (env:Environment)(lc:LocalContext)(m:Mp)(order:List Expr)(e:Expr):Hs:=
 lf (λst s=>
  let D:=dR st.d s
  let n:=D.length
  let (st,D):=if n≥2&&s.hasFVar&&own s*(n-1)≥120 then
    match typ env lc m s with
    | some T=>
     if T.isProp || !(T.hasFVar || T.hasLooseBVars) then
      let f:=yH m s
      let x:Expr:=.fvar ⟨.num `h st.h.size⟩
      let D:=match look m f with
       | some b=>lm (λd=>.bvar (d.bvarIdx!+1)) (dR st.d b)
       | none=>[.bvar 0]
      ({ st with h:=ins st.h s x,w:=Aay st.w f (dR st.w f++[s]) },D)
     else (st,D)
    | none=>(st,D)
   else (st,D)
  lf (λst (k,i)=>if atom k then st else
   { st with d:=Aay st.d k (lf (λc d=>let d:=.bvar (d.bvarIdx!+i);if c.contains d then c else d::c) (dR st.d k) D) }) st (parts m ((look m s).getD s) s)) { d:=Aay {} e [.bvar 0],h:={} } order
def build (env:Environment)(lc:LocalContext)(m:Mp)(st:Hs)(e:Expr):M Expr:=do
 let wrap (self:Bool->Expr->M Expr) (f b:Expr) (o:Array Expr):M Expr:=do
  let ss:=dR st.w f
  let xs:=o++(lm (λs=>(look st.h s).getD s) ss.reverse).toArray
  let b <-self true b
  return (<-fs (λ(b,n) s=>return (.letE `a ((typ env lc m s).getD s) ((<-self false s).abstractRange n xs) b false,n-1)) (b.abstract xs,xs.size-1) ss).1
 let go:=fix (λ_=>pure) (λ(self:Bool->Expr->M Expr) top e=>do
  if atom e then return e
  if top then
   if let some x:=look st.h e then return x
   if let some r:=<-got e then return r
  let f:=(look m e).getD e
  let r <-match e with
   | .app g x=>pure <| .app (<-self true g) (<-self true x)
   | .mdata _ x=>self true x
   | .proj s i x=>pure <| .proj s i (<-self true x)
   | .lam n T b bi=>pure <| .lam n (<-self true T) (<-wrap self f (body m f b) #[f]) bi
   | .forallE n T b bi=>pure <| .forallE n (<-self true T) (<-wrap self f (body m f b) #[f]) bi
   | .letE n T v b d=>pure <| .letE n (<-self true T) (<-self true v) (<-wrap self f (body m f b) #[f]) d
   | e=>pure <| e
  if top then put e r else return r) 4000
 wrap go (.fvar ⟨`root⟩) e #[]
def hoist (env:Environment)(lc:LocalContext)(e:Expr):Expr:=
 let (m,o,_):=((visit e).run ({},[],0)).2
 ShareCommon.shareCommon' ((build env lc m (RA env lc m o e) e).run {}).1
open Elab Tactic
def mm {α β:Type}(f:α->MetaM β):List α->MetaM (List β)
 | []=>return []
 | a::l=>return (<-f a)::(<-mm f l)
def main:TacticM Unit:=do
 let ls <-PySem.W.kExtra.get
 let some (_,t):=ls.find? (·.1 == "p") | throwError "no text"
 PySem.W.kExtra.set (lq (·.1 != "p") ls)
 let g <-getMainGoal
 g.withContext do
  let env <-getEnv
  let m <-Meta.mkFreshExprSyntheticOpaqueMVar (<-g.getType)
  let gs:=(<-getGoals).tail!
  setGoals [m.mvarId!]
  evalTactic t
  done
  Term.synthesizeSyntheticMVarsNoPostponing
  let e <-instantiateMVars m
  if e.hasExprMVar then throwError "a hole is left"
  let e:=hoist env (<-getLCtx) (clean (<-getEnv) e)
  if lf (λr c=>r&&env.contains c) true e.getUsedConstants.toList then setEnv env
  g.assign e
  setGoals gs
end BN
local macro_rules | `(tactic| k_with "o"=>$t:tacticSeq)=>`(tactic| ((k_with "p"=>$t:tacticSeq);run_tac BN.main))
section
namespace Ar
inductive E | v (i:Nat) | n (k:Nat) | a (x y:E) | m (k:Nat)(x:E) | r (x:E)(k:Nat)
inductive K | z | c (x:Nat)(r:K)
inductive L | z | c (k:Nat)(x y:E)(r:L)
noncomputable def K.g (c:K):Nat->Nat:=K.rec (λ_=>0) (λx _ ih i=>Nat.rec x (λj _=>ih j) i) c
noncomputable def E.d (c:K)(e:E):Nat:=E.rec (λi=>c.g i) (λk=>k) (λ_ _ x y=>x+y) (λk _ x=>k*x) (λ_ k x=>x*k) e
noncomputable def L.d (c:K)(P:Prop)(l:L):Prop:=L.rec P (λ_ x y _ r=>x.d c<=y.d c->r) l
noncomputable def pad:Nat->List Nat->List Nat | 0,l=>l | i+1,l=>0::pad i l
noncomputable def add:List Nat->List Nat->List Nat
 | [],b=>b
 | x::a,[]=>x::a
 | x::a,y::b=>(x+y)::add a b
noncomputable def mul (k:Nat):List Nat->List Nat | []=>[] | x::a=>(k*x)::mul k a
noncomputable def ev (f:Nat->Nat):List Nat->Nat | []=>0 | x::a=>x*f 0+ev (λi=>f (i+1)) a
theorem Aa4 (f)(i)(l):ev f (pad i l)=ev (λj=>f (j+i)) l:=by k_with "o"=>
 induction i generalizing f with
 | zero=>rfl
 | succ i ih=>simp only [pad,ev,ih,Nat.zero_mul,Nat.zero_add];congr
theorem fX (f a b):ev f (add a b)=ev f a+ev f b:=by k_with "o"=>
 induction a generalizing f b with
 | nil=>simp [add,ev]
 | cons x a ih=>cases b with
  | nil=>simp [add,ev]
  | cons y b=>simp only [add,ev,ih,Nat.add_mul];exact Nat.add_add_add_comm ..
theorem bE (f k a):ev f (mul k a)=k*ev f a:=by k_with "o"=>
 induction a generalizing f with
 | nil=>rfl
 | cons x a ih=>simp only [mul,ev,ih,Nat.mul_add,Nat.mul_assoc]
noncomputable def E.p (e:E):List Nat:=E.rec (λi=>pad (i+1) [1]) (λk=>[k]) (λ_ _ x y=>add x y) (λk _ x=>mul k x) (λ_ k x=>mul k x) e
noncomputable def K.f (c:K):Nat->Nat | 0=>1 | i+1=>c.g i
theorem E.HL (c:K)(e:E):ev c.f e.p=e.d c:=by k_with "o"=>
 induction e with
 | v i=>simp only [E.p,Aa4,ev,Nat.zero_add,Nat.one_mul,Nat.add_zero];rfl
 | n k=>simp only [E.p,ev,K.f,Nat.mul_one,Nat.add_zero];rfl
 | a x y hx hy=>exact (fX _ x.p y.p).trans (by rw [hx,hy];rfl)
 | m k x hx=>exact (bE _ k x.p).trans (by rw [hx];rfl)
 | r x k hx=>exact (bE _ k x.p).trans (by rw [hx];exact Nat.mul_comm k _)
noncomputable def L.l (l:L):List Nat:=L.rec [] (λk x _ _ r=>add (mul k x.p) r) l
noncomputable def L.r (l:L):List Nat:=L.rec [] (λk _ y _ r=>add (mul k y.p) r) l
noncomputable def GV:List Nat->List Nat->Bool
 | [],_=>true
 | x::a,[]=>Nat.beq x 0&&GV a []
 | x::a,y::b=>Nat.ble x y&&GV a b
noncomputable def MM:List Nat->List Nat->Bool
 | [],y::_=>Nat.ble 1 y
 | x::a,y::b=>Nat.ble (x+1) y&&GV a b
 | _,[]=>false
theorem Aav (f):∀r l,GV r l=true->ev f r<=ev f l:=by k_with "o"=>
 intro r
 induction r generalizing f with
 | nil=>intro l _;simp [ev]
 | cons x a ih=>
  intro l h
  cases l with
  | nil=>
   simp only [GV,Bool.and_eq_true] at h
   have:=ih (λi=>f (i+1)) [] h.2
   rw [Nat.eq_of_beq_eq_true h.1];simpa [ev] using this
  | cons y b=>
   simp only [GV,Bool.and_eq_true] at h
   exact Nat.add_le_add (Nat.mul_le_mul_right _ (Nat.le_of_ble_eq_true h.1)) (ih _ b h.2)
theorem uA (c:K):∀r l,MM r l=true->ev c.f r<ev c.f l:=by k_with "o"=>
 intro r l h
 cases l with
 | nil=>cases r<;>simp [MM] at h
 | cons y b=>cases r with
  | nil=>exact Nat.le_trans (Nat.le_of_ble_eq_true h) (Nat.le_trans (Nat.le_of_eq (Nat.mul_one y).symm) (Nat.le_add_right ..))
  | cons x a=>
   simp only [MM,Bool.and_eq_true] at h
   have h1:=Nat.le_of_ble_eq_true h.1
   have h2:=Aav (λi=>c.f (i+1)) a b h.2
   exact Nat.add_lt_add_of_lt_of_le (Nat.mul_lt_mul_of_pos_right h1 Nat.one_pos) h2
theorem L.go (c:K)(P:Prop)(l:L)(h:ev c.f l.l<=ev c.f l.r->P):l.d c P:=by k_with "o"=>
 suffices H:∀A B,(A+ev c.f l.l<=B+ev c.f l.r->A<=B->P)->A<=B->l.d c P by
  exact H 0 0 (λx _=>h (by simpa using x)) (Nat.le_refl _)
 clear h
 induction l with
 | z=>intro A B h x;exact h (by simpa [L.l,L.r,ev] using x) x
 | c k x y r ih=>
  intro A B h O' NO
  refine ih (A+k*x.d c) (B+k*y.d c) (λz _=>h ?_ O') (Nat.add_le_add O' (Nat.mul_le_mul_left k NO))
  show A+ev c.f (add (mul k x.p) r.l)<=B+ev c.f (add (mul k y.p) r.r)
  rw [fX,fX,bE,bE,E.HL,E.HL,<-Nat.add_assoc,<-Nat.add_assoc];exact z
theorem bad (c:K)(P:Prop)(l:L)(h:MM l.r l.l=true):l.d c P:=by k_with "o"=>exact(
 L.go c P l (λx=>absurd (uA c _ _ h) (by omega)))
theorem le (c:K)(x y:E)(k:Nat)(l:L)(h:MM (L.c k (E.a y (E.n 1)) x l).r (L.c k (E.a y (E.n 1)) x l).l=true):l.d c (x.d c<=y.d c):=by k_with "o"=>
 have H:=bad c (x.d c<=y.d c) _ h
 by_cases g:x.d c<=y.d c
 ·clear H h
  generalize (x.d c<=y.d c)=P at g
  induction l with
  | z=>exact g
  | c k x y r ih=>exact λ_=>ih
 ·exact H (by show y.d c+1<=x.d c;omega)
inductive I | v (i:Nat) | n (k:Nat) | c (e:E) | a (x y:I) | s (x y:I) | g (x:I) | m (k:Nat)(x:I) | r (x:I)(k:Nat)
inductive KI | z | c (x:Int)(r:KI)
inductive LI | z | c (k:Nat)(x y:I)(r:LI) | n (k:Nat)(x y:E)(r:LI)
noncomputable def KI.g (c:KI):Nat->Int:=KI.rec (λ_=>0) (λx _ ih i=>Nat.rec x (λj _=>ih j) i) c
noncomputable def I.d (c:K)(f:KI)(e:I):Int:=
 I.rec (λi=>f.g i) (λk=>(k:Int)) (λe=>((e.d c:Nat):Int)) (λ_ _ x y=>x+y) (λ_ _ x y=>x-y) (λ_ x=>-x) (λk _ x=>(k:Int)*x) (λ_ k x=>x*(k:Int)) e
noncomputable def LI.d (c:K)(f:KI)(P:Prop)(l:LI):Prop:=
 LI.rec P (λ_ x y _ r=>x.d c f<=y.d c f->r) (λ_ x y _ r=>x.d c<=y.d c->r) l
noncomputable def DV (f:Nat->Int):List Nat->Int | []=>0 | x::a=>(x:Int)*f 0+DV (λi=>f (i+1)) a
theorem yC (f)(i)(l):DV f (pad i l)=DV (λj=>f (j+i)) l:=by k_with "o"=>
 induction i generalizing f with
 | zero=>rfl
 | succ i ih=>simp only [pad,DV,ih];simp;congr
theorem q2 (a b c d:Int):a+b+(c+d)=a+c+(b+d):=by k_with "o"=>exact(
 (Int.add_assoc a b (c+d)).trans ((congrArg (a+·) (Int.add_left_comm b c d)).trans (Int.add_assoc a c (b+d)).symm))
theorem q5 (a b c d:Int):a+b-(c+d)=a-c+(b-d):=by k_with "o"=>exact(
 (congrArg (a+b+·) (Int.neg_add (a:=c) (b:=d))).trans (q2 a b (-c) (-d)))
theorem yE (f a b):DV f (add a b)=DV f a+DV f b:=by k_with "o"=>
 induction a generalizing f b with
 | nil=>simp [add,DV]
 | cons x a ih=>cases b with
  | nil=>simp [add,DV]
  | cons y b=>simp only [add,DV,ih,Int.natCast_add,Int.add_mul];exact q2 ..
theorem yD (f k a):DV f (mul k a)=k*DV f a:=by k_with "o"=>
 induction a generalizing f with
 | nil=>simp [mul,DV]
 | cons x a ih=>simp only [mul,DV,ih,Int.mul_add,Int.natCast_mul,Int.mul_assoc]
structure Q where
 p:List Nat
 q:List Nat
 u:List Nat
 w:List Nat
noncomputable def Q.d (c:K)(f:KI)(x:Q):Int:=(ev c.f x.p:Int)-(ev c.f x.q:Int)+(DV f.g x.u-DV f.g x.w)
noncomputable def Q.add (x y:Q):Q:=⟨Ar.add x.p y.p,Ar.add x.q y.q,Ar.add x.u y.u,Ar.add x.w y.w⟩
noncomputable def Q.neg (x:Q):Q:=⟨x.q,x.p,x.w,x.u⟩
noncomputable def Q.mul (k:Nat)(x:Q):Q:=⟨Ar.mul k x.p,Ar.mul k x.q,Ar.mul k x.u,Ar.mul k x.w⟩
theorem q4 (a b c d e f g h:Int):a+b-(c+d)+(e+f-(g+h))=a-c+(e-g)+(b-d+(f-h)):=by k_with "o"=>
 rw [q5,q5,q2]
theorem q3 (a b c d:Int):a-b+(c-d)=-(b-a+(d-c)):=by k_with "o"=>
 rw [Int.neg_add,Int.neg_sub,Int.neg_sub]
theorem Q.FK (c f)(x y:Q):(x.add y).d c f=x.d c f+y.d c f:=by k_with "o"=>
 simp only [Q.d,Q.add,fX,yE,Int.natCast_add];exact q4 ..
theorem Q.HQ (c f)(x:Q):x.neg.d c f=-x.d c f:=by k_with "o"=>
 exact q3 ..
theorem Q.GF (c f)(k:Nat)(x:Q):(x.mul k).d c f=k*x.d c f:=by k_with "o"=>
 simp only [Q.d,Q.mul,bE,yD,Int.natCast_mul,Int.mul_add,Int.mul_sub]
noncomputable def I.q (e:I):Q:=
 I.rec (λi=>⟨[],[],pad i [1],[]⟩) (λk=>⟨[k],[],[],[]⟩) (λe=>⟨e.p,[],[],[]⟩)
  (λ_ _ x y=>x.add y) (λ_ _ x y=>x.add y.neg) (λ_ x=>x.neg) (λk _ x=>x.mul k) (λ_ k x=>x.mul k) e
theorem I.V2 (c:K)(f:KI)(e:I):e.q.d c f=e.d c f:=by k_with "o"=>
 induction e with
 | v i=>simp only [I.q,Q.d,ev,DV,yC];simp [I.d]
 | n k=>simp only [I.q,Q.d,ev,DV,K.f];simp [I.d]
 | c e=>simp only [I.q,Q.d,ev,DV,E.HL];simp [I.d]
 | a x y hx hy=>exact (Q.FK c f x.q y.q).trans (by rw [hx,hy];rfl)
 | s x y hx hy=>exact (Q.FK c f x.q y.q.neg).trans (by rw [Q.HQ,hx,hy];exact Int.sub_eq_add_neg.symm)
 | g x hx=>exact (Q.HQ c f x.q).trans (by rw [hx];rfl)
 | m k x hx=>exact (Q.GF c f k x.q).trans (by rw [hx];rfl)
 | r x k hx=>exact (Q.GF c f k x.q).trans (by rw [hx];exact Int.mul_comm _ _)
noncomputable def LI.q (l:LI):Q:=
 LI.rec ⟨[],[],[],[]⟩ (λk x y _ r=>((y.q.add x.q.neg).mul k).add r) (λk x y _ r=>((Q.mk y.p x.p [] []).mul k).add r) l
noncomputable def XY (a b:List Nat):Bool:=GV a b&&GV b a
noncomputable def Q.bad (x:Q):Bool:=MM x.p x.q&&XY x.u x.w
theorem xT:∀r l,GV r l=true->GV l r=true->∀f,DV f r=DV f l:=by k_with "o"=>
 intro r
 induction r with
 | nil=>
  intro l
  induction l with
  | nil=>intros;rfl
  | cons y b ih=>
   intro _ h f
   simp only [GV,Bool.and_eq_true] at h
   rw [Nat.eq_of_beq_eq_true h.1];have:=ih rfl h.2 (λi=>f (i+1));simp only [DV] at *;simp;exact this
 | cons x a ih=>
  intro l h g f
  cases l with
  | nil=>
   simp only [GV,Bool.and_eq_true] at h
   rw [Nat.eq_of_beq_eq_true h.1];have:=ih [] h.2 (by cases a<;>rfl) (λi=>f (i+1));simp only [DV] at *;simp;exact this
  | cons y b=>
   simp only [GV,Bool.and_eq_true] at h g
   have e:=Nat.le_antisymm (Nat.le_of_ble_eq_true h.1) (Nat.le_of_ble_eq_true g.1)
   simp only [DV,e,ih b h.2 g.2]
theorem Q.PL (c f)(x:Q)(h:x.bad=true):x.d c f<0:=by k_with "o"=>
 simp only [Q.bad,XY,Bool.and_eq_true] at h
 have a:=uA c _ _ h.1
 have b:=xT _ _ h.2.1 h.2.2 f.g
 simp only [Q.d];omega
theorem LI.go (c:K)(f:KI)(P:Prop)(l:LI)(h:0<=l.q.d c f->P):l.d c f P:=by k_with "o"=>
 suffices H:∀A:Int,0<=A->(0<=A+l.q.d c f->P)->l.d c f P from H 0 (Int.le_refl _) (λx=>h (by rwa [Int.zero_add] at x))
 clear h
 induction l with
 | z=>intro A hA h;exact h (Int.le_trans hA (Int.le_of_eq (Int.add_zero A).symm))
 | c k x y r ih=>
  intro A hA h NO
  refine ih (A+k*(y.d c f-x.d c f)) (Int.add_nonneg hA (Int.mul_nonneg (Int.natCast_nonneg k) (Int.sub_nonneg_of_le NO))) (λz=>h ?_)
  show 0<=A+(((y.q.add x.q.neg).mul k).add r.q).d c f
  rw [Q.FK,Q.GF,Q.FK,Q.HQ,I.V2,I.V2,<-Int.sub_eq_add_neg,<-Int.add_assoc];exact z
 | n k x y r ih=>
  intro A hA h NO
  refine ih (A+k*((y.d c:Int)-(x.d c:Int))) (Int.add_nonneg hA (Int.mul_nonneg (Int.natCast_nonneg k) (Int.sub_nonneg_of_le (Int.ofNat_le.mpr NO)))) (λz=>h ?_)
  show 0<=A+(((Q.mk y.p x.p [] []).mul k).add r.q).d c f
  have e:(Q.mk y.p x.p [] []).d c f=(y.d c:Int)-(x.d c:Int):=by
   rw [<-E.HL c x,<-E.HL c y];exact Int.add_zero _
  rw [Q.FK,Q.GF,e,<-Int.add_assoc];exact z
theorem ibad (c:K)(f:KI)(P:Prop)(l:LI)(h:l.q.bad=true):l.d c f P:=by k_with "o"=>exact(
 LI.go c f P l (λx=>absurd (Q.PL c f _ h) (by omega)))
theorem s1 (a b:Nat):a<=(a-b)+b:=by k_with "o"=>exact(
 Nat.sub_le_iff_le_add.mp (Nat.le_refl _))
theorem s3 {a b:Nat}(h:b<=a):(a-b)+b<=a:=by k_with "o"=>exact(
 Nat.le_of_eq (Nat.sub_add_cancel h))
theorem s4 {a b:Nat}(h:a<=b):a-b<=0:=by k_with "o"=>exact(
 Nat.le_of_eq (Nat.sub_eq_zero_of_le h))
theorem d2 (a k:Nat)(h:Nat.ble 1 k=true):a+1<=k*(a/k)+k:=Nat.lt_mul_div_succ a (Nat.le_of_ble_eq_true h)
theorem m1 (a k:Nat):k*(a/k)+a % k<=a:=Nat.le_of_eq (Nat.div_add_mod a k)
theorem m2 (a k:Nat):a<=k*(a/k)+a % k:=Nat.le_of_eq (Nat.div_add_mod a k).symm
theorem m3 (a k:Nat)(h:Nat.ble 1 k=true):a % k+1<=k:=Nat.mod_lt a (Nat.le_of_ble_eq_true h)
theorem mn (a b:Nat):(a<=b/\a<=min a b)\/(b<=a/\b<=min a b):=by k_with "o"=>exact(
 (Nat.le_total a b).elim (λh=>.inl ⟨h,Nat.le_of_eq (Nat.min_eq_left h).symm⟩) (λh=>.inr ⟨h,Nat.le_of_eq (Nat.min_eq_right h).symm⟩))
theorem mx (a b:Nat):(a<=b/\max a b<=b)\/(b<=a/\max a b<=a):=by k_with "o"=>exact(
 (Nat.le_total a b).elim (λh=>.inl ⟨h,Nat.le_of_eq (Nat.max_eq_right h)⟩) (λh=>.inr ⟨h,Nat.le_of_eq (Nat.max_eq_left h)⟩))
theorem tn (x:Int):(0<=x/\(x.toNat:Int)<=x)\/(x<=0/\x.toNat<=0):=by k_with "o"=>exact(
 (Int.le_total 0 x).elim (λh=>.inl ⟨h,Int.le_of_eq (Int.toNat_of_nonneg h)⟩) (λh=>.inr ⟨h,Nat.le_of_eq (Int.toNat_of_nonpos h)⟩))
theorem tl (x:Int):x<=(x.toNat:Int):=by k_with "o"=>exact(
 Int.self_le_toNat x)
theorem i1 {a b:Int}(h:¬a<=b):b<a:=by k_with "o"=>exact(
 Int.not_le.mp h)
theorem i2 {a b:Int}(h:¬a<b):b<=a:=by k_with "o"=>exact(
 Int.not_lt.mp h)
theorem i3 {a b:Int}(h:a≠b):a<b\/b<a:=by k_with "o"=>exact(
 Int.lt_or_gt_of_ne h)
theorem i4 {a b:Int}(h:a=b):a<=b:=by k_with "o"=>exact(
 Int.le_of_eq h)
theorem i5 {a b:Int}(h:a=b):b<=a:=by k_with "o"=>exact(
 Int.le_of_eq h.symm)
theorem n5 {a b:Nat}(h:a=b):b<=a:=by k_with "o"=>exact(
 Nat.le_of_eq h.symm)
theorem sp (a b:Nat):(b<=a/\(a-b)+b<=a)\/(a<=b/\a-b<=0):=by k_with "o"=>exact(
 (Nat.le_total b a).elim (λh=>.inl ⟨h,s3 h⟩) (λh=>.inr ⟨h,s4 h⟩))
open Lean
abbrev V:=List Int
structure St where
 ix:BN.Mp:={}
 at_:List (Expr×Bool):=[]
 cs:List (Bool×Expr×Expr×V×Expr):=[]
 ss:List (Expr×Expr×Option (Expr×Expr)):=[]
 n:Nat:=0
abbrev M:=StateM St
def KW (k:Int)(x:V)(l:Int)(y:V):V:=List.zipWithAll (λa b=>k*a.getD 0+l*b.getD 0) x y
def lit (k:Nat):Expr:=mkRawNatLit k
def cn (z:Bool)(s:String):Expr:=.const (.str (if z then ``Ar.I else ``Ar.E) s) []
def num (z:Bool)(k:Nat):Expr×V:=(.app (cn z "n") (lit k),[(k:Int)])
def plus (z:Bool)(x y:Expr×V):Expr×V:=(mkApp2 (cn z "a") x.1 y.1,KW 1 x.2 1 y.2)
def P4 (z:Bool)(k:Nat)(x:Expr×V):Expr×V:=(mkApp2 (cn z "m") (lit k) x.1,KW k x.2 0 [])
def fact (z:Bool)(x y:Expr×V)(p:Expr):M Unit:=modify λs=>{ s with cs:=(z,x.1,y.1,KW 1 y.2 (-1) x.2,p)::s.cs }
def Abi (p t:Expr)(d:Option (Expr×Expr):=none):M Unit:=modify λs=>{ s with ss:=s.ss++[(p,t,d)] }
def tt:Expr:=mkApp2 (.const ``Eq.refl [1]) (.const ``Bool []) (.const ``Bool.true [])
def c1 (n:Name)(as:List Expr):Expr:=BN.ap n [] as
def nm (e:Expr):Name:=e.getAppFn.constName?.getD .anonymous
def nat? (e:Expr):Option Nat:=if nm e==``OfNat.ofNat then e.appFn!.appArg!.rawNatLit? else e.rawNatLit?
def atom (env:Environment)(self:Bool->Expr->M (Expr×V))(z:Bool)(e:Expr):M (Expr×V):=do
 let (i,new) <-modifyGet λs=>match BN.look s.ix e with
  | some (.bvar i)=>((i,false),s)
  | _=>((s.at_.length,true),{ s with ix:=BN.ins s.ix e (.bvar s.at_.length),at_:=s.at_++[(e,z)] })
 let t:Expr×V:=(.app (cn z "v") (lit i),List.replicate (i+1) 0++[1])
 if new&&!z then
  let as:=e.getAppArgs
  let a:=as.getD (as.size-2) e
  let b:=as.getD (as.size-1) e
  let P2 (n:Name) (d:Option (Expr×Expr)) (as:List Expr):M Unit:=let p:=c1 n as;match BN.typ env {} {} p with | some t=>Abi p t d | none=>pure ()
  let n:=nm e
  if n==``HSub.hSub then
   let x <-self false a
   let y <-self false b
   fact false x (plus false t y) (c1 ``s1 [a,b])
   fact false t x (c1 ``Nat.sub_le [a,b])
   P2 ``sp (some (a,b)) [a,b]
  else if n==``HDiv.hDiv || n==``HMod.hMod then
   match nat? b with
   | some (k+1)=>
    let k:=k+1
    let x <-self false a
    if n==``HDiv.hDiv then
     fact false (P4 false k t) x (c1 ``Nat.mul_div_le [a,b])
     fact false (plus false x (num false 1)) (plus false (P4 false k t) (num false k)) (c1 ``d2 [a,b,tt])
    else
     let q <-self false (mkApp6 (.const ``HDiv.hDiv [0,0,0]) (.const ``Nat []) (.const ``Nat []) (.const ``Nat []) (mkApp2 (.const ``instHDiv [0]) (.const ``Nat []) (.const ``Nat.instDiv [])) a b)
     let r:=plus false (P4 false k q) t
     fact false r x (c1 ``m1 [a,b])
     fact false x r (c1 ``m2 [a,b])
     fact false (plus false t (num false 1)) (num false k) (c1 ``m3 [a,b,tt])
   | _=>pure ()
  else if n==``Min.min then
   fact false t (<-self false a) (c1 ``Nat.min_le_left [a,b])
   fact false t (<-self false b) (c1 ``Nat.min_le_right [a,b])
   P2 ``mn none [a,b]
  else if n==``Max.max then
   fact false (<-self false a) t (c1 ``Nat.le_max_left [a,b])
   fact false (<-self false b) t (c1 ``Nat.le_max_right [a,b])
   P2 ``mx none [a,b]
  else if n==``Int.toNat then
   fact true (<-self true b) (.app (cn true "c") t.1,t.2) (c1 ``tl [b])
   P2 ``tn none [b]
 return t
def tm (env:Environment):Bool->Expr->M (Expr×V):=
 BN.fix (λ_ e=>pure (e,[])) (λself z e=>do
  if let some k:=nat? e then return num z k
  let as:=e.getAppArgs
  let a:=as.getD (as.size-2) e
  let b:=as.getD (as.size-1) e
  let n:=nm e
  if n==``HAdd.hAdd then return plus z (<-self z a) (<-self z b)
  if n==``Nat.succ then return plus z (<-self z b) (num z 1)
  if n==``HMul.hMul then
   if let some k:=nat? a then return P4 z k (<-self z b)
   if let some k:=nat? b then
    let x <-self z a
    return (mkApp2 (cn z "r") x.1 (lit k),KW k x.2 0 [])
  if n==``HPow.hPow then
   if let (some x,some y):=(nat? a,nat? b) then
    if y<=64 then return num z (x^y)
  if z then
   if n==``HSub.hSub then
    let x <-self z a
    let y <-self z b
    return (mkApp2 (cn z "s") x.1 y.1,KW 1 x.2 (-1) y.2)
   if n==``Neg.neg then
    let x <-self z b
    return (.app (cn z "g") x.1,KW (-1) x.2 0 [])
   if n==``Nat.cast || n==``Int.ofNat then
    let x <-self false b
    return (.app (cn z "c") x.1,x.2)
  atom env self z e) 60
def kind (t:Expr):Nat:=if t.isConstOf ``Nat then 0 else if t.isConstOf ``Int then 1 else 2
def hyp (env:Environment):Expr->Expr->M Unit:=
 BN.fix (λ_ _=>pure ()) (λself p t=>do
  let n:=nm t
  let as:=t.getAppArgs
  let a:=as.getD (as.size-2) t
  let b:=as.getD (as.size-1) t
  let k:=kind (as.getD 0 t)
  let z:=k==1
  let put (a b p:Expr) (one:Bool):M Unit:=do
   let x <-tm env z a
   fact z (if one then plus z x (num z 1) else x) (<-tm env z b) p
  let pick (x y:Name) (as:List Expr):Expr:=c1 (if z then y else x) as
  if n==``And then
   self (.proj ``And 0 p) a
   self (.proj ``And 1 p) b
  else if n==``Or then Abi p t
  else if n==``Not || (t.isArrow&&t.bindingBody!.isConstOf ``False) then
   let u:=if n==``Not then b else t.bindingDomain!
   let m:=nm u
   let as:=u.getAppArgs
   let x:=as.getD 2 u
   let y:=as.getD 3 u
   if m==``Eq&&as.size==3 then self p (mkApp3 (.const ``Ne [1]) (as.getD 0 u) (as.getD 1 u) x)
   else if as.size==4 then
    let k:=kind (as.getD 0 u)
    let z:=k==1
    let ne (c d:Name) (l:Name) (x y:Expr):M Unit:=self (c1 (if z then d else c) [x,y,p]) (mkApp4 (.const l [0]) (as.getD 0 u) (as.getD 1 u) y x)
    if k<2 then
     if m==``LE.le then ne ``Nat.lt_of_not_le ``i1 ``LT.lt x y
     else if m==``LT.lt then ne ``Nat.le_of_not_lt ``i2 ``LE.le x y
     else if m==``GE.ge then ne ``Nat.lt_of_not_le ``i1 ``LT.lt y x
     else if m==``GT.gt then ne ``Nat.le_of_not_lt ``i2 ``LE.le y x
  else if k<2 then
   if n==``LE.le then put a b p false
   else if n==``LT.lt then put a b p true
   else if n==``GE.ge then put b a p false
   else if n==``GT.gt then put b a p true
   else if n==``Eq then
    put a b (pick ``Nat.le_of_eq ``i4 [a,b,p]) false
    put b a (pick ``n5 ``i5 [a,b,p]) false
   else if n==``Ne then
    let q:=pick ``Nat.lt_or_gt_of_ne ``i3 [a,b,p]
    match BN.typ env {} {} (pick ``Nat.lt_or_gt_of_ne ``i3 [a,b,.const ``True.intro []]) with
    | some t=>Abi q t
    | none=>pure ()) 40
abbrev Row:=List Rat
def at_ (r:Row)(i:Nat):Rat:=r.getD i 0
def Aap (w:Nat):List (Nat×Row)×Row->Option (List (Nat×Row)×Row):=
 BN.fix some (λself (t,z)=>
  match z.findIdx? (·<0) with
  | none=>some (t,z)
  | some e=>
   if e≥w then some (t,z) else
   let U7:=BN.lq (λ(_,r)=>at_ r e>0) t
   let q (r:Row):Rat:=at_ r w/at_ r e
   match U7 with
   | []=>none
   | c::cs=>
    let (b0,r):=BN.lf (λx y=>let a:=q y.2;let b:=q x.2;if a<b || (a==b&&y.1<x.1) then y else x) c cs
    let pv:=at_ r e
    let row:=BN.lm (·/pv) r
    let sub (r:Row):Row:=let k:=at_ r e;if k==0 then r else BN.lm (λ(a,b)=>a-k*b) (r.zip row)
    self (BN.lm (λ(b,r)=>if b==b0 then (e,row) else (b,sub r)) t,sub z)) 600
def Aa3 (zs:List Bool)(rows:List V):Option (List Nat):=
 let m:=rows.length
 let col (i:Nat):Row:=BN.lm (λr=>((r.getD i 0:Int):Rat)) rows
 let cols:List Row:=BN.lf (λo (b,i)=>
  let c:=col (i+1)
  o++if b then [c,BN.lm (- ·) c] else [c]) [] zs.zipIdx
 let k:=cols.length
 let w:=m+k+1
 let unit (i:Nat):Row:=(List.replicate (k+1) 0).set i 1
 let t:=BN.lm (λ(c,i)=>(m+i,c++(unit i++[0]))) cols.zipIdx++[(m+k,List.replicate m 1++(unit k++[1]))]
 match Aap w (t,col 0++List.replicate (k+2) 0) with
 | none=>none
 | some (t,z)=>
  if at_ z w<=0 then none else
  let lam:Row:=BN.lm (λj=>BN.lf (λd (i,r)=>if i==j then at_ r w else d) 0 t) (List.range m)
  let d:=BN.lf (λd q=>Nat.lcm d q.den) 1 lam
  let ks:=BN.lm (λq=>(q*(d:Rat)).num.toNat) lam
  let g:=BN.lf Nat.gcd 0 ks
  some (BN.lm (·/g) ks)
abbrev G:=Option ((Expr×V)×(Expr×V))
def leaf (z:Bool)(P:Expr)(g:G)(st:St):Option Expr:=do
 let cs:=(if z then st.cs else BN.lq (!·.1) st.cs).reverse
 let A:=BN.lm (·.2.2.2.1) cs++match g with | some (x,y)=>[KW 1 x.2 (-1) (plus false y (num false 1)).2] | none=>[]
 let ks <-Aa3 (BN.lm (λa=>z&&a.2) st.at_) A
 let used:=BN.lq (·.2 != 0) (cs.zip ks)
 let l:=BN.lf (λr ((i,x,y,_,_),k)=>c1 (if z then (if i then ``LI.c else ``LI.n) else ``L.c) [lit k,x,y,r]) (.const (if z then ``LI.z else ``L.z) []) used.reverse
 let gk:=match g with | some _=>ks.getD cs.length 0 | none=>0
 let gx:=match g with | some (x,y)=>[x.1,y.1] | none=>[]
 let all:=if gk != 0 then BN.HB l gx else l
 
 let V4 (z:Bool):List Nat:=BN.lm (·.2) (BN.lq (λ(a,i)=>a.2==z&&(all.find? (·==.app (cn z "v") (lit i))).isSome) st.at_.zipIdx)
 let no:=V4 false
 let io:=V4 true
 let P6 (e:Expr):Expr:=e.replace λx=>match x with
  | .app (.const c us) (.lit (.natVal i))=>
   if c==``E.v then some (.app (.const c us) (lit (no.idxOf i))) else if c==``I.v then some (.app (.const c us) (lit (io.idxOf i))) else none
  | _=>none
 let ctx (o:List Nat) (c n:Name):Expr:=BN.lf (λr i=>c1 c [(st.at_.getD i (P,z)).1,r]) (.const n []) o.reverse
 let K:=ctx no ``K.c ``K.z
 let hd:=if z then c1 ``Ar.ibad [K,ctx io ``KI.c ``KI.z,P,P6 l,tt]
  else if gk != 0 then c1 ``Ar.le (K::(BN.lm P6 gx++[lit gk,P6 l,tt]))
  else c1 ``Ar.bad [K,P,P6 l,tt]
 return BN.lf (λe u=>.app e u.1.2.2.2.2) hd used
def fresh (t:Expr)(k:Expr->M (Option Expr)):M (Option Expr):=do
 let x:Expr:=.fvar ⟨.num `ar (<-modifyGet λs=>(s.n,{ s with n:=s.n+1 }))⟩
 return (<-k x).map λr=>.lam `h t (r.abstract #[x]) .default
def back {α:Type}(k:M α):M α:=do
 let s <-get
 let a <-k
 modify λt=>{ s with n:=t.n }
 return a
def X0 (env:Environment)(P:Expr)(k:M (Option Expr)):M (Option Expr):=back do
 return (<-fresh (mkNot P) λh=>do
  hyp env h (mkNot P)
  k).map λe=>c1 ``Classical.byContradiction [P,e]
def prove (env:Environment)(z:Bool)(P:Expr)(g:G):Unit->M (Option Expr):=
 BN.fix (λ_=>pure none) (λself _=>do
  if let some r:=leaf z P g (<-get) then return some r
  
  let more <-BN.fs (λmore (p,_,d)=>do
   let some (a,b):=d | return more
   let Q:=mkNatLE b a
   let x <-tm env false b
   let y <-tm env false a
   let r <-if z then X0 env Q (return leaf true (.const ``False []) none (<-get)) else pure (leaf false Q (some (x,y)) (<-get))
   let some r:=r | return more
   let t <-tm env false (mkNatSub a b)
   fact false (plus false t x) y (c1 ``s3 [a,b,r])
   modify λs=>{ s with ss:=BN.lq (·.1 != p) s.ss }
   return true) false (<-get).ss
  if more then
   if let some r:=leaf z P g (<-get) then return some r
  let (p,t,_)::ss:=(<-get).ss | return none
  modify λs=>{ s with ss:=ss }
  let side (t:Expr):M (Option Expr):=back <| fresh t λh=>do
   hyp env h t
   self ()
  let l:=t.appFn!.appArg!
  let r:=t.appArg!
  let some a <-side l | return none
  let some b <-side r | return none
  return c1 ``Or.elim [l,r,P,p,a,b]) 6
def sol (env:Environment):Expr->M (Option Expr):=
 BN.fix (λ_=>pure none) (λself P=>do
  let n:=nm P
  let as:=P.getAppArgs
  let a:=as.getD (as.size-2) P
  let b:=as.getD (as.size-1) P
  let two (c:Name) (A B:Expr):M (Option Expr):=do
   let some x <-back (self A) | return none
   let some y <-back (self B) | return none
   return c1 c [a,b,x,y]
  let intro (t:Expr) (k:Expr->Expr):M (Option Expr):=fresh t λx=>do
   hyp env x t
   self (k x)
  if n==``And then return <-two ``And.intro a b
  if n==``Iff then return <-two ``Iff.intro (.forallE `h a b .default) (.forallE `h b a .default)
  if n==``Not then return <-intro b λ_=>.const ``False []
  if n==``Ne then return <-intro (mkApp3 (.const ``Eq [1]) (as.getD 0 P) a b) λ_=>.const ``False []
  if let .forallE _ t u _:=P then return <-intro t λx=>u.instantiate1 x
  let k:=kind (as.getD 0 P)
  if n==``Eq&&k<2 then
   return <-if k==0 then two ``Nat.le_antisymm (mkNatLE a b) (mkNatLE b a) else two ``Int.le_antisymm (mkIntLE a b) (mkIntLE b a)
  let goal (one:Bool) (a b:Expr):M (Option Expr):=do
   let x <-tm env false a
   prove env false P (some (if one then plus false x (num false 1) else x,<-tm env false b)) ()
  let r <-back <| if k==0&&n==``LE.le then goal false a b
   else if k==0&&n==``GE.ge then goal false b a
   else if k==0&&n==``LT.lt then goal true a b
   else if k==0&&n==``GT.gt then goal true b a
   else prove env false P none ()
  if r.isSome then return r
  if P.isConstOf ``False then prove env true P none ()
  else X0 env P (prove env true (.const ``False []) none ())) 9
open Elab Tactic in
def main:TacticM Unit:=liftMetaFinishingTactic λg=>g.withContext do
 let env <-getEnv
 let P <-instantiateMVars (<-g.getType)
 let lc <-getLCtx
 let ts:=BN.lm (λf=>(Expr.fvar f,(lc.get! f).type)) lc.getFVarIds.toList
 let ts <-BN.mm (λt=>return (t.1,(<-instantiateMVars t.2))) ts
 let st:=((BN.fs (λ_ (x,t)=>hyp env x t.consumeMData) () ts).run {}).2
 match ((sol env P.consumeMData).run st).1 with
 | some e=>g.assign (mkApp2 (.const ``id [0]) P e)
 | none=>failure
end Ar
end
local macro_rules | `(tactic| omega)=>`(tactic| run_tac Ar.main)
open Nat renaming le_trans->Aa,le_refl->Ah,not_lt->Bh,ne_of_lt->By,zero_le->Ca,le_succ->Cb,lt_of_lt_of_le->Cv,zero_add->Dj,lt_irrefl->Dv,le_of_eq->Ef,min_eq_left->Ew,le_of_lt->Fz,le_succ_of_le->Gg,mul_le_mul_left->Gr,le_of_ble_eq_true->Jj,pow_le_pow_right->Kd,succ_le_succ->Km,le_add_right->Kn,add_assoc->Lf,add_sub_cancel_left->Lu,sub_self->Mk,lt_of_lt_of_eq->Qa,le_of_succ_le->Qs,ne_of_gt->Tc,succ->Vl,mod_lt->Yb,lt_of_le_of_lt->Yc,lt_succ_of_lt->Zu,mod_eq_of_lt->cF,pow_succ->oS,mul_comm->oU,lt_trans->oV
open List renaming length_append->Ab,length_map->Ac,mem_singleton->Ae,mem_map->Af,mem_cons->Ag,map_append->Ai,map_cons->Aj,mem_append_left->Al,length_cons->An,mem_append->Ao,nodup_cons->Ap,mem_append_right->Aq,append_nil->Au,length_take->Av,append_assoc->Ax,map_map->Ay,size_toArray->Az,mem_filter->Bb,mem_of_getElem?->Bd,take_length->Bj,pairwise_append->Bo,getElem?_eq_some_iff->Bq,getElem?_map->Bw,getElem?_of_mem->Bx,length_filter_le->Bz,take_add_one->Cc,nodup_append->Cd,filterMap_cons->Ce,flatMap_cons->Cp,getElem?_eq_getElem->Cs,length_drop->Cw,pairwise_cons->Cy,perm_append_comm->Cz,not_mem_nil->Df,take_of_length_le->Dq,mem_filterMap->Dr,take_append_drop->Dw,length_nil->Eb,foldl_cons->Ec,perm_middle->Ed,Perm->En,nil_append->Er,range->Ex,length_range->Fe,map_congr_left->Fi,length_singleton->Fq,flatMap_append->Gp,isEmpty_iff->Ha,filter_cons->Hb,eq_nil_or_concat->Hf,concat_eq_append->Hg,extract_eq_take_drop->Hl,flatten_cons->Hp,getElem?_take_of_lt->Ht,length_take_le->Hz,replicate->Ia,mem_flatMap->Ib,all_eq_true->Ic,drop_eq_nil_of_le->Im,foldl_append->Jk,mem_of_mem_take->Ka,mem_cons_of_mem->Kb,cons_append->Kf,pairwise_iff_getElem->Ko,drop_eq_getElem_cons->Kp,flatten_append->Ku,getElem?_drop->Lg,pairwise_singleton->Ls,pairwise_map->Lx,nodup_nil->Ly,drop_sublist->Lz,drop_of_length_le->Ma,singleton_append->Ms,map_id->Na,length->Nb,mem_map_of_mem->Oq,getElem?_append_right->Pj,filter_append->Pl,take_sublist->Qp,contains_iff_mem->Tt,mem_range->Uk,length_take_le'->Ul,forall_mem_cons->Um,append_toArray->Vm,zip_cons_cons->Wx,mem_cons_self->Wy,filter_filter->Wz,zip_nil_left->Zb,reverse_cons->Zc,map_id'->Zd,any_eq_false->Ze,lookup_cons->aF,getElem_mem->aG,range_succ->cG,take_zero->eU,drop_drop->eV,mem_of_find?_eq_some->gT,getElem?_append_left->gU,any_cons->gV,Pairwise->gW,length_eq_zero_iff->lB,getElem?_cons_succ->lC,toArray->lD,getElem_cons_drop->lE,append_eq_nil_iff->lF,take_eq_take_iff->oW,set_append_right->oX
open PySem.Heap renaming get?_push_of_some->Ad,lt_size->Am,get?_push_size->As,size_push->Bc,SameBut->Bs,get?_update_self->Bv,size_update->Du,get?_update_other->Ff,get?_update_ne->Fj,get?_push_ne->Qq,DictOfH->Rx
open Array renaming getD_eq_getD_getElem?->Ak,getElem?_toList->Aw,length_toList->Bf,toList_append->Cr,size_extract->Cu,getElem?_eq_some_iff->Cx,toList_push->Dm,perm_iff_toList_perm->Hc,toList_extract->Jv,getElem?_eq_getElem->Kg,toList_reverse->My,size_push->Nn,getElem?_eq_none->Rw,size_append->Yd,getElem_toList->oY
open Bool renaming false_eq_true->Bi,and_eq_true_iff->Bp,and_eq_true->Dg,false_ne_true->He,not_eq_true'->Hq,eq_false_iff->Jl,not_eq_false'->Pm,or_eq_true->Td,or_eq_false_iff->Un,and_false->Uo,not_true->gX
open Int renaming le_trans->Dk,le_refl->Ek,natCast_nonneg->Fw,le_of_lt->Ga,eq_ofNat_of_zero_le->Gh,toNat_of_nonneg->Gs,not_lt->Hy,toNat_natCast->Jm,fdiv_eq_ediv_of_nonneg->Ke,fmod_eq_emod_of_nonneg->Qb,natCast_pow->dE
open Option renaming some_ne_none->Fc,map_eq_some_iff->Gn,some->Gq,bind_eq_some_iff->Qr,isSome_iff_exists->eT
open PySem PySem.W PyProof.Rows PySem.Calls
namespace Nu
theorem QZ:True:=by
 (k_with"wp"=>(first|with_reducible (first|refine wpAny_pure ?_|refine wpAny_bind ?_|refine wpAny_holding ?_|refine wpAny_standAt ?_|refine wpAny_point ?_|refine wpAny_rule ?_|refine wpAny_letGo ?_|refine wpAny_mkInt' ?_|(show wpAny _ _ (mkStr _) _ _ _;refine wpAny_mkStr' ?_)|refine wpAny_fresh' ?_|refine wpAny_alloc' ?_|refine wpAny_attempt ?_|refine wpAny_throw ?_|refine wpAny_of_eq (by assumption) ?_|refine wpAny_typeOf (by assumption) ?_|refine wpAny_specialOf_val (by assumption) (by assumption) ?_|refine wpAny_specialOf (by assumption) (by assumption) ?_|refine wpAny_isInstance_val (by assumption) (by assumption) ?_|refine wpAny_isInstance (by assumption) (by assumption) ?_|refine wpAny_call ?_|refine wpAny_runValue ?_|refine wpAny_run ?_)|wp_delta|wp_step))
 trivial
theorem Tz:Slot "wrapper_descriptor" "__get__" "wrapper_descriptor.__get__":=by k_with"o"=>exact(.of (owner := "wrapper_descriptor") (n := "__get__") (by rw[typeLookup_type,builtinLookup_eq_fast];kernel_rfl) (by decide +kernel) (by decide +kernel) (by decide +kernel)
 (by first|exact .inl (by decide +kernel)|exact .inr (by decide +kernel)) (by rw[isSubtype_type];kernel_rfl))
theorem aH:entryFor table "wrapper_descriptor.__get__"=some Builtin.«wrapper_descriptor.__get__»:=entryFor_of_fast (by kernel_rfl)
theorem cH:typeOf (.builtin "Exception.__init__")=pure (.type "wrapper_descriptor"):=by kernel_rfl
theorem lH (x C:Addr):checkBuiltinCall "wrapper_descriptor.__get__" ⟨[.builtin "Exception.__init__",.ref x,.ref C],[]⟩=pure ():=by kernel_rfl
theorem Ace : ".".intercalate ("Exception.__init__".cutAt '.').dropLast = "Exception":=by decide +kernel
section
variable {U:Program}{w:World}{A:Around}{E:Value->Shared->Prop}{h:Heap}{g:Array GenState}{d:Drawn}{t:Nat}{os:OsState}
theorem tB {x C:Addr}{ox:Obj}{Q:Fin->Shared->Prop}(hx:h.get? x=some ox)(hc:ox.cls=.ref C)(hs:Looks (model U w) h (isSubtype (.ref C) (.type "Exception")) true)
  (hq:Q (.done (.ret (.ref h.objs.size))) ⟨h.push {cls:=.type "method-wrapper",data:=.fields #[.builtin "Exception.__init__",.ref x]},g,d,t,os⟩) :
  wpAny (model U w) A (Builtin.«wrapper_descriptor.__get__» ⟨[.builtin "Exception.__init__",.ref x,.ref C],[]⟩) Q E ⟨h,g,d,t,os⟩:=by k_with"o"=>
 unfold Builtin.«wrapper_descriptor.__get__»
 repeat (any_goals (first|with_reducible assumption|(with_reducible refine wpAny_loadPart_at hx ?_;rw[hc])|(rw[Ace];with_reducible refine Looks.at hs ?_)|walk_at"wp" |assumption))
theorem lG {so D x C:Addr}{ox:Obj}{l₀ l:List Value}{K:Frag}{tk:Tok}{Q:Fin->Shared->Prop}
  (JR:h.get? so=some {cls:=.type "super",dict:=none,data:=.fields #[.ref D,.ref x,.ref C],slots:=#[]}) (HX:Looks (model U w) h (opaqueClassAbove (.ref C)) none)
  (hC:Looks (model U w) h (mroOf (.ref C)) l₀) (hl:(l₀.dropWhile (· != .ref D)).drop 1=l) (X:K.In h)
  (hf:alongIn K "__init__" l=some (some (.builtin "Exception.__init__"))) (hx:h.get? x=some ox) (hc:ox.cls=.ref C) (hs:Looks (model U w) h (isSubtype (.ref C) (.type "Exception")) true) (R8:x≠C)
  (hq:Q (.done (.ret (.ref h.objs.size))) ⟨h.push {cls:=.type "method-wrapper",data:=.fields #[.builtin "Exception.__init__",.ref x]},g,d,t,os⟩) :
  wpAny (model U w) A (Builtin.«super.__getattribute__» ⟨[.ref so,.str "__init__" tk],[]⟩) Q E ⟨h,g,d,t,os⟩:=by k_with"o"=>
 have QL:=Tz.lookup;have BK:(Value.ref x==Value.ref C)=false:=by simp[R8]
 have hn:(("__init__" : Str)==("__class__" : Str))=false:=by decide
 have ZF:=cH;have UI:({cls:=.type "super",dict:=none,data:=.fields #[.ref D,.ref x,.ref C],slots:=#[]}:Obj).data=.fields #[.ref D,.ref x,.ref C]:=rfl;have f0:(#[.ref D,.ref x,.ref C]:Array Value)[0]?=some (.ref D):=rfl;have f1:(#[.ref D,.ref x,.ref C]:Array Value)[1]?=some (.ref x):=rfl;have f2:(#[.ref D,.ref x,.ref C]:Array Value)[2]?=some (.ref C):=rfl;unfold Builtin.«super.__getattribute__»
 repeat (first
  |(with_reducible refine wpAny_field JR UI f0 ?_)|(with_reducible refine wpAny_field JR UI f1 ?_)|(with_reducible refine wpAny_field JR UI f2 ?_)
  |(with_reducible refine ks_wpAny_notOpaque HX ?_)
  |(with_reducible refine Looks.at hC ?_;rw[hl])
  |(refine ks_forIn_along X (λ_ _=>rfl) rfl ?_ hf)
  |(rw[ZF])
  |(with_reducible refine wpAny_call (codeAny_call_builtin Tz.plain aH (wpAny_of_eq (lH _ _) ?_)))
  |(with_reducible refine tB hx hc hs ?_)
  |(with_reducible refine⟨_,rfl,?_⟩)
  |(simp only[hn,BK,Bool.or_false,Bi,if_false])
  |walk_at"wp"
  |dsimp only)
 all_goals exact hq
theorem Vn {so D x C:Addr}{ox:Obj}{l₀ l:List Value}{K:Frag}{pl:Sem Bool}{Q:Value×List Value->Shared->Prop}
  (JR:h.get? so=some {cls:=.type "super",dict:=none,data:=.fields #[.ref D,.ref x,.ref C],slots:=#[]}) (HX:Looks (model U w) h (opaqueClassAbove (.ref C)) none)
  (hC:Looks (model U w) h (mroOf (.ref C)) l₀) (hl:(l₀.dropWhile (· != .ref D)).drop 1=l) (X:K.In h)
  (hf:alongIn K "__init__" l=some (some (.builtin "Exception.__init__"))) (hx:h.get? x=some ox) (hc:ox.cls=.ref C) (hs:Looks (model U w) h (isSubtype (.ref C) (.type "Exception")) true) (R8:x≠C)
  (hq:Q (.ref h.objs.size,[]) ⟨h.push {cls:=.type "method-wrapper",data:=.fields #[.builtin "Exception.__init__",.ref x]},g,d,t+1,os⟩) :
  wpAny (model U w) A (getMethod (.ref so) "__init__" pl) Q E ⟨h,g,d,t,os⟩:=by k_with"o"=>
 have QL:=F.ks_slot_super_ga.lookup;have UP:=F.ks_canon_super_ga;have hT:∀t',(⟨h,g,d,t',os⟩:Shared).TypeIs (.ref so) "super":=λ_=>⟨_,JR,rfl⟩;unfold getMethod;refine wpAny_bind (wpAny_specialOf (hT _) QL ?_);show wpAny _ _ (if (Manifest.canonical "super.__getattribute__" != "object.__getattribute__")=true then _ else _) _ _ _;rw[if_pos UP];unfold getAttr getAttrBy;refine wpAny_bind (wpAny_bind (wpAny_mkText (wpAny_holding (wpAny_bind (wpAny_typeOf (hT _) (wpAny_bind (wpAny_of_eq QL ?_)))))));show wpAny _ _ (getAttrByItsOwn (.ref so) (.str "__init__" t) (.type "super") (.builtin "super.__getattribute__") true false) _ _ _;unfold getAttrByItsOwn hookBefore callGetattribute boundAndCalled;refine wpAny_bind (wpAny_of_eq (show(if onTheHeap (.type "super") then typeLookup (.type "super") "__getattr__" else pure none)=pure none from rfl) ?_);refine wpAny_bind (wpAny_attempt (wpAny_holding ?_));show wpAny _ _ (bindSpecial (.builtin "super.__getattribute__") (.ref so) >>= _) _ _ _;refine wpAny_bind (wpAny_of_eq (F.ks_slot_super_ga.bind _) ?_);refine wpAny_mono (Q:=λv s'=>v=.ref h.objs.size/\s'=⟨h.push {cls:=.type "method-wrapper",data:=.fields #[.builtin "Exception.__init__",.ref x]},g,d,t+1,os⟩) (E:=λ_ _=>False)
  (wpAny_call_entry F.ks_slot_super_ga (hT _) F.ks_entry_super_ga (lG JR HX hC hl X hf hx hc hs R8 ⟨_,rfl,rfl,rfl⟩) (F.ks_gaArgs_super _ _)) (λv s' hv=>?_) λ_ _ z=>z.elim
 obtain⟨rfl,rfl⟩:=hv;exact wpAny_pure (wpAny_pure hq)
theorem tD {mw:Addr}{v:Value}(hm:h.get? mw=some {cls:=.type "method-wrapper",data:=.fields #[.builtin "Exception.__init__",v]}):Looks (model U w) h (keeperOf (.ref mw)) Keeper.machine:=by k_with"o"=>exact(λA Q E s k q=>by
 obtain⟨hp,g,d,t,os⟩:=s;unfold keeperOf;have Z4:=k _ _ hm
 repeat (any_goals (first|with_reducible assumption|(with_reducible refine wpAny_loadPart_at Z4 ?_)|walk_at"wp" |assumption)))
variable {nm q:Str}{C N:Addr}{bs bm:List Value}{JD:Bool}{sn:List Str}{sub:List Value}{ab:Bool}{col:Option Bool}{dd:Option Addr}{k0 k1 k2 k3 k5:Option Value}{newId:String}
theorem eW {M:Model}{x:Addr}{ox:Obj}{v:Value}{Q:Unit->Shared->Prop}(hx:h.get? x=some ox)(hc:ox.cls=.ref C)(hC:h.get? C=some (excClassObj nm q C N bs bm JD sn sub ab col dd k0 k1 k2 k3 k5 newId))
  (hq:Q () ⟨h,g,d,t,os⟩):wpAny M A (checkBoundCall "Exception.__init__" ⟨[.ref x,v],[]⟩) Q E ⟨h,g,d,t,os⟩:=by k_with"o"=>
 have F:=PySem.F.excBase_Exception;have SP:=F.noStar;simp only[checkBoundCall,F.initKind,F.initRow]
 repeat (first|(with_reducible refine wpAny_loadPart_at hx ?_;rw[hc])|with_reducible refine wpAny_loadPart_at hC ?_|walk_at"wp")
 exact hq
theorem qR {mw x:Addr}{ox:Obj}{a0:Addr}{vs:Array Value}{v:Value}{Q:Value->Shared->Prop}(hm:h.get? mw=some {cls:=.type "method-wrapper",data:=.fields #[.builtin "Exception.__init__",.ref x]})
  (hx:h.get? x=some ox) (hc:ox.cls=.ref C) (hC:h.get? C=some (excClassObj nm q C N bs bm JD sn sub ab col dd k0 k1 k2 k3 k5 newId)) (hd:ox.data=.fields vs) (h0:vs[0]?=some (.ref a0)) (hz:vs.size<=1000)
  (hq:∀h',(∀b o,b≠x->h.get? b=some o->h'.get? b=some o)->(∃t0,h'.get? x=some {ox with data:=.fields (vs.setIfInBounds 0 (.ref t0))})->h.objs.size<=h'.objs.size->Q .none ⟨h',g,d,t,os⟩) :
  wpAny (model U w) A (call (.ref mw) [v]) Q E ⟨h,g,d,t,os⟩:=by k_with"o"=>
 have F:=PySem.F.excBase_Exception;refine wpAny_call (codeAny_of_tree ?_);show wpAny _ _ (callAny (.ref mw) _) _ _ _;unfold callAny;refine wpAny_bind (wpAny_load hm ?_);dsimp only;rw[if_pos (by decide)];show wpAny _ _ (if _ then _ else _) _ _ _;rw[if_pos (by decide)];refine wpAny_bind (eW hx hc hC ?_);refine wpAny_pure ⟨Code.quiet_builtin _ (by decide +kernel),?_⟩;show codeAny _ _ (.builtin "Exception.__init__" ⟨[.ref x,v],[]⟩) _ _;refine codeAny_builtin F.initEntry ?_;obtain⟨oc,od,f6,YY⟩:=ox;dsimp only at hc hd;subst hc hd;unfold Builtin.«BaseException.__init__»;have KZ:(h.push {cls:=.type "tuple",data:=.seq #[v]}).get? x=some {cls:=.ref C,dict:=od,data:=.fields vs,slots:=YY}:=Ad _ hx
 repeat (any_goals (first|with_reducible assumption|(with_reducible refine wpAny_field KZ rfl h0 ?_)|(with_reducible refine wpAny_loadPart_at KZ ?_)|walk_at"wp" |assumption))
 have AJ:0<vs.size:=by
  rcases Nat.eq_zero_or_pos vs.size with e|e
  ·rw[Rw (by omega)] at h0;cases h0
  ·exact e
 rw[if_pos AJ];refine wpAny_update' KZ ?_
 repeat (any_goals (first|with_reducible assumption|walk_at"wp" |assumption))
 refine hq _ (λb o hb ho=>?_) ⟨h.objs.size,?_⟩ ?_
 ·rw[Fj _ _ _ _ hb];exact Ad _ ho
 ·exact Bv _ KZ rfl
 ·rw[Du,Bc];exact Cb _
end
theorem Heap.CQ (h:Heap)(a:Addr)(f:Obj->Obj):(h.update a f).objs.size=h.objs.size:=(Bs.update ..).1
theorem Runs.size_le {M:Model}{Γ:PySem.Ctx}{p:Pos}{t:Sem Fin}{fs:List Frame}{s s':Shared}{e:End}(h:Runs M Γ p t fs s e s'):s.heap.objs.size<=s'.heap.objs.size:=by k_with"o"=>
 induction h<;>(try simp only[Shared.setGen,Heap.CQ,Bc] at *)<;>omega
theorem Returns.size_le {M:Model}{Γ:PySem.Ctx}{p:Pos}{s s':Shared}{r:Result}(h:Returns M Γ p s r s'):s.heap.objs.size<=s'.heap.objs.size:=Runs.size_le h
theorem Wakes.size_le {M:Model}{Γ:PySem.Ctx}{p:Pos}{g:Nat}{r:Resume}{s s':Shared}{res:GenResult}(h:Wakes M Γ p g r s res s'):s.heap.objs.size<=s'.heap.objs.size:=by k_with"o"=>
 unfold Wakes at h;split at h
 ·exact h.elim
 ·split at h
  ·obtain⟨e₁,s₁,hr,_,_,rfl⟩:=h;exact(Runs.size_le hr:(s.setGen g .running).heap.objs.size<=s₁.heap.objs.size)
  ·rw[h.2];exact Ah _
  ·rw[h.2];exact Ah _
 ·obtain⟨e₁,s₁,hr,_,_,rfl⟩:=h;exact(Runs.size_le hr:(s.setGen g .running).heap.objs.size<=s₁.heap.objs.size)
 ·rw[h.2];exact Ah _
 ·rw[h.2];exact Ah _
section
theorem wR {α:Type}(M:Model)(Γ:PySem.Ctx)(n:Nat)(t:Sem α):∀(Q:α->Pos->Shared->Prop) (E:Value->Pos->Shared->Prop) (p:Pos) (s:Shared),n<=s.heap.objs.size->Sem.wp M Γ t Q E p s->
  Sem.wp M Γ t (λa p' s'=>n<=s'.heap.objs.size/\Q a p' s') (λe p' s'=>n<=s'.heap.objs.size/\E e p' s') p s:=by k_with"o"=>
 induction t with
 |pure a=>intro Q E p s hn h;exact⟨hn,h⟩
 |raise e=>intro Q E p s hn h;exact⟨hn,h⟩
 |unsupported _=>intro Q E p s _ h;exact h
 |finish _=>intro Q E p s _ h;exact h
 |rule _ k ih=>intro Q E p s hn h;exact ih () Q E p s hn h
 | «at» p' k ih=>intro Q E p s hn h;exact ih () Q E p' s hn h
 |load a _ k ih=>intro Q E p s hn h;obtain⟨o,ho,h⟩:=h;exact⟨o,ho,ih o Q E p s hn h⟩
 |update a _ f k ih=>intro Q E p s hn h;exact⟨h.1,ih () Q E p _ (by show n<=(s.heap.update _ _).objs.size;rw[Heap.CQ];exact hn) h.2⟩
 |loadIfAlive a k ih=>intro Q E p s hn h;exact ih _ Q E p s hn h
 |point _ k ih=>intro Q E p s hn h;exact ih () Q E p s hn h
 |register _ _=>intro Q E p s _ h;exact h
 |alloc o k ih=>intro Q E p s hn h;exact ih _ Q E p _ (by show n<=(s.heap.push _).objs.size;rw[Bc];omega) h
 |fresh k ih=>intro Q E p s hn h;exact ih _ Q E p _ hn h
 |ask k ih=>intro Q E p s hn h;exact ih _ Q E p s hn h
 |choose src m k ih=>intro Q E p s hn h;exact⟨h.1,ih _ Q E p _ hn h.2⟩
 |os q _ k ih=>intro Q E p s hn h;exact ih _ Q E p _ hn h
 |call c hd _ _ k ih=>intro Q E p s hn h;obtain⟨r,s',hr,h⟩:=h;exact⟨r,s',hr,ih r Q E p s' (Aa hn (Returns.size_le hr)) h⟩
 |handled own k ih=>intro Q E p s hn h;exact ih _ Q E p s hn h
 |genState g k ih=>intro Q E p s hn h;obtain⟨st,hs,h⟩:=h;exact⟨st,hs,ih _ Q E p s hn h⟩
 |newGen c k ih=>intro Q E p s hn h;exact ih _ Q E p _ hn h
 |resume g r _ k ih=>intro Q E p s hn h;obtain⟨res,s',hw,h⟩:=h;exact⟨res,s',hw,ih res Q E p s' (Aa hn (Wakes.size_le hw)) h⟩
 |yield _ _ _ _=>intro Q E p s _ h;exact h
 |stack k ih=>intro Q E p s hn h;exact ih _ Q E p s hn h
 |fork _ _=>intro Q E p s _ h;exact h
 |thread k ih=>intro Q E p s hn h;exact ih _ Q E p s hn h
 |await _ _ _ _ _=>intro Q E p s _ h;exact h
end
theorem cI {α:Type}{M:Model}{A:Around}{s:Shared}{t:Sem α}{Q:α->Shared->Prop}{E:Value->Shared->Prop}{n:Nat}(hn:n<=s.heap.objs.size)(h:wpAny M A t Q E s) :
  wpAny M A t (λa s'=>n<=s'.heap.objs.size/\Q a s') (λe s'=>n<=s'.heap.objs.size/\E e s') s:=by k_with"o"=>exact(fun Γ p hΓ=>wR M Γ n t _ _ p s hn (h Γ p hΓ))
theorem Ci {α:Type}{M:Model}{A:Around}{s:Shared}{t:Sem α}{Q:α->Shared->Prop}{E:Value->Shared->Prop}{n:Nat}(hn:n<=s.heap.objs.size)
  (h:wpAny M A t (λa s'=>n<=s'.heap.objs.size->Q a s') (λe s'=>n<=s'.heap.objs.size->E e s') s):wpAny M A t Q E s:=by k_with"o"=>exact(wpAny_mono (cI hn h) (λ_ _ x=>x.2 x.1) (λ_ _ x=>x.2 x.1))
section
variable {U:Program}{w:World}{A:Around}{E:Value->Shared->Prop}{s:Shared}
def Ju (h:Heap)(d:Addr)(keys:List Value)(ep:Nat):Prop:=∃o es,h.get? d=some o/\o.ExactDict/\o.data=.dict es ep/\es.toList.map (·.key)=keys
theorem Ju.at {h h':Heap}{d keys ep}(x:Ju h d keys ep)(e:∀o,h.get? d=some o->h'.get? d=some o):Ju h' d keys ep:=by k_with"o"=>exact(let ⟨o,es,ho,r⟩:=x;⟨o,es,e _ ho,r⟩)
theorem Ju.typeIs {d keys ep}(x:Ju s.heap d keys ep):s.TypeIs (.ref d) "dict":=by k_with"o"=>exact(let ⟨o,_,ho,hc,_⟩:=x;⟨o,ho,hc.1⟩)
theorem Ju.lt {h:Heap}{d keys ep}(x:Ju h d keys ep):d<h.objs.size:=by k_with"o"=>exact(let ⟨_,_,ho,_⟩:=x;Am ho)
theorem aU {d:Addr}{keys:List Value}{ep:Nat}{Q:Value->Shared->Prop}(hd:(d==sysModules)=false)(hm:Ju s.heap d keys ep)
  (hQ:Q (.ref s.heap.objs.size) {s with heap:=s.heap.push {cls:=.type "dict_keyiterator",data:=.fields #[.ref d,.int 0 0,.int keys.length 0,.int ep 0]}}):wpAny (model U w) A (pyIter (.ref d)) Q E s:=by k_with"o"=>
 have hT:s.TypeIs (.ref d) "dict":=hm.typeIs;obtain⟨o,es,ho,hc,JE,hk⟩:=id hm;have BJ:es.size=keys.length:=by rw[<-hk];simp
 refine wpAny_pyIter_slot hT F.slot_dict_iter (wpAny_call_entry F.slot_dict_iter hT F.entry_dict_iter ?_ (F.args_dict_iter_1 _));unfold Builtin.«dict.__iter__» Builtin.Dict.dictSlotNone;refine wpAny_bind (wpAny_bind (wpAny_notOrdered_dict hT ?_));show wpAny _ _ (pure (Value.ref d)) _ _ s;refine wpAny_pure ?_;show wpAny _ _ (Builtin.Dict.showsAll d >>= _) _ _ s;unfold Builtin.Dict.showsAll;rw[if_neg (by rw[hd];exact He)];refine wpAny_bind (wpAny_pure (wpAny_bind (wpAny_dictEntries ho JE (wpAny_bind (wpAny_dictEpoch ho JE ?_)))));refine wpAny_bind (wpAny_newObj_type (wpAny_pure ⟨_,rfl,"dict_keyiterator",_,⟨_,As _ rfl,rfl⟩,F.slot_dict_keyiterator_next.lookup,?_⟩));simpa[rawInt,BJ] using hQ
theorem tN {it d:Addr}{i ep:Nat}{keys:List Value}{key:Value}{Q:Option Value->Shared->Prop}(hit:s.heap.IsKeyIter it d i keys.length ep)(hm:Ju s.heap d keys ep)(hx:keys[i]?=some key)
  (hQ:∀h',h'.IsKeyIter it d (i+1) keys.length ep->Bs it s.heap h'->Q (some key) {s with heap:=h'}):wpAny (model U w) A (pyNext (.ref it)) Q E s:=by k_with"o"=>
 obtain⟨o,ho,hc,hd⟩:=id hit;obtain⟨od,es,G9,H9,AQ,hk⟩:=id hm;have BJ:es.size=keys.length:=by rw[<-hk];simp
 have AJ:i<es.size:=by rw[BJ];exact(Bq.mp hx).1
 have BR:es[i].key=key:=by
  have:(es.toList.map (·.key))[i]?=some key:=by rw[hk];exact hx
  simpa[AJ] using this
 unfold pyNext;refine wpAny_bind (wpAny_attempt (wpAny_callSpecial?_slot (name:=Str.ofString "__next__") hit.typeIs F.slot_dict_keyiterator_next
  (wpAny_call_entry F.slot_dict_keyiterator_next hit.typeIs F.entry_dict_keyiterator_next ?_ (F.args_dict_keyiterator_next_1 _))))
 refine wpAny_bind (wpAny_pure (wpAny_bind (wpAny_bind ?_)))
 first|refine wpAny_bind (wpAny_typeNameOfWhole_keyiter hit.typeIs (wpAny_pure ?_))|refine wpAny_bind (wpAny_typeNameOf_keyiter hit.typeIs (wpAny_pure ?_))
 refine wpAny_bind (wpAny_fieldsOf ho hd ?_);simp only[show Builtin.Dict_items.ownsTuple "dict_keyiterator"=false from by decide,Bi,if_false];show wpAny _ _ (if (Value.ref d==Value.none)=true then _ else _) _ _ s;rw[if_neg (show ¬((Value.ref d==Value.none)=true) from He)];refine wpAny_bind (wpAny_pure (wpAny_bind (wpAny_dictEntries G9 AQ ?_)));rw[if_neg (by rw[BJ];simp)];refine wpAny_bind (wpAny_pure (wpAny_bind (wpAny_dictEpoch G9 AQ ?_)));rw[if_neg (by simp)];refine wpAny_pure ?_;simp only[show ¬((i:Int)<0) from by omega,if_false,Jm,Kg AJ];refine wpAny_bind ?_
 first|refine wpAny_bind (wpAny_typeNameOfWhole_keyiter hit.typeIs (wpAny_pure ?_))|refine wpAny_bind (wpAny_typeNameOf_keyiter hit.typeIs (wpAny_pure ?_))
 refine wpAny_bind (wpAny_isOneOf_keyiter hit.typeIs ?_);show wpAny _ _ (setField (.ref it) 1 (rawInt ((i:Int)+1)) >>= _) _ _ s;refine wpAny_bind (wpAny_setField ho hd (by simp) ?_);have I8:(s.heap.update it (Obj.mapFields (·.setIfInBounds 1 (rawInt ((i:Int)+1))))).IsKeyIter it d (i+1) keys.length ep:=
  ⟨_,Bv _ ho (Obj.isFreed_of_fields (Obj.data_mapFields hd _)),(Obj.cls_mapFields ..).trans hc,by rw[Obj.data_mapFields hd];simp[rawInt]⟩
 refine wpAny_bind (wpAny_holding (wpAny_bind (wpAny_isOneOf_keyiter (s:={s with heap:=s.heap.update it (Obj.mapFields (·.setIfInBounds 1 (rawInt ((i:Int)+1))))}) I8.typeIs ?_)));show wpAny _ _ (pure es[i].key) _ _ _;rw[BR];exact wpAny_pure (wpAny_pure ⟨_,rfl,wpAny_pure (hQ _ I8 (Bs.update ..))⟩)
theorem xG {it d:Addr}{i ep:Nat}{keys:List Value}{Q:Option Value->Shared->Prop}(hh:A.handled=none)(hit:s.heap.IsKeyIter it d i keys.length ep)(hm:Ju s.heap d keys ep)(hx:keys.length<=i)
  (hQ:∀h',Heap.ExtBut it s.heap h'->Q none {s with heap:=h'}):wpAny (model U w) A (pyNext (.ref it)) Q E s:=by k_with"o"=>
 obtain⟨o,ho,hc,hd⟩:=id hit;obtain⟨od,es,G9,H9,AQ,hk⟩:=id hm;have BJ:es.size=keys.length:=by rw[<-hk];simp
 have F2:es.size<=i:=by rw[BJ];exact hx
 unfold pyNext;refine wpAny_bind (wpAny_attempt (wpAny_callSpecial?_slot (name:=Str.ofString "__next__") hit.typeIs F.slot_dict_keyiterator_next
  (wpAny_call_entry F.slot_dict_keyiterator_next hit.typeIs F.entry_dict_keyiterator_next ?_ (F.args_dict_keyiterator_next_1 _))))
 refine wpAny_bind (wpAny_pure (wpAny_bind (wpAny_bind ?_)))
 first|refine wpAny_bind (wpAny_typeNameOfWhole_keyiter hit.typeIs (wpAny_pure ?_))|refine wpAny_bind (wpAny_typeNameOf_keyiter hit.typeIs (wpAny_pure ?_))
 refine wpAny_bind (wpAny_fieldsOf ho hd ?_);simp only[show Builtin.Dict_items.ownsTuple "dict_keyiterator"=false from by decide,Bi,if_false];show wpAny _ _ (if (Value.ref d==Value.none)=true then _ else _) _ _ s;rw[if_neg (show ¬((Value.ref d==Value.none)=true) from He)];refine wpAny_bind (wpAny_pure (wpAny_bind (wpAny_dictEntries G9 AQ ?_)));rw[if_neg (by rw[BJ];simp)];refine wpAny_bind (wpAny_pure (wpAny_bind (wpAny_dictEpoch G9 AQ ?_)));rw[if_neg (by simp)];refine wpAny_pure ?_;simp only[show ¬((i:Int)<0) from by omega,if_false,Jm,Rw F2];refine wpAny_bind ?_
 first|refine wpAny_bind (wpAny_typeNameOfWhole_keyiter hit.typeIs (wpAny_pure ?_))|refine wpAny_bind (wpAny_typeNameOf_keyiter hit.typeIs (wpAny_pure ?_))
 show wpAny _ _ (setField (.ref it) 0 .none >>= _) _ _ s;refine wpAny_bind (wpAny_setField ho hd (by simp) ?_);show wpAny _ _ (newExc (.type "StopIteration") [] >>= _) _ _ _;refine wpAny_bind ?_;simp only[newExc,newTuple];refine wpAny_bind (wpAny_newObj_type ?_ (by size_fits));refine wpAny_bind (m:=firstArgMember _ _) (wpAny_of_eq (a:=Value.none) (by first|rfl|(simp only[firstArgMember];rfl)) ?_);refine wpAny_newObj_type ?_ (by size_fits);simp only[raiseNew];refine wpAny_bind (wpAny_handled ?_);rw[show A.in1.handled=none from hh];refine wpAny_bind (wpAny_pure (wpAny_throw ?_));refine wpAny_bind (wpAny_isInstance (T := "StopIteration") (b:=true) ⟨_,As _ rfl,rfl⟩ isSubtype_stop ?_);exact wpAny_pure (hQ _ (((Bs.update ..).extBut.push _).push _))
theorem Walks.GB (hh:A.handled=none)(I d:Addr)(BK:d≠I)(keys:List Value)(ep:Nat) :
  Walks U w A I [I,d] [I] keys.length (λi v=>keys[i]?=some v) (λi h=>h.IsKeyIter I d i keys.length ep/\Ju h d keys ep) where
 sub:=λb hb=>by simp at hb;simp[hb]
 frame:=λ_ _ _ st hk=>⟨st.1.at λo e=>hk I (by simp) o e,st.2.at λo e=>hk d (by simp) o e⟩
 item:=λi s Q E hi st hQ=>by
  have hx:keys[i]?=some keys[i]:=by simp[hi]
  refine tN st.1 st.2 hx λh' I8 CA=>?_;exact hQ _ h' s.toks hx ⟨I8,st.2.at λo e=>CA.extBut d o BK e⟩ λb o hb e=>CA.extBut b o (λh=>hb (by simp[h])) e
 done:=λs Q E st hQ=>xG hh st.1 st.2 (Ah _) λh' I9=>hQ h' s.toks λb o hb e=>I9 b o (λh=>hb (by simp[h])) e
 self:=λ_ _ _ _ st hQ=>wpAny_pyIter_keyiter st.1 hQ
theorem pT {d:Addr}{keys:List Value}{ep:Nat}(lo:(d==sysModules)=false):KdlSrc U w "dict" d d keys.length (λi v=>keys[i]?=some v) (λh=>Ju h d keys ep) where
 type:=λ_ hm=>hm.typeIs
 there:=λ_ hm=>⟨hm.lt,hm.lt⟩
 keep:=λ_ _ hm hk=>hm.at λo e=>hk d (.inl rfl) o e
 notList:=by decide
 notTuple:=by decide
 hint:=λ_ _ _ _ hm hq=>kdl_hint_dict hm.typeIs hq
 iter:=λ_ _ hh hm=>⟨_,_,(λ_ _ hq=>aU lo hm hq),Walks.GB hh _ d (By hm.lt) keys ep,⟨⟨_,As _ rfl,rfl,rfl⟩,hm.at λo e=>Ad _ e⟩⟩
end
section
namespace Ts
noncomputable def K (rk:Value->Int)(xs:Array Keyed)(i:Nat):Int:=match xs[i]? with
 |some p=>rk p.1
 |none=>0
def B' (rk:Value->Int)(xs:Array Keyed)(a b:Nat):Prop:=∀i j,a<=i->i<=j->j<b->K rk xs i<=K rk xs j
def tA (rk:Value->Int)(xs:Array Keyed)(a b:Nat):Prop:=∀i j,a<=i->i<=j->j<b->K rk xs j<=K rk xs i
theorem K_congr {rk:Value->Int}{xs ys:Array Keyed}{i j:Nat}(h:xs[i]?=ys[j]?):K rk xs i=K rk ys j:=by k_with"o"=>unfold K;rw[h]
theorem Pz {rk:Value->Int}{xs:Array Keyed}{i:Nat}{p:Keyed}(h:xs[i]?=some p):K rk xs i=rk p.1:=by k_with"o"=>unfold K;rw[h]
def C1 (U:Program)(w:World)(A:Around)(s:Shared)(rk:Value->Int)(kd:SortKind)(a₀:Array Keyed):Prop:=
 ∀p q:Keyed,p∈a₀.toList->q∈a₀.toList->wpAny (model U w) A (keyLt' kd p.1 q.1) (λb s'=>s'=s/\b=decide (rk p.1<rk q.1)) (λ_ _=>False) s
structure Hx (a₀:Array Keyed)(kd:SortKind)(st AA:SortSt):Prop where
 perm:(arrOf AA).Perm a₀
 kind:kindOf AA=kd
 failed:failedOf AA=none
 pend:pendingOf AA=pendingOf st
theorem Hx.size {a₀:Array Keyed}{kd:SortKind}{st AA:SortSt}(h:Hx a₀ kd st AA):(arrOf AA).size=a₀.size:=h.perm.size_eq
theorem Hx.setArr {a₀:Array Keyed}{kd:SortKind}{st AA:SortSt}(h:Hx a₀ kd st AA){xs:Array Keyed}(hp:xs.Perm (arrOf AA)):Hx a₀ kd st (setArr AA xs):=by k_with"o"=>exact(⟨hp.trans h.perm,h.kind,h.failed,h.pend⟩)
theorem Hx.mem {a₀:Array Keyed}{kd:SortKind}{st AA:SortSt}(h:Hx a₀ kd st AA){i:Nat}(hi:i<a₀.size):∃p,(arrOf AA)[i]?=some p/\p∈a₀.toList:=by k_with"o"=>
 have D4:i<(arrOf AA).size:=by rw[h.size];exact hi
 exact⟨(arrOf AA)[i],getElem?_pos _ i D4,(Hc.mp h.perm).mem_iff.mp (by simp)⟩
section
variable {U:Program}{w:World}{A:Around}{E:Value->Shared->Prop}{s:Shared}{a₀:Array Keyed}{rk:Value->Int}{kd:SortKind}{E0:SortSt}
theorem iV {p q:Keyed}{st:SortSt}{Q:Option Bool->SortSt->Prop}(O:C1 U w A s rk kd a₀)(hk:kindOf st=kd)(hp:p∈a₀.toList)(hq:q∈a₀.toList)(h:Q (some (decide (rk p.1<rk q.1))) st) :
  wpS (model U w) A E s (lt' p q) Q st:=by k_with"o"=>
 rw[lt'_eq];refine wpS_bind (wpS_get ?_);rw[hk];refine wpS_bind (wpS_lift (wpAny_attempt (wpAny_mono (O p q hp hq) (λb s' ⟨e1,e2⟩=>?_) λ_ _ e=>e.elim)))
 ·subst e1 e2;exact⟨rfl,wpS_pure h⟩
theorem NK {st:SortSt}{i j:Nat}{Q:Option Bool->SortSt->Prop}(O:C1 U w A s rk kd a₀)(hB:Hx a₀ kd E0 st)(hi:i<a₀.size)(hj:j<a₀.size)
  (h:Q (some (decide (K rk (arrOf st) i<K rk (arrOf st) j))) st):wpS (model U w) A E s (ltAt' i j) Q st:=by k_with"o"=>
 obtain⟨p,e1,m1⟩:=hB.mem hi;obtain⟨q,e2,m2⟩:=hB.mem hj;rw[ltAt'_eq];refine wpS_bind (wpS_get ?_);show wpS _ _ _ _ (do let x <-elem' (arrOf st) i;let y <-elem' (arrOf st) j;lt' x y) Q st;rw[elem'_eq,elem'_eq,e1,e2];refine wpS_bind (wpS_pure (wpS_bind (wpS_pure (iV O hB.kind m1 m2 ?_))));rwa[Pz e1,Pz e2] at h
theorem K_bubble {xs:Array Keyed}{src d:Nat}(hs:src<xs.size)(hd:d<=src)(k:Nat) :
  K rk (bubble xs src d) k=if k=src-d then K rk xs src else if src-d<k/\k<=src then K rk xs (k-1) else K rk xs k:=by k_with"o"=>
 have e:=getElem?_bubble hs d hd k;split
 ·rename_i h1;rw[if_pos h1] at e;exact K_congr e
 ·rename_i h1;rw[if_neg h1] at e;split
  ·rename_i h2;rw[if_pos h2] at e;exact K_congr e
  ·rename_i h2;rw[if_neg h2] at e;exact K_congr e
theorem K_mirror {xs:Array Keyed}{i j:Nat}(hj:j<=xs.size)(k:Nat) :
  K rk (mirror xs i j ((j-i)/2)) k=if i<=k/\k<j then K rk xs (i+j-1-k) else K rk xs k:=by k_with"o"=>
 have e:=getElem?_mirror_all (i:=i) hj k;split
 ·rename_i h1;rw[if_pos h1] at e;exact K_congr e
 ·rename_i h1;rw[if_neg h1] at e;exact K_congr e
theorem K_mirror_equal {xs:Array Keyed}{i j:Nat}(hj:j<=xs.size)(heq:∀k,i<=k->k<j->K rk xs k=K rk xs (j-1))(k:Nat) :
  K rk (mirror xs i j ((j-i)/2)) k=K rk xs k:=by k_with"o"=>
 rw[K_mirror hj];split
 ·rw[heq _ (by omega) (by omega),heq k (by omega) (by omega)]
 ·rfl
theorem cU {st:SortSt}{lo n ok:Nat}{Q:Bool->SortSt->Prop}(O:C1 U w A s rk kd a₀)(hn:lo+n<=a₀.size)(IH:ok<=n)(hB:Hx a₀ kd E0 st)(hs:B' rk (arrOf st) lo (lo+ok))
  (h:∀AA,Hx a₀ kd E0 AA->B' rk (arrOf AA) lo (lo+n)->(∀k,k<lo->K rk (arrOf AA) k=K rk (arrOf st) k)->Q true AA):wpS (model U w) A E s (binarySort' lo n ok) Q st:=by k_with"o"=>
 rw[binarySort'_eq];refine wpS_bind (wpS_mono (wpS_forRange (I:=λk c AA=>c=(none,())/\Hx a₀ kd E0 AA/\B' rk (arrOf AA) lo (lo+min k n)/\∀j,j<lo->K rk (arrOf AA) j=K rk (arrOf st) j)
  (Q:=λc AA=>c=(none,())/\Hx a₀ kd E0 AA/\B' rk (arrOf AA) lo (lo+n)/\∀j,j<lo->K rk (arrOf AA) j=K rk (arrOf st) j) ?step ?fin ?init) ?post)
 case post=>rintro c AA ⟨rfl,DU,CA,FC⟩;exact wpS_pure (h AA DU CA FC)
 case init=>
  refine⟨rfl,hB,λi j h1 B5 hj=>?_,λ_ _=>rfl⟩;by_cases h0:ok=0
  ·have:i=j:=by omega
   subst this;exact Ek _
  ·exact hs i j h1 B5 (by omega)
 case fin=>rintro c AA ⟨hc,DU,CA,FC⟩;refine⟨hc,DU,?_,FC⟩;rwa[show min (max (max ok 1) n) n=n by omega] at CA
 case step=>
  rintro k c AA gz gq ⟨rfl,DU,CA,FC⟩;rw[show min k n=k by omega] at CA;have hk:lo+k<a₀.size:=by omega
  refine wpS_bind (wpS_mono (wpS_forRange (I:=λx c BB=>BB=AA/\∃l r,c=(none,l,r)/\l<=r/\r<=k/\r-l<=k-x/\
    (∀i,i<l->K rk (arrOf AA) (lo+i)<=K rk (arrOf AA) (lo+k))/\(∀i,r<=i->i<k->K rk (arrOf AA) (lo+k)<K rk (arrOf AA) (lo+i)))
   (Q:=λc BB=>BB=AA/\∃l r,c=(none,l,r)/\l<=k/\
    (∀i,i<l->K rk (arrOf AA) (lo+i)<=K rk (arrOf AA) (lo+k))/\(∀i,l<=i->i<k->K rk (arrOf AA) (lo+k)<K rk (arrOf AA) (lo+i))) ?istep ?ifin ?iinit) ?ipost)
  case iinit=>exact⟨rfl,0,k,rfl,by omega,by omega,by omega,λi hi=>by omega,λi h1 h2=>by omega⟩
  case ifin=>
   rintro c BB ⟨rfl,l,r,rfl,Z5,IY,hm,FP,J0⟩;have:l=r:=by omega
   subst this;exact⟨rfl,l,l,rfl,IY,FP,J0⟩
  case istep=>
   rintro x c BB _ gg ⟨rfl,l,r,rfl,Z5,IY,hm,FP,J0⟩;dsimp only;by_cases F2:l≥r
   ·rw[if_pos F2];have:l=r:=by omega
    subst this;exact wpS_pure ⟨rfl,l,l,rfl,IY,FP,J0⟩
   ·rw[if_neg F2];refine wpS_bind (NK O DU hk (by omega) ?_);by_cases BQ:K rk (arrOf BB) (lo+k)<K rk (arrOf BB) (lo+(l+r)/2)
    ·simp only[BQ,decide_true,if_true];refine wpS_pure ⟨rfl,l,(l+r)/2,rfl,by omega,by omega,by omega,FP,λi h1 h2=>?_⟩;exact Int.lt_of_lt_of_le BQ (CA _ _ (by omega) (by omega) (by omega))
    ·simp only[BQ,decide_false,Bi,if_false];refine wpS_pure ⟨rfl,(l+r)/2+1,r,rfl,by omega,by omega,by omega,λi h1=>?_,J0⟩;exact Dk (CA (lo+i) (lo+(l+r)/2) (by omega) (by omega) (by omega)) (Hy.mp BQ)
  case ipost=>
   rintro c BB ⟨rfl,l,r,rfl,QL,FP,J0⟩;show wpS _ _ _ _ (do moveDown' (lo+k) (lo+l);pure (ForInStep.yield (none,()))) _ _;rw[moveDown'_eq];have DL:lo+k<(arrOf BB).size:=by rw[DU.size];exact hk
   refine wpS_bind (wpS_modify (wpS_pure ⟨rfl,DU.setArr (bubble_perm _ _ _),?_,λj hj=>?_⟩))
   ·rw[show min (k+1) n=k+1 by omega];intro i j h1 B5 hj;show K rk (bubble (arrOf BB) (lo+k) (lo+k-(lo+l))) i<=K rk (bubble (arrOf BB) (lo+k) (lo+k-(lo+l))) j;rw[K_bubble DL (by omega),K_bubble DL (by omega),show lo+k-(lo+k-(lo+l))=lo+l by omega];have TU:∀i,lo<=i->i<lo+l->K rk (arrOf BB) i<=K rk (arrOf BB) (lo+k):=λi h1 h2=>by have:=FP (i-lo) (by omega);rwa[show lo+(i-lo)=i by omega] at this
    have T7:∀i,lo+l<=i->i<lo+k->K rk (arrOf BB) (lo+k)<K rk (arrOf BB) i:=λi h1 h2=>by have:=J0 (i-lo) (by omega) (by omega);rwa[show lo+(i-lo)=i by omega] at this
    repeat' split
    all_goals first
     |(exfalso;omega)
     |exact Ek _
     |exact TU _ (by omega) (by omega)
     |exact Ga (T7 _ (by omega) (by omega))
     |exact CA _ _ (by omega) (by omega) (by omega)
   ·rw[<-FC j hj];show K rk (bubble (arrOf BB) (lo+k) (lo+k-(lo+l))) j=_;rw[K_bubble DL (by omega),if_neg (by omega),if_neg (by omega)]
end
end Ts
end
section
namespace Ts
noncomputable abbrev AscSt:=Option (Option Nat)×Nat
noncomputable abbrev DescSt:=Option (Option Nat)×Nat×Nat
noncomputable def ascLoop (lo a AK:Nat):StateT SortSt Sem AscSt:=
 forIn [a:AK] ((none,a):AscSt) λ_ __s=>do
  let __x <-ltAt' (lo+__s.snd) (lo+__s.snd-1)
  match __x with
  |some EH=>if EH=true then pure (ForInStep.done (none,__s.snd)) else pure (ForInStep.yield (none,__s.snd+1))
  |_=>pure (ForInStep.done (some none,__s.snd))
noncomputable def tail3 (lo n AK:Nat):StateT SortSt Sem (Option Nat):=do
 reverseSlice' lo (lo+n)
 let __s <-ascLoop lo n AK
 match __s.fst with
 |some r=>pure r
 |none=>pure (some __s.snd)
noncomputable def descLoop (lo n AK:Nat):StateT SortSt Sem DescSt:=
 forIn [n:AK] ((none,n,0):DescSt) λ_ __s=>do
  let __x <-ltAt' (lo+__s.snd.fst) (lo+__s.snd.fst-1)
  match __x with
  |some EH=>
   if EH=true then
    if __s.snd.snd>0 then do
     reverseSlice' (lo+__s.snd.fst-(__s.snd.snd+1)) (lo+__s.snd.fst)
     pure (ForInStep.yield (none,__s.snd.fst+1,0))
    else pure (ForInStep.yield (none,__s.snd.fst+1,0))
   else do
    let __x <-ltAt' (lo+__s.snd.fst-1) (lo+__s.snd.fst)
    match __x with
    |some KX=>
     if KX=true then pure (ForInStep.done (none,__s.snd.fst,__s.snd.snd))
     else pure (ForInStep.yield (none,__s.snd.fst+1,__s.snd.snd+1))
    |_=>pure (ForInStep.done (some none,__s.snd.fst,__s.snd.snd))
  |_=>pure (ForInStep.done (some none,__s.snd.fst,__s.snd.snd))
noncomputable def descPart (lo n AK:Nat):StateT SortSt Sem (Option Nat):=do
 liftM (rule "list.sort.descending-run")
 let __s <-descLoop lo (n+1) AK
 match __s.fst with
 |some r=>pure r
 |none=>
  if __s.snd.snd>0 then do
   reverseSlice' (lo+__s.snd.fst-(__s.snd.snd+1)) (lo+__s.snd.fst)
   tail3 lo __s.snd.fst AK
  else tail3 lo __s.snd.fst AK
theorem jR (lo AK:Nat):countRun' lo AK=(do
  let __s <-ascLoop lo 1 AK
  match __s.fst with
  |some r=>pure r
  |none=>
   if (__s.snd==AK)=true then pure (some __s.snd)
   else if __s.snd>1 then do
    let __x <-ltAt' lo (lo+__s.snd-1)
    match __x with
    |some M'=>if M'=true then pure (some __s.snd) else do
      reverseSlice' lo (lo+__s.snd)
      descPart lo __s.snd AK
    |_=>pure none
   else descPart lo __s.snd AK):=by k_with"o"=>
 rw[countRun'_eq];dsimp only;unfold descPart tail3 descLoop ascLoop;congr 1;funext __s;obtain⟨r,n⟩:=__s;cases r with
 |some r=>rfl
 |none=>
  dsimp only;split
  ·rfl
  ·split
   ·congr 1;funext x;cases x with
    |none=>rfl
    |some M'=>
     dsimp only;split
     ·rfl
     ·congr 1;funext _r
      (congr 1;funext _u;congr 1;congr 1;funext s2;obtain⟨r2,n2,q2⟩:=s2;cases r2 with
      |some r2=>rfl
      |none=>
       dsimp only;split
       ·congr 1;funext _v;congr 1;funext _w;congr 1;funext s3;obtain⟨r3,n3⟩:=s3;cases r3<;>rfl
       ·congr 1;funext _w;congr 1;funext s3;obtain⟨r3,n3⟩:=s3;cases r3<;>rfl)
   ·(congr 1;funext _u;congr 1;congr 1;funext s2;obtain⟨r2,n2,q2⟩:=s2;cases r2 with
    |some r2=>rfl
    |none=>
     dsimp only;split
     ·congr 1;funext _v;congr 1;funext _w;congr 1;funext s3;obtain⟨r3,n3⟩:=s3;cases r3<;>rfl
     ·congr 1;funext _w;congr 1;funext s3;obtain⟨r3,n3⟩:=s3;cases r3<;>rfl)
section
variable {U:Program}{w:World}{A:Around}{E:Value->Shared->Prop}{s:Shared}{a₀:Array Keyed}{rk:Value->Int}{kd:SortKind}{E0:SortSt}{lo:Nat}
theorem Qx {st:SortSt}{i j:Nat}{Q:Unit->SortSt->Prop}(h:Q () (setArr st (mirror (arrOf st) i j ((j-i)/2)))):wpS (model U w) A E s (reverseSlice' i j) Q st:=by k_with"o"=>rw[reverseSlice'_eq];exact wpS_modify h
def PV (rk:Value->Int)(lo:Nat)(st AA:SortSt):Prop:=∀k,k<lo->K rk (arrOf AA) k=K rk (arrOf st) k
theorem uX {st:SortSt}{a AK:Nat}{Q:AscSt->SortSt->Prop}(O:C1 U w A s rk kd a₀)(hn:lo+AK<=a₀.size)(ha:1<=a)(cm:a<=AK)(hB:Hx a₀ kd E0 st)(hs:B' rk (arrOf st) lo (lo+a))
  (h:∀n,a<=n->n<=AK->B' rk (arrOf st) lo (lo+n)->(n=AK\/K rk (arrOf st) (lo+n)<K rk (arrOf st) (lo+n-1))->Q (none,n) st):wpS (model U w) A E s (ascLoop lo a AK) Q st:=by k_with"o"=>
 unfold ascLoop;refine wpS_forRange (I:=λx c AA=>AA=st/\c=(none,x)/\B' rk (arrOf AA) lo (lo+x)) ?step ?fin ⟨rfl,rfl,hs⟩
 case fin=>rintro c AA ⟨rfl,rfl,CA⟩;rw[show max a AK=AK by omega] at CA ⊢;exact h AK cm (Ah _) CA (.inl rfl)
 case step=>
  rintro x c AA UU Y7 ⟨rfl,rfl,CA⟩;dsimp only;refine wpS_bind (NK O hB (by omega) (by omega) ?_);by_cases BQ:K rk (arrOf AA) (lo+x)<K rk (arrOf AA) (lo+x-1)
  ·simp only[BQ,decide_true,if_true];exact wpS_pure (h x UU (by omega) CA (.inr BQ))
  ·simp only[BQ,decide_false,Bi,if_false];refine wpS_pure ⟨rfl,rfl,λi j h1 B5 hj=>?_⟩;by_cases OE:j<lo+x
   ·exact CA i j h1 B5 OE
   ·have LH:j=lo+x:=by omega
    subst LH;by_cases D4:i=lo+x
    ·subst D4;exact Ek _
    ·exact Dk (CA i (lo+x-1) h1 (by omega) (by omega)) (Hy.mp BQ)
theorem pB {st:SortSt}{n AK:Nat}{Q:Option Nat->SortSt->Prop}(O:C1 U w A s rk kd a₀)(hn:lo+AK<=a₀.size)(h1:1<=n)(I4:n<=AK)(hB:Hx a₀ kd E0 st)(hs:tA rk (arrOf st) lo (lo+n))
  (h:∀m AA,Hx a₀ kd E0 AA->1<=m->m<=AK->B' rk (arrOf AA) lo (lo+m)->PV rk lo st AA->Q (some m) AA):wpS (model U w) A E s (tail3 lo n AK) Q st:=by k_with"o"=>
 unfold tail3;have BJ:lo+n<=(arrOf st).size:=by rw[hB.size];omega
 refine wpS_bind (Qx ?_);have DU:Hx a₀ kd E0 (setArr st (mirror (arrOf st) lo (lo+n) ((lo+n-lo)/2))):=hB.setArr (mirror_perm _ _ _ _);refine wpS_bind (uX O hn h1 I4 DU ?_ λm MR H3 ZM _=>wpS_pure (h m _ DU (by omega) H3 ZM λk hk=>?_))
 ·intro i j h1 B5 hj;show K rk (mirror (arrOf st) lo (lo+n) ((lo+n-lo)/2)) i<=K rk (mirror (arrOf st) lo (lo+n) ((lo+n-lo)/2)) j;rw[K_mirror BJ,K_mirror BJ,if_pos (by omega),if_pos (by omega)];exact hs _ _ (by omega) (by omega) (by omega)
 ·show K rk (mirror (arrOf st) lo (lo+n) ((lo+n-lo)/2)) k=_;rw[K_mirror BJ,if_neg (by omega)]
theorem yG {st:SortSt}{n AK:Nat}{Q:DescSt->SortSt->Prop}(O:C1 U w A s rk kd a₀)(hn:lo+AK<=a₀.size)(h1:1<=n)(I4:n<=AK)(hB:Hx a₀ kd E0 st)(hs:tA rk (arrOf st) lo (lo+n))
  (h:∀m ET AA,Hx a₀ kd E0 AA->n<=m->m<=AK->tA rk (arrOf AA) lo (lo+m)->ET+1<=m->(∀i,lo+m-(ET+1)<=i->i<lo+m->K rk (arrOf AA) i=K rk (arrOf AA) (lo+m-1))->PV rk lo st AA->Q (none,m,ET) AA) :
  wpS (model U w) A E s (descLoop lo n AK) Q st:=by k_with"o"=>
 unfold descLoop;refine wpS_forRange (I:=λx c AA=>∃ET,c=(none,x,ET)/\Hx a₀ kd E0 AA/\tA rk (arrOf AA) lo (lo+x)/\ET+1<=x/\
   (∀i,lo+x-(ET+1)<=i->i<lo+x->K rk (arrOf AA) i=K rk (arrOf AA) (lo+x-1))/\PV rk lo st AA) ?step ?fin ⟨0,rfl,hB,hs,by omega,λi h1 h2=>by congr 1;omega,λ_ _=>rfl⟩
 case fin=>rintro c AA ⟨ET,rfl,DU,CA,hq,he,CX⟩;rw[show max n AK=AK by omega] at CA hq he ⊢;exact h AK ET AA DU I4 (Ah _) CA hq he CX
 case step=>
  rintro x c AA UU Y7 ⟨ET,rfl,DU,CA,hq,he,CX⟩;dsimp only;have BJ:lo+x<=(arrOf AA).size:=by rw[DU.size];omega
  refine wpS_bind (NK O DU (by omega) (by omega) ?_);by_cases BQ:K rk (arrOf AA) (lo+x)<K rk (arrOf AA) (lo+x-1)
  ·simp only[BQ,decide_true,if_true];have F8:∀xs:Array Keyed,(∀k,K rk xs k=K rk (arrOf AA) k)->tA rk xs lo (lo+(x+1)):=by
    intro xs hk i j h1 B5 hj;rw[hk,hk];by_cases OE:j<lo+x
    ·exact CA i j h1 B5 OE
    ·have LH:j=lo+x:=by omega
     subst LH;by_cases D4:i=lo+x
     ·subst D4;exact Ek _
     ·exact Dk (Ga BQ) (CA i (lo+x-1) h1 (by omega) (by omega))
   by_cases HY:ET>0
   ·rw[if_pos HY];refine wpS_bind (Qx (wpS_pure ⟨0,rfl,DU.setArr (mirror_perm _ _ _ _),F8 _ (K_mirror_equal BJ he),by omega,λi h1 h2=>by congr 1;omega,λk hk=>?_⟩));exact(K_mirror_equal BJ he k).trans (CX k hk)
   ·rw[if_neg HY];exact wpS_pure ⟨0,rfl,DU,F8 _ (λ_=>rfl),by omega,λi h1 h2=>by congr 1;omega,CX⟩
  ·simp only[BQ,decide_false,Bi,if_false];refine wpS_bind (NK O DU (by omega) (by omega) ?_);by_cases GL:K rk (arrOf AA) (lo+x-1)<K rk (arrOf AA) (lo+x)
   ·simp only[GL,decide_true,if_true];exact wpS_pure (h x ET AA DU UU (by omega) CA hq he CX)
   ·simp only[GL,decide_false,Bi,if_false];have OP:K rk (arrOf AA) (lo+x)=K rk (arrOf AA) (lo+x-1):=by omega
    refine wpS_pure ⟨ET+1,rfl,DU,λi j h1 B5 hj=>?_,by omega,λi h1 h2=>?_,CX⟩
    ·by_cases OE:j<lo+x
     ·exact CA i j h1 B5 OE
     ·have LH:j=lo+x:=by omega
      subst LH;by_cases D4:i=lo+x
      ·subst D4;exact Ek _
      ·rw[OP];exact CA i (lo+x-1) h1 (by omega) (by omega)
    ·rw[show lo+(x+1)-1=lo+x by omega];by_cases aj:i=lo+x
     ·subst aj;rfl
     ·rw[OP];exact he i (by omega) (by omega)
theorem Yq {st:SortSt}{n AK:Nat}{Q:Option Nat->SortSt->Prop}(O:C1 U w A s rk kd a₀)(hn:lo+AK<=a₀.size)(I4:n+1<=AK)(hB:Hx a₀ kd E0 st)(hs:tA rk (arrOf st) lo (lo+(n+1)))
  (h:∀m AA,Hx a₀ kd E0 AA->1<=m->m<=AK->B' rk (arrOf AA) lo (lo+m)->PV rk lo st AA->Q (some m) AA):wpS (model U w) A E s (descPart lo n AK) Q st:=by k_with"o"=>
 unfold descPart;refine wpS_bind (wpS_lift (wpAny_rule ⟨rfl,?_⟩));refine wpS_bind (yG O hn (by omega) I4 hB hs λm ET AA DU MR H3 CA hq he CX=>?_);dsimp only;have BJ:lo+m<=(arrOf AA).size:=by rw[DU.size];omega
 by_cases HY:ET>0
 ·rw[if_pos HY];refine wpS_bind (Qx (pB O hn (by omega) H3 (DU.setArr (mirror_perm _ _ _ _)) ?_ λm2 BX b1 b2 b3 b4 b5=>h m2 BX b1 b2 b3 b4 λk hk=>(b5 k hk).trans ((K_mirror_equal BJ he k).trans (CX k hk))));intro i j h1 B5 hj;show K rk (mirror (arrOf AA) _ _ _) j<=K rk (mirror (arrOf AA) _ _ _) i;rw[K_mirror_equal BJ he,K_mirror_equal BJ he];exact CA i j h1 B5 hj
 ·rw[if_neg HY];exact pB O hn (by omega) H3 DU CA λm2 BX b1 b2 b3 b4 b5=>h m2 BX b1 b2 b3 b4 λk hk=>(b5 k hk).trans (CX k hk)
theorem jS {st:SortSt}{AK:Nat}{Q:Option Nat->SortSt->Prop}(O:C1 U w A s rk kd a₀)(hn:lo+AK<=a₀.size)(h1:1<=AK)(hB:Hx a₀ kd E0 st)
  (h:∀m AA,Hx a₀ kd E0 AA->1<=m->m<=AK->B' rk (arrOf AA) lo (lo+m)->PV rk lo st AA->Q (some m) AA):wpS (model U w) A E s (countRun' lo AK) Q st:=by k_with"o"=>
 rw[jR];refine wpS_bind (uX O hn (Ah 1) h1 hB (λi j h1 B5 hj=>by cases (show i=j by omega);exact Ek _) λn QK II QC ZX=>?_);dsimp only;by_cases I4:n=AK
 ·rw[if_pos (by simpa using I4)];exact wpS_pure (h n st hB QK II QC λ_ _=>rfl)
 ·rw[if_neg (by simpa using I4)];have AJ:K rk (arrOf st) (lo+n)<K rk (arrOf st) (lo+n-1):=ZX.resolve_left I4;by_cases LK:n>1
  ·rw[if_pos LK];refine wpS_bind (NK O hB (by omega) (by omega) ?_);by_cases JT:K rk (arrOf st) lo<K rk (arrOf st) (lo+n-1)
   ·simp only[JT,decide_true,if_true];exact wpS_pure (h n st hB QK II QC λ_ _=>rfl)
   ·simp only[JT,decide_false,Bi,if_false];have BJ:lo+n<=(arrOf st).size:=by rw[hB.size];omega
    have BO:∀k,lo<=k->k<lo+n->K rk (arrOf st) k=K rk (arrOf st) (lo+n-1):=by intro k EW hk;have a1:=QC lo k (Ah _) EW hk;have a2:=QC k (lo+n-1) EW (by omega) (by omega);omega
    refine wpS_bind (Qx (Yq O hn (by omega) (hB.setArr (mirror_perm _ _ _ _)) ?_ λm2 BX b1 b2 b3 b4 b5=>h m2 BX b1 b2 b3 b4 λk hk=>(b5 k hk).trans (K_mirror_equal BJ BO k)));intro i j h1 B5 hj;show K rk (mirror (arrOf st) _ _ _) j<=K rk (mirror (arrOf st) _ _ _) i;rw[K_mirror_equal BJ BO,K_mirror_equal BJ BO];by_cases ah:j<lo+n
    ·rw[BO i h1 (by omega),BO j (by omega) ah];exact Ek _
    ·have LH:j=lo+n:=by omega
     subst LH;by_cases D4:i=lo+n
     ·subst D4;exact Ek _
     ·rw[BO i h1 (by omega)];exact Ga AJ
  ·rw[if_neg LK];have TQ:n=1:=by omega
   subst TQ;refine Yq O hn (by omega) hB (λi j h1 B5 hj=>?_) h;by_cases T3:i=j
   ·subst T3;exact Ek _
   ·have e1:i=lo:=by omega
    have e2:j=lo+1:=by omega
    subst e1 e2;exact Ga (by simpa using AJ)
end
end Ts
end
section
namespace Ts
noncomputable abbrev SM:=StateT SortSt Sem
noncomputable def Pc:Bool->Keyed->Array Keyed->Nat->Nat->Nat->SM (Option Nat):=sortPriv% PySem.Builtin.gallop
noncomputable def past (left:Bool)(key:Keyed)(arr:Array Keyed)(j:Nat):SM (Option Bool):=do
 let x <-elem' arr j
 if left=true then lt' x key else do
  let d <-lt' key x
  pure (Option.map (λx=>!x) d)
noncomputable abbrev LR:=Option (Option Nat)×Nat×Nat
noncomputable def X5 (be:Nat->SM (Option Bool))(n:Nat)(c:LR):SM LR:=
 forIn [:n] c λ_ z=>
  if z.snd.fst≥z.snd.snd then pure (ForInStep.done (none,z.snd.fst,z.snd.snd))
  else do
   let t <-be (z.snd.fst+(z.snd.snd-z.snd.fst)/2)
   match t with
   |some more=>if more=true then pure (ForInStep.yield (none,z.snd.fst+(z.snd.snd-z.snd.fst)/2+1,z.snd.snd)) else pure (ForInStep.yield (none,z.snd.fst,z.snd.fst+(z.snd.snd-z.snd.fst)/2))
   |_=>pure (ForInStep.done (some none,z.snd.fst,z.snd.snd))
noncomputable def gE (be:Nat->SM (Option Bool))(n lo hi:Nat):SM (Option Nat):=do
 let z <-X5 be n (none,lo,hi)
 match z.fst with
 |some r=>pure r
 |none=>pure (some z.snd.snd)
noncomputable def up (be:Nat->SM (Option Bool))(n h:Nat):SM LR:=
 forIn [:n] ((none,0,1):LR) λ_ z=>
  if z.snd.snd≥n-h then pure (ForInStep.done (none,z.snd.fst,z.snd.snd))
  else do
   let t <-be (h+z.snd.snd)
   match t with
   |some more=>if (!more)=true then pure (ForInStep.done (none,z.snd.fst,z.snd.snd)) else pure (ForInStep.yield (none,z.snd.snd,2*z.snd.snd+1))
   |_=>pure (ForInStep.done (some none,z.snd.fst,z.snd.snd))
noncomputable def down (be:Nat->SM (Option Bool))(n h:Nat):SM LR:=
 forIn [:n] ((none,0,1):LR) λ_ z=>
  if z.snd.snd≥h+1 then pure (ForInStep.done (none,z.snd.fst,z.snd.snd))
  else do
   let t <-be (h-z.snd.snd)
   match t with
   |some found=>if found=true then pure (ForInStep.done (none,z.snd.fst,z.snd.snd)) else pure (ForInStep.yield (none,z.snd.snd,2*z.snd.snd+1))
   |_=>pure (ForInStep.done (some none,z.snd.fst,z.snd.snd))
theorem rP (l:Bool)(k:Keyed)(a:Array Keyed)(b n h:Nat):Pc l k a b n h=(do
  let t <-past l k a (b+h)
  match t with
  |some right=>
   if right=true then do
    let z <-up (λi=>past l k a (b+i)) n h
    match z.fst with
    |some r=>pure r
    |none=>gE (λi=>past l k a (b+i)) n (h+z.snd.fst+1) (h+min z.snd.snd (n-h))
   else do
    let z <-down (λi=>past l k a (b+i)) n h
    match z.fst with
    |some r=>pure r
    |none=>gE (λi=>past l k a (b+i)) n (h+1-min z.snd.snd (h+1)) (h-z.snd.fst)
  |_=>pure none):=by
 kernel_rfl
section
variable {U:Program}{w:World}{A:Around}{E:Value->Shared->Prop}{s:Shared}{a₀:Array Keyed}{rk:Value->Int}{kd:SortKind}
noncomputable def bt (rk:Value->Int)(left:Bool)(key x:Keyed):Bool:=if left then decide (rk x.1<rk key.1) else !decide (rk key.1<rk x.1)
theorem xJ {left:Bool}{key p:Keyed}{arr:Array Keyed}{j:Nat}{st:SortSt}{Q:Option Bool->SortSt->Prop}(O:C1 U w A s rk kd a₀)(hk:kindOf st=kd)(hj:arr[j]?=some p)(hp:p∈a₀.toList)(BR:key∈a₀.toList)
  (h:Q (some (bt rk left key p)) st):wpS (model U w) A E s (past left key arr j) Q st:=by k_with"o"=>
 unfold past;rw[elem'_eq,hj];refine wpS_bind (wpS_pure ?_);unfold bt at h;cases left with
 |true=>rw[if_pos rfl];exact iV O hk hp BR (by simpa using h)
 |false=>rw[if_neg (by decide)];exact wpS_bind (iV O hk BR hp (wpS_pure (by simpa using h)))
theorem uU {be:Nat->SM (Option Bool)}{B:Nat->Bool}{n lo hi:Nat}{st:SortSt}{Q:Option Nat->SortSt->Prop}(LV:∀i,i<n->∀Q:Option Bool->SortSt->Prop,Q (some (B i)) st->wpS (model U w) A E s (be i) Q st)
  (mono:∀i j,i<=j->j<n->B j=true->B i=true) (h1:lo<=hi) (h2:hi<=n) (FP:∀i,i<lo->B i=true) (J0:∀i,hi<=i->i<n->B i=false)
  (h:∀k,k<=n->(∀i,i<k->B i=true)->(∀i,k<=i->i<n->B i=false)->Q (some k) st):wpS (model U w) A E s (gE be n lo hi) Q st:=by k_with"o"=>
 unfold gE X5;refine wpS_bind (wpS_mono (wpS_forRange (I:=λx c AA=>AA=st/\∃l r,c=(none,l,r)/\l<=r/\r<=n/\r-l<=n-x/\(∀i,i<l->B i=true)/\(∀i,r<=i->i<n->B i=false))
  (Q:=λc AA=>AA=st/\∃l,c=(none,l,l)/\l<=n/\(∀i,i<l->B i=true)/\(∀i,l<=i->i<n->B i=false)) ?step ?fin ⟨rfl,lo,hi,rfl,h1,h2,by omega,FP,J0⟩) ?post)
 case post=>rintro c AA ⟨rfl,l,rfl,hl,q1,q2⟩;exact wpS_pure (h l hl q1 q2)
 case fin=>
  rintro c AA ⟨rfl,l,r,rfl,q1,q2,q3,q4,q5⟩;have:l=r:=by omega
  subst this;exact⟨rfl,l,rfl,q2,q4,q5⟩
 case step=>
  rintro x c AA _ hx ⟨rfl,l,r,rfl,q1,q2,q3,q4,q5⟩;dsimp only;by_cases F2:l≥r
  ·rw[if_pos F2];have:l=r:=by omega
   subst this;exact wpS_pure ⟨rfl,l,rfl,q2,q4,q5⟩
  ·rw[if_neg F2];refine wpS_bind (LV _ (by omega) _ ?_);dsimp only;cases hb:B (l+(r-l)/2) with
   |true=>rw[if_pos rfl];exact wpS_pure ⟨rfl,_,r,rfl,by omega,q2,by omega,λi hi=>mono i _ (by omega) (by omega) hb,q5⟩
   |false=>
    rw[if_neg (by decide)];refine wpS_pure ⟨rfl,l,_,rfl,by omega,by omega,by omega,q4,λi h1 h2=>?_⟩;cases hi:B i with
    |false=>rfl
    |true=>have:=mono _ i h1 h2 hi;rw[hb] at this;cases this
theorem Nr {left:Bool}{key:Keyed}{arr:Array Keyed}{base n hint:Nat}{st:SortSt}{Q:Option Nat->SortSt->Prop}(O:C1 U w A s rk kd a₀)(hk:kindOf st=kd)(BR:key∈a₀.toList)(x:Nat->Keyed)
  (O7:∀i,i<n->arr[base+i]?=some (x i)/\x i∈a₀.toList) (hh:hint<n) (asc:∀i j,i<=j->j<n->rk (x i).1<=rk (x j).1)
  (h:∀k,k<=n->(∀i,i<k->bt rk left key (x i)=true)->(∀i,k<=i->i<n->bt rk left key (x i)=false)->Q (some k) st) :
  wpS (model U w) A E s (Pc left key arr base n hint) Q st:=by k_with"o"=>
 have LV:∀i,i<n->∀Q:Option Bool->SortSt->Prop,Q (some (bt rk left key (x i))) st->wpS (model U w) A E s (past left key arr (base+i)) Q st:=λi hi Q q=>xJ O hk (O7 i hi).1 (O7 i hi).2 BR q;have mono:∀i j,i<=j->j<n->bt rk left key (x j)=true->bt rk left key (x i)=true:=λi j B5 hj e=>by have:=asc i j B5 hj;unfold bt at e ⊢;cases left<;>simp at e ⊢<;>omega
 rw[rP];refine wpS_bind (LV hint hh _ ?_);dsimp only;cases hb:bt rk left key (x hint) with
 |true=>
  rw[if_pos rfl];unfold up;refine wpS_bind (wpS_mono (wpS_forRange (I:=λy c AA=>AA=st/\∃a b,c=(none,a,b)/\a<b/\a<n-hint/\y+1<=b/\bt rk left key (x (hint+a))=true)
   (Q:=λc AA=>AA=st/\∃a b,c=(none,a,b)/\a<b/\a<n-hint/\bt rk left key (x (hint+a))=true/\(n-hint<=b\/bt rk left key (x (hint+b))=false)) ?step ?fin ⟨rfl,0,1,rfl,by omega,by omega,by omega,hb⟩) ?post)
  case fin=>rintro c AA ⟨rfl,a,b,rfl,q1,q2,q3,q4⟩;exact⟨rfl,a,b,rfl,q1,q2,q4,.inl (by omega)⟩
  case step=>
   rintro y c AA _ hy ⟨rfl,a,b,rfl,q1,q2,q3,q4⟩;dsimp only;by_cases F2:b≥n-hint
   ·rw[if_pos F2];exact wpS_pure ⟨rfl,a,b,rfl,q1,q2,q4,.inl F2⟩
   ·rw[if_neg F2];refine wpS_bind (LV (hint+b) (by omega) _ ?_);dsimp only;cases HA:bt rk left key (x (hint+b)) with
    |true=>rw[if_neg (by decide)];exact wpS_pure ⟨rfl,b,2*b+1,rfl,by omega,by omega,by omega,HA⟩
    |false=>rw[if_pos (by decide)];exact wpS_pure ⟨rfl,a,b,rfl,q1,q2,q4,.inr HA⟩
  case post=>
   rintro c AA ⟨rfl,a,b,rfl,q1,q2,q3,q4⟩;dsimp only;refine uU LV mono (by omega) (by omega) (λi hi=>mono i (hint+a) (by omega) (by omega) q3) (λi h1 h2=>?_) h;rcases q4 with q4|q4
   ·omega
   ·cases hi:bt rk left key (x i) with
    |false=>rfl
    |true=>have:=mono (hint+b) i (by omega) h2 hi;rw[q4] at this;cases this
 |false=>
  rw[if_neg (by decide)];unfold down;refine wpS_bind (wpS_mono (wpS_forRange (I:=λy c AA=>AA=st/\∃a b,c=(none,a,b)/\a<b/\a<=hint/\y+1<=b/\bt rk left key (x (hint-a))=false)
   (Q:=λc AA=>AA=st/\∃a b,c=(none,a,b)/\a<b/\a<=hint/\bt rk left key (x (hint-a))=false/\(hint+1<=b\/bt rk left key (x (hint-b))=true)) ?step ?fin ⟨rfl,0,1,rfl,by omega,by omega,by omega,hb⟩) ?post)
  case fin=>rintro c AA ⟨rfl,a,b,rfl,q1,q2,q3,q4⟩;exact⟨rfl,a,b,rfl,q1,q2,q4,.inl (by omega)⟩
  case step=>
   rintro y c AA _ hy ⟨rfl,a,b,rfl,q1,q2,q3,q4⟩;dsimp only;by_cases F2:b≥hint+1
   ·rw[if_pos F2];exact wpS_pure ⟨rfl,a,b,rfl,q1,q2,q4,.inl F2⟩
   ·rw[if_neg F2];refine wpS_bind (LV (hint-b) (by omega) _ ?_);dsimp only;cases HA:bt rk left key (x (hint-b)) with
    |true=>rw[if_pos rfl];exact wpS_pure ⟨rfl,a,b,rfl,q1,q2,q4,.inr HA⟩
    |false=>rw[if_neg (by decide)];exact wpS_pure ⟨rfl,b,2*b+1,rfl,by omega,by omega,by omega,HA⟩
  case post=>
   rintro c AA ⟨rfl,a,b,rfl,q1,q2,q3,q4⟩;dsimp only;refine uU LV mono (by omega) (by omega) (λi hi=>?_) (λi h1 h2=>?_) h
   ·rcases q4 with q4|q4
    ·omega
    ·by_cases gy:hint+1<=b
     ·omega
     ·exact mono i (hint-b) (by omega) (by omega) q4
   ·cases hi:bt rk left key (x i) with
    |false=>rfl
    |true=>have:=mono (hint-a) i h1 h2 hi;rw[q3] at this;cases this
end
end Ts
end
section
namespace Ts
noncomputable def bA:Array Keyed->Array Keyed->SM (Array Keyed):=sortPriv% PySem.Builtin.mergeLo
noncomputable def Iv:Nat->SM Unit:=sortPriv% PySem.Builtin.setMinGallop
noncomputable def dn (a b out:Array Keyed)(ia ib:Nat):Array Keyed:=out++a.extract ia a.size++b.extract ib b.size
noncomputable def la (a b out:Array Keyed)(ia ib:Nat):Array Keyed:=out++b.extract ib b.size++a.extract ia a.size
noncomputable abbrev M1:=Option (Array Keyed)×Array Keyed×Nat×Nat×Nat×Nat
noncomputable abbrev M2:=Option (Array Keyed)×Array Keyed×Nat×Nat×Nat×Nat×Nat
noncomputable abbrev M0:=Option (Array Keyed)×Array Keyed×Nat×Nat×Nat
noncomputable def lo1 (a b:Array Keyed)(mg:Nat)(c:M1):SM (ForInStep M1):=do
 let p <-elem' b c.2.2.2.1;let q <-elem' a c.2.2.1;let t <-lt' p q
 match t with
 |some PM=>
  if PM=true then do
   let p <-elem' b c.2.2.2.1
   if (c.2.2.2.1+1==b.size)=true then pure (ForInStep.done (some (dn a b (c.2.1.push p) c.2.2.1 (c.2.2.2.1+1)),c.2.1.push p,c.2.2.1,c.2.2.2.1+1,0,c.2.2.2.2.2+1))
   else if c.2.2.2.2.2+1≥mg then pure (ForInStep.done (none,c.2.1.push p,c.2.2.1,c.2.2.2.1+1,0,c.2.2.2.2.2+1))
   else pure (ForInStep.yield (none,c.2.1.push p,c.2.2.1,c.2.2.2.1+1,0,c.2.2.2.2.2+1))
  else do
   let q <-elem' a c.2.2.1
   if (c.2.2.1+1+1==a.size)=true then pure (ForInStep.done (some (la a b (c.2.1.push q) (c.2.2.1+1) c.2.2.2.1),c.2.1.push q,c.2.2.1+1,c.2.2.2.1,c.2.2.2.2.1+1,0))
   else if c.2.2.2.2.1+1≥mg then pure (ForInStep.done (none,c.2.1.push q,c.2.2.1+1,c.2.2.2.1,c.2.2.2.2.1+1,0))
   else pure (ForInStep.yield (none,c.2.1.push q,c.2.2.1+1,c.2.2.2.1,c.2.2.2.2.1+1,0))
 |_=>pure (ForInStep.done (some (dn a b c.2.1 c.2.2.1 c.2.2.2.1),c.2.1,c.2.2.1,c.2.2.2.1,c.2.2.2.2.1,c.2.2.2.2.2))
noncomputable def xP (a b:Array Keyed)(mg k k1:Nat)(out:Array Keyed)(ia ib:Nat):SM (ForInStep M2):=do
 let q <-elem' a ia
 if (ia+1+1==a.size)=true then pure (ForInStep.done (some (la a b (out.push q) (ia+1) ib),out.push q,ia+1,ib,mg,k,k1))
 else if (decide (k<7)&&decide (k1<7))=true then pure (ForInStep.done (none,out.push q,ia+1,ib,mg,k,k1))
 else pure (ForInStep.yield (none,out.push q,ia+1,ib,mg,k,k1))
noncomputable def xQ (a b:Array Keyed)(mg k:Nat)(out:Array Keyed)(ia ib bc:Nat):SM (ForInStep M2):=do
 let p <-elem' b ib
 if (ib+1==b.size)=true then pure (ForInStep.done (some (dn a b (out.push p) ia (ib+1)),out.push p,ia,ib+1,mg,k,bc))
 else do
  let q <-elem' a ia;let t <-Pc true q b (ib+1) (b.size-(ib+1)) 0
  match t with
  |some k1=>
   if k1>0 then
    if (ib+1+k1==b.size)=true then pure (ForInStep.done (some (dn a b (out.push p++b.extract (ib+1) (ib+1+k1)) ia (ib+1+k1)),out.push p++b.extract (ib+1) (ib+1+k1),ia,ib+1+k1,mg,k,k1))
    else xP a b mg k k1 (out.push p++b.extract (ib+1) (ib+1+k1)) ia (ib+1+k1)
   else xP a b mg k k1 (out.push p) ia (ib+1)
  |_=>pure (ForInStep.done (some (dn a b (out.push p) ia (ib+1)),out.push p,ia,ib+1,mg,k,bc))
noncomputable def xR (a b:Array Keyed)(mg:Nat)(c:M2):SM (ForInStep M2):=do
 let p <-elem' b c.2.2.2.1;let t <-Pc false p a c.2.2.1 (a.size-c.2.2.1) 0
 match t with
 |some k=>
  if k>0 then
   if (c.2.2.1+k+1==a.size)=true then pure (ForInStep.done (some (la a b (c.2.1++a.extract c.2.2.1 (c.2.2.1+k)) (c.2.2.1+k) c.2.2.2.1),c.2.1++a.extract c.2.2.1 (c.2.2.1+k),c.2.2.1+k,c.2.2.2.1,mg,k,c.2.2.2.2.2.2))
   else if (c.2.2.1+k==a.size)=true then pure (ForInStep.done (some (dn a b (c.2.1++a.extract c.2.2.1 (c.2.2.1+k)) (c.2.2.1+k) c.2.2.2.1),c.2.1++a.extract c.2.2.1 (c.2.2.1+k),c.2.2.1+k,c.2.2.2.1,mg,k,c.2.2.2.2.2.2))
   else xQ a b mg k (c.2.1++a.extract c.2.2.1 (c.2.2.1+k)) (c.2.2.1+k) c.2.2.2.1 c.2.2.2.2.2.2
  else xQ a b mg k c.2.1 c.2.2.1 c.2.2.2.1 c.2.2.2.2.2.2
 |_=>pure (ForInStep.done (some (dn a b c.2.1 c.2.2.1 c.2.2.2.1),c.2.1,c.2.2.1,c.2.2.2.1,mg,c.2.2.2.2.2.1,c.2.2.2.2.2.2))
noncomputable def RP (a b:Array Keyed)(c:M2):SM (ForInStep M2):=
 if c.2.2.2.2.1>1 then do
  Iv (c.2.2.2.2.1-1)
  xR a b (c.2.2.2.2.1-1) c
 else do
  Iv c.2.2.2.2.1
  xR a b c.2.2.2.2.1 c
noncomputable def RQ (a b:Array Keyed)(c:M0):SM (ForInStep M0):=do
 let z <-forIn [:a.size+b.size] ((none,c.2.1,c.2.2.1,c.2.2.2.1,0,0):M1) λ_ z=>lo1 a b c.2.2.2.2 z
 match z.1 with
 |some r=>pure (ForInStep.done (some r,z.2.1,z.2.2.1,z.2.2.2.1,c.2.2.2.2))
 |none=>do
  liftM (rule "list.sort.gallop")
  let y <-forIn [:a.size+b.size] ((none,z.2.1,z.2.2.1,z.2.2.2.1,c.2.2.2.2+1,z.2.2.2.2.1,z.2.2.2.2.2):M2) λ_ y=>RP a b y
  match y.1 with
  |some r=>pure (ForInStep.done (some r,y.2.1,y.2.2.1,y.2.2.2.1,y.2.2.2.2.1))
  |none=>do
   Iv (y.2.2.2.2.1+1)
   pure (ForInStep.yield (none,y.2.1,y.2.2.1,y.2.2.2.1,y.2.2.2.2.1+1))
theorem mG (a b:Array Keyed):bA a b=(do
  liftM (rule "list.sort.merge-lo")
  let p <-elem' b 0
  if (1==b.size)=true then pure (dn a b #[p] 0 1)
  else if (0+1==a.size)=true then pure (la a b #[p] 0 1)
  else do
   let st <-get;let z <-forIn [:a.size+b.size] ((none,#[p],0,1,gallopOf st):M0) λ_ z=>RQ a b z
   match z.1 with
   |some r=>pure r
   |none=>unsupported "internal:list.sort.merge-bound"):=by
 kernel_rfl
end Ts
end
section
namespace Ts
abbrev Le (rk:Value->Int)(x y:Keyed):Prop:=rk x.1<=rk y.1
structure Inv (rk:Value->Int)(a b out:Array Keyed)(ia ib:Nat):Prop where
 perm:(out.toList++(a.toList.drop ia++b.toList.drop ib)).Perm (a.toList++b.toList)
 asc:out.toList.Pairwise (Le rk)
 GS:∀x∈out.toList,∀y∈a.toList.drop ia++b.toList.drop ib,rk x.1<=rk y.1
def Fin (rk:Value->Int)(a b r:Array Keyed):Prop:=r.toList.Perm (a.toList++b.toList)/\r.toList.Pairwise (Le rk)
theorem Ql {xs:Array Keyed}{i:Nat}{p:Keyed}(h:xs[i]?=some p):xs.toList.drop i=p::xs.toList.drop (i+1):=by k_with"o"=>
 have hl:xs.toList[i]?=some p:=by rw[Aw];exact h
 obtain⟨hi,e⟩:=Bq.mp hl;rw[Kp hi,e]
theorem Pe (xs:Array Keyed)(i:Nat):(xs.extract i xs.size).toList=xs.toList.drop i:=by k_with"o"=>rw[Jv,Hl];exact Dq (by rw[Cw,Bf];exact Ah _)
theorem Jr (xs:Array Keyed)(i k:Nat):(xs.extract i (i+k)).toList=(xs.toList.drop i).take k:=by k_with"o"=>rw[Jv,Hl,Lu]
theorem qB (a b out:Array Keyed)(ia ib:Nat):(dn a b out ia ib).toList=out.toList++a.toList.drop ia++b.toList.drop ib:=by k_with"o"=>unfold dn;rw[Cr,Cr,Pe,Pe]
theorem pR (a b out:Array Keyed)(ia ib:Nat):(la a b out ia ib).toList=out.toList++b.toList.drop ib++a.toList.drop ia:=by k_with"o"=>unfold la;rw[Cr,Cr,Pe,Pe]
variable {rk:Value->Int}{a b out:Array Keyed}{ia ib:Nat}
theorem Inv.DG (I:Inv rk a b out ia ib){p:Keyed}(hp:b[ib]?=some p)(sb:b.toList.Pairwise (Le rk))(hle:∀y∈a.toList.drop ia,rk p.1<=rk y.1):Inv rk a b (out.push p) ia (ib+1):=by k_with"o"=>
 have e:=Ql hp;have V0:(b.toList.drop ib).Pairwise (Le rk):=sb.sublist (Lz _ _);rw[e] at V0;have YO:=Cy.mp V0;refine⟨?_,?_,?_⟩
 ·have h:=I.perm;rw[e] at h;rw[Dm,Ax];refine .trans ?_ h;refine .append_left _ ?_;show(p::(a.toList.drop ia++b.toList.drop (ib+1))).Perm _;exact Ed.symm
 ·rw[Dm,Bo];refine⟨I.asc,Ls _ _,λx hx y hy=>?_⟩;rw[Ae.mp hy];exact I.GS x hx p (Aq _ (by rw[e];exact .head _))
 ·intro x hx y hy;rw[Dm] at hx;rcases Ao.mp hx with hx|hx
  ·refine I.GS x hx y ?_;rcases Ao.mp hy with hy|hy
   ·exact Al _ hy
   ·exact Aq _ (by rw[e];exact .tail _ hy)
  ·rw[Ae.mp hx];rcases Ao.mp hy with hy|hy
   ·exact hle y hy
   ·exact YO.1 y hy
theorem Inv.DH (I:Inv rk a b out ia ib){p:Keyed}(hp:a[ia]?=some p)(sa:a.toList.Pairwise (Le rk))(hle:∀y∈b.toList.drop ib,rk p.1<=rk y.1):Inv rk a b (out.push p) (ia+1) ib:=by k_with"o"=>
 have e:=Ql hp;have V1:(a.toList.drop ia).Pairwise (Le rk):=sa.sublist (Lz _ _);rw[e] at V1;have YP:=Cy.mp V1;refine⟨?_,?_,?_⟩
 ·have h:=I.perm;rw[e] at h;rw[Dm,Ax];exact h
 ·rw[Dm,Bo];refine⟨I.asc,Ls _ _,λx hx y hy=>?_⟩;rw[Ae.mp hy];exact I.GS x hx p (Al _ (by rw[e];exact .head _))
 ·intro x hx y hy;rw[Dm] at hx;rcases Ao.mp hx with hx|hx
  ·refine I.GS x hx y ?_;rcases Ao.mp hy with hy|hy
   ·exact Al _ (by rw[e];exact .tail _ hy)
   ·exact Aq _ hy
  ·rw[Ae.mp hx];rcases Ao.mp hy with hy|hy
   ·exact YP.1 y hy
   ·exact hle y hy
theorem toList_inj {xs ys:Array Keyed}(h:xs.toList=ys.toList):xs=ys:=by k_with"o"=>cases xs;cases ys;simpa using h
theorem Wl {xs:Array Keyed}{i k:Nat}{p:Keyed}(h:xs[i+k]?=some p)(out:Array Keyed):out++xs.extract i (i+(k+1))=(out++xs.extract i (i+k)).push p:=by k_with"o"=>
 apply toList_inj;rw[Cr,Dm,Cr,Jr,Jr,Ax];congr 1;have:(xs.toList.drop i)[k]?=some p:=by rw[Lg,Aw];exact h
 rw[Cc,this];rfl
theorem Inv.HG (I:Inv rk a b out ia ib)(sa:a.toList.Pairwise (Le rk)):∀k,ia+k<=a.size->(∀i,i<k->∀p,a[ia+i]?=some p->∀y∈b.toList.drop ib,rk p.1<=rk y.1)->Inv rk a b (out++a.extract ia (ia+k)) (ia+k) ib
 | 0=>λ_ _=>by k_with"o"=>
  have:out++a.extract ia (ia+0)=out:=by apply toList_inj;rw[Cr,Jr];simp
  rw[this];exact I
 |k+1=>λhk h=>by k_with"o"=>have ih:=Inv.HG I sa k (by omega) λi hi=>h i (by omega);have hp:a[ia+k]?=some a[ia+k]:=getElem?_pos _ _ (by omega);rw[Wl hp];exact ih.DH hp sa (h k (by omega) _ hp)
theorem Inv.HF (I:Inv rk a b out ia ib)(sb:b.toList.Pairwise (Le rk)):∀k,ib+k<=b.size->(∀i,i<k->∀p,b[ib+i]?=some p->∀y∈a.toList.drop ia,rk p.1<=rk y.1)->Inv rk a b (out++b.extract ib (ib+k)) ia (ib+k)
 | 0=>λ_ _=>by k_with"o"=>
  have:out++b.extract ib (ib+0)=out:=by apply toList_inj;rw[Cr,Jr];simp
  rw[this];exact I
 |k+1=>λhk h=>by k_with"o"=>have ih:=Inv.HF I sb k (by omega) λi hi=>h i (by omega);have hp:b[ib+k]?=some b[ib+k]:=getElem?_pos _ _ (by omega);rw[Wl hp];exact ih.DG hp sb (h k (by omega) _ hp)
theorem Inv.dn (I:Inv rk a b out ia ib)(sa:a.toList.Pairwise (Le rk))(hb:b.size<=ib):Fin rk a b (dn a b out ia ib):=by k_with"o"=>have e:b.toList.drop ib=[]:=Im (by rw[Bf];exact hb);have hp:=I.perm;have hb:=I.GS;unfold Fin;rw[qB];rw[e] at hp hb ⊢;rw[Au] at hp ⊢;refine⟨hp,Bo.mpr ⟨I.asc,sa.sublist (Lz _ _),λx hx y hy=>hb x hx y (Al _ hy)⟩⟩
theorem Inv.la (I:Inv rk a b out ia ib)(sa:a.toList.Pairwise (Le rk))(sb:b.toList.Pairwise (Le rk))(hl:∀x∈b.toList,∀y∈a.toList.drop ia,rk x.1<=rk y.1):Fin rk a b (la a b out ia ib):=by k_with"o"=>unfold Fin;rw[pR,Ax];refine⟨(En.append_left _ Cz).trans I.perm,Bo.mpr ⟨I.asc,Bo.mpr ⟨sb.sublist (Lz _ _),sa.sublist (Lz _ _),λx hx y hy=>hl x (List.mem_of_mem_drop hx) y hy⟩,λx hx y hy=>I.GS x hx y (Cz.mem_iff.mp hy)⟩⟩
end Ts
end
section
namespace Ts
theorem cK (g:Nat):Iv g=modify λs=>SortSt.mk' (kindOf s) (arrOf s) (pendingOf s) g (failedOf s):=by kernel_rfl
structure Eqv (st AA:SortSt):Prop where
 arr:arrOf AA=arrOf st
 kind:kindOf AA=kindOf st
 failed:failedOf AA=failedOf st
 pend:pendingOf AA=pendingOf st
theorem Eqv.refl (st:SortSt):Eqv st st:=⟨rfl,rfl,rfl,rfl⟩
theorem Eqv.trans {s1 s2 s3:SortSt}(h:Eqv s1 s2)(g:Eqv s2 s3):Eqv s1 s3:=by k_with"o"=>exact(⟨g.arr.trans h.arr,g.kind.trans h.kind,g.failed.trans h.failed,g.pend.trans h.pend⟩)
section
variable {U:Program}{w:World}{A:Around}{E:Value->Shared->Prop}{s:Shared}{a₀:Array Keyed}{rk:Value->Int}{kd:SortKind}{a b:Array Keyed}
theorem Jo {g:Nat}{st:SortSt}{Q:Unit->SortSt->Prop}(h:∀AA,Eqv st AA->Q () AA):wpS (model U w) A E s (Iv g) Q st:=by k_with"o"=>rw[cK];exact wpS_modify (h _ ⟨rfl,rfl,rfl,rfl⟩)
theorem Gd {arr:Array Keyed}{i:Nat}{st:SortSt}{Q:Keyed->SortSt->Prop}(hi:i<arr.size)(h:∀p,arr[i]?=some p->Q p st):wpS (model U w) A E s (elem' arr i) Q st:=by k_with"o"=>rw[elem'_eq,getElem?_pos arr i hi];exact wpS_pure (h _ (getElem?_pos arr i hi))
structure DE (rk:Value->Int)(a₀ a b:Array Keyed):Prop where
 ma:∀x∈a.toList,x∈a₀.toList
 mb:∀x∈b.toList,x∈a₀.toList
 sa:a.toList.Pairwise (Le rk)
 sb:b.toList.Pairwise (Le rk)
 na:0<a.size
 nb:0<b.size
 fst:∀p,b[0]?=some p->∀y∈a.toList,rk p.1<=rk y.1
 lst:∀x∈b.toList,∀y∈a.toList.drop (a.size-1),rk x.1<=rk y.1
theorem Wc {xs:Array Keyed}{i:Nat}{p:Keyed}(h:xs[i]?=some p):p∈xs.toList:=Bd (by rw[Aw];exact h)
theorem DE.idx {xs:Array Keyed}(sx:xs.toList.Pairwise (Le rk)){i j:Nat}{p q:Keyed}(B5:i<=j)(hp:xs[i]?=some p)(hq:xs[j]?=some q):rk p.1<=rk q.1:=by k_with"o"=>
 by_cases e:i=j
 ·subst e;rw[hp] at hq;injection hq with hq;rw[hq];exact Ek _
 ·have D':xs.toList[i]?=some p:=by rw[Aw];exact hp
  have D9:xs.toList[j]?=some q:=by rw[Aw];exact hq
  obtain⟨h1,rfl⟩:=Bq.mp D';obtain⟨h2,rfl⟩:=Bq.mp D9;exact Ko.mp sx i j h1 h2 (by omega)
theorem Zy {xs:Array Keyed}(sx:xs.toList.Pairwise (Le rk)){i:Nat}{p:Keyed}(hp:xs[i]?=some p):∀y∈xs.toList.drop i,rk p.1<=rk y.1:=by k_with"o"=>intro y hy;obtain⟨j,hj⟩:=Bx hy;rw[Lg,Aw] at hj;exact DE.idx sx (Kn _ _) hp hj
def T1 (rk:Value->Int)(a b:Array Keyed)(base:Nat)(ret:Option (Array Keyed))(out:Array Keyed)(ia ib:Nat):Prop:=
 (∃r,ret=some r/\Fin rk a b r)\/(ret=none/\Inv rk a b out ia ib/\ia+1<a.size/\ib<b.size/\base+1<=ia+ib)
theorem DE.EM (T:DE rk a₀ a b){out:Array Keyed}{ia ib:Nat}(I:Inv rk a b out ia ib)(h:ia+1=a.size):Fin rk a b (la a b out ia ib):=by k_with"o"=>exact(I.la T.sa T.sb (by rw[show ia=a.size-1 from by omega];exact T.lst))
theorem Aat (O:C1 U w A s rk kd a₀)(T:DE rk a₀ a b){mg base:Nat}{out:Array Keyed}{ia ib ac bc:Nat}{st:SortSt}{Q:ForInStep M1->SortSt->Prop}(hk:kindOf st=kd)(I:Inv rk a b out ia ib)(h1:ia+1<a.size)(h2:ib<b.size)(A4:base<=ia+ib)
  (hd:∀ret out ia ib ac bc,T1 rk a b base ret out ia ib->Q (.done (ret,out,ia,ib,ac,bc)) st)
  (hy:∀out CW CV ac bc,Inv rk a b out CW CV->CW+1<a.size->CV<b.size->ia+ib+1<=CW+CV->Q (.yield (none,out,CW,CV,ac,bc)) st):wpS (model U w) A E s (lo1 a b mg (none,out,ia,ib,ac,bc)) Q st:=by k_with"o"=>
 unfold lo1;dsimp only;refine wpS_bind (Gd h2 λp hp=>wpS_bind (Gd (by omega) λq hq=>wpS_bind (iV O hk (T.mb _ (Wc hp)) (T.ma _ (Wc hq)) ?_)));dsimp only;by_cases AJ:rk p.1<rk q.1
 ·rw[if_pos (by simpa using AJ)];refine wpS_bind (Gd h2 λp' D'=>?_);rw[hp] at D';injection D' with D';subst D';have I':=I.DG hp T.sb λy hy=>Dk (Ga AJ) (Zy T.sa hq y hy);by_cases he:ib+1=b.size
  ·rw[if_pos (by simpa using he)];exact wpS_pure (hd _ _ _ _ _ _ (.inl ⟨_,rfl,I'.dn T.sa (by omega)⟩))
  ·rw[if_neg (by simpa using he)];split
   ·exact wpS_pure (hd _ _ _ _ _ _ (.inr ⟨rfl,I',h1,by omega,by omega⟩))
   ·exact wpS_pure (hy _ _ _ _ _ I' h1 (by omega) (by omega))
 ·rw[if_neg (by simpa using AJ)];refine wpS_bind (Gd (by omega) λq' D9=>?_);rw[hq] at D9;injection D9 with D9;subst D9;have I':=I.DH hq T.sa λy hy=>Dk (Hy.mp AJ) (Zy T.sb hp y hy);by_cases he:ia+1+1=a.size
  ·rw[if_pos (by simpa using he)];exact wpS_pure (hd _ _ _ _ _ _ (.inl ⟨_,rfl,T.EM I' he⟩))
  ·rw[if_neg (by simpa using he)];split
   ·exact wpS_pure (hd _ _ _ _ _ _ (.inr ⟨rfl,I',by omega,h2,by omega⟩))
   ·exact wpS_pure (hy _ _ _ _ _ I' (by omega) h2 (by omega))
theorem pN (T:DE rk a₀ a b){mg base k k1:Nat}{out:Array Keyed}{ia ib:Nat}{st:SortSt}{Q:ForInStep M2->SortSt->Prop}{q:Keyed}(I:Inv rk a b out ia ib)(h1:ia+1<a.size)(h2:ib<b.size)(A4:base<=ia+ib)(hq:a[ia]?=some q)(hle:∀y∈b.toList.drop ib,rk q.1<=rk y.1)
  (hd:∀ret out ia ib mg k k1,T1 rk a b base ret out ia ib->Q (.done (ret,out,ia,ib,mg,k,k1)) st)
  (hy:∀out CW CV mg k k1,Inv rk a b out CW CV->CW+1<a.size->CV<b.size->base+1<=CW+CV->Q (.yield (none,out,CW,CV,mg,k,k1)) st):wpS (model U w) A E s (xP a b mg k k1 out ia ib) Q st:=by k_with"o"=>
 unfold xP;refine wpS_bind (Gd (by omega) λq' D9=>?_);rw[hq] at D9;injection D9 with D9;subst D9;have I':=I.DH hq T.sa hle;by_cases he:ia+1+1=a.size
 ·rw[if_pos (by simpa using he)];exact wpS_pure (hd _ _ _ _ _ _ _ (.inl ⟨_,rfl,T.EM I' he⟩))
 ·rw[if_neg (by simpa using he)];split
  ·exact wpS_pure (hd _ _ _ _ _ _ _ (.inr ⟨rfl,I',by omega,h2,by omega⟩))
  ·exact wpS_pure (hy _ _ _ _ _ _ I' (by omega) h2 (by omega))
theorem pO (O:C1 U w A s rk kd a₀)(T:DE rk a₀ a b){mg base k bc:Nat}{out:Array Keyed}{ia ib:Nat}{st:SortSt}{Q:ForInStep M2->SortSt->Prop}{p:Keyed}(hk:kindOf st=kd)(I:Inv rk a b out ia ib)(h1:ia+1<a.size)(h2:ib<b.size)(A4:base<=ia+ib)(hp:b[ib]?=some p)(hle:∀y∈a.toList.drop ia,rk p.1<=rk y.1)
  (hd:∀ret out ia ib mg k k1,T1 rk a b base ret out ia ib->Q (.done (ret,out,ia,ib,mg,k,k1)) st)
  (hy:∀out CW CV mg k k1,Inv rk a b out CW CV->CW+1<a.size->CV<b.size->base+1<=CW+CV->Q (.yield (none,out,CW,CV,mg,k,k1)) st):wpS (model U w) A E s (xQ a b mg k out ia ib bc) Q st:=by k_with"o"=>
 unfold xQ;refine wpS_bind (Gd h2 λp' D'=>?_);rw[hp] at D';injection D' with D';subst D';have I':=I.DG hp T.sb hle;by_cases he:ib+1=b.size
 ·rw[if_pos (by simpa using he)];exact wpS_pure (hd _ _ _ _ _ _ _ (.inl ⟨_,rfl,I'.dn T.sa (by omega)⟩))
 ·rw[if_neg (by simpa using he)];refine wpS_bind (Gd (by omega) λq hq=>?_);refine wpS_bind (Nr (rk:=rk) (a₀:=a₀) (kd:=kd) O hk (T.ma _ (Wc hq)) (λi=>b.getD (ib+1+i) default) (λi hi=>?_) (by omega) (λi j B5 hj=>?_) λk1 DZ c1 c2=>?_)
  ·have:b[ib+1+i]?=some b[ib+1+i]:=getElem?_pos _ _ (by omega);rw[Ak,this];exact⟨rfl,T.mb _ (Wc this)⟩
  ·have e1:b[ib+1+i]?=some b[ib+1+i]:=getElem?_pos _ _ (by omega);have e2:b[ib+1+j]?=some b[ib+1+j]:=getElem?_pos _ _ (by omega);rw[Ak,Ak,e1,e2];exact DE.idx T.sb (by omega) e1 e2
  ·dsimp only;have run:∀i,i<k1->∀p,b[ib+1+i]?=some p->∀y∈a.toList.drop ia,rk p.1<=rk y.1:=λi hi p e y hy=>by
    have:=c1 i hi;rw[Ak,e] at this;have h3:rk p.1<rk q.1:=by simpa[bt] using this
    exact Dk (Ga h3) (Zy T.sa hq y hy)
   have rest:∀y∈b.toList.drop (ib+1+k1),rk q.1<=rk y.1:=λy hy=>by
    obtain⟨j,hj⟩:=Bx hy;rw[Lg,Aw] at hj;have AJ:ib+1+k1+j<b.size:=(Cx.mp hj).1;have:=c2 (k1+j) (by omega) (by omega);rw[Ak,show ib+1+(k1+j)=ib+1+k1+j from by omega,hj] at this;have h3:¬rk y.1<rk q.1:=by simpa[bt] using this
    exact Hy.mp h3
   by_cases EW:k1>0
   ·rw[if_pos EW];have I2:=I'.HF T.sb k1 (by omega) run;by_cases FF:ib+1+k1=b.size
    ·rw[if_pos (by simpa using FF)];exact wpS_pure (hd _ _ _ _ _ _ _ (.inl ⟨_,rfl,I2.dn T.sa (by omega)⟩))
    ·rw[if_neg (by simpa using FF)];exact pN T I2 h1 (by omega) (by omega) hq rest hd hy
   ·rw[if_neg EW];have LG:k1=0:=by omega
    subst LG;exact pN T I' h1 (by omega) (by omega) hq rest hd hy
theorem pP (O:C1 U w A s rk kd a₀)(T:DE rk a₀ a b){mg base ac bc RL:Nat}{out:Array Keyed}{ia ib:Nat}{st:SortSt}{Q:ForInStep M2->SortSt->Prop}(hk:kindOf st=kd)(I:Inv rk a b out ia ib)(h1:ia+1<a.size)(h2:ib<b.size)(A4:base<=ia+ib)
  (hd:∀ret out ia ib mg k k1,T1 rk a b base ret out ia ib->Q (.done (ret,out,ia,ib,mg,k,k1)) st)
  (hy:∀out CW CV mg k k1,Inv rk a b out CW CV->CW+1<a.size->CV<b.size->base+1<=CW+CV->Q (.yield (none,out,CW,CV,mg,k,k1)) st):wpS (model U w) A E s (xR a b mg (none,out,ia,ib,RL,ac,bc)) Q st:=by k_with"o"=>
 unfold xR;dsimp only;refine wpS_bind (Gd h2 λp hp=>?_);refine wpS_bind (Nr (rk:=rk) (a₀:=a₀) (kd:=kd) O hk (T.mb _ (Wc hp)) (λi=>a.getD (ia+i) default) (λi hi=>?_) (by omega) (λi j B5 hj=>?_) λk DZ c1 c2=>?_)
 ·have:a[ia+i]?=some a[ia+i]:=getElem?_pos _ _ (by omega);rw[Ak,this];exact⟨rfl,T.ma _ (Wc this)⟩
 ·have e1:a[ia+i]?=some a[ia+i]:=getElem?_pos _ _ (by omega);have e2:a[ia+j]?=some a[ia+j]:=getElem?_pos _ _ (by omega);rw[Ak,Ak,e1,e2];exact DE.idx T.sa (by omega) e1 e2
 ·dsimp only;have run:∀i,i<k->∀x,a[ia+i]?=some x->∀y∈b.toList.drop ib,rk x.1<=rk y.1:=λi hi x e y hy=>by
   have:=c1 i hi;rw[Ak,e] at this;have h3:¬rk p.1<rk x.1:=by simpa[bt] using this
   exact Dk (Hy.mp h3) (Zy T.sb hp y hy)
  have rest:∀y∈a.toList.drop (ia+k),rk p.1<=rk y.1:=λy hy=>by
   obtain⟨j,hj⟩:=Bx hy;rw[Lg,Aw] at hj;have AJ:ia+k+j<a.size:=(Cx.mp hj).1;have:=c2 (k+j) (by omega) (by omega);rw[Ak,show ia+(k+j)=ia+k+j from by omega,hj] at this;have h3:rk p.1<rk y.1:=by simpa[bt] using this
   exact Ga h3
  by_cases EW:k>0
  ·rw[if_pos EW];have I2:=I.HG T.sa k (by omega) run;by_cases FF:ia+k+1=a.size
   ·rw[if_pos (by simpa using FF)];exact wpS_pure (hd _ _ _ _ _ _ _ (.inl ⟨_,rfl,T.EM I2 FF⟩))
   ·rw[if_neg (by simpa using FF)];by_cases MT:ia+k=a.size
    ·rw[if_pos (by simpa using MT)];refine wpS_pure (hd _ _ _ _ _ _ _ (.inl ⟨_,rfl,?_⟩));have e:a.toList.drop (ia+k)=[]:=Im (by rw[Bf];omega);have:=I2.la T.sa T.sb (by rw[e];exact λx hx y hy=>(nomatch hy));unfold Fin at this ⊢;rw[pR,e,Au] at this;rw[qB,e,Au];exact this
    ·rw[if_neg (by simpa using MT)];exact pO O T hk I2 (by omega) h2 (by omega) hp rest hd hy
  ·rw[if_neg EW];have LG:k=0:=by omega
   subst LG;exact pO O T hk I h1 h2 (by omega) hp rest hd hy
theorem Aas (O:C1 U w A s rk kd a₀)(T:DE rk a₀ a b){mg base ac bc:Nat}{out:Array Keyed}{ia ib:Nat}{st:SortSt}{Q:ForInStep M2->SortSt->Prop}(hk:kindOf st=kd)(I:Inv rk a b out ia ib)(h1:ia+1<a.size)(h2:ib<b.size)(A4:base<=ia+ib)
  (hd:∀AA ret out ia ib mg k k1,Eqv st AA->T1 rk a b base ret out ia ib->Q (.done (ret,out,ia,ib,mg,k,k1)) AA)
  (hy:∀AA out CW CV mg k k1,Eqv st AA->Inv rk a b out CW CV->CW+1<a.size->CV<b.size->base+1<=CW+CV->Q (.yield (none,out,CW,CV,mg,k,k1)) AA):wpS (model U w) A E s (RP a b (none,out,ia,ib,mg,ac,bc)) Q st:=by k_with"o"=>
 unfold RP;dsimp only;split
 ·exact wpS_bind (Jo λAA e=>pP O T (e.kind.trans hk) I h1 h2 A4 (λr o i j m k k1 t=>hd AA r o i j m k k1 e t) λo i j m k k1 q1 q2 q3 q4=>hy AA o i j m k k1 e q1 q2 q3 q4)
 ·exact wpS_bind (Jo λAA e=>pP O T (e.kind.trans hk) I h1 h2 A4 (λr o i j m k k1 t=>hd AA r o i j m k k1 e t) λo i j m k k1 q1 q2 q3 q4=>hy AA o i j m k k1 e q1 q2 q3 q4)
theorem Aau (O:C1 U w A s rk kd a₀)(T:DE rk a₀ a b){mg base:Nat}{out:Array Keyed}{ia ib:Nat}{st:SortSt}{Q:ForInStep M0->SortSt->Prop}(hk:kindOf st=kd)(I:Inv rk a b out ia ib)(h1:ia+1<a.size)(h2:ib<b.size)(A4:base<=ia+ib)
  (hd:∀AA r out ia ib mg,Eqv st AA->Fin rk a b r->Q (.done (some r,out,ia,ib,mg)) AA)
  (hy:∀AA out CW CV mg,Eqv st AA->Inv rk a b out CW CV->CW+1<a.size->CV<b.size->base+1<=CW+CV->Q (.yield (none,out,CW,CV,mg)) AA):wpS (model U w) A E s (RQ a b (none,out,ia,ib,mg)) Q st:=by k_with"o"=>
 unfold RQ;dsimp only;refine wpS_bind (wpS_mono (wpS_forRange (I:=λx c AA=>Eqv st AA/\∃out ia ib ac bc,c=(none,out,ia,ib,ac,bc)/\Inv rk a b out ia ib/\ia+1<a.size/\ib<b.size/\base+x<=ia+ib)
  (Q:=λc AA=>Eqv st AA/\∃ret out ia ib ac bc,c=(ret,out,ia,ib,ac,bc)/\T1 rk a b base ret out ia ib) ?step ?fin ⟨.refl _,out,ia,ib,0,0,rfl,I,h1,h2,by omega⟩) ?post)
 case fin=>rintro c AA ⟨e,out,ia,ib,ac,bc,rfl,q1,q2,q3,q4⟩;omega
 case step=>rintro x c AA _ hx ⟨e,out,ia,ib,ac,bc,rfl,q1,q2,q3,q4⟩;refine Aat O T (base:=base) (e.kind.trans hk) q1 q2 q3 (by omega) (λret o i j ac bc t=>⟨e,ret,o,i,j,ac,bc,rfl,t⟩) λo i j ac bc r1 r2 r3 r4=>⟨e,o,i,j,ac,bc,rfl,r1,r2,r3,by omega⟩
 case post=>
  rintro c AA ⟨e,ret,out,ia,ib,ac,bc,rfl,t⟩;dsimp only;rcases t with⟨r,rfl,hr⟩|⟨rfl,q1,q2,q3,q4⟩
  ·exact wpS_pure (hd AA _ _ _ _ _ e hr)
  ·dsimp only;refine wpS_bind (wpS_lift (wpAny_rule ⟨rfl,?_⟩));refine wpS_bind (wpS_mono (wpS_forRange (I:=λx c BB=>Eqv st BB/\∃out ia ib mg k k1,c=(none,out,ia,ib,mg,k,k1)/\Inv rk a b out ia ib/\ia+1<a.size/\ib<b.size/\base+1+x<=ia+ib)
    (Q:=λc BB=>Eqv st BB/\∃ret out ia ib mg k k1,c=(ret,out,ia,ib,mg,k,k1)/\T1 rk a b base ret out ia ib) ?step2 ?fin2 ⟨e,out,ia,ib,_,ac,bc,rfl,q1,q2,q3,by omega⟩) ?post2)
   case fin2=>rintro c AA ⟨e,out,ia,ib,mg,k,k1,rfl,q1,q2,q3,q4⟩;omega
   case step2=>
    rintro x c AA _ hx ⟨e,out,ia,ib,mg,k,k1,rfl,q1,q2,q3,q4⟩;refine Aas O T (base:=ia+ib) (e.kind.trans hk) q1 q2 q3 (Ah _) (λBX ret o i j mg k k1 e2 t=>⟨e.trans e2,ret,o,i,j,mg,k,k1,rfl,?_⟩) λBX o i j mg k k1 e2 r1 r2 r3 r4=>⟨e.trans e2,o,i,j,mg,k,k1,rfl,r1,r2,r3,by omega⟩;rcases t with t|⟨t1,t2,t3,t4,t5⟩
    ·exact .inl t
    ·exact .inr ⟨t1,t2,t3,t4,by omega⟩
   case post2=>
    rintro c AA ⟨e,ret,out,ia,ib,mg,k,k1,rfl,t⟩;dsimp only;rcases t with⟨r,rfl,hr⟩|⟨rfl,q1,q2,q3,q4⟩
    ·exact wpS_pure (hd AA _ _ _ _ _ e hr)
    ·exact wpS_bind (Jo λBX e2=>wpS_pure (hy BX _ _ _ _ (e.trans e2) q1 q2 q3 q4))
theorem mH (O:C1 U w A s rk kd a₀)(T:DE rk a₀ a b){st:SortSt}{Q:Array Keyed->SortSt->Prop}(hk:kindOf st=kd)(h:∀r AA,Fin rk a b r->Eqv st AA->Q r AA):wpS (model U w) A E s (bA a b) Q st:=by k_with"o"=>
 rw[mG];refine wpS_bind (wpS_lift (wpAny_rule ⟨rfl,?_⟩));refine wpS_bind (Gd T.nb λp hp=>?_);have I0:Inv rk a b #[] 0 0:=⟨by simp,gW.nil,λx hx=>(nomatch hx)⟩;have I1:Inv rk a b #[p] 0 1:=I0.DG hp T.sb (by simpa using T.fst p hp);by_cases h1:1=b.size
 ·rw[if_pos (by simpa using h1)];exact wpS_pure (h _ _ (I1.dn T.sa (by omega)) (.refl _))
 ·rw[if_neg (by simpa using h1)];by_cases h2:0+1=a.size
  ·rw[if_pos (by simpa using h2)];exact wpS_pure (h _ _ (T.EM I1 (by omega)) (.refl _))
  ·rw[if_neg (by simpa using h2)];have na:=T.na;have nb:=T.nb;refine wpS_bind (wpS_get ?_);refine wpS_bind (wpS_mono (wpS_forRange (I:=λx c AA=>Eqv st AA/\∃out ia ib mg,c=(none,out,ia,ib,mg)/\Inv rk a b out ia ib/\ia+1<a.size/\ib<b.size/\x<=ia+ib)
    (Q:=λc AA=>Eqv st AA/\∃r out ia ib mg,c=(some r,out,ia,ib,mg)/\Fin rk a b r) ?step ?fin ⟨.refl _,_,0,1,_,rfl,I1,by omega,by omega,by omega⟩) ?post)
   case fin=>rintro c AA ⟨e,out,ia,ib,mg,rfl,q1,q2,q3,q4⟩;omega
   case step=>rintro x c AA _ hx ⟨e,out,ia,ib,mg,rfl,q1,q2,q3,q4⟩;exact Aau O T (base:=ia+ib) (e.kind.trans hk) q1 q2 q3 (Ah _) (λBX r o i j mg e2 t=>⟨e.trans e2,r,o,i,j,mg,rfl,t⟩) λBX o i j mg e2 r1 r2 r3 r4=>⟨e.trans e2,o,i,j,mg,rfl,r1,r2,r3,by omega⟩
   case post=>rintro c AA ⟨e,r,out,ia,ib,mg,rfl,t⟩;exact wpS_pure (h r AA t e)
end
end Ts
end
section
namespace Ts
noncomputable def bB:Array Keyed->Array Keyed->SM (Array Keyed):=sortPriv% PySem.Builtin.mergeHi
noncomputable def dh (a b out:Array Keyed)(na nb:Nat):Array Keyed:=a.extract 0 na++b.extract 0 nb++out.reverse
noncomputable def fh (a b out:Array Keyed)(na nb:Nat):Array Keyed:=b.extract 0 nb++a.extract 0 na++out.reverse
noncomputable abbrev H1:=Option (Array Keyed)×Nat×Nat×Array Keyed×Nat×Nat
noncomputable abbrev H2:=Option (Array Keyed)×Nat×Nat×Array Keyed×Nat×Nat×Nat
noncomputable abbrev H0:=Option (Array Keyed)×Nat×Nat×Array Keyed×Nat
noncomputable def LJ (a b:Array Keyed)(mg:Nat)(c:H1):SM (ForInStep H1):=do
 let p <-elem' b (c.2.2.1-1);let q <-elem' a (c.2.1-1);let t <-lt' p q
 match t with
 |some PR=>
  if PR=true then do
   let q <-elem' a (c.2.1-1)
   if (c.2.1-1==0)=true then pure (ForInStep.done (some (dh a b (c.2.2.2.1.push q) (c.2.1-1) c.2.2.1),c.2.1-1,c.2.2.1,c.2.2.2.1.push q,c.2.2.2.2.1+1,0))
   else if c.2.2.2.2.1+1≥mg then pure (ForInStep.done (none,c.2.1-1,c.2.2.1,c.2.2.2.1.push q,c.2.2.2.2.1+1,0))
   else pure (ForInStep.yield (none,c.2.1-1,c.2.2.1,c.2.2.2.1.push q,c.2.2.2.2.1+1,0))
  else do
   let p <-elem' b (c.2.2.1-1)
   if (c.2.2.1-1==1)=true then pure (ForInStep.done (some (fh a b (c.2.2.2.1.push p) c.2.1 (c.2.2.1-1)),c.2.1,c.2.2.1-1,c.2.2.2.1.push p,0,c.2.2.2.2.2+1))
   else if c.2.2.2.2.2+1≥mg then pure (ForInStep.done (none,c.2.1,c.2.2.1-1,c.2.2.2.1.push p,0,c.2.2.2.2.2+1))
   else pure (ForInStep.yield (none,c.2.1,c.2.2.1-1,c.2.2.2.1.push p,0,c.2.2.2.2.2+1))
 |_=>pure (ForInStep.done (some (dh a b c.2.2.2.1 c.2.1 c.2.2.1),c.2.1,c.2.2.1,c.2.2.2.1,c.2.2.2.2.1,c.2.2.2.2.2))
noncomputable def xX (a b:Array Keyed)(mg k k1 na nb:Nat)(out:Array Keyed):SM (ForInStep H2):=do
 let q <-elem' a (na-1)
 if (na-1==0)=true then pure (ForInStep.done (some (dh a b (out.push q) (na-1) nb),na-1,nb,out.push q,mg,k,k1))
 else if (decide (k<7)&&decide (k1<7))=true then pure (ForInStep.done (none,na-1,nb,out.push q,mg,k,k1))
 else pure (ForInStep.yield (none,na-1,nb,out.push q,mg,k,k1))
noncomputable def xY (a b:Array Keyed)(mg k na nb:Nat)(out:Array Keyed)(bc:Nat):SM (ForInStep H2):=do
 let p <-elem' b (nb-1)
 if (nb-1==1)=true then pure (ForInStep.done (some (fh a b (out.push p) na (nb-1)),na,nb-1,out.push p,mg,k,bc))
 else do
  let q <-elem' a (na-1);let t <-Pc true q b 0 (nb-1) (nb-1-1)
  match t with
  |some e=>
   if nb-1-e>0 then
    if (e==1)=true then pure (ForInStep.done (some (fh a b (out.push p++(b.extract e (nb-1)).reverse) na e),na,e,out.push p++(b.extract e (nb-1)).reverse,mg,k,nb-1-e))
    else if (e==0)=true then pure (ForInStep.done (some (dh a b (out.push p++(b.extract e (nb-1)).reverse) na e),na,e,out.push p++(b.extract e (nb-1)).reverse,mg,k,nb-1-e))
    else xX a b mg k (nb-1-e) na e (out.push p++(b.extract e (nb-1)).reverse)
   else xX a b mg k (nb-1-e) na (nb-1) (out.push p)
  |_=>pure (ForInStep.done (some (dh a b (out.push p) na (nb-1)),na,nb-1,out.push p,mg,k,bc))
noncomputable def xZ (a b:Array Keyed)(mg:Nat)(c:H2):SM (ForInStep H2):=do
 let p <-elem' b (c.2.2.1-1);let t <-Pc false p a 0 c.2.1 (c.2.1-1)
 match t with
 |some e=>
  if c.2.1-e>0 then
   if (e==0)=true then pure (ForInStep.done (some (dh a b (c.2.2.2.1++(a.extract e c.2.1).reverse) e c.2.2.1),e,c.2.2.1,c.2.2.2.1++(a.extract e c.2.1).reverse,mg,c.2.1-e,c.2.2.2.2.2.2))
   else xY a b mg (c.2.1-e) e c.2.2.1 (c.2.2.2.1++(a.extract e c.2.1).reverse) c.2.2.2.2.2.2
  else xY a b mg (c.2.1-e) c.2.1 c.2.2.1 c.2.2.2.1 c.2.2.2.2.2.2
 |_=>pure (ForInStep.done (some (dh a b c.2.2.2.1 c.2.1 c.2.2.1),c.2.1,c.2.2.1,c.2.2.2.1,mg,c.2.2.2.2.2.1,c.2.2.2.2.2.2))
noncomputable def OI (a b:Array Keyed)(c:H2):SM (ForInStep H2):=
 if c.2.2.2.2.1>1 then do
  Iv (c.2.2.2.2.1-1)
  xZ a b (c.2.2.2.2.1-1) c
 else do
  Iv c.2.2.2.2.1
  xZ a b c.2.2.2.2.1 c
noncomputable def T6 (a b:Array Keyed)(c:H0):SM (ForInStep H0):=do
 let z <-forIn [:a.size+b.size] ((none,c.2.1,c.2.2.1,c.2.2.2.1,0,0):H1) λ_ z=>LJ a b c.2.2.2.2 z
 match z.1 with
 |some r=>pure (ForInStep.done (some r,z.2.1,z.2.2.1,z.2.2.2.1,c.2.2.2.2))
 |none=>do
  liftM (rule "list.sort.gallop")
  let y <-forIn [:a.size+b.size] ((none,z.2.1,z.2.2.1,z.2.2.2.1,c.2.2.2.2+1,z.2.2.2.2.1,z.2.2.2.2.2):H2) λ_ y=>OI a b y
  match y.1 with
  |some r=>pure (ForInStep.done (some r,y.2.1,y.2.2.1,y.2.2.2.1,y.2.2.2.2.1))
  |none=>do
   Iv (y.2.2.2.2.1+1)
   pure (ForInStep.yield (none,y.2.1,y.2.2.1,y.2.2.2.1,y.2.2.2.2.1+1))
theorem mI (a b:Array Keyed):bB a b=(do
  liftM (rule "list.sort.merge-hi")
  let p <-elem' a (a.size-1)
  if (a.size-1==0)=true then pure (dh a b #[p] (a.size-1) b.size)
  else if (b.size==1)=true then pure (fh a b #[p] (a.size-1) b.size)
  else do
   let st <-get;let z <-forIn [:a.size+b.size] ((none,a.size-1,b.size,#[p],gallopOf st):H0) λ_ z=>T6 a b z
   match z.1 with
   |some r=>pure r
   |none=>unsupported "internal:list.sort.merge-bound"):=by
 kernel_rfl
structure Gf (rk:Value->Int)(a b out:Array Keyed)(na nb:Nat):Prop where
 perm:((a.toList.take na++b.toList.take nb)++out.toList.reverse).Perm (a.toList++b.toList)
 asc:out.toList.reverse.Pairwise (Le rk)
 GS:∀x∈out.toList.reverse,∀y∈a.toList.take na++b.toList.take nb,rk y.1<=rk x.1
theorem Nk (xs:Array Keyed)(n:Nat):(xs.extract 0 n).toList=xs.toList.take n:=by k_with"o"=>rw[Jv,Hl];simp
theorem qC (a b out:Array Keyed)(na nb:Nat):(dh a b out na nb).toList=a.toList.take na++b.toList.take nb++out.toList.reverse:=by k_with"o"=>unfold dh;rw[Cr,Cr,Nk,Nk,My]
theorem yB (a b out:Array Keyed)(na nb:Nat):(fh a b out na nb).toList=b.toList.take nb++a.toList.take na++out.toList.reverse:=by k_with"o"=>unfold fh;rw[Cr,Cr,Nk,Nk,My]
theorem Xb {xs:Array Keyed}{i:Nat}{p:Keyed}(h:xs[i]?=some p):xs.toList.take (i+1)=xs.toList.take i++[p]:=by k_with"o"=>rw[Cc,Aw,h];rfl
section
variable {rk:Value->Int}{a b out:Array Keyed}{na nb:Nat}
theorem Tf {xs:Array Keyed}(sx:xs.toList.Pairwise (Le rk)){i n:Nat}{p:Keyed}(hp:xs[i]?=some p)(hn:n<=i+1):∀y∈xs.toList.take n,rk y.1<=rk p.1:=by k_with"o"=>
 intro y hy;obtain⟨j,hj⟩:=Bx hy;have AJ:j<n:=by have:=(Bq.mp hj).1;rw[Av] at this;omega
 rw[Ht AJ,Aw] at hj;exact DE.idx sx (by omega) hj hp
theorem Gf.DH (I:Gf rk a b out (na+1) nb){p:Keyed}(hp:a[na]?=some p)(sa:a.toList.Pairwise (Le rk))(hle:∀y∈b.toList.take nb,rk y.1<=rk p.1):Gf rk a b (out.push p) na nb:=by k_with"o"=>
 have e:=Xb hp;have er:(out.push p).toList.reverse=p::out.toList.reverse:=by rw[Dm,List.reverse_append];rfl
 refine⟨?_,?_,?_⟩
 ·have h:=I.perm;rw[e] at h;rw[er];refine .trans ?_ h;refine Ed.trans ?_;have:(a.toList.take na++[p]++b.toList.take nb++out.toList.reverse)=a.toList.take na++p::(b.toList.take nb++out.toList.reverse):=by simp
  rw[this];refine .trans ?_ Ed.symm;rw[Ax]
 ·rw[er];refine Cy.mpr ⟨λy hy=>?_,I.asc⟩;exact I.GS y hy p (Al _ (by rw[e];exact Aq _ (.head _)))
 ·intro x hx y hy;rw[er] at hx;rcases Ag.mp hx with hx|hx
  ·rw[hx];rcases Ao.mp hy with hy|hy
   ·exact Tf sa hp (Cb _) y hy
   ·exact hle y hy
  ·refine I.GS x hx y ?_;rcases Ao.mp hy with hy|hy
   ·exact Al _ (by rw[e];exact Al _ hy)
   ·exact Aq _ hy
theorem Gf.DG (I:Gf rk a b out na (nb+1)){p:Keyed}(hp:b[nb]?=some p)(sb:b.toList.Pairwise (Le rk))(hle:∀y∈a.toList.take na,rk y.1<=rk p.1):Gf rk a b (out.push p) na nb:=by k_with"o"=>
 have e:=Xb hp;have er:(out.push p).toList.reverse=p::out.toList.reverse:=by rw[Dm,List.reverse_append];rfl
 refine⟨?_,?_,?_⟩
 ·have h:=I.perm;rw[e] at h;rw[er];have:(a.toList.take na++(b.toList.take nb++[p])++out.toList.reverse)=(a.toList.take na++b.toList.take nb)++p::out.toList.reverse:=by simp
  rw[<-this];exact h
 ·rw[er];refine Cy.mpr ⟨λy hy=>?_,I.asc⟩;exact I.GS y hy p (Aq _ (by rw[e];exact Aq _ (.head _)))
 ·intro x hx y hy;rw[er] at hx;rcases Ag.mp hx with hx|hx
  ·rw[hx];rcases Ao.mp hy with hy|hy
   ·exact hle y hy
   ·exact Tf sb hp (Cb _) y hy
  ·refine I.GS x hx y ?_;rcases Ao.mp hy with hy|hy
   ·exact Al _ hy
   ·exact Aq _ (by rw[e];exact Al _ hy)
theorem Qk {xs:Array Keyed}{i j:Nat}{p:Keyed}(h:xs[i]?=some p)(B5:i<j)(out:Array Keyed):out++(xs.extract i j).reverse=(out++(xs.extract (i+1) j).reverse).push p:=by k_with"o"=>
 apply toList_inj;rw[Cr,Dm,Cr,My,My,Ax];congr 1;have e1:(xs.extract i j).toList=p::(xs.extract (i+1) j).toList:=by rw[Jv,Jv,Hl,Hl,Ql h];obtain⟨n,hn⟩:∃n,j-i=n+1:=⟨j-i-1,by omega⟩;rw[hn,List.take_succ_cons,show j-(i+1)=n from by omega]
 rw[e1,Zc]
theorem Gf.HG (I:Gf rk a b out na nb)(sa:a.toList.Pairwise (Le rk)):∀k,k<=na->na<=a.size->(∀i,na-k<=i->i<na->∀p,a[i]?=some p->∀y∈b.toList.take nb,rk y.1<=rk p.1)->Gf rk a b (out++(a.extract (na-k) na).reverse) (na-k) nb
 | 0=>λ_ _ _=>by k_with"o"=>
  have:out++(a.extract (na-0) na).reverse=out:=by apply toList_inj;simp
  rw[this];exact I
 |k+1=>λhk hz h=>by k_with"o"=>have ih:=Gf.HG I sa k (by omega) hz λi h1 h2=>h i (by omega) h2;have hp:a[na-(k+1)]?=some a[na-(k+1)]:=getElem?_pos _ _ (by omega);rw[Qk hp (by omega),show na-(k+1)+1=na-k from by omega];refine Gf.DH ?_ hp sa (h _ (Ah _) (by omega) _ hp);rw[show na-(k+1)+1=na-k from by omega];exact ih
theorem Gf.HF (I:Gf rk a b out na nb)(sb:b.toList.Pairwise (Le rk)):∀k,k<=nb->nb<=b.size->(∀i,nb-k<=i->i<nb->∀p,b[i]?=some p->∀y∈a.toList.take na,rk y.1<=rk p.1)->Gf rk a b (out++(b.extract (nb-k) nb).reverse) na (nb-k)
 | 0=>λ_ _ _=>by k_with"o"=>
  have:out++(b.extract (nb-0) nb).reverse=out:=by apply toList_inj;simp
  rw[this];exact I
 |k+1=>λhk hz h=>by k_with"o"=>have ih:=Gf.HF I sb k (by omega) hz λi h1 h2=>h i (by omega) h2;have hp:b[nb-(k+1)]?=some b[nb-(k+1)]:=getElem?_pos _ _ (by omega);rw[Qk hp (by omega),show nb-(k+1)+1=nb-k from by omega];refine Gf.DG ?_ hp sb (h _ (Ah _) (by omega) _ hp);rw[show nb-(k+1)+1=nb-k from by omega];exact ih
theorem Gf.QS (I:Gf rk a b out 0 nb)(sb:b.toList.Pairwise (Le rk)):Fin rk a b (dh a b out 0 nb):=by k_with"o"=>have hp:=I.perm;have hb:=I.GS;unfold Fin;rw[qC];rw[eU,Er] at hp hb ⊢;exact⟨hp,Bo.mpr ⟨sb.sublist (Qp _ _),I.asc,λx hx y hy=>hb y hy x hx⟩⟩
theorem Gf.ed (I:Gf rk a b out na 0)(sa:a.toList.Pairwise (Le rk)):Fin rk a b (dh a b out na 0):=by k_with"o"=>have hp:=I.perm;have hb:=I.GS;unfold Fin;rw[qC];rw[eU,Au] at hp hb ⊢;exact⟨hp,Bo.mpr ⟨sa.sublist (Qp _ _),I.asc,λx hx y hy=>hb y hy x hx⟩⟩
theorem Gf.fh (I:Gf rk a b out na nb)(sa:a.toList.Pairwise (Le rk))(sb:b.toList.Pairwise (Le rk))(hl:∀x∈b.toList.take nb,∀y∈a.toList,rk x.1<=rk y.1):Fin rk a b (fh a b out na nb):=by k_with"o"=>unfold Fin;rw[yB];refine⟨(En.append_right _ Cz).trans I.perm,Bo.mpr ⟨Bo.mpr ⟨sb.sublist (Qp _ _),sa.sublist (Qp _ _),λx hx y hy=>hl x hx y (Ka hy)⟩,I.asc,λx hx y hy=>I.GS y hy x (Cz.mem_iff.mp hx)⟩⟩
end
end Ts
end
section
namespace Ts
section
variable {U:Program}{w:World}{A:Around}{E:Value->Shared->Prop}{s:Shared}{a₀:Array Keyed}{rk:Value->Int}{kd:SortKind}{a b:Array Keyed}
def U1 (rk:Value->Int)(a b:Array Keyed)(base:Nat)(ret:Option (Array Keyed))(na nb:Nat)(out:Array Keyed):Prop:=
 (∃r,ret=some r/\Fin rk a b r)\/(ret=none/\Gf rk a b out na nb/\0<na/\1<nb/\na+nb+1<=base)
theorem DE.EN (T:DE rk a₀ a b){out:Array Keyed}{na nb:Nat}(I:Gf rk a b out na nb)(h:nb=1):Fin rk a b (fh a b out na nb):=by k_with"o"=>exact(I.fh T.sa T.sb λx hx y hy=>by subst h;have N6:=T.nb;have hb:b[0]?=some b[0]:=getElem?_pos b 0 N6;rw[Xb hb] at hx;rw[eU,Er] at hx;rw[Ae.mp hx];exact T.fst _ hb y hy)
theorem Aa0 (O:C1 U w A s rk kd a₀)(T:DE rk a₀ a b){mg base:Nat}{out:Array Keyed}{na nb ac bc:Nat}{st:SortSt}{Q:ForInStep H1->SortSt->Prop}(hk:kindOf st=kd)(I:Gf rk a b out na nb)(h1:0<na)(h2:1<nb)(za:na<=a.size)(zb:nb<=b.size)(A4:na+nb<=base)
  (hd:∀ret AX AW out ac bc,AX<=na->AW<=nb->U1 rk a b base ret AX AW out->Q (.done (ret,AX,AW,out,ac,bc)) st)
  (hy:∀AX AW out ac bc,AX<=na->AW<=nb->Gf rk a b out AX AW->0<AX->1<AW->AX+AW+1<=na+nb->Q (.yield (none,AX,AW,out,ac,bc)) st):wpS (model U w) A E s (LJ a b mg (none,na,nb,out,ac,bc)) Q st:=by k_with"o"=>
 unfold LJ;dsimp only;refine wpS_bind (Gd (by omega) λp hp=>wpS_bind (Gd (by omega) λq hq=>wpS_bind (iV O hk (T.mb _ (Wc hp)) (T.ma _ (Wc hq)) ?_)));dsimp only;by_cases AJ:rk p.1<rk q.1
 ·rw[if_pos (by simpa using AJ)];refine wpS_bind (Gd (by omega) λq' D9=>?_);rw[hq] at D9;injection D9 with D9;subst D9;have I':Gf rk a b (out.push q) (na-1) nb:=Gf.DH (by rw[show na-1+1=na from by omega];exact I) hq T.sa λy hy=>Dk (Tf T.sb hp (by omega) y hy) (Ga AJ);by_cases he:na-1=0
  ·rw[if_pos (by simpa using he)];refine wpS_pure (hd _ _ _ _ _ _ (by omega) (Ah _) (.inl ⟨_,rfl,?_⟩));rw[he] at I' ⊢;exact I'.QS T.sb
  ·rw[if_neg (by simpa using he)];split
   ·exact wpS_pure (hd _ _ _ _ _ _ (by omega) (Ah _) (.inr ⟨rfl,I',by omega,h2,by omega⟩))
   ·exact wpS_pure (hy _ _ _ _ _ (by omega) (Ah _) I' (by omega) h2 (by omega))
 ·rw[if_neg (by simpa using AJ)];refine wpS_bind (Gd (by omega) λp' D'=>?_);rw[hp] at D';injection D' with D';subst D';have I':Gf rk a b (out.push p) na (nb-1):=Gf.DG (by rw[show nb-1+1=nb from by omega];exact I) hp T.sb λy hy=>Dk (Tf T.sa hq (by omega) y hy) (Hy.mp AJ);by_cases he:nb-1=1
  ·rw[if_pos (by simpa using he)];exact wpS_pure (hd _ _ _ _ _ _ (Ah _) (by omega) (.inl ⟨_,rfl,T.EN I' he⟩))
  ·rw[if_neg (by simpa using he)];split
   ·exact wpS_pure (hd _ _ _ _ _ _ (Ah _) (by omega) (.inr ⟨rfl,I',h1,by omega,by omega⟩))
   ·exact wpS_pure (hy _ _ _ _ _ (Ah _) (by omega) I' h1 (by omega) (by omega))
theorem pU (T:DE rk a₀ a b){mg base k k1:Nat}{out:Array Keyed}{na nb KU KR:Nat}{st:SortSt}{Q:ForInStep H2->SortSt->Prop}{q:Keyed}(I:Gf rk a b out na nb)(h1:0<na)(h2:1<nb)(za:na<=KU)(zb:nb<=KR)(zs:na<=a.size)(A4:na+nb<=base)(hq:a[na-1]?=some q)(hle:∀y∈b.toList.take nb,rk y.1<=rk q.1)
  (hd:∀ret AX AW out mg k k1,AX<=KU->AW<=KR->U1 rk a b base ret AX AW out->Q (.done (ret,AX,AW,out,mg,k,k1)) st)
  (hy:∀AX AW out mg k k1,AX<=KU->AW<=KR->Gf rk a b out AX AW->0<AX->1<AW->AX+AW+1<=base->Q (.yield (none,AX,AW,out,mg,k,k1)) st):wpS (model U w) A E s (xX a b mg k k1 na nb out) Q st:=by k_with"o"=>
 unfold xX;refine wpS_bind (Gd (by omega) λq' D9=>?_);rw[hq] at D9;injection D9 with D9;subst D9;have I':Gf rk a b (out.push q) (na-1) nb:=Gf.DH (by rw[show na-1+1=na from by omega];exact I) hq T.sa hle;by_cases he:na-1=0
 ·rw[if_pos (by simpa using he)];refine wpS_pure (hd _ _ _ _ _ _ _ (by omega) zb (.inl ⟨_,rfl,?_⟩));rw[he] at I' ⊢;exact I'.QS T.sb
 ·rw[if_neg (by simpa using he)];split
  ·exact wpS_pure (hd _ _ _ _ _ _ _ (by omega) zb (.inr ⟨rfl,I',by omega,h2,by omega⟩))
  ·exact wpS_pure (hy _ _ _ _ _ _ (by omega) zb I' (by omega) h2 (by omega))
theorem pV (O:C1 U w A s rk kd a₀)(T:DE rk a₀ a b){mg base k bc:Nat}{out:Array Keyed}{na nb KU KR:Nat}{st:SortSt}{Q:ForInStep H2->SortSt->Prop}{p:Keyed}(hk:kindOf st=kd)(I:Gf rk a b out na nb)(h1:0<na)(h2:1<nb)(za:na<=KU)(zb:nb<=KR)(zs:na<=a.size)(KC:nb<=b.size)(A4:na+nb<=base)(hp:b[nb-1]?=some p)(hle:∀y∈a.toList.take na,rk y.1<=rk p.1)
  (hd:∀ret AX AW out mg k k1,AX<=KU->AW<=KR->U1 rk a b base ret AX AW out->Q (.done (ret,AX,AW,out,mg,k,k1)) st)
  (hy:∀AX AW out mg k k1,AX<=KU->AW<=KR->Gf rk a b out AX AW->0<AX->1<AW->AX+AW+1<=base->Q (.yield (none,AX,AW,out,mg,k,k1)) st):wpS (model U w) A E s (xY a b mg k na nb out bc) Q st:=by k_with"o"=>
 unfold xY;refine wpS_bind (Gd (by omega) λp' D'=>?_);rw[hp] at D';injection D' with D';subst D';have I':Gf rk a b (out.push p) na (nb-1):=Gf.DG (by rw[show nb-1+1=nb from by omega];exact I) hp T.sb hle;by_cases he:nb-1=1
 ·rw[if_pos (by simpa using he)];exact wpS_pure (hd _ _ _ _ _ _ _ za (by omega) (.inl ⟨_,rfl,T.EN I' he⟩))
 ·rw[if_neg (by simpa using he)];refine wpS_bind (Gd (by omega) λq hq=>?_);refine wpS_bind (Nr (rk:=rk) (a₀:=a₀) (kd:=kd) O hk (T.ma _ (Wc hq)) (λi=>b.getD (0+i) default) (λi hi=>?_) (by omega) (λi j B5 hj=>?_) λe OQ c1 c2=>?_)
  ·have:b[0+i]?=some b[0+i]:=getElem?_pos _ _ (by omega);rw[Ak,this];exact⟨rfl,T.mb _ (Wc this)⟩
  ·have e1:b[0+i]?=some b[0+i]:=getElem?_pos _ _ (by omega);have e2:b[0+j]?=some b[0+j]:=getElem?_pos _ _ (by omega);rw[Ak,Ak,e1,e2];exact DE.idx T.sb (by omega) e1 e2
  ·dsimp only;have run:∀i,e<=i->i<nb-1->∀p,b[i]?=some p->∀y∈a.toList.take na,rk y.1<=rk p.1:=λi h3 h4 p IZ y hy=>by
    have:=c2 i h3 h4;rw[Ak,Dj,IZ] at this;have h5:¬rk p.1<rk q.1:=by simpa[bt] using this
    exact Dk (Tf T.sa hq (by omega) y hy) (Hy.mp h5)
   have rest:∀y∈b.toList.take e,rk y.1<=rk q.1:=λy hy=>by
    obtain⟨j,hj⟩:=Bx hy;have AJ:j<e:=by have:=(Bq.mp hj).1;rw[Av] at this;omega
    rw[Ht AJ,Aw] at hj;have:=c1 j AJ;rw[Ak,Dj,hj] at this;have h5:rk y.1<rk q.1:=by simpa[bt] using this
    exact Ga h5
   have I2:=I'.HF T.sb (nb-1-e) (by omega) (by omega) λi h3 h4=>run i (by omega) h4;rw[show nb-1-(nb-1-e)=e from by omega] at I2;by_cases EW:nb-1-e>0
   ·rw[if_pos EW];by_cases FF:e=1
    ·rw[if_pos (by simpa using FF)];exact wpS_pure (hd _ _ _ _ _ _ _ za (by omega) (.inl ⟨_,rfl,T.EN I2 FF⟩))
    ·rw[if_neg (by simpa using FF)];by_cases MT:e=0
     ·rw[if_pos (by simpa using MT)];refine wpS_pure (hd _ _ _ _ _ _ _ za (by omega) (.inl ⟨_,rfl,?_⟩));subst MT;exact I2.ed T.sa
     ·rw[if_neg (by simpa using MT)];exact pU T I2 h1 (by omega) za (by omega) zs (by omega) hq rest hd hy
   ·rw[if_neg EW];have UG:e=nb-1:=by omega
    rw[UG] at rest;exact pU T I' h1 (by omega) za (by omega) zs (by omega) hq rest hd hy
theorem pW (O:C1 U w A s rk kd a₀)(T:DE rk a₀ a b){mg base ac bc RL:Nat}{out:Array Keyed}{na nb:Nat}{st:SortSt}{Q:ForInStep H2->SortSt->Prop}(hk:kindOf st=kd)(I:Gf rk a b out na nb)(h1:0<na)(h2:1<nb)(zs:na<=a.size)(KC:nb<=b.size)(A4:na+nb<=base)
  (hd:∀ret AX AW out mg k k1,AX<=na->AW<=nb->U1 rk a b base ret AX AW out->Q (.done (ret,AX,AW,out,mg,k,k1)) st)
  (hy:∀AX AW out mg k k1,AX<=na->AW<=nb->Gf rk a b out AX AW->0<AX->1<AW->AX+AW+1<=base->Q (.yield (none,AX,AW,out,mg,k,k1)) st):wpS (model U w) A E s (xZ a b mg (none,na,nb,out,RL,ac,bc)) Q st:=by k_with"o"=>
 unfold xZ;dsimp only;refine wpS_bind (Gd (by omega) λp hp=>?_);refine wpS_bind (Nr (rk:=rk) (a₀:=a₀) (kd:=kd) O hk (T.mb _ (Wc hp)) (λi=>a.getD (0+i) default) (λi hi=>?_) (by omega) (λi j B5 hj=>?_) λe OQ c1 c2=>?_)
 ·have:a[0+i]?=some a[0+i]:=getElem?_pos _ _ (by omega);rw[Ak,this];exact⟨rfl,T.ma _ (Wc this)⟩
 ·have e1:a[0+i]?=some a[0+i]:=getElem?_pos _ _ (by omega);have e2:a[0+j]?=some a[0+j]:=getElem?_pos _ _ (by omega);rw[Ak,Ak,e1,e2];exact DE.idx T.sa (by omega) e1 e2
 ·dsimp only;have run:∀i,e<=i->i<na->∀x,a[i]?=some x->∀y∈b.toList.take nb,rk y.1<=rk x.1:=λi h3 h4 x hx y hy=>by
   have:=c2 i h3 h4;rw[Ak,Dj,hx] at this;have h5:rk p.1<rk x.1:=by simpa[bt] using this
   exact Dk (Tf T.sb hp (by omega) y hy) (Ga h5)
  have rest:∀y∈a.toList.take e,rk y.1<=rk p.1:=λy hy=>by
   obtain⟨j,hj⟩:=Bx hy;have AJ:j<e:=by have:=(Bq.mp hj).1;rw[Av] at this;omega
   rw[Ht AJ,Aw] at hj;have:=c1 j AJ;rw[Ak,Dj,hj] at this;have h5:¬rk p.1<rk y.1:=by simpa[bt] using this
   exact Hy.mp h5
  have I2:=I.HG T.sa (na-e) (by omega) zs λi h3 h4=>run i (by omega) h4;rw[show na-(na-e)=e from by omega] at I2;by_cases EW:na-e>0
  ·rw[if_pos EW];by_cases FF:e=0
   ·rw[if_pos (by simpa using FF)];refine wpS_pure (hd _ _ _ _ _ _ _ (by omega) (Ah _) (.inl ⟨_,rfl,?_⟩));subst FF;exact I2.QS T.sb
   ·rw[if_neg (by simpa using FF)];exact pV O T hk I2 (by omega) h2 (by omega) (Ah _) (by omega) KC (by omega) hp rest hd hy
  ·rw[if_neg EW];have UG:e=na:=by omega
   rw[UG] at rest;exact pV O T hk I h1 h2 (Ah _) (Ah _) zs KC A4 hp rest hd hy
theorem Aaz (O:C1 U w A s rk kd a₀)(T:DE rk a₀ a b){mg base ac bc:Nat}{out:Array Keyed}{na nb:Nat}{st:SortSt}{Q:ForInStep H2->SortSt->Prop}(hk:kindOf st=kd)(I:Gf rk a b out na nb)(h1:0<na)(h2:1<nb)(zs:na<=a.size)(KC:nb<=b.size)(A4:na+nb<=base)
  (hd:∀AA ret AX AW out mg k k1,Eqv st AA->AX<=na->AW<=nb->U1 rk a b base ret AX AW out->Q (.done (ret,AX,AW,out,mg,k,k1)) AA)
  (hy:∀AA AX AW out mg k k1,Eqv st AA->AX<=na->AW<=nb->Gf rk a b out AX AW->0<AX->1<AW->AX+AW+1<=base->Q (.yield (none,AX,AW,out,mg,k,k1)) AA):wpS (model U w) A E s (OI a b (none,na,nb,out,mg,ac,bc)) Q st:=by k_with"o"=>
 unfold OI;dsimp only;split
 ·exact wpS_bind (Jo λAA e=>pW O T (e.kind.trans hk) I h1 h2 zs KC A4 (λr i j o m k k1 l1 l2 t=>hd AA r i j o m k k1 e l1 l2 t) λi j o m k k1 l1 l2 q1 q2 q3 q4=>hy AA i j o m k k1 e l1 l2 q1 q2 q3 q4)
 ·exact wpS_bind (Jo λAA e=>pW O T (e.kind.trans hk) I h1 h2 zs KC A4 (λr i j o m k k1 l1 l2 t=>hd AA r i j o m k k1 e l1 l2 t) λi j o m k k1 l1 l2 q1 q2 q3 q4=>hy AA i j o m k k1 e l1 l2 q1 q2 q3 q4)
theorem Aa1 (O:C1 U w A s rk kd a₀)(T:DE rk a₀ a b){mg base:Nat}{out:Array Keyed}{na nb:Nat}{st:SortSt}{Q:ForInStep H0->SortSt->Prop}(hk:kindOf st=kd)(I:Gf rk a b out na nb)(h1:0<na)(h2:1<nb)(zs:na<=a.size)(KC:nb<=b.size)(A4:na+nb<=base)
  (hd:∀AA r na nb out mg,Eqv st AA->Fin rk a b r->Q (.done (some r,na,nb,out,mg)) AA)
  (hy:∀AA AX AW out mg,Eqv st AA->AX<=na->AW<=nb->Gf rk a b out AX AW->0<AX->1<AW->AX+AW+1<=base->Q (.yield (none,AX,AW,out,mg)) AA):wpS (model U w) A E s (T6 a b (none,na,nb,out,mg)) Q st:=by k_with"o"=>
 unfold T6;dsimp only;refine wpS_bind (wpS_mono (wpS_forRange (I:=λx c AA=>Eqv st AA/\∃AX AW out ac bc,c=(none,AX,AW,out,ac,bc)/\AX<=na/\AW<=nb/\Gf rk a b out AX AW/\0<AX/\1<AW/\AX+AW+x<=na+nb)
  (Q:=λc AA=>Eqv st AA/\∃ret AX AW out ac bc,c=(ret,AX,AW,out,ac,bc)/\AX<=na/\AW<=nb/\U1 rk a b (na+nb) ret AX AW out) ?step ?fin ⟨.refl _,na,nb,out,0,0,rfl,Ah _,Ah _,I,h1,h2,by omega⟩) ?post)
 case fin=>rintro c AA ⟨e,AX,AW,out,ac,bc,rfl,l1,l2,q1,q2,q3,q4⟩;omega
 case step=>rintro x c AA _ hx ⟨e,AX,AW,out,ac,bc,rfl,l1,l2,q1,q2,q3,q4⟩;exact Aa0 O T (base:=na+nb) (e.kind.trans hk) q1 q2 q3 (by omega) (by omega) (by omega) (λret i j o ac bc m1 m2 t=>⟨e,ret,i,j,o,ac,bc,rfl,by omega,by omega,t⟩) λi j o ac bc m1 m2 r1 r2 r3 r4=>⟨e,i,j,o,ac,bc,rfl,by omega,by omega,r1,r2,r3,by omega⟩
 case post=>
  rintro c AA ⟨e,ret,AX,AW,out,ac,bc,rfl,l1,l2,t⟩;dsimp only;rcases t with⟨r,rfl,hr⟩|⟨rfl,q1,q2,q3,q4⟩
  ·exact wpS_pure (hd AA _ _ _ _ _ e hr)
  ·dsimp only;refine wpS_bind (wpS_lift (wpAny_rule ⟨rfl,?_⟩));refine wpS_bind (wpS_mono (wpS_forRange (I:=λx c BB=>Eqv st BB/\∃i j out mg k k1,c=(none,i,j,out,mg,k,k1)/\i<=na/\j<=nb/\Gf rk a b out i j/\0<i/\1<j/\i+j+1+x<=na+nb)
    (Q:=λc BB=>Eqv st BB/\∃ret i j out mg k k1,c=(ret,i,j,out,mg,k,k1)/\i<=na/\j<=nb/\U1 rk a b (na+nb) ret i j out) ?step2 ?fin2 ⟨e,AX,AW,out,_,ac,bc,rfl,l1,l2,q1,q2,q3,by omega⟩) ?post2)
   case fin2=>rintro c AA ⟨e,i,j,out,mg,k,k1,rfl,m1,m2,q1,q2,q3,q4⟩;omega
   case step2=>
    rintro x c AA _ hx ⟨e,i,j,out,mg,k,k1,rfl,m1,m2,q1,q2,q3,q4⟩;refine Aaz O T (base:=i+j) (e.kind.trans hk) q1 q2 q3 (by omega) (by omega) (Ah _) (λBX ret i' j' o mg k k1 e2 n1 n2 t=>⟨e.trans e2,ret,i',j',o,mg,k,k1,rfl,by omega,by omega,?_⟩) λBX i' j' o mg k k1 e2 n1 n2 r1 r2 r3 r4=>⟨e.trans e2,i',j',o,mg,k,k1,rfl,by omega,by omega,r1,r2,r3,by omega⟩;rcases t with t|⟨t1,t2,t3,t4,t5⟩
    ·exact .inl t
    ·exact .inr ⟨t1,t2,t3,t4,by omega⟩
   case post2=>
    rintro c AA ⟨e,ret,i,j,out,mg,k,k1,rfl,m1,m2,t⟩;dsimp only;rcases t with⟨r,rfl,hr⟩|⟨rfl,q1,q2,q3,q4⟩
    ·exact wpS_pure (hd AA _ _ _ _ _ e hr)
    ·exact wpS_bind (Jo λBX e2=>wpS_pure (hy BX _ _ _ _ (e.trans e2) m1 m2 q1 q2 q3 (by omega)))
theorem mJ (O:C1 U w A s rk kd a₀)(T:DE rk a₀ a b){st:SortSt}{Q:Array Keyed->SortSt->Prop}(hk:kindOf st=kd)(h:∀r AA,Fin rk a b r->Eqv st AA->Q r AA):wpS (model U w) A E s (bB a b) Q st:=by k_with"o"=>
 rw[mI];have na:=T.na;have nb:=T.nb;refine wpS_bind (wpS_lift (wpAny_rule ⟨rfl,?_⟩));refine wpS_bind (Gd (by omega) λp hp=>?_);have ZJ:a.toList.take a.size=a.toList:=Dq (by rw[Bf];exact Ah _);have ZI:b.toList.take b.size=b.toList:=Dq (by rw[Bf];exact Ah _);have I0:Gf rk a b #[] a.size b.size:=⟨by rw[ZJ,ZI];simp,gW.nil,λx hx=>(nomatch hx)⟩;have I1:Gf rk a b #[p] (a.size-1) b.size:=Gf.DH (out:=#[]) (by rw[show a.size-1+1=a.size from by omega];exact I0) hp T.sa λy hy=>T.lst y (Ka hy) p (by rw[Ql hp];exact .head _);by_cases h1:a.size-1=0
 ·rw[if_pos (by simpa using h1)];rw[h1] at I1 ⊢;exact wpS_pure (h _ _ (I1.QS T.sb) (.refl _))
 ·rw[if_neg (by simpa using h1)];by_cases h2:b.size=1
  ·rw[if_pos (by simpa using h2)];exact wpS_pure (h _ _ (T.EN I1 h2) (.refl _))
  ·rw[if_neg (by simpa using h2)];refine wpS_bind (wpS_get ?_);refine wpS_bind (wpS_mono (wpS_forRange (I:=λx c AA=>Eqv st AA/\∃i j out mg,c=(none,i,j,out,mg)/\i<=a.size/\j<=b.size/\Gf rk a b out i j/\0<i/\1<j/\i+j+x<=a.size+b.size)
    (Q:=λc AA=>Eqv st AA/\∃r i j out mg,c=(some r,i,j,out,mg)/\Fin rk a b r) ?step ?fin ⟨.refl _,_,_,_,_,rfl,by omega,Ah _,I1,by omega,by omega,by omega⟩) ?post)
   case fin=>rintro c AA ⟨e,i,j,out,mg,rfl,l1,l2,q1,q2,q3,q4⟩;omega
   case step=>rintro x c AA _ hx ⟨e,i,j,out,mg,rfl,l1,l2,q1,q2,q3,q4⟩;exact Aa1 O T (base:=i+j) (e.kind.trans hk) q1 q2 q3 l1 l2 (Ah _) (λBX r i j o mg e2 t=>⟨e.trans e2,r,i,j,o,mg,rfl,t⟩) λBX i' j' o mg e2 n1 n2 r1 r2 r3 r4=>⟨e.trans e2,i',j',o,mg,rfl,by omega,by omega,r1,r2,r3,by omega⟩
   case post=>rintro c AA ⟨e,r,i,j,out,mg,rfl,t⟩;exact wpS_pure (h r AA t e)
end
end Ts
end
section
namespace Ts
noncomputable def lay (off:Nat)(r:Array Keyed)(xs:Array Keyed):Array Keyed:=r.toList.zipIdx.foldl (λa x=>a.setIfInBounds (off+x.2) x.1) xs
noncomputable def Vz (off:Nat)(r:Array Keyed):SM Bool:=do
 modify λs=>setArr s (lay off r (arrOf s))
 let e <-get
 pure (failedOf e).isNone
theorem mK (i:Nat):mergeAt' i=(do
  let s <-get
  match (pendingOf s)[i]?,(pendingOf s)[i+1]? with
  |some (sa,na,pw),some (sb,nb,_)=>do
   set (setPending s (((pendingOf s).setIfInBounds i (sa,na+nb,pw)).eraseIdxIfInBounds (i+1)))
   let key <-elem' (arrOf s) sb;let t <-Pc false key (arrOf s) sa na 0
   match t with
   |some k=>
    if (na-k==0)=true then pure true
    else do
     let FZ <-elem' (arrOf s) (sa+k+(na-k)-1);let t2 <-Pc true FZ (arrOf s) sb nb (nb-1)
     match t2 with
     |some m=>
      if (m==0)=true then pure true
      else if na-k<=m then do
       let r <-bA ((arrOf s).extract (sa+k) sb) ((arrOf s).extract sb (sb+m))
       Vz (sa+k) r
      else do
       let r <-bB ((arrOf s).extract (sa+k) sb) ((arrOf s).extract sb (sb+m))
       Vz (sa+k) r
     |_=>pure false
   |_=>pure false
  |_,_=>unsupported "internal:list.sort.pending"):=by k_with"o"=>
 kernel_rfl
theorem Ym:∀(l:List Keyed) (n off:Nat) (xs:Array Keyed),off+n+l.length<=xs.size->∀t:Nat,
  ((l.zipIdx n).foldl (λa x=>a.setIfInBounds (off+x.2) x.1) xs)[t]?=if off+n<=t/\t<off+n+l.length then l[t-(off+n)]? else xs[t]?
 |[]=>λn off xs h t=>by k_with"o"=>rw[if_neg (by simp only[Eb];omega)];rfl
 |p::l=>λn off xs h t=>by k_with"o"=>
  rw[List.zipIdx_cons,Ec];rw[Ym l (n+1) off _ (by rw[Array.size_setIfInBounds];simp only[An] at h;omega) t];simp only[An] at h ⊢;by_cases h1:off+(n+1)<=t/\t<off+(n+1)+l.length
  ·rw[if_pos h1,if_pos (by omega),show t-(off+n)=(t-(off+(n+1)))+1 from by omega,lC]
  ·rw[if_neg h1];by_cases h2:t=off+n
   ·subst h2;rw[if_pos (by omega),Mk,Array.getElem?_setIfInBounds_self_of_lt (by omega)];rfl
   ·rw[if_neg (by omega),Array.getElem?_setIfInBounds_ne (by omega)]
theorem fR {r xs:Array Keyed}{off:Nat}(h:off+r.size<=xs.size)(t:Nat):(lay off r xs)[t]?=if off<=t/\t<off+r.size then r[t-off]? else xs[t]?:=by k_with"o"=>have:=Ym r.toList 0 off xs (by rw[Bf];omega) t;unfold lay;rw[this,Bf,Nat.add_zero,Aw]
theorem uC {r xs:Array Keyed}{off:Nat}(h:off+r.size<=xs.size):(lay off r xs).toList=xs.toList.take off++r.toList++xs.toList.drop (off+r.size):=by k_with"o"=>
 apply List.ext_getElem?;intro t;rw[Aw,fR h,Ax];have hl:(xs.toList.take off).length=off:=by rw[Av,Bf];omega
 by_cases h1:t<off
 ·rw[if_neg (by omega),gU (by omega),Ht h1,Aw]
 ·rw[Pj (by omega),hl];by_cases h2:t<off+r.size
  ·rw[if_pos (by omega),gU (by rw[Bf];omega),Aw]
  ·rw[if_neg (by omega),Pj (by rw[Bf];omega),Lg,Bf,Aw];congr 1;omega
section
variable {U:Program}{w:World}{A:Around}{E:Value->Shared->Prop}{s:Shared}{a₀:Array Keyed}{rk:Value->Int}{kd:SortKind}
theorem Aal {st BX:SortSt}{Q:PUnit->SortSt->Prop}(h:Q ⟨⟩ BX):wpS (model U w) A E s (set BX:SM PUnit) Q st:=by k_with"o"=>unfold wpS;rw[StateT.run_set];exact wpAny_pure ⟨rfl,h⟩
theorem tG {xs:Array Keyed}{i j m:Nat}(B5:i<=j)(hj:j+m<=xs.size):(xs.extract i j).toList++(xs.extract j (j+m)).toList=(xs.toList.drop i).take (j-i+m):=by k_with"o"=>rw[Jr,show j=i+(j-i) from by omega,Jr,show i+(j-i)-i+m=(j-i)+m from by omega,List.take_add,eV]
theorem Gl {xs:Array Keyed}{i j t:Nat}(hj:j<=xs.size)(ht:t<j-i):(xs.extract i j)[t]?=xs[i+t]?:=by k_with"o"=>rw[Array.getElem?_extract,if_pos (by omega)]
theorem Yt {xs:Array Keyed}{i j lo hi:Nat}(h:B' rk xs lo hi)(h1:lo<=i)(h2:j<=hi)(hs:j<=xs.size):(xs.extract i j).toList.Pairwise (Le rk):=by k_with"o"=>rw[Ko];intro u v hu hv gh;rw[Bf,Cu] at hu hv;have e1:(xs.extract i j)[u]?=xs[i+u]?:=Gl hs (by omega);have e2:(xs.extract i j)[v]?=xs[i+v]?:=Gl hs (by omega);have:=h (i+u) (i+v) (by omega) (by omega) (by omega);rw[<-K_congr e1,<-K_congr e2,Pz (p:=(xs.extract i j)[u]'(by rw[Cu];omega)) (getElem?_pos _ _ _),Pz (p:=(xs.extract i j)[v]'(by rw[Cu];omega)) (getElem?_pos _ _ _)] at this;exact this
theorem mL (O:C1 U w A s rk kd a₀){st:SortSt}{i sa na nb pw YX:Nat}{Q:Bool->SortSt->Prop}(hp:(arrOf st).Perm a₀)(hk:kindOf st=kd)(hf:failedOf st=none)
  (p1:(pendingOf st)[i]?=some (sa,na,pw)) (p2:(pendingOf st)[i+1]?=some (sa+na,nb,YX)) (n1:0<na) (n2:0<nb) (hz:sa+na+nb<=a₀.size) (r1:B' rk (arrOf st) sa (sa+na)) (r2:B' rk (arrOf st) (sa+na) (sa+na+nb))
  (h:∀AA,(arrOf AA).Perm a₀->kindOf AA=kd->failedOf AA=none->pendingOf AA=((pendingOf st).setIfInBounds i (sa,na+nb,pw)).eraseIdxIfInBounds (i+1)->B' rk (arrOf AA) sa (sa+(na+nb))->
   (∀k,k<sa\/sa+na+nb<=k->K rk (arrOf AA) k=K rk (arrOf st) k)->Q true AA):wpS (model U w) A E s (mergeAt' i) Q st:=by k_with"o"=>
 rw[mK];refine wpS_bind (wpS_get ?_);rw[p1,p2];dsimp only;have BJ:(arrOf st).size=a₀.size:=hp.size_eq;have mem:∀{j:Nat} {p:Keyed},(arrOf st)[j]?=some p->p∈a₀.toList:=λe=>(Hc.mp hp).mem_iff.mp (Wc e);refine wpS_bind (Aal ?_);have glue:∀{xs:Array Keyed},(∀i j,sa<=i->i<sa+na->sa+na<=j->j<sa+na+nb->K rk (arrOf st) i<=K rk (arrOf st) j)->B' rk (arrOf st) sa (sa+(na+nb)):=λ{xs} hc i j h1 B5 hj=>by
  by_cases h2:j<sa+na
  ·exact r1 i j h1 B5 h2
  ·by_cases h3:i<sa+na
   ·exact hc i j h1 h3 (by omega) (by omega)
   ·exact r2 i j (by omega) B5 (by omega)
 refine wpS_bind (Gd (by omega) λkey BR=>?_);refine wpS_bind (Nr (rk:=rk) (a₀:=a₀) (kd:=kd) O hk (mem BR) (λi=>(arrOf st).getD (sa+i) default) (λi hi=>?_) n1 (λi j B5 hj=>?_) λk DZ c1 c2=>?_)
 ·have:(arrOf st)[sa+i]?=some ((arrOf st)[sa+i]'(by omega)):=getElem?_pos _ _ _;rw[Ak,this];exact⟨rfl,mem this⟩
 ·have e1:(arrOf st)[sa+i]?=some ((arrOf st)[sa+i]'(by omega)):=getElem?_pos _ _ _;have e2:(arrOf st)[sa+j]?=some ((arrOf st)[sa+j]'(by omega)):=getElem?_pos _ _ _;have:=r1 (sa+i) (sa+j) (by omega) (by omega) (by omega);rw[Pz e1,Pz e2] at this;rw[Ak,Ak,e1,e2];exact this
 ·dsimp only;have kk:K rk (arrOf st) (sa+na)=rk key.1:=Pz BR;have low:∀j,sa<=j->j<sa+k->K rk (arrOf st) j<=rk key.1:=λj h1 h2=>by
   have e1:(arrOf st)[j]?=some ((arrOf st)[j]'(by omega)):=getElem?_pos _ _ _;have:=c1 (j-sa) (by omega);rw[Ak,show sa+(j-sa)=j from by omega,e1] at this;rw[Pz e1];have h5:¬rk key.1<rk ((arrOf st)[j]'(by omega)).1:=by simpa[bt] using this
   exact Hy.mp h5
  have high:∀j,sa+k<=j->j<sa+na->rk key.1<K rk (arrOf st) j:=λj h1 h2=>by have e1:(arrOf st)[j]?=some ((arrOf st)[j]'(by omega)):=getElem?_pos _ _ _;have:=c2 (j-sa) (by omega) (by omega);rw[Ak,show sa+(j-sa)=j from by omega,e1] at this;rw[Pz e1];simpa[bt] using this
  by_cases QJ:na-k=0
  ·rw[if_pos (by simpa using QJ)];refine wpS_pure (h _ hp hk hf rfl (glue (xs:=#[]) λi j h1 h2 h3 h4=>?_) λ_ _=>rfl);exact Dk (low i h1 (by omega)) (by rw[<-kk];exact r2 _ _ (Ah _) h3 h4)
  ·rw[if_neg (by simpa using QJ)];rw[show sa+k+(na-k)-1=sa+na-1 from by omega];refine wpS_bind (Gd (by omega) λFZ H7=>?_);have P8:K rk (arrOf st) (sa+na-1)=rk FZ.1:=Pz H7;refine wpS_bind (Nr (rk:=rk) (a₀:=a₀) (kd:=kd) O hk (mem H7) (λi=>(arrOf st).getD (sa+na+i) default) (λi hi=>?_) (by omega) (λi j B5 hj=>?_) λm MR d1 d2=>?_)
   ·have:(arrOf st)[sa+na+i]?=some ((arrOf st)[sa+na+i]'(by omega)):=getElem?_pos _ _ _;rw[Ak,this];exact⟨rfl,mem this⟩
   ·have e1:(arrOf st)[sa+na+i]?=some ((arrOf st)[sa+na+i]'(by omega)):=getElem?_pos _ _ _;have e2:(arrOf st)[sa+na+j]?=some ((arrOf st)[sa+na+j]'(by omega)):=getElem?_pos _ _ _;have:=r2 (sa+na+i) (sa+na+j) (by omega) (by omega) (by omega);rw[Pz e1,Pz e2] at this;rw[Ak,Ak,e1,e2];exact this
   ·dsimp only;have U9:∀j,sa+na<=j->j<sa+na+m->K rk (arrOf st) j<rk FZ.1:=λj h1 h2=>by have e1:(arrOf st)[j]?=some ((arrOf st)[j]'(by omega)):=getElem?_pos _ _ _;have:=d1 (j-(sa+na)) (by omega);rw[Ak,show sa+na+(j-(sa+na))=j from by omega,e1] at this;rw[Pz e1];simpa[bt] using this
    have J5:∀j,sa+na+m<=j->j<sa+na+nb->rk FZ.1<=K rk (arrOf st) j:=λj h1 h2=>by
     have e1:(arrOf st)[j]?=some ((arrOf st)[j]'(by omega)):=getElem?_pos _ _ _;have:=d2 (j-(sa+na)) (by omega) (by omega);rw[Ak,show sa+na+(j-(sa+na))=j from by omega,e1] at this;rw[Pz e1];have h5:¬rk ((arrOf st)[j]'(by omega)).1<rk FZ.1:=by simpa[bt] using this
     exact Hy.mp h5
    by_cases IJ:m=0
    ·rw[if_pos (by simpa using IJ)];refine wpS_pure (h _ hp hk hf rfl (glue (xs:=#[]) λi j h1 h2 h3 h4=>?_) λ_ _=>rfl);exact Dk (r1 i (sa+na-1) h1 (by omega) (by omega)) (by rw[P8];exact J5 j (by omega) h4)
    ·rw[if_neg (by simpa using IJ)];have T:DE rk a₀ ((arrOf st).extract (sa+k) (sa+na)) ((arrOf st).extract (sa+na) (sa+na+m)):=by
      refine⟨λx hx=>?_,λx hx=>?_,Yt r1 (by omega) (Ah _) (by omega),Yt r2 (Ah _) (by omega) (by omega),by rw[Cu];omega,by rw[Cu];omega,λp QF y hy=>?_,λx hx y hy=>?_⟩
      ·obtain⟨t,ht⟩:=Bx hx;rw[Aw] at ht;have AJ:t<sa+na-(sa+k):=by have:=(Cx.mp ht).1;rw[Cu] at this;omega
       rw[Gl (by omega) AJ] at ht;exact mem ht
      ·obtain⟨t,ht⟩:=Bx hx;rw[Aw] at ht;have AJ:t<sa+na+m-(sa+na):=by have:=(Cx.mp ht).1;rw[Cu] at this;omega
       rw[Gl (by omega) AJ] at ht;exact mem ht
      ·rw[Gl (by omega) (by omega),Nat.add_zero,BR] at QF;injection QF with QF;subst QF;obtain⟨t,ht⟩:=Bx hy;rw[Aw] at ht;have AJ:t<sa+na-(sa+k):=by have:=(Cx.mp ht).1;rw[Cu] at this;omega
       rw[Gl (by omega) AJ] at ht;have:=high (sa+k+t) (by omega) (by omega);rw[Pz ht] at this;exact Ga this
      ·obtain⟨t,ht⟩:=Bx hx;rw[Aw] at ht;have AJ:t<sa+na+m-(sa+na):=by have:=(Cx.mp ht).1;rw[Cu] at this;omega
       rw[Gl (by omega) AJ] at ht;have h6:=U9 (sa+na+t) (by omega) (by omega);rw[Pz ht] at h6;have hsz2:((arrOf st).extract (sa+k) (sa+na)).size=na-k:=by rw[Cu];omega
       have e7:((arrOf st).extract (sa+k) (sa+na))[na-k-1]?=some FZ:=by rw[Gl (by omega) (by omega),show sa+k+(na-k-1)=sa+na-1 from by omega];exact H7
       rw[hsz2,Ql e7,Im (by rw[Bf];omega)] at hy;rw[Ae.mp hy];exact Ga h6
     have fin:∀r AA,Fin rk ((arrOf st).extract (sa+k) (sa+na)) ((arrOf st).extract (sa+na) (sa+na+m)) r->Eqv (setPending st (((pendingOf st).setIfInBounds i (sa,na+nb,pw)).eraseIdxIfInBounds (i+1))) AA->wpS (model U w) A E s (Vz (sa+k) r) Q AA:=by
      intro r AA hr e;have EE:r.size=na-k+m:=by have:=hr.1.length_eq;rw[Bf,Ab,Bf,Bf,Cu,Cu] at this;omega
      have L5:arrOf AA=arrOf st:=e.arr;unfold Vz;refine wpS_bind (wpS_modify (wpS_bind (wpS_get ?_)));have ef:failedOf AA=none:=e.failed.trans hf;show wpS _ _ _ _ (pure (failedOf AA).isNone) _ _;rw[ef];have H4:sa+k+r.size<=(arrOf st).size:=by omega
      have ND:(lay (sa+k) r (arrOf st)).Perm a₀:=by
       refine Array.Perm.trans ?_ hp;rw[Hc,uC H4];have e1:(arrOf st).toList=(arrOf st).toList.take (sa+k)++((arrOf st).toList.drop (sa+k)).take (sa+na-(sa+k)+m)++(arrOf st).toList.drop (sa+k+r.size):=by rw[EE,show sa+na-(sa+k)+m=na-k+m from by omega,Ax,show(arrOf st).toList.drop (sa+k+(na-k+m))=((arrOf st).toList.drop (sa+k)).drop (na-k+m) from by rw[eV],Dw,Dw]
       refine En.trans ?_ (En.of_eq e1.symm);refine En.append_right _ (En.append_left _ ?_);rw[<-tG (by omega) (by omega)];exact hr.1
      have inR:∀(t:Nat) (p:Keyed),r[t]?=some p->(∃j,sa+k<=j/\j<sa+na/\rk p.1=K rk (arrOf st) j)\/∃j,sa+na<=j/\j<sa+na+m/\rk p.1=K rk (arrOf st) j:=by
       intro t p ht;have hm:=hr.1.mem_iff.mp (Wc ht);rcases Ao.mp hm with hm|hm
       ·obtain⟨u,hu⟩:=Bx hm;rw[Aw] at hu;have AJ:u<sa+na-(sa+k):=by have:=(Cx.mp hu).1;rw[Cu] at this;omega
        rw[Gl (by omega) AJ] at hu;exact .inl ⟨sa+k+u,by omega,by omega,(Pz hu).symm⟩
       ·obtain⟨u,hu⟩:=Bx hm;rw[Aw] at hu;have AJ:u<sa+na+m-(sa+na):=by have:=(Cx.mp hu).1;rw[Cu] at this;omega
        rw[Gl (by omega) AJ] at hu;exact .inr ⟨sa+na+u,by omega,by omega,(Pz hu).symm⟩
      have kR:∀t,sa+k<=t->t<sa+na+m->∃p,r[t-(sa+k)]?=some p/\K rk (lay (sa+k) r (arrOf st)) t=rk p.1:=λt h1 h2=>by have e1:r[t-(sa+k)]?=some (r[t-(sa+k)]'(by omega)):=getElem?_pos _ _ _;refine⟨_,e1,?_⟩;refine Pz ?_;rw[fR H4,if_pos (by omega)];exact e1
      have kO:∀t,t<sa+k\/sa+na+m<=t->K rk (lay (sa+k) r (arrOf st)) t=K rk (arrOf st) t:=λt h1=>K_congr (by rw[fR H4,if_neg (by omega)]);refine wpS_pure (h _ ?_ (e.kind.trans hk) ef e.pend ?_ ?_)
      ·show(lay (sa+k) r (arrOf AA)).Perm a₀;rw[L5];exact ND
      ·show B' rk (lay (sa+k) r (arrOf AA)) sa (sa+(na+nb));rw[L5];intro i j h1 B5 hj;by_cases LJ:i<sa+k
       ·rw[kO i (.inl LJ)];by_cases ai:j<sa+k
        ·rw[kO j (.inl ai)];exact r1 i j h1 B5 (by omega)
        ·by_cases TY:j<sa+na+m
         ·obtain⟨p,e1,e2⟩:=kR j (by omega) TY;rw[e2];rcases inR _ p e1 with⟨u,u1,u2,u3⟩|⟨u,u1,u2,u3⟩
          ·rw[u3];exact r1 i u h1 (by omega) u2
          ·rw[u3];exact Dk (low i h1 LJ) (by rw[<-kk];exact r2 _ _ (Ah _) u1 (by omega))
         ·rw[kO j (.inr (by omega))];exact Dk (low i h1 LJ) (by rw[<-kk];exact r2 _ _ (Ah _) (by omega) (by omega))
       ·by_cases OI:i<sa+na+m
        ·obtain⟨p,e1,e2⟩:=kR i (by omega) OI;rw[e2];by_cases TY:j<sa+na+m
         ·obtain⟨q,e3,e4⟩:=kR j (by omega) TY;rw[e4];exact DE.idx hr.2 (by omega) e1 e3
         ·rw[kO j (.inr (by omega))];rcases inR _ p e1 with⟨u,u1,u2,u3⟩|⟨u,u1,u2,u3⟩
          ·rw[u3];exact Dk (r1 u (sa+na-1) (by omega) (by omega) (by omega)) (by rw[P8];exact J5 j (by omega) (by omega))
          ·rw[u3];exact r2 u j u1 (by omega) (by omega)
        ·rw[kO i (.inr (by omega)),kO j (.inr (by omega))];exact r2 i j (by omega) B5 (by omega)
      ·intro t ht;show K rk (lay (sa+k) r (arrOf AA)) t=_;rw[L5];exact kO t (by omega)
     by_cases hle:na-k<=m
     ·rw[if_pos hle];exact wpS_bind (mH O T hk λr AA hr e=>fin r AA hr e)
     ·rw[if_neg hle];exact wpS_bind (mJ O T hk λr AA hr e=>fin r AA hr e)
end
end Ts
end
section
namespace Ts
def Runs (rk:Value->Int)(xs:Array Keyed):Nat->List (Nat×Nat)->Nat->Prop
 |a,[],b=>a=b
 |a,(s,n)::l,b=>s=a/\0<n/\B' rk xs a (a+n)/\Runs rk xs (a+n) l b
noncomputable def IQ (st:SortSt):List (Nat×Nat):=(pendingOf st).toList.map λx=>(x.1,x.2.1)
theorem Runs.le {rk:Value->Int}{xs:Array Keyed}{l:List (Nat×Nat)}{a b:Nat}(h:Runs rk xs a l b):a+l.length<=b:=by k_with"o"=>
 induction l generalizing a with
 |nil=>cases h;exact Ah _
 |cons p l ih=>obtain⟨s,n⟩:=p;obtain⟨_,h2,_,h4⟩:=h;have:=ih h4;simp only[An];omega
theorem Runs.append {rk:Value->Int}{xs:Array Keyed}{l2:List (Nat×Nat)}{b:Nat}:∀{l1:List (Nat×Nat)} {a:Nat},Runs rk xs a (l1++l2) b↔∃m,Runs rk xs a l1 m/\Runs rk xs m l2 b
 |[],a=>by k_with"o"=>exact( ⟨λh=>⟨a,rfl,h⟩,λ⟨m,h1,h2⟩=>by cases h1;exact h2⟩)
 |(s,n)::l,a=>by k_with"o"=>
  constructor
  ·rintro⟨h1,h2,h3,h4⟩;obtain⟨m,h5,h6⟩:=Runs.append.mp h4;exact⟨m,⟨h1,h2,h3,h5⟩,h6⟩
  ·rintro⟨m,⟨h1,h2,h3,h5⟩,h6⟩;exact⟨h1,h2,h3,Runs.append.mpr ⟨m,h5,h6⟩⟩
theorem B'.congr {rk:Value->Int}{xs ys:Array Keyed}{a b:Nat}(h:B' rk xs a b)(he:∀k,a<=k->k<b->K rk ys k=K rk xs k):B' rk ys a b:=by k_with"o"=>exact(λi j h1 B5 hj=>by rw[he i h1 (by omega),he j (by omega) hj];exact h i j h1 B5 hj)
theorem Runs.congr {rk:Value->Int}{xs ys:Array Keyed}{b:Nat}{l:List (Nat×Nat)}{a:Nat}(h:Runs rk xs a l b)(he:∀k,a<=k->k<b->K rk ys k=K rk xs k):Runs rk ys a l b:=by k_with"o"=>
 induction l generalizing a with
 |nil=>exact h
 |cons p l ih=>obtain⟨s,n⟩:=p;obtain⟨h1,h2,h3,h4⟩:=h;exact⟨h1,h2,h3.congr λk k1 k2=>he k k1 (by have:=h4.le;omega),ih h4 λk k1 k2=>he k (by omega) k2⟩
structure St (rk:Value->Int)(a₀:Array Keyed)(kd:SortKind)(lo:Nat)(st:SortSt):Prop where
 perm:(arrOf st).Perm a₀
 kind:kindOf st=kd
 failed:failedOf st=none
 runs:Runs rk (arrOf st) 0 (IQ st) lo
theorem St.same {rk:Value->Int}{a₀:Array Keyed}{kd:SortKind}{lo:Nat}{st AA:SortSt}(h:St rk a₀ kd lo st)(g:Hx a₀ kd st AA)(he:∀k,k<lo->K rk (arrOf AA) k=K rk (arrOf st) k):St rk a₀ kd lo AA:=by k_with"o"=>exact(⟨g.perm,g.kind,g.failed,by unfold IQ;rw[g.pend];exact h.runs.congr λk _ hk=>he k hk⟩)
theorem pJ (st:SortSt):(IQ st).length=(pendingOf st).size:=by k_with"o"=>unfold IQ;rw[Ac,Bf]
section
variable {U:Program}{w:World}{A:Around}{E:Value->Shared->Prop}{s:Shared}{a₀:Array Keyed}{rk:Value->Int}{kd:SortKind}
theorem Yl (O:C1 U w A s rk kd a₀){st:SortSt}{i lo:Nat}{Q:Bool->SortSt->Prop}(hS:St rk a₀ kd lo st)(FP:lo<=a₀.size)(hi:i+1<(pendingOf st).size)
  (h:∀AA,St rk a₀ kd lo AA->(pendingOf AA).size+1=(pendingOf st).size->(∀k,lo<=k->K rk (arrOf AA) k=K rk (arrOf st) k)->Q true AA):wpS (model U w) A E s (mergeAt' i) Q st:=by k_with"o"=>
 obtain⟨l,hl⟩:∃l,l=(pendingOf st).toList:=⟨_,rfl⟩;have BJ:l.length=(pendingOf st).size:=by rw[hl,Bf]
 have e1:(pendingOf st)[i]?=some (l[i]'(by omega)):=by rw[<-Aw,<-hl];exact getElem?_pos _ _ _
 have e2:(pendingOf st)[i+1]?=some (l[i+1]'(by omega)):=by rw[<-Aw,<-hl];exact getElem?_pos _ _ _
 generalize hx:l[i]'(by omega)=x at e1;generalize hy:l[i+1]'(by omega)=y at e2;have dl:l=l.take i++x::y::l.drop (i+2):=by rw[<-hx,<-hy,<-Kp,<-Kp,Dw]
 obtain⟨sx,nx,px⟩:=x;obtain⟨sy,ny,py⟩:=y;have hr:=hS.runs;unfold IQ at hr;rw[<-hl,dl,Ai] at hr;obtain⟨m,r1,rfl,q1,q2,rfl,q4,q5,r2⟩:=Runs.append.mp hr;dsimp only at q1 q2 q4 q5 r2;have bj:=r2.le;have cj:=r1.le;refine mL O hS.perm hS.kind hS.failed e1 e2 q1 q4 (by omega) q2 q5 λAA b1 b2 b3 b4 b5 b6=>?_;have G8:(pendingOf AA).toList=l.take i++(sx,nx+ny,px)::l.drop (i+2):=by
  rw[b4,Array.toList_eraseIdxIfInBounds,Array.toList_setIfInBounds,<-hl]
  conv=>lhs;rw[dl]
  have WC:(l.take i).length=i:=by rw[Av];omega
  rw[oX _ _ (by omega),WC,Mk,List.set_cons_zero];rw[List.eraseIdx_append_of_length_le (by omega),WC,Lu];rfl
 refine h AA ⟨b1,b2,b3,?_⟩ ?_ λk hk=>b6 k (by omega)
 ·unfold IQ;rw[G8,Ai,Aj];refine Runs.append.mpr ⟨sx,r1.congr λk _ hk=>b6 k (.inl hk),rfl,Nat.add_pos_left q1 _,b5,?_⟩;dsimp only;rw[<-Lf];exact r2.congr λk hk _=>b6 k (by omega)
 ·have h1:(pendingOf AA).toList.length=(pendingOf AA).size:=Bf;have h2:l.length=(l.take i++(sx,nx,px)::(sx+nx,ny,py)::l.drop (i+2)).length:=congrArg _ dl;rw[G8] at h1;simp only[Ab,An] at h1 h2;omega
theorem jA {c:Prop}[Decidable c]{a:Nat}:(if c then a-1 else a)<=a:=by k_with"o"=>split<;>omega
theorem aV {p:Array (Nat×Nat×Nat)}{j pw:Nat}:(p.modify j λx=>(x.1,x.2.1,pw)).toList.map (λx=>(x.1,x.2.1))=p.toList.map λx=>(x.1,x.2.1):=by k_with"o"=>
 apply List.ext_getElem?;intro t;rw[Bw,Bw,Aw,Aw,Array.getElem?_modify];split
 ·cases p[t]?<;>rfl
 ·rfl
noncomputable def jU (size pw:Nat):StateT SortSt Sem (Option Unit×Unit):=
 forIn [0:size] ((none:Option Unit),()) λ(_:Nat) (c:Option Unit×Unit)=>do
  let p:=pendingOf (<-get)
  match (if p.size>1 then p[p.size-2]? else none) with
  |some (_,_,NF)=>if NF<=pw then pure (ForInStep.done (none,())) else do
   let b <-mergeAt' (p.size-2)
   if (!b)=true then pure (ForInStep.done (some (),())) else pure (ForInStep.yield (none,()))
  |_=>pure (ForInStep.done (none,()))
theorem Yr (O:C1 U w A s rk kd a₀){F9:SortSt}{lo pw:Nat}{Q:Option Unit×Unit->SortSt->Prop}(FP:lo<=a₀.size)(S3:St rk a₀ kd lo F9)
  (h:∀AA,St rk a₀ kd lo AA->(∀k,lo<=k->K rk (arrOf AA) k=K rk (arrOf F9) k)->Q (none,()) AA):wpS (model U w) A E s (jU a₀.size pw) Q F9:=by k_with"o"=>
 unfold jU;refine wpS_forRange (I:=λ_ c AA=>c=(none,())/\St rk a₀ kd lo AA/\∀k,lo<=k->K rk (arrOf AA) k=K rk (arrOf F9) k) ?step ?fin ⟨rfl,S3,λ_ _=>rfl⟩
 case fin=>rintro c AA ⟨rfl,h1,h2⟩;exact h AA h1 h2
 case step=>
  rintro x c AA _ _ ⟨rfl,h1,h2⟩;refine wpS_bind (wpS_get ?_);dsimp only;split
  ·rename_i e;split
   ·exact wpS_pure (h AA h1 h2)
   ·have LK:(pendingOf AA).size>1:=by
     by_cases hg:(pendingOf AA).size>1
     ·exact hg
     ·rw[if_neg hg] at e;cases e
    refine wpS_bind (Yl O h1 FP (by omega) λYL S4 _ k4=>?_);exact wpS_pure ⟨rfl,S4,λk hk=>(k4 k hk).trans (h2 k hk)⟩
  ·exact wpS_pure (h AA h1 h2)
theorem St.last {F9:SortSt}{lo n:Nat}(S3:St rk a₀ kd lo F9)(a3:B' rk (arrOf F9) lo (lo+n))(n0:0<n):St rk a₀ kd (lo+n) (setPending F9 ((pendingOf F9).push (lo,n,0))):=by k_with"o"=>exact(⟨S3.perm,S3.kind,S3.failed,by
  show Runs rk (arrOf F9) 0 (((pendingOf F9).push (lo,n,0)).toList.map _) _;rw[Dm,Ai];exact Runs.append.mpr ⟨lo,S3.runs,rfl,n0,a3,rfl⟩⟩)
theorem hY (O:C1 U w A s rk kd a₀){st:SortSt}{Q:Unit->SortSt->Prop}(hp:(arrOf st).Perm a₀)(hk:kindOf st=kd)(hf:failedOf st=none)(he:pendingOf st=#[])
  (h:∀AA,(arrOf AA).Perm a₀->failedOf AA=none->B' rk (arrOf AA) 0 a₀.size->Q () AA):wpS (model U w) A E s sortRuns' Q st:=by k_with"o"=>
 rw[sortRuns'_eq];refine wpS_bind (wpS_get ?_);dsimp only;have BJ:(arrOf st).size=a₀.size:=hp.size_eq;rw[BJ];generalize minRun' a₀.size a₀.size 0=mr;have S0:St rk a₀ kd 0 st:=⟨hp,hk,hf,by unfold IQ;rw[he];rfl⟩;refine wpS_bind (wpS_mono (wpS_forRange
  (I:=λx c AA=>c.1=none/\c.2<=a₀.size/\x<=c.2/\St rk a₀ kd c.2 AA)
  (Q:=λc AA=>c=(none,a₀.size)/\St rk a₀ kd a₀.size AA) ?step ?fin ⟨rfl,Ca _,Ah _,S0⟩) ?post)
 case fin=>
  rintro⟨c1,c2⟩ AA ⟨h1,h2,h3,h4⟩;cases h1;dsimp only at h2 h3 h4;have:c2=a₀.size:=by omega
  subst this;exact⟨rfl,h4⟩
 case step=>
  rintro x ⟨c1,lo⟩ DT _ hx ⟨h1,h2,h3,S1⟩;cases h1;dsimp only at h2 h3 S1 ⊢;by_cases FP:a₀.size<=lo
  ·rw[if_pos FP];have:lo=a₀.size:=by omega
   subst this;exact wpS_pure ⟨rfl,S1⟩
  ·rw[if_neg FP];refine wpS_bind (jS (lo:=lo) O (by omega) (by omega) (⟨S1.perm,S1.kind,S1.failed,rfl⟩:Hx a₀ kd DT DT) λm BX B2 m1 m2 MC RN=>?_);have S2:St rk a₀ kd lo BX:=S1.same B2 RN;dsimp only;by_cases AJ:m<mr
   ·rw[if_pos AJ];refine wpS_bind (wpS_lift (wpAny_rule ⟨rfl,?_⟩));refine wpS_bind (cU (lo:=lo) O (by omega) (by omega) (⟨S2.perm,S2.kind,S2.failed,rfl⟩:Hx a₀ kd BX BX) MC λF9 B3 PO RM=>?_);rw[if_neg (by decide)];have S9:St rk a₀ kd lo F9:=S2.same B3 RM;refine wpS_bind (wpS_get ?_);split
    ·refine wpS_bind (wpS_mono (Yr O (by omega) S9 (Q:=λc AA=>c=(none,())/\St rk a₀ kd lo AA/\∀k,lo<=k->K rk (arrOf AA) k=K rk (arrOf F9) k) λAA S4 k4=>⟨rfl,S4,k4⟩) ?_);rintro c AA ⟨rfl,S4,k4⟩;dsimp only;refine wpS_bind (wpS_modify (wpS_bind (wpS_modify (wpS_pure ⟨rfl,by dsimp only;omega,by dsimp only;omega,?_⟩))));refine St.last (n:=min (a₀.size-lo) mr) ⟨S4.perm,S4.kind,S4.failed,?_⟩ ?_ (by omega)
     ·show Runs rk (arrOf AA) 0 (((pendingOf AA).modify _ _).toList.map _) _;rw[aV];exact S4.runs
     ·show B' rk (arrOf AA) _ _;exact PO.congr λk hk _=>k4 k hk
    ·exact wpS_bind (wpS_modify (wpS_pure ⟨rfl,by dsimp only;omega,by dsimp only;omega,S9.last (n:=min (a₀.size-lo) mr) PO (by omega)⟩))
   ·rw[if_neg AJ];have S9:St rk a₀ kd lo BX:=S2;refine wpS_bind (wpS_get ?_);split
    ·refine wpS_bind (wpS_mono (Yr O (by omega) S9 (Q:=λc AA=>c=(none,())/\St rk a₀ kd lo AA/\∀k,lo<=k->K rk (arrOf AA) k=K rk (arrOf BX) k) λAA S4 k4=>⟨rfl,S4,k4⟩) ?_);rintro c AA ⟨rfl,S4,k4⟩;dsimp only;refine wpS_bind (wpS_modify (wpS_bind (wpS_modify (wpS_pure ⟨rfl,by dsimp only;omega,by dsimp only;omega,?_⟩))));refine St.last (n:=m) ⟨S4.perm,S4.kind,S4.failed,?_⟩ ?_ (by omega)
     ·show Runs rk (arrOf AA) 0 (((pendingOf AA).modify _ _).toList.map _) _;rw[aV];exact S4.runs
     ·show B' rk (arrOf AA) _ _;exact MC.congr λk hk _=>k4 k hk
    ·exact wpS_bind (wpS_modify (wpS_pure ⟨rfl,by dsimp only;omega,by dsimp only;omega,S9.last (n:=m) MC (by omega)⟩))
 case post=>
  rintro c DT ⟨rfl,S1⟩;dsimp only;refine wpS_bind (wpS_mono (wpS_forRange (I:=λx c AA=>c=(none,())/\St rk a₀ kd a₀.size AA/\((pendingOf AA).size<=1\/(pendingOf AA).size<=a₀.size-x))
   (Q:=λc AA=>c=(none,())/\St rk a₀ kd a₀.size AA/\(pendingOf AA).size<=1) ?step2 ?fin2 ⟨rfl,S1,.inr (by have:=S1.runs.le;rw[pJ] at this;omega)⟩) ?post2)
  case fin2=>rintro c AA ⟨h1,h2,h3⟩;exact⟨h1,h2,by omega⟩
  case step2=>
   rintro x c AA _ hx ⟨rfl,S2,h3⟩;refine wpS_bind (wpS_get ?_);by_cases h1:(pendingOf AA).size<=1
   ·rw[if_pos h1];exact wpS_pure ⟨rfl,S2,h1⟩
   ·rw[if_neg h1];refine wpS_bind (Yl O S2 (Ah _) ?_ λYL S4 z4 _=>?_)
    ·exact Yc (Km jA) (by omega:(pendingOf AA).size-2+1<_)
    ·rw[if_neg (by decide)];exact wpS_pure ⟨rfl,S4,.inr (by omega)⟩
  case post2=>
   rintro c AA ⟨rfl,S2,h1⟩;dsimp only;refine wpS_pure (h AA S2.perm S2.failed ?_);have hl:(IQ AA).length<=1:=by rw[pJ];exact h1
   have hr:=S2.runs;rcases hq:IQ AA with _|⟨⟨s0,n0⟩,_|⟨y,l⟩⟩
   ·rw[hq] at hr;have hr:0=a₀.size:=hr;intro i j _ _ hj;omega
   ·rw[hq] at hr;obtain⟨_,_,h5,h6⟩:=hr;have h6:0+n0=a₀.size:=h6;rwa[h6] at h5
   ·rw[hq] at hl;simp only[An] at hl;omega
end
end Ts
end
section
namespace Ts
section
variable {U:Program}{w:World}{A:Around}{E:Value->Shared->Prop}{s:Shared}{rk:Value->Int}{kd:SortKind}
theorem tT {vs:List Value}{xs:Array Keyed}(hp:xs.Perm (pairsOf vs)):(xs.map (·.2)).toList.Perm vs:=by k_with"o"=>
 have hl:xs.toList.Perm (vs.zip vs):=by rw[<-pairsOf_toList];exact Hc.mp hp
 rw[Array.toList_map];refine(hl.map _).trans (En.of_eq ?_);exact List.map_snd_zip (Ah _)
theorem lX {vs:List Value}{xs:Array Keyed}(hp:xs.Perm (pairsOf vs))(hs:B' rk xs 0 (pairsOf vs).size):(xs.map (·.2)).toList.Pairwise λx y=>rk x<=rk y:=by k_with"o"=>
 have hl:xs.toList.Perm (vs.zip vs):=by rw[<-pairsOf_toList];exact Hc.mp hp
 rw[Array.toList_map,Lx,Ko];intro i j hi hj B5;have h1:=(mem_zip_self (hl.mem_iff.mp (aG hi))).1;have h2:=(mem_zip_self (hl.mem_iff.mp (aG hj))).1;rw[<-h1,<-h2];rw[Bf] at hi hj;have:=hs i j (Ca _) (Fz B5) (by rw[<-hp.size_eq];exact hj);rw[Pz (p:=xs[i]) (getElem?_pos _ _ _),Pz (p:=xs[j]) (getElem?_pos _ _ _)] at this;rw[oY,oY];exact this
theorem Wd {a:Addr}{vs:List Value}{n:Nat}{P:PySem.Fin->Shared->Prop}(ho:s.heap.get? a=some (seqObj "list" vs.toArray n))(hz:vs.length<=sizeLine)
  (kind:2<=vs.length->∀s1:Shared,(∀b o,b≠a->s.heap.get? b=some o->s1.heap.get? b=some o)->wpAny (model U w) A (keyKind' vs.toArray) (λk s'=>s'=s1/\k=kd) E s1)
  (O:∀s1:Shared,(∀b o,b≠a->s.heap.get? b=some o->s1.heap.get? b=some o)->C1 U w A s1 rk kd (pairsOf vs))
  (h:∀out:List Value,out.Perm vs->(out.Pairwise λx y=>rk x<=rk y)->P (.done (.ret .none)) {s with heap:=sortedHeap s.heap a vs out.toArray}) :
  wpAny (model U w) A (Builtin.«list.sort» ⟨[.ref a],[]⟩) P E s:=by k_with"o"=>
 rw[list_sort_plain];have ha:a<s.heap.objs.size:=Am ho;refine wpAny_bind (listItems_at ho rfl ?_);refine wpAny_bind (listUpdate_at ho rfl ?_ (by simpa using hz) (by simp));obtain⟨e1,WR⟩:∃e1,(s.heap.update a (Obj.mapSeq λ_=>#[])).get? a=some (seqObj "list" #[] e1):=⟨_,get?_update_seq ho (λ_=>#[])⟩;refine wpAny_bind (seqEpoch_at WR rfl ?_);refine wpAny_bind (wpAny_newTuple ?_ (by simpa using hz));refine wpAny_bind (wpAny_newList ?_);refine wpAny_holding ?_;have N4:(((s.heap.update a (Obj.mapSeq λ_=>#[])).push (seqObj "tuple" vs.toArray 0)).push (seqObj "list" #[] 0)).get? a=some (seqObj "list" #[] e1):=by rw[Qq _ _ _ (by rw[size_push',Du];exact By (Zu ha)),Qq _ _ _ (by rw[Du];exact By ha)];exact WR
 show wpAny (model U w) A _ P E {s with heap:=((s.heap.update a (Obj.mapSeq λ_=>#[])).push (seqObj "tuple" vs.toArray 0)).push (seqObj "list" #[] 0)};dsimp only;have BJ:vs.toArray.size=vs.length:=by simp
 have later:∀b o,b≠a->s.heap.get? b=some o->(((s.heap.update a (Obj.mapSeq λ_=>#[])).push (seqObj "tuple" vs.toArray 0)).push (seqObj "list" #[] 0)).get? b=some o:=λb o hb e=>
  Ad _ (Ad _ (by rw[Fj _ _ _ _ hb];exact e))
 have fin:∀AA:SortSt,(arrOf AA).Perm (pairsOf vs)->B' rk (arrOf AA) 0 (pairsOf vs).size->
   P (.done (.ret .none)) {s with heap:=sortedHeap s.heap a vs ((arrOf AA).map (·.2))}:=by
  intro AA hp hs;exact h _ (tT hp) (lX hp hs)
 by_cases h2:vs.toArray.size<2
 ·rw[if_pos h2,if_pos h2];refine wpAny_bind (wpAny_pure ?_);rw[StateT.run_pure];refine wpAny_bind (wpAny_pure ?_);dsimp only;refine wpAny_bind (seqEpoch_at N4 rfl ?_);refine wpAny_bind (listUpdate_at N4 rfl ?_ (Ca _) (hsz2:=by rw[Array.size_map];show(pairsOf vs).size<=_;rw[pairsOf_size,sizeLine_eq];omega));simp only[bne_self_eq_false,Bi,if_false];refine wpAny_pure (fin (SortSt.mk' general' (vs.toArray.zip vs.toArray) #[] 7 none) (Array.Perm.refl _) ?_);intro i j _ B5 hj;have:i=j:=by rw[pairsOf_size] at hj;omega
  subst this;exact Ek _
 ·rw[if_neg h2,if_neg h2];refine wpAny_bind (wpAny_mono (kind (by omega) _ later) (λk s' ⟨q1,q2⟩=>?_) λ_ _ e=>e);subst q1 q2;refine wpAny_bind (wpAny_mono (hY (a₀:=pairsOf vs) (rk:=rk) (kd:=k) (O _ later) (st:=SortSt.mk' k (vs.toArray.zip vs.toArray) #[] 7 none)
   (Q:=λ_ AA=>(arrOf AA).Perm (pairsOf vs)/\failedOf AA=none/\B' rk (arrOf AA) 0 (pairsOf vs).size)
   (Array.Perm.refl _) rfl rfl rfl λAA a1 a2 a3=>⟨a1,a2,a3⟩) ?_ λ_ _ e=>e)
  rintro⟨⟨⟩,AA⟩ s' ⟨rfl,hp,hf,hs⟩;dsimp only;refine wpAny_bind (seqEpoch_at N4 rfl ?_);refine wpAny_bind (listUpdate_at N4 rfl ?_ (Ca _) (hsz2:=by refine Aa (Ef ((Array.size_map ..).trans (hp.size_eq.trans (pairsOf_size _)))) ?_;omega));rw[hf];simp only[bne_self_eq_false,Bi,if_false];exact wpAny_pure (fin AA hp hs)
theorem tU {vs:List Value}{ns:List Int}(hI:IntsAre vs ns):C1 U w A s numOf oneType' (pairsOf vs):=by k_with"o"=>exact(λp q hp hq=>by rw[pairsOf_toList] at hp hq;obtain⟨i,t,e1⟩:=hI.all _ (mem_zip_self hp).2;obtain⟨j,u,e2⟩:=hI.all _ (mem_zip_self hq).2;rw[e1,e2];exact kat_lt_int ⟨rfl,rfl⟩)
theorem rL {vs:List Value}{ns:List Int}(hI:IntsAre vs ns)(h2:2<=vs.length):wpAny (model U w) A (keyKind' vs.toArray) (λk s'=>s'=s/\k=oneType') E s:=by k_with"o"=>
 match vs,hI,h2 with
 |v₁::v₂::rest,hI,_=>rw[keyKind_ints hI];exact wpAny_pure ⟨rfl,rfl⟩
 |[_],_,h2=>simp at h2
 |[],_,h2=>simp at h2
def IsPair (h:Heap)(v:Value)(i j:Int):Prop:=∃a o n t u,v=.ref a/\h.get? a=some o/\o.cls=.type "tuple"/\o.data=.seq #[.int i t,.int j u] n
noncomputable def fB (h:Heap)(v:Value):Int:=match v with
 |.ref a=>match h.get? a with
  |some o=>match o.data with
   |.seq xs _=>numOf (xs.getD 0 .none)*16777216+numOf (xs.getD 1 .none)
   |_=>0
  |none=>0
 |_=>0
theorem Xe {h:Heap}{v:Value}{i j:Int}(x:IsPair h v i j):fB h v=i*16777216+j:=by k_with"o"=>obtain⟨a,o,n,t,u,rfl,h1,h2,h3⟩:=x;unfold fB;dsimp only;rw[h1];dsimp only;rw[h3];rfl
theorem rF {h:Heap}{vs:List Value}(hP:∀v∈vs,∃i j,IsPair h v i j/\0<=i/\0<=j/\j<16777216)(hs:∀v∈vs,∀i j,IsPair h v i j->IsPair s.heap v i j):C1 U w A s (fB h) (tuples' true) (pairsOf vs):=by k_with"o"=>exact(λp q hp hq=>by
 rw[pairsOf_toList] at hp hq;obtain⟨i,j,x,i0,j0,j1⟩:=hP _ (mem_zip_self hp).2;obtain⟨i',j',x',gd,gc,gb⟩:=hP _ (mem_zip_self hq).2;rw[Xe x,Xe x'];obtain⟨a,o,n,t,u,e1,h1,h2,h3⟩:=hs _ (mem_zip_self hp).2 _ _ x;obtain⟨a',o',n',t',u',ec,XQ,XN,U2⟩:=hs _ (mem_zip_self hq).2 _ _ x';rw[e1,ec];refine kat_lt h1 h3 XQ U2 ?_;show KatLex U w A true _ _ [(.int i t,.int i' t'),(.int j u,.int j' u')] 0 s;refine kat_cons (wpAny_eqBool_int ?_);refine kat_go (λe=>kat_yes (kat_cons (wpAny_eqBool_int (kat_go (λe'=>kat_yes (kat_nil ⟨rfl,?_⟩)) λe'=>kat_no ?_)))) λe=>?_
 ·have e1:i=i':=by simpa using e
  have e2:j=j':=by simpa using e'
  subst e1 e2;exact(decide_eq_false (Int.lt_irrefl _)).symm
 ·have e1:i=i':=by simpa using e
  subst e1;refine kat_one _ _ (P.lt_int ⟨rfl,?_⟩);exact decide_eq_decide.mpr (by omega)
 ·have e1:i≠i':=by simpa using e
  exact kat_no (oneLt_int ⟨rfl,decide_eq_decide.mpr (by omega)⟩))
end
end Ts
end
section
namespace Cl
noncomputable def dZ:Code->Bool
 |.builtin id _=>Builtin.Bytes.decodersThatHold.contains id
 |_=>false
def oQ (l:List (Code×Pos)):Prop:=∀x∈l,dZ x.1=false
def qP (Γ:PySem.Ctx):Prop:=dZ Γ.code=false/\oQ Γ.below
def AI {α:Type}(M:Model)(A:Around)(t:Sem α)(Q:α->Shared->Prop)(E:Value->Shared->Prop)(s:Shared):Prop:=
 ∀ Γ p,Γ.In A->qP Γ->Sem.wp M Γ t (λa _ s'=>Q a s') (λe _ s'=>E e s') p s
def Gw (M:Model)(A:Around)(c:Code)(R:Result->Shared->Prop)(s:Shared):Prop:=
 ∀ Γ p,Γ.code=c->Γ.Below A->oQ Γ.below->wpCode M Γ R p s
section
variable {α β:Type}{M:Model}{A:Around}{E:Value->Shared->Prop}{s:Shared}
theorem Fg {t:Sem α}{Q:α->Shared->Prop}(h:wpAny M A t Q E s):AI M A t Q E s:=fun Γ p hΓ _=>h Γ p hΓ
theorem jV {c:Code}{R:Result->Shared->Prop}(h:codeAny M A c R s):Gw M A c R s:=fun Γ p hc hΓ _=>h Γ p hc hΓ
theorem Di {a:α}{Q:α->Shared->Prop}(h:Q a s):AI M A (pure a) Q E s:=λ_ _ _ _=>h
theorem Br {t:Sem α}{Q Q':α->Shared->Prop}{E':Value->Shared->Prop}(h:AI M A t Q E s)(hQ:∀a s,Q a s->Q' a s)(hE:∀e s,E e s->E' e s):AI M A t Q' E' s:=by k_with"o"=>exact(fun Γ p hΓ hC=>Sem.wp_mono M Γ t (λa _ s=>hQ a s) (λe _ s=>hE e s) p s (h Γ p hΓ hC))
theorem Cj {m:Sem α}{f:α->Sem β}{Q:β->Shared->Prop}(h:AI M A m (λa s'=>AI M A (f a) Q E s') E s):AI M A (m >>= f) Q E s:=by k_with"o"=>exact(fun Γ p hΓ hC=>by rw[Sem.wp_bind'];exact Sem.wp_mono M Γ m (λa p' s' h'=>h' Γ p' hΓ hC) (λ_ _ _ h'=>h') p s (h Γ p hΓ hC))
theorem Bg {m:Sem α}{f:α->Sem β}{Q:β->Shared->Prop}(h:wpAny M A m (λa s'=>AI M A (f a) Q E s') E s):AI M A (m >>= f) Q E s:=by k_with"o"=>exact(Cj (Fg h))
theorem Ou {m:Sem α}{k:Value->Sem Unit}{Q:α->Shared->Prop}(h:AI M A m Q (λe s'=>AI M A (k e) (λ_ C3=>E e C3) E s') s):AI M A (m.onRaise k) Q E s:=by k_with"o"=>exact(fun Γ p hΓ hC=>by rw[Sem.wp_onRaise];exact Sem.wp_mono M Γ m (λ_ _ _ h'=>h') (λe p' s' h'=>h' Γ p' hΓ hC) p s (h Γ p hΓ hC))
theorem Gj {vs:List Value}{m:Sem α}{Q:α->Shared->Prop}(h:AI M A m Q E s):AI M A (holding vs m) Q E s:=by k_with"o"=>exact(fun Γ p hΓ hC=>by rw[Sem.wp_holding];exact h Γ p hΓ hC)
theorem qS {t:Sem α}{a:α}{Q:α->Shared->Prop}(e:t=pure a)(h:Q a s):AI M A t Q E s:=by k_with"o"=>exact(e▸Di h)
theorem Kx {c:Code}{R R':Result->Shared->Prop}(h:Gw M A c R s)(hR:∀r s,R r s->R' r s):Gw M A c R' s:=by k_with"o"=>exact(fun Γ p hc hΓ hC=>wpCode_mono hR (h Γ p hc hΓ hC))
theorem qP.enter {Γ:PySem.Ctx}{c:Code}{h:Option Value}{p:Pos}(hC:qP Γ):oQ (Γ.enter c h p).below:=by k_with"o"=>exact(λx hx=>by
 rcases Ag.mp hx with rfl|hx
 ·exact hC.1
 ·exact hC.2 x hx)
theorem wU {c:Code}{h:Option Value}{Q:Flow->Shared->Prop}(hc:Gw M (A.mark h) c (λr s'=>match r with | .ok f=>Q f s' | .error e=>E e s') s)(N6:h≠some byPass:=by intro x;cases x):AI M A (run c h) Q E s:=by k_with"o"=>exact(fun Γ p hΓ hC=>by rw[Sem.wp_run];exact hc _ p rfl (hΓ.enter c h p N6) hC.enter)
theorem eX {c:Code}{Q:Value->Shared->Prop}(hc:Gw M A c (λr s'=>match r with | .ok (.ret v)=>Q v s' | .ok _=>False | .error e=>E e s') s):AI M A (runValue c) Q E s:=by k_with"o"=>exact(fun Γ p hΓ hC=>by rw[Sem.wp_runValue];exact hc _ p rfl (hΓ.enter c none p (by intro x;cases x)) hC.enter)
theorem Lh {f:Value}{pos:List Value}{kw:List (Str×Value)}{Q:Value->Shared->Prop}(hc:Gw M A (.call f ⟨pos,kw⟩) (λr s'=>match r with | .ok (.ret v)=>Q v s' | .ok _=>False | .error e=>E e s') s):AI M A (call f pos kw) Q E s:=eX hc
theorem Ej {c:Code}{R:Result->Shared->Prop}(hd:dZ c=false)
  (h:AI M (A.under c) (M.den c) (λfin s'=>match fin with | .done f=>R (.ok f) s' | .again c'=>c'.quiet=true/\Gw M A c' R s') (λe s'=>R (.error e) s') s):Gw M A c R s:=by k_with"o"=>exact(fun Γ p hc hΓ hC=>by
 rw[wpCode_iff_wp,hc];refine Sem.wp_mono M Γ _ (λfin p' s' h'=>?_) (λ_ _ _ h'=>h') p s (h Γ p (hc▸hΓ.in) ⟨by rw[hc];exact hd,hC⟩);cases fin with
 |done f=>exact h'
 |again c'=>exact⟨h'.1,h'.2 (Γ.goto c') p' rfl (hΓ.goto c') hC⟩)
theorem Vo {self:Value}{Q:Bool->Shared->Prop}(hg:A.guards=some [])(h:Q false s):AI M A (Builtin.Bytes.exported self) Q E s:=by k_with"o"=>exact(fun Γ p hΓ hC=>by
 have W4:∀x∈((Γ.code,p)::Γ.below),x.1.isGuard=false:=by
  have e:guardsOf ((Γ.code,p)::Γ.below)=[]:=by rw[guardsOf_cons];exact hΓ.2.2.2.1 [] hg
  intro x hx;cases hq:x.1.isGuard with
  |false=>rfl
  |true=>exfalso;have:x.1∈guardsOf ((Γ.code,p)::Γ.below):=Bb.mpr ⟨Af.mpr ⟨x,hx,rfl⟩,hq⟩;rw[e] at this;simp at this
 have FG:∀x∈((Γ.code,p)::Γ.below),dZ x.1=false:=λx hx=>by
  rcases Ag.mp hx with rfl|hx
  ·exact hC.1
  ·exact hC.2 x hx
 unfold Builtin.Bytes.exported;show Q (((Γ.code,p)::Γ.below).any _) s;refine Eq.mp (congrArg (λb=>Q b s) (Eq.symm (Ze.mpr λx hx=>?_))) h;have g1:=W4 x hx;have g2:=FG x hx;clear hx W4 FG hΓ hC h;obtain⟨c,q⟩:=x;cases c with
 |builtin id args=>
  obtain⟨vs,kw⟩:=args
  delta Builtin.Bytes.exported.match_1
  have n1:id ≠ "bytearray.__contains__":=λe=>by subst e;exact absurd g1 (by simp[Code.isGuard,guardIds])
  have n2:id ≠ "bytearray.__mod__":=λe=>by subst e;exact absurd g1 (by simp[Code.isGuard,guardIds])
  have n3:id ≠ "bytearray.__rmod__":=λe=>by subst e;exact absurd g1 (by simp[Code.isGuard,guardIds])
  have n4:id ≠ "_struct.pack_into.held":=λe=>by subst e;exact absurd g1 (by simp[Code.isGuard,guardIds])
  have n5:id ≠ "bytearray.find.held":=λe=>by subst e;exact absurd g1 (by simp[Code.isGuard,guardIds])
  show ¬(dite _ _ _=true);rw[dif_neg n1,dif_neg n2,dif_neg n3,dif_neg n4,dif_neg n5];cases vs with
  |nil=>exact He
  |cons v vs=>show ¬((Builtin.Bytes.sameRef v self&&Builtin.Bytes.decodersThatHold.contains id)=true);rw[show Builtin.Bytes.decodersThatHold.contains id=false from g2,Uo];exact He
 |_=>exact He)
end
end Cl
end
section
namespace F
open PySem.F
theorem AZ:Slot "bytearray" "extend" "bytearray.extend":=by k_with"o"=>exact(.of (owner := "bytearray") (n := "extend") (by rw[typeLookup_type,builtinLookup_eq_fast];kernel_rfl) (by decide +kernel) (by decide +kernel) (by decide +kernel)
  (by first|exact .inl (by decide +kernel)|exact .inr (by decide +kernel)) (by rw[isSubtype_type];kernel_rfl))
theorem B7:entryFor table "bytearray.extend"=some Builtin.«bytearray.extend»:=entryFor_of_fast (by kernel_rfl)
theorem CC (a b:Value):argsOk "bytearray.extend" ⟨[a,b],[]⟩:=by unfold argsOk;kernel_rfl
theorem AO:typeLookup (.type "bytes") "__buffer__"=pure (some (.builtin "bytes.__buffer__")):=by k_with"o"=>rw[typeLookup_type,builtinLookup_eq_fast];kernel_rfl
theorem C8:typeLookup (.type "bytes") "__release_buffer__"=pure none:=by k_with"o"=>rw[typeLookup_type,builtinLookup_eq_fast];kernel_rfl
theorem EJ:isSubtype (.type "bytes") (.type "bytes")=pure true:=by k_with"o"=>rw[isSubtype_type];kernel_rfl
end F
namespace Cl
section
variable {U:Program}{w:World}{A:Around}{E:Value->Shared->Prop}{s:Shared}
theorem Og {R:Result->Shared->Prop}{id:String}{args:Args}{b:Builtin}(hq:plainId id=true)(hd:Builtin.Bytes.decodersThatHold.contains id=false)(hb:entryFor table id=some b)
  (h:wpAny (model U w) A.in1 (checkBuiltinCall id args) (λ_ s₁=>AI (model U w) A.in1 (b args)
   (λfin s'=>match fin with | .done f=>R (.ok f) s' | .again c'=>c'.quiet=true/\Gw (model U w) A c' R s') (λe s'=>R (.error e) s') s₁)
   (λe s'=>R (.error e) s') s):Gw (model U w) A (.call (.builtin id) args) R s:=by k_with"o"=>
 refine Ej rfl ?_;show AI _ A.in1 (do checkBuiltinCall id args;again (.builtin id args)) _ _ s;refine Cj (Br (Fg h) (λ_ s₁ h₁=>Di (And.intro (plainId_quiet hq args) (Ej hd ?_))) λ_ _ h'=>h');rw[Around.under_plainId hq args];show AI _ _ (match entryFor table id with|some b=>b args|none=>unsupported ((withoutEnding? id "#data").getD id)) _ _ s₁;rw[hb];exact h₁
theorem Hm {b:Array UInt8}{t:Tok}{name:Str}{r:Option Value}{Q:Option Value->Shared->Prop}(h:typeLookup (.type "bytes") name=pure r)(hQ:Q r s):wpAny (model U w) A (specialOf (.bytes b t) name) Q E s:=by k_with"o"=>unfold specialOf;exact wpAny_bind (wpAny_of_eq (rfl:typeOf (.bytes b t)=pure (.type "bytes")) (wpAny_of_eq h hQ))
theorem dO {b:Array UInt8}{t:Tok}{Q:Bool->Shared->Prop}(h:Q true s):wpAny (model U w) A (Builtin.Bytes.slotIsOwn (.bytes b t) "__buffer__") Q E s:=by k_with"o"=>unfold Builtin.Bytes.slotIsOwn;refine wpAny_bind (Hm Nu.F.AO ?_);dsimp only;rw[if_neg (show ¬((!"bytes.__buffer__".endsWith ("."++"__buffer__"))=true) from by decide +kernel),show "bytes.__buffer__".dropRight ("__buffer__".length+1) = "bytes" from by decide +kernel];exact wpAny_isInstance (T := "bytes") (rfl:s.TypeIs (.bytes b t) "bytes") Nu.F.EJ h
theorem cL {b:Array UInt8}{t:Tok}{Q:Bool->Shared->Prop}(h:Q false s):wpAny (model U w) A (Builtin.Bytes.ownRelease (.bytes b t)) Q E s:=by k_with"o"=>unfold Builtin.Bytes.ownRelease Builtin.Bytes.slotIsOwn;refine wpAny_bind (wpAny_bind (Hm Nu.F.C8 ?_));exact wpAny_pure (wpAny_pure h)
theorem aK {b:Array UInt8}{t:Tok}{id:String}{Q:Option (Array UInt8×Option Value)->Shared->Prop}(h:Q (some (b,none)) s):wpAny (model U w) A (Builtin.Bytes.takeBufferQuiet? id (.bytes b t) 0) Q E s:=by k_with"o"=>
 unfold Builtin.Bytes.takeBufferQuiet? Builtin.Bytes.takeBuffer?;refine wpAny_bind (wpAny_attempt (wpAny_bind (Hm Nu.F.AO ?_)))
 try dsimp only
 refine wpAny_bind (dO ?_);rw[if_neg (by decide)];refine wpAny_bind (Hm Nu.F.AO ?_)
 try dsimp only
 unfold Builtin.Bytes.buffer?;refine wpAny_bind (wpAny_bind (Hm Nu.F.AO ?_))
 try dsimp only
 refine wpAny_bind (dO ?_);rw[if_neg (by decide)];refine wpAny_bind (Hm Nu.F.AO ?_)
 try dsimp only
 refine wpAny_bind (cL ?_);rw[if_neg (by decide)];exact wpAny_bind (wpAny_pure (wpAny_pure (wpAny_pure (wpAny_pure h))))
theorem gC {a:Addr}{x:Array UInt8}{Q:Unit->Shared->Prop}(hg:A.guards=some [])(ho:s.heap.get? a=some {cls:=.type "bytearray",data:=.bytearray x})(h:Q () s):AI (model U w) A (Builtin.Bytes.checkResize (.ref a)) Q E s:=by k_with"o"=>unfold Builtin.Bytes.checkResize;refine Cj (Cj (Vo hg ?_));show AI (model U w) A (do return decide ((<-Builtin.Bytes.exportsOf (.ref a))>0)) _ _ _;unfold Builtin.Bytes.exportsOf;refine Bg (wpAny_bind (wpAny_load ho (wpAny_pure ?_)));exact Di (Di h)
theorem Xr {a:Addr}{x b:Array UInt8}{t:Tok}{Q:Value->Shared->Prop}(hg:A.guards=some [])(ho:s.heap.get? a=some {cls:=.type "bytearray",data:=.bytearray x})(hz:x.size+b.size<=sizeLine)
  (h:Q .none {s with heap:=s.heap.update a (Obj.mapBytearray (·++b))}):AI (model U w) A (call (.builtin "bytearray.extend") [.ref a,.bytes b t]) Q E s:=by k_with"o"=>
 have hT:s.TypeIs (.ref a) "bytearray":=⟨_,ho,rfl⟩;refine Lh (Og Nu.F.AZ.plain (by decide +kernel) Nu.F.B7 (Nu.F.AZ.check _ _ _ _ _ _ _ _ hT (Nu.F.CC _ _) ?_));unfold Builtin.«bytearray.extend»;refine Bg (wpAny_pure ?_);dsimp only;refine Bg (Hm Nu.F.AO ?_);rw[if_pos (show(some (Value.builtin "bytes.__buffer__")).isSome=true from rfl)];refine Bg (wpAny_rule ?_);refine Bg ?_;unfold Builtin.Bytes.payload Builtin.Bytes.payload?;refine wpAny_bind (wpAny_bind (wpAny_load ho (wpAny_pure (wpAny_pure ?_))));refine Bg (aK ?_);dsimp only;rw[if_pos (show(none:Option Value).isNone=true from rfl)];have fin:AI (model U w) A.in1 (do Builtin.Bytes.write (.ref a) (·++b);ret .none) (λf s'=>match f with
   |.done f=>(match (Except.ok f:Result) with | .ok (.ret v)=>Q v s' | .ok _=>False | .error e=>E e s')
   |.again c'=>c'.quiet=true/\Gw (model U w) A c' (λr s'=>match r with | .ok (.ret v)=>Q v s' | .ok _=>False | .error e=>E e s') s') (λe s'=>E e s') s:=by
  refine Fg (wpAny_bind ?_);show wpAny _ _ (updateBytearray a (·++b)) _ _ _;unfold updateBytearray;refine wpAny_bind (wpAny_load ho ?_);show wpAny _ _ (update a (Obj.mapBytearray (·++b)) >>= λ_=>lookBehind a) _ _ _;refine wpAny_bind (wpAny_update ho ?_);have hS₂:(s.heap.update a (Obj.mapBytearray (·++b))).get? a=some {cls:=.type "bytearray",data:=.bytearray (x++b)}:=Bv (Obj.mapBytearray (·++b)) ho rfl;refine wpAny_lookBehind hS₂ ?_ (wpAny_pure h);show(if (x++b).size>sizeLine then some "bytearray:memory" else none)=none;rw[if_neg (by rw[Yd];omega)]
 show AI _ _ (do
  if (!b.isEmpty)=true then Builtin.Bytes.checkResize (.ref a)
  Builtin.Bytes.write (.ref a) (·++b)
  ret .none) _ _ _
 by_cases hb:(!b.isEmpty)=true
 ·rw[if_pos hb];exact Cj (gC hg ho fin)
 ·rw[if_neg hb];exact fin
end
end Cl
end
section
inductive V where
 |none
 |bool (b:Bool)
 |int (i:Int)
 |str (s:Str)
 |bytes (b:List UInt8)
 |tup (l:List V)
 |ref (a:Addr)
 deriving Inhabited
noncomputable def Fs (vs:List Value):Obj:={cls:=.type "tuple",data:=.seq vs.toArray}
mutual
inductive RV (h:Heap):V->Value->Prop
 |none:RV h .none .none
 |bool (b):RV h (.bool b) (.bool b)
 |int (i t):RV h (.int i) (.int i t)
 |str (x t):RV h (.str x) (.str x t)
 |bytes (b t):RV h (.bytes b) (.bytes b.toArray t)
 |tup {l a vs}:h.get? a=some (Fs vs)->AG h l vs->RV h (.tup l) (.ref a)
 |ref (a):RV h (.ref a) (.ref a)
inductive AG (h:Heap):List V->List Value->Prop
 |nil:AG h [] []
 |cons {d v l vs}:RV h d v->AG h l vs->AG h (d::l) (v::vs)
end
def A0 (h h':Heap):Prop:=∀b vs,h.get? b=some (Fs vs)->h'.get? b=some (Fs vs)
theorem RV.AD {h h':Heap}(E:A0 h h'){d:V}{v:Value}(r:RV h d v):RV h' d v:=by k_with"o"=>
 refine RV.rec (motive_1:=λd v _=>RV h' d v) (motive_2:=λl vs _=>AG h' l vs) .none .bool .int .str .bytes ?_ .ref .nil ?_ r
 ·intro l a vs hg _ ih;exact .tup (E _ _ hg) ih
 ·intro d v l vs _ _ i1 i2;exact .cons i1 i2
theorem AG.AD {h h':Heap}(E:A0 h h'){l:List V}{vs:List Value}(r:AG h l vs):AG h' l vs:=by
 refine AG.rec (motive_1:=λd v _=>RV h' d v) (motive_2:=λl vs _=>AG h' l vs) .none .bool .int .str .bytes ?_ .ref .nil ?_ r
 ·intro l a vs hg _ ih;exact .tup (E _ _ hg) ih
 ·intro d v l vs _ _ i1 i2;exact .cons i1 i2
theorem AG.inv {h:Heap}{d:V}{l:List V}{v:Value}{vs:List Value}(r:AG h (d::l) (v::vs)):RV h d v/\AG h l vs:=by k_with"o"=>
 cases r with
 |cons a b=>exact⟨a,b⟩
theorem AG.ind {h:Heap}{P:List V->List Value->Prop}(n:P [] [])(c:∀{d v l vs},RV h d v->AG h l vs->P l vs->P (d::l) (v::vs)){l:List V}{vs:List Value}(r:AG h l vs):P l vs:=by k_with"o"=>exact(AG.rec (motive_1:=λ_ _ _=>True) (motive_2:=λl vs _=>P l vs) trivial (λ_=>trivial) (λ_ _=>trivial) (λ_ _=>trivial) (λ_ _=>trivial) (λ_ _ _=>trivial) (λ_=>trivial) n (λa b _ ih=>c a b ih) r)
theorem AG.length {h:Heap}{l:List V}{vs:List Value}(r:AG h l vs):l.length=vs.length:=by k_with"o"=>exact(AG.ind (P:=λl vs=>l.length=vs.length) rfl (λ_ _ ih=>congrArg (·+1) ih) r)
theorem AG.append {h:Heap}{l:List V}{vs:List Value}{l':List V}{Q1:List Value}(r:AG h l vs)(y:AG h l' Q1):AG h (l++l') (vs++Q1):=by k_with"o"=>exact(AG.ind (P:=λl vs=>AG h (l++l') (vs++Q1)) y (λa _ ih=>.cons a ih) r)
theorem AG.at {h:Heap}{l:List V}{vs:List Value}{i:Nat}{d:V}(r:AG h l vs)(e:l[i]?=some d):∃v,vs[i]?=some v/\RV h d v:=by k_with"o"=>exact(AG.ind (P:=λl vs=>∀i,l[i]?=some d->∃v,vs[i]?=some v/\RV h d v) (λi e=>by simp at e) (λa _ ih i e=>by
  cases i with
  |zero=>cases e;exact⟨_,rfl,a⟩
  |succ i=>exact ih i e) r i e)
theorem AG.at' {h:Heap}{l:List V}{vs:List Value}{i:Nat}{v:Value}(r:AG h l vs)(e:vs[i]?=some v):∃d,l[i]?=some d/\RV h d v:=by k_with"o"=>exact(AG.ind (P:=λl vs=>∀i,vs[i]?=some v->∃d,l[i]?=some d/\RV h d v) (λi e=>by simp at e) (λa _ ih i e=>by
  cases i with
  |zero=>cases e;exact⟨_,rfl,a⟩
  |succ i=>exact ih i e) r i e)
theorem AG.set {h:Heap}{l:List V}{vs:List Value}{i:Nat}{d:V}{v:Value}(r:AG h l vs)(z:RV h d v):AG h (l.set i d) (vs.set i v):=by k_with"o"=>exact(AG.ind (P:=λl vs=>∀i,AG h (l.set i d) (vs.set i v)) (λ_=>.nil) (λa b ih i=>by
  cases i with
  |zero=>exact .cons z b
  |succ i=>exact .cons a (ih i)) r i)
theorem AG.take {h:Heap}{l:List V}{vs:List Value}(n:Nat)(r:AG h l vs):AG h (l.take n) (vs.take n):=by k_with"o"=>exact(AG.ind (P:=λl vs=>∀n,AG h (l.take n) (vs.take n)) (λn=>by cases n<;>exact .nil) (λa b ih n=>by
  cases n with
  |zero=>exact .nil
  |succ n=>exact .cons a (ih n)) r n)
theorem AG.drop {h:Heap}{l:List V}{vs:List Value}(n:Nat)(r:AG h l vs):AG h (l.drop n) (vs.drop n):=by k_with"o"=>exact(AG.ind (P:=λl vs=>∀n,AG h (l.drop n) (vs.drop n)) (λn=>by cases n<;>exact .nil) (λa b ih n=>by
  cases n with
  |zero=>exact .cons a b
  |succ n=>exact ih n) r n)
def Hx (o o':Obj):Prop:=o'=o\/(o.cls=.type "frame"/\∃sl,o'={o with slots:=sl})
theorem Hx.refl (o:Obj):Hx o o:=.inl rfl
theorem Hx.trans {a b c:Obj}(x:Hx a b)(y:Hx b c):Hx a c:=by k_with"o"=>
 rcases x with rfl|⟨hc,sl,rfl⟩
 ·exact y
 ·rcases y with rfl|⟨_,Q5,rfl⟩
  ·exact .inr ⟨hc,sl,rfl⟩
  ·exact .inr ⟨hc,Q5,rfl⟩
theorem Hx.eq {o o':Obj}(x:Hx o o')(h:o.cls≠.type "frame"):o'=o:=x.elim id λy=>absurd y.1 h
theorem Hx.data {o o':Obj}(x:Hx o o'):o'.data=o.data:=by k_with"o"=>rcases x with rfl|⟨_,_,rfl⟩<;>rfl
theorem Hx.cls {o o':Obj}(x:Hx o o'):o'.cls=o.cls:=by k_with"o"=>rcases x with rfl|⟨_,_,rfl⟩<;>rfl
def Kept (own:List Addr)(h h':Heap):Prop:=∀b o,h.get? b=some o->b∉own->∃o',h'.get? b=some o'/\Hx o o'
structure Step (own RE:List Addr)(h h':Heap):Prop where
 kept:Kept own h h'
 fresh:∀a∈RE,a∈own\/h.objs.size<=a
 size:h.objs.size<=h'.objs.size
theorem Step.refl (own:List Addr)(h:Heap):Step own own h h:=by k_with"o"=>exact(⟨λ_ o e _=>⟨o,e,.refl o⟩,λ_ m=>.inl m,Ah _⟩)
theorem Step.trans {o1 o2 o3:List Addr}{h1 h2 h3:Heap}(x:Step o1 o2 h1 h2)(y:Step o2 o3 h2 h3):Step o1 o3 h1 h3 where
 kept b o e n:=by obtain⟨o',e',s'⟩:=x.kept b o e n;obtain⟨KP,PG,C3⟩:=y.kept b o' e' λm=>(x.fresh b m).elim n λq=>absurd (Am e) (Bh.mpr q);exact⟨KP,PG,s'.trans C3⟩
 fresh a m:=(y.fresh a m).elim (λq=>x.fresh a q) λq=>.inr (Aa x.size q)
 size:=Aa x.size y.size
theorem Step.mono {o1 MK o2 NH:List Addr}{h h':Heap}(x:Step o1 o2 h h')(a:∀b∈o1,b∈MK)(c:∀b∈NH,b∈o2\/b∈MK):Step MK NH h h' where
 kept b o e n:=x.kept b o e λm=>n (a b m)
 fresh b m:=(c b m).elim (λq=>(x.fresh b q).imp (a b) id) .inl
 size:=x.size
def CS (h:Heap)(own:List Addr):Prop:=∀a∈own,∀vs,h.get? a≠some (Fs vs)
theorem Kept.AD {own:List Addr}{h h':Heap}(k:Kept own h h')(n:CS h own):A0 h h':=by k_with"o"=>exact(λb vs e=>by obtain⟨o',e',s'⟩:=k b _ e λm=>n b m vs e;rw[e',s'.eq (by show Value.type "tuple" ≠ Value.type "frame";decide)])
theorem A0.trans {a b c:Heap}(x:A0 a b)(y:A0 b c):A0 a c:=λp vs e=>y p vs (x p vs e)
theorem A0.push (h:Heap)(o:Obj):A0 h (h.push o):=λ_ _ e=>Ad _ e
theorem A0.of_same {a:Addr}{h h':Heap}(s:Bs a h h')(n:∀vs,h.get? a≠some (Fs vs)):A0 h h':=by k_with"o"=>exact(λb vs e=>by rw[s.2 b λq=>n vs (q▸e)];exact e)
inductive O where
 |list (l:List V)
 |AN (es:List (Int×V))
 |AV (es:List (List Int×V))
 |DR (b:List UInt8)
 |ns (fs:List (Str×V))
 |inst (C d:Addr)
 |fz (ob:Obj) (x:O)
 |AY (a b c:Int)
variable {U:Program}{w:World}
def YD (h:Heap)(m:Str->Option Value)(fs:List (Str×V)):Prop:=
 ∀x,match fs.lookup x with
  |Option.none=>m x=Option.none
  |Gq d=>∃v,m x=Gq v/\RV h d v
inductive ey (h:Heap)(a:Addr)(l:List V):Prop
 |mk (vs:List Value) (n:Nat) (e:h.get? a=some {cls:=.type "list",data:=.seq vs.toArray n}) (r:AG h l vs)
inductive ez (U:Program)(w:World)(h:Heap)(a:Addr)(es:List (Int×V)):Prop
 |mk (kvs:List (Int×Value)) (e:h.DictOf (intKind U w) a kvs) (k:kvs.map (·.1)=es.map (·.1)) (r:AG h (es.map (·.2)) (kvs.map (·.2)))
inductive eu (U:Program)(w:World)(h:Heap)(a:Addr)(es:List (List Int×V)):Prop
 |mk (xs:List (List Int×Addr×Value)) (e:h.DictOfH (tupleKind (intKind U w)) a xs) (k:xs.map (·.1)=es.map (·.1)) (r:AG h (es.map (·.2)) (xs.map (·.2.2)))
   (t:AG h (es.map λe=>V.tup (e.1.map V.int)) (xs.map λx=>Value.ref x.2.1))
inductive ew (h:Heap)(a:Addr)(fs:List (Str×V)):Prop
 |mk (m:Str->Option Value) (e:h.Ns a m) (o:∃o es ep,h.get? a=some o/\o.cls=.type "dict"/\o.data=.dict es ep/\es.size<=fs.length) (r:YD h m fs)
def RO (U:Program)(w:World)(h:Heap)(a:Addr):O->Prop
 |.list l=>ey h a l
 |.AN es=>ez U w h a es
 |.AV es=>eu U w h a es
 |.DR b=>h.get? a=some {cls:=.type "bytearray",data:=.bytearray b.toArray}
 |.ns fs=>ew h a fs
 |.inst C d=>h.get? a=some {cls:=.ref C,dict:=some d,data:=.plain}
 |.fz ob x=>h.get? a=some ob/\RO U w h a x
 |.AY i j k=>∃t u v,IsRange h a i j k t u v
end
section
theorem RO.keep {U:Program}{w:World}{h h':Heap}{a:Addr}(k:∀o,h.get? a=some o->h'.get? a=some o)(E:A0 h h'){o:O}(R:RO U w h a o):RO U w h' a o:=by k_with"o"=>
 induction o with
 |list _=>obtain⟨vs,n,e,r⟩:=R;exact⟨vs,n,k _ e,r.AD E⟩
 |AN _=>obtain⟨kvs,⟨o,es,ep,e,r⟩,q,t⟩:=R;exact⟨kvs,⟨o,es,ep,k _ e,r⟩,q,t.AD E⟩
 |AV es=>
  obtain⟨xs,⟨o,ents,ep,e,x1,x2,x3,x4,x5⟩,q,t,u⟩:=R;refine⟨xs,⟨o,ents,ep,k _ e,x1,x2,x3,λx hx=>?_,x5⟩,q,t.AD E,u.AD E⟩;obtain⟨i,hi⟩:=Bx hx;obtain⟨d,hd,rv⟩:=u.at' (i:=i) (v:=.ref x.2.1) (by rw[Bw,hi];rfl);rw[Bw] at hd;cases GZ:es[i]? with
  |none=>rw[GZ] at hd;cases hd
  |some e'=>
   rw[GZ] at hd;injection hd with hd;subst hd;cases rv with
   |tup hg _=>obtain⟨o2,items,n2,h1,h2,h3,h4⟩:=x4 x hx;rw[hg] at h1;injection h1 with h1;subst h1;exact⟨_,items,n2,E _ _ hg,h2,h3,h4⟩
 |DR _=>exact k _ R
 |ns fs=>
  obtain⟨m,⟨o,es,ep,e,r⟩,⟨o2,MY,QR,e2,c2⟩,q⟩:=R;refine⟨m,⟨o,es,ep,k _ e,r⟩,⟨o2,MY,QR,k _ e2,c2⟩,λx=>?_⟩;have:=q x;cases hf:fs.lookup x with
  |none=>rw[hf] at this;exact this
  |some d=>rw[hf] at this;obtain⟨v,h1,h2⟩:=this;exact⟨v,h1,h2.AD E⟩
 |inst _ _=>exact k _ R
 |fz _ x ih=>exact⟨k _ R.1,ih R.2⟩
 |AY _ _ _=>obtain⟨t,u,v,e⟩:=R;exact⟨t,u,v,k _ e⟩
theorem RO.at {U:Program}{w:World}{h:Heap}{a:Addr}{o:O}(r:RO U w h a o):∃ob,h.get? a=some ob/\ob.cls≠.type "frame"/\ob.cls≠.type "tuple"/\∀v,ob.data≠.cell v:=by k_with"o"=>
 induction o with
 |list _=>obtain⟨_,_,e,_⟩:=r;exact⟨_,e,by show Value.type "list" ≠ Value.type "frame";decide,by show Value.type "list" ≠ Value.type "tuple";decide,λv q=>by cases q⟩
 |AN _=>obtain⟨_,⟨o,es,ep,e,⟨c,_⟩,d,_⟩,_,_⟩:=r;exact⟨o,e,by rw[c];decide,by rw[c];decide,λv q=>by rw[d] at q;cases q⟩
 |AV _=>obtain⟨_,⟨o,es,ep,e,⟨c,_⟩,d,_⟩,_,_,_⟩:=r;exact⟨o,e,by rw[c];decide,by rw[c];decide,λv q=>by rw[d] at q;cases q⟩
 |DR _=>exact⟨_,r,by show Value.type "bytearray" ≠ Value.type "frame";decide,by show Value.type "bytearray" ≠ Value.type "tuple";decide,λv q=>by cases q⟩
 |ns _=>obtain⟨_,⟨o',_,_,e',d',_⟩,⟨o,_,_,e,c,_⟩,_⟩:=r;exact⟨o,e,by rw[c];decide,by rw[c];decide,λv q=>by rw[e] at e';injection e' with e';subst e';rw[d'] at q;cases q⟩
 |inst _ _=>exact⟨_,r,(λq=>by cases q),(λq=>by cases q),λv q=>by cases q⟩
 |fz _ x ih=>exact ih r.2
 |AY _ _ _=>obtain⟨_,_,_,e⟩:=r;exact⟨_,e,by show Value.type "range" ≠ Value.type "frame";decide,by show Value.type "range" ≠ Value.type "tuple";decide,λv q=>by cases q⟩
inductive Nm where
 |loc (x:Str)
 |cell (x:Str) (a:Addr)
 |JZ
def zH (env:Env):Nm->Prop
 |.loc x=>env.kindOf x=some .local/\(x==("__debug__" : Str))=false
 |.cell x a=>((env.kindOf x=some .cell\/env.kindOf x=some .free)/\env.cells.lookup x=some a)/\(x==("__debug__" : Str))=false/\(x==("__classdict__" : Str))=false
 |.JZ=>True
noncomputable def Nm.nameOf:Nm->Option Str
 |.loc x=>some x
 |.cell x _=>some x
 |.JZ=>none
noncomputable def Nm.cellOf:Nm->Option Addr
 |.cell _ a=>some a
 |_=>none
noncomputable def Nm.GG:Nm->Option Str
 |.loc x=>some x
 |_=>none
def wA (h:Heap)(m:Str->Option Value):Nm->Option V->Prop
 |.loc x,none=>m x=none
 |.loc x,some d=>∃v,m x=some v/\RV h d v
 |.cell _ a,none=>h.IsCell a none
 |.cell _ a,some d=>∃v,h.IsCell a (some v)/\RV h d v
 |.JZ,_=>True
inductive Lv (h:Heap)(m:Str->Option Value):List Nm->List (Option V)->Prop
 |nil:Lv h m [] []
 |cons {n x ns xs:_}:wA h m n x->Lv h m ns xs->Lv h m (n::ns) (x::xs)
theorem Lv.inv {h:Heap}{m:Str->Option Value}{n:Nm}{ns:List Nm}{x:Option V}{xs:List (Option V)}(R:Lv h m (n::ns) (x::xs)):wA h m n x/\Lv h m ns xs:=by k_with"o"=>
 cases R with
 |cons a b=>exact⟨a,b⟩
theorem wA.keep {h h':Heap}{m m':Str->Option Value}{n:Nm}{x:Option V}(E:A0 h h')(hm:∀y,n.GG=some y->m' y=m y)
  (hc:∀a v,n.cellOf=some a->h.IsCell a v->h'.IsCell a v) (R:wA h m n x):wA h' m' n x:=by k_with"o"=>
 cases n with
 |loc y=>
  cases x with
  |none=>exact(hm y rfl).trans R
  |some d=>obtain⟨v,e,r⟩:=R;exact⟨v,(hm y rfl).trans e,r.AD E⟩
 |cell y a=>
  cases x with
  |none=>exact hc a _ rfl R
  |some d=>obtain⟨v,e,r⟩:=R;exact⟨v,hc a _ rfl e,r.AD E⟩
 |JZ=>trivial
theorem Lv.keep {h h':Heap}{m m':Str->Option Value}{ns:List Nm}{xs:List (Option V)}(E:A0 h h')(hm:∀y,y∈ns.filterMap Nm.GG->m' y=m y)
  (hc:∀a v,a∈ns.filterMap Nm.cellOf->h.IsCell a v->h'.IsCell a v) (R:Lv h m ns xs):Lv h' m' ns xs:=by k_with"o"=>
 induction R with
 |nil=>exact .nil
 |@cons n x ns xs r _ ih=>
  refine .cons (r.keep E (λy e=>hm y ?_) λa v e=>hc a v ?_) (ih (λy q=>hm y ?_) λa v q=>hc a v ?_)
  ·rw[Ce,e];exact .head _
  ·rw[Ce,e];exact .head _
  ·rw[Ce];split<;>first|exact q|exact .tail _ q
  ·rw[Ce];split<;>first|exact q|exact .tail _ q
structure Ctx where
 env:Env
 A:Around
 outer:List Env
 names:List Nm
 cls:Value
 lev:Nat
structure Ctx.Ok (c:Ctx):Prop where
 frames:c.A.frames=some c.outer
 handled:c.A.handled=none
 depth:c.A.depth+c.lev<=400
 units:c.A.units+10*c.lev<=4000
 kind:c.env.scope.kind=.function
 globals:c.env.globals=mainGlobals
 builtins:c.env.builtins=builtinsNs
 nms:∀n∈c.names,zH c.env n
 locs:(c.names.filterMap Nm.nameOf).Nodup
 JN:c.env.locals≠c.env.globals
 head:∃e o,c.outer=e::o/\c.env.frame=e.frame
noncomputable def Ctx.own (c:Ctx)(l:List (Addr×O)):List Addr:=c.env.locals::(c.names.filterMap Nm.cellOf++l.map (·.1))
inductive fj (n:Nat)(h:Heap)(env:Env):Prop
 |mk (L:Addr) (o:Obj) (es:Array DictEntry) (ep:Nat) (e:env.frame=some L) (a:n<=L) (b:h.get? L=some o) (c:o.cls=.type "frame") (d:o.data=.dict es ep)
def Frs (n:Nat)(h:Heap)(l:List Env):Prop:=∀env∈l,env.scope.kind≠.module/\fj n h env
structure F7 (B:Heap)(s0 s:Shared):Prop where
 hs:∃h tk,s={s0 with heap:=h,toks:=tk}
 stays:∀b o,B.get? b=some o->s.heap.get? b=some o
 room:B.objs.size<=s.heap.objs.size
inductive RelV (c:Ctx)(h:Heap)(r:List (Option V)):Prop
 |mk (m:Str->Option Value) (o:Obj) (a:h.Ns c.env.locals m) (b:h.get? c.env.locals=some o) (e:o.cls=c.cls) (d:Lv h m c.names r)
structure Rel (U:Program)(w:World)(B:Heap)(s0:Shared)(c:Ctx)(s:Shared)(r:List (Option V))(l:List (Addr×O)):Prop where
 AH:F7 B s0 s
 frames:Frs B.objs.size s.heap c.outer
 vars:RelV c s.heap r
 led:∀p∈l,RO U w s.heap p.1 p.2
 nodup:(c.own l).Nodup
 apart:∀a∈c.own l,B.objs.size<=a
variable {U:Program}{w:World}{B:Heap}{s0:Shared}{c:Ctx}{s:Shared}{r:List (Option V)}{l:List (Addr×O)}
theorem Lv.cellAt {h:Heap}{m:Str->Option Value}{ns:List Nm}{xs:List (Option V)}(R:Lv h m ns xs):∀a∈ns.filterMap Nm.cellOf,∃v,h.IsCell a v:=by k_with"o"=>
 induction R with
 |nil=>intro a ha;cases ha
 |@cons n x ns xs rr _ ih=>
  intro a ha;rw[Ce] at ha;cases n with
  |loc y=>exact ih a ha
  |JZ=>exact ih a ha
  |cell y b=>
   rcases Ag.mp ha with rfl|ha
   ·cases x with
    |none=>exact⟨_,rr⟩
    |some d=>exact⟨_,rr.choose_spec.1⟩
   ·exact ih a ha
theorem Rel.CS (R:Rel U w B s0 c s r l):CS s.heap (c.own l):=by k_with"o"=>
 intro a ha vs e;obtain⟨m,o,⟨o',es,ep,h1,h2,_⟩,h3,_,h5⟩:=R.vars;rcases Ag.mp ha with rfl|ha
 ·rw[h1] at e;injection e with e;subst e;cases h2
 rcases Ao.mp ha with ha|ha
 ·obtain⟨v,oc,q1,q2⟩:=h5.cellAt a ha;rw[q1] at e;injection e with e;subst e;cases q2
 ·obtain⟨p,hp,rfl⟩:=Af.mp ha;obtain⟨ob,q1,_,q2,_⟩:=(R.led p hp).at;rw[q1] at e;injection e with e;subst e;exact q2 rfl
theorem Rel.live (R:Rel U w B s0 c s r l):∀a∈c.own l,a<s.heap.objs.size:=by k_with"o"=>
 intro a ha;obtain⟨m,o,hn,h3,_,h5⟩:=R.vars;rcases Ag.mp ha with rfl|ha
 ·exact Am h3
 rcases Ao.mp ha with ha|ha
 ·obtain⟨v,oc,q1,q2⟩:=h5.cellAt a ha;exact Am q1
 ·obtain⟨p,hp,rfl⟩:=Af.mp ha;obtain⟨ob,q1,_⟩:=(R.led p hp).at;exact Am q1
theorem Frs.keep {n:Nat}{h h':Heap}{es:List Env}(k:∀b o,h.get? b=some o->o.cls=.type "frame"->(∃e p,o.data=.dict e p)->∃o',h'.get? b=some o'/\o'.cls=.type "frame"/\∃e p,o'.data=.dict e p)
  (F:Frs n h es):Frs n h' es:=by k_with"o"=>exact(λenv hm=>by
 obtain⟨h1,L,o,e,p,h2,h3,h4,h5,h6⟩:=F env hm;obtain⟨o',q1,q2,e',p',q3⟩:=k L o h4 h5 ⟨e,p,h6⟩;exact⟨h1,L,o',e',p',h2,h3,q1,q2,q3⟩)
theorem F7.push (G:F7 B s0 s)(o:Obj):F7 B s0 {s with heap:=s.heap.push o}:=by k_with"o"=>exact(⟨let ⟨_,tk,e⟩:=G.hs;⟨_,tk,by rw[e]⟩,λb ob e=>Ad _ (G.stays b ob e),by rw[Bc];exact Gg G.room⟩)
theorem F7.tok (G:F7 B s0 s)(t:Nat):F7 B s0 {s with toks:=t}:=by k_with"o"=>exact(⟨let ⟨h,_,e⟩:=G.hs;⟨h,t,by rw[e]⟩,G.stays,G.room⟩)
theorem Rel.tok (R:Rel U w B s0 c s r l)(t:Nat):Rel U w B s0 c {s with toks:=t} r l:=by k_with"o"=>exact(⟨R.AH.tok t,R.frames,R.vars,R.led,R.nodup,R.apart⟩)
theorem Rel.grow (R:Rel U w B s0 c s r l){h':Heap}{tk:Nat}(k:∀b o,s.heap.get? b=some o->h'.get? b=some o)(z:s.heap.objs.size<=h'.objs.size) :
  Rel U w B s0 c {s with heap:=h',toks:=tk} r l where
 AH:=⟨let ⟨_,_,e⟩:=R.AH.hs;⟨h',tk,by rw[e]⟩,λb o e=>k b o (R.AH.stays b o e),Aa R.AH.room z⟩
 frames:=R.frames.keep λb o e h1 h2=>⟨o,k b o e,h1,h2⟩
 vars:=by obtain⟨m,o,hn,h3,h4,h5⟩:=R.vars;exact⟨m,o,hn.keeps k,k _ _ h3,h4,h5.keep (λb vs e=>k _ _ e) (λ_ _=>rfl) λa v _ q=>q.keeps k⟩
 led:=λp hp=>(R.led p hp).keep (λo e=>k _ _ e) λb vs e=>k _ _ e
 nodup:=R.nodup
 apart:=R.apart
theorem Step.grow {own:List Addr}{h h':Heap}(k:∀b o,h.get? b=some o->h'.get? b=some o)(z:h.objs.size<=h'.objs.size):Step own own h h':=by k_with"o"=>exact(⟨λb o e _=>⟨o,k b o e,.refl o⟩,λ_ m=>.inl m,z⟩)
theorem Rel.alloc (R:Rel U w B s0 c s r l){o:Obj}{x:O}(hx:RO U w (s.heap.push o) s.heap.objs.size x) :
  Rel U w B s0 c {s with heap:=s.heap.push o} r ((s.heap.objs.size,x)::l):=by k_with"o"=>
 have k:∀b ob,s.heap.get? b=some ob->(s.heap.push o).get? b=some ob:=λb ob e=>Ad _ e;have R':=R.grow (h':=s.heap.push o) (tk:=s.toks) k (by rw[Bc];exact Cb _);refine⟨R'.AH,R'.frames,R'.vars,λp hp=>?_,?_,λa ha=>?_⟩
 ·rcases Ag.mp hp with rfl|hp
  ·exact hx
  ·exact R'.led p hp
 ·have hn:=R.nodup;have AJ:=R.live;unfold Ctx.own at hn AJ ⊢;rw[Aj];have hp:En (c.env.locals::(c.names.filterMap Nm.cellOf++s.heap.objs.size::l.map (·.1))) (s.heap.objs.size::c.env.locals::(c.names.filterMap Nm.cellOf++l.map (·.1))):=
   (En.cons _ Ed).trans (En.swap ..)
  rw[hp.nodup_iff,Ap];exact⟨λq=>Dv _ (AJ _ q),hn⟩
 ·have:a=s.heap.objs.size\/a∈c.own l:=by
   unfold Ctx.own at ha ⊢;simp only[Aj,Ag,Ao] at ha ⊢;rcases ha with h|h|h|h
   ·exact .inr (.inl h)
   ·exact .inr (.inr (.inl h))
   ·exact .inl h
   ·exact .inr (.inr (.inr h))
  rcases this with rfl|q
  ·exact R.AH.room
  ·exact R.apart a q
theorem Vw (c:Ctx)(p:Addr×O)(l:List (Addr×O)){a:Addr}:a∈c.own (p::l)↔a=p.1\/a∈c.own l:=by k_with"o"=>
 unfold Ctx.own;simp only[Aj,Ag,Ao];constructor
 ·rintro(h|h|h|h)<;>simp[h]
 ·rintro(h|h|h|h)<;>simp[h]
theorem Step.alloc {c:Ctx}{l:List (Addr×O)}{h:Heap}{o:Obj}{x:O}:Step (c.own l) (c.own ((h.objs.size,x)::l)) h (h.push o) where
 kept:=λb ob e _=>⟨ob,Ad _ e,.refl ob⟩
 fresh:=λa m=>by
  rcases(Vw c _ l).mp m with rfl|q
  ·exact .inr (Ah _)
  ·exact .inl q
 size:=by rw[Bc];exact Cb _
end
section
noncomputable abbrev Led:=List (Addr×O)
noncomputable abbrev Rg:=List (Option V)
def J9 (nB n:Nat)(a:Addr):Prop:=n<=a/\nB<=a
inductive MF (CT:Addr)(nB n:Nat)(i:Int)(e:Addr)(tr:Bool)(h:Heap):Prop
 |mk (d:Addr) (vs:Array Value) (sl:Array (Option Value)) (h1:h.get? e=some {cls:=.ref CT,dict:=some d,data:=.fields vs,slots:=sl}) (h2:J9 nB n e) (h3:J9 nB n d) (h4:d≠e) (h5:1<vs.size)
  (h6:∃m t,h.Ns d m/\m "at"=some (.int i t)) (h7:∃o,h.get? d=some o/\o.cls=.type "dict")
  (h8:(tr=false/\vs[1]?=some .none)\/
   ∃T oT ts,vs[1]?=some (.ref T)/\J9 nB n T/\T≠e/\T≠d/\h.get? T=some oT/\oT.data=.fields ts/\3<ts.size)
inductive Acd (CT:Addr)(nB n:Nat)(X:Int->Prop)(x:Value)(tr:Bool)(h:Heap):Prop
 |mk (e:Addr) (i:Int) (hx:x=.ref e) (hX:X i) (f:MF CT nB n i e tr h)
structure Ez where
 B:Heap
 s0:Shared
 CT:Addr
 mg:Str->Option Value
 mb:Str->Option Value
 K:Frag
structure Ez.Ok (U:Program)(w:World)(T:Ez):Prop where
 g:T.B.Ns mainGlobals T.mg
 b:T.B.Ns builtinsNs T.mb
 builtins:∀x:Str,x ≠ "__name__"->T.mb x=bootBuiltins x
 nolimit:T.B.NoLimit
 mods:sysModules<T.B.objs.size
 XR:mainGlobals<T.B.objs.size
 E8:T.K.In T.B
noncomputable abbrev Co (U:Program)(w:World)(T:Ez):=Rel U w T.B T.s0
structure Exc (U:Program)(w:World)(T:Ez)(outer:List Env)(own:List Addr)(h:Heap)(tr:Bool)(X:Int->Prop)(x:Value)(s':Shared):Prop where
 AH:F7 T.B T.s0 s'
 frames:Frs T.B.objs.size s'.heap outer
 kept:Kept own h s'.heap
 size:h.objs.size<=s'.heap.objs.size
 FI:Acd T.CT T.B.objs.size h.objs.size X x tr s'.heap
variable {U:Program}{w:World}{T:Ez}{c:Ctx}{s:Shared}{r:Rg}{l:Led}
inductive Lw (U:Program)(w:World)(T:Ez)(c:Ctx)(own:List Addr)(h:Heap)(r:Rg)(Q:V->Led->Prop)(v:Value)(s':Shared):Prop
 |mk (d:V) (l':Led) (a:RV s'.heap d v) (b:Co U w T c s' r l') (e:Step own (c.own l') h s'.heap) (q:Q d l')
noncomputable abbrev fm (U:Program)(w:World)(T:Ez)(c:Ctx)(own:List Addr)(h:Heap)(X:Int->Prop):=Exc U w T c.outer own h
theorem J9.mono {nB n n':Nat}{a:Addr}(h:J9 nB n a)(hn:n'<=n):J9 nB n' a:=⟨Aa hn h.1,h.2⟩
theorem MF.mono {CT:Addr}{nB n n':Nat}{i:Int}{e:Addr}{tr:Bool}{h:Heap}(F:MF CT nB n i e tr h)(hn:n'<=n):MF CT nB n' i e tr h:=by k_with"o"=>obtain⟨d,vs,sl,h1,h2,h3,h4,hz,h5,h6,h7⟩:=F;refine⟨d,vs,sl,h1,h2.mono hn,h3.mono hn,h4,hz,h5,h6,h7.imp id ?_⟩;rintro⟨T,oT,ts,q1,q2,q3⟩;exact⟨T,oT,ts,q1,q2.mono hn,q3⟩
theorem MF.weak {CT:Addr}{nB n:Nat}{i:Int}{e:Addr}{tr:Bool}{h:Heap}(F:MF CT nB n i e tr h):MF CT nB n i e false h:=by k_with"o"=>obtain⟨d,vs,sl,h1,h2,h3,h4,hz,h5,h6,h7⟩:=F;exact⟨d,vs,sl,h1,h2,h3,h4,hz,h5,h6,h7.imp (λq=>⟨rfl,q.2⟩) id⟩
theorem Exc.shift {outer:List Env}{o1 o2:List Addr}{h1 h2:Heap}{tr:Bool}{X Y:Int->Prop}{x:Value}{s':Shared}(S:Step o1 o2 h1 h2)(hX:∀i,X i->Y i)
  (e:Exc U w T outer o2 h2 tr X x s'):Exc U w T outer o1 h1 tr Y x s' where
 AH:=e.AH
 frames:=e.frames
 kept b o q n:=by obtain⟨o',e',s'⟩:=S.kept b o q n;obtain⟨KP,PG,C3⟩:=e.kept b o' e' λm=>(S.fresh b m).elim n λq'=>absurd (Am q) (Bh.mpr q');exact⟨KP,PG,s'.trans C3⟩
 size:=Aa S.size e.size
 FI:=let ⟨a,i,h1,h2,h3⟩:=e.FI;⟨a,i,h1,hX i h2,h3.mono S.size⟩
theorem Exc.weak {outer:List Env}{o1:List Addr}{h1:Heap}{tr:Bool}{X:Int->Prop}{x:Value}{s':Shared}
  (e:Exc U w T outer o1 h1 tr X x s'):Exc U w T outer o1 h1 false X x s':=by k_with"o"=>exact(⟨e.AH,e.frames,e.kept,e.size,let ⟨a,i,h1,h2,h3⟩:=e.FI;⟨a,i,h1,h2,h3.weak⟩⟩)
theorem Lw.shift {o1 o2:List Addr}{h1 h2:Heap}{Q:V->Led->Prop}{v:Value}{s':Shared}(S:Step o1 o2 h1 h2)(e:Lw U w T c o2 h2 r Q v s'):Lw U w T c o1 h1 r Q v s':=by k_with"o"=>exact(let ⟨d,l',h1,h2,h3,h4⟩:=e;⟨d,l',h1,h2,S.trans h3,h4⟩)
def Wt (U:Program)(w:World)(T:Ez)(c:Ctx)(t:Sem Value)(r:Rg)(Q:V->Led->Prop)(X:Int->Prop)(own:List Addr)(h:Heap)(s:Shared):Prop:=
 wpAny (model U w) c.A t (Lw U w T c own h r Q) (Exc U w T c.outer own h false X) s
def We (U:Program)(w:World)(T:Ez)(c:Ctx)(e:Expr)(r:Rg)(l:Led)(Q:V->Led->Prop)(X:Int->Prop):Prop:=
 ∀s,Co U w T c s r l->Wt U w T c (eval e c.env) r Q X (c.own l) s.heap s
def W0 (U:Program)(w:World)(T:Ez)(c:Ctx)(t:Sem Value)(r:Rg)(l:Led)(Q:V->Led->Prop)(X:Int->Prop):Prop:=
 ∀s,Co U w T c s r l->Wt U w T c t r Q X (c.own l) s.heap s
def W1 (U:Program)(w:World)(T:Ez)(c:Ctx)(f:Value->Sem Value)(a:V)(r:Rg)(l:Led)(Q:V->Led->Prop)(X:Int->Prop):Prop:=
 ∀s x,Co U w T c s r l->RV s.heap a x->Wt U w T c (f x) r Q X (c.own l) s.heap s
def W2 (U:Program)(w:World)(T:Ez)(c:Ctx)(f:Value->Value->Sem Value)(a b:V)(r:Rg)(l:Led)(Q:V->Led->Prop)(X:Int->Prop):Prop:=
 ∀s x y,Co U w T c s r l->RV s.heap a x->RV s.heap b y->Wt U w T c (f x y) r Q X (c.own l) s.heap s
def Wn (U:Program)(w:World)(T:Ez)(c:Ctx)(f:List Value->Sem Value)(as:List V)(r:Rg)(l:Led)(Q:V->Led->Prop)(X:Int->Prop):Prop:=
 ∀s xs,Co U w T c s r l->AG s.heap as xs->Wt U w T c (f xs) r Q X (c.own l) s.heap s
inductive kX (U:Program)(w:World)(T:Ez)(c:Ctx)(own:List Addr)(h:Heap)(r:Rg)(Q:Bool->Led->Prop)(b:Bool)(s':Shared):Prop
 |mk (l':Led) (a:Co U w T c s' r l') (e:Step own (c.own l') h s'.heap) (q:Q b l')
inductive zZ (U:Program)(w:World)(T:Ez)(c:Ctx)(own:List Addr)(h:Heap)(r:Rg)(Q:List V->Led->Prop)(vs:List Value)(s':Shared):Prop
 |mk (ds:List V) (l':Led) (a:AG s'.heap ds vs) (b:Co U w T c s' r l') (e:Step own (c.own l') h s'.heap) (q:Q ds l')
inductive Wv (U:Program)(w:World)(T:Ez)(c:Ctx)(own:List Addr)(h:Heap)(Q:Rg->Led->Prop)(s':Shared):Prop
 |mk (r':Rg) (l':Led) (a:Co U w T c s' r' l') (e:Step own (c.own l') h s'.heap) (q:Q r' l')
def Wb (U:Program)(w:World)(T:Ez)(c:Ctx)(e:Expr)(r:Rg)(l:Led)(Q:Bool->Led->Prop)(X:Int->Prop):Prop:=
 ∀s,Co U w T c s r l->wpAny (model U w) c.A (isTrue e c.env (eval e c.env)) (kX U w T c (c.own l) s.heap r Q) (Exc U w T c.outer (c.own l) s.heap false X) s
def Hd (U:Program)(w:World)(T:Ez)(c:Ctx)(pos:Pos)(es:List Expr)(r:Rg)(l:Led)(Q:List V->Led->Prop)(X:Int->Prop):Prop:=
 ∀s,Co U w T c s r l->wpAny (model U w) c.A (spliced (backTo pos (starEach es c.env))) (zZ U w T c (c.own l) s.heap r Q) (Exc U w T c.outer (c.own l) s.heap false X) s
inductive Fl where
 |next|brk|cont|ret (d:V)
def fk (h:Heap):Fl->Flow->Prop
 |.next,f=>f=.next
 |.brk,f=>f=.brk
 |.cont,f=>f=.cont
 |.ret d,f=>∃v,f=.ret v/\RV h d v
inductive Za (U:Program)(w:World)(T:Ez)(c:Ctx)(own:List Addr)(h:Heap)(Q:Fl->Rg->Led->Prop)(f:Flow)(s':Shared):Prop
 |mk (g:Fl) (r':Rg) (l':Led) (a:fk s'.heap g f) (b:Co U w T c s' r' l') (e:Step own (c.own l') h s'.heap) (q:Q g r' l')
def Ws (U:Program)(w:World)(T:Ez)(c:Ctx)(ss:List Stmt)(r:Rg)(l:Led)(Q:Fl->Rg->Led->Prop)(X:Int->Prop):Prop:=
 ∀s,Co U w T c s r l->wpAny (model U w) c.A (execs ss c.env) (Za U w T c (c.own l) s.heap Q) (Exc U w T c.outer (c.own l) s.heap false X) s
def BY (U:Program)(w:World)(T:Ez)(c:Ctx)(st:Stmt)(r:Rg)(l:Led)(Q:Fl->Rg->Led->Prop)(X:Int->Prop):Prop:=
 ∀s,Co U w T c s r l->wpAny (model U w) c.A (exec st c.env) (Za U w T c (c.own l) s.heap Q) (Exc U w T c.outer (c.own l) s.heap false X) s
def Wa (U:Program)(w:World)(T:Ez)(c:Ctx)(t:Expr)(d:V)(r:Rg)(l:Led)(Q:Rg->Led->Prop)(X:Int->Prop):Prop:=
 ∀s x,Co U w T c s r l->RV s.heap d x->wpAny (model U w) c.A (assign t c.env x) (λ_=>Wv U w T c (c.own l) s.heap Q) (Exc U w T c.outer (c.own l) s.heap false X) s
theorem Rel.AD {s1:Shared}{l1:Led}(R:Co U w T c s r l)(S:Step (c.own l) (c.own l1) s.heap s1.heap):A0 s.heap s1.heap:=by k_with"o"=>exact(S.kept.AD R.CS)
section
variable {Q:V->Led->Prop}{X:Int->Prop}
theorem Wt.seq {own:List Addr}{h:Heap}{l1:Led}{s1:Shared}{t:Sem Value}(S:Step own (c.own l1) h s1.heap)
  (x:Wt U w T c t r Q X (c.own l1) s1.heap s1):Wt U w T c t r Q X own h s1:=by k_with"o"=>exact(wpAny_mono x (λ_ _ p=>p.shift S) λ_ _ e=>e.shift S λ_ q=>q)
theorem Lw.done {s':Shared}{d:V}{l':Led}{v:Value}{own:List Addr}{h:Heap}(a:RV s'.heap d v)(b:Co U w T c s' r l')(e:Step own (c.own l') h s'.heap)(q:Q d l'):Lw U w T c own h r Q v s':=by k_with"o"=>exact(⟨d,l',a,b,e,q⟩)
theorem sM {a b:Expr}{op:Operator}{pos:Pos}
  (h:We U w T c a r l (λx l1=>We U w T c b r l1 (λy l2=>W2 U w T c (binaryOp op) x y r l2 Q X) X) X):We U w T c (.BinOp a op b pos) r l Q X:=by k_with"o"=>exact(λs R=>
 wpAny_BinOp (wpAny_mono (h s R) (λ_ _ ⟨x,l1,FN,R1,S1,q1⟩=>wpAny_mono (q1 _ R1) (λ_ _ ⟨y,l2,DN,R2,S2,q2⟩=>
  Wt.seq (S1.trans S2) (q2 _ _ _ R2 (FN.AD (R1.AD S2)) DN)) λ_ _ e=>e.shift S1 λ_ q=>q) λ_ _ e=>e))
theorem kP {a b:Expr}{op:CmpOp}{pos:Pos}(hm:behindInMarks op b=false)
  (h:We U w T c a r l (λx l1=>We U w T c b r l1 (λy l2=>W2 U w T c (compareOp op) x y r l2 Q X) X) X):We U w T c (.Compare a [op] [b] pos) r l Q X:=by k_with"o"=>exact(λs R=>
 wpAny_Compare1 (wpAny_mono (h s R) (λ_ _ ⟨x,l1,FN,R1,S1,q1⟩=>wpAny_mono (q1 _ R1) (λ_ _ ⟨y,l2,DN,R2,S2,q2⟩=>
  Wt.seq (S1.trans S2) (q2 _ _ _ R2 (FN.AD (R1.AD S2)) DN)) λ_ _ e=>e.shift S1 λ_ q=>q) λ_ _ e=>e) hm)
theorem sJ {t a b:Expr}{pos:Pos}(h:Wb U w T c t r l (λx l1=>if x then We U w T c a r l1 Q X else We U w T c b r l1 Q X) X):We U w T c (.IfExp t a b pos) r l Q X:=by k_with"o"=>exact(λs R=>
 IfExp_ (wpAny_mono (h s R) (λx _ ⟨l1,R1,S1,q1⟩=>by
  cases x
  ·exact Wt.seq S1 (q1 _ R1)
  ·exact Wt.seq S1 (q1 _ R1)) λ_ _ e=>e))
theorem vJ {i:Int}{k:Nat}{pos:Pos}(h:Q (.int i) l):We U w T c (.Constant (.int i) k pos) r l Q X:=by k_with"o"=>exact(λs R=>
 wpAny_Constant_int (Lw.done (.int i _) (R.tok _) (.refl _ _) h))
theorem yS {k:Nat}{pos:Pos}(h:Q .none l):We U w T c (.Constant .none k pos) r l Q X:=by k_with"o"=>exact(λs R=>
 Constant_none (Lw.done .none R (.refl _ _) h))
theorem yV {b:Bool}{k:Nat}{pos:Pos}(h:Q (.bool b) l):We U w T c (.Constant (.bool b) k pos) r l Q X:=by k_with"o"=>exact(λs R=>
 Constant_bool (Lw.done (.bool b) R (.refl _ _) h))
theorem Abn {x:Str}{k:Nat}{pos:Pos}(h:Q (.str x) l):We U w T c (.Constant (.str x) k pos) r l Q X:=by k_with"o"=>exact(λs R _ _ _=>
 Lw.done (.str x _) (R.tok _) (.refl _ _) h)
theorem kL {x:List UInt8}{k:Nat}{pos:Pos}(h:Q (.bytes x) l):We U w T c (.Constant (.bytes x) k pos) r l Q X:=by k_with"o"=>exact(λs R _ _ _=>
 Lw.done (.bytes x _) (R.tok _) (.refl _ _) h)
theorem Mi {pos:Pos}{Q:List V->Led->Prop}(h:Q [] l):Hd U w T c pos [] r l Q X:=by k_with"o"=>exact(λs R=>
 args_nil ⟨[],l,.nil,R,.refl _ _,h⟩)
theorem kT {pos:Pos}{e:Expr}{es:List Expr}{Q:List V->Led->Prop}(he:starEach (e::es) c.env=(false,eval e c.env)::starEach es c.env)
  (h:We U w T c e r l (λx l1=>Hd U w T c pos es r l1 (λys l2=>Q (x::ys) l2) X) X):Hd U w T c pos (e::es) r l Q X:=by k_with"o"=>exact(λs R=>
 args_cons (wpAny_mono (h s R) (λ_ _ ⟨x,l1,FN,R1,S1,q1⟩=>wpAny_mono (q1 _ R1) (λ_ _ ⟨ys,l2,DN,R2,S2,q2⟩=>
  ⟨x::ys,l2,.cons (FN.AD (R1.AD S2)) DN,R2,S1.trans S2,q2⟩) λ_ _ e=>e.shift S1 λ_ q=>q) λ_ _ e=>e) he)
theorem kS {a b:Expr}{op:CmpOp}{pos:Pos}{Q:Bool->Led->Prop}(hm:behindInMarks op b=false)
  (h:We U w T c a r l (λx l1=>We U w T c b r l1 (λy l2=>W2 U w T c (compareOp op) x y r l2 (λd l3=>∃q,d=.bool q/\Q q l3) X) X) X):Wb U w T c (.Compare a [op] [b] pos) r l Q X:=by k_with"o"=>exact(λs R=>
 wpAny_isTrue_Compare1 (wpAny_mono (h s R) (λ_ _ ⟨x,l1,FN,R1,S1,q1⟩=>wpAny_mono (q1 _ R1) (λ_ _ ⟨y,l2,DN,R2,S2,q2⟩=>
  wpAny_mono (q2 _ _ _ R2 (FN.AD (R1.AD S2)) DN) (λ_ _ ⟨z,l3,F',R3,S3,b,e,q3⟩=>by subst e;cases F';exact wpAny_truthy_bool ⟨l3,R3,(S1.trans S2).trans S3,q3⟩) λ_ _ e=>e.shift (S1.trans S2) λ_ q=>q) λ_ _ e=>e.shift S1 λ_ q=>q) λ_ _ e=>e) hm)
theorem zC {a:Expr}{pos:Pos}{Q:Bool->Led->Prop}(h:Wb U w T c a r l (λx l1=>Q (!x) l1) X):Wb U w T c (.UnaryOp .Not a pos) r l Q X:=by k_with"o"=>exact(λs R=>
 isTrue_not (wpAny_mono (h s R) (λ_ _ ⟨l1,a,b,q⟩=>⟨l1,a,b,q⟩) λ_ _ e=>e))
theorem nY {pos:Pos}{Q:Bool->Led->Prop}(h:Q true l):Wb U w T c (.BoolOp .And [] pos) r l Q X:=by k_with"o"=>exact(λs R=>
 isTrue_and_nil ⟨l,R,.refl _ _,h⟩)
theorem eL {pos:Pos}{Q:Bool->Led->Prop}(h:Q false l):Wb U w T c (.BoolOp .Or [] pos) r l Q X:=by k_with"o"=>exact(λs R=>
 isTrue_or_nil ⟨l,R,.refl _ _,h⟩)
theorem zB {a:Expr}{es:List Expr}{pos:Pos}{Q:Bool->Led->Prop}
  (h:Wb U w T c a r l (λx l1=>if x then Wb U w T c (.BoolOp .And es pos) r l1 Q X else Q false l1) X):Wb U w T c (.BoolOp .And (a::es) pos) r l Q X:=by k_with"o"=>exact(λs R=>
 isTrue_and (wpAny_mono (h s R) (λx _ ⟨l1,R1,S1,q1⟩=>by
  cases x
  ·exact⟨l1,R1,S1,q1⟩
  ·exact wpAny_mono (q1 _ R1) (λ_ _ ⟨l2,R2,S2,q2⟩=>⟨l2,R2,S1.trans S2,q2⟩) λ_ _ e=>e.shift S1 λ_ q=>q) λ_ _ e=>e))
theorem Abq {a:Expr}{es:List Expr}{pos:Pos}{Q:Bool->Led->Prop}
  (h:Wb U w T c a r l (λx l1=>if x then Q true l1 else Wb U w T c (.BoolOp .Or es pos) r l1 Q X) X):Wb U w T c (.BoolOp .Or (a::es) pos) r l Q X:=by k_with"o"=>exact(λs R=>
 isTrue_or (wpAny_mono (h s R) (λx _ ⟨l1,R1,S1,q1⟩=>by
  cases x
  ·exact wpAny_mono (q1 _ R1) (λ_ _ ⟨l2,R2,S2,q2⟩=>⟨l2,R2,S1.trans S2,q2⟩) λ_ _ e=>e.shift S1 λ_ q=>q
  ·exact⟨l1,R1,S1,q1⟩) λ_ _ e=>e))
theorem Xu {Q:Fl->Rg->Led->Prop}(h:Q .next r l):Ws U w T c [] r l Q X:=by k_with"o"=>exact(λs R=>
 wpAny_execs_nil ⟨.next,r,l,rfl,R,.refl _ _,h⟩)
theorem Ss {st:Stmt}{ss:List Stmt}{Q:Fl->Rg->Led->Prop}
  (h:BY U w T c st r l (λf r1 l1=>match f with | .next=>Ws U w T c ss r1 l1 Q X|f=>Q f r1 l1) X):Ws U w T c (st::ss) r l Q X:=by k_with"o"=>exact(λs R=>
 wpAny_execs_cons (wpAny_mono (h s R) (λf _ ⟨g,r1,l1,hf,R1,S1,q1⟩=>by
  cases g with
  |next=>cases hf;exact wpAny_mono (q1 _ R1) (λ_ _ ⟨g,r2,l2,hf,R2,S2,q2⟩=>⟨g,r2,l2,hf,R2,S1.trans S2,q2⟩) λ_ _ e=>e.shift S1 λ_ q=>q
  |brk=>cases hf;exact⟨.brk,r1,l1,rfl,R1,S1,q1⟩
  |cont=>cases hf;exact⟨.cont,r1,l1,rfl,R1,S1,q1⟩
  |ret d=>obtain⟨v,rfl,rv⟩:=hf;exact⟨.ret d,r1,l1,⟨v,rfl,rv⟩,R1,S1,q1⟩) λ_ _ e=>e))
theorem nO {e:Expr}{pos:Pos}{Q:Fl->Rg->Led->Prop}(h:We U w T c e r l (λd l1=>Q (.ret d) r l1) X):BY U w T c (.Return (some e) pos) r l Q X:=by k_with"o"=>exact(λs R=>
 wpAny_Return_some (wpAny_mono (h s R) (λv _ ⟨d,l1,rv,R1,S1,q1⟩=>⟨.ret d,r,l1,⟨v,rfl,rv⟩,R1,S1,q1⟩) λ_ _ e=>e))
theorem Abk {t:Expr}{a b:List Stmt}{pos:Pos}{Q:Fl->Rg->Led->Prop}(h:Wb U w T c t r l (λx l1=>if x then Ws U w T c a r l1 Q X else Ws U w T c b r l1 Q X) X) :
  BY U w T c (.If t a b pos) r l Q X:=by k_with"o"=>exact(λs R=>
 wpAny_If (wpAny_mono (h s R) (λx _ ⟨l1,R1,S1,q1⟩=>by cases x<;>exact wpAny_mono (q1 _ R1) (λ_ _ ⟨g,r2,l2,hf,R2,S2,q2⟩=>⟨g,r2,l2,hf,R2,S1.trans S2,q2⟩) λ_ _ e=>e.shift S1 λ_ q=>q) λ_ _ e=>e))
theorem vD {e:Expr}{pos:Pos}{Q:Fl->Rg->Led->Prop}(hi:interactive c.env=false)(hs:swapsWith e none pos.line c.env=pure false)
  (h:We U w T c e r l (λ_ l1=>Q .next r l1) X):BY U w T c (.Expr e pos) r l Q X:=by k_with"o"=>exact(λs R=>
 wpAny_Expr_any (wpAny_mono (h s R) (λv _ ⟨d,l1,rv,R1,S1,q1⟩=>⟨.next,r,l1,rfl,R1,S1,q1⟩) λ_ _ e=>e) hi hs)
end
end
variable {U:Program}{w:World}{T:Ez}{c:Ctx}{s:Shared}{r:Rg}{l:Led}{Q:V->Led->Prop}{X:Int->Prop}{A:Around}{E:Value->Shared->Prop}{pos:Pos}{a C:Addr}{h h' h0:Heap}{es args ifs:List Expr}{ds as xs:List V}{v f:Value}{m:Str->Option Value}{body ss:List Stmt}{vs:List Value}{lev i n k:Nat}{e target iter:Expr}{ns:List Nm}{d:V}{fs:List (Str×V)}{own own0:List Addr}{scope:Scope}{cl:List (Str×Addr)}{st:Stmt}{b:List UInt8}{M:Model}{x:Str}{o:Obj}{ks:List Int}{J:Nat->Rg->Led->Prop}{outer:List Env}
theorem iK (name:Str)(k:Int)(key v:Value)(o:Obj):(Obj.putName name k key v o).cls=o.cls:=by k_with"o"=>
 rw[Obj.putName_eq];obtain⟨cl,d,dt,sl⟩:=o;cases dt<;>try rfl
 simp only[Obj.putNameByArray];split<;>rfl
theorem putName_dict (name:Str)(k:Int)(key v:Value)(o:Obj)(h:∃e p,o.data=.dict e p):∃e p,(Obj.putName name k key v o).data=.dict e p:=by k_with"o"=>rw[Obj.putName_eq];obtain⟨cl,d,dt,sl⟩:=o;obtain⟨e,p,rfl⟩:=h;simp only[Obj.putNameByArray];split<;>exact⟨_,_,rfl⟩
theorem fG (name:Str)(k:Int)(key v:Value)(o:Obj){es:Array DictEntry}{ep:Nat}(h:o.data=.dict es ep) :
  ∃A9 JG,(Obj.putName name k key v o).data=.dict A9 JG/\A9.size<=es.size+1/\(nsFind es name≠none->A9.size<=es.size):=by k_with"o"=>
 rw[Obj.putName_eq];obtain⟨cl,d,dt,sl⟩:=o;dsimp only at h;subst h;simp only[Obj.putNameByArray];split
 ·exact⟨_,_,rfl,by simp,λ_=>by simp⟩
 ·rename_i hn;refine⟨_,_,rfl,by simp,λq=>absurd ?_ q⟩;unfold nsFind;rw[findBy_of_findIdx?,hn]
theorem mD {m}{name:Str}{Q:Unit->Shared->Prop}(hn:s.heap.Ns a m)
  (h:∀h',h'.Ns a (λx=>if x=name then some v else m x)->Bs a s.heap h'->
   (∀o,s.heap.get? a=some o->∃o',h'.get? a=some o'/\o'.cls=o.cls/\(∃e p,o'.data=.dict e p)/\∀es ep,o.data=.dict es ep->∃A9 JG,o'.data=.dict A9 JG/\A9.size<=es.size+1/\(m name≠none->A9.size<=es.size))->Q () {s with heap:=h',toks:=s.toks+1}):wpAny M A (nsSet a name v) Q E s:=by k_with"o"=>exact(fun Γ p hΓ=>by
 have key:∀(P:Unit->Pos->Shared->Prop),Sem.wp M Γ (nsSet a name v) P (λe _ s'=>E e s') p s ↔
   ∃hh:Int,P () p {s with heap:=s.heap.update a (Obj.putName name hh (.str name s.toks) v),toks:=s.toks+1}/\hh=(if name.cps.isEmpty=true then 0 else reduceHash (M.w.params.strHash name.cps)):=by
  intro P;obtain⟨o,es,ep,ho,hd,hk,hm⟩:=hn;have LW:es.any (·.refKey)=false:=by rw[Array.any_eq_false'];intro e he;obtain⟨n,t,q⟩:=hk e he;simp[DictEntry.refKey,q]
  simp only[nsSet,PySem.strHash,Sem.wp_bind',Sem.wp_cmd_ask,Sem.wp_pure',Sem.wp_cmd_mkText];rw[Sem.wp_loadPart_of M Γ _ p {s with toks:=s.toks+1} (o:=o) _ ho];simp only[hd,aRefKeyMayBeTheName_eq,aRefKeyMayBeTheNameByArray,LW,Uo,Bi,if_false,Sem.wp_cmd_updatePart];constructor
  ·rintro⟨_,q⟩;exact⟨_,q,rfl⟩
  ·rintro⟨_,q,rfl⟩;exact⟨by rw[ho];rfl,q⟩
 have Y2:=Sem.wp_nsSet M Γ (λe _ s'=>E e s') p s hn name v (λ_ _ s'=>∃h',s'={s with heap:=h',toks:=s.toks+1}/\h'.Ns a (λx=>if x=name then some v else m x)) λh' h1 _=>⟨h',rfl,h1⟩;obtain⟨hh,⟨h',e1,e2⟩,_⟩:=(key _).mp Y2;have e3:s.heap.update a (Obj.putName name hh (.str name s.toks) v)=h':=by have:=congrArg Shared.heap e1;exact this
 refine(key _).mpr ⟨hh,h _ (e3▸e2) (Bs.update ..) (λo ho=>?_),by assumption⟩;obtain⟨o0,es,ep,QI,OX,_,IJ⟩:=hn;rw[ho] at QI;injection QI with QI;subst QI;refine⟨_,Bv _ ho ?_,iK ..,putName_dict _ _ _ _ _ ⟨_,_,OX⟩,λg9 ic h1=>?_⟩
 rotate_left
 ·obtain⟨A9,JG,q1,q2,q3⟩:=fG name hh (.str name s.toks) v o h1;refine⟨A9,JG,q1,q2,λz=>q3 ?_⟩;rw[OX] at h1;injection h1 with h1 _;subst h1;rw[IJ];exact z
 obtain⟨e',p',q⟩:=putName_dict name hh (.str name s.toks) v o ⟨_,_,OX⟩;exact Obj.isFreed_of_dict q)
structure zF (U:Program)(w:World)(T:Ez)(c:Ctx)(l:Led)(s:Shared)(a:Addr)(h':Heap)(tk:Nat):Prop where
 AH:F7 T.B T.s0 {s with heap:=h',toks:=tk}
 frames:Frs T.B.objs.size h' c.outer
 AD:A0 s.heap h'
 ro:∀b x,b≠a->RO U w s.heap b x->RO U w h' b x
 step:Step (c.own l) (c.own l) s.heap h'
theorem Rel.HD (R:Co U w T c s r l)(tk:Nat)(ha:a∈c.own l)(S:Bs a s.heap h')
  (fr:∀o,s.heap.get? a=some o->o.cls=.type "frame"->(∃e p,o.data=.dict e p)->∃o',h'.get? a=some o'/\o'.cls=.type "frame"/\∃e p,o'.data=.dict e p):zF U w T c l s a h' tk:=by k_with"o"=>
 have E:A0 s.heap h':=A0.of_same S (R.CS a ha);refine⟨⟨let ⟨_,_,e⟩:=R.AH.hs;⟨h',tk,by rw[e]⟩,λb o e=>?_,?_⟩,?_,E,λb x hb hr=>hr.keep (λo e=>(S.2 b hb).trans e) E,⟨λb o e n=>?_,λ_ m=>.inl m,Ef S.1.symm⟩⟩
 ·exact(S.2 b λq=>absurd (Am e) (Bh.mpr (q▸R.apart a ha))).trans (R.AH.stays b o e)
 ·exact Aa R.AH.room (Ef S.1.symm)
 ·refine R.frames.keep λb o e h1 h2=>?_;by_cases q:b=a
  ·subst q;exact fr o e h1 h2
  ·exact⟨o,(S.2 b q).trans e,h1,h2⟩
 ·exact⟨o,(S.2 b λq=>n (q▸ha)).trans e,.refl o⟩
inductive Look:List Nm->Rg->Str->V->Prop
 |loc {x d ns r:_}:Look (.loc x::ns) (some d::r) x d
 |cell {x a d ns r:_}:Look (.cell x a::ns) (some d::r) x d
 |there {n ns o r x d:_}:Look ns r x d->Look (n::ns) (o::r) x d
theorem Look.found (k:Look ns r x d)(R:Lv h m ns r) :
  (Nm.loc x∈ns/\∃v,m x=some v/\RV h d v)\/∃a,Nm.cell x a∈ns/\∃v,h.IsCell a (some v)/\RV h d v:=by k_with"o"=>
 induction k with
 |loc=>exact .inl ⟨.head _,R.inv.1⟩
 |cell=>exact .inr ⟨_,.head _,R.inv.1⟩
 |there _ ih=>
  rcases ih R.inv.2 with⟨a,b⟩|⟨a,b,e⟩
  ·exact .inl ⟨.tail _ a,b⟩
  ·exact .inr ⟨a,.tail _ b,e⟩
theorem yX (C:c.Ok)(k:Look c.names r x d)(hq:Q d l):We U w T c (.Name x pos) r l Q X:=by k_with"o"=>exact(λs R=>by
 obtain⟨m,o,hn,h3,_,h5⟩:=R.vars;rcases k.found h5 with⟨hm,v,hv,rv⟩|⟨a,hm,v,hv,rv⟩
 ·obtain⟨hk,hd⟩:=C.nms _ hm;exact wpAny_Name (wpAny_loadName_local C.kind hk hn hv ⟨d,l,rv,R,.refl _ _,hq⟩) hd
 ·obtain⟨⟨hk,hl⟩,hd,hc⟩:=C.nms _ hm;rcases hk with hk|hk
  ·exact wpAny_Name (wpAny_loadName_cell C.kind hk hl hv ⟨d,l,rv,R,.refl _ _,hq⟩) hd
  ·exact wpAny_Name (wpAny_loadName_free C.kind hk hl hv ⟨d,l,rv,R,.refl _ _,hq⟩ hc) hd)
inductive Upd:List Nm->Rg->Str->V->Rg->Prop
 |loc {x d ns o r:_}:Upd (.loc x::ns) (o::r) x d (some d::r)
 |cell {x a d ns o r:_}:Upd (.cell x a::ns) (o::r) x d (some d::r)
 |there {n ns o r x d r':_}:Upd ns r x d r'->Upd (n::ns) (o::r) x d (o::r')
theorem Upd.name_mem {r':Rg}(k:Upd ns r x d r'):x∈ns.filterMap Nm.nameOf:=by k_with"o"=>
 induction k with
 |loc=>exact .head _
 |cell=>exact .head _
 |there _ ih=>
  rw[Ce];split
  ·exact ih
  ·exact .tail _ ih
theorem Ut {n:Nm}(h:((n::ns).filterMap Nm.nameOf).Nodup):(ns.filterMap Nm.nameOf).Nodup:=by k_with"o"=>
 rw[Ce] at h;split at h
 ·exact h
 ·exact(Ap.mp h).2
theorem Kw {n:Nm}(h:((n::ns).filterMap Nm.nameOf).Nodup)(hx:x∈ns.filterMap Nm.nameOf):n.nameOf≠some x:=by k_with"o"=>exact(λe=>by rw[Ce,e] at h;exact(Ap.mp h).1 hx)
theorem Nm.E7 {n:Nm}(h:n.GG=some x):n.nameOf=some x:=by k_with"o"=>cases n<;>simp_all [Nm.GG,Nm.nameOf]
theorem Upd.NA (E:A0 h h')(hc:∀a v,h.IsCell a v->h'.IsCell a v)(rv:RV h' d v){r':Rg}(k:Upd ns r x d r')
  (hx:∀a,Nm.cell x a∉ns) (nd:(ns.filterMap Nm.nameOf).Nodup) (R:Lv h m ns r):Lv h' (λy=>if y=x then some v else m y) ns r':=by k_with"o"=>
 induction k with
 |loc=>refine .cons ⟨v,if_pos rfl,rv⟩ (R.inv.2.keep E (λy hy=>if_neg λe=>?_) λa v _=>hc a v);subst e;obtain⟨n,hn,e⟩:=Dr.mp hy;exact Kw nd (Dr.mpr ⟨n,hn,Nm.E7 e⟩) rfl
 |cell=>exact absurd (.head _) (hx _)
 |there k ih=>refine .cons (R.inv.1.keep E (λy e=>if_neg λq=>?_) λa v _=>hc a v) (ih rv (λa ha=>hx a (.tail _ ha)) (Ut nd) R.inv.2);subst q;exact Kw nd k.name_mem (Nm.E7 e)
theorem Upd.NB (E:A0 h h')(hc:∀b v,b≠a->h.IsCell b v->h'.IsCell b v)(ha:h'.IsCell a (some v))(rv:RV h' d v){r':Rg}(k:Upd ns r x d r')(hm:Nm.cell x a∈ns)(nd:(ns.filterMap Nm.nameOf).Nodup)(cd:(ns.filterMap Nm.cellOf).Nodup)(R:Lv h m ns r):Lv h' m ns r':=by k_with"o"=>
 induction k with
 |loc=>
  rcases Ag.mp hm with e|e
  ·cases e
  ·exact absurd rfl (Kw nd (Dr.mpr ⟨_,e,rfl⟩))
 |@cell _ a0=>
  have e:a=a0:=by
   rcases Ag.mp hm with e|e
   ·injection e
   ·exact absurd rfl (Kw nd (Dr.mpr ⟨_,e,rfl⟩))
  subst e;refine .cons ⟨v,ha,rv⟩ (R.inv.2.keep E (λ_ _=>rfl) λb u hb=>hc b u λe=>?_);rw[Ce] at cd;exact(Ap.mp cd).1 (e▸hb)
 |@there n ns _ _ x _ _ k ih=>
  have AE:Nm.cell x a∈ns:=by
   rcases Ag.mp hm with e|e
   ·exact absurd (by rw[<-e];rfl) (Kw nd k.name_mem)
   ·exact e
  have et:(ns.filterMap Nm.cellOf).Nodup:=by
   rw[Ce] at cd;split at cd
   ·exact cd
   ·exact(Ap.mp cd).2
  refine .cons (R.inv.1.keep E (λ_ _=>rfl) λb u hb=>hc b u λe=>?_) (ih rv AE (Ut nd) et R.inv.2);subst e;rw[Ce,hb] at cd;exact(Ap.mp cd).1 (Dr.mpr ⟨_,AE,rfl⟩)
theorem Sd (c:Ctx)(l:Led):c.env.locals∈c.own l:=.head _
theorem Hv (h:a∈c.names.filterMap Nm.cellOf):a∈c.own l:=.tail _ (Al _ h)
theorem Em {p:Addr×O}(h:p∈l):p.1∈c.own l:=by k_with"o"=>exact(.tail _ (Aq _ (Af.mpr ⟨p,h,rfl⟩)))
theorem Rel.B8 (R:Co U w T c s r l){p:Addr×O}(h:p∈l):p.1≠c.env.locals:=by k_with"o"=>exact(λe=>
 (Ap.mp R.nodup).1 (e▸Aq _ (Af.mpr ⟨p,h,rfl⟩)))
theorem Rel.BS (R:Co U w T c s r l)(h:a∈c.names.filterMap Nm.cellOf):a≠c.env.locals:=by k_with"o"=>exact(λe=>
 (Ap.mp R.nodup).1 (e▸Al _ h))
theorem Rel.A3 (R:Co U w T c s r l){p:Addr×O}(h:p∈l)(ha:a∈c.names.filterMap Nm.cellOf):p.1≠a:=by k_with"o"=>exact(λe=>
 (Cd.mp (Ap.mp R.nodup).2).2.2 a ha p.1 (Af.mpr ⟨p,h,rfl⟩) e.symm)
theorem Rel.DM (R:Co U w T c s r l):(c.names.filterMap Nm.cellOf).Nodup:=by k_with"o"=>exact((Cd.mp (Ap.mp R.nodup).2).1)
theorem Rel.BF (R:Co U w T c s r l):(l.map (·.1)).Nodup:=(Cd.mp (Ap.mp R.nodup).2).2.1
structure Ctx.QX (c:Ctx):Prop where
 kind:c.env.scope.kind=.function
 nms:∀n∈c.names,zH c.env n
 locs:(c.names.filterMap Nm.nameOf).Nodup
theorem Ctx.Ok.ML (C:c.Ok):c.QX:=⟨C.kind,C.nms,C.locs⟩
theorem Mc {Q:Rg->Led->Prop}{r':Rg}(C:c.QX)(k:Upd c.names r x d r')(R:Co U w T c s r l)(rv:RV s.heap d v)
  (S0:Step own (c.own l) h0 s.heap) (hq:Q r' l):wpAny (model U w) A (storeName c.env x v) (λ_=>Wv U w T c own h0 Q) E s:=by
 obtain⟨m,o,hn,h3,h4,h5⟩:=R.vars;have A8:=k.name_mem;obtain⟨n,MQ,BK⟩:=Dr.mp A8;have hp:(c.env.scope.kind==.class || (c.env.scope.kind==.module&&c.env.locals != c.env.globals))=false:=by rw[C.kind];rfl
 cases n with
 |JZ=>cases BK
 |loc y=>
  injection BK with BK;subst BK;have hk:=C.nms _ MQ;rw[storeName_local hk.1 hp];refine mD hn λh' I5 S' FG=>?_;have t:=R.HD (h':=h') (s.toks+1) (Sd c l) S' λo ho h1 h2=>let ⟨o',q1,q2,q3,_⟩:=FG o ho;⟨o',q1,q2.trans h1,q3⟩;obtain⟨o',q1,q2,_⟩:=FG o h3;have UN:∀a v,a∈c.names.filterMap Nm.cellOf->s.heap.IsCell a v->h'.IsCell a v:=λa v ha q=>q.sameBut S' (R.BS ha);have Z2:∀a,Nm.cell y a∉c.names:=λa ha=>by
   have:=C.locs
   revert this
   generalize c.names=ns at MQ ha;clear k hk;intro nd
   induction ns with
   |nil=>cases ha
   |cons z zs ih=>
    rcases Ag.mp MQ with e|e
    ·rcases Ag.mp ha with f|f
     ·rw[<-e] at f;cases f
     ·exact Kw nd (x:=y) (Dr.mpr ⟨_,f,rfl⟩) (by rw[<-e];rfl)
    ·rcases Ag.mp ha with f|f
     ·exact Kw nd (x:=y) (Dr.mpr ⟨_,e,rfl⟩) (by rw[<-f];rfl)
     ·exact ih e f (Ut nd)
  have LU:Lv h' (λz=>if z=y then some v else m z) c.names r':=by
   refine k.NA t.AD (λa u q=>?_) (rv.AD t.AD) Z2 C.locs h5;by_cases e:a=c.env.locals
   ·exfalso;subst e;obtain⟨oc,e1,e2⟩:=q;obtain⟨o5,es,ep,e3,e4,_⟩:=hn;rw[e1] at e3;injection e3 with e3;subst e3;rw[e4] at e2;cases e2
   ·exact q.sameBut S' e
  exact⟨r',l,⟨t.AH,t.frames,⟨_,o',I5,q1,q2.trans h4,LU⟩,λp hp=>t.ro _ _ (R.B8 hp) (R.led p hp),R.nodup,R.apart⟩,S0.trans t.step,hq⟩
 |cell y a=>
  injection BK with BK;subst BK;obtain⟨⟨hk,hl⟩,_⟩:=C.nms _ MQ;have ha:a∈c.names.filterMap Nm.cellOf:=Dr.mpr ⟨_,MQ,rfl⟩;obtain⟨v0,UQ⟩:=h5.cellAt a ha;have fin:∀h',h'.IsCell a (some v)->Bs a s.heap h'->Wv U w T c own h0 Q {s with heap:=h'}:=λh' cb S'=>by
   have t:=R.HD (h':=h') s.toks (Hv ha) S' λo ho h1 h2=>by obtain⟨oc,e1,e2⟩:=UQ;rw[e1] at ho;injection ho with ho;subst ho;obtain⟨e,p,q⟩:=h2;rw[e2] at q;cases q
   refine⟨r',l,⟨t.AH,t.frames,⟨m,o,hn.sameBut S' (R.BS ha).symm,(S'.2 _ (R.BS ha).symm).trans h3,h4,?_⟩,λp hp=>t.ro _ _ (R.A3 hp ha) (R.led p hp),R.nodup,R.apart⟩,S0.trans t.step,hq⟩;exact k.NB t.AD (λb u hb q=>q.sameBut S' hb) cb (rv.AD t.AD) MQ C.locs R.DM h5
  rcases hk with hk|hk
  ·exact wpAny_storeName_cell C.kind hk hl UQ fin
  ·exact FT C.kind hk hl UQ fin
where
 FT {A:Around} {E:Value->Shared->Prop} {env:Env} {name:Str} {c:Addr} {v₀:Option Value} {v:Value} {Q:Unit->Shared->Prop} {s:Shared} (hk:env.scope.kind=.function) (hl:env.kindOf name=some .free)
   (hc:env.cells.lookup name=some c) (OZ:s.heap.IsCell c v₀) (h:∀h',h'.IsCell c (some v)->Bs c s.heap h'->Q () {s with heap:=h'}):wpAny (model U w) A (storeName env name v) Q E s:=by
  unfold storeName;simp only[hl,hk];exact wpAny_bind (wpAny_cellOf hc (wpAny_cellSet OZ h))
theorem Bt {Q:Rg->Led->Prop}{r':Rg}(C:c.Ok)(k:Upd c.names r x d r')(hq:Q r' l):Wa U w T c (.Name x pos) d r l Q X:=by k_with"o"=>exact(λs v R rv=>
 wpAny_assign_Name (Mc C.ML k R rv (.refl _ _) hq))
theorem Zo {Q:Fl->Rg->Led->Prop}{p:Pos}(C:c.Ok)(hs:swapsWith e (some (.Name x p)) pos.line c.env=pure false)
  (h:We U w T c e r l (λd l1=>∃r',Upd c.names r x d r'/\Q .next r' l1) X):BY U w T c (.Assign [.Name x p] e pos) r l Q X:=by k_with"o"=>exact(λs R=>
 wpAny_Assign_Name (wpAny_mono (h s R) (λv _ ⟨d,l1,rv,R1,S1,r',k,q1⟩=>
  wpAny_mono (Mc (Q:=λr2 l2=>r2=r'/\l2=l1) C.ML k R1 rv S1 ⟨rfl,rfl⟩) (λ_ s2 ⟨r2,l2,R2,S2,e1,e2⟩=>⟨.next,r2,l2,rfl,R2,S2,by rw[e1,e2];exact q1⟩) λ_ _ e=>e) λ_ _ e=>e) hs)
section
variable {a b:Int}
theorem Rel.int (R:Co U w T c s r l)(i:Int)(t:Tok)(k:Nat)(h:Q (.int i) l):Lw U w T c (c.own l) s.heap r Q (.int i t) {s with toks:=k}:=by k_with"o"=>exact(⟨_,l,.int i t,R.tok _,.refl _ _,h⟩)
theorem Rel.B9 (R:Co U w T c s r l)(i:Bool)(h:Q (.bool i) l):Lw U w T c (c.own l) s.heap r Q (.bool i) s:=by k_with"o"=>exact(⟨_,l,.bool i,R,.refl _ _,h⟩)
theorem Rel.val (R:Co U w T c s r l)(rv:RV s.heap d v)(h:Q d l):Lw U w T c (c.own l) s.heap r Q v s:=
 ⟨_,l,rv,R,.refl _ _,h⟩
theorem Aby (h:Q (.int (a+b)) l):W2 U w T c (binaryOp .Add) (.int a) (.int b) r l Q X:=by k_with"o"=>exact(λs x y R rx ry=>by cases rx;cases ry;exact P.add_int (R.int _ _ _ h))
theorem Abt (h:Q (.int (a-b)) l):W2 U w T c (binaryOp .Sub) (.int a) (.int b) r l Q X:=by k_with"o"=>exact(λs x y R rx ry=>by cases rx;cases ry;exact P.sub_int (R.int _ _ _ h))
theorem Abw (hm:IntMulOk a b)(h:Q (.int (a*b)) l):W2 U w T c (binaryOp .Mult) (.int a) (.int b) r l Q X:=by k_with"o"=>exact(λs x y R rx ry=>by cases rx;cases ry;exact P.mul_int (R.int _ _ _ h) hm)
theorem vV (hb:b≠0)(hp:Builtin.divisionGoesByPylong a b=false)(h:Q (.int (a.fmod b)) l):W2 U w T c (binaryOp .Mod) (.int a) (.int b) r l Q X:=by k_with"o"=>exact(λs x y R rx ry=>by cases rx;cases ry;exact mod_int' hb (R.int _ _ _ h))
theorem Yy (hb:b≠0)(hp:Builtin.divisionGoesByPylong a b=false)(h:Q (.int (a.fdiv b)) l):W2 U w T c (binaryOp .FloorDiv) (.int a) (.int b) r l Q X:=by k_with"o"=>exact(λs x y R rx ry=>by cases rx;cases ry;exact floordiv_int hb (R.int _ _ _ h) (.inl hp))
theorem Abu (hb:0<=b)(h:Q (.int (a.fdiv (2^b.toNat))) l):W2 U w T c (binaryOp .RShift) (.int a) (.int b) r l Q X:=by k_with"o"=>exact(λs x y R rx ry=>by cases rx;cases ry;exact rshift_int hb (R.int _ _ _ h))
theorem Abv (hb:0<=b)(hz:(Builtin.Int.intBits a:Int)+b<=2^27)(h:Q (.int (a*2^b.toNat)) l):W2 U w T c (binaryOp .LShift) (.int a) (.int b) r l Q X:=by k_with"o"=>exact(λs x y R rx ry=>by cases rx;cases ry;exact lshift_int hb hz (R.int _ _ _ h))
theorem Abx (h:Q (.int (Builtin.bitAnd a b)) l):W2 U w T c (binaryOp .BitAnd) (.int a) (.int b) r l Q X:=by k_with"o"=>exact(λs x y R rx ry=>by cases rx;cases ry;exact and_int (R.int _ _ _ h))
theorem Acu (h:Q (.int (Builtin.bitOr a b)) l):W2 U w T c (binaryOp .BitOr) (.int a) (.int b) r l Q X:=by k_with"o"=>exact(λs x y R rx ry=>by cases rx;cases ry;exact or_int (R.int _ _ _ h))
theorem Acz (h:Q (.bool (a==b)) l):W2 U w T c (compareOp .Eq) (.int a) (.int b) r l Q X:=by k_with"o"=>exact(λs x y R rx ry=>by cases rx;cases ry;exact P.eq_int (R.B9 _ h))
theorem Acv (h:Q (.bool (a != b)) l):W2 U w T c (compareOp .NotEq) (.int a) (.int b) r l Q X:=by k_with"o"=>exact(λs x y R rx ry=>by cases rx;cases ry;exact P.ne_int (R.B9 _ h))
theorem Acw (h:Q (.bool (decide (a<b))) l):W2 U w T c (compareOp .Lt) (.int a) (.int b) r l Q X:=by k_with"o"=>exact(λs x y R rx ry=>by cases rx;cases ry;exact P.lt_int (R.B9 _ h))
theorem Acx (h:Q (.bool (decide (a<=b))) l):W2 U w T c (compareOp .LtE) (.int a) (.int b) r l Q X:=by k_with"o"=>exact(λs x y R rx ry=>by cases rx;cases ry;exact P.le_int (R.B9 _ h))
theorem Acy (h:Q (.bool (decide (a>b))) l):W2 U w T c (compareOp .Gt) (.int a) (.int b) r l Q X:=by k_with"o"=>exact(λs x y R rx ry=>by cases rx;cases ry;exact P.gt_int (R.B9 _ h))
theorem yT (h:We U w T c e r l (λd l1=>∃i,d=.int i/\Q (.int (-i)) l1) X):We U w T c (.UnaryOp .USub e pos) r l Q X:=by k_with"o"=>exact(λs R=>
 UnaryOp_ (wpAny_mono (h s R) (λv _ ⟨d,l1,rv,R1,S1,i,e,q⟩=>by subst e;cases rv;exact P.neg_int (Lw.shift S1 (R1.int _ _ _ q))) λ_ _ e=>e))
def qJ (U:Program)(w:World)(T:Ez)(c:Ctx)(r:Rg)(d:V)(l:Led)(Q:Bool->Led->Prop):Prop:=
 ∀s x,Co U w T c s r l->RV s.heap d x->wpAny (model U w) c.A (truthy x) (kX U w T c (c.own l) s.heap r Q) (λ_ _=>False) s
theorem oM {i:Bool}{Q:Bool->Led->Prop}(h:Q i l):qJ U w T c r (.bool i) l Q:=by k_with"o"=>exact(λs x R rx=>by cases rx;exact wpAny_truthy_bool ⟨l,R,.refl _ _,h⟩)
theorem sP {Q:Bool->Led->Prop}(he:∀whole,isTrue e c.env whole=(do let v <-whole;standAt e.pos;holding [v] (truthy v)))
  (h:We U w T c e r l (λd l1=>qJ U w T c r d l1 Q) X):Wb U w T c e r l Q X:=by k_with"o"=>exact(λs R=>
 isTrue_plain (wpAny_mono (h s R) (λv _ ⟨d,l1,rv,R1,S1,q⟩=>wpAny_mono (q _ _ R1 rv) (λ_ _ ⟨l2,R2,S2,q2⟩=>⟨l2,R2,S1.trans S2,q2⟩) λ_ _ e=>e.elim) λ_ _ e=>e) (he _))
theorem sF (h:Hd U w T c pos es r l (λds l1=>ds.length<=sizeLine/\Q (.tup ds) l1) X):We U w T c (.Tuple es k pos) r l Q X:=by k_with"o"=>exact(λs R=>
 Tuple_ (wpAny_mono (h s R) (λvs s1 ⟨ds,l1,rv,R1,S1,hz,q⟩=>by refine wpAny_newObj_type ?_ (by show vs.toArray.size<=sizeLine;rw[Az,<-rv.length];exact hz);refine⟨.tup ds,l1,.tup (As _ rfl) (rv.AD (A0.push _ _)),R1.grow (λb o e=>Ad _ e) (by rw[Bc];exact Cb _),S1.trans (Step.grow (λb o e=>Ad _ e) (by rw[Bc];exact Cb _)),q⟩) λ_ _ e=>e))
theorem vM (h:Hd U w T c pos es r l (λds l1=>ds.length<=sizeLine/\∀a,Q (.ref a) ((a,.list ds)::l1)) X):We U w T c (.List es pos) r l Q X:=by k_with"o"=>exact(λs R=>
 List_ (wpAny_mono (h s R) (λvs s1 ⟨ds,l1,rv,R1,S1,hz,q⟩=>by refine wpAny_newObj_type ?_ (by show vs.toArray.size<=sizeLine;rw[Az,<-rv.length];exact hz);exact⟨.ref s1.heap.objs.size,_,.ref _,R1.alloc (x:=.list ds) ⟨vs,0,As _ rfl,rv.AD (A0.push _ _)⟩,S1.trans Step.alloc,q _⟩) λ_ _ e=>e))
end
theorem Frs.fun {B:Heap}(hn:B.objs.size<=n):∀{l:List Env},Frs n h l->h.FunFrames B l
 |[],_=>trivial
 |env::r,F=>by k_with"o"=>obtain⟨h1,L,o,es,ep,h2,h3,h4,h5,h6⟩:=F env (.head _);exact⟨h1,⟨L,o,h2,Heap.get?_none_of_le (Aa hn h3),h4,λvs q=>by rw[h6] at q;cases q⟩,Frs.fun hn λe he=>F e (.tail _ he)⟩
theorem Frs.mem {l:List Env}(F:Frs n h l){b:Addr}(hb:b∈l.filterMap (·.frame)):n<=b/\∃o es ep,h.get? b=some o/\o.cls=.type "frame"/\o.data=.dict es ep:=by k_with"o"=>obtain⟨env,he,hf⟩:=Dr.mp hb;obtain⟨h1,L,o,es,ep,h2,h3,h4,h5,h6⟩:=F env he;rw[hf] at h2;injection h2 with h2;subst h2;exact⟨h3,o,es,ep,h4,h5,h6⟩
structure YE (T:Ez)(outer:List Env)(e:Addr)(h h':Heap):Prop where
 size:h.objs.size<=h'.objs.size
 kept:∀b o,h.get? b=some o->b≠e->(∀vs,o.data≠.fields vs)->∃sl,h'.get? b=some {o with slots:=sl}/\(b∉outer.filterMap (·.frame)->sl=o.slots)
theorem Ml {x:Value}{fr:Option Addr}{Q:Unit->Shared->Prop}
  (e:Exc U w T outer own h0 true X x s) (h:∀s',Exc U w T outer own h0 true X x s'->Q () s'):wpAny M A (setFlight x fr) Q E s:=by k_with"o"=>
 obtain⟨a,i,rfl,hX,d,vs,sl,h1,h2,h3,h4,hz,⟨m,t,h5,MW⟩,⟨od,h6,J4⟩,h7⟩:=e.FI;rcases h7 with⟨q,_⟩|⟨Tb,oT,ts,q1,q2,q3,q4,q5,q6,q7⟩
 ·cases q
 unfold setFlight;refine wpAny_bind (wpAny_field h1 rfl q1 ?_);rw[if_pos (show(Value.ref Tb != Value.none)=true from by simp)];refine wpAny_setField q5 q6 q7 (h _ ?_);have S:Bs Tb s.heap (s.heap.update Tb (Obj.mapFields (·.setIfInBounds 3 (fr.elim Value.none λf=>rawInt f)))):=Bs.update ..;have nB:∀b o,T.B.get? b=some o->b≠Tb:=λb o q e=>absurd (Am q) (Bh.mpr (e▸q2.2));refine⟨⟨let ⟨_,tk,e⟩:=e.AH.hs;⟨_,tk,by rw[e]⟩,λb o q=>(S.2 b (nB b o q)).trans (e.AH.stays b o q),by rw[S.1];exact e.AH.room⟩,e.frames.keep λb o HK Q8 HJ=>⟨o,(S.2 b λq=>?_).trans HK,Q8,HJ⟩,λb o q n=>?_,by rw[S.1];exact e.size,⟨a,i,rfl,hX,d,vs,sl,(S.2 _ q3.symm).trans h1,h2,h3,h4,hz,⟨m,t,h5.sameBut S q4.symm,MW⟩,⟨od,(S.2 _ q4.symm).trans h6,J4⟩,.inr ⟨Tb,_,_,q1,q2,q3,q4,Bv _ q5 (Obj.isFreed_of_fields (Obj.data_mapFields q6 _)),Obj.data_mapFields q6 _,by simpa using q7⟩⟩⟩
 ·subst q;obtain⟨es,ep,HJ⟩:=HJ;rw[q5] at HK;injection HK with HK;subst HK;rw[q6] at HJ;cases HJ
 ·obtain⟨o',q',s'⟩:=e.kept b o q n;exact⟨o',(S.2 b λz=>absurd (Am q) (Bh.mpr (z▸q2.1))).trans q',s'⟩
theorem Pq {env:Env}{tr:Bool}{x:Value}{Q:Unit->Shared->Prop}{EO:Env}
  (IK:A.frames=some (EO::outer)) (W9:env.frame=EO.frame) (e:Exc U w T (EO::outer) own h0 tr X x s) (h:∀s',Exc U w T (EO::outer) own h0 true X x s'->Q () s'):wpAny M A (noteFrame x env) Q E s:=by k_with"o"=>
 obtain⟨a,i,rfl,hX,d,vs,sl,h1,h2,h3,h4,hz,⟨m,t,h5,MW⟩,⟨od,h6,J4⟩,h7⟩:=id e.FI;obtain⟨k1,L,oL,es,ep,k2,k3,k4,k5,k6⟩:=e.frames EO (.head _);have make:∀(head:Value) (XG:Bool) (s1:Shared),Exc U w T (EO::outer) own h0 false X (.ref a) s1->(∃d vs sl,s1.heap.get? a=some {cls:=.ref T.CT,dict:=some d,data:=.fields vs,slots:=sl}/\1<vs.size)->
   wpAny M A (do let fa <-PySem.frameOf env;let pl <-entryPlaceOf L XG;let b <-EntryCells.newEntry head fa .none (rawInt L) .none pl;setField (.ref a) 1 b) Q E s1:=by
  intro head XG s1 e1 _;obtain⟨a',i,ea,hX,d,vs,sl,h1,h2,h3,h4,hz,⟨m,t,h5,MW⟩,⟨od,h6,J4⟩,h7⟩:=id e1.FI;injection ea with ea;subst ea;have fo:wpAny M A (PySem.frameOf env) (λv s2=>v=.ref L/\∃h',s2={s1 with heap:=h'}/\Heap.SlotsOnly ((EO::outer).filterMap (·.frame)) s1.heap h') E s1:=by
   have:PySem.frameOf env=PySem.frameOf EO:=by unfold PySem.frameOf;rw[W9]
   rw[this];exact wpAny_frameOf_fun IK (e1.frames.fun (Ah _)) k2 λh' S=>⟨rfl,h',rfl,S⟩
  refine wpAny_bind (wpAny_mono fo (λv s2 ⟨hv,h',HU,S⟩=>?_) λ_ _ q=>q);subst hv HU;refine wpAny_bind (wpAny_entryPlaceOf λpl G8=>?_);unfold EntryCells.newEntry newFields;refine wpAny_bind (wpAny_newObj_type ?_ (G8.sizeOk5 _ _ _ _ _));have E5:∀b o,s1.heap.get? b=some o->o.cls≠.type "frame"->h'.get? b=some o:=λb o q nf=>by rw[S.2.1 b λhm=>?_];exact q;obtain⟨_,o2,_,_,q2,q3,_⟩:=e1.frames.mem hm;rw[q] at q2;injection q2 with q2;subst q2;exact nf q3
  have he₁:h'.get? a=some {cls:=.ref T.CT,dict:=some d,data:=.fields vs,slots:=sl}:=E5 _ _ h1 (λq=>by cases q);generalize hP:h'.push {cls:=.type "traceback",dict:=none,data:=.fields ([head,.ref L,.none,rawInt L,.none]++(if pl.isEmpty then Ia 6 Value.none else pl)).toArray}=hp;have he₂:hp.get? a=some {cls:=.ref T.CT,dict:=some d,data:=.fields vs,slots:=sl}:=by rw[<-hP];exact Ad _ he₁
  have hT₂:hp.get? h'.objs.size=some {cls:=.type "traceback",dict:=none,data:=.fields ([head,.ref L,.none,rawInt L,.none]++(if pl.isEmpty then Ia 6 Value.none else pl)).toArray}:=by rw[<-hP];exact As _ rfl
  have QM:∀b o,h'.get? b=some o->hp.get? b=some o:=λb o q=>by rw[<-hP];exact Ad _ q
  have BJ:hp.objs.size=h'.objs.size+1:=by rw[<-hP,Bc]
  refine wpAny_setField he₂ rfl hz (h _ ?_);have Su:Bs a hp (hp.update a (Obj.mapFields (·.setIfInBounds 1 (Value.ref h'.objs.size)))):=Bs.update ..;have XI:h'.objs.size≠a:=Tc (Am he₁);have old:∀b o,s1.heap.get? b=some o->b≠a->∃o',(hp.update a (Obj.mapFields (·.setIfInBounds 1 (Value.ref h'.objs.size)))).get? b=some o'/\Hx o o':=λb o q n=>by
   obtain⟨Q5,q'⟩:=S.2.2 b o q;refine⟨_,(Su.2 b n).trans (QM _ _ q'),?_⟩;by_cases hf:o.cls=.type "frame"
   ·exact .inr ⟨hf,Q5,rfl⟩
   ·have:=E5 b o q hf;rw[q'] at this;injection this with this;exact .inl this
  have NG:∀b o,s1.heap.get? b=some o->b≠a->o.cls≠.type "frame"->(hp.update a (Obj.mapFields (·.setIfInBounds 1 (Value.ref h'.objs.size)))).get? b=some o:=λb o q n nf=>by obtain⟨o',q',s'⟩:=old b o q n;rw[q',s'.eq nf]
  have nB:∀b o,T.B.get? b=some o->b≠a:=λb o q e=>absurd (Am q) (Bh.mpr (e▸h2.2));have DF:s1.heap.objs.size<=h'.objs.size:=Ef S.1.symm;refine⟨⟨let ⟨_,tk,e⟩:=e1.AH.hs;⟨_,tk,by rw[e]⟩,λb o q=>?_,?_⟩,?_,λb o q n=>?_,?_,⟨a,i,rfl,hX,d,_,sl,Bv _ he₂ rfl,h2,h3,h4,by simpa using hz,⟨m,t,?_,MW⟩,⟨od,NG _ _ h6 h4 (by rw[J4];decide),J4⟩,.inr ⟨h'.objs.size,_,_,by simp[hz],?_,XI,?_,(Su.2 _ XI).trans hT₂,rfl,?_⟩⟩⟩
  ·by_cases hf:b∈(EO::outer).filterMap (·.frame)
   ·exact absurd (Am q) (Bh.mpr (e1.frames.mem hf).1)
   ·exact(Su.2 b (nB b o q)).trans (QM _ _ ((S.2.1 b hf).trans (e1.AH.stays b o q)))
  ·rw[Su.1,BJ];exact Gg (Aa e1.AH.room DF)
  ·refine e1.frames.keep λb o q1 q2 q3=>?_;obtain⟨o',q',s'⟩:=old b o q1 λz=>by rw[z,h1] at q1;injection q1 with q1;subst q1;cases q2
   exact⟨o',q',s'.cls.trans q2,by rw[s'.data];exact q3⟩
  ·obtain⟨o',q',s'⟩:=e1.kept b o q n;obtain⟨KP,YW,C3⟩:=old b o' q' λz=>absurd (Am q) (Bh.mpr (z▸h2.1));exact⟨KP,YW,s'.trans C3⟩
  ·rw[Su.1,BJ];exact Gg (Aa e1.size DF)
  ·obtain⟨o5,d0,d9,z1,z2,z3⟩:=h5;rw[h6] at z1;injection z1 with z1;subst z1;exact⟨_,d0,d9,NG _ _ h6 h4 (by rw[J4];decide),z2,z3⟩
  ·exact⟨Aa e1.size DF,Aa e1.AH.room DF⟩
  ·exact λz=>absurd (Am h6) (Bh.mpr (Aa DF (Ef z)))
  ·rcases G8 with rfl|⟨_,_,_,_,_,_,_,rfl⟩<;>simp
 unfold noteFrame;rw[W9,k2];refine wpAny_bind ?_;rcases h7 with⟨_,q0⟩|⟨Tb,oT,ts,q1,q2,q3,q4,q5,q6,q7⟩
 ·refine wpAny_field h1 rfl q0 ?_;rw[if_neg (by decide)];exact make _ _ s e.weak ⟨d,vs,sl,h1,hz⟩
 ·refine wpAny_field h1 rfl q1 ?_;rw[if_pos (show(Value.ref Tb != Value.none)=true from by simp)];obtain⟨y,hy⟩:∃y,ts[3]?=some y:=⟨ts[3]'q7,Kg _⟩;refine wpAny_bind (wpAny_field q5 q6 hy ?_);by_cases V':(y==rawInt L)=true
  ·rw[if_pos V'];exact wpAny_pure (h _ ⟨e.AH,e.frames,e.kept,e.size,⟨a,i,rfl,hX,d,vs,sl,h1,h2,h3,h4,hz,⟨m,t,h5,MW⟩,⟨od,h6,J4⟩,.inr ⟨Tb,oT,ts,q1,q2,q3,q4,q5,q6,q7⟩⟩⟩)
  ·rw[if_neg V'];refine wpAny_bind (wpAny_setField q5 q6 q7 ?_);have S:Bs Tb s.heap (s.heap.update Tb (Obj.mapFields (·.setIfInBounds 3 Value.none))):=Bs.update ..;have nB:∀b o,T.B.get? b=some o->b≠Tb:=λb o q e=>absurd (Am q) (Bh.mpr (e▸q2.2));refine make _ _ _ ⟨⟨let ⟨_,tk,e⟩:=e.AH.hs;⟨_,tk,by rw[e]⟩,λb o q=>(S.2 b (nB b o q)).trans (e.AH.stays b o q),by rw[S.1];exact e.AH.room⟩,e.frames.keep λb o HK Q8 HJ=>⟨o,(S.2 b λq=>?_).trans HK,Q8,HJ⟩,λb o q n=>?_,by rw[S.1];exact e.size,⟨a,i,rfl,hX,d,vs,sl,(S.2 _ q3.symm).trans h1,h2,h3,h4,hz,⟨m,t,h5.sameBut S q4.symm,MW⟩,⟨od,(S.2 _ q4.symm).trans h6,J4⟩,.inr ⟨Tb,_,_,q1,q2,q3,q4,Bv _ q5 (Obj.isFreed_of_fields (Obj.data_mapFields q6 _)),Obj.data_mapFields q6 _,by simpa using q7⟩⟩⟩ ⟨d,vs,sl,(S.2 _ q3.symm).trans h1,hz⟩
   ·subst q;obtain⟨es,ep,HJ⟩:=HJ;rw[q5] at HK;injection HK with HK;subst HK;rw[q6] at HJ;cases HJ
   ·obtain⟨o',q',s'⟩:=e.kept b o q n;exact⟨o',(S.2 b λz=>absurd (Am q) (Bh.mpr (z▸q2.1))).trans q',s'⟩
theorem Sj {env:Env}{tr:Bool}{x:Value}{Q:Unit->Shared->Prop}
  (IK:A.frames=some (env::outer)) (e:Exc U w T (env::outer) own h0 tr X x s) (h:∀s',Exc U w T outer own h0 true X x s'->Q () s'):wpAny M A (leaving env x) Q E s:=by k_with"o"=>
 unfold leaving;refine wpAny_bind (Pq IK rfl e λs1 e1=>Ml e1 λs2 e2=>h s2 ⟨e2.AH,λv hv=>e2.frames v (.tail _ hv),e2.kept,e2.size,e2.FI⟩)
structure Ya (U:Program)(w:World)(T:Ez)(outer:List Env)(s:Shared)(l:Led):Prop where
 AH:F7 T.B T.s0 s
 frames:Frs T.B.objs.size s.heap outer
 led:∀p∈l,RO U w s.heap p.1 p.2
 nodup:(l.map (·.1)).Nodup
 apart:∀p∈l,T.B.objs.size<=p.1
def qK (U:Program)(w:World)(T:Ez)(outer:List Env)(own:List Addr)(h:Heap)(Q:V->Led->Prop)(X:Int->Prop)(res:Result)(s':Shared):Prop:=
 match res with
 |.ok (.ret v)=>∃d l',RV s'.heap d v/\Ya U w T outer s' l'/\Step own (l'.map (·.1)) h s'.heap/\Q d l'
 |.ok _=>False
 |.error x=>Exc U w T outer own h true X x s'
def Cg (U:Program)(w:World)(T:Ez)(lev:Nat)(f:Value)(as:List V)(l:Led)(Q:V->Led->Prop)(X:Int->Prop):Prop:=
 ∀(A:Around) (outer:List Env) (s:Shared) (vals:List Value),A.frames=some outer->A.handled=none->A.depth+lev<=400->A.units+10*lev<=4000->
  Ya U w T outer s l->AG s.heap as vals->codeAny (model U w) A (.call f ⟨vals,[]⟩) (qK U w T outer (l.map (·.1)) s.heap Q X) s
inductive Zp:Led->Addr×O->Led->Prop
 |here {p:Addr×O} {m:Led}:Zp (p::m) p m
 |there {p q:Addr×O} {m m':Led}:Zp m p m'->Zp (q::m) p (q::m')
inductive Jx:Led->Led->Led->Prop
 |nil {k:Led}:Jx k [] k
 |cons {k:Led} {p:Addr×O} {m fp fr:Led}:Zp k p m->Jx m fp fr->Jx k (p::fp) fr
theorem Zp.perm {p:Addr×O}{l':Led}(k:Zp l p l'):l.Perm (p::l'):=by k_with"o"=>
 induction k with
 |here=>exact .refl _
 |there _ ih=>exact(En.cons _ ih).trans (.swap ..)
theorem Jx.perm {fp fr:Led}(k:Jx l fp fr):l.Perm (fp++fr):=by k_with"o"=>
 induction k with
 |nil=>exact .refl _
 |cons a _ ih=>exact a.perm.trans (.cons _ ih)
theorem Ll {l':Led}(h:l.Perm l'):a∈c.own l↔a∈c.own l':=by k_with"o"=>unfold Ctx.own;have:=(h.map (·.1)).mem_iff (a:=a);simp only[Ag,Ao,this]
theorem Rel.perm (R:Co U w T c s r l){l':Led}(h:l.Perm l'):Co U w T c s r l' where
 AH:=R.AH
 frames:=R.frames
 vars:=R.vars
 led:=λp hp=>R.led p (h.mem_iff.mpr hp)
 nodup:=by have:=R.nodup;unfold Ctx.own at this ⊢;exact((En.cons _ (En.append_left _ (h.map _))).nodup_iff).mp this
 apart:=λa ha=>R.apart a ((Ll h).mpr ha)
theorem Rel.back {fp fr fp':Led}{s':Shared}(R:Co U w T c s r (fp++fr))(L:Ya U w T c.outer s' fp')(S:Step (fp.map (·.1)) (fp'.map (·.1)) s.heap s'.heap) :
  Co U w T c s' r (fp'++fr)/\Step (c.own (fp++fr)) (c.own (fp'++fr)) s.heap s'.heap:=by k_with"o"=>
 obtain⟨m,o,hn,h3,h4,h5⟩:=R.vars;have nd:=R.nodup;have HO:∀a,a∈fp.map (·.1)->a∈c.own (fp++fr):=λa ha=>by unfold Ctx.own;rw[Ai];exact .tail _ (Aq _ (Al _ ha))
 have HN:∀a,a∈fr.map (·.1)->a∈c.own (fp++fr):=λa ha=>by unfold Ctx.own;rw[Ai];exact .tail _ (Aq _ (Aq _ ha))
 have E:A0 s.heap s'.heap:=S.kept.AD λa ha vs=>R.CS a (HO a ha) vs;have PW:c.env.locals∉fp.map (·.1):=λq=>by unfold Ctx.own at nd;rw[Ai] at nd;exact(Ap.mp nd).1 (Aq _ (Al _ q))
 have JL:=(Cd.mp (Ap.mp nd).2);have RK:(fp.map (·.1)++fr.map (·.1)).Nodup:=by have:=JL.2.1;rwa[Ai] at this
 have GR:∀a∈c.names.filterMap Nm.cellOf,a∉fp.map (·.1):=λa ha q=>JL.2.2 a ha a (by rw[Ai];exact Al _ q) rfl;have PE:∀p∈fr,p.1∉fp.map (·.1):=λp hp q=>(Cd.mp RK).2.2 p.1 q p.1 (Af.mpr ⟨p,hp,rfl⟩) rfl;have F4:∀a∈fp'.map (·.1),a∈fp.map (·.1)\/s.heap.objs.size<=a:=S.fresh;have St:Step (c.own (fp++fr)) (c.own (fp'++fr)) s.heap s'.heap:=by
  refine S.mono HO λb hb=>?_;unfold Ctx.own at hb ⊢;rw[Ai] at hb ⊢;simp only[Ag,Ao] at hb ⊢;rcases hb with h|h|h|h
  ·exact .inr (.inl h)
  ·exact .inr (.inr (.inl h))
  ·exact .inl h
  ·exact .inr (.inr (.inr (.inr h)))
 refine⟨⟨L.AH,L.frames,?_,λp hp=>?_,?_,λa ha=>?_⟩,St⟩
 ·obtain⟨o',q1,q2⟩:=S.kept _ _ h3 PW;obtain⟨o5,es,ep,z1,z2,z3⟩:=id hn;rw[h3] at z1;injection z1 with z1;subst z1;refine⟨m,o',⟨o',es,ep,q1,q2.data.trans z2,z3⟩,q1,q2.cls.trans h4,h5.keep E (λ_ _=>rfl) λa v ha ⟨oc,y1,y2⟩=>?_⟩;obtain⟨Y0,y3,y4⟩:=S.kept _ _ y1 (GR a ha);exact⟨Y0,y3,y4.data.trans y2⟩
 ·rcases Ao.mp hp with hp|hp
  ·exact L.led p hp
  ·have IG:=R.led p (Aq _ hp);refine IG.keep (λo q=>?_) E;obtain⟨o',q1,q2⟩:=S.kept _ _ q (PE p hp);obtain⟨ob,y1,y2,_⟩:=IG.at;rw[q] at y1;injection y1 with y1;subst y1;rw[q1,q2.eq y2]
 ·have lv:=R.live;unfold Ctx.own;rw[Ai];refine Ap.mpr ⟨λq=>?_,Cd.mpr ⟨JL.1,Cd.mpr ⟨L.nodup,(Cd.mp RK).2.1,λa ha b hb e=>?_⟩,λa ha b hb e=>?_⟩⟩
  ·rcases Ao.mp q with q|q
   ·exact(Ap.mp nd).1 (Al _ q)
   rcases Ao.mp q with q|q
   ·rcases F4 _ q with z|z
    ·exact PW z
    ·exact Dv _ (Cv (lv _ (Sd c _)) z)
   ·exact(Ap.mp nd).1 (Aq _ (by rw[Ai];exact Aq _ q))
  ·subst e;rcases F4 _ ha with z|z
   ·exact(Cd.mp RK).2.2 a z a hb rfl
   ·exact Dv _ (Cv (lv _ (HN _ hb)) z)
  ·subst e;rcases Ao.mp hb with hb|hb
   ·rcases F4 _ hb with z|z
    ·exact GR a ha z
    ·exact Dv _ (Cv (lv _ (Hv ha)) z)
   ·exact JL.2.2 a ha a (by rw[Ai];exact Aq _ hb) rfl
 ·unfold Ctx.own at ha;rw[Ai] at ha;simp only[Ag,Ao] at ha;rcases ha with h|h|h|h
  ·exact h▸R.apart _ (Sd c _)
  ·exact R.apart a (Hv h)
  ·obtain⟨p,hp,rfl⟩:=Af.mp h;exact L.apart p hp
  ·exact R.apart a (HN a h)
theorem Rel.HS (R:Co U w T c s r l):Ya U w T c.outer s l:=by k_with"o"=>exact(⟨R.AH,R.frames,R.led,R.BF,λp hp=>R.apart _ (Em hp)⟩)
theorem vG {fp fr:Led}(C:c.Ok)(pk:Jx l fp fr)
  (h:Cg U w T c.lev f ds fp (λd fp'=>Q d (fp'++fr)) X):Wn U w T c (λxs=>call f xs) ds r l Q X:=by k_with"o"=>exact(λs xs R rx=>by
 have R1:=R.perm pk.perm;have L1:=R1.HS;have L2:Ya U w T c.outer s fp:=⟨L1.AH,L1.frames,λp hp=>L1.led p (Al _ hp),by have:=L1.nodup;rw[Ai] at this;exact(Cd.mp this).1,λp hp=>L1.apart p (Al _ hp)⟩;refine wpAny_call (codeAny_mono (h c.A c.outer s xs C.frames C.handled C.depth C.units L2 rx) λres s' p=>?_);have A2:∀a,a∈fp.map (·.1)->a∈c.own l:=λa ha=>(Ll pk.perm).mpr (by
  unfold Ctx.own;rw[Ai];exact .tail _ (Aq _ (Al _ ha)))
 cases res with
 |ok fl=>
  cases fl with
  |ret v=>obtain⟨d,l',rv,L',S',q⟩:=p;obtain⟨R',St⟩:=R1.back L' S';exact⟨d,_,rv,R',St.mono (λb hb=>(Ll pk.perm).mpr hb) λb hb=>.inl hb,q⟩
  |next=>exact p
  |brk=>exact p
  |cont=>exact p
 |error x=>have e:Exc U w T c.outer (fp.map (·.1)) s.heap true X x s':=p;exact(show Exc U w T c.outer (c.own l) s.heap true X x s' from⟨e.AH,e.frames,λb o q n=>e.kept b o q λm=>n (A2 b m),e.size,e.FI⟩).weak)
noncomputable def Eo (n:Nat):List (Str×NameKind)->List Nm
 |[]=>[]
 |(x,.local)::r=>.loc x::Eo n r
 |(x,.cell)::r=>.cell x n::Eo (n+1) r
 |_::r=>Eo n r
theorem Lm:∀(names:List (Str×NameKind)) (n:Nat),∀x∈(Eo n names).filterMap Nm.nameOf,x∈names.map (·.1)
 |[]=>λ_ _ h=>h
 |(y,k)::r=>λn x h=>by k_with"o"=>
  cases k
  case «local»=>
   rcases Ag.mp h with e|e
   ·subst e;exact .head _
   ·exact .tail _ (Lm r _ x e)
  case cell=>
   rcases Ag.mp h with e|e
   ·subst e;exact .head _
   ·exact .tail _ (Lm r _ x e)
  all_goals exact .tail _ (Lm r _ x h)
theorem Nh:∀(names:List (Str×NameKind)) (n:Nat),(names.map (·.1)).Nodup->((Eo n names).filterMap Nm.nameOf).Nodup
 |[]=>λ_ _=>.nil
 |(y,k)::r=>λn h=>by k_with"o"=>
  have h2:=Ap.mp h;cases k
  case «local»=>exact Ap.mpr ⟨λq=>h2.1 (Lm r _ y q),Nh r _ h2.2⟩
  case cell=>exact Ap.mpr ⟨λq=>h2.1 (Lm r _ y q),Nh r _ h2.2⟩
  all_goals exact Nh r _ h2.2
theorem Jq:∀(names:List (Str×NameKind)) (n:Nat),(∀a∈(Eo n names).filterMap Nm.cellOf,n<=a)/\((Eo n names).filterMap Nm.cellOf).Nodup
 |[]=>λ_=>⟨λ_ h=>(nomatch h),.nil⟩
 |(y,k)::r=>λn=>by k_with"o"=>
  cases k
  case cell=>
   have ih:=Jq r (n+1);refine⟨λa h=>?_,Ap.mpr ⟨λq=>Dv _ (ih.1 n q),ih.2⟩⟩;rcases Ag.mp h with e|e
   ·exact Ef e.symm
   ·exact Qs (ih.1 a e)
  all_goals exact Jq r n
theorem Qz:∀(names:List (Str×NameKind)) (n:Nat) (x:Str),Nm.loc x∈Eo n names->(x,NameKind.local)∈names
 |[]=>λ_ _ h=>(nomatch h)
 |(y,k)::r=>λn x h=>by k_with"o"=>
  cases k
  case «local»=>
   rcases Ag.mp h with e|e
   ·cases e;exact .head _
   ·exact .tail _ (Qz r _ x e)
  case cell=>
   rcases Ag.mp h with e|e
   ·cases e
   ·exact .tail _ (Qz r _ x e)
  all_goals exact .tail _ (Qz r _ x h)
theorem Jc:∀(names:List (Str×NameKind)) (n:Nat) (x:Str) (a:Addr) (acc:List (Str×Addr)),Nm.cell x a∈Eo n names->(x,NameKind.cell)∈names/\(x,a)∈cellsFrom n names acc
 |[],_,_,_,_,h=>(nomatch h)
 |(y,k)::r,n,x,a,acc,h=>by
  cases k
  case cell=>
   rw[cellsFrom,if_pos (show(NameKind.cell==NameKind.cell)=true from rfl)];rcases Ag.mp h with e|e
   ·cases e;exact⟨.head _,DD r _ _ _ (.head _)⟩
   ·exact⟨.tail _ (Jc r _ x a [] e).1,(Jc r _ x a _ e).2⟩
  case «local»=>
   rw[cellsFrom,if_neg (by decide)];rcases Ag.mp h with e|e
   ·cases e
   ·exact⟨.tail _ (Jc r _ x a acc e).1,(Jc r _ x a _ e).2⟩
  all_goals
   rw[cellsFrom,if_neg (by decide)];exact⟨.tail _ (Jc r _ x a acc h).1,(Jc r _ x a _ h).2⟩
where
 DD:∀(names:List (Str×NameKind)) (n:Nat) (acc:List (Str×Addr)) (p:Str×Addr),p∈acc->p∈cellsFrom n names acc
  |[],_,_,_,h=>h
  |(y,k)::r,n,acc,p,h=>by
   unfold cellsFrom;split
   ·exact DD r _ _ p (.tail _ h)
   ·exact DD r _ _ p h
theorem Va:∀(names:List (Str×NameKind)) (n:Nat) (acc:List (Str×Addr)),(names.map (·.1)).Nodup->(acc.map (·.1)).Nodup->(∀x∈names.map (·.1),x∉acc.map (·.1))->((cellsFrom n names acc).map (·.1)).Nodup
 |[]=>λ_ _ _ h _=>h
 |(y,k)::r=>λn acc hn ha hx=>by k_with"o"=>
  have h2:=Ap.mp hn;unfold cellsFrom;split
  ·refine Va r _ _ h2.2 (Ap.mpr ⟨hx y (.head _),ha⟩) λx q m=>?_;rcases Ag.mp m with e|e
   ·subst e;exact h2.1 q
   ·exact hx x (.tail _ q) e
  ·exact Va r _ _ h2.2 ha λx q=>hx x (.tail _ q)
theorem Pb:∀(names:List (Str×NameKind)) (h h':Heap),(∀b o,(pushCells h names).get? b=some o->h'.get? b=some o)->
  Lv h' (λ_=>none) (Eo h.objs.size names) ((Eo h.objs.size names).map λ_=>none)
 |[]=>λ_ _ _=>.nil
 |(y,k)::r=>λh h' hk=>by k_with"o"=>
  cases k
  case cell=>
   have e:pushCells h ((y,NameKind.cell)::r)=pushCells (h.push {cls:=.type "cell",data:=.cell none}) r:=by rw[pushCells];rfl
   rw[e] at hk;have ih:=Pb r (h.push {cls:=.type "cell",data:=.cell none}) h' hk;rw[Bc] at ih;exact .cons ⟨_,hk _ _ (pushCells_keeps _ _ _ _ (As _ rfl)),rfl⟩ ih
  case «local»=>
   have e:pushCells h ((y,NameKind.local)::r)=pushCells h r:=by rw[pushCells];rfl
   rw[e] at hk;exact .cons rfl (Pb r h h' hk)
  all_goals
   refine Pb r h h' λb o q=>hk b o ?_;rw[pushCells];exact q
theorem Nz:∀(names:List (Str×NameKind)) (h:Heap),h.objs.size<=(pushCells h names).objs.size
 |[]=>λ_=>Ah _
 |(_,k)::r=>λh=>by k_with"o"=>
  unfold pushCells;split
  ·exact Aa (by rw[Bc];exact Cb _) (Nz r _)
  ·exact Nz r h
structure gQ (T:Ez)(a:Addr)(fd:FuncData)(body:List Stmt):Prop where
 there:∃o,T.B.get? a=some o/\o.data=.func fd
 code:T.B.CodeRec fd.code fd.qualname
 body:fd.body=.stmts body
 eg:fd.closure=[]
 kind:fd.scope.kind=.function
 gen:fd.scope.isGenerator=false
 U5:fd.scope.isCoroutine=false
 globals:fd.globals=mainGlobals
 builtins:fd.builtins=builtinsNs
 names:(fd.scope.names.map (·.1)).Nodup
 M8:∀x∈fd.scope.names,(x.1==("__debug__" : Str))=false/\(x.1==("__classdict__" : Str))=false
noncomputable def Fu (fd:FuncData)(a:Addr)(A:Around)(outer:List Env)(L:Addr)(lev:Nat):Ctx:=
 {env:=callEnvC fd L a,A:=A.deeper (callEnvC fd L a),outer:=callEnvC fd L a::outer,names:=Eo (L+1) fd.scope.names,cls:=.type "frame",lev:=lev}
theorem lookup_of_mem_nodup {α:Type}{cs:List (Str×α)}{d:α}(nd:(cs.map (·.1)).Nodup)(h:(x,d)∈cs):cs.lookup x=some d:=by k_with"o"=>
 induction cs with
 |nil=>cases h
 |cons p rest ih=>
  obtain⟨k,v⟩:=p;rw[aF];rcases Ag.mp h with e|e
  ·cases e;simp
  ·have:x≠k:=λq=>(Ap.mp nd).1 (q▸Af.mpr ⟨_,e,rfl⟩);rw[beq_eq_false_iff_ne.mpr this];exact ih (Ap.mp nd).2 e
theorem uR {fd:FuncData}{L:Addr}(F:gQ T a fd body)(h1:A.frames=some outer)(h2:A.handled=none)(h3:A.depth+(lev+1)<=400)
  (h4:A.units+10*(lev+1)<=4000) (hL:mainGlobals<L):(Fu fd a A outer L lev).Ok where
 frames:=Around.frames_deeper h1
 handled:=h2
 depth:=by show A.depth+1+lev<=400;omega
 units:=by show A.units+3+10*lev<=4000;omega
 kind:=F.kind
 globals:=F.globals
 builtins:=F.builtins
 nms:=λn hn=>by
  cases n with
  |JZ=>trivial
  |loc x=>have hm:=Qz _ _ _ hn;exact⟨lookup_of_mem_nodup F.names hm,(F.M8 _ hm).1⟩
  |cell x b=>have hm:=Jc _ _ _ _ [] hn;exact⟨⟨.inl (lookup_of_mem_nodup F.names hm.1),lookup_of_mem_nodup (Va _ _ _ F.names .nil λ_ _ q=>(nomatch q)) hm.2⟩,F.M8 _ hm.1⟩
 locs:=Nh _ _ F.names
 JN:=by show L≠fd.globals;rw[F.globals];exact Tc hL
 head:=⟨_,_,rfl,rfl⟩
inductive Oo (ns:List Nm):Rg->List (Str×V)->Rg->Prop
 |nil {q:Rg}:Oo ns q [] q
 |cons {q q1 q2:Rg} {x:Str} {d:V} {rest:List (Str×V)}:Upd ns q x d q1->Oo ns q1 rest q2->Oo ns q ((x,d)::rest) q2
theorem rV {A':Around}{f:Str×Value->PUnit->Sem (ForInStep PUnit)}(hf:∀n v u,f (n,v) u=(do storeName c.env n v;pure (.yield ⟨⟩)))(C:c.QX) :
  ∀(xs:List Str) (ds:List V) (vals:List Value) (r r':Rg) (s:Shared),Co U w T c s r l->AG s.heap ds vals->Oo c.names r (xs.zip ds) r'->Step own (c.own l) h0 s.heap->xs.length=ds.length->
   ∀(Q:PUnit->Shared->Prop),(∀s',Co U w T c s' r' l->Step own (c.own l) h0 s'.heap->Q ⟨⟩ s')->wpAny (model U w) A' (forIn (xs.zip vals) ⟨⟩ f) Q E s:=by k_with"o"=>
 intro xs
 induction xs with
 |nil=>intro ds vals r r' s R rv b S hl Q h;rw[Zb] at b;cases b;rw[Zb,List.forIn_nil];exact wpAny_pure (h s R S)
 |cons x xs ih=>
  intro ds vals r r' s R rv b S hl Q h;cases ds with
  |nil=>cases hl
  |cons d ds=>
   cases rv with
   |@cons _ v _ vals r1 r2=>
    rw[Wx] at b;rw[Wx,List.forIn_cons,hf];cases b with
    |cons u b=>rename_i q1;refine wpAny_bind (wpAny_bind (wpAny_mono (Mc (U:=U) (w:=w) (T:=T) (Q:=λr2 l2=>r2=q1/\l2=l) (own:=c.own l) (h0:=s.heap) C u R r1 (.refl _ _) ⟨rfl,rfl⟩) (λ_ s2 ⟨r3,l3,R2,S2,e1,e2⟩=>?_) λ_ _ q=>q));rw[e1,e2] at R2;rw[e2] at S2;exact wpAny_pure (ih ds vals _ r' s2 R2 (r2.AD (S2.kept.AD R.CS)) b (S.trans S2) (by simpa using hl) Q h)
theorem Vc {fd:FuncData}{vals:List Value}{P:Env->Shared->Prop}(F:gQ T a fd body)(TO:T.Ok U w)(params:List Str)
  (hb:∀(s:Shared) (vals:List Value),(∀b o,T.B.get? b=some o->s.heap.get? b=some o)->vals.length=params.length->BindsTo s fd ⟨vals,[]⟩ (params.zip vals)) (hlen:params.length=as.length)
  (h1:A.frames=some outer) (h2:A.handled=none) (h3:A.depth+(lev+1)<=400) (h4:A.units+10*(lev+1)<=4000) (LR:Ya U w T outer s l) (rv:AG s.heap as vals)
  (h:∀L,L=s.heap.objs.size->(Fu fd a A outer L lev).Ok->∃r0,Oo (Eo (L+1) fd.scope.names) ((Eo (L+1) fd.scope.names).map λ_=>none) (params.zip as) r0/\
   ∀s',Co U w T (Fu fd a A outer L lev) s' r0 l->Step (l.map (·.1)) ((Fu fd a A outer L lev).own l) s.heap s'.heap->P (callEnvC fd L a) s') :
  wpAny (model U w) A.in1 (bindArgs fd ⟨vals,[]⟩) (λbinds s₁=>wpAny (model U w) A.in1 (newFunctionEnv fd.scope fd.globals fd.closure binds (fd.qualname ++ ".<locals>.") (some a) fd.code none fd.builtins) P E s₁) E s:=by k_with"o"=>
 have hk:=LR.AH.stays;rw[F.eg];refine hb s vals hk (by rw[hlen,rv.length]) _ _ _ _ ?_;generalize hL:s.heap.objs.size=L;have aq:mainGlobals<L:=Cv TO.XR (hL▸LR.AH.room);have C:=uR (L:=L) F h1 h2 h3 h4 aq;obtain⟨r0,D0,K1⟩:=h L hL.symm C;simp only[newFunctionEnv,Option.isSome_none,Bi,if_false];refine wpAny_bind (wpAny_alloc ?_);refine wpAny_bind (wpAny_layCells _ (λname kind cells=>by cases aa:kind==NameKind.cell<;>simp[aa]) _ _ _ _ ?_);rw[show({s with heap:=s.heap.push {cls:=.type "frame",data:=.dict #[]}}:Shared).heap.objs.size=L+1 from by rw[<-hL];exact Bc ..];have ED:∀b o,s.heap.get? b=some o->(pushCells (s.heap.push {cls:=.type "frame",data:=.dict #[]}) fd.scope.names).get? b=some o:=λb o e=>pushCells_keeps _ _ b o (Ad _ e);have DF:s.heap.objs.size+1<=(pushCells (s.heap.push {cls:=.type "frame",data:=.dict #[]}) fd.scope.names).objs.size:=by have:=Nz fd.scope.names (s.heap.push {cls:=.type "frame",data:=.dict #[]});rwa[Bc] at this
 have GC:∀b∈(Fu fd a A outer L lev).own l,b∈l.map (·.1)\/s.heap.objs.size<=b:=λb hb=>by
  unfold Ctx.own at hb;rcases Ag.mp hb with e|e
  ·exact .inr (by rw[hL];exact Ef e.symm)
  rcases Ao.mp e with e|e
  ·exact .inr (by rw[hL];exact Qs ((Jq _ _).1 b e))
  ·exact .inl e
 have PS:Step (l.map (·.1)) ((Fu fd a A outer L lev).own l) s.heap (pushCells (s.heap.push {cls:=.type "frame",data:=.dict #[]}) fd.scope.names):=
  ⟨λb o e _=>⟨o,ED b o e,.refl o⟩,GC,Qs DF⟩
 have GP:(pushCells (s.heap.push {cls:=.type "frame",data:=.dict #[]}) fd.scope.names).get? L=some {cls:=.type "frame",data:=.dict #[]}:=by rw[<-hL];exact pushCells_keeps _ _ _ _ (As _ rfl)
 have RH:(pushCells (s.heap.push {cls:=.type "frame",data:=.dict #[]}) fd.scope.names).Ns L λ_=>none:=by rw[<-hL];exact(Heap.Ns.new s.heap (.type "frame")).keeps (pushCells_keeps _ _)
 have PU:Co U w T (Fu fd a A outer L lev) {s with heap:=pushCells (s.heap.push {cls:=.type "frame",data:=.dict #[]}) fd.scope.names} ((Eo (L+1) fd.scope.names).map λ_=>none) l:=by
  refine⟨⟨let ⟨_,tk,e⟩:=LR.AH.hs;⟨_,tk,by rw[e]⟩,λb o e=>ED b o (hk b o e),Aa LR.AH.room (Qs DF)⟩,λenv he=>?_,⟨_,_,RH,GP,rfl,?_⟩,λp hp=>(LR.led p hp).keep (λo e=>ED _ _ e) λb vs e=>ED _ _ e,?_,λb hb=>?_⟩
  ·rcases Ag.mp he with rfl|he
   ·exact⟨by show fd.scope.kind≠.module;rw[F.kind];decide,L,_,_,_,rfl,hL▸LR.AH.room,GP,rfl,rfl⟩
   ·obtain⟨k1,L',o',es,ep,k2,k3,k4,k5,k6⟩:=LR.frames env he;exact⟨k1,L',o',es,ep,k2,k3,ED _ _ k4,k5,k6⟩
  ·have:=Pb fd.scope.names (s.heap.push {cls:=.type "frame",data:=.dict #[]}) _ λb o e=>e;rw[Bc,hL] at this;exact this
  ·refine Ap.mpr ⟨λq=>?_,Cd.mpr ⟨(Jq _ _).2,LR.nodup,λx hx y hy e=>?_⟩⟩
   ·rcases Ao.mp q with q|q
    ·exact Dv _ ((Jq _ _).1 _ q)
    ·obtain⟨p,hp,e⟩:=Af.mp q;obtain⟨ob,e1,_⟩:=(LR.led p hp).at;have:p.1<L:=hL▸Am e1;exact Dv _ (Qa this (show L=p.1 from e.symm))
   ·subst e;obtain⟨p,hp,e⟩:=Af.mp hy;obtain⟨ob,e1,_⟩:=(LR.led p hp).at;have h5:p.1<L:=hL▸Am e1;have h6:=(Jq _ _).1 _ hx;exact Dv p.1 (oV h5 (Qa (Nat.lt_of_succ_le h6) e.symm))
  ·rcases GC b hb with e|e
   ·obtain⟨p,hp,rfl⟩:=Af.mp e;exact LR.apart p hp
   ·exact Aa LR.AH.room e
 subst hL;refine wpAny_bind (rV (c:=Fu fd a A outer s.heap.objs.size lev) (λ_ _ _=>rfl) C.ML params as vals _ r0 _ PU (rv.AD λb vs e=>ED _ _ e) D0 PS hlen _ λs' R' S'=>?_);exact wpAny_pure (K1 s' R' S')
theorem Cg.CR {fd:FuncData}(F:gQ T a fd body)(TO:T.Ok U w)(params:List Str)
  (hb:∀(s:Shared) (vals:List Value),(∀b o,T.B.get? b=some o->s.heap.get? b=some o)->vals.length=params.length->BindsTo s fd ⟨vals,[]⟩ (params.zip vals)) (hlen:params.length=as.length)
  (h:∀(A:Around) (outer:List Env) (L:Addr),(Fu fd a A outer L lev).Ok->∃r0,Oo (Eo (L+1) fd.scope.names) ((Eo (L+1) fd.scope.names).map λ_=>none) (params.zip as) r0/\
   Ws U w T (Fu fd a A outer L lev) body r0 l (λfl _ l'=>match fl with | .ret d=>Q d l' | .next=>Q .none l'|_=>False) X):Cg U w T (lev+1) (.ref a) as l Q X:=by k_with"o"=>
 intro A outer s vals h1 h2 h3 h4 LR rv;obtain⟨o,ho,hd⟩:=F.there;have hk:=LR.AH.stays;refine codeAny_call_function (by have:recursionLimit=1000:=rfl;omega) (hk _ _ ho) hd F.U5 F.gen F.body (F.code.keeps hk) ?_;refine Vc F TO params hb hlen h1 h2 h3 h4 LR rv λL hL C=>?_;subst hL;obtain⟨r0,D0,K1⟩:=h A outer s.heap.objs.size C;refine⟨r0,D0,λs' R' S'=>⟨TO.nolimit.keeps R'.AH.stays,codeAny_func (wpAny_mono (K1 s' R') (λfl s2 ⟨g,r2,l2,hf,R2,S2,q⟩=>?_) λx s2 e=>?_)⟩⟩
 ·have fin:∀(d:V) (v:Value),RV s2.heap d v->Q d l2->qK U w T outer (l.map (·.1)) s.heap Q X (.ok (.ret v)) s2:=λd v DN q2=>
   ⟨d,l2,DN,⟨R2.AH,λe he=>R2.frames e (.tail _ he),R2.led,R2.BF,λp hp=>R2.apart _ (Em hp)⟩,(S'.trans S2).mono (λ_ q=>q) λb hb=>.inl (by
    obtain⟨p,hp,rfl⟩:=Af.mp hb;exact Em hp),q2⟩
  cases g with
  |next=>cases hf;exact fin .none .none .none q
  |brk=>exact q.elim
  |cont=>exact q.elim
  |ret d=>obtain⟨v,rfl,DN⟩:=hf;exact fin d v DN q
 ·have e':Exc U w T (callEnvC fd s.heap.objs.size a::outer) (l.map (·.1)) s.heap false X x s2:=e.shift S' λ_ q=>q;exact Sj (Around.frames_deeper h1) e' λs3 e3=>e3
theorem Cg.of_body {fd:FuncData}(F:gQ T a fd body)(TO:T.Ok U w)(params:List Str)
  (hb:∀vals:List Value,vals.length=params.length->bindArgs fd ⟨vals,[]⟩=pure (params.zip vals)) (hlen:params.length=as.length)
  (h:∀(A:Around) (outer:List Env) (L:Addr),(Fu fd a A outer L lev).Ok->∃r0,Oo (Eo (L+1) fd.scope.names) ((Eo (L+1) fd.scope.names).map λ_=>none) (params.zip as) r0/\
   Ws U w T (Fu fd a A outer L lev) body r0 l (λfl _ l'=>match fl with | .ret d=>Q d l' | .next=>Q .none l'|_=>False) X):Cg U w T (lev+1) (.ref a) as l Q X:=by k_with"o"=>exact(Cg.CR F TO params (λs vals _ hl=>.of_eq (hb vals hl)) hlen h)
section
inductive Rq (T:Ez)(x:Str):Value->Prop
 |main {v:Value}:T.mg x=some v->Rq T x v
 |boot {v:Value}:T.mg x=none->T.mb x=some v->Rq T x v
theorem Me {P:Value->Shared->Prop}(C:c.Ok)(TO:T.Ok U w)(hx:c.env.kindOf x=some .globalImplicit)(hd:(x==("__debug__" : Str))=false)(g:Rq T x v)
  (G:F7 T.B T.s0 s) (h:P v s):wpAny M A (eval (.Name x pos) c.env) P E s:=by k_with"o"=>
 refine Name_function_global C.kind hx ?_ hd;have hg:s.heap.Ns c.env.globals T.mg:=by rw[C.globals];exact TO.g.keeps G.stays
 have hb:s.heap.Ns c.env.builtins T.mb:=by rw[C.builtins];exact TO.b.keeps G.stays
 cases g with
 |main e=>exact loadGlobal_global hg e h
 |boot e1 e2=>exact loadGlobal_builtin hg e1 hb e2 h
theorem nU {i:Int}{t:Tok}(C:c.Ok)(TO:T.Ok U w)(hx:c.env.kindOf x=some .globalImplicit)(hd:(x==("__debug__" : Str))=false)(g:Rq T x (.int i t))(h:Q (.int i) l):We U w T c (.Name x pos) r l Q X:=by k_with"o"=>exact(λs R=>
 Me C TO hx hd g R.AH (R.val (.int i t) h))
inductive Callee (T:Ez):Value->Prop
 |fn {a:Addr} {o:Obj} {fd:FuncData}:T.B.get? a=some o->o.data=.func fd->Callee T (.ref a)
 |bi {id:String}:Callee T (.builtin id)
 |ty {t:String}:Callee T (.type t)
 |kp {f:Value}:keepIn T.K f=true->Callee T f
theorem Lq {P:Value->Shared->Prop}{env:Env}{first:List Value}(TO:T.Ok U w)(K:Callee T f)(AM:starEach args env=args.map λe=>(false,eval e env))
  (h:wpAny (model U w) A (spliced (backTo pos (starEach args env))) (λvs s1=>F7 T.B T.s0 s1/\wpAny (model U w) A (call f (first++vs)) P E s1) E s):wpAny (model U w) A (callWith pos f first (backTo pos (starEach args env)) []) P E s:=by k_with"o"=>
 have CJ:(backTo pos (starEach args env)).any (·.1)=false:=by
  rw[AM];clear h AM
  induction args with
  |nil=>rfl
  |cons e es ih=>exact ih
 have ev:∀(Pa:Args->Shared->Prop),wpAny (model U w) A (spliced (backTo pos (starEach args env))) (λvs s1=>Pa ⟨vs,[]⟩ s1) E s->wpAny (model U w) A (evalArgs f true (backTo pos (starEach args env)) []) Pa E s:=by
  intro Pa hp;rw[AM] at hp ⊢;cases args with
  |nil=>intro Γ p hΓ;exact PySem.evalArgs_none (A:=A) (Q:=Pa) (show Pa ⟨[],[]⟩ s from hp Γ p hΓ) Γ p hΓ
  |cons e es=>exact Calls.evalArgs_plain hp
 cases K with
 |fn h1 h2=>exact Calls.callWith_function (ev _ (wpAny_mono h (λvs s1 ⟨G,q⟩=>⟨⟨G.stays _ _ h1,h2⟩,q⟩) λ_ _ e=>e))
 |bi=>exact Calls.callWith_builtin CJ (ev _ (wpAny_mono h (λvs s1 ⟨G,q⟩=>q) λ_ _ e=>e))
 |ty=>exact PyProof.Rows.callWith_type CJ (ev _ (wpAny_mono h (λvs s1 ⟨G,q⟩=>q) λ_ _ e=>e))
 |kp hk=>exact callWith_of (by rw[CJ];rfl) (keeps_K hk) (ev _ (wpAny_mono h (λvs s1 ⟨G,q⟩=>⟨λa o e=>G.stays a o (TO.E8 a o e),q⟩) λ_ _ e=>e))
theorem yZ {p:Pos}(C:c.Ok)(TO:T.Ok U w)(hx:c.env.kindOf x=some .globalImplicit)(hd:(x==("__debug__" : Str))=false)(g:Rq T x f)(K:Callee T f)
  (he:eval (.Call (.Name x p) args [] pos) c.env=(do callWith pos (<-eval (.Name x p) c.env) [] (backTo pos (starEach args c.env)) (backToKw pos (keywordEach [] c.env))))
  (AM:starEach args c.env=args.map λe=>(false,eval e c.env))
  (h:Hd U w T c pos args r l (λds l1=>Wn U w T c (λxs=>call f xs) ds r l1 Q X) X):We U w T c (.Call (.Name x p) args [] pos) r l Q X:=by k_with"o"=>exact(λs R=>
 Call_ (Me C TO hx hd g R.AH (Lq TO K AM (wpAny_mono (h s R) (λvs s1 ⟨ds,l1,rv,R1,S1,q⟩=>⟨R1.AH,Wt.seq S1 (q _ _ R1 rv)⟩) λ_ _ e=>e))) he)
def Vh (U:Program)(w:World)(T:Ez)(c:Ctx)(r:Rg)(l:Led)(d:V)(name:Str)(f:Value):Prop:=
 ∀(s:Shared) (x:Value) (pl:Sem Bool) (P:Value×List Value->Shared->Prop) (E:Value->Shared->Prop),Co U w T c s r l->RV s.heap d x->P (f,[x]) s->wpAny (model U w) c.A (getMethod x name pl) P E s
theorem sH {o:Expr}{name:Str}{apos:Pos}{pl:Sem Bool}(TO:T.Ok U w)
  (he:eval (.Call (.Attribute o name apos) args [] pos) c.env=(do
   let ov <-eval o c.env
   standAt apos.atName
   let (f,first) <-holding [ov] (getMethod ov name pl)
   callWith pos f first (backTo pos (starEach args c.env)) []))
  (AM:starEach args c.env=args.map λe=>(false,eval e c.env))
  (h:We U w T c o r l (λd l1=>∃f,Vh U w T c r l1 d name f/\Callee T f/\Hd U w T c pos args r l1 (λds l2=>Wn U w T c (λxs=>call f xs) (d::ds) r l2 Q X) X) X) :
  We U w T c (.Call (.Attribute o name apos) args [] pos) r l Q X:=by k_with"o"=>exact(λs R=>
 MethodCall_ (pl:=pl) (wpAny_mono (h s R) (λx s1 ⟨d,l1,rv,R1,S1,f,m,K,hw⟩=>
  m s1 x pl _ _ R1 rv (Lq TO K AM (wpAny_mono (hw _ R1) (λvs s2 ⟨ds,l2,AF,R2,S2,q⟩=>⟨R2.AH,Wt.seq (S1.trans S2) (q _ _ R2 (.cons (rv.AD (R1.AD S2)) AF))⟩) λ_ _ e=>e.shift S1 λ_ q=>q))) λ_ _ e=>e) he)
theorem yW {a b:Expr}(h:We U w T c a r l (λx l1=>We U w T c b r l1 (λy l2=>W2 U w T c (subscriptTail a b) x y r l2 Q X) X) X):We U w T c (.Subscript a b pos) r l Q X:=by k_with"o"=>exact(λs R=>
 Subscript_ (wpAny_mono (h s R) (λ_ _ ⟨x,l1,FN,R1,S1,q1⟩=>wpAny_mono (q1 _ R1) (λ_ _ ⟨y,l2,DN,R2,S2,q2⟩=>
  Wt.seq (S1.trans S2) (q2 _ _ _ R2 (FN.AD (R1.AD S2)) DN)) λ_ _ e=>e.shift S1 λ_ q=>q) λ_ _ e=>e))
inductive Mx:O->O->Prop
 |refl {x:O}:Mx x x
 |fz {ob:Obj} {x:O}:Mx (.fz ob x) x
theorem Mx.ro {x y:O}(z:Mx y x)(q:RO U w h a y):RO U w h a x:=by k_with"o"=>
 cases z with
 |refl=>exact q
 |fz=>exact q.2
inductive AP:Led->Addr->O->Prop
 |here {a:Addr} {x y:O} {m:Led}:Mx y x->AP ((a,y)::m) a x
 |there {p:Addr×O} {m:Led} {a:Addr} {x:O}:AP m a x->AP (p::m) a x
theorem AP.mem {x:O}(k:AP l a x):∃y,(a,y)∈l/\Mx y x:=by k_with"o"=>
 induction k with
 |here q=>exact⟨_,.head _,q⟩
 |there _ ih=>obtain⟨y,m,q⟩:=ih;exact⟨y,.tail _ m,q⟩
theorem AP.ro {x:O}(k:AP l a x)(R:Co U w T c s r l):RO U w s.heap a x:=by k_with"o"=>obtain⟨y,hm,q⟩:=k.mem;exact q.ro (R.led _ hm)
inductive A5:Led->Addr->O->O->Led->Prop
 |here {a:Addr} {x y:O} {m:Led}:A5 ((a,x)::m) a x y ((a,y)::m)
 |there {p:Addr×O} {m m':Led} {a:Addr} {x y:O}:A5 m a x y m'->A5 (p::m) a x y (p::m')
theorem A5.mem {l':Led}{x y:O}(k:A5 l a x y l'):(a,x)∈l:=by k_with"o"=>
 induction k with
 |here=>exact .head _
 |there _ ih=>exact .tail _ ih
theorem A5.keys {l':Led}{x y:O}(k:A5 l a x y l'):l'.map (·.1)=l.map (·.1):=by k_with"o"=>
 induction k with
 |here=>rfl
 |there _ ih=>rw[Aj,Aj,ih]
theorem A5.NJ {l':Led}{x y:O}{p:Addr×O}(k:A5 l a x y l')(h:p∈l'):p=(a,y)\/p∈l:=by k_with"o"=>
 induction k with
 |here=>exact(Ag.mp h).imp id (.tail _)
 |there _ ih=>
  rcases Ag.mp h with e|e
  ·exact .inr (e▸.head _)
  ·exact(ih e).imp id (.tail _)
theorem A5.in {l':Led}{x y:O}(k:A5 l a x y l'):(a,y)∈l':=by k_with"o"=>
 induction k with
 |here=>exact .head _
 |there _ ih=>exact .tail _ ih
theorem dQ:∀{m:Led} {p q:Addr×O},(m.map (·.1)).Nodup->p∈m->q∈m->p.1=q.1->p=q
 |z::zs,p,q,nd,hp,hq,e=>by k_with"o"=>
  have JL:=Ap.mp nd;rcases Ag.mp hp with e1|e1
  ·rcases Ag.mp hq with e2|e2
   ·rw[e1,e2]
   ·subst e1;exact absurd (Af.mpr ⟨q,e2,e.symm⟩) JL.1
  ·rcases Ag.mp hq with e2|e2
   ·subst e2;exact absurd (Af.mpr ⟨p,e1,e⟩) JL.1
   ·exact dQ JL.2 e1 e2 e
theorem Rel.put (R:Co U w T c s r l){l':Led}{x y:O}{tk:Nat}(k:A5 l a x y l')(S:Bs a s.heap h')(hy:A0 s.heap h'->RO U w h' a y) :
  Co U w T c {s with heap:=h',toks:=tk} r l'/\Step (c.own l) (c.own l') s.heap h':=by k_with"o"=>
 have ha:a∈c.own l:=Em (p:=(a,x)) k.mem;have IG:=R.led _ k.mem;obtain⟨ob,e1,e2,e3,e4⟩:=IG.at;have t:=R.HD (h':=h') tk ha S λo ho h1 _=>by rw[e1] at ho;injection ho with ho;subst ho;exact absurd h1 e2
 have A2:c.own l'=c.own l:=by unfold Ctx.own;rw[k.keys]
 obtain⟨m,o,hn,h3,h4,h5⟩:=R.vars;have hL:c.env.locals≠a:=λe=>R.B8 k.mem e.symm;refine⟨⟨t.AH,t.frames,⟨m,o,hn.sameBut S hL,(S.2 _ hL).trans h3,h4,h5.keep t.AD (λ_ _=>rfl) λb v hb q=>q.sameBut S λe=>R.A3 k.mem hb e.symm⟩,λp hp=>?_,by rw[A2];exact R.nodup,by rw[A2];exact R.apart⟩,by rw[A2];exact t.step⟩;have nd:=R.BF;rw[<-k.keys] at nd;rcases k.NJ hp with e|e
 ·subst e;exact hy t.AD
 ·by_cases q:p.1=a
  ·have:p=(a,y):=by have AE:(a,y)∈l':=A5.in k;have:=dQ nd hp AE q;exact this
   subst this;exact hy t.AD
  ·exact t.ro _ _ q (R.led p e)
theorem RO.isList (x:RO U w h a (.list xs)):∃vs,h.IsList a vs.toArray/\AG h xs vs:=by k_with"o"=>obtain⟨vs,n,e,rv⟩:=x;exact⟨vs,⟨_,e,rfl,n,rfl⟩,rv⟩
theorem Yx {k:Int}{ae be:Expr}(hs:∀o i,subscripted be false o i=operate [o,i] (getItem o i))(AE:AP l a (.list xs))(h0:0<=k)(BE:k<2^63)(hx:xs[k.toNat]?=some d)(h:Q d l) :
  W2 U w T c (subscriptTail ae be) (.ref a) (.int k) r l Q X:=by k_with"o"=>exact(λs x y R rx ry=>by
 obtain⟨vs,n,e,AF⟩:=AE.ro R;have hl:s.heap.IsList a vs.toArray:=⟨_,e,rfl,n,rfl⟩;obtain⟨v,hv,rv⟩:=AF.at hx;cases rx;cases ry;exact tail_any hl.typeIs slot_list_getitem.lookup (wpAny_getItem_list hl h0 BE (by simpa using hv) (R.val rv h)) (hs _ _))
theorem Zm {k:Int}{ae be:Expr}(hs:∀o i,subscripted be false o i=operate [o,i] (getItem o i))(AE:AP l a (.list xs))(h0:k<0)(h1:-(xs.length:Int)<=k)(BE:-(2^63)<=k)(hx:xs[(k+xs.length).toNat]?=some d)(h:Q d l) :
  W2 U w T c (subscriptTail ae be) (.ref a) (.int k) r l Q X:=by k_with"o"=>exact(λs x y R rx ry=>by
 obtain⟨vs,n,e,AF⟩:=AE.ro R;have hl:s.heap.IsList a vs.toArray:=⟨_,e,rfl,n,rfl⟩;have hlen:=AF.length;obtain⟨v,hv,rv⟩:=AF.at hx;cases rx;cases ry;exact tail_any hl.typeIs slot_list_getitem.lookup (wpAny_getItem_list_neg hl h0 (by rw[Az,<-hlen];exact h1) BE (by rw[Az,<-hlen];simpa using hv) (R.val rv h)) (hs _ _))
theorem Ro {k:Int}{ae be:Expr}(hs:∀o i,subscripted be false o i=operate [o,i] (getItem o i))(h0:0<=k)(BE:k<2^63)(hx:xs[k.toNat]?=some d)(h:Q d l) :
  W2 U w T c (subscriptTail ae be) (.tup xs) (.int k) r l Q X:=by k_with"o"=>exact(λs x y R rx ry=>by
 cases rx with
 |tup e AF=>
  rename_i a vs;have hl:PyProof.Rows.IsTup s.heap a vs.toArray:=⟨_,e,rfl,0,rfl⟩;obtain⟨v,hv,rv⟩:=AF.at hx;have AJ:k.toNat<vs.length:=(Bq.mp hv).1;cases ry;have dk:-(2^63:Int)<=k:=Dk (by decide) h0;refine tail_any hl.typeIs slot_tuple_getitem.lookup (PyProof.Rows.getItem_tuple hl dk BE (j:=k.toNat) ?_ (by simpa using hv) (R.val rv h)) (hs _ _);have e1:¬k<0:=Hy.mpr h0;have e2:k<(vs.length:Int):=by have:((k.toNat:Nat):Int)<(vs.length:Int):=Int.ofNat_lt.mpr AJ;rwa[Gs h0] at this
  unfold seqIndex?;simp[e1,h0,e2])
end
theorem Rel.other (R:Co U w T c s r l){wr:List Addr}{tk:Nat}(AU:∀b∈wr,b∉c.own l/\T.B.objs.size<=b/\∃o,s.heap.get? b=some o/\o.cls≠.type "tuple"/\o.cls≠.type "frame")
  (k:∀b o,b∉wr->s.heap.get? b=some o->h'.get? b=some o) (z:s.heap.objs.size<=h'.objs.size):Co U w T c {s with heap:=h',toks:=tk} r l/\A0 s.heap h':=by k_with"o"=>
 have E:A0 s.heap h':=λb vs e=>k b _ (λq=>by obtain⟨o,e1,e2,_⟩:=(AU b q).2.2;rw[e] at e1;injection e1 with e1;subst e1;exact e2 rfl) e;have own:∀b o,b∈c.own l->s.heap.get? b=some o->h'.get? b=some o:=λb o hb e=>k b o (λq=>(AU b q).1 hb) e;refine⟨⟨⟨let ⟨_,_,e⟩:=R.AH.hs;⟨h',tk,by rw[e]⟩,λb o e=>k b o (λq=>absurd (Am e) (Bh.mpr (AU b q).2.1)) (R.AH.stays b o e),Aa R.AH.room z⟩,R.frames.keep λb o e h1 h2=>⟨o,k b o (λq=>?_) e,h1,h2⟩,?_,λp hp=>(R.led p hp).keep (λo e=>own _ _ (Em hp) e) E,R.nodup,R.apart⟩,E⟩
 ·obtain⟨o',e1,_,e3⟩:=(AU b q).2.2;rw[e] at e1;injection e1 with e1;subst e1;exact e3 h1
 ·obtain⟨m,o,hn,h3,h4,h5⟩:=R.vars;exact⟨m,o,hn.at' λo e=>own _ _ (Sd c l) e,own _ _ (Sd c l) h3,h4,h5.keep E (λ_ _=>rfl) λa v ha q=>let ⟨o,e,d⟩:=q;⟨o,own _ _ (Hv ha) e,d⟩⟩
structure G4 (U:Program)(w:World)(A:Around)(I:Addr)(wr:List Addr)(ext:List (Addr×Obj))(h0:Heap)(ds:List V)(St:Nat->Heap->Prop):Prop where
 frame:∀i h h',St i h->(∀b∈wr,∀o,h.get? b=some o->h'.get? b=some o)->(∀p∈ext,h'.get? p.1=some p.2)->St i h'
 live:∀i h,St i h->∀b∈wr,∃o,h.get? b=some o/\o.cls≠.type "tuple"/\o.cls≠.type "frame"
 ext:∀i h,St i h->∀p∈ext,h.get? p.1=some p.2
 item:∀i d (s:Shared) (Q:Option Value->Shared->Prop) (E:Value->Shared->Prop),ds[i]?=some d->St i s.heap->A0 h0 s.heap->
  (∀v h' tk,RV s.heap d v->St (i+1) h'->(∀b o,b∉wr->s.heap.get? b=some o->h'.get? b=some o)->Q (some v) {s with heap:=h',toks:=tk})->wpAny (model U w) A (pyNext (.ref I)) Q E s
 done:∀(s:Shared) (Q:Option Value->Shared->Prop) (E:Value->Shared->Prop),St ds.length s.heap->
  (∀h' tk,(∀b o,b∉wr->s.heap.get? b=some o->h'.get? b=some o)->Q none {s with heap:=h',toks:=tk})->wpAny (model U w) A (pyNext (.ref I)) Q E s
 go:∀i (s:Shared) target v (Q:Unit->Shared->Prop) (E:Value->Shared->Prop),St (i+1) s.heap->Q () s->wpAny (model U w) A (letOwnedTupleGo target (.ref I) v) Q E s
 self:∀i (s:Shared) (Q:Value->Shared->Prop) (E:Value->Shared->Prop),St i s.heap->Q (.ref I) s->wpAny (model U w) A (pyIter (.ref I)) Q E s
theorem uI {I:Addr}{Q:Unit->Shared->Prop}{n:String}{vs:Array Value}(ho:s.heap.get? I=some o)(hc:o.cls=.type n)(hd:o.data=.fields vs)
  (hn:(["enumerate","zip","dict_itemiterator","dict_reverseitemiterator","odict_iterator","itertools.zip_longest","itertools.pairwise"]:List String).contains n=false) (h:Q () s):wpAny M A (letOwnedTupleGo target (.ref I) v) Q E s:=by k_with"o"=>
 cases target
 case Tuple|List=>
  cases v
  case ref a=>refine wpAny_bind (wpAny_load ho ?_);simp only[hc,hd,hn,Bool.false_and,Bi,if_false];exact wpAny_pure h
  all_goals exact wpAny_pure h
 all_goals exact wpAny_pure h
theorem G4.B6 {I:Addr}{fp wr:List Addr}{ext:List (Addr×Obj)}{P:Nat->Value->Prop}{St:Nat->Heap->Prop}(W:Walks U w A I fp wr ds.length P St)
  (aw:∀b∈fp,b∈wr\/∃o,(b,o)∈ext) (hx:∀p∈ext,p.1∉wr) (JX:∀i h,St i h->∀b∈wr,∃o vs n,h.get? b=some o/\o.cls=.type n/\o.data=.fields vs/\
   (["enumerate","zip","dict_itemiterator","dict_reverseitemiterator","odict_iterator","itertools.zip_longest","itertools.pairwise","tuple","frame"]:List String).contains n=false) (hI:I∈wr)
  (hP:∀i v,i<ds.length->P i v->∃d,ds[i]?=some d/\RV h0 d v):G4 U w A I wr ext h0 ds (λi h=>St i h/\∀p∈ext,h.get? p.1=some p.2) where
 frame:=λi h h' st k kx=>⟨W.frame i h h' st.1 λb hb o e=>by
  rcases aw b hb with q|⟨ob,q⟩
  ·exact k b q o e
  ·rw[st.2 _ q] at e;injection e with e;subst e;exact kx _ q,kx⟩
 live:=λi h st b hb=>by
  obtain⟨o,vs,n,e1,e2,e3,e4⟩:=JX i h st.1 b hb;refine⟨o,e1,?_,?_⟩
  ·rw[e2];intro q;injection q with q;subst q;revert e4;decide
  ·rw[e2];intro q;injection q with q;subst q;revert e4;decide
 ext:=λi h st=>st.2
 item:=λi d s Q E hi st ev h=>by have AJ:i<ds.length:=(Bq.mp hi).1;refine W.item i s Q E AJ st.1 λv h' tk hp AA hk=>?_;obtain⟨d',e,rv⟩:=hP i v AJ hp;rw[hi] at e;injection e with e;subst e;exact h v h' tk (rv.AD ev) ⟨AA,λp hp=>hk _ _ (hx p hp) (st.2 p hp)⟩ hk
 done:=λs Q E st h=>W.done s Q E st.1 h
 self:=λi s Q E st h=>W.self i s Q E st.1 h
 go:=λi s target v Q E st h=>by obtain⟨o,vs,n,e1,e2,e3,e4⟩:=JX _ _ st.1 I hI;refine uI e1 e2 e3 ?_ h;simp only[List.contains_cons,Un] at e4 ⊢;simp[e4]
theorem Wq {x:Value}{s':Shared}(C:c.Ok)(e:Exc U w T c.outer own h0 false X x s')
  (h:∀s2,Exc U w T c.outer own h0 true X x s2->E x s2):notedBy (model U w) c.A c.env (λe C3=>cameBackBy (model U w) c.A c.env E e C3) x s':=by k_with"o"=>
 obtain⟨e0,o0,h1,h2⟩:=C.head;have IK:=C.frames;rw[h1] at IK e;refine Pq IK h2 e λs2 e2=>?_;show wpAny _ _ _ _ _ _;obtain⟨a,i,rfl,hX,d,vs,sl,q1,q2,q3,q4,qz,_,_,q7⟩:=id e2.FI;rcases q7 with⟨z,_⟩|⟨Tb,oT,ts,z1,z2,z3,z4,z5,z6,z7⟩
 ·cases z
 refine wpAny_bind (wpAny_field q1 rfl z1 ?_);rw[if_neg (show ¬((Value.ref Tb==Value.none)=true) from by simp)];refine Ml e2 λs3 e3=>h s3 (by rw[h1];exact e3)
theorem jE {Q:Fl->Rg->Led->Prop}{I:Addr}{wr:List Addr}{ext:List (Addr×Obj)}{St:Nat->Heap->Prop}(C:c.Ok)(W:G4 U w c.A I wr ext h0 ds St)
  (LO:∀i r l,J i r l->∀p∈ext,(∃vs,p.2=Fs vs)\/∃x,(p.1,.fz p.2 x)∈l)
  (turn:∀i d r l,ds[i]?=some d->J i r l->Wa U w T c target d r l (λr1 l1=>(∀p∈ext,(∃vs,p.2=Fs vs)\/∃x,(p.1,.fz p.2 x)∈l1)/\Ws U w T c body r1 l1 (λfl r2 l2=>match fl with
   |.next=>J (i+1) r2 l2 | .cont=>J (i+1) r2 l2 | .brk=>Q .next r2 l2 | .ret d=>Q (.ret d) r2 l2) X) X)
  (done:∀r l,J ds.length r l->Q .next r l) {hs:Heap} (R:Co U w T c s r l) (hJ:J 0 r l) (AM:St 0 s.heap) (AU:∀b∈wr,hs.objs.size<=b/\b∉c.own l/\T.B.objs.size<=b) (S0:Step own0 (c.own l) hs s.heap) (EA:A0 h0 s.heap) :
  codeAny (model U w) c.A (.forLoop target (.ref I) body [] c.env) (λr s'=>match r with | .ok f=>Za U w T c own0 hs Q f s' | .error e=>cameBackBy (model U w) c.A c.env (Exc U w T c.outer own0 hs false X) e s') s:=by k_with"o"=>
 refine codeAny_forLoop_any (λn s=>∃i r l,n=ds.length-i/\i<=ds.length/\Co U w T c s r l/\J i r l/\St i s.heap/\(∀b∈wr,hs.objs.size<=b/\b∉c.own l/\T.B.objs.size<=b)/\Step own0 (c.own l) hs s.heap/\A0 h0 s.heap) ?_ _
  ⟨0,r,l,rfl,Ca _,R,hJ,AM,AU,S0,EA⟩
 rintro n s ⟨i,r,l,rfl,hi,R,hJ,AM,AU,S0,EA⟩;have err:∀{BC:List Addr} {h1:Heap} (x:Value) (s':Shared),Step own0 BC hs h1->Exc U w T c.outer BC h1 false X x s'->notedBy (model U w) c.A c.env (λe C3=>cameBackBy (model U w) c.A c.env (Exc U w T c.outer own0 hs false X) e C3) x s':=λx s' S e=>
  Wq C (e.shift S λ_ q=>q) λ_ e3=>e3.weak
 have moved:∀{h':Heap} {tk:Nat},s.heap.objs.size<=h'.objs.size->(∀b o,b∉wr->s.heap.get? b=some o->h'.get? b=some o)->Co U w T c {s with heap:=h',toks:=tk} r l/\A0 s.heap h'/\Step own0 (c.own l) hs h':=λ{h' tk} z hk=>by obtain⟨R1,E1⟩:=R.other (tk:=tk) (λb hb=>⟨(AU b hb).2.1,(AU b hb).2.2,W.live _ _ AM b hb⟩) hk z;refine⟨R1,E1,⟨λb o e n=>?_,S0.fresh,Aa S0.size z⟩⟩;obtain⟨o',e',s'⟩:=S0.kept b o e n;exact⟨o',hk b o' (λq=>absurd (Am e) (Bh.mpr (AU b q).1)) e',s'⟩
 by_cases AJ:i<ds.length
 ·obtain⟨d,hd⟩:∃d,ds[i]?=some d:=⟨_,Cs AJ⟩;refine Ci (Ah _) (W.item i d s _ _ hd AM EA λv h1 HE rv DT DZ z1=>?_);obtain⟨R1,E1,S1⟩:=moved (tk:=HE) z1 DZ;refine W.go i _ target v _ _ DT ?_;refine wpAny_mono (turn i d r l hd hJ _ v R1 (rv.AD E1)) (λ_ s2 ⟨r2,l2,R2,S2,KY,hb⟩=>?_) λx s2 e=>err x s2 S1 e;have CE:∀{BC E4:List Addr} {ha hb:Heap} {k:Nat},Step BC E4 ha hb->St k ha->(∀b∈wr,b∉BC)->∀b∈wr,∀o,ha.get? b=some o->hb.get? b=some o:=λS st n b hb o e=>by obtain⟨o',e',s'⟩:=S.kept b o e (n b hb);obtain⟨o2,q1,_,q3⟩:=W.live _ _ st b hb;rw[e] at q1;injection q1 with q1;subst q1;rw[e',s'.eq q3]
  have D3:∀{r1:Rg} {l1:Led} {ha hb:Heap} {sb:Shared},sb.heap=hb->Co U w T c sb r1 l1->A0 ha hb->(∀p∈ext,ha.get? p.1=some p.2)->(∀p∈ext,(∃vs,p.2=Fs vs)\/∃x,(p.1,O.fz p.2 x)∈l1)->∀p∈ext,hb.get? p.1=some p.2:=λhs Rb E q1 q2 p hp=>by
   rcases q2 p hp with⟨vs,e⟩|⟨x,e⟩
   ·have:=q1 p hp;rw[e] at this ⊢;exact E _ _ this
   ·rw[<-hs];exact(Rb.led _ e).1
  have E2:A0 h1 s2.heap:=R1.AD S2;have PF:∀p∈ext,h1.get? p.1=some p.2:=λp hp=>W.ext _ _ DT p hp;have BX:St (i+1) s2.heap:=W.frame _ _ _ DT (CE S2 DT λb hb=>(AU b hb).2.1) (D3 rfl R2 E2 PF KY);have JK:∀b∈wr,b∉c.own l2:=λb hb q=>(S2.fresh b q).elim (AU b hb).2.1 λz=>by obtain⟨o,e,_⟩:=W.live _ _ DT b hb;exact absurd (Am e) (Bh.mpr z)
  refine wpAny_mono (hb s2 R2) (λf s3 ⟨g,r3,l3,hf,R3,S3,q⟩=>?_) λx s3 e=>err x s3 (S1.trans S2) e;have FQ:=(S1.trans S2).trans S3;have HP:J (i+1) r3 l3->∃m,m<ds.length-i/\∃i' r l,m=ds.length-i'/\i'<=ds.length/\Co U w T c s3 r l/\J i' r l/\St i' s3.heap/\(∀b∈wr,hs.objs.size<=b/\b∉c.own l/\T.B.objs.size<=b)/\Step own0 (c.own l) hs s3.heap/\A0 h0 s3.heap:=λhj=>by
   refine⟨ds.length-(i+1),by omega,i+1,r3,l3,rfl,AJ,R3,hj,?_,λb hb=>⟨(AU b hb).1,λq=>?_,(AU b hb).2.2⟩,FQ,((EA.trans E1).trans E2).trans (R2.AD S3)⟩
   ·exact W.frame _ _ _ BX (CE S3 BX JK) (D3 rfl R3 (R2.AD S3) (λp hp=>W.ext _ _ BX p hp) (LO _ _ _ hj))
   ·rcases S3.fresh b q with z|z
    ·exact JK b hb z
    ·obtain⟨o,e,_⟩:=W.live _ _ BX b hb;exact absurd (Am e) (Bh.mpr z)
  cases g with
  |next=>cases hf;exact HP q
  |cont=>cases hf;exact HP q
  |brk=>cases hf;exact⟨.next,r3,l3,rfl,R3,FQ,q⟩
  |ret d=>obtain⟨v,rfl,F'⟩:=hf;exact⟨.ret d,r3,l3,⟨v,rfl,F'⟩,R3,FQ,q⟩
 ·have AE:i=ds.length:=by omega
  subst AE;refine Ci (Ah _) (W.done s _ _ AM λh1 HE DZ z1=>?_);obtain⟨R1,E1,S1⟩:=moved (tk:=HE) z1 DZ;exact wpAny_execs_nil ⟨.next,r,l,rfl,R1,S1,done r l hJ⟩
theorem Rel.CD (R:Co U w T c s r l){l':Led}{x y:O}(k:A5 l a x y l')(hy:RO U w s.heap a x->RO U w s.heap a y):Co U w T c s r l'/\(∀b,b∈c.own l'↔b∈c.own l):=by k_with"o"=>
 have A2:c.own l'=c.own l:=by unfold Ctx.own;rw[k.keys]
 refine⟨⟨R.AH,R.frames,R.vars,λp hp=>?_,by rw[A2];exact R.nodup,by rw[A2];exact R.apart⟩,λb=>by rw[A2]⟩;rcases k.NJ hp with e|e
 ·subst e;exact hy (R.led _ k.mem)
 ·exact R.led p e
theorem Step.C7 {o1 o2 MK NH:List Addr}(x:Step o1 o2 h h')(a:∀b,b∈o1↔b∈MK)(c:∀b,b∈NH↔b∈o2):Step MK NH h h':=by k_with"o"=>exact(x.mono (λb q=>(a b).mp q) λb q=>.inl ((c b).mp q))
def bZ (U:Program)(w:World)(T:Ez)(c:Ctx)(r:Rg)(l:Led)(d:V)(ds:List V):Prop:=
 ∀(s:Shared) (x:Value) (Q:Value->Shared->Prop) (E:Value->Shared->Prop),Co U w T c s r l->RV s.heap d x->
  (∀I wr ext St h',G4 U w c.A I wr ext s.heap ds St->(∀p∈ext,∃vs,p.2=Fs vs)->St 0 h'->(∀b o,s.heap.get? b=some o->h'.get? b=some o)->s.heap.objs.size<=h'.objs.size->(∀b∈wr,s.heap.objs.size<=b)->
   Q (.ref I) {s with heap:=h'})->wpAny (model U w) c.A (pyIter x) Q E s
theorem Tq (C:c.Ok):bZ U w T c r l (.tup ds) ds:=by k_with"o"=>exact(λs x Q E R rx h=>by
 cases rx with
 |tup e AF=>
  rename_i a vs;have ht:s.heap.IsTuple a vs.toArray:=⟨_,e,rfl,0,rfl⟩;have AJ:=Am e;refine wpAny_pyIter_tuple ht ?_;have W:=Walks.tuple (prog:=U) (w:=w) (A:=c.A) C.handled s.heap.objs.size a (By AJ) vs.toArray;rw[show vs.toArray.size=ds.length from by rw[AF.length];exact Az ..] at W;refine h _ [s.heap.objs.size] [(a,Fs vs)] _ _ (G4.B6 (h0:=s.heap) (ext:=[(a,Fs vs)]) W (λb hb=>?_) (λp hp=>?_) (λi h st b hb=>?_) (Ae.mpr rfl) λi v _ hv=>?_) (λp hp=>⟨vs,by rw[Ae.mp hp]⟩) ?_ (λb o e=>Ad _ e) (by rw[Bc];exact Cb _) λb hb=>Ef (Ae.mp hb).symm
  ·rcases Ag.mp hb with q|q
   ·exact .inl (by rw[q];exact Ae.mpr rfl)
   ·rw[Ae.mp q];exact .inr ⟨_,Ae.mpr rfl⟩
  ·rw[Ae.mp hp];exact λq=>By AJ (Ae.mp q)
  ·obtain⟨⟨o,e1,e2,e3⟩,_⟩:=st;rw[Ae.mp hb];exact⟨o,_,_,e1,e2,e3,by decide⟩
  ·obtain⟨d,hd,rv⟩:=AF.at' (i:=i) (v:=v) (by simpa using hv);exact⟨d,hd,rv⟩
  ·exact⟨⟨⟨_,As _ rfl,rfl,rfl⟩,ht.push _⟩,λp hp=>by rw[Ae.mp hp];exact Ad _ e⟩)
theorem kU (C:c.Ok):bZ U w T c r l (.bytes b) (b.map λx=>.int (x.toNat:Int)):=by k_with"o"=>exact(λs x Q E R rx h=>by
 cases rx with
 |bytes _ t=>
  refine KBw.pyIter_bytes ?_;have W:=KBw.walks (prog:=U) (w:=w) (A:=c.A) C.handled s.heap.objs.size b.toArray t;rw[show b.toArray.size=(b.map λx=>V.int (x.toNat:Int)).length from by rw[Ac];exact Az ..] at W;refine h _ [s.heap.objs.size] [] _ _ (G4.B6 (h0:=s.heap) (ext:=[]) W (λb hb=>.inl hb) (λp hp=>(nomatch hp)) (λi h st b hb=>?_) (Ae.mpr rfl) λi v _ hv=>?_) (λp hp=>(nomatch hp)) ?_ (λb o e=>Ad _ e) (by rw[Bc];exact Cb _) λb hb=>Ef (Ae.mp hb).symm
  ·obtain⟨o,e1,e2,e3⟩:=st;rw[Ae.mp hb];exact⟨o,_,_,e1,e2,e3,by decide⟩
  ·obtain⟨cc,u,e1,rfl⟩:=hv;have e2:b[i]?=some cc:=by simpa using e1
   exact⟨.int (cc.toNat:Int),by rw[Bw,e2];rfl,.int _ _⟩
  ·exact⟨⟨_,As _ rfl,rfl,rfl⟩,λp hp=>(nomatch hp)⟩)
theorem vX {Q:Fl->Rg->Led->Prop}(C:c.Ok)(hs:∀x,foldedSetIterable iter c.env x=pure x)
  (h:We U w T c iter r l (λd l1=>∃ds,bZ U w T c r l1 d ds/\∃J:Nat->Rg->Led->Prop,J 0 r l1/\
   (∀i d r l,ds[i]?=some d->J i r l->Wa U w T c target d r l (λr1 l1=>Ws U w T c body r1 l1 (λfl r2 l2=>match fl with
    |.next=>J (i+1) r2 l2 | .cont=>J (i+1) r2 l2 | .brk=>Q .next r2 l2 | .ret d=>Q (.ret d) r2 l2) X) X)/\
   ∀r l,J ds.length r l->Q .next r l) X):BY U w T c (.For target iter body [] pos) r l Q X:=by k_with"o"=>exact(λs R=>
 wpAny_For (wpAny_mono (h s R) (λv s1 ⟨d,l1,rv,R1,S1,ds,hw,J,j0,turn,done⟩=>by
  refine hw s1 v _ _ R1 rv λI wr ext St h' W hx st k z AU=>?_;have R2:=R1.grow (h':=h') (tk:=s1.toks) k z;exact jE C W (J:=J) (λi r l hj p hp=>.inl (hx p hp)) (λi d r l hd hj s x R rx=>wpAny_mono (turn i d r l hd hj s x R rx) (λ_ _ ⟨r1,l1,a,b,q⟩=>⟨r1,l1,a,b,λp hp=>.inl (hx p hp),q⟩) λ_ _ e=>e) done (s:={s1 with heap:=h'}) R2 j0 st
   (λb hb=>⟨Aa S1.size (AU b hb),λq=>absurd (R1.live b q) (Bh.mpr (AU b hb)),Aa R1.AH.room (AU b hb)⟩) (S1.trans (Step.grow k z)) (λb vs e=>k _ _ e)) λ_ _ e=>e) hs)
def WalkL (U:Program)(w:World)(T:Ez)(c:Ctx)(a:Addr)(x:O)(ds:List V):Prop:=
 ∀(s:Shared) (ob:Obj) (Q:Value->Shared->Prop) (E:Value->Shared->Prop),T.B.objs.size<=a->s.heap.get? a=some ob->RO U w s.heap a x->
  (∀I wr St h',G4 U w c.A I wr [(a,ob)] s.heap ds St->St 0 h'->(∀b o,s.heap.get? b=some o->h'.get? b=some o)->s.heap.objs.size<=h'.objs.size->(∀b∈wr,s.heap.objs.size<=b)->
   Q (.ref I) {s with heap:=h'})->wpAny (model U w) c.A (pyIter (.ref a)) Q E s
theorem Ds (C:c.Ok):WalkL U w T c a (.list ds) ds:=by k_with"o"=>exact(λs ob Q E U0 BP ro h=>by
 obtain⟨vs,n,e,AF⟩:=ro;rw[BP] at e;injection e with e;have hl:s.heap.IsList a vs.toArray:=⟨_,BP,by rw[e],n,by rw[e]⟩;have AJ:=Am BP;refine wpAny_pyIter_list hl ?_;have W:=Walks.list (prog:=U) (w:=w) (A:=c.A) C.handled s.heap.objs.size a (By AJ) vs.toArray;rw[show vs.toArray.size=ds.length from by rw[AF.length];exact Az ..] at W;refine h _ [s.heap.objs.size] _ _ (G4.B6 (h0:=s.heap) (ext:=[(a,ob)]) W (λb hb=>?_) (λp hp=>?_) (λi h st b hb=>?_) (Ae.mpr rfl) λi v _ hv=>?_) ?_ (λb o e=>Ad _ e) (by rw[Bc];exact Cb _) λb hb=>Ef (Ae.mp hb).symm
 ·rcases Ag.mp hb with q|q
  ·exact .inl (by rw[q];exact Ae.mpr rfl)
  ·rw[Ae.mp q];exact .inr ⟨_,Ae.mpr rfl⟩
 ·rw[Ae.mp hp];exact λq=>By AJ (Ae.mp q)
 ·obtain⟨⟨o,e1,e2,e3⟩,_⟩:=st;rw[Ae.mp hb];exact⟨o,_,_,e1,e2,e3,by decide⟩
 ·obtain⟨d,hd,rv⟩:=AF.at' (i:=i) (v:=v) (by simpa using hv);exact⟨d,hd,rv⟩
 ·exact⟨⟨⟨_,As _ rfl,rfl,rfl⟩,hl.push _⟩,λp hp=>by rw[Ae.mp hp];exact Ad _ BP⟩)
theorem eQ {Q:Fl->Rg->Led->Prop}(C:c.Ok)(hs:∀x,foldedSetIterable iter c.env x=pure x)
  (h:We U w T c iter r l (λd l1=>∃(a:Addr) (x:O) (ds:List V) (lf:O->Led),d=.ref a/\(∀y,A5 l1 a x y (lf y))/\WalkL U w T c a x ds/\∃J:O->Nat->Rg->Led->Prop,(∀y,Mx y x->J y 0 r (lf y))/\
   (∀y i r l,J y i r l->(a,y)∈l)/\
   (∀y i d r l,Mx y x->ds[i]?=some d->J y i r l->Wa U w T c target d r l (λr1 l1=>(a,y)∈l1/\Ws U w T c body r1 l1 (λfl r2 l2=>match fl with
    |.next=>J y (i+1) r2 l2 | .cont=>J y (i+1) r2 l2 | .brk=>∃l3,A5 l2 a y x l3/\Q .next r2 l3 | .ret d=>∃l3,A5 l2 a y x l3/\Q (.ret d) r2 l3) X) X)/\
   ∀y r l,J y ds.length r l->∃l3,A5 l a y x l3/\Q .next r l3) X):BY U w T c (.For target iter body [] pos) r l Q X:=by k_with"o"=>exact(λs R=>
 wpAny_For (wpAny_mono (h s R) (λv s1 ⟨d,l1,rv,R1,S1,a,x,ds,lf,hd,B4,hw,J,j0,P9,turn,done⟩=>by
  subst hd;cases rv;have ro:=R1.led _ (B4 x).mem;obtain⟨ob,BP,_⟩:=ro.at;refine hw s1 ob _ _ (R1.apart _ (Em (p:=(a,x)) (B4 x).mem)) BP ro λI wr St h' W st k z AU=>?_;obtain⟨Rf,own⟩:=R1.CD (B4 (.fz ob x)) λq=>⟨BP,q⟩;have R2:=Rf.grow (h':=h') (tk:=s1.toks) k z;have fx:∀{l:Led},(a,O.fz ob x)∈l->∀p∈[(a,ob)],(∃vs,p.2=Fs vs)\/∃x,(p.1,O.fz p.2 x)∈l:=λq p hp=>by rw[Ae.mp hp];exact .inr ⟨x,q⟩
  refine codeAny_mono (jE (U:=U) (T:=T) (r:=r) (l:=lf (.fz ob x)) (Q:=λfl r2 l2=>∃l3,A5 l2 a (.fz ob x) x l3/\Q fl r2 l3) C W (J:=J (.fz ob x)) (own0:=c.own l) (hs:=s.heap) (X:=X) (λi r l hj=>fx (P9 _ _ _ _ hj))
   (λi d r l hd hj s x' R rx=>wpAny_mono (turn _ i d r l .fz hd hj s x' R rx) (λ_ _ ⟨r1,l1,b1,b2,q1,q2⟩=>⟨r1,l1,b1,b2,fx q1,λs R=>wpAny_mono (q2 s R) (λf s2 ⟨g,r3,l3,hf,R3,S3,q⟩=>⟨g,r3,l3,hf,R3,S3,by cases g<;>exact q⟩) λ_ _ e=>e⟩) λ_ _ e=>e) (λr l hj=>done _ r l hj) (s:={s1 with heap:=h'}) R2 (j0 _ .fz) st
   (λb hb=>⟨Aa S1.size (AU b hb),λq=>absurd (Rf.live b q) (Bh.mpr (AU b hb)),Aa R1.AH.room (AU b hb)⟩) ((S1.C7 (λ_=>.rfl) own).trans (Step.grow k z)) (λb vs e=>k _ _ e)) λres s' q=>?_
  cases res with
  |error e=>exact q
  |ok f=>obtain⟨g,r3,l3,hf,R3,S3,l4,hp,q⟩:=q;obtain⟨R4,D5⟩:=R3.CD hp λz=>z.2;exact⟨g,r3,l4,hf,R4,S3.C7 (λ_=>.rfl) D5,q⟩) λ_ _ e=>e) hs)
structure cE (K:Frag)(C:Addr):Prop where
 ga:findIn K (.ref C) "__getattribute__"=some (some (.builtin "object.__getattribute__"))
 gt:findIn K (.ref C) "__getattr__"=some none
 sa:findIn K (.ref C) "__setattr__"=some (some (.builtin "object.__setattr__"))
 dict:hasDictIn K C=true
 plain:plainOver K C=true
theorem Rel.E8 (TO:T.Ok U w)(R:Co U w T c s r l):T.K.In s.heap:=by k_with"o"=>exact(λa o e=>R.AH.stays a o (TO.E8 a o e))
theorem Xh {d:Addr}(hn:h.Ns d m)(ho:h.get? d=some o)(name:Str):lookIn name o=some (m name):=by k_with"o"=>
 obtain⟨o',es,ep,e1,e2,e3,e4⟩:=hn;rw[ho] at e1;injection e1 with e1;subst e1;unfold lookIn;rw[e2];have:=e4 name;dsimp only;unfold nsFind findBy at this;rw[<-Array.find?_toList] at this;split
 ·rename_i e he;rw[he] at this;rw[<-this];rfl
 ·rename_i he;rw[he] at this;have LW:es.toList.any (·.refKey)=false:=by rw[Ze];intro x hx;obtain⟨n,t,q⟩:=e3 x (Array.mem_toList_iff.mp hx);simp[DictEntry.refKey,q]
  rw[LW,if_neg (by decide),<-this];rfl
theorem fT {d:Addr}(R:Co U w T c s r l)(h1:AP l a (.inst C d))(h2:AP l d (.ns fs)) :
  ∃m od,s.heap.Ns d m/\s.heap.get? d=some od/\YD s.heap m fs/\InstAt s.heap a {cls:=.ref C,dict:=some d,data:=.plain} C (some od):=by k_with"o"=>
 obtain⟨m,hn,⟨o,_,_,e,_⟩,q⟩:=h2.ro R;exact⟨m,o,hn,e,q,⟨h1.ro R,rfl,rfl,e⟩⟩
theorem rO (x:RV h d v):handedIn v=true:=by k_with"o"=>cases x<;>rfl
theorem zA {n attr:Str}{np:Pos}(TO:T.Ok U w)
  (h:We U w T c (.Name n np) r l (λd l1=>∃(a C dd:Addr) (fs:List (Str×V)),d=.ref a/\AP l1 a (.inst C dd)/\AP l1 dd (.ns fs)/\cE T.K C/\findIn T.K (.ref C) attr=some none/\∃v,fs.lookup attr=some v/\Q v l1) X) :
  We U w T c (.Attribute (.Name n np) attr pos) r l Q X:=by k_with"o"=>exact(λs R=>
 Attribute_name (wpAny_mono (h s R) (λx s1 ⟨d,l1,rv,R1,S1,a,C,dd,fs,hd,h1,h2,hc,hf,v,hv,q⟩=>by subst hd;cases rv;obtain⟨m,od,hn,ho,MG,I⟩:=fT R1 h1 h2;have:=MG attr;rw[hv] at this;obtain⟨u,hu,ru⟩:=this;exact get_value (R1.E8 TO) I hc.ga (findObj_own hc.dict hf rfl (by rw[Xh hn ho,hu])) (rO ru) ⟨v,l1,ru,R1.tok _,S1,q⟩) λ_ _ e=>e))
theorem sW {dd:Addr}{name:Str}{f:Addr}(TO:T.Ok U w)(h1:AP l a (.inst C dd))(h2:AP l dd (.ns fs))(hc:cE T.K C)(hf:findIn T.K (.ref C) name=some (some (.ref f)))
  (ht:isFn T.K (.ref f)=true) (hs:fs.lookup name=none):Vh U w T c r l (.ref a) name (.ref f):=by k_with"o"=>exact(λs x pl P E R rx hp=>by
 cases rx;obtain⟨m,od,hn,ho,MG,I⟩:=fT R h1 h2;have:=MG name;rw[hs] at this;exact method_fn (R.E8 TO) I hc.ga hc.gt hf (beq_iff_eq.mp ht) (by show(lookIn name od).map _=_;rw[Xh hn ho,this];rfl) hp)
noncomputable def Pp (fs:List (Str×V))(x:Str)(v:V):List (Str×V):=match fs with
 |[]=>[(x,v)]
 |(y,u)::r=>if x=y then (y,v)::r else (y,u)::Pp r x v
theorem Hh {α:Type}(x y:Str)(v:α)(r:List (Str×α)):List.lookup y ((x,v)::r)=if y=x then some v else r.lookup y:=by k_with"o"=>
 rw[aF];by_cases h:y=x
 ·rw[if_pos h,h];simp
 ·rw[if_neg h,beq_eq_false_iff_ne.mpr h]
theorem iB (fs:List (Str×V))(x:Str)(v:V)(y:Str):(Pp fs x v).lookup y=if y=x then some v else fs.lookup y:=by k_with"o"=>
 induction fs with
 |nil=>rw[Pp,Hh]
 |cons p r ih=>
  obtain⟨z,u⟩:=p;rw[Pp];split
  ·rename_i e;subst e;rw[Hh,Hh];by_cases h:y=x<;>simp[h]
  ·rename_i e;rw[Hh,Hh,ih];by_cases h:y=z
   ·subst h;rw[if_pos rfl,if_pos rfl,if_neg λq=>e q.symm]
   ·rw[if_neg h,if_neg h]
theorem A5.has {l':Led}{x y:O}(k:A5 l a x y l'):AP l a x:=by k_with"o"=>
 induction k with
 |here=>exact .here .refl
 |there _ ih=>exact .there ih
theorem eZ {v:V}(h:fs.lookup x=none):(Pp fs x v).length=fs.length+1:=by k_with"o"=>
 induction fs with
 |nil=>rfl
 |cons p r ih=>
  obtain⟨z,u⟩:=p;rw[Hh] at h;rw[Pp];by_cases e:x=z
  ·rw[if_pos e] at h;cases h
  ·rw[if_neg e] at h;rw[if_neg e,An,An,ih h]
theorem iC (fs:List (Str×V))(x:Str)(v:V):fs.length<=(Pp fs x v).length:=by k_with"o"=>
 induction fs with
 |nil=>exact Ca _
 |cons p r ih=>
  obtain⟨z,u⟩:=p;rw[Pp];split
  ·exact Ah _
  ·rw[An,An];omega
theorem iA {dd:Addr}{l':Led}{Q:Rg->Led->Prop}(TO:T.Ok U w)(R:Co U w T c s r l)(h1:AP l a (.inst C dd))(h2:A5 l dd (.ns fs) (.ns (Pp fs x d)) l')
  (hc:cE T.K C) (hf:findIn T.K (.ref C) x=some none) (BJ:(Pp fs x d).length<=1000) (rv:RV s.heap d v) (S0:Step own0 (c.own l) h0 s.heap) (q:Q r l'):wpAny (model U w) c.A (setAttr (.ref a) x v) (λ_=>Wv U w T c own0 h0 Q) E s:=by k_with"o"=>
 have AQ:AP l dd (.ns fs):=h2.has;obtain⟨m,od,hn,ho,MG,I⟩:=fT R h1 AQ;obtain⟨cd,H9,CM⟩:=any_some hc.dict;refine set_plain (R.E8 TO) I hc.sa (osa_open (s:={s with toks:=s.toks+1}) (r:=none) ((R.tok _).E8 TO) I hc.plain (by unfold takerIn;rw[hf];rfl) λb=>?_);refine wpAny_bind (wpAny_pure (wpAny_bind (wpAny_bind (wpAny_loadPart I.at_ (wpAny_bind (Looks.here (s:={s with toks:=s.toks+1}) (looks_clsIn (R.E8 TO) H9) ?_))))));rw[CM];refine wpAny_pure (a:=some dd) (wpAny_bind (wpAny_pure (wpAny_bind ?_)));refine mD (s:={s with toks:=s.toks+1}) hn λh' I5 S' FG=>?_;obtain⟨m2,II,⟨o2,MY,QR,e2,c2,XZ,z2⟩,YU⟩:=R.led _ h2.mem;rw[ho] at e2;injection e2 with e2;subst e2;obtain⟨o',q1,q2,q3,q4⟩:=FG _ ho;obtain⟨A9,JG,w1,w2,w3⟩:=q4 _ _ XZ;have hz:A9.size<=(Pp fs x d).length:=by
  have:=MG x;cases hl:fs.lookup x with
  |none=>rw[eZ hl];omega
  |some u=>rw[hl] at this;obtain⟨v',h1,_⟩:=this;have:=w3 (by rw[h1];simp);exact Aa this (Aa z2 (iC ..))
 obtain⟨R',St⟩:=R.put (h':=h') (tk:=s.toks+1+1) h2 S' λev=>by
  refine⟨_,I5,⟨o',A9,JG,q1,q2.trans c2,w1,hz⟩,λy=>?_⟩;rw[iB];by_cases hy:y=x
  ·rw[if_pos hy];exact⟨v,if_pos hy,rv.AD ev⟩
  ·rw[if_neg hy]
   try dsimp only
   rw[if_neg hy];have:=MG y
   revert this
   split
   ·exact id
   ·rintro⟨u,e1,e2⟩;exact⟨u,e1,e2.AD ev⟩
 refine wpAny_bind (wpAny_lookBehind q1 (by rw[w1];exact pastItsLine_dict (by rw[sizeLine_eq];omega)) ?_);exact wpAny_pure (⟨r,l',R',S0.trans St,q⟩:Wv U w T c own0 h0 Q _)
theorem cC {Q:Fl->Rg->Led->Prop}{o:Expr}{attr:Str}{p:Pos}(TO:T.Ok U w)(hs:swapsWith e (some (.Attribute o attr p)) pos.line c.env=pure false)
  (h:We U w T c e r l (λd l1=>We U w T c o r l1 (λt l2=>∃(a C dd:Addr) (fs:List (Str×V)) (l3:Led),t=.ref a/\AP l2 a (.inst C dd)/\A5 l2 dd (.ns fs) (.ns (Pp fs attr d)) l3/\cE T.K C/\findIn T.K (.ref C) attr=some none/\(Pp fs attr d).length<=1000/\Q .next r l3) X) X) :
  BY U w T c (.Assign [.Attribute o attr p] e pos) r l Q X:=by k_with"o"=>exact(λs R=>
 plainObj_wpAny_Assign_Attribute (wpAny_mono (h s R) (λv s1 ⟨d,l1,rv,R1,S1,h1⟩=>wpAny_mono (h1 _ R1) (λov s2 ⟨t,l2,rt,R2,S2,a,C,dd,fs,l3,ht,k1,k2,hc,hf,hz,q⟩=>by subst ht;cases rt;exact wpAny_mono (iA (Q:=λr3 l4=>r3=r/\l4=l3) TO R2 k1 k2 hc hf hz (rv.AD (R1.AD S2)) (S1.trans S2) ⟨rfl,rfl⟩) (λ_ s3 ⟨r3,l4,R3,S3,e1,e2⟩=>⟨.next,r3,l4,rfl,R3,S3,by rw[e1,e2];exact q⟩) λ_ _ e=>e) λ_ _ e=>e.shift S1 λ_ q=>q) λ_ _ e=>e) hs)
def nN (U:Program)(w:World)(T:Ez)(c:Ctx)(o i d:V)(r:Rg)(l:Led)(Q:Led->Prop):Prop:=
 ∀s ov iv v (E:Value->Shared->Prop),Co U w T c s r l->RV s.heap o ov->RV s.heap i iv->RV s.heap d v->wpAny (model U w) c.A (setItem ov iv v) (λ_=>Wv U w T c (c.own l) s.heap (λr' l'=>r'=r/\Q l')) E s
theorem cB {Q:Fl->Rg->Led->Prop}{o i:Expr}{p:Pos}(hs:swapsWith e (some (.Subscript o i p)) pos.line c.env=pure false)
  (h:We U w T c e r l (λd l1=>We U w T c o r l1 (λov l2=>We U w T c i r l2 (λiv l3=>nN U w T c ov iv d r l3 (λl4=>Q .next r l4)) X) X) X) :
  BY U w T c (.Assign [.Subscript o i p] e pos) r l Q X:=by k_with"o"=>exact(λs R=>
 wpAny_Assign_Subscript (wpAny_mono (h s R) (λv s1 ⟨d,l1,rv,R1,S1,h1⟩=>wpAny_mono (h1 _ R1) (λov s2 ⟨t,l2,rt,R2,S2,h2⟩=>wpAny_mono (h2 _ R2) (λiv s3 ⟨t3,l3,YT,R3,S3,h3⟩=>
  wpAny_mono (h3 s3 ov iv v _ R3 (rt.AD (R2.AD S3)) YT ((rv.AD (R1.AD S2)).AD (R2.AD S3))) (λ_ s4 ⟨r4,l4,R4,S4,e1,q⟩=>⟨.next,r4,l4,rfl,R4,((S1.trans S2).trans S3).trans S4,by rw[e1];exact q⟩) λ_ _ e=>e) λ_ _ e=>e.shift (S1.trans S2) λ_ q=>q) λ_ _ e=>e.shift S1 λ_ q=>q) λ_ _ e=>e) hs)
section
variable {K:Frag}{D x:Addr}{ox:Obj}{od:Option Obj}{name:Str}
structure yP (K:Frag)(C D:Addr):Prop where
 mro:∃cd,clsIn K C=some cd/\cd.mro=[.ref C,.ref D,.type "Exception",.type "BaseException",.type "object"]/\cd.hasDict=true
 sa:findIn K (.ref C) "__setattr__"=some (some (.builtin "object.__setattr__"))
theorem zO {tk:Tok}{R:Result->Shared->Prop}(X:K.In s.heap)(I:InstAt s.heap x ox C od)(XC:yP K C D)(hf:findIn K (.ref C) name=some none)
  (h:wpAny (model U w) A.in1 (Builtin.ObjectAttr.storeInOwnDict (.ref x) (.ref C) (.str name tk) name v false)
   (λfin s'=>match fin with | .done f=>R (.ok f) s' | .again c'=>c'.quiet=true/\codeAny (model U w) A c' R s') (λe s'=>R (.error e) s') s) :
  codeAny (model U w) A (.call (.builtin "object.__setattr__") ⟨[.ref x,.str name tk,v],[]⟩) R s:=by k_with"o"=>
 have SF:=PySem.F.store_object;have SE:=PySem.F.store_Exception;obtain⟨cd,hc,hm,hd⟩:=XC.mro;have sub:Looks (model U w) s.heap (isInstance (.ref x) (.type "object")) true:=I.type.andThen (looks_mroIn X (by unfold mroIn;rw[hc,Option.bind_some,hm];rfl));refine codeAny_call_builtin SF.slot.plain SF.entry (@check_slot (model U w) _ _ s "object.__setattr__" "object" "__setattr__" (.ref x) [.str name tk,v] [] _ SF.kind SF.split sub (SF.args (.ref x) (.str name tk) v) ?_);have TS:Looks (model U w) s.heap (mroOf (.ref C)) cd.mro:=(looks_clsIn X hc).andThen .now;rw[osa_eq,refuse_eq];refine wpAny_bind (wpAny_bind (I.type.here (wpAny_bind (TS.here ?_))));rw[hm,refuseLoop_ref,refuseLoop_ref,SE.passes];refine wpAny_pure (wpAny_bind (I.type.here (wpAny_bind ((looks_findIn X hf).here (wpAny_bind (wpAny_pure ?_))))));exact h
def oN (h:Heap)(a:Addr)(m:Str->Option Value)(n:Nat):Prop:=h.Ns a m/\∃o es ep,h.get? a=some o/\o.cls=.type "dict"/\o.data=.dict es ep/\es.size<=n
theorem iU {Q:Unit->Shared->Prop}(hn:oN s.heap a m n)(hz:n<=1000)
  (h:∀h',oN h' a (λy=>if y=name then some v else m y) (n+1)->Bs a s.heap h'->Q () {s with heap:=h',toks:=s.toks+1}):wpAny M A (nsSet a name v >>= λ_=>lookBehind a (some (.str name 0))) Q E s:=by k_with"o"=>
 obtain⟨hn,o,es,ep,e1,e2,e3,e4⟩:=hn;refine wpAny_bind (mD hn λh' I5 S' FG=>?_);obtain⟨o',q1,q2,q3,q4⟩:=FG _ e1;obtain⟨A9,JG,w1,w2,w3⟩:=q4 _ _ e3;exact wpAny_lookBehind q1 (by rw[w1];exact pastItsLine_dict (by rw[sizeLine_eq];omega)) (h h' ⟨I5,o',A9,JG,q1,q2.trans e2,w1,by omega⟩ S')
theorem Aae {dx:Addr}{Q:Unit->Shared->Prop}(X:K.In s.heap)(hx:s.heap.get? x=some ox)(FG:ox.cls=.ref C)(HX:notCls ox=true)(JA:ox.dict=some dx)(XC:yP K C D)(hf:findIn K (.ref C) name=some none)
  (hn:oN s.heap dx m n) (hz:n<=1000) (h:∀h' tk,oN h' dx (λy=>if y=name then some v else m y) (n+1)->Bs dx s.heap h'->Q () {s with heap:=h',toks:=tk}) :
  wpAny (model U w) A (setAttr (.ref x) name v) Q E s:=by k_with"o"=>
 obtain⟨od,es,ep,e1,e2,e3,e4⟩:=hn.2;have I:InstAt s.heap x ox C (some od):=⟨hx,FG,HX,by rw[JA];exact e1⟩;obtain⟨cd,H9,hm,CM⟩:=XC.mro;refine set_plain X I XC.sa (zO (s:={s with toks:=s.toks+1}) X I XC hf ?_);refine wpAny_bind (wpAny_pure (wpAny_bind (wpAny_bind (wpAny_loadPart I.at_ ?_))));rw[FG,JA];refine wpAny_bind (Looks.here (s:={s with toks:=s.toks+1}) (looks_clsIn X H9) ?_);rw[CM];refine wpAny_pure (a:=some dx) (wpAny_bind (wpAny_pure ?_));show wpAny _ _ (nsSet dx name v >>= λ_=>lookBehind dx (some (.str name 0)) >>= λ_=>_) _ _ _;rw[<-bind_assoc];refine wpAny_bind (iU (s:={s with toks:=s.toks+1}) hn hz λh' I5 S'=>?_);exact wpAny_pure (h h' _ I5 S')
theorem Aaf {Q:Unit->Shared->Prop}{vs:Array Value}{sl:Array (Option Value)}(X:K.In s.heap)(hx:s.heap.get? x=some {cls:=.ref C,data:=.fields vs,slots:=sl})(XC:yP K C D)(hf:findIn K (.ref C) name=some none)
  (h:∀h' tk d,s.heap.objs.size<=d->oN h' d (λy=>if y=name then some v else none) 1->h'.get? x=some {cls:=.ref C,dict:=some d,data:=.fields vs,slots:=sl}->(∀b o,b≠x->s.heap.get? b=some o->h'.get? b=some o)->s.heap.objs.size<=h'.objs.size->Q () {s with heap:=h',toks:=tk}) :
  wpAny (model U w) A (setAttr (.ref x) name v) Q E s:=by k_with"o"=>
 have I:InstAt s.heap x {cls:=.ref C,data:=.fields vs,slots:=sl} C none:=⟨hx,rfl,rfl,trivial⟩;obtain⟨cd,H9,hm,CM⟩:=XC.mro;refine set_plain X I XC.sa (zO (s:={s with toks:=s.toks+1}) X I XC hf ?_);refine wpAny_bind (wpAny_pure (wpAny_bind (wpAny_bind (wpAny_loadPart hx ?_))));refine wpAny_bind (Looks.here (s:={s with toks:=s.toks+1}) (looks_clsIn X H9) ?_);rw[CM];show wpAny _ _ (if _ then _ else _) _ _ _;rw[if_neg (by simp[typeHasDict])];have IE:x≠s.heap.objs.size:=By (Am hx);have hx₁:(s.heap.push {cls:=.type "dict",data:=.dict #[]}).get? x=some {cls:=.ref C,data:=.fields vs,slots:=sl}:=Ad _ hx;refine wpAny_bind (wpAny_alloc ?_);refine wpAny_bind (wpAny_update' hx₁ ?_);refine wpAny_pure (wpAny_bind (wpAny_pure ?_));generalize hH:((s.heap.push {cls:=.type "dict",data:=.dict #[]}).update x λo=>{o with dict:=some s.heap.objs.size})=H;have ao:H.get? x=some {cls:=.ref C,dict:=some s.heap.objs.size,data:=.fields vs,slots:=sl}:=by rw[<-hH];exact Bv _ hx₁ rfl
 have W7:H.get? s.heap.objs.size=some {cls:=.type "dict",data:=.dict #[]}:=by rw[<-hH,Fj _ _ _ _ IE.symm];exact As _ rfl
 have hold:∀b o,b≠x->s.heap.get? b=some o->H.get? b=some o:=λb o hb e=>by rw[<-hH,Fj _ _ _ _ hb];exact Ad _ e
 have BJ:s.heap.objs.size<=H.objs.size:=by rw[<-hH,Du,Bc];exact Cb _
 have LC:oN H s.heap.objs.size (λ_=>none) 0:=⟨⟨_,#[],_,W7,rfl,λe he=>absurd he (by simp),λ_=>rfl⟩,_,_,_,W7,rfl,rfl,Ah _⟩;show wpAny _ _ (nsSet s.heap.objs.size name v >>= λ_=>lookBehind s.heap.objs.size (some (.str name 0)) >>= λ_=>_) _ _ _;rw[<-bind_assoc];refine wpAny_bind (iU (s:={s with heap:=H,toks:=s.toks+1}) LC (by decide) λh' I5 S'=>?_);refine wpAny_pure (h h' _ s.heap.objs.size (Ah _) I5 ((S'.2 _ IE).trans ao) (λb o hb e=>(S'.2 b λq=>?_).trans (hold b o hb e)) (by rw[S'.1];exact BJ));rw[q] at e;exact absurd (Am e) (Dv _)
end
theorem Cg.mono {Q':V->Led->Prop}{X':Int->Prop}(h:Cg U w T lev f as l Q X)(hq:∀d l,Q d l->Q' d l)(hx:∀i,X i->X' i):Cg U w T lev f as l Q' X':=by k_with"o"=>exact(λA outer s vals h1 h2 h3 h4 h5 h6=>codeAny_mono (h A outer s vals h1 h2 h3 h4 h5 h6) λres s' p=>by
  cases res with
  |ok fl=>
   cases fl with
   |ret v=>obtain⟨d,l',a,b,e,q⟩:=p;exact⟨d,l',a,b,e,hq _ _ q⟩
   |next=>exact p
   |brk=>exact p
   |cont=>exact p
  |error x=>exact(show Exc U w T outer _ _ true X x s' from p).shift (.refl _ _) hx)
theorem yL {fp fr:Led}{xs:List Value}(h1:A.frames=some c.outer)(h2:A.handled=none)(h3:A.depth+lev<=400)(h4:A.units+10*lev<=4000)(pk:Jx l fp fr)
  (h:Cg U w T lev f ds fp (λd fp'=>Q d (fp'++fr)) X) (R:Co U w T c s r l) (rx:AG s.heap ds xs) :
  codeAny (model U w) A (.call f ⟨xs,[]⟩) (λres s'=>match res with
   |.ok (.ret v)=>Lw U w T c (c.own l) s.heap r Q v s' | .ok _=>False | .error e=>Exc U w T c.outer (c.own l) s.heap true X e s') s:=by k_with"o"=>
 have R1:=R.perm pk.perm;have L1:=R1.HS;have L2:Ya U w T c.outer s fp:=⟨L1.AH,L1.frames,λp hp=>L1.led p (Al _ hp),by have:=L1.nodup;rw[Ai] at this;exact(Cd.mp this).1,λp hp=>L1.apart p (Al _ hp)⟩;refine codeAny_mono (h A c.outer s xs h1 h2 h3 h4 L2 rx) λres s' p=>?_;have A2:∀a,a∈fp.map (·.1)->a∈c.own l:=λa ha=>(Ll pk.perm).mpr (by
  unfold Ctx.own;rw[Ai];exact .tail _ (Aq _ (Al _ ha)))
 cases res with
 |ok fl=>
  cases fl with
  |ret v=>obtain⟨d,l',rv,L',S',q⟩:=p;obtain⟨R',St⟩:=R1.back L' S';exact⟨d,_,rv,R',St.mono (λb hb=>(Ll pk.perm).mpr hb) λb hb=>.inl hb,q⟩
  |next=>exact p
  |brk=>exact p
  |cont=>exact p
 |error x=>have e:Exc U w T c.outer (fp.map (·.1)) s.heap true X x s':=p;exact⟨e.AH,e.frames,λb o q n=>e.kept b o q λm=>n (A2 b m),e.size,e.FI⟩
theorem yQ {fI:Addr}{fp fr:Led}(CO:c.Ok)(TO:T.Ok U w)(hl:c.lev=lev+1)(hm:makesIn T.K C=true)(hi:findIn T.K (.ref C) "__init__"=some (some (.ref fI)))(hf:typeIn T.K (.ref fI)=some (.type "function"))
  (pk:Jx l fp fr) (h:∀x dx,Cg U w T lev (.ref fI) (.ref x::ds) ((x,.inst C dx)::(dx,.ns [])::fp) (λd fp'=>d=.none/\Q (.ref x) (fp'++fr)) X):Wn U w T c (λxs=>call (.ref C) xs) ds r l Q X:=by k_with"o"=>exact(λs xs R rx=>by
 have hk:=R.E8 TO;obtain⟨hp,g,d,t,os⟩:=s;refine wpAny_call (make_core (makes_of hk hm) (looks_findIn hk hi) (λself=>bind_fn hk self hf) (.inl rfl) ?_);have R1:=R.alloc (o:=emptyDict) (x:=.ns []) ⟨_,Heap.Ns.new hp (.type "dict"),⟨_,_,_,As _ rfl,rfl,rfl,Ah _⟩,λx=>rfl⟩;have R2:=R1.alloc (o:=instObj C hp.objs.size) (x:=.inst C hp.objs.size) (As _ rfl);have BJ:(hp.push emptyDict).objs.size=hp.objs.size+1:=Bc ..;have S1:Step (c.own l) (c.own _) hp (hp.push emptyDict):=Step.alloc (x:=.ns []);have S2:Step (c.own _) (c.own _) (hp.push emptyDict) ((hp.push emptyDict).push (instObj C hp.objs.size)):=Step.alloc (l:=(hp.objs.size,.ns [])::l) (x:=.inst C hp.objs.size);dsimp only at R2 S2;rw[BJ] at R2 S2;refine codeAny_mono (yL (Q:=λd l'=>d=.none/\Q (.ref (hp.objs.size+1)) l') (X:=X) (r:=r) (l:=(hp.objs.size+1,.inst C hp.objs.size)::(hp.objs.size,.ns [])::l) (fp:=(hp.objs.size+1,.inst C hp.objs.size)::(hp.objs.size,.ns [])::fp) (fr:=fr) (lev:=lev) (c:=c) (A:=c.A.under (.builtin "type.__call__" ⟨.ref C::xs,[]⟩)) CO.frames CO.handled (by have:=CO.depth;show c.A.depth+1+lev<=400;omega) (by have:=CO.units;show c.A.units+1+10*lev<=4000;omega)
  (.cons .here (.cons .here pk)) (h _ _) R2 (.cons (.ref _) (rx.AD ((A0.push _ _).trans (A0.push _ _))))) λres s' p=>?_
 have PT:=S1.trans S2;cases res with
 |ok fl=>
  cases fl with
  |ret v=>obtain⟨d,l',rv,R',S',e,q⟩:=p;subst e;cases rv;exact⟨rfl,.ref (hp.objs.size+1),l',.ref _,R',PT.trans S',q⟩
  |next=>exact p
  |brk=>exact p
  |cont=>exact p
 |error x=>have e:Exc U w T c.outer _ _ true X x s':=p;exact(e.shift PT λ_ q=>q).weak)
theorem AG.one (x:AG h [d] vs):∃v,vs=[v]/\RV h d v:=by k_with"o"=>cases x with|cons a b=>cases b;exact⟨_,rfl,a⟩
theorem AG.two {e:V}(x:AG h [d,e] vs):∃v u,vs=[v,u]/\RV h d v/\RV h e u:=by k_with"o"=>cases x with|cons a b=>obtain⟨u,rfl,q⟩:=b.one;exact⟨_,_,rfl,a,q⟩
theorem AG.three {e f:V}(x:AG h [d,e,f] vs):∃v u x,vs=[v,u,x]/\RV h d v/\RV h e u/\RV h f x:=by k_with"o"=>cases x with|cons a b=>obtain⟨u,x,rfl,q,q'⟩:=b.two;exact⟨_,_,_,rfl,a,q,q'⟩
theorem Rel.JI (R:Co U w T c s r l)(o:Obj)(tk:Nat):Co U w T c {s with heap:=s.heap.push o,toks:=tk} r l/\Step (c.own l) (c.own l) s.heap (s.heap.push o):=by k_with"o"=>exact(⟨R.grow (λb o e=>Ad _ e) (by rw[Bc];exact Cb _),Step.grow (λb o e=>Ad _ e) (by rw[Bc];exact Cb _)⟩)
theorem Rel.new (R:Co U w T c s r l){x:O}{tk:Nat}(S0:Step own0 (c.own l) h0 s.heap)(hx:RO U w (s.heap.push o) s.heap.objs.size x)(hq:∀a,Q (.ref a) ((a,x)::l)) :
  Lw U w T c own0 h0 r Q (.ref s.heap.objs.size) {s with heap:=s.heap.push o,toks:=tk}:=by k_with"o"=>exact(⟨.ref s.heap.objs.size,(s.heap.objs.size,x)::l,.ref _,(R.alloc hx).tok tk,S0.trans Step.alloc,hq _⟩)
theorem Gi (BE:b.length<=1099511627776)(h:Q (.int b.length) l):Wn U w T c (λxs=>call (.builtin "len") xs) [.bytes b] r l Q X:=by k_with"o"=>exact(λs xs R rx=>by obtain⟨v,rfl,rv⟩:=rx.one;cases rv;exact len_bytes (by simpa using BE) (R.int _ _ _ (by simpa using h)))
theorem Hk (AE:AP l a (.list xs))(BE:(xs.length:Int)<2^63)(h:Q (.int xs.length) l):Wn U w T c (λxs=>call (.builtin "len") xs) [.ref a] r l Q X:=by k_with"o"=>exact(λs ys R rx=>by obtain⟨v,rfl,rv⟩:=rx.one;cases rv;obtain⟨vs,hl,AF⟩:=(AE.ro R).isList;have e:=AF.length;exact Calls.call_len_list hl (by rw[Az,<-e];exact BE) (R.int _ _ _ (by rw[Az,<-e];exact h)))
theorem Oj (BE:(xs.length:Int)<2^63)(h:Q (.int xs.length) l):Wn U w T c (λxs=>call (.builtin "len") xs) [.tup xs] r l Q X:=by k_with"o"=>exact(λs ys R rx=>by
 obtain⟨v,rfl,rv⟩:=rx.one;cases rv with
 |tup e AF=>rename_i a vs;have el:=AF.length;exact P.len_tuple (items:=vs.toArray) (n:=0) e (by rw[Az,<-el];omega) (R.int _ _ _ (by rw[Az,<-el];exact h)))
theorem Ez.Ok.BD (TO:T.Ok U w)(h:T.B.objs.size<=a):(a==sysModules)=false:=by k_with"o"=>exact(beq_false_of_ne (Tc (Cv TO.mods h)))
theorem Wr {es:List (Int×V)}(TO:T.Ok U w)(AE:AP l a (.AN es))(BE:(es.length:Int)<2^63)(h:Q (.int es.length) l):Wn U w T c (λxs=>call (.builtin "len") xs) [.ref a] r l Q X:=by k_with"o"=>exact(λs ys R rx=>by
 obtain⟨v,rfl,rv⟩:=rx.one;cases rv;obtain⟨y,hm,sy⟩:=AE.mem;obtain⟨kvs,hd,hk,_⟩:=AE.ro R;have e:kvs.length=es.length:=by rw[<-Ac (f:=(·.1)),hk,Ac]
 exact PySem.call_len_dict (TO.BD (R.apart _ (Em hm))) hd (by rw[e];exact BE) (R.int _ _ _ (by rw[e];exact h)))
theorem Cf {x y:List UInt8}(hz:x.length+y.length<=16777216)(h:Q (.bytes (x++y)) l):W2 U w T c (binaryOp .Add) (.bytes x) (.bytes y) r l Q X:=by k_with"o"=>exact(λs u v R rx ry=>by cases rx;cases ry;refine KBy.add_bytes (by simpa using hz) λt' k=>?_;rw[Vm];exact(R.tok k).val (.bytes _ _) h)
theorem gK {x:List UInt8}{n:Int}(hb:x≠[])(FP:-1048576<=n)(hn:n<=1048576)(hs:x.length<=16)(h:Q (.bytes (Ia n.toNat x).flatten) l):W2 U w T c (binaryOp .Mult) (.bytes x) (.int n) r l Q X:=by k_with"o"=>exact(λs u v R rx ry=>by cases rx;cases ry;exact PySem.W.bytes_mul_any hb FP hn hs λt' k=>(R.tok k).val (.bytes _ _) h)
theorem Sx {x y:List UInt8}(h:Q (.bool (x != y)) l):W2 U w T c (compareOp .NotEq) (.bytes x) (.bytes y) r l Q X:=by k_with"o"=>exact(λs u v R rx ry=>by cases rx;cases ry;exact ne_bytes (R.B9 _ h))
theorem Pg {b:Addr}{ys:List V}(ha:AP l a (.list xs))(hb:AP l b (.list ys))(hz:xs.length+ys.length<=sizeLine)(h:∀d,Q (.ref d) ((d,.list (xs++ys))::l)):W2 U w T c (binaryOp .Add) (.ref a) (.ref b) r l Q X:=by k_with"o"=>exact(λs u v R rx ry=>by cases rx;cases ry;obtain⟨vs,n,e,rv⟩:=ha.ro R;obtain⟨us,k,e2,ru⟩:=hb.ro R;refine P.add_list e e2 (R.new (x:=.list (xs++ys)) (.refl _ _) ⟨vs++us,0,?_,(rv.append ru).AD (A0.push _ _)⟩ h) (by rw[Az,Az,<-rv.length,<-ru.length];exact hz);rw[Vm];exact As _ rfl)
theorem kZ (AE:AP l a (.list xs)):Vh U w T c r l (.ref a) "append" (.builtin "list.append"):=by k_with"o"=>exact(λs x pl P E R rx hp=>by cases rx;obtain⟨vs,n,e,rv⟩:=AE.ro R;exact Calls.getMethod_list_append e rfl rfl hp)
theorem Xw {l':Led}(hp:A5 l a (.list xs) (.list (xs++[d])) l')(hz:xs.length<=sizeLine)(h:Q .none l'):Wn U w T c (λxs=>call (.builtin "list.append") xs) [.ref a,d] r l Q X:=by k_with"o"=>exact(λs ys R rx=>by obtain⟨v,u,rfl,rv,ru⟩:=rx.two;cases rv;obtain⟨vs,n,e,AF⟩:=R.led _ hp.mem;refine wpAny_list_append_plain ⟨n,e⟩ (λh' ⟨n',hl⟩ hs=>?_) (by rw[Az,<-AF.length];exact hz);obtain⟨R',S'⟩:=R.put (tk:=s.toks) hp hs λev=>⟨vs++[u],n',by rw[hl,List.push_toArray],(AF.AD ev).append (.cons (ru.AD ev) .nil)⟩;exact⟨.none,l',.none,R',S',h⟩)
theorem Lc {n:Int}(h:∀a,Q (.ref a) ((a,.AY 0 n 1)::l)):Wn U w T c (λxs=>call (.type "range") xs) [.int n] r l Q X:=by k_with"o"=>exact(λs ys R rx=>by obtain⟨v,rfl,rv⟩:=rx.one;cases rv;exact PySem.call_range_1 (R.new (x:=.AY 0 n 1) (.refl _ _) ⟨_,_,_,IsRange.new ..⟩ h))
theorem eJ {m n:Int}(h:∀a,Q (.ref a) ((a,.AY m n 1)::l)):Wn U w T c (λxs=>call (.type "range") xs) [.int m,.int n] r l Q X:=by k_with"o"=>exact(λs ys R rx=>by obtain⟨v,u,rfl,rv,ru⟩:=rx.two;cases rv;cases ru;exact PySem.call_range_2 (R.new (x:=.AY m n 1) (.refl _ _) ⟨_,_,_,IsRange.new ..⟩ h))
theorem eI {m n k:Int}(hk:k≠0)(hp:Builtin.divisionGoesByPylong (n-m) k=false)(h:∀a,Q (.ref a) ((a,.AY m n k)::l)):Wn U w T c (λxs=>call (.type "range") xs) [.int m,.int n,.int k] r l Q X:=by k_with"o"=>exact(λs ys R rx=>by obtain⟨v,u,x,rfl,rv,ru,r3⟩:=rx.three;cases rv;cases ru;cases r3;exact PySem.call_range_3 hk (R.new (x:=.AY m n k) (.refl _ _) ⟨_,_,_,IsRange.new ..⟩ h) (.inl hp))
noncomputable def El (a c:Int)(n:Nat):List V:=(Ex n).map λ(i:Nat)=>V.int (a+(i:Int)*c)
theorem Il (C:c.Ok){i j k:Int}(hs:Builtin.Range.small i j k=true)(hn:Builtin.Range.rangeSize i j k=n):WalkL U w T c a (.AY i j k) (El i k n):=by k_with"o"=>exact(λs ob Q E U0 BP ro h=>by
 obtain⟨t,u,v,e⟩:=ro;have AJ:=Am BP;refine wpAny_pyIter_range e hs ?_;have W:=Walks.range (prog:=U) (w:=w) (A:=c.A) C.handled s.heap.objs.size i k n;rw[show n=(El i k n).length from by simp[El]] at W;refine h _ [s.heap.objs.size] _ _ (G4.B6 (h0:=s.heap) (ext:=[(a,ob)]) W (λb hb=>.inl hb) (λp hp=>?_) (λi h st b hb=>?_) (Ae.mpr rfl) λi' v hi hv=>?_) ?_ (λb o e=>Ad _ e) (by rw[Bc];exact Cb _) λb hb=>Ef (Ae.mp hb).symm
 ·rw[Ae.mp hp];exact λq=>By AJ (Ae.mp q)
 ·rw[Ae.mp hb];exact⟨_,_,_,st,rfl,rfl,by decide⟩
 ·obtain⟨t,rfl⟩:=hv;have D4:i'<n:=by simpa[El] using hi
  exact⟨.int (i+(i':Int)*k),by simp[El,D4],.int _ _⟩
 ·refine⟨?_,λp hp=>by rw[Ae.mp hp];exact Ad _ BP⟩;have e1:(El i k n).length=n:=by simp[El]
  rw[e1,hn];show IsRangeIter _ _ (i+((0:Nat):Int)*k) ((n:Int)-((0:Nat):Int)) k;rw[show i+((0:Nat):Int)*k=i from by simp,show(n:Int)-((0:Nat):Int)=n from by simp];exact As _ rfl)
def VA (U:Program)(w:World)(T:Ez)(c:Ctx):List Expr->List V->Rg->Led->(Rg->Led->Prop)->(Int->Prop)->Prop
 |[],[],r,l,Q,X=>Q r l
 |e::es,d::ds,r,l,Q,X=>Wa U w T c e d r l (λr1 l1=>VA U w T c es ds r1 l1 Q X) X
 |_,_,_,_,_,_=>False
theorem wV {Q:Rg->Led->Prop}:∀{ds:List V} {vs:List Value} {r:Rg} {l:Led} {s:Shared} {own0:List Addr} {h0:Heap},VA U w T c es ds r l Q X->Co U w T c s r l->AG s.heap ds vs->Step own0 (c.own l) h0 s.heap->
  wpAny (model U w) c.A (assignInOrder (es.map λe=>assign e c.env) vs) (λ_=>Wv U w T c own0 h0 Q) (Exc U w T c.outer own0 h0 false X) s:=by k_with"o"=>
 induction es with
 |nil=>
  intro ds vs r l s own0 h0 h R rv S;cases ds with
  |nil=>cases rv with|nil=>exact assignInOrder_nil ⟨r,l,R,S,h⟩
  |cons _ _=>exact h.elim
 |cons e es ih=>
  intro ds vs r l s own0 h0 h R rv S;cases ds with
  |nil=>exact h.elim
  |cons d ds=>
   cases rv with
   |cons rv AF=>refine assignInOrder_cons (wpAny_mono (h s _ R rv) (λ_ s1 ⟨r1,l1,R1,S1,q⟩=>?_) λx s1 e=>e.shift S λ_ q=>q);exact ih q R1 (AF.AD (R.AD S1)) (S.trans S1)
theorem RV.EZ (x:RV h (.tup ds) v):∃a vs,v=.ref a/\IsTup h a vs.toArray/\AG h ds vs:=by k_with"o"=>cases x with|tup e AF=>exact⟨_,_,rfl,⟨_,e,rfl,0,rfl⟩,AF⟩
theorem bD (R:Co U w T c s r l)(k:Heap.ExtBut s.heap.objs.size s.heap h')(z:s.heap.objs.size<=h'.objs.size):Co U w T c {s with heap:=h'} r l/\Step (c.own l) (c.own l) s.heap h':=by k_with"o"=>exact(⟨R.grow (tk:=s.toks) (λb o e=>k b o (By (Am e)) e) z,Step.grow (λb o e=>k b o (By (Am e)) e) z⟩)
theorem Hw {Q:Rg->Led->Prop}(C:c.Ok)(he:assignEach es c.env=es.map λe=>(false,assign e c.env))(hl:es.length=ds.length)(h:VA U w T c es ds r l Q X) :
  Wa U w T c (.Tuple es k pos) (.tup ds) r l Q X:=by k_with"o"=>exact(λs v R rv=>by
 obtain⟨a,vs,rfl,ht,AF⟩:=rv.EZ;rw[PyProof.Rows.assign_Tuple,he];refine wpAny_bind (wpAny_standAt ?_);unfold unpack;rw[Ac,show es.length=vs.toArray.size from by rw[Az,<-AF.length,hl],show((es.map λe=>(false,assign e c.env)).findIdx? (·.1))=none from by rw[List.findIdx?_eq_none_iff];intro x hx;obtain⟨e,_,rfl⟩:=Af.mp hx;rfl];refine wpAny_bind (wpAny_holding (Ci (Ah _) (unpackItems_tuple C.handled ht λh' k z=>?_)));obtain⟨R1,S1⟩:=bD R k z;rw[Ay];exact wV h R1 (AF.AD (R.AD S1)) S1)
theorem uV {Q:Led->Prop}(C:c.QX)(hq:Q l)(xs:List Str):∀(ds:List V) (vs:List Value) (r r':Rg) (s:Shared),xs.length=ds.length->Oo c.names r (xs.zip ds) r'->Co U w T c s r l->AG s.heap ds vs->Step own0 (c.own l) h0 s.heap->
  wpAny (model U w) A (assignInOrder (xs.map λn=>bindName c.env n) vs) (λ_=>Wv U w T c own0 h0 (λr2 l2=>r2=r'/\Q l2)) E s:=by k_with"o"=>
 induction xs with
 |nil=>intro ds vs r r' s hl h R rv S;rw[Zb] at h;cases h;exact assignInOrder_nil ⟨r,l,R,S,rfl,hq⟩
 |cons x xs ih=>
  intro ds vs r r' s hl h R rv S;cases rv with
  |nil=>simp at hl
  |cons rv AF=>
   rw[Wx] at h;cases h with
   |cons u b=>rename_i q1;refine assignInOrder_cons (wpAny_bindName (wpAny_mono (Mc (U:=U) (w:=w) (T:=T) (Q:=λr2 l2=>r2=q1/\l2=l) (own:=c.own l) (h0:=s.heap) C u R rv (.refl _ _) ⟨rfl,rfl⟩) (λ_ s2 ⟨r3,l3,R2,S2,e1,e2⟩=>?_) λ_ _ q=>q));rw[e1,e2] at R2;rw[e2] at S2;exact ih _ _ _ _ _ (by simpa using hl) b R2 (AF.AD (R.AD S2)) (S.trans S2)
theorem AG.rev {l:List V}(y:AG h l vs):AG h l.reverse vs.reverse:=by k_with"o"=>exact(AG.ind (P:=λl vs=>AG h l.reverse vs.reverse) .nil (λx _ ih=>by rw[Zc,Zc];exact ih.append (.cons x .nil)) y)
theorem Xy {Q:Fl->Rg->Led->Prop}{tp:Pos}{value:Expr}(hs:swapsWithSole [.Tuple es k tp] value pos.line c.env=pure false)(hw:swappedStores [.Tuple es k tp] value c.env=pure none)
  (h:We U w T c value r l (λd l1=>Wa U w T c (.Tuple es k tp) d r l1 (λr2 l2=>Q .next r2 l2) X) X):BY U w T c (.Assign [.Tuple es k tp] value pos) r l Q X:=by k_with"o"=>exact(λs R=>
 Assign_Tuple (wpAny_mono (h s R) (λv s1 ⟨d,l1,rv,R1,S1,q⟩=>wpAny_mono (q _ _ R1 rv) (λ_ s2 ⟨r2,l2,R2,S2,q2⟩=>⟨.next,r2,l2,rfl,R2,S1.trans S2,q2⟩) λ_ _ e=>e.shift S1 λ_ q=>q) λ_ _ e=>e) hs hw)
theorem Sy {Q:Fl->Rg->Led->Prop}{tp:Pos}{value:Expr}{names:List Str}(C:c.Ok)(hs:swapsWithSole [.Tuple es k tp] value pos.line c.env=pure false)(hw:swappedStores [.Tuple es k tp] value c.env=pure (some names))
  (h:We U w T c value r l (λd l1=>∃(ds:List V) (r':Rg),d=.tup ds/\names.length=ds.length/\Oo c.names r (names.reverse.zip ds.reverse) r'/\Q .next r' l1) X):BY U w T c (.Assign [.Tuple es k tp] value pos) r l Q X:=by k_with"o"=>exact(λs R=>
 Assign_Tuple_swapped (wpAny_mono (h s R) (λv s1 ⟨d,l1,rv,R1,S1,ds,r',hd,hl,hb,hq⟩=>by subst hd;obtain⟨a,vs,rfl,ht,AF⟩:=rv.EZ;rw[show names.length=vs.toArray.size from by rw[Az,<-AF.length,hl]];refine Ci (Ah _) (unpackItems_tuple C.handled ht λh' k z=>?_);obtain⟨R2,S2⟩:=bD R1 k z;exact wpAny_mono (uV (Q:=λl2=>Q .next r' l2) C.ML hq _ _ _ _ _ _ (by simpa using hl) hb R2 (AF.AD (R1.AD S2)).rev (S1.trans S2)) (λ_ s3 ⟨r3,l3,R3,S3,e,q3⟩=>⟨.next,r3,l3,rfl,R3,S3,by rw[e];exact q3⟩) λ_ _ e=>e) λ_ _ e=>e) hs hw)
section
open PySem.SeqAt
mutual
def V.dat:V->PyData
 |.none=>.none
 |.bool b=>.bool b
 |.int i=>.int i
 |.str x=>.str x
 |.tup l=>.tuple (Mw l)
 |.bytes _=>.none
 |.ref _=>.none
def Mw:List V->List PyData
 |[]=>[]
 |x::xs=>x.dat::Mw xs
end
mutual
def V.pl:V->Bool
 |.bytes _=>false
 |.ref _=>false
 |.tup l=>Yk l
 |_=>true
def Yk:List V->Bool
 |[]=>true
 |x::xs=>x.pl&&Yk xs
end
theorem iI (r:RV h d v):d.pl=true->∃as,Reads h v d.dat as:=by k_with"o"=>
 refine RV.rec (motive_1:=λd v _=>d.pl=true->∃as,Reads h v d.dat as) (motive_2:=λl vs _=>Yk l=true->∃as,ReadsAll h vs (Mw l) as)
  (λ_=>⟨_,.none⟩) (λb _=>⟨_,.bool b⟩) (λi t _=>⟨_,.int i t⟩) (λx t _=>⟨_,.str x t⟩) (λb t h=>by cases h) ?_ (λa h=>by cases h) (λ_=>⟨_,.nil⟩) ?_ r
 ·intro l a vs hg _ ih p;obtain⟨as,q⟩:=ih p;exact⟨as,.tuple hg rfl rfl q⟩
 ·intro d v l vs _ _ i1 i2 p;obtain⟨p1,p2⟩:=Bp.mp p;obtain⟨as,q⟩:=i1 p1;obtain⟨bs,q2⟩:=i2 p2;exact⟨as++bs,.cons q q2⟩
theorem iJ {l:List V}(r:AG h l vs):Yk l=true->∃as,ReadsAll h vs (Mw l) as:=by k_with"o"=>exact(AG.ind (P:=λl vs=>Yk l=true->∃as,ReadsAll h vs (Mw l) as) (λ_=>⟨_,.nil⟩) (λa _ ih p=>by obtain⟨p1,p2⟩:=Bp.mp p;obtain⟨as,q⟩:=iI a p1;obtain⟨bs,q2⟩:=ih p2;exact⟨as++bs,.cons q q2⟩) r)
inductive Dt (l:Led):V->PyData->Prop
 |val {d:V}:d.pl=true->Dt l d d.dat
 |list {a:Addr} {xs:List V}:AP l a (.list xs)->Yk xs=true->Dt l (.ref a) (.list (Mw xs))
theorem Dt.reads {p:PyData}(x:Dt l d p)(R:Co U w T c s r l)(rv:RV s.heap d v):∃as,Reads s.heap v p as:=by k_with"o"=>
 cases x with
 |val h=>exact iI rv h
 |list h hp=>cases rv;obtain⟨vs,n,e,AF⟩:=h.ro R;obtain⟨as,q⟩:=iJ AF hp;exact⟨_,.list e rfl rfl q⟩
theorem Ctx.Ok.room (C:c.Ok):c.A.units+64<cLine:=by k_with"o"=>
 have:=C.units;have:cLine=7999\/4100<=cLine:=by first|exact .inl rfl|exact .inr (by decide)
 rcases this with h|h<;>omega
theorem eO {x y:V}{p q:PyData}(C:c.Ok)(hx:Dt l x p)(hy:Dt l y q)(sp:shaped p=true)(sq:shaped q=true)(h:Q (.bool (PyData.eqv p q)) l):W2 U w T c (compareOp .Eq) x y r l Q X:=by k_with"o"=>exact(λs u v R ru rv=>by obtain⟨as,ra⟩:=hx.reads R ru;obtain⟨bs,rb⟩:=hy.reads R rv;exact compareEq_shaped ra rb sp sq C.room (R.B9 _ h))
theorem Xx {x y:V}{p q:PyData}(C:c.Ok)(hx:Dt l x p)(hy:Dt l y q)(sp:shaped p=true)(sq:shaped q=true)(h:Q (.bool (!PyData.eqv p q)) l):W2 U w T c (compareOp .NotEq) x y r l Q X:=by k_with"o"=>exact(λs u v R ru rv=>by obtain⟨as,ra⟩:=hx.reads R ru;obtain⟨bs,rb⟩:=hy.reads R rv;exact compareNe_shaped ra rb sp sq C.room (R.B9 _ h))
theorem oF {x:V}{b:Bool}(hb:∀h v,RV h x v->(v==Value.none)=b)(h:Q (.bool b) l):W2 U w T c (compareOp .Is) x .none r l Q X:=by k_with"o"=>exact(λs u v R ru rv=>by cases rv;exact is_none (by rw[hb _ _ ru];exact R.B9 _ h))
theorem mR {i:Int}:∀h v,RV h (.int i) v->(v==Value.none)=false:=by k_with"o"=>exact(λh v x=>by cases x;rfl)
noncomputable def intsOf (ks:List Int):List V:=ks.map V.int
theorem Sb:∀{ks:List Int} {vs:List Value},AG h (intsOf ks) vs->IntsAre vs ks
 |[],_,x=>by cases x;exact IntsAre.nil
 |k::ks,_,x=>by k_with"o"=>cases x with|cons a b=>cases a;exact IntsAre.cons _ _ (Sb b)
noncomputable def uG (k:Int):Value->Bool
 |.int i _=>i==k
 |_=>false
theorem jB (hi:IntsAre vs ks){y:Value}(h:y∈vs):∃i t,y=.int i t:=by k_with"o"=>
 induction hi with
 |nil=>cases h
 |cons n t _ ih=>
  rcases Ag.mp h with e|e
  ·exact⟨n,t,e⟩
  ·exact ih e
theorem jC (hi:IntsAre vs ks)(k:Int):vs.any (uG k)=ks.any (·==k):=by k_with"o"=>
 induction hi with
 |nil=>rfl
 |cons n t _ ih=>rw[gV,gV,ih];rfl
theorem cA {k:Int}(h:Q (.bool (ks.any (·==k))) l):W2 U w T c (compareOp .In) (.int k) (.tup (intsOf ks)) r l Q X:=by k_with"o"=>exact(λs u v R ru rv=>by
 cases ru;obtain⟨a,vs,rfl,ht,AF⟩:=rv.EZ;have hi:=Sb AF;refine in_tupleAt (uG k) ht (λy hy=>?_) (R.B9 _ ?_)
 ·obtain⟨i,t,rfl⟩:=jB hi (by simpa using hy);exact EqAt.int_int i t k _
 ·rw[List.any_toArray,jC hi];exact h)
theorem dB {k:Int}(h:Q (.bool (!ks.any (·==k))) l):W2 U w T c (compareOp .NotIn) (.int k) (.tup (intsOf ks)) r l Q X:=by k_with"o"=>exact(λs u v R ru rv=>by
 cases ru;obtain⟨a,vs,rfl,ht,AF⟩:=rv.EZ;have hi:=Sb AF;refine notIn_tupleAt (uG k) ht (λy hy=>?_) (R.B9 _ ?_)
 ·obtain⟨i,t,rfl⟩:=jB hi (by simpa using hy);exact EqAt.int_int i t k _
 ·rw[List.any_toArray,jC hi];exact h)
theorem Abm {i:Int}(h:Q (.int (if i<0 then -i else i)) l):Wn U w T c (λxs=>call (.builtin "abs") xs) [.int i] r l Q X:=by k_with"o"=>exact(λs xs R rx=>by obtain⟨v,rfl,rv⟩:=rx.one;cases rv;exact call_abs_int λu tk=>R.int _ _ _ h)
theorem Abl {i:Int}(h:Q (.int i) l):Wn U w T c (λxs=>call (.type "int") xs) [.int i] r l Q X:=by k_with"o"=>exact(λs xs R rx=>by obtain⟨v,rfl,rv⟩:=rx.one;cases rv;exact call_int_int (R.val (.int _ _) h))
theorem kI {b:Bool}(h:Q (.int (if b then 1 else 0)) l):Wn U w T c (λxs=>call (.type "int") xs) [.bool b] r l Q X:=by k_with"o"=>exact(λs xs R rx=>by obtain⟨v,rfl,rv⟩:=rx.one;cases rv;exact call_int_bool (R.int _ _ _ h))
theorem sU {Q:Bool->Led->Prop}(BE:(xs.length:Int)<2^63)(h:Q (!xs.isEmpty) l):qJ U w T c r (.tup xs) l Q:=by k_with"o"=>exact(λs x R rx=>by
 obtain⟨a,vs,rfl,ht,AF⟩:=rx.EZ;have e:=AF.length;refine PyProof.Rows.truthy_tuple ht (by rw[Az,<-e];exact BE) ⟨l,R.tok _,.refl _ _,?_⟩;have:vs.toArray.isEmpty=xs.isEmpty:=by cases xs<;>cases vs<;>first|rfl|simp at e
 rw[this];exact h)
def bS (U:Program)(w:World)(T:Ez)(c:Ctx)(e:Option Expr)(r:Rg)(l:Led)(Q:Option Int->Led->Prop)(X:Int->Prop):Prop:=
 match e with
 |none=>Q none l
 |some e=>We U w T c e r l (λd l1=>∃i,d=.int i/\Q (some i) l1) X
theorem iN {e:Option Expr}{Q:Option Int->Led->Prop}(h:bS U w T c e r l Q X)(R:Co U w T c s r l) :
  wpAny (model U w) c.A (evalPart e c.env) (λv s1=>∃p l1,IsPart v p/\Co U w T c s1 r l1/\Step (c.own l) (c.own l1) s.heap s1.heap/\Q p l1) (Exc U w T c.outer (c.own l) s.heap false X) s:=by k_with"o"=>
 cases e with
 |none=>exact wpAny_pure ⟨none,l,.none,R,.refl _ _,h⟩
 |some e=>exact wpAny_mono (h s R) (λv s1 ⟨d,l1,rv,R1,S1,i,hd,q⟩=>by subst hd;cases rv;exact⟨_,l1,.int _ _,R1,S1,q⟩) λ_ _ e=>e
noncomputable def Kc {α:Type}(b:List α)(lo hi:Option Int):List α:=(b.drop (lo.elim 0 (clipAt b.length))).take (hi.elim b.length (clipAt b.length)-lo.elim 0 (clipAt b.length))
theorem RV.bytesAt (x:RV h (.bytes b) v):∃t,v=.bytes b.toArray t:=by k_with"o"=>cases x;exact⟨_,rfl⟩
theorem RV.AS (x:RV h (.ref a) v):v=.ref a:=by k_with"o"=>cases x;rfl
theorem Zg {lv uv:Value}{lo hi:Option Int}{value sl:Expr}(R:Co U w T c s r l)(rv:RV s.heap (.bytes b) v)(pl:IsPart lv lo)(pu:IsPart uv hi)(S:Step own0 (c.own l) h0 s.heap)(hz:b.length<=sizeLine)
  (hs:∀o i,subscripted sl false o i=operate [i,o] (getItem o i)) (hq:Q (.bytes (Kc b lo hi)) l) :
  Wt U w T c (subscriptTail value sl v (.ref s.heap.objs.size)) r Q X own0 h0 {s with heap:=s.heap.push {cls:=.type "slice",data:=.fields #[lv,uv,.none]}}:=by k_with"o"=>
 obtain⟨t,rfl⟩:=rv.bytesAt;obtain⟨R4,S4⟩:=R.JI {cls:=.type "slice",data:=.fields #[lv,uv,.none]} s.toks;refine tail_any (T := "bytes") (typeIs_bytes _ _ _) FB.slot_bytes_getitem.lookup (getItem_meets (typeIs_bytes _ _ _) (by decide) FB.slot_bytes_getitem FB.entry_bytes_getitem (FB.args_bytes_getitem_2 _ _) (KBc.meets_slice2 b.toArray t _ pl pu)
  ⟨Heap.IsSliceOf.new _ _ _ _,Aa (KBc.size_picked_le b.toArray lo hi) (by simpa using hz),λt' k=>?_⟩) (hs _ _)
 rw[KBc.picked_eq,Az];exact⟨.bytes _,l,.bytes _ _,R4.tok k,S.trans S4,hq⟩
theorem aQ {lv uv:Value}{lo hi:Option Int}{value sl:Expr}(R:Co U w T c s r l)(rv:RV s.heap (.ref a) v)(pl:IsPart lv lo)(pu:IsPart uv hi)(S:Step own0 (c.own l) h0 s.heap)(AE:AP l a (.list xs))(hz:xs.length<=sizeLine)
  (hs:∀o i,subscripted sl false o i=operate [i,o] (getItem o i)) (hq:∀a',Q (.ref a') ((a',.list (Kc xs lo hi))::l)) :
  Wt U w T c (subscriptTail value sl v (.ref s.heap.objs.size)) r Q X own0 h0 {s with heap:=s.heap.push {cls:=.type "slice",data:=.fields #[lv,uv,.none]}}:=by k_with"o"=>
 obtain rfl:=rv.AS;obtain⟨R4,S4⟩:=R.JI {cls:=.type "slice",data:=.fields #[lv,uv,.none]} s.toks;obtain⟨vs,n,e,AF⟩:=AE.ro R4;have hl:({s with heap:=s.heap.push {cls:=.type "slice",data:=.fields #[lv,uv,.none]}}:Shared).heap.IsList a vs.toArray:=⟨_,e,rfl,n,rfl⟩;refine tail_any hl.typeIs list_getitem_lookup (wpAny_getItem_list_slice hl (Heap.IsSliceOf.new ..) pl pu .none (by simp) ?_ (by rw[Az,<-AF.length];exact hz)) (hs _ _);refine R4.new (S.trans S4) (x:=.list (Kc xs lo hi)) ⟨Kc vs lo hi,0,?_,?_⟩ hq
 ·rw[slicePick_plain];simp only[Az];exact As _ rfl
 ·unfold Kc;rw[AF.length];exact((AF.AD (A0.push _ _)).drop _).take _
theorem sG {value:Expr}{lower upper:Option Expr}{p:Pos}(hs:∀o i,subscripted (.Slice lower upper none p) false o i=operate [i,o] (getItem o i))
  (h:We U w T c value r l (λd l1=>bS U w T c lower r l1 (λlo l2=>bS U w T c upper r l2 (λhi l3=>
   (∃b,d=.bytes b/\b.length<=sizeLine/\Q (.bytes (Kc b lo hi)) l3)\/∃a xs,d=.ref a/\AP l3 a (.list xs)/\xs.length<=sizeLine/\∀a',Q (.ref a') ((a',.list (Kc xs lo hi))::l3)) X) X) X) :
  We U w T c (.Subscript value (.Slice lower upper none p) pos) r l Q X:=by k_with"o"=>exact(λs R=>
 Subscript_ (wpAny_mono (h s R) (λo s1 ⟨d,l1,rv,R1,S1,h1⟩=>wpAny_Slice (wpAny_mono (iN h1 R1) (λlv s2 ⟨lo,l2,pl,R2,S2,h2⟩=>wpAny_mono (iN h2 R2) (λuv s3 ⟨hi,l3,pu,R3,S3,h3⟩=>by
  refine wpAny_of_eq (evalPart_none c.env) ?_;have F':=(rv.AD (R1.AD S2)).AD (R2.AD S3);rcases h3 with⟨b,hd,hz,hq⟩|⟨a,xs,hd,AE,hz,hq⟩
  ·subst hd;exact Zg R3 F' pl pu ((S1.trans S2).trans S3) hz hs hq
  ·subst hd;exact aQ R3 F' pl pu ((S1.trans S2).trans S3) AE hz hs hq) λ_ _ e=>e.shift (S1.trans S2) λ_ q=>q) λ_ _ e=>e.shift S1 λ_ q=>q)) λ_ _ e=>e))
end
section
variable {K α β:Type}[DecidableEq K]
noncomputable def Fy:List (K×α)->K->α->List (K×α)
 |[],k,v=>[(k,v)]
 |(a,u)::r,k,v=>if a=k then (a,v)::r else (a,u)::Fy r k v
noncomputable def Ey:List (K×α)->K->Option α
 |[],_=>none
 |(a,u)::r,k=>if a=k then some u else Ey r k
theorem Oe (a:K)(u:α)(r:List (K×α))(k:K)(v:α):Fy ((a,u)::r) k v=if a=k then (a,v)::r else (a,u)::Fy r k v:=by k_with"o"=>exact(rfl)
theorem Sq (a:K)(u:α)(r:List (K×α))(k:K):Ey ((a,u)::r) k=if a=k then some u else Ey r k:=by k_with"o"=>exact(rfl)
theorem Sp (es:List (K×α))(k:K)(v:α):(Fy es k v).length<=es.length+1:=by k_with"o"=>
 induction es with
 |nil=>simp[Fy]
 |cons p r ih=>
  obtain⟨a,u⟩:=p;simp only[Oe];split
  ·simp
  ·rw[An,An];omega
theorem Xp {es:List (K×α)}{fs:List (K×β)}(k:K)(v:α)(u:β)(h:es.map (·.1)=fs.map (·.1)):(Fy es k v).map (·.1)=(Fy fs k u).map (·.1):=by k_with"o"=>
 induction es generalizing fs with
 |nil=>cases fs with
  |nil=>rfl
  |cons _ _=>cases h
 |cons p r ih=>cases fs with
  |nil=>cases h
  |cons p' q=>
   obtain⟨a,x⟩:=p;obtain⟨b,y⟩:=p';rw[Aj,Aj] at h;injection h with h1 h2;dsimp only at h1;subst h1;simp only[Oe];split
   ·rw[Aj,Aj,h2]
   ·rw[Aj,Aj,ih h2]
theorem bH {es:List (K×α)}{k:K}{v:α}{j:K}:j∈(Fy es k v).map (·.1)↔j=k\/j∈es.map (·.1):=by k_with"o"=>
 induction es with
 |nil=>simp[Fy]
 |cons p r ih=>
  obtain⟨a,u⟩:=p;simp only[Oe];split
  ·rename_i h;subst h;simp
  ·rw[Aj,Ag,ih,Aj,Ag];constructor
   ·rintro(h|h|h)<;>simp[h]
   ·rintro(h|h|h)<;>simp[h]
theorem Uz {es:List (K×α)}(h:(es.map (·.1)).Nodup)(k:K)(v:α):((Fy es k v).map (·.1)).Nodup:=by k_with"o"=>
 induction es with
 |nil=>simp[Fy]
 |cons p r ih=>
  obtain⟨a,u⟩:=p;have h2:=Ap.mp h;simp only[Oe];split
  ·exact h
  ·rename_i hn;rw[Aj];refine Ap.mpr ⟨λq=>?_,ih h2.2⟩;rcases bH.mp q with e|e
   ·exact hn e
   ·exact h2.1 e
theorem Nt {es:List (K×α)}{k:K}:Ey es k=none↔k∉es.map (·.1):=by k_with"o"=>
 induction es with
 |nil=>simp[Ey]
 |cons p r ih=>
  obtain⟨a,u⟩:=p;simp only[Sq];split
  ·rename_i h;subst h;simp
  ·rename_i h;rw[ih,Aj,Ag];exact⟨λq z=>z.elim (λe=>h e.symm) q,λq z=>q (.inr z)⟩
theorem Wm {es:List (K×α)}{k:K}(h:Ey es k=none)(v:α):Fy es k v=es++[(k,v)]:=by k_with"o"=>
 induction es with
 |nil=>rfl
 |cons p r ih=>
  obtain⟨a,u⟩:=p;simp only[Sq] at h;split at h
  ·cases h
  ·rename_i hn;simp only[Oe];rw[if_neg hn,ih h];rfl
theorem Lo {es:List (K×α)}{k:K}{v:α}(h:Ey es k=some v):(k,v)∈es:=by k_with"o"=>
 induction es with
 |nil=>cases h
 |cons p r ih=>
  obtain⟨a,u⟩:=p;simp only[Sq] at h;split at h
  ·rename_i e;subst e;injection h with h;subst h;exact .head _
  ·exact .tail _ (ih h)
theorem La {es:List (K×α)}(hn:(es.map (·.1)).Nodup){k:K}{v:α}(h:(k,v)∈es):Ey es k=some v:=by k_with"o"=>
 induction es with
 |nil=>cases h
 |cons p r ih=>
  obtain⟨a,u⟩:=p;have h2:=Ap.mp hn;simp only[Sq];rcases Ag.mp h with e|e
  ·injection e with e1 e2;subst e1;subst e2;rw[if_pos rfl]
  ·rw[if_neg (λq:a=k=>h2.1 (by rw[q];exact Af.mpr ⟨_,e,rfl⟩))];exact ih h2.2 e
end
section
variable {K:Type}[DecidableEq K]
theorem Xc:∀{kvs:List (K×Value)} (hn:(kvs.map (·.1)).Nodup) (k:K) (v:Value),stored kvs k v=Fy kvs k v:=by k_with"o"=>
 intro kvs hn k v
 induction kvs with
 |nil=>simp[stored,Fy]
 |cons p r ih=>
  obtain⟨a,u⟩:=p;have h2:=Ap.mp hn;have ih:=ih h2.2;unfold stored at ih ⊢;simp only[Oe];rw[gV];by_cases h:a=k
  ·subst h;rw[if_pos rfl];simp only[decide_true,Bool.true_or,if_true,Aj];rw[map_store_of_not_mem r a v h2.1]
  ·rw[if_neg h,<-ih];simp only[h,decide_false,Bool.false_or];by_cases hc:(r.any λkv=>decide (kv.1=k))=true
   ·rw[if_pos hc,if_pos hc,Aj,if_neg h]
   ·rw[if_neg hc,if_neg hc];rfl
theorem Mb (kvs:List (K×Value))(k:K):valueAt kvs k=Ey kvs k:=by k_with"o"=>
 induction kvs with
 |nil=>rfl
 |cons p r ih=>
  obtain⟨a,u⟩:=p;simp only[Sq];by_cases h:a=k
  ·rw[if_pos h];simp[valueAt,h]
  ·rw[if_neg h,<-ih];simp[valueAt,h]
theorem Xo {es:List (K×V)}{kvs:List (K×Value)}(k:K)(e:kvs.map (·.1)=es.map (·.1))(rs:AG h (es.map (·.2)) (kvs.map (·.2)))(rv:RV h d v):AG h ((Fy es k d).map (·.2)) ((Fy kvs k v).map (·.2)):=by k_with"o"=>
 induction es generalizing kvs with
 |nil=>
  cases kvs with
  |nil=>exact .cons rv .nil
  |cons=>cases e
 |cons p r ih=>
  cases kvs with
  |nil=>cases e
  |cons p' q=>
   obtain⟨a1,x⟩:=p;obtain⟨b1,y⟩:=p';rw[Aj,Aj] at e;injection e with e1 e2;dsimp only at e1;subst e1;have k1:=rs.inv;simp only[Oe];split
   ·exact .cons rv k1.2
   ·exact .cons k1.1 (ih e2 k1.2)
theorem Tp {es:List (K×V)}{kvs:List (K×Value)}(k:K)(e:kvs.map (·.1)=es.map (·.1))(rs:AG h (es.map (·.2)) (kvs.map (·.2))) :
  (Ey es k=none/\Ey kvs k=none)\/∃d v,Ey es k=some d/\Ey kvs k=some v/\RV h d v:=by k_with"o"=>
 induction es generalizing kvs with
 |nil=>
  cases kvs with
  |nil=>exact .inl ⟨rfl,rfl⟩
  |cons=>cases e
 |cons p r ih=>
  cases kvs with
  |nil=>cases e
  |cons p' q=>
   obtain⟨a1,x⟩:=p;obtain⟨b1,y⟩:=p';rw[Aj,Aj] at e;injection e with e1 e2;dsimp only at e1;subst e1;have k1:=rs.inv;simp only[Sq];split
   ·exact .inr ⟨x,y,rfl,rfl,k1.1⟩
   ·exact ih e2 k1.2
end
theorem dS {k:Int}{t:Tok}:(intKind U w).is k (.int k t)=true:=by k_with"o"=>simp[intKind,Value.isInt]
theorem bW (h:∀a,Q (.ref a) ((a,.AN [])::l)):We U w T c (.Dict [] [] pos) r l Q X:=by k_with"o"=>exact(λs R=>
 wpAny_Dict_empty (R.new (x:=.AN []) (tk:=s.toks) (.refl _ _) ⟨[],Heap.DictOf.new _,rfl,.nil⟩ h))
theorem kN (h:∀a,Q (.ref a) ((a,.AV [])::l)):We U w T c (.Dict [] [] pos) r l Q X:=by k_with"o"=>exact(λs R=>
 wpAny_Dict_empty (R.new (x:=.AV []) (tk:=s.toks) (.refl _ _) ⟨[],Rx.new _,rfl,.nil,.nil⟩ h))
theorem RV.intAt {i:Int}(x:RV h (.int i) v):∃t,v=.int i t:=by k_with"o"=>cases x;exact⟨_,rfl⟩
theorem nM {es:List (Int×V)}{k:Int}{Q:Led->Prop}{l':Led}(hp:A5 l a (.AN es) (.AN (Fy es k d)) l')(hz:es.length<=sizeLine)(h:Q l'):nN U w T c (.ref a) (.int k) d r l Q:=by k_with"o"=>exact(λs ov iv v E R ro ri rd=>by
 obtain rfl:=ro.AS;obtain⟨t,rfl⟩:=ri.intAt;obtain⟨kvs,hd,hk,AF⟩:=R.led _ hp.mem;have G':(kvs.map (·.1)).Nodup:=by obtain⟨_,_,_,_,_,_,_,_,hn⟩:=hd;exact hn
 have hl:kvs.length=es.length:=by rw[<-Ac (f:=(·.1)),hk,Ac]
 refine wpAny_setItem_pairs dS hd (λh' CM hs=>?_) (by rw[hl];exact hz);rw[Xc G'] at CM;obtain⟨R',S'⟩:=R.put (tk:=s.toks+1) hp hs λev=>⟨_,CM,Xp k v d hk,Xo k hk (AF.AD ev) (rd.AD ev)⟩;exact⟨r,l',R',S',rfl,h⟩)
theorem Sw {es:List (Int×V)}{k:Int}{ae be:Expr}(hs:∀o i,subscripted be false o i=operate [o,i] (getItem o i))(AE:AP l a (.AN es))(hg:Ey es k=some d)(h:Q d l) :
  W2 U w T c (subscriptTail ae be) (.ref a) (.int k) r l Q X:=by k_with"o"=>exact(λs x y R rx ry=>by
 obtain rfl:=rx.AS;obtain⟨t,rfl⟩:=ry.intAt;obtain⟨kvs,hd,hk,AF⟩:=AE.ro R;rcases Tp k hk AF with⟨e,_⟩|⟨d',v,e1,e2,rv⟩
 ·rw[hg] at e;cases e
 ·rw[hg] at e1;injection e1 with e1;subst e1;refine tail_any hd.typeIs slot_dict_getitem.lookup (wpAny_getItem_of dS hd.mapOf (v:=v) (by rw[Mb,e2]) ?_) (hs _ _);exact Lw.mk _ l rv (R.tok _) (.refl _ _) h)
theorem wB {x:O}(AE:AP l a x)(hx:(∃es,x=.AN es)\/∃es,x=.AV es):Vh U w T c r l (.ref a) "get" (.builtin "dict.get"):=by k_with"o"=>exact(λs y pl P E R rx hp=>by
 obtain rfl:=rx.AS;have IG:=AE.ro R;have:∃o,s.heap.get? a=some o/\o.ExactDict:=by
  rcases hx with⟨es,rfl⟩|⟨es,rfl⟩
  ·obtain⟨kvs,⟨o,_,_,e,hc,_⟩,_⟩:=IG;exact⟨o,e,hc⟩
  ·obtain⟨kvs,⟨o,_,_,e,hc,_⟩,_⟩:=IG;exact⟨o,e,hc⟩
 obtain⟨o,e,hc⟩:=this;exact getMethod_builtin ⟨o,e,hc.1⟩ PySem.F.plainAttrs_dict PySem.F.slot_dict_get PySem.F.type_dict_get (λb q=>by injection q with q;subst q;exact⟨o,e,hc.2.1⟩) hp)
theorem vF {es:List (Int×V)}{k:Int}(TO:T.Ok U w)(AE:AP l a (.AN es))(h:Q ((Ey es k).getD d) l):Wn U w T c (λxs=>call (.builtin "dict.get") xs) [.ref a,.int k,d] r l Q X:=by k_with"o"=>exact(λs xs R rx=>by
 obtain⟨v,u,x,rfl,rv,ru,r3⟩:=rx.three;obtain rfl:=rv.AS;obtain⟨t,rfl⟩:=ru.intAt;obtain⟨y,hm,sy⟩:=AE.mem;obtain⟨kvs,hd,hk,AF⟩:=AE.ro R;refine call_meetsIn PySem.F.slot_dict_get hd.typeIs PySem.F.entry_dict_get (PySem.F.args_dict_get_3 _ _ _) (meets_dict_get_default (intKind U w) a dS (TO.BD (R.apart _ (Em hm))) x) ⟨_,hd.mapOf,?_⟩;rw[Mb];rcases Tp k hk AF with⟨e1,e2⟩|⟨d',v',e1,e2,G5⟩
 ·rw[e1] at h;rw[e2];exact Lw.mk _ l r3 (R.tok _) (.refl _ _) h
 ·rw[e1] at h;rw[e2];exact Lw.mk _ l G5 (R.tok _) (.refl _ _) h)
theorem iZ:∀{ks:List Int} {vs:List Value},AG h (intsOf ks) vs->ItemsAre (intKind U w) ks vs
 |[],_,x=>by cases x;exact .nil
 |k::ks,_,x=>by k_with"o"=>cases x with|cons a b=>obtain⟨t,rfl⟩:=a.intAt;exact .cons dS (iZ b)
theorem lN (x:RV h (.tup (intsOf ks)) v):∃a,v=.ref a/\(tupleKind (intKind U w)).is h ks a:=by k_with"o"=>cases x with|tup e AF=>exact⟨_,rfl,_,_,0,e,rfl,rfl,by simpa using iZ AF⟩
section
variable {K:Type}[DecidableEq K]
noncomputable def Yp:List (K×Addr×Value)->K->Addr->Value->List (K×Addr×Value)
 |[],k,a,v=>[(k,a,v)]
 |(j,b,u)::r,k,a,v=>if j=k then (j,b,v)::r else (j,b,u)::Yp r k a v
theorem Zz (j:K)(b:Addr)(u:Value)(r:List (K×Addr×Value))(k:K)(a:Addr)(v:Value):Yp ((j,b,u)::r) k a v=if j=k then (j,b,v)::r else (j,b,u)::Yp r k a v:=by k_with"o"=>exact(rfl)
theorem lP {xs:List (K×Addr×Value)}(hn:(xs.map (·.1)).Nodup)(k:K)(a:Addr)(v:Value):storedH xs k a v=Yp xs k a v:=by k_with"o"=>
 induction xs with
 |nil=>simp[storedH,Yp,atKey]
 |cons p r ih=>
  obtain⟨j,b,u⟩:=p;have h2:=Ap.mp hn;have ih:=ih h2.2;unfold storedH at ih ⊢;simp only[Zz];by_cases h:j=k
  ·subst h;rw[if_pos rfl];have:(atKey ((j,b,u)::r) j).isSome=true:=by simp[atKey]
   rw[if_pos this,Aj,map_putAt_of_not_mem r j v h2.1];simp[putAt]
  ·rw[if_neg h,<-ih];have e:atKey ((j,b,u)::r) k=atKey r k:=by simp[atKey,h]
   rw[e];by_cases hc:(atKey r k).isSome=true
   ·rw[if_pos hc,if_pos hc,Aj];simp[putAt,h]
   ·rw[if_neg hc,if_neg hc];rfl
noncomputable def eB:List (K×Addr×Value)->K->Option Value
 |[],_=>none
 |(j,_,u)::r,k=>if j=k then some u else eB r k
theorem qD (j:K)(b:Addr)(u:Value)(r:List (K×Addr×Value))(k:K):eB ((j,b,u)::r) k=if j=k then some u else eB r k:=by k_with"o"=>exact(rfl)
theorem jZ (xs:List (K×Addr×Value))(k:K):(atKey xs k).map (·.2)=eB xs k:=by k_with"o"=>
 induction xs with
 |nil=>rfl
 |cons p r ih=>
  obtain⟨j,b,u⟩:=p;simp only[qD];by_cases h:j=k
  ·rw[if_pos h];simp[atKey,h]
  ·rw[if_neg h,<-ih];simp[atKey,h]
theorem mW {xs:List (K×Addr×Value)}{es:List (K×V)}(k:K)(a:Addr)(v:Value)(d:V)(h:xs.map (·.1)=es.map (·.1)):(Yp xs k a v).map (·.1)=(Fy es k d).map (·.1):=by k_with"o"=>
 induction xs generalizing es with
 |nil=>cases es with
  |nil=>rfl
  |cons _ _=>cases h
 |cons p r ih=>cases es with
  |nil=>cases h
  |cons p' q=>
   obtain⟨j,b,x⟩:=p;obtain⟨j',y⟩:=p';rw[Aj,Aj] at h;injection h with h1 h2;dsimp only at h1;subst h1;simp only[Oe,Zz];split
   ·rw[Aj,Aj,h2]
   ·rw[Aj,Aj,ih h2]
theorem mU {es:List (K×V)}{xs:List (K×Addr×Value)}(k:K)(a:Addr)(e:xs.map (·.1)=es.map (·.1))(rs:AG h (es.map (·.2)) (xs.map (·.2.2)))(rv:RV h d v):AG h ((Fy es k d).map (·.2)) ((Yp xs k a v).map (·.2.2)):=by k_with"o"=>
 induction es generalizing xs with
 |nil=>
  cases xs with
  |nil=>exact .cons rv .nil
  |cons=>cases e
 |cons p r ih=>
  cases xs with
  |nil=>cases e
  |cons p' q=>
   obtain⟨a1,x⟩:=p;obtain⟨b1,b2,y⟩:=p';rw[Aj,Aj] at e;injection e with e1 e2;dsimp only at e1;subst e1;have k1:=rs.inv;simp only[Oe,Zz];split
   ·exact .cons rv k1.2
   ·exact .cons k1.1 (ih e2 k1.2)
theorem mV (f:K->V){es:List (K×V)}{xs:List (K×Addr×Value)}(k:K)(a:Addr)(e:xs.map (·.1)=es.map (·.1))(rs:AG h (es.map λe=>f e.1) (xs.map λx=>Value.ref x.2.1))(rv:RV h (f k) (.ref a)) :
  AG h ((Fy es k d).map λe=>f e.1) ((Yp xs k a v).map λx=>Value.ref x.2.1):=by k_with"o"=>
 induction es generalizing xs with
 |nil=>
  cases xs with
  |nil=>exact .cons rv .nil
  |cons=>cases e
 |cons p r ih=>
  cases xs with
  |nil=>cases e
  |cons p' q=>
   obtain⟨a1,x⟩:=p;obtain⟨b1,b2,y⟩:=p';rw[Aj,Aj] at e;injection e with e1 e2;dsimp only at e1;subst e1;have k1:=rs.inv;simp only[Oe,Zz];split
   ·exact .cons k1.1 k1.2
   ·exact .cons k1.1 (ih e2 k1.2)
theorem bI {es:List (K×V)}{xs:List (K×Addr×Value)}(k:K)(e:xs.map (·.1)=es.map (·.1))(rs:AG h (es.map (·.2)) (xs.map (·.2.2))) :
  (Ey es k=none/\eB xs k=none)\/∃d v,Ey es k=some d/\eB xs k=some v/\RV h d v:=by k_with"o"=>
 induction es generalizing xs with
 |nil=>
  cases xs with
  |nil=>exact .inl ⟨rfl,rfl⟩
  |cons=>cases e
 |cons p r ih=>
  cases xs with
  |nil=>cases e
  |cons p' q=>
   obtain⟨a1,x⟩:=p;obtain⟨b1,b2,y⟩:=p';rw[Aj,Aj] at e;injection e with e1 e2;dsimp only at e1;subst e1;have k1:=rs.inv;simp only[Sq,qD];split
   ·exact .inr ⟨x,y,rfl,rfl,k1.1⟩
   ·exact ih e2 k1.2
end
theorem Ctx.Ok.HI (C:c.Ok):(tupleKind (intKind U w)).room c.A.in1:=by k_with"o"=>exact(tupleKind_room_in1 (by have:=C.room;omega))
theorem vC {es:List (List Int×V)}{k:List Int}{Q:Led->Prop}{l':Led}(C:c.Ok)(hp:A5 l a (.AV es) (.AV (Fy es k d)) l')(hz:es.length<=sizeLine)(h:Q l'):nN U w T c (.ref a) (.tup (intsOf k)) d r l Q:=by k_with"o"=>exact(λs ov iv v E R ro ri rd=>by
 obtain rfl:=ro.AS;obtain⟨b,rfl,hb⟩:=lN (U:=U) (w:=w) ri;obtain⟨xs,hd,hk,AF,KH⟩:=R.led _ hp.mem;have G':(xs.map (·.1)).Nodup:=by obtain⟨_,_,_,_,_,_,_,_,hn⟩:=hd;exact hn
 have hl:xs.length=es.length:=by rw[<-Ac (f:=(·.1)),hk,Ac]
 refine wpAny_setItem_heap C.HI hb hd (λh' CM hs=>?_) (by rw[hl];exact hz);rw[lP G'] at CM;obtain⟨R',S'⟩:=R.put (tk:=s.toks+(tupleKind (intKind U w)).draws k) hp hs λev=>⟨_,CM,mW k b v d hk,mU k b hk (AF.AD ev) (rd.AD ev),mV (λks=>V.tup (ks.map V.int)) k b hk (KH.AD ev) (ri.AD ev)⟩;exact⟨r,l',R',S',rfl,h⟩)
theorem Qm {es:List (List Int×V)}{k:List Int}{ae be:Expr}(C:c.Ok)(hs:∀o i,subscripted be false o i=operate [o,i] (getItem o i))(AE:AP l a (.AV es))(hg:Ey es k=some d)(h:Q d l) :
  W2 U w T c (subscriptTail ae be) (.ref a) (.tup (intsOf k)) r l Q X:=by k_with"o"=>exact(λs x y R rx ry=>by
 obtain rfl:=rx.AS;obtain⟨b,rfl,hb⟩:=lN (U:=U) (w:=w) ry;obtain⟨xs,hd,hk,AF,_⟩:=AE.ro R;rcases bI k hk AF with⟨e,_⟩|⟨d',v,e1,e2,rv⟩
 ·rw[hg] at e;cases e
 ·rw[hg] at e1;injection e1 with e1;subst e1;rw[<-jZ] at e2;obtain⟨p,hp,rfl⟩:=Gn.mp e2;refine tail_any hd.typeIs slot_dict_getitem.lookup (wpAny_getItem_heap C.HI hb hd hp ?_) (hs _ _);exact Lw.mk _ l rv (R.tok _) (.refl _ _) h)
theorem kJ {es:List (List Int×V)}{k:List Int}(C:c.Ok)(TO:T.Ok U w)(AE:AP l a (.AV es))(h:Q ((Ey es k).getD d) l):Wn U w T c (λxs=>call (.builtin "dict.get") xs) [.ref a,.tup (intsOf k),d] r l Q X:=by k_with"o"=>exact(λs ys R rx=>by
 obtain⟨v,u,x,rfl,rv,ru,r3⟩:=rx.three;obtain rfl:=rv.AS;obtain⟨b,rfl,hb⟩:=lN (U:=U) (w:=w) ru;obtain⟨y,hm,sy⟩:=AE.mem;obtain⟨xs,hd,hk,AF,_⟩:=AE.ro R;refine call_meetsIn PySem.F.slot_dict_get hd.typeIs PySem.F.entry_dict_get (PySem.F.args_dict_get_3 _ _ _) (meetsH_dict_get_default (knd:=tupleKind (intKind U w)) (d:=a) (a:=b) (TO.BD (R.apart _ (Em hm))) x) ⟨C.HI,k,xs,hb,hd,?_⟩;rw[jZ];rcases bI k hk AF with⟨e1,e2⟩|⟨d',v',e1,e2,G5⟩
 ·rw[e1] at h;rw[e2];exact Lw.mk _ l r3 (R.tok _) (.refl _ _) h
 ·rw[e1] at h;rw[e2];exact Lw.mk _ l G5 (R.tok _) (.refl _ _) h)
theorem lW {es:List DictEntry}{kvs:List (Int×Value)}{fs:List (Int×V)}(P:Pairs (intKind U w) es kvs)(q:kvs.map (·.1)=fs.map (·.1)):AG h (fs.map λe=>.int e.1) (es.map (·.key)):=by k_with"o"=>
 induction P generalizing fs with
 |nil=>
  cases fs with
  |nil=>exact .nil
  |cons=>cases q
 |@cons e kv es kvs h1 h2 h3 ih=>
  obtain⟨k,v⟩:=kv;cases fs with
  |nil=>cases q
  |cons p fs=>
  obtain⟨j,d⟩:=p;rw[Aj,Aj] at q;injection q with q1 q2;dsimp only at q1;subst q1;refine .cons ?_ (ih q2);obtain⟨t,ht⟩:∃t,e.key=.int k t:=by
   revert h1
   cases e.key<;>simp[intKind,Value.isInt]
  dsimp only;rw[ht];exact .int _ _
inductive Keyed:O->List V->Prop
 |I {es:List (Int×V)}:Keyed (.AN es) (es.map λe=>.int e.1)
 |T {es:List (List Int×V)}:Keyed (.AV es) (es.map λe=>.tup (intsOf e.1))
theorem Keyed.raw {x:O}(k:Keyed x ds)(IG:RO U w h a x):∃keys ep,Ju h a keys ep/\AG h ds keys:=by k_with"o"=>
 cases k with
 |I=>obtain⟨kvs,⟨o,es,ep,e,hc,hd,hk,hp,hn⟩,q,_⟩:=IG;exact⟨_,ep,⟨o,es,e,hc,hd,rfl⟩,lW hp q⟩
 |T=>obtain⟨xs,⟨o,es,ep,e,hc,hd,GZ,_⟩,q,_,KH⟩:=IG;refine⟨_,ep,⟨o,es,e,hc,hd,rfl⟩,?_⟩;rw[GZ,Ay];exact KH
theorem bY (C:c.Ok)(TO:T.Ok U w){x:O}(k:Keyed x ds):WalkL U w T c a x ds:=by k_with"o"=>exact(λs ob Q E U0 BP ro h=>by
 obtain⟨keys,ep,hr,AF⟩:=k.raw ro;have AJ:=Am BP;refine aU (TO.BD U0) hr ?_;have W:=Walks.GB (U:=U) (w:=w) (A:=c.A) C.handled s.heap.objs.size a (By AJ) keys ep;rw[<-AF.length] at W ⊢;refine h _ [s.heap.objs.size] _ _ (G4.B6 (h0:=s.heap) (ext:=[(a,ob)]) W (λb hb=>?_) (λp hp=>?_) (λi h st b hb=>?_) (Ae.mpr rfl) λi v _ hv=>AF.at' hv) ?_ (λb o e=>Ad _ e) (by rw[Bc];exact Cb _) λb hb=>Ef (Ae.mp hb).symm
 ·rcases Ag.mp hb with q|q
  ·exact .inl (by rw[q];exact Ae.mpr rfl)
  ·rw[Ae.mp q];exact .inr ⟨_,Ae.mpr rfl⟩
 ·rw[Ae.mp hp];exact λq=>By AJ (Ae.mp q)
 ·obtain⟨⟨o,e1,e2,e3⟩,_⟩:=st;rw[Ae.mp hb];exact⟨o,_,_,e1,e2,e3,by decide⟩
 ·exact⟨⟨⟨_,As _ rfl,rfl,rfl⟩,hr.at λo e=>Ad _ e⟩,λp hp=>by rw[Ae.mp hp];exact Ad _ BP⟩)
theorem Rel.DI (R:Co U w T c s r l){tk:Nat}{x:O}(S0:Step own0 (c.own l) h0 s.heap)(k:∀b o,s.heap.get? b=some o->h'.get? b=some o)(z:s.heap.objs.size<=h'.objs.size)
  (ha:s.heap.objs.size<=a) (hx:RO U w h' a x) (hq:Q (.ref a) ((a,x)::l)):Lw U w T c own0 h0 r Q (.ref a) {s with heap:=h',toks:=tk}:=by k_with"o"=>
 have R1:=R.grow (h':=h') (tk:=tk) k z;have DQ:a∉c.own l:=λq=>absurd (R.live a q) (Bh.mpr ha);refine⟨.ref a,(a,x)::l,.ref _,⟨R1.AH,R1.frames,R1.vars,λp hp=>?_,?_,λb hb=>?_⟩,S0.trans ⟨λb o e _=>⟨o,k b o e,.refl o⟩,λb hb=>?_,z⟩,hq⟩
 ·rcases Ag.mp hp with e|e
  ·subst e;exact hx
  ·exact R1.led p e
 ·have hp:En (c.own ((a,x)::l)) (a::c.own l):=by unfold Ctx.own;exact(En.cons _ Ed).trans (En.swap ..)
  exact hp.nodup_iff.mpr (Ap.mpr ⟨DQ,R.nodup⟩)
 ·rcases(Vw c _ l).mp hb with e|e
  ·rw[e];exact Aa R.AH.room ha
  ·exact R.apart b e
 ·rcases(Vw c _ l).mp hb with e|e
  ·exact .inr (by rw[e];exact ha)
  ·exact .inl e
theorem Ow {P:Nat->Value->Prop}{acc:Array Value}(hp:ItemsOf P acc ds.length)(f:∀i v,i<ds.length->P i v->∃d,ds[i]?=some d/\RV h d v):AG h ds acc.toList:=by k_with"o"=>
 have key:∀(ds:List V) (vs:List Value),vs.length=ds.length->(∀(i:Nat) (v:Value),vs[i]?=some v->∃d,ds[i]?=some d/\RV h d v)->AG h ds vs:=by
  intro ds
  induction ds with
  |nil=>intro vs hl _;cases vs with|nil=>exact .nil|cons _ _=>simp at hl
  |cons d ds ih=>
   intro vs hl hf;cases vs with
   |nil=>simp at hl
   |cons v vs=>refine .cons ?_ (ih vs (by simpa using hl) λi v' hv=>by simpa using hf (i+1) v' (by simpa using hv));obtain⟨d',e,rv⟩:=hf 0 v rfl;simp at e;subst e;exact rv
 refine key ds acc.toList (by rw[Bf];exact hp.1) λi v hv=>?_;have AJ:i<acc.toList.length:=(Bq.mp hv).1;exact f i v (by rw[<-hp.1];simpa using AJ) (hp.2 i v (by rw[<-Aw];exact hv))
theorem Nl {x:O}(C:c.Ok)(TO:T.Ok U w)(AE:AP l a x)(k:Keyed x ds)(hz:ds.length<=sizeLine)(h:∀b,Q (.ref b) ((b,.list ds)::l)):Wn U w T c (λxs=>call (.type "list") xs) [.ref a] r l Q X:=by k_with"o"=>exact(λs xs R rx=>by obtain⟨v,rfl,rv⟩:=rx.one;obtain rfl:=rv.AS;obtain⟨y,hm,sy⟩:=AE.mem;obtain⟨keys,ep,hr,AF⟩:=k.raw (AE.ro R);refine Ci (Ah _) (kdl_call (pT (TO.BD (R.apart _ (Em hm)))) C.handled hr (by rw[<-AF.length];exact hz) λh' tk acc c' hk hs AL z=>?_);rw[<-AF.length] at AL;exact R.DI (x:=.list ds) (.refl _ _) hk z (Ah _) ⟨acc.toList,c',by simpa using hs,(Ow AL λi v _ hv=>AF.at' hv).AD λb vs e=>hk _ _ e⟩ (h _))
theorem kH {i j k:Int}(C:c.Ok)(AE:AP l a (.AY i j k))(hs:Builtin.Range.small i j k=true)(hn:Builtin.Range.rangeSize i j k=n)(hz:n<=2^24)(h:∀b,Q (.ref b) ((b,.list (El i k n))::l)):Wn U w T c (λxs=>call (.type "list") xs) [.ref a] r l Q X:=by k_with"o"=>exact(λs xs R rx=>by
 obtain⟨v,rfl,rv⟩:=rx.one;obtain rfl:=rv.AS;obtain⟨t,u,v,e⟩:=AE.ro R;refine Ci (Ah _) (PySem.call_list_range C.handled e hs hn hz λh' tk acc c' hk hs AL z=>?_);have hl:(El i k n).length=n:=by simp[El]
 rw[<-hl] at AL;refine R.DI (x:=.list (El i k n)) (.refl _ _) hk z (Ah _) ⟨acc.toList,c',by simpa using hs,Ow AL λi' v hi hv=>?_⟩ (h _);obtain⟨t,rfl⟩:=hv;have D4:i'<n:=by rw[hl] at hi;exact hi
 exact⟨.int (i+(i':Int)*k),by simp[El,D4],.int _ _⟩)
noncomputable def Mq:V->Int
 |.int n=>n
 |.tup [.int i,.int j]=>i*16777216+j
 |_=>0
def VN (d:V):Prop:=∃i j:Int,d=.tup [.int i,.int j]/\0<=i/\0<=j/\j<16777216
inductive QW (ds:List V):Prop
 |I (h:∃ns,ds=intsOf ns)
 |P (h:∀d∈ds,VN d)
theorem iD {out:List Value}(p:out.Perm vs):∀{ds:List V},AG h ds vs->∃B0,B0.Perm ds/\AG h B0 out:=by k_with"o"=>
 induction p with
 |nil=>intro ds x;exact⟨ds,.refl _,x⟩
 |cons v p ih=>
  intro ds x;cases x with
  |cons a b=>obtain⟨B0,p',x'⟩:=ih b;exact⟨_::B0,p'.cons _,.cons a x'⟩
 |swap u v p=>
  intro ds x;cases x with
  |cons a b=>
   cases b with
   |cons a' b=>exact⟨_::_::_,En.swap ..,.cons a' (.cons a b)⟩
 |trans p q Y5 Y4=>intro ds x;obtain⟨d1,p1,x1⟩:=Y4 x;obtain⟨d2,p2,x2⟩:=Y5 x1;exact⟨d2,p2.trans p1,x2⟩
theorem xC (r:AG h ds vs)(hv:v∈vs):∃d,d∈ds/\RV h d v:=by k_with"o"=>obtain⟨i,hi⟩:=Bx hv;obtain⟨d,hd,x⟩:=r.at' hi;exact⟨d,Bd hd,x⟩
theorem Xi {i j:Int}(x:RV h (.tup [.int i,.int j]) v):Ts.IsPair h v i j:=by k_with"o"=>
 cases x with
 |tup hg hs=>
  cases hs with
  |cons a b=>
   cases b with
   |cons b e=>cases e;cases a;cases b;exact⟨_,_,_,_,_,rfl,hg,rfl,rfl⟩
theorem iG {rk:Value->Int}(r:AG h ds vs):(∀d∈ds,∀v,RV h d v->rk v=Mq d)->(vs.Pairwise λx y=>rk x<=rk y)->ds.Pairwise λx y=>Mq x<=Mq y:=by k_with"o"=>refine AG.ind (P:=λds vs=>(∀d∈ds,∀v,RV h d v->rk v=Mq d)->(vs.Pairwise λx y=>rk x<=rk y)->ds.Pairwise λx y=>Mq x<=Mq y) (λ_ _=>gW.nil) (λ{d v ds vs} a b ih f p=>?_) r;rw[Cy] at p ⊢;refine⟨λe he=>?_,ih (λd hd=>f d (Kb _ hd)) p.2⟩;obtain⟨i,hi⟩:=Bx he;obtain⟨u,hu,xu⟩:=b.at hi;rw[<-f d (Wy ..) v a,<-f e (Kb _ he) u xu];exact p.1 u (Bd hu)
theorem lV (r:AG h ds vs):(∀d∈ds,VN d)->∃fs,KatTups h vs fs/\fs.length=vs.length/\∀f∈fs,∃i t,f=.int i t:=by k_with"o"=>
 refine AG.ind (P:=λds vs=>(∀d∈ds,VN d)->∃fs,KatTups h vs fs/\fs.length=vs.length/\∀f∈fs,∃i t,f=.int i t) (λ_=>⟨[],trivial,rfl,λ_ h=>by simp at h⟩) (λ{d v ds vs} a b ih f=>?_) r;obtain⟨fs,k,e,g⟩:=ih λd hd=>f d (Kb _ hd);obtain⟨i,j,rfl,_⟩:=f d (Wy ..);obtain⟨ad,o,n,t,u,rfl,h1,h2,h3⟩:=Xi a;exact⟨.int i t::fs,.cons h1 h2 h3 rfl k,by simp[e],λx hx=>by
  rcases Ag.mp hx with rfl|hx
  ·exact⟨_,_,rfl⟩
  ·exact g x hx⟩
theorem rK {i:Int}{t:Tok}:Looks M h (typeOf (.int i t)) (Value.type "int"):=Looks.of_pure rfl
theorem sortedHeap_at {out:List Value}(ho:h.get? a=some (seqObj "list" vs.toArray n)):∃e,(sortedHeap h a vs out.toArray).get? a=some (seqObj "list" out.toArray e):=by k_with"o"=>
 have ha:=Am ho;obtain⟨e1,h1⟩:∃e1,(h.update a (Obj.mapSeq λ_=>#[])).get? a=some (seqObj "list" #[] e1):=⟨_,get?_update_seq ho (λ_=>#[])⟩;have h6:(((h.update a (Obj.mapSeq λ_=>#[])).push (seqObj "tuple" vs.toArray 0)).push (seqObj "list" #[] 0)).get? a=some (seqObj "list" #[] e1):=by rw[Qq _ _ _ (by rw[size_push',Du];exact By (Zu ha)),Qq _ _ _ (by rw[Du];exact By ha)];exact h1
 exact⟨_,get?_update_seq h6 (λ_=>out.toArray)⟩
theorem Ub {b:Addr}{out:Array Value}(hb:b≠a)(e:h.get? b=some o):(sortedHeap h a vs out).get? b=some o:=by k_with"o"=>unfold sortedHeap;rw[Fj _ _ _ _ hb];exact Ad _ (Ad _ (by rw[Fj _ _ _ _ hb];exact e))
theorem Zf {out:Array Value}:h.objs.size<=(sortedHeap h a vs out).objs.size:=by k_with"o"=>unfold sortedHeap;rw[Du,size_push',size_push',Du];omega
theorem Aaj {P:PySem.Fin->Shared->Prop}(ho:s.heap.get? a=some (seqObj "list" vs.toArray n))(rv:AG s.heap ds vs)(S:QW ds)(hz:ds.length<=sizeLine)
  (h:∀B0 out,B0.Perm ds->(B0.Pairwise λx y=>Mq x<=Mq y)->AG s.heap B0 out->P (.done (.ret .none)) {s with heap:=sortedHeap s.heap a vs out.toArray}) :
  wpAny (model U w) A (Builtin.«list.sort» ⟨[.ref a],[]⟩) P E s:=by k_with"o"=>
 rw[rv.length] at hz;cases S with
 |I hI=>obtain⟨ns,rfl⟩:=hI;have hi:=Sb rv;refine Ts.Wd (rk:=numOf) ho hz (λh2 s1 _=>Ts.rL hi h2) (λs1 _=>Ts.tU hi) λout p o=>?_;obtain⟨B0,p',x⟩:=iD p rv;refine h B0 out p' (iG x (λd hd v xv=>?_) o) x;obtain⟨k,_,rfl⟩:=Af.mp (p'.mem_iff.mp hd);cases xv;rfl
 |P hP=>
  have BK:∀b o,(∃vs,o=Fs vs)->s.heap.get? b=some o->b≠a:=λb o ⟨us,e⟩ g q=>by subst q;rw[ho,e] at g;simp[seqObj,Fs] at g
  refine Ts.Wd (rk:=Ts.fB s.heap) (kd:=tuples' true) ho hz (λh2 s1 k=>?_) (λs1 k=>Ts.rF (λv hv=>?_) λv hv i j x=>?_) λout p o=>?_
  ·have G5:AG s1.heap ds vs:=rv.AD λb us e=>k b _ (BK b _ ⟨us,rfl⟩ e) e;obtain⟨fs,kt,hl,hf⟩:=lV G5 hP;refine kat_kind kt (by omega) (T:=Value.type "int") (λv hv=>?_) (by rfl) ⟨rfl,by rfl⟩;obtain⟨i,t,rfl⟩:=hf v hv;exact rK
  ·obtain⟨d,hd,x⟩:=xC rv hv;obtain⟨i,j,rfl,h1,h2,h3⟩:=hP d hd;exact⟨i,j,Xi x,h1,h2,h3⟩
  ·obtain⟨b,o,n',t,u,rfl,h1,h2,h3⟩:=x;refine⟨b,o,n',t,u,rfl,k b o (λq=>?_) h1,h2,h3⟩;subst q;rw[ho] at h1;injection h1 with h1;subst h1;simp[seqObj] at h2
  ·obtain⟨B0,p',x⟩:=iD p rv;refine h B0 out p' (iG x (λd hd v xv=>?_) o) x;obtain⟨i,j,rfl,_⟩:=hP d (p'.mem_iff.mp hd);rw[Ts.Xe (Xi xv)];rfl
theorem Yg {R:Value->Shared->Prop}(S:QW ds)(hz:ds.length<=sizeLine)(hn:n<=s.heap.objs.size)
  (hc:∀{F:List Value->Shared->Prop},(∀h' tk vs,(∀b o,s.heap.get? b=some o->h'.get? b=some o)->n<=h'.objs.size->AG h' ds vs->F vs {s with heap:=h',toks:=tk})->wpAny (model U w) A.in1 (collect (.ref a)) F E s)
  (h:∀h' tk b B0 out e,(∀b o,s.heap.get? b=some o->h'.get? b=some o)->n<=h'.objs.size->n<=b->B0.Perm ds->(B0.Pairwise λx y=>Mq x<=Mq y)->h'.get? b=some (seqObj "list" (lD out) e)->AG h' B0 out->R (.ref b) {s with heap:=h',toks:=tk}) :
  wpAny (model U w) A (call (.builtin "sorted") [.ref a]) R E s:=by k_with"o"=>
 refine call_function_entry kind_sorted plain_sorted entry_sorted (args_sorted1 _) ?_;unfold Builtin.«sorted»;refine wpAny_bind (m:=checkCount "sorted" 1 1 _) (wpAny_pure ?_);refine wpAny_bind (hc λh1 tk vs k z rv=>?_);refine wpAny_bind (wpAny_newList ?_ (by rw[<-rv.length];exact hz));have QH:(h1.push (seqObj "list" vs.toArray 0)).get? h1.objs.size=some (seqObj "list" vs.toArray 0):=As _ rfl;have FN:AG (h1.push (seqObj "list" vs.toArray 0)) ds vs:=rv.AD λb us e=>Ad _ e;show wpAny _ _ _ _ _ {s with heap:=h1.push (seqObj "list" vs.toArray 0),toks:=tk};refine wpAny_bind (wpAny_holding (wpAny_call_entry slot_list_sort ⟨_,QH,rfl⟩ entry_list_sort (Aaj (s:={s with heap:=h1.push (seqObj "list" vs.toArray 0),toks:=tk}) QH FN S hz λB0 out p o x=>⟨_,rfl,?_⟩) (args_list_sort _)));obtain⟨e,he⟩:=sortedHeap_at (out:=out) QH;have keep:∀b o,h1.get? b=some o->(sortedHeap (h1.push (seqObj "list" vs.toArray 0)) h1.objs.size vs out.toArray).get? b=some o:=λb o e=>Ub (By (Am e)) (Ad _ e);refine wpAny_pure ⟨_,rfl,h _ tk _ B0 out e (λb o e=>keep b o (k b o e)) (Aa z (Aa (by rw[size_push'];exact Cb _) Zf)) z p o he ?_⟩;refine x.AD λb us g=>?_;by_cases hb:b=h1.objs.size
 ·subst hb;have g':=QH.symm.trans g;simp[seqObj,Fs] at g'
 ·exact Ub hb g
theorem Oh (AE:AP l a (.list ds))(S:QW ds)(hz:ds.length<=sizeLine)(h:∀b B0,B0.Perm ds->(B0.Pairwise λx y=>Mq x<=Mq y)->Q (.ref b) ((b,.list B0)::l)) :
  Wn U w T c (λxs=>call (.builtin "sorted") xs) [.ref a] r l Q X:=by k_with"o"=>exact(λs ys R rx=>by
 obtain⟨v,rfl,rv⟩:=rx.one;obtain rfl:=rv.AS;obtain⟨vs,n,e,AF⟩:=AE.ro R;refine Yg (n:=s.heap.objs.size) S hz (Ah _) (λhF=>collect_list ⟨_,e,rfl,_,rfl⟩ ?_ (by rw[<-AF.length];exact hz)) λh' tk b B0 out e' k z zb p o he x=>?_
 ·have kp:∀b o,s.heap.get? b=some o->((s.heap.push (seqObj "list" #[] 0)).update s.heap.objs.size (Obj.mapSeq (·++vs.toArray))).get? b=some o:=λb o g=>by rw[Fj _ _ _ _ (By (Am g))];exact Ad _ g
  exact hF _ _ _ kp (by rw[Du,size_push'];exact Cb _) (AF.AD λb us g=>kp b _ g)
 ·exact R.DI (x:=.list B0) (.refl _ _) k z zb ⟨out,e',he,x⟩ (h b B0 p o))
theorem Oi {y:O}(C:c.Ok)(TO:T.Ok U w)(AE:AP l a y)(k:Keyed y ds)(S:QW ds)(hz:ds.length<=sizeLine)(h:∀b B0,B0.Perm ds->(B0.Pairwise λx y=>Mq x<=Mq y)->Q (.ref b) ((b,.list B0)::l)) :
  Wn U w T c (λxs=>call (.builtin "sorted") xs) [.ref a] r l Q X:=by k_with"o"=>exact(λs ys R rx=>by
 obtain⟨v,rfl,rv⟩:=rx.one;obtain rfl:=rv.AS;obtain⟨y',hm,sy⟩:=AE.mem;obtain⟨keys,ep,hr,AF⟩:=k.raw (AE.ro R);refine Yg (n:=s.heap.objs.size) S hz (Ah _) (λ{F} hF=>?_) λh' tk b B0 out e' k z zb p o he x=>?_
 ·refine wpAny_mono (Ci (Ah _) (kdu_collect (R:=λvs s'=>s.heap.objs.size<=s'.heap.objs.size->F vs s') (pT (TO.BD (R.apart _ (Em hm)))) C.handled hr (by rw[<-AF.length];exact hz) λh' tk acc hk AL z=>?_)) (λ_ _ q=>q) λ_ _ q=>q;rw[<-AF.length] at AL;exact hF _ _ _ hk z ((Ow AL λi v _ hv=>AF.at' hv).AD λb vs e=>hk _ _ e)
 ·exact R.DI (x:=.list B0) (.refl _ _) k z zb ⟨out,e',he,x⟩ (h b B0 p o))
theorem Ik (AE:AP l a (.list xs))(hz:xs.length<=sizeLine)(h:Q (.tup xs) l):Wn U w T c (λxs=>call (.type "tuple") xs) [.ref a] r l Q X:=by k_with"o"=>exact(λs ys R rx=>by obtain⟨v,rfl,rv⟩:=rx.one;obtain rfl:=rv.AS;obtain⟨vs,n,e,AF⟩:=AE.ro R;refine Ci (Ah _) (call_tuple_list (items:=vs.toArray) ⟨_,e,rfl,n,rfl⟩ (λh' k z=>?_) (by rw[Az,<-AF.length];exact hz));have k':∀b o,s.heap.get? b=some o->(h'.push (Fs vs)).get? b=some o:=λb o g=>Ad _ (k b o g);exact⟨.tup xs,l,.tup (As _ rfl) (AF.AD λb us g=>k' b _ g),R.grow k' z,Step.grow k' z,h⟩)
theorem gG (h:Q (.tup xs) l):Wn U w T c (λxs=>call (.type "tuple") xs) [.tup xs] r l Q X:=by k_with"o"=>exact(λs ys R rx=>by
 obtain⟨v,rfl,rv⟩:=rx.one;cases rv with
 |tup hg hs=>exact call_tuple_same ⟨_,hg,rfl,_,rfl⟩ (R.val (.tup hg hs) h))
theorem cY {es:List (Int×V)}(TO:T.Ok U w)(AE:AP l a (.AN es))(hz:es.length<=sizeLine)(h:∀b,Q (.ref b) ((b,.AN es)::l)):Wn U w T c (λxs=>call (.type "dict") xs) [.ref a] r l Q X:=by k_with"o"=>exact(λs ys R rx=>by
 obtain⟨v,rfl,rv⟩:=rx.one;obtain rfl:=rv.AS;obtain⟨y,hm,sy⟩:=AE.mem;obtain⟨kvs,hd,hk,AF⟩:=AE.ro R;have hlen:kvs.length=es.length:=by have:=congrArg Nb hk;simpa using this
 refine Ci (Ah _) (kt_call_dict (TO.BD (R.apart _ (Em hm))) hd (by rw[hlen];exact hz) λh' CM S z=>?_);have k:∀b o,s.heap.get? b=some o->h'.get? b=some o:=λb o g=>S.extBut b o (By (Am g)) (Ad _ g);exact R.DI (tk:=s.toks) (x:=.AN es) (.refl _ _) k z (Ah _) ⟨kvs,CM,hk,AF.AD λb us g=>k b _ g⟩ (h _))
theorem nF:byteArr (b.map λx=>(x.toNat:Int))=b.toArray:=by k_with"o"=>
 unfold byteArr;rw[Ay];congr 1
 conv=>rhs;rw[<-Na b]
 refine Fi λx _=>?_;show(x.toNat:Int).toNat.toUInt8=x;rw[Jm];exact UInt8.ofNat_toNat
theorem Ui (C:c.Ok)(AE:AP l a (.list (b.map λx=>.int x.toNat)))(hz:b.length<=sizeLine)(h:Q (.bytes b) l):Wn U w T c (λxs=>call (.type "bytes") xs) [.ref a] r l Q X:=by k_with"o"=>exact(λs ys R rx=>by
 obtain⟨v,rfl,rv⟩:=rx.one;obtain rfl:=rv.AS;obtain⟨vs,n,e,AF⟩:=AE.ro R;have hi:IntsAre vs (b.map λx=>(x.toNat:Int)):=Sb (h:=s.heap) (by unfold intsOf;rw[Ay];exact AF);refine Ci (Ah _) (call_bytes_ints ⟨_,e,rfl,n,rfl⟩ hi (λn hn=>?_) (by rw[<-AF.length,Ac];exact hz) C.handled λh' t tk k z=>?_)
 ·obtain⟨x,_,rfl⟩:=Af.mp hn;exact⟨Fw _,by have:=x.toNat_lt;omega⟩
 ·rw[nF];exact⟨.bytes b,l,.bytes b t,R.grow k z,Step.grow k z,h⟩)
section
section
section
noncomputable abbrev DS (U:Program)(w:World):HeapKind U w (List Int):=tupleKind (intKind U w)
theorem Vp {Q:Bool->Shared->Prop}(hk:(DS U w).is s.heap ks a)(h:∀b,Q b s):wpAny (model U w) A (Builtin.Dict.quietEq (.ref a)) Q E s:=by k_with"o"=>have hT:=IsTupleKey.typeIs hk;unfold Builtin.Dict.quietEq;exact wpAny_bind (wpAny_specialOf hT F.slot_tuple_eq.lookup (wpAny_pure (h _)))
def Hi (U:Program)(w:World)(ks:List (List Int)):Prop:=(ks.map (DS U w).hash).Nodup
theorem jJ {xs:List (List Int×Addr×Value)}(hn:Hi U w (xs.map (·.1)))(x:List Int×Addr×Value):((xs.map (entryOfKey (DS U w))).filter λe=>e.hash==(entryOfKey (DS U w) x).hash).length<=1:=by k_with"o"=>
 unfold Hi at hn
 induction xs with
 |nil=>simp
 |cons y ys ih=>
  rw[Aj,Aj,Ap] at hn;rw[Aj,Hb];split
  ·rename_i e;have e':(DS U w).hash y.1=(DS U w).hash x.1:=by simpa[entryOfKey] using e
   rw[An];have:((ys.map (entryOfKey (DS U w))).filter λe=>e.hash==(entryOfKey (DS U w) x).hash)=[]:=by
    rw[List.filter_eq_nil_iff];intro z hz;obtain⟨u,hu,rfl⟩:=Af.mp hz;intro q;have q':(DS U w).hash u.1=(DS U w).hash x.1:=by simpa[entryOfKey] using q
    exact hn.1 (by rw[e',<-q',Ay];exact Af.mpr ⟨u,hu,rfl⟩)
   rw[this];simp
  ·exact ih hn.2
theorem Qd {id:String}{d:Addr}{es:Array DictEntry}{ep:Nat}{xs:List (List Int×Addr×Value)}{Q:Array DictEntry->Shared->Prop}(ho:s.heap.get? d=some o)(hd:o.data=.dict es ep)
  (GZ:es.toList=xs.map (entryOfKey (DS U w))) (hk:∀x∈xs,(DS U w).is s.heap x.1 x.2.1) (hn:Hi U w (xs.map (·.1))) (h:Q es s) :
  wpAny (model U w) A (Builtin.Dict.entriesForEmpty id d) Q E s:=by k_with"o"=>
 unfold Builtin.Dict.entriesForEmpty;refine wpAny_bind (wpAny_dictEntries ho hd ?_);refine wpAny_bind ?_;rw[<-Array.forIn_toList];refine wpAny_forIn_list _ (λrest _ s'=>s'=s/\∀e∈rest,e∈es.toList) _ ?_ ?_ _ _ ⟨rfl,λ_ h=>h⟩
 ·rintro e rest b s' ⟨rfl,hr⟩;have hm:=hr e (Wy ..);rw[GZ] at hm;obtain⟨x,hx,rfl⟩:=Af.mp hm;refine wpAny_bind (Vp (hk x hx) λb=>?_);have hf:¬(es.filter λe=>e.hash==(entryOfKey (DS U w) x).hash).size>1:=by rw[<-Bf,Array.toList_filter,GZ];exact Bh.mpr (jJ hn x)
  cases b
  ·simp only[Bool.not_false,if_true];rw[if_neg hf];exact wpAny_pure ⟨rfl,λe he=>hr e (Kb _ he)⟩
  ·simp only[gX,Bi,if_false];exact wpAny_pure ⟨rfl,λe he=>hr e (Kb _ he)⟩
 ·rintro b s' ⟨rfl,_⟩;exact wpAny_pure h
theorem fY {d:Addr}{xs:List (List Int×Addr×Value)}(m:h.DictOfH (DS U w) d xs)(k:∀b,b=d\/(∃vs n,∃o,h.get? b=some o/\o.data=.seq vs n)->∀o,h.get? b=some o->h'.get? b=some o):h'.DictOfH (DS U w) d xs:=by k_with"o"=>obtain⟨o,es,ep,ho,hc,hd,he,hk,hn⟩:=m;refine⟨o,es,ep,k d (.inl rfl) o ho,hc,hd,he,λx hx=>?_,hn⟩;obtain⟨o',items,n,h1,h2,h3,h4⟩:=hk x hx;exact⟨o',items,n,k _ (.inr ⟨_,_,o',h1,h3⟩) _ h1,h2,h3,h4⟩
theorem Vq {nm:String}{d o:Addr}{xs:List (List Int×Addr×Value)}{Q:Unit->Shared->Prop}(OR:d≠o)(TJ:(o==sysModules)=false)
  (hd:s.heap.DictOfH (DS U w) d []) (ho:s.heap.DictOfH (DS U w) o xs) (hn:Hi U w (xs.map (·.1))) (BJ:xs.length<=sizeLine)
  (hQ:∀h',h'.DictOfH (DS U w) d xs->Bs d s.heap h'->Q () {s with heap:=h'}) :
  wpAny (model U w) A (Builtin.Dict.mergeDict nm d o) Q E s:=by k_with"o"=>
 obtain⟨od,du,d7,G9,H9,AQ,LF,gi,G'⟩:=id hd;obtain⟨oo,MX,h9,QG,gv,JC,OB,WO,HX⟩:=id ho;have h0:du=#[]:=by have:=size_of_entries LF;simpa using this
 have JS:=size_of_entries OB;unfold Builtin.Dict.mergeDict;rw[if_neg (by simpa using OR)];unfold Builtin.Dict.showsAll;rw[if_neg (by rw[TJ];exact He)];refine wpAny_bind (wpAny_pure ?_);refine wpAny_bind (wpAny_dictEntries QG JC ?_);cases IE:xs with
 |nil=>
  subst IE;have he:MX=#[]:=by simpa using JS
  subst he;dsimp only;rw[if_neg (by simp)];refine wpAny_bind (wpAny_dictEpoch QG JC ?_);refine wpAny_bind (wpAny_dictEntries QG JC ?_);show wpAny _ _ (forIn [0:0] _ _ >>= _) _ _ _;refine wpAny_bind ?_;rw[Std.Legacy.Range.forIn_eq_forIn_range'];exact wpAny_pure (wpAny_pure (hQ _ hd (.refl _ _)))
 |cons x fq=>
  dsimp only;have WB:∃e0,MX[0]?=some e0/\keyPart e0.key=none:=by refine⟨entryOfKey (DS U w) x,?_,rfl⟩;rw[entry_at OB,IE];rfl
  have UB:(decide (MX.size<=8)&&MX.all λe=>(keyPart e.key).isSome)=false:=by obtain⟨e0,q1,q2⟩:=WB;rw[Bool.and_eq_false_iff];right;rw[Array.all_eq_false];obtain⟨q3,q4⟩:=Cx.mp q1;exact⟨0,q3,by rw[q4,q2];simp⟩
  rw[if_pos (by rw[UB];rfl)];refine wpAny_bind (wpAny_dictEntries G9 AQ ?_);rw[if_pos (by rw[h0];rfl)];refine wpAny_bind (Qd QG JC OB WO hn ?_);have BK:MX.isEmpty=false:=by rw[<-Array.isEmpty_toList,OB,IE];rfl
  rw[if_pos (by rw[BK];rfl)];have S:Bs d s.heap (s.heap.update d (Obj.mapDictKeys λ_=>MX)):=Bs.update ..;refine wpAny_bind (wpAny_updateDictKeysTo G9 AQ (wpAny_pure (hQ _ ⟨_,_,d7+1,Bv _ G9 (Obj.isFreed_of_dict (Obj.data_mapDictKeys AQ _)),H9.mapDictKeys _,Obj.data_mapDictKeys AQ _,OB,λy hy=>(WO y hy).keeps G9 AQ S,HX⟩ S)) (by rw[JS];omega))
theorem jX {o:Addr}{xs:List (List Int×Addr×Value)}{Q:Value->Shared->Prop}(TJ:(o==sysModules)=false)(ho:s.heap.DictOfH (DS U w) o xs)(hn:Hi U w (xs.map (·.1)))(BJ:xs.length<=sizeLine)
  (h:∀h',h'.DictOfH (DS U w) s.heap.objs.size xs->Bs s.heap.objs.size (s.heap.push {cls:=.type "dict",data:=.dict #[]}) h'->Q (.ref s.heap.objs.size) {s with heap:=h'}) :
  wpAny (model U w) A (call (.type "dict") [.ref o]) Q E s:=by k_with"o"=>
 refine callType_codes (Q₁:=λobj s₁=>obj=.ref s.heap.objs.size/\s₁={s with heap:=s.heap.push {cls:=.type "dict",data:=.dict #[]}}) F.kt_called_dict (F.kt_typeCall_dict_1 _) F.entry_dict_init (kt_code_dict_new _ ⟨rfl,rfl⟩) ?_;rintro obj s₁ ⟨rfl,rfl⟩;have DQ:(s.heap.push {cls:=.type "dict",data:=.dict #[]}).DictOfH (DS U w) s.heap.objs.size []:=Rx.new s.heap;have K':(s.heap.push {cls:=.type "dict",data:=.dict #[]}).DictOfH (DS U w) o xs:=fY ho λb _ o e=>Ad _ e;have OR:s.heap.objs.size≠o:=by obtain⟨_,_,_,hg,_⟩:=ho;exact λe=>absurd (Am hg) (by rw[e];exact Dv _)
 have hT:Shared.TypeIs {s with heap:=s.heap.push {cls:=.type "dict",data:=.dict #[]}} (.ref o) "dict":=Rx.typeIs (s:={s with heap:=s.heap.push {cls:=.type "dict",data:=.dict #[]}}) K';refine⟨Rx.typeIs (s:={s with heap:=s.heap.push {cls:=.type "dict",data:=.dict #[]}}) DQ,F.args_dict_init_2 _ _,?_⟩;unfold Builtin.«dict.__init__»;refine wpAny_bind ?_;unfold Builtin.Dict.selfAndRest;refine wpAny_bind (wpAny_notOrdered_dict (Rx.typeIs (s:={s with heap:=s.heap.push {cls:=.type "dict",data:=.dict #[]}}) DQ) ?_);show wpAny _ _ (pure (s.heap.objs.size,[Value.ref o])) _ _ _;refine wpAny_pure ?_;show wpAny _ _ (Builtin.Dict.updateFrom "dict.__init__" s.heap.objs.size (.ref o) [] .none) _ _ _;unfold Builtin.Dict.updateFrom;refine wpAny_bind (wpAny_typeOf hT ?_);rw[if_neg (by decide)];refine wpAny_bind ?_;unfold Builtin.Dict.merge;refine wpAny_bind ?_;unfold Builtin.Dict.readDirectly;refine wpAny_bind (wpAny_isInstance hT isSubtype_dict_dict ?_);simp only[gX,Bi,if_false];refine wpAny_bind (wpAny_specialOf hT F.slot_dict_iter.lookup (wpAny_pure ?_));simp only[beq_self_eq_true,if_true];refine wpAny_bind (wpAny_pure ?_);refine Vq OR TJ DQ K' hn BJ λh' CM CA=>?_;show wpAny _ _ (Builtin.Dict.addKeywords s.heap.objs.size [] >>= _) _ _ _;exact wpAny_bind (wpAny_pure (wpAny_pure ⟨rfl,h h' CM CA⟩))
end
end
section
theorem cX {es:List (List Int×V)}(TO:T.Ok U w)(AE:AP l a (.AV es))(hn:Hi U w (es.map (·.1)))(hz:es.length<=sizeLine)(h:∀b,Q (.ref b) ((b,.AV es)::l)):Wn U w T c (λxs=>call (.type "dict") xs) [.ref a] r l Q X:=by k_with"o"=>exact(λs ys R rx=>by
 obtain⟨v,rfl,rv⟩:=rx.one;obtain rfl:=rv.AS;obtain⟨y,hm,sy⟩:=AE.mem;obtain⟨xs,hd,hk,AF,YV⟩:=AE.ro R;have hlen:xs.length=es.length:=by have:=congrArg Nb hk;simpa using this
 refine Ci (Ah _) (jX (TO.BD (R.apart _ (Em hm))) hd (by rw[hk];exact hn) (by rw[hlen];exact hz) λh' CM S z=>?_);have k:∀b o,s.heap.get? b=some o->h'.get? b=some o:=λb o g=>S.extBut b o (By (Am g)) (Ad _ g);exact R.DI (tk:=s.toks) (x:=.AV es) (.refl _ _) k z (Ah _) ⟨xs,CM,hk,AF.AD λb us g=>k b _ g,YV.AD λb us g=>k b _ g⟩ (h _))
end
end
theorem fO:typeLookup (.type "list") "keys"=pure none:=by k_with"o"=>rw[typeLookup_type,builtinLookup_eq_fast];kernel_rfl
theorem Se:typeLookup (.type "list") "__getattr__"=pure none:=by k_with"o"=>rw[typeLookup_type,builtinLookup_eq_fast];kernel_rfl
section
variable {g:Array GenState}{d:Drawn}{t:Nat}{os:OsState}{xs:Array Value}
theorem tZ {tk:Tok}{Q:Fin->Shared->Prop}(hh:A.handled=none)(hx:h.get? a=some (seqObj "list" xs n))
  (hq:∀h' tk e,Heap.NewAttrErr h h' e (.ref a) "keys"->E (.ref e) ⟨h',g,d,tk,os⟩) :
  wpAny (model U w) A (Builtin.«object.__getattribute__» ⟨[.ref a,.str "keys" tk],[]⟩) Q E ⟨h,g,d,t,os⟩:=by k_with"o"=>
 have hT:(⟨h,g,d,t,os⟩:Shared).TypeIs (.ref a) "list":=⟨_,hx,rfl⟩;have hc:(seqObj "list" xs n).cls=.type "list":=rfl;have f1:=fO;unfold Builtin.«object.__getattribute__»
 repeat (any_goals (first|with_reducible assumption|walk_at"wp" |assumption))
 exact wpAny_raiseAttrError hh hq (attrMsg_fits (by decide +kernel) (by size_fits))
theorem xN {Q:Option Value->Shared->Prop}(hh:A.handled=none)(hx:h.get? a=some (seqObj "list" xs n))
  (hq:∀h' tk,(∀b o,h.get? b=some o->h'.get? b=some o)->Q none ⟨h',g,d,tk,os⟩):wpAny (model U w) A (getAttr? (.ref a) "keys") Q E ⟨h,g,d,t,os⟩:=by k_with"o"=>
 have hT:∀u,(⟨h,g,d,u,os⟩:Shared).TypeIs (.ref a) "list":=λu=>⟨_,hx,rfl⟩;have g7:=hT t;have f1:=sub_AttributeError;have f3:=F.slot_list_getattribute.lookup;have f4:=F.slot_list_getattribute.bind (.ref a);have f5:=Se;unfold getAttr? getAttrBy? getAttrBy
 repeat (any_goals (first|with_reducible assumption|((with_reducible show wpAny _ _ (call (Value.builtin "list.__getattribute__") _ _) _ _ _);refine wpAny_call_entry F.slot_list_getattribute (hT _) F.entry_list_ga (tZ hh hx λh' M5 e MN=>?_) (F.args_list_getattribute_2 _ _))|walk_at"wp" |assumption))
 obtain⟨t',u',he⟩:=MN.there
 repeat (any_goals (first|with_reducible assumption|walk_at"wp" |assumption))
 exact hq _ _ MN.keeps
end
section
namespace F
open PySem.F
theorem BH:entryFor table "dict.update.loop"=some Builtin.«dict.update.loop»:=entryFor_of_fast (by kernel_rfl)
theorem AR:plainId "dict.update.loop"=true:=by decide +kernel
end F
section
noncomputable abbrev iO (e:Int×V):V:=.tup [.int e.1,e.2]
noncomputable def Rt (acc:List (Int×V))(es:List (Int×V)):List (Int×V):=es.foldl (λa e=>Fy a e.1 e.2) acc
theorem rS {R:Result->Shared->Prop}{d I ax:Addr}{items:Array Value}{es:List (Int×V)}{res:Value}(hh:A.handled=none)(UL:d≠I)(JA:d≠ax)(BK:ax≠I)(hlen:items.size=es.length) :
  ∀(k i:Nat) (s:Shared) (acc:List (Int×V)) (t:Tok),es.length-i=k->i<=es.length->s.heap.IsListIter I ax i/\s.heap.IsList ax items->RO U w s.heap d (.AN acc)->AG s.heap (es.map iO) items.toList->acc.length+(es.length-i)<=sizeLine->
  (∀h' tk,(∀b o,b≠d->b≠I->s.heap.get? b=some o->h'.get? b=some o)->RO U w h' d (.AN (Rt acc (es.drop i)))->R (.ok (.ret res)) {s with heap:=h',toks:=tk})->
  codeAny (model U w) A (.builtin "dict.update.loop" ⟨[.ref d,.ref I,.int i t,res],[]⟩) R s:=by k_with"o"=>
 have W:=Walks.list (prog:=U) (w:=w) (A:=A.in1) hh I ax BK items;intro k
 induction k with
 |zero=>
  intro i s acc t hk hi st hd rv hz hR;have AE:i=items.size:=by omega
  refine codeAny_builtin F.BH ?_;rw[Around.under_plainId F.AR _];show wpAny _ A.in1 (pyNext (.ref I) >>= _) _ _ s;refine wpAny_bind (W.done s _ _ (by rw[<-AE];exact st) λh' tk k'=>?_);show wpAny _ _ (Builtin.Dict.addKeywords d [] >>= _) _ _ _;refine wpAny_bind (wpAny_pure (wpAny_pure (hR h' tk (λb o _ hb e=>k' b o (by simpa using hb) e) ?_)));rw[Im (by omega)];obtain⟨kvs,h1,h2,h3⟩:=hd;obtain⟨o,A9,ep,g1,g2⟩:=id h1;refine⟨kvs,⟨o,A9,ep,k' d o (by simpa using UL) g1,g2⟩,h2,h3.AD λb us e=>?_⟩;refine k' b _ (λq=>?_) e;obtain⟨⟨o',e1,e2,e3⟩,_⟩:=st;rw[Ae.mp q,e1] at e;injection e with e;subst e;simp[Fs] at e2
 |succ k ih=>
  intro i s acc t hk hi st hd rv hz hR;have AJ:i<items.size:=by omega
  refine codeAny_builtin F.BH ?_;rw[Around.under_plainId F.AR _];show wpAny _ A.in1 (pyNext (.ref I) >>= _) _ _ s;refine wpAny_bind (W.item i s _ _ AJ st λv h' tk hP IX hm=>?_);have XX:A0 s.heap h':=λb us e=>by refine hm b _ (λq=>?_) e;obtain⟨⟨o',e1,e2,e3⟩,_⟩:=st;rw[Ae.mp q,e1] at e;injection e with e;subst e;simp[Fs] at e2
  have CM:RO U w h' d (.AN acc):=by obtain⟨kvs,h1,h2,h3⟩:=hd;obtain⟨o,A9,ep,g1,g2⟩:=id h1;exact⟨kvs,⟨o,A9,ep,hm d o (by simpa using UL) g1,g2⟩,h2,h3.AD XX⟩
  have G5:=rv.AD XX;obtain⟨dd,AQ,xv⟩:=G5.at' (i:=i) (v:=v) (by rw[Aw];exact hP);rw[Bw] at AQ;obtain⟨e,he⟩:∃e,es[i]?=some e:=⟨_,Cs (by omega)⟩;rw[he] at AQ;injection AQ with AQ;subst AQ;cases xv with
  |tup hg hs=>
   rename_i p vs;cases hs with
   |cons xk hs=>
    cases hs with
    |cons xd hs=>
     cases hs;cases xk;rename_i u kt;show wpAny _ _ _ _ _ {s with heap:=h',toks:=tk};refine wpAny_bind (wpAny_holding (wpAny_bind (wpAny_tryCatch ?_)));unfold Builtin.Dict.pairItems;refine wpAny_bind (wpAny_typeOf (T := "tuple") ⟨_,hg,rfl⟩ ?_);rw[if_pos (by decide)];refine wpAny_bind (wpAny_seqItems hg rfl (wpAny_pure ?_));dsimp only[Option.getD];obtain⟨kvs,h1,h2,h3⟩:=CM;have G':(kvs.map (·.1)).Nodup:=by obtain⟨_,_,_,_,_,_,_,_,hn⟩:=h1;exact hn
     have hl:kvs.length=acc.length:=by rw[<-Ac (f:=(·.1)),h2,Ac]
     refine wpAny_holding (wpAny_dictSet_pairs (s:={s with heap:=h',toks:=tk}) (kvs:=kvs) dS h1 (λXN hd2 HU=>?_) (by rw[hl];omega));rw[Xc G'] at hd2;have U4:A0 h' XN:=λb us g=>by obtain⟨o,A9,ep,g1,g2,g3,_⟩:=id h1;refine HU.extBut b _ (λq=>?_) g;rw[q,g1] at g;injection g with g;subst g;simp[Fs] at g3
     refine wpAny_pure ⟨plainId_quiet F.AR _,?_⟩;refine ih (i+1) _ (Fy acc e.1 e.2) 0 (by omega) (by omega) ?_ ⟨_,hd2,Xp e.1 _ _ h2,Xo e.1 h2 (h3.AD U4) (xd.AD U4)⟩ (G5.AD U4) (by have:=Sp acc e.1 e.2;omega) λU2 YJ k3 QO=>?_
     ·exact⟨IX.1.at λo g=>HU.extBut I o (Ne.symm UL) g,IX.2.at λo g=>HU.extBut ax o (Ne.symm JA) g⟩
     ·refine hR U2 YJ (λb o b1 b2 g=>k3 b o b1 b2 (HU.extBut b o b1 (hm b o (by simpa using b2) g))) ?_;rw[Kp (by omega)];have:es[i]'(by omega)=e:=by have:=Cs (l:=es) (i:=i) (by omega);rw[he] at this;injection this with this;exact this.symm
      rw[this];exact QO
theorem Uh {es:List (Int×V)}(C:c.Ok)(AE:AP l a (.list (es.map iO)))(hz:es.length<=sizeLine)(h:∀b,Q (.ref b) ((b,.AN (Rt [] es))::l)):Wn U w T c (λxs=>call (.type "dict") xs) [.ref a] r l Q X:=by k_with"o"=>exact(λs ys R rx=>by
 obtain⟨v,rfl,rv⟩:=rx.one;obtain rfl:=rv.AS;obtain⟨vs,n,e,AF⟩:=AE.ro R;have ha:=Am e;refine Ci (Ah _) (callType_codes (Q₁:=λobj s₁=>obj=.ref s.heap.objs.size/\s₁={s with heap:=s.heap.push {cls:=.type "dict",data:=.dict #[]}}) F.kt_called_dict (F.kt_typeCall_dict_1 _) F.entry_dict_init (kt_code_dict_new _ ⟨rfl,rfl⟩) ?_);rintro obj s₁ ⟨rfl,rfl⟩;have DQ:(s.heap.push {cls:=.type "dict",data:=.dict #[]}).DictOf (intKind U w) s.heap.objs.size []:=Heap.DictOf.new s.heap;refine⟨DQ.typeIs,F.args_dict_init_2 _ _,?_⟩;have e1:(s.heap.push {cls:=.type "dict",data:=.dict #[]}).get? a=some (seqObj "list" vs.toArray n):=Ad _ e;unfold Builtin.«dict.__init__»;refine wpAny_bind ?_;unfold Builtin.Dict.selfAndRest;refine wpAny_bind (wpAny_notOrdered_dict DQ.typeIs ?_);show wpAny _ _ (pure (s.heap.objs.size,[Value.ref a])) _ _ _;refine wpAny_pure ?_;show wpAny _ _ (Builtin.Dict.updateFrom "dict.__init__" s.heap.objs.size (.ref a) [] .none) _ _ _;unfold Builtin.Dict.updateFrom;refine wpAny_bind (wpAny_typeOf (T := "list") ⟨_,e1,rfl⟩ ?_);rw[if_pos (by decide)];refine wpAny_bind (xN (n:=n) (xs:=vs.toArray) C.handled e1 λh' tk k=>?_);rw[if_pos (by rfl)];refine wpAny_bind (wpAny_rule ?_);have hl:h'.IsList a vs.toArray:=⟨_,k _ _ e1,rfl,n,rfl⟩;refine wpAny_bind (wpAny_pyIter_list hl ?_);refine wpAny_pure ⟨plainId_quiet F.AR _,?_⟩;have kk:∀b o,s.heap.get? b=some o->h'.get? b=some o:=λb o g=>k b o (Ad _ g);have BJ:s.heap.objs.size<h'.objs.size:=Am (k _ _ (As _ rfl));have Z9:a<h'.objs.size:=Am (k _ _ e1);refine rS (U:=U) (w:=w) (A:=c.A.in1) (es:=es) (items:=vs.toArray) (ax:=a) (show c.A.in1.handled=none from C.handled) (By BJ) (Tc ha) (By Z9) (by rw[Az,<-AF.length,Ac]) es.length 0 _ [] 0 (by omega) (by omega) ?_ ?_ ?_ (by simpa using hz) λh2 PZ k2 hd=>?_
 ·exact⟨⟨_,As _ rfl,rfl,rfl⟩,hl.push _⟩
 ·obtain⟨o,A9,ep,g1,g2⟩:=DQ;exact⟨[],⟨o,A9,ep,Ad _ (k _ _ g1),g2⟩,rfl,.nil⟩
 ·exact AF.AD λb us g=>Ad _ (kk b _ g)
 ·refine⟨rfl,λz=>R.DI (x:=.AN (Rt [] es)) (.refl _ _) (λb o g=>k2 b o (By (Am g)) (By (Cv (Am g) (Fz BJ))) (Ad _ (kk b o g))) z (Ah _) hd (h _)⟩)
end
end
section
section
section
variable {R:Result->Shared->Prop}{I:Addr}{fp wr:List Addr}{P:Nat->Value->Prop}{St:Nat->Heap->Prop}
theorem uN (W:Walks U w A.in1 I fp wr n P St)(S:Addr)(QQ:S∉fp)(res:Value)(old:Array Value)(hn:old.size+n<=sizeLine) :
  ∀(k i:Nat) (s:Shared) (acc:Array Value) (c:Nat),n-i=k->i<=n->St i s.heap->s.heap.get? S=some (seqObj "list" (old++acc) c)->ItemsOf P acc i->
  (∀h' tk C0 c',(∀b o,b≠S->b∉wr->s.heap.get? b=some o->h'.get? b=some o)->h'.get? S=some (seqObj "list" (old++C0) c')->ItemsOf P C0 n->R (.ok (.ret res)) {s with heap:=h',toks:=tk})->
  codeAny (model U w) A (.builtin "list.extend.loop" ⟨[.ref S,.ref I,res],[]⟩) R s:=by k_with"o"=>
 have XJ:S∉wr:=λh=>QQ (W.sub _ h);intro k
 induction k with
 |zero=>
  intro i s acc c hk hi AM hS AL hR;have AE:i=n:=by omega
  subst AE;refine codeAny_builtin F.entry_extend_loop ?_;rw[Around.under_plainId F.plain_extend_loop _];show wpAny _ A.in1 (pyNext (.ref I) >>= _) _ _ s;refine wpAny_bind (W.done s _ _ AM λh' tk hm=>?_);exact wpAny_pure (hR h' tk acc c (λb o _ hb e=>hm b o hb e) (hm S _ XJ hS) AL)
 |succ k ih=>
  intro i s acc c hk hi AM hS AL hR;have AJ:i<n:=by omega
  refine codeAny_builtin F.entry_extend_loop ?_;rw[Around.under_plainId F.plain_extend_loop _];show wpAny _ A.in1 (pyNext (.ref I) >>= _) _ _ s;refine wpAny_bind (W.item i s _ _ AJ AM λv h' tk hP IX hm=>?_);have MV:=hm S _ XJ hS;obtain⟨c2,hg⟩:∃c2,(h'.update S (Obj.mapSeq (·.push v))).get? S=some (seqObj "list" (old++acc.push v) c2):=by rw[<-Array.push_append];exact⟨_,get?_update_seq MV (·.push v)⟩
  show wpAny _ A.in1 (updateSeq S (·.push v) >>= _) _ _ _;refine wpAny_bind ?_;refine wpAny_updateSeq (s:={s with heap:=h',toks:=tk}) MV rfl (wpAny_pure ⟨plainId_quiet F.plain_extend_loop _,ih (i+1) _ (acc.push v) c2 (by omega) AJ (W.frame _ h' _ IX λb hb o e=>?_) hg (AL.push hP) λh2 PZ C0 c' k2 UY O9=>?_⟩)
   (by rw[Yd,AL.1];omega) (by show((old++acc).push v).size<=sizeLine+1;rw[Nn,Yd,AL.1];omega)
  ·exact(Ff _ _ (λh:S=b=>QQ (by rw[h];exact hb))).trans e
  ·exact hR h2 PZ C0 c' (λb o b1 b2 e=>k2 b o b1 b2 ((Ff _ _ (Ne.symm b1)).trans (hm b o b2 e))) UY O9
end
end
section
theorem Rel.IP (R:Co U w T c s r l){l':Led}{x y:O}{tk:Nat}{ob:Obj}(k:A5 l a x y l')(e:∀b o,b≠a->s.heap.get? b=some o->h'.get? b=some o)(BP:h'.get? a=some ob)(z:s.heap.objs.size<=h'.objs.size)
  (hy:∀h1,A0 s.heap h1->h1.get? a=some ob->RO U w h1 a y) :
  Co U w T c {s with heap:=h',toks:=tk} r l'/\Step (c.own l) (c.own l') s.heap h':=by k_with"o"=>
 obtain⟨o0,h0,_⟩:=(R.led _ k.mem).at;have h1:(s.heap.update a λ_=>ob).get? a=some ob:=Bv (λ_=>ob) h0 (Heap.get?_some_iff.mp BP).2;obtain⟨R1,S1⟩:=R.put (tk:=tk) k (Bs.update s.heap a λ_=>ob) λev=>hy _ ev h1;have kk:∀b o,(s.heap.update a λ_=>ob).get? b=some o->h'.get? b=some o:=λb o g=>by
  by_cases hb:b=a
  ·subst hb;rw[h1] at g;injection g with g;subst g;exact BP
  ·rw[Ff _ _ (Ne.symm hb)] at g;exact e b o hb g
 exact⟨R1.grow (h':=h') (tk:=tk) kk (by rw[Du];exact z),S1.trans (Step.grow kk (by rw[Du];exact z))⟩
theorem kY (AE:AP l a (.list xs)):Vh U w T c r l (.ref a) "extend" (.builtin "list.extend"):=by k_with"o"=>exact(λs x pl P E R rx hp=>by cases rx;obtain⟨vs,n,e,rv⟩:=AE.ro R;exact getMethod_list_of F.slot_list_extend F.type_list_extend ⟨_,e,rfl,n,rfl⟩ ⟨_,e,rfl⟩ hp)
theorem cW {b:Addr}{i j k:Int}{l':Led}(C:c.Ok)(hp:A5 l a (.list xs) (.list (xs++El i k n)) l')(hb:AP l b (.AY i j k))(hs:Builtin.Range.small i j k=true)(hn:Builtin.Range.rangeSize i j k=n)(hlen:n<=2^24)(hz:xs.length+n<sizeLine)(h:Q .none l') :
  Wn U w T c (λxs=>call (.builtin "list.extend") xs) [.ref a,.ref b] r l Q X:=by k_with"o"=>exact(λs ys R rx=>by
 obtain⟨v,u,rfl,rv,ru⟩:=rx.two;obtain rfl:=rv.AS;obtain rfl:=ru.AS;obtain⟨vs,c₀,hS,AF⟩:=R.led _ hp.mem;obtain⟨t1,t2,t3,hr⟩:=hb.ro R;have cv:a≠b:=λe=>by rw[e,hr] at hS;simp at hS
 have UW:a<s.heap.objs.size:=Am hS;have UX:a≠s.heap.objs.size:=By UW;have QQ:a∉[s.heap.objs.size]:=λhm=>UX (Ae.mp hm);have W:=(Walks.range (prog:=U) (w:=w) (A:=c.A.in1) (show c.A.in1.handled=none from C.handled) s.heap.objs.size i k n);refine Ci (Ah _) ?_;refine wpAny_call (codeAny_call_builtin F.slot_list_extend.plain F.entry_list_extend (F.slot_list_extend.check _ _ _ _ _ _ _ _ ⟨_,hS,rfl⟩ (F.args_list_extend_2 _ _) ?_));show wpAny _ _ (Builtin.List.listExtendWith (.ref a) (.ref b) .none) _ _ _;have key:∀(h1:Heap) (c₁ tk:Nat),IsRangeIter h1 s.heap.objs.size (i+((0:Nat):Int)*k) ((n:Int)-((0:Nat):Int)) k->(∀b o,b≠a->s.heap.get? b=some o->h1.get? b=some o)->
   h1.get? a=some (seqObj "list" vs.toArray c₁)->∀Rz:Result->Shared->Prop,(∀h' tk C0 c',(∀b o,b≠a->s.heap.get? b=some o->h'.get? b=some o)->h'.get? a=some (seqObj "list" (vs.toArray++C0) c')->
    ItemsOf (λi' v=>∃t,v=.int (i+i'*k) t) C0 n->Rz (.ok (.ret .none)) {s with heap:=h',toks:=tk})->codeAny (model U w) c.A (.builtin "list.extend.loop" ⟨[.ref a,.ref s.heap.objs.size,.none],[]⟩) Rz {s with heap:=h1,toks:=tk}:=by
  intro h1 c₁ tk hit hk hS₁ Rz hR;refine uN W a QQ .none vs.toArray (by rw[Az,<-AF.length];exact Fz hz) n 0 _ #[] c₁ rfl (Ca _) hit (by simpa using hS₁) (ItemsOf.nil _) λh' M5 C0 c' k' MV AL=>?_;exact hR h' M5 C0 c' (λb o hb g=>k' b o hb (λq=>absurd (Am g) (by rw[Ae.mp q];exact Dv _)) (hk b o hb g)) MV AL
 unfold Builtin.List.listExtendWith;refine wpAny_bind (wpAny_typeOf (T := "range") ⟨_,hr,rfl⟩ ?_);have h1:Builtin.List.listSameRef (.ref a) (.ref b)=false:=by simp[Builtin.List.listSameRef,cv]
 have h2:(Value.type "range"== Value.type "list")=false:=by decide
 have h3:(Value.type "range"== Value.type "tuple")=false:=by decide
 simp only[h1,h2,h3,Bool.or_false,Bi,if_false];refine wpAny_bind (wpAny_pyIter_range hr hs ?_);refine wpAny_bind (wpAny_holding (wpAny_hint_range (n:=n) (Ad _ hr) hn hlen ?_));have hit₁:IsRangeIter (s.heap.push {cls:=.type "range_iterator",data:=.fields #[rawInt i,rawInt (Builtin.Range.rangeSize i j k),rawInt k]}) s.heap.objs.size (i+((0:Nat):Int)*k) ((n:Int)-((0:Nat):Int)) k:=by show IsRangeIter _ _ _ _ _;rw[hn];simpa using As _ rfl
 have hS₁:=Ad {cls:=.type "range_iterator",data:=.fields #[rawInt i,rawInt (Builtin.Range.rangeSize i j k),rawInt k]} hS;have fin:∀h' tk C0 c',(∀b o,b≠a->s.heap.get? b=some o->h'.get? b=some o)->h'.get? a=some (seqObj "list" (vs.toArray++C0) c')->ItemsOf (λi' v=>∃t,v=.int (i+i'*k) t) C0 n->
   s.heap.objs.size<=h'.objs.size->Lw U w T c (c.own l) s.heap r Q .none {s with heap:=h',toks:=tk}:=λh' tk C0 c' kk MV AL z=>by
  obtain⟨R',S'⟩:=Rel.IP (tk:=tk) R hp kk MV z λh1 ev g=>⟨vs++C0.toList,c',by rw[g];simp[seqObj],(AF.AD ev).append (Ow (P:=λi' v=>∃t,v=.int (i+i'*k) t) (by simpa[El] using AL) λi' v hi hv=>by
   obtain⟨t,rfl⟩:=hv;have D4:i'<n:=by simpa[El] using hi
   exact⟨.int (i+(i':Int)*k),by simp[El,D4],.int _ _⟩)⟩
  exact⟨.none,l',.none,R',S',h⟩
 refine wpAny_ite_split (λ_=>?_) (λ_=>wpAny_pure ⟨plainId_quiet F.plain_extend_loop _,key _ c₀ _ hit₁ (λb o _ e=>Ad _ e) hS₁ _ fin⟩);refine wpAny_bind (wpAny_rule ?_);refine wpAny_bind ?_;show wpAny _ _ (updateSeq a (·.push .none) >>= λ_=>updateSeq a (·.pop)) _ _ _;have R9:vs.toArray.size<=sizeLine:=by rw[Az,<-AF.length];omega
 refine wpAny_bind (wpAny_updateSeq hS₁ rfl ?_ R9 (by rw[Nn];omega));have hS₂:=Bv (Obj.mapSeq (·.push Value.none)) hS₁ rfl;refine wpAny_updateSeq hS₂ rfl ?_ (by rw[Nn,Az,<-AF.length];omega) (by rw[Array.size_pop,Nn];omega);have hS₃:=Bv (Obj.mapSeq (·.pop)) hS₂ rfl;refine wpAny_pure ⟨plainId_quiet F.plain_extend_loop _,key _ _ _ ?_ (λb o hb e=>?_) (by simpa[Obj.mapSeq,seqObj] using hS₃) _ fin⟩
 ·exact(Ff _ _ UX).trans ((Ff _ _ UX).trans hit₁)
 ·exact(Ff _ _ (Ne.symm hb)).trans ((Ff _ _ (Ne.symm hb)).trans (Ad _ e)))
end
end
theorem Zr {es:List (Int×V)}(AE:AP l a (.AN es)):Vh U w T c r l (.ref a) "setdefault" (.builtin "dict.setdefault"):=by k_with"o"=>exact(λs y pl P E R rx hp=>by obtain rfl:=rx.AS;obtain⟨kvs,⟨o,_,_,e,hc,_⟩,_⟩:=AE.ro R;exact getMethod_builtin ⟨o,e,hc.1⟩ PySem.F.plainAttrs_dict PySem.F.slot_dict_setdefault PySem.F.type_dict_setdefault (λb q=>by injection q with q;subst q;exact⟨o,e,hc.2.1⟩) hp)
theorem Zl {es:List (Int×V)}{k:Int}{l':Led}(TO:T.Ok U w)(hp:A5 l a (.AN es) (.AN (Fy es k d)) l')(hz:es.length<=sizeLine)
  (h:match Ey es k with|some d'=>Q d' l|none=>Q d l'):Wn U w T c (λxs=>call (.builtin "dict.setdefault") xs) [.ref a,.int k,d] r l Q X:=by k_with"o"=>exact(λs xs R rx=>by
 obtain⟨v,u,x,rfl,rv,ru,r3⟩:=rx.three;obtain rfl:=rv.AS;obtain⟨t,rfl⟩:=ru.intAt;obtain⟨kvs,hd,hk,AF⟩:=R.led _ hp.mem;have G':(kvs.map (·.1)).Nodup:=by obtain⟨_,_,_,_,_,_,_,_,hn⟩:=hd;exact hn
 have hl:kvs.length=es.length:=by rw[<-Ac (f:=(·.1)),hk,Ac]
 refine call_meetsIn PySem.F.slot_dict_setdefault hd.typeIs PySem.F.entry_dict_setdefault (PySem.F.args_dict_setdefault_3 _ _ _) (kt_meets_setdefault (intKind U w) a dS (TO.BD (R.apart _ (Em hp.mem))) x) ⟨kvs,hd,by rw[hl];exact hz,λv hv=>?_,λhn h' CM hs=>?_⟩
 ·rw[Mb] at hv;rcases Tp k hk AF with⟨e1,e2⟩|⟨d',v',e1,e2,G5⟩
  ·rw[e2] at hv;cases hv
  ·rw[e2] at hv;injection hv with hv;subst hv;rw[e1] at h;exact Lw.mk _ l G5 (R.tok _) (.refl _ _) h
 ·rw[Mb] at hn;rcases Tp k hk AF with⟨e1,e2⟩|⟨d',v',e1,e2,G5⟩
  ·rw[e1] at h;rw[Xc G'] at CM;obtain⟨R',S'⟩:=R.put (tk:=s.toks+1) hp hs λev=>⟨_,CM,Xp k _ _ hk,Xo k hk (AF.AD ev) (r3.AD ev)⟩;have ev:A0 s.heap h':=A0.of_same hs λvs g=>by obtain⟨o,_,_,e,_,JE,_⟩:=hd;rw[e] at g;injection g with g;subst g;simp[Fs] at JE
   exact⟨d,l',r3.AD ev,R',S',h⟩
  ·rw[e2] at hn;cases hn)
abbrev ER:Int->Prop:=λ_=>False
theorem Exc.no {tr:Bool}{x:Value}{s':Shared}(e:Exc U w T outer own h0 tr ER x s'):False:=by k_with"o"=>exact(let ⟨_,_,_,h,_⟩:=e.FI;h)
noncomputable def Kh (ifs:List Expr)(env:Env):Sem Bool:=forIn ifs true λc r=>if r=true then do let ok <-isTrue c env (eval c env);pure (ForInStep.yield ok) else pure (ForInStep.yield r)
def Mg (U:Program)(w:World)(T:Ez)(c:Ctx)(ifs:List Expr)(r:Rg)(l:Led)(Q:Bool->Led->Prop):Prop:=
 ∀s,Co U w T c s r l->wpAny (model U w) c.A (Kh ifs c.env) (kX U w T c (c.own l) s.heap r Q) (λ_ _=>False) s
theorem Gx {Q:Bool->Led->Prop}(h:Q true l):Mg U w T c [] r l Q:=by k_with"o"=>exact(λs R=>wpAny_tests_nil ⟨l,R,.refl _ _,h⟩)
theorem Rn {t:Expr}{Q:Bool->Led->Prop}(h:Wb U w T c t r l Q ER):Mg U w T c [t] r l Q:=by k_with"o"=>exact(λs R=>wpAny_tests_one (wpAny_mono (h s R) (λ_ _ q=>q) λ_ _ e=>e.no))
def G3 (U:Program)(w:World)(T:Ez)(c:Ctx)(t:Sem Unit)(r:Rg)(l:Led)(Q:Rg->Led->Prop):Prop:=
 ∀s,Co U w T c s r l->wpAny (model U w) c.A t (λ_=>Wv U w T c (c.own l) s.heap Q) (λ_ _=>False) s
noncomputable def Ft (elt:Expr)(acc:Value)(env:Env):Sem Unit:=do let _ <-call (.builtin "list.append") [acc,<-eval elt env]
theorem eK {D:Addr}{elt:Expr}{Q:Rg->Led->Prop}
  (h:We U w T c elt r l (λd l1=>∃xs l2,A5 l1 D (.list xs) (.list (xs++[d])) l2/\xs.length<=sizeLine/\Q r l2) ER):G3 U w T c (Ft elt (.ref D) c.env) r l Q:=by k_with"o"=>exact(λs R=>
 wpAny_bind (wpAny_mono (h s R) (λv s1 ⟨d,l1,rv,R1,S1,xs,l2,hp,hz,q⟩=>
  wpAny_bind (wpAny_mono (Xw (Q:=λ_ l3=>Q r l3) (X:=ER) hp hz q s1 [.ref D,v] R1 (.cons (.ref D) (.cons rv .nil)))
   (λ_ _ ⟨_,l3,_,R3,S3,q3⟩=>wpAny_pure ⟨r,l3,R3,S1.trans S3,q3⟩) λ_ _ e=>e.no)) λ_ _ e=>e.no))
def Fx (ext:List (Addr×Obj))(l:Led):Prop:=∀p∈ext,(∃vs,p.2=Fs vs)\/∃x,(p.1,.fz p.2 x)∈l
theorem eD {I:Addr}{wr:List Addr}{ext:List (Addr×Obj)}{St:Nat->Heap->Prop}(C:c.Ok)(W:G4 U w c.A I wr ext h0 ds St)
  {elt:Expr} {gens:List Comprehension} {depth:Nat} {acc:Value} {p:Pos} {emit:Sem Unit}
  (F3:compTurn (.ListComp elt gens scope pos) depth (.ref I) acc c.env=(do
   standAt p
   match <-pyNext (.ref I) with
   |none=>pure (.done .next)
   |some v=>
    letOwnedTupleGo target (.ref I) v
    assign target c.env v
    let ok <-Kh ifs c.env
    if ok then emit
    again (.compLoop (.ListComp elt gens scope pos) depth (.ref I) acc c.env)))
  (LO:∀i r l,J i r l->Fx ext l)
  (turn:∀i d r l,ds[i]?=some d->J i r l->Wa U w T c target d r l (λr1 l1=>Mg U w T c ifs r1 l1 (λb l2=>if b then G3 U w T c emit r1 l2 (λr3 l3=>J (i+1) r3 l3) else J (i+1) r1 l2)) ER) {hs:Heap} (R:Co U w T c s r l) (hJ:J 0 r l) (AM:St 0 s.heap) (AU:∀b∈wr,(hs.objs.size<=b\/b∈own0)/\b∉c.own l/\T.B.objs.size<=b) (S0:Step own0 (c.own l) hs s.heap) (EA:A0 h0 s.heap) :
  codeAny (model U w) c.A (.compLoop (.ListComp elt gens scope pos) depth (.ref I) acc c.env) (λr s'=>match r with | .ok f=>f=.next/\∃r' l',Co U w T c s' r' l'/\Step own0 (c.own l') hs s'.heap/\J ds.length r' l'/\∀b∈wr,b∉c.own l' | .error _=>False) s:=by k_with"o"=>
 refine codeAny_loop rfl (λn s=>∃i r l,n=ds.length-i/\i<=ds.length/\Co U w T c s r l/\J i r l/\St i s.heap/\(∀b∈wr,(hs.objs.size<=b\/b∈own0)/\b∉c.own l/\T.B.objs.size<=b)/\Step own0 (c.own l) hs s.heap/\A0 h0 s.heap) ?_ _
  ⟨0,r,l,rfl,Ca _,R,hJ,AM,AU,S0,EA⟩
 rintro n s ⟨i,r,l,rfl,hi,R,hJ,AM,AU,S0,EA⟩;show wpAny _ c.A ((compTurn (.ListComp elt gens scope pos) depth (.ref I) acc c.env).onRaise (λx=>do noteFrame x c.env;theTreesLotGoes x)) _ _ s;refine wpAny_noted ?_;rw[F3];refine wpAny_bind (wpAny_standAt (wpAny_bind ?_));have moved:∀{h':Heap} {tk:Nat},s.heap.objs.size<=h'.objs.size->(∀b o,b∉wr->s.heap.get? b=some o->h'.get? b=some o)->Co U w T c {s with heap:=h',toks:=tk} r l/\A0 s.heap h'/\Step own0 (c.own l) hs h':=λ{h' tk} z hk=>by obtain⟨R1,E1⟩:=R.other (tk:=tk) (λb hb=>⟨(AU b hb).2.1,(AU b hb).2.2,W.live _ _ AM b hb⟩) hk z;refine⟨R1,E1,⟨λb o e n=>?_,S0.fresh,Aa S0.size z⟩⟩;obtain⟨o',e',s'⟩:=S0.kept b o e n;exact⟨o',hk b o' (λq=>(AU b q).1.elim (λz=>absurd (Am e) (Bh.mpr z)) n) e',s'⟩
 by_cases AJ:i<ds.length
 ·obtain⟨d,hd⟩:∃d,ds[i]?=some d:=⟨_,Cs AJ⟩;refine Ci (Ah _) (W.item i d s _ _ hd AM EA λv h1 HE rv DT DZ z1=>?_);obtain⟨R1,E1,S1⟩:=moved (tk:=HE) z1 DZ;refine wpAny_bind (W.go i _ target v _ _ DT ?_);have CE:∀{BC E4:List Addr} {ha hb:Heap} {k:Nat},Step BC E4 ha hb->St k ha->(∀b∈wr,b∉BC)->∀b∈wr,∀o,ha.get? b=some o->hb.get? b=some o:=λS st n b hb o e=>by obtain⟨o',e',s'⟩:=S.kept b o e (n b hb);obtain⟨o2,q1,_,q3⟩:=W.live _ _ st b hb;rw[e] at q1;injection q1 with q1;subst q1;rw[e',s'.eq q3]
  have D3:∀{r1:Rg} {l1:Led} {ha hb:Heap} {sb:Shared},sb.heap=hb->Co U w T c sb r1 l1->A0 ha hb->(∀p∈ext,ha.get? p.1=some p.2)->Fx ext l1->∀p∈ext,hb.get? p.1=some p.2:=λhs Rb E q1 q2 p hp=>by
   rcases q2 p hp with⟨vs,e⟩|⟨x,e⟩
   ·have:=q1 p hp;rw[e] at this ⊢;exact E _ _ this
   ·rw[<-hs];exact(Rb.led _ e).1
  have PF:∀p∈ext,h1.get? p.1=some p.2:=λp hp=>W.ext _ _ DT p hp;have HP:∀{r3:Rg} {l3:Led} {s3:Shared},Co U w T c s3 r3 l3->Step (c.own l) (c.own l3) h1 s3.heap->J (i+1) r3 l3->∃m,m<ds.length-i/\∃i' r l,m=ds.length-i'/\i'<=ds.length/\Co U w T c s3 r l/\J i' r l/\St i' s3.heap/\(∀b∈wr,(hs.objs.size<=b\/b∈own0)/\b∉c.own l/\T.B.objs.size<=b)/\Step own0 (c.own l) hs s3.heap/\A0 h0 s3.heap:=λ{r3 l3 s3} R3 S3 hj=>by
   have E3:A0 h1 s3.heap:=R1.AD S3;refine⟨ds.length-(i+1),by omega,i+1,r3,l3,rfl,AJ,R3,hj,?_,λb hb=>⟨(AU b hb).1,λq=>?_,(AU b hb).2.2⟩,S1.trans S3,(EA.trans E1).trans E3⟩
   ·exact W.frame _ _ _ DT (CE S3 DT λb hb=>(AU b hb).2.1) (D3 rfl R3 E3 PF (LO _ _ _ hj))
   ·rcases S3.fresh b q with z|z
    ·exact(AU b hb).2.1 z
    ·obtain⟨o,e,_⟩:=W.live _ _ DT b hb;exact absurd (Am e) (Bh.mpr z)
  refine wpAny_bind (wpAny_mono (turn i d r l hd hJ _ v R1 (rv.AD E1)) (λ_ s2 ⟨r2,l2,R2,S2,hb⟩=>?_) λx s2 e=>e.no.elim);refine wpAny_bind (wpAny_mono (hb s2 R2) (λok s3 ⟨l3,R3,S3,q⟩=>?_) λx s3 e=>e.elim);cases ok with
  |false=>exact wpAny_bind (wpAny_pure (wpAny_pure ⟨rfl,HP R3 (S2.trans S3) q⟩))
  |true=>exact wpAny_bind (wpAny_mono (q s3 R3) (λ_ s4 ⟨r4,l4,R4,S4,q4⟩=>wpAny_pure ⟨rfl,HP R4 ((S2.trans S3).trans S4) q4⟩) λx s4 e=>e.elim)
 ·have AE:i=ds.length:=by omega
  subst AE;refine Ci (Ah _) (W.done s _ _ AM λh1 HE DZ z1=>?_);obtain⟨R1,E1,S1⟩:=moved (tk:=HE) z1 DZ;exact wpAny_pure ⟨rfl,r,l,R1,S1,hJ,λb hb=>(AU b hb).2.1⟩
noncomputable def Ea (cl:List (Str×Addr)):List (Str×NameKind)->List Nm
 |[]=>[]
 |(x,.local)::r=>.loc x::Ea cl r
 |(x,.free)::r=>.cell x ((cl.lookup x).getD 0)::Ea cl r
 |_::r=>Ea cl r
noncomputable def Dl (c:Ctx)(scope:Scope)(cl:List (Str×Addr))(C:Addr):Ctx:=
 {env:=compEnvC scope cl C c.env,A:=c.A,outer:=c.outer,names:=Ea cl scope.names,cls:=.type "dict",lev:=c.lev}
inductive Jy:List Nm->Rg->Addr->V->Prop
 |here {y a d ns r:_}:Jy (.cell y a::ns) (some d::r) a d
 |there {n ns o r a d:_}:Jy ns r a d->Jy (n::ns) (o::r) a d
inductive Ld (ns:List Nm)(r:Rg):List Nm->Rg->Prop
 |nil:Ld ns r [] []
 |loc {x o ms q:_}:Ld ns r ms q->Ld ns r (.loc x::ms) (o::q)
 |cell {x a d ms q:_}:Jy ns r a d->Ld ns r ms q->Ld ns r (.cell x a::ms) (some d::q)
inductive Ie (ns:List Nm)(r:Rg):List Nm->Rg->Prop
 |nil:Ie ns r [] []
 |loc {x ms q:_}:Ie ns r ms q->Ie ns r (.loc x::ms) (none::q)
 |cell {x a d ms q:_}:Jy ns r a d->Ie ns r ms q->Ie ns r (.cell x a::ms) (some d::q)
theorem Ie.toR {ms:List Nm}{q:Rg}(h:Ie ns r ms q):Ld ns r ms q:=by k_with"o"=>
 induction h with
 |nil=>exact .nil
 |loc _ ih=>exact .loc ih
 |cell a _ ih=>exact .cell a ih
theorem Jy.at (k:Jy ns r a d)(R:Lv h m ns r):a∈ns.filterMap Nm.cellOf/\∃v,h.IsCell a (some v)/\RV h d v:=by k_with"o"=>
 induction k with
 |here=>exact⟨.head _,R.inv.1⟩
 |there k ih=>
  have ih:=ih R.inv.2;refine⟨?_,ih.2⟩;rw[Ce];split
  ·exact ih.1
  ·exact .tail _ ih.1
theorem Jy.mem (k:Jy ns r a d):a∈ns.filterMap Nm.cellOf:=by k_with"o"=>
 induction k with
 |here=>exact .head _
 |there _ ih=>
  rw[Ce];split
  ·exact ih
  ·exact .tail _ ih
theorem Jy.inv {n:Nm}{o:Option V}(k:Jy (n::ns) (o::r) a d):(Nm.cellOf n=some a/\o=some d)\/Jy ns r a d:=by k_with"o"=>
 cases k with
 |here=>exact .inl ⟨rfl,rfl⟩
 |there k=>exact .inr k
theorem Jy.uniq {d':V}(nd:(ns.filterMap Nm.cellOf).Nodup)(h:Jy ns r a d)(h':Jy ns r a d'):d=d':=by k_with"o"=>
 induction h with
 |here=>
  rw[Ce] at nd;rcases h'.inv with e|k
  ·exact Gq.inj e.2
  ·exact absurd k.mem (Ap.mp nd).1
 |@there n _ _ _ _ _ k ih=>
  rw[Ce] at nd;rcases h'.inv with e|k'
  ·rw[e.1] at nd;exact absurd k.mem (Ap.mp nd).1
  ·refine ih ?_ k';split at nd
   ·exact nd
   ·exact(Ap.mp nd).2
theorem Ld.cells (R:Lv h m ns r){ms:List Nm}{q:Rg}(k:Ld ns r ms q):∀a∈ms.filterMap Nm.cellOf,a∈ns.filterMap Nm.cellOf:=by k_with"o"=>
 induction k with
 |nil=>exact λa ha=>(nomatch ha)
 |loc _ ih=>exact ih
 |cell y _ ih=>
  intro a ha;rcases Ag.mp ha with e|e
  ·rw[e];exact(y.at R).1
  ·exact ih a e
theorem Ie.Q7 {m':Str->Option Value}(R:Lv h m ns r)(E:A0 h h')(hm:∀x,m' x=none)(hc:∀a v,a∈ns.filterMap Nm.cellOf->h.IsCell a v->h'.IsCell a v){ms:List Nm}{q:Rg}(k:Ie ns r ms q):Lv h' m' ms q:=by k_with"o"=>
 induction k with
 |nil=>exact .nil
 |loc _ ih=>exact .cons (hm _) ih
 |cell y _ ih=>obtain⟨h1,v,h2,h3⟩:=y.at R;exact .cons ⟨v,hc _ _ h1 h2,h3.AD E⟩ ih
theorem Ld.back {m':Str->Option Value}{ms:List Nm}{q:Rg}(k:Ld ns r ms q)(R:Lv h' m' ms q):∀a∈ms.filterMap Nm.cellOf,∃d,Jy ns r a d/\∃v,h'.IsCell a (some v)/\RV h' d v:=by k_with"o"=>
 induction k with
 |nil=>exact λa ha=>(nomatch ha)
 |loc _ ih=>exact ih R.inv.2
 |cell y _ ih=>
  intro a ha;rcases Ag.mp ha with e|e
  ·rw[e];exact⟨_,y,R.inv.1⟩
  ·exact ih R.inv.2 a e
theorem Lb:a∈(Dl c scope cl C).own l↔a=C\/a∈(Ea cl scope.names).filterMap Nm.cellOf\/a∈l.map (·.1):=by k_with"o"=>unfold Ctx.own;simp only[Ag,Ao];exact Iff.rfl
theorem Oy:a∈c.own l↔a=c.env.locals\/a∈c.names.filterMap Nm.cellOf\/a∈l.map (·.1):=by k_with"o"=>unfold Ctx.own;simp only[Ag,Ao]
theorem Rel.comp (R:Co U w T c s r l){tk:Nat}{r0:Rg}(hC:s.heap.objs.size<=C)(hn:h'.Ns C λ_=>none)(ho:∃o,h'.get? C=some o/\o.cls=.type "dict")
  (k:∀b o,s.heap.get? b=some o->h'.get? b=some o) (z:s.heap.objs.size<=h'.objs.size) (rc:Ie c.names r (Ea cl scope.names) r0) (nd:((Ea cl scope.names).filterMap Nm.cellOf).Nodup) :
  Co U w T (Dl c scope cl C) {s with heap:=h',toks:=tk} r0 l:=by k_with"o"=>
 have R1:=R.grow (h':=h') (tk:=tk) k z;obtain⟨m,o,h1,h2,h3,h4⟩:=R.vars;have sub:=rc.toR.cells h4;have RI:∀a∈(Ea cl scope.names).filterMap Nm.cellOf,a∉l.map (·.1):=λa ha q=>by obtain⟨p,hp,e⟩:=Af.mp q;exact R.A3 hp (sub a ha) e
 have LY:∀a∈c.own l,a≠C:=λa ha e=>absurd (R.live a ha) (Bh.mpr (e▸hC));refine⟨R1.AH,R1.frames,?_,R1.led,?_,λa ha=>?_⟩
 ·obtain⟨o',e1,e2⟩:=ho;exact⟨_,o',hn,e1,e2,rc.Q7 h4 (λb vs e=>k _ _ e) (λ_=>rfl) λa v _ q=>q.keeps k⟩
 ·refine Ap.mpr ⟨λq=>?_,Cd.mpr ⟨nd,R.BF,λa ha b hb e=>RI a ha (e▸hb)⟩⟩;rcases Ao.mp q with q|q
  ·exact LY _ (Hv (sub _ q)) rfl
  ·obtain⟨p,hp,e⟩:=Af.mp q;exact LY _ (Em hp) e
 ·rcases Lb.mp ha with e|e|e
  ·rw[e];exact Aa R.AH.room hC
  ·exact R.apart _ (Hv (sub _ e))
  ·obtain⟨p,hp,rfl⟩:=Af.mp e;exact R.apart _ (Em hp)
theorem Lv.all {m':Str->Option Value}(R:Lv h m ns r)(hm:∀x,m' x=m x)(E:A0 h h')(hc:∀a d,Jy ns r a d->∃v,h'.IsCell a (some v)/\RV h' d v)
  (hn:∀a,a∈ns.filterMap Nm.cellOf->h.IsCell a none->h'.IsCell a none):Lv h' m' ns r:=by k_with"o"=>
 induction R with
 |nil=>exact .nil
 |@cons n x ns r p q ih=>
  refine .cons ?_ (ih (λa d k=>hc a d (.there k)) λa ha k=>hn a (by rw[Ce];split;exact ha;exact .tail _ ha) k);cases n with
  |loc y=>
   cases x with
   |none=>exact(hm y).trans p
   |some d=>obtain⟨v,e,rv⟩:=p;exact⟨v,(hm y).trans e,rv.AD E⟩
  |cell y a=>
   cases x with
   |none=>exact hn a (.head _) p
   |some d=>exact hc a d .here
  |JZ=>trivial
theorem Heap.IsCell.uniq {u v:Option Value}(x:h.IsCell a u)(y:h.IsCell a v):u=v:=by k_with"o"=>obtain⟨o,e1,e2⟩:=x;obtain⟨o',e3,e4⟩:=y;rw[e1] at e3;injection e3 with e3;subst e3;rw[e2] at e4;injection e4
theorem Rel.KD (R:Co U w T c s r l){r':Rg}{l':Led}{s':Shared}(hC:s.heap.objs.size<=C)(R':Co U w T (Dl c scope cl C) s' r' l')
  {ex:List Addr} (hex:∀b∈ex,b∉c.own l) (UC:∀b∈ex,b∉(Dl c scope cl C).own l')
  (S:Step (ex++(Dl c scope cl C).own l) ((Dl c scope cl C).own l') s.heap s'.heap) (rc:Ld c.names r (Ea cl scope.names) r') (E:A0 s.heap s'.heap) :
  Co U w T c s' r l'/\Step (ex++c.own l) (c.own l') s.heap s'.heap/\C∉c.own l':=by k_with"o"=>
 obtain⟨m,o,h1,h2,h3,h4⟩:=R.vars;obtain⟨m',o',g1,g2,g3,g4⟩:=R'.vars;have sub:=rc.cells h4;have LY:∀a∈c.own l,a≠C:=λa ha e=>absurd (R.live a ha) (Bh.mpr (e▸hC));have RS:∀p∈l',p.1≠C/\p.1∉(Ea cl scope.names).filterMap Nm.cellOf:=λp hp=>by refine⟨R'.B8 hp,λq=>R'.A3 hp q rfl⟩
 have JO:∀p∈l',p.1∈l.map (·.1)\/s.heap.objs.size<=p.1:=λp hp=>by
  rcases S.fresh p.1 (Em hp) with q|q
  ·rcases Ao.mp q with q|q
   ·exact(UC _ q (Em hp)).elim
   rcases Lb.mp q with e|e|e
   ·exact((RS p hp).1 e).elim
   ·exact((RS p hp).2 e).elim
   ·exact .inl e
  ·exact .inr q
 have K:Kept (ex++c.own l) s.heap s'.heap:=λb ob e n=>S.kept b ob e λq=>by
  rcases Ao.mp q with q|q
  ·exact n (Al _ q)
  rcases Lb.mp q with e'|e'|e'
  ·exact absurd (Am e) (Bh.mpr (e'▸hC))
  ·exact n (Aq _ (Hv (sub b e')))
  ·exact n (Aq _ (Oy.mpr (.inr (.inr e'))))
 have V5:=R.DM;have nL:c.env.locals∉ex++(Dl c scope cl C).own l:=λq=>by
  rcases Ao.mp q with q|q
  ·exact hex _ q (Sd c l)
  rcases Lb.mp q with e|e|e
  ·exact LY _ (Sd c l) e
  ·exact R.BS (sub _ e) rfl
  ·obtain⟨p,hp,e⟩:=Af.mp e;exact R.B8 hp e
 have FJ:∀a v,a∈c.names.filterMap Nm.cellOf->a∉(Ea cl scope.names).filterMap Nm.cellOf->s.heap.IsCell a v->s'.heap.IsCell a v:=λa v ha hn q=>by
  obtain⟨oc,e1,e2⟩:=q;obtain⟨o2,e3,e4⟩:=S.kept a oc e1 λq=>by
   rcases Ao.mp q with q|q
   ·exact hex _ q (Hv ha)
   rcases Lb.mp q with e|e|e
   ·exact LY _ (Hv ha) e
   ·exact hn e
   ·obtain⟨p,hp,e⟩:=Af.mp e;exact R.A3 hp ha e
  exact⟨o2,e3,e4.data.trans e2⟩
 refine⟨⟨R'.AH,R'.frames,?_,R'.led,?_,λa ha=>?_⟩,⟨K,λa ha=>?_,S.size⟩,λq=>?_⟩
 ·obtain⟨o2,e1,e2⟩:=S.kept _ o h2 nL;obtain⟨o3,es,ep,e3,e4,e5⟩:=h1;rw[h2] at e3;injection e3 with e3;subst e3;refine⟨m,o2,⟨o2,es,ep,e1,e2.data.trans e4,e5⟩,e1,e2.cls.trans h3,h4.all (λ_=>rfl) E (λa d k=>?_) λa ha q=>?_⟩
  ·by_cases AE:a∈(Ea cl scope.names).filterMap Nm.cellOf
   ·obtain⟨d',k',v,q1,q2⟩:=rc.back g4 a AE;rw[Jy.uniq V5 k k'];exact⟨v,q1,q2⟩
   ·obtain⟨ha,v,q1,q2⟩:=k.at h4;exact⟨v,FJ a _ ha AE q1,q2.AD E⟩
  ·by_cases AE:a∈(Ea cl scope.names).filterMap Nm.cellOf
   ·obtain⟨d',k',_⟩:=rc.back g4 a AE;obtain⟨_,v,q1,_⟩:=k'.at h4;have:=Heap.IsCell.uniq q1 q;cases this
   ·exact FJ a _ ha AE q
 ·have AJ:∀a,a=c.env.locals\/a∈c.names.filterMap Nm.cellOf->∀p∈l',p.1≠a:=λa ha p hp e=>by
   rcases JO p hp with q|q
   ·obtain⟨p2,EF,e2⟩:=Af.mp q;rcases ha with ha|ha
    ·exact R.B8 EF (e2.trans (e.trans ha))
    ·exact R.A3 EF ha (e2.trans e)
   ·have:=R.live a (Oy.mpr (ha.imp id .inl));exact absurd this (Bh.mpr (e▸q))
  refine Ap.mpr ⟨λq=>?_,Cd.mpr ⟨V5,R'.BF,λa ha b hb e=>?_⟩⟩
  ·rcases Ao.mp q with q|q
   ·exact R.BS q rfl
   ·obtain⟨p,hp,e⟩:=Af.mp q;exact AJ _ (.inl rfl) p hp e
  ·obtain⟨p,hp,e'⟩:=Af.mp hb;exact AJ a (.inr ha) p hp (e'.trans e.symm)
 ·rcases Oy.mp ha with e|e|e
  ·rw[e];exact R.apart _ (Sd c l)
  ·exact R.apart _ (Hv e)
  ·obtain⟨p,hp,rfl⟩:=Af.mp e;exact R'.apart _ (Em hp)
 ·rcases Oy.mp ha with e|e|e
  ·exact .inl (Aq _ (Oy.mpr (.inl e)))
  ·exact .inl (Aq _ (Hv e))
  ·obtain⟨p,hp,rfl⟩:=Af.mp e;exact(JO p hp).imp (λq=>Aq _ (Oy.mpr (.inr (.inr q)))) id
 ·rcases Oy.mp q with e|e|e
  ·exact LY _ (Sd c l) e.symm
  ·exact LY _ (Hv (l:=l) e) rfl
  ·obtain⟨p,hp,e⟩:=Af.mp e;exact(RS p hp).1 e
theorem Step.HC {o1 o2 o3 ex:List Addr}{h1 h2 h3:Heap}(x:Step o1 o2 h1 h2)(y:Step (ex++o2) o3 h2 h3)(he:∀b∈ex,h1.objs.size<=b):Step o1 o3 h1 h3 where
 kept b o e n:=by
  obtain⟨o',e',s'⟩:=x.kept b o e n;obtain⟨KP,PG,C3⟩:=y.kept b o' e' λm=>by
   rcases Ao.mp m with m|m
   ·exact absurd (Am e) (Bh.mpr (he b m))
   ·exact(x.fresh b m).elim n λq=>absurd (Am e) (Bh.mpr q)
  exact⟨KP,PG,s'.trans C3⟩
 fresh a m:=by
  rcases y.fresh a m with q|q
  ·rcases Ao.mp q with q|q
   ·exact .inr (he a q)
   ·exact x.fresh a q
  ·exact .inr (Aa x.size q)
 size:=Aa x.size y.size
theorem fP {globals:Addr}{closure:List (Str×Addr)}{qual:Str}{env:Env}{Q:Env->Shared->Prop}(hc:∀x∈scope.names,x.2≠.cell)
  (h:Q {scope,locals:=s.heap.objs.size,globals,cells:=closure,qual,func:=none,code:=env.code,frame:=env.frame,builtins:=env.builtins} {s with heap:=s.heap.push {cls:=.type "dict",data:=.dict #[]}}) :
  wpAny M A (newFunctionEnv scope globals closure [] qual none .none (some env)) Q E s:=by k_with"o"=>
 simp only[newFunctionEnv,Option.isSome_some,if_true];refine wpAny_bind (wpAny_alloc ?_);rw[forIn_yield_id closure (λx hx c=>by
  obtain⟨name,kind⟩:=x;have:(kind==NameKind.cell)=false:=by simpa using hc _ hx
  simp only[this,Bi,if_false])]
 refine wpAny_bind (wpAny_pure (wpAny_bind ?_));exact wpAny_pure (wpAny_pure h)
structure Rr (c:Ctx)(scope:Scope)(cl:List (Str×Addr)):Prop where
 U6:closureFor scope c.env=pure cl
 kind:scope.kind=.function
 cell:∀y∈scope.names,y.2≠.cell
 names:∀x∈scope.names,x.2=.local->scope.names.lookup x.1=some .local
 nms:∀C,∀n∈Ea cl scope.names,zH (compEnvC scope cl C c.env) n
 locs:((Ea cl scope.names).filterMap Nm.nameOf).Nodup
 cells:((Ea cl scope.names).filterMap Nm.cellOf).Nodup
theorem nA (CO:c.Ok)(K:Rr c scope cl)(hC:mainGlobals<C):(Dl c scope cl C).Ok where
 frames:=CO.frames
 handled:=CO.handled
 depth:=CO.depth
 units:=CO.units
 kind:=K.kind
 globals:=CO.globals
 builtins:=CO.builtins
 nms:=K.nms C
 locs:=K.locs
 JN:=λe=>by have e:C=c.env.globals:=e;rw[CO.globals] at e;exact Dv _ (e▸hC)
 head:=CO.head
theorem Ug {elt:Expr}{gens:List Comprehension}{depth:Nat}{I:Addr}{acc:Value}{env:Env}{R:Result->Shared->Prop}{g:Comprehension}(hg:gens[depth]?=some g)(ha:g.is_async=0)
  (NX:∀(Q:Value->Shared->Prop) (E:Value->Shared->Prop),Q (.ref I) s->wpAny (model U w) A (pyIter (.ref I)) Q E s)
  (h0:codeAny (model U w) A (.compLoop (.ListComp elt gens scope pos) depth (.ref I) acc env) R s) :
  codeAny (model U w) A (.compStart (.ListComp elt gens scope pos) depth (.ref I) acc env) R s:=by k_with"o"=>
 refine codeAny_of_tree ?_;show wpAny _ _ ((compStart (.ListComp elt gens scope pos) depth (.ref I) acc env).onRaise (λx=>do noteFrame x env;standAt theWindowsPlace)) _ _ s;refine wpAny_notedAt ?_;unfold compStart;have e:clausesOf (.ListComp elt gens scope pos)=gens:=rfl;have e1:(g.is_async != 0)=false:=by rw[ha];rfl
 simp only[e,hg,Option.elim_some,e1,Bi,if_false];refine wpAny_bind (wpAny_askSetting ?_);split
 ·exact wpAny_pure (And.intro rfl h0)
 ·refine wpAny_bind (wpAny_rule ?_);exact wpAny_bind (wpAny_standAt (wpAny_bind (NX _ _ (wpAny_pure (And.intro rfl h0)))))
structure Ww (U:Program)(w:World)(T:Ez)(c:Ctx)(own0:List Addr)(hs:Heap)(r:Rg)(l':Led)(C:Addr)(s':Shared):Prop where
 rel:Co U w T c s' r l'
 step:Step own0 (c.own l') hs s'.heap
 ns:∃m,s'.heap.Ns C m
 out:C∉c.own l'
 low:T.B.objs.size<=C
 new:hs.objs.size<=C
 obj:∃o,s'.heap.get? C=some o/\o.cls=.type "dict"
theorem Ww.close {hs:Heap}{l':Led}{s':Shared}(e:Ww U w T c own0 hs r l' C s')(S:Bs C s'.heap h'):Co U w T c {s' with heap:=h'} r l'/\Step own0 (c.own l') hs h'/\A0 s'.heap h':=by k_with"o"=>
 obtain⟨o,ho,hc⟩:=e.obj;have z:s'.heap.objs.size<=h'.objs.size:=Ef S.1.symm;have k:∀b ob,b∉[C]->s'.heap.get? b=some ob->h'.get? b=some ob:=λb ob hb q=>by rw[S.2 b λe=>hb (by rw[e];exact Ae.mpr rfl)];exact q
 obtain⟨R1,E1⟩:=e.rel.other (tk:=s'.toks) (wr:=[C]) (λb hb=>by rw[Ae.mp hb];exact⟨e.out,e.low,o,ho,by rw[hc];decide,by rw[hc];decide⟩) k z;refine⟨R1,⟨λb ob q n=>?_,e.step.fresh,Aa e.step.size z⟩,E1⟩;obtain⟨o',q',C3⟩:=e.step.kept b ob q n;exact⟨o',k b o' (λm=>absurd (Am q) (Bh.mpr (by rw[Ae.mp m];exact e.new))) q',C3⟩
theorem mZ (CO:c.Ok)(TO:T.Ok U w){elt:Expr}{g:Comprehension}{rest:List Comprehension}(K:Rr c scope cl)(LN:g.is_async=0)
  {I:Addr} {wr:List Addr} {ext:List (Addr×Obj)} {St:Nat->Heap->Prop} (W:G4 U w c.A I wr ext h0 ds St) {p:Pos} {emit:Addr->Addr->Sem Unit}
  {RR:Addr->Addr->Result->Shared->Prop}
  (F3:∀C D,compTurn (.ListComp elt (g::rest) scope pos) 0 (.ref I) (.ref D) (compEnvC scope cl C c.env)=(do
   standAt p
   match <-pyNext (.ref I) with
   |none=>pure (.done .next)
   |some v=>
    letOwnedTupleGo g.target (.ref I) v
    assign g.target (compEnvC scope cl C c.env) v
    let ok <-Kh g.ifs (compEnvC scope cl C c.env)
    if ok then emit C D
    again (.compLoop (.ListComp elt (g::rest) scope pos) 0 (.ref I) (.ref D) (compEnvC scope cl C c.env))))
  {Fin:Addr->Led->Prop} {hs:Heap} (R:Co U w T c s r l) (AM:St 0 s.heap) (AU:∀b∈wr,hs.objs.size<=b/\b∉c.own l/\T.B.objs.size<=b) (S0:Step own0 (c.own l) hs s.heap) (EA:A0 h0 s.heap)
  (h:∀C D,(Dl c scope cl C).Ok->∃(r0:Rg) (J:Nat->Rg->Led->Prop),Ie c.names r (Ea cl scope.names) r0/\J 0 r0 ((D,.list [])::l)/\(∀i r' l',J i r' l'->Fx ext l'/\Ld c.names r (Ea cl scope.names) r')/\
   (∀i d r l,ds[i]?=some d->J i r l->Wa U w T (Dl c scope cl C) g.target d r l (λr1 l1=>Mg U w T (Dl c scope cl C) g.ifs r1 l1 (λb l2=>if b then G3 U w T (Dl c scope cl C) (emit C D) r1 l2 (λr3 l3=>J (i+1) r3 l3) else J (i+1) r1 l2)) ER)/\
   (∀r' l',J ds.length r' l'->Fin D l'))
  (fin:∀C D s' l',Ww U w T c own0 hs r l' C s'->Fin D l'->RR D C (.ok .next) s') :
  wpAny (model U w) c.A (newList []) (λacc s₃=>wpAny (model U w) c.A (newFunctionEnv scope c.env.globals cl [] c.env.qual none .none (some c.env)) (λL8 s₄=>
   codeAny (model U w) c.A (.compStart (.ListComp elt (g::rest) scope pos) 0 (.ref I) acc {L8 with scope:=relabel scope c.env}) (λres s'=>∃D,acc=.ref D/\match res with | .ok f=>RR D L8.locals (.ok f) s' | .error _=>False) s₄) E s₃) E s:=by k_with"o"=>
 refine wpAny_newObj_type (fP K.cell ?_);dsimp only;generalize PB:s.heap.push {cls:=.type "list",dict:=none,data:=.seq ([]:List Value).toArray}=H2;have hC:H2.objs.size=s.heap.objs.size+1:=by rw[<-PB,Bc]
 have IT:∀b o,H2.get? b=some o->(H2.push {cls:=.type "dict",data:=.dict #[]}).get? b=some o:=λb o e=>Ad _ e;have Rl:Co U w T c {s with heap:=H2} r ((s.heap.objs.size,.list [])::l):=by subst PB;exact R.alloc (x:=.list []) ⟨[],0,As _ rfl,.nil⟩
 have Sl:Step (c.own l) (c.own ((s.heap.objs.size,.list [])::l)) s.heap H2:=by subst PB;exact Step.alloc
 have QY:(Dl c scope cl H2.objs.size).Ok:=nA CO K (Cv TO.XR (Aa R.AH.room (by rw[hC];exact Cb _)));obtain⟨r0,J,WM,de,hJ,turn,done⟩:=h H2.objs.size s.heap.objs.size QY;have Rc:=Rl.comp (tk:=s.toks) (h':=H2.push {cls:=.type "dict",data:=.dict #[]}) (scope:=scope) (cl:=cl) (C:=H2.objs.size) (Ah _) (Heap.Ns.new H2 (.type "dict")) ⟨_,As _ rfl,rfl⟩ IT (by rw[Bc];exact Cb _) WM K.cells;have old:∀b o,s.heap.get? b=some o->(H2.push {cls:=.type "dict",data:=.dict #[]}).get? b=some o:=λb o e=>IT _ _ (PB▸Ad _ e);have AM₁:St 0 (H2.push {cls:=.type "dict",data:=.dict #[]}):=W.frame _ _ _ AM (λb _ o e=>old _ _ e) λp hp=>old _ _ (W.ext _ _ AM p hp);have F8:Step own0 (c.own ((s.heap.objs.size,.list [])::l)) hs H2:=S0.trans Sl;have VV:∀b∈wr,b<s.heap.objs.size:=λb hb=>let ⟨o,e,_⟩:=W.live _ _ AM b hb;Am e;have VT:∀b∈wr,b∉c.own ((s.heap.objs.size,O.list [])::l):=λb hb q=>by
  rcases(Vw c _ l).mp q with e|e
  ·exact Dv _ (Qa (VV b hb) e.symm)
  ·exact(AU b hb).2.1 e
 have sub:∀a∈(Ea cl scope.names).filterMap Nm.cellOf,a∈c.names.filterMap Nm.cellOf:=by obtain⟨m,o,_,_,_,h4⟩:=R.vars;exact WM.toR.cells h4
 have YG:∀b∈wr,b∉(Dl c scope cl H2.objs.size).own ((s.heap.objs.size,O.list [])::l):=λb hb q=>by
  rcases Lb.mp q with e|e|e
  ·exact Dv b (oV (VV b hb) (by rw[e,hC];exact Nat.lt_succ_self _))
  ·exact(AU b hb).2.1 (Hv (sub b e))
  ·exact VT b hb (Oy.mpr (.inr (.inr e)))
 refine Ug (g:=g) rfl LN (λQ E q=>W.self 0 _ Q E AM₁ q) ?_;refine codeAny_mono (eD (c:=Dl c scope cl H2.objs.size) (own0:=wr++(Dl c scope cl H2.objs.size).own ((s.heap.objs.size,.list [])::l)) (hs:=H2) (ext:=ext) (J:=J) (emit:=emit H2.objs.size s.heap.objs.size) QY W (F3 _ _) (λi r l j=>(hJ i r l j).1) turn Rc de AM₁
  (λb hb=>⟨.inr (Al _ hb),YG b hb,(AU b hb).2.2⟩)
  ⟨λb o e _=>⟨o,IT b o e,.refl o⟩,λa ha=>.inl (Aq _ ha),by rw[Bc];exact Cb _⟩ (EA.trans λb vs e=>old _ _ e)) λres s' HW=>?_
 cases res with
 |error x=>exact HW.elim
 |ok f=>
  obtain⟨rfl,r',l',R',S',j',VU⟩:=HW;have ev:A0 H2 s'.heap:=S'.kept.AD λa ha vs e=>by
   rcases Ao.mp ha with q|q
   ·obtain⟨o,e1,e2,_⟩:=W.live _ _ AM a q;have e3:H2.get? a=some o:=PB▸Ad _ e1;rw[e] at e3;injection e3 with e3;subst e3;exact e2 rfl
   ·exact Rc.CS a q vs (IT _ _ e)
  obtain⟨R2,S2,dg⟩:=Rel.KD (s:={s with heap:=H2}) Rl (C:=H2.objs.size) (Ah _) R' (ex:=wr) VT (λb hb q=>VU b hb q) S' (hJ _ _ _ j').2 ev;obtain⟨m',o',g1,g2,g3,_⟩:=R'.vars;exact⟨_,rfl,fin _ _ _ _ ⟨R2,F8.HC S2 λb hb=>(AU b hb).1,⟨m',g1⟩,dg,Aa R.AH.room (by show s.heap.objs.size<=H2.objs.size;rw[hC];exact Cb _),Aa S0.size (by rw[hC];exact Cb _),⟨o',g2,g3⟩⟩ (done _ _ j')⟩
def Eh (U:Program)(w:World)(T:Ez)(c:Ctx)(g:Comprehension)(scope:Scope)(cl:List (Str×Addr))(emit:Addr->Addr->Sem Unit)(r:Rg)(l1:Led)(d:V)(Fin:Addr->Led->Prop):Prop:=
 ∃(a:Addr) (x:O) (ds:List V) (lf:O->Led),d=.ref a/\(∀y,A5 l1 a x y (lf y))/\WalkL U w T c a x ds/\∀y,Mx y x->∀C D,(Dl c scope cl C).Ok->
  ∃(r0:Rg) (J:Nat->Rg->Led->Prop),Ie c.names r (Ea cl scope.names) r0/\J 0 r0 ((D,.list [])::lf y)/\(∀i r' l',J i r' l'->(a,y)∈l'/\Ld c.names r (Ea cl scope.names) r')/\
   (∀i d r l,ds[i]?=some d->J i r l->Wa U w T (Dl c scope cl C) g.target d r l (λr1 l1=>Mg U w T (Dl c scope cl C) g.ifs r1 l1 (λb l2=>if b then G3 U w T (Dl c scope cl C) (emit C D) r1 l2 (λr3 l3=>J (i+1) r3 l3) else J (i+1) r1 l2)) ER)/\
   (∀r' l',J ds.length r' l'->∃l3,A5 l' a y x l3/\Fin D l3)
theorem jT (CO:c.Ok)(TO:T.Ok U w){elt:Expr}{g:Comprehension}{rest:List Comprehension}(K:Rr c scope cl)(LN:g.is_async=0)(hs:∀x,foldedSetIterable g.iter c.env x=pure x)
  {emit:Addr->Addr->Sem Unit} {p:Pos}
  (F3:∀C D I,compTurn (.ListComp elt (g::rest) scope pos) 0 (.ref I) (.ref D) (compEnvC scope cl C c.env)=(do
   standAt p
   match <-pyNext (.ref I) with
   |none=>pure (.done .next)
   |some v=>
    letOwnedTupleGo g.target (.ref I) v
    assign g.target (compEnvC scope cl C c.env) v
    let ok <-Kh g.ifs (compEnvC scope cl C c.env)
    if ok then emit C D
    again (.compLoop (.ListComp elt (g::rest) scope pos) 0 (.ref I) (.ref D) (compEnvC scope cl C c.env))))
  {Fin:Addr->Led->Prop} {use:Option (Value->Sem Unit)} {P:Value->Shared->Prop} {Q9:Pos}
  (h:We U w T c g.iter r l (λd l1=>Eh U w T c g scope cl emit r l1 d Fin) X) (R:Co U w T c s r l)
  (hE:∀x s',Exc U w T c.outer (c.own l) s.heap false X x s'->E x s')
  (fin:∀C D s' l',Ww U w T c (c.own l) s.heap r l' C s'->Fin D l'->compPost (model U w) c.A E use P (.ref D) C (.ok .next) s') :
  wpAny (model U w) c.A (comprehension (.ListComp elt (g::rest) scope pos) scope c.env Q9 (newList []) false (eval g.iter c.env) use) P E s:=by k_with"o"=>
 refine wpAny_comprehension_free (use:=use) rfl hs K.U6 K.kind K.names (wpAny_mono (h s R) (λv s1 ⟨d,l1,rv,R1,S1,a,x,ds,lf,hd,B4,hw,ask⟩=>?_) λ_ _ e=>hE _ _ e);subst hd;cases rv;have ro:=R1.led _ (B4 x).mem;obtain⟨ob,BP,_⟩:=ro.at;refine hw s1 ob _ _ (R1.apart _ (Em (p:=(a,x)) (B4 x).mem)) BP ro λI wr St h' W st k z AU=>?_;obtain⟨Rf,own⟩:=R1.CD (B4 (.fz ob x)) λq=>⟨BP,q⟩;have R2:=Rf.grow (h':=h') (tk:=s1.toks) k z;have fx:∀{l:Led},(a,O.fz ob x)∈l->Fx [(a,ob)] l:=λq p hp=>by rw[Ae.mp hp];exact .inr ⟨x,q⟩
 refine wpAny_mono (mZ CO TO K LN W (s:={s1 with heap:=h'}) (r:=r) (l:=lf (.fz ob x)) (emit:=emit) (p:=p) (E:=E) (own0:=c.own l) (hs:=s.heap) (Fin:=λD l'=>∃l3,A5 l' a (.fz ob x) x l3/\Fin D l3)
  (RR:=λD C res s'=>compPost (model U w) c.A E use P (.ref D) C (.ok .next) s') (λC D=>F3 C D I) R2 st
  (λb hb=>⟨Aa S1.size (AU b hb),λq=>absurd (Rf.live b q) (Bh.mpr (AU b hb)),Aa R1.AH.room (AU b hb)⟩) ((S1.C7 (λ_=>.rfl) own).trans (Step.grow k z)) (λb vs e=>k _ _ e)
  (λC D QY=>?_) (λC D s' l' e ⟨l3,hp,q⟩=>?_)) (λacc s3 q=>wpAny_mono q (λL8 s4 q4=>codeAny_mono q4 λres s' ⟨D,hD,q5⟩=>?_) λ_ _ e=>e) λ_ _ e=>e
 ·obtain⟨r0,J,h1,h2,h3,h4,h5⟩:=ask (.fz ob x) .fz C D QY;exact⟨r0,J,h1,h2,λi r' l' j=>⟨fx (h3 i r' l' j).1,(h3 i r' l' j).2⟩,h4,h5⟩
 ·obtain⟨R4,D5⟩:=e.rel.CD hp λz=>z.2;exact fin C D s' l3 ⟨R4,e.step.C7 (λ_=>.rfl) D5,e.ns,λm=>e.out ((D5 _).mp m),e.low,e.new,e.obj⟩ q
 ·cases res with
  |error x=>exact q5.elim
  |ok f=>subst hD;cases use<;>exact q5
theorem vO (CO:c.Ok)(TO:T.Ok U w){elt:Expr}{rest:List Comprehension}(K:Rr c scope cl)(hs:∀x,foldedSetIterable iter c.env x=pure x)
  {emit:Addr->Addr->Sem Unit} {p:Pos}
  (F3:∀C D I,compTurn (.ListComp elt (⟨target,iter,ifs,0⟩::rest) scope pos) 0 (.ref I) (.ref D) (compEnvC scope cl C c.env)=(do
   standAt p
   match <-pyNext (.ref I) with
   |none=>pure (.done .next)
   |some v=>
    letOwnedTupleGo target (.ref I) v
    assign target (compEnvC scope cl C c.env) v
    let ok <-Kh ifs (compEnvC scope cl C c.env)
    if ok then emit C D
    again (.compLoop (.ListComp elt (⟨target,iter,ifs,0⟩::rest) scope pos) 0 (.ref I) (.ref D) (compEnvC scope cl C c.env))))
  (h:We U w T c iter r l (λd l1=>Eh U w T c ⟨target,iter,ifs,0⟩ scope cl emit r l1 d (λD l3=>Q (.ref D) l3)) X):We U w T c (.ListComp elt (⟨target,iter,ifs,0⟩::rest) scope pos) r l Q X:=by k_with"o"=>exact(λs R=>by
 unfold Wt;rw[eval_ListComp];exact jT CO TO K rfl hs F3 (use:=none) h R (λ_ _ e=>e) λC D s' l' e q=>
  let ⟨m,hm⟩:=e.ns
  ⟨m,hm,λh' S'=>let ⟨R1,S1,_⟩:=e.close S';⟨.ref D,l',.ref D,R1,S1,q⟩⟩)
theorem Sz {Q:Fl->Rg->Led->Prop}(CO:c.Ok)(TO:T.Ok U w){px:Pos}{elt:Expr}{rest:List Comprehension}{M7:Pos}(K:Rr c scope cl)(hs:∀x,foldedSetIterable iter c.env x=pure x)
  (ZK:swapsWith (.ListComp elt (⟨target,iter,ifs,0⟩::rest) scope pos) (some (.Name x px)) M7.line c.env=pure true)
  {emit:Addr->Addr->Sem Unit} {p:Pos}
  (F3:∀C D I,compTurn (.ListComp elt (⟨target,iter,ifs,0⟩::rest) scope pos) 0 (.ref I) (.ref D) (compEnvC scope cl C c.env)=(do
   standAt p
   match <-pyNext (.ref I) with
   |none=>pure (.done .next)
   |some v=>
    letOwnedTupleGo target (.ref I) v
    assign target (compEnvC scope cl C c.env) v
    let ok <-Kh ifs (compEnvC scope cl C c.env)
    if ok then emit C D
    again (.compLoop (.ListComp elt (⟨target,iter,ifs,0⟩::rest) scope pos) 0 (.ref I) (.ref D) (compEnvC scope cl C c.env))))
  (h:We U w T c iter r l (λd l1=>Eh U w T c ⟨target,iter,ifs,0⟩ scope cl emit r l1 d (λD l3=>∃r',Upd c.names r x (.ref D) r'/\Q .next r' l3)) X) :
  BY U w T c (.Assign [.Name x px] (.ListComp elt (⟨target,iter,ifs,0⟩::rest) scope pos) M7) r l Q X:=by k_with"o"=>exact(λs R=>by
 rw[exec_Assign_Name_used _ _ _ _ ZK];refine wpAny_bind (wpAny_standAt (wpAny_bind ?_));show wpAny _ c.A (do let _ <-comprehension (.ListComp elt (⟨target,iter,ifs,0⟩::rest) scope pos) scope c.env _ (newList []) false (eval iter c.env) (some (assign (.Name x px) c.env))) _ _ s;refine wpAny_bind (wpAny_mono (jT CO TO K rfl hs F3 (use:=some (assign (.Name x px) c.env)) (P:=λ_ s'=>Za U w T c (c.own l) s.heap Q .next s') (E:=Exc U w T c.outer (c.own l) s.heap false X) h R (λ_ _ e=>e) λC D s' l' e ⟨r',up,q⟩=>?_) (λ_ _ q=>wpAny_pure (wpAny_pure q)) λ_ _ e=>e);obtain⟨m,hm⟩:=e.ns;obtain⟨oc,ho,hc⟩:=e.obj;show wpAny _ c.A (assign (.Name x px) c.env (.ref D)) _ _ s';refine wpAny_mono (Bt (X:=X) CO up (Q:=λr2 l2=>r2=r'/\l2=l') ⟨rfl,rfl⟩ s' _ e.rel (.ref D)) (λ_ s2 ⟨r2,l2,R2,S2,h1,h2⟩=>?_) λ_ _ x=>x.shift e.step λ_ q=>q;subst h1 h2;obtain⟨o2,g1,g2⟩:=S2.kept C oc ho e.out;have g3:=g2.eq (by rw[hc];decide);subst g3;obtain⟨o',es,ep,k1,k2,k3⟩:=hm;rw[ho] at k1;injection k1 with k1;subst k1;have e2:Ww U w T c (c.own l) s.heap r2 l2 C s2:=⟨R2,e.step.trans S2,⟨m,o2,es,ep,g1,k2,k3⟩,e.out,e.low,e.new,⟨o2,g1,hc⟩⟩;exact⟨m,⟨o2,es,ep,g1,k2,k3⟩,λh' S'=>let ⟨R3,S3,_⟩:=e2.close S';⟨.next,r2,l2,rfl,R3,S3,q⟩⟩)
noncomputable def Mf (elt:Expr)(gens:List Comprehension)(scope:Scope)(pos:Pos)(depth:Nat)(iter:Expr)(acc:Value)(env:Env):Sem Unit:=do
 let x <-eval iter env
 standAt iter.pos
 let x <-foldedSetIterable iter env x;let _ <-runOwn (.compStart (.ListComp elt gens scope pos) depth (<-holding [x] (pyIter x)) acc env) env
theorem nS {Q:Rg->Led->Prop}(CO:c.Ok){elt:Expr}{gens:List Comprehension}{p:Pos}{depth:Nat}{acc:Value}{emit:Sem Unit}
  (hg:gens[depth]?=some ⟨target,iter,ifs,0⟩) (hs:∀x,foldedSetIterable iter c.env x=pure x)
  (F3:∀I,compTurn (.ListComp elt gens scope pos) depth (.ref I) acc c.env=(do
   standAt p
   match <-pyNext (.ref I) with
   |none=>pure (.done .next)
   |some v=>
    letOwnedTupleGo target (.ref I) v
    assign target c.env v
    let ok <-Kh ifs c.env
    if ok then emit
    again (.compLoop (.ListComp elt gens scope pos) depth (.ref I) acc c.env)))
  (h:We U w T c iter r l (λd l1=>∃(a:Addr) (x:O) (ds:List V) (lf:O->Led),d=.ref a/\(∀y,A5 l1 a x y (lf y))/\WalkL U w T c a x ds/\∀y,Mx y x->∃(J:Nat->Rg->Led->Prop),J 0 r (lf y)/\(∀i r' l',J i r' l'->(a,y)∈l')/\
   (∀i d r l,ds[i]?=some d->J i r l->Wa U w T c target d r l (λr1 l1=>Mg U w T c ifs r1 l1 (λb l2=>if b then G3 U w T c emit r1 l2 (λr3 l3=>J (i+1) r3 l3) else J (i+1) r1 l2)) ER)/\
   (∀r' l',J ds.length r' l'->∃l3,A5 l' a y x l3/\Q r' l3)) ER):G3 U w T c (Mf elt gens scope pos depth iter acc c.env) r l Q:=by k_with"o"=>exact(λs R=>by
 unfold Mf;refine wpAny_bind (wpAny_mono (h s R) (λv s1 ⟨d,l1,rv,R1,S1,a,x,ds,lf,hd,B4,hw,ask⟩=>?_) λ_ _ e=>e.no);subst hd;cases rv;have ro:=R1.led _ (B4 x).mem;obtain⟨ob,BP,_⟩:=ro.at;refine wpAny_bind (wpAny_standAt (wpAny_bind (wpAny_of_eq (hs _) (wpAny_bind (wpAny_holding ?_)))));refine hw s1 ob _ _ (R1.apart _ (Em (p:=(a,x)) (B4 x).mem)) BP ro λI wr St h' W st k z AU=>?_;obtain⟨Rf,own⟩:=R1.CD (B4 (.fz ob x)) λq=>⟨BP,q⟩;have R2:=Rf.grow (h':=h') (tk:=s1.toks) k z;have fx:∀{l:Led},(a,O.fz ob x)∈l->Fx [(a,ob)] l:=λq p hp=>by rw[Ae.mp hp];exact .inr ⟨x,q⟩
 obtain⟨J,h2,h3,h4,h5⟩:=ask (.fz ob x) .fz;refine wpAny_bind (wpAny_runOwn ?_);rw[show c.A.mark none=c.A from rfl];refine Ug hg rfl (λQ E q=>W.self 0 _ Q E st q) ?_;refine codeAny_mono (eD CO W (s:={s1 with heap:=h'}) (own0:=c.own l) (hs:=s.heap) (ext:=[(a,ob)]) (J:=J) (emit:=emit) (F3 I) (λi r l j=>fx (h3 i r l j)) h4 R2 h2 st
  (λb hb=>⟨.inl (Aa S1.size (AU b hb)),λq=>absurd (Rf.live b q) (Bh.mpr (AU b hb)),Aa R1.AH.room (AU b hb)⟩) ((S1.C7 (λ_=>.rfl) own).trans (Step.grow k z)) (λb vs e=>k _ _ e)) λres s' HW=>?_
 cases res with
 |error x=>exact HW.elim
 |ok f=>obtain⟨rfl,r',l',R',S',j',VU⟩:=HW;obtain⟨l3,hp,q⟩:=h5 _ _ j';obtain⟨R4,D5⟩:=R'.CD hp λz=>z.2;exact wpAny_pure ⟨r',l3,R4,S'.C7 (λ_=>.rfl) D5,q⟩)
section
section
theorem Tv {l:Addr}{items:Array Value}{k:Int}{t:Tok}{Q:Unit->Shared->Prop}(ho:s.heap.get? l=some {cls:=.type "list",data:=.seq items n})
  (h0:0<=k) (BE:k<2^63) (hn:k<items.size)
  (hQ:∀h' n',h'.get? l=some {cls:=.type "list",data:=.seq (items.setIfInBounds k.toNat v) n'}->Bs l s.heap h'->Q () {s with heap:=h'}) :
  wpAny (model U w) A (setItem (.ref l) (.int k t) v) Q E s:=by k_with"o"=>
 have hl:s.heap.IsList l items:=⟨_,ho,rfl,n,rfl⟩;have hd:(({cls:=.type "list",data:=.seq items n}:Obj)).data=.seq items n:=rfl;unfold setItem
 try with_reducible refine wpAny_holding ?_
 first|refine wpAny_bind (wpAny_pure ?_)|skip
 refine wpAny_bind (wpAny_sequenceKey hl.typeIs (by decide) ?_);refine wpAny_bind (wpAny_callSpecial?_slot (name:=Str.ofString "__setitem__") hl.typeIs slot_list_setitem
  (wpAny_call_entry slot_list_setitem hl.typeIs entry_list_setitem ?_ (args_list_setitem _ _ _)))
 show wpAny _ _ (Builtin.List.listSubscript? (.int k t) >>= _) _ _ s;refine wpAny_bind (wpAny_listSubscript_int (fitsIndex_of h0 BE) ?_);clear BE;obtain⟨j,rfl⟩:=Gh h0;have hj:j<items.size:=by omega
 have MN:items[j]?=some items[j]:=Kg hj;show wpAny _ _ ((seqItemAt l j >>= λr=>pure (r.map (j,·))) >>= _) _ _ s;refine wpAny_bind (wpAny_bind (wpAny_seqItemAt ho hd (wpAny_pure ?_)));rw[MN];show wpAny _ _ (setSeqItemAt l j v >>= _) _ _ s;obtain⟨n',CM⟩:=Obj.data_mapSeq hd (·.setIfInBounds j v);have BP:Obj.mapSeq (·.setIfInBounds j v) {cls:=.type "list",data:=.seq items n}={cls:=.type "list",data:=.seq (items.setIfInBounds j v) n'}:=by
  have e:∀o:Obj,(Obj.mapSeq (·.setIfInBounds j v) o)={o with data:=(Obj.mapSeq (·.setIfInBounds j v) o).data}:=λo=>by obtain⟨c,d,dt,sl⟩:=o;cases dt<;>rfl
  rw[e,CM]
 have FE:(s.heap.update l (Obj.mapSeq (·.setIfInBounds j v))).get? l=some {cls:=.type "list",data:=.seq (items.setIfInBounds j v) n'}:=by rw[<-BP];exact Bv _ ho (Obj.isFreed_of_seq CM)
 refine wpAny_bind (wpAny_setSeqItemAt ho hd ?_)
 first
  |exact wpAny_bind (wpAny_pure (wpAny_pure ⟨.none,rfl,wpAny_pure (hQ _ _ FE (Bs.update ..))⟩))
  |exact wpAny_pure ⟨.none,rfl,wpAny_pure (hQ _ _ FE (Bs.update ..))⟩
theorem Qc {l:Addr}{items:Array Value}{k:Int}{t:Tok}{Q:Unit->Shared->Prop}(ho:s.heap.get? l=some {cls:=.type "list",data:=.seq items n})
  (h0:k<0) (h1:-(items.size:Int)<=k) (BE:-(2^63)<=k)
  (hQ:∀h' n',h'.get? l=some {cls:=.type "list",data:=.seq (items.setIfInBounds (k+items.size).toNat v) n'}->Bs l s.heap h'->Q () {s with heap:=h'}) :
  wpAny (model U w) A (setItem (.ref l) (.int k t) v) Q E s:=by k_with"o"=>
 have hl:s.heap.IsList l items:=⟨_,ho,rfl,n,rfl⟩;have hd:(({cls:=.type "list",data:=.seq items n}:Obj)).data=.seq items n:=rfl;unfold setItem
 try with_reducible refine wpAny_holding ?_
 first|refine wpAny_bind (wpAny_pure ?_)|skip
 refine wpAny_bind (wpAny_sequenceKey hl.typeIs (by decide) ?_);refine wpAny_bind (wpAny_callSpecial?_slot (name:=Str.ofString "__setitem__") hl.typeIs slot_list_setitem
  (wpAny_call_entry slot_list_setitem hl.typeIs entry_list_setitem ?_ (args_list_setitem _ _ _)))
 show wpAny _ _ (Builtin.List.listSubscript? (.int k t) >>= _) _ _ s;refine wpAny_bind (wpAny_listSubscript_int (fitsIndex_neg h0 BE) ?_);clear BE;have T5:=seqIndex_neg h0 h1;have MN:∃x,items[(k+items.size).toNat]?=some x:=⟨_,Kg (by omega)⟩;obtain⟨x,hx⟩:=MN;obtain⟨j,rfl⟩:∃j:Nat,k=Int.negSucc j:=by
  cases k with
  |ofNat n=>exact absurd h0 (Hy.mpr (Fw n))
  |negSucc n=>exact⟨n,rfl⟩
 show wpAny _ _ ((Builtin.List.listItems (.ref l) >>= λxs=>pure ((seqIndex? (Int.negSucc j) xs.size).bind λi=>xs[i]?.map (i,·))) >>= _) _ _ s;refine wpAny_bind (wpAny_bind ?_);show wpAny _ _ (seqItems? (.ref l) >>= _) _ _ s;refine wpAny_bind (wpAny_seqItems ho hd (wpAny_pure (wpAny_pure ?_)));rw[T5];simp only[Option.bind_some,hx,Option.map_some];generalize (Int.negSucc j+items.size).toNat=i at hQ ⊢;show wpAny _ _ (setSeqItemAt l i v >>= _) _ _ s;obtain⟨n',CM⟩:=Obj.data_mapSeq hd (·.setIfInBounds i v);have BP:Obj.mapSeq (·.setIfInBounds i v) {cls:=.type "list",data:=.seq items n}={cls:=.type "list",data:=.seq (items.setIfInBounds i v) n'}:=by
  have e:∀o:Obj,(Obj.mapSeq (·.setIfInBounds i v) o)={o with data:=(Obj.mapSeq (·.setIfInBounds i v) o).data}:=λo=>by obtain⟨c,d,dt,sl⟩:=o;cases dt<;>rfl
  rw[e,CM]
 have FE:(s.heap.update l (Obj.mapSeq (·.setIfInBounds i v))).get? l=some {cls:=.type "list",data:=.seq (items.setIfInBounds i v) n'}:=by rw[<-BP];exact Bv _ ho (Obj.isFreed_of_seq CM)
 refine wpAny_bind (wpAny_setSeqItemAt ho hd ?_)
 first
  |exact wpAny_bind (wpAny_pure (wpAny_pure ⟨.none,rfl,wpAny_pure (hQ _ _ FE (Bs.update ..))⟩))
  |exact wpAny_pure ⟨.none,rfl,wpAny_pure (hQ _ _ FE (Bs.update ..))⟩
end
section
theorem rY {k:Int}{Q:Led->Prop}{l':Led}(hp:A5 l a (.list xs) (.list (xs.set k.toNat d)) l')(h0:0<=k)(BE:k<2^63)(hn:k<xs.length)(h:Q l'):nN U w T c (.ref a) (.int k) d r l Q:=by k_with"o"=>exact(λs ov iv v E R ro ri rd=>by obtain rfl:=ro.AS;obtain⟨t,rfl⟩:=ri.intAt;obtain⟨vs,n,e,AF⟩:=R.led _ hp.mem;refine Tv e h0 BE (by rw[Az,<-AF.length];exact hn) λh' n' hl hs=>?_;obtain⟨R',S'⟩:=R.put (tk:=s.toks) hp hs λev=>⟨vs.set k.toNat v,n',by rw[hl];simp,(AF.AD ev).set (rd.AD ev)⟩;exact⟨r,l',R',S',rfl,h⟩)
theorem cV {k:Int}{Q:Led->Prop}{l':Led}(hp:A5 l a (.list xs) (.list (xs.set (k+xs.length).toNat d)) l')(h0:k<0)(h1:-(xs.length:Int)<=k)(BE:-(2^63)<=k)(h:Q l'):nN U w T c (.ref a) (.int k) d r l Q:=by k_with"o"=>exact(λs ov iv v E R ro ri rd=>by obtain rfl:=ro.AS;obtain⟨t,rfl⟩:=ri.intAt;obtain⟨vs,n,e,AF⟩:=R.led _ hp.mem;have hlen:=AF.length;refine Qc e h0 (by rw[Az,<-hlen];exact h1) BE λh' n' hl hs=>?_;obtain⟨R',S'⟩:=R.put (tk:=s.toks) hp hs λev=>⟨vs.set (k+xs.length).toNat v,n',by rw[hl,hlen];simp,(AF.AD ev).set (rd.AD ev)⟩;exact⟨r,l',R',S',rfl,h⟩)
end
end
section
variable {l1:Led}
def Bm (l l1:Led):Prop:=∃fr,l.Perm (l1++fr)
theorem Bm.refl (l:Led):Bm l l:=⟨[],by rw[Au]⟩
theorem Bm.picks {l1 fr:Led}(h:Jx l l1 fr):Bm l l1:=⟨fr,h.perm⟩
theorem Bm.trans {a b d:Led}:Bm a b->Bm b d->Bm a d
 |⟨x,h⟩,⟨y,k⟩=>by k_with"o"=>exact( ⟨y++x,h.trans (by rw[<-Ax];exact k.append_right x)⟩)
theorem Bm.mem {p:Addr×O}:Bm l l1->p∈l1->p∈l
 |⟨_,h⟩,m=>h.mem_iff.mpr (Al _ m)
theorem Rel.drop (h:Bm l l1)(R:Co U w T c s r l):Co U w T c s r l1:=by k_with"o"=>
 obtain⟨fr,h⟩:=h;have R:=R.perm h;refine⟨R.AH,R.frames,R.vars,λp hp=>R.led p (Al _ hp),?_,λa ha=>R.apart a ?_⟩
 ·have:=R.nodup;unfold Ctx.own at this ⊢;rw[Ai] at this;refine List.Nodup.sublist ?_ this;exact(List.Sublist.append_left (List.sublist_append_left _ _) _).cons_cons _
 ·unfold Ctx.own at ha ⊢;rcases Ag.mp ha with e|e
  ·exact e▸.head _
  rcases Ao.mp e with e|e
  ·exact .tail _ (Al _ e)
  ·exact .tail _ (Aq _ (by rw[Ai];exact Al _ e))
theorem Bm.C7 (h:Bm l l1)(m:a∈c.own l1):a∈c.own l:=by k_with"o"=>
 unfold Ctx.own at m ⊢;rcases Ag.mp m with e|e
 ·exact e▸.head _
 rcases Ao.mp e with e|e
 ·exact .tail _ (Al _ e)
 ·obtain⟨p,hp,rfl⟩:=Af.mp e;exact Em (h.mem hp)
theorem Bm.step (d:Bm l l1){o:List Addr}(x:Step (c.own l1) o h h'):Step (c.own l) o h h':=by k_with"o"=>exact(x.mono (λ_ q=>d.C7 q) λ_ q=>.inl q)
theorem Bm.exc (d:Bm l l1){tr:Bool}{x:Value}{s':Shared}(e:Exc U w T outer (c.own l1) h tr X x s'):Exc U w T outer (c.own l) h tr X x s':=by k_with"o"=>exact(⟨e.AH,e.frames,λb o q n=>e.kept b o q λm=>n (d.C7 m),e.size,e.FI⟩)
theorem QU (d:Bm l l1)(h:We U w T c e r l1 Q X):We U w T c e r l Q X:=by k_with"o"=>exact(λs R=>
 wpAny_mono (h s (R.drop d)) (λ_ _ ⟨x,l',a,b,S,q⟩=>⟨x,l',a,b,d.step S,q⟩) λ_ _ e=>d.exc e)
theorem Mj {Q:List V->Led->Prop}(d:Bm l l1)(h:Hd U w T c pos es r l1 Q X):Hd U w T c pos es r l Q X:=by k_with"o"=>exact(λs R=>
 wpAny_mono (h s (R.drop d)) (λ_ _ ⟨x,l',a,b,S,q⟩=>⟨x,l',a,b,d.step S,q⟩) λ_ _ e=>d.exc e)
theorem qI {Q:Bool->Led->Prop}(d:Bm l l1)(h:Wb U w T c e r l1 Q X):Wb U w T c e r l Q X:=by k_with"o"=>exact(λs R=>
 wpAny_mono (h s (R.drop d)) (λ_ _ ⟨l',b,S,q⟩=>⟨l',b,d.step S,q⟩) λ_ _ e=>d.exc e)
theorem Eg {Q:Fl->Rg->Led->Prop}(d:Bm l l1)(h:Ws U w T c ss r l1 Q X):Ws U w T c ss r l Q X:=by k_with"o"=>exact(λs R=>
 wpAny_mono (h s (R.drop d)) (λ_ _ ⟨g,r',l',a,b,S,q⟩=>⟨g,r',l',a,b,d.step S,q⟩) λ_ _ e=>d.exc e)
theorem Pf {t:Expr}{v:V}{Q:Rg->Led->Prop}(d:Bm l l1)(h:Wa U w T c t v r l1 Q X):Wa U w T c t v r l Q X:=by k_with"o"=>exact(λs x R rx=>
 wpAny_mono (h s x (R.drop d) rx) (λ_ _ ⟨r',l',b,S,q⟩=>⟨r',l',b,d.step S,q⟩) λ_ _ e=>d.exc e)
theorem yR {f:List Value->Sem Value}(d:Bm l l1)(h:Wn U w T c f as r l1 Q X):Wn U w T c f as r l Q X:=by k_with"o"=>exact(λs xs R rx=>
 wpAny_mono (h s xs (R.drop d) rx) (λ_ _ ⟨x,l',a,b,S,q⟩=>⟨x,l',a,b,d.step S,q⟩) λ_ _ e=>d.exc e)
theorem gM {f:Value->Value->Sem Value}{x y:V}(d:Bm l l1)(h:W2 U w T c f x y r l1 Q X):W2 U w T c f x y r l Q X:=by k_with"o"=>exact(λs u v R ru rv=>
 wpAny_mono (h s u v (R.drop d) ru rv) (λ_ _ ⟨x,l',a,b,S,q⟩=>⟨x,l',a,b,d.step S,q⟩) λ_ _ e=>d.exc e)
theorem A5.mid {x y:O}(v:Led):∀u:Led,A5 (u++(a,x)::v) a x y (u++(a,y)::v)
 |[]=>.here
 |_::u=>.there (A5.mid v u)
theorem Bm.split {x:O}{m:Led}(h:Bm l ((a,x)::m)):∃u v,l=u++(a,x)::v/\∀y,Bm (u++(a,y)::v) ((a,y)::m):=by k_with"o"=>obtain⟨fr,h⟩:=h;have hm:(a,x)∈l:=h.mem_iff.mpr (.head _);obtain⟨u,v,rfl⟩:=List.append_of_mem hm;refine⟨u,v,rfl,λy=>⟨fr,?_⟩⟩;have h2:(u++v).Perm (m++fr):=(Ed.symm.trans h).cons_inv;exact Ed.trans (h2.cons _)
theorem Bm.put {y x:O}{m:Led}(h:Bm l ((a,y)::m)):∃l3,A5 l a y x l3/\Bm l3 ((a,x)::m):=by k_with"o"=>obtain⟨u,v,rfl,k⟩:=h.split;exact⟨_,.mid v u,k x⟩
theorem Bm.snd {p:Addr×O}{m:Led}:Bm (p::m) m:=⟨[p],by simpa using (Cz (l₁:=[p]) (l₂:=m))⟩
theorem sQ {Q:Fl->Rg->Led->Prop}(C:c.Ok)(hs:∀x,foldedSetIterable iter c.env x=pure x)
  (h:We U w T c iter r l (λd l1=>∃(a:Addr) (x:O) (ds:List V) (m:Led),d=.ref a/\Bm l1 ((a,x)::m)/\WalkL U w T c a x ds/\∃J:Nat->Rg->Led->Prop,J 0 r m/\
   (∀y i d r m,Mx y x->ds[i]?=some d->J i r m->Wa U w T c target d r ((a,y)::m) (λr1 l1=>l1=(a,y)::m/\Ws U w T c body r1 ((a,y)::m) (λfl r2 l2=>match fl with
    |.next=>∃m2,Bm l2 ((a,y)::m2)/\J (i+1) r2 m2 | .cont=>∃m2,Bm l2 ((a,y)::m2)/\J (i+1) r2 m2 | .brk=>∃m2,Bm l2 ((a,y)::m2)/\∀l3,Bm l3 ((a,x)::m2)->Q .next r2 l3 | .ret d=>∃m2,Bm l2 ((a,y)::m2)/\∀l3,Bm l3 ((a,x)::m2)->Q (.ret d) r2 l3) X) X)/\
   ∀r l m,J ds.length r m->Bm l ((a,x)::m)->Q .next r l) X):BY U w T c (.For target iter body [] pos) r l Q X:=by k_with"o"=>
 refine eQ C hs λs R=>wpAny_mono (h s R) (λv s1 ⟨d,l1,rv,R1,S1,a,x,ds,m,hd,dr,hw,J,j0,turn,done⟩=>⟨d,l1,rv,R1,S1,?_⟩) λ_ _ e=>e;obtain⟨u,v',hl,k⟩:=dr.split;refine⟨a,x,ds,λy=>u++(a,y)::v',hd,λy=>hl▸.mid v' u,hw,λy i r l=>∃m,Bm l ((a,y)::m)/\J i r m,λy _=>⟨m,k y,j0⟩,?_,?_,?_⟩
 ·rintro y i r l ⟨m,hd,_⟩;exact hd.mem (.head _)
 ·rintro y i d r l hy hi ⟨m,hd,hj⟩;refine Pf hd λs x' R rx=>wpAny_mono (turn y i d r m hy hi hj s x' R rx) (λ_ _ ⟨r1,l1,b1,b2,e,q⟩=>⟨r1,l1,b1,b2,?_⟩) λ_ _ e=>e;subst e;refine⟨.head _,λs R=>wpAny_mono (q s R) (λf s2 ⟨g,r3,l3,hf,R3,S3,q⟩=>⟨g,r3,l3,hf,R3,S3,?_⟩) λ_ _ e=>e⟩;cases g with
  |next=>exact q
  |cont=>exact q
  |brk=>obtain⟨m2,h1,h2⟩:=q;obtain⟨l4,p,dp⟩:=h1.put (x:=x);exact⟨l4,p,h2 l4 dp⟩
  |ret d=>obtain⟨m2,h1,h2⟩:=q;obtain⟨l4,p,dp⟩:=h1.put (x:=x);exact⟨l4,p,h2 l4 dp⟩
 ·rintro y r l ⟨m,hd,hj⟩;obtain⟨l4,p,dp⟩:=hd.put (x:=x);exact⟨l4,p,done _ _ _ hj dp⟩
theorem Eh.of0 {elt:Expr}{Fin:Addr->Led->Prop}
  (h:∃(a:Addr) (x:O) (ds:List V) (m:Led),d=.ref a/\Bm l ((a,x)::m)/\WalkL U w T c a x ds/\ds.length<=sizeLine/\∀C D,(Dl c scope cl C).Ok->
   ∃(r0:Rg) (J:Nat->List V->Rg->Led->Prop),Ie c.names r (Ea cl scope.names) r0/\J 0 [] r0 m/\(∀i acc r' m',J i acc r' m'->Ld c.names r (Ea cl scope.names) r')/\
    (∀y i dd acc r m,Mx y x->ds[i]?=some dd->J i acc r m->acc.length<=i->Wa U w T (Dl c scope cl C) target dd r ((D,.list acc)::(a,y)::m) (λr1 l1=>l1=(D,.list acc)::(a,y)::m/\
     Mg U w T (Dl c scope cl C) ifs r1 l1 (λb l2=>if b then We U w T (Dl c scope cl C) elt r1 l2 (λv l3=>∃m3,Bm l3 ((D,.list acc)::(a,y)::m3)/\J (i+1) (acc++[v]) r1 m3) ER
      else ∃m3,Bm l2 ((D,.list acc)::(a,y)::m3)/\J (i+1) acc r1 m3)) ER)/\
    (∀acc r' m' l',acc.length<=ds.length->J ds.length acc r' m'->Bm l' ((D,.list acc)::(a,x)::m')->Fin D l')) :
  Eh U w T c ⟨target,iter,ifs,0⟩ scope cl (λC D=>Ft elt (.ref D) (compEnvC scope cl C c.env)) r l d Fin:=by k_with"o"=>
 obtain⟨a,x,ds,m,hd,dr,hw,hz,ask⟩:=h;obtain⟨u,v',hl,k⟩:=dr.split;refine⟨a,x,ds,λy=>u++(a,y)::v',hd,λy=>hl▸.mid v' u,hw,λy hy C D CO=>?_⟩;obtain⟨r0,J,h1,h2,h3,h4,h5⟩:=ask C D CO;refine⟨r0,λi r l=>∃acc m,acc.length<=i/\Bm l ((D,.list acc)::(a,y)::m)/\J i acc r m,h1,⟨[],m,Ah _,?_,h2⟩,?_,?_,?_⟩
 ·obtain⟨fr,p⟩:=k y;exact⟨fr,p.cons _⟩
 ·rintro i r' l' ⟨acc,m,_,hd,hj⟩;exact⟨hd.mem (.tail _ (.head _)),h3 _ _ _ _ hj⟩
 ·rintro i dd r l hi ⟨acc,m,hlen,hd,hj⟩;have lt:i<ds.length:=(Bq.mp hi).1;refine Pf hd λs x' R rx=>wpAny_mono (h4 y i dd acc r m hy hi hj hlen s x' R rx) (λ_ _ ⟨r1,l1,b1,b2,e,q⟩=>⟨r1,l1,b1,b2,?_⟩) λ_ _ e=>e;subst e;refine λs R=>wpAny_mono (q s R) (λb s2 ⟨l2,R2,S2,q2⟩=>⟨l2,R2,S2,?_⟩) λ_ _ e=>e;cases b with
  |false=>obtain⟨m3,d3,j3⟩:=q2;exact⟨acc,m3,Gg hlen,d3,j3⟩
  |true=>refine eK (D:=D) λs R=>wpAny_mono (q2 s R) (λv s3 ⟨d4,l4,rv,R4,S4,m3,d3,j3⟩=>⟨d4,l4,rv,R4,S4,?_⟩) λ_ _ e=>e;obtain⟨l5,p5,d5⟩:=d3.put (x:=.list (acc++[d4]));exact⟨acc,l5,p5,by omega,acc++[d4],m3,by rw[Ab];exact Km hlen,d5,j3⟩
 ·rintro r' l' ⟨acc,m,hlen,hd,hj⟩;have hd2:Bm l' ((a,y)::(D,.list acc)::m):=hd.trans ⟨[],by rw[Au];exact .swap ..⟩;obtain⟨l4,p,dp⟩:=hd2.put (x:=x);exact⟨l4,p,h5 _ _ _ _ hlen hj (dp.trans ⟨[],by rw[Au];exact .swap ..⟩)⟩
end
theorem wZ {α:Type}{ds:List α}{P:Prop}(h:ds.length<=sizeLine)(p:P):ds.length<=sizeLine/\P:=⟨h,p⟩
theorem fA {a b:Int}(h0:0<=a)(h1:b=a+n)(h2:b<1073741824):Builtin.Range.small a b 1=true/\Builtin.Range.rangeSize a b 1=n:=by k_with"o"=>
 have e:Builtin.Range.rangeSize a b 1=n:=by unfold Builtin.Range.rangeSize;simp only[show(1:Int)>0 from by decide,if_true,Int.ediv_one];split<;>omega
 refine⟨?_,e⟩
 ·unfold Builtin.Range.small;have f:∀i:Int,0<=i->i<1073741824->Builtin.Range.rangeFitsLong i=true:=λi h1 h2=>by unfold Builtin.Range.rangeFitsLong;rw[Dg,decide_eq_true_eq,decide_eq_true_eq];exact⟨Dk (by decide) h1,Int.lt_trans h2 (by decide)⟩
  rw[e,f a h0 (by omega),f b (by omega) h2,f 1 (by decide) (by decide),f n (by omega) (by omega),if_pos (by decide),f (b+(1-1)) (by omega) (by omega)];simp
theorem Pw {M:V->Led->Prop}(h:We U w T c e r l M X)(k:∀d l1,M d l1->Q d l1):We U w T c e r l Q X:=by k_with"o"=>exact(λs R=>
 wpAny_mono (h s R) (λ_ _ ⟨d,l1,a,b,e,q⟩=>⟨d,l1,a,b,e,k d l1 q⟩) λ_ _ e=>e)
theorem vU {M Q:Bool->Led->Prop}(h:Wb U w T c e r l M X)(k:∀d l1,M d l1->Q d l1):Wb U w T c e r l Q X:=by k_with"o"=>exact(λs R=>
 wpAny_mono (h s R) (λ_ _ ⟨l1,b,e,q⟩=>⟨l1,b,e,k _ l1 q⟩) λ_ _ e=>e)
theorem yU (Pd:V->Prop)(h:We U w T c e r l (λd l1=>Pd d/\l1=l) X)(k:∀d,Pd d->Q d l):We U w T c e r l Q X:=by k_with"o"=>exact(Pw h λd l1 ⟨h1,h2⟩=>by subst h2;exact k d h1)
theorem Ni {a b:Prop}(h:a):if true=true then a else b:=h
theorem Ip {a b:Prop}(h:b):if false=true then a else b:=by rw[if_neg (by decide)];exact h
theorem aJ:∀e∈gZ,bootBuiltins e.1=some e.2/\e.1 ≠ "__name__":=by k_with"o"=>
 intro e h
 repeat (rcases Ag.mp h with rfl|h;· exact⟨rfl,by decide⟩)
 cases h
noncomputable def fnOf (a:Addr):Stmt×Str:=((Sk.find? λp=>p.1==a).map (·.2)).getD (.Pass default,Str.empty)
theorem Qh {α:Type}{l:List α}(h:l.length=1):∃x0,l=[x0]:=by k_with"o"=>
 cases l with
 |nil=>cases h
 |cons a l=>exact⟨a,by rw[lB.mp (Vl.inj h)]⟩
theorem Wf {α:Type}{l:List α}(h:l.length=2):∃x0 x1,l=[x0,x1]:=by k_with"o"=>
 cases l with
 |nil=>cases h
 |cons a l=>obtain⟨x1,rfl⟩:=Qh (Vl.inj h);exact⟨a,x1,rfl⟩
theorem mN {α:Type}{l:List α}(h:l.length=3):∃x0 x1 x2,l=[x0,x1,x2]:=by k_with"o"=>
 cases l with
 |nil=>cases h
 |cons a l=>obtain⟨x1,x2,rfl⟩:=Wf (Vl.inj h);exact⟨a,x1,x2,rfl⟩
theorem RW {α:Type}{l:List α}(h:l.length=4):∃x0 x1 x2 x3,l=[x0,x1,x2,x3]:=by k_with"o"=>
 cases l with
 |nil=>cases h
 |cons a l=>obtain⟨x1,x2,x3,rfl⟩:=mN (Vl.inj h);exact⟨a,x1,x2,x3,rfl⟩
theorem RU {α:Type}{l:List α}(h:l.length=5):∃x0 x1 x2 x3 x4,l=[x0,x1,x2,x3,x4]:=by k_with"o"=>
 cases l with
 |nil=>cases h
 |cons a l=>obtain⟨x1,x2,x3,x4,rfl⟩:=RW (Vl.inj h);exact⟨a,x1,x2,x3,x4,rfl⟩
theorem RT {α:Type}{l:List α}(h:l.length=6):∃x0 x1 x2 x3 x4 x5,l=[x0,x1,x2,x3,x4,x5]:=by k_with"o"=>
 cases l with
 |nil=>cases h
 |cons a l=>obtain⟨x1,x2,x3,x4,x5,rfl⟩:=RU (Vl.inj h);exact⟨a,x1,x2,x3,x4,x5,rfl⟩
structure Prg (U:Program)(w:World)(T:Ez):Prop where
 ok:T.Ok U w
 mg:∀x v,P7.lookup x=some v->T.mg x=some v
 mgI:∀x i,mE.lookup x=some i->∃t,T.mg x=some (.int i t)
 mgN:∀e∈gZ,T.mg e.1=none
 keep:∀a∈Zx,keepIn T.K (.ref a)=true
 cls:∀e∈bO,cE T.K e.1/\makesIn T.K e.1=true/\(∀x f,e.2.1.lookup x=some f->findIn T.K (.ref e.1) x=some (some (.ref f))/\typeIn T.K (.ref f)=some (.type "function"))/\∀x∈e.2.2,findIn T.K (.ref e.1) x=some none
 fn:∀e∈Sk,∃pm cd,gQ T e.1 (Jp e.2.1 e.2.2 .none pm cd) (Uc e.2.1)
 init:∃pm cd,gQ T 92 (Jp (Dc 7 0) "OctetsIn.__init__" (.ref 85) pm cd) (Uc (Dc 7 0))
noncomputable def Xk (x:Str):Option Value:=match P7.lookup x with
 |some v=>some v
 |none=>gZ.lookup x
noncomputable def bP:Value->Bool
 |.type _=>true
 |.builtin _=>true
 |.ref a=>Zx.contains a
 |_=>false
theorem Prg.glob (P:Prg U w T)(h:Xk x=some v):Rq T x v:=by k_with"o"=>
 unfold Xk at h;split at h
 ·rename_i u e;injection h with h;subst h;exact .main (P.mg _ _ e)
 ·have hm:(x,v)∈gZ:=mem_of_lookup h;exact .boot (P.mgN _ hm) ((P.ok.builtins x (aJ _ hm).2).trans (aJ _ hm).1)
theorem Prg.callee (P:Prg U w T)(h:bP v=true):Callee T v:=by k_with"o"=>
 cases v with
 |type n=>exact .ty
 |builtin n=>exact .bi
 |ref a=>exact .kp (P.keep a (Tt.mp h))
 |_=>cases h
theorem sL {p:Pos}(P:Prg U w T)(C:c.Ok)(hx:c.env.kindOf x=some .globalImplicit)(hd:(x==("__debug__" : Str))=false)(g:Xk x=some f)(K:bP f=true)
  (he:eval (.Call (.Name x p) args [] pos) c.env=(do callWith pos (<-eval (.Name x p) c.env) [] (backTo pos (starEach args c.env)) (backToKw pos (keywordEach [] c.env))))
  (AM:starEach args c.env=args.map λe=>(false,eval e c.env))
  (h:Hd U w T c pos args r l (λds l1=>Wn U w T c (λxs=>call f xs) ds r l1 Q X) X):We U w T c (.Call (.Name x p) args [] pos) r l Q X:=by k_with"o"=>exact(yZ C P.ok hx hd (P.glob g) (P.callee K) he AM h)
theorem kM {o:Expr}{name:Str}{apos:Pos}{pl:Sem Bool}(P:Prg U w T)
  (he:eval (.Call (.Attribute o name apos) args [] pos) c.env=(do
   let ov <-eval o c.env
   standAt apos.atName
   let (f,first) <-holding [ov] (getMethod ov name pl)
   callWith pos f first (backTo pos (starEach args c.env)) []))
  (AM:starEach args c.env=args.map λe=>(false,eval e c.env))
  (h:We U w T c o r l (λd l1=>∃f,Vh U w T c r l1 d name f/\Callee T f/\Hd U w T c pos args r l1 (λds l2=>Wn U w T c (λxs=>call f xs) (d::ds) r l2 Q X) X) X) :
  We U w T c (.Call (.Attribute o name apos) args [] pos) r l Q X:=by k_with"o"=>exact(sH P.ok he AM h)
theorem vN {i:Int}(P:Prg U w T)(C:c.Ok)(hx:c.env.kindOf x=some .globalImplicit)(hd:(x==("__debug__" : Str))=false)(g:mE.lookup x=some i)(h:Q (.int i) l):We U w T c (.Name x pos) r l Q X:=by k_with"o"=>exact(let ⟨t,e⟩:=P.mgI x i g
 nU C P.ok hx hd (t:=t) (.main e) h)
theorem Cg.GQ {Q':V->Led->Prop}(h:Cg U w T lev f as l Q X)(hq:∀d l1,Q d l1->∃l2 fr,l1.Perm (l2++fr)/\Q' d l2):Cg U w T lev f as l Q' X:=by k_with"o"=>exact(λA outer s vals h1 h2 h3 h4 h5 h6=>codeAny_mono (h A outer s vals h1 h2 h3 h4 h5 h6) λres s' p=>by
  cases res with
  |ok fl=>
   cases fl with
   |ret v=>
    obtain⟨d,l',a,b,e,q⟩:=p;obtain⟨l2,fr,pk,q'⟩:=hq _ _ q;have mem:∀p,p∈l2->p∈l':=λp hp=>pk.mem_iff.mpr (Al _ hp);refine⟨d,l2,a,⟨b.AH,b.frames,λp hp=>b.led p (mem p hp),?_,λp hp=>b.apart p (mem p hp)⟩,e.mono (λ_ q=>q) λb hb=>.inl ?_,q'⟩
    ·have:=(pk.map (·.1)).nodup_iff.mp b.nodup;rw[Ai] at this;exact(Cd.mp this).1
    ·obtain⟨p,hp,rfl⟩:=Af.mp hb;exact Af.mpr ⟨p,mem p hp,rfl⟩
   |_=>exact p.elim
  |error x=>exact p)
def Eu (Q:V->Led->Prop)(d:V)(l':Led):Prop:=∃l2 fr,l'.Perm (l2++fr)/\Q d l2
theorem Eu.of {l2:Led}(t:Led)(h:Q d l2):Eu Q d (t++l2):=by k_with"o"=>exact(⟨l2,t,Cz,h⟩)
theorem Prg.PH (P:Prg U w T){q:Str}(i:Nat)(hm:Sk[i]?=some (a,st,q))(params:List Str)
  (hb:∀pm cd (vals:List Value),vals.length=params.length->bindArgs (Jp st q .none pm cd) ⟨vals,[]⟩=pure (params.zip vals)) (hlen:params.length=as.length)
  (h:∀(pm cd:Value) (A:Around) (outer:List Env) (L:Addr),(Fu (Jp st q .none pm cd) a A outer L lev).Ok->∃r0,Oo (Eo (L+1) (Hu st).names) ((Eo (L+1) (Hu st).names).map λ_=>none) (params.zip as) r0/\
   Ws U w T (Fu (Jp st q .none pm cd) a A outer L lev) (Uc st) r0 l (λfl _ l'=>match fl with | .ret d=>Eu Q d l' | .next=>Eu Q .none l'|_=>False) X):Cg U w T (lev+1) (.ref a) as l Q X:=by k_with"o"=>exact(let ⟨pm,cd,F⟩:=P.fn _ (Bd hm)
 Cg.GQ (Cg.of_body (Q:=Eu Q) F P.ok params (hb pm cd) hlen (h pm cd)) λ_ _ q=>q)
theorem Js (cl:List (Str×Addr)):∀(ns:List (Str×NameKind)),List.Sublist ((Ea cl ns).filterMap Nm.nameOf) (ns.map (·.1))
 |[]=>.slnil
 |(x,.local)::r=>(Js cl r).cons_cons x
 |(x,.free)::r=>(Js cl r).cons_cons x
 |(x,.cell)::r=>(Js cl r).cons x
 |(x,.globalImplicit)::r=>(Js cl r).cons x
 |(x,.globalExplicit)::r=>(Js cl r).cons x
theorem Si (h:cl.lookup x=some a):(x,a)∈cl:=mem_of_lookup h
theorem Zi {y:Str}(hn:(cl.map (·.2)).Nodup)(h1:(x,a)∈cl)(h2:(y,a)∈cl):x=y:=by k_with"o"=>
 induction cl with
 |nil=>cases h1
 |cons p cl ih=>
  rw[Aj,Ap] at hn;rcases Ag.mp h1 with e1|e1<;>rcases Ag.mp h2 with e2|e2
  ·exact congrArg Prod.fst (e1.trans e2.symm)
  ·exact absurd (Af.mpr ⟨_,e2,by rw[<-e1]⟩) hn.1
  ·exact absurd (Af.mpr ⟨_,e1,by rw[<-e2]⟩) hn.1
  ·exact ih hn.2 e1 e2
theorem gB (hv:(cl.map (·.2)).Nodup)(nk:List (Str×NameKind)):(nk.map (·.1)).Nodup->(nk.all λx=>x.2 != .free || (cl.lookup x.1).isSome)=true->
  ((Ea cl nk).filterMap Nm.cellOf).Nodup/\∀a∈(Ea cl nk).filterMap Nm.cellOf,∃x∈nk.map (·.1),(x,a)∈cl:=by k_with"o"=>
 induction nk with
 |nil=>exact λ_ _=>⟨Ly,λ_ h=>(nomatch h)⟩
 |cons p r ih=>
  obtain⟨x,k⟩:=p;intro hn hs;rw[Aj,Ap] at hn;rw[List.all_cons,Dg] at hs;obtain⟨h1,h2⟩:=ih hn.2 hs.2;have up:∀a∈(Ea cl r).filterMap Nm.cellOf,∃y∈((x,k)::r).map (·.1),(y,a)∈cl:=λa ha=>let ⟨y,hy,hc⟩:=h2 a ha;⟨y,.tail _ hy,hc⟩;cases k with
  |free=>
   obtain⟨a,ha⟩:=eT.mp (show(cl.lookup x).isSome=true from by simpa using hs.1);show(((cl.lookup x).getD 0)::(Ea cl r).filterMap Nm.cellOf).Nodup/\∀b∈((cl.lookup x).getD 0)::(Ea cl r).filterMap Nm.cellOf,_;rw[ha];refine⟨Ap.mpr ⟨λq=>?_,h1⟩,λb hb=>?_⟩
   ·obtain⟨y,hy,hc⟩:=h2 _ q;have:=Zi hv (Si ha) hc;subst this;exact hn.1 hy
   ·rcases Ag.mp hb with e|e
    ·exact⟨x,.head _,e▸Si ha⟩
    ·exact up b e
  | «local»=>exact⟨h1,up⟩
  |cell=>exact⟨h1,up⟩
  |globalImplicit=>exact⟨h1,up⟩
  |globalExplicit=>exact⟨h1,up⟩
theorem Rr.of (h1:closureFor scope c.env=pure cl)(h2:scope.kind=.function)(h3:∀y∈scope.names,y.2≠.cell)(h4:∀x∈scope.names,x.2=.local->scope.names.lookup x.1=some .local)
  (h5:(scope.names.map (·.1)).Nodup) (h6:∀C,∀n∈Ea cl scope.names,zH (compEnvC scope cl C c.env) n) (h7:(cl.map (·.2)).Nodup) (h8:(scope.names.all λx=>x.2 != .free || (cl.lookup x.1).isSome)=true):Rr c scope cl:=by k_with"o"=>exact(⟨h1,h2,h3,h4,h6,(Js cl _).nodup h5,(gB h7 _ h5 h8).1⟩)
noncomputable def Nj (C:Addr)(x:Str):Bool:=bO.any λe=>e.1==C&&e.2.2.contains x
noncomputable def Pr (C:Addr)(x:Str):Option Addr:=(bO.find? λe=>e.1==C).bind λe=>e.2.1.lookup x
theorem Prg.field (P:Prg U w T)(h:Nj C x=true):cE T.K C/\findIn T.K (.ref C) x=some none:=by k_with"o"=>unfold Nj at h;obtain⟨e,he,h⟩:=List.any_eq_true.mp h;obtain⟨h1,h2⟩:=Bp.mp h;obtain⟨k1,_,_,k2⟩:=P.cls e he;have h1:=beq_iff_eq.mp h1;subst h1;exact⟨k1,k2 x (Tt.mp h2)⟩
theorem Prg.KV (P:Prg U w T){f:Addr}(h:Pr C x=some f):cE T.K C/\makesIn T.K C=true/\findIn T.K (.ref C) x=some (some (.ref f))/\typeIn T.K (.ref f)=some (.type "function"):=by k_with"o"=>unfold Pr at h;obtain⟨e,he,hf⟩:=Qr.mp h;obtain⟨k1,k0,k2,_⟩:=P.cls e (gT he);have h1:=beq_iff_eq.mp (List.find?_some (p:=λe:Addr×List (Str×Addr)×List Str=>e.1==C) he);subst h1;exact⟨k1,k0,k2 x f hf⟩
theorem sN {n attr:Str}{np:Pos}(P:Prg U w T)
  (h:We U w T c (.Name n np) r l (λd l1=>∃(a C dd:Addr) (fs:List (Str×V)) (v:V),d=.ref a/\AP l1 a (.inst C dd)/\AP l1 dd (.ns fs)/\Nj C attr=true/\fs.lookup attr=some v/\Q v l1) X) :
  We U w T c (.Attribute (.Name n np) attr pos) r l Q X:=by k_with"o"=>exact(zA P.ok λs R=>wpAny_mono (h s R) (λ_ _ ⟨d,l1,rv,R1,S1,a,C,dd,fs,v,h1,h2,h3,h4,h5,h6⟩=>⟨d,l1,rv,R1,S1,a,C,dd,fs,h1,h2,h3,(P.field h4).1,(P.field h4).2,v,h5,h6⟩) λ_ _ e=>e)
theorem wC {dd:Addr}{name:Str}{f:Addr}(P:Prg U w T)(h1:AP l a (.inst C dd))(h2:AP l dd (.ns fs))(hf:Pr C name=some f)(hs:fs.lookup name=none) :
  Vh U w T c r l (.ref a) name (.ref f)/\Callee T (.ref f):=by k_with"o"=>
 obtain⟨k1,_,k2,k3⟩:=P.KV hf;have ay:isFn T.K (.ref f)=true:=by unfold isFn;rw[k3];rfl
 refine⟨sW P.ok h1 h2 k1 k2 ay hs,.kp (P.keep f ?_)⟩;unfold Pr at hf;obtain⟨e,he,hf⟩:=Qr.mp hf;exact Aq _ (Ib.mpr ⟨e,gT he,Af.mpr ⟨_,mem_of_lookup hf,rfl⟩⟩)
theorem oG {Q:Fl->Rg->Led->Prop}{o:Expr}{attr:Str}{p:Pos}(P:Prg U w T)(hs:swapsWith e (some (.Attribute o attr p)) pos.line c.env=pure false)
  (h:We U w T c e r l (λd l1=>We U w T c o r l1 (λt l2=>∃(a C dd:Addr) (fs:List (Str×V)) (l3:Led),t=.ref a/\AP l2 a (.inst C dd)/\A5 l2 dd (.ns fs) (.ns (Pp fs attr d)) l3/\Nj C attr=true/\(Pp fs attr d).length<=1000/\Q .next r l3) X) X) :
  BY U w T c (.Assign [.Attribute o attr p] e pos) r l Q X:=by k_with"o"=>exact(cC P.ok hs λs R=>wpAny_mono (h s R) (λ_ _ ⟨d,l1,rv,R1,S1,q⟩=>⟨d,l1,rv,R1,S1,λs R=>wpAny_mono (q s R) (λ_ _ ⟨d,l1,rv,R1,S1,a,C,dd,fs,l3,h1,h2,h3,h4,h5,h6⟩=>
  ⟨d,l1,rv,R1,S1,a,C,dd,fs,l3,h1,h2,h3,(P.field h4).1,(P.field h4).2,h5,h6⟩) λ_ _ e=>e⟩) λ_ _ e=>e)
theorem sD {fI:Addr}{fp fr:Led}(P:Prg U w T)(CO:c.Ok)(hl:c.lev=lev+1)(hm:Pr C "__init__"=some fI)
  (pk:Jx l fp fr) (h:∀x dx,Cg U w T lev (.ref fI) (.ref x::ds) ((x,.inst C dx)::(dx,.ns [])::fp) (λd fp'=>d=.none/\Q (.ref x) (fp'++fr)) X):Wn U w T c (λxs=>call (.ref C) xs) ds r l Q X:=by k_with"o"=>exact(let ⟨_,k0,k2,k3⟩:=P.KV hm
 yQ CO P.ok hl k0 k2 k3 pk h)
theorem rZ {Q:Fl->Rg->Led->Prop}(M:Rg->Led->Prop)(h1:BY U w T c st r l (λf r1 l1=>f=.next/\M r1 l1) X)(h2:∀r1 l1,M r1 l1->Ws U w T c ss r1 l1 Q X):Ws U w T c (st::ss) r l Q X:=by k_with"o"=>exact(Ss λs R=>wpAny_mono (h1 s R) (λf s1 ⟨g,r1,l1,hf,R1,S1,hg,hm⟩=>by subst hg;exact⟨.next,r1,l1,hf,R1,S1,h2 r1 l1 hm⟩) λ_ _ e=>e)
theorem nR {Q:Option Int->Led->Prop}(h:Q none l):bS U w T c none r l Q X:=h
theorem Iu {α β:Type}{f:β->α->β}{z:β}{ks:List α}{k:α}(h:ks[i]?=some k):(ks.take (i+1)).foldl f z=f ((ks.take i).foldl f z) k:=by k_with"o"=>rw[Cc,h,Jk];rfl
theorem Jd (h:(intsOf ks)[i]?=some d):∃k,ks[i]?=some k/\d=.int k:=by k_with"o"=>
 unfold intsOf at h;rw[Bw] at h;cases e:ks[i]? with
 |none=>rw[e] at h;cases h
 |some k=>rw[e] at h;injection h with h;exact⟨k,rfl,h.symm⟩
theorem Bu:(intsOf ks).length=ks.length:=Ac ..
theorem Gb {α:Type}{l:List α}{x:α}(h:l[i]?=some x):i<l.length:=by k_with"o"=>exact((Bq.mp h).1)
noncomputable def M4 (pm:Value):FuncData:={Jp (Dc 2 0) "ShapeError.__init__" (.ref 30) pm (.ref 37) with closure:=[("__class__",25)],closureTuple:=.ref 31}
structure Abj (U:Program)(w:World)(T:Ez):Prop where
 fn:∃o pm,T.B.get? 38=some o/\o.cls=.type "function"/\o.data=.func (M4 pm)
 dfl:∃o v n,T.B.get? 30=some o/\o.data=.seq #[v] n
 code:T.B.CodeRec (.ref 37) "ShapeError.__init__"
 codeObj:∃oc vs file tf,T.B.get? 37=some oc/\oc.data=.fields vs/\vs[2]?=some (.str file tf)/\((U.main.file:Str)==file)=true
 cell:T.B.IsCell 25 (some (.ref 48))
 cls48:∃o cd,T.B.get? 48=some o/\o.data=.cls cd
 cls61:∃nm q N bs sn sub ab col dd k0 k1 k2 k3 k5,T.B.get? 61=some (excClassObj nm q 61 N bs ES true sn sub ab col dd k0 k1 k2 k3 k5 "Exception.__new__")
 X:yP T.K 61 48
 init:findIn T.K (.ref 61) "__init__"=some (some (.ref 38))
 fnT:typeIn T.K (.ref 38)=some (.type "function")
 what:findIn T.K (.ref 61) "what"=some none
 at_:findIn T.K (.ref 61) "at"=some none
 sup:alongIn T.K "__init__" [.type "Exception",.type "BaseException",.type "object"]=some (some (.builtin "Exception.__init__"))
 subE:mroIn T.K 61 (.type "Exception")=some true
 sub48:mroIn T.K 61 (.ref 48)=some true
 opq:nsIn T.K cStatics "thirdparty.any"=some none
 top:(U.main.scope.names.lookup ("super" : Str)).isSome=false
structure U' (h:Heap)(e d:Addr)(m:Str->Option Value)(n:Nat):Prop where
 obj:∃t,h.get? e=some {cls:=.ref 61,dict:=some d,data:=.fields #[.ref t,.none,.none,.none,.bool false,.none]}
 ns:oN h d m n
 ne:d≠e
theorem Aag (P:Prg U w T)(XP:Abj U w T){e t0:Addr}{what av:Value}{R:Result->Shared->Prop}(N0:A.depth<recursionLimit)(G:F7 T.B T.s0 s)
  (he:s.heap.get? e=some {cls:=.ref 61,data:=.fields #[.ref t0,.none,.none,.none,.bool false,.none]}) (CX:T.B.objs.size<=e)
  (h:∀h' tk d m,s.heap.objs.size<=d->U' h' e d m 2->m "at"=some av->(∀b o,b≠e->s.heap.get? b=some o->h'.get? b=some o)->s.heap.objs.size<=h'.objs.size->R (.ok (.ret .none)) {s with heap:=h',toks:=tk}) :
  codeAny (model U w) A (.call (.ref 38) ⟨[.ref e,what,av],[]⟩) R s:=by k_with"o"=>
 obtain⟨f9,pm,hf,gu,W'⟩:=XP.fn;obtain⟨oc,vs,file,tf,Z0,G9,R9,ON⟩:=XP.codeObj;obtain⟨od,dv,dn,OR,AQ⟩:=XP.dfl;have hk:=G.stays;refine ks_codeAny_call_defAt (fd:=M4 pm) (body:=Uc (Dc 2 0)) (binds:=[("self",.ref e),("what",what),("at",av)]) N0 (hk _ _ hf) W' (P.ok.nolimit.keeps hk) (XP.code.keeps hk) rfl (.of_defaults rfl (hk _ _ OR) AQ rfl rfl) (show ∀x∈(Hu (Dc 2 0)).names,x.2≠.cell by decide) (λx hx=>by
  rcases Ag.mp hx with rfl|hx
  ·rfl
  rcases Ag.mp hx with rfl|hx
  ·rfl
  rcases Ag.mp hx with rfl|hx
  ·rfl
  cases hx) (λh1 LC DZ=>?_)
 have H8:∀b o,T.B.get? b=some o->h1.get? b=some o:=λb o q=>DZ b o (hk b o q);have X1:T.K.In h1:=λa o q=>H8 a o (P.ok.E8 a o q);have OQ:=DZ _ _ he;generalize hS:({s with heap:=h1,toks:=s.toks+[(("self" : Str),Value.ref e),("what",what),("at",av)].length}:Shared)=S1;have MU:S1.heap=h1:=by rw[<-hS]
 show _root_.PySem.wpAt _ _ _ (execs (Uc (Dc 2 0)) _) _ _ S1;refine ks_wpAt_execs_cons ?_;refine ks_wpAt_Expr_any ?_ rfl rfl;have LA:h1.Ns s.heap.objs.size (λy=>([(("self" : Str),Value.ref e),("what",what),("at",av)]:List (Str×Value)).reverse.lookup y):=LC;obtain⟨f7,ej,XM,PD⟩:=XP.cls48;obtain⟨nm,q,N,bs,sn,sub,ab,col,dd,k0,k1,k2,k3,k5,LZ⟩:=XP.cls61;have hg:∀{s':Shared},(∀b o,T.B.get? b=some o->s'.heap.get? b=some o)->s'.heap.Ns (callEnv (M4 pm) s.heap.objs.size 38).globals T.mg:=λk=>P.ok.g.keeps k;have HA:∀{s':Shared},(∀b o,T.B.get? b=some o->s'.heap.get? b=some o)->s'.heap.Ns (callEnv (M4 pm) s.heap.objs.size 38).builtins T.mb:=λk=>P.ok.b.keeps k;have SG:T.mb "super"=some (.type "super"):=(P.ok.builtins _ (by decide)).trans (by rfl);have NS:T.mg "super"=none:=P.mgN ("super",.type "super") (by decide);refine ks_wpAt_MethodCall ?_ (by rfl);refine ks_wpAt_super_base (f:=38) (cc:=37) (fd:=M4 pm) (ar:=((pG (Dc 2 0)).args.head?).getD default) (file:=file) (tf:=tf) (vs:=vs) rfl rfl (by decide) rfl (MU▸H8 _ _ hf) W' rfl rfl (MU▸H8 _ _ Z0) G9 R9 ON XP.top ?_;refine ks_loadName_global rfl rfl (loadGlobal_builtin (hg (MU▸H8)) NS (HA (MU▸H8)) SG ⟨rfl,?_⟩);refine wpAny_loadName_free rfl rfl rfl (MU▸XP.cell.keeps H8) ?_;refine wpAny_loadName_local rfl rfl (MU▸LA) rfl ?_;subst hS;refine ks_wpAny_isType_cls (H8 _ _ XM) PD ⟨rfl,?_⟩;refine ks_wpAny_call_super (H8 _ _ XM) PD OQ rfl (λc q=>by cases q) (looks_mroIn X1 XP.sub48) λh2 JR k2=>?_;have X2:T.K.In h2:=X1.keeps k2;obtain⟨ei,O0,LD,W3⟩:=XP.X.mro;have TS:Looks (model U w) h2 (mroOf (.ref 61)) [.ref 61,.ref 48,.type "Exception",.type "BaseException",.type "object"]:=by have:=(looks_clsIn (M:=model U w) X2 O0).andThen (f:=λcd=>pure cd.mro) .now;rw[LD] at this;exact this
 have NT:Looks (model U w) h2 (isSubtype (.ref 61) (.type "Exception")) true:=looks_mroIn X2 XP.subE;refine Vn (ox:={cls:=.ref 61,data:=.fields #[.ref t0,.none,.none,.none,.bool false,.none]}) JR (looks_opaque X2 XP.opq) TS rfl X2 XP.sup (k2 _ _ OQ) rfl NT (λq=>?_) ?_
 ·exact absurd (q▸CX) (Nat.not_le.mpr (Am LZ))
 refine callWith_of (P:=λhh=>hh.get? h2.objs.size=some {cls:=.type "method-wrapper",data:=.fields #[.builtin "Exception.__init__",.ref e]}) rfl (λhh q=>⟨_,.inr (.inl rfl),tD q⟩) (evalArgs_plain ?_);have I7:∀b o,h2.get? b=some o->(h2.push {cls:=.type "method-wrapper",data:=.fields #[.builtin "Exception.__init__",.ref e]}).get? b=some o:=λb o q=>Ad _ q;have N5:(h2.push {cls:=.type "method-wrapper",data:=.fields #[.builtin "Exception.__init__",.ref e]}).Ns s.heap.objs.size (λy=>([(("self" : Str),Value.ref e),("what",what),("at",av)]:List (Str×Value)).reverse.lookup y):=LA.keeps λb o q=>I7 b o (k2 b o q);refine spliced_more (wpAny_Name (wpAny_loadName_local rfl rfl N5 rfl (spliced_none ?_)) rfl);refine⟨As _ rfl,?_⟩;refine qR (As _ rfl) (I7 _ _ (k2 _ _ OQ)) rfl (I7 _ _ (k2 _ _ (H8 _ _ LZ))) rfl rfl (Jj rfl) λh3 k3 QB NM=>?_;have LQ:e≠s.heap.objs.size:=By (Am he);have c9:s.heap.objs.size<h2.objs.size:=by obtain⟨o,es,ep,q,_⟩:=LA;exact Am (k2 _ _ q)
 have TR:h2.objs.size<h3.objs.size:=Cv (by rw[Bc];exact Nat.lt_succ_self _) NM;obtain⟨YK,QB⟩:=QB;have LB:h3.Ns s.heap.objs.size (λy=>([(("self" : Str),Value.ref e),("what",what),("at",av)]:List (Str×Value)).reverse.lookup y):=by obtain⟨o,es,ep,q1,q2⟩:=N5;exact⟨o,es,ep,k3 _ _ (Ne.symm LQ) q1,q2⟩
 have kA:∀b o,b≠e->s.heap.get? b=some o->h3.get? b=some o:=λb o hb q=>k3 b o hb (I7 _ _ (k2 _ _ (DZ _ _ q)));have JW:∀b o,T.B.get? b=some o->b≠e:=λb o q z=>absurd (z▸CX) (Nat.not_le.mpr (Am q));have WY:∀b o,T.B.get? b=some o->h3.get? b=some o:=λb o q=>kA b o (JW b o q) (hk b o q);have X3:T.K.In h3:=λa o q=>WY a o (P.ok.E8 a o q);refine ks_wpAt_execs_cons (ks_wpAt_Assign_Attr (wpAt_of_wpAny (wpAny_Name (wpAny_loadName_local rfl rfl LB rfl ?_) rfl)));refine wpAny_Name (wpAny_loadName_local rfl rfl LB rfl ?_) rfl;refine Aaf X3 QB XP.X XP.what λh4 fu dd LS TM WA k4 R7=>?_;have JV:h4.Ns s.heap.objs.size (λy=>([(("self" : Str),Value.ref e),("what",what),("at",av)]:List (Str×Value)).reverse.lookup y):=by obtain⟨o,es,ep,q1,q2⟩:=LB;exact⟨o,es,ep,k4 _ _ (Ne.symm LQ) q1,q2⟩
 have kB:∀b o,b≠e->s.heap.get? b=some o->h4.get? b=some o:=λb o hb q=>k4 b o hb (kA b o hb q);have X4:T.K.In h4:=λa o q=>k4 _ _ (JW a o (P.ok.E8 a o q)) (WY a o (P.ok.E8 a o q));refine ks_wpAt_execs_cons (ks_wpAt_Assign_Attr (wpAt_of_wpAny (wpAny_Name (wpAny_loadName_local rfl rfl JV rfl ?_) rfl)));refine wpAny_Name (wpAny_loadName_local rfl rfl JV rfl ?_) rfl;refine Aae X4 WA rfl rfl rfl XP.X XP.at_ TM (by decide) λh5 YI TL S5=>?_;have XE:dd≠e:=λq=>absurd (Am QB) (Bh.mpr (q▸LS));have SS:s.heap.objs.size<=h3.objs.size:=Fz (oV c9 TR);refine wpAt_of_wpAny (wpAny_execs_nil ?_);refine h h5 YI dd _ (Aa SS LS) ⟨⟨YK,(S5.2 _ XE.symm).trans WA⟩,TL,XE⟩ (if_pos rfl) (λb o hb q=>(S5.2 b λz=>?_).trans (kB b o hb q)) ?_
 ·exact absurd (Am q) (Bh.mpr (Aa SS (z▸LS)))
 ·rw[S5.1];exact Aa SS R7
section
variable {R:Result->Shared->Prop}{g:Array GenState}{d:Drawn}{t:Nat}{os:OsState}
variable {nm q:Str}{N:Addr}{bs:List Value}{sn:List Str}{sub:List Value}{ab:Bool}{col:Option Bool}{dd:Option Addr}{k0 k1 k2 k3 k5:Option Value}
noncomputable abbrev Tu (e0:Addr):Obj:={cls:=.ref 61,data:=.fields #[.ref e0,.none,.none,.none,.bool false,.none]}
noncomputable abbrev Ot (rest:List Value):Obj:={cls:=.type "tuple",data:=.seq rest.toArray}
theorem gY {rest:List Value}{Q:Unit->Shared->Prop}(hC:h.get? 61=some (excClassObj nm q 61 N bs ES true sn sub ab col dd k0 k1 k2 k3 k5 "Exception.__new__"))
  (hq:Q () ⟨h,g,d,t,os⟩):wpAny M A (checkBuiltinCall "Exception.__new__" ⟨.ref 61::rest,[]⟩) Q E ⟨h,g,d,t,os⟩:=by k_with"o"=>
 have F:=PySem.F.excBase_Exception;have OY:(Value.ref 61::ES).contains (.type "Exception")=true:=by decide
 have WG:=F.noStar;simp only[checkBuiltinCall,F.newKind,F.newSplit,F.newRow]
 repeat (first|refine wpAny_loadPart_at hC ?_|(refine wpAny_isSubtype_exc hC ?_;rw[OY])|refine wpAny_staticBase_exc hC ?_|refine wpAny_madeBy_exc hC ?_|simp only[bne_self_eq_false,Bi,if_false]|walk_at"wp")
 exact hq
theorem qQ {rest:List Value}(hC:h.get? 61=some (excClassObj nm q 61 N bs ES true sn sub ab col dd k0 k1 k2 k3 k5 "Exception.__new__"))(GJ:rest.length<=sizeLine)
  (hq:R (.ok (.ret (.ref (h.objs.size+1)))) ⟨(h.push (Ot rest)).push (Tu h.objs.size),g,d,t,os⟩) :
  codeAny (model U w) A (.builtin "Exception.__new__" ⟨.ref 61::rest,[]⟩) R ⟨h,g,d,t,os⟩:=by k_with"o"=>
 have F:=PySem.F.excBase_Exception;have XA:=F.ends;have O2:(Value.ref 61::ES).contains (.type "Exception")=true:=by decide
 have bx:(Value.ref 61::ES).contains (.type "AttributeError")=false:=by decide
 have bu:(Value.ref 61::ES).contains (.type "NameError")=false:=by decide
 refine codeAny_builtinAt F.entry ?_;unfold Builtin.«BaseException.__new__»;refine _root_.PySem.wpAt_bind ?_;show _root_.PySem.wpAt _ _ _ (stack >>= _) _ _ _;refine _root_.PySem.wpAt_bind (_root_.PySem.wpAt_stack λp below=>_root_.PySem.wpAt_of_wpAny ?_)
 wp_walk
 refine _root_.PySem.wpAt_of_wpAny ?_;rw[F.owner]
 repeat (first|with_reducible refine wpAny_madeHere_exc F.canon hC ?_|with_reducible refine wpAny_loadPart_at hC ?_|(with_reducible refine wpAny_isSubtype_exc hC ?_;first|rw[O2]|rw[bx]|rw[bu])|walk_at"wp")
 show R _ _;rw[Bc];exact hq
theorem lJ {K:Frag}{rest:List Value}{Q:Value->Shared->Prop}(X:K.In h)(hC:h.get? 61=some (excClassObj nm q 61 N bs ES true sn sub ab col dd k0 k1 k2 k3 k5 "Exception.__new__"))(hi:findIn K (.ref 61) "__init__"=some (some (.ref 38)))
  (hf:typeIn K (.ref 38)=some (.type "function")) (GJ:rest.length<=sizeLine)
  (hq:codeAny (model U w) (A.under (.builtin "type.__call__" ⟨.ref 61::rest,[]⟩)) (.call (.ref 38) ⟨.ref (h.objs.size+1)::rest,[]⟩) (λres s'=>match res with | .ok (.ret v)=>v=.none/\Q (.ref (h.objs.size+1)) s' | .ok _=>False | .error x=>E x s')
   ⟨(h.push (Ot rest)).push (Tu h.objs.size),g,d,t,os⟩):wpAny (model U w) A (call (.ref 61) rest) Q E ⟨h,g,d,t,os⟩:=by k_with"o"=>
 have F:=PySem.F.excBase_Exception;have f1:=tc_lookup;have f2:=tc_bind (.ref 61);have hT:(⟨h,g,d,t,os⟩:Shared).TypeIs (.ref 61) "type":=⟨_,hC,rfl⟩;refine wpAny_call (codeAny_of_tree ?_);show wpAny _ _ (callAny (.ref 61) _) _ _ _
 repeat (any_goals (first|with_reducible assumption|with_reducible refine wpAny_loadPart_at hC ?_|walk_at"wp" |assumption))
 refine⟨rfl,?_⟩;refine codeAny_call_builtin_at (Code.quiet_builtin _ (by decide +kernel)) entry_typeCall (wpAny_check_type_call_sub hC ?_)
 repeat (first|with_reducible refine wpAny_loadPart_at hC ?_|with_reducible refine wpAny_madeBy_exc hC ?_|walk_at"wp")
 refine codeAny_call_builtin_code (Code.quiet_builtin _ F.quiet) (gY hC ?_);refine qQ hC GJ ?_;show wpAny _ _ _ _ _ _;have hk:∀b o,h.get? b=some o->((h.push (Ot rest)).push (Tu h.objs.size)).get? b=some o:=λb o e=>Ad _ (Ad _ e);have hC₁:=hk _ _ hC;have X₁:K.In ((h.push (Ot rest)).push (Tu h.objs.size)):=X.keeps hk;have LM:((h.push (Ot rest)).push (Tu h.objs.size)).get? (h.objs.size+1)=some (Tu h.objs.size):=by have:=As (o:=Tu h.objs.size) (h.push (Ot rest)) rfl;rw[Bc] at this;exact this
 have bw:(Value.ref 61::ES).contains (.ref 61)=true:=by decide
 unfold isInstance
 repeat (first|with_reducible refine wpAny_loadPart_at LM ?_|walk_at"wp")
 refine wpAny_isSubtype_exc hC₁ ?_;rw[bw]
 repeat walk_at"wp"
 show wpAny _ _ (typeLookup (.ref 61) _) _ _ _;refine Looks.here (s:=⟨(h.push (Ot rest)).push (Tu h.objs.size),g,d,t,os⟩) (looks_findIn X₁ hi) ?_;refine wpAny_holding (wpAny_bind (Looks.here (s:=⟨(h.push (Ot rest)).push (Tu h.objs.size),g,d,t,os⟩) (bind_fn X₁ _ hf) ?_));show wpAny _ _ (call (.ref 38) ([.ref (h.objs.size+1)]++rest) [] >>= _) _ _ _;refine wpAny_bind (wpAny_call (codeAny_mono hq λres s' p=>?_));cases res with
 |error x=>exact p
 |ok fl=>
  cases fl with
  |ret v=>
   obtain⟨rfl,p⟩:=p;show wpAny _ _ _ _ _ s'
   repeat walk_at"wp"
   exact p
  |_=>exact p
theorem tC {env:Env}{e dx t0:Addr}{x:Sem Value}{Q:Flow->Shared->Prop}(hh:A.handled=none)
  (h:wpAny M A x (λv s₁=>∃e dx t,v=.ref e/\s₁.heap.get? 61=some (excClassObj nm q 61 N bs ES true sn sub ab col dd k0 k1 k2 k3 k5 "Exception.__new__")/\
   s₁.heap.get? e=some {cls:=.ref 61,dict:=some dx,data:=.fields #[.ref t,.none,.none,.none,.bool false,.none]}/\E (.ref e) s₁) E s) :
  wpAny M A (raiseStmt env (some x) none) Q E s:=by k_with"o"=>
 have O2:(Value.ref 61::ES).contains (.type "BaseException")=true:=by decide
 unfold raiseStmt;refine wpAny_bind (wpAny_mono h (λv s₁ h₁=>?_) λ_ _ x=>x);obtain⟨e,dx,t,rfl,hC,he,hE⟩:=h₁;obtain⟨hp,g,d,tk,os⟩:=s₁
 repeat (first|with_reducible refine wpAny_loadPart_at he ?_|with_reducible refine wpAny_loadPart_at hC ?_|(with_reducible refine wpAny_isSubtype_exc hC ?_;rw[O2])|walk_at"wp")
 exact wpAny_raiseNew_none hh hE
end
theorem Nw {Q:Fl->Rg->Led->Prop}{np L7:Pos}(P:Prg U w T)(XP:Abj U w T)(UZ:T.CT=61)(C:c.Ok)(hx:c.env.kindOf "TableFault"=some .globalImplicit)
  (AM:starEach args c.env=args.map λe=>(false,eval e c.env))
  (h:Hd U w T c L7 args r l (λds l1=>∃what i,ds=[what,.int i]/\X i) X):BY U w T c (.Raise (some (.Call (.Name "TableFault" np) args [] L7)) none pos) r l Q X:=by k_with"o"=>exact(λs R=>by
 obtain⟨nm,q,N,bs,sn,sub,ab,col,dd,k0,k1,k2,k3,k5,LZ⟩:=XP.cls61;rw[arm_exec_Raise];refine wpAny_bind (wpAny_standAt (tC (nm:=nm) (q:=q) (N:=N) (bs:=bs) (sn:=sn) (sub:=sub) (ab:=ab) (col:=col) (dd:=dd) (k0:=k0) (k1:=k1) (k2:=k2) (k3:=k3) (k5:=k5) (e:=0) (dx:=0) (t0:=0) C.handled ?_));show wpAny _ _ (eval ((Expr.Name (Str.ofString "TableFault") np).Call args [] L7) c.env >>= λv=>standAt pos >>= λ_=>pure v) _ _ _;refine wpAny_bind (Call_ (Me C P.ok hx rfl (P.glob (v:=.ref 61) rfl) R.AH (Lq P.ok (P.callee (v:=.ref 61) (by decide)) AM (wpAny_mono (h s R) (λvs s1 ⟨ds,l1,rv,R1,S1,what,i,UJ,hX⟩=>⟨R1.AH,?_⟩) λ_ _ e=>e))) rfl);subst UJ;obtain⟨v1,v2,rfl,FN,DN⟩:∃v1 v2,vs=[v1,v2]/\RV s1.heap what v1/\RV s1.heap (.int i) v2:=by
  cases rv with
  |cons a b=>cases b with
   |cons b d=>cases d;exact⟨_,_,rfl,a,b⟩
 obtain⟨ti,rfl⟩:=DN.intAt;have G1:=R1.AH;have hk:=G1.stays;have X1:T.K.In s1.heap:=R1.E8 P.ok;obtain⟨hp,g,d,tk,os⟩:=s1;have PC:=hk _ _ LZ;refine lJ X1 PC XP.init XP.fnT (Jj rfl) ?_;have Z':∀b o,hp.get? b=some o->((hp.push (Ot [v1,.int i ti])).push (Tu hp.objs.size)).get? b=some o:=λb o e=>Ad _ (Ad _ e);have LM:((hp.push (Ot [v1,.int i ti])).push (Tu hp.objs.size)).get? (hp.objs.size+1)=some (Tu hp.objs.size):=by have:=As (o:=Tu hp.objs.size) (hp.push (Ot [v1,.int i ti])) rfl;rw[Bc] at this;exact this
 have hsz2:((hp.push (Ot [v1,.int i ti])).push (Tu hp.objs.size)).objs.size=hp.objs.size+2:=by rw[Bc,Bc]
 have hB:T.B.objs.size<=hp.objs.size:=G1.room;have G2:F7 T.B T.s0 ⟨(hp.push (Ot [v1,.int i ti])).push (Tu hp.objs.size),g,d,tk,os⟩:=((G1.push _).push _);refine Aag P XP (s:=⟨(hp.push (Ot [v1,.int i ti])).push (Tu hp.objs.size),g,d,tk,os⟩) (av:=.int i ti) ?_ G2 LM (Gg hB) λh' M5 dx m JA XO hm k' QA=>⟨rfl,?_⟩
 ·have:=C.depth;show c.A.depth+1<recursionLimit;exact Cv (m:=402) (by omega) (by decide)
 refine wpAny_bind (wpAny_standAt (wpAny_pure ?_));obtain⟨⟨t',N3⟩,LC,BK⟩:=XO;have JA:hp.objs.size+2<=dx:=hsz2▸JA;have QA:hp.objs.size+2<=h'.objs.size:=hsz2▸QA;have IV:∀b o,hp.get? b=some o->h'.get? b=some o:=λb o q=>k' b o (λz=>absurd (z▸Am q) (Bh.mpr (Cb _))) (Z' _ _ q);refine⟨_,dx,t',rfl,IV _ _ PC,N3,?_⟩;obtain⟨LC,oD,es,ep,q1,q2,q3,q4⟩:=LC;refine Exc.shift S1 (λ_ q=>q) (X:=X) ⟨⟨?_,λb o e=>IV b o (hk b o e),Aa hB (Aa (Kn _ 2) QA)⟩,R1.frames.keep λb o e h1 h2=>⟨o,IV b o e,h1,h2⟩,λb o e _=>⟨o,IV b o e,.refl o⟩,Aa (Kn _ 2) QA,_,i,rfl,hX,?_⟩
 ·obtain⟨hh,PZ,e⟩:=G1.hs;exact⟨h',M5,by injection e;subst_vars;rfl⟩
 ·have n1:J9 T.B.objs.size hp.objs.size (hp.objs.size+1):=⟨Cb _,Gg hB⟩;have n2:J9 T.B.objs.size hp.objs.size dx:=⟨Aa (Kn _ 2) JA,Aa hB (Aa (Kn _ 2) JA)⟩;rw[UZ];exact⟨dx,_,_,N3,n1,n2,BK,(show 1<6 by decide),⟨m,ti,LC,hm⟩,⟨oD,q1,q2⟩,.inl ⟨rfl,rfl⟩⟩)
section
variable {R:Result->Shared->Prop}{g:Array GenState}{d:Drawn}{t:Nat}{os:OsState}
variable {nm q:Str}{N:Addr}{bs:List Value}{sn:List Str}{sub:List Value}{ab:Bool}{col:Option Bool}{dd:Option Addr}{k0 k1 k2 k3 k5:Option Value}
variable {K:Frag}{e dx t0:Addr}
theorem lI {JM:Value}{Q:Unit->Shared->Prop}(hC:h.get? 61=some (excClassObj nm q 61 N bs ES true sn sub ab col dd k0 k1 k2 k3 k5 "Exception.__new__"))(hx:h.get? e=some o)(hc:o.cls=.ref 61)
  (hq:Q () ⟨h,g,d,t,os⟩):wpAny M A (checkBuiltinCall "BaseException.__getattribute__" ⟨[.ref e,JM],[]⟩) Q E ⟨h,g,d,t,os⟩:=by k_with"o"=>
 have hk:builtinKind "BaseException.__getattribute__"=some .slot:=by decide +kernel
 have HT:splitId "BaseException.__getattribute__"=some ("BaseException","__getattribute__"):=by decide +kernel
 have O2:(Value.ref 61::ES).contains (.type "BaseException")=true:=by decide
 have ha:=PySem.F.args_bexc_ga (.ref e) JM;simp only[checkBuiltinCall,hk,HT];refine wpAny_bind ?_
 ·unfold isInstance
  repeat (first|(with_reducible refine wpAny_loadPart_at hx ?_;rw[hc])|(with_reducible refine wpAny_isSubtype_exc hC ?_;rw[O2])|walk_at"wp")
  exact hq
theorem lK {tk:Tok}{Q:Fin->Shared->Prop}{od:Option Obj}(X:K.In h)(I:InstAt h e o 61 od)(hf:findObj K 61 od "at"=some (.value v))
  (hq:Q (.done (.ret v)) ⟨h,g,d,t,os⟩):wpAny (model U w) A (Builtin.«object.__getattribute__» ⟨[.ref e,.str "at" tk],[]⟩) Q E ⟨h,g,d,t,os⟩:=by k_with"o"=>
 have L0:=I.type (M:=model U w);have L1:=looks_find (M:=model U w) X I hf;refine wpAny_bind (wpAny_pure (wpAny_bind (wpAny_pure (wpAny_bind (L0.at (wpAny_bind (L1.at ?_)))))));exact wpAny_pure hq
theorem wQ {tk:Tok}{fill expr:Bool}{Q:Value->Shared->Prop}{od:Option Obj}(X:K.In h)(hC:h.get? 61=some (excClassObj nm q 61 N bs ES true sn sub ab col dd k0 k1 k2 k3 k5 "Exception.__new__"))(hx:h.get? e=some o)(hc:o.cls=.ref 61)
  (I:InstAt h e o 61 od) (hf:findObj K 61 od "at"=some (.value v)) (LN:findIn K (.ref 61) "__getattribute__"=some (some (.builtin "BaseException.__getattribute__"))) (LK:findIn K (.ref 61) "__getattr__"=some none) (hv:handedIn v=true)
  (FB:Slot "Exception" "__getattribute__" "BaseException.__getattribute__") (hq:Q v ⟨h,g,d,t,os⟩):wpAny (model U w) A (getAttrBy (.ref e) (.str "at" tk) fill expr) Q E ⟨h,g,d,t,os⟩:=by k_with"o"=>
 have f3:=FB.bind (.ref e);have WB:(expr&&onTheHeap (Value.builtin "BaseException.__getattribute__"))=false:=by cases expr<;>rfl
 have KY:(Value.builtin "BaseException.__getattribute__"== Value.builtin "object.__getattribute__")=false:=by decide +kernel
 have KZ:(onTheHeap (Value.ref 61)&&Value.builtin "BaseException.__getattribute__"== Value.builtin "object.__getattribute__")=false:=by rw[KY];rfl
 have h1:=looks_findIn (M:=model U w) X LN;have h2:=looks_findIn (M:=model U w) X LK
 repeat (any_goals (first|with_reducible assumption|(with_reducible refine wpAny_loadPart_at hx ?_;rw[hc])|with_reducible refine h1.at ?_|with_reducible refine h2.at ?_|walk_at"wp" |assumption))
 refine codeAny_call_builtin FB.plain PySem.F.entry_bexc_ga (lI hC hx hc (lK X I hf ?_));show wpAny _ _ (handedOut v) _ _ _;rw[handedOut_of hv];exact wpAny_pure hq
theorem wO {expr:Bool}{Q:Value->Shared->Prop}{od:Option Obj}(X:K.In h)(hC:h.get? 61=some (excClassObj nm q 61 N bs ES true sn sub ab col dd k0 k1 k2 k3 k5 "Exception.__new__"))(hx:h.get? e=some o)(hc:o.cls=.ref 61)
  (I:InstAt h e o 61 od) (hf:findObj K 61 od "at"=some (.value v)) (LN:findIn K (.ref 61) "__getattribute__"=some (some (.builtin "BaseException.__getattribute__"))) (LK:findIn K (.ref 61) "__getattr__"=some none) (hv:handedIn v=true)
  (FB:Slot "Exception" "__getattribute__" "BaseException.__getattribute__") (hq:Q v ⟨h,g,d,t+1,os⟩):wpAny (model U w) A (getAttr (.ref e) "at" expr) Q E ⟨h,g,d,t,os⟩:=by k_with"o"=>
 unfold getAttr
 repeat (any_goals (first|with_reducible assumption|with_reducible apply wQ X hC hx hc I hf LN LK hv FB|walk_at"wp" |assumption))
end
section
open PySem.SeqAt
theorem eP {Q:Fl->Rg->Led->Prop}{test:Expr}(C:c.Ok)(J:Nat->Rg->Led->Prop)(n:Nat)(hJ:J n r l)
  (turn:∀n r l,J n r l->Wb U w T c test r l (λb l1=>if b then Ws U w T c body r l1 (λfl r2 l2=>match fl with
   |.next=>∃m,m<n/\J m r2 l2 | .cont=>∃m,m<n/\J m r2 l2 | .brk=>Q .next r2 l2 | .ret d=>Q (.ret d) r2 l2) X else Q .next r l1) X) :
  BY U w T c (.While test body [] pos) r l Q X:=by k_with"o"=>exact(λs R=>by
 refine wpAny_While (codeAny_whileLoop (λn s'=>∃r' l',Co U w T c s' r' l'/\J n r' l'/\Step (c.own l) (c.own l') s.heap s'.heap) ?_ n ⟨r,l,R,hJ,.refl _ _⟩);rintro n s1 ⟨r1,l1,R1,hJ,S1⟩;have err:∀{BC:List Addr} {h1:Heap} (x:Value) (s':Shared),Step (c.own l) BC s.heap h1->Exc U w T c.outer BC h1 false X x s'->notedBy (model U w) c.A c.env (λe C3=>cameBackBy (model U w) c.A c.env (Exc U w T c.outer (c.own l) s.heap false X) e C3) x s':=λx s' S e=>
  Wq C (e.shift S λ_ q=>q) λ_ e3=>e3.weak
 refine wpAny_mono (turn n r1 l1 hJ s1 R1) (λb s2 ⟨l2,R2,S2,q⟩=>?_) λx s2 e=>err x s2 S1 e;cases b with
 |false=>exact wpAny_execs_nil ⟨.next,r1,l2,rfl,R2,S1.trans S2,q⟩
 |true=>
  refine wpAny_mono (q s2 R2) (λf s3 ⟨g,r3,l3,hf,R3,S3,q3⟩=>?_) λx s3 e=>err x s3 (S1.trans S2) e;have FQ:=(S1.trans S2).trans S3;cases g with
  |next=>cases hf;obtain⟨m,hm,hj⟩:=q3;exact⟨m,hm,r3,l3,R3,hj,FQ⟩
  |cont=>cases hf;obtain⟨m,hm,hj⟩:=q3;exact⟨m,hm,r3,l3,R3,hj,FQ⟩
  |brk=>cases hf;exact⟨.next,r3,l3,rfl,R3,FQ,q3⟩
  |ret d=>obtain⟨v,rfl,F'⟩:=hf;exact⟨.ret d,r3,l3,⟨v,rfl,F'⟩,R3,FQ,q3⟩)
def VO (m:Led->Prop)(l:Led):Prop:=∃l1,Bm l l1/\m l1
def SV (n:Nat)(d:V):Prop:=d.pl=true/\d.dat.canLay0=true/\d.dat.depth<=n
theorem SV.int (n:Nat)(i:Int):SV n (.int i):=⟨rfl,rfl,Ca _⟩
theorem SV.none (n:Nat):SV n .none:=⟨rfl,rfl,Ca _⟩
theorem SV.all:∀{l:List V},(∀d∈l,SV n d)->Yk l=true/\PyData.canLayAll0 (Mw l)=true/\PyData.depthAll (Mw l)<=n
 |[],_=>⟨rfl,rfl,Ca _⟩
 |d::l,h=>by k_with"o"=>obtain⟨a1,a2,a3⟩:=h d (.head _);obtain⟨b1,b2,b3⟩:=SV.all (l:=l) λe he=>h e (.tail _ he);exact⟨Bp.mpr ⟨a1,b1⟩,Bp.mpr ⟨a2,b2⟩,Nat.max_le.mpr ⟨a3,b3⟩⟩
theorem SV.tup {l:List V}(h:∀d∈l,SV n d):SV (n+1) (.tup l):=by k_with"o"=>exact(let ⟨a,b,k⟩:=SV.all h;⟨a,b,Km k⟩)
theorem SV.mono {m:Nat}(h:SV n d)(k:n<=m):SV m d:=by k_with"o"=>exact(⟨h.1,h.2.1,Aa h.2.2 k⟩)
theorem SV.toShaped (h:SV n d)(k:n<=64):shaped d.dat=true:=by k_with"o"=>exact(Bp.mpr ⟨h.2.1,decide_eq_true (Aa h.2.2 k)⟩)
theorem SV.list {l:List V}(h:∀d∈l,SV n d)(k:n<64):Yk l=true/\shaped (.list (Mw l))=true:=by k_with"o"=>exact(let ⟨a,b,e⟩:=SV.all h
 ⟨a,Bp.mpr ⟨b,decide_eq_true (Aa (Km e) k)⟩⟩)
theorem pX (l:List V):PyData.eqv (.list (Mw l)) (.list [])=l.isEmpty:=by k_with"o"=>cases l<;>rfl
theorem Qn (C:c.Ok){b:Addr}(ha:AP l a (.list xs))(hb:AP l b (.list []))(hs:∀d∈xs,SV 60 d)(h:Q (.bool (!xs.isEmpty)) l):W2 U w T c (compareOp .NotEq) (.ref a) (.ref b) r l Q X:=by k_with"o"=>obtain⟨k1,k2⟩:=SV.list hs (by decide);refine Xx C (.list ha k1) (.list hb rfl) k2 rfl ?_;show Q (.bool (!PyData.eqv (.list (Mw xs)) (.list []))) l;rw[pX];exact h
theorem eN (C:c.Ok){b:Addr}(ha:AP l a (.list xs))(hb:AP l b (.list []))(hs:∀d∈xs,SV 60 d)(h:Q (.bool xs.isEmpty) l):W2 U w T c (compareOp .Eq) (.ref a) (.ref b) r l Q X:=by k_with"o"=>obtain⟨k1,k2⟩:=SV.list hs (by decide);refine eO C (.list ha k1) (.list hb rfl) k2 rfl ?_;show Q (.bool (PyData.eqv (.list (Mw xs)) (.list []))) l;rw[pX];exact h
theorem Vf (C:c.Ok){x:V}(hs:SV 60 x)(h:Q (.bool false) l):W2 U w T c (compareOp .NotEq) x x r l Q X:=by k_with"o"=>refine Xx C (.val hs.1) (.val hs.1) (hs.toShaped (by decide)) (hs.toShaped (by decide)) ?_;rw[eqv_refl _ hs.2.1];exact h
theorem Xf (i j:Int):SV (n+1) (.tup [.int i,.int j]):=by k_with"o"=>exact(SV.tup λd hd=>by
 rcases Ag.mp hd with rfl|hd
 ·exact .int n i
 rcases Ag.mp hd with rfl|hd
 ·exact .int n j
 ·cases hd)
theorem Bm.pick {k m fp:Led}{p:Addr×O}(h:Zp k p m)(d:Bm m fp):Bm k (p::fp):=by k_with"o"=>obtain⟨fr,q⟩:=d;exact⟨fr,h.perm.trans (q.cons p)⟩
theorem Bm.skip {k fp:Led}{p:Addr×O}(d:Bm k fp):Bm (p::k) fp:=Bm.snd.trans d
theorem Bm.nil (k:Led):Bm k []:=⟨k,.refl _⟩
theorem zE {Q:Fl->Rg->Led->Prop}(M:Rg->Led->Prop)(h:BY U w T c st r l (λf r1 l1=>f=.next/\M r1 l1) X)(k:∀r1 l1,M r1 l1->Q .next r1 l1):BY U w T c st r l Q X:=by k_with"o"=>exact(λs R=>
 wpAny_mono (h s R) (λf s1 ⟨g,r1,l1,hf,R1,S1,hg,hm⟩=>by subst hg;exact⟨.next,r1,l1,hf,R1,S1,k r1 l1 hm⟩) λ_ _ e=>e)
end
section
namespace F
open PySem.F
theorem DA:typeLookup (.type "bytearray") "__bytes__"=pure none:=by k_with"o"=>rw[typeLookup_type,builtinLookup_eq_fast];kernel_rfl
theorem C9:typeLookup (.type "bytearray") "__index__"=pure none:=by k_with"o"=>rw[typeLookup_type,builtinLookup_eq_fast];kernel_rfl
theorem BI:typeLookup (.type "bytearray") "__buffer__"=pure (some (.builtin "bytearray.__buffer__")):=by k_with"o"=>rw[typeLookup_type,builtinLookup_eq_fast];kernel_rfl
theorem DP:typeLookup (.type "bytearray") "__release_buffer__"=pure (some (.builtin "bytearray.__release_buffer__")):=by k_with"o"=>rw[typeLookup_type,builtinLookup_eq_fast];kernel_rfl
theorem BL:isSubtype (.type "bytearray") (.type "bytearray")=pure true:=by rw[isSubtype_type];kernel_rfl
end F
namespace Cl
section
theorem tS {Q:Bool->Shared->Prop}(hT:s.TypeIs (.ref a) "bytearray")(h:Q true s):wpAny (model U w) A (Builtin.Bytes.slotIsOwn (.ref a) "__buffer__") Q E s:=by k_with"o"=>unfold Builtin.Bytes.slotIsOwn;refine wpAny_bind (wpAny_specialOf hT Nu.F.BI ?_);dsimp only;rw[if_neg (show ¬((!"bytearray.__buffer__".endsWith ("."++"__buffer__"))=true) from by decide +kernel),show "bytearray.__buffer__".dropRight ("__buffer__".length+1) = "bytearray" from by decide +kernel];exact wpAny_isInstance hT Nu.F.BL h
theorem Vs {Q:Bool->Shared->Prop}(hT:s.TypeIs (.ref a) "bytearray")(h:Q false s):wpAny (model U w) A (Builtin.Bytes.ownRelease (.ref a)) Q E s:=by k_with"o"=>unfold Builtin.Bytes.ownRelease Builtin.Bytes.slotIsOwn;refine wpAny_bind (wpAny_bind (wpAny_specialOf hT Nu.F.DP ?_));dsimp only;rw[if_neg (show ¬((!"bytearray.__release_buffer__".endsWith ("."++"__release_buffer__"))=true) from by decide +kernel),show "bytearray.__release_buffer__".dropRight ("__release_buffer__".length+1) = "bytearray" from by decide +kernel];exact wpAny_isInstance hT Nu.F.BL (wpAny_pure h)
theorem uW {x:Array UInt8}{Q:Value->Shared->Prop}(ho:s.heap.get? a=some {cls:=.type "bytearray",data:=.bytearray x})(hz:x.size<=sizeLine)
  (hQ:∀t k,Q (.bytes x t) {s with toks:=k}):codeAny (model U w) A (.call (.builtin "bytes.__new__") ⟨[.type "bytes",.ref a],[]⟩) (wants Q E) s:=by k_with"o"=>
 refine codeAny_of_tree ?_;show wpAny _ A.in1 (do checkBuiltinCall "bytes.__new__" ⟨[.type "bytes",.ref a],[]⟩;again (.builtin "bytes.__new__" ⟨[.type "bytes",.ref a],[]⟩)) _ _ s;refine wpAny_bind (wpAny_of_eq (F.bm_newCall _) (wpAny_pure ⟨plainId_quiet F.bm_plain _,codeAny_builtin F.bm_entry ?_⟩));rw[Around.under_plainId F.bm_plain _];have hT:s.TypeIs (.ref a) "bytearray":=⟨_,ho,rfl⟩;unfold Builtin.«bytes.__new__»;refine wpAny_bind (wpAny_of_eq (a:=true) rfl ?_);refine bm_if_false rfl ?_;refine wpAny_bind (wpAny_of_eq F.bm_sub ?_);refine bm_if_false rfl ?_;refine wpAny_bind (wpAny_of_eq (F.bm_bind _) ?_);refine wpAny_bind (wpAny_of_eq (a:=()) rfl ?_);refine wpAny_bind (wpAny_of_eq (a:=()) rfl ?_);refine bm_if_false rfl ?_;refine wpAny_bind (wpAny_specialOf hT F.DA ?_);refine wpAny_bind (wpAny_bind ?_);show wpAny _ _ (load a >>= _) _ _ _;refine wpAny_bind (wpAny_load ho ?_);refine wpAny_pure (wpAny_pure ?_);refine bm_if_false rfl ?_;refine wpAny_bind (wpAny_specialOf hT F.C9 ?_);refine bm_if_true rfl ?_
 first
  |show wpAny _ _ (Builtin.Bytes.buffer? "bytes.__new__" (.ref a) true >>= _) _ _ _
  |(refine wpAny_bind ?_;show wpAny _ _ (Builtin.Bytes.buffer? "bytes.__new__" (.ref a) true >>= _) _ _ _)
 refine wpAny_bind ?_;unfold Builtin.Bytes.buffer?;refine wpAny_bind (wpAny_specialOf hT F.BI ?_)
 try dsimp only
 refine wpAny_bind (tS hT ?_);rw[if_neg (by decide)];refine wpAny_bind (wpAny_specialOf hT F.BI ?_)
 try dsimp only
 refine wpAny_bind (Vs hT ?_);rw[if_neg (by decide)];unfold Builtin.Bytes.payload Builtin.Bytes.payload?;refine wpAny_bind (wpAny_bind (wpAny_bind (wpAny_load ho (wpAny_pure (wpAny_pure (wpAny_pure ?_))))));refine wpAny_bind (wpAny_rule ?_);refine wpAny_bind (wpAny_mkBytes ?_ hz);show wpAny _ _ (if (Value.type "bytes"== Value.type "bytes")=true then _ else _) _ _ _;refine bm_if_true (by decide) ?_
 first
  |exact wpAny_pure (hQ _ _)
  |exact wpAny_bind (wpAny_pure (wpAny_pure (hQ _ _)))
theorem Zk {x:Array UInt8}{Q:Value->Shared->Prop}(ho:s.heap.get? a=some {cls:=.type "bytearray",data:=.bytearray x})(hz:x.size<=sizeLine)
  (hQ:∀t k,Q (.bytes x t) {s with toks:=k}):wpAny (model U w) A (call (.type "bytes") [.ref a]) Q E s:=by k_with"o"=>
 refine callType_codes (Q₁:=λobj s₁=>s₁.TypeIs obj "bytes"/\Q obj s₁) F.bm_called (F.bm_typeCall _) F.entry_object_init
  (uW ho hz λt k=>⟨PySem.W.typeIs_bytes _ _ _,hQ t k⟩) λobj s₁ h₁=>?_
 exact⟨h₁.1,F.args_object_init_2 obj _,object_init_meets F.bm_called.init.lookup F.bm_called.made (by decide) U w A.in1 _ s₁ ⟨h₁.1,rfl,h₁.2⟩⟩
end
end Cl
end
section
namespace Cl
section
variable {R:Result->Shared->Prop}
theorem nC {c:Code}(hd:dZ c=false)
  (h:wpAny (model U w) (A.under c) ((model U w).den c) (λfin s'=>match fin with | .done f=>R (.ok f) s' | .again c'=>c'.quiet=true/\Gw (model U w) A c' R s') (λe s'=>R (.error e) s') s):Gw (model U w) A c R s:=by k_with"o"=>exact(Ej hd (Fg h))
theorem bN {args:Args}{fd:FuncData}(room:A.depth<recursionLimit)(ho:s.heap.get? a=some o)(hd:o.data=.func fd)(h1:fd.scope.isCoroutine=false)(h2:fd.scope.isGenerator=false)
  (hb:fd.body=.stmts body) (hc:s.heap.CodeRec fd.code fd.qualname)
  (h:wpAny (model U w) A.in1 (bindArgs fd args) (λbinds s₁=>wpAny (model U w) A.in1 (newFunctionEnv fd.scope fd.globals fd.closure binds (fd.qualname ++ ".<locals>.") (some a) fd.code none fd.builtins)
    (λenv s₂=>s₂.heap.NoLimit/\Gw (model U w) A (.func body env) R s₂) (λe s'=>R (.error e) s') s₁) (λe s'=>R (.error e) s') s):Gw (model U w) A (.call (.ref a) args) R s:=by k_with"o"=>
 refine nC rfl ?_;show wpAny _ A.in1 (callAny (.ref a) args) _ _ s;unfold callAny;refine wpAny_bind (wpAny_load ho ?_);obtain⟨c,oc,vs,tq,e1,e2,e3,e4⟩:=hc;rw[e1] at h;simp only[hd,callFunction,h1,h2,hb,e1];refine wpAny_bind (m:=field (.ref c) 1) (wpAny_field e2 e3 e4 (wpAny_bind (wpAny_pure ?_)));refine wpAny_bind (wpAny_mono h (λbinds s₁ k=>?_) λ_ _ x=>x);refine wpAny_bind (wpAny_mono k (λenv s₂ k2=>?_) λ_ _ x=>x);exact wpAny_bind (wpAny_enterFrame k2.1 room (wpAny_pure ⟨rfl,k2.2⟩))
theorem nE {env:Env}(h:AI (model U w) (A.deeper env) (execs body env) (λf s'=>R (.ok (.ret (match f with | .ret v=>v|_=>.none))) s')
   (λe s'=>wpAny (model U w) (A.deeper env) (leaving env e) (λ_ C3=>R (.error e) C3) (λe' C3=>R (.error e') C3) s') s):Gw (model U w) A (.func body env) R s:=by k_with"o"=>
 refine Ej rfl ?_;show AI _ (A.deeper env) (do point;match <-(execs body env).onRaise (leaving env) with | .ret v=>ret v|_=>ret .none) _ _ s;refine Bg (wpAny_point (Cj (Ou (Br h (λf s' k=>?_) λ_ _ k=>Fg k))));cases f<;>exact Di k
end
end Cl
end
section
namespace Cl
section
variable {env:Env}
theorem Acr {Q:Flow->Shared->Prop}(h:Q .next s):AI (model U w) A (execs [] env) Q E s:=Fg (wpAny_execs_nil h)
theorem Abd {rest:List Stmt}{Q:Flow->Shared->Prop}(h:AI (model U w) A (exec st env) (λf s'=>match f with | .next=>AI (model U w) A (execs rest env) Q E s'|f=>Q f s') E s):AI (model U w) A (execs (st::rest) env) Q E s:=by k_with"o"=>rw[execs_cons];refine Cj (Br h (λf s' k=>?_) λ_ _ k=>k);cases f<;>first|exact k|exact Di k
theorem Abb {Q:Flow->Shared->Prop}(hi:interactive env=false)(hs:swapsWith e none pos.line env=pure false)(h:AI (model U w) A (eval e env) (λ_=>Q .next) E s):AI (model U w) A (exec (.Expr e pos) env) Q E s:=by k_with"o"=>rw[exec_Expr env e pos hi hs];exact Bg (wpAny_standAt (Cj (Br h (λv s' k=>Fg (wpAny_dropValue k)) λ_ _ k=>k)))
theorem U8 {test:Expr}{orelse:List Stmt}{Q:Flow->Shared->Prop}(h:AI (model U w) A (isTrue test env (eval test env)) (λb s₂=>if b then AI (model U w) A (execs body env) Q E s₂ else AI (model U w) A (execs orelse env) Q E s₂) E s) :
  AI (model U w) A (exec (.If test body orelse pos) env) Q E s:=by k_with"o"=>
 rw[exec_If];refine Bg (wpAny_standAt (Cj (Br h (λb s' k=>?_) λ_ _ k=>k)));cases b<;>exact k
theorem Aa9 {pos':Pos}{value:Expr}{Q:Flow->Shared->Prop}(hs:swapsWith value (some (.Name x pos')) pos.line env=pure false)(h:AI (model U w) A (eval value env) (λv s₁=>wpAny (model U w) A (storeName env x v) (λ_=>Q .next) E s₁) E s) :
  AI (model U w) A (exec (.Assign [.Name x pos'] value pos) env) Q E s:=by k_with"o"=>exact(fun Γ p hΓ hC=>by
 simp only[exec_Assign_Name env x pos' value pos hs,Sem.wp_bind',Sem.wp_cmd_standAt,Sem.wp_bindName,Sem.wp_pure'];exact Sem.wp_mono _ Γ _ (λv _ s₁ h₁=>h₁ Γ _ hΓ) (λ_ _ _ h'=>h') _ _ (h Γ _ hΓ hC))
end
end Cl
end
section
namespace Cl
section
variable {R:Result->Shared->Prop}{env:Env}
theorem nD {c:Code}(hq:c.quiet=true)(hd:dZ c=false)(I:Nat->Shared->Prop)
  (turn:∀n s,I n s->AI (model U w) (A.under c) ((model U w).den c) (λfin s'=>match fin with
   |.done f=>R (.ok f) s'
   |.again c'=>(c'=c/\∃m,m<n/\I m s')\/(c'.quiet=true/\Gw (model U w) A c' R s')) (λe s'=>R (.error e) s') s) (n:Nat) (h:I n s):Gw (model U w) A c R s:=by k_with"o"=>
 induction n using Nat.strongRecOn generalizing s with
 |ind n ih=>
  refine Ej hd (Br (turn n s h) (λfin s' k=>?_) λ_ _ k=>k);cases fin with
  |done f=>exact k
  |again c'=>
   rcases k with⟨rfl,m,hm,hI⟩|k
   ·exact⟨hq,ih m hm hI⟩
   ·exact k
theorem lL {c:Code}{h:Option Value}{Q:Flow->Shared->Prop}(hc:Gw (model U w) (A.mark h) c (λr s'=>match r with | .ok f=>Q f s' | .error e=>cameBackBy (model U w) A env E e s') s)(N6:h≠some byPass:=by intro x;cases x) :
  AI (model U w) A (runOwn c env h) Q E s:=by k_with"o"=>
 unfold runOwn;refine Ou (Br (wU hc N6) (λ_ _ k=>k) λe s' k=>Fg k)
theorem dG {α:Type}{t:Sem α}{Q:α->Shared->Prop}(h:AI (model U w) A t Q (notedBy (model U w) A env E) s):AI (model U w) A (t.onRaise λx=>do noteFrame x env;theTreesLotGoes x) Q E s:=by k_with"o"=>exact(Ou (Br h (λ_ _ k=>k) λe s' k=>Fg (wpAny_bind (wpAny_mono k (λ_ _ q=>wpAny_theTreesLotGoes q) λ_ _ q=>q))))
theorem jW (h:AI (model U w) A (execs body env) (λf s'=>R (.ok f) s') (notedBy (model U w) A env λe s'=>R (.error e) s') s):Gw (model U w) A (.block body env) R s:=by k_with"o"=>refine Ej rfl ?_;show AI _ _ (do return Fin.done (<-(execs body env).onRaise (λx=>do noteFrame x env;theTreesLotGoes x))) _ _ s;exact Cj (dG (Br h (λf s' k=>Di k) λ_ _ k=>k))
theorem rT {it:Value}{orelse:List Stmt}(I:Nat->Shared->Prop)
  (turn:∀n s,I n s->AI (model U w) A (pyNext it) (λr s₁=>match r with
   |none=>AI (model U w) A (execs orelse env) (λf s₃=>R (.ok f) s₃) (notedBy (model U w) A env λe s'=>R (.error e) s') s₁
   |some v=>AI (model U w) A (letOwnedTupleGo target it v) (λ_ s₁'=>
     AI (model U w) A (assign target env v) (λ_ s₂=>AI (model U w) A (execs body env) (λf s₃=>match f with
      |.next | .cont=>∃m,m<n/\I m s₃
      |.brk=>R (.ok .next) s₃
      |.ret v=>R (.ok (.ret v)) s₃) (notedBy (model U w) A env λe s'=>R (.error e) s') s₂) (notedBy (model U w) A env λe s'=>R (.error e) s') s₁') (notedBy (model U w) A env λe s'=>R (.error e) s') s₁)
    (notedBy (model U w) A env λe s'=>R (.error e) s') s)
  (n:Nat) (h:I n s):Gw (model U w) A (.forLoop target it body orelse env) R s:=by k_with"o"=>
 refine nD rfl rfl I (λn s hI=>?_) n h;show AI _ A ((forTurn target it body orelse env).onRaise (λx=>do noteFrame x env;theTreesLotGoes x)) _ _ s;refine dG ?_;simp only[forTurn];refine Bg (wpAny_standAt (Cj (Ou (Br (turn n s hI) (λr s₁ k=>?_) λ_ _ k=>Fg (wpAny_standAt k)))));cases r with
 |none=>exact Di (.inr ⟨rfl,jW k⟩)
 |some v=>
  refine Cj (Br k (λ_ s₁' k1=>?_) λ_ _ q=>q);refine Cj (Br k1 (λ_ s₂ k2=>Cj (Br k2 (λf s₃ k3=>?_) λ_ _ q=>q)) λ_ _ q=>q);cases f with
  |next=>exact Di (.inl ⟨rfl,k3⟩)
  |cont=>exact Di (.inl ⟨rfl,k3⟩)
  |brk=>exact Di k3
  |ret v=>exact Di k3
theorem zV {orelse:List Stmt}{Q:Flow->Shared->Prop}(hs:∀x,foldedSetIterable iter env x=pure x)
  (h:AI (model U w) A (eval iter env) (λx s₁=>AI (model U w) A (pyIter x) (λit s₂=>
   Gw (model U w) A (.forLoop target it body orelse env) (λr s'=>match r with | .ok f=>Q f s' | .error e=>cameBackBy (model U w) A env E e s') s₂) E s₁) E s):AI (model U w) A (exec (.For target iter body orelse pos) env) Q E s:=by k_with"o"=>
 rw[exec_For];refine Bg (wpAny_standAt (Cj (Br h (λx s₁ k=>?_) λ_ _ k=>k)));refine Cj (qS (hs x) ?_);refine Bg (wpAny_standAt (Cj (Gj (Br k (λit s₂ k2=>?_) λ_ _ k=>k))));exact lL k2
end
end Cl
end
section
namespace Cl
section
variable {env:Env}{first:List Value}{Q:Value->Shared->Prop}
theorem Aba {mk:Value}{ps:List Value}{kw:List (Str×Value)}(h:AI (model U w) A (call f ps kw) Q E s):AI (model U w) A (callMarked mk f ps kw) Q E s:=by k_with"o"=>unfold callMarked;exact fun Γ p hΓ hC=>by rw[Sem.wp_keep];exact h Γ p hΓ hC
theorem Vb {P:Heap->Prop}{args:List (Bool×Sem Value)}{keywords:List (Option Str×Sem Value)}(CJ:(args.any (·.1) || keywords.any (·.1.isNone))=false)
  (hk:∀h,P h->∃k,(k=Keeper.frame\/k=Keeper.machine\/k=Keeper.boundFrame)/\Looks (model U w) h (keeperOf f) k)
  (h:AI (model U w) A (evalArgs f true args keywords) (λa s₁=>P s₁.heap/\AI (model U w) A (call f (first++a.pos) a.kw) Q E s₁) E s):AI (model U w) A (callWith pos f first args keywords) Q E s:=by k_with"o"=>
 unfold callWith;refine Cj (Gj (Br h (λa s₁ k=>Bg (wpAny_standAt ?_)) λ_ _ x=>x));obtain⟨kp,QM,L⟩:=hk _ k.1;simp only[CJ];refine Bg (L.here ?_);have tail:∀{t:Sem Value},AI (model U w) A t Q E s₁->AI (model U w) A (t >>= λr=>holding [r] point >>= λ_=>pure r) Q E s₁:=
  λht=>Cj (Br ht (λr s₂ hr=>Fg (wpAny_bind (wpAny_holding (wpAny_point (wpAny_pure hr))))) λ_ _ x=>x)
 rcases QM with rfl|rfl|rfl<;>dsimp only<;>first|exact tail k.2|(split<;>first|exact tail k.2|exact tail (Aba k.2))
end
end Cl
end
section
open Cl
def MD (U:Program)(w:World)(T:Ez)(c:Ctx)(t:Sem Value)(r:Rg)(Q:V->Led->Prop)(X:Int->Prop)(own:List Addr)(h:Heap)(s:Shared):Prop:=
 AI (model U w) c.A t (Lw U w T c own h r Q) (Exc U w T c.outer own h false X) s
def EX (U:Program)(w:World)(T:Ez)(c:Ctx)(e:Expr)(r:Rg)(l:Led)(Q:V->Led->Prop)(X:Int->Prop):Prop:=
 ∀s,Co U w T c s r l->MD U w T c (eval e c.env) r Q X (c.own l) s.heap s
def IC (U:Program)(w:World)(T:Ez)(c:Ctx)(f:List Value->Sem Value)(as:List V)(r:Rg)(l:Led)(Q:V->Led->Prop)(X:Int->Prop):Prop:=
 ∀s xs,Co U w T c s r l->AG s.heap as xs->MD U w T c (f xs) r Q X (c.own l) s.heap s
def F6 (U:Program)(w:World)(T:Ez)(c:Ctx)(e:Expr)(r:Rg)(l:Led)(Q:Bool->Led->Prop)(X:Int->Prop):Prop:=
 ∀s,Co U w T c s r l->AI (model U w) c.A (isTrue e c.env (eval e c.env)) (kX U w T c (c.own l) s.heap r Q) (Exc U w T c.outer (c.own l) s.heap false X) s
def Dp (U:Program)(w:World)(T:Ez)(c:Ctx)(pos:Pos)(es:List Expr)(r:Rg)(l:Led)(Q:List V->Led->Prop)(X:Int->Prop):Prop:=
 ∀s,Co U w T c s r l->AI (model U w) c.A (spliced (backTo pos (starEach es c.env))) (zZ U w T c (c.own l) s.heap r Q) (Exc U w T c.outer (c.own l) s.heap false X) s
def BU (U:Program)(w:World)(T:Ez)(c:Ctx)(ss:List Stmt)(r:Rg)(l:Led)(Q:Fl->Rg->Led->Prop)(X:Int->Prop):Prop:=
 ∀s,Co U w T c s r l->AI (model U w) c.A (execs ss c.env) (Za U w T c (c.own l) s.heap Q) (Exc U w T c.outer (c.own l) s.heap false X) s
def Px (U:Program)(w:World)(T:Ez)(c:Ctx)(st:Stmt)(r:Rg)(l:Led)(Q:Fl->Rg->Led->Prop)(X:Int->Prop):Prop:=
 ∀s,Co U w T c s r l->AI (model U w) c.A (exec st c.env) (Za U w T c (c.own l) s.heap Q) (Exc U w T c.outer (c.own l) s.heap false X) s
def Ji (U:Program)(w:World)(T:Ez)(lev:Nat)(f:Value)(as:List V)(l:Led)(Q:V->Led->Prop)(X:Int->Prop):Prop:=
 ∀(A:Around) (outer:List Env) (s:Shared) (vals:List Value),A.frames=some outer->A.handled=none->A.depth+lev<=400->A.units+10*lev<=4000->A.guards=some []->
  Ya U w T outer s l->AG s.heap as vals->Gw (model U w) A (.call f ⟨vals,[]⟩) (qK U w T outer (l.map (·.1)) s.heap Q X) s
section
theorem MD.seq {l1:Led}{s1:Shared}{t:Sem Value}(S:Step own (c.own l1) h s1.heap)
  (x:MD U w T c t r Q X (c.own l1) s1.heap s1):MD U w T c t r Q X own h s1:=by k_with"o"=>exact(Br x (λ_ _ e=>e.shift S) λ_ _ e=>e.shift S λ_ q=>q)
theorem F6.of {Q:Bool->Led->Prop}(h:Wb U w T c e r l Q X):F6 U w T c e r l Q X:=λs R=>Fg (h s R)
theorem BU.of {Q:Fl->Rg->Led->Prop}(h:Ws U w T c ss r l Q X):BU U w T c ss r l Q X:=λs R=>Fg (h s R)
theorem Px.of {Q:Fl->Rg->Led->Prop}(h:BY U w T c st r l Q X):Px U w T c st r l Q X:=by k_with"o"=>exact(λs R=>Fg (h s R))
theorem Ks {Q:Fl->Rg->Led->Prop}(h:Q .next r l):BU U w T c [] r l Q X:=by k_with"o"=>exact(.of (Xu h))
theorem Xv {Q:Fl->Rg->Led->Prop}
  (h:Px U w T c st r l (λf r1 l1=>match f with | .next=>BU U w T c ss r1 l1 Q X|f=>Q f r1 l1) X):BU U w T c (st::ss) r l Q X:=by k_with"o"=>exact(λs R=>
 Abd (Br (h s R) (λf s1 ⟨g,r1,l1,hf,R1,S1,q⟩=>by
  cases g with
  |next=>cases hf;exact Br (q s1 R1) (λf s2 ⟨g,r2,l2,hf,R2,S2,q⟩=>⟨g,r2,l2,hf,R2,S1.trans S2,q⟩) λ_ _ e=>e.shift S1 λ_ q=>q
  |brk=>cases hf;exact⟨.brk,r1,l1,rfl,R1,S1,q⟩
  |cont=>cases hf;exact⟨.cont,r1,l1,rfl,R1,S1,q⟩
  |ret d=>obtain⟨v,rfl,rv⟩:=hf;exact⟨.ret d,r1,l1,⟨v,rfl,rv⟩,R1,S1,q⟩) λ_ _ e=>e))
theorem vE {Q:Fl->Rg->Led->Prop}
  (h:BY U w T c st r l (λf r1 l1=>match f with | .next=>BU U w T c ss r1 l1 Q X|f=>Q f r1 l1) X):BU U w T c (st::ss) r l Q X:=by k_with"o"=>exact(Xv (.of h))
theorem nP {Q:Fl->Rg->Led->Prop}(M:Rg->Led->Prop)(h1:Px U w T c st r l (λf r1 l1=>f=.next/\M r1 l1) X)(h2:∀r1 l1,M r1 l1->BU U w T c ss r1 l1 Q X):BU U w T c (st::ss) r l Q X:=by k_with"o"=>exact(Xv λs R=>Br (h1 s R) (λf s1 ⟨g,r1,l1,hf,R1,S1,hg,hm⟩=>by subst hg;exact⟨.next,r1,l1,hf,R1,S1,h2 r1 l1 hm⟩) λ_ _ e=>e)
theorem oJ {Q:Fl->Rg->Led->Prop}(hi:interactive c.env=false)(hs:swapsWith e none pos.line c.env=pure false)
  (h:EX U w T c e r l (λ_ l1=>Q .next r l1) X):Px U w T c (.Expr e pos) r l Q X:=by k_with"o"=>exact(λs R=>
 Abb hi hs (Br (h s R) (λv s1 ⟨d,l1,_,R1,S1,q⟩=>⟨.next,r,l1,rfl,R1,S1,q⟩) λ_ _ e=>e))
theorem oH {Q:Fl->Rg->Led->Prop}{p:Pos}(C:c.Ok)(hs:swapsWith e (some (.Name x p)) pos.line c.env=pure false)
  (h:EX U w T c e r l (λd l1=>∃r',Upd c.names r x d r'/\Q .next r' l1) X):Px U w T c (.Assign [.Name x p] e pos) r l Q X:=by k_with"o"=>exact(λs R=>
 Aa9 hs (Br (h s R) (λv s1 ⟨d,l1,rv,R1,S1,r',k,q⟩=>wpAny_mono (Mc (Q:=λr2 l2=>Q .next r2 l2) C.ML k R1 rv S1 q) (λ_ s2 ⟨r2,l2,R2,S2,q2⟩=>⟨.next,r2,l2,rfl,R2,S2,q2⟩) λ_ _ e=>e) λ_ _ e=>e))
theorem vY {t:Expr}{a b:List Stmt}{Q:Fl->Rg->Led->Prop}(h:F6 U w T c t r l (λx l1=>if x then BU U w T c a r l1 Q X else BU U w T c b r l1 Q X) X) :
  Px U w T c (.If t a b pos) r l Q X:=by k_with"o"=>exact(λs R=>
 U8 (Br (h s R) (λb s1 ⟨l1,R1,S1,q⟩=>by
  cases b
  ·exact Br (q s1 R1) (λf s2 ⟨g,r2,l2,hf,R2,S2,q⟩=>⟨g,r2,l2,hf,R2,S1.trans S2,q⟩) λ_ _ e=>e.shift S1 λ_ q=>q
  ·exact Br (q s1 R1) (λf s2 ⟨g,r2,l2,hf,R2,S2,q⟩=>⟨g,r2,l2,hf,R2,S1.trans S2,q⟩) λ_ _ e=>e.shift S1 λ_ q=>q) λ_ _ e=>e))
theorem cJ {x:Sem Value}{rest:List (Bool×Sem Value)}{Q:List Value->Shared->Prop}
  (h:AI M A x (λv s₁=>AI M A (spliced rest) (λvs s₂=>Q (v::vs) s₂) E s₁) E s):AI M A (spliced ((false,x)::rest)) Q E s:=by k_with"o"=>
 rw[spliced];refine Cj (Br h (λv s₁ h₁=>?_) λ_ _ x=>x);simp only[Bi,if_false];exact Cj (Di (Cj (Gj (Br h₁ (λvs s₂ h₂=>Di h₂) λ_ _ x=>x))))
theorem rR {x:Sem Value}{rest:List (Bool×Sem Value)}{Q:Args->Shared->Prop}
  (h:AI M A (spliced ((false,x)::rest)) (λvs s'=>Q ⟨vs,[]⟩ s') E s):AI M A (evalArgs f true ((false,x)::rest) []) Q E s:=by k_with"o"=>
 unfold evalArgs;show AI M A (spliced ((false,x)::rest) >>= _) Q E s;refine Cj (Br h (λvs s' h'=>?_) λ_ _ x=>x);refine Gj ?_;exact Cj (Di (Cj (Di (Di h'))))
theorem Rj {env:Env}{Q:Args->Shared->Prop}(AM:starEach args env=args.map λe=>(false,eval e env))
  (h:AI M A (spliced (backTo pos (starEach args env))) (λvs s'=>Q ⟨vs,[]⟩ s') E s):AI M A (evalArgs f true (backTo pos (starEach args env)) []) Q E s:=by k_with"o"=>
 rw[AM] at h ⊢;cases args with
 |nil=>intro Γ p hΓ hC;exact PySem.evalArgs_none (A:=A) (Q:=Q) (show Q ⟨[],[]⟩ s from h Γ p hΓ hC) Γ p hΓ
 |cons e es=>exact rR h
end
end
section
open Cl
theorem Dp.of {Q:List V->Led->Prop}(h:Hd U w T c pos es r l Q X):Dp U w T c pos es r l Q X:=by k_with"o"=>exact(λs R=>Fg (h s R))
theorem gJ {Q:List V->Led->Prop}(he:starEach (e::es) c.env=(false,eval e c.env)::starEach es c.env)(hb:backTo pos ((false,eval e c.env)::starEach es c.env)=(false,eval e c.env)::backTo pos (starEach es c.env))
  (h:EX U w T c e r l (λx l1=>Dp U w T c pos es r l1 (λys l2=>Q (x::ys) l2) X) X):Dp U w T c pos (e::es) r l Q X:=by k_with"o"=>exact(λs R=>by
 rw[he,hb];exact cJ (Br (h s R) (λ_ _ ⟨x,l1,FN,R1,S1,q1⟩=>Br (q1 _ R1) (λ_ _ ⟨ys,l2,DN,R2,S2,q2⟩=>
  ⟨x::ys,l2,.cons (FN.AD (R1.AD S2)) DN,R2,S1.trans S2,q2⟩) λ_ _ e=>e.shift S1 λ_ q=>q) λ_ _ e=>e))
theorem nW (h:Dp U w T c pos es r l (λds l1=>ds.length<=sizeLine/\Q (.tup ds) l1) X):EX U w T c (.Tuple es k pos) r l Q X:=by k_with"o"=>exact(λs R=>by show AI _ _ (do standAt pos;newTuple (<-spliced (backTo pos (starEach es c.env)))) _ _ s;refine Bg (wpAny_standAt (Cj (Br (h s R) (λvs s1 ⟨ds,l1,rv,R1,S1,hz,q⟩=>Fg ?_) λ_ _ e=>e)));refine wpAny_newObj_type ?_ (by show vs.toArray.size<=sizeLine;rw[Az,<-rv.length];exact hz);exact⟨.tup ds,l1,.tup (As _ rfl) (rv.AD (A0.push _ _)),R1.grow (λb o e=>Ad _ e) (by rw[Bc];exact Cb _),S1.trans (Step.grow (λb o e=>Ad _ e) (by rw[Bc];exact Cb _)),q⟩)
inductive Mo (T:Ez):Value->Prop
 |bi {id:String}:Mo T (.builtin id)
 |ty {t:String}:Mo T (.type t)
 |kp {f:Value}:keepIn T.K f=true->Mo T f
theorem eF {P:Value->Shared->Prop}{env:Env}{first:List Value}(TO:T.Ok U w)(K:Mo T f)(AM:starEach args env=args.map λe=>(false,eval e env))
  (h:AI (model U w) A (spliced (backTo pos (starEach args env))) (λvs s1=>F7 T.B T.s0 s1/\AI (model U w) A (call f (first++vs)) P E s1) E s):AI (model U w) A (callWith pos f first (backTo pos (starEach args env)) []) P E s:=by k_with"o"=>
 have CJ:(backTo pos (starEach args env)).any (·.1)=false:=by
  rw[AM];clear h AM
  induction args with
  |nil=>rfl
  |cons e es ih=>exact ih
 have EF:((backTo pos (starEach args env)).any (·.1) || ([]:List (Option Str×Sem Value)).any (·.1.isNone))=false:=by rw[CJ];rfl
 cases K with
 |bi=>exact Vb (P:=λ_=>True) EF (λ_ _=>⟨.machine,.inr (.inl rfl),Looks.of_pure rfl⟩) (Rj AM (Br h (λvs s1 ⟨G,q⟩=>⟨trivial,q⟩) λ_ _ e=>e))
 |ty=>exact Vb (P:=λ_=>True) EF (λ_ _=>⟨.machine,.inr (.inl rfl),Looks.of_pure rfl⟩) (Rj AM (Br h (λvs s1 ⟨G,q⟩=>⟨trivial,q⟩) λ_ _ e=>e))
 |kp hk=>exact Vb EF (keeps_K hk) (Rj AM (Br h (λvs s1 ⟨G,q⟩=>⟨λa o e=>G.stays a o (TO.E8 a o e),q⟩) λ_ _ e=>e))
theorem vS {p:Pos}(C:c.Ok)(TO:T.Ok U w)(hx:c.env.kindOf x=some .globalImplicit)(hd:(x==("__debug__" : Str))=false)(g:Rq T x f)(K:Mo T f)
  (he:eval (.Call (.Name x p) args [] pos) c.env=(do callWith pos (<-eval (.Name x p) c.env) [] (backTo pos (starEach args c.env)) (backToKw pos (keywordEach [] c.env))))
  (AM:starEach args c.env=args.map λe=>(false,eval e c.env))
  (h:Dp U w T c pos args r l (λds l1=>IC U w T c (λxs=>call f xs) ds r l1 Q X) X):EX U w T c (.Call (.Name x p) args [] pos) r l Q X:=by k_with"o"=>exact(λs R=>by
 rw[he];exact Bg (Me C TO hx hd g R.AH (eF TO K AM (Br (h s R) (λvs s1 ⟨ds,l1,rv,R1,S1,q⟩=>⟨R1.AH,MD.seq S1 (q _ _ R1 rv)⟩) λ_ _ e=>e))))
theorem kQ {o:Expr}{name:Str}{apos:Pos}{pl:Sem Bool}(TO:T.Ok U w)
  (he:eval (.Call (.Attribute o name apos) args [] pos) c.env=(do
   let ov <-eval o c.env
   standAt apos.atName
   let (f,first) <-holding [ov] (getMethod ov name pl)
   callWith pos f first (backTo pos (starEach args c.env)) []))
  (AM:starEach args c.env=args.map λe=>(false,eval e c.env))
  (h:We U w T c o r l (λd l1=>∃f,Vh U w T c r l1 d name f/\Mo T f/\Dp U w T c pos args r l1 (λds l2=>IC U w T c (λxs=>call f xs) (d::ds) r l2 Q X) X) X) :
  EX U w T c (.Call (.Attribute o name apos) args [] pos) r l Q X:=by k_with"o"=>exact(λs R=>by
 rw[he];refine Bg (wpAny_mono (h s R) (λx s1 ⟨d,l1,rv,R1,S1,f,m,K,hw⟩=>?_) λ_ _ e=>e);refine Bg (wpAny_standAt (Bg (wpAny_holding (m s1 x pl _ _ R1 rv ?_))));exact eF TO K AM (Br (hw _ R1) (λvs s2 ⟨ds,l2,AF,R2,S2,q⟩=>⟨R2.AH,MD.seq (S1.trans S2) (q _ _ R2 (.cons (rv.AD (R1.AD S2)) AF))⟩) λ_ _ e=>e.shift S1 λ_ q=>q))
theorem gI {a b:Expr}{op:CmpOp}{Q:Bool->Led->Prop}(hm:behindInMarks op b=false)
  (h:EX U w T c a r l (λx l1=>We U w T c b r l1 (λy l2=>W2 U w T c (compareOp op) x y r l2 (λd l3=>∃q,d=.bool q/\Q q l3) X) X) X):F6 U w T c (.Compare a [op] [b] pos) r l Q X:=by k_with"o"=>exact(λs R Γ p hΓ hC=>by
 simp only[isTrue_Compare1,markedBehindIn_of_false hm,Sem.wp_bind',Sem.wp_holding,Sem.wp_cmd_standAt,Sem.wp_operate];have fin:AI (model U w) c.A (eval a c.env) (λa s₁=>wpAny (model U w) c.A (eval b c.env) (λb s₂=>wpAny (model U w) c.A (compareOp op a b) (λz s₃=>wpAny (model U w) c.A (truthy z) (kX U w T c (c.own l) s.heap r Q) (Exc U w T c.outer (c.own l) s.heap false X) s₃) (Exc U w T c.outer (c.own l) s.heap false X) s₂) (Exc U w T c.outer (c.own l) s.heap false X) s₁) (Exc U w T c.outer (c.own l) s.heap false X) s:=
  Br (h s R) (λ_ _ ⟨x,l1,FN,R1,S1,q1⟩=>wpAny_mono (q1 _ R1) (λ_ _ ⟨y,l2,DN,R2,S2,q2⟩=>
   wpAny_mono (q2 _ _ _ R2 (FN.AD (R1.AD S2)) DN) (λ_ _ ⟨z,l3,F',R3,S3,b,e,q3⟩=>by subst e;cases F';exact wpAny_truthy_bool ⟨l3,R3,(S1.trans S2).trans S3,q3⟩) λ_ _ e=>e.shift (S1.trans S2) λ_ q=>q) λ_ _ e=>e.shift S1 λ_ q=>q) λ_ _ e=>e
 exact Sem.wp_mono _ Γ _ (λa p₁ s₁ h₁=>Sem.wp_mono _ Γ _ (λb _ s₂ h₂=>Sem.wp_mono _ Γ _ (λc p₃ s₃ h₃=>h₃ Γ p₃ hΓ)
  (λ_ _ _ h'=>h') _ _ (h₂ Γ _ hΓ)) (λ_ _ _ h'=>h') _ _ (h₁ Γ p₁ hΓ)) (λ_ _ _ h'=>h') _ _ (fin Γ p hΓ hC))
theorem zD {a:Expr}{Q:Bool->Led->Prop}
  (h:F6 U w T c a r l (λx l1=>if x then Q true l1 else F6 U w T c (.BoolOp .Or es pos) r l1 Q X) X):F6 U w T c (.BoolOp .Or (a::es) pos) r l Q X:=by k_with"o"=>exact(λs R=>by
 rw[arm_isTrue_BoolOp,arm_allTrue_cons];refine Cj (Br (h s R) (λx _ ⟨l1,R1,S1,q1⟩=>?_) λ_ _ e=>e);cases x
 ·refine Br (q1 _ R1) (λ_ _ ⟨l2,R2,S2,q2⟩=>⟨l2,R2,S1.trans S2,q2⟩) λ_ _ e=>e.shift S1 λ_ q=>q
 ·exact Di ⟨l1,R1,S1,q1⟩)
theorem nZ {Q:Bool->Led->Prop}(h:Q false l):F6 U w T c (.BoolOp .Or [] pos) r l Q X:=by k_with"o"=>exact(.of (eL h))
end
section
open Cl
theorem dU {Q:Fl->Rg->Led->Prop}{I:Addr}{wr:List Addr}{ext:List (Addr×Obj)}{St:Nat->Heap->Prop}(C:c.Ok)(W:G4 U w c.A I wr ext h0 ds St)
  (LO:∀i r l,J i r l->∀p∈ext,(∃vs,p.2=Fs vs)\/∃x,(p.1,.fz p.2 x)∈l)
  (turn:∀i d r l,ds[i]?=some d->J i r l->Wa U w T c target d r l (λr1 l1=>(∀p∈ext,(∃vs,p.2=Fs vs)\/∃x,(p.1,.fz p.2 x)∈l1)/\BU U w T c body r1 l1 (λfl r2 l2=>match fl with
   |.next=>J (i+1) r2 l2 | .cont=>J (i+1) r2 l2 | .brk=>Q .next r2 l2 | .ret d=>Q (.ret d) r2 l2) X) X)
  (done:∀r l,J ds.length r l->Q .next r l) {hs:Heap} (R:Co U w T c s r l) (hJ:J 0 r l) (AM:St 0 s.heap) (AU:∀b∈wr,hs.objs.size<=b/\b∉c.own l/\T.B.objs.size<=b) (S0:Step own0 (c.own l) hs s.heap) (EA:A0 h0 s.heap) :
  Gw (model U w) c.A (.forLoop target (.ref I) body [] c.env) (λr s'=>match r with | .ok f=>Za U w T c own0 hs Q f s' | .error e=>cameBackBy (model U w) c.A c.env (Exc U w T c.outer own0 hs false X) e s') s:=by k_with"o"=>
 refine rT (λn s=>∃i r l,n=ds.length-i/\i<=ds.length/\Co U w T c s r l/\J i r l/\St i s.heap/\(∀b∈wr,hs.objs.size<=b/\b∉c.own l/\T.B.objs.size<=b)/\Step own0 (c.own l) hs s.heap/\A0 h0 s.heap) ?_ _
  ⟨0,r,l,rfl,Ca _,R,hJ,AM,AU,S0,EA⟩
 rintro n s ⟨i,r,l,rfl,hi,R,hJ,AM,AU,S0,EA⟩;have err:∀{BC:List Addr} {h1:Heap} (x:Value) (s':Shared),Step own0 BC hs h1->Exc U w T c.outer BC h1 false X x s'->notedBy (model U w) c.A c.env (λe C3=>cameBackBy (model U w) c.A c.env (Exc U w T c.outer own0 hs false X) e C3) x s':=λx s' S e=>
  Wq C (e.shift S λ_ q=>q) λ_ e3=>e3.weak
 have moved:∀{h':Heap} {tk:Nat},s.heap.objs.size<=h'.objs.size->(∀b o,b∉wr->s.heap.get? b=some o->h'.get? b=some o)->Co U w T c {s with heap:=h',toks:=tk} r l/\A0 s.heap h'/\Step own0 (c.own l) hs h':=λ{h' tk} z hk=>by obtain⟨R1,E1⟩:=R.other (tk:=tk) (λb hb=>⟨(AU b hb).2.1,(AU b hb).2.2,W.live _ _ AM b hb⟩) hk z;refine⟨R1,E1,⟨λb o e n=>?_,S0.fresh,Aa S0.size z⟩⟩;obtain⟨o',e',s'⟩:=S0.kept b o e n;exact⟨o',hk b o' (λq=>absurd (Am e) (Bh.mpr (AU b q).1)) e',s'⟩
 by_cases AJ:i<ds.length
 ·obtain⟨d,hd⟩:∃d,ds[i]?=some d:=⟨_,Cs AJ⟩;refine Fg (Ci (Ah _) (W.item i d s _ _ hd AM EA λv h1 HE rv DT DZ z1=>?_));obtain⟨R1,E1,S1⟩:=moved (tk:=HE) z1 DZ;refine Fg (W.go i _ target v _ _ DT ?_);refine Fg (wpAny_mono (turn i d r l hd hJ _ v R1 (rv.AD E1)) (λ_ s2 ⟨r2,l2,R2,S2,KY,hb⟩=>?_) λx s2 e=>err x s2 S1 e);have CE:∀{BC E4:List Addr} {ha hb:Heap} {k:Nat},Step BC E4 ha hb->St k ha->(∀b∈wr,b∉BC)->∀b∈wr,∀o,ha.get? b=some o->hb.get? b=some o:=λS st n b hb o e=>by obtain⟨o',e',s'⟩:=S.kept b o e (n b hb);obtain⟨o2,q1,_,q3⟩:=W.live _ _ st b hb;rw[e] at q1;injection q1 with q1;subst q1;rw[e',s'.eq q3]
  have D3:∀{r1:Rg} {l1:Led} {ha hb:Heap} {sb:Shared},sb.heap=hb->Co U w T c sb r1 l1->A0 ha hb->(∀p∈ext,ha.get? p.1=some p.2)->(∀p∈ext,(∃vs,p.2=Fs vs)\/∃x,(p.1,O.fz p.2 x)∈l1)->∀p∈ext,hb.get? p.1=some p.2:=λhs Rb E q1 q2 p hp=>by
   rcases q2 p hp with⟨vs,e⟩|⟨x,e⟩
   ·have:=q1 p hp;rw[e] at this ⊢;exact E _ _ this
   ·rw[<-hs];exact(Rb.led _ e).1
  have E2:A0 h1 s2.heap:=R1.AD S2;have PF:∀p∈ext,h1.get? p.1=some p.2:=λp hp=>W.ext _ _ DT p hp;have BX:St (i+1) s2.heap:=W.frame _ _ _ DT (CE S2 DT λb hb=>(AU b hb).2.1) (D3 rfl R2 E2 PF KY);have JK:∀b∈wr,b∉c.own l2:=λb hb q=>(S2.fresh b q).elim (AU b hb).2.1 λz=>by obtain⟨o,e,_⟩:=W.live _ _ DT b hb;exact absurd (Am e) (Bh.mpr z)
  refine Br (hb s2 R2) (λf s3 ⟨g,r3,l3,hf,R3,S3,q⟩=>?_) λx s3 e=>err x s3 (S1.trans S2) e;have FQ:=(S1.trans S2).trans S3;have HP:J (i+1) r3 l3->∃m,m<ds.length-i/\∃i' r l,m=ds.length-i'/\i'<=ds.length/\Co U w T c s3 r l/\J i' r l/\St i' s3.heap/\(∀b∈wr,hs.objs.size<=b/\b∉c.own l/\T.B.objs.size<=b)/\Step own0 (c.own l) hs s3.heap/\A0 h0 s3.heap:=λhj=>by
   refine⟨ds.length-(i+1),by omega,i+1,r3,l3,rfl,AJ,R3,hj,?_,λb hb=>⟨(AU b hb).1,λq=>?_,(AU b hb).2.2⟩,FQ,((EA.trans E1).trans E2).trans (R2.AD S3)⟩
   ·exact W.frame _ _ _ BX (CE S3 BX JK) (D3 rfl R3 (R2.AD S3) (λp hp=>W.ext _ _ BX p hp) (LO _ _ _ hj))
   ·rcases S3.fresh b q with z|z
    ·exact JK b hb z
    ·obtain⟨o,e,_⟩:=W.live _ _ BX b hb;exact absurd (Am e) (Bh.mpr z)
  cases g with
  |next=>cases hf;exact HP q
  |cont=>cases hf;exact HP q
  |brk=>cases hf;exact⟨.next,r3,l3,rfl,R3,FQ,q⟩
  |ret d=>obtain⟨v,rfl,F'⟩:=hf;exact⟨.ret d,r3,l3,⟨v,rfl,F'⟩,R3,FQ,q⟩
 ·have AE:i=ds.length:=by omega
  subst AE;refine Fg (Ci (Ah _) (W.done s _ _ AM λh1 HE DZ z1=>?_));obtain⟨R1,E1,S1⟩:=moved (tk:=HE) z1 DZ;exact Acr ⟨.next,r,l,rfl,R1,S1,done r l hJ⟩
theorem sT {Q:Fl->Rg->Led->Prop}(C:c.Ok)(hs:∀x,foldedSetIterable iter c.env x=pure x)
  (h:EX U w T c iter r l (λd l1=>∃ds,bZ U w T c r l1 d ds/\∃J:Nat->Rg->Led->Prop,J 0 r l1/\
   (∀i d r l,ds[i]?=some d->J i r l->Wa U w T c target d r l (λr1 l1=>BU U w T c body r1 l1 (λfl r2 l2=>match fl with
    |.next=>J (i+1) r2 l2 | .cont=>J (i+1) r2 l2 | .brk=>Q .next r2 l2 | .ret d=>Q (.ret d) r2 l2) X) X)/\
   ∀r l,J ds.length r l->Q .next r l) X):Px U w T c (.For target iter body [] pos) r l Q X:=by k_with"o"=>exact(λs R=>
 zV hs (Br (h s R) (λv s1 ⟨d,l1,rv,R1,S1,ds,hw,J,j0,turn,done⟩=>Fg (by
  refine hw s1 v _ _ R1 rv λI wr ext St h' W hx st k z AU=>?_;have R2:=R1.grow (h':=h') (tk:=s1.toks) k z;exact dU C W (J:=J) (λi r l hj p hp=>.inl (hx p hp)) (λi d r l hd hj s x R rx=>wpAny_mono (turn i d r l hd hj s x R rx) (λ_ _ ⟨r1,l1,a,b,q⟩=>⟨r1,l1,a,b,λp hp=>.inl (hx p hp),q⟩) λ_ _ e=>e) done (s:={s1 with heap:=h'}) R2 j0 st
   (λb hb=>⟨Aa S1.size (AU b hb),λq=>absurd (R1.live b q) (Bh.mpr (AU b hb)),Aa R1.AH.room (AU b hb)⟩) (S1.trans (Step.grow k z)) (λb vs e=>k _ _ e))) λ_ _ e=>e))
theorem sS {Q:Fl->Rg->Led->Prop}(C:c.Ok)(hs:∀x,foldedSetIterable iter c.env x=pure x)
  (h:We U w T c iter r l (λd l1=>∃(a:Addr) (x:O) (ds:List V) (lf:O->Led),d=.ref a/\(∀y,A5 l1 a x y (lf y))/\WalkL U w T c a x ds/\∃J:O->Nat->Rg->Led->Prop,(∀y,Mx y x->J y 0 r (lf y))/\
   (∀y i r l,J y i r l->(a,y)∈l)/\
   (∀y i d r l,Mx y x->ds[i]?=some d->J y i r l->Wa U w T c target d r l (λr1 l1=>(a,y)∈l1/\BU U w T c body r1 l1 (λfl r2 l2=>match fl with
    |.next=>J y (i+1) r2 l2 | .cont=>J y (i+1) r2 l2 | .brk=>∃l3,A5 l2 a y x l3/\Q .next r2 l3 | .ret d=>∃l3,A5 l2 a y x l3/\Q (.ret d) r2 l3) X) X)/\
   ∀y r l,J y ds.length r l->∃l3,A5 l a y x l3/\Q .next r l3) X):Px U w T c (.For target iter body [] pos) r l Q X:=by k_with"o"=>exact(λs R=>
 zV hs (Fg (wpAny_mono (h s R) (λv s1 ⟨d,l1,rv,R1,S1,a,x,ds,lf,hd,B4,hw,J,j0,P9,turn,done⟩=>Fg (by
  subst hd;cases rv;have ro:=R1.led _ (B4 x).mem;obtain⟨ob,BP,_⟩:=ro.at;refine hw s1 ob _ _ (R1.apart _ (Em (p:=(a,x)) (B4 x).mem)) BP ro λI wr St h' W st k z AU=>?_;obtain⟨Rf,own⟩:=R1.CD (B4 (.fz ob x)) λq=>⟨BP,q⟩;have R2:=Rf.grow (h':=h') (tk:=s1.toks) k z;have fx:∀{l:Led},(a,O.fz ob x)∈l->∀p∈[(a,ob)],(∃vs,p.2=Fs vs)\/∃x,(p.1,O.fz p.2 x)∈l:=λq p hp=>by rw[Ae.mp hp];exact .inr ⟨x,q⟩
  refine Kx (dU (U:=U) (T:=T) (r:=r) (l:=lf (.fz ob x)) (Q:=λfl r2 l2=>∃l3,A5 l2 a (.fz ob x) x l3/\Q fl r2 l3) C W (J:=J (.fz ob x)) (own0:=c.own l) (hs:=s.heap) (X:=X) (λi r l hj=>fx (P9 _ _ _ _ hj))
   (λi d r l hd hj s x' R rx=>wpAny_mono (turn _ i d r l .fz hd hj s x' R rx) (λ_ _ ⟨r1,l1,b1,b2,q1,q2⟩=>⟨r1,l1,b1,b2,fx q1,λs R=>Br (q2 s R) (λf s2 ⟨g,r3,l3,hf,R3,S3,q⟩=>⟨g,r3,l3,hf,R3,S3,by cases g<;>exact q⟩) λ_ _ e=>e⟩) λ_ _ e=>e) (λr l hj=>done _ r l hj) (s:={s1 with heap:=h'}) R2 (j0 _ .fz) st
   (λb hb=>⟨Aa S1.size (AU b hb),λq=>absurd (Rf.live b q) (Bh.mpr (AU b hb)),Aa R1.AH.room (AU b hb)⟩) ((S1.C7 (λ_=>.rfl) own).trans (Step.grow k z)) (λb vs e=>k _ _ e)) λres s' q=>?_
  cases res with
  |error e=>exact q
  |ok f=>obtain⟨g,r3,l3,hf,R3,S3,l4,hp,q⟩:=q;obtain⟨R4,D5⟩:=R3.CD hp λz=>z.2;exact⟨g,r3,l4,hf,R4,S3.C7 (λ_=>.rfl) D5,q⟩)) λ_ _ e=>e)))
theorem oI {Q:Fl->Rg->Led->Prop}(C:c.Ok)(hs:∀x,foldedSetIterable iter c.env x=pure x)
  (h:We U w T c iter r l (λd l1=>∃(a:Addr) (x:O) (ds:List V) (m:Led),d=.ref a/\Bm l1 ((a,x)::m)/\WalkL U w T c a x ds/\∃J:Nat->Rg->Led->Prop,J 0 r m/\
   (∀y i d r m,Mx y x->ds[i]?=some d->J i r m->Wa U w T c target d r ((a,y)::m) (λr1 l1=>l1=(a,y)::m/\BU U w T c body r1 ((a,y)::m) (λfl r2 l2=>match fl with
    |.next=>∃m2,Bm l2 ((a,y)::m2)/\J (i+1) r2 m2 | .cont=>∃m2,Bm l2 ((a,y)::m2)/\J (i+1) r2 m2 | .brk=>∃m2,Bm l2 ((a,y)::m2)/\∀l3,Bm l3 ((a,x)::m2)->Q .next r2 l3 | .ret d=>∃m2,Bm l2 ((a,y)::m2)/\∀l3,Bm l3 ((a,x)::m2)->Q (.ret d) r2 l3) X) X)/\
   ∀r l m,J ds.length r m->Bm l ((a,x)::m)->Q .next r l) X):Px U w T c (.For target iter body [] pos) r l Q X:=by k_with"o"=>
 refine sS C hs λs R=>wpAny_mono (h s R) (λv s1 ⟨d,l1,rv,R1,S1,a,x,ds,m,hd,dr,hw,J,j0,turn,done⟩=>⟨d,l1,rv,R1,S1,?_⟩) λ_ _ e=>e;obtain⟨u,v',hl,k⟩:=dr.split;refine⟨a,x,ds,λy=>u++(a,y)::v',hd,λy=>hl▸.mid v' u,hw,λy i r l=>∃m,Bm l ((a,y)::m)/\J i r m,λy _=>⟨m,k y,j0⟩,?_,?_,?_⟩
 ·rintro y i r l ⟨m,hd,_⟩;exact hd.mem (.head _)
 ·rintro y i d r l hy hi ⟨m,hd,hj⟩;refine Pf hd λs x' R rx=>wpAny_mono (turn y i d r m hy hi hj s x' R rx) (λ_ _ ⟨r1,l1,b1,b2,e,q⟩=>⟨r1,l1,b1,b2,?_⟩) λ_ _ e=>e;subst e;refine⟨.head _,λs R=>Br (q s R) (λf s2 ⟨g,r3,l3,hf,R3,S3,q⟩=>⟨g,r3,l3,hf,R3,S3,?_⟩) λ_ _ e=>e⟩;cases g with
  |next=>exact q
  |cont=>exact q
  |brk=>obtain⟨m2,h1,h2⟩:=q;obtain⟨l4,p,dp⟩:=h1.put (x:=x);exact⟨l4,p,h2 l4 dp⟩
  |ret d=>obtain⟨m2,h1,h2⟩:=q;obtain⟨l4,p,dp⟩:=h1.put (x:=x);exact⟨l4,p,h2 l4 dp⟩
 ·rintro y r l ⟨m,hd,hj⟩;obtain⟨l4,p,dp⟩:=hd.put (x:=x);exact⟨l4,p,done _ _ _ hj dp⟩
end
section
open Cl
section
variable {R:Result->Shared->Prop}{g:Array GenState}{d:Drawn}{t:Nat}{os:OsState}
theorem Rv {id:String}{args:Args}{b:Builtin}(hq:(Code.builtin id args).quiet=true)(hd:Builtin.Bytes.decodersThatHold.contains id=false)(hb:entryFor table id=some b)
  (h:wpAny (model U w) A.in1 (checkBuiltinCall id args) (λ_ s₁=>AI (model U w) (A.under (.builtin id args)) (b args)
   (λfin s'=>match fin with | .done f=>R (.ok f) s' | .again c'=>c'.quiet=true/\Gw (model U w) A c' R s') (λe s'=>R (.error e) s') s₁)
   (λe s'=>R (.error e) s') s):Gw (model U w) A (.call (.builtin id) args) R s:=by k_with"o"=>
 refine Ej rfl ?_;show AI _ A.in1 (do checkBuiltinCall id args;again (.builtin id args)) _ _ s;refine Cj (Br (Fg h) (λ_ s₁ h₁=>Di (And.intro hq (Ej hd ?_))) λ_ _ h'=>h');show AI _ _ (match entryFor table id with|some b=>b args|none=>unsupported ((withoutEnding? id "#data").getD id)) _ _ s₁;rw[hb];exact h₁
theorem mM {init:Value}(Y:Makes (model U w) h C)(hi:Looks (model U w) h (typeLookup (.ref C) "__init__") (some init))(hb:∀self,Looks (model U w) h (bindSpecial init self) (init,[self]))(BK:(some init != some (Value.builtin "object.__init__"))=true)
  (hq:Gw (model U w) (A.under (.builtin "type.__call__" ⟨[.ref C],[]⟩)) (.call init ⟨[.ref (h.objs.size+1)],[]⟩) (InitBack (h.objs.size+1) R) ⟨(h.push emptyDict).push (instObj C h.objs.size),g,d,t,os⟩) :
  Gw (model U w) A (.call (.ref C) ⟨[],[]⟩) R ⟨h,g,d,t,os⟩:=by k_with"o"=>
 have Y':=Y;obtain⟨⟨oc,od,cd,sl,hC,e1,e2,e4⟩,made,base,self,top,PI,typ⟩:=Y;refine Ej rfl (Fg ?_);show wpAny _ _ (callAny (.ref C) _) _ _ _;refine nd_load hC ?_;show wpAny _ _ (callAny.viaDunder (.ref C) _) _ _ _;unfold callAny.viaDunder;refine wpAny_bind (PI.at ?_);dsimp only;rw[tc_bind];refine wpAny_bind (wpAny_pure (wpAny_bind (wpAny_pure ?_)));refine wpAny_pure (a:=Fin.again (.call (.builtin "type.__call__") ⟨[.ref C],[]⟩)) (And.intro rfl ?_);refine Rv (Code.quiet_builtin _ (by decide +kernel)) (by decide +kernel) entry_typeCall (check_slot tc_kind tc_split typ (tc_args _ _ _) ?_);unfold Builtin.«type.__call__»;have hm:Looks (model U w) h (mroOf (.ref C)) cd.mro:=((Looks.ld (part:=none) hC).andThen .now).andThen .now;show AI _ _ (if (Value.ref C==Value.type "type")=true then _ else _) _ _ _;rw[if_neg (show ¬((Value.ref C==Value.type "type")=true) from λq=>by cases q)];refine Bg (hm.at ?_);simp only[e4,Bi,if_false];refine Bg (made.at ?_);refine Cj (Di ?_);refine Cj (Gj (Lh (jV (new_K Y' hi (.inl BK) ?_))));have k:∀b o,h.get? b=some o->((h.push emptyDict).push (instObj C h.objs.size)).get? b=some o:=λb o e=>Ad _ (Ad _ e);have hx:((h.push emptyDict).push (instObj C h.objs.size)).get? (h.objs.size+1)=some (instObj C h.objs.size):=by heap_get
 have t1:Looks (model U w) ((h.push emptyDict).push (instObj C h.objs.size)) (typeOf (.ref (h.objs.size+1))) (.ref C):=(Looks.ld hx).andThen .now;have s1:=self.keeps k;have i1:=hi.keeps k;have b1:=(hb (.ref (h.objs.size+1))).keeps k;show AI _ _ (isInstance (.ref (h.objs.size+1)) (.ref C) >>= _) _ _ _;have in1:Looks (model U w) ((h.push emptyDict).push (instObj C h.objs.size)) (isInstance (.ref (h.objs.size+1)) (.ref C)) true:=t1.andThen s1;refine Bg (in1.at ?_);simp only[gX,Bi,if_false];refine Cj (Gj ?_);unfold callSpecial? specialOf;refine Bg (wpAny_bind (t1.at (i1.at ?_)));dsimp only;refine Gj (Bg (b1.at ?_));refine Cj (Lh (Kx hq λr s' z=>?_));rcases r with e|(v|_|_|_)<;>first|exact z|exact z.elim|skip
 obtain⟨rfl,z⟩:=z;exact Di (Di z)
end
end
section
open Cl
namespace F
open PySem.F
theorem FX:mroOf (.type "bytearray")=pure [.type "bytearray",.type "object"]:=by k_with"o"=>rw[mroOf_type];kernel_rfl
theorem D7:typeLookup (.type "bytearray") "__new__"=pure (some (.builtin "bytearray.__new__")):=by k_with"o"=>rw[typeLookup_type,builtinLookup_eq_fast];kernel_rfl
theorem A6:Slot "bytearray" "__init__" "bytearray.__init__":=by k_with"o"=>exact(.of (owner := "bytearray") (n := "__init__") (by rw[typeLookup_type,builtinLookup_eq_fast];kernel_rfl) (by decide +kernel) (by decide +kernel) (by decide +kernel)
  (by first|exact .inl (by decide +kernel)|exact .inr (by decide +kernel)) (by rw[isSubtype_type];kernel_rfl))
theorem GD:Bind.madeBy (.type "bytearray")=pure (some "bytearray.__new__"):=madeBy_type FX D7 (by decide +kernel)
theorem EC:TypeCalled "bytearray" "bytearray.__new__" "bytearray.__init__":=by k_with"o"=>exact(⟨by decide +kernel,by decide +kernel,⟨_,_,FX⟩,GD,by decide +kernel,by rw[isSubtype_type];kernel_rfl,A6⟩)
theorem E6:checkTypeCall "bytearray" ⟨[],[]⟩=pure ():=by kernel_rfl
theorem FW:checkBuiltinCall "bytearray.__new__" ⟨[.type "bytearray"],[]⟩=pure ():=by kernel_rfl
theorem EK:entryFor table "bytearray.__new__"=some Builtin.«list.__new__»:=by k_with"o"=>exact(entryFor_alias (id' := "list.__new__") (by kernel_rfl) (by first|rfl|decide +kernel) (by decide +kernel) (by kernel_rfl))
theorem CU:plainId "bytearray.__new__"=true:=by decide +kernel
theorem D8:entryFor table "bytearray.__init__"=some Builtin.«bytearray.__init__»:=entryFor_of_fast (by kernel_rfl)
theorem EL (a:Value):argsOk "bytearray.__init__" ⟨[a],[]⟩:=by unfold argsOk;kernel_rfl
end F
section
set_option maxRecDepth 1000000 in
set_option maxHeartbeats 4000000 in
theorem HR:("bytearray.__new__".splitOn ".__new__").headD ""="bytearray":=by k_with"o"=>simp +decide [String.splitOn,String.splitOnAux]
section
theorem KQ {R:Result->Shared->Prop}(h:R (.ok (.ret (.ref s.heap.objs.size))) {s with heap:=s.heap.push {cls:=.type "bytearray",data:=.bytearray #[]}}) :
  codeAny (model U w) A (.call (.builtin "bytearray.__new__") ⟨[.type "bytearray"],[]⟩) R s:=by k_with"o"=>
 refine codeAny_of_tree ?_;show wpAny _ A.in1 (do checkBuiltinCall "bytearray.__new__" ⟨[.type "bytearray"],[]⟩;again (.builtin "bytearray.__new__" ⟨[.type "bytearray"],[]⟩)) _ _ s;refine wpAny_bind (wpAny_of_eq F.FW (wpAny_pure ⟨plainId_quiet F.CU _,codeAny_builtin_stack F.EK rfl λp st=>?_⟩));rw[Around.under_plainId F.CU _];have DB:=Nu.F.BL;have I3:=HR;obtain⟨hp,g,d,tk,os⟩:=s;simp only[I3]
 wp_walk
 exact h
theorem IU {x:Array UInt8}{Q:PySem.Fin->Shared->Prop}(hg:A.guards=some [])(ho:s.heap.get? a=some {cls:=.type "bytearray",data:=.bytearray x})
  (h:Q (.done (.ret .none)) {s with heap:=s.heap.update a (Obj.mapBytearray λ_=>#[])}):AI (model U w) A (Builtin.«bytearray.__init__» ⟨[.ref a],[]⟩) Q E s:=by k_with"o"=>
 have hT:s.TypeIs (.ref a) "bytearray":=⟨_,ho,rfl⟩;unfold Builtin.«bytearray.__init__»;dsimp only;refine Bg (Vs hT ?_);rw[if_neg (by decide)];refine Bg (wpAny_of_eq (a:=[none,none,none]) (by first|rfl|kernel_rfl) ?_);dsimp only;refine Bg (wpAny_of_eq (a:=()) (by rfl) ?_);refine Bg (wpAny_of_eq (a:=()) (by rfl) ?_);refine Cj (Cj (Vo hg ?_));show AI (model U w) A (do return decide ((<-Builtin.Bytes.exportsOf (.ref a))>0)) _ _ _;unfold Builtin.Bytes.exportsOf;refine Bg (wpAny_bind (wpAny_load ho (wpAny_pure ?_)));refine Di ?_;rw[if_neg (by decide)];refine Fg (wpAny_bind ?_);show wpAny _ _ (updateBytearray a (λ_=>#[])) _ _ _;unfold updateBytearray;refine wpAny_bind (wpAny_load ho ?_);show wpAny _ _ (update a (Obj.mapBytearray λ_=>#[]) >>= λ_=>lookBehind a) _ _ _;refine wpAny_bind (wpAny_update ho ?_);have hS₂:(s.heap.update a (Obj.mapBytearray λ_=>#[])).get? a=some {cls:=.type "bytearray",data:=.bytearray #[]}:=Bv (Obj.mapBytearray λ_=>#[]) ho rfl;exact wpAny_lookBehind hS₂ rfl (wpAny_pure h)
theorem cT {R:Result->Shared->Prop}{id:String}{args:Args}{b:Builtin}(hd:Builtin.Bytes.decodersThatHold.contains id=false)(hb:entryFor table id=some b)
  (h:AI (model U w) (A.under (.builtin id args)) (b args) (λfin s'=>match fin with | .done f=>R (.ok f) s' | .again c'=>c'.quiet=true/\Gw (model U w) A c' R s') (λe s'=>R (.error e) s') s):Gw (model U w) A (.builtin id args) R s:=by k_with"o"=>
 refine Ej hd ?_;show AI _ _ (match entryFor table id with|some b=>b args|none=>unsupported ((withoutEnding? id "#data").getD id)) _ _ s;rw[hb];exact h
theorem bQ {Q:Value->Shared->Prop}(hg:A.guards=some [])(h:∀h':Heap,h'.get? s.heap.objs.size=some {cls:=.type "bytearray",data:=.bytearray #[]}->(∀b o,s.heap.get? b=some o->h'.get? b=some o)->h'.objs.size=s.heap.objs.size+1->Q (.ref s.heap.objs.size) {s with heap:=h'}) :
  AI (model U w) A (call (.type "bytearray") []) Q E s:=by k_with"o"=>
 refine Lh (Ej rfl (Fg ?_));show wpAny _ _ (callAny (.type "bytearray") _) _ _ _;refine wpAny_pure ⟨Code.quiet_builtin _ (by decide +kernel),cT (by decide +kernel) F.entry_type_call ?_⟩;rw[Around.under_plain (weight_type_call_type "bytearray" [] []) rfl];unfold Builtin.«type.__call__»;have h1:=F.EC.notType;have h2:=F.EC.canCreate;show AI _ _ (if (Value.type "bytearray"== Value.type "type")=true then _ else _) _ _ _;rw[h1,if_neg (by decide)];show AI _ _ (if (((Manifest.find? "bytearray").bind _).getD false)=true then _ else _) _ _ _;rw[h2,if_neg (by decide)];refine Bg (wpAny_of_eq F.E6 ?_);refine Bg (wpAny_of_eq F.FX ?_);rw[if_neg (by decide)];refine Bg (wpAny_of_eq F.GD ?_);refine Cj (Di ?_);refine Cj (Gj (Lh (jV (KQ ?_))));have ho:(s.heap.push {cls:=.type "bytearray",data:=.bytearray #[]}).get? s.heap.objs.size=some {cls:=.type "bytearray",data:=.bytearray #[]}:=As _ rfl;have hT:({s with heap:=s.heap.push {cls:=.type "bytearray",data:=.bytearray #[]}}:Shared).TypeIs (.ref s.heap.objs.size) "bytearray":=⟨_,ho,rfl⟩;refine Bg (wpAny_isInstance hT Nu.F.BL ?_);rw[if_neg (by decide)];refine Cj (Gj ?_);unfold callSpecial?;refine Bg (wpAny_specialOf hT F.A6.lookup ?_);dsimp only;refine Gj (Bg (wpAny_of_eq (F.A6.bind _) ?_));refine Cj (Lh (Og F.A6.plain (by decide +kernel) F.D8 (F.A6.check _ _ _ _ _ _ _ _ hT (F.EL _) (IU hg ho ?_))));refine Di (Di ?_);exact h _ (Bv _ ho rfl) (λb o e=>by rw[Fj _ _ _ _ (By (Am e))];exact Ad _ e) (by rw[Du,Bc])
end
end
end
section
open Cl
namespace F
open PySem.F
theorem D6:PlainAttrs "bytearray":=by k_with"o"=>exact(⟨⟨"bytearray.__getattribute__",by rw[typeLookup_type,builtinLookup_eq_fast];kernel_rfl,by decide +kernel⟩,by rw[typeLookup_type,builtinLookup_eq_fast];kernel_rfl⟩)
theorem DW:typeOf (.builtin "bytearray.extend")=pure (.type "method_descriptor"):=by k_with"o"=>show builtinType _=_;rw[builtinType_eq_fast];kernel_rfl
end F
section
theorem sE {fp fr:Led}(C:c.Ok)(G:c.A.guards=some [])(pk:Jx l fp fr)
  (h:Ji U w T c.lev f ds fp (λd fp'=>Q d (fp'++fr)) X):IC U w T c (λxs=>call f xs) ds r l Q X:=by k_with"o"=>exact(λs xs R rx=>by
 have R1:=R.perm pk.perm;have L1:=R1.HS;have L2:Ya U w T c.outer s fp:=⟨L1.AH,L1.frames,λp hp=>L1.led p (Al _ hp),by have:=L1.nodup;rw[Ai] at this;exact(Cd.mp this).1,λp hp=>L1.apart p (Al _ hp)⟩;refine Lh (Kx (h c.A c.outer s xs C.frames C.handled C.depth C.units G L2 rx) λres s' p=>?_);have A2:∀a,a∈fp.map (·.1)->a∈c.own l:=λa ha=>(Ll pk.perm).mpr (by
  unfold Ctx.own;rw[Ai];exact .tail _ (Aq _ (Al _ ha)))
 cases res with
 |ok fl=>
  cases fl with
  |ret v=>obtain⟨d,l',rv,L',S',q⟩:=p;obtain⟨R',St⟩:=R1.back L' S';exact⟨d,_,rv,R',St.mono (λb hb=>(Ll pk.perm).mpr hb) λb hb=>.inl hb,q⟩
  |next=>exact p
  |brk=>exact p
  |cont=>exact p
 |error x=>have e:Exc U w T c.outer (fp.map (·.1)) s.heap true X x s':=p;exact(show Exc U w T c.outer (c.own l) s.heap true X x s' from⟨e.AH,e.frames,λb o q n=>e.kept b o q λm=>n (A2 b m),e.size,e.FI⟩).weak)
theorem uT {fp fr:Led}{xs:List Value}(h1:A.frames=some c.outer)(h2:A.handled=none)(h3:A.depth+lev<=400)(h4:A.units+10*lev<=4000)(hg:A.guards=some [])(pk:Jx l fp fr)
  (h:Ji U w T lev f ds fp (λd fp'=>Q d (fp'++fr)) X) (R:Co U w T c s r l) (rx:AG s.heap ds xs) :
  Gw (model U w) A (.call f ⟨xs,[]⟩) (λres s'=>match res with
   |.ok (.ret v)=>Lw U w T c (c.own l) s.heap r Q v s' | .ok _=>False | .error e=>Exc U w T c.outer (c.own l) s.heap true X e s') s:=by k_with"o"=>
 have R1:=R.perm pk.perm;have L1:=R1.HS;have L2:Ya U w T c.outer s fp:=⟨L1.AH,L1.frames,λp hp=>L1.led p (Al _ hp),by have:=L1.nodup;rw[Ai] at this;exact(Cd.mp this).1,λp hp=>L1.apart p (Al _ hp)⟩;refine Kx (h A c.outer s xs h1 h2 h3 h4 hg L2 rx) λres s' p=>?_;have A2:∀a,a∈fp.map (·.1)->a∈c.own l:=λa ha=>(Ll pk.perm).mpr (by
  unfold Ctx.own;rw[Ai];exact .tail _ (Aq _ (Al _ ha)))
 cases res with
 |ok fl=>
  cases fl with
  |ret v=>obtain⟨d,l',rv,L',S',q⟩:=p;obtain⟨R',St⟩:=R1.back L' S';exact⟨d,_,rv,R',St.mono (λb hb=>(Ll pk.perm).mpr hb) λb hb=>.inl hb,q⟩
  |next=>exact p
  |brk=>exact p
  |cont=>exact p
 |error x=>have e:Exc U w T c.outer (fp.map (·.1)) s.heap true X x s':=p;exact⟨e.AH,e.frames,λb o q n=>e.kept b o q λm=>n (A2 b m),e.size,e.FI⟩
theorem Ji.GQ {Q':V->Led->Prop}(h:Ji U w T lev f as l Q X)(hq:∀d l1,Q d l1->∃l2 fr,l1.Perm (l2++fr)/\Q' d l2):Ji U w T lev f as l Q' X:=by k_with"o"=>exact(λA outer s vals h1 h2 h3 h4 hg h5 h6=>Kx (h A outer s vals h1 h2 h3 h4 hg h5 h6) λres s' p=>by
  cases res with
  |ok fl=>
   cases fl with
   |ret v=>
    obtain⟨d,l',a,b,e,q⟩:=p;obtain⟨l2,fr,pk,q'⟩:=hq _ _ q;have mem:∀p,p∈l2->p∈l':=λp hp=>pk.mem_iff.mpr (Al _ hp);refine⟨d,l2,a,⟨b.AH,b.frames,λp hp=>b.led p (mem p hp),?_,λp hp=>b.apart p (mem p hp)⟩,e.mono (λ_ q=>q) λb hb=>.inl ?_,q'⟩
    ·have:=(pk.map (·.1)).nodup_iff.mp b.nodup;rw[Ai] at this;exact(Cd.mp this).1
    ·obtain⟨p,hp,rfl⟩:=Af.mp hb;exact Af.mpr ⟨p,mem p hp,rfl⟩
   |_=>exact p.elim
  |error x=>exact p)
theorem Ji.CR {fd:FuncData}(F:gQ T a fd body)(TO:T.Ok U w)(params:List Str)
  (hb:∀(s:Shared) (vals:List Value),(∀b o,T.B.get? b=some o->s.heap.get? b=some o)->vals.length=params.length->BindsTo s fd ⟨vals,[]⟩ (params.zip vals)) (hlen:params.length=as.length)
  (h:∀(A:Around) (outer:List Env) (L:Addr),(Fu fd a A outer L lev).Ok->(Fu fd a A outer L lev).A.guards=some []->∃r0,Oo (Eo (L+1) fd.scope.names) ((Eo (L+1) fd.scope.names).map λ_=>none) (params.zip as) r0/\
   BU U w T (Fu fd a A outer L lev) body r0 l (λfl _ l'=>match fl with | .ret d=>Q d l' | .next=>Q .none l'|_=>False) X):Ji U w T (lev+1) (.ref a) as l Q X:=by k_with"o"=>
 intro A outer s vals h1 h2 h3 h4 hg LR rv;obtain⟨o,ho,hd⟩:=F.there;have hk:=LR.AH.stays;refine bN (by have:recursionLimit=1000:=rfl;omega) (hk _ _ ho) hd F.U5 F.gen F.body (F.code.keeps hk) ?_;refine Vc F TO params hb hlen h1 h2 h3 h4 LR rv λL hL C=>?_;subst hL;obtain⟨r0,D0,K1⟩:=h A outer s.heap.objs.size C (show(A.deeper _).guards=_ from hg);refine⟨r0,D0,λs' R' S'=>⟨TO.nolimit.keeps R'.AH.stays,nE (Br (K1 s' R') (λfl s2 ⟨g,r2,l2,hf,R2,S2,q⟩=>?_) λx s2 e=>?_)⟩⟩
 ·have fin:∀(d:V) (v:Value),RV s2.heap d v->Q d l2->qK U w T outer (l.map (·.1)) s.heap Q X (.ok (.ret v)) s2:=λd v DN q2=>
   ⟨d,l2,DN,⟨R2.AH,λe he=>R2.frames e (.tail _ he),R2.led,R2.BF,λp hp=>R2.apart _ (Em hp)⟩,(S'.trans S2).mono (λ_ q=>q) λb hb=>.inl (by
    obtain⟨p,hp,rfl⟩:=Af.mp hb;exact Em hp),q2⟩
  cases g with
  |next=>cases hf;exact fin .none .none .none q
  |brk=>exact q.elim
  |cont=>exact q.elim
  |ret d=>obtain⟨v,rfl,DN⟩:=hf;exact fin d v DN q
 ·have e':Exc U w T (callEnvC fd s.heap.objs.size a::outer) (l.map (·.1)) s.heap false X x s2:=e.shift S' λ_ q=>q;exact Sj (Around.frames_deeper h1) e' λs3 e3=>e3
theorem Prg.L9 (P:Prg U w T){q:Str}(i:Nat)(hm:Sk[i]?=some (a,st,q))(params:List Str)
  (hb:∀pm cd (vals:List Value),vals.length=params.length->bindArgs (Jp st q .none pm cd) ⟨vals,[]⟩=pure (params.zip vals)) (hlen:params.length=as.length)
  (h:∀(pm cd:Value) (A:Around) (outer:List Env) (L:Addr),(Fu (Jp st q .none pm cd) a A outer L lev).Ok->(Fu (Jp st q .none pm cd) a A outer L lev).A.guards=some []->∃r0,Oo (Eo (L+1) (Hu st).names) ((Eo (L+1) (Hu st).names).map λ_=>none) (params.zip as) r0/\
   BU U w T (Fu (Jp st q .none pm cd) a A outer L lev) (Uc st) r0 l (λfl _ l'=>match fl with | .ret d=>Eu Q d l' | .next=>Eu Q .none l'|_=>False) X):Ji U w T (lev+1) (.ref a) as l Q X:=by k_with"o"=>exact(let ⟨pm,cd,F⟩:=P.fn _ (Bd hm)
 Ji.GQ (Ji.CR (Q:=Eu Q) F P.ok params (λs vals hk hv=>.of_eq (hb pm cd vals hv)) hlen (h pm cd)) λ_ _ q=>q)
end
end
section
open Cl
variable {l1:Led}
theorem vH {fI:Addr}(P:Prg U w T)(CO:c.Ok)(G:c.A.guards=some [])(hl:c.lev=lev+1)(hm:Pr C "__init__"=some fI)
  (h:∀x dx,Ji U w T lev (.ref fI) [.ref x] [(x,.inst C dx),(dx,.ns [])] (λd fp'=>d=.none/\Q (.ref x) (fp'++l)) X):IC U w T c (λxs=>call (.ref C) xs) [] r l Q X:=by k_with"o"=>exact(λs xs R rx=>by
 cases rx;have TO:=P.ok;obtain⟨_,k0,k2,k3⟩:=P.KV hm;have hk:=R.E8 TO;obtain⟨hp,g,d,t,os⟩:=s;refine Lh (mM (makes_of hk k0) (looks_findIn hk k2) (λself=>bind_fn hk self k3) rfl ?_);have R1:=R.alloc (o:=emptyDict) (x:=.ns []) ⟨_,Heap.Ns.new hp (.type "dict"),⟨_,_,_,As _ rfl,rfl,rfl,Ah _⟩,λx=>rfl⟩;have R2:=R1.alloc (o:=instObj C hp.objs.size) (x:=.inst C hp.objs.size) (As _ rfl);have BJ:(hp.push emptyDict).objs.size=hp.objs.size+1:=Bc ..;have S1:Step (c.own l) (c.own _) hp (hp.push emptyDict):=Step.alloc (x:=.ns []);have S2:Step (c.own _) (c.own _) (hp.push emptyDict) ((hp.push emptyDict).push (instObj C hp.objs.size)):=Step.alloc (l:=(hp.objs.size,.ns [])::l) (x:=.inst C hp.objs.size);dsimp only at R2 S2;rw[BJ] at R2 S2;refine Kx (uT (Q:=λd l'=>d=.none/\Q (.ref (hp.objs.size+1)) l') (X:=X) (r:=r) (l:=(hp.objs.size+1,.inst C hp.objs.size)::(hp.objs.size,.ns [])::l) (fp:=[(hp.objs.size+1,.inst C hp.objs.size),(hp.objs.size,.ns [])]) (fr:=l) (lev:=lev) (c:=c) (A:=c.A.under (.builtin "type.__call__" ⟨[.ref C],[]⟩)) CO.frames CO.handled (by have:=CO.depth;show c.A.depth+1+lev<=400;omega) (by have:=CO.units;show c.A.units+1+10*lev<=4000;omega) G
  (.cons .here (.cons .here .nil)) (h _ _) R2 (.cons (.ref _) .nil)) λres s' p=>?_
 have PT:=S1.trans S2;cases res with
 |ok fl=>
  cases fl with
  |ret v=>obtain⟨d,l',rv,R',S',e,q⟩:=p;subst e;cases rv;exact⟨rfl,.ref (hp.objs.size+1),l',.ref _,R',PT.trans S',q⟩
  |next=>exact p
  |brk=>exact p
  |cont=>exact p
 |error x=>have e:Exc U w T c.outer _ _ true X x s':=p;exact(e.shift PT λ_ q=>q).weak)
theorem dA (G:c.A.guards=some [])(h:∀a,Q (.ref a) ((a,.DR [])::l)):IC U w T c (λxs=>call (.type "bytearray") xs) [] r l Q X:=by k_with"o"=>exact(λs xs R rx=>by cases rx;refine bQ G λh' e k z=>?_;exact Rel.DI R (.refl _ _) k (by omega) (Ah _) (x:=.DR []) e (h _))
theorem Zs (AE:AP l a (.DR b)):Vh U w T c r l (.ref a) "extend" (.builtin "bytearray.extend"):=by k_with"o"=>exact(λs x pl P E R rx hp=>by cases rx;have e:s.heap.get? a=some {cls:=.type "bytearray",data:=.bytearray b.toArray}:=AE.ro R;exact getMethod_builtin (T := "bytearray") ⟨_,e,rfl⟩ F.D6 F.AZ F.DW (λa' q=>by injection q with q;subst q;exact⟨_,e,rfl⟩) hp)
theorem Lr {x:List UInt8}{l':Led}(G:c.A.guards=some [])(hp:A5 l a (.DR x) (.DR (x++b)) l')(hz:x.length+b.length<=sizeLine)(h:Q .none l'):IC U w T c (λxs=>call (.builtin "bytearray.extend") xs) [.ref a,.bytes b] r l Q X:=by k_with"o"=>exact(λs ys R rx=>by
 obtain⟨v,u,rfl,rv,ru⟩:=rx.two;cases rv;obtain⟨t,rfl⟩:=ru.bytesAt;have e:s.heap.get? a=some {cls:=.type "bytearray",data:=.bytearray x.toArray}:=R.led _ hp.mem;refine Xr G e (by rw[Az,Az];exact hz) ?_;obtain⟨R',S'⟩:=R.put (tk:=s.toks) hp (h':=s.heap.update a (Obj.mapBytearray (·++b.toArray))) (Bs.update ..) λev=>by
  have:=Bv (Obj.mapBytearray (·++b.toArray)) e rfl;rw[show Obj.mapBytearray (·++b.toArray) {cls:=.type "bytearray",data:=.bytearray x.toArray}={cls:=.type "bytearray",data:=.bytearray (x++b).toArray} from by
   show({cls:=.type "bytearray",data:=.bytearray (x.toArray++b.toArray)}:Obj)=_;rw[Vm]] at this
  exact this
 exact⟨.none,l',.none,R',S',h⟩)
theorem cZ {x:List UInt8}(AE:AP l a (.DR x))(hz:x.length<=sizeLine)(h:Q (.bytes x) l):Wn U w T c (λxs=>call (.type "bytes") xs) [.ref a] r l Q X:=by k_with"o"=>exact(λs ys R rx=>by obtain⟨v,rfl,rv⟩:=rx.one;cases rv;have e:s.heap.get? a=some {cls:=.type "bytearray",data:=.bytearray x.toArray}:=AE.ro R;exact Zk e (by rw[Az];exact hz) λt k=>⟨.bytes x,l,.bytes _ _,R.tok k,.refl _ _,h⟩)
theorem Jg {Q:Fl->Rg->Led->Prop}(d:Bm l l1)(h:BU U w T c ss r l1 Q X):BU U w T c ss r l Q X:=by k_with"o"=>exact(λs R=>Br (h s (Rel.drop d R)) (λ_ _ ⟨g,r2,l2,a,b,e,q⟩=>⟨g,r2,l2,a,b,d.step e,q⟩) λ_ _ e=>d.exc e)
noncomputable def BM:Value->Bool
 |.type _=>true
 |.builtin _=>true
 |.ref a=>Zx.contains a
 |_=>false
theorem Prg.BM (P:Prg U w T)(h:Nu.BM v=true):Mo T v:=by k_with"o"=>
 cases v with
 |type n=>exact .ty
 |builtin n=>exact .bi
 |ref a=>exact .kp (P.keep a (Tt.mp h))
 |_=>cases h
theorem nX {p:Pos}(P:Prg U w T)(C:c.Ok)(hx:c.env.kindOf x=some .globalImplicit)(hd:(x==("__debug__" : Str))=false)(g:Xk x=some f)(K:Nu.BM f=true)
  (he:eval (.Call (.Name x p) args [] pos) c.env=(do callWith pos (<-eval (.Name x p) c.env) [] (backTo pos (starEach args c.env)) (backToKw pos (keywordEach [] c.env))))
  (AM:starEach args c.env=args.map λe=>(false,eval e c.env))
  (h:Dp U w T c pos args r l (λds l1=>IC U w T c (λxs=>call f xs) ds r l1 Q X) X):EX U w T c (.Call (.Name x p) args [] pos) r l Q X:=by k_with"o"=>exact(vS C P.ok hx hd (P.glob g) (P.BM K) he AM h)
theorem Aar {dd:Addr}{name:Str}{f:Addr}{R:Value->Prop}(P:Prg U w T)(h1:AP l a (.inst C dd))(h2:AP l dd (.ns fs))(hf:Pr C name=some f)(hs:fs.lookup name=none)(hk:Nu.BM (.ref f)=true)(h3:R (.ref f)) :
  ∃f,Vh U w T c r l (.ref a) name f/\Mo T f/\R f:=by k_with"o"=>exact(let ⟨k1,_⟩:=wC (c:=c) (r:=r) P h1 h2 hf hs;⟨_,k1,P.BM hk,h3⟩)
theorem Vy {R:Value->Prop}(AE:AP l a (.DR b))(h3:R (.builtin "bytearray.extend")):∃f,Vh U w T c r l (.ref a) "extend" f/\Mo T f/\R f:=by k_with"o"=>exact(⟨_,Zs AE,.bi,h3⟩)
end
section
open Cl
theorem Kz {p:Addr×O}:(c.own (p::l)).Perm (p.1::c.own l):=by k_with"o"=>unfold Ctx.own;rw[Aj];exact(En.cons _ Ed).trans (.swap ..)
theorem sC {p:Addr×O}{Q:Fl->Rg->Led->Prop}(h:BU U w T c ss r l Q X):BU U w T c ss r (p::l) (λf r' l'=>∃V7,l'=p::V7/\Q f r' V7) X:=by k_with"o"=>
 intro s R;have d:Bm (p::l) l:=Bm.skip (Bm.refl l);have R0:Co U w T c s r l:=Rel.drop d R;have G':=(Kz (c:=c)).nodup_iff.mp R.nodup;rw[Ap] at G';have hp:=R.led p (.head _);obtain⟨ob,ho,bf,_⟩:=hp.at;refine Br (h s R0) ?_ λ_ _ e=>d.exc e;rintro f s' ⟨g,r',l',hf,R',S',q⟩;have LP:p.1∉c.own l':=λq=>(S'.fresh _ q).elim G'.1 λq=>absurd (Am ho) (Bh.mpr q);refine⟨g,r',p::l',hf,⟨R'.AH,R'.frames,R'.vars,λx hx=>?_,?_,λa ha=>?_⟩,⟨λb o e n=>S'.kept b o e λq=>n (Kz.mem_iff.mpr (.tail _ q)),λa ha=>?_,S'.size⟩,l',rfl,q⟩
 ·rcases Ag.mp hx with rfl|hx
  ·refine hp.keep (λo e=>?_) (S'.kept.AD R0.CS);obtain⟨o',e1,e2⟩:=S'.kept _ _ e G'.1;rw[ho] at e;injection e with e;subst e;rw[e1,e2.eq bf]
  ·exact R'.led x hx
 ·exact Kz.nodup_iff.mpr (Ap.mpr ⟨LP,R'.nodup⟩)
 ·rcases Ag.mp (Kz.mem_iff.mp ha) with rfl|ha
  ·exact R.apart _ (Kz.mem_iff.mpr (.head _))
  ·exact R'.apart a ha
 ·rcases Ag.mp (Kz.mem_iff.mp ha) with rfl|ha
  ·exact .inl (Kz.mem_iff.mpr (.head _))
  ·exact(S'.fresh a ha).imp (λq=>Kz.mem_iff.mpr (.tail _ q)) id
theorem kG {Q Q':Fl->Rg->Led->Prop}(h:BU U w T c ss r l Q X)(k:∀f r l,Q f r l->Q' f r l):BU U w T c ss r l Q' X:=by k_with"o"=>exact(λs R=>
 Br (h s R) (λ_ _ ⟨g,r',l',a,b,e,q⟩=>⟨g,r',l',a,b,e,k _ _ _ q⟩) λ_ _ e=>e)
end
section
section
theorem Eh.RF {emit:Addr->Addr->Sem Unit}{Fin:Addr->Led->Prop}
  (h:∃(a:Addr) (x:O) (ds:List V) (m:Led),d=.ref a/\Bm l ((a,x)::m)/\WalkL U w T c a x ds/\∀C D,(Dl c scope cl C).Ok->
   ∃(r0:Rg) (J:Nat->List V->Rg->Led->Prop),Ie c.names r (Ea cl scope.names) r0/\J 0 [] r0 m/\(∀i acc r' m',J i acc r' m'->Ld c.names r (Ea cl scope.names) r')/\
    (∀y i dd acc r m,Mx y x->ds[i]?=some dd->J i acc r m->Wa U w T (Dl c scope cl C) target dd r ((D,.list acc)::(a,y)::m) (λr1 l1=>l1=(D,.list acc)::(a,y)::m/\
     Mg U w T (Dl c scope cl C) ifs r1 l1 (λb l2=>if b then G3 U w T (Dl c scope cl C) (emit C D) r1 l2 (λr3 l3=>∃IB m3,Bm l3 ((D,.list IB)::(a,y)::m3)/\J (i+1) IB r3 m3)
      else ∃m3,Bm l2 ((D,.list acc)::(a,y)::m3)/\J (i+1) acc r1 m3)) ER)/\
    (∀acc r' m' l',J ds.length acc r' m'->Bm l' ((D,.list acc)::(a,x)::m')->Fin D l')) :
  Eh U w T c ⟨target,iter,ifs,0⟩ scope cl emit r l d Fin:=by k_with"o"=>
 obtain⟨a,x,ds,m,hd,dr,hw,ask⟩:=h;obtain⟨u,v',hl,k⟩:=dr.split;refine⟨a,x,ds,λy=>u++(a,y)::v',hd,λy=>hl▸.mid v' u,hw,λy hy C D CO=>?_⟩;obtain⟨r0,J,h1,h2,h3,h4,h5⟩:=ask C D CO;refine⟨r0,λi r l=>∃acc m,Bm l ((D,.list acc)::(a,y)::m)/\J i acc r m,h1,⟨[],m,?_,h2⟩,?_,?_,?_⟩
 ·obtain⟨fr,p⟩:=k y;exact⟨fr,p.cons _⟩
 ·rintro i r' l' ⟨acc,m,hd,hj⟩;exact⟨hd.mem (.tail _ (.head _)),h3 _ _ _ _ hj⟩
 ·rintro i dd r l hi ⟨acc,m,hd,hj⟩;refine Pf hd λs x' R rx=>wpAny_mono (h4 y i dd acc r m hy hi hj s x' R rx) (λ_ _ ⟨r1,l1,b1,b2,e,q⟩=>⟨r1,l1,b1,b2,?_⟩) λ_ _ e=>e;subst e;refine λs R=>wpAny_mono (q s R) (λb s2 ⟨l2,R2,S2,q2⟩=>⟨l2,R2,S2,?_⟩) λ_ _ e=>e;cases b with
  |false=>obtain⟨m3,d3,j3⟩:=q2;exact⟨acc,m3,d3,j3⟩
  |true=>exact q2
 ·rintro r' l' ⟨acc,m,hd,hj⟩;have hd2:Bm l' ((a,y)::(D,.list acc)::m):=hd.trans ⟨[],by rw[Au];exact .swap ..⟩;obtain⟨l4,p,dp⟩:=hd2.put (x:=x);exact⟨l4,p,h5 _ _ _ _ hj (dp.trans ⟨[],by rw[Au];exact .swap ..⟩)⟩
theorem kK {Q:Rg->Led->Prop}(CO:c.Ok){elt:Expr}{gens:List Comprehension}{p:Pos}{depth:Nat}{acc:Value}{emit:Sem Unit}
  (hg:gens[depth]?=some ⟨target,iter,ifs,0⟩) (hs:∀x,foldedSetIterable iter c.env x=pure x)
  (F3:∀I,compTurn (.ListComp elt gens scope pos) depth (.ref I) acc c.env=(do
   standAt p
   match <-pyNext (.ref I) with
   |none=>pure (.done .next)
   |some v=>
    letOwnedTupleGo target (.ref I) v
    assign target c.env v
    let ok <-Kh ifs c.env
    if ok then emit
    again (.compLoop (.ListComp elt gens scope pos) depth (.ref I) acc c.env)))
  (h:We U w T c iter r l (λd l1=>∃(a:Addr) (x:O) (ds:List V) (m:Led),d=.ref a/\Bm l1 ((a,x)::m)/\WalkL U w T c a x ds/\∃(J:Nat->Rg->Led->Prop),J 0 r m/\
   (∀y i dd r m,Mx y x->ds[i]?=some dd->J i r m->Wa U w T c target dd r ((a,y)::m) (λr1 l1=>Mg U w T c ifs r1 l1 (λb l2=>if b then G3 U w T c emit r1 l2 (λr3 l3=>∃m3,Bm l3 ((a,y)::m3)/\J (i+1) r3 m3) else ∃m3,Bm l2 ((a,y)::m3)/\J (i+1) r1 m3)) ER)/\
   (∀r' m' l',J ds.length r' m'->Bm l' ((a,x)::m')->Q r' l')) ER):G3 U w T c (Mf elt gens scope pos depth iter acc c.env) r l Q:=by k_with"o"=>
 refine nS CO hg hs F3 λs R=>wpAny_mono (h s R) (λv s1 ⟨d,l1,rv,R1,S1,a,x,ds,m,hd,dr,hw,J,h2,h4,h5⟩=>⟨d,l1,rv,R1,S1,?_⟩) λ_ _ e=>e;obtain⟨u,v',hl,k⟩:=dr.split;refine⟨a,x,ds,λy=>u++(a,y)::v',hd,λy=>hl▸.mid v' u,hw,λy hy=>⟨λi r l=>∃m,Bm l ((a,y)::m)/\J i r m,⟨m,k y,h2⟩,?_,?_,?_⟩⟩
 ·rintro i r' l' ⟨m,hd,hj⟩;exact hd.mem (.head _)
 ·rintro i dd r l hi ⟨m,hd,hj⟩;refine Pf hd λs x' R rx=>wpAny_mono (h4 y i dd r m hy hi hj s x' R rx) (λ_ _ ⟨r1,l1,b1,b2,q⟩=>⟨r1,l1,b1,b2,?_⟩) λ_ _ e=>e;refine λs R=>wpAny_mono (q s R) (λb s2 ⟨l2,R2,S2,q2⟩=>⟨l2,R2,S2,?_⟩) λ_ _ e=>e;cases b with
  |false=>exact q2
  |true=>exact q2
 ·rintro r' l' ⟨m,hd,hj⟩;obtain⟨l4,p,dp⟩:=hd.put (x:=x);exact⟨l4,p,h5 _ _ _ hj dp⟩
end
section
theorem gA (elt t0 i0 t1 i1:Expr)(scope:Scope)(pos:Pos)(I D:Addr)(env:Env) :
  compTurn (.ListComp elt [⟨t0,i0,[],0⟩,⟨t1,i1,[],0⟩] scope pos) 0 (.ref I) (.ref D) env=(do
   standAt i0.pos
   match <-pyNext (.ref I) with
   |none=>pure (.done .next)
   |some v=>
    letOwnedTupleGo t0 (.ref I) v
    assign t0 env v
    let ok <-Kh [] env
    if ok then Mf elt [⟨t0,i0,[],0⟩,⟨t1,i1,[],0⟩] scope pos 1 i1 (.ref D) env
    again (.compLoop (.ListComp elt [⟨t0,i0,[],0⟩,⟨t1,i1,[],0⟩] scope pos) 0 (.ref I) (.ref D) env)):=by k_with"o"=>
 unfold compTurn Mf;show(standAt i0.pos >>= λ_=>pyNext (.ref I) >>= _)=(standAt i0.pos >>= λ_=>pyNext (.ref I) >>= _);congr 1;funext _;congr 1;funext o;cases o with
 |none=>rfl
 |some v=>show(letOwnedTupleGo t0 (.ref I) v >>= λ_=>assign t0 env v >>= _)=(letOwnedTupleGo t0 (.ref I) v >>= λ_=>assign t0 env v >>= _);congr 1;funext _;congr 1;funext _;show(_:Sem Fin)=(pure true >>= _);rw[pure_bind];simp only[if_true,bind_assoc];rfl
end
end
section
open PyProof.V
theorem jH {k:Str}{i:Int}{kvs:List (Str×Value)}{D:List (PyData×PyData)}(f:FlatPairs PyData.str kvs D)(hn:(D.map (·.1)).Nodup)(hm:(PyData.str k,PyData.int i)∈D):∃t,valueAt kvs k=some (.int i t):=by k_with"o"=>
 induction f with
 |nil=>cases hm
 |@cons k0 _ _ _ _ fv fr ih=>
  rw[Aj,Ap] at hn;rw[Mb];rcases Ag.mp hm with e|hm
  ·injection e with e1 e2;injection e1 with e1;subst e1 e2;obtain⟨t,rfl⟩:=fv.int_inv;exact⟨t,if_pos rfl⟩
  ·obtain⟨t,ht⟩:=ih hn.2 hm;rw[Mb] at ht;refine⟨t,?_⟩;rw[Ey,if_neg λq=>hn.1 (by rw[q];exact Af.mpr ⟨_,hm,rfl⟩)];exact ht
theorem nT {keys:List (Option Expr)}{values:List Expr}{dp:Pos}{ix:Expr}{D:List (PyData×PyData)}(hs:∀o i,subscripted ix false o i=operate [o,i] (getItem o i))(hD:litPairs keys values=some D)(hk:strKeyed D=true)(hn:(strKeysOf D).Nodup)(II:(D.map (·.1)).Nodup)
  (BO:keys.all (·.isSome)=true) (hl:keys.length=values.length) (h0:keys≠[]) (hlen:keys.length<=15)
  (h:We U w T c ix r l (λd l1=>∃k i,d=.str k/\(PyData.str k,PyData.int i)∈D/\Q (.int i) l1) X):We U w T c (.Subscript (.Dict keys values dp) ix pos) r l Q X:=by k_with"o"=>exact(λs R=>by
 refine Subscript_ (Dict_lits_str hD hk hn BO hl h0 hlen λa o h1 tk ha ho ⟨kvs,hd,fp⟩ GN=>?_);have hz:s.heap.objs.size<=h1.objs.size:=Aa ha (Fz (Am ho));have R1:=R.grow (tk:=tk) GN hz;have S1:Step (c.own l) (c.own l) s.heap h1:=Step.grow GN hz;have QJ:a∉c.own l:=λq=>absurd (R.live a q) (Bh.mpr ha);refine wpAny_mono (h _ R1) (λiv s2 ⟨d,l1,rv,R2,S2,k,i,bq,hm,hq⟩=>?_) λx s2 e=>e.shift S1 λ_ q=>q;subst bq;obtain⟨t,rfl⟩:∃t,iv=.str k t:=by cases rv;exact⟨_,rfl⟩
 have hd2:s2.heap.DictOf (strKind U w) a kvs:=by
  obtain⟨o',e1,e2⟩:=S2.kept a o ho QJ;have UM:o.cls=.type "dict":=by obtain⟨es,ep,q,_⟩:=hd;exact q.1
  rw[e2.eq (by rw[UM];decide)] at e1;exact Heap.dictOf_iff.mpr ⟨o,e1,hd⟩
 obtain⟨tv,hv⟩:=jH fp II hm;refine tail_any hd2.typeIs slot_dict_getitem.lookup (wpAny_getItem_of (strKind_is U w k t) hd2.mapOf hv ?_) (hs _ _);exact⟨.int i,l1,.int _ _,R2.tok _,S1.trans S2,hq⟩)
end
theorem uK {Q:Fl->Rg->Led->Prop}{e it:Addr}{ob:Obj}{x:O}{items:Array Value}(C:c.Ok)(XB:e≠it)(g5:a≠e)(g0:a≠it)(hl:∀h:Heap,h.get? a=some ob->h.IsList a items)
  (AF:AG h0 ds items.toList) {tp:Pos} (LO:∀i r l,J i r l->(a,O.fz ob x)∈l)
  (turn:∀i d r l,ds[i]?=some d->J i r l->Wa U w T c (.Tuple es k tp) (.tup [.int (i:Int),d]) r l (λr1 l1=>(a,O.fz ob x)∈l1/\Ws U w T c body r1 l1 (λfl r2 l2=>match fl with
   |.next=>J (i+1) r2 l2 | .cont=>J (i+1) r2 l2 | .brk=>Q .next r2 l2 | .ret d=>Q (.ret d) r2 l2) X) X)
  (done:∀r l,J ds.length r l->Q .next r l) {hs:Heap} (R:Co U w T c s r l) (hJ:J 0 r l) (AM:(∃old,IsEnum s.heap e it (0:Nat) old)/\s.heap.IsListIter it a 0)
  (AU:∀b∈[e,it],hs.objs.size<=b/\b∉c.own l/\T.B.objs.size<=b) (S0:Step own0 (c.own l) hs s.heap) (EA:A0 h0 s.heap) :
  codeAny (model U w) c.A (.forLoop (.Tuple es k tp) (.ref e) body [] c.env) (λr s'=>match r with | .ok f=>Za U w T c own0 hs Q f s' | .error e=>cameBackBy (model U w) c.A c.env (Exc U w T c.outer own0 hs false X) e s') s:=by k_with"o"=>
 refine codeAny_forLoop_any (λn s=>∃(i:Nat) (r:Rg) (l:Led),n=ds.length-i/\i<=ds.length/\Co U w T c s r l/\J i r l/\((∃old,IsEnum s.heap e it (i:Int) old)/\s.heap.IsListIter it a i)/\(∀b∈[e,it],hs.objs.size<=b/\b∉c.own l/\T.B.objs.size<=b)/\Step own0 (c.own l) hs s.heap/\A0 h0 s.heap) ?_ _
  ⟨0,r,l,rfl,Ca _,R,hJ,AM,AU,S0,EA⟩
 rintro n s ⟨i,r,l,rfl,hi,R,hJ,⟨⟨old,he⟩,hit⟩,AU,S0,EA⟩;have err:∀{BC:List Addr} {h1:Heap} (x:Value) (s':Shared),Step own0 BC hs h1->Exc U w T c.outer BC h1 false X x s'->notedBy (model U w) c.A c.env (λe C3=>cameBackBy (model U w) c.A c.env (Exc U w T c.outer own0 hs false X) e C3) x s':=λx s' S e=>
  Wq C (e.shift S λ_ q=>q) λ_ e3=>e3.weak
 have live:∀{h:Heap} {j:Int} {i':Nat} {f4:Value} {o0:Value},h.get? e=some {cls:=.type "enumerate",dict:=none,data:=.fields #[f4,.bool false,.ref it,rawInt j,.none,o0],slots:=#[]}->h.IsListIter it a i'->∀b∈[e,it],∃o,h.get? b=some o/\o.cls≠.type "tuple"/\o.cls≠.type "frame":=λh1 h2 b hb=>by
  rcases Ag.mp hb with rfl|hb
  ·exact⟨_,h1,by show Value.type "enumerate" ≠ Value.type "tuple";decide,by show Value.type "enumerate" ≠ Value.type "frame";decide⟩
  ·obtain⟨o,e1,e2,_⟩:=h2;rw[Ae.mp hb];exact⟨o,e1,by rw[e2];decide,by rw[e2];decide⟩
 have moved:∀{h':Heap} {tk:Nat},s.heap.objs.size<=h'.objs.size->(∀b o,b∉[e,it]->s.heap.get? b=some o->h'.get? b=some o)->Co U w T c {s with heap:=h',toks:=tk} r l/\A0 s.heap h'/\Step own0 (c.own l) hs h':=λ{h' tk} z hk=>by obtain⟨R1,E1⟩:=R.other (tk:=tk) (λb hb=>⟨(AU b hb).2.1,(AU b hb).2.2,live he hit b hb⟩) hk z;refine⟨R1,E1,⟨λb o e n=>?_,S0.fresh,Aa S0.size z⟩⟩;obtain⟨o',e',s'⟩:=S0.kept b o e n;exact⟨o',hk b o' (λq=>absurd (Am e) (Bh.mpr (AU b q).1)) e',s'⟩
 have RG:∀{s:Shared} {r:Rg} {l:Led},Co U w T c s r l->(a,O.fz ob x)∈l->s.heap.get? a=some ob:=λR hm=>(R.led _ hm).1;have BP:=RG R (LO _ _ _ hJ);have XK:=hl _ BP;by_cases AJ:i<ds.length
 ·obtain⟨d,hd⟩:∃d,ds[i]?=some d:=⟨_,Cs AJ⟩;obtain⟨v,hv,rv⟩:=AF.at hd;have ZD:items[i]?=some v:=by simpa using hv
  refine wpAny_pyNext_enum_item he hit XK ZD XB λh1 ho TZ hT BJ DZ=>?_;have UE:e<s.heap.objs.size:=Am he;have ak:it<s.heap.objs.size:=by obtain⟨_,x,_⟩:=hit;exact Am x
  have Y3:∀b o,b∉[e,it]->s.heap.get? b=some o->h1.get? b=some o:=λb o hb q=>DZ b o (λz=>hb (z▸.head _)) (λz=>hb (z▸.tail _ (.head _))) q;refine wpAny_letOwnedTupleGo_enum (s:={s with heap:=h1,toks:=s.toks+1}) ho λh2 FF HU=>?_;have P8:∀b o,b∉[e,it]->s.heap.get? b=some o->h2.get? b=some o:=λb o hb q=>(HU.2 b λz=>hb (z▸.head _)).trans (Y3 b o hb q);have z2:s.heap.objs.size<=h2.objs.size:=by have:h2.objs.size=h1.objs.size:=HU.1;omega
  obtain⟨R1,E1,S1⟩:=moved (tk:=s.toks+1) z2 P8;have cq:h2.get? s.heap.objs.size=some (Fs [.int i s.toks,v]):=(HU.2 _ (Tc UE)).trans hT;have YS:RV h2 (.tup [.int (i:Int),d]) (.ref s.heap.objs.size):=.tup cq (.cons (.int _ _) (.cons ((rv.AD EA).AD E1) .nil));have OG:h2.IsListIter it a (i+1):=TZ.at λo y=>(HU.2 it XB.symm).trans y;refine wpAny_mono (turn i d r l hd hJ _ _ R1 YS) (λ_ s2 ⟨r2,l2,R2,S2,KY,hb⟩=>?_) λx s2 e=>err x s2 S1 e;have CE:∀{BC E4:List Addr} {ha hb:Heap} {j:Int} {i':Nat} {o0:Value},Step BC E4 ha hb->IsEnum ha e it j o0->ha.IsListIter it a i'->(∀b∈[e,it],b∉BC)->IsEnum hb e it j o0/\hb.IsListIter it a i':=@λBC E4 ha O5 j i' o0 S DT BX n=>by
   have k2:∀b∈[e,it],∀o,ha.get? b=some o->O5.get? b=some o:=λb hb o eb=>by obtain⟨o',e',s'⟩:=S.kept b o eb (n b hb);obtain⟨o2,q1,_,q3⟩:=live DT BX b hb;rw[eb] at q1;injection q1 with q1;subst q1;rw[e',s'.eq q3]
   exact⟨k2 e (.head _) _ DT,BX.at λo y=>k2 it (.tail _ (.head _)) o y⟩
  have E2:A0 h2 s2.heap:=R1.AD S2;obtain⟨VZ,VY⟩:=CE S2 FF OG λb hb=>(AU b hb).2.1;have JK:∀b∈[e,it],b∉c.own l2:=λb hb q=>(S2.fresh b q).elim (AU b hb).2.1 λz=>by obtain⟨o,e,_⟩:=live FF OG b hb;exact absurd (Am e) (Bh.mpr z)
  refine wpAny_mono (hb s2 R2) (λf s3 ⟨g,r3,l3,hf,R3,S3,q⟩=>?_) λx s3 e=>err x s3 (S1.trans S2) e;have FQ:=(S1.trans S2).trans S3;have HP:J (i+1) r3 l3->∃m,m<ds.length-i/\∃(i':Nat) (r:Rg) (l:Led),m=ds.length-i'/\i'<=ds.length/\Co U w T c s3 r l/\J i' r l/\((∃old,IsEnum s3.heap e it (i':Int) old)/\s3.heap.IsListIter it a i')/\(∀b∈[e,it],hs.objs.size<=b/\b∉c.own l/\T.B.objs.size<=b)/\Step own0 (c.own l) hs s3.heap/\A0 h0 s3.heap:=λhj=>by
   obtain⟨YN,YM⟩:=CE S3 VZ VY JK;refine⟨ds.length-(i+1),by omega,i+1,r3,l3,rfl,AJ,R3,hj,⟨⟨_,YN⟩,YM⟩,λb hb=>⟨(AU b hb).1,λq=>?_,(AU b hb).2.2⟩,FQ,((EA.trans E1).trans E2).trans (R2.AD S3)⟩;rcases S3.fresh b q with z|z
   ·exact JK b hb z
   ·obtain⟨o,e,_⟩:=live VZ VY b hb;exact absurd (Am e) (Bh.mpr z)
  cases g with
  |next=>cases hf;exact HP q
  |cont=>cases hf;exact HP q
  |brk=>cases hf;exact⟨.next,r3,l3,rfl,R3,FQ,q⟩
  |ret d=>obtain⟨v,rfl,F'⟩:=hf;exact⟨.ret d,r3,l3,⟨v,rfl,F'⟩,R3,FQ,q⟩
 ·have AE:i=ds.length:=by omega
  subst AE;have BJ:items.size=ds.length:=by rw[AF.length];exact(Bf).symm
  refine Ci (Ah _) (wpAny_pyNext_enum_end C.handled he hit XK (Rw (Ef BJ)) λh1 DZ z1=>?_);obtain⟨R1,E1,S1⟩:=moved (tk:=s.toks) z1 λb o hb q=>DZ b o (λz=>hb (z▸.tail _ (.head _))) q;exact wpAny_execs_nil ⟨.next,r,l,rfl,R1,S1,done r l hJ⟩
theorem gN {Q:Fl->Rg->Led->Prop}{tp np cp:Pos}{ae:Expr}(TO:T.Ok U w)(C:c.Ok)(hx:c.env.kindOf "enumerate"=some .globalImplicit)(g:Rq T "enumerate" (.type "enumerate"))
  (hs:∀x,foldedSetIterable (.Call (.Name "enumerate" np) [ae] [] cp) c.env x=pure x)
  (he:eval (.Call (.Name "enumerate" np) [ae] [] cp) c.env=(do callWith cp (<-eval (.Name "enumerate" np) c.env) [] (backTo cp (starEach [ae] c.env)) (backToKw cp (keywordEach [] c.env))))
  (AM:starEach [ae] c.env=[ae].map λe=>(false,eval e c.env))
  (h:Hd U w T c cp [ae] r l (λvs l1=>∃(a:Addr) (ds:List V) (m:Led),vs=[.ref a]/\Bm l1 ((a,.list ds)::m)/\∃J:Nat->Rg->Led->Prop,J 0 r m/\
   (∀y i d r m,Mx y (.list ds)->ds[i]?=some d->J i r m->Wa U w T c (.Tuple es k tp) (.tup [.int (i:Nat),d]) r ((a,y)::m) (λr1 l1=>l1=(a,y)::m/\Ws U w T c body r1 ((a,y)::m) (λfl r2 l2=>match fl with
    |.next=>∃m2,Bm l2 ((a,y)::m2)/\J (i+1) r2 m2 | .cont=>∃m2,Bm l2 ((a,y)::m2)/\J (i+1) r2 m2 | .brk=>∃m2,Bm l2 ((a,y)::m2)/\∀l3,Bm l3 ((a,.list ds)::m2)->Q .next r2 l3 | .ret d=>∃m2,Bm l2 ((a,y)::m2)/\∀l3,Bm l3 ((a,.list ds)::m2)->Q (.ret d) r2 l3) X) X)/\
   ∀r l m,J ds.length r m->Bm l ((a,.list ds)::m)->Q .next r l) X):BY U w T c (.For (.Tuple es k tp) (.Call (.Name "enumerate" np) [ae] [] cp) body [] pos) r l Q X:=by k_with"o"=>exact(λs R=>by
 refine wpAny_For (Call_ (Me C TO hx rfl g R.AH (Lq TO .ty AM (wpAny_mono (h s R) (λvs s1 ⟨ft,l1,rv,R1,S1,a,ds,m,hd,dr,J,j0,turn,done⟩=>⟨R1.AH,?_⟩) λ_ _ e=>e))) he) hs;subst hd;obtain rfl:vs=[.ref a]:=by
  cases rv with
  |cons p q=>cases q;cases p;rfl
 obtain⟨u,v',hl,kd⟩:=dr.split;subst hl;have B4:∀y,A5 (u++(a,O.list ds)::v') a (.list ds) y (u++(a,y)::v'):=λy=>.mid v' u;have ro:=R1.led _ (B4 (.list ds)).mem;obtain⟨ob,BP,_⟩:=ro.at;obtain⟨items,n,e1,AF⟩:=ro;have hl:∀h:Heap,h.get? a=some ob->h.IsList a items.toArray:=λh q=>by rw[BP] at e1;injection e1 with e1;exact⟨_,q,by rw[e1],n,by rw[e1]⟩
 refine call_enumerate_list (hl _ BP) λh' hE hI hz hk=>?_;refine wpAny_pyIter_enum (s:={s1 with heap:=h'}) hE ?_;obtain⟨Rf,own⟩:=R1.CD (B4 (.fz ob (.list ds))) λq=>⟨BP,q⟩;have z:s1.heap.objs.size<=h'.objs.size:=by omega
 have R2:=Rf.grow (h':=h') (tk:=s1.toks) hk z;have AJ:=Am BP;refine codeAny_mono (uK (U:=U) (T:=T) (r:=r) (l:=u++(a,.fz ob (.list ds))::v') (Q:=λfl r2 l2=>∃l3,A5 l2 a (.fz ob (.list ds)) (.list ds) l3/\Q fl r2 l3) (h0:=s1.heap) (ds:=ds) (items:=items.toArray) C (Nat.succ_ne_self _)
  (By (Zu AJ)) (By AJ) hl (by simpa using AF) (J:=λi r l=>∃m,Bm l ((a,.fz ob (.list ds))::m)/\J i r m) (own0:=c.own l) (hs:=s.heap) (X:=X) (λi r l ⟨m,hd,_⟩=>hd.mem (.head _))
  (λi d r l hi ⟨m,hd,hj⟩=>Pf hd λs x' R rx=>wpAny_mono (turn _ i d r m .fz hi hj s x' R rx) (λ_ _ ⟨r1,l1,b1,b2,q1,q2⟩=>⟨r1,l1,b1,b2,?_⟩) λ_ _ e=>e) (λr l ⟨m,hd,hj⟩=>?_) (s:={s1 with heap:=h'}) R2 ⟨m,kd _,j0⟩ ⟨⟨_,hE⟩,hI⟩
  (λb hb=>?_) ((S1.C7 (λ_=>.rfl) own).trans (Step.grow hk z)) (λb vs e=>hk _ _ e)) λres s' q=>?_
 ·subst q1;refine⟨.head _,λs R=>wpAny_mono (q2 s R) (λf s2 ⟨g,r3,l3,hf,R3,S3,q⟩=>⟨g,r3,l3,hf,R3,S3,?_⟩) λ_ _ e=>e⟩;cases g with
  |next=>exact q
  |cont=>exact q
  |brk=>obtain⟨m2,h1,h2⟩:=q;obtain⟨l4,p,dp⟩:=h1.put (x:=.list ds);exact⟨l4,p,h2 l4 dp⟩
  |ret d=>obtain⟨m2,h1,h2⟩:=q;obtain⟨l4,p,dp⟩:=h1.put (x:=.list ds);exact⟨l4,p,h2 l4 dp⟩
 ·obtain⟨l4,p,dp⟩:=hd.put (x:=.list ds);exact⟨l4,p,done _ _ _ hj dp⟩
 ·have O5:s1.heap.objs.size<=b:=by
   rcases Ag.mp hb with rfl|hb
   ·exact Cb _
   ·rw[Ae.mp hb];exact Ah _
  exact⟨Aa S1.size O5,λq=>absurd (Rf.live b q) (Bh.mpr O5),Aa R1.AH.room O5⟩
 ·cases res with
  |error e=>exact q
  |ok f=>obtain⟨g,r3,l3,hf,R3,S3,l4,hp,q⟩:=q;obtain⟨R4,D5⟩:=R3.CD hp λz=>z.2;exact⟨g,r3,l4,hf,R4,S3.C7 (λ_=>.rfl) D5,q⟩)
section
namespace F
open PySem.F
theorem BG:Slot "bytes" "join" "bytes.join":=by k_with"o"=>exact(.of (owner := "bytes") (n := "join") (by rw[typeLookup_type,builtinLookup_eq_fast];kernel_rfl) (by decide +kernel) (by decide +kernel) (by decide +kernel)
  (by first|exact .inl (by decide +kernel)|exact .inr (by decide +kernel)) (by rw[isSubtype_type];kernel_rfl))
theorem CB:entryFor table "bytes.join"=some Builtin.«bytes.join»:=entryFor_of_fast (by kernel_rfl)
theorem CI (a b:Value):argsOk "bytes.join" ⟨[a,b],[]⟩:=by unfold argsOk;kernel_rfl
theorem CH:typeOf (.builtin "bytes.join")=pure (.type "method_descriptor"):=by show builtinType _=_;rw[builtinType_eq_fast];kernel_rfl
end F
namespace Cl
section
noncomputable def MA (vs:List (List UInt8×Tok)):List Value:=vs.map λx=>.bytes x.1.toArray x.2
theorem mQ (ps:List (List UInt8)):∀(k:Nat) (out:Array UInt8),((ps.map lD).zipIdx k).foldl (λout (x:Array UInt8×Nat)=>(if x.2>0 then out++(#[]:Array UInt8) else out)++x.1) out=out++ps.flatten.toArray:=by k_with"o"=>
 induction ps with
 |nil=>intro k out;simp
 |cons p ps ih=>
  intro k out;rw[Aj,List.zipIdx_cons,Ec,ih,Hp];dsimp only;have e:(if k>0 then out++(#[]:Array UInt8) else out)=out:=by split<;>simp
  rw[e,Array.append_assoc];congr 1;apply Array.toList_inj.mp;simp
theorem mS (ps:List (List UInt8)):∀n:Nat,(ps.map lD).foldl (λx1 (x2:Array UInt8)=>x1+x2.size) n=n+ps.flatten.length:=by k_with"o"=>
 induction ps with
 |nil=>intro n;rfl
 |cons p ps ih=>intro n;rw[Aj,Ec,ih,Hp,Ab,Az];omega
theorem Wh {keep:List Value}{Q:Unit->Shared->Prop}:∀(vs:List (List UInt8×Tok)),Q () s->wpAny (model U w) A (Builtin.Bytes.joinLetGo (vs.map λx=>(Value.bytes x.1.toArray x.2,none)) keep) Q E s
 |[]=>λh=>wpAny_pure h
 |v::vs=>λh=>by k_with"o"=>show wpAny _ _ (letGo [Value.bytes v.1.toArray v.2] _ >>= λ_=>Builtin.Bytes.joinLetGo (vs.map λx=>(Value.bytes x.1.toArray x.2,none)) keep) _ _ _;exact wpAny_bind (wpAny_letGo (Wh vs h))
theorem rM {vs:List (List UInt8×Tok)}{t:Tok}{Q:PySem.Fin->Shared->Prop}(ho:s.heap.get? a=some {cls:=.type "list",data:=.seq (MA vs).toArray n})(hz:(vs.map (·.1)).flatten.length<=sizeLine)
  (h:∀t k,Q (.done (.ret (.bytes (vs.map (·.1)).flatten.toArray t))) {s with toks:=k}):wpAny (model U w) A (Builtin.«bytes.join» ⟨[.bytes #[] t,.ref a],[]⟩) Q E s:=by k_with"o"=>
 unfold Builtin.«bytes.join» Builtin.Bytes.joinM;refine wpAny_bind (wpAny_bind (wpAny_pure (wpAny_pure ?_)));dsimp only;have hT:s.TypeIs (.ref a) "list":=⟨_,ho,rfl⟩;refine wpAny_bind ?_;unfold Builtin.Bytes.joinItems;refine wpAny_bind (wpAny_typeOf hT ?_);rw[if_pos (by decide)];refine wpAny_pure ?_;refine wpAny_bind (wpAny_seqItems ho rfl ?_);dsimp only;rw[if_pos (by decide)];by_cases h1:vs.length=1
 ·match vs,h1 with
  |[v],_=>show wpAny _ _ (typeOf (Value.bytes v.1.toArray v.2) >>= _) _ _ _;refine wpAny_bind (wpAny_typeOf (T := "bytes") (rfl:s.TypeIs (.bytes _ _) "bytes") ?_);rw[if_pos (by decide)];refine wpAny_bind (wpAny_rule (wpAny_pure ?_));have:=h v.2 s.toks;show Q (.done (.ret (Value.bytes v.1.toArray v.2))) s;simpa using this
 ·have ZP:∀(M:Sem PySem.Fin->Prop) (b1:Value->Sem PySem.Fin) (b2:Sem PySem.Fin),M b2->M (match (MA vs).toArray with|#[x]=>b1 x|_=>b2):=λM b1 b2 hM=>by
   match vs,h1 with
   |[],_=>exact hM
   |[_],h1=>exact absurd rfl h1
   |_::_::_,_=>exact hM
  refine ZP (λz=>wpAny (model U w) A z Q E s) _ _ ?_;refine wpAny_bind ?_;rw[Std.Legacy.Range.forIn_eq_forIn_range'];simp only[Std.Legacy.Range.size,Nat.sub_zero,Nat.add_sub_cancel,Nat.div_one];refine wpAny_forIn_list _
   (λrest b s'=>∃i,s'=s/\rest=List.range' i (vs.length-i)/\i<=vs.length/\b.1.toList=(vs.take i).map (λx=>x.1.toArray)/\b.2=(vs.take i).map λx=>(Value.bytes x.1.toArray x.2,none))
   _ ?_ ?_ _ _ ⟨0,rfl,by simp[MA],Ca _,rfl,rfl⟩
  ·rintro x rest b s' ⟨i,rfl,hr,hi,G0,GO⟩;have AJ:i<vs.length:=by
    rcases Nat.lt_or_ge i vs.length with h|h
    ·exact h
    ·rw[Nat.sub_eq_zero_of_le h] at hr;simp at hr
   obtain⟨hx,GJ⟩:x=i/\rest=List.range' (i+1) (vs.length-(i+1)):=by
    have e:vs.length-i=(vs.length-(i+1))+1:=by omega
    rw[e,List.range'_succ] at hr;exact⟨(List.cons.inj hr).1,(List.cons.inj hr).2⟩
   subst hx;have hv:(MA vs).toArray.getD x Value.none=.bytes vs[x].1.toArray vs[x].2:=by rw[Ak];simp[MA,AJ]
   refine wpAny_bind (wpAny_seqItems ho rfl ?_);have HX:(b.snd.any λx=>x.fst.onHeap)=false:=by rw[GO,List.any_map];exact Ze.mpr λy _=>by show ¬(false=true);decide
   dsimp only;rw[HX,if_neg (by decide),hv];refine wpAny_bind (wpAny_holding (aK ?_));refine wpAny_bind (wpAny_seqItems ho rfl ?_);dsimp only;rw[if_neg (by simp)];refine wpAny_pure ⟨x+1,rfl,GJ,AJ,?_,?_⟩
   ·rw[Dm,G0,Cc,Cs AJ,Ai];rfl
   ·rw[GO,Cc,Cs AJ,Ai];rfl
  ·rintro b s' ⟨i,rfl,hr,hi,G0,GO⟩;have D4:i=vs.length:=by have:=congrArg Nb hr;simp at this;omega
   subst D4;rw[Bj] at G0 GO;obtain⟨ba,bt⟩:=b;dsimp only at G0 GO;obtain rfl:ba=(vs.map λx=>x.1.toArray).toArray:=by rw[<-G0]
   subst GO;refine wpAny_bind (wpAny_pure ?_);have hlen:Array.foldl (λx1 (x2:Array UInt8)=>x1+x2.size) ((#[]:Array UInt8).size*((vs.map λx=>x.1.toArray).toArray.size-1)) (vs.map λx=>x.1.toArray).toArray=(vs.map (·.1)).flatten.length:=by
    have:=mS (vs.map (·.1)) 0;rw[Ay,Dj] at this;rw[<-this,List.foldl_toArray']
    ·simp;rfl
    ·rfl
   have OF:Builtin.Bytes.joined #[] (vs.map λx=>x.1.toArray).toArray.toList=(vs.map (·.1)).flatten.toArray:=by have:=mQ (vs.map (·.1)) 0 #[];rw[Ay] at this;unfold Builtin.Bytes.joined;rw[show(#[]:Array UInt8)++(vs.map (·.1)).flatten.toArray=(vs.map (·.1)).flatten.toArray from by simp] at this;exact this
   dsimp only;rw[hlen,OF,if_neg (by unfold Builtin.Bytes.tooLong;rw[decide_eq_true_eq];exact Bh.mpr hz)];refine wpAny_bind (wpAny_mkBytes ?_ (by rw[Az];exact hz));refine wpAny_bind (wpAny_holding (wpAny_point ?_));refine wpAny_bind (Wh vs (wpAny_pure (h _ _)))
theorem Zj {vs:List (List UInt8×Tok)}{t:Tok}{Q:Value->Shared->Prop}(ho:s.heap.get? a=some {cls:=.type "list",data:=.seq (MA vs).toArray n})(hz:(vs.map (·.1)).flatten.length<=sizeLine)
  (h:∀t k,Q (.bytes (vs.map (·.1)).flatten.toArray t) {s with toks:=k}):wpAny (model U w) A (call (.builtin "bytes.join") [.bytes #[] t,.ref a]) Q E s:=by k_with"o"=>
 refine wpAny_mono (wpAny_call_entry (T := "bytes") Nu.F.BG (rfl:s.TypeIs (.bytes _ _) "bytes") Nu.F.CB (rM (Q:=λfin s'=>∃v,fin=.done (.ret v)/\Q v s') ho hz λt k=>⟨_,rfl,h t k⟩) (Nu.F.CI _ _)) (λv s' hv=>hv) λ_ _ x=>x
end
end Cl
end
theorem sV:Vh U w T c r l (.bytes b) "join" (.builtin "bytes.join"):=by k_with"o"=>exact(λs x pl P E R rx hp=>by obtain⟨t,rfl⟩:=rx.bytesAt;exact getMethod_builtin (T := "bytes") (rfl:s.TypeIs (.bytes _ _) "bytes") FB.plainAttrs_bytes F.BG F.CH (λa q=>by cases q) hp)
theorem pH:∀{ps:List (List UInt8)} {vs:List Value},AG h (ps.map V.bytes) vs->∃xs,vs=Cl.MA xs/\xs.map (·.1)=ps
 |[],_,x=>by cases x;exact⟨[],rfl,rfl⟩
 |p::ps,_,x=>by k_with"o"=>
  cases x with
  |cons a b=>obtain⟨t,rfl⟩:=a.bytesAt;obtain⟨xs,rfl,e⟩:=pH b;exact⟨(p,t)::xs,rfl,by rw[Aj,e]⟩
theorem gH {ps:List (List UInt8)}(AE:AP l a (.list (ps.map V.bytes)))(hz:ps.flatten.length<=sizeLine)(h:Q (.bytes ps.flatten) l):Wn U w T c (λxs=>call (.builtin "bytes.join") xs) [.bytes [],.ref a] r l Q X:=by k_with"o"=>exact(λs ys R rx=>by obtain⟨v,u,rfl,rv,ru⟩:=rx.two;obtain⟨t,rfl⟩:=rv.bytesAt;cases ru;obtain⟨vs,n,e,AF⟩:=AE.ro R;obtain⟨xs,rfl,hx⟩:=pH AF;refine Cl.Zj e (by rw[hx];exact hz) λt k=>?_;rw[hx];exact⟨.bytes ps.flatten,l,.bytes _ _,R.tok k,.refl _ _,h⟩)
section
variable {l1:Led}
section
variable (U:Program) (w:World) (T:Ez) (c:Ctx)
noncomputable abbrev VQ:=V->Led->Prop
noncomputable abbrev SQ:=Fl->Rg->Led->Prop
@[reducible] noncomputable def Adi (r:Rg) (Q:VQ) (X:Int->Prop) (f:Value->Value->Sem Value) (x:V):VQ:=λy l2=>W2 U w T c f x y r l2 Q X
@[reducible] noncomputable def wM (r:Rg) (Q:VQ) (X:Int->Prop) (f:Value->Value->Sem Value) (b:Expr):VQ:=λx l1=>We U w T c b r l1 (Adi U w T c r Q X f x) X
@[reducible] def VI (r:Rg) (Q:VQ) (X:Int->Prop) (a b:Expr):Bool->Led->Prop:=λx l1=>if x then We U w T c a r l1 Q X else We U w T c b r l1 Q X
@[reducible] def Aad (x:V) (Q:List V->Led->Prop):List V->Led->Prop:=λys l2=>Q (x::ys) l2
@[reducible] noncomputable def Adj (r:Rg) (Q:List V->Led->Prop) (X:Int->Prop) (pos:Pos) (es:List Expr):VQ:=λx l1=>Hd U w T c pos es r l1 (Aad x Q) X
@[reducible] noncomputable def wJ (Q:Bool->Led->Prop):VQ:=λd l3=>∃q,d=.bool q/\Q q l3
@[reducible] def KNot (Q:Bool->Led->Prop):Bool->Led->Prop:=λx l1=>Q (!x) l1
@[reducible] def VM (r:Rg) (Q:Bool->Led->Prop) (X:Int->Prop) (es:List Expr) (pos:Pos):Bool->Led->Prop:=λx l1=>if x then Wb U w T c (.BoolOp .And es pos) r l1 Q X else Q false l1
@[reducible] def fb (r:Rg) (Q:Bool->Led->Prop) (X:Int->Prop) (es:List Expr) (pos:Pos):Bool->Led->Prop:=λx l1=>if x then Q true l1 else Wb U w T c (.BoolOp .Or es pos) r l1 Q X
noncomputable def sY (Q:SQ)(X:Int->Prop)(ss:List Stmt):SQ:=λf r1 l1=>match f with | .next=>Ws U w T c ss r1 l1 Q X|f=>Q f r1 l1
noncomputable def Ac5 (r:Rg)(Q:SQ):VQ:=λd l1=>Q (.ret d) r l1
@[reducible] def fc (r:Rg) (Q:SQ) (X:Int->Prop) (a b:List Stmt):Bool->Led->Prop:=λx l1=>if x then Ws U w T c a r l1 Q X else Ws U w T c b r l1 Q X
@[reducible] noncomputable def Aac (r:Rg) (Q:SQ):VQ:=λ_ l1=>Q .next r l1
@[reducible] noncomputable def qM (r:Rg) (Q:SQ) (ns:List Nm) (x:Str):VQ:=λd l1=>∃r',Upd ns r x d r'/\Q .next r' l1
@[reducible] noncomputable def Ac7 (Q:VQ):VQ:=λd l1=>∃i,d=.int i/\Q (.int (-i)) l1
@[reducible] noncomputable def Ab1 (r:Rg) (Q:Bool->Led->Prop):VQ:=λd l1=>qJ U w T c r d l1 Q
@[reducible] def Ac1 (Q:VQ):List V->Led->Prop:=λds l1=>ds.length<=sizeLine/\Q (.tup ds) l1
@[reducible] def Ac9 (Q:VQ):List V->Led->Prop:=λds l1=>ds.length<=sizeLine/\∀a,Q (.ref a) ((a,.list ds)::l1)
@[reducible] def Adf (r:Rg) (Q:VQ) (X:Int->Prop) (f:Value):List V->Led->Prop:=λds l1=>Wn U w T c (λxs=>call f xs) ds r l1 Q X
@[reducible] def Vk (r:Rg) (Q:VQ) (X:Int->Prop) (d:V) (f:Value):List V->Led->Prop:=λds l2=>Wn U w T c (λxs=>call f xs) (d::ds) r l2 Q X
@[reducible] noncomputable def Ru (r:Rg) (Q:VQ) (X:Int->Prop) (name:Str) (pos:Pos) (args:List Expr):VQ:=λd l1=>∃f,Vh U w T c r l1 d name f/\Callee T f/\Hd U w T c pos args r l1 (Vk U w T c r Q X d f) X
@[reducible] noncomputable def wN (Q:VQ) (attr:Str):VQ:=λd l1=>∃(a C dd:Addr) (fs:List (Str×V)) (v:V),d=.ref a/\AP l1 a (.inst C dd)/\AP l1 dd (.ns fs)/\Nj C attr=true/\fs.lookup attr=some v/\Q v l1
@[reducible] noncomputable def wF (r:Rg) (Q:SQ) (attr:Str) (d:V):VQ:=λt l2=>∃(a C dd:Addr) (fs:List (Str×V)) (l3:Led),t=.ref a/\AP l2 a (.inst C dd)/\A5 l2 dd (.ns fs) (.ns (Pp fs attr d)) l3/\Nj C attr=true/\(Pp fs attr d).length<=1000/\Q .next r l3
@[reducible] noncomputable def VF (r:Rg) (Q:SQ) (X:Int->Prop) (attr:Str) (o:Expr):VQ:=λd l1=>We U w T c o r l1 (wF r Q attr d) X
@[reducible] def Ac6 (Q:SQ):Rg->Led->Prop:=λr2 l2=>Q .next r2 l2
@[reducible] def Ab2 (r:Rg) (Q:SQ):Led->Prop:=λl4=>Q .next r l4
@[reducible] noncomputable def VB (r:Rg) (Q:SQ) (X:Int->Prop) (t:Expr):VQ:=λd l1=>Wa U w T c t d r l1 (Ac6 Q) X
@[reducible] noncomputable def Ac2 (r:Rg) (Q:SQ) (d ov:V):VQ:=λiv l3=>nN U w T c ov iv d r l3 (Ab2 r Q)
@[reducible] noncomputable def Ac3 (r:Rg) (Q:SQ) (X:Int->Prop) (i:Expr) (d:V):VQ:=λov l2=>We U w T c i r l2 (Ac2 U w T c r Q d ov) X
@[reducible] noncomputable def Ac4 (r:Rg) (Q:SQ) (X:Int->Prop) (o i:Expr):VQ:=λd l1=>We U w T c o r l1 (Ac3 U w T c r Q X i d) X
@[reducible] def VC (Q:VQ) (d:V) (lo:Option Int):Option Int->Led->Prop:=λhi l3=>(∃b,d=.bytes b/\b.length<=sizeLine/\Q (.bytes (Kc b lo hi)) l3)\/∃a xs,d=.ref a/\AP l3 a (.list xs)/\xs.length<=sizeLine/\∀a',Q (.ref a') ((a',.list (Kc xs lo hi))::l3)
@[reducible] def VD (r:Rg) (Q:VQ) (X:Int->Prop) (u:Option Expr) (d:V):Option Int->Led->Prop:=λlo l2=>bS U w T c u r l2 (VC Q d lo) X
@[reducible] noncomputable def VE (r:Rg) (Q:VQ) (X:Int->Prop) (lo u:Option Expr):VQ:=λd l1=>bS U w T c lo r l1 (VD U w T c r Q X u d) X
@[reducible] noncomputable def Aab (Q:Option Int->Led->Prop):VQ:=λd l1=>∃i,d=.int i/\Q (some i) l1
noncomputable def VK (Q:VQ)(fr:Led):VQ:=λd fp'=>Q d (fp'++fr)
@[reducible] noncomputable def Ac8 (Q:VQ) (fr:Led) (x:Addr):VQ:=λd fp'=>d=.none/\Q (.ref x) (fp'++fr)
noncomputable def zJ (Q:VQ):SQ:=λfl _ l'=>match fl with | .ret d=>Eu Q d l' | .next=>Eu Q .none l'|_=>False
noncomputable def eR (J:Nat->Rg->Led->Prop)(i:Nat)(Q:SQ):SQ:=λfl r2 l2=>match fl with
 |.next=>J (i+1) r2 l2 | .cont=>J (i+1) r2 l2 | .brk=>Q .next r2 l2 | .ret d=>Q (.ret d) r2 l2
@[reducible] def Adh (K:SQ) (X:Int->Prop) (body:List Stmt):Rg->Led->Prop:=λr1 l1=>Ws U w T c body r1 l1 K X
def BZ (P K:SQ):Prop:=∀f r l,P f r l->K f r l
inductive VL (r:Rg)(Q:SQ)(X:Int->Prop)(target:Expr)(body:List Stmt)(d:V)(l1:Led):Prop
 |mk (ds:List V) (hw:bZ U w T c r l1 d ds) (J:Nat->Rg->Led->Prop) (j0:J 0 r l1)
   (turn:∀i d r l,ds[i]?=some d->∀K,BZ (eR J i Q) K->J i r l->Wa U w T c target d r l (Adh U w T c K X body) X) (fin:∀r l,J ds.length r l->Q .next r l)
noncomputable def wD (J:O->Nat->Rg->Led->Prop)(i:Nat)(Q:SQ)(a:Addr)(x y:O):SQ:=λfl r2 l2=>match fl with
 |.next=>J y (i+1) r2 l2 | .cont=>J y (i+1) r2 l2 | .brk=>∃l3,A5 l2 a y x l3/\Q .next r2 l3 | .ret d=>∃l3,A5 l2 a y x l3/\Q (.ret d) r2 l3
@[reducible] def Aca (J:O->Nat->Rg->Led->Prop) (i:Nat) (Q:SQ) (X:Int->Prop) (body:List Stmt) (a:Addr) (x y:O):Rg->Led->Prop:=λr1 l1=>(a,y)∈l1/\Ws U w T c body r1 l1 (wD J i Q a x y) X
inductive Ada (r:Rg)(Q:SQ)(X:Int->Prop)(target:Expr)(body:List Stmt)(d:V)(l1:Led):Prop
 |mk (a:Addr) (x:O) (ds:List V) (lf:O->Led) (hd:d=.ref a) (hp:∀y,A5 l1 a x y (lf y)) (hw:WalkL U w T c a x ds) (J:O->Nat->Rg->Led->Prop) (j0:∀y,Mx y x->J y 0 r (lf y))
   (P9:∀y i r l,J y i r l->(a,y)∈l) (turn:∀y i d r l,Mx y x->ds[i]?=some d->J y i r l->Wa U w T c target d r l (Aca U w T c J i Q X body a x y) X) (fin:∀y r l,J y ds.length r l->∃l3,A5 l a y x l3/\Q .next r l3)
inductive cD (P:Led->Prop)(l2:Led)(a:Addr)(y:O):Prop
 |mk (m2:Led) (d:Bm l2 ((a,y)::m2)) (h:P m2)
noncomputable def Vj (J:Nat->Rg->Led->Prop)(i:Nat)(Q:SQ)(a:Addr)(x y:O):SQ:=λfl r2 l2=>match fl with
 |.next=>cD (J (i+1) r2) l2 a y | .cont=>cD (J (i+1) r2) l2 a y | .brk=>∃m2,Bm l2 ((a,y)::m2)/\∀l3,Bm l3 ((a,x)::m2)->Q .next r2 l3 | .ret d=>∃m2,Bm l2 ((a,y)::m2)/\∀l3,Bm l3 ((a,x)::m2)->Q (.ret d) r2 l3
@[reducible] def wK (K:SQ) (X:Int->Prop) (body:List Stmt) (a:Addr) (y:O) (m:Led):Rg->Led->Prop:=λr1 l1=>l1=(a,y)::m/\Ws U w T c body r1 ((a,y)::m) K X
inductive Adc (r:Rg)(Q:SQ)(X:Int->Prop)(target:Expr)(body:List Stmt)(d:V)(l1:Led):Prop
 |mk (a:Addr) (x:O) (ds:List V) (m:Led) (hd:d=.ref a) (dr:Bm l1 ((a,x)::m)) (hw:WalkL U w T c a x ds) (J:Nat->Rg->Led->Prop) (j0:J 0 r m)
   (turn:∀y i d r m,Mx y x->ds[i]?=some d->∀K,BZ (Vj J i Q a x y) K->J i r m->Wa U w T c target d r ((a,y)::m) (wK U w T c K X body a y m) X) (fin:∀r l m,J ds.length r m->Bm l ((a,x)::m)->Q .next r l)
inductive fg (r:Rg)(Q:Rg->Led->Prop)(D:Addr)(d:V)(l1:Led):Prop
 |mk (xs:List V) (l2:Led) (p:A5 l1 D (.list xs) (.list (xs++[d])) l2) (z:xs.length<=sizeLine) (q:Q r l2)
@[reducible] def VG (Q:VQ):Addr->Led->Prop:=λD l3=>Q (.ref D) l3
@[reducible] noncomputable def Ade (r:Rg) (Q:VQ) (g:Comprehension) (scope:Scope) (cl:List (Str×Addr)) (emit:Addr->Addr->Sem Unit):VQ:=λd l1=>Eh U w T c g scope cl emit r l1 d (VG Q)
inductive gP (J:Nat->List V->Rg->Led->Prop)(i:Nat)(acc:List V)(r1:Rg)(D a:Addr)(y:O)(v:V)(l3:Led):Prop
 |mk (m3:Led) (d:Bm l3 ((D,.list acc)::(a,y)::m3)) (j:J (i+1) (acc++[v]) r1 m3)
inductive Rp (J:Nat->List V->Rg->Led->Prop)(i:Nat)(acc:List V)(r1:Rg)(D a:Addr)(y:O)(l3:Led):Prop
 |mk (m3:Led) (d:Bm l3 ((D,.list acc)::(a,y)::m3)) (j:J (i+1) acc r1 m3)
def oO (J:Nat->List V->Rg->Led->Prop)(i:Nat)(acc:List V)(D a:Addr)(y:O)(KN:Rg->VQ)(KS:Rg->Led->Prop):Prop:=(∀r1 v l3,gP J i acc r1 D a y v l3->KN r1 v l3)/\∀r1 l3,Rp J i acc r1 D a y l3->KS r1 l3
@[reducible] def Ab7 (KN:VQ) (KS:Led->Prop) (r1:Rg) (elt:Expr):Bool->Led->Prop:=λb l2=>if b then We U w T c elt r1 l2 KN ER else KS l2
@[reducible] def Ab6 (KN:Rg->VQ) (KS:Rg->Led->Prop) (l:Led) (elt:Expr) (ifs:List Expr):Rg->Led->Prop:=λr1 l1=>l1=l/\Mg U w T c ifs r1 l1 (Ab7 U w T c (KN r1) (KS r1) r1 elt)
inductive aE (J:Nat->List V->Rg->Led->Prop)(i:Nat)(D a:Addr)(y:O)(r3:Rg)(l3:Led):Prop
 |mk (IB:List V) (m3:Led) (d:Bm l3 ((D,.list IB)::(a,y)::m3)) (j:J (i+1) IB r3 m3)
def eS (J:Nat->List V->Rg->Led->Prop)(i:Nat)(acc:List V)(D a:Addr)(y:O)(KN:Rg->Led->Prop)(KS:Rg->Led->Prop):Prop:=(∀r1 l3,aE J i D a y r1 l3->KN r1 l3)/\∀r1 l3,Rp J i acc r1 D a y l3->KS r1 l3
@[reducible] def zL (KN:Rg->Led->Prop) (KS:Led->Prop) (r1:Rg) (t:Sem Unit):Bool->Led->Prop:=λb l2=>if b then G3 U w T c t r1 l2 KN else KS l2
@[reducible] def zK (KN:Rg->Led->Prop) (KS:Rg->Led->Prop) (l:Led) (t:Sem Unit) (ifs:List Expr):Rg->Led->Prop:=λr1 l1=>l1=l/\Mg U w T c ifs r1 l1 (zL U w T c KN (KS r1) r1 t)
inductive Adg (cN:Ctx)(r:Rg)(ds:List V)(m:Led)(names:List Nm)(D a:Addr)(x:O)(Fin:Addr->Led->Prop)(target:Expr)(ifs:List Expr)(elt:Expr):Prop
 |mk (r0:Rg) (J:Nat->List V->Rg->Led->Prop) (c0:Ie c.names r names r0) (j0:J 0 [] r0 m) (jr:∀i acc r' m',J i acc r' m'->Ld c.names r names r')
   (turn:∀y i dd acc r m,Mx y x->ds[i]?=some dd->∀KN KS,oO J i acc D a y KN KS->J i acc r m->acc.length<=i->Wa U w T cN target dd r ((D,.list acc)::(a,y)::m) (Ab6 U w T cN KN KS ((D,.list acc)::(a,y)::m) elt ifs) ER)
   (fin:∀acc r' m' l',acc.length<=ds.length->J ds.length acc r' m'->Bm l' ((D,.list acc)::(a,x)::m')->Fin D l')
inductive Ab8 (scope:Scope)(cl:List (Str×Addr))(r:Rg)(l:Led)(d:V)(Fin:Addr->Led->Prop)(target:Expr)(ifs:List Expr)(elt:Expr):Prop
 |mk (a:Addr) (x:O) (ds:List V) (m:Led) (hd:d=.ref a) (dr:Bm l ((a,x)::m)) (hw:WalkL U w T c a x ds) (hz:ds.length<=sizeLine)
   (ask:∀C D,(Dl c scope cl C).Ok->Adg U w T c (Dl c scope cl C) r ds m (Ea cl scope.names) D a x Fin target ifs elt)
inductive Ab9 (cN:Ctx)(r:Rg)(ds:List V)(m:Led)(names:List Nm)(D a:Addr)(x:O)(Fin:Addr->Led->Prop)(target:Expr)(ifs:List Expr)(t:Sem Unit):Prop
 |mk (r0:Rg) (J:Nat->List V->Rg->Led->Prop) (c0:Ie c.names r names r0) (j0:J 0 [] r0 m) (jr:∀i acc r' m',J i acc r' m'->Ld c.names r names r')
   (turn:∀y i dd acc r m,Mx y x->ds[i]?=some dd->∀KN KS,eS J i acc D a y KN KS->J i acc r m->Wa U w T cN target dd r ((D,.list acc)::(a,y)::m) (zK U w T cN KN KS ((D,.list acc)::(a,y)::m) t ifs) ER)
   (fin:∀acc r' m' l',J ds.length acc r' m'->Bm l' ((D,.list acc)::(a,x)::m')->Fin D l')
inductive zM (scope:Scope)(cl:List (Str×Addr))(r:Rg)(l:Led)(d:V)(Fin:Addr->Led->Prop)(target:Expr)(ifs:List Expr)(emit:Addr->Addr->Sem Unit):Prop
 |mk (a:Addr) (x:O) (ds:List V) (m:Led) (hd:d=.ref a) (dr:Bm l ((a,x)::m)) (hw:WalkL U w T c a x ds)
   (ask:∀C D,(Dl c scope cl C).Ok->Ab9 U w T c (Dl c scope cl C) r ds m (Ea cl scope.names) D a x Fin target ifs (emit C D))
noncomputable def qL (Q:SQ)(X:Int->Prop)(ss:List Stmt):SQ:=λf r1 l1=>match f with | .next=>BU U w T c ss r1 l1 Q X|f=>Q f r1 l1
@[reducible] def VJ (r:Rg) (Q:SQ) (X:Int->Prop) (a b:List Stmt):Bool->Led->Prop:=λx l1=>if x then BU U w T c a r l1 Q X else BU U w T c b r l1 Q X
@[reducible] noncomputable def Acb (r:Rg) (Q:List V->Led->Prop) (X:Int->Prop) (pos:Pos) (es:List Expr):VQ:=λx l1=>Dp U w T c pos es r l1 (Aad x Q) X
@[reducible] def Ab5 (r:Rg) (Q:VQ) (X:Int->Prop) (f:Value):List V->Led->Prop:=λds l1=>IC U w T c (λxs=>call f xs) ds r l1 Q X
@[reducible] def qO (r:Rg) (Q:VQ) (X:Int->Prop) (d:V) (f:Value):List V->Led->Prop:=λds l2=>IC U w T c (λxs=>call f xs) (d::ds) r l2 Q X
@[reducible] noncomputable def wH (r:Rg) (Q:VQ) (X:Int->Prop) (name:Str) (pos:Pos) (args:List Expr):VQ:=λd l1=>∃f,Vh U w T c r l1 d name f/\Mo T f/\Dp U w T c pos args r l1 (qO U w T c r Q X d f) X
@[reducible] def VH (r:Rg) (Q:Bool->Led->Prop) (X:Int->Prop) (es:List Expr) (pos:Pos):Bool->Led->Prop:=λx l1=>if x then Q true l1 else F6 U w T c (.BoolOp .Or es pos) r l1 Q X
@[reducible] def zN (K:SQ) (X:Int->Prop) (body:List Stmt) (a:Addr) (y:O) (m:Led):Rg->Led->Prop:=λr1 l1=>l1=(a,y)::m/\BU U w T c body r1 ((a,y)::m) K X
inductive Ab4 (r:Rg)(Q:SQ)(X:Int->Prop)(target:Expr)(body:List Stmt)(d:V)(l1:Led):Prop
 |mk (a:Addr) (x:O) (ds:List V) (m:Led) (hd:d=.ref a) (dr:Bm l1 ((a,x)::m)) (hw:WalkL U w T c a x ds) (J:Nat->Rg->Led->Prop) (j0:J 0 r m)
   (turn:∀y i d r m,Mx y x->ds[i]?=some d->∀K,BZ (Vj J i Q a x y) K->J i r m->Wa U w T c target d r ((a,y)::m) (zN U w T c K X body a y m) X) (fin:∀r l m,J ds.length r m->Bm l ((a,x)::m)->Q .next r l)
@[reducible] def wL (K:SQ) (X:Int->Prop) (body:List Stmt):Rg->Led->Prop:=λr1 l1=>BU U w T c body r1 l1 K X
inductive qN (r:Rg)(Q:SQ)(X:Int->Prop)(target:Expr)(body:List Stmt)(d:V)(l1:Led):Prop
 |mk (ds:List V) (hw:bZ U w T c r l1 d ds) (J:Nat->Rg->Led->Prop) (j0:J 0 r l1)
   (turn:∀i d r l,ds[i]?=some d->∀K,BZ (eR J i Q) K->J i r l->Wa U w T c target d r l (wL U w T c K X body) X) (fin:∀r l,J ds.length r l->Q .next r l)
end
section
theorem Ab3 {fr:Led}{fp:Led}(h:Q d (fp++fr)):VK Q fr d fp:=h
theorem Vi {Q:SQ}(h:J (i+1) r l):eR J i Q .next r l:=h
theorem lA {J:O->Nat->Rg->Led->Prop}{Q:SQ}{x y:O}(h:J y (i+1) r l):wD J i Q a x y .next r l:=h
theorem Ph {Q:SQ}{x y:O}(h:cD (J (i+1) r) l a y):Vj J i Q a x y .next r l:=h
theorem BZ.go {P K:SQ}{f:Fl}(h:BZ P K)(q:P f r l):K f r l:=h _ _ _ q
theorem oO.next {J:Nat->List V->Rg->Led->Prop}{acc:List V}{D:Addr}{y:O}{KN:Rg->VQ}{KS:Rg->Led->Prop}{r1:Rg}{v:V}(h:oO J i acc D a y KN KS)(q:gP J i acc r1 D a y v l):KN r1 v l:=by k_with"o"=>exact(h.1 _ _ _ q)
theorem oO.skip {J:Nat->List V->Rg->Led->Prop}{acc:List V}{D:Addr}{y:O}{KN:Rg->VQ}{KS:Rg->Led->Prop}{r1:Rg}(h:oO J i acc D a y KN KS)(q:Rp J i acc r1 D a y l):KS r1 l:=by k_with"o"=>exact(h.2 _ _ q)
theorem eS.next {J:Nat->List V->Rg->Led->Prop}{acc:List V}{D:Addr}{y:O}{KN:Rg->Led->Prop}{KS:Rg->Led->Prop}{r1:Rg}(h:eS J i acc D a y KN KS)(q:aE J i D a y r1 l):KN r1 l:=by k_with"o"=>exact(h.1 _ _ q)
@[reducible] noncomputable def KM (M:Rg->Led->Prop):SQ:=λf r1 l1=>f=.next/\M r1 l1
theorem Et {Q:SQ}(M:Rg->Led->Prop)(h1:∀K,BZ (KM M) K->BY U w T c st r l K X)(h2:∀r1 l1,M r1 l1->Ws U w T c ss r1 l1 Q X):Ws U w T c (st::ss) r l Q X:=by k_with"o"=>exact(rZ M (h1 _ λ_ _ _ q=>q) h2)
theorem Mh {Q:SQ}(M:Rg->Led->Prop)(h1:∀K,BZ (KM M) K->Px U w T c st r l K X)(h2:∀r1 l1,M r1 l1->BU U w T c ss r1 l1 Q X):BU U w T c (st::ss) r l Q X:=by k_with"o"=>exact(nP M (h1 _ λ_ _ _ q=>q) h2)
inductive Adb (U:Program)(w:World)(T:Ez)(c:Ctx)(r:Rg)(Q:SQ)(X:Int->Prop)(target:Expr)(body:List Stmt)(vs:List V)(l1:Led):Prop
 |mk (a:Addr) (ds:List V) (m:Led) (hd:vs=[.ref a]) (dr:Bm l1 ((a,.list ds)::m)) (J:Nat->Rg->Led->Prop) (j0:J 0 r m)
   (turn:∀y i d r m,Mx y (.list ds)->ds[i]?=some d->∀K,BZ (Vj J i Q a (.list ds) y) K->J i r m->Wa U w T c target (.tup [.int (i:Nat),d]) r ((a,y)::m) (wK U w T c K X body a y m) X) (fin:∀r l m,J ds.length r m->Bm l ((a,.list ds)::m)->Q .next r l)
theorem oB {Q Q':List V->Led->Prop}(h:Hd U w T c pos es r l Q X)(k:∀d l1,Q d l1->Q' d l1):Hd U w T c pos es r l Q' X:=by k_with"o"=>exact(λs R=>
 wpAny_mono (h s R) (λ_ _ ⟨d,l1,a,b,e,q⟩=>⟨d,l1,a,b,e,k d l1 q⟩) λ_ _ e=>e)
theorem zI {Q:SQ}(h:Q (.ret d) r l):Ac5 r Q d l:=h
theorem wI {Q:VQ}(h:Eu Q d l):zJ Q (.ret d) r l:=h
theorem sZ {Q:VQ}(h:Eu Q .none l):zJ Q .next r l:=h
theorem Nx {Q:SQ}(h:Ws U w T c ss r l Q X):sY U w T c Q X ss .next r l:=h
theorem wG {Q:SQ}(h:Q (.ret d) r l):sY U w T c Q X ss (.ret d) r l:=h
theorem Ky {Q:SQ}(h:BU U w T c ss r l Q X):qL U w T c Q X ss .next r l:=h
theorem sX {Q:SQ}(h:Q (.ret d) r l):qL U w T c Q X ss (.ret d) r l:=h
theorem vQ {a b:Expr}{op:Operator}(h:We U w T c a r l (wM U w T c r Q X (binaryOp op) b) X):We U w T c (.BinOp a op b pos) r l Q X:=by k_with"o"=>exact(sM h)
theorem nV {a b:Expr}{op:CmpOp}(hm:behindInMarks op b=false)(h:We U w T c a r l (wM U w T c r Q X (compareOp op) b) X):We U w T c (.Compare a [op] [b] pos) r l Q X:=by k_with"o"=>exact(kP hm h)
theorem Abp {a b:Expr}(h:We U w T c a r l (wM U w T c r Q X (subscriptTail a b) b) X):We U w T c (.Subscript a b pos) r l Q X:=by k_with"o"=>exact(yW h)
theorem Ol {t a b:Expr}(h:Wb U w T c t r l (VI U w T c r Q X a b) X):We U w T c (.IfExp t a b pos) r l Q X:=by k_with"o"=>exact(sJ h)
theorem oC {Q:List V->Led->Prop}(he:starEach (e::es) c.env=(false,eval e c.env)::starEach es c.env)(h:We U w T c e r l (Adj U w T c r Q X pos es) X):Hd U w T c pos (e::es) r l Q X:=by k_with"o"=>exact(kT he h)
theorem bX {a b:Expr}{op:CmpOp}{Q:Bool->Led->Prop}(hm:behindInMarks op b=false)(h:We U w T c a r l (wM U w T c r (wJ Q) X (compareOp op) b) X):Wb U w T c (.Compare a [op] [b] pos) r l Q X:=by k_with"o"=>exact(kS hm h)
theorem Abs {a:Expr}{Q:Bool->Led->Prop}(h:Wb U w T c a r l (KNot Q) X):Wb U w T c (.UnaryOp .Not a pos) r l Q X:=by k_with"o"=>exact(zC h)
theorem Abr {a:Expr}{Q:Bool->Led->Prop}(h:Wb U w T c a r l (VM U w T c r Q X es pos) X):Wb U w T c (.BoolOp .And (a::es) pos) r l Q X:=by k_with"o"=>exact(zB h)
theorem Acs {a:Expr}{Q:Bool->Led->Prop}(h:Wb U w T c a r l (fb U w T c r Q X es pos) X):Wb U w T c (.BoolOp .Or (a::es) pos) r l Q X:=by k_with"o"=>exact(Abq h)
theorem vT {Q:Bool->Led->Prop}(he:∀whole,isTrue e c.env whole=(do let v <-whole;standAt e.pos;holding [v] (truthy v)))(h:We U w T c e r l (Ab1 U w T c r Q) X):Wb U w T c e r l Q X:=by k_with"o"=>exact(sP he h)
theorem Dn {Q:SQ}(h:BY U w T c st r l (sY U w T c Q X ss) X):Ws U w T c (st::ss) r l Q X:=Ss h
theorem Ct {ts:List Expr}{v:Expr}{p:Pos}{Q:SQ}(h:BY U w T c (.Assign ts v p) r l (sY U w T c Q X ss) X):Ws U w T c (.Assign ts v p::ss) r l Q X:=Ss h
theorem Sr {v:Expr}{p:Pos}{Q:SQ}(h:BY U w T c (.Expr v p) r l (sY U w T c Q X ss) X):Ws U w T c (.Expr v p::ss) r l Q X:=Ss h
theorem Gm {v:Option Expr}{p:Pos}{Q:SQ}(h:BY U w T c (.Return v p) r l (sY U w T c Q X ss) X):Ws U w T c (.Return v p::ss) r l Q X:=Ss h
theorem sA {Q:SQ}(h:We U w T c e r l (Ac5 r Q) X):BY U w T c (.Return (some e) pos) r l Q X:=by k_with"o"=>exact(nO h)
theorem Jf {t:Expr}{a b:List Stmt}{Q:SQ}(h:Wb U w T c t r l (fc U w T c r Q X a b) X):BY U w T c (.If t a b pos) r l Q X:=by k_with"o"=>exact(Abk h)
theorem qH {Q:SQ}(hi:interactive c.env=false)(hs:swapsWith e none pos.line c.env=pure false)(h:We U w T c e r l (Aac r Q) X):BY U w T c (.Expr e pos) r l Q X:=by k_with"o"=>exact(vD hi hs h)
theorem Om {Q:SQ}{p:Pos}(C:c.Ok)(hs:swapsWith e (some (.Name x p)) pos.line c.env=pure false)(h:We U w T c e r l (qM r Q c.names x) X):BY U w T c (.Assign [.Name x p] e pos) r l Q X:=by k_with"o"=>exact(Zo C hs h)
theorem Abo (h:We U w T c e r l (Ac7 Q) X):We U w T c (.UnaryOp .USub e pos) r l Q X:=by k_with"o"=>exact(yT h)
theorem vK (h:Hd U w T c pos es r l (Ac1 Q) X):We U w T c (.Tuple es k pos) r l Q X:=by k_with"o"=>exact(sF h)
theorem yY (h:Hd U w T c pos es r l (Ac9 Q) X):We U w T c (.List es pos) r l Q X:=by k_with"o"=>exact(vM h)
theorem vP {p:Pos}(P:Prg U w T)(C:c.Ok)(hx:c.env.kindOf x=some .globalImplicit)(hd:(x==("__debug__" : Str))=false)(g:Xk x=some f)(K:bP f=true)
  (he:eval (.Call (.Name x p) args [] pos) c.env=(do callWith pos (<-eval (.Name x p) c.env) [] (backTo pos (starEach args c.env)) (backToKw pos (keywordEach [] c.env))))
  (AM:starEach args c.env=args.map λe=>(false,eval e c.env)) (h:Hd U w T c pos args r l (Adf U w T c r Q X f) X):We U w T c (.Call (.Name x p) args [] pos) r l Q X:=by k_with"o"=>exact(sL P C hx hd g K he AM h)
theorem Ve {o:Expr}{name:Str}{apos:Pos}{pl:Sem Bool}(P:Prg U w T)
  (he:eval (.Call (.Attribute o name apos) args [] pos) c.env=(do
   let ov <-eval o c.env
   standAt apos.atName
   let (f,first) <-holding [ov] (getMethod ov name pl)
   callWith pos f first (backTo pos (starEach args c.env)) []))
  (AM:starEach args c.env=args.map λe=>(false,eval e c.env)) (h:We U w T c o r l (Ru U w T c r Q X name pos args) X):We U w T c (.Call (.Attribute o name apos) args [] pos) r l Q X:=by k_with"o"=>exact(kM P he AM h)
theorem vR {n attr:Str}{np:Pos}(P:Prg U w T)(h:We U w T c (.Name n np) r l (wN Q attr) X):We U w T c (.Attribute (.Name n np) attr pos) r l Q X:=by k_with"o"=>exact(sN P h)
theorem sR {Q:SQ}{o:Expr}{attr:Str}{p:Pos}(P:Prg U w T)(hs:swapsWith e (some (.Attribute o attr p)) pos.line c.env=pure false)(h:We U w T c e r l (VF U w T c r Q X attr o) X):BY U w T c (.Assign [.Attribute o attr p] e pos) r l Q X:=by k_with"o"=>exact(oG P hs h)
theorem Zn {Q:SQ}{tp:Pos}{value:Expr}(hs:swapsWithSole [.Tuple es k tp] value pos.line c.env=pure false)(hw:swappedStores [.Tuple es k tp] value c.env=pure none)
  (h:We U w T c value r l (VB U w T c r Q X (.Tuple es k tp)) X):BY U w T c (.Assign [.Tuple es k tp] value pos) r l Q X:=by k_with"o"=>exact(Xy hs hw h)
theorem dC {Q:SQ}{o i:Expr}{p:Pos}(hs:swapsWith e (some (.Subscript o i p)) pos.line c.env=pure false)(h:We U w T c e r l (Ac4 U w T c r Q X o i) X):BY U w T c (.Assign [.Subscript o i p] e pos) r l Q X:=by k_with"o"=>exact(cB hs h)
theorem vL {value:Expr}{lower upper:Option Expr}{p:Pos}(hs:∀o i,subscripted (.Slice lower upper none p) false o i=operate [i,o] (getItem o i))(h:We U w T c value r l (VE U w T c r Q X lower upper) X) :
  We U w T c (.Subscript value (.Slice lower upper none p) pos) r l Q X:=by k_with"o"=>exact(sG hs h)
theorem nQ {Q:Option Int->Led->Prop}(h:We U w T c e r l (Aab Q) X):bS U w T c (some e) r l Q X:=h
theorem aD {Q:SQ}(C:c.Ok)(hs:∀x,foldedSetIterable iter c.env x=pure x)(h:We U w T c iter r l (VL U w T c r Q X target body) X):BY U w T c (.For target iter body [] pos) r l Q X:=by k_with"o"=>exact(vX C hs (Pw h λd l1 k=>by obtain⟨a1,a2,J,a4,turn,a6⟩:=k;exact⟨a1,a2,J,a4,λi d r l k1 k2=>turn i d r l k1 (eR J i Q) (λ_ _ _ q=>q) k2,a6⟩))
theorem vW {Q:SQ}(C:c.Ok)(hs:∀x,foldedSetIterable iter c.env x=pure x)(h:We U w T c iter r l (Ada U w T c r Q X target body) X):BY U w T c (.For target iter body [] pos) r l Q X:=by k_with"o"=>exact(eQ C hs (Pw h λd l1 k=>by obtain⟨a1,a2,a3,a4,a5,a6,a7,a8,a9,b1,b2,b3⟩:=k;exact⟨a1,a2,a3,a4,a5,a6,a7,a8,a9,b1,b2,b3⟩))
theorem qG {Q Q':SQ}(h:Ws U w T c ss r l Q X)(k:∀f r l,Q f r l->Q' f r l):Ws U w T c ss r l Q' X:=by k_with"o"=>exact(λs R=>
 wpAny_mono (h s R) (λ_ _ ⟨g,r',l',a,b,e,q⟩=>⟨g,r',l',a,b,e,k _ _ _ q⟩) λ_ _ e=>e)
theorem Wu {t:Expr}{Q Q':Rg->Led->Prop}(h:Wa U w T c t d r l Q X)(k:∀r l,Q r l->Q' r l):Wa U w T c t d r l Q' X:=by k_with"o"=>exact(λs x R rx=>
 wpAny_mono (h s x R rx) (λ_ _ ⟨r',l',b,e,q⟩=>⟨r',l',b,e,k _ _ q⟩) λ_ _ e=>e)
theorem cD.ex {P:Led->Prop}{l2:Led}{y:O}(h:cD P l2 a y):∃m2,Bm l2 ((a,y)::m2)/\P m2:=by k_with"o"=>obtain⟨m,d,h⟩:=h;exact⟨m,d,h⟩
theorem Jh {Q:SQ}(C:c.Ok)(hs:∀x,foldedSetIterable iter c.env x=pure x)(h:We U w T c iter r l (Adc U w T c r Q X target body) X):BY U w T c (.For target iter body [] pos) r l Q X:=by k_with"o"=>exact(sQ C hs (Pw h λd l1 k=>by
  obtain⟨a1,a2,a3,a4,a5,a6,a7,J,a9,turn,b2⟩:=k;exact⟨a1,a2,a3,a4,a5,a6,a7,J,a9,λy i d r m k1 k2 k3=>Wu (turn y i d r m k1 k2 (Vj J i Q a1 a2 y) (λ_ _ _ q=>q) k3) λr l ⟨e,q⟩=>⟨e,qG q λf r l q=>by
   cases f with
   |next=>exact cD.ex q
   |cont=>exact cD.ex q
   |brk=>exact q
   |ret d=>exact q⟩,b2⟩))
theorem kV {Q:SQ}{tp np cp:Pos}{ae:Expr}(TO:T.Ok U w)(C:c.Ok)(hx:c.env.kindOf "enumerate"=some .globalImplicit)(g:Rq T "enumerate" (.type "enumerate"))
  (hs:∀x,foldedSetIterable (.Call (.Name "enumerate" np) [ae] [] cp) c.env x=pure x)
  (he:eval (.Call (.Name "enumerate" np) [ae] [] cp) c.env=(do callWith cp (<-eval (.Name "enumerate" np) c.env) [] (backTo cp (starEach [ae] c.env)) (backToKw cp (keywordEach [] c.env))))
  (AM:starEach [ae] c.env=[ae].map λe=>(false,eval e c.env)) (h:Hd U w T c cp [ae] r l (Adb U w T c r Q X (.Tuple es k tp) body) X):BY U w T c (.For (.Tuple es k tp) (.Call (.Name "enumerate" np) [ae] [] cp) body [] pos) r l Q X:=by k_with"o"=>exact(gN TO C hx g hs he AM (oB h λd l1 k=>by
  obtain⟨a1,ds,a4,a5,a6,J,a9,turn,b2⟩:=k;exact⟨a1,ds,a4,a5,a6,J,a9,λy i d r m k1 k2 k3=>Wu (turn y i d r m k1 k2 (Vj J i Q a1 (.list ds) y) (λ_ _ _ q=>q) k3) λr l ⟨e,q⟩=>⟨e,qG q λf r l q=>by
   cases f with
   |next=>exact cD.ex q
   |cont=>exact cD.ex q
   |brk=>exact q
   |ret d=>exact q⟩,b2⟩))
theorem Bk {fp fr:Led}(C:c.Ok)(pk:Jx l fp fr)(h:Cg U w T c.lev f ds fp (VK Q fr) X):Wn U w T c (λxs=>call f xs) ds r l Q X:=vG C pk h
theorem bU {fI:Addr}{fp fr:Led}(P:Prg U w T)(CO:c.Ok)(hl:c.lev=lev+1)(hm:Pr C "__init__"=some fI)(pk:Jx l fp fr)
  (h:∀x dx,Cg U w T lev (.ref fI) (.ref x::ds) ((x,.inst C dx)::(dx,.ns [])::fp) (Ac8 Q fr x) X):Wn U w T c (λxs=>call (.ref C) xs) ds r l Q X:=by k_with"o"=>exact(sD P CO hl hm pk h)
theorem bV {D:Addr}{elt:Expr}{Q:Rg->Led->Prop}(h:We U w T c elt r l (fg r Q D) ER):G3 U w T c (Ft elt (.ref D) c.env) r l Q:=by k_with"o"=>exact(eK (Pw h λd l1 ⟨a1,a2,a3,a4,a5⟩=>⟨a1,a2,a3,a4,a5⟩))
theorem Kt (CO:c.Ok)(TO:T.Ok U w){elt:Expr}{rest:List Comprehension}(K:Rr c scope cl)(hs:∀x,foldedSetIterable iter c.env x=pure x)
  {emit:Addr->Addr->Sem Unit} {p:Pos}
  (F3:∀C D I,compTurn (.ListComp elt (⟨target,iter,ifs,0⟩::rest) scope pos) 0 (.ref I) (.ref D) (compEnvC scope cl C c.env)=(do
   standAt p
   match <-pyNext (.ref I) with
   |none=>pure (.done .next)
   |some v=>
    letOwnedTupleGo target (.ref I) v
    assign target (compEnvC scope cl C c.env) v
    let ok <-Kh ifs (compEnvC scope cl C c.env)
    if ok then emit C D
    again (.compLoop (.ListComp elt (⟨target,iter,ifs,0⟩::rest) scope pos) 0 (.ref I) (.ref D) (compEnvC scope cl C c.env))))
  (h:We U w T c iter r l (Ade U w T c r Q ⟨target,iter,ifs,0⟩ scope cl emit) X):We U w T c (.ListComp elt (⟨target,iter,ifs,0⟩::rest) scope pos) r l Q X:=by k_with"o"=>exact(vO CO TO K hs F3 h)
theorem Rp.ex {J:Nat->List V->Rg->Led->Prop}{acc:List V}{r1:Rg}{D:Addr}{y:O}{l3:Led}(h:Rp J i acc r1 D a y l3):∃m3,Bm l3 ((D,.list acc)::(a,y)::m3)/\J (i+1) acc r1 m3:=by k_with"o"=>obtain⟨m,d,h⟩:=h;exact⟨m,d,h⟩
theorem Yu {Q Q':Bool->Led->Prop}(h:Mg U w T c ifs r l Q)(k:∀b l,Q b l->Q' b l):Mg U w T c ifs r l Q':=by k_with"o"=>exact(λs R=>
 wpAny_mono (h s R) (λ_ _ ⟨l',b,e,q⟩=>⟨l',b,e,k _ _ q⟩) λ_ _ e=>e)
theorem vI {t:Sem Unit}{Q Q':Rg->Led->Prop}(h:G3 U w T c t r l Q)(k:∀r l,Q r l->Q' r l):G3 U w T c t r l Q':=by k_with"o"=>exact(λs R=>
 wpAny_mono (h s R) (λ_ _ ⟨r',l',b,e,q⟩=>⟨r',l',b,e,k _ _ q⟩) λ_ _ e=>e)
theorem Eh.of {elt:Expr}{Fin:Addr->Led->Prop}
  (h:Ab8 U w T c scope cl r l d Fin target ifs elt) :
  Eh U w T c ⟨target,iter,ifs,0⟩ scope cl (λC D=>Ft elt (.ref D) (compEnvC scope cl C c.env)) r l d Fin:=by k_with"o"=>
 obtain⟨a,x,ds,m,hd,dr,hw,hz,ask⟩:=h;refine Eh.of0 ⟨a,x,ds,m,hd,dr,hw,hz,λC D CO=>?_⟩;obtain⟨r0,J,c0,j0,jr,turn,fin⟩:=ask C D CO;refine⟨r0,J,c0,j0,jr,λy i dd acc r m k1 k2 k3 k4=>Wu (turn y i dd acc r m k1 k2 (λr1=>gP J i acc r1 D a y) (λr1=>Rp J i acc r1 D a y) ⟨λ_ _ _ q=>q,λ_ _ q=>q⟩ k3 k4) λr l ⟨e,q⟩=>⟨e,Yu q λb l q=>?_⟩,fin⟩;cases b with
 |false=>exact Rp.ex q
 |true=>exact Pw (M:=gP J i acc r D a y) q λd l ⟨a1,a2,a3⟩=>⟨a1,a2,a3⟩
theorem Eh.of2 {emit:Addr->Addr->Sem Unit}{Fin:Addr->Led->Prop}
  (h:zM U w T c scope cl r l d Fin target ifs emit):Eh U w T c ⟨target,iter,ifs,0⟩ scope cl emit r l d Fin:=by k_with"o"=>
 obtain⟨a,x,ds,m,hd,dr,hw,ask⟩:=h;refine Eh.RF ⟨a,x,ds,m,hd,dr,hw,λC D CO=>?_⟩;obtain⟨r0,J,c0,j0,jr,turn,fin⟩:=ask C D CO;refine⟨r0,J,c0,j0,jr,λy i dd acc r m k1 k2 k3=>Wu (turn y i dd acc r m k1 k2 (aE J i D a y) (λr1=>Rp J i acc r1 D a y) ⟨λ_ _ q=>q,λ_ _ q=>q⟩ k3) λr l ⟨e,q⟩=>⟨e,Yu q λb l q=>?_⟩,fin⟩;cases b with
 |false=>exact Rp.ex q
 |true=>exact vI (Q:=aE J i D a y) q λr l ⟨a1,a2,a3,a4⟩=>⟨a1,a2,a3,a4⟩
theorem Dy {Q:SQ}(h:Px U w T c st r l (qL U w T c Q X ss) X):BU U w T c (st::ss) r l Q X:=Xv h
theorem Hr {Q:SQ}(h:BY U w T c st r l (qL U w T c Q X ss) X):BU U w T c (st::ss) r l Q X:=by k_with"o"=>exact(vE h)
theorem Fp {Q:SQ}(hi:interactive c.env=false)(hs:swapsWith e none pos.line c.env=pure false)(h:EX U w T c e r l (Aac r Q) X):Px U w T c (.Expr e pos) r l Q X:=by k_with"o"=>exact(oJ hi hs h)
theorem Tr {Q:SQ}{p:Pos}(C:c.Ok)(hs:swapsWith e (some (.Name x p)) pos.line c.env=pure false)(h:EX U w T c e r l (qM r Q c.names x) X):Px U w T c (.Assign [.Name x p] e pos) r l Q X:=by k_with"o"=>exact(oH C hs h)
theorem gO {t:Expr}{a b:List Stmt}{Q:SQ}(h:F6 U w T c t r l (VJ U w T c r Q X a b) X):Px U w T c (.If t a b pos) r l Q X:=by k_with"o"=>exact(vY h)
theorem Yw {Q:List V->Led->Prop}(he:starEach (e::es) c.env=(false,eval e c.env)::starEach es c.env)(hb:backTo pos ((false,eval e c.env)::starEach es c.env)=(false,eval e c.env)::backTo pos (starEach es c.env))
  (h:EX U w T c e r l (Acb U w T c r Q X pos es) X):Dp U w T c pos (e::es) r l Q X:=by k_with"o"=>exact(gJ he hb h)
theorem sO (h:Dp U w T c pos es r l (Ac1 Q) X):EX U w T c (.Tuple es k pos) r l Q X:=by k_with"o"=>exact(nW h)
theorem Jt {p:Pos}(P:Prg U w T)(C:c.Ok)(hx:c.env.kindOf x=some .globalImplicit)(hd:(x==("__debug__" : Str))=false)(g:Xk x=some f)(K:Nu.BM f=true)
  (he:eval (.Call (.Name x p) args [] pos) c.env=(do callWith pos (<-eval (.Name x p) c.env) [] (backTo pos (starEach args c.env)) (backToKw pos (keywordEach [] c.env))))
  (AM:starEach args c.env=args.map λe=>(false,eval e c.env)) (h:Dp U w T c pos args r l (Ab5 U w T c r Q X f) X):EX U w T c (.Call (.Name x p) args [] pos) r l Q X:=by k_with"o"=>exact(nX P C hx hd g K he AM h)
theorem Ep {o:Expr}{name:Str}{apos:Pos}{pl:Sem Bool}(TO:T.Ok U w)
  (he:eval (.Call (.Attribute o name apos) args [] pos) c.env=(do
   let ov <-eval o c.env
   standAt apos.atName
   let (f,first) <-holding [ov] (getMethod ov name pl)
   callWith pos f first (backTo pos (starEach args c.env)) []))
  (AM:starEach args c.env=args.map λe=>(false,eval e c.env)) (h:We U w T c o r l (wH U w T c r Q X name pos args) X):EX U w T c (.Call (.Attribute o name apos) args [] pos) r l Q X:=by k_with"o"=>exact(kQ TO he AM h)
theorem oA {a:Expr}{Q:Bool->Led->Prop}(h:F6 U w T c a r l (VH U w T c r Q X es pos) X):F6 U w T c (.BoolOp .Or (a::es) pos) r l Q X:=by k_with"o"=>exact(zD h)
theorem Yv {a b:Expr}{op:CmpOp}{Q:Bool->Led->Prop}(hm:behindInMarks op b=false)(h:EX U w T c a r l (wM U w T c r (wJ Q) X (compareOp op) b) X):F6 U w T c (.Compare a [op] [b] pos) r l Q X:=by k_with"o"=>exact(gI hm h)
theorem Gy {fp fr:Led}(C:c.Ok)(G:c.A.guards=some [])(pk:Jx l fp fr)(h:Ji U w T c.lev f ds fp (VK Q fr) X):IC U w T c (λxs=>call f xs) ds r l Q X:=by k_with"o"=>exact(sE C G pk h)
theorem qN.of {Q:SQ}(h:∃ds,bZ U w T c r l d ds/\∃J:Nat->Rg->Led->Prop,J 0 r l/\
   (∀i d r l,ds[i]?=some d->∀K,BZ (eR J i Q) K->J i r l->Wa U w T c target d r l (wL U w T c K X body) X)/\∀r l,J ds.length r l->Q .next r l):qN U w T c r Q X target body d l:=by k_with"o"=>
 obtain⟨a,b,J,d,e,f⟩:=h;exact⟨a,b,J,d,e,f⟩
theorem vZ {Q:SQ}(C:c.Ok)(hs:∀x,foldedSetIterable iter c.env x=pure x)(h:EX U w T c iter r l (qN U w T c r Q X target body) X):Px U w T c (.For target iter body [] pos) r l Q X:=by k_with"o"=>exact(sT C hs (λs R=>Cl.Br (h s R) (λ_ _ ⟨d,l1,a,b,e,k⟩=>⟨d,l1,a,b,e,by obtain⟨a1,a2,J,a4,turn,a6⟩:=k;exact⟨a1,a2,J,a4,λi d r l k1 k2=>turn i d r l k1 (eR J i Q) (λ_ _ _ q=>q) k2,a6⟩⟩) λ_ _ e=>e))
theorem Xz {Q:SQ}(C:c.Ok)(hs:∀x,foldedSetIterable iter c.env x=pure x)(h:We U w T c iter r l (Ab4 U w T c r Q X target body) X):Px U w T c (.For target iter body [] pos) r l Q X:=by k_with"o"=>exact(oI C hs (Pw h λd l1 k=>by
  obtain⟨a1,a2,a3,a4,a5,a6,a7,J,a9,turn,b2⟩:=k;exact⟨a1,a2,a3,a4,a5,a6,a7,J,a9,λy i d r m k1 k2 k3=>Wu (turn y i d r m k1 k2 (Vj J i Q a1 a2 y) (λ_ _ _ q=>q) k3) λr l ⟨e,q⟩=>⟨e,kG q λf r l q=>by
   cases f with
   |next=>exact cD.ex q
   |cont=>exact cD.ex q
   |brk=>exact q
   |ret d=>exact q⟩,b2⟩))
end
theorem Prg.call (P:Prg U w T){q:Str}{Q:VQ}(i:Nat)(hm:Sk[i]?=some (a,st,q))(params:List Str)
  (hb:∀pm cd (vals:List Value),vals.length=params.length->bindArgs (Jp st q .none pm cd) ⟨vals,[]⟩=pure (params.zip vals)) (hlen:params.length=as.length)
  (h:∀(pm cd:Value) (A:Around) (outer:List Env) (L:Addr),(Fu (Jp st q .none pm cd) a A outer L lev).Ok->∃r0,Oo (Eo (L+1) (Hu st).names) ((Eo (L+1) (Hu st).names).map λ_=>none) (params.zip as) r0/\
   Ws U w T (Fu (Jp st q .none pm cd) a A outer L lev) (Uc st) r0 l (zJ Q) X):Cg U w T (lev+1) (.ref a) as l Q X:=by k_with"o"=>exact(Prg.PH P i hm params hb hlen h)
theorem Prg.callC (P:Prg U w T){q:Str}{Q:VQ}(i:Nat)(hm:Sk[i]?=some (a,st,q))(params:List Str)
  (hb:∀pm cd (vals:List Value),vals.length=params.length->bindArgs (Jp st q .none pm cd) ⟨vals,[]⟩=pure (params.zip vals)) (hlen:params.length=as.length)
  (h:∀(pm cd:Value) (A:Around) (outer:List Env) (L:Addr),(Fu (Jp st q .none pm cd) a A outer L lev).Ok->(Fu (Jp st q .none pm cd) a A outer L lev).A.guards=some []->∃r0,Oo (Eo (L+1) (Hu st).names) ((Eo (L+1) (Hu st).names).map λ_=>none) (params.zip as) r0/\
   BU U w T (Fu (Jp st q .none pm cd) a A outer L lev) (Uc st) r0 l (zJ Q) X):Ji U w T (lev+1) (.ref a) as l Q X:=by k_with"o"=>exact(Prg.L9 P i hm params hb hlen h)
theorem Xg {Q:SQ}{r':Rg}(u:Upd ns r x d r')(q:Q .next r' l):qM r Q ns x d l:=by k_with"o"=>exact(⟨_,u,q⟩)
theorem Abf {Q:Bool->Led->Prop}{b:Bool}(h:Q b l):wJ Q (.bool b) l:=⟨_,rfl,h⟩
theorem Acm {Q:VQ}{i:Int}(h:Q (.int (-i)) l):Ac7 Q (.int i) l:=⟨_,rfl,h⟩
theorem Aak {Q:Option Int->Led->Prop}{i:Int}(h:Q (some i) l):Aab Q (.int i) l:=⟨_,rfl,h⟩
theorem Abh {Q:VQ}{dd:Addr}{v:V}{attr:Str}(h1:AP l a (.inst C dd))(h2:AP l dd (.ns fs))(h3:Nj C attr=true)(h4:fs.lookup attr=some v)(h5:Q v l):wN Q attr (.ref a) l:=by k_with"o"=>exact(⟨_,_,_,_,_,rfl,h1,h2,h3,h4,h5⟩)
theorem Aci {Q:SQ}{dd:Addr}{attr:Str}{l3:Led}(h1:AP l a (.inst C dd))(h2:A5 l dd (.ns fs) (.ns (Pp fs attr d)) l3)(h3:Nj C attr=true)(h4:(Pp fs attr d).length<=1000)(h5:Q .next r l3):wF r Q attr d (.ref a) l:=by k_with"o"=>exact(⟨_,_,_,_,_,rfl,h1,h2,h3,h4,h5⟩)
theorem methP {Q:VQ}{dd:Addr}{name:Str}{f:Addr}(P:Prg U w T)(h1:AP l a (.inst C dd))(h2:AP l dd (.ns fs))(hf:Pr C name=some f)(hs:fs.lookup name=none)
  (h3:Hd U w T c pos args r l (Vk U w T c r Q X (.ref a) (.ref f)) X):Ru U w T c r Q X name pos args (.ref a) l:=by k_with"o"=>exact(let ⟨k1,k2⟩:=wC (c:=c) (r:=r) P h1 h2 hf hs;⟨_,k1,k2,h3⟩)
theorem Sh {Q:VQ}{dd:Addr}{name:Str}{f:Addr}(P:Prg U w T)(h1:AP l a (.inst C dd))(h2:AP l dd (.ns fs))(hf:Pr C name=some f)(hs:fs.lookup name=none)(hk:Nu.BM (.ref f)=true)
  (h3:Dp U w T c pos args r l (qO U w T c r Q X (.ref a) (.ref f)) X):wH U w T c r Q X name pos args (.ref a) l:=by k_with"o"=>exact(Aar (c:=c) (r:=r) P h1 h2 hf hs hk h3)
section
variable {Q:VQ}
theorem xO {x:O}(AE:AP l a x)(hx:(∃es,x=.AN es)\/∃es,x=.AV es)(h3:Hd U w T c pos args r l (Vk U w T c r Q X (.ref a) (.builtin "dict.get")) X):Ru U w T c r Q X "get" pos args (.ref a) l:=by k_with"o"=>exact(⟨_,wB AE hx,.bi,h3⟩)
theorem Uu (AE:AP l a (.list xs))(h3:Hd U w T c pos args r l (Vk U w T c r Q X (.ref a) (.builtin "list.append")) X):Ru U w T c r Q X "append" pos args (.ref a) l:=by k_with"o"=>exact(⟨_,kZ AE,.bi,h3⟩)
theorem mF (AE:AP l a (.list xs))(h3:Hd U w T c pos args r l (Vk U w T c r Q X (.ref a) (.builtin "list.extend")) X):Ru U w T c r Q X "extend" pos args (.ref a) l:=by k_with"o"=>exact(⟨_,kY AE,.bi,h3⟩)
theorem aY {es:List (Int×V)}(AE:AP l a (.AN es))(h3:Hd U w T c pos args r l (Vk U w T c r Q X (.ref a) (.builtin "dict.setdefault")) X):Ru U w T c r Q X "setdefault" pos args (.ref a) l:=by k_with"o"=>exact(⟨_,Zr AE,.bi,h3⟩)
theorem aZ (h3:Hd U w T c pos args r l (Vk U w T c r Q X (.bytes b) (.builtin "bytes.join")) X):Ru U w T c r Q X "join" pos args (.bytes b) l:=by k_with"o"=>exact(⟨_,sV,.bi,h3⟩)
end
theorem aB {es:List (Int×V)}{k:Int}(P:Prg U w T)(AE:AP l a (.AN es))(h:Q ((Ey es k).getD d) l):Wn U w T c (λxs=>call (.builtin "dict.get") xs) [.ref a,.int k,d] r l Q X:=by k_with"o"=>exact(vF P.ok AE h)
end
theorem words:True:=by
 (k_with"look"=>repeat (first|exact Look.loc|exact Look.cell|apply Look.there))
 (k_with"upd"=>repeat (first|exact Upd.loc|exact Upd.cell|apply Upd.there))
 (k_with"has"=>repeat (first|exact AP.here .refl|exact AP.here .fz|apply AP.there))
 (k_with"put"=>repeat (first|exact A5.here|apply A5.there))
 (k_with"nu"=>(first
  |with_reducible refine Ab3 ?_
  |with_reducible refine zI ?_
  |with_reducible refine wI ?_
  |with_reducible refine sZ ?_
  |with_reducible refine Vi ?_
  |with_reducible refine M3 ?_
  |with_reducible refine Ph ?_
  |with_reducible refine lA ?_
  |with_reducible refine ME ?_
  |with_reducible refine J' ?_
  |with_reducible refine Nx ?_
  |with_reducible refine wG ?_
  |with_reducible refine Ky ?_
  |with_reducible refine sX ?_
  |with_reducible refine Ct ?_
  |with_reducible refine Sr ?_
  |with_reducible refine Gm ?_
  |with_reducible refine Xu ?_
  |with_reducible refine sA ?_
  |with_reducible refine Jf ?_
  |((with_reducible refine Om ?_ ?_ ?_);(· assumption);(· rfl))
  |((with_reducible refine qH ?_ ?_ ?_);(· rfl);(· rfl))
  |with_reducible refine Mi ?_
  |((with_reducible refine oC ?_ ?_);(· rfl))
  |with_reducible refine vJ ?_
  |((with_reducible show We _ _ _ _ (Expr.Name _ _) _ _ _ _);(with_reducible apply yX);(· assumption);(· walk_at"look"))
  |with_reducible refine vQ ?_
  |((with_reducible refine nV ?_ ?_);(· rfl))
  |with_reducible refine Abl ?_
  |with_reducible refine kI ?_
  |with_reducible refine Abm ?_
  |((with_reducible refine Zn ?_ ?_ ?_);(· rfl);(· rfl))
  |((with_reducible refine wZ ?_ ?_);(· exact Jj rfl))
  |((with_reducible show wN _ _ _ _);(with_reducible apply Abh);(· walk_at"has");(· walk_at"has");(· rfl);(· rfl))
  |((with_reducible show wF _ _ _ _ _ _);(with_reducible apply Aci);(· walk_at"has");(· walk_at"put");(· rfl);(· exact Jj rfl))
  |((with_reducible show Ru _ _ _ _ _ _ _ _ _ _ _ _);(with_reducible apply methP);(· assumption);(· walk_at"has");(· walk_at"has");(· rfl);(· rfl))
  |((with_reducible show Ru _ _ _ _ _ _ _ _ _ _ _ _);(with_reducible apply xO);(· walk_at"has");(· first|exact .inl ⟨_,rfl⟩|exact .inr ⟨_,rfl⟩))
  |((with_reducible show Ru _ _ _ _ _ _ _ _ _ _ _ _);(with_reducible apply Uu);(· walk_at"has"))
  |((with_reducible show Ru _ _ _ _ _ _ _ _ _ _ _ _);(with_reducible apply mF);(· walk_at"has"))
  |((with_reducible show Ru _ _ _ _ _ _ _ _ _ _ _ _);(with_reducible apply aY);(· walk_at"has"))
  |((with_reducible show Wn _ _ _ _ _ _ _ _ _ _);(with_reducible apply Xw);(· walk_at"put");rotate_left)
  |with_reducible refine gG ?_
  |((with_reducible refine vL ?_ ?_);(· intro _ _;rfl))
  |with_reducible refine nR ?_
  |with_reducible refine nQ ?_
  |with_reducible refine Abp ?_
  |((with_reducible show W2 _ _ _ _ _ _ _ _ _ _ _);(with_reducible apply Yx);(· intro _ _;rfl);(· walk_at"has");(· decide);(· decide);(· rfl))
  |((with_reducible show W2 _ _ _ _ _ _ _ _ _ _ _);(with_reducible apply Ro);(· intro _ _;rfl);(· decide);(· decide);(· rfl))
  |((with_reducible refine dC ?_ ?_);(· rfl))
  |((with_reducible show nN _ _ _ _ _ _ _ _ _ _);(with_reducible apply rY);(· walk_at"put");(· decide);(· decide);(· first|exact Qa (by decide) rfl|decide|exact Int.lt_of_lt_of_le (by decide) (Ek 2)))
  |((with_reducible refine sR ?_ ?_ ?_);(· assumption);(· rfl))
  |((with_reducible refine vR ?_ ?_);(· assumption))
  |((with_reducible show We _ _ _ _ (Expr.Name _ _) _ _ _ _);(with_reducible apply vN);(· assumption);(· assumption);(· rfl);(· rfl);(· rfl))
  |with_reducible refine yS ?_
  |with_reducible refine yV ?_
  |with_reducible refine Abn ?_
  |with_reducible refine kL ?_
  |with_reducible refine Abo ?_
  |with_reducible refine vK ?_
  |with_reducible refine yY ?_
  |((with_reducible show We _ _ _ _ (Expr.Call (Expr.Name _ _) _ _ _) _ _ _ _);(with_reducible apply vP);(· assumption);(· assumption);(· rfl);(· rfl);(· rfl);(· rfl);(· rfl);(· rfl))
  |((with_reducible show We _ _ _ _ (Expr.Call (Expr.Attribute _ _ _) _ _ _) _ _ _ _);(with_reducible apply Ve);(· assumption);(· rfl);(· rfl))
  |((with_reducible refine bX ?_ ?_);(· rfl))
  |with_reducible refine Abs ?_
  |with_reducible refine Abr ?_
  |with_reducible refine Acs ?_
  |with_reducible refine nY ?_
  |with_reducible refine eL ?_
  |((with_reducible refine vT ?_ ?_);(· intro _;rfl))
  |with_reducible refine oM ?_
  |with_reducible refine MZ ?_
  |with_reducible refine Ni ?_
  |with_reducible refine Ip ?_
  |with_reducible refine Aby ?_
  |with_reducible refine Abt ?_
  |with_reducible refine Acz ?_
  |with_reducible refine Acv ?_
  |((with_reducible refine Abu ?_ ?_);(· omega))
  |with_reducible refine Acw ?_
  |with_reducible refine Acx ?_
  |with_reducible refine Acy ?_
  |with_reducible refine YB ?_
  |((with_reducible refine Abw ?_ ?_);(· first|exact IntMulOk.of_left (by decide)|exact IntMulOk.of_right (by decide)))
  |((with_reducible refine vV ?_ ?_ ?_);(· decide);(· exact PyProof.noPylong_small (by decide)))
  |((with_reducible refine Yy ?_ ?_ ?_);(· decide);(· exact PyProof.noPylong_small (by decide)))
  |with_reducible refine Abf ?_
  |with_reducible refine Acm ?_
  |with_reducible refine Aak ?_
  |with_reducible refine BZ.go (by assumption) ?_
  |with_reducible refine oO.next (by assumption) ?_
  |with_reducible refine oO.skip (by assumption) ?_
  |with_reducible refine eS.next (by assumption) ?_
  |with_reducible refine eS.skip (by assumption) ?_
  |(with_reducible refine⟨_,rfl,?_⟩)
  |((with_reducible show qM _ _ _ _ _ _);(with_reducible apply Xg);(· walk_at"upd"))
  ))
 (k_with"picks"=>repeat (first|exact Jx.nil|(apply Jx.cons;(· repeat (first|exact Zp.here|apply Zp.there)))))
 (k_with"drop"=>repeat (first|exact Bm.refl _|exact Bm.nil _|(apply Bm.pick;(· repeat (first|exact Zp.here|apply Zp.there)))|apply Bm.skip))
 (k_with"comp0"=>repeat (first|exact Ie.nil|apply Ie.loc|(apply Ie.cell;(· repeat (first|exact Jy.here|apply Jy.there)))))
 (k_with"comp"=>repeat (first|exact Ld.nil|apply Ld.loc|(apply Ld.cell;(· repeat (first|exact Jy.here|apply Jy.there)))))
 (k_with"nus"=>(try dsimp only[Kf,Er]);repeat (walk_at"nu";try dsimp only[Kf,Er]);try (with_reducible show @ite _ _ _ _ _))
 (k_with"nms"=>repeat (first|exact List.forall_mem_nil _|refine Um.mpr ⟨(by first|exact⟨rfl,rfl⟩|exact⟨⟨.inl rfl,rfl⟩,rfl,rfl⟩|exact⟨⟨.inr rfl,rfl⟩,rfl,rfl⟩),?_⟩))
 (k_with"compok"=>refine Rr.of rfl rfl (by decide) (by decide) (by decide) (λC=>(by walk_at"nms")) (by simp) rfl)
 (k_with"split"=>((try (with_reducible show @ite _ _ _ _ _));split))
 trivial
noncomputable def be (n:Nat):Nat->List UInt8
 | 0=>[]
 |k+1=>UInt8.ofNat (n/256^k % 256)::be n k
theorem Bl (n:Nat):∀k,(be n k).length=k
 | 0=>rfl
 |k+1=>by rw[be,An,Bl n k]
theorem nI (n:Nat):∀(k i:Nat),i<k->(be n k)[i]?=some (UInt8.ofNat (n/256^(k-1-i) % 256))
 |k+1,0,_=>rfl
 |k+1,i+1,h=>by k_with"o"=>rw[be,lC,nI n k i (Nat.lt_of_succ_lt_succ h)];congr 5;omega
noncomputable def Xs (b:List UInt8):List V:=b.map λx=>.int x.toNat
theorem Gk {a c:Int}(h:(El a c n)[i]?=some d):i<n/\d=.int (a+(i:Int)*c):=by k_with"o"=>
 unfold El at h;rw[Bw] at h;by_cases hi:i<n
 ·rw[List.getElem?_range hi] at h;injection h with h;exact⟨hi,h.symm⟩
 ·rw[List.getElem?_eq_none (by rw[Fe];omega)] at h;cases h
theorem Es {a c:Int}:(El a c n).length=n:=by k_with"o"=>unfold El;rw[Ac,Fe]
theorem take_snoc {α:Type}{l:List α}{x:α}(h:l[i]?=some x):l.take i++[x]=l.take (i+1):=by k_with"o"=>rw[Cc,h];rfl
theorem Rk (h:k<=4):Builtin.Range.small ((k:Int)-1) (-1) (-1)=true/\Builtin.Range.rangeSize ((k:Int)-1) (-1) (-1)=k:=by k_with"o"=>
 match k,h with
 | 0,_=>decide
 | 1,_=>decide
 | 2,_=>decide
 | 3,_=>decide
 | 4,_=>decide
theorem hZ (hi:i<k):(((n:Int).fdiv (2^(8*((k:Int)-1+(i:Int)*-1)).toNat)).fmod 256)=((UInt8.ofNat (n/256^(k-1-i) % 256)).toNat:Int):=by k_with"o"=>
 have e:(8*((k:Int)-1+(i:Int)*-1)).toNat=8*(k-1-i):=by omega
 have e2:((2:Int)^(8*(k-1-i)))=((256^(k-1-i):Nat):Int):=by rw[show(256:Nat)=2^8 from rfl,<-Nat.pow_mul,dE];rfl
 rw[e,e2,UInt8.toNat_ofNat_of_lt' (Yb _ (by decide)),Ke _ (Fw _),Qb _ (by decide)];rfl
theorem xU (P:Prg U w T)(hk:k<=4):Cg U w T (lev+1) (.ref 399) [.int n,.int k] l (λd l'=>d=.bytes (be n k)/\l'=l) X:=by k_with"o"=>
 have TO:=P.ok;refine P.call 32 rfl ["number","size"] (λpm cd vals hv=>?_) rfl λpm cd A outer L C=>?_
 ·obtain⟨x,y,rfl⟩:=Wf hv;rfl
 refine⟨[some (.int n),some (.int k)],.cons .cell (.cons (.there .loc) .nil),?_⟩;refine Dn ?_;walk_at"nus";refine Kt C TO (cl:=[("number",L+1)]) (emit:=λC D=>Ft _ (.ref D) _) (by walk_at"compok") (λ_=>rfl) (λC D I=>rfl) ?_;walk_at"nus";refine eI (by decide) (PyProof.noPylong_small (by decide)) λa=>?_;refine⟨a,_,_,λy=>_,rfl,λy=>.here,Il C (n:=k) (Rk hk).1 (Rk hk).2,λy hy C' D CO=>?_⟩;refine⟨[none,none,some (.int n)],λi r' l'=>∃o,r'=[none,o,some (.int n)]/\l'=(D,.list ((Xs (be n k)).take i))::(a,y)::l,by walk_at"comp0",⟨none,rfl,rfl⟩,?_,?_,?_⟩
 ·rintro i r' l' ⟨o,rfl,rfl⟩;exact⟨.tail _ (.head _),by walk_at"comp"⟩
 ·rintro i d r' l' hd ⟨o,rfl,rfl⟩;obtain⟨hi,rfl⟩:=Gk hd;refine Bt CO (by walk_at"upd") ?_;refine Gx ?_;rw[if_pos rfl];refine bV ?_;walk_at"nus";rw[hZ hi];refine⟨_,_,.here,?_,_,rfl,?_⟩
  ·rw[Av];exact Aa (Nat.min_le_left _ _) (by rw[show sizeLine=16777216 from rfl];omega)
  ·refine congrArg (λz=>(D,O.list z)::(a,y)::l) (take_snoc ?_);unfold Xs;rw[Bw,nI n k i hi];rfl
 ·rintro r' l' ⟨o,rfl,rfl⟩;refine⟨_,.there .here,?_⟩;walk_at"nus";rw[Es,Dq (by unfold Xs;rw[Ac,Bl];exact Ah _)];refine Ui C (b:=be n k) (.here .refl) (by rw[Bl];exact Aa hk (by decide)) ?_;walk_at"nus";exact Eu.of [_,_] ⟨rfl,rfl⟩
noncomputable def jK (p q:Nat):Nat×Nat:=if p=0 then (1117*(q+1)+9413,q+1) else (p,q)
noncomputable def qA (p q m:Nat):Nat:=(jK p q).1 % m
noncomputable def zS (p q m:Nat):Nat×Nat:=((jK p q).1/m,(jK p q).2)
noncomputable def Io (p:Nat×Nat):O:=.list [.int p.1,.int p.2]
theorem pZ (P:Prg U w T){p:Nat×Nat}{m:Nat}(hm:0<m)(H3:m<1073741824)(h:Q (.int (qA p.1 p.2 m)) [(a,Io (zS p.1 p.2 m))]) :
  Cg U w T (lev+1) (.ref 387) [.ref a,.int m] [(a,Io p)] Q X:=by k_with"o"=>
 have TO:=P.ok;refine P.call 30 rfl ["pen","many"] (λpm cd vals hv=>?_) rfl λpm cd A outer L C=>?_
 ·obtain⟨x,y,rfl⟩:=Wf hv;rfl
 refine⟨[some (.ref a),some (.int m),none],.cons .loc (.cons (.there .loc) .nil),?_⟩;refine Et (λr1 l1=>r1=[some (.ref a),some (.int m),none]/\l1=[(a,Io (jK p.1 p.2))]) (λK0 BV=>?_) ?_
 ·unfold Io jK at BV;unfold Io;walk_at"nus";walk_at"split"
  ·rename_i e;have e:p.1=0:=by have:=beq_iff_eq.mp e;omega
   rw[if_pos e] at BV;walk_at"nus";exact⟨rfl,rfl,rfl⟩
  ·rename_i e;have e:p.1≠0:=λq=>e (by rw[q];rfl);rw[if_neg e] at BV;walk_at"nus";exact⟨rfl,rfl,rfl⟩
 ·rintro r1 l1 ⟨rfl,rfl⟩;unfold Io;walk_at"nus";refine vV (by omega) (PyProof.noPylong_small (by omega)) ?_;walk_at"nus";refine Yy (by omega) (PyProof.noPylong_small (by omega)) ?_;walk_at"nus";rw[Ke _ (Fw _),Qb _ (Fw _)];walk_at"nus";exact Eu.of [] h
theorem xI (P:Prg U w T){b:Addr}{p:Nat×Nat}(h0:0<xs.length)(H3:xs.length<1073741824)(hd:xs[qA p.1 p.2 xs.length]?=some d)
  (h:Q d [(a,Io (zS p.1 p.2 xs.length)),(b,.list xs)]) :
  Cg U w T (lev+2) (.ref 394) [.ref a,.ref b] [(a,Io p),(b,.list xs)] Q X:=by k_with"o"=>
 have TO:=P.ok;refine P.call 31 rfl ["pen","some"] (λpm cd vals hv=>?_) rfl λpm cd A outer L C=>?_
 ·obtain⟨x,y,rfl⟩:=Wf hv;rfl
 refine⟨[some (.ref a),some (.ref b)],.cons .loc (.cons (.there .loc) .nil),?_⟩;refine Dn ?_;walk_at"nus";refine Hk (by walk_at"has") (by omega) ?_;walk_at"nus";refine Bk C (by walk_at"picks") (pZ P h0 H3 ?_);refine Yx (λ_ _=>rfl) (by walk_at"has") (by omega) ?_ hd ?_
 ·have:qA p.1 p.2 xs.length<xs.length:=Yb _ h0;omega
 walk_at"nus";exact Eu.of [] h
theorem Wo (n k:Nat):clipAt n (k:Int)=min k n:=by k_with"o"=>unfold clipAt;omega
theorem Sa {α:Type}(l:List α)(k:Nat):Kc l none (some (k:Int))=l.take k:=by k_with"o"=>show(l.drop 0).take (clipAt l.length k-0)=_;rw[List.drop_zero,Nat.sub_zero,Wo,oW];omega
theorem lR {α:Type}(l:List α)(k:Nat):Kc l (some (k:Int)) none=l.drop k:=by k_with"o"=>
 show(l.drop (clipAt l.length k)).take (l.length-clipAt l.length k)=_;rw[Wo];by_cases h:k<=l.length
 ·rw[Ew h,Dq (by rw[Cw];exact Ah _)]
 ·rw[Nat.min_eq_right (by omega),Ma (Ah _),Ma (by omega)];simp
theorem dM {α:Type}(l:List α)(i j:Nat)(h:i<=j):Kc l (some (i:Int)) (some (j:Int))=(l.drop i).take (j-i):=by k_with"o"=>
 show(l.drop (clipAt l.length i)).take (clipAt l.length j-clipAt l.length i)=_;rw[Wo,Wo];by_cases h1:i<=l.length
 ·rw[Ew h1,oW,Cw];omega
 ·rw[Nat.min_eq_right (a:=i) (by omega),Ma (Ah _),Ma (by omega)];simp
theorem Eu.picks {l' l2 fr:Led}(pk:Jx l' l2 fr)(h:Q d l2):Eu Q d l':=by k_with"o"=>exact(⟨l2,fr,pk.perm,h⟩)
noncomputable def Vv (n:Nat)(k:Int):Nat:=n*1117+2*k.natAbs+(if k<0 then 1 else 0)
noncomputable def RB (ks:List Int):Nat:=ks.foldl Vv 79
theorem fH (n:Nat)(k:Int):((n:Int)*1117+2*if k<0 then -k else k)+(if decide (k<0)=true then 1 else 0)=((Vv n k:Nat):Int):=by k_with"o"=>
 unfold Vv;by_cases h:k<0
 ·simp only[h,if_true,decide_true];omega
 ·simp only[h,if_false,decide_false,Bi];omega
theorem Aaq (P:Prg U w T){ob:Obj}(hk:ks.length<=63)
  (h:∀b,Q (.ref b) [(b,Io (RB ks,0)),(a,.fz ob (.list (intsOf ks)))]) :
  Cg U w T (lev+1) (.ref 380) [.ref a] [(a,.fz ob (.list (intsOf ks)))] Q X:=by k_with"o"=>
 have TO:=P.ok;refine P.call 29 rfl ["script"] (λpm cd vals hv=>?_) rfl λpm cd A outer L C=>?_
 ·obtain⟨x,rfl⟩:=Qh hv;rfl
 refine⟨[some (.ref a),none,none],.cons .loc .nil,?_⟩;refine Dn ?_;walk_at"nus";refine Dn ?_;refine vW C (λ_=>rfl) ?_;walk_at"nus";refine .inr ⟨_,_,rfl,by walk_at"has",?_,λb=>?_⟩
 ·rw[Bu];exact Aa hk (by decide)
 have hs:Kc (intsOf ks) none (some 63)=intsOf ks:=by exact(Sa _ 63).trans (Dq (by rw[Bu];exact hk))
 rw[hs];refine⟨_,_,_,λy=>_,rfl,λy=>.here,Ds C,λy i r l=>(∃o,r=[some (.ref a),some (.int ((ks.take i).foldl Vv 79:Nat)),o])/\l=[(b,y),(a,.fz ob (.list (intsOf ks)))],λy hy=>⟨⟨_,rfl⟩,rfl⟩,?_,?_,?_⟩
 ·rintro y i r l ⟨_,rfl⟩;exact .head _
 ·rintro y i d r l hy hd ⟨⟨o,rfl⟩,rfl⟩;obtain⟨k,hk,rfl⟩:=Jd hd;refine Bt C (by walk_at"upd") ⟨.head _,?_⟩;walk_at"nus";rw[fH,<-Iu (f:=Vv) (z:=79) hk];exact⟨⟨_,rfl⟩,rfl⟩
 ·rintro y r l ⟨⟨o,rfl⟩,rfl⟩;refine⟨_,.here,?_⟩;rw[Bu,Bj];walk_at"nus";exact λa1=>Eu.picks (by walk_at"picks") (h _)
noncomputable def Pt:List Int:=[65024,65025,917760,6155]
noncomputable def pQ:List Int:=[0,40,41,65536,1114111,77]
noncomputable def Kq:List (List Int):=Pt.flatMap λa=>pQ.map λb=>[a,b]
theorem cR (U:Program)(w:World):Hi U w Kq:=by k_with"o"=>unfold Hi;have e:Kq.map (DS U w).hash=Kq.map λks=>reduceHash (Builtin.Tuple.tupleHashOf (ks.map hashInt)):=rfl;rw[e];decide +kernel
theorem fU {α β:Type}{f:α->β}{l:List α}(h:(l.map f).Nodup)(a:α)(ha:a∈l)(b:α)(hb:b∈l)(e:f a=f b):a=b:=by k_with"o"=>
 induction l with
 |nil=>cases ha
 |cons x l ih=>
  rw[Aj,Ap] at h;rcases Ag.mp ha with h1|h1
  ·rcases Ag.mp hb with h2|h2
   ·rw[h1,h2]
   ·exact(h.1 (Af.mpr ⟨b,h2,by rw[<-e,h1]⟩)).elim
  ·rcases Ag.mp hb with h2|h2
   ·exact(h.1 (Af.mpr ⟨a,h1,by rw[e,h2]⟩)).elim
   ·exact ih h.2 h1 h2
theorem fN {α β:Type}{f:α->β}{l:List α}(h:l.Nodup)(g:∀a∈l,∀b∈l,f a=f b->a=b):(l.map f).Nodup:=by k_with"o"=>
 induction l with
 |nil=>exact Ly
 |cons x l ih=>rw[Ap] at h;rw[Aj,Ap];refine⟨λq=>?_,ih h.2 λa ha b hb=>g a (.tail _ ha) b (.tail _ hb)⟩;obtain⟨y,hy,e⟩:=Af.mp q;exact h.1 (g x (.head _) y (.tail _ hy) e.symm▸hy)
theorem Hi.sub {ks:List (List Int)}(hn:ks.Nodup)(hs:∀k∈ks,k∈Kq):Hi U w ks:=by k_with"o"=>exact(fN hn λa ha b hb e=>fU (cR U w) a (hs a ha) b (hs b hb) e)
theorem Oa (P:Prg U w T){b:Addr}{p:Nat×Nat}(h0:0<xs.length)(H3:xs.length<1073741824)
  (h:∀p' d,d∈xs->Q d [(a,Io p'),(b,.list xs)]):Cg U w T (lev+2) (.ref 394) [.ref a,.ref b] [(a,Io p),(b,.list xs)] Q X:=by k_with"o"=>
 have AJ:qA p.1 p.2 xs.length<xs.length:=Yb _ h0;exact xI P h0 H3 (Cs AJ) (h _ _ (aG AJ))
theorem Sm (P:Prg U w T){p:Nat×Nat}{m:Nat}(hm:0<m)(H3:m<1073741824)(h:∀p' d,d<m->Q (.int (d:Nat)) [(a,Io p')]) :
  Cg U w T (lev+1) (.ref 387) [.ref a,.int m] [(a,Io p)] Q X:=by k_with"o"=>exact(pZ P hm H3 (h _ _ (Yb _ hm)))
noncomputable def Qj:List Int:=[0,1,700,65535]
def B' (cs:List Int):Prop:=cs.Pairwise (· < ·)/\(∀k∈cs,0<=k/\k<=1114111)/\cs.length<=1000
structure dD (es:List (Int×List Int)):Prop where
 nodup:(es.map (·.1)).Nodup
 sel:∀e∈es,e.1∈Pt
 asc:∀e∈es,B' e.2
structure Zt (os:List (List Int×Int)):Prop where
 nodup:(os.map (·.1)).Nodup
 key:∀e∈os,e.1∈Kq
 val:∀e∈os,e.2∈Qj
noncomputable def dI (es:List (Int×List Int)):O:=.AN (es.map λe=>(e.1,V.tup (intsOf e.2)))
noncomputable def dT (os:List (List Int×Int)):O:=.AV (os.map λe=>(e.1,V.int e.2))
theorem Sn:∀(es acc:List (Int×V)),(acc.map (·.1)).Nodup->((Rt acc es).map (·.1)).Nodup
 |[]=>λacc h=>h
 |e::es=>λacc h=>by k_with"o"=>exact( Sn es (Fy acc e.1 e.2) (Uz h _ _))
theorem dY:∀(es acc:List (Int×V)) {k:Int},k∈(Rt acc es).map (·.1)->k∈acc.map (·.1)\/k∈es.map (·.1)
 |[],acc,k,h=>.inl h
 |e::es,acc,k,h=>by k_with"o"=>
  rcases dY es (Fy acc e.1 e.2) h with q|q
  ·rcases bH.mp q with rfl|q
   ·exact .inr (.head _)
   ·exact .inl q
  ·exact .inr (.tail _ q)
theorem Xn:∀(es acc:List (Int×V)),(Rt acc es).length<=acc.length+es.length
 |[]=>λacc=>Ah _
 |e::es=>λacc=>by k_with"o"=>have h1:=Xn es (Fy acc e.1 e.2);have h2:=Sp acc e.1 e.2;rw[An];exact Aa h1 (by omega)
theorem rC {ns:List Int}(h:ds.Perm (intsOf ns)):∃ms,ds=intsOf ms/\ms.Perm ns:=by k_with"o"=>
 have BO:∀d∈ds,d=V.int (Mq d):=λd hd=>by obtain⟨n,_,rfl⟩:=Af.mp (h.mem_iff.mp hd);rfl
 refine⟨ds.map Mq,?_,?_⟩
 ·unfold intsOf;rw[Ay];exact(Na ds).symm.trans (Fi λd hd=>BO d hd)
 ·have:=h.map Mq;unfold intsOf at this;rw[Ay] at this;exact this.trans (by rw[show Mq∘V.int=id from rfl,Na])
theorem gF {ns:List Int}(hn:ns.Nodup)(h:ds.Perm (intsOf ns))(hp:ds.Pairwise λx y=>Mq x<=Mq y):∃ms,ds=intsOf ms/\ms.Perm ns/\ms.Pairwise (· < ·):=by k_with"o"=>
 obtain⟨ms,rfl,pm⟩:=rC h;refine⟨ms,rfl,pm,?_⟩;have hle:ms.Pairwise (·<=·):=by unfold intsOf at hp;have h2:=(Lx (f:=V.int)).mp hp;exact h2
 have BK:ms.Pairwise (·≠·):=pm.nodup_iff.mpr hn;exact(hle.and BK).imp λh=>by omega
theorem So {K α β:Type}[DecidableEq K](f:α->β)(k:K)(v:α):∀es:List (K×α),Fy (es.map λe=>(e.1,f e.2)) k (f v)=(Fy es k v).map λe=>(e.1,f e.2)
 |[]=>rfl
 |(a,u)::r=>by k_with"o"=>
  rw[Aj,Fy,Fy];walk_at"split"
  ·rfl
  ·rw[So f k v r];rfl
theorem jN {K α:Type}[DecidableEq K]{Pk:K->Prop}{Pv:α->Prop}{k:K}{v:α}(hk:Pk k)(hv:Pv v){es:List (K×α)}(h:∀e∈es,Pk e.1/\Pv e.2)(e:K×α)(he:e∈Fy es k v):Pk e.1/\Pv e.2:=by k_with"o"=>
 induction es with
 |nil=>rw[Ae.mp he];exact⟨hk,hv⟩
 |cons p r ih=>
  obtain⟨a,u⟩:=p;simp only[Oe] at he;split at he
  ·rcases Ag.mp he with rfl|q
   ·exact⟨(h _ (.head _)).1,hv⟩
   ·exact h e (.tail _ q)
  ·rcases Ag.mp he with rfl|q
   ·exact h _ (.head _)
   ·exact ih (λe he=>h e (.tail _ he)) q
theorem dD.put {es:List (Int×List Int)}(h:dD es){k:Int}{cs:List Int}(hk:k∈Pt)(hc:B' cs):dD (Fy es k cs):=by k_with"o"=>have BO:=jN (Pk:=λk=>k∈Pt) (Pv:=B') hk hc λe he=>⟨h.sel e he,h.asc e he⟩;exact⟨Uz h.nodup _ _,λe he=>(BO e he).1,λe he=>(BO e he).2⟩
theorem Zt.put {os:List (List Int×Int)}(h:Zt os){k:List Int}{v:Int}(hk:k∈Kq)(hv:v∈Qj):Zt (Fy os k v):=by k_with"o"=>have BO:=jN (Pk:=λk=>k∈Kq) (Pv:=λv=>v∈Qj) hk hv λe he=>⟨h.key e he,h.val e he⟩;exact⟨Uz h.nodup _ _,λe he=>(BO e he).1,λe he=>(BO e he).2⟩
theorem tQ (P:Prg U w T){p:Nat×Nat}
  (h:∀d o es os p',dD es->es.length<=4->Zt os->os.length<=6->Q (.tup [.ref d,.ref o]) [(a,Io p'),(d,dI es),(o,dT os)]) :
  Cg U w T (lev+3) (.ref 404) [.ref a] [(a,Io p)] Q X:=by k_with"o"=>
 have TO:=P.ok;refine P.call 33 rfl ["pen"] (λpm cd vals hv=>?_) rfl λpm cd A outer L C=>?_
 ·obtain⟨x,rfl⟩:=Qh hv;rfl
 refine⟨[some (.ref a),none,none,none,none,none,none,none,none],.cons .loc .nil,?_⟩;refine Dn ?_;walk_at"nus";refine Sy (names:=["defaults","others"]) C rfl rfl ?_;walk_at"nus";refine bW λd=>?_;walk_at"nus";refine kN λo=>?_;walk_at"nus";refine⟨_,_,rfl,rfl,.cons (by walk_at"upd") (.cons (by walk_at"upd") .nil),?_⟩;refine Et (λr1 l1=>∃n s2 cc t f pp p' es,r1=[some (.ref a),some (.ref d),some (.ref o),n,s2,cc,t,f,pp]/\Bm l1 [(a,Io p'),(d,dI es),(o,.AV [])]/\dD es/\es.length<=4) (λK0 BV=>?_) ?_
 ·refine Jh C (λ_=>rfl) ?_;walk_at"nus";refine Bk C (by walk_at"picks") (Sm P (m:=4) (by decide) (by decide) λp1 n1 QK=>?_);walk_at"nus";refine Lc λra=>?_;have hr:=fA (a:=0) (b:=n1) (n:=n1) (by decide) (by omega) (by omega);refine⟨_,_,_,[(a,Io p1),(d,dI []),(o,.AV [])],rfl,.picks (by walk_at"picks"),Il C (n:=n1) hr.1 hr.2,λi r m=>∃n s2 cc t f pp p' es,r=[some (.ref a),some (.ref d),some (.ref o),n,s2,cc,t,f,pp]/\m=[(a,Io p'),(d,dI es),(o,.AV [])]/\dD es/\es.length<=i,?_,?_,?_⟩
  ·exact⟨_,_,_,_,_,_,p1,[],rfl,rfl,⟨.nil,λ_ h=>(nomatch h),λ_ h=>(nomatch h)⟩,Ah _⟩
  ·rintro y i dd r m hy AQ K hK ⟨n,s2,cc,t,f,pp,p',es,rfl,rfl,hI,hlen⟩;obtain⟨hi,rfl⟩:=Gk AQ;refine Bt C (by walk_at"upd") ⟨rfl,?_⟩;walk_at"nus";intro b1;walk_at"nus";refine Bk C (by walk_at"picks") (Oa P (by decide) (by decide) λp2 d2 hd2=>?_);walk_at"nus";intro b2;walk_at"nus";refine Et (λr1 l1=>∃n t f p' cc cs,r1=[some (.ref a),some (.ref d),some (.ref o),n,some d2,some (.ref cc),t,f,pp]/\Bm l1 [(cc,.list (intsOf cs)),(ra,y),(a,Io p'),(d,dI es),(o,.AV [])]/\(∀k∈cs,0<=k)/\cs.length<=1000) (λK0 BV=>?_) ?_
   ·refine Jh C (λ_=>rfl) ?_;walk_at"nus";refine Bk C (by walk_at"picks") (Sm P (m:=4) (by decide) (by decide) λp3 n3 gp=>?_);walk_at"nus";refine Lc λrb=>?_;have WL:=fA (a:=0) (b:=n3) (n:=n3) (by decide) (by omega) (by omega);refine⟨_,_,_,[(b2,.list (intsOf [])),(ra,y),(a,Io p3),(d,dI es),(o,.AV [])],rfl,.picks (by walk_at"picks"),Il C (n:=n3) WL.1 WL.2,λi r m=>∃n t f p' cc cs,r=[some (.ref a),some (.ref d),some (.ref o),n,some d2,some (.ref cc),t,f,pp]/\m=[(cc,.list (intsOf cs)),(ra,y),(a,Io p'),(d,dI es),(o,.AV [])]/\(∀k∈cs,0<=k)/\cs.length<=301*i,?_,?_,?_⟩
    ·exact⟨_,_,_,p3,b2,[],rfl,rfl,λ_ h=>(nomatch h),Ah _⟩
    ·rintro y3 j dd r m G7 UK K hK ⟨n,t,f,p',cc,cs,rfl,rfl,J1,N'⟩;obtain⟨hj,rfl⟩:=Gk UK;refine Bt C (by walk_at"upd") ⟨rfl,?_⟩;walk_at"nus";intro b3;walk_at"nus";refine Bk C (by walk_at"picks") (Oa P (by decide) (by decide) λp4 d4 OW=>?_);obtain⟨k4,rfl,TX,ag⟩:∃k:Int,d4=.int k/\0<=k/\k<=1114000:=by simp only[Ag,Df,or_false] at OW;rcases OW with rfl|rfl|rfl|rfl|rfl<;>exact⟨_,rfl,by decide,by decide⟩
     walk_at"nus";refine yU (λd=>d=.int 300\/d=.int 4) ?_ ?_
     ·refine Ol ?_;walk_at"nus";walk_at"split"
      ·walk_at"nus";exact⟨.inl rfl,rfl⟩
      ·walk_at"nus";exact⟨.inr rfl,rfl⟩
     intro dz bp;walk_at"nus";intro b4;walk_at"nus";refine Bk C (by walk_at"picks") (Oa P (by show(0:Nat)<5;decide) (by show(5:Nat)<_;decide) λp5 d5 XF=>?_);obtain⟨k5,rfl,gr,af⟩:∃k:Nat,d5=.int k/\0<=k/\k<=300:=by
      simp only[Ag,Df,or_false] at XF;rcases XF with rfl|rfl|rfl|rfl|rfl
      ·exact⟨0,rfl,by decide,by decide⟩
      ·exact⟨1,rfl,by decide,by decide⟩
      ·exact⟨2,rfl,by decide,by decide⟩
      ·exact⟨255,rfl,by decide,by decide⟩
      ·rcases bp with rfl|rfl
       ·exact⟨300,rfl,by decide,by decide⟩
       ·exact⟨4,rfl,by decide,by decide⟩
     walk_at"nus";refine eJ λb5=>?_;walk_at"nus";have WK:=fA (a:=k4) (b:=k4+1+(k5:Int)) (n:=k5+1) TX (by omega) (by omega);refine kH C (by walk_at"has") WK.1 WK.2 (Aa (m:=301) (by omega) (by decide)) λb6=>?_;walk_at"nus";refine Pg (by walk_at"has") (by walk_at"has") ?_ λb7=>?_
     ·rw[Bu,Es,show sizeLine=16777216 from rfl];have:301*j<=301*4:=Gr _ (by omega);omega
     walk_at"nus";have e7:intsOf cs++El k4 1 (k5+1)=intsOf (cs++(Ex (k5+1)).map (λi:Nat=>k4+(i:Int)*1)):=by simp only[intsOf,El,Ai,Ay];rfl
     rw[e7];refine⟨_,?_,_,_,_,p5,b7,cs++(Ex (k5+1)).map (λi:Nat=>k4+(i:Int)*1),rfl,rfl,?_,?_⟩
     ·exact .picks (by walk_at"picks")
     ·intro k hk;rcases Ao.mp hk with q|q
      ·exact J1 k q
      ·obtain⟨i,_,rfl⟩:=Af.mp q;omega
     ·rw[Ab,Ac,Fe,Nat.mul_succ];omega
    ·rintro r l m ⟨n,t,f,p',cc,cs,rfl,rfl,J1,N'⟩ hd
     try refine BZ.go (by assumption) ?_
     refine⟨rfl,_,_,_,_,_,_,rfl,hd.trans .snd,J1,?_⟩;rw[Es] at N';omega
   ·rintro r1 l1 ⟨n,t,f,p',cc,cs,rfl,hd,J1,N'⟩
    with_reducible refine Eg hd ?_
    walk_at"nus";refine Kt C TO (cl:=[]) (emit:=λC D=>Ft _ (.ref D) _) (by walk_at"compok") (λ_=>rfl) (λC D I=>rfl) ?_;walk_at"nus";refine Eh.of ⟨cc,_,_,_,rfl,.refl _,Ds C,?_,λC' D CO=>⟨[none,none],λi acc r' m=>∃(o':Option V) (ks:List Int),r'=[none,o']/\m=[(ra,y),(a,Io p'),(d,dI es),(o,.AV [])]/\acc=(ks.map λk:Int=>(k,V.bool true)).map iO/\∀k∈ks,0<=k/\k<=1114111,by walk_at"comp0",?_,?_,?_,?_⟩⟩
    ·rw[Bu];exact Aa N' (by decide)
    ·exact⟨none,[],rfl,rfl,rfl,λ_ h=>(nomatch h)⟩
    ·rintro i acc r' m' ⟨o',ks,rfl,rfl,rfl,_⟩;walk_at"comp"
    ·rintro y3 i dd acc r' m' G7 AQ KN KS hK ⟨o',ks,rfl,rfl,rfl,DL⟩ AL;obtain⟨k,hk,rfl⟩:=Jd AQ;refine Bt CO (by walk_at"upd") ⟨rfl,?_⟩;refine Rn ?_;walk_at"nus";walk_at"split"
     ·rename_i hle;walk_at"nus";refine⟨_,.refl _,some (.int k),ks++[k],rfl,rfl,?_,?_⟩
      ·rw[Ai,Ai];rfl
      ·intro z hz;rcases Ao.mp hz with q|q
       ·exact DL z q
       ·rw[Ae.mp q];exact⟨J1 k (Bd hk),of_decide_eq_true hle⟩
     ·walk_at"nus";exact⟨_,.refl _,some (.int k),ks,rfl,rfl,rfl,DL⟩
    ·rintro acc r' m' l' AL ⟨o',ks,rfl,rfl,rfl,DL⟩ hd;rw[Ac,Ac,Bu] at AL;walk_at"nus";refine yR hd (Uh C (.here .refl) (by rw[Ac];exact Aa AL (Aa N' (by decide))) λb8=>?_);have GK:=Xn (ks.map λk=>(k,V.bool true)) [];rw[Ac] at GK;walk_at"nus";refine Nl C TO (.here .refl) .I (by rw[Ac];exact Aa GK (by rw[show sizeLine=16777216 from rfl];show 0+ks.length<=_;omega)) λb9=>?_;walk_at"nus";have e9:(Rt [] (ks.map λk=>(k,V.bool true))).map (λe=>V.int e.1)=intsOf ((Rt [] (ks.map λk=>(k,V.bool true))).map (·.1)):=by unfold intsOf;rw[Ay];rfl
     rw[e9];refine Oh (.here .refl) (.I ⟨_,rfl⟩) (by rw[Bu,Ac];exact Aa GK (by rw[show sizeLine=16777216 from rfl];show 0+ks.length<=_;omega)) λIA B0 A1 EU=>?_;obtain⟨ms,rfl,pm,IS⟩:=gF (Sn _ [] Ly) A1 EU;have FH:B' ms:=⟨IS,λk hk=>by
      rcases dY _ _ (pm.mem_iff.mp hk) with q|q
      ·cases q
      ·rw[Ay] at q;obtain⟨k',FC,rfl⟩:=Af.mp q;exact DL k' FC,by rw[pm.length_eq,Ac];exact Aa GK (by show 0+ks.length<=_;omega)⟩
     walk_at"nus";refine Ik (.here .refl) (by rw[Bu];exact Aa FH.2.2 (by decide)) ?_;walk_at"nus";obtain⟨k2,H8,rfl⟩:∃k∈Pt,d2=.int k:=by simp only[Ag,Df,or_false] at hd2;rcases hd2 with rfl|rfl|rfl|rfl<;>exact⟨_,by decide,rfl⟩
     refine nM (by unfold dI;walk_at"put") (by rw[Ac];exact Aa hlen (Aa (m:=4) (by omega) (by decide))) ?_;rw[So (λcs=>V.tup (intsOf cs))];walk_at"nus";refine⟨_,?_,_,_,_,_,_,_,p',Fy es k2 ms,rfl,rfl,hI.put H8 FH,Aa (Sp ..) (by omega)⟩;exact .picks (by walk_at"picks")
  ·rintro r l m ⟨n,s2,cc,t,f,pp,p',es,rfl,rfl,hI,hlen⟩ hd
   try refine BZ.go (by assumption) ?_
   refine⟨rfl,_,_,_,_,_,_,_,_,rfl,hd.trans .snd,hI,?_⟩;rw[Es] at hlen;omega
 ·rintro r1 l1 ⟨n,s2,cc,t,f,pp,p',es,rfl,hd,hI,hlen⟩
  with_reducible refine Eg hd ?_
  walk_at"nus";refine Et (λr1 l1=>∃n s2 cc t f pp p' os,r1=[some (.ref a),some (.ref d),some (.ref o),n,s2,cc,t,f,pp]/\Bm l1 [(a,Io p'),(d,dI es),(o,dT os)]/\Zt os/\os.length<=6) (λK0 BV=>?_) ?_
  ·refine Jh C (λ_=>rfl) ?_;walk_at"nus";refine Bk C (by walk_at"picks") (Sm P (m:=6) (by decide) (by decide) λp1 n1 QK=>?_);walk_at"nus";refine Lc λra=>?_;have hr:=fA (a:=0) (b:=n1) (n:=n1) (by decide) (by omega) (by omega);refine⟨_,_,_,[(a,Io p1),(d,dI es),(o,dT [])],rfl,.picks (by walk_at"picks"),Il C (n:=n1) hr.1 hr.2,λi r m=>∃n s2 cc t f pp p' os,r=[some (.ref a),some (.ref d),some (.ref o),n,s2,cc,t,f,pp]/\m=[(a,Io p'),(d,dI es),(o,dT os)]/\Zt os/\os.length<=i,?_,?_,?_⟩
   ·exact⟨_,_,_,_,_,_,p1,[],rfl,rfl,⟨.nil,λ_ h=>(nomatch h),λ_ h=>(nomatch h)⟩,Ah _⟩
   ·rintro y i dd r m hy AQ K hK ⟨n,s2,cc,t,f,pp,p',os,rfl,rfl,PA,CY⟩;obtain⟨hi,rfl⟩:=Gk AQ;refine Bt C (by walk_at"upd") ⟨rfl,?_⟩;walk_at"nus";intro b1;walk_at"nus";refine Bk C (by walk_at"picks") (Oa P (by decide) (by decide) λp2 d2 hd2=>?_);walk_at"nus";intro b2;walk_at"nus";refine Bk C (by walk_at"picks") (Oa P (by decide) (by decide) λp3 d3 QO=>?_);walk_at"nus";intro b3;walk_at"nus";refine Bk C (by walk_at"picks") (Oa P (by decide) (by decide) λp4 d4 OW=>?_);obtain⟨k2,k3,rfl,rfl,hk⟩:∃k2 k3:Int,d2=.int k2/\d3=.int k3/\[k2,k3]∈Kq:=by simp only[Ag,Df,or_false] at hd2 QO;rcases hd2 with rfl|rfl|rfl|rfl<;>rcases QO with rfl|rfl|rfl|rfl|rfl|rfl<;>exact⟨_,_,rfl,rfl,by decide⟩
    obtain⟨k4,rfl,TX⟩:∃k4:Int,d4=.int k4/\k4∈Qj:=by simp only[Ag,Df,or_false] at OW;rcases OW with rfl|rfl|rfl|rfl<;>exact⟨_,rfl,by decide⟩
    walk_at"nus";refine vC (k:=[k2,k3]) C (by unfold dT;walk_at"put") (by rw[Ac];exact Aa CY (Aa (m:=6) (by omega) (by decide))) ?_;rw[So V.int];walk_at"nus";refine⟨_,?_,_,_,_,_,_,_,p4,Fy os [k2,k3] k4,rfl,rfl,PA.put hk TX,Aa (Sp ..) (by omega)⟩;exact .picks (by walk_at"picks")
   ·rintro r l m ⟨n,s2,cc,t,f,pp,p',os,rfl,rfl,PA,CY⟩ hd
    try refine BZ.go (by assumption) ?_
    refine⟨rfl,_,_,_,_,_,_,_,_,rfl,hd.trans .snd,PA,?_⟩;rw[Es] at CY;omega
  ·rintro r1 l1 ⟨n,s2,cc,t,f,pp,p',os,rfl,hd,PA,CY⟩
   with_reducible refine Eg hd ?_
   walk_at"nus";walk_at"nus";exact Eu.of [] (h _ _ _ _ _ hI hlen PA CY)
theorem Kk {K α β:Type}[DecidableEq K](f:α->β)(k:K):∀es:List (K×α),Ey (es.map λe=>(e.1,f e.2)) k=(Ey es k).map f
 |[]=>rfl
 |(a,u)::r=>by k_with"o"=>
  rw[Aj,Ey,Ey];walk_at"split"
  ·rfl
  ·exact Kk f k r
noncomputable def Ig (v dv d o:Addr)(es:List (Int×List Int))(os:List (List Int×Int)):Led:=
 [(v,.inst 299 dv),(dv,.ns [("defaults",.ref d),("others",.ref o)]),(d,dI es),(o,dT os)]
noncomputable def Be (es:List (Int×List Int))(k:Int):List Int:=(Ey es k).getD []
noncomputable def Cn (os:List (List Int×Int))(k:List Int):Int:=(Ey os k).getD 0
theorem aI (P:Prg U w T){x dx d o:Addr}(h:Q .none [(x,.inst 299 dx),(dx,.ns [("defaults",.ref d),("others",.ref o)])]) :
  Cg U w T (lev+1) (.ref 277) [.ref x,.ref d,.ref o] [(x,.inst 299 dx),(dx,.ns [])] Q X:=by k_with"o"=>
 have TO:=P.ok;refine P.call 15 rfl ["self","defaults","others"] (λpm cd vals hv=>?_) rfl λpm cd A outer L C=>?_
 ·obtain⟨x,y,z,rfl⟩:=mN hv;rfl
 refine⟨[some (.ref x),some (.ref d),some (.ref o)],.cons .loc (.cons (.there .loc) (.cons (.there (.there .loc)) .nil)),?_⟩;refine Ct ?_;walk_at"nus";walk_at"nus";exact Eu.of [] h
theorem Wj (es:List (Int×List Int))(k:Int):(Ey (es.map λe=>(e.1,V.tup (intsOf e.2))) k).getD (V.tup [])=.tup (intsOf (Be es k)):=by k_with"o"=>rw[Kk (λcs=>V.tup (intsOf cs)) k es];unfold Be;cases Ey es k<;>rfl
theorem jD (os:List (List Int×Int))(k:List Int):(Ey (os.map λe=>(e.1,V.int e.2)) k).getD (V.int 0)=.int (Cn os k):=by k_with"o"=>rw[Kk V.int k os];unfold Cn;cases Ey os k<;>rfl
theorem Wi (P:Prg U w T){v dv d o:Addr}{es:List (Int×List Int)}{sel code:Int}
  (h:Q (.bool ((Be es sel).any (·==code))) [(v,.inst 299 dv),(dv,.ns [("defaults",.ref d),("others",.ref o)]),(d,dI es)]) :
  Cg U w T (lev+1) (.ref 284) [.ref v,.int sel,.int code] [(v,.inst 299 dv),(dv,.ns [("defaults",.ref d),("others",.ref o)]),(d,dI es)] Q X:=by k_with"o"=>
 have TO:=P.ok;refine P.call 16 rfl ["self","selector","code"] (λpm cd vals hv=>?_) rfl λpm cd A outer L C=>?_
 ·obtain⟨x,y,z,rfl⟩:=mN hv;rfl
 refine⟨[some (.ref v),some (.int sel),some (.int code)],.cons .loc (.cons (.there .loc) (.cons (.there (.there .loc)) .nil)),?_⟩;refine Gm ?_;walk_at"nus";refine aB P (by unfold dI;walk_at"has") ?_;rw[Wj];refine cA ?_;walk_at"nus";exact Eu.of [] h
noncomputable def jI (es:List (Int×List Int))(os:List (List Int×Int))(sel code:Int):V:=
 if (Be es sel).any (·==code) then .str "default" else if Cn os [sel,code]==0 then .none else .int (Cn os [sel,code])
theorem yA (P:Prg U w T){v dv d o:Addr}{es:List (Int×List Int)}{os:List (List Int×Int)}{sel code:Int}
  (h:Q (jI es os sel code) (Ig v dv d o es os)):Cg U w T (lev+2) (.ref 310) [.ref v,.int sel,.int code] (Ig v dv d o es os) Q X:=by k_with"o"=>
 have TO:=P.ok;unfold Ig at h ⊢;refine P.call 19 rfl ["variations","selector","code"] (λpm cd vals hv=>?_) rfl λpm cd A outer L C=>?_
 ·obtain⟨x,y,z,rfl⟩:=mN hv;rfl
 refine⟨[some (.ref v),some (.int sel),some (.int code),none],.cons .loc (.cons (.there .loc) (.cons (.there (.there .loc)) .nil)),?_⟩;refine Dn (Jf ?_);walk_at"nus";refine Bk C (by walk_at"picks") (Wi P ?_);walk_at"nus";unfold jI at h;walk_at"split"
 ·rename_i e;rw[if_pos e] at h;walk_at"nus";walk_at"nus";exact Eu.of [] h
 ·rename_i e;rw[if_neg e] at h;walk_at"nus";refine kJ (k:=[sel,code]) C TO (by unfold dT;walk_at"has") ?_;rw[jD];walk_at"nus";refine Ol ?_;walk_at"nus";walk_at"split"
  ·rename_i e;rw[if_pos e] at h;walk_at"nus";walk_at"nus";exact Eu.of [] h
  ·rename_i e;rw[if_neg e] at h;walk_at"nus";walk_at"nus";exact Eu.of [] h
def PK (k:List Int):Prop:=∃a b:Int,k=[a,b]/\0<=a/\0<=b/\b<16777216
noncomputable def Rh:List Int->Int
 |[a,b]=>a*16777216+b
 |_=>0
noncomputable def Gv (k:List Int):Int:=k.getD 0 0
noncomputable def Mt (k:List Int):Int:=k.getD 1 0
noncomputable def Fh (ks:List (List Int)):List V:=ks.map λk=>.tup (intsOf k)
def Qo (os:List (List Int×Int))(ks:List (List Int)):Prop:=ks.Perm (os.map (·.1))/\ks.Pairwise λa b=>Rh a<Rh b
noncomputable def Dd (es:List (Int×List Int))(os:List (List Int×Int))(k:List Int):Bool:=Cn os k != 0&&!((Be es (Gv k)).any (·==Mt k))
theorem PK.key {k:List Int}(h:PK k):Mq (.tup (intsOf k))=Rh k:=by k_with"o"=>obtain⟨a,b,rfl,_⟩:=h;rfl
theorem PK.inj {k j:List Int}(h:PK k)(g:PK j)(e:Rh k=Rh j):k=j:=by k_with"o"=>
 obtain⟨a,b,rfl,h1,h2,h3⟩:=h;obtain⟨a',b',rfl,g1,g2,g3⟩:=g;have e:a*16777216+b=a'*16777216+b':=e;have:a=a':=by omega
 subst this;have:b=b':=by omega
 subst this;rfl
theorem Ny {ks:List (List Int)}(h:(Fh ks)[i]?=some d):∃k,ks[i]?=some k/\d=.tup (intsOf k):=by k_with"o"=>
 unfold Fh at h;rw[Bw] at h;cases e:ks[i]? with
 |none=>rw[e] at h;cases h
 |some k=>rw[e] at h;injection h with h;exact⟨k,rfl,h.symm⟩
theorem rB {ks:List (List Int)}(h:ds.Perm (Fh ks)):∃ms,ds=Fh ms/\ms.Perm ks:=by k_with"o"=>
 have un:∀k:List Int,(intsOf k).map Mq=k:=λk=>by unfold intsOf;rw[Ay];exact Na k
 let f:V->List Int:=λd=>match d with | .tup l=>l.map Mq|_=>[]
 have BO:∀d∈ds,V.tup (intsOf (f d))=d:=λd hd=>by obtain⟨k,_,rfl⟩:=Af.mp (h.mem_iff.mp hd);show V.tup (intsOf ((intsOf k).map Mq))=_;rw[un]
 refine⟨ds.map f,?_,?_⟩
 ·unfold Fh;rw[Ay];exact(Na ds).symm.trans (Fi λd hd=>(BO d hd).symm)
 ·have:=h.map f;unfold Fh at this;rw[Ay] at this;exact this.trans (by rw[show(f∘λk=>V.tup (intsOf k))=id from funext λk=>un k,Na])
theorem pL {os:List (List Int×Int)}(hk:∀e∈os,PK e.1)(hn:(os.map (·.1)).Nodup)(h:ds.Perm (Fh (os.map (·.1))))(hp:ds.Pairwise λx y=>Mq x<=Mq y):∃ks,ds=Fh ks/\Qo os ks:=by k_with"o"=>
 obtain⟨ms,rfl,pm⟩:=rB h;have K8:∀k∈ms,PK k:=λk hm=>by obtain⟨e,he,rfl⟩:=Af.mp (pm.mem_iff.mp hm);exact hk e he
 refine⟨ms,rfl,pm,?_⟩;unfold Fh at hp;have h2:=(Lx (f:=λk=>V.tup (intsOf k))).mp hp;have BK:ms.Pairwise (·≠·):=pm.nodup_iff.mpr hn;refine(h2.and BK).imp_of_mem λ{a b} ha hb h=>?_;rw[(K8 a ha).key,(K8 b hb).key] at h;rcases Int.lt_or_eq_of_le h.1 with q|q
 ·exact q
 ·exact absurd ((K8 a ha).inj (K8 b hb) q) h.2
theorem Rm {K α:Type}[DecidableEq K]{es:List (K×α)}{k:K}(h:k∈es.map (·.1)):∃v,Ey es k=some v:=by k_with"o"=>
 cases e:Ey es k with
 |none=>exact absurd h (Nt.mp e)
 |some v=>exact⟨v,rfl⟩
theorem tR (P:Prg U w T){v dv d o:Addr}{es:List (Int×List Int)}{os:List (List Int×Int)}(hk:∀e∈os,PK e.1)(hn:(os.map (·.1)).Nodup)(hz:os.length<=1000)
  (h:∀b ks,Qo os ks->Q (.ref b) ((b,.list (Fh (ks.filter (Dd es os))))::Ig v dv d o es os)):Cg U w T (lev+2) (.ref 291) [.ref v] (Ig v dv d o es os) Q X:=by k_with"o"=>
 have TO:=P.ok;unfold Ig at h ⊢;refine P.call 17 rfl ["self"] (λpm cd vals hv=>?_) rfl λpm cd A outer L C=>?_
 ·obtain⟨x,rfl⟩:=Qh hv;rfl
 refine⟨[some (.ref v),none,none],.cons .loc .nil,?_⟩;refine Ct ?_;walk_at"nus";intro b;walk_at"nus";refine Et (λr1 l1=>∃o' ks,Qo os ks/\r1=[some (.ref v),some (.ref b),o']/\Bm l1 [(b,.list (Fh (ks.filter (Dd es os)))),(v,.inst 299 dv),(dv,.ns [("defaults",.ref d),("others",.ref o)]),(d,dI es),(o,dT os)]) (λK0 BV=>?_) ?_
 ·refine Jh C (λ_=>rfl) ?_;walk_at"nus";have LF:Keyed (dT os) (Fh (os.map (·.1))):=by
   unfold dT Fh;rw[Ay];have:(os.map λe=>(e.1,V.int e.2)).map (λe=>V.tup (intsOf e.1))=os.map ((λk=>V.tup (intsOf k))∘(·.1)):=by rw[Ay];rfl
   rw[<-this];exact .T
  refine Oi C TO (by walk_at"has") LF (.P ?_) (by unfold Fh;rw[Ac,Ac];exact Aa hz (by decide)) λb2 B0 A1 EU=>?_
  ·intro x hx;obtain⟨k,FC,rfl⟩:=Af.mp hx;obtain⟨e,he,rfl⟩:=Af.mp FC;obtain⟨a,b,e1,h1,h2,h3⟩:=hk e he;rw[e1];exact⟨a,b,rfl,h1,h2,h3⟩
  obtain⟨ks,rfl,ord⟩:=pL hk hn A1 EU;refine⟨_,_,_,[(b,.list (Fh [])),(v,.inst 299 dv),(dv,.ns [("defaults",.ref d),("others",.ref o)]),(d,dI es),(o,dT os)],rfl,.picks (by walk_at"picks"),Ds C,
   λi r m=>∃o',r=[some (.ref v),some (.ref b),o']/\m=[(b,.list (Fh ((ks.take i).filter (Dd es os)))),(v,.inst 299 dv),(dv,.ns [("defaults",.ref d),("others",.ref o)]),(d,dI es),(o,dT os)],?_,?_,?_⟩
  ·exact⟨_,rfl,rfl⟩
  ·rintro y i dd r m hy AQ K hK ⟨o',rfl,rfl⟩;obtain⟨k,DC,rfl⟩:=Ny AQ;have A8:k∈os.map (·.1):=ord.1.mem_iff.mp (Bd DC);obtain⟨e,he,I9⟩:=Af.mp A8;obtain⟨ka,kb,rfl,WX,WW,OD⟩:PK k:=I9▸hk e he;refine Bt C (by walk_at"upd") ⟨rfl,?_⟩;refine Dn (Jf ?_);walk_at"nus";obtain⟨g,hg⟩:=Rm A8;have GY:Cn os [ka,kb]=g:=by unfold Cn;rw[hg];rfl
   refine Qm (k:=[ka,kb]) C (λ_ _=>rfl) (by unfold dT;walk_at"has") (d:=.int g) (by rw[Kk V.int,hg];rfl) ?_;walk_at"nus";have fin:∀bb:Bool,Dd es os [ka,kb]=bb->Fh ((ks.take (i+1)).filter (Dd es os))=Fh ((ks.take i).filter (Dd es os))++(if bb then [.tup (intsOf [ka,kb])] else []):=λbb hb=>by
    rw[take_succ_filter _ _ _ _ DC,hb];cases bb
    ·simp[Fh]
    ·simp[Fh]
   walk_at"split"
   ·rename_i e1;walk_at"nus";refine Bk C (by walk_at"picks") (Wi P ?_);walk_at"nus";walk_at"split"
    ·rename_i e2;walk_at"nus"
     rotate_left
     ·refine Aa ?_ (Aa hz (by decide));unfold Fh;rw[Ac];refine Aa (Bz ..) (Aa (Hz ..) ?_);have:=Gb DC;rw[ord.1.length_eq,Ac] at this;exact Fz this
     refine⟨_,?_,some (.tup (intsOf [ka,kb])),rfl,rfl⟩;rw[fin true (by unfold Dd;rw[GY];exact Bp.mpr ⟨e1,e2⟩)];exact .picks (by walk_at"picks")
    ·rename_i e2;walk_at"nus";refine⟨_,?_,some (.tup (intsOf [ka,kb])),rfl,rfl⟩;rw[fin false (by unfold Dd;rw[GY];exact Jl.mpr λq=>e2 (Bp.mp q).2),if_neg (by decide),Au];exact .picks (by walk_at"picks")
   ·rename_i e1;walk_at"nus";refine⟨_,?_,some (.tup (intsOf [ka,kb])),rfl,rfl⟩;rw[fin false (by unfold Dd;rw[GY];exact Jl.mpr λq=>e1 (Bp.mp q).1),if_neg (by decide),Au];exact .picks (by walk_at"picks")
  ·rintro r l m ⟨o',rfl,rfl⟩ hd
   try refine BZ.go (by assumption) ?_
   refine⟨rfl,_,ks,ord,rfl,hd.trans ?_⟩;unfold Fh;rw[Ac,Bj];exact .snd
 ·rintro r1 l1 ⟨o',ks,ord,rfl,hd⟩;refine Eg hd ?_;walk_at"nus";walk_at"nus";exact Eu.of [] (h _ _ ord)
def P0 (cs:List Int):Prop:=cs.Pairwise (· < ·)
def Ab0 (es:List (Int×List Int))(ks:List Int):Prop:=ks.Perm (es.map (·.1))/\ks.Pairwise (· < ·)
noncomputable def Li (es:List (Int×List Int))(k:Int):V:=.tup [.int k,.tup (intsOf (Be es k))]
noncomputable def Ry (os:List (List Int×Int))(k:List Int):V:=.tup [.tup (intsOf k),.int (Cn os k)]
noncomputable def tH (es:List (Int×List Int))(os:List (List Int×Int))(ss:List Int)(ks:List (List Int)):V:=
 .tup [.tup ((ss.filter λk=>!(Be es k).isEmpty).map (Li es)),.tup ((ks.filter (Dd es os)).map (Ry os))]
theorem CP (P:Prg U w T){v dv d o:Addr}{es:List (Int×List Int)}{os:List (List Int×Int)}(hk:∀e∈os,PK e.1)(hn:(os.map (·.1)).Nodup)(hz:os.length<=1000)
  (II:(es.map (·.1)).Nodup) (JP:es.length<=1000) (NM:∀e∈es,e.2.length<=1000000)
  (h:∀ss ks,Ab0 es ss->Qo os ks->Q (tH es os ss ks) (Ig v dv d o es os)):Cg U w T (lev+3) (.ref 296) [.ref v] (Ig v dv d o es os) Q X:=by k_with"o"=>
 have TO:=P.ok;refine P.call 18 rfl ["self"] (λpm cd vals hv=>?_) rfl λpm cd A outer L C=>?_
 ·obtain⟨x,rfl⟩:=Qh hv;rfl
 refine⟨[some (.ref v),none],.cons .cell .nil,?_⟩;refine Dn ?_;refine Sz C TO (cl:=[("self",L+1)]) (emit:=λC D=>Ft _ (.ref D) _) (by walk_at"compok") (λ_=>rfl) rfl (λC D I=>rfl) ?_;walk_at"nus";unfold Ig at h ⊢;have Q3:∀k,k∈es.map (·.1)->Ey (es.map λe=>(e.1,V.tup (intsOf e.2))) k=some (.tup (intsOf (Be es k)))/\(Be es k).length<=1000000:=λk hk=>by obtain⟨cs,hc⟩:=Rm hk;rw[Kk (λcs=>V.tup (intsOf cs)) k es];unfold Be;rw[hc];exact⟨rfl,NM _ (Lo hc)⟩
 have LF:Keyed (dI es) (intsOf (es.map (·.1))):=by
  unfold dI intsOf;rw[Ay];have:(es.map λe=>(e.1,V.tup (intsOf e.2))).map (λe=>V.int e.1)=es.map (V.int∘(·.1)):=by rw[Ay];rfl
  rw[<-this];exact .I
 refine Oi C TO (by walk_at"has") LF (.I ⟨_,rfl⟩) (by rw[Bu,Ac];exact Aa JP (by decide)) λb2 B0 A1 EU=>?_;obtain⟨ss,rfl,pm,IS⟩:=gF II A1 EU;have ord:Ab0 es ss:=⟨pm,IS⟩;have MO:ss.length<=1000:=by rw[pm.length_eq,Ac];exact JP
 refine Eh.of ⟨b2,_,_,_,rfl,.refl _,Ds C,by rw[Bu];exact Aa MO (by decide),λC' D CO=>⟨[none,none,some (.ref v)],λi acc r' m=>∃(o':Option V),r'=[none,o',some (.ref v)]/\
   m=[(v,.inst 299 dv),(dv,.ns [("defaults",.ref d),("others",.ref o)]),(d,dI es),(o,dT os)]/\acc=((ss.take i).filter λk=>!(Be es k).isEmpty).map (Li es),by walk_at"comp0",⟨none,rfl,rfl,rfl⟩,?_,?_,?_⟩⟩
 ·rintro i acc r' m' ⟨o',rfl,rfl,rfl⟩;walk_at"comp"
 ·rintro y3 i dd acc r' m' G7 AQ KN KS hK ⟨o',rfl,rfl,rfl⟩ AL;obtain⟨k,DC,rfl⟩:=Jd AQ;have A8:k∈es.map (·.1):=pm.mem_iff.mp (Bd DC);obtain⟨DB,FG⟩:=Q3 k A8;refine Bt CO (by walk_at"upd") ⟨rfl,?_⟩;refine Rn ?_;walk_at"nus";refine Sw (λ_ _=>rfl) (by unfold dI;walk_at"has") DB ?_;refine sU (by rw[Bu];omega) ?_;have fin:∀bb:Bool,(!(Be es k).isEmpty)=bb->((ss.take (i+1)).filter λk=>!(Be es k).isEmpty).map (Li es)=((ss.take i).filter λk=>!(Be es k).isEmpty).map (Li es)++(if bb then [Li es k] else []):=λbb hb=>by rw[take_succ_filter _ _ _ _ DC,hb];cases bb<;>simp
  rw[show(intsOf (Be es k)).isEmpty=(Be es k).isEmpty from by unfold intsOf;cases Be es k<;>rfl];walk_at"split"
  ·rename_i e1;walk_at"nus";refine Sw (λ_ _=>rfl) (by unfold dI;walk_at"has") DB ?_;walk_at"nus";refine⟨_,.refl _,some (.int k),rfl,rfl,?_⟩;rw[fin true e1];rfl
  ·rename_i e1;walk_at"nus";refine⟨_,.refl _,some (.int k),rfl,rfl,?_⟩;rw[fin false (Jl.mpr e1),if_neg (by decide),Au]
 ·rintro acc r' m' l' AL ⟨o',rfl,rfl,rfl⟩ hd;rw[Bu] at AL;rw[Bu,Bj] at hd;rw[Bj] at AL;refine⟨_,by walk_at"upd",?_⟩;refine Eg hd ?_;walk_at"nus";have CG:(((ss.filter λk=>!(Be es k).isEmpty)).map (Li es)).length<=sizeLine:=by rw[Ac];exact Aa (Bz ..) (Aa MO (by decide))
  refine Ik (by walk_at"has") CG ?_;walk_at"nus";refine Kt C TO (cl:=[("self",L+1)]) (emit:=λC D=>Ft _ (.ref D) _) (by walk_at"compok") (λ_=>rfl) (λC D I=>rfl) ?_;walk_at"nus";refine Bk C (by unfold Ig;walk_at"picks") (tR P hk hn hz λb4 ks EI=>?_);have DL:ks.length<=1000:=by rw[EI.1.length_eq,Ac];exact hz
  have I3:(Fh (ks.filter (Dd es os))).length<=1000:=by unfold Fh;rw[Ac];exact Aa (Bz ..) DL
  refine Eh.of ⟨b4,_,_,Ig v dv d o es os,rfl,.picks (by unfold Ig;walk_at"picks"),Ds C,Aa I3 (by decide),λC2 D2 KA=>⟨[none,none,some (.ref v)],λi acc r' m=>∃(o':Option V),r'=[none,o',some (.ref v)]/\
   m=Ig v dv d o es os/\acc=((ks.filter (Dd es os)).take i).map (Ry os),by walk_at"comp0",⟨none,rfl,rfl,rfl⟩,?_,?_,?_⟩⟩
  ·rintro i acc r' m' ⟨o',rfl,rfl,rfl⟩;walk_at"comp"
  ·rintro y3 i dd acc r' m' G7 AQ KN KS hK ⟨o',rfl,rfl,rfl⟩ AL;obtain⟨k,DC,rfl⟩:=Ny AQ;have A8:k∈os.map (·.1):=EI.1.mem_iff.mp (Bb.mp (Bd DC)).1;obtain⟨g,hg⟩:=Rm A8;have GY:Cn os k=g:=by unfold Cn;rw[hg];rfl
   unfold Ig;refine Bt KA (by walk_at"upd") ⟨rfl,?_⟩;refine Gx ?_;walk_at"nus";refine Qm (k:=k) KA (λ_ _=>rfl) (by unfold dT;walk_at"has") (d:=.int g) (by rw[Kk V.int,hg];rfl) ?_;walk_at"nus";refine⟨_,.refl _,some (.tup (intsOf k)),rfl,rfl,?_⟩;rw[Cc,DC,Ai];show _=_++[Ry os k];unfold Ry;rw[GY]
  ·rintro acc r' m' l' J3 ⟨o',rfl,rfl,rfl⟩ hd2;have hlen:(Fh (ks.filter (Dd es os))).length=(ks.filter (Dd es os)).length:=Ac ..;rw[hlen,Bj] at hd2;refine Mj hd2 ?_;walk_at"nus";refine Ik (by walk_at"has") (by rw[Ac,<-hlen];exact Aa I3 (by decide)) ?_;walk_at"nus";walk_at"nus";exact Eu.picks (by unfold Ig;walk_at"picks") (h _ _ ord EI)
noncomputable def Ba (ps:List (Int×Int)):List V:=ps.map λp=>.tup [.int p.1,.int p.2]
noncomputable def Ki (acc:List (Int×Int))(k:Int):List (Int×Int):=
 match acc.getLast? with
 |some p=>if k=p.1+p.2+1/\p.2<255 then acc.dropLast++[(p.1,p.2+1)] else acc++[(k,0)]
 |none=>acc++[(k,0)]
noncomputable def Bn (cs:List Int):List (Int×Int):=cs.foldl Ki []
theorem Sf {α:Type}(l:List α):l=[]\/∃init x,l=init++[x]:=by k_with"o"=>
 rcases Hf l with h|⟨i,x,h⟩
 ·exact .inl h
 ·exact .inr ⟨i,x,by rw[h,Hg]⟩
theorem Qu (init:List (Int×Int))(p:Int×Int)(k:Int):Ki (init++[p]) k=if k=p.1+p.2+1/\p.2<255 then init++[(p.1,p.2+1)] else init++[p]++[(k,0)]:=by k_with"o"=>unfold Ki;rw[List.getLast?_concat];simp only[List.dropLast_concat]
theorem qV (acc:List (Int×Int))(k:Int):(Ki acc k).length<=acc.length+1:=by k_with"o"=>
 unfold Ki;walk_at"split"
 ·walk_at"split"
  ·rw[Ab,List.length_dropLast];show acc.length-1+1<=_;omega
  ·rw[Ab];exact Ah _
 ·rw[Ab];exact Ah _
theorem dV:∀(cs:List Int) (acc:List (Int×Int)),(cs.foldl Ki acc).length<=acc.length+cs.length
 |[]=>λacc=>Ah _
 |k::cs=>λacc=>by k_with"o"=>have h1:=dV cs (Ki acc k);have h2:=qV acc k;rw[An,Ec];omega
theorem Iz (cs:List Int):(Bn cs).length<=cs.length:=by k_with"o"=>exact(Aa (dV cs []) (by show 0+_<=_;omega))
theorem fZ (P:Prg U w T){cs:List Int}(hz:cs.length<=1000000)(h:∀b,Q (.ref b) ((b,.list (Ba (Bn cs)))::l)):Cg U w T (lev+1) (.ref 352) [.tup (intsOf cs)] l Q X:=by k_with"o"=>
 have TO:=P.ok;refine P.call 25 rfl ["codes"] (λpm cd vals hv=>?_) rfl λpm cd A outer L C=>?_
 ·obtain⟨x,rfl⟩:=Qh hv;rfl
 refine⟨[some (.tup (intsOf cs)),none,none],.cons .loc .nil,?_⟩;refine Ct ?_;walk_at"nus";intro b;walk_at"nus";refine Et (λr1 l1=>∃o',r1=[some (.tup (intsOf cs)),some (.ref b),o']/\Bm l1 ((b,.list (Ba (Bn cs)))::l)) (λK0 BV=>?_) ?_
 ·refine aD C (λ_=>rfl) ?_;walk_at"nus";refine⟨_,Tq C,λi r l1=>∃o',r=[some (.tup (intsOf cs)),some (.ref b),o']/\Bm l1 ((b,.list (Ba (Bn (cs.take i))))::l),⟨none,rfl,.refl _⟩,?_,?_⟩
  ·rintro i dd r l1 AQ K hK ⟨o',rfl,hd⟩;obtain⟨k,DC,rfl⟩:=Jd AQ;refine Pf hd (Bt C (by walk_at"upd") ?_);refine Dn (Jf ?_);walk_at"nus";intro b2;generalize AL:Bn (cs.take i)=acc;have hlen:acc.length<=1000000:=by rw[<-AL];exact Aa (Iz _) (Aa (Hz ..) (Fz (Cv (Gb DC) hz)))
   have DK:Bn (cs.take (i+1))=Ki acc k:=by rw[<-AL];exact Iu DC
   refine Qn C (.there (.here .refl)) (.here .refl) (λd hd=>by obtain⟨p,_,rfl⟩:=Af.mp hd;exact Xf _ _) ?_;walk_at"nus";rcases Sf acc with rfl|⟨init,⟨f,m⟩,rfl⟩
   ·rw[show(!(Ba []).isEmpty)=false from rfl];walk_at"nus"
    ·rw[DK];walk_at"drop"
    ·exact Ca _
   ·have hl:(Ba (init++[(f,m)])).length=init.length+1:=by unfold Ba;rw[Ac,Ab];rfl
    have hx:(Ba (init++[(f,m)]))[((-1:Int)+(Ba (init++[(f,m)])).length).toNat]?=some (.tup [.int f,.int m]):=by rw[hl,show((-1:Int)+((init.length+1:Nat):Int)).toNat=init.length from by omega];unfold Ba;rw[Ai,Pj (by rw[Ac];exact Ah _),Ac,Mk];rfl
    rw[show(!(Ba (init++[(f,m)])).isEmpty)=true from by unfold Ba;simp];have sub:∀{ae be:Expr} {r:Rg} {l2:Led} {Q:V->Led->Prop},(∀o i,subscripted be false o i=operate [o,i] (getItem o i))->AP l2 b (.list (Ba (init++[(f,m)])))->Q (.tup [.int f,.int m]) l2->
      W2 U w T (Fu (Jp (Dx 22) (Str.ofString "default_ranges") Value.none pm cd) 352 A outer L lev) (subscriptTail ae be) (.ref b) (.int (-1)) r l2 Q X:=λh1 h2 h3=>
     Zm h1 h2 (by decide) (by rw[hl];omega) (by decide) hx h3
    have H':(Ba (init++[(f,m)])).length<=sizeLine:=by unfold Ba;rw[Ac];exact Aa hlen (by decide)
    have AM:=Qu init (f,m) k;have SR:(Ba (init++[(f,m)])).set ((-1:Int)+(Ba (init++[(f,m)])).length).toNat (.tup [.int f,.int (m+1)])=Ba (init++[(f,m+1)]):=by rw[hl,show((-1:Int)+((init.length+1:Nat):Int)).toNat=init.length from by omega];unfold Ba;rw[Ai,Ai,oX _ _ (by rw[Ac];exact Ah _),Ac,Mk];rfl
    walk_at"nus";refine sub (λ_ _=>rfl) (by walk_at"has") ?_;walk_at"nus";refine sub (λ_ _=>rfl) (by walk_at"has") ?_;walk_at"nus";walk_at"split"
    ·rename_i e1;have e1:=beq_iff_eq.mp e1;walk_at"nus";refine sub (λ_ _=>rfl) (by walk_at"has") ?_;walk_at"nus";walk_at"split"
     ·rename_i e2;have e2:=of_decide_eq_true e2;rw[if_pos ⟨e1,e2⟩] at AM;walk_at"nus";refine sub (λ_ _=>rfl) (by walk_at"has") ?_;walk_at"nus";refine sub (λ_ _=>rfl) (by walk_at"has") ?_;walk_at"nus";refine cV (by walk_at"put") (by decide) (by rw[hl];omega) (by decide) ?_;rw[SR];walk_at"nus";rw[DK,AM];walk_at"drop"
     ·rename_i e2;rw[if_neg λq=>e2 (decide_eq_true q.2)] at AM;walk_at"nus"
      ·rw[DK,AM];unfold Ba;rw[Ai (l₂:=[(k,0)])];walk_at"drop"
      ·exact H'
    ·rename_i e1;rw[if_neg λq=>e1 (beq_iff_eq.mpr q.1)] at AM;walk_at"nus"
     ·rw[DK,AM];unfold Ba;rw[Ai (l₂:=[(k,0)])];walk_at"drop"
     ·exact H'
  ·rintro r l1 ⟨o',rfl,hd⟩
   try refine BZ.go (by assumption) ?_
   rw[Bu,Bj] at hd;exact⟨rfl,_,rfl,hd⟩
 ·rintro r1 l1 ⟨o',rfl,hd⟩
  with_reducible refine Eg hd ?_
  walk_at"nus";walk_at"nus";exact Eu.of [] (h _)
theorem Xj {cs:List Int}{k:Int}(h:cs[i]?=some k):(intsOf cs)[i]?=some (.int k):=by k_with"o"=>unfold intsOf;rw[Bw,h];rfl
theorem fS (P:Prg U w T){cs:List Int}(hz:cs.length<=1000000)(h:∀b,Q (.ref b) ((b,.list (Ba (Bn cs)))::l)):Cg U w T (lev+1) (.ref 411) [.tup (intsOf cs)] l Q X:=by k_with"o"=>
 have TO:=P.ok;refine P.call 34 rfl ["codes"] (λpm cd vals hv=>?_) rfl λpm cd A outer L C=>?_
 ·obtain⟨x,rfl⟩:=Qh hv;rfl
 refine⟨[some (.tup (intsOf cs)),none,none,none],.cons .loc .nil,?_⟩;refine Ct ?_;refine Sy (names:=["found","at"]) C rfl rfl ?_;walk_at"nus";intro b;walk_at"nus";refine⟨_,_,rfl,rfl,.cons (by walk_at"upd") (.cons (by walk_at"upd") .nil),?_⟩;refine Et (λr1 l1=>(∃p o,r1=[some (.tup (intsOf cs)),some (.ref b),p,o])/\Bm l1 ((b,.list (Ba (Bn cs)))::l)) (λK0 BV=>?_) ?_
 ·refine eP C (λn r1 l1=>∃(p:Nat) (o:Option V),n=cs.length-p/\p<=cs.length/\r1=[some (.tup (intsOf cs)),some (.ref b),some (.int p),o]/\Bm l1 ((b,.list (Ba (Bn (cs.take p))))::l)/\
   ∀k,cs[p]?=some k->Ki (Bn (cs.take p)) k=Bn (cs.take p)++[(k,0)]) cs.length ⟨0,none,rfl,Ca _,rfl,.refl _,λk _=>rfl⟩ ?_
  rintro n r1 l1 ⟨p,o,rfl,hp,rfl,hd,IK⟩;refine qI hd ?_;walk_at"nus";refine Oj (by rw[Bu];omega) ?_;rw[Bu];walk_at"nus";walk_at"split"
  ·rename_i e1;have e1:p<cs.length:=by have:=of_decide_eq_true e1;omega
   obtain⟨k,hk⟩:∃k,cs[p]?=some k:=⟨_,Cs e1⟩;have cw:Bn (cs.take (p+1))=Bn (cs.take p)++[(k,0)]:=(Iu hk).trans (IK k hk);walk_at"nus";refine Et (λr2 l2=>∃q:Nat,1<=q/\p+q<=cs.length/\r2=[some (.tup (intsOf cs)),some (.ref b),some (.int p),some (.int q)]/\Bm l2 ((b,.list (Ba (Bn (cs.take p))))::l)/\
    Bn (cs.take (p+q))=Bn (cs.take p)++[(k,(q:Int)-1)]/\∀k',cs[p+q]?=some k'->¬(k'=k+((q:Int)-1)+1/\(q:Int)-1<255)) (λK0 BV=>?_) ?_
   ·refine eP C (λn r2 l2=>∃q:Nat,n=cs.length-q/\1<=q/\p+q<=cs.length/\r2=[some (.tup (intsOf cs)),some (.ref b),some (.int p),some (.int q)]/\Bm l2 ((b,.list (Ba (Bn (cs.take p))))::l)/\
     Bn (cs.take (p+q))=Bn (cs.take p)++[(k,(q:Int)-1)]) (cs.length-1) ⟨1,rfl,Ah _,e1,rfl,.refl _,cw⟩ ?_
    rintro n r2 l2 ⟨q,rfl,QE,N1,rfl,hd2,hR⟩;refine qI hd2 ?_;walk_at"nus";refine Oj (by rw[Bu];omega) ?_;rw[Bu];walk_at"nus";walk_at"split"
    ·rename_i e2;have e2:p+q<cs.length:=by have:=of_decide_eq_true e2;omega
     obtain⟨k',FC⟩:∃k,cs[p+q]?=some k:=⟨_,Cs e2⟩;walk_at"nus";refine Ro (λ_ _=>rfl) (by omega) (by omega) (d:=.int k') (by rw[show((p:Int)+(q:Int)).toNat=p+q from by omega];exact Xj FC) ?_;walk_at"nus";refine Ro (λ_ _=>rfl) (by omega) (by omega) (d:=.int k) (by rw[show((p:Int)).toNat=p from by omega];exact Xj hk) ?_;walk_at"nus";have AM:=Qu (Bn (cs.take p)) (k,(q:Int)-1) k';walk_at"split"
     ·rename_i e3;have e3:=beq_iff_eq.mp e3;walk_at"nus";walk_at"split"
      ·rename_i e4;have e4:=of_decide_eq_true e4;rw[if_pos ⟨by omega,by omega⟩] at AM;walk_at"nus";refine⟨cs.length-(q+1),by omega,q+1,rfl,by omega,by omega,rfl,.refl _,?_⟩;rw[show p+(q+1)=p+q+1 from rfl];refine(Iu FC).trans ?_;show Ki (Bn (cs.take (p+q))) k'=_;rw[hR,AM];congr 3;omega
      ·rename_i e4;have e4:¬((q:Int)<256):=λz=>e4 (decide_eq_true z);refine Ip (BZ.go BV ⟨rfl,q,QE,N1,rfl,.refl _,hR,λk2 h2 z=>?_⟩);omega
     ·rename_i e3;refine Ip (BZ.go BV ⟨rfl,q,QE,N1,rfl,.refl _,hR,λk2 h2 z=>e3 (beq_iff_eq.mpr ?_)⟩);rw[FC] at h2;injection h2 with h2;omega
    ·rename_i e2;refine Ip (BZ.go BV ⟨rfl,q,QE,N1,rfl,.refl _,hR,λk2 h2 z=>e2 (decide_eq_true ?_)⟩);have:=Gb h2;omega
   ·rintro r2 l2 ⟨q,QE,N1,rfl,hd2,hR,HX⟩;refine Eg hd2 ?_;walk_at"nus";refine Ro (λ_ _=>rfl) (by omega) (by omega) (d:=.int k) (by rw[show((p:Int)).toNat=p from by omega];exact Xj hk) ?_;walk_at"nus"
    ·refine⟨cs.length-(p+q),by omega,p+q,_,rfl,N1,rfl,?_,λk2 h2=>?_⟩
     ·rw[hR];unfold Ba;rw[Ai (l₂:=[(k,(q:Int)-1)])];exact .refl _
     ·rw[hR,Qu,if_neg (HX k2 h2)]
    ·unfold Ba;rw[Ac];exact Aa (Iz _) (Aa (Hz ..) (Aa hp (Aa hz (by decide))))
  ·rename_i e1;have e1:p=cs.length:=by have:¬((p:Int)<(cs.length:Int)):=λz=>e1 (decide_eq_true z);omega
   subst e1;rw[Bj];exact BZ.go BV ⟨rfl,⟨_,_,rfl⟩,.refl _⟩
 ·rintro r1 l1 ⟨⟨p,o,rfl⟩,hd⟩
  with_reducible refine Eg hd ?_
  walk_at"nus";walk_at"nus";exact Eu.of [] (h _)
structure Gz where
 sel:Int
 ra:Addr
 rb:Addr
 AY:List (Int×Int)
 rws:List (Int×Int)
noncomputable def Kj (x:Gz):V:=.tup [.int x.sel,.ref x.ra,.ref x.rb]
noncomputable def Ee (rs:List Gz):Led:=rs.flatMap λx=>[(x.ra,.list (Ba x.AY)),(x.rb,.list (Ba x.rws))]
def Vg (es:List (Int×List Int))(os:List (List Int×Int))(ss:List Int):Prop:=ss.Pairwise (· < ·)/\∀k,k∈ss↔k∈es.map (·.1)\/∃e∈os,Gv e.1=k
noncomputable def Fn (es:List (Int×List Int))(os:List (List Int×Int))(ks:List (List Int))(k:Int):List (Int×Int):=
 (ks.filter λkey=>Gv key==k&&Dd es os key).map λkey=>(Mt key,Cn os key)
noncomputable abbrev De:=Int×List (Int×Int)×List (Int×Int)
noncomputable def Ih (es:List (Int×List Int))(os:List (List Int×Int))(ks:List (List Int))(k:Int):De:=(k,Bn (Be es k),Fn es os ks k)
noncomputable def Dz (es:List (Int×List Int))(os:List (List Int×Int))(ks:List (List Int))(ss:List Int):List De:=
 (ss.map (Ih es os ks)).filter λx=>!x.2.1.isEmpty || !x.2.2.isEmpty
noncomputable def Gz.t (x:Gz):De:=(x.sel,x.AY,x.rws)
theorem Po {α:Type}(f:α->Int):∀{a b:List α},(a.Pairwise λx y=>f x<f y)->(b.Pairwise λx y=>f x<f y)->a.Perm b->a=b
 |[],b,_,_,p=>(List.nil_perm.mp p).symm
 |x::a,[],_,_,p=>absurd p.length_eq (by simp)
 |x::a,y::b,ha,hb,p=>by k_with"o"=>
  rw[Cy] at ha hb;have h1:x∈y::b:=p.mem_iff.mp (.head _);have h2:y∈x::a:=p.mem_iff.mpr (.head _);have e:x=y:=by
   rcases Ag.mp h1 with e|q1
   ·exact e
   rcases Ag.mp h2 with e|q2
   ·exact e.symm
   have:=ha.1 y q2;have:=hb.1 x q1;omega
  subst e;rw[Po f ha.2 hb.2 p.cons_inv]
theorem Qo.unique {os:List (List Int×Int)}{a b:List (List Int)}(ha:Qo os a)(hb:Qo os b):a=b:=by k_with"o"=>exact(Po Rh ha.2 hb.2 (ha.1.trans hb.1.symm))
theorem Uv {k:List Int}(h:k∈Kq):PK k:=by k_with"o"=>
 unfold Kq at h;obtain⟨a,ha,hk⟩:=Ib.mp h;obtain⟨b,hb,rfl⟩:=Af.mp hk;have h1:∀a∈Pt,0<=a:=by decide
 have h2:∀b∈pQ,0<=b/\b<16777216:=by decide
 exact⟨a,b,rfl,h1 a ha,(h2 b hb).1,(h2 b hb).2⟩
theorem Zt.pk {os:List (List Int×Int)}(h:Zt os):∀e∈os,PK e.1:=λe he=>Uv (h.key e he)
theorem uE (es:List (Int×List Int)):Keyed (dI es) (intsOf (es.map (·.1))):=by k_with"o"=>
 unfold dI intsOf;rw[Ay];have:(es.map λe=>(e.1,V.tup (intsOf e.2))).map (λe=>V.int e.1)=es.map (V.int∘(·.1)):=by rw[Ay];rfl
 rw[<-this];exact .I
theorem uD (os:List (List Int×Int)):Keyed (dT os) (Fh (os.map (·.1))):=by k_with"o"=>
 unfold dT Fh;rw[Ay];have:(os.map λe=>(e.1,V.int e.2)).map (λe=>V.tup (intsOf e.1))=os.map ((λk=>V.tup (intsOf k))∘(·.1)):=by rw[Ay];rfl
 rw[<-this];exact .T
theorem pS (es:List (Int×V)):Keyed (.AN es) (intsOf (es.map (·.1))):=by unfold intsOf;rw[Ay];exact .I
theorem Ue:∀(es acc:List (Int×V)) {k:Int},k∈(Rt acc es).map (·.1)↔k∈acc.map (·.1)\/k∈es.map (·.1)
 |[],acc,k=>by simp[Rt]
 |e::es,acc,k=>by k_with"o"=>
  have:=Ue es (Fy acc e.1 e.2) (k:=k);show k∈(Rt (Fy acc e.1 e.2) es).map (·.1)↔_;rw[this,bH,Aj,Ag];constructor
  ·rintro((h|h)|h)
   ·exact .inr (.inl h)
   ·exact .inl h
   ·exact .inr (.inr h)
  ·rintro(h|h|h)
   ·exact .inl (.inr h)
   ·exact .inl (.inl h)
   ·exact .inr h
theorem Kv {ks:List (List Int)}:(Fh ks).length=ks.length:=Ac ..
theorem xK {os:List (List Int×Int)}(hk:∀e∈os,PK e.1)(hn:(os.map (·.1)).Nodup):∃ks,Qo os ks:=by k_with"o"=>
 have hp:((os.map (·.1)).mergeSort λa b=>decide (Rh a<=Rh b)).Perm (os.map (·.1)):=List.mergeSort_perm ..;refine⟨_,hp,?_⟩;have hs:=List.pairwise_mergeSort (le:=λa b=>decide (Rh a<=Rh b)) (λa b c h1 h2=>by simp only[decide_eq_true_eq] at *;omega) (λa b=>by simp only[Td,decide_eq_true_eq];omega) (os.map (·.1));have BK:((os.map (·.1)).mergeSort λa b=>decide (Rh a<=Rh b)).Pairwise (·≠·):=hp.nodup_iff.mpr hn;have pk:∀k∈(os.map (·.1)).mergeSort (λa b=>decide (Rh a<=Rh b)),PK k:=λk hm=>by obtain⟨e,he,rfl⟩:=Af.mp (hp.mem_iff.mp hm);exact hk e he
 refine(hs.and BK).imp_of_mem λ{a b} ha hb h=>?_;rcases Int.lt_or_eq_of_le (of_decide_eq_true h.1) with q|q
 ·exact q
 ·exact absurd ((pk a ha).inj (pk b hb) q) h.2
theorem lS {es:List (Int×List Int)}{os:List (List Int×Int)}{ks:List (List Int)}{ss:List Int}{k:Int}(h:ss[i]?=some k)(bb:Bool)(hb:(!(Ih es os ks k).2.1.isEmpty || !(Ih es os ks k).2.2.isEmpty)=bb) :
  Dz es os ks (ss.take (i+1))=Dz es os ks (ss.take i)++(if bb then [Ih es os ks k] else []):=by k_with"o"=>
 unfold Dz;rw[Cc,h,Ai,Pl];show _++([Ih es os ks k].filter _)=_;rw[Hb,hb];rfl
theorem tK (acc:List (Int×Int))(k:Int):Ki acc k≠[]:=by k_with"o"=>
 unfold Ki;walk_at"split"
 ·split<;>simp
 ·simp
theorem Hn (cs:List Int):(Bn cs).isEmpty=cs.isEmpty:=by k_with"o"=>
 rcases Sf cs with rfl|⟨i,x,rfl⟩
 ·rfl
 ·unfold Bn;rw[Jk];show(Ki _ x).isEmpty=_;have:=tK (List.foldl Ki [] i) x;cases h:Ki (List.foldl Ki [] i) x with
  |nil=>exact absurd h this
  |cons a b=>simp
theorem Yh {es:List (Int×List Int)}{os:List (List Int×Int)}{ks:List (List Int)}{k:Int}{key:List Int}(h:ks[i]?=some key)(bb:Bool)(hb:(Gv key==k&&Dd es os key)=bb) :
  Fn es os (ks.take (i+1)) k=Fn es os (ks.take i) k++(if bb then [(Mt key,Cn os key)] else []):=by k_with"o"=>
 unfold Fn;rw[Cc,h,Pl,Ai];show _++(List.filter _ [key]).map _=_;rw[Hb,hb];cases bb<;>rfl
theorem lT {es:List (Int×List Int)}{os:List (List Int×Int)}{ks:List (List Int)}{k:Int}:(Fn es os ks k).length<=ks.length:=by k_with"o"=>unfold Fn;rw[Ac];exact Bz ..
theorem xD (P:Prg U w T){d o:Addr}{es:List (Int×List Int)}{os:List (List Int×Int)}(hI:dD es)(hl:es.length<=4)(hO:Zt os)(FA:os.length<=6)
  (h:∀b rs ss ks,Qo os ks->Vg es os ss->rs.map Gz.t=Dz es os ks ss->Q (.ref b) ((b,.list (rs.map Kj))::(d,dI es)::(o,dT os)::Ee rs)) :
  Cg U w T (lev+2) (.ref 416) [.ref d,.ref o] [(d,dI es),(o,dT os)] Q X:=by k_with"o"=>
 have TO:=P.ok;refine P.call 35 rfl ["defaults","others"] (λpm cd vals hv=>?_) rfl λpm cd A outer L C=>?_
 ·obtain⟨x,y,rfl⟩:=Wf hv;rfl
 refine⟨[some (.ref d),some (.ref o),none,none,none,none],.cons .loc (.cons (.there .cell) .nil),?_⟩;refine Ct ?_;walk_at"nus";intro b;walk_at"nus";refine Et (λr1 l1=>∃rs ss ks,Qo os ks/\Vg es os ss/\rs.map Gz.t=Dz es os ks ss/\(∃s1 k1 MH,r1=[some (.ref d),some (.ref o),some (.ref b),s1,k1,MH])/\Bm l1 ((b,.list (rs.map Kj))::(d,dI es)::(o,dT os)::Ee rs)) (λK0 BV=>?_) ?_
 ·refine Jh C (λ_=>rfl) ?_;walk_at"nus";refine Kt C TO (cl:=[]) (emit:=λC D=>Ft _ (.ref D) _) (by walk_at"compok") (λ_=>rfl) (λC D I=>rfl) ?_;walk_at"nus";refine Nl C TO (.there (.here .refl)) (uE es) (by rw[Bu,Ac];exact Aa hl (by decide)) λb1=>?_;walk_at"nus";refine Kt C TO (cl:=[]) (emit:=λC D=>Ft _ (.ref D) _) (by walk_at"compok") (λ_=>rfl) (λC D I=>rfl) ?_;walk_at"nus";refine Eh.of ⟨o,_,_,[(b1,.list (intsOf (es.map (·.1)))),(b,.list []),(d,dI es)],rfl,by walk_at"drop",bY C TO (uD os),by rw[Kv,Ac];exact Aa FA (by decide),λC' D CO=>⟨[none,none],λi acc r' m=>∃(o':Option V),r'=[none,o']/\
   m=[(b1,.list (intsOf (es.map (·.1)))),(b,.list []),(d,dI es)]/\acc=intsOf ((os.take i).map λe=>Gv e.1),by walk_at"comp0",⟨none,rfl,rfl,rfl⟩,?_,?_,?_⟩⟩
  ·rintro i acc r' m' ⟨o',rfl,rfl,rfl⟩;walk_at"comp"
  ·rintro y3 i dd acc r' m' G7 AQ KN KS hK ⟨o',rfl,rfl,rfl⟩ AL;obtain⟨k,DC,rfl⟩:=Ny AQ;rw[Bw] at DC;obtain⟨e,he,rfl⟩:=Gn.mp DC;obtain⟨ka,kb,hk,_⟩:=hO.pk e (Bd he);refine Bt CO (by walk_at"upd") ⟨rfl,?_⟩;refine Gx ?_;rw[hk];walk_at"nus";refine⟨_,.refl _,some (.tup (intsOf [ka,kb])),rfl,rfl,?_⟩;rw[Cc,he];simp[intsOf,hk,Gv]
  ·rintro acc r' m' l' AL ⟨o',rfl,rfl,rfl⟩ hd;rw[Kv,Ac,Bj] at hd;refine gM hd ?_;refine Pg (by walk_at"has") (by walk_at"has") (by rw[Bu,Bu,Ac,Ac,show sizeLine=16777216 from rfl];omega) λb2=>?_;have e2:intsOf (es.map (·.1))++intsOf (os.map λe=>Gv e.1)=intsOf (es.map (·.1)++os.map λe=>Gv e.1):=by unfold intsOf;rw[Ai]
   rw[e2];generalize BO:(es.map (·.1)++os.map λe=>Gv e.1)=all;have O8:∀k,k∈all↔k∈es.map (·.1)\/∃e∈os,Gv e.1=k:=λk=>by rw[<-BO,Ao,Af (l:=os)]
   have hlen:all.length<=10:=by rw[<-BO,Ab,Ac,Ac];omega
   refine Eh.of ⟨b2,_,_,[(b,.list []),(d,dI es),(o,dT os)],rfl,by walk_at"drop",Ds C,by rw[Bu];exact Aa hlen (by decide),λC' D2 KA=>⟨[none,none],λi acc r' m=>∃(o':Option V),r'=[none,o']/\
    m=[(b,.list []),(d,dI es),(o,dT os)]/\acc=((all.take i).map λk:Int=>(k,V.bool true)).map iO,by walk_at"comp0",⟨none,rfl,rfl,rfl⟩,?_,?_,?_⟩⟩
   ·rintro i acc r' m' ⟨o',rfl,rfl,rfl⟩;walk_at"comp"
   ·rintro y3 i dd acc r' m' G7 AQ KN KS hK ⟨o',rfl,rfl,rfl⟩ AL;obtain⟨k,DC,rfl⟩:=Jd AQ;refine Bt KA (by walk_at"upd") ⟨rfl,?_⟩;refine Gx ?_;walk_at"nus";refine⟨_,.refl _,some (.int k),rfl,rfl,?_⟩;rw[Cc,DC];simp[iO]
   ·rintro acc r' m' l' J3 ⟨o',rfl,rfl,rfl⟩ hd2;rw[Bu,Bj] at hd2;refine Mj hd2 ?_;walk_at"nus";refine Uh C (.here .refl) (by rw[Ac];exact Aa hlen (by decide)) λb8=>?_;generalize GZ:Rt [] (all.map λk=>(k,V.bool true))=tab;have NR:tab.length<=10:=by rw[<-GZ];have:=Xn (all.map λk=>(k,V.bool true)) [];rw[Ac] at this;exact Aa this (by show 0+_<=_;omega)
    have ZG:(tab.map (·.1)).Nodup:=by rw[<-GZ];exact Sn _ [] Ly
    have ZH:∀k,k∈tab.map (·.1)↔k∈all:=λk=>by rw[<-GZ,Ue,Ay];have e:(Prod.fst∘λk:Int=>(k,V.bool true))=id:=rfl;rw[e,Na];simp
    walk_at"nus";refine Nl C TO (.here .refl) (pS tab) (by rw[Bu,Ac];exact Aa NR (by decide)) λb9=>?_;walk_at"nus";refine Oh (.here .refl) (.I ⟨_,rfl⟩) (by rw[Bu,Ac];exact Aa NR (by decide)) λIA B0 A1 EU=>?_;obtain⟨ss,rfl,pm,IS⟩:=gF ZG A1 EU;have NU:ss.length<=10:=by rw[pm.length_eq,Ac];exact NR
    have MO:Vg es os ss:=⟨IS,λk=>by rw[pm.mem_iff,ZH,O8]⟩;obtain⟨ks,DL⟩:=xK hO.pk hO.nodup;have H6:ks.length<=6:=by rw[DL.1.length_eq,Ac];exact FA
    refine⟨_,_,_,[(b,.list (([]:List Gz).map Kj)),(d,dI es),(o,dT os)],rfl,by walk_at"drop",Ds C,λi r m=>∃(rs:List Gz) (s1 k1 MH:Option V),rs.map Gz.t=Dz es os ks (ss.take i)/\r=[some (.ref d),some (.ref o),some (.ref b),s1,k1,MH]/\
     m=(b,.list (rs.map Kj))::(d,dI es)::(o,dT os)::Ee rs,⟨[],_,_,_,rfl,rfl,rfl⟩,?_,?_⟩
    ·rintro y i dd r m hy AQ K hK ⟨rs,s1,k1,MH,EE,rfl,rfl⟩;obtain⟨k,DC,rfl⟩:=Jd AQ;refine Bt C (by walk_at"upd") ⟨rfl,?_⟩;walk_at"nus";refine aB P (by unfold dI;walk_at"has") ?_;rw[Wj];walk_at"nus";refine zE (λr1 l1=>∃b5,r1=[some (.ref d),some (.ref o),some (.ref b),some (.int k),some (.tup (intsOf (Be es k))),some (.ref b5)]/\
      Bm l1 ((b5,.list (Ba (Fn es os ks k)))::(IA,y)::(b,.list (rs.map Kj))::(d,dI es)::(o,dT os)::Ee rs)) ?_ ?_
     ·refine Sz C TO (cl:=[("selector",L+2),("others",L+1),("known",L+3)]) (emit:=λC D=>Ft _ (.ref D) _) (by walk_at"compok") (λ_=>rfl) rfl (λC D I=>rfl) ?_;walk_at"nus";refine Nl C TO (by walk_at"has") (uD os) (by rw[Kv,Ac];exact Aa FA (by decide)) λX7=>?_;walk_at"nus";refine Oh (.here .refl) (.P ?_) (by rw[Kv,Ac];exact Aa FA (by decide)) λPN B0 A1 EU=>?_
      ·intro x hx;obtain⟨k,FC,rfl⟩:=Af.mp hx;obtain⟨e,he,rfl⟩:=Af.mp FC;obtain⟨a,b,e1,h1,h2,h3⟩:=hO.pk e he;rw[e1];exact⟨a,b,rfl,h1,h2,h3⟩
      obtain⟨FY,rfl,ord⟩:=pL hO.pk hO.nodup A1 EU;obtain rfl:=Qo.unique ord DL;refine Eh.of ⟨PN,_,_,(IA,y)::(b,.list (rs.map Kj))::(d,dI es)::(o,dT os)::Ee rs,rfl,by walk_at"drop",Ds C,by rw[Kv];exact Aa H6 (by decide),λC' D2 KA=>
       ⟨[none,none,some (.tup (intsOf (Be es k))),some (.ref o),some (.int k)],λi acc r' m=>∃(o':Option V),r'=[none,o',some (.tup (intsOf (Be es k))),some (.ref o),some (.int k)]/\
       m=(IA,y)::(b,.list (rs.map Kj))::(d,dI es)::(o,dT os)::Ee rs/\acc=Ba (Fn es os (FY.take i) k),by walk_at"comp0",⟨none,rfl,rfl,rfl⟩,?_,?_,?_⟩⟩
      ·rintro i acc r' m' ⟨o',rfl,rfl,rfl⟩;walk_at"comp"
      ·rintro y3 j dd acc r' m' G7 AQ KN KS hK ⟨o',rfl,rfl,rfl⟩ AL;obtain⟨key,TV,rfl⟩:=Ny AQ;have A8:key∈os.map (·.1):=DL.1.mem_iff.mp (Bd TV);obtain⟨g,hg⟩:=Rm A8;obtain⟨e,he,I9⟩:=Af.mp A8;obtain⟨ka,kb,rfl,WX,WW,OD⟩:PK key:=I9▸hO.pk e he;have GY:Cn os [ka,kb]=g:=by unfold Cn;rw[hg];rfl
       have DB:Ey (os.map λe=>(e.1,V.int e.2)) [ka,kb]=some (.int g):=by rw[Kk V.int,hg];rfl
       refine Bt KA (by walk_at"upd") ⟨rfl,?_⟩;refine Rn ?_;walk_at"nus";have no:∀{l2:Led},Bm l2 ((D2,.list (Ba (Fn es os (FY.take j) k)))::(PN,y3)::(IA,y)::(b,.list (rs.map Kj))::(d,dI es)::(o,dT os)::Ee rs)->(Gv [ka,kb]==k&&Dd es os [ka,kb])=false->
         ∃m3,Bm l2 ((D2,.list (Ba (Fn es os (FY.take j) k)))::(PN,y3)::m3)/\∃(o':Option V),[none,some (.tup (intsOf [ka,kb])),some (.tup (intsOf (Be es k))),some (.ref o),some (.int k)]=[none,o',some (.tup (intsOf (Be es k))),some (.ref o),some (.int k)]/\
          m3=(IA,y)::(b,.list (rs.map Kj))::(d,dI es)::(o,dT os)::Ee rs/\Ba (Fn es os (FY.take j) k)=Ba (Fn es os (FY.take (j+1)) k):=λhd hb=>
        ⟨_,hd,_,rfl,rfl,by rw[Yh TV false hb,if_neg (by decide),Au]⟩
       walk_at"split"
       ·rename_i e1;have e1:ka=k:=beq_iff_eq.mp e1;subst e1;walk_at"nus";refine Qm (k:=[ka,kb]) KA (λ_ _=>rfl) (by unfold dT;walk_at"has") DB ?_;walk_at"nus";walk_at"split"
        ·rename_i e2;walk_at"nus";refine dB ?_;walk_at"nus";walk_at"split"
         ·rename_i e3;walk_at"nus";refine Qm (k:=[ka,kb]) KA (λ_ _=>rfl) (by unfold dT;walk_at"has") DB ?_;walk_at"nus";refine⟨_,.refl _,_,rfl,rfl,?_⟩;rw[Yh TV true (by unfold Dd;rw[GY];exact Bp.mpr ⟨beq_iff_eq.mpr rfl,Bp.mpr ⟨e2,e3⟩⟩),GY];unfold Ba;rw[if_pos rfl,Ai];rfl
         ·rename_i e3;walk_at"nus";refine(no (.refl _) ?_).elim λm3 q=>⟨m3,q.1,q.2⟩;unfold Dd;refine Jl.mpr λq=>e3 ?_;exact(Bp.mp (Bp.mp q).2).2
        ·rename_i e2;walk_at"nus";refine(no (.refl _) ?_).elim λm3 q=>⟨m3,q.1,q.2⟩;unfold Dd;rw[GY];refine Jl.mpr λq=>e2 ?_;exact(Bp.mp (Bp.mp q).2).1
       ·rename_i e1;walk_at"nus";refine(no (.refl _) ?_).elim λm3 q=>⟨m3,q.1,q.2⟩;refine Jl.mpr λq=>e1 ?_;exact(Bp.mp q).1
      ·rintro acc r' m' l' J3 ⟨o',rfl,rfl,rfl⟩ hd2;rw[Kv,Bj] at hd2;refine⟨_,by walk_at"upd",rfl,_,rfl,hd2.trans ?_⟩;walk_at"drop"
     ·rintro r1 l1 ⟨b5,rfl,hd⟩;refine Eg hd ?_;refine Dn (Jf ?_);have QD:(Ih es os ks k).2.1=Bn (Be es k):=rfl;have GW:(Ih es os ks k).2.2=Fn es os ks k:=rfl;have FG:(Be es k).length<=1000:=by
       unfold Be;cases OS:Ey es k with
       |none=>exact Ca _
       |some cs=>exact(hI.asc _ (Lo OS)).2.2
      have FO:rs.length<=10:=by have:=congrArg Nb EE;rw[Ac] at this;rw[this];unfold Dz;refine Aa (Bz ..) ?_;rw[Ac];have:=Gb DC;rw[Av];omega
      generalize HA:(!(Ih es os ks k).2.1.isEmpty || !(Ih es os ks k).2.2.isEmpty)=bb;have O3:(!(Be es k).isEmpty || !(Fn es os ks k).isEmpty)=bb:=by rw[<-HA,QD,GW,Hn]
      refine vU (M:=λb1 l1=>b1=bb/\Bm l1 ((b5,.list (Ba (Fn es os ks k)))::(IA,y)::(b,.list (rs.map Kj))::(d,dI es)::(o,dT os)::Ee rs)) ?_ ?_
      ·walk_at"nus";refine Oj (by rw[Bu];omega) ?_;rw[Bu];walk_at"nus";walk_at"split"
       ·rename_i e1;refine⟨?_,.refl _⟩;rw[<-O3];cases hc:Be es k with
        |nil=>rw[hc] at e1;exact absurd e1 (by decide)
        |cons a b=>rfl
       ·rename_i e1;have hc:Be es k=[]:=by
         cases hc:Be es k with
         |nil=>rfl
         |cons a b=>exact absurd (decide_eq_true (by rw[hc,An];omega)) e1
        walk_at"nus";intro QT;walk_at"nus";refine Qn C (by walk_at"has") (.here .refl) (λd hd=>by obtain⟨p,_,rfl⟩:=Af.mp hd;exact Xf _ _) ?_;walk_at"nus";have UT:(!(Ba (Fn es os ks k)).isEmpty)=bb:=by rw[<-O3,hc];unfold Ba;cases Fn es os ks k<;>rfl
        rw[UT];cases bb
        ·refine Ip ?_;walk_at"nus";exact⟨rfl,by walk_at"drop"⟩
        ·refine Ni ?_;exact⟨rfl,by walk_at"drop"⟩
      ·rintro b1 l1 ⟨rfl,hd⟩;have fin:=lS (es:=es) (os:=os) (ks:=ks) DC b1 HA;cases b1
       ·refine Ip (Eg hd ?_);walk_at"nus";refine⟨_,?_,rs,_,_,_,?_,rfl,rfl⟩
        ·walk_at"drop"
        ·rw[fin,if_neg (by decide),Au];exact EE
       ·refine Ni (Eg hd ?_);walk_at"nus";refine Bk C (by walk_at"picks") (fS (l:=[]) P (Aa FG (by decide)) λF5=>?_);walk_at"nus"
        ·refine⟨_,?_,rs++[⟨k,F5,b5,Bn (Be es k),Fn es os ks k⟩],_,_,_,?_,rfl,rfl⟩
         ·obtain⟨fr,IK⟩:Bm ((F5,O.list (Ba (Bn (Be es k))))::(b5,O.list (Ba (Fn es os ks k)))::(IA,y)::(b,O.list (rs.map Kj++[V.tup [V.int k,V.ref F5,V.ref b5]]))::(d,dI es)::(o,dT os)::Ee rs)
            ((IA,y)::(b,O.list (rs.map Kj++[V.tup [V.int k,V.ref F5,V.ref b5]]))::(d,dI es)::(o,dT os)::(F5,O.list (Ba (Bn (Be es k))))::(b5,O.list (Ba (Fn es os ks k)))::Ee rs):=by walk_at"drop"
          refine⟨fr,IK.trans (En.append_right fr ?_)⟩;rw[Ai];refine .cons _ (.cons _ (.cons _ (.cons _ ?_)));unfold Ee;rw[Gp];exact Cz (l₁:=[_,_])
         ·rw[Ai,EE,fin,if_pos rfl];rfl
        ·rw[Ac];exact Aa FO (by decide)
    ·rintro r l m ⟨rs,s1,k1,MH,EE,rfl,rfl⟩ hd
     try refine BZ.go (by assumption) ?_
     rw[Bu,Bj] at EE;exact⟨rfl,rs,ss,ks,DL,MO,EE,⟨_,_,_,rfl⟩,hd.trans .snd⟩
 ·rintro r1 l1 ⟨rs,ss,ks,h1,h2,h3,⟨s1,k1,MH,rfl⟩,hd⟩;refine Eg hd ?_;walk_at"nus";walk_at"nus";exact Eu.of [] (h _ _ _ _ h1 h2 h3)
inductive Rd (α:Type) where
 |ret (a:α)
 |fault (i:Int)
 |C4
 |ask (p k:Nat) (f:Nat->Rd α)
inductive Res (α:Type) where
 |ok (a:α)
 |fault (i:Int)
 |C4
noncomputable def Ng (l:List UInt8):Nat:=l.foldl (λt c=>t*256+c.toNat) 0
noncomputable def numAt (b:List UInt8)(p k:Nat):Nat:=Ng ((b.drop p).take k)
noncomputable def Rd.run {α:Type}(b:List UInt8):Rd α->Res α
 |.ret a=>.ok a
 |.fault i=>.fault i
 |.C4=>.C4
 |.ask p k f=>if p+k<=b.length then (f (numAt b p k)).run b else .fault p
noncomputable def Rd.bind {α β:Type}(t:Rd α)(g:α->Rd β):Rd β:=match t with
 |.ret a=>g a
 |.fault i=>.fault i
 |.C4=>.C4
 |.ask p k f=>.ask p k λn=>(f n).bind g
theorem Rd.run_bind {α β:Type}(b:List UInt8)(g:α->Rd β):∀t:Rd α,(t.bind g).run b=match t.run b with
  |.ok a=>(g a).run b
  |.fault i=>.fault i
  |.C4=>.C4
 |.ret a=>rfl
 |.fault i=>rfl
 |.C4=>rfl
 |.ask p k f=>by k_with"o"=>
  show(if p+k<=b.length then ((f (numAt b p k)).bind g).run b else .fault p)=_;rw[Rd.run];split
  ·exact Rd.run_bind b g _
  ·rfl
noncomputable def EY (f:Int)(k:Nat):List Int:=(Ex k).map λi:Nat=>f+(i:Int)
noncomputable def Iq:Nat->Nat->Int->List Int->Rd (List Int)
 | 0,_,_,acc=>.ret acc
 |n+1,p,last,acc=>.ask p 3 λf=>.ask (p+3) 1 λm=>if (f:Int)<=last then .fault p else if (f:Int)+m>1114111 then .fault p else Iq n (p+4) ((f:Int)+m) (acc++EY f (m+1))
noncomputable def Ge (p:Nat):Rd (List Int):=.ask p 4 λn=>Iq n (p+4) (-1) []
noncomputable def It:Nat->Nat->Int->List (Int×Int)->Rd (List (Int×Int))
 | 0,_,_,acc=>.ret acc
 |n+1,p,last,acc=>.ask p 3 λc=>if (c:Int)<=last then .fault p else if (c:Int)>1114111 then .fault p else .ask (p+3) 2 λg=>It n (p+5) c (acc++[((c:Int),(g:Int))])
noncomputable def Fo (p:Nat):Rd (List (Int×Int)):=.ask p 4 λn=>It n (p+4) (-1) []
theorem oZ (f:Int)(k:Nat):(EY f k).length=k:=by unfold EY;rw[Ac,Fe]
theorem Yi (b:List UInt8):∀(n p:Nat) (last:Int) (acc:List Int),-1<=last->last<=1114111->(acc.length:Int)<=last+1->∀v,(Iq n p last acc).run b=.ok v->v.length<=1114112
 | 0=>λp last acc h0 h1 h2 v h=>by k_with"o"=>injection h with h;subst h;omega
 |n+1=>λp last acc h0 h1 h2 v h=>by k_with"o"=>
  rw[Iq,Rd.run] at h;split at h
  ·rw[Rd.run] at h;split at h
   ·split at h
    ·cases h
    ·split at h
     ·cases h
     ·refine Yi b n _ _ _ (by omega) (by omega) ?_ v h;rw[Ab,oZ];omega
   ·cases h
  ·cases h
theorem Yo (b:List UInt8):∀(n p:Nat) (last:Int) (acc:List (Int×Int)),-1<=last->last<=1114111->(acc.length:Int)<=last+1->∀v,(It n p last acc).run b=.ok v->v.length<=1114112
 | 0=>λp last acc h0 h1 h2 v h=>by k_with"o"=>injection h with h;subst h;omega
 |n+1=>λp last acc h0 h1 h2 v h=>by k_with"o"=>
  rw[It,Rd.run] at h;split at h
  ·split at h
   ·cases h
   ·split at h
    ·cases h
    ·rw[Rd.run] at h;split at h
     ·refine Yo b n _ _ _ (by omega) (by omega) ?_ v h;rw[Ab,Fq];omega
     ·cases h
  ·cases h
theorem aS {p:Nat}{v:List Int}(h:(Ge p).run b=.ok v):v.length<=1114112:=by k_with"o"=>
 rw[Ge,Rd.run] at h;split at h
 ·exact Yi b _ _ _ _ (by decide) (by decide) (by decide) v h
 ·cases h
theorem aT {p:Nat}{v:List (Int×Int)}(h:(Fo p).run b=.ok v):v.length<=1114112:=by k_with"o"=>
 rw[Fo,Rd.run] at h;split at h
 ·exact Yo b _ _ _ _ (by decide) (by decide) (by decide) v h
 ·cases h
theorem rH (l:List UInt8)(c:UInt8):Ng (l++[c])=Ng l*256+c.toNat:=by k_with"o"=>unfold Ng;rw[Jk];rfl
theorem jF:∀(l:List UInt8) (t:Nat),l.foldl (λt c=>t*256+c.toNat) t<(t+1)*256^l.length
 |[]=>λt=>by simp
 |c::l=>λt=>by k_with"o"=>rw[Ec,An,oS];refine Cv (jF l _) ?_;have h2:c.toNat<256:=c.toNat_lt;rw[oU (256^l.length) 256,<-Nat.mul_assoc];exact Nat.mul_le_mul_right _ (by omega)
theorem pM (l:List UInt8):Ng l<256^l.length:=by k_with"o"=>have:=jF l 0;unfold Ng;omega
theorem Oc (b:List UInt8)(p k:Nat):numAt b p k<256^k:=by k_with"o"=>refine Cv (pM _) (Kd (by decide) (Hz ..))
structure PX (U:Program)(w:World)(T:Ez):Prop extends Prg U w T where
 x:Abj U w T
 ct:T.CT=61
 dfl:∃o v n,T.B.get? 85=some o/\o.data=.seq #[v] n
theorem xM (a:Nat)(u:UInt8):Builtin.bitOr (((a:Int))*2^(8:Int).toNat) (u.toNat:Int)=((a*256+u.toNat:Nat):Int):=by k_with"o"=>
 have e:((a:Int))*2^(8:Int).toNat=((a*256:Nat):Int):=by rw[show(8:Int).toNat=8 from rfl];omega
 rw[e,PyProof.Rows.bitOr_and];have h2:u.toNat<2^8:=u.toNat_lt;have h3:Builtin.bitAnd ((a*256:Nat):Int) (u.toNat:Int)=0:=by
  show((((a*256:Nat):Int).toNat &&& ((u.toNat:Int)).toNat:Nat):Int)=0;rw[Jm,Jm];have:a*256 &&& u.toNat=0:=by
   apply Nat.eq_of_testBit_eq;intro i;rw[Nat.testBit_and,Nat.zero_testBit,show a*256=a <<< 8 from(Nat.shiftLeft_eq a 8).symm,Nat.testBit_shiftLeft];by_cases hi:8<=i
   ·rw[Nat.testBit_lt_two_pow (Cv h2 (Kd (by decide) hi)),Uo]
   ·simp[hi]
  rw[this];rfl
 rw[h3];omega
theorem gD (P:PX U w T){p:Nat}(hz:b.length<=1000000)(h1:p+k<=b.length->Q .none l)(h2:¬p+k<=b.length->X p) :
  Cg U w T (lev+1) (.ref 70) [.bytes b,.int p,.int k] l Q X:=by k_with"o"=>
 have TO:=P.ok;have PP:=P.toPrg;refine P.call 0 rfl ["data","at","count"] (λpm cd vals hv=>?_) rfl λpm cd A outer L C=>?_
 ·obtain⟨x,y,z,rfl⟩:=mN hv;rfl
 refine⟨[some (.bytes b),some (.int p),some (.int k)],.cons .loc (.cons (.there .loc) (.cons (.there (.there .loc)) .nil)),?_⟩;refine Dn (Jf ?_);walk_at"nus";have e0:decide ((p:Int)<0)=false:=decide_eq_false (by omega);rw[e0];refine Ip ?_;walk_at"nus";refine Gi (Aa hz (by decide)) ?_;walk_at"nus";walk_at"split"
 ·rename_i e;have e:=of_decide_eq_true e;refine Dn (Nw PP P.x P.ct C rfl rfl ?_);walk_at"nus";exact⟨_,_,rfl,h2 (by omega)⟩
 ·rename_i e;have e:¬((p:Int)+k>(b.length:Int)):=λq=>e (decide_eq_true q);walk_at"nus";walk_at"nus";exact Eu.of [] (h1 (by omega))
theorem mC {p:Nat}{c:UInt8}(h:((b.drop p).take k)[i]?=some c):Ng (((b.drop p).take k).take (i+1))=Ng (((b.drop p).take k).take i)*256+c.toNat:=by k_with"o"=>rw[<-take_snoc h,rH]
theorem nG (h:n<2^64):((Builtin.Int.intBits (n:Int):Nat):Int)+8<=2^27:=by k_with"o"=>
 unfold Builtin.Int.intBits;walk_at"split"
 ·decide
 ·rw[Int.natAbs_natCast];have:n.log2<64:=by
   by_cases h0:n=0
   ·subst h0;decide
   ·exact(Nat.log2_lt h0).mpr h
  omega
theorem iT (P:PX U w T){p:Nat}(hz:b.length<=1000000)(hk:k<=4)(h1:p+k<=b.length->Q (.int (numAt b p k:Nat)) l)(h2:¬p+k<=b.length->X p) :
  Cg U w T (lev+2) (.ref 77) [.bytes b,.int p,.int k] l Q X:=by k_with"o"=>
 have TO:=P.ok;have PP:=P.toPrg;refine P.call 1 rfl ["data","at","count"] (λpm cd vals hv=>?_) rfl λpm cd A outer L C=>?_
 ·obtain⟨x,y,z,rfl⟩:=mN hv;rfl
 refine⟨[some (.bytes b),some (.int p),some (.int k),none,none],.cons .loc (.cons (.there .loc) (.cons (.there (.there .loc)) .nil)),?_⟩;refine Sr ?_;walk_at"nus";refine Bk C .nil (gD P hz (λAE=>?_) h2);refine Ct ?_;walk_at"nus";refine Et (λr1 l1=>(∃o,r1=[some (.bytes b),some (.int p),some (.int k),some (.int (numAt b p k:Nat)),o])/\l1=l) (λK0 BV=>?_) ?_
 ·refine aD C (λ_=>rfl) ?_;walk_at"nus";refine .inl ⟨b,rfl,Aa hz (by decide),?_⟩;have hs:Kc b (some (p:Int)) (some ((p:Int)+(k:Int)))=(b.drop p).take k:=by have:=dM b p (p+k) (Kn _ _);rw[Lu] at this;exact this
  rw[hs];refine⟨_,kU C,λi r l1=>(∃o,r=[some (.bytes b),some (.int p),some (.int k),some (.int (Ng (((b.drop p).take k).take i):Nat)),o])/\l1=l,⟨⟨_,rfl⟩,rfl⟩,?_,?_⟩
  ·rintro i d r l1 hd K hK ⟨⟨o,rfl⟩,rfl⟩;rw[Bw] at hd;cases hu:((b.drop p).take k)[i]? with
   |none=>rw[hu] at hd;cases hd
   |some u=>
    rw[hu] at hd;injection hd with hd;subst hd;refine Bt C (by walk_at"upd") ?_;walk_at"nus";refine Abv (by decide) (nG ?_) ?_
    ·refine Cv (pM _) (Aa (Kd (n:=256) (by decide) (Aa (Hz ..) (Fz (Gb hu)))) ?_);refine Aa (Kd (n:=256) (by decide) (Hz ..)) (Aa (Kd (n:=256) (by decide) hk) (by decide))
    walk_at"nus";refine Acu ?_;rw[xM,<-mC hu];walk_at"nus";exact⟨⟨_,rfl⟩,rfl⟩
  ·rintro r l1 ⟨⟨o,rfl⟩,rfl⟩
   try refine BZ.go (by assumption) ?_
   rw[Ac,Bj];exact⟨rfl,⟨_,rfl⟩,rfl⟩
 ·rintro r1 l1 ⟨⟨o,rfl⟩,rfl⟩;walk_at"nus";walk_at"nus";exact Eu.of [] (h1 AE)
noncomputable abbrev CF (x dx:Addr)(b:List UInt8)(p:Nat):Led:=[(x,.inst 163 dx),(dx,.ns [("data",.bytes b),("at",.int p)])]
theorem Tn (P:PX U w T){x dx:Addr}{p:Nat}(hz:b.length<=1000000)(hk:k<=4)(h1:p+k<=b.length->Q (.int (numAt b p k:Nat)) (CF x dx b (p+k)))(h2:¬p+k<=b.length->X p) :
  Cg U w T (lev+3) (.ref 106) [.ref x,.int k] (CF x dx b p) Q X:=by k_with"o"=>
 have TO:=P.ok;have PP:=P.toPrg;refine P.call 3 rfl ["self","count"] (λpm cd vals hv=>?_) rfl λpm cd A outer L C=>?_
 ·obtain⟨x,y,rfl⟩:=Wf hv;rfl
 refine⟨[some (.ref x),some (.int k),none],.cons .loc (.cons (.there .loc) .nil),?_⟩;refine Ct ?_;walk_at"nus";refine Bk C .nil (iT P hz hk (λAE=>?_) h2);walk_at"nus";walk_at"nus";exact Eu.of [] (h1 AE)
theorem tW (P:PX U w T){x dx:Addr}{p:Nat}(h:Q .none (CF x dx b p)) :
  Cg U w T (lev+1) (.ref 92) [.ref x,.bytes b,.int p] [(x,.inst 163 dx),(dx,.ns [])] Q X:=by k_with"o"=>
 have TO:=P.ok;have PP:=P.toPrg;obtain⟨pm,cd,F⟩:=P.init;refine Cg.GQ (Cg.CR (Q:=Eu Q) F P.ok ["self","data","at"] (λs vals hk hv=>?_) rfl λA outer L C=>?_) λ_ _ q=>q
 ·obtain⟨o,v,n,h1,h2⟩:=P.dfl
  match vals,hv with
  |[x,y,z],_=>exact .of_defaults rfl (hk _ _ h1) h2 rfl rfl
 refine⟨[some (.ref x),some (.bytes b),some (.int p)],.cons .loc (.cons (.there .loc) (.cons (.there (.there .loc)) .nil)),?_⟩;refine Ct ?_;walk_at"nus";walk_at"nus";exact Eu.of [] h
theorem bT (P:PX U w T)(C:c.Ok){p:Nat}(hl:c.lev=lev+2)(h:∀x dx,Q (.ref x) (CF x dx b p++l)) :
  Wn U w T c (λxs=>call (.ref 163) xs) [.bytes b,.int p] r l Q X:=by k_with"o"=>exact(bU P.toPrg C (lev:=lev+1) hl rfl .nil λx dx=>tW P ⟨rfl,h x dx⟩)
theorem Sg (P:PX U w T){code at':Int}(h1:¬code>1114111->Q .none l)(h2:code>1114111->X at') :
  Cg U w T (lev+1) (.ref 317) [.int code,.int at'] l Q X:=by k_with"o"=>
 have TO:=P.ok;have PP:=P.toPrg;refine P.call 20 rfl ["code","at"] (λpm cd vals hv=>?_) rfl λpm cd A outer L C=>?_
 ·obtain⟨x,y,rfl⟩:=Wf hv;rfl
 refine⟨[some (.int code),some (.int at')],.cons .loc (.cons (.there .loc) .nil),?_⟩;refine Dn (Jf ?_);walk_at"nus";walk_at"split"
 ·rename_i e;have e:=of_decide_eq_true e;refine Dn (Nw PP P.x P.ct C rfl rfl ?_);walk_at"nus";exact⟨_,_,rfl,h2 e⟩
 ·rename_i e;have e:¬(code>1114111):=λq=>e (decide_eq_true q);walk_at"nus";walk_at"nus";exact Eu.of [] (h1 e)
theorem Acg (P:PX U w T){x dx:Addr}{p:Nat}(hz:b.length<=1000000)(h1:p+1<=b.length->Q (.int (numAt b p 1:Nat)) (CF x dx b (p+1)))(h2:¬p+1<=b.length->X p) :
  Cg U w T (lev+4) (.ref 113) [.ref x] (CF x dx b p) Q X:=by k_with"o"=>
 have TO:=P.ok;have PP:=P.toPrg;refine P.call 4 rfl ["self"] (λpm cd vals hv=>?_) rfl λpm cd A outer L C=>?_
 ·obtain⟨x,rfl⟩:=Qh hv;rfl
 refine⟨[some (.ref x)],.cons .loc .nil,?_⟩;refine Gm ?_;walk_at"nus";refine Bk C (by walk_at"picks") (Tn P (k:=1) hz (by decide) (λAE=>?_) h2);walk_at"nus";exact Eu.of [] (h1 AE)
theorem tF (P:PX U w T){x dx:Addr}{p:Nat}(hz:b.length<=1000000)(h1:p+2<=b.length->Q (.int (numAt b p 2:Nat)) (CF x dx b (p+2)))(h2:¬p+2<=b.length->X p) :
  Cg U w T (lev+4) (.ref 120) [.ref x] (CF x dx b p) Q X:=by k_with"o"=>
 have TO:=P.ok;have PP:=P.toPrg;refine P.call 5 rfl ["self"] (λpm cd vals hv=>?_) rfl λpm cd A outer L C=>?_
 ·obtain⟨x,rfl⟩:=Qh hv;rfl
 refine⟨[some (.ref x)],.cons .loc .nil,?_⟩;refine Gm ?_;walk_at"nus";refine Bk C (by walk_at"picks") (Tn P (k:=2) hz (by decide) (λAE=>?_) h2);walk_at"nus";exact Eu.of [] (h1 AE)
theorem lM (P:PX U w T){x dx:Addr}{p:Nat}(hz:b.length<=1000000)(h1:p+3<=b.length->Q (.int (numAt b p 3:Nat)) (CF x dx b (p+3)))(h2:¬p+3<=b.length->X p) :
  Cg U w T (lev+4) (.ref 134) [.ref x] (CF x dx b p) Q X:=by k_with"o"=>
 have TO:=P.ok;have PP:=P.toPrg;refine P.call 6 rfl ["self"] (λpm cd vals hv=>?_) rfl λpm cd A outer L C=>?_
 ·obtain⟨x,rfl⟩:=Qh hv;rfl
 refine⟨[some (.ref x)],.cons .loc .nil,?_⟩;refine Gm ?_;walk_at"nus";refine Bk C (by walk_at"picks") (Tn P (k:=3) hz (by decide) (λAE=>?_) h2);walk_at"nus";exact Eu.of [] (h1 AE)
theorem Xa (P:PX U w T){x dx:Addr}{p:Nat}(hz:b.length<=1000000)(h1:p+4<=b.length->Q (.int (numAt b p 4:Nat)) (CF x dx b (p+4)))(h2:¬p+4<=b.length->X p) :
  Cg U w T (lev+4) (.ref 141) [.ref x] (CF x dx b p) Q X:=by k_with"o"=>
 have TO:=P.ok;have PP:=P.toPrg;refine P.call 7 rfl ["self"] (λpm cd vals hv=>?_) rfl λpm cd A outer L C=>?_
 ·obtain⟨x,rfl⟩:=Qh hv;rfl
 refine⟨[some (.ref x)],.cons .loc .nil,?_⟩;refine Gm ?_;walk_at"nus";refine Bk C (by walk_at"picks") (Tn P (k:=4) hz (by decide) (λAE=>?_) h2);walk_at"nus";exact Eu.of [] (h1 AE)
theorem Th {a b:Int}(h0:0<=a)(h1:b=a+n)(h2:b<4611686018427387904):Builtin.Range.small a b 1=true/\Builtin.Range.rangeSize a b 1=n:=by k_with"o"=>
 have e:Builtin.Range.rangeSize a b 1=n:=by subst h1;unfold Builtin.Range.rangeSize;simp;split<;>omega
 refine⟨?_,e⟩;unfold Builtin.Range.small;rw[e];unfold Builtin.Range.rangeFitsLong;simp;omega
theorem lU (f:Int)(k:Nat):El f 1 k=intsOf (EY f k):=by k_with"o"=>unfold El intsOf EY;rw[Ay];refine Fi λi _=>?_;show V.int (f+(i:Int)*1)=V.int (f+(i:Int));rw[Int.mul_one]
theorem cO (P:PX U w T){x dx:Addr}{p:Nat}(hz:b.length<=1000000)
  (IH:∀v,(Ge p).run b=.ok v->∀a,Q (.ref a) [(a,.list (intsOf v))]) (hX:∀i,(Ge p).run b=.fault i->X i) :
  Cg U w T (lev+5) (.ref 324) [.ref x] (CF x dx b p) Q X:=by k_with"o"=>
 have TO:=P.ok;have PP:=P.toPrg;refine P.call 21 rfl ["octets_in"] (λpm cd vals hv=>?_) rfl λpm cd A outer L C=>?_
 ·obtain⟨x,rfl⟩:=Qh hv;rfl
 refine⟨[some (.ref x),none,none,none,none,none,none],.cons .loc .nil,?_⟩;refine Ct ?_;walk_at"nus";intro f;walk_at"nus";refine Et (λr1 l1=>∃v,(Ge p).run b=.ok v/\(∃o2 o3 o4 o5 o6,r1=[some (.ref x),some (.ref f),o2,o3,o4,o5,o6])/\Bm l1 [(f,.list (intsOf v))]) (λK0 BV=>?_) ?_
 ·refine Jh C (λ_=>rfl) ?_;walk_at"nus";refine Bk C (by walk_at"picks") (Xa P hz (λAE=>?_) λh=>hX _ (by rw[Ge,Rd.run,if_neg h]));walk_at"nus";refine Lc λra=>?_;have NQ:(Ge p).run b=(Iq (numAt b p 4) (p+4) (-1) []).run b:=by rw[Ge,Rd.run,if_pos AE]
  have hN:=Oc b p 4;generalize numAt b p 4=N at NQ hN;have hr:=Th (a:=0) (b:=N) (n:=N) (by decide) (by omega) (by omega);refine⟨_,_,_,(f,.list (intsOf []))::CF x dx b (p+4),rfl,by walk_at"drop",Il C (n:=N) hr.1 hr.2,λi r m=>∃(q:Nat) (last:Int) (acc:List Int) (o3 o4 o5 o6:Option V),r=[some (.ref x),some (.ref f),some (.int last),o3,o4,o5,o6]/\
   m=(f,.list (intsOf acc))::CF x dx b q/\(Iq (N-i) q last acc).run b=(Ge p).run b/\-1<=last/\last<=1114111/\(acc.length:Int)<=last+1,?_,?_,?_⟩
  ·exact⟨p+4,-1,[],_,_,_,_,rfl,rfl,NQ.symm,by decide,by decide,by decide⟩
  ·rintro y i d r m hy hd K hK ⟨q,last,acc,o3,o4,o5,o6,rfl,rfl,AB,MS,OA,FA⟩;obtain⟨hi,rfl⟩:=Gk hd;have e:N-i=(N-(i+1))+1:=by omega
   rw[e,Iq,Rd.run] at AB;refine Bt C (by walk_at"upd") ⟨rfl,?_⟩;walk_at"nus";refine Bk C (by walk_at"picks") (lM P hz (λF1=>?_) λh=>hX _ (by rw[<-AB,if_neg h]));rw[if_pos F1,Rd.run] at AB;walk_at"nus";refine Bk C (by walk_at"picks") (Acg P hz (λF0=>?_) λh=>hX _ (by rw[<-AB,if_neg h]));rw[if_pos F0] at AB;have OO:=Oc b q 3;have IJ:=Oc b (q+3) 1;generalize numAt b q 3=ff at AB OO;generalize numAt b (q+3) 1=mm at AB IJ;walk_at"nus";refine Dn (Jf ?_);walk_at"nus";walk_at"split"
   ·rename_i e1;have e1:=of_decide_eq_true e1;rw[if_pos e1] at AB;refine Dn (Nw PP P.x P.ct C rfl rfl ?_);walk_at"nus";exact⟨_,_,rfl,hX _ AB.symm⟩
   ·rename_i e1;have e1:¬((ff:Int)<=last):=λz=>e1 (decide_eq_true z);rw[if_neg e1] at AB;walk_at"nus";refine Bk C .nil (Sg P (λe2=>?_) λe2=>hX _ (by rw[<-AB,if_pos e2];rfl));rw[if_neg e2] at AB;walk_at"nus";refine eJ λrb=>?_;walk_at"nus";have GW:=Th (a:=(ff:Int)) (b:=(ff:Int)+(mm:Int)+1) (n:=mm+1) (by omega) (by omega) (by omega);refine cW (xs:=intsOf acc) (n:=mm+1) C (by walk_at"put") (by walk_at"has") GW.1 GW.2 (Aa (m:=256) (by omega) (by decide)) (Yc (m:=1114112+256) (by rw[Bu];omega) (by decide)) ?_;walk_at"nus";refine⟨(f,.list (intsOf acc++El (ff:Int) 1 (mm+1)))::CF x dx b (q+3+1),by walk_at"drop",q+4,(ff:Int)+(mm:Int),acc++EY ff (mm+1),_,_,_,_,rfl,?_,AB,by omega,by omega,?_⟩
    ·rw[lU];unfold intsOf;rw[Ai]
    ·rw[Ab,oZ];omega
  ·rintro r l m ⟨q,last,acc,o3,o4,o5,o6,rfl,rfl,AB,MS,OA,FA⟩ hd
   try refine BZ.go (by assumption) ?_
   rw[Es,Mk] at AB;exact⟨rfl,acc,AB.symm,⟨_,_,_,_,_,rfl⟩,hd.trans (by walk_at"drop")⟩
 ·rintro r1 l1 ⟨v,hv,⟨o2,o3,o4,o5,o6,rfl⟩,hd⟩
  with_reducible refine Eg hd ?_
  walk_at"nus";walk_at"nus";exact Eu.of [] (IH v hv _)
theorem cP (P:PX U w T){x dx:Addr}{p:Nat}(hz:b.length<=1000000)
  (IH:∀v,(Fo p).run b=.ok v->∀a,Q (.ref a) [(a,.list (Ba v))]) (hX:∀i,(Fo p).run b=.fault i->X i) :
  Cg U w T (lev+5) (.ref 331) [.ref x] (CF x dx b p) Q X:=by k_with"o"=>
 have TO:=P.ok;have PP:=P.toPrg;refine P.call 22 rfl ["octets_in"] (λpm cd vals hv=>?_) rfl λpm cd A outer L C=>?_
 ·obtain⟨x,rfl⟩:=Qh hv;rfl
 refine⟨[some (.ref x),none,none,none,none,none],.cons .loc .nil,?_⟩;refine Ct ?_;walk_at"nus";intro f;walk_at"nus";refine Et (λr1 l1=>∃v,(Fo p).run b=.ok v/\(∃o2 o3 o4 o5,r1=[some (.ref x),some (.ref f),o2,o3,o4,o5])/\Bm l1 [(f,.list (Ba v))]) (λK0 BV=>?_) ?_
 ·refine Jh C (λ_=>rfl) ?_;walk_at"nus";refine Bk C (by walk_at"picks") (Xa P hz (λAE=>?_) λh=>hX _ (by rw[Fo,Rd.run,if_neg h]));walk_at"nus";refine Lc λra=>?_;have NQ:(Fo p).run b=(It (numAt b p 4) (p+4) (-1) []).run b:=by rw[Fo,Rd.run,if_pos AE]
  have hN:=Oc b p 4;generalize numAt b p 4=N at NQ hN;have hr:=Th (a:=0) (b:=N) (n:=N) (by decide) (by omega) (by omega);refine⟨_,_,_,(f,.list (Ba []))::CF x dx b (p+4),rfl,by walk_at"drop",Il C (n:=N) hr.1 hr.2,λi r m=>∃(q:Nat) (last:Int) (acc:List (Int×Int)) (o3 o4 o5:Option V),r=[some (.ref x),some (.ref f),some (.int last),o3,o4,o5]/\
   m=(f,.list (Ba acc))::CF x dx b q/\(It (N-i) q last acc).run b=(Fo p).run b/\-1<=last/\last<=1114111/\(acc.length:Int)<=last+1,?_,?_,?_⟩
  ·exact⟨p+4,-1,[],_,_,_,rfl,rfl,NQ.symm,by decide,by decide,by decide⟩
  ·rintro y i d r m hy hd K hK ⟨q,last,acc,o3,o4,o5,rfl,rfl,AB,MS,OA,FA⟩;obtain⟨hi,rfl⟩:=Gk hd;have e:N-i=(N-(i+1))+1:=by omega
   rw[e,It,Rd.run] at AB;refine Bt C (by walk_at"upd") ⟨rfl,?_⟩;walk_at"nus";refine Bk C (by walk_at"picks") (lM P hz (λF1=>?_) λh=>hX _ (by rw[<-AB,if_neg h]));rw[if_pos F1] at AB;have OO:=Oc b q 3;generalize numAt b q 3=ff at AB OO;walk_at"nus";refine Dn (Jf ?_);walk_at"nus";walk_at"split"
   ·rename_i e1;have e1:=of_decide_eq_true e1;rw[if_pos e1] at AB;refine Dn (Nw PP P.x P.ct C rfl rfl ?_);walk_at"nus";exact⟨_,_,rfl,hX _ AB.symm⟩
   ·rename_i e1;have e1:¬((ff:Int)<=last):=λz=>e1 (decide_eq_true z);rw[if_neg e1] at AB;walk_at"nus";refine Bk C .nil (Sg P (λe2=>?_) λe2=>hX _ (by rw[<-AB,if_pos e2];rfl));rw[if_neg e2,Rd.run] at AB;walk_at"nus";refine Bk C (by walk_at"picks") (tF P hz (λF0=>?_) λh=>hX _ (by rw[<-AB,if_neg h]));rw[if_pos F0] at AB;generalize numAt b (q+3) 2=mm at AB;walk_at"nus"
    ·refine⟨(f,.list (Ba acc++[.tup [.int ff,.int mm]]))::CF x dx b (q+3+2),by walk_at"drop",q+5,(ff:Int),acc++[((ff:Int),(mm:Int))],_,_,_,rfl,?_,AB,by omega,by omega,?_⟩
     ·unfold Ba;rw[Ai];rfl
     ·rw[Ab,Fq];omega
    ·unfold Ba;rw[Ac];exact Aa (m:=1114112) (by omega) (by decide)
  ·rintro r l m ⟨q,last,acc,o3,o4,o5,rfl,rfl,AB,MS,OA,FA⟩ hd
   try refine BZ.go (by assumption) ?_
   rw[Es,Mk] at AB;exact⟨rfl,acc,AB.symm,⟨_,_,_,_,rfl⟩,hd.trans (by walk_at"drop")⟩
 ·rintro r1 l1 ⟨v,hv,⟨o2,o3,o4,o5,rfl⟩,hd⟩
  with_reducible refine Eg hd ?_
  walk_at"nus";walk_at"nus";exact Eu.of [] (IH v hv _)
noncomputable abbrev BA:=List (Int×List Int)
noncomputable abbrev A7:=List (List Int×Int)
noncomputable def Vt (sel:Int)(os:A7)(gs:List (Int×Int)):A7:=gs.foldl (λos g=>Fy os [sel,g.1] g.2) os
noncomputable def jO (at' d:Nat)(sel:Int)(es:BA):Rd BA:=if d≠0 then (Ge (at'+d)).bind λcs=>.ret (Fy es sel cs) else .ret es
noncomputable def fJ (at' o:Nat)(sel:Int)(os:A7):Rd A7:=if o≠0 then (Fo (at'+o)).bind λgs=>.ret (Vt sel os gs) else .ret os
noncomputable def Nd (at' p:Nat)(last:Int)(es:BA)(os:A7):Rd (Int×BA×A7):=
 .ask p 3 λsel=>if (sel:Int)<=last then .fault p else if (sel:Int)>1114111 then .fault p else .ask (p+3) 4 λd=>.ask (p+7) 4 λo=>
  if es.length>1000\/os.length>1000 then .C4 else (jO at' d sel es).bind λA9=>(fJ at' o sel os).bind λCL=>.ret ((sel:Int),A9,CL)
theorem eC {at':Nat}{sel:Int}{es:BA}:jO at' 0 sel es=.ret es:=if_neg λz=>z rfl
theorem bK {at' d:Nat}{sel:Int}{es:BA}(h:d≠0):jO at' d sel es=(Ge (at'+d)).bind λcs=>.ret (Fy es sel cs):=if_pos h
theorem dP {at':Nat}{sel:Int}{os:A7}:fJ at' 0 sel os=.ret os:=if_neg λz=>z rfl
theorem Vx {at' d:Nat}{sel:Int}{os:A7}(h:d≠0):fJ at' d sel os=(Fo (at'+d)).bind λgs=>.ret (Vt sel os gs):=if_pos h
theorem iM (sel:Int):∀(gs:List (Int×Int)) (os:A7),(Vt sel os gs).length<=os.length+gs.length
 |[]=>λos=>Ah _
 |g::gs=>λos=>by k_with"o"=>have h1:=iM sel gs (Fy os [sel,g.1] g.2);have h2:=Sp os [sel,g.1] g.2;rw[An];exact Aa h1 (by omega)
theorem Md {ps:List (Int×Int)}(h:(Ba ps)[i]?=some d):∃p,ps[i]?=some p/\d=.tup [.int p.1,.int p.2]:=by k_with"o"=>
 unfold Ba at h;rw[Bw] at h;cases e:ps[i]? with
 |none=>rw[e] at h;cases h
 |some p=>rw[e] at h;injection h with h;exact⟨p,rfl,h.symm⟩
theorem Dh {ps:List (Int×Int)}:(Ba ps).length=ps.length:=Ac ..
theorem qY (P:PX U w T){x dx d o:Addr}{at' p:Nat}{last:Int}{es:BA}{os:A7}(hz:b.length<=1000000)
  (IH:∀sel A9 CL,(Nd at' p last es os).run b=.ok (sel,A9,CL)->Q (.int sel) (CF x dx b (p+11)++[(d,dI A9),(o,dT CL)]))
  (hX:∀i,(Nd at' p last es os).run b=.fault i->X i) (hW:(Nd at' p last es os).run b≠.C4) :
  Cg U w T (lev+6) (.ref 338) [.bytes b,.int at',.ref x,.int last,.ref d,.ref o] (CF x dx b p++[(d,dI es),(o,dT os)]) Q X:=by k_with"o"=>
 have TO:=P.ok;have PP:=P.toPrg;refine P.call 23 rfl ["data","at","octets_in","last","defaults","others"] (λpm cd vals hv=>?_) rfl λpm cd A outer L C=>?_
 ·obtain⟨x,y,z,a,b,c,rfl⟩:=RT hv;rfl
 refine⟨[some (.bytes b),some (.int at'),some (.ref x),some (.int last),some (.ref d),some (.ref o),none,none,none,none,none,none],.cons .loc (.cons (.there .loc) (.cons (.there (.there .loc)) (.cons (.there (.there (.there .loc))) (.cons (.there (.there (.there (.there .loc)))) (.cons (.there (.there (.there (.there (.there .loc))))) .nil))))),?_⟩;generalize AB:(Nd at' p last es os).run b=whole at IH hX hW;rw[Nd,Rd.run] at AB;refine Ct ?_;walk_at"nus";refine Bk C (by walk_at"picks") (lM P hz (λF1=>?_) λh=>hX _ (by rw[<-AB,if_neg h]));rw[if_pos F1] at AB;have OO:=Oc b p 3;generalize numAt b p 3=sel at AB OO;walk_at"nus";refine Dn (Jf ?_);walk_at"nus";walk_at"split"
 ·rename_i e1;have e1:=of_decide_eq_true e1;rw[if_pos e1] at AB;refine Dn (Nw PP P.x P.ct C rfl rfl ?_);walk_at"nus";exact⟨_,_,rfl,hX _ AB.symm⟩
 rename_i e1;have e1:¬((sel:Int)<=last):=λz=>e1 (decide_eq_true z);rw[if_neg e1] at AB;walk_at"nus";refine Bk C .nil (Sg P (λe2=>?_) λe2=>hX _ (by rw[<-AB,if_pos e2];rfl));rw[if_neg e2,Rd.run] at AB;walk_at"nus";refine Bk C (by walk_at"picks") (Xa P hz (λF0=>?_) λh=>hX _ (by rw[<-AB,if_neg h]));rw[if_pos F0,Rd.run] at AB;generalize numAt b (p+3) 4=dd at AB;walk_at"nus";refine Bk C (by walk_at"picks") (Xa P hz (λT2=>?_) λh=>hX _ (by rw[<-AB,if_neg h]));rw[if_pos T2] at AB;change (if es.length>1000\/os.length>1000 then Rd.C4 else (jO at' dd sel es).bind λA9=>(fJ at' (numAt b (p+3+4) 4) sel os).bind λCL=>.ret ((sel:Int),A9,CL)).run b=whole at AB;generalize numAt b (p+3+4) 4=oo at AB;by_cases H':es.length>1000\/os.length>1000
 ·rw[if_pos H'] at AB;exact absurd AB.symm hW
 rw[if_neg H',Rd.run_bind] at AB;have GZ:es.length<=1000:=by omega
 have JU:os.length<=1000:=by omega
 walk_at"nus";refine Et (λr1 l1=>∃A9,(jO at' dd sel es).run b=.ok A9/\r1=[some (.bytes b),some (.int at'),some (.ref x),some (.int last),some (.ref d),some (.ref o),some (.int p),some (.int sel),some (.int dd),some (.int oo),none,none]/\Bm l1 (CF x dx b (p+11)++[(d,dI A9),(o,dT os)])) (λK0 BV=>?_) ?_
 ·refine Jf ?_;walk_at"nus";by_cases hd:dd=0
  ·subst hd;rw[eC] at BV;refine Ip ?_;walk_at"nus";exact⟨rfl,es,rfl,rfl,by walk_at"drop"⟩
  ·rw[bK hd,Rd.run_bind] at AB BV;rw[show((dd:Int) != 0)=true from by simp;omega];refine Ni ?_;walk_at"nus";refine bT P C rfl λy dy=>?_;walk_at"nus";refine Bk C (by walk_at"picks") (cO P hz (λcs J1 a=>?_) λi hi=>hX i (by rw[<-AB,hi]));walk_at"nus";have hlen:=aS J1;refine Ik (by walk_at"has") (by rw[Bu];exact Aa hlen (by decide)) ?_;walk_at"nus";refine nM (by unfold dI;walk_at"put") (by rw[Ac];exact Aa GZ (by decide)) ?_;rw[So (λcs=>V.tup (intsOf cs))];walk_at"nus";refine⟨rfl,Fy es sel cs,by rw[J1];rfl,rfl,?_⟩;show Bm _ (CF x dx b (p+3+4+4)++[(d,dI (Fy es (↑sel) cs)),(o,dT os)]);unfold dI;walk_at"drop"
 ·rintro r1 l1 ⟨A9,hd,rfl,JB⟩;rw[hd] at AB;change ((fJ at' oo sel os).bind λCL=>.ret ((sel:Int),A9,CL)).run b=whole at AB;rw[Rd.run_bind] at AB;refine Eg JB ?_;refine Et (λr1 l1=>∃CL o1 o2,(fJ at' oo sel os).run b=.ok CL/\r1=[some (.bytes b),some (.int at'),some (.ref x),some (.int last),some (.ref d),some (.ref o),some (.int p),some (.int sel),some (.int dd),some (.int oo),o1,o2]/\Bm l1 (CF x dx b (p+11)++[(d,dI A9),(o,dT CL)])) (λK0 BV=>?_) ?_
  ·refine Jf ?_;walk_at"nus";by_cases hd:oo=0
   ·subst hd;rw[dP] at BV;refine Ip ?_;walk_at"nus";exact⟨rfl,os,_,_,rfl,rfl,by walk_at"drop"⟩
   ·rw[Vx hd,Rd.run_bind] at AB;rw[Vx hd] at BV;rw[show((oo:Int) != 0)=true from by simp;omega];refine Ni (Et (λr1 l1=>∃CL o1 o2,((Fo (at'+oo)).bind λgs=>.ret (Vt sel os gs)).run b=.ok CL/\r1=[some (.bytes b),some (.int at'),some (.ref x),some (.int last),some (.ref d),some (.ref o),some (.int p),some (.int sel),some (.int dd),some (.int oo),o1,o2]/\Bm l1 (CF x dx b (p+11)++[(d,dI A9),(o,dT CL)])) (λK0 BV=>?_) ?_)
    ·refine Jh C (λ_=>rfl) ?_;walk_at"nus";refine bT P C rfl λy dy=>?_;walk_at"nus";refine Bk C (by walk_at"picks") (cP P hz (λgs W5 a=>?_) λi hi=>hX i (by rw[<-AB,hi]));walk_at"nus";have hlen:=aT W5;refine⟨a,_,_,CF x dx b (p+11)++[(d,dI A9),(o,dT os)],rfl,by walk_at"drop",Ds C,λi r m=>∃o1 o2,r=[some (.bytes b),some (.int at'),some (.ref x),some (.int last),some (.ref d),some (.ref o),some (.int p),some (.int sel),some (.int dd),some (.int oo),o1,o2]/\
      m=CF x dx b (p+11)++[(d,dI A9),(o,dT (Vt sel os (gs.take i)))],⟨_,_,rfl,rfl⟩,?_,?_⟩
     ·rintro z i XZ r m JP hd2 K hK ⟨o1,o2,rfl,rfl⟩;obtain⟨⟨g1,g2⟩,W6,rfl⟩:=Md hd2;refine Hw C rfl rfl (Bt C (by walk_at"upd") (Bt C (by walk_at"upd") ⟨rfl,?_⟩));walk_at"nus";have G8:=iM sel (gs.take i) os;have OH:=Gb W6;refine vC (k:=[(sel:Int),g1]) C (by unfold dT;walk_at"put") ?_ ?_
      ·rw[Ac];rw[Av] at G8;exact Aa (m:=1115112) (by omega) (by decide)
      rw[So V.int];walk_at"nus";refine⟨CF x dx b (p+11)++[(d,dI A9),(o,dT (Vt sel os (gs.take (i+1))))],?_,_,_,rfl,rfl⟩;have e:Vt sel os (gs.take (i+1))=Fy (Vt sel os (gs.take i)) [(sel:Int),g1] g2:=by unfold Vt;exact Iu (f:=λos (g:Int×Int)=>Fy os [(sel:Int),g.1] g.2) W6
      rw[e];unfold dT;walk_at"drop"
     ·rintro r l m ⟨o1,o2,rfl,rfl⟩ hd2
      try refine BZ.go (by assumption) ?_
      rw[Dh,Bj] at hd2;exact⟨rfl,Vt sel os gs,_,_,by rw[Rd.run_bind,W5];rfl,rfl,hd2.trans (by walk_at"drop")⟩
    ·rintro r1 l1 ⟨CL,o1,o2,ho,rfl,JB⟩;refine Eg JB ?_;walk_at"nus";exact⟨rfl,CL,_,_,ho,rfl,by walk_at"drop"⟩
  ·rintro r1 l1 ⟨CL,o1,o2,ho,rfl,JB⟩;rw[ho] at AB;refine Eg JB ?_;walk_at"nus";walk_at"nus";exact Eu.of [] (IH _ _ _ AB.symm)
noncomputable def Iy (at':Nat):Nat->Nat->Int->BA->A7->Rd (BA×A7)
 | 0,_,_,es,os=>.ret (es,os)
 |n+1,p,last,es,os=>(Nd at' p last es os).bind λx=>Iy at' n (p+11) x.1 x.2.1 x.2.2
noncomputable def Ck (at':Nat):Rd (BA×A7):=.ask at' 2 λk=>if k≠14 then .fault at' else .ask (at'+2) 4 λ_=>.ask (at'+6) 4 λn=>Iy at' n (at'+10) (-1) [] []
theorem Ua (P:PX U w T){at':Nat}(hz:b.length<=1000000)
  (IH:∀es os,(Ck at').run b=.ok (es,os)->∀v dv d o,Q (.ref v) (Ig v dv d o es os))
  (hX:∀i,(Ck at').run b=.fault i->X i) (hW:(Ck at').run b≠.C4) :
  Cg U w T (lev+7) (.ref 345) [.bytes b,.int at'] [] Q X:=by k_with"o"=>
 have TO:=P.ok;have PP:=P.toPrg;refine P.call 24 rfl ["data","at"] (λpm cd vals hv=>?_) rfl λpm cd A outer L C=>?_
 ·obtain⟨x,y,rfl⟩:=Wf hv;rfl
 refine⟨[some (.bytes b),some (.int at'),none,none,none,none,none],.cons .loc (.cons (.there .loc) .nil),?_⟩;generalize AB:(Ck at').run b=whole at IH hX hW;rw[Ck,Rd.run] at AB;refine Ct ?_;walk_at"nus";refine bT P C rfl λx dx=>?_;walk_at"nus";refine Dn (Jf ?_);walk_at"nus";refine Bk C (by walk_at"picks") (tF P hz (λF1=>?_) λh=>hX _ (by rw[<-AB,if_neg h]));rw[if_pos F1] at AB;generalize numAt b at' 2=kk at AB;walk_at"nus";by_cases hk:kk≠14
 ·rw[if_pos hk] at AB;rw[show((kk:Int) != 14)=true from by simp;omega];refine Ni (Dn (Nw PP P.x P.ct C rfl rfl ?_));walk_at"nus";exact⟨_,_,rfl,hX _ AB.symm⟩
 rw[if_neg hk,Rd.run] at AB;have hk:kk=14:=Classical.not_not.mp hk;subst hk;refine Ip ?_;walk_at"nus";refine Bk C (by walk_at"picks") (Xa P hz (λF0=>?_) λh=>hX _ (by rw[<-AB,if_neg h]));rw[if_pos F0,Rd.run] at AB;walk_at"nus";refine bW λd=>?_;walk_at"nus";refine kN λo=>?_;walk_at"nus";refine Et (λr1 l1=>∃es os o1 o2,whole=.ok (es,os)/\r1=[some (.bytes b),some (.int at'),some (.ref x),some (.ref d),some (.ref o),o1,o2]/\Bm l1 [(d,dI es),(o,dT os)]) (λK0 BV=>?_) ?_
 ·refine Jh C (λ_=>rfl) ?_;walk_at"nus";refine Bk C (by walk_at"picks") (Xa P hz (λAE=>?_) λh=>hX _ (by rw[<-AB,if_neg h]));rw[if_pos AE] at AB;have hN:=Oc b (at'+2+4) 4;change (Iy at' (numAt b (at'+2+4) 4) (at'+10) (-1) [] []).run b=whole at AB;walk_at"nus";refine Lc λra=>?_;generalize numAt b (at'+2+4) 4=N at AB hN;have hr:=Th (a:=0) (b:=N) (n:=N) (by decide) (by omega) (by omega);refine⟨_,_,_,CF x dx b (at'+2+4+4)++[(d,dI []),(o,dT [])],rfl,by unfold dI dT;walk_at"drop",Il C (n:=N) hr.1 hr.2,λi r m=>∃(q:Nat) (last:Int) (es:BA) (os:A7) (o2:Option V),r=[some (.bytes b),some (.int at'),some (.ref x),some (.ref d),some (.ref o),some (.int last),o2]/\
   m=CF x dx b q++[(d,dI es),(o,dT os)]/\(Iy at' (N-i) q last es os).run b=whole,?_,?_,?_⟩
  ·exact⟨_,-1,[],[],_,rfl,rfl,AB⟩
  ·rintro y i dd r m hy hd K hK ⟨q,last,es,os,o2,rfl,rfl,AB⟩;obtain⟨hi,rfl⟩:=Gk hd;have e:N-i=(N-(i+1))+1:=by omega
   rw[e,Iy,Rd.run_bind] at AB;refine Bt C (by walk_at"upd") ⟨rfl,?_⟩;walk_at"nus";refine Bk C (by walk_at"picks") (qY P hz (λsel A9 CL SX=>?_) (λj hj=>hX j (by rw[<-AB,hj])) λhw=>hW (by rw[<-AB,hw]));rw[SX] at AB;walk_at"nus";exact⟨CF x dx b (q+11)++[(d,dI A9),(o,dT CL)],by walk_at"drop",q+11,sel,A9,CL,_,rfl,rfl,AB⟩
  ·rintro r l m ⟨q,last,es,os,o2,rfl,rfl,AB⟩ hd
   try refine BZ.go (by assumption) ?_
   rw[Es,Mk] at AB;exact⟨rfl,es,os,_,_,AB.symm,rfl,hd.trans (by walk_at"drop")⟩
 ·rintro r1 l1 ⟨es,os,o1,o2,hw,rfl,hd⟩
  with_reducible refine Eg hd ?_
  walk_at"nus";refine bU PP C (lev:=lev+5) rfl rfl .nil λv dv=>aI PP ⟨rfl,?_⟩;walk_at"nus";walk_at"nus";exact Eu.picks (by unfold Ig;walk_at"picks") (IH es os hw _ _ _ _)
theorem vB (m:Nat):Builtin.bitAnd (m:Int) 255=((m % 256:Nat):Int):=by k_with"o"=>show(((m:Int).toNat &&& (255:Int).toNat:Nat):Int)=_;rw[Jm];exact congrArg Nat.cast (Nat.and_two_pow_sub_one_eq_mod m 8)
theorem xA (hi:i<k):Builtin.bitAnd ((n:Int).fdiv (2^(8*((k:Int)-1+(i:Int)*-1)).toNat)) 255=((UInt8.ofNat (n/256^(k-1-i) % 256)).toNat:Int):=by k_with"o"=>
 have h:=hZ (n:=n) hi;have e:(8*((k:Int)-1+(i:Int)*-1)).toNat=8*(k-1-i):=by omega
 have e2:((2:Int)^(8*(k-1-i)))=((256^(k-1-i):Nat):Int):=by rw[show(256:Nat)=2^8 from rfl,<-Nat.pow_mul,dE];rfl
 rw[e,e2] at h ⊢;rw[Ke _ (Fw _)] at h ⊢;rw[<-Int.natCast_ediv] at h ⊢;rw[vB,<-h,Qb _ (by decide)];rfl
theorem To (P:PX U w T)(hk:k<=4)(hn:n<256^k)(h:Q (.bytes (be n k)) l):Cg U w T (lev+1) (.ref 172) [.int n,.int k] l Q X:=by k_with"o"=>
 have TO:=P.ok;have PP:=P.toPrg;refine P.call 8 rfl ["number","count"] (λpm cd vals hv=>?_) rfl λpm cd A outer L C=>?_
 ·obtain⟨x,y,rfl⟩:=Wf hv;rfl
 refine⟨[some (.int n),some (.int k)],.cons .cell (.cons (.there .loc) .nil),?_⟩;refine Dn (Jf ?_);walk_at"nus";have e0:decide ((n:Int)<0)=false:=decide_eq_false (by omega);rw[e0];refine Ip ?_;walk_at"nus";have e1:((n:Int).fdiv (2^(8*(k:Int)).toNat))=0:=by
  have e:(8*(k:Int)).toNat=8*k:=by omega
  have e2:((2:Int)^(8*k))=((256^k:Nat):Int):=by rw[show(256:Nat)=2^8 from rfl,<-Nat.pow_mul,dE];rfl
  rw[e,e2,Ke _ (Fw _)];exact Int.ediv_eq_zero_of_lt (Fw _) (by exact_mod_cast hn)
 rw[e1];refine Ip ?_;walk_at"nus";refine Kt C TO (cl:=[("number",L+1)]) (emit:=λC D=>Ft _ (.ref D) _) (by walk_at"compok") (λ_=>rfl) (λC D I=>rfl) ?_;walk_at"nus";refine eI (by decide) (PyProof.noPylong_small (by decide)) λa=>?_;refine⟨a,_,_,λy=>_,rfl,λy=>.here,Il C (n:=k) (Rk hk).1 (Rk hk).2,λy hy C' D CO=>?_⟩;refine⟨[none,none,some (.int n)],λi r' l'=>∃o,r'=[none,o,some (.int n)]/\l'=(D,.list ((Xs (be n k)).take i))::(a,y)::l,by walk_at"comp0",⟨none,rfl,rfl⟩,?_,?_,?_⟩
 ·rintro i r' l' ⟨o,rfl,rfl⟩;exact⟨.tail _ (.head _),by walk_at"comp"⟩
 ·rintro i d r' l' hd ⟨o,rfl,rfl⟩;obtain⟨hi,rfl⟩:=Gk hd;refine Bt CO (by walk_at"upd") ?_;refine Gx ?_;rw[if_pos rfl];refine bV ?_;walk_at"nus";refine Abx ?_;rw[xA hi];refine⟨_,_,.here,?_,_,rfl,?_⟩
  ·rw[Av];exact Aa (Nat.min_le_left _ _) (by rw[show sizeLine=16777216 from rfl];omega)
  ·refine congrArg (λz=>(D,O.list z)::(a,y)::l) (take_snoc ?_);unfold Xs;rw[Bw,nI n k i hi];rfl
 ·rintro r' l' ⟨o,rfl,rfl⟩;refine⟨_,.there .here,?_⟩;walk_at"nus";rw[Es,Dq (by unfold Xs;rw[Ac,Bl];exact Ah _)];refine Ui C (b:=be n k) (.here .refl) (by rw[Bl];exact Aa hk (by decide)) ?_;walk_at"nus";exact Eu.of [_,_] h
noncomputable def Je (k:Nat)(p:Int×Int):List UInt8:=be p.1.toNat 3++be p.2.toNat k
noncomputable def Cq (k:Nat)(ps:List (Int×Int)):List UInt8:=if ps.isEmpty then [] else be ps.length 4++(ps.map (Je k)).flatten
structure Tw where
 kind:Nat
 at_:Nat
 nth:Nat
 KJ:Nat
noncomputable def Ln:Nat->Str
 | 0 => "record"
 | 1 => "range"
 |_ => "code"
noncomputable def Fd (x:Tw):V:=.tup [.str (Ln x.kind),.int x.at_,.int x.nth,.int x.KJ]
structure Zq where
 spots:List Tw
 parts:List UInt8
 recs:List UInt8
noncomputable def Lj (base:Nat)(st:Zq)(i:Nat)(x:De):Zq:=
 let part:=Cq 1 x.2.1;let other:=Cq 2 x.2.2;let EP:=base+st.parts.length
 {spots:=st.spots++[⟨0,10+11*i,0,i⟩]++(Ex x.2.1.length).map (λk=>⟨1,EP+4+4*k,k,i⟩)++(Ex x.2.2.length).map (λk=>⟨2,EP+part.length+4+5*k,k,i⟩),parts:=st.parts++part++other,recs:=st.recs++be x.1.toNat 3++be (if part.isEmpty then 0 else EP) 4++be (if other.isEmpty then 0 else EP+part.length) 4}
noncomputable def Ir (base:Nat):Nat->List De->Zq->Zq
 |_,[],st=>st
 |i,x::xs,st=>Ir base (i+1) xs (Lj base st i x)
noncomputable def Mu (rows:List De):Zq:=Ir (10+11*rows.length) 0 rows ⟨[],[],[]⟩
noncomputable def Ei (rows:List De):List UInt8:=be 14 2++be (10+(Mu rows).recs.length+(Mu rows).parts.length) 4++be rows.length 4++(Mu rows).recs++(Mu rows).parts
theorem aW (base:Nat)(x:De):∀(rows:List De) (i:Nat) (st:Zq),Ir base i (rows++[x]) st=Lj base (Ir base i rows st) (i+rows.length) x
 |[]=>λi st=>rfl
 |y::rows=>λi st=>by k_with"o"=>show Ir base (i+1) (rows++[x]) (Lj base st i y)=_;rw[aW base x rows (i+1)];show Lj base (Ir base (i+1) rows _) (i+1+rows.length) x=Lj base (Ir base (i+1) rows _) (i+(rows.length+1)) x;rw[show i+1+rows.length=i+(rows.length+1) from by omega]
theorem bG (k:Nat)(p:Int×Int):(Je k p).length=3+k:=by k_with"o"=>unfold Je;rw[Ab,Bl,Bl]
theorem Ii (k:Nat):∀ps:List (Int×Int),((ps.map (Je k)).flatten).length=(3+k)*ps.length
 |[]=>rfl
 |p::ps=>by k_with"o"=>rw[Aj,Hp,Ab,bG,Ii k ps,An,Nat.mul_succ,Nat.add_comm]
theorem Ij (k:Nat)(ps:List (Int×Int)):(Cq k ps).length<=4+(3+k)*ps.length:=by k_with"o"=>
 unfold Cq;walk_at"split"
 ·exact Ca _
 ·rw[Ab,Bl,Ii];exact Ah _
noncomputable def jM (k:Nat)(ps:List (Int×Int)):List V:=(ps.map (Je k)).map V.bytes
theorem bF {ps:List (Int×Int)}{p:Int×Int}(h:ps[i]?=some p):jM k (ps.take (i+1))=jM k (ps.take i)++[.bytes (Je k p)]:=by k_with"o"=>unfold jM;rw[Cc,h,Ai,Ai];rfl
def NN (ps:List (Int×Int)):Prop:=∀p∈ps,0<=p.1/\0<=p.2
theorem Mn (P:PX U w T)(C:c.Ok)(hl:c.lev=lev+1)(hk:k<=4)(h:Q (.bytes (be n k)) l):Wn U w T c (λxs=>call (.ref 399) xs) [.int n,.int k] r l Q X:=by k_with"o"=>exact(Bk C .nil (hl▸(xU P.toPrg hk).mono (λd l' ⟨h1,h2⟩=>by subst h1 h2;exact h) λ_ q=>q))
theorem Sv (P:PX U w T)(C:c.Ok){n:Int}(hl:c.lev=lev+1)(hk:k<=4)(hn:0<=n)(h:Q (.bytes (be n.toNat k)) l):Wn U w T c (λxs=>call (.ref 399) xs) [.int n,.int k] r l Q X:=by k_with"o"=>have:=Mn (r:=r) P C (n:=n.toNat) (X:=X) hl hk h;rw[Gs hn] at this;exact this
theorem Xd {rs:List Gz}{x:Gz}(h:rs[i]?=some x):∃rest,(Ee rs).Perm ((x.ra,.list (Ba x.AY))::(x.rb,.list (Ba x.rws))::rest):=by k_with"o"=>
 obtain⟨AJ,he⟩:=Bq.mp h;have h1:rs=rs.take i++x::rs.drop (i+1):=by rw[<-he,lE,Dw]
 refine⟨Ee (rs.take i)++Ee (rs.drop (i+1)),?_⟩
 conv=>lhs;rw[h1]
 unfold Ee;rw[Gp,Cp];exact(Ed.trans (.cons _ Ed))
theorem Vd {p4 p5 p6 p7 p8:Pos}{bs:List UInt8}{nm:Str}(h1:We U w T c (.Name nm p4) r l (λd l1=>d=.bytes bs/\l1=l) X)(h2:We U w T c e r l (λd l1=>d=.int (n:Nat)/\l1=l) X)
  (h3:Q (.int ((if bs.isEmpty then 0 else n:Nat):Int)) l):We U w T c (.IfExp (.Compare (.Name nm p4) [.NotEq] [.Constant (.bytes []) 0 p5] p6) e (.Constant (.int 0) 0 p7) p8) r l Q X:=by k_with"o"=>
 refine Ol (bX rfl (Pw h1 λd l1 ⟨e1,e2⟩=>?_));subst e1 e2;refine kL (Sx ⟨_,rfl,?_⟩);cases bs with
 |nil=>exact vJ h3
 |cons a t=>exact Pw h2 λd l1 ⟨e1,e2⟩=>by subst e1 e2;exact h3
theorem Oz (base:Nat):∀(rows:List De) (i:Nat) (st:Zq),(∀x∈rows,x.2.1.length<=1000/\x.2.2.length<=1000)->
  (Ir base i rows st).parts.length<=st.parts.length+9008*rows.length/\(Ir base i rows st).recs.length=st.recs.length+11*rows.length/\(Ir base i rows st).spots.length<=st.spots.length+2001*rows.length
 |[]=>λi st _=>⟨Ah _,rfl,Ah _⟩
 |x::rows=>λi st h=>by k_with"o"=>
  obtain⟨h1,h2,h3⟩:=Oz base rows (i+1) (Lj base st i x) λy hy=>h y (.tail _ hy);obtain⟨k1,k2⟩:=h x (.head _);have p1:=Ij 1 x.2.1;have p2:=Ij 2 x.2.2;have e1:(Lj base st i x).parts.length=st.parts.length+(Cq 1 x.2.1).length+(Cq 2 x.2.2).length:=by unfold Lj;rw[Ab,Ab]
  have e2:(Lj base st i x).recs.length=st.recs.length+11:=by unfold Lj;simp only[Ab,Bl]
  have e3:(Lj base st i x).spots.length=st.spots.length+1+x.2.1.length+x.2.2.length:=by unfold Lj;simp only[Ab,Ac,Fe,Fq]
  show(Ir base (i+1) rows (Lj base st i x)).parts.length<=_/\(Ir base (i+1) rows (Lj base st i x)).recs.length=_/\(Ir base (i+1) rows (Lj base st i x)).spots.length<=_;rw[An];omega
theorem rG (P:PX U w T){b:Addr}{rs:List Gz}(hr:rs.length<=20)
  (hz:∀x∈rs,x.AY.length<=1000/\x.rws.length<=1000/\0<=x.sel/\NN x.AY/\NN x.rws)
  (h:∀sp,Q (.tup [.bytes (Ei (rs.map Gz.t)),.ref sp]) ((sp,.list ((Mu (rs.map Gz.t)).spots.map Fd))::(b,.list (rs.map Kj))::Ee rs)) :
  Cg U w T (lev+2) (.ref 421) [.ref b] ((b,.list (rs.map Kj))::Ee rs) Q X:=by k_with"o"=>
 have TO:=P.ok;have PP:=P.toPrg;refine P.call 36 rfl ["rows"] (λpm cd vals hv=>?_) rfl λpm cd A outer L C=>?_
 ·obtain⟨x,rfl⟩:=Qh hv;rfl
 refine⟨[some (.ref b),none,none,none,none,none,none,none,none,none,none,none,none],.cons .loc .nil,?_⟩;refine Dn ?_;have HZ:(rs.map Kj).length=rs.length:=Ac ..;walk_at"nus";refine Hk (.here .refl) (by rw[HZ];omega) ?_;rw[HZ];walk_at"nus";intro sp;walk_at"nus";refine Hw C rfl rfl (Bt C (by walk_at"upd") (Bt C (by walk_at"upd") (Bt C (by walk_at"upd") (Bt C (by walk_at"upd") ?_))));generalize A4:10+11*rs.length=base;have G0:(10+11*(rs.length:Int))=(base:Int):=by omega
 rw[G0];have V8:∀i,∀x∈(rs.take i).map Gz.t,x.2.1.length<=1000/\x.2.2.length<=1000:=λi x hx=>by obtain⟨y,hy,rfl⟩:=Af.mp hx;obtain⟨h1,h2,_⟩:=hz y (Ka hy);exact⟨h1,h2⟩
 let FL:Nat->Zq:=λi=>Ir base 0 ((rs.take i).map Gz.t) ⟨[],[],[]⟩;refine Et (λr1 l1=>∃sp o6 o7 o8 o9 MJ MI KO JJ,r1=[some (.ref b),some (.int base),some (.ref sp),some (.bytes (FL rs.length).parts),some (.bytes (FL rs.length).recs),o6,o7,o8,o9,MJ,MI,KO,JJ]/\
  Bm l1 ((sp,.list ((FL rs.length).spots.map Fd))::(b,.list (rs.map Kj))::Ee rs)) (λK0 BV=>?_) ?_
 ·refine kV TO C rfl (PP.glob (v:=.type "enumerate") rfl) (λ_=>rfl) rfl rfl ?_;walk_at"nus";refine⟨b,_,(sp,.list [])::Ee rs,rfl,by walk_at"drop",λi r m=>∃sp o6 o7 o8 o9 MJ MI KO JJ,r=[some (.ref b),some (.int base),some (.ref sp),some (.bytes (FL i).parts),some (.bytes (FL i).recs),o6,o7,o8,o9,MJ,MI,KO,JJ]/\
   m=(sp,.list ((FL i).spots.map Fd))::Ee rs,⟨sp,_,_,_,_,_,_,_,_,rfl,rfl⟩,?_,?_⟩
  ·rintro y i d r m hy hd K hK ⟨sp,o6,o7,o8,o9,MJ,MI,KO,JJ,rfl,rfl⟩;obtain⟨x,NP,rfl⟩:∃x,rs[i]?=some x/\d=Kj x:=by
    rw[Bw] at hd;cases e:rs[i]? with
    |none=>rw[e] at hd;cases hd
    |some p=>rw[e] at hd;injection hd with hd;exact⟨p,rfl,hd.symm⟩
   obtain⟨P',JP,NM,R7,Y6⟩:=hz x (Bd NP);have DJ:FL (i+1)=Lj base (FL i) i x.t:=by show Ir base 0 ((rs.take (i+1)).map Gz.t) _=_;rw[Cc,NP,Ai];show Ir base 0 ((rs.take i).map Gz.t++[x.t]) _=_;rw[aW,Dj,Ac,Av,Ew (Fz (Gb NP))]
   obtain⟨f1,f2,f3⟩:=Oz base ((rs.take i).map Gz.t) 0 ⟨[],[],[]⟩ (V8 i);have OH:=Gb NP;have NR:((rs.take i).map Gz.t).length=i:=by rw[Ac,Av,Ew (Fz OH)]
   rw[NR] at f1 f2 f3;change (FL i).parts.length<=0+_ at f1;change (FL i).recs.length=0+_ at f2;change (FL i).spots.length<=0+_ at f3;generalize FL i=st at f1 f2 f3 DJ;simp only[Eb,Dj] at f1 f2 f3;obtain⟨rest,A1⟩:=Xd NP;refine Hw C rfl rfl (Bt C (by walk_at"upd") (Bt C (by walk_at"upd") ⟨rfl,?_⟩));refine Eg (l1:=(b,y)::(sp,.list (st.spots.map Fd))::(x.ra,.list (Ba x.AY))::(x.rb,.list (Ba x.rws))::rest) ⟨[],by rw[Au];exact .cons _ (.cons _ A1)⟩ ?_;refine Ct ?_;walk_at"nus";refine Hw C rfl rfl (Bt C (by walk_at"upd") (Bt C (by walk_at"upd") (Bt C (by walk_at"upd") ?_)));refine Et (λr1 l1=>r1=[some (.ref b),some (.int base),some (.ref sp),some (.bytes st.parts),some (.bytes st.recs),some (.int i),some (Kj x),some (.int x.sel),some (.ref x.ra),some (.ref x.rb),some (.bytes (Cq 1 x.AY)),KO,JJ]/\Bm l1 ((b,y)::(sp,.list (st.spots.map Fd))::(x.ra,.list (Ba x.AY))::(x.rb,.list (Ba x.rws))::rest)) (λK0 BV=>?_) ?_
   ·walk_at"nus";refine Ol ?_;walk_at"nus";intro b2;walk_at"nus";refine Qn C (by walk_at"has") (.here .refl) (λd hd=>by obtain⟨p,_,rfl⟩:=Af.mp hd;exact Xf _ _) ?_;walk_at"nus";by_cases he:x.AY.isEmpty=true
    ·have e1:(!(Ba x.AY).isEmpty)=false:=by unfold Ba;cases hc:x.AY with|nil=>rfl|cons a b=>rw[hc] at he;cases he
     rw[e1];refine Ip ?_;walk_at"nus";have e2:Cq 1 x.AY=[]:=by unfold Cq;rw[if_pos he]
     exact⟨rfl,by rw[e2],by walk_at"drop"⟩
    ·have e1:(!(Ba x.AY).isEmpty)=true:=by unfold Ba;cases hc:x.AY with|nil=>rw[hc] at he;exact absurd rfl he|cons a b=>rfl
     rw[e1];refine Ni ?_;walk_at"nus";refine Hk (by walk_at"has") (by rw[Dh];omega) ?_;rw[Dh];walk_at"nus";refine Mn P C rfl (by decide) ?_;walk_at"nus";refine aZ ?_;walk_at"nus";refine Kt C TO (cl:=[]) (emit:=λC D=>Ft _ (.ref D) _) (by walk_at"compok") (λ_=>rfl) (λC D I=>rfl) ?_;walk_at"nus";refine Eh.of ⟨x.ra,_,_,(b,y)::(sp,.list (st.spots.map Fd))::(x.rb,.list (Ba x.rws))::rest,rfl,by walk_at"drop",Ds C,by rw[Dh];exact Aa P' (by decide),λC' D CO=>⟨[none,none,none],λi acc r' m=>∃(o1 o2:Option V),r'=[none,o1,o2]/\
      m=(b,y)::(sp,.list (st.spots.map Fd))::(x.rb,.list (Ba x.rws))::rest/\acc=jM 1 (x.AY.take i),by walk_at"comp0",⟨none,none,rfl,rfl,rfl⟩,?_,?_,?_⟩⟩
     ·rintro i acc r' m' ⟨o1,o2,rfl,rfl,rfl⟩;walk_at"comp"
     ·rintro y3 j dd acc r' m' G7 AQ KN KS hK ⟨o1,o2,rfl,rfl,rfl⟩ AL;obtain⟨⟨p1,p2⟩,EV,rfl⟩:=Md AQ;obtain⟨GX,EF⟩:=R7 _ (Bd EV);refine Hw CO rfl rfl (Bt CO (by walk_at"upd") (Bt CO (by walk_at"upd") ⟨rfl,?_⟩));refine Gx ?_;walk_at"nus";refine Sv P CO rfl (by decide) GX ?_;walk_at"nus";refine Sv P CO rfl (by decide) EF ?_;refine Cf (by rw[Bl,Bl];decide) ?_;walk_at"nus";exact⟨_,.refl _,_,_,rfl,rfl,(bF EV).symm⟩
     ·rintro acc r' m' l' AL ⟨o1,o2,rfl,rfl,rfl⟩ hd2;rw[Dh,Bj] at hd2;refine Mj hd2 ?_;walk_at"nus";refine gH (ps:=x.AY.map (Je 1)) (.here .refl) (by rw[Ii];exact Aa (Gr _ P') (by decide)) ?_;refine Cf (by rw[Bl,Ii];have:=Gr (3+1) P';omega) ?_;walk_at"nus";have e2:Cq 1 x.AY=be x.AY.length 4++(x.AY.map (Je 1)).flatten:=by unfold Cq;rw[if_neg he]
      exact⟨rfl,by rw[e2],by walk_at"drop"⟩
   rintro r1 l1 ⟨rfl,JB⟩;refine Eg JB ?_;refine Et (λr1 l1=>r1=[some (.ref b),some (.int base),some (.ref sp),some (.bytes st.parts),some (.bytes st.recs),some (.int i),some (Kj x),some (.int x.sel),some (.ref x.ra),some (.ref x.rb),some (.bytes (Cq 1 x.AY)),some (.bytes (Cq 2 x.rws)),JJ]/\Bm l1 ((b,y)::(sp,.list (st.spots.map Fd))::(x.ra,.list (Ba x.AY))::(x.rb,.list (Ba x.rws))::rest)) (λK0 BV=>?_) ?_
   ·walk_at"nus";refine Ol ?_;walk_at"nus";intro b2;walk_at"nus";refine Qn C (by walk_at"has") (.here .refl) (λd hd=>by obtain⟨p,_,rfl⟩:=Af.mp hd;exact Xf _ _) ?_;walk_at"nus";by_cases he:x.rws.isEmpty=true
    ·have e1:(!(Ba x.rws).isEmpty)=false:=by unfold Ba;cases hc:x.rws with|nil=>rfl|cons a b=>rw[hc] at he;cases he
     rw[e1];refine Ip ?_;walk_at"nus";have e2:Cq 2 x.rws=[]:=by unfold Cq;rw[if_pos he]
     exact⟨rfl,by rw[e2],by walk_at"drop"⟩
    ·have e1:(!(Ba x.rws).isEmpty)=true:=by unfold Ba;cases hc:x.rws with|nil=>rw[hc] at he;exact absurd rfl he|cons a b=>rfl
     rw[e1];refine Ni ?_;walk_at"nus";refine Hk (by walk_at"has") (by rw[Dh];omega) ?_;rw[Dh];walk_at"nus";refine Mn P C rfl (by decide) ?_;walk_at"nus";refine aZ ?_;walk_at"nus";refine Kt C TO (cl:=[]) (emit:=λC D=>Ft _ (.ref D) _) (by walk_at"compok") (λ_=>rfl) (λC D I=>rfl) ?_;walk_at"nus";refine Eh.of ⟨x.rb,_,_,(b,y)::(sp,.list (st.spots.map Fd))::(x.ra,.list (Ba x.AY))::rest,rfl,by walk_at"drop",Ds C,by rw[Dh];exact Aa JP (by decide),λC' D CO=>⟨[none,none,none],λi acc r' m=>∃(o1 o2:Option V),r'=[none,o1,o2]/\
      m=(b,y)::(sp,.list (st.spots.map Fd))::(x.ra,.list (Ba x.AY))::rest/\acc=jM 2 (x.rws.take i),by walk_at"comp0",⟨none,none,rfl,rfl,rfl⟩,?_,?_,?_⟩⟩
     ·rintro i acc r' m' ⟨o1,o2,rfl,rfl,rfl⟩;walk_at"comp"
     ·rintro y3 j dd acc r' m' G7 AQ KN KS hK ⟨o1,o2,rfl,rfl,rfl⟩ AL;obtain⟨⟨p1,p2⟩,EV,rfl⟩:=Md AQ;obtain⟨GX,EF⟩:=Y6 _ (Bd EV);refine Hw CO rfl rfl (Bt CO (by walk_at"upd") (Bt CO (by walk_at"upd") ⟨rfl,?_⟩));refine Gx ?_;walk_at"nus";refine Sv P CO rfl (by decide) GX ?_;walk_at"nus";refine Sv P CO rfl (by decide) EF ?_;refine Cf (by rw[Bl,Bl];decide) ?_;walk_at"nus";exact⟨_,.refl _,_,_,rfl,rfl,(bF EV).symm⟩
     ·rintro acc r' m' l' AL ⟨o1,o2,rfl,rfl,rfl⟩ hd2;rw[Dh,Bj] at hd2;refine Mj hd2 ?_;walk_at"nus";refine gH (ps:=x.rws.map (Je 2)) (.here .refl) (by rw[Ii];exact Aa (Gr _ JP) (by decide)) ?_;refine Cf (by rw[Bl,Ii];have:=Gr (3+2) JP;omega) ?_;walk_at"nus";have e2:Cq 2 x.rws=be x.rws.length 4++(x.rws.map (Je 2)).flatten:=by unfold Cq;rw[if_neg he]
      exact⟨rfl,by rw[e2],by walk_at"drop"⟩
   rintro r1 l1 ⟨rfl,JB⟩;refine Eg JB ?_;have cg:(base:Int)+(st.parts.length:Int)=((base+st.parts.length:Nat):Int):=(Int.natCast_add _ _).symm;have TC:=Ij 1 x.AY;have TB:=Ij 2 x.rws;refine Ct ?_;walk_at"nus";refine Gi (Aa (m:=9008*20) (by omega) (by decide)) ?_;walk_at"nus";rw[cg];generalize UR:base+st.parts.length=bg;walk_at"nus"
   rotate_left
   ·rw[Ac];exact Aa (m:=2001*20) (by omega) (by decide)
   have ZS:V.tup [V.str (Str.ofString "record"),V.int (10+11*(i:Int)),V.int 0,V.int (i:Int)]=Fd ⟨0,10+11*i,0,i⟩:=by show _=V.tup [V.str "record",V.int ((10+11*i:Nat):Int),V.int ((0:Nat):Int),V.int (i:Int)];rw[show((10+11*i:Nat):Int)=10+11*(i:Int) from by omega];rfl
   rw[ZS];have SO:st.spots.map Fd++[Fd ⟨0,10+11*i,0,i⟩]=(st.spots++[(⟨0,10+11*i,0,i⟩:Tw)]).map Fd:=by rw[Ai];rfl
   rw[SO];generalize NW:st.spots++[(⟨0,10+11*i,0,i⟩:Tw)]=C6;have ZO:C6.length<=2001*19+1:=by rw[<-NW,Ab];show _+1<=_;omega
   refine Kt C TO (cl:=[("nth",L+1),("begin",L+3)]) (emit:=λC D=>Ft _ (.ref D) _) (by walk_at"compok") (λ_=>rfl) (λC D I=>rfl) ?_;walk_at"nus";refine Hk (by walk_at"has") (by rw[Dh];omega) ?_;rw[Dh];walk_at"nus";refine Lc λra=>?_;have QD:=Th (a:=0) (b:=x.AY.length) (n:=x.AY.length) (by decide) (by omega) (by omega);refine Eh.of ⟨ra,_,_,(b,y)::(sp,.list (C6.map Fd))::(x.ra,.list (Ba x.AY))::(x.rb,.list (Ba x.rws))::rest,rfl,by walk_at"drop",Il C (n:=x.AY.length) QD.1 QD.2,by rw[Es];exact Aa P' (by decide),λC' D CO=>
    ⟨[none,none,some (.int bg),some (.int i)],λj acc r' m=>∃o1,r'=[none,o1,some (.int bg),some (.int i)]/\m=(b,y)::(sp,.list (C6.map Fd))::(x.ra,.list (Ba x.AY))::(x.rb,.list (Ba x.rws))::rest/\
     acc=((Ex j).map λk=>Fd ⟨1,bg+4+4*k,k,i⟩),by walk_at"comp0",⟨none,rfl,rfl,rfl⟩,?_,?_,?_⟩⟩
   ·rintro j acc r' m' ⟨o1,rfl,rfl,rfl⟩;walk_at"comp"
   ·rintro y3 j dd acc r' m' G7 AQ KN KS hK ⟨o1,rfl,rfl,rfl⟩ AL;obtain⟨hj,rfl⟩:=Gk AQ;rw[show(0:Int)+(j:Int)*1=(j:Int) from by omega];refine Bt CO (by walk_at"upd") ⟨rfl,?_⟩;refine Gx ?_;walk_at"nus";refine⟨_,.refl _,_,rfl,rfl,?_⟩;rw[cG,Ai];refine congrArg (_++[·]) ?_;show _=V.tup [V.str "range",V.int ((bg+4+4*j:Nat):Int),V.int ((j:Nat):Int),V.int (i:Int)];rw[show((bg+4+4*j:Nat):Int)=(bg:Int)+4+4*(j:Int) from by omega]
   rintro acc r' m' l' AL ⟨o1,rfl,rfl,rfl⟩ OU;rw[Es] at OU AL;refine gM OU ?_;refine Pg (by walk_at"has") (by walk_at"has") (by rw[Ac,Ac,Fe];exact Aa (m:=2001*19+1+1000) (by omega) (by decide)) λVX=>?_;have SN:C6.map Fd++((Ex x.AY.length).map λk=>Fd ⟨1,bg+4+4*k,k,i⟩)=(C6++(Ex x.AY.length).map λk=>(⟨1,bg+4+4*k,k,i⟩:Tw)).map Fd:=by rw[Ai,Ay];rfl
   rw[SN];generalize NV:(C6++(Ex x.AY.length).map λk=>(⟨1,bg+4+4*k,k,i⟩:Tw))=C5;have ZN:C5.length<=2001*19+1001:=by rw[<-NV,Ab,Ac,Fe];omega
   walk_at"nus";generalize ZW:Cq 1 x.AY=part at TC ⊢;generalize ZY:Cq 2 x.rws=other at TB ⊢;refine Kt C TO (cl:=[("part",L+2),("nth",L+1),("begin",L+3)]) (emit:=λC D=>Ft _ (.ref D) _) (by walk_at"compok") (λ_=>rfl) (λC D I=>rfl) ?_;walk_at"nus";refine Hk (by walk_at"has") (by rw[Dh];omega) ?_;rw[Dh];walk_at"nus";refine Lc λrb=>?_;have GW:=Th (a:=0) (b:=x.rws.length) (n:=x.rws.length) (by decide) (by omega) (by omega);refine Eh.of ⟨rb,_,_,(b,y)::(VX,.list (C5.map Fd))::(x.ra,.list (Ba x.AY))::(x.rb,.list (Ba x.rws))::rest,rfl,by walk_at"drop",Il C (n:=x.rws.length) GW.1 GW.2,by rw[Es];exact Aa JP (by decide),λC' D CO=>
    ⟨[none,none,some (.int bg),some (.int i),some (.bytes part)],λj acc r' m=>∃o1,r'=[none,o1,some (.int bg),some (.int i),some (.bytes part)]/\m=(b,y)::(VX,.list (C5.map Fd))::(x.ra,.list (Ba x.AY))::(x.rb,.list (Ba x.rws))::rest/\
     acc=((Ex j).map λk=>Fd ⟨2,bg+part.length+4+5*k,k,i⟩),by walk_at"comp0",⟨none,rfl,rfl,rfl⟩,?_,?_,?_⟩⟩
   ·rintro j acc r' m' ⟨o1,rfl,rfl,rfl⟩;walk_at"comp"
   ·rintro y3 j dd acc r' m' G7 AQ KN KS hK ⟨o1,rfl,rfl,rfl⟩ AL;obtain⟨hj,rfl⟩:=Gk AQ;rw[show(0:Int)+(j:Int)*1=(j:Int) from by omega];refine Bt CO (by walk_at"upd") ⟨rfl,?_⟩;refine Gx ?_;walk_at"nus";refine Gi (Aa (m:=4004) (by omega) (by decide)) ?_;walk_at"nus";refine⟨_,.refl _,_,rfl,rfl,?_⟩;rw[cG,Ai];refine congrArg (_++[·]) ?_;show _=V.tup [V.str "code",V.int ((bg+part.length+4+5*j:Nat):Int),V.int ((j:Nat):Int),V.int (i:Int)];rw[show((bg+part.length+4+5*j:Nat):Int)=(bg:Int)+(part.length:Int)+4+5*(j:Int) from by omega]
   rintro acc r' m' l' AL ⟨o1,rfl,rfl,rfl⟩ OU;rw[Es] at OU AL;refine gM OU ?_;refine Pg (by walk_at"has") (by walk_at"has") (by rw[Ac,Ac,Fe];exact Aa (m:=2001*19+1001+1000) (by omega) (by decide)) λQ4=>?_;have SK:C5.map Fd++((Ex x.rws.length).map λk=>Fd ⟨2,bg+part.length+4+5*k,k,i⟩)=(C5++(Ex x.rws.length).map λk=>(⟨2,bg+part.length+4+5*k,k,i⟩:Tw)).map Fd:=by rw[Ai,Ay];rfl
   rw[SK];generalize SI:(C5++(Ex x.rws.length).map λk=>(⟨2,bg+part.length+4+5*k,k,i⟩:Tw))=FU;walk_at"nus";refine Sv (k:=3) P C rfl (by decide) NM ?_;refine Cf (by rw[Bl];omega) ?_;walk_at"nus";refine Vd (n:=bg) (bs:=part) ?_ ?_ ?_
   ·walk_at"nus";exact⟨rfl,rfl⟩
   ·walk_at"nus";exact⟨rfl,rfl⟩
   walk_at"nus";refine Mn (k:=4) P C rfl (by decide) ?_;refine Cf (by rw[Ab,Bl,Bl];omega) ?_;walk_at"nus";refine Vd (n:=bg+part.length) (bs:=other) ?_ ?_ ?_
   ·walk_at"nus";exact⟨rfl,rfl⟩
   ·walk_at"nus";refine Gi (Aa (m:=4004) (by omega) (by decide)) ?_;walk_at"nus";exact⟨by rw[Int.natCast_add],rfl⟩
   walk_at"nus";refine Mn (k:=4) P C rfl (by decide) ?_;refine Cf (by rw[Ab,Ab,Bl,Bl,Bl];omega) ?_;walk_at"nus";refine Cf (by omega) ?_;walk_at"nus";refine Cf (by rw[Ab];omega) ?_;walk_at"nus";have FE:FL (i+1)=⟨FU,st.parts++part++other,st.recs++be x.sel.toNat 3++be (if part.isEmpty then 0 else bg) 4++be (if other.isEmpty then 0 else bg+part.length) 4⟩:=by rw[DJ,<-SI,<-NV,<-NW,<-ZW,<-ZY,<-UR];rfl
   refine⟨(Q4,.list (FU.map Fd))::Ee rs,?_,Q4,_,_,_,_,_,_,_,_,by rw[FE],by rw[FE]⟩;refine Bm.trans (b:=(b,y)::(Q4,.list (FU.map Fd))::(x.ra,.list (Ba x.AY))::(x.rb,.list (Ba x.rws))::rest) (by walk_at"drop") ⟨[],?_⟩;rw[Au];exact .cons _ (.cons _ A1.symm)
  ·rintro r l m ⟨sp,o6,o7,o8,o9,MJ,MI,KO,JJ,rfl,rfl⟩ hd
   try refine BZ.go (by assumption) ?_
   rw[HZ] at hd ⊢;exact⟨rfl,sp,_,_,_,_,_,_,_,_,rfl,hd.trans (by walk_at"drop")⟩
 ·rintro r1 l1 ⟨sp,o6,o7,o8,o9,MJ,MI,KO,JJ,rfl,hd⟩
  with_reducible refine Eg hd ?_
  have AM:FL rs.length=Mu (rs.map Gz.t):=by show Ir base 0 ((rs.take rs.length).map Gz.t) _=Ir (10+11*(rs.map Gz.t).length) 0 _ _;rw[Bj,Ac,A4]
  obtain⟨f1,f2,f3⟩:=Oz base ((rs.take rs.length).map Gz.t) 0 ⟨[],[],[]⟩ (V8 _);change (FL rs.length).parts.length<=_ at f1;change (FL rs.length).recs.length=_ at f2;rw[Ac,Bj] at f1 f2;simp only[Eb,Dj] at f1 f2;rw[AM] at f1 f2 ⊢;walk_at"nus";refine Mn (k:=2) (n:=14) P C rfl (by decide) ?_;walk_at"nus";refine Gi (Aa (m:=11*20) (by omega) (by decide)) ?_;walk_at"nus";refine Gi (Aa (m:=9008*20) (by omega) (by decide)) ?_;walk_at"nus";rw[show(10:Int)+((Mu (rs.map Gz.t)).recs.length:Int)+((Mu (rs.map Gz.t)).parts.length:Int)=((10+(Mu (rs.map Gz.t)).recs.length+(Mu (rs.map Gz.t)).parts.length:Nat):Int) from by omega];refine Mn (k:=4) P C rfl (by decide) ?_;refine Cf (by rw[Bl,Bl];decide) ?_;walk_at"nus";refine Hk (by walk_at"has") (by rw[HZ];omega) ?_;rw[HZ];walk_at"nus";refine Mn (k:=4) P C rfl (by decide) ?_;refine Cf (by rw[Ab,Bl,Bl,Bl];decide) ?_;walk_at"nus";refine Cf (by rw[Ab,Ab,Bl,Bl,Bl];omega) ?_;walk_at"nus";refine Cf (by rw[Ab,Ab,Ab,Bl,Bl,Bl];omega) ?_;walk_at"nus";refine Eu.of [] ?_;have:=h sp;unfold Ei at this;rw[Ac] at this;exact this
section
open Cl
theorem Abe {env:Env}{o:Expr}{attr:Str}{pos':Pos}{value:Expr}{Q:Flow->Shared->Prop}
  (h:AI (model U w) A (eval value env) (λv s₁=>wpAny (model U w) A (eval o env) (λov s₂=>wpAny (model U w) A (setAttr ov attr v) (λ_=>Q .next) E s₂) E s₁) E s)
  (hs:swapsWith value (some (.Attribute o attr pos')) pos.line env=pure false):AI (model U w) A (exec (.Assign [.Attribute o attr pos'] value pos) env) Q E s:=by k_with"o"=>exact(fun Γ p hΓ hC=>by
 simp only[plainObj_exec_Assign_Attribute o attr pos' value pos hs,assign_Attribute,Sem.wp_bind',Sem.wp_holding,Sem.wp_cmd_standAt,Sem.wp_release,Sem.wp_pure'];exact Sem.wp_mono _ Γ _ (λv p₁ s₁ h₁=>Sem.wp_mono _ Γ _ (λov _ s₂ h₂=>h₂ Γ _ hΓ) (λ_ _ _ h'=>h') _ _ (h₁ Γ p₁ hΓ)) (λ_ _ _ h'=>h') _ _ (h Γ _ hΓ hC))
theorem oK {Q:Fl->Rg->Led->Prop}{o:Expr}{attr:Str}{p:Pos}(P:Prg U w T)(hs:swapsWith e (some (.Attribute o attr p)) pos.line c.env=pure false)
  (h:EX U w T c e r l (λd l1=>We U w T c o r l1 (λt l2=>∃(a C dd:Addr) (fs:List (Str×V)) (l3:Led),t=.ref a/\AP l2 a (.inst C dd)/\A5 l2 dd (.ns fs) (.ns (Pp fs attr d)) l3/\Nj C attr=true/\(Pp fs attr d).length<=1000/\Q .next r l3) X) X) :
  Px U w T c (.Assign [.Attribute o attr p] e pos) r l Q X:=by k_with"o"=>exact(λs R=>
 Abe (Br (h s R) (λv s1 ⟨d,l1,rv,R1,S1,q⟩=>wpAny_mono (q s1 R1) (λov s2 ⟨t,l2,rt,R2,S2,a,C,dd,fs,l3,ht,h1,h2,h4,h5,h6⟩=>by subst ht;cases rt;exact wpAny_mono (iA (Q:=λr' l'=>Q .next r' l') P.ok R2 h1 h2 (P.field h4).1 (P.field h4).2 h5 (rv.AD (R1.AD S2)) (S1.trans S2) h6) (λ_ s3 ⟨r',l',R3,S3,q⟩=>⟨.next,r',l',rfl,R3,S3,q⟩) λ_ _ e=>e) λ_ _ e=>e.shift S1 λ_ q=>q) λ_ _ e=>e) hs)
noncomputable abbrev Mr (x dx m:Addr)(bs:List UInt8):Led:=[(x,.inst 259 dx),(dx,.ns [("made",.ref m)]),(m,.DR bs)]
theorem lY (P:PX U w T){x dx:Addr}(h:∀m,Q .none (Mr x dx m [])) :
  Ji U w T (lev+1) (.ref 186) [.ref x] [(x,.inst 259 dx),(dx,.ns [])] Q X:=by k_with"o"=>
 have TO:=P.ok;have PP:=P.toPrg;refine PP.callC 9 rfl ["self"] (λpm cd vals hv=>?_) rfl λpm cd A outer L C G=>?_
 ·obtain⟨x,rfl⟩:=Qh hv;rfl
 refine⟨[some (.ref x)],.cons .loc .nil,?_⟩;refine Dy (oK PP rfl ?_);refine Jt PP C rfl rfl rfl rfl rfl rfl (Dp.of (Mi ?_));refine dA G λm=>?_;walk_at"nus";refine Ks ?_;walk_at"nus";exact Eu.picks (by walk_at"picks") (h m)
theorem aC (P:PX U w T)(C:c.Ok)(G:c.A.guards=some [])(hl:c.lev=lev+2)(h:∀x dx m,Q (.ref x) (Mr x dx m []++l)) :
  IC U w T c (λxs=>call (.ref 259) xs) [] r l Q X:=by k_with"o"=>exact(vH P.toPrg C G (lev:=lev+1) hl rfl λx dx=>lY P λm=>⟨rfl,h x dx m⟩)
theorem Nf (P:PX U w T){x dx m:Addr}{bs:List UInt8}(hz:bs.length<=16777216)(h:Q (.bytes bs) (Mr x dx m bs)) :
  Cg U w T (lev+1) (.ref 256) [.ref x] (Mr x dx m bs) Q X:=by k_with"o"=>
 have TO:=P.ok;have PP:=P.toPrg;refine P.call 14 rfl ["self"] (λpm cd vals hv=>?_) rfl λpm cd A outer L C=>?_
 ·obtain⟨x,rfl⟩:=Qh hv;rfl
 refine⟨[some (.ref x)],.cons .loc .nil,?_⟩;refine Gm ?_;walk_at"nus";refine cZ (by walk_at"has") hz ?_;walk_at"nus";exact Eu.of [] h
theorem Acl (P:PX U w T){x dx m:Addr}{bs:List UInt8}(hn:n<256)(hz:bs.length+1<=16777216)(h:Q .none (Mr x dx m (bs++be n 1))) :
  Ji U w T (lev+2) (.ref 193) [.ref x,.int n] (Mr x dx m bs) Q X:=by k_with"o"=>
 have TO:=P.ok;have PP:=P.toPrg;refine PP.callC 10 rfl ["self","number"] (λpm cd vals hv=>?_) rfl λpm cd A outer L C G=>?_
 ·obtain⟨x,y,rfl⟩:=Wf hv;rfl
 refine⟨[some (.ref x),some (.int n)],.cons .loc (.cons (.there .loc) .nil),?_⟩;refine Dy (Fp rfl rfl (Ep TO rfl rfl ?_));walk_at"nus";refine Vy (by walk_at"has") (Dp.of ?_);walk_at"nus";refine Bk C .nil (To P (k:=1) (by decide) hn ?_);walk_at"nus";refine Lr G (by walk_at"put") (by rw[Bl];exact hz) (Ks ?_);walk_at"nus";exact Eu.of [] h
theorem tX (P:PX U w T){x dx m:Addr}{bs:List UInt8}(hn:n<65536)(hz:bs.length+2<=16777216)(h:Q .none (Mr x dx m (bs++be n 2))) :
  Ji U w T (lev+2) (.ref 200) [.ref x,.int n] (Mr x dx m bs) Q X:=by k_with"o"=>
 have TO:=P.ok;have PP:=P.toPrg;refine PP.callC 11 rfl ["self","number"] (λpm cd vals hv=>?_) rfl λpm cd A outer L C G=>?_
 ·obtain⟨x,y,rfl⟩:=Wf hv;rfl
 refine⟨[some (.ref x),some (.int n)],.cons .loc (.cons (.there .loc) .nil),?_⟩;refine Dy (Fp rfl rfl (Ep TO rfl rfl ?_));walk_at"nus";refine Vy (by walk_at"has") (Dp.of ?_);walk_at"nus";refine Bk C .nil (To P (k:=2) (by decide) hn ?_);walk_at"nus";refine Lr G (by walk_at"put") (by rw[Bl];exact hz) (Ks ?_);walk_at"nus";exact Eu.of [] h
theorem mA (P:PX U w T){x dx m:Addr}{bs:List UInt8}(hn:n<16777216)(hz:bs.length+3<=16777216)(h:Q .none (Mr x dx m (bs++be n 3))) :
  Ji U w T (lev+2) (.ref 214) [.ref x,.int n] (Mr x dx m bs) Q X:=by k_with"o"=>
 have TO:=P.ok;have PP:=P.toPrg;refine PP.callC 12 rfl ["self","number"] (λpm cd vals hv=>?_) rfl λpm cd A outer L C G=>?_
 ·obtain⟨x,y,rfl⟩:=Wf hv;rfl
 refine⟨[some (.ref x),some (.int n)],.cons .loc (.cons (.there .loc) .nil),?_⟩;refine Dy (Fp rfl rfl (Ep TO rfl rfl ?_));walk_at"nus";refine Vy (by walk_at"has") (Dp.of ?_);walk_at"nus";refine Bk C .nil (To P (k:=3) (by decide) hn ?_);walk_at"nus";refine Lr G (by walk_at"put") (by rw[Bl];exact hz) (Ks ?_);walk_at"nus";exact Eu.of [] h
theorem aX (P:PX U w T){x dx m:Addr}{bs:List UInt8}(hn:n<4294967296)(hz:bs.length+4<=16777216)(h:Q .none (Mr x dx m (bs++be n 4))) :
  Ji U w T (lev+2) (.ref 221) [.ref x,.int n] (Mr x dx m bs) Q X:=by k_with"o"=>
 have TO:=P.ok;have PP:=P.toPrg;refine PP.callC 13 rfl ["self","number"] (λpm cd vals hv=>?_) rfl λpm cd A outer L C G=>?_
 ·obtain⟨x,y,rfl⟩:=Wf hv;rfl
 refine⟨[some (.ref x),some (.int n)],.cons .loc (.cons (.there .loc) .nil),?_⟩;refine Dy (Fp rfl rfl (Ep TO rfl rfl ?_));walk_at"nus";refine Vy (by walk_at"has") (Dp.of ?_);walk_at"nus";refine Bk C .nil (To P (k:=4) (by decide) hn ?_);walk_at"nus";refine Lr G (by walk_at"put") (by rw[Bl];exact hz) (Ks ?_);walk_at"nus";exact Eu.of [] h
end
section
open Cl
theorem dX {ps:List (Int×Int)}{p:Int×Int}(h:ps[i]?=some p):((ps.take (i+1)).map (Je k)).flatten=((ps.take i).map (Je k)).flatten++Je k p:=by k_with"o"=>rw[Cc,h,Ai,Ku];simp
def oP (k:Nat)(ps:List (Int×Int)):Prop:=∀p∈ps,0<=p.1/\p.1<16777216/\0<=p.2/\p.2<(256^k:Nat)
theorem fF (P:PX U w T){cs:List Int}(hz:cs.length<=1000)(hf:oP 1 (Bn cs))(h:Q (.bytes (Cq 1 (Bn cs))) l):Ji U w T (lev+3) (.ref 359) [.tup (intsOf cs)] l Q X:=by k_with"o"=>
 have TO:=P.ok;have PP:=P.toPrg;have J8:=P;refine PP.callC 26 rfl ["codes"] (λpm cd vals hv=>?_) rfl λpm cd A outer L C G=>?_
 ·obtain⟨x,rfl⟩:=Qh hv;rfl
 refine⟨[some (.tup (intsOf cs)),none,none,none,none],.cons .loc .nil,?_⟩;have CY:(Bn cs).length<=1000:=Aa (Iz _) hz;refine Dy (gO (F6.of ?_));walk_at"nus";refine Oj (by rw[Bu];omega) ?_;rw[Bu];walk_at"nus";by_cases he:cs.isEmpty=true
 ·have e1:cs=[]:=Ha.mp he;subst e1;refine Ni (BU.of ?_);walk_at"nus";walk_at"nus";exact Eu.of [] h
 have e1:((cs.length:Int)==0)=false:=by cases cs with|nil=>exact absurd rfl he|cons a t=>rw[An];exact beq_eq_false_iff_ne.mpr (by omega)
 rw[e1];refine Ip (Ks ?_);have BK:¬(Bn cs).isEmpty=true:=by rw[Hn];exact he
 refine Hr ?_;walk_at"nus";refine Bk C .nil (fZ (l:=[]) PP (Aa hz (by decide)) λa=>?_);walk_at"nus";refine Dy (Tr C rfl ?_);refine Jt PP C rfl rfl rfl rfl rfl rfl (Dp.of (Mi ?_));refine aC P C G (lev:=lev) rfl λx dx m=>?_;refine⟨_,by walk_at"upd",?_⟩;refine Dy (Fp rfl rfl (Ep TO rfl rfl ?_));walk_at"nus";refine Sh PP (by walk_at"has") (by walk_at"has") rfl rfl (by decide) (Dp.of ?_);walk_at"nus";refine Hk (by walk_at"has") (by rw[Dh];omega) ?_;rw[Dh];walk_at"nus";refine Gy C G (by walk_at"picks") (aX P (by omega) (by show 0+4<=_;decide) ?_);refine Mh (λr1 l1=>(∃o1 o2,r1=[some (.tup (intsOf cs)),some (.ref a),some (.ref x),o1,o2])/\Bm l1 (Mr x dx m (Cq 1 (Bn cs))++l)) (λK0 BV=>?_) ?_
 ·refine Xz C (λ_=>rfl) ?_;walk_at"nus";refine⟨a,_,_,Mr x dx m (be (Bn cs).length 4)++l,rfl,by walk_at"drop",Ds C,λi r m'=>∃o1 o2,r=[some (.tup (intsOf cs)),some (.ref a),some (.ref x),o1,o2]/\m'=Mr x dx m (be (Bn cs).length 4++(((Bn cs).take i).map (Je 1)).flatten)++l,⟨_,_,rfl,by simp⟩,?_,?_⟩
  ·rintro y i dd r m' hy AQ K hK ⟨o1,o2,rfl,rfl⟩;obtain⟨⟨p1,p2⟩,IZ,rfl⟩:=Md AQ;obtain⟨h1,h2,h3,h4⟩:=hf _ (Bd IZ);dsimp only at h1 h2 h3 h4;obtain⟨n1,rfl⟩:=Gh h1;obtain⟨n2,rfl⟩:=Gh h3;have hlen:((((Bn cs).take i).map (Je 1)).flatten).length<=5000:=by rw[Ii,Av];have:=Gb IZ;rw[Ew (by omega)];omega
   refine Hw C rfl rfl (Bt C (by walk_at"upd") (Bt C (by walk_at"upd") ⟨rfl,?_⟩));refine Dy (Fp rfl rfl (Ep TO rfl rfl ?_));walk_at"nus";refine Sh PP (by walk_at"has") (by walk_at"has") rfl rfl (by decide) (Dp.of ?_);walk_at"nus";refine Gy C G (by walk_at"picks") (mA P (by omega) (by rw[Ab,Bl];omega) ?_);refine Dy (Fp rfl rfl (Ep TO rfl rfl ?_));walk_at"nus";refine Sh PP (by walk_at"has") (by walk_at"has") rfl rfl (by decide) (Dp.of ?_);walk_at"nus";refine Gy C G (by walk_at"picks") (Acl P (by omega) (by rw[Ab,Ab,Bl,Bl];omega) (Ks ?_));refine BZ.go hK (Ph ⟨Mr x dx m (be (Bn cs).length 4++(((Bn cs).take (i+1)).map (Je 1)).flatten)++l,?_,_,_,rfl,rfl⟩);rw[dX IZ];have e:Je 1 ((n1:Int),(n2:Int))=be n1 3++be n2 1:=rfl;rw[e,<-Ax,<-Ax];walk_at"drop"
  ·rintro r l m' ⟨o1,o2,rfl,rfl⟩ hd
   try refine BZ.go (by assumption) ?_
   rw[Dh,Bj] at hd;refine⟨rfl,⟨_,_,rfl⟩,hd.trans ?_⟩;have e:Cq 1 (Bn cs)=be (Bn cs).length 4++((Bn cs).map (Je 1)).flatten:=by unfold Cq;rw[if_neg BK]
   rw[e];walk_at"drop"
 ·rintro r1 l1 ⟨⟨o1,o2,rfl⟩,hd⟩;refine Jg hd (BU.of ?_);walk_at"nus";refine Bk C (by walk_at"picks") (Nf J8 ?_ ?_)
  ·exact Aa (Ij _ _) (by have:=Gr (3+1) CY;omega)
  walk_at"nus";exact Eu.of (Mr x dx m _) h
theorem fW (P:PX U w T){ps:List (Int×Int)}(CY:ps.length<=1000)(hf:oP 2 ps)(h:Q (.bytes (Cq 2 ps)) [(a,.list (Ba ps))]):Ji U w T (lev+3) (.ref 366) [.ref a] [(a,.list (Ba ps))] Q X:=by k_with"o"=>
 have TO:=P.ok;have PP:=P.toPrg;have J8:=P;refine PP.callC 27 rfl ["rows"] (λpm cd vals hv=>?_) rfl λpm cd A outer L C G=>?_
 ·obtain⟨x,rfl⟩:=Qh hv;rfl
 refine⟨[some (.ref a),none,none,none],.cons .loc .nil,?_⟩;refine Dy (gO (F6.of ?_));walk_at"nus";intro b2;walk_at"nus";refine eN C (by walk_at"has") (.here .refl) (λd hd=>by obtain⟨p,_,rfl⟩:=Af.mp hd;exact Xf _ _) ?_;walk_at"nus";by_cases he:ps.isEmpty=true
 ·have e1:ps=[]:=Ha.mp he;subst e1;refine Ni (BU.of ?_);walk_at"nus";walk_at"nus";exact Eu.picks (by walk_at"picks") h
 have e1:(Ba ps).isEmpty=false:=by unfold Ba;cases ps with|nil=>exact absurd rfl he|cons a t=>rfl
 rw[e1];refine Ip (Ks ?_);refine Dy (Tr C rfl ?_);refine Jt PP C rfl rfl rfl rfl rfl rfl (Dp.of (Mi ?_));refine aC P C G (lev:=lev) rfl λx dx m=>?_;refine⟨_,by walk_at"upd",?_⟩;refine Dy (Fp rfl rfl (Ep TO rfl rfl ?_));walk_at"nus";refine Sh PP (by walk_at"has") (by walk_at"has") rfl rfl (by decide) (Dp.of ?_);walk_at"nus";refine Hk (by walk_at"has") (by rw[Dh];omega) ?_;rw[Dh];walk_at"nus";refine Gy C G (by walk_at"picks") (aX P (by omega) (by show 0+4<=_;decide) ?_);refine Mh (λr1 l1=>(∃o1 o2,r1=[some (.ref a),some (.ref x),o1,o2])/\Bm l1 (Mr x dx m (Cq 2 ps)++[(a,.list (Ba ps))])) (λK0 BV=>?_) ?_
 ·refine Xz C (λ_=>rfl) ?_;walk_at"nus";refine⟨a,_,_,Mr x dx m (be ps.length 4)++[],rfl,by walk_at"drop",Ds C,λi r m'=>∃o1 o2,r=[some (.ref a),some (.ref x),o1,o2]/\m'=Mr x dx m (be ps.length 4++((ps.take i).map (Je 2)).flatten)++[],⟨_,_,rfl,by simp⟩,?_,?_⟩
  ·rintro y i dd r m' hy AQ K hK ⟨o1,o2,rfl,rfl⟩;obtain⟨⟨p1,p2⟩,IZ,rfl⟩:=Md AQ;obtain⟨h1,h2,h3,h4⟩:=hf _ (Bd IZ);dsimp only at h1 h2 h3 h4;obtain⟨n1,rfl⟩:=Gh h1;obtain⟨n2,rfl⟩:=Gh h3;have hlen:(((ps.take i).map (Je 2)).flatten).length<=5000:=by rw[Ii,Av];have:=Gb IZ;rw[Ew (by omega)];omega
   refine Hw C rfl rfl (Bt C (by walk_at"upd") (Bt C (by walk_at"upd") ⟨rfl,?_⟩));refine Dy (Fp rfl rfl (Ep TO rfl rfl ?_));walk_at"nus";refine Sh PP (by walk_at"has") (by walk_at"has") rfl rfl (by decide) (Dp.of ?_);walk_at"nus";refine Gy C G (by walk_at"picks") (mA P (by omega) (by rw[Ab,Bl];omega) ?_);refine Dy (Fp rfl rfl (Ep TO rfl rfl ?_));walk_at"nus";refine Sh PP (by walk_at"has") (by walk_at"has") rfl rfl (by decide) (Dp.of ?_);walk_at"nus";refine Gy C G (by walk_at"picks") (tX P (by omega) (by rw[Ab,Ab,Bl,Bl];omega) (Ks ?_));refine BZ.go hK (Ph ⟨Mr x dx m (be ps.length 4++((ps.take (i+1)).map (Je 2)).flatten)++[],?_,_,_,rfl,rfl⟩);rw[dX IZ];have e:Je 2 ((n1:Int),(n2:Int))=be n1 3++be n2 2:=rfl;rw[e,<-Ax,<-Ax];walk_at"drop"
  ·rintro r l m' ⟨o1,o2,rfl,rfl⟩ hd
   try refine BZ.go (by assumption) ?_
   rw[Dh,Bj] at hd;refine⟨rfl,⟨_,_,rfl⟩,hd.trans ?_⟩;have e:Cq 2 ps=be ps.length 4++(ps.map (Je 2)).flatten:=by unfold Cq;rw[if_neg he]
   rw[e];walk_at"drop"
 ·rintro r1 l1 ⟨⟨o1,o2,rfl⟩,hd⟩;refine Jg hd (BU.of ?_);walk_at"nus";refine Bk C (by walk_at"picks") (Nf J8 ?_ ?_)
  ·exact Aa (Ij _ _) (by have:=Gr (3+2) CY;omega)
  walk_at"nus";exact Eu.picks (by walk_at"picks") h
end
section
open Cl
noncomputable abbrev Py:=List (Int×List (Int×Int))
noncomputable def Kl:Py->Int->Int×Int->Py
 |[],k,p=>[(k,[p])]
 |(j,ps)::r,k,p=>if j=k then (j,ps++[p])::r else (j,ps)::Kl r k p
noncomputable def Nc (es:BA):Py:=(es.filter λe=>!e.2.isEmpty).map λe=>(e.1,[])
noncomputable def Qt (es:BA)(os:A7)(ks:List (List Int)):Py:=ks.foldl (λt k=>Kl t (Gv k) (Mt k,Cn os k)) (Nc es)
noncomputable def Jw (t:Py)(k:Int):List (Int×Int):=(Ey t k).getD []
structure WS where
 w:Nat
 rc:List UInt8
 ps:List (List UInt8)
noncomputable def Ob (st:WS)(p:List UInt8):WS:=⟨st.w+p.length,st.rc++be (if p.isEmpty then 0 else st.w) 4,st.ps++[p]⟩
noncomputable def Qw (st:WS)(x:De):WS:=[Cq 1 x.2.1,Cq 2 x.2.2].foldl Ob ⟨st.w,st.rc++be x.1.toNat 3,st.ps⟩
def dF (base:Nat)(a:WS)(b:Zq):Prop:=a.w=base+b.parts.length/\a.rc=b.recs/\a.ps.flatten=b.parts
theorem iF {base:Nat}{a:WS}{b:Zq}(h:dF base a b)(i:Nat)(x:De):dF base (Qw a x) (Lj base b i x):=by k_with"o"=>
 obtain⟨h1,h2,h3⟩:=h;obtain⟨w,rc,ps⟩:=a;dsimp only at h1 h2 h3;subst h1 h2;unfold Qw Lj dF;simp only[Ec,List.foldl_nil,Ob];refine⟨?_,?_,?_⟩
 ·simp only[Ab];omega
 ·trivial
 ·simp only[Ku,h3,Hp,List.flatten_nil,Au]
theorem iE (base:Nat):∀(rows:List De) (i:Nat) (a:WS) (b:Zq),dF base a b->dF base (rows.foldl Qw a) (Ir base i rows b)
 |[]=>λ_ _ _ h=>h
 |x::rows=>λi a b h=>by k_with"o"=>exact( iE base rows (i+1) _ _ (iF h i x))
structure RD where
 k:Int
 a:Addr
 ps:List (Int×Int)
noncomputable def RD.t (e:RD):Int×List (Int×Int):=(e.k,e.ps)
noncomputable def Hj (rd:List RD):Led:=rd.map λe=>(e.a,.list (Ba e.ps))
noncomputable def DO (rd:List RD):O:=.AN (rd.map λe=>(e.k,V.ref e.a))
theorem xF {rd:List RD}{k:Int}(h:Ey (rd.map λe=>(e.k,V.ref e.a)) k=none):k∉rd.map RD.k:=by k_with"o"=>have:=Nt.mp h;rw[Ay] at this;exact this
theorem fD:∀{rd:List RD} {k:Int} {d:V},Ey (rd.map λe=>(e.k,V.ref e.a)) k=some d->∃u e v,rd=u++e::v/\e.k=k/\d=.ref e.a/\k∉u.map RD.k
 |[],k,d,h=>by cases h
 |e::rd,k,d,h=>by k_with"o"=>
  rw[Aj,Ey] at h;split at h
  ·rename_i hk;injection h with h;exact⟨[],e,rd,rfl,hk,h.symm,by simp⟩
  ·rename_i hk;obtain⟨u,e',v,h1,h2,h3,h4⟩:=fD h;refine⟨e::u,e',v,by rw[h1];rfl,h2,h3,?_⟩;rw[Aj,Ag];rintro(q|q)
   ·exact hk q.symm
   ·exact h4 q
theorem kE:∀{t:Py} {k:Int} {p:Int×Int},k∉t.map (·.1)->Kl t k p=t++[(k,[p])]
 |[],_,_,_=>rfl
 |(j,ps)::t,k,p,h=>by k_with"o"=>rw[Aj,Ag,not_or] at h;rw[Kl,if_neg (λq=>h.1 q.symm),kE h.2];rfl
theorem kD:∀{u:Py} {k:Int} {ps:List (Int×Int)} {v:Py} {p:Int×Int},k∉u.map (·.1)->Kl (u++(k,ps)::v) k p=u++(k,ps++[p])::v
 |[],_,_,_,_,_=>by rw[Er,Kl,if_pos rfl];rfl
 |(j,qs)::u,k,ps,v,p,h=>by k_with"o"=>rw[Aj,Ag,not_or] at h;rw[Kf,Kl,if_neg (λq=>h.1 q.symm),kD h.2];rfl
theorem eH {t:Py}{k:Int}{p:Int×Int}{j:Int}:j∈(Kl t k p).map (·.1)↔j∈t.map (·.1)\/j=k:=by k_with"o"=>
 induction t with
 |nil=>simp[Kl]
 |cons e t ih=>
  obtain⟨i,ps⟩:=e;rw[Kl];walk_at"split"
  ·rename_i h;subst h;simp only[Aj,Ag];constructor
   ·exact .inl
   ·rintro(h|rfl)
    ·exact h
    ·exact .inl rfl
  ·simp only[Aj,Ag,ih];constructor
   ·rintro(h|h|h)<;>simp[h]
   ·rintro((h|h)|h)<;>simp[h]
theorem nK {t:Py}{k:Int}{p:Int×Int}(h:(t.map (·.1)).Nodup):((Kl t k p).map (·.1)).Nodup:=by k_with"o"=>
 induction t with
 |nil=>simp[Kl]
 |cons e t ih=>
  obtain⟨i,ps⟩:=e;rw[Aj,Ap] at h;rw[Kl];walk_at"split"
  ·rw[Aj,Ap];exact h
  ·rename_i hk;rw[Aj,Ap];refine⟨λq=>?_,ih h.2⟩;rcases eH.mp q with q|q
   ·exact h.1 q
   ·exact hk q
theorem kF (t:Py)(k:Int)(p:Int×Int):(Kl t k p).length<=t.length+1:=by k_with"o"=>
 induction t with
 |nil=>exact Ah _
 |cons e t ih=>
  obtain⟨i,ps⟩:=e;rw[Kl];walk_at"split"
  ·exact Cb _
  ·rw[An,An];omega
end
section
open Cl
structure J7 (es:BA)(os:A7):Prop where
 en:(es.map (·.1)).Nodup
 el:es.length<=20
 ek:∀e∈es,0<=e.1/\e.1<16777216/\e.2.length<=1000/\oP 1 (Bn e.2)
 on:(os.map (·.1)).Nodup
 ol:os.length<=20
 ok:∀e∈os,PK e.1/\Gv e.1<16777216/\0<=e.2/\e.2<65536
theorem J7.codes {es:BA}{os:A7}(h:J7 es os)(k:Int):(Be es k).length<=1000/\oP 1 (Bn (Be es k)):=by k_with"o"=>
 unfold Be;cases hd:Ey es k with
 |none=>exact⟨Ca _,λp hp=>(nomatch hp)⟩
 |some cs=>exact(h.ek _ (Lo hd)).2.2
theorem Xm {α:Type}(f:α->Bool){l:List α}{x:α}(h:l[i]?=some x):(l.take (i+1)).filter f=(l.take i).filter f++(if f x then [x] else []):=by k_with"o"=>rw[Cc,h,Pl];show _++[x].filter f=_;rw[Hb];cases f x<;>rfl
theorem bR {k:Int}{p:Int×Int}:∀{t:Py},(∀e∈t,e.2.length<=n)->∀e∈Kl t k p,e.2.length<=n+1
 |[],_,e,he=>by k_with"o"=>rw[Ae.mp he];exact Km (Ca _)
 |(j,ps)::t,h,e,he=>by k_with"o"=>
  rw[Kl] at he;split at he
  ·rcases Ag.mp he with rfl|he
   ·rw[Ab];exact Km (h _ (.head _))
   ·exact Gg (h e (.tail _ he))
  ·rcases Ag.mp he with rfl|he
   ·exact Gg (h _ (.head _))
   ·exact bR (λe he=>h e (.tail _ he)) e he
theorem Ye (os:A7):∀(l:List (List Int)) (t:Py) (n:Nat),(∀e∈t,e.2.length<=n)->∀e∈l.foldl (λt k=>Kl t (Gv k) (Mt k,Cn os k)) t,e.2.length<=n+l.length
 |[]=>λt n h e he=>h e he
 |k::l=>λt n h e he=>by k_with"o"=>have:=Ye os l _ (n+1) (bR h) e he;rw[An];omega
theorem aL (es:BA)(os:A7)(l:List (List Int)):∀e∈Qt es os l,e.2.length<=l.length:=by k_with"o"=>exact(λe he=>by have:=Ye os l (Nc es) 0 (λe he=>by unfold Nc at he;obtain⟨x,_,rfl⟩:=Af.mp he;exact Ah _) e he;omega)
theorem dJ (os:A7):∀(l:List (List Int)) (t:Py),(l.foldl (λt k=>Kl t (Gv k) (Mt k,Cn os k)) t).length<=t.length+l.length
 |[]=>λt=>Ah _
 |k::l=>λt=>by k_with"o"=>have h1:=dJ os l (Kl t (Gv k) (Mt k,Cn os k));have h2:=kF t (Gv k) (Mt k,Cn os k);rw[Ec,An];omega
theorem Yf (os:A7):∀(l:List (List Int)) (t:Py),(t.map (·.1)).Nodup->((l.foldl (λt k=>Kl t (Gv k) (Mt k,Cn os k)) t).map (·.1)).Nodup
 |[]=>λt h=>h
 |k::l=>λt h=>Yf os l _ (nK h)
theorem aN (os:A7):∀(l:List (List Int)) (t:Py) (j:Int),j∈(l.foldl (λt k=>Kl t (Gv k) (Mt k,Cn os k)) t).map (·.1)↔j∈t.map (·.1)\/∃k∈l,Gv k=j
 |[]=>λt j=>by simp
 |k::l=>λt j=>by k_with"o"=>
  rw[Ec,aN os l,eH];constructor
  ·rintro((h|h)|⟨k',hk,h⟩)
   ·exact .inl h
   ·exact .inr ⟨k,.head _,h.symm⟩
   ·exact .inr ⟨k',.tail _ hk,h⟩
  ·rintro(h|⟨k',hk,h⟩)
   ·exact .inl (.inl h)
   ·rcases Ag.mp hk with rfl|hk
    ·exact .inl (.inr h.symm)
    ·exact .inr ⟨k',hk,h⟩
theorem tI (es:BA)(os:A7)(l:List (List Int)):(Qt es os l).length<=es.length+l.length:=by k_with"o"=>
 have h1:=dJ os l (Nc es);have h2:(Nc es).length<=es.length:=by unfold Nc;rw[Ac];exact Bz ..
 unfold Qt;omega
theorem lO {es:BA}{os:A7}{l:List (List Int)}(h:(es.map (·.1)).Nodup):((Qt es os l).map (·.1)).Nodup:=by k_with"o"=>refine Yf os l _ ?_;unfold Nc;rw[Ay];exact(List.filter_sublist.map _).nodup h
theorem dH {es:BA}{os:A7}{l:List (List Int)}{j:Int}:j∈(Qt es os l).map (·.1)↔(∃e∈es,e.1=j/\e.2.isEmpty=false)\/∃k∈l,Gv k=j:=by k_with"o"=>unfold Qt;rw[aN];unfold Nc;rw[Ay];simp[and_assoc,and_comm]
theorem eG {q:Int×List (Int×Int)->Prop}{k:Int}{p:Int×Int}(h0:q (k,[p]))(h1:∀j ps,q (j,ps)->j=k->q (j,ps++[p])):∀{t:Py},(∀e∈t,q e)->∀e∈Kl t k p,q e
 |[],_,e,he=>by rw[Ae.mp he];exact h0
 |(j,ps)::t,h,e,he=>by k_with"o"=>
  rw[Kl] at he;split at he
  ·rename_i hj;rcases Ag.mp he with rfl|he
   ·exact h1 _ _ (h _ (.head _)) hj
   ·exact h e (.tail _ he)
  ·rcases Ag.mp he with rfl|he
   ·exact h _ (.head _)
   ·exact eG h0 h1 (λe he=>h e (.tail _ he)) e he
theorem aM (os:A7)(S:List Int->Prop):∀(l:List (List Int)) (t:Py),(∀k∈l,S k)->(∀e∈t,∀p∈e.2,∃k,S k/\p=(Mt k,Cn os k))->∀e∈l.foldl (λt k=>Kl t (Gv k) (Mt k,Cn os k)) t,∀p∈e.2,∃k,S k/\p=(Mt k,Cn os k)
 |[]=>λt _ h=>h
 |k::l=>λt hS h=>by k_with"o"=>exact( aM os S l _ (λk hk=>hS k (.tail _ hk)) (eG (q:=λe=>∀p∈e.2,∃k,S k/\p=(Mt k,Cn os k)) (λp hp=>⟨k,hS k (.head _),Ae.mp hp⟩)
   (λj ps hq _ p hp=>(Ao.mp hp).elim (hq p) λhp=>⟨k,hS k (.head _),Ae.mp hp⟩) h))
theorem qU {es:BA}{os:A7}{ks:List (List Int)}(hW:J7 es os)(DL:Qo os ks):∀e∈Qt es os (ks.filter (Dd es os)),oP 2 e.2:=by k_with"o"=>exact(λe he p hp=>by
 obtain⟨k,hk,rfl⟩:=aM os (λk=>k∈os.map (·.1)) (ks.filter (Dd es os)) (Nc es) (λk hk=>DL.1.mem_iff.mp (Bb.mp hk).1) (λe he p hp=>by unfold Nc at he;obtain⟨x,_,rfl⟩:=Af.mp he;exact nomatch hp) e he p hp;obtain⟨x,hx,rfl⟩:=Af.mp hk;obtain⟨⟨a,b,e1,h1,h2,h3⟩,h4,h5,h6⟩:=hW.ok x hx;have hg:Cn os x.1=x.2:=by unfold Cn;rw[La hW.on hx];rfl
 rw[hg,e1];exact⟨h2,h3,h5,by show x.2<((256^2:Nat):Int);exact h6⟩)
theorem pI {u v:List RD}{e:RD}:Zp (Hj (u++e::v)) (e.a,.list (Ba e.ps)) (Hj (u++v)):=by k_with"o"=>
 induction u with
 |nil=>exact .here
 |cons x u ih=>exact .there ih
theorem xE {u v:List RD}{e:RD}:((e.a,O.list (Ba e.ps))::Hj (u++v)).Perm (Hj (u++e::v)):=pI.perm.symm
noncomputable def EG (base:Nat)(rows:List De)(i:Nat):WS:=(rows.take i).foldl Qw ⟨base,[],[]⟩
theorem pD (base:Nat)(rows:List De)(i:Nat):dF base (EG base rows i) (Ir base 0 (rows.take i) ⟨[],[],[]⟩):=by k_with"o"=>exact(iE base _ 0 _ _ ⟨rfl,rfl,rfl⟩)
theorem dK {base:Nat}{rows:List De}(hr:∀x∈rows,x.2.1.length<=1000/\x.2.2.length<=1000)(i:Nat)(hi:i<=rows.length):(EG base rows i).w<=base+9008*i/\(EG base rows i).rc.length=11*i/\(EG base rows i).ps.flatten.length<=9008*i:=by k_with"o"=>obtain⟨h1,h2,h3⟩:=pD base rows i;obtain⟨f1,f2,_⟩:=Oz base (rows.take i) 0 ⟨[],[],[]⟩ λx hx=>hr x (Ka hx);rw[Av,Ew hi] at f1 f2;simp only[Eb,Dj] at f1 f2;rw[h1,h2,h3];omega
theorem Aai (base:Nat)(rows:List De)(i:Nat)(hi:i<=rows.length):(EG base rows i).ps.length=2*i:=by k_with"o"=>
 have h1:∀(rows:List De) (a:WS),(rows.foldl Qw a).ps.length=a.ps.length+2*rows.length:=by
  intro rows
  induction rows with
  |nil=>intro a;rfl
  |cons x rows ih=>intro a;rw[Ec,ih,An];show(a.ps++[_]++[_]).length+_=_;rw[Ab,Ab];show a.ps.length+1+1+_=_;omega
 have:=h1 (rows.take i) ⟨base,[],[]⟩;rw[Av,Ew hi] at this;rw[EG,this];show 0+_=_;omega
theorem Aan {u v:List RD}{e:RD}:AP (Hj (u++e::v)) e.a (.list (Ba e.ps)):=by k_with"o"=>
 induction u with
 |nil=>exact .here .refl
 |cons x u ih=>exact .there ih
theorem Aam {u v:List RD}{e:RD}{p:Int×Int}:A5 (Hj (u++e::v)) e.a (.list (Ba e.ps)) (.list (Ba e.ps++[.tup [.int p.1,.int p.2]])) (Hj (u++⟨e.k,e.a,e.ps++[p]⟩::v)):=by k_with"o"=>
 induction u with
 |nil=>
  have e1:Ba e.ps++[.tup [.int p.1,.int p.2]]=Ba (e.ps++[p]):=by unfold Ba;rw[Ai];rfl
  rw[e1];exact .here
 |cons x u ih=>exact .there ih
theorem CN (P:PX U w T){v dv d o:Addr}{es:BA}{os:A7}(hW:J7 es os)
  (h:∀(ks:List (List Int)) (ss:List Int),Qo os ks->ss.Perm ((Qt es os (ks.filter (Dd es os))).map (·.1))->ss.Pairwise (· < ·)->
   Q (.bytes (Ei (ss.map λk=>(k,Bn (Be es k),Jw (Qt es os (ks.filter (Dd es os))) k)))) (Ig v dv d o es os)) :
  Ji U w T (lev+4) (.ref 373) [.ref v] (Ig v dv d o es os) Q X:=by k_with"o"=>
 have TO:=P.ok;have PP:=P.toPrg;refine PP.callC 28 rfl ["variations"] (λpm cd vals hv=>?_) rfl λpm cd A outer L C G=>?_
 ·obtain⟨x,rfl⟩:=Qh hv;rfl
 refine⟨[some (.ref v),none,none,none,none,none,none,none,none],.cons .loc .nil,?_⟩;unfold Ig at h ⊢;refine Hr (Om C rfl (bW λtb=>?_));refine⟨_,by walk_at"upd",?_⟩;have K8:∀e∈os,PK e.1:=λe he=>(hW.ok e he).1;refine Mh (λr1 l1=>∃(rd:List RD) (o3:Option V),rd.map RD.t=Nc es/\r1=[some (.ref v),some (.ref tb),o3,none,none,none,none,none,none]/\
  Bm l1 ((tb,DO rd)::(v,.inst 299 dv)::(dv,.ns [("defaults",.ref d),("others",.ref o)])::(d,dI es)::(o,dT os)::Hj rd)) (λK0 BV=>Px.of ?_) ?_
 ·refine Jh C (λ_=>rfl) ?_;walk_at"nus";refine⟨d,_,_,(tb,DO [])::(v,.inst 299 dv)::(dv,.ns [("defaults",.ref d),("others",.ref o)])::(o,dT os)::Hj [],rfl,by unfold Hj DO;walk_at"drop",bY C TO (uE es),λi r m=>∃(rd:List RD) (o3:Option V),rd.map RD.t=Nc (es.take i)/\r=[some (.ref v),some (.ref tb),o3,none,none,none,none,none,none]/\
   m=(tb,DO rd)::(v,.inst 299 dv)::(dv,.ns [("defaults",.ref d),("others",.ref o)])::(o,dT os)::Hj rd,⟨[],_,rfl,rfl,rfl⟩,?_,?_⟩
  ·rintro y i dd r m hy AQ K hK ⟨rd,o3,DY,rfl,rfl⟩;obtain⟨k,hk,rfl⟩:=Jd AQ;obtain⟨e,he,rfl⟩:∃e,es[i]?=some e/\e.1=k:=by
    rw[Bw] at hk;cases e:es[i]? with
    |none=>rw[e] at hk;cases hk
    |some p=>rw[e] at hk;injection hk with hk;exact⟨p,rfl,hk⟩
   have A8:=Bd he;have DB:Ey (es.map λe=>(e.1,V.tup (intsOf e.2))) e.1=some (.tup (intsOf e.2)):=by rw[Kk (λcs=>V.tup (intsOf cs)),La hW.en A8];rfl
   have LQ:=(hW.ek e A8).2.2.1;refine Bt C (by walk_at"upd") ⟨rfl,?_⟩;refine Dn (Jf ?_);walk_at"nus";refine Sw (λ_ _=>rfl) (.here hy) DB ?_;walk_at"nus";refine Oj (by rw[Bu];omega) ?_;rw[Bu];walk_at"nus";have WE:Nc (es.take (i+1))=Nc (es.take i)++(if !e.2.isEmpty then [(e.1,[])] else []):=by unfold Nc;rw[Xm _ he,Ai];congr 1;cases (!e.2.isEmpty)<;>rfl
   by_cases BK:e.2.isEmpty=true
   ·have e0:e.2=[]:=Ha.mp BK;rw[e0];refine Ip ?_;walk_at"nus";refine⟨(tb,DO rd)::(v,.inst 299 dv)::(dv,.ns [("defaults",.ref d),("others",.ref o)])::(o,dT os)::Hj rd,.refl _,rd,_,?_,rfl,rfl⟩;rw[WE,BK];simp[DY]
   ·have e0:decide (((e.2.length:Nat):Int)>0)=true:=by
     cases hc:e.2 with
     |nil=>rw[hc] at BK;exact absurd rfl BK
     |cons a b=>rw[An];exact decide_eq_true (by omega)
    rw[e0];refine Ni ?_;walk_at"nus";intro a;walk_at"nus";have TN:e.1∉rd.map RD.k:=by
     have h1:rd.map RD.k=(Nc (es.take i)).map (·.1):=by rw[<-DY,Ay];rfl
     rw[h1];intro q;unfold Nc at q;rw[Ay] at q;obtain⟨e',I9,FC⟩:=Af.mp q;have UH:=(Bb.mp I9).1;obtain⟨j,hj⟩:=Bx UH;have WZ:j<i:=by have:=Gb hj;rw[Av] at this;omega
     rw[Ht WZ] at hj;have h2:=(Ko.mp hW.en) j i (by rw[Ac];exact Gb hj) (by rw[Ac];exact Gb he) WZ;rw[List.getElem_map,List.getElem_map,(Bq.mp hj).2,(Bq.mp he).2] at h2;exact h2 FC
    have K4:rd.length<=20:=by have:=congrArg Nb DY;unfold Nc at this;rw[Ac,Ac] at this;rw[this];refine Aa (Bz ..) (Aa (Ul ..) hW.el)
    refine nM (by unfold DO;walk_at"put") (by rw[Ac];exact Aa K4 (by decide)) ?_;walk_at"nus";refine⟨(tb,DO (rd++[⟨e.1,a,[]⟩]))::(v,.inst 299 dv)::(dv,.ns [("defaults",.ref d),("others",.ref o)])::(o,dT os)::Hj (rd++[⟨e.1,a,[]⟩]),?_,rd++[⟨e.1,a,[]⟩],_,?_,rfl,rfl⟩
    ·have e1:Fy (rd.map λe=>(e.k,V.ref e.a)) e.1 (.ref a)=(rd++[(⟨e.1,a,[]⟩:RD)]).map λe=>(e.k,V.ref e.a):=by rw[Wm (Nt.mpr (by rw[Ay];exact TN)),Ai];rfl
     rw[e1];unfold DO Hj;rw[Ai (f:=λe:RD=>(e.a,O.list (Ba e.ps)))];refine⟨[],?_⟩;rw[Au];exact Cz (l₁:=[_])
    ·rw[Ai,DY,WE,if_pos (by simpa using BK)];rfl
  ·rintro r l m ⟨rd,o3,DY,rfl,rfl⟩ hd
   try refine BZ.go (by assumption) ?_
   rw[Bu,Ac,Bj] at DY;exact⟨rfl,rd,_,DY,rfl,hd.trans (by walk_at"drop")⟩
 rintro r1 l1 ⟨NC,o3,SY,rfl,OX⟩;refine Jg OX ?_;refine Mh (λr1 l1=>∃(ks:List (List Int)) (rd:List RD) (o3 o4:Option V),Qo os ks/\rd.map RD.t=Qt es os (ks.filter (Dd es os))/\r1=[some (.ref v),some (.ref tb),o3,o4,none,none,none,none,none]/\
  Bm l1 ((tb,DO rd)::(v,.inst 299 dv)::(dv,.ns [("defaults",.ref d),("others",.ref o)])::(d,dI es)::(o,dT os)::Hj rd)) (λK0 BV=>Px.of ?_) ?_
 ·refine Jh C (λ_=>rfl) ?_;walk_at"nus";refine Bk C (fr:=(tb,DO NC)::Hj NC) (by unfold Ig;walk_at"picks") (tR PP K8 hW.on (Aa hW.ol (by decide)) λb2 ks DL=>?_);have H6:ks.length<=20:=by rw[DL.1.length_eq,Ac];exact hW.ol
  have OC:(ks.filter (Dd es os)).length<=20:=Aa (Bz ..) H6;unfold Ig;refine⟨b2,_,_,(tb,DO NC)::(v,.inst 299 dv)::(dv,.ns [("defaults",.ref d),("others",.ref o)])::(d,dI es)::(o,dT os)::Hj NC,rfl,by walk_at"drop",Ds C,λi r m=>∃(rd:List RD) (o3 o4:Option V),rd.map RD.t=Qt es os ((ks.filter (Dd es os)).take i)/\r=[some (.ref v),some (.ref tb),o3,o4,none,none,none,none,none]/\
   m=(tb,DO rd)::(v,.inst 299 dv)::(dv,.ns [("defaults",.ref d),("others",.ref o)])::(d,dI es)::(o,dT os)::Hj rd,⟨NC,_,_,SY,rfl,rfl⟩,?_,?_⟩
  ·rintro y i dd r m hy AQ K hK ⟨rd,o3,o4,DY,rfl,rfl⟩;obtain⟨key,DC,rfl⟩:=Ny AQ;have A8:key∈os.map (·.1):=DL.1.mem_iff.mp (Bb.mp (Bd DC)).1;obtain⟨e,he,I9⟩:=Af.mp A8;obtain⟨ka,kb,rfl,WX,WW,OD⟩:PK key:=I9▸K8 e he;obtain⟨g,hg⟩:=Rm A8;have GY:Cn os [ka,kb]=g:=by unfold Cn;rw[hg];rfl
   have DB:Ey (os.map λe=>(e.1,V.int e.2)) [ka,kb]=some (.int g):=by rw[Kk V.int,hg];rfl
   have K4:rd.length<=40:=by
    have h1:=congrArg Nb DY;rw[Ac] at h1;have h2:∀(l:List (List Int)) (t:Py),(l.foldl (λt k=>Kl t (Gv k) (Mt k,Cn os k)) t).length<=t.length+l.length:=by
     intro l
     induction l with
     |nil=>intro t;exact Ah _
     |cons k l ih=>intro t;have:=ih (Kl t (Gv k) (Mt k,Cn os k));have:=kF t (Gv k) (Mt k,Cn os k);rw[Ec,An];omega
    have h3:=h2 ((ks.filter (Dd es os)).take i) (Nc es);have h4:(Nc es).length<=20:=by unfold Nc;rw[Ac];exact Aa (Bz ..) hW.el
    have h5:((ks.filter (Dd es os)).take i).length<=20:=Aa (Ul ..) OC;unfold Qt at h1;omega
   have DJ:Qt es os ((ks.filter (Dd es os)).take (i+1))=Kl (Qt es os ((ks.filter (Dd es os)).take i)) ka (kb,g):=by have:=Iu (f:=λt k=>Kl t (Gv k) (Mt k,Cn os k)) (z:=Nc es) DC;rw[GY] at this;exact this
   refine Hw C rfl rfl (Bt C (by walk_at"upd") (Bt C (by walk_at"upd") ⟨rfl,?_⟩));refine Sr (qH rfl rfl ?_);refine Ve PP rfl rfl ?_;refine Ve PP rfl rfl ?_;walk_at"nus";intro a;walk_at"nus";refine Zl (a:=tb) (es:=rd.map λe=>(e.k,V.ref e.a)) (l':=(a,.list [])::(b2,y)::(tb,.AN (Fy (rd.map λe=>(e.k,V.ref e.a)) ka (.ref a)))::(v,.inst 299 dv)::(dv,.ns [("defaults",.ref d),("others",.ref o)])::(d,dI es)::(o,dT os)::Hj rd) TO (.there (.there .here)) (by rw[Ac];exact Aa K4 (by decide)) ?_;cases OS:Ey (rd.map λe=>(e.k,V.ref e.a)) ka with
   |some d'=>
    obtain⟨u,e1,v1,rfl,rfl,rfl,WT⟩:=fD OS;refine Uu (a:=e1.a) (xs:=Ba e1.ps) (.there (.there (.there (.there (.there (.there (.there Aan))))))) ?_;walk_at"nus";refine Qm (k:=[e1.k,kb]) C (λ_ _=>rfl) (by unfold dT;walk_at"has") DB ?_;walk_at"nus";refine Xw (.there (.there (.there (.there (.there (.there (.there (Aam (p:=(kb,g)))))))))) ?_ ?_
    ·rw[Dh];have h1:=aL es os ((ks.filter (Dd es os)).take i) e1.t (by rw[<-DY];exact Af.mpr ⟨e1,Aq _ (.head _),rfl⟩);have h2:((ks.filter (Dd es os)).take i).length<=20:=Aa (Ul ..) OC;exact Aa h1 (Aa h2 (by decide))
    walk_at"nus";refine⟨(tb,DO (u++⟨e1.k,e1.a,e1.ps++[(kb,g)]⟩::v1))::(v,.inst 299 dv)::(dv,.ns [("defaults",.ref d),("others",.ref o)])::(d,dI es)::(o,dT os)::Hj (u++⟨e1.k,e1.a,e1.ps++[(kb,g)]⟩::v1),?_,_,_,_,?_,rfl,rfl⟩
    ·have e2:DO (u++e1::v1)=DO (u++⟨e1.k,e1.a,e1.ps++[(kb,g)]⟩::v1):=by unfold DO;rw[Ai,Ai];rfl
     rw[<-e2];walk_at"drop"
    ·rw[DJ,<-DY,Ai,Ai,Aj,Aj];exact(kD (by rw[Ay];exact WT)).symm
   |none=>
    have TN:=xF OS;refine Uu (a:=a) (xs:=[]) (.here .refl) ?_;walk_at"nus";refine Qm (k:=[ka,kb]) C (λ_ _=>rfl) (by unfold dT;walk_at"has") DB ?_;walk_at"nus"
    rotate_left
    ·exact Ca _
    refine⟨(tb,DO (rd++[⟨ka,a,[(kb,g)]⟩]))::(v,.inst 299 dv)::(dv,.ns [("defaults",.ref d),("others",.ref o)])::(d,dI es)::(o,dT os)::Hj (rd++[⟨ka,a,[(kb,g)]⟩]),?_,_,_,_,?_,rfl,rfl⟩
    ·have e1:Fy (rd.map λe=>(e.k,V.ref e.a)) ka (.ref a)=(rd++[(⟨ka,a,[(kb,g)]⟩:RD)]).map λe=>(e.k,V.ref e.a):=by rw[Wm OS,Ai];rfl
     rw[e1];unfold DO Hj;rw[Ai (f:=λe:RD=>(e.a,O.list (Ba e.ps)))];refine⟨[],?_⟩;rw[Au];exact Cz (l₁:=[_])
    ·rw[DJ,<-DY,Ai,kE (by rw[Ay];exact TN)];rfl
  ·rintro r l m ⟨rd,o3,o4,DY,rfl,rfl⟩ hd
   try refine BZ.go (by assumption) ?_
   rw[Kv,Bj] at DY;exact⟨rfl,ks,rd,_,_,DL,DY,rfl,hd.trans (by walk_at"drop")⟩
 rintro r1 l1 ⟨ks,rd,o3,o4,DL,DY,rfl,br⟩;refine Jg br ?_;have H6:ks.length<=20:=by rw[DL.1.length_eq,Ac];exact hW.ol
 have OC:(ks.filter (Dd es os)).length<=20:=Aa (Bz ..) H6;have SA:=aL es os (ks.filter (Dd es os));have WD:=qU hW DL;generalize IW:Qt es os (ks.filter (Dd es os))=tab at DY SA WD;have hk:=h ks;rw[IW] at hk;refine Dy (Tr C rfl ?_);refine Jt PP C rfl rfl rfl rfl rfl rfl (Dp.of (Mi ?_));refine aC P C G (lev:=lev+1) rfl λx dx m=>?_;refine⟨_,by walk_at"upd",?_⟩;refine Hr ?_;walk_at"nus";have FO:rd.length<=40:=by have h1:=congrArg Nb DY;rw[Ac] at h1;have h2:=tI es os (ks.filter (Dd es os));have h3:=hW.el;rw[IW] at h2;omega
 have IY:rd.map RD.k=tab.map (·.1):=by rw[<-DY,Ay];rfl
 have WJ:(rd.map RD.k).Nodup:=by rw[IY,<-IW];exact lO hW.en
 refine Wr (es:=rd.map λe=>(e.k,V.ref e.a)) TO (by walk_at"has") (by rw[Ac];omega) ?_;rw[Ac];walk_at"nus";have A4:(10:Int)+11*(rd.length:Int)=((10+11*rd.length:Nat):Int):=by omega
 rw[A4];refine Hr ?_;walk_at"nus";intro pa;walk_at"nus";have OJ:∀k∈rd.map RD.k,0<=k/\k<16777216:=λk hk=>by
  rw[IY,<-IW] at hk;rcases dH.mp hk with⟨e,he,rfl,_⟩|⟨key,BR,rfl⟩
  ·exact⟨(hW.ek e he).1,(hW.ek e he).2.1⟩
  ·obtain⟨e,he,rfl⟩:=Af.mp (DL.1.mem_iff.mp (Bb.mp BR).1);obtain⟨⟨a,b,e1,h1,h2,h3⟩,h4,_⟩:=hW.ok e he;rw[e1] at h4 ⊢;exact⟨h1,h4⟩
 generalize cf:10+11*rd.length=base;have gw:base<=450:=by omega
 refine Mh (λr1 l1=>∃(ss:List Int) (o3 o4 o8:Option V),ss.Perm (tab.map (·.1))/\ss.Pairwise (· < ·)/\
  r1=[some (.ref v),some (.ref tb),o3,o4,some (.ref x),some (.int (EG base (ss.map λk=>(k,Bn (Be es k),Jw tab k)) ss.length).w),some (.ref pa),o8,none]/\
  Bm l1 (Mr x dx m (EG base (ss.map λk=>(k,Bn (Be es k),Jw tab k)) ss.length).rc++(pa,.list ((EG base (ss.map λk=>(k,Bn (Be es k),Jw tab k)) ss.length).ps.map V.bytes))::(tb,DO rd)::(v,.inst 299 dv)::(dv,.ns [("defaults",.ref d),("others",.ref o)])::(d,dI es)::(o,dT os)::Hj rd)) (λK0 BV=>?_) ?_
 ·refine Xz C (λ_=>rfl) ?_;walk_at"nus";have LF:Keyed (DO rd) (intsOf (rd.map RD.k)):=by have:=pS (rd.map λe=>(e.k,V.ref e.a));rw[Ay] at this;exact this
  refine Oi C TO (by walk_at"has") LF (.I ⟨_,rfl⟩) (by rw[Bu,Ac];exact Aa FO (by decide)) λb2 B0 A1 EU=>?_;obtain⟨ss,rfl,pm,IS⟩:=gF WJ A1 EU;have NU:ss.length<=40:=by rw[pm.length_eq,Ac];exact FO
  generalize CG:(ss.map λk=>(k,Bn (Be es k),Jw tab k))=rows;have DX:rows.length=ss.length:=by rw[<-CG,Ac]
  have GI:∀k,(Jw tab k).length<=20:=λk=>by
   unfold Jw;cases hd:Ey tab k with
   |none=>exact Ca _
   |some ps=>exact Aa (SA _ (Lo hd)) OC
  have K3:∀x∈rows,x.2.1.length<=1000/\x.2.2.length<=1000:=λx hx=>by rw[<-CG] at hx;obtain⟨k,_,rfl⟩:=Af.mp hx;exact⟨Aa (Iz _) (hW.codes k).1,Aa (GI k) (by decide)⟩
  refine⟨b2,_,_,Mr x dx m []++(pa,.list [])::(tb,DO rd)::(v,.inst 299 dv)::(dv,.ns [("defaults",.ref d),("others",.ref o)])::(d,dI es)::(o,dT os)::Hj rd,rfl,by walk_at"drop",Ds C,λi r m'=>∃(o3 o4 o8:Option V),
   r=[some (.ref v),some (.ref tb),o3,o4,some (.ref x),some (.int (EG base rows i).w),some (.ref pa),o8,none]/\m'=Mr x dx m (EG base rows i).rc++(pa,.list ((EG base rows i).ps.map V.bytes))::(tb,DO rd)::(v,.inst 299 dv)::(dv,.ns [("defaults",.ref d),("others",.ref o)])::(d,dI es)::(o,dT os)::Hj rd,
   ⟨_,_,_,rfl,rfl⟩,?_,?_⟩
  ·rintro y i dd r m' hy AQ K hK ⟨o3,o4,o8,rfl,rfl⟩;obtain⟨k,DC,rfl⟩:=Jd AQ;have OH:=Gb DC;have WV:k∈rd.map RD.k:=pm.mem_iff.mp (Bd DC);obtain⟨EW,DZ⟩:=OJ k WV;obtain⟨ig,XD⟩:=Rm (es:=rd.map λe=>(e.k,V.ref e.a)) (k:=k) (by rw[Ay];exact WV);obtain⟨u,e1,v1,K5,bk,rfl,WT⟩:=fD XD;have WN:Jw tab k=e1.ps:=by unfold Jw;rw[<-DY,La (es:=rd.map RD.t) (k:=k) (v:=e1.ps) (by rw[Ay];exact WJ) (by rw[K5];exact Af.mpr ⟨e1,Aq _ (.head _),by rw[<-bk];rfl⟩)];rfl
   have SU:rows[i]?=some (k,Bn (Be es k),e1.ps):=by rw[<-CG,Bw,DC,<-WN];rfl
   have OL:oP 2 e1.ps:=WD e1.t (by rw[<-DY,K5];exact Af.mpr ⟨e1,Aq _ (.head _),rfl⟩);obtain⟨FG,OM⟩:=hW.codes k;have LQ:e1.ps.length<=1000:=by rw[<-WN];exact Aa (GI k) (by decide)
   obtain⟨f1,f2,f3⟩:=dK (base:=base) K3 i (by rw[DX];exact Fz OH);have DJ:EG base rows (i+1)=Qw (EG base rows i) (k,Bn (Be es k),e1.ps):=Iu SU;have GX:=Ij 1 (Bn (Be es k));have EF:=Ij 2 e1.ps;have ZT:=Iz (Be es k);have f4:=Aai base rows i (by rw[DX];exact Fz OH);generalize EG base rows i=st at f1 f2 f3 f4 DJ;obtain⟨n,rfl⟩:=Gh EW;refine Bt C (by walk_at"upd") ⟨rfl,?_⟩;refine Dy (Fp rfl rfl (Ep TO rfl rfl ?_));walk_at"nus";refine Sh PP (by walk_at"has") (by walk_at"has") rfl rfl (by decide) (Dp.of ?_);walk_at"nus";refine Gy C G (by walk_at"picks") (mA P (by omega) (by omega) ?_);refine Mh (λr1 l1=>∃o8,r1=[some (.ref v),some (.ref tb),some (.int n),o4,some (.ref x),some (.int (EG base rows (i+1)).w),some (.ref pa),o8,none]/\
    Bm l1 ((b2,y)::(Mr x dx m (EG base rows (i+1)).rc++(pa,.list ((EG base rows (i+1)).ps.map V.bytes))::(tb,DO rd)::(v,.inst 299 dv)::(dv,.ns [("defaults",.ref d),("others",.ref o)])::(d,dI es)::(o,dT os)::Hj rd))) (λK0 BV=>?_) ?_
   ·refine vZ C (λ_=>rfl) (sO (Yw rfl rfl (Jt PP C rfl rfl rfl rfl rfl rfl (Dp.of ?_))));walk_at"nus";refine aB PP (by unfold dI;walk_at"has") ?_;rw[Wj];walk_at"nus";refine Gy C G .nil (fF P FG OM ?_);generalize cy:Cq 1 (Bn (Be es (n:Int)))=p1 at GX;refine Yw rfl rfl (Jt PP C rfl rfl rfl rfl rfl rfl (Dp.of ?_));walk_at"nus";refine Sw (es:=rd.map λe=>(e.k,V.ref e.a)) (λ_ _=>rfl) (by walk_at"has") XD ?_;walk_at"nus";subst K5;refine Gy C G (.cons (.there (.there (.there (.there (.there (.there (.there (.there (.there (.there pI)))))))))) .nil) (fW P LQ OL ?_);generalize cx:Cq 2 e1.ps=p2 at EF;refine Dp.of (Mi ⟨Jj rfl,qN.of ⟨[.bytes p1,.bytes p2],Tq C,?_⟩⟩);have SH:Qw st ((n:Int),Bn (Be es (n:Int)),e1.ps)=[p1,p2].foldl Ob ⟨st.w,st.rc++be n 3,st.ps⟩:=by rw[<-cy,<-cx];rfl
    rw[DJ,SH] at BV;let sI:Nat->WS:=λj=>([p1,p2].take j).foldl Ob ⟨st.w,st.rc++be n 3,st.ps⟩;have WH:∀j,sI (j+2)=[p1,p2].foldl Ob ⟨st.w,st.rc++be n 3,st.ps⟩:=λj=>by show([p1,p2].take (j+2)).foldl _ _=_;rw[Dq (Nat.le_add_left 2 j)]
    have ZR:∀j,(sI j).w<=st.w+9008/\(sI j).rc.length<=st.rc.length+11:=λj=>by
     match j with
     | 0=>exact⟨by show st.w<=_;omega,by show(st.rc++be n 3).length<=_;rw[Ab,Bl];omega⟩
     | 1=>exact⟨by show st.w+p1.length<=_;omega,by show(st.rc++be n 3++be _ 4).length<=_;rw[Ab,Ab,Bl,Bl];omega⟩
     |j+2=>rw[WH j];exact⟨by show st.w+p1.length+p2.length<=_;omega,by show(st.rc++be n 3++be _ 4++be _ 4).length<=_;rw[Ab,Ab,Ab,Bl,Bl,Bl];omega⟩
    have ZQ:∀j,(sI j).ps.length<=st.ps.length+2:=λj=>by
     match j with
     | 0=>show st.ps.length<=_;omega
     | 1=>show(st.ps++[p1]).length<=_;rw[Ab];show _+1<=_;omega
     |j+2=>rw[WH j];show(st.ps++[p1]++[p2]).length<=_;rw[Ab,Ab];exact Ah _
    refine⟨λj r l=>∃o8,r=[some (.ref v),some (.ref tb),some (.int n),o4,some (.ref x),some (.int (sI j).w),some (.ref pa),o8,none]/\
     Bm l ((b2,y)::(Mr x dx m (sI j).rc++(pa,.list ((sI j).ps.map V.bytes))::(tb,DO (u++e1::v1))::(v,.inst 299 dv)::(dv,.ns [("defaults",.ref d),("others",.ref o)])::(d,dI es)::(o,dT os)::Hj (u++e1::v1))),⟨_,rfl,?_⟩,?_,?_⟩
    ·let Pre:Led:=(x,.inst 259 dx)::(dx,.ns [("made",.ref m)])::(m,.DR (st.rc++be n 3))::(b2,y)::(pa,.list (st.ps.map V.bytes))::(tb,DO (u++e1::v1))::(v,.inst 299 dv)::(dv,.ns [("defaults",.ref d),("others",.ref o)])::(d,dI es)::[(o,dT os)];refine Bm.trans (b:=Pre++Hj (u++e1::v1)) ⟨[],?_⟩ (by walk_at"drop");rw[Au];exact(Ed (a:=(e1.a,O.list (Ba e1.ps))) (l₁:=Pre) (l₂:=Hj (u++v1))).symm.trans (En.append_left Pre xE)
    ·rintro j dd r l AQ K hK ⟨o8,rfl,hd⟩;obtain⟨p,EV,rfl⟩:∃p,[p1,p2][j]?=some p/\dd=.bytes p:=by
      match j,AQ with
      | 0,AQ=>injection AQ with AQ;exact⟨p1,rfl,AQ.symm⟩
      | 1,AQ=>injection AQ with AQ;exact⟨p2,rfl,AQ.symm⟩
     have G8:p.length<=5004:=by
      match j,EV with
      | 0,EV=>injection EV with EV;subst EV;omega
      | 1,EV=>injection EV with EV;subst EV;omega
     have DK:sI (j+1)=Ob (sI j) p:=Iu EV;obtain⟨g1,g2⟩:=ZR j;have g3:=ZQ j;generalize sI j=sj at hd DK g1 g2 g3;refine Pf hd (Bt C (by walk_at"upd") ?_);refine Dy (Fp rfl rfl (Ep TO rfl rfl ?_));walk_at"nus";refine Sh PP (by walk_at"has") (by walk_at"has") rfl rfl (by decide) (Dp.of ?_);walk_at"nus";refine Vd (n:=sj.w) (bs:=p) ?_ ?_ ?_
     ·walk_at"nus";exact⟨rfl,rfl⟩
     ·walk_at"nus";exact⟨rfl,rfl⟩
     walk_at"nus";refine Gy C G (by walk_at"picks") (aX P (by split<;>omega) (by omega) ?_);refine Hr ?_;walk_at"nus";refine Gi (Aa G8 (by decide)) ?_;walk_at"nus";rw[show(sj.w:Int)+(p.length:Int)=((sj.w+p.length:Nat):Int) from by omega];refine Hr ?_;walk_at"nus"
     ·refine Ks (BZ.go hK (Vi ⟨_,by rw[DK];rfl,?_⟩));rw[DK];unfold Ob;rw[Ai (l₂:=[p])];walk_at"drop"
     ·rw[Ac];exact Aa (m:=100) (by omega) (by decide)
    ·rintro r l ⟨o8,rfl,hd⟩
     try refine BZ.go (by assumption) ?_
     exact⟨rfl,_,rfl,hd⟩
   ·rintro r1 l1 ⟨o8,rfl,hd⟩;exact Ks (BZ.go hK (Ph ⟨_,hd,_,_,_,rfl,rfl⟩))
  ·rintro r l m' ⟨o3,o4,o8,rfl,rfl⟩ hd
   try refine BZ.go (by assumption) ?_
   rw[Bu] at hd ⊢;refine⟨rfl,ss,_,_,_,by rw[<-IY];exact pm,IS,by rw[CG],?_⟩;rw[CG];exact hd.trans .snd
 ·rintro r1 l1 ⟨ss,o3,o4,o8,pm,IS,rfl,hd⟩;refine Jg hd ?_;have NU:ss.length<=40:=by rw[pm.length_eq,<-IY,Ac];exact FO
  have hq:=hk ss DL pm IS;have GI:∀k,(Jw tab k).length<=20:=λk=>by
   unfold Jw;cases hd:Ey tab k with
   |none=>exact Ca _
   |some ps=>exact Aa (SA _ (Lo hd)) OC
  have hlen:rd.length=ss.length:=by rw[pm.length_eq,<-IY,Ac]
  generalize CG:(ss.map λk=>(k,Bn (Be es k),Jw tab k))=rows at hq;have DX:rows.length=ss.length:=by rw[<-CG,Ac]
  have K3:∀x∈rows,x.2.1.length<=1000/\x.2.2.length<=1000:=λx hx=>by rw[<-CG] at hx;obtain⟨k,_,rfl⟩:=Af.mp hx;exact⟨Aa (Iz _) (hW.codes k).1,Aa (GI k) (by decide)⟩
  obtain⟨f1,f2,f3⟩:=dK (base:=base) K3 ss.length (Ef DX.symm);obtain⟨g1,g2,g3⟩:=pD base rows ss.length;have TH:Ir base 0 (rows.take ss.length) ⟨[],[],[]⟩=Mu rows:=by rw[<-DX,Bj];unfold Mu;rw[DX,<-hlen,cf]
  rw[TH] at g1 g2 g3;generalize EG base rows ss.length=st at f1 f2 f3 g1 g2 g3;refine Dy (Tr C rfl ?_);refine Jt PP C rfl rfl rfl rfl rfl rfl (Dp.of (Mi ?_));refine aC P C G (lev:=lev+1) rfl λy dy my=>?_;refine⟨_,by walk_at"upd",?_⟩;refine Dy (Fp rfl rfl (Ep TO rfl rfl ?_));walk_at"nus";refine Sh PP (by walk_at"has") (by walk_at"has") rfl rfl (by decide) (Dp.of ?_);walk_at"nus";refine Gy C G (by walk_at"picks") (tX (n:=14) P (by decide) (by simp only[Eb];omega) ?_);refine Dy (Fp rfl rfl (Ep TO rfl rfl ?_));walk_at"nus";refine Sh PP (by walk_at"has") (by walk_at"has") rfl rfl (by decide) (Dp.of ?_);walk_at"nus";refine Gy C G (by walk_at"picks") (aX P (by omega) (by simp only[Ab,Eb,Bl];omega) ?_);refine Dy (Fp rfl rfl (Ep TO rfl rfl ?_));walk_at"nus";refine Sh PP (by walk_at"has") (by walk_at"has") rfl rfl (by decide) (Dp.of ?_);walk_at"nus";refine Wr (es:=rd.map λe=>(e.k,V.ref e.a)) TO (by walk_at"has") (by rw[Ac];omega) ?_;rw[Ac];walk_at"nus";refine Gy C G (by walk_at"picks") (aX P (by omega) (by simp only[Ab,Eb,Bl];omega) (BU.of ?_));walk_at"nus";refine Bk C (by walk_at"picks") (Nf P (by simp only[Ab,Eb,Bl];omega) ?_);walk_at"nus";refine Bk C (by walk_at"picks") (Nf P (by omega) ?_);refine Cf (by simp only[Ab,Eb,Bl];omega) ?_;walk_at"nus";refine aZ ?_;walk_at"nus";refine gH (by walk_at"has") (Aa f3 (Aa (m:=9008*40) (by omega) (by decide))) ?_;refine Cf (by simp only[Ab,Eb,Bl];omega) ?_;walk_at"nus";have OV:Ei rows=be 14 2++be st.w 4++be rd.length 4++st.rc++st.ps.flatten:=by
   have hw:10+(Mu rows).recs.length+(Mu rows).parts.length=st.w:=by rw[g1,<-g2,f2];omega
   unfold Ei;rw[hw,DX,<-hlen,<-g2,<-g3]
  rw[<-OV];walk_at"nus";exact Eu.picks (by walk_at"picks") hq
end
structure PY (U:Program)(w:World)(T:Ez):Prop extends PX U w T where
 ga:findIn T.K (.ref 61) "__getattribute__"=some (some (.builtin "BaseException.__getattribute__"))
 gt:findIn T.K (.ref 61) "__getattr__"=some none
def Ac0 (U:Program)(w:World)(T:Ez)(outer:List Env)(own:List Addr)(h:Heap)(Q:V->Led->Prop)(f:Flow)(s':Shared):Prop:=
 ∃v d l',f=.ret v/\RV s'.heap d v/\Ya U w T outer s' l'/\Step own (l'.map (·.1)) h s'.heap/\Q d l'
theorem Cg.JH {fd:FuncData}(F:gQ T a fd body)(TO:T.Ok U w)(params:List Str)
  (hb:∀vals:List Value,vals.length=params.length->bindArgs fd ⟨vals,[]⟩=pure (params.zip vals)) (hlen:params.length=as.length)
  (h:∀(A:Around) (outer:List Env) (L:Addr),(Fu fd a A outer L lev).Ok->(∀env∈outer,∀L',env.frame=some L'->L'≠L)->∃r0,Oo (Eo (L+1) fd.scope.names) ((Eo (L+1) fd.scope.names).map λ_=>none) (params.zip as) r0/\
   ∀s,Co U w T (Fu fd a A outer L lev) s r0 l->wpAny (model U w) (A.deeper (callEnvC fd L a)) (execs body (callEnvC fd L a)) (Ac0 U w T outer ((Fu fd a A outer L lev).own l) s.heap Q) (Exc U w T (callEnvC fd L a::outer) ((Fu fd a A outer L lev).own l) s.heap false X) s) :
  Cg U w T (lev+1) (.ref a) as l Q X:=by k_with"o"=>
 intro A outer s vals h1 h2 h3 h4 LR rv;obtain⟨o,ho,hd⟩:=F.there;have hk:=LR.AH.stays;refine codeAny_call_function (by have:recursionLimit=1000:=rfl;omega) (hk _ _ ho) hd F.U5 F.gen F.body (F.code.keeps hk) ?_;refine Vc F TO params (λs vals _ hl=>.of_eq (hb vals hl)) hlen h1 h2 h3 h4 LR rv λL hL C=>?_;subst hL;obtain⟨r0,D0,K1⟩:=h A outer s.heap.objs.size C λenv he L' da=>by obtain⟨_,L2,o2,_,_,k1,_,k2,_⟩:=LR.frames env he;rw[da] at k1;injection k1 with k1;subst k1;exact By (Am k2)
 refine⟨r0,D0,λs' R' S'=>⟨TO.nolimit.keeps R'.AH.stays,codeAny_func (wpAny_mono (K1 s' R') (λfl s2 ⟨v,d,l2,hf,DN,L2,S2,q⟩=>?_) λx s2 e=>?_)⟩⟩
 ·subst hf;exact⟨d,l2,DN,L2,S'.trans S2,q⟩
 ·have e':Exc U w T (callEnvC fd s.heap.objs.size a::outer) (l.map (·.1)) s.heap false X x s2:=e.shift S' λ_ q=>q;exact Sj (Around.frames_deeper h1) e' λs3 e3=>e3
theorem Rel.same {x:Value}{s':Shared}{tr:Bool}(R:Co U w T c s r l)(e:Exc U w T c.outer [] s.heap tr X x s'):Co U w T c s' r l/\Step (c.own l) (c.own l) s.heap s'.heap:=by k_with"o"=>exact(R.back (fp:=[]) (fr:=l) (fp':=[]) ⟨e.AH,e.frames,λp hp=>(nomatch hp),.nil,λp hp=>(nomatch hp)⟩ ⟨e.kept,λa ha=>(nomatch ha),e.size⟩)
theorem FV {a b:Int}{t u:Tok}{Q:Value->Shared->Prop}(h:Q (.int (a-b) s.toks) {s with toks:=s.toks+1}):wpAny (model U w) A (binaryOp .Sub (.int a t) (.int b u)) Q E s:=P.sub_int h
theorem jL (P:PY U w T){p:Nat}(hz:b.length<=1000000)(hW:(Ck p).run b≠.C4)
  (h0:∀es os,(Ck p).run b=.ok (es,os)->∀l,Q .none l) (h1:∀i,(Ck p).run b=.fault i->Q (.int (i-p)) []) :
  Cg U w T (lev+8) (.ref 428) [.bytes b,.int p] [] Q X:=by k_with"o"=>
 have TO:=P.ok;have PP:=P.toPrg;obtain⟨pm,cd,F⟩:∃pm cd,gQ T 428 (Jp (Dx 35) "_law_fault" .none pm cd) (Uc (Dx 35)):=P.fn _ (Bd (show Sk[37]?=some ((428:Addr),Dx 35,("_law_fault" : Str)) from rfl));refine Cg.JH F TO ["data","at"] (λvals hv=>?_) rfl λA outer L C TG=>?_
 ·obtain⟨x,y,rfl⟩:=Wf hv;rfl
 refine⟨[some (.bytes b),some (.int p),none],.cons .loc (.cons (.there .loc) .nil),λs R=>?_⟩;refine wpAny_execs_cons (wpAny_Try_except ?_);refine wpAny_execs_cons ?_;rw[exec_Expr _ _ _ rfl rfl];refine wpAny_bind (wpAny_standAt (wpAny_bind ?_));refine Call_ (Me C TO rfl rfl (PP.glob (v:=.ref 345) rfl) R.AH (Lq TO (PP.callee (v:=.ref 345) (by decide)) rfl (wpAny_mono ((show Hd U w T (Fu (Jp (Dx 35) "_law_fault" .none pm cd) 428 A outer L (lev+7)) _ _ _ _ (λds l1=>ds=[.bytes b,.int p]/\l1=[]) ER from ?_) s R) (λvs s1 ⟨ds,l1,rv,R1,S1,UJ,OA⟩=>⟨R1.AH,?_⟩) λ_ _ e=>e.no.elim))) rfl
 ·walk_at"nus";exact⟨rfl,rfl⟩
 subst UJ OA;have L1:Ya U w T (callEnvC (Jp (Dx 35) "_law_fault" .none pm cd) L 428::outer) s1 []:=R1.HS;refine wpAny_call (codeAny_mono (Ua (lev:=lev) P.toPX hz (Q:=λ_ _=>∃es os,(Ck p).run b=.ok (es,os)) (X:=λi=>(Ck p).run b=.fault i) (λes os h v dv d o=>⟨es,os,h⟩) (λi h=>h) hW _ _ s1 vs C.frames C.handled C.depth C.units L1 rv) λres s2 q=>?_);cases res with
 |ok fl=>
  cases fl with
  |ret v=>obtain⟨d,l',G5,L',S',es,os,AB⟩:=q;obtain⟨R2,S2⟩:=R1.back (fp:=[]) (fr:=[]) L' S';refine wpAny_dropValue (wpAny_execs_nil (wpAny_execs_nil ?_));refine wpAny_execs_cons (wpAny_Return_some ?_);refine(show wpAny _ _ (pure Value.none) _ _ _ from wpAny_pure ?_);exact⟨.none,.none,[],rfl,.none,⟨R2.AH,λe he=>R2.frames e (.tail _ he),λp hp=>(nomatch hp),.nil,λp hp=>(nomatch hp)⟩,(S1.trans S2).mono (λ_ q=>q) λb hb=>(nomatch hb),h0 es os AB []⟩
  |next=>exact q.elim
  |brk=>exact q.elim
  |cont=>exact q.elim
 |error x=>
  have e:Exc U w T (callEnvC (Jp (Dx 35) "_law_fault" .none pm cd) L 428::outer) [] s1.heap true (λi=>(Ck p).run b=.fault i) x s2:=q;refine Pq C.frames rfl e λs3 e3=>?_;refine Ml e3 λs4 e4=>?_;obtain⟨ea,i,rfl,hi,UA⟩:=id e4.FI;refine wpAny_handleBy_cons (codeAny_handlers_test ?_) (λq=>by cases q);refine Me C TO rfl rfl (PP.glob (v:=.ref 61) rfl) e4.AH ?_;obtain⟨nm,q1,N,bs,sn,sub,ab,col,dd,k0,k1,k2,k3,k5,LZ⟩:=P.x.cls61;obtain⟨g8,dm,dq,XW,_⟩:=UA;rw[P.ct] at XW;have dj:=e4.AH.stays _ _ LZ;obtain⟨gm,g4,d4,t4,fy⟩:=s4;refine wpAny_excMatches_sub_self dj XW rfl (by decide) ?_;refine codeAny_handlers_suite_as (Ml e4 λs5 e5=>?_);obtain⟨R5,S5⟩:=R1.same e5;obtain⟨L6,i',bo,D4,OK⟩:=id e5.FI;obtain rfl:L6=ea:=by injection bo with q;exact q.symm
  obtain⟨xd,XS,XT,fe,n1,n2,BK,BJ,⟨mx,tx,Z1,Z3⟩,⟨ox,WQ,TF⟩,_⟩:=OK;rw[P.ct] at fe;refine wpAny_mono (Mc (U:=U) (w:=w) (T:=T) (c:=Fu (Jp (Dx 35) "_law_fault" .none pm cd) 428 A outer L (lev+7)) (E:=λ_ _=>False) (Q:=λr2 l2=>r2=[some (.bytes b),some (.int p),some (.ref L6)]/\l2=[]) (own:=(Fu (Jp (Dx 35) "_law_fault" .none pm cd) 428 A outer L (lev+7)).own []) (h0:=s5.heap) C.ML (.there (.there .loc)) R5 (.ref L6) (.refl _ _) ⟨rfl,rfl⟩) (λ_ s6 ⟨r6,l6,R6,S6,ZV,Z8⟩=>?_) λ_ _ z=>z.elim;subst ZV Z8;have out:∀a,s1.heap.objs.size<=a->a∉(Fu (Jp (Dx 35) "_law_fault" .none pm cd) 428 A outer L (lev+7)).own []:=λa ha q=>absurd (R1.live a q) (Bh.mpr ha);have XU:s6.heap.get? L6=some {cls:=.ref 61,dict:=some xd,data:=.fields XS,slots:=XT}:=by obtain⟨o',w1,w2⟩:=S6.kept _ _ fe (out _ n1.1);rw[w1,w2.eq (λq=>by cases q)]
  have K9:s6.heap.get? xd=some ox:=by obtain⟨o',w1,w2⟩:=S6.kept _ _ WQ (out _ n2.1);rw[w1,w2.eq (by rw[TF];decide)]
  have TK:s6.heap.Ns xd mx:=by obtain⟨o7,dw,d8,w1,w2⟩:=Z1;rw[WQ] at w1;injection w1 with w1;subst w1;exact⟨_,dw,d8,K9,w2⟩
  have X6:=R6.E8 TO;have di:=R6.AH.stays _ _ LZ;have G6:=R6.AH;obtain⟨m6,o6,TP,N4,_,GA⟩:=R6.vars;have GA:Lv s6.heap m6 [.loc "data",.loc "at",.loc "fault"] [some (.bytes b),some (.int p),some (.ref L6)]:=GA;obtain⟨va,ZC,YR⟩:∃v,m6 "at"=some v/\RV s6.heap (.int p) v:=by
   cases GA with
   |cons _ q=>cases q with
    |cons q _=>exact q
  obtain⟨vf,ZA,YQ⟩:∃v,m6 "fault"=some v/\RV s6.heap (.ref L6) v:=by
   cases GA with
   |cons _ q=>cases q with
    |cons _ q=>cases q with
     |cons q _=>exact q
  obtain⟨ta,rfl⟩:=YR.intAt;obtain rfl:=YQ.AS;have I6:InstAt s6.heap L6 {cls:=.ref 61,dict:=some xd,data:=.fields XS,slots:=XT} 61 (some ox):=⟨XU,rfl,rfl,K9⟩;obtain⟨ij,UO,_,T8⟩:=P.x.X.mro;have az:findObj T.K 61 (some ox) "at"=some (.value (.int i' tx)):=findObj_own (by unfold hasDictIn;rw[UO];exact T8) P.x.at_ rfl (by rw[Xh TK K9,Z3]);refine wpAny_execs_cons (wpAny_Return_some (wpAny_BinOp (Attribute_name (wpAny_Name (wpAny_loadName_local rfl rfl TP ZA ?_) rfl))));have YC:=(S1.trans S5).trans S6;obtain⟨gj,g6,d6,t6,fw⟩:=s6;refine wO X6 di XU rfl I6 az P.ga P.gt rfl PySem.F.attr_Exception.ga ?_;refine wpAny_Name (wpAny_loadName_local rfl rfl TP ZC ?_) rfl;refine FV ?_;refine wpAny_nameGoes rfl TP rfl λh7 m7 gn S7=>?_;have hL:(Fu (Jp (Dx 35) "_law_fault" .none pm cd) 428 A outer L (lev+7)).env.locals=L:=rfl;have CX:T.B.objs.size<=L:=R1.apart L (Sd _ _);refine⟨_,.int (i'-p),[],rfl,.int _ _,⟨⟨?_,λbb o eo=>(S7.2 bb λz=>absurd (Yc (z▸CX) (Am eo)) (Dv _)).trans (G6.stays bb o eo),?_⟩,λenv he=>?_,λp hp=>(nomatch hp),.nil,λp hp=>(nomatch hp)⟩,⟨λb o e n=>?_,λa ha=>(nomatch ha),?_⟩,h1 i' D4⟩
  ·obtain⟨hh,PZ,e⟩:=G6.hs;exact⟨h7,_,by injection e;subst_vars;rfl⟩
  ·show T.B.objs.size<=h7.objs.size;rw[S7.1];exact G6.room
  ·obtain⟨w1,L2,o2,MY,QR,w2,w3,w4,w5,w6⟩:=R6.frames env (.tail _ he);exact⟨w1,L2,o2,MY,QR,w2,w3,(S7.2 _ (TG env he _ w2)).trans w4,w5,w6⟩
  ·obtain⟨o',w1,w2⟩:=YC.kept b o e n;exact⟨o',(S7.2 b λz=>n (z▸Sd _ _)).trans w1,w2⟩
  ·show s.heap.objs.size<=h7.objs.size;rw[S7.1];exact YC.size
theorem rJ {K:Frag}(e:K.lookup a=some o):(a,o)∈K:=by k_with"o"=>
 induction K with
 |nil=>cases e
 |cons p K ih=>
  obtain⟨b,x⟩:=p;rw[aF] at e;cases hb:a==b with
  |true=>rw[hb] at e;injection e with e;rw[beq_iff_eq] at hb;rw[hb,e];exact .head _
  |false=>rw[hb] at e;exact .tail _ (ih e)
theorem Aa2 (h:Heap):(L3 h).In h:=by k_with"o"=>intro a o e;have:=rJ e;unfold L3 at this;obtain⟨b,_,hb⟩:=Dr.mp this;obtain⟨o',ho,q⟩:=Gn.mp hb;injection q with q1 q2;subst q1 q2;exact ho
theorem Nv {d:Data}(e:dataOf h a=some d):∃o,h.get? a=some o/\o.data=d:=Gn.mp e
theorem uY (e:zW v=some x):∃t,v=.str x t:=by k_with"o"=>
 cases v
 case str y t=>exact⟨t,congrArg (Value.str · t) (Gq.inj e)⟩
 all_goals exact absurd e.symm (Fc x)
theorem vA {x:Int}(e:zY v=some x):∃t,v=.int x t:=by k_with"o"=>
 cases v
 case int y t=>exact⟨t,congrArg (Value.int · t) (Gq.inj e)⟩
 all_goals exact absurd e.symm (Fc x)
theorem uZ {x:Addr}(e:zX v=some x):v=.ref x:=by k_with"o"=>
 cases v
 case ref y=>exact congrArg Value.ref (Gq.inj e)
 all_goals exact absurd e.symm (Fc x)
theorem mY {d:Data}{x:Array Value}(e:qE d=some x):d=.fields x:=by k_with"o"=>
 cases d
 case fields y=>exact congrArg Data.fields (Gq.inj e)
 all_goals exact absurd e.symm (Fc x)
theorem jQ {d:Data}{x:FuncData}(e:uP d=some x):d=.func x:=by k_with"o"=>
 cases d
 case func y=>exact congrArg Data.func (Gq.inj e)
 all_goals exact absurd e.symm (Fc x)
theorem qF {d:Data}{x:ClassData}(e:Aa5 d=some x):d=.cls x:=by k_with"o"=>
 cases d
 case cls y=>exact congrArg Data.cls (Gq.inj e)
 all_goals exact absurd e.symm (Fc x)
theorem yI {d:Data}{x:Array Value}(e:Acq d=some x):∃n,d=.seq x n:=by k_with"o"=>
 cases d
 case seq y n=>exact⟨n,congrArg (Data.seq · n) (Gq.inj e)⟩
 all_goals exact absurd e.symm (Fc x)
theorem uQ {d:Data}{x:Option Value}(e:zT d=some x):d=.cell x:=by k_with"o"=>
 cases d
 case cell y=>exact congrArg Data.cell (Gq.inj e)
 all_goals exact absurd e.symm (Fc x)
theorem Xt {α:Type}{o:Option α}{f:α->Bool}(e:o.any f=true):∃a,o=some a/\f a=true:=by k_with"o"=>
 cases o with
 |none=>cases e
 |some a=>exact⟨a,rfl,e⟩
theorem Kr {α β:Type}{o:Option α}{f:α->Option β}{b:β}(e:o.bind f=some b):∃a,o=some a/\f a=some b:=by k_with"o"=>exact(Qr.mp e)
theorem tY (e:nth h a i=some x):∃o vs t,h.get? a=some o/\o.data=.fields vs/\vs[i]?=some (.str x t):=by k_with"o"=>obtain⟨vs,e1,e2⟩:=Kr e;obtain⟨d,e3,e4⟩:=Kr e1;obtain⟨v,e5,e6⟩:=Kr e2;obtain⟨t,rfl⟩:=uY e6;obtain⟨o,h3,h4⟩:=Nv e3;exact⟨o,vs,t,h3,h4.trans (mY e4),e5⟩
theorem bL {cd:Value}{q:Str}(e:bM h cd q=true):h.CodeRec cd q:=by k_with"o"=>obtain⟨c,e1,e2⟩:=Kr (beq_iff_eq.mp e);obtain⟨o,vs,t,e3,e4,e5⟩:=tY e2;rw[uZ e1];exact⟨_,_,_,_,rfl,e3,e4,e5⟩
theorem dW {q:Str}{dfl:Value}(e:bC h a=some (Jp st q dfl .none .none)):∃pm cd,(∃o,h.get? a=some o/\o.data=.func (Jp st q dfl pm cd))/\h.CodeRec cd q:=by k_with"o"=>
 obtain⟨f,e1,e2⟩:=Kr e;obtain⟨d,e3,e4⟩:=Kr e1;cases hc:bM h f.code f.qualname with
 |false=>rw[hc] at e2;cases e2
 |true=>rw[hc] at e2;injection e2 with e;obtain⟨o,ho,hd⟩:=Nv e3;obtain⟨n,q',p,b,sc,g,cl,df,kd,dc,pm,an,cd,ct,bl⟩:=f;unfold nJ Jp at e;injection e;subst_vars;exact⟨pm,cd,⟨o,ho,jQ e4⟩,bL hc⟩
theorem pE (e:seq1 h a=true):∃o v n,h.get? a=some o/\o.data=.seq #[v] n:=by k_with"o"=>obtain⟨xs,e1,e2⟩:=Xt e;obtain⟨d,e3,e4⟩:=Kr e1;obtain⟨n,rfl⟩:=yI e4;obtain⟨o,h3,h4⟩:=Nv e3;obtain⟨v,rfl⟩:=Array.size_eq_one_iff.mp (beq_iff_eq.mp e2);exact⟨o,v,n,h3,h4⟩
theorem rQ {q:Str}(e:uM h a q=true):∃oc vs file tf,h.get? a=some oc/\oc.data=.fields vs/\vs[2]?=some (.str file tf)/\(q==file)=true:=by k_with"o"=>obtain⟨o,vs,t,e3,e4,e5⟩:=tY (beq_iff_eq.mp e);exact⟨_,_,_,_,e3,e4,e5,beq_self_eq_true q⟩
theorem rU {b:Addr}(e:uS h a b=true):h.IsCell a (some (.ref b)):=by k_with"o"=>obtain⟨d,e1,e2⟩:=Kr (beq_iff_eq.mp e);obtain⟨o,h3,h4⟩:=Nv e1;exact⟨o,h3,h4.trans (uQ e2)⟩
theorem uF (e:zP h a=true):∃o cd,h.get? a=some o/\o.data=.cls cd:=by k_with"o"=>obtain⟨c,e⟩:=eT.mp e;obtain⟨d,e1,e2⟩:=Kr e;obtain⟨o,h3,h4⟩:=Nv e1;exact⟨o,c,h3,h4.trans (qF e2)⟩
theorem Te {α:Type}{l:List α}(h:l.length=n+1):∃a r,l=a::r/\r.length=n:=by k_with"o"=>
 cases l with
 |nil=>cases h
 |cons a r=>exact⟨a,r,rfl,Vl.inj h⟩
theorem uO (e:zR h=true):∃nm q N bs sn sub ab col dd k0 k1 k2 k3 k5,h.get? 61=some (excClassObj nm q 61 N bs ES true sn sub ab col dd k0 k1 k2 k3 k5 "Exception.__new__"):=by k_with"o"=>
 obtain⟨o,ho,e⟩:=Xt e;rw[Dg,Dg,Dg] at e;obtain⟨⟨⟨e1,hz⟩,hs⟩,e⟩:=e;obtain⟨cd,hd,e⟩:=Xt e;rw[Dg,Dg] at e;obtain⟨⟨e2,e3⟩,e4⟩:=e;obtain⟨c,dd,od,⟨sl⟩⟩:=o;obtain rfl:=qF hd;obtain⟨nm,bs,mro,N,q,JD,sn,sub,ab,col,OT⟩:=cd;obtain rfl:=beq_iff_eq.mp e1;obtain rfl:=beq_iff_eq.mp e2;have e3:JD=true:=e3;have e5:OT=false:=by cases OT with|false=>rfl|true=>cases e4
 clear e4;subst e3 e5;obtain⟨k0,l0,rfl,z0⟩:=Te (beq_iff_eq.mp hz:sl.length=6);obtain⟨k1,l1,rfl,z1⟩:=Te z0;obtain⟨k2,l2,rfl,z2⟩:=Te z1;obtain⟨k3,l3,rfl,z3⟩:=Te z2;obtain⟨k4,l4,rfl,z4⟩:=Te z3;obtain⟨k5,l5,rfl,z5⟩:=Te z4;obtain rfl:=lB.mp z5;have hs:some k4=_:=beq_iff_eq.mp hs;injection hs with hs;subst hs;exact⟨nm,q,N,bs,sn,sub,ab,col,dd,k0,k1,k2,k3,k5,ho⟩
theorem tL {file:Str}(hb:dN file h=true):h.nsMap mainGlobals "law"=some (.ref 440):=by k_with"o"=>unfold dN at hb;exact beq_iff_eq.mp (Bp.mp hb).2
theorem uL:∀e∈Sk,(Hu e.2.1).kind=.function/\(Hu e.2.1).isGenerator=false/\(Hu e.2.1).isCoroutine=false/\((Hu e.2.1).names.map (·.1)).Nodup/\∀x∈(Hu e.2.1).names,(x.1==("__debug__" : Str))=false/\(x.1==("__classdict__" : Str))=false:=by k_with"o"=>decide +kernel
theorem xW:(Hu (Dc 7 0)).kind=.function/\(Hu (Dc 7 0)).isGenerator=false/\(Hu (Dc 7 0)).isCoroutine=false/\((Hu (Dc 7 0)).names.map (·.1)).Nodup/\∀x∈(Hu (Dc 7 0)).names,(x.1==("__debug__" : Str))=false/\(x.1==("__classdict__" : Str))=false:=by k_with"o"=>decide +kernel
theorem Ack (TO:T.Ok U w)(hK:T.K=L3 T.B)(UZ:T.CT=61)(WU:T.mg=T.B.nsMap mainGlobals)(hb:dN U.main.file T.B=true)(hf:pF T.B=yF)
  (SD:(U.main.scope.names.lookup ("super" : Str)).isSome=false):PY U w T:=by k_with"o"=>
 unfold dN at hb;simp only[Dg] at hb;obtain⟨⟨⟨⟨⟨⟨⟨⟨⟨⟨⟨⟨⟨⟨b1,b2⟩,b3⟩,b4⟩,b5⟩,b6⟩,b7⟩,b8⟩,b9⟩,IA⟩,X7⟩,PN⟩,QT⟩,F5⟩,_⟩:=hb;unfold zQ at QT;simp only[Dg,beq_iff_eq] at QT;obtain⟨⟨⟨⟨⟨⟨⟨⟨⟨⟨⟨x1,x2⟩,x3⟩,x4⟩,x5⟩,x6⟩,x7⟩,x8⟩,x9⟩,VS⟩,VR⟩,VP⟩:=QT;rw[<-hK] at b4 b5 x1 x2 x3 x4 x5 x6 x7 x8 x9 VS VR VP;rw[<-WU] at b1 b3;unfold pF yF at hf;injection hf with f1 hf;injection hf with f2 f3;refine {ok:=TO,mg:=?_,mgI:=?_,mgN:=?_,keep:=?_,cls:=?_,fn:=?_,init:=?_,x:=?_,ct:=UZ,dfl:=pE b6,ga:=VR,gt:=VP}
 ·intro x v hx;have:=Ic.mp b1 _ (PySem.mem_of_lookup hx);rwa[beq_iff_eq] at this
 ·intro x i hx;have:=Ic.mp b2 _ (PySem.mem_of_lookup hx);rw[WU];obtain⟨v,hv,q⟩:=Kr (beq_iff_eq.mp this);obtain⟨t,rfl⟩:=vA q;exact⟨t,hv⟩
 ·intro e he;have:=Ic.mp b3 e he;rwa[Option.isNone_iff_eq_none] at this
 ·exact λa ha=>Ic.mp b4 a ha
 ·intro e he;have:=Ic.mp b5 e he;unfold zU at this;simp only[Dg,beq_iff_eq] at this;obtain⟨⟨⟨⟨⟨⟨⟨c1,c2⟩,c3⟩,c4⟩,c5⟩,c6⟩,c7⟩,c8⟩:=this;refine⟨⟨c1,c2,c3,c4,c5⟩,c6,λx f hx=>?_,λx hx=>?_⟩
  ·have:=Ic.mp c7 _ (PySem.mem_of_lookup hx);rw[Dg,beq_iff_eq,beq_iff_eq] at this;exact this
  ·have:=Ic.mp c8 x hx;rwa[beq_iff_eq] at this
 ·intro e he;have h1:bC T.B e.1=some (Jp e.2.1 e.2.2 .none .none .none):=by obtain⟨i,hi⟩:=Bx he;have:=congrArg (λl:List (Option FuncData)=>l[i]?) f3;simp only[Bw,hi,Option.map_some,Gq.injEq] at this;exact this
  obtain⟨pm,cd,h2,h3⟩:=dW h1;obtain⟨k1,k2,k3,k4,k5⟩:=uL e he;exact⟨pm,cd,h2,h3,rfl,rfl,k1,k2,k3,rfl,rfl,k4,k5⟩
 ·obtain⟨pm,cd,h2,h3⟩:=dW f2;obtain⟨k1,k2,k3,k4,k5⟩:=xW;exact⟨pm,cd,h2,h3,rfl,rfl,k1,k2,k3,rfl,rfl,k4,k5⟩
 ·refine {fn:=?_,dfl:=pE b7,code:=bL b8,codeObj:=rQ b9,cell:=rU IA,cls48:=uF X7,cls61:=uO PN,X:=⟨?_,x2⟩,init:=x3,fnT:=x4,what:=x5,at_:=x6,sup:=x7,subE:=x8,sub48:=x9,opq:=VS,top:=SD}
  ·obtain⟨o,ho,F5⟩:=Xt F5;rw[Dg,beq_iff_eq] at F5;obtain⟨hc,F5⟩:=F5;obtain⟨f,hd,F5⟩:=Xt F5;rw[beq_iff_eq] at F5;obtain⟨f',e1,e2⟩:=Kr f1;obtain⟨d,e3,e4⟩:=Kr e1;obtain⟨o',K',CM⟩:=Nv e3;rw[ho] at K';injection K' with K';subst K' CM;rw[hd] at e4;injection e4 with e4;subst e4;cases hk:bM T.B f.code f.qualname with
   |false=>rw[hk] at e2;cases e2
   |true=>rw[hk] at e2;refine⟨o,f.pyModule,ho,hc,(jQ hd).trans (congrArg _ ?_)⟩;injection e2 with e;obtain⟨n,q',p,b,sc,g,cl,df,kd,dc,pm,an,cd,ct,bl⟩:=f;unfold nJ Jp at e;dsimp only at F5;injection e;subst_vars;rfl
  ·obtain⟨cd,H9,x1⟩:=Xt x1;rw[Dg,beq_iff_eq] at x1;exact⟨cd,H9,x1.1,x1.2⟩
section
open PySem.SeqAt
noncomputable def Vr:Nat->Nat
 | 0=>11
 | 1=>4
 |_=>5
def first? (x:Tw):Prop:=(x.nth=0/\x.kind≠0)\/(x.KJ=0/\x.kind=0)
structure oR (b:List UInt8)(GU:List Tw):Prop where
 len:b.length<=900000
 sl:GU.length<=100000
 head:(Ck 0).run ([0,12]++b.drop 2)=.fault 0
 kinds:∀x∈GU,x.kind<=2
 great:∀x∈GU,(Ck 0).run (b.take x.at_++be 1114112 3++b.drop (x.at_+3))=.fault x.at_
 more:∀x∈GU,x.kind=1->(Ck 0).run (b.take x.at_++be 1114111 3++[1]++b.drop (x.at_+4))=.fault x.at_
 back:∀x∈GU,¬first? x->Vr x.kind<=x.at_/\(Ck 0).run (b.take x.at_++(b.drop (x.at_-Vr x.kind)).take 3++b.drop (x.at_+3))=.fault x.at_
theorem Wk (P:PY U w T)(hz:b.length<=1000000)(AB:(Ck 0).run b=.fault i)(h:Q (.int i) []) :
  Cg U w T (lev+8) (.ref 428) [.bytes b,.int 0] [] Q X:=by k_with"o"=>
 refine jL P (p:=0) hz (by rw[AB];intro q;cases q) (λes os q=>by rw[AB] at q;cases q) λj q=>?_;rw[AB] at q;injection q with q;subst q;rw[show(i:Int)-((0:Nat):Int)=i from by omega];exact h
theorem lQ {α:Type}(l:List α)(i j:Nat)(a b:Int)(ha:a=i)(hb:b=j)(h:i<=j):Kc l (some a) (some b)=(l.drop i).take (j-i):=by k_with"o"=>subst ha hb;exact dM l i j h
theorem Ov {α:Type}(l:List α)(k:Nat)(a:Int)(ha:a=k):Kc l (some a) none=l.drop k:=by subst ha;exact lR l k
theorem gL (C:c.Ok){j:Nat}(hk:k<=2)(hj:j<=2)(h:Q (.bool (k==j)) l):W2 U w T c (compareOp .Eq) (.str (Ln k)) (.str (Ln j)) r l Q X:=by k_with"o"=>
 have e:PyData.eqv (.str (Ln k)) (.str (Ln j))=(k==j)/\shaped (.str (Ln k))=true/\shaped (.str (Ln j))=true:=by
  match k,j,hk,hj with
  | 0,0,_,_=>decide +kernel
  | 0,1,_,_=>decide +kernel
  | 0,2,_,_=>decide +kernel
  | 1,0,_,_=>decide +kernel
  | 1,1,_,_=>decide +kernel
  | 1,2,_,_=>decide +kernel
  | 2,0,_,_=>decide +kernel
  | 2,1,_,_=>decide +kernel
  | 2,2,_,_=>decide +kernel
 exact eO C (.val rfl) (.val rfl) e.2.1 e.2.2 (by show Q (.bool (PyData.eqv (.str (Ln k)) (.str (Ln j)))) l;rw[e.1];exact h)
theorem eM (C:c.Ok){j:Nat}(hk:k<=2)(hj:j<=2)(h:Q (.bool (!(k==j))) l):W2 U w T c (compareOp .NotEq) (.str (Ln k)) (.str (Ln j)) r l Q X:=by k_with"o"=>
 have e:PyData.eqv (.str (Ln k)) (.str (Ln j))=(k==j)/\shaped (.str (Ln k))=true/\shaped (.str (Ln j))=true:=by
  match k,j,hk,hj with
  | 0,0,_,_=>decide +kernel
  | 0,1,_,_=>decide +kernel
  | 0,2,_,_=>decide +kernel
  | 1,0,_,_=>decide +kernel
  | 1,1,_,_=>decide +kernel
  | 1,2,_,_=>decide +kernel
  | 2,0,_,_=>decide +kernel
  | 2,1,_,_=>decide +kernel
  | 2,2,_,_=>decide +kernel
 exact Xx C (.val rfl) (.val rfl) e.2.1 e.2.2 (by show Q (.bool (!PyData.eqv (.str (Ln k)) (.str (Ln j)))) l;rw[e.1];exact h)
theorem yM (P:PY U w T){sp:Addr}{p:Nat×Nat}{GU:List Tw}(H:oR b GU)(h:∀l,Q (.bool true) l) :
  Cg U w T (lev+9) (.ref 435) [.ref a,.bytes b,.ref sp] [(a,Io p),(sp,.list (GU.map Fd))] Q X:=by k_with"o"=>
 have TO:=P.ok;have PP:=P.toPrg;have hb:=H.len;have J2:b.length<=sizeLine:=Aa hb (by decide);refine P.call 38 rfl ["pen","data","spots"] (λpm cd vals hv=>?_) rfl λpm cd A outer L C=>?_
 ·obtain⟨x,y,z,rfl⟩:=mN hv;rfl
 refine⟨[some (.ref a),some (.bytes b),some (.ref sp),none,none,none,none,none,none],.cons .loc (.cons (.there .loc) (.cons (.there (.there .loc)) .nil)),?_⟩;refine Dn (Jf ?_);walk_at"nus";refine .inl ⟨b,rfl,J2,?_⟩;rw[Ov b 2 2 rfl];refine Cf (by rw[Cw];show 2+_<=_;omega) ?_;walk_at"nus";refine Bk C .nil (Wk P (i:=0) (by simp only[An,Cw];omega) H.head ?_);walk_at"nus";refine Ip ?_;walk_at"nus";refine Dn (Jf ?_);walk_at"nus";intro b2;walk_at"nus";have ZL:∀d∈GU.map Fd,SV 60 d:=λd hd=>by
  obtain⟨x,hx,rfl⟩:=Af.mp hd;refine(SV.tup (n:=59) λd hd=>?_);simp only[Ag,Df,or_false] at hd;rcases hd with rfl|rfl|rfl|rfl
  ·have hk:=H.kinds x ‹_›
   match x.kind,hk with
   | 0,_=>exact⟨rfl,by decide +kernel,Ca _⟩
   | 1,_=>exact⟨rfl,by decide +kernel,Ca _⟩
   | 2,_=>exact⟨rfl,by decide +kernel,Ca _⟩
  ·exact SV.int _ _
  ·exact SV.int _ _
  ·exact SV.int _ _
 refine eN C (by walk_at"has") (.here .refl) ZL ?_;walk_at"nus";by_cases he:GU=[]
 ·subst he;refine Ni ?_;walk_at"nus";walk_at"nus";exact Eu.picks .nil (h _)
 have e1:(GU.map Fd).isEmpty=false:=by cases GU with|nil=>exact absurd rfl he|cons x t=>rfl
 rw[e1];refine Ip ?_;walk_at"nus";have K7:0<(GU.map Fd).length:=by rw[Ac];exact List.length_pos_iff.mpr he
 refine Bk C (by walk_at"picks") (Oa PP K7 (by rw[Ac];have:=H.sl;omega) λp2 d2 hd2=>?_);obtain⟨x,hx,rfl⟩:=Af.mp hd2;have hk:=H.kinds x hx;have LL:=H.great x hx;have N7:=H.more x hx;have O4:=H.back x hx;walk_at"nus";refine Hw C rfl rfl (Bt C (by walk_at"upd") (Bt C (by walk_at"upd") (Bt C (by walk_at"upd") (Bt C (by walk_at"upd") ?_))));refine Ct ?_;walk_at"nus";refine Mn (k:=3) (n:=1114112) P.toPX C rfl (by decide) ?_;walk_at"nus";refine Dn (Jf ?_);walk_at"nus";refine .inl ⟨b,rfl,J2,?_⟩;rw[Sa b x.at_];walk_at"nus";refine Cf (by rw[Bl,Av];omega) ?_;walk_at"nus";refine .inl ⟨b,rfl,J2,?_⟩;rw[Ov b (x.at_+3) _ (by omega)];refine Cf (by rw[Ab,Bl,Av,Cw];omega) ?_;walk_at"nus";have ET:∀n:Nat,((n:Int) != (n:Int))=false:=λn=>by simp
 refine Bk C .nil (Wk P (i:=x.at_) (by simp only[Ab,Bl,Av,Cw];omega) LL ?_);walk_at"nus";rw[ET];refine Ip ?_;walk_at"nus";refine Et (λr1 l1=>r1=[some (.ref a),some (.bytes b),some (.ref sp),some (.str (Ln x.kind)),some (.int x.at_),some (.int x.nth),some (.int x.KJ),some (.bytes (be 1114112 3)),none]/\Bm l1 []) (λK0 BV=>Jf ?_) ?_
 ·walk_at"nus";refine gL (j:=1) C hk (by decide) ?_;walk_at"nus";by_cases h1:x.kind=1
  ·rw[h1] at BV ⊢;refine Ni ?_;walk_at"nus";refine .inl ⟨b,rfl,J2,?_⟩;rw[Sa b x.at_];walk_at"nus";refine Mn (k:=3) (n:=1114111) P.toPX C rfl (by decide) ?_;refine Cf (by rw[Bl,Av];omega) ?_;walk_at"nus";refine Cf (by rw[Ab,Bl,Av];show _+1<=_;omega) ?_;walk_at"nus";refine .inl ⟨b,rfl,J2,?_⟩;rw[Ov b (x.at_+4) _ (by omega)];refine Cf (by simp only[Ab,Bl,Av,Cw,An,Eb];omega) ?_;walk_at"nus";refine Bk C .nil (Wk P (i:=x.at_) (by simp only[Ab,Bl,Av,Cw,An,Eb];omega) (by simpa using N7 h1) ?_);walk_at"nus";rw[ET];refine Ip ?_;walk_at"nus";exact⟨rfl,rfl,by walk_at"drop"⟩
  ·rw[show(x.kind==1)=false from by simp[h1]];refine Ip (Ip ?_);walk_at"nus";exact⟨rfl,rfl,by walk_at"drop"⟩
 rintro r1 l1 ⟨rfl,hd⟩
 with_reducible refine Eg hd ?_
 refine Dn (Jf (vU (M:=λbb l1=>(bb=true↔first? x)/\l1=[]) ?_ ?_))
 ·have cz:∀n:Nat,((n:Int)==0)=(n==0):=λn=>by cases n<;>rfl
  walk_at"nus";rw[cz];by_cases hA:x.nth=0/\x.kind≠0
  ·rw[hA.1];refine Ni ?_;walk_at"nus";refine eM (j:=0) C hk (by decide) ?_;rw[show(x.kind==0)=false from by simp[hA.2]];refine⟨_,rfl,Ni ?_⟩;walk_at"nus";exact⟨⟨λ_=>.inl hA,λ_=>rfl⟩,rfl⟩
  ·by_cases hn:x.nth=0
   ·have EW:x.kind=0:=Classical.not_not.mp λq=>hA ⟨hn,q⟩;rw[hn];refine Ni ?_;walk_at"nus";refine eM (j:=0) C hk (by decide) ?_;rw[show(x.kind==0)=true from by simp[EW]];refine⟨_,rfl,Ip ?_⟩;walk_at"nus";rw[cz];by_cases hr:x.KJ=0
    ·rw[hr];refine Ni ?_;walk_at"nus";refine gL (j:=0) C hk (by decide) ?_;walk_at"nus";by_cases h0:x.kind=0
     ·rw[h0];refine Ni ?_;walk_at"nus";exact⟨⟨λ_=>.inr ⟨hr,h0⟩,λ_=>rfl⟩,rfl⟩
     ·rw[show(x.kind==0)=false from by simp[h0]];refine Ip ?_;walk_at"nus";exact⟨⟨λq=>(nomatch q),λq=>q.elim (λq=>absurd q hA) λq=>absurd q.2 h0⟩,rfl⟩
    ·rw[show(x.KJ==0)=false from by simp[hr]];refine Ip ?_;walk_at"nus";exact⟨⟨λq=>(nomatch q),λq=>q.elim (λq=>absurd q hA) λq=>absurd q.1 hr⟩,rfl⟩
   ·rw[show(x.nth==0)=false from by simp[hn]];refine Ip ?_;walk_at"nus";rw[cz];by_cases hr:x.KJ=0
    ·rw[hr];refine Ni ?_;walk_at"nus";refine gL (j:=0) C hk (by decide) ?_;walk_at"nus";by_cases h0:x.kind=0
     ·rw[h0];refine Ni ?_;walk_at"nus";exact⟨⟨λ_=>.inr ⟨hr,h0⟩,λ_=>rfl⟩,rfl⟩
     ·rw[show(x.kind==0)=false from by simp[h0]];refine Ip ?_;walk_at"nus";exact⟨⟨λq=>(nomatch q),λq=>q.elim (λq=>absurd q hA) λq=>absurd q.2 h0⟩,rfl⟩
    ·rw[show(x.KJ==0)=false from by simp[hr]];refine Ip ?_;walk_at"nus";exact⟨⟨λq=>(nomatch q),λq=>q.elim (λq=>absurd q hA) λq=>absurd q.1 hr⟩,rfl⟩
 ·rintro bb l1 ⟨HA,rfl⟩;cases bb
  ·refine Ip ?_;obtain⟨hle,AB⟩:=O4 λq=>by have:=HA.mpr q;cases this
   refine Xu ?_;refine Ct ?_
   with_reducible refine Om C ?_ ?_
   ·rfl
   with_reducible refine nT (D:=[(.str "record",.int 11),(.str "range",.int 4),(.str "code",.int 5)]) ?_ ?_ ?_ ?_ ?_ ?_ ?_ ?_ ?_ ?_
   ·exact λ_ _=>rfl
   ·rfl
   ·rfl
   ·decide +kernel
   ·simp;decide +kernel
   ·rfl
   ·rfl
   ·exact λq=>by cases q
   ·decide
   walk_at"nus";refine⟨Ln x.kind,(Vr x.kind:Nat),rfl,?_,_,by walk_at"upd",?_⟩
   ·match x.kind,hk with
    | 0,_=>exact .head _
    | 1,_=>exact .tail _ (.head _)
    | 2,_=>exact .tail _ (.tail _ (.head _))
   generalize AM:Vr x.kind=sb at hle AB;walk_at"nus";refine .inl ⟨b,rfl,J2,?_⟩;rw[Sa b x.at_];walk_at"nus";refine .inl ⟨b,rfl,J2,?_⟩;rw[lQ b (x.at_-sb) (x.at_-sb+3) _ _ (by omega) (by omega) (by omega),Lu];refine Cf (by rw[Av,Av,Cw];omega) ?_;walk_at"nus";refine .inl ⟨b,rfl,J2,?_⟩;rw[Ov b (x.at_+3) _ (by omega)];refine Cf (by simp only[Ab,Av,Cw];omega) ?_;walk_at"nus";refine Bk C .nil (Wk P (i:=x.at_) (by simp only[Ab,Av,Cw];omega) AB ?_);walk_at"nus";rw[show((x.at_:Int)==(x.at_:Int))=true from by simp];walk_at"nus";exact Eu.picks .nil (h _)
  ·refine Ni ?_;walk_at"nus";walk_at"nus";exact Eu.picks .nil (h _)
end
section
open Cl
def oE (es:BA)(os:A7)(data:List UInt8):Prop:=J7 es os/\∀(ks:List (List Int)) (ss:List Int),Qo os ks->ss.Perm ((Qt es os (ks.filter (Dd es os))).map (·.1))->ss.Pairwise (· < ·)->
 Ei (ss.map λk=>(k,Bn (Be es k),Jw (Qt es os (ks.filter (Dd es os))) k))=data
def zG (es:BA)(os:A7)(t:V):Prop:=∀(ks:List (List Int)) (ss:List Int),Ab0 es ss->Qo os ks->tH es os ss ks=t
noncomputable def Fb (es:BA)(rows:List De):List V:=(rows.filter λx=>!x.2.1.isEmpty).map λx=>Li es x.1
noncomputable def Fm (rows:List De):List V:=rows.flatMap λx=>x.2.2.map λp=>.tup [.tup (intsOf [x.1,p.1]),.int p.2]
structure Aaa (es:BA)(os:A7)(rows:List De):Prop where
 len:rows.length<=20
 row:∀x∈rows,x.2.1.length<=1000/\x.2.2.length<=1000/\0<=x.1/\NN x.2.1/\NN x.2.2
 keys:∀x∈rows,x.2.1≠[]->x.1∈es.map (·.1)
 wr:oE es os (Ei rows)
 told:zG es os (.tup [.tup (Fb es rows),.tup (Fm rows)])
 rd:∀lead:List UInt8,lead.length<=3->∃A9 CL,(Ck lead.length).run (lead++Ei rows)=.ok (A9,CL)/\oE A9 CL (Ei rows)/\zG A9 CL (.tup [.tup (Fb es rows),.tup (Fm rows)])
 cut:∀m,m<(Ei rows).length->∃i,(Ck 0).run ((Ei rows).take m)=.fault i
 PJ:oR (Ei rows) (Mu rows).spots
theorem oE.CP (P:Prg U w T){v dv d o:Addr}{es:BA}{os:A7}{data:List UInt8}{t:V}(hW:oE es os data)(hT:zG es os t)(h:Q t (Ig v dv d o es os)) :
  Cg U w T (lev+3) (.ref 296) [.ref v] (Ig v dv d o es os) Q X:=by k_with"o"=>exact(Nu.CP P (λe he=>(hW.1.ok e he).1) hW.1.on (Aa hW.1.ol (by decide)) hW.1.en (Aa hW.1.el (by decide)) (λe he=>Aa (hW.1.ek e he).2.2.1 (by decide)) λss ks h1 h2=>hT ks ss h1 h2▸h)
theorem oE.CN (P:PX U w T){v dv d o:Addr}{es:BA}{os:A7}{data:List UInt8}(hW:oE es os data)(h:Q (.bytes data) (Ig v dv d o es os)) :
  Ji U w T (lev+4) (.ref 373) [.ref v] (Ig v dv d o es os) Q X:=by k_with"o"=>exact(Nu.CN P hW.1 λks ss h1 h2 h3=>hW.2 ks ss h1 h2 h3▸h)
theorem SV.intsOf (n:Nat)(ks:List Int):SV (n+1) (.tup (Nu.intsOf ks)):=by k_with"o"=>exact(SV.tup λd hd=>by obtain⟨k,_,rfl⟩:=Af.mp hd;exact SV.int _ _)
theorem pC (es:BA)(rows:List De):SV 60 (.tup [.tup (Fb es rows),.tup (Fm rows)]):=by k_with"o"=>
 refine SV.mono (n:=4) (SV.tup λd hd=>?_) (by decide);simp only[Ag,Df,or_false] at hd;rcases hd with rfl|rfl
 ·refine SV.tup λd hd=>?_;obtain⟨x,_,rfl⟩:=Af.mp hd;refine SV.tup λd hd=>?_;simp only[Ag,Df,or_false] at hd;rcases hd with rfl|rfl
  ·exact SV.int _ _
  ·exact SV.intsOf _ _
 ·refine SV.tup λd hd=>?_;obtain⟨x,_,hd⟩:=Ib.mp hd;obtain⟨y,_,rfl⟩:=Af.mp hd;refine SV.tup λd hd=>?_;simp only[Ag,Df,or_false] at hd;rcases hd with rfl|rfl
  ·exact SV.intsOf _ _
  ·exact SV.int _ _
theorem AP.KL {ll:Led}{x:O}(h:(a,x)∈ll):AP ll a x:=by k_with"o"=>
 induction h with
 |head=>exact .here .refl
 |tail _ _ ih=>exact .there ih
theorem Pn:∀(rows:List De),(∀x∈rows,x.2.2.length<=1000)->(Fm rows).length<=1000*rows.length
 |[]=>λ_=>Ah _
 |x::xs=>λh=>by k_with"o"=>have h1:=Pn xs λy hy=>h y (.tail _ hy);have h2:=h x (.head _);unfold Fm at h1 ⊢;rw[Cp,Ab,Ac,An];omega
theorem Bm.perm {a b:Led}(h:a.Perm b):Bm a b:=by k_with"o"=>exact(⟨[],by rw[Au];exact h⟩)
theorem Jx.pre:∀a b:Led,Jx (a++b) a b
 |[]=>λ_=>.nil
 |_::a=>λb=>.cons .here (Jx.pre a b)
theorem Bm.swap (a b:Led):Bm (a++b) (b++a):=by k_with"o"=>exact(⟨[],by rw[Au];exact Cz⟩)
theorem Aaw (P:PY U w T){ob:Obj}{script:List Int}(hk:script.length<=63)
  (e8:∀es os ks ss,dD es->es.length<=4->Zt os->os.length<=6->Qo os ks->Vg es os ss->Aaa es os (Dz es os ks ss)) :
  Ji U w T (lev+10) (.ref 440) [.ref a] [(a,.fz ob (.list (intsOf script)))] (λd l'=>d=.bool true/\l'=[(a,.fz ob (.list (intsOf script)))]) X:=by k_with"o"=>
 have TO:=P.ok;have PP:=P.toPrg;have J8:=P.toPX;refine PP.callC 39 rfl ["script"] (λpm cd vals hv=>?_) rfl λpm cd A outer L C G=>?_
 ·obtain⟨x,rfl⟩:=Qh hv;rfl
 refine⟨[some (.ref a),none,none,none,none,none,none,none,none,none,none,none,none,none,none],.cons .loc .nil,?_⟩;refine Hr ?_;walk_at"nus";refine Bk C (by walk_at"picks") (Aaq PP hk λb=>?_);walk_at"nus";refine Jg (Bm.swap [(b,_)] [(a,_)]) ?_;refine kG (sC (Q:=λfl _ l'=>match fl with | .ret d=>Eu (λd _=>d=.bool true) d l' | .next=>Eu (λd _=>d=.bool true) .none l'|_=>False) ?_) ?_
 rotate_left
 ·rintro f r l ⟨l2,rfl,q⟩;cases f with
  |ret d=>obtain⟨_,_,_,q⟩:=q;exact⟨[_],l2,.refl _,q,rfl⟩
  |next=>obtain⟨_,_,_,q⟩:=q;exact⟨[_],l2,.refl _,q,rfl⟩
  |brk=>exact q
  |cont=>exact q
 refine Hr ?_;walk_at"nus";refine Bk C (by walk_at"picks") (tQ PP λd o es os p' hI hl hO FA=>?_);walk_at"nus";refine Hw C rfl rfl (Bt C (by walk_at"upd") (Bt C (by walk_at"upd") ?_));have hn:Hi U w ((os.map λe=>(e.1,V.int e.2)).map (·.1)):=by rw[Ay];refine Hi.sub hO.nodup λk hk=>?_;obtain⟨e,he,rfl⟩:=Af.mp hk;exact hO.key e he
 refine Hr ?_;walk_at"nus";refine cY TO (by unfold dI;walk_at"has") (by rw[Ac];exact Aa hl (by decide)) λd2=>?_;walk_at"nus";refine cX TO (by unfold dT;walk_at"has") hn (by rw[Ac];exact Aa FA (by decide)) λo2=>?_;walk_at"nus";refine bU PP C (lev:=lev+8) rfl rfl .nil λv dv=>aI PP ⟨rfl,?_⟩;refine Xg (by walk_at"upd") ?_
 first|refine Ky ?_|refine Nx ?_
 refine Hr ?_;walk_at"nus";refine Bk C (by walk_at"picks") (xD PP hI hl hO FA λrb rs ss ks EI KG EE=>?_);have H:=e8 es os ks ss hI hl hO FA EI KG;rw[<-EE] at H;refine Xg (by walk_at"upd") ?_
 first|refine Ky ?_|refine Nx ?_
 refine Jg (Bm.swap _ _) ?_;dsimp only[Kf,Er];refine Jg (l1:=(rb,.list (rs.map Kj))::(v,.inst 299 dv)::(dv,.ns [("defaults",.ref d2),("others",.ref o2)])::(d2,dI es)::(o2,dT os)::(d,dI es)::(o,dT os)::(b,Io p')::Ee rs) (by unfold dI dT;walk_at"drop") ?_;generalize MS:(rb,O.list (rs.map Kj))::(v,O.inst 299 dv)::(dv,O.ns [("defaults",V.ref d2),("others",V.ref o2)])::(d2,dI es)::(o2,dT os)::(d,dI es)::(o,dT os)::(b,Io p')::Ee rs=l0;refine Mh (λr1 l1=>(∃s1 c1 w1 u1,r1=[some (.ref a),some (.ref b),some (.ref d),some (.ref o),some (.ref v),some (.ref rb),s1,c1,w1,u1,none,none,none,none,none])/\Bm l1 l0) (λK0 BV=>Px.of ?_) ?_
 ·with_reducible refine aD C ?_ ?_
  ·exact λ_=>rfl
  walk_at"nus";refine⟨_,Tq C,λi r m=>(∃s1 c1 w1 u1,r=[some (.ref a),some (.ref b),some (.ref d),some (.ref o),some (.ref v),some (.ref rb),s1,c1,w1,u1,none,none,none,none,none])/\Bm m l0,⟨⟨_,_,_,_,rfl⟩,.refl _⟩,?_,λr l q=>BZ.go BV ⟨rfl,q⟩⟩;rintro i dd r m AQ K hK ⟨⟨s1,c1,w1,u1,rfl⟩,hm⟩;obtain⟨sel,rfl⟩:∃sel:Int,dd=.int sel:=by have A8:=Bd AQ;simp only[Ag,Df,or_false] at A8;rcases A8 with rfl|rfl|rfl|rfl|rfl<;>exact⟨_,rfl⟩
  refine Bt C (by walk_at"upd") ?_
  with_reducible refine Eg hm ?_
  with_reducible refine Dn ?_
  with_reducible refine aD C ?_ ?_
  ·exact λ_=>rfl
  walk_at"nus";refine⟨_,Tq C,λi r m=>(∃c1 w1 u1,r=[some (.ref a),some (.ref b),some (.ref d),some (.ref o),some (.ref v),some (.ref rb),some (.int sel),c1,w1,u1,none,none,none,none,none])/\Bm m l0,⟨⟨_,_,_,rfl⟩,.refl _⟩,?_,λr l ⟨⟨c1,w1,u1,e⟩,q⟩=>Xu (BZ.go hK (Vi ⟨⟨_,_,_,_,e⟩,q⟩))⟩;rintro i dd r m AQ K hK ⟨⟨c1,w1,u1,rfl⟩,hm⟩;obtain⟨code,rfl⟩:∃code:Int,dd=.int code:=by have A8:=Bd AQ;simp only[Ag,Df,or_false] at A8;rcases A8 with rfl|rfl|rfl|rfl|rfl|rfl|rfl|rfl|rfl|rfl<;>exact⟨_,rfl⟩
  refine Bt C (by walk_at"upd") ?_
  with_reducible refine Eg hm ?_
  subst MS;refine Ct ?_;walk_at"nus";refine kJ (k:=[sel,code]) C TO (by unfold dT;walk_at"has") ?_;rw[jD];walk_at"nus";refine Pw (M:=λdd l1=>dd=jI es os sel code/\Bm l1 ((rb,.list (rs.map Kj))::(v,.inst 299 dv)::(dv,.ns [("defaults",.ref d2),("others",.ref o2)])::(d2,dI es)::(o2,dT os)::(d,dI es)::(o,dT os)::(b,Io p')::Ee rs)) ?_ ?_
  ·refine Ol ?_;walk_at"nus";refine aB PP (by unfold dI;walk_at"has") ?_;rw[Wj];refine cA ?_;walk_at"nus";unfold jI;walk_at"split"
   ·walk_at"nus";exact⟨rfl,.refl _⟩
   ·refine Ol ?_;walk_at"nus";walk_at"split"
    ·walk_at"nus";exact⟨rfl,.refl _⟩
    ·walk_at"nus";exact⟨rfl,.refl _⟩
  rintro dd l1 ⟨rfl,hm⟩;refine Xg (by walk_at"upd") ?_
  first|refine Ky ?_|refine Nx ?_
  with_reducible refine Eg hm ?_
  refine Dn (Jf ?_);walk_at"nus";refine Bk C (by unfold Ig;walk_at"picks") (yA (es:=es) (os:=os) PP ?_);walk_at"nus";refine Vf C ?_ ?_
  ·unfold jI;walk_at"split"
   ·exact⟨rfl,by decide +kernel,Ca _⟩
   walk_at"split"
   ·exact SV.none _
   ·exact SV.int _ _
  walk_at"nus";exact⟨⟨_,_,_,rfl⟩,by unfold Ig;walk_at"drop"⟩
 rintro r1 l1 ⟨⟨s1,c1,w1,u1,rfl⟩,hd⟩;subst MS
 with_reducible refine Jg (l1:=((rb,.list (rs.map Kj))::Ee rs)++[(v,.inst 299 dv),(dv,.ns [("defaults",.ref d2),("others",.ref o2)]),(d2,dI es),(o2,dT os),(d,dI es),(o,dT os),(b,Io p')]) ?_ ?_
 ·exact hd.trans (Bm.perm (.cons _ (Cz (l₁:=[(v,O.inst 299 dv),(dv,.ns [("defaults",.ref d2),("others",.ref o2)]),(d2,dI es),(o2,dT os),(d,dI es),(o,dT os),(b,Io p')]) (l₂:=Ee rs))))
 have FO:rs.length<=20:=by have:=H.len;rwa[Ac] at this
 have QN:(Ei (rs.map Gz.t)).length<=900000:=H.PJ.len;refine Hr ?_;walk_at"nus";refine Bk C (.cons .here (Jx.pre _ _)) (rG J8 FO (λx hx=>H.row x.t (Oq hx)) λsp=>?_);walk_at"nus";refine Hw C rfl rfl (Bt C (by walk_at"upd") (Bt C (by walk_at"upd") ?_));show BU _ _ _ _ _ _ _ _ _
 with_reducible refine Jg (l1:=(sp,.list ((Mu (rs.map Gz.t)).spots.map Fd))::(b,Io p')::(v,.inst 299 dv)::(dv,.ns [("defaults",.ref d2),("others",.ref o2)])::(d2,dI es)::(o2,dT os)::(rb,.list (rs.map Kj))::(d,dI es)::Ee rs) ?_ ?_
 ·exact(Bm.swap (_::_::Ee rs) _).trans (by unfold dI dT;walk_at"drop")
 refine Hr ?_;walk_at"nus";refine Bk C (by walk_at"picks") (Sm PP (by decide) (by decide) λp2 n II=>?_);replace II:n<4:=II;refine gK (by decide) (by omega) (by omega) (by decide) ?_;walk_at"nus";generalize Z7:(Ia ((n:Int)).toNat [(7:UInt8)]).flatten=lead;have JY:lead.length<=3:=by rw[<-Z7];simp;omega
 obtain⟨A9,CL,AB,XH,cu⟩:=H.rd lead JY;refine Hr ?_;walk_at"nus";refine Cf (by omega) ?_;walk_at"nus";refine Gi (by omega) ?_;walk_at"nus";refine Bk C .nil (Ua J8 (by rw[Ab];omega) (λMY YZ h2 v2 ie d3 o3=>?_) (λi h2=>by rw[AB] at h2;cases h2) (by rw[AB];intro q;cases q));obtain⟨rfl,rfl⟩:A9=MY/\CL=YZ:=by rw[AB] at h2;injection h2 with h2;injection h2 with h2 h3;exact⟨h2,h3⟩
 refine Xg (by walk_at"upd") ?_
 first|refine Ky ?_|refine Nx ?_
 unfold Ig;dsimp only[Kf,Er]
 with_reducible refine Dy ?_
 with_reducible refine gO ?_
 refine oA (Yv rfl (Jt PP C rfl rfl rfl rfl rfl rfl (Dp.of ?_)));walk_at"nus";refine Gy C G (by unfold Ig;walk_at"picks") (H.wr.CN J8 ?_);walk_at"nus";refine Sx ?_;rw[bne_self_eq_false];refine⟨_,rfl,Ip ?_⟩;refine oA (.of ?_);walk_at"nus";refine Bk C (by unfold Ig;walk_at"picks") (XH.CP PP cu ?_);unfold Ig;walk_at"nus";refine Bk C (by unfold Ig;walk_at"picks") (H.wr.CP PP H.told ?_);unfold Ig;walk_at"nus";refine Vf C (pC _ _) ?_;refine⟨_,rfl,Ip ?_⟩;refine oA (Yv rfl (Jt PP C rfl rfl rfl rfl rfl rfl (Dp.of ?_)));walk_at"nus";refine Gy C G (by unfold Ig;walk_at"picks") (XH.CN J8 ?_);unfold Ig;walk_at"nus";refine Sx ?_;rw[bne_self_eq_false];refine⟨_,rfl,Ip (nZ (Ip ?_))⟩
 with_reducible refine Ks ?_
 refine Ky ?_
 with_reducible refine Jg (l1:=(sp,.list ((Mu (rs.map Gz.t)).spots.map Fd))::(b,Io p2)::(v,.inst 299 dv)::(dv,.ns [("defaults",.ref d2),("others",.ref o2)])::(d2,dI es)::(o2,dT os)::(rb,.list (rs.map Kj))::(d,dI es)::Ee rs) (by unfold dI dT;walk_at"drop") ?_
 have NZ:(rs.map Kj).length<=sizeLine:=by rw[Ac];exact Aa FO (by decide)
 generalize IJ:(sp,O.list ((Mu (rs.map Gz.t)).spots.map Fd))::(b,Io p2)::(v,O.inst 299 dv)::(dv,O.ns [("defaults",V.ref d2),("others",V.ref o2)])::(d2,dI es)::(o2,dT os)::(d,dI es)::Ee rs=m0;refine Hr ?_;walk_at"nus";refine Kt C TO (cl:=[("defaults",L+1)]) (emit:=λC D=>Ft _ (.ref D) _) (by walk_at"compok") (λ_=>rfl) (λC D I=>rfl) ?_;walk_at"nus";refine Eh.of ⟨rb,_,_,m0,rfl,by subst IJ;walk_at"drop",Ds C,NZ,λC' D CO=>⟨[none,none,some (.ref d)],λi acc r' m=>∃(o':Option V),r'=[none,o',some (.ref d)]/\
  m=m0/\acc=Fb es ((rs.take i).map Gz.t),by walk_at"comp0",⟨none,rfl,rfl,rfl⟩,?_,?_,?_⟩⟩
 ·rintro i acc r' m' ⟨o',rfl,rfl,rfl⟩;walk_at"comp"
 ·rintro y3 i dd acc r' m' G7 AQ KN KS hK ⟨o',rfl,rfl,rfl⟩ AL;rw[Bw] at AQ;obtain⟨x,hx,rfl⟩:=Gn.mp AQ;have A8:=Bd hx;have BR:=H.keys x.t (Oq A8);obtain⟨rest,A1⟩:=Xd hx;have fin:∀bb:Bool,(!x.AY.isEmpty)=bb->Fb es ((rs.take (i+1)).map Gz.t)=Fb es ((rs.take i).map Gz.t)++(if bb then [Li es x.sel] else []):=λbb hb=>by unfold Fb;rw[Cc,hx,Ai,Pl,Ai];congr 1;show(([x].map Gz.t).filter λx=>!x.2.1.isEmpty).map _=_;rw[Aj,Hb];show(if (!x.AY.isEmpty)=true then _ else _:List De).map _=_;rw[hb];cases bb<;>rfl
  subst IJ;refine Bt CO (by walk_at"upd") ⟨rfl,?_⟩;refine Rn ?_;unfold Kj;walk_at"nus";intro b2;walk_at"nus";have ZU:(x.ra,O.list (Ba x.AY))∈Ee rs:=A1.mem_iff.mpr (.head _);refine Qn CO (xs:=Ba x.AY) ?_ (.here .refl) (λd hd=>by obtain⟨p,_,rfl⟩:=Af.mp hd;exact Xf _ _) ?_
  ·exact AP.KL (by simp[ZU])
  rw[show(Ba x.AY).isEmpty=x.AY.isEmpty from by unfold Ba;cases x.AY<;>rfl];walk_at"nus";cases hb:(!x.AY.isEmpty) with
  |false=>refine Ip ?_;walk_at"nus";refine⟨_,by walk_at"drop",some (Kj x),rfl,rfl,?_⟩;rw[fin false hb,if_neg (by decide),Au]
  |true=>
   obtain⟨cs,hc⟩:=Rm (BR (by intro q;rw[show x.AY=[] from q] at hb;cases hb));have bz:Be es x.sel=cs:=by unfold Be;rw[show Ey es x.sel=some cs from hc];rfl
   have DB:Ey (es.map λe=>(e.1,V.tup (intsOf e.2))) x.sel=some (.tup (intsOf cs)):=by rw[Kk (λcs=>V.tup (intsOf cs)),show Ey es x.sel=some cs from hc];rfl
   refine Ni ?_;walk_at"nus";refine Sw (λ_ _=>rfl) (by unfold dI;walk_at"has") DB ?_;walk_at"nus";refine⟨_,by walk_at"drop",some (Kj x),rfl,rfl,?_⟩;rw[fin true hb,if_pos rfl];unfold Li;rw[bz]
 ·rintro acc r' m' l' AL ⟨o',rfl,rfl,rfl⟩ hd2;rw[Ac,Bj] at hd2;refine Mj hd2 ?_;walk_at"nus";refine Ik (by walk_at"has") (by unfold Fb;rw[Ac];exact Aa (Bz ..) (by rw[Ac];exact Aa FO (by decide))) ?_;refine Xg (by walk_at"upd") ?_
  first|refine Ky ?_|refine Nx ?_
  subst IJ;refine Hr (Jf ?_);walk_at"nus";refine Bk C (by unfold Ig;walk_at"picks") (H.wr.CP PP H.told ?_);unfold Ig;walk_at"nus";refine Kt C TO (cl:=[]) (emit:=λC D=>Mf _ _ _ _ 1 _ (.ref D) _) (by walk_at"compok") (λ_=>rfl) (λC D I=>gA _ _ _ _ _ _ _ _ _ _) ?_;walk_at"nus";generalize MR:(sp,O.list ((Mu (rs.map Gz.t)).spots.map Fd))::(b,Io p2)::Ee rs=m1;refine Eh.of2 ⟨rb,_,_,m1,rfl,by subst MR;unfold dI dT;walk_at"drop",Ds C,λC' D CO=>⟨[none,none,none,none],λi acc r' m=>∃(o2 o3 o4:Option V),r'=[none,o2,o3,o4]/\
   m=m1/\acc=Fm ((rs.take i).map Gz.t),by walk_at"comp0",⟨none,none,none,rfl,rfl,rfl⟩,?_,?_,?_⟩⟩
  ·rintro i acc r' m' ⟨o2,o3,o4,rfl,rfl,rfl⟩;walk_at"comp"
  ·rintro y3 i dd acc r' m' G7 AQ KN KS hK ⟨o2,o3,o4,rfl,rfl,rfl⟩;rw[Bw] at AQ;obtain⟨x,hx,rfl⟩:=Gn.mp AQ;obtain⟨rest,A1⟩:=Xd hx;have Y8:=(H.row x.t (Oq (Bd hx))).2.1;have AM:Fm ((rs.take (i+1)).map Gz.t)=Fm ((rs.take i).map Gz.t)++x.rws.map λp=>V.tup [.tup (intsOf [x.sel,p.1]),.int p.2]:=by unfold Fm;rw[Cc,hx,Ai,Gp];congr 1;show([x].map Gz.t).flatMap _=_;simp[Gz.t]
   refine Bt CO (by walk_at"upd") ⟨rfl,?_⟩;refine Gx (Ni ?_);refine kK CO rfl (λ_=>rfl) (λI=>rfl) ?_;unfold Kj;walk_at"nus";subst MR;have AL:(Fm ((rs.take i).map Gz.t)).length<=20000:=by
    refine Aa (Pn _ λy hy=>?_) ?_
    ·obtain⟨z,hz,rfl⟩:=Af.mp hy;exact(H.row z.t (Oq (Ka hz))).2.1
    ·rw[Ac,Av];omega
   generalize Fm ((rs.take i).map Gz.t)=PQ at AM AL;refine⟨x.rb,.list (Ba x.rws),_,(D,.list PQ)::(rb,y3)::(sp,.list ((Mu (rs.map Gz.t)).spots.map Fd))::(b,Io p2)::(x.ra,.list (Ba x.AY))::rest,rfl,
    (Bm.perm (.cons _ (.cons _ (.cons _ (.cons _ A1))))).trans (by walk_at"drop"),Ds CO,λj r m=>∃(o3 o4:Option V),r=[none,some (Kj x),o3,o4]/\
    m=(D,.list (PQ++(x.rws.take j).map λp=>V.tup [.tup (intsOf [x.sel,p.1]),.int p.2]))::(rb,y3)::(sp,.list ((Mu (rs.map Gz.t)).spots.map Fd))::(b,Io p2)::(x.ra,.list (Ba x.AY))::rest,⟨_,_,rfl,by simp⟩,?_,?_⟩
   ·rintro y4 j dd r m gf AQ ⟨o3,o4,rfl,rfl⟩;obtain⟨⟨p1,RC⟩,EV,rfl⟩:=Md AQ;refine Hw CO rfl rfl (Bt CO (by walk_at"upd") (Bt CO (by walk_at"upd") ?_));refine Gx (Ni ?_);refine bV (D:=D) ?_;unfold Kj;walk_at"nus";refine⟨_,_,.there .here,?_,_,.refl _,_,_,rfl,?_⟩
    ·rw[Ab,Ac,Av];have:sizeLine=16777216:=rfl;have:x.rws.length<=1000:=Y8;omega
    ·rw[Cc,EV,Ai,<-Ax];rfl
   ·rintro r m l' ⟨o3,o4,rfl,rfl⟩ hd;rw[Dh,Bj,<-AM] at hd;refine eS.next hK ⟨_,_,hd.trans ((?_:Bm _ ((D,_)::(rb,y3)::(sp,_)::(b,_)::(x.ra,.list (Ba x.AY))::(x.rb,.list (Ba x.rws))::rest)).trans (Bm.perm (.cons _ (.cons _ (.cons _ (.cons _ A1.symm)))))),_,_,_,rfl,rfl,rfl⟩;walk_at"drop"
  ·rintro acc r' m' l' ⟨o2,o3,o4,rfl,rfl,rfl⟩ hd2;rw[Ac,Bj] at hd2;subst MR;refine Mj hd2 ?_;walk_at"nus";refine Ik (by walk_at"has") (Aa (Pn _ λy hy=>(H.row y hy).2.1) (by rw[Ac];have:sizeLine=16777216:=rfl;omega)) ?_;walk_at"nus";refine Vf C (pC _ _) ?_;refine⟨_,rfl,Ip (Xu ?_)⟩;have K7:0<(Ei (rs.map Gz.t)).length:=by unfold Ei;simp only[Ab,Bl];omega
   refine Hr (Jf ?_);walk_at"nus";refine Gi (by omega) ?_;walk_at"nus";refine Bk C (by walk_at"picks") (Sm PP K7 (by omega) λp3 m hm=>?_);walk_at"nus";refine .inl ⟨_,rfl,Aa QN (by decide),?_⟩;rw[Sa _ m];walk_at"nus";obtain⟨fi,W8⟩:=H.cut m hm;refine Bk C .nil (jL P (p:=0) (by rw[Av];omega) (by rw[W8];intro q;cases q) (λes os q=>by rw[W8] at q;cases q) λj q=>?_);walk_at"nus";refine oF mR ?_;refine⟨_,rfl,Ip (Xu ?_)⟩;refine BU.of (Gm ?_);walk_at"nus";refine Bk C (by walk_at"picks") (yM P H.PJ λl=>?_);walk_at"nus";exact Eu.picks .nil rfl
end
def At (b:List UInt8)(p:Nat)(xs:List UInt8):Prop:=∃u v,b=u++(xs++v)/\u.length=p
theorem At.left {p:Nat}{xs ys:List UInt8}(h:At b p (xs++ys)):At b p xs:=by k_with"o"=>obtain⟨u,v,rfl,h⟩:=h;exact⟨u,ys++v,by rw[Ax xs],h⟩
theorem At.right {p:Nat}{xs ys:List UInt8}(h:At b p (xs++ys)):At b (p+xs.length) ys:=by k_with"o"=>obtain⟨u,v,rfl,rfl⟩:=h;exact⟨u++xs,v,by simp,Ab⟩
theorem At.le {p:Nat}{xs:List UInt8}(h:At b p xs):p+xs.length<=b.length:=by k_with"o"=>obtain⟨u,v,rfl,rfl⟩:=h;simp only[Ab];omega
theorem At.slice {p:Nat}{xs:List UInt8}(h:At b p xs):(b.drop p).take xs.length=xs:=by k_with"o"=>obtain⟨u,v,rfl,rfl⟩:=h;rw[List.drop_left,List.take_left]
theorem At.num {p:Nat}{xs:List UInt8}(h:At b p xs)(hk:xs.length=k):numAt b p k=Ng xs:=by k_with"o"=>subst hk;unfold numAt;rw[h.slice]
theorem Xl (t:Nat):∀l:List UInt8,l.foldl (λt c=>t*256+c.toNat) t=t*256^l.length+Ng l
 |[]=>by simp[Ng]
 |c::l=>by k_with"o"=>have h0:=Xl (t*256+c.toNat) l;have h1:=Xl (0*256+c.toNat) l;have e:Ng (c::l)=l.foldl (λt c=>t*256+c.toNat) (0*256+c.toNat):=rfl;rw[Ec,e,h0,h1,An,oS,Nat.add_mul,Nat.add_mul,Nat.mul_assoc,oU 256];omega
theorem rI (c:UInt8)(l:List UInt8):Ng (c::l)=c.toNat*256^l.length+Ng l:=by k_with"o"=>have h:=Xl (0*256+c.toNat) l;have e:Ng (c::l)=l.foldl (λt c=>t*256+c.toNat) (0*256+c.toNat):=rfl;rw[e,h];simp
theorem fM (n:Nat):∀k,Ng (be n k)=n % 256^k
 | 0=>by simp[be,Ng,Nat.mod_one]
 |k+1=>by k_with"o"=>
  have h2:(UInt8.ofNat (n/256^k % 256)).toNat=n/256^k % 256:=by rw[UInt8.toNat_ofNat'];exact cF (Yb _ (by decide))
  rw[be,rI,Bl,fM n k,h2,oS,Nat.mod_mul,oU (256^k)];omega
theorem At.be {p:Nat}(h:At b p (Nu.be n k))(hn:n<256^k):numAt b p k=n:=by k_with"o"=>rw[h.num (Bl n k),fM,cF hn]
theorem At.J6 {p:Nat}(h:At b p (Nu.be n k)):p+k<=b.length:=by k_with"o"=>have:=h.le;rwa[Bl] at this
inductive Reach {α:Type}(b:List UInt8):Rd α->List (Nat×Nat)->Rd α->Prop where
 |refl {t:Rd α}:Reach b t [] t
 |ask {p k:Nat} {f:Nat->Rd α} {L:List (Nat×Nat)} {t:Rd α}:p+k<=b.length->Reach b (f (numAt b p k)) L t->Reach b (.ask p k f) ((p,k)::L) t
theorem Reach.at {α:Type}{p:Nat}{f:Nat->Rd α}{L:List (Nat×Nat)}{t:Rd α}(h:At b p (be n k))(hn:n<256^k)(r:Reach b (f n) L t):Reach b (.ask p k f) ((p,k)::L) t:=by k_with"o"=>exact(.ask h.J6 (by rw[h.be hn];exact r))
theorem Reach.trans {α:Type}{t u v:Rd α}{L M:List (Nat×Nat)}(h:Reach b t L u)(g:Reach b u M v):Reach b t (L++M) v:=by k_with"o"=>
 induction h with
 |refl=>exact g
 |ask h _ ih=>exact .ask h (ih g)
theorem Reach.bind {α β:Type}{t u:Rd α}{L:List (Nat×Nat)}(g:α->Rd β)(h:Reach b t L u):Reach b (t.bind g) L (u.bind g):=by k_with"o"=>
 induction h with
 |refl=>exact .refl
 |ask h _ ih=>exact .ask h ih
theorem Reach.run {α:Type}{b':List UInt8}{t u:Rd α}{L:List (Nat×Nat)}(h:Reach b t L u)(hs:∀q∈L,numAt b' q.1 q.2=numAt b q.1 q.2/\q.1+q.2<=b'.length):t.run b'=u.run b':=by k_with"o"=>
 induction h with
 |refl=>rfl
 |ask h _ ih=>have h1:=hs _ (.head _);rw[Rd.run,if_pos h1.2,h1.1];exact ih λq hq=>hs q (.tail _ hq)
theorem Reach.le {α:Type}{t u:Rd α}{L:List (Nat×Nat)}(h:Reach b t L u):∀q∈L,q.1+q.2<=b.length:=by k_with"o"=>
 induction h with
 |refl=>intro q hq;cases hq
 |ask h _ ih=>
  intro q hq;cases hq with
  |head=>exact h
  |tail _ hq=>exact ih q hq
theorem Reach.run_eq {α:Type}{t u:Rd α}{L:List (Nat×Nat)}(h:Reach b t L u):t.run b=u.run b:=by k_with"o"=>exact(h.run λq hq=>⟨rfl,h.le q hq⟩)
theorem mB {m p:Nat}(h:p+k<=m):numAt (b.take m) p k=numAt b p k:=by k_with"o"=>unfold numAt;rw[List.drop_take,List.take_take,Ew (by omega)]
theorem Reach.cut {α:Type}{t u:Rd α}{L:List (Nat×Nat)}(h:Reach b t L u){m:Nat}(hm:∃q∈L,m<q.1+q.2):∃i,t.run (b.take m)=.fault i:=by k_with"o"=>
 induction h with
 |refl=>obtain⟨q,hq,_⟩:=hm;cases hq
 |@ask p k f L t h _ ih=>
  rw[Rd.run,Av];by_cases hp:p+k<=m
  ·rw[if_pos (by omega),mB hp];refine ih ?_;obtain⟨q,hq,hl⟩:=hm;cases hq with
   |head=>exact absurd hp (by dsimp only at hl;omega)
   |tail _ hq=>exact⟨q,hq,hl⟩
  ·rw[if_neg (by omega)];exact⟨_,rfl⟩
theorem Gu {α β:Type}{t:Rd α}{g:α->Rd β}{i:Int}(h:t.run b=.fault i):(t.bind g).run b=.fault i:=by k_with"o"=>rw[Rd.run_bind,h]
noncomputable def B1 (b:List UInt8)(w:Nat)(z:List UInt8):List UInt8:=b.take w++z++b.drop (w+z.length)
theorem Vu {w:Nat}{z:List UInt8}(h:w+z.length<=b.length):(B1 b w z).length=b.length:=by k_with"o"=>unfold B1;simp only[Ab,Av,Cw];omega
theorem pK {w:Nat}{z:List UInt8}(h:w+z.length<=b.length):At (B1 b w z) w z:=by k_with"o"=>exact(⟨b.take w,b.drop (w+z.length),by unfold B1;rw[Ax],by rw[Av];omega⟩)
theorem tO {w:Nat}{z:List UInt8}(h:w+z.length<=b.length){p:Nat}(hp:p+k<=w\/w+z.length<=p):numAt (B1 b w z) p k=numAt b p k:=by k_with"o"=>
 unfold numAt B1;congr 1;rcases hp with hp|hp
 ·rw[Ax,List.drop_append_of_le_length (by rw[Av];omega),List.take_append_of_le_length (by rw[Cw,Av];omega),List.drop_take,List.take_take,Ew (by omega)]
 ·rw[List.drop_append,Im (by rw[Ab,Av];omega),Er,eV,Ab,Av,Ew (by omega)];congr 2;omega
theorem Reach.B1 {α:Type}{w:Nat}{z:List UInt8}{t u:Rd α}{L:List (Nat×Nat)}(h:w+z.length<=b.length)(hr:Reach b t L u)(hs:∀q∈L,q.1+q.2<=w\/w+z.length<=q.1) :
  t.run (Nu.B1 b w z)=u.run (Nu.B1 b w z):=by k_with"o"=>exact(hr.run λq hq=>⟨tO h (hs q hq),by rw[Vu h];exact hr.le q hq⟩)
noncomputable def expand (rs:List (Int×Int)):List Int:=rs.flatMap λp=>EY p.1 (p.2.toNat+1)
structure Mz (rs:List (Int×Int)):Prop where
 ok:∀q∈rs,0<=q.1/\0<=q.2/\q.2<=255/\q.1+q.2<=1114111
 asc:rs.Pairwise λp q=>p.1+p.2<q.1
structure Ta (ps:List (Int×Int)):Prop where
 ok:∀q∈ps,0<=q.1/\q.1<=1114111/\0<=q.2/\q.2<=65535
 asc:ps.Pairwise λp q=>p.1<q.1
theorem Mz.tail {q:Int×Int}{rs:List (Int×Int)}(h:Mz (q::rs)):Mz rs:=by k_with"o"=>exact(⟨λp hp=>h.ok p (.tail _ hp),(Cy.mp h.asc).2⟩)
theorem Ta.tail {q:Int×Int}{rs:List (Int×Int)}(h:Ta (q::rs)):Ta rs:=by k_with"o"=>exact(⟨λp hp=>h.ok p (.tail _ hp),(Cy.mp h.asc).2⟩)
theorem Mz.left {a b:List (Int×Int)}(h:Mz (a++b)):Mz a:=by k_with"o"=>exact(⟨λp hp=>h.ok p (Al _ hp),(Bo.mp h.asc).1⟩)
theorem Ta.left {a b:List (Int×Int)}(h:Ta (a++b)):Ta a:=by k_with"o"=>exact(⟨λp hp=>h.ok p (Al _ hp),(Bo.mp h.asc).1⟩)
noncomputable def iX (last:Int)(rs:List (Int×Int)):Int:=rs.foldl (λ_ p=>p.1+p.2) last
noncomputable def iY (last:Int)(rs:List (Int×Int)):Int:=rs.foldl (λ_ p=>p.1) last
def FR (L:List (Nat×Nat))(lo hi:Nat):Prop:=∀q∈L,lo<=q.1/\q.1+q.2<=hi
theorem FR.nil {lo hi:Nat}:FR [] lo hi:=by k_with"o"=>exact(λq hq=>nomatch hq)
theorem FR.cons {p lo hi:Nat}{L:List (Nat×Nat)}(h1:lo<=p)(h2:p+k<=hi)(h:FR L lo hi):FR ((p,k)::L) lo hi:=by k_with"o"=>exact(Um.mpr ⟨⟨h1,h2⟩,h⟩)
theorem FR.mono {L:List (Nat×Nat)}{lo hi V6 D4:Nat}(h:FR L lo hi)(h1:V6<=lo)(h2:hi<=D4):FR L V6 D4:=by k_with"o"=>exact(λq hq=>⟨Aa h1 (h q hq).1,Aa (h q hq).2 h2⟩)
def Ends (L:List (Nat×Nat))(hi:Nat):Prop:=∃q∈L,q.1+q.2=hi
theorem Ends.cons {q:Nat×Nat}{L:List (Nat×Nat)}{hi:Nat}(h:Ends L hi):Ends (q::L) hi:=by k_with"o"=>exact(let ⟨x,hx,e⟩:=h;⟨x,.tail _ hx,e⟩)
theorem Ends.left {L M:List (Nat×Nat)}{hi:Nat}(h:Ends L hi):Ends (L++M) hi:=let ⟨x,hx,e⟩:=h;⟨x,Al _ hx,e⟩
theorem Ends.right {L M:List (Nat×Nat)}{hi:Nat}(h:Ends M hi):Ends (L++M) hi:=by k_with"o"=>exact(let ⟨x,hx,e⟩:=h;⟨x,Aq _ hx,e⟩)
theorem fE (done:List (Int×Int)):∀(m p:Nat) (last:Int) (acc:List Int),Mz done->(∀q∈done,last<q.1)->At b p ((done.map (Je 1)).flatten)->
  ∃L,Reach b (Iq (done.length+m) p last acc) L (Iq m (p+4*done.length) (iX last done) (acc++expand done))/\FR L p (p+4*done.length)/\(done≠[]->Ends L (p+4*done.length)):=by k_with"o"=>
 induction done with
 |nil=>intro m p last acc _ _ _;exact⟨[],by rw[show([]:List (Int×Int)).length+m=m from Dj m,show acc++expand []=acc from Au acc];exact .refl,.nil,λh=>absurd rfl h⟩
 |cons pr r ih=>
  obtain⟨f,k⟩:=pr;intro m p last acc hk hl ha;obtain⟨h1,h2,h3,h4⟩:=hk.ok _ (.head _);dsimp only at h1 h2 h3 h4;have Z6:last<f:=hl _ (.head _);rw[Aj,Hp] at ha;have LX:=ha.left;have IL:=ha.right;rw[bG] at IL;have G0:=LX.left;have GO:=LX.right;dsimp only[Je] at G0 GO;rw[Bl] at GO;obtain⟨L,hr,hb,he⟩:=ih m (p+4) (f+k) (acc++EY f (k.toNat+1)) hk.tail (Cy.mp hk.asc).1 IL;have e4:p+4*((f,k)::r).length=p+4+4*r.length:=by rw[An];omega
  refine⟨(p,3)::(p+3,1)::L,?_,.cons (Ah _) (by rw[e4];omega) (.cons (by omega) (by rw[e4];omega) (by rw[e4];exact hb.mono (by omega) (Ah _))),λ_=>?_⟩
  ·rw[show((f,k)::r).length+m=(r.length+m)+1 from by rw[An];omega,Iq];refine .at G0 (by omega) (.at GO (by omega) ?_);rw[Gs h1,Gs h2,if_neg (by omega),if_neg (by omega),e4];rw[show acc++expand ((f,k)::r)=acc++EY f (k.toNat+1)++expand r from by unfold expand;rw[Cp,Ax]];exact hr
  ·rw[e4];cases r with
   |nil=>exact⟨(p+3,1),.tail _ (.head _),by simp⟩
   |cons x r=>exact(he (by simp)).cons.cons
theorem fV (done:List (Int×Int)):∀(m p:Nat) (last:Int) (acc:List (Int×Int)),Ta done->(∀q∈done,last<q.1)->At b p ((done.map (Je 2)).flatten)->
  ∃L,Reach b (It (done.length+m) p last acc) L (It m (p+5*done.length) (iY last done) (acc++done))/\FR L p (p+5*done.length)/\(done≠[]->Ends L (p+5*done.length)):=by k_with"o"=>
 induction done with
 |nil=>intro m p last acc _ _ _;exact⟨[],by rw[show([]:List (Int×Int)).length+m=m from Dj m,Au];exact .refl,.nil,λh=>absurd rfl h⟩
 |cons pr r ih=>
  obtain⟨f,k⟩:=pr;intro m p last acc hk hl ha;obtain⟨h1,h2,h3,h4⟩:=hk.ok _ (.head _);dsimp only at h1 h2 h3 h4;have Z6:last<f:=hl _ (.head _);rw[Aj,Hp] at ha;have LX:=ha.left;have IL:=ha.right;rw[bG] at IL;have G0:=LX.left;have GO:=LX.right;dsimp only[Je] at G0 GO;rw[Bl] at GO;obtain⟨L,hr,hb,he⟩:=ih m (p+5) f (acc++[(f,k)]) hk.tail (Cy.mp hk.asc).1 IL;have e4:p+5*((f,k)::r).length=p+5+5*r.length:=by rw[An];omega
  refine⟨(p,3)::(p+3,2)::L,?_,.cons (Ah _) (by rw[e4];omega) (.cons (by omega) (by rw[e4];omega) (by rw[e4];exact hb.mono (by omega) (Ah _))),λ_=>?_⟩
  ·rw[show((f,k)::r).length+m=(r.length+m)+1 from by rw[An];omega,It];refine .at G0 (by omega) ?_;rw[Gs h1,if_neg (by omega),if_neg (by omega)];refine .at GO (by omega) ?_;rw[Gs h3,e4];rw[show acc++(f,k)::r=acc++[(f,k)]++r from by rw[Ax];rfl];exact hr
  ·rw[e4];cases r with
   |nil=>exact⟨(p+3,2),.tail _ (.head _),by simp⟩
   |cons x r=>exact(he (by simp)).cons.cons
theorem Qe {p:Nat}{done rest:List (Int×Int)}(hk:Mz (done++rest))(hn:(done++rest).length<4294967296)(ha:At b p (be (done++rest).length 4++((done++rest).map (Je 1)).flatten)) :
  ∃L,Reach b (Ge p) L (Iq rest.length (p+4+4*done.length) (iX (-1) done) (expand done))/\FR L p (p+4+4*done.length)/\Ends L (p+4+4*done.length):=by k_with"o"=>
 have h1:=ha.left;have h2:=ha.right;rw[Bl,Ai,Ku] at h2;obtain⟨L,hr,hb,he⟩:=fE done rest.length (p+4) (-1) [] hk.left (λq hq=>by have:=(hk.left.ok q hq).1;omega) h2.left;rw[Er] at hr;refine⟨(p,4)::L,.at h1 hn (by rw[Ab];exact hr),.cons (Ah _) (by omega) (hb.mono (by omega) (Ah _)),?_⟩;cases done with
 |nil=>exact⟨(p,4),.head _,rfl⟩
 |cons x r=>exact(he (by simp)).cons
theorem Qf {p:Nat}{done rest:List (Int×Int)}(hk:Ta (done++rest))(hn:(done++rest).length<4294967296)(ha:At b p (be (done++rest).length 4++((done++rest).map (Je 2)).flatten)) :
  ∃L,Reach b (Fo p) L (It rest.length (p+4+5*done.length) (iY (-1) done) done)/\FR L p (p+4+5*done.length)/\Ends L (p+4+5*done.length):=by k_with"o"=>
 have h1:=ha.left;have h2:=ha.right;rw[Bl,Ai,Ku] at h2;obtain⟨L,hr,hb,he⟩:=fV done rest.length (p+4) (-1) [] hk.left (λq hq=>by have:=(hk.left.ok q hq).1;omega) h2.left;rw[Er] at hr;refine⟨(p,4)::L,.at h1 hn (by rw[Ab];exact hr),.cons (Ah _) (by omega) (hb.mono (by omega) (Ah _)),?_⟩;cases done with
 |nil=>exact⟨(p,4),.head _,rfl⟩
 |cons x r=>exact(he (by simp)).cons
noncomputable def Zh (x:De):BA:=if x.2.1.isEmpty then [] else [(x.1,expand x.2.1)]
noncomputable def fK (x:De):A7:=x.2.2.map λp=>([x.1,p.1],p.2)
noncomputable def Mv (rows:List De):BA:=rows.flatMap Zh
noncomputable def Ja (rows:List De):A7:=rows.flatMap fK
structure Yz (x:De):Prop where
 sel:0<=x.1/\x.1<=1114111
 AY:Mz x.2.1
 JF:Ta x.2.2
 rl:x.2.1.length<=1000
 gl:x.2.2.length<=1000
noncomputable def Ho (x:De):List UInt8:=Cq 1 x.2.1++Cq 2 x.2.2
noncomputable def qZ (a:Nat)(x:De):List UInt8:=be x.1.toNat 3++(be (if (Cq 1 x.2.1).isEmpty then 0 else a) 4++be (if (Cq 2 x.2.2).isEmpty then 0 else a+(Cq 1 x.2.1).length) 4)
noncomputable def Cm (rows:List De):List UInt8:=rows.flatMap Ho
noncomputable def Lk:Nat->List De->List UInt8
 |_,[]=>[]
 |a,x::xs=>qZ a x++Lk (a+(Ho x).length) xs
noncomputable def Tg (i a:Nat)(x:De):List Tw:=[⟨0,10+11*i,0,i⟩]++(Ex x.2.1.length).map (λk=>⟨1,a+4+4*k,k,i⟩)++(Ex x.2.2.length).map (λk=>⟨2,a+(Cq 1 x.2.1).length+4+5*k,k,i⟩)
noncomputable def Qv:Nat->Nat->List De->List Tw
 |_,_,[]=>[]
 |i,a,x::xs=>Tg i a x++Qv (i+1) (a+(Ho x).length) xs
theorem iS (base:Nat):∀(rows:List De) (i:Nat) (st:Zq),Ir base i rows st=⟨st.spots++Qv i (base+st.parts.length) rows,st.parts++Cm rows,st.recs++Lk (base+st.parts.length) rows⟩
 |[]=>λi st=>by simp[Ir,Qv,Cm,Lk]
 |x::xs=>λi st=>by k_with"o"=>
  rw[Ir,iS base xs (i+1)];have e:(st.parts++Cq 1 x.2.1++Cq 2 x.2.2)=st.parts++Ho x:=by unfold Ho;rw[Ax]
  simp only[Lj,Qv,Lk,Cm,Cp,e,Tg,qZ,Ab,Lf,Ax]
theorem fL (rows:List De):Mu rows=⟨Qv 0 (10+11*rows.length) rows,Cm rows,Lk (10+11*rows.length) rows⟩:=by k_with"o"=>unfold Mu;rw[iS];simp
theorem iH (a:Nat)(x:De):(qZ a x).length=11:=by k_with"o"=>unfold qZ;simp only[Ab,Bl]
theorem Nq:∀(rows:List De) (a:Nat),(Lk a rows).length=11*rows.length
 |[]=>λ_=>rfl
 |x::xs=>λa=>by k_with"o"=>rw[Lk,Ab,iH,Nq xs,An];omega
theorem Ti:∀(u v:List De) (a:Nat),Lk a (u++v)=Lk a u++Lk (a+(Cm u).length) v
 |[]=>λv a=>by simp[Lk,Cm]
 |x::u=>λv a=>by k_with"o"=>rw[Kf,Lk,Ti u v,Lk,Ax];simp only[Cm,Cp,Ab,Lf]
theorem Us (u v:List De):Cm (u++v)=Cm u++Cm v:=Gp
theorem jP (rows:List De):Ei rows=be 14 2++(be (10+11*rows.length+(Cm rows).length) 4++(be rows.length 4++(Lk (10+11*rows.length) rows++Cm rows))):=by k_with"o"=>unfold Ei;rw[fL];simp only[Ax,Nq]
theorem Ox (k:Nat)(ps:List (Int×Int)):(Cq k ps).isEmpty=ps.isEmpty:=by k_with"o"=>
 unfold Cq;cases ps with
 |nil=>rfl
 |cons p ps=>
  rw[if_neg (by simp)];have:(be (p::ps).length 4++((p::ps).map (Je k)).flatten).length≠0:=by rw[Ab,Bl];omega
  cases h:be (p::ps).length 4++((p::ps).map (Je k)).flatten with
  |nil=>rw[h] at this;exact absurd rfl this
  |cons=>rfl
theorem Qg {ps:List (Int×Int)}(h:ps≠[]):Cq k ps=be ps.length 4++(ps.map (Je k)).flatten:=by k_with"o"=>unfold Cq;rw[if_neg (by rw[Ha];exact h)]
theorem Mm {ps:List (Int×Int)}(h:ps≠[]):(Cq k ps).length=4+(3+k)*ps.length:=by k_with"o"=>rw[Qg h,Ab,Bl,Ii]
theorem iL {sel:Int}:∀(gs:List (Int×Int)) (os:A7),(∀g∈gs,[sel,g.1]∉os.map (·.1))->(gs.Pairwise λp q=>p.1<q.1)->Vt sel os gs=os++gs.map λp=>([sel,p.1],p.2)
 |[]=>λos _ _=>by simp[Vt]
 |g::gs=>λos h hp=>by k_with"o"=>
  have EF:=Cy.mp hp;show Vt sel (Fy os [sel,g.1] g.2) gs=_;rw[Wm (Nt.mpr (h g (.head _))),iL gs _ (λq hq hm=>?_) EF.2]
  ·simp
  ·rw[Ai,Ao] at hm;rcases hm with hm|hm
   ·exact h q (.tail _ hq) hm
   ·simp only[Aj,List.map_nil,Ag,Df,or_false,List.cons.injEq,true_and,and_true] at hm;have:=EF.1 q hq;omega
theorem bJ {at' a:Nat}{sel:Int}{es:BA}{rs:List (Int×Int)}(hk:Mz rs)(hl:rs.length<=1000)(ha:At b (at'+a) (Cq 1 rs))(h0:a≠0)(hs:sel∉es.map (·.1)) :
  ∃L,Reach b (jO at' (if (Cq 1 rs).isEmpty then 0 else a) sel es) L (.ret (es++if rs.isEmpty then [] else [(sel,expand rs)]))/\FR L (at'+a) (at'+a+(Cq 1 rs).length)/\(rs≠[]->Ends L (at'+a+(Cq 1 rs).length)):=by k_with"o"=>
 rw[Ox];by_cases EE:rs=[]
 ·subst EE;refine⟨[],?_,.nil,λh=>absurd rfl h⟩;rw[show([]:List (Int×Int)).isEmpty=true from rfl,if_pos rfl,if_pos rfl,eC,Au];exact .refl
 ·have he:rs.isEmpty=false:=by cases rs with|nil=>exact absurd rfl EE|cons=>rfl
  rw[he,if_neg (by decide),if_neg (by decide),Mm EE,bK h0];rw[Qg EE] at ha;obtain⟨L,hr,hb,UD⟩:=Qe (done:=rs) (rest:=[]) (by rw[Au];exact hk) (by rw[Au];omega) (by rw[Au];exact ha);refine⟨L,?_,hb.mono (Ah _) (by omega),λ_=>?_⟩
  ·have:=hr.bind λcs=>Rd.ret (Fy es sel cs);rw[show Iq ([]:List (Int×Int)).length _ _ _=.ret (expand rs) from rfl] at this;rw[show es++[(sel,expand rs)]=Fy es sel (expand rs) from(Wm (Nt.mpr hs) _).symm];exact this
  ·rw[show at'+a+(4+(3+1)*rs.length)=at'+a+4+4*rs.length from by omega];exact UD
theorem lZ {at' a:Nat}{sel:Int}{os:A7}{rs:List (Int×Int)}(hk:Ta rs)(hl:rs.length<=1000)(ha:At b (at'+a) (Cq 2 rs))(h0:a≠0)(hs:∀g∈rs,[sel,g.1]∉os.map (·.1)) :
  ∃L,Reach b (fJ at' (if (Cq 2 rs).isEmpty then 0 else a) sel os) L (.ret (os++rs.map λp=>([sel,p.1],p.2)))/\FR L (at'+a) (at'+a+(Cq 2 rs).length)/\(rs≠[]->Ends L (at'+a+(Cq 2 rs).length)):=by k_with"o"=>
 rw[Ox];by_cases EE:rs=[]
 ·subst EE;refine⟨[],?_,.nil,λh=>absurd rfl h⟩;rw[show([]:List (Int×Int)).isEmpty=true from rfl,if_pos rfl,dP,List.map_nil,Au];exact .refl
 ·have he:rs.isEmpty=false:=by cases rs with|nil=>exact absurd rfl EE|cons=>rfl
  rw[he,if_neg (by decide),Mm EE,Vx h0];rw[Qg EE] at ha;obtain⟨L,hr,hb,UD⟩:=Qf (done:=rs) (rest:=[]) (by rw[Au];exact hk) (by rw[Au];omega) (by rw[Au];exact ha);refine⟨L,?_,hb.mono (Ah _) (by omega),λ_=>?_⟩
  ·have:=hr.bind λcs=>Rd.ret (Vt sel os cs);rw[show It ([]:List (Int×Int)).length _ _ _=.ret rs from rfl] at this;rw[<-iL rs os hs hk.asc];exact this
  ·rw[show at'+a+(4+(3+2)*rs.length)=at'+a+4+5*rs.length from by omega];exact UD
def Tx (L:List (Nat×Nat))(p1 p2 a1 a2:Nat):Prop:=∀q∈L,(p1<=q.1/\q.1+q.2<=p2)\/(a1<=q.1/\q.1+q.2<=a2)
theorem Tx.nil {p1 p2 a1 a2:Nat}:Tx [] p1 p2 a1 a2:=λq hq=>nomatch hq
theorem Tx.cons {p p1 p2 a1 a2:Nat}{L:List (Nat×Nat)}(h1:p1<=p)(h2:p+k<=p2)(h:Tx L p1 p2 a1 a2):Tx ((p,k)::L) p1 p2 a1 a2:=by k_with"o"=>exact(Um.mpr ⟨.inl ⟨h1,h2⟩,h⟩)
theorem Tx.app {L M:List (Nat×Nat)}{p1 p2 a1 a2:Nat}(h:Tx L p1 p2 a1 a2)(g:Tx M p1 p2 a1 a2):Tx (L++M) p1 p2 a1 a2:=by k_with"o"=>exact(λq hq=>(Ao.mp hq).elim (h q) (g q))
theorem Tx.mono {L:List (Nat×Nat)}{p1 p2 a1 a2 V3 RC YA X9:Nat}(h:Tx L p1 p2 a1 a2)(h1:V3<=p1)(h2:p2<=RC)(h3:YA<=a1)(h4:a2<=X9):Tx L V3 RC YA X9:=by k_with"o"=>exact(λq hq=>by
 rcases h q hq with⟨x,y⟩|⟨x,y⟩
 ·exact .inl ⟨Aa h1 x,Aa y h2⟩
 ·exact .inr ⟨Aa h3 x,Aa y h4⟩)
theorem FR.two {L:List (Nat×Nat)}{lo hi p1 p2 a1 a2:Nat}(h:FR L lo hi)(h1:a1<=lo)(h2:hi<=a2):Tx L p1 p2 a1 a2:=by k_with"o"=>exact(λq hq=>.inr ⟨Aa h1 (h q hq).1,Aa (h q hq).2 h2⟩)
structure kW (x:De)(last:Int)(es:BA)(os:A7):Prop where
 lt:last<x.1
 ke:∀e∈es,e.1<=last
 ko:∀e∈os,Gv e.1<=last
 el:es.length<=1000
 ol:os.length<=1000
theorem kW.NI {x:De}{last:Int}{es:BA}{os:A7}(h:kW x last es os):x.1∉es.map (·.1):=by k_with"o"=>exact(λq=>by obtain⟨e,he,q⟩:=Af.mp q;have:=h.ke e he;have:=h.lt;omega)
theorem kW.RJ {x:De}{last:Int}{es:BA}{os:A7}(h:kW x last es os)(c:Int):[x.1,c]∉os.map (·.1):=by k_with"o"=>exact(λq=>by obtain⟨e,he,q⟩:=Af.mp q;have h1:=h.ko e he;have h2:=h.lt;rw[q] at h1;have h3:Gv [x.1,c]=x.1:=rfl;omega)
theorem Ud {at' p a:Nat}{x:De}{last:Int}{es:BA}{os:A7}(hx:Yz x)(hs:kW x last es os)(hr:At b p (qZ a x))(hz:a+(Ho x).length<4294967296) :
  Reach b (Nd at' p last es os) [(p,3),(p+3,4),(p+7,4)] ((jO at' (if (Cq 1 x.2.1).isEmpty then 0 else a) x.1 es).bind λA9=>(fJ at' (if (Cq 2 x.2.2).isEmpty then 0 else a+(Cq 1 x.2.1).length) x.1 os).bind λCL=>.ret (x.1,A9,CL)):=by k_with"o"=>
 have h1:=hr.left;have h2:=hr.right.left;have h3:=hr.right.right;rw[Bl] at h2 h3;rw[Bl] at h3;have KZ:=hx.sel.1;have KY:=hx.sel.2;have hl:=hs.lt;unfold Ho at hz;rw[Ab] at hz;refine .at h1 (by omega) ?_;rw[Gs KZ,if_neg (by omega),if_neg (by omega)];refine .at h2 (by split<;>omega) (.at h3 (by split<;>omega) ?_);rw[if_neg (by have:=hs.el;have:=hs.ol;omega)];exact .refl
theorem fC {at' p a:Nat}{x:De}{last:Int}{es:BA}{os:A7}(hx:Yz x)(hs:kW x last es os)(hr:At b p (qZ a x))(ha:At b (at'+a) (Ho x))(h0:a≠0)(hz:a+(Ho x).length<4294967296) :
  ∃L,Reach b (Nd at' p last es os) L (.ret (x.1,es++Zh x,os++fK x))/\Tx L p (p+11) (at'+a) (at'+a+(Ho x).length)/\(Ho x≠[]->Ends L (at'+a+(Ho x).length)):=by k_with"o"=>
 have hp:=Ud (at':=at') hx hs hr hz;have LX:=ha.left;have IL:=ha.right;rw[show at'+a+(Cq 1 x.2.1).length=at'+(a+(Cq 1 x.2.1).length) from Lf ..] at IL;obtain⟨L1,r1,b1,e1⟩:=bJ (at':=at') (a:=a) (sel:=x.1) (es:=es) hx.AY hx.rl LX h0 hs.NI;obtain⟨L2,r2,b2,e2⟩:=lZ (at':=at') (a:=a+(Cq 1 x.2.1).length) (sel:=x.1) (os:=os) hx.JF hx.gl IL (by omega) λg _=>hs.RJ g.1;have L4:(Ho x).length=(Cq 1 x.2.1).length+(Cq 2 x.2.2).length:=Ab;refine⟨[(p,3),(p+3,4),(p+7,4)]++(L1++L2),hp.trans ((r1.bind _).trans (r2.bind _)),?_,λBK=>?_⟩
 ·exact .app (.cons (by omega) (by omega) (.cons (by omega) (by omega) (.cons (by omega) (by omega) .nil))) (.app (b1.two (by omega) (by omega)) (b2.two (by omega) (by omega)))
 ·by_cases h2:x.2.2=[]
  ·have EF:Cq 2 x.2.2=[]:=by rw[h2];rfl
   have h1:x.2.1≠[]:=λq=>BK (by unfold Ho;rw[EF,q];rfl);rw[EF] at L4;rw[L4];exact .right (.left (e1 h1))
  ·rw[L4,<-Lf];have:=e2 h2;rw[show at'+(a+(Cq 1 x.2.1).length)=at'+a+(Cq 1 x.2.1).length from by omega] at this;exact .right (.right this)
noncomputable def Yn (last:Int)(rows:List De):Int:=rows.foldl (λ_ x=>x.1) last
structure RowsOk (rows:List De):Prop where
 ok:∀x∈rows,Yz x
 asc:rows.Pairwise λx y=>x.1<y.1
theorem RowsOk.tail {x:De}{rows:List De}(h:RowsOk (x::rows)):RowsOk rows:=by k_with"o"=>exact(⟨λp hp=>h.ok p (.tail _ hp),(Cy.mp h.asc).2⟩)
theorem RowsOk.left {a b:List De}(h:RowsOk (a++b)):RowsOk a:=by k_with"o"=>exact(⟨λp hp=>h.ok p (Al _ hp),(Bo.mp h.asc).1⟩)
theorem iR (x:De):(Zh x).length<=1:=by k_with"o"=>unfold Zh;split<;>simp
theorem iQ {x:De}{e:Int×List Int}(h:e∈Zh x):e=(x.1,expand x.2.1)/\x.2.1≠[]:=by k_with"o"=>
 unfold Zh at h;split at h
 ·cases h
 ·rename_i q;refine⟨Ae.mp h,λz=>q (by rw[z];rfl)⟩
theorem iP {x:De}{e:List Int×Int}(h:e∈fK x):∃p∈x.2.2,e=([x.1,p.1],p.2):=by k_with"o"=>obtain⟨p,hp,q⟩:=Af.mp h;exact⟨p,hp,q.symm⟩
theorem cM {at':Nat}(done:List De):∀(m p a:Nat) (last:Int) (es:BA) (os:A7),RowsOk done->(∀x∈done,last<x.1)->(∀e∈es,e.1<=last)->(∀e∈os,Gv e.1<=last)->
  es.length+done.length<=1000->os.length+(Ja done).length<=1000->At b p (Lk a done)->At b (at'+a) (Cm done)->a≠0->a+(Cm done).length<4294967296->
  ∃L,Reach b (Iy at' (done.length+m) p last es os) L (Iy at' m (p+11*done.length) (Yn last done) (es++Mv done) (os++Ja done))/\
   Tx L p (p+11*done.length) (at'+a) (at'+a+(Cm done).length)/\(Cm done≠[]->Ends L (at'+a+(Cm done).length)):=by k_with"o"=>
 induction done with
 |nil=>intro m p a last es os _ _ _ _ _ _ _ _ _ _;exact⟨[],by rw[show([]:List De).length+m=m from Dj m,show es++Mv []=es from Au es,show os++Ja []=os from Au os];exact .refl,.nil,λh=>absurd rfl h⟩
 |cons x r ih=>
  intro m p a last es os hk hl he ho LQ ZZ hr ha h0 hz;have EU:=Cy.mp hk.asc;have eo:Ja (x::r)=fK x++Ja r:=Cp;have ee:Mv (x::r)=Zh x++Mv r:=Cp;have ep:Cm (x::r)=Ho x++Cm r:=Cp;rw[ep] at ha hz;rw[Ab] at hz;rw[An] at LQ;rw[eo,Ab] at ZZ;rw[Lk] at hr;have GW:=hr.right;have IL:=ha.right;rw[iH] at GW;obtain⟨L1,r1,b1,e1⟩:=fC (hk.ok x (.head _)) ⟨hl x (.head _),he,ho,by omega,by omega⟩ hr.left ha.left h0 (by omega);obtain⟨L2,r2,b2,e2⟩:=ih m (p+11) (a+(Ho x).length) x.1 (es++Zh x) (os++fK x) hk.tail EU.1
   (λe hm=>by
    rcases Ao.mp hm with hm|hm
    ·have:=he e hm;have:=hl x (.head _);omega
    ·rw[(iQ hm).1];exact Ek _)
   (λe hm=>by
    rcases Ao.mp hm with hm|hm
    ·have:=ho e hm;have:=hl x (.head _);omega
    ·obtain⟨q,_,rfl⟩:=iP hm;exact Ek _)
   (by rw[Ab];have:=iR x;omega) (by rw[Ab];omega) GW (by rw[<-Lf];exact IL) (by omega) (by omega)
  have e4:p+11*(x::r).length=p+11+11*r.length:=by rw[An];omega
  have e5:at'+a+(Cm (x::r)).length=at'+(a+(Ho x).length)+(Cm r).length:=by rw[ep,Ab];omega
  refine⟨L1++L2,?_,?_,λBK=>?_⟩
  ·rw[show(x::r).length+m=(r.length+m)+1 from by rw[An];omega,Iy,e4,ee,eo,<-Ax,<-Ax];exact(r1.bind _).trans r2
  ·rw[e4,e5];exact .app (b1.mono (by omega) (by omega) (by omega) (by omega)) (b2.mono (by omega) (by omega) (by omega) (by omega))
  ·rw[e5];by_cases h2:Cm r=[]
   ·rw[ep,h2,Au] at BK;rw[h2];have:=e1 BK;rw[show at'+a+(Ho x).length=at'+(a+(Ho x).length)+([]:List UInt8).length from by simp;omega] at this;exact this.left
   ·exact(e2 h2).right
structure Uj (rows:List De):Prop extends RowsOk rows where
 len:rows.length<=20
 os:(Ja rows).length<=1000
 ne:∀x∈rows,x.2.1≠[]\/x.2.2≠[]
noncomputable abbrev Fv (rows:List De):Nat:=10+11*rows.length
theorem rE {x:De}(h:Yz x):(Ho x).length<=9008:=by k_with"o"=>unfold Ho;rw[Ab];have:=Ij 1 x.2.1;have:=Ij 2 x.2.2;have:=h.rl;have:=h.gl;omega
theorem Qy:∀{rows:List De},(∀x∈rows,Yz x)->(Cm rows).length<=9008*rows.length
 |[],_=>Ca _
 |x::rows,h=>by k_with"o"=>have h1:=Qy λy hy=>h y (.tail _ hy);have h2:=rE (h x (.head _));rw[show Cm (x::rows)=Ho x++Cm rows from Cp,Ab,An];omega
theorem tP {x:De}(h:x.2.1≠[]\/x.2.2≠[]):Ho x≠[]:=by k_with"o"=>exact(λq=>by
 have q:=lF.mp q;rcases h with h|h
 ·have:=Mm (k:=1) h;rw[q.1] at this;simp at this;omega
 ·have:=Mm (k:=2) h;rw[q.2] at this;simp at this;omega)
theorem rD:∀{rows:List De},(∀x∈rows,x.2.1≠[]\/x.2.2≠[])->rows≠[]->Cm rows≠[]
 |[],_,h=>absurd rfl h
 |x::rows,h,_=>by k_with"o"=>exact( λq=>tP (h x (.head _)) (lF.mp (show Ho x++Cm rows=[] from q)).1)
theorem Xq (rows:List De):(Ei rows).length=Fv rows+(Cm rows).length:=by k_with"o"=>rw[jP];unfold Fv;simp only[Ab,Bl,Nq];omega
structure gR (b:List UInt8)(at':Nat)(rows:List De):Prop where
 h0:At b at' (be 14 2)
 h2:At b (at'+2) (be (10+11*rows.length+(Cm rows).length) 4)
 h6:At b (at'+6) (be rows.length 4)
 recs:At b (at'+10) (Lk (Fv rows) rows)
 parts:At b (at'+Fv rows) (Cm rows)
theorem mX (lead:List UInt8)(rows:List De):gR (lead++Ei rows) lead.length rows:=by k_with"o"=>have h:At (lead++Ei rows) lead.length (Ei rows):=⟨lead,[],by rw[Au],rfl⟩;generalize lead++Ei rows=b at h;rw[jP] at h;have h2:=h.right;have h6:=h2.right;have U3:=h6.right;have hp:=U3.right;simp only[Bl,Nq] at h2 h6 U3 hp;refine⟨h.left,h2.left,h6.left,U3.left,?_⟩;rw[show lead.length+2+4+4+11*rows.length=lead.length+Fv rows from by unfold Fv;omega] at hp;exact hp
theorem aA (rows:List De):gR (Ei rows) 0 rows:=mX [] rows
theorem Jn {at':Nat}{done rest:List De}(hk:Uj (done++rest))(ha:gR b at' (done++rest)) :
  ∃L,Reach b (Ck at') L (Iy at' rest.length (at'+10+11*done.length) (Yn (-1) done) (Mv done) (Ja done))/\
   Tx L at' (at'+10+11*done.length) (at'+Fv (done++rest)) (at'+Fv (done++rest)+(Cm done).length)/\
   Ends L (if done=[] then at'+10 else at'+Fv (done++rest)+(Cm done).length):=by k_with"o"=>
 have hl:=hk.len;have ho:=hk.os;have hp:=Qy hk.ok;have HT:(Cm (done++rest)).length=(Cm done).length+(Cm rest).length:=by rw[Us,Ab]
 have JU:(Ja (done++rest)).length=(Ja done).length+(Ja rest).length:=by rw[show Ja (done++rest)=Ja done++Ja rest from Gp,Ab]
 have QN:(done++rest).length=done.length+rest.length:=Ab;have hr:=ha.recs;rw[Ti] at hr;have MP:=ha.parts;rw[Us] at MP;obtain⟨L,r,bt,en⟩:=cM (b:=b) (at':=at') done rest.length (at'+10) (Fv (done++rest)) (-1) [] [] hk.toRowsOk.left
  (λx hx=>by have:=(hk.toRowsOk.left.ok x hx).sel.1;omega) (λe he=>nomatch he) (λe he=>nomatch he) (by simp;omega) (by simp;omega) hr.left MP.left (by unfold Fv;omega) (by unfold Fv;omega)
 refine⟨(at',2)::(at'+2,4)::(at'+6,4)::L,?_,?_,?_⟩
 ·unfold Ck;refine .at ha.h0 (by decide) ?_;rw[if_neg (by decide)];refine .at ha.h2 (by omega) (.at ha.h6 (by omega) ?_);rw[QN];exact r
 ·exact .cons (Ah _) (by omega) (.cons (by omega) (by omega) (.cons (by omega) (by omega) (bt.mono (by omega) (by omega) (by omega) (by omega))))
 ·by_cases hd:done=[]
  ·rw[if_pos hd];exact⟨(at'+6,4),.tail _ (.tail _ (.head _)),rfl⟩
  ·rw[if_neg hd];exact(en (rD (λx hx=>hk.ne x (Al _ hx)) hd)).cons.cons.cons
theorem tM {lead:List UInt8}{rows:List De}(hk:Uj rows):(Ck lead.length).run (lead++Ei rows)=.ok (Mv rows,Ja rows):=by k_with"o"=>have h:=mX lead rows;obtain⟨L,r,_,_⟩:=Jn (done:=rows) (rest:=[]) (b:=lead++Ei rows) (at':=lead.length) (by rw[Au];exact hk) (by rw[Au];exact h);rw[r.run_eq];rfl
theorem Aa6 {rows:List De}(hk:Uj rows){m:Nat}(hm:m<(Ei rows).length):∃i,(Ck 0).run ((Ei rows).take m)=.fault i:=by k_with"o"=>
 have h:=mX [] rows;obtain⟨L,r,_,q,hq,he⟩:=Jn (done:=rows) (rest:=[]) (b:=Ei rows) (at':=0) (by rw[Au];exact hk) (by rw[Au];exact h);refine r.cut ⟨q,hq,?_⟩;rw[he];rw[Xq] at hm;by_cases hd:rows=[]
 ·subst hd;exact hm
 ·rw[if_neg hd,Au];omega
theorem rN (rows:List De):(Ck 0).run ([0,12]++(Ei rows).drop 2)=.fault 0:=by k_with"o"=>have h:At ([0,12]++(Ei rows).drop 2) 0 (be 12 2):=⟨[],(Ei rows).drop 2,rfl,rfl⟩;unfold Ck;rw[Rd.run,if_pos h.J6,h.be (by decide),if_pos (by decide)];rfl
theorem aO:∀{rows:List De} {i a:Nat} {s:Tw},s∈Qv i a rows->∃done x rest,rows=done++x::rest/\s∈Tg (i+done.length) (a+(Cm done).length) x
 |[],i,a,s,h=>nomatch h
 |x::rows,i,a,s,h=>by k_with"o"=>
  rw[Qv] at h;rcases Ao.mp h with h|h
  ·exact⟨[],x,rows,rfl,h⟩
  ·obtain⟨done,y,rest,rfl,h2⟩:=aO h;refine⟨x::done,y,rest,rfl,?_⟩;rw[An,show Cm (x::done)=Ho x++Cm done from Cp,Ab,<-Lf a,show i+(done.length+1)=i+1+done.length from by omega];exact h2
theorem hV {α:Type}{l:List α}{j:Nat}(h:j<l.length):∃u x v,l=u++x::v/\u.length=j:=by k_with"o"=>exact(⟨l.take j,l[j],l.drop (j+1),by rw[lE,Dw],by rw[Av];omega⟩)
theorem aR {at' p:Nat}{last:Int}{es:BA}{os:A7}(h:p+3<=b.length)(hf:(numAt b p 3:Int)<=last\/(numAt b p 3:Int)>1114111):(Iy at' (n+1) p last es os).run b=.fault p:=by k_with"o"=>
 rw[Iy];refine Gu ?_;rw[Nd,Rd.run,if_pos h];by_cases h1:(numAt b p 3:Int)<=last
 ·rw[if_pos h1];rfl
 ·rw[if_neg h1,if_pos (hf.resolve_left h1)];rfl
theorem cQ {p:Nat}{last:Int}{acc:List Int}(h:p+4<=b.length)(hf:(numAt b p 3:Int)<=last\/(numAt b p 3:Int)+numAt b (p+3) 1>1114111):(Iq (n+1) p last acc).run b=.fault p:=by k_with"o"=>
 rw[Iq,Rd.run,if_pos (by omega),Rd.run,if_pos (by omega)];by_cases h1:(numAt b p 3:Int)<=last
 ·rw[if_pos h1];rfl
 ·rw[if_neg h1,if_pos (hf.resolve_left h1)];rfl
theorem cS {p:Nat}{last:Int}{acc:List (Int×Int)}(h:p+3<=b.length)(hf:(numAt b p 3:Int)<=last\/(numAt b p 3:Int)>1114111):(It (n+1) p last acc).run b=.fault p:=by k_with"o"=>
 rw[It,Rd.run,if_pos h];by_cases h1:(numAt b p 3:Int)<=last
 ·rw[if_pos h1];rfl
 ·rw[if_neg h1,if_pos (hf.resolve_left h1)];rfl
theorem Uw (last:Int)(u:List De)(x:De):Yn last (u++[x])=x.1:=by k_with"o"=>unfold Yn;rw[Jk];rfl
theorem mO (last:Int)(u:List (Int×Int))(x:Int×Int):iX last (u++[x])=x.1+x.2:=by k_with"o"=>unfold iX;rw[Jk];rfl
theorem mP (last:Int)(u:List (Int×Int))(x:Int×Int):iY last (u++[x])=x.1:=by k_with"o"=>unfold iY;rw[Jk];rfl
structure gS (b:List UInt8)(w n:Nat)(last:Int):Prop where
 le:w+n<=b.length
 bad:∀z:List UInt8,3<=z.length->z.length<=n->((Ng (z.take 3):Int)<=last\/(Ng (z.take 3):Int)>1114111\/(z.length=4/\(Ng (z.take 3):Int)+Ng (z.drop 3)>1114111))->(Ck 0).run (B1 b w z)=.fault w
theorem Ur {w:Nat}{z:List UInt8}(h:w+z.length<=b.length)(h3:3<=z.length):numAt (B1 b w z) w 3=Ng (z.take 3):=by k_with"o"=>have h1:=pK h;rw[<-Dw 3 z] at h1;have h2:=h1.left;rw[Dw] at h2;exact h2.num (by rw[Av];omega)
theorem rA {w:Nat}{z:List UInt8}(h:w+z.length<=b.length)(h3:z.length=4):numAt (B1 b w z) (w+3) 1=Ng (z.drop 3):=by k_with"o"=>have h1:=pK h;rw[<-Dw 3 z] at h1;have h2:=h1.right;rw[Dw,Av,show min 3 z.length=3 from by omega] at h2;exact h2.num (by rw[Cw];omega)
theorem jY {rows done rest:List De}{x:De}(he:rows=done++x::rest)(hk:Uj rows):gS (Ei rows) (10+11*done.length) 3 (Yn (-1) done):=by k_with"o"=>
 have ha:=aA rows;have hlen:=Xq rows;have FO:rows.length=done.length+(rest.length+1):=by rw[he,Ab,An]
 have hb:Fv rows=10+11*rows.length:=rfl;refine⟨by omega,λz h3 hz hf=>?_⟩;have GH:10+11*done.length+z.length<=(Ei rows).length:=by omega
 generalize Ei rows=B at *;subst he;obtain⟨L,r,bt,_⟩:=Jn hk ha;rw[r.B1 GH λq hq=>?_]
 ·rw[Dj,An];refine aR (by rw[Vu GH];omega) ?_;rw[Ur GH h3];rcases hf with hf|hf|hf
  ·exact .inl hf
  ·exact .inr hf
  ·omega
 ·rcases bt q hq with⟨_,h⟩|⟨h,_⟩
  ·left;omega
  ·right;omega
theorem pA {rows done rest:List De}{x:De}(he:rows=done++x::rest)(hk:Uj rows)(ha:gR b 0 rows) :
  At b (Fv rows+(Cm done).length) (Ho x)/\∃(L:List (Nat×Nat)) (es:BA) (os:A7) (g:Int×BA×A7->Rd (BA×A7)),kW x (Yn (-1) done) es os/\
   Reach b (Ck 0) L (((jO 0 (if (Cq 1 x.2.1).isEmpty then 0 else Fv rows+(Cm done).length) x.1 es).bind λA9=>(fJ 0 (if (Cq 2 x.2.2).isEmpty then 0 else Fv rows+(Cm done).length+(Cq 1 x.2.1).length) x.1 os).bind λCL=>.ret (x.1,A9,CL)).bind g)/\
   ∀q∈L,q.1+q.2<=Fv rows+(Cm done).length:=by k_with"o"=>
 have MP:=ha.parts;have hr:=ha.recs;have hlen:=hk.len;have BP:=hk.os;have G8:=Qy hk.ok;have JQ:x∈rows:=by rw[he];simp
 have FO:rows.length=done.length+(rest.length+1):=by rw[he,Ab,An]
 have SJ:Cm rows=Cm done++(Ho x++Cm rest):=by rw[he,Us];rfl
 rw[SJ] at G8;simp only[Ab] at G8;have hb:Fv rows=10+11*rows.length:=rfl;rw[SJ] at MP;have S8:=MP.right.left;rw[Dj] at S8;refine⟨S8,?_⟩;have FH:=hk.asc;rw[he] at FH;have AJ:=(Bo.mp FH).2.2;have JU:(Ja rows).length=(Ja done).length+((fK x).length+(Ja rest).length):=by rw[he,show Ja (done++x::rest)=Ja done++(fK x++Ja rest) from Gp,Ab,Ab]
 have bh:(Mv done).length<=done.length:=by
  clear AJ S8 MP SJ FO FH JU;have:∀l:List De,(Mv l).length<=l.length:=λl=>by
   induction l with
   |nil=>exact Ah _
   |cons y l ih=>rw[show Mv (y::l)=Zh y++Mv l from rfl,Ab,An];have:=iR y;omega
  exact this done
 have H5:∀y∈done,y.1<=Yn (-1) done:=by
  intro y hy;rcases Hf done with h|⟨u,z,h⟩
  ·rw[h] at hy;cases hy
  ·rw[Hg] at h;rw[h,Uw];rw[h] at hy;rcases Ao.mp hy with hy|hy
   ·rw[h] at FH;have h5:=(Bo.mp (Bo.mp FH).1).2.2 y hy z (.head _);omega
   ·rw[Ae.mp hy];exact Ek _
 have AM:kW x (Yn (-1) done) (Mv done) (Ja done):=by
  refine⟨?_,?_,?_,by omega,by omega⟩
  ·rcases Hf done with h|⟨u,z,h⟩
   ·rw[h];have:=(hk.ok x JQ).sel.1;show(-1:Int)<x.1;omega
   ·rw[Hg] at h;rw[h,Uw];exact AJ z (by rw[h];simp) x (.head _)
  ·intro e hm;obtain⟨y,hy,hm⟩:=Ib.mp hm;rw[(iQ hm).1];exact H5 y hy
  ·intro e hm;obtain⟨y,hy,hm⟩:=Ib.mp hm;obtain⟨p,_,rfl⟩:=iP hm;exact H5 y hy
 have GW:=hr;rw[he,Ti,Lk] at GW;have WI:=GW.right.left;rw[Nq,<-he] at WI;obtain⟨L,r,bt,_⟩:=Jn (b:=b) (at':=0) (done:=done) (rest:=x::rest) (by rw[<-he];exact hk) (by rw[<-he];exact ha);rw[<-he] at bt;have hd:=Ud (b:=b) (at':=0) (hk.ok x JQ) AM WI (by omega);refine⟨L++[(0+10+11*done.length,3),(0+10+11*done.length+3,4),(0+10+11*done.length+7,4)],Mv done,Ja done,_,AM,r.trans (hd.bind _),?_⟩;intro q hq;rcases Ao.mp hq with hq|hq
 ·rcases bt q hq with⟨_,h⟩|⟨_,h⟩<;>omega
 ·simp only[Ag,Df,or_false] at hq;rcases hq with rfl|rfl|rfl<;>dsimp only<;>omega
theorem nH {rows done rest:List De}{x:De}{u v:List (Int×Int)}{y:Int×Int}(he:rows=done++x::rest)(hx:x.2.1=u++y::v)(hk:Uj rows) :
  gS (Ei rows) (Fv rows+(Cm done).length+4+4*u.length) 4 (iX (-1) u)/\At (Ei rows) (Fv rows+(Cm done).length+4) (((u++y::v).map (Je 1)).flatten):=by k_with"o"=>
 obtain⟨hp,L,es,os,g,AM,r,hL⟩:=pA he hk (aA rows);generalize Ei rows=B at *;have JQ:x∈rows:=by rw[he];simp
 have BK:x.2.1≠[]:=by rw[hx];simp
 have T4:x.2.1.isEmpty=false:=by rw[hx];cases u<;>rfl
 have h0:Fv rows+(Cm done).length≠0:=by have:Fv rows=10+11*rows.length:=rfl;omega
 rw[Ox,T4,if_neg (by decide),bK h0,Dj] at r;have GX:=hp.left;rw[Qg BK,hx] at GX;have IF:=hk.ok x JQ;have HV:=IF.AY;have FO:=IF.rl;rw[hx] at HV FO;obtain⟨L2,r2,b2,_⟩:=Qe (rest:=y::v) HV (by omega) GX;have K6:=GX.right;rw[Bl] at K6;have hle:=K6.le;rw[Ii,Ab,An] at hle;refine⟨⟨by omega,λz h3 hz hf=>?_⟩,K6⟩;have GH:Fv rows+(Cm done).length+4+4*u.length+z.length<=B.length:=by omega
 rw[r.B1 GH λq hq=>.inl (by have:=hL q hq;omega)];refine Gu (Gu (Gu ?_));rw[r2.B1 GH λq hq=>.inl (by have:=(b2 q hq).2;omega),An];refine cQ (by rw[Vu GH];omega) ?_;rw[Ur GH h3];rcases hf with hf|hf|⟨h4,hf⟩
 ·exact .inl hf
 ·exact .inr (by omega)
 ·rw[rA GH h4];exact .inr hf
theorem rX {rows done rest:List De}{x:De}{u v:List (Int×Int)}{y:Int×Int}(he:rows=done++x::rest)(hx:x.2.2=u++y::v)(hk:Uj rows) :
  gS (Ei rows) (Fv rows+(Cm done).length+(Cq 1 x.2.1).length+4+5*u.length) 3 (iY (-1) u)/\At (Ei rows) (Fv rows+(Cm done).length+(Cq 1 x.2.1).length+4) (((u++y::v).map (Je 2)).flatten):=by k_with"o"=>
 obtain⟨hp,L,es,os,g,AM,r,hL⟩:=pA he hk (aA rows);generalize Ei rows=B at *;have JQ:x∈rows:=by rw[he];simp
 have IF:=hk.ok x JQ;have BK:x.2.2≠[]:=by rw[hx];simp
 have T4:x.2.2.isEmpty=false:=by rw[hx];cases u<;>rfl
 have h0:Fv rows+(Cm done).length≠0:=by have:Fv rows=10+11*rows.length:=rfl;omega
 obtain⟨L1,r1,b1,_⟩:=bJ (at':=0) (sel:=x.1) (es:=es) IF.AY IF.rl (by rw[Dj];exact hp.left) h0 AM.NI;have r:=r.trans ((r1.bind _).bind g);have hL:∀q∈L++L1,q.1+q.2<=Fv rows+(Cm done).length+(Cq 1 x.2.1).length:=λq hq=>by
  rcases Ao.mp hq with hq|hq
  ·have:=hL q hq;omega
  ·have:=(b1 q hq).2;omega
 rw[Rd.bind] at r;rw[Ox 2,T4,if_neg (by decide),Vx (by omega),Dj] at r;have GX:=hp.right;rw[Qg BK,hx] at GX;have HV:=IF.JF;have FO:=IF.gl;rw[hx] at HV FO;obtain⟨L2,r2,b2,_⟩:=Qf (rest:=y::v) HV (by omega) GX;have K6:=GX.right;rw[Bl] at K6;have hle:=K6.le;rw[Ii,Ab,An] at hle;refine⟨⟨by omega,λz h3 hz hf=>?_⟩,K6⟩;have GH:Fv rows+(Cm done).length+(Cq 1 x.2.1).length+4+5*u.length+z.length<=B.length:=by omega
 rw[r.B1 GH λq hq=>.inl (by have:=hL q hq;omega)];refine Gu (Gu (Gu ?_));rw[r2.B1 GH λq hq=>.inl (by have:=(b2 q hq).2;omega),An];refine cS (by rw[Vu GH];omega) ?_;rw[Ur GH h3];rcases hf with hf|hf|⟨h4,hf⟩
 ·exact .inl hf
 ·exact .inr hf
 ·omega
structure Abz (b:List UInt8)(s:Tw)(n:Nat)(last:Int):Prop where
 kind:s.kind<=2
 MB:gS b s.at_ n last
 n3:3<=n
 n4:s.kind=1->n=4
 back:¬first? s->∃pv:Nat,Vr s.kind<=s.at_/\At b (s.at_-Vr s.kind) (be pv 3)/\pv<16777216/\(pv:Int)<=last
theorem pY {p:Nat}{u v:List (Int×Int)}{q:Int×Int}(h:At b p (((u++q::v).map (Je k)).flatten)):At b (p+(3+k)*u.length) (be q.1.toNat 3):=by k_with"o"=>rw[Ai,Ku] at h;have h2:=h.right;rw[Ii,Aj,Hp] at h2;exact h2.left.left
theorem Zv {rows:List De}(hk:Uj rows){s:Tw}(hs:s∈(Mu rows).spots):∃n last,Abz (Ei rows) s n last:=by k_with"o"=>
 rw[fL] at hs;obtain⟨done,x,rest,he,hs⟩:=aO hs;have hb:Fv rows=10+11*rows.length:=rfl;have JQ:x∈rows:=by rw[he];simp
 have IF:=hk.ok x JQ;unfold Tg at hs;rw[Dj,<-hb] at hs;rcases Ao.mp hs with hs|hs
 ·rcases Ao.mp hs with hs|hs
  ·rw[Ae] at hs;subst hs;refine⟨3,_,by dsimp only;omega,jY he hk,by decide,λh=>by dsimp only at h;omega,λhf=>?_⟩;rcases Hf done with h|⟨u,z,h⟩
   ·exact absurd (.inr ⟨by rw[h];rfl,rfl⟩) hf
   ·rw[Hg] at h;have V9:=hk.ok z (by rw[he,h];simp);have hr:=(aA rows).recs;rw[he,h,Ax,Ti] at hr;have h2:=hr.right;rw[Nq,Ms,Lk] at h2;have h3:=h2.left.left;have h1:=V9.sel.1;have XQ:=V9.sel.2;rw[<-Ms,<-Ax,<-h,<-he] at h3;have QN:done.length=u.length+1:=by rw[h,Ab,Fq]
    refine⟨z.1.toNat,by show 11<=10+11*done.length;omega,?_,by omega,?_⟩
    ·rw[show 10+11*done.length-Vr 0=0+10+11*u.length from by show 10+11*done.length-11=_;omega];exact h3
    ·rw[h,Uw];omega
  ·obtain⟨j,hj,rfl⟩:=Af.mp hs;rw[Uk] at hj;obtain⟨u,y,v,hx,hu⟩:=hV hj;subst hu;obtain⟨US,O6⟩:=nH he hx hk;refine⟨4,_,by dsimp only;omega,US,by decide,λ_=>rfl,λhf=>?_⟩;rcases Hf u with h|⟨u',z,h⟩
   ·exact absurd (.inl ⟨by rw[h];rfl,by dsimp only;omega⟩) hf
   ·rw[Hg] at h;obtain⟨z1,z2,z3,z4⟩:=IF.AY.ok z (by rw[hx,h];simp);have ZE:u.length=u'.length+1:=by rw[h,Ab,Fq]
    rw[h,Ax,Ms] at O6;have h3:=pY O6;refine⟨z.1.toNat,by show 4<=_;dsimp only;omega,?_,by omega,?_⟩
    ·dsimp only;rw[show Fv rows+(Cm done).length+4+4*u.length-Vr 1=Fv rows+(Cm done).length+4+(3+1)*u'.length from by show _-4=_;omega];exact h3
    ·rw[h,mO];omega
 ·obtain⟨j,hj,rfl⟩:=Af.mp hs;rw[Uk] at hj;obtain⟨u,y,v,hx,hu⟩:=hV hj;subst hu;obtain⟨US,O6⟩:=rX he hx hk;refine⟨3,_,by dsimp only;omega,US,by decide,λh=>by dsimp only at h;omega,λhf=>?_⟩;rcases Hf u with h|⟨u',z,h⟩
  ·exact absurd (.inl ⟨by rw[h];rfl,by dsimp only;omega⟩) hf
  ·rw[Hg] at h;obtain⟨z1,z2,z3,z4⟩:=IF.JF.ok z (by rw[hx,h];simp);have ZE:u.length=u'.length+1:=by rw[h,Ab,Fq]
   rw[h,Ax,Ms] at O6;have h3:=pY O6;refine⟨z.1.toNat,by show 5<=_;dsimp only;omega,?_,by omega,?_⟩
   ·dsimp only;rw[show Fv rows+(Cm done).length+(Cq 1 x.2.1).length+4+5*u.length-Vr 2=Fv rows+(Cm done).length+(Cq 1 x.2.1).length+4+(3+2)*u'.length from by show _-5=_;omega];exact h3
   ·rw[h,mP];omega
theorem hU {a:Nat}{x:De}(h:Yz x):(Tg i a x).length<=2001:=by k_with"o"=>unfold Tg;simp only[Ab,Ac,Fe,Fq];have:=h.rl;have:=h.gl;omega
theorem aP:∀{rows:List De} {i a:Nat},(∀x∈rows,Yz x)->(Qv i a rows).length<=2001*rows.length
 |[],_,_,_=>Ca _
 |x::rows,i,a,h=>by k_with"o"=>have h1:=aP (i:=i+1) (a:=a+(Ho x).length) λy hy=>h y (.tail _ hy);have h2:=hU (i:=i) (a:=a) (h x (.head _));rw[Qv,Ab,An];omega
theorem Abg {rows:List De}(hk:Uj rows):oR (Ei rows) (Mu rows).spots:=by k_with"o"=>
 have hl:=hk.len;refine⟨?_,?_,rN rows,λs hs=>?_,λs hs=>?_,λs hs h1=>?_,λs hs hf=>?_⟩
 ·have h1:=Qy hk.ok;rw[Xq];have hb:Fv rows=10+11*rows.length:=rfl;omega
 ·rw[fL];have h1:=aP (i:=0) (a:=10+11*rows.length) hk.ok;dsimp only;omega
 ·obtain⟨n,last,h⟩:=Zv hk hs;exact h.kind
 ·obtain⟨n,last,h⟩:=Zv hk hs;exact h.MB.bad (be 1114112 3) (by rw[Bl];decide) (by rw[Bl];exact h.n3) (.inr (.inl (by decide)))
 ·obtain⟨n,last,h⟩:=Zv hk hs;have:=h.MB.bad (be 1114111 3++[1]) (by decide) (by rw[h.n4 h1];decide) (.inr (.inr (by decide)));unfold B1 at this;rw[<-Ax (_:List UInt8) (be 1114111 3)] at this;exact this
 ·obtain⟨n,last,h⟩:=Zv hk hs;obtain⟨pv,h1,h2,h3,h4⟩:=h.back hf;refine⟨h1,?_⟩;have h5:=h2.slice;rw[Bl] at h5;rw[h5];refine h.MB.bad (be pv 3) (by rw[Bl];decide) (by rw[Bl];exact h.n3) (.inl ?_);rw[show(be pv 3).take 3=be pv 3 from Dq (by rw[Bl];decide),fM,cF h3];exact h4
section
theorem tE (f:Int)(k:Nat):EY f (k+1)=EY f k++[f+(k:Int)]:=by k_with"o"=>unfold EY;rw[cG,Ai];rfl
theorem wW {f:Int}{x:Int}:x∈EY f k↔f<=x/\x<f+k:=by k_with"o"=>
 unfold EY;rw[Af];constructor
 ·rintro⟨i,hi,rfl⟩;rw[Uk] at hi;omega
 ·rintro⟨h1,h2⟩;exact⟨(x-f).toNat,Uk.mpr (by omega),by omega⟩
theorem Uy (a b:List (Int×Int)):expand (a++b)=expand a++expand b:=Gp
theorem Ux (p:Int×Int):expand [p]=EY p.1 (p.2.toNat+1):=List.flatMap_singleton ..
theorem mT {rs:List (Int×Int)}{p:Int×Int}(h:p∈rs)(h0:0<=p.2):p.1+p.2∈expand rs:=by k_with"o"=>exact(Ib.mpr ⟨p,h,wW.mpr (by omega)⟩)
theorem tJ {acc:List (Int×Int)}{k:Int}(h:Mz acc)(hk:0<=k/\k<=1114111)(hl:∀c∈expand acc,c<k):Mz (Ki acc k)/\expand (Ki acc k)=expand acc++[k]:=by k_with"o"=>
 have DQ:Mz (acc++[(k,0)])/\expand (acc++[(k,0)])=expand acc++[k]:=by
  refine⟨⟨λq hq=>?_,Bo.mpr ⟨h.asc,Ls ..,λa ha b hb=>?_⟩⟩,?_⟩
  ·rcases Ao.mp hq with hq|hq
   ·exact h.ok q hq
   ·rw[Ae.mp hq];exact⟨hk.1,Ek 0,by show(0:Int)<=255;decide,by show k+0<=_;omega⟩
  ·rw[Ae.mp hb];exact hl _ (mT ha (h.ok a ha).2.1)
  ·rw[Uy,Ux];congr 1;show[k+((0:Nat):Int)]=[k];rw[show k+((0:Nat):Int)=k from by omega]
 rcases Sf acc with rfl|⟨i,p,rfl⟩
 ·exact DQ
 ·rw[Qu];by_cases hc:k=p.1+p.2+1/\p.2<255
  ·rw[if_pos hc];have hp:=h.ok p (by simp);have EU:=Bo.mp h.asc;refine⟨⟨λq hq=>?_,Bo.mpr ⟨EU.1,Ls ..,λa ha b hb=>?_⟩⟩,?_⟩
   ·rcases Ao.mp hq with hq|hq
    ·exact h.ok q (Al _ hq)
    ·rw[Ae.mp hq];dsimp only;omega
   ·rw[Ae.mp hb];exact EU.2.2 a ha p (.head _)
   ·rw[Uy,Uy,Ux,Ux,Ax];congr 1;show EY p.1 ((p.2+1).toNat+1)=EY p.1 (p.2.toNat+1)++[k];rw[show(p.2+1).toNat=p.2.toNat+1 from by omega,tE,hc.1,show p.1+((p.2.toNat+1:Nat):Int)=p.1+p.2+1 from by omega]
  ·rw[if_neg hc];exact DQ
theorem jG:∀(cs:List Int) (acc:List (Int×Int)),Mz acc->(expand acc++cs).Pairwise (· < ·)->(∀k∈cs,0<=k/\k<=1114111)->Mz (cs.foldl Ki acc)/\expand (cs.foldl Ki acc)=expand acc++cs
 |[]=>λacc h _ _=>⟨h,by rw[Au];rfl⟩
 |k::cs=>λacc h hp hk=>by k_with"o"=>have EF:=Bo.mp hp;obtain⟨h1,h2⟩:=tJ h (hk k (.head _)) λc hc=>EF.2.2 c hc k (.head _);have h3:=jG cs (Ki acc k) h1 (by rw[h2,Ax];exact hp) λj hj=>hk j (.tail _ hj);rw[h2,Ax] at h3;exact h3
theorem Uq {cs:List Int}(h:B' cs):Mz (Bn cs)/\expand (Bn cs)=cs:=by k_with"o"=>exact(jG cs [] ⟨λq hq=>(nomatch hq),.nil⟩ h.1 h.2.1)
theorem Jb {α:Type}(f:α->Int){l:List α}(h:l.Pairwise λx y=>f x<f y):l.Nodup:=by k_with"o"=>exact(h.imp λq e=>by rw[e] at q;omega)
theorem Up {α:Type}(f:α->Int){a b:List α}(ha:a.Pairwise λx y=>f x<f y)(hb:b.Pairwise λx y=>f x<f y)(h:∀x,x∈a↔x∈b):a=b:=by k_with"o"=>exact(Po f ha hb ((List.perm_ext_iff_of_nodup (Jb f ha) (Jb f hb)).mpr h))
theorem Pu {α β:Type}{f g:α->List β}:∀{l:List α},(∀x∈l,f x=g x)->l.flatMap f=l.flatMap g
 |[],_=>rfl
 |x::l,h=>by k_with"o"=>rw[Cp,Cp,h x (.head _),Pu λy hy=>h y (.tail _ hy)]
theorem Ri {α β:Type}{f:α->List β}{p:α->Bool}:∀{l:List α},(∀x∈l,p x=false->f x=[])->(l.filter p).flatMap f=l.flatMap f
 |[],_=>rfl
 |x::l,h=>by k_with"o"=>
  rw[Hb];have ih:=Ri λy hy=>h y (.tail _ hy);cases hp:p x with
  |true=>rw[if_pos rfl,Cp,Cp,ih]
  |false=>rw[if_neg (by decide),Cp,h x (.head _) hp,Er,ih]
structure Src (es:BA)(os:A7)(ks:List (List Int))(ss:List Int):Prop where
 en:(es.map (·.1)).Nodup
 pk:∀e∈os,PK e.1
 ok:Qo os ks
 so:Vg es os ss
variable {es:BA}{os:A7}{ks:List (List Int)}{ss:List Int}
theorem Src.NL (h:Src es os ks ss){k:List Int}(hk:k∈ks):PK k:=by k_with"o"=>obtain⟨e,he,rfl⟩:=Af.mp (h.ok.1.mem_iff.mp hk);exact h.pk e he
theorem Src.on (h:Src es os ks ss):(os.map (·.1)).Nodup:=by k_with"o"=>exact(h.ok.1.nodup_iff.mp (Jb Rh h.ok.2))
theorem Src.RX (h:Src es os ks ss){k:List Int}(hk:k∈ks):Gv k∈ss:=by k_with"o"=>obtain⟨e,he,rfl⟩:=Af.mp (h.ok.1.mem_iff.mp hk);exact(h.so.2 _).mpr (.inr ⟨e,he,rfl⟩)
noncomputable def ID (x:De):Bool:=!x.2.1.isEmpty || !x.2.2.isEmpty
theorem Iw (es:BA)(os:A7)(ks:List (List Int))(ss:List Int):Dz es os ks ss=(ss.filter λk=>ID (Ih es os ks k)).map (Ih es os ks):=by k_with"o"=>unfold Dz;rw[List.filter_map];rfl
theorem Aao {k:List Int}(h:PK k):[Gv k,Mt k]=k:=by k_with"o"=>obtain⟨a,b,rfl,_⟩:=h;rfl
theorem uH {l:List (List Int)}(hp:∀k∈l,PK k)(hs:l.Pairwise λa b=>Rh a<Rh b)(hm:∀k∈l,Gv k∈ss)(h:ss.Pairwise (· < ·)):(ss.flatMap λk=>l.filter λkey=>Gv key==k)=l:=by k_with"o"=>
 refine Up Rh (List.pairwise_flatMap.mpr ⟨λa _=>hs.filter _,h.imp λ{a b} O' x hx y hy=>?_⟩) hs λx=>?_
 ·rw[Bb,beq_iff_eq] at hx hy;obtain⟨a1,b1,rfl,h1,h2,h3⟩:=hp x hx.1;obtain⟨a2,b2,rfl,g1,g2,g3⟩:=hp y hy.1;have e1:a1=a:=hx.2;have e2:a2=b:=hy.2;show a1*16777216+b1<a2*16777216+b2;omega
 ·rw[Ib];constructor
  ·rintro⟨a,_,hx⟩;exact(Bb.mp hx).1
  ·intro hx;exact⟨Gv x,hm x hx,Bb.mpr ⟨hx,by rw[beq_iff_eq]⟩⟩
theorem Np (es:BA)(os:A7)(ks:List (List Int))(k:Int):Fn es os ks k=((ks.filter (Dd es os)).filter λkey=>Gv key==k).map λkey=>(Mt key,Cn os key):=by k_with"o"=>unfold Fn;rw[Wz]
theorem Tj (h:Src es os ks ss):Ja (Dz es os ks ss)=(ks.filter (Dd es os)).map λk=>(k,Cn os k):=by k_with"o"=>
 have hg:=uH (l:=ks.filter (Dd es os)) (ss:=ss) (λk hk=>h.NL (Bb.mp hk).1) (h.ok.2.filter _) (λk hk=>h.RX (Bb.mp hk).1) h.so.1
 conv=>rhs;rw[<-hg]
 unfold Ja Dz;rw[Ri,List.flatMap_map,List.map_flatMap]
 ·refine Pu λk hk=>?_;show(Fn es os ks k).map _=_;rw[Np,Ay];refine Fi λkey BR=>?_;rw[Bb,beq_iff_eq] at BR;show([k,Mt key],Cn os key)=_;rw[<-BR.2,Aao (h.NL (Bb.mp BR.1).1)]
 ·intro x _ hx;rw[Un,Pm,Pm,Ha,Ha] at hx;unfold fK;rw[hx.2];rfl
theorem eA:∀(t:Py) (k:Int) (p:Int×Int) (j:Int),Jw (Kl t k p) j=if k=j then Jw t j++[p] else Jw t j
 |[]=>λk p j=>by k_with"o"=>
  show(Ey [(k,[p])] j).getD []=_;simp only[Sq];by_cases h:k=j
  ·rw[if_pos h,if_pos h];rfl
  ·rw[if_neg h,if_neg h];rfl
 |(i,ps)::t=>λk p j=>by k_with"o"=>
  have ih:=eA t k p j;unfold Jw at ih ⊢;rw[Kl];by_cases h1:i=k
  ·rw[if_pos h1,Ey,Ey];by_cases h2:i=j
   ·rw[if_pos h2,if_pos h2,if_pos (by rw[<-h1,h2])];rfl
   ·rw[if_neg h2,if_neg h2,if_neg (by rw[<-h1];exact h2)]
  ·rw[if_neg h1,Ey,Ey];by_cases h2:i=j
   ·rw[if_pos h2,if_pos h2,if_neg (by rw[<-h2];exact λq=>h1 q.symm)]
   ·rw[if_neg h2,if_neg h2,ih]
theorem hG (os:A7)(j:Int):∀(l:List (List Int)) (t:Py),Jw (l.foldl (λt k=>Kl t (Gv k) (Mt k,Cn os k)) t) j=Jw t j++(l.filter λkey=>Gv key==j).map λkey=>(Mt key,Cn os key)
 |[]=>λt=>(Au _).symm
 |k::l=>λt=>by k_with"o"=>
  rw[Ec,hG os j l,eA,Hb];by_cases h:Gv k=j
  ·rw[if_pos h,if_pos (by rw[beq_iff_eq];exact h),Aj,Ax];rfl
  ·rw[if_neg h,if_neg (by rw[beq_iff_eq];exact h)]
theorem wY (es:BA)(j:Int):Jw (Nc es) j=[]:=by k_with"o"=>
 unfold Jw;cases h:Ey (Nc es) j with
 |none=>rfl
 |some v=>obtain⟨e,_,q⟩:=Af.mp (Lo h);injection q with _ q;rw[<-q];rfl
theorem wX (es:BA)(os:A7)(ks:List (List Int))(j:Int):Jw (Qt es os (ks.filter (Dd es os))) j=Fn es os ks j:=by k_with"o"=>unfold Qt;rw[hG,wY,Np];rfl
theorem Of (hn:(es.map (·.1)).Nodup){k:Int}:(Be es k).isEmpty=false↔∃e∈es,e.1=k/\e.2.isEmpty=false:=by k_with"o"=>
 unfold Be;constructor
 ·intro h;cases hd:Ey es k with
  |none=>rw[hd] at h;cases h
  |some cs=>rw[hd] at h;exact⟨_,Lo hd,rfl,h⟩
 ·rintro⟨⟨a,b⟩,he,rfl,h⟩;rw[La hn he];exact h
theorem qW {k:Int}:(Fn es os ks k).isEmpty=false↔∃key∈ks.filter (Dd es os),Gv key=k:=by k_with"o"=>
 rw[Np];constructor
 ·intro h;cases hl:(ks.filter (Dd es os)).filter (λkey=>Gv key==k) with
  |nil=>rw[hl] at h;cases h
  |cons x l=>
   have:x∈(ks.filter (Dd es os)).filter (λkey=>Gv key==k):=by rw[hl];exact .head _
   have:=Bb.mp this;exact⟨x,this.1,beq_iff_eq.mp this.2⟩
 ·rintro⟨key,hk,hf⟩;have:key∈(ks.filter (Dd es os)).filter (λkey=>Gv key==k):=Bb.mpr ⟨hk,beq_iff_eq.mpr hf⟩;cases hl:(ks.filter (Dd es os)).filter (λkey=>Gv key==k) with
  |nil=>rw[hl] at this;cases this
  |cons x l=>rfl
theorem Zw (h:Src es os ks ss){k:Int}:ID (Ih es os ks k)=true↔(∃e∈es,e.1=k/\e.2.isEmpty=false)\/∃key∈ks.filter (Dd es os),Gv key=k:=by k_with"o"=>unfold ID;rw[Td,Hq,Hq];show(Bn (Be es k)).isEmpty=false\/(Fn es os ks k).isEmpty=false↔_;rw[Hn,Of h.en,qW]
theorem ne_in (h:Src es os ks ss){k:Int}(hk:ID (Ih es os ks k)=true):k∈ss:=by k_with"o"=>
 rcases(Zw h).mp hk with⟨e,he,hk,_⟩|⟨key,BR,hk⟩
 ·exact(h.so.2 k).mpr (.inl (Af.mpr ⟨e,he,hk⟩))
 ·rw[<-hk];exact h.RX (Bb.mp BR).1
theorem Acf (h:Src es os ks ss)(hW:J7 es os):oE es os (Ei (Dz es os ks ss)):=by k_with"o"=>
 refine⟨hW,λFY P1 EI A1 EU=>?_⟩;obtain rfl:=EI.unique h.ok;congr 1;have MO:P1=ss.filter λk=>ID (Ih es os FY k):=Up (λk=>k) EU (h.so.1.filter _) λk=>by rw[A1.mem_iff,dH,Bb,Zw h];exact⟨λq=>⟨ne_in h ((Zw h).mpr q),q⟩,λq=>q.2⟩
 rw[Iw,MO];refine Fi λk _=>?_;rw[wX];rfl
theorem Ach (h:Src es os ks ss):zG es os (.tup [.tup (Fb es (Dz es os ks ss)),.tup (Fm (Dz es os ks ss))]):=by k_with"o"=>
 intro FY P1 hs EI;obtain rfl:=EI.unique h.ok;have e1:(P1.filter λk=>!(Be es k).isEmpty).map (Li es)=Fb es (Dz es os FY ss):=by
  unfold Fb;rw[Iw,List.filter_map,Ay,Wz];have e:(P1.filter λk=>!(Be es k).isEmpty)=ss.filter λa=>((λx:De=>!x.2.1.isEmpty)∘Ih es os FY) a&&ID (Ih es os FY a):=by
   refine Up (λk=>k) (hs.2.filter _) (h.so.1.filter _) λk=>?_;rw[Bb,Bb,Dg,hs.1.mem_iff];show _↔k∈ss/\(!(Bn (Be es k)).isEmpty)=true/\_;rw[Hn];constructor
   ·rintro⟨h1,h2⟩;refine⟨(h.so.2 k).mpr (.inl h1),h2,?_⟩;unfold ID;rw[Td];left;show(!(Bn (Be es k)).isEmpty)=true;rw[Hn];exact h2
   ·rintro⟨h1,h2,_⟩;rw[Hq] at h2;obtain⟨e,he,rfl,_⟩:=(Of h.en).mp h2;exact⟨Af.mpr ⟨e,he,rfl⟩,by rw[Hq];exact h2⟩
  rw[e];rfl
 have e2:(FY.filter (Dd es os)).map (Ry os)=Fm (Dz es os FY ss):=by
  have e:Fm (Dz es os FY ss)=(Ja (Dz es os FY ss)).map λe=>V.tup [.tup (intsOf e.1),.int e.2]:=by unfold Fm Ja;rw[List.map_flatMap];refine Pu λx _=>?_;unfold fK;rw[Ay];rfl
  rw[e,Tj h,Ay];rfl
 unfold tH;rw[e1,e2]
end
section
structure Jz (es:BA)(os:A7)(ks:List (List Int))(ss:List Int):Prop where
 hI:dD es
 hl:es.length<=4
 hO:Zt os
 FA:os.length<=6
 ok:Qo os ks
 so:Vg es os ss
variable {es:BA}{os:A7}{ks:List (List Int)}{ss:List Int}
theorem Qi:∀k∈Pt,0<=k/\k<=1114111:=by decide
theorem Ra:∀k∈Kq,Gv k∈Pt/\0<=Mt k/\Mt k<=1114111:=by k_with"o"=>decide
theorem Wg:∀v∈Qj,0<=v/\v<=65535:=by decide
theorem Ys (fs:BA)(k:Int):Be fs k=(Ey fs k).getD []:=rfl
theorem kC {cs:List Int}(h:B' cs):oP 1 (Bn cs):=by k_with"o"=>exact(λp hp=>by have:=(Uq h).1.ok p hp;have e:((256^1:Nat):Int)=256:=rfl;rw[e];omega)
namespace Jz
theorem src (h:Jz es os ks ss):Src es os ks ss:=⟨h.hI.nodup,h.hO.pk,h.ok,h.so⟩
theorem sel (h:Jz es os ks ss){k:Int}(hk:k∈ss):k∈Pt:=by k_with"o"=>
 rcases(h.so.2 k).mp hk with hm|⟨e,he,rfl⟩
 ·obtain⟨e,he,rfl⟩:=Af.mp hm;exact h.hI.sel e he
 ·exact(Ra _ (h.hO.key e he)).1
theorem VW (h:Jz es os ks ss):ss.length<=4:=List.Nodup.length_le_of_subset (l₂:=Pt) (Jb (λk=>k) h.so.1) λk hk=>h.sel hk
theorem RY (h:Jz es os ks ss):ks.length<=6:=by k_with"o"=>have:=h.ok.1.length_eq;rw[Ac] at this;have:=h.FA;omega
theorem asc (h:Jz es os ks ss)(k:Int):B' (Be es k):=by k_with"o"=>
 unfold Be;cases hd:Ey es k with
 |none=>exact⟨.nil,λk hk=>(nomatch hk),Ca _⟩
 |some cs=>exact h.hI.asc _ (Lo hd)
theorem JF (h:Jz es os ks ss)(k:List Int):0<=Cn os k/\Cn os k<=65535:=by k_with"o"=>
 unfold Cn;cases hd:Ey os k with
 |none=>decide
 |some v=>exact Wg _ (h.hO.val _ (Lo hd))
theorem key (h:Jz es os ks ss){k:List Int}(hk:k∈ks):k∈Kq:=by k_with"o"=>obtain⟨e,he,rfl⟩:=Af.mp (h.ok.1.mem_iff.mp hk);exact h.hO.key e he
theorem rowAt (h:Jz es os ks ss)(k:Int):Ta (Fn es os ks k):=by k_with"o"=>
 rw[Np];refine⟨λq hq=>?_,Lx.mpr ?_⟩
 ·obtain⟨key,hk,rfl⟩:=Af.mp hq;have h1:=(Ra _ (h.key (Bb.mp (Bb.mp hk).1).1)).2;exact⟨h1.1,h1.2,(h.JF key).1,(h.JF key).2⟩
 ·refine((h.ok.2.filter _).filter _).imp_of_mem λ{a b} ha hb O'=>?_;rw[Bb,beq_iff_eq] at ha hb;obtain⟨a1,b1,rfl,h1,h2,h3⟩:=h.src.NL (Bb.mp ha.1).1;obtain⟨a2,b2,rfl,g1,g2,g3⟩:=h.src.NL (Bb.mp hb.1).1;have e1:a1=k:=ha.2;have e2:a2=k:=hb.2;have e3:a1*16777216+b1<a2*16777216+b2:=O';show b1<b2;omega
theorem M9 (h:Jz es os ks ss){k:Int}(hk:k∈ss):Yz (Ih es os ks k):=by k_with"o"=>exact(⟨Qi k (h.sel hk),(Uq (h.asc k)).1,h.rowAt k,Aa (Iz _) (h.asc k).2.2,Aa lT (Aa h.RY (by decide))⟩)
theorem M6 (h:Jz es os ks ss):Uj (Dz es os ks ss):=by k_with"o"=>
 have ho:=Tj h.src;refine⟨⟨λx hx=>?_,?_⟩,?_,?_,λx hx=>?_⟩
 ·rw[Iw] at hx;obtain⟨k,hk,rfl⟩:=Af.mp hx;exact h.M9 (Bb.mp hk).1
 ·rw[Iw];exact Lx.mpr (h.so.1.filter _)
 ·rw[Iw,Ac];exact Aa (Bz ..) (Aa h.VW (by decide))
 ·rw[ho,Ac];exact Aa (Bz ..) (Aa h.RY (by decide))
 ·rw[Iw] at hx;obtain⟨k,hk,rfl⟩:=Af.mp hx;have h2:=(Bb.mp hk).2;unfold ID at h2;rw[Td,Hq,Hq] at h2;exact h2.imp (λq z=>by rw[z] at q;cases q) (λq z=>by rw[z] at q;cases q)
theorem YF (h:Jz es os ks ss):J7 es os:=by k_with"o"=>
 refine⟨h.hI.nodup,Aa h.hl (by decide),λe he=>?_,h.hO.nodup,Aa h.FA (by decide),λe he=>?_⟩
 ·have h1:=Qi _ (h.hI.sel e he);have h2:=h.hI.asc e he;exact⟨h1.1,by omega,h2.2.2,kC h2⟩
 ·have h1:=Ra _ (h.hO.key e he);have h2:=Qi _ h1.1;have h3:=Wg _ (h.hO.val e he);exact⟨Uv (h.hO.key e he),by omega,h3.1,by omega⟩
theorem CZ (h:Jz es os ks ss):Mv (Dz es os ks ss)=(ss.filter λk=>!(Be es k).isEmpty).map λk=>(k,Be es k):=by k_with"o"=>
 unfold Mv Dz;rw[Ri,List.flatMap_map]
 ·have hh:∀l:List Int,(l.flatMap λk=>Zh (Ih es os ks k))=(l.filter λk=>!(Be es k).isEmpty).map λk=>(k,Be es k):=λl=>by
   induction l with
   |nil=>rfl
   |cons k l ih=>rw[Cp,ih,Hb];unfold Zh;show(if (Bn (Be es k)).isEmpty then [] else [(k,expand (Bn (Be es k)))])++_=_;rw[Hn,(Uq (h.asc k)).2];cases (Be es k).isEmpty<;>rfl
  exact hh ss
 ·intro x _ hx;rw[Un,Pm,Pm] at hx;unfold Zh;rw[if_pos hx.1]
theorem CK (h:Jz es os ks ss)(k:Int):Be (Mv (Dz es os ks ss)) k=Be es k:=by k_with"o"=>
 have hn:((Mv (Dz es os ks ss)).map (·.1)).Nodup:=by rw[h.CZ,Ay];show(List.map (λk=>k) _).Nodup;rw[Zd];exact Jb (λk=>k) (h.so.1.filter _)
 rw[h.CZ] at hn ⊢;by_cases hk:k∈ss.filter λk=>!(Be es k).isEmpty
 ·rw[Ys _ k];rw[La hn (v:=Be es k) (Af.mpr ⟨k,hk,rfl⟩)];rfl
 ·rw[Ys _ k];rw[Nt.mpr λq=>by rw[Ay] at q;obtain⟨j,hj,q⟩:=Af.mp q;have q:j=k:=q;rw[q] at hj;exact hk hj];show[]=_;cases hc:(Be es k).isEmpty with
  |true=>exact(Ha.mp hc).symm
  |false=>obtain⟨e,he,rfl,_⟩:=(Of h.hI.nodup).mp hc;exact absurd (Bb.mpr ⟨(h.so.2 _).mpr (.inl (Af.mpr ⟨e,he,rfl⟩)),by rw[hc];rfl⟩) hk
theorem D1 (h:Jz es os ks ss){k:List Int}(hk:k∈ks.filter (Dd es os)):Cn (Ja (Dz es os ks ss)) k=Cn os k:=by k_with"o"=>
 rw[Tj h.src]
 conv=>lhs;unfold Cn
 rw[La (v:=Cn os k) ?_ (Af.mpr ⟨k,hk,rfl⟩)]
 ·rfl
 ·rw[Ay];show(List.map (λk=>k) _).Nodup;rw[Zd];exact Jb Rh (h.ok.2.filter _)
theorem HM (h:Jz es os ks ss){k:List Int}(hk:k∈ks.filter (Dd es os)):Dd (Mv (Dz es os ks ss)) (Ja (Dz es os ks ss)) k=true:=by k_with"o"=>unfold Dd;rw[h.D1 hk,h.CK];exact(Bb.mp hk).2
theorem HH (h:Jz es os ks ss)(k:Int):Ih (Mv (Dz es os ks ss)) (Ja (Dz es os ks ss)) (ks.filter (Dd es os)) k=Ih es os ks k:=by k_with"o"=>unfold Ih;rw[h.CK,Np,Np,List.filter_eq_self.mpr λkey hk=>h.HM hk];congr 2;exact Fi λkey hk=>by rw[h.D1 (Bb.mp hk).1]
theorem EB (h:Jz es os ks ss):Dz (Mv (Dz es os ks ss)) (Ja (Dz es os ks ss)) (ks.filter (Dd es os)) (ss.filter λk=>ID (Ih es os ks k))=Dz es os ks ss:=by k_with"o"=>rw[Iw (Mv _),Iw es,<-Iw es];rw[show Ih (Mv (Dz es os ks ss)) (Ja (Dz es os ks ss)) (ks.filter (Dd es os))=Ih es os ks from funext h.HH];congr 1;rw[Wz];simp only[Bool.and_self];exact(Iw es os ks ss).symm
theorem IM (h:Jz es os ks ss):Src (Mv (Dz es os ks ss)) (Ja (Dz es os ks ss)) (ks.filter (Dd es os)) (ss.filter λk=>ID (Ih es os ks k)):=by k_with"o"=>
 have e1:(Mv (Dz es os ks ss)).map (·.1)=ss.filter λk=>!(Be es k).isEmpty:=by rw[h.CZ,Ay];exact Zd _
 have e2:(Ja (Dz es os ks ss)).map (·.1)=ks.filter (Dd es os):=by rw[Tj h.src,Ay];exact Zd _
 refine⟨?_,λe he=>?_,⟨?_,h.ok.2.filter _⟩,h.so.1.filter _,λk=>?_⟩
 ·rw[e1];exact Jb (λk=>k) (h.so.1.filter _)
 ·have:e.1∈ks.filter (Dd es os):=by rw[<-e2];exact Af.mpr ⟨e,he,rfl⟩
  exact h.src.NL (Bb.mp this).1
 ·rw[e2]
 ·rw[Bb,Zw h.src,e1,Bb,Hq,Of h.hI.nodup];have e3:(∃e∈Ja (Dz es os ks ss),Gv e.1=k)↔∃key∈ks.filter (Dd es os),Gv key=k:=by
   rw[<-e2];constructor
   ·rintro⟨e,he,q⟩;exact⟨e.1,Af.mpr ⟨e,he,rfl⟩,q⟩
   ·rintro⟨key,hk,q⟩;obtain⟨e,he,rfl⟩:=Af.mp hk;exact⟨e,he,q⟩
  rw[e3];constructor
  ·rintro⟨h1,h2|h2⟩
   ·exact .inl ⟨h1,h2⟩
   ·exact .inr h2
  ·rintro(⟨h1,h2⟩|h2)
   ·exact⟨h1,.inl h2⟩
   ·obtain⟨key,hk,q⟩:=h2;refine⟨?_,.inr ⟨key,hk,q⟩⟩;rw[<-q];exact h.src.RX (Bb.mp hk).1
theorem Q0 (h:Jz es os ks ss):J7 (Mv (Dz es os ks ss)) (Ja (Dz es os ks ss)):=by k_with"o"=>
 refine⟨h.IM.en,?_,λe he=>?_,h.IM.on,?_,λe he=>?_⟩
 ·rw[h.CZ,Ac];exact Aa (Bz ..) (Aa h.VW (by decide))
 ·rw[h.CZ] at he;obtain⟨k,hk,rfl⟩:=Af.mp he;have h1:=Qi k (h.sel (Bb.mp hk).1);exact⟨h1.1,by dsimp only;omega,(h.asc k).2.2,kC (h.asc k)⟩
 ·rw[Tj h.src,Ac];exact Aa (Bz ..) (Aa h.RY (by decide))
 ·rw[Tj h.src] at he;obtain⟨k,hk,rfl⟩:=Af.mp he;have h0:=h.key (Bb.mp hk).1;have h1:=Qi _ (Ra _ h0).1;have h2:=h.JF k;exact⟨Uv h0,by dsimp only;omega,h2.1,by dsimp only;omega⟩
end Jz
theorem Acn (hI:dD es)(hl:es.length<=4)(hO:Zt os)(FA:os.length<=6)(ok:Qo os ks)(so:Vg es os ss):Aaa es os (Dz es os ks ss):=by k_with"o"=>
 have h:Jz es os ks ss:=⟨hI,hl,hO,FA,ok,so⟩;have ht:=h.M6;refine⟨ht.len,λx hx=>?_,λx hx BK=>?_,Acf h.src h.YF,Ach h.src,λlead JY=>?_,λm hm=>Aa6 ht hm,Abg ht⟩
 ·have hx:=ht.ok x hx;exact⟨hx.rl,hx.gl,hx.sel.1,λp hp=>⟨(hx.AY.ok p hp).1,(hx.AY.ok p hp).2.1⟩,λp hp=>⟨(hx.JF.ok p hp).1,(hx.JF.ok p hp).2.2.1⟩⟩
 ·rw[Iw] at hx;obtain⟨k,hk,rfl⟩:=Af.mp hx;have hc:(Be es k).isEmpty=false:=by
   rw[<-Hn];cases hr:Bn (Be es k) with
   |nil=>exact absurd hr BK
   |cons=>rfl
  obtain⟨e,he,rfl,_⟩:=(Of hI.nodup).mp hc;exact Af.mpr ⟨e,he,rfl⟩
 ·refine⟨_,_,tM ht,?_,?_⟩
  ·have:=Acf h.IM h.Q0;rw[h.EB] at this;exact this
  ·have:=Ach h.IM;rw[h.EB] at this;have e:Fb (Mv (Dz es os ks ss)) (Dz es os ks ss)=Fb es (Dz es os ks ss):=by unfold Fb Li;exact Fi λx _=>by rw[h.CK]
   rw[e] at this;exact this
end
section
open Cl
noncomputable abbrev Γ0:PySem.Ctx:=⟨.builtin "claim.caller" {},none,none,[],none⟩
theorem Aa8:qP Γ0:=by k_with"o"=>exact(⟨by decide,λx hx=>(nomatch hx)⟩)
theorem eY {t:Sem Fin}{R:Result->Shared->Prop}(SW:s.asleep)
  (h:AI (model U w) callerA t (λfin s'=>∃f,fin=.done f/\R (.ok f) s'/\s'.gens=#[]) (λe s'=>R (.error e) s'/\s'.gens=#[]) s) :
  ∃n r s' C3,PySem.runN (denote table) U w n s ⟨t,.builtin "claim.caller" {},default,[]⟩=.halted (outcomeOf r) s'/\
   schedN (denote table) U w n (.single s ⟨t,.builtin "claim.caller" {},default,[]⟩)=.halted (outcomeOf r) s'/\s'.forget=C3.forget/\R r C3:=by k_with"o"=>
 have nc:∀s':Shared,s'.gens=#[]->leftWithCleanup s'.gens=false:=λs' e=>leftWithCleanup_false_of_bare (AllBare.of_eq e);obtain⟨n,r,s₁,s₂,hs,hn,T',hR⟩:=wp_halts_full (M:=model U w) (R:=R) (c:=.builtin "claim.caller" {}) (p:=default) SW
  (Sem.wp_mono (model U w) Γ0 t (λfin p' s' ⟨f,e,h1,h2⟩=>by subst e;exact⟨h1,nc _ h2⟩) (λ_ _ s' ⟨h1,h2⟩=>⟨h1,nc _ h2⟩) default s (h Γ0 default caller_in Aa8))
 exact⟨n,r,s₂,s₁,hn,hs,T',hR⟩
noncomputable abbrev T0 (s:Shared):Ez:={B:=s.heap,s0:=s,CT:=61,mg:=s.heap.nsMap mainGlobals,mb:=s.heap.nsMap builtinsNs,K:=L3 s.heap}
noncomputable abbrev Od (vals:List Value):Obj:={cls:=.type "list",data:=.seq vals.toArray}
theorem yK (P:PY U w (T0 s))(hg:s.gens=#[]){xs:List Int}(IE:xs.length<=63){vals:List Value}{tk:Tok}(hv:∀h,AG h (intsOf xs) vals) :
  AI (model U w) callerA (PySem.call (.ref 440) [.ref s.heap.objs.size]) (λv s'=>v=.bool true/\s'.os=s.os/\s'.gens=#[]/\∀b o,(s.heap.push (Od vals)).get? b=some o->s'.heap.get? b=some o) (λ_ _=>False)
   {s with heap:=s.heap.push (Od vals),toks:=tk}:=by k_with"o"=>
 have BP:(s.heap.push (Od vals)).get? s.heap.objs.size=some (Od vals):=As s.heap rfl;have LR:Ya U w (T0 s) [] {s with heap:=s.heap.push (Od vals),toks:=tk} [(s.heap.objs.size,.fz (Od vals) (.list (intsOf xs)))]:=by
  refine⟨⟨⟨_,_,rfl⟩,λb o e=>Ad _ e,?_⟩,λenv he=>(nomatch he),λp hp=>?_,Ap.mpr ⟨Df,Ly⟩,λp hp=>?_⟩
  ·show s.heap.objs.size<=(s.heap.objs.push _).size;rw[Nn];exact Cb _
  ·rw[Ae.mp hp];exact⟨BP,vals,0,BP,hv _⟩
  ·rw[Ae.mp hp];exact Ah _
 refine Lh (Kx (Aaw P (lev:=0) (X:=λ_=>False) IE (λes os ks ss h1 h2 h3 h4 h5 h6=>Acn h1 h2 h3 h4 h5 h6) callerA [] _ _ rfl rfl (by decide) (by decide) rfl LR (.cons (.ref _) .nil)) λr s' h=>?_);cases r with
 |error x=>obtain⟨_,_,_,hx,_⟩:=h.FI;exact hx
 |ok fl=>
  cases fl with
  |ret v=>
   obtain⟨d,l',rv,L,S,rfl,rfl⟩:=h;cases rv;obtain⟨h',M5,e⟩:=L.AH.hs;refine⟨rfl,by rw[e],by rw[e];exact hg,λb o ho=>?_⟩;by_cases hb:b=s.heap.objs.size
   ·subst hb;rw[BP] at ho;injection ho with ho;subst ho;exact(L.led _ (.head _)).1
   ·rcases Heap.get?_push_cases ho with q|q
    ·exact absurd q.1 hb
    ·exact L.AH.stays b o q
  |_=>exact h
theorem iW {R:WRecords}{cl:Str->Option Addr}{P:Params}{ord:List DictEntry->List DictEntry}:∀(xs:List Int) (s:Shared),∃vals tk,layAllW R cl P ord (xs.map .int) s=some (vals,{s with toks:=tk})/\∀h,AG h (intsOf xs) vals
 |[],s=>⟨[],s.toks,rfl,λ_=>.nil⟩
 |x::xs,s=>by k_with"o"=>obtain⟨vals,tk,h1,h2⟩:=iW xs {s with toks:=s.toks+1};refine⟨.int x s.toks::vals,tk,?_,λh=>.cons (.int ..) (h2 h)⟩;rw[Aj,layAllW,layW];dsimp only;rw[h1]
noncomputable abbrev rW:RowW:=PySem.Challenge.rw_nu0177_01.row.toRowW
theorem xH {ds:List WData}(h:WTm.holds [] rW.pre {args:=[.list ds]}=true):ds.length<=63:=by k_with"o"=>
 have h2:(WTm.and (.not (.lt (.lit (.int 63)) (.len (.arg 0)))) (.lit (.bool true))).holds [] {args:=[.list ds]}=true:=h;simp[WTm.holds,WTm.value] at h2;rw[show less? (.int 63) (.int (ds.length:Int))=some (decide ((63:Int)<ds.length)) from rfl] at h2;by_cases hq:(63:Int)<ds.length
 ·rw[decide_eq_true hq] at h2;cases h2
 ·omega
theorem yO {args:List WData}(h:rW.claim.pre args=true):∃xs:List Int,args=[.list (xs.map .int)]/\xs.length<=63:=by k_with"o"=>
 obtain⟨h1,h2⟩:=pre_splitW h;have h1:WShape.hasAll [] args [.list .int]=true:=h1
 match args,h1 with
 |[d],h1=>have h1:(WShape.has [] d (.list .int)&&true)=true:=h1;rw[Bool.and_true] at h1;obtain⟨ds,rfl,h3⟩:=hasW_list h1;obtain⟨xs,rfl⟩:=items_int h3;exact⟨xs,rfl,by have:=xH h2;rwa[Ac] at this⟩
 |[],h1=>cases h1
 |_::_::_,h1=>have h1:(_&&false)=true:=h1;rw[Uo] at h1;cases h1
theorem yN:rW.prog.bare:=by k_with"o"=>exact(⟨rfl,rfl,rfl,rfl,rfl,by decide +kernel⟩)
theorem uJ:(frees rW&&rW.within.isEmpty)=true:=by decide +kernel
theorem tV:opensWell rW.prog=true:=by decide +kernel
theorem eE:chainsOk QV=true:=by decide +kernel
theorem Yj:rW.promised:=by k_with"o"=>exact(⟨[.list []],by decide +kernel,by decide +kernel⟩)
theorem qT {args:List WData}:rW.claim.post args (.bool true) args=true:=by k_with"o"=>exact(postC_of (X:=true) rfl (by
 show(WTm.eq .res (.lit (.bool true))).value [] {args:=args,res:=some (.bool true),after:=args}=some (.bool true);simp[WTm.value,PySem.W.same]) rfl)
theorem qX {N:Nat}(left:LeftO PySem.Challenge.pw_nu0177_01 QV uB (λ_=>true) (λs=>(dN PySem.Challenge.pw_nu0177_01.main.file s.heap,pF s.heap)) (λ_=>(true,yF)) N)
  (Q6:PySem.Challenge.rw_nu0177_01.row.wellSaid=true):PySem.Challenge.rw_nu0177_01.row.Holds:=by k_with"o"=>
 obtain⟨k5,k6⟩:=Bp.mp uJ;obtain⟨NY,hu,ha,ck,hm⟩:=frees_parts k5;have hi:=ident_freeW hu ha ck;have Y9:rW.claim.within=[]:=Ha.mp k6;refine⟨Q6,Yj,⟨yN,tV,rfl⟩,Yj.witness,λw=>⟨(left.behind (XP:=λ_ _=>True) (λ_ _=>trivial) eE w).1,λs' CA=>?_⟩⟩;obtain⟨s₀,hf,au,s,hT,hz,FD,hg,G,y⟩:=(left.behind (XP:=λ_ _=>True) (λ_ _=>trivial) eE w).2 s' CA;have FD:s.gens=#[]:=Array.eq_empty_of_size_eq_zero (beq_iff_eq.mp FD);obtain⟨y1,y2⟩:=Prod.mk.inj y;have T9:mainGlobals<s.heap.objs.size:=by obtain⟨o,_,_,e,_⟩:=G.T.g;exact Am e
 have TO:(T0 s).Ok rW.prog w:=⟨G.T.g,G.T.b,G.T.builtins,G.T.nolimit,G.low,T9,Aa2 _⟩;have P:PY rW.prog w (T0 s):=Ack TO rfl rfl rfl y1 y2 (by decide +kernel);refine⟨s₀,hf,au,s,hT,λn hn=>?_,λx hx=>(nomatch hx),λx hx=>(nomatch hx),λargs TA H4 ord N2=>?_⟩
 ·obtain rfl:n=PySem.Challenge.rw_nu0177_01.row.name:=Ae.mp hn;exact pinned_of_view hg G rfl rfl rfl
 ·obtain⟨xs,rfl,IE⟩:=yO TA;obtain⟨vals,tk,hl,hv⟩:=iW (R:=[]) (cl:=classAt s.heap) (P:=w.params) (ord:=ord) xs s;have E9:layAllW rW.claim.records (classAt s.heap) w.params ord [.list (xs.map .int)] s=some ([.ref s.heap.objs.size],{s with heap:=s.heap.push (Od vals),toks:=tk}):=by show layAllW [] _ _ _ _ _=_;rw[layAllW,layW];dsimp only;rw[hl];rfl
  have QP:=layAllW_rest _ _ _ E9;have keeps:=layAllW_keeps _ _ _ E9;obtain⟨as,DY,AE,hold⟩:=reads_layAllW N2 _ _ _ E9 H4 _ (λ_ _ e=>e);have L:Laid rW.claim.records w s {s with heap:=s.heap.push (Od vals),toks:=tk} [.list (xs.map .int)] [.ref s.heap.objs.size] as:=⟨⟨ord,N2,E9⟩,DY,AE,hold,keeps,QP.1.trans FD,QP.2.2.1⟩;have hc:=yK P FD IE (tk:=tk) hv;have N8:({s with heap:=s.heap.push (Od vals),toks:=tk}:Shared).heap.Ns mainGlobals (s.heap.nsMap mainGlobals):=G.T.g.keeps keeps;obtain⟨k,r,s1,s2,AB,K2,T',rfl,JU,GN,GY⟩:=eY (U:=rW.prog) (w:=w) (t:=do match <-nsGet mainNs PySem.Challenge.rw_nu0177_01.row.name with
     |some f=>do ret (<-PySem.call f [.ref s.heap.objs.size])
     |none=>unsupported "claim.caller:no-such-global")
   (R:=λr s2=>r=.ok (.ret (.bool true))/\s2.os=s.os/\(∀b o,(s.heap.push (Od vals)).get? b=some o->s2.heap.get? b=some o)/\s2.gens=#[]) (Shared.asleep_of_life QP.2.2.2 hz)
   (Cj (Fg (wpAny_nsGet N8 (by
    rw[show s.heap.nsMap mainGlobals PySem.Challenge.rw_nu0177_01.row.name=some (.ref 440) from tL y1];exact Cj (Br hc (λv s2 ⟨h1,h2,h3,h4⟩=>Di ⟨_,rfl,⟨by rw[h1],h2,h4,h3⟩,h3⟩) λ_ _ x=>x.elim)))))
  have good:GoodWG rW.claim (classAt s.heap) (ExcName.means s.heap) [.list (xs.map .int)] {s with heap:=s.heap.push (Od vals),toks:=tk} (.ok (.ret (.bool true))) s2:=
   ⟨.inl ⟨.bool true,.bool true,[],rfl,λcls=>rfl,.bool true,qT,λ_=>⟨Ly,λa ha=>(nomatch ha)⟩⟩,.of_keep GN,JU,AllBare.of_eq GY⟩
  have z:=good.laid (c:=rW.claim) NY Y9 hi L;obtain⟨eh,_,_,eo,_⟩:=Shared.forget_eq T';have O1:=z.1.congr eh;have JU:=z.2.1;rw[<-eo] at JU;have N9:s1.heap.life=s.heap.life:=(runN_life _ _ _ AB).trans QP.2.2.2;refine⟨_,_,E9,k,_,s1,K2,?_,(λ_ i x hx=>by rw[FD] at hx;simp at hx),λq=>(nomatch q),by rw[N9],Shared.rest_eq JU⟩;rcases O1 with⟨v,e,d1,d2,d3,d4,d5⟩|⟨e,ob,cls,q,_⟩
  ·injection e with e;injection e with e;subst e;exact .inl ⟨_,rfl,d1,d2,d3,λb o y _=>d4 b o y,d5⟩
  ·cases q
end
end Nu
theorem PySem.Challenge.cw_nu0177_01_holds : PySem.Challenge.rw_nu0177_01.Holds :=
 holds_law Nu.xB λs=>Nu.qX Nu.xS s
