import PyProof.Rows.All
import Wide.All
import OpenK.AllK
import Wide.FinOn
import KE.KRevSl
import KE.KSortTup
import Lean
import PySem.Challenge.RW_rr0106_03
set_option linter.unusedVariables false
set_option linter.unusedSimpArgs false
set_option genInjectivity false
set_option genCtorIdx false
set_option bootstrap.genMatcherCode false
set_option genSizeOf false
set_option genSizeOfSpec false
namespace Mine.Internal
open PySem PySem.W PyProof.Rows
inductive AV where
 | none
 | bool (b:Bool)
 | int (i:Int)
 | str (c:Nat)
 | tup (l:List AV)
 | lst (l:List AV)
 | dct (l:List (Nat×AV))
 | loc (n:Nat)
 | slate
 | opener
 | rng (n:Int)
 | zp (l:List AV)
inductive LO where
 | lst (l:List AV)
 | dct (l:List (Nat×AV))
noncomputable def LO.av:LO→AV
 | .lst l=>.lst l
 | .dct l=>.dct l
structure GS where
 spot:Int
 spent:Int
 height:Int
 peak:Int
 count:Int
structure St where
 ρ:List (Nat×AV)
 lh:List (LO×Bool)
 g:GS
set_option genCtorIdx true in
inductive BOp where
 | add | sub | mul | mod
set_option genCtorIdx true in
inductive COp where
 | eq | ne | lt | gt | isin | notin | isNone
 deriving DecidableEq
def Fn:Type:=Nat
noncomputable def Fn.draw:Fn:=(0:Nat)
noncomputable def Fn.atoms:Fn:=(1:Nat)
noncomputable def Fn.leaf:Fn:=(2:Nat)
noncomputable def Fn.arrow:Fn:=(3:Nat)
noncomputable def Fn.tuples:Fn:=(4:Nat)
noncomputable def Fn.value:Fn:=(5:Nat)
noncomputable def Fn.fits:Fn:=(6:Nat)
noncomputable def Fn.watched:Fn:=(7:Nat)
noncomputable def Fn.beside:Fn:=(8:Nat)
noncomputable def Fn.read:Fn:=(9:Nat)
noncomputable def Fn.holds:Fn:=(10:Nat)
noncomputable def Fn.bound:Fn:=(11:Nat)
noncomputable def Fn.right:Fn:=(12:Nat)
noncomputable def Fn.leaves:Fn:=(13:Nat)
noncomputable def Fn.allOf:Fn:=(14:Nat)
noncomputable def Fn.mMarked:Fn:=(15:Nat)
noncomputable def Fn.mExpr:Fn:=(16:Nat)
noncomputable def Fn.mSpend:Fn:=(17:Nat)
noncomputable def Fn.mExprOf:Fn:=(18:Nat)
noncomputable def Fn.mUsed:Fn:=(19:Nat)
noncomputable def Fn.mWanted:Fn:=(20:Nat)
noncomputable def Fn.mIsMarked:Fn:=(21:Nat)
noncomputable def Fn.mSide:Fn:=(22:Nat)
noncomputable def Fn.mEachOf:Fn:=(23:Nat)
noncomputable def Fn.mGuarded:Fn:=(24:Nat)
noncomputable def Fn.mArity:Fn:=(25:Nat)
noncomputable def Fn.mFresh:Fn:=(26:Nat)
set_option genCtorIdx true in
inductive Bi where
 | int | len | sorted | list | tuple | sum | max | sortedSet | lenSet
inductive Tgt where
 | v (x:Nat)
 | t (xs:List Nat)
inductive PE where
 | var (x:Nat)
 | glb (k:Nat)
 | none_ | bool (b:Bool) | int (i:Int) | str (c:Nat)
 | tup (es:List PE)
 | lst (es:List PE)
 | dict (ks:List Nat) (vs:List PE)
 | dictW (b k v:PE)
 | bin (op:BOp) (a b:PE)
 | neg (a:PE)
 | not (a:PE)
 | boolop (isAnd:Bool) (es:List PE)
 | cmp (op:COp) (a b:PE)
 | call (f:Fn) (args:List PE)
 | meth (f:Fn) (o:PE) (args:List PE)
 | bi (b:Bi) (args:List PE)
 | getD (o k d:PE)
 | attr (o:PE) (a:Nat)
 | sub (o i:PE)
 | slice (o lo hi:PE)
 | rev (o:PE)
 | ite (c a b:PE)
 | comp (elt:PE) (t:Tgt) (it cond:PE)
 | comp2 (elt:PE) (t1:Tgt) (it1:PE) (t2:Tgt) (it2 cond:PE)
 | fstr (a b:PE)
 | range (a:PE)
 | zip (a b:PE)
 | bad
inductive PS where
 | asg (t:Tgt) (e:PE)
 | asgT (xs:List Nat) (es:List PE)
 | setItem (x:Nat) (k:Nat) (e:PE)
 | setAttr (o:PE) (a:Nat) (e:PE)
 | expr (e:PE)
 | app (x:Nat) (e:PE)
 | ext (x:Nat) (e:PE)
 | ret (e:PE)
 | ite (c:PE) (a b:List PS)
 | for_ (t:Tgt) (it:PE) (body:List PS)
 | tryf (body fin:List PS)
 | stop
set_option genCtorIdx true in
inductive Fl where
 | next
 | ret (v:AV)
noncomputable def TX:List String:=["","set","one","lone","some","name","arrow","tuples","var","univ","product","join","all","and","true","in","implies","A","B","v","R","u","w","cells","spot","each","ABvR",
 "none","un","compr","if","let","iden","rel","turn","closure","star","comp","ahead","either","box","bin",
 "num","count","plus","less","times","sum","choose","false","not","or","iff","same","no","exists","le","lt","eq","truth","number"]
noncomputable def VX:List String:=["slate","wide","spot","many","begin","k","floors","some","lap","left","node","sets","right","found","a","b","mark","is_left","one","other","rest","t","side","expr","known","told","name","inner","opener","env","value","rows","sides","names","script","cell","self","nodes","levels","before","op","guard","row","head","form","is_number","mult","formulas","formula","leaf","v"]
noncomputable def txt (c:Nat):Str:=if c<1000 then Str.ofString (TX.getD c "") else Str.ofString "each'"++Str.ofString (toString (c - 1000))
noncomputable def okc (c:Nat):Bool:=Nat.blt c TX.length||Nat.ble 1000 c
noncomputable def vname (x:Nat):Str:=Str.ofString (VX.getD x "")
noncomputable def cap:Nat:=2 ^ 20
noncomputable def small (n:Nat):Bool:=Nat.ble n cap
noncomputable def asInt:AV→Option Int
 | .int i=>some i
 | _=>none
noncomputable def asStr:AV→Option Nat
 | .str c=>some c
 | _=>none
noncomputable def asBool:AV→Option Bool
 | .bool b=>some b
 | _=>none
noncomputable def asTup:AV→Option (List AV)
 | .tup l=>some l
 | _=>none
noncomputable def lstOf:AV→Option (List AV)
 | .lst m=>some m
 | _=>none
noncomputable def asDct:AV→Option (List (Nat×AV))
 | .dct m=>some m
 | _=>none
noncomputable def asLoc:AV→Option Nat
 | .loc n=>some n
 | _=>none
noncomputable def isSl:AV→Bool
 | .slate=>true
 | _=>false
noncomputable def isOp:AV→Bool
 | .opener=>true
 | _=>false
noncomputable def lasting:AV→Bool
 | .rng _=>false
 | .zp _=>false
 | _=>true
noncomputable def loL:LO→Option (List AV)
 | .lst l=>some l
 | _=>none
noncomputable def loD:LO→Option (List (Nat×AV))
 | .dct l=>some l
 | _=>none
noncomputable def one {β:Type} (vs:List AV) (f:AV→Option β):Option β:=match vs with
 | [v]=>f v
 | _=>none
noncomputable def two {β:Type} (vs:List AV) (f:AV→AV→Option β):Option β:=match vs with
 | [v,w]=>f v w
 | _=>none
noncomputable def dget:List (Nat×AV)→Nat→Option AV
 | [],_=>none
 | (k,v)::r,c=>cond (Nat.beq k c) (some v) (dget r c)
noncomputable def dput:List (Nat×AV)→Nat→AV→List (Nat×AV)
 | [],c,v=>[(c,v)]
 | (k,w)::r,c,v=>cond (Nat.beq k c) ((k,v)::r) ((k,w)::dput r c v)
noncomputable def intsOf:List AV→Option (List Int)
 | []=>some []
 | v::r=>(asInt v).bind fun i=>(intsOf r).map (i::·)
noncomputable def rowOf (v:AV):Option (List Int):=(asTup v).bind intsOf
noncomputable def rowsOf:List AV→Option (List (List Int))
 | []=>some []
 | v::r=>(rowOf v).bind fun x=>(rowsOf r).map (x::·)
noncomputable def strsOf:List AV→Option (List Nat)
 | []=>some []
 | v::r=>(asStr v).bind fun c=>(strsOf r).map (c::·)
noncomputable def rowAV (l:List Int):AV:=.tup (l.map .int)
noncomputable def listOf (lh:List (LO×Bool)) (v:AV):Option (List AV):=(asLoc v).elim (lstOf v) fun n=>(lh[n]?).bind fun p=>loL p.1
noncomputable def dicOf (lh:List (LO×Bool)) (v:AV):Option (List (Nat×AV)):=(asLoc v).elim (asDct v) fun n=>(lh[n]?).bind fun p=>loD p.1
noncomputable def freeze (lh:List (LO×Bool)) (v:AV):Option (AV×List (LO×Bool)):=(asLoc v).elim (cond (lasting v) (some (v,lh)) none) fun n=>(lh[n]?).map fun p=>(p.1.av,lh.set n (p.1,true))
noncomputable def itemsOf:AV→Option (List AV)
 | .tup l=>some l
 | .rng n=>some ((List.range n.toNat).map fun (i:Nat)=>AV.int (i:Int))
 | .zp l=>some l
 | .lst l=>some l
 | _=>none
noncomputable def isZp:AV→Bool
 | .zp _=>true
 | _=>false
noncomputable def isV:Tgt→Bool
 | .v _=>true
 | .t _=>false
noncomputable def itemsOfT (t:Tgt) (v:AV):Option (List AV):=cond (isV t&&isZp v) none (itemsOf v)
noncomputable def rowLt:List Int→List Int→Bool
 | [],[]=>false
 | [],_::_=>true
 | _::_,[]=>false
 | a::r,b::q=>if a=b then rowLt r q else decide (a<b)
noncomputable def insRow (x:List Int):List (List Int)→List (List Int)
 | []=>[x]
 | y::r=>if rowLt x y then x::y::r else y::insRow x r
noncomputable def sortRows:List (List Int)→List (List Int)
 | []=>[]
 | x::r=>insRow x (sortRows r)
noncomputable def dedup {α:Type} [BEq α]:List α→List α
 | []=>[]
 | x::r=>if (dedup r).elem x then dedup r else x::dedup r
noncomputable def seqIdx (n:Nat) (i:Int):Option Nat:=seqIndex? i n
noncomputable def cutL {α:Type} (l:List α) (lo hi:Option Int):List α :=
 (l.drop (lo.elim 0 (clipAt l.length))).take (hi.elim l.length (clipAt l.length) - lo.elim 0 (clipAt l.length))
noncomputable def isNone:AV→Bool
 | .none=>true
 | _=>false
noncomputable def optInt (v:AV):Option (Option Int):=cond (isNone v) (some none) ((asInt v).map some)
noncomputable def bigOk (i:Int):Bool:=decide (-(2 ^ 62)<i∧i<2 ^ 62)
noncomputable def int2 {β:Type} (x y:AV) (f:Int→Int→Option β):Option β:=(asInt x).bind fun i=>(asInt y).bind fun j=>f i j
noncomputable def eqL (x y:List AV):Option Bool:=cond y.isEmpty (some x.isEmpty) (cond x.isEmpty (some false) none)
noncomputable def eqV (lh:List (LO×Bool)) (x y:AV):Option Bool :=
 (asInt x).elim ((asStr x).elim ((asBool x).elim ((asTup x).elim ((listOf lh x).bind fun l=>(listOf lh y).bind fun m=>eqL l m)
  fun l=>(asTup y).bind fun m=>(intsOf l).bind fun a=>(intsOf m).map fun b=>decide (a=b))
  fun a=>(asBool y).map fun b=>a == b)
  fun c=>(asStr y).map fun d=>Nat.beq c d)
  fun i=>(asInt y).map fun j=>decide (i=j)
noncomputable def inV (lh:List (LO×Bool)) (x y:AV):Option Bool :=
 (asStr x).elim ((asTup x).bind fun l=>(intsOf l).bind fun a=>(listOf lh y).bind fun m=>(rowsOf m).map fun b=>b.elem a)
  fun c=>(asTup y).elim ((dicOf lh y).map fun l=>(dget l c).isSome) fun l=>(strsOf l).map (·.elem c)
noncomputable def addV (lh:List (LO×Bool)) (x y:AV):Option AV :=
 (asInt x).elim ((asTup x).elim ((listOf lh x).bind fun l=>(listOf lh y).bind fun m=>cond (small (l.length+m.length)) (some (.lst (l++m))) none)
  fun l=>(asTup y).bind fun m=>cond (small (l.length+m.length)) (some (.tup (l++m))) none)
  fun i=>(asInt y).map fun j=>.int (i+j)
noncomputable def binV (lh:List (LO×Bool)) (op:BOp) (x y:AV):Option AV:=match op with
 | .add=>addV lh x y
 | .sub=>int2 x y fun i j=>some (.int (i - j))
 | .mul=>int2 x y fun i j=>cond (bigOk i&&bigOk j) (some (.int (i*j))) none
 | .mod=>int2 x y fun i j=>cond (decide (0<j)) (some (.int (i.fmod j))) none
noncomputable def cmpV (lh:List (LO×Bool)) (op:COp) (x y:AV):Option AV:=match op with
 | .eq=>(eqV lh x y).map .bool
 | .ne=>(eqV lh x y).map fun b=>.bool !b
 | .lt=>int2 x y fun i j=>some (.bool (decide (i<j)))
 | .gt=>int2 x y fun i j=>some (.bool (decide (j<i)))
 | .isin=>(inV lh x y).map .bool
 | .notin=>(inV lh x y).map fun b=>.bool !b
 | .isNone=>cond (isNone x) (some (.bool true)) ((asTup x).map fun _=>.bool false)
noncomputable def biV (lh:List (LO×Bool)) (b:Bi) (vs:List AV):Option AV:=match b with
 | .int=>one vs fun v=>(asInt v).map .int
 | .len=>one vs fun v=>(asTup v).elim ((listOf lh v).map fun l=>.int l.length) fun l=>some (.int l.length)
 | .sorted=>one vs fun v=>(listOf lh v).bind fun l=>(rowsOf l).bind fun rs=>cond (Nat.blt rs.length 64&&rs.all fun r=>!r.isEmpty) (some (.lst ((sortRows rs).map rowAV))) none
 | .sortedSet=>one vs fun v=>(listOf lh v).bind fun l=>(rowsOf l).bind fun rs=>cond (Nat.blt (dedup rs).length 64&&((rs.all fun r=>!r.isEmpty)&&small rs.length)) (some (.lst ((sortRows (dedup rs)).map rowAV))) none
 | .lenSet=>one vs fun v=>(listOf lh v).bind fun l=>(strsOf l).bind fun cs=>cond (Nat.blt cs.length 1000) (some (.int (dedup cs).length)) none
 | .list=>one vs fun v=>(asTup v).map .lst
 | .tuple=>one vs fun v=>(listOf lh v).map .tup
 | .sum=>one vs fun v=>(listOf lh v).bind fun l=>(intsOf l).map fun ns=>.int ns.sum
 | .max=>two vs fun v w=>int2 v w fun i j=>some (.int (max i j))
noncomputable def gl (g:GS):List Int:=[g.spent,g.height,g.peak,g.count]
noncomputable def attrV (g:GS) (a:Nat):Option AV:=((gl g)[a]?).map .int
noncomputable def setG (g:GS):Nat→Int→Option GS
 | 0,i=>some ⟨g.spot,i,g.height,g.peak,g.count⟩
 | 1,i=>some ⟨g.spot,g.spent,i,g.peak,g.count⟩
 | 2,i=>some ⟨g.spot,g.spent,g.height,i,g.count⟩
 | 3,i=>some ⟨g.spot,g.spent,g.height,g.peak,i⟩
 | _,_=>none
noncomputable def setAttrV (g:GS) (a:Nat) (v:AV):Option GS:=(asInt v).bind (setG g a)
noncomputable def letters:List AV:=[.str 17,.str 18,.str 19,.str 20]
noncomputable def itemAt (l:List AV) (i:Int):Option AV:=(seqIdx l.length i).bind (l[·]?)
noncomputable def subV (cells:List Int) (st:St) (x y:AV):Option AV :=
 (asInt y).elim ((asStr y).bind fun c=>cond (isSl x) (cond (Nat.beq c 23) (some (.lst (cells.map .int))) (cond (Nat.beq c 24) (some (.int st.g.spot)) none)) ((dicOf st.lh x).bind (dget · c)))
  fun i=>(asTup x).elim ((asStr x).elim ((listOf st.lh x).bind fun l=>itemAt l i) fun c=>cond (Nat.beq c 26&&decide (0≤i)) (letters[i.toNat]?) none) fun l=>itemAt l i
noncomputable def globV:Nat→Option AV
 | 0=>some (.tup [.str 0,.str 1,.str 2,.str 3,.str 4])
 | 1=>some (.tup ([42,43,44,45,46,47,48].map .str))
 | 2=>some (.tup ([14,49,50,13,51,16,52,15,53,4,54,2,3,12,55,56,57,58].map .str))
 | 3=>some (.int 20000)
 | 4=>some (.int 100)
 | _=>none
noncomputable def bindT (t:Tgt) (v:AV) (st:St):Option St:=match t with
 | .v x=>some ⟨(x,v)::st.ρ,st.lh,st.g⟩
 | .t xs=>(asTup v).bind fun l=>cond (Nat.beq xs.length l.length) (some ⟨(xs.zip l).reverse++st.ρ,st.lh,st.g⟩) none
noncomputable def bnd {α β:Type} (o:Option (α×St)) (f:α→St→Option β):Option β:=o.bind fun p=>f p.1 p.2
noncomputable def ret1 (o:Option AV) (st:St):Option (AV×St):=o.map fun v=>(v,st)
noncomputable def brV {β:Type} (x:AV) (a b:Option β):Option β:=(asBool x).bind fun c=>cond c a b
noncomputable def flV (f:Fl) (st:St) (k:St→Option (Fl×St)):Option (Fl×St):=match f with
 | .next=>k st
 | .ret v=>some (.ret v,st)
noncomputable def nextV {β:Type} (f:Fl) (o:Option β):Option β:=match f with
 | .next=>o
 | .ret _=>none
noncomputable def loopC (t:Tgt) (body:St→Option (List AV×St)):List AV→St→Option (List AV×St)
 | [],st=>some ([],st)
 | x::xs,st=>(bindT t x st).bind fun st=>bnd (body st) fun ys st=>bnd (loopC t body xs st) fun zs st=>some (ys++zs,st)
noncomputable def loopF (t:Tgt) (body:St→Option (Fl×St)):List AV→St→Option (Fl×St)
 | [],st=>some (.next,st)
 | x::xs,st=>(bindT t x st).bind fun st=>bnd (body st) fun f st=>flV f st (loopF t body xs)
noncomputable def keep1 (v:AV) (st:St):Option (AV×St):=(freeze st.lh v).map fun p=>(p.1,⟨st.ρ,p.2,st.g⟩)
noncomputable def elemV (e:St→Option (AV×St)) (st:St):Option (List AV×St):=bnd (e st) fun q st=>bnd (keep1 q st) fun v st=>some ([v],st)
noncomputable def testThen (no:Bool) (c e:St→Option (AV×St)) (st:St):Option (List AV×St) :=
 cond no (elemV e st) (bnd (c st) fun x st=>brV x (elemV e st) (some ([],st)))
noncomputable def unb:Tgt→List (Nat×AV)→Bool
 | .v x,ρ=>(dget ρ x).isNone
 | .t xs,ρ=>xs.all fun x=>(dget ρ x).isNone
noncomputable def isNoneE:PE→Bool
 | .none_=>true
 | _=>false
noncomputable def lstV (vs:List AV) (st:St):AV×St:=cond vs.isEmpty (.loc st.lh.length,⟨st.ρ,st.lh++[(.lst [],false)],st.g⟩) (.lst vs,st)
noncomputable def dictWV (lh:List (LO×Bool)) (bv kv vv:AV):Option AV:=(dicOf lh bv).bind fun l=>(asStr kv).bind fun c=>cond (Nat.blt l.length 1000) (some (.dct (dput l c vv))) none
noncomputable def negV (v:AV):Option AV:=(asInt v).map fun i=>.int (-i)
noncomputable def notV (v:AV):Option AV:=(asBool v).map fun b=>.bool !b
noncomputable def getDV (lh:List (LO×Bool)) (ov kv dv:AV):Option AV:=(dicOf lh ov).bind fun l=>(asStr kv).map fun c=>(dget l c).getD dv
noncomputable def sliceV (lh:List (LO×Bool)) (ov l h:AV):Option AV:=(optInt l).bind fun l=>(optInt h).bind fun h=>(asTup ov).elim ((listOf lh ov).map fun xs=>.lst (cutL xs l h)) fun xs=>some (.tup (cutL xs l h))
noncomputable def revV (lh:List (LO×Bool)) (ov:AV):Option AV:=(listOf lh ov).map fun xs=>.lst xs.reverse
noncomputable def fstrV (v w:AV):Option AV:=(asStr v).bind fun c=>(asInt w).bind fun n=>cond (Nat.beq c 25&&decide (0≤n∧n<1000000)) (some (.str (1000+n.toNat))) none
noncomputable def rangeV (v:AV):Option AV:=(asInt v).bind fun n=>cond (decide (0≤n∧n<1000000)) (some (.rng n)) none
noncomputable def zipV (v w:AV):Option AV:=(lstOf v).bind fun l=>(lstOf w).map fun m=>.zp ((l.zip m).map fun p=>.tup [p.1,p.2])
noncomputable def callV (o:Option (AV×GS)) (st:St):Option (AV×St):=o.map fun p=>(p.1,⟨st.ρ,st.lh,p.2⟩)
noncomputable def compV (u:Bool) (ρ:List (Nat×AV)) (vs:List AV) (st:St):Option (AV×St):=cond (u&&small vs.length) (some (.lst vs,⟨ρ,st.lh,st.g⟩)) none
section
variable (cells:List Int) (call:Fn→List AV→GS→Option (AV×GS))
mutual
noncomputable def evalE:PE→St→Option (AV×St)
 | .var x,st=>ret1 (dget st.ρ x) st
 | .glb k,st=>ret1 (globV k) st
 | .none_,st=>some (.none,st)
 | .bool b,st=>some (.bool b,st)
 | .int i,st=>some (.int i,st)
 | .str c,st=>some (.str c,st)
 | .tup es,st=>bnd (evalK es st) fun vs st=>some (.tup vs,st)
 | .lst es,st=>bnd (evalK es st) fun vs st=>some (lstV vs st)
 | .dict ks vs,st=>bnd (evalK vs st) fun l st=>some (.loc st.lh.length,⟨st.ρ,st.lh++[(.dct (ks.zip l),false)],st.g⟩)
 | .dictW b k v,st=>bnd (evalE b st) fun bv st=>bnd (evalE k st) fun kv st=>bnd (evalE v st) fun vv st=>bnd (keep1 vv st) fun vv st=>ret1 (dictWV st.lh bv kv vv) st
 | .bin op a b,st=>bnd (evalE a st) fun x st=>bnd (evalE b st) fun y st=>ret1 (binV st.lh op x y) st
 | .neg a,st=>bnd (evalE a st) fun x st=>ret1 (negV x) st
 | .not a,st=>bnd (evalE a st) fun x st=>ret1 (notV x) st
 | .boolop isAnd es,st=>evalB isAnd es st
 | .cmp op a b,st=>bnd (evalE a st) fun x st=>bnd (evalE b st) fun y st=>ret1 (cmpV st.lh op x y) st
 | .call f args,st=>bnd (evalK args st) fun vs st=>callV (call f vs st.g) st
 | .meth f o args,st=>bnd (evalE o st) fun ov st=>bnd (evalK args st) fun vs st=>cond (isOp ov) (callV (call f (.opener::vs) st.g) st) none
 | .bi b args,st=>bnd (evalL args st) fun vs st=>ret1 (biV st.lh b vs) st
 | .getD o k d,st=>bnd (evalE o st) fun ov st=>(dicOf st.lh ov).bind fun _=>bnd (evalE k st) fun kv st=>bnd (evalE d st) fun dv st=>ret1 (getDV st.lh ov kv dv) st
 | .attr o a,st=>bnd (evalE o st) fun ov st=>cond (isOp ov) (ret1 (attrV st.g a) st) none
 | .sub o i,st=>bnd (evalE o st) fun ov st=>bnd (evalE i st) fun iv st=>ret1 (subV cells st ov iv) st
 | .slice o lo hi,st=>bnd (evalE o st) fun ov st=>bnd (evalE lo st) fun l st=>bnd (evalE hi st) fun h st=>ret1 (sliceV st.lh ov l h) st
 | .rev o,st=>bnd (evalE o st) fun ov st=>ret1 (revV st.lh ov) st
 | .ite c a b,st=>bnd (evalE c st) fun x st=>brV x (evalE a st) (evalE b st)
 | .comp elt t it cond,st=>bnd (evalE it st) fun iv st=>(itemsOfT t iv).bind fun xs =>
   bnd (loopC t (testThen (isNoneE cond) (evalE cond) (evalE elt)) xs st) (compV (unb t st.ρ) st.ρ)
 | .comp2 elt t1 it1 t2 it2 cond,st=>bnd (evalE it1 st) fun iv st=>(itemsOfT t1 iv).bind fun xs =>
   bnd (loopC t1 (fun st=>bnd (evalE it2 st) fun jv st=>(itemsOfT t2 jv).bind fun ys=>loopC t2 (testThen (isNoneE cond) (evalE cond) (evalE elt)) ys st) xs st) (compV (unb t1 st.ρ&&unb t2 st.ρ) st.ρ)
 | .fstr a b,st=>bnd (evalE a st) fun x st=>bnd (evalE b st) fun y st=>ret1 (fstrV x y) st
 | .range a,st=>bnd (evalE a st) fun x st=>ret1 (rangeV x) st
 | .zip a b,st=>bnd (evalE a st) fun x st=>bnd (evalE b st) fun y st=>ret1 (zipV x y) st
 | .bad,_=>none
noncomputable def evalK:List PE→St→Option (List AV×St)
 | [],st=>some ([],st)
 | e::r,st=>bnd (evalE e st) fun v st=>bnd (keep1 v st) fun v st=>bnd (evalK r st) fun vs st=>some (v::vs,st)
noncomputable def evalL:List PE→St→Option (List AV×St)
 | [],st=>some ([],st)
 | e::r,st=>bnd (evalE e st) fun v st=>bnd (evalL r st) fun vs st=>some (v::vs,st)
noncomputable def evalB:Bool→List PE→St→Option (AV×St)
 | isAnd,[],st=>some (.bool isAnd,st)
 | isAnd,e::r,st=>bnd (evalE e st) fun v st=>brV v (cond isAnd (evalB isAnd r st) (some (.bool true,st))) (cond isAnd (some (.bool false,st)) (evalB isAnd r st))
end
noncomputable def turn (ov:AV) (st:St) (f:LO→Option LO):Option St:=(asLoc ov).bind fun n=>(st.lh[n]?).bind fun p=>cond p.2 none ((f p.1).map fun o=>⟨st.ρ,st.lh.set n (o,false),st.g⟩)
noncomputable def setItemV (k:Nat) (v:AV) (st:St) (ov:AV):Option St:=cond (isSl ov) ((asInt v).bind fun i=>cond (Nat.beq k 24) (some ⟨st.ρ,st.lh,⟨i,st.g.spent,st.g.height,st.g.peak,st.g.count⟩⟩) none)
 (turn ov st fun o=>(loD o).bind fun l=>cond (Nat.blt l.length 1000) (some (.dct (dput l k v))) none)
noncomputable def growV (ov:AV) (more:List AV) (st:St):Option St:=turn ov st fun o=>(loL o).bind fun l=>cond (small (l.length+more.length)) (some (.lst (l++more))) none
noncomputable def nxt (o:Option St):Option (Fl×St):=o.map fun st=>(.next,st)
mutual
noncomputable def execS:PS→St→Option (Fl×St)
 | .asg t e,st=>bnd (evalE cells call e st) fun v st=>nxt (bindT t v st)
 | .asgT xs es,st=>bnd (evalL cells call es st) fun vs st=>cond (Nat.beq xs.length vs.length) (some (.next,⟨(xs.zip vs).reverse++st.ρ,st.lh,st.g⟩)) none
 | .setItem x k e,st=>bnd (evalE cells call e st) fun v st=>bnd (keep1 v st) fun v st=>(dget st.ρ x).bind fun ov=>nxt (setItemV k v st ov)
 | .setAttr o a e,st=>bnd (evalE cells call e st) fun v st=>bnd (evalE cells call o st) fun ov st=>cond (isOp ov) (nxt ((setAttrV st.g a v).map fun g=>⟨st.ρ,st.lh,g⟩)) none
 | .expr e,st=>bnd (evalE cells call e st) fun _ st=>some (.next,st)
 | .app x e,st=>(dget st.ρ x).bind fun ov=>(listOf st.lh ov).bind fun _=>bnd (evalE cells call e st) fun v st=>bnd (keep1 v st) fun v st=>nxt (growV ov [v] st)
 | .ext x e,st=>(dget st.ρ x).bind fun ov=>(listOf st.lh ov).bind fun _=>bnd (evalE cells call e st) fun v st=>(lstOf v).bind fun m=>nxt (growV ov m st)
 | .ret e,st=>bnd (evalE cells call e st) fun v st=>some (.ret v,st)
 | .ite c a b,st=>bnd (evalE cells call c st) fun x st=>brV x (execSs a st) (execSs b st)
 | .for_ t it body,st=>bnd (evalE cells call it st) fun iv st=>(itemsOfT t iv).bind fun xs=>loopF t (execSs body) xs st
 | .tryf body fin,st=>bnd (execSs body st) fun f st=>bnd (execSs fin st) fun f' st=>nextV f' (some (f,st))
 | .stop,_=>none
noncomputable def execSs:List PS→St→Option (Fl×St)
 | [],st=>some (.next,st)
 | x::r,st=>bnd (execS x st) fun f st=>flV f st (execSs r)
end
end
noncomputable def finV (f:Fl) (st:St):Option (AV×GS):=match f with
 | .ret v=>(keep1 v st).map fun p=>(p.1,p.2.g)
 | .next=>some (.none,st.g)
noncomputable def callP (cells:List Int) (bodies:Fn→List Nat×List PS):Nat→Fn→List AV→GS→Option (AV×GS)
 | 0,_,_,_=>none
 | n+1,f,args,g=>cond (Nat.beq args.length (bodies f).1.length) (bnd (execSs cells (callP cells bodies n) (bodies f).2 ⟨((bodies f).1.zip args).reverse,[],g⟩) finV) none
theorem cond_t {α:Type} {b:Bool} {x y:α} (h:b=true):cond b x y=x:=h▸rfl
theorem cond_f {α:Type} {b:Bool} {x y:α} (h:b=false):cond b x y=y:=h▸rfl
noncomputable def b_draw:List Nat×List PS:=([0,1],
  [.asg (.v 2) (.sub (.var 0) (.str 24)),
  .setItem 0 24 (.bin .add (.var 2) (.int 1)),
  .ite (.cmp .lt (.var 2) (.bi .len [.sub (.var 0) (.str 23)])) [.ret (.bin .mod (.sub (.sub (.var 0) (.str 23)) (.var 2)) (.var 1))] [],
  .ret (.bin .mod (.bin .mod (.bin .add (.bin .add (.bin .mul (.bin .mul (.int 5) (.var 2)) (.var 2)) (.bin .mul (.int 4) (.var 2))) (.int 3)) (.int 61)) (.var 1))])
noncomputable def b_atoms:List Nat×List PS:=([0],
  [.asgT [3,4] [.call .draw [.var 0,.int 4],.call .draw [.var 0,.int 3]],
  .ret (.bi .sorted [.comp (.tup [.bin .mod (.bin .add (.var 4) (.var 5)) (.int 3)]) (.v 5) (.range (.var 3)) .none_])])
noncomputable def b_leaf:List Nat×List PS:=([0,1],
  [.ret (.tup [.str 5,.int 0,.sub (.str 26) (.call .draw [.var 0,.var 1])])])
noncomputable def b_arrow:List Nat×List PS:=([0,6],
  [.asg (.v 7) (.lst []),
  .for_ (.v 8) (.range (.int 2)) [.ite (.boolop true [.cmp .gt (.var 6) (.int 0),.cmp .eq (.call .draw [.var 0,.int 4]) (.int 3)]) [.app 7 (.call .arrow [.var 0,.int 0])] [.app 7 (.call .leaf [.var 0,.bin .add (.int 3) (.var 6)])]],
  .asg (.v 9) (.sub (.glb 0) (.call .draw [.var 0,.int 5])),
  .ret (.tup [.str 6,.int 0,.var 9,.sub (.glb 0) (.call .draw [.var 0,.int 5]),.sub (.var 7) (.int 0),.sub (.var 7) (.int 1)])])
noncomputable def b_tuples:List Nat×List PS:=([10,11],
  [.ite (.cmp .eq (.sub (.var 10) (.int 0)) (.str 5)) [.ret (.sub (.var 11) (.sub (.var 10) (.int 2)))] [],
  .ret (.comp2 (.bin .add (.var 14) (.var 15)) (.v 14) (.call .tuples [.sub (.var 10) (.int 4),.var 11]) (.v 15) (.call .tuples [.sub (.var 10) (.int 5),.var 11]) .none_)])
noncomputable def b_value:List Nat×List PS:=([0,10,11],
  [.asgT [12,13] [.call .tuples [.sub (.var 10) (.int 5),.var 11],.lst []],
  .for_ (.v 14) (.call .tuples [.sub (.var 10) (.int 4),.var 11]) [.asg (.v 3) (.ite (.cmp .ne (.var 12) (.lst [])) (.sub (.tup [.int 0,.int 1,.int 1,.int 2]) (.call .draw [.var 0,.int 4])) (.int 0)),
   .asg (.v 4) (.ite (.cmp .gt (.var 3) (.int 0)) (.call .draw [.var 0,.bi .len [.var 12]]) (.int 0)),
   .ext 13 (.comp (.bin .add (.var 14) (.sub (.var 12) (.bin .mod (.bin .add (.var 4) (.var 5)) (.bi .len [.var 12])))) (.v 5) (.range (.var 3)) .none_)],
  .ite (.boolop true [.cmp .ne (.var 13) (.lst []),.cmp .eq (.call .draw [.var 0,.int 4]) (.int 3)]) [.app 13 (.bi .tuple [.comp (.call .draw [.var 0,.int 3]) (.v 50) (.sub (.var 13) (.int 0)) .none_])] [],
  .ret (.bi .sortedSet [.var 13])])
noncomputable def b_fits:List Nat×List PS:=([16,3],
  [.ret (.sub (.dict [0,1,2,3,4] [.bool true,.bool true,.cmp .eq (.var 3) (.int 1),.cmp .lt (.var 3) (.int 2),.cmp .gt (.var 3) (.int 0)]) (.var 16))])
noncomputable def b_watched:List Nat×List PS:=([10],
  [.ite (.cmp .ne (.sub (.var 10) (.int 0)) (.str 6)) [.ret (.bool false)] [],
  .ret (.boolop false [.cmp .ne (.comp (.var 16) (.v 16) (.slice (.var 10) (.int 2) (.int 4)) (.cmp .notin (.var 16) (.tup [.str 0,.str 1]))) (.lst []),.call .watched [.sub (.var 10) (.int 4)],.call .watched [.sub (.var 10) (.int 5)]])])
noncomputable def b_beside:List Nat×List PS:=([7,10,11,17],
  [.asg (.t [18,19,16]) (.ite (.var 17) (.tup [.sub (.var 10) (.int 4),.sub (.var 10) (.int 5),.sub (.var 10) (.int 3)]) (.tup [.sub (.var 10) (.int 5),.sub (.var 10) (.int 4),.sub (.var 10) (.int 2)])),
  .for_ (.v 14) (.call .tuples [.var 18,.var 11]) [.asg (.v 1) (.bi .len [.var 14]),
   .asg (.v 20) (.ite (.var 17) (.comp (.slice (.var 21) (.var 1) .none_) (.v 21) (.var 7) (.cmp .eq (.slice (.var 21) .none_ (.var 1)) (.var 14))) (.comp (.slice (.var 21) .none_ (.neg (.var 1))) (.v 21) (.var 7) (.cmp .eq (.slice (.var 21) (.neg (.var 1)) .none_) (.var 14)))),
   .ite (.not (.call .fits [.var 16,.bi .len [.var 20]])) [.ret (.bool false)] [],
   .ite (.boolop true [.cmp .eq (.sub (.var 19) (.int 0)) (.str 6),.cmp .ne (.comp (.var 22) (.v 22) (.tup [.bool true,.bool false]) (.not (.call .beside [.var 20,.var 19,.var 11,.var 22]))) (.lst [])]) [.ret (.bool false)] []],
  .ret (.bool true)])
noncomputable def b_read:List Nat×List PS:=([23,24],
  [.ite (.cmp .eq (.sub (.var 23) (.int 0)) (.str 7)) [.ret (.bi .list [.sub (.var 23) (.int 2)])] [],
  .ite (.cmp .eq (.sub (.var 23) (.int 0)) (.str 8)) [.ret (.lst [.sub (.var 24) (.sub (.var 23) (.int 1))])] [],
  .ite (.cmp .eq (.sub (.var 23) (.int 0)) (.str 9)) [.ret (.lst [.tup [.int 0],.tup [.int 1],.tup [.int 2]])] [],
  .asgT [18,19] [.call .read [.sub (.var 23) (.int 1),.var 24],.call .read [.sub (.var 23) (.int 2),.var 24]],
  .ite (.cmp .eq (.sub (.var 23) (.int 0)) (.str 10)) [.ret (.comp2 (.bin .add (.var 14) (.var 15)) (.v 14) (.var 18) (.v 15) (.var 19) .none_)] [],
  .ret (.bi .sortedSet [.comp2 (.bin .add (.slice (.var 14) .none_ (.neg (.int 1))) (.slice (.var 15) (.int 1) .none_)) (.v 14) (.var 18) (.v 15) (.var 19) (.cmp .eq (.sub (.var 14) (.neg (.int 1))) (.sub (.var 15) (.int 0)))])])
noncomputable def b_holds:List Nat×List PS:=([25,24],
  [.ite (.cmp .eq (.sub (.var 25) (.int 0)) (.str 13)) [.ret (.cmp .eq (.comp (.var 18) (.v 18) (.sub (.var 25) (.int 1)) (.not (.call .holds [.var 18,.var 24]))) (.lst []))] [],
  .ite (.cmp .eq (.sub (.var 25) (.int 0)) (.str 16)) [.ret (.boolop false [.not (.call .holds [.sub (.var 25) (.int 1),.var 24]),.call .holds [.sub (.var 25) (.int 2),.var 24]])] [],
  .ite (.cmp .eq (.sub (.var 25) (.int 0)) (.str 15)) [.asg (.v 1) (.call .read [.sub (.var 25) (.int 2),.var 24]),
   .ret (.cmp .eq (.comp (.var 18) (.v 18) (.call .read [.sub (.var 25) (.int 1),.var 24]) (.cmp .notin (.var 18) (.var 1))) (.lst []))] [],
  .ite (.cmp .ne (.sub (.var 25) (.int 0)) (.str 12)) [.ret (.call .fits [.sub (.var 25) (.int 0),.bi .len [.call .read [.sub (.var 25) (.int 1),.var 24]]])] [],
  .asg (.v 7) (.lst [.var 24]),
  .for_ (.t [26,23]) (.sub (.var 25) (.int 1)) [.asg (.v 7) (.comp2 (.dictW (.var 27) (.var 26) (.var 14)) (.v 27) (.var 7) (.v 14) (.call .read [.var 23,.var 27]) .none_)],
  .ret (.cmp .eq (.comp (.var 27) (.v 27) (.var 7) (.not (.call .holds [.sub (.var 25) (.int 2),.var 27]))) (.lst []))])
noncomputable def b_bound:List Nat×List PS:=([25],
  [.ite (.cmp .eq (.sub (.var 25) (.int 0)) (.str 12)) [.ret (.bin .add (.comp (.var 26) (.t [26,23]) (.sub (.var 25) (.int 1)) .none_) (.call .bound [.sub (.var 25) (.int 2)]))] [],
  .ite (.cmp .eq (.sub (.var 25) (.int 0)) (.str 13)) [.ret (.comp2 (.var 26) (.v 18) (.sub (.var 25) (.int 1)) (.v 26) (.call .bound [.var 18]) .none_)] [],
  .ret (.ite (.cmp .eq (.sub (.var 25) (.int 0)) (.str 16)) (.call .bound [.sub (.var 25) (.int 2)]) (.lst []))])
noncomputable def b_right:List Nat×List PS:=([0,28,11,29,24],
  [.asg (.v 10) (.call .arrow [.var 0,.int 1]),
  .asgT [7,25] [.call .value [.var 0,.var 10,.var 11],.lst []],
  .asg (.v 3) (.bi .sum [.comp (.sub (.dict [17,18,19,20] [.int 1,.int 1,.int 1,.int 2]) (.var 49)) (.v 49) (.call .leaves [.var 10]) .none_]),
  .asg (.v 30) (.tup [.str 7,.var 3,.bi .tuple [.var 7]]),
  .ite (.cmp .eq (.call .draw [.var 0,.int 3]) (.int 2)) [.asg (.v 31) (.bin .add (.comp (.bin .add (.sub (.var 24) (.str 22)) (.var 21)) (.v 21) (.var 7) .none_) (.comp (.bin .add (.tup [.bin .mod (.bin .add (.sub (.sub (.var 24) (.str 22)) (.int 0)) (.int 1)) (.int 3)]) (.var 21)) (.v 21) (.slice (.var 7) (.int 1) .none_) .none_)),
   .asg (.v 30) (.tup [.str 11,.tup [.str 8,.str 22],.tup [.str 7,.bin .add (.var 3) (.int 1),.bi .tuple [.bi .sorted [.var 31]]]])] [],
  .asg (.v 32) (.lst [.tup [.bool true,.sub (.var 10) (.int 3),.sub (.var 10) (.int 5)],.tup [.bool false,.sub (.var 10) (.int 2),.sub (.var 10) (.int 4)]]),
  .asg (.v 32) (.comp (.var 17) (.t [17,16,19]) (.var 32) (.boolop false [.cmp .notin (.var 16) (.tup [.str 0,.str 1]),.call .watched [.var 19]])),
  .asg (.v 25) (.meth .mMarked (.var 28) [.var 30,.var 10,.var 29]),
  .asg (.v 33) (.comp2 (.var 26) (.v 18) (.var 25) (.v 26) (.call .bound [.var 18]) .none_),
  .ite (.boolop false [.cmp .ne (.bi .len [.var 25]) (.bi .len [.var 32]),.cmp .ne (.bi .lenSet [.bin .add (.var 33) (.lst [.str 22,.str 21])]) (.bin .add (.bi .len [.var 33]) (.int 2))]) [.ret (.bool false)] [],
  .for_ (.t [18,17]) (.zip (.var 25) (.var 32)) [.ite (.cmp .ne (.call .holds [.var 18,.var 24]) (.call .beside [.var 7,.var 10,.var 11,.var 17])) [.ret (.bool false)] []],
  .ret (.bool true)])
noncomputable def b_leaves:List Nat×List PS:=([10],
  [.ret (.ite (.cmp .eq (.sub (.var 10) (.int 0)) (.str 5)) (.lst [.sub (.var 10) (.int 2)]) (.bin .add (.call .leaves [.sub (.var 10) (.int 4)]) (.call .leaves [.sub (.var 10) (.int 5)])))])
noncomputable def b_allOf:List Nat×List PS:=([47],
  [.ite (.cmp .eq (.bi .len [.var 47]) (.int 1)) [.ret (.sub (.var 47) (.int 0))] [],
  .ret (.ite (.cmp .gt (.bi .len [.var 47]) (.int 0)) (.tup [.str 13,.bi .tuple [.var 47]]) (.tup [.str 14]))])
noncomputable def b_mMarked:List Nat×List PS:=([36,30,10,29],
  [.asgT [9,12,13] [.meth .mExpr (.var 36) [.sub (.var 10) (.int 4),.var 29],.meth .mExpr (.var 36) [.sub (.var 10) (.int 5),.var 29],.lst []],
  .ite (.boolop false [.cmp .notin (.sub (.var 10) (.int 3)) (.tup [.str 0,.str 1]),.meth .mIsMarked (.var 36) [.sub (.var 10) (.int 5)]]) [.asg (.t [25,7,41]) (.meth .mEachOf (.var 36) [.var 9]),
   .asg (.v 20) (.var 30),
   .for_ (.v 18) (.var 7) [.asg (.v 20) (.tup [.str 11,.var 18,.var 20])],
   .app 13 (.tup [.str 12,.var 25,.meth .mGuarded (.var 36) [.var 41,.meth .mSide (.var 36) [.var 20,.sub (.var 10) (.int 3),.sub (.var 10) (.int 5),.var 29]]])] [],
  .ite (.boolop false [.cmp .notin (.sub (.var 10) (.int 2)) (.tup [.str 0,.str 1]),.meth .mIsMarked (.var 36) [.sub (.var 10) (.int 4)]]) [.asg (.t [25,7,41]) (.meth .mEachOf (.var 36) [.var 12]),
   .asg (.v 20) (.var 30),
   .for_ (.v 18) (.rev (.var 7)) [.asg (.v 20) (.tup [.str 11,.var 20,.var 18])],
   .app 13 (.tup [.str 12,.var 25,.meth .mGuarded (.var 36) [.var 41,.meth .mSide (.var 36) [.var 20,.sub (.var 10) (.int 2),.sub (.var 10) (.int 4),.var 29]]])] [],
  .ret (.var 13)])
noncomputable def b_mExpr:List Nat×List PS:=([36,10,29],
  [.asg (.v 39) (.attr (.var 36) 1),
  .tryf [.setAttr (.var 36) 1 (.bin .add (.var 39) (.int 1)),
   .expr (.meth .mSpend (.var 36) [.int 1,.int 0]),
   .asg (.v 13) (.meth .mExprOf (.var 36) [.var 10,.var 29])] [.setAttr (.var 36) 1 (.var 39)],
  .ret (.var 13)])
noncomputable def b_mSpend:List Nat×List PS:=([36,37,38],
  [.setAttr (.var 36) 0 (.bin .add (.attr (.var 36) 0) (.var 37)),
  .setAttr (.var 36) 2 (.bi .max [.attr (.var 36) 2,.bin .add (.attr (.var 36) 1) (.var 38)]),
  .ite (.cmp .gt (.attr (.var 36) 0) (.glb 3)) [.stop] [],
  .ite (.cmp .gt (.bin .add (.attr (.var 36) 1) (.var 38)) (.glb 4)) [.stop] []])
noncomputable def b_mExprOf:List Nat×List PS:=([36,10,29],
  [.asg (.v 40) (.sub (.var 10) (.int 0)),
  .ite (.cmp .isin (.var 40) (.tup [.str 9,.str 32])) [.ret (.ite (.cmp .eq (.var 40) (.str 9)) .bad .bad)] [],
  .ite (.cmp .eq (.var 40) (.str 27)) [.ret (.tup [.str 27,.int 1])] [],
  .ite (.boolop true [.cmp .eq (.var 40) (.str 28),.cmp .isin (.sub (.var 10) (.int 2)) .bad]) [.ret .bad] [],
  .ite (.cmp .eq (.var 40) (.str 6)) [.ret (.tup [.str 10,.meth .mExpr (.var 36) [.sub (.var 10) (.int 4),.var 29],.meth .mExpr (.var 36) [.sub (.var 10) (.int 5),.var 29]])] [],
  .ite (.cmp .eq (.var 40) (.str 29)) [.stop,
   .ret (.tup [.str 37,.var 25,.call .allOf [.bin .add .bad (.lst [.bad])]])] [],
  .ite (.cmp .eq (.var 40) (.str 30)) [.ret (.tup [.str 39,.bad,.meth .mExpr (.var 36) [.sub (.var 10) (.int 3),.var 29],.meth .mExpr (.var 36) [.sub (.var 10) (.int 4),.var 29]])] [],
  .ite (.cmp .eq (.var 40) (.str 31)) [.ret (.meth .mExpr (.var 36) [.sub (.var 10) (.int 4),.bad])] [],
  .ite (.boolop true [.cmp .eq (.var 40) (.str 5),.cmp .isin (.sub (.var 10) (.int 2)) (.var 29)]) [.ret (.meth .mWanted (.var 36) [.meth .mUsed (.var 36) [.sub (.var 10) (.int 2),.var 29],.str 1,.sub (.var 10) (.int 1)])] [],
  .stop,
  .ite (.cmp .ne (.var 26) (.str 0)) [.ret .bad] [],
  .ite (.cmp .eq (.var 40) (.str 5)) [.ret .bad] [],
  .ite (.cmp .eq (.var 40) (.str 40)) [.setAttr (.var 36) 1 (.bin .add (.attr (.var 36) 1) (.bi .max [.int 0,.bin .sub (.bi .len [.sub (.var 10) (.int 3)]) (.int 1)])),
   .asg (.v 13) (.meth .mExpr (.var 36) [.sub (.var 10) (.int 2),.var 29]),
   .for_ (.v 18) (.sub (.var 10) (.int 3)) [.asg (.v 13) (.tup [.str 11,.meth .mExpr (.var 36) [.var 18,.var 29],.var 13])],
   .ret (.var 13)] [],
  .ite (.boolop false [.cmp .ne (.var 40) (.str 41),.cmp .notin (.sub (.var 10) (.int 2)) .bad]) [.stop] [],
  .ret (.tup [.sub .bad (.sub (.var 10) (.int 2)),.meth .mExpr (.var 36) [.sub (.var 10) (.int 3),.var 29],.meth .mExpr (.var 36) [.sub (.var 10) (.int 4),.var 29]])])
noncomputable def b_mUsed:List Nat×List PS:=([36,26,29],
  [.asg (.t [37,38]) (.getD (.getD (.var 29) (.str 0) (.dict [] [])) (.var 26) (.tup [.int 1,.int 1])),
  .expr (.meth .mSpend (.var 36) [.var 37,.var 38]),
  .ret (.sub (.var 29) (.var 26))])
noncomputable def b_mWanted:List Nat×List PS:=([36,30,44,2],
  [.asg (.v 45) (.cmp .isin (.sub (.var 30) (.int 0)) (.glb 1)),
  .ite (.boolop false [.cmp .isin (.sub (.var 30) (.int 0)) (.glb 2),.cmp .ne (.var 45) (.cmp .eq (.var 44) (.str 60))]) [.stop] [],
  .ret (.var 30)])
noncomputable def b_mIsMarked:List Nat×List PS:=([36,10],
  [.ite (.cmp .ne (.sub (.var 10) (.int 0)) (.str 6)) [.ret (.bool false)] [],
  .ret (.boolop false [.cmp .notin (.sub (.var 10) (.int 2)) (.tup [.str 0,.str 1]),.cmp .notin (.sub (.var 10) (.int 3)) (.tup [.str 0,.str 1]),.meth .mIsMarked (.var 36) [.sub (.var 10) (.int 4)],.meth .mIsMarked (.var 36) [.sub (.var 10) (.int 5)]])])
noncomputable def b_mSide:List Nat×List PS:=([36,30,46,10,29],
  [.asg (.v 13) (.ite (.cmp .notin (.var 46) (.tup [.str 0,.str 1])) (.lst [.tup [.var 46,.var 30]]) (.lst [])),
  .ret (.call .allOf [.bin .add (.var 13) (.ite (.meth .mIsMarked (.var 36) [.var 10]) (.meth .mMarked (.var 36) [.var 30,.var 10,.var 29]) (.lst []))])])
noncomputable def b_mEachOf:List Nat×List PS:=([36,23],
  [.asg (.v 3) (.meth .mArity (.var 36) [.var 23]),
  .asg (.v 33) (.comp (.meth .mFresh (.var 36) [.str 25]) (.v 5) (.range (.var 3)) .none_),
  .asg (.v 7) (.comp (.tup [.str 8,.var 26]) (.v 26) (.var 33) .none_),
  .ite (.cmp .eq (.var 3) (.int 1)) [.ret (.tup [.tup [.tup [.sub (.var 33) (.int 0),.var 23]],.var 7,.none_])] [],
  .asg (.v 42) (.sub (.var 7) (.int 0)),
  .for_ (.v 18) (.slice (.var 7) (.int 1) .none_) [.asg (.v 42) (.tup [.str 10,.var 42,.var 18])],
  .ret (.tup [.bi .tuple [.comp (.tup [.var 26,.tup [.str 9]]) (.v 26) (.var 33) .none_],.var 7,.tup [.str 15,.var 42,.var 23]])])
noncomputable def b_mGuarded:List Nat×List PS:=([36,41,48],
  [.ret (.ite (.cmp .isNone (.var 41) .none_) (.var 48) (.tup [.str 16,.var 41,.var 48]))])
noncomputable def b_mArity:List Nat×List PS:=([36,23],
  [.asg (.v 43) (.sub (.var 23) (.int 0)),
  .ite (.cmp .eq (.var 43) (.str 33)) [.ret .bad] [],
  .ite (.cmp .isin (.var 43) (.tup [.str 7,.str 27])) [.ret (.sub (.var 23) (.int 1))] [],
  .ite (.cmp .isin (.var 43) (.tup [.str 8,.str 9])) [.ret (.int 1)] [],
  .ite (.cmp .isin (.var 43) (.tup [.str 32,.str 34,.str 35,.str 36])) [.ret (.int 2)] [],
  .ite (.cmp .isin (.var 43) (.tup [.str 11,.str 10])) [.ret (.bin .sub (.bin .add (.meth .mArity (.var 36) [.sub (.var 23) (.int 1)]) (.meth .mArity (.var 36) [.sub (.var 23) (.int 2)])) (.ite (.cmp .eq (.var 43) (.str 11)) (.int 2) (.int 0)))] [],
  .ite (.cmp .eq (.var 43) (.str 37)) [.ret (.bi .len [.sub (.var 23) (.int 1)])] [],
  .ret (.meth .mArity (.var 36) [.ite (.cmp .isin (.var 43) (.tup [.str 38,.str 39])) (.sub (.var 23) (.int 2)) (.sub (.var 23) (.int 1))])])
noncomputable def b_mFresh:List Nat×List PS:=([36,26],
  [.setAttr (.var 36) 3 (.bin .add (.attr (.var 36) 3) (.int 1)),
  .ret (.fstr (.var 26) (.attr (.var 36) 3))])
noncomputable def bodyL:List (List Nat×List PS):=[b_draw,b_atoms,b_leaf,b_arrow,b_tuples,b_value,b_fits,b_watched,b_beside,b_read,b_holds,b_bound,b_right,b_leaves,b_allOf,b_mMarked,b_mExpr,b_mSpend,b_mExprOf,b_mUsed,b_mWanted,b_mIsMarked,b_mSide,b_mEachOf,b_mGuarded,b_mArity,b_mFresh]
noncomputable def bodies (f:Fn):List Nat×List PS:=bodyL.getD f ([0],[.stop])
namespace P
inductive Or where
 | v (x:Nat) (d:AV)
 | k
 | o (d:AV)
 | g
 | b (b:Bool)
 | c (d:AV) (g:GS)
 | e (d:AV) (st:St)
 | x (f:Fl) (st:St)
 | s (st:St)
 | y (f:Fl) (st:St)
 | n
 | t (f:Fl) (st:St)
abbrev Ks (α:Type):=α→St→List Or→Prop
def mt {α:Type} (o:Option α) (k:α→Prop):Prop:=o.elim False k
noncomputable def pO:List Or→Option AV
 | .o d::_=>some d
 | _=>none
noncomputable def pG:List Or→List Or
 | .g::r=>r
 | r=>r
noncomputable def pN:List Or→List Or
 | .n::r=>r
 | r=>r
noncomputable def pV (x:Nat):List Or→Option AV
 | .v y d::_=>cond (Nat.beq x y) (some d) none
 | _=>none
noncomputable def pK:List Or→Bool
 | .k::_=>true
 | _=>false
noncomputable def pB:List Or→Option Bool
 | .b b::_=>some b
 | _=>none
noncomputable def pC:List Or→Option (AV×GS)
 | .c d g::_=>some (d,g)
 | _=>none
noncomputable def pE:List Or→Option (AV×St)
 | .e d st::_=>some (d,st)
 | _=>none
noncomputable def pX:List Or→Option (Fl×St)
 | .x d st::_=>some (d,st)
 | _=>none
noncomputable def pY:List Or→Option (Fl×St)
 | .y d st::_=>some (d,st)
 | _=>none
noncomputable def pT:List Or→Option (Fl×St)
 | .t d st::_=>some (d,st)
 | _=>none
noncomputable def pS:List Or→Option St
 | .s st::_=>some st
 | _=>none
def ask {α:Type} (a o:Option α) (r r':List Or) (k:α→List Or→Prop):Prop:=a.elim (mt o fun d=>k d r') fun d=>o=some d∧k d r
def opR (o:Option AV) (r:List Or) (st:St) (k:Ks AV):Prop:=ask (pO r) o r.tail (pG r) fun d r=>k d st r
@[irreducible] noncomputable def varR (o:Option AV) (x:Nat) (r:List Or) (k:AV→List Or→Prop):Prop:=ask (pV x r) o r.tail r k
def keepR (v:AV) (r:List Or) (st:St) (k:Ks AV):Prop:=cond (pK r) (freeze st.lh v=some (v,st.lh)∧k v st r.tail) (mt (freeze st.lh v) fun p=>k p.1 ⟨st.ρ,p.2,st.g⟩ (pG r))
def brR (x:AV) (r:List Or) (k1 k2:List Or→Prop):Prop:=ask (pB r) (asBool x) r.tail r fun b r=>cond b (k1 r) (k2 r)
def okR (b:Bool) (r:List Or) (k:List Or→Prop):Prop:=(pB r).elim (cond b (k r) False) fun _=>b=true∧k r.tail
def callR (o:Option (AV×GS)) (r:List Or) (st:St) (k:Ks AV):Prop:=ask (pC r) o r.tail r fun p r=>k p.1 ⟨st.ρ,st.lh,p.2⟩ r
def stR (o:Option St) (r:List Or) (k:Ks Fl):Prop:=ask (pS r) o r.tail r fun st r=>k .next st r
def exR {α:Type} (a o:Option (α×St)) (r:List Or) (k:Ks α) (els:Prop):Prop:=a.elim els fun p=>o=some p∧k p.1 p.2 r.tail
def elR (e:List Or→St→Ks AV→Prop) (r:List Or) (st:St) (k:Ks (List AV)):Prop:=e r st fun q st r=>keepR q r st fun v st r=>k [v] st r
def rT (no:Bool) (c e:List Or→St→Ks AV→Prop) (r:List Or) (st:St) (k:Ks (List AV)):Prop:=cond no (elR e r st k) (c r st fun x st r=>brR x r (fun r=>elR e r st k) (fun r=>k [] st r))
noncomputable def rC (t:Tgt) (body:List Or→St→Ks (List AV)→Prop):List AV→List Or→St→Ks (List AV)→Prop
 | [],r,st,k=>k [] st r
 | x::xs,r,st,k=>mt (bindT t x st) fun st=>body r st fun ys st r=>rC t body xs r st fun zs st r=>k (ys++zs) st r
def fl1 (f:Fl) (n:Prop) (k:AV→Prop):Prop:=match f with
 | .next=>n
 | .ret v=>k v
noncomputable def rF (t:Tgt) (body:List Or→St→Ks Fl→Prop):List AV→List Or→St→Ks Fl→Prop
 | [],r,st,k=>k .next st r
 | x::xs,r,st,k=>mt (bindT t x st) fun st=>body r st fun f st r=>fl1 f (rF t body xs r st k) fun v=>k (.ret v) st r
section
variable (cells:List Int) (call:Fn→List AV→GS→Option (AV×GS))
mutual
noncomputable def rE:PE→List Or→St→Ks AV→Prop
 | .var x,r,st,k=>varR (dget st.ρ x) x r fun d r=>k d st r
 | .glb i,r,st,k=>mt (globV i) fun d=>k d st r
 | .none_,r,st,k=>k .none st r
 | .bool b,r,st,k=>k (.bool b) st r
 | .int i,r,st,k=>k (.int i) st r
 | .str c,r,st,k=>k (.str c) st r
 | .tup es,r,st,k=>rK es r st fun vs st r=>k (.tup vs) st r
 | .lst es,r,st,k=>rK es r st fun vs st r=>k (lstV vs st).1 (lstV vs st).2 r
 | .dict ks vs,r,st,k=>rK vs r st fun l st r=>k (.loc st.lh.length) ⟨st.ρ,st.lh++[(.dct (ks.zip l),false)],st.g⟩ r
 | .dictW b kk v,r,st,k=>rE b r st fun bv st r=>rE kk r st fun kv st r=>rE v r st fun vv st r=>keepR vv r st fun vv st r=>opR (dictWV st.lh bv kv vv) r st k
 | .bin op a b,r,st,k=>rE a r st fun x st r=>rE b r st fun y st r=>opR (binV st.lh op x y) r st k
 | .neg a,r,st,k=>rE a r st fun x st r=>opR (negV x) r st k
 | .not a,r,st,k=>rE a r st fun x st r=>opR (notV x) r st k
 | .boolop isAnd es,r,st,k=>rB isAnd es r st k
 | .cmp op a b,r,st,k=>rE a r st fun x st r=>rE b r st fun y st r=>opR (cmpV st.lh op x y) r st k
 | .call f args,r,st,k=>rK args r st fun vs st r=>callR (call f vs st.g) r st k
 | .meth f o args,r,st,k=>rE o r st fun ov st r=>rK args r st fun vs st r=>cond (isOp ov) (callR (call f (.opener::vs) st.g) r st k) False
 | .bi b args,r,st,k=>rL args r st fun vs st r=>opR (biV st.lh b vs) r st k
 | .getD o kk d,r,st,k=>rE o r st fun ov st r=>mt (dicOf st.lh ov) fun _=>rE kk r st fun kv st r=>rE d r st fun dv st r=>opR (getDV st.lh ov kv dv) r st k
 | .attr o a,r,st,k=>rE o r st fun ov st r=>cond (isOp ov) (opR (attrV st.g a) r st k) False
 | .sub o i,r,st,k=>rE o r st fun ov st r=>rE i r st fun iv st r=>opR (subV cells st ov iv) r st k
 | .slice o lo hi,r,st,k=>rE o r st fun ov st r=>rE lo r st fun l st r=>rE hi r st fun h st r=>opR (sliceV st.lh ov l h) r st k
 | .rev o,r,st,k=>rE o r st fun ov st r=>opR (revV st.lh ov) r st k
 | .ite c a b,r,st,k=>rE c r st fun x st r=>brR x r (fun r=>rE a r st k) (fun r=>rE b r st k)
 | .comp elt t it c,r,st,k=>exR (pE r) (evalE cells call (.comp elt t it c) st) r k (rE it r st fun iv st r=>mt (itemsOfT t iv) fun xs =>
   rC t (rT (isNoneE c) (rE c) (rE elt)) xs r st fun vs st' r=>okR (unb t st.ρ&&small vs.length) r fun r=>k (.lst vs) ⟨st.ρ,st'.lh,st'.g⟩ r)
 | .comp2 elt t1 it1 t2 it2 c,r,st,k=>exR (pE r) (evalE cells call (.comp2 elt t1 it1 t2 it2 c) st) r k False
 | .fstr a b,r,st,k=>rE a r st fun x st r=>rE b r st fun y st r=>opR (fstrV x y) r st k
 | .range a,r,st,k=>rE a r st fun x st r=>opR (rangeV x) r st k
 | .zip a b,r,st,k=>rE a r st fun x st r=>rE b r st fun y st r=>opR (zipV x y) r st k
 | .bad,_,_,_=>False
noncomputable def rK:List PE→List Or→St→Ks (List AV)→Prop
 | [],r,st,k=>k [] st r
 | e::es,r,st,k=>rE e r st fun v st r=>keepR v r st fun v st r=>rK es r st fun vs st r=>k (v::vs) st r
noncomputable def rL:List PE→List Or→St→Ks (List AV)→Prop
 | [],r,st,k=>k [] st r
 | e::es,r,st,k=>rE e r st fun v st r=>rL es r st fun vs st r=>k (v::vs) st r
noncomputable def rB:Bool→List PE→List Or→St→Ks AV→Prop
 | isAnd,[],r,st,k=>k (.bool isAnd) st r
 | isAnd,e::es,r,st,k=>rE e r st fun v st r=>brR v r (fun r=>cond isAnd (rB isAnd es r st k) (k (.bool true) st r)) (fun r=>cond isAnd (k (.bool false) st r) (rB isAnd es r st k))
end
mutual
noncomputable def rS:PS→List Or→St→Ks Fl→Prop
 | .asg t e,r,st,k=>rE cells call e r st fun v st r=>stR (bindT t v st) r k
 | .asgT xs es,r,st,k=>rL cells call es r st fun vs st r=>cond (Nat.beq xs.length vs.length) (k .next ⟨(xs.zip vs).reverse++st.ρ,st.lh,st.g⟩ r) False
 | .setItem x kk e,r,st,k=>rE cells call e r st fun v st r=>keepR v r st fun v st r=>varR (dget st.ρ x) x r fun ov r=>stR (setItemV kk v st ov) r k
 | .setAttr o a e,r,st,k=>rE cells call e r st fun v st r=>rE cells call o r st fun ov st r=>cond (isOp ov) (stR ((setAttrV st.g a v).map fun g=>⟨st.ρ,st.lh,g⟩) r k) False
 | .expr e,r,st,k=>rE cells call e r st fun v st r=>k .next st r
 | .app x e,r,st,k=>varR (dget st.ρ x) x r fun ov r=>mt (listOf st.lh ov) fun _=>rE cells call e r st fun v st r=>keepR v r st fun v st r=>stR (growV ov [v] st) r k
 | .ext x e,r,st,k=>varR (dget st.ρ x) x r fun ov r=>mt (listOf st.lh ov) fun _=>rE cells call e r st fun v st r=>mt (lstOf v) fun m=>stR (growV ov m st) r k
 | .ret e,r,st,k=>rE cells call e r st fun v st r=>k (.ret v) st r
 | .ite c a b,r,st,k=>rE cells call c r st fun x st r=>brR x r (fun r=>rSs a r st k) (fun r=>rSs b r st k)
 | .for_ t it body,r,st,k=>exR (pX r) (execS cells call (.for_ t it body) st) r k (rE cells call it r st fun iv st r=>mt (itemsOfT t iv) fun xs=>rF t (rSs body) xs r st k)
 | .tryf a b,r,st,k=>rSs a r st fun f st r=>rSs b r st fun f' st r=>fl1 f' (k f st r) fun _=>False
 | .stop,_,_,_=>False
noncomputable def rSs:List PS→List Or→St→Ks Fl→Prop
 | [],r,st,k=>k .next st r
 | x::xs,r,st,k=>exR (pT r) (execSs cells call (x::xs) st) r k (exR (pY r) (execS cells call x st) r (fun f st r=>fl1 f (rSs xs r st k) fun v=>k (.ret v) st r) (rS x (pN r) st fun f st r=>fl1 f (rSs xs r st k) fun v=>k (.ret v) st r))
end
end
def To {α:Type} (o:Option (α×St)) (k:Ks α):Prop:=mt o fun p=>∃ r,k p.1 p.2 r
theorem To.here {α:Type} {a:α} {st:St} {r:List Or} {k:Ks α} (h:k a st r):To (some (a,st)) k:=⟨r,h⟩
theorem To.map {α β:Type} {o:Option (α×St)} {f:α→St→Option (β×St)} {k:Ks α} {k':Ks β} (h:To o k) (q:∀ a st r,k a st r→To (f a st) k'):To (bnd o f) k':=match o,h with
 | some (a,st),⟨r,h⟩=>q a st r h
theorem mt_map {α β:Type} {o:Option α} {f:α→Option (β×St)} {k:α→Prop} {k':Ks β} (h:mt o k) (q:∀ a,k a→To (f a) k'):To (o.bind f) k':=match o,h with
 | some a,h=>q a h
theorem mt_some {α:Type} {a:α} {o:Option α} {k:α→Prop} (h:o=some a∧k a):mt o k:=by rw [h.1];exact h.2
theorem ask_mt {α:Type} {a o:Option α} {r r':List Or} {k:α→List Or→Prop} (h:ask a o r r' k):mt o fun d=>∃ r,k d r:=match a,h with
 | none,h=>match o,h with
  | some d,h=>⟨_,h⟩
 | some d,h=>mt_some ⟨h.1,_,h.2⟩
theorem mt_imp {α:Type} {o:Option α} {k k':α→Prop} (h:mt o k) (q:∀ a,k a→k' a):mt o k':=match o,h with
 | some a,h=>q a h
theorem mt_opt {α β:Type} {o:Option α} {f:α→β} {k:β→Prop} (h:mt o fun a=>k (f a)):mt (o.map f) k:=match o,h with
 | some _,h=>h
theorem op_to {o:Option AV} {r:List Or} {st:St} {k:Ks AV} (h:opR o r st k):To (ret1 o st) k:=mt_opt (ask_mt h)
theorem call_to {o:Option (AV×GS)} {r:List Or} {st:St} {k:Ks AV} (h:callR o r st k):To (callV o st) k:=mt_opt (ask_mt h)
theorem st_to {o:Option St} {r:List Or} {k:Ks Fl} (h:stR o r k):To (nxt o) k:=mt_opt (ask_mt h)
theorem var_mt {o:Option AV} {x:Nat} {r:List Or} {k:AV→List Or→Prop} (h:varR o x r k):mt o fun d=>∃ r,k d r:=by
 unfold varR at h
 exact ask_mt h
theorem keep_to {v:AV} {r:List Or} {st:St} {k:Ks AV} (h:keepR v r st k):To (keep1 v st) k:=by
 unfold keepR at h
 refine mt_opt (f:=fun p:AV×List (LO×Bool)=>(p.1,(⟨st.ρ,p.2,st.g⟩:St))) (k:=fun p=>∃ r,k p.1 p.2 r) ?_
 cases e:pK r <;> rw [e] at h
 ·exact mt_imp h fun _ h=>⟨_,h⟩
 ·exact mt_some ⟨h.1,_,h.2⟩
theorem br_to {β:Type} {x:AV} {r:List Or} {k1 k2:List Or→Prop} {a b:Option (β×St)} {k:Ks β} (h:brR x r k1 k2) (h1:∀ r,k1 r→To a k) (h2:∀ r,k2 r→To b k):To (brV x a b) k:=by
 obtain h:=ask_mt h
 cases x with
 | bool c =>
  obtain ⟨r,h⟩:=h
  cases c with
  | true=>exact h1 r h
  | false=>exact h2 r h
 | _=>exact h.elim
theorem ex_to {α:Type} {a o:Option (α×St)} {r:List Or} {k:Ks α} {els:Prop} (h:exR a o r k els) (he:els→To o k):To o k:=match a,h with
 | none,h=>he h
 | some p,h=>mt_some ⟨h.1,_,h.2⟩
theorem cond_to {β:Type} {b:Bool} {K:Prop} {o:Option (β×St)} {k:Ks β} (h:cond b K False) (q:K→To o k):To (cond b o none) k:=match b,h with
 | true,h=>q h
theorem ok_to {β:Type} {b:Bool} {r:List Or} {K:List Or→Prop} {o:Option (β×St)} {k:Ks β} (h:okR b r K) (q:∀ r,K r→To o k):To (cond b o none) k:=by
 unfold okR at h
 revert h
 cases pB r with
 | none=>exact fun h=>cond_to h (q r)
 | some _=>exact fun h=>by rw [h.1];exact q _ h.2
theorem cond2_to {β:Type} {b:Bool} {K K':Prop} {o o':Option (β×St)} {k:Ks β} (h:cond b K K') (q:K→To o k) (q':K'→To o' k):To (cond b o o') k:=match b,h with
 | true,h=>q h
 | false,h=>q' h
theorem fl_to {f:Fl} {st:St} {n:Prop} {k1:AV→Prop} {g:St→Option (Fl×St)} {k:Ks Fl} (h:fl1 f n k1) (h1:n→To (g st) k) (h2:∀ v,k1 v→∃ r,k (.ret v) st r):To (flV f st g) k:=match f,h with
 | .next,h=>h1 h
 | .ret v,h=>h2 v h
theorem next_to {β:Type} {f:Fl} {K:Prop} {o:Option (β×St)} {k:Ks β} (h:fl1 f K fun _=>False) (q:K→To o k):To (nextV f o) k:=match f,h with
 | .next,h=>q h
abbrev Sd (c:List Or→St→Ks AV→Prop) (c':St→Option (AV×St)):Prop:=∀ r st k,c r st k→To (c' st) k
theorem el_to {e:List Or→St→Ks AV→Prop} {e':St→Option (AV×St)} (he:Sd e e') {r:List Or} {st:St} {k:Ks (List AV)} (h:elR e r st k):To (elemV e' st) k:=(he _ _ _ h).map fun q st r h=>(keep_to h).map fun v st r h=>.here h
theorem rT_to {no:Bool} {c e:List Or→St→Ks AV→Prop} {c' e':St→Option (AV×St)} (hc:Sd c c') (he:Sd e e') {r:List Or} {st:St} {k:Ks (List AV)} (h:rT no c e r st k):To (testThen no c' e' st) k :=
 cond2_to h (el_to he) fun h=>(hc _ _ _ h).map fun x st r h=>br_to h (fun r h=>el_to he h) fun r h=>.here h
theorem rC_to {t:Tgt} {b:List Or→St→Ks (List AV)→Prop} {b':St→Option (List AV×St)} (hb:∀ r st k,b r st k→To (b' st) k):∀ (xs:List AV) {r:List Or} {st:St} {k:Ks (List AV)},rC t b xs r st k→To (loopC t b' xs st) k
 | [],r,_,_,h=>⟨r,h⟩
 | x::xs,r,st,k,h=>mt_map h fun st h=>(hb _ _ _ h).map fun ys st r h=>(rC_to hb xs h).map fun zs st r h=>⟨r,h⟩
theorem rF_to {t:Tgt} {b:List Or→St→Ks Fl→Prop} {b':St→Option (Fl×St)} (hb:∀ r st k,b r st k→To (b' st) k):∀ (xs:List AV) {r:List Or} {st:St} {k:Ks Fl},rF t b xs r st k→To (loopF t b' xs st) k
 | [],r,_,_,h=>⟨r,h⟩
 | x::xs,r,st,k,h=>mt_map h fun st h=>(hb _ _ _ h).map fun f st r h=>fl_to h (rF_to hb xs) fun v h=>⟨r,h⟩
section
variable {cells:List Int} {call:Fn→List AV→GS→Option (AV×GS)}
mutual
theorem rE_to:∀ (e:PE) (r:List Or) (st:St) (k:Ks AV),rE cells call e r st k→To (evalE cells call e st) k
 | .var x,r,st,k,h=>mt_opt (var_mt h)
 | .glb i,r,st,k,h=>mt_opt (mt_imp h fun _ h=>⟨r,h⟩)
 | .none_,r,st,k,h=>⟨r,h⟩
 | .bool b,r,st,k,h=>⟨r,h⟩
 | .int i,r,st,k,h=>⟨r,h⟩
 | .str c,r,st,k,h=>⟨r,h⟩
 | .tup es,r,st,k,h=>(rK_to es _ _ _ h).map fun vs st r h=>.here h
 | .lst es,r,st,k,h=>(rK_to es _ _ _ h).map fun vs st r h=>.here h
 | .dict ks vs,r,st,k,h=>(rK_to vs _ _ _ h).map fun vs st r h=>.here h
 | .dictW b kk v,r,st,k,h=>(rE_to b _ _ _ h).map fun bv st r h=>(rE_to kk _ _ _ h).map fun kv st r h=>(rE_to v _ _ _ h).map fun vv st r h=>(keep_to h).map fun vv st r h=>op_to h
 | .bin op a b,r,st,k,h=>(rE_to a _ _ _ h).map fun x st r h=>(rE_to b _ _ _ h).map fun y st r h=>op_to h
 | .neg a,r,st,k,h=>(rE_to a _ _ _ h).map fun x st r h=>op_to h
 | .not a,r,st,k,h=>(rE_to a _ _ _ h).map fun x st r h=>op_to h
 | .boolop isAnd es,r,st,k,h=>rB_to isAnd es _ _ _ h
 | .cmp op a b,r,st,k,h=>(rE_to a _ _ _ h).map fun x st r h=>(rE_to b _ _ _ h).map fun y st r h=>op_to h
 | .call f args,r,st,k,h=>(rK_to args _ _ _ h).map fun vs st r h=>call_to h
 | .meth f o args,r,st,k,h=>(rE_to o _ _ _ h).map fun ov st r h=>(rK_to args _ _ _ h).map fun vs st r h=>cond_to h call_to
 | .bi b args,r,st,k,h=>(rL_to args _ _ _ h).map fun vs st r h=>op_to h
 | .getD o kk d,r,st,k,h=>(rE_to o _ _ _ h).map fun ov st r h=>mt_map h fun _ h=>(rE_to kk _ _ _ h).map fun kv st r h=>(rE_to d _ _ _ h).map fun dv st r h=>op_to h
 | .attr o a,r,st,k,h=>(rE_to o _ _ _ h).map fun ov st r h=>cond_to h op_to
 | .sub o i,r,st,k,h=>(rE_to o _ _ _ h).map fun x st r h=>(rE_to i _ _ _ h).map fun y st r h=>op_to h
 | .slice o lo hi,r,st,k,h=>(rE_to o _ _ _ h).map fun ov st r h=>(rE_to lo _ _ _ h).map fun l st r h=>(rE_to hi _ _ _ h).map fun hv st r h=>op_to h
 | .rev o,r,st,k,h=>(rE_to o _ _ _ h).map fun ov st r h=>op_to h
 | .ite c a b,r,st,k,h=>(rE_to c _ _ _ h).map fun x st r h=>br_to h (fun r h=>rE_to a _ _ _ h) (fun r h=>rE_to b _ _ _ h)
 | .comp elt t it c,r,st,k,h=>ex_to h fun h=>(rE_to it _ _ _ h).map fun iv st1 r h=>mt_map h fun xs h=>(rC_to (fun _ _ _ h=>rT_to (rE_to c) (rE_to elt) h) xs h).map fun vs st' r h=>ok_to h fun r h=>.here h
 | .comp2 elt t1 it1 t2 it2 c,r,st,k,h=>ex_to h False.elim
 | .fstr a b,r,st,k,h=>(rE_to a _ _ _ h).map fun x st r h=>(rE_to b _ _ _ h).map fun y st r h=>op_to h
 | .range a,r,st,k,h=>(rE_to a _ _ _ h).map fun x st r h=>op_to h
 | .zip a b,r,st,k,h=>(rE_to a _ _ _ h).map fun x st r h=>(rE_to b _ _ _ h).map fun y st r h=>op_to h
 | .bad,_,_,_,h=>h.elim
theorem rK_to:∀ (es:List PE) (r:List Or) (st:St) (k:Ks (List AV)),rK cells call es r st k→To (evalK cells call es st) k
 | [],r,st,k,h=>⟨r,h⟩
 | e::es,r,st,k,h=>(rE_to e _ _ _ h).map fun v st r h=>(keep_to h).map fun v st r h=>(rK_to es _ _ _ h).map fun vs st r h=>.here h
theorem rL_to:∀ (es:List PE) (r:List Or) (st:St) (k:Ks (List AV)),rL cells call es r st k→To (evalL cells call es st) k
 | [],r,st,k,h=>⟨r,h⟩
 | e::es,r,st,k,h=>(rE_to e _ _ _ h).map fun v st r h=>(rL_to es _ _ _ h).map fun vs st r h=>.here h
theorem rB_to:∀ (isAnd:Bool) (es:List PE) (r:List Or) (st:St) (k:Ks AV),rB cells call isAnd es r st k→To (evalB cells call isAnd es st) k
 | isAnd,[],r,st,k,h=>⟨r,h⟩
 | isAnd,e::es,r,st,k,h=>(rE_to e _ _ _ h).map fun v st r h=>br_to h (fun r h=>cond2_to h (rB_to isAnd es r st k) fun h=>.here h) (fun r h=>cond2_to h (fun h=>.here h) (rB_to isAnd es r st k))
end
mutual
theorem rS_to:∀ (p:PS) (r:List Or) (st:St) (k:Ks Fl),rS cells call p r st k→To (execS cells call p st) k
 | .asg t e,r,st,k,h=>(rE_to e _ _ _ h).map fun v st r h=>st_to h
 | .asgT xs es,r,st,k,h=>(rL_to es _ _ _ h).map fun vs st r h=>cond_to h fun h=>.here h
 | .setItem x kk e,r,st,k,h=>(rE_to e _ _ _ h).map fun v st r h=>(keep_to h).map fun v st r h=>mt_map (var_mt h) fun ov ⟨r,h⟩=>st_to h
 | .setAttr o a e,r,st,k,h=>(rE_to e _ _ _ h).map fun v st r h=>(rE_to o _ _ _ h).map fun ov st r h=>cond_to h st_to
 | .expr e,r,st,k,h=>(rE_to e _ _ _ h).map fun v st r h=>.here h
 | .app x e,r,st,k,h=>mt_map (var_mt (o:=dget st.ρ x) (x:=x) (r:=r) h) fun ov ⟨r,h⟩=>mt_map h fun _ h=>(rE_to e _ _ _ h).map fun v st r h=>(keep_to h).map fun v st r h=>st_to h
 | .ext x e,r,st,k,h=>mt_map (var_mt (o:=dget st.ρ x) (x:=x) (r:=r) h) fun ov ⟨r,h⟩=>mt_map h fun _ h=>(rE_to e _ _ _ h).map fun v st r h=>mt_map h fun m h=>st_to h
 | .ret e,r,st,k,h=>(rE_to e _ _ _ h).map fun v st r h=>.here h
 | .ite c a b,r,st,k,h=>(rE_to c _ _ _ h).map fun x st r h=>br_to h (fun r h=>rSs_to a _ _ _ h) (fun r h=>rSs_to b _ _ _ h)
 | .for_ t it body,r,st,k,h=>ex_to h fun h=>(rE_to it _ _ _ h).map fun iv st r h=>mt_map h fun xs h=>rF_to (rSs_to body) xs h
 | .tryf a b,r,st,k,h=>(rSs_to a _ _ _ h).map fun f st r h=>(rSs_to b _ _ _ h).map fun f' st r h=>next_to h fun h=>.here h
 | .stop,_,_,_,h=>h.elim
theorem rSs_to:∀ (ps:List PS) (r:List Or) (st:St) (k:Ks Fl),rSs cells call ps r st k→To (execSs cells call ps st) k
 | [],r,st,k,h=>⟨r,h⟩
 | p::ps,r,st,k,h=>ex_to h fun h=>(ex_to h (rS_to p _ _ _)).map fun f st r h=>fl_to h (rSs_to ps r st k) fun v h=>⟨r,h⟩
end
inductive Ch:(Prop→Prop)→Prop
 | nil:Ch fun x=>x
 | cons {A:Prop} {f:Prop→Prop} (a:A) (c:Ch f):Ch fun x=>A∧f x
theorem Ch.ok {f:Prop→Prop} (c:Ch f) {x:Prop} (h:x):f x:=by
 induction c with
 | nil=>exact h
 | cons a _ ih=>exact ⟨a,ih⟩
theorem Ch.say {f:Prop→Prop} (c:Ch f) {x Q:Prop} (h:f x=Q) (q:x):Q:=h▸c.ok q
theorem k1 {A:Prop} (a:A):Ch fun x=>A∧x:=.cons a .nil
theorem k2 {A B:Prop} (a:A) (b:B):Ch fun x=>A∧B∧x:=.cons a (k1 b)
theorem k3 {A B C:Prop} (a:A) (b:B) (c:C):Ch fun x=>A∧B∧C∧x:=.cons a (k2 b c)
theorem k4 {A B C D:Prop} (a:A) (b:B) (c:C) (d:D):Ch fun x=>A∧B∧C∧D∧x:=.cons a (k3 b c d)
theorem k5 {A B C D E:Prop} (a:A) (b:B) (c:C) (d:D) (e:E):Ch fun x=>A∧B∧C∧D∧E∧x:=.cons a (k4 b c d e)
theorem k6 {A B C D E F:Prop} (a:A) (b:B) (c:C) (d:D) (e:E) (f:F):Ch fun x=>A∧B∧C∧D∧E∧F∧x:=.cons a (k5 b c d e f)
theorem k7 {A B C D E F G:Prop} (a:A) (b:B) (c:C) (d:D) (e:E) (f:F) (g:G):Ch fun x=>A∧B∧C∧D∧E∧F∧G∧x:=.cons a (k6 b c d e f g)
theorem k8 {A B C D E F G H:Prop} (a:A) (b:B) (c:C) (d:D) (e:E) (f:F) (g:G) (h:H):Ch fun x=>A∧B∧C∧D∧E∧F∧G∧H∧x:=.cons a (k7 b c d e f g h)
theorem k9 {A B C D E F G H I:Prop} (a:A) (b:B) (c:C) (d:D) (e:E) (f:F) (g:G) (h:H) (i:I):Ch fun x=>A∧B∧C∧D∧E∧F∧G∧H∧I∧x:=.cons a (k8 b c d e f g h i)
theorem k10 {A B C D E F G H I J:Prop} (a:A) (b:B) (c:C) (d:D) (e:E) (f:F) (g:G) (h:H) (i:I) (j:J):Ch fun x=>A∧B∧C∧D∧E∧F∧G∧H∧I∧J∧x:=.cons a (k9 b c d e f g h i j)
theorem k11 {A B C D E F G H I J K:Prop} (a:A) (b:B) (c:C) (d:D) (e:E) (f:F) (g:G) (h:H) (i:I) (j:J) (k:K):Ch fun x=>A∧B∧C∧D∧E∧F∧G∧H∧I∧J∧K∧x:=.cons a (k10 b c d e f g h i j k)
theorem k12 {A B C D E F G H I J K L:Prop} (a:A) (b:B) (c:C) (d:D) (e:E) (f:F) (g:G) (h:H) (i:I) (j:J) (k:K) (l:L):Ch fun x=>A∧B∧C∧D∧E∧F∧G∧H∧I∧J∧K∧L∧x:=.cons a (k11 b c d e f g h i j k l)
theorem k13 {A B C D E F G H I J K L M:Prop} (a:A) (b:B) (c:C) (d:D) (e:E) (f:F) (g:G) (h:H) (i:I) (j:J) (k:K) (l:L) (m:M):Ch fun x=>A∧B∧C∧D∧E∧F∧G∧H∧I∧J∧K∧L∧M∧x:=.cons a (k12 b c d e f g h i j k l m)
theorem to_eq {α:Type} {o:Option (α×St)} {z:Option (α×St)} (h:To o fun a st _=>some (a,st)=z):o=z:=match o,h with
 | some _,⟨_,h⟩=>h
theorem evR (r:List Or) {e:PE} {st:St} {z:Option (AV×St)} {f:Prop→Prop} (p:Ch f) (h:f (z=z)=rE cells call e r st fun a st _=>some (a,st)=z):evalE cells call e st=z:=to_eq (rE_to e r st _ (p.say h rfl))
theorem exsR (r:List Or) {e:PS} {st:St} {z:Option (Fl×St)} {f:Prop→Prop} (p:Ch f) (h:f (z=z)=rS cells call e r st fun a st _=>some (a,st)=z):execS cells call e st=z:=to_eq (rS_to e r st _ (p.say h rfl))
theorem exssR (r:List Or) {e:List PS} {st:St} {z:Option (Fl×St)} {f:Prop→Prop} (p:Ch f) (h:f (z=z)=rSs cells call e r st fun a st _=>some (a,st)=z):execSs cells call e st=z:=to_eq (rSs_to e r st _ (p.say h rfl))
theorem ttR (r:List Or) {c e:PE} {st:St} {z:Option (List AV×St)} {f:Prop→Prop} (p:Ch f) (h:f (z=z)=rT (isNoneE c) (rE cells call c) (rE cells call e) r st fun a st _=>some (a,st)=z):testThen (isNoneE c) (evalE cells call c) (evalE cells call e) st=z :=
 to_eq (rT_to (rE_to c) (rE_to e) (p.say h rfl))
noncomputable def rCall (n:Nat) (f:Fn) (args:List AV) (g:GS) (r:List Or) (z:Option (AV×GS)):Prop :=
 cond (Nat.beq args.length (bodies f).1.length) (rSs cells (callP cells bodies n) (bodies f).2 r ⟨((bodies f).1.zip args).reverse,[],g⟩ fun fl st r=>fl1 fl (some (.none,st.g)=z) fun v=>keepR v r st fun v st _=>some (v,st.g)=z) False
theorem cR (r:List Or) {n:Nat} {f:Fn} {args:List AV} {g:GS} {z:Option (AV×GS)} {F:Prop→Prop} (p:Ch F) (h:F (z=z)=rCall (cells:=cells) n f args g r z):callP cells bodies (n+1) f args g=z:=by
 have p':rCall n f args g r z:=p.say h rfl
 unfold rCall at p'
 show cond _ _ _=z
 cases hb:Nat.beq args.length (bodies f).1.length with
 | false=>rw [hb] at p';exact p'.elim
 | true =>
  rw [hb] at p'
  have:=rSs_to _ _ _ _ p'
  show bnd _ finV=z
  revert this
  cases execSs cells (callP cells bodies n) (bodies f).2 ⟨((bodies f).1.zip args).reverse,[],g⟩ with
  | none=>exact False.elim
  | some q =>
   obtain ⟨fl,st⟩:=q
   intro ⟨r,h⟩
   cases fl with
   | next=>exact h
   | ret v =>
    have:=keep_to (k:=fun v st _=>some (v,st.g)=z) h
    show (keep1 v st).map _=z
    revert this
    cases keep1 v st with
    | none=>exact False.elim
    | some q=>exact fun ⟨_,h⟩=>h
end
end P
theorem insRow_perm (x:List Int):∀ l,(insRow x l).Perm (x::l)
 | []=>.refl _
 | y::r=>by
  unfold insRow
  cases rowLt x y
  ·exact (List.Perm.cons y (insRow_perm x r)).trans (.swap x y r)
  ·exact .refl _
theorem sortRows_perm:∀ l,(sortRows l).Perm l
 | []=>.refl _
 | x::r=>(insRow_perm x (sortRows r)).trans (.cons x (sortRows_perm r))
theorem intsOf_map:∀ r:List Int,intsOf (r.map .int)=some r
 | []=>rfl
 | i::r=>congrArg (Option.map (i::·)) (intsOf_map r)
theorem rowsOf_map:∀ rs:List (List Int),rowsOf (rs.map rowAV)=some rs
 | []=>rfl
 | r::rs=>by
  show (intsOf (r.map .int)).bind _=_
  rw [intsOf_map]
  exact congrArg (Option.map (r::·)) (rowsOf_map rs)
section
variable {α:Type} [BEq α] [LawfulBEq α]
theorem dedup_cons (x:α) (r:List α):dedup (x::r)=if x∈dedup r then dedup r else x::dedup r :=
 if h:x∈dedup r then (if_pos (List.elem_iff.mpr h)).trans (if_pos h).symm else (if_neg fun q=>h (List.elem_iff.mp q)).trans (if_neg h).symm
theorem mem_dedup {x:α}:∀ {l:List α},x∈dedup l↔x∈l
 | []=>Iff.rfl
 | y::r=>by
  rw [dedup_cons]
  by_cases h:y∈dedup r
  ·rw [if_pos h,mem_dedup (l:=r)]
   refine ⟨.tail _,fun q=>?_⟩
   rcases List.mem_cons.mp q with rfl | q
   ·exact mem_dedup.mp h
   ·exact q
  ·rw [if_neg h,List.mem_cons,List.mem_cons,mem_dedup (l:=r)]
theorem dedup_nodup:∀ l:List α,(dedup l).Nodup
 | []=>.nil
 | y::r=>by
  rw [dedup_cons]
  by_cases h:y∈dedup r
  ·rw [if_pos h];exact dedup_nodup r
  ·rw [if_neg h];exact List.nodup_cons.mpr ⟨h,dedup_nodup r⟩
theorem dedup_le:∀ l:List α,(dedup l).length≤l.length
 | []=>Nat.le_refl _
 | x::r=>by
  rw [dedup_cons]
  by_cases h:x∈dedup r
  ·rw [if_pos h];exact Nat.le_succ_of_le (dedup_le r)
  ·rw [if_neg h];exact Nat.succ_le_succ (dedup_le r)
end
theorem ltp {m n:Nat} (h1:1≤m) (h:m≤n):m - 1<n:=Nat.lt_of_lt_of_le (Nat.sub_lt h1 Nat.one_pos) h
theorem mid_lo {l u:Nat} (h:l≤u):l≤(l+u) / 2:=(Nat.le_div_iff_mul_le Nat.two_pos).mpr (Nat.mul_two l▸Nat.add_le_add_left h l)
theorem mid_hi {l u:Nat} (h:l<u):(l+u) / 2<u:=Nat.div_lt_of_lt_mul (Nat.two_mul u▸Nat.add_lt_add_right h u)
theorem mid_f1 {l u f:Nat} (h:u - l≤f+1) (h0:l<u):(l+u) / 2 - l≤f:=Nat.le_of_lt_succ (Nat.lt_of_lt_of_le (Nat.sub_lt_sub_right (mid_lo (Nat.le_of_lt h0)) (mid_hi h0)) h)
theorem mid_f2 {l u f:Nat} (h:u - l≤f+1) (h0:l≤u):u - ((l+u) / 2+1)≤f:=Nat.le_trans (Nat.sub_le_sub_left (Nat.succ_le_succ (mid_lo h0)) u) (Nat.pred_le_pred h)
theorem sub0 {l u:Nat} (h:u - l≤0):u≤l:=Nat.sub_eq_zero_iff_le.mp (Nat.le_zero.mp h)
theorem le_pr {i j:Nat} (h:i≤j) (k:Nat):i - k≤j - k:=Nat.sub_le_sub_right h k
theorem pr_lt {l j:Nat} (h:l<j) {k:Nat} (hj:j<k+1):j - 1<k:=Nat.lt_of_lt_of_le (Nat.sub_lt (Nat.zero_lt_of_lt h) Nat.one_pos) (Nat.le_of_lt_succ hj)
theorem lt_pr {l j:Nat} (h:l<j):l≤j - 1:=Nat.le_pred_of_lt h
theorem mir_lt {m:Nat} (h:1≤m) (i:Nat):0+m - 1 - i<m:=Nat.lt_of_le_of_lt (Nat.sub_le _ i) ((Nat.zero_add m).symm▸Nat.sub_lt h Nat.one_pos:0+m - 1<m)
theorem mir_le {m i j:Nat} (h:i≤j):0+m - 1 - j≤0+m - 1 - i:=Nat.sub_le_sub_left h _
theorem up_sub {m n m':Nat} (h:m≤n) (c:m'≤m+(n - m)):m'≤n:=Nat.add_sub_cancel' h▸c
theorem lt_1 {j k:Nat} (h:j<k+1) (n:j≠k):j<k:=Nat.lt_of_le_of_ne (Nat.le_of_lt_succ h) n
theorem tl_lo {m q k:Nat} (hq:q+1≤m) (h:m - (q+1)≤k∧k<m):m - (q+1)≤m - (q+1)+m - 1 - k :=
 Nat.le_sub_of_add_le (Nat.le_sub_of_add_le (by rw [Nat.add_assoc];exact Nat.add_le_add_left h.2 _))
theorem tl_hi {m q k:Nat} (hq:q+1≤m) (h:m - (q+1)≤k∧k<m):m - (q+1)+m - 1 - k<m :=
 Nat.lt_of_le_of_lt (Nat.sub_le_sub_left h.1 _) (by rw [Nat.add_sub_assoc (Nat.le_trans (Nat.le_add_left 1 q) hq),Nat.add_sub_cancel_left];exact ltp (Nat.le_trans (Nat.le_add_left 1 q) hq) (Nat.le_refl _))
theorem up_r {x a K:Int} (h:x+a≤K) (ha:0≤a):x≤K:=Int.le_trans (Int.le_add_of_nonneg_right ha) h
theorem as4 {s a b c d K:Int} (h:s+(a+b+c+d)≤K):s+a+b+c+d≤K:=by rwa [← Int.add_assoc,← Int.add_assoc,← Int.add_assoc] at h
theorem as4' {s a b c d x:Int} (h:x≤s+a+b+c+d):x≤s+(a+b+c+d):=by rwa [← Int.add_assoc,← Int.add_assoc,← Int.add_assoc]
theorem st {x y:Int} (h:x≤y) (a:Int) {K:Int} (k:y+a≤K):x+a≤K:=Int.le_trans (Int.add_le_add_right h a) k
theorem hgt {h:Int} {d:Nat} (hh:h+10≤100) (hd:d≤1):h+d+2≤100:=by lia
theorem as3 {s a b c K:Int} (h:s+(a+b+c)≤K):s+a+b+c≤K:=by rwa [← Int.add_assoc,← Int.add_assoc] at h
theorem as3' {s a b c x:Int} (h:x≤s+a+b+c):x≤s+(a+b+c):=by rwa [← Int.add_assoc,← Int.add_assoc]
theorem hd1 {h:Int} {m d:Nat} (hh:h+(m+1:Nat)+2≤100) (hd:d≤m):h+1+d+2≤100:=by lia
theorem hd2 {m n d:Nat} (h:2*(m+1)≤n) (hd:d≤m):2*d+4≤n+2:=Nat.add_le_add_right (Nat.le_trans (Nat.mul_le_mul_left 2 (Nat.succ_le_succ hd)) h) 2
theorem tot4 (a b c d:Nat):a+c+(b+d)=a+b+c+d:=by rw [Nat.add_add_add_comm,Nat.add_assoc (a+b)]
namespace P
theorem idx_nat {n:Nat} {i:Int} (h0:0≤i) (h:i<n):seqIdx n i=some i.toNat:=by
 have h1:¬ i<0:=by lia
 simp [seqIdx,seqIndex?,h1,h0,h]
def Fine (N:Nat) (g:GS):Prop:=0≤g.spot∧g.spot≤N
theorem bigOk_of {i:Int} (h0:0≤i) (h:i<2 ^ 61):bigOk i=true:=by
 unfold bigOk
 exact decide_eq_true ⟨by lia,by lia⟩
noncomputable def moved (g:GS) (k:Int):GS:=⟨g.spot+k,g.spent,g.height,g.peak,g.count⟩
theorem mod_of {lh:List (LO×Bool)} {i k:Int} (h:0<k):binV lh .mod (.int i) (.int k)=some (.int (i.fmod k)):=cond_t (decide_eq_true h)
theorem mul_of {lh:List (LO×Bool)} {i k:Int} (h:bigOk i=true) (h':bigOk k=true):binV lh .mul (.int i) (.int k)=some (.int (i*k)):=cond_t (Bool.and_eq_true_iff.mpr ⟨h,h'⟩)
theorem av_true {p:Prop} [Decidable p] (h:p):asBool (.bool (decide p))=some true:=congrArg some (decide_eq_true h)
theorem av_false {p:Prop} [Decidable p] (h:¬ p):asBool (.bool (decide p))=some false:=congrArg some (decide_eq_false h)
section
variable {cells:List Int} {n:Nat} {g:GS}
theorem cell_at {i:Int} {x:Int} {st:St} (h0:0≤i) (h:i<cells.length) (hx:cells[i.toNat]?=some x):subV cells st (.lst (cells.map .int)) (.int i)=some (.int x):=by
 show (seqIdx (cells.map AV.int).length i).bind ((cells.map AV.int)[·]?)=_
 rw [List.length_map,idx_nat h0 h]
 show (cells.map AV.int)[i.toNat]?=_
 rw [List.getElem?_map,hx]
 rfl
theorem draw_ok {k:Int} (hk:0<k) {N:Nat} (hN:N<1000000) (h:Fine N g):∃ i:Int,0≤i∧i<k∧callP cells bodies (n+1) .draw [.slate,.int k] g=some (.int i,moved g 1):=by
 obtain ⟨h0,h1⟩:=h
 have hl:((cells.map AV.int).length:Int)=cells.length:=by rw [List.length_map]
 by_cases q:g.spot<cells.length
 ·obtain ⟨x,hx⟩:∃ x,cells[g.spot.toNat]?=some x:=⟨_,List.getElem?_eq_getElem (by lia)⟩
  refine ⟨x.fmod k,Int.fmod_nonneg_of_pos _ hk,Int.fmod_lt_of_pos _ hk,?_⟩
  exact cR [.b true,.g,.o (.int x),.o (.int (x.fmod k))] (k3 (av_true (hl▸q)) (cell_at (st:=⟨[(2,.int g.spot),(1,.int k),(0,.slate)],[],moved g 1⟩) h0 q hx) (mod_of (lh:=[]) (i:=x) hk)) (by kernel_rfl!)
 ·have b2:bigOk g.spot=true:=bigOk_of h0 (by lia)
  have b3:bigOk (5*g.spot)=true:=bigOk_of (by lia) (by lia)
  refine ⟨((5*g.spot*g.spot+4*g.spot+3).fmod 61).fmod k,Int.fmod_nonneg_of_pos _ hk,Int.fmod_lt_of_pos _ hk,?_⟩
  exact cR [.b false,.o (.int (5*g.spot)),.o (.int (5*g.spot*g.spot)),.o (.int (4*g.spot)),.g,.g,.g,.o (.int (((5*g.spot*g.spot+4*g.spot+3).fmod 61).fmod k))]
   (k5 (av_false (hl▸q)) (mul_of (lh:=[]) (i:=5) rfl b2) (mul_of (lh:=[]) b3 b2) (mul_of (lh:=[]) (i:=4) rfl b2) (mod_of (lh:=[]) (i:=(5*g.spot*g.spot+4*g.spot+3).fmod 61) hk)) (by kernel_rfl!)
end
set_option genCtorIdx true in
inductive Tr where
 | leaf (c:Nat)
 | arr (m1 m2:Nat) (l r:Tr)
noncomputable def Tr.av:Tr→AV
 | .leaf c=>.tup [.str 5,.int 0,.str c]
 | .arr m1 m2 l r=>.tup [.str 6,.int 0,.str m1,.str m2,l.av,r.av]
noncomputable def Tr.depth:Tr→Nat
 | .leaf _=>0
 | .arr _ _ l r=>max l.depth r.depth+1
def Tr.wf:Tr→Prop
 | .leaf c=>c=17∨c=18∨c=19∨c=20
 | .arr m1 m2 l r=>m1<5∧m2<5∧l.wf∧r.wf
theorem fzT {lh:List (LO×Bool)}:∀ T:Tr,freeze lh T.av=some (T.av,lh)
 | .leaf _=>rfl
 | .arr _ _ _ _=>rfl
theorem small_of {n:Nat} (h:n≤1000000):small n=true:=Nat.ble_eq_true_of_le (Nat.le_trans h (Nat.le_of_ble_eq_true rfl))
theorem moved_moved (g:GS) (a b:Int):moved (moved g a) b=moved g (a+b):=congrArg (fun s=>GS.mk s _ _ _ _) (Int.add_assoc _ _ _)
theorem mv {g:GS} {a b:Int} {o:Option (AV×GS)} {v:AV} (e:o=some (v,moved (moved g a) b)):o=some (v,moved g (a+b)):=moved_moved g a b▸e
theorem moved_zero (g:GS):moved g 0=g:=congrArg (fun s=>GS.mk s _ _ _ _) (Int.add_zero _)
theorem Fine.le {N M:Nat} {g:GS} (h:Fine N g) (q:N≤M):Fine M g:=⟨h.1,Int.le_trans h.2 (Int.ofNat_le.mpr q)⟩
theorem Fine.move {N:Nat} {g:GS} (h:Fine N g) (k:Nat):Fine (N+k) (moved g k):=⟨Int.add_nonneg h.1 (Int.natCast_nonneg k),by rw [Int.natCast_add];exact Int.add_le_add_right h.2 _⟩
theorem below {P:Int→Prop} {k:Nat} (h:∀ n:Nat,n<k→P n) {i:Int} (h0:0≤i) (hi:i<k):P i :=
 let ⟨n,e⟩:=Int.eq_ofNat_of_zero_le h0
 e▸h n (Int.ofNat_lt.mp (e▸hi))
theorem lt5 {P:Int→Prop} {i:Int} (h0:0≤i) (h:i<5) (a:P 0) (b:P 1) (c:P 2) (d:P 3) (e:P 4):P i:=below (k:=5) (fun n=>match n with
 | 0=>fun _=>a
 | 1=>fun _=>b
 | 2=>fun _=>c
 | 3=>fun _=>d
 | 4=>fun _=>e
 | n+5=>fun h=>absurd h (Nat.not_lt.mpr (Nat.le_add_left 5 n))) h0 h
theorem lt4 {P:Int→Prop} {i:Int} (h0:0≤i) (h:i<4) (a:P 0) (b:P 1) (c:P 2) (d:P 3):P i:=below (k:=4) (fun n=>match n with
 | 0=>fun _=>a
 | 1=>fun _=>b
 | 2=>fun _=>c
 | 3=>fun _=>d
 | n+4=>fun h=>absurd h (Nat.not_lt.mpr (Nat.le_add_left 4 n))) h0 h
theorem lt3 {P:Int→Prop} {i:Int} (h0:0≤i) (h:i<3) (a:P 0) (b:P 1) (c:P 2):P i:=below (k:=3) (fun n=>match n with
 | 0=>fun _=>a
 | 1=>fun _=>b
 | 2=>fun _=>c
 | n+3=>fun h=>absurd h (Nat.not_lt.mpr (Nat.le_add_left 3 n))) h0 h
theorem ltk {N a b:Nat} (k:Nat) (h:N<a) (e:Nat.ble (a+k) b=true):N+k<b:=Nat.lt_of_lt_of_le (Nat.add_lt_add_right h k) (Nat.le_of_ble_eq_true e)
theorem tolt {i:Int} {n:Nat} (h0:0≤i) (h:i<n):i.toNat<n:=(Int.toNat_lt h0).mpr h
section
variable {cells:List Int} {n:Nat} {g:GS}
theorem letter {st:St} {i:Int} (h0:0≤i) (h:i<4):subV cells st (.str 26) (.int i)=some (.str (17+i.toNat)):=lt4 (P:=fun i=>subV cells st (.str 26) (.int i)=some (.str (17+i.toNat))) h0 h rfl rfl rfl rfl
theorem mark_sub {st:St} {i:Int} (h0:0≤i) (h:i<5):subV cells st (.tup [.str 0,.str 1,.str 2,.str 3,.str 4]) (.int i)=some (.str i.toNat):=lt5 (P:=fun i=>subV cells st (.tup [.str 0,.str 1,.str 2,.str 3,.str 4]) (.int i)=some (.str i.toNat)) h0 h rfl rfl rfl rfl rfl
theorem leaf_ok {k:Int} (hk:0<k) (hk4:k≤4) {N:Nat} (hN:N<1000000) (h:Fine N g):∃ T:Tr,T.wf∧T.depth=0∧callP cells bodies (n+2) .leaf [.slate,.int k] g=some (T.av,moved g 1) :=
 let ⟨i,h0,h1,e⟩:=draw_ok (cells:=cells) (n:=n) hk hN h
 have h4:=Int.lt_of_lt_of_le h1 hk4
 ⟨.leaf (17+i.toNat),lt4 (P:=fun i=>(Tr.leaf (17+i.toNat)).wf) h0 h4 (.inl rfl) (.inr (.inl rfl)) (.inr (.inr (.inl rfl))) (.inr (.inr (.inr rfl))),rfl,
  cR [.c (.int i) (moved g 1),.o (.str (17+i.toNat))] (k2 e (letter (cells:=cells) (st:=⟨[(1,.int k),(0,.slate)],[],moved g 1⟩) h0 h4)) (by kernel_rfl!)⟩
end
theorem grow_of {l more:List AV} {ρ:List (Nat×AV)} {J:List (LO×Bool)} {g:GS} (h:l.length+more.length≤1000000):growV (.loc 0) more ⟨ρ,(.lst l,false)::J,g⟩=some ⟨ρ,(.lst (l++more),false)::J,g⟩:=by
 show Option.map _ (cond (small _) _ none)=_
 rw [small_of h]
 rfl
section
variable {cells:List Int} {n:Nat} {g:GS}
theorem four (g:GS):moved (moved (moved (moved g 1) 1) 1) 1=moved g 4:=by rw [moved_moved,moved_moved,moved_moved];rfl
theorem arrow0_ok {N:Nat} (hN:N<900000) (h:Fine N g):∃ T:Tr,T.wf∧T.depth=1∧callP cells bodies (n+3) .arrow [.slate,.int 0] g=some (T.av,moved g 4) :=
 let ⟨T1,w1,d1,e1⟩:=leaf_ok (cells:=cells) (n:=n) (k:=3) (by decide) (by decide) (ltk 0 hN rfl) h
 let ⟨T2,w2,d2,e2⟩:=leaf_ok (cells:=cells) (n:=n) (k:=3) (by decide) (by decide) (ltk 1 hN rfl) (h.move 1)
 let ⟨i,i0,i5,e3⟩:=draw_ok (cells:=cells) (n:=n+1) (k:=5) (by decide) (ltk 2 hN rfl) ((h.move 1).move 1)
 let ⟨j,j0,j5,e4⟩:=draw_ok (cells:=cells) (n:=n+1) (k:=5) (by decide) (ltk 3 hN rfl) (((h.move 1).move 1).move 1)
 ⟨.arr i.toNat j.toNat T1 T2,⟨tolt (n:=5) i0 i5,tolt (n:=5) j0 j5,w1,w2⟩,(congr (congrArg (fun a b=>max a b+1) d1) d2),four g ▸
 cR [.c T1.av (moved g 1),.k,.c T2.av (moved (moved g 1) 1),.k,.c (.int i) (moved (moved (moved g 1) 1) 1),.o (.str i.toNat),.c (.int j) (moved (moved (moved (moved g 1) 1) 1) 1),.o (.str j.toNat),.g,.k,.k]
  (k10 e1 (fzT (lh:=[(.lst [],false)]) T1) e2 (fzT (lh:=[(.lst [T1.av],false)]) T2) e3 (mark_sub (cells:=cells) (st:=⟨[],[],g⟩) i0 i5) e4 (mark_sub (cells:=cells) (st:=⟨[],[],g⟩) j0 j5) (fzT (lh:=[(.lst [T1.av,T2.av],false)]) T1) (fzT (lh:=[(.lst [T1.av,T2.av],false)]) T2)) (by kernel_rfl!)⟩
noncomputable abbrev lapS:PS:=.ite (.boolop true [.cmp .gt (.var 6) (.int 0),.cmp .eq (.call .draw [.var 0,.int 4]) (.int 3)]) [.app 7 (.call .arrow [.var 0,.int 0])] [.app 7 (.call .leaf [.var 0,.bin .add (.int 3) (.var 6)])]
theorem lap_ok {N:Nat} (hN:N<800000) (h:Fine N g) {ρ:List (Nat×AV)} {l:List AV} (h0:dget ρ 0=some .slate) (h6:dget ρ 6=some (.int 1)) (h7:dget ρ 7=some (.loc 0)) (hl:l.length+1≤1000000) :
  ∃ T:Tr,∃ k:Nat,k≤5∧T.wf∧T.depth≤1∧execS cells (callP cells bodies (n+3)) lapS ⟨ρ,[(.lst l,false)],g⟩=some (.next,⟨ρ,[(.lst (l++[T.av]),false)],moved g k⟩) :=
 let ⟨i,i0,i4,e⟩:=draw_ok (cells:=cells) (n:=n+2) (k:=4) (by decide) (ltk 0 hN rfl) h
 if hi:i=3 then
  let ⟨T,w,d,e1⟩:=arrow0_ok (cells:=cells) (n:=n) (ltk 1 hN rfl) (h.move 1)
  ⟨T,5,Nat.le_refl _,w,Nat.le_of_eq d,exsR [.v 6 (.int 1),.v 0 .slate,.c (.int i) (moved g 1),.b true,.v 7 (.loc 0),.v 0 .slate,.c T.av (moved g 5),.k,.s ⟨ρ,[(.lst (l++[T.av]),false)],moved g 5⟩]
   (k9 h6 h0 e (av_true hi) h7 h0 (mv e1) (fzT (lh:=[(.lst l,false)]) T) (grow_of (more:=[T.av]) (ρ:=ρ) (J:=[]) (g:=moved g 5) hl)) (by kernel_rfl!)⟩
 else
  let ⟨T,w,d,e1⟩:=leaf_ok (cells:=cells) (n:=n+1) (k:=4) (by decide) (by decide) (ltk 1 hN rfl) (h.move 1)
  ⟨T,2,by decide,w,d▸Nat.zero_le _,exsR [.v 6 (.int 1),.v 0 .slate,.c (.int i) (moved g 1),.b false,.v 7 (.loc 0),.v 0 .slate,.v 6 (.int 1),.c T.av (moved g 2),.k,.s ⟨ρ,[(.lst (l++[T.av]),false)],moved g 2⟩]
   (k10 h6 h0 e (av_false hi) h7 h0 h6 (mv e1) (fzT (lh:=[(.lst l,false)]) T) (grow_of (more:=[T.av]) (ρ:=ρ) (J:=[]) (g:=moved g 2) hl)) (by kernel_rfl!)⟩
theorem arrow_ok {N:Nat} (hN:N<700000) (h:Fine N g):∃ m1 m2:Nat,∃ l r:Tr,∃ k:Nat,k≤12∧m1<5∧m2<5∧l.wf∧r.wf∧l.depth≤1∧r.depth≤1 ∧
  callP cells bodies (n+4) .arrow [.slate,.int 1] g=some ((Tr.arr m1 m2 l r).av,moved g k) :=
 let ⟨l,k1,kb1,w1,d1,e1⟩:=lap_ok (cells:=cells) (n:=n) (ltk 0 hN rfl) h (ρ:=[(8,.int 0),(7,.loc 0),(6,.int 1),(0,.slate)]) (l:=[]) rfl rfl rfl (by decide)
 have h1:=(h.move k1).le (Nat.add_le_add_left kb1 N)
 let ⟨r,k2,kb2,w2,d2,e2⟩:=lap_ok (cells:=cells) (n:=n) (ltk 5 hN rfl) h1 (ρ:=[(8,.int 1),(8,.int 0),(7,.loc 0),(6,.int 1),(0,.slate)]) (l:=[l.av]) rfl rfl rfl (Nat.le_of_ble_eq_true rfl)
 have h2:=(h1.move k2).le (Nat.add_le_add_left kb2 _)
 let ⟨i,i0,i5,e3⟩:=draw_ok (cells:=cells) (n:=n+2) (k:=5) (by decide) (ltk 10 hN rfl) h2
 let ⟨j,j0,j5,e4⟩:=draw_ok (cells:=cells) (n:=n+2) (k:=5) (by decide) (ltk 11 hN rfl) (h2.move 1)
 ⟨i.toNat,j.toNat,l,r,k1+k2+1+1,Nat.add_le_add_right (Nat.add_le_add kb1 kb2) 2,tolt (n:=5) i0 i5,tolt (n:=5) j0 j5,w1,w2,d1,d2,by
  have eg:moved g (k1+k2+1+1:Nat)=moved (moved (moved (moved g k1) k2) 1) 1:=by rw [moved_moved,moved_moved,moved_moved];rfl
  rw [eg]
  exact cR [.n,.n,.y .next ⟨[(8,.int 0),(7,.loc 0),(6,.int 1),(0,.slate)],[(.lst [l.av],false)],moved g k1⟩,.y .next ⟨[(8,.int 1),(8,.int 0),(7,.loc 0),(6,.int 1),(0,.slate)],[(.lst [l.av,r.av],false)],moved (moved g k1) k2⟩,
    .c (.int i) (moved (moved (moved g k1) k2) 1),.o (.str i.toNat),.c (.int j) (moved (moved (moved (moved g k1) k2) 1) 1),.o (.str j.toNat),.g,.k,.k]
   (k8 e1 e2 e3 (mark_sub (cells:=cells) (st:=⟨[],[],g⟩) i0 i5) e4 (mark_sub (cells:=cells) (st:=⟨[],[],g⟩) j0 j5) (fzT (lh:=[(.lst [l.av,r.av],false)]) l) (fzT (lh:=[(.lst [l.av,r.av],false)]) r)) (by kernel_rfl!)⟩
theorem atoms_ok {N:Nat} (hN:N<900000) (h:Fine N g):∃ rows:List (List Int),rows.length≤3∧(∀ r∈rows,r.length=1∧∀ x∈r,0≤x∧x<3)∧rows.Nodup∧callP cells bodies (n+2) .atoms [.slate] g=some (.lst (rows.map rowAV),moved g 2):=by
 obtain ⟨i,i0,i4,e1⟩:=draw_ok (cells:=cells) (n:=n) (k:=4) (by decide) (ltk 0 hN rfl) h
 obtain ⟨j,j0,j3,e2⟩:=draw_ok (cells:=cells) (n:=n) (k:=3) (by decide) (ltk 1 hN rfl) (h.move 1)
 suffices hx:∃ rows:List (List Int),(rows.length≤3∧(∀ r∈rows,r.length=1∧∀ x∈r,0≤x∧x<3)∧rows.Nodup)∧callP cells bodies (n+2) .atoms [.slate] g=some (.lst (rows.map rowAV),moved (moved g 1) 1) by
  obtain ⟨rows,⟨a,b,c⟩,d⟩:=hx
  exact ⟨rows,a,b,c,moved_moved g 1 1▸d⟩
 revert e1 e2
 exact lt4 (P:=fun i=>callP cells bodies (n+1) .draw [.slate,.int 4] g=some (.int i,moved g 1)→callP cells bodies (n+1) .draw [.slate,.int 3] (moved g 1)=some (.int j,moved (moved g 1) 1)→_) i0 i4
  (fun e1 e2=>⟨[],by decide,cR [.c (.int 0) (moved g 1),.c (.int j) (moved (moved g 1) 1)] (k2 e1 e2) (by kernel_rfl!)⟩)
  (fun e1=>lt3 (P:=fun j=>callP cells bodies (n+1) .draw [.slate,.int 3] (moved g 1)=some (.int j,moved (moved g 1) 1)→_) j0 j3
   (fun e2=>⟨[[0]],by decide,cR [.c (.int 1) (moved g 1),.c (.int 0) (moved (moved g 1) 1)] (k2 e1 e2) (by kernel_rfl!)⟩)
   (fun e2=>⟨[[1]],by decide,cR [.c (.int 1) (moved g 1),.c (.int 1) (moved (moved g 1) 1)] (k2 e1 e2) (by kernel_rfl!)⟩)
   (fun e2=>⟨[[2]],by decide,cR [.c (.int 1) (moved g 1),.c (.int 2) (moved (moved g 1) 1)] (k2 e1 e2) (by kernel_rfl!)⟩))
  (fun e1=>lt3 (P:=fun j=>callP cells bodies (n+1) .draw [.slate,.int 3] (moved g 1)=some (.int j,moved (moved g 1) 1)→_) j0 j3
   (fun e2=>⟨[[0],[1]],by decide,cR [.c (.int 2) (moved g 1),.c (.int 0) (moved (moved g 1) 1)] (k2 e1 e2) (by kernel_rfl!)⟩)
   (fun e2=>⟨[[1],[2]],by decide,cR [.c (.int 2) (moved g 1),.c (.int 1) (moved (moved g 1) 1)] (k2 e1 e2) (by kernel_rfl!)⟩)
   (fun e2=>⟨[[0],[2]],by decide,cR [.c (.int 2) (moved g 1),.c (.int 2) (moved (moved g 1) 1)] (k2 e1 e2) (by kernel_rfl!)⟩))
  (fun e1=>lt3 (P:=fun j=>callP cells bodies (n+1) .draw [.slate,.int 3] (moved g 1)=some (.int j,moved (moved g 1) 1)→_) j0 j3
   (fun e2=>⟨[[0],[1],[2]],by decide,cR [.c (.int 3) (moved g 1),.c (.int 0) (moved (moved g 1) 1)] (k2 e1 e2) (by kernel_rfl!)⟩)
   (fun e2=>⟨[[0],[1],[2]],by decide,cR [.c (.int 3) (moved g 1),.c (.int 1) (moved (moved g 1) 1)] (k2 e1 e2) (by kernel_rfl!)⟩)
   (fun e2=>⟨[[0],[1],[2]],by decide,cR [.c (.int 3) (moved g 1),.c (.int 2) (moved (moved g 1) 1)] (k2 e1 e2) (by kernel_rfl!)⟩))
end
def Sm (p:Nat→Bool) (ρ ρ':List (Nat×AV)):Prop:=∀ z,p z=true→dget ρ' z=dget ρ z
theorem beq_of {x z:Nat} (h:Nat.beq x z=true):x=z:=Nat.eq_of_beq_eq_true h
theorem dget_other {ρ:List (Nat×AV)} {x z:Nat} {d:AV} (h:Nat.beq x z=false):dget ((x,d)::ρ) z=dget ρ z:=by
 show cond (Nat.beq x z) _ _=_
 rw [h]
 rfl
theorem Sm.cons {p:Nat→Bool} {ρ ρ':List (Nat×AV)} {x:Nat} {d:AV} (hx:p x=false) (h:Sm p ρ ρ'):Sm p ρ ((x,d)::ρ'):=fun z hz =>
 (dget_other (Bool.eq_false_iff.mpr fun q=>Bool.noConfusion (hx.symm.trans (beq_of q▸hz)))).trans (h z hz)
theorem Sm.refl {p:Nat→Bool} {ρ:List (Nat×AV)}:Sm p ρ ρ:=fun _ _=>rfl
theorem bnd_some {α β:Type} {o:Option (α×St)} {a:α} {st:St} {f:α→St→Option β} (h:o=some (a,st)):bnd o f=f a st:=by rw [h];rfl
theorem obind_some {α β:Type} {o:Option α} {a:α} {f:α→Option β} (h:o=some a):o.bind f=f a:=by rw [h];rfl
theorem loopC_cons {x:Nat} {body:St→Option (List AV×St)} {d:AV} {xs:List AV} {ρ:List (Nat×AV)} {lh:List (LO×Bool)} {g:GS}:loopC (.v x) body (d::xs) ⟨ρ,lh,g⟩=bnd (body ⟨(x,d)::ρ,lh,g⟩) fun ys st=>bnd (loopC (.v x) body xs st) fun zs st=>some (ys++zs,st):=rfl
theorem loopC_pure {α:Type} {x:Nat} {body:St→Option (List AV×St)} {v:α→AV} {f:α→List AV} {lh:List (LO×Bool)} {g:GS} {p:Nat→Bool} {ρ:List (Nat×AV)}:∀ (xs:List α) (ρ1:List (Nat×AV)),Sm p ρ ρ1 →
  (∀ ρ',Sm p ρ ρ'→∀ a∈xs,∃ ρ'',body ⟨(x,v a)::ρ',lh,g⟩=some (f a,⟨ρ'',lh,g⟩)∧Sm p ρ ρ'')→∃ ρ'',loopC (.v x) body (xs.map v) ⟨ρ1,lh,g⟩=some (xs.flatMap f,⟨ρ'',lh,g⟩)∧Sm p ρ ρ''
 | [],ρ1,h1,_=>⟨ρ1,rfl,h1⟩
 | a::xs,ρ1,h1,hb =>
  let ⟨ρ2,e2,h2⟩:=hb ρ1 h1 a (.head _)
  let ⟨ρ3,e3,h3⟩:=loopC_pure xs ρ2 h2 fun ρ' h b m=>hb ρ' h b (.tail _ m)
  ⟨ρ3,loopC_cons.trans ((bnd_some e2).trans (bnd_some e3)),h3⟩
section
variable {cells:List Int} {call:Fn→List AV→GS→Option (AV×GS)} {lh:List (LO×Bool)} {g:GS} {ρ:List (Nat×AV)}
theorem comp_end {u:Bool} {vs:List AV} {st:St} (hu:u=true) (hs:vs.length≤1000000):compV u ρ vs st=some (.lst vs,⟨ρ,st.lh,st.g⟩):=by
 show cond _ _ _=_
 rw [hu,small_of hs]
 rfl
theorem for_eq {t:Tgt} {it:PE} {b:List PS} {st st1:St} {iv:AV} {xs:List AV} {z:Option (Fl×St)} (h1:evalE cells call it st=some (iv,st1)) (h2:itemsOfT t iv=some xs) (h3:loopF t (execSs cells call b) xs st1=z):execS cells call (.for_ t it b) st=z:=by
 show bnd (evalE cells call it st) (fun iv st=>(itemsOfT t iv).bind fun xs=>loopF t (execSs cells call b) xs st)=z
 exact (bnd_some h1).trans ((obind_some h2).trans h3)
abbrev not1 (x z:Nat):Bool:=!Nat.beq x z
abbrev not2 (x y z:Nat):Bool:=!Nat.beq x z&&!Nat.beq y z
theorem not1_x {x:Nat}:not1 x x=false:=congrArg not (Nat.beq_refl x)
theorem not2_x {x y:Nat}:not2 x y x=false:=by show (!Nat.beq x x&&_)=false;rw [Nat.beq_refl];rfl
theorem not2_y {x y:Nat}:not2 x y y=false:=by show (_&&!Nat.beq y y)=false;rw [Nat.beq_refl,Bool.and_comm];rfl
theorem comp_eq {t:Tgt} {elt it c:PE} {st st1 st2:St} {iv:AV} {xs vs:List AV} (h1:evalE cells call it st=some (iv,st1)) (h2:itemsOfT t iv=some xs) (h3:loopC t (testThen (isNoneE c) (evalE cells call c) (evalE cells call elt)) xs st1=some (vs,st2)) (hu:unb t st1.ρ=true) (hs:vs.length≤1000000):evalE cells call (.comp elt t it c) st=some (.lst vs,⟨st1.ρ,st2.lh,st2.g⟩):=by
 show bnd (evalE cells call it st) (fun iv st=>(itemsOfT t iv).bind fun xs=>bnd (loopC t (testThen (isNoneE c) (evalE cells call c) (evalE cells call elt)) xs st) (compV (unb t st.ρ) st.ρ))=_
 exact (bnd_some h1).trans ((obind_some h2).trans ((bnd_some h3).trans (comp_end hu hs)))
theorem eval_comp {α:Type} {elt it c:PE} {x:Nat} {iv:AV} {xs:List α} {v:α→AV} (f:α→List AV)
  (h1:evalE cells call it ⟨ρ,lh,g⟩=some (iv,⟨ρ,lh,g⟩)) (h2:itemsOfT (.v x) iv=some (xs.map v))
  (hb:∀ ρ',Sm (not1 x) ρ ρ'→∀ a∈xs,testThen (isNoneE c) (evalE cells call c) (evalE cells call elt) ⟨(x,v a)::ρ',lh,g⟩=some (f a,⟨(x,v a)::ρ',lh,g⟩))
  (hu:dget ρ x=none) (hs:(xs.flatMap f).length≤1000000) :
  evalE cells call (.comp elt (.v x) it c) ⟨ρ,lh,g⟩=some (.lst (xs.flatMap f),⟨ρ,lh,g⟩) :=
 let ⟨_,e,_⟩:=loopC_pure (p:=not1 x) xs ρ .refl fun ρ' h a m=>⟨_,hb ρ' h a m,h.cons not1_x⟩
 comp_eq h1 h2 e (congrArg Option.isNone hu) hs
theorem eval_comp2 {α β:Type} {elt it1 it2 c:PE} {x y:Nat} {iv:AV} {xs:List α} {v:α→AV} {w:β→AV} (jv:α→AV) (ys:α→List β) (f:α→β→List AV)
  (h1:evalE cells call it1 ⟨ρ,lh,g⟩=some (iv,⟨ρ,lh,g⟩)) (h2:itemsOfT (.v x) iv=some (xs.map v))
  (hb:∀ ρ',Sm (not2 x y) ρ ρ'→∀ a∈xs,evalE cells call it2 ⟨(x,v a)::ρ',lh,g⟩=some (jv a,⟨(x,v a)::ρ',lh,g⟩))
  (h3:∀ a∈xs,itemsOfT (.v y) (jv a)=some ((ys a).map w))
  (hc:∀ a∈xs,∀ ρ',Sm (not2 x y) ρ ρ'→dget ρ' x=some (v a)→∀ b∈ys a,testThen (isNoneE c) (evalE cells call c) (evalE cells call elt) ⟨(y,w b)::ρ',lh,g⟩=some (f a b,⟨(y,w b)::ρ',lh,g⟩))
  (hxy:Nat.beq y x=false) (hu:dget ρ x=none) (hu2:dget ρ y=none) (hs:(xs.flatMap fun a=>(ys a).flatMap (f a)).length≤1000000) :
  evalE cells call (.comp2 elt (.v x) it1 (.v y) it2 c) ⟨ρ,lh,g⟩=some (.lst (xs.flatMap fun a=>(ys a).flatMap (f a)),⟨ρ,lh,g⟩) :=
 let ⟨_,e,_⟩:=loopC_pure (p:=not2 x y) xs ρ .refl fun ρ' h a m =>
  let ⟨ρ2,e2,h2⟩:=loopC_pure (body:=testThen (isNoneE c) (evalE cells call c) (evalE cells call elt)) (v:=w) (f:=f a) (lh:=lh) (g:=g) (p:=not1 y) (ρ:=(x,v a)::ρ') (x:=y) (ys a) _ .refl fun ρ'' h' b m' =>
   ⟨_,hc a m ρ'' (fun z hz=>(h' z (Bool.and_eq_true_iff.mp hz).2).trans ((h.cons not2_x) z hz)) ((h' x (congrArg not hxy)).trans (by rw [dget,Nat.beq_refl];rfl)) b m',h'.cons not1_x⟩
  ⟨ρ2,(bnd_some (hb ρ' h a m)).trans ((obind_some (h3 a m)).trans e2),fun z hz=>(h2 z (Bool.and_eq_true_iff.mp hz).2).trans ((h.cons not2_x) z hz)⟩
 (bnd_some h1).trans ((obind_some h2).trans ((bnd_some e).trans (comp_end (by show (Option.isNone _&&Option.isNone _)=true;rw [hu,hu2];rfl) hs)))
end
abbrev Row:=List Int
structure Sets where
 A:List Row
 B:List Row
 V:List Row
 R:List Row
noncomputable def Sets.at (S:Sets) (c:Nat):List Row:=if Nat.beq c 17 then S.A else if Nat.beq c 18 then S.B else if Nat.beq c 19 then S.V else S.R
noncomputable def Sets.av (S:Sets):AV:=.dct [(17,.lst (S.A.map rowAV)),(18,.lst (S.B.map rowAV)),(19,.lst (S.V.map rowAV)),(20,.lst (S.R.map rowAV))]
noncomputable def tuplesP (S:Sets):Tr→List Row
 | .leaf c=>S.at c
 | .arr _ _ l r=>(tuplesP S l).flatMap fun a=>(tuplesP S r).map fun b=>a++b
noncomputable def Tr.leaves:Tr→List Nat
 | .leaf c=>[c]
 | .arr _ _ l r=>l.leaves++r.leaves
noncomputable def arOf (c:Nat):Nat:=if Nat.beq c 20 then 2 else 1
noncomputable def Tr.ar (T:Tr):Nat:=match T with
 | .leaf c=>arOf c
 | .arr _ _ l r=>l.ar+r.ar
structure Sets.ok (S:Sets):Prop where
 len:∀ c,c=17∨c=18∨c=19∨c=20→(S.at c).length≤3
 ar:∀ c,c=17∨c=18∨c=19∨c=20→∀ r∈S.at c,r.length=arOf c
 ent:∀ c,c=17∨c=18∨c=19∨c=20→∀ r∈S.at c,∀ x∈r,0≤x∧x<3
theorem flat_len {α β:Type} (f:α→List β) (k:Nat):∀ xs:List α,(∀ x∈xs,(f x).length≤k)→(xs.flatMap f).length≤xs.length*k:=by
 intro xs
 induction xs with
 | nil=>intro _;simp
 | cons x xs ih =>
  intro h
  have h1:=h x (by simp)
  have h2:=ih fun y hy=>h y (by simp [hy])
  rw [List.flatMap_cons,List.length_append,List.length_cons,Nat.succ_mul]
  lia
theorem tuples_len {S:Sets} (hS:S.ok):∀ T:Tr,T.wf→(tuplesP S T).length≤3 ^ T.leaves.length:=by
 intro T
 induction T with
 | leaf c=>intro h;exact hS.len c h
 | arr m1 m2 l r ihl ihr =>
  intro h
  have h1:=ihl h.2.2.1
  have h2:=ihr h.2.2.2
  show ((tuplesP S l).flatMap fun a=>(tuplesP S r).map fun b=>a++b).length≤3 ^ (l.leaves++r.leaves).length
  rw [List.length_append,Nat.pow_add]
  refine Nat.le_trans (flat_len _ (tuplesP S r).length _ fun x _=>by rw [List.length_map];exact Nat.le_refl _) ?_
  exact Nat.mul_le_mul h1 h2
theorem leaves_len:∀ T:Tr,T.leaves.length≤2 ^ T.depth:=by
 intro T
 induction T with
 | leaf c=>exact Nat.le_refl _
 | arr m1 m2 l r ihl ihr =>
  show (l.leaves++r.leaves).length≤2 ^ (max l.depth r.depth+1)
  rw [List.length_append,Nat.pow_succ]
  have h1:2 ^ l.depth≤2 ^ max l.depth r.depth:=Nat.pow_le_pow_right (by lia) (by lia)
  have h2:2 ^ r.depth≤2 ^ max l.depth r.depth:=Nat.pow_le_pow_right (by lia) (by lia)
  lia
theorem tuples_len2 {S:Sets} (hS:S.ok) {T:Tr} (w:T.wf) (hd:T.depth≤2):(tuplesP S T).length≤81:=by
 refine Nat.le_trans (tuples_len hS T w) ?_
 have h:T.leaves.length≤4:=Nat.le_trans (leaves_len T) (Nat.pow_le_pow_right (n:=2) (by lia) hd)
 exact Nat.pow_le_pow_right (n:=3) (by lia) h
theorem tuples_len1 {S:Sets} (hS:S.ok) {T:Tr} (w:T.wf) (hd:T.depth≤1):(tuplesP S T).length≤9:=by
 refine Nat.le_trans (tuples_len hS T w) ?_
 have h:T.leaves.length≤2:=Nat.le_trans (leaves_len T) (Nat.pow_le_pow_right (n:=2) (by lia) hd)
 exact Nat.pow_le_pow_right (n:=3) (by lia) h
theorem tuples_ar {S:Sets} (hS:S.ok):∀ T:Tr,T.wf→∀ r∈tuplesP S T,r.length=T.ar:=by
 intro T
 induction T with
 | leaf c=>intro h;exact hS.ar c h
 | arr m1 m2 l r ihl ihr =>
  intro h t ht
  obtain ⟨a,ha,hb⟩:=List.mem_flatMap.1 ht
  obtain ⟨b,hb2,rfl⟩:=List.mem_map.1 hb
  rw [List.length_append,ihl h.2.2.1 a ha,ihr h.2.2.2 b hb2]
  rfl
theorem tuples_ent {S:Sets} (hS:S.ok):∀ T:Tr,T.wf→∀ r∈tuplesP S T,∀ x∈r,0≤x∧x<3:=by
 intro T
 induction T with
 | leaf c=>intro h;exact hS.ent c h
 | arr m1 m2 l r ihl ihr =>
  intro h t ht x hx
  obtain ⟨a,ha,hb⟩:=List.mem_flatMap.1 ht
  obtain ⟨b,hb2,rfl⟩:=List.mem_map.1 hb
  rcases List.mem_append.1 hx with hx | hx
  ·exact ihl h.2.2.1 a ha x hx
  ·exact ihr h.2.2.2 b hb2 x hx
theorem row_app (a b:Row):rowAV (a++b)=.tup (a.map .int++b.map .int):=by
 unfold rowAV
 rw [List.map_append]
theorem b_rows {lh:List (LO×Bool)} {a b:Row} (h:a.length+b.length≤1000000):binV lh .add (rowAV a) (rowAV b)=some (rowAV (a++b)):=by
 show cond (small ((a.map AV.int).length+(b.map AV.int).length)) (some (AV.tup (a.map .int++b.map .int))) none=_
 rw [row_app,List.length_map,List.length_map,small_of h]
 rfl
theorem at_get {S:Sets} {c:Nat} (h:c=17∨c=18∨c=19∨c=20):dget [(17,AV.lst (S.A.map rowAV)),(18,.lst (S.B.map rowAV)),(19,.lst (S.V.map rowAV)),(20,.lst (S.R.map rowAV))] c=some (.lst ((S.at c).map rowAV)):=by
 rcases h with rfl | rfl | rfl | rfl <;> rfl
theorem flat_map_one {α β:Type} (f:α→β) (xs:List α):(xs.flatMap fun a=>[f a])=xs.map f:=by
 induction xs with
 | nil=>rfl
 | cons x xs ih=>rw [List.flatMap_cons,ih];rfl
theorem ar_le:∀ T:Tr,T.ar≤2*T.leaves.length:=by
 intro T
 induction T with
 | leaf c =>
  show arOf c≤2
  unfold arOf
  cases Nat.beq c 20 <;> decide
 | arr m1 m2 l r ihl ihr =>
  show l.ar+r.ar≤2*(l.leaves++r.leaves).length
  rw [List.length_append]
  lia
theorem ar_le2 {T:Tr} (hd:T.depth≤2):T.ar≤8:=by
 have h:T.leaves.length≤4:=Nat.le_trans (leaves_len T) (Nat.pow_le_pow_right (n:=2) (by lia) hd)
 have:=ar_le T
 lia
theorem lt_pred {d n:Nat} {P:Nat→Prop} (hn:d<n) (h:∀ m,d≤m→P (m+1)):P n:=match n,hn with
 | n+1,hn=>h n (Nat.le_of_lt_succ hn)
theorem tuples_ok {cells:List Int} {S:Sets} (hS:S.ok):∀ T:Tr,T.wf→T.depth≤2→∀ n,T.depth<n→∀ g,callP cells bodies n .tuples [T.av,S.av] g=some (.lst ((tuplesP S T).map rowAV),g)
 | .leaf c,h,_,n,hn,g=>lt_pred (P:=fun n=>callP cells bodies n .tuples [(Tr.leaf c).av,S.av] g=some (.lst ((S.at c).map rowAV),g)) hn fun n _ =>
  cR [.b true,.g,.o (.lst ((S.at c).map rowAV))] (k2 (Eq.refl (some true)) (at_get (S:=S) h)) (by kernel_rfl!)
 | .arr m1 m2 l r,h,hd,n,hn,g=>lt_pred (P:=fun n=>callP cells bodies n .tuples [(Tr.arr m1 m2 l r).av,S.av] g=some (.lst ((tuplesP S (.arr m1 m2 l r)).map rowAV),g)) hn fun n hn=>by
  have hl:l.depth<n:=Nat.lt_of_le_of_lt (Nat.le_max_left _ r.depth) hn
  have hr:r.depth<n:=Nat.lt_of_le_of_lt (Nat.le_max_right l.depth _) hn
  have hl2:l.depth≤2:=Nat.le_trans (Nat.le_max_left _ r.depth) (Nat.le_of_succ_le hd)
  have hr2:r.depth≤2:=Nat.le_trans (Nat.le_max_right l.depth _) (Nat.le_of_succ_le hd)
  have ef:(tuplesP S (.arr m1 m2 l r)).map rowAV=(tuplesP S l).flatMap fun a=>(tuplesP S r).flatMap fun b=>[rowAV (a++b)]:=by
   show List.map rowAV ((tuplesP S l).flatMap fun a=>(tuplesP S r).map fun b=>a++b)=_
   rw [List.map_flatMap]
   congr 1
   funext a
   rw [flat_map_one,List.map_map]
   rfl
  have hc:=eval_comp2 (cells:=cells) (call:=callP cells bodies n) (lh:=[]) (g:=g) (ρ:=[(11,S.av),(10,(Tr.arr m1 m2 l r).av)])
   (elt:=.bin .add (.var 14) (.var 15)) (x:=14) (y:=15) (it1:=.call .tuples [.sub (.var 10) (.int 4),.var 11]) (it2:=.call .tuples [.sub (.var 10) (.int 5),.var 11]) (c:=.none_)
   (xs:=tuplesP S l) (v:=rowAV) (w:=rowAV) (fun _=>.lst ((tuplesP S r).map rowAV)) (fun _=>tuplesP S r) (fun a b=>[rowAV (a++b)]) (iv:=.lst ((tuplesP S l).map rowAV))
   (evR [.k,.g,.c (.lst ((tuplesP S l).map rowAV)) g] (k2 (fzT (lh:=[]) l) (tuples_ok (cells:=cells) hS l h.2.2.1 hl2 n hl g)) (by kernel_rfl!)) rfl
   (fun ρ' hρ a _=>evR [.v 10 (Tr.arr m1 m2 l r).av,.k,.v 11 S.av,.c (.lst ((tuplesP S r).map rowAV)) g] (k4 (hρ 10 rfl) (fzT (lh:=[]) r) (hρ 11 rfl) (tuples_ok (cells:=cells) hS r h.2.2.2 hr2 n hr g)) (by kernel_rfl!))
   (fun _ _=>rfl)
   (fun a ha ρ' _ hx b hb=>ttR [.v 14 (rowAV a),.o (rowAV (a++b))] (k2 hx (b_rows (lh:=[]) (a:=a) (b:=b) (by rw [tuples_ar hS l h.2.2.1 a ha,tuples_ar hS r h.2.2.2 b hb];exact Nat.le_trans (Nat.add_le_add (ar_le2 hl2) (ar_le2 hr2)) (by decide)))) (by kernel_rfl!))
   rfl rfl rfl (by rw [← ef,List.length_map];exact Nat.le_trans (tuples_len2 hS h hd) (by decide))
  rw [← ef] at hc
  exact cR [.b false,.e (.lst ((tuplesP S (.arr m1 m2 l r)).map rowAV)) ⟨[(11,S.av),(10,(Tr.arr m1 m2 l r).av)],[],g⟩] (k2 (Eq.refl (some false)) hc) (by kernel_rfl!)
theorem fmod_lt {z:Int} {m:Nat} (h:0<m):0≤z.fmod m∧z.fmod m<m:=⟨Int.fmod_nonneg_of_pos _ (Int.ofNat_lt.mpr h),Int.fmod_lt_of_pos _ (Int.ofNat_lt.mpr h)⟩
noncomputable def pick (right:List Row) (z:Int):Row:=right.getD (z.fmod right.length).toNat []
theorem pick_mem {right:List Row} (h:0<right.length) {z:Int}:pick right z∈right:=by
 have hi:=tolt (fmod_lt (z:=z) h).1 (fmod_lt (z:=z) h).2
 unfold pick
 rw [List.getD_eq_getElem?_getD,List.getElem?_eq_getElem hi]
 exact List.getElem_mem _
theorem pick_sub {cells:List Int} {st:St} {right:List Row} (h:0<right.length) {z:Int}:subV cells st (.lst (right.map rowAV)) (.int (z.fmod right.length))=some (rowAV (pick right z)):=by
 have hi:=tolt (fmod_lt (z:=z) h).1 (fmod_lt (z:=z) h).2
 show (seqIdx (right.map rowAV).length _).bind ((right.map rowAV)[·]?)=_
 rw [List.length_map,idx_nat (fmod_lt h).1 (fmod_lt h).2]
 show (right.map rowAV)[_]?=_
 unfold pick
 rw [List.getElem?_map,List.getElem?_eq_getElem hi,List.getD_eq_getElem?_getD,List.getElem?_eq_getElem hi]
 rfl
theorem elem_eq {l:List Row} {x:Row}:l.elem x=decide (x∈l) :=
 if h:x∈l then (List.elem_eq_true_of_mem h).trans (decide_eq_true h).symm else (Bool.eq_false_iff.mpr fun q=>h (List.mem_of_elem_eq_true q)).trans (decide_eq_false h).symm
theorem last_get {α:Type} {x:α}:∀ {l:List α},(l++[x])[l.length]?=some x
 | []=>rfl
 | _::l=>last_get (l:=l)
theorem eq_nil {lh:List (LO×Bool)} {v:AV} {l:List AV} (h:eqV (lh++[(.lst [],false)]) v (.loc lh.length)=(listOf (lh++[(.lst [],false)]) v).bind fun l=>(listOf (lh++[(.lst [],false)]) (.loc lh.length)).bind fun m=>eqL l m) (hl:listOf (lh++[(.lst [],false)]) v=some l):eqV (lh++[(.lst [],false)]) v (.loc lh.length)=some l.isEmpty:=by
 have h2:listOf (lh++[(.lst [],false)]) (.loc lh.length)=some []:=by
  show ((lh++[(LO.lst [],false)])[lh.length]?).bind _=_
  rw [last_get]
  rfl
 rw [h,hl]
 show (listOf (lh++[(.lst [],false)]) (.loc lh.length)).bind _=_
 rw [h2]
 rfl
theorem ne_nil {lh:List (LO×Bool)} {l:List AV}:cmpV (lh++[(.lst [],false)]) .ne (.lst l) (.loc lh.length)=some (.bool !l.isEmpty):=congrArg (Option.map fun x=>AV.bool !x) (eq_nil rfl rfl)
theorem is_nil {lh:List (LO×Bool)} {l:List AV}:cmpV (lh++[(.lst [],false)]) .eq (.lst l) (.loc lh.length)=some (.bool l.isEmpty):=congrArg (Option.map AV.bool) (eq_nil rfl rfl)
theorem ne_nil0 {lh:List (LO×Bool)} {l:List AV} {b:Bool}:cmpV ((.lst l,b)::lh++[(.lst [],false)]) .ne (.loc 0) (.loc (lh.length+1))=some (.bool !l.isEmpty):=congrArg (Option.map fun x=>AV.bool !x) (eq_nil (lh:=(.lst l,b)::lh) rfl rfl)
theorem len_rows {lh:List (LO×Bool)} {l:List Row}:biV lh .len [.lst (l.map rowAV)]=some (.int l.length):=congrArg (fun n:Nat=>some (AV.int n)) (List.length_map _)
theorem grow_rows {l more:List Row} {ρ:List (Nat×AV)} {J:List (LO×Bool)} {g:GS} (h:l.length+more.length≤1000000):growV (.loc 0) (more.map rowAV) ⟨ρ,(.lst (l.map rowAV),false)::J,g⟩=some ⟨ρ,(.lst ((l++more).map rowAV),false)::J,g⟩:=by
 rw [List.map_append]
 exact grow_of (by rw [List.length_map,List.length_map];exact h)
theorem range_of {k:Nat} (h:k<1000000):rangeV (.int k)=some (.rng k):=by
 have e:0≤(k:Int)∧(k:Int)<1000000:=by lia
 exact (obind_some (o:=asInt (.int k)) (a:=(k:Int)) (f:=fun n=>cond (decide (0≤n∧n<1000000)) (some (AV.rng n)) none) rfl).trans (cond_t (decide_eq_true e))
theorem it_range {x k:Nat}:itemsOfT (.v x) (.rng k)=some ((List.range k).map fun (i:Nat)=>AV.int (i:Int)):=by
 show some ((List.range (k:Int).toNat).map _)=_
 rw [Int.toNat_natCast]
noncomputable def valC:PE:=.comp (.bin .add (.var 14) (.sub (.var 12) (.bin .mod (.bin .add (.var 4) (.var 5)) (.bi .len [.var 12])))) (.v 5) (.range (.var 3)) .none_
noncomputable def valBody:List PS:=[.asg (.v 3) (.ite (.cmp .ne (.var 12) (.lst [])) (.sub (.tup [.int 0,.int 1,.int 1,.int 2]) (.call .draw [.var 0,.int 4])) (.int 0)),
   .asg (.v 4) (.ite (.cmp .gt (.var 3) (.int 0)) (.call .draw [.var 0,.bi .len [.var 12]]) (.int 0)),
   .ext 13 valC]
noncomputable def ρv (T s:AV) (right:List Row):List (Nat×AV):=[(13,.loc 0),(12,.lst (right.map rowAV)),(11,s),(10,T),(0,.slate)]
noncomputable def pv (z:Nat):Bool:=!Nat.beq 14 z&&!Nat.beq 3 z&&!Nat.beq 4 z
section
variable {cells:List Int} {n:Nat} {right:List Row} {T s:AV}
theorem val_comp (hrw:∀ b∈right,b.length≤8) {a:Row} (ha:a.length≤8) {ρ:List (Nat×AV)} {k:Nat} {j:Int} (hk:k≤2) (hne:0<right.length∨k=0) {lh:List (LO×Bool)} {g:GS} (h14:dget ρ 14=some (rowAV a)) (h12:dget ρ 12=some (.lst (right.map rowAV))) (h4:dget ρ 4=some (.int j)) (h3:dget ρ 3=some (.int k)) (h5:dget ρ 5=none)
  {call:Fn→List AV→GS→Option (AV×GS)}:∃ more:List Row,more.length=k∧(∀ t∈more,∃ b∈right,t=a++b)∧evalE cells call valC ⟨ρ,lh,g⟩=some (.lst (more.map rowAV),⟨ρ,lh,g⟩):=by
 have hp:∀ i∈List.range k,0<right.length:=fun i hi=>hne.resolve_right fun q=>by subst q;cases hi
 refine ⟨(List.range k).map fun i=>a++pick right (j+((i:Nat):Int)),by rw [List.length_map,List.length_range],fun t ht=>?_,?_⟩
 ·obtain ⟨i,hi,rfl⟩:=List.mem_map.mp ht
  exact ⟨_,pick_mem (hp i hi),rfl⟩
 ·have e:=eval_comp (cells:=cells) (call:=call) (lh:=lh) (g:=g) (ρ:=ρ) (elt:=.bin .add (.var 14) (.sub (.var 12) (.bin .mod (.bin .add (.var 4) (.var 5)) (.bi .len [.var 12])))) (it:=.range (.var 3)) (c:=.none_) (x:=5) (iv:=.rng k) (xs:=List.range k) (v:=fun i=>.int (i:Nat)) (fun i=>[rowAV (a++pick right (j+((i:Nat):Int)))])
   (evR [.v 3 (.int k),.o (.rng k)] (k2 h3 (range_of (Nat.lt_of_le_of_lt hk (by decide)))) (by kernel_rfl!)) it_range
   (fun ρ' h i hi=>ttR [.v 14 (rowAV a),.v 12 (.lst (right.map rowAV)),.v 4 (.int j),.g,.v 12 (.lst (right.map rowAV)),.o (.int right.length),.o (.int ((j+((i:Nat):Int)).fmod right.length)),.o (rowAV (pick right (j+((i:Nat):Int)))),.o (rowAV (a++pick right (j+((i:Nat):Int))))]
    (k8 ((h 14 rfl).trans h14) ((h 12 rfl).trans h12) ((h 4 rfl).trans h4) ((h 12 rfl).trans h12) (len_rows (lh:=lh) (l:=right)) (mod_of (lh:=lh) (i:=j+((i:Nat):Int)) (Int.ofNat_lt.mpr (hp i hi))) (pick_sub (cells:=cells) (st:=⟨(5,.int (i:Nat))::ρ',lh,g⟩) (hp i hi) (z:=j+((i:Nat):Int))) (b_rows (lh:=lh) (a:=a) (b:=pick right (j+((i:Nat):Int))) (Nat.le_trans (Nat.add_le_add ha (hrw _ (pick_mem (hp i hi)))) (by decide)))) (by kernel_rfl!))
   h5 (by rw [flat_map_one,List.length_map,List.length_range];exact Nat.le_trans hk (by decide))
  rw [flat_map_one] at e
  rw [List.map_map]
  exact e
theorem kind_sub {st:St} {i:Int} (h0:0≤i) (h:i<4):∃ k:Nat,k≤2∧subV cells st (.tup [.int 0,.int 1,.int 1,.int 2]) (.int i)=some (.int k):=lt4 (P:=fun i=>∃ k:Nat,k≤2∧subV cells st (.tup [.int 0,.int 1,.int 1,.int 2]) (.int i)=some (.int k)) h0 h ⟨0,by decide,rfl⟩ ⟨1,by decide,rfl⟩ ⟨1,by decide,rfl⟩ ⟨2,by decide,rfl⟩
theorem isEmpty_map {α β:Type} {f:α→β} {l:List α} (h:0<l.length):(l.map f).isEmpty=false:=match l,h with
 | _::_,_=>rfl
theorem gt0_t {lh:List (LO×Bool)} {k:Nat} (h:0<k):cmpV lh .gt (.int k) (.int 0)=some (.bool true):=congrArg (fun b=>some (AV.bool b)) (decide_eq_true (Int.ofNat_lt.mpr h))
theorem val_lap (hr:right.length≤9) (hrw:∀ b∈right,b.length≤8) {g:GS} {N:Nat} (hN:N<900000) (h:Fine N g) {ρ:List (Nat×AV)} (I:Sm pv (ρv T s right) ρ) {a:Row} (ha:a.length≤8) {found:List Row} (hf:found.length≤100) (J:List (LO×Bool)) :
  ∃ (ρ':List (Nat×AV)) (J':List (LO×Bool)) (more:List Row) (k:Nat),k≤2∧more.length≤2∧(∀ t∈more,∃ b∈right,t=a++b)∧Sm pv (ρv T s right) ρ' ∧
   execSs cells (callP cells bodies (n+1)) valBody ⟨(14,rowAV a)::ρ,(.lst (found.map rowAV),false)::J,g⟩=some (.next,⟨ρ',(.lst ((found++more).map rowAV),false)::J',moved g (k:Nat)⟩):=by
 have keep:∀ x y:AV,Sm pv (ρv T s right) ((4,x)::(3,y)::(14,rowAV a)::ρ):=fun x y=>((I.cons rfl).cons rfl).cons rfl
 have gr:∀ (more:List Row) (ρ J g),more.length≤2→growV (.loc 0) (more.map rowAV) ⟨ρ,(.lst (found.map rowAV),false)::J,g⟩=some ⟨ρ,(.lst ((found++more).map rowAV),false)::J,g⟩:=fun more ρ J g hm=>grow_rows (Nat.le_trans (Nat.add_le_add hf hm) (by decide))
 have nn:=fun b=>ne_nil (lh:=(.lst (found.map rowAV),b)::J) (l:=right.map rowAV)
 match hr0:right.length with
 | 0 =>
  have hr0:=List.length_eq_zero_iff.mp hr0
  subst hr0
  obtain ⟨more,hm,hmo,e⟩:=val_comp (cells:=cells) (call:=callP cells bodies (n+1)) (ρ:=(4,.int 0)::(3,.int (0:Nat))::(14,rowAV a)::ρ) (lh:=(.lst (found.map rowAV),false)::(J++[(.lst [],false)])) (g:=moved g 0) (j:=0) hrw ha (Nat.zero_le _) (.inr rfl) rfl (I 12 rfl) rfl rfl (I 5 rfl)
  refine ⟨_,J++[(.lst [],false)],more,0,Nat.zero_le _,hm▸Nat.zero_le _,hmo,keep (.int 0) (.int (0:Nat)),?_⟩
  have h0:moved g (0:Nat)=g:=moved_zero g
  rw [h0]
  have h0':moved g 0=g:=moved_zero g
  rw [h0'] at e
  exact exssR [.v 12 (.lst []),.o (.bool false),.v 13 (.loc 0),.e (.lst (more.map rowAV)) ⟨(4,.int 0)::(3,.int (0:Nat))::(14,rowAV a)::ρ,(.lst (found.map rowAV),false)::(J++[(.lst [],false)]),g⟩,.s ⟨(4,.int 0)::(3,.int (0:Nat))::(14,rowAV a)::ρ,(.lst ((found++more).map rowAV),false)::(J++[(.lst [],false)]),g⟩]
   (k5 (I 12 rfl) (nn false) (I 13 rfl) e (gr more ((4,.int 0)::(3,.int (0:Nat))::(14,rowAV a)::ρ) (J++[(.lst [],false)]) g (hm▸Nat.zero_le _))) (by kernel_rfl!)
 | m+1 =>
  have hp:0<right.length:=hr0▸Nat.succ_pos m
  have nn1:cmpV (((.lst (found.map rowAV),false)::J)++[(.lst [],false)]) .ne (.lst (right.map rowAV)) (.loc ((LO.lst (found.map rowAV),false)::J).length)=some (.bool true):=by rw [ne_nil,isEmpty_map hp];rfl
  obtain ⟨i,i0,i4,e1⟩:=draw_ok (cells:=cells) (n:=n) (k:=4) (by decide) (ltk 0 hN rfl) h
  obtain ⟨k,hk,e2⟩:=kind_sub (cells:=cells) (st:=⟨(14,rowAV a)::ρ,(.lst (found.map rowAV),false)::(J++[(.lst [],false)]),moved g 1⟩) i0 i4
  match k,hk,e2 with
  | 0,_,e2 =>
   obtain ⟨more,hm,hmo,e⟩:=val_comp (cells:=cells) (call:=callP cells bodies (n+1)) (ρ:=(4,.int 0)::(3,.int (0:Nat))::(14,rowAV a)::ρ) (lh:=(.lst (found.map rowAV),false)::(J++[(.lst [],false)])) (g:=moved g 1) (j:=0) hrw ha (Nat.zero_le _) (.inr rfl) rfl (I 12 rfl) rfl rfl (I 5 rfl)
   exact ⟨_,J++[(.lst [],false)],more,1,by decide,hm▸Nat.zero_le _,hmo,keep (.int 0) (.int (0:Nat)),exssR [.v 12 (.lst (right.map rowAV)),.o (.bool true),.v 0 .slate,.c (.int i) (moved g 1),.o (.int (0:Nat)),.v 13 (.loc 0),.e (.lst (more.map rowAV)) ⟨(4,.int 0)::(3,.int (0:Nat))::(14,rowAV a)::ρ,(.lst (found.map rowAV),false)::(J++[(.lst [],false)]),moved g 1⟩,
     .s ⟨(4,.int 0)::(3,.int (0:Nat))::(14,rowAV a)::ρ,(.lst ((found++more).map rowAV),false)::(J++[(.lst [],false)]),moved g 1⟩]
    (k8 (I 12 rfl) nn1 (I 0 rfl) e1 e2 (I 13 rfl) e (gr more ((4,.int 0)::(3,.int (0:Nat))::(14,rowAV a)::ρ) (J++[(.lst [],false)]) (moved g 1) (hm▸Nat.zero_le _))) (by kernel_rfl!)⟩
  | k+1,hk,e2 =>
   obtain ⟨j,j0,jr,e3⟩:=draw_ok (cells:=cells) (n:=n) (k:=(right.length:Int)) (Int.ofNat_lt.mpr hp) (ltk 1 hN rfl) (h.move 1)
   obtain ⟨more,hm,hmo,e⟩:=val_comp (cells:=cells) (call:=callP cells bodies (n+1)) (ρ:=(4,.int j)::(3,.int (k+1:Nat))::(14,rowAV a)::ρ) (lh:=(.lst (found.map rowAV),false)::(J++[(.lst [],false)])) (g:=moved g 2) (j:=j) hrw ha hk (.inl hp) rfl (I 12 rfl) rfl rfl (I 5 rfl)
   exact ⟨_,J++[(.lst [],false)],more,2,by decide,hm▸hk,hmo,keep (.int j) (.int (k+1:Nat)),exssR [.v 12 (.lst (right.map rowAV)),.o (.bool true),.v 0 .slate,.c (.int i) (moved g 1),.o (.int (k+1:Nat)),.o (.bool true),.v 0 .slate,.v 12 (.lst (right.map rowAV)),.o (.int right.length),.c (.int j) (moved g 2),
     .v 13 (.loc 0),.e (.lst (more.map rowAV)) ⟨(4,.int j)::(3,.int (k+1:Nat))::(14,rowAV a)::ρ,(.lst (found.map rowAV),false)::(J++[(.lst [],false)]),moved g 2⟩,
     .s ⟨(4,.int j)::(3,.int (k+1:Nat))::(14,rowAV a)::ρ,(.lst ((found++more).map rowAV),false)::(J++[(.lst [],false)]),moved g 2⟩]
    (k13 (I 12 rfl) nn1 (I 0 rfl) e1 e2 (gt0_t (lh:=[]) (Nat.succ_pos k)) (I 0 rfl) (I 12 rfl) (len_rows (lh:=[]) (l:=right)) (mv e3) (I 13 rfl) e (gr more ((4,.int j)::(3,.int (k+1:Nat))::(14,rowAV a)::ρ) (J++[(.lst [],false)]) (moved g 2) (hm▸hk))) (by kernel_rfl!)⟩
theorem loopF_cons {x:Nat} {body:St→Option (Fl×St)} {d:AV} {xs:List AV} {ρ:List (Nat×AV)} {lh:List (LO×Bool)} {g:GS}:loopF (.v x) body (d::xs) ⟨ρ,lh,g⟩=bnd (body ⟨(x,d)::ρ,lh,g⟩) fun f st=>flV f st (loopF (.v x) body xs):=rfl
theorem moved_add (g:GS) (a b:Nat):moved (moved g a) b=moved g (a+b:Nat):=(moved_moved g a b).trans (congrArg (moved g) (Int.natCast_add a b).symm)
theorem val_loop (hr:right.length≤9) (hrw:∀ b∈right,b.length≤8):∀ (xs:List Row) {N:Nat} {g:GS} {ρ:List (Nat×AV)} {found:List Row} (J:List (LO×Bool)),N+2*xs.length<900000→Fine N g→Sm pv (ρv T s right) ρ→(∀ a∈xs,a.length≤8)→found.length+2*xs.length≤100 →
  ∃ (ρ':List (Nat×AV)) (J':List (LO×Bool)) (found':List Row) (k:Nat),k≤2*xs.length∧found'.length≤found.length+2*xs.length∧(∀ t∈found',t∈found∨∃ a∈xs,∃ b∈right,t=a++b)∧Sm pv (ρv T s right) ρ' ∧
   loopF (.v 14) (execSs cells (callP cells bodies (n+1)) valBody) (xs.map rowAV) ⟨ρ,(.lst (found.map rowAV),false)::J,g⟩=some (.next,⟨ρ',(.lst (found'.map rowAV),false)::J',moved g (k:Nat)⟩)
 | [],N,g,ρ,found,J,_,h,I,_,_=>⟨ρ,J,found,0,Nat.le_refl _,Nat.le_refl _,fun t ht=>.inl ht,I,(moved_zero g).symm▸rfl⟩
 | a::xs,N,g,ρ,found,J,hN,h,I,ha,hf=>by
  rw [List.length_cons] at hN hf
  obtain ⟨ρ1,J1,more,k1,hk1,hm,hmo,I1,e1⟩:=val_lap (cells:=cells) (n:=n) hr hrw (by lia) h I (ha a (.head _)) (found:=found) (by lia) J
  obtain ⟨ρ2,J2,found2,k2,hk2,hf2,hmo2,I2,e2⟩:=val_loop hr hrw xs (N:=N+k1) (g:=moved g (k1:Nat)) (found:=found++more) J1 (by lia) (h.move k1) I1 (fun b hb=>ha b (.tail _ hb)) (by rw [List.length_append];lia)
  rw [List.length_append] at hf2
  refine ⟨ρ2,J2,found2,k1+k2,by rw [List.length_cons];lia,by rw [List.length_cons];lia,fun t ht=>?_,I2,?_⟩
  ·exact (hmo2 t ht).elim (fun q=>(List.mem_append.mp q).imp id fun q=>let ⟨b,hb,e⟩:=hmo t q;⟨a,.head _,b,hb,e⟩) fun ⟨a',ha',r⟩=>.inr ⟨a',.tail _ ha',r⟩
  ·rw [← moved_add]
   exact loopF_cons.trans ((bnd_some e1).trans e2)
theorem draw_row:∀ (r:Row) {N:Nat} {g:GS} {ρ:List (Nat×AV)} (lh:List (LO×Bool)),N+r.length<900000→Fine N g→dget ρ 0=some .slate →
  ∃ (q:Row) (ρ':List (Nat×AV)),q.length=r.length∧loopC (.v 50) (testThen (isNoneE .none_) (evalE cells (callP cells bodies (n+1)) .none_) (evalE cells (callP cells bodies (n+1)) (.call .draw [.var 0,.int 3]))) (r.map .int) ⟨ρ,lh,g⟩
  =some (q.map .int,⟨ρ',lh,moved g (r.length:Nat)⟩)
 | [],N,g,ρ,lh,_,h,_=>⟨[],ρ,rfl,(moved_zero g).symm▸rfl⟩
 | x::r,N,g,ρ,lh,hN,h,h0=>by
  rw [List.length_cons] at hN
  obtain ⟨i,i0,i4,e1⟩:=draw_ok (cells:=cells) (n:=n) (k:=3) (by decide) (by lia) h
  obtain ⟨q,ρ',hq,e2⟩:=draw_row r (N:=N+1) (g:=moved g 1) (ρ:=(50,.int x)::ρ) lh (by lia) (h.move 1) h0
  refine ⟨i::q,ρ',congrArg (·+1) hq,?_⟩
  have eb:testThen (isNoneE .none_) (evalE cells (callP cells bodies (n+1)) .none_) (evalE cells (callP cells bodies (n+1)) (.call .draw [.var 0,.int 3])) ⟨(50,.int x)::ρ,lh,g⟩=some ([.int i],⟨(50,.int x)::ρ,lh,moved g 1⟩) :=
   ttR [.v 0 .slate,.c (.int i) (moved g 1)] (k2 h0 e1) (by kernel_rfl!)
  have em:moved g ((r.length+1:Nat):Int)=moved (moved g 1) (r.length:Nat):=by rw [moved_moved,Int.add_comm];rfl
  rw [List.length_cons,em]
  exact loopC_cons.trans ((bnd_some eb).trans (bnd_some e2))
end
theorem nonempty_all {rs:List Row} {k:Nat} (h:∀ r∈rs,r.length=k) (hk:0<k):(rs.all fun r=>!r.isEmpty)=true:=List.all_eq_true.mpr fun r hr=>match r,h r hr with
 | [],q=>absurd hk (q▸(Nat.lt_irrefl 0:¬ 0<([]:Row).length))
 | _::_,_=>rfl
theorem sorted_set {lh:List (LO×Bool)} {v:AV} {rs:List Row} {k:Nat} (h:listOf lh v=some (rs.map rowAV)) (hr:∀ r∈rs,r.length=k) (hk:0<k) (hl:rs.length<64) :
  biV lh .sortedSet [v]=some (.lst ((sortRows (dedup rs)).map rowAV)):=by
 show (listOf lh v).bind _=_
 rw [h]
 show (rowsOf (rs.map rowAV)).bind _=_
 rw [rowsOf_map]
 have h2:Nat.blt (dedup rs).length 64=true:=Nat.ble_eq_true_of_le (Nat.lt_of_le_of_lt (dedup_le rs) hl)
 exact cond_t (Bool.and_eq_true_iff.mpr ⟨h2,Bool.and_eq_true_iff.mpr ⟨nonempty_all hr hk,small_of (Nat.le_trans (Nat.le_of_lt hl) (by decide))⟩⟩)
theorem sort_facts (rs:List Row):(sortRows (dedup rs)).Nodup∧(∀ t,t∈sortRows (dedup rs)↔t∈rs)∧(sortRows (dedup rs)).length≤rs.length :=
 have hp:=sortRows_perm (dedup rs)
 ⟨hp.nodup_iff.2 (dedup_nodup rs),fun t=>hp.mem_iff.trans mem_dedup,hp.length_eq▸dedup_le rs⟩
theorem arOf_pos (c:Nat):0<arOf c:=by
 unfold arOf
 cases Nat.beq c 20 <;> decide
theorem ar_pos:∀ T:Tr,0<T.ar
 | .leaf c=>arOf_pos c
 | .arr _ _ l _=>Nat.lt_of_lt_of_le (ar_pos l) (Nat.le_add_right _ _)
section
variable {cells:List Int} {n:Nat}
theorem value_ok {S:Sets} (hS:S.ok) {m1 m2:Nat} {l r:Tr} (wl:l.wf) (wr:r.wf) (dl:l.depth≤1) (dr:r.depth≤1) {N:Nat} {g:GS} (hN:N<800000) (h:Fine N g) :
  ∃ (rows:List Row) (k:Nat),k≤40∧rows.length≤19∧rows.Nodup∧(∀ t∈rows,t.length=l.ar+r.ar)∧callP cells bodies (n+3) .value [.slate,(Tr.arr m1 m2 l r).av,S.av] g=some (.lst (rows.map rowAV),moved g (k:Nat)):=by
 have ll:=tuples_len1 hS wl dl
 have lr:=tuples_len1 hS wr dr
 have al:=tuples_ar hS l wl
 have arr:=tuples_ar hS r wr
 have bl:=ar_le2 (T:=l) (Nat.le_succ_of_le dl)
 have br:=ar_le2 (T:=r) (Nat.le_succ_of_le dr)
 have hl3:l.depth<n+2:=Nat.lt_of_le_of_lt dl (Nat.lt_add_left n (by decide))
 have hr3:r.depth<n+2:=Nat.lt_of_le_of_lt dr (Nat.lt_add_left n (by decide))
 have el:=tuples_ok (cells:=cells) hS l wl (Nat.le_succ_of_le dl) (n+2) hl3 g
 have er:=tuples_ok (cells:=cells) hS r wr (Nat.le_succ_of_le dr) (n+2) hr3 g
 obtain ⟨ρ1,J1,found,k1,hk1,hf,hfm,I1,e1⟩:=val_loop (cells:=cells) (n:=n+1) (T:=(Tr.arr m1 m2 l r).av) (s:=S.av) (right:=tuplesP S r) lr (fun b hb=>arr b hb▸br) (tuplesP S l) (N:=N) (g:=g)
  (ρ:=ρv (Tr.arr m1 m2 l r).av S.av (tuplesP S r)) (found:=[]) [] (by lia) h .refl (fun a ha=>al a ha▸bl) (by show 0+_≤_;lia)
 have hfw:∀ t∈found,t.length=l.ar+r.ar:=fun t ht=>(hfm t ht).elim (fun q=>nomatch q) fun ⟨a,ha,b,hb,e⟩=>by rw [e,List.length_append,al a ha,arr b hb]
 have hf':found.length≤18:=by have hf:found.length≤0+_:=hf;lia
 have h1:Fine (N+k1) (moved g (k1:Nat)):=h.move k1
 have ar0:0<l.ar+r.ar:=Nat.lt_of_lt_of_le (ar_pos l) (Nat.le_add_right _ _)
 have fin:∀ (b:Bool) (J:List (LO×Bool)) (rs:List Row),(∀ t∈rs,t.length=l.ar+r.ar)→rs.length≤19→biV ((.lst (rs.map rowAV),b)::J) .sortedSet [.loc 0]=some (.lst ((sortRows (dedup rs)).map rowAV)):=fun b J rs hw hn=>sorted_set rfl hw ar0 (Nat.lt_of_le_of_lt hn (by decide))
 have ef:execS cells (callP cells bodies (n+2)) (.for_ (.v 14) (.call .tuples [.sub (.var 10) (.int 4),.var 11]) valBody) ⟨ρv (Tr.arr m1 m2 l r).av S.av (tuplesP S r),[(.lst [],false)],g⟩
  =some (.next,⟨ρ1,(.lst (found.map rowAV),false)::J1,moved g (k1:Nat)⟩) :=
  for_eq (iv:=.lst ((tuplesP S l).map rowAV)) (st1:=⟨ρv (Tr.arr m1 m2 l r).av S.av (tuplesP S r),[(.lst [],false)],g⟩) (evR [.k,.g,.c (.lst ((tuplesP S l).map rowAV)) g] (k2 (fzT (lh:=[(.lst [],false)]) l) el) (by kernel_rfl!)) rfl e1
 match hfl:found.length with
 | 0 =>
  have hfl:=List.length_eq_zero_iff.mp hfl
  subst hfl
  exact ⟨[],k1,by lia,Nat.zero_le _,List.nodup_nil,hfw,cR [.k,.g,.c (.lst ((tuplesP S r).map rowAV)) g,.x .next ⟨ρ1,(.lst [],false)::J1,moved g (k1:Nat)⟩,.v 13 (.loc 0),.o (.bool false),.v 13 (.loc 0),.o (.lst [])]
   (k7 (fzT (lh:=[]) r) er ef (I1 13 rfl) (ne_nil0 (lh:=J1) (l:=[]) (b:=false)) (I1 13 rfl) (fin false (J1++[(.lst [],false)]) [] hfw (Nat.zero_le _))) (by kernel_rfl!)⟩
 | m+1 =>
  have hp:0<found.length:=hfl▸Nat.succ_pos m
  obtain ⟨i,i0,i4,e2⟩:=draw_ok (cells:=cells) (n:=n+1) (k:=4) (by decide) (by lia) h1
  have nn:cmpV ((.lst (found.map rowAV),false)::J1++[(.lst [],false)]) .ne (.loc 0) (.loc (J1.length+1))=some (.bool true):=by rw [ne_nil0,isEmpty_map hp];rfl
  by_cases hi:i=3
  ·obtain ⟨r0,hr0⟩:∃ r0,found[0]?=some r0:=⟨_,List.getElem?_eq_getElem hp⟩
   have hm0:r0∈found:=List.mem_of_getElem? hr0
   have l0:=hfw r0 hm0
   obtain ⟨q,ρ2,hq,e3⟩:=draw_row (cells:=cells) (n:=n+1) r0 (N:=N+k1+1) (g:=moved (moved g (k1:Nat)) 1) (ρ:=ρ1) ((.lst (found.map rowAV),false)::(J1++[(.lst [],false)])) (by lia) (h1.move 1) (I1 0 rfl)
   have s0:∀ g',subV cells ⟨ρ1,(.lst (found.map rowAV),false)::(J1++[(.lst [],false)]),g'⟩ (.loc 0) (.int 0)=some (rowAV r0):=fun g'=>by
    show (seqIdx (found.map rowAV).length ((0:Nat):Int)).bind ((found.map rowAV)[·]?)=_
    rw [idx_nat (Int.natCast_nonneg 0) (by rw [List.length_map];exact Int.ofNat_lt.mpr hp)]
    show (found.map rowAV)[0]?=_
    rw [List.getElem?_map,hr0]
    rfl
   have e4:evalE cells (callP cells bodies (n+2)) (.comp (.call .draw [.var 0,.int 3]) (.v 50) (.sub (.var 13) (.int 0)) .none_) ⟨ρ1,(.lst (found.map rowAV),false)::(J1++[(.lst [],false)]),moved (moved g (k1:Nat)) 1⟩
    =some (.lst (q.map .int),⟨ρ1,(.lst (found.map rowAV),false)::(J1++[(.lst [],false)]),moved (moved (moved g (k1:Nat)) 1) (r0.length:Nat)⟩) :=
    comp_eq (t:=.v 50) (iv:=rowAV r0) (xs:=r0.map .int) (st1:=⟨ρ1,(.lst (found.map rowAV),false)::(J1++[(.lst [],false)]),moved (moved g (k1:Nat)) 1⟩) (evR [.v 13 (.loc 0),.o (rowAV r0)] (k2 (I1 13 rfl) (s0 (moved (moved g (k1:Nat)) 1))) (by kernel_rfl!)) rfl e3 (congrArg Option.isNone (I1 50 rfl)) (by rw [List.length_map];lia)
   have hlen:(found++[q]).length≤19:=by rw [List.length_append];exact Nat.add_le_add_right hf' 1
   have hfw2:∀ t∈found++[q],t.length=l.ar+r.ar:=fun t ht=>(List.mem_append.mp ht).elim (hfw t) fun e=>by rw [List.mem_singleton.mp e,hq,l0]
   obtain ⟨f1,f2,f3⟩:=sort_facts (found++[q])
   refine ⟨sortRows (dedup (found++[q])),k1+1+r0.length,by lia,Nat.le_trans f3 hlen,f1,fun t ht=>hfw2 t ((f2 t).1 ht),?_⟩
   rw [← moved_add,← moved_add]
   exact cR [.k,.g,.c (.lst ((tuplesP S r).map rowAV)) g,.x .next ⟨ρ1,(.lst (found.map rowAV),false)::J1,moved g (k1:Nat)⟩,.v 13 (.loc 0),.o (.bool true),.v 0 .slate,.c (.int i) (moved (moved g (k1:Nat)) 1),.b true,
     .v 13 (.loc 0),.e (.lst (q.map .int)) ⟨ρ1,(.lst (found.map rowAV),false)::(J1++[(.lst [],false)]),moved (moved (moved g (k1:Nat)) 1) (r0.length:Nat)⟩,.s ⟨ρ1,(.lst ((found++[q]).map rowAV),false)::(J1++[(.lst [],false)]),moved (moved (moved g (k1:Nat)) 1) (r0.length:Nat)⟩,
     .v 13 (.loc 0),.o (.lst ((sortRows (dedup (found++[q]))).map rowAV))]
    (k13 (fzT (lh:=[]) r) er ef (I1 13 rfl) nn (I1 0 rfl) e2 (av_true hi) (I1 13 rfl) e4 (grow_rows (l:=found) (more:=[q]) (ρ:=ρ1) (J:=J1++[(.lst [],false)]) (g:=moved (moved (moved g (k1:Nat)) 1) (r0.length:Nat)) (by show _+1≤_;lia)) (I1 13 rfl) (fin false (J1++[(.lst [],false)]) (found++[q]) hfw2 hlen)) (by kernel_rfl!)
  ·obtain ⟨f1,f2,f3⟩:=sort_facts found
   refine ⟨sortRows (dedup found),k1+1,by lia,by lia,f1,fun t ht=>hfw t ((f2 t).1 ht),?_⟩
   rw [← moved_add]
   exact cR [.k,.g,.c (.lst ((tuplesP S r).map rowAV)) g,.x .next ⟨ρ1,(.lst (found.map rowAV),false)::J1,moved g (k1:Nat)⟩,.v 13 (.loc 0),.o (.bool true),.v 0 .slate,.c (.int i) (moved (moved g (k1:Nat)) 1),.b false,.v 13 (.loc 0),.o (.lst ((sortRows (dedup found)).map rowAV))]
    (k10 (fzT (lh:=[]) r) er ef (I1 13 rfl) nn (I1 0 rfl) e2 (av_false hi) (I1 13 rfl) (fin false (J1++[(.lst [],false)]) found hfw (by lia))) (by kernel_rfl!)
end
noncomputable def fitsP (m k:Nat):Bool:=if m<2 then true else if m=2 then decide (k=1) else if m=3 then decide (k<2) else decide (0<k)
noncomputable def marked2 (m:Nat):Bool:=decide (2≤m)
noncomputable def watchedP:Tr→Bool
 | .leaf _=>false
 | .arr m1 m2 l r=>marked2 m1||(marked2 m2||(watchedP l||watchedP r))
theorem lt5n {P:Nat→Prop} {m:Nat} (h:m<5) (a:P 0) (b:P 1) (c:P 2) (d:P 3) (e:P 4):P m:=match m,h with
 | 0,_=>a
 | 1,_=>b
 | 2,_=>c
 | 3,_=>d
 | 4,_=>e
 | n+5,h=>absurd h (Nat.not_lt.mpr (Nat.le_add_left 5 n))
theorem notin01 {lh:List (LO×Bool)} {m:Nat} (h:m<5):cmpV lh .notin (.str m) (.tup [.str 0,.str 1])=some (.bool (marked2 m)):=lt5n (P:=fun m=>cmpV lh .notin (.str m) (.tup [.str 0,.str 1])=some (.bool (marked2 m))) h rfl rfl rfl rfl rfl
theorem int_eq1 {k:Nat}:decide ((k:Int)=1)=decide (k=1):=decide_eq_decide.mpr Int.ofNat_inj
theorem int_lt2 {k:Nat}:decide ((k:Int)<2)=decide (k<2):=decide_eq_decide.mpr Int.ofNat_lt
theorem int_0lt {k:Nat}:decide (0<(k:Int))=decide (0<k):=decide_eq_decide.mpr Int.ofNat_lt
section
variable {cells:List Int} {n:Nat} {g:GS}
theorem fits_ok {m k:Nat} (h:m<5):callP cells bodies (n+1) .fits [.str m,.int k] g=some (.bool (fitsP m k),g) :=
 lt5n (P:=fun m=>callP cells bodies (n+1) .fits [.str m,.int k] g=some (.bool (fitsP m k),g)) h (cR [] .nil (by kernel_rfl!)) (cR [] .nil (by kernel_rfl!))
  ((cR (z:=some (.bool (decide ((k:Int)=1)),g)) [] .nil (by kernel_rfl!)).trans (by rw [int_eq1];rfl)) ((cR (z:=some (.bool (decide ((k:Int)<2)),g)) [] .nil (by kernel_rfl!)).trans (by rw [int_lt2];rfl)) ((cR (z:=some (.bool (decide (0<(k:Int))),g)) [] .nil (by kernel_rfl!)).trans (by rw [int_0lt];rfl))
theorem dl {m1 m2:Nat} {l r:Tr} {n:Nat} (h:(Tr.arr m1 m2 l r).depth≤n):l.depth<n:=Nat.lt_of_le_of_lt (Nat.le_max_left l.depth r.depth) h
theorem dr {m1 m2:Nat} {l r:Tr} {n:Nat} (h:(Tr.arr m1 m2 l r).depth≤n):r.depth<n:=Nat.lt_of_le_of_lt (Nat.le_max_right l.depth r.depth) h
theorem av_is {b c:Bool} (h:b=c):asBool (.bool b)=some c:=congrArg some h
theorem av01 {m:Nat} {b:Bool} (h:m<5) (e:marked2 m=b):asBool (.bool (!List.elem m [0,1]))=some b:=e▸lt5n (P:=fun m=>asBool (.bool (!List.elem m [0,1]))=some (marked2 m)) h rfl rfl rfl rfl rfl
theorem watched_ok:∀ T:Tr,T.wf→∀ n,T.depth<n→∀ g,callP cells bodies n .watched [T.av] g=some (.bool (watchedP T),g)
 | .leaf c,_,n,hn,g=>lt_pred (P:=fun n=>callP cells bodies n .watched [(Tr.leaf c).av] g=some (.bool false,g)) hn fun n _=>cR [] .nil (by kernel_rfl!)
 | .arr m1 m2 l r,w,n,hn,g=>lt_pred (P:=fun n=>callP cells bodies n .watched [(Tr.arr m1 m2 l r).av] g=some (.bool (watchedP (.arr m1 m2 l r)),g)) hn fun n hn=>by
  have el:=watched_ok l w.2.2.1 n (dl hn) g
  have er:=watched_ok r w.2.2.2 n (dr hn) g
  have a1:=fun {b}=>av01 (b:=b) w.1
  have a2:=fun {b}=>av01 (b:=b) w.2.1
  unfold watchedP
  match e1:marked2 m1,e2:marked2 m2,e3:watchedP l,e4:watchedP r with
  | true,true,_,_=>exact cR [.b false,.b true,.b true] (k3 (Eq.refl (some false)) (a1 e1) (a2 e2)) (by kernel_rfl!)
  | true,false,_,_=>exact cR [.b false,.b true,.b false] (k3 (Eq.refl (some false)) (a1 e1) (a2 e2)) (by kernel_rfl!)
  | false,true,_,_=>exact cR [.b false,.b false,.b true] (k3 (Eq.refl (some false)) (a1 e1) (a2 e2)) (by kernel_rfl!)
  | false,false,true,_=>exact cR [.b false,.b false,.b false,.k,.c (.bool (watchedP l)) g,.b true] (k6 (Eq.refl (some false)) (a1 e1) (a2 e2) (fzT (lh:=[(.lst [],false)]) l) el (av_is e3)) (by kernel_rfl!)
  | false,false,false,true=>exact cR [.b false,.b false,.b false,.k,.c (.bool (watchedP l)) g,.b false,.k,.c (.bool (watchedP r)) g,.b true] (k9 (Eq.refl (some false)) (a1 e1) (a2 e2) (fzT (lh:=[(.lst [],false)]) l) el (av_is e3) (fzT (lh:=[(.lst [],false)]) r) er (av_is e4)) (by kernel_rfl!)
  | false,false,false,false=>exact cR [.b false,.b false,.b false,.k,.c (.bool (watchedP l)) g,.b false,.k,.c (.bool (watchedP r)) g,.b false] (k9 (Eq.refl (some false)) (a1 e1) (a2 e2) (fzT (lh:=[(.lst [],false)]) l) el (av_is e3) (fzT (lh:=[(.lst [],false)]) r) er (av_is e4)) (by kernel_rfl!)
theorem nin {lh:List (LO×Bool)} {m:Nat} {b:Bool} (h:m<5) (e:marked2 m=b):cmpV lh .notin (.str m) (.tup [.str 0,.str 1])=some (.bool b):=e▸notin01 h
theorem isMarked_ok:∀ T:Tr,T.wf→∀ n,T.depth<n→∀ g,callP cells bodies n .mIsMarked [.opener,T.av] g=some (.bool (watchedP T),g)
 | .leaf c,_,n,hn,g=>lt_pred (P:=fun n=>callP cells bodies n .mIsMarked [.opener,(Tr.leaf c).av] g=some (.bool false,g)) hn fun n _=>cR [] .nil (by kernel_rfl!)
 | .arr m1 m2 l r,w,n,hn,g=>lt_pred (P:=fun n=>callP cells bodies n .mIsMarked [.opener,(Tr.arr m1 m2 l r).av] g=some (.bool (watchedP (.arr m1 m2 l r)),g)) hn fun n hn=>by
  have el:=isMarked_ok l w.2.2.1 n (dl hn) g
  have er:=isMarked_ok r w.2.2.2 n (dr hn) g
  unfold watchedP
  match e1:marked2 m1,e2:marked2 m2,e3:watchedP l,e4:watchedP r with
  | true,_,_,_=>exact cR [.b false,.g,.o (.bool true)] (k2 (Eq.refl (some false)) (nin (lh:=[]) w.1 e1)) (by kernel_rfl!)
  | false,true,_,_=>exact cR [.b false,.g,.o (.bool false),.g,.o (.bool true)] (k3 (Eq.refl (some false)) (nin (lh:=[]) w.1 e1) (nin (lh:=[]) w.2.1 e2)) (by kernel_rfl!)
  | false,false,true,_=>exact cR [.b false,.g,.o (.bool false),.g,.o (.bool false),.k,.c (.bool (watchedP l)) g,.b true] (k6 (Eq.refl (some false)) (nin (lh:=[]) w.1 e1) (nin (lh:=[]) w.2.1 e2) (fzT (lh:=[]) l) el (av_is e3)) (by kernel_rfl!)
  | false,false,false,true=>exact cR [.b false,.g,.o (.bool false),.g,.o (.bool false),.k,.c (.bool (watchedP l)) g,.b false,.k,.c (.bool (watchedP r)) g,.b true] (k9 (Eq.refl (some false)) (nin (lh:=[]) w.1 e1) (nin (lh:=[]) w.2.1 e2) (fzT (lh:=[]) l) el (av_is e3) (fzT (lh:=[]) r) er (av_is e4)) (by kernel_rfl!)
  | false,false,false,false=>exact cR [.b false,.g,.o (.bool false),.g,.o (.bool false),.k,.c (.bool (watchedP l)) g,.b false,.k,.c (.bool (watchedP r)) g,.b false] (k9 (Eq.refl (some false)) (nin (lh:=[]) w.1 e1) (nin (lh:=[]) w.2.1 e2) (fzT (lh:=[]) l) el (av_is e3) (fzT (lh:=[]) r) er (av_is e4)) (by kernel_rfl!)
theorem leaves4 {T:Tr} (h:T.depth≤2):T.leaves.length≤4:=Nat.le_trans (leaves_len T) (Nat.pow_le_pow_right (n:=2) (by decide) h)
theorem app_strs {lh:List (LO×Bool)} {x y:List Nat} (h:x.length+y.length≤1000000):binV lh .add (.lst (x.map .str)) (.lst (y.map .str))=some (.lst ((x++y).map .str)):=by
 show cond (small ((x.map AV.str).length+(y.map AV.str).length)) (some (AV.lst (x.map .str++y.map .str))) none=_
 rw [List.length_map,List.length_map,small_of h,List.map_append]
 rfl
theorem leaves_ok:∀ T:Tr,T.depth≤2→∀ n,T.depth<n→∀ g,callP cells bodies n .leaves [T.av] g=some (.lst (T.leaves.map .str),g)
 | .leaf c,_,n,hn,g=>lt_pred (P:=fun n=>callP cells bodies n .leaves [(Tr.leaf c).av] g=some (.lst ([c].map .str),g)) hn fun n _=>cR [] .nil (by kernel_rfl!)
 | .arr m1 m2 l r,w,n,hn,g=>lt_pred (P:=fun n=>callP cells bodies n .leaves [(Tr.arr m1 m2 l r).av] g=some (.lst ((l.leaves++r.leaves).map .str),g)) hn fun n hn =>
  cR [.b false,.g,.k,.c (.lst (l.leaves.map .str)) g,.g,.k,.c (.lst (r.leaves.map .str)) g,.o (.lst ((l.leaves++r.leaves).map .str))] (k6 (Eq.refl (some false)) (fzT (lh:=[]) l) (leaves_ok l (Nat.le_of_lt (dl w)) n (dl hn) g) (fzT (lh:=[]) r) (leaves_ok r (Nat.le_of_lt (dr w)) n (dr hn) g)
   (app_strs (lh:=[]) (Nat.le_trans (Nat.add_le_add (leaves4 (Nat.le_of_lt (dl w))) (leaves4 (Nat.le_of_lt (dr w)))) (by decide)))) (by kernel_rfl!)
noncomputable def allOfP:List AV→AV
 | []=>.tup [.str 14]
 | x::l=>cond l.isEmpty x (.tup [.str 13,.tup (x::l)])
theorem allOf_ok:∀ {l:List AV},(∀ x∈l,∀ lh,freeze lh x=some (x,lh))→callP cells bodies (n+1) .allOf [.lst l] g=some (allOfP l,g)
 | [],_=>cR [] .nil (by kernel_rfl!)
 | [x],h=>cR [.b true,.k] (k2 (Eq.refl (some true)) (h x (.head _) [])) (by kernel_rfl!)
 | x::y::r,_=>cR [.b false,.b true] (k2 (av_false (p:=((x::y::r).length:Int)=1) fun q=>nomatch (Int.ofNat_inj.mp q:(x::y::r).length=1)) (av_true (p:=0<((x::y::r).length:Int)) (Int.ofNat_lt.mpr (Nat.succ_pos _)))) (by kernel_rfl!)
end
noncomputable def restL (a:Row) (rows:List Row):List Row:=(rows.filter fun t=>decide (t.take a.length=a)).map fun t=>t.drop a.length
noncomputable def restR (a:Row) (rows:List Row):List Row:=(rows.filter fun t=>decide (t.drop (t.length - a.length)=a)).map fun t=>t.take (t.length - a.length)
noncomputable def besideP (S:Sets):Tr→List Row→Bool→Bool
 | .leaf _,_,_=>true
 | .arr m1 m2 l r,rows,true=>(tuplesP S l).all fun a=>fitsP m2 (restL a rows).length&&(besideP S r (restL a rows) true&&besideP S r (restL a rows) false)
 | .arr m1 m2 l r,rows,false=>(tuplesP S r).all fun a=>fitsP m1 (restR a rows).length&&(besideP S l (restR a rows) true&&besideP S l (restR a rows) false)
theorem restL_len (a:Row) (rows:List Row):(restL a rows).length≤rows.length:=(List.length_map _).symm▸List.length_filter_le _ _
theorem restR_len (a:Row) (rows:List Row):(restR a rows).length≤rows.length:=(List.length_map _).symm▸List.length_filter_le _ _
theorem q_tt {lh:List (LO×Bool)} {x y:Row}:eqV lh (.tup (x.map .int)) (.tup (y.map .int))=some (decide (x=y)):=by
 show (intsOf (x.map .int)).bind _=_
 rw [intsOf_map]
 show (intsOf (y.map .int)).map _=_
 rw [intsOf_map]
 rfl
theorem q_ee {lh:List (LO×Bool)} {x y:Row} {b:Bool} (h:decide (x=y)=b):cmpV lh .eq (.tup (x.map .int)) (.tup (y.map .int))=some (.bool b):=h▸congrArg (Option.map AV.bool) q_tt
theorem take_all {α:Type} {l:List α} {n:Nat} (h:l.length≤n):l.take n=l:=List.take_of_length_le h
theorem cut_lo (t:Row) (k:Nat):cutL (t.map AV.int) (some (k:Int)) none=(t.drop k).map AV.int:=by
 show ((t.map AV.int).drop (clipAt (t.map AV.int).length k)).take ((t.map AV.int).length - clipAt (t.map AV.int).length k)=_
 rw [take_all (by rw [List.length_drop];exact Nat.le_refl _),clipAt_nat,List.length_map,← List.map_drop]
 by_cases h:k≤t.length
 ·rw [Nat.min_eq_left h]
 ·have h:=Nat.le_of_lt (Nat.lt_of_not_le h)
  rw [Nat.min_eq_right h,List.drop_of_length_le (Nat.le_refl _),List.drop_of_length_le h]
theorem cut_hi (t:Row) (k:Nat):cutL (t.map AV.int) none (some (k:Int))=(t.take k).map AV.int:=by
 show ((t.map AV.int).drop 0).take (clipAt (t.map AV.int).length k - 0)=_
 rw [clipAt_nat,List.length_map,List.drop_zero,Nat.sub_zero,← List.map_take]
 by_cases h:k≤t.length
 ·rw [Nat.min_eq_left h]
 ·have h:=Nat.le_of_lt (Nat.lt_of_not_le h)
  rw [Nat.min_eq_right h,take_all (Nat.le_refl _),take_all h]
theorem cut_nlo (t:Row) (k:Nat) (hk:0<k):cutL (t.map AV.int) (some (-(k:Int))) none=(t.drop (t.length - k)).map AV.int:=by
 show ((t.map AV.int).drop (clipAt (t.map AV.int).length (-(k:Int)))).take ((t.map AV.int).length - clipAt (t.map AV.int).length (-(k:Int)))=_
 rw [take_all (by rw [List.length_drop];exact Nat.le_refl _),clipAt_neg _ _ hk,List.length_map,← List.map_drop]
theorem cut_nhi (t:Row) (k:Nat) (hk:0<k):cutL (t.map AV.int) none (some (-(k:Int)))=(t.take (t.length - k)).map AV.int:=by
 show ((t.map AV.int).drop 0).take (clipAt (t.map AV.int).length (-(k:Int)) - 0)=_
 rw [clipAt_neg _ _ hk,List.length_map,List.drop_zero,Nat.sub_zero,← List.map_take]
theorem filt_map (p:Row→Bool) (f:Row→Row):∀ l:List Row,(l.flatMap fun t=>cond (p t) [rowAV (f t)] [])=((l.filter p).map f).map rowAV
 | []=>rfl
 | x::l=>by
  rw [List.flatMap_cons,filt_map p f l,List.filter_cons]
  cases p x <;> rfl
theorem filt_len (p:Row→Bool) (f:Row→Row) (l:List Row):(l.flatMap fun t=>cond (p t) [rowAV (f t)] []).length≤l.length:=by
 rw [filt_map p f l,List.length_map,List.length_map]
 exact List.length_filter_le _ _
theorem flat_not {α:Type} (v:α→AV) (p:α→Bool):∀ l:List α,(l.flatMap fun a=>cond (p a) [] [v a]).isEmpty=l.all p
 | []=>rfl
 | x::l=>by
  rw [List.flatMap_cons,List.all_cons]
  cases p x
  ·rfl
  ·exact flat_not v p l
theorem flat_not_len {α:Type} (v:α→AV) (p:α→Bool):∀ l:List α,(l.flatMap fun a=>cond (p a) [] [v a]).length≤l.length
 | []=>Nat.le_refl _
 | x::l=>by
  have:=flat_not_len v p l
  rw [List.flatMap_cons,List.length_append,Nat.add_comm]
  refine Nat.add_le_add this ?_
  cases p x <;> exact Nat.le_of_ble_eq_true rfl
theorem loopF_all {α:Type} {x:Nat} {body:St→Option (Fl×St)} {v:α→AV} {p:α→Bool} {g:GS} {q:Nat→Bool} {ρ:List (Nat×AV)}:∀ (xs:List α) (ρ1:List (Nat×AV)) (lh:List (LO×Bool)),Sm q ρ ρ1 →
   (∀ ρ' lh,Sm q ρ ρ'→∀ a∈xs,∃ ρ'' lh',body ⟨(x,v a)::ρ',lh,g⟩=some (cond (p a) .next (.ret (.bool false)),⟨ρ'',lh',g⟩)∧Sm q ρ ρ'') →
   ∃ ρ'' lh',loopF (.v x) body (xs.map v) ⟨ρ1,lh,g⟩=some (cond (xs.all p) .next (.ret (.bool false)),⟨ρ'',lh',g⟩)
 | [],ρ1,lh,h1,_=>⟨ρ1,lh,rfl⟩
 | a::xs,ρ1,lh,h1,hb=>by
  obtain ⟨ρ2,lh2,e2,h2⟩:=hb ρ1 lh h1 a (.head _)
  rw [List.all_cons]
  cases hp:p a <;> rw [hp] at e2
  ·exact ⟨ρ2,lh2,loopF_cons.trans (bnd_some e2)⟩
  ·obtain ⟨ρ3,lh3,e3⟩:=loopF_all xs ρ2 lh2 h2 fun ρ' lh h b m=>hb ρ' lh h b (.tail _ m)
   exact ⟨ρ3,lh3,loopF_cons.trans ((bnd_some e2).trans e3)⟩
noncomputable abbrev besL:PE:=.comp (.slice (.var 21) (.var 1) .none_) (.v 21) (.var 7) (.cmp .eq (.slice (.var 21) .none_ (.var 1)) (.var 14))
noncomputable abbrev besR:PE:=.comp (.slice (.var 21) .none_ (.neg (.var 1))) (.v 21) (.var 7) (.cmp .eq (.slice (.var 21) (.neg (.var 1)) .none_) (.var 14))
noncomputable abbrev besC:PE:=.comp (.var 22) (.v 22) (.tup [.bool true,.bool false]) (.not (.call .beside [.var 20,.var 19,.var 11,.var 22]))
noncomputable def besBody:List PS:=[.asg (.v 1) (.bi .len [.var 14]),
   .asg (.v 20) (.ite (.var 17) besL besR),
   .ite (.not (.call .fits [.var 16,.bi .len [.var 20]])) [.ret (.bool false)] [],
   .ite (.boolop true [.cmp .eq (.sub (.var 19) (.int 0)) (.str 6),.cmp .ne besC (.lst [])]) [.ret (.bool false)] []]
theorem len_row {lh:List (LO×Bool)} {a:Row}:biV lh .len [rowAV a]=some (.int a.length):=congrArg (fun n:Nat=>some (AV.int n)) (List.length_map _)
theorem slice_is {lh:List (LO×Bool)} {t u:Row} {l h:AV} {l' h':Option Int} (hl:optInt l=some l') (hh:optInt h=some h') (e:cutL (t.map AV.int) l' h'=u.map AV.int):sliceV lh (rowAV t) l h=some (rowAV u):=by
 unfold sliceV
 rw [hl,hh]
 exact congrArg (fun x=>some (AV.tup x)) e
section
variable {cells:List Int} {n:Nat} {g:GS} {call:Fn→List AV→GS→Option (AV×GS)} {ρ:List (Nat×AV)} {lh:List (LO×Bool)} {rows:List Row} {a:Row}
theorem rest_left (h7:dget ρ 7=some (.lst (rows.map rowAV))) (h14:dget ρ 14=some (rowAV a)) (h1:dget ρ 1=some (.int (a.length:Nat))) (h21:dget ρ 21=none) (hl:rows.length≤100) :
  evalE cells call besL ⟨ρ,lh,g⟩=some (.lst ((restL a rows).map rowAV),⟨ρ,lh,g⟩):=by
 have e:=eval_comp (cells:=cells) (call:=call) (lh:=lh) (g:=g) (ρ:=ρ) (elt:=.slice (.var 21) (.var 1) .none_) (it:=.var 7) (c:=.cmp .eq (.slice (.var 21) .none_ (.var 1)) (.var 14)) (x:=21) (xs:=rows) (v:=rowAV)
  (fun t=>cond (decide (t.take a.length=a)) [rowAV (t.drop a.length)] []) (iv:=.lst (rows.map rowAV)) (evR [.v 7 (.lst (rows.map rowAV))] (k1 h7) (by kernel_rfl!)) rfl
  (fun ρ' hρ t ht=>by
   have s1:=slice_is (lh:=lh) (t:=t) (l:=.none) (h:=.int (a.length:Nat)) rfl rfl (cut_hi t a.length)
   have s2:=slice_is (lh:=lh) (t:=t) (l:=.int (a.length:Nat)) (h:=.none) rfl rfl (cut_lo t a.length)
   cases q:decide (t.take a.length=a)
   ·exact ttR [.v 1 (.int (a.length:Nat)),.o (rowAV (t.take a.length)),.v 14 (rowAV a),.o (.bool false)] (k4 ((hρ 1 rfl).trans h1) s1 ((hρ 14 rfl).trans h14) (q_ee (lh:=lh) q)) (by kernel_rfl!)
   ·exact ttR [.v 1 (.int (a.length:Nat)),.o (rowAV (t.take a.length)),.v 14 (rowAV a),.o (.bool true),.v 1 (.int (a.length:Nat)),.o (rowAV (t.drop a.length))] (k6 ((hρ 1 rfl).trans h1) s1 ((hρ 14 rfl).trans h14) (q_ee (lh:=lh) q) ((hρ 1 rfl).trans h1) s2) (by kernel_rfl!))
  h21 (Nat.le_trans (filt_len _ _ rows) (Nat.le_trans hl (by decide)))
 rw [e,filt_map]
 rfl
theorem rest_right (ha:0<a.length) (h7:dget ρ 7=some (.lst (rows.map rowAV))) (h14:dget ρ 14=some (rowAV a)) (h1:dget ρ 1=some (.int (a.length:Nat))) (h21:dget ρ 21=none) (hl:rows.length≤100) :
  evalE cells call besR ⟨ρ,lh,g⟩=some (.lst ((restR a rows).map rowAV),⟨ρ,lh,g⟩):=by
 have e:=eval_comp (cells:=cells) (call:=call) (lh:=lh) (g:=g) (ρ:=ρ) (elt:=.slice (.var 21) .none_ (.neg (.var 1))) (it:=.var 7) (c:=.cmp .eq (.slice (.var 21) (.neg (.var 1)) .none_) (.var 14)) (x:=21) (xs:=rows) (v:=rowAV)
  (fun t=>cond (decide (t.drop (t.length - a.length)=a)) [rowAV (t.take (t.length - a.length))] []) (iv:=.lst (rows.map rowAV)) (evR [.v 7 (.lst (rows.map rowAV))] (k1 h7) (by kernel_rfl!)) rfl
  (fun ρ' hρ t ht=>by
   have s1:=slice_is (lh:=lh) (t:=t) (l:=.int (-(a.length:Nat))) (h:=.none) rfl rfl (cut_nlo t a.length ha)
   have s2:=slice_is (lh:=lh) (t:=t) (l:=.none) (h:=.int (-(a.length:Nat))) rfl rfl (cut_nhi t a.length ha)
   cases q:decide (t.drop (t.length - a.length)=a)
   ·exact ttR [.v 1 (.int (a.length:Nat)),.g,.o (rowAV (t.drop (t.length - a.length))),.v 14 (rowAV a),.o (.bool false)] (k4 ((hρ 1 rfl).trans h1) s1 ((hρ 14 rfl).trans h14) (q_ee (lh:=lh) q)) (by kernel_rfl!)
   ·exact ttR [.v 1 (.int (a.length:Nat)),.g,.o (rowAV (t.drop (t.length - a.length))),.v 14 (rowAV a),.o (.bool true),.v 1 (.int (a.length:Nat)),.g,.o (rowAV (t.take (t.length - a.length)))] (k6 ((hρ 1 rfl).trans h1) s1 ((hρ 14 rfl).trans h14) (q_ee (lh:=lh) q) ((hρ 1 rfl).trans h1) s2) (by kernel_rfl!))
  h21 (Nat.le_trans (filt_len _ _ rows) (Nat.le_trans hl (by decide)))
 rw [e,filt_map (fun t=>decide (t.drop (t.length - a.length)=a)) (fun t=>t.take (t.length - a.length))]
 rfl
noncomputable def ρb (m:Nat) (o x T S:AV) (b:Bool) (rows:List Row):List (Nat×AV):=[(16,.str m),(19,o),(18,x),(17,.bool b),(11,S),(10,T),(7,.lst (rows.map rowAV))]
noncomputable def pb (z:Nat):Bool:=!Nat.beq 14 z&&!Nat.beq 1 z&&!Nat.beq 20 z
theorem bes_lap {S:Sets} {rest:List Row} {b:Bool} {m:Nat} {o:Tr} {T x:AV} (hm:m<5) (I:Sm pb (ρb m o.av x T S.av b rows) ρ)
  (hf:call .fits [.str m,.int (rest.length:Nat)] g=some (.bool (fitsP m rest.length),g))
  (hb:∀ m1 m2 l r,o=.arr m1 m2 l r→∀ b,call .beside [.lst (rest.map rowAV),o.av,S.av,.bool b] g=some (.bool (besideP S o rest b),g))
  (he:∀ ρ lh,dget ρ 7=some (.lst (rows.map rowAV))→dget ρ 14=some (rowAV a)→dget ρ 1=some (.int (a.length:Nat))→dget ρ 21=none→evalE cells call (cond b besL besR) ⟨ρ,lh,g⟩=some (.lst (rest.map rowAV),⟨ρ,lh,g⟩)) :
  ∃ (ρ':List (Nat×AV)) (lh':List (LO×Bool)),execSs cells call besBody ⟨(14,rowAV a)::ρ,lh,g⟩=some (cond (fitsP m rest.length&&(besideP S o rest true&&besideP S o rest false)) .next (.ret (.bool false)),⟨ρ',lh',g⟩)∧Sm pb (ρb m o.av x T S.av b rows) ρ':=by
 have keep:Sm pb (ρb m o.av x T S.av b rows) ((20,.lst (rest.map rowAV))::(1,.int (a.length:Nat))::(14,rowAV a)::ρ):=((I.cons rfl).cons rfl).cons rfl
 have e:=he ((1,.int (a.length:Nat))::(14,rowAV a)::ρ) lh (I 7 rfl) rfl rfl (I 21 rfl)
 have h2:execS cells call (.asg (.v 20) (.ite (.var 17) besL besR)) ⟨(1,.int (a.length:Nat))::(14,rowAV a)::ρ,lh,g⟩=some (.next,⟨(20,.lst (rest.map rowAV))::(1,.int (a.length:Nat))::(14,rowAV a)::ρ,lh,g⟩):=by
  cases b
  ·exact exsR [.v 17 (.bool false),.e (.lst (rest.map rowAV)) ⟨(1,.int (a.length:Nat))::(14,rowAV a)::ρ,lh,g⟩] (k2 (I 17 rfl) e) (by kernel_rfl!)
  ·exact exsR [.v 17 (.bool true),.e (.lst (rest.map rowAV)) ⟨(1,.int (a.length:Nat))::(14,rowAV a)::ρ,lh,g⟩] (k2 (I 17 rfl) e) (by kernel_rfl!)
 have hl1:=len_row (lh:=lh) (a:=a)
 have hl2:=len_rows (lh:=lh) (l:=rest)
 cases h1:fitsP m rest.length <;> rw [h1] at hf
 ·exact ⟨_,lh,exssR [.n,.o (.int a.length),.y .next ⟨(20,.lst (rest.map rowAV))::(1,.int (a.length:Nat))::(14,rowAV a)::ρ,lh,g⟩,.v 16 (.str m),.o (.int rest.length),.c (.bool false) g] (k5 hl1 h2 (I 16 rfl) hl2 hf) (by kernel_rfl!),keep⟩
 ·cases o with
  | leaf c=>exact ⟨_,lh,exssR [.n,.o (.int a.length),.y .next ⟨(20,.lst (rest.map rowAV))::(1,.int (a.length:Nat))::(14,rowAV a)::ρ,lh,g⟩,.v 16 (.str m),.o (.int rest.length),.c (.bool true) g,.v 19 (Tr.leaf c).av] (k6 hl1 h2 (I 16 rfl) hl2 hf (I 19 rfl)) (by kernel_rfl!),keep⟩
  | arr m1 m2 l r =>
   have hc:=eval_comp (cells:=cells) (call:=call) (lh:=lh) (g:=g) (ρ:=(20,.lst (rest.map rowAV))::(1,.int (a.length:Nat))::(14,rowAV a)::ρ) (elt:=.var 22) (it:=.tup [.bool true,.bool false]) (c:=.not (.call .beside [.var 20,.var 19,.var 11,.var 22])) (x:=22) (xs:=[true,false]) (v:=.bool)
    (fun b=>cond (besideP S (.arr m1 m2 l r) rest b) [] [.bool b]) (iv:=.tup [.bool true,.bool false]) (evR [] .nil (by kernel_rfl!)) rfl
    (fun ρ' hρ b _=>by
     have e1:=hb m1 m2 l r rfl b
     cases q:besideP S (.arr m1 m2 l r) rest b <;> rw [q] at e1
     ·exact ttR [.v 20 (.lst (rest.map rowAV)),.v 19 (Tr.arr m1 m2 l r).av,.v 11 S.av,.c (.bool false) g] (k4 (hρ 20 rfl) ((hρ 19 rfl).trans (I 19 rfl)) ((hρ 11 rfl).trans (I 11 rfl)) e1) (by kernel_rfl!)
     ·exact ttR [.v 20 (.lst (rest.map rowAV)),.v 19 (Tr.arr m1 m2 l r).av,.v 11 S.av,.c (.bool true) g] (k4 (hρ 20 rfl) ((hρ 19 rfl).trans (I 19 rfl)) ((hρ 11 rfl).trans (I 11 rfl)) e1) (by kernel_rfl!))
    (I 22 rfl) (Nat.le_trans (flat_not_len AV.bool _ [true,false]) (by decide))
   have hn:=ne_nil (lh:=lh) (l:=[true,false].flatMap fun b=>cond (besideP S (.arr m1 m2 l r) rest b) [] [AV.bool b])
   rw [flat_not AV.bool _ [true,false]] at hn
   have ha:[true,false].all (besideP S (.arr m1 m2 l r) rest)=(besideP S (.arr m1 m2 l r) rest true&&besideP S (.arr m1 m2 l r) rest false):=by show (_&&(_&&true))=_;rw [Bool.and_true]
   rw [ha] at hn
   cases q:(besideP S (.arr m1 m2 l r) rest true&&besideP S (.arr m1 m2 l r) rest false) <;> rw [q] at hn
   ·exact ⟨_,lh++[(.lst [],false)],exssR [.n,.o (.int a.length),.y .next ⟨(20,.lst (rest.map rowAV))::(1,.int (a.length:Nat))::(14,rowAV a)::ρ,lh,g⟩,.v 16 (.str m),.o (.int rest.length),.c (.bool true) g,.v 19 (Tr.arr m1 m2 l r).av,
     .e (.lst ([true,false].flatMap fun b=>cond (besideP S (.arr m1 m2 l r) rest b) [] [AV.bool b])) ⟨(20,.lst (rest.map rowAV))::(1,.int (a.length:Nat))::(14,rowAV a)::ρ,lh,g⟩,.o (.bool true)] (k8 hl1 h2 (I 16 rfl) hl2 hf (I 19 rfl) hc hn) (by kernel_rfl!),keep⟩
   ·exact ⟨_,lh++[(.lst [],false)],exssR [.n,.o (.int a.length),.y .next ⟨(20,.lst (rest.map rowAV))::(1,.int (a.length:Nat))::(14,rowAV a)::ρ,lh,g⟩,.v 16 (.str m),.o (.int rest.length),.c (.bool true) g,.v 19 (Tr.arr m1 m2 l r).av,
     .e (.lst ([true,false].flatMap fun b=>cond (besideP S (.arr m1 m2 l r) rest b) [] [AV.bool b])) ⟨(20,.lst (rest.map rowAV))::(1,.int (a.length:Nat))::(14,rowAV a)::ρ,lh,g⟩,.o (.bool false)] (k8 hl1 h2 (I 16 rfl) hl2 hf (I 19 rfl) hc hn) (by kernel_rfl!),keep⟩
theorem bes_end {S:Sets} {b:Bool} {m:Nat} {o x:Tr} {m1 m2:Nat} {l r:Tr} {p:Bool} (ho:Tr.av x=(cond b l r).av∧Tr.av o=(cond b r l).av∧m=cond b m2 m1) (ht:callP cells bodies n .tuples [x.av,S.av] g=some (.lst ((tuplesP S x).map rowAV),g))
  (h:∃ ρ' lh',loopF (.v 14) (execSs cells (callP cells bodies n) besBody) ((tuplesP S x).map rowAV) ⟨ρb m o.av x.av (Tr.arr m1 m2 l r).av S.av b rows,[],g⟩=some (cond p .next (.ret (.bool false)),⟨ρ',lh',g⟩)) :
  callP cells bodies (n+1) .beside [.lst (rows.map rowAV),(Tr.arr m1 m2 l r).av,S.av,.bool b] g=some (.bool p,g):=by
 obtain ⟨ρ',lh',h⟩:=h
 obtain ⟨h1,h2,h3⟩:=ho
 have ef:execS cells (callP cells bodies n) (.for_ (.v 14) (.call .tuples [.var 18,.var 11]) besBody) ⟨ρb m o.av x.av (Tr.arr m1 m2 l r).av S.av b rows,[],g⟩=some (cond p .next (.ret (.bool false)),⟨ρ',lh',g⟩) :=
  for_eq (iv:=.lst ((tuplesP S x).map rowAV)) (st1:=⟨ρb m o.av x.av (Tr.arr m1 m2 l r).av S.av b rows,[],g⟩) (evR [.k,.c (.lst ((tuplesP S x).map rowAV)) g] (k2 (fzT (lh:=[]) x) ht) (by kernel_rfl!)) rfl h
 rw [h1,h2,h3] at ef
 cases p <;> cases b
 ·exact cR [.k,.k,.x (.ret (.bool false)) ⟨ρ',lh',g⟩] (k3 (fzT (lh:=[]) r) (fzT (lh:=[]) l) ef) (by kernel_rfl!)
 ·exact cR [.k,.k,.x (.ret (.bool false)) ⟨ρ',lh',g⟩] (k3 (fzT (lh:=[]) l) (fzT (lh:=[]) r) ef) (by kernel_rfl!)
 ·exact cR [.k,.k,.x .next ⟨ρ',lh',g⟩] (k3 (fzT (lh:=[]) r) (fzT (lh:=[]) l) ef) (by kernel_rfl!)
 ·exact cR [.k,.k,.x .next ⟨ρ',lh',g⟩] (k3 (fzT (lh:=[]) l) (fzT (lh:=[]) r) ef) (by kernel_rfl!)
end
theorem lt_pred2 {d n:Nat} {P:Nat→Prop} (hn:d+1<n) (h:∀ m,d≤m→P (m+2)):P n:=match n,hn with
 | n+2,hn=>h n (Nat.le_of_succ_le_succ (Nat.le_of_succ_le_succ hn))
theorem beside_ok {cells:List Int} {S:Sets} (hS:S.ok):∀ T:Tr,T.wf→T.depth≤2→∀ m1 m2 l r,T=.arr m1 m2 l r→∀ n,T.depth+1<n→∀ (rows:List Row),rows.length≤19→∀ b g,callP cells bodies n .beside [.lst (rows.map rowAV),T.av,S.av,.bool b] g=some (.bool (besideP S T rows b),g)
 | .leaf _,_,_=>fun _ _ _ _ h=>nomatch h
 | .arr m1 m2 l r,w,hd=>fun _ _ _ _ _ n hn=>lt_pred2 (P:=fun n=>∀ (rows:List Row),rows.length≤19→∀ b g,callP cells bodies n .beside [.lst (rows.map rowAV),(Tr.arr m1 m2 l r).av,S.av,.bool b] g=some (.bool (besideP S (.arr m1 m2 l r) rows b),g)) hn fun n hn1 rows hrows b g=>by
  have hl:=dl hn1
  have hr:=dr hn1
  have hl2:=Nat.le_of_lt (dl hd)
  have hr2:=Nat.le_of_lt (dr hd)
  have al:=tuples_ar hS l w.2.2.1
  have arr:=tuples_ar hS r w.2.2.2
  have el:=tuples_ok (cells:=cells) hS l w.2.2.1 hl2 (n+1) (Nat.lt_succ_of_lt hl) g
  have er:=tuples_ok (cells:=cells) hS r w.2.2.2 hr2 (n+1) (Nat.lt_succ_of_lt hr) g
  have h100:=Nat.le_trans hrows (by decide:19≤100)
  cases b
  ·exact bes_end (o:=l) (x:=r) ⟨rfl,rfl,rfl⟩ er (loopF_all (q:=pb) (ρ:=ρb m1 l.av r.av (Tr.arr m1 m2 l r).av S.av false rows) (tuplesP S r) _ [] .refl fun ρ lh I a ha =>
    bes_lap w.1 I (fits_ok (n:=n) w.1) (fun _ _ _ _ e b=>beside_ok hS l w.2.2.1 hl2 _ _ _ _ e (n+1) (Nat.succ_lt_succ hl) _ (Nat.le_trans (restR_len a rows) hrows) b g)
     fun ρ lh h7 h14 h1 h21=>rest_right (arr a ha▸ar_pos r) h7 h14 h1 h21 h100)
  ·exact bes_end (o:=r) (x:=l) ⟨rfl,rfl,rfl⟩ el (loopF_all (q:=pb) (ρ:=ρb m2 r.av l.av (Tr.arr m1 m2 l r).av S.av true rows) (tuplesP S l) _ [] .refl fun ρ lh I a ha =>
    bes_lap w.2.1 I (fits_ok (n:=n) w.2.1) (fun _ _ _ _ e b=>beside_ok hS r w.2.2.2 hr2 _ _ _ _ e (n+1) (Nat.succ_lt_succ hr) _ (Nat.le_trans (restL_len a rows) hrows) b g)
     fun ρ lh h7 h14 h1 h21=>rest_left h7 h14 h1 h21 h100)
abbrev Env:=List (Nat×Row)
noncomputable def envL (e:Env):List (Nat×AV):=e.map fun p=>(p.1,rowAV p.2)
noncomputable def envAV (e:Env):AV:=.dct (envL e)
noncomputable def eget:Env→Nat→Option Row
 | [],_=>none
 | (k,v)::r,c=>cond (Nat.beq k c) (some v) (eget r c)
noncomputable def eput:Env→Nat→Row→Env
 | [],c,v=>[(c,v)]
 | (k,w)::r,c,v=>cond (Nat.beq k c) ((k,v)::r) ((k,w)::eput r c v)
theorem eget_av:∀ (e:Env) (c:Nat),dget (envL e) c=(eget e c).map rowAV
 | [],_=>rfl
 | (k,v)::r,c=>by
  show cond (Nat.beq k c) (some (rowAV v)) (dget (envL r) c)=Option.map rowAV (cond (Nat.beq k c) (some v) (eget r c))
  rw [eget_av r c]
  cases Nat.beq k c <;> rfl
theorem eput_av:∀ (e:Env) (c:Nat) (v:Row),dput (envL e) c (rowAV v)=envL (eput e c v)
 | [],_,_=>rfl
 | (k,w)::r,c,v=>by
  show cond (Nat.beq k c) ((k,rowAV v)::envL r) ((k,rowAV w)::dput (envL r) c (rowAV v))=envL (cond (Nat.beq k c) ((k,v)::r) ((k,w)::eput r c v))
  rw [eput_av r c v]
  cases Nat.beq k c <;> rfl
theorem beq_no {k d:Nat} (h:k≠d):Nat.beq k d=false:=Bool.eq_false_iff.mpr fun q=>h (Nat.eq_of_beq_eq_true q)
theorem eget_put':∀ (e:Env) (c d:Nat) (v:Row),eget (eput e c v) d=cond (Nat.beq c d) (some v) (eget e d)
 | [],c,d,v=>rfl
 | (k,w)::r,c,d,v=>by
  show eget (cond (Nat.beq k c) ((k,v)::r) ((k,w)::eput r c v)) d=cond (Nat.beq c d) (some v) (cond (Nat.beq k d) (some w) (eget r d))
  cases h:Nat.beq k c
  ·show cond (Nat.beq k d) (some w) (eget (eput r c v) d)=_
   rw [eget_put' r c d v]
   cases q:Nat.beq k d
   ·rfl
   ·rw [beq_no fun e:c=d=>absurd (e.trans (beq_of q).symm) (Ne.symm (Nat.ne_of_beq_eq_false h))]
    rfl
  ·rw [← beq_of h]
   show cond (Nat.beq k d) (some v) (eget r d)=_
   cases Nat.beq k d <;> rfl
theorem eget_put (e:Env) (c d:Nat) (v:Row):eget (eput e c v) d=if c=d then some v else eget e d:=by
 rw [eget_put']
 by_cases h:c=d
 ·rw [if_pos h,h,Nat.beq_refl];rfl
 ·rw [if_neg h,beq_no h];rfl
theorem eput_len:∀ (e:Env) (c:Nat) (v:Row),(eput e c v).length≤e.length+1
 | [],_,_=>Nat.le_refl _
 | (k,w)::r,c,v=>by
  show (cond (Nat.beq k c) ((k,v)::r) ((k,w)::eput r c v)).length≤_
  cases Nat.beq k c
  ·exact Nat.succ_le_succ (eput_len r c v)
  ·exact Nat.le_succ _
noncomputable def tuplesE (k:Nat) (rows:List Row):AV:=.tup [.str 7,.int k,.tup (rows.map rowAV)]
noncomputable def varE (c:Nat):AV:=.tup [.str 8,.str c]
noncomputable def univE:AV:=.tup [.str 9]
noncomputable def prodE (a b:AV):AV:=.tup [.str 10,a,b]
noncomputable def joinE (a b:AV):AV:=.tup [.str 11,a,b]
def Plain (v:AV):Prop:=∀ lh,freeze lh v=some (v,lh)
noncomputable def lastI (x:Row):Int:=x.getLastD 0
noncomputable def headI (x:Row):Int:=x.headD 0
noncomputable def joinL (ra rb:List Row):List Row:=ra.flatMap fun x=>(rb.filter fun y=>decide (lastI x=headI y)).map fun y=>x.dropLast++y.tail
section
variable (cells:List Int)
def R (c:Nat) (X:AV) (e:Env) (rows:List Row):Prop:=Plain X∧∀ n,c≤n→∀ g,callP cells bodies n .read [X,envAV e] g=some (.lst (rows.map rowAV),g)
def H (c:Nat) (X:AV) (e:Env) (b:Bool):Prop:=Plain X∧∀ n,c≤n→∀ g,callP cells bodies n .holds [X,envAV e] g=some (.bool b,g)
end
section
variable {cells:List Int} {c:Nat} {e:Env}
theorem R.mono {X:AV} {rows:List Row} (h:R cells c X e rows) {d:Nat} (q:c≤d):R cells d X e rows:=⟨h.1,fun n hn g=>h.2 n (Nat.le_trans q hn) g⟩
theorem H.mono {X:AV} {b:Bool} (h:H cells c X e b) {d:Nat} (q:c≤d):H cells d X e b:=⟨h.1,fun n hn g=>h.2 n (Nat.le_trans q hn) g⟩
theorem R_tuples {k:Nat} {rows:List Row}:R cells 1 (tuplesE k rows) e rows:=⟨fun _=>rfl,fun n hn g=>lt_pred (P:=fun n=>callP cells bodies n .read [tuplesE k rows,envAV e] g=some (.lst (rows.map rowAV),g)) hn fun n _=>cR [] .nil (by kernel_rfl!)⟩
theorem R_var {x:Nat} {r:Row} (h:eget e x=some r):R cells 1 (varE x) e [r]:=⟨fun _=>rfl,fun n hn g=>lt_pred (P:=fun n=>callP cells bodies n .read [varE x,envAV e] g=some (.lst ([r].map rowAV),g)) hn fun n _ =>
 cR [.b false,.b true,.g,.o (rowAV r)] (k3 (Eq.refl (some false)) (Eq.refl (some true)) ((eget_av e x).trans (congrArg (Option.map rowAV) h))) (by kernel_rfl!)⟩
theorem R_univ:R cells 1 univE e [[0],[1],[2]]:=⟨fun _=>rfl,fun n hn g=>lt_pred (P:=fun n=>callP cells bodies n .read [univE,envAV e] g=some (.lst ([[0],[1],[2]].map rowAV),g)) hn fun n _=>cR [] .nil (by kernel_rfl!)⟩
theorem R_prod {a b:AV} {ra rb:List Row} (ha:R cells c a e ra) (hb:R cells c b e rb) (hl:ra.length*rb.length≤1000000) (wa:∀ x∈ra,x.length≤1000) (wb:∀ x∈rb,x.length≤1000) :
  R cells (c+1) (prodE a b) e (ra.flatMap fun x=>rb.map fun y=>x++y) :=
 ⟨fun _=>rfl,fun n hn g=>lt_pred (P:=fun n=>callP cells bodies n .read [prodE a b,envAV e] g=some (.lst ((ra.flatMap fun x=>rb.map fun y=>x++y).map rowAV),g)) hn fun n hn=>by
  have ef:(ra.flatMap fun x=>rb.map fun y=>x++y).map rowAV=ra.flatMap fun x=>rb.flatMap fun y=>[rowAV (x++y)]:=by
   rw [List.map_flatMap]
   congr 1
   funext x
   rw [flat_map_one,List.map_map]
   rfl
  have hc:=eval_comp2 (cells:=cells) (call:=callP cells bodies n) (lh:=[]) (g:=g) (ρ:=[(19,.lst (rb.map rowAV)),(18,.lst (ra.map rowAV)),(24,envAV e),(23,prodE a b)])
   (elt:=.bin .add (.var 14) (.var 15)) (x:=14) (y:=15) (it1:=.var 18) (it2:=.var 19) (c:=.none_) (xs:=ra) (v:=rowAV) (w:=rowAV) (iv:=.lst (ra.map rowAV)) (fun _=>.lst (rb.map rowAV)) (fun _=>rb) (fun x y=>[rowAV (x++y)])
   (evR [] .nil (by kernel_rfl!)) rfl (fun ρ' hρ x hx=>evR [.v 19 (.lst (rb.map rowAV))] (k1 (hρ 19 rfl)) (by kernel_rfl!)) (fun _ _=>rfl)
   (fun x hx ρ' _ h14 y hy=>ttR [.v 14 (rowAV x),.o (rowAV (x++y))] (k2 h14 (b_rows (lh:=[]) (a:=x) (b:=y) (Nat.le_trans (Nat.add_le_add (wa x hx) (wb y hy)) (by decide)))) (by kernel_rfl!))
   rfl rfl rfl (Nat.le_trans (flat_len _ rb.length _ fun x _=>Nat.le_of_eq (by rw [flat_map_one,List.length_map])) hl)
  rw [← ef] at hc
  exact cR [.b false,.b false,.b false,.g,.k,.g,.c (.lst (ra.map rowAV)) g,.g,.k,.g,.c (.lst (rb.map rowAV)) g,.e (.lst ((ra.flatMap fun x=>rb.map fun y=>x++y).map rowAV)) ⟨[(19,.lst (rb.map rowAV)),(18,.lst (ra.map rowAV)),(24,envAV e),(23,prodE a b)],[],g⟩]
   (k8 (Eq.refl (some false)) (Eq.refl (some false)) (Eq.refl (some false)) (ha.1 []) (ha.2 n hn g) (hb.1 []) (hb.2 n hn g) hc) (by kernel_rfl!)⟩
theorem row_sub {st:St} {x:Row} {i:Int} {k:Nat} {z:Int} (h:seqIdx x.length i=some k) (hz:x[k]?=some z):subV cells st (rowAV x) (.int i)=some (.int z):=by
 show (seqIdx (x.map AV.int).length i).bind ((x.map AV.int)[·]?)=_
 rw [List.length_map,h]
 show (x.map AV.int)[k]?=_
 rw [List.getElem?_map,hz]
 rfl
theorem sub_last {st:St} {x:Row} (h:x≠[]):subV cells st (rowAV x) (.int (-1))=some (.int (lastI x)):=by
 obtain ⟨y,z,rfl⟩:∃ y z,x=y++[z]:=⟨x.dropLast,x.getLast h,(List.dropLast_concat_getLast h).symm⟩
 have hz:lastI (y++[z])=z:=List.getLastD_concat
 rw [hz]
 refine row_sub (k:=y.length) ?_ last_get
 unfold seqIdx seqIndex?
 rw [List.length_append]
 simp
 lia
theorem sub_head {st:St}:∀ {x:Row},x≠[]→subV cells st (rowAV x) (.int 0)=some (.int (headI x))
 | [],h=>absurd rfl h
 | y::z,h=>row_sub (k:=0) (idx_nat (Int.le_refl 0) (Int.ofNat_lt.mpr (Nat.succ_pos _))) rfl
end
theorem in_rows {lh:List (LO×Bool)} {x:Row} {l:List Row}:inV lh (rowAV x) (.lst (l.map rowAV))=some (decide (x∈l)):=by
 show (intsOf (x.map .int)).bind _=_
 rw [intsOf_map]
 show (rowsOf (l.map rowAV)).map _=_
 rw [rowsOf_map]
 exact congrArg some elem_eq
theorem cut_last (t:Row):cutL (t.map AV.int) none (some (-1))=t.dropLast.map AV.int:=List.dropLast_eq_take▸cut_nhi t 1 (by decide)
theorem cut_first (t:Row):cutL (t.map AV.int) (some 1) none=t.tail.map AV.int:=List.drop_one▸cut_lo t 1
section
variable {cells:List Int} {c:Nat} {e:Env}
theorem R_join {a b:AV} {ra rb:List Row} (ha:R cells c a e ra) (hb:R cells c b e rb) (hl:(joinL ra rb).length<64) (wa:∀ x∈ra,x≠[]∧x.length≤1000) (wb:∀ x∈rb,x≠[]∧x.length≤1000)
  {k:Nat} (hk:0<k) (hw:∀ t∈joinL ra rb,t.length=k) :
  R cells (c+1) (joinE a b) e (sortRows (dedup (joinL ra rb))) :=
 ⟨fun _=>rfl,fun n hn g=>lt_pred (P:=fun n=>callP cells bodies n .read [joinE a b,envAV e] g=some (.lst ((sortRows (dedup (joinL ra rb))).map rowAV),g)) hn fun n hn=>by
  have ef:(joinL ra rb).map rowAV=ra.flatMap fun x=>rb.flatMap fun y=>cond (decide (lastI x=headI y)) [rowAV (x.dropLast++y.tail)] []:=by
   unfold joinL
   rw [List.map_flatMap]
   congr 1
   funext x
   exact (filt_map (fun y=>decide (lastI x=headI y)) (fun y=>x.dropLast++y.tail) rb).symm
  have hc:=eval_comp2 (cells:=cells) (call:=callP cells bodies n) (lh:=[]) (g:=g) (ρ:=[(19,.lst (rb.map rowAV)),(18,.lst (ra.map rowAV)),(24,envAV e),(23,joinE a b)])
   (elt:=.bin .add (.slice (.var 14) .none_ (.neg (.int 1))) (.slice (.var 15) (.int 1) .none_)) (x:=14) (y:=15) (it1:=.var 18) (it2:=.var 19) (c:=.cmp .eq (.sub (.var 14) (.neg (.int 1))) (.sub (.var 15) (.int 0))) (xs:=ra) (v:=rowAV) (w:=rowAV) (iv:=.lst (ra.map rowAV))
   (fun _=>.lst (rb.map rowAV)) (fun _=>rb) (fun x y=>cond (decide (lastI x=headI y)) [rowAV (x.dropLast++y.tail)] [])
   (evR [] .nil (by kernel_rfl!)) rfl (fun ρ' hρ x hx=>evR [.v 19 (.lst (rb.map rowAV))] (k1 (hρ 19 rfl)) (by kernel_rfl!)) (fun _ _=>rfl)
   (fun x hx ρ' _ h14 y hy=>by
    have s1:=sub_last (cells:=cells) (st:=⟨(15,rowAV y)::ρ',[],g⟩) (wa x hx).1
    have s2:=sub_head (cells:=cells) (st:=⟨(15,rowAV y)::ρ',[],g⟩) (wb y hy).1
    cases q:decide (lastI x=headI y)
    ·exact ttR [.v 14 (rowAV x),.g,.o (.int (lastI x)),.o (.int (headI y)),.b false] (k4 h14 s1 s2 (av_is q)) (by kernel_rfl!)
    ·exact ttR [.v 14 (rowAV x),.g,.o (.int (lastI x)),.o (.int (headI y)),.b true,.v 14 (rowAV x),.g,.o (rowAV x.dropLast),.o (rowAV y.tail),.o (rowAV (x.dropLast++y.tail))]
      (k8 h14 s1 s2 (av_is q) h14 (slice_is (lh:=[]) (l:=.none) (h:=.int (-1)) rfl rfl (cut_last x)) (slice_is (lh:=[]) (l:=.int 1) (h:=.none) rfl rfl (cut_first y))
       (b_rows (lh:=[]) (a:=x.dropLast) (b:=y.tail) (Nat.le_trans (Nat.add_le_add (Nat.le_trans (List.length_dropLast▸Nat.sub_le _ _) (wa x hx).2) (Nat.le_trans (List.length_tail▸Nat.sub_le _ _) (wb y hy).2)) (by decide)))) (by kernel_rfl!))
   rfl rfl rfl (by rw [← ef,List.length_map];exact Nat.le_trans (Nat.le_of_lt hl) (by decide))
  rw [← ef] at hc
  exact cR [.b false,.b false,.b false,.g,.k,.g,.c (.lst (ra.map rowAV)) g,.g,.k,.g,.c (.lst (rb.map rowAV)) g,.b false,.e (.lst ((joinL ra rb).map rowAV)) ⟨[(19,.lst (rb.map rowAV)),(18,.lst (ra.map rowAV)),(24,envAV e),(23,joinE a b)],[],g⟩,.o (.lst ((sortRows (dedup (joinL ra rb))).map rowAV))]
   (k10 (Eq.refl (some false)) (Eq.refl (some false)) (Eq.refl (some false)) (ha.1 []) (ha.2 n hn g) (hb.1 []) (hb.2 n hn g) (Eq.refl (some false)) hc (sorted_set (lh:=[]) (v:=.lst ((joinL ra rb).map rowAV)) rfl hw hk hl)) (by kernel_rfl!)⟩
end
noncomputable def andF (fs:List AV):AV:=.tup [.str 13,.tup fs]
noncomputable def impF (a b:AV):AV:=.tup [.str 16,a,b]
noncomputable def inF (a b:AV):AV:=.tup [.str 15,a,b]
noncomputable def multF (m:Nat) (a:AV):AV:=.tup [.str m,a]
noncomputable def declF (c:Nat) (x:AV):AV:=.tup [.str c,x]
noncomputable def allF (ds:List AV) (b:AV):AV:=.tup [.str 12,.tup ds,b]
theorem le_mil {n:Nat} (h:n≤1000):n≤1000000:=Nat.le_trans h (by decide)
theorem nil_all {α:Type} (v:α→AV) (p:α→Bool) (l:List α):cmpV [(.lst [],false)] .eq (.lst (l.flatMap fun a=>cond (p a) [] [v a])) (.loc 0)=some (.bool (l.all p)):=(is_nil (lh:=[])).trans (congrArg (fun b=>some (AV.bool b)) (flat_not v p l))
section
variable {cells:List Int} {c:Nat} {e:Env}
abbrev Fs:Option Bool:=some false
theorem ff:Fs=Fs:=rfl
theorem tt:(some true)=(some true):=rfl
theorem H_and {fs:List (AV×Bool)} (hf:∀ p∈fs,H cells c p.1 e p.2) (hl:fs.length≤1000):H cells (c+1) (andF (fs.map (·.1))) e (fs.all (·.2)) :=
 ⟨fun _=>rfl,fun n hn g=>lt_pred (P:=fun n=>callP cells bodies n .holds [andF (fs.map (·.1)),envAV e] g=some (.bool (fs.all (·.2)),g)) hn fun n hn =>
  have hc:=eval_comp (cells:=cells) (call:=callP cells bodies n) (lh:=[]) (g:=g) (ρ:=[(24,envAV e),(25,andF (fs.map (·.1)))])
   (elt:=.var 18) (x:=18) (it:=.sub (.var 25) (.int 1)) (c:=.not (.call .holds [.var 18,.var 24])) (xs:=fs) (v:=(·.1)) (fun p=>cond p.2 [] [p.1]) (iv:=.tup (fs.map (·.1)))
   (evR [] .nil (by kernel_rfl!)) rfl
   (fun ρ' hρ p hp=>by
    have hh:=(hf p hp).2 n hn g
    cases h2:p.2 <;> rw [h2] at hh
    ·exact ttR [.k,.v 24 (envAV e),.c (.bool false) g,.k] (k4 ((hf p hp).1 []) (hρ 24 rfl) hh ((hf p hp).1 [])) (by kernel_rfl!)
    ·exact ttR [.k,.v 24 (envAV e),.c (.bool true) g] (k3 ((hf p hp).1 []) (hρ 24 rfl) hh) (by kernel_rfl!)) rfl (Nat.le_trans (flat_not_len _ _ fs) (le_mil hl))
  cR [.b true,.e (.lst (fs.flatMap fun p=>cond p.2 [] [p.1])) ⟨[(24,envAV e),(25,andF (fs.map (·.1)))],[],g⟩,.o (.bool (fs.all (·.2)))] (k3 tt hc (nil_all (·.1) (·.2) fs)) (by kernel_rfl!)⟩
theorem H_imp {a b:AV} {x y:Bool} (ha:H cells c a e x) (hb:H cells c b e y):H cells (c+1) (impF a b) e (!x||y) :=
 ⟨fun _=>rfl,fun n hn g=>lt_pred (P:=fun n=>callP cells bodies n .holds [impF a b,envAV e] g=some (.bool (!x||y),g)) hn fun n hn=>by
  have ea:=ha.2 n hn g
  have eb:=hb.2 n hn g
  cases x
  ·exact cR [.b false,.b true,.g,.k,.c (.bool false) g] (k4 ff tt (ha.1 []) ea) (by kernel_rfl!)
  ·cases y
   ·exact cR [.b false,.b true,.g,.k,.c (.bool true) g,.b false,.g,.k,.c (.bool false) g] (k7 ff tt (ha.1 []) ea ff (hb.1 []) eb) (by kernel_rfl!)
   ·exact cR [.b false,.b true,.g,.k,.c (.bool true) g,.b false,.g,.k,.c (.bool true) g] (k7 ff tt (ha.1 []) ea ff (hb.1 []) eb) (by kernel_rfl!)⟩
theorem H_in {a b:AV} {ra rb:List Row} (ha:R cells c a e ra) (hb:R cells c b e rb) (hl:ra.length≤1000):H cells (c+1) (inF a b) e (ra.all fun r=>decide (r∈rb)) :=
 ⟨fun _=>rfl,fun n hn g=>lt_pred (P:=fun n=>callP cells bodies n .holds [inF a b,envAV e] g=some (.bool (ra.all fun r=>decide (r∈rb)),g)) hn fun n hn =>
  have hc:=eval_comp (cells:=cells) (call:=callP cells bodies n) (lh:=[]) (g:=g) (ρ:=[(1,.lst (rb.map rowAV)),(24,envAV e),(25,inF a b)])
   (elt:=.var 18) (x:=18) (it:=.call .read [.sub (.var 25) (.int 1),.var 24]) (c:=.cmp .notin (.var 18) (.var 1)) (xs:=ra) (v:=rowAV) (fun r=>cond (decide (r∈rb)) [] [rowAV r]) (iv:=.lst (ra.map rowAV))
   (evR [.g,.k,.c (.lst (ra.map rowAV)) g] (k2 (ha.1 []) (ha.2 n hn g)) (by kernel_rfl!)) rfl
   (fun ρ' hρ r hr=>by
    have hi:=congrArg (Option.map fun b=>AV.bool !b) (in_rows (lh:=[]) (x:=r) (l:=rb))
    cases q:decide (r∈rb) <;> rw [q] at hi
    ·exact ttR [.v 1 (.lst (rb.map rowAV)),.o (.bool true)] (k2 (hρ 1 rfl) hi) (by kernel_rfl!)
    ·exact ttR [.v 1 (.lst (rb.map rowAV)),.o (.bool false)] (k2 (hρ 1 rfl) hi) (by kernel_rfl!)) rfl (Nat.le_trans (flat_not_len _ _ ra) (le_mil hl))
  cR [.b false,.b false,.b true,.g,.k,.c (.lst (rb.map rowAV)) g,.e (.lst (ra.flatMap fun r=>cond (decide (r∈rb)) [] [rowAV r])) ⟨[(1,.lst (rb.map rowAV)),(24,envAV e),(25,inF a b)],[],g⟩,.o (.bool (ra.all fun r=>decide (r∈rb)))]
   (k7 ff ff tt (hb.1 []) (hb.2 n hn g) hc (nil_all rowAV (fun r=>decide (r∈rb)) ra)) (by kernel_rfl!)⟩
theorem m_ne {m:Nat} (h:m<5) (k:Nat):asBool (.bool (Nat.beq m (k+5)))=some false:=lt5n (P:=fun m=>asBool (.bool (Nat.beq m (k+5)))=some false) h rfl rfl rfl rfl rfl
theorem m_ne12 {m:Nat} (h:m<5):asBool (.bool !(Nat.beq m 12))=some true:=lt5n (P:=fun m=>asBool (.bool !(Nat.beq m 12))=some true) h rfl rfl rfl rfl rfl
theorem H_mult {a:AV} {ra:List Row} {m:Nat} (h5:m<5) (ha:R cells c a e ra):H cells (c+2) (multF m a) e (fitsP m ra.length) :=
 ⟨fun _=>rfl,fun n hn g=>lt_pred2 (P:=fun n=>callP cells bodies n .holds [multF m a,envAV e] g=some (.bool (fitsP m ra.length),g)) hn fun n hn =>
  cR [.b false,.b false,.b false,.b true,.g,.g,.g,.k,.c (.lst (ra.map rowAV)) g,.o (.int ra.length),.c (.bool (fitsP m ra.length)) g]
   (k8 (m_ne h5 8) (m_ne h5 11) (m_ne h5 10) (m_ne12 h5) (ha.1 []) (ha.2 (n+1) (Nat.le_succ_of_le hn) g) (len_rows (lh:=[]) (l:=ra)) (fits_ok (cells:=cells) (n:=n) (g:=g) (k:=ra.length) h5)) (by kernel_rfl!)⟩
noncomputable def stepD (x:Nat) (rows:List Row) (E:List Env):List Env:=E.flatMap fun e=>rows.map fun r=>eput e x r
structure Dec where
 x:Nat
 X:AV
 rows:List Row
def StageOk (cells:List Int) (c:Nat):List Dec→List Env→Prop
 | [],_=>True
 | d::ds,E=>(∀ e∈E,R cells c d.X e d.rows∧e.length<1000)∧(stepD d.x d.rows E).length≤1000000∧StageOk cells c ds (stepD d.x d.rows E)
noncomputable def stepsD:List Dec→List Env→List Env
 | [],E=>E
 | d::ds,E=>stepsD ds (stepD d.x d.rows E)
noncomputable def allBody:List PS:=[.asg (.v 7) (.comp2 (.dictW (.var 27) (.var 26) (.var 14)) (.v 27) (.var 7) (.v 14) (.call .read [.var 23,.var 27]) .none_)]
noncomputable def pa (z:Nat):Bool:=!Nat.beq 7 z&&!Nat.beq 23 z&&!Nat.beq 26 z
theorem put_is {lh:List (LO×Bool)} {x:Nat} {r:Row} (h:e.length<1000):dictWV lh (envAV e) (.str x) (rowAV r)=some (envAV (eput e x r)):=by
 show cond (Nat.blt (envL e).length 1000) (some (AV.dct (dput (envL e) x (rowAV r)))) none=_
 have hl:Nat.blt (envL e).length 1000=true:=Nat.ble_eq_true_of_le (by unfold envL;rw [List.length_map];exact h)
 rw [hl,eput_av]
 rfl
theorem all_lap {n:Nat} (hn:c≤n) {g:GS} {ρ:List (Nat×AV)} {E:List Env} {d:Dec} (h:∀ e∈E,R cells c d.X e d.rows∧e.length<1000) (hl:(stepD d.x d.rows E).length≤1000000) (h7:dget ρ 7=some (.lst (E.map envAV))) (h27:dget ρ 27=none) (h14:dget ρ 14=none) :
  execSs cells (callP cells bodies n) allBody ⟨(23,d.X)::(26,.str d.x)::ρ,[],g⟩=some (.next,⟨(7,.lst ((stepD d.x d.rows E).map envAV))::(23,d.X)::(26,.str d.x)::ρ,[],g⟩):=by
 have ef:(stepD d.x d.rows E).map envAV=E.flatMap fun e=>d.rows.flatMap fun r=>[envAV (eput e d.x r)]:=by
  unfold stepD
  rw [List.map_flatMap]
  congr 1
  funext e
  rw [flat_map_one,List.map_map]
  rfl
 have hc:=eval_comp2 (cells:=cells) (call:=callP cells bodies n) (lh:=[]) (g:=g) (ρ:=(23,d.X)::(26,.str d.x)::ρ)
  (elt:=.dictW (.var 27) (.var 26) (.var 14)) (x:=27) (y:=14) (it1:=.var 7) (it2:=.call .read [.var 23,.var 27]) (c:=.none_) (xs:=E) (v:=envAV) (w:=rowAV) (iv:=.lst (E.map envAV)) (fun _=>.lst (d.rows.map rowAV)) (fun _=>d.rows) (fun e r=>[envAV (eput e d.x r)])
  (evR [.v 7 (.lst (E.map envAV))] (k1 h7) (by kernel_rfl!)) rfl
  (fun ρ' hρ e he=>evR [.v 23 d.X,.k,.c (.lst (d.rows.map rowAV)) g] (k3 (hρ 23 rfl) ((h e he).1.1 []) ((h e he).1.2 n hn g)) (by kernel_rfl!)) (fun _ _=>rfl)
  (fun e he ρ' hρ h27 r hr=>ttR [.v 27 (envAV e),.v 26 (.str d.x),.o (envAV (eput e d.x r))] (k3 h27 (hρ 26 rfl) (put_is (lh:=[]) (x:=d.x) (r:=r) (h e he).2)) (by kernel_rfl!))
  rfl h27 h14 (by rw [← ef,List.length_map];exact hl)
 rw [← ef] at hc
 exact exssR [.e (.lst ((stepD d.x d.rows E).map envAV)) ⟨(23,d.X)::(26,.str d.x)::ρ,[],g⟩] (k1 hc) (by kernel_rfl!)
theorem all_loop {n:Nat} (hn:c≤n) {g:GS} {ρ0:List (Nat×AV)} (h27:dget ρ0 27=none) (h14:dget ρ0 14=none):∀ (ds:List Dec) (E:List Env) (ρ:List (Nat×AV)),StageOk cells c ds E→dget ρ 7=some (.lst (E.map envAV))→Sm pa ρ0 ρ →
  ∃ ρ',loopF (.t [26,23]) (execSs cells (callP cells bodies n) allBody) (ds.map fun d=>declF d.x d.X) ⟨ρ,[],g⟩=some (.next,⟨ρ',[],g⟩)∧dget ρ' 7=some (.lst ((stepsD ds E).map envAV))∧Sm pa ρ0 ρ'
 | [],E,ρ,_,h7,h=>⟨ρ,rfl,h7,h⟩
 | d::ds,E,ρ,hs,h7,h =>
  have e1:=all_lap (g:=g) hn hs.1 hs.2.1 h7 ((h 27 rfl).trans h27) ((h 14 rfl).trans h14)
  let ⟨ρ',e2,r⟩:=all_loop hn h27 h14 ds (stepD d.x d.rows E) ((7,.lst ((stepD d.x d.rows E).map envAV))::(23,d.X)::(26,.str d.x)::ρ) hs.2.2 rfl (((h.cons rfl).cons rfl).cons rfl)
  ⟨ρ',(show bnd (execSs cells (callP cells bodies n) allBody ⟨(23,d.X)::(26,.str d.x)::ρ,[],g⟩) (fun f st=>flV f st (loopF (.t [26,23]) (execSs cells (callP cells bodies n) allBody) (ds.map fun d=>declF d.x d.X)))=_ from (bnd_some e1).trans e2),r⟩
theorem H_all {ds:List Dec} {b:AV} {β:Env→Bool} (hd:StageOk cells c ds [e]) (pb:Plain b) (hb:∀ e'∈stepsD ds [e],H cells c b e' (β e')) (hl:(stepsD ds [e]).length≤100000) :
  H cells (c+1) (allF (ds.map fun d=>declF d.x d.X) b) e ((stepsD ds [e]).all β) :=
 ⟨fun _=>rfl,fun n hn g=>lt_pred (P:=fun n=>callP cells bodies n .holds [allF (ds.map fun d=>declF d.x d.X) b,envAV e] g=some (.bool ((stepsD ds [e]).all β),g)) hn fun n hn =>
  let ⟨ρ,e1,h7,hs⟩:=all_loop (n:=n) hn (g:=g) (ρ0:=[(7,.lst [envAV e]),(24,envAV e),(25,allF (ds.map fun d=>declF d.x d.X) b)]) rfl rfl ds [e] _ hd rfl .refl
  have hc:=eval_comp (cells:=cells) (call:=callP cells bodies n) (lh:=[]) (g:=g) (ρ:=ρ)
   (elt:=.var 27) (x:=27) (it:=.var 7) (c:=.not (.call .holds [.sub (.var 25) (.int 2),.var 27])) (xs:=stepsD ds [e]) (v:=envAV) (fun e=>cond (β e) [] [envAV e]) (iv:=.lst ((stepsD ds [e]).map envAV))
   (evR [.v 7 (.lst ((stepsD ds [e]).map envAV))] (k1 h7) (by kernel_rfl!)) rfl
   (fun ρ' hρ e' he'=>by
    have eh:=(hb e' he').2 n hn g
    cases q:β e' <;> rw [q] at eh
    ·exact ttR [.v 25 (allF (ds.map fun d=>declF d.x d.X) b),.g,.k,.c (.bool false) g] (k3 ((hρ 25 rfl).trans (hs 25 rfl)) (pb []) eh) (by kernel_rfl!)
    ·exact ttR [.v 25 (allF (ds.map fun d=>declF d.x d.X) b),.g,.k,.c (.bool true) g] (k3 ((hρ 25 rfl).trans (hs 25 rfl)) (pb []) eh) (by kernel_rfl!)) (hs 27 rfl) (Nat.le_trans (flat_not_len _ _ _) (Nat.le_trans hl (by decide)))
  have ef:execS cells (callP cells bodies n) (.for_ (.t [26,23]) (.sub (.var 25) (.int 1)) allBody) ⟨[(7,.lst [envAV e]),(24,envAV e),(25,allF (ds.map fun d=>declF d.x d.X) b)],[],g⟩=some (.next,⟨ρ,[],g⟩) :=
   for_eq (t:=.t [26,23]) (iv:=.tup (ds.map fun d=>declF d.x d.X)) (st1:=⟨[(7,.lst [envAV e]),(24,envAV e),(25,allF (ds.map fun d=>declF d.x d.X) b)],[],g⟩) (evR [] .nil (by kernel_rfl!)) rfl e1
  cR [.b false,.b false,.b false,.b false,.x .next ⟨ρ,[],g⟩,.e (.lst ((stepsD ds [e]).flatMap fun e=>cond (β e) [] [envAV e])) ⟨ρ,[],g⟩,.o (.bool ((stepsD ds [e]).all β))] (k7 ff ff ff ff ef hc (nil_all envAV β (stepsD ds [e]))) (by kernel_rfl!)⟩
end
structure Gr (g g':GS) (k:Int):Prop where
 spot:g'.spot=g.spot
 height:g'.height=g.height
 count:g'.count=g.count
 spent:g'.spent≤g.spent+k
noncomputable def leafE (S:Sets) (c:Nat):AV:=if Nat.beq c 17 then tuplesE 1 S.A else if Nat.beq c 18 then tuplesE 1 S.B else if Nat.beq c 19 then varE 21 else tuplesE 2 S.R
noncomputable def exprP (S:Sets):Tr→AV
 | .leaf c=>leafE S c
 | .arr _ _ l r=>prodE (exprP S l) (exprP S r)
noncomputable def opEnv (S:Sets):AV:=.dct [(17,tuplesE 1 S.A),(18,tuplesE 1 S.B),(19,varE 21),(20,tuplesE 2 S.R)]
noncomputable def Tr.cost:Tr→Int
 | .leaf _=>2
 | .arr _ _ l r=>1+l.cost+r.cost
theorem at4 {P:Nat→Prop} {c:Nat} (h:c=17∨c=18∨c=19∨c=20) (h1:P 17) (h2:P 18) (h3:P 19) (h4:P 20):P c:=h.elim (fun e=>e▸h1) fun h=>h.elim (fun e=>e▸h2) fun h=>h.elim (fun e=>e▸h3) fun e=>e▸h4
theorem cost_pos:∀ T:Tr,0≤T.cost
 | .leaf _=>(by decide:(0:Int)≤2)
 | .arr _ _ l r=>Int.add_nonneg (Int.add_nonneg (by decide) (cost_pos l)) (cost_pos r)
theorem exprP_plain {S:Sets}:∀ T:Tr,Plain (exprP S T)
 | .leaf c=>fun lh=>by
  unfold exprP leafE
  cases Nat.beq c 17
  ·cases Nat.beq c 18
   ·cases Nat.beq c 19 <;> rfl
   ·rfl
  ·rfl
 | .arr _ _ l r=>fun lh=>rfl
noncomputable abbrev spentG (g:GS) (a b:Int):GS:=⟨g.spot,g.spent+a,g.height,max g.peak (g.height+b),g.count⟩
noncomputable abbrev deep (g:GS):GS:=⟨g.spot,g.spent,g.height+1,g.peak,g.count⟩
theorem lt_pred4 {d n:Nat} {P:Nat→Prop} (hn:d+4≤n) (h:∀ m,d≤m→P (m+4)):P n:=Nat.sub_add_cancel (Nat.le_trans (Nat.le_add_left 4 d) hn)▸h (n - 4) (Nat.le_sub_of_add_le hn)
section
variable {cells:List Int} {n:Nat} {g:GS} {S:Sets}
theorem spend_ok {a b:Int} (h1:g.spent+a≤20000) (h2:g.height+b≤100):callP cells bodies (n+1) .mSpend [.opener,.int a,.int b] g=some (.none,spentG g a b) :=
 cR [.b false,.b false] (k2 (av_false (p:=20000<g.spent+a) (Int.not_lt.mpr h1)) (av_false (p:=100<g.height+b) (Int.not_lt.mpr h2))) (by kernel_rfl!)
theorem env_at {c:Nat} (hc:c=17∨c=18∨c=19∨c=20) {lh:List (LO×Bool)} {ρ:List (Nat×AV)} {g:GS}:subV cells ⟨ρ,lh,g⟩ (opEnv S) (.str c)=some (leafE S c):=at4 (P:=fun c=>subV cells ⟨ρ,lh,g⟩ (opEnv S) (.str c)=some (leafE S c)) hc rfl rfl rfl rfl
theorem used_ok {c:Nat} (hc:c=17∨c=18∨c=19∨c=20) (h1:g.spent+1≤20000) (h2:g.height+1≤100):callP cells bodies (n+2) .mUsed [.opener,.str c,opEnv S] g=some (leafE S c,spentG g 1 1) :=
 cR [.c .none (spentG g 1 1),.o (leafE S c),.k] (k3 (spend_ok (cells:=cells) (n:=n) h1 h2) (env_at (cells:=cells) (S:=S) hc (ρ:=[]) (lh:=[]) (g:=g)) (exprP_plain (S:=S) (.leaf c) [(.dct [],false)])) (by kernel_rfl!)
theorem wanted_ok {c:Nat} (hc:c=17∨c=18∨c=19∨c=20):callP cells bodies (n+1) .mWanted [.opener,leafE S c,.str 1,.int 0] g=some (leafE S c,g) :=
 at4 (P:=fun c=>callP cells bodies (n+1) .mWanted [.opener,leafE S c,.str 1,.int 0] g=some (leafE S c,g)) hc (cR [] .nil (by kernel_rfl!)) (cR [] .nil (by kernel_rfl!)) (cR [] .nil (by kernel_rfl!)) (cR [] .nil (by kernel_rfl!))
theorem leaf_open {c:Nat} (hc:c=17∨c=18∨c=19∨c=20) {g1 g2:GS} (e1:callP cells bodies (n+2) .mUsed [.opener,.str c,opEnv S] g1=some (leafE S c,g2)) (e2:callP cells bodies (n+2) .mWanted [.opener,leafE S c,.str 1,.int 0] g2=some (leafE S c,g2)) :
  callP cells bodies (n+3) .mExprOf [.opener,(Tr.leaf c).av,opEnv S] g1=some (leafE S c,g2):=by
 revert e1 e2
 exact at4 (P:=fun c=>callP cells bodies (n+2) .mUsed [.opener,.str c,opEnv S] g1=some (leafE S c,g2)→callP cells bodies (n+2) .mWanted [.opener,leafE S c,.str 1,.int 0] g2=some (leafE S c,g2)→callP cells bodies (n+3) .mExprOf [.opener,(Tr.leaf c).av,opEnv S] g1=some (leafE S c,g2)) hc
  (fun e1 e2=>cR [.c (leafE S 17) g2,.c (leafE S 17) g2] (k2 e1 e2) (by kernel_rfl!)) (fun e1 e2=>cR [.c (leafE S 18) g2,.c (leafE S 18) g2] (k2 e1 e2) (by kernel_rfl!))
  (fun e1 e2=>cR [.c (leafE S 19) g2,.c (leafE S 19) g2] (k2 e1 e2) (by kernel_rfl!)) (fun e1 e2=>cR [.c (leafE S 20) g2,.c (leafE S 20) g2] (k2 e1 e2) (by kernel_rfl!))
theorem expr_run {T:Tr} {X:AV} {g2:GS} (pX:Plain X) (h1:g.spent+1≤20000) (h2:g.height+1+0≤100) (e:callP cells bodies (n+1) .mExprOf [.opener,T.av,opEnv S] (spentG (deep g) 1 0)=some (X,g2)) :
  callP cells bodies (n+2) .mExpr [.opener,T.av,opEnv S] g=some (X,⟨g2.spot,g2.spent,g.height,g2.peak,g2.count⟩) :=
 cR [.c .none (spentG (deep g) 1 0),.k,.c X g2,.k] (k4 (spend_ok (cells:=cells) (n:=n) (g:=deep g) h1 h2) (fzT (lh:=[]) T) e (pX [])) (by kernel_rfl!)
theorem expr_ok:∀ T:Tr,T.wf→∀ n,2*T.depth+4≤n→∀ g:GS,g.spent+T.cost≤20000→g.height+T.depth+2≤100→∃ g',Gr g g' T.cost∧callP cells bodies n .mExpr [.opener,T.av,opEnv S] g=some (exprP S T,g')
 | .leaf c,w,n,hn,g,hs,hh=>lt_pred4 (P:=fun n=>∃ g',Gr g g' 2∧callP cells bodies n .mExpr [.opener,(Tr.leaf c).av,opEnv S] g=some (leafE S c,g')) hn fun n _=>by
  have hs:g.spent+2≤20000:=hs
  have hh:g.height+0+2≤100:=hh
  have s2:=Int.add_assoc g.spent 1 1
  have s1:g.spent+1+1≤20000:=Int.le_trans (Int.le_of_eq s2) hs
  have h1:g.height+1+1≤100:=Int.le_trans (Int.le_of_eq ((Int.add_assoc g.height 1 1).trans (congrArg (·+2) (Int.add_zero g.height).symm))) hh
  exact ⟨⟨g.spot,g.spent+1+1,g.height,(spentG (spentG (deep g) 1 0) 1 1).peak,g.count⟩,⟨rfl,rfl,rfl,Int.le_of_eq s2⟩,expr_run (exprP_plain (S:=S) (.leaf c)) (up_r s1 (by decide)) ((Int.add_zero _).symm▸up_r h1 (by decide)) (leaf_open (g1:=spentG (deep g) 1 0) w (used_ok (n:=n) w s1 h1) (wanted_ok (n:=n+1) w))⟩
 | .arr m1 m2 l r,w,n,hn,g,hs,hh=>lt_pred4 (P:=fun n=>∃ g',Gr g g' (1+l.cost+r.cost)∧callP cells bodies n .mExpr [.opener,(Tr.arr m1 m2 l r).av,opEnv S] g=some (prodE (exprP S l) (exprP S r),g')) hn fun n hn=>by
  have hs:g.spent+(1+l.cost+r.cost)≤20000:=hs
  have hh:g.height+(max l.depth r.depth+1:Nat)+2≤100:=hh
  have hn:2*(max l.depth r.depth+1)≤n:=hn
  have cl:=cost_pos l
  have cr:=cost_pos r
  have p3:=as3 hs
  have p2:=up_r p3 cr
  have z:=hd1 hh (Nat.zero_le _)
  obtain ⟨g2,r2,e2⟩:=expr_ok l w.2.2.1 (n+2) (hd2 hn (Nat.le_max_left _ _)) (spentG (deep g) 1 0) p2 (hd1 hh (Nat.le_max_left _ _))
  have q1:g2.spent≤g.spent+1+l.cost:=r2.4
  have q2:g2.height=g.height+1:=r2.2
  obtain ⟨gb,r3,e3⟩:=expr_ok r w.2.2.2 (n+2) (hd2 hn (Nat.le_max_right _ _)) g2 (st q1 _ p3) (q2.symm▸hd1 hh (Nat.le_max_right _ _))
  have q3:=r3.4
  have e4:callP cells bodies (n+3) .mExprOf [.opener,(Tr.arr m1 m2 l r).av,opEnv S] (spentG (deep g) 1 0)=some (prodE (exprP S l) (exprP S r),gb) :=
   cR [.b false,.b false,.b false,.b false,.b true,.g,.g,.k,.c (exprP S l) g2,.k,.g,.k,.c (exprP S r) gb,.k]
    (k11 ff ff ff ff tt (fzT (lh:=[]) l) e2 (exprP_plain (S:=S) l []) (fzT (lh:=[]) r) e3 (exprP_plain (S:=S) r [])) (by kernel_rfl!)
  exact ⟨⟨gb.spot,gb.spent,g.height,gb.peak,gb.count⟩,⟨r3.1.trans r2.1,rfl,r3.3.trans r2.3,as3' (Int.le_trans q3 (Int.add_le_add_right q1 _))⟩,expr_run (fun _=>rfl) (up_r p2 cl) (up_r z (by decide)) e4⟩
theorem arity_ok:∀ T:Tr,T.wf→∀ n,T.depth<n→∀ g,callP cells bodies n .mArity [.opener,exprP S T] g=some (.int (T.ar:Nat),g)
 | .leaf c,w,n,hn,g=>lt_pred (P:=fun n=>callP cells bodies n .mArity [.opener,exprP S (.leaf c)] g=some (.int (arOf c:Nat),g)) hn fun n _ =>
  at4 (P:=fun c=>callP cells bodies (n+1) .mArity [.opener,exprP S (.leaf c)] g=some (.int (arOf c:Nat),g)) w (cR [] .nil (by kernel_rfl!)) (cR [] .nil (by kernel_rfl!)) (cR [] .nil (by kernel_rfl!)) (cR [] .nil (by kernel_rfl!))
 | .arr m1 m2 l r,w,n,hn,g=>lt_pred (P:=fun n=>callP cells bodies n .mArity [.opener,prodE (exprP S l) (exprP S r)] g=some (.int (l.ar+r.ar:Nat),g)) hn fun n hn =>
  cR [.b false,.b false,.b false,.b false,.b true,.g,.k,.c (.int (l.ar:Nat)) g,.g,.k,.c (.int (r.ar:Nat)) g]
   (k9 ff ff ff ff tt (exprP_plain (S:=S) l []) (arity_ok l w.2.2.1 n (dl hn) g) (exprP_plain (S:=S) r []) (arity_ok r w.2.2.2 n (dr hn) g)) (by kernel_rfl!)
theorem guarded_none {Φ:AV} (p:Plain Φ):callP cells bodies (n+1) .mGuarded [.opener,.none,Φ] g=some (Φ,g):=cR [.k] (k1 (p [])) (by kernel_rfl!)
theorem guarded_some {l:List AV} {Φ:AV} (p:Plain Φ):callP cells bodies (n+1) .mGuarded [.opener,.tup l,Φ] g=some (impF (.tup l) Φ,g):=cR [.b false,.g,.g,.k] (k2 ff (p [])) (by kernel_rfl!)
theorem fresh_ok (h0:0≤g.count) (h1:g.count<900000):callP cells bodies (n+1) .mFresh [.opener,.str 25] g=some (.str (1000+(g.count+1).toNat),⟨g.spot,g.spent,g.height,g.peak,g.count+1⟩):=by
 have e2:fstrV (.str 25) (.int (g.count+1))=some (.str (1000+(g.count+1).toNat)) :=
  (obind_some (o:=asInt (.int (g.count+1))) (a:=g.count+1) (f:=fun n=>cond (decide (0≤n∧n<1000000)) (some (AV.str (1000+n.toNat))) none) rfl).trans (cond_t (decide_eq_true (by lia)))
 exact cR [.g,.g,.g,.o (.str (1000+(g.count+1).toNat))] (k1 e2) (by kernel_rfl!)
end
noncomputable def namesP:Nat→Nat→List Nat
 | _,0=>[]
 | c,k+1=>(1001+c)::namesP (c+1) k
theorem namesP_len:∀ k c,(namesP c k).length=k
 | 0,_=>rfl
 | k+1,c=>congrArg (·+1) (namesP_len k (c+1))
noncomputable def rowE:List Nat→AV
 | []=>.none
 | x::xs=>xs.foldl (fun acc y=>prodE acc (varE y)) (varE x)
noncomputable def declsP (ns:List Nat) (X:AV):List AV:=match ns with
 | [x]=>[declF x X]
 | ns=>ns.map fun x=>declF x univE
noncomputable def guardV (ns:List Nat) (X:AV):AV:=match ns with
 | [_]=>.none
 | ns=>inF (rowE ns) X
theorem foldl_plain (f:AV→Nat→AV) (hf:∀ a x,Plain (f a x)):∀ (xs:List Nat) (a:AV),Plain a→Plain (xs.foldl f a)
 | [],a,h=>h
 | x::xs,a,h=>foldl_plain f hf xs (f a x) (hf a x)
noncomputable abbrev cnt (g:GS) (c:Nat):GS:=⟨g.spot,g.spent,g.height,g.peak,(c:Nat)⟩
theorem count_is {g:GS} {c:Nat} (h:g.count=(c:Nat)):g=cnt g c:=congrArg (fun k=>(⟨g.spot,g.spent,g.height,g.peak,k⟩:GS)) h
section
variable {cells:List Int} {n:Nat} {g:GS} {S:Sets}
theorem fresh_at {c:Nat} (h:c<900000):callP cells bodies (n+1) .mFresh [.opener,.str 25] (cnt g c)=some (.str (1001+c),cnt g (c+1)) :=
 (fresh_ok (cells:=cells) (n:=n) (g:=cnt g c) (Int.natCast_nonneg c) (Int.ofNat_lt.mpr h)).trans (congrArg (fun k=>some (AV.str k,cnt g (c+1))) ((congrArg (1000+·) (Nat.add_comm c 1)).trans (Nat.add_assoc 1000 1 c).symm))
noncomputable abbrev freshB (cells:List Int) (n:Nat):St→Option (List AV×St):=testThen (isNoneE .none_) (evalE cells (callP cells bodies (n+1)) .none_) (evalE cells (callP cells bodies (n+1)) (.meth .mFresh (.var 36) [.str 25]))
theorem fresh_loop {lh:List (LO×Bool)}:∀ (xs:List AV) (c:Nat) (ρ:List (Nat×AV)),c+xs.length<900000→dget ρ 36=some .opener →
  ∃ ρ',loopC (.v 5) (freshB cells n) xs ⟨ρ,lh,cnt g c⟩=some ((namesP c xs.length).map .str,⟨ρ',lh,cnt g (c+xs.length)⟩)
 | [],c,ρ,_,_=>⟨ρ,rfl⟩
 | x::xs,c,ρ,hl,h36 =>
  have hl':c+1+xs.length<900000:=Nat.lt_of_le_of_lt (Nat.le_of_eq (Nat.add_right_comm c 1 xs.length)) hl
  let ⟨ρ',e2⟩:=fresh_loop (lh:=lh) xs (c+1) ((5,x)::ρ) hl' h36
  have eb:freshB cells n ⟨(5,x)::ρ,lh,cnt g c⟩=some ([.str (1001+c)],⟨(5,x)::ρ,lh,cnt g (c+1)⟩) :=
   ttR [.v 36 .opener,.g,.c (.str (1001+c)) (cnt g (c+1))] (k2 h36 (fresh_at (cells:=cells) (n:=n) (g:=g) (Nat.lt_of_le_of_lt (Nat.le_trans (Nat.le_succ c) (Nat.le_add_right (c+1) xs.length)) hl'))) (by kernel_rfl!)
  ⟨ρ',loopC_cons.trans ((bnd_some eb).trans ((bnd_some e2).trans (congrArg (fun k=>some ((namesP c (x::xs).length).map AV.str,(⟨ρ',lh,cnt g k⟩:St))) (Nat.add_right_comm c 1 xs.length))))⟩
theorem run_one {call:Fn→List AV→GS→Option (AV×GS)} {y:Nat} {e:PE} {st st1:St} {v:AV} (h:evalE cells call e st=some (v,st1)):execSs cells call [.asg (.v y) e] st=some (.next,⟨(y,v)::st1.ρ,st1.lh,st1.g⟩):=by
 refine (show execSs cells call [.asg (.v y) e] st=bnd (bnd (evalE cells call e st) fun v st=>nxt (bindT (.v y) v st)) fun f st=>flV f st (execSs cells call []) from by kernel_rfl!).trans ?_
 rw [h]
 rfl
theorem sub_first {st:St} {a:AV} {l:List AV}:subV cells st (.lst (a::l)) (.int 0)=some a:=by
 show (seqIdx (a::l).length 0).bind ((a::l)[·]?)=_
 rw [show seqIdx (a::l).length 0=some 0 from idx_nat (Int.le_refl 0) (Int.ofNat_lt.mpr (Nat.succ_pos _))]
 rfl
theorem loop_fold {call:Fn→List AV→GS→Option (AV×GS)} {y:Nat} {e:PE} {lh:List (LO×Bool)} (f:AV→Nat→AV) (hp:∀ a x,Plain (f a x))
  (he:∀ ρ acc x,dget ρ y=some acc→Plain acc→evalE cells call e ⟨(18,varE x)::ρ,lh,g⟩=some (f acc x,⟨(18,varE x)::ρ,lh,g⟩)) :
  ∀ (ms:List Nat) (ρ:List (Nat×AV)) (acc:AV),dget ρ y=some acc→Plain acc→∃ ρ',loopF (.v 18) (execSs cells call [.asg (.v y) e]) (ms.map varE) ⟨ρ,lh,g⟩=some (.next,⟨ρ',lh,g⟩)∧dget ρ' y=some (ms.foldl f acc)∧Sm (not2 18 y) ρ ρ'
 | [],ρ,acc,h,_=>⟨ρ,rfl,h,.refl⟩
 | m::ms,ρ,acc,h,pa =>
  let ⟨ρ',e2,h2,h3⟩:=loop_fold f hp he ms ((y,f acc m)::(18,varE m)::ρ) (f acc m) (by rw [dget,Nat.beq_refl];rfl) (hp acc m)
  have e3:execSs cells call [.asg (.v y) e] ⟨(18,varE m)::ρ,lh,g⟩=some (.next,⟨(y,f acc m)::(18,varE m)::ρ,lh,g⟩):=run_one (he ρ acc m h pa)
  ⟨ρ',loopF_cons.trans ((bnd_some e3).trans e2),h2,fun z hz=>(h3 z hz).trans ((Sm.refl.cons not2_x).cons not2_y z hz)⟩
theorem cut_tail {l:List AV}:cutL l (some 1) none=l.tail:=by
 show (l.drop (clipAt l.length ((1:Nat):Int))).take (l.length - clipAt l.length ((1:Nat):Int))=_
 rw [clipAt_nat]
 cases l with
 | nil=>rfl
 | cons x l =>
  rw [show min 1 (x::l).length=1 from Nat.min_eq_left (Nat.succ_le_succ (Nat.zero_le _))]
  exact List.take_length
noncomputable abbrev rhoE (k:Nat) (X:AV):List (Nat×AV):=[(3,.int (k:Nat)),(23,X),(36,.opener)]
noncomputable abbrev rhoE7 (ns:List Nat) (k:Nat) (X:AV):List (Nat×AV):=(7,.lst (ns.map varE))::(33,.lst (ns.map .str))::rhoE k X
theorem each_names {k:Nat} {X:AV} (c:Nat) (hk:k≤8) (hc:c<800000):evalE cells (callP cells bodies (n+1)) (.comp (.meth .mFresh (.var 36) [.str 25]) (.v 5) (.range (.var 3)) .none_) ⟨rhoE k X,[],cnt g c⟩=some (.lst ((namesP c k).map .str),⟨rhoE k X,[],cnt g (c+k)⟩):=by
 have hl:((List.range k).map fun (i:Nat)=>AV.int (i:Int)).length=k:=(List.length_map _).trans List.length_range
 have hc9:c+k<900000:=Nat.lt_of_lt_of_le (Nat.add_lt_add_of_lt_of_le hc hk) (by decide)
 obtain ⟨_,ef⟩:=fresh_loop (cells:=cells) (n:=n) (g:=g) (lh:=[]) ((List.range k).map fun (i:Nat)=>AV.int (i:Int)) c (rhoE k X) (hl.symm▸hc9) rfl
 rw [hl] at ef
 exact comp_eq (evR [.o (.rng k)] (k1 (range_of (k:=k) (Nat.lt_of_le_of_lt hk (by decide)))) (by kernel_rfl!)) it_range ef rfl (by rw [List.length_map,namesP_len];exact Nat.le_trans hk (by decide))
theorem each_vars {ns:List Nat} {k:Nat} {X:AV} (hk:ns.length≤8):evalE cells (callP cells bodies (n+1)) (.comp (.tup [.str 8,.var 26]) (.v 26) (.var 33) .none_) ⟨(33,.lst (ns.map .str))::rhoE k X,[],g⟩=some (.lst (ns.map varE),⟨(33,.lst (ns.map .str))::rhoE k X,[],g⟩) :=
 flat_map_one varE ns▸eval_comp (cells:=cells) (call:=callP cells bodies (n+1)) (xs:=ns) (v:=.str) (fun x=>[varE x]) (iv:=.lst (ns.map .str)) (evR [] .nil (by kernel_rfl!)) rfl
  (fun ρ _ a _=>ttR [] .nil (by kernel_rfl!)) rfl (by rw [flat_map_one,List.length_map];exact Nat.le_trans hk (by decide))
theorem each_one {x:Nat} {X:AV} {g0 g:GS} (pX:Plain X) (ea:callP cells bodies (n+1) .mArity [.opener,X] g0=some (.int (1:Nat),g0))
  (e1:evalE cells (callP cells bodies (n+1)) (.comp (.meth .mFresh (.var 36) [.str 25]) (.v 5) (.range (.var 3)) .none_) ⟨rhoE 1 X,[],g0⟩=some (.lst ([x].map .str),⟨rhoE 1 X,[],g⟩)) :
  callP cells bodies (n+2) .mEachOf [.opener,X] g0=some (.tup [.tup (declsP [x] X),.lst ([x].map varE),guardV [x] X],g) :=
 cR [.k,.c (.int (1:Nat)) g0,.e (.lst ([x].map .str)) ⟨rhoE 1 X,[],g⟩,.e (.lst ([x].map varE)) ⟨(33,.lst ([x].map .str))::rhoE 1 X,[],g⟩,.b true,.g,.g,.k]
  (k6 (pX []) ea e1 (each_vars (cells:=cells) (n:=n) (g:=g) (ns:=[x]) (k:=1) (X:=X) (Nat.le_of_ble_eq_true rfl)) tt (pX [])) (by kernel_rfl!)
theorem each_more {x y:Nat} {r:List Nat} {k:Nat} {X:AV} {g0 g:GS} (hl:(x::y::r).length≤8) (hk:¬ k=1) (pX:Plain X) (ea:callP cells bodies (n+1) .mArity [.opener,X] g0=some (.int (k:Nat),g0))
  (e1:evalE cells (callP cells bodies (n+1)) (.comp (.meth .mFresh (.var 36) [.str 25]) (.v 5) (.range (.var 3)) .none_) ⟨rhoE k X,[],g0⟩=some (.lst ((x::y::r).map .str),⟨rhoE k X,[],g⟩)) :
  callP cells bodies (n+2) .mEachOf [.opener,X] g0=some (.tup [.tup (declsP (x::y::r) X),.lst ((x::y::r).map varE),guardV (x::y::r) X],g) :=
 let ⟨ρ2,e3,h42,hz⟩:=loop_fold (cells:=cells) (call:=callP cells bodies (n+1)) (g:=g) (y:=42) (e:=.tup [.str 10,.var 42,.var 18]) (lh:=[]) (fun acc y=>prodE acc (varE y)) (fun _ _ _=>rfl)
  (fun ρ acc x h pa=>evR [.g,.v 42 acc,.k] (k2 h (pa [])) (by kernel_rfl!)) (y::r) ((42,varE x)::rhoE7 (x::y::r) k X) (varE x) rfl (fun _=>rfl)
 have e4:evalE cells (callP cells bodies (n+1)) (.comp (.tup [.var 26,.tup [.str 9]]) (.v 26) (.var 33) .none_) ⟨ρ2,[],g⟩=some (.lst ((x::y::r).map fun x=>declF x univE),⟨ρ2,[],g⟩) :=
  flat_map_one (fun x=>declF x univE) (x::y::r)▸eval_comp (cells:=cells) (call:=callP cells bodies (n+1)) (lh:=[]) (g:=g) (ρ:=ρ2) (xs:=x::y::r) (v:=.str) (fun x=>[declF x univE]) (iv:=.lst ((x::y::r).map .str))
   (evR [.v 33 (.lst ((x::y::r).map .str))] (k1 (hz 33 rfl)) (by kernel_rfl!)) rfl (fun ρ _ a _=>ttR [] .nil (by kernel_rfl!)) (hz 26 rfl) (by rw [flat_map_one,List.length_map];exact Nat.le_trans hl (by decide))
 have ef:execS cells (callP cells bodies (n+1)) (.for_ (.v 18) (.slice (.var 7) (.int 1) .none_) [.asg (.v 42) (.tup [.str 10,.var 42,.var 18])]) ⟨(42,varE x)::rhoE7 (x::y::r) k X,[],g⟩=some (.next,⟨ρ2,[],g⟩) :=
  for_eq (iv:=.lst ((y::r).map varE)) (st1:=⟨(42,varE x)::rhoE7 (x::y::r) k X,[],g⟩) (evR [.o (.lst ((y::r).map varE))] (k1 (congrArg (fun l=>some (AV.lst l)) (cut_tail (l:=(x::y::r).map varE)))) (by kernel_rfl!)) rfl e3
 have hp:Plain (rowE (x::y::r)):=foldl_plain _ (fun _ _ _=>rfl) (y::r) (varE x) fun _=>rfl
 cR [.k,.c (.int (k:Nat)) g0,.e (.lst ((x::y::r).map .str)) ⟨rhoE k X,[],g⟩,.e (.lst ((x::y::r).map varE)) ⟨(33,.lst ((x::y::r).map .str))::rhoE k X,[],g⟩,.b false,.o (varE x),.x .next ⟨ρ2,[],g⟩,
   .e (.lst ((x::y::r).map fun x=>declF x univE)) ⟨ρ2,[],g⟩,.g,.g,.v 7 (.lst ((x::y::r).map varE)),.g,.g,.v 42 (rowE (x::y::r)),.k,.v 23 X,.k]
  (k13 (pX []) ea e1 (each_vars (cells:=cells) (n:=n) (g:=g) (ns:=x::y::r) (k:=k) (X:=X) hl) (av_false (p:=(k:Int)=1) fun q=>hk (Int.ofNat.inj q)) (sub_first (cells:=cells) (st:=⟨rhoE7 (x::y::r) k X,[],g⟩) (a:=varE x) (l:=(y::r).map varE)) ef e4 (hz 7 rfl) h42 (hp []) (hz 23 rfl) (pX [])) (by kernel_rfl!)
theorem list2 {P:List Nat→Prop} (h1:∀ x,P [x]) (h2:∀ x y r,P (x::y::r)):∀ ns:List Nat,0<ns.length→P ns
 | [],p0=>absurd p0 (Nat.lt_irrefl 0)
 | [x],_=>h1 x
 | x::y::r,_=>h2 x y r
theorem each_of {X:AV} {g0 g:GS} (pX:Plain X) (ns:List Nat) (p0:0<ns.length):ns.length≤8→callP cells bodies (n+1) .mArity [.opener,X] g0=some (.int (ns.length:Nat),g0) →
  evalE cells (callP cells bodies (n+1)) (.comp (.meth .mFresh (.var 36) [.str 25]) (.v 5) (.range (.var 3)) .none_) ⟨rhoE ns.length X,[],g0⟩=some (.lst (ns.map .str),⟨rhoE ns.length X,[],g⟩) →
  callP cells bodies (n+2) .mEachOf [.opener,X] g0=some (.tup [.tup (declsP ns X),.lst (ns.map varE),guardV ns X],g) :=
 list2 (P:=fun ns=>ns.length≤8→callP cells bodies (n+1) .mArity [.opener,X] g0=some (.int (ns.length:Nat),g0) →
  evalE cells (callP cells bodies (n+1)) (.comp (.meth .mFresh (.var 36) [.str 25]) (.v 5) (.range (.var 3)) .none_) ⟨rhoE ns.length X,[],g0⟩=some (.lst (ns.map .str),⟨rhoE ns.length X,[],g⟩) →
  callP cells bodies (n+2) .mEachOf [.opener,X] g0=some (.tup [.tup (declsP ns X),.lst (ns.map varE),guardV ns X],g))
   (fun x _ ea e1=>each_one (x:=x) (X:=X) (g0:=g0) (g:=g) pX ea e1) (fun x y r p8 ea e1=>each_more (x:=x) (y:=y) (r:=r) (k:=(x::y::r).length) (X:=X) (g0:=g0) (g:=g) p8 (fun q=>nomatch (Nat.succ.inj q)) pX ea e1) ns p0
theorem each_ok {T:Tr} (w:T.wf) (hd:T.depth≤2) {c:Nat} (hc:g.count=(c:Nat)) (hc2:c<800000) (hn:T.depth<n+1) :
  callP cells bodies (n+2) .mEachOf [.opener,exprP S T] g=some (.tup [.tup (declsP (namesP c T.ar) (exprP S T)),.lst ((namesP c T.ar).map varE),guardV (namesP c T.ar) (exprP S T)],cnt g (c+T.ar)):=by
 have e1:=each_names (cells:=cells) (n:=n) (g:=g) (X:=exprP S T) c (ar_le2 hd) hc2
 have ea:=arity_ok (cells:=cells) (S:=S) T w (n+1) hn (cnt g c)
 rw [count_is hc]
 have hl:=namesP_len T.ar c
 refine each_of (exprP_plain T) (namesP c T.ar) (hl.symm▸ar_pos T) (hl.symm▸ar_le2 hd) ?_ ?_
 ·rw [hl];exact ea
 ·rw [hl];exact e1
end
end P
section
section
variable {α β γ:Type} {P:Prop}
theorem bnd_is {o:Option (α×St)} {f:α→St→Option β} {r:β} (h:bnd o f=some r) (k:∀ a st,o=some (a,st)→f a st=some r→P):P:=match o,h with
 | some p,h=>k p.1 p.2 rfl h
theorem bnd_at {o:Option (α×St)} {f:α→St→Option β} {a:α} {st:St} (h:o=some (a,st)):bnd o f=f a st:=h▸rfl
theorem obind_is {o:Option α} {f:α→Option β} {r:β} (h:o.bind f=some r) (k:∀ a,o=some a→f a=some r→P):P:=match o,h with
 | some a,h=>k a rfl h
theorem omap_is {o:Option α} {f:α→β} {r:β} (h:o.map f=some r) (k:∀ a,o=some a→f a=r→P):P:=match o,h with
 | some a,h=>k a rfl (Option.some.inj h)
theorem cond_is {b:Bool} {o:Option α} {r:α} (h:cond b o none=some r) (k:b=true→o=some r→P):P:=match b,h with
 | true,h=>k rfl h
theorem cond_or {b:Bool} {x y r:α} (h:cond b x y=r) (k1:b=true→x=r→P) (k2:b=false→y=r→P):P:=match b,h with
 | true,h=>k1 rfl h
 | false,h=>k2 rfl h
theorem elim_is {o:Option α} {n:β} {f:α→β} {r:β} (h:o.elim n f=r) (k1:o=none→n=r→P) (k2:∀ a,o=some a→f a=r→P):P:=match o,h with
 | none,h=>k1 rfl h
 | some a,h=>k2 a rfl h
theorem ret_is {Q:α→β→Prop} {a c:α} {b d:β} (h:some (a,b)=some (c,d)) (k:Q a b):Q c d:=(Prod.mk.inj (Option.some.inj h)).1▸(Prod.mk.inj (Option.some.inj h)).2▸k
theorem some_is {Q:α→Prop} {a c:α} (h:some a=some c) (k:Q a):Q c:=Option.some.inj h▸k
theorem and_is {a b:Bool} (h:(a&&b)=true):a=true∧b=true:=Bool.and_eq_true_iff.mp h
end
theorem nn {α:Type} {a:α} {P:Prop} (h:none=some a):P:=nomatch h
theorem nb {P:Prop} (h:false=true):P:=nomatch h
theorem asInt_is {v:AV} {x:Int}:asInt v=some x→v=.int x:=AV.casesOn (motive_1:=fun v=>asInt v=some x→v=.int x) v nn (fun _=>nn) (fun _ h=>congrArg AV.int (Option.some.inj h)) (fun _=>nn) (fun _=>nn) (fun _=>nn) (fun _=>nn) (fun _=>nn) nn nn (fun _=>nn) (fun _=>nn)
theorem asStr_is {v:AV} {x:Nat}:asStr v=some x→v=.str x:=AV.casesOn (motive_1:=fun v=>asStr v=some x→v=.str x) v nn (fun _=>nn) (fun _=>nn) (fun _ h=>congrArg AV.str (Option.some.inj h)) (fun _=>nn) (fun _=>nn) (fun _=>nn) (fun _=>nn) nn nn (fun _=>nn) (fun _=>nn)
theorem asBool_is {v:AV} {x:Bool}:asBool v=some x→v=.bool x:=AV.casesOn (motive_1:=fun v=>asBool v=some x→v=.bool x) v nn (fun _ h=>congrArg AV.bool (Option.some.inj h)) (fun _=>nn) (fun _=>nn) (fun _=>nn) (fun _=>nn) (fun _=>nn) (fun _=>nn) nn nn (fun _=>nn) (fun _=>nn)
theorem asTup_is {v:AV} {x:List AV}:asTup v=some x→v=.tup x:=AV.casesOn (motive_1:=fun v=>asTup v=some x→v=.tup x) v nn (fun _=>nn) (fun _=>nn) (fun _=>nn) (fun _ h=>congrArg AV.tup (Option.some.inj h)) (fun _=>nn) (fun _=>nn) (fun _=>nn) nn nn (fun _=>nn) (fun _=>nn)
theorem lstOf_is {v:AV} {x:List AV}:lstOf v=some x→v=.lst x:=AV.casesOn (motive_1:=fun v=>lstOf v=some x→v=.lst x) v nn (fun _=>nn) (fun _=>nn) (fun _=>nn) (fun _=>nn) (fun _ h=>congrArg AV.lst (Option.some.inj h)) (fun _=>nn) (fun _=>nn) nn nn (fun _=>nn) (fun _=>nn)
theorem asDct_is {v:AV} {x:List (Nat×AV)}:asDct v=some x→v=.dct x:=AV.casesOn (motive_1:=fun v=>asDct v=some x→v=.dct x) v nn (fun _=>nn) (fun _=>nn) (fun _=>nn) (fun _=>nn) (fun _=>nn) (fun _ h=>congrArg AV.dct (Option.some.inj h)) (fun _=>nn) nn nn (fun _=>nn) (fun _=>nn)
theorem asLoc_is {v:AV} {x:Nat}:asLoc v=some x→v=.loc x:=AV.casesOn (motive_1:=fun v=>asLoc v=some x→v=.loc x) v nn (fun _=>nn) (fun _=>nn) (fun _=>nn) (fun _=>nn) (fun _=>nn) (fun _=>nn) (fun _ h=>congrArg AV.loc (Option.some.inj h)) nn nn (fun _=>nn) (fun _=>nn)
theorem isSl_is {v:AV}:isSl v=true→v=.slate:=AV.casesOn (motive_1:=fun v=>isSl v=true→v=.slate) v nb (fun _=>nb) (fun _=>nb) (fun _=>nb) (fun _=>nb) (fun _=>nb) (fun _=>nb) (fun _=>nb) (fun _=>rfl) nb (fun _=>nb) (fun _=>nb)
theorem isOp_is {v:AV}:isOp v=true→v=.opener:=AV.casesOn (motive_1:=fun v=>isOp v=true→v=.opener) v nb (fun _=>nb) (fun _=>nb) (fun _=>nb) (fun _=>nb) (fun _=>nb) (fun _=>nb) (fun _=>nb) nb (fun _=>rfl) (fun _=>nb) (fun _=>nb)
theorem isNone_is {v:AV}:isNone v=true→v=.none:=AV.casesOn (motive_1:=fun v=>isNone v=true→v=.none) v (fun _=>rfl) (fun _=>nb) (fun _=>nb) (fun _=>nb) (fun _=>nb) (fun _=>nb) (fun _=>nb) (fun _=>nb) nb nb (fun _=>nb) (fun _=>nb)
theorem loL_is {o:LO} {l:List AV}:loL o=some l→o=.lst l:=LO.casesOn (motive:=fun o=>loL o=some l→o=.lst l) o (fun _ h=>congrArg LO.lst (Option.some.inj h)) (fun _=>nn)
theorem loD_is {o:LO} {l:List (Nat×AV)}:loD o=some l→o=.dct l:=LO.casesOn (motive:=fun o=>loD o=some l→o=.dct l) o (fun _=>nn) (fun _ h=>congrArg LO.dct (Option.some.inj h))
structure Cfg where
 prog:Program
 w:World
 h₀:Heap
 cells:List Int
 hasS:Bool
 hasOp:Bool
 aS:Addr
 aC:Addr
 aO:Addr
 dO:Addr
 clsO:Addr
 mg:Str→Option Value
 mb:Str→Option Value
 K:Frag
noncomputable abbrev Cfg.M (C:Cfg):Model:=model C.prog C.w
noncomputable abbrev Cfg.knd (C:Cfg):=strKind C.prog C.w
structure Pl where
 own:Addr→Nat
 la:List Addr
 s:Shared
noncomputable abbrev Pl.h (p:Pl):Heap:=p.s.heap
def Kp (h h':Heap):Prop:=∀ b o,h.get? b=some o→h'.get? b=some o
def Has (h:Heap) (a:Addr):Prop:=∃ o,h.get? a=some o
section
variable (C:Cfg) (p:Pl)
mutual
noncomputable def Rep:AV→Value→Prop
 | .none,v=>v=.none
 | .bool b,v=>v=.bool b
 | .int i,v=>∃ t,v=.int i t
 | .str c,v=>okc c=true∧∃ t,v=.str (txt c) t
 | .tup l,v=>∃ a vs,v=.ref a∧p.own a=0∧p.h.IsTuple a (List.toArray vs)∧vs.length≤cap∧Reps l vs
 | .lst l,v=>∃ a vs,v=.ref a∧p.own a=0∧p.h.PlainList a (List.toArray vs)∧vs.length≤cap∧Reps l vs
 | .dct l,v=>∃ a kvs,v=.ref a∧p.own a=0∧p.h.DictOf C.knd a kvs∧(a == sysModules)=false∧RepD l kvs
 | .slate,v=>C.hasS=true∧v=.ref C.aS
 | .opener,v=>C.hasOp=true∧v=.ref C.aO
 | .loc _,_=>False
 | .rng _,_=>False
 | .zp _,_=>False
noncomputable def Reps:List AV→List Value→Prop
 | [],vs=>vs=[]
 | d::ds,vs=>∃ v us,vs=v::us∧Rep d v∧Reps ds us
noncomputable def RepD:List (Nat×AV)→List (Str×Value)→Prop
 | [],vs=>vs=[]
 | (c,d)::ds,vs=>∃ v us,vs=(txt c,v)::us∧okc c=true∧Rep d v∧RepD ds us
end
def RepT (d:AV) (v:Value):Prop:=match d with
 | .loc n=>∃ a,p.la[n]?=some a∧v=.ref a
 | d=>Rep C p d v
end
section
variable {C:Cfg} {S S':Nat→Prop} {p p' q r:Pl} {d:AV} {v:Value}
theorem Rep.top:Rep C p d v→RepT C p d v:=AV.casesOn (motive_1:=fun d=>Rep C p d v→RepT C p d v) d id (fun _=>id) (fun _=>id) (fun _=>id) (fun _=>id) (fun _=>id) (fun _=>id) (fun _=>False.elim) id id (fun _=>id) (fun _=>id)
theorem RepT.kept:asLoc d=none→RepT C p d v→Rep C p d v:=AV.casesOn (motive_1:=fun d=>asLoc d=none→RepT C p d v→Rep C p d v) d (fun _=>id) (fun _ _=>id) (fun _ _=>id) (fun _ _=>id) (fun _ _=>id) (fun _ _=>id) (fun _ _=>id) (fun _ h=>nn h.symm) (fun _=>id) (fun _=>id) (fun _ _=>id) (fun _ _=>id)
structure Stp (S:Nat→Prop) (p p':Pl):Prop where
 k:∀ a,¬ S (p.own a)→∀ o,p.h.get? a=some o→p'.h.get? a=some o∧p'.own a=p.own a
 z:¬ S 0
theorem Stp.refl (z:¬ S 0):Stp S p p:=⟨fun _ _ _ e=>⟨e,rfl⟩,z⟩
theorem Stp.trans (x:Stp S p q) (y:Stp S q r):Stp S p r :=
 ⟨fun a n o e=>have h:=x.k a n o e;have h2:=y.k a (h.2.symm▸n) o h.1;⟨h2.1,h2.2.trans h.2⟩,x.z⟩
theorem Stp.mono (x:Stp S p q) (z:¬ S' 0) (k:∀ n,S n→S' n):Stp S' p q:=⟨fun a n=>x.k a fun q=>n (k _ q),z⟩
theorem Stp.get0 (x:Stp S p q) {a:Addr} {o:Obj} (o0:p.own a=0) (e:p.h.get? a=some o):q.h.get? a=some o∧q.own a=0 :=
 have h:=x.k a (o0.symm▸x.z) o e;⟨h.1,h.2.trans o0⟩
theorem isTuple_at {h h':Heap} {a:Addr} {its:Array Value} (x:h.IsTuple a its) (k:∀ o,h.get? a=some o→h'.get? a=some o):h'.IsTuple a its:=x.elim fun o e=>⟨o,k o e.1,e.2⟩
theorem plain_at {h h':Heap} {a:Addr} {its:Array Value} (x:h.PlainList a its) (k:∀ o,h.get? a=some o→h'.get? a=some o):h'.PlainList a its:=x.elim fun n e=>⟨n,k _ e⟩
theorem dictOf_at {h h':Heap} {a:Addr} {kvs:List (Str×Value)} (x:h.DictOf C.knd a kvs) (k:∀ o,h.get? a=some o→h'.get? a=some o):h'.DictOf C.knd a kvs :=
 x.elim fun o x=>x.elim fun es x=>x.elim fun ep x=>⟨o,es,ep,k o x.1,x.2⟩
theorem ns_at {h h':Heap} {a:Addr} {m:Str→Option Value} (x:h.Ns a m) (k:∀ o,h.get? a=some o→h'.get? a=some o):h'.Ns a m :=
 x.elim fun o x=>x.elim fun es x=>x.elim fun ep x=>⟨o,es,ep,k o x.1,x.2⟩
theorem isCell_at {h h':Heap} {a:Addr} {v:Option Value} (x:h.IsCell a v) (k:∀ o,h.get? a=some o→h'.get? a=some o):h'.IsCell a v:=x.elim fun o e=>⟨o,k o e.1,e.2⟩
theorem isTuple_has {h:Heap} {a:Addr} {its:Array Value} (x:h.IsTuple a its):Has h a:=x.elim fun o e=>⟨o,e.1⟩
theorem plain_has {h:Heap} {a:Addr} {its:Array Value} (x:h.PlainList a its):Has h a:=x.elim fun n e=>⟨_,e⟩
theorem dictOf_has {h:Heap} {a:Addr} {kvs:List (Str×Value)} (x:h.DictOf C.knd a kvs):Has h a:=x.elim fun o x=>x.elim fun es x=>x.elim fun ep x=>⟨o,x.1⟩
theorem ns_has {h:Heap} {a:Addr} {m:Str→Option Value} (x:h.Ns a m):Has h a:=x.elim fun o x=>x.elim fun es x=>x.elim fun ep x=>⟨o,x.1⟩
theorem isCell_has {h:Heap} {a:Addr} {v:Option Value} (x:h.IsCell a v):Has h a:=x.elim fun o e=>⟨o,e.1⟩
theorem Stp.has0 (x:Stp S p q) {a:Addr} (o0:p.own a=0) (e:Has p.h a):q.own a=0:=e.elim fun _ e=>(x.get0 o0 e).2
structure Mv (C C':Cfg) (p p':Pl):Prop where
 g:∀ a,p.own a=0→∀ o,p.h.get? a=some o→p'.h.get? a=some o∧p'.own a=0
 d:∀ (h:Heap) (a:Addr) (l:List (Str×Value)),h.DictOf C.knd a l→h.DictOf C'.knd a l
 s:C.hasS=true→C'.hasS=true∧C'.aS=C.aS
 o:C.hasOp=true→C'.hasOp=true∧C'.aO=C.aO
theorem Stp.mv (g:Stp S p p'):Mv C C p p':=⟨fun a z o e=>g.get0 z e,fun _ _ _ h=>h,fun h=>⟨h,rfl⟩,fun h=>⟨h,rfl⟩⟩
theorem Mv.has0 {C':Cfg} (x:Mv C C' p p') {a:Addr} (o0:p.own a=0) (e:Has p.h a):p'.own a=0:=e.elim fun o e=>(x.g a o0 o e).2
mutual
theorem Rep.move {C':Cfg} (g:Mv C C' p p'):∀ (d:AV) (v:Value),Rep C p d v→Rep C' p' d v
 | .none,_,h | .bool _,_,h | .int _,_,h | .str _,_,h=>h
 | .slate,_,h=>⟨(g.s h.1).1,h.2.trans (congrArg Value.ref (g.s h.1).2.symm)⟩
 | .opener,_,h=>⟨(g.o h.1).1,h.2.trans (congrArg Value.ref (g.o h.1).2.symm)⟩
 | .loc _,_,h | .rng _,_,h | .zp _,_,h=>h.elim
 | .tup l,v,h=>h.elim fun a h=>h.elim fun vs h=>⟨a,vs,h.1,g.has0 h.2.1 (isTuple_has h.2.2.1),isTuple_at h.2.2.1 fun o e=>(g.g a h.2.1 o e).1,h.2.2.2.1,Reps.move g l vs h.2.2.2.2⟩
 | .lst l,v,h=>h.elim fun a h=>h.elim fun vs h=>⟨a,vs,h.1,g.has0 h.2.1 (plain_has h.2.2.1),plain_at h.2.2.1 fun o e=>(g.g a h.2.1 o e).1,h.2.2.2.1,Reps.move g l vs h.2.2.2.2⟩
 | .dct l,v,h=>h.elim fun a h=>h.elim fun vs h=>⟨a,vs,h.1,g.has0 h.2.1 (dictOf_has h.2.2.1),g.d _ _ _ (dictOf_at h.2.2.1 fun o e=>(g.g a h.2.1 o e).1),h.2.2.2.1,RepD.move g l vs h.2.2.2.2⟩
theorem Reps.move {C':Cfg} (g:Mv C C' p p'):∀ (ds:List AV) (vs:List Value),Reps C p ds vs→Reps C' p' ds vs
 | [],_,h=>h
 | d::ds,_,h=>h.elim fun v h=>h.elim fun us h=>⟨v,us,h.1,Rep.move g d v h.2.1,Reps.move g ds us h.2.2⟩
theorem RepD.move {C':Cfg} (g:Mv C C' p p'):∀ (ds:List (Nat×AV)) (vs:List (Str×Value)),RepD C p ds vs→RepD C' p' ds vs
 | [],_,h=>h
 | (c,d)::ds,_,h=>h.elim fun v h=>h.elim fun us h=>⟨v,us,h.1,h.2.1,Rep.move g d v h.2.2.1,RepD.move g ds us h.2.2.2⟩
end
theorem Rep.step (g:Stp S p p') (d:AV) (v:Value):Rep C p d v→Rep C p' d v:=Rep.move g.mv d v
theorem Reps.step (g:Stp S p p') (ds:List AV) (vs:List Value):Reps C p ds vs→Reps C p' ds vs:=Reps.move g.mv ds vs
theorem RepD.step (g:Stp S p p') (ds:List (Nat×AV)) (vs:List (Str×Value)):RepD C p ds vs→RepD C p' ds vs:=RepD.move g.mv ds vs
theorem Mv.rep {C':Cfg} (g:Mv C C' p p') (d:AV) (v:Value):Rep C p d v→Rep C' p' d v:=Rep.move g d v
theorem get_app {α:Type} {l m:List α} {n:Nat} {x:α} (h:l[n]?=some x):(l++m)[n]?=some x:=(List.getElem?_append_left (List.getElem?_eq_some_iff.mp h).1).trans h
theorem RepT.move {C':Cfg} (g:Mv C C' p p') (hl:∃ m,p'.la=p.la++m):RepT C p d v→RepT C' p' d v:=AV.casesOn (motive_1:=fun d=>RepT C p d v→RepT C' p' d v) d
 (g.rep _ _) (fun _=>g.rep _ _) (fun _=>g.rep _ _) (fun _=>g.rep _ _) (fun _=>g.rep _ _) (fun _=>g.rep _ _) (fun _=>g.rep _ _) (fun _ x=>x.elim fun a x=>hl.elim fun m e=>⟨a,e.symm▸get_app x.1,x.2⟩) (g.rep _ _) (g.rep _ _) (fun _=>g.rep _ _) (fun _=>g.rep _ _)
theorem RepT.step (g:Stp S p p') (hl:∃ m,p'.la=p.la++m):RepT C p d v→RepT C p' d v:=.move g.mv hl
noncomputable def RepTs (C:Cfg) (p:Pl):List AV→List Value→Prop
 | [],vs=>vs=[]
 | d::ds,vs=>∃ v us,vs=v::us∧RepT C p d v∧RepTs C p ds us
theorem Reps.toT:∀ {ds:List AV} {vs:List Value},Reps C p ds vs→RepTs C p ds vs
 | [],_,h=>h
 | d::ds,_,h=>h.elim fun v h=>h.elim fun us h=>⟨v,us,h.1,h.2.1.top,h.2.2.toT⟩
theorem RepTs.step (g:Stp S p p') (hl:∃ m,p'.la=p.la++m):∀ {ds:List AV} {vs:List Value},RepTs C p ds vs→RepTs C p' ds vs
 | [],_,h=>h
 | d::ds,_,h=>h.elim fun v h=>h.elim fun us h=>⟨v,us,h.1,h.2.1.step g hl,h.2.2.step g hl⟩
theorem RepTs.length:∀ {ds:List AV} {vs:List Value},RepTs C p ds vs→vs.length=ds.length
 | [],_,h=>h▸rfl
 | d::ds,_,h=>h.elim fun v h=>h.elim fun us h=>h.1▸congrArg (·+1) h.2.2.length
theorem Reps.length {ds:List AV} {vs:List Value} (h:Reps C p ds vs):vs.length=ds.length:=h.toT.length
theorem Reps.get:∀ {ds:List AV} {vs:List Value},Reps C p ds vs→∀ {i:Nat} {d:AV},ds[i]?=some d→∃ v,vs[i]?=some v∧Rep C p d v
 | [],_,_,_,_,e=>nomatch e
 | d::ds,_,h,0,_,e=>h.elim fun v h=>h.elim fun us h=>⟨v,h.1▸rfl,Option.some.inj e▸h.2.1⟩
 | d::ds,_,h,i+1,_,e=>h.elim fun v h=>h.elim fun us h=>(h.2.2.get (i:=i) e).elim fun w k=>⟨w,h.1▸k.1,k.2⟩
theorem Reps.append:∀ {ds es:List AV} {vs us:List Value},Reps C p ds vs→Reps C p es us→Reps C p (ds++es) (vs++us)
 | [],_,_,_,h,k=>h▸k
 | d::ds,_,_,ws,h,k=>h.elim fun v h=>h.elim fun us h=>⟨v,us++ws,h.1▸rfl,h.2.1,h.2.2.append k⟩
theorem Reps.one (h:Rep C p d v):Reps C p [d] [v]:=⟨v,[],rfl,h,rfl⟩
theorem Reps.drop:∀ (n:Nat) {ds:List AV} {vs:List Value},Reps C p ds vs→Reps C p (ds.drop n) (vs.drop n)
 | 0,_,_,h=>h
 | n+1,[],_,h=>h▸rfl
 | n+1,d::ds,_,h=>h.elim fun v h=>h.elim fun us h=>h.1▸Reps.drop n h.2.2
theorem Reps.take:∀ (n:Nat) {ds:List AV} {vs:List Value},Reps C p ds vs→Reps C p (ds.take n) (vs.take n)
 | 0,_,_,_=>rfl
 | n+1,[],_,h=>h▸rfl
 | n+1,d::ds,_,h=>h.elim fun v h=>h.elim fun us h=>⟨v,us.take n,h.1▸rfl,h.2.1,Reps.take n h.2.2⟩
theorem Reps.reverse:∀ {ds:List AV} {vs:List Value},Reps C p ds vs→Reps C p ds.reverse vs.reverse
 | [],_,h=>h▸rfl
 | d::ds,_,h=>h.elim fun v h=>h.elim fun us h=>by rw [h.1,List.reverse_cons,List.reverse_cons];exact h.2.2.reverse.append (.one h.2.1)
end
end
noncomputable def aname (a:Nat):Str:=(["spent","height","peak","count"]:List Str).getD a ""
noncomputable def opNames:List Str:=["signatures","kinds","items","numbers","calls","count","spent","height","peak"]
structure OpEs (g:GS) (m:Str→Option Value):Prop where
 within:Within m opNames
 vals:∀ a i,(gl g)[a]?=some i→∃ t,m (aname a)=some (.int i t)
structure OpOk (C:Cfg) (g:GS) (p:Pl):Prop where
 o0:p.own C.aO=0
 o1:p.own C.dO=1
 ne:C.dO≠C.aS
 obj:p.h.get? C.aO=some (instObj C.clsO C.dO)
 es:∃ m,p.h.Ns1 C.dO m∧OpEs g m
structure SlOk (C:Cfg) (g:GS) (p:Pl):Prop where
 own:p.own C.aS=1
 es:∃ t,p.h.DictOf C.knd C.aS [(txt 23,.ref C.aC),(txt 24,.int g.spot t)]
 cells:Rep C p (.lst (C.cells.map .int)) (.ref C.aC)
structure Inv (C:Cfg) (g:GS) (p:Pl):Prop where
 base:∀ b o,C.h₀.get? b=some o→p.h.get? b=some o∧p.own b=0
 sl:C.hasS=true→SlOk C g p
 op:C.hasOp=true→OpOk C g p
structure Fr where
 env:Env
 kf:Nat
 kc:Nat
 kl:Nat
def SE (F:Fr) (top n:Nat):Prop:=n=1∨n=F.kl∨top<n
def SS (F:Fr) (top n:Nat):Prop:=SE F top n∨n=F.kf∨n=F.kc
structure Fr.Ok (F:Fr) (top:Nat):Prop where
 globals:F.env.globals=mainGlobals
 builtins:F.env.builtins=builtinsNs
 fn:F.env.scope.kind=.function
 kf:1<F.kf
 kc:1<F.kc
 kl:1<F.kl
 kfl:F.kf≠F.kl
 kcl:F.kc≠F.kl
 tf:F.kf≤top
 tc:F.kc≤top
 tl:F.kl≤top
theorem gt1 {n:Nat} (h:1<n):¬ n=1:=Nat.ne_of_gt h
theorem gt0 {n:Nat} (h:1<n):¬ 0=n:=Nat.ne_of_lt (Nat.lt_of_succ_lt h)
theorem or3 {a b c:Prop} (x:¬ a) (y:¬ b) (z:¬ c):¬ (a∨b∨c):=fun h=>h.elim x fun h=>h.elim y z
section
variable {F:Fr} {top:Nat}
theorem Fr.Ok.e0 (ok:F.Ok top):¬ SE F top 0:=or3 (fun h=>nomatch h) (gt0 ok.kl) (Nat.not_lt_zero top)
theorem Fr.Ok.ef (ok:F.Ok top):¬ SE F top F.kf:=or3 (gt1 ok.kf) ok.kfl (Nat.not_lt.mpr ok.tf)
theorem Fr.Ok.ec (ok:F.Ok top):¬ SE F top F.kc:=or3 (gt1 ok.kc) ok.kcl (Nat.not_lt.mpr ok.tc)
theorem Fr.Ok.s0 (ok:F.Ok top):¬ SS F top 0:=or3 ok.e0 (gt0 ok.kf) (gt0 ok.kc)
theorem Fr.Ok.more (ok:F.Ok top) (n:Nat):F.Ok (top+n):=⟨ok.globals,ok.builtins,ok.fn,ok.kf,ok.kc,ok.kl,ok.kfl,ok.kcl,Nat.le_add_right_of_le ok.tf,Nat.le_add_right_of_le ok.tc,Nat.le_add_right_of_le ok.tl⟩
theorem SE.up {n k:Nat} (h:SE F (top+k) n):SE F top n:=h.imp id fun h=>h.imp id fun h=>Nat.lt_of_le_of_lt (Nat.le_add_right top k) h
theorem SS.up {n k:Nat} (h:SS F (top+k) n):SS F top n:=h.imp SE.up id
end
section
variable (C:Cfg) (F:Fr)
def RepO (p:Pl) (a:Addr):LO→Prop
 | .lst l=>∃ vs,p.h.PlainList a (List.toArray vs)∧vs.length≤cap∧Reps C p l vs
 | .dct l=>∃ kvs,p.h.DictOf C.knd a kvs∧(a == sysModules)=false∧RepD C p l kvs
noncomputable def lbl (fz:Bool):Nat:=cond fz 0 F.kl
structure LocOk (lh:List (LO×Bool)) (p:Pl):Prop where
 len:p.la.length=lh.length
 nodup:p.la.Nodup
 each:∀ (n:Nat) (o:LO) (fz:Bool),lh[n]?=some (o,fz)→∃ a,p.la[n]?=some a∧p.own a=lbl F fz∧RepO C p a o
structure EnvOk (ρ:List (Nat×AV)) (p:Pl):Prop where
 ns:∃ m,p.h.Ns F.env.locals m∧∀ x d,x<VX.length→dget ρ x=some d→F.env.kindOf (vname x)=some .local→∃ v,m (vname x)=some v∧RepT C p d v
 cell:∀ x d,x<VX.length→dget ρ x=some d→F.env.kindOf (vname x)=some .cell→∃ c v,F.env.cells.lookup (vname x)=some c∧p.h.IsCell c (some v)∧RepT C p d v
 cells:∀ x,F.env.kindOf x=some .cell→∃ c,F.env.cells.lookup x=some c
 cellx:∀ n c,(n,c)∈F.env.cells→(∃ v,p.h.IsCell c v)∧p.own c=F.kc
 ownL:p.own F.env.locals=F.kf
 apart:F.env.cells.Pairwise fun x y=>x.2≠y.2
structure Good (st:St) (p:Pl):Prop where
 inv:Inv C st.g p
 loc:LocOk C F st.lh p
 env:EnvOk C F st.ρ p
 fresh:∀ a,p.own a≠0→Has p.h a
end
def After (s s':Shared):Prop:=∃ h' tk',s'={ s with heap:=h',toks:=tk' }
theorem After.refl (s:Shared):After s s:=⟨s.heap,s.toks,rfl⟩
theorem After.trans {s s' s'':Shared} (x:After s s') (y:After s' s''):After s s'':=x.elim fun h x=>x.elim fun t x=>y.elim fun h' y=>y.elim fun t' y=>⟨h',t',y.trans (x▸rfl)⟩
structure Go (S:Nat→Prop) (p p':Pl):Prop where
 after:After p.s p'.s
 stp:Stp S p p'
 la:∃ m,p'.la=p.la++m
structure Now (C:Cfg) (F:Fr) (S:Nat→Prop) (p:Pl) (st':St) (p':Pl):Prop where
 good:Good C F st' p'
 go:Go S p p'
def Out {α:Type} (C:Cfg) (F:Fr) (S:Nat→Prop) (p:Pl) (st':St) (R:Pl→α→Prop) (v:α) (s':Shared):Prop:=∃ own' la',Now C F S p st' ⟨own',la',s'⟩∧R ⟨own',la',s'⟩ v
def F0:Value→Shared→Prop:=fun _ _=>False
def wp {α:Type} (C:Cfg) (A:Around) (t:Sem α) (Q:α→Shared→Prop) (s:Shared):Prop:=wpAny C.M A t Q F0 s
section
variable {C:Cfg} {F:Fr} {A:Around} {S S':Nat→Prop} {p p' p'':Pl} {st st' st'':St} {α β:Type}
theorem pre_nil {l:List Addr}:∃ m,l=l++m:=⟨[],(List.append_nil l).symm⟩
theorem Go.refl (z:¬ S 0):Go S p p:=⟨.refl _,.refl z,pre_nil⟩
theorem Go.trans (x:Go S p p') (y:Go S p' p''):Go S p p'':=⟨x.after.trans y.after,x.stp.trans y.stp,x.la.elim fun m e=>y.la.elim fun m' e'=>⟨m++m',e'.trans (e.symm▸List.append_assoc _ _ _)⟩⟩
theorem Go.mono (x:Go S p p') (z:¬ S' 0) (k:∀ n,S n→S' n):Go S' p p':=⟨x.after,x.stp.mono z k,x.la⟩
theorem Now.trans (x:Now C F S p st' p') (y:Now C F S p' st'' p''):Now C F S p st'' p'':=⟨y.good,x.go.trans y.go⟩
theorem Now.mono (x:Now C F S p st' p') (z:¬ S' 0) (k:∀ n,S n→S' n):Now C F S' p st' p':=⟨x.good,x.go.mono z k⟩
theorem Now.refl (z:¬ S 0) (x:Good C F st p):Now C F S p st p:=⟨x,.refl z⟩
theorem RepT.go {d:AV} {v:Value} (r:RepT C p d v) (g:Go S p p'):RepT C p' d v:=r.step g.stp g.la
theorem RepTs.go {d:List AV} {v:List Value} (r:RepTs C p d v) (g:Go S p p'):RepTs C p' d v:=r.step g.stp g.la
theorem Out.after {R:Pl→α→Prop} {v:α} {s':Shared} (n:Now C F S p st p') (o:Out C F S p' st' R v s'):Out C F S p st' R v s':=o.elim fun w o=>o.elim fun l o=>⟨w,l,n.trans o.1,o.2⟩
theorem Out.here {R:Pl→α→Prop} {v:α} (z:¬ S 0) (x:Good C F st p) (r:R p v):Out C F S p st R v p.s:=⟨p.own,p.la,.refl z x,r⟩
theorem seq {t:Sem α} {R:Pl→α→Prop} {Q:α→Shared→Prop} {s:Shared} (h:wp C A t (Out C F S p st' R) s) (k:∀ v p',Now C F S p st' p'→R p' v→Q v p'.s):wp C A t Q s :=
 wpAny_mono h (fun v s' o=>o.elim fun w o=>o.elim fun l o=>k v ⟨w,l,s'⟩ o.1 o.2) fun _ _ f=>f
theorem wp.out {t:Sem α} {R R':Pl→α→Prop} {s:Shared} (h:wp C A t (Out C F S p' st'' R) s) (n:Now C F S p st' p') (k:∀ p v,R p v→R' p v):wp C A t (Out C F S p st'' R') s :=
 wpAny_mono h (fun v s' o=>o.elim fun w o=>o.elim fun l o=>⟨w,l,n.trans o.1,k _ _ o.2⟩) fun _ _ f=>f
theorem wp.after {t:Sem α} {R:Pl→α→Prop} {s:Shared} (h:wp C A t (Out C F S p' st'' R) s) (n:Now C F S p st' p'):wp C A t (Out C F S p st'' R) s:=h.out n fun _ _ r=>r
theorem RepO.has {a:Addr} {o:LO} (x:RepO C p a o):Has p.h a:=match o,x with
 | .lst _,x=>x.elim fun _ x=>plain_has x.1
 | .dct _,x=>x.elim fun _ x=>dictOf_has x.1
theorem RepO.move {C':Cfg} (g:Mv C C' p p') {a:Addr} {o:LO} (x:RepO C p a o) (k:∀ o,p.h.get? a=some o→p'.h.get? a=some o):RepO C' p' a o:=match o,x with
 | .lst _,x=>x.elim fun vs x=>⟨vs,plain_at x.1 k,x.2.1,x.2.2.move g⟩
 | .dct _,x=>x.elim fun vs x=>⟨vs,g.d _ _ _ (dictOf_at x.1 k),x.2.1,x.2.2.move g⟩
theorem RepO.step (g:Stp S p p') {a:Addr} {o:LO} (x:RepO C p a o) (k:∀ o,p.h.get? a=some o→p'.h.get? a=some o):RepO C p' a o:=x.move g.mv k
theorem Inv.step {g:GS} (x:Inv C g p) (q:Stp S p p') (n1:¬ S 1):Inv C g p' where
 base:=fun b o e=>have h:=x.base b o e;q.get0 h.2 h.1
 sl:=fun e=>have y:=x.sl e
  have k:=q.k C.aS (y.own.symm▸n1)
  ⟨(y.es.elim fun _ m=>dictOf_has m).elim fun o e=>(k o e).2.trans y.own,y.es.elim fun t m=>⟨t,dictOf_at m fun o e=>(k o e).1⟩,y.cells.step q⟩
 op:=fun e=>have y:=x.op e
  have k:=q.k C.dO (y.o1.symm▸n1)
  ⟨(q.get0 y.o0 y.obj).2,y.es.elim fun m z=>(ns_has z.1.ns).elim fun o e=>(k o e).2.trans y.o1,y.ne,(q.get0 y.o0 y.obj).1,y.es.elim fun m z=>⟨m,z.1.at fun o e=>(k o e).1,z.2⟩⟩
def Lk (p p':Pl) (n:Nat):Prop:=∀ a,p.own a=n→∀ o,p.h.get? a=some o→p'.h.get? a=some o∧p'.own a=n
theorem Stp.lk (g:Stp S p p') {n:Nat} (h:¬ S n):Lk p p' n:=fun a q o e=>have k:=g.k a (q.symm▸h) o e;⟨k.1,k.2.trans q⟩
theorem EnvOk.move {C':Cfg} {ρ:List (Nat×AV)} (x:EnvOk C F ρ p) (g:Mv C C' p p') (hl:∃ m,p'.la=p.la++m) (nf:Lk p p' F.kf) (nc:Lk p p' F.kc):EnvOk C' F ρ p' where
 ns:=x.ns.elim fun m h=>⟨m,ns_at h.1 fun o e=>(nf _ x.ownL o e).1,fun y d a b c=>(h.2 y d a b c).elim fun v r=>⟨v,r.1,r.2.move g hl⟩⟩
 cell:=fun y d a b c=>(x.cell y d a b c).elim fun cc h=>h.elim fun v h=>⟨cc,v,h.1,isCell_at h.2.1 fun o e=>(nc _ (x.cellx _ _ (mem_of_lookup h.1)).2 o e).1,h.2.2.move g hl⟩
 cells:=x.cells
 cellx:=fun n c e=>have h:=x.cellx n c e
  have k:=nc c h.2
  ⟨h.1.elim fun v q=>⟨v,isCell_at q fun o e=>(k o e).1⟩,h.1.elim fun v q=>(isCell_has q).elim fun o e=>(k o e).2⟩
 ownL:=x.ns.elim fun m h=>(ns_has h.1).elim fun o e=>(nf _ x.ownL o e).2
 apart:=x.apart
theorem EnvOk.step {ρ:List (Nat×AV)} (x:EnvOk C F ρ p) (g:Stp S p p') (hl:∃ m,p'.la=p.la++m) (nf:¬ S F.kf) (nc:¬ S F.kc):EnvOk C F ρ p':=x.move g.mv hl (g.lk nf) (g.lk nc)
theorem LocOk.move {C':Cfg} {lh:List (LO×Bool)} (x:LocOk C F lh p) (g:Mv C C' p p') (hl:p'.la=p.la) (nl:Lk p p' F.kl):LocOk C' F lh p' where
 len:=hl.symm▸x.len
 nodup:=hl.symm▸x.nodup
 each:=fun m o fz e=>(x.each m o fz e).elim fun a h =>
  have k:∀ o,p.h.get? a=some o→p'.h.get? a=some o∧p'.own a=lbl F fz:=match fz,h.2.1 with
   | true,q=>g.g a q
   | false,q=>nl a q
  ⟨a,hl.symm▸h.1,h.2.2.has.elim fun o e=>(k o e).2,h.2.2.move g fun o e=>(k o e).1⟩
theorem LocOk.step {lh:List (LO×Bool)} (x:LocOk C F lh p) (g:Stp S p p') (hl:p'.la=p.la) (n:¬ S F.kl):LocOk C F lh p':=x.move g.mv hl (g.lk n)
theorem pre_of {l l':List Addr} (h:l'=l):∃ m,l'=l++m:=h▸pre_nil
theorem Good.quiet (x:Good C F st p) (g:Stp S p p') (hl:p'.la=p.la) (n1:¬ S 1) (nl:¬ S F.kl) (nf:¬ S F.kf) (nc:¬ S F.kc) (fr:∀ a,p'.own a≠0→Has p'.h a):Good C F st p' :=
 ⟨x.inv.step g n1,x.loc.step g hl nl,x.env.step g (pre_of hl) nf nc,fr⟩
def no (n:Nat):Prop:=False
theorem Stp.keeps {own:Addr→Nat} {la:List Addr} {s:Shared} (k:Kp p.h s.heap) (ow:∀ b,Has p.h b→own b=p.own b):Stp no p ⟨own,la,s⟩:=⟨fun a _ o e=>⟨k a o e,ow a ⟨o,e⟩⟩,id⟩
theorem Kp.has {h h':Heap} (k:Kp h h') {a:Addr} (x:Has h a):Has h' a:=x.elim fun o e=>⟨o,k a o e⟩
theorem Kp.push (h:Heap) (o:Obj):Kp h (h.push o):=fun _ _ e=>Heap.get?_push_of_some _ e
theorem Now.keeps (z:¬ S 0) (x:Good C F st p) {s':Shared} (k:Kp p.h s'.heap) (af:After p.s s'):Now C F S p st ⟨p.own,p.la,s'⟩ :=
 have g:Stp no p ⟨p.own,p.la,s'⟩:=.keeps k fun _ _=>rfl
 ⟨x.quiet g rfl id id id id fun a e=>k.has (x.fresh a e),⟨af,g.mono z fun _ h=>h.elim,pre_nil⟩⟩
theorem Now.toks (z:¬ S 0) (x:Good C F st p) {tk:Nat}:Now C F S p st ⟨p.own,p.la,{ p.s with toks:=tk }⟩:=.keeps z x (fun _ _ e=>e) ⟨_,_,rfl⟩
theorem Now.push (z:¬ S 0) (x:Good C F st p) (o:Obj) {tk:Nat}:Now C F S p st ⟨p.own,p.la,{ p.s with heap:=p.h.push o,toks:=tk }⟩:=.keeps z x (.push _ _) ⟨_,_,rfl⟩
theorem Good.own_new (x:Good C F st p):p.own p.h.objs.size=0:=Classical.byContradiction fun q=>(x.fresh _ q).elim fun o e=>Nat.lt_irrefl _ (Heap.lt_size e)
theorem Good.own_none (x:Good C F st p) {a:Addr} (e:p.h.get? a=none):p.own a=0:=Classical.byContradiction fun q=>(x.fresh _ q).elim fun o e'=>nomatch (e.symm.trans e')
theorem Out.keeps {R:Pl→α→Prop} {v:α} (z:¬ S 0) (x:Good C F st p) {s':Shared} (k:Kp p.h s'.heap) (af:After p.s s') (r:Go no p ⟨p.own,p.la,s'⟩→R ⟨p.own,p.la,s'⟩ v):Out C F S p st R v s' :=
 ⟨p.own,p.la,.keeps z x k af,r ⟨af,.keeps k fun _ _=>rfl,pre_nil⟩⟩
theorem Out.tok {d:AV} {v:Value} (z:¬ S 0) (x:Good C F st p) {tk:Nat} (r:RepT C p d v):Out C F S p st (RepT C · d) v { p.s with toks:=tk }:=.keeps z x (fun _ _ e=>e) ⟨_,_,rfl⟩ fun g=>r.go g
theorem Out.val {d:AV} {v:Value} (z:¬ S 0) (x:Good C F st p) (r:RepT C p d v):Out C F S p st (RepT C · d) v p.s:=.here z x r
theorem isTuple_push (h:Heap) (vs:List Value):(h.push { cls:=.type "tuple",data:=.seq vs.toArray }).IsTuple h.objs.size vs.toArray:=⟨_,Heap.get?_push_size _ rfl,rfl,0,rfl⟩
theorem plain_push (h:Heap) (vs:List Value):(h.push { cls:=.type "list",data:=.seq vs.toArray }).PlainList h.objs.size vs.toArray:=⟨0,Heap.get?_push_size _ rfl⟩
theorem Out.newTup (z:¬ S 0) (x:Good C F st p) {l:List AV} {vs:List Value} (r:Reps C p l vs) (n:vs.length≤cap) :
  Out C F S p st (RepT C · (.tup l)) (.ref p.h.objs.size) { p.s with heap:=p.h.push { cls:=.type "tuple",data:=.seq vs.toArray } } :=
 .keeps z x (.push _ _) ⟨_,_,rfl⟩ fun g=>⟨_,vs,rfl,x.own_new,isTuple_push _ _,n,r.step g.stp⟩
theorem Out.newLst (z:¬ S 0) (x:Good C F st p) {l:List AV} {vs:List Value} (r:Reps C p l vs) (n:vs.length≤cap) :
  Out C F S p st (RepT C · (.lst l)) (.ref p.h.objs.size) { p.s with heap:=p.h.push { cls:=.type "list",data:=.seq vs.toArray } } :=
 .keeps z x (.push _ _) ⟨_,_,rfl⟩ fun g=>⟨_,vs,rfl,x.own_new,plain_push _ _,n,r.step g.stp⟩
end
theorem app_each {α:Type} {l:List α} {y:α} {P:Nat→α→Prop} (h:∀ n z,l[n]?=some z→P n z) (hy:P l.length y) (n:Nat) (z:α) (e:(l++[y])[n]?=some z):P n z:=by
 rcases Nat.lt_trichotomy n l.length with q | q | q
 ·exact h n z ((List.getElem?_append_left q).symm.trans e)
 ·rw [q,List.getElem?_concat_length] at e
  rw [q,← Option.some.inj e]
  exact hy
 ·rw [List.getElem?_eq_none (by rw [List.length_append];exact q)] at e
  cases e
theorem set_each {α:Type} {l:List α} {n:Nat} {y:α} {P:Nat→α→Prop} (h:∀ m z,m≠n→l[m]?=some z→P m z) (hy:P n y) (m:Nat) (z:α) (e:(l.set n y)[m]?=some z):P m z:=by
 by_cases q:m=n
 ·rw [q] at e ⊢
  rw [List.getElem?_set_self (List.length_set▸(List.getElem?_eq_some_iff.mp e).1)] at e
  exact Option.some.inj e▸hy
 ·exact h m z q ((List.getElem?_set_ne fun e=>q e.symm).symm.trans e)
theorem dget_each {ρ:List (Nat×AV)} {y u:Nat} {d e:AV} {P:Prop} (h:dget ((y,d)::ρ) u=some e) (k1:y=u→d=e→P) (k2:y≠u→dget ρ u=some e→P):P:=by
 unfold dget at h
 cases q:Nat.beq y u <;> rw [q] at h
 ·exact k2 (Nat.ne_of_beq_eq_false q) h
 ·exact k1 (Nat.eq_of_beq_eq_true q) (Option.some.inj h)
noncomputable def lab (own:Addr→Nat) (a:Addr) (n:Nat):Addr→Nat:=fun b=>if b=a then n else own b
theorem lab_ne {own:Addr→Nat} {a b:Addr} {n:Nat} (h:b≠a):lab own a n b=own b:=if_neg h
theorem lab_self {own:Addr→Nat} {a:Addr} {n:Nat}:lab own a n a=n:=if_pos rfl
theorem lab_fresh {own:Addr→Nat} {a:Addr} {n:Nat} {h:Heap} (ha:Has h a) (hb:∀ b,b≠a→own b≠0→Has h b) (b:Addr) (e:lab own a n b≠0):Has h b :=
 Decidable.byCases (p:=b=a) (fun q=>q▸ha) fun q=>hb b q (lab_ne (own:=own) (n:=n) q▸e)
theorem ne_new {h:Heap} {b:Addr} {o:Obj} (e:h.get? b=some o):b≠h.objs.size:=Nat.ne_of_lt (Heap.lt_size e)
theorem get_new (h:Heap):∀ o,h.get? h.objs.size≠some o:=fun o e=>ne_new e rfl
section
variable {C:Cfg} {F:Fr} {A:Around} {S:Nat→Prop} {p p':Pl} {st:St} {top:Nat}
theorem Fr.Ok.t1 (ok:F.Ok top):¬ top<1:=Nat.not_lt.mpr (Nat.le_of_lt (Nat.lt_of_lt_of_le ok.kf ok.tf))
theorem Fr.Ok.tlb (ok:F.Ok top) (fz:Bool):¬ top<lbl F fz:=match fz with
 | true=>Nat.not_lt_zero top
 | false=>Nat.not_lt.mpr ok.tl
theorem LocOk.mem {lh:List (LO×Bool)} (x:LocOk C F lh p) {a:Addr} (h:a∈p.la):∃ z:LO×Bool,p.own a=lbl F z.2∧RepO C p a z.1 :=
 (List.mem_iff_getElem?.mp h).elim fun n e =>
  have hn:n<lh.length:=x.len▸(List.getElem?_eq_some_iff.mp e).1
  (x.each n lh[n].1 lh[n].2 (List.getElem?_eq_getElem hn)).elim fun b q=>⟨lh[n],Option.some.inj (q.1.symm.trans e)▸q.2⟩
theorem Now.addLoc (ok:F.Ok top) (x:Good C F st p) {a:Addr} {h':Heap} {tk:Nat} {lo:LO} (hf:∀ o,p.h.get? a=some o→top<p.own a) (hk:∀ b,b≠a→∀ o,p.h.get? b=some o→h'.get? b=some o)
  (hr:Stp (top<·) p ⟨lab p.own a F.kl,p.la++[a],{ p.s with heap:=h',toks:=tk }⟩→RepO C ⟨lab p.own a F.kl,p.la++[a],{ p.s with heap:=h',toks:=tk }⟩ a lo) :
  Out C F (SE F top) p ⟨st.ρ,st.lh++[(lo,false)],st.g⟩ (RepT C · (.loc st.lh.length)) (.ref a) { p.s with heap:=h',toks:=tk } :=
 have g:Stp (top<·) p ⟨lab p.own a F.kl,p.la++[a],{ p.s with heap:=h',toks:=tk }⟩:=⟨fun b n o e =>
  have ne:b≠a:=fun q=>n (q▸hf o (q▸e))
  ⟨hk b ne o e,lab_ne ne⟩,Nat.not_lt_zero top⟩
 have hr:=hr g
 have nin:a∉p.la:=fun h=>(x.loc.mem h).elim fun z q=>q.2.has.elim fun o e=>ok.tlb z.2 (q.1▸hf o e)
 have hlen:(p.la++[a])[st.lh.length]?=some a:=x.loc.len▸List.getElem?_concat_length
 ⟨_,_,⟨⟨x.inv.step g ok.t1,⟨by rw [List.length_append,List.length_append,x.loc.len];rfl,List.nodup_append.mpr ⟨x.loc.nodup,List.nodup_cons.mpr ⟨List.not_mem_nil,List.nodup_nil⟩,fun b hb c hc e=>nin (List.mem_singleton.mp hc▸e▸hb)⟩,
   fun n o fz=>app_each (P:=fun n z=>∃ b,(p.la++[a])[n]?=some b∧lab p.own a F.kl b=lbl F z.2∧RepO C ⟨lab p.own a F.kl,p.la++[a],{ p.s with heap:=h',toks:=tk }⟩ b z.1)
    (fun n z e=>(x.loc.each n z.1 z.2 e).elim fun b q =>
     have ne:b≠a:=fun w=>nin (w▸List.mem_of_getElem? q.1)
     ⟨b,get_app q.1,(lab_ne ne).trans q.2.1,q.2.2.step g (hk b ne)⟩) ⟨a,hlen,lab_self,hr⟩ n (o,fz)⟩,
   x.env.step g ⟨[a],rfl⟩ (Nat.not_lt.mpr ok.tf) (Nat.not_lt.mpr ok.tc),lab_fresh hr.has fun b ne e=>(x.fresh b e).elim fun o e=>⟨o,hk b ne o e⟩⟩,
  ⟨⟨_,_,rfl⟩,g.mono ok.e0 fun n h=>.inr (.inr h),[a],rfl⟩⟩,a,hlen,rfl⟩
theorem Now.setAt (ok:F.Ok top) (x:Good C F st p) {n:Nat} {a:Addr} {s':Shared} {lo lo':LO} {fz fz':Bool} (hn:st.lh[n]?=some (lo,fz)) (ha:p.la[n]?=some a) (af:After p.s s')
  (hs:∀ b,b≠a→∀ o,p.h.get? b=some o→s'.heap.get? b=some o) (hq:fz=false∨fz'=true∧s'=p.s)
  (hr:Stp (·=F.kl) p ⟨lab p.own a (lbl F fz'),p.la,s'⟩→RepO C p a lo→RepO C ⟨lab p.own a (lbl F fz'),p.la,s'⟩ a lo') :
  Now C F (·=F.kl) p ⟨st.ρ,st.lh.set n (lo',fz'),st.g⟩ ⟨lab p.own a (lbl F fz'),p.la,s'⟩∧RepO C ⟨lab p.own a (lbl F fz'),p.la,s'⟩ a lo' :=
 (x.loc.each n lo fz hn).elim fun a' q =>
 have ea:a'=a:=Option.some.inj (q.1.symm.trans ha)
 have q:p.own a=lbl F fz∧RepO C p a lo:=ea▸q.2
 have g:Stp (·=F.kl) p ⟨lab p.own a (lbl F fz'),p.la,s'⟩:=⟨fun b nb o e=>Decidable.byCases (p:=b=a)
  (fun w=>hq.elim (fun f=>absurd (w▸q.1.trans (f▸rfl)) nb) fun f =>
   have e0:lbl F fz=0:=match fz,q.1 with
    | true,_=>rfl
    | false,h=>absurd (w▸h) nb
   ⟨f.2.symm▸e,w.symm▸lab_self.trans ((f.1▸rfl:lbl F fz'=0).trans (q.1.trans e0).symm)⟩) fun w=>⟨hs b w o e,lab_ne w⟩,gt0 ok.kl⟩
 have hr:=hr g q.2
 ⟨⟨⟨x.inv.step g fun e=>gt1 ok.kl e.symm,⟨List.length_set.symm▸x.loc.len,x.loc.nodup,
   fun m o f=>set_each (P:=fun m z=>∃ b,p.la[m]?=some b∧lab p.own a (lbl F fz') b=lbl F z.2∧RepO C ⟨lab p.own a (lbl F fz'),p.la,s'⟩ b z.1)
    (fun m z ne e=>(x.loc.each m z.1 z.2 e).elim fun b k =>
     have nb:b≠a:=fun w=>ne ((List.getElem?_inj (List.getElem?_eq_some_iff.mp k.1).1 x.loc.nodup).mp (k.1.trans (w▸ha.symm)))
     ⟨b,k.1,(lab_ne nb).trans k.2.1,k.2.2.step g (hs b nb)⟩) ⟨a,ha,lab_self,hr⟩ m (o,f)⟩,
  x.env.step g pre_nil (fun e=>ok.kfl e) (fun e=>ok.kcl e),lab_fresh hr.has fun b ne e=>(x.fresh b e).elim fun o e=>⟨o,hs b ne o e⟩⟩,⟨af,g,pre_nil⟩⟩,hr⟩
theorem same_k {a:Addr} {h h':Heap} (hs:Heap.SameBut a h h'):∀ b,b≠a→∀ o,h.get? b=some o→h'.get? b=some o:=fun b ne o e=>(hs.2 b ne).trans e
theorem RepO.rep {a:Addr} {o:LO} {v:Value} (x:RepO C p a o) (h:p.own a=0) (hv:v=.ref a):Rep C p o.av v:=match o,x with
 | .lst _,x=>x.elim fun vs k=>⟨a,vs,hv,h,k⟩
 | .dct _,x=>x.elim fun vs k=>⟨a,vs,hv,h,k⟩
theorem keep1_ok (ok:F.Ok top) (x:Good C F st p) {st':St} {d d':AV} {v:Value} (r:RepT C p d v) (e:keep1 d st=some (d',st')):∃ own',Now C F (SE F top) p st' ⟨own',p.la,p.s⟩∧Rep C ⟨own',p.la,p.s⟩ d' v:=by
 refine omap_is e fun q e1 e2=>ret_is (Q:=fun d' st'=>∃ own',Now C F (SE F top) p st' ⟨own',p.la,p.s⟩∧Rep C ⟨own',p.la,p.s⟩ d' v) (congrArg some e2) ?_
 refine elim_is e1 (fun hn h=>cond_is h fun _ h=>some_is (Q:=fun q=>∃ own',Now C F (SE F top) p ⟨st.ρ,q.2,st.g⟩ ⟨own',p.la,p.s⟩∧Rep C ⟨own',p.la,p.s⟩ q.1 v) h ⟨p.own,.refl ok.e0 x,r.kept hn⟩) fun n hn h=>?_
 have r:RepT C p (.loc n) v:=asLoc_is hn▸r
 exact Exists.elim r fun a ha=>omap_is h fun z hz e3=>e3 ▸
  have k:=Now.setAt (lo':=z.1) (fz':=true) ok x hz ha.1 (.refl _) (fun _ _ _ e=>e) (.inr ⟨rfl,rfl⟩) fun g r=>r.step g fun _ e=>e
  ⟨_,k.1.mono ok.e0 fun n e=>.inr (.inl e),k.2.rep lab_self ha.2⟩
theorem vnames_nodup:(VX.map Str.ofString).Nodup:=by decide +kernel
theorem vname_at {x:Nat} (hx:x<VX.length):(VX.map Str.ofString)[x]?=some (vname x):=by rw [List.getElem?_map,List.getElem?_eq_getElem hx,vname,List.getD_eq_getElem?_getD,List.getElem?_eq_getElem hx];rfl
theorem vname_inj {x y:Nat} (hx:x<VX.length) (hy:y<VX.length) (e:vname x=vname y):x=y :=
 (List.getElem?_inj ((List.length_map Str.ofString).symm▸hx) vnames_nodup).mp ((vname_at hx).trans (e▸(vname_at hy).symm))
theorem stp_own {k:Nat} {a:Addr} {s':Shared} (k0:k≠0) (ha:p.own a=k) (hs:∀ b,b≠a→∀ o,p.h.get? b=some o→s'.heap.get? b=some o):Stp (·=k) p ⟨p.own,p.la,s'⟩ :=
 ⟨fun b n o e=>⟨hs b (fun q=>n (q▸ha)) o e,rfl⟩,fun q=>k0 q.symm⟩
theorem fresh_but {a:Addr} {h:Heap} (x:Good C F st p) (ha:Has h a) (hs:∀ b,b≠a→∀ o,p.h.get? b=some o→h.get? b=some o) (b:Addr) (e:p.own b≠0):Has h b :=
 Decidable.byCases (p:=b=a) (fun q=>q▸ha) fun q=>(x.fresh b e).elim fun o e=>⟨o,hs b q o e⟩
theorem ne0 {n:Nat} (h:1<n):n≠0:=Nat.ne_of_gt (Nat.lt_of_succ_lt h)
theorem ns_ne_cell {h:Heap} {a c:Addr} {m:Str→Option Value} {v:Option Value} (x:h.Ns a m) (y:h.IsCell c v):c≠a:=fun q =>
 x.elim fun o x=>x.elim fun es x=>x.elim fun ep x=>y.elim fun o' y=>by
  have e:=(q▸y.1).symm.trans x.1
  cases e
  cases y.2.symm.trans x.2.1
theorem Now.setL (ok:F.Ok top) (x:Good C F st p) {y:Nat} {d:AV} {v:Value} {s':Shared} (hy:y<VX.length) (hk:F.env.kindOf (vname y)=some .local)
  (r:RepT C p d v) (hn:∀ m,p.h.Ns F.env.locals m→s'.heap.Ns F.env.locals (fun z=>if z=vname y then some v else m z)) (hs:Heap.SameBut F.env.locals p.h s'.heap) (af:After p.s s') :
  Now C F (·=F.kf) p ⟨(y,d)::st.ρ,st.lh,st.g⟩ ⟨p.own,p.la,s'⟩ :=
 x.env.ns.elim fun m hm =>
 have g:Stp (·=F.kf) p ⟨p.own,p.la,s'⟩:=stp_own (ne0 ok.kf) x.env.ownL (same_k hs)
 have hc:∀ {c w},p.h.IsCell c w→s'.heap.IsCell c w:=fun k=>isCell_at k fun o e=>same_k hs _ (ns_ne_cell hm.1 k) o e
 ⟨⟨x.inv.step g fun e=>gt1 ok.kf e.symm,x.loc.step g rfl fun e=>ok.kfl e.symm,
  ⟨⟨_,hn m hm.1,fun u e hu hd hl=>dget_each hd (fun q q2=>⟨v,if_pos (q▸rfl),q2▸r.step g pre_nil⟩) fun q hd=>(hm.2 u e hu hd hl).elim fun w k=>⟨w,(if_neg fun e=>q (vname_inj hy hu e.symm)).trans k.1,k.2.step g pre_nil⟩⟩,
   fun u e hu hd hl=>dget_each hd (fun q _=>nomatch (q▸hk).symm.trans hl) fun q hd=>(x.env.cell u e hu hd hl).elim fun c k=>k.elim fun w k=>⟨c,w,k.1,hc k.2.1,k.2.2.step g pre_nil⟩,
   x.env.cells,fun n c h=>⟨(x.env.cellx n c h).1.elim fun w k=>⟨w,hc k⟩,(x.env.cellx n c h).2⟩,x.env.ownL,x.env.apart⟩,
  fresh_but (p:=p) (h:=s'.heap) x (ns_has (hn m hm.1)) (same_k hs)⟩,⟨af,g,pre_nil⟩⟩
theorem Now.setC (ok:F.Ok top) (x:Good C F st p) {y:Nat} {d:AV} {v:Value} {c:Addr} {s':Shared} (hy:y<VX.length) (hk:F.env.kindOf (vname y)=some .cell)
  (r:RepT C p d v) (hl:F.env.cells.lookup (vname y)=some c) (hn:s'.heap.IsCell c (some v)) (hs:Heap.SameBut c p.h s'.heap) (af:After p.s s') :
  Now C F (·=F.kc) p ⟨(y,d)::st.ρ,st.lh,st.g⟩ ⟨p.own,p.la,s'⟩ :=
 have hm:=mem_of_lookup hl
 have g:Stp (·=F.kc) p ⟨p.own,p.la,s'⟩:=stp_own (ne0 ok.kc) (x.env.cellx _ _ hm).2 (same_k hs)
 ⟨⟨x.inv.step g fun e=>gt1 ok.kc e.symm,x.loc.step g rfl fun e=>ok.kcl e.symm,
  ⟨x.env.ns.elim fun m k=>⟨m,ns_at k.1 (same_k hs _ fun q=>(x.env.cellx _ _ hm).1.elim fun w j=>ns_ne_cell k.1 j q.symm),fun u e hu hd hl=>dget_each hd (fun q _=>nomatch (q▸hk).symm.trans hl) fun q hd=>(k.2 u e hu hd hl).elim fun w k=>⟨w,k.1,k.2.step g pre_nil⟩⟩,
   fun u e hu hd hl'=>dget_each hd (fun q q2=>⟨c,v,q▸hl,hn,q2▸r.step g pre_nil⟩) fun q hd=>(x.env.cell u e hu hd hl').elim fun c' k=>k.elim fun w k =>
    ⟨c',w,k.1,isCell_at k.2.1 (same_k hs _ fun e'=>q (vname_inj hy hu (name_of_addr x.env.apart hm (e'▸mem_of_lookup k.1)))),k.2.2.step g pre_nil⟩,
   x.env.cells,fun n c' h=>⟨Decidable.byCases (p:=c'=c) (fun q=>q▸⟨_,hn⟩) fun q=>(x.env.cellx n c' h).1.elim fun w k=>⟨w,isCell_at k (same_k hs _ q)⟩,(x.env.cellx n c' h).2⟩,x.env.ownL,x.env.apart⟩,
  fresh_but (p:=p) (h:=s'.heap) x (isCell_has hn) (same_k hs)⟩,⟨af,g,pre_nil⟩⟩
theorem Now.setG (ok:F.Ok top) (x:Good C F st p) {a:Addr} {s':Shared} {g':GS} (ha:p.own a=1) (hs:Heap.SameBut a p.h s'.heap) (ex:Has s'.heap a) (af:After p.s s')
  (hi:Stp (·=1) p ⟨p.own,p.la,s'⟩→Inv C g' ⟨p.own,p.la,s'⟩):Now C F (·=1) p ⟨st.ρ,st.lh,g'⟩ ⟨p.own,p.la,s'⟩ :=
 have g:Stp (·=1) p ⟨p.own,p.la,s'⟩:=stp_own (fun h=>nomatch h) ha (same_k hs)
 ⟨⟨hi g,x.loc.step g rfl (gt1 ok.kl),x.env.step g pre_nil (gt1 ok.kf) (gt1 ok.kc),fresh_but (p:=p) (h:=s'.heap) x ex (same_k hs)⟩,⟨af,g,pre_nil⟩⟩
theorem Good.mark (ok:F.Ok top) (x:Good C F st p) {a:Addr} {k:Nat} {s':Shared} (hf:∀ o,p.h.get? a=some o→top<p.own a) (hs:∀ b,b≠a→∀ o,p.h.get? b=some o→s'.heap.get? b=some o) (ex:k≠0→Has s'.heap a) :
  Stp (top<·) p ⟨lab p.own a k,p.la,s'⟩∧Good C F st ⟨lab p.own a k,p.la,s'⟩ :=
 have g:Stp (top<·) p ⟨lab p.own a k,p.la,s'⟩:=⟨fun b n o e =>
  have ne:b≠a:=fun q=>n (q▸hf o (q▸e))
  ⟨hs b ne o e,lab_ne ne⟩,Nat.not_lt_zero top⟩
 ⟨g,x.quiet g rfl ok.t1 (Nat.not_lt.mpr ok.tl) (Nat.not_lt.mpr ok.tf) (Nat.not_lt.mpr ok.tc) fun b e=>Decidable.byCases (p:=b=a) (fun q=>q▸ex fun k0=>e (q▸lab_self.trans k0)) fun q=>(x.fresh b (lab_ne (own:=p.own) (n:=k) q▸e)).elim fun o e=>⟨o,hs b q o e⟩⟩
end
theorem cap_line:cap≤sizeLine:=sizeLine_eq▸(by decide:2 ^ 20≤_)
theorem cap_63 {n:Nat} (h:n≤cap):(n:Int)<2 ^ 63:=by unfold cap at h;lia
theorem small_le {n:Nat} (h:small n=true):n≤cap:=Nat.le_of_ble_eq_true h
section
variable {C:Cfg} {F:Fr} {A:Around} {S:Nat→Prop} {p:Pl} {st:St} {d d1 d2:AV} {v v1 v2:Value}
theorem RepT.int {i:Int} (r:RepT C p d v) (h:asInt d=some i):∃ t,v=.int i t:=(asInt_is h▸r:RepT C p (.int i) v)
theorem RepT.str {c:Nat} (r:RepT C p d v) (h:asStr d=some c):okc c=true∧∃ t,v=.str (txt c) t:=(asStr_is h▸r:RepT C p (.str c) v)
theorem RepT.bool {b:Bool} (r:RepT C p d v) (h:asBool d=some b):v=.bool b:=(asBool_is h▸r:RepT C p (.bool b) v)
theorem RepT.tup {l:List AV} (r:RepT C p d v) (h:asTup d=some l):∃ a vs,v=.ref a∧p.own a=0∧p.h.IsTuple a (List.toArray vs)∧vs.length≤cap∧Reps C p l vs:=(asTup_is h▸r:RepT C p (.tup l) v)
theorem RepT.loc {n:Nat} (r:RepT C p d v) (h:asLoc d=some n):∃ a,p.la[n]?=some a∧v=.ref a:=(asLoc_is h▸r:RepT C p (.loc n) v)
theorem Good.at (x:Good C F st p) {n:Nat} {z:LO×Bool} (hz:st.lh[n]?=some z) (r:∃ a,p.la[n]?=some a∧v=.ref a):∃ a,v=.ref a∧p.la[n]?=some a∧p.own a=lbl F z.2∧RepO C p a z.1 :=
 r.elim fun a r=>(x.loc.each n z.1 z.2 hz).elim fun b q=>⟨a,r.2,r.1,(Option.some.inj (q.1.symm.trans r.1):b=a)▸q.2⟩
theorem RepT.list (r:RepT C p d v) (x:Good C F st p) {l:List AV} (e:listOf st.lh d=some l):∃ a vs,v=.ref a∧p.h.PlainList a (List.toArray vs)∧vs.length≤cap∧Reps C p l vs :=
 elim_is e (fun _ e=>(show Rep C p (.lst l) v from (lstOf_is e▸r:RepT C p (.lst l) v)).elim fun a r=>r.elim fun vs r=>⟨a,vs,r.1,r.2.2⟩)
  fun n hn e=>obind_is e fun z hz e=>(x.at hz (r.loc hn)).elim fun a q=>(loL_is e▸q.2.2.2:RepO C p a (.lst l)).elim fun vs k=>⟨a,vs,q.1,k⟩
theorem RepT.dict (r:RepT C p d v) (x:Good C F st p) {l:List (Nat×AV)} (e:dicOf st.lh d=some l):∃ a kvs,v=.ref a∧p.h.DictOf C.knd a kvs∧(a == sysModules)=false∧RepD C p l kvs :=
 elim_is e (fun _ e=>(show Rep C p (.dct l) v from (asDct_is e▸r:RepT C p (.dct l) v)).elim fun a r=>r.elim fun vs r=>⟨a,vs,r.1,r.2.2⟩)
  fun n hn e=>obind_is e fun z hz e=>(x.at hz (r.loc hn)).elim fun a q=>(loD_is e▸q.2.2.2:RepO C p a (.dct l)).elim fun vs k=>⟨a,vs,q.1,k⟩
noncomputable def opOf:BOp→Operator
 | .add=>.Add
 | .sub=>.Sub
 | .mul=>.Mult
 | .mod=>.Mod
theorem Out.int {i:Int} {t:Tok} {tk:Nat} (z:¬ S 0) (x:Good C F st p):Out C F S p st (RepT C · (.int i)) (.int i t) { p.s with toks:=tk }:=.tok z x ⟨t,rfl⟩
theorem Out.bool {b:Bool} (z:¬ S 0) (x:Good C F st p):Out C F S p st (RepT C · (.bool b)) (.bool b) p.s:=.val z x rfl
theorem add_tups {s:Shared} {a b:Addr} {vs us:List Value} {Q:Value→Shared→Prop} (h1:s.heap.IsTuple a (List.toArray vs)) (h2:s.heap.IsTuple b (List.toArray us)) (hz:vs.length+us.length≤sizeLine)
  (k1:vs=[]→Q (.ref b) s) (k2:us=[]→Q (.ref a) s)
  (k3:Q (.ref s.heap.objs.size) { s with heap:=s.heap.push { cls:=.type "tuple",data:=.seq (List.toArray (vs++us)) } }) :
  wp C A (binaryOp .Add (.ref a) (.ref b)) Q s:=by
 obtain ⟨⟨c1,dd1,_,sl1⟩,e1,rfl,n1,rfl⟩:=h1
 obtain ⟨⟨c2,dd2,_,sl2⟩,e2,rfl,n2,rfl⟩:=h2
 refine Decidable.byCases (p:=(List.toArray vs).isEmpty=true) (fun i1=>concat_meets ⟨_,e1,rfl⟩ ⟨_,e2,rfl⟩ noFill_tuple_add seq_tuple_add PySem.F.slot_tuple_add PySem.F.entry_tuple_add (PySem.F.args_tuple_add_2 _ _) (tuple_addW0 a b _ _ n1 n2 dd1 dd2 sl1 sl2 i1) ⟨e1,e2,k1 (List.isEmpty_iff.mp ((List.isEmpty_toArray _).symm.trans i1))⟩) fun i1 =>
  Decidable.byCases (p:=(List.toArray us).isEmpty=true) (fun i2=>concat_meets ⟨_,e1,rfl⟩ ⟨_,e2,rfl⟩ noFill_tuple_add seq_tuple_add PySem.F.slot_tuple_add PySem.F.entry_tuple_add (PySem.F.args_tuple_add_2 _ _) (tuple_addW1 a b _ _ n1 n2 dd1 dd2 sl1 sl2 i1 i2) ⟨e1,e2,k2 (List.isEmpty_iff.mp ((List.isEmpty_toArray _).symm.trans i2))⟩) fun i2 =>
   concat_meets ⟨_,e1,rfl⟩ ⟨_,e2,rfl⟩ noFill_tuple_add seq_tuple_add PySem.F.slot_tuple_add PySem.F.entry_tuple_add (PySem.F.args_tuple_add_2 _ _) (tuple_addW2 a b _ _ n1 n2 dd1 dd2 sl1 sl2 i1 i2 hz) ⟨e1,e2,(List.append_toArray vs us).symm▸k3⟩
theorem add_lsts {s:Shared} {a b:Addr} {vs us:List Value} {Q:Value→Shared→Prop} (h1:s.heap.IsList a (List.toArray vs)) (h2:s.heap.IsList b (List.toArray us)) (hz:vs.length+us.length≤sizeLine)
  (k3:Q (.ref s.heap.objs.size) { s with heap:=s.heap.push { cls:=.type "list",data:=.seq (List.toArray (vs++us)) } }) :
  wp C A (binaryOp .Add (.ref a) (.ref b)) Q s:=by
 obtain ⟨⟨c1,dd1,_,sl1⟩,e1,rfl,n1,rfl⟩:=h1
 obtain ⟨⟨c2,dd2,_,sl2⟩,e2,rfl,n2,rfl⟩:=h2
 exact concat_meets ⟨_,e1,rfl⟩ ⟨_,e2,rfl⟩ noFill_list_add seq_list_add PySem.F.slot_list_add PySem.F.entry_list_add (PySem.F.args_list_add_2 _ _) (list_addW a b _ _ n1 n2 dd1 dd2 sl1 sl2 hz) ⟨e1,e2,(List.append_toArray vs us).symm▸k3⟩
theorem sum_cap {l m:List AV} {vs us:List Value} (q1:Reps C p l vs) (q2:Reps C p m us) (h:small (l.length+m.length)=true):vs.length+us.length≤cap:=by rw [q1.length,q2.length];exact small_le h
theorem op_add (z:¬ S 0) (x:Good C F st p) (r1:RepT C p d1 v1) (r2:RepT C p d2 v2) (e:addV st.lh d1 d2=some d):wp C A (binaryOp .Add v1 v2) (Out C F S p st (RepT C · d)) p.s :=
 elim_is e (fun _ e=>elim_is e (fun _ e=>obind_is e fun l h1 e=>obind_is e fun m h2 e=>cond_is e fun hs e=>some_is (Q:=fun d=>wp C A (binaryOp .Add v1 v2) (Out C F S p st (RepT C · d)) p.s) e
   ((r1.list x h1).elim fun a q=>q.elim fun vs q=>(r2.list x h2).elim fun b k=>k.elim fun us k=>q.1▸k.1 ▸
    have hc:=sum_cap q.2.2.2 k.2.2.2 hs
    add_lsts q.2.1.isList k.2.1.isList (Nat.le_trans hc cap_line) (.newLst z x (q.2.2.2.append k.2.2.2) (List.length_append▸hc))))
  fun l h1 e=>obind_is e fun m h2 e=>cond_is e fun hs e=>some_is (Q:=fun d=>wp C A (binaryOp .Add v1 v2) (Out C F S p st (RepT C · d)) p.s) e
   ((r1.tup h1).elim fun a q=>q.elim fun vs q=>(r2.tup h2).elim fun b k=>k.elim fun us k=>q.1▸k.1 ▸
    have hc:=sum_cap q.2.2.2.2 k.2.2.2.2 hs
    have ra:Reps C p (l++m) (vs++us):=q.2.2.2.2.append k.2.2.2.2
    add_tups q.2.2.1 k.2.2.1 (Nat.le_trans hc cap_line) (fun e=>.val z x ⟨b,us,rfl,k.2.1,k.2.2.1,k.2.2.2.1,by rw [e] at ra;exact ra⟩) (fun e=>.val z x ⟨a,vs,rfl,q.2.1,q.2.2.1,q.2.2.2.1,by rw [e,List.append_nil] at ra;exact ra⟩)
     (.newTup z x ra (List.length_append▸hc))))
  fun i h1 e=>omap_is e fun j h2 e=>e▸(r1.int h1).elim fun t q=>(r2.int h2).elim fun u k=>q▸k▸add_int (.int z x)
theorem int2_is {β:Type} {f:Int→Int→Option β} {y:β} (e:int2 d1 d2 f=some y) (r1:RepT C p d1 v1) (r2:RepT C p d2 v2) {P:Value→Value→Prop} (k:∀ i j t u,f i j=some y→P (.int i t) (.int j u)):P v1 v2 :=
 obind_is e fun i h1 e=>obind_is e fun j h2 e=>(r1.int h1).elim fun t q=>(r2.int h2).elim fun u w=>q▸w▸k i j t u e
theorem big_is {i:Int} (h:bigOk i=true):-(2 ^ 62)<i∧i<2 ^ 62:=of_decide_eq_true h
theorem mul_fit {i j:Int} (h:bigOk i=true) (k:bigOk j=true):IntMulOk i j:=by
 obtain ⟨a,b⟩:=big_is h
 obtain ⟨c,d⟩:=big_is k
 mul_fits
theorem op_bin (z:¬ S 0) (x:Good C F st p) {op:BOp} (r1:RepT C p d1 v1) (r2:RepT C p d2 v2) (e:binV st.lh op d1 d2=some d):wp C A (binaryOp (opOf op) v1 v2) (Out C F S p st (RepT C · d)) p.s:=match op,e with
 | .add,e=>op_add z x r1 r2 e
 | .sub,e=>int2_is (P:=fun v1 v2=>wp C A (binaryOp .Sub v1 v2) (Out C F S p st (RepT C · d)) p.s) e r1 r2 fun i j t u e=>some_is (Q:=fun d=>wp C A (binaryOp .Sub (.int i t) (.int j u)) (Out C F S p st (RepT C · d)) p.s) e (sub_int' (.int z x))
 | .mul,e=>int2_is (P:=fun v1 v2=>wp C A (binaryOp .Mult v1 v2) (Out C F S p st (RepT C · d)) p.s) e r1 r2 fun i j t u e=>cond_is e fun h e=>some_is (Q:=fun d=>wp C A (binaryOp .Mult (.int i t) (.int j u)) (Out C F S p st (RepT C · d)) p.s) e (mul_int (.int z x) (mul_fit (and_is h).1 (and_is h).2))
 | .mod,e=>int2_is (P:=fun v1 v2=>wp C A (binaryOp .Mod v1 v2) (Out C F S p st (RepT C · d)) p.s) e r1 r2 fun i j t u e=>cond_is e fun h e=>some_is (Q:=fun d=>wp C A (binaryOp .Mod (.int i t) (.int j u)) (Out C F S p st (RepT C · d)) p.s) e (mod_int' (Int.ne_of_gt (of_decide_eq_true h)) (.int z x))
end
theorem ofString_inj {a b:String} (h:Str.ofString a=Str.ofString b):a=b:=by
 rw [Str.ofString_eq_toList,Str.ofString_eq_toList] at h
 injection h with h
 exact String.toList_inj.mp ((List.map_inj_right fun x y e=>Char.ext (UInt32.toNat_inj.mp e)).mp (congrArg Array.toList h:a.toList.map Char.toNat=b.toList.map Char.toNat))
theorem txts_nodup:(TX.map Str.ofString).Nodup:=by decide +kernel
theorem txts_each:∀ x∈TX.map Str.ofString,(x.cps.toList.take 5 == (Str.ofString "each'").cps.toList)=false:=by decide +kernel
theorem txt_low {c:Nat} (h:c<TX.length):(TX.map Str.ofString)[c]?=some (txt c):=by
 rw [List.getElem?_map,List.getElem?_eq_getElem h,txt,if_pos (Nat.lt_trans h (by decide)),List.getD_eq_getElem?_getD,List.getElem?_eq_getElem h];rfl
theorem txt_high {c:Nat} (h:1000≤c):txt c=Str.ofString "each'"++Str.ofString (toString (c - 1000)):=if_neg (Nat.not_lt.mpr h)
theorem cps_append (a b:Str):(a++b).cps.toList=a.cps.toList++b.cps.toList:=Array.toList_append
theorem each_len:(Str.ofString "each'").cps.toList.length=5:=by decide +kernel
theorem low_high {c d:Nat} (h1:c<TX.length) (h2:1000≤d) (e:txt c=txt d):False:=by
 have h:=txts_each _ (List.mem_of_getElem? (txt_low h1))
 rw [e,txt_high h2,cps_append,← each_len,List.take_left,beq_self_eq_true] at h
 cases h
theorem okc_or {c:Nat} (h:okc c=true):c<TX.length∨1000≤c:=(Bool.or_eq_true_iff.mp h).imp Nat.le_of_ble_eq_true Nat.le_of_ble_eq_true
theorem txt_inj {c d:Nat} (hc:okc c=true) (hd:okc d=true) (e:txt c=txt d):c=d :=
 (okc_or hc).elim (fun h1=>(okc_or hd).elim (fun h2=>(List.getElem?_inj ((List.length_map Str.ofString).symm▸h1) txts_nodup).mp ((txt_low h1).trans (e▸(txt_low h2).symm))) fun h2=>(low_high h1 h2 e).elim)
  fun h1=>(okc_or hd).elim (fun h2=>(low_high h2 h1 e.symm).elim) fun h2=>by
   have e2:=congrArg (fun x:Str=>x.cps.toList) ((txt_high h1).symm.trans (e.trans (txt_high h2)))
   rw [cps_append,cps_append] at e2
   have e3:Str.ofString (toString (c - 1000))=Str.ofString (toString (d - 1000)):=congrArg Str.mk (Array.toList_inj.mp (List.append_cancel_left e2))
   rw [← Nat.sub_add_cancel h1,← Nat.sub_add_cancel h2,Nat.repr_injective (ofString_inj e3)]
theorem beq_dec {α:Type} [BEq α] [LawfulBEq α] {x y:α} {c d:Nat} (k:x=y→c=d) (k':c=d→x=y):(x == y)=Nat.beq c d:=by
 cases q:Nat.beq c d
 ·exact beq_eq_false_iff_ne.mpr fun e=>Nat.ne_of_beq_eq_false q (k e)
 ·exact beq_iff_eq.mpr (k' (Nat.eq_of_beq_eq_true q))
theorem txt_beq {c d:Nat} (hc:okc c=true) (hd:okc d=true):(txt c == txt d)=Nat.beq c d:=beq_dec (txt_inj hc hd) (congrArg txt)
section
variable {C:Cfg} {F:Fr} {A:Around} {S:Nat→Prop} {p:Pl} {st:St} {h:Heap} {d d1 d2:AV} {v v1 v2:Value}
noncomputable def Ints:List Int→List Value→Prop
 | [],vs=>vs=[]
 | n::ns,vs=>∃ t us,vs=.int n t::us∧Ints ns us
theorem reps_ints:∀ {l:List AV} {ns:List Int} {vs:List Value},intsOf l=some ns→Reps C p l vs→Ints ns vs∧l=ns.map .int
 | [],_,vs,e,r=>some_is (Q:=fun ns=>Ints ns vs∧[]=ns.map AV.int) e ⟨r,rfl⟩
 | d::l,_,vs,e,r=>obind_is e fun i h e=>omap_is e fun q e1 e2=>r.elim fun v r=>r.elim fun us r=>(r.2.1.top.int h).elim fun t k =>
  have ih:=reps_ints e1 r.2.2
  e2▸⟨⟨t,us,k▸r.1,ih.1⟩,(asInt_is h).symm▸congrArg (AV.int i::·) ih.2⟩
theorem ints_get:∀ {ns:List Int} {vs:List Value},Ints ns vs→∀ {j:Nat} {y:Value},vs[j]?=some y→∃ t,y=.int (ns.getD j 0) t
 | [],_,h,_,_,e=>nn (h▸e)
 | n::ns,_,h,0,_,e=>h.elim fun t h=>h.elim fun us h=>⟨t,(Option.some.inj ((congrArg (·[0]?) h.1).symm.trans e)).symm⟩
 | n::ns,_,h,j+1,_,e=>h.elim fun t h=>h.elim fun us h=>ints_get h.2 (j:=j) ((congrArg (·[j+1]?) h.1).symm.trans e)
theorem ints_len:∀ {ns:List Int} {vs:List Value},Ints ns vs→vs.length=ns.length
 | [],_,h=>h▸rfl
 | n::ns,_,h=>h.elim fun t h=>h.elim fun us h=>h.1▸congrArg (·+1) (ints_len h.2)
theorem ints_one:∀ {ns ms:List Int} {vs:List Value},Ints ns vs→Ints ms vs→ns=ms
 | [],[],_,_,_=>rfl
 | [],m::ms,_,a,b=>b.elim fun t b=>b.elim fun us b=>nomatch a.symm.trans b.1
 | n::ns,[],_,a,b=>a.elim fun t a=>a.elim fun us a=>nomatch Eq.symm b |>.trans a.1
 | n::ns,m::ms,_,a,b=>a.elim fun t a=>a.elim fun us a=>b.elim fun t' b=>b.elim fun us' b =>
  have e:=List.cons.inj (a.1.symm.trans b.1)
  (Value.int.inj e.1).1▸congrArg (n::·) (ints_one a.2 (e.2▸b.2))
theorem ints_all {ns ms:List Int}:((List.range (min ns.length ms.length)).all (fun j=>ns.getD j 0 == ms.getD j 0)&&ns.length == ms.length)=decide (ns=ms):=by
 rw [Bool.eq_iff_iff,Bool.and_eq_true,List.all_eq_true,beq_iff_eq,decide_eq_true_iff]
 refine ⟨fun h=>List.ext_getElem h.2 fun i h1 h2=>?_,fun e=>e▸⟨fun _ _=>beq_self_eq_true _,rfl⟩⟩
 have:=beq_iff_eq.mp (h.1 i (List.mem_range.mpr (Nat.lt_min.mpr ⟨h1,h2⟩)))
 rw [List.getD_eq_getElem?_getD,List.getD_eq_getElem?_getD,List.getElem?_eq_getElem h1,List.getElem?_eq_getElem h2] at this
 exact this
section
variable {s:Shared} {a b:Addr} {vs us:List Value} {ns ms:List Int}
theorem row_each (i1:Ints ns vs) (i2:Ints ms us) (j:Nat) (h1:j<(List.toArray vs).size) (h2:j<(List.toArray us).size):SeqAt.EqAt A s (List.toArray vs)[j] (List.toArray us)[j] (ns.getD j 0 == ms.getD j 0) :=
 (ints_get i1 (j:=j) (List.getElem?_eq_getElem h1)).elim fun t e1=>(ints_get i2 (j:=j) (List.getElem?_eq_getElem h2)).elim fun u e2=>by
  rw [List.getElem_toArray,List.getElem_toArray,e1,e2]
  exact .int_int _ _ _ _
theorem row_all (i1:Ints ns vs) (i2:Ints ms us):((List.range (min (List.toArray vs).size (List.toArray us).size)).all (fun j=>ns.getD j 0 == ms.getD j 0)&&(List.toArray vs).size == (List.toArray us).size)=decide (ns=ms) :=
 (by rw [List.size_toArray,List.size_toArray,ints_len i1,ints_len i2]:_=_).trans ints_all
theorem row_rc (h1:s.heap.IsTuple a (List.toArray vs)) (h2:s.heap.IsTuple b (List.toArray us)) (i1:Ints ns vs) (i2:Ints ms us) (hu:A.units<cLine):SeqAt.RcAt A s (.ref a) (.ref b) (decide (ns=ms)) :=
 row_all i1 i2▸SeqAt.RcAt.tuples (e:=fun j=>ns.getD j 0 == ms.getD j 0) h1 h2 hu (row_each i1 i2)
theorem row_rcne (h1:s.heap.IsTuple a (List.toArray vs)) (h2:s.heap.IsTuple b (List.toArray us)) (i1:Ints ns vs) (i2:Ints ms us) (hu:A.units<cLine):SeqAt.RcNeAt A s (.ref a) (.ref b) (!decide (ns=ms)) :=
 row_all i1 i2▸SeqAt.RcNeAt.tuples (e:=fun j=>ns.getD j 0 == ms.getD j 0) h1 h2 hu (row_each i1 i2)
end
def Eqs (C:Cfg) (A:Around) (s:Shared) (v1 v2:Value) (b:Bool):Prop:=(∀ Q:Value→Shared→Prop,Q (.bool b) s→wp C A (compareOp .Eq v1 v2) Q s)∧∀ Q:Value→Shared→Prop,Q (.bool !b) s→wp C A (compareOp .NotEq v1 v2) Q s
theorem eqs_lists {s:Shared} {a b:Addr} {vs us:List Value} (t1:s.heap.IsList a (List.toArray vs)) (t2:s.heap.IsList b (List.toArray us)) (hu:A.units<cLine) (h:vs=[]∨us=[]):Eqs C A s (.ref a) (.ref b) (decide (vs.length=us.length)) :=
 Decidable.byCases (p:=vs.length=us.length)
  (fun e=>by
   have hv:vs=[]:=h.elim id fun q=>List.eq_nil_of_length_eq_zero (e.trans (q▸rfl))
   rw [decide_eq_true e]
   subst hv
   exact ⟨fun Q q=>SeqAt.RcAt.lists (e:=fun _=>true) t1 t2 e hu (fun j g _=>absurd g (Nat.not_lt_zero j)) C.prog C.w F0 Q q,fun Q q=>SeqAt.RcNeAt.lists (e:=fun _=>true) t1 t2 e hu (fun j g _=>absurd g (Nat.not_lt_zero j)) C.prog C.w F0 Q q⟩)
  fun e=>by
   rw [decide_eq_false e]
   exact ⟨fun Q q=>SeqAt.RcAt.lists_lengths t1 t2 (bne_iff_ne.mpr e) hu C.prog C.w F0 Q q,fun Q q=>SeqAt.RcNeAt.lists_lengths t1 t2 (bne_iff_ne.mpr e) hu C.prog C.w F0 Q q⟩
theorem eqL_is:∀ {l m:List AV} {b:Bool},eqL l m=some b→(l=[]∨m=[])∧decide (l.length=m.length)=b
 | [],[],_,e=>⟨.inl rfl,Option.some.inj e⟩
 | _::_,[],_,e=>⟨.inr rfl,Option.some.inj e⟩
 | [],_::_,_,e=>⟨.inl rfl,Option.some.inj e⟩
 | _::_,_::_,_,e=>nn e
theorem Reps.nil_of {vs:List Value} {l:List AV} (r:Reps C p l vs) (h:l=[]):vs=[]:=List.eq_nil_of_length_eq_zero (r.length.trans (h▸rfl))
theorem eqs_bool {s:Shared}:∀ a b:Bool,Eqs C A s (.bool a) (.bool b) (a == b)
 | true,true | true,false | false,true | false,false=>⟨fun Q q=>eq_bool q,fun Q q=>ne_bool q⟩
theorem op_eq (x:Good C F st p) (hu:A.units<cLine) {b:Bool} (r1:RepT C p d1 v1) (r2:RepT C p d2 v2) (e:eqV st.lh d1 d2=some b):Eqs C A p.s v1 v2 b :=
 elim_is e (fun _ e=>elim_is e (fun _ e=>elim_is e (fun _ e=>elim_is e (fun _ e=>obind_is e fun l h1 e=>obind_is e fun m h2 e =>
   (r1.list x h1).elim fun a q=>q.elim fun vs q=>(r2.list x h2).elim fun b k=>k.elim fun us k=>q.1▸k.1 ▸
    (eqL_is e).2▸q.2.2.2.length▸k.2.2.2.length▸eqs_lists q.2.1.isList k.2.1.isList hu ((eqL_is e).1.imp q.2.2.2.nil_of k.2.2.2.nil_of))
   fun l h1 e=>obind_is e fun m h2 e=>obind_is e fun n h3 e=>omap_is e fun k h4 e=>e▸(r1.tup h1).elim fun a q=>q.elim fun vs q=>(r2.tup h2).elim fun b k=>k.elim fun us k=>q.1▸k.1 ▸
    have i1:=(reps_ints h3 q.2.2.2.2).1
    have i2:=(reps_ints h4 k.2.2.2.2).1
    ⟨fun Q w=>row_rc q.2.2.1 k.2.2.1 i1 i2 hu C.prog C.w F0 Q w,fun Q w=>row_rcne q.2.2.1 k.2.2.1 i1 i2 hu C.prog C.w F0 Q w⟩)
   fun a h1 e=>omap_is e fun b h2 e=>e▸r1.bool h1▸r2.bool h2▸eqs_bool a b)
   fun c h1 e=>omap_is e fun k h2 e=>e▸txt_beq (r1.str h1).1 (r2.str h2).1▸(r1.str h1).2.elim fun t q=>(r2.str h2).2.elim fun u w=>q▸w▸⟨fun Q q=>eq_str q,fun Q q=>ne_str q⟩)
   fun i h1 e=>omap_is e fun j h2 e=>e▸(r1.int h1).elim fun t q=>(r2.int h2).elim fun u w=>q▸w▸⟨fun Q q=>eq_int q,fun Q q=>ne_int q⟩
theorem reps_strs:∀ {l:List AV} {cs:List Nat} {vs:List Value},strsOf l=some cs→Reps C p l vs→∀ {c:Nat},okc c=true→(∀ y∈vs,∃ k t,y=.str (txt k) t∧okc k=true)∧vs.any (·.isStr (txt c))=cs.elem c
 | [],_,vs,e,r,c,o=>by
  cases e
  cases (r:vs=[])
  exact ⟨(fun _ q=>nomatch q),rfl⟩
 | d::l,_,_,e,r,c,o=>obind_is e fun k h e=>omap_is e fun q e1 e2=>r.elim fun v r=>r.elim fun us r=>(r.2.1.top.str h).2.elim fun t w =>
  have ok:=(r.2.1.top.str h).1
  have ih:=reps_strs e1 r.2.2 o
  e2▸r.1▸w▸⟨fun y hy=>(List.mem_cons.mp hy).elim (fun q=>⟨k,t,q,ok⟩) (ih.1 y),by
   rw [List.any_cons,ih.2,List.elem_cons]
   show ((txt k == txt c)||_)=_
   rw [(beq_dec (txt_inj ok o) (congrArg txt)).trans (beq_dec Eq.symm Eq.symm:(c == k)=Nat.beq k c).symm]
   cases c == k <;> rfl⟩
def Bears (h:Heap) (y:Value) (ns:List Int):Prop:=∃ a us,y=.ref a∧h.IsTuple a (List.toArray us)∧Ints ns us
theorem tuple_one {a:Addr} {vs us:List Value} (x:h.IsTuple a (List.toArray vs)) (y:h.IsTuple a (List.toArray us)):vs=us :=
 x.elim fun o x=>y.elim fun o' y=>x.2.2.elim fun n e=>y.2.2.elim fun n' e'=>by
  cases x.1.symm.trans y.1
  cases e.symm.trans e'
  rfl
theorem Bears.one {y:Value} {ns ms:List Int} (a:Bears h y ns) (b:Bears h y ms):ns=ms :=
 a.elim fun k a=>a.elim fun us a=>b.elim fun k' b=>b.elim fun us' b =>
  have e:k=k':=Value.ref.inj (a.1.symm.trans b.1)
  ints_one a.2.2 (tuple_one a.2.1 (e▸b.2.1)▸b.2.2)
theorem row_of {r:List Int} {v:Value} (x:RepT C p d v) (h:rowOf d=some r):Bears p.h v r∧d=rowAV r:=obind_is h fun l h1 h2=>(x.tup h1).elim fun a q=>q.elim fun vs q =>
  have k:=reps_ints h2 q.2.2.2.2
  ⟨⟨a,vs,q.1,q.2.2.1,k.1⟩,(asTup_is h1).trans (congrArg AV.tup k.2)⟩
noncomputable def isRow (h:Heap) (ns:List Int) (y:Value):Bool:=@decide (Bears h y ns) (Classical.propDecidable _)
theorem isRow_of {ns ms:List Int} {y:Value} (b:Bears h y ms):isRow h ns y=decide (ms=ns) :=
 Decidable.byCases (p:=ms=ns) (fun e=>(@decide_eq_true _ (Classical.propDecidable _) (e▸b:Bears h y ns)).trans (decide_eq_true e).symm) fun e=>(@decide_eq_false _ (Classical.propDecidable _) fun k:Bears h y ns=>e (b.one k)).trans (decide_eq_false e).symm
theorem reps_rows:∀ {l:List AV} {rs:List (List Int)} {vs:List Value},rowsOf l=some rs→Reps C p l vs→(∀ y∈vs,∃ ns,Bears p.h y ns)∧(∀ x,vs.any (isRow p.h x)=rs.elem x)∧l=rs.map rowAV
 | [],_,vs,e,r=>by
  cases e
  cases (r:vs=[])
  exact ⟨(fun _ q=>nomatch q),fun _=>rfl,rfl⟩
 | d::l,_,_,e,r=>obind_is e fun k h e=>omap_is e fun q e1 e2=>r.elim fun v r=>r.elim fun us r =>
  have w:=row_of r.2.1.top h
  have ih:=reps_rows e1 r.2.2
  e2▸r.1▸⟨fun y hy=>(List.mem_cons.mp hy).elim (fun q=>q▸⟨k,w.1⟩) (ih.1 y),fun x=>by
   rw [List.any_cons,ih.2.1,List.elem_cons,isRow_of w.1]
   show (decide (k=x)||_)=_
   rw [show (x == k)=decide (k=x) from Bool.eq_iff_iff.mpr ⟨fun q=>decide_eq_true (eq_of_beq q).symm,fun q=>beq_iff_eq.mpr (of_decide_eq_true q).symm⟩]
   cases decide (k=x) <;> rfl,w.2.symm▸congrArg (rowAV k::·) ih.2.2⟩
theorem row_eq {s:Shared} {a:Addr} {vs:List Value} {x:List Int} (t1:s.heap.IsTuple a (List.toArray vs)) (i1:Ints x vs) (hu:A.units<cLine) {y:Value} (b:∃ ns,Bears s.heap y ns):SeqAt.EqAt A s y (.ref a) (isRow s.heap x y) :=
 b.elim fun ns b=>b.elim fun a' b=>b.elim fun us b=>Decidable.byCases (p:=a'=a)
  (fun q=>by
   rw [isRow_of ⟨a,vs,b.1.trans (congrArg Value.ref q),t1,i1⟩,decide_eq_true rfl,b.1,q]
   exact .same _)
  fun q=>by
   rw [isRow_of ⟨a',us,b.1,b.2⟩,b.1]
   exact .of_refs q (row_rc b.2.1 t1 b.2.2 i1 hu)
theorem valueAt_txt {k c:Nat} {v:Value} {us:List (Str×Value)} (o':okc k=true) (o:okc c=true):valueAt ((txt k,v)::us) (txt c)=cond (Nat.beq k c) (some v) (valueAt us (txt c)):=by
 unfold valueAt
 rw [List.find?_cons]
 show Option.map _ (match decide (txt k=txt c) with | true=>_ | false=>_)=_
 rw [← txt_beq o' o,show (txt k == txt c)=decide (txt k=txt c) from Bool.eq_iff_iff.mpr ⟨fun q=>decide_eq_true (eq_of_beq q),fun q=>beq_iff_eq.mpr (of_decide_eq_true q)⟩]
 cases decide (txt k=txt c) <;> rfl
theorem repD_get:∀ {l:List (Nat×AV)} {kvs:List (Str×Value)},RepD C p l kvs→∀ {c:Nat},okc c=true→(∀ d,dget l c=some d→∃ v,valueAt kvs (txt c)=some v∧Rep C p d v)∧(dget l c=none→valueAt kvs (txt c)=none)
 | [],_,r,c,o=>Eq.symm r▸⟨fun d e=>nn e,fun _=>rfl⟩
 | (k,d')::l,_,r,c,o=>r.elim fun v r=>r.elim fun us r=>r.1▸by
  show (∀ d,cond (Nat.beq k c) (some d') (dget l c)=some d→_)∧(cond (Nat.beq k c) (some d') (dget l c)=none→_)
  rw [valueAt_txt r.2.1 o]
  cases Nat.beq k c
  ·exact repD_get r.2.2.2 o
  ·exact ⟨fun d e=>⟨v,rfl,Option.some.inj e▸r.2.2.1⟩,fun e=>nn e.symm⟩
def Ins (C:Cfg) (A:Around) (s:Shared) (v1 v2:Value) (b:Bool):Prop:=(∀ Q:Value→Shared→Prop,(∀ tk,Q (.bool b) { s with toks:=tk })→wp C A (compareOp .In v1 v2) Q s)∧∀ Q:Value→Shared→Prop,(∀ tk,Q (.bool !b) { s with toks:=tk })→wp C A (compareOp .NotIn v1 v2) Q s
theorem op_in (x:Good C F st p) (hu:A.units+1<cLine) {b:Bool} (r1:RepT C p d1 v1) (r2:RepT C p d2 v2) (e:inV st.lh d1 d2=some b):Ins C A p.s v1 v2 b :=
 elim_is e (fun _ e=>obind_is e fun l h1 e=>obind_is e fun k h2 e=>obind_is e fun m h3 e=>omap_is e fun rs h4 e=>e ▸
   (r1.tup h1).elim fun a q=>q.elim fun vs q=>(r2.list x h3).elim fun b w=>w.elim fun us w=>q.1▸w.1 ▸
    have i1:=(reps_ints h2 q.2.2.2.2).1
    have R:=reps_rows h4 w.2.2.2
    have he:∀ y,y∈List.toArray us→SeqAt.EqAt A.in1 p.s y (.ref a) (isRow p.h k y):=fun y hy=>row_eq q.2.2.1 i1 hu (R.1 y (List.mem_toArray.mp hy))
    have ea:(List.toArray us).any (isRow p.h k)=rs.elem k:=(List.any_toArray ..).trans (R.2.1 k)
    ⟨fun Q w'=>SeqAt.in_listAt _ w.2.1.isList he (ea.symm▸w' p.s.toks),fun Q w'=>SeqAt.notIn_listAt _ w.2.1.isList he (ea.symm▸w' p.s.toks)⟩)
  fun c h1 e=>elim_is e (fun _ e=>omap_is e fun l h2 e=>e▸(r1.str h1).2.elim fun t q=>(r2.dict x h2).elim fun a w=>w.elim fun kvs w=>q▸w.1 ▸
    have R:=repD_get w.2.2.2 (r1.str h1).1
    have ev:(valueAt kvs (txt c)).isSome=(dget l c).isSome:=by
     cases hq:dget l c with
     | none=>rw [R.2 hq];rfl
     | some d=>exact (R.1 d hq).elim fun v k=>k.1▸rfl
    ⟨fun Q k=>wpAny_in_of (knd:=C.knd) (strKind_is C.prog C.w _ t) w.2.2.1 w.2.1.mapOf (ev.symm▸k _),fun Q k=>wpAny_notIn_of (knd:=C.knd) (strKind_is C.prog C.w _ t) w.2.2.1 w.2.1.mapOf (ev.symm▸k _)⟩)
   fun l h2 e=>omap_is e fun cs h3 e=>e▸(r1.str h1).2.elim fun t q=>(r2.tup h2).elim fun a w=>w.elim fun vs w=>q▸w.1 ▸
    have R:=reps_strs h3 w.2.2.2.2 (r1.str h1).1
    have he:∀ y,y∈List.toArray vs→SeqAt.EqAt A.in1 p.s y (.str (txt c) t) (y.isStr (txt c)):=fun y hy=>(R.1 y (List.mem_toArray.mp hy)).elim fun k z=>z.elim fun u z=>z.1▸.str_str _ _ _ _
    have ea:(List.toArray vs).any (·.isStr (txt c))=cs.elem c:=(List.any_toArray ..).trans R.2
    ⟨fun Q k=>SeqAt.in_tupleAt _ w.2.2.1 he (ea.symm▸k p.s.toks),fun Q k=>SeqAt.notIn_tupleAt _ w.2.2.1 he (ea.symm▸k p.s.toks)⟩
noncomputable def copOf:COp→CmpOp
 | .eq=>.Eq
 | .ne=>.NotEq
 | .lt=>.Lt
 | .gt=>.Gt
 | .isin=>.In
 | .notin=>.NotIn
 | .isNone=>.Is
theorem op_cmp (z:¬ S 0) (x:Good C F st p) (hu:A.units+1<cLine) {op:COp} (r1:RepT C p d1 v1) (r2:RepT C p d2 v2) (e:cmpV st.lh op d1 d2=some d) (hn:op=.isNone→v2=.none):wp C A (compareOp (copOf op) v1 v2) (Out C F S p st (RepT C · d)) p.s:=match op,e,hn with
 | .eq,e,_=>omap_is e fun b h e=>e▸(op_eq x (Nat.lt_of_succ_lt hu) r1 r2 h).1 _ (.bool z x)
 | .ne,e,_=>omap_is e fun b h e=>e▸(op_eq x (Nat.lt_of_succ_lt hu) r1 r2 h).2 _ (.bool z x)
 | .lt,e,_=>int2_is (P:=fun v1 v2=>wp C A (compareOp .Lt v1 v2) (Out C F S p st (RepT C · d)) p.s) e r1 r2 fun i j t u e=>some_is (Q:=fun d=>wp C A (compareOp .Lt (.int i t) (.int j u)) (Out C F S p st (RepT C · d)) p.s) e (lt_int (.bool z x))
 | .gt,e,_=>int2_is (P:=fun v1 v2=>wp C A (compareOp .Gt v1 v2) (Out C F S p st (RepT C · d)) p.s) e r1 r2 fun i j t u e=>some_is (Q:=fun d=>wp C A (compareOp .Gt (.int i t) (.int j u)) (Out C F S p st (RepT C · d)) p.s) e (gt_int (.bool z x))
 | .isin,e,_=>omap_is e fun b h e=>e▸(op_in x hu r1 r2 h).1 _ fun tk=>.tok z x rfl
 | .notin,e,_=>omap_is e fun b h e=>e▸(op_in x hu r1 r2 h).2 _ fun tk=>.tok z x rfl
 | .isNone,e,hn=>hn rfl▸cond_or e (fun h e=>some_is (Q:=fun d=>wp C A (compareOp .Is v1 .none) (Out C F S p st (RepT C · d)) p.s) e ((show v1=.none from (isNone_is h▸r1:RepT C p .none v1)).symm▸is_none (.tok (tk:=p.s.toks) z x rfl)))
  fun _ e=>omap_is e fun l h e=>e▸(r1.tup h).elim fun a q=>q.elim fun vs q=>q.1▸is_none (.tok (tk:=p.s.toks) z x rfl)
end
theorem ite_is {α:Type} {c:Prop} [Decidable c] {x y:α} {P:Prop} (h:(if c then some x else none)=some y) (k:c→x=y→P):P :=
 Decidable.byCases (p:=c) (fun q=>k q (Option.some.inj ((if_pos q).symm.trans h))) fun q=>nn ((if_neg q).symm.trans h)
theorem idx_is {k:Int} {n j:Nat} (h:seqIndex? k n=some j) {P:Prop} (k1:0≤k→k<n→k.toNat=j→P) (k2:k<0→-(n:Int)≤k→(k+n).toNat=j→P):P:=by
 unfold seqIndex? at h
 refine ite_is h fun hc e=>Decidable.byCases (p:=k<0) (fun q=>?_) fun q=>?_
 ·rw [if_pos q] at hc e
  exact k2 q (Int.le_of_sub_nonneg ((Int.sub_neg k n).symm▸of_decide_eq_true (and_is hc).1)) e
 ·rw [if_neg q] at hc e
  exact k1 (Int.not_lt.mp q) (of_decide_eq_true (and_is hc).2) e
theorem idx_range {k:Int} {n j:Nat} (hn:n≤cap) (h:seqIndex? k n=some j):-(2 ^ 63)≤k∧k<2 ^ 63 :=
 idx_is h (fun a b _=>⟨Int.le_trans (by decide) a,Int.lt_trans b (cap_63 hn)⟩) fun a b _=>⟨Int.le_trans (Int.neg_le_neg (Int.le_of_lt (cap_63 hn))) b,Int.lt_trans a (by decide)⟩
theorem get_arr {α:Type} {l:List α} {j:Nat} {x:α} (h:l[j]?=some x):(List.toArray l)[j]?=some x:=(List.getElem?_toArray ..).trans h
noncomputable def notSlice (e:PySem.Expr):Bool:=!Nat.beq e.ctorIdx 26
theorem sub_plain {e:PySem.Expr}:notSlice e=true→∀ o i,subscripted e false o i=operate [o,i] (getItem o i):=by cases e <;> first | exact fun _ _ _=>rfl | exact fun h=>nb h
theorem letter_item (i:Nat) {d:AV} (h:letters[i]?=some d):∃ c,d=.str c∧okc c=true∧Txt.item (txt 26) (i:Int)=txt c∧(Txt.charAt (txt 26) (i:Int)).isSome=true∧fitsSsize (i:Int)=true:=match i,h with
 | 0,h=>⟨17,(Option.some.inj h).symm,by decide,by decide +kernel,by decide +kernel,by decide⟩
 | 1,h=>⟨18,(Option.some.inj h).symm,by decide,by decide +kernel,by decide +kernel,by decide⟩
 | 2,h=>⟨19,(Option.some.inj h).symm,by decide,by decide +kernel,by decide +kernel,by decide⟩
 | 3,h=>⟨20,(Option.some.inj h).symm,by decide,by decide +kernel,by decide +kernel,by decide⟩
 | i+4,h=>nn h
theorem txt23_24:¬ txt 23=txt 24:=by decide +kernel
section
variable {C:Cfg} {F:Fr} {A:Around} {S:Nat→Prop} {p:Pl} {st:St} {s:Shared} {d d1 d2:AV} {v v1 v2:Value}
theorem item_list {l:Addr} {vs:List Value} {k:Int} {t:Tok} {j:Nat} {x:Value} {Q:Value→Shared→Prop} (hl:s.heap.IsList l (List.toArray vs)) (hn:vs.length≤cap) (hj:seqIndex? k vs.length=some j) (hx:vs[j]?=some x)
  (h:Q x s):wp C A (getItem (.ref l) (.int k t)) Q s :=
 idx_is hj (fun a b e=>wpAny_getItem_list hl a (idx_range hn hj).2 (get_arr (e.symm▸hx)) h) fun a b e=>wpAny_getItem_list_neg hl a b (idx_range hn hj).1 (get_arr ((show (k+((List.toArray vs).size:Int)).toNat=j from e).symm▸hx)) h
theorem dict_get {a:Addr} {kvs:List (Str×Value)} {c:Nat} {tk:Tok} {w:Value} {value slice:PySem.Expr} {Q:Value→Shared→Prop} (hs:notSlice slice=true) (m:s.heap.DictOf C.knd a kvs) (e:valueAt kvs (txt c)=some w) (h:∀ t,Q w { s with toks:=t }):wp C A (subscriptTail value slice (.ref a) (.str (txt c) tk)) Q s :=
 tail_any m.typeIs slot_dict_getitem.lookup (wpAny_getItem_of (knd:=C.knd) (strKind_is C.prog C.w _ tk) m.mapOf e (h _)) (sub_plain hs _ _)
theorem op_sub (z:¬ S 0) (x:Good C F st p) {value slice:PySem.Expr} (hs:notSlice slice=true) (r1:RepT C p d1 v1) (r2:RepT C p d2 v2) (e:subV C.cells st d1 d2=some d) :
  wp C A (subscriptTail value slice v1 v2) (Out C F S p st (RepT C · d)) p.s :=
 elim_is e (fun _ e=>obind_is e fun c h2 e=>(r2.str h2).2.elim fun tk e2=>e2.symm▸cond_or e
   (fun h1 e =>
    have r1:C.hasS=true∧v1=.ref C.aS:=(isSl_is h1▸r1:RepT C p .slate v1)
    have I:=x.inv.sl r1.1
    r1.2.symm▸I.es.elim fun t m=>cond_or e
     (fun hc e=>some_is (Q:=fun d=>wp C A (subscriptTail value slice (.ref C.aS) (.str (txt c) tk)) (Out C F S p st (RepT C · d)) p.s) e
      (dict_get hs m ((valueAt_txt (k:=23) rfl (r2.str h2).1).trans (by rw [Nat.eq_of_beq_eq_true hc];rfl)) fun t=>.tok z x I.cells.top))
     fun _ e=>cond_is e fun hc e=>some_is (Q:=fun d=>wp C A (subscriptTail value slice (.ref C.aS) (.str (txt c) tk)) (Out C F S p st (RepT C · d)) p.s) e
      (dict_get hs m ((valueAt_txt (k:=23) rfl (r2.str h2).1).trans (by rw [Nat.eq_of_beq_eq_true hc];exact valueAt_txt (k:=24) (c:=24) rfl rfl)) fun t'=>.tok z x ⟨t,rfl⟩))
   fun _ e=>obind_is e fun l h1 e=>(r1.dict x h1).elim fun a q=>q.elim fun kvs q=>q.1.symm▸((repD_get q.2.2.2 (r2.str h2).1).1 d e).elim fun w k=>dict_get hs q.2.1 k.1 fun t=>.tok z x k.2.top)
  fun i h2 e=>(r2.int h2).elim fun tk e2=>e2.symm▸elim_is e
   (fun _ e=>elim_is e
    (fun _ e=>obind_is e fun l h1 e=>obind_is e fun j e1 e=>(r1.list x h1).elim fun a q=>q.elim fun vs q=>q.1.symm▸(q.2.2.2.get e).elim fun w k =>
     tail_any q.2.1.isList.typeIs slot_list_getitem.lookup (item_list q.2.1.isList q.2.2.1 (q.2.2.2.length▸e1) k.1 (.val z x k.2.top)) (sub_plain hs _ _))
    fun c h1 e=>cond_is e fun hc e=>(letter_item i.toNat e).elim fun k w =>
     have hi:(i.toNat:Int)=i:=Int.toNat_of_nonneg (of_decide_eq_true (and_is hc).2)
     have w':okc k=true∧Txt.item (txt 26) i=txt k∧(Txt.charAt (txt 26) i).isSome=true∧fitsSsize i=true:=hi▸w.2
     (r1.str h1).2.elim fun u e1=>e1.symm▸(Nat.eq_of_beq_eq_true (and_is hc).1).symm▸tail_any (T:="str") rfl PySem.F.slot_str_getitem.lookup (SB.getItem w'.2.2.2 w'.2.2.1 (.tok z x (w.1.symm▸⟨w'.1,_,congrArg (Value.str · _) w'.2.1⟩))) (sub_plain hs _ _))
   fun l h1 e=>obind_is e fun j e1 e=>(r1.tup h1).elim fun a q=>q.elim fun vs q=>q.1.symm▸(q.2.2.2.2.get e).elim fun w k =>
    have e1:seqIndex? i vs.length=some j:=q.2.2.2.2.length▸e1
    tail_any q.2.2.1.typeIs slot_tuple_getitem.lookup (getItem_tuple q.2.2.1 (idx_range q.2.2.2.1 e1).1 (idx_range q.2.2.2.1 e1).2 e1 (get_arr k.1) (.val z x k.2.top)) (sub_plain hs _ _)
end
theorem clip_plain (n:Nat) (i:Int):(if i<0 then max (i+n) 0 else min i (n:Int))=((clipAt n i:Nat):Int):=by
 rw [clipAt_cast]
 refine Decidable.byCases (p:=i<0) (fun q=>?_) fun q=>?_
 ·rw [if_pos q,if_pos q,Int.min_eq_left (Int.add_le_of_le_sub_right (by rw [Int.sub_self];exact Int.le_of_lt q)),Int.max_comm]
 ·rw [if_neg q,if_neg q,Int.max_eq_right (Int.le_min.mpr ⟨Int.not_lt.mp q,Int.natCast_nonneg n⟩)]
theorem adjust_plain (lo hi:Option Int) (n:Nat):Builtin.Slice.sliceAdjust lo hi 1 (n:Int)=(((lo.elim 0 (clipAt n):Nat):Int),((hi.elim n (clipAt n):Nat):Int)):=by
 cases lo <;> cases hi <;> first | rfl | exact congrArg (Prod.mk _) (clip_plain _ _) | exact congrArg (Prod.mk · _) (clip_plain _ _) | exact Prod.ext (clip_plain _ _) (clip_plain _ _)
theorem places_plain (a b:Nat):Builtin.Slice.slicePlaces (a:Int) (b:Int) 1=b - a:=by
 show (if (a:Int)<b then ((b:Int) - a - 1) / 1+1 else 0).toNat=b - a
 refine Decidable.byCases (p:=(a:Int)<b) (fun q=>?_) fun q=>?_
 ·rw [if_pos q,Int.ediv_one,Int.sub_add_cancel,Int.toNat_sub]
 ·rw [if_neg q,Nat.sub_eq_zero_of_le (Int.ofNat_le.mp (Int.not_lt.mp q))];rfl
section
variable {C:Cfg} {A:Around} {s:Shared}
theorem part_at {v:Value} {lo:Option Int} (p:IsPart v lo) {Q:Option Int→Shared→Prop} (h:Q lo s):wp C A (Builtin.Slice.slicePartIndex v) Q s:=by
 cases p with
 | none=>exact slicePart_none h
 | int i t=>exact slicePart_int h
theorem applied_plain {sl:Addr} {vl vu:Value} {lo hi:Option Int} {n:Nat} {Q:Int×Int×Nat→Shared→Prop} (hs:s.heap.IsSliceOf sl vl vu .none) (pl:IsPart vl lo) (pu:IsPart vu hi)
  (h:Q (((lo.elim 0 (clipAt n):Nat):Int),1,hi.elim n (clipAt n) - lo.elim 0 (clipAt n)) s):wp C A (Builtin.Slice.sliceApplied (.ref sl) (pure (n:Int))) Q s:=by
 obtain ⟨os,hos,hcs,hds⟩:=hs
 unfold Builtin.Slice.sliceApplied Builtin.Slice.sliceFields
 refine wpAny_bind (wpAny_bind (wpAny_field hos hds (x:=vl) rfl (wpAny_bind (wpAny_field hos hds (x:=vu) rfl (wpAny_bind (wpAny_field hos hds (x:=.none) rfl (wpAny_pure (wpAny_bind (slicePart_none (wpAny_bind (part_at pl (wpAny_bind (part_at pu (wpAny_bind (wpAny_pure ?_)))))))))))))))
 show wpAny _ _ (match Builtin.Slice.sliceAdjust lo hi 1 (n:Int) with | (lo,hi)=>pure (lo,(1:Int),Builtin.Slice.slicePlaces lo hi 1)) _ _ s
 rw [adjust_plain]
 refine wpAny_pure ?_
 rw [places_plain]
 exact h
theorem pick_tup (xs:List Value) (a k:Nat):((List.range k).filterMap fun (j:Nat)=>(List.toArray xs)[((a:Int)+(j:Int)*1).toNat]?).toArray=((xs.drop a).take k).toArray:=by
 refine congrArg List.toArray (Eq.trans ?_ ((List.filterMap_map ..).symm.trans (pick_run (List.toArray xs) a k)))
 refine congrArg (List.filterMap · (List.range k)) (funext fun j=>?_)
 rw [Int.mul_one]
 rfl
theorem cut_len {α:Type} (l:List α) (lo hi:Option Int):(cutL l lo hi).length≤l.length:=by
 unfold cutL
 exact Nat.le_trans (List.length_take_le' ..) (List.length_drop▸Nat.sub_le _ _)
theorem cut_all {α:Type} {l:List α} {lo hi:Option Int} (h1:lo.elim 0 (clipAt l.length)=0) (h2:hi.elim l.length (clipAt l.length) - lo.elim 0 (clipAt l.length)=l.length):cutL l lo hi=l:=by
 unfold cutL
 rw [h2,h1,List.drop_zero,List.take_length]
theorem slice_tup {t sl:Addr} {vs:List Value} {vl vu:Value} {lo hi:Option Int} {Q:Value→Shared→Prop} (ht:s.heap.IsTuple t (List.toArray vs)) (hn:vs.length≤cap) (hs:s.heap.IsSliceOf sl vl vu .none) (pl:IsPart vl lo) (pu:IsPart vu hi)
  (h1:lo.elim 0 (clipAt vs.length)=0→hi.elim vs.length (clipAt vs.length) - lo.elim 0 (clipAt vs.length)=vs.length→Q (.ref t) s)
  (h:Q (.ref s.heap.objs.size) { s with heap:=s.heap.push { cls:=.type "tuple",data:=.seq (List.toArray (cutL vs lo hi)) } }):wp C A (getItem (.ref t) (.ref sl)) Q s:=by
 have hok:sizeOk (.seq (List.toArray (cutL vs lo hi))):=Nat.le_trans (cut_len vs lo hi) (Nat.le_trans hn cap_line)
 have ht':IsTup s.heap t (List.toArray vs):=ht
 have hTs:s.TypeIs (.ref sl) "slice":=hs.elim fun os q=>⟨os,q.1,q.2.1⟩
 show wpAny C.M A (getItem (.ref t) (.ref sl)) Q F0 s
 unfold getItem
 first | with_reducible refine wpAny_holding ?_ | skip
 first | refine wpAny_bind (wpAny_pure ?_) | skip
 refine wpAny_bind (wpAny_sequenceKey ht'.typeIs (by decide) ?_)
 refine wpAny_bind (wpAny_callSpecial?_slot (name:=Str.ofString "__getitem__") ht'.typeIs slot_tuple_getitem
  (wpAny_call_entry slot_tuple_getitem ht'.typeIs entry_tuple_getitem ?_ (args_tuple_getitem _ _)))
 show wpAny _ _ (Builtin.Tuple.tupleItemsOf (.ref t)>>=_) _ _ s
 refine wpAny_bind (tupleItemsOf_ ht' (wpAny_bind (wpAny_typeOf hTs ?_)))
 rw [if_pos (by decide)]
 refine wpAny_bind (applied_plain (n:=vs.length) hs pl pu ?_)
 dsimp only
 refine Decidable.byCases (p:=((((lo.elim 0 (clipAt vs.length):Nat):Int) == 0&&(1:Int) == 1&&(hi.elim vs.length (clipAt vs.length) - lo.elim 0 (clipAt vs.length)) == (List.toArray vs).size)=true)) (fun hc=>?_) fun hc=>?_
 ·rw [if_pos hc]
  refine wpAny_bind (wpAny_bind (wpAny_typeOf ht'.typeIs (wpAny_pure ?_)))
  rw [if_pos (by decide)]
  exact wpAny_bind (wpAny_rule (wpAny_pure ⟨_,rfl,wpAny_pure (h1 (Int.ofNat.inj (eq_of_beq (and_is (and_is hc).1).1)) (eq_of_beq (and_is hc).2))⟩))
 ·rw [if_neg hc,pick_tup]
  exact wpAny_bind (m:=Builtin.Tuple.tupleExact _) (wpAny_newObj_type (wpAny_pure ⟨_,rfl,wpAny_pure h⟩) hok)
end
noncomputable def hide (k:Nat) (own:Addr→Nat):Addr→Nat:=fun a=>cond (Nat.beq (own a) k) 0 (own a)
theorem hide_no {k:Nat} {own:Addr→Nat} {a:Addr} (h:own a≠k):hide k own a=own a:=cond_f (Bool.eq_false_iff.mpr fun q=>h (Nat.eq_of_beq_eq_true q))
theorem hide_0 {k:Nat} {own:Addr→Nat} {a:Addr} (h:own a=k):hide k own a=0:=cond_t (h▸Nat.beq_refl _)
def Fresh (p:Pl):Prop:=∀ a,p.own a≠0→Has p.h a
structure Adv (k:Nat) (p p':Pl):Prop where
 after:After p.s p'.s
 stp:Stp (·=k) p p'
 la:p'.la=p.la
 fresh:Fresh p'
section
variable {C:Cfg} {F:Fr} {A:Around} {S:Nat→Prop} {p p':Pl} {st st':St} {s:Shared} {top:Nat}
theorem Good.adv (ok:F.Ok top) {k:Nat} (hk:top<k) (x:Good C F st p) (a:Adv k p p'):Good C F st p' :=
 x.quiet a.stp a.la (fun e=>ok.t1 (e▸hk)) (fun e=>Nat.not_lt.mpr ok.tl (e▸hk)) (fun e=>Nat.not_lt.mpr ok.tf (e▸hk)) (fun e=>Nat.not_lt.mpr ok.tc (e▸hk)) a.fresh
theorem Now.adv (ok:F.Ok top) {k:Nat} (hk:top<k) (z:¬ S 0) (hS:S k) (x:Good C F st p) (a:Adv k p p'):Now C F S p st p':=⟨x.adv ok hk a,⟨a.after,a.stp.mono z fun _ e=>e▸hS,pre_of a.la⟩⟩
structure It (C:Cfg) (A:Around) (k:Nat) (xs:List AV) (tg:PySem.Expr) (it:Value) (St:Nat→Pl→Prop):Prop where
 step:∀ {i p p' S},St i p→Stp S p p'→¬ S k→St i p'
 item:∀ {i p x},xs[i]?=some x→Fresh p→St i p→wp C A (pyNext it) (fun r s'=>∃ v,r=some v ∧
  wp C A (letOwnedTupleGo tg it v) (fun _ s''=>Adv k p ⟨p.own,p.la,s''⟩∧Rep C ⟨p.own,p.la,s''⟩ x v∧St (i+1) ⟨p.own,p.la,s''⟩) s') p.s
 done:∀ {p},Fresh p→St xs.length p→wp C A (pyNext it) (fun r s'=>r=none∧Adv k p ⟨hide k p.own,p.la,s'⟩) p.s
 self:∀ {i p},St i p→wp C A (pyIter it) (fun r s'=>r=it∧s'=p.s) p.s
structure ItSt (k:Nat) (fp wr:List Addr) (St0:Nat→Heap→Prop) (B:Pl→Prop) (i:Nat) (p:Pl):Prop where
 st:St0 i p.h
 fp:∀ b∈fp,p.own b=k∨p.own b=0
 wr:∀ b∈wr,p.own b=k
 b:B p
section
variable {k i:Nat} {fp wr:List Addr} {St0:Nat→Heap→Prop} {B:Pl→Prop}
theorem ItSt.step (sub:∀ b∈wr,b∈fp) (fr:∀ i h h',St0 i h→(∀ b∈fp,∀ o,h.get? b=some o→h'.get? b=some o)→St0 i h') (hfp:∀ i h,St0 i h→∀ b∈fp,Has h b) (hB:∀ {S p p'},B p→Stp S p p'→B p')
  (x:ItSt k fp wr St0 B i p) (g:Stp S p p') (n:¬ S k):ItSt k fp wr St0 B i p' :=
 have nz:∀ b∈fp,¬ S (p.own b):=fun b hb=>(x.fp b hb).elim (fun e=>e.symm▸n) fun e=>e.symm▸g.z
 have ow:∀ b∈fp,p'.own b=p.own b:=fun b hb=>(hfp _ _ x.st b hb).elim fun o e=>(g.k b (nz b hb) o e).2
 ⟨fr _ _ _ x.st fun b hb o e=>(g.k b (nz b hb) o e).1,fun b hb=>(ow b hb).symm▸x.fp b hb,fun b hb=>(ow b (sub b hb)).trans (x.wr b hb),hB x.b g⟩
theorem ItSt.stp (x:ItSt k fp wr St0 B i p) (hk:k≠0) {s':Shared} (kp:∀ b o,b∉wr→p.h.get? b=some o→s'.heap.get? b=some o):Stp (·=k) p ⟨p.own,p.la,s'⟩ :=
 ⟨fun b n o e=>⟨kp b o (fun h=>n (x.wr b h)) e,rfl⟩,fun q=>hk q.symm⟩
theorem ItSt.adv (x:ItSt k fp wr St0 B i p) (hk:k≠0) (fr:Fresh p) {s':Shared} (af:After p.s s') (kp:∀ b o,b∉wr→p.h.get? b=some o→s'.heap.get? b=some o) (hw:∀ b∈wr,Has s'.heap b):Adv k p ⟨p.own,p.la,s'⟩ :=
 ⟨af,x.stp hk kp,rfl,fun b e=>Classical.byCases (p:=b∈wr) (hw b) fun q=>(fr b e).elim fun o e=>⟨o,kp b o q e⟩⟩
theorem ItSt.fin (x:ItSt k fp wr St0 B i p) (hk:k≠0) (fr:Fresh p) {s':Shared} (af:After p.s s') (kp:∀ b o,b∉wr→p.h.get? b=some o→s'.heap.get? b=some o):Adv k p ⟨hide k p.own,p.la,s'⟩ :=
 ⟨af,⟨fun b n o e=>⟨kp b o (fun h=>n (x.wr b h)) e,hide_no n⟩,fun q=>hk q.symm⟩,rfl,fun b e =>
  have nk:p.own b≠k:=fun q=>e (hide_0 q)
  (fr b (hide_no nk▸e)).elim fun o e=>⟨o,kp b o (fun h=>nk (x.wr b h)) e⟩⟩
end
noncomputable def ownedKinds:List String:=["enumerate","zip","dict_itemiterator","dict_reverseitemiterator","odict_iterator","itertools.zip_longest","itertools.pairwise"]
theorem letGo_two {I:Addr} {v:Value} {o:Obj} {n:String} {Q:Unit→Shared→Prop} (ho:s.heap.get? I=some o) (hc:o.cls=.type n) (hn:ownedKinds.contains n=false) (h:Q () s) :
  wp C A (match (Value.ref I,v) with
   | (.ref r,.ref a)=>do
    let o ← load r
    match o.cls,o.data with
    | .type n,.fields vs =>
     if ownedKinds.contains n&&vs[0]? == some (rawInt a) then
      rule "for.unpacks-the-owned-tuple"
      updateField r 0 .none
    | _,_=>pure ()
   | _=>pure ()) Q s:=by
 cases v <;> try exact wpAny_pure h
 refine wpAny_bind (wpAny_load ho ?_)
 rw [hc]
 cases o.data <;> try exact wpAny_pure h
 show wpAny _ _ (if (ownedKinds.contains n&&_)=true then _ else _) _ _ s
 rw [hn]
 exact wpAny_pure h
theorem letGo_quiet {tg:PySem.Expr} {I:Addr} {v:Value} {o:Obj} {n:String} {Q:Unit→Shared→Prop} (ho:s.heap.get? I=some o) (hc:o.cls=.type n) (hn:ownedKinds.contains n=false) (h:Q () s) :
  wp C A (letOwnedTupleGo tg (.ref I) v) Q s:=by
 cases tg <;> first | exact wpAny_pure h | exact letGo_two ho hc hn h
theorem It.ofWalks {k I:Nat} {fp:List Addr} {xs:List AV} {P:Nat→Value→Prop} {St0:Nat→Heap→Prop} {B:Pl→Prop} (tg:PySem.Expr) {n:Nat} (hn:n=xs.length) (W:Walks C.prog C.w A I fp [I] n P St0)
  (hI:∀ i h,St0 i h→∃ o n,h.get? I=some o∧o.cls=.type n∧ownedKinds.contains n=false)
  (hfp:∀ i h,St0 i h→∀ b∈fp,Has h b) (hB:∀ {S p p'},B p→Stp S p p'→B p')
  (hP:∀ {i p x v},xs[i]?=some x→P i v→B p→Rep C p x v) (hk:k≠0):It C A k xs tg (.ref I) (ItSt k fp [I] St0 B) where
 step:=ItSt.step W.sub W.frame hfp hB
 item:=fun {i p x} hx fr y=>W.item i p.s _ F0 (hn.symm▸(List.getElem?_eq_some_iff.mp hx).1) y.st fun v h' tk hv hst kp=>⟨v,rfl,(hI _ _ hst).elim fun o q=>q.elim fun n q =>
  have g:=y.stp (s':={ p.s with heap:=h',toks:=tk }) hk kp
  letGo_quiet (s:={ p.s with heap:=h',toks:=tk }) q.1 q.2.1 q.2.2 ⟨y.adv hk fr ⟨_,_,rfl⟩ kp fun b hb=>hfp _ _ hst b (W.sub b hb),hP hx hv (hB y.b g),⟨hst,y.fp,y.wr,hB y.b g⟩⟩⟩
 done:=fun {p} fr y=>W.done p.s _ F0 (hn.symm▸y.st) fun h' tk kp=>⟨rfl,y.fin hk fr ⟨_,_,rfl⟩ kp⟩
 self:=fun {i p} y=>W.self i p.s _ F0 y.st ⟨rfl,rfl⟩
theorem all2 {α:Type} {P:α→Prop} {a b:α} (x:P a) (y:P b):∀ c∈[a,b],P c:=fun c h=>(List.mem_cons.mp h).elim (fun e=>e▸x) fun h=>List.mem_singleton.mp h▸y
theorem all1 {α:Type} {P:α→Prop} {a:α} (x:P a):∀ c∈[a],P c:=fun c h=>List.mem_singleton.mp h▸x
section
variable (hh:A.handled=none) {k I ax:Nat} {xs:List AV} {vs:List Value} (tg:PySem.Expr)
include hh
theorem It.list (hl:vs.length=xs.length) (hne:ax≠I) (hk:k≠0):It C A k xs tg (.ref I) (ItSt k [I,ax] [I] (fun i h=>h.IsListIter I ax i∧h.IsList ax vs.toArray) fun p=>Reps C p xs vs) :=
 It.ofWalks (P:=fun i v=>vs.toArray[i]?=some v) tg hl (Walks.list (prog:=C.prog) (w:=C.w) hh I ax hne vs.toArray) (fun i h q=>q.1.elim fun o e=>⟨o,_,e.1,e.2.1,by decide⟩) (fun i h q=>all2 (q.1.elim fun o e=>⟨o,e.1⟩) (q.2.elim fun o e=>⟨o,e.1⟩)) (fun d g=>d.step g _ _)
  (fun {i p x v} hx hp d=>(Reps.get d hx).elim fun u q=>(Option.some.inj (q.1.symm.trans ((List.getElem?_toArray ..).symm.trans hp)):u=v)▸q.2) hk
theorem It.tuple (hl:vs.length=xs.length) (hne:ax≠I) (hk:k≠0):It C A k xs tg (.ref I) (ItSt k [I,ax] [I] (fun i h=>h.IsTupleIter I ax i∧h.IsTuple ax vs.toArray) fun p=>Reps C p xs vs) :=
 It.ofWalks (P:=fun i v=>vs.toArray[i]?=some v) tg hl (Walks.tuple (prog:=C.prog) (w:=C.w) hh I ax hne vs.toArray) (fun i h q=>q.1.elim fun o e=>⟨o,_,e.1,e.2.1,by decide⟩) (fun i h q=>all2 (q.1.elim fun o e=>⟨o,e.1⟩) (q.2.elim fun o e=>⟨o,e.1⟩)) (fun d g=>d.step g _ _)
  (fun {i p x v} hx hp d=>(Reps.get d hx).elim fun u q=>(Option.some.inj (q.1.symm.trans ((List.getElem?_toArray ..).symm.trans hp)):u=v)▸q.2) hk
noncomputable abbrev rngL (n:Nat):List AV:=(List.range n).map fun (i:Nat)=>AV.int (i:Int)
theorem It.range {n:Nat} (hk:k≠0):It C A k (rngL n) tg (.ref I) (ItSt k [I] [I] (fun i h=>PySem.IsRangeIter h I (0+(i:Nat)*1) ((n:Int) - (i:Nat)) 1) fun _=>True) :=
 It.ofWalks (P:=fun i v=>∃ t,v=Value.int (0+(i:Nat)*1) t) tg ((List.length_map _).trans List.length_range).symm (Walks.range (prog:=C.prog) (w:=C.w) hh I 0 1 n) (fun i h e=>⟨_,_,e,rfl,by decide⟩) (fun i h e=>all1 ⟨_,e⟩) (fun d _=>d)
  (fun {i p x v} hx hp d=>by
   obtain ⟨t,rfl⟩:=hp
   rw [List.getElem?_map] at hx
   refine omap_is hx fun j hj e=>?_
   have hi:i<n:=Nat.lt_of_lt_of_le (List.getElem?_eq_some_iff.mp hj).1 (Nat.le_of_eq List.length_range)
   rw [← e,Option.some.inj (hj.symm.trans (List.getElem?_range hi))]
   exact ⟨t,by rw [Int.zero_add,Int.mul_one]⟩) hk
end
end
section
variable {C:Cfg} {F:Fr} {A:Around} {S:Nat→Prop} {p p':Pl} {st st':St} {s:Shared} {top:Nat}
theorem It.ofWalksT {k I n:Nat} {fp wr:List Addr} {xs:List AV} {Pt:Nat→Array Value→Prop} {St0:Nat→Heap→Prop} {Mid:Nat→Addr→Heap→Prop} {B:Pl→Prop} (hn:n=xs.length) (W:WalksT C.prog C.w A I fp wr n Pt St0 Mid)
  (hfp:∀ i h,St0 i h→∀ b∈fp,Has h b) (hB:∀ {S p p'},B p→Stp S p p'→B p')
  (hP:∀ {i x T vals} {q:Pl},xs[i]?=some x→Pt i vals→B q→q.own T=0→q.h.IsTuple T vals→Rep C q x (.ref T)) (hk:k≠0) (elts:List PySem.Expr) (kk:Nat) (pos:Pos):It C A k xs (.Tuple elts kk pos) (.ref I) (ItSt k fp wr St0 B) where
 step:=ItSt.step W.sub W.frame hfp hB
 item:=fun {i p x} hx fr y=>W.item i p.s _ F0 (hn.symm▸(List.getElem?_eq_some_iff.mp hx).1) y.st fun T vals h' tk hp hT ht hm kp=>⟨_,rfl,W.go elts kk pos i T { p.s with heap:=h',toks:=tk } _ F0 hm fun h'' hst kp2 =>
  have kp3:∀ b o,b∉wr→p.h.get? b=some o→h''.get? b=some o:=fun b o n e=>kp2 b o n (kp b o n e)
  have g:=y.stp (s':={ p.s with heap:=h'',toks:=tk }) hk kp3
  have T0:p.own T=0:=Classical.byContradiction fun q=>(fr T q).elim fun o e=>absurd (Heap.lt_size e) (Nat.not_lt.mpr hT)
  ⟨y.adv hk fr ⟨_,_,rfl⟩ kp3 fun b hb=>hfp _ _ hst b (W.sub b hb),hP hx hp (hB y.b g) T0 (isTuple_at ht fun o e=>kp2 T o (W.apart _ _ _ hm) e),⟨hst,y.fp,y.wr,hB y.b g⟩⟩⟩
 done:=fun {p} fr y=>W.done p.s _ F0 (hn.symm▸y.st) fun h' tk kp=>⟨rfl,y.fin hk fr ⟨_,_,rfl⟩ kp⟩
 self:=fun {i p} y=>W.self i p.s _ F0 y.st ⟨rfl,rfl⟩
def ZSt (z TI TO i1 i2 l1 l2:Addr) (vs us:List Value) (i:Nat) (h:Heap):Prop:=IsZip h z TI TO .none∧IsPair h TI (.ref i1) (.ref i2)∧(∃ a b,IsPair h TO a b)∧h.IsListIter i1 l1 i∧h.IsListIter i2 l2 i∧h.IsList l1 (List.toArray vs)∧h.IsList l2 (List.toArray us)
noncomputable abbrev zipL (xs ys:List AV):List AV:=(xs.zip ys).map fun p=>.tup [p.1,p.2]
theorem allc {α:Type} {P:α→Prop} {a:α} {l:List α} (x:P a) (y:∀ c∈l,P c):∀ c∈a::l,P c:=fun c h=>(List.mem_cons.mp h).elim (fun e=>e▸x) (y c)
theorem alln {α:Type} {P:α→Prop}:∀ c∈([]:List α),P c:=fun c h=>nomatch h
theorem It.zip (hh:A.handled=none) {k z TI TO i1 i2 l1 l2:Nat} {xs ys:List AV} {vs us:List Value} (hl:vs.length=xs.length) (hl':us.length=ys.length) (D:ZipApart z TI TO i1 i2 l1 l2) (hk:k≠0) (elts:List PySem.Expr) (kk:Nat) (pos:Pos) :
  It C A k (zipL xs ys) (.Tuple elts kk pos) (.ref z) (ItSt k [z,TI,TO,i1,i2,l1,l2] [z,TO,i1,i2] (ZSt z TI TO i1 i2 l1 l2 vs us) fun p=>Reps C p xs vs∧Reps C p ys us) :=
 It.ofWalksT (by rw [List.length_map,List.length_zip,← hl,← hl'];rfl) (WalksT.zip2 (prog:=C.prog) (w:=C.w) hh z TI TO i1 i2 l1 l2 D (List.toArray vs) (List.toArray us))
  (fun i h q=>allc ⟨_,q.1⟩ (allc ⟨_,q.2.1⟩ (allc (q.2.2.1.elim fun a e=>e.elim fun b e=>⟨_,e⟩) (allc (q.2.2.2.1.elim fun o e=>⟨o,e.1⟩) (allc (q.2.2.2.2.1.elim fun o e=>⟨o,e.1⟩) (allc (q.2.2.2.2.2.1.elim fun o e=>⟨o,e.1⟩) (allc (q.2.2.2.2.2.2.elim fun o e=>⟨o,e.1⟩) alln)))))))
  (fun d g=>⟨d.1.step g _ _,d.2.step g _ _⟩)
  (fun {i x T vals q} hx hp d o t=>by
   rw [List.getElem?_map] at hx
   refine omap_is hx fun z hz e=>?_
   have hz:=List.getElem?_zip_eq_some.mp hz
   obtain ⟨v,w,hv,hw,rfl⟩:=hp
   refine (d.1.get hz.1).elim fun v' k1=>(d.2.get hz.2).elim fun w' k2=>e▸⟨T,[v',w'],rfl,o,?_,(by decide:2≤2 ^ 20),⟨v',[w'],rfl,k1.2,.one k2.2⟩⟩
   rw [Option.some.inj (k1.1.symm.trans ((List.getElem?_toArray ..).symm.trans hv)),Option.some.inj (k2.1.symm.trans ((List.getElem?_toArray ..).symm.trans hw))]
   exact t) hk elts kk pos
inductive IterV (C:Cfg) (k:Nat) (p:Pl):AV→Value→Prop
 | rep {d:AV} {v:Value} (z:isZp d=false) (r:Rep C p d v):IterV C k p d v
 | rng {n:Int} {r:Addr} {t u w:Tok} (h:PySem.IsRange p.h r 0 n 1 t u w) (h0:0≤n) (h1:n<1000000):IterV C k p (.rng n) (.ref r)
 | zip {z TI TO i1 i2 l1 l2:Addr} {xs ys:List AV} {vs us:List Value} (D:ZipApart z TI TO i1 i2 l1 l2) (y:ItSt k [z,TI,TO,i1,i2,l1,l2] [z,TO,i1,i2] (ZSt z TI TO i1 i2 l1 l2 vs us) (fun p=>Reps C p xs vs∧Reps C p ys us) 0 p):IterV C k p (.zp (zipL xs ys)) (.ref z)
noncomputable def isTupT (e:PySem.Expr):Bool:=Nat.beq e.ctorIdx 25
theorem tup_is {e:PySem.Expr} (h:isTupT e=true) {P:PySem.Expr→Prop} (k:∀ es n pos,P (.Tuple es n pos)):P e:=PySem.Expr.Tuple.elim (motive_1:=P) e (Nat.eq_of_beq_eq_true h) k
theorem rangeSize_nat (n:Int) (h:0≤n):Builtin.Range.rangeSize 0 n 1=n:=by
 unfold Builtin.Range.rangeSize
 rw [if_pos (by decide)]
 refine Decidable.byCases (p:=(0:Int)<n) (fun q=>?_) fun q=>?_
 ·rw [if_pos q,Int.sub_zero,Int.ediv_one,Int.sub_add_cancel]
 ·rw [if_neg q];exact Int.le_antisymm h (Int.not_lt.mp q)
theorem new_iter (ok:F.Ok top) (x:Good C F st p) {o:Obj} (ho:o.isFreed=false):Now C F (top<·) p st ⟨lab p.own p.h.objs.size (top+1),p.la,{ p.s with heap:=p.h.push o }⟩ :=
 have g:=x.mark (s':={ p.s with heap:=p.h.push o }) (k:=top+1) ok (fun o e=>absurd e (get_new p.h o)) (fun b _=>Kp.push p.h o b) fun _=>⟨o,Heap.get?_push_size _ ho⟩
 ⟨g.2,⟨_,_,rfl⟩,g.1,pre_nil⟩
def Made (C:Cfg) (A:Around) (F:Fr) (top:Nat) (p:Pl) (st:St) (xs:List AV) (tg:PySem.Expr) (it:Value) (s':Shared):Prop:=∃ own' St0,It C A (top+1) xs tg it St0∧Now C F (top<·) p st ⟨own',p.la,s'⟩∧St0 0 ⟨own',p.la,s'⟩
theorem items_of {d:AV} {xs:List AV} {v:Value} (hd:isZp d=false) (r:Rep C p d v) (e:itemsOf d=some xs):Rep C p (.lst xs) v∨Rep C p (.tup xs) v:=by
 cases d <;> first | exact nn e | exact .inr (Option.some.inj e▸r) | exact .inl (Option.some.inj e▸r) | exact r.elim
section
variable (hh:A.handled=none) (ok:F.Ok top) {tg:PySem.Expr} (x:Good C F st p)
include hh ok x
theorem iter_lst {xs:List AV} {v:Value} (r:Rep C p (.lst xs) v):wp C A (pyIter v) (Made C A F top p st xs tg) p.s:=by
 obtain ⟨a,vs,rfl,o,t,_,r⟩:=r
 have n:=new_iter (o:={ cls:=.type "list_iterator",data:=.fields #[.ref a,.int 0 0] }) ok x rfl
 have ne:a≠p.h.objs.size:=(plain_has t).elim fun o e=>ne_new e
 exact wpAny_pyIter_list t.isList ⟨_,_,It.list hh tg r.length ne (Nat.succ_ne_zero top),n,⟨⟨_,Heap.get?_push_size _ rfl,rfl,rfl⟩,t.isList.push _⟩,all2 (.inl lab_self) (.inr ((lab_ne ne).trans o)),all1 lab_self,r.step n.go.stp _ _⟩
theorem iter_tup {xs:List AV} {v:Value} (r:Rep C p (.tup xs) v):wp C A (pyIter v) (Made C A F top p st xs tg) p.s:=by
 obtain ⟨a,vs,rfl,o,t,_,r⟩:=r
 have n:=new_iter (o:={ cls:=.type "tuple_iterator",data:=.fields #[.ref a,.int 0 0] }) ok x rfl
 have ne:a≠p.h.objs.size:=(isTuple_has t).elim fun o e=>ne_new e
 exact wpAny_pyIter_tuple t ⟨_,_,It.tuple hh tg r.length ne (Nat.succ_ne_zero top),n,⟨⟨_,Heap.get?_push_size _ rfl,rfl,rfl⟩,t.push _⟩,all2 (.inl lab_self) (.inr ((lab_ne ne).trans o)),all1 lab_self,r.step n.go.stp _ _⟩
theorem iter_rng {n:Int} {r:Addr} {t u w:Tok} (hr:PySem.IsRange p.h r 0 n 1 t u w) (h0:0≤n) (h1:n<1000000):wp C A (pyIter (.ref r)) (Made C A F top p st (rngL n.toNat) tg) p.s:=by
 have sz:=rangeSize_nat n h0
 refine wpAny_pyIter_range hr ?_ ⟨_,_,It.range hh tg (I:=p.h.objs.size) (n:=n.toNat) (Nat.succ_ne_zero top),new_iter ok x rfl,?_,all1 (.inl lab_self),all1 lab_self,trivial⟩
 ·unfold Builtin.Range.small Builtin.Range.rangeFitsLong
  rw [sz]
  simp
  lia
 ·rw [sz,show ((n.toNat:Nat):Int) - ((0:Nat):Int)=n from (Int.sub_zero _).trans (Int.toNat_of_nonneg h0)]
  exact Heap.get?_push_size _ rfl
theorem iter_make {d:AV} {v:Value} {xs:List AV} (iv:IterV C (top+1) p d v) (e:itemsOf d=some xs) (ht:isZp d=false∨isTupT tg=true):wp C A (pyIter v) (Made C A F top p st xs tg) p.s:=match iv with
 | .rep z r=>(items_of z r e).elim (iter_lst hh ok x) (iter_tup hh ok x)
 | .rng h h0 h1=>Option.some.inj e▸iter_rng hh ok x h h0 h1
 | .zip D y=>Option.some.inj e▸tup_is (ht.resolve_left fun h=>nomatch h) (P:=fun tg=>wp C A (pyIter _) (Made C A F top p st _ tg) p.s) fun elts kk pos =>
  wpAny_pyIter_zip y.st.1 ⟨p.own,_,It.zip hh y.b.1.length y.b.2.length D (Nat.succ_ne_zero top) elts kk pos,.refl (Nat.not_lt_zero top) x,y⟩
end
end
section
variable {C:Cfg} {F:Fr} {A:Around} {S:Nat→Prop} {p p':Pl} {st st':St} {s:Shared} {top:Nat}
theorem Fr.Ok.hk (ok:F.Ok top):¬ SE F (top+1) (top+1):=or3 (fun e=>ok.t1 (e▸Nat.lt_succ_self top)) (fun e=>Nat.not_lt.mpr ok.tl (e▸Nat.lt_succ_self top)) (Nat.lt_irrefl _)
theorem Fr.Ok.sk (ok:F.Ok top):¬ SS F (top+1) (top+1):=or3 ok.hk (fun e=>Nat.not_lt.mpr ok.tf (e▸Nat.lt_succ_self top)) (fun e=>Nat.not_lt.mpr ok.tc (e▸Nat.lt_succ_self top))
def TT {α:Type} (q:Pl) (u:α):Prop:=True
def RetR (C:Cfg) (fl:Fl) (q:Pl) (f:Flow):Prop:=match fl with
 | .next=>f=.next
 | .ret d=>∃ v,f=.ret v∧RepT C q d v
def LoopI {α:Type} (C:Cfg) (F:Fr) (S:Nat→Prop) (p:Pl) (loop:List AV→St→Option α) (r:α) (xs:List AV) (St0:Nat→Pl→Prop) (m:Nat) (s':Shared):Prop:=∃ i st1,i+m=xs.length∧loop (xs.drop i) st1=some r∧Out C F S p st1 (fun q (_:Unit)=>St0 i q) () s'
theorem drop_nil {xs:List AV} {i m:Nat} (h:i+m=xs.length) (e:xs.drop i=[]):i=xs.length:=Nat.le_antisymm (Nat.le.intro h) (List.drop_eq_nil_iff.mp e)
theorem drop_cons {xs r:List AV} {d:AV} {i m:Nat} (h:i+m=xs.length) (e:xs.drop i=d::r):xs[i]?=some d∧xs.drop (i+1)=r∧∃ k,k<m∧i+1+k=xs.length:=by
 refine ⟨?_,?_,?_⟩
 ·rw [← List.head?_drop,e];rfl
 ·rw [← List.tail_drop,e];rfl
 ·cases m with
  | zero=>rw [List.drop_eq_nil_of_le (show xs.length≤i from Nat.le_of_eq h.symm)] at e;cases e
  | succ k=>exact ⟨k,Nat.lt_succ_self k,(Nat.add_right_comm i 1 k).trans h⟩
theorem noE {α:Type} {t:Sem α} {Q:α→Shared→Prop} {E:Value→Shared→Prop} (h:wp C A t Q s):wpAny C.M A t Q E s:=wpAny_mono h (fun _ _ x=>x) fun _ _ f=>f.elim
theorem wp.mono {α:Type} {t:Sem α} {Q R:α→Shared→Prop} {E:Value→Shared→Prop} (h:wp C A t Q s) (k:∀ v s',Q v s'→R v s'):wpAny C.M A t R E s:=wpAny_mono h k fun _ _ f=>f.elim
theorem seqE {α:Type} {t:Sem α} {R:Pl→α→Prop} {Q:α→Shared→Prop} {E:Value→Shared→Prop} (h:wp C A t (Out C F S p st' R) s) (k:∀ v p',Now C F S p st' p'→R p' v→Q v p'.s):wpAny C.M A t Q E s:=noE (seq h k)
section
variable {xs:List AV} {tg:PySem.Expr} {it:Value} {St0:Nat→Pl→Prop} {t:Tgt} {body:St→Option (Fl×St)} {stmts:List Stmt} {fl:Fl}
def ForT (C:Cfg) (F:Fr) (top:Nat) (p:Pl) (t:Tgt) (body:St→Option (Fl×St)) (r:List AV) (fl:Fl) (st':St) (St0:Nat→Pl→Prop) (i:Nat) (f:Flow) (s':Shared):Prop :=
 (f=.next∧∃ st3,loopF t body r st3=some (fl,st')∧Out C F (SS F top) p st3 (fun q (_:Unit)=>St0 (i+1) q) () s')∨∃ v,f=.ret v∧Out C F (SS F top) p st' (RetR C fl) f s'
theorem for_body (ok:F.Ok top) (W:It C A (top+1) xs tg it St0) {st1 st3:St} {i:Nat} {r:List AV} {fl1:Fl} {p1:Pl} (n:Now C F (SS F top) p st1 p1) (hst:St0 (i+1) p1)
  (h:wp C A (execs stmts F.env) (Out C F (SS F (top+1)) p1 st3 (RetR C fl1)) p1.s) (e:flV fl1 st3 (loopF t body r)=some (fl,st')):wp C A (execs stmts F.env) (ForT C F top p t body r fl st' St0 i) p1.s :=
 seq h fun f p2 n2 hf =>
  have n2':=n.trans (n2.mono ok.s0 fun _=>SS.up)
  have hs:=W.step hst n2.go.stp ok.sk
  match fl1,hf,e with
  | .next,hf,e=>.inl ⟨hf,st3,e,_,_,n2',hs⟩
  | .ret d,hf,e=>.inr (hf.elim fun v k=>⟨v,k.1,ret_is (Q:=fun fl st'=>Out C F (SS F top) p st' (RetR C fl) f p2.s) e ⟨_,_,n2',v,k⟩⟩)
theorem for_turn (ok:F.Ok top) (W:It C A (top+1) xs tg it St0)
  (hA:∀ x st1 st2 q v,bindT t x st1=some st2→Good C F st1 q→Rep C q x v→wp C A (assign tg F.env v) (Out C F (SS F (top+1)) q st2 TT) q.s)
  (hB:∀ st1 fl st2 q,body st1=some (fl,st2)→Good C F st1 q→wp C A (execs stmts F.env) (Out C F (SS F (top+1)) q st2 (RetR C fl)) q.s)
  {st1:St} {i:Nat} {d:AV} {r:List AV} {p1:Pl} (n:Now C F (SS F top) p st1 p1) (hst:St0 i p1) (hd:xs[i]?=some d) (e:loopF t body (d::r) st1=some (fl,st')) :
  wp C A (pyNext it) (fun q s'=>∃ v,q=some v∧wp C A (letOwnedTupleGo tg it v) (fun _ s'=>wp C A (assign tg F.env v) (fun _ s'=>wp C A (execs stmts F.env) (ForT C F top p t body r fl st' St0 i) s') s') s') p1.s :=
 obind_is e fun st2 b1 e=>bnd_is e fun fl1 st3 b2 e=>(W.item hd n.good.fresh hst).mono fun q s' h=>h.elim fun v h=>⟨v,h.1,h.2.mono fun _ s' h =>
  have n1:=n.trans (.adv ok (Nat.lt_succ_self top) ok.s0 (.inl (.inr (.inr (Nat.lt_succ_self top)))) n.good h.1)
  seq (hA d st1 st2 ⟨p1.own,p1.la,s'⟩ v b1 n1.good h.2.1) fun _ p2 n2 _=>for_body ok W (n1.trans (n2.mono ok.s0 fun _=>SS.up)) (W.step h.2.2 n2.go.stp ok.sk) (hB st2 fl1 st3 p2 b2 n2.good) e⟩
theorem for_any {R:Result→Shared→Prop} {env:Env} (I:Nat→Shared→Prop) (turn:∀ n s,I n s→wp C A (pyNext it) (fun q s'=>(q=none∧R (.ok .next) s')∨∃ v,q=some v ∧
   wp C A (letOwnedTupleGo tg it v) (fun _ s'=>wp C A (assign tg env v) (fun _ s'=>wp C A (execs stmts env) (fun f s'=>(f=.next∧∃ m,m<n∧I m s')∨∃ v,f=.ret v∧R (.ok (.ret v)) s') s') s') s') s) (n:Nat) (h:I n s) :
  codeAny C.M A (.forLoop tg it stmts [] env) R s :=
 codeAny_forLoop_any I (fun n s h=>(turn n s h).mono fun q s' h=>h.elim (fun h=>h.1.symm▸wpAny_execs_nil h.2) fun h=>h.elim fun v h=>h.1.symm▸h.2.mono fun _ s' h=>h.mono fun _ s' h=>h.mono fun f s' h=>h.elim (fun h=>h.1.symm▸h.2) fun h=>h.elim fun v h=>h.1.symm▸h.2) n h
theorem for_loop (ok:F.Ok top) (W:It C A (top+1) xs tg it St0)
  (hA:∀ x st1 st2 q v,bindT t x st1=some st2→Good C F st1 q→Rep C q x v→wp C A (assign tg F.env v) (Out C F (SS F (top+1)) q st2 TT) q.s)
  (hB:∀ st1 fl st2 q,body st1=some (fl,st2)→Good C F st1 q→wp C A (execs stmts F.env) (Out C F (SS F (top+1)) q st2 (RetR C fl)) q.s)
  (e:loopF t body xs st=some (fl,st')) (n:Now C F (SS F top) p st p') (hst:St0 0 p') :
  codeAny C.M A (.forLoop tg it stmts [] F.env) (fun r s'=>∃ f,r=.ok f∧Out C F (SS F top) p st' (RetR C fl) f s') p'.s :=
 for_any (LoopI C F (SS F top) p (loopF t body) (fl,st') xs St0) (fun m s1 h=>h.elim fun i h=>h.elim fun st1 h=>h.2.2.elim fun own1 k=>k.elim fun la1 k=>match hd:xs.drop i,h.2.1 with
  | [],e1=>(W.done (p:=⟨own1,la1,s1⟩) k.1.good.fresh (drop_nil h.1 hd▸k.2)).mono fun r s2 h2=>.inl ⟨h2.1,.next,rfl,
   ret_is (Q:=fun fl st'=>Out C F (SS F top) p st' (RetR C fl) .next s2) e1 ⟨_,_,k.1.trans (.adv ok (Nat.lt_succ_self top) ok.s0 (.inl (.inr (.inr (Nat.lt_succ_self top)))) k.1.good h2.2),rfl⟩⟩
  | d::r,e1=>have w:=drop_cons h.1 hd
   (for_turn ok W hA hB k.1 k.2 w.1 e1).mono fun q s2 h2=>.inr (h2.elim fun v h2=>⟨v,h2.1,h2.2.mono fun _ s3 h3=>h3.mono fun _ s4 h4=>h4.mono fun f s5 h5 =>
    h5.imp (fun k=>⟨k.1,w.2.2.elim fun m' hm'=>⟨m',hm'.1,i+1,k.2.elim fun st3 k=>⟨st3,hm'.2,w.2.1.symm▸k.1,k.2⟩⟩⟩) fun k=>k.elim fun v k=>⟨v,k.1,_,rfl,k.1▸k.2⟩⟩)) xs.length ⟨0,st,Nat.zero_add _,e,_,_,n,hst⟩
end
end
noncomputable def restL (elt:PySem.Expr) (ifs:List PySem.Expr) (env:Env) (acc:Value) (c:Code):Sem Fin:=do
 let mut ok:=true
 for c in ifs do
  if ok then ok ← isTrue c env (eval c env)
 if ok then
  (do let _ ← call (.builtin "list.append") [acc,← eval elt env])
 again c
noncomputable def turnT (tg:PySem.Expr) (p0:Pos) (it:Value) (env:Env) (rest:Sem Fin):Sem Fin:=standAt p0>>=fun _=>pyNext it>>=fun r=>match r with
 | none=>pure (.done .next)
 | some v=>letOwnedTupleGo tg it v>>=fun _=>assign tg env v>>=fun _=>rest
theorem turn1 (elt tg iter:PySem.Expr) (ifs:List PySem.Expr) (scope:Scope) (pos:Pos) (it acc:Value) (env:Env) :
  compTurn (.ListComp elt [⟨tg,iter,ifs,0⟩] scope pos) 0 it acc env=turnT tg iter.pos it env (restL elt ifs env acc (.compLoop (.ListComp elt [⟨tg,iter,ifs,0⟩] scope pos) 0 it acc env)):=by rfl
theorem turn2b (elt tg iter:PySem.Expr) (g:Comprehension) (ifs:List PySem.Expr) (scope:Scope) (pos:Pos) (it acc:Value) (env:Env) :
  compTurn (.ListComp elt [g,⟨tg,iter,ifs,0⟩] scope pos) 1 it acc env=turnT tg iter.pos it env (restL elt ifs env acc (.compLoop (.ListComp elt [g,⟨tg,iter,ifs,0⟩] scope pos) 1 it acc env)):=by rfl
noncomputable def restM (e:PySem.Expr) (iter2:PySem.Expr) (env:Env) (acc:Value) (c:Code):Sem Fin:=do
 let x ← eval iter2 env
 standAt iter2.pos
 let x ← foldedSetIterable iter2 env x
 let _ ← runOwn (.compStart e 1 (← holding [x] (pyIter x)) acc env) env
 again c
theorem turn2a (elt tg iter:PySem.Expr) (tg2 iter2:PySem.Expr) (ifs2:List PySem.Expr) (scope:Scope) (pos:Pos) (it acc:Value) (env:Env) :
  compTurn (.ListComp elt [⟨tg,iter,[],0⟩,⟨tg2,iter2,ifs2,0⟩] scope pos) 0 it acc env=turnT tg iter.pos it env (restM (.ListComp elt [⟨tg,iter,[],0⟩,⟨tg2,iter2,ifs2,0⟩] scope pos) iter2 env acc (.compLoop (.ListComp elt [⟨tg,iter,[],0⟩,⟨tg2,iter2,ifs2,0⟩] scope pos) 0 it acc env)):=by rfl
section
variable {C:Cfg} {F:Fr} {A:Around} {S:Nat→Prop} {p p':Pl} {st st':St} {s:Shared} {top kD:Nat} {D:Addr} {zs:List AV}
def AccOk (C:Cfg) (D:Addr) (kD:Nat) (zs:List AV) (q:Pl):Prop:=q.own D=kD∧∃ vs,q.h.PlainList D (List.toArray vs)∧Reps C q zs vs
theorem AccOk.step (x:AccOk C D kD zs p) (g:Stp S p p') (n:¬ S kD):AccOk C D kD zs p' :=
 x.2.elim fun vs h=>have nD:¬ S (p.own D):=x.1.symm▸n
  ⟨(plain_has h.1).elim fun o e=>(g.k D nD o e).2.trans x.1,vs,plain_at h.1 fun o e=>(g.k D nD o e).1,h.2.step g _ _⟩
def SK (F:Fr) (t n:Nat):Prop:=SE F t n∨n=F.kf
def SC (F:Fr) (t kD n:Nat):Prop:=SK F t n∨n=kD
theorem Fr.Ok.k0 (ok:F.Ok top):¬ SK F top 0:=fun h=>h.elim ok.e0 (gt0 ok.kf)
theorem SK.up {n k:Nat} (h:SK F (top+k) n):SK F top n:=h.imp SE.up id
theorem SC.up {n k:Nat} (h:SC F (top+k) kD n):SC F top kD n:=h.imp SK.up id
structure Apart (F:Fr) (top kD:Nat):Prop where
 k0:kD≠0
 k1:kD≠1
 kl:kD≠F.kl
 kf:kD≠F.kf
 kc:kD≠F.kc
 le:kD≤top
theorem Apart.e (a:Apart F top kD):¬ SE F top kD:=or3 a.k1 a.kl (Nat.not_lt.mpr a.le)
theorem Apart.sk (a:Apart F top kD):¬ SK F top kD:=fun h=>h.elim a.e a.kf
theorem Apart.z (a:Apart F top kD) (ok:F.Ok top):¬ SC F top kD 0:=fun h=>h.elim ok.k0 fun e=>a.k0 e.symm
theorem Apart.up (a:Apart F top kD):Apart F (top+1) kD:=⟨a.k0,a.k1,a.kl,a.kf,a.kc,Nat.le_succ_of_le a.le⟩
theorem Good.more (x:Good C F st p) (a:Apart F top kD) (hD:p.own D=kD) {s':Shared} (hs:Heap.SameBut D p.h s'.heap) (ex:Has s'.heap D):Stp (·=kD) p ⟨p.own,p.la,s'⟩∧Good C F st ⟨p.own,p.la,s'⟩ :=
 have g:Stp (·=kD) p ⟨p.own,p.la,s'⟩:=stp_own a.k0 hD (same_k hs)
 ⟨g,x.quiet g rfl (fun e=>a.k1 e.symm) (fun e=>a.kl e.symm) (fun e=>a.kf e.symm) (fun e=>a.kc e.symm) (fresh_but (p:=p) (h:=s'.heap) x ex (same_k hs))⟩
theorem comp_any {R:Result→Shared→Prop} {elt tg:PySem.Expr} {gens:List Comprehension} {scope:Scope} {pos p0:Pos} {depth:Nat} {it acc:Value} {env:Env} {rest:Sem Fin} (hT:compTurn (.ListComp elt gens scope pos) depth it acc env=turnT tg p0 it env rest)
  (I:Nat→Shared→Prop) (turn:∀ n s,I n s→wp C A (pyNext it) (fun q s'=>(q=none∧R (.ok .next) s')∨∃ v,q=some v ∧
   wp C A (letOwnedTupleGo tg it v) (fun _ s'=>wp C A (assign tg env v) (fun _ s'=>wp C A rest (fun fin s'=>fin=.again (.compLoop (.ListComp elt gens scope pos) depth it acc env)∧∃ m,m<n∧I m s') s') s') s') s) (n:Nat) (h:I n s) :
  codeAny C.M A (.compLoop (.ListComp elt gens scope pos) depth it acc env) R s :=
 codeAny_loop rfl I (fun n s h=>by
  show wpAny _ A ((compTurn (.ListComp elt gens scope pos) depth it acc env).onRaise (fun x=>do noteFrame x env;theTreesLotGoes x)) _ _ s
  rw [hT]
  exact wpAny_noted (wpAny_bind (wpAny_standAt (wpAny_bind ((turn n s h).mono fun q s' h=>h.elim (fun h=>h.1.symm▸wpAny_pure h.2) fun h=>h.elim fun v h=>h.1.symm ▸
   wpAny_bind (h.2.mono fun _ s' h=>wpAny_bind (h.mono fun _ s' h=>h.mono fun fin s' h=>h.1.symm▸⟨rfl,h.2⟩))))))) n h
def CompI (C:Cfg) (F:Fr) (S:Nat→Prop) (p:Pl) (loop:List AV→St→Option (List AV×St)) (st':St) (all:List AV) (xs:List AV) (D:Addr) (kD:Nat) (St0:Nat→Pl→Prop) (m:Nat) (s':Shared):Prop :=
 ∃ i st1 ws us,i+m=xs.length∧loop (xs.drop i) st1=some (us,st')∧ws++us=all∧Out C F S p st1 (fun q (_:Unit)=>St0 i q∧AccOk C D kD ws q) () s'
def AccR (C:Cfg) (D:Addr) (kD:Nat) (zs:List AV) (q:Pl) (_:Unit):Prop:=AccOk C D kD zs q
section
variable {xs ys:List AV} {elt tg:PySem.Expr} {gens:List Comprehension} {scope:Scope} {pos p0:Pos} {depth:Nat} {it:Value} {St0:Nat→Pl→Prop} {t:Tgt} {body:St→Option (List AV×St)} {rest:Sem Fin} {code:Code}
theorem comp_turn (ok:F.Ok top) (a:Apart F top kD) (W:It C A (top+1) xs tg it St0)
  (hA:∀ x st1 st2 q v,bindT t x st1=some st2→Good C F st1 q→Rep C q x v→wp C A (assign tg F.env v) (Out C F (SK F (top+1)) q st2 TT) q.s)
  (hB:∀ st1 ys st2 q zs,body st1=some (ys,st2)→Good C F st1 q→AccOk C D kD zs q→zs.length+ys.length≤cap→wp C A rest (fun fin s'=>fin=.again code∧Out C F (SC F (top+1) kD) q st2 (AccR C D kD (zs++ys)) () s') q.s)
  {st1:St} {i:Nat} {d:AV} {r ws us:List AV} {p1:Pl} (n:Now C F (SC F top kD) p st1 p1) (hst:St0 i p1) (ha:AccOk C D kD ws p1) (hd:xs[i]?=some d) (e:loopC t body (d::r) st1=some (us,st')) (hl:ws.length+us.length≤cap) :
  wp C A (pyNext it) (fun q s'=>∃ v,q=some v∧wp C A (letOwnedTupleGo tg it v) (fun _ s'=>wp C A (assign tg F.env v) (fun _ s'=>wp C A rest (fun fin s'=>fin=.again code ∧
   ∃ st3 ws' us',loopC t body r st3=some (us',st')∧ws'++us'=ws++us∧Out C F (SC F top kD) p st3 (fun q (_:Unit)=>St0 (i+1) q∧AccOk C D kD ws' q) () s') s') s') s') p1.s :=
 have z:=a.z ok
 have hk:SC F top kD (top+1):=.inl (.inl (.inr (.inr (Nat.lt_succ_self top))))
 have nk:¬ SK F (top+1) (top+1):=fun h=>h.elim ok.hk fun e=>Nat.not_lt.mpr ok.tf (e▸Nat.lt_succ_self top)
 obind_is e fun st2 b1 e=>bnd_is e fun y1 st3 b2 e=>bnd_is e fun y2 st4 b3 e=>ret_is (Q:=fun us st'=>ws.length+us.length≤cap→wp C A (pyNext it) (fun q s'=>∃ v,q=some v∧wp C A (letOwnedTupleGo tg it v) (fun _ s'=>wp C A (assign tg F.env v) (fun _ s'=>wp C A rest (fun fin s'=>fin=.again code ∧
   ∃ st3 ws' us',loopC t body r st3=some (us',st')∧ws'++us'=ws++us∧Out C F (SC F top kD) p st3 (fun q (_:Unit)=>St0 (i+1) q∧AccOk C D kD ws' q) () s') s') s') s') p1.s) e
  (fun hl=>(W.item hd n.good.fresh hst).mono fun q s' h=>h.elim fun v h=>⟨v,h.1,h.2.mono fun _ s' h =>
   have n1:=n.trans (.adv ok (Nat.lt_succ_self top) z hk n.good h.1)
   have a1:=ha.step h.1.stp fun e=>Nat.not_lt.mpr a.le (e▸Nat.lt_succ_self top)
   seq (hA d st1 st2 ⟨p1.own,p1.la,s'⟩ v b1 n1.good h.2.1) fun _ p2 n2 _ =>
    have n2':=n1.trans (n2.mono z fun _ h=>.inl h.up)
    (hB st2 y1 st3 p2 ws b2 n2.good (a1.step n2.go.stp a.up.sk) (Nat.le_trans (Nat.add_le_add_left (Nat.le_trans (Nat.le_add_right _ _) (Nat.le_of_eq List.length_append.symm)) _) hl)).mono fun fin s3 h3=>⟨h3.1,st3,ws++y1,y2,b3,List.append_assoc _ _ _,
     h3.2.elim fun own3 k=>k.elim fun la3 k=>⟨own3,la3,n2'.trans (k.1.mono z fun _=>SC.up),W.step (W.step h.2.2 n2.go.stp nk) k.1.go.stp fun h=>h.elim nk fun e=>Nat.not_lt.mpr a.le (e▸Nat.lt_succ_self top),k.2⟩⟩⟩) hl
theorem comp_loop (hT:compTurn (.ListComp elt gens scope pos) depth it (.ref D) F.env=turnT tg p0 it F.env rest) (ok:F.Ok top) (a:Apart F top kD) (W:It C A (top+1) xs tg it St0)
  (hA:∀ x st1 st2 q v,bindT t x st1=some st2→Good C F st1 q→Rep C q x v→wp C A (assign tg F.env v) (Out C F (SK F (top+1)) q st2 TT) q.s)
  (hB:∀ st1 ys st2 q zs,body st1=some (ys,st2)→Good C F st1 q→AccOk C D kD zs q→zs.length+ys.length≤cap→wp C A rest (fun fin s'=>fin=.again (.compLoop (.ListComp elt gens scope pos) depth it (.ref D) F.env)∧Out C F (SC F (top+1) kD) q st2 (AccR C D kD (zs++ys)) () s') q.s)
  (e:loopC t body xs st=some (ys,st')) (n:Now C F (SC F top kD) p st p') (hst:St0 0 p') (ha:AccOk C D kD zs p') (hsz:zs.length+ys.length≤cap) :
  codeAny C.M A (.compLoop (.ListComp elt gens scope pos) depth it (.ref D) F.env) (fun r s'=>r=.ok .next∧Out C F (SC F top kD) p st' (AccR C D kD (zs++ys)) () s') p'.s :=
 comp_any hT (CompI C F (SC F top kD) p (loopC t body) st' (zs++ys) xs D kD St0) (fun m s1 h=>h.elim fun i h=>h.elim fun st1 h=>h.elim fun ws h=>h.elim fun us h=>h.2.2.2.elim fun own1 k=>k.elim fun la1 k=>match hd:xs.drop i,h.2.1 with
  | [],e1=>(W.done (p:=⟨own1,la1,s1⟩) k.1.good.fresh (drop_nil h.1 hd▸k.2.1)).mono fun r s2 h2=>.inl ⟨h2.1,rfl,
   ret_is (Q:=fun us st'=>ws++us=zs++ys→Out C F (SC F top kD) p st' (AccR C D kD (zs++ys)) () s2) e1 (fun hw=>⟨_,_,k.1.trans (.adv ok (Nat.lt_succ_self top) (a.z ok) (.inl (.inl (.inr (.inr (Nat.lt_succ_self top))))) k.1.good h2.2),
    hw▸(List.append_nil ws).symm▸k.2.2.step h2.2.stp fun e=>Nat.not_lt.mpr a.le (e▸Nat.lt_succ_self top)⟩) h.2.2.1⟩
  | d::r,e1=>have w:=drop_cons h.1 hd
   have hl:ws.length+us.length≤cap:=by rw [← List.length_append,h.2.2.1,List.length_append];exact hsz
   (comp_turn ok a W hA hB k.1 k.2.1 k.2.2 w.1 e1 hl).mono fun q s2 h2=>.inr (h2.elim fun v h2=>⟨v,h2.1,h2.2.mono fun _ s3 h3=>h3.mono fun _ s4 h4=>h4.mono fun fin s5 h5 =>
    ⟨h5.1,w.2.2.elim fun m' hm'=>⟨m',hm'.1,i+1,h5.2.elim fun st3 k=>k.elim fun ws' k=>k.elim fun us' k=>⟨st3,ws',us',hm'.2,w.2.1.symm▸k.1,k.2.1.trans h.2.2.1,k.2.2⟩⟩⟩⟩)) xs.length ⟨0,st,zs,ys,Nat.zero_add _,e,rfl,_,_,n,hst,ha⟩
end
end
section
variable {C:Cfg} {F:Fr} {A:Around} {S:Nat→Prop} {p p':Pl} {st st':St} {s:Shared} {top kD:Nat} {D:Addr} {zs:List AV}
theorem Now.se (z:¬ SC F top kD 0) (n:Now C F (SE F top) p st' p'):Now C F (SC F top kD) p st' p':=n.mono z fun _ h=>.inl (.inl h)
theorem push_snoc (vs:List Value) (u:Value):(List.toArray vs).push u=List.toArray (vs++[u]):=List.push_toArray vs u
theorem elem_ok {elt:PySem.Expr} {c:Code} {eltS:St→Option (AV×St)} (ok:F.Ok top) (a:Apart F top kD)
  (hElt:∀ st1 d st2 q,eltS st1=some (d,st2)→Good C F st1 q→wp C A (eval elt F.env) (Out C F (SE F top) q st2 (RepT C · d)) q.s)
  {st1 st2:St} {ys:List AV} (e:elemV eltS st1=some (ys,st2)) (n:Now C F (SC F top kD) p st1 p') (ha:AccOk C D kD zs p') (hsz:zs.length+ys.length≤cap) :
  wp C A (do (do let _ ← call (.builtin "list.append") [.ref D,← eval elt F.env]);again c) (fun fin s'=>fin=.again c∧Out C F (SC F top kD) p st2 (AccR C D kD (zs++ys)) () s') p'.s :=
 have z:=a.z ok
 bnd_is e fun d st3 e1 e=>bnd_is e fun d' st4 e2 e=>ret_is (Q:=fun ys st2=>zs.length+ys.length≤cap→wp C A (do (do let _ ← call (.builtin "list.append") [.ref D,← eval elt F.env]);again c) (fun fin s'=>fin=.again c∧Out C F (SC F top kD) p st2 (AccR C D kD (zs++ys)) () s') p'.s) e
  (fun hsz=>wpAny_bind (wpAny_bind (seq (hElt st1 d st3 p' e1 n.good) fun u p2 n2 r2=>(keep1_ok ok n2.good r2 e2).elim fun own3 k =>
   have a3:=(ha.step n2.go.stp a.e).step k.1.go.stp a.e
   a3.2.elim fun vs h=>wpAny_bind (wpAny_list_append_plain (s:=p2.s) h.1 (fun h' hp hs =>
    have g:=k.1.good.more (s':={ p2.s with heap:=h' }) a a3.1 hs (plain_has hp)
    wpAny_pure (wpAny_pure ⟨rfl,own3,p2.la,(n.trans (n2.se z)).trans ((k.1.se z).trans ⟨g.2,⟨_,_,rfl⟩,g.1.mono z fun _ h=>.inr h,pre_nil⟩),a3.1,vs++[u],push_snoc vs u▸hp,(h.2.step g.1 _ _).append (.one (k.2.step g.1 _ _))⟩))
    (Nat.le_trans (Nat.le_trans (Nat.le_of_eq h.2.length) (Nat.le_trans (Nat.le_add_right _ _) hsz)) cap_line)))) ) hsz
theorem restL_ok {elt:PySem.Expr} {ifs:List PySem.Expr} {c:Code} {no:Bool} {eltS condS:St→Option (AV×St)} (ok:F.Ok top) (a:Apart F top kD)
  (hElt:∀ st1 d st2 q,eltS st1=some (d,st2)→Good C F st1 q→wp C A (eval elt F.env) (Out C F (SE F top) q st2 (RepT C · d)) q.s)
  (hCond:(ifs=[]∧no=true)∨(no=false∧∃ ce,ifs=[ce]∧∀ st1 b st2 q,condS st1=some (.bool b,st2)→Good C F st1 q→wp C A (isTrue ce F.env (eval ce F.env)) (Out C F (SE F top) q st2 fun _ b'=>b'=b) q.s))
  {st1 st2:St} {ys:List AV} (e:testThen no condS eltS st1=some (ys,st2)) (x:Good C F st1 p) (ha:AccOk C D kD zs p) (hsz:zs.length+ys.length≤cap) :
  wp C A (restL elt ifs F.env (.ref D) c) (fun fin s'=>fin=.again c∧Out C F (SC F top kD) p st2 (AccR C D kD (zs++ys)) () s') p.s :=
 have z:=a.z ok
 hCond.elim (fun h=>h.1.symm▸wpAny_bind (wpAny_tests_nil (elem_ok ok a hElt (by rw [h.2] at e;exact e) (.refl z x) ha hsz)))
  fun h=>h.2.elim fun ce k=>k.1.symm▸bnd_is (show bnd (condS st1) (fun x st=>brV x (elemV eltS st) (some ([],st)))=some (ys,st2) by rw [h.1] at e;exact e) fun x1 st3 e1 e=>obind_is e fun b e2 e=>wpAny_bind (wpAny_tests_one
   (seq (k.2 st1 b st3 p (asBool_is e2▸e1) x) fun b' p2 n2 hb=>match b',b,(hb:b'=b),e with
    | true,true,_,e=>elem_ok ok a hElt e (n2.se z) (ha.step n2.go.stp a.e) hsz
    | false,false,_,e=>ret_is (Q:=fun ys st2=>wp C A (again c) (fun (fin:Fin) s'=>fin=.again c∧Out C F (SC F top kD) p st2 (AccR C D kD (zs++ys)) () s') p2.s) e
     (wpAny_pure ⟨rfl,p2.own,p2.la,n2.se z,(List.append_nil zs).symm▸ha.step n2.go.stp a.e⟩)))
theorem start_list1 {R:Result→Shared→Prop} {elt target iter:PySem.Expr} {ifs:List PySem.Expr} {g:Comprehension} {scope:Scope} {pos:Pos} {it acc:Value} {env:Env}
  (h0:codeAny C.M A (.compLoop (.ListComp elt [g,⟨target,iter,ifs,0⟩] scope pos) 1 it acc env) R s)
  (h:wp C A (pyIter it) (fun it' s'=>it'=it∧s'=s) s) :
  codeAny C.M A (.compStart (.ListComp elt [g,⟨target,iter,ifs,0⟩] scope pos) 1 it acc env) R s:=by
 refine codeAny_of_tree ?_
 show wpAny _ _ ((compStart (.ListComp elt [g,⟨target,iter,ifs,0⟩] scope pos) 1 it acc env).onRaise (fun x=>do noteFrame x env;standAt theWindowsPlace)) _ _ s
 refine wpAny_notedAt ?_
 unfold compStart
 show wpAny _ _ (ask>>=_) _ _ s
 refine wpAny_bind (wpAny_askSetting (wpAny_ite ?_))
 split
 ·first
   | exact wpAny_bind (wpAny_pure (wpAny_pure (And.intro rfl h0)))
   | exact wpAny_pure (And.intro rfl h0)
 ·refine wpAny_bind (wpAny_rule ?_)
  show wpAny _ _ (standAt iter.pos>>=_) _ _ s
  exact wpAny_bind (wpAny_standAt (wpAny_bind (h.mono fun it' s' h'=>h'.1.symm▸h'.2.symm▸wpAny_pure (And.intro rfl h0))))
def IterR (C:Cfg) (k:Nat) (d:AV) (q:Pl) (v:Value):Prop:=IterV C k q d v
theorem restM_ok {elt tg iter tg2 iter2:PySem.Expr} {ifs2:List PySem.Expr} {scope:Scope} {pos:Pos} {c:Code} {t2:Tgt} {it2S:St→Option (AV×St)} {body2:St→Option (List AV×St)} (ok:F.Ok top) (hh:A.handled=none) (a:Apart F top kD)
  (hfold:∀ x,foldedSetIterable iter2 F.env x=pure x)
  (hIt:∀ st1 iv st2 q xs,it2S st1=some (iv,st2)→itemsOf iv=some xs→Good C F st1 q→wp C A (eval iter2 F.env) (Out C F (SE F top) q st2 (IterR C (top+1) iv)) q.s)
  (hA:∀ x st1 st2 q v,bindT t2 x st1=some st2→Good C F st1 q→Rep C q x v→wp C A (assign tg2 F.env v) (Out C F (SK F (top+1)) q st2 TT) q.s)
  (hB:∀ st1 ys st2 q zs it,body2 st1=some (ys,st2)→Good C F st1 q→AccOk C D kD zs q→zs.length+ys.length≤cap →
   wp C A (restL elt ifs2 F.env (.ref D) (.compLoop (.ListComp elt [⟨tg,iter,[],0⟩,⟨tg2,iter2,ifs2,0⟩] scope pos) 1 it (.ref D) F.env)) (fun fin s'=>fin=.again (.compLoop (.ListComp elt [⟨tg,iter,[],0⟩,⟨tg2,iter2,ifs2,0⟩] scope pos) 1 it (.ref D) F.env)∧Out C F (SC F (top+1) kD) q st2 (AccR C D kD (zs++ys)) () s') q.s)
  {st1 st2 st3:St} {iv:AV} {xs ys:List AV} (hz:isZp iv=false∨isTupT tg2=true) (e1:it2S st1=some (iv,st2)) (e2:itemsOf iv=some xs) (e3:loopC t2 body2 xs st2=some (ys,st3)) (x:Good C F st1 p) (ha:AccOk C D kD zs p) (hsz:zs.length+ys.length≤cap) :
  wp C A (restM (.ListComp elt [⟨tg,iter,[],0⟩,⟨tg2,iter2,ifs2,0⟩] scope pos) iter2 F.env (.ref D) c) (fun fin s'=>fin=.again c∧Out C F (SC F top kD) p st3 (AccR C D kD (zs++ys)) () s') p.s :=
 have z:=a.z ok
 wpAny_bind (seq (hIt st1 iv st2 p xs e1 e2 x) fun v p1 n1 iv1=>wpAny_bind (wpAny_standAt (wpAny_bind (wpAny_of_eq (hfold v) (wpAny_bind (wpAny_holding ((iter_make (tg:=tg2) hh ok n1.good iv1 e2 hz).mono fun it s2 h2=>h2.elim fun own2 h2=>h2.elim fun St0 h2 =>
  have n2:=(n1.se z).trans (h2.2.1.mono z fun _ h=>.inl (.inl (.inr (.inr h))))
  have a2:=(ha.step n1.go.stp a.e).step h2.2.1.go.stp (Nat.not_lt.mpr a.le)
  wpAny_bind (wpAny_runOwn (h:=none) (codeAny_mono (start_list1 (comp_loop (turn2b elt tg2 iter2 ⟨tg,iter,[],0⟩ ifs2 scope pos it (.ref D) F.env) ok a h2.1 hA (fun st1 ys st2 q zs a b c d=>hB st1 ys st2 q zs it a b c d) e3 n2 h2.2.2 a2 hsz) (h2.1.self h2.2.2))
   fun r s3 h3=>h3.1.symm▸wpAny_pure ⟨rfl,h3.2⟩)))))))))
end
section
variable {β:Type}
theorem look_cons {n m:Str} {b:β} {l:List (Str×β)}:((m,b)::l).lookup n=cond (n == m) (some b) (l.lookup n):=by
 rw [List.lookup_cons]
 cases n == m <;> rfl
theorem look_in {n:Str} {b:β}:∀ {l:List (Str×β)},l.lookup n=some b→(n,b)∈l
 | [],h=>nn h
 | (m,k)::r,h=>cond_or (look_cons.symm.trans h) (fun q e=>Option.some.inj e▸eq_of_beq q▸.head _) fun _ e=>.tail _ (look_in e)
theorem look_some {n:Str} {b:β}:∀ {l:List (Str×β)},(n,b)∈l→∃ c,l.lookup n=some c
 | (m,k)::r,h=>by
  rw [look_cons]
  cases q:n == m
  ·exact (List.mem_cons.mp h).elim (fun e=>absurd (Prod.mk.inj e).1 (beq_eq_false_iff_ne.mp q)) look_some
  ·exact ⟨k,rfl⟩
theorem look_nodup {n:Str} {b:β}:∀ {l:List (Str×β)},(l.map (·.1)).Nodup→(n,b)∈l→l.lookup n=some b
 | (m,k)::r,nd,h=>by
  have nd:=List.nodup_cons.mp nd
  rw [look_cons]
  cases q:n == m
  ·exact (List.mem_cons.mp h).elim (fun e=>absurd (Prod.mk.inj e).1 (beq_eq_false_iff_ne.mp q)) (look_nodup nd.2)
  ·exact (List.mem_cons.mp h).elim (fun e=>congrArg some (Prod.mk.inj e).2.symm) fun e=>absurd (List.mem_map.mpr ⟨_,e,eq_of_beq q⟩) nd.1
end
noncomputable def cellAt (cells:List (Str×Addr)) (x:Str×NameKind):Str×Addr:=(x.1,(cells.lookup x.1).getD 0)
noncomputable def clOf (cells:List (Str×Addr)) (names:List (Str×NameKind)):List (Str×Addr):=((names.filter (·.2 == .free)).map (cellAt cells)).reverse
theorem clOf_mem {cells:List (Str×Addr)} {names:List (Str×NameKind)} {y:Str×Addr} (h:y∈clOf cells names):∃ x∈names,x.2=.free∧cellAt cells x=y :=
 (List.mem_map.mp (List.mem_reverse.mp h)).elim fun x q=>⟨x,(List.mem_filter.mp q.1).1,eq_of_beq (List.mem_filter.mp q.1).2,q.2⟩
theorem clOf_in {cells:List (Str×Addr)} {names:List (Str×NameKind)} {n:Str} (h:(n,NameKind.free)∈names):(n,(cells.lookup n).getD 0)∈clOf cells names :=
 List.mem_reverse.mpr (List.mem_map.mpr ⟨_,List.mem_filter.mpr ⟨h,rfl⟩,rfl⟩)
theorem clos_loop {env:Env}:∀ {names:List (Str×NameKind)} {cs:List (Str×Addr)},(∀ n,(n,NameKind.free)∈names→∃ c,env.cells.lookup n=some c) →
  (forIn names cs fun x r=>match x with
   | (name,kind)=>if (kind == NameKind.free)=true then do
     let c ← cellOf env name
     pure (ForInStep.yield ((name,c)::r))
    else pure (ForInStep.yield r):Sem (List (Str×Addr)))=pure (clOf env.cells names++cs)
 | [],cs,_=>rfl
 | (n,k)::r,cs,h=>by
  rw [List.forIn_cons]
  have ih:=fun cs=>clos_loop (names:=r) (cs:=cs) fun n hn=>h n (.tail _ hn)
  refine Decidable.byCases (p:=k=.free) (fun q=>?_) fun q=>?_
  ·cases q
   obtain ⟨c,hc⟩:=h n (.head _)
   have e:cellOf env n=pure c:=by unfold cellOf;rw [hc]
   show ((cellOf env n>>=fun c=>pure (ForInStep.yield ((n,c)::cs)))>>=_:Sem _)=_
   rw [e]
   refine (ih ((n,c)::cs)).trans ?_
   show _=(pure (((cellAt env.cells (n,.free))::(r.filter (·.2 == .free)).map (cellAt env.cells)).reverse++cs):Sem _)
   rw [List.reverse_cons,List.append_assoc,cellAt,hc]
   rfl
  ·have e:(k == NameKind.free)=false:=beq_eq_false_iff_ne.mpr q
   show ((if (k == NameKind.free)=true then _ else pure (ForInStep.yield cs))>>=_:Sem _)=_
   rw [e]
   refine (ih cs).trans ?_
   unfold clOf
   rw [List.filter_cons_of_neg (by rw [e];exact Bool.false_ne_true)]
theorem closureFor_eq {scope:Scope} {env:Env} (h:∀ n,(n,NameKind.free)∈scope.names→∃ c,env.cells.lookup n=some c):closureFor scope env=pure (clOf env.cells scope.names):=by
 have:=congrArg (fun (t:Sem (List (Str×Addr)))=>t>>=fun cs=>(pure cs:Sem (List (Str×Addr)))) (clos_loop (cs:=[]) h)
 rw [List.append_nil] at this
 exact this
theorem clOf_apart {cells:List (Str×Addr)} (hp:cells.Pairwise fun x y=>x.2≠y.2) {names:List (Str×NameKind)} (nd:(names.map (·.1)).Nodup) (h:∀ n,(n,NameKind.free)∈names→∃ c,cells.lookup n=some c):(clOf cells names).Pairwise fun x y=>x.2≠y.2:=by
 refine List.pairwise_reverse.mpr (List.pairwise_map.mpr (List.Pairwise.imp_of_mem (R:=fun x y=>x.1≠y.1) ?_ ((List.pairwise_map.mp nd).filter _)))
 intro a b ha hb ne e
 obtain ⟨c,hc⟩:=h a.1 ((eq_of_beq (List.mem_filter.mp ha).2:a.2=.free)▸(List.mem_filter.mp ha).1)
 obtain ⟨d,hd⟩:=h b.1 ((eq_of_beq (List.mem_filter.mp hb).2:b.2=.free)▸(List.mem_filter.mp hb).1)
 unfold cellAt at e
 dsimp only at e
 rw [hc,hd] at e
 exact ne (name_of_addr hp (look_in hc) (show (b.1,c)∈cells from (show d=c from e)▸look_in hd))
noncomputable def inK (k:NameKind):NameKind:=cond (k == .free) .cell k
noncomputable def relN (names:List (Str×NameKind)):List (Str×NameKind):=names.map fun x=>(x.1,inK x.2)
noncomputable def tgtVars:Tgt→List Nat
 | .v x=>[x]
 | .t xs=>xs
noncomputable def dot0:Str:=".0"
noncomputable def chkName1 (nm:List (Str×NameKind)) (ts:List Nat) (x:Str×NameKind):Bool:=match x.2 with
  | .local=>x.1 == dot0||ts.any fun t=>x.1 == vname t
  | .free=>nm.lookup x.1 == some .cell
  | .globalImplicit=>true
  | _=>false
noncomputable def chkScope (nm names:List (Str×NameKind)) (ts:List Nat):Bool:=decide (names.map (·.1)).Nodup&&(names.all (chkName1 nm ts)&&ts.all fun t=>Nat.blt t VX.length&&names.lookup (vname t) == some .local)
theorem dot0_not:∀ x∈VX.map Str.ofString,x≠dot0:=by decide +kernel
theorem vname_mem {x:Nat} (hx:x<VX.length):vname x∈VX.map Str.ofString:=List.mem_of_getElem? (vname_at hx)
theorem unb_get {t:Tgt} {ρ:List (Nat×AV)} (h:unb t ρ=true) {x:Nat} (hx:x∈tgtVars t):dget ρ x=none:=match t,h,hx with
 | .v y,h,hx=>List.mem_singleton.mp hx▸Option.isNone_iff_eq_none.mp h
 | .t xs,h,hx=>Option.isNone_iff_eq_none.mp (List.all_eq_true.mp h x hx)
theorem lookup_relN {n:Str}:∀ {names:List (Str×NameKind)},(relN names).lookup n=(names.lookup n).map inK
 | []=>rfl
 | (m,k)::r=>by
  show List.lookup n ((m,_)::relN r)=_
  rw [look_cons,look_cons,lookup_relN]
  cases n == m <;> rfl
section
variable {nm names:List (Str×NameKind)} {ts:List Nat}
theorem scope_nodup (h:chkScope nm names ts=true):(names.map (·.1)).Nodup:=of_decide_eq_true (and_is h).1
theorem scope_kind (h:chkScope nm names ts=true) {n:Str} {k:NameKind} (hm:(n,k)∈names) {P:NameKind→Prop} (k1:(n=dot0∨∃ t∈ts,n=vname t)→P .local) (k2:nm.lookup n=some .cell→P .free) (k3:P .globalImplicit):P k :=
 have h:=List.all_eq_true.mp (and_is (and_is h).2).1 _ hm
 match k,h with
 | .local,h=>k1 ((Bool.or_eq_true_iff.mp h).imp eq_of_beq fun q=>(List.any_eq_true.mp q).elim fun t q=>⟨t,q.1,eq_of_beq q.2⟩)
 | .free,h=>k2 (eq_of_beq h)
 | .globalImplicit,_=>k3
theorem scope_tgt (h:chkScope nm names ts=true) {t:Nat} (ht:t∈ts):t<VX.length∧names.lookup (vname t)=some .local :=
 have h:=and_is (List.all_eq_true.mp (and_is (and_is h).2).2 _ ht)
 ⟨Nat.le_of_ble_eq_true h.1,eq_of_beq h.2⟩
theorem scope_free (h:chkScope nm names ts=true) {n:Str} (hm:(n,NameKind.free)∈names):nm.lookup n=some .cell :=
 scope_kind (P:=fun k=>k=.free→nm.lookup n=some .cell) h hm (fun _ e=>nomatch e) (fun q _=>q) (fun e=>nomatch e) rfl
theorem scope_cell (h:chkScope nm names ts=true) {n:Str} (hk:(relN names).lookup n=some .cell):(n,NameKind.free)∈names :=
 omap_is (lookup_relN.symm.trans hk) fun k e1 e2=>have hm:=look_in e1
  scope_kind (P:=fun k=>inK k=.cell→(n,k)∈names→(n,NameKind.free)∈names) h hm (fun _ e=>nomatch e) (fun _ _ m=>m) (fun e=>nomatch e) e2 hm
end
section
variable {C:Cfg} {F:Fr} {A:Around} {S:Nat→Prop} {p p':Pl} {st st':St} {s:Shared} {top:Nat} {nm:List (Str×NameKind)} {ts:List Nat} {scope:Scope} {L:Addr} {ρ:List (Nat×AV)}
noncomputable def compF (F:Fr) (top:Nat) (scope:Scope) (L:Addr):Fr:=⟨compEnvC scope (clOf F.env.cells scope.names) L F.env,top+2,F.kc,F.kl⟩
theorem compF_ok (ok:F.Ok top) (hk:scope.kind=.function):(compF F top scope L).Ok (top+2) :=
 have h:=Nat.lt_of_lt_of_le ok.kf ok.tf
 ⟨ok.globals,ok.builtins,hk,Nat.lt_add_right 2 h,ok.kc,ok.kl,fun e=>Nat.not_lt.mpr ok.tl (show top<F.kl from e▸Nat.lt_add_of_pos_right (by decide)),ok.kcl,Nat.le_refl _,Nat.le_add_right_of_le ok.tc,Nat.le_add_right_of_le ok.tl⟩
theorem relabel_names (ok:F.Ok top) (hnm:F.env.scope.names=nm) (h:chkScope nm scope.names ts=true):(compF F top scope L).env.scope.names=relN scope.names:=by
 show List.map _ scope.names=List.map _ scope.names
 refine List.map_congr_left fun x hx=>?_
 obtain ⟨n,k⟩:=x
 refine scope_kind (P:=fun k=>(n,k)∈scope.names→(match (n,k) with | (n,k)=>if (k == NameKind.free&&F.env.scope.kind == .function&&F.env.kindOf n == some .cell)=true then (n,NameKind.cell) else (n,k))=(n,inK k)) h hx (fun _ _=>rfl) (fun q _=>?_) (fun _=>rfl) hx
 have e2:F.env.kindOf n=some .cell:=by show F.env.scope.names.lookup n=_;rw [hnm,q]
 show (if (F.env.scope.kind == .function&&F.env.kindOf n == some .cell)=true then (n,NameKind.cell) else (n,NameKind.free))=_
 rw [ok.fn,e2]
 rfl
theorem cell_of (hnm:F.env.scope.names=nm) (hs:chkScope nm scope.names ts=true) (x:EnvOk C F ρ p) {n:Str} (h:(n,NameKind.free)∈scope.names):∃ c,F.env.cells.lookup n=some c :=
 x.cells n (show F.env.scope.names.lookup n=some .cell from hnm.symm▸scope_free hs h)
theorem cell_at (hnm:F.env.scope.names=nm) (hs:chkScope nm scope.names ts=true) (x:EnvOk C F ρ p) {n:Str} {c:Addr} (h:(n,c)∈clOf F.env.cells scope.names):(n,c)∈F.env.cells :=
 (clOf_mem h).elim fun y q=>by
  obtain ⟨h1,h2,h3⟩:=q
  obtain ⟨m,k⟩:=y
  cases h2
  obtain ⟨c',e⟩:=cell_of hnm hs x h1
  unfold cellAt at h3
  dsimp only at h3
  rw [e] at h3
  exact h3▸look_in e
theorem comp_env (ok:F.Ok top) (hnm:F.env.scope.names=nm) (hs:chkScope nm scope.names ts=true) (hu:∀ t∈ts,dget ρ t=none)
  (x:EnvOk C F ρ p) {m:Str→Option Value} (hL:p.h.Ns L m) (oL:p.own L=top+2):EnvOk C (compF F top scope L) ρ p where
 ns:=⟨m,hL,fun y d hy hd hk=>by
  have hk:((compF F top scope L).env.scope.names).lookup (vname y)=some .local:=hk
  rw [relabel_names ok hnm hs,lookup_relN] at hk
  refine omap_is hk fun k e1 e2=>scope_kind (P:=fun k=>inK k=.local→∃ v,m (vname y)=some v∧RepT C p d v) hs (look_in e1) (fun q _=>q.elim (fun q=>absurd q (dot0_not _ (vname_mem hy))) fun q=>q.elim fun t q=>?_) (fun _ e=>nomatch e) (fun e=>nomatch e) e2
  exact nn ((hu _ q.1).symm.trans (vname_inj hy (scope_tgt hs q.1).1 q.2▸hd))⟩
 cell:=fun y d hy hd hk=>by
  have hk:((compF F top scope L).env.scope.names).lookup (vname y)=some .cell:=hk
  rw [relabel_names ok hnm hs] at hk
  have hm:=scope_cell hs hk
  obtain ⟨c,v,e1,e2,e3⟩:=x.cell y d hy hd (show F.env.scope.names.lookup _=_ from hnm.symm▸scope_free hs hm)
  obtain ⟨c',e4⟩:=look_some (clOf_in (cells:=F.env.cells) hm)
  refine ⟨c,v,?_,e2,e3⟩
  show (clOf F.env.cells scope.names).lookup (vname y)=some c
  obtain ⟨z,h1,h2,h3⟩:=clOf_mem (look_in e4)
  have e5:z.1=vname y:=(Prod.mk.inj h3).1
  rw [e4,← (Prod.mk.inj h3).2,e5,e1]
  rfl
 cells:=fun n hk=>by
  have hk:((compF F top scope L).env.scope.names).lookup n=some .cell:=hk
  rw [relabel_names ok hnm hs] at hk
  exact look_some (clOf_in (scope_cell hs hk))
 cellx:=fun n c hm=>x.cellx n c (cell_at hnm hs x hm)
 ownL:=oL
 apart:=clOf_apart x.apart (scope_nodup hs) fun n h=>cell_of hnm hs x h
end
section
variable {C:Cfg} {F:Fr} {A:Around} {S:Nat→Prop} {p p' q:Pl} {st st' st1 st2:St} {s:Shared} {top:Nat} {nm:List (Str×NameKind)} {ts:List Nat} {scope:Scope} {L D:Addr} {ρ:List (Nat×AV)}
theorem lt2 (top:Nat):top<top+2:=Nat.lt_add_of_pos_right (by decide)
theorem Fr.Ok.ap (ok:F.Ok top):Apart (compF F top scope L) (top+2) (top+1) :=
 have h:=Nat.lt_of_lt_of_le ok.kf ok.tf
 ⟨Nat.succ_ne_zero top,fun e=>ok.t1 (e▸Nat.lt_succ_self top),fun e=>Nat.not_lt.mpr ok.tl (show top<F.kl from e▸Nat.lt_succ_self top),Nat.ne_of_lt (Nat.lt_succ_self (top+1)),fun e=>Nat.not_lt.mpr ok.tc (show top<F.kc from e▸Nat.lt_succ_self top),Nat.le_succ _⟩
theorem SC.out {n:Nat} (h:SC (compF F top scope L) (top+2) (top+1) n):SE F top n :=
 h.elim (fun h=>h.elim (fun h=>h.imp id fun h=>h.imp id fun h=>Nat.lt_trans (lt2 top) h) fun h=>.inr (.inr (h▸lt2 top))) fun h=>.inr (.inr (h▸Nat.lt_succ_self top))
structure Done (C:Cfg) (F:Fr) (top:Nat) (p:Pl) (st':St) (ys:List AV) (D L:Addr) (q:Pl):Prop where
 now:Now C F (SE F top) p st' q
 rep:Rep C q (.lst ys) (.ref D)
 ownL:q.own L=top+2
 ns:∃ m,q.h.Ns L m
theorem done_of (ok:F.Ok top) (hk:scope.kind=.function) {ys:List AV} (n0:Now C F (SE F top) p st1 p') (n:Now C (compF F top scope L) (SC (compF F top scope L) (top+2) (top+1)) p' st2 q)
  (h0:EnvOk C F st1.ρ p') (ha:AccOk C D (top+1) ys q) (hsz:ys.length≤cap):Done C F top p ⟨st1.ρ,st2.lh,st2.g⟩ ys D L ⟨lab q.own D 0,q.la,q.s⟩ :=
 have g:Go (SE F top) p' q:=n.go.mono ok.e0 fun _=>SC.out
 have gD:Stp (top<·) q ⟨lab q.own D 0,q.la,q.s⟩:=⟨fun b nb o e=>⟨e,lab_ne fun e=>nb (e▸ha.1▸Nat.lt_succ_self top)⟩,Nat.not_lt_zero top⟩
 have gE:=gD.mono ok.e0 fun n h=>(.inr (.inr h):SE F top n)
 ⟨⟨⟨n.good.inv.step gD ok.t1,⟨n.good.loc.len,n.good.loc.nodup,(n.good.loc.step gD rfl (Nat.not_lt.mpr ok.tl)).each⟩,h0.step (g.stp.trans gE) g.la ok.ef ok.ec,
   lab_fresh (ha.2.elim fun vs k=>plain_has k.1) fun b _ e=>n.good.fresh b e⟩,n0.go.trans (g.trans ⟨.refl _,gE,pre_nil⟩)⟩,
  ha.2.elim fun vs k=>⟨D,vs,rfl,lab_self,k.1,Nat.le_trans (Nat.le_of_eq k.2.length) hsz,k.2.step gD _ _⟩,
  (lab_ne fun e=>absurd ((e▸n.good.env.ownL.symm).trans ha.1) (Nat.ne_of_gt (Nat.lt_succ_self (top+1)))).trans n.good.env.ownL,n.good.env.ns.elim fun m k=>⟨m,k.1⟩⟩
theorem new_stp {a:Addr} {k:Nat} {s':Shared} (ha:∀ o,p.h.get? a≠some o) (h:∀ b,b≠a→∀ o,p.h.get? b=some o→s'.heap.get? b=some o):Stp no p ⟨lab p.own a k,p.la,s'⟩ :=
 ⟨fun b _ o e=>have ne:b≠a:=fun q=>ha o (q▸e);⟨h b ne o e,lab_ne ne⟩,id⟩
section
variable {elt tg iter:PySem.Expr} {ifs:List PySem.Expr} {rest:List Comprehension} {pos pp:Pos} {iv:AV} {xs ys:List AV} {use:Option (Value→Sem Unit)} {Q:Value→Shared→Prop}
theorem frame_start (ok:F.Ok top) (hnm:F.env.scope.names=nm) (hs:chkScope nm scope.names ts=true) (hu:∀ t∈ts,dget st1.ρ t=none) {it:Value} {St0:Nat→Pl→Prop}
  (W:It C A (top+3) xs tg it St0) (x:Good C F st1 q) (hst:St0 0 q) (hD:q.own D=top+1) (pl:q.h.PlainList D (List.toArray [])) {h4:Heap} {m:Str→Option Value} (hns:h4.Ns q.h.objs.size m)
  (hsb:Heap.SameBut q.h.objs.size (q.h.push { cls:=.type "dict",data:=.dict #[] }) h4) {tk:Nat} :
  Now C F (top<·) q st1 ⟨lab q.own q.h.objs.size (top+2),q.la,{ q.s with heap:=h4,toks:=tk }⟩∧Good C (compF F top scope q.h.objs.size) st1 ⟨lab q.own q.h.objs.size (top+2),q.la,{ q.s with heap:=h4,toks:=tk }⟩ ∧
   St0 0 ⟨lab q.own q.h.objs.size (top+2),q.la,{ q.s with heap:=h4,toks:=tk }⟩∧AccOk C D (top+1) [] ⟨lab q.own q.h.objs.size (top+2),q.la,{ q.s with heap:=h4,toks:=tk }⟩ :=
 have kp:∀ b,b≠q.h.objs.size→∀ o,q.h.get? b=some o→h4.get? b=some o:=fun b ne o e=>hsb.extBut b o ne (Heap.get?_push_of_some _ e)
 have g:=x.mark (s':={ q.s with heap:=h4,toks:=tk }) (k:=top+2) ok (fun o e=>absurd e (get_new q.h o)) kp fun _=>ns_has hns
 have gf:=new_stp (k:=top+2) (s':={ q.s with heap:=h4,toks:=tk }) (get_new q.h) kp
 ⟨⟨g.2,⟨_,_,rfl⟩,g.1,pre_nil⟩,⟨g.2.inv,⟨g.2.loc.len,g.2.loc.nodup,g.2.loc.each⟩,comp_env ok hnm hs hu g.2.env hns lab_self,g.2.fresh⟩,W.step hst gf id,AccOk.step ⟨hD,[],pl,rfl⟩ gf id⟩
theorem comp_core (ok:F.Ok top) (hh:A.handled=none) (hnm:F.env.scope.names=nm) (hs:chkScope nm scope.names ts=true) (hk:scope.kind=.function) (hu:∀ t∈ts,dget st1.ρ t=none) (hfold:∀ x,foldedSetIterable iter F.env x=pure x)
  (hIt:wp C A (eval iter F.env) (Out C F (SE F (top+2)) p st1 (IterR C (top+3) iv)) p.s) (e2:itemsOf iv=some xs) (hz:isZp iv=false∨isTupT tg=true) (x:Good C F st p)
  (hTurn:∀ L it D St0 q,It C A (top+3) xs tg it St0→Good C (compF F top scope L) st1 q→St0 0 q→AccOk C D (top+1) [] q →
   codeAny C.M A (.compLoop (.ListComp elt (⟨tg,iter,ifs,0⟩::rest) scope pos) 0 it (.ref D) (compF F top scope L).env) (fun r s'=>r=.ok .next∧Out C (compF F top scope L) (SC (compF F top scope L) (top+2) (top+1)) q st2 (AccR C D (top+1) ys) () s') q.s)
  (hsz:ys.length≤cap) (hQ:∀ D L q,Done C F top p ⟨st1.ρ,st2.lh,st2.g⟩ ys D L q→compPost C.M A F0 use Q (.ref D) L (.ok .next) q.s) :
  wp C A (comprehension (.ListComp elt (⟨tg,iter,ifs,0⟩::rest) scope pos) scope F.env pp (newList []) false (eval iter F.env) use) Q p.s:=by
 refine wpAny_comprehension_free (use:=use) rfl hfold (closureFor_eq fun n h=>cell_of hnm hs x.env h) hk (fun y hy hl=>look_nodup (scope_nodup hs) (hl▸hy)) (seq hIt fun v p1 n1 iv1=>(iter_make (tg:=tg) hh (ok.more 2) n1.good iv1 e2 hz).mono fun it s2 h2=>h2.elim fun own2 h2=>h2.elim fun St0 h2=>wpAny_newObj_type ?_)
 have n2:Now C F (SE F top) p st1 ⟨own2,p1.la,s2⟩:=(n1.mono ok.e0 fun _=>SE.up).trans (h2.2.1.mono ok.e0 fun n h=>.inr (.inr (Nat.lt_trans (lt2 top) h)))
 have g3:=n2.good.mark (s':={ s2 with heap:=s2.heap.push { cls:=.type "list",dict:=none,data:=.seq ([]:List Value).toArray } }) (k:=top+1) ok (fun o e=>absurd e (get_new s2.heap o)) (fun b _=>Kp.push _ _ b) fun _=>⟨_,Heap.get?_push_size _ rfl⟩
 have st3:=h2.1.step h2.2.2 (new_stp (p:=⟨own2,p1.la,s2⟩) (k:=top+1) (s':={ s2 with heap:=s2.heap.push { cls:=.type "list",dict:=none,data:=.seq ([]:List Value).toArray } }) (get_new s2.heap) fun b _=>Kp.push _ _ b) id
 refine wpAny_newFunctionEnv (fun y hy=>scope_kind (P:=fun k=>k≠.cell) hs (show (y.1,y.2)∈scope.names from hy) (fun _ e=>nomatch e) (fun _ e=>nomatch e) fun e=>nomatch e) (fun y hy=>nomatch hy) (fun h4 hns hsb=>?_) hk
 have f:=frame_start (scope:=scope) (tk:=s2.toks) ok hnm hs hu h2.1 g3.2 st3 lab_self ⟨0,Heap.get?_push_size _ rfl⟩ hns hsb
 have n4:=(n2.trans ⟨g3.2,⟨_,_,rfl⟩,g3.1.mono ok.e0 fun n h=>.inr (.inr h),pre_nil⟩).trans (f.1.mono ok.e0 fun n h=>.inr (.inr h))
 have go:codeAny C.M A (.compLoop (.ListComp elt (⟨tg,iter,ifs,0⟩::rest) scope pos) 0 it (.ref s2.heap.objs.size) (compF F top scope (s2.heap.push { cls:=.type "list",dict:=none,data:=.seq ([]:List Value).toArray }).objs.size).env)
   (compPost C.M A F0 use Q (.ref s2.heap.objs.size) (s2.heap.push { cls:=.type "list",dict:=none,data:=.seq ([]:List Value).toArray }).objs.size) { s2 with heap:=h4,toks:=s2.toks } :=
  codeAny_mono (hTurn _ it _ St0 _ h2.1 f.2.1 f.2.2.1 f.2.2.2) fun r s5 h5=>h5.1.symm▸h5.2.elim fun own5 k=>k.elim fun la5 k=>hQ _ _ ⟨_,la5,s5⟩ (done_of (q:=⟨own5,la5,s5⟩) ok hk n4 k.1 f.1.good.env k.2 hsz)
 exact codeAny_compStart_list go ((h2.1.self f.2.2.1).mono fun r s5 h5=>h5.1.symm▸h5.2.symm▸go)
end
end
structure Ob (h:Heap) (x dx c:Addr) (m:Str→Option Value):Prop where
 obj:h.get? x=some (instObj c dx)
 ns:h.Ns1 dx m
structure PlainCls (K:Frag) (c:Addr):Prop where
 get:plainGet K c ""=true
 hasD:hasDictIn K c=true
 over:plainOver K c=true
 set:findIn K (.ref c) "__setattr__"=some (some (.builtin "object.__setattr__"))
section
variable {prog:Program} {w:World} {A:Around} {E:Value→Shared→Prop} {s:Shared} {h:Heap} {K:Frag} {x dx c f:Addr} {m:Str→Option Value} {name:Str} {v:Value}
theorem Ob.look (I:Ob h x dx c m):∃ od,InstAt h x (instObj c dx) c (some od)∧∀ name,lookIn name od=some (m name):=by
 obtain ⟨od,es,ep,e,d,sk,_,f⟩:=I.ns
 refine ⟨od,⟨I.obj,rfl,rfl,e⟩,fun name=>?_⟩
 have hf:(es.toList.find? (·.key.isStr name)).map (·.val)=m name:=by
  rw [← f name,Array.find?_toList]
  rfl
 have hr:es.toList.any (·.refKey)=false:=List.any_eq_false.mpr fun y hy=>(sk y (Array.mem_toList_iff.mp hy)).elim fun n q=>q.elim fun t q=>by
  unfold DictEntry.refKey
  rw [q]
  exact Bool.false_ne_true
 unfold lookIn
 rw [d]
 show (match es.toList.find? (·.key.isStr name) with | some e=>some (some e.val) | none=>if es.toList.any (·.refKey) then none else some none)=_
 rw [← hf,hr]
 cases es.toList.find? (·.key.isStr name) <;> rfl
theorem Ob.ne (I:Ob h x dx c m):x≠dx:=fun q=>by
 obtain ⟨od,es,ep,e,d,_⟩:=I.ns
 cases (q▸I.obj).symm.trans e
 cases d
theorem Ob.keep {h':Heap} (I:Ob h x dx c m) (k:∀ b o,h.get? b=some o→h'.get? b=some o):Ob h' x dx c m:=⟨k _ _ I.obj,I.ns.at (k _)⟩
theorem get_attr {expr:Bool} {Q:Value→Shared→Prop} (X:K.In s.heap) (P:PlainCls K c) (I:Ob s.heap x dx c m) (ha:findIn K (.ref c) name=some none) (hm:m name=some v) (hv:handedIn v=true) (k:Q v { s with toks:=s.toks+1 }) :
  wpAny (model prog w) A (getAttr (.ref x) name expr) Q E s :=
 I.look.elim fun od q=>get_value X q.1 (plainGet_of P.get).1 (findObj_own P.hasD ha rfl ((q.2 name).trans (congrArg some hm))) hv k
theorem get_meth {pl:Sem Bool} {Q:Value×List Value→Shared→Prop} (X:K.In s.heap) (P:PlainCls K c) (I:Ob s.heap x dx c m) (hf:findIn K (.ref c) name=some (some (.ref f))) (hi:isFn K (.ref f)=true) (hm:m name=none) (k:Q (.ref f,[.ref x]) s) :
  wpAny (model prog w) A (getMethod (.ref x) name pl) Q E s :=
 I.look.elim fun od q=>method_fn X q.1 (plainGet_of P.get).1 (plainGet_of P.get).2 hf (beq_iff_eq.mp hi) (show (lookIn name od).map _=_ by rw [q.2,hm];rfl) k
theorem set_attr {ns:List Str} {Q:Unit→Shared→Prop} (X:K.In s.heap) (P:PlainCls K c) (I:Ob s.heap x dx c m) (ha:findIn K (.ref c) name=some none) (hw:Within m ns) (hn:ns.length≤1000)
  (k:∀ h' tk,Ob h' x dx c (fun y=>if y=name then some v else m y)→Heap.SameBut dx s.heap h'→Q () { s with heap:=h',toks:=tk }):wpAny (model prog w) A (setAttr (.ref x) name v) Q E s:=by
 obtain ⟨od,I',_⟩:=I.look
 obtain ⟨cd,hc,hd⟩:=any_some P.hasD
 refine set_plain X I' P.set (osa_open (s:={ s with toks:=s.toks+1 }) X I' P.over (r:=none) (by unfold takerIn;rw [ha];rfl) fun b=>?_)
 refine wpAny_bind (wpAny_pure (wpAny_bind (wpAny_bind (wpAny_loadPart (s:={ s with toks:=s.toks+1 }) I.obj (wpAny_bind (Looks.here (s:={ s with toks:=s.toks+1 }) (looks_clsIn X hc) ?_))))))
 rw [hd]
 refine wpAny_pure (a:=some dx) (wpAny_bind (wpAny_pure (wpAny_bind (wpAny_nsSet1 I.ns fun h' hn' hs=>?_))))
 obtain ⟨oD,esD,epD,hoD,hdD,hcD⟩:=hn'.count (Within.cons name v hw)
 exact wpAny_bind (wpAny_lookBehind hoD (by rw [hdD];exact pastItsLine_dict (Nat.le_trans hcD (by rw [sizeLine_eq];exact Nat.le_trans (Nat.succ_le_succ hn) (by decide)))) (wpAny_pure (k h' _ ⟨(hs.2 x I.ne).trans I.obj,hn'⟩ hs)))
end
noncomputable def isM (f:Fn):Bool:=Nat.ble 15 f&&Nat.blt f 27
noncomputable def isF (f:Fn):Bool:=Nat.blt f 15
noncomputable def fnames:List Str:=["_law_draw","_law_atoms","_law_leaf","_law_arrow","_law_tuples","_law_value","_law_fits","_law_is_watched","_law_beside","_law_read","_law_holds","_law_bound","_law_is_right","_law_leaves","all_of",
 "marked","expr","spend","expr_of","used","wanted","is_marked","side","each_of","guarded","arity","fresh"]
noncomputable def fname (f:Fn):Str:=fnames.getD f ""
noncomputable def gname (k:Nat):Str:=(["_law_marks","NUMBER_HEADS","TRUTH_HEADS","MOST_NODES","MOST_LEVELS"]:List Str).getD k ""
theorem isM_names:(List.range 27).all (fun f=>!isM f||!opNames.elem (fname f))=true:=by decide +kernel
theorem isM_name {f:Fn} (h:isM f=true):fname f∉opNames:=fun q=>by
 have:=List.all_eq_true.mp isM_names f (List.mem_range.mpr (Nat.le_of_ble_eq_true (and_is h).2))
 rw [h,List.elem_iff.mpr q] at this
 cases this
noncomputable def biNames:List (Str×Value):=[("int",.type "int"),("len",.builtin "len"),("sorted",.builtin "sorted"),("list",.type "list"),("tuple",.type "tuple"),("sum",.builtin "sum"),("max",.builtin "max"),("set",.type "set"),("range",.type "range"),("zip",.type "zip")]
structure COk (C:Cfg) (fa:Fn→Addr):Prop where
 K:C.K.In C.h₀
 globals:C.h₀.Ns mainGlobals C.mg
 builtins:C.h₀.Ns builtinsNs C.mb
 nolim:C.h₀.NoLimit
 cls:PlainCls C.K C.clsO
 attr:∀ a,a<4→findIn C.K (.ref C.clsO) (aname a)=some none
 meth:∀ f,isM f=true→findIn C.K (.ref C.clsO) (fname f)=some (some (.ref (fa f)))∧isFn C.K (.ref (fa f))=true
 glob:∀ f,isF f=true→C.mg (fname f)=some (.ref (fa f))
 fo:∀ f,Nat.blt f 27=true→∃ o fd,C.h₀.get? (fa f)=some o∧o.data=.func fd
 gv:∀ k d,k<5→globV k=some d→∃ v,C.mg (gname k)=some v∧∀ s:Shared,s.heap=C.h₀→Rep C ⟨fun _=>0,[],s⟩ d v
 bi:∀ x∈biNames,C.mg x.1=none∧C.mb x.1=some x.2
 sys:Has C.h₀ cStatics
section
variable {C:Cfg} {F:Fr} {A:Around} {S:Nat→Prop} {p:Pl} {st:St} {top:Nat} {E:Value→Shared→Prop} {fa:Fn→Addr}
theorem Inv.K (co:COk C fa) {g:GS} (x:Inv C g p):C.K.In p.h:=fun a o e=>(x.base a o (co.K a o e)).1
theorem OpOk.ob {g:GS} (y:OpOk C g p):∃ m,Ob p.h C.aO C.dO C.clsO m∧OpEs g m:=y.es.elim fun m z=>⟨m,⟨y.obj,z.1⟩,z.2⟩
theorem OpEs.none {g:GS} {m:Str→Option Value} (x:OpEs g m) {n:Str} (h:n∉opNames):m n=none:=Classical.byContradiction fun q=>h (x.within n q)
theorem gl_lt {g:GS} {a:Nat} {i:Int} (h:(gl g)[a]?=some i):a<4:=(List.getElem?_eq_some_iff.mp h).1
theorem attr_get (z:¬ S 0) (co:COk C fa) (x:Good C F st p) (ho:C.hasOp=true) {a:Nat} {d:AV} {expr:Bool} (e:attrV st.g a=some d):wp C A (getAttr (.ref C.aO) (aname a) expr) (Out C F S p st (RepT C · d)) p.s :=
 (x.inv.op ho).ob.elim fun m q=>omap_is e fun i hi e=>(q.2.vals a i hi).elim fun t ht=>e▸get_attr (x.inv.K co) co.cls q.1 (co.attr a (gl_lt hi)) ht rfl (.int z x)
theorem meth_get (co:COk C fa) (x:Good C F st p) (ho:C.hasOp=true) {f:Fn} (hf:isM f=true) {pl:Sem Bool} {Q:Value×List Value→Shared→Prop} (h:Q (.ref (fa f),[.ref C.aO]) p.s) :
  wp C A (getMethod (.ref C.aO) (fname f) pl) Q p.s :=
 (x.inv.op ho).ob.elim fun m q=>get_meth (x.inv.K co) co.cls q.1 (co.meth f hf).1 (co.meth f hf).2 (q.2.none (isM_name hf)) h
theorem attr_in:∀ a<4,aname a∈opNames:=by decide +kernel
theorem attr_ne:∀ a<4,∀ b<4,aname a=aname b→a=b:=by decide +kernel
theorem setG_is {g g':GS} {a:Nat} {i:Int} (e:setG g a i=some g'):a<4∧gl g'=(gl g).set a i∧g'.spot=g.spot:=match a,e with
 | 0,e | 1,e | 2,e | 3,e=>some_is (Q:=fun g'=>_<4∧gl g'=(gl g).set _ i∧g'.spot=g.spot) e ⟨by decide,rfl,rfl⟩
 | a+4,e=>nn e
theorem OpEs.put {g g':GS} {m:Str→Option Value} (x:OpEs g m) {a:Nat} {i:Int} {t:Tok} (e:setG g a i=some g'):OpEs g' fun y=>if y=aname a then some (.int i t) else m y :=
 have k:=setG_is e
 ⟨fun y hy=>if q:y=aname a then q▸attr_in a k.1 else x.within y fun z=>hy ((if_neg q).trans z),
  fun b j hj=>set_each (l:=gl g) (n:=a) (y:=i) (P:=fun b j=>∃ t',(if aname b=aname a then some (Value.int i t) else m (aname b))=some (.int j t'))
   (fun b j ne hj=>(x.vals b j hj).elim fun t' ht=>⟨t',(if_neg fun q=>ne (attr_ne b (gl_lt hj) a k.1 q)).trans ht⟩) ⟨t,if_pos rfl⟩ b j (k.2.1▸hj)⟩
theorem attr_set (ok:F.Ok top) (co:COk C fa) (x:Good C F st p) (ho:C.hasOp=true) {a:Nat} {i:Int} {t:Tok} {g':GS} (e:setG st.g a i=some g') :
  wp C A (setAttr (.ref C.aO) (aname a) (.int i t)) (Out C F (·=1) p ⟨st.ρ,st.lh,g'⟩ TT) p.s :=
 have y:=x.inv.op ho
 have K:=setG_is e
 y.ob.elim fun m q=>set_attr (x.inv.K co) co.cls q.1 (co.attr a K.1) q.2.within (by decide) fun h' tk I hs =>
  ⟨p.own,p.la,Now.setG (s':={ p.s with heap:=h',toks:=tk }) ok x y.o1 hs (ns_has I.ns.ns) ⟨_,_,rfl⟩ fun g=>⟨fun b o e=>have k:=x.inv.base b o e;g.get0 k.2 k.1,
   fun eS=>have z:=x.inv.sl eS;⟨z.own,z.es.elim fun t' m=>⟨t',K.2.2.symm▸dictOf_at m fun o e=>(hs.2 _ y.ne.symm).trans e⟩,z.cells.step g _ _⟩,
   fun _=>⟨y.o0,y.o1,y.ne,(g.get0 y.o0 y.obj).1,_,I.ns,q.2.put e⟩⟩,trivial⟩
theorem slate_set (ok:F.Ok top) (x:Good C F st p) {i:Int} {t tk:Tok} (eS:C.hasS=true):wp C A (setItem (.ref C.aS) (.str (txt 24) tk) (.int i t)) (Out C F (·=1) p ⟨st.ρ,st.lh,⟨i,st.g.spent,st.g.height,st.g.peak,st.g.count⟩⟩ TT) p.s :=
 have y:=x.inv.sl eS
 y.es.elim fun t' m=>wpAny_setItem_pairs (knd:=C.knd) (strKind_is C.prog C.w _ tk) m fun h' m' hs=>by
  have e:stored [(txt 23,Value.ref C.aC),(txt 24,.int st.g.spot t')] (txt 24) (.int i t)=[(txt 23,.ref C.aC),(txt 24,.int i t)]:=by
   unfold stored
   simp [txt23_24]
  rw [e] at m'
  exact ⟨p.own,p.la,Now.setG ok x y.own hs (dictOf_has m') ⟨_,_,rfl⟩ fun g=>⟨fun b o e=>have k:=x.inv.base b o e;g.get0 k.2 k.1,fun _=>⟨y.own,⟨t,m'⟩,y.cells.step g _ _⟩,
   fun ho=>have z:=x.inv.op ho;⟨z.o0,z.o1,z.ne,(g.get0 z.o0 z.obj).1,z.es.elim fun m k=>⟨m,k.1.at fun o e=>(hs.2 _ z.ne).trans e,k.2.within,k.2.vals⟩⟩⟩,trivial⟩
end
section
variable {C:Cfg} {F:Fr} {A:Around} {S:Nat→Prop} {p p':Pl} {st st':St} {top:Nat} {nm:List (Str×NameKind)} {c:Bool} {d:AV} {v o:Value}
theorem turn_is {f:LO→Option LO} {ov:AV} (x:Good C F st p) (r:RepT C p ov o) (e:turn ov st f=some st') {P:Prop} (k:∀ n a lo lo',o=.ref a→st.lh[n]?=some (lo,false)→p.la[n]?=some a→p.own a=F.kl→RepO C p a lo→f lo=some lo'→⟨st.ρ,st.lh.set n (lo',false),st.g⟩=st'→P):P :=
 obind_is e fun n h1 e=>obind_is e fun z hz e=>cond_or e (fun _ h=>nn h) fun hb e=>omap_is e fun lo' h2 e=>(x.at hz (r.loc h1)).elim fun a q =>
  have hz:st.lh[n]?=some (z.1,false):=hz.trans (congrArg some (Prod.ext rfl hb))
  k n a z.1 lo' q.1 hz q.2.1 (q.2.2.1.trans (hb▸rfl)) q.2.2.2 h2 e
theorem app_ok (ok:F.Ok top) (x:Good C F st p) {ov:AV} (r:RepT C p ov o) (rv:Rep C p d v) (e:growV ov [d] st=some st'):wp C A (call (.builtin "list.append") [o,v]) (Out C F (·=F.kl) p st' TT) p.s :=
 turn_is x r e fun n a lo lo' ho hn ha hk hr e he=>obind_is e fun l hl e=>cond_is e fun hs e3=>by
  clear e
  cases loL_is hl
  cases e3
  cases he
  obtain ⟨vs,hp,_,hv⟩:=hr
  have hc:vs.length+1≤cap:=hv.length▸small_le hs
  rw [ho]
  exact wpAny_list_append_plain hp (fun h' hp' hs=>⟨_,_,(Now.setAt (s':={ p.s with heap:=h' }) (lo':=.lst (l++[d])) (fz':=false) ok x hn ha ⟨_,_,rfl⟩ (same_k hs) (.inl rfl) fun g _ =>
   ⟨vs++[v],push_snoc vs v▸hp',List.length_append▸hc,(hv.step g _ _).append (.one (rv.step g _ _))⟩).1,trivial⟩) (Nat.le_trans (Nat.le_of_succ_le hc) cap_line)
theorem ext_ok (ok:F.Ok top) (x:Good C F st p) {ov:AV} {m:List AV} (r:RepT C p ov o) (rv:Rep C p (.lst m) v) (e:growV ov m st=some st'):wp C A (call (.builtin "list.extend") [o,v]) (Out C F (·=F.kl) p st' TT) p.s :=
 turn_is x r e fun n a lo lo' ho hn ha hk hr e he=>obind_is e fun l hl e=>cond_is e fun hs e3=>by
  clear e
  cases loL_is hl
  cases e3
  cases he
  obtain ⟨vs,⟨n1,g1⟩,_,hv⟩:=hr
  obtain ⟨b,us,rfl,_,⟨n2,g2⟩,_,ru⟩:=rv
  have hc:vs.length+us.length≤cap:=by rw [hv.length,ru.length];exact small_le hs
  have hc':=Nat.le_trans hc cap_line
  rw [ho]
  refine call_meets PySem.F.slot_list_extend ⟨_,g1,rfl⟩ PySem.F.entry_list_extend (PySem.F.args_list_extend_2 _ _) (AutoSeq1.list_extend_list_list_0 a (List.toArray vs) n1 b (List.toArray us) n2 ?_ (Nat.le_trans (Nat.le_add_right _ _) hc') (Nat.le_succ_of_le hc')) ⟨g1,g2,?_⟩
  ·intro q
   have:=(and_is q).2
   unfold Builtin.List.listTooLong at this
   exact absurd (of_decide_eq_true this) (Nat.not_lt.mpr hc')
  have hs:Heap.SameBut a p.h (p.h.update a (Obj.mapSeq fun x=>x++List.toArray us)):=Heap.SameBut.update ..
  have hu:=Heap.get?_update_self (Obj.mapSeq fun x=>x++List.toArray us) g1 rfl
  exact ⟨_,_,(Now.setAt (s':={ p.s with heap:=p.h.update a (Obj.mapSeq fun x=>x++List.toArray us) }) (lo':=.lst (l++m)) (fz':=false) ok x hn ha ⟨_,_,rfl⟩ (same_k hs) (.inl rfl) fun g _ =>
   ⟨vs++us,⟨_,hu.trans (by rw [← List.append_toArray];rfl)⟩,List.length_append▸hc,(hv.step g _ _).append (ru.step g _ _)⟩).1,trivial⟩
theorem txt_dec {c d:Nat} (hc:okc c=true) (hd:okc d=true):decide (txt c=txt d)=Nat.beq c d:=(Bool.eq_iff_iff.mpr ⟨fun q=>beq_iff_eq.mpr (of_decide_eq_true q),fun q=>decide_eq_true (eq_of_beq q)⟩:_=(txt c == txt d)).trans (txt_beq hc hd)
theorem stored_cons {k c:Nat} {v w:Value} {us:List (Str×Value)} (hk:okc k=true) (hc:okc c=true) (nd:(((txt k,w)::us).map (·.1)).Nodup):stored ((txt k,w)::us) (txt c) v=cond (Nat.beq k c) ((txt k,v)::us) ((txt k,w)::stored us (txt c) v):=by
 have nd:=List.nodup_cons.mp nd
 unfold stored
 rw [List.any_cons,txt_dec hk hc]
 cases q:Nat.beq k c
 ·have ne:¬ txt k=txt c:=of_decide_eq_false ((txt_dec hk hc).trans q)
  rw [Bool.false_or,List.map_cons,if_neg ne]
  split <;> rfl
 ·have e:txt k=txt c:=congrArg txt (Nat.eq_of_beq_eq_true q)
  rw [Bool.true_or,if_pos rfl,List.map_cons,if_pos e]
  show _::_=(txt k,v)::us
  rw [← e]
  refine congrArg ((txt k,v)::·) ((List.map_congr_left (g:=id) fun kv hkv=>?_).trans (List.map_id _))
  rw [if_neg (fun q=>nd.1 (List.mem_map.mpr ⟨kv,hkv,q⟩))]
  rfl
theorem repD_put:∀ {l:List (Nat×AV)} {kvs:List (Str×Value)} {c:Nat} {d:AV} {v:Value},RepD C p l kvs→okc c=true→Rep C p d v→(kvs.map (·.1)).Nodup→RepD C p (dput l c d) (stored kvs (txt c) v)
 | [],_,c,d,v,h,hc,r,_=>Eq.symm h▸⟨v,[],rfl,hc,r,rfl⟩
 | (k,w)::l,_,c,d,v,h,hc,r,nd=>by
  obtain ⟨u,us,rfl,hk,rw_,rr⟩:=h
  rw [stored_cons hk hc nd]
  have ih:=repD_put rr hc r (List.nodup_cons.mp nd).2
  show RepD C p (cond (Nat.beq k c) ((k,d)::l) ((k,w)::dput l c d)) _
  cases Nat.beq k c
  ·exact ⟨u,_,rfl,hk,rw_,ih⟩
  ·exact ⟨v,us,rfl,hk,r,rr⟩
theorem RepD.length:∀ {l:List (Nat×AV)} {kvs:List (Str×Value)},RepD C p l kvs→kvs.length=l.length
 | [],_,h=>h▸rfl
 | (c,d)::l,_,h=>h.elim fun v h=>h.elim fun us h=>h.1▸congrArg (·+1) h.2.2.2.length
theorem dictOf_nodup {h:Heap} {a:Addr} {kvs:List (Str×Value)} (x:h.DictOf C.knd a kvs):(kvs.map (·.1)).Nodup:=x.elim fun o x=>x.elim fun es x=>x.elim fun ep x=>x.2.2.2.2.2
theorem dset_ok (ok:F.Ok top) (x:Good C F st p) {ov:AV} {c:Nat} {tk:Tok} (r:RepT C p ov o) (rv:Rep C p d v) (hc:okc c=true) (e:(turn ov st fun o=>(loD o).bind fun l=>cond (Nat.blt l.length 1000) (some (.dct (dput l c d))) none)=some st') :
  wp C A (setItem o (.str (txt c) tk) v) (Out C F (·=F.kl) p st' TT) p.s :=
 turn_is x r e fun n a lo lo' ho hn ha hk hr e he=>obind_is e fun l hl e=>cond_is e fun hs e3=>by
  clear e
  cases loD_is hl
  cases e3
  cases he
  obtain ⟨kvs,hp,hm,hv⟩:=hr
  rw [ho]
  exact wpAny_setItem_pairs (knd:=C.knd) (strKind_is C.prog C.w _ tk) hp (fun h' hp' hs=>⟨_,_,(Now.setAt (s':={ p.s with heap:=h',toks:=p.s.toks+1 }) (lo':=.dct (dput l c d)) (fz':=false) ok x hn ha ⟨_,_,rfl⟩ (same_k hs) (.inl rfl) fun g _ =>
   ⟨_,hp',hm,repD_put (hv.step g _ _) hc (rv.step g _ _) (dictOf_nodup hp)⟩).1,trivial⟩) (by rw [hv.length,sizeLine_eq];exact Nat.le_trans (Nat.le_of_lt (Nat.le_of_ble_eq_true hs)) (by decide))
end
noncomputable def onExpr (t:PySem.Expr) (n:Nat) (m:t.ctorIdx=n→Bool):Bool:=if h:t.ctorIdx=n then m h else false
theorem onExpr_is {t:PySem.Expr} {n:Nat} {m:t.ctorIdx=n→Bool} (h:onExpr t n m=true):∃ q,m q=true:=by
 unfold onExpr at h
 by_cases q:t.ctorIdx=n
 ·rw [dif_pos q] at h;exact ⟨q,h⟩
 ·rw [dif_neg q] at h;cases h
noncomputable def isBoolOp (t:PySem.Expr) (f:BoolOp→List PySem.Expr→Pos→Bool):Bool:=onExpr t 0 fun q=>PySem.Expr.BoolOp.elim (motive_1:=fun _=>Bool) t q f
theorem isBoolOp_is {t:PySem.Expr} {f:BoolOp→List PySem.Expr→Pos→Bool} {P:PySem.Expr→Prop} (h:isBoolOp t f=true) (k:∀ (x0:BoolOp) (x1:List PySem.Expr) (x2:Pos),f x0 x1 x2=true→P (.BoolOp x0 x1 x2)):P t :=
 (onExpr_is h).elim fun q h=>PySem.Expr.BoolOp.elim (motive_1:=fun t=>∀ q:t.ctorIdx=0,PySem.Expr.BoolOp.elim (motive_1:=fun _=>Bool) t q f=true→P t) t q (fun x0 x1 x2 _ h=>k x0 x1 x2 h) q h
noncomputable def isBinOp (t:PySem.Expr) (f:PySem.Expr→Operator→PySem.Expr→Pos→Bool):Bool:=onExpr t 2 fun q=>PySem.Expr.BinOp.elim (motive_1:=fun _=>Bool) t q f
theorem isBinOp_is {t:PySem.Expr} {f:PySem.Expr→Operator→PySem.Expr→Pos→Bool} {P:PySem.Expr→Prop} (h:isBinOp t f=true) (k:∀ (x0:PySem.Expr) (x1:Operator) (x2:PySem.Expr) (x3:Pos),f x0 x1 x2 x3=true→P (.BinOp x0 x1 x2 x3)):P t :=
 (onExpr_is h).elim fun q h=>PySem.Expr.BinOp.elim (motive_1:=fun t=>∀ q:t.ctorIdx=2,PySem.Expr.BinOp.elim (motive_1:=fun _=>Bool) t q f=true→P t) t q (fun x0 x1 x2 x3 _ h=>k x0 x1 x2 x3 h) q h
noncomputable def isUnaryOp (t:PySem.Expr) (f:UnaryOp→PySem.Expr→Pos→Bool):Bool:=onExpr t 3 fun q=>PySem.Expr.UnaryOp.elim (motive_1:=fun _=>Bool) t q f
theorem isUnaryOp_is {t:PySem.Expr} {f:UnaryOp→PySem.Expr→Pos→Bool} {P:PySem.Expr→Prop} (h:isUnaryOp t f=true) (k:∀ (x0:UnaryOp) (x1:PySem.Expr) (x2:Pos),f x0 x1 x2=true→P (.UnaryOp x0 x1 x2)):P t :=
 (onExpr_is h).elim fun q h=>PySem.Expr.UnaryOp.elim (motive_1:=fun t=>∀ q:t.ctorIdx=3,PySem.Expr.UnaryOp.elim (motive_1:=fun _=>Bool) t q f=true→P t) t q (fun x0 x1 x2 _ h=>k x0 x1 x2 h) q h
noncomputable def isIfExp (t:PySem.Expr) (f:PySem.Expr→PySem.Expr→PySem.Expr→Pos→Bool):Bool:=onExpr t 5 fun q=>PySem.Expr.IfExp.elim (motive_1:=fun _=>Bool) t q f
theorem isIfExp_is {t:PySem.Expr} {f:PySem.Expr→PySem.Expr→PySem.Expr→Pos→Bool} {P:PySem.Expr→Prop} (h:isIfExp t f=true) (k:∀ (x0:PySem.Expr) (x1:PySem.Expr) (x2:PySem.Expr) (x3:Pos),f x0 x1 x2 x3=true→P (.IfExp x0 x1 x2 x3)):P t :=
 (onExpr_is h).elim fun q h=>PySem.Expr.IfExp.elim (motive_1:=fun t=>∀ q:t.ctorIdx=5,PySem.Expr.IfExp.elim (motive_1:=fun _=>Bool) t q f=true→P t) t q (fun x0 x1 x2 x3 _ h=>k x0 x1 x2 x3 h) q h
noncomputable def isDict (t:PySem.Expr) (f:List (Option PySem.Expr)→List PySem.Expr→Pos→Bool):Bool:=onExpr t 6 fun q=>PySem.Expr.Dict.elim (motive_1:=fun _=>Bool) t q f
theorem isDict_is {t:PySem.Expr} {f:List (Option PySem.Expr)→List PySem.Expr→Pos→Bool} {P:PySem.Expr→Prop} (h:isDict t f=true) (k:∀ (x0:List (Option PySem.Expr)) (x1:List PySem.Expr) (x2:Pos),f x0 x1 x2=true→P (.Dict x0 x1 x2)):P t :=
 (onExpr_is h).elim fun q h=>PySem.Expr.Dict.elim (motive_1:=fun t=>∀ q:t.ctorIdx=6,PySem.Expr.Dict.elim (motive_1:=fun _=>Bool) t q f=true→P t) t q (fun x0 x1 x2 _ h=>k x0 x1 x2 h) q h
noncomputable def isListComp (t:PySem.Expr) (f:PySem.Expr→List Comprehension→Scope→Pos→Bool):Bool:=onExpr t 8 fun q=>PySem.Expr.ListComp.elim (motive_1:=fun _=>Bool) t q f
theorem isListComp_is {t:PySem.Expr} {f:PySem.Expr→List Comprehension→Scope→Pos→Bool} {P:PySem.Expr→Prop} (h:isListComp t f=true) (k:∀ (x0:PySem.Expr) (x1:List Comprehension) (x2:Scope) (x3:Pos),f x0 x1 x2 x3=true→P (.ListComp x0 x1 x2 x3)):P t :=
 (onExpr_is h).elim fun q h=>PySem.Expr.ListComp.elim (motive_1:=fun t=>∀ q:t.ctorIdx=8,PySem.Expr.ListComp.elim (motive_1:=fun _=>Bool) t q f=true→P t) t q (fun x0 x1 x2 x3 _ h=>k x0 x1 x2 x3 h) q h
noncomputable def isCompare (t:PySem.Expr) (f:PySem.Expr→List CmpOp→List PySem.Expr→Pos→Bool):Bool:=onExpr t 15 fun q=>PySem.Expr.Compare.elim (motive_1:=fun _=>Bool) t q f
theorem isCompare_is {t:PySem.Expr} {f:PySem.Expr→List CmpOp→List PySem.Expr→Pos→Bool} {P:PySem.Expr→Prop} (h:isCompare t f=true) (k:∀ (x0:PySem.Expr) (x1:List CmpOp) (x2:List PySem.Expr) (x3:Pos),f x0 x1 x2 x3=true→P (.Compare x0 x1 x2 x3)):P t :=
 (onExpr_is h).elim fun q h=>PySem.Expr.Compare.elim (motive_1:=fun t=>∀ q:t.ctorIdx=15,PySem.Expr.Compare.elim (motive_1:=fun _=>Bool) t q f=true→P t) t q (fun x0 x1 x2 x3 _ h=>k x0 x1 x2 x3 h) q h
noncomputable def isCall (t:PySem.Expr) (f:PySem.Expr→List PySem.Expr→List Keyword→Pos→Bool):Bool:=onExpr t 16 fun q=>PySem.Expr.Call.elim (motive_1:=fun _=>Bool) t q f
theorem isCall_is {t:PySem.Expr} {f:PySem.Expr→List PySem.Expr→List Keyword→Pos→Bool} {P:PySem.Expr→Prop} (h:isCall t f=true) (k:∀ (x0:PySem.Expr) (x1:List PySem.Expr) (x2:List Keyword) (x3:Pos),f x0 x1 x2 x3=true→P (.Call x0 x1 x2 x3)):P t :=
 (onExpr_is h).elim fun q h=>PySem.Expr.Call.elim (motive_1:=fun t=>∀ q:t.ctorIdx=16,PySem.Expr.Call.elim (motive_1:=fun _=>Bool) t q f=true→P t) t q (fun x0 x1 x2 x3 _ h=>k x0 x1 x2 x3 h) q h
noncomputable def isFormattedValue (t:PySem.Expr) (f:PySem.Expr→Int→Option PySem.Expr→Pos→Bool):Bool:=onExpr t 17 fun q=>PySem.Expr.FormattedValue.elim (motive_1:=fun _=>Bool) t q f
theorem isFormattedValue_is {t:PySem.Expr} {f:PySem.Expr→Int→Option PySem.Expr→Pos→Bool} {P:PySem.Expr→Prop} (h:isFormattedValue t f=true) (k:∀ (x0:PySem.Expr) (x1:Int) (x2:Option PySem.Expr) (x3:Pos),f x0 x1 x2 x3=true→P (.FormattedValue x0 x1 x2 x3)):P t :=
 (onExpr_is h).elim fun q h=>PySem.Expr.FormattedValue.elim (motive_1:=fun t=>∀ q:t.ctorIdx=17,PySem.Expr.FormattedValue.elim (motive_1:=fun _=>Bool) t q f=true→P t) t q (fun x0 x1 x2 x3 _ h=>k x0 x1 x2 x3 h) q h
noncomputable def isJoinedStr (t:PySem.Expr) (f:List PySem.Expr→Pos→Bool):Bool:=onExpr t 18 fun q=>PySem.Expr.JoinedStr.elim (motive_1:=fun _=>Bool) t q f
theorem isJoinedStr_is {t:PySem.Expr} {f:List PySem.Expr→Pos→Bool} {P:PySem.Expr→Prop} (h:isJoinedStr t f=true) (k:∀ (x0:List PySem.Expr) (x1:Pos),f x0 x1=true→P (.JoinedStr x0 x1)):P t :=
 (onExpr_is h).elim fun q h=>PySem.Expr.JoinedStr.elim (motive_1:=fun t=>∀ q:t.ctorIdx=18,PySem.Expr.JoinedStr.elim (motive_1:=fun _=>Bool) t q f=true→P t) t q (fun x0 x1 _ h=>k x0 x1 h) q h
noncomputable def isConstant (t:PySem.Expr) (f:Const→Nat→Pos→Bool):Bool:=onExpr t 19 fun q=>PySem.Expr.Constant.elim (motive_1:=fun _=>Bool) t q f
theorem isConstant_is {t:PySem.Expr} {f:Const→Nat→Pos→Bool} {P:PySem.Expr→Prop} (h:isConstant t f=true) (k:∀ (x0:Const) (x1:Nat) (x2:Pos),f x0 x1 x2=true→P (.Constant x0 x1 x2)):P t :=
 (onExpr_is h).elim fun q h=>PySem.Expr.Constant.elim (motive_1:=fun t=>∀ q:t.ctorIdx=19,PySem.Expr.Constant.elim (motive_1:=fun _=>Bool) t q f=true→P t) t q (fun x0 x1 x2 _ h=>k x0 x1 x2 h) q h
noncomputable def isAttribute (t:PySem.Expr) (f:PySem.Expr→Str→Pos→Bool):Bool:=onExpr t 20 fun q=>PySem.Expr.Attribute.elim (motive_1:=fun _=>Bool) t q f
theorem isAttribute_is {t:PySem.Expr} {f:PySem.Expr→Str→Pos→Bool} {P:PySem.Expr→Prop} (h:isAttribute t f=true) (k:∀ (x0:PySem.Expr) (x1:Str) (x2:Pos),f x0 x1 x2=true→P (.Attribute x0 x1 x2)):P t :=
 (onExpr_is h).elim fun q h=>PySem.Expr.Attribute.elim (motive_1:=fun t=>∀ q:t.ctorIdx=20,PySem.Expr.Attribute.elim (motive_1:=fun _=>Bool) t q f=true→P t) t q (fun x0 x1 x2 _ h=>k x0 x1 x2 h) q h
noncomputable def isSubscript (t:PySem.Expr) (f:PySem.Expr→PySem.Expr→Pos→Bool):Bool:=onExpr t 21 fun q=>PySem.Expr.Subscript.elim (motive_1:=fun _=>Bool) t q f
theorem isSubscript_is {t:PySem.Expr} {f:PySem.Expr→PySem.Expr→Pos→Bool} {P:PySem.Expr→Prop} (h:isSubscript t f=true) (k:∀ (x0:PySem.Expr) (x1:PySem.Expr) (x2:Pos),f x0 x1 x2=true→P (.Subscript x0 x1 x2)):P t :=
 (onExpr_is h).elim fun q h=>PySem.Expr.Subscript.elim (motive_1:=fun t=>∀ q:t.ctorIdx=21,PySem.Expr.Subscript.elim (motive_1:=fun _=>Bool) t q f=true→P t) t q (fun x0 x1 x2 _ h=>k x0 x1 x2 h) q h
noncomputable def isName (t:PySem.Expr) (f:Str→Pos→Bool):Bool:=onExpr t 23 fun q=>PySem.Expr.Name.elim (motive_1:=fun _=>Bool) t q f
theorem isName_is {t:PySem.Expr} {f:Str→Pos→Bool} {P:PySem.Expr→Prop} (h:isName t f=true) (k:∀ (x0:Str) (x1:Pos),f x0 x1=true→P (.Name x0 x1)):P t :=
 (onExpr_is h).elim fun q h=>PySem.Expr.Name.elim (motive_1:=fun t=>∀ q:t.ctorIdx=23,PySem.Expr.Name.elim (motive_1:=fun _=>Bool) t q f=true→P t) t q (fun x0 x1 _ h=>k x0 x1 h) q h
noncomputable def isList (t:PySem.Expr) (f:List PySem.Expr→Pos→Bool):Bool:=onExpr t 24 fun q=>PySem.Expr.List.elim (motive_1:=fun _=>Bool) t q f
theorem isList_is {t:PySem.Expr} {f:List PySem.Expr→Pos→Bool} {P:PySem.Expr→Prop} (h:isList t f=true) (k:∀ (x0:List PySem.Expr) (x1:Pos),f x0 x1=true→P (.List x0 x1)):P t :=
 (onExpr_is h).elim fun q h=>PySem.Expr.List.elim (motive_1:=fun t=>∀ q:t.ctorIdx=24,PySem.Expr.List.elim (motive_1:=fun _=>Bool) t q f=true→P t) t q (fun x0 x1 _ h=>k x0 x1 h) q h
noncomputable def isTuple (t:PySem.Expr) (f:List PySem.Expr→Nat→Pos→Bool):Bool:=onExpr t 25 fun q=>PySem.Expr.Tuple.elim (motive_1:=fun _=>Bool) t q f
theorem isTuple_is {t:PySem.Expr} {f:List PySem.Expr→Nat→Pos→Bool} {P:PySem.Expr→Prop} (h:isTuple t f=true) (k:∀ (x0:List PySem.Expr) (x1:Nat) (x2:Pos),f x0 x1 x2=true→P (.Tuple x0 x1 x2)):P t :=
 (onExpr_is h).elim fun q h=>PySem.Expr.Tuple.elim (motive_1:=fun t=>∀ q:t.ctorIdx=25,PySem.Expr.Tuple.elim (motive_1:=fun _=>Bool) t q f=true→P t) t q (fun x0 x1 x2 _ h=>k x0 x1 x2 h) q h
noncomputable def isSlice (t:PySem.Expr) (f:Option PySem.Expr→Option PySem.Expr→Option PySem.Expr→Pos→Bool):Bool:=onExpr t 26 fun q=>PySem.Expr.Slice.elim (motive_1:=fun _=>Bool) t q f
theorem isSlice_is {t:PySem.Expr} {f:Option PySem.Expr→Option PySem.Expr→Option PySem.Expr→Pos→Bool} {P:PySem.Expr→Prop} (h:isSlice t f=true) (k:∀ (x0:Option PySem.Expr) (x1:Option PySem.Expr) (x2:Option PySem.Expr) (x3:Pos),f x0 x1 x2 x3=true→P (.Slice x0 x1 x2 x3)):P t :=
 (onExpr_is h).elim fun q h=>PySem.Expr.Slice.elim (motive_1:=fun t=>∀ q:t.ctorIdx=26,PySem.Expr.Slice.elim (motive_1:=fun _=>Bool) t q f=true→P t) t q (fun x0 x1 x2 x3 _ h=>k x0 x1 x2 x3 h) q h
noncomputable def onStmt (t:PySem.Stmt) (n:Nat) (m:t.ctorIdx=n→Bool):Bool:=if h:t.ctorIdx=n then m h else false
theorem onStmt_is {t:PySem.Stmt} {n:Nat} {m:t.ctorIdx=n→Bool} (h:onStmt t n m=true):∃ q,m q=true:=by
 unfold onStmt at h
 by_cases q:t.ctorIdx=n
 ·rw [dif_pos q] at h;exact ⟨q,h⟩
 ·rw [dif_neg q] at h;cases h
noncomputable def isSReturn (t:PySem.Stmt) (f:Option PySem.Expr→Pos→Bool):Bool:=onStmt t 3 fun q=>PySem.Stmt.Return.elim (motive_2:=fun _=>Bool) t q f
theorem isSReturn_is {t:PySem.Stmt} {f:Option PySem.Expr→Pos→Bool} {P:PySem.Stmt→Prop} (h:isSReturn t f=true) (k:∀ (x0:Option PySem.Expr) (x1:Pos),f x0 x1=true→P (.Return x0 x1)):P t :=
 (onStmt_is h).elim fun q h=>PySem.Stmt.Return.elim (motive_2:=fun t=>∀ q:t.ctorIdx=3,PySem.Stmt.Return.elim (motive_2:=fun _=>Bool) t q f=true→P t) t q (fun x0 x1 _ h=>k x0 x1 h) q h
noncomputable def isSAssign (t:PySem.Stmt) (f:List PySem.Expr→PySem.Expr→Pos→Bool):Bool:=onStmt t 5 fun q=>PySem.Stmt.Assign.elim (motive_2:=fun _=>Bool) t q f
theorem isSAssign_is {t:PySem.Stmt} {f:List PySem.Expr→PySem.Expr→Pos→Bool} {P:PySem.Stmt→Prop} (h:isSAssign t f=true) (k:∀ (x0:List PySem.Expr) (x1:PySem.Expr) (x2:Pos),f x0 x1 x2=true→P (.Assign x0 x1 x2)):P t :=
 (onStmt_is h).elim fun q h=>PySem.Stmt.Assign.elim (motive_2:=fun t=>∀ q:t.ctorIdx=5,PySem.Stmt.Assign.elim (motive_2:=fun _=>Bool) t q f=true→P t) t q (fun x0 x1 x2 _ h=>k x0 x1 x2 h) q h
noncomputable def isSFor (t:PySem.Stmt) (f:PySem.Expr→PySem.Expr→List PySem.Stmt→List PySem.Stmt→Pos→Bool):Bool:=onStmt t 9 fun q=>PySem.Stmt.For.elim (motive_2:=fun _=>Bool) t q f
theorem isSFor_is {t:PySem.Stmt} {f:PySem.Expr→PySem.Expr→List PySem.Stmt→List PySem.Stmt→Pos→Bool} {P:PySem.Stmt→Prop} (h:isSFor t f=true) (k:∀ (x0:PySem.Expr) (x1:PySem.Expr) (x2:List PySem.Stmt) (x3:List PySem.Stmt) (x4:Pos),f x0 x1 x2 x3 x4=true→P (.For x0 x1 x2 x3 x4)):P t :=
 (onStmt_is h).elim fun q h=>PySem.Stmt.For.elim (motive_2:=fun t=>∀ q:t.ctorIdx=9,PySem.Stmt.For.elim (motive_2:=fun _=>Bool) t q f=true→P t) t q (fun x0 x1 x2 x3 x4 _ h=>k x0 x1 x2 x3 x4 h) q h
noncomputable def isSIf (t:PySem.Stmt) (f:PySem.Expr→List PySem.Stmt→List PySem.Stmt→Pos→Bool):Bool:=onStmt t 12 fun q=>PySem.Stmt.If.elim (motive_2:=fun _=>Bool) t q f
theorem isSIf_is {t:PySem.Stmt} {f:PySem.Expr→List PySem.Stmt→List PySem.Stmt→Pos→Bool} {P:PySem.Stmt→Prop} (h:isSIf t f=true) (k:∀ (x0:PySem.Expr) (x1:List PySem.Stmt) (x2:List PySem.Stmt) (x3:Pos),f x0 x1 x2 x3=true→P (.If x0 x1 x2 x3)):P t :=
 (onStmt_is h).elim fun q h=>PySem.Stmt.If.elim (motive_2:=fun t=>∀ q:t.ctorIdx=12,PySem.Stmt.If.elim (motive_2:=fun _=>Bool) t q f=true→P t) t q (fun x0 x1 x2 x3 _ h=>k x0 x1 x2 x3 h) q h
noncomputable def isSTry (t:PySem.Stmt) (f:List PySem.Stmt→List ExceptHandler→List PySem.Stmt→List PySem.Stmt→Pos→Bool):Bool:=onStmt t 17 fun q=>PySem.Stmt.Try.elim (motive_2:=fun _=>Bool) t q f
theorem isSTry_is {t:PySem.Stmt} {f:List PySem.Stmt→List ExceptHandler→List PySem.Stmt→List PySem.Stmt→Pos→Bool} {P:PySem.Stmt→Prop} (h:isSTry t f=true) (k:∀ (x0:List PySem.Stmt) (x1:List ExceptHandler) (x2:List PySem.Stmt) (x3:List PySem.Stmt) (x4:Pos),f x0 x1 x2 x3 x4=true→P (.Try x0 x1 x2 x3 x4)):P t :=
 (onStmt_is h).elim fun q h=>PySem.Stmt.Try.elim (motive_2:=fun t=>∀ q:t.ctorIdx=17,PySem.Stmt.Try.elim (motive_2:=fun _=>Bool) t q f=true→P t) t q (fun x0 x1 x2 x3 x4 _ h=>k x0 x1 x2 x3 x4 h) q h
noncomputable def isSExpr (t:PySem.Stmt) (f:PySem.Expr→Pos→Bool):Bool:=onStmt t 24 fun q=>PySem.Stmt.Expr.elim (motive_2:=fun _=>Bool) t q f
theorem isSExpr_is {t:PySem.Stmt} {f:PySem.Expr→Pos→Bool} {P:PySem.Stmt→Prop} (h:isSExpr t f=true) (k:∀ (x0:PySem.Expr) (x1:Pos),f x0 x1=true→P (.Expr x0 x1)):P t :=
 (onStmt_is h).elim fun q h=>PySem.Stmt.Expr.elim (motive_2:=fun t=>∀ q:t.ctorIdx=24,PySem.Stmt.Expr.elim (motive_2:=fun _=>Bool) t q f=true→P t) t q (fun x0 x1 _ h=>k x0 x1 h) q h
theorem ns_unique {h:Heap} {a:Addr} {m m':Str→Option Value} (x:h.Ns a m) (y:h.Ns a m'):m=m':=by
 obtain ⟨o,es,ep,e,d,_,f⟩:=x
 obtain ⟨o',es',ep',e',d',_,f'⟩:=y
 cases e.symm.trans e'
 cases d.symm.trans d'
 exact funext fun n=>(f n).symm.trans (f' n)
noncomputable def kindOk (nm:List (Str×NameKind)) (cellToo:Bool) (id:Str):Bool:=nm.lookup id == some .local||(cellToo&&nm.lookup id == some .cell)
theorem kind_is {nm:List (Str×NameKind)} {c:Bool} {id:Str} (h:kindOk nm c id=true):nm.lookup id=some .local∨c=true∧nm.lookup id=some .cell:=(Bool.or_eq_true_iff.mp h).imp eq_of_beq fun q=>⟨(and_is q).1,eq_of_beq (and_is q).2⟩
noncomputable def chkName (nm:List (Str×NameKind)) (cellToo:Bool) (x:Nat) (e:PySem.Expr):Bool:=isName e fun id _=>Nat.blt x VX.length&&(id == vname x&&kindOk nm cellToo id)
noncomputable def chkNames (nm:List (Str×NameKind)) (cellToo:Bool):List Nat→List PySem.Expr→Bool
 | [],es=>es.isEmpty
 | x::xs,es=>match es with
  | []=>false
  | e::es=>chkName nm cellToo x e&&chkNames nm cellToo xs es
noncomputable def chkT (nm:List (Str×NameKind)) (cellToo:Bool) (t:Tgt) (e:PySem.Expr):Bool:=match t with
 | .v x=>chkName nm cellToo x e
 | .t xs=>isTuple e fun es _ _=>chkNames nm cellToo xs es
def NameOk (nm:List (Str×NameKind)) (c:Bool) (x:Nat):Prop:=x<VX.length∧kindOk nm c (vname x)=true
theorem chkName_is {nm:List (Str×NameKind)} {c:Bool} {x:Nat} {e:PySem.Expr} {P:PySem.Expr→Prop} (h:chkName nm c x e=true) (k:NameOk nm c x→∀ pos,P (.Name (vname x) pos)):P e :=
 isName_is h fun id pos h=>have e:id=vname x:=eq_of_beq (and_is (and_is h).2).1
  e▸k ⟨Nat.le_of_ble_eq_true (and_is h).1,e▸(and_is (and_is h).2).2⟩ pos
section
variable {C:Cfg} {F:Fr} {A:Around} {S:Nat→Prop} {p p':Pl} {st st':St} {top:Nat} {nm:List (Str×NameKind)} {c:Bool} {d:AV} {v:Value} {y:Nat}
theorem kind_at (hnm:F.env.scope.names=nm) {id:Str} {k:NameKind} (h:nm.lookup id=some k):F.env.kindOf id=some k:=(hnm.symm▸h:F.env.scope.names.lookup id=some k)
theorem putV (ok:F.Ok top) (hnm:F.env.scope.names=nm) (x:Good C F st p) (hy:NameOk nm c y) (z:¬ S 0) (h1:S F.kf) (h2:c=true→S F.kc) (r:RepT C p d v):wp C A (storeName F.env (vname y) v) (Out C F S p ⟨(y,d)::st.ρ,st.lh,st.g⟩ TT) p.s :=
 (kind_is hy.2).elim
  (fun e=>x.env.ns.elim fun m a=>wpAny_storeName_local (kind_at hnm e) a.1 (fun h' hn hs=>⟨p.own,p.la,(Now.setL (s':={ p.s with heap:=h',toks:=_ }) ok x hy.1 (kind_at hnm e) r (fun m' a'=>ns_unique a.1 a'▸hn) hs ⟨_,_,rfl⟩).mono z fun n e=>e▸h1,trivial⟩) (by rw [ok.fn];rfl))
  fun e=>(x.env.cells _ (kind_at hnm e.2)).elim fun cc hc=>(x.env.cellx _ _ (mem_of_lookup hc)).1.elim fun w hv =>
   wpAny_storeName_cell ok.fn (kind_at hnm e.2) hc hv fun h' hn hs=>⟨p.own,p.la,(Now.setC (s':={ p.s with heap:=h' }) ok x hy.1 (kind_at hnm e.2) r hc hn hs ⟨_,_,rfl⟩).mono z fun n q=>q▸h2 e.1,trivial⟩
theorem not_debug:∀ x∈VX.map Str.ofString,(x == ("__debug__":Str))=false:=by decide +kernel
theorem load_ok (ok:F.Ok top) (hnm:F.env.scope.names=nm) (x:Good C F st p) {s:Shared} (kp:Kp p.h s.heap) {pos:Pos} {Q:Value→Shared→Prop} (hy:NameOk nm true y) (e:dget st.ρ y=some d) (h:∀ v,RepT C p d v→Q v s) :
  wp C A (eval (.Name (vname y) pos) F.env) Q s :=
 wpAny_Name ((kind_is hy.2).elim (fun q=>x.env.ns.elim fun m a=>(a.2 y d hy.1 e (kind_at hnm q)).elim fun v k=>wpAny_loadName_local ok.fn (kind_at hnm q) (ns_at a.1 (kp _)) k.1 (h v k.2))
  fun q=>(x.env.cell y d hy.1 e (kind_at hnm q.2)).elim fun cc k=>k.elim fun v k=>wpAny_loadName_cell ok.fn (kind_at hnm q.2) k.1 (isCell_at k.2.1 (kp _)) (h v k.2.2)) (not_debug _ (vname_mem hy.1))
theorem name_ok (z:¬ S 0) (ok:F.Ok top) (hnm:F.env.scope.names=nm) (x:Good C F st p) {pos:Pos} (hy:NameOk nm true y) (e:dget st.ρ y=some d):wp C A (eval (.Name (vname y) pos) F.env) (Out C F S p st (RepT C · d)) p.s :=
 load_ok ok hnm x (fun _ _ e=>e) hy e fun v r=>.val z x r
def PutT (F:Fr) (y:Nat) (t:Value→Sem Unit):Prop:=∀ v,∃ p,t v=(do standAt p;bindName F.env (vname y) v)∨t v=bindName F.env (vname y) v
noncomputable def PutTs (nm:List (Str×NameKind)) (c:Bool) (F:Fr):List Nat→List (Value→Sem Unit)→Prop
 | [],ts=>ts=[]
 | y::ys,ts=>∃ t us,ts=t::us∧NameOk nm c y∧PutT F y t∧PutTs nm c F ys us
theorem put_one {y:Nat} {t:Value→Sem Unit} (h:PutT F y t) {Q:Unit→Shared→Prop} {s:Shared} (k:wp C A (storeName F.env (vname y) v) Q s):wp C A (t v) Q s :=
 (h v).elim fun pos q=>q.elim (fun q=>q.symm▸wpAny_bind (wpAny_standAt (wpAny_bindName k))) fun q=>q.symm▸wpAny_bindName k
theorem zip_rho {xs:List Nat} {y:Nat} {ds:List AV} {d:AV} {ρ:List (Nat×AV)}:(xs.zip ds).reverse++((y,d)::ρ)=((y::xs).zip (d::ds)).reverse++ρ:=by
 rw [List.zip_cons_cons,List.reverse_cons,List.append_assoc];rfl
theorem putVs (ok:F.Ok top) (hnm:F.env.scope.names=nm) (z:¬ S 0) (h1:S F.kf) (h2:c=true→S F.kc):∀ (xs:List Nat) (ts:List (Value→Sem Unit)) (ds:List AV) (vs:List Value) (st:St) (p:Pl),Good C F st p→PutTs nm c F xs ts→xs.length=ds.length →
  RepTs C p ds vs→wp C A (assignInOrder ts vs) (Out C F S p ⟨(xs.zip ds).reverse++st.ρ,st.lh,st.g⟩ TT) p.s
 | [],ts,ds,vs,st,p=>fun x ht hl hr=>by
  cases (ht:ts=[])
  cases List.eq_nil_of_length_eq_zero hl.symm
  cases (hr:vs=[])
  exact wpAny_pure (.here z x trivial)
 | y::xs,ts,ds,vs,st,p=>fun x ht hl hr=>by
  cases ds with
  | nil=>cases hl
  | cons d ds =>
   obtain ⟨t,us,rfl,hy,hp,ht⟩:=ht
   obtain ⟨v,vs,rfl,r,hr⟩:=hr
   refine wpAny_bind (wpAny_holding (put_one hp (seq (putV ok hnm x hy z h1 h2 r) fun _ p1 n1 _=>?_)))
   exact zip_rho (xs:=xs) (y:=y) (d:=d) (ds:=ds) (ρ:=st.ρ)▸(putVs ok hnm z h1 h2 xs us ds vs ⟨(y,d)::st.ρ,st.lh,st.g⟩ p1 n1.good ht (Nat.succ.inj hl) (hr.go n1.go)).after n1
theorem each_names:∀ {xs:List Nat} {es:List PySem.Expr},chkNames nm c xs es=true→(assignEach es F.env).length=xs.length∧(assignEach es F.env).findIdx? (·.1)=none∧PutTs nm c F xs ((assignEach es F.env).map (·.2))
 | [],es,h=>by
  cases List.isEmpty_iff.mp h
  exact ⟨rfl,rfl,rfl⟩
 | x::xs,[],h=>nb h
 | x::xs,e::es,h=>chkName_is (P:=fun e=>(assignEach (e::es) F.env).length=(x::xs).length∧(assignEach (e::es) F.env).findIdx? (·.1)=none∧PutTs nm c F (x::xs) ((assignEach (e::es) F.env).map (·.2))) (and_is h).1 fun hx pos =>
  have ih:=each_names (and_is h).2
  ⟨congrArg (·+1) ih.1,by
   show List.findIdx? (·.1) ((false,_)::assignEach es F.env)=none
   rw [List.findIdx?_cons,ih.2.1]
   rfl,_,_,rfl,hx,fun v=>⟨pos,.inl rfl⟩,ih.2.2⟩
theorem tgt_ok (ok:F.Ok top) (hh:A.handled=none) (hnm:F.env.scope.names=nm) (x:Good C F st p) (z:¬ S 0) (h1:S F.kf) (h2:c=true→S F.kc) {t:Tgt} {e:PySem.Expr} (hc:chkT nm c t e=true) (r:RepT C p d v) (b:bindT t d st=some st') :
  wp C A (assign e F.env v) (Out C F S p st' TT) p.s:=match t,hc,b with
 | .v y,hc,b=>chkName_is (P:=fun e=>wp C A (assign e F.env v) (Out C F S p st' TT) p.s) hc fun hy pos=>some_is (Q:=fun st'=>wp C A (assign (.Name (vname y) pos) F.env v) (Out C F S p st' TT) p.s) b
  (wpAny_bind (wpAny_standAt (wpAny_bindName (putV ok hnm x hy z h1 h2 r))))
 | .t xs,hc,b=>isTuple_is (P:=fun e=>wp C A (assign e F.env v) (Out C F S p st' TT) p.s) hc fun es k pos hc=>obind_is b fun l hl b=>cond_is b fun hn b=>some_is (Q:=fun st'=>wp C A (assign (.Tuple es k pos) F.env v) (Out C F S p st' TT) p.s) b
  (have hn:=Nat.eq_of_beq_eq_true hn
     have q:=each_names (F:=F) hc
     (r.tup hl).elim fun a w=>w.elim fun vs w=>w.1.symm▸wpAny_assign_Tuple hh w.2.2.1 (q.1.trans (hn.trans w.2.2.2.2.length.symm)) q.2.1 fun h' he =>
       have n1:Now C F S p st ⟨p.own,p.la,{ p.s with heap:=h' }⟩:=.keeps z x (fun b o e=>he b o (ne_new e) e) ⟨_,_,rfl⟩
       (putVs ok hnm z h1 h2 _ _ _ _ _ _ n1.good q.2.2 hn (w.2.2.2.2.toT.go n1.go)).after n1)
end
structure AOk (n:Nat) (A:Around):Prop where
 handled:A.handled=none
 depth:A.depth+n<recursionLimit
 units:A.units+8*n+64<cLine
structure Cx (n:Nat) (nm:List (Str×NameKind)) (F:Fr) (top:Nat) (A:Around):Prop where
 ok:F.Ok top
 nm:F.env.scope.names=nm
 a:AOk n A
def CallOk (C:Cfg) (fa:Fn→Addr) (n:Nat):Prop :=
 ∀ (f:Fn) (args:List AV) (r:AV) (g':GS) (A:Around) (F:Fr) (top:Nat) (st:St) (p:Pl) (us:List Value),callP C.cells bodies n f args st.g=some (r,g')→AOk n A→F.Ok top→Good C F st p→Reps C p args us →
  codeAny C.M A (.call (.ref (fa f)) ⟨us,[]⟩) (fun res s'=>∃ v,res=.ok (.ret v)∧∃ own',Now C F (SE F top) p ⟨st.ρ,st.lh,g'⟩ ⟨own',p.la,s'⟩∧Rep C ⟨own',p.la,s'⟩ r v) p.s
section
variable (C:Cfg) (n:Nat) (nm:List (Str×NameKind))
def Ev {α β:Type} (R:β→Pl→α→Prop) (t:Env→Sem α) (o:St→Option (β×St)):Prop:=∀ (F:Fr) (top:Nat) (A:Around) (st:St) (b:β) (st':St) (p:Pl),Cx n nm F top A→o st=some (b,st')→Good C F st p→wp C A (t F.env) (Out C F (SE F top) p st' (R b)) p.s
def RV (d:AV) (q:Pl) (v:Value):Prop:=RepT C q d v
def RK (ds:List AV) (q:Pl) (vs:List Value):Prop:=Reps C q ds vs
def RL (ds:List AV) (q:Pl) (vs:List Value):Prop:=RepTs C q ds vs
def RB (b:Bool) (q:Pl) (b':Bool):Prop:=b'=b
noncomputable def boolS (o:Option (AV×St)):Option (Bool×St):=bnd o fun x st=>(asBool x).map fun b=>(b,st)
noncomputable abbrev evE (p:PE):St→Option (AV×St):=evalE C.cells (callP C.cells bodies n) p
def EOk (p:PE) (e:PySem.Expr):Prop:=Ev C n nm (RV C) (eval e) (evE C n p)
def TOk (p:PE) (e:PySem.Expr):Prop:=Ev C n nm RB (fun env=>isTrue e env (eval e env)) fun st=>boolS (evE C n p st)
def KOk (ps:List PE) (es:List PySem.Expr):Prop:=∀ pos,Ev C n nm (RK C) (fun env=>spliced (backTo pos (starEach es env))) (evalK C.cells (callP C.cells bodies n) ps)
def LOk (ps:List PE) (es:List PySem.Expr):Prop:=∀ pos,Ev C n nm (RL C) (fun env=>spliced (backTo pos (starEach es env))) (evalL C.cells (callP C.cells bodies n) ps)
end
theorem ret1_is {o:Option AV} {st st':St} {d:AV} {Q:AV→St→Prop} (h:ret1 o st=some (d,st')) (k:∀ v,o=some v→Q v st):Q d st':=match o,h with
 | some v,h=>ret_is h (k v rfl)
section
variable {C:Cfg} {n:Nat} {nm:List (Str×NameKind)} {F:Fr} {top:Nat} {A:Around} {p p':Pl} {st st':St}
theorem boolS_of {o:Option (AV×St)} {b:Bool} {P:Prop} (h:boolS o=some (b,st')) (k:o=some (.bool b,st')→P):P :=
 bnd_is h fun x st1 e h=>omap_is h fun c hc e2=>k (e.trans (congrArg some (Prod.ext (show x=.bool b from (Prod.mk.inj e2).1▸asBool_is hc) (Prod.mk.inj e2).2)))
theorem truth {b:Bool} {v:Value} {s':Shared} {S:Nat→Prop} (o:Out C F S p st' (RV C (.bool b)) v s'):wp C A (truthy v) (Out C F S p st' (RB b)) s':=o.elim fun w o=>o.elim fun l o=>(show v=.bool b from o.2).symm▸wpAny_truthy_bool ⟨w,l,o.1,rfl⟩
def Op1 (C:Cfg) (n:Nat) (f:St→AV→Option AV) (op:Value→Sem Value):Prop:=∀ {F top A st p x v d},F.Ok top→AOk n A→Good C F st p→RepT C p x v→f st x=some d→wp C A (op v) (Out C F (SE F top) p st (RV C d)) p.s
def Op2 (C:Cfg) (n:Nat) (f:St→AV→AV→Option AV) (op:Value→Value→Sem Value):Prop:=∀ {F top A st p x y v w d},F.Ok top→AOk n A→Good C F st p→RepT C p x v→RepT C p y w→f st x y=some d→wp C A (op v w) (Out C F (SE F top) p st (RV C d)) p.s
theorem un1 {t:Env→Sem Value} {o:St→Option (AV×St)} {f:St→AV→Option AV} {op:Value→Sem Value} {d:AV} {Q:Value→Shared→Prop} (h:Ev C n nm (RV C) t o) (hop:Op1 C n f op) (cx:Cx n nm F top A) (ev:(bnd (o st) fun x st=>ret1 (f st x) st)=some (d,st')) (x:Good C F st p)
  (k:∀ v s',Out C F (SE F top) p st' (RV C d) v s'→Q v s'):wp C A (t F.env) (fun v s=>wp C A (op v) Q s) p.s :=
 bnd_is ev fun x1 st1 e1 ev=>seq (h F top A st x1 st1 p cx e1 x) fun v p1 n1 r1=>ret1_is (Q:=fun d st'=>(∀ v s',Out C F (SE F top) p st' (RV C d) v s'→Q v s')→wp C A (op v) Q p1.s) ev (fun d e k=>(hop cx.ok cx.a n1.good r1 e).mono fun w s' h=>k w s' (h.after n1)) k
theorem bin2 {t u:Env→Sem Value} {o o':St→Option (AV×St)} {f:St→AV→AV→Option AV} {op:Value→Value→Sem Value} {d:AV} {Q:Value→Shared→Prop} (h:Ev C n nm (RV C) t o) (h':Ev C n nm (RV C) u o') (hop:Op2 C n f op) (cx:Cx n nm F top A)
  (ev:(bnd (o st) fun x st=>bnd (o' st) fun y st=>ret1 (f st x y) st)=some (d,st')) (x:Good C F st p) (k:∀ v s',Out C F (SE F top) p st' (RV C d) v s'→Q v s'):wp C A (t F.env) (fun v s=>wp C A (u F.env) (fun w s=>wp C A (op v w) Q s) s) p.s :=
 bnd_is ev fun x1 st1 e1 ev=>seq (h F top A st x1 st1 p cx e1 x) fun v p1 n1 r1=>bnd_is ev fun x2 st2 e2 ev=>seq (h' F top A st1 x2 st2 p1 cx e2 n1.good) fun w p2 n2 r2 =>
  ret1_is (Q:=fun d st'=>(∀ v s',Out C F (SE F top) p st' (RV C d) v s'→Q v s')→wp C A (op v w) Q p2.s) ev (fun d e k=>(hop cx.ok cx.a n2.good (r1.go n2.go) r2 e).mono fun w s' h=>k w s' (h.after (n1.trans n2))) k
section
variable {a b c:PE} {e e1 e2 e3:PySem.Expr} {pos:Pos}
theorem e_var {y:Nat} (h:NameOk nm true y):EOk C n nm (.var y) (.Name (vname y) pos):=fun F top A st d st' p cx ev x =>
 ret1_is (Q:=fun d st'=>wp C A (eval (.Name (vname y) pos) F.env) (Out C F (SE F top) p st' (RV C d)) p.s) ev fun v e=>name_ok cx.ok.e0 cx.ok cx.nm x h e
theorem e_none {k:Nat}:EOk C n nm .none_ (.Constant .none k pos):=fun F top A st d st' p cx ev x=>ret_is (Q:=fun d st'=>wp C A (eval (.Constant .none k pos) F.env) (Out C F (SE F top) p st' (RV C d)) p.s) ev (wpAny_Constant_none (.here cx.ok.e0 x rfl))
theorem e_bool {k:Nat} {b:Bool}:EOk C n nm (.bool b) (.Constant (.bool b) k pos):=fun F top A st d st' p cx ev x=>ret_is (Q:=fun d st'=>wp C A (eval (.Constant (.bool b) k pos) F.env) (Out C F (SE F top) p st' (RV C d)) p.s) ev (wpAny_Constant_bool (.here cx.ok.e0 x rfl))
theorem e_int {k:Nat} {i:Int}:EOk C n nm (.int i) (.Constant (.int i) k pos):=fun F top A st d st' p cx ev x=>ret_is (Q:=fun d st'=>wp C A (eval (.Constant (.int i) k pos) F.env) (Out C F (SE F top) p st' (RV C d)) p.s) ev (wpAny_Constant_int (.int cx.ok.e0 x))
theorem e_str {k c:Nat} (hc:okc c=true):EOk C n nm (.str c) (.Constant (.str (txt c)) k pos):=fun F top A st d st' p cx ev x=>ret_is (Q:=fun d st'=>wp C A (eval (.Constant (.str (txt c)) k pos) F.env) (Out C F (SE F top) p st' (RV C d)) p.s) ev (PySem.wpAny_Constant_str (.tok cx.ok.e0 x ⟨hc,_,rfl⟩))
theorem gname_dbg:∀ k<5,(gname k == ("__debug__":Str))=false:=by decide +kernel
theorem glob_name (cx:Cx n nm F top A) {id:Str} (hg:nm.lookup id=some .globalImplicit) {Q:Value→Shared→Prop} {s:Shared} (h:wp C A (loadGlobal F.env id) Q s) (hd:(id == ("__debug__":Str))=false):wp C A (eval (.Name id pos) F.env) Q s :=
 PySem.Calls.Name_function_global cx.ok.fn (kind_at cx.nm hg) h hd
theorem globs {fa:Fn→Addr} (co:COk C fa) (cx:Cx n nm F top A) (x:Good C F st p):p.h.Ns F.env.globals C.mg:=cx.ok.globals.symm▸ns_at co.globals fun o e=>(x.inv.base _ o e).1
theorem e_glb {fa:Fn→Addr} (co:COk C fa) {k:Nat} (hk:k<5) (hg:nm.lookup (gname k)=some .globalImplicit):EOk C n nm (.glb k) (.Name (gname k) pos):=fun F top A st d st' p cx ev x =>
 ret1_is (Q:=fun d st'=>wp C A (eval (.Name (gname k) pos) F.env) (Out C F (SE F top) p st' (RV C d)) p.s) ev fun d e=>(co.gv k d hk e).elim fun v h =>
  glob_name cx hg (PySem.Calls.loadGlobal_global (globs co cx x) h.1 (.here cx.ok.e0 x ((h.2 { p.s with heap:=C.h₀ } rfl).step (p':=p) (S:=no) ⟨fun a _ o e=>x.inv.base a o e,id⟩ _ _).top)) (gname_dbg k hk)
theorem e_bin {op:BOp} (h1:EOk C n nm a e1) (h2:EOk C n nm b e2):EOk C n nm (.bin op a b) (.BinOp e1 (opOf op) e2 pos):=fun F top A st d st' p cx ev x=>wpAny_BinOp (bin2 h1 h2 (fun ok _ x r1 r2 e=>op_bin ok.e0 x r1 r2 e) cx ev x fun _ _=>id)
theorem e_neg (h1:EOk C n nm a e1):EOk C n nm (.neg a) (.UnaryOp .USub e1 pos):=fun F top A st d st' p cx ev x =>
 wpAny_UnaryOp (un1 (f:=fun _=>negV) h1 (fun {F top A st p x v d} ok _ x r e=>omap_is e fun i hi e=>e▸(r.int hi).elim fun t ht=>ht.symm▸PyProof.Rows.neg_int (Out.int (i:=-i) ok.e0 x)) cx ev x fun _ _=>id)
theorem e_not (h1:EOk C n nm a e1):EOk C n nm (.not a) (.UnaryOp .Not e1 pos):=fun F top A st d st' p cx ev x =>
 wpAny_UnaryOp (un1 (f:=fun _=>notV) h1 (fun {F top A st p x v d} ok _ x r e=>omap_is e fun i hi e=>e▸(r.bool hi).symm▸not_value (wpAny_truthy_bool (Out.bool ok.e0 x))) cx ev x fun _ _=>id)
theorem t_not (h1:TOk C n nm a e1):TOk C n nm (.not a) (.UnaryOp .Not e1 pos):=fun F top A st b st' p cx ev x=>boolS_of ev fun ev=>bnd_is ev fun x1 st1 ev1 ev =>
 ret1_is (Q:=fun d st'=>d=.bool b→wp C A (isTrue (.UnaryOp .Not e1 pos) F.env (eval (.UnaryOp .Not e1 pos) F.env)) (Out C F (SE F top) p st' (RB b)) p.s) ev (fun d e hd=>omap_is e fun c hc e=>wpAny_isTrue_Not
  ((h1 F top A st c st1 p cx (by show boolS (evE C n a st)=_;rw [show evE C n a st=some (x1,st1) from ev1];show (asBool x1).map _=_;rw [hc];rfl) x).mono fun b' s' o=>o.elim fun w o=>o.elim fun l o=>⟨w,l,o.1,(show b'=c from o.2).symm▸Option.some.inj (congrArg asBool (e.trans hd))⟩)) rfl
theorem t_value (h1:EOk C n nm a e1) (he:∀ (env:Env) (whole:Sem Value),isTrue e1 env whole=(do let v ← whole;standAt e1.pos;holding [v] (truthy v))):TOk C n nm a e1:=fun F top A st b st' p cx ev x=>boolS_of ev fun ev =>
 wpAny_isTrue_value ((h1 F top A st _ st' p cx ev x).mono fun v s' o=>truth o) (he _ _)
theorem op_cmp2 {op:COp}:∀ {F top A st p x y v w d},Fr.Ok F top→AOk n A→Good C F st p→RepT C p x v→RepT C p y w→(op=.isNone→w=.none)→cmpV st.lh op x y=some d→wp C A (compareOp (copOf op) v w) (Out C F (SE F top) p st (RV C d)) p.s :=
 fun ok a x r1 r2 hn e=>op_cmp ok.e0 x (Nat.lt_of_le_of_lt (Nat.add_le_add (Nat.le_add_right _ _) (by decide:1≤64)) a.units) r1 r2 e hn
theorem cmp_none {op:COp} {b:PE} (hn:op=.isNone→b=.none_) {d:AV} {v:Value} (e:evE C n b st=some (d,st')) (r:RepT C p d v) (h:op=.isNone):v=.none:=by
 cases hn h
 cases e
 exact r
theorem cmp_two {op:COp} (hn:op=.isNone→b=.none_) (h1:EOk C n nm a e1) (h2:EOk C n nm b e2) (cx:Cx n nm F top A) {d:AV} {Q:Value→Shared→Prop} (ev:evE C n (.cmp op a b) st=some (d,st')) (x:Good C F st p) (k:∀ v s',Out C F (SE F top) p st' (RV C d) v s'→Q v s') :
  wp C A (eval e1 F.env) (fun v s=>wp C A (eval e2 F.env) (fun w s=>wp C A (compareOp (copOf op) v w) Q s) s) p.s :=
 bnd_is ev fun x1 st1 ev1 ev=>seq (h1 F top A st x1 st1 p cx ev1 x) fun v p1 n1 r1=>bnd_is ev fun x2 st2 ev2 ev=>seq (h2 F top A st1 x2 st2 p1 cx ev2 n1.good) fun w p2 n2 r2 =>
  ret1_is (Q:=fun d st'=>(∀ v s',Out C F (SE F top) p st' (RV C d) v s'→Q v s')→wp C A (compareOp (copOf op) v w) Q p2.s) ev (fun d e k=>(op_cmp2 cx.ok cx.a n2.good (r1.go n2.go) r2 (cmp_none hn ev2 r2) e).mono fun w s' h=>k w s' (h.after (n1.trans n2))) k
theorem e_cmp {op:COp} (hm:behindInMarks (copOf op) e2=false) (hn:op=.isNone→b=.none_) (h1:EOk C n nm a e1) (h2:EOk C n nm b e2):EOk C n nm (.cmp op a b) (.Compare e1 [copOf op] [e2] pos):=fun F top A st d st' p cx ev x =>
 wpAny_Compare1 (cmp_two hn h1 h2 cx ev x fun _ _=>id) hm
theorem t_cmp {op:COp} (hm:behindInMarks (copOf op) e2=false) (hn:op=.isNone→b=.none_) (h1:EOk C n nm a e1) (h2:EOk C n nm b e2):TOk C n nm (.cmp op a b) (.Compare e1 [copOf op] [e2] pos):=fun F top A st d st' p cx ev x=>boolS_of ev fun ev =>
 wpAny_isTrue_Compare1 (cmp_two hn h1 h2 cx ev x fun _ _=>truth) hm
theorem br_ok {α β:Type} {R:β→Pl→α→Prop} {t u:Env→Sem α} {o o':St→Option (β×St)} {d:β} (h1:TOk C n nm a e1) (h2:Ev C n nm R t o) (h3:Ev C n nm R u o') (cx:Cx n nm F top A) (ev:(bnd (evE C n a st) fun x st=>brV x (o st) (o' st))=some (d,st')) (x:Good C F st p) :
  wp C A (isTrue e1 F.env (eval e1 F.env)) (fun b s=>if b=true then wp C A (t F.env) (Out C F (SE F top) p st' (R d)) s else wp C A (u F.env) (Out C F (SE F top) p st' (R d)) s) p.s :=
 bnd_is ev fun x1 st1 ev1 ev=>obind_is ev fun c hc ev=>seq (h1 F top A st c st1 p cx (by show boolS (evE C n a st)=_;rw [show evE C n a st=some (x1,st1) from ev1];show (asBool x1).map _=_;rw [hc];rfl) x) fun b' p1 n1 hb=>match b',c,(hb:b'=c),ev with
  | true,true,_,ev=>(h2 F top A st1 d st' p1 cx ev n1.good).after n1
  | false,false,_,ev=>(h3 F top A st1 d st' p1 cx ev n1.good).after n1
theorem e_ite (h1:TOk C n nm a e1) (h2:EOk C n nm b e2) (h3:EOk C n nm c e3):EOk C n nm (.ite a b c) (.IfExp e1 e2 e3 pos):=fun F top A st d st' p cx ev x=>wpAny_IfExp (br_ok h1 h2 h3 cx ev x)
theorem boolS_br {x:AV} {o o':Option (AV×St)}:boolS (brV x o o')=brV x (boolS o) (boolS o'):=by
 show boolS ((asBool x).bind _)=(asBool x).bind _
 cases asBool x with
 | none=>rfl
 | some b=>cases b <;> rfl
theorem t_ite (h1:TOk C n nm a e1) (h2:TOk C n nm b e2) (h3:TOk C n nm c e3):TOk C n nm (.ite a b c) (.IfExp e1 e2 e3 pos):=fun F top A st d st' p cx ev x=>by
 show wp C A (PySem.isTrue (.IfExp e1 e2 e3 pos) F.env (eval (.IfExp e1 e2 e3 pos) F.env)) _ _
 rw [arm_isTrue_IfExp]
 have ev:(bnd (evE C n a st) fun x st=>brV x (boolS (evE C n b st)) (boolS (evE C n c st)))=some (d,st'):=by
  rw [← ev]
  show _=boolS (bnd (evE C n a st) fun x st=>brV x (evE C n b st) (evE C n c st))
  cases evE C n a st with
  | none=>rfl
  | some q=>exact boolS_br.symm
 exact wpAny_bind ((br_ok h1 h2 h3 cx ev x).mono fun b s h=>match b,h with
  | true,h=>h
  | false,h=>h)
end
end
noncomputable def boolOpOf (b:Bool):BoolOp:=cond b .And .Or
noncomputable def noStar (e:PySem.Expr):Bool:=!Nat.beq e.ctorIdx 22
theorem star_plain {env:Env} {e:PySem.Expr} {es:List PySem.Expr}:noStar e=true→starEach (e::es) env=(false,eval e env)::starEach es env:=by cases e <;> first | exact fun _=>rfl | exact fun h=>nb h
noncomputable def plainBase (e:PySem.Expr):Bool:=!Nat.beq e.ctorIdx 16||isCall e fun _ as _ _=>!as.isEmpty
theorem base_plain {o:PySem.Expr} {attr:Str} {env:Env} {whole:Sem Value} (h:plainBase o=true):attributeBase o attr env whole=whole :=
 (Bool.or_eq_true_iff.mp h).elim (by cases o <;> first | exact fun _=>rfl | exact fun h=>nb h) fun h=>isCall_is (P:=fun o=>attributeBase o attr env whole=whole) h fun f as ks pos h=>by
  cases as
  ·exact nb h
  ·cases f <;> rfl
noncomputable def Alls (R:PE→PySem.Expr→Prop):List PE→List PySem.Expr→Prop
 | [],es=>es=[]
 | p::ps,es=>∃ e us,es=e::us∧R p e∧Alls R ps us
section
variable (C:Cfg) (n:Nat) (nm:List (Str×NameKind))
structure Both (p:PE) (x:PySem.Expr):Prop where
 star:noStar x=true
 e:EOk C n nm p x
 t:TOk C n nm p x
abbrev All (ps:List PE) (es:List PySem.Expr):Prop:=Alls (Both C n nm) ps es
def POk (p:PE) (e:Option PySem.Expr):Prop:=Ev C n nm (RV C) (evalPart e) (evE C n p)
end
section
variable {C:Cfg} {n:Nat} {nm:List (Str×NameKind)} {F:Fr} {top:Nat} {A:Around} {S:Nat→Prop} {p p':Pl} {st st':St} {a b c:PE} {e e1 e2 e3:PySem.Expr} {pos:Pos} {ps:List PE} {es:List PySem.Expr} {d d1:AV} {v:Value}
theorem Alls.stars:∀ {ps:List PE} {es:List PySem.Expr},All C n nm ps es→∀ e∈es,noStar e=true
 | [],_,h=>fun e he=>nomatch (Eq.symm h▸he:e∈[])
 | p::ps,_,h=>h.elim fun e h=>h.elim fun us h=>fun x hx=>(List.mem_cons.mp (h.1▸hx:x∈e::us)).elim (fun q=>q▸h.2.1.star) (h.2.2.stars x)
theorem k_all:∀ {ps:List PE} {es:List PySem.Expr},All C n nm ps es→KOk C n nm ps es
 | [],_,h=>fun pos F top A st ds st' p cx ev x=>by
  cases (h:_=[])
  exact ret_is (Q:=fun ds st'=>wp C A (spliced (backTo pos (starEach [] F.env))) (Out C F (SE F top) p st' (RK C ds)) p.s) ev (wpAny_items_nil (.here cx.ok.e0 x rfl))
 | q::ps,_,h=>fun pos F top A st ds st' p cx ev x=>by
  obtain ⟨e,us,rfl,h,hr⟩:=h
  exact wpAny_items_cons (bnd_is ev fun x1 st1 e1 ev=>seq (h.e F top A st x1 st1 p cx e1 x) fun v p1 n1 r1=>bnd_is ev fun x2 st2 e2 ev=>(keep1_ok cx.ok n1.good r1 e2).elim fun own k=>bnd_is ev fun ds2 st3 e3 ev =>
   ret_is (Q:=fun ds st'=>wp C A (spliced (backTo pos (starEach us F.env))) (fun vs s=>Out C F (SE F top) p st' (RK C ds) (v::vs) s) p1.s) ev ((k_all hr pos F top A st2 ds2 st3 ⟨own,p1.la,p1.s⟩ cx e3 k.1.good).mono fun vs s o=>o.elim fun w o=>o.elim fun l o =>
    ⟨w,l,n1.trans (k.1.trans o.1),v,vs,rfl,k.2.step o.1.go.stp _ _,o.2⟩)) (star_plain h.star)
theorem l_all:∀ {ps:List PE} {es:List PySem.Expr},All C n nm ps es→LOk C n nm ps es
 | [],_,h=>fun pos F top A st ds st' p cx ev x=>by
  cases (h:_=[])
  exact ret_is (Q:=fun ds st'=>wp C A (spliced (backTo pos (starEach [] F.env))) (Out C F (SE F top) p st' (RL C ds)) p.s) ev (wpAny_items_nil (.here cx.ok.e0 x rfl))
 | q::ps,_,h=>fun pos F top A st ds st' p cx ev x=>by
  obtain ⟨e,us,rfl,h,hr⟩:=h
  exact wpAny_items_cons (bnd_is ev fun x1 st1 e1 ev=>seq (h.e F top A st x1 st1 p cx e1 x) fun v p1 n1 r1=>bnd_is ev fun ds2 st3 e3 ev =>
   ret_is (Q:=fun ds st'=>wp C A (spliced (backTo pos (starEach us F.env))) (fun vs s=>Out C F (SE F top) p st' (RL C ds) (v::vs) s) p1.s) ev ((l_all hr pos F top A st1 ds2 st3 p1 cx e3 n1.good).mono fun vs s o=>o.elim fun w o=>o.elim fun l o =>
    ⟨w,l,n1.trans o.1,v,vs,rfl,r1.go o.1.go,o.2⟩)) (star_plain h.star)
theorem br_go {α:Type} {o o':St→Option α} {r:α} (h1:TOk C n nm a e1) (cx:Cx n nm F top A) (ev:(bnd (evE C n a st) fun x st=>brV x (o st) (o' st))=some r) (x:Good C F st p) {Q:Bool→Shared→Prop}
  (k1:∀ st1 p1,Now C F (SE F top) p st1 p1→o st1=some r→Q true p1.s) (k2:∀ st1 p1,Now C F (SE F top) p st1 p1→o' st1=some r→Q false p1.s):wp C A (isTrue e1 F.env (eval e1 F.env)) Q p.s :=
 bnd_is ev fun x1 st1 ev1 ev=>obind_is ev fun c hc ev=>seq (h1 F top A st c st1 p cx (by show boolS (evE C n a st)=_;rw [show evE C n a st=some (x1,st1) from ev1];show (asBool x1).map _=_;rw [hc];rfl) x) fun b' p1 n1 hb=>match b',c,(hb:b'=c),ev with
  | true,true,_,ev=>k1 st1 p1 n1 ev
  | false,false,_,ev=>k2 st1 p1 n1 ev
noncomputable abbrev evB (C:Cfg) (n:Nat) (isAnd:Bool) (ps:List PE):St→Option (AV×St):=evalB C.cells (callP C.cells bodies n) isAnd ps
theorem b_true {isAnd:Bool}:∀ {ps:List PE} {es:List PySem.Expr},All C n nm ps es→∀ {F top A st b st' p},Cx n nm F top A→evB C n isAnd ps st=some (.bool b,st')→Good C F st p→wp C A (allTrue (boolOpOf isAnd) es F.env) (Out C F (SE F top) p st' (RB b)) p.s
 | [],_,h,F,top,A,st,b,st',p,cx,ev,x=>by
  cases (h:_=[])
  cases isAnd <;> cases ev
  ·exact wpAny_allTrue_Or_nil (.here cx.ok.e0 x rfl)
  ·exact wpAny_allTrue_And_nil (.here cx.ok.e0 x rfl)
 | q::ps,_,h,F,top,A,st,b,st',p,cx,ev,x=>by
  obtain ⟨e,us,rfl,h,hr⟩:=h
  cases isAnd
  ·exact wpAny_allTrue_Or_cons (br_go (Q:=fun c s=>if c=true then Out C F (SE F top) p st' (RB b) true s else wp C A (allTrue .Or us F.env) (Out C F (SE F top) p st' (RB b)) s) h.t cx (show (bnd (evE C n q st) fun v st=>brV v (some (AV.bool true,st)) (evB C n false ps st))=_ from ev) x (fun st1 p1 n1 e=>by cases e;exact ⟨_,_,n1,rfl⟩) fun st1 p1 n1 e=>(b_true hr cx e n1.good).after n1)
  ·exact wpAny_allTrue_And_cons (br_go (Q:=fun c s=>if c=true then wp C A (allTrue .And us F.env) (Out C F (SE F top) p st' (RB b)) s else Out C F (SE F top) p st' (RB b) false s) h.t cx (show (bnd (evE C n q st) fun v st=>brV v (evB C n true ps st) (some (AV.bool false,st)))=_ from ev) x (fun st1 p1 n1 e=>(b_true hr cx e n1.good).after n1) fun st1 p1 n1 e=>by cases e;exact ⟨_,_,n1,rfl⟩)
theorem bool_more {isAnd:Bool} {t u:Sem Value} {us:List (Sem Value)} {Q:Value→Shared→Prop} {s:Shared} (h:wp C A t (fun v s=>∃ c,v=.bool c∧(c=isAnd→wp C A (boolOp pos (boolOpOf isAnd) (u::us)) Q s)∧(c=!isAnd→Q v s)) s):wp C A (boolOp pos (boolOpOf isAnd) (t::u::us)) Q s:=by
 show wpAny C.M A (do
  let v ← t
  standAt pos
  let t ← holding [v] (truthy v)
  match boolOpOf isAnd,t with
  | .And,false | .Or,true=>pure v
  | _,_=>boolOp pos (boolOpOf isAnd) (u::us)) Q F0 s
 refine wpAny_bind (h.mono fun v s1 k=>k.elim fun c k=>k.1.symm▸wpAny_bind (wpAny_standAt (wpAny_bind (wpAny_holding (wpAny_truthy_bool ?_)))))
 cases isAnd <;> cases c
 ·exact k.2.1 rfl
 ·exact wpAny_pure (k.1▸k.2.2 rfl)
 ·exact wpAny_pure (k.1▸k.2.2 rfl)
 ·exact k.2.1 rfl
theorem b_val {isAnd:Bool}:∀ {ps:List PE} {es:List PySem.Expr},All C n nm ps es→es≠[]→Ev C n nm (RV C) (fun env=>boolOp pos (boolOpOf isAnd) (evalEach es env)) (evB C n isAnd ps)
 | [],_,h,ne=>absurd h ne
 | [q],_,h,ne=>fun F top A st d st' p cx ev x=>by
  obtain ⟨e,us,rfl,h,hr⟩:=h
  cases (hr:us=[])
  refine (h.e F top A st d st' p cx ?_ x:wp C A (eval e F.env) _ _)
  revert ev
  show (bnd (evE C n q st) fun v st=>brV v (cond isAnd (some (AV.bool isAnd,st)) (some (AV.bool true,st))) (cond isAnd (some (AV.bool false,st)) (some (AV.bool isAnd,st))))=_→_
  exact fun ev=>bnd_is ev fun x1 st1 e1 ev=>obind_is ev fun c hc ev=>e1.trans (by rw [asBool_is hc,← ev];cases c <;> cases isAnd <;> rfl)
 | q::q2::ps,_,h,ne=>fun F top A st d st' p cx ev x=>by
  obtain ⟨e,us,rfl,h,hr⟩:=h
  have hr':=hr
  obtain ⟨e2,us2,rfl,_,_⟩:=hr'
  refine bool_more (u:=eval e2 F.env) (us:=evalEach us2 F.env) (bnd_is ev fun x1 st1 e1 ev=>obind_is ev fun c hc ev=>seq (h.e F top A st x1 st1 p cx e1 x) fun v p1 n1 r1=>⟨c,RepT.bool r1 hc,fun k=>?_,fun k=>?_⟩)
  ·exact (b_val hr (fun e=>nomatch e) F top A st1 d st' p1 cx (by rw [k] at ev;cases isAnd <;> exact ev) n1.good).after n1
  ·refine ret_is (Q:=fun d st'=>Out C F (SE F top) p st' (RV C d) v p1.s) (show some (AV.bool c,st1)=some (d,st') by rw [k] at ev ⊢;cases isAnd <;> exact ev) ⟨_,_,n1,RepT.bool r1 hc⟩
theorem e_boolop {isAnd:Bool} (h:All C n nm ps es) (ne:es≠[]):EOk C n nm (.boolop isAnd ps) (.BoolOp (boolOpOf isAnd) es pos):=fun F top A st d st' p cx ev x=>b_val h ne F top A st d st' p cx ev x
theorem t_boolop {isAnd:Bool} (h:All C n nm ps es):TOk C n nm (.boolop isAnd ps) (.BoolOp (boolOpOf isAnd) es pos):=fun F top A st b st' p cx ev x=>boolS_of ev fun ev=>wpAny_isTrue_BoolOp (b_true h cx ev x)
theorem evalK_len {cells:List Int} {call:Fn→List AV→GS→Option (AV×GS)}:∀ {ps:List PE} {st st':St} {ds:List AV},evalK cells call ps st=some (ds,st')→ds.length=ps.length
 | [],_,_,_,h=>ret_is (Q:=fun ds _=>List.length ds=0) h rfl
 | p::ps,st,st',ds,h=>bnd_is h fun _ _ _ h=>bnd_is h fun _ _ _ h=>bnd_is h fun vs _ h3 h=>ret_is (Q:=fun ds _=>List.length ds=ps.length+1) h (congrArg (·+1) (evalK_len h3))
theorem e_tup {k:Nat} (h:All C n nm ps es) (hl:ps.length≤cap):EOk C n nm (.tup ps) (.Tuple es k pos):=fun F top A st d st' p cx ev x =>
 bnd_is ev fun ds st1 e1 ev=>ret_is (Q:=fun d st'=>wp C A (eval (.Tuple es k pos) F.env) (Out C F (SE F top) p st' (RV C d)) p.s) ev (wpAny_Tuple (seq (k_all h pos F top A st ds st1 p cx e1 x) fun vs p1 n1 r1 =>
  have hv:vs.length≤cap:=Nat.le_trans (Nat.le_of_eq ((Reps.length r1).trans (evalK_len e1))) hl
  ⟨Nat.le_trans hv cap_line,(Out.newTup cx.ok.e0 n1.good r1 hv).after n1⟩))
theorem e_lst (h:All C n nm ps es) (hl:ps.length≤cap):EOk C n nm (.lst ps) (.List es pos):=fun F top A st d st' p cx ev x =>
 bnd_is ev fun ds st1 e1 ev=>wpAny_List (seq (k_all h pos F top A st ds st1 p cx e1 x) fun vs p1 n1 r1 =>
  have hv:vs.length≤cap:=Nat.le_trans (Nat.le_of_eq ((Reps.length r1).trans (evalK_len e1))) hl
  ⟨Nat.le_trans hv cap_line,some_is (Q:=fun q:AV×St=>Out C F (SE F top) p q.2 (RV C q.1) (.ref p1.s.heap.objs.size) { p1.s with heap:=p1.s.heap.push { cls:=.type "list",data:=.seq vs.toArray } }) ev (match ds,r1 with
   | [],r1=>(Now.addLoc (tk:=p1.s.toks) (lo:=.lst []) cx.ok n1.good (fun o e=>absurd e (get_new p1.h o)) (fun b _=>Kp.push _ _ b) fun g=>⟨vs,plain_push _ _,hv,r1⟩).after n1
   | _::_,r1=>(Out.newLst cx.ok.e0 n1.good r1 hv).after n1)⟩)
theorem e_sub (hs:notSlice e2=true) (h1:EOk C n nm a e1) (h2:EOk C n nm b e2):EOk C n nm (.sub a b) (.Subscript e1 e2 pos):=fun F top A st d st' p cx ev x =>
 Subscript_ (bin2 (f:=subV C.cells) h1 h2 (fun ok _ x r1 r2 e=>op_sub ok.e0 x hs r1 r2 e) cx ev x fun _ _=>id)
theorem part_none:POk C n nm .none_ none:=fun F top A st d st' p cx ev x=>ret_is (Q:=fun d st'=>wp C A (evalPart none F.env) (Out C F (SE F top) p st' (RV C d)) p.s) ev (wpAny_evalPart_none (.here cx.ok.e0 x rfl))
theorem part_some (h:EOk C n nm a e):POk C n nm a (some e):=fun F top A st d st' p cx ev x=>wpAny_evalPart_some (h F top A st d st' p cx ev x)
theorem isPart_of {i:Option Int} (e:optInt d=some i) (r:RepT C p d v):IsPart v i:=cond_or e (fun h e=>Option.some.inj e▸(show v=.none from (isNone_is h▸r:RepT C p .none v)).symm▸.none) fun _ e=>omap_is e fun j h e=>e▸(r.int h).elim fun t k=>k.symm▸.int j t
theorem Reps.cut {ds:List AV} {vs:List Value} (r:Reps C p ds vs) (lo hi:Option Int):Reps C p (cutL ds lo hi) (cutL vs lo hi):=by
 unfold cutL
 rw [r.length]
 exact (r.drop _).take _
theorem op_slice {value slice:PySem.Expr} {sl:Addr} {vl vu:Value} {dl dh:AV} (z:¬ S 0) (x:Good C F st p) (hs:∀ o,∃ ops,subscripted slice false (.ref o) (.ref sl)=operate ops (getItem (.ref o) (.ref sl))) (hsl:p.h.IsSliceOf sl vl vu .none) (r:RepT C p d1 v) (rl:RepT C p dl vl) (rh:RepT C p dh vu) (e:sliceV st.lh d1 dl dh=some d) :
  wp C A (subscriptTail value slice v (.ref sl)) (Out C F S p st (RV C d)) p.s :=
 obind_is e fun lo hlo e=>obind_is e fun hi hhi e=>elim_is e
  (fun _ e=>omap_is e fun xs hx e=>e▸(r.list x hx).elim fun a q=>q.elim fun vs q=>by
   cases q.1
   obtain ⟨ops,hs⟩:=hs a
   refine tail_any q.2.1.isList.typeIs slot_list_getitem.lookup (wpAny_getItem_list_slice q.2.1.isList hsl (isPart_of hlo rl) (isPart_of hhi rh) .none (by simp) ?_ (Nat.le_trans q.2.2.1 cap_line)) hs
   rw [slicePick_plain]
   exact Out.newLst (l:=cutL xs lo hi) (vs:=cutL vs lo hi) z x (q.2.2.2.cut lo hi) (Nat.le_trans (cut_len vs lo hi) q.2.2.1))
  fun xs hx e=>some_is (Q:=fun d=>wp C A (subscriptTail value slice v (.ref sl)) (Out C F S p st (RV C d)) p.s) e ((r.tup hx).elim fun a q=>q.elim fun vs q=>by
   cases q.1
   obtain ⟨ops,hs⟩:=hs a
   exact tail_any q.2.2.1.typeIs slot_tuple_getitem.lookup (slice_tup q.2.2.1 q.2.2.2.1 hsl (isPart_of hlo rl) (isPart_of hhi rh)
    (fun h1 h2=>.here z x ⟨a,vs,rfl,q.2.1,q.2.2.1,q.2.2.2.1,(cut_all (q.2.2.2.2.length▸h1) (q.2.2.2.2.length▸h2)).symm▸q.2.2.2.2⟩)
    (Out.newTup z x (q.2.2.2.2.cut lo hi) (Nat.le_trans (cut_len vs lo hi) q.2.2.2.1))) hs)
theorem e_slice {elo ehi:Option PySem.Expr} {sp:Pos} (h1:EOk C n nm a e1) (h2:POk C n nm b elo) (h3:POk C n nm c ehi):EOk C n nm (.slice a b c) (.Subscript e1 (.Slice elo ehi none sp) pos):=fun F top A st d st' p cx ev x =>
 bnd_is ev fun x1 st1 ev1 ev=>bnd_is ev fun x2 st2 ev2 ev=>bnd_is ev fun x3 st3 ev3 ev=>Subscript_ (seq (h1 F top A st x1 st1 p cx ev1 x) fun v p1 n1 r1=>wpAny_Slice (seq (h2 F top A st1 x2 st2 p1 cx ev2 n1.good) fun vl p2 n2 r2=>seq (h3 F top A st2 x3 st3 p2 cx ev3 n2.good) fun vu p3 n3 r3 =>
  have n4:=Now.push (S:=SE F top) (tk:=p3.s.toks) cx.ok.e0 n3.good { cls:=.type "slice",data:=.fields #[vl,vu,.none] }
  wpAny_evalPart_none (ret1_is (Q:=fun d st'=>wp C A (subscriptTail e1 (.Slice elo ehi none sp) v (.ref p3.h.objs.size)) (Out C F (SE F top) p st' (RV C d)) _) ev fun d e =>
   (op_slice cx.ok.e0 n4.good (fun _=>⟨_,rfl⟩) (Heap.IsSliceOf.new ..) (((r1.go n2.go).go n3.go).go n4.go) ((r2.go n3.go).go n4.go) (r3.go n4.go) e).after (n1.trans (n2.trans (n3.trans n4))))))
theorem e_attr {fa:Fn→Addr} (co:COk C fa) {i:Nat} (hp:plainBase e1=true) (h1:EOk C n nm a e1):EOk C n nm (.attr a i) (.Attribute e1 (aname i) pos):=fun F top A st d st' p cx ev x=>by
 show wp C A (eval (.Attribute e1 (aname i) pos) F.env) _ _
 rw [arm_eval_Attribute,base_plain hp]
 exact bnd_is ev fun x1 st1 ev1 ev=>cond_is ev fun ho ev=>ret1_is (Q:=fun d st'=>wpAny C.M A _ (Out C F (SE F top) p st' (RV C d)) F0 p.s) ev fun d e=>wpAny_bind (seq (h1 F top A st x1 st1 p cx ev1 x) fun v p1 n1 r1 =>
  have r1:C.hasOp=true∧v=.ref C.aO:=(isOp_is ho▸r1:RepT C p1 .opener v)
  r1.2.symm▸wpAny_bind (wpAny_standAt (wpAny_bind (wpAny_holding ((attr_get cx.ok.e0 co n1.good r1.1 e).mono fun w s o=>wpAny_bind (wpAny_letTemporaryGo (wpAny_pure (o.after n1))))))))
end
section
variable {C:Cfg} {fa:Fn→Addr} {n:Nat} {nm:List (Str×NameKind)} {F:Fr} {top:Nat} {A:Around} {S:Nat→Prop} {p p':Pl} {st st' st1:St} {a b c:PE} {e e1 e2:PySem.Expr} {pos:Pos} {ps:List PE} {es:List PySem.Expr} {d d1 d2:AV} {v v1 v2:Value}
theorem backTo_any {env:Env}:∀ {es:List PySem.Expr},(∀ e∈es,noStar e=true)→(backTo pos (starEach es env)).any (·.1)=false∧(backTo pos (starEach es env)).all (fun x=>!x.1)=true
 | [],_=>⟨rfl,rfl⟩
 | e::es,h=>by
  rw [star_plain (h e (.head _))]
  exact backTo_any fun e he=>h e (.tail _ he)
theorem args_plain {s:Shared} {f:Value} {env:Env} {Q:Args→Shared→Prop} (hne:es≠[]) (hs:∀ e∈es,noStar e=true) (h:wp C A (spliced (backTo pos (starEach es env))) (fun vs s'=>Q ⟨vs,[]⟩ s') s) :
  wp C A (evalArgs f true (backTo pos (starEach es env)) []) Q s:=by
 cases es with
 | nil=>exact absurd rfl hne
 | cons e es =>
  rw [star_plain (hs e (.head _))] at h ⊢
  exact PySem.Calls.evalArgs_plain (x:=eval e env) (rest:=backTo pos (starEach es env)) h
theorem call_fn (co:COk C fa) (hc:CallOk C fa n) (h:All C n nm ps es) (hne:es≠[]) {f:Fn} (hf:Nat.blt f 27=true) {first:List Value} {firstD:List AV} (cx:Cx n nm F top A) (x:Good C F st p) (hr:Reps C p firstD first) {ds:List AV}
  (e1:evalK C.cells (callP C.cells bodies n) ps st=some (ds,st1)) (e2:callV (callP C.cells bodies n f (firstD++ds) st1.g) st1=some (d,st')) :
  wp C A (callWith pos (.ref (fa f)) first (backTo pos (starEach es F.env)) []) (Out C F (SE F top) p st' (RV C d)) p.s :=
 (co.fo f hf).elim fun o q=>q.elim fun fd q=>omap_is e2 fun r e3 e4=>ret_is (Q:=fun d st'=>wp C A (callWith pos (.ref (fa f)) first (backTo pos (starEach es F.env)) []) (Out C F (SE F top) p st' (RV C d)) p.s) (congrArg some e4)
  (PySem.Calls.callWith_function (o:=o) (fd:=fd) (args_plain hne h.stars (seq (k_all h pos F top A st ds st1 p cx e1 x) fun vs p1 n1 r1 =>
   ⟨⟨(n1.good.inv.base _ _ q.1).1,q.2⟩,wpAny_call (codeAny_mono (hc f (firstD++ds) r.1 r.2 A F top st1 p1 (first++vs) e3 cx.a cx.ok n1.good ((hr.step n1.go.stp _ _).append r1)) fun res s2 h2=>h2.elim fun v h2=>h2.1.symm▸h2.2.elim fun own k=>⟨own,p1.la,n1.trans k.1,k.2.top⟩)⟩)))
theorem fname_ne:(List.range 15).all (fun f=>!(fname f == ("__debug__":Str)))=true:=by decide +kernel
theorem isF_ne {f:Fn} (h:isF f=true):(fname f == ("__debug__":Str))=false:=by
 have:=List.all_eq_true.mp fname_ne f (List.mem_range.mpr (Nat.le_of_ble_eq_true h))
 revert this
 cases (fname f == ("__debug__":Str))
 ·exact fun _=>rfl
 ·exact nb
theorem lt27 {f:Fn} (h:isF f=true):Nat.blt f 27=true:=Nat.ble_eq_true_of_le (Nat.le_trans (Nat.le_of_ble_eq_true h) (by decide))
theorem e_call (co:COk C fa) (hc:CallOk C fa n) (h:All C n nm ps es) (hne:es≠[]) {f:Fn} {np:Pos} (hm:isF f=true) (hg:nm.lookup (fname f)=some .globalImplicit):EOk C n nm (.call f ps) (.Call (.Name (fname f) np) es [] pos):=fun F top A st d st' p cx ev x =>
 bnd_is ev fun ds st1 ev1 ev=>wpAny_Call_ofName (glob_name cx hg (PySem.Calls.loadGlobal_global (globs co cx x) (co.glob f hm) (call_fn co hc h hne (lt27 hm) (first:=[]) (firstD:=[]) cx x rfl ev1 ev)) (isF_ne hm))
theorem line_of {apos pos:Pos} (h:(apos.endLine == pos.line)=true) (o:PySem.Expr) (env:Env):methodCallPos true o env apos pos=pure pos:=by unfold methodCallPos;simp [h]
theorem and_mk {a b:Bool} (h:a=true) (k:b=true):(a&&b)=true:=Bool.and_eq_true_iff.mpr ⟨h,k⟩
theorem form_of {env:Env} (h:∀ e∈es,noStar e=true) (h30:es.length<30):methodCallForm (es.length+([]:List Keyword).length) (backTo pos (starEach es env)) (backToKw pos (keywordEach [] env))=true :=
 and_mk (and_mk (backTo_any h).2 rfl) (decide_eq_true h30)
theorem e_meth (co:COk C fa) (hc:CallOk C fa n) (h:All C n nm ps es) (hne:es≠[]) (h30:es.length<30) {f:Fn} {apos:Pos} (hm:isM f=true) (hp:plainBase e=true) (hl:(apos.endLine == pos.line)=true) (h1:EOk C n nm a e) :
  EOk C n nm (.meth f a ps) (.Call (.Attribute e (fname f) apos) es [] pos):=fun F top A st d st' p cx ev x=>by
 show wp C A (eval (.Call (.Attribute e (fname f) apos) es [] pos) F.env) _ _
 rw [arm_eval_Call,base_plain hp]
 exact bnd_is ev fun x1 st1 ev1 ev=>bnd_is ev fun ds st2 ev2 ev=>cond_is ev fun ho ev=>wpAny_bind (seq (h1 F top A st x1 st1 p cx ev1 x) fun v p1 n1 r1 =>
  have r1:C.hasOp=true∧v=.ref C.aO:=(isOp_is ho▸r1:RepT C p1 .opener v)
  r1.2.symm▸wpAny_bind (wpAny_standAt (by
   unfold methodCall
   rw [form_of h.stars h30]
   exact wpAny_bind (wpAny_holding (meth_get co n1.good r1.1 hm (wpAny_bind (wpAny_of_eq (line_of hl e F.env)
    ((call_fn co hc h hne (and_is hm).2 (first:=[.ref C.aO]) (firstD:=[.opener]) cx n1.good (.one (show Rep C p1 .opener (.ref C.aO) from ⟨r1.1,rfl⟩)) ev2 ev).after n1))))))))
theorem bi_ne:∀ x∈biNames,(x.1 == ("__debug__":Str))=false:=by decide +kernel
theorem bi_kind:∀ x∈biNames,(∃ i,x.2=Value.builtin i)∨∃ t,x.2=Value.type t:=by
 intro y hy
 simp only [biNames,List.mem_cons,List.not_mem_nil,or_false] at hy
 rcases hy with rfl | rfl | rfl | rfl | rfl | rfl | rfl | rfl | rfl | rfl <;> first | exact .inl ⟨_,rfl⟩ | exact .inr ⟨_,rfl⟩
theorem bi_name (co:COk C fa) (cx:Cx n nm F top A) (x:Good C F st p) {y:Str×Value} (hy:y∈biNames) {np:Pos} (hg:nm.lookup y.1=some .globalImplicit) {Q:Value→Shared→Prop} (h:Q y.2 p.s):wp C A (eval (.Name y.1 np) F.env) Q p.s :=
 glob_name cx hg (PySem.Calls.loadGlobal_builtin (globs co cx x) (co.bi y hy).1 (cx.ok.builtins.symm▸ns_at co.builtins fun o e=>(x.inv.base _ o e).1) (co.bi y hy).2 h) (bi_ne y hy)
theorem call_any {s:Shared} {f:Value} {env:Env} (hf:(∃ i,f=.builtin i)∨∃ t,f=.type t) (hs:∀ e∈es,noStar e=true) (hne:es≠[]) {Q:Value→Shared→Prop} (h:wp C A (spliced (backTo pos (starEach es env))) (fun vs s1=>wp C A (call f vs) Q s1) s) :
  wp C A (callWith pos f [] (backTo pos (starEach es env)) []) Q s :=
 hf.elim (fun k=>k.elim fun i k=>by
  rw [k] at h ⊢
  exact PySem.Calls.callWith_builtin (backTo_any hs).1 (args_plain hne hs h)) fun k=>k.elim fun t k=>by
  rw [k] at h ⊢
  exact callWith_excType (backTo_any hs).1 (args_plain hne hs h)
theorem call_bi (co:COk C fa) (h:All C n nm ps es) (hne:es≠[]) (cx:Cx n nm F top A) (x:Good C F st p) {y:Str×Value} (hy:y∈biNames) {np:Pos} (hg:nm.lookup y.1=some .globalImplicit) {ds:List AV} (e1:evalL C.cells (callP C.cells bodies n) ps st=some (ds,st1)) {Q:Value→Shared→Prop}
  (k:∀ vs p1,Now C F (SE F top) p st1 p1→RepTs C p1 ds vs→wp C A (call y.2 vs) Q p1.s):wp C A (eval (.Call (.Name y.1 np) es [] pos) F.env) Q p.s :=
 wpAny_Call_ofName (bi_name co cx x hy hg (call_any (bi_kind y hy) h.stars hne (seq (l_all h pos F top A st ds st1 p cx e1 x) fun vs p1 n1 r1=>k vs p1 n1 r1)))
theorem meth_bi {s:Shared} {o:PySem.Expr} {name:Str} {T id:String} {apos:Pos} (hp:plainBase o=true) (hs:∀ e∈es,noStar e=true) (hne:es≠[]) (h30:es.length<30) (hl:(apos.endLine == pos.line)=true) (pa:PlainAttrs T) (slot:Slot T name id) (hty:typeOf (.builtin id)=pure (.type "method_descriptor")) {env:Env} {Q:Value→Shared→Prop}
  (h:wp C A (eval o env) (fun ov s₁=>s₁.TypeIs ov T∧(∀ a,ov=.ref a→∃ ob,s₁.heap.get? a=some ob∧ob.dict=none) ∧
   wp C A (spliced (backTo pos (starEach es env))) (fun vs s2=>wp C A (call (.builtin id) (ov::vs)) Q s2) s₁) s):wp C A (eval (.Call (.Attribute o name apos) es [] pos) env) Q s:=by
 refine wpAny_Call_method (base_plain hp) (form_of hs h30) hl pa slot hty (h.mono fun ov s1 h=>⟨h.1,h.2.1,PySem.Calls.callWith_builtin (backTo_any hs).1 (args_plain hne hs h.2.2)⟩)
theorem is_tup {a:Addr} {its:Array Value} {h:Heap} (x:h.IsTuple a its):IsTup h a its:=x
theorem bi_len_tup (z:¬ S 0) (x:Good C F st p) {l:List AV} (r:∃ a vs,v=.ref a∧p.own a=0∧p.h.IsTuple a (List.toArray vs)∧vs.length≤cap∧Reps C p l vs):wp C A (call (.builtin "len") [v]) (Out C F S p st (RV C (.int l.length))) p.s :=
 r.elim fun a r=>r.elim fun vs r=>r.1.symm▸len_tuple (is_tup r.2.2.1) (cap_63 r.2.2.2.1) (r.2.2.2.2.length▸.int z x)
theorem bi_len_lst (z:¬ S 0) (x:Good C F st p) {l:List AV} (r:∃ a vs,v=.ref a∧p.h.PlainList a (List.toArray vs)∧vs.length≤cap∧Reps C p l vs):wp C A (call (.builtin "len") [v]) (Out C F S p st (RV C (.int l.length))) p.s :=
 r.elim fun a r=>r.elim fun vs r=>r.1.symm▸PySem.Calls.call_len_list r.2.1.isList (cap_63 r.2.2.1) (r.2.2.2.length▸.int z x)
theorem bi_list (z:¬ S 0) (x:Good C F st p) {l:List AV} (r:∃ a vs,v=.ref a∧p.own a=0∧p.h.IsTuple a (List.toArray vs)∧vs.length≤cap∧Reps C p l vs):wp C A (call (.type "list") [v]) (Out C F S p st (RV C (.lst l))) p.s:=by
 obtain ⟨a,vs,rfl,_,⟨o,ho,hc,k,hd⟩,n,rr⟩:=r
 exact call_list_seq a (.inr rfl) ho hc hd (fun h' c' keep g=>.keeps z x keep ⟨_,_,rfl⟩ fun go=>⟨_,vs,rfl,x.own_new,⟨c',g⟩,n,rr.step go.stp _ _⟩) (Nat.le_trans n cap_line)
theorem bi_tuple (z:¬ S 0) (x:Good C F st p) {l:List AV} (r:∃ a vs,v=.ref a∧p.h.PlainList a (List.toArray vs)∧vs.length≤cap∧Reps C p l vs):wp C A (call (.type "tuple") [v]) (Out C F S p st (RV C (.tup l))) p.s:=by
 obtain ⟨a,vs,rfl,t,n,rr⟩:=r
 refine call_tuple_list t.isList (fun h' keep=>?_) (Nat.le_trans n cap_line)
 have n1:Now C F S p st ⟨p.own,p.la,{ p.s with heap:=h' }⟩:=.keeps z x keep ⟨_,_,rfl⟩
 exact (Out.newTup z n1.good (rr.step n1.go.stp _ _) n).after n1
theorem bi_max (z:¬ S 0) (hh:A.handled=none) (x:Good C F st p) {i j:Int} {t u:Tok}:wp C A (call (.builtin "max") [.int i t,.int j u]) (Out C F S p st (RV C (.int (max i j)))) p.s :=
 max_two_ints hh fun h' tk keep=>.keeps z x keep ⟨_,_,rfl⟩ fun _=>Decidable.byCases (p:=j > i) (fun q=>by rw [if_pos q,Int.max_eq_right (Int.le_of_lt q)];exact ⟨_,rfl⟩) fun q=>by rw [if_neg q,Int.max_eq_left (Int.not_lt.mp q)];exact ⟨_,rfl⟩
theorem preSum_ints:∀ (ns:List Int) (n:Nat),preSum (fun i=>ns.getD i 0) n=(ns.take n).sum
 | ns,0=>rfl
 | ns,n+1=>by
  show preSum _ n+ns.getD n 0=_
  rw [preSum_ints ns n,List.take_add_one,List.sum_append,List.getD_eq_getElem?_getD]
  cases ns[n]? with
  | none=>rfl
  | some x=>exact congrArg (_+·) (Int.add_zero x).symm
theorem bi_sum (z:¬ S 0) (hh:A.handled=none) (x:Good C F st p) {l:List AV} {ns:List Int} (r:∃ a vs,v=.ref a∧p.h.PlainList a (List.toArray vs)∧vs.length≤cap∧Reps C p l vs) (e':intsOf l=some ns):wp C A (call (.builtin "sum") [v]) (Out C F S p st (RV C (.int ns.sum))) p.s:=by
 obtain ⟨a,vs,rfl,t,n,rr⟩:=r
 have ia:=(reps_ints e' rr).1
 have hlt:a<p.h.objs.size:=(plain_has t).elim fun _ e=>Heap.lt_size e
 have W:=(Walks.list (prog:=C.prog) (w:=C.w) (A:=A.in1) hh p.h.objs.size a (Nat.ne_of_lt hlt) (List.toArray vs)).toS
 refine call_sum_walkAnyS (wpAny_pyIter_list t.isList ⟨_,_,_,_,_,_,_,fun i=>ns.getD i 0,rfl,W,⟨⟨_,Heap.get?_push_size _ rfl,rfl,rfl⟩,t.isList.push _⟩,fun b hb=>?_,fun i v hP=>?_,fun s' t' hm=>?_⟩)
 ·exact Nat.lt_of_lt_of_eq ((List.mem_cons.mp hb).elim (fun q=>q▸Nat.lt_succ_self _) fun q=>List.mem_singleton.mp q▸Nat.lt_succ_of_lt hlt) (Heap.size_push ..).symm
 ·exact ints_get ia ((List.getElem?_toArray ..).symm.trans hP)
 ·have keep:Kp p.h s'.heap:=fun b o e=>hm.heap b o (fun q=>ne_new e (List.mem_singleton.mp q)) (Heap.get?_push_of_some _ e)
  obtain ⟨hp,g,dr,tk,os⟩:=s'
  cases (hm.gens:g=_)
  cases (hm.drawn:dr=_)
  cases (hm.os:os=_)
  refine .keeps z x keep ⟨hp,tk,rfl⟩ fun _=>?_
  rw [preSum_ints,show (List.toArray vs).size=ns.length from ints_len ia,List.take_length]
  exact ⟨_,rfl⟩
end
noncomputable def isText (e:PySem.Expr) (c:Nat):Bool:=isConstant e fun k _ _=>okc c&&decide (k=.str (txt c))
theorem isText_is {e:PySem.Expr} {c:Nat} {P:PySem.Expr→Prop} (h:isText e c=true) (k:okc c=true→∀ i pos,P (.Constant (.str (txt c)) i pos)):P e :=
 isConstant_is h fun x i pos h=>(of_decide_eq_true (and_is h).2:x=_).symm▸k (and_is h).1 i pos
noncomputable def chkKeys:List Nat→List (Option PySem.Expr)→Bool
 | [],es=>es.isEmpty
 | k::ks,es=>match es with
  | some e::es=>isText e k&&chkKeys ks es
  | _=>false
noncomputable def mkPairs (env:Env) (pos:Pos):List (Option PySem.Expr)→List PySem.Expr→List (Sem Value×Sem Value)
 | some k::ks,v::vs=>(eval k env,do let x ← eval v env;standAt pos;pure x)::mkPairs env pos ks vs
 | _,_=>[]
section
variable {C:Cfg} {fa:Fn→Addr} {n:Nat} {nm:List (Str×NameKind)} {F:Fr} {top:Nat} {A:Around} {S:Nat→Prop} {p p':Pl} {st st' st1:St} {a b c:PE} {e e1 e2 e3:PySem.Expr} {pos:Pos} {ps:List PE} {es:List PySem.Expr} {d d1 d2:AV} {v v1 v2:Value}
theorem pairs_shape {env:Env}:∀ {ks:List Nat} {keys:List (Option PySem.Expr)} {values:List PySem.Expr},chkKeys ks keys=true→keys.length=values.length →
  (evalEachOpt keys env).zip ((evalEach values env).map fun v=>do let x ← v;standAt pos;pure x)=(mkPairs env pos keys values).map (fun p=>(some p.1,p.2))∧(mkPairs env pos keys values).length=keys.length
 | [],[],[],_,_=>⟨rfl,rfl⟩
 | k::ks,some e::es,v::vs,h,hl=>have ih:=pairs_shape (env:=env) (and_is h).2 (Nat.succ.inj hl)
  ⟨congrArg ((some (eval e env),_)::·) ih.1,congrArg (·+1) ih.2⟩
def PairsR (C:Cfg) (ks:List Nat) (ds:List AV) (q:Pl) (vs:List (Value×Value)):Prop:=∃ kvs,Carries C.knd vs kvs∧kvs.map (·.1)=ks.map txt∧RepD C q (ks.zip ds) kvs
theorem pairs_ok:∀ {ks:List Nat} {keys:List (Option PySem.Expr)} {ps:List PE} {values:List PySem.Expr},All C n nm ps values→chkKeys ks keys=true→keys.length=values.length →
  Ev C n nm (PairsR C ks) (fun env=>evalPairs (mkPairs env pos keys values)) (evalK C.cells (callP C.cells bodies n) ps)
 | [],[],[],_,h,_,_=>fun F top A st ds st' p cx ev x=>by
  cases (h:_=[])
  exact ret_is (Q:=fun ds st'=>wp C A (evalPairs []) (Out C F (SE F top) p st' (PairsR C [] ds)) p.s) ev (evalPairs_nil (.here cx.ok.e0 x ⟨[],trivial,rfl,rfl⟩))
 | c::ks,some k::keys,q::ps,_,h,hk,hl=>fun F top A st ds st' p cx ev x=>by
  obtain ⟨e,us,rfl,h,hr⟩:=h
  refine isText_is (P:=fun k=>wp C A (evalPairs (mkPairs F.env pos (some k::keys) (e::us))) (Out C F (SE F top) p st' (PairsR C (c::ks) ds)) p.s) (and_is hk).1 fun hc i kp=>evalPairs_cons (PySem.wpAny_Constant_str ?_)
  have n0:Now C F (SE F top) p st ⟨p.own,p.la,{ p.s with toks:=p.s.toks+1 }⟩:=.toks cx.ok.e0 x
  exact wpAny_bind (bnd_is ev fun x1 st1 e1 ev=>seq (h.e F top A st x1 st1 _ cx e1 n0.good) fun v p1 n1 r1=>wpAny_bind (wpAny_standAt (wpAny_pure (bnd_is ev fun x2 st2 e2 ev=>(keep1_ok cx.ok n1.good r1 e2).elim fun own w=>bnd_is ev fun ds2 st3 e3 ev =>
   ret_is (Q:=fun ds st'=>wp C A (evalPairs (mkPairs F.env pos keys us)) (fun vs s=>Out C F (SE F top) p st' (PairsR C (c::ks) ds) ((.str (txt c) p.s.toks,v)::vs) s) p1.s) ev
    (seq (pairs_ok hr (and_is hk).2 (Nat.succ.inj hl) F top A st2 ds2 st3 ⟨own,p1.la,p1.s⟩ cx e3 w.1.good) fun vs p3 n3 r3=>r3.elim fun kvs r3=>⟨p3.own,p3.la,n0.trans (n1.trans (w.1.trans n3)),
     (txt c,v)::kvs,⟨strKind_is C.prog C.w _ _,rfl,r3.1⟩,congrArg (txt c::·) r3.2.1,v,kvs,rfl,hc,w.2.step n3.go.stp _ _,r3.2.2⟩)))))
theorem sys_new {h:Heap} (hs:Has h cStatics):(h.objs.size == sysModules)=false:=hs.elim fun o e=>beq_eq_false_iff_ne.mpr (Nat.ne_of_gt (Nat.lt_trans (by decide:sysModules<cStatics) (Heap.lt_size e)))
theorem Good.sys (co:COk C fa) (x:Good C F st p):Has p.h cStatics:=co.sys.elim fun o e=>⟨o,(x.inv.base _ _ e).1⟩
theorem e_dict (co:COk C fa) {ks:List Nat} {keys:List (Option PySem.Expr)} (h:All C n nm ps es) (hk:chkKeys ks keys=true) (hl:keys.length=es.length) (h0:keys≠[]) (h15:keys.length≤15) (hnd:(ks.map txt).Nodup) :
  EOk C n nm (.dict ks ps) (.Dict keys es pos):=fun F top A st d st' p cx ev x =>
 have sh:=pairs_shape (env:=F.env) (pos:=pos) hk hl
 have m:=x.mark (s':={ p.s with heap:=p.h.push { cls:=.type "dict",data:=.dict #[] } }) (k:=top+1) cx.ok (fun o e=>absurd e (get_new p.h o)) (fun b _=>Kp.push _ _ b) fun _=>⟨_,Heap.get?_push_size _ rfl⟩
 have cx1:Cx n nm F (top+1) A:=⟨cx.ok.more 1,cx.nm,cx.a⟩
 have nD:¬ SE F (top+1) (lab p.own p.h.objs.size (top+1) p.h.objs.size):=lab_self.symm▸cx.ok.hk
 bnd_is ev fun ds st1 ev1 ev=>ret_is (Q:=fun d st'=>wp C A (eval (.Dict keys es pos) F.env) (Out C F (SE F top) p st' (RV C d)) p.s) ev
  (wpAny_Dict_pairs (knd:=C.knd) sh.1 (fun q=>h0 (List.length_eq_zero_iff.mp (sh.2.symm.trans (q▸rfl)))) (sh.2.symm▸h15) (seq (pairs_ok h hk hl F (top+1) A st ds st1 _ cx1 ev1 m.2) fun vs p2 n2 r2=>r2.elim fun kvs r2 =>
   have hD:p2.h.DictOf C.knd p.h.objs.size []:=dictOf_at (C:=C) (Heap.DictOf.new p.h) fun o e=>(n2.go.stp.k _ nD o e).1
   have oD:p2.own p.h.objs.size=top+1:=(n2.go.stp.k p.h.objs.size nD _ (Heap.get?_push_size _ rfl)).2.trans lab_self
   have n1:Now C F (SE F top) p st ⟨lab p.own p.h.objs.size (top+1),p.la,{ p.s with heap:=p.h.push { cls:=.type "dict",data:=.dict #[] } }⟩:=⟨m.2,⟨_,_,rfl⟩,m.1.mono cx.ok.e0 fun n h=>.inr (.inr h),pre_nil⟩
   ⟨kvs,r2.1,hD,fun h' hd hs=>(Now.addLoc (tk:=p2.s.toks+vs.length) (lo:=.dct (ks.zip ds)) cx.ok n2.good (fun o e=>oD▸Nat.lt_succ_self top) (same_k hs) fun g =>
    ⟨kvs,(merged_nil_of_nodup kvs (r2.2.1▸hnd))▸hd,sys_new (x.sys co),r2.2.2.step g _ _⟩).after (n1.trans (n2.mono cx.ok.e0 fun _=>SE.up))⟩))
theorem e_dict0 (co:COk C fa):EOk C n nm (.dict [] []) (.Dict [] [] pos):=fun F top A st d st' p cx ev x=>ret_is (Q:=fun d st'=>wp C A (eval (.Dict [] [] pos) F.env) (Out C F (SE F top) p st' (RV C d)) p.s) ev
 (wpAny_Dict_empty (Now.addLoc (tk:=p.s.toks) (lo:=.dct []) cx.ok x (fun o e=>absurd e (get_new p.h o)) (fun b _=>Kp.push _ _ b) fun g=>⟨[],Heap.DictOf.new p.h,sys_new (x.sys co),rfl⟩))
theorem e_getD {apos:Pos} (hp:plainBase e1=true) (hl:(apos.endLine == pos.line)=true) (hsk:noStar e2=true) (hsd:noStar e3=true) (h1:EOk C n nm a e1) (h2:EOk C n nm b e2) (h3:EOk C n nm c e3) :
  EOk C n nm (.getD a b c) (.Call (.Attribute e1 "get" apos) [e2,e3] [] pos):=fun F top A st d st' p cx ev x =>
 have tr:backTo pos (starEach [e2,e3] F.env)=[(false,eval e2 F.env),(false,eval e3 F.env)]:=by
  rw [star_plain hsk,star_plain hsd];rfl
 bnd_is ev fun x1 st1 ev1 ev=>obind_is ev fun l0 hd0 ev=>bnd_is ev fun x2 st2 ev2 ev=>bnd_is ev fun x3 st3 ev3 ev =>
 wpAny_Call_method (T:="dict") (id:="dict.get") (base_plain hp) (tr.symm▸rfl) hl PySem.F.plainAttrs_dict PySem.F.slot_dict_get PySem.F.type_dict_get (seq (h1 F top A st x1 st1 p cx ev1 x) fun o p1 n1 r1 =>
  (RepT.dict r1 n1.good hd0).elim fun ad q=>q.elim fun kvs0 q=>q.1.symm▸⟨q.2.1.typeIs,fun _ hb=>Value.ref.inj hb▸q.2.1.elim fun ob k=>k.elim fun es k=>k.elim fun ep k=>⟨ob,k.1,k.2.1.2.1⟩,tr.symm ▸
   wpAny_dict_get2 (knd:=C.knd) q.2.2.1 (seq (h2 F top A st1 x2 st2 p1 cx ev2 n1.good) fun kv p2 n2 r2=>seq (h3 F top A st2 x3 st3 p2 cx ev3 n2.good) fun dv p3 n3 r3 =>
    have n:=n1.trans (n2.trans n3)
    ret1_is (Q:=fun d st'=>∃ (k:Str) (f:Str→Option Value),C.knd.is k kv=true∧p3.h.MapOf C.knd ad f∧Out C F (SE F top) p st' (RV C d) ((f k).getD dv) { p3.s with toks:=p3.s.toks+1 }) ev fun d e=>obind_is e fun l hd e=>omap_is e fun k hk e =>
     (((RepT.go r1 n2.go).go n3.go).dict n3.good hd).elim fun a' w=>w.elim fun kvs w=>(RepT.str (r2.go n3.go) hk).2.elim fun tk hv=>by
      obtain ⟨g1,g2⟩:=repD_get w.2.2.2 (RepT.str (r2.go n3.go) hk).1
      cases hv
      have ea:ad=a':=Value.ref.inj (q.1.symm.trans w.1)
      refine ⟨txt k,valueAt kvs,strKind_is C.prog C.w _ tk,ea▸w.2.1.mapOf,e▸(?_:Out C F (SE F top) p3 st3 (RV C ((dget l k).getD x3)) _ _).after n⟩
      cases hg:dget l k with
      | some u=>exact (g1 u hg).elim fun z h=>h.1.symm▸Out.tok cx.ok.e0 n3.good h.2.top
      | none=>exact (g2 hg).symm▸Out.tok cx.ok.e0 n3.good r3)⟩)
end
theorem each_text {k:Nat}:(Str.empty++txt 25++Str.ofString "'"++Str.ofString (toString ((k:Nat):Int)))=txt (1000+k):=by
 rw [txt_high (Nat.le_add_right 1000 k),show Str.empty++txt 25++Str.ofString "'"=Str.ofString "each'" by decide +kernel,show toString ((k:Nat):Int)=toString k from rfl,Nat.add_sub_cancel_left]
theorem each_len6:(Str.empty++txt 25++Str.ofString "'").length=5:=by decide +kernel
theorem line_100 {n:Nat} (h:n≤100):n≤sizeLine:=Nat.le_trans h (sizeLine_eq▸(by decide))
theorem each_len4:(Str.empty++txt 25).length≤sizeLine:=line_100 (by decide +kernel)
theorem txt25_len:(txt 25).length≤sizeLine:=line_100 (by decide +kernel)
theorem log_small {k:Nat} (h:k<1000000):((k:Nat):Int).natAbs.log2<1920 :=
 Decidable.byCases (p:=k=0) (fun q=>q▸(by decide:(Nat.log2 0)<1920)) fun q=>Nat.lt_trans ((Nat.log2_lt q).mpr (Nat.lt_trans h (by decide:1000000<2 ^ 20))) (by decide)
theorem each_len11 {k:Nat} (h:k<1000000):(Str.empty++txt 25++Str.ofString "'"++Str.ofString (toString ((k:Nat):Int))).length≤sizeLine:=by
 rw [strLen_append,each_len6]
 exact line_100 (Nat.le_trans (Nat.add_le_add_left (PyProof.Rows.toString_length_le (k:=6) (by lia) (by decide) (by lia)) 5) (by decide))
section
variable {C:Cfg} {fa:Fn→Addr} {n:Nat} {nm:List (Str×NameKind)} {F:Fr} {top:Nat} {A:Around} {S:Nat→Prop} {p p':Pl} {st st' st1 st2:St} {a b c:PE} {e e1 e2 e3:PySem.Expr} {pos:Pos} {ps:List PE} {es:List PySem.Expr} {d d1 d2:AV} {v v1 v2:Value}
theorem fstr_rest {p2 p3:Pos} {kc k:Nat} (hk:k<1000000) (h2:EOk C n nm b e2) (cx:Cx n nm F top A) (ev:evE C n b st=some (.int (k:Nat),st')) (x:Good C F st p) :
  Joins C.M A F0 (evalEach [.Constant (.str "'") kc p2,.FormattedValue e2 (-1) none p3] F.env) (Str.empty++txt 25) (fun out s=>out.length≤sizeLine∧Out C F (SE F top) p st' (RV C (.str (1000+k))) (.str out s.toks) { s with toks:=s.toks+1 }) p.s :=
 PySem.wpAny_Constant_str ⟨_,_,rfl,line_100 (each_len6▸(by decide)),
  have n1:Now C F (SE F top) p st ⟨p.own,p.la,{ p.s with toks:=p.s.toks+1 }⟩:=.toks cx.ok.e0 x
  wpAny_FormattedValue_plain (seq (h2 F top A st _ st' _ cx ev n1.good) fun w p2 n2 r2=>Exists.elim (show ∃ t,w=.int (k:Nat) t from r2) fun t hw=>hw.symm ▸
   wpAny_formatField_int (log_small hk) ⟨_,_,rfl,each_len11 hk,each_len11 hk,(each_text (k:=k)▸Out.tok cx.ok.e0 n2.good (d:=.str (1000+k)) ⟨Bool.or_eq_true_iff.mpr (.inr (Nat.ble_eq_true_of_le (Nat.le_add_right 1000 k))),_,rfl⟩:Out C F (SE F top) p2 st' (RV C (.str (1000+k))) (.str (Str.empty++txt 25++Str.ofString "'"++Str.ofString (toString ((k:Nat):Int))) _) _).after (n1.trans n2)⟩)⟩
theorem e_fstr {p1 p2 p3:Pos} {kc:Nat} (h1:EOk C n nm a e1) (h2:EOk C n nm b e2):EOk C n nm (.fstr a b) (.JoinedStr [.FormattedValue e1 (-1) none p1,.Constant (.str "'") kc p2,.FormattedValue e2 (-1) none p3] pos):=fun F top A st d st' p cx ev x =>
 bnd_is ev fun x1 st1 ev1 ev=>bnd_is ev fun x2 st2 ev2 ev=>ret1_is (Q:=fun d st'=>wp C A (eval (.JoinedStr [.FormattedValue e1 (-1) none p1,.Constant (.str "'") kc p2,.FormattedValue e2 (-1) none p3] pos) F.env) (Out C F (SE F top) p st' (RV C d)) p.s) ev fun d e =>
  obind_is e fun c hc e=>obind_is e fun i hi e=>cond_is e fun h e=>some_is (Q:=fun d=>wp C A (eval (.JoinedStr [.FormattedValue e1 (-1) none p1,.Constant (.str "'") kc p2,.FormattedValue e2 (-1) none p3] pos) F.env) (Out C F (SE F top) p st2 (RV C d)) p.s) e (by
   have h3:0≤i∧i<1000000:=of_decide_eq_true (and_is h).2
   obtain ⟨k,rfl⟩:=Int.eq_ofNat_of_zero_le h3.1
   cases Nat.eq_of_beq_eq_true (and_is h).1
   cases asInt_is hi
   refine wpAny_JoinedStr (wpAny_FormattedValue_plain (seq (h1 F top A st x1 st1 p cx ev1 x) fun w p1 n1 r1=>?_))
   obtain ⟨t,rfl⟩:=(RepT.str r1 hc).2
   have go:∀ tk,Joins C.M A F0 (evalEach [.Constant (.str "'") kc p2,.FormattedValue e2 (-1) none p3] F.env) (Str.empty++txt 25) (fun out s=>out.length≤sizeLine∧Out C F (SE F top) p st2 (RV C (.str (1000+k))) (.str out s.toks) { s with toks:=s.toks+1 }) { p1.s with toks:=tk }:=fun tk =>
    have n2:Now C F (SE F top) p st1 ⟨p1.own,p1.la,{ p1.s with toks:=tk }⟩:=n1.trans (.toks cx.ok.e0 n1.good)
    wpAny_mono (fstr_rest (p2:=p2) (p3:=p3) (kc:=kc) (Int.ofNat_lt.mp h3.2) h2 cx ev2 n2.good) (fun v s h=>h.elim fun y h=>h.elim fun t h=>⟨y,t,h.1,h.2.1,wpAny_mono h.2.2 (fun v s h=>h.elim fun y h=>h.elim fun t h=>⟨y,t,h.1,h.2.1,h.2.2.1,h.2.2.2.after n2⟩) fun _ _ f=>f⟩) fun _ _ f=>f
   exact wpAny_formatField_str ⟨_,_,rfl,each_len4,go p1.s.toks⟩ ⟨_,_,rfl,each_len4,go (p1.s.toks+1)⟩ txt25_len)
theorem e_rev {sp:Pos} {k:Nat} {p1 p2:Pos} (h1:EOk C n nm a e1):EOk C n nm (.rev a) (.Subscript e1 (.Slice none none (some (.UnaryOp .USub (.Constant (.int 1) k p1) p2)) sp) pos):=fun F top A st d st' p cx ev x =>
 bnd_is ev fun x1 st1 ev1 ev=>Subscript_ (seq (h1 F top A st x1 st1 p cx ev1 x) fun v p3 n1 r1=>wpAny_Slice (wpAny_evalPart_none (wpAny_evalPart_none (wpAny_evalPart_some (wpAny_UnaryOp (wpAny_Constant_int (PyProof.Rows.neg_int
  (ret1_is (Q:=fun d st'=>wp C A (subscriptTail e1 (.Slice none none (some (.UnaryOp .USub (.Constant (.int 1) k p1) p2)) sp) v (.ref p3.s.heap.objs.size)) (Out C F (SE F top) p st' (RV C d)) { p3.s with heap:=p3.s.heap.push { cls:=.type "slice",data:=.fields #[.none,.none,.int (-1) (p3.s.toks+1)] },toks:=p3.s.toks+1+1 }) ev fun d e=>omap_is e fun xs hx e=>e▸by
   have n4:=Now.push (S:=SE F top) (tk:=p3.s.toks+1+1) cx.ok.e0 n1.good { cls:=.type "slice",data:=.fields #[.none,.none,.int (-1) (p3.s.toks+1)] }
   obtain ⟨t,vs,rfl,ht,hn,hr⟩:=(RepT.go r1 n4.go).list n4.good hx
   refine tail_any (ops:=[.ref t,.ref p3.s.heap.objs.size]) ht.isList.typeIs slot_list_getitem.lookup (wpAny_getItem_list_slice ht.isList (Heap.IsSliceOf.new ..) .none .none (.int _ _) (by simp) ?_ (Nat.le_trans hn cap_line)) rfl
   rw [krv_pick]
   exact (Out.newLst (vs:=vs.reverse) cx.ok.e0 n4.good hr.reverse (Nat.le_trans (Nat.le_of_eq List.length_reverse) hn)).after (n1.trans n4)))))))))
def IOk (C:Cfg) (n:Nat) (nm:List (Str×NameKind)) (a:PE) (e:PySem.Expr):Prop:=∀ (F:Fr) (top:Nat) (A:Around) (st:St) (d:AV) (st':St) (p:Pl) (xs:List AV),Cx n nm F top A→evE C n a st=some (d,st')→itemsOf d=some xs→Good C F st p→wp C A (eval e F.env) (Out C F (SE F top) p st' (IterR C (top+1) d)) p.s
theorem items_rep {xs:List AV} (h:itemsOf d=some xs) (r:RepT C p d v) {k:Nat}:IterR C k d p v:=by
 cases d <;> first | exact nn h | exact .rep rfl r | exact False.elim r
theorem i_plain (h:EOk C n nm a e):IOk C n nm a e:=fun F top A st d st' p xs cx ev hi x=>(h F top A st d st' p cx ev x).mono fun v s o=>o.elim fun w o=>o.elim fun l o=>⟨w,l,o.1,items_rep hi o.2⟩
theorem evalL_one {cells:List Int} {call:Fn→List AV→GS→Option (AV×GS)} (h:evalE cells call a st=some (d,st')):evalL cells call [a] st=some ([d],st'):=bnd_at h
theorem evalL_two {cells:List Int} {call:Fn→List AV→GS→Option (AV×GS)} (h:evalE cells call a st=some (d1,st1)) (h':evalE cells call b st1=some (d2,st2)):evalL cells call [a,b] st=some ([d1,d2],st2):=(bnd_at h).trans (bnd_at (evalL_one h'))
theorem all_one (h:Both C n nm a e):All C n nm [a] [e]:=⟨e,[],rfl,h,rfl⟩
theorem all_two (h:Both C n nm a e1) (h':Both C n nm b e2):All C n nm [a,b] [e1,e2]:=⟨e1,[e2],rfl,h,all_one h'⟩
theorem i_range (co:COk C fa) {np:Pos} (hg:nm.lookup ("range":Str)=some .globalImplicit) (h:Both C n nm a e):IOk C n nm (.range a) (.Call (.Name "range" np) [e] [] pos):=fun F top A st d st' p xs cx ev hi x =>
 bnd_is ev fun x1 st1 ev1 ev=>call_bi co (all_one h) (List.cons_ne_nil _ _) cx x (y:=("range",.type "range")) (by simp [biNames]) hg (evalL_one ev1) fun vs p1 n1 r1=>r1.elim fun v1 r1=>r1.elim fun us r1 =>
  ret1_is (Q:=fun d st'=>wp C A (call (.type "range") vs) (Out C F (SE F top) p st' (IterR C (top+1) d)) p1.s) ev fun d e=>obind_is e fun i hi e=>cond_is e fun hc e=>(RepT.int r1.2.1 hi).elim fun t ht=>by
   cases (r1.2.2:us=[])
   rw [r1.1,ht]
   have n2:=Now.push (S:=SE F top) (tk:=p1.s.toks+1+1) cx.ok.e0 n1.good { cls:=.type "range",data:=.fields #[.int 0 p1.s.toks,.int i t,.int 1 (p1.s.toks+1)] }
   have hc:0≤i∧i<1000000:=of_decide_eq_true hc
   exact Option.some.inj e▸call_range_1 ⟨_,_,n1.trans n2,.rng (Heap.get?_push_size _ rfl) hc.1 hc.2⟩
end
noncomputable def zlab (own:Addr→Nat) (L:List Addr) (k:Nat):Addr→Nat:=fun b=>if b∈L then k else own b
theorem zlab_in {own:Addr→Nat} {L:List Addr} {k:Nat} {b:Addr} (h:b∈L):zlab own L k b=k:=if_pos h
theorem zlab_no {own:Addr→Nat} {L:List Addr} {k:Nat} {b:Addr} (h:b∉L):zlab own L k b=own b:=if_neg h
noncomputable def fresh4 (N:Nat):List Addr:=[N,N+1,N+3,N+4]
theorem fresh4_ge {N b:Nat} (h:b∈fresh4 N):N≤b:=allc (P:=fun b=>N≤b) (Nat.le_refl N) (allc (Nat.le_succ N) (allc (Nat.le_add_right N 3) (allc (Nat.le_add_right N 4) alln))) b h
theorem fresh4_2 (N:Nat):N+2∉fresh4 N:=fun h=>allc (P:=fun b:Nat=>b≠N+2) (a:=N) (l:=[N+1,N+3,N+4]) (by lia) (allc (by lia) (allc (by lia) (allc (by lia) alln))) (N+2) h rfl
theorem zip_apart {N a1 a2:Nat} (h1:a1<N) (h2:a2<N):ZipApart (N+4) (N+2) (N+3) N (N+1) a1 a2:=by
 have nz:∀ a b:Nat,a≠b→(a:Addr)≠b:=fun _ _ h=>h
 constructor <;> exact nz _ _ (by lia)
section
variable {C:Cfg} {fa:Fn→Addr} {n:Nat} {nm:List (Str×NameKind)} {F:Fr} {top:Nat} {A:Around} {S:Nat→Prop} {p p':Pl} {st st' st1 st2:St} {a b c:PE} {e e1 e2 e3:PySem.Expr} {pos:Pos} {ps:List PE} {es:List PySem.Expr} {d d1 d2:AV} {v v1 v2:Value}
theorem lst_rep {l:List AV} {x:AV} (h:lstOf x=some l) (r:RepT C p x v):∃ a vs,v=.ref a∧p.own a=0∧p.h.PlainList a (List.toArray vs)∧vs.length≤cap∧Reps C p l vs:=(lstOf_is h▸r:RepT C p (.lst l) v)
theorem zip_new (z:¬ S 0) (x:Good C F st p) {k:Nat} {l m:List AV} {a1 a2:Addr} {vs us:List Value} (o1:p.own a1=0) (o2:p.own a2=0) (t1:p.h.PlainList a1 (List.toArray vs)) (t2:p.h.PlainList a2 (List.toArray us)) (r1:Reps C p l vs) (r2:Reps C p m us) {h':Heap}
  (z1:IsZip h' (p.h.objs.size+4) (p.h.objs.size+2) (p.h.objs.size+3) .none) (z2:IsPair h' (p.h.objs.size+2) (.ref p.h.objs.size) (.ref (p.h.objs.size+1))) {x1 x2:Value} (z3:IsPair h' (p.h.objs.size+3) x1 x2) (z4:h'.IsListIter p.h.objs.size a1 0) (z5:h'.IsListIter (p.h.objs.size+1) a2 0) (keep:Kp p.h h') :
  Out C F S p st (IterR C k (.zp (zipL l m))) (.ref (p.h.objs.size+4)) { p.s with heap:=h' } :=
 have l1:a1<p.h.objs.size:=(plain_has t1).elim fun _ e=>Heap.lt_size e
 have l2:a2<p.h.objs.size:=(plain_has t2).elim fun _ e=>Heap.lt_size e
 have old:∀ b,b<p.h.objs.size→zlab p.own (fresh4 p.h.objs.size) k b=p.own b:=fun b h=>zlab_no fun q=>Nat.not_lt.mpr (fresh4_ge q) h
 have g:Stp no p ⟨zlab p.own (fresh4 p.h.objs.size) k,p.la,{ p.s with heap:=h' }⟩:=.keeps keep fun b h=>h.elim fun o e=>old b (Heap.lt_size e)
 have new0:p.own (p.h.objs.size+2)=0:=Classical.byContradiction fun q=>(x.fresh _ q).elim fun o e=>absurd (Heap.lt_size e) (Nat.not_lt.mpr (Nat.le_add_right _ 2))
 have m0:p.h.objs.size∈fresh4 p.h.objs.size:=.head _
 have m1:p.h.objs.size+1∈fresh4 p.h.objs.size:=.tail _ (.head _)
 have m3:p.h.objs.size+3∈fresh4 p.h.objs.size:=.tail _ (.tail _ (.head _))
 have m4:p.h.objs.size+4∈fresh4 p.h.objs.size:=.tail _ (.tail _ (.tail _ (.head _)))
 ⟨_,_,⟨x.quiet g rfl id id id id fun b e=>Classical.byCases (p:=b∈fresh4 p.h.objs.size) (allc (P:=fun b=>Has h' b) (z4.elim fun o e=>⟨o,e.1⟩) (allc (z5.elim fun o e=>⟨o,e.1⟩) (allc ⟨_,z3⟩ (allc ⟨_,z1⟩ alln))) b) fun q=>keep.has (x.fresh b (zlab_no (own:=p.own) (k:=k) q▸e)),
   ⟨_,_,rfl⟩,g.mono z fun _ h=>h.elim,pre_nil⟩,
  .zip (zip_apart l1 l2) ⟨⟨z1,z2,⟨_,_,z3⟩,z4,z5,(plain_at t1 fun o e=>keep _ _ e).isList,(plain_at t2 fun o e=>keep _ _ e).isList⟩,
   allc (.inl (zlab_in m4)) (allc (.inr ((zlab_no (fresh4_2 _)).trans new0)) (allc (.inl (zlab_in m3)) (allc (.inl (zlab_in m0)) (allc (.inl (zlab_in m1)) (allc (.inr ((old _ l1).trans o1)) (allc (.inr ((old _ l2).trans o2)) alln)))))),
   allc (zlab_in m4) (allc (zlab_in m3) (allc (zlab_in m0) (allc (zlab_in m1) alln))),r1.step g _ _,r2.step g _ _⟩⟩
theorem i_zip (co:COk C fa) {np:Pos} (hg:nm.lookup ("zip":Str)=some .globalImplicit) (h1:Both C n nm a e1) (h2:Both C n nm b e2):IOk C n nm (.zip a b) (.Call (.Name "zip" np) [e1,e2] [] pos):=fun F top A st d st' p xs cx ev hi x =>
 bnd_is ev fun x1 st1 ev1 ev=>bnd_is ev fun x2 st2 ev2 ev=>call_bi co (all_two h1 h2) (List.cons_ne_nil _ _) cx x (y:=("zip",.type "zip")) (by simp [biNames]) hg (evalL_two ev1 ev2) fun vs p1 n1 r1=>r1.elim fun v1 r1=>r1.elim fun us r1=>r1.2.2.elim fun v2 r2=>r2.elim fun us2 r2 =>
  ret1_is (Q:=fun d st'=>wp C A (call (.type "zip") vs) (Out C F (SE F top) p st' (IterR C (top+1) d)) p1.s) ev fun d e=>obind_is e fun l hl e=>omap_is e fun m hm e=>by
   obtain ⟨a1,ws1,rfl,o1,t1,_,q1⟩:=lst_rep hl r1.2.1
   obtain ⟨a2,ws2,rfl,o2,t2,_,q2⟩:=lst_rep hm r2.2.1
   cases (r2.2.2:us2=[])
   rw [r1.1,r2.1,← e]
   exact call_zip_2 t1.isList t2.isList fun h' z1 z2 z3 z4 z5 hsz keep=>(zip_new cx.ok.e0 n1.good o1 o2 t1 t2 q1 q2 z1 z2 z3 z4 z5 keep).after n1
noncomputable def foldOk (e:PySem.Expr):Bool:=!Nat.beq e.ctorIdx 7
theorem fold_pure {e:PySem.Expr} {env:Env}:foldOk e=true→∀ x,foldedSetIterable e env x=pure x:=by cases e <;> first | exact fun _ _=>rfl | exact fun h=>nb h
theorem items_zp {t:Tgt} {xs:List AV} (h:itemsOfT t d=some xs) {nm:List (Str×NameKind)} {c:Bool} (hc:chkT nm c t e=true):itemsOf d=some xs∧(isZp d=false∨isTupT e=true):=cond_or h (fun _ h=>nn h) fun hb h=>⟨h,match t,hb,hc with
 | .v x,hb,_=>.inl hb
 | .t xs,_,hc=>isTuple_is (P:=fun e=>isZp d=false∨isTupT e=true) hc fun _ _ _ _=>.inr rfl⟩
def CondOk (C:Cfg) (n:Nat) (nm:List (Str×NameKind)) (cond:PE) (ifs:List PySem.Expr):Prop:=(ifs=[]∧isNoneE cond=true)∨(isNoneE cond=false∧∃ ce,ifs=[ce]∧TOk C n nm cond ce)
noncomputable abbrev tst (C:Cfg) (n:Nat) (cond elt:PE):St→Option (List AV×St):=testThen (isNoneE cond) (evE C n cond) (evE C n elt)
theorem turn_ok {kD:Nat} {D:Addr} {cond elt:PE} {ifs:List PySem.Expr} {c:Code} (cx:Cx n nm F top A) (ap:Apart F top kD) (hc:CondOk C n nm cond ifs) (he:EOk C n nm elt e) {ys zs:List AV} (ev:tst C n cond elt st1=some (ys,st2)) (x:Good C F st1 p) (ha:AccOk C D kD zs p) (hsz:zs.length+ys.length≤cap) :
  wp C A (restL e ifs F.env (.ref D) c) (fun fin s'=>fin=.again c∧Out C F (SC F top kD) p st2 (AccR C D kD (zs++ys)) () s') p.s :=
 restL_ok cx.ok ap (fun st1 d st2 q ev x=>he F top A st1 d st2 q cx ev x) (hc.imp id fun h=>⟨h.1,h.2.elim fun ce k=>⟨ce,k.1,fun st1 b st2 q ev x=>k.2 F top A st1 b st2 q cx (by show boolS (evE C n cond st1)=_;rw [show evE C n cond st1=some (.bool b,st2) from ev];rfl) x⟩⟩) ev x ha hsz
structure Comp1 (C:Cfg) (n:Nat) (nm:List (Str×NameKind)) (elt:PE) (t:Tgt) (it cond:PE) (x tg iter:PySem.Expr) (ifs:List PySem.Expr) (scope:Scope):Prop where
 kind:scope.kind=.function
 sc:chkScope nm scope.names (tgtVars t)=true
 tgt:chkT (relN scope.names) false t tg=true
 fold:foldOk iter=true
 it:IOk C n nm it iter
 cond:CondOk C n (relN scope.names) cond ifs
 elt:EOk C n (relN scope.names) elt x
theorem Cx.comp (cx:Cx n nm F top A) {scope:Scope} {L:Addr} (hk:scope.kind=.function) {ts:List Nat} (hs:chkScope nm scope.names ts=true) (k:Nat):Cx n (relN scope.names) (compF F top scope L) (top+2+k) A:=⟨(compF_ok cx.ok hk).more k,relabel_names cx.ok cx.nm hs,cx.a⟩
theorem tgt_k (cx:Cx n nm F top A) {t:Tgt} {tg:PySem.Expr} (h:chkT nm false t tg=true) (x:AV) (st1 st2:St) (q:Pl) (v:Value) (b:bindT t x st1=some st2) (g:Good C F st1 q) (r:Rep C q x v):wp C A (assign tg F.env v) (Out C F (SK F top) q st2 TT) q.s :=
 tgt_ok (c:=false) cx.ok cx.a.handled cx.nm g cx.ok.k0 (.inr rfl) (fun h=>Bool.noConfusion h) h r.top b
section
variable {elt it cond:PE} {tg iter:PySem.Expr} {ifs:List PySem.Expr} {scope:Scope} {pp:Pos} {t:Tgt} {use:Option (Value→Sem Unit)} {Q:Value→Shared→Prop} {xs vs:List AV} {iv:AV}
theorem comp1_core (X:Comp1 C n nm elt t it cond e tg iter ifs scope) (cx:Cx n nm F top A) (x:Good C F st p) (ev1:evE C n it st=some (iv,st1)) (ev2:itemsOfT t iv=some xs) (ev3:loopC t (tst C n cond elt) xs st1=some (vs,st2)) (hu:unb t st1.ρ=true) (hsz:small vs.length=true)
  (hQ:∀ D L q,Done C F top p ⟨st1.ρ,st2.lh,st2.g⟩ vs D L q→compPost C.M A F0 use Q (.ref D) L (.ok .next) q.s) :
  wp C A (comprehension (.ListComp e [⟨tg,iter,ifs,0⟩] scope pos) scope F.env pp (newList []) false (eval iter F.env) use) Q p.s :=
 have hi:=items_zp ev2 X.tgt
 comp_core cx.ok cx.a.handled cx.nm X.sc X.kind (fun u hu'=>unb_get hu hu') (fold_pure X.fold) (X.it F (top+2) A st iv st1 p xs ⟨cx.ok.more 2,cx.nm,cx.a⟩ ev1 hi.1 x) hi.1 hi.2 x
  (fun L it' D St0 q W x2 hst ha=>comp_loop (turn1 e tg iter ifs scope pos it' (.ref D) (compF F top scope L).env) (compF_ok cx.ok X.kind) cx.ok.ap W (tgt_k (cx.comp X.kind X.sc 1) X.tgt)
   (fun st1 ys st2 q zs b g ha hl=>turn_ok (cx.comp X.kind X.sc 1) cx.ok.ap.up X.cond X.elt b g ha hl) ev3 (.refl (cx.ok.ap.z (compF_ok cx.ok X.kind)) x2) hst ha (Nat.le_trans (Nat.le_of_eq (Nat.zero_add _)) (small_le hsz))) (small_le hsz) hQ
end
structure Comp2 (C:Cfg) (n:Nat) (nm:List (Str×NameKind)) (elt:PE) (t1:Tgt) (it1:PE) (t2:Tgt) (it2 cond:PE) (x tg iter tg2 iter2:PySem.Expr) (ifs:List PySem.Expr) (scope:Scope):Prop where
 kind:scope.kind=.function
 sc:chkScope nm scope.names (tgtVars t1++tgtVars t2)=true
 tgt:chkT (relN scope.names) false t1 tg=true
 tgt2:chkT (relN scope.names) false t2 tg2=true
 fold:foldOk iter=true
 fold2:foldOk iter2=true
 it:IOk C n nm it1 iter
 it2:IOk C n (relN scope.names) it2 iter2
 cond:CondOk C n (relN scope.names) cond ifs
 elt:EOk C n (relN scope.names) elt x
section
variable {elt it1 it2 cond:PE} {tg iter tg2 iter2:PySem.Expr} {ifs:List PySem.Expr} {scope:Scope} {pp:Pos} {t1 t2:Tgt} {use:Option (Value→Sem Unit)} {Q:Value→Shared→Prop} {xs vs:List AV} {iv:AV}
theorem comp2_core (X:Comp2 C n nm elt t1 it1 t2 it2 cond e tg iter tg2 iter2 ifs scope) (cx:Cx n nm F top A) (x:Good C F st p) (ev1:evE C n it1 st=some (iv,st1)) (ev2:itemsOfT t1 iv=some xs)
  (ev3:loopC t1 (fun st=>bnd (evE C n it2 st) fun jv st=>(itemsOfT t2 jv).bind fun ys=>loopC t2 (tst C n cond elt) ys st) xs st1=some (vs,st2)) (hu1:unb t1 st1.ρ=true) (hu2:unb t2 st1.ρ=true) (hsz:small vs.length=true)
  (hQ:∀ D L q,Done C F top p ⟨st1.ρ,st2.lh,st2.g⟩ vs D L q→compPost C.M A F0 use Q (.ref D) L (.ok .next) q.s) :
  wp C A (comprehension (.ListComp e [⟨tg,iter,[],0⟩,⟨tg2,iter2,ifs,0⟩] scope pos) scope F.env pp (newList []) false (eval iter F.env) use) Q p.s :=
 have hi:=items_zp ev2 X.tgt
 comp_core cx.ok cx.a.handled cx.nm X.sc X.kind (fun u hu'=>(List.mem_append.mp hu').elim (unb_get hu1) (unb_get hu2)) (fold_pure X.fold) (X.it F (top+2) A st iv st1 p xs ⟨cx.ok.more 2,cx.nm,cx.a⟩ ev1 hi.1 x) hi.1 hi.2 x
  (fun L it' D St0 q W x2 hst ha=>comp_loop (turn2a e tg iter tg2 iter2 ifs scope pos it' (.ref D) (compF F top scope L).env) (compF_ok cx.ok X.kind) cx.ok.ap W (tgt_k (cx.comp X.kind X.sc 1) X.tgt)
   (fun st1 ys st3 q zs b g ha hl=>bnd_is b fun jv st2 e1 b=>obind_is b fun us e2 e3=>have h2:=items_zp e2 X.tgt2
    restM_ok (it2S:=evE C n it2) (body2:=tst C n cond elt) (cx.comp X.kind X.sc 1).ok cx.a.handled cx.ok.ap.up (fold_pure X.fold2) (fun st1 iv st2 q xs ev hi g=>X.it2 (compF F top scope L) (top+2+1) A st1 iv st2 q xs (cx.comp X.kind X.sc 1) ev hi g)
     (tgt_k (cx.comp X.kind X.sc 2) X.tgt2) (fun st1 ys st2 q zs it b g ha hl=>turn_ok (cx.comp X.kind X.sc 2) cx.ok.ap.up.up X.cond X.elt b g ha hl) h2.2 e1 h2.1 e3 g ha hl)
   ev3 (.refl (cx.ok.ap.z (compF_ok cx.ok X.kind)) x2) hst ha (Nat.le_trans (Nat.le_of_eq (Nat.zero_add _)) (small_le hsz))) (small_le hsz) hQ
end
theorem Done.gone {S1:Nat→Prop} {L D:Addr} {ys:List AV} {q q':Pl} {st2:St} (ok:F.Ok top) (x:Done C F top p st1 ys D L q) (z:¬ S1 0) (hE:∀ n,SE F top n→S1 n) (hS:∀ n,S n→S1 n) (nS:¬ S (top+2)) (n1:Now C F S q st2 q') :
  ∃ m,q'.h.Ns L m∧∀ h',Heap.SameBut L q'.h h'→∃ own',Now C F S1 p st2 ⟨own',q'.la,{ q'.s with heap:=h' }⟩∧Go S1 q ⟨own',q'.la,{ q'.s with heap:=h' }⟩ :=
 have kL:=n1.go.stp.k L (x.ownL.symm▸nS)
 x.ns.elim fun m h=>⟨m,ns_at h fun o e=>(kL o e).1,fun h' hs =>
  have oL:q'.own L=top+2:=(ns_has h).elim fun o e=>(kL o e).2.trans x.ownL
  have w:=n1.good.mark (s':={ q'.s with heap:=h' }) (k:=0) ok (fun _ _=>oL.symm▸lt2 top) (fun b ne o e=>(hs.2 b ne).trans e) fun k=>absurd rfl k
  have g:Go S1 q ⟨lab q'.own L 0,q'.la,{ q'.s with heap:=h' }⟩:=(n1.go.mono z hS).trans ⟨⟨h',_,rfl⟩,w.1.mono z fun n h=>hE n (.inr (.inr h)),pre_nil⟩
  ⟨_,⟨w.2,(x.now.go.mono z hE).trans g⟩,g⟩⟩
theorem made_value {L D:Addr} {ys:List AV} {q:Pl} (ok:F.Ok top) (x:Done C F top p st' ys D L q):compPost C.M A F0 none (Out C F (SE F top) p st' (RV C (.lst ys))) (.ref D) L (.ok .next) q.s :=
 (x.gone (S:=no) ok ok.e0 (fun _ h=>h) (fun _ h=>h.elim) id (.refl id x.now.good)).elim fun m k=>⟨m,k.1,fun h' hs=>(k.2 h' hs).elim fun own w=>⟨own,_,w.1,RepT.go x.rep.top w.2⟩⟩
section
variable {elt it cond:PE} {tg iter:PySem.Expr} {ifs:List PySem.Expr} {scope:Scope} {t t1 t2:Tgt}
theorem e_comp (X:Comp1 C n nm elt t it cond e tg iter ifs scope):EOk C n nm (.comp elt t it cond) (.ListComp e [⟨tg,iter,ifs,0⟩] scope pos):=fun F top A st d st' p cx ev x =>
 bnd_is ev fun iv st1 ev1 ev=>obind_is ev fun xs ev2 ev=>bnd_is ev fun vs st2 ev3 ev=>cond_is ev fun hc ev =>
  ret_is (Q:=fun d st'=>wp C A (eval (.ListComp e [⟨tg,iter,ifs,0⟩] scope pos) F.env) (Out C F (SE F top) p st' (RV C d)) p.s) ev (eval_ListComp ..▸comp1_core (use:=none) X cx x ev1 ev2 ev3 (and_is hc).1 (and_is hc).2 fun D L q m=>made_value cx.ok m)
theorem e_comp2 {it1 it2:PE} {tg2 iter2:PySem.Expr} (X:Comp2 C n nm elt t1 it1 t2 it2 cond e tg iter tg2 iter2 ifs scope):EOk C n nm (.comp2 elt t1 it1 t2 it2 cond) (.ListComp e [⟨tg,iter,[],0⟩,⟨tg2,iter2,ifs,0⟩] scope pos):=fun F top A st d st' p cx ev x =>
 bnd_is ev fun iv st1 ev1 ev=>obind_is ev fun xs ev2 ev=>bnd_is ev fun vs st2 ev3 ev=>cond_is ev fun hc ev =>
  ret_is (Q:=fun d st'=>wp C A (eval (.ListComp e [⟨tg,iter,[],0⟩,⟨tg2,iter2,ifs,0⟩] scope pos) F.env) (Out C F (SE F top) p st' (RV C d)) p.s) ev (eval_ListComp ..▸comp2_core (use:=none) X cx x ev1 ev2 ev3 (and_is (and_is hc).1).1 (and_is (and_is hc).1).2 (and_is hc).2 fun D L q m=>made_value cx.ok m)
end
end
section
variable {prog:Program} {w:World} {K:Type} [DecidableEq K] {knd:KeyKind prog w K} {A:Around} {E:Value→Shared→Prop} {s:Shared}
theorem dictPut_pairs {d:Addr} {kvs:List (K×Value)} {k:K} {key v:Value} {Q:Unit→Shared→Prop} (hkey:knd.is k key=true) (hm:s.heap.DictOf knd d kvs)
  (hQ:∀ h',h'.DictOf knd d (stored kvs k v)→Heap.SameBut d s.heap h'→Q () { s with heap:=h' })
  (hsz:kvs.length≤sizeLine) :
  wpAny (model prog w) A (dictPut d (knd.hash k) key v) Q E s:=by
 obtain ⟨o,es,ep,ho,hc,hd,hk,hp,hn⟩:=hm
 have e1:=hp.length
 have e2:es.toList.length=es.size:=by simp
 have hes:es.size≤sizeLine:=by lia
 unfold dictPut
 refine wpAny_bind (wpAny_dictFind_of hkey ho hd hk ?_)
 have hidx:(es.findIdx? fun e=>knd.is k e.key)=kvs.findIdx? fun kv=>decide (kv.1=k):=by
  rw [← hp.findIdx k];obtain ⟨l⟩:=es;simp
 cases hi:es.findIdx? fun e=>knd.is k e.key with
 | some i =>
  refine (wpAny_updateDict ho hd ((hQ _ ⟨_,_,ep,Heap.get?_update_self _ ho (Obj.isFreed_of_dict (Obj.data_mapDict hd _)),
   hc.mapDict _,Obj.data_mapDict hd _,hk.modify _ _,?_,?_⟩ (Heap.SameBut.update ..))))
  ·rw [stored,if_pos (any_of_findIdx_some (hidx▸hi))]
   have hl:(es.toList.findIdx? fun e=>knd.is k e.key)=some i:=by rw [← hi];obtain ⟨l⟩:=es;simp
   have:=hp.modify hn hl v
   obtain ⟨l⟩:=es
   simpa using this
  ·rw [stored,if_pos (any_of_findIdx_some (hidx▸hi)),keys_map_store];exact hn
 | none =>
  have hnot:k∉kvs.map (·.1):=not_mem_of_findIdx_none (hidx▸hi)
  have hany:¬ (kvs.any fun kv=>decide (kv.1=k))=true:=by
   rw [List.any_eq_true];rintro ⟨kv,hkv,he⟩
   exact hnot (List.mem_map.mpr ⟨kv,hkv,of_decide_eq_true he⟩)
  refine (wpAny_updateDictKeys (hz:=hes) ho hd (hQ _ ⟨_,_,ep+1,Heap.get?_update_self _ ho (Obj.isFreed_of_dict (Obj.data_mapDictKeys hd _)),
   hc.mapDictKeys _,Obj.data_mapDictKeys hd _,hk.push hkey _,?_,?_⟩ (Heap.SameBut.update ..)))
  ·rw [stored,if_neg hany]
   have:=hp.append hkey (knd.hash k) v
   obtain ⟨l⟩:=es
   simpa using this
  ·rw [stored,if_neg hany,List.map_append,List.nodup_append]
   refine ⟨hn,by simp,?_⟩
   intro a ha b hb
   simp only [List.map_cons,List.map_nil,List.mem_singleton] at hb
   subst hb
   exact fun e=>hnot (e▸ha)
theorem merge_dict {d o:Addr} {kvs more:List (K×Value)} {Q:Unit→Shared→Prop} (hdo:d≠o) (hoS:(o == sysModules)=false) (href:∀ k v a,knd.is k v=true→v≠.ref a)
  (hd:s.heap.DictOf knd d kvs) (ho:s.heap.DictOf knd o more)
  (hQ:∀ h',h'.DictOf knd d (merged kvs more)→h'.DictOf knd o more→Heap.SameBut d s.heap h'→Q () { s with heap:=h' })
  (hsz:kvs.length+more.length≤sizeLine) :
  wpAny (model prog w) A (mergeMapping d (.ref o) false) Q E s:=by
 obtain ⟨od,esd,epd,hod,hcd,hdd,hkd,hpd,hnd⟩:=id hd
 obtain ⟨oo,eso,epo,hoo,hco,hdo',hko,hpo,hno⟩:=id ho
 have hlen:more.length=eso.size:=by rw [← hpo.length];simp
 unfold mergeMapping
 refine wpAny_bind (wpAny_isInstance ho.typeIs isSubtype_dict_dict ?_)
 dsimp only
 rw [if_pos rfl]
 refine wpAny_bind (wpAny_specialOf ho.typeIs PySem.F.slot_dict_iter.lookup (wpAny_bind (wpAny_pure ?_)))
 rw [show (some (Value.builtin "dict.__iter__") == some (Value.builtin "dict.__iter__"))=true by decide]
 dsimp only
 rw [if_neg (by rw [hoS];exact Bool.false_ne_true)]
 refine wpAny_bind (wpAny_dictEntries hod hdd ?_)
 have nokeys:∀ e∈eso,∀ a,e.key≠.ref a:=fun e he a=>by
  obtain ⟨k,hk,_⟩:=hko e he
  exact href k _ a hk
 have rest:wpAny (model prog w) A (do
   let size:=(← dictEntries o).size
   let epoch ← dictEpoch o
   for i in List.range size do
    let some e:=(← dictEntries o)[i]? | unsupported "dict.changed-during-merge"
    holding [e.key,e.val] do
     if false then
      if (← dictFind d e.key e.hash).isSome then rule "dict.merge.duplicate-key";raiseNew (← newExc (.type "KeyError") [e.key])
     dictPut d e.hash e.key e.val
    if (← dictEpoch o) != epoch then unsupported "dict.changed-during-merge") Q E s:=by
  refine wpAny_bind (wpAny_dictEntries hoo hdo' ?_)
  refine wpAny_bind (wpAny_dictEpoch hoo hdo' ?_)
  refine wpAny_bind (wpAny_forIn_list _
   (fun rest _ s'=>∃ h' i,s'={ s with heap:=h' }∧rest=List.range' i (eso.size - i)∧i≤eso.size∧h'.DictOf knd d (merged kvs (more.take i))∧h'.get? o=some oo∧Heap.SameBut d s.heap h')
   _ ?_ ?_ _ _ ⟨s.heap,0,rfl,by rw [List.range_eq_range'];simp,Nat.zero_le _,by simpa [merged] using hd,hoo,Heap.SameBut.refl _ _⟩)
  ·rintro x rest b s' ⟨h',i,rfl,hr,hi,hd',hoo',hs'⟩
   have hlt:i<eso.size:=by
    rcases Nat.lt_or_ge i eso.size with h | h
    ·exact h
    ·rw [Nat.sub_eq_zero_of_le h] at hr;simp at hr
   obtain ⟨rfl,hrest⟩:x=i∧rest=List.range' (i+1) (eso.size - (i+1)):=by
    have e:eso.size - i=(eso.size - (i+1))+1:=by lia
    rw [e,List.range'_succ] at hr
    injection hr with h1 h2
    exact ⟨h1,h2⟩
   refine wpAny_bind (wpAny_dictEntries hoo' hdo' ?_)
   rw [Array.getElem?_eq_getElem hlt]
   obtain ⟨kv,hkv⟩:∃ kv,more[x]?=some kv:=⟨more[x]'(by rw [hlen];exact hlt),List.getElem?_eq_getElem _⟩
   obtain ⟨k,v⟩:=kv
   obtain ⟨hkey,hval⟩:=hpo.get? (e:=eso[x]) (by simp [hlt]) hkv
   obtain ⟨k',hkey',hhash⟩:=hko eso[x] (Array.getElem_mem hlt)
   obtain rfl:k'=k:=knd.inj _ _ _ hkey' hkey
   have hmx:(merged kvs (more.take x)).length≤sizeLine:=by
    have e1:=merged_length_le kvs (more.take x)
    have e2:(more.take x).length≤more.length:=by rw [List.length_take];lia
    lia
   show wpAny _ _ (holding [eso[x].key,eso[x].val] (dictPut d eso[x].hash eso[x].key eso[x].val)>>=_) _ _ _
   rw [hhash,hval]
   refine wpAny_bind (wpAny_holding (dictPut_pairs (hsz:=hmx) hkey hd' fun h'' hd'' hs''=>?_))
   have hoo'':h''.get? o=some oo:=(hs''.2 o (Ne.symm hdo)).trans hoo'
   refine wpAny_bind (wpAny_dictEpoch hoo'' hdo' ?_)
   rw [if_neg (by simp)]
   exact wpAny_pure ⟨h'',x+1,rfl,hrest,hlt,by rw [merged_take_succ kvs more x (k',v) hkv];exact hd'',hoo'',hs'.trans hs''⟩
  ·rintro b s' ⟨h',i,rfl,hr,hi,hd',hoo',hs'⟩
   have hin:i=eso.size:=by
    rcases Nat.lt_or_ge i eso.size with h | h
    ·have e:eso.size - i=(eso.size - (i+1))+1:=by lia
     rw [e,List.range'_succ] at hr;exact nomatch hr
    ·exact Nat.le_antisymm hi h
   refine wpAny_pure (hQ h' ?_ ⟨oo,eso,epo,hoo',hco,hdo',hko,hpo,hno⟩ hs')
   rw [hin,← hlen,List.take_length] at hd';exact hd'
 split
 ·refine wpAny_bind (wpAny_dictEntries hoo hdo' ?_)
  refine wpAny_bind ?_
  have noref:(forIn eso PUnit.unit fun e (_:PUnit)=>(match e.key with
    | .ref a=>do
     let r ← specialOf e.key "__eq__"
     if (r != some (.builtin "object.__eq__"))=true then
      if (eso.filter (·.hash == e.hash)).size > 1 then do
       (unsupported "dict.merge-into-an-empty-dict:keys-of-equal-hash":Sem PUnit)
       pure (ForInStep.yield PUnit.unit)
      else pure (ForInStep.yield PUnit.unit)
     else pure (ForInStep.yield PUnit.unit)
    | _=>pure (ForInStep.yield PUnit.unit):Sem (ForInStep PUnit)))=pure PUnit.unit:=by
   rw [← Array.forIn_toList]
   refine forIn_yield_id _ fun e he c=>?_
   have:=nokeys e (Array.mem_toList_iff.mp he)
   cases hk:e.key <;> first | rfl | exact absurd hk (this _)
  exact wpAny_of_eq noref rest
 ·exact rest
end
section
variable {C:Cfg} {fa:Fn→Addr} {n:Nat} {nm:List (Str×NameKind)} {F:Fr} {top:Nat} {A:Around} {st st':St} {p:Pl} {pos:Pos} {d:AV} {v:Value} {s:Shared}
theorem str_noref (prog:Program) (w:World):∀ k v a,(strKind prog w).is k v=true→v≠.ref a:=fun k v a hk e=>Bool.noConfusion (e▸hk:(strKind prog w).is k (.ref a)=true)
theorem dictW_wp {b k v:Sem Value} {Q:Value→Shared→Prop}
  (h:wp C A b (fun m s1=>wp C A (mergeMapping s.heap.objs.size m false) (fun _ s2=>wp C A (subDict [(k,v)]) (fun sub s3=>wp C A (mergeMapping s.heap.objs.size (.ref sub) false) (fun _ s4=>Q (.ref s.heap.objs.size) s4) s3) s2) s1) { s with heap:=s.heap.push { cls:=.type "dict",data:=.dict #[] } }) :
  wp C A (dictDisplay [(none,b),(some k,v)]) Q s:=by
 unfold dictDisplay wp
 dsimp only
 rw [List.forIn_cons]
 refine wpAny_bind (wpAny_bind ?_)
 refine wpAny_bind (wpAny_pure (wpAny_bind (wpAny_alloc ?_)))
 refine wpAny_bind (wpAny_holding (wpAny_mono h (fun m s1 h1=>?_) fun _ _ f=>f))
 refine wpAny_bind (wpAny_onRaise (wpAny_tryCatch (wpAny_onRaise (wpAny_holding (wpAny_mono h1 (fun _ s2 h2=>?_) fun _ _ f=>f.elim)))))
 refine wpAny_pure ?_
 dsimp only
 rw [List.forIn_cons]
 refine wpAny_bind ?_
 dsimp only [List.nil_append]
 rw [if_neg (by simp)]
 refine wpAny_pure ?_
 dsimp only
 rw [List.forIn_nil]
 refine wpAny_pure ?_
 dsimp only
 refine wpAny_bind ?_
 rw [if_neg (by simp)]
 refine wpAny_bind (wpAny_holding (wpAny_mono h2 (fun sub s3 h3=>?_) fun _ _ f=>f))
 refine wpAny_bind (wpAny_onRaise (wpAny_holding (wpAny_mono h3 (fun _ s4 h4=>?_) fun _ _ f=>f.elim)))
 exact wpAny_pure (wpAny_pure h4)
theorem dicOf_set {lh:List (LO×Bool)} {m:Nat} {o:LO} {fz:Bool} (h:lh[m]?=some (o,fz)) (y:AV):dicOf (lh.set m (o,true)) y=dicOf lh y:=by
 unfold dicOf
 cases asLoc y with
 | none=>rfl
 | some k =>
  by_cases q:m=k
  ·cases q
   show Option.bind (lh.set m (o,true))[m]? _=Option.bind lh[m]? _
   rw [List.getElem?_set_self (List.getElem?_eq_some_iff.mp h).1,h];rfl
  ·show Option.bind (lh.set m (o,true))[k]? _=Option.bind lh[k]? _
   rw [List.getElem?_set_ne q]
theorem dicOf_keep1 {x x':AV} (e:keep1 x st=some (x',st')) (y:AV):dicOf st'.lh y=dicOf st.lh y :=
 omap_is e fun w e1 e2=>(Prod.mk.inj e2).2▸elim_is e1 (fun _ e=>cond_is e fun _ e=>(Prod.mk.inj (Option.some.inj e)).2▸rfl) fun n hn e=>omap_is e fun z hz e=>(Prod.mk.inj e).2▸dicOf_set (fz:=z.2) hz y
theorem mcap {n:Nat} (h:n<1000):n+1≤sizeLine:=Nat.le_trans h (sizeLine_eq▸by decide)
theorem e_dictW (co:COk C fa) {xb xk xv:Nat} {pb pk pv:Pos} (hb:NameOk nm true xb) (hk:NameOk nm true xk) (hv:NameOk nm true xv) :
  EOk C n nm (.dictW (.var xb) (.var xk) (.var xv)) (.Dict [none,some (.Name (vname xk) pk)] [.Name (vname xb) pb,.Name (vname xv) pv] pos):=fun F top A st d st' p cx ev x =>
 bnd_is ev fun x1 st1 ev1 ev=>omap_is ev1 fun d1 e1 q1=>bnd_is ev fun x2 st2 ev2 ev=>omap_is ev2 fun d2 e2 q2=>bnd_is ev fun x3 st3 ev3 ev=>omap_is ev3 fun d3 e3 q3=>bnd_is ev fun x4 st4 ev4 ev=>ret1_is (Q:=fun d st'=>wp C A (eval (.Dict [none,some (.Name (vname xk) pk)] [.Name (vname xb) pb,.Name (vname xv) pv] pos) F.env) (Out C F (SE F top) p st' (RV C d)) p.s) ev fun d e =>
  obind_is e fun l hd e=>obind_is e fun c hc e=>cond_is e fun hl e=>some_is (Q:=fun d=>wp C A (eval (.Dict [none,some (.Name (vname xk) pk)] [.Name (vname xb) pb,.Name (vname xv) pv] pos) F.env) (Out C F (SE F top) p st4 (RV C d)) p.s) e (by
   cases q1;cases q2;cases q3
   have hd0:=(dicOf_keep1 ev4 x1).symm.trans hd
   have hl:=Nat.le_of_ble_eq_true hl
   have hD0:=x.own_new
   have kp1:Kp p.h (p.h.push { cls:=.type "dict",data:=.dict #[] }):=.push _ _
   have hnew:(p.h.push { cls:=.type "dict",data:=.dict #[] }).DictOf C.knd p.h.objs.size []:=Heap.DictOf.new p.h
   have old:∀ {b o},p.h.get? b=some o→b≠p.h.objs.size:=fun e=>ne_new e
   have sysD:=sys_new (x.sys co)
   have big:∀ h,Kp p.h h→(h.objs.size == sysModules)=false:=fun h k=>sys_new ((x.sys co).elim fun o e=>⟨o,k _ _ e⟩)
   show wp C A (eval (.Dict [none,some (.Name (vname xk) pk)] [.Name (vname xb) pb,.Name (vname xv) pv] pos) F.env) _ p.s
   rw [arm_eval_Dict]
   refine wpAny_bind (wpAny_standAt (dictW_wp (b:=do let x ← eval (.Name (vname xb) pb) F.env;standAt pos;pure x) (k:=eval (.Name (vname xk) pk) F.env) (v:=do let x ← eval (.Name (vname xv) pv) F.env;standAt pos;pure x) ?_))
   refine wpAny_bind (load_ok (s:={ p.s with heap:=p.h.push { cls:=.type "dict",data:=.dict #[] } }) cx.ok cx.nm x kp1 hb e1 fun mv rb=>wpAny_bind (wpAny_standAt (wpAny_pure ?_)))
   obtain ⟨a,kvs,rfl,ta,hsm,rda⟩:=rb.dict x hd0
   have hlen:kvs.length<1000:=rda.length.symm▸hl
   have ha0:a≠p.h.objs.size:=(dictOf_has ta).elim fun o e=>old e
   generalize p.h.objs.size=D at hD0 hnew ha0 old sysD
   refine merge_dict ha0.symm hsm (str_noref C.prog C.w) hnew (dictOf_at ta (kp1 a)) (fun h1 hd1 _ hs1=>?_) (by rw [List.length_nil,Nat.zero_add];exact Nat.le_of_succ_le (mcap hlen))
   rw [merged_nil_of_nodup _ (dictOf_nodup ta)] at hd1
   have kp2:Kp p.h h1:=fun b o e=>(hs1.2 b (old e)).trans (kp1 b o e)
   have kp3:Kp p.h (h1.push { cls:=.type "dict",data:=.dict #[] }):=fun b o e=>Heap.get?_push_of_some _ (kp2 b o e)
   have hD1:D≠h1.objs.size:=(dictOf_has hd1).elim fun o e=>ne_new e
   refine wpAny_subDict (knd:=C.knd) (Nat.succ_le_succ (Nat.zero_le _)) (evalPairs_cons (load_ok (s:={ p.s with heap:=h1.push { cls:=.type "dict",data:=.dict #[] } }) cx.ok cx.nm x kp3 hk e2 fun kv rk=>wpAny_bind (load_ok (s:={ p.s with heap:=h1.push { cls:=.type "dict",data:=.dict #[] } }) cx.ok cx.nm x kp3 hv e3 fun vv rv=>wpAny_bind (wpAny_standAt (wpAny_pure (evalPairs_nil ?_))))))
   obtain ⟨oc,tk,rfl⟩:=rk.str hc
   refine ⟨[(txt c,vv)],⟨strKind_is C.prog C.w _ tk,rfl,trivial⟩,Heap.DictOf.new h1,fun h2 (hd2:h2.DictOf C.knd h1.objs.size [(txt c,vv)]) hs2=>?_⟩
   have kp4:Kp p.h h2:=fun b o e=>(hs2.2 b (ne_new (kp2 b o e))).trans (kp3 b o e)
   refine merge_dict hD1 (big h1 kp2) (str_noref C.prog C.w) (dictOf_at hd1 fun o e=>(hs2.2 D hD1).trans (Heap.get?_push_of_some _ e)) hd2 (fun h3 (hd3:h3.DictOf C.knd D (stored kvs (txt c) vv)) _ hs3=>?_) (mcap hlen)
   have n3:Now C F (SE F top) p st ⟨p.own,p.la,{ p.s with heap:=h3,toks:=p.s.toks+1 }⟩:=.keeps cx.ok.e0 x (fun b o e=>(hs3.2 b (old e)).trans (kp4 b o e)) ⟨_,_,rfl⟩
   exact (keep1_ok cx.ok n3.good (rv.go n3.go) ev4).elim fun own' w=>⟨own',_,n3.trans w.1,(show Rep C _ (.dct (dput l c x4)) _ from ⟨D,_,rfl,w.1.go.stp.has0 hD0 (dictOf_has hd3),hd3,sysD,repD_put ((rda.step n3.go.stp _ _).step w.1.go.stp _ _) oc w.2 (dictOf_nodup ta)⟩).top⟩)
end
section
variable {O:KeyOrd} {n:Nat} {r:Nat→O.α} {cmp:Nat→Nat→(Bool→Shared→Prop)→Shared→Prop} {s:Shared}
noncomputable def key (r:Nat→O.α) (p:Array Nat) (i:Nat):O.α:=r (p.getD i 0)
noncomputable def Asks (cmp:Nat→Nat→(Bool→Shared→Prop)→Shared→Prop) (n:Nat) (r:Nat→O.α) (s:Shared):Prop :=
 ∀ (i j:Nat) (Q:Bool→Shared→Prop),i<n→j<n→Q (O.blt (r i) (r j)) s→cmp i j Q s
def PermTo (n:Nat) (p:Array Nat):Prop:=p.toList.Perm (List.range n)
def SortTo (r:Nat→O.α) (p:Array Nat) (k:Nat):Prop:=∀ i j,i≤j→j<k→O.kle (key r p i) (key r p j)
def DownTo (r:Nat→O.α) (p:Array Nat) (k:Nat):Prop:=∀ i j,i≤j→j<k→O.kle (key r p j) (key r p i)
theorem PermTo.size {p:Array Nat} (h:PermTo n p):p.size=n:=by
 have:=h.length_eq;simpa using this
theorem PermTo.lt {p:Array Nat} (h:PermTo n p) {i:Nat} (hi:i<n):p.getD i 0<n:=by
 have hs:=h.size
 have:p.getD i 0=p.toList[i]'(by simpa using (by lia:i<p.size)):=by simp [Array.getD,(by lia:i<p.size)]
 rw [this]
 exact List.mem_range.mp (h.mem_iff.mp (List.getElem_mem _))
theorem key_congr {p q:Array Nat} {i j:Nat} (h:p[i]?=q[j]?):key r p i=key r q j:=by
 unfold key;rw [Array.getD_eq_getD_getElem?,Array.getD_eq_getD_getElem?,h]
theorem key_rev {p:Array Nat} {i j:Nat} (hj:j≤p.size) (k:Nat):key r (kas_rev p i j) k=if i≤k∧k<j then key r p (i+j - 1 - k) else key r p k:=by
 have e:=getElem?_mirror_all (i:=i) hj k
 by_cases h1:i≤k∧k<j
 ·rw [if_pos h1] at e ⊢;exact key_congr e
 ·rw [if_neg h1] at e ⊢;exact key_congr e
theorem key_bubble {p:Array Nat} {src d:Nat} (hs:src<p.size) (hd:d≤src) (k:Nat) :
  key r (bubble p src d) k=if k=src - d then key r p src else if src - d<k∧k≤src then key r p (k - 1) else key r p k:=by
 have e:=getElem?_bubble hs d hd k
 by_cases h1:k=src - d
 ·rw [if_pos h1] at e ⊢;exact key_congr e
 ·rw [if_neg h1] at e ⊢
  by_cases h2:src - d<k∧k≤src
  ·rw [if_pos h2] at e ⊢;exact key_congr e
  ·rw [if_neg h2] at e ⊢;exact key_congr e
theorem PermTo.rev {p:Array Nat} (h:PermTo n p) (i j:Nat):PermTo n (kas_rev p i j):=(Array.perm_iff_toList_perm.mp (mirror_perm _ _ _ _)).trans h
theorem PermTo.bub {p:Array Nat} (h:PermTo n p) (i j:Nat):PermTo n (bubble p i j):=(Array.perm_iff_toList_perm.mp (bubble_perm _ _ _)).trans h
theorem kle_of_not {a b:O.α} (h:¬ O.blt a b=true):O.kle b a:=(Bool.not_eq_true _).mp h
theorem SortTo.succ {p:Array Nat} {k:Nat} (h:SortTo r p k) (h1:1≤k) (hk:O.kle (key r p (k - 1)) (key r p k)):SortTo r p (k+1):=by
 intro i j hij hj
 by_cases q:j=k
 ·subst q
  by_cases q2:i=j
  ·subst q2;exact KeyOrd.kle_refl _
  ·exact KeyOrd.kle_trans (h i (j - 1) (lt_pr (Nat.lt_of_le_of_ne hij q2)) (Nat.sub_lt h1 Nat.one_pos)) hk
 ·exact h i j hij (lt_1 hj q)
theorem DownTo.succ {p:Array Nat} {k:Nat} (h:DownTo r p k) (h1:1≤k) (hk:O.kle (key r p k) (key r p (k - 1))):DownTo r p (k+1):=by
 intro i j hij hj
 by_cases q:j=k
 ·subst q
  by_cases q2:i=j
  ·subst q2;exact KeyOrd.kle_refl _
  ·exact KeyOrd.kle_trans hk (h i (j - 1) (lt_pr (Nat.lt_of_le_of_ne hij q2)) (Nat.sub_lt h1 Nat.one_pos))
 ·exact h i j hij (lt_1 hj q)
theorem asc_ok (ha:Asks cmp n r s) {p:Array Nat} (hp:PermTo n p) {Q:Nat→Shared→Prop}:∀ (f m:Nat),1≤m→m+f≤n→SortTo r p m→(∀ m',m≤m'→m'≤m+f→SortTo r p m'→(m'<m+f→O.klt (key r p m') (key r p (m' - 1)))→Q m' s)→(kas_asc p f m).kasWp cmp Q s
 | 0,m,h1,hm,hs,h=>h m (Nat.le_refl _) (Nat.le_refl _) hs (fun x=>absurd x (Nat.lt_irrefl _))
 | f+1,m,h1,hm,hs,h=>by
  unfold kas_asc
  have e:m+(f+1)=m+1+f:=Nat.add_right_comm m f 1
  have hm1:m<n:=Nat.lt_of_lt_of_le (Nat.lt_add_of_pos_right (Nat.succ_pos f)) hm
  refine ha _ _ _ (hp.lt hm1) (hp.lt (ltp h1 (Nat.le_of_lt hm1))) ?_
  show (if O.blt (key r p m) (key r p (m - 1))=true then KasT.ret m else kas_asc p f (m+1)).kasWp cmp Q s
  split
  ·rename_i hb
   exact h m (Nat.le_refl _) (Nat.le_add_right _ _) hs fun _=>hb
  ·rename_i hb
   exact asc_ok ha hp f (m+1) (Nat.le_add_left 1 m) (e▸hm) (hs.succ h1 (kle_of_not hb)) fun m' a b c d=>h m' (Nat.le_of_succ_le a) (e▸b) c fun x=>d (e▸x)
def EqTail (r:Nat→O.α) (p:Array Nat) (n q:Nat):Prop:=q+1≤n∧∀ k,n - (q+1)≤k→k<n→key r p k=key r p (n - 1)
theorem rev_eq {p:Array Nat} {m q:Nat} (hm:m≤p.size) (he:EqTail r p m q) (k:Nat):key r (kas_rev p (m - (q+1)) m) k=key r p k:=by
 rw [key_rev hm]
 have:=he.1
 split
 ·rename_i hk
  rw [he.2 _ (tl_lo this hk) (tl_hi this hk),he.2 k hk.1 hk.2]
 ·rfl
theorem DownTo.congr {p p':Array Nat} {k:Nat} (h:DownTo r p k) (e:∀ i,i<k→key r p' i=key r p i):DownTo r p' k:=fun i j hij hj=>by rw [e i (Nat.lt_of_le_of_lt hij hj),e j hj];exact h i j hij hj
theorem desc_ok (ha:Asks cmp n r s) {Q:Array Nat×Nat×Nat→Shared→Prop}:∀ (f:Nat) (p:Array Nat) (m q:Nat),PermTo n p→m+f≤n→DownTo r p m→EqTail r p m q →
  (∀ p' m' q',PermTo n p'→m≤m'→m'≤m+f→DownTo r p' m'→EqTail r p' m' q'→Q (p',m',q') s)→(kas_desc f p m q).kasWp cmp Q s
 | 0,p,m,q,hp,hm,hd,he,h=>h p m q hp (Nat.le_refl _) (Nat.le_refl _) hd he
 | f+1,p,m,q,hp,hm,hd,he,h=>by
  have hsz:=hp.size
  have h1:=he.1
  unfold kas_desc
  have h1m:=Nat.le_trans (Nat.le_add_left 1 q) h1
  have ee:m+(f+1)=m+1+f:=Nat.add_right_comm m f 1
  have hm1:m<n:=Nat.lt_of_lt_of_le (Nat.lt_add_of_pos_right (Nat.succ_pos f)) hm
  have hm2:=ltp h1m (Nat.le_of_lt hm1)
  have hmf:m+1+f≤n:=ee▸hm
  have h':∀ p' m' q',PermTo n p'→m+1≤m'→m'≤m+1+f→DownTo r p' m'→EqTail r p' m' q'→Q (p',m',q') s:=fun p' m' q' a b c=>h p' m' q' a (Nat.le_of_succ_le b) (ee.symm▸c)
  have one:∀ p',EqTail r p' (m+1) 0:=fun p'=>⟨Nat.le_add_left _ _,fun k a b=>by rw [Nat.le_antisymm (Nat.le_of_lt_succ b) a];rfl⟩
  refine ha _ _ _ (hp.lt hm1) (hp.lt hm2) ?_
  show (if O.blt (key r p m) (key r p (m - 1))=true then (if q > 0 then kas_desc f (kas_rev p (m - (q+1)) m) (m+1) 0 else kas_desc f p (m+1) 0) else KasT.ask (p.getD (m - 1) 0) (p.getD m 0) fun d=>if d=true then KasT.ret (p,m,q) else kas_desc f p (m+1) (q+1)).kasWp cmp Q s
  split
  ·rename_i hb
   have hd':DownTo r p (m+1):=hd.succ h1m (KeyOrd.kle_of_klt hb)
   split
   ·exact desc_ok ha f _ (m+1) 0 (hp.rev _ _) hmf (hd'.congr fun i _=>rev_eq (hsz.symm▸Nat.le_of_lt hm1) he i) (one _) h'
   ·exact desc_ok ha f p (m+1) 0 hp hmf hd' (one _) h'
  ·rename_i hb
   refine ha _ _ _ (hp.lt hm2) (hp.lt hm1) ?_
   show (if O.blt (key r p (m - 1)) (key r p m)=true then KasT.ret (p,m,q) else kas_desc f p (m+1) (q+1)).kasWp cmp Q s
   split
   ·exact h p m q hp (Nat.le_refl _) (Nat.le_add_right _ _) hd he
   ·rename_i hb2
    have e:key r p m=key r p (m - 1):=O.total _ _ (kle_of_not hb) (kle_of_not hb2)
    refine desc_ok ha f p (m+1) (q+1) hp hmf (hd.succ h1m (by rw [e];exact KeyOrd.kle_refl _)) ⟨Nat.succ_le_succ h1,fun k a b=>?_⟩ h'
    show key r p k=key r p m
    by_cases x:k=m
    ·rw [x]
    ·rw [e];exact he.2 k (Nat.succ_sub_succ m (q+1)▸a) (lt_1 b x)
theorem tail3_ok (ha:Asks cmp n r s) {p:Array Nat} (hp:PermTo n p) {Q:Nat×Array Nat→Shared→Prop} {m:Nat} (h1:1≤m) (hm:m≤n) (hd:DownTo r p m)
  (h:∀ m' p',PermTo n p'→1≤m'→m'≤n→SortTo r p' m'→Q (m',p') s):(kas_tail3 m n p).kasWp cmp Q s:=by
 have hsz:=hp.size
 unfold kas_tail3
 rw [KasT.kasWp_bind]
 refine asc_ok ha (hp.rev 0 m) _ _ h1 (Nat.le_of_eq (Nat.add_sub_cancel' hm)) (fun i j hij hj=>?_) fun m' a b c _=>h m' _ (hp.rev 0 m) (Nat.le_trans h1 a) (up_sub hm b) c
 have hms:m≤p.size:=hsz.symm▸hm
 rw [key_rev hms,key_rev hms,if_pos ⟨Nat.zero_le _,Nat.lt_of_le_of_lt hij hj⟩,if_pos ⟨Nat.zero_le _,hj⟩]
 exact hd _ _ (mir_le hij) (mir_lt h1 i)
theorem descPart_ok (ha:Asks cmp n r s) {p:Array Nat} (hp:PermTo n p) {Q:Nat×Array Nat→Shared→Prop} {m:Nat} (h1:1≤m) (hm:m<n) (hd:DownTo r p (m+1))
  (h:∀ m' p',PermTo n p'→1≤m'→m'≤n→SortTo r p' m'→Q (m',p') s):(kas_descPart m n p).kasWp cmp Q s:=by
 have hsz:=hp.size
 unfold kas_descPart
 rw [KasT.kasWp_bind]
 refine desc_ok ha _ _ _ _ hp (Nat.le_of_eq (Nat.add_sub_cancel' hm)) hd ⟨Nat.le_add_left _ _,fun k a b=>by rw [Nat.le_antisymm (Nat.le_of_lt_succ b) a];rfl⟩ fun p' m' q' a b c d e=>?_
 have c:=up_sub hm c
 have h1':=Nat.le_trans (Nat.le_add_left 1 m) b
 dsimp only
 have hs':=a.size
 split
 ·exact tail3_ok ha (a.rev _ _) h1' c (d.congr fun i _=>rev_eq (hs'.symm▸c) e i) h
 ·exact tail3_ok ha a h1' c d h
theorem count_ok (ha:Asks cmp n r s) {p:Array Nat} (hp:PermTo n p) (hn:1≤n) {Q:Nat×Array Nat→Shared→Prop}
  (h:∀ m' p',PermTo n p'→1≤m'→m'≤n→SortTo r p' m'→Q (m',p') s):(kas_count n p).kasWp cmp Q s:=by
 have hsz:=hp.size
 unfold kas_count
 rw [KasT.kasWp_bind]
 refine asc_ok ha hp _ 1 (Nat.le_refl _) (Nat.le_of_eq (Nat.add_sub_cancel' hn)) (fun i j hij hj=>by rw [Nat.le_antisymm hij (Nat.le_trans (Nat.le_of_lt_succ hj) (Nat.zero_le i))];exact KeyOrd.kle_refl _) fun m a b c d=>?_
 have b':=up_sub hn b
 have hm1:=ltp a b'
 split
 ·rename_i e
  have:=eq_of_beq e
  exact h m p hp a b' c
 ·rename_i e
  have e':m≠n:=fun q=>e (by rw [q];exact beq_self_eq_true _)
  have mn:=Nat.lt_of_le_of_ne b' e'
  have dn:=d ((Nat.add_sub_cancel' hn).symm▸mn)
  have mz:m≤p.size:=hsz.symm▸b'
  split
  ·refine ha _ _ _ (hp.lt (Nat.lt_of_lt_of_le hn (Nat.le_refl n))) (hp.lt hm1) ?_
   show (if O.blt (key r p 0) (key r p (m - 1))=true then KasT.ret (m,p) else kas_descPart m n (kas_rev p 0 m)).kasWp cmp Q s
   split
   ·exact h m p hp a b' c
   ·rename_i hb
    have eq0:∀ i,i<m→key r p i=key r p 0:=fun i hi=>KeyOrd.kle_antisymm (KeyOrd.kle_trans (c i (m - 1) (lt_pr hi) (Nat.sub_lt a Nat.one_pos)) (kle_of_not hb)) (c 0 i (Nat.zero_le i) hi)
    have er:∀ i,i<m+1→key r (kas_rev p 0 m) i=key r p i:=fun i hi=>by
     rw [key_rev mz]
     split
     ·rename_i q
      rw [eq0 _ (mir_lt a i),eq0 i q.2]
     ·rfl
    refine descPart_ok ha (hp.rev 0 m) a mn (DownTo.congr (p:=p) (DownTo.succ (fun i j hij hj=>?_) a (KeyOrd.kle_of_klt dn)) er) h
    rw [eq0 i (Nat.lt_of_le_of_lt hij hj),eq0 j hj];exact KeyOrd.kle_refl _
  ·rename_i q
   refine descPart_ok ha hp a mn (DownTo.succ (fun i j hij hj=>?_) a (KeyOrd.kle_of_klt dn)) h
   rw [Nat.le_antisymm hij (Nat.le_trans (Nat.le_of_lt_succ (Nat.lt_of_lt_of_le hj (Nat.le_of_not_lt q))) (Nat.zero_le i))];exact KeyOrd.kle_refl _
theorem place_ok (ha:Asks cmp n r s) {p:Array Nat} (hp:PermTo n p) {k:Nat} (hk:k<n) {Q:Nat→Shared→Prop}:∀ (f l u:Nat),l≤u→u≤k→u - l≤f→SortTo r p k →
  (∀ i,i<l→O.kle (key r p i) (key r p k))→(∀ i,u≤i→i<k→O.klt (key r p k) (key r p i)) →
  (∀ l',l'≤k→(∀ i,i<l'→O.kle (key r p i) (key r p k))→(∀ i,l'≤i→i<k→O.klt (key r p k) (key r p i))→Q l' s)→(kas_place p k f l u).kasWp cmp Q s
 | 0,l,u,h1,h2,h3,hs,ba,bb,h=>h l (Nat.le_trans h1 h2) ba fun i x y=>bb i (Nat.le_trans (sub0 h3) x) y
 | f+1,l,u,h1,h2,h3,hs,ba,bb,h=>by
  unfold kas_place
  split
  ·rename_i c
   exact h l (Nat.le_trans h1 h2) ba fun i x y=>bb i (Nat.le_trans c x) y
  ·rename_i c
   have c:l<u:=Nat.lt_of_not_le c
   have m1:=mid_lo h1
   have m2:=mid_hi c
   have m3:=Nat.lt_of_lt_of_le m2 h2
   refine ha _ _ _ (hp.lt hk) (hp.lt (Nat.lt_trans m3 hk)) ?_
   show (if O.blt (key r p k) (key r p ((l+u) / 2))=true then kas_place p k f l ((l+u) / 2) else kas_place p k f ((l+u) / 2+1) u).kasWp cmp Q s
   split
   ·rename_i hb
    exact place_ok ha hp hk f l _ m1 (Nat.le_of_lt m3) (mid_f1 h3 c) hs ba (fun i x y=>KeyOrd.klt_of_klt_of_kle hb (hs _ _ x y)) h
   ·rename_i hb
    exact place_ok ha hp hk f _ u m2 h2 (mid_f2 h3 h1) hs (fun i x=>KeyOrd.kle_trans (hs i ((l+u) / 2) (Nat.le_of_lt_succ x) m3) (kle_of_not hb)) bb h
theorem put_le {f:Nat→O.α} {k l:Nat} (hl:l≤k) (hs:∀ i j,i≤j→j<k→O.kle (f i) (f j)) (ba:∀ i,i<l→O.kle (f i) (f k)) (bb:∀ i,l≤i→i<k→O.klt (f k) (f i)) {i j:Nat} (hij:i≤j) (hj:j<k+1) :
  O.kle (if i=l then f k else if l<i∧i≤k then f (i - 1) else f i) (if j=l then f k else if l<j∧j≤k then f (j - 1) else f j):=by
 have hjk:=Nat.le_of_lt_succ hj
 have hik:=Nat.le_trans hij hjk
 by_cases hi:i=l
 ·rw [if_pos hi]
  by_cases hj':j=l
  ·rw [if_pos hj'];exact KeyOrd.kle_refl _
  ·have q:=Nat.lt_of_le_of_ne (hi▸hij) (Ne.symm hj')
   rw [if_neg hj',if_pos ⟨q,hjk⟩]
   exact KeyOrd.kle_of_klt (bb _ (lt_pr q) (pr_lt q hj))
 ·rw [if_neg hi]
  by_cases hil:l<i
  ·have q:=Nat.lt_of_lt_of_le hil hij
   rw [if_pos ⟨hil,hik⟩,if_neg (Nat.ne_of_gt q),if_pos ⟨q,hjk⟩]
   exact hs _ _ (le_pr hij 1) (pr_lt q hj)
  ·have il:=Nat.lt_of_le_of_ne (Nat.le_of_not_lt hil) hi
   rw [if_neg fun x=>hil x.1]
   by_cases hj':j=l
   ·rw [if_pos hj'];exact ba i il
   ·rw [if_neg hj']
    by_cases hjl:l<j
    ·rw [if_pos ⟨hjl,hjk⟩];exact hs _ _ (Nat.le_trans (Nat.le_of_lt il) (lt_pr hjl)) (pr_lt hjl hj)
    ·rw [if_neg fun x=>hjl x.1];exact hs _ _ hij (Nat.lt_of_lt_of_le (Nat.lt_of_le_of_ne (Nat.le_of_not_lt hjl) hj') hl)
theorem bin_ok (ha:Asks cmp n r s) {Q:Array Nat→Shared→Prop} (h:∀ p',PermTo n p'→SortTo r p' n→Q p' s):∀ (f:Nat) (p:Array Nat) (k:Nat),PermTo n p→k+f=n→SortTo r p k→(kas_bin f p k).kasWp cmp Q s
 | 0,p,k,hp,hk,hs=>h p hp (by rw [← hk];exact hs)
 | f+1,p,k,hp,hk,hs=>by
  have hsz:=hp.size
  unfold kas_bin
  rw [KasT.kasWp_bind]
  have hkn:k<n:=hk▸Nat.lt_add_of_pos_right (Nat.succ_pos f)
  have hk':k<p.size:=hsz.symm▸hkn
  refine place_ok ha hp hkn k 0 k (Nat.zero_le k) (Nat.le_refl _) (Nat.le_refl k) hs (fun i x=>absurd x (Nat.not_lt_zero _)) (fun i x y=>absurd y (Nat.not_lt.mpr x)) fun l hl ba bb=>?_
  refine bin_ok ha h f _ (k+1) (hp.bub _ _) (by rw [← hk,Nat.add_assoc,Nat.add_comm 1]) fun i j hij hj=>?_
  rw [key_bubble hk' (Nat.sub_le k l),key_bubble hk' (Nat.sub_le k l),Nat.sub_sub_self hl]
  exact put_le hl hs ba bb hij hj
theorem sort_ok (ha:Asks cmp n r s) (hn:1≤n) {Q:Array Nat→Shared→Prop} (h:∀ p',PermTo n p'→SortTo r p' n→Q p' s):(kas_sort n).kasWp cmp Q s:=by
 unfold kas_sort
 rw [KasT.kasWp_bind]
 refine count_ok ha (show (List.toArray (List.range n)).toList.Perm _ from List.Perm.refl _) hn fun m p hp h1 h2 hs=>?_
 dsimp only
 split
 ·rw [Nat.max_eq_left h1]
  exact bin_ok ha h _ p m hp (Nat.add_sub_cancel' h2) hs
 ·exact h p hp (by rw [show n=m by lia];exact hs)
end
theorem rowLt_irrefl:∀ a,rowLt a a=false
 | []=>rfl
 | a::r=>by unfold rowLt;rw [if_pos rfl];exact rowLt_irrefl r
theorem rowLt_trans:∀ a b c,rowLt a b=true→rowLt b c=true→rowLt a c=true
 | [],[],c,h,_=>by cases h
 | [],_::_,[],_,h=>by cases h
 | [],_::_,_::_,_,_=>rfl
 | _::_,[],_,h,_=>by cases h
 | _::_,_::_,[],_,h=>by cases h
 | a::r,b::q,c::p,h1,h2=>by
  unfold rowLt at h1 h2 ⊢
  by_cases e1:a=b
  ·subst e1
   rw [if_pos rfl] at h1
   by_cases e2:a=c
   ·subst e2;rw [if_pos rfl] at h2 ⊢;exact rowLt_trans r q p h1 h2
   ·rw [if_neg e2] at h2 ⊢;exact h2
  ·rw [if_neg e1] at h1
   by_cases e2:b=c
   ·subst e2;rw [if_neg e1];exact h1
   ·rw [if_neg e2] at h2
    have x:=of_decide_eq_true h1
    have y:=of_decide_eq_true h2
    rw [if_neg (by lia)]
    exact decide_eq_true (by lia)
theorem rowLt_total:∀ a b,rowLt a b=false→rowLt b a=false→a=b
 | [],[],_,_=>rfl
 | [],_::_,h,_=>by cases h
 | _::_,[],_,h=>by cases h
 | a::r,b::q,h1,h2=>by
  unfold rowLt at h1 h2
  by_cases e:a=b
  ·subst e
   rw [if_pos rfl] at h1 h2
   rw [rowLt_total r q h1 h2]
  ·rw [if_neg e] at h1
   rw [if_neg (Ne.symm e)] at h2
   have x:=of_decide_eq_false h1
   have y:=of_decide_eq_false h2
   lia
theorem rowLt_neg (a b c:List Int) (h:rowLt a c=true):rowLt a b=true∨rowLt b c=true:=by
 cases h1:rowLt a b with
 | true=>exact .inl rfl
 | false =>
  right
  cases h2:rowLt b a with
  | true=>exact rowLt_trans b a c h2 h
  | false=>rw [← rowLt_total a b h1 h2];exact h
noncomputable def rowOrd:KeyOrd:={ α:=List Int,blt:=rowLt,irrefl:=rowLt_irrefl,trans:=rowLt_trans,negTrans:=rowLt_neg,total:=rowLt_total }
def RLe (a b:List Int):Prop:=rowOrd.kle a b
theorem insRow_sorted (x:List Int):∀ l,l.Pairwise RLe→(insRow x l).Pairwise RLe
 | [],_=>List.pairwise_singleton _ _
 | y::r,h=>by
  unfold insRow
  have hc:=List.pairwise_cons.mp h
  split
  ·rename_i q
   have xy:RLe x y:=KeyOrd.kle_of_klt (O:=rowOrd) q
   refine List.pairwise_cons.mpr ⟨fun z hz=>?_,h⟩
   rcases List.mem_cons.mp hz with rfl | hz
   ·exact xy
   ·exact KeyOrd.kle_trans (O:=rowOrd) xy (hc.1 z hz)
  ·rename_i q
   refine List.pairwise_cons.mpr ⟨fun z hz=>?_,insRow_sorted x r hc.2⟩
   rcases List.mem_cons.mp ((insRow_perm x r).mem_iff.mp hz) with rfl | hz
   ·show rowLt _ _=false;simpa using q
   ·exact hc.1 z hz
theorem sortRows_sorted:∀ l,(sortRows l).Pairwise RLe
 | []=>.nil
 | x::r=>insRow_sorted x _ (sortRows_sorted r)
theorem sorted_unique:∀ {l m:List (List Int)},l.Perm m→l.Pairwise RLe→m.Pairwise RLe→l=m
 | [],m,h,_,_=>(List.Perm.eq_nil h.symm).symm
 | x::l,[],h,_,_=>absurd h.length_eq (by simp)
 | x::l,y::m,h,h1,h2=>by
  have c1:=List.pairwise_cons.mp h1
  have c2:=List.pairwise_cons.mp h2
  have e:x=y:=by
   rcases List.mem_cons.mp (h.mem_iff.mp (.head _)) with q | q
   ·exact q
   ·rcases List.mem_cons.mp (h.symm.mem_iff.mp (.head _)) with q' | q'
    ·exact q'.symm
    ·exact KeyOrd.kle_antisymm (O:=rowOrd) (c1.1 y q') (c2.1 x q)
  subst e
  rw [sorted_unique (List.Perm.cons_inv h) c1.2 c2.2]
theorem sorted_from {rs:List (List Int)} {p:Array Nat} (hp:PermTo rs.length p) (hs:SortTo (O:=rowOrd) (fun i=>rs.getD i []) p rs.length):p.toList.map (fun i=>rs.getD i [])=sortRows rs:=by
 have hz:=hp.size
 refine sorted_unique ?_ ?_ (sortRows_sorted rs)
 ·refine ((List.Perm.map _ hp).trans ?_).trans (sortRows_perm rs).symm
  rw [show (List.range rs.length).map (fun i=>rs.getD i [])=rs from ?_]
  apply List.ext_getElem
  ·simp
  ·intro i h1 h2
   simp [h2]
 ·refine List.pairwise_iff_getElem.mpr fun i j hi hj hij=>?_
  simp only [List.length_map,Array.length_toList] at hi hj
  have:=hs i j (by lia) (by lia)
  unfold key at this
  simp only [List.getElem_map,Array.getElem_toList]
  unfold RLe
  simpa [Array.getD,hi,hj] using this
section
variable {C:Cfg} {F:Fr} {A:Around} {E:Value→Shared→Prop} {p:Pl} {s:Shared} {vs:List Value} {rs:List (List Int)} {a:Addr}
theorem lex_ok {b fin:Bool} {Q:Bool→Shared→Prop}:∀ {x y:List Int} {xs ys:List Value} (i:Nat),Ints x xs→Ints y ys→fin=decide (x.length<y.length)→Q (rowLt x y) s→KatLex C.prog C.w A b fin Q (xs.zip ys) i s
 | [],[],_,_,i,hx,hy,hf,h=>by cases (hx:_=[]);cases (hy:_=[]);subst hf;exact kat_nil h
 | [],_::_,_,_,i,hx,hy,hf,h=>by cases (hx:_=[]);subst hf;exact kat_nil h
 | _::_,[],_,_,i,hx,hy,hf,h=>by
  cases (hy:_=[])
  rw [List.zip_nil_right]
  subst hf;exact kat_nil h
 | n::x,m::y,_,_,i,hx,hy,hf,h=>by
  obtain ⟨t,us,rfl,hx⟩:=hx
  obtain ⟨u,ws,rfl,hy⟩:=hy
  refine kat_cons (wpAny_eqBool_int ?_)
  rw [rowLt] at h
  by_cases e:n=m
  ·subst e
   rw [if_pos rfl] at h
   rw [beq_self_eq_true]
   exact kat_yes (lex_ok (i+1) hx hy (hf.trans (decide_eq_decide.mpr Nat.succ_lt_succ_iff)) h)
  ·rw [if_neg e] at h
   rw [beq_eq_false_iff_ne.mpr e]
   refine kat_no ?_
   cases (b&&i == 0)
   ·exact kat_one _ _ (lt_int h)
   ·exact oneLt_int h
theorem reps_intsAt {p':Pl}:∀ {r:List Int} {us:List Value},Reps C p (r.map .int) us→Reps C p' (r.map .int) us
 | [],_,h=>h
 | i::r,_,h=>h.elim fun v h=>h.elim fun us h=>⟨v,us,h.1,h.2.1,reps_intsAt h.2.2⟩
theorem reps_rowsAt (k:∀ b o,o.cls=.type "tuple"→p.h.get? b=some o→s.heap.get? b=some o):∀ {rs:List (List Int)} {vs:List Value},Reps C p (rs.map rowAV) vs→Reps C ⟨p.own,p.la,s⟩ (rs.map rowAV) vs
 | [],_,h=>h
 | r::rs,_,h=>h.elim fun v h=>h.elim fun us h=>⟨v,us,h.1,h.2.1.elim fun a w=>w.elim fun ws w=>⟨a,ws,w.1,w.2.1,w.2.2.1.elim fun o e=>⟨o,k _ _ e.2.1 e.1,e.2⟩,w.2.2.2.1,reps_intsAt w.2.2.2.2⟩,reps_rowsAt k h.2.2⟩
theorem tups_of:∀ {rs:List (List Int)} {vs:List Value},Reps C p (rs.map rowAV) vs→(∀ r∈rs,r≠[])→∃ fs,KatTups p.h vs fs∧fs.length=vs.length∧∀ f∈fs,∃ i t,f=Value.int i t
 | [],_,h,_=>(show _=[] from h).symm▸⟨[],KatTups.nil,rfl,fun _ q=>nomatch q⟩
 | []::rs,_,h,hne=>absurd rfl (hne [] (.head _))
 | (i::r)::rs,_,h,hne=>by
  obtain ⟨v,us,rfl,⟨a,ws,rfl,_,⟨ob,e1,e2,k,e3⟩,_,v1,w1,rfl,⟨t,rfl⟩,_⟩,b⟩:=h
  obtain ⟨fs,k1,k2,k3⟩:=tups_of b fun r q=>hne r (.tail _ q)
  exact ⟨_::fs,KatTups.cons (f:=.int i t) e1 e2 e3 rfl k1,congrArg (·+1) k2,fun f q=>(List.mem_cons.mp q).elim (fun q=>⟨i,t,q⟩) (k3 f)⟩
theorem reps_at (hr:Reps C p (rs.map rowAV) vs) {i:Nat} (hi:i<rs.length):Rep C p (rowAV (rs.getD i [])) (vs.getD i .none):=by
 obtain ⟨v,e,r⟩:=hr.get (i:=i) (d:=rowAV (rs.getD i [])) (by rw [List.getElem?_map,List.getD_eq_getElem?_getD,List.getElem?_eq_getElem hi];rfl)
 rw [List.getD_eq_getElem?_getD (l:=vs),e]
 exact r
theorem rep_row {r:List Int} {v:Value} (x:Rep C p (rowAV r) v):∃ a us,v=.ref a∧p.h.IsTuple a (List.toArray us)∧Ints r us :=
 x.elim fun a x=>x.elim fun us x=>⟨a,us,x.1,x.2.2.1,(reps_ints (intsOf_map r) x.2.2.2.2).1⟩
theorem reps_pick (hr:Reps C p (rs.map rowAV) vs):∀ (l:List Nat),(∀ i∈l,i<rs.length)→Reps C p ((l.map fun i=>rs.getD i []).map rowAV) (l.map fun i=>vs.getD i .none)
 | [],_=>rfl
 | i::l,k=>⟨_,_,rfl,reps_at hr (k i (.head _)),reps_pick hr l fun j q=>k j (.tail _ q)⟩
theorem asks_rows (hr:Reps C p (rs.map rowAV) vs) {b:Bool}:Asks (O:=rowOrd) (kas_ask C.prog C.w A (tuples' b) vs) rs.length (fun i=>rs.getD i []) p.s:=by
 intro i j Q hi hj h
 obtain ⟨a1,u1,e1,⟨o1,g1,c1,k1,d1⟩,i1⟩:=rep_row (reps_at hr hi)
 obtain ⟨a2,u2,e2,⟨o2,g2,c2,k2,d2⟩,i2⟩:=rep_row (reps_at hr hj)
 unfold kas_ask
 rw [e1,e2]
 refine kat_lt g1 d1 g2 d2 (lex_ok 0 i1 i2 ?_ h)
 rw [List.size_toArray,List.size_toArray,ints_len i1,ints_len i2]
theorem list_sort_rows {n:Nat} {P:PySem.Fin→Shared→Prop} {own:Addr→Nat} {la:List Addr} (ho:s.heap.get? a=some (seqObj "list" vs.toArray n)) (hr:Reps C ⟨own,la,s⟩ (rs.map rowAV) vs) (h64:rs.length<64) (hne:∀ r∈rs,r≠[])
  (h:∀ p h',PermTo rs.length p→SortTo (O:=rowOrd) (fun i=>rs.getD i []) p rs.length→(∀ b o,b≠a→s.heap.get? b=some o→h'.get? b=some o) →
   (∃ n',h'.get? a=some (seqObj "list" (List.toArray (p.toList.map fun i=>vs.getD i Value.none)) n'))→P (.done (.ret .none)) { s with heap:=h' }):wpAny C.M A (Builtin.«list.sort» ⟨[.ref a],[]⟩) P E s:=by
 have hl:vs.length=rs.length:=by rw [hr.length,List.length_map]
 have ha:a<s.heap.objs.size:=Heap.lt_size ho
 have s1:=Heap.SameBut.update s.heap a (Obj.mapSeq fun _=>(#[]:Array Value))
 obtain ⟨e1,ho1⟩:∃ e1,(s.heap.update a (Obj.mapSeq fun _=>(#[]:Array Value))).get? a=some (seqObj "list" #[] e1):=⟨_,get?_update_seq ho fun _=>#[]⟩
 rw [list_sort_plain]
 refine wpAny_bind (listItems_at ho rfl ?_)
 refine wpAny_bind (listUpdate_at ho rfl ?_ (by rw [List.size_toArray,sizeLine_eq];lia) (Nat.zero_le _))
 refine wpAny_bind (seqEpoch_at ho1 rfl ?_)
 refine wpAny_bind (wpAny_newTuple ?_ (by show vs.length≤_;rw [sizeLine_eq];lia))
 refine wpAny_bind (wpAny_newList ?_ (Nat.zero_le _))
 refine wpAny_holding ?_
 have keep:∀ b o,b≠a→s.heap.get? b=some o→(((s.heap.update a (Obj.mapSeq fun _=>(#[]:Array Value))).push (seqObj "tuple" vs.toArray 0)).push (seqObj "list" #[] 0)).get? b=some o:=fun b o q e =>
  Heap.get?_push_of_some _ (Heap.get?_push_of_some _ ((s1.2 b q).trans e))
 have ho6:(((s.heap.update a (Obj.mapSeq fun _=>(#[]:Array Value))).push (seqObj "tuple" vs.toArray 0)).push (seqObj "list" #[] 0)).get? a=some (seqObj "list" #[] e1):=Heap.get?_push_of_some _ (Heap.get?_push_of_some _ ho1)
 show wpAny C.M A _ P E { s with heap:=((s.heap.update a (Obj.mapSeq fun _=>(#[]:Array Value))).push (seqObj "tuple" vs.toArray 0)).push (seqObj "list" #[] 0) }
 generalize hH:((s.heap.update a (Obj.mapSeq fun _=>(#[]:Array Value))).push (seqObj "tuple" vs.toArray 0)).push (seqObj "list" #[] 0)=H at keep ho6 ⊢
 dsimp only
 have hr':Reps C ⟨own,la,{ s with heap:=H }⟩ (rs.map rowAV) vs:=reps_rowsAt (fun b o hc e=>keep b o (fun q=>by rw [q,ho] at e;cases e;exact absurd hc (by show Value.type "list"≠Value.type "tuple";simp)) e) hr
 have fin:∀ p:Array Nat,PermTo rs.length p→SortTo (O:=rowOrd) (fun i=>rs.getD i []) p rs.length →
   P (.done (.ret .none)) { s with heap:=H.update a (Obj.mapSeq fun _=>List.toArray (p.toList.map fun i=>vs.getD i Value.none)) }:=fun p hp hs=>by
  have s2:=Heap.SameBut.update H a (Obj.mapSeq fun _=>List.toArray (p.toList.map fun i=>vs.getD i Value.none))
  exact h p _ hp hs (fun b o q e=>(s2.2 b q).trans (keep b o q e)) ⟨_,get?_update_seq ho6 fun _=>_⟩
 have szp:∀ p:Array Nat,PermTo rs.length p→(List.toArray (p.toList.map fun i=>vs.getD i Value.none)).size≤sizeLine+1:=fun p hp=>by
  rw [List.size_toArray,List.length_map,Array.length_toList,hp.size,sizeLine_eq];lia
 by_cases h2:vs.toArray.size<2
 ·rw [if_pos h2,if_pos h2]
  rw [List.size_toArray] at h2
  refine wpAny_bind (wpAny_pure ?_)
  rw [StateT.run_pure]
  refine wpAny_bind (wpAny_pure ?_)
  dsimp only
  have hout:(arrOf (SortSt.mk' general' (vs.toArray.zip vs.toArray) #[] 7 none)).map (·.2)=List.toArray ((List.toArray (List.range rs.length)).toList.map fun i=>vs.getD i Value.none):=by
   apply Array.toList_inj.mp
   show ((vs.toArray.zip vs.toArray).map (·.2)).toList=_
   rw [Array.toList_map,Array.toList_zip]
   show (vs.zip vs).map (·.2)=(List.range rs.length).map fun i=>vs.getD i Value.none
   rw [← hl]
   apply List.ext_getElem
   ·simp
   ·intro i h1 h2
    simp at h1
    simp [h1]
  have hp:PermTo rs.length (List.toArray (List.range rs.length)):=List.Perm.refl _
  refine wpAny_bind (seqEpoch_at ho6 rfl ?_)
  rw [hout]
  refine wpAny_bind (listUpdate_at ho6 rfl ?_ (Nat.zero_le _) (szp _ hp))
  simp only [bne_self_eq_false,Bool.false_eq_true,if_false]
  refine wpAny_pure (fin _ hp fun i j hij hj=>?_)
  rw [show i=j by lia]
  exact KeyOrd.kle_refl _
 ·rw [if_neg h2,if_neg h2]
  rw [List.size_toArray] at h2
  obtain ⟨fs,t1,t2,t3⟩:=tups_of hr' hne
  refine wpAny_bind (kat_kind (T:=.type "int") t1 (by lia) (fun v hv=>by obtain ⟨i,t,rfl⟩:=t3 v hv;exact Looks.of_pure rfl) (by decide) ?_)
  have key:=sort_ok (O:=rowOrd) (n:=rs.length) (s:={ s with heap:=H }) (asks_rows (A:=A) (b:=(Value.type "int" != Value.type "tuple")) hr') (by lia) (Q:=fun p s'=>s'={ s with heap:=H }∧PermTo rs.length p∧SortTo (O:=rowOrd) (fun i=>rs.getD i []) p rs.length) fun p a b=>⟨rfl,a,b⟩
  rw [← hl] at key
  refine wpAny_bind (wpAny_mono (kat_run (ks:=vs) (vs:=vs) (Q:=fun st' s'=>s'={ s with heap:=H }∧∃ p:Array Nat,PermTo rs.length p∧SortTo (O:=rowOrd) (fun i=>rs.getD i []) p rs.length∧arrOf st'=p.map (kas_item (vs.toArray.zip vs.toArray))∧failedOf st'=none)
   rfl (by lia) (by lia) (fun p' st' s' a1 a2 a3 a4=>⟨a4.1,p',by rw [← hl];exact a4.2.1,by rw [← hl];exact a4.2.2,a2,a3⟩) key) ?_ fun _ _ e=>e)
  rintro ⟨⟨⟩,st'⟩ s' ⟨rfl,p,hp,hs,har,hf⟩
  dsimp only
  refine wpAny_bind (seqEpoch_at ho6 rfl ?_)
  rw [kat_snds rfl har]
  refine wpAny_bind (listUpdate_at ho6 rfl ?_ (Nat.zero_le _) (szp p hp))
  rw [hf]
  simp only [bne_self_eq_false,Bool.false_eq_true,if_false]
  exact wpAny_pure (fin p hp hs)
theorem sorted_rows {v:Value} {Q:Value→Shared→Prop} {own:Addr→Nat} {la:List Addr} (hl:vs.length=rs.length) (hr:Reps C ⟨own,la,s⟩ (rs.map rowAV) vs) (h64:rs.length<64) (hne:∀ r∈rs,r≠[])
  (hc:∀ (B:Around) (R:List Value→Shared→Prop),B=A.in1.in1∨B=A.in1∨B=A→(∀ h' tk,(∀ b o,s.heap.get? b=some o→h'.get? b=some o)→R vs { s with heap:=h',toks:=tk })→wpAny C.M B (collect v) R E s)
  (h:∀ D h' tk us,s.heap.get? D=none→(∀ b o,s.heap.get? b=some o→h'.get? b=some o)→h'.PlainList D (List.toArray us)→us.length=rs.length→Reps C ⟨own,la,s⟩ ((sortRows rs).map rowAV) us→Q (.ref D) { s with heap:=h',toks:=tk }) :
  wpAny C.M A (call (.builtin "sorted") [v]) Q E s:=by
 refine Calls.call_function_entry kind_sorted plain_sorted entry_sorted (args_sorted1 _) ?_
 unfold Builtin.«sorted»
 refine wpAny_bind (m:=checkCount "sorted" 1 1 _) (wpAny_pure ?_)
 refine wpAny_bind (hc _ _ (by first | exact .inl rfl | exact .inr (.inl rfl) | exact .inr (.inr rfl)) fun h1 tk k1=>?_)
 refine wpAny_bind (wpAny_newList ?_ (by rw [sizeLine_eq];lia))
 have keep:∀ b o,s.heap.get? b=some o→(h1.push (seqObj "list" vs.toArray 0)).get? b=some o:=fun b o q=>Heap.get?_push_of_some _ (k1 b o q)
 have hoL:(h1.push (seqObj "list" vs.toArray 0)).get? h1.objs.size=some (seqObj "list" vs.toArray 0):=Heap.get?_push_size _ rfl
 show wpAny C.M _ _ _ E { s with heap:=h1.push (seqObj "list" vs.toArray 0),toks:=tk }
 refine wpAny_bind (wpAny_holding (wpAny_call_entry slot_list_sort ⟨_,hoL,rfl⟩ entry_list_sort ?body (args_list_sort _)))
 case body =>
 have hnew:∀ b o,s.heap.get? b=some o→b≠h1.objs.size:=fun b o e q=>absurd (Heap.lt_size (k1 b o e)) (by rw [q];exact Nat.lt_irrefl _)
 refine list_sort_rows (own:=own) (la:=la) (s:={ s with heap:=h1.push (seqObj "list" vs.toArray 0),toks:=tk }) hoL (reps_rowsAt (fun b o _ e=>keep b o e) hr) h64 hne fun p h' hp hs kk ⟨n',g⟩=>⟨_,rfl,wpAny_pure ⟨_,rfl,?_⟩⟩
 refine h h1.objs.size h' tk (p.toList.map fun i=>vs.getD i Value.none) ?_ (fun b o e=>kk b o (hnew b o e) (keep b o e)) ⟨n',g⟩ (by rw [List.length_map,Array.length_toList,hp.size]) ?_
 ·cases e:s.heap.get? h1.objs.size with
  | none=>rfl
  | some o=>exact absurd rfl (hnew _ o e)
 ·rw [← sorted_from hp hs]
  exact reps_pick hr _ fun i hi=>List.mem_range.mp (hp.mem_iff.mp hi)
end
section
set_option maxRecDepth 100000
section
variable {prog:Program} {w:World} {s₀:Shared} {items:Array Value} {J:Nat→Obj→Prop}
noncomputable def Adds (prog:Program) (w:World) (s₀:Shared) (items:Array Value) (J:Nat→Obj→Prop):Prop :=
 ∀ (B:Around) (E:Value→Shared→Prop) (i:Nat) (v:Value) (s:Shared) (D:Addr) (o:Obj) (R:Bool→Shared→Prop),items[i]?=some v→(∀ b o,s₀.heap.get? b=some o→s.heap.get? b=some o) →
  B.units<cLine→s.heap.get? D=some o→s₀.heap.get? D=none→J i o →
  (∀ r h' tk o',Heap.SameBut D s.heap h'→s.toks≤tk→h'.get? D=some o'→J (i+1) o'→R r { s with heap:=h',toks:=tk })→wpAny (model prog w) B (setAdd D v) R E s
theorem set_loop {A:Around} {R:Result→Shared→Prop} {I l D:Addr} (hh:A.in1.handled=none) (hu:A.in1.units<cLine) (hne:l≠I) (hDI:D≠I) (hDl:D≠l) (add:Adds prog w s₀ items J) (hD:s₀.heap.get? D=none) (hI:s₀.heap.get? I=none) :
  ∀ (k i:Nat) (s:Shared) (o:Obj),items.size - i=k→i≤items.size→s.heap.IsListIter I l i→s.heap.IsList l items→s.heap.get? D=some o→J i o→(∀ b o,s₀.heap.get? b=some o→s.heap.get? b=some o) →
   s.gens=s₀.gens→s.drawn=s₀.drawn→s.os=s₀.os →
   (∀ h' tk o',h'.get? D=some o'→J items.size o'→(∀ b o,s₀.heap.get? b=some o→h'.get? b=some o)→R (.ok (.ret .none)) { s₀ with heap:=h',toks:=tk }) →
   codeAny (model prog w) A (.builtin "set.update.loop" ⟨[.ref D,.ref I],[]⟩) R s:=by
 have W:=(Walks.list (prog:=prog) (w:=w) hh I l hne items).toS
 intro k
 induction k with
 | zero =>
  intro i s o hk hi it hl ho j keep e1 e2 e3 fin
  have hin:i=items.size:=by lia
  subst hin
  refine codeAny_builtin F.entry_set_update_loop ?_
  rw [Around.under_plainId F.plain_set_update_loop _]
  show wpAny _ A.in1 (pyNext (.ref I)>>=_) _ _ s
  refine wpAny_bind (W.done s _ _ ⟨it,hl⟩ fun s' hm=>?_)
  show wpAny _ A.in1 (ret Value.none) _ _ s'
  obtain ⟨h',g',d',t',os'⟩:=s'
  have g:g'=s₀.gens:=hm.gens.trans e1
  have d:d'=s₀.drawn:=hm.drawn.trans e2
  have q:os'=s₀.os:=hm.os.trans e3
  subst g;subst d;subst q
  refine wpAny_pure (fin h' t' o (hm.heap D o (by simp [hDI]) ho) j fun b x e=>hm.heap b x ?_ (keep b x e))
  intro q
  rw [List.mem_singleton.mp q,hI] at e
  cases e
 | succ k ih =>
  intro i s o hk hi it hl ho j keep e1 e2 e3 fin
  have hlt:i<items.size:=by lia
  refine codeAny_builtin F.entry_set_update_loop ?_
  rw [Around.under_plainId F.plain_set_update_loop _]
  show wpAny _ A.in1 (pyNext (.ref I)>>=_) _ _ s
  refine wpAny_bind (W.item i s _ _ hlt ⟨it,hl⟩ fun v s' hP hst' hm=>?_)
  show wpAny _ A.in1 (holding [v] (setAdd D v)>>=_) _ _ s'
  refine wpAny_bind (wpAny_holding ?_)
  have keep':∀ b x,s₀.heap.get? b=some x→s'.heap.get? b=some x:=fun b x e=>hm.heap b x (fun q=>by rw [List.mem_singleton.mp q,hI] at e;cases e) (keep b x e)
  refine add _ _ i v s' D o _ hP keep' hu (hm.heap D o (by simp [hDI]) ho) hD j fun r h' tk o' sb ht g' j'=>?_
  refine wpAny_pure ⟨plainId_quiet F.plain_set_update_loop _,ih (i+1) _ o' (by lia) hlt (hst'.1.at fun x e=>(sb.2 _ (Ne.symm hDI)).trans e) (hst'.2.at fun x e=>(sb.2 _ (Ne.symm hDl)).trans e) g' j' (fun b x e=>(sb.2 b fun q=>?_).trans (keep' b x e)) (hm.gens.trans e1) (hm.drawn.trans e2) (hm.os.trans e3) fin⟩
  subst q
  rw [hD] at e
  cases e
end
noncomputable abbrev setNew (led:Bool):Obj:={ cls:=.type "set",dict:=none,data:=.set #[] 0 (.fresh 0 0 led) }
section
variable {prog:Program} {w:World} {A:Around} {E:Value→Shared→Prop} {s:Shared} {items:Array Value} {J:Nat→Obj→Prop}
theorem code_set_new_led (a:Value) {Q₁:Value→Shared→Prop}
  (h:Q₁ (.ref s.heap.objs.size) { s with heap:=s.heap.push (setNew (!w.params.followText "set-order")) }) :
  codeAny (model prog w) A (.call (.builtin "set.__new__") ⟨[.type "set",a],[]⟩) (wants Q₁ E) s:=by
 refine codeAny_of_tree ?_
 show wpAny _ A.in1 (do checkBuiltinCall "set.__new__" ⟨[.type "set",a],[]⟩;again (.builtin "set.__new__" ⟨[.type "set",a],[]⟩)) _ _ s
 refine wpAny_bind (wpAny_of_eq (PySem.F.newCall_set_1 a) (wpAny_pure ⟨plainId_quiet PySem.F.plain_set_new _,codeAny_builtin PySem.F.entry_set_new ?_⟩))
 rw [Around.under_plainId PySem.F.plain_set_new _]
 unfold Builtin.«set.__new__» Builtin.Frozenset.newClass
 have hsub:=sub_set_self
 obtain ⟨hp,g,d,tk,os⟩:=s
 dsimp only
 wp_walk
 refine wpAny_askSetting (wpAny_pure ?_)
 dsimp only
 simp only [newObj]
 refine wpAny_bind (wpAny_alloc (wpAny_pure ?_))
 exact wpAny_pure h
set_option maxHeartbeats 3200000 in
theorem set_list {l:Addr} {Q:Value→Shared→Prop} (hh:A.handled=none) (hu:A.units+16<cLine) (hl:s.heap.IsList l items) (h0:J 0 (setNew (!w.params.followText "set-order"))) (add:Adds prog w s items J)
  (h:∀ h' tk o,h'.get? s.heap.objs.size=some o→J items.size o→(∀ b o,s.heap.get? b=some o→h'.get? b=some o)→Q (.ref s.heap.objs.size) { s with heap:=h',toks:=tk }) :
  wpAny (model prog w) A (call (.type "set") [.ref l]) Q E s:=by
 obtain ⟨c,tl,hmro⟩:=PySem.F.called_set.mro
 have hmade:=PySem.F.called_set.made
 have hsub:=PySem.F.called_set.sub
 have hnone:s.heap.get? s.heap.objs.size=none:=Heap.get?_none_of_le (Nat.le_refl _)
 refine wpAny_call (codeAny_of_tree ?_)
 show wpAny _ _ (callAny (.type "set") _) _ _ _
 refine wpAny_pure ⟨Code.quiet_builtin _ (by decide +kernel),codeAny_builtin PySem.F.entry_type_call ?_⟩
 rw [Around.under_plain (weight_type_call_type "set" [.ref l] []) rfl]
 have h1:=PySem.F.called_set.notType
 have h2:=PySem.F.called_set.canCreate
 have hct:=PySem.F.typeCall_set_1 (.ref l)
 repeat (any_goals (first | assumption | wp_step))
 refine codeAny_mono (code_set_new_led (.ref l) (E:=E) (Q₁:=fun obj s₁=>obj=.ref s.heap.objs.size∧s₁={ s with heap:=s.heap.push (setNew (!w.params.followText "set-order")) }) ⟨rfl,rfl⟩) fun r s₁ hr=>?_
 match r,hr with
 | .ok (.ret obj),hr =>
  obtain ⟨rfl,rfl⟩:=hr
  generalize hled:(!w.params.followText "set-order")=led at h0 ⊢
  have hS:(s.heap.push (setNew led)).get? s.heap.objs.size=some (setNew led):=Heap.get?_push_size _ rfl
  have hT:Shared.TypeIs { s with heap:=s.heap.push (setNew led) } (.ref s.heap.objs.size) "set":=⟨_,hS,rfl⟩
  have hli:=PySem.F.called_set.init.lookup
  have hbi:=PySem.F.called_set.init.bind (.ref s.heap.objs.size)
  repeat (any_goals (first | assumption | wp_step))
  refine codeAny_mono (codeAny_call_builtin (R:=wants (fun r s₂=>r=.none∧∃ h' tk o,s₂={ s with heap:=h',toks:=tk }∧h'.get? s.heap.objs.size=some o∧J items.size o∧(∀ b o,s.heap.get? b=some o→h'.get? b=some o)) E)
   PySem.F.called_set.init.plain PySem.F.entry_set_init (check_set_init_1 hT ?_)) fun r₂ s₂ hr₂=>?_
  ·obtain ⟨⟨ocls,odict,odata,oslots⟩,hol,hcl,nl,hdl⟩:=hl
   simp only at hcl hdl
   subst hcl;subst hdl
   have hol':(s.heap.push (setNew led)).get? l=some { cls:=.type "list",dict:=odict,data:=.seq items nl,slots:=oslots }:=Heap.get?_push_of_some _ hol
   have hsls:=PySem.F.sub_list_set
   have hslf:=PySem.F.sub_list_frozenset
   have hne:(Value.type "list" == Value.type "dict")=false:=by decide
   have hl1:(s.heap.push (setNew led)).IsList l items:=⟨_,hol',rfl,nl,rfl⟩
   unfold Builtin.«set.__init__» noKeywords Builtin.Frozenset.updateFrom
   generalize hPI:pyIter=PI
   wp_walk
   subst hPI
   refine wpAny_pyIter_list hl1 ?_
   refine wpAny_bind (wpAny_runValue ?_)
   have hlS:l<s.heap.objs.size:=Heap.lt_size hol
   have hh3:A.in1.in1.in1.handled=none:=by simp [hh]
   have hsz:(s.heap.push (setNew led)).objs.size=s.heap.objs.size+1:=size_push' _ _
   refine set_loop (s₀:=s) (l:=l) hh3 (by simp only;lia) (by rw [hsz];exact Nat.ne_of_lt (Nat.lt_succ_of_lt hlS)) (by rw [hsz];exact Nat.ne_of_lt (Nat.lt_succ_self _)) (Nat.ne_of_gt hlS) add hnone (Heap.get?_none_of_le (by rw [hsz];exact Nat.le_succ _)) (items.size - 0) 0 _ (setNew led) rfl (Nat.zero_le _)
    ⟨_,Heap.get?_push_size _ rfl,rfl,rfl⟩ (hl1.push _) (Heap.get?_push_of_some _ hS) h0 (fun b o e=>Heap.get?_push_of_some _ (Heap.get?_push_of_some _ e)) rfl rfl rfl fun h' tk o' g j keep=>?_
   show wpAny _ _ _ _ _ _
   refine wpAny_pure ?_
   show wpAny _ _ (ret Value.none) _ _ _
   exact wpAny_pure ⟨rfl,h',tk,o',rfl,g,j,keep⟩
  ·match r₂,hr₂ with
   | .ok (.ret r),hr₂ =>
    obtain ⟨rfl,h',tk,o',rfl,g,j,keep⟩:=hr₂
    repeat (any_goals (first | assumption | wp_step))
    exact h _ _ _ g j keep
   | .error e,hr₂=>exact hr₂
 | .error e,hr=>exact hr
end
end
section
variable {α:Type} [BEq α] [LawfulBEq α]
theorem dedup_perm {l m:List α} (h:∀ x,x∈l↔x∈m) (hn:m.Nodup):m.Perm (dedup l):=(List.perm_ext_iff_of_nodup hn (dedup_nodup l)).mpr fun x=>by rw [mem_dedup,h]
theorem dedup_rev (l:List α):(dedup l.reverse).length=(dedup l).length:=(dedup_perm (fun x=>by rw [mem_dedup,List.mem_reverse]) (dedup_nodup l.reverse)).length_eq
end
section
variable {C:Cfg} {p:Pl}
theorem strs_at:∀ {l:List AV} {cs:List Nat} {vs:List Value},strsOf l=some cs→Reps C p l vs→vs.length=cs.length∧∀ (i:Nat) (c:Nat),cs[i]?=some c→okc c=true∧∃ t,vs[i]?=some (Value.str (txt c) t)
 | [],_,_,e,r=>by cases e;cases (r:_=[]);exact ⟨rfl,fun i c q=>nn (List.getElem?_nil.symm.trans q)⟩
 | d::l,cs,vs,e,r=>obind_is e fun k hk e=>omap_is e fun q e1 e2=>e2▸r.elim fun v r=>r.elim fun us r=>r.1.symm▸(r.2.1.top.str hk).2.elim fun t ht =>
  have ih:=strs_at e1 r.2.2
  ⟨congrArg (·+1) ih.1,fun i c=>match i with
   | 0=>fun h=>Option.some.inj h▸⟨(r.2.1.top.str hk).1,t,congrArg some ht⟩
   | i+1=>ih.2 i c⟩
def StrSet (C:Cfg) (cs:List Nat) (i:Nat) (o:Obj):Prop:=∃ S,o.SetObjOf C.knd S (dedup (cs.take i).reverse).length∧∀ k,S k=true↔∃ c∈cs.take i,txt c=k
theorem str_adds {s:Shared} {vs:List Value} {cs:List Nat} (hv:∀ (i:Nat) (c:Nat),cs[i]?=some c→okc c=true∧∃ t,vs[i]?=some (Value.str (txt c) t)) (hl:vs.length=cs.length) (hsm:cs.length<1000):Adds C.prog C.w s vs.toArray (StrSet C cs):=by
 intro B E i v s1 D o R hi keep _ g hD ⟨S,so,hS⟩ k
 rw [List.getElem?_toArray] at hi
 have hlt:i<cs.length:=by rw [← hl];exact (List.getElem?_eq_some_iff.mp hi).1
 obtain ⟨oc,t,ht⟩:=hv i cs[i] (by simp [hlt])
 rw [ht] at hi
 cases hi
 have tk:cs.take (i+1)=cs.take i++[cs[i]]:=by rw [List.take_add_one,List.getElem?_eq_getElem hlt];rfl
 have okall:∀ c∈cs.take i,okc c=true:=fun c hc=>by
  obtain ⟨j,hj⟩:=List.mem_iff_getElem?.mp (List.mem_of_mem_take hc)
  exact (hv j c hj).1
 have hm:S (txt cs[i])=true↔cs[i]∈dedup (cs.take i).reverse:=by
  rw [hS,mem_dedup,List.mem_reverse]
  exact ⟨fun ⟨c,hc,e⟩=>by rw [← txt_inj (okall c hc) oc e];exact hc,fun q=>⟨_,q,rfl⟩⟩
 have hle:∀ l:List Nat,(dedup l).length≤l.length:=dedup_le
 have hroom:(dedup (cs.take i).reverse).length+1<scanBound:=by
  have:=hle (cs.take i).reverse
  rw [List.length_reverse,List.length_take] at this
  unfold scanBound;lia
 unfold setAdd
 refine wpAny_holding ?_
 refine wpAny_bind (C.knd.pyHash (k:=txt cs[i]) (strKind_is C.prog C.w _ t) ?_)
 refine wpAny_setAddHashed_of (knd:=C.knd) (s:={ s1 with toks:=s1.toks+1 }) (strKind_is C.prog C.w _ t) rfl (so.setOf g (by lia)) hroom fun h' sb hs2=>?_
 obtain ⟨o2,g2,so2⟩:=hs2.objOf
 refine k _ h' _ o2 sb (Nat.le_succ _) g2 ⟨fun k'=>S k'||decide (k'=txt cs[i]),?_,fun k'=>?_⟩
 ·have e:(dedup (cs.take (i+1)).reverse).length=if S (txt cs[i]) then (dedup (cs.take i).reverse).length else (dedup (cs.take i).reverse).length+1:=by
   rw [tk,List.reverse_append,List.reverse_singleton,List.singleton_append,dedup_cons]
   by_cases q:S (txt cs[i])=true
   ·rw [if_pos q,if_pos (hm.mp q)]
   ·rw [if_neg q,if_neg fun x=>q (hm.mpr x)];rfl
  rw [e];exact so2
 ·rw [Bool.or_eq_true,hS,tk,decide_eq_true_eq]
  constructor
  ·rintro (⟨c,hc,e⟩ | e)
   ·exact ⟨c,List.mem_append_left _ hc,e⟩
   ·exact ⟨cs[i],List.mem_append_right _ (.head _),e.symm⟩
  ·rintro ⟨c,hc,e⟩
   rcases List.mem_append.mp hc with q | q
   ·exact .inl ⟨c,q,e⟩
   ·rw [List.mem_singleton.mp q] at e;exact .inr e.symm
end
noncomputable def tab (m:Nat):SetTable:={ (default:SetTable) with mask:=m }
noncomputable def adv (m:Nat) (p:SetTable.Probe):SetTable.Probe:=SetTable.advance (tab m) p
theorem advance_eq (t:SetTable) (p:SetTable.Probe):t.advance p=adv t.mask p:=rfl
noncomputable def start (m:Nat) (h:Int):SetTable.Probe:=SetTable.probeStart (tab m) h
theorem start_eq (t:SetTable) (h:Int):t.probeStart h=start t.mask h:=rfl
noncomputable def path (m:Nat) (h:Int):Nat→SetTable.Probe
 | 0=>start m h
 | k+1=>adv m (path m h k)
noncomputable def grp (m:Nat) (h:Int):Nat→Nat×Nat
 | 0=>(SetTable.bits h % (m+1),SetTable.bits h)
 | n+1=>SetTable.leap m (grp m h n).1 (grp m h n).2
noncomputable def at_ (m:Nat) (g:Nat×Nat) (d:Nat):SetTable.Probe:={ j:=g.1+d,more:=SetTable.runEnd m g.1 - g.1 - d,i:=g.1,perturb:=g.2,dummy:=none }
noncomputable def gw (m:Nat) (h:Int) (n:Nat):Nat:=SetTable.runEnd m (grp m h n).1 - (grp m h n).1
noncomputable def gst (m:Nat) (h:Int):Nat→Nat
 | 0=>0
 | n+1=>gst m h n+gw m h n+1
theorem run_le (m i:Nat):i≤SetTable.runEnd m i∧SetTable.runEnd m i≤i+9∧(i≤m→SetTable.runEnd m i≤m):=by
 unfold SetTable.runEnd
 split <;> lia
theorem grp_le (m:Nat) (h:Int) (n:Nat):(grp m h n).1≤m:=by
 cases n with
 | zero=>exact Nat.le_of_lt_succ (Nat.mod_lt _ (Nat.succ_pos _))
 | succ n=>exact Nat.le_of_lt_succ (Nat.mod_lt _ (Nat.succ_pos _))
theorem gw_le (m:Nat) (h:Int) (n:Nat):gw m h n≤9:=Nat.sub_le_iff_le_add'.mpr (run_le m _).2.1
theorem gw_end {m:Nat} {h:Int} {n d:Nat} (hd:d≤gw m h n):(grp m h n).1+d≤m:=Nat.le_trans (Nat.add_le_add_left hd _) (Nat.le_trans (Nat.le_of_eq (Nat.add_sub_cancel' (run_le m _).1)) ((run_le m _).2.2 (grp_le m h n)))
theorem adv_more {m:Nat} {g:Nat×Nat} {d:Nat} (h:d<SetTable.runEnd m g.1 - g.1):adv m (at_ m g d)=at_ m g (d+1) :=
 (if_pos (Nat.sub_pos_of_lt h):(if SetTable.runEnd m g.1 - g.1 - d > 0 then at_ m g (d+1) else at_ m (SetTable.leap m g.1 g.2) 0)=_)
theorem adv_leap {m:Nat} {g:Nat×Nat} {d:Nat} (h:d=SetTable.runEnd m g.1 - g.1):adv m (at_ m g d)=at_ m (SetTable.leap m g.1 g.2) 0 :=
 (if_neg (by rw [h,Nat.sub_self];exact Nat.lt_irrefl 0):(if SetTable.runEnd m g.1 - g.1 - d > 0 then at_ m g (d+1) else at_ m (SetTable.leap m g.1 g.2) 0)=_)
theorem path_grp (m:Nat) (h:Int):∀ (n d:Nat),d≤gw m h n→path m h (gst m h n+d)=at_ m (grp m h n) d
 | 0,0,_=>rfl
 | n+1,0,_=>(congrArg (adv m) (path_grp m h n _ (Nat.le_refl _))).trans (adv_leap rfl)
 | n,d+1,hd=>(congrArg (adv m) (path_grp m h n d (Nat.le_of_succ_le hd))).trans (adv_more hd)
theorem gst_le (m:Nat) (h:Int):∀ n,gst m h n≤10*n
 | 0=>Nat.le_refl _
 | n+1=>Nat.succ_le_succ (Nat.add_le_add (gst_le m h n) (gw_le m h n))
theorem path_in (m:Nat) (h:Int):∀ k,∃ n d,d≤gw m h n∧k=gst m h n+d
 | 0=>⟨0,0,Nat.zero_le _,rfl⟩
 | k+1=>(path_in m h k).elim fun n y=>y.elim fun d y =>
  if q:d<gw m h n then ⟨n,d+1,q,congrArg Nat.succ y.2⟩
  else ⟨n+1,0,Nat.zero_le _,congrArg Nat.succ (y.2.trans (congrArg (gst m h n+·) (Nat.le_antisymm y.1 (Nat.le_of_not_lt q))))⟩
theorem path_j (m:Nat) (h:Int) (k:Nat):(path m h k).j≤m∧(path m h k).dummy=none:=by
 obtain ⟨n,d,hd,rfl⟩:=path_in m h k
 rw [path_grp m h n d hd]
 exact ⟨gw_end hd,rfl⟩
theorem bits_lt (h:Int):SetTable.bits h<2 ^ 64:=by
 unfold SetTable.bits
 have h1:0≤h % (2 ^ 64:Int):=Int.emod_nonneg _ (by decide)
 have h2:h % (2 ^ 64:Int)<2 ^ 64:=Int.emod_lt_of_pos _ (by decide)
 lia
theorem pert_eq (m:Nat) (h:Int):∀ n,(grp m h n).2=SetTable.bits h / 32 ^ n
 | 0=>by simp [grp]
 | n+1=>by
  show (grp m h n).2 / 32=_
  rw [pert_eq m h n,Nat.div_div_eq_div_mul,Nat.pow_succ]
theorem pert_zero (m:Nat) (h:Int) (n:Nat):(grp m h (13+n)).2=0:=by
 rw [pert_eq]
 refine Nat.div_eq_of_lt (Nat.lt_of_lt_of_le (bits_lt h) ?_)
 calc 2 ^ 64≤32 ^ 13:=by decide
  _≤32 ^ (13+n):=Nat.pow_le_pow_right (by decide) (Nat.le_add_right _ _)
noncomputable def lcg (m i:Nat):Nat:=(i*5+1) % (m+1)
noncomputable def lcgN (m:Nat):Nat→Nat→Nat
 | 0,i=>i
 | d+1,i=>lcg m (lcgN m d i)
theorem grp_lcg (m:Nat) (h:Int):∀ d,(grp m h (12+d)).1=lcgN m d (grp m h 12).1
 | 0=>rfl
 | d+1=>by
  show ((grp m h (12+d)).1*5+1+(grp m h (12+d)).2 / 32) % (m+1)=lcg m (lcgN m d (grp m h 12).1)
  have:(grp m h (12+d)).2 / 32=0:=by
   have:=pert_zero m h d
   rw [show 13+d=12+d+1 from Nat.succ_add 12 d] at this
   exact this
  rw [this,grp_lcg m h d]
  rfl
theorem lcgN_add (m a b i:Nat):lcgN m (a+b) i=lcgN m a (lcgN m b i):=by
 induction a with
 | zero=>rw [Nat.zero_add];rfl
 | succ a ih=>rw [Nat.succ_add];show lcg m _=lcg m _;rw [ih]
def mask3 (m:Nat):Prop:=m=7∨m=31∨m=127
noncomputable def orb (m:Nat):Bool:=Nat.beq (lcgN m (m+1) 0) 0&&(List.range (m+1)).all fun j=>(List.range (m+1)).any fun d=>Nat.beq (lcgN m d 0) j
theorem orb7:orb 7=true:=by decide +kernel
theorem orb31:orb 31=true:=by decide +kernel
theorem orb127:orb 127=true:=by decide +kernel
theorem orb_all {m:Nat} (hm:mask3 m):orb m=true:=by rcases hm with rfl | rfl | rfl;exact orb7;exact orb31;exact orb127
theorem lcg_cover {m:Nat} (hm:mask3 m) {i j:Nat} (hi:i≤m) (hj:j≤m):∃ d≤m,lcgN m d i=j:=by
 have o:=orb_all hm
 unfold orb at o
 rw [Bool.and_eq_true] at o
 have z:lcgN m (m+1) 0=0:=Nat.eq_of_beq_eq_true o.1
 have f:∀ j≤m,∃ d≤m,lcgN m d 0=j:=fun j hj=>by
  have:=List.all_eq_true.mp o.2 j (List.mem_range.mpr (Nat.lt_succ_of_le hj))
  obtain ⟨d,hd,e⟩:=List.any_eq_true.mp this
  exact ⟨d,Nat.le_of_lt_succ (List.mem_range.mp hd),Nat.eq_of_beq_eq_true e⟩
 obtain ⟨a,ha,rfl⟩:=f i hi
 obtain ⟨b,hb,rfl⟩:=f j hj
 by_cases q:a≤b
 ·exact ⟨b - a,Nat.le_trans (Nat.sub_le b a) hb,by rw [← lcgN_add,Nat.sub_add_cancel q]⟩
 ·exact ⟨b+(m+1) - a,Nat.sub_le_iff_le_add.mpr (Nat.le_trans (Nat.le_of_eq (Nat.add_left_comm b m 1)) (Nat.add_le_add_left (Nat.lt_of_not_le q) m)),by rw [← lcgN_add,Nat.sub_add_cancel (Nat.le_trans ha (Nat.le_trans (Nat.le_succ m) (Nat.le_add_left _ b))),lcgN_add,z]⟩
theorem cover {m:Nat} (hm:mask3 m) (h:Int) {j:Nat} (hj:j≤m):∃ n,n<SetTable.turns m∧(grp m h n).1=j:=by
 obtain ⟨d,hd,e⟩:=lcg_cover hm (grp_le m h 12) hj
 exact ⟨12+d,show 12+d<m+15 from Nat.add_comm d 12▸Nat.lt_of_le_of_lt (Nat.add_le_add_right hd 12) (Nat.add_lt_add_left (by decide) m),by rw [grp_lcg];exact e⟩
theorem cover_path {m:Nat} (hm:mask3 m) (h:Int) {j:Nat} (hj:j≤m):∃ k,k<10*SetTable.turns m∧(path m h k).j=j:=by
 obtain ⟨n,hn,e⟩:=cover hm h hj
 refine ⟨gst m h n+0,Nat.lt_of_le_of_lt (gst_le m h n) (Nat.mul_lt_mul_of_pos_left hn (by decide)),?_⟩
 rw [path_grp m h n 0 (Nat.zero_le _)]
 exact e
noncomputable abbrev Occ:=Nat→Option (Int×Value)
noncomputable def full (o:Occ) (j:Nat):Bool:=(o j).isSome
structure TabOk (m:Nat) (o:Occ) (t:SetTable) (es:Array (Int×Value)):Prop where
 mask:t.mask=m
 m3:mask3 m
 place:t.place.toList=(List.range (m+1)).filter (full o)
 es:es.toList=(List.range (m+1)).filterMap o
 dummies:t.dummies=#[]
def PathOk (m:Nat) (o:Occ):Prop:=∀ j e,j≤m→o j=some e→∃ k,(path m e.1 k).j=j∧∀ k'<k,full o (path m e.1 k').j=true
theorem range_split {m j:Nat} (h:j≤m):List.range (m+1)=List.range j++j::List.range' (j+1) (m - j):=by
 have e:j+(m - j+1)=m+1:=congrArg Nat.succ (Nat.add_sub_cancel' h)
 have a:=List.range'_append_1 (s:=0) (m:=j) (n:=m - j+1)
 rw [Nat.zero_add,e] at a
 rw [List.range_eq_range',List.range_eq_range']
 exact a.symm
noncomputable def rk (o:Occ) (j:Nat):Nat:=((List.range j).filter (full o)).length
theorem rk_map (o:Occ):∀ l:List Nat,(l.filterMap o).length=(l.filter (full o)).length
 | []=>rfl
 | x::l=>by
  cases h:o x with
  | none=>rw [List.filterMap_cons_none h,List.filter_cons_of_neg (by simp [full,h])];exact rk_map o l
  | some e=>rw [List.filterMap_cons_some h,List.filter_cons_of_pos (by simp [full,h])];simp [rk_map o l]
theorem fm_congr {α β:Type} {f g:α→Option β}:∀ {l:List α},(∀ x∈l,f x=g x)→l.filterMap f=l.filterMap g
 | [],_=>rfl
 | x::l,h=>by
  have e:=h x (.head _)
  have r:=fm_congr (l:=l) fun y hy=>h y (.tail _ hy)
  rw [List.filterMap_cons,List.filterMap_cons,e,r]
theorem below_go {xs:Array Nat} {j a:Nat} (h1:∀ i,i<a→xs.getD i j<j) (h2:∀ i,a≤i→i<xs.size→¬ xs.getD i j<j):∀ (f lo hi:Nat),lo≤a→a≤hi→hi≤xs.size→hi - lo≤f→SetTable.below.go xs j f lo hi=a
 | 0,lo,hi,a1,a2,a3,a4=>Nat.le_antisymm a1 (Nat.le_trans a2 (sub0 a4))
 | f+1,lo,hi,a1,a2,a3,a4=>by
  show (if lo<hi then if xs.getD ((lo+hi) / 2) j<j then SetTable.below.go xs j f ((lo+hi) / 2+1) hi else SetTable.below.go xs j f lo ((lo+hi) / 2) else lo)=a
  split
  ·rename_i q
   have mh:=mid_hi q
   split
   ·rename_i q2
    exact below_go h1 h2 f _ _ (Nat.lt_of_not_le fun x=>h2 _ x (Nat.lt_of_lt_of_le mh a3) q2) a2 a3 (mid_f2 a4 (Nat.le_of_lt q))
   ·rename_i q2
    exact below_go h1 h2 f _ _ a1 (Nat.le_of_not_lt fun x=>q2 (h1 _ x)) (Nat.le_trans (Nat.le_of_lt mh) a3) (mid_f1 a4 q)
  ·rename_i q
   exact Nat.le_antisymm a1 (Nat.le_trans a2 (Nat.le_of_not_lt q))
theorem below_of {xs:Array Nat} {A B:List Nat} {j:Nat} (e:xs.toList=A++B) (hA:∀ x∈A,x<j) (hB:∀ x∈B,¬ x<j):SetTable.below xs j=A.length:=by
 have hs:xs.size=A.length+B.length:=by rw [← Array.length_toList,e,List.length_append]
 have g:∀ i,xs.getD i j=(A++B).getD i j:=fun i=>by rw [Array.getD_eq_getD_getElem?,← Array.getElem?_toList,e,List.getD_eq_getElem?_getD]
 unfold SetTable.below
 refine below_go (fun i hi=>?_) (fun i hi hi2=>?_) _ _ _ (Nat.zero_le _) (hs▸Nat.le_add_right _ _) (Nat.le_refl _) (Nat.le_refl _)
 ·rw [g,List.getD_eq_getElem?_getD,List.getElem?_append_left hi,List.getElem?_eq_getElem hi]
  exact hA _ (List.getElem_mem _)
 ·rw [g,List.getD_eq_getElem?_getD,List.getElem?_append_right hi,List.getElem?_eq_getElem (Nat.sub_lt_left_of_lt_add hi (hs▸hi2))]
  exact hB _ (List.getElem_mem _)
section
variable {m:Nat} {o:Occ} {t:SetTable} {es:Array (Int×Value)}
theorem TabOk.splits (x:TabOk m o t es) {j:Nat} (hj:j≤m):∃ A B A' B',t.place.toList=A++((if full o j then [j] else [])++B)∧es.toList=A'++((o j).toList++B')∧A.length=rk o j∧A'.length=rk o j∧(∀ y∈A,y<j)∧(∀ y∈B,j<y) ∧
  (List.range j).filter (full o)=A∧(List.range j).filterMap o=A'∧(List.range' (j+1) (m - j)).filter (full o)=B∧(List.range' (j+1) (m - j)).filterMap o=B':=by
 refine ⟨_,_,_,_,?_,?_,rfl,rk_map o _,?_,?_,rfl,rfl,rfl,rfl⟩
 ·rw [x.place,range_split hj,List.filter_append,List.filter_cons]
  split <;> rfl
 ·rw [x.es,range_split hj,List.filterMap_append,List.filterMap_cons]
  cases o j <;> rfl
 ·intro y hy;exact List.mem_range.mp (List.mem_filter.mp hy).1
 ·intro y hy
  have:=(List.mem_filter.mp hy).1
  rw [List.mem_range'_1] at this
  exact this.1
theorem TabOk.below (x:TabOk m o t es) {j:Nat} (hj:j≤m):SetTable.below t.place j=rk o j:=by
 obtain ⟨A,B,A',B',e1,e2,l1,l2,hA,hB,_⟩:=x.splits hj
 rw [← l1]
 refine below_of e1 hA fun y hy=>?_
 rcases List.mem_append.mp hy with q | q
 ·split at q
  ·rw [List.mem_singleton.mp q];exact Nat.lt_irrefl _
  ·cases q
 ·exact Nat.lt_asymm (hB y q)
theorem TabOk.slot (x:TabOk m o t es) {j:Nat} (hj:j≤m):t.slot j=if full o j then .live (rk o j) else .empty:=by
 obtain ⟨A,B,A',B',e1,e2,l1,l2,hA,hB,_⟩:=x.splits hj
 unfold SetTable.slot
 dsimp only
 rw [x.below hj]
 have hg:t.place[rk o j]?=(A++((if full o j then [j] else [])++B))[rk o j]?:=by rw [← Array.getElem?_toList,e1]
 have hd:SetTable.has t.dummies j=false:=by rw [x.dummies];rfl
 rw [hg,List.getElem?_append_right (Nat.le_of_eq l1),l1,Nat.sub_self,hd]
 cases h:full o j with
 | true=>simp
 | false =>
  simp only [Bool.false_eq_true,if_false,List.nil_append]
  rw [if_neg]
  intro q
  have hq:=eq_of_beq q
  have:j∈B:=List.mem_of_getElem? hq
  exact Nat.lt_irrefl _ (hB j this)
theorem TabOk.entry (x:TabOk m o t es) {j:Nat} (hj:j≤m) {e:Int×Value} (h:o j=some e):es[rk o j]?=some e:=by
 obtain ⟨A,B,A',B',e1,e2,l1,l2,hA,hB,_⟩:=x.splits hj
 rw [← Array.getElem?_toList,e2,List.getElem?_append_right (Nat.le_of_eq l2),l2,Nat.sub_self,h]
 rfl
noncomputable def upd (o:Occ) (j:Nat) (e:Int×Value):Occ:=fun i=>if i=j then some e else o i
theorem upd_full {o:Occ} {j:Nat} {e:Int×Value} (i:Nat):full (upd o j e) i=(decide (i=j)||full o i):=by
 unfold full upd
 by_cases q:i=j
 ·simp [q]
 ·simp [q]
theorem TabOk.put (x:TabOk m o t es) {j:Nat} (hj:j≤m) (hn:o j=none) (e:Int×Value) :
  (t.put j).2=rk o j∧TabOk m (upd o j e) (t.put j).1 (SetTable.insertAt es (rk o j) e):=by
 obtain ⟨A,B,A',B',e1,e2,l1,l2,hA,hB,p1,p2,p3,p4⟩:=x.splits hj
 have hf:full o j=false:=by simp [full,hn]
 have hb:=x.below hj
 have hd:SetTable.has t.dummies j=false:=by rw [x.dummies];rfl
 rw [hf] at e1
 rw [hn] at e2
 simp only [Bool.false_eq_true,if_false,List.nil_append,Option.toList_none] at e1 e2
 have f1:(List.range j).filter (full (upd o j e))=A:=by
  rw [← p1]
  exact List.filter_congr fun y hy=>by rw [upd_full,decide_eq_false (Nat.ne_of_lt (List.mem_range.mp hy)),Bool.false_or]
 have f2:(List.range' (j+1) (m - j)).filter (full (upd o j e))=B:=by
  rw [← p3]
  refine List.filter_congr fun y hy=>?_
  rw [List.mem_range'_1] at hy
  rw [upd_full,decide_eq_false (Nat.ne_of_gt hy.1),Bool.false_or]
 have f3:(List.range j).filterMap (upd o j e)=A':=by
  rw [← p2]
  exact fm_congr fun y hy=>by unfold upd;rw [if_neg (Nat.ne_of_lt (List.mem_range.mp hy))]
 have f4:(List.range' (j+1) (m - j)).filterMap (upd o j e)=B':=by
  rw [← p4]
  refine fm_congr fun y hy=>?_
  rw [List.mem_range'_1] at hy
  unfold upd;rw [if_neg (Nat.ne_of_gt hy.1)]
 refine ⟨hb,?_⟩
 unfold SetTable.put
 rw [hb,hd]
 simp only [Bool.false_eq_true,if_false]
 refine ⟨x.mask,x.m3,?_,?_,x.dummies⟩
 ·show (SetTable.insertAt t.place (rk o j) j).toList=_
  rw [SetTable.toList_insertAt,e1,← l1,List.take_left' rfl,List.drop_left' rfl,range_split hj,List.filter_append,List.filter_cons,f1,f2,if_pos (by rw [upd_full];simp)]
 ·rw [SetTable.toList_insertAt,e2,← l2,List.take_left' rfl,List.drop_left' rfl,range_split hj,List.filterMap_append,List.filterMap_cons_some (show upd o j e j=some e by unfold upd;rw [if_pos rfl]),f3,f4]
theorem PathOk.put (x:PathOk m o) {j:Nat} {e:Int×Value} (hn:o j=none) (hk:∃ k,(path m e.1 k).j=j∧∀ k'<k,full o (path m e.1 k').j=true):PathOk m (upd o j e):=by
 intro i e' hi h
 have up:∀ y,full o y=true→full (upd o j e) y=true:=fun y hy=>by rw [upd_full,hy,Bool.or_true]
 unfold upd at h
 split at h
 ·rename_i q
  cases h
  subst q
  obtain ⟨k,e1,e2⟩:=hk
  exact ⟨k,e1,fun k' hk'=>up _ (e2 k' hk')⟩
 ·obtain ⟨k,e1,e2⟩:=x i e' hi h
  exact ⟨k,e1,fun k' hk'=>up _ (e2 k' hk')⟩
end
section
variable {m:Nat} {es:List (Int×Value)} {ow:Array (Option Nat)} {k:Nat}
noncomputable def ov (es:List (Int×Value)) (ow:Array (Option Nat)):Occ:=fun j=>(ow.getD j none).bind (es[·]?)
structure Lay (m:Nat) (es:List (Int×Value)) (ow:Array (Option Nat)) (k:Nat):Prop where
 size:ow.size=m+1
 lt:∀ j i,ow.getD j none=some i→i<k
 kle:k≤es.length
 path:PathOk m (ov es ow)
 perm:((List.range (m+1)).filterMap (ov es ow)).Perm (es.take k)
theorem Lay.fl (x:Lay m es ow k) (j:Nat):full (ov es ow) j=(ow.getD j none).isSome:=by
 unfold full ov
 cases h:ow.getD j none with
 | none=>rfl
 | some i =>
  have:=x.lt j i h
  simp only [Option.bind_some]
  rw [List.getElem?_eq_getElem (Nat.lt_of_lt_of_le this x.kle)]
  rfl
theorem Lay.noneAt (x:Lay m es ow k) {j:Nat} (hj:j≤m):(ow.getD j (some 0)).isNone=!full (ov es ow) j:=by
 have hs:j<ow.size:=x.size▸Nat.lt_succ_of_le hj
 rw [x.fl,Array.getD_eq_getD_getElem?,Array.getD_eq_getD_getElem?,Array.getElem?_eq_getElem hs]
 simp only [Option.getD_some]
 cases ow[j] <;> rfl
theorem Lay.room (x:Lay m es ow k) (hk:k≤m):∃ j,j≤m∧full (ov es ow) j=false:=by
 refine Classical.byContradiction fun q=>?_
 have all:(List.range (m+1)).filter (full (ov es ow))=List.range (m+1):=List.filter_eq_self.mpr fun j hj=>by
  cases h:full (ov es ow) j with
  | true=>rfl
  | false=>exact absurd ⟨j,Nat.le_of_lt_succ (List.mem_range.mp hj),h⟩ q
 have h1:=rk_map (ov es ow) (List.range (m+1))
 rw [all,x.perm.length_eq,List.length_take,List.length_range] at h1
 exact Nat.not_succ_le_self m (Nat.le_trans (Nat.le_of_eq h1.symm) (Nat.le_trans (Nat.min_le_left k _) hk))
theorem free_at {i p f:Nat} {q:Option Nat} (h:((List.range (SetTable.runEnd m i+1 - i)).find? fun k=>(ow.getD (i+k) (some 0)).isNone)=q) :
  SetTable.layClean.free m ow (f+1) i p=q.elim (SetTable.layClean.free m ow f (SetTable.leap m i p).1 (SetTable.leap m i p).2) (fun k=>some (i+k)):=by
 subst h
 kernel_rfl!
theorem free_ok (x:Lay m es ow k) (hm:mask3 m) {h:Int} {j0 N:Nat} (hN:(grp m h N).1=j0) (h0:full (ov es ow) j0=false):∀ (f n:Nat),n≤N→N<n+f →
  (∀ i<gst m h n,full (ov es ow) (path m h i).j=true)→∃ j,SetTable.layClean.free m ow f (grp m h n).1 (grp m h n).2=some j∧j≤m∧full (ov es ow) j=false∧∃ i,(path m h i).j=j∧∀ i'<i,full (ov es ow) (path m h i').j=true
 | 0,n,h1,h2,_=>absurd h1 (Nat.not_le.mpr h2)
 | f+1,n,h1,h2,hf=>by
  have sz:SetTable.runEnd m (grp m h n).1+1 - (grp m h n).1=gw m h n+1:=Nat.succ_sub (run_le m _).1
  have pj:∀ d,d≤gw m h n→(path m h (gst m h n+d)).j=(grp m h n).1+d:=fun d hd=>congrArg SetTable.Probe.j (path_grp m h n d hd)
  have go:∀ (d:Nat) (i:Nat),(∀ y,y<d→full (ov es ow) ((grp m h n).1+y)=true)→d≤gw m h n+1→i<gst m h n+d→full (ov es ow) (path m h i).j=true:=fun d i hd he hi =>
   if q:i<gst m h n then hf i q else by
    have l:=Nat.sub_lt_left_of_lt_add (Nat.le_of_not_lt q) hi
    rw [(Nat.add_sub_cancel' (Nat.le_of_not_lt q)).symm,pj _ (Nat.le_of_lt_succ (Nat.lt_of_lt_of_le l he))]
    exact hd _ l
  have nn:∀ d,d≤gw m h n→(!(ow.getD ((grp m h n).1+d) (some 0)).isNone)=true→full (ov es ow) ((grp m h n).1+d)=true:=fun d hd y=>by
   rw [x.noneAt (gw_end hd),Bool.not_not] at y
   exact y
  cases hfind:(List.range (SetTable.runEnd m (grp m h n).1+1 - (grp m h n).1)).find? fun k=>(ow.getD ((grp m h n).1+k) (some 0)).isNone with
  | some d =>
   have y:=List.find?_range_eq_some.mp hfind
   have hd:=Nat.le_of_lt_succ (sz▸List.mem_range.mp y.2.1)
   exact ⟨(grp m h n).1+d,free_at hfind,gw_end hd,(Bool.not_eq_true' _).mp (x.noneAt (gw_end hd)▸y.1),gst m h n+d,pj d hd,fun i' hi'=>go d i' (fun z hz=>nn z (Nat.le_trans (Nat.le_of_lt hz) hd) (y.2.2 z hz)) (Nat.le_succ_of_le hd) hi'⟩
  | none =>
   have hfull:∀ d,d<gw m h n+1→full (ov es ow) ((grp m h n).1+d)=true:=fun d hd=>nn d (Nat.le_of_lt_succ hd) (List.find?_range_eq_none.mp hfind d (sz.symm▸hd))
   rw [free_at hfind]
   refine free_ok x hm hN h0 f (n+1) (Nat.lt_of_le_of_ne h1 fun q=>?_) ((Nat.succ_add n f).symm▸h2) fun i hi=>go _ i hfull (Nat.le_refl _) hi
   subst q
   exact absurd (hfull 0 (Nat.succ_pos _)) (hN.symm▸h0▸Bool.false_ne_true)
theorem upd_perm {o:Occ} {j:Nat} {e:Int×Value} (hj:j≤m) (hn:o j=none):((List.range (m+1)).filterMap (upd o j e)).Perm (e::(List.range (m+1)).filterMap o):=by
 rw [range_split hj,List.filterMap_append,List.filterMap_append,List.filterMap_cons_some (show upd o j e j=some e by unfold upd;rw [if_pos rfl]),List.filterMap_cons_none hn]
 have f3:(List.range j).filterMap (upd o j e)=(List.range j).filterMap o:=fm_congr fun y hy=>by unfold upd;rw [if_neg (Nat.ne_of_lt (List.mem_range.mp hy))]
 have f4:(List.range' (j+1) (m - j)).filterMap (upd o j e)=(List.range' (j+1) (m - j)).filterMap o:=by
  refine fm_congr fun y hy=>?_
  rw [List.mem_range'_1] at hy
  unfold upd;rw [if_neg (Nat.ne_of_gt hy.1)]
 rw [f3,f4]
 exact List.perm_middle
theorem Lay.step (x:Lay m es ow k) (hm:mask3 m) (hk:k<es.length) (hkm:k≤m):∃ j,SetTable.layClean.free m ow (SetTable.turns m) (SetTable.bits (es[k]'hk).1 % (m+1)) (SetTable.bits (es[k]'hk).1)=some j∧Lay m es (ow.setIfInBounds j (some k)) (k+1):=by
 obtain ⟨j0,hj0,h0⟩:=x.room hkm
 obtain ⟨N,hN,eN⟩:=cover hm (es[k]'hk).1 hj0
 obtain ⟨j,e,hj,hf,hp⟩:=free_ok x hm eN h0 (SetTable.turns m) 0 (Nat.zero_le _) ((Nat.zero_add _).symm▸hN) fun i hi=>absurd hi (Nat.not_lt_zero _)
 have hjs:j<ow.size:=by rw [x.size];exact Nat.lt_succ_of_le hj
 have hn:ov es ow j=none:=by simpa [full] using hf
 have eov:ov es (ow.setIfInBounds j (some k))=upd (ov es ow) j (es[k]'hk):=by
  funext i
  unfold ov upd
  rw [Array.getD_eq_getD_getElem?,Array.getElem?_setIfInBounds]
  by_cases q:j=i
  ·subst q
   rw [if_pos rfl,if_pos hjs,if_pos rfl]
   simp [hk]
  ·rw [if_neg q,if_neg (fun w=>q w.symm),← Array.getD_eq_getD_getElem?]
 refine ⟨j,e,⟨by rw [Array.size_setIfInBounds];exact x.size,fun i a h=>?_,hk,?_,?_⟩⟩
 ·rw [Array.getD_eq_getD_getElem?,Array.getElem?_setIfInBounds] at h
  by_cases q:j=i
  ·subst q
   rw [if_pos rfl,if_pos hjs] at h
   cases h
   exact Nat.lt_succ_self _
  ·rw [if_neg q,← Array.getD_eq_getD_getElem?] at h
   exact Nat.lt_succ_of_lt (x.lt i a h)
 ·rw [eov];exact x.path.put hn hp
 ·rw [eov]
  refine (upd_perm hj hn).trans ((x.perm.cons _).trans ?_)
  rw [List.take_add_one,List.getElem?_eq_getElem hk]
  exact (List.perm_append_singleton _ _).symm
theorem lay_fold (hm:mask3 m) (hlen:es.length≤m):∀ (n:Nat) (ow:Array (Option Nat)) (k:Nat),Lay m es ow k→k+n=es.length →
  ∃ ow',((es.drop k).map (·.1)).foldl (init:=some (ow,k)) (fun acc h=>do
   let (owner,k) ← acc
   let j ← SetTable.layClean.free m owner (SetTable.turns m) (SetTable.bits h % (m+1)) (SetTable.bits h)
   pure (owner.setIfInBounds j (some k),k+1))=some (ow',es.length)∧Lay m es ow' es.length
 | 0,ow,k,x,e=>by
  have:k=es.length:=e
  subst this
  exact ⟨ow,by rw [List.drop_length];rfl,x⟩
 | n+1,ow,k,x,e=>by
  have hk:k<es.length:=e▸Nat.lt_add_of_pos_right (Nat.succ_pos n)
  obtain ⟨j,ej,x'⟩:=x.step hm hk (Nat.le_trans (Nat.le_of_lt hk) hlen)
  obtain ⟨ow',e',x''⟩:=lay_fold hm hlen n _ (k+1) x' ((Nat.succ_add k n).trans e)
  refine ⟨ow',?_,x''⟩
  rw [List.drop_eq_getElem_cons hk,List.map_cons,List.foldl_cons]
  simp only [Option.bind_eq_bind,Option.bind_some,ej]
  exact e'
theorem lay_start (m:Nat) (es:List (Int×Value)):Lay m es (Array.replicate (m+1) none) 0:=by
 have h:∀ j,(Array.replicate (m+1) (none:Option Nat)).getD j none=none:=fun j=>by
  rw [Array.getD_eq_getD_getElem?,Array.getElem?_replicate];split <;> rfl
 have ho:ov es (Array.replicate (m+1) none)=fun _=>none:=by funext j;unfold ov;rw [h];rfl
 refine ⟨by simp,fun j i e=>by (rw [h] at e;cases e),Nat.zero_le _,?_,?_⟩
 ·rw [ho];intro j e hj q;cases q
 ·rw [ho]
  have:∀ l:List Nat,l.filterMap (fun _=>(none:Option (Int×Value)))=[]:=fun l=>by induction l <;> simp_all
  rw [this];exact .nil
theorem laid_ok (hm:mask3 m) (hlen:es.length≤m) (finger moves:Nat) (led plain:Bool):∃ t order o,SetTable.laid m finger moves led plain ((es.map (·.1)).toArray)=some (t,order)∧t.led=led∧t.plain=plain ∧
  TabOk m o t (order.filterMap fun i=>es.toArray[i]?)∧PathOk m o∧(order.filterMap fun i=>es.toArray[i]?).toList.Perm es:=by
 obtain ⟨ow,e,x⟩:=lay_fold hm hlen es.length _ 0 (lay_start m es) (Nat.zero_add _)
 rw [List.drop_zero] at e
 have e2:SetTable.layClean m ((es.map (·.1)).toArray)=some ow:=by
  unfold SetTable.layClean
  rw [List.foldl_toArray,e]
  rfl
 have eo:((((List.range (m+1)).filterMap fun j=>(ow.getD j none).map (j,·)).map (·.2)).toArray.filterMap fun i=>es.toArray[i]?).toList=(List.range (m+1)).filterMap (ov es ow):=by
  rw [Array.toList_filterMap]
  show (((List.range (m+1)).filterMap fun j=>(ow.getD j none).map (j,·)).map (·.2)).filterMap (fun i=>es.toArray[i]?)=_
  rw [List.filterMap_map,List.filterMap_filterMap]
  refine fm_congr fun j _=>?_
  unfold ov
  cases ow.getD j none with
  | none=>rfl
  | some i=>simp
 refine ⟨_,_,ov es ow,by unfold SetTable.laid;rw [e2];rfl,rfl,rfl,⟨rfl,hm,?_,eo,rfl⟩,x.path,?_⟩
 ·show ((List.range (m+1)).filterMap fun j=>(ow.getD j none).map (j,·)).map (·.1)=_
  rw [List.map_filterMap]
  have:∀ l:List Nat,l.filterMap (fun j=>((ow.getD j none).map (j,·)).map (·.1))=l.filter (full (ov es ow)):=fun l=>by
   induction l with
   | nil=>rfl
   | cons y l ih =>
    rw [List.filterMap_cons,List.filter_cons,ih,x.fl y]
    cases ow.getD y none <;> rfl
  exact this _
 ·rw [eo]
  have:=x.perm
  rw [List.take_length] at this
  exact this
end
section
variable {prog:Program} {w:World} {A:Around} {E:Value→Shared→Prop} {s:Shared}
noncomputable abbrev RowKey (prog:Program) (w:World) (h:Heap) (r:List Int) (a:Addr):Prop:=IsTupleKey (intKind prog w) h r a
theorem rowKey_items:∀ {r:List Int} {us:List Value},Ints r us→ItemsAre (intKind prog w) r us
 | [],_,h=>(show _=[] from h).symm▸.nil
 | i::r,_,h=>h.elim fun t h=>h.elim fun us h=>h.1.symm▸.cons (intKind_is _ _ _ _) (rowKey_items h.2)
theorem rowKey_of {h:Heap} {a:Addr} {us:List Value} {r:List Int} (t:h.IsTuple a us.toArray) (i:Ints r us):RowKey prog w h r a:=t.elim fun o e=>e.2.elim fun c e2=>e2.elim fun n d=>⟨o,_,n,e.1,c,d,rowKey_items i⟩
theorem ints_in {r:List Int} {vs:List Value} (hi:ItemsAre (intKind prog w) r vs):∀ v∈vs,∃ i t,v=Value.int i t:=by
 intro v hv
 induction hi with
 | nil=>cases hv
 | cons h1 _ ih =>
  rcases List.mem_cons.mp hv with rfl | hv
  ·obtain ⟨t,rfl⟩:=Value.isInt_shape h1;exact ⟨_,t,rfl⟩
  ·exact ih hv
theorem hashByValue_row {r:List Int} {a:Addr} {Q:Bool→Shared→Prop} (hk:RowKey prog w s.heap r a) (h:Q true s):wpAny (model prog w) A (hashByValue 8 (.ref a)) Q E s:=by
 have hT:=hk.typeIs
 obtain ⟨o,items,n,ho,_,hd,hi⟩:=hk
 unfold hashByValue
 refine wpAny_bind (wpAny_specialOf hT PySem.F.slot_tuple_hash.lookup ?_)
 show wpAny _ _ (seqItems? (.ref a)>>=_) _ _ s
 refine wpAny_bind (wpAny_seqItems ho hd ?_)
 refine wpAny_bind ?_
 show wpAny _ _ (forIn items _ _) _ _ s
 rw [← Array.forIn_toList]
 refine wpAny_forIn_list _ (fun rest r s'=>r.1=none∧s'=s∧∀ v∈rest,∃ i t,v=Value.int i t) _ ?_ ?_ _ _ ⟨rfl,rfl,?_⟩
 ·rintro v rest r s' ⟨hr,rfl,hall⟩
  obtain ⟨i,t,rfl⟩:=hall v List.mem_cons_self
  refine wpAny_bind (m:=hashByValue 7 (.int i t)) (wpAny_pure ?_)
  simp only [Bool.not_true,Bool.false_eq_true,if_false]
  exact wpAny_pure ⟨rfl,rfl,fun u hu'=>hall u (List.mem_cons_of_mem _ hu')⟩
 ·rintro ⟨r1,r2⟩ s' ⟨hr,rfl,_⟩
  simp only at hr
  subst hr
  exact wpAny_pure h
 ·exact ints_in hi
theorem class_row {r:List Int} {a:Addr} {Q:Bool→Shared→Prop} (hk:RowKey prog w s.heap r a) (h:Q false s):wpAny (model prog w) A (ofAClassStatement 8 (.ref a)) Q E s:=by
 have hT:=hk.typeIs
 obtain ⟨o,items,n,ho,_,hd,hi⟩:=hk
 unfold ofAClassStatement
 refine wpAny_bind (wpAny_typeOf hT ?_)
 dsimp only
 have ht:(("tuple":String) == "tuple")=true:=by rfl
 rw [ht]
 simp only [if_true]
 refine wpAny_bind (wpAny_pure ?_)
 simp only [Bool.not_true,Bool.false_eq_true,if_false]
 refine wpAny_bind (wpAny_seqItems ho hd ?_)
 dsimp only
 refine wpAny_bind ?_
 show wpAny _ _ (forIn items _ _) _ _ s
 rw [← Array.forIn_toList]
 refine wpAny_forIn_list _ (fun rest r s'=>r.1=none∧s'=s∧∀ v∈rest,∃ i t,v=Value.int i t) _ ?_ ?_ _ _ ⟨rfl,rfl,?_⟩
 ·rintro v rest r s' ⟨hr,rfl,hall⟩
  obtain ⟨i,t,rfl⟩:=hall v List.mem_cons_self
  refine wpAny_bind (m:=ofAClassStatement 7 (.int i t)) (wpAny_pure ?_)
  simp only [Bool.false_eq_true,if_false]
  exact wpAny_pure ⟨rfl,rfl,fun u hu'=>hall u (List.mem_cons_of_mem _ hu')⟩
 ·rintro ⟨r1,r2⟩ s' ⟨hr,rfl,_⟩
  simp only at hr
  subst hr
  exact wpAny_pure h
 ·exact ints_in hi
theorem unseen_rows {r:List Int} {a:Addr} {Q:Bool→Shared→Prop} (hk:RowKey prog w s.heap r a) {ys:List Value} (hy:∀ y∈ys,∃ b q,y=.ref b∧RowKey prog w s.heap q b) (h:Q false s):wpAny (model prog w) A (searchCouldBeSeen (.ref a) ys) Q E s:=by
 unfold searchCouldBeSeen
 refine wpAny_bind ?_
 refine wpAny_forIn_list _ (fun rest r s'=>r.1=none∧s'=s∧∀ y∈rest,∃ b q,y=Value.ref b∧RowKey prog w s.heap q b) _ ?_ ?_ _ _ ⟨rfl,rfl,hy⟩
 ·rintro v rest r1 s' ⟨hr,rfl,hall⟩
  obtain ⟨b,q,rfl,hb⟩:=hall v List.mem_cons_self
  have hrest:=fun u hu'=>hall u (List.mem_cons_of_mem _ hu')
  dsimp only
  split
  ·exact wpAny_pure ⟨rfl,rfl,hrest⟩
  ·refine wpAny_bind (wpAny_eqIsQuiet_tuple hk ?_)
   simp only [Bool.not_true,Bool.false_eq_true,if_false]
   refine wpAny_bind (wpAny_eqIsQuiet_tuple hb ?_)
   simp only [Bool.not_true,Bool.false_eq_true,if_false]
   refine wpAny_bind (class_row hk ?_)
   simp only [Bool.false_eq_true,if_false]
   refine wpAny_bind (class_row hb ?_)
   simp only [Bool.false_eq_true,if_false]
   exact wpAny_pure ⟨rfl,rfl,hrest⟩
 ·rintro ⟨r1,r2⟩ s' ⟨hr,rfl,_⟩
  simp only at hr
  subst hr
  exact wpAny_pure h
end
section
variable {m:Nat} {o:Occ} {t:SetTable} {es:Array (Int×Value)}
theorem first_empty (x:TabOk m o t es) (hn:es.size≤m) (h:Int):∃ K,K<10*SetTable.turns m∧full o (path m h K).j=false∧∀ k<K,full o (path m h k).j=true:=by
 have room:∃ j,j≤m∧full o j=false:=by
  refine Classical.byContradiction fun q=>?_
  have all:(List.range (m+1)).filter (full o)=List.range (m+1):=List.filter_eq_self.mpr fun j hj=>by
   cases h:full o j with
   | true=>rfl
   | false=>exact absurd ⟨j,by have:=List.mem_range.mp hj;lia,h⟩ q
  have h1:=rk_map o (List.range (m+1))
  rw [all,← x.es] at h1
  simp at h1
  lia
 obtain ⟨j,hj,hf⟩:=room
 obtain ⟨k,hk,e⟩:=cover_path x.m3 h hj
 have:∀ n k,k≤n→full o (path m h k).j=false→∃ K,K≤k∧full o (path m h K).j=false∧∀ k'<K,full o (path m h k').j=true:=by
  intro n
  induction n with
  | zero=>intro k hk hf;exact ⟨k,Nat.le_refl _,hf,fun k' hk'=>by lia⟩
  | succ n ih =>
   intro k hk hf
   by_cases q:∃ k',k'<k∧full o (path m h k').j=false
   ·obtain ⟨k',h1,h2⟩:=q
    obtain ⟨K,a,b,c⟩:=ih k' (by lia) h2
    exact ⟨K,by lia,b,c⟩
   ·exact ⟨k,Nat.le_refl _,hf,fun k' hk'=>by
     cases hh:full o (path m h k').j with
     | true=>rfl
     | false=>exact absurd ⟨k',hk',hh⟩ q⟩
 obtain ⟨K,a,b,c⟩:=this k k (Nat.le_refl _) (by rw [e];exact hf)
 exact ⟨K,by lia,b,c⟩
theorem probe_ok (x:TabOk m o t es) {h:Int} {K:Nat} (hK:full o (path m h K).j=false) (hlt:∀ k<K,full o (path m h k).j=true) (hat:Nat→Int):∀ (f k:Nat),k≤K→K<k+f →
  (SetTable.probe.go t hat h f (path m h k)=some (.empty (path m h K).j none)∧∀ k',k≤k'→k'<K→hat (rk o (path m h k').j)≠h) ∨
  ∃ k',k≤k'∧k'<K∧hat (rk o (path m h k').j)=h∧(∀ k'',k≤k''→k''<k'→hat (rk o (path m h k'').j)≠h)∧SetTable.probe.go t hat h f (path m h k)=some (.candidate (path m h k').j (rk o (path m h k').j) (path m h (k'+1)))
 | 0,k,h1,h2=>by lia
 | f+1,k,h1,h2=>by
  have hj:=path_j m h k
  unfold SetTable.probe.go
  rw [x.slot hj.1]
  by_cases q:k=K
  ·subst q
   rw [hK]
   left
   refine ⟨?_,fun k' a b=>by lia⟩
   simp only [Bool.false_eq_true,if_false]
   rw [hj.2]
  ·have hf:=hlt k (by lia)
   rw [hf]
   simp only [if_true]
   by_cases e:hat (rk o (path m h k).j)=h
   ·right
    refine ⟨k,Nat.le_refl _,by lia,e,fun k'' a b=>by lia,?_⟩
    rw [if_pos (by rw [e];exact beq_self_eq_true _),advance_eq,x.mask]
    rfl
   ·rw [if_neg (by simpa using e),advance_eq,x.mask]
    show (SetTable.probe.go t hat h f (path m h (k+1))=_∧_)∨_
    rcases probe_ok x hK hlt hat f (k+1) (by lia) (by lia) with ⟨a,b⟩ | ⟨k',a,b,c,d,g⟩
    ·exact .inl ⟨a,fun k' u v=>by
      by_cases w:k'=k
      ·subst w;exact e
      ·exact b k' (by lia) v⟩
    ·refine .inr ⟨k',by lia,b,c,fun k'' u v=>?_,g⟩
     by_cases w:k''=k
     ·subst w;exact e
     ·exact d k'' (by lia) v
end
section
variable {prog:Program} {w:World} {A:Around} {E:Value→Shared→Prop} {s:Shared} {m:Nat} {o:Occ} {t:SetTable} {es:Array (Int×Value)} {D:Addr} {ob:Obj} {ep:Nat}
noncomputable abbrev RH (prog:Program) (w:World) (r:List Int):Int:=tupleKeyHash (intKind prog w) r
def RowsIn (prog:Program) (w:World) (h:Heap) (es:List (Int×Value)):Prop:=∀ e∈es,∃ b q,e.2=.ref b∧RowKey prog w h q b∧e.1=RH prog w q
theorem TabOk.size (x:TabOk m o t es):t.place.size=es.size:=by
 rw [← Array.length_toList,← Array.length_toList,x.place,x.es,rk_map]
theorem TabOk.fit (x:TabOk m o t es) (hn:es.size≤m):t.fits es.size=true:=by
 have:=x.size
 simp [SetTable.fits,SetTable.fill,x.dummies,x.mask,x.size]
 lia
theorem TabOk.mem (x:TabOk m o t es) {j:Nat} (hj:j≤m) {e:Int×Value} (h:o j=some e):e∈es.toList:=by
 rw [x.es];exact List.mem_filterMap.mpr ⟨j,List.mem_range.mpr (by lia),h⟩
theorem TabOk.slotOf (x:TabOk m o t es) {e:Int×Value} (h:e∈es.toList):∃ j,j≤m∧o j=some e:=by
 rw [x.es] at h
 obtain ⟨j,hj,e⟩:=List.mem_filterMap.mp h
 exact ⟨j,by have:=List.mem_range.mp hj;lia,e⟩
theorem isSame_ref {a:Addr} {Q:Bool→Shared→Prop} (h:Q true s):wpAny (model prog w) A (isSame (.ref a) (.ref a)) Q E s:=by
 unfold isSame
 dsimp only
 rw [if_pos (by exact beq_self_eq_true _)]
 exact wpAny_pure h
theorem guard_ok {α:Type} {c:Prop} [Decidable c] {sc:Sem Bool} {X t2:Sem α} {Q:α→Shared→Prop} (hsc:∀ R:Bool→Shared→Prop,R false s→wpAny (model prog w) A sc R E s) (h:wpAny (model prog w) A t2 Q E s) :
  wpAny (model prog w) A (if c then (sc>>=fun b=>if b=true then X else t2) else t2) Q E s:=by
 split
 ·refine wpAny_bind (hsc _ ?_)
  rw [if_neg (by simp)]
  exact h
 ·exact h
theorem search_ok (ho:s.heap.get? D=some ob) (hd:ob.data=.set es ep t) (x:TabOk m o t es) (hp:PathOk m o) (hn:es.size≤m) (rows:RowsIn prog w s.heap es.toList) (hu:A.units<cLine)
  {r:List Int} {a:Addr} (hk:RowKey prog w s.heap r a) {Q:SetFound→Shared→Prop}
  (hit:(∃ e∈es.toList,∃ b,e.2=.ref b∧RowKey prog w s.heap r b)→Q (.there none) s)
  (miss:(∀ e∈es.toList,∀ b q,e.2=.ref b→RowKey prog w s.heap q b→q≠r)→∀ j,j≤m→o j=none→(∃ k,(path m (RH prog w r) k).j=j∧∀ k'<k,full o (path m (RH prog w r) k').j=true)→Q (.free j false) s) :
  wpAny (model prog w) A (setSearch D (.ref a) (RH prog w r) true) Q E s:=by
 obtain ⟨K,hK1,hK2,hK3⟩:=first_empty x hn (RH prog w r)
 have hfit:=x.fit hn
 have hgave:t.gaveWay=false:=by
  unfold SetTable.gaveWay
  rw [x.mask]
  rcases x.m3 with q | q | q <;> rw [q] <;> rfl
 have ent:∀ k<K,∃ e,o (path m (RH prog w r) k).j=some e∧es[rk o (path m (RH prog w r) k).j]?=some e:=fun k hk=>by
  have:=hK3 k hk
  unfold full at this
  obtain ⟨e,he⟩:=Option.isSome_iff_exists.mp this
  exact ⟨e,he,x.entry (path_j m _ k).1 he⟩
 unfold setSearch
 have go:∀ (f k:Nat) (st:Option SetTable.Probe),st.getD (start m (RH prog w r))=path m (RH prog w r) k→k≤K→K<k+f →
   (∀ k'<k,∀ e,o (path m (RH prog w r) k').j=some e→∀ b q,e.2=.ref b→RowKey prog w s.heap q b→q≠r)→wpAny (model prog w) A (setSearchFrom D (.ref a) (RH prog w r) true f st) Q E s:=by
  intro f
  induction f with
  | zero=>intro k st h1 h2 h3;lia
  | succ f ih =>
   intro k st h1 h2 h3 h4
   unfold setSearchFrom
   refine wpAny_bind (wpAny_setState_of ho hd hfit ?_)
   dsimp only
   rw [hgave]
   simp only [Bool.false_eq_true,if_false]
   have hst:st.getD (t.probeStart (RH prog w r))=path m (RH prog w r) k:=by rw [start_eq,x.mask];exact h1
   rw [hst]
   have hat:∀ k<K,∀ e,o (path m (RH prog w r) k).j=some e→((es[rk o (path m (RH prog w r) k).j]?.map (·.1)).getD 0)=e.1:=fun k hk e he=>by
    rw [x.entry (path_j m _ k).1 he];rfl
   have pr:=probe_ok x hK2 hK3 (fun i=>(es[i]?.map (·.1)).getD 0) (10*SetTable.turns t.mask) k h2 (by rw [x.mask];lia)
   rcases pr with ⟨e1,e2⟩ | ⟨k',a1,a2,a3,a4,e1⟩
   ·have e1:t.probe (fun i=>(es[i]?.map (·.1)).getD 0) (RH prog w r) (path m (RH prog w r) k)=_:=e1
    erw [e1]
    dsimp only
    have hnone:o (path m (RH prog w r) K).j=none:=by simpa [full] using hK2
    refine wpAny_pure (miss (fun e he b q hb hq hqr=>?_) _ (path_j m _ K).1 hnone ⟨K,rfl,hK3⟩)
    subst hqr
    obtain ⟨j,hj,hoj⟩:=x.slotOf he
    obtain ⟨b',q',hb',hq',hh⟩:=rows e he
    rw [hb] at hb'
    cases hb'
    have:=hq.inj hq'
    subst this
    obtain ⟨k0,p1,p2⟩:=hp j e hj hoj
    rw [hh] at p1 p2
    have hk0:k0<K:=by
     rcases Nat.lt_trichotomy k0 K with w | w | w
     ·exact w
     ·subst w;rw [p1,hoj] at hnone;cases hnone
     ·have:=p2 K w;rw [hK2] at this;cases this
    rw [← p1] at hoj
    by_cases w:k0<k
    ·exact h4 k0 w e hoj b _ hb hq rfl
    ·exact e2 k0 (by lia) hk0 ((hat k0 hk0 e hoj).trans hh)
   ·have e1:t.probe (fun i=>(es[i]?.map (·.1)).getD 0) (RH prog w r) (path m (RH prog w r) k)=_:=e1
    erw [e1]
    dsimp only
    obtain ⟨e,he,hes⟩:=ent k' a2
    obtain ⟨b,q,hb,hq,hh⟩:=rows e (x.mem (path_j m _ k').1 he)
    refine guard_ok (fun R hR=>unseen_rows hk (fun y hy=>?_) hR) ?_
    ·obtain ⟨e',he',rfl⟩:=List.mem_map.mp hy
     have he'':=(Array.mem_filter.mp (Array.mem_toList_iff.mp he')).1
     obtain ⟨b',q',z1,z2,_⟩:=rows e' (Array.mem_toList_iff.mpr he'')
     exact ⟨b',q',z1,z2⟩
    obtain ⟨eh,ev⟩:=e
    dsimp only at hb hh
    subst hb
    rw [hes]
    dsimp only
    refine wpAny_bind (wpAny_holding (wpAny_eqBool_tuple hu hq hk ?_))
    refine wpAny_bind (wpAny_setState_of ho hd hfit ?_)
    dsimp only
    by_cases hqr:q=r
    ·subst hqr
     rw [decide_eq_true rfl]
     simp only [Bool.and_self,if_true]
     exact wpAny_pure (hit ⟨_,x.mem (path_j m _ k').1 he,b,rfl,hq⟩)
    ·rw [decide_eq_false hqr]
     simp only [Bool.and_false,Bool.false_eq_true,if_false]
     have hsm:t.sameMemory t.moves t.mask=some true:=by unfold SetTable.sameMemory;rw [if_pos (beq_self_eq_true _)]
     rw [hsm]
     simp only [if_true]
     rw [x.slot (path_j m _ k').1,hK3 k' a2]
     simp only [if_true]
     rw [hes]
     dsimp only
     refine wpAny_bind (isSame_ref ?_)
     simp only [if_true]
     refine wpAny_bind (wpAny_pure ?_)
     dsimp only
     refine ih (k'+1) _ rfl (by lia) (by lia) fun k2 hk2 e2 ho2 b2 q2 hb2 hq2 hqr2=>?_
     subst hqr2
     by_cases w1:k2<k
     ·exact h4 k2 w1 e2 ho2 b2 q2 hb2 hq2 rfl
     ·by_cases w2:k2=k'
      ·subst w2
       rw [he] at ho2
       cases ho2
       cases hb2
       exact hqr (hq.inj hq2)
      ·have hk2K:k2<K:=by lia
       obtain ⟨b3,q3,z1,z2,z3⟩:=rows e2 (x.mem (path_j m _ k2).1 ho2)
       rw [hb2] at z1
       cases z1
       have:=hq2.inj z2
       subst this
       exact a4 k2 (by lia) (by lia) ((hat k2 hk2K e2 ho2).trans z3)
 exact go 100000 0 none rfl (Nat.zero_le _) (have:SetTable.turns m≤142:=(by unfold SetTable.turns;rcases x.m3 with q | q | q <;> lia);by lia) fun k' h=>absurd h (Nat.not_lt_zero _)
end
section
variable {α:Type} [BEq α] [LawfulBEq α]
theorem nodup_sub_le:∀ {l m:List α},l.Nodup→(∀ x∈l,x∈m)→l.length≤m.length
 | [],m,_,_=>Nat.zero_le _
 | x::l,m,hn,hs=>by
  have hc:=List.nodup_cons.mp hn
  have hm:=hs x (.head _)
  have:=nodup_sub_le (l:=l) (m:=m.erase x) hc.2 fun y hy=>(List.mem_erase_of_ne (fun q:y=x=>hc.1 (q▸hy))).mpr (hs y (.tail _ hy))
  rw [List.length_erase_of_mem hm] at this
  have:=List.length_pos_of_mem hm
  simp only [List.length_cons]
  lia
end
theorem perm_map {α β:Type} {f:α→β}:∀ {l:List β} {m:List α},l.Perm (m.map f)→∃ m':List α,m'.Perm m∧l=m'.map f
 | [],m,h=>by
  have:=h.symm.eq_nil
  exact ⟨[],by rw [List.map_eq_nil_iff.mp this],rfl⟩
 | b::l,m,h=>by
  obtain ⟨a,ha,rfl⟩:=List.mem_map.mp (h.mem_iff.mp (.head _))
  obtain ⟨u,v,rfl⟩:=List.append_of_mem ha
  have h2:(f a::l).Perm (f a::(u++v).map f):=h.trans (by rw [List.map_append,List.map_append,List.map_cons];exact List.perm_middle)
  obtain ⟨m',p,rfl⟩:=perm_map (List.Perm.cons_inv h2)
  exact ⟨a::m',(p.cons a).trans List.perm_middle.symm,rfl⟩
section
variable {prog:Program} {w:World} {A:Around} {E:Value→Shared→Prop} {s s₀:Shared} {D:Addr} {ob:Obj} {rs:List (List Int)} {vs:List Value}
noncomputable def rowI (rs:List (List Int)) (i:Nat):List Int:=rs.getD i []
noncomputable def entI (prog:Program) (w:World) (rs:List (List Int)) (vs:List Value) (i:Nat):Int×Value:=(RH prog w (rowI rs i),vs.getD i .none)
structure Tabs (prog:Program) (w:World) (rs:List (List Int)) (vs:List Value) (i:Nat) (es:Array (Int×Value)) (t:SetTable) (m:Nat) (oc:Occ) (idx:List Nat):Prop where
 tab:TabOk m oc t es
 path:PathOk m oc
 led:t.led=!w.params.followText "set-order"
 plain:t.plain=true
 room:es.size*5<m*3
 perm:es.toList.Perm (idx.map (entI prog w rs vs))
 lt:∀ k∈idx,k<i
 nodup:(idx.map (rowI rs)).Nodup
 all:∀ k<i,rowI rs k∈idx.map (rowI rs)
noncomputable def RowSet (prog:Program) (w:World) (rs:List (List Int)) (vs:List Value) (i:Nat) (ob:Obj):Prop :=
 ∃ es ep t m oc idx,ob={ cls:=.type "set",dict:=none,data:=.set es ep t }∧Tabs prog w rs vs i es t m oc idx
theorem rowSet_new:RowSet prog w rs vs 0 (setNew (!w.params.followText "set-order")):=by
 refine ⟨#[],0,_,7,fun _=>none,[],rfl,⟨⟨rfl,.inl rfl,?_,?_,rfl⟩,fun j e _ h=>(nomatch h),rfl,rfl,by decide,List.Perm.nil,fun _ h=>(nomatch h),List.Pairwise.nil,fun _ h=>(by lia)⟩⟩
 ·rfl
 ·rfl
def RowsAt (prog:Program) (w:World) (h:Heap) (rs:List (List Int)) (vs:List Value):Prop:=∀ i<rs.length,∃ b,vs.getD i .none=.ref b∧RowKey prog w h (rowI rs i) b
theorem RowKey.at {h h':Heap} {r:List Int} {a:Addr} (x:RowKey prog w h r a) (k:∀ b o,h.get? b=some o→h'.get? b=some o):RowKey prog w h' r a :=
 let ⟨o,it,n,e,rest⟩:=x;⟨o,it,n,k _ _ e,rest⟩
theorem Tabs.rows {i:Nat} {es:Array (Int×Value)} {t:SetTable} {m:Nat} {oc:Occ} {idx:List Nat} (x:Tabs prog w rs vs i es t m oc idx) (hi:i≤rs.length) {h:Heap} (hr:RowsAt prog w h rs vs):RowsIn prog w h es.toList:=by
 intro e he
 obtain ⟨k,hk,rfl⟩:=List.mem_map.mp (x.perm.mem_iff.mp he)
 obtain ⟨b,hb,hk2⟩:=hr k (by have:=x.lt k hk;lia)
 exact ⟨b,_,hb,hk2,rfl⟩
theorem Tabs.skip {i:Nat} {es:Array (Int×Value)} {t:SetTable} {m:Nat} {oc:Occ} {idx:List Nat} (x:Tabs prog w rs vs i es t m oc idx) (h:rowI rs i∈idx.map (rowI rs)):Tabs prog w rs vs (i+1) es t m oc idx :=
 ⟨x.tab,x.path,x.led,x.plain,x.room,x.perm,fun k hk=>Nat.lt_succ_of_lt (x.lt k hk),x.nodup,fun k hk=>(Nat.lt_or_ge k i).elim (x.all k) fun q=>by
  have e:k=i:=Nat.le_antisymm (Nat.le_of_lt_succ hk) q
  rw [e];exact h⟩
theorem Tabs.len {i:Nat} {es:Array (Int×Value)} {t:SetTable} {m:Nat} {oc:Occ} {idx:List Nat} (x:Tabs prog w rs vs i es t m oc idx) (hi:i≤rs.length):es.size=idx.length∧idx.length≤(dedup rs).length:=by
 refine ⟨by rw [← Array.length_toList,x.perm.length_eq,List.length_map],?_⟩
 rw [← List.length_map (rowI rs)]
 refine nodup_sub_le x.nodup fun y hy=>?_
 obtain ⟨k,hk,rfl⟩:=List.mem_map.mp hy
 have:=x.lt k hk
 unfold rowI
 rw [mem_dedup,List.getD_eq_getElem?_getD,List.getElem?_eq_getElem (by lia)]
 exact List.getElem_mem _
theorem storeSet_at {es es':Array (Int×Value)} {ep:Nat} {t t':SetTable} {Q:Unit→Shared→Prop} (ho:s.heap.get? D=some { cls:=.type "set",dict:=none,data:=.set es ep t }) (hsz:es'.size≤sizeLine)
  (h:∀ h',Heap.SameBut D s.heap h'→h'.get? D=some { cls:=.type "set",dict:=none,data:=.set es' (ep+1) t' }→Q () { s with heap:=h' }):wpAny (model prog w) A (storeSet D es' t') Q E s:=by
 refine wpAny_storeSet_of ho rfl (h _ (Heap.SameBut.update _ _ _) ?_) hsz
 have:=Heap.get?_update_self (Obj.putSet es' t') ho (by rw [putSet_of es' t' rfl];rfl)
 rw [putSet_of es' t' rfl] at this
 exact this
theorem relay_at {i:Nat} {es:Array (Int×Value)} {ep:Nat} {t:SetTable} {m m':Nat} {oc:Occ} {idx:List Nat} {Q:Unit→Shared→Prop} {wanted:Nat} (ho:s.heap.get? D=some { cls:=.type "set",dict:=none,data:=.set es ep t })
  (x:TabOk m oc t es) (hn:es.size≤m) (led:t.led=!w.params.followText "set-order") (plain:t.plain=true) (hperm:es.toList.Perm (idx.map (entI prog w rs vs))) (lt:∀ k∈idx,k<i) (nodup:(idx.map (rowI rs)).Nodup) (all:∀ k<i,rowI rs k∈idx.map (rowI rs))
  (hw:SetTable.sizeAbove wanted=m'+1) (hm:mask3 m') (hr:es.size*5<m'*3)
  (h:∀ h' es' ep' t' oc',Heap.SameBut D s.heap h'→h'.get? D=some { cls:=.type "set",dict:=none,data:=.set es' ep' t' }→Tabs prog w rs vs i es' t' m' oc' idx→Q () { s with heap:=h' }) :
  wpAny (model prog w) A (setRelay D wanted) Q E s:=by
 obtain ⟨t',order,oc',e,l1,l2,tab,path,perm⟩:=laid_ok (es:=es.toList) hm (by rw [Array.length_toList];lia) t.finger (t.movedTo m') t.led t.plain
 simp only [Array.toArray_toList] at tab perm
 have hsz:(order.filterMap fun i=>es[i]?).size=es.size:=by
  have:=perm.length_eq
  rw [Array.length_toList,Array.length_toList] at this
  exact this
 have ee:t.relaid (es.map (·.1)) wanted=some (t',order):=by
  unfold SetTable.relaid
  rw [hw,Nat.add_sub_cancel]
  have:es.map (·.1)=(es.toList.map (·.1)).toArray:=Array.toList_inj.mp (by rw [Array.toList_map])
  rw [this]
  exact e
 unfold setRelay
 refine wpAny_bind (wpAny_setState_of ho rfl (x.fit hn) ?_)
 dsimp only
 rw [hw,if_neg (by rw [sizeLine_eq];rcases hm with q | q | q <;> lia),ee]
 have hsz':¬ (((order.filterMap fun i=>es[i]?).size != es.size)=true):=by rw [hsz];simp
 refine wpAny_bind (wpAny_of_eq (show _=pure (order.filterMap (fun i=>es[i]?),t') from if_neg hsz') ?_)
 dsimp only
 refine storeSet_at ho (by rw [hsz,sizeLine_eq];rcases hm with q | q | q <;> lia) fun h' sb g=>h h' _ _ t' oc' sb g ?_
 exact ⟨tab,path,l1.trans led,l2.trans plain,by rw [hsz];exact hr,perm.trans hperm,lt,nodup,all⟩
end
theorem full7:∀ n<64,7*3≤(n+1)*5→n*5<7*3→n=4:=by decide +kernel
theorem full31:∀ n<64,31*3≤(n+1)*5→n*5<31*3→n=18:=by decide +kernel
theorem full127:∀ n<64,¬ 127*3≤(n+1)*5:=by decide +kernel
section
variable {M:Model} {A:Around} {α:Type} {a b:Sem α} {Q:α→Shared→Prop} {E:Value→Shared→Prop} {s:Shared}
theorem w_f {c:Bool} (hc:c=false) (h:wpAny M A b Q E s):wpAny M A (if c=true then a else b) Q E s:=by subst hc;exact h
theorem w_t {c:Bool} (hc:c=true) (h:wpAny M A a Q E s):wpAny M A (if c=true then a else b) Q E s:=by subst hc;exact h
end
section
variable {prog:Program} {w:World} {rs:List (List Int)} {vs:List Value} {i j b:Nat} {es:Array (Int×Value)} {t:SetTable} {m:Nat} {oc:Occ} {idx:List Nat}
theorem room_le {n m:Nat} (h:n*5<m*3):n≤m:=Nat.le_of_not_lt fun q=>absurd (Nat.le_trans (Nat.mul_le_mul_right 3 (Nat.le_of_lt q)) (Nat.mul_le_mul_left n (by decide:3≤5))) (Nat.not_le.mpr h)
noncomputable def ins (prog:Program) (w:World) (rs:List (List Int)) (i b j:Nat) (es:Array (Int×Value)) (t:SetTable):Array (Int×Value):=SetTable.insertAt es (t.put j).2 (RH prog w (rowI rs i),Value.ref b)
structure More (prog:Program) (w:World) (rs:List (List Int)) (vs:List Value) (i:Nat) (es:Array (Int×Value)) (t:SetTable) (m:Nat) (oc:Occ) (idx:List Nat) (es':Array (Int×Value)) (t':SetTable) (oc':Occ):Prop where
 tab:TabOk m oc' t' es'
 path:PathOk m oc'
 size:es'.size=es.size+1
 fill:t'.fill=es.size+1
 perm:es'.toList.Perm ((idx++[i]).map (entI prog w rs vs))
 lt:∀ k∈idx++[i],k<i+1
 nodup:((idx++[i]).map (rowI rs)).Nodup
 all:∀ k<i+1,rowI rs k∈(idx++[i]).map (rowI rs)
 len:es.size+1≤(dedup rs).length
theorem tabs_more (x:Tabs prog w rs vs i es t m oc idx) (hi:i<rs.length) (hj:j≤m) (hoj:oc j=none) (hp:∃ k,(path m (RH prog w (rowI rs i)) k).j=j∧∀ k'<k,full oc (path m (RH prog w (rowI rs i)) k').j=true) (hnew:rowI rs i∉idx.map (rowI rs)) (hb:vs.getD i .none=.ref b) :
  More prog w rs vs i es t m oc idx (ins prog w rs i b j es t) (t.put j).1 (upd oc j (RH prog w (rowI rs i),Value.ref b)):=by
 have hput:=x.tab.put hj hoj (RH prog w (rowI rs i),Value.ref b)
 have tab':TabOk m (upd oc j (RH prog w (rowI rs i),Value.ref b)) (t.put j).1 (ins prog w rs i b j es t):=by
  unfold ins
  rw [hput.1]
  exact hput.2
 have esz:(ins prog w rs i b j es t).size=es.size+1:=by
  unfold ins
  rw [← Array.length_toList,(SetTable.insertAt_perm _ _ _).length_eq,Array.length_toList,Array.size_push]
 have lt':∀ k∈idx++[i],k<i+1:=fun k hk=>(List.mem_append.mp hk).elim (fun q=>Nat.lt_succ_of_lt (x.lt k q)) fun q=>List.mem_singleton.mp q▸Nat.lt_succ_self _
 have nodup':((idx++[i]).map (rowI rs)).Nodup:=by
  rw [List.map_append,List.map_singleton]
  exact List.nodup_append.mpr ⟨x.nodup,List.nodup_cons.mpr ⟨List.not_mem_nil,List.nodup_nil⟩,fun y hy z hz=>List.mem_singleton.mp hz▸fun q=>hnew (q▸hy)⟩
 have len':(idx++[i]).length≤(dedup rs).length:=by
  rw [← List.length_map (rowI rs)]
  refine nodup_sub_le nodup' fun y hy=>?_
  obtain ⟨k,hk,rfl⟩:=List.mem_map.mp hy
  have hk:=Nat.lt_of_lt_of_le (lt' k hk) hi
  unfold rowI
  rw [mem_dedup,List.getD_eq_getElem?_getD,List.getElem?_eq_getElem hk]
  exact List.getElem_mem _
 refine ⟨tab',x.path.put hoj hp,esz,?_,?_,lt',nodup',fun k hk=>?_,?_⟩
 ·unfold SetTable.fill
  rw [tab'.size,tab'.dummies,esz]
  rfl
 ·refine (SetTable.insertAt_perm _ _ _).trans ?_
  rw [Array.toList_push,List.map_append,List.map_singleton]
  refine (x.perm.append_right _).trans ?_
  show List.Perm _ (_++[(RH prog w (rowI rs i),vs.getD i .none)])
  rw [hb]
 ·rw [List.map_append]
  rcases Nat.lt_or_ge k i with q | q
  ·exact List.mem_append_left _ (x.all k q)
  ·rw [Nat.le_antisymm (Nat.le_of_lt_succ hk) q];exact List.mem_append_right _ (.head _)
 ·rw [List.length_append,← (x.len (Nat.le_of_lt hi)).1] at len'
  exact len'
theorem put_led:(t.put j).1.led=t.led∧(t.put j).1.plain=t.plain:=⟨rfl,rfl⟩
theorem line_le {n:Nat} (h:n≤1000):n≤sizeLine:=sizeLine_eq▸Nat.le_trans h (by decide)
theorem add_in {B:Around} {E:Value→Shared→Prop} {s:Shared} {D:Addr} {ep f:Nat} {R:Bool→Shared→Prop} (g:s.heap.get? D=some { cls:=.type "set",dict:=none,data:=.set es ep t }) (x:Tabs prog w rs vs i es t m oc idx) (h64:(dedup rs).length<64) (hi:i<rs.length)
  (hrs:RowsAt prog w s.heap rs vs) (hb:vs.getD i .none=.ref b) (hk:RowKey prog w s.heap (rowI rs i) b) (hu:B.units<cLine)
  (k:∀ r h' o',Heap.SameBut D s.heap h'→h'.get? D=some o'→RowSet prog w rs vs (i+1) o'→R r { s with heap:=h' }):wpAny (model prog w) B (setAddHashedIn D (.ref b) (RH prog w (rowI rs i)) (f+1)) R E s:=by
 have hn:=room_le x.room
 have fit:=x.tab.fit hn
 refine wpAny_bind (m:=setState D) (wpAny_setState_of g rfl fit (w_f (c:=byScan (.ref b) es) rfl (wpAny_bind (search_ok g rfl x.tab x.path hn (x.rows (Nat.le_of_lt hi) hrs) hu hk (fun y=>?_) fun hmiss j hj hoj hpath=>?_))))
 ·refine wpAny_pure (k _ s.heap _ ⟨rfl,fun _ _=>rfl⟩ g ⟨es,ep,t,m,oc,idx,rfl,x.skip ?_⟩)
  obtain ⟨e,he,b',e1,e2⟩:=y
  obtain ⟨k',hk',rfl⟩:=List.mem_map.mp (x.perm.mem_iff.mp he)
  obtain ⟨b2,f1,f2⟩:=hrs k' (Nat.lt_trans (x.lt k' hk') hi)
  cases f1.symm.trans e1
  exact f2.inj e2▸List.mem_map_of_mem hk'
 ·have y:=tabs_more (b:=b) x hi hj hoj hpath (fun q=>(List.mem_map.mp q).elim fun k' q=>(hrs k' (Nat.lt_trans (x.lt k' q.1) hi)).elim fun b2 f=>hmiss (entI prog w rs vs k') (x.perm.mem_iff.mpr (List.mem_map_of_mem q.1)) b2 _ f.1 f.2 q.2) hb
  have hsz:es.size<64:=Nat.lt_of_succ_le (Nat.le_trans y.len (Nat.le_of_lt h64))
  refine wpAny_bind (wpAny_setState_of g rfl fit (w_t (put_led.2.trans x.plain) (wpAny_bind (hashByValue_row hk (wpAny_bind (storeSet_at (es':=ins prog w rs i b j es t) (t':=(t.put j).1) g (y.size▸line_le (Nat.le_trans (Nat.succ_le_of_lt hsz) (by decide))) fun h1 sb1 g1=>?_))))))
  cases q:(t.put j).1.tooFull
  ·refine w_f q (wpAny_pure (k _ h1 _ sb1 g1 ⟨_,_,(t.put j).1,m,_,idx++[i],rfl,y.tab,y.path,put_led.1.trans x.led,put_led.2.trans x.plain,?_,y.perm,y.lt,y.nodup,y.all⟩))
   unfold SetTable.tooFull at q
   rw [y.fill,y.tab.mask] at q
   exact y.size▸Nat.lt_of_not_le (of_decide_eq_false q)
  ·refine w_t q (wpAny_bind (wpAny_mono ?_ (fun _ s' h=>wpAny_pure h) fun _ _ e=>e))
   unfold SetTable.tooFull at q
   rw [y.fill,y.tab.mask] at q
   have q:=of_decide_eq_true q
   have room:=x.room
   have go:∀ m',mask3 m'→es.size+1≤m→SetTable.sizeAbove (SetTable.grown (es.size+1))=m'+1→(es.size+1)*5<m'*3→wpAny (model prog w) B (setRelay D (SetTable.grown (es.size+1))) (fun _ s'=>R true s') E { s with heap:=h1 }:=fun m' h1' h0 h2 h3 =>
    relay_at (s:={ s with heap:=h1 }) g1 y.tab (y.size.symm▸h0) (put_led.1.trans x.led) (put_led.2.trans x.plain) y.perm y.lt y.nodup y.all h2 h1' (y.size.symm▸h3) fun h2 es2 ep2 t2 oc2 sb2 g2 x2=>k _ h2 _ (sb1.trans sb2) g2 ⟨es2,ep2,t2,m',oc2,_,rfl,x2⟩
   rcases x.tab.m3 with rfl | rfl | rfl
   ·have e:=full7 _ hsz q room
    exact go 31 (.inr (.inl rfl)) (by rw [e];decide) (by rw [e];decide) (by rw [e];decide)
   ·have e:=full31 _ hsz q room
    exact go 127 (.inr (.inr rfl)) (by rw [e];decide) (by rw [e];decide) (by rw [e];decide)
   ·exact absurd q (full127 _ hsz)
theorem row_adds {s₀:Shared} (hl:vs.length=rs.length) (hr:RowsAt prog w s₀.heap rs vs) (h64:(dedup rs).length<64):Adds prog w s₀ vs.toArray (RowSet prog w rs vs):=by
 intro B E i v s D ob R hi keep hu g hD y k
 obtain ⟨es,ep,t,m,oc,idx,rfl,x⟩:=y
 rw [List.getElem?_toArray] at hi
 have hlt:i<rs.length:=hl▸(List.getElem?_eq_some_iff.mp hi).1
 obtain ⟨b,hb,hk⟩:=hr i hlt
 have hv:v=.ref b:=by rw [← hb,List.getD_eq_getElem?_getD,hi];rfl
 subst hv
 have hk:=hk.at keep
 exact wpAny_holding (wpAny_bind (wpAny_pyHash_tuple hu hk (wpAny_holding (add_in (f:=99999) g x h64 hlt (fun j hj=>(hr j hj).elim fun c e=>⟨c,e.1,e.2.at keep⟩) hb hk hu fun r h' o' sb g' z=>k r h' _ o' sb (Nat.le_add_right _ _) g' z))))
end
section
set_option maxRecDepth 100000
theorem entry_setiter:entryFor table "set.__iter__"=some Builtin.«frozenset.__iter__» :=
 entryFor_alias (id':="frozenset.__iter__") (by kernel_rfl) rfl (by decide +kernel) (by kernel_rfl)
theorem slot_setiter_next:Slot "set_iterator" "__next__" "set_iterator.__next__" :=
 .of (owner:="set_iterator") (n:="__next__") (by rw [typeLookup_type,builtinLookup_eq_fast];kernel_rfl) (by decide +kernel) (by decide +kernel) (by decide +kernel)
  (by first | exact .inl (by decide +kernel) | exact .inr (by decide +kernel)) (by rw [isSubtype_type];kernel_rfl)
theorem entry_setiter_next:entryFor table "set_iterator.__next__"=some Builtin.«set_iterator.__next__»:=entryFor_of_tree (by kernel_rfl)
theorem args_setiter_next (a:Value):argsOk "set_iterator.__next__" ⟨[a],[]⟩:=by unfold argsOk;kernel_rfl
theorem slot_setiter_iter:Slot "set_iterator" "__iter__" "set_iterator.__iter__" :=
 .of (owner:="set_iterator") (n:="__iter__") (by rw [typeLookup_type,builtinLookup_eq_fast];kernel_rfl) (by decide +kernel) (by decide +kernel) (by decide +kernel)
  (by first | exact .inl (by decide +kernel) | exact .inr (by decide +kernel)) (by rw [isSubtype_type];kernel_rfl)
theorem entry_setiter_iter:entryFor table "set_iterator.__iter__"=some Builtin.«dict_keyiterator.__iter__» :=
 entryFor_alias (id':="dict_keyiterator.__iter__") (by kernel_rfl) rfl (by decide +kernel) (by kernel_rfl)
theorem args_setiter_iter (a:Value):argsOk "set_iterator.__iter__" ⟨[a],[]⟩:=by unfold argsOk;kernel_rfl
section
variable {prog:Program} {w:World} {A:Around} {E:Value→Shared→Prop} {s:Shared} {D I:Addr} {es:Array (Int×Value)} {ep:Nat} {t:SetTable} {m:Nat} {oc:Occ}
noncomputable abbrev setObj (es:Array (Int×Value)) (ep:Nat) (t:SetTable):Obj:={ cls:=.type "set",dict:=none,data:=.set es ep t }
noncomputable abbrev setIter (D:Addr) (slot i n ep:Nat):Obj:={ cls:=.type "set_iterator",data:=.fields #[.int slot 0,.int i 0,.ref D,.int n 0,.int ep 0] }
theorem iter_set (ho:s.heap.get? D=some (setObj es ep t)) (hf:t.fits es.size=true) (hp:t.plain=true) {Q:Value→Shared→Prop}
  (h:Q (.ref s.heap.objs.size) { s with heap:=s.heap.push (setIter D 0 0 es.size ep) }):wpAny (model prog w) A (pyIter (.ref D)) Q E s:=by
 have hT:s.TypeIs (.ref D) "set":=⟨_,ho,rfl⟩
 refine wpAny_pyIter_slot hT PySem.F.slot_set_iter (wpAny_call_entry PySem.F.slot_set_iter hT entry_setiter ?_ (PySem.F.args_set_iter_1 _))
 unfold Builtin.«frozenset.__iter__»
 refine wpAny_bind (wpAny_of_eq (a:=D) rfl ?_)
 unfold Builtin.Frozenset.sizeOf
 refine wpAny_bind (wpAny_bind (wpAny_bind (wpAny_setState_of ho rfl hf (wpAny_pure (wpAny_pure ?_)))))
 unfold setDrawn
 refine wpAny_bind (wpAny_bind (wpAny_setState_of ho rfl hf ?_))
 dsimp only
 refine wpAny_bind (wpAny_bind (wpAny_askSetting (wpAny_pure ?_)))
 refine wpAny_pure ?_
 rw [if_neg]
 case hnc =>
  show ¬ ((_&&(!t.plain&&decide (es.size > 1)))=true)
  rw [hp];simp
 refine wpAny_bind (wpAny_pure ?_)
 unfold setEpoch
 refine wpAny_bind (wpAny_bind (wpAny_setState_of ho rfl hf (wpAny_pure ?_)))
 exact wpAny_bind (wpAny_newObj_type (wpAny_pure ⟨_,rfl,"set_iterator",_,⟨_,Heap.get?_push_size _ rfl,rfl⟩,slot_setiter_next.lookup,h⟩))
end
end
theorem erase_perm {α:Type}:∀ (l:List α) (i:Nat) (h:i<l.length),(l[i]::l.eraseIdx i).Perm l
 | x::l,0,h=>.refl _
 | x::l,i+1,h=>by
  exact (List.Perm.swap x _ _).trans ((erase_perm l i (Nat.lt_of_succ_lt_succ h)).cons x)
theorem pick_suc {α:Type} (next:Nat→Nat) (f k:Nat) (left:List α) (out:Array α):pickOrder.go next (f+1) k left out=(left[next k % left.length]?).elim out fun x=>pickOrder.go next f (k+1) (left.eraseIdx (next k % left.length)) (out.push x):=by kernel_rfl!
theorem pick_go {α:Type} (next:Nat→Nat):∀ (f k:Nat) (left:List α) (out:Array α),left.length≤f→(pickOrder.go next f k left out).toList.Perm (out.toList++left)
 | 0,k,left,out,h=>by
  rw [List.length_eq_zero_iff.mp (Nat.le_zero.mp h),List.append_nil]
  exact .refl _
 | f+1,k,left,out,h=>by
  rw [pick_suc]
  cases left with
  | nil=>rw [List.append_nil];exact .refl _
  | cons y l =>
   have hlt:next k % (y::l).length<(y::l).length:=Nat.mod_lt _ (Nat.succ_pos _)
   rw [List.getElem?_eq_getElem hlt]
   refine (pick_go next f (k+1) _ _ (by rw [List.length_eraseIdx_of_lt hlt];exact Nat.sub_le_iff_le_add.mpr h)).trans ?_
   rw [Array.toList_push,List.append_assoc]
   exact List.Perm.append_left _ (erase_perm _ _ hlt)
theorem pick_perm {α:Type} (next:Nat→Nat) (xs:Array α):(pickOrder next xs).toList.Perm xs.toList:=pick_go next xs.size 0 xs.toList #[] (Nat.le_refl _)
section
variable {prog:Program} {w:World} {A:Around} {E:Value→Shared→Prop} {s:Shared} {D I:Addr} {es:Array (Int×Value)} {ep:Nat} {t:SetTable} {m:Nat} {oc:Occ}
noncomputable def walkOf (w:World) (D:Addr) (ep:Nat) (es:Array (Int×Value)):Array (Int×Value):=if w.params.followText "set-order" then pickOrder (w.params.setOrder D ep) es else es
theorem walk_perm:(walkOf w D ep es).toList.Perm es.toList:=by
 unfold walkOf
 split
 ·exact pick_perm _ _
 ·exact .refl _
noncomputable def slotI (w:World) (t:SetTable) (i:Nat):Nat:=if w.params.followText "set-order" then 0 else if i=0 then 0 else t.place.getD (i - 1) 0+1
theorem slot_zero:slotI w t 0=0:=by
 unfold slotI
 rw [if_pos rfl]
 exact ite_self _
theorem slot_succ (hb:w.params.followText "set-order"=false) {j:Nat} (hj:j<t.place.size):slotI w t (j+1)=t.place[j]+1:=by
 unfold slotI
 rw [hb,if_neg Bool.false_ne_true,if_neg (Nat.succ_ne_zero j),Nat.add_sub_cancel,Array.getD_eq_getD_getElem?,Array.getElem?_eq_getElem hj]
 rfl
theorem below_slot (x:TabOk m oc t es) (hb:w.params.followText "set-order"=false):∀ {i:Nat},i≤es.size→SetTable.below t.place (slotI w t i)=i
 | 0,_=>by
  rw [slot_zero]
  exact below_of (A:=[]) (B:=t.place.toList) rfl (fun y hy=>nomatch hy) fun y _=>Nat.not_lt_zero y
 | j+1,hi=>by
  have hj:j<t.place.size:=x.size▸hi
  have tk:t.place.toList.take (j+1)=t.place.toList.take j++[t.place[j]]:=List.take_succ_eq_append_getElem (i:=j) (l:=t.place.toList) hj
  have e:t.place.toList=(t.place.toList.take j++[t.place[j]])++t.place.toList.drop (j+1):=by rw [← tk];exact (List.take_append_drop _ _).symm
  have inc:t.place.toList.Pairwise (·<·):=by rw [x.place];exact List.Pairwise.filter _ List.pairwise_lt_range
  rw [e] at inc
  have p1:=List.pairwise_append.mp inc
  have p2:=List.pairwise_append.mp p1.1
  rw [slot_succ hb hj]
  refine (below_of e (fun y hy=>?_) fun y hy=>Nat.not_lt.mpr (p1.2.2 _ (List.mem_append_right _ (.head _)) y hy)).trans ?_
  ·exact (List.mem_append.mp hy).elim (fun q=>Nat.lt_succ_of_lt (p2.2.2 y q _ (.head _))) fun q=>List.mem_singleton.mp q▸Nat.lt_succ_self _
  ·rw [← tk,List.length_take]
   exact Nat.min_eq_left hj
theorem setNext_ok (ho:s.heap.get? D=some (setObj es ep t)) (x:TabOk m oc t es) (hn:es.size≤m) (hp:t.plain=true) (hled:t.led=!w.params.followText "set-order") {i:Nat} (hi:i≤es.size) {Q:Option (Value×Nat)→Shared→Prop}
  (h:Q ((walkOf w D ep es)[i]?.map fun e=>(e.2,slotI w t (i+1))) s):wpAny (model prog w) A (setNext D (slotI w t i) i ep) Q E s:=by
 unfold setNext
 refine wpAny_bind (wpAny_setState_of ho rfl (x.fit hn) ?_)
 dsimp only
 refine wpAny_bind (wpAny_bind (wpAny_askSetting (wpAny_pure ?_)))
 show wpAny _ _ (if w.params.followText "set-order"=true then _ else _) _ _ _
 cases hb:w.params.followText "set-order" with
 | true =>
  simp only [if_true,bne_self_eq_false,Bool.false_eq_true,if_false]
  unfold setWalk
  refine wpAny_bind (wpAny_bind (wpAny_setState_of ho rfl (x.fit hn) ?_))
  dsimp only
  refine wpAny_bind (wpAny_bind (wpAny_askSetting (wpAny_pure ?_)))
  show wpAny _ _ (if w.params.followText "set-order"=true then _ else _) _ _ _
  rw [hb]
  simp only [if_true]
  refine wpAny_bind (wpAny_askSetting (wpAny_pure (wpAny_pure ?_)))
  unfold walkOf slotI at h
  rw [hb] at h
  unfold slotI
  rw [hb]
  exact h
 | false =>
  simp only [Bool.false_eq_true,if_false]
  rw [if_neg]
  case hnc =>
   show ¬ ((!t.plain&&decide (es.size > 1))=true)
   rw [hp];simp
  rw [hb] at hled
  refine wpAny_bind (m:=(if (!t.led&&!es.isEmpty)=true then unsupported "set:maker-not-led" else pure ())) ?_
  rw [if_neg (by rw [hled];simp)]
  refine wpAny_pure ?_
  rw [below_slot x hb hi]
  unfold walkOf at h
  rw [hb] at h
  simp only [Bool.false_eq_true,if_false] at h
  by_cases q:i<es.size
  ·have q2:i<t.place.size:=by rw [x.size];exact q
   rw [Array.getElem?_eq_getElem q] at h ⊢
   rw [Array.getElem?_eq_getElem q2]
   rw [slot_succ hb q2] at h
   exact wpAny_pure h
  ·rw [Array.getElem?_eq_none (Nat.le_of_not_lt q)] at h ⊢
   exact wpAny_pure h
end
section
variable {prog:Program} {w:World} {A:Around} {E:Value→Shared→Prop} {s:Shared} {D I:Addr} {es:Array (Int×Value)} {ep:Nat} {t:SetTable} {m:Nat} {oc:Occ}
theorem next_set (ho:s.heap.get? D=some (setObj es ep t)) (x:TabOk m oc t es) (hn:es.size≤m) (hp:t.plain=true) (hled:t.led=!w.params.followText "set-order") {i:Nat} (hi:i<es.size)
  (hit:s.heap.get? I=some (setIter D (slotI w t i) i es.size ep)) {Q:Option Value→Shared→Prop} {e:Int×Value} (he:(walkOf w D ep es)[i]?=some e)
  (h:∀ h',Heap.SameBut I s.heap h'→h'.get? I=some (setIter D (slotI w t (i+1)) (i+1) es.size ep)→Q (some e.2) { s with heap:=h' }):wpAny (model prog w) A (pyNext (.ref I)) Q E s:=by
 have hT:s.TypeIs (.ref I) "set_iterator":=⟨_,hit,rfl⟩
 unfold pyNext
 refine wpAny_bind (wpAny_attempt (wpAny_callSpecial?_slot (name:=Str.ofString "__next__") hT slot_setiter_next
  (wpAny_call_entry slot_setiter_next hT entry_setiter_next ?_ (args_setiter_next _))))
 unfold Builtin.«set_iterator.__next__»
 refine wpAny_bind (wpAny_of_eq (a:=(.ref I,[])) rfl ?_)
 dsimp only
 refine wpAny_bind (wpAny_fieldsOf hit rfl ?_)
 dsimp only
 refine wpAny_bind (wpAny_setEntries_of ho rfl (x.fit hn) ?_)
 simp only [bne_self_eq_false,Bool.false_eq_true,if_false,Int.toNat_natCast]
 refine wpAny_bind (setNext_ok ho x hn hp hled (by lia) ?_)
 rw [he]
 simp only [Option.map_some]
 refine wpAny_bind (wpAny_setField_rec hit (by simp) fun h1 g1 sb1=>?_)
 refine wpAny_bind (wpAny_setField_rec (s:={ s with heap:=h1 }) g1 (by simp) fun h2 g2 sb2=>?_)
 refine wpAny_pure ⟨e.2,rfl,wpAny_pure (h h2 (sb1.trans sb2) ?_)⟩
 rw [g2]
 rfl
theorem end_set (hh:A.handled=none) (ho:s.heap.get? D=some (setObj es ep t)) (x:TabOk m oc t es) (hn:es.size≤m) (hp:t.plain=true) (hled:t.led=!w.params.followText "set-order")
  (hit:s.heap.get? I=some (setIter D (slotI w t es.size) es.size es.size ep)) {Q:Option Value→Shared→Prop}
  (h:∀ h',Heap.ExtBut I s.heap h'→Q none { s with heap:=h' }):wpAny (model prog w) A (pyNext (.ref I)) Q E s:=by
 have hT:s.TypeIs (.ref I) "set_iterator":=⟨_,hit,rfl⟩
 unfold pyNext
 refine wpAny_bind (wpAny_attempt (wpAny_callSpecial?_slot (name:=Str.ofString "__next__") hT slot_setiter_next
  (wpAny_call_entry slot_setiter_next hT entry_setiter_next ?_ (args_setiter_next _))))
 unfold Builtin.«set_iterator.__next__»
 refine wpAny_bind (wpAny_of_eq (a:=(.ref I,[])) rfl ?_)
 dsimp only
 refine wpAny_bind (wpAny_fieldsOf hit rfl ?_)
 dsimp only
 refine wpAny_bind (wpAny_setEntries_of ho rfl (x.fit hn) ?_)
 simp only [bne_self_eq_false,Bool.false_eq_true,if_false,Int.toNat_natCast]
 refine wpAny_bind (setNext_ok ho x hn hp hled (Nat.le_refl _) ?_)
 have hw:(walkOf w D ep es)[es.size]?=none:=Array.getElem?_eq_none (by
  have:=(walk_perm (w:=w) (D:=D) (ep:=ep) (es:=es)).length_eq
  rw [Array.length_toList,Array.length_toList] at this
  lia)
 rw [hw]
 simp only [Option.map_none]
 refine wpAny_bind (wpAny_setField_rec hit (by simp) fun h1 g1 sb1=>?_)
 show wpAny _ _ (newExc (.type "StopIteration") []>>=_) _ _ _
 refine wpAny_bind ?_
 simp only [newExc,newTuple]
 refine wpAny_bind (wpAny_newObj_type ?_ (by size_fits))
 refine wpAny_bind (m:=firstArgMember _ _) (wpAny_of_eq (a:=Value.none) (by first | rfl | (simp only [firstArgMember];rfl)) ?_)
 refine wpAny_newObj_type ?_ (by size_fits)
 simp only [raiseNew]
 refine wpAny_bind (wpAny_handled ?_)
 rw [show A.in1.handled=none from hh]
 refine wpAny_bind (wpAny_pure (wpAny_throw ?_))
 refine wpAny_bind (wpAny_isInstance (T:="StopIteration") (b:=true) ⟨_,Heap.get?_push_size _ rfl,rfl⟩ isSubtype_stop ?_)
 exact wpAny_pure (h _ ((sb1.extBut.push _).push _))
def WalkSt (w:World) (D I:Addr) (ep:Nat) (es:Array (Int×Value)) (t:SetTable) (i:Nat) (s:Shared):Prop:=s.heap.get? D=some (setObj es ep t)∧s.heap.get? I=some (setIter D (slotI w t i) i es.size ep)
theorem walks_set (hh:A.handled=none) (hDI:D≠I) (x:TabOk m oc t es) (hn:es.size≤m) (hp:t.plain=true) (hled:t.led=!w.params.followText "set-order") :
  WalksS prog w A I [I,D] [I] (fun a b=>b=a) es.size (fun i v=>((walkOf w D ep es)[i]?.map (·.2))=some v) (WalkSt w D I ep es t) where
 sub:=fun b hb=>by simp at hb;simp [hb]
 grefl:=fun _=>rfl
 gtrans:=fun _ _ _ h1 h2=>h2.trans h1
 frame:=fun i s h' tk st _ hk=>⟨hk D (by simp) _ st.1,hk I (by simp) _ st.2⟩
 item:=fun i s Q E hi st hQ=>by
  have hl:(walkOf w D ep es).size=es.size:=by
   have:=(walk_perm (w:=w) (D:=D) (ep:=ep) (es:=es)).length_eq
   rwa [Array.length_toList,Array.length_toList] at this
  have he:(walkOf w D ep es)[i]?=some ((walkOf w D ep es)[i]'(by lia)):=Array.getElem?_eq_getElem (by lia)
  exact next_set st.1 x hn hp hled hi st.2 he fun h' sb g=>hQ _ _ (by rw [he];rfl) ⟨(sb.2 D hDI).trans st.1,g⟩ ⟨fun b o hb e=>(sb.2 b (fun q=>hb (by simp [q]))).trans e,rfl,rfl,rfl,Nat.le_refl _⟩
 done:=fun s Q E st hQ=>end_set hh st.1 x hn hp hled st.2 fun h' k=>hQ _ ⟨fun b o hb e=>k b o (fun q=>hb (by simp [q])) e,rfl,rfl,rfl,Nat.le_refl _⟩
 self:=fun i s Q E st h=>by
  have hT:s.TypeIs (.ref I) "set_iterator":=⟨_,st.2,rfl⟩
  refine wpAny_pyIter_slot hT slot_setiter_iter (wpAny_call_entry slot_setiter_iter hT entry_setiter_iter ?_ (args_setiter_iter _))
  show wpAny _ _ (ret (.ref I)) _ _ s
  exact wpAny_pure ⟨_,rfl,"set_iterator",_,hT,slot_setiter_next.lookup,h⟩
end
section
set_option maxRecDepth 100000
section
variable {prog:Program} {w:World} {A:Around} {E:Value→Shared→Prop} {s:Shared} {D:Addr} {es:Array (Int×Value)} {ep:Nat} {t:SetTable} {m:Nat} {oc:Occ}
theorem collect_set (hh:A.handled=none) (ho:s.heap.get? D=some (setObj es ep t)) (x:TabOk m oc t es) (hn:es.size≤m) (hp:t.plain=true) (hled:t.led=!w.params.followText "set-order") {Q:List Value→Shared→Prop}
  (h:∀ h' tk,(∀ b o,s.heap.get? b=some o→h'.get? b=some o)→Q ((walkOf w D ep es).toList.map (·.2)) { s with heap:=h',toks:=tk }):wpAny (model prog w) A (collect (.ref D)) Q E s:=by
 have hDs:D<s.heap.objs.size:=Heap.lt_size ho
 have hm:m≤127:=by rcases x.m3 with q | q | q <;> lia
 unfold collect
 refine wpAny_bind (wpAny_runValue (codeAny_builtin PySem.F.entry_proto_collect ?_))
 rw [Around.under_plainId PySem.F.plain_proto_collect _]
 show wpAny _ A.in1 (newList []>>=fun l=>again (.builtin "list.__iadd__" ⟨[l,.ref D],[]⟩)) _ _ s
 refine wpAny_bind (wpAny_newObj_type ?_)
 refine wpAny_pure ⟨plainId_quiet PySem.F.plain_list_iadd _,codeAny_builtin PySem.F.entry_list_iadd ?_⟩
 rw [Around.under_plainId PySem.F.plain_list_iadd _]
 show wpAny _ A.in1 (Builtin.List.listExtendWith (.ref s.heap.objs.size) (.ref D) (.ref s.heap.objs.size)) _ _ _
 unfold Builtin.List.listExtendWith
 have ho1:(s.heap.push { cls:=.type "list",data:=.seq ([]:List Value).toArray }).get? D=some (setObj es ep t):=Heap.get?_push_of_some _ ho
 have hL1:(s.heap.push { cls:=.type "list",data:=.seq ([]:List Value).toArray }).get? s.heap.objs.size=some { cls:=.type "list",data:=.seq ([]:List Value).toArray }:=Heap.get?_push_size _ rfl
 have hs1:(s.heap.push { cls:=.type "list",data:=.seq ([]:List Value).toArray }).objs.size=s.heap.objs.size+1:=size_push' _ _
 have k1:∀ b o,s.heap.get? b=some o→(s.heap.push { cls:=.type "list",data:=.seq ([]:List Value).toArray }).get? b=some o:=fun b o e=>Heap.get?_push_of_some _ e
 generalize hH:s.heap.push { cls:=.type "list",data:=.seq ([]:List Value).toArray }=H at ho1 hL1 hs1 k1 ⊢
 show wpAny (model prog w) A.in1 _ _ _ { s with heap:=H }
 refine wpAny_bind (wpAny_typeOf (T:="set") ⟨_,ho1,rfl⟩ ?_)
 have h1:Builtin.List.listSameRef (.ref s.heap.objs.size) (.ref D)=false:=by simp [Builtin.List.listSameRef];exact Nat.ne_of_gt hDs
 have h2:(Value.type "set" == Value.type "list")=false:=by decide
 have h3:(Value.type "set" == Value.type "tuple")=false:=by decide
 simp only [h1,h2,h3,Bool.or_false,Bool.false_eq_true,if_false]
 refine wpAny_bind (iter_set (s:={ s with heap:=H }) ho1 (x.fit hn) hp ?_)
 refine wpAny_bind (wpAny_holding ?_)
 have ho2:(H.push (setIter D 0 0 es.size ep)).get? D=some (setObj es ep t):=Heap.get?_push_of_some _ ho1
 have hI2:(H.push (setIter D 0 0 es.size ep)).get? H.objs.size=some (setIter D 0 0 es.size ep):=Heap.get?_push_size _ rfl
 have hL2:(H.push (setIter D 0 0 es.size ep)).get? s.heap.objs.size=some { cls:=.type "list",data:=.seq ([]:List Value).toArray }:=Heap.get?_push_of_some _ hL1
 have k2:∀ b o,s.heap.get? b=some o→(H.push (setIter D 0 0 es.size ep)).get? b=some o:=fun b o e=>Heap.get?_push_of_some _ (k1 b o e)
 show wpAny (model prog w) A.in1 _ _ _ { s with heap:=H.push (setIter D 0 0 es.size ep) }
 generalize hH2:H.push (setIter D 0 0 es.size ep)=H2 at ho2 hI2 hL2 k2 ⊢
 have hT:Shared.TypeIs { s with heap:=H2 } (.ref D) "set":=⟨_,ho2,rfl⟩
 unfold Builtin.List.listLengthHint
 refine wpAny_bind (wpAny_specialOf hT PySem.F.slot_set_len.lookup ?_)
 wp_delta
 refine wpAny_bind (wpAny_isInstance (T:="set") (b:=true) hT (by rw [isSubtype_type];kernel_rfl) ?_)
 show wpAny _ A.in1 (typeOf (.ref D)>>=_) _ _ _
 refine wpAny_bind (wpAny_typeOf hT ?_)
 refine wpAny_pure ?_
 show wpAny _ A.in1 (rule "list.extend.makes-room">>=fun _=>Builtin.List.listTouch (.ref s.heap.objs.size)>>=fun _ =>
  again (.builtin "list.extend.loop" ⟨[.ref s.heap.objs.size,.ref H.objs.size,.ref s.heap.objs.size],[]⟩)) _ _ _
 refine wpAny_bind (wpAny_rule ?_)
 refine wpAny_bind ?_
 show wpAny _ A.in1 (updateSeq s.heap.objs.size (·.push .none)>>=fun _=>updateSeq s.heap.objs.size (·.pop)) _ _ _
 refine wpAny_bind (wpAny_updateSeq hL2 rfl ?_)
 have hS₂:=Heap.get?_update_self (Obj.mapSeq (·.push Value.none)) hL2 rfl
 refine wpAny_updateSeq hS₂ rfl ?_
 have hS₃:=Heap.get?_update_self (Obj.mapSeq (·.pop)) hS₂ rfl
 have oth:∀ b o,b≠s.heap.objs.size→H2.get? b=some o→((H2.update s.heap.objs.size (Obj.mapSeq (·.push Value.none))).update s.heap.objs.size (Obj.mapSeq (·.pop))).get? b=some o :=
  fun b o hb e=>(Heap.get?_update_other _ _ (Ne.symm hb)).trans ((Heap.get?_update_other _ _ (Ne.symm hb)).trans e)
 have hDL:D≠s.heap.objs.size:=Nat.ne_of_lt hDs
 have hIL:H.objs.size≠s.heap.objs.size:=by rw [hs1];exact Nat.succ_ne_self _
 have hDI:D≠H.objs.size:=by rw [hs1];exact Nat.ne_of_lt (Nat.lt_succ_of_lt hDs)
 have W:=walks_set (prog:=prog) (w:=w) (A:=A.in1) (es:=es) (ep:=ep) (t:=t) hh hDI x hn hp hled
 refine wpAny_pure ⟨plainId_quiet PySem.F.plain_extend_loop _,codeAny_extend_loopS W (by rw [sizeLine_eq];lia) _ (by simp only [List.mem_cons,List.not_mem_nil,or_false,not_or];exact ⟨Ne.symm hIL,Ne.symm hDL⟩) _ es.size 0 _ _ _ rfl (Nat.zero_le _)
  ⟨oth _ _ hDL ho2,?_⟩ hS₃ (ItemsOf.nil _) fun s' acc' c' hm' hS' hacc=>?_⟩
 ·refine oth _ _ hIL ?_
  have:slotI w t 0=0:=by unfold slotI;split <;> simp
  rw [this]
  exact hI2
 show wpAny _ A (load s.heap.objs.size>>=_) _ _ s'
 refine wpAny_bind (wpAny_load hS' ?_)
 have hl:(walkOf w D ep es).size=es.size:=by
  have:=(walk_perm (w:=w) (D:=D) (ep:=ep) (es:=es)).length_eq
  rwa [Array.length_toList,Array.length_toList] at this
 have eacc:acc'.toList=(walkOf w D ep es).toList.map (·.2):=by
  apply List.ext_getElem?
  intro j
  rw [List.getElem?_map,Array.getElem?_toList,Array.getElem?_toList]
  by_cases q:j<acc'.size
  ·rw [hacc.2 j acc'[j] (Array.getElem?_eq_getElem q),Array.getElem?_eq_getElem q]
  ·rw [Array.getElem?_eq_none (by lia),Array.getElem?_eq_none (by have:=hacc.1;lia)]
   rfl
 obtain ⟨h',g',d',tk',os'⟩:=s'
 have e1:g'=s.gens:=hm'.gens
 have e2:d'=s.drawn:=hm'.drawn
 have e3:os'=s.os:=hm'.os
 subst e1;subst e2;subst e3
 show wpAny _ _ (pure acc'.toList) _ _ _
 rw [eacc]
 refine wpAny_pure (h h' tk' fun b o e=>hm'.heap b o ?_ (oth b o (Nat.ne_of_lt (Heap.lt_size e)) (k2 b o e)))
 simp only [List.mem_cons,List.not_mem_nil,or_false,not_or]
 exact ⟨Nat.ne_of_lt (Heap.lt_size e),by rw [hs1];exact Nat.ne_of_lt (Nat.lt_succ_of_lt (Heap.lt_size e))⟩
end
end
section
variable {C:Cfg} {fa:Fn→Addr} {n:Nat} {nm:List (Str×NameKind)} {F:Fr} {top:Nat} {A:Around} {S:Nat→Prop} {p p':Pl} {st st':St} {a:PE} {e:PySem.Expr} {pos:Pos} {ps:List PE} {es:List PySem.Expr} {d d1 d2:AV} {v v1 v2:Value}
theorem sorted_post (z:¬ S 0) (x:Good C F st p) {vs:List Value} {rs qs:List (List Int)} (rr:Reps C p (rs.map rowAV) vs) (h64:rs.length<64) (hne:∀ r∈rs,r≠[])
  (hc:∀ (B:Around) (R:List Value→Shared→Prop),B.handled=A.handled→(∀ h' tk,Kp p.h h'→R vs { p.s with heap:=h',toks:=tk })→wp C B (collect v) R p.s) (hp:rs.Perm qs) :
  wp C A (call (.builtin "sorted") [v]) (Out C F S p st (RV C (.lst ((sortRows qs).map rowAV)))) p.s :=
 sorted_rows (own:=p.own) (la:=p.la) (rr.length.trans (List.length_map _)) rr h64 hne (fun B R hB k=>hc B R (hB.elim (fun q=>q▸rfl) fun q=>q.elim (fun q=>q▸rfl) fun q=>q▸rfl) k) fun D h' tk us hD keep pl hus rp =>
  sorted_unique (((sortRows_perm rs).trans hp).trans (sortRows_perm qs).symm) (sortRows_sorted rs) (sortRows_sorted qs) ▸
   .keeps z x keep ⟨_,_,rfl⟩ fun g=>⟨D,us,rfl,x.own_none hD,pl,Nat.le_trans (Nat.le_of_eq hus) (Nat.le_trans (Nat.le_of_lt h64) (by decide)),rp.step g.stp⟩
theorem rows_ne {rs:List (List Int)} (h:(rs.all fun r=>!r.isEmpty)=true):∀ r∈rs,r≠[]:=fun r hr q=>nb (q▸List.all_eq_true.mp h r hr:(![].isEmpty)=true)
theorem bi_sorted (z:¬ S 0) (x:Good C F st p) {l:List AV} {rs:List (List Int)} (r1:RepT C p d1 v1) (e:listOf st.lh d1=some l) (er:rowsOf l=some rs) (h64:rs.length<64) (hne:∀ r∈rs,r≠[]) :
  wp C A (call (.builtin "sorted") [v1]) (Out C F S p st (RV C (.lst ((sortRows rs).map rowAV)))) p.s :=
 (r1.list x e).elim fun a w=>w.elim fun vs w=>by
  obtain ⟨rfl,t,n,rr⟩:=w
  cases (reps_rows er rr).2.2
  exact sorted_post z x rr h64 hne (fun B R _ k=>collect_list t.isList (k _ p.s.toks fun b o q =>
   have hlt:b<p.h.objs.size:=Heap.lt_size q
   (Heap.get?_update_ne _ _ _ _ (Nat.ne_of_lt hlt)).trans ((Heap.get?_push_ne _ _ _ (Nat.ne_of_lt hlt)).trans q)) (Nat.le_trans n cap_line)) (.refl _)
theorem idx_mem {rs:List (List Int)} {idx':List Nat} (hlt:∀ i∈idx',i<rs.length) (hall:∀ k<rs.length,rowI rs k∈idx'.map (rowI rs)) (r:List Int):r∈rs↔r∈idx'.map (rowI rs) :=
 have g:∀ i (h:i<rs.length),rowI rs i=rs[i]:=fun i h=>by unfold rowI;rw [List.getD_eq_getElem?_getD,List.getElem?_eq_getElem h];rfl
 ⟨fun hm=>(List.mem_iff_getElem.mp hm).elim fun i k=>k.elim fun hi q=>(g i hi).trans q▸hall i hi,fun hm=>(List.mem_map.mp hm).elim fun i k=>k.2▸(g i (hlt i k.1)).symm▸List.getElem_mem _⟩
theorem bi_sortedSet (z:¬ S 0) (hh:A.handled=none) (hu:A.units+16<cLine) (x:Good C F st p) {l:List AV} {rs:List (List Int)} (r1:RepT C p d1 v1) (e:listOf st.lh d1=some l) (er:rowsOf l=some rs) (h64:(dedup rs).length<64) (hne:∀ r∈rs,r≠[]) :
  wp C A (call (.type "set") [v1]) (fun w s1=>wp C A (call (.builtin "sorted") [w]) (Out C F S p st (RV C (.lst ((sortRows (dedup rs)).map rowAV)))) s1) p.s :=
 (r1.list x e).elim fun a w=>w.elim fun vs w=>by
 obtain ⟨rfl,tt,n,rr⟩:=w
 cases (reps_rows er rr).2.2
 have hl:vs.length=rs.length:=rr.length.trans (List.length_map _)
 refine set_list hh hu tt.isList (J:=RowSet C.prog C.w rs vs) rowSet_new (row_adds hl (fun i hi=>(rep_row (reps_at rr hi)).elim fun b k=>k.elim fun us k=>⟨b,k.1,rowKey_of k.2.1 k.2.2⟩) h64) fun h' tk o g ⟨es,ep,t,m,oc,idx,ho,y⟩ keep=>?_
 subst ho
 rw [show (List.toArray vs).size=rs.length from hl] at y
 have n1:Now C F S p st ⟨p.own,p.la,{ p.s with heap:=h',toks:=tk }⟩:=.keeps z x keep ⟨_,_,rfl⟩
 obtain ⟨idx',q,ew⟩:=perm_map ((walk_perm (w:=C.w) (D:=p.h.objs.size) (ep:=ep) (es:=es)).trans y.perm)
 have hlt:∀ i∈idx',i<rs.length:=fun i hi=>y.lt i (q.mem_iff.mp hi)
 have hmem:=idx_mem hlt fun k hk=>(q.map (rowI rs)).mem_iff.mpr (y.all k hk)
 have hperm:(idx'.map (rowI rs)).Perm (dedup rs):=dedup_perm hmem ((q.map (rowI rs)).nodup_iff.mpr y.nodup)
 refine (sorted_post (qs:=dedup rs) (rs:=idx'.map (rowI rs)) (vs:=idx'.map fun i=>vs.getD i Value.none) z n1.good ((reps_pick rr idx' hlt).step n1.go.stp _ _) (hperm.length_eq.symm▸h64) (fun r hr'=>hne r ((hmem r).mpr hr')) (fun B R hB k=>?_) hperm).after n1
 refine collect_set (s:={ p.s with heap:=h',toks:=tk }) (hB.trans hh) g y.tab (Nat.le_of_mul_le_mul_right (Nat.le_trans (Nat.le_of_lt y.room) (Nat.mul_le_mul_left _ (by decide))) (by decide:0<5)) y.plain y.led fun h2 tk2 k2=>?_
 rw [show (walkOf C.w p.h.objs.size ep es).toList.map (·.2)=idx'.map fun i=>vs.getD i Value.none by rw [ew,List.map_map];rfl]
 exact k h2 tk2 k2
theorem bi_lenSet (z:¬ S 0) (hh:A.handled=none) (hu:A.units+16<cLine) (x:Good C F st p) {l:List AV} {cs:List Nat} (r1:RepT C p d1 v1) (e:listOf st.lh d1=some l) (er:strsOf l=some cs) (hsm:cs.length<1000) :
  wp C A (call (.type "set") [v1]) (fun w s1=>wp C A (call (.builtin "len") [w]) (Out C F S p st (RV C (.int (dedup cs).length))) s1) p.s :=
 (r1.list x e).elim fun a w=>w.elim fun vs w=>by
 obtain ⟨rfl,tt,n,rr⟩:=w
 obtain ⟨hl,hv⟩:=strs_at er rr
 refine set_list hh hu tt.isList (J:=StrSet C cs) ⟨fun _=>false,setObjOf_fresh _,fun k=>⟨fun q=>nb q,fun q=>q.elim fun _ q=>absurd q.1 List.not_mem_nil⟩⟩ (str_adds hv hl hsm) fun h' tk o g ⟨S',so,hS⟩ keep=>?_
 have n1:Now C F S p st ⟨p.own,p.la,{ p.s with heap:=h',toks:=tk }⟩:=.keeps z x keep ⟨_,_,rfl⟩
 obtain ⟨hex,es,ep,t,hd,_,_,hn,hf⟩:=so
 have hsz:es.size=(dedup cs).length:=by rw [hn,← dedup_rev cs,show (List.toArray vs).size=cs.length from hl,List.take_length]
 exact PySem.call_len_set (s:={ p.s with heap:=h',toks:=tk }) g hex hd hf (hsz.symm▸Int.lt_trans (Int.ofNat_lt.mpr (Nat.lt_of_le_of_lt (dedup_le cs) hsm)) (by decide:((1000:Nat):Int)<2 ^ 63)) (hsz.symm▸(Out.int z n1.good).after n1)
noncomputable def biName:Bi→Str
 | .int=>"int" | .len=>"len" | .sorted=>"sorted" | .list=>"list" | .tuple=>"tuple" | .sum=>"sum" | .max=>"max" | .sortedSet=>"sorted" | .lenSet=>"len"
noncomputable def biVal:Bi→Value
 | .int=>.type "int" | .len=>.builtin "len" | .sorted=>.builtin "sorted" | .list=>.type "list" | .tuple=>.type "tuple" | .sum=>.builtin "sum" | .max=>.builtin "max" | .sortedSet=>.builtin "sorted" | .lenSet=>.builtin "len"
noncomputable def onSet:Bi→Bool
 | .sortedSet=>true
 | .lenSet=>true
 | _=>false
theorem bi_mem (b:Bi):(biName b,biVal b)∈biNames:=by
 cases b <;> exact List.mem_iff_getElem?.mpr (by first | exact ⟨0,rfl⟩ | exact ⟨1,rfl⟩ | exact ⟨2,rfl⟩ | exact ⟨3,rfl⟩ | exact ⟨4,rfl⟩ | exact ⟨5,rfl⟩ | exact ⟨6,rfl⟩)
theorem one_is {β:Type} {ds:List AV} {vs:List Value} {f:AV→Option β} {r:β} {P:List Value→Prop} (k:RepTs C p ds vs) (h:one ds f=some r) (g:∀ d v,RepT C p d v→f d=some r→P [v]):P vs:=match ds,h,k with
 | [],h,_=>nn h
 | [d],h,k=>k.elim fun v k=>k.elim fun us k=>(k.1.trans (congrArg (v::·) (k.2.2:us=[]))).symm▸g d v k.2.1 h
 | _::_::_,h,_=>nn h
theorem two_is {β:Type} {ds:List AV} {vs:List Value} {f:AV→AV→Option β} {r:β} {P:List Value→Prop} (k:RepTs C p ds vs) (h:two ds f=some r) (g:∀ d v d' v',RepT C p d v→RepT C p d' v'→f d d'=some r→P [v,v']):P vs:=match ds,h,k with
 | [],h,_=>nn h
 | [_],h,_=>nn h
 | [d,d'],h,k=>k.elim fun v k=>k.elim fun us k=>k.2.2.elim fun v' q=>q.elim fun us' q=>(k.1.trans (congrArg (v::·) (q.1.trans (congrArg (v'::·) (q.2.2:us'=[]))))).symm▸g d v d' v' k.2.1 q.2.1 h
 | _::_::_::_,h,_=>nn h
theorem AOk.room (x:AOk n A):A.units+16<cLine:=Nat.lt_of_le_of_lt (Nat.add_le_add (Nat.le_add_right _ _) (by decide)) x.units
theorem op_bi (ok:F.Ok top) (ha:AOk n A) (x:Good C F st p) {ds:List AV} {vs:List Value} (r:RepTs C p ds vs):∀ {b:Bi},onSet b=false→biV st.lh b ds=some d→wp C A (call (biVal b) vs) (Out C F (SE F top) p st (RV C d)) p.s
 | .int,_,e=>one_is (P:=fun vs=>wp C A (call (.type "int") vs) (Out C F (SE F top) p st (RV C d)) p.s) r e fun d1 v r e=>omap_is e fun i hi e=>e▸(r.int hi).elim fun t q=>q▸PySem.call_int_int (.val ok.e0 x ⟨t,rfl⟩)
 | .len,_,e=>one_is (P:=fun vs=>wp C A (call (.builtin "len") vs) (Out C F (SE F top) p st (RV C d)) p.s) r e fun d1 v r e=>elim_is e (fun _ e=>omap_is e fun l hl e=>e▸bi_len_lst ok.e0 x (r.list x hl)) fun l hl e=>Option.some.inj e▸bi_len_tup ok.e0 x (r.tup hl)
 | .sorted,_,e=>one_is (P:=fun vs=>wp C A (call (.builtin "sorted") vs) (Out C F (SE F top) p st (RV C d)) p.s) r e fun d1 v r e=>obind_is e fun l hl e=>obind_is e fun rs hr e=>cond_is e fun hc e=>Option.some.inj e▸bi_sorted ok.e0 x r hl hr (Nat.le_of_ble_eq_true (and_is hc).1) (rows_ne (and_is hc).2)
 | .list,_,e=>one_is (P:=fun vs=>wp C A (call (.type "list") vs) (Out C F (SE F top) p st (RV C d)) p.s) r e fun d1 v r e=>omap_is e fun l hl e=>e▸bi_list ok.e0 x (r.tup hl)
 | .tuple,_,e=>one_is (P:=fun vs=>wp C A (call (.type "tuple") vs) (Out C F (SE F top) p st (RV C d)) p.s) r e fun d1 v r e=>omap_is e fun l hl e=>e▸bi_tuple ok.e0 x (r.list x hl)
 | .sum,_,e=>one_is (P:=fun vs=>wp C A (call (.builtin "sum") vs) (Out C F (SE F top) p st (RV C d)) p.s) r e fun d1 v r e=>obind_is e fun l hl e=>omap_is e fun ns hn e=>e▸bi_sum ok.e0 ha.handled x (r.list x hl) hn
 | .max,_,e=>two_is (P:=fun vs=>wp C A (call (.builtin "max") vs) (Out C F (SE F top) p st (RV C d)) p.s) r e fun d1 v d2 w r1 r2 e=>obind_is e fun i hi e=>obind_is e fun j hj e=>Option.some.inj e▸(r1.int hi).elim fun t q=>(r2.int hj).elim fun u q'=>q▸q'▸bi_max ok.e0 ha.handled x
 | .sortedSet,h,_=>nb h.symm
 | .lenSet,h,_=>nb h.symm
theorem e_bi (co:COk C fa) {b:Bi} {np:Pos} (hb:onSet b=false) (h:All C n nm ps es) (hne:es≠[]) (hg:nm.lookup (biName b)=some .globalImplicit):EOk C n nm (.bi b ps) (.Call (.Name (biName b) np) es [] pos):=fun F top A st d st' p cx ev x =>
 bnd_is ev fun ds st1 ev1 ev=>ret1_is (Q:=fun d st'=>wp C A (eval (.Call (.Name (biName b) np) es [] pos) F.env) (Out C F (SE F top) p st' (RV C d)) p.s) ev fun d e =>
  call_bi co h hne cx x (bi_mem b) hg ev1 fun vs p1 n1 r1=>(op_bi cx.ok cx.a n1.good r1 hb e).after n1
theorem set_inner (co:COk C fa) {np2 pos2:Pos} (h:Both C n nm a e) (hg2:nm.lookup ("set":Str)=some .globalImplicit) {ds:List AV} (cx:Cx n nm F top A) (ev:evalL C.cells (callP C.cells bodies n) [a] st=some (ds,st')) (x:Good C F st p) {Q:Value→Shared→Prop}
  (k:∀ v d1 p1,ds=[d1]→Now C F (SE F top) p st' p1→RepT C p1 d1 v→wp C A (call (.type "set") [v]) Q p1.s):wp C A (eval (.Call (.Name "set" np2) [e] [] pos2) F.env) Q p.s :=
 bnd_is ev fun d1 st1 ev1 ev=>call_bi co (all_one h) (List.cons_ne_nil _ _) cx x (y:=("set",.type "set")) (List.mem_iff_getElem?.mpr ⟨7,rfl⟩) hg2 (bnd_at ev1) fun vs p1 n1 r1=>r1.elim fun v r=>r.elim fun us r=>(r.1.trans (congrArg (v::·) (r.2.2:us=[]))).symm ▸
  ret_is (Q:=fun ds st'=>(∀ v d1 p1,ds=[d1]→Now C F (SE F top) p st' p1→RepT C p1 d1 v→wp C A (call (.type "set") [v]) Q p1.s)→wp C A (call (.type "set") [v]) Q p1.s) ev (fun k=>k v d1 p1 rfl n1 r.2.1) k
theorem set_outer (co:COk C fa) {b:Bi} {i:String} (hi:biVal b=.builtin i) {np:Pos} {x1:PySem.Expr} (hs:noStar x1=true) (hg:nm.lookup (biName b)=some .globalImplicit) (cx:Cx n nm F top A) (x:Good C F st p) {Q:Value→Shared→Prop}
  (h:wp C A (eval x1 F.env) (fun w s1=>wp C A (call (biVal b) [w]) Q s1) p.s):wp C A (eval (.Call (.Name (biName b) np) [x1] [] pos) F.env) Q p.s :=
 wpAny_Call_ofName (bi_name co cx x (bi_mem b) hg (call_any (.inl ⟨i,hi⟩) (fun e he=>List.mem_singleton.mp he▸hs) (List.cons_ne_nil _ _) (wpAny_items_cons (Q:=fun vs s1=>wp C A (call (biVal b) vs) Q s1) (h.mono fun w s1 h1=>wpAny_items_nil h1) (star_plain hs))))
theorem e_biSet (co:COk C fa) {np np2 pos2:Pos} (h:Both C n nm a e) (hg2:nm.lookup ("set":Str)=some .globalImplicit):∀ {b:Bi},onSet b=true→nm.lookup (biName b)=some .globalImplicit →
  EOk C n nm (.bi b [a]) (.Call (.Name (biName b) np) [.Call (.Name "set" np2) [e] [] pos2] [] pos)
 | .sortedSet,_,hg=>fun F top A st d st' p cx ev x=>bnd_is ev fun ds st1 ev1 ev=>ret1_is (Q:=fun d st'=>wp C A (eval (.Call (.Name "sorted" np) [.Call (.Name "set" np2) [e] [] pos2] [] pos) F.env) (Out C F (SE F top) p st' (RV C d)) p.s) ev fun d e =>
   set_outer co (b:=.sortedSet) rfl rfl hg cx x (set_inner co h hg2 cx ev1 x fun v d1 p1 q n1 r1=>by
    cases q
    exact obind_is e fun l hl e=>obind_is e fun rs hr e=>cond_is e fun hc e=>Option.some.inj e▸(bi_sortedSet cx.ok.e0 cx.a.handled cx.a.room n1.good r1 hl hr (Nat.le_of_ble_eq_true (and_is hc).1) (rows_ne (and_is (and_is hc).2).1)).mono fun w s1 h=>h.after n1)
 | .lenSet,_,hg=>fun F top A st d st' p cx ev x=>bnd_is ev fun ds st1 ev1 ev=>ret1_is (Q:=fun d st'=>wp C A (eval (.Call (.Name "len" np) [.Call (.Name "set" np2) [e] [] pos2] [] pos) F.env) (Out C F (SE F top) p st' (RV C d)) p.s) ev fun d e =>
   set_outer co (b:=.lenSet) rfl rfl hg cx x (set_inner co h hg2 cx ev1 x fun v d1 p1 q n1 r1=>by
    cases q
    exact obind_is e fun l hl e=>obind_is e fun cs hr e=>cond_is e fun hc e=>Option.some.inj e▸(bi_lenSet cx.ok.e0 cx.a.handled cx.a.room n1.good r1 hl hr (Nat.le_of_ble_eq_true hc)).mono fun w s1 h=>h.after n1)
 | .int,h,_ | .len,h,_ | .sorted,h,_ | .list,h,_ | .tuple,h,_ | .sum,h,_ | .max,h,_=>nb h
end
noncomputable def noIt:PE→Bool
 | .range _=>false
 | .zip _ _=>false
 | _=>true
noncomputable def isG (nm:List (Str×NameKind)) (id x:Str):Bool:=decide (id=x)&&decide (nm.lookup x=some .globalImplicit)
theorem eq_is {α:Type} [DecidableEq α] {a b:α} {P:α→Prop} (h:decide (a=b)=true) (k:P b):P a:=(of_decide_eq_true h).symm▸k
theorem isG_is {nm:List (Str×NameKind)} {id x:Str} {P:Str→Prop} (h:isG nm id x=true) (k:nm.lookup x=some .globalImplicit→P x):P id:=eq_is (and_is h).1 (k (of_decide_eq_true (and_is h).2))
noncomputable def is1 {α:Type} (l:List α) (f:α→Bool):Bool:=match l with
 | [x]=>f x
 | _=>false
theorem is1_is {α:Type} {l:List α} {f:α→Bool} {P:List α→Prop} (h:is1 l f=true) (k:∀ x,f x=true→P [x]):P l:=match l,h with
 | [],h=>nb h
 | [x],h=>k x h
 | _::_::_,h=>nb h
noncomputable def is2 {α:Type} (l:List α) (f:α→α→Bool):Bool:=match l with
 | x::l=>is1 l (f x)
 | _=>false
theorem is2_is {α:Type} {l:List α} {f:α→α→Bool} {P:List α→Prop} (h:is2 l f=true) (k:∀ x y,f x y=true→P [x,y]):P l:=match l,h with
 | [],h=>nb h
 | x::l,h=>is1_is (l:=l) (P:=fun l=>P (x::l)) h (k x)
noncomputable def is3 {α:Type} (l:List α) (f:α→α→α→Bool):Bool:=match l with
 | x::l=>is2 l (f x)
 | _=>false
theorem is3_is {α:Type} {l:List α} {f:α→α→α→Bool} {P:List α→Prop} (h:is3 l f=true) (k:∀ x y z,f x y z=true→P [x,y,z]):P l:=match l,h with
 | [],h=>nb h
 | x::l,h=>is2_is (l:=l) (P:=fun l=>P (x::l)) h (k x)
theorem nil_is {α:Type} {l:List α} {P:List α→Prop} (h:l.isEmpty=true) (k:P []):P l:=(List.isEmpty_iff.mp h).symm▸k
theorem ne_nil {α:Type} {l:List α} (h:(!l.isEmpty)=true):l≠[]:=fun q=>nb (q▸h:(!([]:List α).isEmpty)=true)
noncomputable def isSm {α:Type} (o:Option α) (f:α→Bool):Bool:=o.elim false f
theorem isSm_is {α:Type} {o:Option α} {f:α→Bool} {P:Option α→Prop} (h:isSm o f=true) (k:∀ x,f x=true→P (some x)):P o:=match o,h with
 | none,h=>nb h
 | some x,h=>k x h
theorem no_is {α:Type} {o:Option α} {P:Option α→Prop} (h:o.isNone=true) (k:P none):P o:=match o,h with
 | none,h=>k
 | some x,h=>nb h
noncomputable def vName (p:PE) (nm:List (Str×NameKind)) (e:PySem.Expr):Bool:=match p with
 | .var x=>chkName nm true x e
 | _=>false
theorem vName_is {nm:List (Str×NameKind)} {e:PySem.Expr} {P:PE→PySem.Expr→Prop} (k:∀ x pos,NameOk nm true x→P (.var x) (.Name (vname x) pos)):∀ {p:PE},vName p nm e=true→P p e:=by
 intro p
 cases p <;> first | exact fun h=>nb h | exact fun h=>chkName_is (e:=e) h fun hx pos=>k _ pos hx
theorem noneE_is {P:PE→Prop} (k:P .none_):∀ {p:PE},isNoneE p=true→P p:=by
 intro p
 cases p <;> first | exact fun h=>nb h | exact fun _=>k
abbrev KK:=List (Str×NameKind)→PySem.Expr→Bool
noncomputable def vk (p:PE) (k:KK):KK:=fun nm e=>noIt p&&k nm e
noncomputable def kPart (p:PE) (k:KK) (nm:List (Str×NameKind)) (e:Option PySem.Expr):Bool:=e.elim (isNoneE p) (vk p k nm)
noncomputable def kCond (p:PE) (k:KK) (nm:List (Str×NameKind)) (ifs:List PySem.Expr):Bool:=cond ifs.isEmpty (isNoneE p) (is1 ifs fun ce=>!isNoneE p&&vk p k nm ce)
mutual
noncomputable def chkE:PE→KK
 | .var x=>fun nm e=>chkName nm true x e
 | .glb k=>fun nm e=>isName e fun id _=>Nat.blt k 5&&isG nm id (gname k)
 | .none_=>fun _ e=>isConstant e fun c _ _=>decide (c=.none)
 | .bool b=>fun _ e=>isConstant e fun c _ _=>decide (c=.bool b)
 | .int i=>fun _ e=>isConstant e fun c _ _=>decide (c=.int i)
 | .str c=>fun _ e=>isText e c
 | .tup es=>fun nm e=>isTuple e fun xs _ _=>Nat.ble es.length 1000&&chkEs es nm xs
 | .lst es=>fun nm e=>isList e fun xs _=>Nat.ble es.length 1000&&chkEs es nm xs
 | .dict ks vs=>fun nm e=>isDict e fun keys values _=>cond (ks.isEmpty&&vs.isEmpty) (keys.isEmpty&&values.isEmpty) (!keys.isEmpty&&(chkKeys ks keys&&(Nat.beq keys.length values.length&&(Nat.ble keys.length 15&&(decide (ks.map txt).Nodup&&chkEs vs nm values)))))
 | .dictW b k v=>fun nm e=>isDict e fun keys values _=>is2 keys fun k0 k1=>is2 values fun be ve=>k0.isNone&&isSm k1 fun ke=>vName b nm be&&(vName k nm ke&&vName v nm ve)
 | .bin op a b=>fun nm e=>isBinOp e fun l o r _=>decide (o=opOf op)&&(vk a (chkE a) nm l&&vk b (chkE b) nm r)
 | .neg a=>fun nm e=>isUnaryOp e fun o x _=>decide (o=.USub)&&vk a (chkE a) nm x
 | .not a=>fun nm e=>isUnaryOp e fun o x _=>decide (o=.Not)&&vk a (chkE a) nm x
 | .boolop isAnd es=>fun nm e=>isBoolOp e fun op xs _=>decide (op=boolOpOf isAnd)&&(!xs.isEmpty&&chkEs es nm xs)
 | .cmp op a b=>fun nm e=>isCompare e fun l os rs _=>is1 os fun o=>is1 rs fun r=>decide (o=copOf op)&&(!behindInMarks (copOf op) r&&((!decide (op=.isNone)||isNoneE b)&&(vk a (chkE a) nm l&&vk b (chkE b) nm r)))
 | .call f args=>fun nm e=>isCall e fun fn xs kws _=>isName fn fun id _=>kws.isEmpty&&(isF f&&(isG nm id (fname f)&&(!xs.isEmpty&&chkEs args nm xs)))
 | .meth f o args=>fun nm e=>isCall e fun fn xs kws pos=>isAttribute fn fun ov name apos=>kws.isEmpty&&(isM f&&(decide (name=fname f)&&(plainBase ov&&((apos.endLine == pos.line)&&(!xs.isEmpty&&(Nat.blt xs.length 30&&(vk o (chkE o) nm ov&&chkEs args nm xs)))))))
 | .bi b args=>fun nm e=>isCall e fun fn xs kws _=>isName fn fun id _=>kws.isEmpty&&(isG nm id (biName b)&&cond (onSet b)
   (is1 xs fun x=>isCall x fun fn ys kws _=>isName fn fun id _=>kws.isEmpty&&(isG nm id "set"&&(Nat.beq args.length 1&&chkEs args nm ys))) (!xs.isEmpty&&chkEs args nm xs))
 | .getD o k d=>fun nm e=>isCall e fun fn xs kws pos=>isAttribute fn fun ov name apos=>is2 xs fun ke de=>kws.isEmpty&&(decide (name = "get")&&(plainBase ov&&((apos.endLine == pos.line)&&(noStar ke&&(noStar de&&(vk o (chkE o) nm ov&&(vk k (chkE k) nm ke&&vk d (chkE d) nm de)))))))
 | .attr o a=>fun nm e=>isAttribute e fun ov attr _=>decide (attr=aname a)&&(plainBase ov&&vk o (chkE o) nm ov)
 | .sub o i=>fun nm e=>isSubscript e fun v s _=>notSlice s&&(vk o (chkE o) nm v&&vk i (chkE i) nm s)
 | .slice o lo hi=>fun nm e=>isSubscript e fun v s _=>isSlice s fun elo ehi st _=>st.isNone&&(vk o (chkE o) nm v&&(kPart lo (chkE lo) nm elo&&kPart hi (chkE hi) nm ehi))
 | .rev o=>fun nm e=>isSubscript e fun v s _=>isSlice s fun a b c _=>a.isNone&&(b.isNone&&isSm c fun u=>isUnaryOp u fun op x _=>isConstant x fun c _ _=>decide (op=.USub)&&(decide (c=.int 1)&&vk o (chkE o) nm v))
 | .ite c a b=>fun nm e=>isIfExp e fun t x y _=>vk c (chkE c) nm t&&(vk a (chkE a) nm x&&vk b (chkE b) nm y)
 | .comp elt t it cond=>fun nm e=>isListComp e fun x gens scope _=>is1 gens fun g=>decide (g.is_async=0)&&(decide (scope.kind=.function)&&(chkScope nm scope.names (tgtVars t)&&(chkT (relN scope.names) false t g.target&&(foldOk g.iter&&(chkE it nm g.iter &&
   (kCond cond (chkE cond) (relN scope.names) g.ifs&&vk elt (chkE elt) (relN scope.names) x))))))
 | .comp2 elt t1 it1 t2 it2 cond=>fun nm e=>isListComp e fun x gens scope _=>is2 gens fun g g2=>decide (g.is_async=0)&&(decide (g2.is_async=0)&&(g.ifs.isEmpty&&(decide (scope.kind=.function)&&(chkScope nm scope.names (tgtVars t1++tgtVars t2)&&(chkT (relN scope.names) false t1 g.target &&
   (chkT (relN scope.names) false t2 g2.target&&(foldOk g.iter&&(foldOk g2.iter&&(chkE it1 nm g.iter&&(chkE it2 (relN scope.names) g2.iter&&(kCond cond (chkE cond) (relN scope.names) g2.ifs&&vk elt (chkE elt) (relN scope.names) x)))))))))))
 | .fstr a b=>fun nm e=>isJoinedStr e fun xs _=>is3 xs fun u v w=>isFormattedValue u fun x c1 f1 _=>isFormattedValue w fun z c2 f2 _=>isConstant v fun cc _ _=>decide (cc=.str "'")&&(decide (c1 = -1)&&(decide (c2 = -1)&&(f1.isNone&&(f2.isNone&&(vk a (chkE a) nm x&&vk b (chkE b) nm z)))))
 | .range a=>fun nm e=>isCall e fun fn xs kws _=>isName fn fun id _=>is1 xs fun x=>kws.isEmpty&&(isG nm id "range"&&(noStar x&&vk a (chkE a) nm x))
 | .zip a b=>fun nm e=>isCall e fun fn xs kws _=>isName fn fun id _=>is2 xs fun x y=>kws.isEmpty&&(isG nm id "zip"&&(noStar x&&(noStar y&&(vk a (chkE a) nm x&&vk b (chkE b) nm y))))
 | .bad=>fun _ _=>true
noncomputable def chkEs:List PE→List (Str×NameKind)→List PySem.Expr→Bool
 | []=>fun _ es=>es.isEmpty
 | p::ps=>fun nm es=>match es with
  | e::es=>noStar e&&(vk p (chkE p) nm e&&chkEs ps nm es)
  | []=>false
end
section
variable {C:Cfg} {fa:Fn→Addr} {n:Nat} {nm:List (Str×NameKind)} {p a b:PE} {ps:List PE} {e:PySem.Expr} {es:List PySem.Expr}
def Sound (C:Cfg) (n:Nat) (nm:List (Str×NameKind)) (p:PE) (e:PySem.Expr):Prop:=IOk C n nm p e∧(noIt p=true→EOk C n nm p e∧TOk C n nm p e)
theorem sound_value (h:EOk C n nm p e) (he:∀ (env:Env) (whole:Sem Value),isTrue e env whole=(do let v ← whole;standAt e.pos;holding [v] (truthy v))):Sound C n nm p e:=⟨i_plain h,fun _=>⟨h,t_value h he⟩⟩
theorem sound_both (h:EOk C n nm p e) (ht:TOk C n nm p e):Sound C n nm p e:=⟨i_plain h,fun _=>⟨h,ht⟩⟩
def Snd (C:Cfg) (n:Nat) (p:PE) (k:KK):Prop:=∀ nm e,k nm e=true→Sound C n nm p e
def Snds (C:Cfg) (n:Nat) (ps:List PE) (k:List (Str×NameKind)→List PySem.Expr→Bool):Prop:=∀ nm es,k nm es=true→All C n nm ps es
variable {k k':KK}
theorem Snd.ev (h:Snd C n p k) (q:vk p k nm e=true):EOk C n nm p e:=((h nm e (and_is q).2).2 (and_is q).1).1
theorem Snd.tv (h:Snd C n p k) (q:vk p k nm e=true):TOk C n nm p e:=((h nm e (and_is q).2).2 (and_is q).1).2
theorem Snd.both (h:Snd C n p k) (s:noStar e=true) (q:vk p k nm e=true):Both C n nm p e:=⟨s,h.ev q,h.tv q⟩
theorem le_cap {k:Nat} (h:Nat.ble k 1000=true):k≤cap:=Nat.le_trans (Nat.le_of_ble_eq_true h) (by decide)
theorem s_part (h:Snd C n p k):∀ {o:Option PySem.Expr},kPart p k nm o=true→POk C n nm p o
 | none,q=>noneE_is (P:=fun p=>POk C n nm p none) part_none q
 | some x,q=>part_some (h.ev q)
theorem s_cond (h:Snd C n p k) {ifs:List PySem.Expr} (q:kCond p k nm ifs=true):CondOk C n nm p ifs:=cond_or q (fun h1 q=>.inl ⟨List.isEmpty_iff.mp h1,q⟩) fun _ q=>is1_is (P:=CondOk C n nm p) q fun ce q =>
 .inr ⟨Bool.not_eq_true' _ |>.mp (and_is q).1,ce,rfl,h.tv (and_is q).2⟩
theorem one_of (h:All C n nm ps es) (hl:Nat.beq ps.length 1=true) {P:List PE→List PySem.Expr→Prop} (k:∀ a e,Both C n nm a e→P [a] [e]):P ps es:=match ps,h,hl with
 | [],_,hl=>nb hl
 | [a],h,_=>h.elim fun e h=>h.elim fun us h=>(h.1.trans (congrArg (e::·) (h.2.2:us=[]))).symm▸k a e h.2.1
 | _::_::_,_,hl=>nb hl
section
variable {ks kvs:List (Str×NameKind)→List PySem.Expr→Bool}
theorem s_var {x:Nat}:Snd C n (.var x) (chkE (.var x)):=fun nm e h=>chkName_is h fun hx pos=>sound_value (e_var hx) fun _ _=>rfl
theorem s_glb (co:COk C fa) {i:Nat}:Snd C n (.glb i) (chkE (.glb i)):=fun nm e h=>isName_is h fun id pos h=>isG_is (P:=fun id=>Sound C n nm (.glb i) (.Name id pos)) (and_is h).2 fun hg=>sound_value (e_glb co (Nat.le_of_ble_eq_true (and_is h).1) hg) fun _ _=>rfl
theorem s_none:Snd C n .none_ (chkE .none_):=fun nm e h=>isConstant_is h fun c i pos h=>eq_is (P:=fun c=>Sound C n nm (.none_) (.Constant c i pos)) h (sound_value e_none fun _ _=>rfl)
theorem s_bool {b:Bool}:Snd C n (.bool b) (chkE (.bool b)):=fun nm e h=>isConstant_is h fun c i pos h=>eq_is (P:=fun c=>Sound C n nm (.bool b) (.Constant c i pos)) h (sound_value e_bool fun _ _=>rfl)
theorem s_int {j:Int}:Snd C n (.int j) (chkE (.int j)):=fun nm e h=>isConstant_is h fun c i pos h=>eq_is (P:=fun c=>Sound C n nm (.int j) (.Constant c i pos)) h (sound_value e_int fun _ _=>rfl)
theorem s_str {c:Nat}:Snd C n (.str c) (chkE (.str c)):=fun nm e h=>isText_is h fun hc i pos=>sound_value (e_str hc) fun _ _=>rfl
theorem s_tup (hs:Snds C n ps (chkEs ps)):Snd C n (.tup ps) (chkE (.tup ps)):=fun nm e h=>isTuple_is h fun xs i pos h=>sound_value (e_tup (hs nm xs (and_is h).2) (le_cap (and_is h).1)) fun _ _=>rfl
theorem s_lst (hs:Snds C n ps (chkEs ps)):Snd C n (.lst ps) (chkE (.lst ps)):=fun nm e h=>isList_is h fun xs pos h=>sound_value (e_lst (hs nm xs (and_is h).2) (le_cap (and_is h).1)) fun _ _=>rfl
theorem s_dict (co:COk C fa) {ks:List Nat} (hs:Snds C n ps (chkEs ps)):Snd C n (.dict ks ps) (chkE (.dict ks ps)):=fun nm e h=>isDict_is h fun keys values pos h=>cond_or h
 (fun h1 hh=>by
  cases List.isEmpty_iff.mp (and_is h1).1
  cases List.isEmpty_iff.mp (and_is h1).2
  cases List.isEmpty_iff.mp (and_is hh).1
  cases List.isEmpty_iff.mp (and_is hh).2
  exact sound_value (e_dict0 co) fun _ _=>rfl)
 fun _ h=>have h2:=and_is (and_is h).2;have h3:=and_is h2.2;have h4:=and_is h3.2;have h5:=and_is h4.2
  sound_value (e_dict co (hs nm values h5.2) h2.1 (Nat.eq_of_beq_eq_true h3.1) (ne_nil (and_is h).1) (Nat.le_of_ble_eq_true h4.1) (of_decide_eq_true h5.1)) fun _ _=>rfl
theorem s_dictW (co:COk C fa) {b k v:PE}:Snd C n (.dictW b k v) (chkE (.dictW b k v)):=fun nm e h=>isDict_is h fun keys values pos h=>is2_is (P:=fun keys=>Sound C n nm (.dictW b k v) (.Dict keys values pos)) h fun k0 k1 h=>is2_is (P:=fun values=>Sound C n nm (.dictW b k v) (.Dict [k0,k1] values pos)) h fun be ve h =>
 no_is (P:=fun k0=>Sound C n nm (.dictW b k v) (.Dict [k0,k1] [be,ve] pos)) (and_is h).1 (isSm_is (P:=fun k1=>Sound C n nm (.dictW b k v) (.Dict [none,k1] [be,ve] pos)) (and_is h).2 fun ke h=>vName_is (P:=fun b be=>Sound C n nm (.dictW b k v) (.Dict [none,some ke] [be,ve] pos)) (fun xb pb hb=>vName_is (P:=fun k ke=>Sound C n nm (.dictW (.var xb) k v) (.Dict [none,some ke] [.Name (vname xb) pb,ve] pos)) (fun xk pk hk =>
  vName_is (P:=fun v ve=>Sound C n nm (.dictW (.var xb) (.var xk) v) (.Dict [none,some (.Name (vname xk) pk)] [.Name (vname xb) pb,ve] pos)) (fun xv pv hv=>sound_value (e_dictW co hb hk hv) fun _ _=>rfl) (and_is (and_is h).2).2) (and_is (and_is h).2).1) (and_is h).1)
theorem s_bin {op:BOp} (ha:Snd C n a (chkE a)) (hb:Snd C n b (chkE b)):Snd C n (.bin op a b) (chkE (.bin op a b)):=fun nm e h=>isBinOp_is h fun l o r pos h=>eq_is (P:=fun o=>Sound C n nm (.bin op a b) (.BinOp l o r pos)) (and_is h).1 (sound_value (e_bin (ha.ev (and_is (and_is h).2).1) (hb.ev (and_is (and_is h).2).2)) fun _ _=>rfl)
theorem s_neg (ha:Snd C n a (chkE a)):Snd C n (.neg a) (chkE (.neg a)):=fun nm e h=>isUnaryOp_is h fun o x pos h=>eq_is (P:=fun o=>Sound C n nm (.neg a) (.UnaryOp o x pos)) (and_is h).1 (sound_value (e_neg (ha.ev (and_is h).2)) fun _ _=>rfl)
theorem s_not (ha:Snd C n a (chkE a)):Snd C n (.not a) (chkE (.not a)):=fun nm e h=>isUnaryOp_is h fun o x pos h=>eq_is (P:=fun o=>Sound C n nm (.not a) (.UnaryOp o x pos)) (and_is h).1 (sound_both (e_not (ha.ev (and_is h).2)) (t_not (ha.tv (and_is h).2)))
theorem s_boolop {c:Bool} (hs:Snds C n ps (chkEs ps)):Snd C n (.boolop c ps) (chkE (.boolop c ps)):=fun nm e h=>isBoolOp_is h fun o xs pos h=>eq_is (P:=fun o=>Sound C n nm (.boolop c ps) (.BoolOp o xs pos)) (and_is h).1 (sound_both (e_boolop (hs nm xs (and_is (and_is h).2).2) (ne_nil (and_is (and_is h).2).1)) (t_boolop (hs nm xs (and_is (and_is h).2).2)))
theorem s_cmp {op:COp} (ha:Snd C n a (chkE a)) (hb:Snd C n b (chkE b)):Snd C n (.cmp op a b) (chkE (.cmp op a b)):=fun nm e h=>isCompare_is h fun l os rs pos h=>is1_is (P:=fun os=>Sound C n nm (.cmp op a b) (.Compare l os rs pos)) h fun o h=>is1_is (P:=fun rs=>Sound C n nm (.cmp op a b) (.Compare l [o] rs pos)) h fun r h=>eq_is (P:=fun o=>Sound C n nm (.cmp op a b) (.Compare l [o] [r] pos)) (and_is h).1
 (have h2:=and_is (and_is h).2;have h3:=and_is h2.2;have hm:=(Bool.not_eq_true' _).mp h2.1;have ea:=ha.ev (and_is h3.2).1;have eb:=hb.ev (and_is h3.2).2
   have hn:op=.isNone→b=.none_:=fun q=>(Bool.or_eq_true_iff.mp h3.1).elim (fun w=>absurd q (of_decide_eq_false ((Bool.not_eq_true' _).mp w))) fun w=>noneE_is (P:=fun b=>b=.none_) rfl w
   sound_both (e_cmp hm hn ea eb) (t_cmp hm hn ea eb))
theorem s_call (co:COk C fa) (hc:CallOk C fa n) {f:Fn} (hs:Snds C n ps (chkEs ps)):Snd C n (.call f ps) (chkE (.call f ps)):=fun nm e h=>isCall_is h fun fn xs kws pos h=>isName_is (P:=fun fn=>Sound C n nm (.call f ps) (.Call fn xs kws pos)) h fun id np h =>
 have h1:=and_is h;have h2:=and_is h1.2;have h3:=and_is h2.2;have h4:=and_is h3.2
 nil_is (P:=fun kws=>Sound C n nm (.call f ps) (.Call (.Name id np) xs kws pos)) h1.1 (isG_is (P:=fun id=>Sound C n nm (.call f ps) (.Call (.Name id np) xs [] pos)) h3.1 fun hg=>sound_value (e_call co hc (hs nm xs h4.2) (ne_nil h4.1) h2.1 hg) fun _ _=>rfl)
theorem s_meth (co:COk C fa) (hc:CallOk C fa n) {f:Fn} (ha:Snd C n a (chkE a)) (hs:Snds C n ps (chkEs ps)):Snd C n (.meth f a ps) (chkE (.meth f a ps)):=fun nm e h=>isCall_is h fun fn xs kws pos h=>isAttribute_is (P:=fun fn=>Sound C n nm (.meth f a ps) (.Call fn xs kws pos)) h fun ov name apos h =>
 have h1:=and_is h;have h2:=and_is h1.2;have h3:=and_is h2.2;have h4:=and_is h3.2;have h5:=and_is h4.2;have h6:=and_is h5.2;have h7:=and_is h6.2;have h8:=and_is h7.2
 nil_is (P:=fun kws=>Sound C n nm (.meth f a ps) (.Call (.Attribute ov name apos) xs kws pos)) h1.1 (eq_is (P:=fun name=>Sound C n nm (.meth f a ps) (.Call (.Attribute ov name apos) xs [] pos)) h3.1 (sound_value (e_meth co hc (hs nm xs h8.2) (ne_nil h6.1) (Nat.le_of_ble_eq_true h7.1) h2.1 h4.1 h5.1 (ha.ev h8.1)) fun _ _=>rfl))
theorem s_bi (co:COk C fa) {i:Bi} (hs:Snds C n ps (chkEs ps)):Snd C n (.bi i ps) (chkE (.bi i ps)):=fun nm e h=>isCall_is h fun fn xs kws pos h=>isName_is (P:=fun fn=>Sound C n nm (.bi i ps) (.Call fn xs kws pos)) h fun id np h =>
 have h1:=and_is h;have h2:=and_is h1.2
 nil_is (P:=fun kws=>Sound C n nm (.bi i ps) (.Call (.Name id np) xs kws pos)) h1.1 (isG_is (P:=fun id=>Sound C n nm (.bi i ps) (.Call (.Name id np) xs [] pos)) h2.1 fun hg=>cond_or h2.2 (fun hb h=>is1_is (P:=fun xs=>Sound C n nm (.bi i ps) (.Call (.Name (biName i) np) xs [] pos)) h fun x h=>isCall_is (P:=fun x=>Sound C n nm (.bi i ps) (.Call (.Name (biName i) np) [x] [] pos)) h fun fn ys kws2 pos2 h=>isName_is (P:=fun fn=>Sound C n nm (.bi i ps) (.Call (.Name (biName i) np) [.Call fn ys kws2 pos2] [] pos)) h fun id2 np2 h =>
  have h3:=and_is h;have h4:=and_is h3.2;have h5:=and_is h4.2
  nil_is (P:=fun kws2=>Sound C n nm (.bi i ps) (.Call (.Name (biName i) np) [.Call (.Name id2 np2) ys kws2 pos2] [] pos)) h3.1 (isG_is (P:=fun id2=>Sound C n nm (.bi i ps) (.Call (.Name (biName i) np) [.Call (.Name id2 np2) ys [] pos2] [] pos)) h4.1 fun hg2=>one_of (hs nm ys h5.2) h5.1 (P:=fun ps ys=>Sound C n nm (.bi i ps) (.Call (.Name (biName i) np) [.Call (.Name "set" np2) ys [] pos2] [] pos)) fun a e hbo=>sound_value (e_biSet co hbo hg2 hb hg) fun _ _=>rfl))
  fun hb h=>sound_value (e_bi co hb (hs nm xs (and_is h).2) (ne_nil (and_is h).1) hg) fun _ _=>rfl)
theorem s_getD (co:COk C fa) {k d:PE} (ha:Snd C n a (chkE a)) (hk:Snd C n k (chkE k)) (hd:Snd C n d (chkE d)):Snd C n (.getD a k d) (chkE (.getD a k d)):=fun nm e h=>isCall_is h fun fn xs kws pos h=>isAttribute_is (P:=fun fn=>Sound C n nm (.getD a k d) (.Call fn xs kws pos)) h fun ov name apos h=>is2_is (P:=fun xs=>Sound C n nm (.getD a k d) (.Call (.Attribute ov name apos) xs kws pos)) h fun ke de h =>
 have h1:=and_is h;have h2:=and_is h1.2;have h3:=and_is h2.2;have h4:=and_is h3.2;have h5:=and_is h4.2;have h6:=and_is h5.2;have h7:=and_is h6.2;have h8:=and_is h7.2
 nil_is (P:=fun kws=>Sound C n nm (.getD a k d) (.Call (.Attribute ov name apos) [ke,de] kws pos)) h1.1 (eq_is (P:=fun name=>Sound C n nm (.getD a k d) (.Call (.Attribute ov name apos) [ke,de] [] pos)) h2.1 (sound_value (e_getD h3.1 h4.1 h5.1 h6.1 (ha.ev h7.1) (hk.ev h8.1) (hd.ev h8.2)) fun _ _=>rfl))
theorem s_attr (co:COk C fa) {i:Nat} (ha:Snd C n a (chkE a)):Snd C n (.attr a i) (chkE (.attr a i)):=fun nm e h=>isAttribute_is h fun ov attr pos h=>eq_is (P:=fun attr=>Sound C n nm (.attr a i) (.Attribute ov attr pos)) (and_is h).1 (sound_value (e_attr co (and_is (and_is h).2).1 (ha.ev (and_is (and_is h).2).2)) fun _ _=>rfl)
theorem s_sub (ha:Snd C n a (chkE a)) (hb:Snd C n b (chkE b)):Snd C n (.sub a b) (chkE (.sub a b)):=fun nm e h=>isSubscript_is h fun v s pos h=>sound_value (e_sub (and_is h).1 (ha.ev (and_is (and_is h).2).1) (hb.ev (and_is (and_is h).2).2)) fun _ _=>rfl
theorem s_slice {lo hi:PE} (ha:Snd C n a (chkE a)) (hl:Snd C n lo (chkE lo)) (hh:Snd C n hi (chkE hi)):Snd C n (.slice a lo hi) (chkE (.slice a lo hi)):=fun nm e h=>isSubscript_is h fun v s pos h=>isSlice_is (P:=fun s=>Sound C n nm (.slice a lo hi) (.Subscript v s pos)) h fun elo ehi st sp h =>
 have h1:=and_is h;have h2:=and_is h1.2;have h3:=and_is h2.2
 no_is (P:=fun st=>Sound C n nm (.slice a lo hi) (.Subscript v (.Slice elo ehi st sp) pos)) h1.1 (sound_value (e_slice (ha.ev h2.1) (s_part hl h3.1) (s_part hh h3.2)) fun _ _=>rfl)
theorem s_rev (ha:Snd C n a (chkE a)):Snd C n (.rev a) (chkE (.rev a)):=fun nm e h=>isSubscript_is h fun v s pos h=>isSlice_is (P:=fun s=>Sound C n nm (.rev a) (.Subscript v s pos)) h fun x y z sp h =>
 no_is (P:=fun x=>Sound C n nm (.rev a) (.Subscript v (.Slice x y z sp) pos)) (and_is h).1 (no_is (P:=fun y=>Sound C n nm (.rev a) (.Subscript v (.Slice none y z sp) pos)) (and_is (and_is h).2).1 (isSm_is (P:=fun z=>Sound C n nm (.rev a) (.Subscript v (.Slice none none z sp) pos)) (and_is (and_is h).2).2 fun u h=>isUnaryOp_is (P:=fun u=>Sound C n nm (.rev a) (.Subscript v (.Slice none none (some u) sp) pos)) h fun op w p1 h=>isConstant_is (P:=fun w=>Sound C n nm (.rev a) (.Subscript v (.Slice none none (some (.UnaryOp op w p1)) sp) pos)) h fun c i p2 h =>
  eq_is (P:=fun op=>Sound C n nm (.rev a) (.Subscript v (.Slice none none (some (.UnaryOp op (.Constant c i p2) p1)) sp) pos)) (and_is h).1 (eq_is (P:=fun c=>Sound C n nm (.rev a) (.Subscript v (.Slice none none (some (.UnaryOp .USub (.Constant c i p2) p1)) sp) pos)) (and_is (and_is h).2).1 (sound_value (e_rev (ha.ev (and_is (and_is h).2).2)) fun _ _=>rfl))))
theorem s_iteE {c:PE} (hc:Snd C n c (chkE c)) (ha:Snd C n a (chkE a)) (hb:Snd C n b (chkE b)):Snd C n (.ite c a b) (chkE (.ite c a b)):=fun nm e h=>isIfExp_is h fun t x y pos h =>
 have h2:=and_is (and_is h).2
 sound_both (e_ite (hc.tv (and_is h).1) (ha.ev h2.1) (hb.ev h2.2)) (t_ite (hc.tv (and_is h).1) (ha.tv h2.1) (hb.tv h2.2))
def IsC1 (C:Cfg) (n:Nat) (elt:PE) (t:Tgt) (it cond:PE) (nm:List (Str×NameKind)) (e:PySem.Expr):Prop:=∃ x tg iter ifs scope pos,e=.ListComp x [⟨tg,iter,ifs,0⟩] scope pos∧Comp1 C n nm elt t it cond x tg iter ifs scope
def IsC2 (C:Cfg) (n:Nat) (elt:PE) (t1:Tgt) (it1:PE) (t2:Tgt) (it2 cond:PE) (nm:List (Str×NameKind)) (e:PySem.Expr):Prop:=∃ x tg iter tg2 iter2 ifs scope pos,e=.ListComp x [⟨tg,iter,[],0⟩,⟨tg2,iter2,ifs,0⟩] scope pos∧Comp2 C n nm elt t1 it1 t2 it2 cond x tg iter tg2 iter2 ifs scope
variable {elt it it1 it2 cnd:PE} {t t1 t2:Tgt}
theorem s_c1 (hi:Snd C n it (chkE it)) (hc:Snd C n cnd (chkE cnd)) (he:Snd C n elt (chkE elt)) (h:chkE (.comp elt t it cnd) nm e=true):IsC1 C n elt t it cnd nm e :=
 isListComp_is (P:=IsC1 C n elt t it cnd nm) h fun x gens scope pos h=>is1_is (P:=fun gens=>IsC1 C n elt t it cnd nm (.ListComp x gens scope pos)) h fun ⟨tg,iter,ifs,k⟩ h =>
 have h1:=and_is h;have h2:=and_is h1.2;have h3:=and_is h2.2;have h4:=and_is h3.2;have h5:=and_is h4.2;have h6:=and_is h5.2;have h7:=and_is h6.2
 eq_is (P:=fun k=>IsC1 C n elt t it cnd nm (.ListComp x [⟨tg,iter,ifs,k⟩] scope pos)) h1.1 ⟨x,tg,iter,ifs,scope,pos,rfl,of_decide_eq_true h2.1,h3.1,h4.1,h5.1,(hi nm iter h6.1).1,s_cond hc h7.1,he.ev h7.2⟩
theorem s_c2 (hi:Snd C n it1 (chkE it1)) (hi2:Snd C n it2 (chkE it2)) (hc:Snd C n cnd (chkE cnd)) (he:Snd C n elt (chkE elt)) (h:chkE (.comp2 elt t1 it1 t2 it2 cnd) nm e=true):IsC2 C n elt t1 it1 t2 it2 cnd nm e :=
 isListComp_is (P:=IsC2 C n elt t1 it1 t2 it2 cnd nm) h fun x gens scope pos h=>is2_is (P:=fun gens=>IsC2 C n elt t1 it1 t2 it2 cnd nm (.ListComp x gens scope pos)) h fun ⟨tg,iter,ifs0,k⟩ ⟨tg2,iter2,ifs,k2⟩ h =>
 have h1:=and_is h;have h1':=and_is h1.2;have h1'':=and_is h1'.2;have h2:=and_is h1''.2;have h3:=and_is h2.2;have h4:=and_is h3.2;have h4':=and_is h4.2;have h5:=and_is h4'.2;have h5':=and_is h5.2;have h6:=and_is h5'.2;have h6':=and_is h6.2;have h7:=and_is h6'.2
 by
 cases (of_decide_eq_true h1.1:k=0)
 cases (of_decide_eq_true h1'.1:k2=0)
 cases (List.isEmpty_iff.mp h1''.1:ifs0=[])
 exact ⟨x,tg,iter,tg2,iter2,ifs,scope,pos,rfl,of_decide_eq_true h2.1,h3.1,h4.1,h4'.1,h5.1,h5'.1,(hi nm iter h6.1).1,(hi2 _ iter2 h6'.1).1,s_cond hc h7.1,he.ev h7.2⟩
theorem s_comp (hi:Snd C n it (chkE it)) (hc:Snd C n cnd (chkE cnd)) (he:Snd C n elt (chkE elt)):Snd C n (.comp elt t it cnd) (chkE (.comp elt t it cnd)):=fun nm e h =>
 (s_c1 hi hc he h).elim fun x k=>k.elim fun tg k=>k.elim fun iter k=>k.elim fun ifs k=>k.elim fun scope k=>k.elim fun pos k=>k.1.symm▸sound_value (e_comp k.2) fun _ _=>rfl
theorem s_comp2 (hi:Snd C n it1 (chkE it1)) (hi2:Snd C n it2 (chkE it2)) (hc:Snd C n cnd (chkE cnd)) (he:Snd C n elt (chkE elt)):Snd C n (.comp2 elt t1 it1 t2 it2 cnd) (chkE (.comp2 elt t1 it1 t2 it2 cnd)):=fun nm e h =>
 (s_c2 hi hi2 hc he h).elim fun x k=>k.elim fun tg k=>k.elim fun iter k=>k.elim fun tg2 k=>k.elim fun iter2 k=>k.elim fun ifs k=>k.elim fun scope k=>k.elim fun pos k=>k.1.symm▸sound_value (e_comp2 k.2) fun _ _=>rfl
theorem s_fstr (ha:Snd C n a (chkE a)) (hb:Snd C n b (chkE b)):Snd C n (.fstr a b) (chkE (.fstr a b)):=fun nm e h=>isJoinedStr_is h fun xs pos h=>is3_is (P:=fun xs=>Sound C n nm (.fstr a b) (.JoinedStr xs pos)) h fun u v w h=>isFormattedValue_is (P:=fun u=>Sound C n nm (.fstr a b) (.JoinedStr [u,v,w] pos)) h fun x c1 f1 p1 h=>isFormattedValue_is (P:=fun w=>Sound C n nm (.fstr a b) (.JoinedStr [.FormattedValue x c1 f1 p1,v,w] pos)) h fun z c2 f2 p2 h=>isConstant_is (P:=fun v=>Sound C n nm (.fstr a b) (.JoinedStr [.FormattedValue x c1 f1 p1,v,.FormattedValue z c2 f2 p2] pos)) h fun cc i p3 h =>
 have h1:=and_is h;have h2:=and_is h1.2;have h3:=and_is h2.2;have h4:=and_is h3.2;have h5:=and_is h4.2;have h6:=and_is h5.2
 by
  cases of_decide_eq_true h1.1
  cases of_decide_eq_true h2.1
  cases of_decide_eq_true h3.1
  cases Option.isNone_iff_eq_none.mp h4.1
  cases Option.isNone_iff_eq_none.mp h5.1
  exact sound_value (e_fstr (ha.ev h6.1) (hb.ev h6.2)) fun _ _=>rfl
theorem s_range (co:COk C fa) (ha:Snd C n a (chkE a)):Snd C n (.range a) (chkE (.range a)):=fun nm e h=>isCall_is h fun fn xs kws pos h=>isName_is (P:=fun fn=>Sound C n nm (.range a) (.Call fn xs kws pos)) h fun id np h=>is1_is (P:=fun xs=>Sound C n nm (.range a) (.Call (.Name id np) xs kws pos)) h fun x h =>
 have h1:=and_is h;have h2:=and_is h1.2;have h3:=and_is h2.2
 nil_is (P:=fun kws=>Sound C n nm (.range a) (.Call (.Name id np) [x] kws pos)) h1.1 (isG_is (P:=fun id=>Sound C n nm (.range a) (.Call (.Name id np) [x] [] pos)) h2.1 fun hg=>⟨i_range co hg (ha.both h3.1 h3.2),fun q=>nb q⟩)
theorem s_zip (co:COk C fa) (ha:Snd C n a (chkE a)) (hb:Snd C n b (chkE b)):Snd C n (.zip a b) (chkE (.zip a b)):=fun nm e h=>isCall_is h fun fn xs kws pos h=>isName_is (P:=fun fn=>Sound C n nm (.zip a b) (.Call fn xs kws pos)) h fun id np h=>is2_is (P:=fun xs=>Sound C n nm (.zip a b) (.Call (.Name id np) xs kws pos)) h fun x y h =>
 have h1:=and_is h;have h2:=and_is h1.2;have h3:=and_is h2.2;have h4:=and_is h3.2;have h5:=and_is h4.2
 nil_is (P:=fun kws=>Sound C n nm (.zip a b) (.Call (.Name id np) [x,y] kws pos)) h1.1 (isG_is (P:=fun id=>Sound C n nm (.zip a b) (.Call (.Name id np) [x,y] [] pos)) h2.1 fun hg=>⟨i_zip co hg (ha.both h3.1 h5.1) (hb.both h4.1 h5.2),fun q=>nb q⟩)
theorem s_bad:Snd C n .bad (chkE .bad):=fun nm e h=>⟨fun F top A st d st' p xs cx ev=>nn ev,fun _=>⟨fun F top A st d st' p cx ev=>nn ev,fun F top A st d st' p cx ev=>nn ev⟩⟩
theorem s_nil:Snds C n [] (chkEs []):=fun nm es h=>List.isEmpty_iff.mp h
theorem s_cons (h:Snd C n p (chkE p)) (hs:Snds C n ps (chkEs ps)):Snds C n (p::ps) (chkEs (p::ps)):=fun nm es q=>match es,q with
 | [],q=>nb q
 | e::es,q=>⟨e,es,rfl,h.both (and_is q).1 (and_is (and_is q).2).1,hs nm es (and_is (and_is q).2).2⟩
theorem chkE_ok (co:COk C fa) (hc:CallOk C fa n) (p:PE):Snd C n p (chkE p) :=
 PE.rec (motive_1:=fun p=>Snd C n p (chkE p)) (motive_2:=fun ps=>Snds C n ps (chkEs ps)) (fun _=>s_var) (fun _=>s_glb co) s_none (fun _=>s_bool) (fun _=>s_int) (fun _=>s_str) (fun _ h=>s_tup h) (fun _ h=>s_lst h) (fun _ _ h=>s_dict co h) (fun _ _ _ _ _ _=>s_dictW co)
  (fun _ _ _ h h'=>s_bin h h') (fun _ h=>s_neg h) (fun _ h=>s_not h) (fun _ _ h=>s_boolop h) (fun _ _ _ h h'=>s_cmp h h') (fun _ _ h=>s_call co hc h) (fun _ _ _ h h'=>s_meth co hc h h') (fun _ _ h=>s_bi co h) (fun _ _ _ h h' h''=>s_getD co h h' h'') (fun _ _ h=>s_attr co h)
  (fun _ _ h h'=>s_sub h h') (fun _ _ _ h h' h''=>s_slice h h' h'') (fun _ h=>s_rev h) (fun _ _ _ h h' h''=>s_iteE h h' h'') (fun _ _ _ _ he hi hc=>s_comp hi hc he) (fun _ _ _ _ _ _ he hi hi2 hc=>s_comp2 hi hi2 hc he) (fun _ _ h h'=>s_fstr h h') (fun _ h=>s_range co h) (fun _ _ h h'=>s_zip co h h') s_bad
  s_nil (fun _ _ h h'=>s_cons h h') p
theorem chkEs_ok (co:COk C fa) (hc:CallOk C fa n):∀ (ps:List PE),Snds C n ps (chkEs ps)
 | []=>s_nil
 | p::ps=>s_cons (chkE_ok co hc p) (chkEs_ok co hc ps)
end
end
section
variable (C:Cfg) (n:Nat) (nm:List (Str×NameKind))
def EvS {α β:Type} (R:β→Pl→α→Prop) (t:Env→Sem α) (o:St→Option (β×St)):Prop:=∀ (F:Fr) (top:Nat) (A:Around) (st:St) (b:β) (st':St) (p:Pl),Cx n nm F top A→o st=some (b,st')→Good C F st p→wp C A (t F.env) (Out C F (SS F top) p st' (R b)) p.s
noncomputable abbrev exS (p:PS):St→Option (Fl×St):=execS C.cells (callP C.cells bodies n) p
noncomputable abbrev exSs (ps:List PS):St→Option (Fl×St):=execSs C.cells (callP C.cells bodies n) ps
def SOk (p:PS) (q:Stmt):Prop:=EvS C n nm (RetR C) (exec q) (exS C n p)
def SsOk (ps:List PS) (qs:List Stmt):Prop:=EvS C n nm (RetR C) (execs qs) (exSs C n ps)
end
theorem nxt_is {o:Option St} {fl:Fl} {st':St} {P:Fl→Prop} (h:nxt o=some (fl,st')) (k:o=some st'→P .next):P fl:=match o,h with
 | none,h=>nn h
 | some s,h=>(Prod.mk.inj (Option.some.inj h)).1▸k (congrArg some (Prod.mk.inj (Option.some.inj h)).2)
noncomputable def noComp (e:PySem.Expr):Bool:=!(Nat.ble 8 e.ctorIdx&&Nat.ble e.ctorIdx 10)
noncomputable def noTup (e:PySem.Expr):Bool:=!Nat.beq e.ctorIdx 25
section
variable {C:Cfg} {fa:Fn→Addr} {n:Nat} {nm:List (Str×NameKind)} {F:Fr} {top:Nat} {A:Around} {S:Nat→Prop} {st st' st1 st2:St} {p p':Pl} {a b:PE} {e e1 e2:PySem.Expr} {pos:Pos} {d:AV} {v:Value} {c:Bool} {t:Tgt} {tg:PySem.Expr}
theorem Now.ss (x:Now C F (SE F top) p st p') (ok:F.Ok top):Now C F (SS F top) p st p':=x.mono ok.s0 fun _=>.inl
theorem ss_nil:SsOk C n nm [] []:=fun F top A st fl st' p cx ev x=>ret_is (Q:=fun fl st'=>wp C A (execs [] F.env) (Out C F (SS F top) p st' (RetR C fl)) p.s) ev (wpAny_execs_nil (.here cx.ok.s0 x rfl))
theorem ss_cons {ps:List PS} {qs:List Stmt} {p:PS} {q:Stmt} (h1:SOk C n nm p q) (h2:SsOk C n nm ps qs):SsOk C n nm (p::ps) (q::qs):=fun F top A st fl st' p cx ev x =>
 bnd_is ev fun f1 st1 ev1 ev=>wpAny_execs_cons (seq (h1 F top A st f1 st1 p cx ev1 x) fun f p1 n1 hf=>match f1,hf,ev with
  | .next,hf,ev=>(show f=.next from hf).symm▸(h2 F top A st1 fl st' p1 cx ev n1.good).after n1
  | .ret d,hf,ev=>hf.elim fun v k=>k.1.symm▸ret_is (Q:=fun fl st'=>Out C F (SS F top) p st' (RetR C fl) (.ret v) p1.s) ev ⟨_,_,n1,v,rfl,k.2⟩)
theorem swaps_no {t ve:PySem.Expr} {line:Nat} {env:Env}:noComp ve=true→swapsWith ve (some t) line env=pure false:=by cases ve <;> first | exact fun _=>rfl | exact fun h=>nb h
theorem swapped_tup {ts:List PySem.Expr} {k:Nat} {p:Pos} {ve:PySem.Expr} {env:Env}:noTup ve=true→swappedStores [.Tuple ts k p] ve env=pure none:=by cases ve <;> first | exact fun _=>rfl | exact fun h=>nb h
theorem swapped_none {ve:PySem.Expr} {env:Env} (hT:chkT nm c t tg=true) (h:(noTup ve||isV t)=true):swappedStores [tg] ve env=pure none:=match t,hT,h with
 | .v x,hT,_=>chkName_is (P:=fun tg=>swappedStores [tg] ve env=pure none) hT fun _ _=>rfl
 | .t xs,hT,h=>isTuple_is (P:=fun tg=>swappedStores [tg] ve env=pure none) hT fun _ _ _ _=>swapped_tup ((Bool.or_eq_true_iff.mp h).resolve_right fun h=>nb h)
theorem assignEach_one {env:Env} (h:chkT nm c t tg=true):(assignEach [tg] env).map (·.2)=[assign tg env]:=match t,h with
 | .v x,h=>chkName_is (P:=fun tg=>(assignEach [tg] env).map (·.2)=[assign tg env]) h fun _ _=>rfl
 | .t xs,h=>isTuple_is (P:=fun tg=>(assignEach [tg] env).map (·.2)=[assign tg env]) h fun _ _ _ _=>rfl
theorem asg_any {ve:PySem.Expr} {Q:Flow→Shared→Prop} {s:Shared} {b:Bool} (hT:chkT nm true t tg=true) (hw:(noTup ve||isV t)=true) (hb:swapsWithSole [tg] ve pos.line F.env=pure b)
  (h0:b=false→wp C A (eval ve F.env) (fun v s=>wp C A (assign tg F.env v) (fun _ s=>Q .next s) s) s) (h1:b=true→wp C A (evalThenUse ve F.env fun v=>assign tg F.env v) (fun _ s=>Q .next s) s) :
  wp C A (exec (.Assign [tg] ve pos) F.env) Q s:=match b,hb,h0,h1 with
 | false,hb,h0,_=>wpAny_Assign_stores ((assignEach_one (env:=F.env) hT).symm▸h0 rfl) hb (swapped_none hT hw)
 | true,hb,_,h1=>by
  show wp C A (exec (.Assign [tg] ve pos) F.env) Q s
  rw [exec_Assign_arm]
  refine wpAny_bind (wpAny_standAt ?_)
  rw [hb]
  refine wpAny_bind (wpAny_pure ?_)
  rw [if_pos rfl,assignEach_one hT]
  exact wpAny_bind ((h1 rfl).mono fun _ s h=>wpAny_pure h)
theorem tgt_ss (cx:Cx n nm F top A) (hT:chkT nm true t tg=true) (x:Good C F st p) (r:RepT C p d v) (b:bindT t d st=some st'):wp C A (assign tg F.env v) (Out C F (SS F top) p st' TT) p.s :=
 tgt_ok cx.ok cx.a.handled cx.nm x cx.ok.s0 (.inr (.inl rfl)) (fun _=>.inr (.inr rfl)) hT r b
theorem tgt_next (cx:Cx n nm F top A) (hT:chkT nm true t tg=true) {v:Value} (n1:Now C F (SE F top) p st1 p') (r:RepT C p' d v) (b:bindT t d st1=some st'):wp C A (assign tg F.env v) (fun _ s=>Out C F (SS F top) p st' (RetR C .next) .next s) p'.s :=
 seq (tgt_ss cx hT n1.good r b) fun _ p2 n2 _=>⟨_,_,(n1.ss cx.ok).trans n2,rfl⟩
theorem s_asg (hT:chkT nm true t tg=true) (hc:noComp e=true) (hw:(noTup e||isV t)=true) (h1:EOk C n nm a e):SOk C n nm (.asg t a) (.Assign [tg] e pos):=fun F top A st fl st' p cx ev x =>
 bnd_is (show bnd (evE C n a st) (fun v st=>nxt (bindT t v st))=some (fl,st') from ev) fun d st1 ev1 ev=>nxt_is (P:=fun fl=>wp C A (exec (.Assign [tg] e pos) F.env) (Out C F (SS F top) p st' (RetR C fl)) p.s) ev fun ev2 =>
  asg_any hT hw (swaps_no hc) (fun _=>seq (h1 F top A st d st1 p cx ev1 x) fun v p1 n1 r1=>tgt_next cx hT n1 r1 ev2) fun h=>nb h
theorem Fr.Ok.s2 (ok:F.Ok top):¬ SS F (top+2) (top+2):=or3 (or3 (fun e=>ok.t1 (e▸lt2 top)) (fun e=>Nat.not_lt.mpr ok.tl (e▸lt2 top)) (Nat.lt_irrefl _)) (fun e=>Nat.not_lt.mpr ok.tf (e▸lt2 top)) (fun e=>Nat.not_lt.mpr ok.tc (e▸lt2 top))
theorem made_stored {ys:List AV} {D L:Addr} {q:Pl} (cx:Cx n nm F top A) (hT:chkT nm true t tg=true) (m:Done C F top p st1 ys D L q) (b:bindT t (.lst ys) st1=some st2) :
  compPost C.M A F0 (some fun v=>assign tg F.env v) (fun _ s=>Out C F (SS F top) p st2 (RetR C .next) .next s) (.ref D) L (.ok .next) q.s :=
 seq (tgt_ss ⟨cx.ok.more 2,cx.nm,cx.a⟩ hT m.now.good m.rep.top b) fun _ q' n1 _=>(m.gone cx.ok cx.ok.s0 (fun _=>.inl) (fun _=>SS.up) cx.ok.s2 n1).elim fun mm k=>⟨mm,k.1,fun h' hs=>(k.2 h' hs).elim fun own w=>⟨own,_,w.1,rfl⟩⟩
theorem swaps_comp {gens:List Comprehension} {scope:Scope} {sp:Pos} {line:Nat} {env:Env} (hT:chkT nm c t tg=true):∃ b,swapsWithSole [tg] (.ListComp e gens scope sp) line env=pure b:=match t,hT with
 | .v x,hT=>chkName_is (P:=fun tg=>∃ b,swapsWithSole [tg] (.ListComp e gens scope sp) line env=pure b) hT fun _ _=>⟨_,rfl⟩
 | .t xs,hT=>isTuple_is (P:=fun tg=>∃ b,swapsWithSole [tg] (.ListComp e gens scope sp) line env=pure b) hT fun _ _ _ _=>⟨_,rfl⟩
theorem asg_comp {gens:List Comprehension} {scope:Scope} {sp:Pos} (hT:chkT nm true t tg=true) (cx:Cx n nm F top A) (h0:wp C A (eval (.ListComp e gens scope sp) F.env) (Out C F (SE F top) p st1 (RV C d)) p.s) (b:bindT t d st1=some st')
  (h1:wp C A (comprehension (.ListComp e gens scope sp) scope F.env (firstIterPos gens sp) (newList []) (firstAsync gens) (firstIter gens F.env) (some fun v=>assign tg F.env v)) (fun _ s=>Out C F (SS F top) p st' (RetR C .next) .next s) p.s) :
  wp C A (exec (.Assign [tg] (.ListComp e gens scope sp) pos) F.env) (Out C F (SS F top) p st' (RetR C .next)) p.s :=
 (swaps_comp (e:=e) (gens:=gens) (scope:=scope) (sp:=sp) (line:=pos.line) (env:=F.env) hT).elim fun c hc=>asg_any hT rfl hc (fun _=>seq h0 fun v p1 n1 r1=>tgt_next cx hT n1 r1 b) fun _=>by
  rw [arm_evalThenUse_ListComp]
  exact wpAny_bind (h1.mono fun _ s h=>wpAny_pure h)
theorem s_asg_comp {elt it cond:PE} {t':Tgt} {tg' iter:PySem.Expr} {ifs:List PySem.Expr} {scope:Scope} {sp:Pos} (hT:chkT nm true t tg=true) (X:Comp1 C n nm elt t' it cond e tg' iter ifs scope) :
  SOk C n nm (.asg t (.comp elt t' it cond)) (.Assign [tg] (.ListComp e [⟨tg',iter,ifs,0⟩] scope sp) pos):=fun F top A st fl st' p cx ev x =>
 bnd_is (show bnd (evE C n (.comp elt t' it cond) st) (fun v st=>nxt (bindT t v st))=some (fl,st') from ev) fun d st1 ev1 ev=>nxt_is (P:=fun fl=>wp C A (exec (.Assign [tg] (.ListComp e [⟨tg',iter,ifs,0⟩] scope sp) pos) F.env) (Out C F (SS F top) p st' (RetR C fl)) p.s) ev fun b=>asg_comp hT cx (e_comp X F top A st d st1 p cx ev1 x) b
  (bnd_is ev1 fun iv st1 e1 ev1=>obind_is ev1 fun xs e2 ev1=>bnd_is ev1 fun vs st2 e3 ev1=>cond_is ev1 fun hc ev1=>ret_is (Q:=fun d st1=>bindT t d st1=some st'→_) ev1 (fun b=>comp1_core X cx x e1 e2 e3 (and_is hc).1 (and_is hc).2 fun D L q m=>made_stored cx hT m b) b)
theorem s_asg_comp2 {elt it1 it2 cond:PE} {t1 t2:Tgt} {tg1 iter tg2 iter2:PySem.Expr} {ifs:List PySem.Expr} {scope:Scope} {sp:Pos} (hT:chkT nm true t tg=true) (X:Comp2 C n nm elt t1 it1 t2 it2 cond e tg1 iter tg2 iter2 ifs scope) :
  SOk C n nm (.asg t (.comp2 elt t1 it1 t2 it2 cond)) (.Assign [tg] (.ListComp e [⟨tg1,iter,[],0⟩,⟨tg2,iter2,ifs,0⟩] scope sp) pos):=fun F top A st fl st' p cx ev x =>
 bnd_is (show bnd (evE C n (.comp2 elt t1 it1 t2 it2 cond) st) (fun v st=>nxt (bindT t v st))=some (fl,st') from ev) fun d st1 ev1 ev=>nxt_is (P:=fun fl=>wp C A (exec (.Assign [tg] (.ListComp e [⟨tg1,iter,[],0⟩,⟨tg2,iter2,ifs,0⟩] scope sp) pos) F.env) (Out C F (SS F top) p st' (RetR C fl)) p.s) ev fun b=>asg_comp hT cx (e_comp2 X F top A st d st1 p cx ev1 x) b
  (bnd_is ev1 fun iv st1 e1 ev1=>obind_is ev1 fun xs e2 ev1=>bnd_is ev1 fun vs st2 e3 ev1=>cond_is ev1 fun hc ev1=>ret_is (Q:=fun d st1=>bindT t d st1=some st'→_) ev1 (fun b=>comp2_core X cx x e1 e2 e3 (and_is (and_is hc).1).1 (and_is (and_is hc).1).2 (and_is hc).2 fun D L q m=>made_stored cx hT m b) b)
theorem s_ret (h1:EOk C n nm a e):SOk C n nm (.ret a) (.Return (some e) pos):=fun F top A st fl st' p cx ev x =>
 bnd_is (show bnd (evE C n a st) (fun v st=>some (.ret v,st))=some (fl,st') from ev) fun d st1 ev1 ev=>ret_is (Q:=fun fl st'=>wp C A (exec (.Return (some e) pos) F.env) (Out C F (SS F top) p st' (RetR C fl)) p.s) ev (wpAny_Return_some (seq (h1 F top A st d st1 p cx ev1 x) fun v p1 n1 r1=>⟨_,_,n1.ss cx.ok,v,rfl,r1⟩))
theorem interactive_no (ok:F.Ok top):interactive F.env=false:=by unfold interactive;rw [ok.fn];rfl
theorem s_expr {f:PySem.Expr} {as:List PySem.Expr} {ks:List Keyword} {cp:Pos} (h1:EOk C n nm a (.Call f as ks cp)):SOk C n nm (.expr a) (.Expr (.Call f as ks cp) pos):=fun F top A st fl st' p cx ev x =>
 bnd_is (show bnd (evE C n a st) (fun _ st=>some (.next,st))=some (fl,st') from ev) fun d st1 ev1 ev=>ret_is (Q:=fun fl st'=>wp C A (exec (.Expr (.Call f as ks cp) pos) F.env) (Out C F (SS F top) p st' (RetR C fl)) p.s) ev (wpAny_Expr_any (seq (h1 F top A st d st1 p cx ev1 x) fun v p1 n1 r1=>⟨_,_,n1.ss cx.ok,rfl⟩) (interactive_no cx.ok) rfl)
theorem s_ite {x y:List PS} {qa qb:List Stmt} (h1:TOk C n nm a e) (h2:SsOk C n nm x qa) (h3:SsOk C n nm y qb):SOk C n nm (.ite a x y) (.If e qa qb pos):=fun F top A st fl st' p cx ev x =>
 wpAny_If (br_go h1 cx ev x (fun st1 p1 n1 ev=>(h2 F top A st1 fl st' p1 cx ev n1.good).after (n1.ss cx.ok)) fun st1 p1 n1 ev=>(h3 F top A st1 fl st' p1 cx ev n1.good).after (n1.ss cx.ok))
theorem next_is {α:Type} {f:Fl} {o:Option α} {r:α} {P:Prop} (h:nextV f o=some r) (k:f=.next→o=some r→P):P:=match f,h with
 | .next,h=>k rfl h
 | .ret _,h=>nn h
theorem s_tryf {y1 y:List PS} {qa qb:List Stmt} (hne:qb≠[]) (h1:SsOk C n nm y1 qa) (h2:SsOk C n nm y qb):SOk C n nm (.tryf y1 y) (.Try qa [] [] qb pos):=match qb,hne,h2 with
 | [],hne,_=>absurd rfl hne
 | q0::qs,_,h2=>fun F top A st fl st' p cx ev x=>bnd_is (show bnd (exSs C n y1 st) (fun f st=>bnd (exSs C n y st) fun f' st=>nextV f' (some (f,st)))=some (fl,st') from ev) fun f1 st1 ev1 ev=>bnd_is ev fun f2 st2 ev2 ev=>next_is ev fun hf2 ev=>ret_is (Q:=fun fl st'=>wp C A (exec (.Try qa [] [] (q0::qs) pos) F.env) (Out C F (SS F top) p st' (RetR C fl)) p.s) ev
  (wpAny_Try_finally (seqE (h1 F top A st f1 st1 p cx ev1 x) fun f p1 n1 hf =>
   have fin:∀ (Q':Flow→Shared→Prop) (E:Value→Shared→Prop),(∀ p2,Now C F (SS F top) p1 st2 p2→Q' .next p2.s)→wpAny C.M A (execs (q0::qs) F.env) Q' E p1.s:=fun Q' E k=>seqE (h2 F top A st1 f2 st2 p1 cx ev2 n1.good) fun g p2 n2 hg=>(hf2▸hg:RetR C .next p2 g)▸k p2 n2
   match f1,hf with
   | .next,hf=>(show f=.next from hf).symm▸wpAny_execs_nil (fin _ _ fun p2 n2=>⟨_,_,n1.trans n2,rfl⟩)
   | .ret d,hf=>hf.elim fun v k=>k.1.symm▸fin _ _ fun p2 n2=>⟨_,_,n1.trans n2,v,rfl,k.2.go n2.go⟩))
end
section
variable {C:Cfg} {fa:Fn→Addr} {n:Nat} {nm:List (Str×NameKind)} {F:Fr} {top:Nat} {A:Around} {S:Nat→Prop} {st st' st1 st2:St} {p p':Pl} {a b:PE} {e e1 e2:PySem.Expr} {pos:Pos} {d:AV} {v:Value} {c:Bool} {t:Tgt} {tg:PySem.Expr}
theorem swaps_sub {ve o i:PySem.Expr} {sp:Pos} {line:Nat} {env:Env}:swapsWith ve (some (.Subscript o i sp)) line env=pure false:=by cases ve <;> rfl
theorem swaps_attr {ve o:PySem.Expr} {x:Str} {sp:Pos} {line:Nat} {env:Env}:swapsWith ve (some (.Attribute o x sp)) line env=pure false:=by cases ve <;> rfl
theorem Now.s1 (x:Now C F (·=1) p st p') (ok:F.Ok top):Now C F (SS F top) p st p':=x.mono ok.s0 fun _ h=>.inl (.inl h)
theorem Now.sl (x:Now C F (·=F.kl) p st p') (ok:F.Ok top):Now C F (SS F top) p st p':=x.mono ok.s0 fun _ h=>.inl (.inr (.inl h))
theorem s_setItem {y k i:Nat} {sp np cp:Pos} (hy:NameOk nm true y) (hc:okc k=true) (h1:EOk C n nm a e):SOk C n nm (.setItem y k a) (.Assign [.Subscript (.Name (vname y) np) (.Constant (.str (txt k)) i cp) sp] e pos):=fun F top A st fl st' p cx ev x =>
 bnd_is (show bnd (evE C n a st) (fun v st=>bnd (keep1 v st) fun v st=>(dget st.ρ y).bind fun ov=>nxt (setItemV k v st ov))=some (fl,st') from ev) fun d st1 ev1 ev=>bnd_is ev fun d' st2 ev2 ev=>obind_is ev fun ov ho ev =>
  nxt_is (P:=fun fl=>wp C A (exec (.Assign [.Subscript (.Name (vname y) np) (.Constant (.str (txt k)) i cp) sp] e pos) F.env) (Out C F (SS F top) p st' (RetR C fl)) p.s) ev fun ev =>
   wpAny_Assign_Subscript (seq (h1 F top A st d st1 p cx ev1 x) fun v p1 n1 r1=>(keep1_ok cx.ok n1.good r1 ev2).elim fun own w=>have n2:=n1.trans w.1
    seq (name_ok cx.ok.e0 cx.ok cx.nm n2.good hy ho) fun o p3 n3 r3=>PySem.wpAny_Constant_str (
     have n4:=n3.trans (Now.toks (tk:=p3.s.toks+1) cx.ok.e0 n3.good)
     have n5:=(n2.trans n4).ss cx.ok
     have r4:=r3.go (Go.mono (Now.toks (S:=no) (tk:=p3.s.toks+1) id n3.good).go cx.ok.e0 fun _ h=>h.elim:Go (SE F top) p3 ⟨p3.own,p3.la,{ p3.s with toks:=p3.s.toks+1 }⟩)
     have rv:=w.2.step n4.go.stp _ _
     cond_or ev (fun hs ev=>obind_is ev fun j hj ev=>cond_is ev fun hk ev=>by
       cases Nat.eq_of_beq_eq_true hk
       cases (asInt_is hj:d'=.int j)
       obtain ⟨t,rfl⟩:=rv
       obtain ⟨eS,rfl⟩:C.hasS=true∧o=.ref C.aS:=(isSl_is hs▸r3:RepT C p3 .slate o)
       cases ev
       exact seq (slate_set cx.ok n4.good eS) fun _ p6 n6 _=>⟨_,_,n5.trans (n6.s1 cx.ok),rfl⟩)
      fun _ ev=>seq (dset_ok cx.ok n4.good r4 rv hc ev) fun _ p6 n6 _=>⟨_,_,n5.trans (n6.sl cx.ok),rfl⟩)) swaps_sub
theorem s_setAttr (co:COk C fa) {i:Nat} {ap:Pos} (h1:EOk C n nm a e) (h2:EOk C n nm b e2):SOk C n nm (.setAttr b i a) (.Assign [.Attribute e2 (aname i) ap] e pos):=fun F top A st fl st' p cx ev x =>
 bnd_is (show bnd (evE C n a st) (fun v st=>bnd (evE C n b st) fun ov st=>cond (isOp ov) (nxt ((setAttrV st.g i v).map fun g=>⟨st.ρ,st.lh,g⟩)) none)=some (fl,st') from ev) fun d st1 ev1 ev=>bnd_is ev fun ov st2 ev2 ev=>cond_is ev fun ho ev =>
  nxt_is (P:=fun fl=>wp C A (exec (.Assign [.Attribute e2 (aname i) ap] e pos) F.env) (Out C F (SS F top) p st' (RetR C fl)) p.s) ev fun ev=>omap_is ev fun g hg ev=>obind_is hg fun j hj hg =>
   plainObj_wpAny_Assign_Attribute (seq (h1 F top A st d st1 p cx ev1 x) fun v p1 n1 r1=>seq (h2 F top A st1 ov st2 p1 cx ev2 n1.good) fun o p2 n2 r2 =>
    have r2:C.hasOp=true∧o=.ref C.aO:=(isOp_is ho▸r2:RepT C p2 .opener o)
    (RepT.int r1 hj).elim fun t q=>q.symm▸r2.2.symm▸seq (attr_set cx.ok co n2.good r2.1 hg) fun _ p3 n3 _=>ev▸⟨_,_,((n1.trans n2).ss cx.ok).trans (n3.s1 cx.ok),rfl⟩) swaps_attr
theorem plainL_of {a:Addr} {its:Array Value} {h:Heap} (x:h.PlainList a its):PlainL h a its:=x.elim fun m g=>⟨_,m,g,rfl,rfl,rfl⟩
theorem s_app {y:Nat} {np apos cp:Pos} (hy:NameOk nm true y) (hl:(apos.endLine == cp.line)=true) (hs:noStar e=true) (h1:EOk C n nm a e):SOk C n nm (.app y a) (.Expr (.Call (.Attribute (.Name (vname y) np) "append" apos) [e] [] cp) pos):=fun F top A st fl st' p cx ev x =>
 obind_is (show (dget st.ρ y).bind (fun ov=>(listOf st.lh ov).bind fun _=>bnd (evE C n a st) fun v st=>bnd (keep1 v st) fun v st=>nxt (growV ov [v] st))=some (fl,st') from ev) fun ov ho ev=>obind_is ev fun l hl0 ev=>bnd_is ev fun d st1 ev1 ev=>bnd_is ev fun d' st2 ev2 ev =>
  nxt_is (P:=fun fl=>wp C A (exec (.Expr (.Call (.Attribute (.Name (vname y) np) "append" apos) [e] [] cp) pos) F.env) (Out C F (SS F top) p st' (RetR C fl)) p.s) ev fun ev =>
   wpAny_Expr_any (wpAny_Call_append (base_plain rfl) (by rw [star_plain hs];rfl) hl (by rw [star_plain hs];rfl) (seq (name_ok cx.ok.e0 cx.ok cx.nm x hy ho) fun o p1 n1 r1=>(r1.list n1.good hl0).elim fun D w=>w.elim fun vs w=>⟨D,_,w.1,plainL_of w.2.1,
    seq (h1 F top A st d st1 p1 cx ev1 n1.good) fun v p2 n2 r2=>(keep1_ok cx.ok n2.good r2 ev2).elim fun own k=>w.1▸seq (p:=⟨own,p2.la,p2.s⟩) (app_ok (p:=⟨own,p2.la,p2.s⟩) cx.ok k.1.good ((r1.go n2.go).go k.1.go) k.2 ev) fun _ p4 n4 _=>⟨_,_,((n1.trans (n2.trans k.1)).ss cx.ok).trans (n4.sl cx.ok),rfl⟩⟩)) (interactive_no cx.ok) rfl
theorem s_ext {y:Nat} {np apos cp:Pos} (hy:NameOk nm true y) (hl:(apos.endLine == cp.line)=true) (hs:noStar e=true) (h1:EOk C n nm a e):SOk C n nm (.ext y a) (.Expr (.Call (.Attribute (.Name (vname y) np) "extend" apos) [e] [] cp) pos):=fun F top A st fl st' p cx ev x =>
 obind_is (show (dget st.ρ y).bind (fun ov=>(listOf st.lh ov).bind fun _=>bnd (evE C n a st) fun v st=>(lstOf v).bind fun m=>nxt (growV ov m st))=some (fl,st') from ev) fun ov ho ev=>obind_is ev fun l hl0 ev=>bnd_is ev fun d st1 ev1 ev=>obind_is ev fun m hm ev =>
  nxt_is (P:=fun fl=>wp C A (exec (.Expr (.Call (.Attribute (.Name (vname y) np) "extend" apos) [e] [] cp) pos) F.env) (Out C F (SS F top) p st' (RetR C fl)) p.s) ev fun ev =>
   wpAny_Expr_any (meth_bi (T:="list") (id:="list.extend") rfl (fun e' he=>List.mem_singleton.mp he▸hs) (List.cons_ne_nil _ _) (Nat.succ_lt_succ (Nat.zero_lt_succ _)) hl PySem.F.plainAttrs_list PySem.F.slot_list_extend PySem.F.type_list_extend
    (seq (name_ok cx.ok.e0 cx.ok cx.nm x hy ho) fun o p1 n1 r1=>(r1.list n1.good hl0).elim fun D w=>w.elim fun vs w =>
     ⟨w.1▸w.2.1.isList.typeIs,fun b hb=>w.2.1.elim fun k g=>Value.ref.inj (w.1.symm.trans hb)▸⟨_,g,rfl⟩,wpAny_items_cons (seq (h1 F top A st d st1 p1 cx ev1 n1.good) fun v p2 n2 r2=>wpAny_items_nil
      (seq (ext_ok cx.ok n2.good (r1.go n2.go) (show Rep C p2 (.lst m) v from (lstOf_is hm▸r2:RepT C p2 (.lst m) v)) ev) fun _ p4 n4 _=>⟨_,_,((n1.trans n2).ss cx.ok).trans (n4.sl cx.ok),rfl⟩)) (star_plain hs)⟩)) (interactive_no cx.ok) rfl
theorem s_for {iter:PySem.Expr} {body:List PS} {qs:List Stmt} (hT:chkT nm true t tg=true) (hf:foldOk iter=true) (hI:IOk C n nm a iter) (hB:SsOk C n nm body qs):SOk C n nm (.for_ t a body) (.For tg iter qs [] pos):=fun F top A st fl st' p cx ev x =>
 bnd_is (show bnd (evE C n a st) (fun iv st=>(itemsOfT t iv).bind fun xs=>loopF t (exSs C n body) xs st)=some (fl,st') from ev) fun iv st1 ev1 ev=>obind_is ev fun xs ev2 ev3 =>
  have hi:=items_zp ev2 hT
  have cx1:Cx n nm F (top+1) A:=⟨cx.ok.more 1,cx.nm,cx.a⟩
  wpAny_For (seq (hI F top A st iv st1 p xs cx ev1 hi.1 x) fun v p1 n1 r1=>(iter_make (tg:=tg) cx.a.handled cx.ok n1.good r1 hi.1 hi.2).mono fun it s2 h2=>h2.elim fun own2 h2=>h2.elim fun St0 h2 =>
   codeAny_mono (for_loop (p':=⟨own2,p1.la,s2⟩) cx.ok h2.1 (fun x st1 st2 q v b g r=>tgt_ss cx1 hT g r.top b) (fun st1 fl st2 q b g=>hB F (top+1) A st1 fl st2 q cx1 b g) ev3 ((n1.ss cx.ok).trans (h2.2.1.mono cx.ok.s0 fun _ h=>.inl (.inr (.inr h)))) h2.2.2) fun r s3 h3=>h3.elim fun f k=>k.1.symm▸k.2) (fold_pure hf)
theorem dget_eq {k:Nat} {v:AV} {ρ:List (Nat×AV)}:dget ((k,v)::ρ) k=some v:=cond_t (Nat.beq_refl k)
theorem dget_ne {k x:Nat} {v:AV} {ρ:List (Nat×AV)} (h:k≠x):dget ((k,v)::ρ) x=dget ρ x:=cond_f (Bool.eq_false_iff.mpr fun e=>h (Nat.eq_of_beq_eq_true e))
theorem dget_past {x k:Nat} {v:AV}:∀ {l ρ:List (Nat×AV)},k∉l.map (·.1)→dget (l++(k,v)::ρ) x=dget ((k,v)::(l++ρ)) x
 | [],ρ,_=>rfl
 | (m,w)::l,ρ,h=>by
  have ih:=dget_past (x:=x) (v:=v) (ρ:=ρ) fun q=>h (List.mem_cons_of_mem _ q)
  by_cases q:m=x
  ·cases q
   exact dget_eq.trans ((dget_ne fun e=>h (List.mem_cons.mpr (.inl e))).trans dget_eq).symm
  ·refine (dget_ne q).trans (ih.trans ?_)
   by_cases q2:k=x
   ·cases q2;exact dget_eq.trans dget_eq.symm
   ·exact (dget_ne q2).trans ((dget_ne q2).trans (dget_ne q)).symm
theorem dget_rev {x:Nat}:∀ {l ρ:List (Nat×AV)},(l.map (·.1)).Nodup→dget (l.reverse++ρ) x=dget (l++ρ) x
 | [],_,_=>rfl
 | (k,v)::l,ρ,h=>by
  have h:=List.nodup_cons.mp h
  rw [List.reverse_cons,List.append_assoc]
  exact (dget_rev h.2).trans (dget_past h.1)
theorem zip_keys:∀ {xs:List Nat} {ds:List AV},xs.length=ds.length→(xs.zip ds).map (·.1)=xs
 | [],[],_=>rfl
 | x::xs,d::ds,h=>congrArg (x::·) (zip_keys (Nat.succ.inj h))
theorem zip_rev':∀ {xs:List Nat} {ds:List AV},xs.length=ds.length→xs.reverse.zip ds.reverse=(xs.zip ds).reverse
 | [],[],_=>rfl
 | x::xs,d::ds,h=>by
  rw [List.reverse_cons,List.reverse_cons,List.zip_append (by rw [List.length_reverse,List.length_reverse,Nat.succ.inj h]),zip_rev' (Nat.succ.inj h),List.zip_cons_cons]
  exact (List.reverse_cons (a:=(x,d)) (as:=xs.zip ds)).symm
theorem zip_rev {xs:List Nat} {ds:List AV} (h:xs.length=ds.length):(xs.reverse.zip ds.reverse).reverse=xs.zip ds:=(congrArg List.reverse (zip_rev' h)).trans (List.reverse_reverse _)
theorem evalL_len {cells:List Int} {call:Fn→List AV→GS→Option (AV×GS)}:∀ {ps:List PE} {st st':St} {ds:List AV},evalL cells call ps st=some (ds,st')→ds.length=ps.length
 | [],_,_,_,h=>ret_is (Q:=fun ds _=>List.length ds=0) h rfl
 | p::ps,st,st',ds,h=>bnd_is h fun _ _ _ h=>bnd_is h fun vs _ h3 h=>ret_is (Q:=fun ds _=>List.length ds=ps.length+1) h (congrArg (·+1) (evalL_len h3))
theorem RepTs.append:∀ {ds es:List AV} {vs us:List Value},RepTs C p ds vs→RepTs C p es us→RepTs C p (ds++es) (vs++us)
 | [],_,_,_,h,k=>(show _=[] from h).symm▸k
 | d::ds,_,_,_,h,k=>h.elim fun v h=>h.elim fun ws h=>⟨v,_,congrArg (·++_) h.1,h.2.1,h.2.2.append k⟩
theorem RepTs.reverse:∀ {ds:List AV} {vs:List Value},RepTs C p ds vs→RepTs C p ds.reverse vs.reverse
 | [],_,h=>(show _=[] from h).symm▸rfl
 | d::ds,_,h=>h.elim fun v h=>h.elim fun ws h=>by
  rw [h.1,List.reverse_cons,List.reverse_cons]
  exact h.2.2.reverse.append ⟨v,[],rfl,h.2.1,rfl⟩
theorem EnvOk.ext {ρ ρ':List (Nat×AV)} (x:EnvOk C F ρ p) (k:∀ y,dget ρ' y=dget ρ y):EnvOk C F ρ' p :=
 ⟨x.ns.elim fun m w=>⟨m,w.1,fun y d hy hd=>w.2 y d hy ((k y).symm.trans hd)⟩,fun y d hy hd=>x.cell y d hy ((k y).symm.trans hd),x.cells,x.cellx,x.ownL,x.apart⟩
theorem names_ok {c:Bool}:∀ {xs:List Nat} {ts:List PySem.Expr},chkNames nm c xs ts=true→∀ y∈xs,NameOk nm c y
 | [],_,_,y,hy=>nomatch hy
 | x::xs,[],h,y,hy=>nb h
 | x::xs,t::ts,h,y,hy=>(List.mem_cons.mp hy).elim (fun q=>q▸chkName_is (P:=fun _=>NameOk nm c x) (and_is h).1 fun k _=>k) fun hy=>names_ok (and_is h).2 y hy
theorem puts_rev {env:Env}:∀ {l:List Nat},(∀ y∈l,NameOk nm c y)→F.env=env→PutTs nm c F l ((l.map vname).map fun n=>bindName env n)
 | [],_,_=>rfl
 | y::l,h,q=>⟨_,_,rfl,h y (.head _),fun v=>⟨⟨0,0,0,0⟩,.inr (q▸rfl)⟩,puts_rev (fun z hz=>h z (.tail _ hz)) q⟩
noncomputable def backN (env:Env) (line:Nat) (ts:List PySem.Expr):List Str:=ts.filterMap fun (t:PySem.Expr)=>match t with
 | .Name id pos=>if (env.kindOf id == some .local&&pos.line == line)=true then some id else none
 | _=>none
theorem swapped_names {env:Env} {line:Nat}:∀ {xs:List Nat} {ts:List PySem.Expr},chkNames nm c xs ts=true→(backN env line ts).length≤ts.length∧((backN env line ts).length=ts.length→backN env line ts=xs.map vname)
 | [],ts,h=>nil_is (P:=fun ts=>(backN env line ts).length≤ts.length∧((backN env line ts).length=ts.length→backN env line ts=([]:List Nat).map vname)) h ⟨Nat.le_refl _,fun _=>rfl⟩
 | x::xs,[],h=>nb h
 | x::xs,e::es,h=>chkName_is (P:=fun e=>(backN env line (e::es)).length≤(e::es).length∧((backN env line (e::es)).length=(e::es).length→backN env line (e::es)=(x::xs).map vname)) (and_is h).1 fun _ p=>by
  have ih:=swapped_names (env:=env) (line:=line) (and_is h).2
  by_cases q:(env.kindOf (vname x) == some .local&&p.line == line)=true
  ·rw [show backN env line (.Name (vname x) p::es)=vname x::backN env line es from List.filterMap_cons_some (if_pos q)]
   exact ⟨Nat.succ_le_succ ih.1,fun hl=>congrArg (vname x::·) (ih.2 (Nat.succ.inj hl))⟩
  ·rw [show backN env line (.Name (vname x) p::es)=backN env line es from List.filterMap_cons_none (if_neg q)]
   exact ⟨Nat.le_succ_of_le ih.1,fun hl=>absurd (Nat.le_trans (Nat.le_of_eq hl.symm) ih.1) (Nat.not_succ_le_self _)⟩
theorem if_is {α:Type} {c:Prop} [Decidable c] {x y:α} {P:α→Prop} (h1:c→P x) (h2:¬ c→P y):P (if c then x else y):=if h:c then (if_pos h).symm▸h1 h else (if_neg h).symm▸h2 h
def SwR (xs:List Nat) (t:Sem (Option (List Str))):Prop:=∃ r,t=pure r∧(r=none∨r=some (xs.map vname))
theorem swapped_some {xs:List Nat} {ts vs:List PySem.Expr} {k1 k2:Nat} {p1 p2:Pos} {env:Env} (h:chkNames nm c xs ts=true) (hc:vs.all (constantsAlone 8)=false):SwR xs (swappedStores [.Tuple ts k1 p1] (.Tuple vs k2 p2) env):=by
 have none_:SwR xs (pure none):=⟨none,rfl,.inl rfl⟩
 refine if_is (fun _=>none_) fun _=>if_is (fun _=>none_) fun _=>if_is (fun _=>none_) fun hn=>if_is (fun _=>none_) fun _=>if_is (fun q=>absurd (hc.symm.trans q) Bool.false_ne_true) fun _=>⟨_,rfl,.inr (congrArg some ((swapped_names h).2 ?_))⟩
 exact bne_eq_false_iff_eq.mp (Bool.eq_false_iff.mpr fun q=>hn (Bool.or_eq_true_iff.mpr (.inl q)))
end
section
section
variable {C:Cfg} {fa:Fn→Addr} {n:Nat} {nm:List (Str×NameKind)} {F:Fr} {top:Nat} {A:Around} {S:Nat→Prop} {st st' st1 st2:St} {p p':Pl} {a b:PE} {e e1 e2:PySem.Expr} {pos:Pos} {d:AV} {v:Value} {c:Bool} {t:Tgt} {tg:PySem.Expr}
theorem store_ok (cx:Cx n nm F top A) {xs:List Nat} {ts:List PySem.Expr} {k1:Nat} {p1:Pos} {ds:List AV} {us:List Value} {ad:Addr} (hnd:xs.Nodup) (hT:chkNames nm true xs ts=true) (hl:xs.length=ds.length) (x:Good C F st p) (t:p.h.IsTuple ad (List.toArray us)) (rr:RepTs C p ds us) :
  ∀ {r:Option (List Str)},(r=none∨r=some (xs.map vname))→wp C A (assignStores F.env (.ref ad) r ((assignEach [.Tuple ts k1 p1] F.env).map (·.2))) (Out C F (SS F top) p ⟨(xs.zip ds).reverse++st.ρ,st.lh,st.g⟩ (RetR C .next)) p.s
 | none,_ =>
  have q:=each_names (F:=F) hT
  wpAny_bind (wpAny_assign_Tuple (x1:=k1) cx.a.handled t (q.1.trans (hl.trans rr.length.symm)) q.2.1 fun h' he =>
   have n1:Now C F (SS F top) p st ⟨p.own,p.la,{ p.s with heap:=h' }⟩:=.keeps cx.ok.s0 x (fun b o e=>he b o (ne_new e) e) ⟨_,_,rfl⟩
   seq (putVs cx.ok cx.nm cx.ok.s0 (.inr (.inl rfl)) (fun _=>.inr (.inr rfl)) _ _ _ _ _ _ n1.good q.2.2 hl (rr.go n1.go)) fun _ p2 n2 _=>wpAny_pure ⟨_,_,n1.trans n2,rfl⟩)
 | some l,hr=>by
  cases Option.some.inj (hr.resolve_left fun h=>nomatch h)
  show wp C A (do
   rule "assign.swapped-stores"
   let items ← unpackItems (.ref ad) (xs.map vname).length none
   assignInOrder ((xs.map vname).reverse.map fun n=>bindName F.env n) items.reverse
   pure Flow.next) _ _
  refine wpAny_bind (wpAny_rule ?_)
  rw [show (xs.map vname).length=(List.toArray us).size from (List.length_map _).trans (hl.trans rr.length.symm)]
  refine wpAny_bind (wpAny_unpackItems_tuple cx.a.handled t fun h' he=>?_)
  have n1:Now C F (SS F top) p st ⟨p.own,p.la,{ p.s with heap:=h' }⟩:=.keeps cx.ok.s0 x (fun b o e=>he b o (ne_new e) e) ⟨_,_,rfl⟩
  rw [← List.map_reverse]
  refine wpAny_bind (seq (putVs cx.ok cx.nm cx.ok.s0 (.inr (.inl rfl)) (fun _=>.inr (.inr rfl)) xs.reverse _ ds.reverse us.reverse _ _ n1.good (puts_rev (fun y hy=>names_ok hT y (List.mem_reverse.mp hy)) rfl) (by rw [List.length_reverse,List.length_reverse,hl]) (rr.go n1.go).reverse) fun _ p2 n2 _=>wpAny_pure ⟨p2.own,p2.la,n1.trans ⟨⟨n2.good.inv,n2.good.loc,n2.good.env.ext fun y=>?_,n2.good.fresh⟩,n2.go⟩,rfl⟩)
  show dget ((xs.zip ds).reverse++st.ρ) y=dget ((xs.reverse.zip ds.reverse).reverse++st.ρ) y
  rw [zip_rev hl]
  exact dget_rev ((zip_keys hl).symm▸hnd)
theorem s_asgT {xs:List Nat} {ps:List PE} {ts vs:List PySem.Expr} {k1 k2:Nat} {p1 p2:Pos} (hnd:xs.Nodup) (hT:chkNames nm true xs ts=true) (hc:vs.all (constantsAlone 8)=false) (hsz:ps.length≤cap) (h:All C n nm ps vs) :
  SOk C n nm (.asgT xs ps) (.Assign [.Tuple ts k1 p1] (.Tuple vs k2 p2) pos):=fun F top A st fl st' p cx ev x =>
 bnd_is (show bnd (evalL C.cells (callP C.cells bodies n) ps st) (fun vs st=>cond (Nat.beq xs.length vs.length) (some (.next,⟨(xs.zip vs).reverse++st.ρ,st.lh,st.g⟩)) none)=some (fl,st') from ev) fun ds st1 ev1 ev=>cond_is ev fun hl ev =>
  ret_is (Q:=fun fl st'=>wp C A (exec (.Assign [.Tuple ts k1 p1] (.Tuple vs k2 p2) pos) F.env) (Out C F (SS F top) p st' (RetR C fl)) p.s) ev (by
   rw [exec_Assign_arm]
   refine wpAny_bind (wpAny_standAt (wpAny_bind (wpAny_pure (a:=false) ?_)))
   rw [if_neg Bool.false_ne_true]
   refine wpAny_bind (wpAny_Tuple (seq (l_all h p2 F top A st ds st1 p cx ev1 x) fun us q1 n1 r1=>?_))
   have hv:us.length≤cap:=Nat.le_trans (Nat.le_of_eq ((RepTs.length r1).trans (evalL_len ev1))) hsz
   have n2:=Now.push (S:=SE F top) (tk:=q1.s.toks) cx.ok.e0 n1.good { cls:=.type "tuple",data:=.seq us.toArray }
   refine ⟨Nat.le_trans hv cap_line,(swapped_some (env:=F.env) (k1:=k1) (k2:=k2) (p1:=p1) (p2:=p2) hT hc).elim fun r k=>?_⟩
   rw [k.1]
   exact wpAny_bind (wpAny_pure ((store_ok cx hnd hT (Nat.eq_of_beq_eq_true hl) n2.good (isTuple_push _ _) (RepTs.go r1 n2.go) k.2).after ((n1.trans n2).ss cx.ok))))
end
abbrev KS:=List (Str×NameKind)→Stmt→Bool
noncomputable def isCmp:PE→Bool
 | .comp _ _ _ _=>true
 | .comp2 _ _ _ _ _ _=>true
 | _=>false
theorem cmp_is {P:PE→Prop} (k:∀ elt t it cond,P (.comp elt t it cond)) (k':∀ elt t1 it1 t2 it2 cond,P (.comp2 elt t1 it1 t2 it2 cond)):∀ {p:PE},isCmp p=true→P p:=by
 intro p
 cases p <;> first | exact fun h=>nb h | exact fun _=>k _ _ _ _ | exact fun _=>k' _ _ _ _ _ _
noncomputable def isMeth (ve:PySem.Expr) (name:Str) (f:PySem.Expr→PySem.Expr→Bool):Bool:=isCall ve fun fn xs kws cp=>isAttribute fn fun oe at' apos=>is1 xs fun a=>kws.isEmpty&&(decide (at'=name)&&((apos.endLine == cp.line)&&(noStar a&&f oe a)))
theorem isMeth_is {ve:PySem.Expr} {name:Str} {f:PySem.Expr→PySem.Expr→Bool} {P:PySem.Expr→Prop} (h:isMeth ve name f=true) (k:∀ oe apos a cp,(apos.endLine == cp.line)=true→noStar a=true→f oe a=true→P (.Call (.Attribute oe name apos) [a] [] cp)):P ve :=
 isCall_is h fun fn xs kws cp h=>isAttribute_is (P:=fun fn=>P (.Call fn xs kws cp)) h fun oe at' apos h=>is1_is (P:=fun xs=>P (.Call (.Attribute oe at' apos) xs kws cp)) h fun a h =>
  have h1:=and_is h;have h2:=and_is h1.2;have h3:=and_is h2.2;have h4:=and_is h3.2
  nil_is (P:=fun kws=>P (.Call (.Attribute oe at' apos) [a] kws cp)) h1.1 (eq_is (P:=fun at'=>P (.Call (.Attribute oe at' apos) [a] [] cp)) h2.1 (k oe apos a cp h3.1 h4.1 h4.2))
noncomputable def isAsg (q:Stmt) (f:PySem.Expr→PySem.Expr→Bool):Bool:=isSAssign q fun ts ve _=>is1 ts fun tg=>f tg ve
theorem isAsg_is {q:Stmt} {f:PySem.Expr→PySem.Expr→Bool} {P:Stmt→Prop} (h:isAsg q f=true) (k:∀ tg ve pos,f tg ve=true→P (.Assign [tg] ve pos)):P q :=
 isSAssign_is h fun ts ve pos h=>is1_is (P:=fun ts=>P (.Assign ts ve pos)) h fun tg h=>k tg ve pos h
mutual
noncomputable def chkS:PS→KS
 | .asg t e=>fun nm q=>isAsg q fun tg ve=>chkT nm true t tg&&(vk e (chkE e) nm ve&&((noTup ve||isV t)&&(noComp ve||isCmp e)))
 | .asgT xs es=>fun nm q=>isAsg q fun tg ve=>isTuple tg fun ts _ _=>isTuple ve fun vs _ _=>decide xs.Nodup&&(chkNames nm true xs ts&&(!vs.all (constantsAlone 8)&&(Nat.ble es.length 1000&&chkEs es nm vs)))
 | .setItem x k e=>fun nm q=>isAsg q fun tg ve=>isSubscript tg fun oe ie _=>chkName nm true x oe&&(isText ie k&&vk e (chkE e) nm ve)
 | .setAttr o a e=>fun nm q=>isAsg q fun tg ve=>isAttribute tg fun oe at' _=>decide (at'=aname a)&&(vk o (chkE o) nm oe&&vk e (chkE e) nm ve)
 | .expr e=>fun nm q=>isSExpr q fun ve _=>isCall ve (fun _ _ _ _=>vk e (chkE e) nm ve)
 | .app x e=>fun nm q=>isSExpr q fun ve _=>isMeth ve "append" fun oe a=>chkName nm true x oe&&vk e (chkE e) nm a
 | .ext x e=>fun nm q=>isSExpr q fun ve _=>isMeth ve "extend" fun oe a=>chkName nm true x oe&&vk e (chkE e) nm a
 | .ret e=>fun nm q=>isSReturn q fun o _=>isSm o fun ve=>vk e (chkE e) nm ve
 | .ite c a b=>fun nm q=>isSIf q fun ce qa qb _=>vk c (chkE c) nm ce&&(chkSs a nm qa&&chkSs b nm qb)
 | .for_ t it body=>fun nm q=>isSFor q fun tg iter qs os _=>os.isEmpty&&(chkT nm true t tg&&(foldOk iter&&(chkE it nm iter&&chkSs body nm qs)))
 | .tryf a b=>fun nm q=>isSTry q fun qa hs os qb _=>hs.isEmpty&&(os.isEmpty&&(!qb.isEmpty&&(chkSs a nm qa&&chkSs b nm qb)))
 | .stop=>fun _ _=>true
noncomputable def chkSs:List PS→List (Str×NameKind)→List Stmt→Bool
 | []=>fun _ qs=>qs.isEmpty
 | p::ps=>fun nm qs=>match qs with
  | q::qs=>chkS p nm q&&chkSs ps nm qs
  | []=>false
end
section
variable {C:Cfg} {fa:Fn→Addr} {n:Nat}
def SndS (C:Cfg) (n:Nat) (p:PS) (k:KS):Prop:=∀ nm q,k nm q=true→SOk C n nm p q
def SndSs (C:Cfg) (n:Nat) (ps:List PS) (k:List (Str×NameKind)→List Stmt→Bool):Prop:=∀ nm qs,k nm qs=true→SsOk C n nm ps qs
theorem c_asg (co:COk C fa) (hc:CallOk C fa n) {t:Tgt} {e:PE}:SndS C n (.asg t e) (chkS (.asg t e)):=fun nm q h=>isAsg_is (P:=SOk C n nm (.asg t e)) h fun tg ve pos h =>
 have h1:=and_is h;have h2:=and_is h1.2;have h3:=and_is h2.2
 (Bool.or_eq_true_iff.mp h3.2).elim (fun hn=>s_asg h1.1 hn h3.1 ((chkE_ok co hc e).ev h2.1)) fun hm=>cmp_is (P:=fun e=>chkE e nm ve=true→SOk C n nm (.asg t e) (.Assign [tg] ve pos))
  (fun elt t' it cnd k=>(s_c1 (chkE_ok co hc it) (chkE_ok co hc cnd) (chkE_ok co hc elt) k).elim fun x k=>k.elim fun tg k=>k.elim fun iter k=>k.elim fun ifs k=>k.elim fun scope k=>k.elim fun sp k=>k.1.symm▸s_asg_comp h1.1 k.2)
  (fun elt t1 it1 t2 it2 cnd k=>(s_c2 (chkE_ok co hc it1) (chkE_ok co hc it2) (chkE_ok co hc cnd) (chkE_ok co hc elt) k).elim fun x k=>k.elim fun tg k=>k.elim fun iter k=>k.elim fun tg2 k=>k.elim fun iter2 k=>k.elim fun ifs k=>k.elim fun scope k=>k.elim fun sp k=>k.1.symm▸s_asg_comp2 h1.1 k.2) hm (and_is h2.1).2
theorem c_asgT (co:COk C fa) (hc:CallOk C fa n) {xs:List Nat} {es:List PE}:SndS C n (.asgT xs es) (chkS (.asgT xs es)):=fun nm q h=>isAsg_is (P:=SOk C n nm (.asgT xs es)) h fun tg ve pos h=>isTuple_is (P:=fun tg=>SOk C n nm (.asgT xs es) (.Assign [tg] ve pos)) h fun ts k1 p1 h=>isTuple_is (P:=fun ve=>SOk C n nm (.asgT xs es) (.Assign [.Tuple ts k1 p1] ve pos)) h fun vs k2 p2 h =>
 have h1:=and_is h;have h2:=and_is h1.2;have h3:=and_is h2.2;have h4:=and_is h3.2
 s_asgT (of_decide_eq_true h1.1) h2.1 ((Bool.not_eq_true' _).mp h3.1) (le_cap h4.1) (chkEs_ok co hc es nm vs h4.2)
theorem c_setItem (co:COk C fa) (hc:CallOk C fa n) {x k:Nat} {e:PE}:SndS C n (.setItem x k e) (chkS (.setItem x k e)):=fun nm q h=>isAsg_is (P:=SOk C n nm (.setItem x k e)) h fun tg ve pos h=>isSubscript_is (P:=fun tg=>SOk C n nm (.setItem x k e) (.Assign [tg] ve pos)) h fun oe ie sp h =>
 chkName_is (P:=fun oe=>SOk C n nm (.setItem x k e) (.Assign [.Subscript oe ie sp] ve pos)) (and_is h).1 fun hx np=>isText_is (P:=fun ie=>SOk C n nm (.setItem x k e) (.Assign [.Subscript (.Name (vname x) np) ie sp] ve pos)) (and_is (and_is h).2).1 fun ho i cp=>s_setItem hx ho ((chkE_ok co hc e).ev (and_is (and_is h).2).2)
theorem c_setAttr (co:COk C fa) (hc:CallOk C fa n) {o e:PE} {a:Nat}:SndS C n (.setAttr o a e) (chkS (.setAttr o a e)):=fun nm q h=>isAsg_is (P:=SOk C n nm (.setAttr o a e)) h fun tg ve pos h=>isAttribute_is (P:=fun tg=>SOk C n nm (.setAttr o a e) (.Assign [tg] ve pos)) h fun oe at' ap h =>
 eq_is (P:=fun at'=>SOk C n nm (.setAttr o a e) (.Assign [.Attribute oe at' ap] ve pos)) (and_is h).1 (s_setAttr co ((chkE_ok co hc e).ev (and_is (and_is h).2).2) ((chkE_ok co hc o).ev (and_is (and_is h).2).1))
theorem c_expr (co:COk C fa) (hc:CallOk C fa n) {e:PE}:SndS C n (.expr e) (chkS (.expr e)):=fun nm q h=>isSExpr_is (P:=SOk C n nm (.expr e)) h fun ve pos h=>isCall_is (P:=fun ve'=>vk e (chkE e) nm ve=true→ve'=ve→SOk C n nm (.expr e) (.Expr ve' pos)) h (fun f as ks cp h h' q=>s_expr ((chkE_ok co hc e).ev (q▸h))) (isCall_is (P:=fun _=>vk e (chkE e) nm ve=true) h fun _ _ _ _ h=>h) rfl
theorem c_app (co:COk C fa) (hc:CallOk C fa n) {x:Nat} {e:PE}:SndS C n (.app x e) (chkS (.app x e)):=fun nm q h=>isSExpr_is (P:=SOk C n nm (.app x e)) h fun ve pos h=>isMeth_is (P:=fun ve=>SOk C n nm (.app x e) (.Expr ve pos)) h fun oe apos a cp hl hs h =>
 chkName_is (P:=fun oe=>SOk C n nm (.app x e) (.Expr (.Call (.Attribute oe "append" apos) [a] [] cp) pos)) (and_is h).1 fun hx np=>s_app hx hl hs ((chkE_ok co hc e).ev (and_is h).2)
theorem c_ext (co:COk C fa) (hc:CallOk C fa n) {x:Nat} {e:PE}:SndS C n (.ext x e) (chkS (.ext x e)):=fun nm q h=>isSExpr_is (P:=SOk C n nm (.ext x e)) h fun ve pos h=>isMeth_is (P:=fun ve=>SOk C n nm (.ext x e) (.Expr ve pos)) h fun oe apos a cp hl hs h =>
 chkName_is (P:=fun oe=>SOk C n nm (.ext x e) (.Expr (.Call (.Attribute oe "extend" apos) [a] [] cp) pos)) (and_is h).1 fun hx np=>s_ext hx hl hs ((chkE_ok co hc e).ev (and_is h).2)
theorem c_ret (co:COk C fa) (hc:CallOk C fa n) {e:PE}:SndS C n (.ret e) (chkS (.ret e)):=fun nm q h=>isSReturn_is (P:=SOk C n nm (.ret e)) h fun o pos h=>isSm_is (P:=fun o=>SOk C n nm (.ret e) (.Return o pos)) h fun ve h=>s_ret ((chkE_ok co hc e).ev h)
theorem c_ite (co:COk C fa) (hc:CallOk C fa n) {c:PE} {a b:List PS} (ha:SndSs C n a (chkSs a)) (hb:SndSs C n b (chkSs b)):SndS C n (.ite c a b) (chkS (.ite c a b)):=fun nm q h=>isSIf_is (P:=SOk C n nm (.ite c a b)) h fun ce qa qb pos h=>s_ite ((chkE_ok co hc c).tv (and_is h).1) (ha nm qa (and_is (and_is h).2).1) (hb nm qb (and_is (and_is h).2).2)
theorem c_for (co:COk C fa) (hc:CallOk C fa n) {t:Tgt} {it:PE} {a:List PS} (ha:SndSs C n a (chkSs a)):SndS C n (.for_ t it a) (chkS (.for_ t it a)):=fun nm q h=>isSFor_is (P:=SOk C n nm (.for_ t it a)) h fun tg iter qs os pos h =>
 have h1:=and_is h;have h2:=and_is h1.2;have h3:=and_is h2.2;have h4:=and_is h3.2
 nil_is (P:=fun os=>SOk C n nm (.for_ t it a) (.For tg iter qs os pos)) h1.1 (s_for h2.1 h3.1 (chkE_ok co hc it nm iter h4.1).1 (ha nm qs h4.2))
theorem c_tryf {a b:List PS} (ha:SndSs C n a (chkSs a)) (hb:SndSs C n b (chkSs b)):SndS C n (.tryf a b) (chkS (.tryf a b)):=fun nm q h=>isSTry_is (P:=SOk C n nm (.tryf a b)) h fun qa hs os qb pos h =>
 have h1:=and_is h;have h2:=and_is h1.2;have h3:=and_is h2.2;have h4:=and_is h3.2
 nil_is (P:=fun hs=>SOk C n nm (.tryf a b) (.Try qa hs os qb pos)) h1.1 (nil_is (P:=fun os=>SOk C n nm (.tryf a b) (.Try qa [] os qb pos)) h2.1 (s_tryf (ne_nil h3.1) (ha nm qa h4.1) (hb nm qb h4.2)))
theorem c_stop:SndS C n .stop (chkS .stop):=fun nm q h F top A st fl st' p cx ev x=>nn ev
theorem c_nil:SndSs C n [] (chkSs []):=fun nm qs h=>nil_is (P:=SsOk C n nm []) h ss_nil
theorem c_cons {p:PS} {ps:List PS} (h:SndS C n p (chkS p)) (hs:SndSs C n ps (chkSs ps)):SndSs C n (p::ps) (chkSs (p::ps)):=fun nm qs q=>match qs,q with
 | [],q=>nb q
 | x::qs,q=>ss_cons (h nm x (and_is q).1) (hs nm qs (and_is q).2)
theorem chkS_ok (co:COk C fa) (hc:CallOk C fa n) (p:PS):SndS C n p (chkS p) :=
 PS.rec (motive_1:=fun p=>SndS C n p (chkS p)) (motive_2:=fun ps=>SndSs C n ps (chkSs ps)) (fun _ _=>c_asg co hc) (fun _ _=>c_asgT co hc) (fun _ _ _=>c_setItem co hc) (fun _ _ _=>c_setAttr co hc) (fun _=>c_expr co hc) (fun _ _=>c_app co hc) (fun _ _=>c_ext co hc) (fun _=>c_ret co hc)
  (fun _ _ _ h h'=>c_ite co hc h h') (fun _ _ _ h=>c_for co hc h) (fun _ _ h h'=>c_tryf h h') c_stop c_nil (fun _ _ h h'=>c_cons h h') p
theorem chkSs_ok (co:COk C fa) (hc:CallOk C fa n):∀ (ps:List PS),SndSs C n ps (chkSs ps)
 | []=>c_nil
 | p::ps=>c_cons (chkS_ok co hc p) (chkSs_ok co hc ps)
end
end
theorem cellsFrom_old {y:Str×Addr}:∀ {names:List (Str×NameKind)} {k:Nat} {acc:List (Str×Addr)},y∈acc→y∈cellsFrom k names acc
 | [],_,_,h=>h
 | (m,kd)::r,k,acc,h=>if_is (P:=fun l=>y∈l) (fun _=>cellsFrom_old (.tail _ h)) fun _=>cellsFrom_old h
theorem cellsFrom_new {n:Str}:∀ {names:List (Str×NameKind)} {k:Nat} {acc:List (Str×Addr)},(n,NameKind.cell)∈names→∃ c,(n,c)∈cellsFrom k names acc
 | (m,kd)::r,k,acc,h=>(List.mem_cons.mp h).elim (fun h=>by
   cases h
   exact ⟨k,if_is (P:=fun l=>(n,k)∈l) (fun _=>cellsFrom_old (.head _)) fun q=>absurd (beq_self_eq_true _) q⟩)
  fun h=>if_is (P:=fun l=>∃ c,(n,c)∈l) (fun _=>cellsFrom_new h) fun _=>cellsFrom_new h
theorem cellsFrom_nodup:∀ {names:List (Str×NameKind)} {k:Nat} {acc:List (Str×Addr)},(names.map (·.1)).Nodup→(acc.map (·.1)).Nodup→(∀ y∈acc,y.1∉names.map (·.1))→((cellsFrom k names acc).map (·.1)).Nodup
 | [],_,_,_,h,_=>h
 | (m,kd)::r,k,acc,nd,h,hd =>
  have nd:=List.nodup_cons.mp nd
  have hr:∀ y∈acc,y.1∉r.map (·.1):=fun y hy q=>hd y hy (.tail _ q)
  if_is (P:=fun l:List (Str×Addr)=>(l.map (·.1)).Nodup) (fun _=>cellsFrom_nodup (acc:=(m,k)::acc) nd.2 (show (m::acc.map (·.1)).Nodup from List.nodup_cons.mpr ⟨fun q=>(List.mem_map.mp q).elim fun y k=>hd y k.1 (List.mem_cons.mpr (.inl k.2)),h⟩) fun y hy=>(List.mem_cons.mp hy).elim (fun q=>q▸nd.1) (hr y))
   fun _=>cellsFrom_nodup nd.2 h hr
structure FnAt (C:Cfg) (a:Addr) (f:Fn) (o:Obj) (fd:FuncData) (body:List Stmt):Prop where
 ho:C.h₀.get? a=some o
 hd:o.data=.func fd
 hbody:fd.body=.stmts body
 hclo:fd.closure=[]
 hcode:C.h₀.CodeRec fd.code fd.qualname
 hglob:fd.globals=mainGlobals
 hbi:fd.builtins=builtinsNs
 hkind:fd.scope.kind=.function
 hco:fd.scope.isCoroutine=false
 hgen:fd.scope.isGenerator=false
 hbind:∀ vals:List Value,vals.length=(bodies f).1.length→bindArgs fd ⟨vals,[]⟩=pure (((bodies f).1.map vname).zip vals)
 hnd:(fd.scope.names.map (·.1)).Nodup
 hpar:∀ x∈(bodies f).1,NameOk fd.scope.names true x
 hchk:chkSs (bodies f).2 fd.scope.names body=true
def FnOk (C:Cfg) (a:Addr) (f:Fn):Prop:=∃ o fd body,FnAt C a f o fd body
section
variable {C:Cfg} {fa:Fn→Addr} {n:Nat} {F:Fr} {top:Nat} {A:Around} {S:Nat→Prop} {st st' st3:St} {p p3:Pl} {d:AV} {v:Value} {kindOf:Str→Option NameKind}
structure BindI (C:Cfg) (p:Pl) (kindOf:Str→Option NameKind) (ρ:List (Nat×AV)) (m cm:Str→Option Value):Prop where
 l:∀ x d,x<VX.length→dget ρ x=some d→kindOf (vname x)=some .local→∃ v,m (vname x)=some v∧Rep C p d v
 c:∀ x d,x<VX.length→dget ρ x=some d→kindOf (vname x)=some .cell→∃ v,cm (vname x)=some v∧Rep C p d v
theorem put_each {k:NameKind} {x:Nat} {u:Value} {ρ:List (Nat×AV)} {m:Str→Option Value} (hx:x<VX.length) (r:Rep C p d u) (h:∀ y e,y<VX.length→dget ρ y=some e→kindOf (vname y)=some k→∃ v,m (vname y)=some v∧Rep C p e v) (y:Nat) (e:AV) (hy:y<VX.length) (hd:dget ((x,d)::ρ) y=some e) (hk:kindOf (vname y)=some k) :
  ∃ v,(if vname y=vname x then some u else m (vname y))=some v∧Rep C p e v :=
 dget_each hd (fun q q2=>⟨u,if_pos (q▸rfl),q2▸r⟩) fun q hd=>(h y e hy hd hk).elim fun v w=>⟨v,(if_neg fun e=>q (vname_inj hx hy e.symm)).trans w.1,w.2⟩
theorem skip_each {k:NameKind} {x:Nat} {ρ:List (Nat×AV)} {m:Str→Option Value} (hx:kindOf (vname x)≠some k) (h:∀ y e,y<VX.length→dget ρ y=some e→kindOf (vname y)=some k→∃ v,m (vname y)=some v∧Rep C p e v) (y:Nat) (e:AV) (hy:y<VX.length) (hd:dget ((x,d)::ρ) y=some e) (hk:kindOf (vname y)=some k) :
  ∃ v,m (vname y)=some v∧Rep C p e v:=dget_each hd (fun q _=>absurd hk (q▸hx)) fun _ hd=>h y e hy hd hk
theorem bind_ok:∀ {ps:List Nat} {ds:List AV} {us:List Value} {m cm:Str→Option Value} {ρ:List (Nat×AV)},Reps C p ds us→ps.length=ds.length→(∀ x∈ps,x<VX.length∧(kindOf (vname x)=some .local∨kindOf (vname x)=some .cell))→BindI C p kindOf ρ m cm →
  BindI C p kindOf ((ps.zip ds).reverse++ρ) (bindL kindOf ((ps.map vname).zip us) m) (bindC kindOf ((ps.map vname).zip us) cm)
 | [],[],_,m,cm,ρ,hr,hl,hp,h=>h
 | x::ps,d::ds,_,m,cm,ρ,hr,hl,hp,h=>hr.elim fun u hr=>hr.elim fun us hr=>hr.1.symm▸zip_rho (xs:=ps) (y:=x) (d:=d) (ds:=ds) (ρ:=ρ) ▸
  bind_ok hr.2.2 (Nat.succ.inj hl) (fun y hy=>hp y (.tail _ hy)) (have hx:=hp x (.head _)
   hx.2.elim (fun k=>by
    rw [if_pos k,if_pos k]
    exact ⟨put_each hx.1 hr.2.1 h.l,skip_each (k.symm▸fun q=>nomatch q) h.c⟩) fun k=>by
    have nk:¬ kindOf (vname x)=some .local:=fun q=>nomatch k.symm.trans q
    rw [if_neg nk,if_neg nk]
    exact ⟨skip_each nk h.l,put_each hx.1 hr.2.1 h.c⟩)
noncomputable def lab2 (own:Addr→Nat) (L:Addr) (cs:List Addr) (kf kc:Nat):Addr→Nat:=fun a=>if a=L then kf else if a∈cs then kc else own a
theorem codeRec_at {h h':Heap} {cd:Value} {q:Str} (x:h.CodeRec cd q) (k:Kp h h'):h'.CodeRec cd q:=x.elim fun c x=>x.elim fun o x=>x.elim fun vs x=>x.elim fun t x=>⟨c,o,vs,t,x.1,k _ _ x.2.1,x.2.2⟩
theorem AOk.deeper (x:AOk (n+1) A) (env:Env):AOk n (A.deeper env) :=
 ⟨x.handled,Nat.lt_of_le_of_lt (Nat.le_of_eq ((Nat.add_assoc A.depth 1 n).trans (congrArg (A.depth+·) (Nat.add_comm 1 n)))) x.depth,Nat.lt_of_le_of_lt (by show A.units+3+8*n+64≤A.units+8*(n+1)+64;lia) x.units⟩
noncomputable def callF (fd:FuncData) (L a:Addr) (top:Nat):Fr:=⟨callEnvC fd L a,top+1,top+2,top+3⟩
theorem callF_ok {a L:Addr} {f:Fn} {o:Obj} {fd:FuncData} {body:List Stmt} (K:FnAt C a f o fd body) (h1:1<top):(callF fd L a top).Ok (top+3) :=
 ⟨K.hglob,K.hbi,K.hkind,Nat.lt_succ_of_lt h1,Nat.lt_succ_of_lt (Nat.lt_succ_of_lt h1),Nat.lt_succ_of_lt (Nat.lt_succ_of_lt (Nat.lt_succ_of_lt h1)),Nat.ne_of_lt (Nat.lt_succ_of_lt (Nat.lt_succ_self (top+1))),Nat.ne_of_lt (Nat.lt_succ_self (top+2)),Nat.le_succ_of_le (Nat.le_succ _),Nat.le_succ _,Nat.le_refl _⟩
theorem cell_look {names:List (Str×NameKind)} {L:Nat} (nd:(names.map (·.1)).Nodup):((cellsFrom L names []).map (·.1)).Nodup∧∀ x,names.lookup x=some .cell→∃ c,(cellsFrom L names []).lookup x=some c :=
 have h:=cellsFrom_nodup (k:=L) (acc:=[]) nd List.nodup_nil fun y hy=>nomatch hy
 ⟨h,fun x hx=>(cellsFrom_new (look_in hx)).elim fun c hc=>⟨c,look_nodup h hc⟩⟩
theorem call_good {a:Addr} {f:Fn} {o:Obj} {fd:FuncData} {body:List Stmt} (K:FnAt C a f o fd body) {args:List AV} {us:List Value} (hr:Reps C p args us) (hlen:(bodies f).1.length=args.length) (x:Good C F st p) {s1:Shared}
  (X:InCallC p.s (callEnvC fd p.h.objs.size a).locals (bindL (callEnvC fd p.h.objs.size a).kindOf (((bodies f).1.map vname).zip us) fun _=>none) (callEnvC fd p.h.objs.size a).cells (bindC (callEnvC fd p.h.objs.size a).kindOf (((bodies f).1.map vname).zip us) fun _=>none) s1) :
  ∃ own1,Stp no p ⟨own1,[],s1⟩∧Good C (callF fd p.h.objs.size a top) ⟨((bodies f).1.zip args).reverse,[],st.g⟩ ⟨own1,[],s1⟩∧After p.s s1:=by
 obtain ⟨h1,tk1,rfl,kp⟩:=X.done
 have lk:=cell_look (L:=p.h.objs.size+1) K.hnd
 have hown:∀ b o,p.h.get? b=some o→lab2 p.own p.h.objs.size ((cellsFrom (p.h.objs.size+1) fd.scope.names []).map (·.2)) (top+1) (top+2) b=p.own b:=fun b o e =>
  (if_neg (ne_new e)).trans (if_neg fun hm=>(List.mem_map.mp hm).elim fun (y:Str×Addr) k=>Nat.lt_asymm (Heap.lt_size e) (show p.h.objs.size<b from (k.2:y.2=b)▸X.above y.1 y.2 k.1))
 have g:Stp no p ⟨lab2 p.own p.h.objs.size ((cellsFrom (p.h.objs.size+1) fd.scope.names []).map (·.2)) (top+1) (top+2),[],{ p.s with heap:=h1,toks:=tk1 }⟩:=⟨fun b _ o e=>⟨kp b o e,hown b o e⟩,id⟩
 have B:=bind_ok (ρ:=[]) (m:=fun _=>none) (cm:=fun _=>none) (kindOf:=(callEnvC fd p.h.objs.size a).kindOf) (hr.step g _ _) hlen (fun y hy=>⟨(K.hpar y hy).1,(kind_is (K.hpar y hy).2).imp id And.right⟩) ⟨fun _ _ _ h=>nn h,fun _ _ _ h=>nn h⟩
 rw [List.append_nil] at B
 exact ⟨_,g,⟨x.inv.step g id,⟨rfl,List.nodup_nil,fun n o fz e=>by cases e⟩,⟨⟨_,X.toInCall.ns,fun y d hy hd hk=>(B.l y d hy hd hk).elim fun v w=>⟨v,w.1,w.2.top⟩⟩,
   fun y d hy hd hk=>(B.c y d hy hd hk).elim fun v w=>(lk.2 _ hk).elim fun c hc=>⟨c,v,hc,w.1▸X.cell _ c hc,w.2.top⟩,lk.2,fun n c hm=>⟨⟨_,X.cell n c (look_nodup lk.1 hm)⟩,(if_neg (Nat.ne_of_gt (X.above n c hm))).trans (if_pos (List.mem_map.mpr ⟨_,hm,rfl⟩))⟩,if_pos rfl,X.apart⟩,
  fun b e=>Decidable.byCases (p:=b=p.h.objs.size) (fun q=>q.symm▸ns_has X.toInCall.ns) fun q=>Decidable.byCases (p:=b∈(cellsFrom (p.h.objs.size+1) fd.scope.names []).map (·.2)) (fun hm=>(List.mem_map.mp hm).elim fun y k=>k.2▸isCell_has (X.cell y.1 y.2 (look_nodup lk.1 k.1)))
   fun hm=>Kp.has kp (x.fresh b fun z=>e ((if_neg q).trans ((if_neg hm).trans z)))⟩,⟨h1,tk1,rfl⟩⟩
theorem call_back {F':Fr} (ok:F.Ok top) (x:Good C F st p) (y:Good C F' st3 p3) (gs:Stp (fun n=>n=1∨top<n) p p3) (af:After p.s p3.s) (rv:Rep C p3 d v) :
  ∃ own',Now C F (SE F top) p ⟨st.ρ,st.lh,st3.g⟩ ⟨own',p.la,p3.s⟩∧Rep C ⟨own',p.la,p3.s⟩ d v :=
 have r:Stp no p3 ⟨p3.own,p.la,p3.s⟩:=⟨fun _ _ _ e=>⟨e,rfl⟩,id⟩
 have g:=gs.trans (r.mono gs.z fun _ h=>h.elim)
 have up:∀ k,1<k→k≤top→¬ (k=1∨top<k):=fun k h1 h2 h=>h.elim (Nat.ne_of_gt h1) (Nat.not_lt.mpr h2)
 ⟨p3.own,⟨⟨y.inv.step r id,x.loc.step g rfl (up _ ok.kl ok.tl),x.env.step g pre_nil (up _ ok.kf ok.tf) (up _ ok.kc ok.tc),y.fresh⟩,⟨af,g.mono ok.e0 fun n h=>h.imp id .inr,pre_nil⟩⟩,rv.step r _ _⟩
theorem getD_far {α:Type} {l:List α} {i:Nat} {d:α} (h:l.length≤i):l.getD i d=d:=by
 rw [List.getD_eq_getElem?_getD,List.getElem?_eq_none h]
 rfl
theorem bodies_far {f:Fn} (h:Nat.blt f 27=false):bodies f=([0],[.stop]):=getD_far (l:=bodyL) (i:=f) (Nat.le_of_not_lt fun q=>absurd (Nat.ble_eq_true_of_le q) (Bool.eq_false_iff.mp h))
theorem call_far {f:Fn} {args:List AV} {g:GS} (h:Nat.blt f 27=false):callP C.cells bodies (n+1) f args g=none:=by
 show cond (Nat.beq args.length (bodies f).1.length) (bnd (execSs C.cells (callP C.cells bodies n) (bodies f).2 ⟨((bodies f).1.zip args).reverse,[],g⟩) finV) none=none
 rw [bodies_far h]
 cases Nat.beq args.length 1 <;> rfl
theorem in_call {L a:Addr} {fd:FuncData} {m:Nat} (h:SS (callF fd L a top) (top+3) m):m=1∨top<m :=
 h.elim (fun h=>h.imp id fun h=>h.elim (fun h=>h.symm▸Nat.lt_add_of_pos_right (by decide)) fun h=>Nat.lt_trans (Nat.lt_add_of_pos_right (by decide)) h) fun h=>.inr (h.elim (fun h=>h.symm▸Nat.lt_succ_self top) fun h=>h.symm▸lt2 top)
theorem call_step (co:COk C fa) (hf:∀ f,Nat.blt f 27=true→FnOk C (fa f) f) (hc:CallOk C fa n):CallOk C fa (n+1):=fun f args r g' A F top st p us ev ha ok x hr=>by
 cases h27:Nat.blt f 27
 ·exact nn ((call_far h27).symm.trans ev)
 obtain ⟨o,fd,body,K⟩:=hf f h27
 refine cond_is (show cond (Nat.beq args.length (bodies f).1.length) (bnd (execSs C.cells (callP C.cells bodies n) (bodies f).2 ⟨((bodies f).1.zip args).reverse,[],st.g⟩) finV) none=some (r,g') from ev) fun hlen ev=>bnd_is ev fun fl st1 ev1 ev2=>?_
 have hlen:=(Nat.eq_of_beq_eq_true hlen).symm
 have base:Kp C.h₀ p.h:=fun b o e=>(x.inv.base b o e).1
 have h1:1<top:=Nat.lt_of_lt_of_le ok.kf ok.tf
 refine codeAny_call_cells (Nat.lt_of_le_of_lt (Nat.le_add_right _ _) ha.depth) (base _ _ K.ho) K.hd (co.nolim.keeps base) (codeRec_at K.hcode base) K.hbody (K.hbind us (hr.length.trans hlen.symm)) K.hclo
  (fun y hy=>(List.mem_map.mp (List.of_mem_zip hy).1).elim fun q k=>k.2▸(kind_is (K.hpar q k.1).2).imp id fun w=>⟨w.2,((cell_look K.hnd).2 _ w.2).elim fun c h=>h▸rfl⟩) (fun s1 X=>?_) K.hco K.hgen K.hkind
 obtain ⟨own1,g1,x1,af⟩:=call_good (top:=top) K hr hlen x X
 have z:¬ ((0:Nat)=1∨top<0):=fun h=>h.elim (fun h=>nomatch h) (Nat.not_lt_zero top)
 have ok1:=callF_ok (L:=p.h.objs.size) K h1
 refine seqE (chkSs_ok co hc (bodies f).2 fd.scope.names body K.hchk (callF fd p.h.objs.size (fa f) top) (top+3) (A.deeper _) _ fl st1 ⟨own1,[],s1⟩ ⟨ok1,rfl,ha.deeper _⟩ ev1 x1) fun fw p2 n2 hfl=>?_
 have g2:Stp (fun n=>n=1∨top<n) p p2:=(g1.mono z fun _ h=>h.elim).trans (n2.go.stp.mono z fun _=>in_call)
 match fl,hfl,ev2 with
 | .next,hfl,ev2 =>
  cases (hfl:fw=.next)
  exact ret_is (Q:=fun r g'=>∃ v,(Except.ok (.ret Value.none):PySem.Result)=.ok (.ret v)∧∃ own',Now C F (SE F top) p ⟨st.ρ,st.lh,g'⟩ ⟨own',p.la,p2.s⟩∧Rep C ⟨own',p.la,p2.s⟩ r v) ev2 ⟨_,rfl,call_back ok x n2.good g2 (af.trans n2.go.after) rfl⟩
 | .ret d,hfl,ev2 =>
  obtain ⟨v,rfl,rv⟩:=hfl
  exact omap_is ev2 fun q e3 e4=>ret_is (Q:=fun r g'=>∃ v',(Except.ok (.ret v):PySem.Result)=.ok (.ret v')∧∃ own',Now C F (SE F top) p ⟨st.ρ,st.lh,g'⟩ ⟨own',p.la,p2.s⟩∧Rep C ⟨own',p.la,p2.s⟩ r v') (congrArg some e4)
   ((keep1_ok ok1 n2.good rv e3).elim fun own3 w=>⟨v,rfl,call_back (p3:=⟨own3,p2.la,p2.s⟩) ok x w.1.good (g2.trans (w.1.go.stp.mono z fun _ h=>in_call (.inl h))) (af.trans n2.go.after) w.2⟩)
theorem call_all (co:COk C fa) (hf:∀ f,Nat.blt f 27=true→FnOk C (fa f) f):∀ n,CallOk C fa n
 | 0=>fun _ _ _ _ _ _ _ _ _ _ ev=>nn ev
 | n+1=>call_step co hf (call_all co hf n)
end
namespace P
noncomputable def restLE (V:AV) (ns:List Nat):AV:=ns.foldl (fun acc x=>joinE (varE x) acc) V
noncomputable def restRE (V:AV) (ns:List Nat):AV:=ns.reverse.foldl (fun acc x=>joinE acc (varE x)) V
noncomputable def guardedF (ns:List Nat) (X Φ:AV):AV:=match ns with
 | [_]=>Φ
 | ns=>impF (inF (rowE ns) X) Φ
noncomputable def multPart (m:Nat) (V:AV):List AV:=cond (marked2 m) [multF m V] []
noncomputable def inner (w:Bool) (rec:AV→Nat→List AV×Nat) (R:AV) (c:Nat):List AV×Nat:=cond w (rec R c) ([],c)
noncomputable def onF (m:Nat) (ns:List Nat) (X R:AV) (l:List AV):AV:=allF (declsP ns X) (guardedF ns X (allOfP (multPart m R++l)))
noncomputable def halfF (S:Sets) (m:Nat) (one:Tr) (watched:Bool) (rest:List Nat→AV) (rec:AV→Nat→List AV×Nat) (c:Nat):List AV×Nat :=
 cond (marked2 m||watched) ([onF m (namesP c one.ar) (exprP S one) (rest (namesP c one.ar)) (inner watched rec (rest (namesP c one.ar)) (c+one.ar)).1],(inner watched rec (rest (namesP c one.ar)) (c+one.ar)).2) ([],c)
noncomputable def both (p1:List AV×Nat) (p2:Nat→List AV×Nat):List AV×Nat:=(p1.1++(p2 p1.2).1,(p2 p1.2).2)
noncomputable def markedF (S:Sets):Tr→AV→Nat→List AV×Nat
 | .leaf _=>fun _ c=>([],c)
 | .arr m1 m2 l r=>fun V c=>both (halfF S m2 l (watchedP r) (restLE V) (markedF S r) c) (halfF S m1 r (watchedP l) (restRE V) (markedF S l))
noncomputable def Tr.mc:Tr→Int
 | .leaf _=>0
 | .arr _ _ l r=>l.cost+r.cost+r.mc+l.mc
noncomputable def Tr.tot:Tr→Nat
 | .leaf _=>0
 | .arr _ _ l r=>l.ar+r.ar+r.tot+l.tot
theorem mc_pos:∀ T:Tr,0≤T.mc
 | .leaf _=>Int.le_refl 0
 | .arr _ _ l r=>Int.add_nonneg (Int.add_nonneg (Int.add_nonneg (cost_pos l) (cost_pos r)) (mc_pos r)) (mc_pos l)
theorem half_by {S:Sets} {m:Nat} {one:Tr} {w:Bool} {rest:List Nat→AV} {rec:AV→Nat→List AV×Nat} {c:Nat} {P:List AV×Nat→Prop} (h0:P ([],c))
  (h1:P ([onF m (namesP c one.ar) (exprP S one) (rest (namesP c one.ar)) (inner w rec (rest (namesP c one.ar)) (c+one.ar)).1],(inner w rec (rest (namesP c one.ar)) (c+one.ar)).2)):P (halfF S m one w rest rec c):=by
 unfold halfF
 cases (marked2 m||w)
 ·exact h0
 ·exact h1
theorem inner_by {w:Bool} {rec:AV→Nat→List AV×Nat} {R:AV} {c:Nat} {P:List AV×Nat→Prop} (h0:P ([],c)) (h1:P (rec R c)):P (inner w rec R c):=by
 cases w
 ·exact h0
 ·exact h1
def Few (j k c:Nat) (p:List AV×Nat):Prop:=(∀ x∈p.1,Plain x)∧p.1.length≤j∧p.2≤c+k
theorem Few.nil {j k c:Nat}:Few j k c ([],c):=⟨(fun _ h=>nomatch h),Nat.zero_le j,Nat.le_add_right c k⟩
theorem half_facts {S:Sets} {m:Nat} {one:Tr} {w:Bool} {rest:List Nat→AV} {rec:AV→Nat→List AV×Nat} {c k:Nat} (h:∀ V c,(rec V c).2≤c+k):Few 1 (one.ar+k) c (halfF S m one w rest rec c) :=
 half_by Few.nil ⟨fun x hx=>List.mem_singleton.mp hx▸fun _=>rfl,Nat.le_refl 1,Nat.le_trans (inner_by (P:=fun p=>p.2≤c+one.ar+k) (Nat.le_add_right _ k) (h _ _)) (Nat.le_of_eq (Nat.add_assoc c one.ar k))⟩
theorem both_facts {p1:List AV×Nat} {p2:Nat→List AV×Nat} {c k1 k2:Nat} (h1:Few 1 k1 c p1) (h2:∀ c,Few 1 k2 c (p2 c)):Few 2 (k1+k2) c (both p1 p2) :=
 ⟨fun x hx=>(List.mem_append.mp hx).elim (h1.1 x) ((h2 _).1 x),List.length_append▸Nat.add_le_add h1.2.1 (h2 _).2.1,Nat.le_trans (h2 _).2.2 (Nat.le_trans (Nat.add_le_add_right h1.2.2 k2) (Nat.le_of_eq (Nat.add_assoc c k1 k2)))⟩
theorem marked_facts {S:Sets}:∀ (T:Tr) (V:AV) (c:Nat),Few 2 T.tot c (markedF S T V c)
 | .leaf _,_,_=>.nil
 | .arr m1 m2 l r,V,c =>
  have h:=both_facts (half_facts (S:=S) (m:=m2) (one:=l) (w:=watchedP r) (rest:=restLE V) (c:=c) fun V c=>(marked_facts r V c).2.2) fun c=>half_facts (S:=S) (m:=m1) (one:=r) (w:=watchedP l) (rest:=restRE V) (c:=c) fun V c=>(marked_facts l V c).2.2
  ⟨h.1,h.2.1,Nat.le_trans h.2.2 (Nat.le_of_eq (congrArg (c+·) (show l.ar+r.tot+(r.ar+l.tot)=l.ar+r.ar+r.tot+l.tot by lia)))⟩
theorem allOfP_plain:∀ l:List AV,(∀ x∈l,Plain x)→Plain (allOfP l)
 | [],_=>fun _=>rfl
 | [x],h=>h x (.head _)
 | _::_::_,_=>fun _=>rfl
theorem part_plain {m:Nat} {V:AV} {l:List AV} (h:∀ x∈l,Plain x):∀ x∈multPart m V++l,Plain x:=by
 unfold multPart
 cases marked2 m
 ·exact h
 ·exact fun x hx=>(List.mem_cons.mp hx).elim (fun q=>q▸fun _=>rfl) (h x)
theorem inner_plain {S:Sets} {T:Tr} {R:AV} {c:Nat}:Few 2 T.tot c (inner (watchedP T) (markedF S T) R c):=inner_by Few.nil (marked_facts T R c)
structure Mr (g g':GS) (c:Nat) (k:Int):Prop where
 spot:g'.spot=g.spot
 height:g'.height=g.height
 count:g'.count=(c:Nat)
 spent:g'.spent≤g.spent+k
theorem Mr.same {g:GS} {c:Nat} {k:Int} (hc:g.count=(c:Nat)) (hk:0≤k):Mr g g c k:=⟨rfl,rfl,hc,Int.le_add_of_nonneg_right hk⟩
theorem Ch.comp {f h:Prop→Prop} (c:Ch f) (d:Ch h):Ch fun x=>f (h x):=by
 induction c with
 | nil=>exact d
 | cons a _ ih=>exact .cons a ih
theorem add_loc {lh:List (LO×Bool)} {l:List AV} (h:l.length≤1000000):binV ((.lst [],false)::lh) .add (.loc 0) (.lst l)=some (.lst l):=cond_t (small_of (Nat.le_trans (Nat.le_of_eq (Nat.zero_add _)) h))
theorem add_one {lh:List (LO×Bool)} {x:AV} {l:List AV} (h:1+l.length≤1000000):binV lh .add (.lst [x]) (.lst l)=some (.lst (x::l)):=cond_t (small_of h)
section
variable {cells:List Int} {n:Nat} {g g':GS} {S:Sets} {T:Tr} {V:AV} {m:Nat} {l:List AV}
theorem side_ok (w:T.wf) (pV:Plain V) (hm:m<5) (hn:T.depth<n+1) (hl:l.length≤2) (pl:∀ x∈l,Plain x)
  (h:cond (watchedP T) (callP cells bodies (n+1) .mMarked [.opener,V,T.av,opEnv S] g=some (.lst l,g')) (l=[]∧g'=g)) :
  callP cells bodies (n+2) .mSide [.opener,V,.str m,T.av,opEnv S] g=some (allOfP (multPart m V++l),g'):=by
 have ei:=isMarked_ok (cells:=cells) T w (n+1) hn g
 have hp:=part_plain (m:=m) (V:=V) pl
 have pA:=allOfP_plain _ hp
 have ea:=allOf_ok (cells:=cells) (n:=n) (g:=g') hp
 have hl':l.length≤1000000:=Nat.le_trans hl (by decide)
 have hl1:1+l.length≤1000000:=Nat.le_trans (Nat.add_le_add_left hl 1) (by decide)
 unfold multPart at *
 match e1:marked2 m,e2:watchedP T with
 | false,false =>
  rw [e1] at pA ea;rw [e2] at ei h
  obtain ⟨rfl,rfl⟩:=h
  exact cR [.o (.bool false),.k,.c (.bool false) g',.g,.g,.c (allOfP []) g',.k] (k5 (nin (lh:=[]) hm e1) (fzT (lh:=[(.lst [],false)]) T) ei ea (pA [(.lst [],false),(.lst [],false)])) (by kernel_rfl!)
 | false,true =>
  rw [e1] at pA ea;rw [e2] at ei h
  exact cR [.o (.bool false),.k,.c (.bool true) g,.k,.k,.c (.lst l) g',.o (.lst l),.c (allOfP l) g',.k] (k9 (nin (lh:=[]) hm e1) (fzT (lh:=[(.lst [],false)]) T) ei (pV [(.lst [],false)]) (fzT (lh:=[(.lst [],false)]) T) h (add_loc (lh:=[]) hl') ea (pA [(.lst [],false)])) (by kernel_rfl!)
 | true,false =>
  rw [e1] at pA ea;rw [e2] at ei h
  obtain ⟨rfl,rfl⟩:=h
  exact cR [.o (.bool true),.g,.k,.g,.k,.c (.bool false) g',.g,.g,.c (allOfP [multF m V]) g',.k] (k6 (nin (lh:=[]) hm e1) (pV []) (fzT (lh:=[]) T) ei ea (pA [(.lst [],false)])) (by kernel_rfl!)
 | true,true =>
  rw [e1] at pA ea;rw [e2] at ei h
  exact cR [.o (.bool true),.g,.k,.g,.k,.c (.bool true) g,.k,.k,.c (.lst l) g',.o (.lst (multF m V::l)),.c (allOfP (multF m V::l)) g',.k] (k10 (nin (lh:=[]) hm e1) (pV []) (fzT (lh:=[]) T) ei (pV []) (fzT (lh:=[]) T) h (add_one (lh:=[]) (x:=multF m V) hl1) ea (pA [])) (by kernel_rfl!)
theorem guarded_ok {ns:List Nat} {X Φ:AV} (h0:0<ns.length) (p:Plain Φ):callP cells bodies (n+1) .mGuarded [.opener,guardV ns X,Φ] g=some (guardedF ns X Φ,g) :=
 list2 (P:=fun ns=>callP cells bodies (n+1) .mGuarded [.opener,guardV ns X,Φ] g=some (guardedF ns X Φ,g)) (fun _=>guarded_none p) (fun _ _ _=>guarded_some p) ns h0
theorem guardV_plain {ns:List Nat} {X:AV} (h0:0<ns.length):Plain (guardV ns X):=list2 (P:=fun ns=>Plain (guardV ns X)) (fun _ _=>rfl) (fun _ _ _ _=>rfl) ns h0
theorem guardedF_plain {ns:List Nat} {X Φ:AV} (h0:0<ns.length) (p:Plain Φ):Plain (guardedF ns X Φ):=list2 (P:=fun ns=>Plain (guardedF ns X Φ)) (fun _=>p) (fun _ _ _ _=>rfl) ns h0
end
noncomputable def markB (i j x:Nat) (it el:PE):List PS:=[.asg (.t [25,7,41]) (.meth .mEachOf (.var 36) [.var x]),.asg (.v 20) (.var 30),.for_ (.v 18) it [.asg (.v 20) el],
   .app 13 (.tup [.str 12,.var 25,.meth .mGuarded (.var 36) [.var 41,.meth .mSide (.var 36) [.var 20,.sub (.var 10) (.int i),.sub (.var 10) (.int j),.var 29]]])]
noncomputable def markC (i j:Nat):PE:=.boolop false [.cmp .notin (.sub (.var 10) (.int i)) (.tup [.str 0,.str 1]),.meth .mIsMarked (.var 36) [.sub (.var 10) (.int j)]]
noncomputable def markS (i j x:Nat) (it el:PE):PS:=.ite (markC i j) (markB i j x it el) []
structure Half (cells:List Int) (n:Nat) (S:Sets) (i j x:Nat) (it el:PE) (rv:List Nat→List Nat) (f:AV→Nat→AV) (tav:AV) (m:Nat) (O T:Tr):Prop where
 i:∀ st,subV cells st tav (.int i)=some (.str m)
 j:∀ st,subV cells st tav (.int j)=some T.av
 it:∀ ρ lh g ns,dget ρ 7=some (.lst (ns.map varE))→evalE cells (callP cells bodies (n+2)) it ⟨ρ,lh,g⟩=some (.lst ((rv ns).map varE),⟨ρ,lh,g⟩)
 el:∀ lh g ρ acc y,dget ρ 20=some acc→Plain acc→evalE cells (callP cells bodies (n+2)) el ⟨(18,varE y)::ρ,lh,g⟩=some (f acc y,⟨(18,varE y)::ρ,lh,g⟩)
 f:∀ a y,Plain (f a y)
 wO:O.wf
 wT:T.wf
 hm:m<5
 dO:O.depth≤1
 dT:T.depth≤1
 hn:1<n+1
 hx:∀ ρ lh g G1 ov X,dget ρ 36=some .opener→dget ρ x=some X→Plain X→callP cells bodies (n+2) .mEachOf [.opener,X] g=some (ov,G1)→evalE cells (callP cells bodies (n+2)) (.meth .mEachOf (.var 36) [.var x]) ⟨ρ,lh,g⟩=some (ov,⟨ρ,lh,G1⟩)
noncomputable def pH (z:Nat):Bool:=!Nat.beq 25 z&&(!Nat.beq 7 z&&(!Nat.beq 41 z&&(!Nat.beq 20 z&&!Nat.beq 18 z)))
theorem pH_not {z:Nat} (h:pH z=true):not2 18 20 z=true:=by
 have h:=(Bool.and_eq_true_iff.mp (Bool.and_eq_true_iff.mp (Bool.and_eq_true_iff.mp h).2).2).2
 exact Bool.and_eq_true_iff.mpr ⟨(Bool.and_eq_true_iff.mp h).2,(Bool.and_eq_true_iff.mp h).1⟩
section
variable {cells:List Int} {n:Nat} {S:Sets} {i j x:Nat} {it el:PE} {rv:List Nat→List Nat} {f:AV→Nat→AV} {tav:AV} {m:Nat} {O T:Tr} {g g' G1:GS} {V:AV} {ρ:List (Nat×AV)} {found:List AV} {c:Nat}
noncomputable abbrev Jl (found:List AV):List (LO×Bool):=[(.lst found,false)]
theorem ev_app {call:Fn→List AV→GS→Option (AV×GS)} {e:PE} {v:AV} (h:dget ρ 13=some (.loc 0)) (he:evalE cells call e ⟨ρ,Jl found,g⟩=some (v,⟨ρ,Jl found,g'⟩)) (pv:Plain v) (hl:found.length+1≤1000000) :
  execS cells call (.app 13 e) ⟨ρ,Jl found,g⟩=some (.next,⟨ρ,Jl (found++[v]),g'⟩):=by
 show (dget ρ 13).bind (fun ov=>(listOf (Jl found) ov).bind fun _=>bnd (evalE cells call e ⟨ρ,Jl found,g⟩) fun v st=>bnd (keep1 v st) fun v st=>nxt (growV ov [v] st))=_
 rw [h]
 refine (bnd_some (f:=fun v st=>bnd (keep1 v st) fun v st=>nxt (growV (.loc 0) [v] st)) he).trans ?_
 show bnd ((freeze (Jl found) v).map _) _=_
 rw [pv]
 show nxt (growV (.loc 0) [v] ⟨ρ,Jl found,g'⟩)=_
 rw [grow_of (more:=[v]) (J:=[]) hl]
 rfl
structure Bears2 (S:Sets) (x:Nat) (tav:AV) (O:Tr) (V:AV) (ρ:List (Nat×AV)):Prop where
 h36:dget ρ 36=some .opener
 h30:dget ρ 30=some V
 h10:dget ρ 10=some tav
 h29:dget ρ 29=some (opEnv S)
 hx:dget ρ x=some (exprP S O)
 h13:dget ρ 13=some (.loc 0)
theorem cond_ok (X:Half cells n S i j x it el rv f tav m O T) (B:Bears2 S x tav O V ρ):evalE cells (callP cells bodies (n+2)) (markC i j) ⟨ρ,Jl found,g⟩=some (.bool (marked2 m||watchedP T),⟨ρ,Jl found,g⟩):=by
 have ei:=isMarked_ok (cells:=cells) T X.wT (n+2) (Nat.lt_of_le_of_lt X.dT (Nat.lt_succ_of_lt X.hn)) g
 match e1:marked2 m with
 | true=>exact evR [.v 10 tav,.o (.str m),.o (.bool true)] (k3 B.h10 (X.i ⟨ρ,Jl found,g⟩) (nin (lh:=Jl found) X.hm e1)) (by kernel_rfl!)
 | false =>
  cases e2:watchedP T <;> rw [e2] at ei
  ·exact evR [.v 10 tav,.o (.str m),.o (.bool false),.v 36 .opener,.v 10 tav,.o T.av,.k,.c (.bool false) g] (k8 B.h10 (X.i ⟨ρ,Jl found,g⟩) (nin (lh:=Jl found) X.hm e1) B.h36 B.h10 (X.j ⟨ρ,Jl found,g⟩) (fzT (lh:=Jl found) T) ei) (by kernel_rfl!)
  ·exact evR [.v 10 tav,.o (.str m),.o (.bool false),.v 36 .opener,.v 10 tav,.o T.av,.k,.c (.bool true) g] (k8 B.h10 (X.i ⟨ρ,Jl found,g⟩) (nin (lh:=Jl found) X.hm e1) B.h36 B.h10 (X.j ⟨ρ,Jl found,g⟩) (fzT (lh:=Jl found) T) ei) (by kernel_rfl!)
theorem inner_ok (X:Half cells n S i j x it el rv f tav m O T) {R:AV} (pR:Plain R) {k:Nat}
  (hrec:watchedP T=true→∀ V,Plain V→∃ g',Mr (cnt g k) g' (markedF S T V k).2 T.mc∧callP cells bodies (n+1) .mMarked [.opener,V,T.av,opEnv S] (cnt g k)=some (.lst (markedF S T V k).1,g')) :
  ∃ g',Mr (cnt g k) g' (inner (watchedP T) (markedF S T) R k).2 T.mc∧callP cells bodies (n+2) .mSide [.opener,R,.str m,T.av,opEnv S] (cnt g k)=some (allOfP (multPart m R++(inner (watchedP T) (markedF S T) R k).1),g'):=by
 have hn:=Nat.lt_of_le_of_lt X.dT X.hn
 have f:=marked_facts (S:=S) T R k
 cases hw:watchedP T
 ·exact ⟨cnt g k,.same rfl (mc_pos T),side_ok X.wT pR X.hm hn (Nat.zero_le 2) (fun _ h=>nomatch h) (by rw [hw];exact ⟨rfl,rfl⟩)⟩
 ·obtain ⟨g',h1,h2⟩:=hrec hw R pR
  exact ⟨g',h1,side_ok X.wT pR X.hm hn f.2.1 f.1 (by rw [hw];exact h2)⟩
theorem block_ok (X:Half cells n S i j x it el rv f tav m O T) (B:Bears2 S x tav O V ρ) (pV:Plain V) {ns:List Nat} (h0:0<ns.length) {l:List AV} (pl:∀ y∈l,Plain y) (hf:found.length+1≤1000000)
  (ee:callP cells bodies (n+2) .mEachOf [.opener,exprP S O] g=some (.tup [.tup (declsP ns (exprP S O)),.lst (ns.map varE),guardV ns (exprP S O)],G1))
  (es:callP cells bodies (n+2) .mSide [.opener,(rv ns).foldl f V,.str m,T.av,opEnv S] G1=some (allOfP (multPart m ((rv ns).foldl f V)++l),g')) :
  ∃ ρ',Sm pH ρ ρ'∧execSs cells (callP cells bodies (n+2)) (markB i j x it el) ⟨ρ,Jl found,g⟩=some (.next,⟨ρ',Jl (found++[onF m ns (exprP S O) ((rv ns).foldl f V) l]),g'⟩):=by
 obtain ⟨ρ2,e3,h20,hz⟩:=loop_fold (cells:=cells) (call:=callP cells bodies (n+2)) (g:=G1) (y:=20) (e:=el) (lh:=Jl found) f X.f (X.el (Jl found) G1) (rv ns) ((20,V)::(41,guardV ns (exprP S O))::(7,.lst (ns.map varE))::(25,.tup (declsP ns (exprP S O)))::ρ) V rfl pV
 have sm:Sm pH ρ ρ2:=fun z hz'=>(hz z (pH_not hz')).trans (by
  have a:=Bool.and_eq_true_iff.mp hz';have b:=Bool.and_eq_true_iff.mp a.2;have c:=Bool.and_eq_true_iff.mp b.2;have d:=Bool.and_eq_true_iff.mp c.2
  exact (dget_other ((Bool.not_eq_true' _).mp d.1)).trans ((dget_other ((Bool.not_eq_true' _).mp c.1)).trans ((dget_other ((Bool.not_eq_true' _).mp b.1)).trans (dget_other ((Bool.not_eq_true' _).mp a.1)))))
 have pR:Plain ((rv ns).foldl f V):=foldl_plain _ X.f _ V pV
 have pA:=allOfP_plain _ (part_plain (m:=m) (V:=(rv ns).foldl f V) pl)
 have pG:=guardedF_plain (X:=exprP S O) h0 pA
 have eg:=guarded_ok (cells:=cells) (n:=n+1) (g:=g') (X:=exprP S O) h0 pA
 have ef:execS cells (callP cells bodies (n+2)) (.for_ (.v 18) it [.asg (.v 20) el]) ⟨(20,V)::(41,guardV ns (exprP S O))::(7,.lst (ns.map varE))::(25,.tup (declsP ns (exprP S O)))::ρ,Jl found,G1⟩=some (.next,⟨ρ2,Jl found,G1⟩) :=
  for_eq (X.it _ (Jl found) G1 ns rfl) rfl e3
 have ea:evalE cells (callP cells bodies (n+2)) (.tup [.str 12,.var 25,.meth .mGuarded (.var 36) [.var 41,.meth .mSide (.var 36) [.var 20,.sub (.var 10) (.int i),.sub (.var 10) (.int j),.var 29]]]) ⟨ρ2,Jl found,G1⟩=some (onF m ns (exprP S O) ((rv ns).foldl f V) l,⟨ρ2,Jl found,g'⟩) :=
  evR [.v 25 (.tup (declsP ns (exprP S O))),.v 36 .opener,.v 41 (guardV ns (exprP S O)),.k,.v 36 .opener,.v 20 ((rv ns).foldl f V),.k,.v 10 tav,.o (.str m),.v 10 tav,.o T.av,.k,.v 29 (opEnv S),.c (allOfP (multPart m ((rv ns).foldl f V)++l)) g',.k,.c (guardedF ns (exprP S O) (allOfP (multPart m ((rv ns).foldl f V)++l))) g',.k]
   ((k7 (hz 25 rfl) ((sm 36 rfl).trans B.h36) (hz 41 rfl) (guardV_plain (X:=exprP S O) h0 (Jl found)) ((sm 36 rfl).trans B.h36) h20 (pR (Jl found))).comp
    (k10 ((sm 10 rfl).trans B.h10) (X.i ⟨ρ2,Jl found,G1⟩) ((sm 10 rfl).trans B.h10) (X.j ⟨ρ2,Jl found,G1⟩) (fzT (lh:=Jl found) T) ((sm 29 rfl).trans B.h29) es (pA (Jl found)) eg (pG (Jl found)))) (by kernel_rfl!)
 have eb:=ev_app ((sm 13 rfl).trans B.h13) ea (fun _=>rfl) hf
 have e1:execS cells (callP cells bodies (n+2)) (.asg (.t [25,7,41]) (.meth .mEachOf (.var 36) [.var x])) ⟨ρ,Jl found,g⟩=some (.next,⟨(41,guardV ns (exprP S O))::(7,.lst (ns.map varE))::(25,.tup (declsP ns (exprP S O)))::ρ,Jl found,G1⟩) :=
  bnd_some (f:=fun v st=>nxt (bindT (.t [25,7,41]) v st)) (X.hx ρ (Jl found) g G1 _ _ B.h36 B.hx (exprP_plain O) ee)
 exact ⟨ρ2,sm,exssR [.y .next ⟨(41,guardV ns (exprP S O))::(7,.lst (ns.map varE))::(25,.tup (declsP ns (exprP S O)))::ρ,Jl found,G1⟩,.v 30 V,.x .next ⟨ρ2,Jl found,G1⟩,.y .next ⟨ρ2,Jl (found++[onF m ns (exprP S O) ((rv ns).foldl f V) l]),g'⟩] (k4 e1 B.h30 ef eb) (by kernel_rfl!)⟩
theorem half_ok (X:Half cells n S i j x it el rv f tav m O T) (B:Bears2 S x tav O V ρ) (pV:Plain V) (hc:g.count=(c:Nat)) (hc2:c<700000) (hf:found.length+1≤1000000)
  (hrec:watchedP T=true→∀ V,Plain V→∃ g',Mr (cnt g (c+O.ar)) g' (markedF S T V (c+O.ar)).2 T.mc∧callP cells bodies (n+1) .mMarked [.opener,V,T.av,opEnv S] (cnt g (c+O.ar))=some (.lst (markedF S T V (c+O.ar)).1,g')) :
  ∃ ρ' g',Mr g g' (halfF S m O (watchedP T) (fun ns=>(rv ns).foldl f V) (markedF S T) c).2 T.mc∧Sm pH ρ ρ' ∧
   execS cells (callP cells bodies (n+2)) (markS i j x it el) ⟨ρ,Jl found,g⟩=some (.next,⟨ρ',Jl (found++(halfF S m O (watchedP T) (fun ns=>(rv ns).foldl f V) (markedF S T) c).1),g'⟩):=by
 have hcond:=cond_ok (found:=found) (g:=g) X B
 have un:execS cells (callP cells bodies (n+2)) (markS i j x it el) ⟨ρ,Jl found,g⟩=bnd (evalE cells (callP cells bodies (n+2)) (markC i j) ⟨ρ,Jl found,g⟩) fun x' st=>brV x' (execSs cells (callP cells bodies (n+2)) (markB i j x it el) st) (execSs cells (callP cells bodies (n+2)) [] st):=rfl
 unfold halfF
 rw [un,hcond]
 cases (marked2 m||watchedP T)
 ·exact ⟨ρ,g,.same hc (mc_pos T),.refl,congrArg (fun l=>some (Fl.next,(⟨ρ,Jl l,g⟩:St))) (List.append_nil found).symm⟩
 ·have nl:=namesP_len O.ar c
  have ee:=each_ok (cells:=cells) (n:=n) (g:=g) (S:=S) X.wO (Nat.le_succ_of_le X.dO) hc (Nat.lt_trans hc2 (by decide)) (Nat.lt_of_le_of_lt X.dO X.hn)
  obtain ⟨g',m',es⟩:=inner_ok (R:=(rv (namesP c O.ar)).foldl f V) X (foldl_plain _ X.f _ V pV) hrec
  obtain ⟨ρ',sm,eb⟩:=block_ok X B pV (nl.symm▸ar_pos O) inner_plain.1 hf ee es
  exact ⟨ρ',g',⟨m'.1,m'.2,m'.3,m'.4⟩,sm,eb⟩
end
section
variable {cells:List Int} {n:Nat} {S:Sets} {m1 m2:Nat} {l r:Tr}
theorem left_half (w:(Tr.arr m1 m2 l r).wf) (dl:l.depth≤1) (dr:r.depth≤1) (hn:1<n+1):Half cells n S 3 5 9 (.var 7) (.tup [.str 11,.var 18,.var 20]) (fun ns=>ns) (fun acc y=>joinE (varE y) acc) (Tr.arr m1 m2 l r).av m2 l r :=
 ⟨fun _=>rfl,fun _=>rfl,fun ρ lh g ns h=>evR [.v 7 (.lst (ns.map varE))] (k1 h) (by kernel_rfl!),fun lh g ρ acc y h pa=>evR [.v 20 acc,.k] (k2 h (pa lh)) (by kernel_rfl!),fun _ _ _=>rfl,w.2.2.1,w.2.2.2,w.2.1,dl,dr,hn,
  fun ρ lh g G1 ov X h36 hx pX e=>evR [.v 36 .opener,.v 9 X,.k,.c ov G1] (k4 h36 hx (pX lh) e) (by kernel_rfl!)⟩
theorem right_half (w:(Tr.arr m1 m2 l r).wf) (dl:l.depth≤1) (dr:r.depth≤1) (hn:1<n+1):Half cells n S 2 4 12 (.rev (.var 7)) (.tup [.str 11,.var 20,.var 18]) List.reverse (fun acc y=>joinE acc (varE y)) (Tr.arr m1 m2 l r).av m1 r l :=
 ⟨fun _=>rfl,fun _=>rfl,fun ρ lh g ns h=>evR [.v 7 (.lst (ns.map varE)),.o (.lst (ns.reverse.map varE))] (k2 h (congrArg (fun l=>some (AV.lst l)) (List.map_reverse (f:=varE) (l:=ns)).symm)) (by kernel_rfl!),fun lh g ρ acc y h pa=>evR [.v 20 acc,.k] (k2 h (pa lh)) (by kernel_rfl!),fun _ _ _=>rfl,w.2.2.2,w.2.2.1,w.1,dr,dl,hn,
  fun ρ lh g G1 ov X h36 hx pX e=>evR [.v 36 .opener,.v 12 X,.k,.c ov G1] (k4 h36 hx (pX lh) e) (by kernel_rfl!)⟩
theorem watched_pos:∀ {T:Tr},watchedP T=true→0<T.depth
 | .leaf _,h=>nomatch h
 | .arr _ _ _ _,_=>Nat.succ_pos _
noncomputable abbrev rho0 (S:Sets) (m1 m2:Nat) (l r:Tr) (V:AV):List (Nat×AV):=[(13,.loc 0),(12,exprP S r),(9,exprP S l),(29,opEnv S),(10,(Tr.arr m1 m2 l r).av),(30,V),(36,.opener)]
theorem marked_ok:∀ T:Tr,0<T.depth→T.wf→T.depth≤2→∀ N,2*T.depth+8≤N→∀ (V:AV) (g:GS) (c:Nat),Plain V→g.count=(c:Nat)→c+T.tot<700000→g.spent+T.mc≤20000→g.height+10≤100 →
  ∃ g',Mr g g' (markedF S T V c).2 T.mc∧callP cells bodies N .mMarked [.opener,V,T.av,opEnv S] g=some (.lst (markedF S T V c).1,g')
 | .leaf _,h,_,_,_,_,_,_,_,_,_,_,_,_=>absurd h (Nat.lt_irrefl 0)
 | .arr m1 m2 l r,_,w,hd,N,hN,V,g,c,pV,hc,hc2,hs,hh=>by
  have hd1:max l.depth r.depth+1≤2:=hd
  have hN1:2*(max l.depth r.depth+1)+8≤N:=hN
  have hc3:c+(l.ar+r.ar+r.tot+l.tot)<700000:=hc2
  have hs1:g.spent+(l.cost+r.cost+r.mc+l.mc)≤20000:=hs
  obtain ⟨n,rfl⟩:∃ n,N=n+3:=⟨N - 3,(Nat.sub_add_cancel (Nat.le_trans (Nat.le_trans (by decide:3≤8) (Nat.le_add_left 8 _)) hN1)).symm⟩
  have hn:2*(max l.depth r.depth+1)+8≤n+3:=hN1
  have dl:l.depth≤1:=Nat.le_trans (Nat.le_max_left _ _) (Nat.le_of_succ_le_succ hd1)
  have dr:r.depth≤1:=Nat.le_trans (Nat.le_max_right _ _) (Nat.le_of_succ_le_succ hd1)
  have n6:2*max l.depth r.depth+7≤n:=Nat.le_of_add_le_add_right (b:=3) hn
  have nl:2*l.depth+7≤n:=Nat.le_trans (Nat.add_le_add_right (Nat.mul_le_mul_left 2 (Nat.le_max_left _ _)) 7) n6
  have nr:2*r.depth+7≤n:=Nat.le_trans (Nat.add_le_add_right (Nat.mul_le_mul_left 2 (Nat.le_max_right _ _)) 7) n6
  clear hN1 hN hn n6
  have k1':=cost_pos l
  have k2':=cost_pos r
  have k3':=mc_pos l
  have k4':=mc_pos r
  have p4:=as4 hs1
  have p3:=up_r p4 k3'
  have p2:=up_r p3 k4'
  have t4:=tot4 l.ar r.ar r.tot l.tot
  obtain ⟨g1,r1,e1⟩:=expr_ok (cells:=cells) (S:=S) l w.2.2.1 (n+2) (Nat.le_trans (Nat.add_le_add_left (by decide:4≤7) _) (Nat.le_trans nl (Nat.le_add_right n 2))) g (up_r p2 k2') (hgt hh dl)
  have a3:=r1.4
  obtain ⟨g2,r2,e2⟩:=expr_ok (cells:=cells) (S:=S) r w.2.2.2 (n+2) (Nat.le_trans (Nat.add_le_add_left (by decide:4≤7) _) (Nat.le_trans nr (Nat.le_add_right n 2))) g1 (st a3 _ p2) (hgt (r1.2.symm▸hh) dr)
  have b3:=Int.le_trans r2.4 (Int.add_le_add_right a3 _)
  have h2:g2.height=g.height:=r2.2.trans r1.2
  have c2:g2.count=(c:Nat):=r2.3.trans (r1.3.trans hc)
  have hn1:1<n+1:=Nat.succ_lt_succ (Nat.lt_of_lt_of_le (by decide:0<7) (Nat.le_trans (Nat.le_add_left 7 _) nl))
  have up:∀ {T:Tr},2*T.depth+7≤n→2*T.depth+8≤n+1:=fun h=>Nat.succ_le_succ h
  obtain ⟨ρ1,g3,M1,z1,f1⟩:=half_ok (g:=g2) (V:=V) (found:=[]) (left_half (cells:=cells) (S:=S) w dl dr hn1) ⟨rfl,rfl,rfl,rfl,rfl,rfl⟩ (ρ:=rho0 S m1 m2 l r V) pV c2 (by lia) (by decide)
   fun hw V' pV'=>marked_ok r (watched_pos hw) w.2.2.2 (Nat.le_succ_of_le dr) (n+1) (up nr) V' (cnt g2 (c+l.ar)) (c+l.ar) pV' rfl (by lia) (st b3 _ p3) (by show g2.height+10≤100;rw [h2];exact hh)
  have F1:=half_facts (S:=S) (m:=m2) (one:=l) (w:=watchedP r) (rest:=restLE V) (c:=c) fun V c=>(marked_facts (S:=S) r V c).2.2
  have d3:=Int.le_trans M1.4 (Int.add_le_add_right b3 _)
  have h3:g3.height=g.height:=M1.2.trans h2
  show ∃ g',Mr g g' (both (halfF S m2 l (watchedP r) (restLE V) (markedF S r) c) (halfF S m1 r (watchedP l) (restRE V) (markedF S l))).2 (l.cost+r.cost+r.mc+l.mc)∧callP cells bodies (n+3) .mMarked [.opener,V,(Tr.arr m1 m2 l r).av,opEnv S] g=some (.lst (both (halfF S m2 l (watchedP r) (restLE V) (markedF S r) c) (halfF S m1 r (watchedP l) (restRE V) (markedF S l))).1,g')
  change execS cells (callP cells bodies (n+2)) (markS 3 5 9 (.var 7) (.tup [.str 11,.var 18,.var 20])) ⟨rho0 S m1 m2 l r V,Jl [],g2⟩=some (.next,⟨ρ1,Jl ([]++(halfF S m2 l (watchedP r) (restLE V) (markedF S r) c).1),g3⟩) at f1
  have M1c:g3.count=((halfF S m2 l (watchedP r) (restLE V) (markedF S r) c).2:Nat):=M1.3
  generalize halfF S m2 l (watchedP r) (restLE V) (markedF S r) c=q1 at *
  have q2:=F1.2.2
  obtain ⟨ρ2,g4,M2,z2,f2⟩:=half_ok (g:=g3) (V:=V) (found:=q1.1) (c:=q1.2) (right_half (cells:=cells) (S:=S) w dl dr hn1) ⟨z1 36 rfl,z1 30 rfl,z1 10 rfl,z1 29 rfl,z1 12 rfl,z1 13 rfl⟩ (ρ:=ρ1) pV M1c (by lia) (Nat.le_trans (Nat.succ_le_succ F1.2.1) (by decide))
   fun hw V' pV'=>marked_ok l (watched_pos hw) w.2.2.1 (Nat.le_succ_of_le dl) (n+1) (up nl) V' (cnt g3 (q1.2+r.ar)) (q1.2+r.ar) pV' rfl (by lia) (st d3 _ p4) (by show g3.height+10≤100;rw [h3];exact hh)
  have x3:=M2.4
  refine ⟨g4,⟨M2.1.trans (M1.1.trans (r2.1.trans r1.1)),M2.2.trans h3,M2.3,as4' (Int.le_trans x3 (Int.add_le_add_right d3 _))⟩,?_⟩
  have e0:execS cells (callP cells bodies (n+2)) (.asgT [9,12,13] [.meth .mExpr (.var 36) [.sub (.var 10) (.int 4),.var 29],.meth .mExpr (.var 36) [.sub (.var 10) (.int 5),.var 29],.lst []]) ⟨[(29,opEnv S),(10,(Tr.arr m1 m2 l r).av),(30,V),(36,.opener)],[],g⟩=some (.next,⟨rho0 S m1 m2 l r V,Jl [],g2⟩) :=
   exsR [.k,.c (exprP S l) g1,.k,.c (exprP S r) g2] (k4 (fzT (lh:=[]) l) e1 (fzT (lh:=[]) r) e2) (by kernel_rfl!)
  exact cR [.y .next ⟨rho0 S m1 m2 l r V,Jl [],g2⟩,.y .next ⟨ρ1,Jl q1.1,g3⟩,.y .next ⟨ρ2,Jl (both q1 (halfF S m1 r (watchedP l) (restRE V) (markedF S l))).1,g4⟩,.v 13 (.loc 0)] (k4 e0 f1 f2 ((z2 13 rfl).trans (z1 13 rfl))) (by kernel_rfl!)
end
def B (cells:List Int) (c:Nat) (X:AV) (ns:List Nat):Prop:=Plain X∧ns.length≤1000∧∀ n,c≤n→∀ g,callP cells bodies n .bound [X] g=some (.lst (ns.map .str),g)
section
variable {cells:List Int} {c:Nat}
theorem B.mono {X:AV} {b:List Nat} (h:B cells c X b) {d:Nat} (q:c≤d):B cells d X b:=⟨h.1,h.2.1,fun n hn g=>h.2.2 n (Nat.le_trans q hn) g⟩
theorem B_true:B cells 1 (.tup [.str 14]) []:=⟨fun _=>rfl,Nat.zero_le _,fun n hn g=>lt_pred (P:=fun n=>callP cells bodies n .bound [.tup [.str 14]] g=some (.lst [],g)) hn fun n _=>cR [] .nil (by kernel_rfl!)⟩
theorem B_mult {a:AV} {m:Nat} (h5:m<5):B cells 1 (multF m a) []:=⟨fun _=>rfl,Nat.zero_le _,fun n hn g=>lt_pred (P:=fun n=>callP cells bodies n .bound [multF m a] g=some (.lst [],g)) hn fun n _ =>
 cR [.b false,.b false,.b false] (k3 (m_ne h5 7) (m_ne h5 8) (m_ne h5 11)) (by kernel_rfl!)⟩
theorem B_imp {a b:AV} {ns:List Nat} (hb:B cells c b ns):B cells (c+1) (impF a b) ns:=⟨fun _=>rfl,hb.2.1,fun n hn g=>lt_pred (P:=fun n=>callP cells bodies n .bound [impF a b] g=some (.lst (ns.map .str),g)) hn fun n hn =>
 cR [.b false,.b false,.b true,.g,.k,.c (.lst (ns.map .str)) g] (k5 ff ff tt (hb.1 []) (hb.2.2 n hn g)) (by kernel_rfl!)⟩
theorem B_and {fs:List (AV×List Nat)} (hf:∀ p∈fs,B cells c p.1 p.2) (hl:(fs.flatMap (·.2)).length≤1000):B cells (c+1) (andF (fs.map (·.1))) (fs.flatMap (·.2)):=⟨fun _=>rfl,hl,fun n hn g=>lt_pred (P:=fun n=>callP cells bodies n .bound [andF (fs.map (·.1))] g=some (.lst ((fs.flatMap (·.2)).map .str),g)) hn fun n hn=>by
 have ef:(fs.flatMap (·.2)).map AV.str=fs.flatMap fun p=>p.2.flatMap fun x=>[AV.str x]:=by
  rw [List.map_flatMap]
  congr 1
  funext p
  rw [flat_map_one]
 have hc:=eval_comp2 (cells:=cells) (call:=callP cells bodies n) (lh:=[]) (g:=g) (ρ:=[(25,andF (fs.map (·.1)))])
  (elt:=.var 26) (x:=18) (y:=26) (it1:=.sub (.var 25) (.int 1)) (it2:=.call .bound [.var 18]) (c:=.none_) (xs:=fs) (v:=(·.1)) (w:=.str) (iv:=.tup (fs.map (·.1))) (fun p=>.lst (p.2.map .str)) (fun p=>p.2) (fun p x=>[.str x])
  (evR [] .nil (by kernel_rfl!)) rfl (fun ρ' _ p hp=>evR [.k,.c (.lst (p.2.map .str)) g] (k2 ((hf p hp).1 []) ((hf p hp).2.2 n hn g)) (by kernel_rfl!)) (fun _ _=>rfl) (fun p _ ρ' _ _ x _=>ttR [] .nil (by kernel_rfl!)) rfl rfl rfl (by rw [← ef,List.length_map];exact le_mil hl)
 rw [← ef] at hc
 exact cR [.b false,.b true,.e (.lst ((fs.flatMap (·.2)).map .str)) ⟨[(25,andF (fs.map (·.1)))],[],g⟩] (k3 ff tt hc) (by kernel_rfl!)⟩
theorem decl_loop {call:Fn→List AV→GS→Option (AV×GS)} {g:GS}:∀ (ds:List (Nat×AV)) (ρ:List (Nat×AV)),∃ ρ',loopC (.t [26,23]) (testThen (isNoneE .none_) (evalE cells call .none_) (evalE cells call (.var 26))) (ds.map fun d=>declF d.1 d.2) ⟨ρ,[],g⟩=some (ds.map fun d=>.str d.1,⟨ρ',[],g⟩)
 | [],ρ=>⟨ρ,rfl⟩
 | d::ds,ρ =>
  let ⟨ρ',e⟩:=decl_loop (call:=call) (g:=g) ds ((23,d.2)::(26,.str d.1)::ρ)
  ⟨ρ',(bnd_some (f:=fun ys st=>bnd (loopC (.t [26,23]) (testThen (isNoneE .none_) (evalE cells call .none_) (evalE cells call (.var 26))) (ds.map fun d=>declF d.1 d.2) st) fun zs st=>some (ys++zs,st)) (show testThen (isNoneE .none_) (evalE cells call .none_) (evalE cells call (.var 26)) ⟨(23,d.2)::(26,.str d.1)::ρ,[],g⟩=some ([AV.str d.1],(⟨(23,d.2)::(26,.str d.1)::ρ,[],g⟩:St)) from ttR [] .nil (by kernel_rfl!))).trans (bnd_some (f:=fun zs st=>some ([AV.str d.1]++zs,st)) e)⟩
theorem B_all {ds:List (Nat×AV)} {b:AV} {ns:List Nat} (hb:B cells c b ns) (hl:ds.length+ns.length≤1000):B cells (c+1) (allF (ds.map fun d=>declF d.1 d.2) b) (ds.map (·.1)++ns):=⟨fun _=>rfl,by rw [List.length_append,List.length_map];exact hl,fun n hn g=>lt_pred (P:=fun n=>callP cells bodies n .bound [allF (ds.map fun d=>declF d.1 d.2) b] g=some (.lst ((ds.map (·.1)++ns).map .str),g)) hn fun n hn=>by
 obtain ⟨ρ',e⟩:=decl_loop (cells:=cells) (call:=callP cells bodies n) (g:=g) ds [(25,allF (ds.map fun d=>declF d.1 d.2) b)]
 rw [show (ds.map fun d=>AV.str d.1)=(ds.map (·.1)).map .str from (List.map_map ..).symm] at e
 have e1:=comp_eq (elt:=.var 26) (c:=.none_) (st:=⟨[(25,allF (ds.map fun d=>declF d.1 d.2) b)],[],g⟩) (iv:=.tup (ds.map fun d=>declF d.1 d.2)) (it:=.sub (.var 25) (.int 1)) (evR [] .nil (by kernel_rfl!)) rfl e rfl (by rw [List.length_map,List.length_map];exact le_mil (Nat.le_trans (Nat.le_add_right _ _) hl))
 have e3:=app_strs (lh:=[]) (x:=ds.map (·.1)) (y:=ns) (by rw [List.length_map];exact le_mil hl)
 exact cR [.b true,.e (.lst ((ds.map (·.1)).map .str)) ⟨[(25,allF (ds.map fun d=>declF d.1 d.2) b)],[],g⟩,.g,.k,.c (.lst (ns.map .str)) g,.o (.lst ((ds.map (·.1)++ns).map .str))] (k5 tt e1 (hb.1 []) (hb.2.2 n hn g) e3) (by kernel_rfl!)⟩
theorem B_allOf:∀ {fs:List (AV×List Nat)},1≤c→(∀ p∈fs,B cells c p.1 p.2)→(fs.flatMap (·.2)).length≤1000→B cells (c+1) (allOfP (fs.map (·.1))) (fs.flatMap (·.2))
 | [],h1,_,_=>B_true.mono (Nat.le_succ_of_le h1)
 | [p],_,hf,_=>by
  show B cells (c+1) p.1 (p.2++[])
  rw [List.append_nil]
  exact (hf p (.head _)).mono (Nat.le_succ c)
 | p::q::r,_,hf,hl=>B_and hf hl
theorem names_app:∀ (a c b:Nat),namesP c (a+b)=namesP c a++namesP (c+a) b
 | 0,c,b=>by rw [Nat.zero_add];rfl
 | a+1,c,b=>by
  rw [Nat.succ_add]
  show (1001+c)::namesP (c+1) (a+b)=((1001+c)::namesP (c+1) a)++namesP (c+(a+1)) b
  rw [names_app a (c+1) b,Nat.add_assoc c 1 a,Nat.add_comm 1 a]
  rfl
theorem decls_shape:∀ (ns:List Nat) (X:AV),∃ ds:List (Nat×AV),declsP ns X=ds.map (fun d=>declF d.1 d.2)∧ds.map (·.1)=ns
 | [],_=>⟨[],rfl,rfl⟩
 | [x],X=>⟨[(x,X)],rfl,rfl⟩
 | x::y::r,X=>⟨(x::y::r).map fun n=>(n,univE),by rw [List.map_map];rfl,by rw [List.map_map];exact List.map_id _⟩
def Bound (cells:List Int) (k:Nat) (c:Nat) (p:List AV×Nat):Prop:=c≤p.2∧∃ fs:List (AV×List Nat),fs.map (·.1)=p.1∧(∀ q∈fs,B cells k q.1 q.2)∧fs.flatMap (·.2)=namesP c (p.2 - c)
theorem Bound.nil {k c:Nat}:Bound cells k c ([],c):=⟨Nat.le_refl c,[],rfl,(fun _ h=>nomatch h),(congrArg (namesP c) (Nat.sub_self c)).symm⟩
theorem Bound.mono {k k':Nat} {p:List AV×Nat} (h:Bound cells k c p) (q:k≤k'):Bound cells k' c p:=⟨h.1,h.2.elim fun fs h=>⟨fs,h.1,fun z hz=>(h.2.1 z hz).mono q,h.2.2⟩⟩
theorem Bound.app {k:Nat} {p1:List AV×Nat} {p2:Nat→List AV×Nat} (h1:Bound cells k c p1) (h2:∀ c,Bound cells k c (p2 c)):Bound cells k c (both p1 p2):=by
 obtain ⟨a1,fs,a2,a3,a4⟩:=h1
 obtain ⟨b1,gs,b2,b3,b4⟩:=h2 p1.2
 refine ⟨Nat.le_trans a1 b1,fs++gs,by rw [List.map_append,a2,b2];rfl,fun q hq=>(List.mem_append.mp hq).elim (a3 q) (b3 q),?_⟩
 rw [List.flatMap_append,a4,b4]
 show _=namesP c ((p2 p1.2).2 - c)
 rw [← Nat.sub_add_sub_cancel b1 a1,Nat.add_comm,names_app,Nat.add_sub_cancel' a1]
theorem B_guarded {ns:List Nat} (h:0<ns.length) {X Φ:AV} {b:List Nat} {k:Nat} (hb:B cells k Φ b):B cells (k+1) (guardedF ns X Φ) b :=
 list2 (P:=fun ns=>B cells (k+1) (guardedF ns X Φ) b) (fun _=>hb.mono (Nat.le_succ k)) (fun _ _ _=>B_imp hb) ns h
theorem part_bound {m:Nat} (hm:m<5) {k:Nat} (hk:1≤k) {V:AV}:∃ gs:List (AV×List Nat),gs.map (·.1)=multPart m V∧(∀ q∈gs,B cells k q.1 q.2)∧gs.flatMap (·.2)=[]:=by
 unfold multPart
 cases marked2 m
 ·exact ⟨[],rfl,(fun _ h=>nomatch h),rfl⟩
 ·exact ⟨[(multF m V,[])],rfl,fun q hq=>List.mem_singleton.mp hq▸(B_mult hm).mono hk,rfl⟩
theorem on_bound {m:Nat} {ns:List Nat} {X R:AV} {p:List AV×Nat} {k:Nat} (hk:1≤k) (hm:m<5) (h8:ns.length≤8) (h0:0<ns.length) (hp:Bound cells k (c+ns.length) p) (h5:p.2≤c+ns.length+500) (hn:ns=namesP c ns.length):Bound cells (k+3) c ([onF m ns X R p.1],p.2):=by
 obtain ⟨hq1,fs,hfs,hB,hnm⟩:=hp
 obtain ⟨gs,hgs,hGB,hgn⟩:=part_bound (cells:=cells) (m:=m) hm hk (V:=R)
 have hnl:(fs.flatMap (·.2)).length≤500:=by rw [hnm,namesP_len];exact Nat.sub_le_iff_le_add'.mpr h5
 have hall:=B_allOf (cells:=cells) (fs:=gs++fs) hk (fun p hp=>(List.mem_append.mp hp).elim (hGB p) (hB p)) (by rw [List.flatMap_append,hgn,List.nil_append];exact Nat.le_trans hnl (by decide))
 rw [List.flatMap_append,hgn,List.nil_append,List.map_append,hgs,hfs] at hall
 obtain ⟨ds,hd1,hd2⟩:=decls_shape ns X
 have hA:=B_all (ds:=ds) (B_guarded (X:=X) h0 hall) (by rw [← List.length_map (·.1),hd2];exact Nat.le_trans (Nat.add_le_add h8 hnl) (by decide))
 rw [← hd1,hd2] at hA
 refine ⟨Nat.le_trans (Nat.le_add_right c _) hq1,[(_,_)],rfl,fun z hz=>List.mem_singleton.mp hz▸hA,?_⟩
 show (ns++fs.flatMap (·.2))++[]=_
 rw [List.append_nil,hnm,show p.2 - c=ns.length+(p.2 - (c+ns.length)) by lia,names_app,← hn]
theorem half_bound {S:Sets} {m:Nat} {one:Tr} {w:Bool} {rest:List Nat→AV} {rec:AV→Nat→List AV×Nat} {k:Nat} (hk:1≤k) (hm:m<5) (h8:one.ar≤8) (h:∀ V c,Bound cells k c (rec V c)∧(rec V c).2≤c+500):Bound cells (k+3) c (halfF S m one w rest rec c):=by
 have nl:=namesP_len one.ar c
 have hp:Bound cells k (c+one.ar) (inner w rec (rest (namesP c one.ar)) (c+one.ar))∧(inner w rec (rest (namesP c one.ar)) (c+one.ar)).2≤c+one.ar+500:=inner_by (P:=fun p=>Bound cells k (c+one.ar) p∧p.2≤c+one.ar+500) ⟨.nil,Nat.le_add_right _ _⟩ (h _ _)
 refine half_by .nil (on_bound hk hm (nl.symm▸h8) (nl.symm▸ar_pos one) (nl.symm▸hp.1) (nl.symm▸hp.2) (congrArg (namesP c) nl.symm))
theorem tot0:∀ {T:Tr},T.depth≤0→T.tot=0
 | .leaf _,_=>rfl
 | .arr _ _ _ _,h=>absurd h (Nat.not_succ_le_zero _)
theorem tot_arr {m1 m2:Nat} {l r:Tr} {k d:Nat} (h:(Tr.arr m1 m2 l r).depth≤d+1) (hd:d≤1) (f:∀ {T:Tr},T.depth≤d→T.tot≤k):(Tr.arr m1 m2 l r).tot≤16+k+k :=
 have h:=Nat.le_of_succ_le_succ (show max l.depth r.depth+1≤d+1 from h)
 have hl:=Nat.le_trans (Nat.le_max_left _ _) h
 have hr:=Nat.le_trans (Nat.le_max_right _ _) h
 Nat.add_le_add (Nat.add_le_add (Nat.add_le_add (ar_le2 (Nat.le_trans hl (Nat.le_succ_of_le hd))) (ar_le2 (Nat.le_trans hr (Nat.le_succ_of_le hd)))) (f hr)) (f hl)
theorem tot1:∀ {T:Tr},T.depth≤1→T.tot≤16
 | .leaf _,_=>Nat.zero_le _
 | .arr _ _ _ _,h=>tot_arr (k:=0) h (by decide) fun h=>Nat.le_of_eq (tot0 h)
theorem tot_le:∀ {T:Tr},T.depth≤2→T.tot≤48
 | .leaf _,_=>Nat.zero_le _
 | .arr _ _ _ _,h=>tot_arr h (by decide) tot1
theorem marked_bound {S:Sets}:∀ T:Tr,T.wf→T.depth≤2→∀ V c,Bound cells (3*T.depth+1) c (markedF S T V c)
 | .leaf _,_,_,V,c=>.nil
 | .arr m1 m2 l r,w,hd,V,c =>
  have hd1:max l.depth r.depth≤1:=Nat.le_of_succ_le_succ hd
  have dl:=Nat.le_trans (Nat.le_max_left l.depth r.depth) hd1
  have dr:=Nat.le_trans (Nat.le_max_right l.depth r.depth) hd1
  have up:∀ {d:Nat},d≤max l.depth r.depth→3*d+1≤3*max l.depth r.depth+1:=fun h=>Nat.succ_le_succ (Nat.mul_le_mul_left 3 h)
  have few:∀ {T:Tr},T.depth≤1→∀ V c,(markedF S T V c).2≤c+500:=fun h V c=>Nat.le_trans (marked_facts _ V c).2.2 (Nat.add_le_add_left (Nat.le_trans (tot1 h) (by decide)) c)
  Bound.app (half_bound (cells:=cells) (S:=S) (c:=c) (m:=m2) (one:=l) (w:=watchedP r) (rest:=restLE V) (rec:=markedF S r) (k:=3*max l.depth r.depth+1) (Nat.succ_pos _) w.2.1 (ar_le2 (Nat.le_succ_of_le dl)) fun V c=>⟨(marked_bound r w.2.2.2 (Nat.le_succ_of_le dr) V c).mono (up (Nat.le_max_right _ _)),few dr V c⟩)
   fun c=>half_bound (cells:=cells) (S:=S) (c:=c) (m:=m1) (one:=r) (w:=watchedP l) (rest:=restRE V) (rec:=markedF S l) (k:=3*max l.depth r.depth+1) (Nat.succ_pos _) w.1 (ar_le2 (Nat.le_succ_of_le dr)) fun V c=>⟨(marked_bound l w.2.2.1 (Nat.le_succ_of_le dl) V c).mono (up (Nat.le_max_left _ _)),few dl V c⟩
end
noncomputable def stepL (x:Int) (rows:List Row):List Row:=(rows.filter fun y=>decide (x=headI y)).map List.tail
noncomputable def stepR (x:Int) (rows:List Row):List Row:=(rows.filter fun y=>decide (lastI y=x)).map List.dropLast
theorem mem_stepL {x:Int} {rows:List Row} {t:Row} (h:∀ y∈rows,y≠[]):t∈stepL x rows↔(x::t)∈rows:=by
 unfold stepL
 rw [List.mem_map]
 constructor
 ·rintro ⟨y,hy,rfl⟩
  rw [List.mem_filter,decide_eq_true_eq] at hy
  obtain ⟨h1,h2⟩:=hy
  cases y with
  | nil=>exact absurd rfl (h _ h1)
  | cons a b =>
   have:x=a:=h2
   subst this
   exact h1
 ·intro q
  exact ⟨x::t,List.mem_filter.2 ⟨q,decide_eq_true rfl⟩,rfl⟩
theorem last_app (t:Row) (x:Int):lastI (t++[x])=x:=by
 unfold lastI
 rw [List.getLastD_eq_getLast?,List.getLast?_append]
 rfl
theorem row_snoc {y:Row} (h:y≠[]):∃ t x,y=t++[x]:=⟨y.dropLast,y.getLast h,(List.dropLast_concat_getLast h).symm⟩
theorem mem_stepR {x:Int} {rows:List Row} {t:Row} (h:∀ y∈rows,y≠[]):t∈stepR x rows↔(t++[x])∈rows:=by
 unfold stepR
 rw [List.mem_map]
 constructor
 ·rintro ⟨y,hy,rfl⟩
  rw [List.mem_filter,decide_eq_true_eq] at hy
  obtain ⟨h1,h2⟩:=hy
  obtain ⟨a,b,rfl⟩:=row_snoc (h _ h1)
  rw [last_app] at h2
  subst h2
  rw [List.dropLast_concat]
  exact h1
 ·intro q
  exact ⟨t++[x],List.mem_filter.2 ⟨q,decide_eq_true (last_app t x)⟩,List.dropLast_concat⟩
theorem nodup_map_on {α β:Type} (f:α→β):∀ {l:List α},(∀ x∈l,∀ y∈l,f x=f y→x=y)→l.Nodup→(l.map f).Nodup
 | [],_,_=>List.nodup_nil
 | x::l,h,hn=>by
  rw [List.nodup_cons] at hn
  rw [List.map_cons,List.nodup_cons]
  refine ⟨fun q=>?_,nodup_map_on f (fun a ha b hb=>h a (by simp [ha]) b (by simp [hb])) hn.2⟩
  obtain ⟨y,hy,e⟩:=List.mem_map.1 q
  have:=h y (by simp [hy]) x (by simp) e
  exact hn.1 (this▸hy)
theorem stepL_nodup {x:Int} {rows:List Row} (h:∀ y∈rows,y≠[]) (hn:rows.Nodup):(stepL x rows).Nodup:=by
 refine nodup_map_on _ (fun a ha b hb e=>?_) (hn.filter _)
 rw [List.mem_filter,decide_eq_true_eq] at ha hb
 cases a with
 | nil=>exact absurd rfl (h _ ha.1)
 | cons p q=>cases b with
  | nil=>exact absurd rfl (h _ hb.1)
  | cons p' q' =>
   have h1:x=p:=ha.2
   have h2:x=p':=hb.2
   have h3:q=q':=e
   rw [← h1,← h2,h3]
theorem stepR_nodup {x:Int} {rows:List Row} (h:∀ y∈rows,y≠[]) (hn:rows.Nodup):(stepR x rows).Nodup:=by
 refine nodup_map_on _ (fun a ha b hb e=>?_) (hn.filter _)
 rw [List.mem_filter,decide_eq_true_eq] at ha hb
 obtain ⟨p,q,rfl⟩:=row_snoc (h _ ha.1)
 obtain ⟨p',q',rfl⟩:=row_snoc (h _ hb.1)
 have h1:=ha.2
 have h2:=hb.2
 rw [last_app] at h1 h2
 rw [List.dropLast_concat,List.dropLast_concat] at e
 rw [h1,h2,e]
theorem joinL_left (x:Int) (rows:List Row):joinL [[x]] rows=stepL x rows:=by
 unfold joinL stepL
 rw [List.flatMap_cons,List.flatMap_nil,List.append_nil]
 rfl
theorem joinL_right (x:Int):∀ rows:List Row,joinL rows [[x]]=stepR x rows
 | []=>rfl
 | y::rows=>by
  have ih:=joinL_right x rows
  unfold joinL stepR at *
  rw [List.flatMap_cons,ih,List.filter_cons,List.filter_cons,List.filter_nil]
  by_cases h:lastI y=x
  ·have h':lastI y=headI [x]:=h
   rw [if_pos (decide_eq_true h'),if_pos (decide_eq_true h),List.map_cons,List.map_cons,List.map_nil]
   show [y.dropLast++[]]++_=_
   rw [List.append_nil]
   rfl
  ·have h':¬ lastI y=headI [x]:=h
   rw [if_neg (by rw [decide_eq_true_eq];exact h'),if_neg (by rw [decide_eq_true_eq];exact h)]
   rfl
theorem len_ne {rows:List Row} {k:Nat} (hk:0<k) (h:∀ y∈rows,y.length=k):∀ y∈rows,y≠[]:=fun y hy e=>by
 have:=h y hy
 rw [e] at this
 simp at this
 lia
theorem fm_cons {α β:Type} (p:α→Bool) (f:α→β) (y:α) (l:List α):((y::l).filter p).map f=if p y=true then f y::(l.filter p).map f else (l.filter p).map f:=by
 rw [List.filter_cons]
 cases p y <;> rfl
theorem restL_cons {x:Int} {a:Row}:∀ {rows:List Row},(∀ y∈rows,y≠[])→restL (x::a) rows=restL a (stepL x rows)
 | [],_=>rfl
 | y::rows,h=>by
  have ih:=restL_cons (x:=x) (a:=a) (rows:=rows) fun z hz=>h z (by simp [hz])
  cases y with
  | nil=>exact absurd rfl (h [] (by simp))
  | cons p q =>
   have e1:restL (x::a) ((p::q)::rows)=if decide (p::q.take a.length=x::a)=true then q.drop a.length::restL (x::a) rows else restL (x::a) rows:=fm_cons _ _ _ _
   have e2:stepL x ((p::q)::rows)=if decide (x=p)=true then q::stepL x rows else stepL x rows:=fm_cons _ _ _ _
   have e3:restL a (q::stepL x rows)=if decide (q.take a.length=a)=true then q.drop a.length::restL a (stepL x rows) else restL a (stepL x rows):=fm_cons _ _ _ _
   rw [e1,e2,ih]
   by_cases hp:x=p
   ·subst hp
    rw [if_pos (decide_eq_true (rfl:x=x)),e3]
    by_cases hq:q.take a.length=a
    ·rw [if_pos (decide_eq_true hq),if_pos (by rw [hq];exact decide_eq_true rfl)]
    ·rw [if_neg (by rw [decide_eq_true_eq];intro e;exact hq (List.cons.inj e).2),if_neg (by rw [decide_eq_true_eq];exact hq)]
   ·rw [if_neg (by rw [decide_eq_true_eq];intro e;exact hp (List.cons.inj e).1.symm),if_neg (by rw [decide_eq_true_eq];exact hp)]
theorem restL_nil (rows:List Row):restL [] rows=rows:=by
 unfold restL
 have:(rows.filter fun t=>decide (t.take ([]:Row).length=[]))=rows:=by
  rw [List.filter_eq_self]
  intro t _
  exact decide_eq_true rfl
 rw [this]
 show rows.map (fun t=>t.drop 0)=rows
 simp
theorem restR_nil (rows:List Row):restR [] rows=rows:=by
 unfold restR
 have:(rows.filter fun t=>decide (t.drop (t.length - ([]:Row).length)=[]))=rows:=by
  rw [List.filter_eq_self]
  intro t _
  exact decide_eq_true (List.drop_length)
 rw [this]
 show rows.map (fun t=>t.take t.length)=rows
 simp
theorem restR_snoc {x:Int} {a:Row}:∀ {rows:List Row},(∀ y∈rows,a.length+1≤y.length)→restR (a++[x]) rows=restR a (stepR x rows)
 | [],_=>rfl
 | y::rows,h=>by
  have ih:=restR_snoc (x:=x) (a:=a) (rows:=rows) fun z hz=>h z (by simp [hz])
  have hy:=h y (by simp)
  obtain ⟨q,p,rfl⟩:=row_snoc (y:=y) (fun e=>by rw [e] at hy;simp at hy)
  rw [List.length_append] at hy
  have hlen:([p]:Row).length=1:=rfl
  have hql:a.length≤q.length:=by lia
  have l1:(q++[p]).length - (a++[x]).length=q.length - a.length:=by rw [List.length_append,List.length_append];show q.length+1 - (a.length+1)=_;lia
  have l2:(q++[p]).drop (q.length - a.length)=q.drop (q.length - a.length)++[p]:=List.drop_append_of_le_length (by lia)
  have l3:(q++[p]).take (q.length - a.length)=q.take (q.length - a.length):=List.take_append_of_le_length (by lia)
  have e1:restR (a++[x]) ((q++[p])::rows)=if decide ((q++[p]).drop ((q++[p]).length - (a++[x]).length)=a++[x])=true then (q++[p]).take ((q++[p]).length - (a++[x]).length)::restR (a++[x]) rows else restR (a++[x]) rows:=fm_cons _ _ _ _
  have e2:stepR x ((q++[p])::rows)=if decide (lastI (q++[p])=x)=true then (q++[p]).dropLast::stepR x rows else stepR x rows:=fm_cons _ _ _ _
  have e3:restR a (q::stepR x rows)=if decide (q.drop (q.length - a.length)=a)=true then q.take (q.length - a.length)::restR a (stepR x rows) else restR a (stepR x rows):=fm_cons _ _ _ _
  rw [last_app,List.dropLast_concat] at e2
  rw [l1,l2,l3] at e1
  rw [e1,e2,ih]
  by_cases hp:p=x
  ·subst hp
   rw [if_pos (decide_eq_true (rfl:p=p)),e3]
   by_cases hq:q.drop (q.length - a.length)=a
   ·rw [if_pos (decide_eq_true hq),if_pos (by rw [hq];exact decide_eq_true rfl)]
   ·rw [if_neg (by rw [decide_eq_true_eq];intro e;exact hq (List.append_inj_left' e rfl)),if_neg (by rw [decide_eq_true_eq];exact hq)]
  ·rw [if_neg (by rw [decide_eq_true_eq];intro e;exact hp (List.cons.inj (List.append_inj_right' e rfl)).1),if_neg (by rw [decide_eq_true_eq];exact hp)]
def Reads (cells:List Int) (c:Nat) (V:AV) (e:Env) (rows:List Row):Prop:=∃ rows',rows'.Perm rows∧R cells c V e rows'
section
variable {cells:List Int} {c:Nat} {e:Env}
theorem Reads.mono {V:AV} {rows:List Row} (h:Reads cells c V e rows) {d:Nat} (q:c≤d):Reads cells d V e rows:=by
 obtain ⟨r,h1,h2⟩:=h
 exact ⟨r,h1,h2.mono q⟩
theorem stepL_len {x:Int} {rows:List Row}:(stepL x rows).length≤rows.length:=by
 unfold stepL
 rw [List.length_map]
 exact List.length_filter_le _ _
theorem stepR_len {x:Int} {rows:List Row}:(stepR x rows).length≤rows.length:=by
 unfold stepR
 rw [List.length_map]
 exact List.length_filter_le _ _
theorem stepL_w {x:Int} {rows:List Row} {k:Nat} (h:∀ y∈rows,y.length=k+1):∀ y∈stepL x rows,y.length=k:=by
 intro t ht
 have:=h _ ((mem_stepL (len_ne (k:=k+1) (by lia) h)).1 ht)
 rw [List.length_cons] at this
 lia
theorem stepR_w {x:Int} {rows:List Row} {k:Nat} (h:∀ y∈rows,y.length=k+1):∀ y∈stepR x rows,y.length=k:=by
 intro t ht
 have:=h _ ((mem_stepR (len_ne (k:=k+1) (by lia) h)).1 ht)
 rw [List.length_append] at this
 have h1:([x]:Row).length=1:=rfl
 lia
theorem reads_left {V:AV} {rows:List Row} {k:Nat} (hk:0<k) (h:Reads cells c V e rows) (hc:1≤c) (hn:rows.Nodup) (hw:∀ y∈rows,y.length=k+1) (hk2:k<100) (hl:rows.length≤40) {n:Nat} {x:Int} (he:eget e n=some [x]) :
  Reads cells (c+1) (joinE (varE n) V) e (stepL x rows):=by
 obtain ⟨rows',hp,hR⟩:=h
 have hne:=len_ne (k:=k+1) (by lia) hw
 have hw':∀ y∈rows',y.length=k+1:=fun y hy=>hw y (hp.mem_iff.1 hy)
 have hne':=len_ne (k:=k+1) (by lia) hw'
 have hl':rows'.length≤40:=by rw [hp.length_eq];exact hl
 have hs:(stepL x rows').length≤40:=Nat.le_trans stepL_len hl'
 have:=R_join (cells:=cells) (c:=c) (e:=e) (ra:=[[x]]) (rb:=rows') ((R_var he).mono hc) hR (by rw [joinL_left];lia) (fun y hy=>by rw [List.mem_singleton.1 hy];exact ⟨by simp,by simp⟩) (fun y hy=>⟨hne' y hy,by rw [hw' y hy];lia⟩) hk (by rw [joinL_left];exact stepL_w hw')
 rw [joinL_left] at this
 refine ⟨_,?_,this⟩
 have sf:=sort_facts (stepL x rows')
 refine (List.perm_ext_iff_of_nodup sf.1 (stepL_nodup hne hn)).2 fun t=>?_
 rw [sf.2.1,mem_stepL hne',mem_stepL hne,hp.mem_iff]
theorem reads_right {V:AV} {rows:List Row} {k:Nat} (hk:0<k) (h:Reads cells c V e rows) (hc:1≤c) (hn:rows.Nodup) (hw:∀ y∈rows,y.length=k+1) (hk2:k<100) (hl:rows.length≤40) {n:Nat} {x:Int} (he:eget e n=some [x]) :
  Reads cells (c+1) (joinE V (varE n)) e (stepR x rows):=by
 obtain ⟨rows',hp,hR⟩:=h
 have hne:=len_ne (k:=k+1) (by lia) hw
 have hw':∀ y∈rows',y.length=k+1:=fun y hy=>hw y (hp.mem_iff.1 hy)
 have hne':=len_ne (k:=k+1) (by lia) hw'
 have hl':rows'.length≤40:=by rw [hp.length_eq];exact hl
 have hs:(stepR x rows').length≤40:=Nat.le_trans stepR_len hl'
 have:=R_join (cells:=cells) (c:=c) (e:=e) (ra:=rows') (rb:=[[x]]) hR ((R_var he).mono hc) (by rw [joinL_right];lia) (fun y hy=>⟨hne' y hy,by rw [hw' y hy];lia⟩) (fun y hy=>by rw [List.mem_singleton.1 hy];exact ⟨by simp,by simp⟩) hk (by rw [joinL_right];exact stepR_w hw')
 rw [joinL_right] at this
 refine ⟨_,?_,this⟩
 have sf:=sort_facts (stepR x rows')
 refine (List.perm_ext_iff_of_nodup sf.1 (stepR_nodup hne hn)).2 fun t=>?_
 rw [sf.2.1,mem_stepR hne',mem_stepR hne,hp.mem_iff]
noncomputable def Stand (e:Env):List Nat→Row→Prop
 | [],[]=>True
 | n::ns,x::t=>eget e n=some [x]∧Stand e ns t
 | _,_=>False
theorem chainL {k:Nat} (hk:0<k):∀ (ns:List Nat) (t:Row) (V:AV) (c:Nat) (rows:List Row),Stand e ns t→1≤c→Reads cells c V e rows→rows.Nodup→(∀ y∈rows,y.length=t.length+k)→t.length+k<100→rows.length≤40 →
  Reads cells (c+ns.length) (restLE V ns) e (restL t rows):=by
 intro ns
 induction ns with
 | nil =>
  intro t V c rows hs hc h _ _ _ _
  cases t with
  | nil=>rw [restL_nil];exact h
  | cons x t=>exact absurd hs id
 | cons n ns ih =>
  intro t V c rows hs hc h hn hw hb hl
  cases t with
  | nil=>exact absurd hs id
  | cons x t =>
   have hw2:∀ y∈rows,y.length=(t.length+k)+1:=fun y hy=>by rw [hw y hy,List.length_cons];lia
   rw [List.length_cons] at hb
   have hne:=len_ne (k:=t.length+k+1) (by lia) hw2
   have h1:=reads_left (k:=t.length+k) (by lia) h hc hn hw2 (by lia) hl hs.1
   have:=ih t (joinE (varE n) V) (c+1) (stepL x rows) hs.2 (by lia) h1 (stepL_nodup hne hn) (stepL_w hw2) (by lia) (Nat.le_trans stepL_len hl)
   rw [restL_cons hne]
   rw [List.length_cons]
   have e1:c+(ns.length+1)=c+1+ns.length:=by lia
   rw [e1]
   exact this
theorem restRE_snoc {V:AV} {ns:List Nat} {n:Nat}:restRE V (ns++[n])=restRE (joinE V (varE n)) ns:=by
 unfold restRE
 rw [List.reverse_append]
 rfl
theorem stand_snoc {e:Env}:∀ {ns:List Nat} {n:Nat} {t:Row},Stand e (ns++[n]) t→∃ u x,t=u++[x]∧Stand e ns u∧eget e n=some [x]
 | [],n,[x],h=>⟨[],x,rfl,trivial,h.1⟩
 | [],n,[],h=>absurd h id
 | [],n,_::_::_,h=>absurd h.2 id
 | m::ns,n,[],h=>absurd h id
 | m::ns,n,y::t,h=>by
  obtain ⟨u,x,rfl,h1,h2⟩:=stand_snoc (ns:=ns) (n:=n) (t:=t) h.2
  exact ⟨y::u,x,rfl,⟨h.1,h1⟩,h2⟩
theorem chainR {k:Nat} (hk:0<k):∀ (m:Nat) (ns:List Nat) (t:Row) (V:AV) (c:Nat) (rows:List Row),ns.length=m→Stand e ns t→1≤c→Reads cells c V e rows→rows.Nodup→(∀ y∈rows,y.length=k+t.length)→t.length+k<100→rows.length≤40 →
  Reads cells (c+m) (restRE V ns) e (restR t rows):=by
 intro m
 induction m with
 | zero =>
  intro ns t V c rows hm hs hc h _ _ _ _
  cases ns with
  | cons n ns=>simp at hm
  | nil=>cases t with
   | nil=>rw [restR_nil];exact h
   | cons x t=>exact absurd hs id
 | succ m ih =>
  intro ns t V c rows hm hs hc h hn hw hb hl
  have hne0:ns≠[]:=fun q=>by rw [q] at hm;simp at hm
  obtain ⟨ns',n,rfl⟩:∃ a b,ns=a++[b]:=⟨ns.dropLast,ns.getLast hne0,(List.dropLast_concat_getLast hne0).symm⟩
  obtain ⟨u,x,rfl,h1,h2⟩:=stand_snoc hs
  have h11:([x]:Row).length=1:=rfl
  have h12:([n]:List Nat).length=1:=rfl
  rw [List.length_append] at hm hb
  have hw2:∀ y∈rows,y.length=(k+u.length)+1:=fun y hy=>by rw [hw y hy,List.length_append];lia
  have hne:=len_ne (k:=k+u.length+1) (by lia) hw2
  have h3:=reads_right (k:=k+u.length) (by lia) h hc hn hw2 (by lia) hl h2
  have:=ih ns' u (joinE V (varE n)) (c+1) (stepR x rows) (by lia) h1 (by lia) h3 (stepR_nodup hne hn) (stepR_w hw2) (by lia) (Nat.le_trans stepR_len hl)
  rw [restRE_snoc,restR_snoc (fun y hy=>by rw [hw2 y hy];lia)]
  have e1:c+(m+1)=c+1+m:=by lia
  rw [e1]
  exact this
theorem restL_nodup {t:Row}:∀ {rows:List Row} {k:Nat},0<k→(∀ y∈rows,y.length=t.length+k)→rows.Nodup→(restL t rows).Nodup∧∀ y∈restL t rows,y.length=k:=by
 induction t with
 | nil =>
  intro rows k hk hw hn
  rw [restL_nil]
  exact ⟨hn,fun y hy=>by rw [hw y hy];simp⟩
 | cons x t ih =>
  intro rows k hk hw hn
  have hw2:∀ y∈rows,y.length=(t.length+k)+1:=fun y hy=>by rw [hw y hy,List.length_cons];lia
  have hne:=len_ne (k:=t.length+k+1) (by lia) hw2
  rw [restL_cons hne]
  exact ih hk (stepL_w hw2) (stepL_nodup hne hn)
theorem restR_nodup:∀ (m:Nat) {t:Row} {rows:List Row} {k:Nat},t.length=m→0<k→(∀ y∈rows,y.length=k+t.length)→rows.Nodup→(restR t rows).Nodup∧∀ y∈restR t rows,y.length=k:=by
 intro m
 induction m with
 | zero =>
  intro t rows k hm hk hw hn
  cases t with
  | cons x t=>simp at hm
  | nil=>rw [restR_nil];exact ⟨hn,fun y hy=>by rw [hw y hy];simp⟩
 | succ m ih =>
  intro t rows k hm hk hw hn
  obtain ⟨u,x,rfl⟩:=row_snoc (y:=t) (fun q=>by rw [q] at hm;simp at hm)
  have h11:([x]:Row).length=1:=rfl
  rw [List.length_append] at hm
  have hw2:∀ y∈rows,y.length=(k+u.length)+1:=fun y hy=>by rw [hw y hy,List.length_append];lia
  have hne:=len_ne (k:=k+u.length+1) (by lia) hw2
  rw [restR_snoc (fun y hy=>by rw [hw2 y hy];lia)]
  exact ih (by lia) hk (stepR_w hw2) (stepR_nodup hne hn)
noncomputable def putAll:Env→Nat→Row→Env
 | e,_,[]=>e
 | e,c,x::t=>putAll (eput e (1001+c) [x]) (c+1) t
theorem putAll_old:∀ (t:Row) (e:Env) (c y:Nat),y≤1000+c→eget (putAll e c t) y=eget e y
 | [],_,_,_,_=>rfl
 | x::t,e,c,y,h=>by
  show eget (putAll (eput e (1001+c) [x]) (c+1) t) y=_
  rw [putAll_old t _ (c+1) y (by lia),eget_put,if_neg (by lia)]
theorem putAll_stand:∀ (t:Row) (e:Env) (c:Nat),Stand (putAll e c t) (namesP c t.length) t
 | [],_,_=>trivial
 | x::t,e,c=>by
  refine ⟨?_,putAll_stand t _ (c+1)⟩
  show eget (putAll (eput e (1001+c) [x]) (c+1) t) (1001+c)=_
  rw [putAll_old t _ (c+1) _ (by lia),eget_put,if_pos rfl]
theorem putAll_len:∀ (t:Row) (e:Env) (c:Nat),(putAll e c t).length≤e.length+t.length
 | [],e,_=>Nat.le_refl _
 | x::t,e,c=>by
  show (putAll (eput e (1001+c) [x]) (c+1) t).length≤_
  have h1:=putAll_len t (eput e (1001+c) [x]) (c+1)
  have h2:=eput_len e (1001+c) [x]
  rw [List.length_cons]
  lia
noncomputable def cube:Nat→List Row
 | 0=>[[]]
 | k+1=>[0,1,2].flatMap fun x=>(cube k).map fun t=>x::t
theorem mem_cube:∀ (k:Nat) (t:Row),t.length=k→(∀ x∈t,0≤x∧x<3)→t∈cube k
 | 0,[],_,_=>by simp [cube]
 | 0,_::_,h,_=>by simp at h
 | k+1,[],h,_=>by simp at h
 | k+1,x::t,h,hx=>by
  have h1:=mem_cube k t (by rw [List.length_cons] at h;lia) fun y hy=>hx y (by simp [hy])
  have h2:=hx x (by simp)
  have:x=0∨x=1∨x=2:=by lia
  refine List.mem_flatMap.2 ⟨x,?_,List.mem_map.2 ⟨t,h1,rfl⟩⟩
  rcases this with rfl | rfl | rfl <;> simp
theorem cube_len:∀ (k:Nat),∀ t∈cube k,t.length=k
 | 0,t,h=>by simp [cube] at h;subst h;rfl
 | k+1,t,h=>by
  obtain ⟨x,_,hb⟩:=List.mem_flatMap.1 h
  obtain ⟨u,hu,rfl⟩:=List.mem_map.1 hb
  rw [List.length_cons,cube_len k u hu]
theorem cube_size:∀ k,(cube k).length=3 ^ k
 | 0=>rfl
 | k+1=>by
  show ([0,1,2].flatMap fun (x:Int)=>(cube k).map fun t=>x::t).length=_
  rw [List.flatMap_cons,List.flatMap_cons,List.flatMap_cons,List.flatMap_nil]
  simp only [List.length_append,List.length_map,List.length_nil,cube_size k]
  rw [Nat.pow_succ]
  lia
noncomputable def univD (ns:List Nat):List Dec:=ns.map fun x=>⟨x,univE,[[0],[1],[2]]⟩
theorem steps_univ:∀ (k c:Nat) (E:List Env),stepsD (univD (namesP c k)) E=E.flatMap fun e=>(cube k).map (putAll e c)
 | 0,c,E=>by
  show E=E.flatMap fun e=>[e]
  rw [flat_map_one]
  simp
 | k+1,c,E=>by
  show stepsD (univD (namesP (c+1) k)) (stepD (1001+c) [[0],[1],[2]] E)=_
  rw [steps_univ k (c+1)]
  unfold stepD
  rw [List.flatMap_assoc]
  congr 1
  funext e
  show ([[0],[1],[2]].map fun r=>eput e (1001+c) r).flatMap (fun e=>(cube k).map (putAll e (c+1)))=([0,1,2].flatMap fun x=>(cube k).map fun t=>x::t).map (putAll e c)
  simp only [List.map_cons,List.map_nil,List.flatMap_cons,List.flatMap_nil,List.append_nil,List.map_append,List.map_map]
  rfl
theorem stage_univ (hc:1≤c):∀ (k d:Nat) (E:List Env),(∀ e∈E,e.length+k<1000)→E.length*3 ^ k≤1000000→StageOk cells c (univD (namesP d k)) E
 | 0,_,_,_,_=>trivial
 | k+1,d,E,h1,h2=>by
  have hl:(stepD (1001+d) [[0],[1],[2]] E).length≤E.length*3:=flat_len _ 3 E fun e _=>Nat.le_refl _
  have hp:E.length*3 ^ (k+1)=E.length*3*3 ^ k:=by rw [Nat.pow_succ,Nat.mul_comm (3 ^ k) 3,Nat.mul_assoc]
  have hpos:0<3 ^ k:=Nat.pow_pos (by lia)
  refine ⟨fun e he=>⟨R_univ.mono hc,by have:=h1 e he;show e.length<1000;lia⟩,?_,?_⟩
  ·show (stepD (1001+d) [[0],[1],[2]] E).length≤1000000
   have:E.length*3≤E.length*3*3 ^ k:=Nat.le_mul_of_pos_right _ hpos
   lia
  ·refine stage_univ hc k (d+1) _ (fun e he=>?_) ?_
   ·obtain ⟨e0,h0,hb⟩:=List.mem_flatMap.1 he
    obtain ⟨r,_,rfl⟩:=List.mem_map.1 hb
    have:=h1 e0 h0
    have:=eput_len e0 (1001+d) r
    show (eput e0 (1001+d) r).length+k<1000
    lia
   ·have:(stepD (1001+d) [[0],[1],[2]] E).length*3 ^ k≤E.length*3*3 ^ k:=Nat.mul_le_mul_right _ hl
    show (stepD (1001+d) [[0],[1],[2]] E).length*3 ^ k≤1000000
    lia
end
section
variable {cells:List Int} {S:Sets}
theorem R_exprP (hS:S.ok) {u:Row} (hu:S.V=[u]) {e:Env} (h21:eget e 21=some u):∀ T:Tr,T.wf→T.depth≤2→R cells (T.depth+1) (exprP S T) e (tuplesP S T):=by
 intro T
 induction T with
 | leaf c =>
  intro w _
  rcases w with rfl | rfl | rfl | rfl
  ·exact R_tuples
  ·exact R_tuples
  ·show R cells 1 (varE 21) e S.V
   rw [hu]
   exact R_var h21
  ·exact R_tuples
 | arr m1 m2 l r ihl ihr =>
  intro w hd
  have hd1:max l.depth r.depth+1≤2:=hd
  have h1:=(ihl w.2.2.1 (by lia)).mono (d:=max l.depth r.depth+1) (by lia)
  have h2:=(ihr w.2.2.2 (by lia)).mono (d:=max l.depth r.depth+1) (by lia)
  have l1:=tuples_len1 hS w.2.2.1 (by lia)
  have l2:=tuples_len1 hS w.2.2.2 (by lia)
  have a1:=ar_le2 (T:=l) (by lia)
  have a2:=ar_le2 (T:=r) (by lia)
  exact R_prod h1 h2 (Nat.le_trans (Nat.mul_le_mul l1 l2) (by lia)) (fun x hx=>by rw [tuples_ar hS l w.2.2.1 x hx];lia) (fun x hx=>by rw [tuples_ar hS r w.2.2.2 x hx];lia)
theorem R_rowFold {e:Env}:∀ (ms:List Nat) (t:Row) (acc:AV) (row:Row) (c:Nat),1≤c→R cells c acc e [row]→Stand e ms t→row.length+t.length≤900→R cells (c+ms.length) (ms.foldl (fun acc y=>prodE acc (varE y)) acc) e [row++t]
 | [],[],acc,row,c,_,h,_,_=>by rw [List.append_nil];exact h
 | n::ms,x::t,acc,row,c,hc,h,hs,hl=>by
  rw [List.length_cons] at hl
  have h1:=R_prod h ((R_var hs.1).mono hc) (by simp) (fun y hy=>by rw [List.mem_singleton.1 hy];lia) (fun y hy=>by rw [List.mem_singleton.1 hy];simp)
  have h2:=R_rowFold ms t (prodE acc (varE n)) (row++[x]) (c+1) (by lia) h1 hs.2 (by rw [List.length_append];show row.length+1+_≤_;lia)
  rw [List.append_assoc] at h2
  rw [List.length_cons]
  have e1:c+(ms.length+1)=c+1+ms.length:=by lia
  rw [e1]
  exact h2
theorem R_row {e:Env} {ns:List Nat} {t:Row} (hne:ns≠[]) (hs:Stand e ns t) (hl:t.length≤800):R cells (ns.length+1) (rowE ns) e [t]:=by
 match ns,t,hne,hs with
 | n::ms,x::t,_,hs =>
  rw [List.length_cons] at hl
  have:=R_rowFold (cells:=cells) ms t (varE n) [x] 1 (by lia) (R_var hs.1) hs.2 (by show 1+_≤_;lia)
  exact this.mono (by rw [List.length_cons];lia)
theorem H_allOf {c:Nat} {e:Env} {ps:List (AV×Bool)} (hne:ps≠[]) (h:∀ p∈ps,H cells c p.1 e p.2) (hl:ps.length≤1000):H cells (c+1) (allOfP (ps.map (·.1))) e (ps.all (·.2)):=by
 match ps,hne,h,hl with
 | [p],_,h,_ =>
  have:=(h p (by simp)).mono (d:=c+1) (by lia)
  show H cells (c+1) p.1 e (p.2&&true)
  rw [Bool.and_true]
  exact this
 | p::q::r,_,h,hl=>exact H_and h hl
noncomputable def valH (cells:List Int) (c:Nat) (X:AV) (e:Env):Bool:=match callP cells bodies c .holds [X,envAV e] ⟨0,0,0,0,0⟩ with
 | some (.bool b,_)=>b
 | _=>false
theorem valH_eq {c:Nat} {X:AV} {e:Env} {b:Bool} (h:H cells c X e b):valH cells c X e=b:=by
 unfold valH
 rw [h.2 c (Nat.le_refl _)]
theorem H_all' {c:Nat} {e:Env} {ds:List Dec} {b:AV} {L:List Row} {f:Row→Env} {β:Row→Bool} (hd:StageOk cells c ds [e]) (pb:Plain b) (hs:stepsD ds [e]=L.map f) (hb:∀ t∈L,H cells c b (f t) (β t)) (hl:L.length≤100000) :
  H cells (c+1) (allF (ds.map fun d=>declF d.x d.X) b) e (L.all β):=by
 have h:=H_all (β:=valH cells c b) hd pb (fun e' he=>by
  rw [hs] at he
  obtain ⟨t,ht,rfl⟩:=List.mem_map.1 he
  rw [valH_eq (hb t ht)]
  exact hb t ht) (by rw [hs,List.length_map];exact hl)
 rw [hs,List.all_map] at h
 have:L.all (valH cells c b∘f)=L.all β:=by
  rw [Bool.eq_iff_iff,List.all_eq_true,List.all_eq_true]
  constructor
  ·intro q t ht
   rw [← valH_eq (hb t ht)]
   exact q t ht
  ·intro q t ht
   show valH cells c b (f t)=true
   rw [valH_eq (hb t ht)]
   exact q t ht
 rw [this] at h
 exact h
theorem univD_decls (ns:List Nat):((univD ns).map fun d=>declF d.x d.X)=ns.map fun x=>declF x univE:=by
 unfold univD
 rw [List.map_map]
 rfl
theorem fits_unmarked {m k:Nat} (h:marked2 m=false):fitsP m k=true:=match m,h with
 | 0,_=>rfl
 | 1,_=>rfl
theorem inner_sem {m:Nat} (hm:m<5) {w:Bool} {R:AV} {l:List AV} {K C:Nat} {e:Env} {rows:List Row} {b:Bool} (hr:Reads cells C R e rows) (hin:w=false→b=true∧l=[])
  (hrec:w=true→∃ ps:List (AV×Bool),ps≠[]∧ps.length≤10∧ps.map (·.1)=l∧(∀ p∈ps,H cells K p.1 e p.2)∧ps.all (·.2)=b) (hmw:(marked2 m||w)=true) (hK:C+2≤K):H cells (K+1) (allOfP (multPart m R++l)) e (fitsP m rows.length&&b):=by
 obtain ⟨rows',hp,hR⟩:=hr
 have hmu:=(H_mult hm hR).mono hK
 rw [hp.length_eq] at hmu
 have hps:∃ ps:List (AV×Bool),ps.map (·.1)=l∧ps.length≤10∧(∀ p∈ps,H cells K p.1 e p.2)∧ps.all (·.2)=b∧(w=true→ps≠[]):=by
  cases hw:w
  ·exact ⟨[],(hin hw).2.symm,Nat.zero_le _,(fun _ h=>nomatch h),(hin hw).1.symm,fun h=>nomatch h⟩
  ·exact (hrec hw).elim fun ps p=>⟨ps,p.2.2.1,p.2.1,p.2.2.2.1,p.2.2.2.2,fun _=>p.1⟩
 obtain ⟨ps,p1,p2,p3,p4,p5⟩:=hps
 unfold multPart
 cases hm2:marked2 m
 ·rw [hm2] at hmw
  rw [fits_unmarked hm2,← p1,← p4]
  exact H_allOf (p5 hmw) p3 (Nat.le_trans p2 (by decide))
 ·rw [← p1,← p4]
  exact H_allOf (ps:=(multF m R,fitsP m rows.length)::ps) (List.cons_ne_nil _ _) (fun p hp=>(List.mem_cons.mp hp).elim (fun q=>q▸hmu) (p3 p)) (Nat.le_trans (Nat.succ_le_succ p2) (by decide))
section
variable {S:Sets} {u:Row} {one:Tr} {Ψ:AV} {c K:Nat} {e:Env} {β:Row→Bool}
theorem one_sem (hS:S.ok) (hu:S.V=[u]) (wo:one.wf) (d1:one.depth≤1) (h21:eget e 21=some u) (hl:e.length<1000) (hΨ:∀ t:Row,t.length=one.ar→H cells (K+1) Ψ (putAll e c t) (β t)) (pΨ:Plain Ψ) (hK:2≤K) (k1:one.ar=1) :
  H cells (K+2) (allF [declF (1001+c) (exprP S one)] Ψ) e ((tuplesP S one).all β) :=
 have tl:=tuples_len1 hS wo d1
 H_all' (cells:=cells) (c:=K+1) (e:=e) (ds:=[⟨1001+c,exprP S one,tuplesP S one⟩]) (b:=Ψ) (L:=tuplesP S one) (f:=fun t=>eput e (1001+c) t) (β:=β)
  ⟨fun e' he=>List.mem_singleton.mp he▸⟨(R_exprP hS hu h21 one wo (Nat.le_succ_of_le d1)).mono (Nat.succ_le_succ (Nat.le_trans d1 (Nat.le_of_succ_le hK))),hl⟩,Nat.le_trans (flat_len _ 9 [e] fun e _=>by rw [List.length_map];exact tl) (show 1*9≤1000000 by decide),trivial⟩ pΨ
  (show (tuplesP S one).map (fun r=>eput e (1001+c) r)++[]=_ from List.append_nil _) (fun t ht=>match t,(tuples_ar hS one wo t ht).trans k1 with
   | [x],hx=>hΨ [x] k1.symm) (Nat.le_trans tl (by decide))
theorem more_sem (hS:S.ok) (hu:S.V=[u]) (wo:one.wf) (d1:one.depth≤1) (h21:eget e 21=some u) (hl:e.length+one.ar≤900) (hΨ:∀ t:Row,t.length=one.ar→H cells (K+1) Ψ (putAll e c t) (β t)) (hK:12≤K) :
  H cells (K+3) (allF ((namesP c one.ar).map fun x=>declF x univE) (impF (inF (rowE (namesP c one.ar)) (exprP S one)) Ψ)) e ((tuplesP S one).all β):=by
 have a8:=ar_le2 (T:=one) (Nat.le_succ_of_le d1)
 have c8:(cube one.ar).length≤6561:=cube_size one.ar▸Nat.pow_le_pow_right (n:=3) (by decide) a8
 have hA:=H_all' (cells:=cells) (c:=K+2) (e:=e) (ds:=univD (namesP c one.ar)) (b:=impF (inF (rowE (namesP c one.ar)) (exprP S one)) Ψ) (L:=cube one.ar) (f:=putAll e c) (β:=fun t=>!(decide (t∈tuplesP S one))||β t)
  (stage_univ (Nat.succ_pos _) one.ar c [e] (fun e' he=>List.mem_singleton.mp he▸Nat.lt_of_le_of_lt hl (by decide)) (by rw [List.length_singleton,Nat.one_mul,← cube_size];exact Nat.le_trans c8 (by decide))) (fun _=>rfl) (by rw [steps_univ,List.flatMap_cons,List.flatMap_nil,List.append_nil])
  (fun t ht=>by
   have htl:=cube_len one.ar t ht
   have hst:=putAll_stand t e c
   rw [htl] at hst
   have h21':eget (putAll e c t) 21=some u:=(putAll_old t e c 21 (Nat.le_trans (by decide:21≤1000) (Nat.le_add_right _ _))).trans h21
   have r1:=R_row (cells:=cells) (ns:=namesP c one.ar) (fun q=>absurd ((namesP_len one.ar c).symm.trans (congrArg List.length q)) (Nat.ne_of_gt (ar_pos one))) hst (htl▸Nat.le_trans a8 (by decide))
   rw [namesP_len] at r1
   have hg:=H_in (r1.mono (Nat.le_trans (Nat.succ_le_succ a8) (Nat.le_trans (by decide) hK))) ((R_exprP (cells:=cells) hS hu h21' one wo (Nat.le_succ_of_le d1)).mono (Nat.le_trans (Nat.succ_le_succ d1) (Nat.le_trans (by decide) hK))) (by show 1≤1000;decide)
   rw [show ([t].all fun r=>decide (r∈tuplesP S one))=decide (t∈tuplesP S one) from Bool.and_true _] at hg
   exact H_imp hg (hΨ t htl)) (Nat.le_trans c8 (by decide))
 rw [univD_decls] at hA
 rw [show ((cube one.ar).all fun t=>!(decide (t∈tuplesP S one))||β t)=(tuplesP S one).all β from Bool.eq_iff_iff.mpr (by
  rw [List.all_eq_true,List.all_eq_true]
  refine ⟨fun h t ht=>?_,fun h t _=>?_⟩
  ·have:=h t (mem_cube one.ar t (tuples_ar hS one wo t ht) (tuples_ent hS one wo t ht))
   rw [decide_eq_true ht] at this
   exact this
  ·by_cases ht:t∈tuplesP S one
   ·rw [h t ht,Bool.or_true]
   ·rw [decide_eq_false ht];rfl)] at hA
 exact hA
theorem half_sem (hS:S.ok) (hu:S.V=[u]) {m:Nat} {w:Bool} {rest:List Nat→AV} {rec:AV→Nat→List AV×Nat} {C:Nat} (hm:m<5) (wo:one.wf) (d1:one.depth≤1) (h21:eget e 21=some u) (hl:e.length+one.ar≤900)
  (restP:Row→List Row) (inP:Row→Bool) (hread:∀ t:Row,t.length=one.ar→Reads cells C (rest (namesP c one.ar)) (putAll e c t) (restP t)) (hin:w=false→∀ t,inP t=true)
  (hrec:w=true→∀ t:Row,t.length=one.ar→∃ ps:List (AV×Bool),ps≠[]∧ps.length≤10∧ps.map (·.1)=(rec (rest (namesP c one.ar)) (c+one.ar)).1∧(∀ p∈ps,H cells K p.1 (putAll e c t) p.2)∧ps.all (·.2)=inP t)
  (hK:C+2≤K) (hK2:12≤K):∃ ps:List (AV×Bool),ps.map (·.1)=(halfF S m one w rest rec c).1∧(∀ p∈ps,H cells (K+4) p.1 e p.2)∧ps.map (·.2)=cond (marked2 m||w) [(tuplesP S one).all fun t=>fitsP m (restP t).length&&inP t] []:=by
 unfold halfF
 cases hmw:(marked2 m||w)
 ·exact ⟨[],rfl,(fun _ h=>nomatch h),rfl⟩
 have hΨ:∀ t:Row,t.length=one.ar→H cells (K+1) (allOfP (multPart m (rest (namesP c one.ar))++(inner w rec (rest (namesP c one.ar)) (c+one.ar)).1)) (putAll e c t) (fitsP m (restP t).length&&inP t):=fun t ht =>
  inner_sem hm (w:=w) (hread t ht) (fun q=>⟨hin q t,q▸rfl⟩) (fun q=>(hrec q t ht).elim fun ps p=>⟨ps,p.1,p.2.1,p.2.2.1.trans (q▸rfl),p.2.2.2⟩) hmw hK
 have pΨ:=(hΨ (List.replicate one.ar 0) List.length_replicate).1
 show ∃ ps:List (AV×Bool),ps.map (·.1)=[allF (declsP (namesP c one.ar) (exprP S one)) (guardedF (namesP c one.ar) (exprP S one) (allOfP (multPart m (rest (namesP c one.ar))++(inner w rec (rest (namesP c one.ar)) (c+one.ar)).1)))]∧_
 generalize allOfP (multPart m (rest (namesP c one.ar))++(inner w rec (rest (namesP c one.ar)) (c+one.ar)).1)=Ψ at *
 refine ⟨[(_,_)],rfl,fun p hp=>List.mem_singleton.mp hp▸?_,rfl⟩
 show H cells (K+4) (allF (declsP (namesP c one.ar) (exprP S one)) (guardedF (namesP c one.ar) (exprP S one) Ψ)) e _
 by_cases k1:one.ar=1
 ·have h:=one_sem (β:=fun t=>fitsP m (restP t).length&&inP t) hS hu wo d1 h21 (Nat.lt_of_le_of_lt (Nat.le_trans (Nat.le_add_right _ _) hl) (by decide)) hΨ pΨ (Nat.le_trans (by decide) hK2) k1
  rw [k1]
  exact h.mono (Nat.add_le_add_left (by decide) K)
 ·have h:=(more_sem (β:=fun t=>fitsP m (restP t).length&&inP t) hS hu wo d1 h21 hl hΨ hK2).mono (Nat.le_succ (K+3))
  have nl:=namesP_len one.ar c
  revert h
  have two:∀ ns:List Nat,ns.length=one.ar→H cells (K+4) (allF (ns.map fun x=>declF x univE) (impF (inF (rowE ns) (exprP S one)) Ψ)) e ((tuplesP S one).all fun t=>fitsP m (restP t).length&&inP t)→H cells (K+4) (allF (declsP ns (exprP S one)) (guardedF ns (exprP S one) Ψ)) e ((tuplesP S one).all fun t=>fitsP m (restP t).length&&inP t)
   | [],q,_=>absurd q.symm (Nat.ne_of_gt (ar_pos one))
   | [x],q,_=>absurd q.symm k1
   | x::y::r,_,h=>h
  exact two _ nl
end
end
noncomputable def sidesB (S:Sets):Tr→List Row→List Bool
 | .leaf _,_=>[]
 | .arr m1 m2 l r,rows=>cond (marked2 m2||watchedP r) [besideP S (.arr m1 m2 l r) rows true] []++cond (marked2 m1||watchedP l) [besideP S (.arr m1 m2 l r) rows false] []
noncomputable def sideB (S:Sets) (m:Nat) (O T:Tr) (restP:Row→List Row):Bool:=(tuplesP S O).all fun t=>fitsP m (restP t).length&&(besideP S T (restP t) true&&besideP S T (restP t) false)
section
variable {cells:List Int} {S:Sets}
theorem all_tt {α:Type} {f:α→Bool} {l:List α} (h:∀ x,f x=true):l.all f=true:=List.all_eq_true.mpr fun x _=>h x
theorem side_off {m:Nat} {O T:Tr} {restP:Row→List Row} (h:(marked2 m||watchedP T)=false) (hT:∀ rows b,besideP S T rows b=true):sideB S m O T restP=true :=
 all_tt fun a=>by
  rw [fits_unmarked (Bool.or_eq_false_iff.mp h).1,hT,hT]
  rfl
theorem beside_unwatched:∀ (T:Tr) (rows:List Row) (b:Bool),watchedP T=false→besideP S T rows b=true
 | .leaf _,_,_,_=>rfl
 | .arr m1 m2 l r,rows,b,h =>
  have h1:=Bool.or_eq_false_iff.mp h
  have h2:=Bool.or_eq_false_iff.mp h1.2
  have h3:=Bool.or_eq_false_iff.mp h2.2
  match b with
  | true=>side_off (m:=m2) (O:=l) (restP:=fun a=>restL a rows) (Bool.or_eq_false_iff.mpr ⟨h2.1,h3.2⟩) fun rows b=>beside_unwatched r rows b h3.2
  | false=>side_off (m:=m1) (O:=r) (restP:=fun a=>restR a rows) (Bool.or_eq_false_iff.mpr ⟨h1.1,h3.1⟩) fun rows b=>beside_unwatched l rows b h3.1
theorem cond_all {c b:Bool} (h:c=false→b=true):(cond c [b] []).all id=b:=match c,h with
 | true,_=>Bool.and_true b
 | false,h=>(h rfl).symm
theorem sides_all:∀ (T:Tr) (rows:List Row),(sidesB S T rows).all id=(besideP S T rows true&&besideP S T rows false)
 | .leaf _,_=>rfl
 | .arr m1 m2 l r,rows=>List.all_append.trans (congr (congrArg and (cond_all fun h=>side_off (O:=l) (restP:=fun a=>restL a rows) h fun rows b=>beside_unwatched r rows b (Bool.or_eq_false_iff.mp h).2)) (cond_all fun h=>side_off (O:=r) (restP:=fun a=>restR a rows) h fun rows b=>beside_unwatched l rows b (Bool.or_eq_false_iff.mp h).2))
theorem sides_ne:∀ {T:Tr} {rows:List Row},watchedP T=true→sidesB S T rows≠[]
 | .leaf _,_,h=>nomatch h
 | .arr m1 m2 l r,rows,h=>fun q=>by
  have q:=List.append_eq_nil_iff.mp q
  have e1:(marked2 m2||watchedP r)=false:=by revert q;cases (marked2 m2||watchedP r) <;> exact fun q=>by first | rfl | exact nomatch q.1
  have e2:(marked2 m1||watchedP l)=false:=by revert q;cases (marked2 m1||watchedP l) <;> exact fun q=>by first | rfl | exact nomatch q.2
  have e1:=Bool.or_eq_false_iff.mp e1
  have e2:=Bool.or_eq_false_iff.mp e2
  have h':(marked2 m1||(marked2 m2||(watchedP l||watchedP r)))=true:=h
  rw [e1.1,e1.2,e2.1,e2.2] at h'
  cases h'
theorem cond_len {c b:Bool}:(cond c [b] []).length≤1:=match c with
 | true=>Nat.le_refl 1
 | false=>Nat.zero_le 1
theorem sides_len:∀ (T:Tr) (rows:List Row),(sidesB S T rows).length≤2
 | .leaf _,_=>Nat.zero_le _
 | .arr m1 m2 l r,rows=>List.length_append▸Nat.add_le_add cond_len cond_len
theorem mem_names:∀ (k c n:Nat),n∈namesP c k→n≤1000+(c+k)
 | k+1,c,n,h=>(List.mem_cons.mp h).elim (fun q=>q▸by show 1001+c≤1000+(c+(k+1));lia) fun h=>Nat.le_trans (mem_names k (c+1) n h) (by lia)
theorem stand_agree {e e':Env}:∀ {ns:List Nat} {t:Row},(∀ n∈ns,eget e' n=eget e n)→Stand e ns t→Stand e' ns t
 | [],[],_,_=>trivial
 | n::ns,x::t,h,hs=>⟨(h n (.head _)).trans hs.1,stand_agree (fun m hm=>h m (.tail _ hm)) hs.2⟩
theorem half_up {m:Nat} {one:Tr} {w:Bool} {rest:List Nat→AV} {rec:AV→Nat→List AV×Nat} {c:Nat} (h:∀ V c,c≤(rec V c).2):c≤(halfF S m one w rest rec c).2 :=
 half_by (P:=fun p=>c≤p.2) (Nat.le_refl c) (inner_by (P:=fun p=>c≤p.2) (Nat.le_add_right c _) (Nat.le_trans (Nat.le_add_right c _) (h _ _)))
theorem marked_up:∀ (T:Tr) (V:AV) (c:Nat),c≤(markedF S T V c).2
 | .leaf _,_,c=>Nat.le_refl c
 | .arr _ _ l r,_,_=>Nat.le_trans (half_up (marked_up r)) (half_up (marked_up l))
def Knows (cells:List Int) (C:Nat) (V:AV) (e:Env) (c:Nat) (rows:List Row):Prop:=∀ e',(∀ x,x≤1000+c→eget e' x=eget e x)→Reads cells C V e' rows
def Sem (cells:List Int) (S:Sets) (u:Row) (T:Tr):Prop:=∀ (V:AV) (c:Nat) (rows:List Row) (C:Nat) (e:Env),10≤C→rows.Nodup→(∀ t∈rows,t.length=T.ar)→rows.length≤40→eget e 21=some u→Knows cells C V e c rows→e.length+T.tot≤900 →
  ∃ ps:List (AV×Bool),ps.map (·.1)=(markedF S T V c).1∧(∀ p∈ps,H cells (C+20*T.depth) p.1 e p.2)∧ps.map (·.2)=sidesB S T rows
theorem le1000 {k:Nat}:21≤1000+k:=Nat.le_trans (by decide) (Nat.le_add_right 1000 k)
theorem put21 {e:Env} {c:Nat} {t:Row} {u:Row} (h:eget e 21=some u):eget (putAll e c t) 21=some u:=(putAll_old t e c 21 le1000).trans h
theorem side_sem (hS:S.ok) {u:Row} (hu:S.V=[u]) {O T:Tr} {m:Nat} (hm:m<5) (wO:O.wf) (dO:O.depth≤1) (ih:Sem cells S u T) {rest:List Nat→AV} {restP:Row→List Row} {c C D:Nat} {e:Env} (hC:10≤C) (h21:eget e 21=some u) (hl:e.length+(O.ar+T.tot)≤900) (hD:T.depth≤D)
  (hread:∀ t:Row,t.length=O.ar→Knows cells (C+8) (rest (namesP c O.ar)) (putAll e c t) (c+O.ar) (restP t)) (hrn:∀ t:Row,t.length=O.ar→(restP t).Nodup∧∀ y∈restP t,y.length=T.ar) (hrl:∀ t,(restP t).length≤40) :
  ∃ ps:List (AV×Bool),ps.map (·.1)=(halfF S m O (watchedP T) rest (markedF S T) c).1∧(∀ p∈ps,H cells (C+20*(D+1)) p.1 e p.2)∧ps.map (·.2)=cond (marked2 m||watchedP T) [sideB S m O T restP] []:=by
 have h:=half_sem (K:=C+8+20*D+8) (C:=C+8) hS hu hm wO dO h21 (Nat.le_trans (Nat.add_le_add_left (Nat.le_add_right _ _) _) hl) restP (fun t=>besideP S T (restP t) true&&besideP S T (restP t) false) (w:=watchedP T) (rest:=rest) (rec:=markedF S T)
  (fun t ht=>hread t ht _ fun _ _=>rfl) (fun hw t=>by rw [beside_unwatched T _ _ hw,beside_unwatched T _ _ hw];rfl) (fun hw t ht=>by
   obtain ⟨ps,g1,g2,g3⟩:=ih (rest (namesP c O.ar)) (c+O.ar) (restP t) (C+8) (putAll e c t) (Nat.le_trans hC (Nat.le_add_right _ _)) (hrn t ht).1 (hrn t ht).2 (hrl t) (put21 h21) (hread t ht) (Nat.le_trans (Nat.add_le_add_right (putAll_len t e c) _) (by rw [ht,Nat.add_assoc];exact hl))
   refine ⟨ps,fun q=>sides_ne (S:=S) hw (g3.symm.trans (congrArg _ q)),Nat.le_trans ((List.length_map (f:=Prod.snd) (as:=ps)).symm▸g3▸sides_len T (restP t)) (by decide),g1,fun p hp=>(g2 p hp).mono (Nat.le_trans (Nat.add_le_add_left (Nat.mul_le_mul_left 20 hD) _) (Nat.le_add_right _ _)),?_⟩
   have:=sides_all (S:=S) T (restP t)
   rw [← g3,List.all_map] at this
   exact this) (Nat.add_le_add_left (by decide) _ |> fun h=>Nat.le_trans (Nat.le_of_eq rfl) (Nat.le_trans (Nat.add_le_add_right (Nat.le_add_right (C+8) (20*D)) 2) h)) (Nat.le_trans (by decide:12≤8+8) (Nat.add_le_add_right (Nat.le_trans (Nat.le_add_left 8 C) (Nat.le_add_right _ _)) 8))
 exact h.elim fun ps h=>⟨ps,h.1,fun p hp=>(h.2.1 p hp).mono (Nat.le_of_eq (by lia)),h.2.2⟩
theorem read_of {cells:List Int} {C k c c1:Nat} {V:AV} {e e':Env} {t:Row} {rows:List Row} (hV:Knows cells C V e c rows) (hc:c≤c1) (ht:t.length=k) (hag:∀ x,x≤1000+(c1+k)→eget e' x=eget (putAll e c1 t) x):Stand e' (namesP c1 k) t∧Reads cells C V e' rows :=
 ⟨stand_agree (fun n hn=>hag n (mem_names _ _ _ hn)) (ht▸putAll_stand t e c1),hV e' fun x hx=>(hag x (Nat.le_trans hx (Nat.add_le_add_left (Nat.le_trans hc (Nat.le_add_right _ _)) _))).trans (putAll_old t e c1 x (Nat.le_trans hx (Nat.add_le_add_left hc _)))⟩
theorem marked_sem (hS:S.ok) {u:Row} (hu:S.V=[u]):∀ T:Tr,T.wf→T.depth≤2→Sem cells S u T
 | .leaf _,_,_=>fun V c rows C e _ _ _ _ _ _ _=>⟨[],rfl,(fun _ h=>nomatch h),rfl⟩
 | .arr m1 m2 l r,w,hd=>fun V c rows C e hC hn hw hlen h21 hV he=>by
  have hd1:max l.depth r.depth≤1:=Nat.le_of_succ_le_succ hd
  have dl:=Nat.le_trans (Nat.le_max_left l.depth r.depth) hd1
  have dr:=Nat.le_trans (Nat.le_max_right l.depth r.depth) hd1
  have hw1:∀ t∈rows,t.length=l.ar+r.ar:=hw
  have he1:e.length+(l.ar+r.ar+r.tot+l.tot)≤900:=he
  have p1:=ar_pos l
  have p2:=ar_pos r
  have q1:=ar_le2 (T:=l) (Nat.le_succ_of_le dl)
  have q2:=ar_le2 (T:=r) (Nat.le_succ_of_le dr)
  have hb:l.ar+r.ar<100:=Nat.lt_of_le_of_lt (Nat.add_le_add q1 q2) (by decide)
  have hb':r.ar+l.ar<100:=Nat.add_comm l.ar r.ar▸hb
  have hc1:=Nat.le_trans (by decide:1≤10) hC
  obtain ⟨ps1,a1,a2,a3⟩:=side_sem (cells:=cells) (c:=c) (e:=e) (D:=max l.depth r.depth) (rest:=restLE V) (restP:=fun t=>restL t rows) hS hu w.2.1 w.2.2.1 dl (marked_sem hS hu r w.2.2.2 (Nat.le_succ_of_le dr)) hC h21 (by lia) (Nat.le_max_right _ _)
   (fun t ht e'' hag=>by
    have k:=read_of hV (Nat.le_refl c) ht hag
    have:=chainL (cells:=cells) (e:=e'') p2 (namesP c l.ar) t V C rows k.1 hc1 k.2 hn (fun y hy=>by rw [hw1 y hy,ht]) (ht.symm▸hb) hlen
    rw [namesP_len] at this
    exact this.mono (Nat.add_le_add_left q1 C)) (fun t ht=>restL_nodup (t:=t) (rows:=rows) p2 (fun y hy=>by rw [hw1 y hy,ht]) hn) fun t=>Nat.le_trans (restL_len t rows) hlen
  have hc2:=half_up (S:=S) (m:=m2) (one:=l) (w:=watchedP r) (rest:=restLE V) (c:=c) (marked_up (S:=S) r)
  obtain ⟨ps2,b1,b2,b3⟩:=side_sem (cells:=cells) (c:=(halfF S m2 l (watchedP r) (restLE V) (markedF S r) c).2) (e:=e) (D:=max l.depth r.depth) (rest:=restRE V) (restP:=fun t=>restR t rows) hS hu w.1 w.2.2.2 dr (marked_sem hS hu l w.2.2.1 (Nat.le_succ_of_le dl)) hC h21 (by lia) (Nat.le_max_left _ _)
   (fun t ht e'' hag=>by
    have k:=read_of hV hc2 ht hag
    have:=chainR (cells:=cells) (e:=e'') p1 r.ar (namesP _ r.ar) t V C rows (namesP_len _ _) k.1 hc1 k.2 hn (fun y hy=>by rw [hw1 y hy,ht]) (ht.symm▸hb') hlen
    exact this.mono (Nat.add_le_add_left q2 C)) (fun t ht=>restR_nodup t.length (t:=t) (rows:=rows) rfl p1 (fun y hy=>by rw [hw1 y hy,ht]) hn) fun t=>Nat.le_trans (restR_len t rows) hlen
  exact ⟨ps1++ps2,by rw [List.map_append,a1,b1];rfl,fun p hp=>(List.mem_append.mp hp).elim (a2 p) (b2 p),by rw [List.map_append,a3,b3];rfl⟩
end
noncomputable abbrev watchC:PE:=.boolop false [.cmp .notin (.var 16) (.tup [.str 0,.str 1]),.call .watched [.var 19]]
noncomputable abbrev askB:List PS:=[.ite (.cmp .ne (.call .holds [.var 18,.var 24]) (.call .beside [.var 7,.var 10,.var 11,.var 17])) [.ret (.bool false)] []]
noncomputable abbrev okC:PE:=.boolop false [.cmp .ne (.bi .len [.var 25]) (.bi .len [.var 32]),.cmp .ne (.bi .lenSet [.bin .add (.var 33) (.lst [.str 22,.str 21])]) (.bin .add (.bi .len [.var 33]) (.int 2))]
noncomputable abbrev namesC:PE:=.comp2 (.var 26) (.v 18) (.var 25) (.v 26) (.call .bound [.var 18]) .none_
noncomputable abbrev watchE:PE:=.comp (.var 17) (.t [17,16,19]) (.var 32) watchC
noncomputable abbrev sidesE:PE:=.lst [.tup [.bool true,.sub (.var 10) (.int 3),.sub (.var 10) (.int 5)],.tup [.bool false,.sub (.var 10) (.int 2),.sub (.var 10) (.int 4)]]
noncomputable def rightTail:List PS:=[.asg (.v 32) sidesE,.asg (.v 32) watchE,.asg (.v 25) (.meth .mMarked (.var 28) [.var 30,.var 10,.var 29]),.asg (.v 33) namesC,.ite okC [.ret (.bool false)] [],
  .for_ (.t [18,17]) (.zip (.var 25) (.var 32)) askB,.ret (.bool true)]
section
variable {cells:List Int} {S:Sets} {call:Fn→List AV→GS→Option (AV×GS)} {ρ:List (Nat×AV)} {lh:List (LO×Bool)} {g g':GS}
theorem strsOf_map:∀ l:List Nat,strsOf (l.map .str)=some l
 | []=>rfl
 | x::l=>congrArg (Option.map (x::·)) (strsOf_map l)
theorem names_ge:∀ (k c n:Nat),n∈namesP c k→1001+c≤n
 | k+1,c,n,h=>(List.mem_cons.mp h).elim (fun q=>Nat.le_of_eq q.symm) fun h=>Nat.le_of_succ_le (names_ge k (c+1) n h)
theorem names_nodup:∀ (k c:Nat),(namesP c k).Nodup
 | 0,_=>List.nodup_nil
 | k+1,c=>List.nodup_cons.mpr ⟨fun h=>Nat.not_succ_le_self _ (names_ge _ _ _ h),names_nodup k (c+1)⟩
theorem dedup_id:∀ {l:List Nat},l.Nodup→dedup l=l
 | [],_=>rfl
 | x::l,h=>by
  have h:=List.nodup_cons.mp h
  rw [dedup_cons,dedup_id h.2,if_neg h.1]
theorem names_set (c k:Nat):(dedup (namesP c k++[22,21])).length=k+2:=by
 rw [dedup_id (List.nodup_append.mpr ⟨names_nodup k c,by decide,fun a ha b hb q=>absurd (names_ge _ _ _ ha) (Nat.not_le.mpr (Nat.lt_of_le_of_lt (q▸(List.mem_cons.mp hb).elim (fun q=>q▸by decide) (fun q=>List.mem_singleton.mp q▸by decide):a≤22) (Nat.lt_of_lt_of_le (by decide) (Nat.le_add_right 1001 c))))⟩),List.length_append,namesP_len]
 rfl
theorem watch1 {b:Bool} {m:Nat} (hm:m<5) {o:Tr} (ho:call .watched [o.av] g=some (.bool (watchedP o),g)) :
  testThen (isNoneE watchC) (evalE cells call watchC) (evalE cells call (.var 17)) ⟨(19,o.av)::(16,.str m)::(17,.bool b)::ρ,lh,g⟩=some (cond (marked2 m||watchedP o) [.bool b] [],⟨(19,o.av)::(16,.str m)::(17,.bool b)::ρ,lh,g⟩):=by
 match e1:marked2 m,e2:watchedP o with
 | true,_=>exact ttR [.o (.bool true)] (k1 (nin (lh:=lh) hm e1)) (by kernel_rfl!)
 | false,true=>rw [e2] at ho;exact ttR [.o (.bool false),.k,.c (.bool true) g] (k3 (nin (lh:=lh) hm e1) (fzT (lh:=lh) o) ho) (by kernel_rfl!)
 | false,false=>rw [e2] at ho;exact ttR [.o (.bool false),.k,.c (.bool false) g] (k3 (nin (lh:=lh) hm e1) (fzT (lh:=lh) o) ho) (by kernel_rfl!)
theorem loop2 {t:Tgt} {body:St→Option (List AV×St)} {x y:AV} {st st1 st2 st3 st4:St} {a b:List AV} (h1:bindT t x st=some st1) (e1:body st1=some (a,st2)) (h2:bindT t y st2=some st3) (e2:body st3=some (b,st4)):loopC t body [x,y] st=some (a++b,st4):=by
 show (bindT t x st).bind (fun st=>bnd (body st) fun ys st=>bnd (loopC t body [y] st) fun zs st=>some (ys++zs,st))=_
 rw [h1]
 refine (bnd_some (f:=fun ys st=>bnd (loopC t body [y] st) fun zs st=>some (ys++zs,st)) e1).trans ?_
 show bnd ((bindT t y st2).bind fun st=>bnd (body st) fun ys st=>bnd (loopC t body [] st) fun zs st=>some (ys++zs,st)) _=_
 rw [h2]
 refine (congrArg (fun o=>bnd o fun zs st=>some (a++zs,st)) (bnd_some (f:=fun ys st=>bnd (loopC t body [] st) fun zs st=>some (ys++zs,st)) e2)).trans ?_
 exact congrArg (fun l=>some (a++l,st4)) (List.append_nil b)
noncomputable def sbP (m1 m2:Nat) (l r:Tr):List Bool:=cond (marked2 m2||watchedP r) [true] []++cond (marked2 m1||watchedP l) [false] []
theorem sb_len {m1 m2:Nat} {l r:Tr}:(sbP m1 m2 l r).length≤2:=List.length_append▸Nat.add_le_add cond_len cond_len
theorem sb_map {m1 m2:Nat} {l r:Tr} {α:Type} {f:Bool→α}:(sbP m1 m2 l r).map f=cond (marked2 m2||watchedP r) [f true] []++cond (marked2 m1||watchedP l) [f false] []:=by
 unfold sbP
 cases (marked2 m2||watchedP r) <;> cases (marked2 m1||watchedP l) <;> rfl
theorem ev_watch {m1 m2:Nat} {l r:Tr} (h1:m1<5) (h2:m2<5) (hl:call .watched [l.av] g=some (.bool (watchedP l),g)) (hr:call .watched [r.av] g=some (.bool (watchedP r),g))
  (h32:dget ρ 32=some (.lst [.tup [.bool true,.str m2,r.av],.tup [.bool false,.str m1,l.av]])) (h17:dget ρ 17=none) (h16:dget ρ 16=none) (h19:dget ρ 19=none) :
  evalE cells call watchE ⟨ρ,lh,g⟩=some (.lst ((sbP m1 m2 l r).map .bool),⟨ρ,lh,g⟩):=by
 have hu:unb (.t [17,16,19]) ρ=true:=by
  show ((dget ρ 17).isNone&&((dget ρ 16).isNone&&((dget ρ 19).isNone&&true)))=true
  rw [h17,h16,h19]
  rfl
 have hi:evalE cells call (.var 32) ⟨ρ,lh,g⟩=some (.lst [.tup [.bool true,.str m2,r.av],.tup [.bool false,.str m1,l.av]],⟨ρ,lh,g⟩):=evR [.v 32 (.lst [.tup [.bool true,.str m2,r.av],.tup [.bool false,.str m1,l.av]])] (k1 h32) (by kernel_rfl!)
 have hl2:loopC (.t [17,16,19]) (testThen (isNoneE watchC) (evalE cells call watchC) (evalE cells call (.var 17))) [.tup [.bool true,.str m2,r.av],.tup [.bool false,.str m1,l.av]] ⟨ρ,lh,g⟩=_:=loop2 rfl (watch1 (b:=true) (ρ:=ρ) h2 hr) rfl (watch1 (b:=false) (ρ:=(19,r.av)::(16,.str m2)::(17,.bool true)::ρ) h1 hl)
 rw [← sb_map (f:=AV.bool)] at hl2
 exact comp_eq hi rfl hl2 hu (by rw [List.length_map];exact Nat.le_trans sb_len (by decide))
theorem ne_same {b:Bool}:cmpV lh .ne (.bool b) (.bool b)=some (.bool false):=by cases b <;> rfl
theorem ne_int {i j:Int} (h:i=j):cmpV lh .ne (.int i) (.int j)=some (.bool false):=congrArg (fun b=>some (AV.bool !b)) (decide_eq_true h)
def Asked (call:Fn→List AV→GS→Option (AV×GS)) (S:Sets) (e:Env) (rows:List Row) (T:Tr) (g:GS) (p:AV×Bool×Bool):Prop:=Plain p.1∧call .holds [p.1,envAV e] g=some (.bool p.2.2,g)∧call .beside [.lst (rows.map rowAV),T.av,S.av,.bool p.2.1] g=some (.bool p.2.2,g)
theorem zip_loop {e:Env} {rows:List Row} {T:Tr}:∀ (xs:List (AV×Bool×Bool)) (ρ:List (Nat×AV)),(∀ p∈xs,Asked call S e rows T g p)→dget ρ 24=some (envAV e)→dget ρ 7=some (.lst (rows.map rowAV))→dget ρ 10=some T.av→dget ρ 11=some S.av →
   ∃ ρ',loopF (.t [18,17]) (execSs cells call askB) (xs.map fun p=>.tup [p.1,.bool p.2.1]) ⟨ρ,lh,g⟩=some (.next,⟨ρ',lh,g⟩)
 | [],ρ,_,_,_,_,_=>⟨ρ,rfl⟩
 | p::xs,ρ,h,h24,h7,h10,h11 =>
  have q:=h p (.head _)
  let ⟨ρ',e2⟩:=zip_loop xs ((17,.bool p.2.1)::(18,p.1)::ρ) (fun q hq=>h q (.tail _ hq)) h24 h7 h10 h11
  have e1:execSs cells call askB ⟨(17,.bool p.2.1)::(18,p.1)::ρ,lh,g⟩=some (.next,⟨(17,.bool p.2.1)::(18,p.1)::ρ,lh,g⟩) :=
   exssR [.k,.v 24 (envAV e),.c (.bool p.2.2) g,.v 7 (.lst (rows.map rowAV)),.v 10 T.av,.k,.v 11 S.av,.c (.bool p.2.2) g,.o (.bool false)] (k9 (q.1 lh) h24 q.2.1 h7 h10 (fzT (lh:=lh) T) h11 q.2.2 (ne_same (lh:=lh) (b:=p.2.2))) (by kernel_rfl!)
  ⟨ρ',(bnd_some (f:=fun f st=>flV f st (loopF (.t [18,17]) (execSs cells call askB) (xs.map fun p:AV×Bool×Bool=>AV.tup [p.1,.bool p.2.1]))) e1).trans e2⟩
theorem ok_cond {F:List AV} {sb:List Bool} {ns:List Nat} {k:Nat} (hl:F.length=sb.length) (hn:ns.length=k) (hk:k+2≤900) (hset:(dedup (ns++[22,21])).length=k+2) (h32:dget ρ 32=some (.lst (sb.map .bool))) :
  evalE cells call okC ⟨(33,.lst (ns.map .str))::(25,.lst F)::ρ,lh,g⟩=some (.bool false,⟨(33,.lst (ns.map .str))::(25,.lst F)::ρ,lh,g⟩):=by
 have hl2:(ns++[22,21]).length=k+2:=by rw [List.length_append,hn];rfl
 have x1:=app_strs (lh:=lh) (x:=ns) (y:=[22,21]) (by rw [hn];exact Nat.le_trans hk (by decide))
 have x2:biV lh .lenSet [.lst ((ns++[22,21]).map AV.str)]=some (.int (k+2:Nat)):=by
  show (strsOf ((ns++[22,21]).map AV.str)).bind (fun cs=>cond (Nat.blt cs.length 1000) (some (AV.int (dedup cs).length)) none)=_
  rw [strsOf_map]
  show cond (Nat.blt (ns++[22,21]).length 1000) (some (AV.int ((dedup (ns++[22,21])).length:Nat))) none=_
  rw [hset]
  exact cond_t (show Nat.blt (ns++[22,21]).length 1000=true from Nat.ble_eq_true_of_le (hl2▸Nat.lt_of_le_of_lt hk (by decide:900<1000)))
 exact evR [.v 32 (.lst (sb.map .bool)),.g,.o (.bool false),.g,.g,.o (.lst ((ns++[22,21]).map .str)),.o (.int (k+2:Nat)),.g,.g,.o (.bool false)]
  (k5 h32 (ne_int (lh:=lh) (i:=(F.length:Nat)) (j:=((sb.map AV.bool).length:Nat)) (by rw [hl,List.length_map])) x1 x2 (ne_int (lh:=lh) (i:=(k+2:Nat)) (j:=((ns.map AV.str).length:Nat)+2) (by rw [List.length_map,hn];rfl))) (by kernel_rfl!)
end
section
variable {cells:List Int} {S:Sets}
theorem cost0:∀ {T:Tr},T.depth≤0→T.cost=2∧T.mc=0
 | .leaf _,_=>⟨rfl,rfl⟩
 | .arr _ _ _ _,h=>absurd h (Nat.not_succ_le_zero _)
theorem cost1:∀ {T:Tr},T.depth≤1→T.cost≤5∧T.mc≤4
 | .leaf _,_=>⟨(by decide:(2:Int)≤5),(by decide:(0:Int)≤4)⟩
 | .arr _ _ l r,h=>by
  have h:=Nat.le_of_succ_le_succ h
  have a:=cost0 (Nat.le_trans (Nat.le_max_left l.depth r.depth) h)
  have b:=cost0 (Nat.le_trans (Nat.le_max_right l.depth r.depth) h)
  show 1+l.cost+r.cost≤5∧l.cost+r.cost+r.mc+l.mc≤4
  rw [a.1,a.2,b.1,b.2]
  decide
structure TailB (S:Sets) (T:Tr) (V:AV) (rows:List Row) (e:Env) (ρ:List (Nat×AV)):Prop where
 h28:dget ρ 28=some .opener
 h10:dget ρ 10=some T.av
 h29:dget ρ 29=some (opEnv S)
 h30:dget ρ 30=some V
 h7:dget ρ 7=some (.lst (rows.map rowAV))
 h11:dget ρ 11=some S.av
 h24:dget ρ 24=some (envAV e)
 u17:dget ρ 17=none
 u16:dget ρ 16=none
 u19:dget ρ 19=none
 u18:dget ρ 18=none
 u26:dget ρ 26=none
theorem zip_each {f:Bool→Bool}:∀ (a:List (AV×Bool)) (b:List Bool),a.map (·.2)=b.map f→∀ q∈a.zip b,q.1.2=f q.2
 | x::a,y::b,h,q,hq=>(List.mem_cons.mp hq).elim (fun w=>w▸(List.cons.inj h).1) (zip_each a b (List.cons.inj h).2 q)
theorem tail_run {n:Nat} {m1 m2:Nat} {l r:Tr} {V:AV} {rows:List Row} {e:Env} {ρ ρ':List (Nat×AV)} {lh:List (LO×Bool)} {g g':GS} {F:List AV} {sb:List Bool} {ns:List Nat} (B:TailB S (.arr m1 m2 l r) V rows e ρ) (pV:Plain V)
  (ew:∀ lh,evalE cells (callP cells bodies n) watchE ⟨(32,.lst [.tup [.bool true,.str m2,r.av],.tup [.bool false,.str m1,l.av]])::ρ,lh,g⟩=some (.lst (sb.map .bool),⟨(32,.lst [.tup [.bool true,.str m2,r.av],.tup [.bool false,.str m1,l.av]])::ρ,lh,g⟩))
  (eM:callP cells bodies n .mMarked [.opener,V,(Tr.arr m1 m2 l r).av,opEnv S] g=some (.lst F,g'))
  (en:evalE cells (callP cells bodies n) namesC ⟨(25,.lst F)::(32,.lst (sb.map .bool))::(32,.lst [.tup [.bool true,.str m2,r.av],.tup [.bool false,.str m1,l.av]])::ρ,lh,g'⟩=some (.lst (ns.map .str),⟨(25,.lst F)::(32,.lst (sb.map .bool))::(32,.lst [.tup [.bool true,.str m2,r.av],.tup [.bool false,.str m1,l.av]])::ρ,lh,g'⟩))
  (eo:evalE cells (callP cells bodies n) okC ⟨(33,.lst (ns.map .str))::(25,.lst F)::(32,.lst (sb.map .bool))::(32,.lst [.tup [.bool true,.str m2,r.av],.tup [.bool false,.str m1,l.av]])::ρ,lh,g'⟩=some (.bool false,⟨(33,.lst (ns.map .str))::(25,.lst F)::(32,.lst (sb.map .bool))::(32,.lst [.tup [.bool true,.str m2,r.av],.tup [.bool false,.str m1,l.av]])::ρ,lh,g'⟩))
  (ez:execS cells (callP cells bodies n) (.for_ (.t [18,17]) (.zip (.var 25) (.var 32)) askB) ⟨(33,.lst (ns.map .str))::(25,.lst F)::(32,.lst (sb.map .bool))::(32,.lst [.tup [.bool true,.str m2,r.av],.tup [.bool false,.str m1,l.av]])::ρ,lh,g'⟩=some (.next,⟨ρ',lh,g'⟩)) :
  execSs cells (callP cells bodies n) rightTail ⟨ρ,lh,g⟩=some (.ret (.bool true),⟨ρ',lh,g'⟩):=by
 have ei:execS cells (callP cells bodies n) (.ite okC [.ret (.bool false)] []) ⟨(33,.lst (ns.map .str))::(25,.lst F)::(32,.lst (sb.map .bool))::(32,.lst [.tup [.bool true,.str m2,r.av],.tup [.bool false,.str m1,l.av]])::ρ,lh,g'⟩=some (.next,⟨(33,.lst (ns.map .str))::(25,.lst F)::(32,.lst (sb.map .bool))::(32,.lst [.tup [.bool true,.str m2,r.av],.tup [.bool false,.str m1,l.av]])::ρ,lh,g'⟩) :=
  bnd_some (f:=fun x st=>brV x (execSs cells (callP cells bodies n) [.ret (.bool false)] st) (execSs cells (callP cells bodies n) [] st)) eo
 exact exssR [.v 10 (Tr.arr m1 m2 l r).av,.v 10 (Tr.arr m1 m2 l r).av,.k,.v 10 (Tr.arr m1 m2 l r).av,.v 10 (Tr.arr m1 m2 l r).av,.k,.e (.lst (sb.map .bool)) ⟨(32,.lst [.tup [.bool true,.str m2,r.av],.tup [.bool false,.str m1,l.av]])::ρ,lh,g⟩,.v 28 .opener,.v 30 V,.k,.v 10 (Tr.arr m1 m2 l r).av,.v 29 (opEnv S),.c (.lst F) g',
   .e (.lst (ns.map .str)) ⟨(25,.lst F)::(32,.lst (sb.map .bool))::(32,.lst [.tup [.bool true,.str m2,r.av],.tup [.bool false,.str m1,l.av]])::ρ,lh,g'⟩,.y .next ⟨(33,.lst (ns.map .str))::(25,.lst F)::(32,.lst (sb.map .bool))::(32,.lst [.tup [.bool true,.str m2,r.av],.tup [.bool false,.str m1,l.av]])::ρ,lh,g'⟩,.x .next ⟨ρ',lh,g'⟩]
  ((k7 B.h10 B.h10 (fzT (lh:=lh) r) B.h10 B.h10 (fzT (lh:=lh) l) (ew lh)).comp (k9 B.h28 B.h30 (pV lh) B.h10 B.h29 eM en ei ez)) (by kernel_rfl!)
theorem tail_ok (hS:S.ok) {u:Row} (hu:S.V=[u]) {m1 m2:Nat} {l r:Tr} (w:(Tr.arr m1 m2 l r).wf) (dl:l.depth≤1) (dr:r.depth≤1) {n:Nat} (hn:60≤n) {g:GS} {c:Nat} (hc:g.count=(c:Nat)) (hc2:c<600000) (hsp:g.spent≤19900) (hht:g.height≤80)
  {e:Env} (h21:eget e 21=some u) (hel:e.length≤100) {V:AV} (pV:Plain V) {rows:List Row} (hrn:rows.Nodup) (hrw:∀ t∈rows,t.length=l.ar+r.ar) (hrl:rows.length≤19)
  (hV:∀ e':Env,(∀ x,x≤1000→eget e' x=eget e x)→Reads cells 10 V e' rows) {ρ:List (Nat×AV)} (lh:List (LO×Bool)) (B:TailB S (.arr m1 m2 l r) V rows e ρ) :
  ∃ (ρ':List (Nat×AV)) (g':GS) (c':Nat),Mr g g' c' 20∧c'≤c+100∧execSs cells (callP cells bodies n) rightTail ⟨ρ,lh,g⟩=some (.ret (.bool true),⟨ρ',lh,g'⟩):=by
 have dT:(Tr.arr m1 m2 l r).depth≤2:=Nat.succ_le_succ (Nat.max_le.mpr ⟨dl,dr⟩)
 have kmc:(Tr.arr m1 m2 l r).mc≤20:=Int.le_trans (Int.add_le_add (Int.add_le_add (Int.add_le_add (cost1 dl).1 (cost1 dr).1) (cost1 dr).2) (cost1 dl).2) (by decide)
 have ktot:=tot_le dT
 have hdn:∀ {k:Nat},k≤60→k≤n:=fun h=>Nat.le_trans h hn
 obtain ⟨g',hM,eM⟩:=marked_ok (cells:=cells) (S:=S) (Tr.arr m1 m2 l r) (Nat.succ_pos _) w dT n (hdn (Nat.le_trans (Nat.add_le_add_right (Nat.mul_le_mul_left 2 dT) 8) (by decide))) V g c pV hc (Nat.lt_of_lt_of_le (Nat.add_lt_add_of_lt_of_le hc2 ktot) (by decide)) (by lia) (by lia)
 obtain ⟨ps,s1,s2,s3⟩:=marked_sem (cells:=cells) hS hu (Tr.arr m1 m2 l r) w dT V c rows 10 e (Nat.le_refl _) hrn hrw (Nat.le_trans hrl (by decide)) h21 (fun e' he=>hV e' fun x hx=>he x (Nat.le_trans hx (Nat.le_add_right _ _))) (Nat.le_trans (Nat.add_le_add hel ktot) (by decide))
 obtain ⟨b0,fs,b1,b2,b3⟩:=marked_bound (cells:=cells) (S:=S) (Tr.arr m1 m2 l r) w dT V c
 have mf:=(marked_facts (S:=S) (Tr.arr m1 m2 l r) V c).2.2
 have hwl:=watched_ok (cells:=cells) l w.2.2.1 n (Nat.lt_of_le_of_lt dl (hdn (by decide))) g
 have hwr:=watched_ok (cells:=cells) r w.2.2.2 n (Nat.lt_of_le_of_lt dr (hdn (by decide))) g
 generalize hF:markedF S (Tr.arr m1 m2 l r) V c=F at *
 have hsides:ps.map (·.2)=(sbP m1 m2 l r).map fun b=>besideP S (Tr.arr m1 m2 l r) rows b:=s3.trans sb_map.symm
 have hlen:F.1.length=(sbP m1 m2 l r).length:=by rw [← s1,List.length_map,← List.length_map (f:=Prod.snd),hsides,List.length_map]
 have ew:=fun lh=>ev_watch (cells:=cells) (call:=callP cells bodies n) (ρ:=(32,.lst [.tup [.bool true,.str m2,r.av],.tup [.bool false,.str m1,l.av]])::ρ) (lh:=lh) w.1 w.2.1 hwl hwr rfl B.u17 B.u16 B.u19
 generalize sbP m1 m2 l r=sb at *
 have nl:=namesP_len (F.2 - c) c
 have hk:F.2 - c≤48:=Nat.sub_le_iff_le_add'.mpr (Nat.le_trans mf (Nat.add_le_add_left ktot c))
 have ef:(fs.flatMap fun p=>p.2.flatMap fun x=>[AV.str x])=(namesP c (F.2 - c)).map AV.str:=by
  rw [← b3,List.map_flatMap]
  congr 1
  funext p
  rw [flat_map_one]
 have en:=eval_comp2 (cells:=cells) (call:=callP cells bodies n) (lh:=lh) (g:=g') (ρ:=(25,.lst F.1)::(32,.lst (sb.map .bool))::(32,.lst [.tup [.bool true,.str m2,r.av],.tup [.bool false,.str m1,l.av]])::ρ)
  (elt:=.var 26) (x:=18) (y:=26) (it1:=.var 25) (it2:=.call .bound [.var 18]) (c:=.none_) (xs:=fs) (v:=(·.1)) (w:=.str) (iv:=.lst F.1) (fun p=>.lst (p.2.map .str)) (fun p=>p.2) (fun p x=>[.str x])
  (evR [] .nil (by kernel_rfl!)) (by rw [b1];rfl) (fun ρ' _ p hp=>evR [.k,.c (.lst (p.2.map .str)) g'] (k2 ((b2 p hp).1 lh) ((b2 p hp).2.2 n (hdn (Nat.le_trans (Nat.succ_le_succ (Nat.mul_le_mul_left 3 dT)) (by decide))) g')) (by kernel_rfl!)) (fun _ _=>rfl) (fun p _ ρ' _ _ x _=>ttR [] .nil (by kernel_rfl!)) rfl B.u18 B.u26
  (by rw [ef,List.length_map,nl];exact Nat.le_trans hk (by decide))
 rw [ef] at en
 have eo:=ok_cond (cells:=cells) (call:=callP cells bodies n) (lh:=lh) (g:=g') (ρ:=(32,.lst (sb.map .bool))::(32,.lst [.tup [.bool true,.str m2,r.av],.tup [.bool false,.str m1,l.av]])::ρ) (F:=F.1) (sb:=sb) (ns:=namesP c (F.2 - c)) hlen nl (Nat.le_trans (Nat.add_le_add_right hk 2) (by decide)) (names_set c _) rfl
 obtain ⟨ρ',ez⟩:=zip_loop (cells:=cells) (S:=S) (call:=callP cells bodies n) (lh:=lh) (g:=g') (e:=e) (rows:=rows) (T:=Tr.arr m1 m2 l r) ((ps.zip sb).map fun q=>(q.1.1,q.2,besideP S (Tr.arr m1 m2 l r) rows q.2)) ((33,.lst ((namesP c (F.2 - c)).map .str))::(25,.lst F.1)::(32,.lst (sb.map .bool))::(32,.lst [.tup [.bool true,.str m2,r.av],.tup [.bool false,.str m1,l.av]])::ρ)
  (fun p hp=>by
   obtain ⟨q,hq,rfl⟩:=List.mem_map.mp hp
   have hH:=s2 q.1 (List.of_mem_zip hq).1
   have h1:=hH.2 n (hdn (Nat.le_trans (Nat.add_le_add_left (Nat.mul_le_mul_left 20 dT) 10) (by decide))) g'
   rw [zip_each ps sb hsides q hq] at h1
   exact ⟨hH.1,h1,beside_ok hS (Tr.arr m1 m2 l r) w dT m1 m2 l r rfl n (Nat.lt_of_le_of_lt (Nat.succ_le_succ dT) (hdn (by decide))) rows hrl q.2 g'⟩) B.h24 B.h7 B.h10 B.h11
 have hzz:(((ps.zip sb).map fun q=>(q.1.1,q.2,besideP S (Tr.arr m1 m2 l r) rows q.2)).map fun p:AV×Bool×Bool=>AV.tup [p.1,.bool p.2.1])=(F.1.zip (sb.map AV.bool)).map fun p=>.tup [p.1,p.2]:=by
  rw [← s1,List.zip_map,List.map_map,List.map_map]
  rfl
 rw [hzz] at ez
 exact ⟨ρ',g',F.2,⟨hM.1,hM.2,hM.3,Int.le_trans hM.4 (Int.add_le_add_left kmc _)⟩,Nat.le_trans mf (Nat.add_le_add_left (Nat.le_trans ktot (by decide)) c),
  tail_run B pV ew eM en eo (for_eq (iv:=.zp ((F.1.zip (sb.map AV.bool)).map fun p=>.tup [p.1,p.2])) (evR [] .nil (by kernel_rfl!)) rfl ez)⟩
end
section
variable {cells:List Int} {S:Sets}
theorem sub_new {ρ:List (Nat×AV)} {lh:List (LO×Bool)} {g:GS} {D:List (Nat×AV)} {c:Nat}:subV cells ⟨ρ,lh++[(.dct D,false)],g⟩ (.loc lh.length) (.str c)=dget D c:=by
 show (((lh++[(LO.dct D,false)])[lh.length]?).bind fun p=>loD p.1).bind (dget · c)=_
 rw [last_get]
 rfl
noncomputable abbrev arD:List (Nat×AV):=[(17,.int 1),(18,.int 1),(19,.int 1),(20,.int 2)]
noncomputable abbrev arE:PE:=.sub (.dict [17,18,19,20] [.int 1,.int 1,.int 1,.int 2]) (.var 49)
theorem leaf_loop {call:Fn→List AV→GS→Option (AV×GS)} {g:GS}:∀ (cs:List Nat) (ρ:List (Nat×AV)) (lh:List (LO×Bool)),(∀ c∈cs,c=17∨c=18∨c=19∨c=20) →
  ∃ ρ' lh',loopC (.v 49) (testThen (isNoneE .none_) (evalE cells call .none_) (evalE cells call arE)) (cs.map .str) ⟨ρ,lh,g⟩=some (cs.map fun c=>.int (arOf c:Nat),⟨ρ',lh',g⟩)
 | [],ρ,lh,_=>⟨ρ,lh,rfl⟩
 | c::cs,ρ,lh,h =>
  let ⟨ρ',lh',e2⟩:=leaf_loop cs ((49,.str c)::ρ) (lh++[(.dct arD,false)]) fun d hd=>h d (.tail _ hd)
  have hs:subV cells ⟨(49,.str c)::ρ,lh++[(.dct arD,false)],g⟩ (.loc lh.length) (.str c)=some (.int (arOf c:Nat)):=sub_new.trans (at4 (P:=fun c=>dget arD c=some (.int (arOf c:Nat))) (h c (.head _)) rfl rfl rfl rfl)
  have e1:testThen (isNoneE .none_) (evalE cells call .none_) (evalE cells call arE) ⟨(49,.str c)::ρ,lh,g⟩=some ([.int (arOf c:Nat)],⟨(49,.str c)::ρ,lh++[(.dct arD,false)],g⟩):=ttR [.o (.int (arOf c:Nat))] (k1 hs) (by kernel_rfl!)
  ⟨ρ',lh',loopC_cons.trans ((bnd_some e1).trans (bnd_some e2))⟩
theorem leaves_wf:∀ {T:Tr},T.wf→∀ c∈T.leaves,c=17∨c=18∨c=19∨c=20
 | .leaf c,h,d,hd=>List.mem_singleton.mp hd▸h
 | .arr _ _ l r,h,d,hd=>(List.mem_append.mp hd).elim (leaves_wf h.2.2.1 d) (leaves_wf h.2.2.2 d)
theorem leaves_sum:∀ T:Tr,(T.leaves.map fun c=>((arOf c:Nat):Int)).sum=(T.ar:Nat)
 | .leaf c=>Int.add_zero _
 | .arr _ _ l r=>by
  show ((l.leaves++r.leaves).map _).sum=((l.ar+r.ar:Nat):Int)
  rw [List.map_append,List.sum_append,leaves_sum l,leaves_sum r,Int.natCast_add]
theorem sum_leaves {lh:List (LO×Bool)} {T:Tr}:biV lh .sum [.lst (T.leaves.map fun c=>.int (arOf c:Nat))]=some (.int (T.ar:Nat)):=by
 show (intsOf (T.leaves.map fun c=>AV.int (arOf c:Nat))).map (fun ns=>AV.int ns.sum)=_
 rw [show (T.leaves.map fun c=>AV.int (arOf c:Nat))=(T.leaves.map fun c=>((arOf c:Nat):Int)).map .int from (List.map_map ..).symm,intsOf_map]
 exact congrArg (fun i=>some (AV.int i)) (leaves_sum T)
noncomputable def shifted (w:Int) (rows:List Row):List Row:=rows.map (fun t=>w::t)++rows.tail.map (fun t=>((w+1).fmod 3)::t)
theorem shift_ne {w:Int} (h0:0≤w) (h3:w<3):(w+1).fmod 3≠w:=lt3 (P:=fun w=>(w+1).fmod 3≠w) h0 h3 (by decide) (by decide) (by decide)
theorem cons_nodup {x:Int} {l:List Row} (h:l.Nodup):(l.map fun t=>x::t).Nodup:=nodup_map_on _ (fun a _ b _ e=>(List.cons.inj e).2) h
theorem step_cons {w x:Int}:∀ {l:List Row},stepL w (l.map fun t=>x::t)=cond (decide (w=x)) l []
 | []=>by cases decide (w=x) <;> rfl
 | t::l=>by
  have ih:=step_cons (w:=w) (x:=x) (l:=l)
  have e:stepL w ((t::l).map fun t=>x::t)=if decide (w=x)=true then t::stepL w (l.map fun t=>x::t) else stepL w (l.map fun t=>x::t):=fm_cons _ _ _ _
  rw [e,ih]
  cases decide (w=x) <;> rfl
theorem shifted_facts {w:Int} (h0:0≤w) (h3:w<3) {rows:List Row} (hn:rows.Nodup) {k:Nat} (hw:∀ t∈rows,t.length=k) (hl:rows.length≤19) :
  (shifted w rows).Nodup∧(∀ t∈shifted w rows,t.length=k+1)∧(shifted w rows).length≤38∧stepL w (shifted w rows)=rows:=by
 have hne:=shift_ne h0 h3
 have mm:∀ {x:Int} {l:List Row} {t:Row},t∈l.map (fun t=>x::t)→∃ t'∈l,x::t'=t:=fun h=>List.mem_map.mp h
 refine ⟨List.nodup_append.mpr ⟨cons_nodup hn,cons_nodup (hn.sublist (List.tail_sublist rows)),fun a ha b hb e=>?_⟩,fun t ht=>?_,?_,?_⟩
 ·obtain ⟨t,_,rfl⟩:=mm ha
  obtain ⟨t',_,rfl⟩:=mm hb
  exact hne (List.cons.inj e).1.symm
 ·exact (List.mem_append.mp ht).elim (fun h=>(mm h).elim fun t' q=>q.2▸congrArg (·+1) (hw t' q.1)) fun h=>(mm h).elim fun t' q=>q.2▸congrArg (·+1) (hw t' (List.mem_of_mem_tail q.1))
 ·unfold shifted
  rw [List.length_append,List.length_map,List.length_map,List.length_tail]
  exact Nat.add_le_add hl (Nat.le_trans (Nat.sub_le _ _) hl)
 ·have ea:stepL w (shifted w rows)=stepL w (rows.map fun t=>w::t)++stepL w (rows.tail.map fun t=>((w+1).fmod 3)::t):=by
   unfold stepL shifted
   rw [List.filter_append,List.map_append]
  rw [ea,step_cons,step_cons,decide_eq_true (rfl:w=w),decide_eq_false fun q=>hne q.symm]
  exact List.append_nil rows
theorem sorted_rowsV {lh:List (LO×Bool)} {rs:List Row} {k:Nat} (hr:∀ r∈rs,r.length=k) (hk:0<k) (hl:rs.length<64):biV lh .sorted [.lst (rs.map rowAV)]=some (.lst ((sortRows rs).map rowAV)):=by
 show (rowsOf (rs.map rowAV)).bind _=_
 rw [rowsOf_map]
 exact cond_t (Bool.and_eq_true_iff.mpr ⟨Nat.ble_eq_true_of_le hl,nonempty_all hr hk⟩)
noncomputable abbrev consE:PE:=.comp (.bin .add (.sub (.var 24) (.str 22)) (.var 21)) (.v 21) (.var 7) .none_
noncomputable abbrev turnE:PE:=.comp (.bin .add (.tup [.bin .mod (.bin .add (.sub (.sub (.var 24) (.str 22)) (.int 0)) (.int 1)) (.int 3)]) (.var 21)) (.v 21) (.slice (.var 7) (.int 1) .none_) .none_
noncomputable abbrev joinS:PS:=.ite (.cmp .eq (.call .draw [.var 0,.int 3]) (.int 2)) [.asg (.v 31) (.bin .add consE turnE),.asg (.v 30) (.tup [.str 11,.tup [.str 8,.str 22],.tup [.str 7,.bin .add (.var 3) (.int 1),.bi .tuple [.bi .sorted [.var 31]]]])] []
noncomputable abbrev envR (u:Row) (w:Int):Env:=[(21,u),(22,[w])]
noncomputable abbrev rhoR (S:Sets) (T:AV) (u:Row) (w:Int) (rows:List Row) (k:Nat):List (Nat×AV):=[(30,tuplesE k rows),(3,.int (k:Nat)),(25,.loc 0),(7,.lst (rows.map rowAV)),(10,T),(24,envAV (envR u w)),(29,opEnv S),(11,S.av),(28,.opener),(0,.slate)]
section
variable {call:Fn→List AV→GS→Option (AV×GS)} {T:AV} {u:Row} {w:Int} {rows:List Row} {k:Nat} {lh:List (LO×Bool)} {g:GS}
theorem cons_ok (hw:∀ t∈rows,t.length≤100) (hl:rows.length≤19):evalE cells call consE ⟨rhoR S T u w rows k,lh,g⟩=some (.lst (rows.map fun t=>rowAV (w::t)),⟨rhoR S T u w rows k,lh,g⟩) :=
 flat_map_one (fun t=>rowAV (w::t)) rows▸eval_comp (xs:=rows) (v:=rowAV) (fun t=>[rowAV (w::t)]) (iv:=.lst (rows.map rowAV)) (evR [] .nil (by kernel_rfl!)) rfl
  (fun ρ' hρ t ht=>ttR [.v 24 (envAV (envR u w)),.g,.o (rowAV (w::t))] (k2 (hρ 24 rfl) (b_rows (lh:=lh) (a:=[w]) (b:=t) (Nat.le_trans (Nat.add_le_add_left (hw t ht) 1) (by decide)))) (by kernel_rfl!)) rfl (by rw [flat_map_one,List.length_map];exact Nat.le_trans hl (by decide))
theorem turn_ok (hw:∀ t∈rows,t.length≤100) (hl:rows.length≤19):evalE cells call turnE ⟨rhoR S T u w rows k,lh,g⟩=some (.lst (rows.tail.map fun t=>rowAV (((w+1).fmod 3)::t)),⟨rhoR S T u w rows k,lh,g⟩) :=
 flat_map_one (fun t=>rowAV (((w+1).fmod 3)::t)) rows.tail▸eval_comp (xs:=rows.tail) (v:=rowAV) (fun t=>[rowAV (((w+1).fmod 3)::t)]) (iv:=.lst (rows.tail.map rowAV))
  (evR [.o (.lst (rows.tail.map rowAV))] (k1 (congrArg (fun l=>some (AV.lst l)) ((cut_tail (l:=rows.map rowAV)).trans List.map_tail.symm))) (by kernel_rfl!)) rfl
  (fun ρ' hρ t ht=>ttR [.v 24 (envAV (envR u w)),.g,.g,.g,.g,.g,.o (rowAV (((w+1).fmod 3)::t))] (k2 (hρ 24 rfl) (b_rows (lh:=lh) (a:=[(w+1).fmod 3]) (b:=t) (Nat.le_trans (Nat.add_le_add_left (hw t (List.mem_of_mem_tail ht)) 1) (by decide)))) (by kernel_rfl!)) rfl
  (by rw [flat_map_one,List.length_map,List.length_tail];exact Nat.le_trans (Nat.sub_le _ _) (Nat.le_trans hl (by decide)))
theorem shift_add (hl:rows.length≤19):binV lh .add (.lst (rows.map fun t=>rowAV (w::t))) (.lst (rows.tail.map fun t=>rowAV (((w+1).fmod 3)::t)))=some (.lst ((shifted w rows).map rowAV)):=by
 unfold shifted
 rw [List.map_append,List.map_map,List.map_map]
 exact cond_t (small_of (by rw [List.length_map,List.length_map,List.length_tail];exact Nat.le_trans (Nat.add_le_add hl (Nat.le_trans (Nat.sub_le _ _) hl)) (by decide)))
end
end
section
variable {cells:List Int} {S:Sets} {n:Nat}
theorem value_join {u:Row} {w:Int} (w0:0≤w) (w3:w<3) {T:AV} {rows:List Row} {k:Nat} (k0:0<k) (k8:k≤16) (hrl:rows.length≤19) (hrn:rows.Nodup) (hrw:∀ t∈rows,t.length=k) {lh:List (LO×Bool)} {g g':GS} {i:Int} (e3:callP cells bodies n .draw [.slate,.int 3] g=some (.int i,g')) :
  ∃ (V:AV) (ρ5:List (Nat×AV)),execS cells (callP cells bodies n) joinS ⟨rhoR S T u w rows k,lh,g⟩=some (.next,⟨ρ5,lh,g'⟩)∧Plain V∧(∀ e':Env,(∀ x,x≤1000→eget e' x=eget (envR u w) x)→Reads cells 10 V e' rows)∧(∀ {Tr:Tr},T=Tr.av→TailB S Tr V rows (envR u w) ρ5):=by
 by_cases hi:i=2
 ·obtain ⟨f1,f2,f3,f4⟩:=shifted_facts w0 w3 hrn hrw hrl
  have h100:∀ t∈rows,t.length≤100:=fun t ht=>hrw t ht▸Nat.le_trans k8 (by decide)
  have hs:=sorted_rowsV (lh:=lh) f2 (Nat.succ_pos k) (Nat.lt_of_le_of_lt f3 (by decide))
  exact ⟨joinE (varE 22) (tuplesE (k+1) (sortRows (shifted w rows))),(30,joinE (varE 22) (tuplesE (k+1) (sortRows (shifted w rows))))::(31,.lst ((shifted w rows).map rowAV))::rhoR S T u w rows k,
   exsR [.c (.int i) g',.b true,.e (.lst (rows.map fun t=>rowAV (w::t))) ⟨rhoR S T u w rows k,lh,g'⟩,.e (.lst (rows.tail.map fun t=>rowAV (((w+1).fmod 3)::t))) ⟨rhoR S T u w rows k,lh,g'⟩,.o (.lst ((shifted w rows).map rowAV)),.g,.g,.g,.g,.g,.g,.g,.o (.lst ((sortRows (shifted w rows)).map rowAV))]
    (k6 e3 (av_true hi) (cons_ok (cells:=cells) (S:=S) (call:=callP cells bodies n) (T:=T) (u:=u) (w:=w) (k:=k) (lh:=lh) (g:=g') h100 hrl) (turn_ok (cells:=cells) (S:=S) (call:=callP cells bodies n) (T:=T) (u:=u) (w:=w) (k:=k) (lh:=lh) (g:=g') h100 hrl) (shift_add (w:=w) (lh:=lh) hrl) hs) (by kernel_rfl!),
   fun _=>rfl,fun e' hag=>by
    have:=reads_left (cells:=cells) (c:=1) (e:=e') (V:=tuplesE (k+1) (sortRows (shifted w rows))) (rows:=shifted w rows) (k:=k) k0 ⟨_,sortRows_perm _,R_tuples⟩ (Nat.le_refl 1) f1 f2 (Nat.lt_of_le_of_lt k8 (by decide)) (Nat.le_trans f3 (by decide)) (n:=22) (x:=w) (hag 22 (by decide))
    rw [f4] at this
    exact this.mono (by decide),fun q=>q▸⟨rfl,rfl,rfl,rfl,rfl,rfl,rfl,rfl,rfl,rfl,rfl,rfl⟩⟩
 ·exact ⟨tuplesE k rows,rhoR S T u w rows k,exsR [.c (.int i) g',.b false] (k2 e3 (av_false hi)) (by kernel_rfl!),fun _=>rfl,fun e' _=>⟨rows,.refl _,R_tuples.mono (by decide)⟩,fun q=>q▸⟨rfl,rfl,rfl,rfl,rfl,rfl,rfl,rfl,rfl,rfl,rfl,rfl⟩⟩
theorem right_ok (hS:S.ok) {u:Row} {w:Int} (w0:0≤w) (w3:w<3) (hu:S.V=[u]) (hn:66≤n) {N:Nat} {g:GS} (hN:N<600000) (hfine:Fine N g) {c:Nat} (hc:g.count=(c:Nat)) (hc2:c<600000) (hsp:g.spent≤19900) (hht:g.height≤80) :
  ∃ (g':GS) (c' k:Nat),k≤60∧c'≤c+100∧g'.spot=g.spot+(k:Nat)∧g'.height=g.height∧g'.count=(c':Nat)∧g'.spent≤g.spent+20 ∧
   callP cells bodies (n+4+1) .right [.slate,.opener,S.av,opEnv S,envAV (envR u w)] g=some (.bool true,g'):=by
 obtain ⟨m1,m2,l,r,j1,hk1,hm1,hm2,wl,wr,dl,dr,e1⟩:=arrow_ok (cells:=cells) (n:=n) (Nat.lt_trans hN (by decide)) hfine
 have F1:=hfine.move j1
 obtain ⟨rows,j2,hk2,hrl,hrn,hrw,e2⟩:=value_ok (cells:=cells) (n:=n+1) hS (m1:=m1) (m2:=m2) wl wr dl dr (Nat.lt_of_lt_of_le (Nat.add_lt_add_of_lt_of_le hN hk1) (by decide)) F1
 obtain ⟨i,i0,i3,e3⟩:=draw_ok (cells:=cells) (n:=n+3) (k:=3) (by decide) (Nat.lt_of_lt_of_le (Nat.add_lt_add_of_lt_of_le (Nat.add_lt_add_of_lt_of_le hN hk1) hk2) (by decide)) (F1.move j2)
 have wf:(Tr.arr m1 m2 l r).wf:=⟨hm1,hm2,wl,wr⟩
 have dT:(Tr.arr m1 m2 l r).depth≤2:=Nat.succ_le_succ (Nat.max_le.mpr ⟨dl,dr⟩)
 have el:=leaves_ok (cells:=cells) (Tr.arr m1 m2 l r) dT (n+4) (Nat.lt_of_le_of_lt dT (Nat.lt_add_left n (by decide))) (moved (moved g (j1:Nat)) (j2:Nat))
 have al:=ar_le2 (T:=l) (Nat.le_succ_of_le dl)
 have ar:=ar_le2 (T:=r) (Nat.le_succ_of_le dr)
 obtain ⟨ρ3,lh3,hloop⟩:=leaf_loop (cells:=cells) (call:=callP cells bodies (n+4)) (g:=moved (moved g (j1:Nat)) (j2:Nat)) (Tr.arr m1 m2 l r).leaves [(25,.loc 0),(7,.lst (rows.map rowAV)),(10,(Tr.arr m1 m2 l r).av),(24,envAV (envR u w)),(29,opEnv S),(11,S.av),(28,.opener),(0,.slate)] [(.lst [],false)] (leaves_wf wf)
 have x3:=comp_eq (cells:=cells) (call:=callP cells bodies (n+4)) (elt:=arE) (t:=.v 49) (c:=.none_) (it:=.call .leaves [.var 10]) (st:=⟨[(25,.loc 0),(7,.lst (rows.map rowAV)),(10,(Tr.arr m1 m2 l r).av),(24,envAV (envR u w)),(29,opEnv S),(11,S.av),(28,.opener),(0,.slate)],[(.lst [],false)],moved (moved g (j1:Nat)) (j2:Nat)⟩)
  (iv:=.lst ((Tr.arr m1 m2 l r).leaves.map .str)) (evR [.c (.lst ((Tr.arr m1 m2 l r).leaves.map .str)) (moved (moved g (j1:Nat)) (j2:Nat))] (k1 el) (by kernel_rfl!)) rfl hloop rfl (by rw [List.length_map];exact Nat.le_trans (leaves4 dT) (by decide))
 obtain ⟨V,ρ5,y5,pV,hV,B⟩:=value_join (cells:=cells) (S:=S) (n:=n+4) (u:=u) w0 w3 (T:=(Tr.arr m1 m2 l r).av) (rows:=rows) (k:=l.ar+r.ar) (Nat.lt_of_lt_of_le (ar_pos l) (Nat.le_add_right _ _)) (Nat.add_le_add al ar) hrl hrn hrw (lh:=lh3) e3
 obtain ⟨ρ',g',c',hM,hcc,et⟩:=tail_ok (cells:=cells) hS hu wf dl dr (n:=n+4) (Nat.le_trans (Nat.le_trans (by decide) hn) (Nat.le_add_right n 4)) (g:=moved (moved (moved g (j1:Nat)) (j2:Nat)) 1) hc hc2 hsp hht (e:=envR u w) rfl (show 2≤100 by decide) pV hrn hrw hrl hV (ρ:=ρ5) lh3 (B rfl)
 refine ⟨g',c',j1+j2+1,Nat.add_le_add_right (Nat.add_le_add hk1 hk2) 1 |> fun h=>Nat.le_trans h (by decide),hcc,hM.1.trans ?_,hM.2,hM.3,hM.4,?_⟩
 ·show g.spot+(j1:Nat)+(j2:Nat)+1=g.spot+((j1+j2+1:Nat):Int)
  lia
 ·exact cR [.c (Tr.arr m1 m2 l r).av (moved g (j1:Nat)),.c (.lst (rows.map rowAV)) (moved (moved g (j1:Nat)) (j2:Nat)),.e (.lst ((Tr.arr m1 m2 l r).leaves.map fun c=>.int (arOf c:Nat))) ⟨[(25,.loc 0),(7,.lst (rows.map rowAV)),(10,(Tr.arr m1 m2 l r).av),(24,envAV (envR u w)),(29,opEnv S),(11,S.av),(28,.opener),(0,.slate)],lh3,moved (moved g (j1:Nat)) (j2:Nat)⟩,
    .o (.int ((Tr.arr m1 m2 l r).ar:Nat)),.n,.y .next ⟨ρ5,lh3,moved (moved (moved g (j1:Nat)) (j2:Nat)) 1⟩,.t (.ret (.bool true)) ⟨ρ',lh3,g'⟩] (k6 e1 e2 x3 (sum_leaves (lh:=lh3) (T:=Tr.arr m1 m2 l r)) y5 et) (by kernel_rfl!)
end
noncomputable abbrev cellE:PE:=.bin .mod (.bi .int [.var 35]) (.int 1000003)
noncomputable abbrev pairE:PE:=.tup [.call .draw [.var 0,.int 3],.call .draw [.var 0,.int 3]]
noncomputable abbrev pairC:PE:=.comp pairE (.v 8) (.range (.call .draw [.var 0,.int 4])) .none_
noncomputable abbrev lapB:List PS:=[.ite (.not (.call .right [.var 0,.var 28,.var 11,.var 29,.var 24])) [.ret (.bool false)] []]
noncomputable def seg0:List PS:=[.asg (.v 0) (.dict [23,24] [.comp cellE (.v 35) (.slice (.var 34) .none_ (.int 60)) .none_,.int 0])]
noncomputable def seg1:List PS:=[.asg (.v 11) (.dict [17,18] [.call .atoms [.var 0],.call .atoms [.var 0]]),
  .asg (.v 24) (.dict [21,22] [.tup [.call .draw [.var 0,.int 3]],.tup [.call .draw [.var 0,.int 3]]]),
  .setItem 11 19 (.lst [.sub (.var 24) (.str 21)]),.setItem 11 20 (.bi .sortedSet [pairC]),
  .asg (.v 29) (.dict [17,18,19,20] [.tup [.str 7,.int 1,.bi .tuple [.sub (.var 11) (.str 17)]],.tup [.str 7,.int 1,.bi .tuple [.sub (.var 11) (.str 18)]],.tup [.str 8,.str 21],.tup [.str 7,.int 2,.bi .tuple [.sub (.var 11) (.str 20)]]])]
noncomputable def seg2:List PS:=[.for_ (.v 8) (.range (.int 2)) lapB,.ret (.bool true)]
noncomputable def cellsOf (as:List Int):List Int:=(as.take 60).map fun x=>x.fmod 1000003
theorem take60 (as:List Int):(as.take 60).length≤1000000:=Nat.le_trans (List.length_take_le 60 as) (by decide)
theorem seg0_ok {cells:List Int} {call:Fn→List AV→GS→Option (AV×GS)} {g:GS} {as:List Int} :
  execSs cells call seg0 ⟨[(34,.lst (as.map .int))],[],g⟩=some (.next,⟨[(0,.loc 0),(34,.lst (as.map .int))],[(.dct [(23,.lst ((cellsOf as).map .int)),(24,.int 0)],false)],g⟩):=by
 have e:=eval_comp (cells:=cells) (call:=call) (lh:=[]) (g:=g) (ρ:=[(34,.lst (as.map .int))]) (elt:=cellE) (x:=35) (it:=.slice (.var 34) .none_ (.int 60)) (c:=.none_) (xs:=as.take 60) (v:=.int) (iv:=.lst ((as.take 60).map .int)) (fun x=>[.int (x.fmod 1000003)])
  (evR [.o (.lst ((as.take 60).map .int))] (k1 (congrArg (fun l=>some (AV.lst l)) (cut_hi as 60))) (by kernel_rfl!)) rfl (fun ρ _ a _=>ttR [] .nil (by kernel_rfl!)) rfl (by rw [flat_map_one,List.length_map];exact take60 as)
 rw [flat_map_one,show ((as.take 60).map fun x=>AV.int (x.fmod 1000003))=(cellsOf as).map .int from List.map_map.symm] at e
 exact exssR [.e (.lst ((cellsOf as).map .int)) ⟨[(34,.lst (as.map .int))],[],g⟩] (k1 e) (by kernel_rfl!)
section
variable {cells:List Int} {n:Nat}
theorem pairs_loop:∀ (xs:List AV) {N:Nat} {g:GS} {ρ:List (Nat×AV)} (lh:List (LO×Bool)),N+2*xs.length<900000→Fine N g→dget ρ 0=some .slate →
  ∃ (rs:List Row) (ρ':List (Nat×AV)),rs.length=xs.length∧(∀ r∈rs,r.length=2∧∀ x∈r,0≤x∧x<3)∧loopC (.v 8) (testThen (isNoneE .none_) (evalE cells (callP cells bodies (n+1)) .none_) (evalE cells (callP cells bodies (n+1)) pairE)) xs ⟨ρ,lh,g⟩
  =some (rs.map rowAV,⟨ρ',lh,moved g (2*xs.length:Nat)⟩)
 | [],N,g,ρ,lh,_,h,_=>⟨[],ρ,rfl,(fun _ h=>nomatch h),(moved_zero g).symm▸rfl⟩
 | x::xs,N,g,ρ,lh,hN,h,h0=>by
  rw [List.length_cons] at hN
  obtain ⟨i,i0,i3,e1⟩:=draw_ok (cells:=cells) (n:=n) (k:=3) (by decide) (by lia) h
  obtain ⟨j,j0,j3,e2⟩:=draw_ok (cells:=cells) (n:=n) (k:=3) (by decide) (by lia) (h.move 1)
  obtain ⟨rs,ρ',hl,hr,e3⟩:=pairs_loop xs (N:=N+1+1) (g:=moved (moved g 1) 1) (ρ:=(8,x)::ρ) lh (by lia) ((h.move 1).move 1) h0
  refine ⟨[i,j]::rs,ρ',congrArg (·+1) hl,fun r hr'=>(List.mem_cons.mp hr').elim (fun q=>q▸⟨rfl,fun y hy=>(List.mem_cons.mp hy).elim (fun q=>q▸⟨i0,i3⟩) fun hy=>List.mem_singleton.mp hy▸⟨j0,j3⟩⟩) (hr r),?_⟩
  have eb:testThen (isNoneE .none_) (evalE cells (callP cells bodies (n+1)) .none_) (evalE cells (callP cells bodies (n+1)) pairE) ⟨(8,x)::ρ,lh,g⟩=some ([rowAV [i,j]],⟨(8,x)::ρ,lh,moved (moved g 1) 1⟩) :=
   ttR [.v 0 .slate,.c (.int i) (moved g 1),.v 0 .slate,.c (.int j) (moved (moved g 1) 1)] (k4 h0 e1 h0 e2) (by kernel_rfl!)
  have em:moved g ((2*(xs.length+1):Nat):Int)=moved (moved (moved g 1) 1) (2*xs.length:Nat):=by rw [moved_moved,moved_moved];exact congrArg (moved g) (by lia)
  rw [List.length_cons,em]
  exact loopC_cons.trans ((bnd_some eb).trans (bnd_some e3))
noncomputable def envR0 (u w:Int):Env:=[(21,[u]),(22,[w])]
noncomputable def rho3:List (Nat×AV):=[(24,.loc 1),(11,.loc 0),(0,.slate)]
noncomputable def lh3 (A B:List Row) (u w:Int):List (LO×Bool):=[(.dct [(17,.lst (A.map rowAV)),(18,.lst (B.map rowAV)),(19,.lst [rowAV [u]])],false),(.dct (envL (envR0 u w)),false)]
noncomputable def lh5 (S:Sets) (u w:Int) (b:Bool):List (LO×Bool):=[(.dct [(17,.lst (S.A.map rowAV)),(18,.lst (S.B.map rowAV)),(19,.lst (S.V.map rowAV)),(20,.lst (S.R.map rowAV))],b),(.dct (envL (envR0 u w)),b),(.dct [(17,tuplesE 1 S.A),(18,tuplesE 1 S.B),(19,varE 21),(20,tuplesE 2 S.R)],b)]
noncomputable def rho5:List (Nat×AV):=[(29,.loc 2),(24,.loc 1),(11,.loc 0),(0,.slate)]
theorem pair_comp {A B:List Row} {u w:Int} {g:GS} {N:Nat} (hN:N<800000) (h:Fine N g):∃ (rs:List Row) (k:Nat),k≤7∧rs.length≤3∧(∀ r∈rs,r.length=2∧∀ x∈r,0≤x∧x<3) ∧
  evalE cells (callP cells bodies (n+1)) pairC ⟨rho3,lh3 A B u w,g⟩=some (.lst (rs.map rowAV),⟨rho3,lh3 A B u w,moved g (k:Nat)⟩):=by
 obtain ⟨i,i0,i4,e1⟩:=draw_ok (cells:=cells) (n:=n) (k:=4) (by decide) (by lia) h
 obtain ⟨m,rfl⟩:=Int.eq_ofNat_of_zero_le i0
 have m4:m<4:=Int.ofNat_lt.mp i4
 have hl:((List.range m).map fun (i:Nat)=>AV.int (i:Int)).length=m:=(List.length_map _).trans List.length_range
 obtain ⟨rs,ρ',hr,hf,e2⟩:=pairs_loop (cells:=cells) (n:=n) ((List.range m).map fun (i:Nat)=>AV.int (i:Int)) (N:=N+1) (ρ:=rho3) (lh3 A B u w) (by lia) (h.move 1) rfl
 rw [hl] at hr e2
 refine ⟨rs,1+2*m,by lia,by lia,hf,?_⟩
 rw [Int.natCast_add,← moved_moved]
 exact comp_eq (iv:=.rng m) (st1:=⟨rho3,lh3 A B u w,moved g 1⟩) (evR [.c (.int m) (moved g 1),.o (.rng m)] (k2 e1 (range_of (Nat.lt_of_lt_of_le m4 (by decide)))) (by kernel_rfl!)) it_range e2 rfl (by rw [List.length_map];lia)
theorem seg1_ok {g:GS} {N:Nat} (hN:N<600000) (h:Fine N g):∃ (S:Sets) (u w:Int) (k:Nat),k≤20∧S.ok∧S.V=[[u]]∧0≤w∧w<3 ∧
  execSs cells (callP cells bodies (n+2)) seg1 ⟨[(0,.slate)],[],g⟩=some (.next,⟨rho5,lh5 S u w false,moved g (k:Nat)⟩):=by
 obtain ⟨A,lA,fA,nA,e1⟩:=atoms_ok (cells:=cells) (n:=n) (by lia) h
 have h1:Fine (N+2) (moved g 2):=h.move 2
 obtain ⟨B,lB,fB,nB,e2⟩:=atoms_ok (cells:=cells) (n:=n) (by lia) h1
 have h2:Fine (N+2+2) (moved (moved g 2) 2):=h1.move 2
 obtain ⟨u,u0,u3,e3⟩:=draw_ok (cells:=cells) (n:=n+1) (k:=3) (by decide) (by lia) h2
 obtain ⟨w,w0,w3,e4⟩:=draw_ok (cells:=cells) (n:=n+1) (k:=3) (by decide) (by lia) (h2.move 1)
 obtain ⟨rs,j,hj,hl,hr,e5⟩:=pair_comp (cells:=cells) (n:=n+1) (A:=A) (B:=B) (u:=u) (w:=w) (by lia) ((h2.move 1).move 1)
 obtain ⟨f1,f2,f3⟩:=sort_facts rs
 have hs:=sorted_set (lh:=lh3 A B u w) (v:=.lst (rs.map rowAV)) rfl (fun r hr'=>(hr r hr').1) (by decide) (Nat.lt_of_le_of_lt hl (by decide))
 have eg:moved g (2+2+1+1+j:Nat)=moved (moved (moved (moved (moved g 2) 2) 1) 1) (j:Nat):=by rw [moved_moved,moved_moved,moved_moved,moved_moved];exact congrArg (moved g) (by lia)
 refine ⟨⟨A,B,[[u]],sortRows (dedup rs)⟩,u,w,2+2+1+1+j,by lia,⟨fun c hc=>?_,fun c hc=>?_,fun c hc=>?_⟩,rfl,w0,w3,?_⟩
 ·rcases hc with rfl | rfl | rfl | rfl
  ·exact lA
  ·exact lB
  ·exact (by decide:1≤3)
  ·exact Nat.le_trans f3 hl
 ·rcases hc with rfl | rfl | rfl | rfl
  ·exact fun r hr=>(fA r hr).1
  ·exact fun r hr=>(fB r hr).1
  ·exact fun r hr=>List.mem_singleton.mp hr▸rfl
  ·exact fun r hr'=>(hr r ((f2 r).mp hr')).1
 ·rcases hc with rfl | rfl | rfl | rfl
  ·exact fun r hr=>(fA r hr).2
  ·exact fun r hr=>(fB r hr).2
  ·exact fun r hr=>List.mem_singleton.mp hr▸fun x hx=>List.mem_singleton.mp hx▸⟨u0,u3⟩
  ·exact fun r hr'=>(hr r ((f2 r).mp hr')).2
 ·rw [eg]
  exact exssR [.c (.lst (A.map rowAV)) (moved g 2),.c (.lst (B.map rowAV)) (moved (moved g 2) 2),.c (.int u) (moved (moved (moved g 2) 2) 1),.c (.int w) (moved (moved (moved (moved g 2) 2) 1) 1),.e (.lst (rs.map rowAV)) ⟨rho3,lh3 A B u w,moved (moved (moved (moved (moved g 2) 2) 1) 1) (j:Nat)⟩,.o (.lst ((sortRows (dedup rs)).map rowAV))]
   (k6 e1 e2 e3 e4 e5 hs) (by kernel_rfl!)
theorem seg2_ok {S:Sets} (hS:S.ok) {u w:Int} (hu:S.V=[[u]]) (w0:0≤w) (w3:w<3) (hn:66≤n) {g:GS} {N:Nat} (hN:N<500000) (h:Fine N g) (hc:g.count=0) (hsp:g.spent=0) (hht:g.height=0) :
  ∃ st',execSs cells (callP cells bodies (n+5)) seg2 ⟨(28,.opener)::rho5,lh5 S u w false,g⟩=some (.ret (.bool true),st'):=by
 obtain ⟨g1,c1,j1,a1,a2,a3,a4,a5,a6,e1⟩:=right_ok (cells:=cells) hS w0 w3 hu hn (by lia) h (c:=0) hc (by decide) (by lia) (by lia)
 have h1:Fine (N+j1) g1:=⟨a3▸Int.add_nonneg h.1 (Int.natCast_nonneg j1),by have:=h.2;lia⟩
 obtain ⟨g2,c2,j2,b1,b2,b3,b4,b5,b6,e2⟩:=right_ok (cells:=cells) hS w0 w3 hu hn (by lia) h1 (c:=c1) a5 (by lia) (by lia) (by lia)
 have y1:execSs cells (callP cells bodies (n+5)) lapB ⟨(8,.int 0)::(28,.opener)::rho5,lh5 S u w false,g⟩=some (.next,⟨(8,.int 0)::(28,.opener)::rho5,lh5 S u w true,g1⟩):=exssR [.c (.bool true) g1] (k1 e1) (by kernel_rfl!)
 have y2:execSs cells (callP cells bodies (n+5)) lapB ⟨(8,.int 1)::(8,.int 0)::(28,.opener)::rho5,lh5 S u w true,g1⟩=some (.next,⟨(8,.int 1)::(8,.int 0)::(28,.opener)::rho5,lh5 S u w true,g2⟩):=exssR [.c (.bool true) g2] (k1 e2) (by kernel_rfl!)
 exact ⟨⟨(8,.int 1)::(8,.int 0)::(28,.opener)::rho5,lh5 S u w true,g2⟩,exssR [.n,.t .next ⟨(8,.int 0)::(28,.opener)::rho5,lh5 S u w true,g1⟩,.t .next ⟨(8,.int 1)::(8,.int 0)::(28,.opener)::rho5,lh5 S u w true,g2⟩] (k2 y1 y2) (by kernel_rfl!)⟩
end
end P
noncomputable def faL:List Nat:=[656,661,668,675,680,685,692,697,702,707,712,717,722,729,116,418,338,232,345,246,371,399,425,430,437,197,144]
noncomputable def fa0 (f:Fn):Addr:=faL.getD f 0
noncomputable def objB (K:Frag) (a:Addr) (k:Obj→Bool):Bool:=(K.lookup a).elim false k
theorem objB_is {K:Frag} {a:Addr} {k:Obj→Bool} {P:Prop} (h:objB K a k=true) (q:∀ o,K.lookup a=some o→k o=true→P):P:=by
 unfold objB at h
 cases e:K.lookup a <;> rw [e] at h
 ·cases h
 ·exact q _ e h
noncomputable def fdB (o:Obj) (k:FuncData→Bool):Bool:=match o.data with
 | .func fd=>k fd
 | _=>false
theorem fdB_is {o:Obj} {k:FuncData→Bool} {P:Prop} (h:fdB o k=true) (q:∀ fd,o.data=.func fd→k fd=true→P):P:=by
 unfold fdB at h
 cases d:o.data <;> rw [d] at h <;> first | (cases h;done) | exact q _ d h
noncomputable def nodupB:List Str→Bool
 | []=>true
 | x::r=>!(r.elem x)&&nodupB r
theorem nodupB_ok:∀ {l:List Str},nodupB l=true→l.Nodup
 | [],_=>.nil
 | x::r,h=>List.nodup_cons.mpr ⟨fun q=>nb ((congrArg not (List.elem_eq_true_of_mem q)).symm.trans (and_is h).1),nodupB_ok (and_is h).2⟩
noncomputable def stB (fd:FuncData) (k:List Stmt→Bool):Bool:=match fd.body with
 | .stmts b=>k b
 | _=>false
theorem stB_is {fd:FuncData} {k:List Stmt→Bool} {P:Prop} (h:stB fd k=true) (q:∀ b,fd.body=.stmts b→k b=true→P):P:=by
 unfold stB at h
 cases d:fd.body <;> rw [d] at h <;> first | (cases h;done) | exact q _ d h
noncomputable def fnB (K:Frag) (f:Fn):Bool:=objB K (fa0 f) fun o=>fdB o fun fd=>stB fd fun b=>fd.closure.isEmpty&&(codeIn K fd.code fd.qualname&&(Nat.beq fd.globals mainGlobals&&(Nat.beq fd.builtins builtinsNs&&(decide (fd.scope.kind=.function)&&(!fd.scope.isCoroutine&&(!fd.scope.isGenerator &&
 (nodupB (fd.scope.names.map (·.1))&&((bodies f).1.all (fun x=>Nat.blt x VX.length&&kindOk fd.scope.names true (vname x))&&chkSs (bodies f).2 fd.scope.names b))))))))
def BindOk (K:Frag):Prop:=∀ f:Fn,Nat.blt f 27=true→∀ o fd,K.lookup (fa0 f)=some o→o.data=.func fd→∀ vals:List Value,vals.length=(bodies f).1.length→bindArgs fd ⟨vals,[]⟩=pure (((bodies f).1.map vname).zip vals)
theorem fn_at {K:Frag} {C:Cfg} {f:Fn} (X:K.In C.h₀) (hf:Nat.blt f 27=true) (b:BindOk K) (h:fnB K f=true):FnOk C (fa0 f) f :=
 objB_is h fun o e h=>fdB_is h fun fd d h=>stB_is h fun body hb h =>
  have h1:=and_is h;have h2:=and_is h1.2;have h3:=and_is h2.2;have h4:=and_is h3.2;have h5:=and_is h4.2;have h6:=and_is h5.2;have h7:=and_is h6.2;have h8:=and_is h7.2;have h9:=and_is h8.2
  ⟨o,fd,body,X _ _ e,d,hb,List.isEmpty_iff.mp h1.1,codeRec_of X h2.1,Nat.eq_of_beq_eq_true h3.1,Nat.eq_of_beq_eq_true h4.1,of_decide_eq_true h5.1,(Bool.not_eq_true' _).mp h6.1,(Bool.not_eq_true' _).mp h7.1,b f hf o fd e d,nodupB_ok h8.1,
   fun x hx=>(and_is (List.all_eq_true.mp h9.1 x hx)).imp Nat.le_of_ble_eq_true id,h9.2⟩
noncomputable def strB (v:Value) (k:Str→Bool):Bool:=match v with
 | .str x _=>k x
 | _=>false
theorem strB_is {v:Value} {k:Str→Bool} {P:Value→Prop} (h:strB v k=true) (q:∀ x t,k x=true→P (.str x t)):P v:=by
 cases v <;> first | exact nb h | exact q _ _ h
noncomputable def strsB:List Nat→List Value→Bool
 | [],vs=>vs.isEmpty
 | c::cs,vs=>match vs with
  | v::vs=>strB v (fun x=>decide (x=txt c))&&(okc c&&strsB cs vs)
  | []=>false
theorem strsB_ok {C:Cfg} {p:Pl}:∀ {cs:List Nat} {vs:List Value},strsB cs vs=true→Reps C p (cs.map .str) vs
 | [],vs,h=>List.isEmpty_iff.mp h
 | c::cs,[],h=>nb h
 | c::cs,v::vs,h=>⟨v,vs,rfl,strB_is (P:=Rep C p (.str c)) (and_is h).1 fun x t q=>⟨(and_is (and_is h).2).1,t,congrArg (Value.str · t) (of_decide_eq_true q)⟩,strsB_ok (and_is (and_is h).2).2⟩
noncomputable def seqB (o:Obj) (k:List Value→Bool):Bool:=match o.data with
 | .seq vs _=>k vs.toList
 | _=>false
theorem seqB_is {o:Obj} {k:List Value→Bool} {P:Prop} (h:seqB o k=true) (q:∀ vs n,o.data=.seq vs n→k vs.toList=true→P):P:=by
 unfold seqB at h
 cases d:o.data <;> rw [d] at h <;> first | (cases h;done) | exact q _ _ d h
noncomputable def tupB (K:Frag) (a:Addr) (cs:List Nat):Bool:=objB K a fun o=>decide (o.cls=.type "tuple")&&seqB o fun vs=>Nat.ble vs.length 1000&&strsB cs vs
theorem tupB_ok {K:Frag} {C:Cfg} {a:Addr} {cs:List Nat} (X:K.In C.h₀) (h:tupB K a cs=true) (s:Shared) (hs:s.heap=C.h₀):Rep C ⟨fun _=>0,[],s⟩ (.tup (cs.map .str)) (.ref a) :=
 objB_is h fun o e h=>seqB_is (and_is h).2 fun vs n d h'=>⟨a,vs.toList,rfl,rfl,⟨o,(congrArg (·.get? a) hs).trans (X _ _ e),of_decide_eq_true (and_is h).1,n,d⟩,le_cap (and_is h').1,strsB_ok (and_is h').2⟩
noncomputable def gB (K:Frag) (k:Nat) (v:Value):Bool:=decide (nsIn K mainGlobals (gname k)=some (some v))
noncomputable def gI (K:Frag) (k:Nat) (i:Int):Bool:=match nsIn K mainGlobals (gname k) with
 | some (some (.int j _))=>decide (j=i)
 | _=>false
theorem gI_is {K:Frag} {k:Nat} {i:Int} (h:gI K k i=true):∃ t,nsIn K mainGlobals (gname k)=some (some (.int i t)):=by
 unfold gI at h
 split at h
 ·rename_i j t e
  exact ⟨t,e.trans (congrArg (fun j=>some (some (Value.int j t))) (of_decide_eq_true h))⟩
 ·exact nb h
noncomputable def clsB (K:Frag) (c:Addr):Bool:=plainGet K c ""&&(hasDictIn K c&&(plainOver K c&&(decide (findIn K (.ref c) "__setattr__"=some (some (.builtin "object.__setattr__")))&&((List.range 4).all fun a=>decide (findIn K (.ref c) (aname a)=some none)))))
noncomputable def namesB (K:Frag):Bool:=((List.range 27).all fun f=>cond (isM f) (decide (findIn K (.ref 475) (fname f)=some (some (.ref (fa0 f))))&&isFn K (.ref (fa0 f))) (decide (nsIn K mainGlobals (fname f)=some (some (.ref (fa0 f))))))&&(biNames.all fun x=>decide (nsIn K mainGlobals x.1=some none))
noncomputable def glbB (K:Frag):Bool:=gB K 0 (.ref 649)&&(tupB K 649 [0,1,2,3,4]&&(gB K 1 (.ref 103)&&(tupB K 103 [42,43,44,45,46,47,48]&&(gB K 2 (.ref 105)&&(tupB K 105 [14,49,50,13,51,16,52,15,53,4,54,2,3,12,55,56,57,58]&&(gI K 3 20000&&gI K 4 100))))))
theorem boot_bi:(biNames.all fun x=>decide (x.1≠"__name__")&&decide (bootBuiltins x.1=some x.2))=true:=by kernel_rfl!
structure Stat (K:Frag):Prop where
 fn:(List.range 27).all (fnB K)=true
 bind:BindOk K
 cls:clsB K 475=true
 names:namesB K=true
 glb:glbB K=true
section
variable {C:Cfg} {p:Program} {loose:List Str}
theorem Stat.fns (S:Stat C.K) (X:C.K.In C.h₀) (f:Fn) (h:Nat.blt f 27=true):FnOk C (fa0 f) f:=fn_at X h S.bind (List.all_eq_true.mp S.fn f (List.mem_range.mpr (Nat.le_of_ble_eq_true h)))
theorem gB_is {k:Nat} {v:Value} (X:C.K.In C.h₀) (T:TopRead p loose C.mg C.mb C.h₀) (h:gB C.K k v=true):C.mg (gname k)=some v:=mg_of X T.g (of_decide_eq_true h)
theorem stat_gv (X:C.K.In C.h₀) (T:TopRead p loose C.mg C.mb C.h₀) (h:glbB C.K=true):∀ (k:Nat) (d:AV),k<5→globV k=some d→∃ v,C.mg (gname k)=some v∧∀ s:Shared,s.heap=C.h₀→Rep C ⟨fun _=>0,[],s⟩ d v :=
 have h1:=and_is h;have h2:=and_is h1.2;have h3:=and_is h2.2;have h4:=and_is h3.2;have h5:=and_is h4.2;have h6:=and_is h5.2;have h7:=and_is h6.2
 fun k d _ e=>match k,e with
 | 0,e=>Option.some.inj e▸⟨_,gB_is X T h1.1,tupB_ok (cs:=[0,1,2,3,4]) X h2.1⟩
 | 1,e=>Option.some.inj e▸⟨_,gB_is X T h3.1,tupB_ok (cs:=[42,43,44,45,46,47,48]) X h4.1⟩
 | 2,e=>Option.some.inj e▸⟨_,gB_is X T h5.1,tupB_ok (cs:=[14,49,50,13,51,16,52,15,53,4,54,2,3,12,55,56,57,58]) X h6.1⟩
 | 3,e=>Option.some.inj e▸(gI_is h7.1).elim fun t q=>⟨_,mg_of X T.g q,fun _ _=>⟨t,rfl⟩⟩
 | 4,e=>Option.some.inj e▸(gI_is h7.2).elim fun t q=>⟨_,mg_of X T.g q,fun _ _=>⟨t,rfl⟩⟩
 | k+5,e=>nn e
theorem names_bi {K:Frag} {h:Heap} {mg mb:Str→Option Value} (n:namesB K=true) (X:K.In h) (T:TopRead p loose mg mb h):∀ x∈biNames,mg x.1=none∧mb x.1=some x.2:=fun x hx =>
 have k:=List.all_eq_true.mp boot_bi x hx
 ⟨mg_none_of X T.g (of_decide_eq_true (List.all_eq_true.mp (and_is n).2 x hx)),(T.builtins _ (of_decide_eq_true (and_is k).1)).trans (of_decide_eq_true (and_is k).2)⟩
theorem Stat.cok (S:Stat C.K) (hc:C.clsO=475) (X:C.K.In C.h₀) (T:TopRead p loose C.mg C.mb C.h₀) (sys:Has C.h₀ cStatics):COk C fa0 :=
 have h1:=and_is S.cls;have h2:=and_is h1.2;have h3:=and_is h2.2;have h4:=and_is h3.2;have n:=and_is S.names
 have nm:∀ f:Fn,Nat.blt f 27=true→cond (isM f) (decide (findIn C.K (.ref 475) (fname f)=some (some (.ref (fa0 f))))&&isFn C.K (.ref (fa0 f))) (decide (nsIn C.K mainGlobals (fname f)=some (some (.ref (fa0 f)))))=true:=fun f h=>List.all_eq_true.mp n.1 f (List.mem_range.mpr (Nat.le_of_ble_eq_true h))
 { K:=X,globals:=T.g,builtins:=T.b,nolim:=T.nolimit,cls:=hc▸⟨h1.1,h2.1,h3.1,of_decide_eq_true h4.1⟩,attr:=fun a ha=>hc▸of_decide_eq_true (List.all_eq_true.mp h4.2 a (List.mem_range.mpr ha)),meth:=fun f h=>have k:=(cond_t h).symm.trans (nm f (and_is h).2);hc▸⟨of_decide_eq_true (and_is k).1,(and_is k).2⟩,glob:=fun f h=>mg_of X T.g (of_decide_eq_true ((cond_f (show isM f=false from by
   show (Nat.ble 15 f&&Nat.blt f 27)=false
   rw [Bool.eq_false_iff.mpr fun q=>Nat.lt_irrefl f (Nat.lt_of_lt_of_le (Nat.le_of_ble_eq_true h) (Nat.le_of_ble_eq_true q))]
   rfl)).symm.trans (nm f (Nat.ble_eq_true_of_le (Nat.lt_of_lt_of_le (Nat.le_of_ble_eq_true h) (by decide)))))),fo:=fun f h=>(S.fns X f h).elim fun o k=>k.elim fun fd k=>k.elim fun b k=>⟨o,fd,k.ho,k.hd⟩,gv:=stat_gv X T S.glb,bi:=names_bi S.names X T,sys:=sys }
end
section
variable {C:Cfg} {fa:Fn→Addr} {n:Nat} {nm:List (Str×NameKind)} {F:Fr} {top:Nat} {A:Around} {rest:List Stmt} {Q:Flow→Shared→Prop} {E:Value→Shared→Prop}
theorem ss_then (co:COk C fa) (hc:CallOk C fa n):∀ (ps:List PS) (qs:List Stmt),chkSs ps nm qs=true→∀ {st st':St} {p:Pl},Cx n nm F top A→exSs C n ps st=some (.next,st')→Good C F st p→(∀ p',Now C F (SS F top) p st' p'→wpAny C.M A (execs rest F.env) Q E p'.s)→wpAny C.M A (execs (qs++rest) F.env) Q E p.s
 | [],qs,hk,st,st',p,cx,ev,x,h=>nil_is (P:=fun qs=>wpAny C.M A (execs (qs++rest) F.env) Q E p.s) hk (h p (ret_is (Q:=fun _ st'=>Now C F (SS F top) p st' p) ev (.refl cx.ok.s0 x)))
 | y::ps,[],hk,_,_,_,_,_,_,_=>nb hk
 | y::ps,q::qs,hk,st,st',p,cx,ev,x,h=>bnd_is ev fun f1 st1 ev1 ev=>wpAny_execs_cons (seqE (chkS_ok co hc y nm q (and_is hk).1 F top A st f1 st1 p cx ev1 x) fun f p1 n1 hf=>match f1,hf,ev with
  | .next,hf,ev=>(show f=.next from hf).symm▸ss_then co hc ps qs (and_is hk).2 cx ev n1.good fun p' n2=>h p' (n1.trans n2)
  | .ret d,hf,ev=>by cases ev)
end
def WellIs (P:Params) (h:Heap) (v:Value) (d:WData):Prop:=match d with
 | .list xs=>∃ a vs,v=.ref a∧h.PlainList a (List.toArray vs)∧WellAll P h vs xs
 | .int i=>∃ t,v=.int i t
 | _=>True
theorem well_is {P:Params} {h:Heap} {v:Value} {d:WData} (x:Well P h v d):WellIs P h v d:=by
 cases x <;> first | exact trivial | exact ⟨_,rfl⟩ | (rename_i e r;exact ⟨_,_,rfl,⟨_,e⟩,r⟩)
def WellsAre (P:Params) (h:Heap) (vs:List Value) (ds:List WData):Prop:=match ds with
 | []=>vs=[]
 | d::ds=>∃ v us,vs=v::us∧Well P h v d∧WellAll P h us ds
theorem wells_are {P:Params} {h:Heap} {vs:List Value} {ds:List WData} (x:WellAll P h vs ds):WellsAre P h vs ds:=by
 cases x
 ·exact rfl
 ·rename_i a b
  exact ⟨_,_,rfl,a,b⟩
theorem well_all {P:Params} {h:Heap} {C:Cfg} {p:Pl}:∀ {as:List Int} {vs:List Value},WellAll P h vs (as.map .int)→Reps C p (as.map .int) vs
 | [],_,x=>wells_are x
 | a::as,_,x=>(show WellsAre P h _ (.int a::as.map .int) from wells_are x).elim fun v k=>k.elim fun us k=>⟨v,us,k.1,well_is k.2.1,well_all k.2.2⟩
theorem well_ints {P:Params} {h:Heap} {l:Addr} {as:List Int} (x:Well P h (.ref l) (ofPy (PyData.list (as.map PyData.int)))):∃ vs:List Value,h.PlainList l (List.toArray vs)∧∀ (C:Cfg) (p:Pl),Reps C p (as.map .int) vs:=by
 have e:ofPy (PyData.list (as.map PyData.int))=.list (as.map .int):=congrArg WData.list ((ofPys_eq _).trans (List.map_map ..))
 obtain ⟨a,vs,e1,pl,k⟩:=(show WellIs P h (.ref l) (.list (as.map .int)) from well_is (e▸x))
 cases e1
 exact ⟨vs,pl,fun C p=>well_all k⟩
structure LawEnv (env:Env) (cA:Addr) (base:Heap):Prop where
 globals:env.globals=mainGlobals
 builtins:env.builtins=builtinsNs
 fn:env.scope.kind=.function
 cells:env.cells=[(Str.ofString "slate",cA)]
 noL:base.get? env.locals=none
 noC:base.get? cA=none
 ne:env.locals≠cA
 script:env.kindOf (vname 34)=some .local
 slate:env.kindOf (vname 0)=some .cell
 opener:env.kindOf (vname 28)=some .local
 only:∀ x,env.kindOf x=some .cell→x=Str.ofString "slate"
theorem kind_ne {o:Option NameKind} {a b:NameKind} {P:Prop} (h:o=some a) (h':o=some b) (ne:a≠b):P:=absurd (Option.some.inj (h.symm.trans h')) ne
noncomputable def Cfg.sl (C:Cfg) (cells:List Int) (aS aC:Addr):Cfg:=⟨C.prog,C.w,C.h₀,cells,true,C.hasOp,aS,aC,C.aO,C.dO,C.clsO,C.mg,C.mb,C.K⟩
noncomputable def Cfg.op (C:Cfg) (aO dO:Addr):Cfg:=⟨C.prog,C.w,C.h₀,C.cells,C.hasS,true,C.aS,C.aC,aO,dO,C.clsO,C.mg,C.mb,C.K⟩
noncomputable def g0:GS:=⟨0,0,0,0,0⟩
noncomputable def ownL (env:Env) (cA:Addr):Addr→Nat:=fun a=>if a=env.locals then 2 else if a=cA then 3 else 0
noncomputable def lab1 (own:Addr→Nat) (b:Addr):Addr→Nat:=fun a=>if a=b then 1 else own a
section
variable {C C':Cfg} {F:Fr} {p p':Pl} {st:St} {ρ:List (Nat×AV)} {env:Env} {cA l:Addr} {as:List Int}
theorem own_zero (V:LawEnv env cA C.h₀) {b:Addr} {o:Obj} (e:C.h₀.get? b=some o):ownL env cA b=0:=(if_neg fun q=>nn (V.noL.symm.trans (q▸e))).trans (if_neg fun q=>nn (V.noC.symm.trans (q▸e)))
theorem law_good (V:LawEnv env cA C.h₀) (hS:C.hasS=false) (hO:C.hasOp=false) {m:Str→Option Value} {s:Shared} (hF:s.heap.Ns env.locals m) (keep:Kp C.h₀ s.heap) (hcell:∃ v,s.heap.IsCell cA v) (hm:m (vname 34)=some (.ref l))
  {vs:List Value} (pl:C.h₀.PlainList l vs.toArray) (hr:∀ p,Reps C p (as.map .int) vs) (hl:vs.length≤cap):Good C ⟨env,2,3,4⟩ ⟨[(34,.lst (as.map .int))],[],g0⟩ ⟨ownL env cA,[],s⟩ where
 inv:=⟨fun b o e=>⟨keep b o e,own_zero V e⟩,fun h=>nb (hS.symm.trans h),fun h=>nb (hO.symm.trans h)⟩
 loc:=⟨rfl,.nil,fun n o fz e=>by cases e⟩
 env:={
  ns:=⟨m,hF,fun x d hx hd hk=>dget_each hd (fun q q2=>⟨_,q▸hm,q2▸⟨l,vs,rfl,(plain_has pl).elim fun o e=>own_zero V e,plain_at pl fun o e=>keep _ _ e,hl,hr _⟩⟩) fun _ h=>nn h⟩
  cell:=fun x d hx hd hk=>dget_each hd (fun q _=>kind_ne V.script (q▸hk) (by decide)) fun _ h=>nn h
  cells:=fun x hk=>⟨cA,by rw [V.only x hk];show env.cells.lookup _=_;rw [V.cells];rfl⟩
  cellx:=fun n c hm=>by
   have hm:(n,c)∈env.cells:=hm
   rw [V.cells,List.mem_singleton] at hm
   cases hm
   exact ⟨hcell,(if_neg fun q=>V.ne q.symm).trans (if_pos rfl)⟩
  ownL:=if_pos rfl
  apart:=by
   show env.cells.Pairwise _
   rw [V.cells]
   exact List.pairwise_singleton _ _ }
 fresh:=fun a e=>Decidable.byCases (p:=a=env.locals) (fun q=>q.symm▸ns_has hF) fun q=>Decidable.byCases (p:=a=cA) (fun q=>q.symm▸hcell.elim fun v h=>isCell_has h) fun q'=>absurd ((if_neg q).trans (if_neg q')) e
theorem env_slate (x:EnvOk C F ρ p) (hS:C.hasS=true) (h0:dget ρ 0=some (.loc 0)) (hla:p.la[0]?=some C.aS) (hk:F.env.kindOf (vname 0)=some .cell):EnvOk C F [(0,.slate)] ⟨p.own,[],p.s⟩ where
 ns:=x.ns.elim fun m h=>⟨m,h.1,fun y d hy hd hk'=>dget_each hd (fun q _=>kind_ne hk (q▸hk') (by decide)) fun _ h=>nn h⟩
 cell:=fun y d hy hd hk'=>dget_each hd (fun q q2=>(x.cell 0 (.loc 0) (by decide) h0 hk).elim fun c h=>h.elim fun v h=>⟨c,v,q▸h.1,h.2.1,q2▸⟨hS,h.2.2.elim fun a k=>k.2.trans (congrArg Value.ref (Option.some.inj (k.1.symm.trans hla)))⟩⟩) fun _ h=>nn h
 cells:=x.cells
 cellx:=x.cellx
 ownL:=x.ownL
 apart:=x.apart
theorem lab_lk {b:Addr} {la:List Addr} {s:Shared} {k:Nat} (kp:Kp p.h s.heap) (nb:∀ o,p.h.get? b=some o→p.own b≠k):Lk p ⟨lab1 p.own b,la,s⟩ k:=fun a q o e=>⟨kp a o e,(if_neg fun z:a=b=>nb o (z▸e) (z▸q)).trans q⟩
structure Seg (C:Cfg) (F:Fr) (s₁:Shared) (st:St) (p:Pl):Prop where
 good:Good C F st p
 after:After s₁ p.s
theorem Seg.kp {s₁:Shared} (x:Seg C F s₁ st p) (h:C.h₀=s₁.heap):Kp s₁.heap p.h:=fun b o e=>(x.good.inv.base b o (h▸e)).1
theorem seg_slate {s₁:Shared} {cells:List Int} (V:LawEnv env cA C.h₀) (hS:C.hasS=false) (hO:C.hasOp=false) (x:Seg C ⟨env,2,3,4⟩ s₁ ⟨[(0,.loc 0),(34,.lst (as.map .int))],[(.dct [(23,.lst (cells.map .int)),(24,.int 0)],false)],g0⟩ p) :
  ∃ aS aC own,Seg (C.sl cells aS aC) ⟨env,2,3,4⟩ s₁ ⟨[(0,.slate)],[],g0⟩ ⟨own,[],p.s⟩:=by
 obtain ⟨a,ha,h4,kvs,hd,hs,v1,us,rfl,_,⟨aC,vs,rfl,rc⟩,v2,us,rfl,_,⟨t,rfl⟩,rfl⟩:=x.good.loc.each 0 _ _ rfl
 have h4:p.own a=4:=h4
 have g:Mv C (C.sl cells a aC) p ⟨lab1 p.own a,p.la,p.s⟩:=⟨fun b z o e=>⟨e,(if_neg fun q:b=a=>absurd (h4.symm.trans (q▸z:p.own a=0)) (by decide)).trans z⟩,fun _ _ _ h=>h,fun h=>nb (hS.symm.trans h),fun h=>nb (hO.symm.trans h)⟩
 have ne:∀ k,k≠4→Lk p ⟨lab1 p.own a,p.la,p.s⟩ k:=fun k hk=>lab_lk (fun _ _ e=>e) fun _ _ q=>hk (q.symm.trans h4)
 exact ⟨a,aC,lab1 p.own a,⟨⟨fun b o e=>(fun k=>⟨k.1,(g.g b k.2 o k.1).2⟩) (x.good.inv.base b o e),fun _=>⟨if_pos rfl,⟨t,hd⟩,Rep.move (p':=⟨lab1 p.own a,[],p.s⟩) ⟨g.g,g.d,g.s,g.o⟩ (.lst _) (.ref aC) (show Rep C p (.lst _) (.ref aC) from ⟨aC,vs,rfl,rc⟩)⟩,fun h=>nb (hO.symm.trans h)⟩,⟨rfl,.nil,fun n o fz e=>by cases e⟩,
  env_slate (x.good.env.move g pre_nil (ne 2 (by decide)) (ne 3 (by decide))) rfl rfl ha V.slate,fun b e=>Decidable.byCases (p:=b=a) (fun q=>q.symm▸(dictOf_has hd:Has p.h a)) fun q=>x.good.fresh b fun z=>e ((if_neg q).trans z)⟩,x.after⟩
theorem seg_opener {s₁:Shared} {xo dxo:Addr} {h':Heap} {tk:Nat} (hO:C.hasOp=false) (hS:C.hasS=true) (x:Seg C F s₁ st p) (ok:F.Ok 4) (hg:gl st.g=[0,0,0,0]) (hc:C.clsO=475) (kp:Kp p.h h') (nx:p.h.get? xo=none) (nd:p.h.get? dxo=none) (hx:∃ m,Ob h' xo dxo 475 m∧OpEs g0 m) :
  ∃ own,Seg (C.op xo dxo) F s₁ st ⟨own,p.la,{ p.s with heap:=h',toks:=tk }⟩:=by
 have lk:∀ k,Lk p ⟨lab1 p.own dxo,p.la,{ p.s with heap:=h',toks:=tk }⟩ k:=fun k=>lab_lk kp fun o e=>nn (nd.symm.trans e)
 have g:Mv C (C.op xo dxo) p ⟨lab1 p.own dxo,p.la,{ p.s with heap:=h',toks:=tk }⟩:=⟨fun a z o e=>lk 0 a z o e,fun _ _ _ h=>h,fun h=>⟨h,rfl⟩,fun h=>nb (hO.symm.trans h)⟩
 have sl:=x.good.inv.sl hS
 refine ⟨lab1 p.own dxo,⟨⟨fun b o e=>(fun k=>⟨kp _ _ k.1,(g.g b k.2 o k.1).2⟩) (x.good.inv.base b o e),fun _=>⟨sl.es.elim fun t m=>(dictOf_has m).elim fun o e=>(lk 1 _ sl.own o e).2,sl.es.elim fun t m=>⟨t,dictOf_at m fun o e=>kp _ _ e⟩,Rep.move g _ _ sl.cells⟩,
   fun _=>⟨(if_neg (hx.elim fun m k=>k.1.ne)).trans (x.good.own_none nx),if_pos rfl,fun q=>sl.es.elim fun t m=>(dictOf_has m).elim fun o e=>nn (nd.symm.trans (q▸e)),hx.elim fun m k=>hc▸k.1.obj,hx.elim fun m k=>⟨m,k.1.ns,k.2.within,fun a i e=>k.2.vals a i (show ([0,0,0,0]:List Int)[a]?=some i from hg▸e)⟩⟩⟩,
  x.good.loc.move g rfl (lk _),x.good.env.move g pre_nil (lk _) (lk _),fun b e=>Decidable.byCases (p:=b=dxo) (fun q=>q.symm▸(hx.elim fun m k=>ns_has k.1.ns.ns:Has h' dxo)) fun q=>Kp.has kp (x.good.fresh b fun z=>e ((if_neg q).trans z))⟩,
  x.after.trans ⟨h',tk,rfl⟩⟩
end
def MakesOp (M:Model) (A:Around) (env:Env) (base:Heap) (ex:PySem.Expr):Prop:=∀ (s:Shared) (Q:Value→Shared→Prop) (E:Value→Shared→Prop),Kp base s.heap→(∃ m,s.heap.Ns env.locals m) →
 (∀ xo dxo h' tk',Kp s.heap h'→s.heap.get? xo=none→s.heap.get? dxo=none→(∃ m,Ob h' xo dxo 475 m∧OpEs g0 m)→Q (.ref xo) { s with heap:=h',toks:=tk' })→wpAny M A (eval ex env) Q E s
theorem law_ok {prog p:Program} {loose:List Str} {w:World} {s₁:Shared} {env:Env} {cA l:Addr} {mg mb:Str→Option Value} {h₁:Heap} {tk₁:Nat} {m:Str→Option Value} {as:List Int} {b0 b1 b2:List Stmt} {pa pb:Pos} {ex:PySem.Expr} {K:Frag} {A:Around} {Q:Flow→Shared→Prop} {E:Value→Shared→Prop}
  (S:Stat K) (KX:K.In s₁.heap) (T:TopRead p loose mg mb s₁.heap) (sys:Has s₁.heap cStatics) (V:LawEnv env cA s₁.heap) (hF:h₁.Ns env.locals m) (keep:Kp s₁.heap h₁) (hcell:∃ v,h₁.IsCell cA v) (hm:m (vname 34)=some (.ref l))
  (hw:Well w.params s₁.heap (.ref l) (ofPy (PyData.list (as.map PyData.int)))) (hlen:as.length≤63) (hA:AOk 100 A) (hsw:swapsWith ex (some (.Name (vname 28) pa)) pb.line env=pure false)
  (k0:chkSs P.seg0 env.scope.names b0=true) (k1:chkSs P.seg1 env.scope.names b1=true) (k2:chkSs P.seg2 env.scope.names b2=true) (hx:MakesOp (model prog w) A env s₁.heap ex)
  (hQ:∀ h' tk',Kp s₁.heap h'→Q (.ret (.bool true)) { s₁ with heap:=h',toks:=tk' }) :
  wpAny (model prog w) A (execs (b0++(b1++(.Assign [.Name (vname 28) pa] ex pb::b2))) env) Q E { s₁ with heap:=h₁,toks:=tk₁ }:=by
 obtain ⟨vs,pl,hr⟩:=well_ints hw
 have hl:vs.length≤cap:=((hr ⟨prog,w,s₁.heap,[],false,false,0,0,0,0,475,mg,mb,K⟩ ⟨fun _=>0,[],s₁⟩).length.trans (List.length_map _)).symm▸Nat.le_trans hlen (by decide)
 have ok:Fr.Ok ⟨env,2,3,4⟩ 4:=⟨V.globals,V.builtins,V.fn,(by decide:1<2),(by decide:1<3),(by decide:1<4),(by decide:2≠4),(by decide:3≠4),(by decide:2≤4),(by decide:3≤4),Nat.le_refl 4⟩
 have cx:Cx 100 env.scope.names ⟨env,2,3,4⟩ 4 A:=⟨ok,rfl,hA⟩
 have go:∀ C:Cfg,C.K=K→C.clsO=475→C.h₀=s₁.heap→C.mg=mg→C.mb=mb→COk C fa0∧CallOk C fa0 100:=fun C h1 h2 h3 h4 h5 =>
  have X:C.K.In C.h₀:=by rw [h1,h3];exact KX
  have S':Stat C.K:=h1▸S
  have co:=S'.cok h2 X (show TopRead p loose C.mg C.mb C.h₀ by rw [h3,h4,h5];exact T) (h3▸sys)
  ⟨co,call_all co (S'.fns X) 100⟩
 let C0:Cfg:=⟨prog,w,s₁.heap,[],false,false,0,0,0,0,475,mg,mb,K⟩
 obtain ⟨co0,ca0⟩:=go C0 rfl rfl rfl rfl rfl
 refine ss_then co0 ca0 P.seg0 b0 k0 cx P.seg0_ok (law_good (C:=C0) (s:={ s₁ with heap:=h₁,toks:=tk₁ }) V rfl rfl hF keep hcell hm pl (hr _) hl) fun p1 n1=>?_
 obtain ⟨aS,aC,own2,x2⟩:=seg_slate (C:=C0) V rfl rfl ⟨n1.good,After.trans ⟨h₁,tk₁,rfl⟩ n1.go.after⟩
 obtain ⟨co1,ca1⟩:=go (C0.sl (P.cellsOf as) aS aC) rfl rfl rfl rfl rfl
 obtain ⟨Ss,u,wv,k,hk,hS,hSV,w0,w3,ev1⟩:=P.seg1_ok (cells:=P.cellsOf as) (n:=98) (g:=g0) (N:=0) (by decide) ⟨Int.le_refl 0,Int.le_refl 0⟩
 refine ss_then (p:=⟨own2,[],p1.s⟩) co1 ca1 P.seg1 b1 k1 cx ev1 x2.good fun p3 n3=>?_
 have x3:Seg (C0.sl (P.cellsOf as) aS aC) ⟨env,2,3,4⟩ s₁ _ p3:=⟨n3.good,x2.after.trans n3.go.after⟩
 refine wpAny_execs_cons (wpAny_Assign_Name (hx p3.s _ _ (x3.kp rfl) (x3.good.env.ns.elim fun m h=>⟨m,h.1⟩) fun xo dxo h' tk kp nx nd hx=>?_) hsw)
 obtain ⟨own4,x4⟩:=seg_opener (C:=C0.sl (P.cellsOf as) aS aC) rfl rfl x3 ok rfl rfl kp nx nd hx (tk:=tk)
 obtain ⟨co2,ca2⟩:=go ((C0.sl (P.cellsOf as) aS aC).op xo dxo) rfl rfl rfl rfl rfl
 have hk28:NameOk env.scope.names false 28:=⟨by decide,Bool.or_eq_true_iff.mpr (.inl (beq_iff_eq.mpr V.opener))⟩
 refine seqE (C:=(C0.sl (P.cellsOf as) aS aC).op xo dxo) (putV (p:=⟨own4,p3.la,{ p3.s with heap:=h',toks:=tk }⟩) (v:=.ref xo) (S:=SS ⟨env,2,3,4⟩ 4) (d:=.opener) ok rfl x4.good hk28 ok.s0 (.inr (.inl rfl)) (fun h=>nb h) ⟨rfl,rfl⟩) fun _ p5 n5 _=>?_
 obtain ⟨st',ev2⟩:=P.seg2_ok (cells:=P.cellsOf as) (n:=95) hS hSV w0 w3 (by decide) (g:=P.moved g0 (k:Nat)) (N:=20) (by decide) ⟨by show (0:Int)≤0+k;omega,by show (0:Int)+k≤(20:Nat);omega⟩ rfl rfl rfl
 refine seqE (C:=(C0.sl (P.cellsOf as) aS aC).op xo dxo) (chkSs_ok co2 ca2 P.seg2 env.scope.names b2 k2 _ 4 A _ _ st' p5 cx ev2 n5.good) fun f p6 n6 hf=>?_
 obtain ⟨v,rfl,rv⟩:=hf
 cases (show v=.bool true from rv)
 obtain ⟨h6,tk6,e6⟩:=x4.after.trans (n5.go.after.trans n6.go.after)
 have kp6:Kp s₁.heap p6.s.heap:=fun b o e=>(n6.good.inv.base b o e).1
 rw [e6] at kp6 ⊢
 exact hQ h6 tk6 kp6
structure Cc where
 prog:Program
 w:World
 K:Frag
 base:Heap
 x:Addr
 dx:Addr
 c:Addr
 ns:List Str
structure Fc where
 A:Around
 env:Env
 h0:Heap
def EL (h:Heap) (v:Value):Prop:=∃ a n,v=.ref a∧h.get? a=some (W.listOf #[] n)
noncomputable def VK (C:Cc):Nat→Heap→Value→Prop
 | 1,h,v=>EL h v
 | 2,_,v=>∃ t,v=.int 0 t
 | 3,_,v=>v=.ref C.x
 | 4,_,v=>v=.none
 | _,_,_=>True
def Lp (h h':Heap):Prop:=∀ a n,h.get? a=some (W.listOf #[] n)→h'.get? a=some (W.listOf #[] n)
def Has1 (C:Cc) (P:List (Str×Nat)) (h:Heap) (m:Str→Option Value):Prop:=∀ n k,P.lookup n=some k→∃ v,m n=some v∧VK C k h v
def OS (C:Cc) (N:List (Str×Nat)) (h:Heap):Prop:=∃ m,Ob h C.x C.dx C.c m∧Within m C.ns∧Has1 C N h m
def Loc (F:Fc) (h:Heap) (n:Str) (v:Value):Prop:=(F.env.kindOf n=some .local∧∃ m,h.Ns F.env.locals m∧m n=some v)∨(F.env.kindOf n=some .cell∧∃ c,F.env.cells.lookup n=some c∧h.IsCell c (some v))
structure CS (C:Cc) (F:Fc) (N P:List (Str×Nat)) (h:Heap):Prop where
 k0:∀ b o,b≠C.dx→F.h0.get? b=some o→h.get? b=some o
 os:OS C N h
 ns:∃ m,h.Ns F.env.locals m
 cel:∀ n,F.env.kindOf n=some .cell→∃ c,F.env.cells.lookup n=some c∧(∃ v,h.IsCell c v)∧F.h0.get? c=none
 val:∀ n k,P.lookup n=some k→∃ v,Loc F h n v∧VK C k h v
structure CcOk (C:Cc):Prop where
 K:C.K.In C.base
 cls:PlainCls C.K C.c
 dx:C.base.get? C.dx=none
 few:C.ns.length≤1000
structure FcOk (C:Cc) (F:Fc) (nm:List (Str×NameKind)):Prop where
 fn:F.env.scope.kind=.function
 nm:F.env.scope.names=nm
 hh:F.A.handled=none
 h0:Kp C.base F.h0
 hx:Has F.h0 C.x
 hd:Has F.h0 C.dx
 new:F.h0.get? F.env.locals=none
 ap:∀ n n' c,F.env.cells.lookup n=some c→F.env.cells.lookup n'=some c→n=n'
section
variable {C:Cc} {F:Fc} {N P N' P':List (Str×Nat)} {h h':Heap} {m:Str→Option Value} {v:Value} {k:Nat} {nm:List (Str×NameKind)} {n:Str}
theorem VK.go (l:Lp h h'):∀ {k:Nat},VK C k h v→VK C k h' v
 | 0,_=>trivial
 | 1,q=>q.elim fun a q=>q.elim fun n q=>⟨a,n,q.1,l a n q.2⟩
 | 2,q=>q
 | 3,q | 4,q=>q
 | k+5,_=>trivial
theorem Has1.go (l:Lp h h') (x:Has1 C P h m):Has1 C P h' m:=fun n k e=>(x n k e).elim fun v q=>⟨v,q.1,q.2.go l⟩
theorem Has1.cons (x:Has1 C P h m) (q:VK C k h v):Has1 C ((n,k)::P) h fun y=>if y=n then some v else m y:=fun y j e=>by
 rw [List.lookup_cons] at e
 by_cases z:y=n
 ·rw [beq_iff_eq.mpr z] at e
  cases e
  exact ⟨v,if_pos z,q⟩
 ·rw [beq_eq_false_iff_ne.mpr z] at e
  exact (x y j e).elim fun u q=>⟨u,(if_neg z).trans q.1,q.2⟩
theorem Lp.of_kp (k:Kp h h'):Lp h h':=fun a n e=>k a _ e
theorem dict_ne {a b:Addr} {n:Nat} {o:Obj} {es:Array DictEntry} {ep:Nat} (e:h.get? a=some (W.listOf #[] n)) (e':h.get? b=some o) (d:o.data=.dict es ep):a≠b:=fun q=>by
 cases (q▸e).symm.trans e'
 cases d
theorem OS.go (x:OS C N h) (k:Kp h h'):OS C N h':=x.elim fun m q=>⟨m,q.1.keep k,q.2.1,q.2.2.go (.of_kp k)⟩
theorem FcOk.apart (ok:FcOk C F nm) {a:Addr} (e:F.h0.get? a=none):a≠C.x∧a≠C.dx:=⟨fun q=>ok.hx.elim fun o e'=>nn (e.symm.trans (q▸e')),fun q=>ok.hd.elim fun o e'=>nn (e.symm.trans (q▸e'))⟩
theorem Loc.go (x:Loc F h n v) (kl:∀ o,h.get? F.env.locals=some o→h'.get? F.env.locals=some o) (kc:∀ c,F.env.cells.lookup n=some c→F.env.kindOf n=some .cell→∀ o,h.get? c=some o→h'.get? c=some o):Loc F h' n v :=
 x.imp (fun z=>⟨z.1,z.2.elim fun m q=>⟨m,ns_at q.1 kl,q.2⟩⟩) fun z=>⟨z.1,z.2.elim fun c q=>⟨c,q.1,isCell_at q.2 (kc c q.1 z.1)⟩⟩
theorem CS.but (ok:FcOk C F nm) (x:CS C F N P h) (k:∀ b o,b≠C.dx→h.get? b=some o→h'.get? b=some o) (l:Lp h h') (o:OS C N' h'):CS C F N' P h' where
 k0:=fun b o ne e=>k b o ne (x.k0 b o ne e)
 os:=o
 ns:=x.ns.elim fun m q=>⟨m,ns_at q fun o=>k _ o (ok.apart ok.new).2⟩
 cel:=fun n hn=>(x.cel n hn).elim fun c q=>⟨c,q.1,q.2.1.elim fun v z=>⟨v,isCell_at z fun o=>k _ o (ok.apart q.2.2).2⟩,q.2.2⟩
 val:=fun n j e=>(x.val n j e).elim fun v q=>⟨v,q.1.go (fun o=>k _ o (ok.apart ok.new).2) fun c hc hk o=>(x.cel n hk).elim fun c' q=>k c o (Option.some.inj (hc.symm.trans q.1)▸(ok.apart q.2.2).2),q.2.go l⟩
theorem CS.go (ok:FcOk C F nm) (x:CS C F N P h) (k:Kp h h'):CS C F N P h':=x.but ok (fun b o _ e=>k b o e) (.of_kp k) (x.os.go k)
theorem CS.K (co:CcOk C) (ok:FcOk C F nm) (x:CS C F N P h):C.K.In h:=fun a o e=>have b:=co.K a o e;x.k0 a o (fun q=>nn (co.dx.symm.trans (q▸b))) (ok.h0 a o b)
theorem OS.set {b:Addr} (x:OS C N h) (hs:Heap.SameBut b h h') (nd:b≠C.dx) (nx:b≠C.x) (l:Lp h h'):OS C N h':=x.elim fun m q=>⟨m,⟨(hs.2 _ nx.symm).trans q.1.obj,q.1.ns.at fun o e=>(hs.2 _ nd.symm).trans e⟩,q.2.1,q.2.2.go l⟩
def EvK (C:Cc) (F:Fc) (N P:List (Str×Nat)) (k:Nat) (e:PySem.Expr):Prop:=∀ (s:Shared) (Q:Value→Shared→Prop) (E:Value→Shared→Prop),CS C F N P s.heap →
 (∀ v h' tk,CS C F N P h'→Lp s.heap h'→VK C k h' v→Q v { s with heap:=h',toks:=tk })→wpAny (model C.prog C.w) F.A (eval e F.env) Q E s
theorem name_ev {p:Pos} (ok:FcOk C F nm) (hP:P.lookup n=some k) (hd:(n == ("__debug__":Str))=false) {s:Shared} {Q:Value→Shared→Prop} {E:Value→Shared→Prop} (x:CS C F N P s.heap) (q:∀ v,VK C k s.heap v→Q v s):wpAny (model C.prog C.w) F.A (eval (.Name n p) F.env) Q E s :=
 (x.val n k hP).elim fun v y=>wpAny_Name (y.1.elim (fun z=>z.2.elim fun m w=>wpAny_loadName_local ok.fn z.1 w.1 w.2 (q v y.2)) fun z=>z.2.elim fun c w=>wpAny_loadName_cell ok.fn z.1 w.1 w.2 (q v y.2)) hd
theorem ek_name {p:Pos} (ok:FcOk C F nm) (hP:P.lookup n=some k) (hd:(n == ("__debug__":Str))=false):EvK C F N P k (.Name n p):=fun s Q E x q=>name_ev ok hP hd x fun v r=>q v s.heap s.toks x (fun _ _ e=>e) r
theorem ek_list {p:Pos} (ok:FcOk C F nm):EvK C F N P 1 (.List [] p):=fun s Q E x q=>wpAny_List (wpAny_items_nil ⟨by decide,q _ _ s.toks (x.go ok (.push _ _)) (.of_kp (.push _ _)) ⟨_,0,rfl,Heap.get?_push_size _ rfl⟩⟩)
theorem ek_dict {p:Pos} (ok:FcOk C F nm):EvK C F N P 0 (.Dict [] [] p):=fun s Q E x q=>wpAny_Dict_empty (q _ _ s.toks (x.go ok (.push _ _)) (.of_kp (.push _ _)) trivial)
theorem ek_zero {p:Pos} {i:Nat}:EvK C F N P 2 (.Constant (.int 0) i p):=fun s Q E x q=>wpAny_Constant_int (q _ _ _ x (fun _ _ e=>e) ⟨_,rfl⟩)
theorem self_ev {p:Pos} (ok:FcOk C F nm) (hP:P.lookup ("self":Str)=some 3) {s:Shared} {Q:Value→Shared→Prop} {E:Value→Shared→Prop} (x:CS C F N P s.heap) (q:Q (.ref C.x) s):wpAny (model C.prog C.w) F.A (eval (.Name "self" p) F.env) Q E s :=
 name_ev ok hP rfl x fun v r=>(show v=.ref C.x from r)▸q
theorem ek_attr {p p':Pos} (co:CcOk C) (ok:FcOk C F nm) (hP:P.lookup ("self":Str)=some 3) (hN:N.lookup n=some 1) (ha:findIn C.K (.ref C.c) n=some none):EvK C F N P 1 (.Attribute (.Name "self" p) n p'):=fun s Q E x q =>
 Attribute_Name_ (self_ev ok hP x (x.os.elim fun m z=>(z.2.2 n 1 hN).elim fun u y=>y.2.elim fun a y'=>y'.elim fun j y' =>
  get_attr (x.K co ok) co.cls z.1 ha (y'.1▸y.1) rfl (q _ s.heap _ x (fun _ _ e=>e) ⟨a,j,rfl,y'.2⟩)))
def MethK (C:Cc) (N N':List (Str×Nat)) (k:Nat) (f:Addr):Prop:=∀ (A:Around) (s:Shared) (R:Result→Shared→Prop),A.depth<recursionLimit→A.handled=none→Kp C.base s.heap→OS C N s.heap →
 (∀ v h' tk,(∀ b o,b≠C.dx→s.heap.get? b=some o→h'.get? b=some o)→OS C N' h'→VK C k h' v→R (.ok (.ret v)) { s with heap:=h',toks:=tk })→codeAny (model C.prog C.w) A (.call (.ref f) ⟨[.ref C.x],[]⟩) R s
theorem CS.lp (x:CS C F N P h) {h1:Heap} (k:∀ b o,b≠C.dx→h.get? b=some o→h1.get? b=some o):Lp h h1:=fun a n e=>k a _ (x.os.elim fun m z=>z.1.ns.elim fun o y=>y.elim fun es y=>y.elim fun ep y=>dict_ne e y.1 y.2.1) e
theorem ek_call {p p' p2:Pos} {f:Addr} (co:CcOk C) (ok:FcOk C F nm) (hP:P.lookup ("self":Str)=some 3) (hM:MethK C N N k f) (hd:F.A.depth<recursionLimit) (hf:findIn C.K (.ref C.c) n=some (some (.ref f))) (hi:isFn C.K (.ref f)=true) (hk:keepIn C.K (.ref f)=true) (hn:n∉C.ns)
  (hl:(p'.endLine == p2.line)=true):EvK C F N P k (.Call (.Attribute (.Name "self" p) n p') [] [] p2):=fun s Q E x q=>by
 rw [arm_eval_Call,base_plain rfl]
 refine wpAny_bind (self_ev ok hP x (wpAny_bind (wpAny_standAt ?_)))
 unfold methodCall
 rw [form_of (es:=[]) (fun e he=>nomatch he) (by decide)]
 exact wpAny_bind (wpAny_holding (x.os.elim fun m z=>get_meth (x.K co ok) co.cls z.1 hf hi (Classical.byContradiction fun y=>hn (z.2.1 n y)) (wpAny_bind (wpAny_of_eq (line_of hl _ F.env)
  (callWith_K0 (x.K co ok) hk (wpAny_call (hM _ _ _ hd ok.hh (fun b o e=>x.k0 b o (fun q=>nn (co.dx.symm.trans (q▸e))) (ok.h0 b o e)) x.os fun v h2 tk2 k2 o2 r2=>q v h2 tk2 (x.but ok k2 (x.lp k2) o2) (x.lp k2) r2)))))))
end
section
variable {C:Cc} {F:Fc} {N P N' P' N1 P1:List (Str×Nat)} {h h':Heap} {m:Str→Option Value} {v:Value} {k k1 k2:Nat} {nm:List (Str×NameKind)} {n a b:Str} {e e1 e2:PySem.Expr} {p p' p2 p3:Pos}
def StK (C:Cc) (F:Fc) (N P N' P':List (Str×Nat)) (st:Stmt):Prop:=∀ (s:Shared) (Q:Flow→Shared→Prop) (E:Value→Shared→Prop),PassesOwn (model C.prog C.w) F.A F.env E→CS C F N P s.heap →
 (∀ h' tk,CS C F N' P' h'→Q .next { s with heap:=h',toks:=tk })→wpAny (model C.prog C.w) F.A (exec st F.env) Q E s
noncomputable def retOf (f:Flow):Value:=match f with
 | .ret v=>v
 | _=>.none
def FnK (C:Cc) (F:Fc) (N P N':List (Str×Nat)) (k:Nat) (sts:List Stmt):Prop:=∀ (s:Shared) (Q:Flow→Shared→Prop) (E:Value→Shared→Prop),PassesOwn (model C.prog C.w) F.A F.env E→CS C F N P s.heap →
 (∀ f h' tk,CS C F N' [] h'→VK C k h' (retOf f)→Q f { s with heap:=h',toks:=tk })→wpAny (model C.prog C.w) F.A (execs sts F.env) Q E s
theorem CS.drop (x:CS C F N P h):CS C F N [] h:=⟨x.k0,x.os,x.ns,x.cel,fun n k e=>nn e⟩
theorem fk_nil:FnK C F N P N 4 []:=fun s Q E hE x q=>wpAny_execs_nil (q _ _ s.toks x.drop rfl)
theorem fk_ret {o:Option PySem.Expr} (ho:o=some e) (he:EvK C F N P k e):FnK C F N P N k [.Return o p]:=fun s Q E hE x q=>ho▸wpAny_execs_cons (wpAny_Return_some (he s _ E x fun v h' tk x _ r=>q (.ret v) h' tk x.drop r))
theorem fk_cons {st:Stmt} {sts:List Stmt} (h1:StK C F N P N1 P1 st) (h2:FnK C F N1 P1 N' k sts):FnK C F N P N' k (st::sts):=fun s Q E hE x q=>wpAny_execs_cons (h1 s _ E hE x fun h' tk x=>h2 _ _ E hE x fun f h2 tk2=>q f h2 tk2)
theorem Lp.set {d:Addr} (hs:Heap.SameBut d h h') (x:∃ o es ep,h.get? d=some o∧o.data=Data.dict es ep):Lp h h':=fun a n e=>x.elim fun o x=>x.elim fun es x=>x.elim fun ep x=>(hs.2 a (dict_ne e x.1 x.2)).trans e
theorem st_set (co:CcOk C) (ok:FcOk C F nm) (hP:P.lookup ("self":Str)=some 3) (he:EvK C F N P k e) (ha:findIn C.K (.ref C.c) n=some none) (hm:n∈C.ns) (hsw:∀ t line env,swapsWith e t line env=pure false) :
  StK C F N P ((n,k)::N) P (.Assign [.Attribute (.Name "self" p) n p'] e p2):=fun s Q E hE x q =>
 plainObj_wpAny_Assign_Attribute (he s _ E x fun v h1 tk x _ r=>self_ev ok hP x (x.os.elim fun m z=>set_attr (x.K co ok) co.cls z.1 ha z.2.1 co.few fun h' tk' I hs =>
  have l:=Lp.set hs (z.1.ns.elim fun o y=>y.elim fun es y=>y.elim fun ep y=>⟨o,es,ep,y.1,y.2.1⟩)
  q h' tk' (x.but ok (fun b o ne e=>(hs.2 b ne).trans e) l ⟨_,I,fun y hy=>Decidable.byCases (p:=y=n) (fun q=>q▸hm) fun q=>z.2.1 y fun w=>hy ((if_neg q).trans w),(z.2.2.go l).cons (r.go l)⟩))) (hsw _ _ _)
theorem st_expr (he:EvK C F N P k e) (hi:interactive F.env=false) (hsw:∀ t line env,swapsWith e t line env=pure false):StK C F N P N P (.Expr e p):=fun s Q E hE x q=>wpAny_Expr_any (he s _ E x fun v h' tk x _ _=>q h' tk x) hi (hsw _ _ _)
theorem CS.one (x:CS C F N P h) {d:Addr} (hs:Heap.SameBut d h h') (l:Lp h h') (ad:d≠C.x∧d≠C.dx) (hd:F.h0.get? d=none) (ns:∃ m,h'.Ns F.env.locals m) (cel:∀ n c v,F.env.cells.lookup n=some c→h.IsCell c v→∃ v,h'.IsCell c v) (lo:Loc F h' n v) (r:VK C k h v)
  (other:∀ y u,y≠n→Loc F h y u→Loc F h' y u):CS C F N ((n,k)::P) h' where
 k0:=fun b o ne e=>(hs.2 b fun z=>nn (hd.symm.trans (z▸e))).trans (x.k0 b o ne e)
 os:=x.os.set hs ad.2 ad.1 l
 ns:=ns
 cel:=fun y hy=>(x.cel y hy).elim fun c q=>⟨c,q.1,q.2.1.elim fun u z=>cel y c u q.1 z,q.2.2⟩
 val:=fun y j e=>by
  rw [List.lookup_cons] at e
  by_cases z:y=n
  ·rw [beq_iff_eq.mpr z] at e
   cases e
   exact ⟨v,z▸lo,r.go l⟩
  ·rw [beq_eq_false_iff_ne.mpr z] at e
   exact (x.val y j e).elim fun u q=>⟨u,other y u z q.1,q.2.go l⟩
theorem cell_ne {a c:Addr} {u:Option Value} {o:Obj} {es:Array DictEntry} {ep:Nat} (e:h.IsCell c u) (e':h.get? a=some o) (d:o.data=.dict es ep):c≠a:=fun q=>e.elim fun o' z=>by
 cases (q▸z.1).symm.trans e'
 cases z.2.symm.trans d
theorem store_ev (ok:FcOk C F nm) (hn:nm.lookup n=some .local∨nm.lookup n=some .cell) {s:Shared} {Q:Unit→Shared→Prop} {E:Value→Shared→Prop} (x:CS C F N P s.heap) (r:VK C k s.heap v) (q:∀ h' tk,CS C F N ((n,k)::P) h'→Lp s.heap h'→Q () { s with heap:=h',toks:=tk }):wpAny (model C.prog C.w) F.A (storeName F.env n v) Q E s :=
 have kd:∀ {k},nm.lookup n=some k→F.env.kindOf n=some k:=fun h=>show F.env.scope.names.lookup n=_ from ok.nm▸h
 hn.elim (fun hl=>x.ns.elim fun m z=>wpAny_storeName_local (kd hl) z (fun h' hn' hs =>
   have od:=z.elim fun o y=>y.elim fun es y=>y.elim fun ep y=>(⟨o,es,ep,y.1,y.2.1⟩:∃ o es ep,s.heap.get? F.env.locals=some o∧o.data=Data.dict es ep)
   have l:=Lp.set hs od
   have cn:∀ {c u},s.heap.IsCell c u→c≠F.env.locals:=fun hc=>od.elim fun o y=>y.elim fun es y=>y.elim fun ep y=>cell_ne hc y.1 y.2
   q h' _ (x.one hs l (ok.apart ok.new) ok.new ⟨_,hn'⟩ (fun y c u _ hc=>⟨u,isCell_at hc fun o e=>(hs.2 c (cn hc)).trans e⟩) (.inl ⟨kd hl,_,hn',if_pos rfl⟩) r fun y u ne lo=>lo.imp (fun w=>⟨w.1,w.2.elim fun m' w=>⟨_,hn',(if_neg ne).trans ((congrFun (ns_unique z w.1) y).trans w.2)⟩⟩)
    fun w=>⟨w.1,w.2.elim fun c w=>⟨c,w.1,isCell_at w.2 fun o e=>(hs.2 c (cn w.2)).trans e⟩⟩) l) (by rw [ok.fn];rfl))
  fun hc=>(x.cel n (kd hc)).elim fun c w=>w.2.1.elim fun v0 z=>wpAny_storeName_cell ok.fn (kd hc) w.1 z fun h' hn' hs =>
   have nl:∀ {m},s.heap.Ns F.env.locals m→F.env.locals≠c:=fun hns q=>hns.elim fun o y=>y.elim fun es y=>y.elim fun ep y=>cell_ne z y.1 y.2.1 q.symm
   have l:Lp s.heap h':=fun a j e=>(hs.2 a fun q=>z.elim fun o z=>by cases (q▸e).symm.trans z.1;cases z.2).trans e
   q h' s.toks (x.one hs l (ok.apart w.2.2) w.2.2 (x.ns.elim fun m y=>⟨m,ns_at y fun o e=>(hs.2 _ (nl y)).trans e⟩) (fun y c' u hy hc'=>Decidable.byCases (p:=c'=c) (fun q=>⟨_,q▸hn'⟩) fun q=>⟨u,isCell_at hc' fun o e=>(hs.2 c' q).trans e⟩) (.inr ⟨kd hc,c,w.1,hn'⟩) r
    fun y u ne lo=>lo.imp (fun w=>⟨w.1,w.2.elim fun m' w=>⟨m',ns_at w.1 fun o e=>(hs.2 _ (nl w.1)).trans e,w.2⟩⟩) fun b=>⟨b.1,b.2.elim fun c' b=>⟨c',b.1,isCell_at b.2 fun o e=>(hs.2 c' fun q=>ne (ok.ap y n c (q▸b.1) w.1)).trans e⟩⟩) l
theorem st_local (ok:FcOk C F nm) (hn:nm.lookup n=some .local∨nm.lookup n=some .cell) (he:EvK C F N P k e) (hsw:∀ t line env,swapsWith e t line env=pure false):StK C F N P N ((n,k)::P) (.Assign [.Name n p] e p2):=fun s Q E hE x q =>
 wpAny_Assign_Name (he s _ E x fun v h' tk x _ r=>store_ev ok hn x r fun h2 tk2 x2 _=>q h2 tk2 x2) (hsw _ _ _)
theorem new_none (h:Heap) {n:Nat} (e:h.objs.size≤n):h.get? n=none:=match q:h.get? n with
 | none=>rfl
 | some o=>absurd (Heap.lt_size q) (Nat.not_lt.mpr e)
theorem size2:(2:Nat)≤sizeLine:=by rw [sizeLine_eq];decide
theorem two_ev (ok:FcOk C F nm) (he1:EvK C F N P k1 e1) (he2:EvK C F N P k2 e2) (hs1:noStar e1=true) (hs2:noStar e2=true) {i:Nat} {s:Shared} {Q:Value→Shared→Prop} {E:Value→Shared→Prop} (x:CS C F N P s.heap)
  (q:∀ t v1 v2 h' tk,CS C F N P h'→IsTup h' t #[v1,v2]→VK C k1 h' v1→VK C k2 h' v2→Q (.ref t) { s with heap:=h',toks:=tk }):wpAny (model C.prog C.w) F.A (eval (.Tuple [e1,e2] i p) F.env) Q E s :=
 wpAny_Tuple (wpAny_items_cons (he1 s _ E x fun v1 h1 tk1 x1 _ r1=>wpAny_items_cons (he2 _ _ E x1 fun v2 h2 tk2 x2 l2 r2=>wpAny_items_nil ⟨size2,
  have l:Lp h2 (h2.push { cls:=.type "tuple",data:=.seq [v1,v2].toArray }):=.of_kp (.push _ _)
  q _ v1 v2 _ tk2 (x2.go ok (.push _ _)) ⟨_,Heap.get?_push_size _ rfl,rfl,0,rfl⟩ ((r1.go l2).go l) (r2.go l)⟩) (star_plain hs2)) (star_plain hs1))
theorem two_put (ok:FcOk C F nm) {n1 n2:Str} {v1 v2:Value} (h1:nm.lookup n1=some .local∨nm.lookup n1=some .cell) (h2:nm.lookup n2=some .local∨nm.lookup n2=some .cell) {s:Shared} {Q:Unit→Shared→Prop} {E:Value→Shared→Prop} (x:CS C F N P s.heap) (r1:VK C k1 s.heap v1) (r2:VK C k2 s.heap v2)
  (q:∀ h' tk,CS C F N ((n2,k2)::(n1,k1)::P) h'→Q () { s with heap:=h',toks:=tk }):wpAny (model C.prog C.w) F.A (assignInOrder [fun v=>bindName F.env n1 v,fun v=>bindName F.env n2 v] [v1,v2]) Q E s :=
 assignInOrder_cons (bindName_ (store_ev ok h1 x r1 fun ha tka xa l=>assignInOrder_cons (bindName_ (store_ev ok h2 xa (r2.go l) fun hb tkb xb _=>wpAny_pure (q hb tkb xb)))))
theorem two_put' (ok:FcOk C F nm) {n1 n2:Str} {p1 p2:Pos} {v1 v2:Value} (h1:nm.lookup n1=some .local∨nm.lookup n1=some .cell) (h2:nm.lookup n2=some .local∨nm.lookup n2=some .cell) {s:Shared} {Q:Unit→Shared→Prop} {E:Value→Shared→Prop} (x:CS C F N P s.heap) (r1:VK C k1 s.heap v1) (r2:VK C k2 s.heap v2)
  (q:∀ h' tk,CS C F N ((n2,k2)::(n1,k1)::P) h'→Q () { s with heap:=h',toks:=tk }):wpAny (model C.prog C.w) F.A (assignInOrder [assign (.Name n1 p1) F.env,assign (.Name n2 p2) F.env] [v1,v2]) Q E s :=
 assignInOrder_cons (PyProof.Rows.assign_Name (store_ev ok h1 x r1 fun ha tka xa l=>assignInOrder_cons (PyProof.Rows.assign_Name (store_ev ok h2 xa (r2.go l) fun hb tkb xb _=>wpAny_pure (q hb tkb xb)))))
theorem Kp.ext {d:Addr} (x:Heap.ExtBut d h h') (hd:h.get? d=none):Kp h h':=fun b o e=>x b o (fun q=>nn (hd.symm.trans (q▸e))) e
theorem st_two (ok:FcOk C F nm) {n1 n2:Str} {p0 pa pb pc pd:Pos} {i j:Nat} (h1:nm.lookup n1=some .local∨nm.lookup n1=some .cell) (h2:nm.lookup n2=some .local∨nm.lookup n2=some .cell) (he1:EvK C F N P k1 e1) (he2:EvK C F N P k2 e2) (hs1:noStar e1=true) (hs2:noStar e2=true)
  (hs:∀ line env,swapsWithSole [.Tuple [.Name n1 pa,.Name n2 pb] i pc] (.Tuple [e1,e2] j pd) line env=pure false) (hw:swappedStores [.Tuple [.Name n1 pa,.Name n2 pb] i pc] (.Tuple [e1,e2] j pd) F.env=pure none) :
  StK C F N P N ((n2,k2)::(n1,k1)::P) (.Assign [.Tuple [.Name n1 pa,.Name n2 pb] i pc] (.Tuple [e1,e2] j pd) p0):=fun s Q E hE x q =>
 Assign_Tuple (two_ev ok he1 he2 hs1 hs2 x fun t v1 v2 h1' tk x1 ht r1 r2=>assign_Tuple_tuple ok.hh ht rfl rfl fun h2' hx =>
  have kp:=Kp.ext hx (new_none _ (Nat.le_refl _))
  two_put' ok h1 h2 (x1.go ok kp) (r1.go (.of_kp kp)) (r2.go (.of_kp kp)) fun h3 tk3 x3=>q h3 tk3 x3) (hs _ _) hw
theorem st_two' (ok:FcOk C F nm) {n1 n2:Str} {p0 pa pb pc pd:Pos} {i j:Nat} (h1:nm.lookup n1=some .local∨nm.lookup n1=some .cell) (h2:nm.lookup n2=some .local∨nm.lookup n2=some .cell) (he1:EvK C F N P k1 e1) (he2:EvK C F N P k2 e2) (hs1:noStar e1=true) (hs2:noStar e2=true)
  (hs:∀ line env,swapsWithSole [.Tuple [.Name n1 pa,.Name n2 pb] i pc] (.Tuple [e1,e2] j pd) line env=pure false) (hw:swappedStores [.Tuple [.Name n1 pa,.Name n2 pb] i pc] (.Tuple [e1,e2] j pd) F.env=pure (some [n1,n2])) :
  StK C F N P N ((n1,k1)::(n2,k2)::P) (.Assign [.Tuple [.Name n1 pa,.Name n2 pb] i pc] (.Tuple [e1,e2] j pd) p0):=fun s Q E hE x q =>
 Assign_Tuple_swapped (names:=[n1,n2]) (two_ev ok he1 he2 hs1 hs2 x fun t v1 v2 h1' tk x1 ht r1 r2=>unpackItems_tuple (items:=#[v1,v2]) ok.hh ht fun h2' hx =>
  have kp:=Kp.ext hx (new_none _ (Nat.le_refl _))
  two_put ok h2 h1 (x1.go ok kp) (r2.go (.of_kp kp)) (r1.go (.of_kp kp)) fun h3 tk3 x3=>q h3 tk3 x3) (hs _ _) hw
end
def BiOk (base:Heap):Prop:=∃ mg mb,base.Ns mainGlobals mg∧base.Ns builtinsNs mb∧∀ x∈biNames,mg x.1=none∧mb x.1=some x.2
theorem for0 {prog:Program} {w:World} {A:Around} {tg iter:PySem.Expr} {body:List Stmt} {pos:Pos} {env:Env} {Q:Flow→Shared→Prop} {E:Value→Shared→Prop} {s:Shared} (hh:A.handled=none)
  (h:wpAny (model prog w) A (eval iter env) (fun v s₁=>∃ a,v=.ref a∧s₁.heap.IsList a #[]∧∀ h' tk',Kp s₁.heap h'→Q .next { s₁ with heap:=h',toks:=tk' }) E s)
  (hs:∀ x,foldedSetIterable iter env x=pure x):wpAny (model prog w) A (exec (.For tg iter body [] pos) env) Q E s:=by
 refine wpAny_For (wpAny_mono h (fun v s₁ hh'=>hh'.elim fun a k=>?_) fun _ _ x=>x) hs
 obtain ⟨rfl,hl,hq⟩:=k
 refine wpAny_pyIter_list hl ?_
 have hla:a<s₁.heap.objs.size:=hl.elim fun o e=>Heap.lt_size e.1
 have hne:a≠s₁.heap.objs.size:=Nat.ne_of_lt hla
 have W:=Walks.list (prog:=prog) (w:=w) (A:=A) hh s₁.heap.objs.size a hne #[]
 refine codeAny_forLoop_any (fun m s'=>m=0∧s'={ s₁ with heap:=s₁.heap.push { cls:=.type "list_iterator",data:=.fields #[.ref a,.int 0 0] } }) (fun m s' k=>?_) 0 ⟨rfl,rfl⟩
 obtain ⟨rfl,rfl⟩:=k
 refine W.done { s₁ with heap:=s₁.heap.push { cls:=.type "list_iterator",data:=.fields #[.ref a,.int 0 0] } } _ _ ⟨⟨_,Heap.get?_push_size _ rfl,rfl,rfl⟩,hl.elim fun o e=>⟨o,Heap.get?_push_of_some _ e.1,e.2⟩⟩ fun h' tk' kq=>?_
 exact wpAny_execs_nil (hq h' tk' fun b o e=>kq b o (fun q=>Nat.lt_irrefl _ (Heap.lt_size (List.mem_singleton.mp q▸e))) (Heap.get?_push_of_some _ e))
section
variable {C:Cc} {F:Fc} {N P N' P' N1 P1:List (Str×Nat)} {h h':Heap} {m:Str→Option Value} {v:Value} {k k1 k2:Nat} {nm:List (Str×NameKind)} {n:Str} {e e1 e2:PySem.Expr} {p p' p2 p3:Pos}
theorem EL.isList {a:Addr} {j:Nat} (e:h.get? a=some (W.listOf #[] j)):h.IsList a #[]:=⟨_,e,rfl,j,rfl⟩
theorem st_for {tg:PySem.Expr} {body:List Stmt} (ok:FcOk C F nm) (he:EvK C F N P 1 e) (hs:∀ env x,foldedSetIterable e env x=pure x):StK C F N P N P (.For tg e body [] p):=fun s Q E hE x q =>
 for0 ok.hh (he s _ E x fun v h' tk x _ r=>r.elim fun a r=>r.elim fun j r=>⟨a,r.1,EL.isList r.2,fun h2 tk2 kp=>q h2 tk2 (x.go ok kp)⟩) (hs _)
theorem ek_bi (bi:BiOk C.base) (co:CcOk C) (ok:FcOk C F nm) (hg1:F.env.globals=mainGlobals) (hg2:F.env.builtins=builtinsNs) {y:Str×Value} (hy:y∈biNames) (hg:nm.lookup y.1=some .globalImplicit) (he:EvK C F N P 1 e) (hs:noStar e=true)
  (hc:∀ (s:Shared) (a j:Nat) (Q:Value→Shared→Prop) (E:Value→Shared→Prop),s.heap.get? a=some (W.listOf #[] j)→(∀ v h' tk,Kp s.heap h'→VK C k h' v→Q v { s with heap:=h',toks:=tk })→wpAny (model C.prog C.w) F.A (call y.2 [.ref a]) Q E s) :
  EvK C F N P k (.Call (.Name y.1 p) [e] [] p'):=fun s Q E x q=>bi.elim fun mg z=>z.elim fun mb z =>
 have kb:Kp C.base s.heap:=fun b o e=>x.k0 b o (fun q=>nn (co.dx.symm.trans (q▸e))) (ok.h0 b o e)
 have c:wpAny (model C.prog C.w) F.A (spliced (backTo p' (starEach [e] F.env))) (fun vs s1=>wpAny (model C.prog C.w) F.A (call y.2 vs) Q E s1) E s:=wpAny_items_cons (he s _ E x fun v h1 tk1 x1 l1 r=>wpAny_items_nil (r.elim fun a r=>r.elim fun j r=>r.1.symm▸hc _ a j Q E r.2 fun v h2 tk2 k2 r2=>q v h2 tk2 (x1.go ok k2) (fun a n e=>k2 a _ (l1 a n e)) r2)) (star_plain hs)
 wpAny_Call_ofName (PySem.Calls.Name_function_global ok.fn (show F.env.scope.names.lookup _=_ from ok.nm▸hg) (PySem.Calls.loadGlobal_builtin (hg1.symm▸ns_at z.1 (kb _)) (z.2.2 y hy).1 (hg2.symm▸ns_at z.2.1 (kb _)) (z.2.2 y hy).2
  ((bi_kind y hy).elim (fun i=>i.elim fun i q=>by
   rw [q] at c ⊢
   exact PyProof.Rows.callWith_builtin1 c (star_plain hs)) fun t=>t.elim fun t q=>by
   rw [q] at c ⊢
   exact PyProof.Rows.callWith_type1 c (star_plain hs))) (bi_ne y hy))
theorem ek_copy (bi:BiOk C.base) (co:CcOk C) (ok:FcOk C F nm) (hg1:F.env.globals=mainGlobals) (hg2:F.env.builtins=builtinsNs) (hg:nm.lookup ("list":Str)=some .globalImplicit) (he:EvK C F N P 1 e) (hs:noStar e=true):EvK C F N P 1 (.Call (.Name "list" p) [e] [] p') :=
 ek_bi (y:=("list",.type "list")) bi co ok hg1 hg2 (List.mem_iff_getElem?.mpr ⟨3,rfl⟩) hg he hs fun s a j Q E e q=>call_list_seq a (.inl rfl) e rfl rfl (fun h' c' kp g=>q _ h' s.toks kp ⟨_,c',rfl,g⟩) (Nat.zero_le _)
theorem ek_len (bi:BiOk C.base) (co:CcOk C) (ok:FcOk C F nm) (hg1:F.env.globals=mainGlobals) (hg2:F.env.builtins=builtinsNs) (hg:nm.lookup ("len":Str)=some .globalImplicit) (he:EvK C F N P 1 e) (hs:noStar e=true):EvK C F N P 2 (.Call (.Name "len" p) [e] [] p') :=
 ek_bi (y:=("len",.builtin "len")) bi co ok hg1 hg2 (List.mem_iff_getElem?.mpr ⟨1,rfl⟩) hg he hs fun s a j Q E e q=>PySem.Calls.call_len_list (EL.isList e) (by decide) (q _ s.heap _ (fun _ _ e=>e) ⟨_,rfl⟩)
theorem st_while {body:List Stmt} {i:Nat} (he:EvK C F N P 2 e) (hm:behindInMarks .Gt (.Constant (.int 0) i p)=false):StK C F N P N P (.While (.Compare e [.Gt] [.Constant (.int 0) i p] p') body [] p2):=fun s Q E hE x q =>
 whl_start 1 (whl_turn (k:=0) hE (wpAny_isTrue_Compare1 (he s _ E x fun v h' tk x _ r=>r.elim fun t r=>r.symm▸wpAny_Constant_int (gt_int (wpAny_truthy_bool (WhlIf.no rfl (wpAny_execs_nil (q h' _ x)))))) hm))
def Par (C:Cc) (P:List (Str×Nat)) (h:Heap) (kindOf:Str→Option NameKind) (binds:List (Str×Value)):Prop:=∀ n k,P.lookup n=some k→∃ v,((kindOf n=some .local∧bindL kindOf binds (fun _=>none) n=some v)∨(kindOf n=some .cell∧bindC kindOf binds (fun _=>none) n=some v))∧VK C k h v
theorem fn_enter (co:CcOk C) (lim:C.base.NoLimit) {A:Around} {s:Shared} {R:Result→Shared→Prop} {f:Addr} {oc:Value} {od:Option Addr} {osl:Array (Option Value)} {fd:FuncData} {body:List Stmt} {vals:List Value} {binds:List (Str×Value)}
  (ho:C.K.lookup f=some ⟨oc,od,.func fd,osl⟩) (hb:fd.body=.stmts body) (hclo:fd.closure=[]) (hcd:codeIn C.K fd.code fd.qualname=true) (hbind:bindArgs fd ⟨vals,[]⟩=pure binds) (hnd:(fd.scope.names.map (·.1)).Nodup) (hloc:∀ x∈binds,fd.scope.names.lookup x.1=some .local∨fd.scope.names.lookup x.1=some .cell)
  (hco:fd.scope.isCoroutine=false) (hgen:fd.scope.isGenerator=false) (hk:fd.scope.kind=.function) (hd:A.depth<recursionLimit) (hh:A.handled=none) (kb:Kp C.base s.heap) (os:OS C N s.heap) (hP:Par C P s.heap (callEnvC fd s.heap.objs.size f).kindOf binds)
  (hf:∀ F:Fc,FcOk C F fd.scope.names→F.A.depth=A.depth+1→F.env=callEnvC fd s.heap.objs.size f→FnK C F N P N' k body)
  (hR:∀ v h' tk,(∀ b o,b≠C.dx→s.heap.get? b=some o→h'.get? b=some o)→OS C N' h'→VK C k h' v→R (.ok (.ret v)) { s with heap:=h',toks:=tk }):codeAny (model C.prog C.w) A (.call (.ref f) ⟨vals,[]⟩) R s :=
 have lk:=cell_look (L:=s.heap.objs.size+1) hnd
 have fresh:∀ {c},s.heap.objs.size≤c→s.heap.get? c=none:=fun h=>new_none _ h
 codeAny_call_cells hd (kb _ _ (co.K _ _ ho)) rfl (lim.keeps kb) (codeRec_at (codeRec_of co.K hcd) kb) hb hbind hclo
  (fun y hy=>(hloc y hy).imp id fun w=>⟨w,(lk.2 _ w).elim fun c h=>h▸rfl⟩) (fun s1 X=>by
   obtain ⟨h1,tk1,rfl,kp⟩:=X.done
   exact hf ⟨A.deeper (callEnvC fd s.heap.objs.size f),callEnvC fd s.heap.objs.size f,s.heap⟩
    ⟨hk,rfl,hh,kb,os.elim fun m z=>⟨_,z.1.obj⟩,os.elim fun m z=>ns_has z.1.ns.ns,fresh (Nat.le_refl _),fun n n' c h h'=>name_of_addr X.apart (mem_of_lookup h) (mem_of_lookup h')⟩ rfl rfl _ _ _ PassesOwn.leaving
    ⟨fun b o _ e=>kp b o e,os.go kp,⟨_,X.toInCall.ns⟩,fun n hn=>(lk.2 n hn).elim fun c hc=>⟨c,hc,⟨_,X.cell n c hc⟩,fresh (Nat.le_of_lt (X.above n c (mem_of_lookup hc)))⟩,
     fun n k e=>(hP n k e).elim fun v z=>⟨v,z.1.elim (fun w=>.inl ⟨w.1,_,X.toInCall.ns,w.2⟩) fun w=>.inr ⟨w.1,(lk.2 n w.1).elim fun c hc=>⟨c,hc,(congrArg (Heap.IsCell h1 c) w.2).mp (X.cell n c hc)⟩⟩,z.2.go (.of_kp kp)⟩⟩
    fun fl h' tk x r=>match fl,r with
    | .ret v,r=>hR v h' tk x.k0 x.os r
    | .next,r | .brk,r | .cont,r=>hR .none h' tk x.k0 x.os r) hco hgen hk
end
theorem sw0 {v:PySem.Expr} (h:noComp v=true) (t:Option PySem.Expr) (line:Nat) (env:Env):swapsWith v t line env=pure false:=by cases v <;> first | exact rfl | exact nb h
section
variable {C:Cc} {F:Fc} {N P N':List (Str×Nat)} {k:Nat} {nm:List (Str×NameKind)}
theorem pf_ok {q1 q2 q3 q4 q5 q6 q7 q8 q9 q10 q11 q12 q13 q14 q15 q16 q17 q18:Pos} {i1:Nat} {bd1:List Stmt} {j1 j2:Nat} (co:CcOk C) (bi:BiOk C.base) (ok:FcOk C F nm) (g1:F.env.globals=mainGlobals) (g2:F.env.builtins=builtinsNs) (hN:N.lookup ("stands":Str)=some 1) (ha:findIn C.K (.ref C.c) "stands"=some none)
  (h1:nm.lookup ("found":Str)=some .cell) (h2:nm.lookup ("rest":Str)=some .local) (h3:nm.lookup ("list":Str)=some .globalImplicit) (h4:nm.lookup ("len":Str)=some .globalImplicit) (hw:swappedStores [.Tuple [.Name "found" q1,.Name "rest" q2] j1 q3] (.Tuple [(.List [] q4),.Call (.Name "list" q5) [(.Attribute (.Name "self" q6) "stands" q7)] [] q8] j2 q9) F.env=pure none):FnK C F N [("self",3)] N 1 [.Assign [.Tuple [.Name "found" q1,.Name "rest" q2] j1 q3] (.Tuple [(.List [] q4),.Call (.Name "list" q5) [(.Attribute (.Name "self" q6) "stands" q7)] [] q8] j2 q9) q10,
  .While (.Compare (.Call (.Name "len" q11) [.Name "rest" q12] [] q13) [.Gt] [.Constant (.int 0) i1 q14] q15) bd1 [] q16,
  .Return (some (.Name "found" q17)) q18] :=
 fk_cons (st_two ok (.inr h1) (.inl h2) (ek_list ok) (ek_copy bi co ok g1 g2 h3 (ek_attr co ok rfl hN ha) rfl) rfl rfl (fun _ _=>rfl) hw) (fk_cons (st_while (ek_len bi co ok g1 g2 h4 (ek_name ok rfl rfl) rfl) rfl) (fk_ret rfl (ek_name ok rfl rfl)))
theorem af_ok {q1 q2 q3 q4 q5 q6 q7 q8 q9 q10 q11 q12:Pos} {i1:Nat} {tg9:PySem.Expr} {bd9:List Stmt} {j1 j2:Nat} (co:CcOk C) (ok:FcOk C F nm) (hN:N.lookup ("ordered":Str)=some 1) (ha:findIn C.K (.ref C.c) "ordered"=some none)
  (h1:nm.lookup ("found":Str)=some .local) (h2:nm.lookup ("group":Str)=some .local) (hw:swappedStores [.Tuple [.Name "found" q1,.Name "group" q2] j1 q3] (.Tuple [(.List [] q4),.Constant (.int 0) i1 q5] j2 q6) F.env=pure (some [("found":Str),"group"])):FnK C F N [("self",3)] N 1 [.Assign [.Tuple [.Name "found" q1,.Name "group" q2] j1 q3] (.Tuple [(.List [] q4),.Constant (.int 0) i1 q5] j2 q6) q7,
  .For tg9 (.Attribute (.Name "self" q8) "ordered" q9) bd9 [] q10,
  .Return (some (.Name "found" q11)) q12] :=
 fk_cons (st_two' ok (.inl h1) (.inl h2) (ek_list ok) (ek_zero (C:=C)) rfl rfl (fun _ _=>rfl) hw) (fk_cons (st_for ok (ek_attr co ok rfl hN ha) fun _ _=>rfl) (fk_ret rfl (ek_name ok rfl rfl)))
theorem lf_ok {q1 q2 q3 q4 q5 q6:Pos} {tg5:PySem.Expr} {bd5:List Stmt} (co:CcOk C) (ok:FcOk C F nm) (hN:N.lookup ("own_fields":Str)=some 1) (ha:findIn C.K (.ref C.c) "own_fields"=some none) (h1:nm.lookup ("seen":Str)=some .local):FnK C F N [("self",3)] N 4 [.Assign [.Name "seen" q1] (.Dict [] [] q2) q3,.For tg5 (.Attribute (.Name "self" q4) "own_fields" q5) bd5 [] q6] :=
 fk_cons (st_local ok (.inl h1) (ek_dict ok) (sw0 rfl)) (fk_cons (st_for ok (ek_attr co ok rfl hN ha) fun _ _=>rfl) fk_nil)
noncomputable abbrev sigNs:List Str:=["entries","stands","opened","ordered","own_fields"]
structure ClsAt (K:Frag) (c:Addr) (ns:List Str) (ms:List (Str×Addr)):Prop where
 no:∀ n∈ns,findIn K (.ref c) n=some none
 fn:∀ y∈ms,findIn K (.ref c) y.1=some (some (.ref y.2))∧isFn K (.ref y.2)=true∧keepIn K (.ref y.2)=true
theorem si_ok {q1 q2 q3 q4 q5 q6 q7 q8 q9 q10 q11 q12 q13 q14 q15 q16 q17 q18 q19 q20 q21 q22 q23 q24 q25 q26 q27 q28 q29 q30 q31 q32 q33 q34 q35:Pos} {tg13 tg16 tg34:PySem.Expr} {bd13 bd16 bd34:List Stmt} {f1 f2 f3:Addr} (co:CcOk C) (ok:FcOk C F nm) (hns:C.ns=sigNs) (hc:ClsAt C.K C.c sigNs [("parents_first",f1),("all_fields",f2),("look_fields",f3)]) (hd:F.A.depth<recursionLimit) (hi:interactive F.env=false) (l1:(q19.endLine == q20.line)=true) (l2:(q25.endLine == q26.line)=true) (l3:(q31.endLine == q32.line)=true)
  (m1:MethK C [("opened",1),("stands",1),("entries",0)] [("opened",1),("stands",1),("entries",0)] 1 f1) (m2:MethK C [("ordered",1),("opened",1),("stands",1),("entries",0)] [("ordered",1),("opened",1),("stands",1),("entries",0)] 1 f2)
  (m3:MethK C [("own_fields",1),("ordered",1),("opened",1),("stands",1),("entries",0)] [("own_fields",1),("ordered",1),("opened",1),("stands",1),("entries",0)] 4 f3):FnK C F [] [("self",3),("items",1)] [("own_fields",1),("ordered",1),("opened",1),("stands",1),("entries",0)] 4 [.Assign [(.Attribute (.Name "self" q2) "entries" q3)] (.Dict [] [] q1) q4,
  .Assign [(.Attribute (.Name "self" q6) "stands" q7)] (.List [] q5) q8,
  .Assign [(.Attribute (.Name "self" q10) "opened" q11)] (.List [] q9) q12,
  .For tg13 (.Name "items" q13) bd13 [] q14,
  .For tg16 (.Attribute (.Name "self" q15) "stands" q16) bd16 [] q17,
  .Assign [(.Attribute (.Name "self" q21) "ordered" q22)] (.Call (.Attribute (.Name "self" q18) "parents_first" q19) [] [] q20) q23,
  .Assign [(.Attribute (.Name "self" q27) "own_fields" q28)] (.Call (.Attribute (.Name "self" q24) "all_fields" q25) [] [] q26) q29,
  .Expr (.Call (.Attribute (.Name "self" q30) "look_fields" q31) [] [] q32) q33,
  .For tg34 (.Name "items" q34) bd34 [] q35] :=
 have no:=hc.no
 have m:∀ {n},n∈sigNs→n∈C.ns:=fun h=>hns.symm▸h
 have nm:∀ {n},n∉sigNs→n∉C.ns:=fun h=>hns.symm▸h
 have a1:("entries":Str)∈sigNs:=.head _
 have a2:("stands":Str)∈sigNs:=.tail _ (.head _)
 have a3:("opened":Str)∈sigNs:=.tail _ (.tail _ (.head _))
 have a4:("ordered":Str)∈sigNs:=.tail _ (.tail _ (.tail _ (.head _)))
 have a5:("own_fields":Str)∈sigNs:=.tail _ (.tail _ (.tail _ (.tail _ (.head _))))
 have c1:=hc.fn ("parents_first",f1) (.head _)
 have c2:=hc.fn ("all_fields",f2) (.tail _ (.head _))
 have c3:=hc.fn ("look_fields",f3) (.tail _ (.tail _ (.head _)))
 fk_cons (st_set co ok rfl (ek_dict ok) (no _ a1) (m a1) (sw0 rfl)) (fk_cons (st_set co ok rfl (ek_list ok) (no _ a2) (m a2) (sw0 rfl)) (fk_cons (st_set co ok rfl (ek_list ok) (no _ a3) (m a3) (sw0 rfl))
  (fk_cons (st_for ok (ek_name ok rfl rfl) fun _ _=>rfl) (fk_cons (st_for ok (ek_attr co ok rfl rfl (no _ a2)) fun _ _=>rfl)
  (fk_cons (st_set co ok rfl (ek_call co ok rfl m1 hd c1.1 c1.2.1 c1.2.2 (nm (by decide)) l1) (no _ a4) (m a4) (sw0 rfl)) (fk_cons (st_set co ok rfl (ek_call co ok rfl m2 hd c2.1 c2.2.1 c2.2.2 (nm (by decide)) l2) (no _ a5) (m a5) (sw0 rfl))
  (fk_cons (st_expr (ek_call co ok rfl m3 hd c3.1 c3.2.1 c3.2.2 (nm (by decide)) l3) hi (sw0 rfl)) (fk_cons (st_for ok (ek_name ok rfl rfl) fun _ _=>rfl) fk_nil))))))))
theorem ni_ok {q1 q2 q3 q4 q5 q6 q7 q8 q9 q10 q11 q12 q13 q14 q15 q16 q17 q18 q19 q20 q21 q22 q23 q24 q25 q26:Pos} {i22:Nat} {tg21:PySem.Expr} {bd21:List Stmt} (co:CcOk C) (ok:FcOk C F nm) (hns:C.ns=opNames) (no:∀ n∈opNames,findIn C.K (.ref C.c) n=some none):FnK C F [] [("self",3),("signatures",0),("kinds",0),("items",1),("numbers",0)] [("count",2),("calls",0),("numbers",0),("items",1),("kinds",0),("signatures",0)] 4 [.Assign [(.Attribute (.Name "self" q2) "signatures" q3)] (.Name "signatures" q1) q4,
  .Assign [(.Attribute (.Name "self" q6) "kinds" q7)] (.Name "kinds" q5) q8,
  .Assign [(.Attribute (.Name "self" q10) "items" q11)] (.Name "items" q9) q12,
  .Assign [(.Attribute (.Name "self" q14) "numbers" q15)] (.Name "numbers" q13) q16,
  .Assign [(.Attribute (.Name "self" q18) "calls" q19)] (.Dict [] [] q17) q20,
  .For tg21 (.Name "items" q21) bd21 [] q22,
  .Assign [(.Attribute (.Name "self" q24) "count" q25)] (.Constant (.int 0) i22 q23) q26] :=
 have m:∀ {n},n∈opNames→n∈C.ns:=fun h=>hns.symm▸h
 have a:∀ i n,opNames[i]?=some n→n∈opNames:=fun i n e=>List.mem_of_getElem? e
 fk_cons (st_set co ok rfl (ek_name ok rfl rfl) (no _ (a 0 _ rfl)) (m (a 0 _ rfl)) (sw0 rfl)) (fk_cons (st_set co ok rfl (ek_name ok rfl rfl) (no _ (a 1 _ rfl)) (m (a 1 _ rfl)) (sw0 rfl)) (fk_cons (st_set co ok rfl (ek_name ok rfl rfl) (no _ (a 2 _ rfl)) (m (a 2 _ rfl)) (sw0 rfl))
  (fk_cons (st_set co ok rfl (ek_name ok rfl rfl) (no _ (a 3 _ rfl)) (m (a 3 _ rfl)) (sw0 rfl)) (fk_cons (st_set co ok rfl (ek_dict ok) (no _ (a 4 _ rfl)) (m (a 4 _ rfl)) (sw0 rfl)) (fk_cons (st_for ok (ek_name ok rfl rfl) fun _ _=>rfl)
  (fk_cons (st_set co ok rfl (ek_zero (C:=C)) (no _ (a 5 _ rfl)) (m (a 5 _ rfl)) (sw0 rfl)) fk_nil))))))
theorem oi_ok {q1 q2 q3 q4 q5 q6 q7 q8 q9 q10 q11 q12:Pos} {i0 i4 i8:Nat} (co:CcOk C) (ok:FcOk C F nm) (hns:C.ns=opNames) (no:∀ n∈opNames,findIn C.K (.ref C.c) n=some none) (hP:P.lookup ("self":Str)=some 3):FnK C F N P (("peak",2)::("height",2)::("spent",2)::N) 4 [.Assign [(.Attribute (.Name "self" q2) "spent" q3)] (.Constant (.int 0) i0 q1) q4,
  .Assign [(.Attribute (.Name "self" q6) "height" q7)] (.Constant (.int 0) i4 q5) q8,
  .Assign [(.Attribute (.Name "self" q10) "peak" q11)] (.Constant (.int 0) i8 q9) q12] :=
 have m:∀ {n},n∈opNames→n∈C.ns:=fun h=>hns.symm▸h
 have a:∀ i n,opNames[i]?=some n→n∈opNames:=fun i n e=>List.mem_of_getElem? e
 fk_cons (st_set co ok hP (ek_zero (C:=C)) (no _ (a 6 _ rfl)) (m (a 6 _ rfl)) (sw0 rfl)) (fk_cons (st_set co ok hP (ek_zero (C:=C)) (no _ (a 7 _ rfl)) (m (a 7 _ rfl)) (sw0 rfl)) (fk_cons (st_set co ok hP (ek_zero (C:=C)) (no _ (a 8 _ rfl)) (m (a 8 _ rfl)) (sw0 rfl)) fk_nil))
end
structure FdAt (K:Frag) (f:Addr) (ps:List Str) (fd:FuncData) (body:List Stmt):Prop where
 ho:∃ oc od osl,K.lookup f=some ⟨oc,od,.func fd,osl⟩
 hb:fd.body=.stmts body
 hclo:fd.closure=[]
 hcd:codeIn K fd.code fd.qualname=true
 hbind:∀ vals:List Value,vals.length=ps.length→bindArgs fd ⟨vals,[]⟩=pure (ps.zip vals)
 hnd:(fd.scope.names.map (·.1)).Nodup
 hloc:∀ x∈ps,fd.scope.names.lookup x=some .local∨fd.scope.names.lookup x=some .cell
 hco:fd.scope.isCoroutine=false
 hgen:fd.scope.isGenerator=false
 hk:fd.scope.kind=.function
 hg:fd.globals=mainGlobals
 hbi:fd.builtins=builtinsNs
section
variable {C:Cc} {F:Fc} {N P N':List (Str×Nat)} {k:Nat} {f:Addr} {fd:FuncData} {body:List Stmt} {n:Str} {v:Value}
theorem bindL_other {kindOf:Str→Option NameKind}:∀ {l:List (Str×Value)} {m:Str→Option Value},n∉l.map (·.1)→bindL kindOf l m n=m n
 | [],_,_=>rfl
 | (a,v)::r,m,h=>(bindL_other (l:=r) fun q=>h (.tail _ q)).trans (if_is (P:=fun g:Str→Option Value=>g n=m n) (fun _=>if_neg fun q=>h (List.mem_cons.mpr (.inl q))) fun _=>rfl)
theorem bindC_other {kindOf:Str→Option NameKind}:∀ {l:List (Str×Value)} {m:Str→Option Value},n∉l.map (·.1)→bindC kindOf l m n=m n
 | [],_,_=>rfl
 | (a,v)::r,m,h=>(bindC_other (l:=r) fun q=>h (.tail _ q)).trans (if_is (P:=fun g:Str→Option Value=>g n=m n) (fun _=>rfl) fun _=>if_neg fun q=>h (List.mem_cons.mpr (.inl q)))
theorem par_at {kindOf:Str→Option NameKind}:∀ {l:List (Str×Value)} {m cm:Str→Option Value},(l.map (·.1)).Nodup→∀ y∈l,(kindOf y.1=some .local∨kindOf y.1=some .cell)→(kindOf y.1=some .local∧bindL kindOf l m y.1=some y.2)∨(kindOf y.1=some .cell∧bindC kindOf l cm y.1=some y.2)
 | (a,v)::r,m,cm,nd,y,hy,hk=>(List.mem_cons.mp hy).elim (fun q=>by
   subst q
   have nd:=(List.nodup_cons.mp nd).1
   refine hk.imp (fun h=>⟨h,(bindL_other nd).trans ?_⟩) fun h=>⟨h,(bindC_other nd).trans ?_⟩
   ·rw [if_pos h];exact if_pos rfl
   ·rw [if_neg (fun q=>absurd (Option.some.inj (h.symm.trans q)) (by decide):¬ kindOf a=some .local)];exact if_pos rfl)
  fun hy=>par_at (List.nodup_cons.mp nd).2 y hy hk
theorem par_of {kindOf:Str→Option NameKind} {h:Heap} (l:List (Str×Nat×Value)) (nd:((l.map fun y=>(y.1,y.2.2)).map (·.1)).Nodup) (hk:∀ y∈l,kindOf y.1=some .local∨kindOf y.1=some .cell) (hv:∀ y∈l,VK C y.2.1 h y.2.2):Par C (l.map fun y=>(y.1,y.2.1)) h kindOf (l.map fun y=>(y.1,y.2.2)):=fun n k e =>
 (List.mem_map.mp (look_in e)).elim fun y q=>by
  cases q.2
  exact ⟨y.2.2,par_at nd _ (List.mem_map.mpr ⟨y,q.1,rfl⟩) (hk y q.1),hv y q.1⟩
theorem meth_of (co:CcOk C) (lim:C.base.NoLimit) (D:FdAt C.K f ["self"] fd body) (hf:∀ F:Fc,FcOk C F fd.scope.names→F.env=callEnvC fd F.env.locals f→FnK C F N [("self",3)] N' k body):MethK C N N' k f:=fun A s R hd hh kb os hR =>
 D.ho.elim fun oc z=>z.elim fun od z=>z.elim fun osl z=>fn_enter co lim z D.hb D.hclo D.hcd (D.hbind [.ref C.x] rfl) D.hnd (fun y hy=>List.mem_singleton.mp hy▸D.hloc _ (.head _)) D.hco D.hgen D.hk hd hh kb os (par_of [("self",3,.ref C.x)] (List.nodup_cons.mpr ⟨List.not_mem_nil,.nil⟩) (fun y hy=>List.mem_singleton.mp hy▸D.hloc _ (.head _)) fun y hy=>List.mem_singleton.mp hy▸rfl)
  (fun F ok _ e=>hf F ok (e.trans (congrArg (fun L=>callEnvC fd L f) (congrArg Env.locals e).symm))) hR
end
theorem make_ob {prog:Program} {w:World} {K:Frag} {base:Heap} {c fI:Addr} {ns:List Str} {N':List (Str×Nat)} {A:Around} {s:Shared} {rest:List Value} {Q:Value→Shared→Prop} {E:Value→Shared→Prop} (X:K.In base) (kb:Kp base s.heap) (hm:makesIn K c=true)
  (hi:findIn K (.ref c) "__init__"=some (some (.ref fI))) (hf:isFn K (.ref fI)=true)
  (hc:∀ (x dx:Addr) (s':Shared) (R:Result→Shared→Prop),s.heap.objs.size≤dx→Kp s.heap s'.heap→OS ⟨prog,w,K,base,x,dx,c,ns⟩ [] s'.heap →
   (∀ h' tk,(∀ b o,b≠dx→s'.heap.get? b=some o→h'.get? b=some o)→OS ⟨prog,w,K,base,x,dx,c,ns⟩ N' h'→R (.ok (.ret .none)) { s' with heap:=h',toks:=tk })→codeAny (model prog w) (A.under (.builtin "type.__call__" ⟨.ref c::rest,[]⟩)) (.call (.ref fI) ⟨.ref x::rest,[]⟩) R s')
  (hQ:∀ x dx h' tk,Kp s.heap h'→s.heap.get? x=none→s.heap.get? dx=none→OS ⟨prog,w,K,base,x,dx,c,ns⟩ N' h'→Q (.ref x) { s with heap:=h',toks:=tk }):wpAny (model prog w) A (call (.ref c) rest) Q E s:=by
 have X0:K.In s.heap:=fun a o e=>kb a o (X a o e)
 obtain ⟨h0,g,d,t,os⟩:=s
 have hd:((h0.push emptyDict).push (instObj c h0.objs.size)).get? h0.objs.size=some (dictOf [] 0):=Heap.get?_push_of_some _ (Heap.get?_push_size _ rfl)
 have sz:(h0.push emptyDict).objs.size=h0.objs.size+1:=Heap.size_push _ _
 have hx:((h0.push emptyDict).push (instObj c h0.objs.size)).get? (h0.objs.size+1)=some (instObj c h0.objs.size):=sz▸Heap.get?_push_size _ rfl
 have kp:Kp h0 ((h0.push emptyDict).push (instObj c h0.objs.size)):=fun b o e=>Heap.get?_push_of_some _ (Heap.get?_push_of_some _ e)
 exact wpAny_call (make_core (makes_of X0 hm) (looks_findIn X0 hi) (fun self=>bind_fn X0 self (beq_iff_eq.mp hf)) (.inl rfl)
  (hc (h0.objs.size+1) h0.objs.size _ _ (Nat.le_refl _) kp
   ⟨fun _=>none,⟨hx,⟨_,#[],0,hd,rfl,fun e he=>absurd he (Array.not_mem_empty _),List.Pairwise.nil,fun _=>rfl⟩⟩,fun y h=>absurd rfl h,fun n k e=>nn e⟩
   fun h' tk k o=>⟨rfl,hQ _ _ h' tk (fun b o e=>k b o (Nat.ne_of_lt (Heap.lt_size e)) (kp b o e)) (new_none _ (Nat.le_succ _)) (new_none _ (Nat.le_refl _)) o⟩))
theorem none_of {base h:Heap} {a:Addr} (kb:Kp base h) (e:h.objs.size≤a):base.get? a=none:=match q:base.get? a with
 | none=>rfl
 | some o=>absurd (Heap.lt_size (kb _ _ q)) (Nat.not_lt.mpr e)
theorem Kp.trans {h1 h2 h3:Heap} (k:Kp h1 h2) (k':Kp h2 h3):Kp h1 h3:=fun b o e=>k' b o (k b o e)
theorem sig_make {prog:Program} {w:World} {K:Frag} {base:Heap} {c fI:Addr} {ns:List Str} {N':List (Str×Nat)} {A:Around} {s:Shared} {l:Addr} {fd:FuncData} {body:List Stmt} {Q:Value→Shared→Prop} {E:Value→Shared→Prop} (X:K.In base) (kb:Kp base s.heap) (lim:base.NoLimit) (cls:PlainCls K c) (few:ns.length≤1000) (hm:makesIn K c=true)
  (hi:findIn K (.ref c) "__init__"=some (some (.ref fI))) (hf:isFn K (.ref fI)=true) (D:FdAt K fI ["self","items"] fd body) (hu:∀ y r,(A.under (.builtin "type.__call__" ⟨.ref y::r,[]⟩)).depth+1<recursionLimit∧(A.under (.builtin "type.__call__" ⟨.ref y::r,[]⟩)).handled=none) (hl:EL s.heap (.ref l))
  (hb:∀ (x dx:Addr) (F:Fc),CcOk ⟨prog,w,K,base,x,dx,c,ns⟩→FcOk ⟨prog,w,K,base,x,dx,c,ns⟩ F fd.scope.names→F.A.depth<recursionLimit→F.env=callEnvC fd F.env.locals fI→FnK ⟨prog,w,K,base,x,dx,c,ns⟩ F [] [("self",3),("items",1)] N' 4 body)
  (hQ:∀ x h' tk,Kp s.heap h'→Q (.ref x) { s with heap:=h',toks:=tk }):wpAny (model prog w) A (call (.ref c) [.ref l]) Q E s :=
 make_ob X kb hm hi hf (fun x dx s' R hsz kp os hR =>
  have co:CcOk ⟨prog,w,K,base,x,dx,c,ns⟩:=⟨X,cls,none_of kb hsz,few⟩
  D.ho.elim fun oc z=>z.elim fun od z=>z.elim fun osl z=>fn_enter co lim z D.hb D.hclo D.hcd (D.hbind [.ref x,.ref l] rfl) D.hnd (fun y hy=>D.hloc _ (List.of_mem_zip (a:=y.1) (b:=y.2) hy).1) D.hco D.hgen D.hk (Nat.lt_of_succ_lt (hu _ _).1) (hu _ _).2 (kb.trans kp) os
   (par_of [("self",3,.ref x),("items",1,.ref l)] (by decide:([("self":Str),"items"]:List Str).Nodup) (fun y hy=>D.hloc _ ((List.mem_map (f:=fun y:Str×Nat×Value=>y.1)).mpr ⟨y,hy,rfl⟩)) fun y hy=>(List.mem_cons.mp hy).elim (fun q=>q▸rfl) fun hy=>List.mem_singleton.mp hy▸VK.go (k:=1) (.of_kp kp) hl)
   (fun F ok hd' e=>hb x dx F co ok (hd'.symm▸(hu _ _).1) (e.trans (congrArg (fun L=>callEnvC fd L fI) (congrArg Env.locals e).symm))) fun v h' tk k o r=>(show v=.none from r)▸hR h' tk k o) fun x dx h' tk k _ _ _=>hQ x h' tk k
structure SupAt (prog:Program) (K:Frag) (c cda cc D f2:Addr) (scope:Scope):Prop where
 code:∃ ccl cdd vs ccs file tf,K.lookup cda=some ⟨ccl,cdd,.fields vs,ccs⟩∧vs[2]?=some (.str file tf)∧((prog.main.file:Str) == file)=true
 cell:∃ cl cld csl,K.lookup cc=some ⟨cl,cld,.cell (some (.ref D)),csl⟩
 cls:∃ cd,clsIn K D=some cd
 sub:mroIn K c (.ref D)=some true
 sup:nsIn K mainGlobals "super"=some none
 top:(prog.main.scope.names.lookup ("super":Str)).isSome=false
 any:nsIn K cStatics "thirdparty.any"=some none
 meth:ks_superIn K c D "__init__"=some (some (.ref f2))
 fn:typeIn K (.ref f2)=some (.type "function")
 fn':fnIn K f2=true
 hks:scope.names.lookup ("super":Str)=some .globalImplicit
 hkc:scope.names.lookup ("__class__":Str)=some .free
 hka:scope.names.lookup ("self":Str)=some .local
 hco:scope.isCoroutine=false
 hgen:scope.isGenerator=false
 hk:scope.kind=.function
 hcell:∀ x∈scope.names,x.2≠.cell
theorem call_eq {o:PySem.Expr} {name:Str} {apos pos:Pos} {args:List PySem.Expr} {env:Env} (hs:∀ e∈args,noStar e=true) (h30:args.length<30) (hl:(apos.endLine == pos.line)=true):eval (.Call (.Attribute o name apos) args [] pos) env=(do
  let ov ← attributeBase o name env (eval o env)
  standAt apos.atName
  let (f,first) ← holding [ov] (getMethod ov name (do return (← importBound o env).getD true))
  callWith pos f first (backTo pos (starEach args env)) []):=by
 rw [arm_eval_Call]
 unfold methodCall
 rw [form_of hs h30]
 simp only [line_of hl,pure_bind]
 rfl
noncomputable abbrev opPs:List Str:=["self","signatures","kinds","items","numbers"]
theorem op_enter {prog p:Program} {loose:List Str} {mean:ExcName→Option Value} {mg mb:Str→Option Value} {w:World} {K:Frag} {base:Heap} {x dx c f f2 cda cc D:Addr} {ns:List Str} {N1 N':List (Str×Nat)} {A:Around} {s:Shared} {R:Result→Shared→Prop} {v1 v2 v3 v4:Value} {oc:Value} {od:Option Addr} {osl:Array (Option Value)}
  {name qual:Str} {params:Arguments} {scope:Scope} {dV kV doc pm ct:Value} {an:Option Addr} {rest:List Stmt} {ar:Arg} {q0 q1 q2 q3 q4 q5 q6 q7 q8:Pos}
  (co:CcOk ⟨prog,w,K,base,x,dx,c,ns⟩) (T:Top p loose mean mg mb base) (S:SupAt prog K c cda cc D f2 scope) (kb:Kp base s.heap) (os:OS ⟨prog,w,K,base,x,dx,c,ns⟩ [] s.heap)
  (ho:K.lookup f=some ⟨oc,od,.func (ksFn name qual params (.Expr (.Call (.Attribute (.Call (.Name "super" q0) [] [] q1) "__init__" q2) [.Name "signatures" q3,.Name "kinds" q4,.Name "items" q5,.Name "numbers" q6] [] q7) q8::rest) scope dV kV doc pm an (.ref cda) ct cc),osl⟩) (hcd:codeIn K (.ref cda) qual=true)
  (hp:(params.posonlyargs++params.args).head?=some ar) (har:ar.arg = "self") (hbind:bindArgs (ksFn name qual params (.Expr (.Call (.Attribute (.Call (.Name "super" q0) [] [] q1) "__init__" q2) [.Name "signatures" q3,.Name "kinds" q4,.Name "items" q5,.Name "numbers" q6] [] q7) q8::rest) scope dV kV doc pm an (.ref cda) ct cc) ⟨[.ref x,v1,v2,v3,v4],[]⟩=pure (opPs.zip [.ref x,v1,v2,v3,v4]))
  (hi0:∀ L,interactive (ksEnv qual scope L f (.ref cda) cc)=false) (hln:(q2.endLine == q7.line)=true) (hl:∀ y∈opPs,scope.names.lookup y=some .local) (hd:A.depth+1<recursionLimit) (hh:A.handled=none)
  (hN:∀ (A:Around) (s':Shared) (R:Result→Shared→Prop),A.depth<recursionLimit→A.handled=none→Kp s.heap s'.heap→OS ⟨prog,w,K,base,x,dx,c,ns⟩ [] s'.heap →
   (∀ h' tk,(∀ b o,b≠dx→s'.heap.get? b=some o→h'.get? b=some o)→OS ⟨prog,w,K,base,x,dx,c,ns⟩ N1 h'→R (.ok (.ret .none)) { s' with heap:=h',toks:=tk })→codeAny (model prog w) A (.call (.ref f2) ⟨[.ref x,v1,v2,v3,v4],[]⟩) R s')
  (hb:∀ F:Fc,FcOk ⟨prog,w,K,base,x,dx,c,ns⟩ F scope.names→FnK ⟨prog,w,K,base,x,dx,c,ns⟩ F N1 [("self",3)] N' 4 rest)
  (hR:∀ h' tk,(∀ b o,b≠dx→s.heap.get? b=some o→h'.get? b=some o)→OS ⟨prog,w,K,base,x,dx,c,ns⟩ N' h'→R (.ok (.ret .none)) { s with heap:=h',toks:=tk }):codeAny (model prog w) A (.call (.ref f) ⟨[.ref x,v1,v2,v3,v4],[]⟩) R s:=by
 have X0:K.In s.heap:=fun a o e=>kb a o (co.K a o e)
 have lc:∀ {y:Str},scope.names.lookup y=some .local→∀ {L:Addr},(ksEnv qual scope L f (.ref cda) cc).kindOf y=some .local:=fun h _=>h
 refine ks_codeAny_call_defAt (Nat.lt_of_succ_lt hd) (X0 _ _ ho) rfl (T.nolimit.keeps kb) (codeRec_of X0 hcd) rfl (BindsTo.of_eq hbind) S.hcell (fun y hy=>hl _ (List.of_mem_zip (a:=y.1) (b:=y.2) hy).1) (fun h1 hns hk1=>?_) S.hco S.hgen S.hk
 show _root_.PySem.wpAt (model prog w) (A.deeper (ksEnv qual scope s.heap.objs.size f (.ref cda) cc)) (.func _ (ksEnv qual scope s.heap.objs.size f (.ref cda) cc)) (execs _ (ksEnv qual scope s.heap.objs.size f (.ref cda) cc)) _ _ _
 have Fr0:PyProof.Rows.Fr s.heap s.heap.objs.size h1 (fun y=>(opPs.zip [Value.ref x,v1,v2,v3,v4]).reverse.lookup y):=⟨hns,hk1,Nat.le_refl _⟩
 obtain ⟨m0,I0,W0,_⟩:=os
 obtain ⟨od',I',_⟩:=I0.look
 have inst:∀ {h:Heap},Kp s.heap h→InstAt h x (instObj c dx) c (some od'):=fun k=>⟨k _ _ I'.at_,I'.cls,I'.no,k _ _ I'.dict⟩
 obtain ⟨ccl,cdd,vs,ccs,file,tf,e1,e2,e3⟩:=S.code
 obtain ⟨cl,cld,csl,e4⟩:=S.cell
 obtain ⟨cdD,e5⟩:=S.cls
 refine ks_wpAt_execs_cons (ks_wpAt_Expr_any (ks_wpAt_MethodCall (ks_node Fr0 X0 News.nil (T.keeps kb) ho hp (by rw [har];rfl) (inst hk1) e1 e2 e3 e4 e5 S.sub S.sup rfl S.hks S.hkc (by rw [har];exact S.hka) S.hk S.top rfl fun so h2 F2 N2 _=>?_) (call_eq (fun e he=>?_) (Nat.le_of_ble_eq_true rfl) hln)) (hi0 _))
 rotate_left
 ·simp only [List.mem_cons,List.not_mem_nil,or_false] at he
  rcases he with rfl | rfl | rfl | rfl <;> rfl
 refine ks_method F2 X0 N2 (.head _) (inst F2.keep) S.any S.meth S.fn rfl fun q h3 F3 N3 _=>?_
 refine callWith_M X0 N3 (.head _) S.fn' (wpAny_items_cons (wpAny_Name (wpAny_loadName_local S.hk (lc (hl "signatures" (.tail _ (.head _)))) F3.ns rfl (wpAny_items_cons (wpAny_Name (wpAny_loadName_local S.hk (lc (hl "kinds" (.tail _ (.tail _ (.head _))))) F3.ns rfl
  (wpAny_items_cons (wpAny_Name (wpAny_loadName_local S.hk (lc (hl "items" (.tail _ (.tail _ (.tail _ (.head _)))))) F3.ns rfl (wpAny_items_cons (wpAny_Name (wpAny_loadName_local S.hk (lc (hl "numbers" (.tail _ (.tail _ (.tail _ (.tail _ (.head _))))))) F3.ns rfl (wpAny_items_nil ⟨methP N3 (.head _) (fun a o e=>F3.keep _ _ (X0 a o e)),?_⟩)))))))))))))
 have n0:∀ {k:Nat},s.heap.objs.size≤k→s.heap.get? k=none:=fun h=>new_none _ h
 have hx:Has s.heap x:=⟨_,I0.obj⟩
 have hdx:Has s.heap dx:=ns_has I0.ns.ns
 refine call_meth N3 (.head _) (hN _ _ _ hd hh F3.keep ⟨m0,I0.keep F3.keep,W0,fun n k e=>nn e⟩ fun h4 tk4 k4 o4=>?_)
 have nl:s.heap.objs.size≠dx:=fun q=>hdx.elim fun o e=>nn ((n0 (Nat.le_of_eq q)).symm.trans e)
 have k3:∀ b o,b≠dx→h3.get? b=some o→h4.get? b=some o:=k4
 refine _root_.PySem.wpAt_of_wpAny (hb ⟨A.deeper (ksEnv qual scope s.heap.objs.size f (.ref cda) cc),ksEnv qual scope s.heap.objs.size f (.ref cda) cc,s.heap⟩ ⟨S.hk,rfl,hh,kb,hx,hdx,n0 (Nat.le_refl _),fun n n' c' e e'=>?_⟩ _ _ _ PassesOwn.leaving
  ⟨fun b o ne e=>k3 b o ne (F3.keep b o e),o4,⟨_,ns_at F3.ns fun o e=>k3 _ o nl e⟩,fun n hn=>absurd rfl (S.hcell _ (look_in hn)),fun n k e=>?_⟩ fun fl h' tk x r=>?_)
 ·have e1:=look_in e
  have e2:=look_in e'
  rw [List.mem_singleton] at e1 e2
  cases e1
  cases e2
  rfl
 ·have e:=look_in e
  rw [List.mem_singleton] at e
  cases e
  exact ⟨.ref x,.inl ⟨S.hka,_,ns_at F3.ns fun o e=>k3 _ o nl e,rfl⟩,rfl⟩
 ·match fl,r with
  | .ret v,r=>exact (show v=.none from r)▸hR h' tk x.k0 x.os
  | .next,_ | .brk,_ | .cont,_=>exact hR h' tk x.k0 x.os
noncomputable abbrev opN1:List (Str×Nat):=[("count",2),("calls",0),("numbers",0),("items",1),("kinds",0),("signatures",0)]
noncomputable abbrev opN:List (Str×Nat):=("peak",2)::("height",2)::("spent",2)::opN1
theorem op_es {C:Cc} (hns:C.ns=opNames) {h:Heap} (o:OS C opN h):∃ m,Ob h C.x C.dx C.c m∧OpEs g0 m:=o.elim fun m z=>⟨m,z.1,hns▸z.2.1,fun a i e=>by
 have at_:∀ n,opN.lookup n=some 2→∃ t,m n=some (.int 0 t):=fun n e=>(z.2.2 n 2 e).elim fun v q=>q.2.elim fun t r=>⟨t,q.1.trans (congrArg some r)⟩
 match a,e with
 | 0,e=>cases e;exact at_ _ rfl
 | 1,e=>cases e;exact at_ _ rfl
 | 2,e=>cases e;exact at_ _ rfl
 | 3,e=>cases e;exact at_ _ rfl
 | a+4,e=>cases e⟩
theorem names_call {prog:Program} {w:World} {K:Frag} {base:Heap} {x dx c f:Addr} {ns:List Str} {N':List (Str×Nat)} {fd:FuncData} {body:List Stmt} (co:CcOk ⟨prog,w,K,base,x,dx,c,ns⟩) (lim:base.NoLimit) (D:FdAt K f opPs fd body) {v1 v4:Value} {l:Addr} {s0:Shared} (kb:Kp base s0.heap) (hl:EL s0.heap (.ref l))
  (hb:∀ F:Fc,FcOk ⟨prog,w,K,base,x,dx,c,ns⟩ F fd.scope.names→FnK ⟨prog,w,K,base,x,dx,c,ns⟩ F [] [("self",3),("signatures",0),("kinds",0),("items",1),("numbers",0)] N' 4 body)
  (A:Around) (s:Shared) (R:Result→Shared→Prop) (hd:A.depth<recursionLimit) (hh:A.handled=none) (kp:Kp s0.heap s.heap) (os:OS ⟨prog,w,K,base,x,dx,c,ns⟩ [] s.heap)
  (hR:∀ h' tk,(∀ b o,b≠dx→s.heap.get? b=some o→h'.get? b=some o)→OS ⟨prog,w,K,base,x,dx,c,ns⟩ N' h'→R (.ok (.ret .none)) { s with heap:=h',toks:=tk }):codeAny (model prog w) A (.call (.ref f) ⟨[.ref x,v1,.none,.ref l,v4],[]⟩) R s :=
 D.ho.elim fun oc z=>z.elim fun od z=>z.elim fun osl z=>fn_enter co lim z D.hb D.hclo D.hcd (D.hbind [.ref x,v1,.none,.ref l,v4] rfl) D.hnd (fun y hy=>D.hloc _ (List.of_mem_zip (a:=y.1) (b:=y.2) hy).1) D.hco D.hgen D.hk hd hh (kb.trans kp) os
  (par_of [("self",3,.ref x),("signatures",0,v1),("kinds",0,.none),("items",1,.ref l),("numbers",0,v4)] (by decide:opPs.Nodup) (fun y hy=>D.hloc _ ((List.mem_map (f:=fun y:Str×Nat×Value=>y.1)).mpr ⟨y,hy,rfl⟩)) fun y hy=>by
   simp only [List.mem_cons,List.not_mem_nil,or_false] at hy
   rcases hy with rfl | rfl | rfl | rfl | rfl
   ·exact rfl
   ·trivial
   ·trivial
   ·exact VK.go (k:=1) (.of_kp kp) hl
   ·trivial)
  (fun F ok _ _=>hb F ok) fun v h' tk k o r=>(show v=.none from r)▸hR h' tk k o
theorem none_at {h h':Heap} {a:Addr} (k:Kp h h') (e:h'.get? a=none):h.get? a=none:=match q:h.get? a with
 | none=>rfl
 | some o=>nn (e.symm.trans (k _ _ q))
theorem makes_op {prog p:Program} {loose:List Str} {mg mb:Str→Option Value} {w:World} {K:Frag} {base:Heap} {env:Env} {A:Around} {p1 p2 p3 p4 p5 p6 p7 p8:Pos} (X:K.In base) (T:TopRead p loose mg mb base)
  (e1:env.globals=mainGlobals) (e3:env.scope.kind=.function) (hkO:env.kindOf "Opener"=some .globalImplicit) (hkS:env.kindOf "Signatures"=some .globalImplicit)
  (gO:nsIn K mainGlobals "Opener"=some (some (.ref 475))) (gS:nsIn K mainGlobals "Signatures"=some (some (.ref 644))) (kO:keepIn K (.ref 475)=true) (kS:keepIn K (.ref 644)=true)
  (sg:∀ (s:Shared) (l:Addr) (Q:Value→Shared→Prop) (E:Value→Shared→Prop),Kp base s.heap→EL s.heap (.ref l)→(∀ x h' tk,Kp s.heap h'→Q (.ref x) { s with heap:=h',toks:=tk })→wpAny (model prog w) A (call (.ref 644) [.ref l]) Q E s)
  (om:∀ (s:Shared) (v1 v4:Value) (l:Addr) (Q:Value→Shared→Prop) (E:Value→Shared→Prop),Kp base s.heap→EL s.heap (.ref l)→(∀ x dx h' tk,Kp s.heap h'→s.heap.get? x=none→s.heap.get? dx=none→OS ⟨prog,w,K,base,x,dx,475,opNames⟩ opN h'→Q (.ref x) { s with heap:=h',toks:=tk }) →
   wpAny (model prog w) A (call (.ref 475) [v1,.none,.ref l,v4]) Q E s) :
  MakesOp (model prog w) A env base (.Call (.Name "Opener" p1) [.Call (.Name "Signatures" p2) [.List [] p3] [] p4,.Constant .none 0 p5,.List [] p6,.Dict [] [] p7] [] p8):=fun s Q E kb hns hQ=>by
 have glob:∀ {h:Heap},Kp base h→h.Ns env.globals mg:=fun k=>e1.symm▸ns_at T.g (k _)
 have kin:∀ {h:Heap},Kp base h→K.In h:=fun k a o e=>k a o (X a o e)
 refine wpAny_Call_ofName (PySem.Calls.Name_function_global e3 hkO (PySem.Calls.loadGlobal_global (glob kb) (mg_of X T.g gO) (callWith_K X kO (wpAny_items_cons ?_ rfl))) (by decide))
 refine wpAny_Call_ofName (PySem.Calls.Name_function_global e3 hkS (PySem.Calls.loadGlobal_global (glob kb) (mg_of X T.g gS) (callWith_K X kS (wpAny_items_cons (wpAny_List (wpAny_items_nil ⟨Nat.zero_le _,wpAny_items_nil ⟨kin (kb.trans (.push _ _)),?_⟩⟩)) rfl))) (by decide))
 refine sg _ _ _ _ (kb.trans (.push _ _)) ⟨_,0,rfl,Heap.get?_push_size _ rfl⟩ fun x h1 tk1 k1=>?_
 have k1:=(Kp.push s.heap _).trans k1
 refine wpAny_items_cons (wpAny_Constant_none (wpAny_items_cons (wpAny_List (wpAny_items_nil ⟨Nat.zero_le _,wpAny_items_cons (wpAny_Dict_empty (wpAny_items_nil ⟨?_,?_⟩)) rfl⟩)) rfl)) rfl
 ·exact kin (kb.trans (k1.trans ((Kp.push _ _).trans (.push _ _))))
 exact om _ _ _ _ _ _ (kb.trans (k1.trans ((Kp.push _ _).trans (.push _ _)))) ⟨_,0,rfl,Heap.get?_push_of_some _ (Heap.get?_push_size _ rfl)⟩ fun x dx h' tk k nx nd o =>
  have k2:=k1.trans ((Kp.push _ _).trans (.push _ _))
  hQ x dx h' tk (k2.trans k) (none_at k2 nx) (none_at k2 nd) (op_es rfl o)
theorem only_of {nm:List (Str×NameKind)} {t:Str} (h:nm.all (fun y=>!(decide (y.2=.cell))||decide (y.1=t))=true) (x:Str) (hx:nm.lookup x=some .cell):x=t :=
 (Bool.or_eq_true_iff.mp (List.all_eq_true.mp h _ (look_in hx))).elim (fun h=>nb h) of_decide_eq_true
theorem valsS {P:List Value→Prop} {n:Nat} (h:∀ a r,r.length=n→P (a::r)):∀ vs:List Value,vs.length=n+1→P vs
 | a::r,e=>h a r (Nat.succ.inj e)
 | [],e=>nomatch e
theorem vals1 {P:List Value→Prop} (h:∀ a,P [a]):∀ vs:List Value,vs.length=1→P vs:=valsS fun a r e=>List.length_eq_zero_iff.mp e▸h a
theorem vals2 {P:List Value→Prop} (h:∀ a b,P [a,b]):∀ vs:List Value,vs.length=2→P vs:=valsS fun a=>vals1 (P:=fun r=>P (a::r)) (h a)
theorem vals3 {P:List Value→Prop} (h:∀ a b c,P [a,b,c]):∀ vs:List Value,vs.length=3→P vs:=valsS fun a=>vals2 (P:=fun r=>P (a::r)) (h a)
theorem vals4 {P:List Value→Prop} (h:∀ a b c d,P [a,b,c,d]):∀ vs:List Value,vs.length=4→P vs:=valsS fun a=>vals3 (P:=fun r=>P (a::r)) (h a)
theorem vals5 {P:List Value→Prop} (h:∀ a b c d e,P [a,b,c,d,e]):∀ vs:List Value,vs.length=5→P vs:=valsS fun a=>vals4 (P:=fun r=>P (a::r)) (h a)
noncomputable def fdAt (K:Frag) (a:Addr):FuncData:=match K.lookup a with
 | some ⟨_,_,.func fd,_⟩=>fd
 | _=>default
theorem fdAt_is {K:Frag} {a:Addr} {o:Obj} {fd:FuncData} (h:K.lookup a=some o) (d:o.data=.func fd):fdAt K a=fd:=by
 unfold fdAt
 rw [h]
 cases o
 cases d
 rfl
noncomputable def bindL (K:Frag) (f:Nat) (vals:List Value):Sem (List (Str×Value)):=bindArgs (fdAt K (fa0 f)) ⟨vals,[]⟩
noncomputable def bindR (f:Nat) (vals:List Value):Sem (List (Str×Value)):=pure (((bodies f).1.map vname).zip vals)
theorem bind_ok27 {K:Frag} (h:∀ f:Nat,Nat.blt f 27=true→∀ vals:List Value,vals.length=(bodies f).1.length→bindL K f vals=bindR f vals):BindOk K:=fun f hf o fd e d vals hl=>fdAt_is e d▸h f hf vals hl
theorem clsB_is {K:Frag} {c:Addr} (h:(plainGet K c ""&&(hasDictIn K c&&(plainOver K c&&decide (findIn K (.ref c) "__setattr__"=some (some (.builtin "object.__setattr__"))))))=true):PlainCls K c :=
 have h1:=and_is h;have h2:=and_is h1.2;have h3:=and_is h2.2
 ⟨h1.1,h2.1,h3.1,of_decide_eq_true h3.2⟩
theorem free_is {K:Frag} {c:Addr} {ns:List Str} (h:(ns.all fun n=>decide (findIn K (.ref c) n=some none))=true):∀ n∈ns,findIn K (.ref c) n=some none:=fun n hn=>of_decide_eq_true (List.all_eq_true.mp h n hn)
theorem meths_is {K:Frag} {c:Addr} {ms:List (Str×Addr)} (h:(ms.all fun y=>decide (findIn K (.ref c) y.1=some (some (.ref y.2)))&&(isFn K (.ref y.2)&&keepIn K (.ref y.2)))=true):∀ y∈ms,findIn K (.ref c) y.1=some (some (.ref y.2))∧isFn K (.ref y.2)=true∧keepIn K (.ref y.2)=true:=fun y hy =>
 have h:=and_is (List.all_eq_true.mp h y hy)
 ⟨of_decide_eq_true h.1,and_is h.2⟩
theorem loc_is {nm:List (Str×NameKind)} {ps:List Str} (h:(ps.all fun y=>kindOk nm true y)=true):∀ y∈ps,nm.lookup y=some .local∨nm.lookup y=some .cell:=fun y hy=>(kind_is (List.all_eq_true.mp h y hy)).imp id And.right
theorem locs_is {nm:List (Str×NameKind)} {ps:List Str} (h:(ps.all fun y=>decide (nm.lookup y=some .local))=true):∀ y∈ps,nm.lookup y=some .local:=fun y hy=>of_decide_eq_true (List.all_eq_true.mp h y hy)
theorem nocell_is {nm:List (Str×NameKind)} (h:(nm.all fun y=>!decide (y.2=.cell))=true):∀ y∈nm,y.2≠.cell:=fun y hy=>of_decide_eq_false ((Bool.not_eq_true' _).mp (List.all_eq_true.mp h y hy))
theorem nd_is {l:List Str} (h:nodupB l=true):l.Nodup:=nodupB_ok h
theorem hu_ok (env:Env) (y:Addr) (r:List Value):((callerA.deeper env).under (.builtin "type.__call__" ⟨.ref y::r,[]⟩)).depth+1<recursionLimit∧((callerA.deeper env).under (.builtin "type.__call__" ⟨.ref y::r,[]⟩)).handled=none:=⟨by rw [depth_under_make,depth_deeper,depth_caller];decide,rfl⟩
def Z:Prop:=True
theorem z:Z:=⟨⟩
namespace all
theorem tw970567099157461873:Z:=z
theorem tw9655478518381972641:Z:=z
theorem tw9032152301145029924:Z:=z
theorem tw8484680153994822147:Z:=z
theorem tw8256473768451594381:Z:=z
theorem tw820925989068550391:Z:=z
theorem tw8182530371756314793:Z:=z
theorem tw7777025187981256312:Z:=z
theorem tw7074781860664868368:Z:=z
theorem tw6964721689799795148:Z:=z
theorem tw6687138734632700400:Z:=z
theorem tw6684406586202466081:Z:=z
theorem tw6579214644530999068:Z:=z
theorem tw6557317844307616098:Z:=z
theorem tw6455887009344987314:Z:=z
theorem tw6377055935862222058:Z:=z
theorem tw5819862553556124361:Z:=z
theorem tw5708037913847672360:Z:=z
theorem tw5351928945159355316:Z:=z
theorem tw5266152017247615745:Z:=z
theorem tw5214279128592660396:Z:=z
theorem tw4989094870958661252:Z:=z
theorem tw4696410092618569521:Z:=z
theorem tw4646101387996529300:Z:=z
theorem tw4362843704124740358:Z:=z
theorem tw4286411836933242992:Z:=z
theorem tw4186628855079304729:Z:=z
theorem tw4167348282330130061:Z:=z
theorem tw4164128740207318477:Z:=z
theorem tw4042219577169196853:Z:=z
theorem tw3932977999631725739:Z:=z
theorem tw3854295790651489076:Z:=z
theorem tw3802638643946706851:Z:=z
theorem tw3760291728219519396:Z:=z
theorem tw3700002969481714734:Z:=z
theorem tw3593282417272866299:Z:=z
theorem tw3545124241653564182:Z:=z
theorem tw3523836572403406444:Z:=z
theorem tw3411747221306532007:Z:=z
theorem tw2977423348957910997:Z:=z
theorem tw2884533376836587846:Z:=z
theorem tw2664039485110317338:Z:=z
theorem tw2457417361997895965:Z:=z
theorem tw2377374330180536846:Z:=z
theorem tw2168165820610848665:Z:=z
theorem tw206865758011763602:Z:=z
theorem tw2003352376357636794:Z:=z
theorem tw17886189495985235693:Z:=z
theorem tw1714871185286100585:Z:=z
theorem tw16780689407625952189:Z:=z
theorem tw16393324663526274756:Z:=z
theorem tw16313168234130107753:Z:=z
theorem tw16168081436720634123:Z:=z
theorem tw16114530820269778968:Z:=z
theorem tw15954638961356285404:Z:=z
theorem tw15762824848379326665:Z:=z
theorem tw15726428116236008639:Z:=z
theorem tw15362185858825135700:Z:=z
theorem tw15340692894827951906:Z:=z
theorem tw15299218059768752656:Z:=z
theorem tw1522476985854251638:Z:=z
theorem tw14884594356333201366:Z:=z
theorem tw14848769380471430759:Z:=z
theorem tw14131515340169345136:Z:=z
theorem tw14110332240436313697:Z:=z
theorem tw14023843855010981887:Z:=z
theorem tw13902188058866241086:Z:=z
theorem tw1361009657119746715:Z:=z
theorem tw13579040302980107199:Z:=z
theorem tw13565753072387366965:Z:=z
theorem tw13388804841022055349:Z:=z
theorem tw13348391103170777729:Z:=z
theorem tw13227124826950003461:Z:=z
theorem tw12996619417694101422:Z:=z
theorem tw12973764191261749656:Z:=z
theorem tw1287160571478404328:Z:=z
theorem tw12448408301523489623:Z:=z
theorem tw12205668870511040704:Z:=z
theorem tw12085084397123837017:Z:=z
theorem tw11877456699471027310:Z:=z
theorem tw11843521024803656995:Z:=z
theorem tw11745792086925325125:Z:=z
theorem tw11638317451291174992:Z:=z
theorem tw11618249291126442537:Z:=z
theorem tw11598351740242223220:Z:=z
theorem tw11499340087840688322:Z:=z
theorem tw11490115784323291931:Z:=z
theorem tw11458224435338627444:Z:=z
theorem tw112026474061844520:Z:=z
theorem tw11059902748325250066:Z:=z
theorem tw10845693621244191027:Z:=z
theorem tw10579155625257737782:Z:=z
theorem tw10541866075507779846:Z:=z
theorem tw1001317508356771273:Z:=z
theorem tw6179737507762534579:Z:=z
theorem tw3751771026130545345:Z:=z
theorem tw14058232532555007212:Z:=z
theorem tw12035599338052336228:Z:=z
theorem tw4042591193013499353:Z:=z
theorem tw15398643413496733743:Z:=z
theorem tw16723466744224501244:Z:=z
theorem tw15648977480900416239:Z:=z
theorem tw15107305791888691216:Z:=z
theorem tw2974812436260141360:Z:=z
theorem tw4150977389418294172:Z:=z
theorem tw7411587741901624470:Z:=z
theorem tw16705582338850192703:Z:=z
theorem tw6870561575574037526:Z:=z
theorem tw5099958289640128406:Z:=z
theorem tw4961770464268581446:Z:=z
theorem tw16361635991135627401:Z:=z
theorem tw3832388107590986453:Z:=z
theorem tw13534522886197289455:Z:=z
theorem tw2308729625035250311:Z:=z
theorem tw13352962053797858456:Z:=z
theorem tw7808206925629021583:Z:=z
theorem tw14108393453510986555:Z:=z
theorem tw11401639838655592648:Z:=z
theorem tw520998076638114075:Z:=z
theorem tw276569474335059238:Z:=z
theorem tw11256877236447244630:Z:=z
theorem tw7443346610501494996:Z:=z
theorem tw3473500011939622621:Z:=z
theorem tw113100699963781200:Z:=z
theorem tw2095956857961623713:Z:=z
theorem tw155757485679918593:Z:=z
theorem tw2644934573041305530:Z:=z
theorem tw1638635300108054028:Z:=z
theorem tw10780040942813292411:Z:=z
theorem tw11574144554661091008:Z:=z
theorem tw10408883784931009787:Z:=z
theorem tw218763794973408688:Z:=z
theorem tw1686318703564207889:Z:=z
theorem tw3076279748971058989:Z:=z
theorem tw10758137112796644451:Z:=z
theorem tw10452208280064322599:Z:=z
theorem tw3204896716105088303:Z:=z
theorem tw10076501813532869503:Z:=z
theorem tw6354820886828840603:Z:=z
theorem tw4590558168714553923:Z:=z
theorem tw12960548447666984549:Z:=z
theorem tw5151108319568928859:Z:=z
theorem tw5220325667337517263:Z:=z
theorem tw4900801723093100092:Z:=z
theorem tw3926865319931391398:Z:=z
theorem tw8956893621317551418:Z:=z
theorem tw7124375672388607389:Z:=z
theorem tw4783879429046980708:Z:=z
theorem tw4058658231783346462:Z:=z
theorem tw18192756081611867305:Z:=z
theorem tw1391580610329878347:Z:=z
theorem tw13231847943378071623:Z:=z
theorem tw17607567663139319832:Z:=z
theorem tw1376904969573390789:Z:=z
theorem tw11436591124254117625:Z:=z
theorem tw6607509518535881744:Z:=z
theorem tw9855987793774082945:Z:=z
theorem tw2298511763617887393:Z:=z
theorem tw2272054838824162016:Z:=z
theorem tw1905502446199718974:Z:=z
theorem tw16794707119267186193:Z:=z
theorem tw5392224283173755034:Z:=z
theorem tw219415032068305853:Z:=z
theorem tw9960023737876892518:Z:=z
theorem tw11639349147770859151:Z:=z
theorem tw12545062641885494555:Z:=z
theorem tw10630110361173230702:Z:=z
theorem tw7071954851816236580:Z:=z
theorem tw4343685593002831012:Z:=z
theorem tw14265118992033826890:Z:=z
theorem tw10665447809312845888:Z:=z
theorem tw13295612733824344150:Z:=z
theorem tw3705717258361358094:Z:=z
theorem tw16656102943181579335:Z:=z
theorem tw14594042404922688450:Z:=z
theorem tw5906464152710414337:Z:=z
theorem tw15810535568406302893:Z:=z
theorem tw3794178471810898194:Z:=z
theorem tw12839224217764276496:Z:=z
theorem tw10312304889520275165:Z:=z
theorem tw7444647654032870394:Z:=z
theorem tw17235511479749166745:Z:=z
theorem tw12567585238878210765:Z:=z
theorem tw9890304833669018137:Z:=z
theorem tw6904429867930626185:Z:=z
theorem tw13546168068724795024:Z:=z
theorem tw979144723520616174:Z:=z
theorem tw2731857032951813747:Z:=z
theorem tw9699061645487200406:Z:=z
theorem tw7285651656695479779:Z:=z
theorem tw5882587568268618316:Z:=z
theorem tw14527121486971324174:Z:=z
theorem tw5607406601873254116:Z:=z
theorem tw12956798006240364834:Z:=z
theorem tw2209914798009499445:Z:=z
theorem tw17412190698892526697:Z:=z
theorem tw262688668115582952:Z:=z
theorem tw17944754510113568407:Z:=z
theorem tw1634894082292193278:Z:=z
theorem tw16121713971460067468:Z:=z
theorem tw6926619322967407656:Z:=z
theorem tw13958379526569553339:Z:=z
theorem tw8135283101663324439:Z:=z
theorem tw12712045575091123135:Z:=z
theorem tw17902656133184091686:Z:=z
theorem tw1481950709282097832:Z:=z
theorem tw6503534936954587815:Z:=z
theorem tw3938341373857612623:Z:=z
theorem tw18307457112272204701:Z:=z
theorem tw10410221029107317545:Z:=z
theorem tw2182572364188347877:Z:=z
theorem tw12153825858894380336:Z:=z
theorem tw1812443908094014540:Z:=z
theorem tw3188469810817533165:Z:=z
theorem tw1940680393244928176:Z:=z
theorem tw4786801745173316616:Z:=z
theorem tw16435218361978601815:Z:=z
theorem tw13000507208899206038:Z:=z
theorem tw9671786363124952057:Z:=z
theorem tw8263909434297010374:Z:=z
theorem tw3484990673757953130:Z:=z
theorem tw10377055618036315543:Z:=z
theorem tw15848188240590226517:Z:=z
theorem tw15093686857528490566:Z:=z
theorem tw11284140429456344424:Z:=z
theorem tw9251771361609151193:Z:=z
theorem tw479453166503397588:Z:=z
theorem tw16675992761545376906:Z:=z
theorem tw12334639252512339811:Z:=z
theorem tw3230162006399822614:Z:=z
theorem tw13243420266696471039:Z:=z
theorem tw2149288193021158334:Z:=z
theorem tw5348439031067967207:Z:=z
theorem tw2158038468795580711:Z:=z
theorem tw5838737989442290988:Z:=z
theorem tw4234927445622035158:Z:=z
theorem tw2334720724323147098:Z:=z
theorem tw18105988580881574529:Z:=z
theorem tw14810480892428165842:Z:=z
theorem tw355546518243283398:Z:=z
theorem tw8320516983354363737:Z:=z
theorem tw13167047207777896829:Z:=z
theorem tw9256071008417014823:Z:=z
theorem tw16379437913827670730:Z:=z
theorem tw17490273672272045547:Z:=z
theorem tw12196670780603092147:Z:=z
theorem tw7864536041004971589:Z:=z
theorem tw5266239904951301144:Z:=z
theorem tw17874364430415320462:Z:=z
theorem tw2720046621260028125:Z:=z
theorem tw13539261641915838875:Z:=z
theorem tw17641004461200113934:Z:=z
theorem tw14934697583833540609:Z:=z
theorem tw12885416279316191700:Z:=z
theorem tw12110346060734721550:Z:=z
theorem tw1826223241933653444:Z:=z
theorem tw9283322026100235937:Z:=z
theorem tw12050031418081157125:Z:=z
theorem tw12075018853906864917:Z:=z
theorem tw6615807671926374700:Z:=z
theorem tw3482727571990926858:Z:=z
theorem tw10926731830682190018:Z:=z
theorem tw5308302055013647528:Z:=z
theorem tw17734135394309488951:Z:=z
theorem tw17409310578322382288:Z:=z
theorem tw16275118285712226276:Z:=z
theorem tw6699913727048733256:Z:=z
theorem tw6395600199677420329:Z:=z
theorem tw10488491060455328959:Z:=z
theorem tw10849723495820905084:Z:=z
theorem tw1689275095111120851:Z:=z
theorem tw14900973936355227182:Z:=z
theorem tw10163288459548167263:Z:=z
theorem tw12277064401216585698:Z:=z
theorem tw14316158731946851157:Z:=z
theorem tw14156627911771200607:Z:=z
theorem tw15982778330259710088:Z:=z
theorem tw8250523615908626553:Z:=z
theorem tw448796056236736259:Z:=z
theorem tw9521865630366285895:Z:=z
theorem tw15215502209116007474:Z:=z
theorem tw2273638791719443333:Z:=z
theorem tw12941116184299558756:Z:=z
theorem tw7586159907438386192:Z:=z
theorem tw6882402712095047214:Z:=z
theorem tw10329379421520428977:Z:=z
theorem tw12872265231694967111:Z:=z
theorem tw7240818300094609538:Z:=z
theorem tw15254366412847891424:Z:=z
theorem tw9073397350885276925:Z:=z
theorem tw5474898499878768624:Z:=z
theorem tw5328142836659519746:Z:=z
theorem tw21357712640995200:Z:=z
theorem tw12826421803779396267:Z:=z
theorem tw12410157610285544488:Z:=z
theorem tw14242630634167963387:Z:=z
theorem tw13602571934296561367:Z:=z
theorem tw14431358065059286902:Z:=z
theorem tw2788958882166903144:Z:=z
theorem tw16514435705880610208:Z:=z
theorem tw6409856758250141192:Z:=z
theorem tw6044716893045684497:Z:=z
theorem tw9764160148559840743:Z:=z
theorem tw7006560704037021705:Z:=z
theorem tw2331093578554366637:Z:=z
theorem tw15549028744758617240:Z:=z
theorem tw211197111690584207:Z:=z
theorem tw16946087622405802665:Z:=z
theorem tw2575911244663784079:Z:=z
theorem tw15245399121736864487:Z:=z
theorem tw8633793148329490127:Z:=z
theorem tw18365221019229913029:Z:=z
theorem tw16502696354044111774:Z:=z
theorem tw1586491882420627421:Z:=z
theorem tw1688076178374459534:Z:=z
theorem tw6300506735585923871:Z:=z
theorem tw6304896823559426955:Z:=z
theorem tw378894778844638:Z:=z
theorem tw2129552974682046441:Z:=z
theorem tw5340565182004825474:Z:=z
theorem tw13132934094603936586:Z:=z
theorem tw8721368334004936345:Z:=z
theorem tw6556815202920111622:Z:=z
theorem tw10101137926803192492:Z:=z
theorem tw22849376172887630:Z:=z
theorem tw2283880625935305912:Z:=z
theorem tw17067613420267337087:Z:=z
theorem tw4536065122051341513:Z:=z
theorem tw2529598104447387562:Z:=z
theorem tw1127865061308517785:Z:=z
theorem tw15604754392295967362:Z:=z
theorem tw14573856568030506610:Z:=z
theorem tw10510247464126837521:Z:=z
theorem tw2022599434013558701:Z:=z
theorem tw14040372016292308302:Z:=z
theorem tw2974828255852680235:Z:=z
theorem tw12496591348724785297:Z:=z
theorem tw3046833889313244193:Z:=z
theorem tw5256415167552318474:Z:=z
theorem tw17491679233996940725:Z:=z
theorem tw6119114144816848284:Z:=z
theorem tw4260470699868888405:Z:=z
theorem tw3355161329806370800:Z:=z
theorem tw16344024540023198424:Z:=z
theorem tw12484933964788575137:Z:=z
theorem tw9481052347064260631:Z:=z
theorem tw3116230972471780114:Z:=z
theorem tw18350358720995137414:Z:=z
theorem tw13774354713778259526:Z:=z
theorem tw9194931766749082787:Z:=z
theorem tw8170046760408930533:Z:=z
theorem tw17176407034508251680:Z:=z
theorem tw5779241757190644602:Z:=z
theorem tw6082333425786795306:Z:=z
theorem tw11910255263590875787:Z:=z
theorem tw4590772762926589225:Z:=z
theorem tw15582600855644201173:Z:=z
theorem tw9767072991243813728:Z:=z
theorem tw3656148150906753269:Z:=z
theorem tw8072580565698960683:Z:=z
theorem tw8068779561440052913:Z:=z
theorem tw2390611381503864207:Z:=z
theorem tw14981138165777194417:Z:=z
theorem tw13516734716464778536:Z:=z
theorem tw4805057863689804087:Z:=z
theorem tw2203140569075438665:Z:=z
theorem tw9848036916643382690:Z:=z
theorem tw4948560928002946071:Z:=z
theorem tw11053644129912037693:Z:=z
theorem tw5223136325054700413:Z:=z
theorem tw7245052711430483852:Z:=z
theorem tw13405690615525432812:Z:=z
theorem tw754745431972565556:Z:=z
theorem tw4645279687430735530:Z:=z
theorem tw5449800909811890809:Z:=z
theorem tw3115606303792585588:Z:=z
theorem tw9270431918938679826:Z:=z
theorem tw13829083632245057653:Z:=z
theorem tw11109119334002358671:Z:=z
theorem tw5828366305061584695:Z:=z
theorem tw9470694968509712632:Z:=z
theorem tw9468536571003535382:Z:=z
theorem tw9821960317089237864:Z:=z
theorem tw3810857238473468955:Z:=z
theorem tw3597204586849650702:Z:=z
theorem tw12913053702012006406:Z:=z
theorem tw11833780459463116392:Z:=z
theorem tw11582341024050178252:Z:=z
theorem tw17965098356026723387:Z:=z
theorem tw1784167793338075087:Z:=z
theorem tw15514740685127273319:Z:=z
theorem tw10231978205506156691:Z:=z
theorem tw3251973370315884438:Z:=z
theorem tw1868388006689751201:Z:=z
theorem tw15231050898978481200:Z:=z
theorem tw13625008492983831386:Z:=z
theorem tw115769118962889113:Z:=z
theorem tw1589313694297069793:Z:=z
theorem tw6628477662902836850:Z:=z
theorem tw15401854774119425224:Z:=z
theorem tw627968824998523588:Z:=z
theorem tw16234698522862730030:Z:=z
theorem tw5342736760627818528:Z:=z
theorem tw4310995967391980542:Z:=z
theorem tw3746953555124512111:Z:=z
theorem tw16963406991635795639:Z:=z
theorem tw12939358747889077644:Z:=z
theorem tw6660109911525722477:Z:=z
theorem tw4554553163814657931:Z:=z
theorem tw16246643609694929413:Z:=z
theorem tw14530742747328248011:Z:=z
theorem tw8338071956760488546:Z:=z
theorem tw12404764654033244106:Z:=z
theorem tw6637019846815991417:Z:=z
theorem tw3295699370063917271:Z:=z
theorem tw16511044442680459037:Z:=z
theorem tw11784615176485045280:Z:=z
theorem tw8578341501207744060:Z:=z
theorem tw8771957781588980120:Z:=z
theorem tw7148334896050929106:Z:=z
theorem tw7123966985523447700:Z:=z
theorem tw17881430465528802085:Z:=z
theorem tw16547302222831514359:Z:=z
theorem tw15489126074115296533:Z:=z
theorem tw8893180667285142003:Z:=z
theorem tw6693063534495544607:Z:=z
theorem tw6357064474077394342:Z:=z
theorem tw6170939566226720798:Z:=z
theorem tw14649468246070368045:Z:=z
theorem tw7348797538803731665:Z:=z
theorem tw6418413741706089110:Z:=z
theorem tw6201567690162298985:Z:=z
theorem tw5725325842759856987:Z:=z
theorem tw5038894603387458672:Z:=z
theorem tw3715048250604390210:Z:=z
theorem tw3614622617527033558:Z:=z
theorem tw2483349690224442797:Z:=z
theorem tw1906688300362884001:Z:=z
theorem tw13672799424705716425:Z:=z
theorem tw12847936869432071299:Z:=z
theorem tw11155430494196138780:Z:=z
theorem tw7005769827494265234:Z:=z
theorem tw44565652136774835:Z:=z
theorem tw4173541874700800581:Z:=z
theorem tw17581090736466952545:Z:=z
theorem tw16443386481958395942:Z:=z
theorem tw11653168715313034922:Z:=z
theorem tw10204047892344576442:Z:=z
theorem tw10001181606303213786:Z:=z
theorem tw8338923377867000611:Z:=z
theorem tw8220799435122203570:Z:=z
theorem tw553551999416821224:Z:=z
theorem tw4665492907486454856:Z:=z
theorem tw12688175551825221531:Z:=z
theorem tw12260312288633030205:Z:=z
theorem tw7939153128073206654:Z:=z
theorem tw6555397825194645247:Z:=z
theorem tw5525363047157760453:Z:=z
theorem tw5397320111540460863:Z:=z
theorem tw5383340636409082850:Z:=z
theorem tw3479866115448567858:Z:=z
theorem tw3015170084447515795:Z:=z
theorem tw13766342542986095271:Z:=z
theorem tw7294241505310257233:Z:=z
theorem tw7230498999763826106:Z:=z
theorem tw6492961428346103732:Z:=z
theorem tw6172222893517377509:Z:=z
theorem tw4846405150902747304:Z:=z
theorem tw435073110074950270:Z:=z
theorem tw2817070836229208354:Z:=z
theorem tw2111462171054762260:Z:=z
theorem tw1724535217589825604:Z:=z
theorem tw14482108063663002097:Z:=z
theorem tw1127813622365317108:Z:=z
theorem tw10789167017143451385:Z:=z
theorem tw7833410767936968348:Z:=z
theorem tw7353901883279596424:Z:=z
theorem tw6852994408912554182:Z:=z
theorem tw6030935752988503670:Z:=z
theorem tw2658174771230171648:Z:=z
theorem tw17680186356033900889:Z:=z
theorem tw17313146519494672278:Z:=z
theorem tw16951948031168005322:Z:=z
theorem tw1178287872241766277:Z:=z
theorem tw10577064942816737443:Z:=z
theorem tw8631830661287667744:Z:=z
theorem tw5606498323333268577:Z:=z
theorem tw4262427204374658121:Z:=z
theorem tw3685912342423914329:Z:=z
theorem tw2794484370554785466:Z:=z
theorem tw231177697881730014:Z:=z
theorem tw11395025392933662207:Z:=z
theorem tw5959471633064935110:Z:=z
theorem tw5856804444835995070:Z:=z
theorem tw4960039199284357031:Z:=z
theorem tw4535996269465496997:Z:=z
theorem tw3405618421271422211:Z:=z
theorem tw18148900532994170196:Z:=z
theorem tw1778359877675527614:Z:=z
theorem tw12316740733188712652:Z:=z
theorem tw11435465278427801742:Z:=z
theorem tw7598344464412254958:Z:=z
theorem tw4555043537730139303:Z:=z
theorem tw2990261281763640280:Z:=z
theorem tw2479161412728997898:Z:=z
theorem tw16792167201656941546:Z:=z
theorem tw13120950736072173447:Z:=z
theorem tw12156677540163460029:Z:=z
theorem tw9062942089197364984:Z:=z
theorem tw6533281173739299701:Z:=z
theorem tw6162764986621911878:Z:=z
theorem tw5137405639846554448:Z:=z
theorem tw17204972741422072072:Z:=z
theorem tw15607041256161364464:Z:=z
theorem tw15569941300762179932:Z:=z
theorem tw14941772508778147119:Z:=z
theorem tw1388035682950932913:Z:=z
theorem tw7904760918832397005:Z:=z
theorem tw3542697258930586505:Z:=z
theorem tw1977882595321860048:Z:=z
theorem tw16030611423966799150:Z:=z
theorem tw13779468807248908770:Z:=z
theorem tw8697146558554590691:Z:=z
theorem tw7287011055578752791:Z:=z
theorem tw4493066845129746759:Z:=z
theorem tw4351571769189352086:Z:=z
theorem tw5796236195202697002:Z:=z
theorem tw15256718295052078074:Z:=z
theorem tw12589090626175403137:Z:=z
theorem tw7066733983247372111:Z:=z
theorem tw13643771329352063019:Z:=z
theorem tw8857363440526746652:Z:=z
theorem tw6611739222746004596:Z:=z
theorem tw6185483349760914013:Z:=z
theorem tw3672858936567282965:Z:=z
theorem tw6817613038741856507:Z:=z
theorem tw16286900950411648915:Z:=z
theorem tw13906895016814249650:Z:=z
theorem tw12117116916329887310:Z:=z
theorem tw925180092184776657:Z:=z
theorem tw11997985474190804282:Z:=z
theorem tw2290246313058140885:Z:=z
theorem tw15366198694785913842:Z:=z
theorem tw9313536779558041005:Z:=z
theorem tw6199317050693170323:Z:=z
theorem tw283446176424310964:Z:=z
theorem tw4983331417775471691:Z:=z
theorem tw14021062435815894526:Z:=z
theorem tw9858943198692980266:Z:=z
theorem tw3310295143741481741:Z:=z
theorem tw8312697577808371588:Z:=z
theorem tw4005025749966058526:Z:=z
theorem tw2153974748982495309:Z:=z
theorem tw10087470427880072771:Z:=z
theorem tw7798090207510836539:Z:=z
theorem tw9114381932391942178:Z:=z
theorem tw6274150713861280647:Z:=z
theorem tw17359039010757386033:Z:=z
theorem tw1539042026727277540:Z:=z
theorem tw16712112455332798246:Z:=z
theorem tw7352204068334867253:Z:=z
theorem tw6681051477422347385:Z:=z
theorem tw16233634967218451866:Z:=z
theorem tw2855579579356532833:Z:=z
theorem tw4202947715780293292:Z:=z
theorem tw1530504224004182881:Z:=z
theorem tw1386481309003835795:Z:=z
theorem tw18103668166278226359:Z:=z
theorem tw16815235311604939533:Z:=z
theorem tw12373808382889529871:Z:=z
theorem tw6620819420947630483:Z:=z
theorem tw2139880272234791019:Z:=z
theorem tw1928956535564308297:Z:=z
theorem tw16371922958844863193:Z:=z
theorem tw1129401159724955870:Z:=z
theorem tw858761087597798368:Z:=z
theorem tw7104031151320888333:Z:=z
theorem tw15960798580798357640:Z:=z
theorem tw13533850991451609323:Z:=z
theorem tw13442658229568821616:Z:=z
theorem tw155587498572981154:Z:=z
theorem tw7832370152515602328:Z:=z
theorem tw8692662353056489790:Z:=z
theorem tw17096318318083650656:Z:=z
theorem tw12978916926323969666:Z:=z
theorem tw9635900915410942996:Z:=z
theorem tw6755437372390670682:Z:=z
theorem tw4774536258439903794:Z:=z
theorem tw2526784103249556567:Z:=z
theorem tw2763807551850413362:Z:=z
theorem tw6104416650534828967:Z:=z
theorem tw16120005900434931841:Z:=z
theorem tw13103248697840446414:Z:=z
theorem tw7153188507543951118:Z:=z
theorem tw9921991488470958034:Z:=z
theorem tw8589491826398485647:Z:=z
theorem tw8509294477619624914:Z:=z
theorem tw7809532330566158027:Z:=z
theorem tw6616212598078701260:Z:=z
theorem tw6568856637431346441:Z:=z
theorem tw6465231996449948473:Z:=z
theorem tw3872617237477936401:Z:=z
theorem tw3658347944392553411:Z:=z
theorem tw3272993553478341585:Z:=z
theorem tw3038891870197185482:Z:=z
theorem tw17231647673693941749:Z:=z
theorem tw16022075734885682103:Z:=z
theorem tw15776654564437833919:Z:=z
theorem tw15406708878762471955:Z:=z
theorem tw12944334802995946994:Z:=z
theorem tw12213177718583956400:Z:=z
theorem tw12117780909089956638:Z:=z
theorem tw1165955556938188722:Z:=z
theorem tw10199238889362682803:Z:=z
theorem tw4388735574174564500:Z:=z
theorem tw2544618281504289526:Z:=z
theorem tw16666750791670863543:Z:=z
theorem tw10611311154324441778:Z:=z
theorem tw8489260574010289100:Z:=z
theorem tw3197682956272727127:Z:=z
theorem tw9895480629415727427:Z:=z
theorem tw96570745139148995:Z:=z
theorem tw6709448963405335389:Z:=z
theorem tw5071098373820909290:Z:=z
theorem tw3449839690624007722:Z:=z
theorem tw17922006313938323346:Z:=z
theorem tw16848185772322687425:Z:=z
theorem tw15993728638094933313:Z:=z
theorem tw13613543282085902328:Z:=z
theorem tw12942152755768193207:Z:=z
theorem tw535708770591666707:Z:=z
theorem tw16369615512964874549:Z:=z
theorem tw14990735308621822281:Z:=z
theorem tw5101572697803916756:Z:=z
theorem tw2131111018053382984:Z:=z
theorem tw15458306839152297412:Z:=z
theorem tw9727615433352639785:Z:=z
theorem tw8850385073018773869:Z:=z
theorem tw8507284848554919975:Z:=z
theorem tw6662040882274521801:Z:=z
theorem tw5939353838005108323:Z:=z
theorem tw15273111383280914737:Z:=z
theorem tw14754804698815057164:Z:=z
theorem tw13544936411191048423:Z:=z
theorem tw13468968603653671047:Z:=z
theorem tw1321827528282251191:Z:=z
theorem tw12461299936065902891:Z:=z
theorem tw11741927043843493194:Z:=z
theorem tw11071739782555806530:Z:=z
theorem tw1822007960506421967:Z:=z
theorem tw4012062980714568749:Z:=z
theorem tw18272266813425051552:Z:=z
theorem tw10343837594936943370:Z:=z
theorem tw9937225160494605906:Z:=z
theorem tw894727002392793869:Z:=z
theorem tw8555573208010691708:Z:=z
theorem tw8186165037656821669:Z:=z
theorem tw783424866587167788:Z:=z
theorem tw14446512272348384869:Z:=z
theorem tw13163061056505010673:Z:=z
theorem tw12646309634521883911:Z:=z
theorem tw9962810620380126765:Z:=z
theorem tw9916261220850587375:Z:=z
theorem tw9807864153521848665:Z:=z
theorem tw9807629450231376013:Z:=z
theorem tw976224643988488115:Z:=z
theorem tw9734410394117809777:Z:=z
theorem tw9691732658667852419:Z:=z
theorem tw9658409418024113376:Z:=z
theorem tw9573835258870635773:Z:=z
theorem tw956595244408836218:Z:=z
theorem tw933215320401121647:Z:=z
theorem tw917908815722886436:Z:=z
theorem tw9165888469077540865:Z:=z
theorem tw9091851978393297266:Z:=z
theorem tw9071240987500517710:Z:=z
theorem tw9058076732061299443:Z:=z
theorem tw886069585507109523:Z:=z
theorem tw8844388331833124408:Z:=z
theorem tw8617013704761375030:Z:=z
theorem tw8584824128941073682:Z:=z
theorem tw85847602966060959:Z:=z
theorem tw8559216745361537343:Z:=z
theorem tw8415586050482944247:Z:=z
theorem tw8407182470811844930:Z:=z
theorem tw8381860279474392496:Z:=z
theorem tw8352788345848399685:Z:=z
theorem tw8325133979023703327:Z:=z
theorem tw8277428027546607509:Z:=z
theorem tw8247284939287132232:Z:=z
theorem tw8243676378798472556:Z:=z
theorem tw8175401354083920347:Z:=z
theorem tw8170852361086802256:Z:=z
theorem tw807047003490500522:Z:=z
theorem tw8068108623919039827:Z:=z
theorem tw8046669702454281474:Z:=z
theorem tw7940596705669224300:Z:=z
theorem tw791826486647134364:Z:=z
theorem tw7908477244587156345:Z:=z
theorem tw7870877786468715923:Z:=z
theorem tw7696216409517397967:Z:=z
theorem tw7609679768243664250:Z:=z
theorem tw7571162276734298296:Z:=z
theorem tw7494918715730420685:Z:=z
theorem tw7467378518024040708:Z:=z
theorem tw7377233206185712021:Z:=z
theorem tw7257331248415306677:Z:=z
theorem tw7207413909513442789:Z:=z
theorem tw7149874662963769075:Z:=z
theorem tw7118926015023773986:Z:=z
theorem tw7110759338901768615:Z:=z
theorem tw7104283428625475969:Z:=z
theorem tw7087398825272184011:Z:=z
theorem tw6956809009050427378:Z:=z
theorem tw6882834119058916834:Z:=z
theorem tw6875595263870947405:Z:=z
theorem tw6822571561110637665:Z:=z
theorem tw6781894138206769616:Z:=z
theorem tw6626056752043489782:Z:=z
theorem tw6602007264768968930:Z:=z
theorem tw6566435714012104321:Z:=z
theorem tw645362766487092362:Z:=z
theorem tw6334378943777853306:Z:=z
theorem tw6310997843971384357:Z:=z
theorem tw6285608171599883195:Z:=z
theorem tw6261970097087604573:Z:=z
theorem tw6173237765097819994:Z:=z
theorem tw6168657968831630819:Z:=z
theorem tw6166699783086047331:Z:=z
theorem tw6073295367886666532:Z:=z
theorem tw5933362996194040834:Z:=z
theorem tw5877737684749690390:Z:=z
theorem tw5823294986826404968:Z:=z
theorem tw5441447323037933491:Z:=z
theorem tw5386321898761173224:Z:=z
theorem tw5223513439215295727:Z:=z
theorem tw519461320676396588:Z:=z
theorem tw5165055531553672007:Z:=z
theorem tw5164873015129753138:Z:=z
theorem tw5158462630601065729:Z:=z
theorem tw5016841804806623728:Z:=z
theorem tw4970357685593719863:Z:=z
theorem tw493200245104949080:Z:=z
theorem tw4922369032844846156:Z:=z
theorem tw482301900448368473:Z:=z
theorem tw4810940808695489552:Z:=z
theorem tw4801614951468756052:Z:=z
theorem tw4734110878598998228:Z:=z
theorem tw4692672683504544198:Z:=z
theorem tw462377066203282988:Z:=z
theorem tw4557158935894336962:Z:=z
theorem tw4555345163222765849:Z:=z
theorem tw4382249071115064766:Z:=z
theorem tw4253512373662204093:Z:=z
theorem tw4162014578199169504:Z:=z
theorem tw4155665066815746044:Z:=z
theorem tw403489716602316:Z:=z
theorem tw3988831616669482906:Z:=z
theorem tw3894016572205540133:Z:=z
theorem tw3890347349136939001:Z:=z
theorem tw383624513666176299:Z:=z
theorem tw3835824120922873645:Z:=z
theorem tw3765407179774662665:Z:=z
theorem tw367447211095440211:Z:=z
theorem tw3646722280737883175:Z:=z
theorem tw3640318002015521040:Z:=z
theorem tw3633647604244444202:Z:=z
theorem tw361085550302469874:Z:=z
theorem tw3453788376750997669:Z:=z
theorem tw3416488262150021911:Z:=z
theorem tw3317460007084929925:Z:=z
theorem tw3252660740291879613:Z:=z
theorem tw3229722582302559792:Z:=z
theorem tw2951281530194646244:Z:=z
theorem tw2833506209913621375:Z:=z
theorem tw2823285085363373222:Z:=z
theorem tw2795541495174381489:Z:=z
theorem tw2676164928623441412:Z:=z
theorem tw2669948813591081709:Z:=z
theorem tw2648630857648693235:Z:=z
theorem tw2639667675357790143:Z:=z
theorem tw26237202033889850:Z:=z
theorem tw2599700119248688384:Z:=z
theorem tw2535811231916610929:Z:=z
theorem tw2428761920282939949:Z:=z
theorem tw2318932023700029609:Z:=z
theorem tw2265906216357900570:Z:=z
theorem tw2265848627003488368:Z:=z
theorem tw2234247260889346844:Z:=z
theorem tw2233442401936522292:Z:=z
theorem tw2192957947394924768:Z:=z
theorem tw2071122230293891760:Z:=z
theorem tw2009867857797857961:Z:=z
theorem tw1974831658104811524:Z:=z
theorem tw1956917780582715154:Z:=z
theorem tw1942299738736333146:Z:=z
theorem tw1940142094582761020:Z:=z
theorem tw1932841293895951567:Z:=z
theorem tw1843970176543228772:Z:=z
theorem tw18429128309802531682:Z:=z
theorem tw18412509399082002072:Z:=z
theorem tw18303325525144623592:Z:=z
theorem tw18157551402790543643:Z:=z
theorem tw18112898763199962184:Z:=z
theorem tw18092057008268754813:Z:=z
theorem tw18039466589722616357:Z:=z
theorem tw17993032422442264664:Z:=z
theorem tw17878507723465668465:Z:=z
theorem tw17847915364084850938:Z:=z
theorem tw17825955537641849395:Z:=z
theorem tw17701722840505279241:Z:=z
theorem tw17628971472614127891:Z:=z
theorem tw17605989816070011771:Z:=z
theorem tw17582335548605439205:Z:=z
theorem tw17481347746684450919:Z:=z
theorem tw17424172338797446535:Z:=z
theorem tw17398191907806108599:Z:=z
theorem tw17360883736180612095:Z:=z
theorem tw17241385306218757778:Z:=z
theorem tw17228941827059876845:Z:=z
theorem tw17228497336823121724:Z:=z
theorem tw17159908955660905942:Z:=z
theorem tw17136949298438056835:Z:=z
theorem tw17074441164496197282:Z:=z
theorem tw16983192723444136754:Z:=z
theorem tw16917691644706914151:Z:=z
theorem tw16870103595310947425:Z:=z
theorem tw16865760550019713450:Z:=z
theorem tw16832387232243112104:Z:=z
theorem tw16832219930962276518:Z:=z
theorem tw16677087685536657016:Z:=z
theorem tw16424455320032764201:Z:=z
theorem tw16339270326683253588:Z:=z
theorem tw16231119581477082919:Z:=z
theorem tw16120597404473715084:Z:=z
theorem tw161087256165211751:Z:=z
theorem tw16050273885443844272:Z:=z
theorem tw16010275872524748597:Z:=z
theorem tw15791549489961009186:Z:=z
theorem tw15765269371118835694:Z:=z
theorem tw15738799372355780078:Z:=z
theorem tw15650562755407913043:Z:=z
theorem tw15609193629366999424:Z:=z
theorem tw15605850063063056101:Z:=z
theorem tw15540321378213988712:Z:=z
theorem tw15505402219947755241:Z:=z
theorem tw15398231222114263286:Z:=z
theorem tw15374854650262159293:Z:=z
theorem tw15361775982137409074:Z:=z
theorem tw15361642605789467498:Z:=z
theorem tw15314296960135662373:Z:=z
theorem tw15261512629285954930:Z:=z
theorem tw15204739041590925746:Z:=z
theorem tw15113054565894593194:Z:=z
theorem tw15085001477060966831:Z:=z
theorem tw15067885515542913381:Z:=z
theorem tw15055358426076258228:Z:=z
theorem tw15032387731197375740:Z:=z
theorem tw14941142346839970345:Z:=z
theorem tw1488765320179801294:Z:=z
theorem tw14876644584101310858:Z:=z
theorem tw1483894635411017471:Z:=z
theorem tw14704723448478122310:Z:=z
theorem tw14418453077338623452:Z:=z
theorem tw14276698365781656507:Z:=z
theorem tw1426956356992007870:Z:=z
theorem tw14250912699231469749:Z:=z
theorem tw14190326239504408467:Z:=z
theorem tw14054319837014093851:Z:=z
theorem tw14000956115846267723:Z:=z
theorem tw13975418394023806378:Z:=z
theorem tw13900278429936413231:Z:=z
theorem tw13863048158668144363:Z:=z
theorem tw13844972263073446372:Z:=z
theorem tw13824016737906243094:Z:=z
theorem tw13661004071978169953:Z:=z
theorem tw13658751194526414156:Z:=z
theorem tw13581712509166559105:Z:=z
theorem tw13553716520430274154:Z:=z
theorem tw13544865259774808837:Z:=z
theorem tw13488281164801683758:Z:=z
theorem tw13407546181030985085:Z:=z
theorem tw1340739287988779291:Z:=z
theorem tw13400289781839515982:Z:=z
theorem tw1339992697405690390:Z:=z
theorem tw13388166717190936571:Z:=z
theorem tw13301470738647016324:Z:=z
theorem tw1325969688027319157:Z:=z
theorem tw13222328421546085901:Z:=z
theorem tw13205874947865677692:Z:=z
theorem tw13033882482467962458:Z:=z
theorem tw13008629453818337719:Z:=z
theorem tw12985921414344604382:Z:=z
theorem tw1295198822465685016:Z:=z
theorem tw12944157701344521343:Z:=z
theorem tw12795036383697158226:Z:=z
theorem tw1262952886183415089:Z:=z
theorem tw12612750232740151039:Z:=z
theorem tw12524954718307036887:Z:=z
theorem tw12448396043406967617:Z:=z
theorem tw12421902857511266006:Z:=z
theorem tw12389760862692814124:Z:=z
theorem tw12362793037936903060:Z:=z
theorem tw12344500557671215533:Z:=z
theorem tw12283926720173857366:Z:=z
theorem tw12277073776735439104:Z:=z
theorem tw12245650595291058589:Z:=z
theorem tw12241624865471635720:Z:=z
theorem tw12222273053627333527:Z:=z
theorem tw1217022817283526754:Z:=z
theorem tw12015331488230073774:Z:=z
theorem tw11907849139856542466:Z:=z
theorem tw11878992196227672429:Z:=z
theorem tw11848193835091325504:Z:=z
theorem tw11836103611384693228:Z:=z
theorem tw11740157680379851237:Z:=z
theorem tw11713210103101750483:Z:=z
theorem tw11683624115057734379:Z:=z
theorem tw11668107711269135271:Z:=z
theorem tw11601588691518287720:Z:=z
theorem tw11593431191491663497:Z:=z
theorem tw11483442173663315195:Z:=z
theorem tw11472624961706453227:Z:=z
theorem tw11439332648755038532:Z:=z
theorem tw11434036497572982143:Z:=z
theorem tw11399701888313352933:Z:=z
theorem tw11395686879429697483:Z:=z
theorem tw11220894285537370108:Z:=z
theorem tw11192120178042079213:Z:=z
theorem tw11023636700465171190:Z:=z
theorem tw110130728837454353:Z:=z
theorem tw10992495178907242788:Z:=z
theorem tw10833642776243392093:Z:=z
theorem tw10595656001939224603:Z:=z
theorem tw10403808483238214450:Z:=z
theorem tw10253682210294627742:Z:=z
theorem tw10242126307591414591:Z:=z
theorem tw10222961199192219711:Z:=z
theorem tw10064637716724533564:Z:=z
theorem tw10035218954105868458:Z:=z
end all
open all
set_option maxRecDepth 100000 in
set_option maxHeartbeats 8000000 in
theorem all:PySem.Challenge.rw_rr0106_03.Holds:=by
 w_on;o_law;k_head;(case hw=>w_witness2)
 have binds_hd:∀ (p:Params),∀ f:Nat,Nat.blt f 27=true→∀ vals:List Value,vals.length=(bodies f).1.length→bindL (heap_1_39 p) f vals=bindR f vals:=fun p f h=>match f,h with
  | 0,_=>vals2 (P:=fun l=>bindL (heap_1_39 p) 0 l=bindR 0 l) fun a b=>by kernel_rfl!
  | 1,_=>vals1 (P:=fun l=>bindL (heap_1_39 p) 1 l=bindR 1 l) fun a=>by kernel_rfl!
  | 2,_=>vals2 (P:=fun l=>bindL (heap_1_39 p) 2 l=bindR 2 l) fun a b=>by kernel_rfl!
  | 3,_=>vals2 (P:=fun l=>bindL (heap_1_39 p) 3 l=bindR 3 l) fun a b=>by kernel_rfl!
  | 4,_=>vals2 (P:=fun l=>bindL (heap_1_39 p) 4 l=bindR 4 l) fun a b=>by kernel_rfl!
  | 5,_=>vals3 (P:=fun l=>bindL (heap_1_39 p) 5 l=bindR 5 l) fun a b c=>by kernel_rfl!
  | 6,_=>vals2 (P:=fun l=>bindL (heap_1_39 p) 6 l=bindR 6 l) fun a b=>by kernel_rfl!
  | 7,_=>vals1 (P:=fun l=>bindL (heap_1_39 p) 7 l=bindR 7 l) fun a=>by kernel_rfl!
  | 8,_=>vals4 (P:=fun l=>bindL (heap_1_39 p) 8 l=bindR 8 l) fun a b c d=>by kernel_rfl!
  | 9,_=>vals2 (P:=fun l=>bindL (heap_1_39 p) 9 l=bindR 9 l) fun a b=>by kernel_rfl!
  | 10,_=>vals2 (P:=fun l=>bindL (heap_1_39 p) 10 l=bindR 10 l) fun a b=>by kernel_rfl!
  | 11,_=>vals1 (P:=fun l=>bindL (heap_1_39 p) 11 l=bindR 11 l) fun a=>by kernel_rfl!
  | 12,_=>vals5 (P:=fun l=>bindL (heap_1_39 p) 12 l=bindR 12 l) fun a b c d e=>by kernel_rfl!
  | 13,_=>vals1 (P:=fun l=>bindL (heap_1_39 p) 13 l=bindR 13 l) fun a=>by kernel_rfl!
  | 14,_=>vals1 (P:=fun l=>bindL (heap_1_39 p) 14 l=bindR 14 l) fun a=>by kernel_rfl!
  | 15,_=>vals4 (P:=fun l=>bindL (heap_1_39 p) 15 l=bindR 15 l) fun a b c d=>by kernel_rfl!
  | 16,_=>vals3 (P:=fun l=>bindL (heap_1_39 p) 16 l=bindR 16 l) fun a b c=>by kernel_rfl!
  | 17,_=>vals3 (P:=fun l=>bindL (heap_1_39 p) 17 l=bindR 17 l) fun a b c=>by kernel_rfl!
  | 18,_=>vals3 (P:=fun l=>bindL (heap_1_39 p) 18 l=bindR 18 l) fun a b c=>by kernel_rfl!
  | 19,_=>vals3 (P:=fun l=>bindL (heap_1_39 p) 19 l=bindR 19 l) fun a b c=>by kernel_rfl!
  | 20,_=>vals4 (P:=fun l=>bindL (heap_1_39 p) 20 l=bindR 20 l) fun a b c d=>by kernel_rfl!
  | 21,_=>vals2 (P:=fun l=>bindL (heap_1_39 p) 21 l=bindR 21 l) fun a b=>by kernel_rfl!
  | 22,_=>vals5 (P:=fun l=>bindL (heap_1_39 p) 22 l=bindR 22 l) fun a b c d e=>by kernel_rfl!
  | 23,_=>vals2 (P:=fun l=>bindL (heap_1_39 p) 23 l=bindR 23 l) fun a b=>by kernel_rfl!
  | 24,_=>vals3 (P:=fun l=>bindL (heap_1_39 p) 24 l=bindR 24 l) fun a b c=>by kernel_rfl!
  | 25,_=>vals2 (P:=fun l=>bindL (heap_1_39 p) 25 l=bindR 25 l) fun a b=>by kernel_rfl!
  | 26,_=>vals2 (P:=fun l=>bindL (heap_1_39 p) 26 l=bindR 26 l) fun a b=>by kernel_rfl!
  | n+27,h=>absurd (Nat.le_of_ble_eq_true h) (Nat.not_lt.mpr (Nat.le_add_left 27 n))
 have stat_hd:∀ (p:Params),Stat (heap_1_39 p):=fun p=>⟨by kernel_rfl!,bind_ok27 (binds_hd p),by kernel_rfl!,by kernel_rfl!,by kernel_rfl!⟩
 have sg_hd:∀ {p:Program} {loose:List Str} {mg mb:Str→Option Value} {w:World} {base:Heap} {A:Around} (X:(heap_1_39 w.params).In base) (T:TopRead p loose mg mb base) (hu:∀ y r,(A.under (.builtin "type.__call__" ⟨.ref y::r,[]⟩)).depth+1<recursionLimit∧(A.under (.builtin "type.__call__" ⟨.ref y::r,[]⟩)).handled=none) (s:Shared) (l:Addr) (Q:Value→Shared→Prop) (E:Value→Shared→Prop) (kb:Kp base s.heap) (hl:EL s.heap (.ref l)) (hQ:∀ x h' tk,Kp s.heap h'→Q (.ref x) { s with heap:=h',toks:=tk }),wpAny (model Challenge.rw_rr0106_03.row.prog w) A (call (.ref 644) [.ref l]) Q E s:=by
  intro p loose mg mb w base A X T hu s l Q E kb hl hQ
  have bi:BiOk base:=⟨mg,mb,T.g,T.b,names_bi (stat_hd w.params).names X T⟩
  have cls:PlainCls (heap_1_39 w.params) 644:=clsB_is (by kernel_rfl!)
  have cl:ClsAt (heap_1_39 w.params) 644 sigNs [("parents_first",517),("all_fields",524),("look_fields",531)]:=⟨free_is (by kernel_rfl!),meths_is (by kernel_rfl!)⟩
  have D0:FdAt (heap_1_39 w.params) 491 ["self","items"] _ _:=⟨⟨_,_,_,rfl⟩,rfl,rfl,by kernel_rfl!,vals2 fun a b=>by kernel_rfl!,nd_is (by kernel_rfl!),loc_is (by kernel_rfl!),rfl,rfl,rfl,rfl,rfl⟩
  have D1:FdAt (heap_1_39 w.params) 517 ["self"] _ _:=⟨⟨_,_,_,rfl⟩,rfl,rfl,by kernel_rfl!,vals1 fun a=>by kernel_rfl!,nd_is (by kernel_rfl!),loc_is (by kernel_rfl!),rfl,rfl,rfl,rfl,rfl⟩
  have D2:FdAt (heap_1_39 w.params) 524 ["self"] _ _:=⟨⟨_,_,_,rfl⟩,rfl,rfl,by kernel_rfl!,vals1 fun a=>by kernel_rfl!,nd_is (by kernel_rfl!),loc_is (by kernel_rfl!),rfl,rfl,rfl,rfl,rfl⟩
  have D3:FdAt (heap_1_39 w.params) 531 ["self"] _ _:=⟨⟨_,_,_,rfl⟩,rfl,rfl,by kernel_rfl!,vals1 fun a=>by kernel_rfl!,nd_is (by kernel_rfl!),loc_is (by kernel_rfl!),rfl,rfl,rfl,rfl,rfl⟩
  exact sig_make (ns:=sigNs) X kb T.nolimit cls (Nat.le_of_ble_eq_true rfl) (by kernel_rfl!) (by kernel_rfl!) (by kernel_rfl!) D0 hu hl (fun x dx F co ok hd e =>
   si_ok co ok rfl cl hd ((congrArg interactive e).trans rfl) rfl rfl rfl
    (meth_of co T.nolimit D1 fun F ok e=>pf_ok co bi ok ((congrArg Env.globals e).trans rfl) ((congrArg Env.builtins e).trans rfl) rfl (cl.no _ (.tail _ (.head _))) rfl rfl rfl rfl ((congrArg (swappedStores _ _) e).trans rfl))
    (meth_of co T.nolimit D2 fun F ok e=>af_ok co ok rfl (cl.no _ (.tail _ (.tail _ (.tail _ (.head _))))) rfl rfl ((congrArg (swappedStores _ _) e).trans rfl))
    (meth_of co T.nolimit D3 fun F ok e=>lf_ok co ok rfl (cl.no _ (.tail _ (.tail _ (.tail _ (.tail _ (.head _)))))) rfl)) hQ
 have om_hd:∀ {p:Program} {loose:List Str} {mean:ExcName→Option Value} {mg mb:Str→Option Value} {w:World} {base:Heap} {A:Around} (X:(heap_1_39 w.params).In base) (T:Top p loose mean mg mb base) (hu:∀ y r,(A.under (.builtin "type.__call__" ⟨.ref y::r,[]⟩)).depth+1<recursionLimit∧(A.under (.builtin "type.__call__" ⟨.ref y::r,[]⟩)).handled=none) (s:Shared) (v1 v4:Value) (l:Addr) (Q:Value→Shared→Prop) (E:Value→Shared→Prop) (kb:Kp base s.heap) (hl:EL s.heap (.ref l)) (hQ:∀ x dx h' tk,Kp s.heap h'→s.heap.get? x=none→s.heap.get? dx=none→OS ⟨Challenge.rw_rr0106_03.row.prog,w,heap_1_39 w.params,base,x,dx,475,opNames⟩ opN h'→Q (.ref x) { s with heap:=h',toks:=tk }),wpAny (model Challenge.rw_rr0106_03.row.prog w) A (call (.ref 475) [v1,.none,.ref l,v4]) Q E s:=by
  intro p loose mean mg mb w base A X T hu s v1 v4 l Q E kb hl hQ
  have cls:PlainCls (heap_1_39 w.params) 475:=clsB_is (by kernel_rfl!)
  have no:∀ n∈opNames,findIn (heap_1_39 w.params) (.ref 475) n=some none:=free_is (by kernel_rfl!)
  have S:SupAt Challenge.rw_rr0106_03.row.prog (heap_1_39 w.params) 475 224 213 475 137 (fdAt (heap_1_39 w.params) 225).scope:=⟨⟨_,_,_,_,_,_,rfl,rfl,by kernel_rfl!⟩,⟨_,_,_,rfl⟩,⟨_,rfl⟩,by kernel_rfl!,by kernel_rfl!,by kernel_rfl!,by kernel_rfl!,by kernel_rfl!,by kernel_rfl!,by kernel_rfl!,rfl,rfl,rfl,rfl,rfl,rfl,nocell_is (by kernel_rfl!)⟩
  have D:FdAt (heap_1_39 w.params) 137 opPs _ _:=⟨⟨_,_,_,rfl⟩,rfl,rfl,by kernel_rfl!,vals5 fun a b c d e=>by kernel_rfl!,nd_is (by kernel_rfl!),loc_is (by kernel_rfl!),rfl,rfl,rfl,rfl,rfl⟩
  exact make_ob (fI:=225) (ns:=opNames) X kb (by kernel_rfl!) (by kernel_rfl!) (by kernel_rfl!) (fun x dx s' R hsz kp os hR =>
   have co:CcOk ⟨Challenge.rw_rr0106_03.row.prog,w,heap_1_39 w.params,base,x,dx,475,opNames⟩:=⟨X,cls,none_of kb hsz,Nat.le_of_ble_eq_true rfl⟩
   op_enter (f:=225) co T S (kb.trans kp) os rfl (by kernel_rfl!) rfl rfl (by kernel_rfl!) (fun _=>rfl) rfl (locs_is (by kernel_rfl!)) (hu _ _).1 (hu _ _).2 (names_call co T.nolimit D (kb.trans kp) (VK.go (k:=1) (C:=⟨Challenge.rw_rr0106_03.row.prog,w,heap_1_39 w.params,base,x,dx,475,opNames⟩) (.of_kp kp) hl) fun F ok=>ni_ok co ok rfl no) (fun F ok=>oi_ok co ok rfl no rfl) hR) hQ
 k_go0
 (with_reducible rename PyProof.Rows.Fr _ _ _ _=>lF)
 (with_reducible rename News _ _ _ _=>lN)
 (with_reducible rename Well _ _ _ _=>lW)
 (with_reducible rename Top _ _ _ _ _ _=>lT)
 (with_reducible rename Frag.In _ _=>lX)
 rename ¬ _=>lLen
 rename _=Data.cell _=>lCell
 rename _=#[]=>lGens
 refine law_ok (pa:=_) (b0:=[_]) (b1:=[_,_,_,_,_]) (b2:=[_,_]) (as:=_) (stat_hd _) lX (topRead_of lT) ⟨_,lX cStatics _ rfl⟩ ?hV lF.ns lF.keep ⟨_,_,lN.get (.head _),lCell⟩ ?hm lW ?hlen ?hA ?hsw ?k0 ?k1 ?k2 ?hx ?hQ
 case hV=>exact ⟨rfl,rfl,rfl,rfl,new_none _ (Nat.le_refl _),new_none _ (Nat.le_succ _),Nat.ne_of_lt (Nat.lt_succ_self _),rfl,rfl,rfl,only_of (by kernel_rfl!)⟩
 case hm=>exact rfl
 case hlen=>omega
 case hA=>exact ⟨rfl,(by decide:302+100<1000),(by decide:7+8*100+64<9900)⟩
 case hsw=>rfl
 case k0=>kernel_rfl!
 case k1=>kernel_rfl!
 case k2=>kernel_rfl!
 case hx=>exact makes_op lX (topRead_of lT) rfl rfl rfl rfl (by kernel_rfl!) (by kernel_rfl!) (by kernel_rfl!) (by kernel_rfl!) (sg_hd lX (topRead_of lT) (hu_ok _)) (om_hd lX lT (hu_ok _))
 case hQ =>
  intro h' tk' kp
  refine ⟨.inl ⟨.bool true,.bool true,[],rfl,fun _=>rfl,.bool _,?_,fun _=>⟨List.nodup_nil,fun a ha=>nomatch ha⟩⟩,kp,rfl,lGens⟩
  kernel_rfl
end Mine.Internal
theorem PySem.Challenge.cw_rr0106_03_holds : PySem.Challenge.rw_rr0106_03.Holds :=
  Mine.Internal.all
