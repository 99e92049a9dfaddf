import PyProof.Rows.All
import PyProof.ExcBaseAll.Exception
import PyProof.ExcAttrAll.Exception
import PyProof.ExcClass3
import PyProof.ExcInit
import PyProof.InstStoreFacts
import OpenK.KCls
import Open.Head
import Open.FastLooks
import Open.Line
import Open.Boot
import Open.FastRun
import Open.FastT9
import Wide.All
import Lean
import PySem.Challenge.RW_pq0854_01
set_option Elab.async false
set_option linter.all false
section
set_option genInjectivity false
set_option genSizeOf false
namespace Mine
inductive V where
  | none | bool (b:Bool) | int (i:Int) | str (l:List Nat)
  | tup (vs:List V) | lst (vs:List V) | ref (n:Nat)
  | tok (s v l:V) | fn (f:Nat)
deriving Inhabited
abbrev H:=List (List V)
inductive R (α:Type) where
  | stuck
  | ok (a:α) (h:H)
  | pf (w:List Nat) (l:Int) (h:H)
deriving Inhabited
noncomputable def R.bind {α β:Type} (r:R α) (f:α→H→R β):R β:=match r with
  | .stuck=>.stuck
  | .ok a h=>f a h
  | .pf w l h=>.pf w l h
inductive BO where | add | sub | mul | fdiv | mod | pow | shr | band
deriving DecidableEq
inductive CO where | eq | ne | lt | le | gt | ge | isin | notin
deriving DecidableEq
inductive P1 where | len | ord | chr | sum | min | str | lower | tuple | isint | clear | pop
deriving DecidableEq
inductive P2 where | max | find | count | split | lstrip | join | append
deriving DecidableEq
inductive P3 where | find | get
deriving DecidableEq
mutual
inductive ME where
  | none | bool (b:Bool) | int (i:Int) | str (l:List Nat)
  | var (i:Nat) | glob (f:Nat)
  | bin (o:BO) (a b:ME)
  | cmp (o:CO) (a b:ME)
  | cmp2 (o p:CO) (a b c:ME)
  | isnone (a:ME) | notnone (a:ME)
  | and (a b:ME) | or (a b:ME) | not (a:ME) | neg (a:ME)
  | ite (t a b:ME)
  | idx (a i:ME)
  | slc (a lo hi:ME)
  | slst (a lo st:ME)
  | attr (a:ME) (f:Nat)
  | call (f:Nat) (as:MEs)
  | callv (i:Nat) (as:MEs)
  | mk (as:MEs)
  | p1 (p:P1) (a:ME) | p2 (p:P2) (a b:ME) | p3 (p:P3) (a b c:ME)
  | tup (es:MEs) | list (es:MEs) | cell (es:MEs)
  | dead
  | comp (caps:List Nat) (it elt cond:ME)
  | getI (kvs:List (Int×List Nat)) (k d:Nat)
inductive MEs where
  | nil
  | cons (e:ME) (r:MEs)
end
inductive MS where
  | skip
  | seq (a b:MS)
  | assign (i:Nat) (e:ME)
  | unpack (is:List Nat) (e:ME)
  | pair (i j:Nat) (a b:ME)
  | aug (i:Nat) (o:BO) (e:ME)
  | setidx (a i e:ME)
  | ite (t:ME) (a b:MS)
  | while (t:ME) (b:MS)
  | for (x:Nat) (it:ME) (b:MS)
  | forT (is:List Nat) (it:ME) (b:MS)
  | forR (x:Nat) (lo hi:ME) (b:MS)
  | ret (e:ME)
  | raise (why line:ME)
  | raiseEnd (line:ME)
  | expr (e:ME)
  | tryR (i:Nat) (e:ME)
  | dictIf (i:Nat) (kvs:List (List Nat×List Nat)) (c:Nat) (e:ME)
  | dead
abbrev L:=List (Option V)
inductive Fl where
  | next (loc:L)
  | ret (v:V)
deriving Inhabited
noncomputable def big:Nat:=Classical.choose (⟨1048576,rfl⟩:∃ n,n=1048576)
noncomputable def bigN:Nat:=1048576
theorem k7:big=1048576:=Classical.choose_spec (⟨1048576,rfl⟩:∃ n,n=1048576)
theorem S4 {n:Nat} (h:n≤bigN):n≤big:=k7▸h
noncomputable def clip (n:Nat) (i:Int):Nat:=(max 0 (min (if i < 0 then i+n else i) n)).toNat
noncomputable def loAt {α:Type} (l:List α) (lo:Option Int):Nat:=match lo with | none=>0 | some i=>clip l.length i
noncomputable def hiAt {α:Type} (l:List α) (hi:Option Int):Nat:=match hi with | none=>l.length | some j=>clip l.length j
noncomputable def sliceL {α:Type} (l:List α) (lo hi:Option Int):List α:=(l.drop (loAt l lo)).take (hiAt l hi - loAt l lo)
noncomputable def startsWith (l p:List Nat):Bool:=l.take p.length==p
noncomputable def findFrom (p:List Nat):List Nat→Nat→Option Nat
  | [],i=>if p==[] then some i else none
  | c::r,i=>if startsWith (c::r) p then some i else findFrom p r (i+1)
noncomputable def findL (l p:List Nat) (i:Nat):Int:=if i≤l.length then (match findFrom p (l.drop i) i with | some k=>(k:Int) | none=>-1) else -1
noncomputable def lowerC (c:Nat):Nat:=if 65≤c∧c≤90 then c+32 else c
noncomputable def splitC (c:Nat):List Nat→List Nat→List (List Nat)
  | [],acc=>[acc.reverse]
  | d::r,acc=>if d==c then acc.reverse::splitC c r [] else splitC c r (d::acc)
noncomputable def textOf (i:Int):List Nat:=(toString i).toList.map Char.toNat
noncomputable def joinL:List V→Option (List Nat)
  | []=>some []
  | .str x::r=>(joinL r).map (x++·)
  | _::_=>none
noncomputable def stepIdx (n:Nat) (j k:Int):List Nat:=(List.range (if max 0 (min j n) < n then ((n:Int) - max 0 (min j n)+k - 1) / k else 0).toNat).map fun (i:Nat)=>(max 0 (min j n)+k * (i:Int)).toNat
noncomputable def stepL {α:Type} (l:List α) (j k:Int):List α:=(stepIdx l.length j k).filterMap fun i=>l[i]?
noncomputable def boolOf:V→Option Bool | .bool b=>some b | _=>none
noncomputable def intOf:V→Option Int | .int b=>some b | _=>none
noncomputable def txtOf:V→Option (List Nat) | .str b=>some b | _=>none
noncomputable def tupOf:V→Option (List V) | .tup b=>some b | _=>none
noncomputable def lstOf:V→Option (List V) | .lst b=>some b | _=>none
noncomputable def refOf:V→Option Nat | .ref b=>some b | _=>none
noncomputable def fnOf:V→Option Nat | .fn b=>some b | _=>none
noncomputable def listAt (h:H):V→Option (List V) | .lst l=>some l | .ref n=>h[n]? | _=>none
noncomputable def isN:V→Bool | .none=>true | _=>false
noncomputable def isS:V→Bool | .none=>false | _=>true
noncomputable def pick {α:Type} (a b:Option α):Option α:=match a with | some x=>some x | none=>b
noncomputable def ints2 {β:Type} (a b:V) (k:Int→Int→Option β):Option β:=(intOf a).bind fun x=>(intOf b).bind fun y=>k x y
noncomputable def strs2 {β:Type} (a b:V) (k:List Nat→List Nat→Option β):Option β:=(txtOf a).bind fun x=>(txtOf b).bind fun y=>k x y
noncomputable def ofK {α β:Type} (o:Option α) (k:α→R β):R β:=match o with | some v=>k v | none=>.stuck
noncomputable def ofO {α:Type} (o:Option α) (h:H):R α:=ofK o fun v=>.ok v h
noncomputable def okR {α β:Type} (r:R α) (k:α→H→R β):R β:=match r with | .ok a h=>k a h | _=>.stuck
noncomputable def ifR {α:Type} (o:Option Bool) (a b:R α):R α:=ofK o fun t=>if t=true then a else b
noncomputable def items (h:H) (v:V):Option (List V):=pick (tupOf v) (pick (listAt h v) ((txtOf v).map fun l=>l.map fun c=>.str [c]))
noncomputable def plainV (h:H):Nat→V→Option V
  | 0,_=>none
  | _+1,.none=>some .none
  | _+1,.bool b=>some (.bool b)
  | _+1,.int i=>some (.int i)
  | _+1,.str l=>some (.str l)
  | k+1,.tup vs=>(vs.mapM (plainV h k)).map .tup
  | k+1,.lst vs=>(vs.mapM (plainV h k)).map .lst
  | k+1,.ref n=>(h[n]?).bind fun vs=>(vs.mapM (plainV h k)).map .lst
  | _+1,_=>none
open Classical in
noncomputable def eqD (h:H) (a b:V):Option Bool:=(plainV h 8 a).bind fun x=>(plainV h 8 b).bind fun y=>if x=y then some true else
  (lstOf x).bind fun l=>(lstOf y).bind fun m=>if l.isEmpty=false∧m=[] then some false else none
noncomputable def eqV (h:H) (a b:V):Option Bool:=pick (strs2 a b fun x y=>some (x==y)) (pick (ints2 a b fun x y=>some (x==y)) (pick ((boolOf a).bind fun x=>(boolOf b).bind fun y=>some (x==y)) (eqD h a b)))
noncomputable def strsOf:List V→Option (List (List Nat))
  | []=>some []
  | .str p::r=>(strsOf r).map (p::·)
  | _::_=>none
noncomputable def intsOf:List V→Option (List Int)
  | []=>some []
  | .int p::r=>(intsOf r).map (p::·)
  | _::_=>none
noncomputable def in1 (l:List Nat):List Nat→Option Bool | []=>some true | [c]=>some (l.contains c) | _=>none
noncomputable def inStrs (vs:List V) (p:List Nat):Option Bool:=(strsOf vs).map fun ys=>ys.any (·==p)
noncomputable def inV (x y:V):Option Bool:=pick ((txtOf y).bind fun l=>(txtOf x).bind (in1 l)) (pick ((tupOf y).bind fun vs=>(txtOf x).bind (inStrs vs))
  ((lstOf y).bind fun vs=>pick ((txtOf x).bind (inStrs vs)) ((intOf x).bind fun p=>(intsOf vs).map fun ys=>ys.any (·==p))))
noncomputable def cmpV (o:CO) (h:H) (a b:V):Option Bool:=match o with
  | .eq=>eqV h a b
  | .ne=>(eqV h a b).map (!·)
  | .isin=>inV a b
  | .notin=>(inV a b).map (!·)
  | .lt=>ints2 a b fun x y=>some (decide (x < y))
  | .le=>pick (ints2 a b fun x y=>some (decide (x≤y))) (strs2 a b fun x y=>some (!decide (y < x)))
  | .gt=>ints2 a b fun x y=>some (decide (y < x))
  | .ge=>ints2 a b fun x y=>some (decide (y≤x))
noncomputable def small (i:Int):Bool:=decide (-(2 ^ 62) < i)&&decide (i < 2 ^ 62)
noncomputable def binV (o:BO) (h:H) (a b:V):Option V:=match o with
  | .add=>pick (ints2 a b fun x y=>some (.int (x+y))) (pick (strs2 a b fun x y=>if x.length+y.length≤big then some (.str (x++y)) else none)
      ((listAt h a).bind fun x=>(lstOf b).bind fun y=>if x.length+y.length≤big then some (.lst (x++y)) else none))
  | .sub=>ints2 a b fun x y=>some (.int (x - y))
  | .mul=>pick (ints2 a b fun x y=>if small x=true∧small y=true then some (.int (x * y)) else none)
      ((txtOf a).bind fun x=>(intOf b).bind fun y=>if 0≤y∧y≤64∧x.length≤64 then some (.str (List.replicate y.toNat x).flatten) else none)
  | .fdiv=>ints2 a b fun x y=>if 0 < y∧y < 1073741824 then some (.int (x / y)) else none
  | .mod=>ints2 a b fun x y=>if 0 < y then some (.int (x % y)) else none
  | .pow=>ints2 a b fun x y=>if x=2∧y=63 then some (.int 9223372036854775808) else none
  | .shr=>ints2 a b fun x y=>if 0≤x∧0≤y∧y≤64∧small x=true then some (.int (x / 2 ^ y.toNat)) else none
  | .band=>ints2 a b fun x y=>if 0≤x∧0≤y then some (.int ((x.toNat &&& y.toNat:Nat):Int)) else none
noncomputable def truth (h:H) (v:V):Option Bool:=pick (boolOf v) ((refOf v).bind fun n=>(h[n]?).map (!·.isEmpty))
noncomputable def atL {α:Type} (l:List α) (k:Int):Option α:=if 0≤k then l[k.toNat]? else none
noncomputable def atE {α:Type} (l:List α) (k:Int):Option α:=if 0≤k then l[k.toNat]? else if -k≤l.length then l[(k+l.length).toNat]? else none
noncomputable def idxV (h:H) (a i:V):Option V:=(intOf i).bind fun k=>pick ((txtOf a).bind fun l=>(atL l k).map fun c=>.str [c]) (pick ((tupOf a).bind fun l=>atL l k) ((listAt h a).bind fun l=>atE l k))
noncomputable def bnd:V→Option (Option Int)
  | .none=>some none
  | .int i=>some (some i)
  | _=>none
noncomputable def slcV (a lo hi:V):Option V:=(bnd lo).bind fun x=>(bnd hi).bind fun y=>pick ((txtOf a).map fun l=>.str (sliceL l x y)) ((lstOf a).map fun l=>.lst (sliceL l x y))
noncomputable def slstV (a lo st:V):Option V:=(lstOf a).bind fun l=>ints2 lo st fun j k=>if 0≤j∧0 < k then some (.lst (stepL l j k)) else none
noncomputable def ord1:List Nat→Option V | [c]=>some (.int c) | _=>none
noncomputable def p1O (p:P1) (a:V) (h:H):Option (V×H):=match p with
  | .len=>pick ((txtOf a).map fun l=>(.int l.length,h)) (pick ((listAt h a).map fun l=>(.int l.length,h)) ((tupOf a).map fun l=>(.int l.length,h)))
  | .ord=>((txtOf a).bind ord1).map fun v=>(v,h)
  | .chr=>(intOf a).bind fun i=>if 0≤i∧i < 1114112 then some (.str [i.toNat],h) else none
  | .sum=>(lstOf a).bind fun l=>(intsOf l).map fun is=>(.int is.sum,h)
  | .min=>(lstOf a).bind fun l=>(intsOf l).bind fun is=>(is.min?).map fun m=>(.int m,h)
  | .str=>(intOf a).bind fun i=>if small i=true then some (.str (textOf i),h) else none
  | .lower=>(txtOf a).bind fun l=>if l.all (fun c=>decide (c < 128))=true then some (.str (l.map lowerC),h) else none
  | .tuple=>(refOf a).bind fun n=>(h[n]?).map fun l=>(.tup l,h)
  | .isint=>pick ((intOf a).map fun _=>(.bool true,h)) ((txtOf a).map fun _=>(.bool false,h))
  | .clear=>(refOf a).bind fun n=>(h[n]?).map fun _=>(.none,h.set n [])
  | .pop=>(refOf a).bind fun n=>(h[n]?).bind fun l=>(l.getLast?).map fun v=>(v,h.set n l.dropLast)
noncomputable def p1V (p:P1) (a:V) (h:H):R V:=ofK (p1O p a h) fun q=>.ok q.1 q.2
noncomputable def cnt1 (l:List Nat):List Nat→Option V | [c]=>some (.int (l.count c)) | _=>none
noncomputable def spl1 (l:List Nat):List Nat→Option V | [c]=>if l.length < big then some (.lst ((splitC c l []).map .str)) else none | _=>none
noncomputable def p2O (p:P2) (a b:V) (h:H):Option (V×H):=match p with
  | .max=>ints2 a b fun x y=>some (.int (if x < y then y else x),h)
  | .find=>strs2 a b fun l p=>some (.int (findL l p 0),h)
  | .count=>strs2 a b fun l p=>(cnt1 l p).map fun v=>(v,h)
  | .split=>strs2 a b fun l p=>(spl1 l p).map fun v=>(v,h)
  | .lstrip=>strs2 a b fun l p=>some (.str (l.dropWhile p.contains),h)
  | .join=>(txtOf a).bind fun s=>(refOf b).bind fun n=>(h[n]?).bind fun l=>(joinL l).bind fun x=>if s=[]∧x.length≤big then some (.str x,h) else none
  | .append=>(refOf a).bind fun n=>(h[n]?).bind fun l=>if l.length < big then some (.none,h.set n (l++[b])) else none
noncomputable def p2V (p:P2) (a b:V) (h:H):R V:=ofK (p2O p a b h) fun q=>.ok q.1 q.2
noncomputable def p3O (p:P3) (a b c:V) (h:H):Option (V×H):=match p with
  | .find=>strs2 a b fun l p=>(intOf c).bind fun i=>if 0≤i∧i≤big∧p≠[] then some (.int (findL l p i.toNat),h) else none
  | .get=>none
noncomputable def p3V (p:P3) (a b c:V) (h:H):R V:=ofK (p3O p a b c h) fun q=>.ok q.1 q.2
noncomputable def attrV (a:V) (f:Nat):Option V:=match a with
  | .tok s v l=>match f with | 0=>some s | 1=>some v | 2=>some l | _=>none
  | _=>none
noncomputable def isStrV:V→Bool | .str _=>true | _=>false
noncomputable def isRefV:V→Bool | .ref _=>true | _=>false
noncomputable def recv2 (p:P2) (x:V):Bool:=match p with | .max=>true | .append=>isRefV x | _=>isStrV x
abbrev Calls:=Nat→List V→H→R V
noncomputable def cloop (elt cond:V→H→R V):List V→H→List V→R V
  | [],h,acc=>.ok (.lst acc) h
  | v::r,h,acc=>okR (cond v h) fun b h₁=>ifR (boolOf b) (okR (elt v h₁) fun x h₂=>cloop elt cond r h₂ (acc++[x])) (cloop elt cond r h₁ acc)
noncomputable def getV (loc:L) (i:Nat):Option V:=(loc[i]?).bind id
noncomputable def capVals (loc:L):List Nat→Option L
  | []=>some []
  | i::r=>(getV loc i).bind fun v=>(capVals loc r).map (some v::·)
noncomputable def varR (o:Option (Option V)) (h:H):R V:=ofO (o.bind id) h
noncomputable def boolR (y:V) (h:H):R V:=ofK (boolOf y) fun c=>.ok (.bool c) h
noncomputable def andR (x:V) (h:H) (m:R V):R V:=ofK (boolOf x) fun c=>if c=true then m.bind boolR else .ok (.bool false) h
noncomputable def orR (x:V) (h:H) (m:R V):R V:=ofK (boolOf x) fun c=>if c=true then .ok (.bool true) h else m.bind boolR
noncomputable def notR (x:V) (h:H):R V:=ofK (boolOf x) fun c=>.ok (.bool (!c)) h
noncomputable def negR (x:V) (h:H):R V:=ofK (intOf x) fun i=>.ok (.int (-i)) h
noncomputable def noneR (x:V) (h:H):R V:=.ok (.bool (isN x)) h
noncomputable def someR (x:V) (h:H):R V:=.ok (.bool (isS x)) h
noncomputable def tokOf:List V→Option V | [a,b,c]=>some (.tok a b c) | _=>none
noncomputable def mkR (vs:List V) (h:H):R V:=ofO (tokOf vs) h
noncomputable def getIV (kvs:List (Int×List Nat)) (loc:L) (k d:Nat):Option V:=(getV loc k).bind fun x=>(intOf x).bind fun n=>(getV loc d).map fun v=>(kvs.lookup n).elim v .str
mutual
noncomputable def mev (C:Calls):ME→L→H→R V
  | .none,_,h=>.ok .none h
  | .bool b,_,h=>.ok (.bool b) h
  | .int i,_,h=>.ok (.int i) h
  | .str l,_,h=>.ok (.str l) h
  | .var i,loc,h=>varR loc[i]? h
  | .glob f,_,h=>.ok (.fn f) h
  | .bin o a b,loc,h=>(mev C a loc h).bind fun x h=>(mev C b loc h).bind fun y h=>ofO (binV o h x y) h
  | .cmp o a b,loc,h=>(mev C a loc h).bind fun x h=>(mev C b loc h).bind fun y h=>ofO ((cmpV o h x y).map .bool) h
  | .cmp2 o p a b c,loc,h=>(mev C a loc h).bind fun x h=>(mev C b loc h).bind fun y h=>ifR (cmpV o h x y) ((mev C c loc h).bind fun z h=>ofO ((cmpV p h y z).map .bool) h) (.ok (.bool false) h)
  | .isnone a,loc,h=>(mev C a loc h).bind noneR
  | .notnone a,loc,h=>(mev C a loc h).bind someR
  | .and a b,loc,h=>(mev C a loc h).bind fun x h=>andR x h (mev C b loc h)
  | .or a b,loc,h=>(mev C a loc h).bind fun x h=>orR x h (mev C b loc h)
  | .not a,loc,h=>(mev C a loc h).bind notR
  | .neg a,loc,h=>(mev C a loc h).bind negR
  | .ite t a b,loc,h=>(mev C t loc h).bind fun x h=>ifR (truth h x) (mev C a loc h) (mev C b loc h)
  | .idx a i,loc,h=>(mev C a loc h).bind fun x h=>(mev C i loc h).bind fun y h=>ofO (idxV h x y) h
  | .slc a lo hi,loc,h=>(mev C a loc h).bind fun x h=>(mev C lo loc h).bind fun y h=>(mev C hi loc h).bind fun z h=>ofO (slcV x y z) h
  | .slst a lo st,loc,h=>(mev C a loc h).bind fun x h=>(mev C lo loc h).bind fun y h=>(mev C st loc h).bind fun z h=>ofO (slstV x y z) h
  | .attr a f,loc,h=>(mev C a loc h).bind fun x h=>ofO (attrV x f) h
  | .call f as,loc,h=>(mevs C as loc h).bind fun vs h=>C f vs h
  | .callv i as,loc,h=>ofK ((getV loc i).bind fnOf) fun f=>(mevs C as loc h).bind fun vs h=>C f vs h
  | .mk as,loc,h=>(mevs C as loc h).bind mkR
  | .p1 p a,loc,h=>(mev C a loc h).bind fun x h=>p1V p x h
  | .p2 p a b,loc,h=>(mev C a loc h).bind fun x h=>if recv2 p x=true then (mev C b loc h).bind fun y h=>p2V p x y h else .stuck
  | .p3 p a b c,loc,h=>(mev C a loc h).bind fun x h=>if isStrV x=true then (mev C b loc h).bind fun y h=>(mev C c loc h).bind fun z h=>p3V p x y z h else .stuck
  | .tup es,loc,h=>(mevs C es loc h).bind fun vs h=>.ok (.tup vs) h
  | .list es,loc,h=>(mevs C es loc h).bind fun vs h=>.ok (.lst vs) h
  | .cell es,loc,h=>(mevs C es loc h).bind fun vs h=>.ok (.ref h.length) (h++[vs])
  | .dead,_,_=>.stuck
  | .getI kvs k d,loc,h=>ofO (getIV kvs loc k d) h
  | .comp caps it elt cond,loc,h=>ofK (capVals loc caps) fun cvs=>(mev C it loc h).bind fun x h=>ofK (lstOf x) fun vs=>cloop (fun v h=>mev C elt (some v::cvs) h) (fun v h=>mev C cond (some v::cvs) h) vs h []
noncomputable def mevs (C:Calls):MEs→L→H→R (List V)
  | .nil,_,h=>.ok [] h
  | .cons e r,loc,h=>(mev C e loc h).bind fun x h=>(mevs C r loc h).bind fun xs h=>.ok (x::xs) h
end
noncomputable def setAll:List Nat→List V→L→Option L
  | [],[],loc=>some loc
  | i::r,v::vs,loc=>setAll r vs (loc.set i (some v))
  | _,_,_=>none
noncomputable def seqR (f:Fl) (h:H) (k:L→H→R Fl):R Fl:=match f with | .next loc=>k loc h | .ret v=>.ok (.ret v) h
noncomputable def wloop (test:L→H→R V) (body:L→H→R Fl):Nat→L→H→R Fl
  | 0,_,_=>.stuck
  | n+1,loc,h=>(test loc h).bind fun b h=>ifR (truth h b) ((body loc h).bind fun f h=>seqR f h (wloop test body n)) (.ok (.next loc) h)
noncomputable def floop (body:V→L→H→R Fl):List V→L→H→R Fl
  | [],loc,h=>.ok (.next loc) h
  | v::r,loc,h=>(body v loc h).bind fun f h=>seqR f h (floop body r)
noncomputable def rangeV (lo hi:V):Option (List V):=ints2 lo hi fun a b=>if -1000 < a∧a < big∧b < big∧-1000 < b then some ((List.range (b - a).toNat).map fun (i:Nat)=>V.int (a+(i:Int))) else none
noncomputable def unpR (is:List Nat) (loc:L) (v:V) (h:H):R Fl:=ofK (tupOf v) fun vs=>ofK (setAll is vs loc) fun loc=>.ok (.next loc) h
noncomputable def augR (i:Nat) (loc:L) (x y:V) (h:H):R Fl:=ofK (intOf x) fun x=>ofK (intOf y) fun y=>.ok (.next (loc.set i (some (.int (x+y))))) h
noncomputable def raiseR (x y:V) (h:H):R Fl:=ofK (txtOf x) fun w=>ofK (intOf y) fun l=>.pf w l h
noncomputable def endR (y:V) (h:H):R Fl:=ofK (intOf y) fun l=>.pf [115,121,110,116,97,120,32,101,114,114,111,114,44,32,117,110,101,120,112,101,99,116,101,100,32,101,110,100,32,111,102,32,102,105,108,101] l h
noncomputable def itemsR (o:Option (List V)) (k:List V→R Fl):R Fl:=ofK o k
noncomputable def placeOf (k:Int) (n:Nat):Option Nat:=if 0≤k∧k.toNat < n then some k.toNat else if k < 0∧-k≤n then some (n - (-k).toNat) else none
noncomputable def setR (loc:L) (x k v:V) (h:H):R Fl:=ofK (refOf x) fun n=>ofK (intOf k) fun k=>ofK (h[n]?) fun l=>ofK (placeOf k l.length) fun j=>.ok (.next loc) (h.set n (l.set j v))
noncomputable def tryK (i:Nat) (loc:L):R V→R Fl
  | .stuck=>.stuck
  | .ok v h=>.ok (.next (loc.set i (some v))) h
  | .pf w l h=>.ok (.ret (.tup [.str [114,101,102,117,115,101,100],.str w,.int l])) h
noncomputable def mex (C:Calls) (N:Nat):MS→L→H→R Fl
  | .skip,loc,h=>.ok (.next loc) h
  | .seq a b,loc,h=>(mex C N a loc h).bind fun f h=>seqR f h (mex C N b)
  | .assign i e,loc,h=>(mev C e loc h).bind fun v h=>.ok (.next (loc.set i (some v))) h
  | .unpack is e,loc,h=>(mev C e loc h).bind fun v h=>unpR is loc v h
  | .pair i j a b,loc,h=>(mev C a loc h).bind fun x h=>(mev C b loc h).bind fun y h=>.ok (.next ((loc.set j (some y)).set i (some x))) h
  | .aug i _ e,loc,h=>(mev C (.var i) loc h).bind fun x h=>(mev C e loc h).bind fun y h=>augR i loc x y h
  | .setidx a i e,loc,h=>(mev C e loc h).bind fun v h=>(mev C a loc h).bind fun x h=>(mev C i loc h).bind fun k h=>setR loc x k v h
  | .ite t a b,loc,h=>(mev C t loc h).bind fun x h=>ifR (truth h x) (mex C N a loc h) (mex C N b loc h)
  | .while t b,loc,h=>wloop (mev C t) (mex C N b) N loc h
  | .for x it b,loc,h=>(mev C it loc h).bind fun v h=>if isRefV v=true then .stuck else itemsR (items h v) fun vs=>floop (fun v loc h=>mex C N b (loc.set x (some v)) h) vs loc h
  | .forT is it b,loc,h=>(mev C it loc h).bind fun v h=>if isRefV v=true then .stuck else itemsR (items h v) fun vs=>floop (fun v loc h=>ofK ((tupOf v).bind fun ws=>setAll is ws loc) fun loc=>mex C N b loc h) vs loc h
  | .forR x lo hi b,loc,h=>(mev C lo loc h).bind fun a h=>(mev C hi loc h).bind fun c h=>itemsR (rangeV a c) fun vs=>floop (fun v loc h=>mex C N b (loc.set x (some v)) h) vs loc h
  | .ret e,loc,h=>(mev C e loc h).bind fun v h=>.ok (.ret v) h
  | .raise w l,loc,h=>(mev C w loc h).bind fun x h=>(mev C l loc h).bind fun y h=>raiseR x y h
  | .raiseEnd l,loc,h=>(mev C l loc h).bind endR
  | .expr e,loc,h=>(mev C e loc h).bind fun _ h=>.ok (.next loc) h
  | .dead,_,_=>.stuck
  | .dictIf i kvs c e,loc,h=>ofK ((getV loc c).bind txtOf) fun t=>(kvs.lookup t).elim (.ok (.next (loc.set i none)) h) fun v=>(mev C e (loc.set i none) h).bind fun x h=>.ok (.ret (.tup [.str v,x])) h
  | .tryR i e,loc,h=>tryK i loc (mev C e loc h)
noncomputable def frz (h:H) (n:Nat):Nat→V→Option V
  | 0,_=>none
  | k+1,.tup vs=>(vs.mapM (frz h n k)).map .tup
  | k+1,.lst vs=>(vs.mapM (frz h n k)).map .lst
  | k+1,.tok a b c=>(frz h n k a).bind fun a=>(frz h n k b).bind fun b=>(frz h n k c).bind fun c=>some (.tok a b c)
  | k+1,.ref m=>if m < n then some (.ref m) else (h[m]?).bind fun vs=>(vs.mapM (frz h n k)).map .lst
  | _+1,v=>some v
open Classical in
noncomputable def backO (h₀:H) (v:V) (h:H):Option (V×H):=if h.length=h₀.length then some (v,h)
  else if h.take h₀.length=h₀ then (frz h h₀.length 9 v).map fun v=>(v,h₀)
  else (frz h h₀.length 9 v).bind fun v=>((h.take h₀.length).mapM (fun c:List V=>c.mapM (frz h h₀.length 9))).map fun h=>(v,h)
noncomputable def back (h₀:H) (v:V) (h:H):R V:=ofK (backO h₀ v h) fun q=>.ok q.1 q.2
noncomputable def backPf (h₀:H) (w:List Nat) (l:Int) (h:H):R V:=ofK (backO h₀ .none h) fun q=>.pf w l q.2
structure FD where
  np:Nat
  nv:Nat
  body:MS
noncomputable def callR (h:H):R Fl→R V
  | .stuck=>.stuck
  | .ok (.ret v) h'=>back h v h'
  | .ok (.next _) h'=>back h .none h'
  | .pf w l h'=>backPf h w l h'
noncomputable def sem (T:Nat→Option FD) (N:Nat):Nat→Calls
  | 0,_,_,_=>.stuck
  | k+1,f,args,h=>ofK (T f) fun d=>if args.length=d.np then callR h (mex (sem T N k) N d.body (args.map some++List.replicate (d.nv - d.np) none) h) else .stuck
theorem t9 {T:Nat→Option FD} {N k f:Nat} {args:List V} {h:H} {d:FD} (hd:T f=some d) (hn:args.length=d.np):sem T N (k+1) f args h=callR h (mex (sem T N k) N d.body (args.map some++List.replicate (d.nv - d.np) none) h):=by
  show ofK (T f) _=_
  rw [hd]; exact if_pos hn
end Mine
end
section
set_option genInjectivity false
set_option genSizeOf false
namespace Mine
open PySem PySem.Spec PySem.Calls PyProof.Rows
structure Cfg where
  prog:Program
  w:World
  h₀:Heap
  mg:PySem.Str→Option Value
  mb:PySem.Str→Option Value
  fnA:Nat→Option Addr
  tokC:Addr
  pfC:Addr
abbrev Tri:=Value×Option Addr×Data
noncomputable def Obj.is (o:Obj) (x:Tri):Prop:=o.cls=x.1∧o.dict=x.2.1∧o.data=x.2.2
structure Gh where
  im:Addr→Option Tri
  σ:List Addr
noncomputable def Gh.le (g g':Gh):Prop:=(∀ a x,g.im a=some x→g'.im a=some x)∧∃ r,g'.σ=g.σ++r
theorem Gh.le_refl (g:Gh):g.le g:=⟨fun _ _ e=>e,[],by simp⟩
theorem Gh.le_trans {g₁ g₂ g₃:Gh} (a:g₁.le g₂) (b:g₂.le g₃):g₁.le g₃:=by
  obtain ⟨a1,r,a2⟩:=a
  obtain ⟨b1,t,b2⟩:=b
  exact ⟨fun x y e=>b1 x y (a1 x y e),r++t,by rw [b2,a2,List.append_assoc]⟩
theorem Gh.le_get {g g':Gh} (l:g.le g') {n:Nat} {a:Addr} (e:g.σ[n]?=some a):g'.σ[n]?=some a:=by
  obtain ⟨_,r,h⟩:=l
  have hn:n < g.σ.length:=(List.getElem?_eq_some_iff.mp e).1
  rw [h,List.getElem?_append_left hn,e]
noncomputable def strOf (l:List Nat):PySem.Str:=⟨l.toArray⟩
structure TokD where
  dx:Addr
  es:Array DictEntry
  n:Nat
  cl:Value
  dd:Option Addr
  dt:Data
structure TokO (C:Cfg) (g:Gh) (a:Addr) (x y z:Value) (d:TokD):Prop where
  im:g.im a=some (.ref C.tokC,some d.dx,d.dt)
  dim:g.im d.dx=some (d.cl,d.dd,.dict d.es d.n)
  ne:d.dx≠a
  noCls:∀ c,d.dt≠.cls c
  keys:StrKeys d.es
  uniq:UniqKeys d.es
  fs:nsFind d.es (Str.ofString "sort")=some x
  fv:nsFind d.es (Str.ofString "value")=some y
  fl:nsFind d.es (Str.ofString "line")=some z
noncomputable def TokAt (C:Cfg) (g:Gh) (a:Addr) (x y z:Value):Prop:=∃ d,TokO C g a x y z d
structure TxtOK (l:List Nat):Prop where
  len:l.length≤sizeLine
  cps:∀ c∈l,c < 1114112
noncomputable def SeqIm (g:Gh) (T:String) (p:Addr) (its:List Value):Prop:=∃ d n,g.im p=some (.type T,d,.seq its.toArray n)
mutual
noncomputable def VR (C:Cfg) (g:Gh):V→Value→Prop
  | .none,a=>a=.none
  | .bool b,a=>a=.bool b
  | .int i,a=>∃ t,a=.int i t
  | .str l,a=>∃ t,a=.str (strOf l) t∧TxtOK l
  | .tup vs,a=>∃ (p:Addr) (its:List Value),a=.ref p∧SeqIm g "tuple" p its∧VRs C g vs its∧vs.length≤big
  | .lst vs,a=>∃ (p:Addr) (its:List Value),a=.ref p∧SeqIm g "list" p its∧VRs C g vs its∧vs.length≤big
  | .ref n,a=>∃ p,a=.ref p∧g.σ[n]?=some p
  | .tok s v l,a=>∃ p x y z,a=.ref p∧TokAt C g p x y z∧VR C g s x∧VR C g v y∧VR C g l z
  | .fn f,a=>∃ p,a=.ref p∧C.fnA f=some p
noncomputable def VRs (C:Cfg) (g:Gh):List V→List Value→Prop
  | [],xs=>xs=[]
  | v::vs,xs=>∃ x r,xs=x::r∧VR C g v x∧VRs C g vs r
end
section
variable {C:Cfg} {g:Gh}
theorem VR.none:VR C g .none .none:=rfl
theorem VR.bool (b:Bool):VR C g (.bool b) (.bool b):=rfl
theorem VR.int (i:Int) (t:Tok):VR C g (.int i) (.int i t):=⟨t,rfl⟩
theorem VR.txt {l:List Nat} {t:Tok} (h:TxtOK l):VR C g (.str l) (.str (strOf l) t):=⟨t,rfl,h⟩
theorem VR.tup {vs:List V} {a:Addr} {its:List Value} (h:SeqIm g "tuple" a its) (r:VRs C g vs its) (hb:vs.length≤big):VR C g (.tup vs) (.ref a):=⟨a,its,rfl,h,r,hb⟩
theorem VR.lst {vs:List V} {a:Addr} {its:List Value} (h:SeqIm g "list" a its) (r:VRs C g vs its) (hb:vs.length≤big):VR C g (.lst vs) (.ref a):=⟨a,its,rfl,h,r,hb⟩
theorem VR.ref (n:Nat) (a:Addr) (h:g.σ[n]?=some a):VR C g (.ref n) (.ref a):=⟨a,rfl,h⟩
theorem VR.fn (f:Nat) (a:Addr) (h:C.fnA f=some a):VR C g (.fn f) (.ref a):=⟨a,rfl,h⟩
theorem VRs.nil:VRs C g [] []:=rfl
theorem VRs.cons {v:V} {x:Value} {vs:List V} {xs:List Value} (h:VR C g v x) (r:VRs C g vs xs):VRs C g (v::vs) (x::xs):=⟨x,xs,rfl,h,r⟩
end
theorem TokAt.mono {C:Cfg} {g g':Gh} (l:∀ a x,g.im a=some x→g'.im a=some x) {a:Addr} {x y z:Value} (t:TokAt C g a x y z):TokAt C g' a x y z :=
  t.imp fun _ h=>{ h with im:=l _ _ h.im,dim:=l _ _ h.dim }
theorem SeqIm.mono {g g':Gh} (l:∀ a x,g.im a=some x→g'.im a=some x) {T:String} {p:Addr} {its:List Value} (h:SeqIm g T p its):SeqIm g' T p its:=h.imp fun _ h=>h.imp fun _=>l _ _
mutual
theorem VR.mono {C:Cfg} {g g':Gh} (l:g.le g'):∀ {v:V} {x:Value},VR C g v x→VR C g' v x
  | .none,_,h=>h
  | .bool b,_,h=>h
  | .int i,_,h=>h
  | .str s,_,h=>h
  | .tup vs,_,h=>h.imp fun _ h=>h.imp fun _ h=>⟨h.1,h.2.1.mono l.1,VRs.mono l h.2.2.1,h.2.2.2⟩
  | .lst vs,_,h=>h.imp fun _ h=>h.imp fun _ h=>⟨h.1,h.2.1.mono l.1,VRs.mono l h.2.2.1,h.2.2.2⟩
  | .ref n,_,h=>h.imp fun _ h=>⟨h.1,Gh.le_get l h.2⟩
  | .tok s v w,_,h=>h.imp fun _ h=>h.imp fun _ h=>h.imp fun _ h=>h.imp fun _ h=>⟨h.1,h.2.1.mono l.1,VR.mono l h.2.2.1,VR.mono l h.2.2.2.1,VR.mono l h.2.2.2.2⟩
  | .fn f,_,h=>h
theorem VRs.mono {C:Cfg} {g g':Gh} (l:g.le g'):∀ {vs:List V} {xs:List Value},VRs C g vs xs→VRs C g' vs xs
  | [],_,h=>h
  | _::_,_,h=>h.imp fun _ h=>h.imp fun _ h=>⟨h.1,VR.mono l h.2.1,VRs.mono l h.2.2⟩
end
theorem VRs.length {C:Cfg} {g:Gh} {vs:List V}:∀ {xs:List Value},VRs C g vs xs→xs.length=vs.length:=by
  induction vs with
  | nil=>exact fun h=>congrArg List.length h
  | cons v vs ih=>exact fun h=>h.elim fun _ h=>h.elim fun _ h=>h.1▸congrArg (· + 1) (ih h.2.2)
theorem VRs.get {C:Cfg} {g:Gh} {v:V} {vs:List V}:∀ {xs:List Value} {i:Nat},VRs C g vs xs→vs[i]?=some v→∃ x,xs[i]?=some x∧VR C g v x:=by
  induction vs with
  | nil=>exact fun _ e=>nomatch e
  | cons w vs ih =>
    intro xs i h e
    refine h.elim fun x h=>h.elim fun r h=>h.1▸?_
    cases i with
    | zero=>exact ⟨x,rfl,Option.some.inj e▸h.2.1⟩
    | succ i=>exact ih (i:=i) h.2.2 e
theorem VRs.append {C:Cfg} {g:Gh} {ws:List V} {ys:List Value} (s:VRs C g ws ys) {vs:List V}:∀ {xs:List Value},VRs C g vs xs→VRs C g (vs++ws) (xs++ys):=by
  induction vs with
  | nil=>exact fun h=>(show _=_ from h)▸s
  | cons w vs ih=>exact fun h=>h.elim fun _ h=>h.elim fun _ h=>h.1▸.cons h.2.1 (ih h.2.2)
structure Fm where
  env:Env
  vars:List PySem.Str
  keeps:List (Addr×Tri)
  fr:List Env
abbrev places (F:Fm) (g:Gh):List Addr:=F.env.locals::(F.keeps.map (·.1)++g.σ)
noncomputable def New (C:Cfg) (g:Gh) (a:Addr):Prop:=C.h₀.get? a=none∧g.im a=none
noncomputable def Off (C:Cfg) (F:Fm) (g:Gh) (a:Addr):Prop:=New C g a∧a ∉ places F g
noncomputable def Rd (env:Env) (g:Gh) (m:PySem.Str→Option Value) (x:PySem.Str) (val:Value):Prop :=
  (env.kindOf x=some .local∧m x=some val) ∨
  (∃ c d,(env.kindOf x=some .cell∨env.kindOf x=some .free)∧env.cells.lookup x=some c∧∃ cl,g.im c=some (cl,d,.cell (some val)))
structure LocAt (C:Cfg) (env:Env) (vars:List PySem.Str) (g:Gh) (m:PySem.Str→Option Value) (i:Nat) (v:V) (x:PySem.Str) (val:Value):Prop where
  var:vars[i]?=some x
  rd:Rd env g m x val
  vr:VR C g v val
noncomputable def LocOK (C:Cfg) (env:Env) (vars:List PySem.Str) (g:Gh) (loc:L) (m:PySem.Str→Option Value):Prop:=∀ (i:Nat) (v:V),loc[i]?=some (some v)→∃ x val,LocAt C env vars g m i v x val
structure CellAt (C:Cfg) (g:Gh) (h:Heap) (i:Nat) (vs:List V) (a:Addr) (its:List Value):Prop where
  pos:g.σ[i]?=some a
  pl:h.PlainList a its.toArray
  vrs:VRs C g vs its
  len:vs.length≤big
structure Rel (C:Cfg) (F:Fm) (g:Gh) (loc:L) (c:H) (h:Heap):Prop where
  base:∀ a o,C.h₀.get? a=some o→h.get? a=some o
  im:∀ a x,g.im a=some x→∃ o,h.get? a=some o∧Obj.is o x
  keep:∀ p∈F.keeps,∃ o,h.get? p.1=some o∧Obj.is o p.2
  ns:∃ m,h.Ns F.env.locals m∧LocOK C F.env F.vars g loc m
  clen:c.length=g.σ.length
  cell:∀ (i:Nat) (vs:List V),c[i]?=some vs→∃ a its,CellAt C g h i vs a its
  new:∀ a∈places F g,New C g a
  apart:(places F g).Nodup
theorem Rd.mono {env:Env} {g g':Gh} {m:PySem.Str→Option Value} {x:PySem.Str} {val:Value} (l:g.le g') (r:Rd env g m x val):Rd env g' m x val :=
  r.imp id fun q=>q.imp fun _ q=>q.imp fun _ q=>⟨q.1,q.2.1,q.2.2.imp fun _=>l.1 _ _⟩
theorem LocOK.mono {C:Cfg} {env:Env} {vars:List PySem.Str} {g g':Gh} {loc:L} {m:PySem.Str→Option Value} (l:g.le g') (r:LocOK C env vars g loc m):LocOK C env vars g' loc m :=
  fun i v e=>(r i v e).imp fun _ q=>q.imp fun _ q=>⟨q.var,q.rd.mono l,q.vr.mono l⟩
noncomputable def Soft (xs frs:List Addr) (h h':Heap):Prop:=∀ b o,b ∉ xs→h.get? b=some o→∃ sl,h'.get? b=some { o with slots:=sl }∧(b ∉ frs→h'.get? b=some o)
theorem Soft.mk' {xs frs:List Addr} {h h':Heap} (k:∀ b o,b ∉ xs→h.get? b=some o→h'.get? b=some o):Soft xs frs h h':=fun b o hb e=>⟨o.slots,k b o hb e,fun _=>k b o hb e⟩
theorem Soft.but {a:Addr} {h h':Heap} (k:Heap.ExtBut a h h'):Soft [a] [] h h':=.mk' fun b o hb e=>k b o (fun q=>hb (by rw [q]; exact .head _)) e
section
variable {C:Cfg} {F:Fm} {g:Gh} {loc:L} {c:H} {h h':Heap}
theorem j8 {α:Type} {P:Prop} {o:Option α} {x:α} (e:o=none) (q:o=some x):P:=nomatch e.symm.trans q
theorem Rel.at_locals (r:Rel C F g loc c h):New C g F.env.locals∧F.env.locals ∉ F.keeps.map (·.1)++g.σ:=⟨r.new _ (.head _),(List.nodup_cons.mp r.apart).1⟩
theorem M2 {p:Addr×Tri} (hp:p∈F.keeps):p.1∈F.keeps.map (·.1)++g.σ:=List.mem_append_left _ (List.mem_map_of_mem hp)
theorem C8 {a:Addr} {i:Nat} (ha:g.σ[i]?=some a):a∈F.keeps.map (·.1)++g.σ:=List.mem_append_right _ (List.mem_of_getElem? ha)
theorem Rel.soft (r:Rel C F g loc c h) {xs frs:List Addr} (k:Soft xs frs h h') (hx:∀ a∈xs,Off C F g a) (hf:∀ a∈frs,C.h₀.get? a=none∧a ∉ g.σ):Rel C F g loc c h' :=
  { r with
    base:=fun a o e=>(k a o (fun q=>j8 (hx a q).1.1 e) (r.base a o e)).elim fun _ q=>q.2 fun z=>j8 (hf a z).1 e
    im:=fun a x e=>(r.im a x e).elim fun o q=>(k a o (fun z=>j8 (hx a z).1.2 e) q.1).elim fun _ w=>⟨_,w.1,q.2⟩
    keep:=fun p hp=>(r.keep p hp).elim fun o q=>(k p.1 o (fun z=>(hx _ z).2 (.tail _ (M2 hp))) q.1).elim fun _ w=>⟨_,w.1,q.2⟩
    ns:=r.ns.imp fun m q=>⟨q.1.elim fun o q=>q.elim fun es q=>q.elim fun ep q=>(k _ o (fun z=>(hx _ z).2 (.head _)) q.1).elim fun _ w=>⟨_,es,ep,w.1,q.2⟩,q.2⟩
    cell:=fun i vs e=>(r.cell i vs e).imp fun a q=>q.imp fun its q=>{ q with pl:=q.pl.imp fun n ho=>(k a _ (fun z=>(hx _ z).2 (.tail _ (C8 q.pos))) ho).elim fun _ w=>w.2 fun z=>(hf _ z).2 (List.mem_of_getElem? q.pos) } }
theorem Rel.keeps (r:Rel C F g loc c h) (k:∀ a o,h.get? a=some o→h'.get? a=some o):Rel C F g loc c h':=r.soft (xs:=[]) (frs:=[]) (.mk' fun b o _=>k b o) (fun _ q=>nomatch q) (fun _ q=>nomatch q)
theorem Rel.push (r:Rel C F g loc c h) (o:Obj):Rel C F g loc c (h.push o):=r.keeps fun _ _ e=>Heap.get?_push_of_some o e
theorem Rel.one (r:Rel C F g loc c h) {a:Addr} (k:Heap.ExtBut a h h') (ha:Off C F g a):Rel C F g loc c h':=r.soft (.but k) (fun _ q=>List.mem_singleton.mp q▸ha) (fun _ q=>nomatch q)
theorem Rel.there (r:Rel C F g loc c h) {a:Addr} (m:a∈places F g):∃ o,h.get? a=some o :=
  (List.mem_cons.mp m).elim (fun q=>q▸r.ns.elim fun _ n=>n.1.imp fun _ n=>n.elim fun _ n=>n.elim fun _ n=>n.1) fun m=>(List.mem_append.mp m).elim
    (fun m=>(List.mem_map.mp m).elim fun p hp=>hp.2▸(r.keep p hp.1).imp fun _ q=>q.1)
    fun m=>(List.getElem_of_mem m).elim fun i q=>q.elim fun hi q=>(r.cell i _ (List.getElem?_eq_getElem (r.clen▸hi))).elim fun b w=>w.elim fun its w=>w.pl.elim fun n ho=>⟨_,(show b=a from Option.some.inj (w.pos.symm.trans ((List.getElem?_eq_getElem hi).trans (congrArg some q))))▸ho⟩
theorem Rel.none_of_new (r:Rel C F g loc c h) {a:Addr} (e:h.get? a=none):Off C F g a :=
  ⟨⟨Option.eq_none_iff_forall_ne_some.mpr fun o q=>j8 e (r.base a o q),Option.eq_none_iff_forall_ne_some.mpr fun x q=>(r.im a x q).elim fun _ w=>j8 e w.1⟩,fun m=>(r.there m).elim fun _ q=>j8 e q⟩
theorem B3 (h:Heap):h.get? h.objs.size=none:=Option.eq_none_iff_forall_ne_some.mpr fun _ q=>absurd (Heap.lt_size q) (Nat.lt_irrefl _)
theorem Rel.fresh (r:Rel C F g loc c h):Off C F g h.objs.size:=r.none_of_new (B3 h)
noncomputable def Gh.put (g:Gh) (a:Addr) (x:Tri):Gh:=⟨fun b=>if b=a then some x else g.im b,g.σ⟩
theorem Gh.put_self {g:Gh} {a:Addr} {x:Tri}:(g.put a x).im a=some x:=if_pos rfl
theorem Gh.put_ne {g:Gh} {a b:Addr} {x:Tri} (h:b≠a):(g.put a x).im b=g.im b:=if_neg h
theorem Gh.put_le {g:Gh} {a:Addr} {x:Tri} (n:g.im a=none):g.le (g.put a x) :=
  ⟨fun b y e=>(Gh.put_ne fun q=>j8 n (q▸e)).trans e,[],(List.append_nil _).symm⟩
theorem Rel.put (r:Rel C F g loc c h) {a:Addr} {o:Obj} (ho:h.get? a=some o) (off:Off C F g a):Rel C F (g.put a (o.cls,o.dict,o.data)) loc c h :=
  { r with
    im:=fun b x e=>if q:b=a then ⟨o,q▸ho,Option.some.inj (Gh.put_self.symm.trans (q▸e))▸⟨rfl,rfl,rfl⟩⟩ else r.im b x ((Gh.put_ne q).symm.trans e)
    ns:=r.ns.imp fun m q=>⟨q.1,q.2.mono (Gh.put_le off.1.2)⟩
    cell:=fun i vs e=>(r.cell i vs e).imp fun b q=>q.imp fun its q=>{ q with vrs:=q.vrs.mono (Gh.put_le off.1.2) }
    new:=fun b hb=>⟨(r.new b hb).1,(Gh.put_ne (a:=a) (b:=b) fun q=>off.2 (q▸(show b∈places F g from hb))).trans (r.new b hb).2⟩ }
theorem Rel.pushIm (r:Rel C F g loc c h) (o:Obj) (hf:o.isFreed=false:=by rfl):Rel C F (g.put h.objs.size (o.cls,o.dict,o.data)) loc c (h.push o) :=
  (r.push o).put (Heap.get?_push_size h hf) r.fresh
theorem LocOK.set {m:PySem.Str→Option Value} {i:Nat} {x:PySem.Str} {v:V} {val:Value} (hr:LocOK C F.env F.vars g loc m) (hx:F.vars[i]?=some x) (hk:F.env.kindOf x=some .local) (hu:F.vars.Nodup) (hv:VR C g v val) :
    LocOK C F.env F.vars g (loc.set i (some v)) fun y=>if y=x then some val else m y:=fun j u e =>
  if q:j=i then ⟨x,val,q▸hx,.inl ⟨hk,if_pos rfl⟩,(show u=v by
      subst q
      rw [List.getElem?_set,if_pos rfl] at e
      split at e
      · exact (Option.some.inj (Option.some.inj e)).symm
      · cases e)▸hv⟩
  else (hr j u ((List.getElem?_set_ne (Ne.symm q)).symm.trans e)).imp fun y w=>w.imp fun val' w =>
    ⟨w.var,w.rd.imp (fun z=>⟨z.1,(show (if y=x then some val else m y)=m y from if_neg fun z:y=x=>q ((List.getElem?_inj (List.getElem?_eq_some_iff.mp w.var).1 hu).mp (w.var.trans (z▸hx.symm)))).trans z.2⟩) id,w.vr⟩
theorem Rel.part (r:Rel C F g loc c h) {a:Addr} (ha:a∈places F g) (hs:Heap.SameBut a h h') :
    (∀ b o,C.h₀.get? b=some o→h'.get? b=some o)∧(∀ b x,g.im b=some x→∃ o,h'.get? b=some o∧Obj.is o x) :=
  ⟨fun b o e=>(hs.2 b fun q=>j8 (r.new a ha).1 (q▸e)).trans (r.base b o e),fun b y e=>(r.im b y e).imp fun o q=>⟨(hs.2 b fun z=>j8 (r.new a ha).2 (z▸e)).trans q.1,q.2⟩⟩
theorem Rel.store (r:Rel C F g loc c h) {i:Nat} {x:PySem.Str} {v:V} {val:Value} {m:PySem.Str→Option Value} (hr:LocOK C F.env F.vars g loc m)
    (hx:F.vars[i]?=some x) (hk:F.env.kindOf x=some .local) (hu:F.vars.Nodup) (hv:VR C g v val)
    (hn:h'.Ns F.env.locals (fun y=>if y=x then some val else m y)) (hs:Heap.SameBut F.env.locals h h'):Rel C F g (loc.set i (some v)) c h' :=
  { r with
    base:=(r.part (.head _) hs).1
    im:=(r.part (.head _) hs).2
    keep:=fun p hp=>(r.keep p hp).imp fun o q=>⟨(hs.2 p.1 fun z=>r.at_locals.2 (z▸M2 hp)).trans q.1,q.2⟩
    ns:=⟨_,hn,hr.set hx hk hu hv⟩
    cell:=fun i vs e=>(r.cell i vs e).imp fun a q=>q.imp fun its q=>{ q with pl:=q.pl.imp fun _=>(hs.2 a fun z=>r.at_locals.2 (z▸C8 q.pos)).trans } }
theorem Rel.cells_apart (r:Rel C F g loc c h):(∀ a∈g.σ,a ∉ F.keeps.map (·.1))∧g.σ.Nodup :=
  have q:=List.nodup_append.mp (List.nodup_cons.mp r.apart).2
  ⟨fun a ha hb=>q.2.2 a hb a ha rfl,q.2.1⟩
theorem ad0 {α:Type} {l:List α} {n:Nat} {x y:α} (e:(l.set n x)[n]?=some y):x=y:=by
  rw [List.getElem?_set,if_pos rfl] at e
  split at e
  · exact Option.some.inj e
  · cases e
theorem Rel.setCell (r:Rel C F g loc c h) {n:Nat} {a:Addr} {vs:List V} {its:List Value} (ha:g.σ[n]?=some a) (hv:VRs C g vs its) (hb:vs.length≤big)
    (hl:h'.PlainList a its.toArray) (hs:Heap.SameBut a h h'):Rel C F g loc (c.set n vs) h' :=
  { r with
    base:=(r.part (.tail _ (C8 ha)) hs).1
    im:=(r.part (.tail _ (C8 ha)) hs).2
    keep:=fun p hp=>(r.keep p hp).imp fun o q=>⟨(hs.2 p.1 fun z=>r.cells_apart.1 a (List.mem_of_getElem? ha) (z▸List.mem_map_of_mem hp)).trans q.1,q.2⟩
    ns:=r.ns.imp fun m q=>⟨q.1.sameBut hs fun z=>r.at_locals.2 (z▸C8 ha),q.2⟩
    clen:=List.length_set.trans r.clen
    cell:=fun i us e=>if q:i=n then ⟨a,its,q▸ha,hl,ad0 (q▸e)▸hv,ad0 (q▸e)▸hb⟩ else
      (r.cell i us ((List.getElem?_set_ne (Ne.symm q)).symm.trans e)).imp fun b w=>w.imp fun js w=>{ w with pl:=w.pl.imp fun _=>(hs.2 b fun z=>q ((List.getElem?_inj (List.getElem?_eq_some_iff.mp w.pos).1 r.cells_apart.2).mp (w.pos.trans (z▸ha.symm)))).trans } }
noncomputable def Gh.cell (g:Gh) (a:Addr):Gh:=⟨g.im,g.σ++[a]⟩
theorem Gh.cell_le {g:Gh} {a:Addr}:g.le (g.cell a):=⟨fun _ _ e=>e,[a],rfl⟩
theorem aL4 {α:Type} {l:List α} {i:Nat} {x y:α} (e:(l++[x])[i]?=some y):l[i]?=some y∨(i=l.length∧x=y):=by
  rcases Nat.lt_or_ge i l.length with q | q
  · exact .inl ((List.getElem?_append_left q).symm.trans e)
  · rw [List.getElem?_append_right q] at e
    have:=(List.getElem?_eq_some_iff.mp e).1
    have z:i - l.length=0:=Nat.lt_one_iff.mp this
    rw [z] at e
    exact .inr ⟨Nat.le_antisymm (Nat.sub_eq_zero_iff_le.mp z) q,Option.some.inj e⟩
theorem Rel.pushCell (r:Rel C F g loc c h) {vs:List V} {its:List Value} {n:Nat} (hv:VRs C g vs its) (hb:vs.length≤big) :
    Rel C F (g.cell h.objs.size) loc (c++[vs]) (h.push { cls:=.type "list",data:=.seq its.toArray n }) :=
  have R:=r.push { cls:=.type "list",data:=.seq its.toArray n }
  { R with
    ns:=R.ns.imp fun m q=>⟨q.1,q.2.mono Gh.cell_le⟩
    clen:=(show (c++[vs]).length=(g.σ++[h.objs.size]).length by rw [List.length_append,List.length_append,r.clen]; rfl)
    cell:=fun i us e=>(aL4 e).elim (fun e=>(R.cell i us e).imp fun b w=>w.imp fun js w=>⟨Gh.le_get Gh.cell_le w.pos,w.pl,w.vrs.mono Gh.cell_le,w.len⟩)
      fun q=>⟨h.objs.size,its,(show (g.σ++[h.objs.size])[i]?=_ by rw [q.1,r.clen]; exact List.getElem?_concat_length),⟨n,Heap.get?_push_size h rfl⟩,q.2▸hv.mono Gh.cell_le,q.2▸hb⟩
    new:=fun a ha=>(List.mem_cons.mp ha).elim (fun q=>q▸r.new _ (.head _)) fun m=>(List.mem_append.mp m).elim (fun m=>r.new _ (.tail _ (List.mem_append_left _ m))) fun m =>
      (List.mem_append.mp m).elim (fun m=>r.new _ (.tail _ (List.mem_append_right _ m))) fun m=>List.mem_singleton.mp m▸r.fresh.1
    apart:=by
      show (F.env.locals::(F.keeps.map (·.1)++(g.σ++[h.objs.size]))).Nodup
      rw [← List.append_assoc,← List.cons_append]
      exact List.nodup_append.mpr ⟨r.apart,List.nodup_cons.mpr ⟨List.not_mem_nil,List.nodup_nil⟩,fun a ha b hb' q=>r.fresh.2 (List.mem_singleton.mp hb'▸q▸ha)⟩ }
end
end Mine
end
section
set_option genInjectivity false
set_option genSizeOf false
namespace Mine
open PySem PySem.Spec PySem.Calls PyProof.Rows
structure ExcD where
  oe:Obj
  vs:Array Value
  dx:Addr
  es:Array DictEntry
  n:Nat
  tw:Tok
  tl:Tok
structure TbD where
  T:Addr
  o:Obj
  ts:Array Value
  x:Value
structure TbO (C:Cfg) (F:Fm) (g:Gh) (e:Addr) (h:Heap) (vs:Array Value) (d:TbD):Prop where
  fld:vs[1]?=some (.ref d.T)
  get:h.get? d.T=some d.o
  data:d.o.data=.fields d.ts
  flight:d.ts[3]?=some d.x
  ne:d.T≠e
  off:Off C F g d.T
structure ExcO (C:Cfg) (F:Fm) (g:Gh) (w:List Nat) (l:Int) (e:Addr) (h:Heap) (d:ExcD):Prop where
  get:h.get? e=some d.oe
  cls:d.oe.cls=.ref C.pfC
  dict:d.oe.dict=some d.dx
  data:d.oe.data=.fields d.vs
  size:d.vs.size=6
  im:∃ cl dd,g.im d.dx=some (cl,dd,.dict d.es d.n)
  keys:StrKeys d.es
  uniq:UniqKeys d.es
  txt:TxtOK w
  why:nsFind d.es (Str.ofString "why")=some (.str (strOf w) d.tw)
  line:nsFind d.es (Str.ofString "line")=some (.int l d.tl)
  tb:d.vs[1]?=some .none∨∃ t,TbO C F g e h d.vs t
structure ExcAt (C:Cfg) (F:Fm) (g:Gh) (w:List Nat) (l:Int) (e:Addr) (h:Heap):Prop where
  off:Off C F g e
  obj:∃ d,ExcO C F g w l e h d
structure Goal (C:Cfg) (F:Fm) {α β:Type} (P:Gh→H→Heap→β→α→Prop) (g:Gh) (s:Shared) (r:R β) (Q:α→Shared→Prop) (E:Value→Shared→Prop):Prop where
  ns:r≠.stuck
  ok:∀ g' h' tk b c' a,r=.ok b c'→g.le g'→P g' c' h' b a→Q a { s with heap:=h',toks:=tk }
  pf:∀ g' h' tk w l c' e,r=.pf w l c'→g.le g'→Rel C F g' [] c' h'→ExcAt C F g' w l e h'→E (.ref e) { s with heap:=h',toks:=tk }
noncomputable def SimG (C:Cfg) (A:Around) (F:Fm) {α β:Type} (P:Gh→H→Heap→β→α→Prop) (g:Gh) (s:Shared) (t:Sem α) (r:R β):Prop :=
  ∀ (Q:α→Shared→Prop) (E:Value→Shared→Prop),Goal C F P g s r Q E→wpAny (model C.prog C.w) A t Q E s
noncomputable def EvP (C:Cfg) (F:Fm) (loc:L) {α β:Type} (P:Gh→β→α→Prop) (g:Gh) (c:H) (h:Heap) (b:β) (a:α):Prop:=Rel C F g loc c h∧P g b a
abbrev Sim (C:Cfg) (A:Around) (F:Fm) (g:Gh) (loc:L) (s:Shared) {α β:Type} (P:Gh→β→α→Prop) (t:Sem α) (r:R β):Prop:=SimG C A F (EvP C F loc P) g s t r
theorem Gh.le.trans {g₁ g₂ g₃:Gh} (a:g₁.le g₂) (b:g₂.le g₃):g₁.le g₃:=Gh.le_trans a b
section
variable {C:Cfg} {A:Around} {F:Fm} {g g₁:Gh} {loc:L} {s:Shared} {α β γ δ:Type} {W:Prop}
variable {P:Gh→H→Heap→β→α→Prop} {Q:α→Shared→Prop} {E:Value→Shared→Prop}
theorem Goal.no (G:Goal C F P g s .stuck Q E):W:=absurd rfl G.ns
theorem Goal.opt {o:Option γ} {k:γ→R β} (G:Goal C F P g s (ofK o k) Q E) (f:∀ v,o=some v→Goal C F P g s (k v) Q E→W):W:=by
  cases o with
  | none=>exact G.no
  | some v=>exact f v rfl G
theorem Goal.obind {o:Option γ} {j:γ→Option δ} {k:δ→R β} (G:Goal C F P g s (ofK (o.bind j) k) Q E) (f:∀ v,o=some v→Goal C F P g s (ofK (j v) k) Q E→W):W:=by
  cases o with
  | none=>exact G.no
  | some v=>exact f v rfl G
theorem Goal.omap {o:Option γ} {j:γ→δ} {k:δ→R β} (G:Goal C F P g s (ofK (o.map j) k) Q E) (f:∀ v,o=some v→Goal C F P g s (k (j v)) Q E→W):W:=by
  cases o with
  | none=>exact G.no
  | some v=>exact f v rfl G
theorem Goal.pick {a b:Option γ} {k:γ→R β} (G:Goal C F P g s (ofK (pick a b) k) Q E) (f:Goal C F P g s (ofK a k) Q E→W) (f':Goal C F P g s (ofK b k) Q E→W):W:=by
  cases a with
  | none=>exact f' G
  | some v=>exact f G
theorem Goal.oif {p:Prop} [Decidable p] {a:Option γ} {k:γ→R β} (G:Goal C F P g s (ofK (if p then a else none) k) Q E) (f:p→Goal C F P g s (ofK a k) Q E→W):W :=
  if h:p then f h ((congrArg (ofK · k) (if_pos h))▸G) else ((congrArg (ofK · k) (if_neg h))▸G:Goal C F P g s (ofK none k) Q E).no
theorem Goal.rif {p:Prop} [Decidable p] {a:R β} (G:Goal C F P g s (if p then a else .stuck) Q E) (f:p→Goal C F P g s a Q E→W):W :=
  if h:p then f h ((show (if p then a else .stuck)=a from if_pos h)▸G) else ((show (if p then a else .stuck)=(R.stuck:R β) from if_neg h)▸G).no
theorem Goal.done {b:β} {c:H} (G:Goal C F P g s (.ok b c) Q E) {g':Gh} {h':Heap} {tk:Nat} {a:α} (l:g.le g') (p:P g' c h' b a):Q a { s with heap:=h',toks:=tk }:=G.ok _ _ _ _ _ _ rfl l p
theorem Goal.now {P:Gh→β→α→Prop} {b:β} {c:H} (G:Goal C F (EvP C F loc P) g s (.ok b c) Q E) {tk:Nat} {a:α} (r:Rel C F g loc c s.heap) (p:P g b a):Q a { s with toks:=tk }:=G.ok g s.heap tk _ _ _ rfl g.le_refl ⟨r,p⟩
theorem Goal.move {r:R β} (G:Goal C F P g s r Q E) {h₁:Heap} {tk:Nat} (l:g.le g₁):Goal C F P g₁ { s with heap:=h₁,toks:=tk } r Q E :=
  ⟨G.ns,fun g' h' tk b c' a q l'=>G.ok g' h' tk b c' a q (l.trans l'),fun g' h' tk w l' c' e q l''=>G.pf g' h' tk w l' c' e q (l.trans l'')⟩
theorem SimG.stepE {F':Fm} {P₁:Gh→H→Heap→δ→γ→Prop} {t:Sem γ} {r₁:R δ} {k:δ→H→R β} {Q':γ→Shared→Prop} {E':Value→Shared→Prop} (h:SimG C A F' P₁ g s t r₁) (G:Goal C F P g s (r₁.bind k) Q E)
    (hE:∀ g' h' tk w l c' e,Rel C F' g' [] c' h'→ExcAt C F' g' w l e h'→(∀ h₂,Rel C F g' [] c' h₂→ExcAt C F g' w l e h₂→E (.ref e) { s with heap:=h₂,toks:=tk })→E' (.ref e) { s with heap:=h',toks:=tk })
    (f:∀ g₁ c₁ h₁ tk b a,g.le g₁→P₁ g₁ c₁ h₁ b a→Goal C F P g₁ { s with heap:=h₁,toks:=tk } (k b c₁) Q E→Q' a { s with heap:=h₁,toks:=tk }):wpAny (model C.prog C.w) A t Q' E' s :=
  h Q' E' ⟨fun q=>G.ns (congrArg (R.bind · k) q),fun g' h' tk b c' a q l p=>f g' c' h' tk b a l p (((congrArg (R.bind · k) q)▸G).move l),fun g' h' tk w l c' e q l' r x=>hE g' h' tk w l c' e r x fun h₂=>G.pf g' h₂ tk w l c' e (congrArg (R.bind · k) q) l'⟩
theorem SimG.step {P₁:Gh→H→Heap→δ→γ→Prop} {t:Sem γ} {r₁:R δ} {k:δ→H→R β} {Q':γ→Shared→Prop} (h:SimG C A F P₁ g s t r₁) (G:Goal C F P g s (r₁.bind k) Q E)
    (f:∀ g₁ c₁ h₁ tk b a,g.le g₁→P₁ g₁ c₁ h₁ b a→Goal C F P g₁ { s with heap:=h₁,toks:=tk } (k b c₁) Q E→Q' a { s with heap:=h₁,toks:=tk }):wpAny (model C.prog C.w) A t Q' E s :=
  h.stepE G (fun _ _ _ _ _ _ _ r x q=>q _ r x) f
theorem Sim.step {P₁:Gh→δ→γ→Prop} {t:Sem γ} {r₁:R δ} {k:δ→H→R β} {Q':γ→Shared→Prop} (h:Sim C A F g loc s P₁ t r₁) (G:Goal C F P g s (r₁.bind k) Q E)
    (f:∀ g₁ c₁ h₁ tk b a,g.le g₁→Rel C F g₁ loc c₁ h₁→P₁ g₁ b a→Goal C F P g₁ { s with heap:=h₁,toks:=tk } (k b c₁) Q E→Q' a { s with heap:=h₁,toks:=tk }):wpAny (model C.prog C.w) A t Q' E s :=
  SimG.step h G fun g₁ c₁ h₁ tk b a l p=>f g₁ c₁ h₁ tk b a l p.1 p.2
end
structure FmOK (C:Cfg) (F:Fm) (A:Around):Prop where
  hh:A.handled=none
  fr:A.frames=some F.fr
  frOK:∀ e∈F.fr,e.scope.kind≠.module∧∃ L,e.frame=some L∧(L=F.env.locals∨∃ x∈F.keeps,x.1=L∧∃ es n,x.2.2.2=.dict es n)
  kind:F.env.scope.kind=.function
  glob:F.env.globals=mainGlobals
  blt:F.env.builtins=builtinsNs
  uniq:F.vars.Nodup
structure CfgOK (C:Cfg):Prop where
  mgN:C.h₀.Ns mainGlobals C.mg
  mbN:C.h₀.Ns builtinsNs C.mb
  nolimit:C.h₀.NoLimit
  nodigits:∃ mc,C.h₀.Ns cStatics mc∧mc "sys.int_max_str_digits" = none
  fn:∀ f a,C.fnA f=some a→∃ o fd,C.h₀.get? a=some o∧o.data=.func fd
  blt:∀ x:PySem.Str,x ≠ "__name__" → C.mb x=bootBuiltins x
section
variable {C:Cfg} {A:Around} {F:Fm} {g:Gh} {loc:L} {c:H} {s:Shared}
theorem v5:big≤sizeLine:=by rw [k7]; decide
theorem Rel.ns0 (r:Rel C F g loc c s.heap) {a:Addr} {m:PySem.Str→Option Value} (n:C.h₀.Ns a m):s.heap.Ns a m:=n.keeps r.base
theorem u4 (l:List Nat):(strOf l).length=l.length:=rfl
theorem ac7 (l m:List Nat):strOf l++strOf m=strOf (l++m):=congrArg Str.mk (List.append_toArray l m)
theorem TxtOK.append {l m:List Nat} (a:TxtOK l) (b:TxtOK m) (h:l.length+m.length≤big):TxtOK (l++m) :=
  ⟨Nat.le_trans (Nat.le_of_eq List.length_append) (Nat.le_trans h v5),fun z hz=>(List.mem_append.mp hz).elim (a.cps z) (b.cps z)⟩
theorem TxtOK.sub {l m:List Nat} (a:TxtOK l) (h:m.length≤l.length) (k:∀ z∈m,z∈l):TxtOK m:=⟨Nat.le_trans h a.len,fun z hz=>a.cps z (k z hz)⟩
theorem TxtOK.one {z:Nat} (h:z < 1114112):TxtOK [z]:=⟨(by decide:1≤sizeLine),fun y hy=>List.mem_singleton.mp hy▸h⟩
section
variable {W:Value→Prop} {x:V} {a:Value}
theorem VR.isBool {b:Bool} (hx:VR C g x a) (e:boolOf x=some b) (f:W (.bool b)):W a:=by
  cases x with
  | bool b'=>exact (show a=_ from hx)▸Option.some.inj e▸f
  | _=>cases e
theorem VR.isInt {i:Int} (hx:VR C g x a) (e:intOf x=some i) (f:∀ t,W (.int i t)):W a:=by
  cases x with
  | int j=>exact hx.elim fun t q=>q▸Option.some.inj e▸f t
  | _=>cases e
theorem VR.isTxt {l:List Nat} (hx:VR C g x a) (e:txtOf x=some l) (f:∀ t,TxtOK l→W (.str (strOf l) t)):W a:=by
  cases x with
  | str m=>exact hx.elim fun t q=>q.1▸Option.some.inj e▸f t (Option.some.inj e▸q.2)
  | _=>cases e
theorem VR.isTup {vs:List V} (hx:VR C g x a) (e:tupOf x=some vs) (f:∀ p its,SeqIm g "tuple" p its→VRs C g vs its→vs.length≤big→W (.ref p)):W a:=by
  cases x with
  | tup m=>exact hx.elim fun p q=>q.elim fun its q=>q.1▸f p its q.2.1 (Option.some.inj e▸q.2.2.1) (Option.some.inj e▸q.2.2.2)
  | _=>cases e
theorem VR.isLst {vs:List V} (hx:VR C g x a) (e:lstOf x=some vs) (f:∀ p its,SeqIm g "list" p its→VRs C g vs its→vs.length≤big→W (.ref p)):W a:=by
  cases x with
  | lst m=>exact hx.elim fun p q=>q.elim fun its q=>q.1▸f p its q.2.1 (Option.some.inj e▸q.2.2.1) (Option.some.inj e▸q.2.2.2)
  | _=>cases e
theorem VR.isRef {n:Nat} (hx:VR C g x a) (e:refOf x=some n) (f:∀ p,g.σ[n]?=some p→W (.ref p)):W a:=by
  cases x with
  | ref m=>exact hx.elim fun p q=>q.1▸f p (Option.some.inj e▸q.2)
  | _=>cases e
theorem VR.isFn {n:Nat} (hx:VR C g x a) (e:fnOf x=some n) (f:∀ p,C.fnA n=some p→W (.ref p)):W a:=by
  cases x with
  | fn m=>exact hx.elim fun p q=>q.1▸f p (Option.some.inj e▸q.2)
  | _=>cases e
end
theorem Rel.seqIm (r:Rel C F g loc c s.heap) {a:Addr} {T:String} {its:List Value} (h:SeqIm g T a its):∃ o,s.heap.get? a=some o∧o.cls=.type T∧∃ n,o.data=.seq its.toArray n :=
  h.elim fun d h=>h.elim fun n h=>(r.im a _ h).imp fun _ q=>⟨q.1,q.2.1,n,q.2.2.2⟩
theorem Rel.lstAt (r:Rel C F g loc c s.heap) {a:Addr} {its:List Value} (h:SeqIm g "list" a its):s.heap.IsList a its.toArray:=r.seqIm h
theorem Rel.tupAt (r:Rel C F g loc c s.heap) {a:Addr} {its:List Value} (h:SeqIm g "tuple" a its):IsTup s.heap a its.toArray:=r.seqIm h
theorem Rel.cellAt (r:Rel C F g loc c s.heap) {n:Nat} {a:Addr} {vs:List V} (ha:g.σ[n]?=some a) (hc:c[n]?=some vs):∃ its,CellAt C g s.heap n vs a its :=
  (r.cell n vs hc).elim fun b q=>q.imp fun its (q:CellAt C g s.heap n vs b its)=>(show b=a from Option.some.inj (q.pos.symm.trans ha))▸q
theorem VR.isList {W:Value→Prop} {x:V} {a:Value} {vs:List V} (r:Rel C F g loc c s.heap) (hx:VR C g x a) (e:listAt c x=some vs) (f:∀ p its,s.heap.IsList p its.toArray→VRs C g vs its→vs.length≤big→W (.ref p)):W a:=by
  cases x with
  | lst m=>exact hx.isLst (x:=.lst m) e fun p its h=>f p its (r.lstAt h)
  | ref n=>exact hx.isRef (x:=.ref n) rfl fun p h=>(r.cellAt h e).elim fun its q=>f p its q.pl.isList q.vrs q.len
  | _=>cases e
section
variable {α β γ:Type} {P:Gh→H→Heap→β→α→Prop} {Q:α→Shared→Prop} {E:Value→Shared→Prop} {k:γ→R β} {W:Value→Prop} {W2:Value→Value→Prop} {x y:V} {a b:Value}
theorem Goal.int {j:Int→Option γ} (G:Goal C F P g s (ofK ((intOf x).bind j) k) Q E) (hx:VR C g x a) (f:∀ i t,Goal C F P g s (ofK (j i) k) Q E→W (.int i t)):W a :=
  G.obind fun i e G=>hx.isInt e fun t=>f i t G
theorem Goal.txt {j:List Nat→Option γ} (G:Goal C F P g s (ofK ((txtOf x).bind j) k) Q E) (hx:VR C g x a) (f:∀ l t,TxtOK l→Goal C F P g s (ofK (j l) k) Q E→W (.str (strOf l) t)):W a :=
  G.obind fun l e G=>hx.isTxt e fun t h=>f l t h G
theorem Goal.list {j:List V→Option γ} (r:Rel C F g loc c s.heap) (G:Goal C F P g s (ofK ((listAt c x).bind j) k) Q E) (hx:VR C g x a) (f:∀ vs p its,s.heap.IsList p its.toArray→VRs C g vs its→vs.length≤big→Goal C F P g s (ofK (j vs) k) Q E→W (.ref p)):W a :=
  G.obind fun vs e G=>hx.isList r e fun p its h1 h2 h3=>f vs p its h1 h2 h3 G
theorem Goal.ints2 {j:Int→Int→Option γ} (G:Goal C F P g s (ofK (ints2 x y j) k) Q E) (hx:VR C g x a) (hy:VR C g y b) (f:∀ i t n u,Goal C F P g s (ofK (j i n) k) Q E→W2 (.int i t) (.int n u)):W2 a b :=
  Goal.int (W:=fun a=>W2 a b) G hx fun i t G=>Goal.int G hy fun n u G=>f i t n u G
theorem Goal.strs2 {j:List Nat→List Nat→Option γ} (G:Goal C F P g s (ofK (strs2 x y j) k) Q E) (hx:VR C g x a) (hy:VR C g y b) (f:∀ l t m u,TxtOK l→TxtOK m→Goal C F P g s (ofK (j l m) k) Q E→W2 (.str (strOf l) t) (.str (strOf m) u)):W2 a b :=
  Goal.txt (W:=fun a=>W2 a b) G hx fun l t h G=>Goal.txt G hy fun m u h' G=>f l t m u h h' G
end
noncomputable def opB:BO→Operator
  | .add=>.Add | .sub=>.Sub | .mul=>.Mult | .fdiv=>.FloorDiv | .mod=>.Mod | .pow=>.Pow | .shr=>.RShift | .band=>.BitAnd
noncomputable def opC:CO→CmpOp
  | .eq=>.Eq | .ne=>.NotEq | .lt=>.Lt | .le=>.LtE | .gt=>.Gt | .ge=>.GtE | .isin=>.In | .notin=>.NotIn
theorem T2 {x:Int} (h:small x=true):-(2 ^ 62) < x∧x < 2 ^ 62:=have h:=Bool.and_eq_true_iff.mp h; ⟨of_decide_eq_true h.1,of_decide_eq_true h.2⟩
theorem Z6 {x:Int} (h:small x=true):Builtin.Int.intBits x≤64:=intBits_le_64 (Int.lt_trans (by decide) (T2 h).1) (Int.lt_trans (T2 h).2 (by decide))
theorem Rel.newSeq {T:String} (r:Rel C F g loc c s.heap) (its:List Value) (n:Nat:=0) :
    Rel C F (g.put s.heap.objs.size (.type T,none,.seq its.toArray n)) loc c (s.heap.push { cls:=.type T,data:=.seq its.toArray n })∧g.le (g.put s.heap.objs.size (.type T,none,.seq its.toArray n)) ∧
    SeqIm (g.put s.heap.objs.size (.type T,none,.seq its.toArray n)) T s.heap.objs.size its :=
  ⟨r.pushIm { cls:=.type T,data:=.seq its.toArray n } rfl,Gh.put_le r.fresh.1.2,_,_,Gh.put_self⟩
theorem Goal.newList {Q:Value→Shared→Prop} {E:Value→Shared→Prop} {vs:List V} {its:List Value} {tk:Nat} (G:Goal C F (EvP C F loc (VR C)) g s (.ok (.lst vs) c) Q E) (r:Rel C F g loc c s.heap) (hv:VRs C g vs its) (hb:vs.length≤big) :
    Q (.ref s.heap.objs.size) { s with heap:=s.heap.push { cls:=.type "list",data:=.seq its.toArray },toks:=tk } :=
  have N:=r.newSeq its; G.done N.2.1 ⟨N.1,.lst N.2.2 (hv.mono N.2.1) hb⟩
theorem aF5 {o:Obj} {T:String} {its:Array Value} {n:Nat} (hc:o.cls=.type T) (hd:o.data=.seq its n):o={ cls:=.type T,dict:=o.dict,data:=.seq its n,slots:=o.slots }:=by
  obtain ⟨_,_,_,_⟩:=o; cases hc; cases hd; rfl
theorem ao3 (r:Rel C F g loc c s.heap) {a b:Addr} {vs ws:List V} {xs ys:List Value} (ha:s.heap.IsList a xs.toArray) (hb:s.heap.IsList b ys.toArray) (hv:VRs C g vs xs) (hw:VRs C g ws ys) (hz:vs.length+ws.length≤big) {Q:Value→Shared→Prop} {E:Value→Shared→Prop}
    (G:Goal C F (EvP C F loc (VR C)) g s (.ok (.lst (vs++ws)) c) Q E):wpAny (model C.prog C.w) A (binaryOp .Add (.ref a) (.ref b)) Q E s :=
  ha.elim fun o p=>p.2.2.elim fun n pd=>hb.elim fun o2 p2=>p2.2.2.elim fun n2 pd2 =>
  concat_meets ⟨_,p.1,p.2.1⟩ ⟨_,p2.1,p2.2.1⟩ noFill_list_add seq_list_add PySem.F.slot_list_add PySem.F.entry_list_add (PySem.F.args_list_add_2 _ _)
    (list_addW a b xs.toArray ys.toArray n n2 o.dict o2.dict o.slots o2.slots (show xs.length+ys.length≤sizeLine by rw [hv.length,hw.length]; exact Nat.le_trans hz v5)) ⟨aF5 p.2.1 pd▸p.1,aF5 p2.2.1 pd2▸p2.1,by
      rw [show xs.toArray++ys.toArray=(xs++ys).toArray from List.append_toArray xs ys]
      exact G.newList r (hw.append hv) (Nat.le_trans (Nat.le_of_eq List.length_append) hz)⟩
theorem aI4 (x:Array Nat) (n:Nat):∀ (acc:Array Nat),(List.replicate n x).foldl (·++·) acc=acc++(List.replicate n x.toList).flatten.toArray:=by
  induction n with
  | zero=>exact fun acc=>(Array.append_empty (xs:=acc)).symm
  | succ n ih=>intro acc; rw [List.replicate_succ,List.foldl_cons,ih,List.replicate_succ,List.flatten_cons,Array.append_assoc]; exact congrArg (acc++·) (List.append_toArray x.toList _)
theorem bc3 (l:List Nat) (i:Int) (h:0≤i):Txt.mul (strOf l) i=strOf (List.replicate i.toNat l).flatten:=by
  unfold Txt.mul
  split
  · have:i.toNat=0:=by omega
    rw [this]; rfl
  · split
    · rename_i hc
      rcases Bool.or_eq_true_iff.mp hc with hc | hc
      · cases beq_iff_eq.mp hc
        exact congrArg strOf (List.append_nil l).symm
      · have:l=[]:=List.length_eq_zero_iff.mp (beq_iff_eq.mp hc)
        subst this; rw [List.flatten_replicate_nil]
    · rw [aI4]; exact congrArg Str.mk (Array.empty_append)
theorem ax0 {a b:Nat} (h:a≤64) (h':b≤64):a * b≤sizeLine:=Nat.le_trans (Nat.mul_le_mul h h') (by decide)
theorem aT4 (r:Rel C F g loc c s.heap) {l:List Nat} {i:Int} {t u:Tok} (h:TxtOK l) (hs:0≤i∧i≤64∧l.length≤64) {Q:Value→Shared→Prop} {E:Value→Shared→Prop}
    (G:Goal C F (EvP C F loc (VR C)) g s (.ok (.str (List.replicate i.toNat l).flatten) c) Q E):wpAny (model C.prog C.w) A (binaryOp .Mult (.str (strOf l) t) (.int i u)) Q E s:=by
  refine SB.mul ⟨?_,fun hn _=>?_,fun _ _=>decide_eq_false (Nat.not_lt.mpr (ax0 hs.2.2 (Int.toNat_le.mpr hs.2.1)))⟩ fun t' tk=>bc3 l i hs.1▸G.now r (.txt ⟨?_,fun z hz=>(List.mem_flatten.mp hz).elim fun m q=>h.cps z (List.eq_of_mem_replicate q.1▸q.2)⟩)
  · rw [decide_eq_false (by omega),decide_eq_false (by omega)]; rfl
  · have:(64:Int)≤(2 ^ 63 - 1) / i:=(Int.le_ediv_iff_mul_le (by omega)).mpr (by omega)
    rw [u4]
    omega
  · rw [List.length_flatten,List.map_replicate,List.sum_replicate_nat]
    exact ax0 (Int.toNat_le.mpr hs.2.1) hs.2.2
theorem aQ4 (r:Rel C F g loc c s.heap) {o:BO} {x y:V} {a b:Value} (hx:VR C g x a) (hy:VR C g y b):Sim C A F g loc s (VR C) (binaryOp (opB o) a b) (ofO (binV o c x y) c):=fun Q E=>by
  cases o with
  | add=>exact fun G=>G.pick (fun G=>G.ints2 (W2:=fun a b=>wpAny _ A (binaryOp .Add a b) Q E s) hx hy fun _ _ _ _ G=>wpAny_add_int (G.now r (.int _ _))) fun G =>
      G.pick (fun G=>G.strs2 (W2:=fun a b=>wpAny _ A (binaryOp .Add a b) Q E s) hx hy fun l _ m _ h h' G=>G.oif fun hs G=>SB.add (fun _ _=>ac7 l m▸G.now r (.txt (h.append h' hs))) (Nat.le_trans hs v5)) fun G =>
      G.list (W:=fun a=>wpAny _ A (binaryOp .Add a b) Q E s) r hx fun _ p _ h1 h2 _ G=>G.obind fun _ e G=>hy.isLst (W:=fun b=>wpAny _ A (binaryOp .Add (.ref p) b) Q E s) e fun _ _ h3 h4 _=>G.oif fun hs G=>ao3 r h1 (r.lstAt h3) h2 h4 hs G
  | sub=>exact fun G=>G.ints2 (W2:=fun a b=>wpAny _ A (binaryOp .Sub a b) Q E s) hx hy fun _ _ _ _ G=>P.sub_int (G.now r (.int _ _))
  | mul=>exact fun G=>G.pick (fun G=>G.ints2 (W2:=fun a b=>wpAny _ A (binaryOp .Mult a b) Q E s) hx hy fun _ _ _ _ G=>G.oif fun hs G=>PyProof.Rows.mul_int (G.now r (.int _ _)) (IntMulOk.of_left (Z6 hs.1))) fun G =>
      G.txt (W:=fun a=>wpAny _ A (binaryOp .Mult a b) Q E s) hx fun l t h G=>G.int (W:=fun b=>wpAny _ A (binaryOp .Mult (.str (strOf l) t) b) Q E s) hy fun _ _ G=>G.oif fun hs G=>aT4 r h hs G
  | fdiv=>exact fun G=>G.ints2 (W2:=fun a b=>wpAny _ A (binaryOp .FloorDiv a b) Q E s) hx hy fun _ _ _ _ G=>G.oif fun hs G=>PyProof.Rows.floordiv_int (Int.ne_of_gt hs.1) (Int.fdiv_eq_ediv_of_nonneg _ (Int.le_of_lt hs.1)▸G.now r (.int _ _)) (.inl (PyProof.noPylong_small (Int.natAbs_lt_natAbs_of_nonneg_of_lt (Int.le_of_lt hs.1) hs.2)))
  | mod=>exact fun G=>G.ints2 (W2:=fun a b=>wpAny _ A (binaryOp .Mod a b) Q E s) hx hy fun _ _ _ _ G=>G.oif fun hs G=>PyProof.Rows.mod_int' (Int.ne_of_gt hs) (Int.fmod_eq_emod_of_nonneg _ (Int.le_of_lt hs)▸G.now r (.int _ _))
  | pow=>exact fun G=>G.ints2 (W2:=fun a b=>wpAny _ A (binaryOp .Pow a b) Q E s) hx hy fun i t n u G=>G.oif fun hs G=>hs.1▸hs.2▸PyProof.Rows.pow_int_small (a:=2) (n:=63) (by decide) (by decide) (by decide) (G.now r (.int _ _))
  | shr=>exact fun G=>G.ints2 (W2:=fun a b=>wpAny _ A (binaryOp .RShift a b) Q E s) hx hy fun _ _ _ _ G=>G.oif fun hs G=>PyProof.Rows.rshift_int hs.2.1 (Int.fdiv_eq_ediv_of_nonneg _ (Int.le_of_lt (Int.pow_pos (show (0:Int) < 2 by decide)))▸G.now r (.int _ _))
  | band=>exact fun G=>G.ints2 (W2:=fun a b=>wpAny _ A (binaryOp .BitAnd a b) Q E s) hx hy fun p _ q _ G=>G.oif fun hs G=>PyProof.Rows.and_int ((show Builtin.bitAnd p q=((p.toNat &&& q.toNat:Nat):Int) by
      unfold Builtin.bitAnd; rw [decide_eq_true hs.1,decide_eq_true hs.2])▸G.now r (.int _ _))
theorem ar2 {α β:Type}:∀ {l:List α} {m:List β},l.length=m.length→l.isEmpty=m.isEmpty
  | [],[],_=>rfl
  | _::_,_::_,_=>rfl
theorem aA1 {β α:Type} {P:Gh→H→Heap→β→α→Prop} {k:Bool→R β} {Q':α→Shared→Prop} {E':Value→Shared→Prop} (r:Rel C F g loc c s.heap) {x:V} {a:Value} (hx:VR C g x a) (G:Goal C F P g s (ofK (truth c x) k) Q' E') {Q:Bool→Shared→Prop} {E:Value→Shared→Prop}
    (hq:∀ b tk,Goal C F P g { s with heap:=s.heap,toks:=tk } (k b) Q' E'→Q b { s with heap:=s.heap,toks:=tk }):wpAny (model C.prog C.w) A (truthy a) Q E s :=
  G.pick (fun G=>G.opt fun b e G=>hx.isBool (W:=fun a=>wpAny _ A (truthy a) Q E s) e (wpAny_truthy_bool (hq b s.toks G))) fun G =>
    G.obind fun n e G=>hx.isRef (W:=fun a=>wpAny _ A (truthy a) Q E s) e fun p hp=>G.omap fun vs hc G=>(r.cellAt hp hc).elim fun its h =>
      wpAny_truthy_list h.pl.isList (show (its.length:Int) < 2 ^ 63 from Int.lt_of_le_of_lt (Int.ofNat_le.mpr (Nat.le_trans (Nat.le_of_eq h.vrs.length) h.len)) (by rw [k7]; decide))
        ((show (!its.toArray.isEmpty)=!vs.isEmpty from congrArg _ ((List.isEmpty_toArray its).trans (ar2 h.vrs.length)))▸hq _ _ (G.move g.le_refl))
theorem D7 {α:Type} (l:List α) (lo hi:Option Int):sliceL l lo hi=(l.drop (lo.elim 0 (clipAt l.length))).take (hi.elim l.length (clipAt l.length) - lo.elim 0 (clipAt l.length)):=by
  cases lo <;> cases hi <;> rfl
theorem aA9 (l:List Nat) (lo hi:Option (Int×Tok)):(slicePicked (strOf l) lo hi none).filterMap ((strOf l).cps[·]?)=sliceL l (lo.map (·.1)) (hi.map (·.1))∧(slicePicked (strOf l) lo hi none).length=(hi.map (·.1)).elim l.length (clipAt l.length) - (lo.map (·.1)).elim 0 (clipAt l.length):=by
  have e:slicePicked (strOf l) lo hi none=(List.range ((hi.map (·.1)).elim l.length (clipAt l.length) - (lo.map (·.1)).elim 0 (clipAt l.length))).map ((lo.map (·.1)).elim 0 (clipAt l.length) + ·):=by
    rw [← sliceRange_one]
    unfold slicePicked Builtin.Str.strSliceIndices
    cases lo <;> cases hi <;> simp only [Option.map_none,Option.map_some,Option.elim_none,Option.elim_some,clipAt_cast] <;> rfl
  rw [e,D7]
  exact ⟨pick_run (strOf l).cps _ _,by rw [List.length_map,List.length_range]⟩
theorem ai4 {α:Type} {l:List α} {a b:Nat} (h:b - a=l.length) (hb:b≤l.length):(l.drop a).take (b - a)=l:=by
  cases l with
  | nil=>rw [List.drop_nil,List.take_nil]
  | cons x r =>
    have:a=0:=by rw [List.length_cons] at h hb; omega
    subst this
    rw [h]; exact List.take_length
theorem aC6 (n:Nat) (i:Int):clipAt n i≤n:=Int.toNat_le.mpr (Int.max_le.mpr ⟨Int.natCast_nonneg n,Int.min_le_right _ _⟩)
theorem aq3 {α:Type} {l:List α} {lo hi:Option Int} {x:α} (h:x∈sliceL l lo hi):x∈l:=List.mem_of_mem_drop (List.mem_of_mem_take h)
theorem V8 {α:Type} (l:List α) (lo hi:Option Int):(sliceL l lo hi).length≤l.length:=Nat.le_trans (List.length_take_le' _ _) (Nat.le_trans (Nat.le_of_eq List.length_drop) (Nat.sub_le _ _))
theorem TxtOK.slice {l:List Nat} (h:TxtOK l) {lo hi:Option Int}:TxtOK (sliceL l lo hi):=h.sub (V8 _ _ _) fun _=>aq3
theorem ap8 {l:List Nat} {t:Tok} {lo hi:Option (Int×Tok)} {s:Shared} {Q:Value→Shared→Prop} (hz:TxtOK l)
    (h:∀ t' tk,Q (.str (strOf (sliceL l (lo.map (·.1)) (hi.map (·.1)))) t') { s with toks:=tk }):(sliceMade (strOf l) t lo hi none).post Q s:=by
  have e:=aA9 l lo hi
  unfold sliceMade
  rw [e.1,e.2,u4]
  split
  · rename_i hc
    have hw:=D7 l (lo.map (·.1)) (hi.map (·.1))
    rw [ai4 (beq_iff_eq.mp (Bool.and_eq_true_iff.mp hc).2) (by cases hi with | none=>exact Nat.le_refl _ | some _=>exact aC6 _ _)] at hw
    exact hw▸h t s.toks
  · exact ⟨hz.slice.len,h _ _⟩
end
end Mine
end
section
namespace Mine
open PySem PySem.Spec PySem.Calls PyProof.Rows PySem.StrLaws PySem.Builtin PySem.Builtin.Str
theorem o0 (l:List Nat):(strOf l).cps.toList=l:=by simp [strOf]
theorem ao1 (x:PySem.Str):strOf x.cps.toList=x:=by simp [strOf]
theorem az6 {l m:List Nat} (h:strOf l=strOf m):l=m:=by
  rw [← o0 l,h,o0]
theorem aa1 (l m:List Nat):(strOf l==strOf m)=(l==m):=by
  rw [Bool.eq_iff_iff,beq_iff_eq,beq_iff_eq]
  exact ⟨az6,fun h=>by rw [h]⟩
theorem af9 (l:List Nat) (c:Nat):Txt.contains (strOf l) (strOf [c])=l.contains c:=by
  show (!(occurrences (strOf l) ⟨#[c]⟩ 0 (strOf l).length 1).isEmpty)=_
  rw [found_one,o0]
  simp [List.contains_eq_mem]
theorem ag0 (l:List Nat):Txt.contains (strOf l) (strOf [])=true:=by
  show (!(occurrences (strOf l) (strOf []) 0 (strOf l).length 1).isEmpty)=_
  rw [found_iff]
  refine ⟨0,by rw [u4,u4]; exact Nat.zero_le _,?_⟩
  rw [subAt_eq,o0,u4]
  simp [strOf]
theorem ak2 (s sub:Str) (hi:Nat) (k:Nat):∀ (l:List Nat) (st:Array Nat×Nat),k≤st.fst.size→(forIn l st (occBody s sub hi k)).run=st
  | [],st,_=>rfl
  | a::l,st,h=>by
    rw [List.forIn_cons]
    unfold occBody
    rw [if_neg (by omega)]
    exact ak2 s sub hi k l _ h
theorem ab3 (s sub:Str) (hi:Nat):∀ (k a free:Nat),free≤a →
    (forIn (List.range' a k) ((#[]:Array Nat),free) (occBody s sub hi 1)).run.fst.toList=((List.range' a k).find? (fun i=>decide (i+sub.length≤hi)&&subAt s sub i)).toList
  | 0,a,free,_=>rfl
  | k+1,a,free,hf=>by
    rw [List.range'_succ,List.forIn_cons,List.find?_cons]
    by_cases hc:a+sub.length≤hi∧subAt s sub a=true
    · have e:(decide (a+sub.length≤hi)&&subAt s sub a)=true:=by simp [hc.1,hc.2]
      rw [e]
      unfold occBody
      rw [if_pos ⟨⟨⟨by simp,hf⟩,hc.1⟩,hc.2⟩]
      have:=ak2 s sub hi 1 (List.range' (a+1) k) (#[a],a+sub.length) (by simp)
      exact congrArg (fun z:Array Nat×Nat=>z.fst.toList) this
    · have e:(decide (a+sub.length≤hi)&&subAt s sub a)=false:=by
        cases h:(decide (a+sub.length≤hi)&&subAt s sub a) with
        | false=>rfl
        | true=>exact absurd (by simpa using h) hc
      rw [e]
      have ih:=ab3 s sub hi k (a+1) free (by omega)
      rw [← ih]
      unfold occBody
      rw [if_neg (fun h=>hc ⟨h.1.2,h.2⟩)]
      rfl
theorem G7 (l p:List Nat) (i:Nat) (hi:i≤l.length):(decide (i+(strOf p).length≤(strOf l).length)&&subAt (strOf l) (strOf p) i)=startsWith (l.drop i) p:=by
  rw [subAt_eq,o0,o0,u4,u4]
  unfold startsWith
  cases h:((l.drop i).take p.length==p) with
  | false=>simp
  | true =>
    have:=congrArg List.length (beq_iff_eq.mp h)
    rw [List.length_take,List.length_drop] at this
    simp; omega
theorem X5 (l p:List Nat):∀ (r:List Nat) (i:Nat),l.drop i=r→i≤l.length →
    (List.range' i (l.length+1 - i)).find? (fun i=>decide (i+(strOf p).length≤(strOf l).length)&&subAt (strOf l) (strOf p) i)=findFrom p r i
  | [],i,h,hi=>by
    have:l.length≤i:=by simpa using h
    have e:l.length+1 - i=1:=by omega
    rw [e,List.range'_succ,List.range'_zero,List.find?_cons,G7 l p i hi,h]
    unfold findFrom startsWith
    cases p <;> simp
  | c::r,i,h,hi=>by
    have hlt:i < l.length:=by
      rcases Nat.lt_or_ge i l.length with q | q
      · exact q
      · rw [List.drop_eq_nil_of_le q] at h; cases h
    have e:l.length+1 - i=(l.length+1 - (i+1))+1:=by omega
    rw [e,List.range'_succ,List.find?_cons,G7 l p i hi,h]
    have ht:l.drop (i+1)=r:=by rw [← List.drop_drop,h]; rfl
    rw [X5 l p r (i+1) ht (by omega),findFrom]
    cases startsWith (c::r) p <;> simp
theorem Z3 (s sub:Str) (a:Nat) (h:s.length < a):occurrences s sub a s.length 1=[]:=by
  rw [occ_eq]
  have:s.length+1 - a=0:=by omega
  rw [this]
  rfl
theorem ay2 (l p:List Nat) (i:Nat):(match occurrences (strOf l) (strOf p) i (strOf l).length 1 with | k::_=>(k:Int) | []=>-1)=findL l p i:=by
  unfold findL
  by_cases hi:i≤l.length
  · rw [if_pos hi,occ_eq,ab3 _ _ _ _ _ _ (Nat.le_refl _),show (strOf l).length=l.length from u4 l]
    have:=X5 l p _ i rfl hi
    rw [u4 l] at this
    rw [this]
    cases findFrom p (l.drop i) i <;> rfl
  · rw [if_neg hi,Z3 _ _ _ (by rw [u4]; omega)]
theorem aM4 (l p:List Nat):Txt.find (strOf l) (strOf p)=findL l p 0:=ay2 l p 0
theorem aM2 (l p:List Nat) (i:Nat):Txt.find3 (strOf l) (strOf p) (i:Int)=findL l p i:=by
  unfold Txt.find3
  have:fromIndex (strOf l).length (i:Int)=i:=by
    unfold fromIndex
    rw [if_neg (by omega)]; omega
  rw [this]; exact ay2 l p i
theorem O6 (s:Str) (c hi limit:Nat) (hs:s.length=hi):∀ (k a:Nat) (st:Array Nat×Nat),st.snd≤a→st.fst.size+k≤limit →
    (forIn (List.range' a k) st (occBody s ⟨#[c]⟩ hi limit)).run.fst.size=st.fst.size+(List.range' a k).countP (fun i=>decide (s.cps.toList[i]?=some c))
  | 0,a,st,_,_=>rfl
  | k+1,a,st,hf,hl=>by
    rw [List.range'_succ,List.forIn_cons,List.countP_cons]
    have q:=subAt_one s c a
    unfold occBody
    split
    · rename_i h
      have:s.cps.toList[a]?=some c:=q.mp ⟨hs▸h.1.2,h.2⟩
      have ih:=O6 s c hi limit hs k (a+1) (st.fst.push a,a+1) (Nat.le_refl _) (by rw [Array.size_push]; omega)
      rw [if_pos (by simpa using this)]
      refine Eq.trans ih ?_
      rw [Array.size_push]; omega
    · rename_i h
      have:¬ s.cps.toList[a]?=some c:=fun e=>h (by
        have:=q.mpr e
        exact ⟨⟨⟨by omega,hf⟩,hs▸this.1⟩,this.2⟩)
      have ih:=O6 s c hi limit hs k (a+1) st (by omega) (by omega)
      rw [if_neg (by simpa using this)]
      exact ih
theorem Y2 (c:Nat):∀ (l:List Nat) (a:Nat) (m:List Nat),m.drop a=l→a≤m.length→(List.range' a (m.length+1 - a)).countP (fun i=>decide (m[i]?=some c))=l.count c
  | [],a,m,h,ha=>by
    have:m.length≤a:=by simpa using h
    have e:m.length+1 - a=1:=by omega
    rw [e,List.range'_succ,List.range'_zero,List.countP_cons]
    simp [this]
  | x::r,a,m,h,ha=>by
    have hlt:a < m.length:=by
      rcases Nat.lt_or_ge a m.length with q | q
      · exact q
      · rw [List.drop_eq_nil_of_le q] at h; cases h
    have e:m.length+1 - a=(m.length+1 - (a+1))+1:=by omega
    have hx:m[a]?=some x:=by
      have:(m.drop a)[0]?=some x:=by rw [h]; rfl
      rw [List.getElem?_drop] at this; simpa using this
    rw [e,List.range'_succ,List.countP_cons,Y2 c r (a+1) m (by rw [← List.drop_drop,h]; rfl) (by omega),List.count_cons,hx]
    by_cases q:x=c <;> simp [q]
theorem aN2 (l:List Nat) (c:Nat):Txt.count (strOf l) (strOf [c])=(l.count c:Nat):=by
  unfold Txt.count
  have:(occurrences (strOf l) (strOf [c]) 0 (strOf l).length ((strOf l).length+1)).length=l.count c:=by
    rw [occ_eq,Array.length_toList]
    have q:=O6 (strOf l) c (strOf l).length ((strOf l).length+1) rfl ((strOf l).length+1 - 0) 0 (#[],0) (Nat.le_refl _) (by rw [List.size_toArray]; simp)
    refine Eq.trans q ?_
    rw [o0,u4]
    have:=Y2 c l 0 l rfl (Nat.zero_le _)
    rw [this]; simp
  rw [this]
theorem ak8:(List.range 128).all (fun c=>Unicode.lowerOf c==[lowerC c])=true:=by decide +kernel
theorem ak7 {l:List Nat} (h:l.all (fun c=>decide (c < 128))=true):Txt.lower (strOf l)=strOf (l.map lowerC):=by
  unfold Txt.lower
  apply Str.ext'
  apply Array.toList_inj.mp
  show (placed (strOf l) fun i _=>Unicode.lowerAt (strOf l).cps i).toList=(l.map lowerC).toArray.toList
  unfold placed
  rw [Array.toList_flatten,Array.toList_mapIdx,o0]
  have key:∀ (m:List Nat) (a:Nat),l.drop a=m→((m.mapIdx fun i c=>(Unicode.lowerAt (strOf l).cps (i+a)).toArray).map Array.toList).flatten=m.map lowerC:=by
    intro m
    induction m with
    | nil=>intro a _; rfl
    | cons x r ih =>
      intro a ha
      rw [List.mapIdx_cons,List.map_cons,List.flatten_cons,List.map_cons]
      have hx:l[a]?=some x:=by
        have:(l.drop a)[0]?=some x:=by rw [ha]; rfl
        rw [List.getElem?_drop] at this; simpa using this
      have e1:Unicode.lowerAt (strOf l).cps (0+a)=[lowerC x]:=by
        unfold Unicode.lowerAt
        have:(strOf l).cps[0+a]?=some x:=by simp [strOf,hx]
        rw [this]
        have hm:x∈l:=List.mem_of_getElem? hx
        have hlt:x < 128:=by simpa using List.all_eq_true.mp h x hm
        have:=List.all_eq_true.mp ak8 x (List.mem_range.mpr hlt)
        simp only
        rw [if_neg (by simp; omega)]
        exact beq_iff_eq.mp this
      have e2:=ih (a+1) (by rw [← List.drop_drop,ha]; rfl)
      rw [e1]
      have e3:(fun (i:Nat) (c:Nat)=>(Unicode.lowerAt (strOf l).cps (i+1+a)).toArray)=(fun (i:Nat) (c:Nat)=>(Unicode.lowerAt (strOf l).cps (i+(a+1))).toArray):=by
        funext i c; rw [show i+1+a=i+(a+1) by omega]
      rw [e3,e2]; rfl
  have:=key l 0 rfl
  simpa using this
theorem bh0 (l:List Nat):(strOf (l.map lowerC)).length=l.length:=by rw [u4,List.length_map]
theorem aB2 (l p:List Nat):Txt.lstripChars (strOf l) (strOf p)=strOf (l.dropWhile p.contains):=by
  unfold Txt.lstripChars Txt.stripBy
  have hg:(strOf p).cps.contains=p.contains:=by
    funext c; simp [strOf]
  rw [hg]
  have e:stripped p.contains true false (strOf l)=strOf (l.dropWhile p.contains):=by
    unfold stripped stripLo stripHi
    simp only [if_true,Bool.false_eq_true,if_false]
    apply Str.ext'
    apply Array.toList_inj.mp
    rw [strSub_toList,o0,o0,u4]
    have a:=List.takeWhile_append_dropWhile (p:=p.contains) (l:=l)
    have b:l.drop (l.takeWhile p.contains).length=l.dropWhile p.contains:=by
      conv=>lhs; rw [← a]
      rw [List.takeWhile_append_dropWhile]
      conv=>lhs; arg 2; rw [← a]
      exact List.drop_left
    rw [b,List.take_of_length_le]
    have:=congrArg List.length a
    rw [List.length_append] at this
    omega
  split
  · rename_i h
    unfold stripSame stripLo at h
    simp only [if_true,Bool.and_eq_true,beq_iff_eq] at h
    have:l.dropWhile p.contains=l:=by
      have a:=List.takeWhile_append_dropWhile (p:=p.contains) (l:=l)
      have z:l.takeWhile p.contains=[]:=by
        have:=h.1; rw [o0] at this
        exact List.length_eq_zero_iff.mp this
      rw [z] at a; simpa using a
    rw [this]
  · exact e
noncomputable def joinC (c:Nat):List (List Nat)→List Nat
  | []=>[]
  | [x]=>x
  | x::y::r=>x++c::joinC c (y::r)
theorem K5 (c:Nat):∀ (x acc:List Nat),c ∉ x→splitC c x acc=[acc.reverse++x]
  | [],acc,_=>by simp [splitC]
  | d::r,acc,h=>by
    have hd:¬ d=c:=fun e=>h (e▸.head _)
    rw [splitC,if_neg (by simpa using hd),K5 c r _ (fun q=>h (.tail _ q))]
    simp
theorem S8 (c:Nat) (t:List Nat):∀ (x acc:List Nat),c ∉ x→splitC c (x++c::t) acc=(acc.reverse++x)::splitC c t []
  | [],acc,_=>by simp [splitC]
  | d::r,acc,h=>by
    have hd:¬ d=c:=fun e=>h (e▸.head _)
    rw [List.cons_append,splitC,if_neg (by simpa using hd),S8 c t r _ (fun q=>h (.tail _ q))]
    simp
theorem P7 (c:Nat):∀ (ps:List (List Nat)),ps≠[]→(∀ p∈ps,c ∉ p)→splitC c (joinC c ps) []=ps
  | [],h,_=>absurd rfl h
  | [x],_,h=>by rw [joinC,K5 c x [] (h x (.head _))]; rfl
  | x::y::r,_,h=>by
    rw [joinC,S8 c _ x [] (h x (.head _)),P7 c (y::r) (by simp) (fun p hp=>h p (.tail _ hp))]
    rfl
theorem X1 (c:Nat):∀ (ps:List Str) (acc:Array Nat),(ps.foldl (fun acc p=>acc++(⟨#[c]⟩:Str).cps++p.cps) acc).toList=match ps with | []=>acc.toList | _=>acc.toList++c::joinC c (ps.map (·.cps.toList))
  | [],acc=>rfl
  | [p],acc=>by simp [joinC]
  | p::q::r,acc=>by
    rw [List.foldl_cons,X1 c (q::r)]
    simp [joinC]
theorem aL3 (c:Nat) (ps:List Str):(glued ⟨#[c]⟩ ps).cps.toList=joinC c (ps.map (·.cps.toList)):=by
  unfold glued
  cases ps with
  | nil=>rfl
  | cons p r =>
    refine Eq.trans (X1 c r p.cps) ?_
    cases r <;> simp [joinC]
theorem ai2 (x:Str) (c:Nat):glued ⟨#[c]⟩ (Txt.split x ⟨#[c]⟩)=x:=by
  unfold Txt.split
  split
  · rfl
  · split
    · rfl
    · exact glued_between_self x ⟨#[c]⟩ _
theorem aF3 (x:Str) (c:Nat):Txt.split x ⟨#[c]⟩≠[]:=by
  unfold Txt.split
  split
  · simp
  · split
    · simp
    · rw [partsBetween_eq]
      obtain ⟨p,r,h⟩:=partsFrom_ne x (⟨#[c]⟩:Str).length 0 (occurrences x ⟨#[c]⟩ 0 x.length (x.length+1))
      rw [h]; simp
theorem ai3 (l:List Nat) (c:Nat):(Txt.split (strOf l) (strOf [c])).map (·.cps.toList)=splitC c l []:=by
  have a:=congrArg (fun x:Str=>x.cps.toList) (ai2 (strOf l) c)
  simp only [o0,aL3] at a
  show (Txt.split (strOf l) ⟨#[c]⟩).map _=_
  have b:=P7 c ((Txt.split (strOf l) ⟨#[c]⟩).map (·.cps.toList)) (by simpa using aF3 (strOf l) c) (fun p hp=>by
    obtain ⟨q,hq,rfl⟩:=List.mem_map.mp hp
    exact split_free (strOf l) c q hq)
  rw [a] at b
  exact b.symm
end Mine
end
section
set_option genInjectivity false
namespace Mine
open PySem PySem.Spec PySem.Calls PyProof.Rows
mutual
noncomputable def toD:V→PyData
  | .none=>.none
  | .bool b=>.bool b
  | .int i=>.int i
  | .str l=>.str (strOf l)
  | .tup vs=>.tuple (toDs vs)
  | .lst vs=>.list (toDs vs)
  | _=>.none
noncomputable def toDs:List V→List PyData
  | []=>[]
  | v::r=>toD v::toDs r
end
section
variable {α β:Type} {W:Prop}
theorem D2 {a b:Option α} {y:α} (h:pick a b=some y) (f:a=some y→W) (g:b=some y→W):W:=by
  cases a with
  | none=>exact g h
  | some v=>exact f h
theorem j9 {o:Option α} {k:α→Option β} {y:β} (h:o.bind k=some y) (f:∀ v,o=some v→k v=some y→W):W:=(Option.bind_eq_some_iff.mp h).elim fun v q=>f v q.1 q.2
theorem u0 {o:Option α} {k:α→β} {y:β} (h:o.map k=some y) (f:∀ v,o=some v→k v=y→W):W:=(Option.map_eq_some_iff.mp h).elim fun v q=>f v q.1 q.2
theorem al9 {p:Prop} [Decidable p] {o:Option α} {y:α} (h:(if p then o else none)=some y) (f:p→o=some y→W):W :=
  if q:p then f q ((if_pos q).symm.trans h) else nomatch (if_neg q).symm.trans h
theorem ae8 {f:α→Option β} {v:α} {vs:List α} {xs:List β} (h:(v::vs).mapM f=some xs) (k:∀ y ys,f v=some y→vs.mapM f=some ys→y::ys=xs→W):W :=
  j9 (List.mapM_cons.symm.trans h) fun y e h=>j9 h fun ys e' h=>k y ys e e' (Option.some.inj h)
end
section
variable {C:Cfg} {A:Around} {F:Fm} {g:Gh} {loc:L} {c:H} {s:Shared}
noncomputable def LookOK (h:Heap) (k:Nat) (val:Value) (d:PyData):Prop:=(∃ as,Reads h val d as)∧d.canLay0=true∧d.depth≤k
noncomputable def LooksOK (h:Heap) (k:Nat) (vals:List Value) (ds:List PyData):Prop:=(∃ as,ReadsAll h vals ds as)∧PyData.canLayAll0 ds=true∧PyData.depthAll ds≤k
theorem LooksOK.cons {h:Heap} {k:Nat} {val:Value} {vals:List Value} {d:PyData} {ds:List PyData} (a:LookOK h k val d) (b:LooksOK h k vals ds):LooksOK h k (val::vals) (d::ds) :=
  ⟨a.1.elim fun _ x=>b.1.elim fun _ y=>⟨_,.cons x y⟩,Bool.and_eq_true_iff.mpr ⟨a.2.1,b.2.1⟩,Nat.max_le.mpr ⟨a.2.2,b.2.2⟩⟩
theorem O0 {h:Heap} {k:Nat} (ih:∀ {v x:V} {val:Value},plainV c k v=some x→VR C g v val→LookOK h k val (toD x)) {vs:List V}:∀ {xs:List V} {vals:List Value},vs.mapM (plainV c k)=some xs→VRs C g vs vals→LooksOK h k vals (toDs xs):=by
  induction vs with
  | nil=>exact fun e r=>(show _=_ from r)▸Option.some.inj e▸⟨⟨_,.nil⟩,rfl,Nat.zero_le _⟩
  | cons v vs ih'=>exact fun e r=>ae8 e fun y ys e1 e2 e3=>e3▸r.elim fun _ r=>r.elim fun _ r=>r.1▸.cons (ih e1 r.2.1) (ih' e2 r.2.2)
theorem ai1 {l:List Nat} (h:TxtOK l):PyData.strOk (strOf l)=true:=by
  unfold PyData.strOk
  rw [← Array.all_toList,o0]
  exact List.all_eq_true.mpr fun x hx=>decide_eq_true (h.cps x hx)
theorem LooksOK.seq {h:Heap} {k:Nat} {vals:List Value} {ds:List PyData} (a:LooksOK h k vals ds) {p:Addr} (ho:h.IsList p vals.toArray):LookOK h (k+1) (.ref p) (.list ds) :=
  ⟨ho.elim fun _ q=>q.2.2.elim fun _ q'=>a.1.elim fun _ x=>⟨_,.list q.1 q.2.1 q' x⟩,a.2.1,Nat.succ_le_succ a.2.2⟩
theorem LooksOK.tup {h:Heap} {k:Nat} {vals:List Value} {ds:List PyData} (a:LooksOK h k vals ds) {p:Addr} (ho:IsTup h p vals.toArray):LookOK h (k+1) (.ref p) (.tuple ds) :=
  ⟨ho.elim fun _ q=>q.2.2.elim fun _ q'=>a.1.elim fun _ x=>⟨_,.tuple q.1 q.2.1 q' x⟩,a.2.1,Nat.succ_le_succ a.2.2⟩
theorem G8 (r:Rel C F g loc c s.heap) (k:Nat):∀ {v x:V} {val:Value},plainV c k v=some x→VR C g v val→LookOK s.heap k val (toD x):=by
  induction k with
  | zero=>exact fun h=>nomatch h
  | succ k ih =>
    intro v x val h hv
    cases v with
    | none=>exact (show val=_ from hv)▸Option.some.inj h▸⟨⟨_,.none⟩,rfl,Nat.zero_le _⟩
    | bool b=>exact (show val=_ from hv)▸Option.some.inj h▸⟨⟨_,.bool b⟩,rfl,Nat.zero_le _⟩
    | int i=>exact hv.elim fun t q=>q▸Option.some.inj h▸⟨⟨_,.int i t⟩,rfl,Nat.zero_le _⟩
    | str l=>exact hv.elim fun t q=>q.1▸Option.some.inj h▸⟨⟨_,.str _ t⟩,ai1 q.2,Nat.zero_le _⟩
    | tup vs=>exact u0 h fun xs e q=>q▸hv.elim fun p hv=>hv.elim fun its hv=>hv.1▸(O0 ih e hv.2.2.1).tup (r.tupAt hv.2.1)
    | lst vs=>exact u0 h fun xs e q=>q▸hv.elim fun p hv=>hv.elim fun its hv=>hv.1▸(O0 ih e hv.2.2.1).seq (r.lstAt hv.2.1)
    | ref n=>exact j9 h fun vs hc h=>u0 h fun xs e q=>q▸hv.elim fun p hv=>hv.1▸(r.cellAt hv.2 hc).elim fun its w=>(O0 ih e w.vrs).seq w.pl.isList
    | tok _ _ _=>exact nomatch h
    | fn _=>exact nomatch h
theorem LookOK.shaped {h:Heap} {val:Value} {d:PyData} (a:LookOK h 8 val d):SeqAt.shaped d=true:=Bool.and_eq_true_iff.mpr ⟨a.2.1,decide_eq_true (Nat.le_trans a.2.2 (by decide))⟩
theorem aJ4 {x:V} {l:List V} (e:lstOf x=some l):x=.lst l:=by
  cases x with
  | lst m=>exact congrArg V.lst (Option.some.inj e)
  | _=>cases e
theorem aW8:∀ {l:List V},l.isEmpty=false→PyData.eqv (toD (.lst l)) (toD (.lst []))=false
  | _::_,_=>rfl
section
variable {h:Heap} {x:V} {a:Value}
theorem ak9 {l:List Nat} (hx:VR C g x a) (e:txtOf x=some l):LookOK h 8 a (.str (strOf l)):=hx.isTxt (W:=fun a=>LookOK h 8 a (.str (strOf l))) e fun t h=>⟨⟨_,.str _ t⟩,ai1 h,Nat.zero_le _⟩
theorem al0 {i:Int} (hx:VR C g x a) (e:intOf x=some i):LookOK h 8 a (.int i):=hx.isInt (W:=fun a=>LookOK h 8 a (.int i)) e fun t=>⟨⟨_,.int i t⟩,rfl,Nat.zero_le _⟩
theorem ab7 {i:Bool} (hx:VR C g x a) (e:boolOf x=some i):LookOK h 8 a (.bool i):=hx.isBool (W:=fun a=>LookOK h 8 a (.bool i)) e ⟨⟨_,.bool i⟩,rfl,Nat.zero_le _⟩
end
theorem ay3 (r:Rel C F g loc c s.heap) {x y:V} {a b:Value} {t:Bool} (hx:VR C g x a) (hy:VR C g y b) (h:eqV c x y=some t):∃ da db,LookOK s.heap 8 a da∧LookOK s.heap 8 b db∧PyData.eqv da db=t :=
  D2 h (fun h=>j9 h fun l e1 h=>j9 h fun m e2 h=>⟨_,_,ak9 hx e1,ak9 hy e2,(aa1 l m).trans (Option.some.inj h)⟩) fun h =>
  D2 h (fun h=>j9 h fun i e1 h=>j9 h fun j e2 h=>⟨_,_,al0 hx e1,al0 hy e2,Option.some.inj h⟩) fun h =>
  D2 h (fun h=>j9 h fun i e1 h=>j9 h fun j e2 h=>⟨_,_,ab7 hx e1,ab7 hy e2,Option.some.inj h⟩) fun h =>
  j9 h fun p e1 h=>j9 h fun q e2 h=>⟨toD p,toD q,G8 r 8 e1 hx,G8 r 8 e2 hy,(Classical.em (p=q)).elim
    (fun w=>(w▸SeqAt.eqv_refl _ (G8 r 8 e1 hx).2.1:PyData.eqv (toD p) (toD q)=true).trans (Option.some.inj ((if_pos w).symm.trans h)))
    fun w=>j9 ((if_neg w).symm.trans h) fun l q1 h=>j9 h fun m q2 h=>al9 h fun hs h=>aJ4 q1▸aJ4 q2▸hs.2▸(aW8 hs.1).trans (Option.some.inj h)⟩
theorem K3 {vs:List V}:∀ {its:List Value} {ys:List (List Nat)},VRs C g vs its→strsOf vs=some ys→StrsAre its (ys.map strOf):=by
  induction vs with
  | nil=>exact fun r h=>(show _=_ from r)▸Option.some.inj h▸.nil
  | cons v vs ih =>
    intro its ys r h
    cases v with
    | str l=>exact u0 h fun zs e q=>q▸r.elim fun _ r=>r.elim fun _ r=>r.1▸r.2.1.elim fun t w=>w.1▸.cons _ t (ih r.2.2 e)
    | _=>cases h
theorem W7 {vs:List V}:∀ {its:List Value} {ys:List Int},VRs C g vs its→intsOf vs=some ys→IntsAre its ys:=by
  induction vs with
  | nil=>exact fun r h=>(show _=_ from r)▸Option.some.inj h▸.nil
  | cons v vs ih =>
    intro its ys r h
    cases v with
    | int l=>exact u0 h fun zs e q=>q▸r.elim fun _ r=>r.elim fun _ r=>r.1▸r.2.1.elim fun t w=>w▸.cons _ t (ih r.2.2 e)
    | _=>cases h
theorem N8 (p:List Nat) (ys:List (List Nat)):(ys.map strOf).any (·==strOf p)=ys.any (·==p):=by
  rw [List.any_map]
  exact congrArg ys.any (funext fun y=>aa1 y p)
theorem aK5 {l p:List Nat} {t:Bool} (h:in1 l p=some t):Txt.contains (strOf l) (strOf p)=t:=by
  cases p with
  | nil=>exact (ag0 l).trans (Option.some.inj h)
  | cons z r=>cases r with
    | nil=>exact (af9 l z).trans (Option.some.inj h)
    | cons=>cases h
noncomputable def InNow (C:Cfg) (A:Around) (s:Shared) (Q:Value→Shared→Prop) (E:Value→Shared→Prop) (t:Bool) (a b:Value):Prop :=
  (Q (.bool t) s→wpAny (model C.prog C.w) A (compareOp .In a b) Q E s)∧(Q (.bool (!t)) s→wpAny (model C.prog C.w) A (compareOp .NotIn a b) Q E s)
theorem al8 (r:Rel C F g loc c s.heap) {x y:V} {a b:Value} {t:Bool} (hx:VR C g x a) (hy:VR C g y b) (h:inV x y=some t) {Q:Value→Shared→Prop} {E:Value→Shared→Prop}:InNow C A s Q E t a b :=
  D2 h (fun h=>j9 h fun l e h=>j9 h fun p e' h=>hy.isTxt (W:=InNow C A s Q E t a) e fun u _=>hx.isTxt (W:=fun a=>InNow C A s Q E t a (.str (strOf l) u)) e' fun u' _ =>
      ⟨fun q=>SB.contains (aK5 h▸q),fun q=>SB.notContains (aK5 h▸q)⟩) fun h =>
  D2 h (fun h=>j9 h fun vs e h=>j9 h fun p e' h=>u0 h fun ys w k=>hy.isTup (W:=InNow C A s Q E t a) e fun P its h1 h2 _=>hx.isTxt (W:=fun a=>InNow C A s Q E t a (.ref P)) e' fun u' _ =>
      ⟨fun q=>PyProof.Rows.in_tuple_strs (r.tupAt h1) (K3 h2 w) ((N8 p ys).trans k▸q),fun q=>PyProof.Rows.notin_tuple_strs (r.tupAt h1) (K3 h2 w) ((N8 p ys).trans k▸q)⟩) fun h =>
  j9 h fun vs e h=>hy.isLst (W:=InNow C A s Q E t a) e fun P its h1 h2 _ =>
    D2 h (fun h=>j9 h fun p e' h=>u0 h fun ys w k=>hx.isTxt (W:=fun a=>InNow C A s Q E t a (.ref P)) e' fun u' _ =>
      ⟨fun q=>PyProof.Rows.in_list_strs (r.lstAt h1) (K3 h2 w) ((N8 p ys).trans k▸q),fun q=>PyProof.Rows.notin_list_strs (r.lstAt h1) (K3 h2 w) ((N8 p ys).trans k▸q)⟩) fun h =>
    j9 h fun i e' h=>u0 h fun ys w k=>hx.isInt (W:=fun a=>InNow C A s Q E t a (.ref P)) e' fun u' =>
      ⟨fun q=>PyProof.Rows.in_list_ints (r.lstAt h1) (W7 h2 w) (k▸q),fun q=>PyProof.Rows.notin_list_ints (r.lstAt h1) (W7 h2 w) (k▸q)⟩
theorem I5 {α β:Type} {P':Gh→H→Heap→β→α→Prop} {k:Bool→R β} {Q':α→Shared→Prop} {E':Value→Shared→Prop} (r:Rel C F g loc c s.heap) (hu:A.units+64 < cLine) {o:CO} {x y:V} {a b:Value} (hx:VR C g x a) (hy:VR C g y b) (G:Goal C F P' g s (ofK (cmpV o c x y) k) Q' E')
    {Q:Value→Shared→Prop} {E:Value→Shared→Prop} (hq:∀ t,Goal C F P' g s (k t) Q' E'→Q (.bool t) s):wpAny (model C.prog C.w) A (compareOp (opC o) a b) Q E s:=by
  revert G
  cases o with
  | eq=>exact fun G=>G.opt fun t h G=>(ay3 r hx hy h).elim fun da q=>q.elim fun db q=>q.1.1.elim fun _ ra=>q.2.1.1.elim fun _ rb=>SeqAt.compareEq_shaped ra rb q.1.shaped q.2.1.shaped hu (q.2.2▸hq t G)
  | ne=>exact fun G=>G.omap fun t h G=>(ay3 r hx hy h).elim fun da q=>q.elim fun db q=>q.1.1.elim fun _ ra=>q.2.1.1.elim fun _ rb=>SeqAt.compareNe_shaped ra rb q.1.shaped q.2.1.shaped hu (q.2.2▸hq (!t) G)
  | isin=>exact fun G=>G.opt fun t h G=>(al8 r hx hy h).1 (hq t G)
  | notin=>exact fun G=>G.omap fun t h G=>(al8 r hx hy h).2 (hq (!t) G)
  | lt=>exact fun G=>G.ints2 (W2:=fun a b=>wpAny _ A (compareOp .Lt a b) Q E s) hx hy fun _ _ _ _ G=>wpAny_lt_int (hq _ G)
  | gt=>exact fun G=>G.ints2 (W2:=fun a b=>wpAny _ A (compareOp .Gt a b) Q E s) hx hy fun _ _ _ _ G=>P.gt_int (hq _ G)
  | le=>exact fun G=>G.pick (fun G=>G.ints2 (W2:=fun a b=>wpAny _ A (compareOp .LtE a b) Q E s) hx hy fun _ _ _ _ G=>P.le_int (hq _ G)) fun G =>
      G.strs2 (W2:=fun a b=>wpAny _ A (compareOp .LtE a b) Q E s) hx hy fun l _ m _ _ _ G=>P.le_str (hq _ G)
  | ge=>exact fun G=>G.ints2 (W2:=fun a b=>wpAny _ A (compareOp .GtE a b) Q E s) hx hy fun _ _ _ _ G=>P.ge_int (hq _ G)
theorem Goal.map_in {α β γ δ:Type} {P:Gh→H→Heap→β→α→Prop} {Q:α→Shared→Prop} {E:Value→Shared→Prop} {o:Option γ} {j:γ→δ} {k:δ→R β} (G:Goal C F P g s (ofK (o.map j) k) Q E):Goal C F P g s (ofK o fun v=>k (j v)) Q E:=by cases o <;> exact G
theorem H8 (slice:Expr) (o i:Value):∃ ops,subscripted slice false o i=operate ops (getItem o i):=by
  cases slice with
  | Slice _ _ st _=>cases st <;> exact ⟨_,rfl⟩
  | _=>exact ⟨_,rfl⟩
theorem K7 {k:Int} {n:Nat} (h0:0≤k) (h1:k.toNat < n):seqIndex? k n=some k.toNat:=by
  unfold seqIndex?
  simp only [if_neg (Int.not_lt.mpr h0)]
  exact if_pos (Bool.and_eq_true_iff.mpr ⟨decide_eq_true h0,decide_eq_true (by omega)⟩)
theorem big63 {n:Nat} {k:Int} (h0:0≤k) (h1:k.toNat < n) (h2:n≤sizeLine):k < 2 ^ 63:=by
  have:sizeLine < 2 ^ 62:=by decide
  omega
theorem fits63 {k:Int} (h:0≤k) (h':k < 2 ^ 63):fitsSsize k=true:=by
  unfold fitsSsize; rw [decide_eq_false (by omega),decide_eq_false (by omega)]; rfl
theorem F9 {α:Type} {l:List α} {i:Nat} {x:α} (e:l[i]?=some x):i < l.length:=(List.getElem?_eq_some_iff.mp e).1
theorem aQ1 (r:Rel C F g loc c s.heap) {value slice:Expr} {x i:V} {a b:Value} (hx:VR C g x a) (hi:VR C g i b) {Q:Value→Shared→Prop} {E:Value→Shared→Prop}
    (G:Goal C F (EvP C F loc (VR C)) g s (ofO (idxV c x i) c) Q E):wpAny (model C.prog C.w) A (subscriptTail value slice a b) Q E s :=
  G.int (W:=fun b=>wpAny (model C.prog C.w) A (subscriptTail value slice a b) Q E s) hi fun k u G =>
  G.pick (fun G=>G.txt (W:=fun a=>wpAny (model C.prog C.w) A (subscriptTail value slice a (.int k u)) Q E s) hx fun l t h G=>G.omap fun z e G=>al9 e fun h0 e =>
      have e1:Txt.charAt (strOf l) k=some z:=by
        unfold Txt.charAt
        rw [K7 (n:=(strOf l).length) h0 (F9 e)]
        exact (List.getElem?_toArray).trans e
      (H8 slice (.str (strOf l) t) (.int k u)).elim fun ops hs=>tail_any (typeIs_str _ _ _) PySem.F.slot_str_getitem.lookup (SB.getItem (fits63 h0 (big63 h0 (F9 e) h.len)) (by rw [e1]; rfl)
        ((show Txt.item (strOf l) k=strOf [z] by unfold Txt.item; rw [e1]; rfl)▸G.now r (.txt (.one (h.cps z (List.mem_of_getElem? e)))))) hs) fun G =>
  G.pick (fun G=>G.obind fun vs e G=>hx.isTup (W:=fun a=>wpAny (model C.prog C.w) A (subscriptTail value slice a (.int k u)) Q E s) e fun p its h1 h2 h3=>G.opt fun y e G=>al9 e fun h0 e=>(h2.get e).elim fun v q =>
      have hb:its.length≤sizeLine:=h2.length▸Nat.le_trans h3 v5
      (H8 slice (.ref p) (.int k u)).elim fun ops hs=>tail_any (r.tupAt h1).typeIs slot_tuple_getitem.lookup (PyProof.Rows.getItem_tuple (r.tupAt h1) (by omega) (big63 h0 (F9 q.1) hb) (K7 h0 (F9 q.1)) ((List.getElem?_toArray).trans q.1) (G.now r q.2)) hs) fun G =>
  G.list (W:=fun a=>wpAny (model C.prog C.w) A (subscriptTail value slice a (.int k u)) Q E s) r hx fun vs p its h1 h2 h3 G=>G.opt fun y e G =>
      have hb:its.length≤sizeLine:=h2.length▸Nat.le_trans h3 v5
      (H8 slice (.ref p) (.int k u)).elim fun ops hs=>if h0:0≤k then (h2.get ((if_pos h0).symm.trans e)).elim fun v q =>
          tail_any h1.typeIs slot_list_getitem.lookup (wpAny_getItem_list h1 h0 (big63 h0 (F9 q.1) hb) ((List.getElem?_toArray).trans q.1) (G.now r q.2)) hs
        else al9 ((if_neg h0).symm.trans e) fun h1' e=>(h2.get e).elim fun v q =>
          tail_any h1.typeIs slot_list_getitem.lookup (wpAny_getItem_list_neg h1 (Int.not_le.mp h0) (show -(its.length:Int)≤k from h2.length▸Int.neg_le_of_neg_le h1') (Int.le_trans (Int.neg_le_neg (Int.ofNat_le.mpr (Nat.le_trans hb (show sizeLine≤2 ^ 63 by decide)))) (show -(its.length:Int)≤k from h2.length▸Int.neg_le_of_neg_le h1')) (show its.toArray[(k+its.length).toNat]?=_ from (List.getElem?_toArray).trans (h2.length▸q.1)) (G.now r q.2)) hs
theorem VRs.drop {C:Cfg} {g:Gh} {vs:List V}:∀ {xs:List Value} (n:Nat),VRs C g vs xs→VRs C g (vs.drop n) (xs.drop n):=by
  induction vs with
  | nil=>exact fun n h=>(show _=_ from h)▸(by rw [List.drop_nil,List.drop_nil]; exact .nil)
  | cons v vs ih=>exact fun n h=>match n with
    | 0=>h
    | n+1=>h.elim fun _ h=>h.elim fun _ h=>h.1▸ih n h.2.2
theorem VRs.take {C:Cfg} {g:Gh} {vs:List V}:∀ {xs:List Value} (n:Nat),VRs C g vs xs→VRs C g (vs.take n) (xs.take n):=by
  induction vs with
  | nil=>exact fun n h=>(show _=_ from h)▸(by rw [List.take_nil,List.take_nil]; exact .nil)
  | cons v vs ih=>exact fun n h=>match n with
    | 0=>.nil
    | n+1=>h.elim fun _ h=>h.elim fun _ h=>h.1▸.cons h.2.1 (ih n h.2.2)
theorem VRs.slice {C:Cfg} {g:Gh} {vs:List V} {xs:List Value} (lo hi:Option Int) (r:VRs C g vs xs):VRs C g (sliceL vs lo hi) (sliceL xs lo hi):=by
  rw [D7,D7,r.length]
  exact (r.drop _).take _
theorem ac8 (its:List Value) (lo hi:Option Int):slicePick its.toArray lo hi none=(sliceL its lo hi).toArray:=by
  have e:=pick_run its.toArray (lo.elim 0 (clipAt its.length)) (hi.elim its.length (clipAt its.length) - lo.elim 0 (clipAt its.length))
  rw [D7,← show _=_ from e,← sliceRange_one]
  unfold slicePick
  rw [sliceBounds_plain]
  rfl
inductive Part:V→Value→Option Int→Option (Int×Tok)→Prop
  | none:Part .none .none none none
  | int (i:Int) (t:Tok):Part (.int i) (.int i t) (some i) (some (i,t))
theorem av8 {x:V} {a:Value} {p:Option Int} (hx:VR C g x a) (h:bnd x=some p):∃ q,Part x a p q:=by
  cases x with
  | none=>exact (show a=_ from hx)▸Option.some.inj h▸⟨_,.none⟩
  | int i=>exact hx.elim fun t q=>q▸Option.some.inj h▸⟨_,.int i t⟩
  | _=>cases h
theorem Part.is {x:V} {a:Value} {p:Option Int} {q:Option (Int×Tok)} (h:Part x a p q):IsPart a p∧a=partValue q∧p=q.map (·.1):=by
  cases h with
  | none=>exact ⟨.none,rfl,rfl⟩
  | int i t=>exact ⟨.int i t,rfl,rfl⟩
theorem aQ0 (r:Rel C F g loc c s.heap) {value slice:Expr} {x lo hi:V} {a l u:Value} (hx:VR C g x a) (hl:VR C g lo l) (hu:VR C g hi u) {Q:Value→Shared→Prop} {E:Value→Shared→Prop}
    (G:Goal C F (EvP C F loc (VR C)) g s (ofO (slcV x lo hi) c) Q E) :
    wpAny (model C.prog C.w) A (subscriptTail value slice a (.ref s.heap.objs.size)) Q E { s with heap:=s.heap.push { cls:=.type "slice",data:=.fields #[l,u,.none] } } :=
  G.obind fun p e1 G=>G.obind fun q e2 G=>(av8 hl e1).elim fun p' P1=>(av8 hu e2).elim fun q' P2 =>
  have r2:=r.push { cls:=.type "slice",data:=.fields #[l,u,.none] }
  G.pick (fun G=>G.omap fun m e G=>hx.isTxt (W:=fun a=>wpAny (model C.prog C.w) A (subscriptTail value slice a (.ref s.heap.objs.size)) Q E { s with heap:=s.heap.push { cls:=.type "slice",data:=.fields #[l,u,.none] } }) e fun t h =>
      (H8 slice (.str (strOf m) t) (.ref s.heap.objs.size)).elim fun ops hs=>tail_any (typeIs_str _ _ _) PySem.F.slot_str_getitem.lookup (wpAny_getItem_str_slice (l:=p') (u:=q') (st:=none) ⟨_,Heap.get?_push_size _ rfl,rfl,by rw [P1.is.2.1,P2.is.2.1]; rfl⟩ rfl
        (ap8 h fun t' tk=>P1.is.2.2▸P2.is.2.2▸G.done g.le_refl ⟨r2,.txt h.slice⟩)) hs) fun G =>
  G.omap fun vs e G=>hx.isLst (W:=fun a=>wpAny (model C.prog C.w) A (subscriptTail value slice a (.ref s.heap.objs.size)) Q E { s with heap:=s.heap.push { cls:=.type "slice",data:=.fields #[l,u,.none] } }) e fun o its h1 h2 h3 =>
      (H8 slice (.ref o) (.ref s.heap.objs.size)).elim fun ops hs=>tail_any ((r2.lstAt (s:={ s with heap:=_ }) h1).typeIs) slot_list_getitem.lookup (wpAny_getItem_list_slice (r2.lstAt (s:={ s with heap:=_ }) h1) (Heap.IsSliceOf.new _ _ _ _) P1.is.1 P2.is.1 .none (fun q=>nomatch q)
        (ac8 its p q▸Goal.newList (s:={ s with heap:=_ }) (G.move g.le_refl) r2 (h2.slice p q) (Nat.le_trans (V8 _ _ _) h3)) (show its.length≤sizeLine from h2.length▸Nat.le_trans h3 v5)) hs
end
end Mine
end
section
namespace Mine
open PySem PySem.Spec PySem.Calls PyProof.Rows PySem.StrLaws PySem.Builtin PySem.Builtin.Str
noncomputable def p1Fn:P1→Option Value
  | .len=>some (.builtin "len") | .ord=>some (.builtin "ord") | .chr=>some (.builtin "chr") | .sum=>some (.builtin "sum") | .min=>some (.builtin "min")
  | .str=>some (.type "str") | .lower=>some (.builtin "str.lower") | _=>none
noncomputable def p2Fn:P2→Option Value
  | .max=>some (.builtin "max") | .find=>some (.builtin "str.find") | .count=>some (.builtin "str.count") | .split=>some (.builtin "str.split")
  | .lstrip=>some (.builtin "str.lstrip") | .join=>some (.builtin "str.join") | .append=>some (.builtin "list.append")
section
variable {C:Cfg} {A:Around} {F:Fm} {g:Gh} {loc:L} {c:H} {s:Shared} {Q:Value→Shared→Prop} {E:Value→Shared→Prop}
theorem ah7 {n:Nat} (h:n≤sizeLine):tooLong n=false:=decide_eq_false (Nat.not_lt.mpr h)
theorem I7 {i:Int} (h:small i=true):i.natAbs.log2 < 1920:=by
  by_cases h0:i.natAbs=0
  · rw [h0]; decide
  · refine Nat.lt_trans ((Nat.log2_lt (k:=62) h0).mpr ?_) (by decide)
    have:=T2 h
    omega
theorem S5 (i:Int):Str.ofString (toString i)=strOf (textOf i):=Str.ofString_eq_toList _
theorem as6 (c:Char):c.toNat < 1114112:=c.valid.elim (fun h=>Nat.lt_trans h (by decide)) fun h=>h.2
theorem aP8 {i:Int} (hs:small i=true):TxtOK (textOf i):=⟨Nat.le_trans (Nat.le_of_eq (congrArg Str.length (S5 i)).symm) (int_text_fits (I7 hs)),fun z hz=>(List.mem_map.mp hz).elim fun q w=>w.2▸as6 q⟩
theorem ak6 {z:Nat} (h:z < 128):lowerC z < 1114112:=by
  unfold lowerC
  split
  · exact Nat.lt_of_lt_of_le (Nat.add_lt_add_right h 32) (by decide)
  · exact Nat.lt_trans h (by decide)
theorem TxtOK.lower {l:List Nat} (h:TxtOK l) (hs:l.all (fun c=>decide (c < 128))=true):TxtOK (l.map lowerC) :=
  ⟨Nat.le_trans (Nat.le_of_eq (List.length_map ..)) h.len,fun z hz=>(List.mem_map.mp hz).elim fun q w=>w.2▸ak6 (of_decide_eq_true (List.all_eq_true.mp hs q w.1))⟩
theorem size62 {n:Nat} (h:n≤sizeLine):(n:Int) < 2 ^ 63:=Int.ofNat_lt.mpr (Nat.lt_of_le_of_lt h (show sizeLine < 2 ^ 63 by decide))
theorem W6 {vs:List V} {its:List Value} {is:List Int} (h2:VRs C g vs its) (e:intsOf vs=some is):∃ xs,its.toArray=intItems xs∧is=xs.toList.map (·.1) :=
  have hi:=W7 h2 e
  hi.allInts.items.imp fun xs ex=>⟨ex,by rw [← hi.numsOf,← nums_intItems,← ex]⟩
theorem bc5 {xs:Array (Int×Tok)} {m:Int} (em:(xs.toList.map (·.1)).min?=some m):0 < xs.size∧numAt xs (argBest (fun i j=>decide (numAt xs i < numAt xs j)) (xs.size - 1))=m:=by
  have hm:=List.min?_eq_some_iff.mp em
  have hl:(xs.toList.map (·.1)).length=xs.size:=(List.length_map ..).trans Array.length_toList
  have hsz:0 < xs.size:=hl▸List.length_pos_of_mem hm.1
  have h:=argBest_lt (numAt xs) (xs.size - 1)
  refine ⟨hsz,Int.le_antisymm ?_ (hm.2 _ ?_)⟩
  · refine (mem_getD hm.1).elim fun j q=>?_
    have k3:=h.2 j (Nat.le_pred_of_lt (hl▸q.1))
    rw [numAt_eq xs j,q.2] at k3
    exact k3
  · rw [numAt_eq]
    exact PySem.getD_mem (Nat.lt_of_lt_of_eq (Nat.lt_of_le_of_lt h.1 (Nat.pred_lt (Nat.ne_of_gt hsz))) hl.symm)
theorem ba0 {xs:Array (Int×Tok)} {is:List Int} (e:is=xs.toList.map (·.1)):is.sum=preSum (numAt xs) xs.size:=by
  rw [preSum_eq,List.take_of_length_le (Nat.le_of_eq ((List.length_map ..).trans Array.length_toList)),e]
theorem aJ6 {n m:Nat} {t:Tok} {s:Shared} (e:n=m) (q:Q (.int m t) s):Q (.int n t) s:=e▸q
theorem bb8 {W:List Nat→V→Prop} {l:List Nat} {v:V} (e:ord1 l=some v) (f:∀ z:Nat,W [z] (.int z)):W l v:=by
  cases l with
  | nil=>cases e
  | cons z r=>cases r with
    | nil=>exact Option.some.inj e▸f z
    | cons=>cases e
theorem prim1 (r:Rel C F g loc c s.heap) (hh:A.handled=none) {p:P1} {f:Value} {x:V} {a:Value} (hf:p1Fn p=some f) (hx:VR C g x a) (G:Goal C F (EvP C F loc (VR C)) g s (p1V p x c) Q E):wpAny (model C.prog C.w) A (call f [a]) Q E s:=by
  revert G
  cases p with
  | len=>exact Option.some.inj hf▸fun G=>G.pick (fun G=>G.omap fun l e G=>hx.isTxt (W:=fun a=>wpAny _ A (call (.builtin "len") [a]) Q E s) e fun t h=>P.len_str (Int.not_le.mpr (size62 h.len)) (G.now r (.int _ _))) fun G =>
      G.pick (fun G=>G.omap fun l e G=>hx.isList (W:=fun a=>wpAny _ A (call (.builtin "len") [a]) Q E s) r e fun p its h1 h2 h3=>call_len_list h1 (size62 (n:=its.length) (h2.length▸Nat.le_trans h3 v5)) (aJ6 h2.length (G.now r (.int _ _)))) fun G =>
      G.omap fun l e G=>hx.isTup (W:=fun a=>wpAny _ A (call (.builtin "len") [a]) Q E s) e fun p its h1 h2 h3=>PyProof.Rows.len_tuple (r.tupAt h1) (size62 (n:=its.length) (h2.length▸Nat.le_trans h3 v5)) (aJ6 h2.length (G.now r (.int _ _)))
  | ord=>exact Option.some.inj hf▸fun G=>G.omap fun v e G=>j9 e fun l e1 e2=>hx.isTxt (W:=fun a=>wpAny _ A (call (.builtin "ord") [a]) Q E s) e1 fun t h=>bb8 (W:=fun l v=>Goal C F (EvP C F loc (VR C)) g s (.ok v c) Q E→wpAny _ A (call (.builtin "ord") [.str (strOf l) t]) Q E s) e2 (fun z G=>P.ord_of_char (G.now r (.int _ _))) G
  | chr=>exact Option.some.inj hf▸fun G=>G.int (W:=fun a=>wpAny _ A (call (.builtin "chr") [a]) Q E s) hx fun i t G=>G.oif fun hi G=>P.chr_of_int (by simp; omega) (G.now r (.txt (.one (by omega))))
  | sum=>exact Option.some.inj hf▸fun G=>G.obind fun l e G=>hx.isLst (W:=fun a=>wpAny _ A (call (.builtin "sum") [a]) Q E s) e fun p its h1 h2 h3=>G.omap fun is e G=>(W6 h2 e).elim fun xs q =>
      sum_intListG hh (q.1▸r.lstAt h1) fun h' tk t' hk=>ba0 q.2▸G.done g.le_refl ⟨r.keeps hk,.int _ _⟩
  | min=>exact Option.some.inj hf▸fun G=>G.obind fun l e G=>hx.isLst (W:=fun a=>wpAny _ A (call (.builtin "min") [a]) Q E s) e fun p its h1 h2 h3=>G.obind fun is e G=>G.omap fun m em G=>(W6 h2 e).elim fun xs q =>
      have hm:=bc5 (q.2▸em)
      min_intList hh (q.1▸r.lstAt h1) hm.1 fun v h' tk hv hk=>(intItems_at hv).elim fun t e=>e▸hm.2▸G.done g.le_refl ⟨r.keeps hk,.int _ _⟩
  | str=>exact Option.some.inj hf▸fun G=>G.int (W:=fun a=>wpAny _ A (call (.type "str") [a]) Q E s) hx fun i t G=>G.oif fun hs G=>P.str_of_int (I7 hs) (S5 i▸G.now r (.txt (aP8 hs)))
  | lower=>exact Option.some.inj hf▸fun G=>G.txt (W:=fun a=>wpAny _ A (call (.builtin "str.lower") [a]) Q E s) hx fun l t h G=>G.oif fun hs G=>SC.lower (ak7 hs▸ah7 (h.lower hs).len) (ak7 hs▸G.now r (.txt (h.lower hs)))
  | _=>exact nomatch hf
theorem aa2 (d:Nat) (l:List Nat):∀ acc,(splitC d l acc).length≤l.length+1:=by
  induction l with
  | nil=>exact fun _=>Nat.le_refl 1
  | cons z r ih =>
    intro acc
    rw [splitC]
    split
    · exact Nat.succ_le_succ (ih [])
    · exact Nat.le_succ_of_le (ih _)
theorem az8 (d:Nat) {l:List Nat} {P:Nat→Prop}:(∀ z∈l,P z)→∀ acc:List Nat,(∀ z∈acc,P z)→∀ p∈splitC d l acc,p.length≤acc.length+l.length∧∀ z∈p,P z:=by
  induction l with
  | nil=>exact fun _ acc ha p hp=>List.mem_singleton.mp hp▸⟨Nat.le_of_eq List.length_reverse,fun z hz=>ha z (List.mem_reverse.mp hz)⟩
  | cons z r ih =>
    intro hl acc ha p hp
    rw [splitC] at hp
    split at hp
    · exact (List.mem_cons.mp hp).elim (fun e=>e▸⟨Nat.le_trans (Nat.le_of_eq List.length_reverse) (Nat.le_add_right _ _),fun z hz=>ha z (List.mem_reverse.mp hz)⟩)
        fun hp=>have q:=ih (fun y hy=>hl y (.tail _ hy)) [] (fun _ h=>nomatch h) p hp; ⟨Nat.le_trans q.1 (Nat.le_trans (Nat.le_of_eq (Nat.zero_add _)) (Nat.le_trans (Nat.le_succ _) (Nat.le_add_left _ _))),q.2⟩
    · have q:=ih (fun y hy=>hl y (.tail _ hy)) (z::acc) (fun y hy=>(List.mem_cons.mp hy).elim (fun e=>e▸hl z (.head _)) (ha y)) p hp
      exact ⟨Nat.le_trans q.1 (Nat.le_of_eq (Nat.succ_add_eq_add_succ _ _)),q.2⟩
theorem VR.txt' {l:List Nat} {x:Str} {t:Tok} (e:strOf l=x) (h:TxtOK l):VR C g (.str l) (.str x t):=e▸.txt h
theorem aD7 {ps:List (Str×Tok)}:(∀ p∈ps.map (·.1.cps.toList),TxtOK p)→VRs C g ((ps.map (·.1.cps.toList)).map .str) (strValues ps):=by
  induction ps with
  | nil=>exact fun _=>.nil
  | cons p r ih=>exact fun h=>.cons (VR.txt' (ao1 p.1) (h _ (.head _))) (ih fun q hq=>h q (.tail _ hq))
theorem az9 (r:Rel C F g loc c s.heap) {l:List Nat} {d:Nat} {t u:Tok} (hb:l.length < big) (hv:TxtOK l) (G:Goal C F (EvP C F loc (VR C)) g s (.ok (.lst ((splitC d l []).map .str)) c) Q E) :
    wpAny (model C.prog C.w) A (call (.builtin "str.split") [.str (strOf l) t,.str (strOf [d]) u]) Q E s:=by
  have fin:∀ (ps:List (Str×Tok)) tk,ps.map (·.1)=Txt.split (strOf l) (strOf [d])→Q (.ref s.heap.objs.size) { s with heap:=s.heap.push { cls:=.type "list",data:=.seq (strValues ps).toArray },toks:=tk }:=fun ps tk e=>by
    have e2:ps.map (·.1.cps.toList)=splitC d l []:=by rw [← ai3,← e,List.map_map]; rfl
    refine Goal.newList G r (e2▸aD7 fun p hp=>?_) (Nat.le_trans (Nat.le_of_eq (List.length_map ..)) (Nat.le_trans (aa2 d l []) hb))
    have q:=az8 d hv.cps [] (fun _ h=>nomatch h) p (e2▸hp)
    exact ⟨Nat.le_trans q.1 (Nat.le_trans (Nat.le_of_eq (Nat.zero_add _)) hv.len),q.2⟩
  have hy:((strOf [d]).length==0)=false:=rfl
  cases h1:(decide ((strOf l).length < (strOf [d]).length) || decide (strKind (strOf l) < strKind (strOf [d])))
  · cases hf:(occurrences (strOf l) (strOf [d]) 0 (strOf l).length ((strOf l).length+1)).isEmpty
    · have e:Txt.split (strOf l) (strOf [d])=partsBetween (strOf l) (occurrences (strOf l) (strOf [d]) 0 (strOf l).length ((strOf l).length+1)) (strOf [d]).length:=(if_neg (ne_true_of_eq_false h1)).trans (if_neg (ne_true_of_eq_false hf))
      have hn:=congrArg List.length (ai3 l d)
      rw [List.length_map,e] at hn
      refine call_meets PySem.F.slot_str_split (typeIs_str _ _ _) PySem.F.entry_str_split (PySem.F.args_str_split_2 _ _) (meets_str_split_sep (strOf l) (strOf [d]) t u h1 hy hf hv.len (hn▸Nat.le_trans (aa2 d l []) (Nat.le_trans hb v5))) ?_
      show wants Q E _ { s with toks:=_,heap:=s.heap.push { cls:=.type "list",data:=.seq (strsFrom s.toks (partsBetween (strOf l) (occurrences (strOf l) (strOf [d]) 0 (strOf l).length ((strOf l).length+1)) (strOf [d]).length)).toArray } }
      rw [strsFrom_eq]
      exact fin (numbered s.toks _) _ ((numbered_texts _ _).trans e.symm)
    · exact call_meets PySem.F.slot_str_split (typeIs_str _ _ _) PySem.F.entry_str_split (PySem.F.args_str_split_2 _ _) (meets_str_split_not_found (strOf l) (strOf [d]) t u h1 hy hf)
        (fin [(strOf l,t)] s.toks ((if_neg (ne_true_of_eq_false h1)).trans (if_pos hf)).symm)
  · exact call_meets PySem.F.slot_str_split (typeIs_str _ _ _) PySem.F.entry_str_split (PySem.F.args_str_split_2 _ _) (meets_str_split_cannot_occur (strOf l) (strOf [d]) t u h1)
      (fin [(strOf l,t)] s.toks (if_pos h1).symm)
theorem aB4 {vs:List V}:∀ {its:List Value} {x:List Nat},VRs C g vs its→joinL vs=some x→∃ ps:List (Str×Tok),its=strValues ps∧(ps.map (·.1.cps.toList)).flatten=x∧∀ z∈x,z < 1114112:=by
  induction vs with
  | nil=>exact fun r h=>(show _=_ from r)▸Option.some.inj h▸⟨[],rfl,rfl,fun z hz=>nomatch hz⟩
  | cons v vs ih =>
    intro its x r h
    cases v with
    | str l=>exact u0 h fun w e q=>q▸r.elim fun _ r=>r.elim fun _ r=>r.1▸r.2.1.elim fun t k=>k.1▸(ih r.2.2 e).elim fun ps q =>
        ⟨(strOf l,t)::ps,congrArg _ q.1,congrArg (l++·) q.2.1,fun z hz=>(List.mem_append.mp hz).elim (k.2.cps z) (q.2.2 z)⟩
    | _=>cases h
theorem aB5 (ps:List Str):(glued (strOf []) ps).cps.toList=(ps.map (·.cps.toList)).flatten:=by
  have f:∀ (r:List Str) (acc:Array Nat),(r.foldl (fun acc p=>acc++(strOf []).cps++p.cps) acc).toList=acc.toList++(r.map (·.cps.toList)).flatten:=by
    intro r
    induction r with
    | nil=>exact fun acc=>(List.append_nil _).symm
    | cons p r ih=>intro acc; rw [List.foldl_cons,ih,Array.toList_append,Array.toList_append,List.map_cons,List.flatten_cons,List.append_assoc,List.append_assoc]; rfl
  cases ps with
  | nil=>rfl
  | cons p r=>exact f r p.cps
theorem aJ9 (r:Rel C F g loc c s.heap) {n:Nat} {a:Addr} {vs:List V} {x:List Nat} {t:Tok} (ha:g.σ[n]?=some a) (hc:c[n]?=some vs) (hj:joinL vs=some x) (hb:x.length≤big) (G:Goal C F (EvP C F loc (VR C)) g s (.ok (.str x) c) Q E) :
    wpAny (model C.prog C.w) A (call (.builtin "str.join") [.str (strOf []) t,.ref a]) Q E s :=
  (r.cellAt ha hc).elim fun its w=>(aB4 w.vrs hj).elim fun ps q=>by
  refine SC.join (q.1▸w.pl.isList) rfl ?_ fun t' k=>?_
  · unfold JoinOk
    rw [joinTotal,show ((ps.map (·.1)).map (·.length)).sum=x.length by rw [← q.2.1,List.length_flatten,List.map_map,List.map_map]; rfl,show (strOf []).length=0 from rfl,Nat.mul_zero,Nat.add_zero,ah7 (Nat.le_trans hb v5)]
    rfl
  · rw [show Txt.join (strOf []) (ps.map (·.1))=strOf x from congrArg Str.mk (Array.toList_inj.mp ((aB5 _).trans (by rw [List.map_map]; exact q.2.1)))]
    exact G.now r (.txt ⟨Nat.le_trans hb v5,q.2.2⟩)
theorem bf5 {W:List Nat→V→Prop} {l p:List Nat} {v:V} (e:cnt1 l p=some v) (f:∀ z:Nat,W [z] (.int (l.count z))):W p v:=by
  cases p with
  | nil=>cases e
  | cons z r=>cases r with
    | nil=>exact Option.some.inj e▸f z
    | cons=>cases e
theorem ba3 {W:List Nat→V→Prop} {l p:List Nat} {v:V} (e:spl1 l p=some v) (f:∀ z:Nat,l.length < big→W [z] (.lst ((splitC z l []).map .str))):W p v:=by
  cases p with
  | nil=>cases e
  | cons z r=>cases r with
    | nil=>exact al9 e fun h e=>Option.some.inj e▸f z h
    | cons=>cases e
theorem aT5 {i j:Int} {t u:Tok} {s:Shared} (f:∀ k v,(if i < j then j else i)=k→Q (.int k v) s):Q (if j > i then .int j u else .int i t) s:=by
  by_cases q:i < j
  · rw [if_pos (show j > i from q)]; exact f j u (if_pos q)
  · rw [if_neg (show ¬ j > i from q)]; exact f i t (if_neg q)
theorem aM3 (l m:List Nat) {i:Int} (h:0≤i):Txt.find3 (strOf l) (strOf m) i=findL l m i.toNat:=(congrArg (Txt.find3 (strOf l) (strOf m)) (Int.toNat_of_nonneg h).symm).trans (aM2 l m i.toNat)
theorem bd0 {i j:Int} {t:Tok} {s:Shared} (e:i=j) (q:Q (.int j t) s):Q (.int i t) s:=e▸q
theorem prim2 (r:Rel C F g loc c s.heap) (hh:A.handled=none) {p:P2} {f:Value} {x y:V} {a b:Value} (hf:p2Fn p=some f) (hx:VR C g x a) (hy:VR C g y b) (G:Goal C F (EvP C F loc (VR C)) g s (p2V p x y c) Q E):wpAny (model C.prog C.w) A (call f [a,b]) Q E s:=by
  revert G
  cases p with
  | max=>exact Option.some.inj hf▸fun G=>G.ints2 (W2:=fun a b=>wpAny _ A (call (.builtin "max") [a,b]) Q E s) hx hy fun i t j u G=>max_two_ints hh fun h' tk hk=>aT5 fun k v e=>G.done g.le_refl ⟨r.keeps hk,e▸.int _ _⟩
  | find=>exact Option.some.inj hf▸fun G=>G.strs2 (W2:=fun a b=>wpAny _ A (call (.builtin "str.find") [a,b]) Q E s) hx hy fun l t m u _ _ G=>SC.find (aM4 l m▸G.now r (.int _ _))
  | count=>exact Option.some.inj hf▸fun G=>G.strs2 (W2:=fun a b=>wpAny _ A (call (.builtin "str.count") [a,b]) Q E s) hx hy fun l t m u _ _ G=>G.omap fun v e G=>bf5 (W:=fun m v=>Goal C F (EvP C F loc (VR C)) g s (.ok v c) Q E→wpAny _ A (call (.builtin "str.count") [.str (strOf l) t,.str (strOf m) u]) Q E s) e (fun z G=>SC.count (aN2 l z▸G.now r (.int _ _))) G
  | split=>exact Option.some.inj hf▸fun G=>G.strs2 (W2:=fun a b=>wpAny _ A (call (.builtin "str.split") [a,b]) Q E s) hx hy fun l t m u h _ G=>G.omap fun v e G=>ba3 (W:=fun m v=>Goal C F (EvP C F loc (VR C)) g s (.ok v c) Q E→wpAny _ A (call (.builtin "str.split") [.str (strOf l) t,.str (strOf m) u]) Q E s) e (fun z hb G=>az9 r hb h G) G
  | lstrip=>exact Option.some.inj hf▸fun G=>G.strs2 (W2:=fun a b=>wpAny _ A (call (.builtin "str.lstrip") [a,b]) Q E s) hx hy fun l t m u h _ G =>
      have sub:=List.dropWhile_sublist (l:=l) (m.contains)
      SC.lstripChars (fun t' k=>aB2 l m▸G.now r (.txt (h.sub sub.length_le fun _ hz=>sub.subset hz))) h.len
  | join=>exact Option.some.inj hf▸fun G=>G.txt (W:=fun a=>wpAny _ A (call (.builtin "str.join") [a,b]) Q E s) hx fun l t _ G=>G.obind fun n e G=>hy.isRef (W:=fun b=>wpAny _ A (call (.builtin "str.join") [.str (strOf l) t,b]) Q E s) e fun p hp =>
      G.obind fun vs hc G=>G.obind fun w e G=>G.oif fun hs G=>hs.1▸aJ9 r hp hc e hs.2 G
  | append=>exact Option.some.inj hf▸fun G=>G.obind fun n e G=>hx.isRef (W:=fun a=>wpAny _ A (call (.builtin "list.append") [a,b]) Q E s) e fun p hp=>G.obind fun vs hc G=>G.oif fun hs G=>(r.cellAt hp hc).elim fun its w =>
      wpAny_list_append_plain w.pl (fun h' hl' hsb=>G.done g.le_refl ⟨r.setCell hp (VRs.append (.cons hy .nil) w.vrs) (Nat.le_trans (Nat.le_of_eq List.length_append) hs) (List.push_toArray its b▸hl') hsb,.none⟩) (show its.length≤sizeLine from w.vrs.length▸Nat.le_trans w.len v5)
theorem prim3 (r:Rel C F g loc c s.heap) {x y z:V} {a b d:Value} (hx:VR C g x a) (hy:VR C g y b) (hz:VR C g z d) (G:Goal C F (EvP C F loc (VR C)) g s (p3V .find x y z c) Q E):wpAny (model C.prog C.w) A (call (.builtin "str.find") [a,b,d]) Q E s :=
  G.strs2 (W2:=fun a b=>wpAny _ A (call (.builtin "str.find") [a,b,d]) Q E s) hx hy fun l t m u _ _ G=>G.int (W:=fun d=>wpAny _ A (call (.builtin "str.find") [.str (strOf l) t,.str (strOf m) u,d]) Q E s) hz fun i v G=>G.oif fun hs G =>
    SC.find3 (bd0 (aM3 l m hs.1) (G.now r (.int _ _)))
end
end Mine
end
section
set_option genInjectivity false
set_option backward.match.sparseCases false
namespace Mine
open PySem
theorem no_f {P:Prop} (h:false=true):P:=Bool.noConfusion h
theorem b7 {a b:Bool} (h:(a&&b)=true):a=true:=(Bool.and_eq_true_iff.mp h).1
theorem a8 {a b:Bool} (h:(a&&b)=true):b=true:=(Bool.and_eq_true_iff.mp h).2
theorem E1 {a b:Bool} (h:(a || b)=true):a=true∨b=true:=Bool.or_eq_true_iff.mp h
theorem v8 {a:Bool} (h:(!a)=true):a=false:=by cases a <;> first | rfl | cases h
theorem g7 {p:Prop} [Decidable p] (h:decide p=true):p:=of_decide_eq_true h
theorem r8 {α:Type} [BEq α] [LawfulBEq α] {a b:α} (h:(a==b)=true):a=b:=eq_of_beq h
noncomputable def xName (e:Expr) (k:PySem.Str→Pos→Bool):Bool:=match e with | .Name n p=>k n p | _=>false
noncomputable def xConst (e:Expr) (k:Const→Nat→Pos→Bool):Bool:=match e with | .Constant n i p=>k n i p | _=>false
noncomputable def xBin (e:Expr) (k:Expr→Operator→Expr→Pos→Bool):Bool:=match e with | .BinOp a o b p=>k a o b p | _=>false
noncomputable def xUn (e:Expr) (k:UnaryOp→Expr→Pos→Bool):Bool:=match e with | .UnaryOp o a p=>k o a p | _=>false
noncomputable def xBoolOp (e:Expr) (k:BoolOp→List Expr→Pos→Bool):Bool:=match e with | .BoolOp o a p=>k o a p | _=>false
noncomputable def xCmp (e:Expr) (k:Expr→List CmpOp→List Expr→Pos→Bool):Bool:=match e with | .Compare a o b p=>k a o b p | _=>false
noncomputable def xIf (e:Expr) (k:Expr→Expr→Expr→Pos→Bool):Bool:=match e with | .IfExp a o b p=>k a o b p | _=>false
noncomputable def xSub (e:Expr) (k:Expr→Expr→Pos→Bool):Bool:=match e with | .Subscript a b p=>k a b p | _=>false
noncomputable def xSlice (e:Expr) (k:Option Expr→Option Expr→Option Expr→Pos→Bool):Bool:=match e with | .Slice a b c p=>k a b c p | _=>false
noncomputable def xAttr (e:Expr) (k:Expr→PySem.Str→Pos→Bool):Bool:=match e with | .Attribute a n p=>k a n p | _=>false
noncomputable def xCall (e:Expr) (k:Expr→List Expr→List Keyword→Pos→Bool):Bool:=match e with | .Call a n w p=>k a n w p | _=>false
noncomputable def xTup (e:Expr) (k:List Expr→Nat→Pos→Bool):Bool:=match e with | .Tuple a n p=>k a n p | _=>false
noncomputable def xList (e:Expr) (k:List Expr→Pos→Bool):Bool:=match e with | .List a p=>k a p | _=>false
noncomputable def xComp (e:Expr) (k:Expr→List Comprehension→Scope→Pos→Bool):Bool:=match e with | .ListComp a g sc p=>k a g sc p | _=>false
noncomputable def xDict (e:Expr) (k:List (Option Expr)→List Expr→Pos→Bool):Bool:=match e with | .Dict a g p=>k a g p | _=>false
section
variable {P:Expr→Prop} {e:Expr}
theorem k6 {k:PySem.Str→Pos→Bool} (h:xName e k=true) (H:∀ n p,k n p=true→P (.Name n p)):P e:=by cases e <;> first | exact H _ _ h | exact no_f h
theorem x0 {k:Const→Nat→Pos→Bool} (h:xConst e k=true) (H:∀ n i p,k n i p=true→P (.Constant n i p)):P e:=by cases e <;> first | exact H _ _ _ h | exact no_f h
theorem aP3 {k:Expr→Operator→Expr→Pos→Bool} (h:xBin e k=true) (H:∀ a o b p,k a o b p=true→P (.BinOp a o b p)):P e:=by cases e <;> first | exact H _ _ _ _ h | exact no_f h
theorem aD6 {k:UnaryOp→Expr→Pos→Bool} (h:xUn e k=true) (H:∀ o a p,k o a p=true→P (.UnaryOp o a p)):P e:=by cases e <;> first | exact H _ _ _ h | exact no_f h
theorem S2 {k:BoolOp→List Expr→Pos→Bool} (h:xBoolOp e k=true) (H:∀ o a p,k o a p=true→P (.BoolOp o a p)):P e:=by cases e <;> first | exact H _ _ _ h | exact no_f h
theorem J9 {k:Expr→List CmpOp→List Expr→Pos→Bool} (h:xCmp e k=true) (H:∀ a o b p,k a o b p=true→P (.Compare a o b p)):P e:=by cases e <;> first | exact H _ _ _ _ h | exact no_f h
theorem aZ4 {k:Expr→Expr→Expr→Pos→Bool} (h:xIf e k=true) (H:∀ a o b p,k a o b p=true→P (.IfExp a o b p)):P e:=by cases e <;> first | exact H _ _ _ _ h | exact no_f h
theorem J8 {k:Expr→Expr→Pos→Bool} (h:xSub e k=true) (H:∀ a b p,k a b p=true→P (.Subscript a b p)):P e:=by cases e <;> first | exact H _ _ _ h | exact no_f h
theorem Z7 {k:Option Expr→Option Expr→Option Expr→Pos→Bool} (h:xSlice e k=true) (H:∀ a b c p,k a b c p=true→P (.Slice a b c p)):P e:=by cases e <;> first | exact H _ _ _ _ h | exact no_f h
theorem B4 {k:Expr→PySem.Str→Pos→Bool} (h:xAttr e k=true) (H:∀ a b p,k a b p=true→P (.Attribute a b p)):P e:=by cases e <;> first | exact H _ _ _ h | exact no_f h
theorem w9 {k:Expr→List Expr→List Keyword→Pos→Bool} (h:xCall e k=true) (H:∀ a b c p,k a b c p=true→P (.Call a b c p)):P e:=by cases e <;> first | exact H _ _ _ _ h | exact no_f h
theorem F0 {k:List Expr→Nat→Pos→Bool} (h:xTup e k=true) (H:∀ a b p,k a b p=true→P (.Tuple a b p)):P e:=by cases e <;> first | exact H _ _ _ h | exact no_f h
theorem ag7 {k:List Expr→Pos→Bool} (h:xList e k=true) (H:∀ a p,k a p=true→P (.List a p)):P e:=by cases e <;> first | exact H _ _ h | exact no_f h
theorem ah0 {k:Expr→List Comprehension→Scope→Pos→Bool} (h:xComp e k=true) (H:∀ a b c p,k a b c p=true→P (.ListComp a b c p)):P e:=by cases e <;> first | exact H _ _ _ _ h | exact no_f h
theorem ag9 {k:List (Option Expr)→List Expr→Pos→Bool} (h:xDict e k=true) (H:∀ a b p,k a b p=true→P (.Dict a b p)):P e:=by cases e <;> first | exact H _ _ _ h | exact no_f h
end
noncomputable def cNone (v:Const):Bool:=match v with | .none=>true | _=>false
noncomputable def cBool (v:Const) (k:Bool→Bool):Bool:=match v with | .bool b=>k b | _=>false
noncomputable def cInt (v:Const) (k:Int→Bool):Bool:=match v with | .int b=>k b | _=>false
noncomputable def cStr (v:Const) (k:PySem.Str→Bool):Bool:=match v with | .str b=>k b | _=>false
section
variable {P:Const→Prop} {v:Const}
theorem Y5 (h:cNone v=true) (H:P .none):P v:=by cases v <;> first | exact H | exact no_f h
theorem aO0 {k:Bool→Bool} (h:cBool v k=true) (H:∀ b,k b=true→P (.bool b)):P v:=by cases v <;> first | exact H _ h | exact no_f h
theorem ay6 {k:Int→Bool} (h:cInt v k=true) (H:∀ b,k b=true→P (.int b)):P v:=by cases v <;> first | exact H _ h | exact no_f h
theorem N4 {k:PySem.Str→Bool} (h:cStr v k=true) (H:∀ b,k b=true→P (.str b)):P v:=by cases v <;> first | exact H _ h | exact no_f h
end
noncomputable def lNil {α:Type} (l:List α) (b:Bool):Bool:=match l with | []=>b | _::_=>false
noncomputable def lCons {α:Type} (l:List α) (k:α→List α→Bool):Bool:=match l with | []=>false | a::r=>k a r
noncomputable def lPick {α:Type} (l:List α) (a b:Bool):Bool:=match l with | []=>a | _::_=>b
noncomputable def l1 {α:Type} (l:List α) (k:α→Bool):Bool:=lCons l fun a r=>lNil r (k a)
noncomputable def l2 {α:Type} (l:List α) (k:α→α→Bool):Bool:=lCons l fun a r=>l1 r (k a)
noncomputable def oSome {α:Type} (o:Option α) (k:α→Bool):Bool:=match o with | some a=>k a | none=>false
noncomputable def oNone {α:Type} (o:Option α) (b:Bool):Bool:=match o with | some _=>false | none=>b
noncomputable def oPick {α:Type} (o:Option α) (k:α→Bool) (b:Bool):Bool:=match o with | some a=>k a | none=>b
section
variable {α:Type} {P:List α→Prop} {l:List α}
theorem m5 {b:Bool} (h:lNil l b=true) (H:b=true→P []):P l:=match l,h with | [],h=>H h | _::_,h=>no_f h
theorem q9 {k:α→List α→Bool} (h:lCons l k=true) (H:∀ a r,k a r=true→P (a::r)):P l:=match l,h with | [],h=>no_f h | _::_,h=>H _ _ h
theorem bj2 {a b:Bool} (h:lPick l a b=true) (H:a=true→P []) (K:∀ x r,b=true→P (x::r)):P l:=match l,h with | [],h=>H h | _::_,h=>K _ _ h
theorem u5 {k:α→Bool} (h:l1 l k=true) (H:∀ a,k a=true→P [a]):P l:=q9 h fun a r h=>m5 (P:=fun r=>P (a::r)) h fun h=>H a h
theorem B9 {k:α→α→Bool} (h:l2 l k=true) (H:∀ a b,k a b=true→P [a,b]):P l:=q9 h fun a r h=>u5 (P:=fun r=>P (a::r)) h fun b h=>H a b h
end
section
variable {α:Type} {P:Option α→Prop} {o:Option α}
theorem v7 {k:α→Bool} (h:oSome o k=true) (H:∀ a,k a=true→P (some a)):P o:=match o,h with | some _,h=>H _ h | none,h=>no_f h
theorem E2 {b:Bool} (h:oNone o b=true) (H:b=true→P none):P o:=match o,h with | some _,h=>no_f h | none,h=>H h
theorem U8 {k:α→Bool} {b:Bool} (h:oPick o k b=true) (H:∀ a,k a=true→P (some a)) (K:b=true→P none):P o:=match o,h with | some _,h=>H _ h | none,h=>K h
theorem u8 {k:α→Bool} {G:Prop} (h:oSome o k=true) (H:∀ a,o=some a→k a=true→G):G:=v7 (P:=fun x=>o=x→G) h (fun a h e=>H a e h) rfl
theorem aH8 {k:α→Bool} {b:Bool} {G:Prop} (h:oPick o k b=true) (H:∀ a,o=some a→k a=true→G) (K:o=none→b=true→G):G:=U8 (P:=fun x=>o=x→G) h (fun a h e=>H a e h) (fun h e=>K e h) rfl
end
noncomputable def xGen (g:Comprehension) (k:PySem.Str→Pos→Expr→List Expr→Bool):Bool:=xName g.target fun t p=>decide (g.is_async=0)&&k t p g.iter g.ifs
theorem at9 {P:Comprehension→Prop} {g:Comprehension} {k:PySem.Str→Pos→Expr→List Expr→Bool} (h:xGen g k=true) (H:∀ t p it ifs,k t p it ifs=true→P ⟨.Name t p,it,ifs,0⟩):P g:=by
  obtain ⟨tg,it,ifs,a⟩:=g
  refine k6 (P:=fun tg=>P ⟨tg,it,ifs,a⟩) h fun t p h=>?_
  have h0:a=0:=g7 (b7 h)
  subst h0
  exact H t p it ifs (a8 h)
noncomputable def sAssign (s:Stmt) (k:List Expr→Expr→Pos→Bool):Bool:=match s with | .Assign a b p=>k a b p | _=>false
noncomputable def sAug (s:Stmt) (k:Expr→Operator→Expr→Pos→Bool):Bool:=match s with | .AugAssign a o b p=>k a o b p | _=>false
noncomputable def sIf (s:Stmt) (k:Expr→List Stmt→List Stmt→Pos→Bool):Bool:=match s with | .If a b c p=>k a b c p | _=>false
noncomputable def sWhile (s:Stmt) (k:Expr→List Stmt→List Stmt→Pos→Bool):Bool:=match s with | .While a b c p=>k a b c p | _=>false
noncomputable def sFor (s:Stmt) (k:Expr→Expr→List Stmt→List Stmt→Pos→Bool):Bool:=match s with | .For t a b c p=>k t a b c p | _=>false
noncomputable def sRet (s:Stmt) (k:Option Expr→Pos→Bool):Bool:=match s with | .Return a p=>k a p | _=>false
noncomputable def sRaise (s:Stmt) (k:Option Expr→Option Expr→Pos→Bool):Bool:=match s with | .Raise a b p=>k a b p | _=>false
noncomputable def sExpr (s:Stmt) (k:Expr→Pos→Bool):Bool:=match s with | .Expr a p=>k a p | _=>false
noncomputable def sTry (s:Stmt) (k:List Stmt→List ExceptHandler→List Stmt→List Stmt→Pos→Bool):Bool:=match s with | .Try a b c d p=>k a b c d p | _=>false
section
variable {P:Stmt→Prop} {s:Stmt}
theorem A1 {k:List Expr→Expr→Pos→Bool} (h:sAssign s k=true) (H:∀ a b p,k a b p=true→P (.Assign a b p)):P s:=by cases s <;> first | exact H _ _ _ h | exact no_f h
theorem aR5 {k:Expr→Operator→Expr→Pos→Bool} (h:sAug s k=true) (H:∀ a o b p,k a o b p=true→P (.AugAssign a o b p)):P s:=by cases s <;> first | exact H _ _ _ _ h | exact no_f h
theorem aG5 {k:Expr→List Stmt→List Stmt→Pos→Bool} (h:sIf s k=true) (H:∀ a b c p,k a b c p=true→P (.If a b c p)):P s:=by cases s <;> first | exact H _ _ _ _ h | exact no_f h
theorem aA4 {k:Expr→List Stmt→List Stmt→Pos→Bool} (h:sWhile s k=true) (H:∀ a b c p,k a b c p=true→P (.While a b c p)):P s:=by cases s <;> first | exact H _ _ _ _ h | exact no_f h
theorem ad3 {k:Expr→Expr→List Stmt→List Stmt→Pos→Bool} (h:sFor s k=true) (H:∀ t a b c p,k t a b c p=true→P (.For t a b c p)):P s:=by cases s <;> first | exact H _ _ _ _ _ h | exact no_f h
theorem R5 {k:Option Expr→Pos→Bool} (h:sRet s k=true) (H:∀ a p,k a p=true→P (.Return a p)):P s:=by cases s <;> first | exact H _ _ h | exact no_f h
theorem aa6 {k:Option Expr→Option Expr→Pos→Bool} (h:sRaise s k=true) (H:∀ a b p,k a b p=true→P (.Raise a b p)):P s:=by cases s <;> first | exact H _ _ _ h | exact no_f h
theorem aj0 {k:Expr→Pos→Bool} (h:sExpr s k=true) (H:∀ a p,k a p=true→P (.Expr a p)):P s:=by cases s <;> first | exact H _ _ h | exact no_f h
theorem aR4 {k:List Stmt→List ExceptHandler→List Stmt→List Stmt→Pos→Bool} (h:sTry s k=true) (H:∀ a b c d p,k a b c d p=true→P (.Try a b c d p)):P s:=by cases s <;> first | exact H _ _ _ _ _ h | exact no_f h
end
noncomputable def xHandler (e:ExceptHandler) (k:Option Expr→Option PySem.Str→List Stmt→Pos→Bool):Bool:=match e with | .ExceptHandler a b c p=>k a b c p
theorem ag8 {P:ExceptHandler→Prop} {e:ExceptHandler} {k:Option Expr→Option PySem.Str→List Stmt→Pos→Bool} (h:xHandler e k=true) (H:∀ a b c p,k a b c p=true→P (.ExceptHandler a b c p)):P e:=match e,h with | .ExceptHandler ..,h=>H _ _ _ _ h
end Mine
end
section
set_option genInjectivity false
set_option genSizeOf false
namespace Mine
open PySem PySem.Spec PySem.Calls PyProof.Rows
structure Cx where
  scope:Scope
  vars:List PySem.Str
  fns:List (PySem.Str×Nat)
  noEnd:Bool:=true
structure CxOK (C:Cfg) (F:Fm) (x:Cx):Prop where
  scope:F.env.scope=x.scope
  vars:F.vars=x.vars
  fns:∀ p∈x.fns,∃ a,C.mg p.1=some (.ref a)∧C.fnA p.2=some a
noncomputable def isLocal (x:Cx) (n:PySem.Str):Bool:=x.scope.names.lookup n==some .local&&!(n==("__debug__" : PySem.Str))
noncomputable def isGlob (x:Cx) (n:PySem.Str):Bool:=x.scope.names.lookup n==some .globalImplicit&&!(n==("__debug__" : PySem.Str))
noncomputable def isSlot (x:Cx) (n:PySem.Str) (i:Nat):Bool:=x.vars[i]?==some n&&(!(n==("__debug__" : PySem.Str))&&!(n==("__classdict__" : PySem.Str)))
noncomputable def leR {α:Type} (a b:R α):Prop:=a=.stuck∨a=b
section
variable {α β γ:Type}
theorem leR.bind {k₁ k₂:α→H→R β} (r:R α) (h:∀ x c,leR (k₁ x c) (k₂ x c)):leR (r.bind k₁) (r.bind k₂):=by
  cases r with
  | ok x c=>exact h x c
  | stuck=>exact .inl rfl
  | pf w l c=>exact .inr rfl
theorem leR.trans {a b c:R α} (h:leR a b) (h':leR b c):leR a c:=h.elim .inl fun e=>e▸h'
theorem J6 (r:R α) (f:α→H→R β) (k:β→H→R γ):(r.bind f).bind k=r.bind fun x h=>(f x h).bind k:=by cases r <;> rfl
theorem U7 (o:Option α) (f:α→R β) (k:β→H→R γ):(ofK o f).bind k=ofK o fun v=>(f v).bind k:=by cases o <;> rfl
theorem aP9 (r:R V) (k:Bool→H→R β):(r.bind fun x h=>ofK (truth h x) fun t=>k t h)=(r.bind fun x h=>ofO (truth h x) h).bind k:=by
  cases r with
  | ok x c=>exact (U7 (truth c x) (fun v=>.ok v c) k).symm
  | _=>rfl
theorem an0 {y:V} {c:H} {k:V→H→R β}:leR ((boolR y c).bind k) (k y c):=by
  cases y with
  | bool b=>exact .inr rfl
  | _=>exact .inl rfl
theorem ah6 {x:V} {b:Bool} {c:H} (e:boolOf x=some b):truth c x=some b:=by
  unfold truth; rw [e]; rfl
end
section
variable {C:Cfg} {A:Around} {F:Fm} {CS:Calls} {x:Cx}
section
variable {α β γ δ:Type} {g:Gh} {s:Shared} {P:Gh→H→Heap→β→α→Prop} {Q:α→Shared→Prop} {E:Value→Shared→Prop}
theorem Goal.le {a b:R β} (G:Goal C F P g s a Q E) (h:leR a b):Goal C F P g s b Q E:=h.elim (fun e=>absurd e G.ns) fun e=>e▸G
theorem Goal.assoc {r:R γ} {f:γ→H→R δ} {k:δ→H→R β} (G:Goal C F P g s ((r.bind f).bind k) Q E):Goal C F P g s (r.bind fun x h=>(f x h).bind k) Q E:=J6 r f k▸G
theorem Goal.o_in {o:Option γ} {f:γ→R δ} {k:δ→H→R β} (G:Goal C F P g s ((ofK o f).bind k) Q E):Goal C F P g s (ofK o fun v=>(f v).bind k) Q E:=U7 o f k▸G
end
noncomputable def EvSim (C:Cfg) (A:Around) (F:Fm) (CS:Calls) (e:Expr) (m:ME):Prop:=∀ {g:Gh} {loc:L} {c:H} {s:Shared},Rel C F g loc c s.heap→Sim C A F g loc s (VR C) (eval e F.env) (mev CS m loc c)
noncomputable def TsG (C:Cfg) (A:Around) (F:Fm) (CS:Calls) (t:Sem Bool) (m:ME):Prop:=∀ {g:Gh} {loc:L} {c:H} {s:Shared} {α β:Type} {P:Gh→H→Heap→β→α→Prop} {k:Bool→H→R β} {Q:α→Shared→Prop} {E:Value→Shared→Prop} {Q':Bool→Shared→Prop},Rel C F g loc c s.heap →
  Goal C F P g s ((mev CS m loc c).bind fun x h=>ofK (truth h x) fun t=>k t h) Q E→(∀ g₁ c₁ h₁ tk b,g.le g₁→Rel C F g₁ loc c₁ h₁→Goal C F P g₁ { s with heap:=h₁,toks:=tk } (k b c₁) Q E→Q' b { s with heap:=h₁,toks:=tk })→wpAny (model C.prog C.w) A t Q' E s
abbrev TsSim (C:Cfg) (A:Around) (F:Fm) (CS:Calls) (e:Expr) (m:ME):Prop:=TsG C A F CS (isTrue e F.env (eval e F.env)) m
theorem TsG.stepE {g:Gh} {loc:L} {c:H} {s:Shared} {t:Sem Bool} {m:ME} {α β:Type} {P:Gh→H→Heap→β→α→Prop} {k:Bool→H→R β} {Q:α→Shared→Prop} {E E':Value→Shared→Prop} {Q':Bool→Shared→Prop} (h:TsG C A F CS t m) (r:Rel C F g loc c s.heap)
    (G:Goal C F P g s ((mev CS m loc c).bind fun x h=>ofK (truth h x) fun t=>k t h) Q E)
    (hE:∀ g' h' tk w l c' e,Rel C F g' [] c' h'→ExcAt C F g' w l e h'→(∀ h₂,Rel C F g' [] c' h₂→ExcAt C F g' w l e h₂→E (.ref e) { s with heap:=h₂,toks:=tk })→E' (.ref e) { s with heap:=h',toks:=tk })
    (f:∀ g₁ c₁ h₁ tk b,g.le g₁→Rel C F g₁ loc c₁ h₁→Goal C F P g₁ { s with heap:=h₁,toks:=tk } (k b c₁) Q E→Q' b { s with heap:=h₁,toks:=tk }):wpAny (model C.prog C.w) A t Q' E' s :=
  have G:Goal C F P g s (((mev CS m loc c).bind fun x h=>ofO (truth h x) h).bind k) Q E:=aP9 (mev CS m loc c) k▸G
  h (P:=fun _ c' _ b (a:Bool×H)=>a=(b,c')) (k:=fun t h=>.ok t h) (Q:=fun a _=>((mev CS m loc c).bind fun x h=>ofO (truth h x) h)=.ok a.1 a.2) r
    ⟨fun q=>G.ns (congrArg (R.bind · k) q),fun _ _ _ _ _ _ q _ p=>p▸q,fun g' h' tk w l c' e q l' r x=>hE g' h' tk w l c' e r x fun h₂=>G.pf g' h₂ tk w l c' e (congrArg (R.bind · k) q) l'⟩
    fun g₁ c₁ h₁ tk b l r' G'=>f g₁ c₁ h₁ tk b l r' (((congrArg (R.bind · k) (G'.ok g₁ h₁ tk b c₁ (b,c₁) rfl g₁.le_refl rfl))▸G).move l)
noncomputable def MEs.len:MEs→Nat | .nil=>0 | .cons _ r=>r.len+1
noncomputable def VRsN (C:Cfg) (n:Nat) (g:Gh) (vs:List V) (xs:List Value):Prop:=VRs C g vs xs∧vs.length=n
noncomputable def EsSim (C:Cfg) (A:Around) (F:Fm) (CS:Calls) (es:List Expr) (ms:MEs):Prop:=∀ (pos:Pos) {g:Gh} {loc:L} {c:H} {s:Shared},Rel C F g loc c s.heap→Sim C A F g loc s (VRsN C ms.len) (spliced (backTo pos (starEach es F.env))) (mevs CS ms loc c)
theorem TsSim.plain {e:Expr} {m:ME} (h:EvSim C A F CS e m) (he:∀ whole,isTrue e F.env whole=(do let v ← whole; standAt e.pos; holding [v] (truthy v)):=by intro _; rfl):TsSim C A F CS e m :=
  fun r G f=>wpAny_isTrue_value ((h r).step G fun g₁ c₁ h₁ tk v a l r₁ p₁ G=>aA1 r₁ p₁ G fun b tk G=>f g₁ c₁ h₁ tk b l r₁ G) (he _)
theorem aV6 {k:Nat} {pos:Pos}:EvSim C A F CS (.Constant .none k pos) .none:=fun r Q E G=>wpAny_Constant_none (G.now r .none)
theorem aW4 {b:Bool} {k:Nat} {pos:Pos}:EvSim C A F CS (.Constant (.bool b) k pos) (.bool b):=fun r Q E G=>wpAny_Constant_bool (G.now r (.bool b))
theorem be8 {i:Int} {k:Nat} {pos:Pos}:EvSim C A F CS (.Constant (.int i) k pos) (.int i):=fun r Q E G=>wpAny_Constant_int (G.now r (.int i _))
theorem be2 {t:PySem.Str} {l:List Nat} {k:Nat} {pos:Pos} (e:t=strOf l) (h:l.length≤big) (hv:∀ z∈l,z < 1114112):EvSim C A F CS (.Constant (.str t) k pos) (.str l):=fun r Q E G=>wpAny_Constant_str (G.now r (e▸.txt ⟨Nat.le_trans h v5,hv⟩))
theorem Rd.load {g:Gh} {c:H} {s:Shared} {m:PySem.Str→Option Value} {n:PySem.Str} {v:Value} (ok:FmOK C F A) {loc:L} (r:Rel C F g loc c s.heap) (hm:s.heap.Ns F.env.locals m) (h:Rd F.env g m n v) (hn:(n==("__classdict__" : PySem.Str))=false)
    {M:Model} {Q:Value→Shared→Prop} {E:Value→Shared→Prop} (hq:Q v s):wpAny M A (loadName F.env n) Q E s :=
  h.elim (fun h=>wpAny_loadName_local ok.kind h.1 hm h.2 hq) fun h=>h.elim fun cl h=>h.elim fun d h=>h.2.2.elim fun ck hi=>(r.im _ _ hi).elim fun o w =>
    h.1.elim (fun hk=>wpAny_loadName_cell ok.kind hk h.2.1 ⟨o,w.1,w.2.2.2⟩ hq) fun hk=>wpAny_loadName_free ok.kind hk h.2.1 ⟨o,w.1,w.2.2.2⟩ hq (hn:=hn)
theorem X2 {loc:L} {i:Nat} {v:V} (h:getV loc i=some v):loc[i]?=some (some v):=j9 h fun o e q=>e.trans (congrArg some q)
theorem al1 {M:Model} {g:Gh} {loc:L} {c:H} {s:Shared} (ok:FmOK C F A) (ox:CxOK C F x) {n:PySem.Str} {i:Nat} (h:isSlot x n i=true) (r:Rel C F g loc c s.heap) {v:V} (hl:getV loc i=some v) {Q:Value→Shared→Prop} {E:Value→Shared→Prop}
    (hq:∀ a,VR C g v a→Q a s):wpAny M A (loadName F.env n) Q E s :=
  r.ns.elim fun m hm=>(hm.2 i v (X2 hl)).elim fun n' q=>q.elim fun val w =>
    (show Rd F.env g m n val from (show n'=n from Option.some.inj (w.var.symm.trans (ox.vars▸r8 (b7 h))))▸w.rd).load ok r hm.1 (v8 (a8 (a8 h))) (hq val w.vr)
theorem E8 {M:Model} {g:Gh} {loc:L} {c:H} {s:Shared} (ok:FmOK C F A) (ox:CxOK C F x) {n:PySem.Str} {i:Nat} {pos:Pos} (h:isSlot x n i=true) (r:Rel C F g loc c s.heap) {v:V} (hl:getV loc i=some v) {Q:Value→Shared→Prop} {E:Value→Shared→Prop}
    (hq:∀ a,VR C g v a→Q a s):wpAny M A (eval (.Name n pos) F.env) Q E s:=wpAny_Name (al1 ok ox h r hl hq) (v8 (b7 (a8 h)))
theorem be0 (ok:FmOK C F A) (ox:CxOK C F x) {n:PySem.Str} {i:Nat} {pos:Pos} (h:isSlot x n i=true):EvSim C A F CS (.Name n pos) (.var i):=fun r Q E G=>G.opt fun v e G=>E8 ok ox h r e fun a p=>G.now r p
theorem O9 (ox:CxOK C F x) {n:PySem.Str} (h:isGlob x n=true):F.env.kindOf n=some .globalImplicit:=(congrArg (fun sc:Scope=>sc.names.lookup n) ox.scope).trans (r8 (b7 h))
theorem E5 (ok:FmOK C F A) (oc:CfgOK C) (ox:CxOK C F x) {n:PySem.Str} {pos:Pos} (h:isGlob x n=true) {v:Value} (hv:C.mg n=some v) {g:Gh} {loc:L} {c:H} {s:Shared} (r:Rel C F g loc c s.heap)
    {M:Model} {Q:Value→Shared→Prop} {E:Value→Shared→Prop} (hq:Q v s):wpAny M A (eval (.Name n pos) F.env) Q E s :=
  Name_function_global ok.kind (O9 ox h) (loadGlobal_global (ok.glob▸r.ns0 oc.mgN) hv hq) (v8 (a8 h))
theorem aI3 (ok:FmOK C F A) (oc:CfgOK C) (ox:CxOK C F x) {n:PySem.Str} {pos:Pos} (h:isGlob x n=true) {v:Value} (hg:C.mg n=none) (hn:n ≠ "__name__") (hv:bootBuiltins n=some v) {g:Gh} {loc:L} {c:H} {s:Shared} (r:Rel C F g loc c s.heap)
    {M:Model} {Q:Value→Shared→Prop} {E:Value→Shared→Prop} (hq:Q v s):wpAny M A (eval (.Name n pos) F.env) Q E s :=
  Name_function_global ok.kind (O9 ox h) (loadGlobal_builtin (ok.glob▸r.ns0 oc.mgN) hg (ok.blt▸r.ns0 oc.mbN) ((oc.blt n hn).trans hv) hq) (v8 (a8 h))
theorem aV8 (ok:FmOK C F A) (oc:CfgOK C) (ox:CxOK C F x) {n:PySem.Str} {f:Nat} {pos:Pos} (h:isGlob x n=true) (hf:(n,f)∈x.fns):EvSim C A F CS (.Name n pos) (.glob f):=fun r Q E G =>
  (ox.fns _ hf).elim fun a q=>E5 ok oc ox h q.1 r (G.now r (.fn f a q.2))
theorem bf1 {o:BO} {e1 e2:Expr} {m1 m2:ME} {pos:Pos} (h1:EvSim C A F CS e1 m1) (h2:EvSim C A F CS e2 m2):EvSim C A F CS (.BinOp e1 (opB o) e2 pos) (.bin o m1 m2):=fun r Q E G =>
  wpAny_BinOp ((h1 r).step G fun _ _ _ _ _ _ _ r1 p1 G=>(h2 r1).step G fun _ _ _ _ _ _ l2 r2 p2 G=>aQ4 r2 (p1.mono l2) p2 _ _ G)
theorem bf0 (hu:A.units+64 < cLine) {o:CO} {e1 e2:Expr} {m1 m2:ME} {pos:Pos} (hb:behindInMarks (opC o) e2=false) (h1:EvSim C A F CS e1 m1) (h2:EvSim C A F CS e2 m2):EvSim C A F CS (.Compare e1 [opC o] [e2] pos) (.cmp o m1 m2):=fun r Q E G =>
  wpAny_Compare1 ((h1 r).step G fun _ _ _ _ _ _ _ r1 p1 G=>(h2 r1).step G fun _ _ _ _ _ _ l2 r2 p2 G=>I5 r2 hu (p1.mono l2) p2 G.map_in fun t G=>G.now r2 (.bool t)) hb
theorem aZ7 (hu:A.units+64 < cLine) {o:CO} {e1 e2:Expr} {m1 m2:ME} {pos:Pos} (hb:behindInMarks (opC o) e2=false) (h1:EvSim C A F CS e1 m1) (h2:EvSim C A F CS e2 m2):TsSim C A F CS (.Compare e1 [opC o] [e2] pos) (.cmp o m1 m2):=fun r G f =>
  wpAny_isTrue_Compare1 ((h1 r).step G.assoc fun _ _ _ _ _ _ l1 r1 p1 G=>(h2 r1).step G.assoc fun _ _ _ _ _ _ l2 r2 p2 G=>I5 r2 hu (p1.mono l2) p2 G.o_in.map_in fun t G=>wpAny_truthy_bool (f _ _ _ _ t (l1.trans l2) r2 G)) hb
theorem aW1 (hu:A.units+64 < cLine) {o p:CO} {e1 e2 e3:Expr} {m1 m2 m3:ME} {pos:Pos} (hb:lastMarks [opC o,opC p] [e2,e3]=false) (h1:EvSim C A F CS e1 m1) (h2:EvSim C A F CS e2 m2) (h3:EvSim C A F CS e3 m3) :
    EvSim C A F CS (.Compare e1 [opC o,opC p] [e2,e3] pos) (.cmp2 o p m1 m2 m3):=fun r Q E G =>
  Compare_chain ((h1 r).step G fun _ _ _ _ _ _ _ r1 p1 G=>chain_link ((h2 r1).step G fun _ _ _ _ _ _ l2 r2 p2 G=>I5 r2 hu (p1.mono l2) p2 G fun t G=>wpAny_truthy_bool (by
    cases t with
    | false=>exact G.now r2 (.bool false)
    | true=>exact chain_last ((h3 r2).step G fun _ _ _ _ _ _ l3 r3 p3 G=>I5 r3 hu (p2.mono l3) p3 G.map_in fun t G=>G.now r3 (.bool t))))) hb
theorem aP5 (hu:A.units+64 < cLine) {o p:CO} {e1 e2 e3:Expr} {m1 m2 m3:ME} {pos:Pos} (hb:lastMarks [opC o,opC p] [e2,e3]=false) (h1:EvSim C A F CS e1 m1) (h2:EvSim C A F CS e2 m2) (h3:EvSim C A F CS e3 m3) :
    TsSim C A F CS (.Compare e1 [opC o,opC p] [e2,e3] pos) (.cmp2 o p m1 m2 m3):=fun r G f =>
  isTrue_chain ((h1 r).step G.assoc fun _ _ _ _ _ _ l1 r1 p1 G=>test_link ((h2 r1).step G.assoc fun _ _ _ _ _ _ l2 r2 p2 G=>I5 r2 hu (p1.mono l2) p2 G.o_in fun t G=>wpAny_truthy_bool (by
    cases t with
    | false=>exact f _ _ _ _ false (l1.trans l2) r2 G
    | true=>exact test_last ((h3 r2).step (Goal.assoc G) fun _ _ _ _ _ _ l3 r3 p3 G=>I5 r3 hu (p2.mono l3) p3 G.o_in.map_in fun t G=>wpAny_truthy_bool (f _ _ _ _ t ((l1.trans l2).trans l3) r3 G))))) hb
theorem VR.weak {g:Gh} {v:V} {a:Value} {P:V→Value→Prop} (h:VR C g v a) (h0:P .none .none) (h1:∀ b,P (.bool b) (.bool b)) (h2:∀ i t,P (.int i) (.int i t)) (h3:∀ l t,P (.str l) (.str (strOf l) t)) (h4:∀ v a,isN v=false→P v (.ref a)):P v a:=by
  cases v with
  | none=>exact (show a=_ from h)▸h0
  | bool b=>exact (show a=_ from h)▸h1 b
  | int i=>exact h.elim fun t q=>q▸h2 i t
  | str l=>exact h.elim fun t q=>q.1▸h3 l t
  | tup vs=>exact h.elim fun p q=>q.elim fun _ q=>q.1▸h4 _ p rfl
  | lst vs=>exact h.elim fun p q=>q.elim fun _ q=>q.1▸h4 _ p rfl
  | ref n=>exact h.elim fun p q=>q.1▸h4 _ p rfl
  | tok _ _ _=>exact h.elim fun p q=>q.elim fun _ q=>q.elim fun _ q=>q.elim fun _ q=>q.1▸h4 _ p rfl
  | fn n=>exact h.elim fun p q=>q.1▸h4 _ p rfl
theorem VR.isNone {g:Gh} {v:V} {a:Value} (h:VR C g v a):isN v=(a==.none) :=
  h.weak (P:=fun v a=>isN v=(a==.none)) rfl (fun _=>rfl) (fun _ _=>rfl) (fun _ _=>rfl) fun v a e=>e
theorem aK0 {v:V}:isS v=!isN v:=by cases v <;> rfl
theorem aC0 {e1:Expr} {m1:ME} {k:Nat} {p1 pos:Pos} (h1:EvSim C A F CS e1 m1):EvSim C A F CS (.Compare e1 [.Is] [.Constant .none k p1] pos) (.isnone m1):=fun r Q E G =>
  wpAny_Compare1 ((h1 r).step G fun _ _ _ _ _ _ _ r1 p1 G=>wpAny_Constant_none (is_none (p1.isNone▸G.now r1 (.bool _)))) rfl
theorem az3 {e1:Expr} {m1:ME} {k:Nat} {p1 pos:Pos} (h1:EvSim C A F CS e1 m1):TsSim C A F CS (.Compare e1 [.Is] [.Constant .none k p1] pos) (.isnone m1):=fun r G f =>
  wpAny_isTrue_Compare1 ((h1 r).step G.assoc fun _ _ _ _ _ _ l1 r1 p1 G=>wpAny_Constant_none (is_none (wpAny_truthy_bool (p1.isNone▸f _ _ _ _ _ l1 r1 G)))) rfl
theorem as0 {e1:Expr} {m1:ME} {k:Nat} {p1 pos:Pos} (h1:EvSim C A F CS e1 m1):EvSim C A F CS (.Compare e1 [.IsNot] [.Constant .none k p1] pos) (.notnone m1):=fun r Q E G =>
  wpAny_Compare1 ((h1 r).step G fun _ _ _ _ _ _ _ r1 p1 G=>wpAny_Constant_none (isNot_none (p1.isNone▸aK0▸G.now r1 (.bool _)))) rfl
theorem an6 {e1:Expr} {m1:ME} {k:Nat} {p1 pos:Pos} (h1:EvSim C A F CS e1 m1):TsSim C A F CS (.Compare e1 [.IsNot] [.Constant .none k p1] pos) (.notnone m1):=fun r G f =>
  wpAny_isTrue_Compare1 ((h1 r).step G.assoc fun _ _ _ _ _ _ l1 r1 p1 G=>wpAny_Constant_none (isNot_none (wpAny_truthy_bool (p1.isNone▸aK0▸f _ _ _ _ _ l1 r1 G)))) rfl
theorem be5 {e1:Expr} {m1:ME} {pos:Pos} (h1:EvSim C A F CS e1 m1):EvSim C A F CS (.UnaryOp .Not e1 pos) (.not m1):=fun r Q E G =>
  wpAny_UnaryOp ((h1 r).step G fun _ _ _ _ _ a _ r1 p1 G=>G.opt fun b e G=>p1.isBool (W:=fun a=>wpAny _ A _ Q E _) e (not_value (wpAny_truthy_bool (G.now r1 (.bool _)))))
theorem aZ5 {e1:Expr} {m1:ME} {pos:Pos} (h1:TsSim C A F CS e1 m1):TsSim C A F CS (.UnaryOp .Not e1 pos) (.not m1):=fun {_ _ _ _ _ _ _ k _ _ _} r G f =>
  wpAny_isTrue_Not (h1 (k:=fun b h=>k (!b) h) r (G.assoc.le (.bind _ fun y c=>by
    cases y with
    | bool b=>exact .inr rfl
    | _=>exact .inl rfl)) fun _ _ _ _ b l r G=>f _ _ _ _ (!b) l r G)
theorem be6 {e1:Expr} {m1:ME} {pos:Pos} (h1:EvSim C A F CS e1 m1):EvSim C A F CS (.UnaryOp .USub e1 pos) (.neg m1):=fun r Q E G =>
  wpAny_UnaryOp ((h1 r).step G fun _ _ _ _ _ a _ r1 p1 G=>G.opt fun i e G=>p1.isInt (W:=fun a=>wpAny _ A _ Q E _) e fun t=>neg_int (G.now r1 (.int _ _)))
theorem be7 {e0 e1 e2:Expr} {m0 m1 m2:ME} {pos:Pos} (h0:TsSim C A F CS e0 m0) (h1:EvSim C A F CS e1 m1) (h2:EvSim C A F CS e2 m2):EvSim C A F CS (.IfExp e0 e1 e2 pos) (.ite m0 m1 m2):=fun {_ loc _ _} r Q E G =>
  wpAny_IfExp (h0 (k:=fun t h=>if t=true then mev CS m1 loc h else mev CS m2 loc h) r G fun _ _ _ _ b l r G=>by
    cases b with
    | true=>exact h1 r _ _ G
    | false=>exact h2 r _ _ G)
theorem aZ6 {e0 e1 e2:Expr} {m0 m1 m2:ME} {pos:Pos} (h0:TsSim C A F CS e0 m0) (h1:TsSim C A F CS e1 m1) (h2:TsSim C A F CS e2 m2):TsSim C A F CS (.IfExp e0 e1 e2 pos) (.ite m0 m1 m2):=fun {_ loc _ _ _ _ _ k _ _ _} r G f =>
  isTrue_IfExp (h0 (k:=fun t h=>(if t=true then mev CS m1 loc h else mev CS m2 loc h).bind fun x h=>ofK (truth h x) fun t=>k t h) r (G.assoc.le (.bind _ fun y c=>.inr (U7 (truth c y) _ _))) fun _ _ _ _ b l r G=>by
    cases b with
    | true=>exact h1 r G fun _ _ _ _ b l'=>f _ _ _ _ b (l.trans l')
    | false=>exact h2 r G fun _ _ _ _ b l'=>f _ _ _ _ b (l.trans l'))
end
end Mine
end
section
namespace Mine
open PySem PySem.Spec PySem.Calls PyProof.Rows
section
variable {C:Cfg} {A:Around} {F:Fm} {CS:Calls} {x:Cx}
theorem N6 {M:Model} {A:Around} {E:Value→Shared→Prop} {s:Shared} {pos:Pos} {o:BoolOp} {t t':Sem Value} {ts:List (Sem Value)} {Q:Value→Shared→Prop}
    (h:wpAny M A t (fun v s₁=>wpAny M A (truthy v) (fun b s₂=>if (o==.And)==b then wpAny M A (boolOp pos o (t'::ts)) Q E s₂ else Q v s₂) E s₁) E s) :
    wpAny M A (boolOp pos o (t::t'::ts)) Q E s :=
  wpAny_bind (wpAny_mono h (fun v s₁ h₁=>wpAny_bind (wpAny_standAt (wpAny_bind (wpAny_holding (wpAny_mono h₁ (fun b s₂ h₂=>by
    cases o <;> cases b <;> first | exact wpAny_pure h₂ | exact h₂) fun _ _ x=>x))))) fun _ _ x=>x)
noncomputable def BsSim (C:Cfg) (A:Around) (F:Fm) (CS:Calls) (o:BoolOp) (es:List Expr) (m:ME):Prop:=∀ (pos:Pos) {g:Gh} {loc:L} {c:H} {s:Shared},Rel C F g loc c s.heap→Sim C A F g loc s (VR C) (boolOp pos o (evalEach es F.env)) (mev CS m loc c)
abbrev AsSim (C:Cfg) (A:Around) (F:Fm) (CS:Calls) (o:BoolOp) (es:List Expr) (m:ME):Prop:=TsG C A F CS (allTrue o es F.env) m
theorem bf8 {o:BoolOp} {e:Expr} {m:ME} (h:EvSim C A F CS e m):BsSim C A F CS o [e] m:=fun pos {g loc c s} r=>h r
theorem am9 {g:Gh} {loc:L} {c:H} {s:Shared} {v:V} {a:Value} {Q:Value→Shared→Prop} {E:Value→Shared→Prop} (r:Rel C F g loc c s.heap) (p:VR C g v a) (G:Goal C F (EvP C F loc (VR C)) g s (boolR v c) Q E):Q a s :=
  G.opt fun b e G=>p.isBool (W:=fun a=>Q a s) e (G.now r (.bool b))
theorem bf9 {e e':Expr} {es:List Expr} {m m':ME} (h:EvSim C A F CS e m) (h':BsSim C A F CS .And (e'::es) m'):BsSim C A F CS .And (e::e'::es) (.and m m'):=fun pos {g loc c s} r Q E G =>
  N6 ((h r).step G fun _ _ _ _ _ a _ r1 p1 G=>G.opt fun b e G=>p1.isBool (W:=fun a=>wpAny _ A (truthy a) (fun b s₂=>if (BoolOp.And==.And)==b then wpAny _ A (boolOp pos .And _) Q E s₂ else Q a s₂) E _) e (wpAny_truthy_bool (by
    cases b with
    | false=>exact G.now r1 (.bool _)
    | true=>exact (h' pos r1).step G fun _ _ _ _ _ _ _ r2 p2 G=>am9 r2 p2 G)))
theorem bs_or {e e':Expr} {es:List Expr} {m m':ME} (h:EvSim C A F CS e m) (h':BsSim C A F CS .Or (e'::es) m'):BsSim C A F CS .Or (e::e'::es) (.or m m'):=fun pos {g loc c s} r Q E G =>
  N6 ((h r).step G fun _ _ _ _ _ a _ r1 p1 G=>G.opt fun b e G=>p1.isBool (W:=fun a=>wpAny _ A (truthy a) (fun b s₂=>if (BoolOp.Or==.And)==b then wpAny _ A (boolOp pos .Or _) Q E s₂ else Q a s₂) E _) e (wpAny_truthy_bool (by
    cases b with
    | true=>exact G.now r1 (.bool _)
    | false=>exact (h' pos r1).step G fun _ _ _ _ _ _ _ r2 p2 G=>am9 r2 p2 G)))
theorem G4 {M:Model} {A:Around} {E:Value→Shared→Prop} {s:Shared} {env:Env} {o:BoolOp} {e:Expr} {rest:List Expr} {Q:Bool→Shared→Prop}
    (h:wpAny M A (isTrue e env (eval e env)) (fun b s₁=>if (o==.And)==b then wpAny M A (allTrue o rest env) Q E s₁ else Q b s₁) E s):wpAny M A (allTrue o (e::rest) env) Q E s:=by
  cases o with
  | And=>exact wpAny_allTrue_And_cons (wpAny_mono h (fun b s₁ h₁=>by cases b <;> exact h₁) fun _ _ x=>x)
  | Or=>exact wpAny_allTrue_Or_cons (wpAny_mono h (fun b s₁ h₁=>by cases b <;> exact h₁) fun _ _ x=>x)
theorem bg4 {o:BoolOp} {e:Expr} {m:ME} (h:TsSim C A F CS e m):AsSim C A F CS o [e] m:=fun r G f=>G4 (h r G fun _ _ _ _ b l r G=>by
  have:=f _ _ _ _ b l r G
  cases o <;> cases b <;> first | exact this | exact wpAny_allTrue_And_nil this | exact wpAny_allTrue_Or_nil this)
theorem bg7 {y:V} {c:H} {m:R V} {β:Type} {k:Bool→H→R β}:leR ((andR y c m).bind fun x h=>ofK (truth h x) fun t=>k t h) (ofK (truth c y) fun t=>if t=true then m.bind (fun x h=>ofK (truth h x) fun t=>k t h) else k false c):=by
  cases y with
  | bool b=>cases b with
    | true=>exact leR.trans (.inr (J6 _ _ _)) (.bind _ fun _ _=>an0)
    | false=>exact .inr rfl
  | _=>exact .inl rfl
theorem or_le {y:V} {c:H} {m:R V} {β:Type} {k:Bool→H→R β}:leR ((orR y c m).bind fun x h=>ofK (truth h x) fun t=>k t h) (ofK (truth c y) fun t=>if t=true then k true c else m.bind (fun x h=>ofK (truth h x) fun t=>k t h)):=by
  cases y with
  | bool b=>cases b with
    | false=>exact leR.trans (.inr (J6 _ _ _)) (.bind _ fun _ _=>an0)
    | true=>exact .inr rfl
  | _=>exact .inl rfl
theorem bg5 {e e':Expr} {es:List Expr} {m m':ME} (h:TsSim C A F CS e m) (h':AsSim C A F CS .And (e'::es) m'):AsSim C A F CS .And (e::e'::es) (.and m m'):=fun {_ loc _ _ _ _ _ k _ _ _} r G f =>
  G4 (h (k:=fun t h=>if t=true then (mev CS m' loc h).bind (fun x h=>ofK (truth h x) fun t=>k t h) else k false h) r (G.assoc.le (.bind _ fun _ _=>bg7)) fun _ _ _ _ b l r G=>by
    cases b with
    | false=>exact f _ _ _ _ false l r G
    | true=>exact h' r G fun _ _ _ _ b l'=>f _ _ _ _ b (l.trans l'))
theorem as_or {e e':Expr} {es:List Expr} {m m':ME} (h:TsSim C A F CS e m) (h':AsSim C A F CS .Or (e'::es) m'):AsSim C A F CS .Or (e::e'::es) (.or m m'):=fun {_ loc _ _ _ _ _ k _ _ _} r G f =>
  G4 (h (k:=fun t h=>if t=true then k true h else (mev CS m' loc h).bind (fun x h=>ofK (truth h x) fun t=>k t h)) r (G.assoc.le (.bind _ fun _ _=>or_le)) fun _ _ _ _ b l r G=>by
    cases b with
    | true=>exact f _ _ _ _ true l r G
    | false=>exact h' r G fun _ _ _ _ b l'=>f _ _ _ _ b (l.trans l'))
theorem X8 {o:BoolOp} {es:List Expr} {m:ME} {pos:Pos} (h:BsSim C A F CS o es m):EvSim C A F CS (.BoolOp o es pos) m:=fun {g loc c s} r=>by
  rw [arm_eval_BoolOp]; exact h pos r
theorem S3 {o:BoolOp} {es:List Expr} {m:ME} {pos:Pos} (h:AsSim C A F CS o es m):TsSim C A F CS (.BoolOp o es pos) m:=by
  show TsG _ _ _ _ (isTrue _ _ _) _
  rw [arm_isTrue_BoolOp]; exact h
theorem be9 {e1 e2:Expr} {m1 m2:ME} {pos:Pos} (h1:EvSim C A F CS e1 m1) (h2:EvSim C A F CS e2 m2):EvSim C A F CS (.Subscript e1 e2 pos) (.idx m1 m2):=fun r Q E G =>
  Subscript_ ((h1 r).step G fun _ _ _ _ _ _ _ r1 p1 G=>(h2 r1).step G fun _ _ _ _ _ _ l2 r2 p2 G=>aQ1 r2 (p1.mono l2) p2 G)
noncomputable def OpSim (C:Cfg) (A:Around) (F:Fm) (CS:Calls) (o:Option Expr) (m:ME):Prop:=∀ {g:Gh} {loc:L} {c:H} {s:Shared},Rel C F g loc c s.heap→Sim C A F g loc s (VR C) (evalPart o F.env) (mev CS m loc c)
theorem aw0:OpSim C A F CS none .none:=fun r _ _ G=>wpAny_pure (G.now r .none)
theorem av9 {e:Expr} {m:ME} (h:EvSim C A F CS e m):OpSim C A F CS (some e) m:=fun {g loc c s} r=>h r
theorem be3 {e1:Expr} {lo hi:Option Expr} {m1 m2 m3:ME} {p pos:Pos} (h1:EvSim C A F CS e1 m1) (h2:OpSim C A F CS lo m2) (h3:OpSim C A F CS hi m3):EvSim C A F CS (.Subscript e1 (.Slice lo hi none p) pos) (.slc m1 m2 m3):=fun r Q E G =>
  Subscript_ ((h1 r).step G fun _ _ _ _ _ _ _ r1 p1 G=>wpAny_Slice ((h2 r1).step G fun _ _ _ _ _ _ l2 r2 p2 G=>(h3 r2).step G fun _ _ _ _ _ _ l3 r3 p3 G=>wpAny_pure (aQ0 r3 ((p1.mono l2).mono l3) (p2.mono l3) p3 G)))
theorem ab1 (its:List Value) {j k:Int} (hj:0≤j) (hk:0 < k):slicePick its.toArray (some j) none (some k)=(stepL its j k).toArray:=by
  unfold slicePick sliceBounds sliceRange
  simp only [Option.getD_some,if_pos hk,if_neg (Int.not_lt.mpr hj),List.getElem?_toArray]
  rfl
theorem VRs.picked {g:Gh} {vs:List V} {xs:List Value} (r:VRs C g vs xs) (is:List Nat):VRs C g (is.filterMap fun i=>vs[i]?) (is.filterMap fun i=>xs[i]?):=by
  induction is with
  | nil=>exact .nil
  | cons i is ih =>
    rw [List.filterMap_cons,List.filterMap_cons]
    cases e:vs[i]? with
    | none=>rw [List.getElem?_eq_none (r.length▸List.getElem?_eq_none_iff.mp e)]; exact ih
    | some v=>exact (r.get e).elim fun y q=>q.1.symm▸.cons q.2 ih
theorem VRs.step {g:Gh} {vs:List V} {xs:List Value} (r:VRs C g vs xs) (j k:Int):VRs C g (stepL vs j k) (stepL xs j k):=by
  unfold stepL; rw [r.length]; exact r.picked _
theorem aF1 {its:List Value} {j k:Int} (hj:0≤j) (hk:0 < k):(stepL its j k).length≤its.length :=
  Nat.le_trans (Nat.le_of_eq (congrArg Array.size (ab1 its hj hk)).symm) (slicePick_size_le its.toArray _ _ _)
theorem aE8 {g:Gh} {loc:L} {c:H} {s:Shared} (r:Rel C F g loc c s.heap) {value slice:Expr} {x lo st:V} {a l u:Value} (hx:VR C g x a) (hl:VR C g lo l) (hu:VR C g st u) {Q:Value→Shared→Prop} {E:Value→Shared→Prop}
    (G:Goal C F (EvP C F loc (VR C)) g s (ofO (slstV x lo st) c) Q E) :
    wpAny (model C.prog C.w) A (subscriptTail value slice a (.ref s.heap.objs.size)) Q E { s with heap:=s.heap.push { cls:=.type "slice",data:=.fields #[l,.none,u] } } :=
  G.obind fun vs e G=>hx.isLst (W:=fun a=>wpAny (model C.prog C.w) A (subscriptTail value slice a (.ref s.heap.objs.size)) Q E { s with heap:=s.heap.push { cls:=.type "slice",data:=.fields #[l,.none,u] } }) e fun o its q1 q2 q3 =>
  G.ints2 (W2:=fun l u=>wpAny (model C.prog C.w) A (subscriptTail value slice (.ref o) (.ref s.heap.objs.size)) Q E { s with heap:=s.heap.push { cls:=.type "slice",data:=.fields #[l,.none,u] } }) hl hu fun j u k v G=>G.oif fun hs G =>
  have r4:=r.push { cls:=.type "slice",data:=.fields #[.int j u,.none,.int k v] }
  have V:=q2.step j k
  (H8 slice (.ref o) (.ref s.heap.objs.size)).elim fun ops w=>tail_any ((r4.lstAt (s:={ s with heap:=_ }) q1).typeIs) slot_list_getitem.lookup (wpAny_getItem_list_slice (r4.lstAt (s:={ s with heap:=_ }) q1) (Heap.IsSliceOf.new _ _ _ _) (.int _ _) .none (.int _ _) (fun q=>absurd (Option.some.inj q) (Int.ne_of_gt hs.2))
    (ab1 its hs.1 hs.2▸Goal.newList (s:={ s with heap:=_ }) (G.move g.le_refl) r4 V (V.length▸Nat.le_trans (aF1 hs.1 hs.2) (Nat.le_trans (Nat.le_of_eq q2.length) q3))) (show its.length≤sizeLine from q2.length▸Nat.le_trans q3 v5)) w
theorem aV5 {e1 e2 e3:Expr} {m1 m2 m3:ME} {p pos:Pos} (h1:EvSim C A F CS e1 m1) (h2:EvSim C A F CS e2 m2) (h3:EvSim C A F CS e3 m3):EvSim C A F CS (.Subscript e1 (.Slice (some e2) none (some e3) p) pos) (.slst m1 m2 m3):=fun r Q E G =>
  Subscript_ ((h1 r).step G fun _ _ _ _ _ _ _ r1 p1 G=>wpAny_Slice ((h2 r1).step G fun _ _ _ _ _ _ l2 r2 p2 G=>wpAny_pure ((h3 r2).step G fun _ _ _ _ _ _ l3 r3 p3 G=>aE8 r3 ((p1.mono l2).mono l3) (p2.mono l3) p3 G)))
noncomputable def isStarE (e:Expr):Bool:=match e with | .Starred ..=>true | _=>false
noncomputable def notStar (e:Expr):Bool:=!isStarE e
theorem f4 {e:Expr} {rest:List Expr} {env:Env} (h:notStar e=true):starEach (e::rest) env=(false,eval e env)::starEach rest env:=by
  cases e <;> first | rfl | (cases h)
theorem bf2:EsSim C A F CS [] .nil:=fun pos {g loc c s} r _ _ G=>wpAny_items_nil (G.now r ⟨.nil,rfl⟩)
theorem aW7 {e:Expr} {es:List Expr} {m:ME} {ms:MEs} (hn:notStar e=true) (h1:EvSim C A F CS e m) (h2:EsSim C A F CS es ms):EsSim C A F CS (e::es) (.cons m ms):=fun pos {g loc c s} r Q E G =>
  wpAny_items_cons ((h1 r).step G fun _ _ _ _ _ _ _ r1 p1 G=>(h2 pos r1).step G fun _ _ _ _ _ _ l2 r2 p2 G=>G.now r2 ⟨.cons (p1.mono l2) p2.1,congrArg (· + 1) p2.2⟩) (f4 hn)
theorem t8 {pos:Pos} {env:Env} {es:List Expr}:es.all notStar=true→(backTo pos (starEach es env)).any (·.1)=false:=by
  induction es with
  | nil=>exact fun _=>rfl
  | cons e es ih =>
    intro h
    rw [f4 (b7 h)]
    exact ih (a8 h)
theorem s9 {M:Model} {A:Around} {E:Value→Shared→Prop} {s:Shared} {env:Env} {f:Value} {pos:Pos} {es:List Expr} {Q:Args→Shared→Prop} (hn:es.all notStar=true)
    (h:wpAny M A (spliced (backTo pos (starEach es env))) (fun vs s'=>Q ⟨vs,[]⟩ s') E s):wpAny M A (evalArgs f true (backTo pos (starEach es env)) []) Q E s:=by
  cases es with
  | nil=>exact wpAny_bind (wpAny_mono h (fun vs s' h'=>wpAny_bind (wpAny_pure (wpAny_holding (wpAny_bind (wpAny_pure (wpAny_bind (wpAny_pure (wpAny_pure h')))))))) fun _ _ x=>x)
  | cons e es =>
    rw [f4 (b7 hn)] at h ⊢
    exact evalArgs_plain h
theorem VRsN.fits {n:Nat} {g:Gh} {vs:List V} {xs:List Value} (p:VRsN C n g vs xs) (h:n≤big):xs.length≤sizeLine:=p.1.length▸p.2▸Nat.le_trans h v5
theorem be1 {es:List Expr} {ms:MEs} {k:Nat} {pos:Pos} (h:EsSim C A F CS es ms) (hb:ms.len≤big):EvSim C A F CS (.Tuple es k pos) (.tup ms):=fun {g loc c s} r Q E G =>
  wpAny_Tuple ((h pos r).step G fun g1 c1 h1 t1 _ a1 _ r1 p1 G=>⟨p1.fits hb,have N:=Rel.newSeq (s:={ s with heap:=h1,toks:=t1 }) r1 a1; G.done (tk:=t1) N.2.1 ⟨N.1,.tup N.2.2 (p1.1.mono N.2.1) (p1.2▸hb)⟩⟩)
theorem aV7 {es:List Expr} {ms:MEs} {pos:Pos} (h:EsSim C A F CS es ms) (hb:ms.len≤big):EvSim C A F CS (.List es pos) (.list ms):=fun {g loc c s} r Q E G =>
  wpAny_List ((h pos r).step G fun g1 c1 h1 t1 _ a1 _ r1 p1 G=>⟨p1.fits hb,Goal.newList (s:={ s with heap:=h1,toks:=t1 }) G r1 p1.1 (p1.2▸hb)⟩)
theorem aW2 {es:List Expr} {ms:MEs} {pos:Pos} (h:EsSim C A F CS es ms) (hb:ms.len≤big):EvSim C A F CS (.List es pos) (.cell ms):=fun {g loc c s} r Q E G =>
  wpAny_List ((h pos r).step G fun g1 c1 h1 t1 _ a1 _ r1 p1 G=>⟨p1.fits hb,G.done (tk:=t1) Gh.cell_le ⟨r1.pushCell p1.1 (p1.2▸hb),.ref _ _ (show (g1.σ++[h1.objs.size])[c1.length]?=_ by rw [r1.clen]; exact List.getElem?_concat_length)⟩⟩)
end
end Mine
end
section
namespace Mine
open PySem PySem.Spec PySem.Calls PyProof.Rows
noncomputable def bltNames:List PySem.Str:=["len", "ord", "chr", "sum", "min", "max", "str", "range", "isinstance", "tuple", "int"]
structure CfgX (C:Cfg):Prop extends CfgOK C where
  free:∀ n∈bltNames,C.mg n=none
  tokB:C.mg "Token" = some (.ref C.tokC)
  tokO:∃ N mN,ClsAt C.h₀ C.tokC N mN
section
variable {C:Cfg} {A:Around} {F:Fm} {CS:Calls} {x:Cx}
noncomputable def keepMach:Value→Bool | .builtin _=>true | .type _=>true | _=>false
theorem v4 {M:Model} {A:Around} {E:Value→Shared→Prop} {s:Shared} {pos:Pos} {f:Value} {first:List Value} {args:List (Bool×Sem Value)} {Q:Value→Shared→Prop} (hk:keepMach f=true) (hplain:args.any (·.1)=false)
    (h:wpAny M A (evalArgs f true args []) (fun a s₁=>wpAny M A (call f (first++a.pos) a.kw) Q E s₁) E s):wpAny M A (callWith pos f first args []) Q E s:=by
  cases f with
  | builtin id=>exact callWith_builtin hplain h
  | type T=>exact PySem.callWith_type hplain h
  | _=>cases hk
theorem u7 {M:Model} {A:Around} {E:Value→Shared→Prop} {s:Shared} {env:Env} {n:PySem.Str} {np pos:Pos} {args:List Expr} {Q:Value→Shared→Prop}
    (h:wpAny M A (eval (.Name n np) env) (fun f s₁=>wpAny M A (callWith pos f [] (backTo pos (starEach args env)) []) Q E s₁) E s):wpAny M A (eval (.Call (.Name n np) args [] pos) env) Q E s:=wpAny_bind h
noncomputable def CallsAt (C:Cfg) (A:Around) (F:Fm) (CS:Calls):Prop:=∀ {g:Gh} {loc:L} {c:H} {s:Shared} {f:Nat} {args:List V} {vals:List Value} {a:Addr},Rel C F g loc c s.heap→VRs C g args vals→C.fnA f=some a→Sim C A F g loc s (VR C) (call (.ref a) vals []) (CS f args c)
theorem am6 (oc:CfgOK C) (hc:CallsAt C A F CS) {es:List Expr} {ms:MEs} {pos:Pos} (hs:es.all notStar=true) (h:EsSim C A F CS es ms) {f:Nat} {a:Addr} (hf:C.fnA f=some a) {g:Gh} {loc:L} {c:H} {s:Shared} (r:Rel C F g loc c s.heap) :
    Sim C A F g loc s (VR C) (callWith pos (.ref a) [] (backTo pos (starEach es F.env)) []) ((mevs CS ms loc c).bind fun vs h=>CS f vs h):=fun Q E G =>
  (oc.fn f a hf).elim fun o q=>q.elim fun fd q=>callWith_function (o:=o) (fd:=fd) (s9 hs ((h pos r).step G fun _ _ _ _ _ _ _ r1 p1 G=>⟨⟨r1.base _ _ q.1,q.2⟩,hc r1 p1.1 hf _ _ G⟩))
theorem aW3 (ok:FmOK C F A) (oc:CfgOK C) (ox:CxOK C F x) (hc:CallsAt C A F CS) {n:PySem.Str} {f:Nat} {es:List Expr} {ms:MEs} {np pos:Pos} (hg:isGlob x n=true) (hf:(n,f)∈x.fns) (hs:es.all notStar=true) (h:EsSim C A F CS es ms) :
    EvSim C A F CS (.Call (.Name n np) es [] pos) (.call f ms):=fun r Q E G=>(ox.fns _ hf).elim fun a q=>u7 (E5 ok oc ox hg q.1 r (am6 oc hc hs h q.2 r _ _ G))
theorem aM8 (ok:FmOK C F A) (oc:CfgOK C) (ox:CxOK C F x) (hc:CallsAt C A F CS) {n:PySem.Str} {i:Nat} {es:List Expr} {ms:MEs} {np pos:Pos} (hg:isSlot x n i=true) (hs:es.all notStar=true) (h:EsSim C A F CS es ms) :
    EvSim C A F CS (.Call (.Name n np) es [] pos) (.callv i ms):=fun r Q E G=>G.obind fun v e G=>G.opt fun f e' G=>u7 (E8 ok ox hg r e fun a p=>p.isFn (W:=fun a=>wpAny _ A (callWith pos a [] _ []) Q E _) e' fun b hb=>am6 oc hc hs h hb r _ _ G)
noncomputable def MkAt (C:Cfg) (A:Around) (F:Fm):Prop:=∀ {g:Gh} {loc:L} {c:H} {s:Shared} {vs:List V} {vals:List Value},Rel C F g loc c s.heap→VRs C g vs vals→Sim C A F g loc s (VR C) (call (.ref C.tokC) vals []) (mkR vs c)
theorem ev_mk (ok:FmOK C F A) (oc:CfgX C) (ox:CxOK C F x) (hm:MkAt C A F) {e:Expr} {es:List Expr} {ms:MEs} {np pos:Pos} (hg:isGlob x "Token" = true) (hs:(e::es).all notStar=true) (h:EsSim C A F CS (e::es) ms) :
    EvSim C A F CS (.Call (.Name "Token" np) (e::es) [] pos) (.mk ms):=fun r Q E G=>oc.tokO.elim fun _ X=>X.elim fun _ X =>
  u7 (E5 ok oc.toCfgOK ox hg oc.tokB r (PyProof.Rows.callWith_cls X ((h pos r).step G fun _ _ _ _ _ _ _ r1 p1 G=>⟨r1.base,hm r1 p1.1 _ _ G⟩) (f4 (b7 hs)) (t8 (a8 hs))))
noncomputable def attrName:Nat→PySem.Str | 0 => "sort" | 1 => "value" | _ => "line"
noncomputable def AttrAt (C:Cfg) (A:Around) (F:Fm):Prop:=∀ {g:Gh} {loc:L} {c:H} {s:Shared} {v:V} {a:Value} {f:Nat},Rel C F g loc c s.heap→VR C g v a→Sim C A F g loc s (VR C) (getAttr a (attrName f) true) (ofO (attrV v f) c)
theorem aW5 (ha:AttrAt C A F) {n:PySem.Str} {f:Nat} {m1:ME} {np pos:Pos} (h1:EvSim C A F CS (.Name n np) m1):EvSim C A F CS (.Attribute (.Name n np) (attrName f) pos) (.attr m1 f):=fun r Q E G =>
  Attribute_name ((h1 r).step G fun _ _ _ _ _ _ _ r1 p1 G=>ha r1 p1 _ _ G)
noncomputable def isBlt (x:Cx) (n:PySem.Str) (f:Value):Bool:=isGlob x n&&(decide (n∈bltNames)&&(bootBuiltins n==some f&&(keepMach f&&n != "__name__")))
theorem D1 (ok:FmOK C F A) (oc:CfgX C) (ox:CxOK C F x) {n:PySem.Str} {f:Value} {np:Pos} (h:isBlt x n f=true) {g:Gh} {loc:L} {c:H} {s:Shared} (r:Rel C F g loc c s.heap)
    {M:Model} {Q:Value→Shared→Prop} {E:Value→Shared→Prop} (hq:Q f s):wpAny M A (eval (.Name n np) F.env) Q E s :=
  aI3 ok oc.toCfgOK ox (b7 h) (oc.free n (g7 (b7 (a8 h)))) (bne_iff_ne.mp (a8 (a8 (a8 (a8 h))))) (r8 (b7 (a8 (a8 h)))) r hq
theorem an1 {n:PySem.Str} {f:Value} (h:isBlt x n f=true):keepMach f=true:=b7 (a8 (a8 (a8 h)))
theorem ev_b1 (ok:FmOK C F A) (oc:CfgX C) (ox:CxOK C F x) {p:P1} {n:PySem.Str} {f:Value} {e1:Expr} {m1:ME} {np pos:Pos} (hb:isBlt x n f=true) (hf:p1Fn p=some f) (hs:[e1].all notStar=true) (h1:EvSim C A F CS e1 m1) :
    EvSim C A F CS (.Call (.Name n np) [e1] [] pos) (.p1 p m1):=fun r Q E G =>
  u7 (D1 ok oc ox hb r (v4 (an1 hb) (t8 hs) (s9 hs (wpAny_items_cons ((h1 r).step G fun _ _ _ _ _ _ _ r1 p1 G=>wpAny_items_nil (prim1 r1 ok.hh hf p1 G)) (f4 (b7 hs))))))
theorem ev_b2 (ok:FmOK C F A) (oc:CfgX C) (ox:CxOK C F x) {p:P2} {n:PySem.Str} {f:Value} {e1 e2:Expr} {m1 m2:ME} {np pos:Pos} (hb:isBlt x n f=true) (hf:p2Fn p=some f) (hs:[e1,e2].all notStar=true) (h1:EvSim C A F CS e1 m1) (h2:EvSim C A F CS e2 m2) :
    EvSim C A F CS (.Call (.Name n np) [e1,e2] [] pos) (.p2 p m1 m2):=fun r Q E G =>
  u7 (D1 ok oc ox hb r (v4 (an1 hb) (t8 hs) (s9 hs (wpAny_items_cons ((h1 r).step G fun _ _ _ _ _ _ _ r1 p1 G=>G.rif fun _ G =>
    wpAny_items_cons ((h2 r1).step G fun _ _ _ _ _ _ l2 r2 p2 G=>wpAny_items_nil (prim2 r2 ok.hh hf (p1.mono l2) p2 G)) (f4 (b7 (a8 hs)))) (f4 (b7 hs))))))
noncomputable def baseOK:Expr→Bool | .Name ..=>true | .Constant ..=>true | .Subscript ..=>true | .Dict ..=>true | _=>false
theorem ay7 {o:Expr} (h:baseOK o=true) (n:PySem.Str) (env:Env):attributeBase o n env (eval o env)=eval o env:=by
  cases o <;> first | rfl | (cases h)
theorem A9 {prog:Program} {w:World} {A:Around} {E:Value→Shared→Prop} {s:Shared} {env:Env} {o:Expr} {name:PySem.Str} {T id:String} {apos pos:Pos} {es:List Expr} {Q:Value→Shared→Prop}
    (hb:baseOK o=true) (hl:es.length+0+0 < 30) (hs:es.all notStar=true) (hline:(apos.endLine==pos.line)=true) (pa:PlainAttrs T) (slot:Slot T name id) (hty:typeOf (.builtin id)=pure (.type "method_descriptor"))
    (h:wpAny (model prog w) A (eval o env) (fun ov s₁=>(s₁.TypeIs ov T∧∀ a,ov=.ref a→∃ ob,s₁.heap.get? a=some ob∧ob.dict=none) ∧
      wpAny (model prog w) A (spliced (backTo pos (starEach es env))) (fun vs s₂=>wpAny (model prog w) A (call (.builtin id) (ov::vs)) Q E s₂) E s₁) E s) :
    wpAny (model prog w) A (eval (.Call (.Attribute o name apos) es [] pos) env) Q E s:=by
  have hany:=t8 (pos:=pos) (env:=env) hs
  have hall:(backTo pos (starEach es env)).all (fun x=>!x.1)=true:=List.all_eq_true.mpr fun y hy=>congrArg (!·) (Bool.eq_false_iff.mpr (List.any_eq_false.mp hany y hy))
  refine wpAny_Call_method (ay7 hb _ _) ?_ hline pa slot hty (wpAny_mono h (fun ov s₁ h₁=>⟨h₁.1.1,h₁.1.2,callWith_builtin hany (s9 hs h₁.2)⟩) fun _ _ x=>x)
  rw [hall]
  exact decide_eq_true hl
section
variable {g:Gh} {loc:L} {c:H} {s:Shared} {v:V} {a:Value}
theorem aI8 {l:List Nat} (p:VR C g v a) (e:txtOf v=some l):s.TypeIs a "str" ∧ ∀ b,a=.ref b→∃ ob,s.heap.get? b=some ob∧ob.dict=none :=
  p.isTxt (W:=fun a=>s.TypeIs a "str" ∧ ∀ b,a=.ref b→∃ ob,s.heap.get? b=some ob∧ob.dict=none) e fun t _=>⟨typeIs_str _ _ _,fun _ q=>nomatch q⟩
theorem al5 (h:isStrV v=true):∃ l,txtOf v=some l:=by
  cases v with
  | str l=>exact ⟨l,rfl⟩
  | _=>cases h
theorem aK1 (h:isRefV v=true):∃ l,refOf v=some l:=by
  cases v with
  | ref l=>exact ⟨l,rfl⟩
  | _=>cases h
theorem aq5 {n:Nat} (r:Rel C F g loc c s.heap) (p:VR C g v a) (e:refOf v=some n):s.TypeIs a "list" ∧ ∀ b,a=.ref b→∃ ob,s.heap.get? b=some ob∧ob.dict=none :=
  p.isRef (W:=fun a=>s.TypeIs a "list" ∧ ∀ b,a=.ref b→∃ ob,s.heap.get? b=some ob∧ob.dict=none) e fun p hp=>(r.cellAt hp (List.getElem?_eq_getElem (r.clen▸F9 hp))).elim fun its w=>w.pl.elim fun k ho =>
    ⟨⟨_,ho,rfl⟩,fun b q=>⟨_,Value.ref.inj q▸ho,rfl⟩⟩
end
theorem ev_m1 (ok:FmOK C F A) {e1:Expr} {m1:ME} {apos pos:Pos} (hb:baseOK e1=true) (hline:(apos.endLine==pos.line)=true) (h1:EvSim C A F CS e1 m1) :
    EvSim C A F CS (.Call (.Attribute e1 "lower" apos) [] [] pos) (.p1 .lower m1):=fun r Q E G =>
  A9 hb (by decide) rfl hline PySem.F.plainAttrs_str PySem.F.slot_str_lower PySem.F.type_str_lower ((h1 r).step G fun _ _ _ _ _ _ _ r1 p1 G=>⟨G.obind fun l e _=>aI8 p1 e,wpAny_items_nil (prim1 r1 ok.hh rfl p1 G)⟩)
noncomputable def m2Of:P2→Option (PySem.Str×String)
  | .find=>some ("find", "str.find") | .count=>some ("count", "str.count") | .split=>some ("split", "str.split") | .lstrip=>some ("lstrip", "str.lstrip") | .join=>some ("join", "str.join") | _=>none
structure M2Is (p:P2) (n:PySem.Str) (id:String):Prop where
  slot:Slot "str" n id
  type:typeOf (.builtin id)=pure (.type "method_descriptor")
  fn:p2Fn p=some (.builtin id)
  recv:∀ v,recv2 p v=isStrV v
theorem aT8 {p:P2} {t:PySem.Str×String} (h:m2Of p=some t):M2Is p t.1 t.2:=by
  cases p with
  | find=>exact Option.some.inj h▸⟨PySem.F.slot_str_find,PySem.F.type_str_find,rfl,fun _=>rfl⟩
  | count=>exact Option.some.inj h▸⟨PySem.F.slot_str_count,PySem.F.type_str_count,rfl,fun _=>rfl⟩
  | split=>exact Option.some.inj h▸⟨PySem.F.slot_str_split,PySem.F.type_str_split,rfl,fun _=>rfl⟩
  | lstrip=>exact Option.some.inj h▸⟨PySem.F.slot_str_lstrip,PySem.F.type_str_lstrip,rfl,fun _=>rfl⟩
  | join=>exact Option.some.inj h▸⟨PySem.F.slot_str_join,PySem.F.type_str_join,rfl,fun _=>rfl⟩
  | _=>cases h
theorem ev_m2 (ok:FmOK C F A) {p:P2} {t:PySem.Str×String} {e1 e2:Expr} {m1 m2:ME} {apos pos:Pos} (hp:m2Of p=some t) (hb:baseOK e1=true) (hs:[e2].all notStar=true) (hline:(apos.endLine==pos.line)=true) (h1:EvSim C A F CS e1 m1) (h2:EvSim C A F CS e2 m2) :
    EvSim C A F CS (.Call (.Attribute e1 t.1 apos) [e2] [] pos) (.p2 p m1 m2):=fun r Q E G =>
  have q:=aT8 hp
  A9 hb (by decide:1+0+0 < 30) hs hline PySem.F.plainAttrs_str q.slot q.type ((h1 r).step G fun _ _ _ _ v1 _ _ r1 p1 G=>G.rif fun hr G=>⟨(al5 (q.recv v1▸hr)).elim fun l e=>aI8 p1 e,
    wpAny_items_cons ((h2 r1).step G fun _ _ _ _ _ _ l2 r2 p2 G=>wpAny_items_nil (prim2 r2 ok.hh q.fn (p1.mono l2) p2 G)) (f4 (b7 hs))⟩)
theorem ev_m3 {e1 e2 e3:Expr} {m1 m2 m3:ME} {apos pos:Pos} (hb:baseOK e1=true) (hs:[e2,e3].all notStar=true) (hline:(apos.endLine==pos.line)=true) (h1:EvSim C A F CS e1 m1) (h2:EvSim C A F CS e2 m2) (h3:EvSim C A F CS e3 m3) :
    EvSim C A F CS (.Call (.Attribute e1 "find" apos) [e2,e3] [] pos) (.p3 .find m1 m2 m3):=fun r Q E G =>
  A9 hb (by decide:2+0+0 < 30) hs hline PySem.F.plainAttrs_str PySem.F.slot_str_find PySem.F.type_str_find ((h1 r).step G fun _ _ _ _ _ _ _ r1 p1 G=>G.rif fun hr G=>⟨(al5 hr).elim fun l e=>aI8 p1 e,
    wpAny_items_cons ((h2 r1).step G fun _ _ _ _ _ _ l2 r2 p2 G=>wpAny_items_cons ((h3 r2).step G fun _ _ _ _ _ _ l3 r3 p3 G=>wpAny_items_nil (prim3 r3 ((p1.mono l2).mono l3) (p2.mono l3) p3 G)) (f4 (b7 (a8 hs)))) (f4 (b7 hs))⟩)
theorem aC1 (ok:FmOK C F A) {e1 e2:Expr} {m1 m2:ME} {apos pos:Pos} (hb:baseOK e1=true) (hs:[e2].all notStar=true) (hline:(apos.endLine==pos.line)=true) (h1:EvSim C A F CS e1 m1) (h2:EvSim C A F CS e2 m2) :
    EvSim C A F CS (.Call (.Attribute e1 "append" apos) [e2] [] pos) (.p2 .append m1 m2):=fun r Q E G =>
  A9 hb (by decide:1+0+0 < 30) hs hline PySem.F.plainAttrs_list PySem.F.slot_list_append PySem.F.type_list_append ((h1 r).step G fun _ _ _ _ _ _ _ r1 p1 G=>G.rif fun hr G=>⟨(aK1 hr).elim fun n e=>aq5 r1 p1 e,
    wpAny_items_cons ((h2 r1).step G fun _ _ _ _ _ _ l2 r2 p2 G=>wpAny_items_nil (prim2 r2 ok.hh rfl (p1.mono l2) p2 G)) (f4 (b7 hs))⟩)
end
end Mine
end
section
namespace Mine
open PySem PySem.Spec PySem.Calls PyProof.Rows
structure ExcIn (C:Cfg) (F:Fm) (g:Gh) (w:List Nat) (l:Int) (e:Addr) (h:Heap):Prop where
  off:Off C F g e
  obj:∃ d,ExcO C F g w l e h d∧∃ t,TbO C F g e h d.vs t
section
variable {C:Cfg} {A:Around} {F:Fm} {g:Gh} {loc:L} {c:H} {h h':Heap} {w:List Nat} {l:Int} {e:Addr}
theorem ExcIn.at (x:ExcIn C F g w l e h):ExcAt C F g w l e h:=⟨x.off,x.obj.imp fun _ q=>q.1⟩
structure FnOK (F:Fm):Prop where
  top:∃ outer,F.fr=F.env::outer
  frame:F.env.frame=some F.env.locals
theorem aV2 (ok:FmOK C F A) (r:Rel C F g loc c h):h.FunFrames { objs:=#[] } F.fr:=by
  have gen:∀ l:List Env,(∀ e∈l,e.scope.kind≠.module∧∃ L,e.frame=some L∧(L=F.env.locals∨∃ x∈F.keeps,x.1=L∧∃ es n,x.2.2.2=.dict es n))→h.FunFrames { objs:=#[] } l:=by
    intro l
    induction l with
    | nil=>exact fun _=>trivial
    | cons e l ih=>exact fun hl=>⟨(hl e (.head _)).1,(hl e (.head _)).2.elim fun L h2=>⟨L,h2.2.elim
        (fun q=>r.ns.elim fun m q'=>q'.1.elim fun o q'=>q'.elim fun es q'=>q'.elim fun ep q'=>⟨o,h2.1,rfl,q▸q'.1,fun vs z=>nomatch q'.2.1.symm.trans z⟩)
        fun q=>q.elim fun x q=>(r.keep x q.1).elim fun o k=>q.2.2.elim fun es z=>z.elim fun n z=>⟨o,h2.1,rfl,q.2.1▸k.1,fun vs y=>nomatch (k.2.2.2.trans z).symm.trans y⟩⟩,ih fun e he=>hl e (.tail _ he)⟩
  exact gen _ ok.frOK
theorem aL6 (ok:FmOK C F A) {a:Addr} (ha:a∈F.fr.filterMap (·.frame)):a∈F.env.locals::F.keeps.map (·.1) :=
  (List.mem_filterMap.mp ha).elim fun e q=>(ok.frOK e q.1).2.elim fun L k=>Option.some.inj (k.1.symm.trans q.2)▸k.2.elim (fun z=>z▸.head _) fun z=>z.elim fun x z=>z.2.1▸.tail _ (List.mem_map_of_mem z.1)
theorem ab9 (ok:FmOK C F A) {a:Addr} (ha:a∈F.fr.filterMap (·.frame)):a∈places F g:=List.mem_append_left (as:=F.env.locals::F.keeps.map (·.1)) _ (aL6 ok ha)
theorem bd6 (ok:FmOK C F A) (r:Rel C F g loc c h) (a:Addr) (ha:a∈F.fr.filterMap (·.frame)):C.h₀.get? a=none∧a ∉ g.σ :=
  ⟨(r.new a (ab9 ok ha)).1,fun hs=>(List.nodup_append.mp (show ((F.env.locals::F.keeps.map (·.1))++g.σ).Nodup from r.apart)).2.2 a (aL6 ok ha) a hs rfl⟩
theorem ae9 {o:Obj} {vs:Array Value} (hd:o.data=.fields vs) (f:Array Value→Array Value):o.mapFields f={ o with data:=.fields (f vs) }:=by
  obtain ⟨c,d,dt,sl⟩:=o; cases hd; rfl
theorem ExcO.setTb {d:ExcD} (O:ExcO C F g w l e h d) (off:Off C F g e) {T:Addr} (he:h'.get? e=some (d.oe.mapFields (·.setIfInBounds 1 (.ref T)))) {t:TbD} (ht:TbO C F g e h' (d.vs.setIfInBounds 1 (.ref T)) t):ExcIn C F g w l e h' :=
  ⟨off,{ d with oe:={ d.oe with data:=.fields (d.vs.setIfInBounds 1 (.ref T)) },vs:=d.vs.setIfInBounds 1 (.ref T) },
    { O with get:=he.trans (congrArg some (ae9 O.data _)),data:=rfl,size:=Array.size_setIfInBounds.trans O.size,tb:=.inr ⟨t,ht⟩ },t,ht⟩
theorem ExcO.at1 {d:ExcD} (O:ExcO C F g w l e h d) {x:Value}:(d.vs.setIfInBounds 1 x)[1]?=some x:=by
  rw [Array.getElem?_setIfInBounds_self]
  exact if_pos (O.size▸by decide)
theorem ExcO.same {d:ExcD} (O:ExcO C F g w l e h d) (he:h'.get? e=some d.oe) (ht:∀ t,TbO C F g e h d.vs t→∃ t',TbO C F g e h' d.vs t'):ExcO C F g w l e h' d :=
  { O with get:=he,tb:=O.tb.imp id fun q=>q.elim fun t q=>ht t q }
theorem TbO.flight' {d:ExcD} (O:ExcO C F g w l e h d) (off:Off C F g e) {t:TbD} (T:TbO C F g e h d.vs t) (x:Value) :
    ExcIn C F g w l e (h.update t.T (Obj.mapFields (·.setIfInBounds 3 x))) :=
  have N:TbO C F g e (h.update t.T (Obj.mapFields (·.setIfInBounds 3 x))) d.vs { t with o:=t.o.mapFields (·.setIfInBounds 3 x),ts:=t.ts.setIfInBounds 3 x,x:=x } :=
    { T with get:=Heap.get?_update_self _ T.get (Obj.isFreed_of_fields (Obj.data_mapFields T.data _)),data:=Obj.data_mapFields T.data _,flight:=by rw [Array.getElem?_setIfInBounds_self]; exact if_pos (Array.getElem?_eq_some_iff.mp T.flight).1 }
  ⟨off,d,O.same ((Heap.get?_update_other _ _ T.ne).trans O.get) fun _ _=>⟨_,N⟩,_,N⟩
theorem ac5 {a:Addr} (f:Obj→Obj):Heap.ExtBut a h (h.update a f):=fun b o hb hbo=>(Heap.get?_update_other _ _ (Ne.symm hb)).trans hbo
end
section
variable {C:Cfg} {A:Around} {F:Fm} {g:Gh} {loc:L} {c:H} {s:Shared} {M:Model} {w:List Nat} {l:Int} {e:Addr} {Q:Unit→Shared→Prop} {E:Value→Shared→Prop}
theorem ab4 (ok:FmOK C F A) (of:FnOK F) (r:Rel C F g loc c s.heap) (off:Off C F g e) {d:ExcD} (O:ExcO C F g w l e s.heap d) {head:Value} {b:Bool} (hq:∀ h',Rel C F g loc c h'→ExcIn C F g w l e h'→Q () { s with heap:=h' }) :
    wpAny M A (do let a ← frameOf F.env; let pl ← entryPlaceOf F.env.locals b; let t ← EntryCells.newEntry head a .none (rawInt F.env.locals) .none pl; setField (.ref e) 1 t) Q E s:=by
  obtain ⟨outer,hfr⟩:=of.top
  refine wpAny_bind (wpAny_frameOf_fun (ok.fr.trans (congrArg some hfr)) (hfr▸aV2 ok r) of.frame fun h₁ hs₁=>?_)
  refine wpAny_bind (wpAny_entryPlaceOf fun pl hpl=>?_)
  unfold EntryCells.newEntry newFields
  refine wpAny_bind (wpAny_newObj_type ?_ (hpl.sizeOk5 _ _ _ _ _))
  rw [← hfr] at hs₁
  have r₁:Rel C F g loc c h₁:=r.soft (xs:=[]) (fun b o _ hb=>(hs₁.2.2 b o hb).imp fun sl e1=>⟨e1,fun hf=>(hs₁.2.1 b hf).trans hb⟩) (fun _ q=>nomatch q) (bd6 ok r)
  have he₁:h₁.get? e=some d.oe:=(hs₁.2.1 e fun hm=>off.2 (ab9 ok hm)).trans O.get
  generalize hTB:({ cls:=.type "traceback",dict:=none,data:=.fields ([head,.ref F.env.locals,.none,rawInt F.env.locals,.none]++(if pl.isEmpty then List.replicate 6 Value.none else pl)).toArray }:Obj)=tb
  have htd:tb.data=.fields ([head,.ref F.env.locals,.none,rawInt F.env.locals,.none]++(if pl.isEmpty then List.replicate 6 Value.none else pl)).toArray:=hTB▸rfl
  have he₂:=Heap.get?_push_of_some (h:=h₁) tb he₁
  refine wpAny_setField he₂ O.data (O.size▸by decide) ?_
  have hTe:h₁.objs.size≠e:=Nat.ne_of_gt (Heap.lt_size he₁)
  exact hq _ ((r₁.push tb).one (ac5 _) off) (O.setTb off (Heap.get?_update_self _ he₂ (Obj.isFreed_of_fields (Obj.data_mapFields O.data _))) (t:=⟨_,tb,_,rawInt F.env.locals⟩)
    ⟨O.at1,(Heap.get?_update_other _ _ (Ne.symm hTe)).trans (Heap.get?_push_size h₁ (Obj.isFreed_of_fields htd)),htd,rfl,hTe,r₁.fresh⟩)
theorem X6 (ok:FmOK C F A) (of:FnOK F) (r:Rel C F g loc c s.heap) (x:ExcAt C F g w l e s.heap) (hq:∀ h',Rel C F g loc c h'→ExcIn C F g w l e h'→Q () { s with heap:=h' }):wpAny M A (noteFrame (.ref e) F.env) Q E s:=by
  unfold noteFrame
  simp only [of.frame]
  refine x.obj.elim fun d O=>O.tb.elim (fun h1=>wpAny_bind (wpAny_field O.get O.data h1 (ab4 ok of r x.off O hq))) fun q=>q.elim fun t T=>wpAny_bind (wpAny_field O.get O.data T.fld ?_)
  rw [if_pos (show (Value.ref t.T != Value.none)=true from rfl)]
  refine wpAny_bind (wpAny_field T.get T.data T.flight ?_)
  split
  · exact wpAny_pure (hq s.heap r ⟨x.off,d,O,t,T⟩)
  · exact wpAny_bind (wpAny_setField T.get T.data (Array.getElem?_eq_some_iff.mp T.flight).1 ((T.flight' O x.off .none).obj.elim fun d' q=>ab4 (s:={ s with heap:=_ }) ok of (r.one (ac5 _) T.off) x.off q.1 hq))
theorem G2 (r:Rel C F g loc c s.heap) {fo:Option Addr} (x:ExcIn C F g w l e s.heap) (hq:∀ h',Rel C F g loc c h'→ExcIn C F g w l e h'→Q () { s with heap:=h' }):wpAny M A (setFlight (.ref e) fo) Q E s:=by
  unfold setFlight
  refine x.obj.elim fun d q=>q.2.elim fun t T=>wpAny_bind (wpAny_field q.1.get q.1.data T.fld ?_)
  rw [if_pos (show (Value.ref t.T != Value.none)=true from rfl)]
  exact wpAny_setField T.get T.data (Array.getElem?_eq_some_iff.mp T.flight).1 (hq _ (r.one (ac5 _) T.off) (T.flight' q.1 x.off _))
theorem X7 (ok:FmOK C F A) (of:FnOK F) (r:Rel C F g loc c s.heap) (x:ExcAt C F g w l e s.heap) {E:Value→Shared→Prop}
    (hq:∀ h',Rel C F g loc c h'→ExcAt C F g w l e h'→E (.ref e) { s with heap:=h' }):notedBy M A F.env (cameBackBy M A F.env E) (.ref e) s :=
  X6 ok of r x fun h' r' x'=>x'.obj.elim fun d q=>q.2.elim fun t T=>wpAny_bind (wpAny_field q.1.get q.1.data T.fld (by
    rw [if_neg (show ¬ (Value.ref t.T==Value.none)=true from fun z=>nomatch z)]
    exact G2 (s:={ s with heap:=h' }) r' x' fun h2 r2 x2=>hq h2 r2 x2.at))
theorem aB9 (ok:FmOK C F A) (of:FnOK F) (r:Rel C F g loc c s.heap) (x:ExcAt C F g w l e s.heap) (hq:∀ h',Rel C F g loc c h'→ExcIn C F g w l e h'→Q () { s with heap:=h' }):wpAny M A (leaving F.env (.ref e)) Q E s :=
  wpAny_bind (X6 ok of r x fun h' r' x'=>G2 (s:={ s with heap:=h' }) r' x' hq)
end
end Mine
end
section
namespace Mine
open PySem PySem.Spec PySem.Calls PyProof.Rows
noncomputable def ImOK (g:Gh) (h:Heap):Prop:=∀ a x,g.im a=some x→∃ o,h.get? a=some o∧Obj.is o x
theorem ImOK.seq {g:Gh} {h:Heap} (im:ImOK g h) {T:String} {a:Addr} {its:List Value} (ha:SeqIm g T a its):∃ o,h.get? a=some o∧o.cls=.type T∧∃ n,o.data=.seq its.toArray n :=
  ha.elim fun d q=>q.elim fun n q=>(im a _ q).imp fun _ k=>⟨k.1,k.2.1,n,k.2.2.2⟩
noncomputable def ownedNames:List String:=["enumerate", "zip", "dict_itemiterator", "dict_reverseitemiterator", "odict_iterator", "itertools.zip_longest", "itertools.pairwise"]
noncomputable def ItAt (h:Heap) (I:Addr) (ty:String) (d:Data):Prop:=∃ o,h.get? I=some o∧o.cls=.type ty∧o.data=d
noncomputable def Nx (C:Cfg) (A:Around) (g:Gh) (I:Addr) (ty:String):List V→Data→Prop
  | [],d=>∀ (s:Shared) (Q:Option Value→Shared→Prop) (E:Value→Shared→Prop),ItAt s.heap I ty d→ImOK g s.heap→(∀ h',Heap.ExtBut I s.heap h'→Q none { s with heap:=h' })→wpAny (model C.prog C.w) A (pyNext (.ref I)) Q E s
  | v::r,d=>∀ (s:Shared) (Q:Option Value→Shared→Prop) (E:Value→Shared→Prop),ItAt s.heap I ty d→ImOK g s.heap →
      (∀ h' tk a d',Heap.ExtBut I s.heap h'→ItAt h' I ty d'→VR C g v a→Nx C A g I ty r d'→Q (some a) { s with heap:=h',toks:=tk })→wpAny (model C.prog C.w) A (pyNext (.ref I)) Q E s
theorem Nx.mono {C:Cfg} {A:Around} {g g':Gh} (l:g.le g') {I:Addr} {ty:String} {vs:List V}:∀ {d:Data},Nx C A g I ty vs d→Nx C A g' I ty vs d:=by
  induction vs with
  | nil=>exact fun n s Q E ho im k=>n s Q E ho (fun a x e=>im a x (l.1 a x e)) k
  | cons v r ih=>exact fun n s Q E ho im k=>n s Q E ho (fun a x e=>im a x (l.1 a x e)) fun h' tk a d e1 e2 e3 e4=>k h' tk a d e1 e2 (e3.mono l) (ih e4)
theorem A5 {α:Type} {l:List α} {i:Nat} {x:α} {r:List α} (e:l.drop i=x::r):l[i]?=some x∧l.drop (i+1)=r :=
  ⟨by rw [← List.head?_drop,e]; rfl,by rw [← List.tail_drop,e]; rfl⟩
theorem N1 {α:Type} {l:List α} {i:Nat} (e:l.drop i=[]):l[i]?=none:=List.getElem?_eq_none (List.drop_eq_nil_iff.mp e)
section
variable {C:Cfg} {A:Around} {F:Fm} {g:Gh} {loc:L} {c:H} {s:Shared}
theorem Rel.imOK {h:Heap} (r:Rel C F g loc c h):ImOK g h:=r.im
theorem aw1 (hh:A.handled=none) {I a:Addr} {its:List Value} (ha:SeqIm g "list" a its) {vs:List V}:∀ (i:Nat),VRs C g vs (its.drop i)→Nx C A g I "list_iterator" vs (.fields #[.ref a,.int i 0]):=by
  induction vs with
  | nil=>exact fun i hv s Q E ho im k=>wpAny_pyNext_list_end hh ho (im.seq ha) ((List.getElem?_toArray).trans (N1 hv)) k
  | cons v vs ih=>exact fun i hv s Q E ho im k=>hv.elim fun x q=>q.elim fun xs q=>wpAny_pyNext_list_item ho (im.seq ha) ((List.getElem?_toArray).trans (A5 q.1).1) fun h' hit hs=>k h' s.toks x _ hs.extBut hit q.2.1 (ih (i+1) ((A5 q.1).2▸q.2.2))
theorem bc0 (hh:A.handled=none) {I a:Addr} {its:List Value} (ha:SeqIm g "tuple" a its) {vs:List V}:∀ (i:Nat),VRs C g vs (its.drop i)→Nx C A g I "tuple_iterator" vs (.fields #[.ref a,.int i 0]):=by
  induction vs with
  | nil=>exact fun i hv s Q E ho im k=>next_tuple_end hh ho (im.seq ha) ((List.getElem?_toArray).trans (N1 hv)) k
  | cons v vs ih=>exact fun i hv s Q E ho im k=>hv.elim fun x q=>q.elim fun xs q=>next_tuple_item ho (im.seq ha) ((List.getElem?_toArray).trans (A5 q.1).1) fun h' hit hs=>k h' s.toks x _ hs.extBut hit q.2.1 (ih (i+1) ((A5 q.1).2▸q.2.2))
theorem ai0 (l:PySem.Str):strIterType l = "str_ascii_iterator" ∨ strIterType l = "str_iterator" := by
  unfold strIterType
  split
  · exact .inl rfl
  · exact .inr rfl
theorem bc1 (hh:A.handled=none) {I:Addr} {l:List Nat} {t:Tok} {ty:String} (ht:ty = "str_ascii_iterator" ∨ ty = "str_iterator") (hv:TxtOK l) {m:List Nat}:∀ (i:Nat),l.drop i=m→Nx C A g I ty (m.map fun z=>.str [z]) (.fields #[.str (strOf l) t,.int i 0]):=by
  induction m with
  | nil=>exact fun i e s Q E ho im k=>ht.elim (fun q=>wpAny_pyNext_ascii_end hh (q▸ho) ((List.getElem?_toArray).trans (N1 e)) k) fun q=>wpAny_pyNext_wide_end hh (q▸ho) ((List.getElem?_toArray).trans (N1 e)) k
  | cons z m ih =>
    intro i e s Q E ho im k
    have hn:(strOf l).cps[i]?=some z:=(List.getElem?_toArray).trans (A5 e).1
    have hz:TxtOK [z]:=.one (hv.cps z (List.mem_of_getElem? (A5 e).1))
    exact ht.elim (fun q=>wpAny_pyNext_ascii_item (q▸ho) hn fun h' hit hs=>k h' _ _ _ hs.extBut (q▸hit) (.txt hz) (ih (i+1) (A5 e).2)) fun q=>wpAny_pyNext_wide_item (q▸ho) hn fun h' hit hs=>k h' _ _ _ hs.extBut (q▸hit) (.txt hz) (ih (i+1) (A5 e).2)
theorem Q8 {it:Addr} {x left step:Int} {o:Obj} {Q:Option Value→Shared→Prop} {E:Value→Shared→Prop} (ho:s.heap.get? it=some o) (hc:o.cls=.type "range_iterator") (hd:o.data=.fields #[rawInt x,rawInt left,rawInt step]) (hleft:0 < left)
    (hQ:∀ h' o',h'.get? it=some o'→o'.cls=.type "range_iterator" → o'.data=.fields #[rawInt (x+step),rawInt (left - 1),rawInt step]→Heap.SameBut it s.heap h'→Q (some (.int x s.toks)) { s with heap:=h',toks:=s.toks+1 }) :
    wpAny (model C.prog C.w) A (pyNext (.ref it)) Q E s:=by
  have hT:s.TypeIs (.ref it) "range_iterator" := ⟨_,ho,hc⟩
  unfold pyNext
  refine wpAny_bind (wpAny_attempt (wpAny_callSpecial?_slot (name:=Str.ofString "__next__") hT PySem.F.slot_range_iterator_next
    (wpAny_call_entry PySem.F.slot_range_iterator_next hT PySem.F.entry_range_iterator_next ?_ (PySem.F.args_range_iterator_next_1 _))))
  show wpAny _ _ (field (.ref it) 0 >>= _) _ _ s
  refine wpAny_bind (wpAny_field ho hd (x:=rawInt x) rfl ?_)
  show wpAny _ _ (field (.ref it) 1 >>= _) _ _ s
  refine wpAny_bind (wpAny_field ho hd (x:=rawInt left) rfl ?_)
  show wpAny _ _ (field (.ref it) 2 >>= _) _ _ s
  refine wpAny_bind (wpAny_field ho hd (x:=rawInt step) rfl ?_)
  show wpAny _ _ (if left≤0 then _ else _) _ _ s
  rw [if_neg (by omega)]
  have hd1:=Obj.data_mapFields hd (fun y=>y.setIfInBounds 0 (rawInt (x+step)))
  have e1:=Heap.get?_update_self (Obj.mapFields fun y=>y.setIfInBounds 0 (rawInt (x+step))) ho (Obj.isFreed_of_fields hd1)
  have hd2:=Obj.data_mapFields hd1 (fun y=>y.setIfInBounds 1 (rawInt (left - 1)))
  have e2:=Heap.get?_update_self (Obj.mapFields fun y=>y.setIfInBounds 1 (rawInt (left - 1))) e1 (Obj.isFreed_of_fields hd2)
  refine wpAny_bind (wpAny_setField ho hd (by simp) (wpAny_bind (wpAny_setField e1 hd1 (by simp) ?_)))
  refine wpAny_ret_mkInt (wpAny_pure (hQ _ _ e2 ((Obj.cls_mapFields ..).trans ((Obj.cls_mapFields ..).trans hc)) ?_ ((Heap.SameBut.update ..).trans (Heap.SameBut.update ..))))
  rw [hd2]; simp
theorem V3 {it:Addr} {x left step:Int} {o:Obj} {Q:Option Value→Shared→Prop} {E:Value→Shared→Prop} (hh:A.handled=none) (ho:s.heap.get? it=some o) (hc:o.cls=.type "range_iterator") (hd:o.data=.fields #[rawInt x,rawInt left,rawInt step]) (hleft:left≤0)
    (hQ:∀ h',Heap.ExtBut it s.heap h'→Q none { s with heap:=h' }):wpAny (model C.prog C.w) A (pyNext (.ref it)) Q E s:=by
  have hT:s.TypeIs (.ref it) "range_iterator" := ⟨_,ho,hc⟩
  unfold pyNext
  refine wpAny_bind (wpAny_attempt (wpAny_callSpecial?_slot (name:=Str.ofString "__next__") hT PySem.F.slot_range_iterator_next
    (wpAny_call_entry PySem.F.slot_range_iterator_next hT PySem.F.entry_range_iterator_next ?_ (PySem.F.args_range_iterator_next_1 _))))
  show wpAny _ _ (field (.ref it) 0 >>= _) _ _ s
  refine wpAny_bind (wpAny_field ho hd (x:=rawInt x) rfl ?_)
  show wpAny _ _ (field (.ref it) 1 >>= _) _ _ s
  refine wpAny_bind (wpAny_field ho hd (x:=rawInt left) rfl ?_)
  show wpAny _ _ (field (.ref it) 2 >>= _) _ _ s
  refine wpAny_bind (wpAny_field ho hd (x:=rawInt step) rfl ?_)
  show wpAny _ _ (if left≤0 then _ else _) _ _ s
  rw [if_pos hleft]
  refine wpAny_bind (wpAny_rule ?_)
  refine wpAny_bind ?_
  show wpAny _ _ (newExc (.type "StopIteration") [] >>= _) _ _ _
  refine wpAny_bind ?_
  simp only [newExc,newTuple]
  refine wpAny_bind (wpAny_newObj_type ?_ (by size_fits))
  refine wpAny_bind (m:=firstArgMember _ _) (wpAny_of_eq (a:=Value.none) (by first | rfl | (simp only [firstArgMember]; rfl)) ?_)
  refine wpAny_newObj_type ?_ (by size_fits)
  simp only [raiseNew]
  refine wpAny_bind (wpAny_handled ?_)
  first | rw [show A.in1.handled=none from hh] | rw [hh]
  refine wpAny_bind (wpAny_pure (wpAny_throw ?_))
  refine wpAny_bind (wpAny_isInstance (T := "StopIteration") (b:=true) ⟨_,Heap.get?_push_size _ rfl,rfl⟩ isSubtype_stop ?_)
  exact wpAny_pure (hQ _ (((Heap.ExtBut.refl it s.heap).push _).push _))
theorem aA6 (n:Nat) (a:Int):((List.range (n+1)).map fun (i:Nat)=>V.int (a+(i:Int)))=V.int a::((List.range n).map fun (i:Nat)=>V.int (a+1+(i:Int))):=by
  rw [List.range_succ_eq_map,List.map_cons,List.map_map]
  exact congr (congrArg List.cons (congrArg V.int (Int.add_zero a))) (List.map_congr_left fun i _=>congrArg V.int ((congrArg (a + ·) (Int.natCast_succ i)).trans ((congrArg (a + ·) (Int.add_comm _ _)).trans (Int.add_assoc a 1 _).symm)))
theorem aH9 (hh:A.handled=none) {I:Addr} (n:Nat):∀ (a:Int),Nx C A g I "range_iterator" ((List.range n).map fun (i:Nat)=>V.int (a+(i:Int))) (.fields #[rawInt a,rawInt (n:Int),rawInt 1]):=by
  induction n with
  | zero=>exact fun a s Q E ho im k=>ho.elim fun o ho=>V3 hh ho.1 ho.2.1 ho.2.2 (Int.le_refl 0) k
  | succ n ih =>
    intro a
    rw [aA6]
    exact fun s Q E ho im k=>ho.elim fun o ho=>Q8 ho.1 ho.2.1 ho.2.2 (Int.natCast_succ_pos n) fun h' o' e1 e2 e3 hs=>k h' _ _ _ hs.extBut ⟨o',e1,e2,e3⟩ (.int _ _) ((show (((n+1:Nat):Int) - 1)=(n:Int) from Int.add_sub_cancel (n:Int) 1)▸ih (a+1))
theorem bg3 {v:V} {vs:List V} (e:listAt c v=some vs) (hn:isRefV v=false):lstOf v=some vs:=by
  cases v with
  | ref n=>cases hn
  | _=>exact e
theorem aU6 (hh:A.handled=none) (r:Rel C F g loc c s.heap) {v:V} {a:Value} (hv:VR C g v a) (hn:isRefV v=false) {Q:Value→Shared→Prop} {E:Value→Shared→Prop} {vs:List V} (hi:items c v=some vs)
    (k:∀ ty d,ownedNames.contains ty=false→Nx C A g s.heap.objs.size ty vs d→({ cls:=.type ty,data:=d }:Obj).isFreed=false→Q (.ref s.heap.objs.size) { s with heap:=s.heap.push { cls:=.type ty,data:=d } }):wpAny (model C.prog C.w) A (pyIter a) Q E s :=
  D2 hi (fun e=>hv.isTup (W:=fun a=>wpAny _ A (pyIter a) Q E s) e fun p its h1 h2 _=>iter_tuple (r.tupAt h1) (k "tuple_iterator" _ (by decide) (bc0 hh h1 0 h2) rfl)) fun hi =>
  D2 hi (fun e=>hv.isLst (W:=fun a=>wpAny _ A (pyIter a) Q E s) (bg3 e hn) fun p its h1 h2 _=>wpAny_pyIter_list (r.lstAt h1) (k "list_iterator" _ (by decide) (aw1 hh h1 0 h2) rfl)) fun hi =>
  u0 hi fun l e q=>hv.isTxt (W:=fun a=>wpAny _ A (pyIter a) Q E s) e fun t h=>wpAny_pyIter_strU (k (strIterType (strOf l)) _ ((ai0 _).elim (fun q=>q▸by decide) fun q=>q▸by decide) (q▸bc1 hh (ai0 _) h 0 rfl) rfl)
end
end Mine
end
section
namespace Mine
open PySem PySem.Spec PySem.Calls PyProof.Rows
noncomputable def Fm.also (F:Fm) (p:Addr×Tri):Fm:={ F with keeps:=p::F.keeps }
noncomputable def triOf (o:Obj):Tri:=(o.cls,o.dict,o.data)
section
variable {C:Cfg} {A:Around} {F F':Fm} {CS:Calls} {x:Cx} {g g':Gh} {loc:L} {c:H} {h h':Heap} {w:List Nat} {l:Int} {e:Addr}
theorem FmOK.also (ok:FmOK C F A) (p:Addr×Tri):FmOK C (F.also p) A :=
  ⟨ok.hh,ok.fr,fun e he=>⟨(ok.frOK e he).1,(ok.frOK e he).2.imp fun _ k=>⟨k.1,k.2.imp id fun z=>z.imp fun _ z=>⟨.tail _ z.1,z.2⟩⟩⟩,ok.kind,ok.glob,ok.blt,ok.uniq⟩
theorem FnOK.also (of:FnOK F) (p:Addr×Tri):FnOK (F.also p):=⟨of.top,of.frame⟩
theorem CxOK.also (ox:CxOK C F x) (p:Addr×Tri):CxOK C (F.also p) x:=⟨ox.scope,ox.vars,ox.fns⟩
theorem M3 {p:Addr×Tri} {P:Addr→Prop} (h0:P p.1) (h:∀ a∈places F g,P a) (a:Addr) (m:a∈places (F.also p) g):P a :=
  (List.mem_cons.mp m).elim (fun q=>h a (q▸.head _)) fun m=>(List.mem_cons.mp m).elim (fun q=>q▸h0) fun m=>h a (.tail _ m)
theorem J3 {p:Addr×Tri}:(places (F.also p) g).Nodup↔(p.1::places F g).Nodup:=(List.Perm.swap _ _ _).nodup_iff
theorem H7 {p:Addr×Tri} {a:Addr} (m:a∈places F g):a∈places (F.also p) g:=(List.mem_cons.mp m).elim (fun q=>q▸.head _) fun m=>.tail _ (.tail _ m)
theorem Rel.addKeep (r:Rel C F g loc c h) {a:Addr} {o:Obj} (ho:h.get? a=some o) (off:Off C F g a):Rel C (F.also (a,triOf o)) g loc c h :=
  ⟨r.base,r.im,fun p hp=>(List.mem_cons.mp hp).elim (fun q=>q▸⟨o,ho,rfl,rfl,rfl⟩) (r.keep p),r.ns,r.clen,r.cell,M3 off.1 r.new,J3.mpr (List.nodup_cons.mpr ⟨off.2,r.apart⟩)⟩
theorem Rel.dropKeep {p:Addr×Tri} (r:Rel C (F.also p) g loc c h):Rel C F g loc c h :=
  ⟨r.base,r.im,fun q hq=>r.keep q (.tail _ hq),r.ns,r.clen,r.cell,fun a m=>r.new a (H7 m),(List.nodup_cons.mp (J3.mp r.apart)).2⟩
theorem Rel.keptAt {a:Addr} {t:Tri} (r:Rel C (F.also (a,t)) g loc c h):Off C F g a∧∃ o,h.get? a=some o∧Obj.is o t :=
  ⟨⟨r.new a (.tail _ (.head _)),(List.nodup_cons.mp (J3.mp r.apart)).1⟩,r.keep (a,t) (.head _)⟩
theorem Rel.turnKeep {a:Addr} {t:Tri} (r:Rel C (F.also (a,t)) g loc c h) (k:Heap.ExtBut a h h') {o':Obj} (ho:h'.get? a=some o'):Rel C (F.also (a,triOf o')) g loc c h' :=
  (r.dropKeep.one k r.keptAt.1).addKeep ho r.keptAt.1
theorem Rel.weakLoc {loc':L} (r:Rel C F g loc c h) (k:∀ (i:Nat) (v:V),loc'[i]?=some (some v)→loc[i]?=some (some v)):Rel C F g loc' c h :=
  { r with ns:=r.ns.imp fun m q=>⟨q.1,fun i v e=>q.2 i v (k i v e)⟩ }
theorem Rel.weak (r:Rel C F g loc c h):Rel C F g [] c h:=r.weakLoc fun i v e=>nomatch e
theorem ExcAt.to (hi:∀ a x,g.im a=some x→g'.im a=some x) (ho:∀ a,Off C F g a→Off C F' g' a) (y:ExcAt C F g w l e h):ExcAt C F' g' w l e h :=
  ⟨ho e y.off,y.obj.imp fun d O=>{ O with im:=O.im.imp fun _ q=>q.imp fun _=>hi _ _,tb:=O.tb.imp id fun q=>q.imp fun t T=>{ T with off:=ho _ T.off } }⟩
theorem ExcAt.dropKeep {p:Addr×Tri} (y:ExcAt C (F.also p) g w l e h):ExcAt C F g w l e h:=y.to (fun _ _ e=>e) fun a q=>⟨q.1,fun m=>q.2 (H7 m)⟩
noncomputable def FlOK (C:Cfg) (F:Fm) (g:Gh) (c:H) (h:Heap):Fl→Flow→Prop
  | .next loc,.next=>Rel C F g loc c h
  | .ret v,.ret a=>Rel C F g [] c h∧VR C g v a
  | _,_=>False
noncomputable def StSim (C:Cfg) (A:Around) (F:Fm) (CS:Calls) (N:Nat) (sts:List Stmt) (m:MS):Prop:=∀ {g:Gh} {loc:L} {c:H} {s:Shared},Rel C F g loc c s.heap→SimG C A F (FlOK C F) g s (execs sts F.env) (mex CS N m loc c)
noncomputable def S1Sim (C:Cfg) (A:Around) (F:Fm) (CS:Calls) (N:Nat) (st:Stmt) (m:MS):Prop:=∀ {g:Gh} {loc:L} {c:H} {s:Shared},Rel C F g loc c s.heap→SimG C A F (FlOK C F) g s (exec st F.env) (mex CS N m loc c)
variable {N:Nat} {s:Shared} {f:Flow}
theorem FlOK.isNext {loc:L} (x:FlOK C F g c h (.next loc) f):f=.next∧Rel C F g loc c h:=by
  cases f <;> first | exact ⟨rfl,x⟩ | exact x.elim
theorem FlOK.isRet {v:V} (x:FlOK C F g c h (.ret v) f):∃ a,f=.ret a∧Rel C F g [] c h∧VR C g v a:=by
  cases f <;> first | exact ⟨_,rfl,x⟩ | exact x.elim
theorem aF2:StSim C A F CS N [] .skip:=fun {g loc c s} r Q E G=>wpAny_execs_nil (G.done (h':=s.heap) (tk:=s.toks) g.le_refl r)
theorem SimG.seq {t:Sem Flow} {r₁:R Fl} {K:L→H→R Fl} {Q Q':Flow→Shared→Prop} {E E':Value→Shared→Prop} (S:SimG C A F' (FlOK C F') g s t r₁) (G:Goal C F (FlOK C F) g s (r₁.bind fun f h=>seqR f h K) Q E)
    (hE:∀ g' h' tk w l c' e,Rel C F' g' [] c' h'→ExcAt C F' g' w l e h'→(∀ h₂,Rel C F g' [] c' h₂→ExcAt C F g' w l e h₂→E (.ref e) { s with heap:=h₂,toks:=tk })→E' (.ref e) { s with heap:=h',toks:=tk })
    (hn:∀ g₁ c₁ h₁ tk loc,g.le g₁→Rel C F' g₁ loc c₁ h₁→Goal C F (FlOK C F) g₁ { s with heap:=h₁,toks:=tk } (K loc c₁) Q E→Q' .next { s with heap:=h₁,toks:=tk })
    (hr:∀ g₁ c₁ h₁ tk a,g.le g₁→Rel C F' g₁ [] c₁ h₁→(∀ h₂,Rel C F g₁ [] c₁ h₂→Q (.ret a) { s with heap:=h₂,toks:=tk })→Q' (.ret a) { s with heap:=h₁,toks:=tk }):wpAny (model C.prog C.w) A t Q' E' s :=
  S.stepE G hE fun g₁ c₁ h₁ tk fl f l x G=>by
    cases fl with
    | next loc1=>exact x.isNext.1▸hn g₁ c₁ h₁ tk loc1 l x.isNext.2 G
    | ret v=>exact x.isRet.elim fun a q=>q.1▸hr g₁ c₁ h₁ tk a l q.2.1 fun h₂ r₂=>G.done (tk:=tk) g₁.le_refl (a:=.ret a) ⟨r₂,q.2.2⟩
theorem au4 {st:Stmt} {rest:List Stmt} {m mr:MS} (h1:S1Sim C A F CS N st m) (h2:StSim C A F CS N rest mr):StSim C A F CS N (st::rest) (.seq m mr):=fun {g loc c s} r Q E G =>
  wpAny_execs_cons ((h1 r).seq G (fun _ _ _ _ _ _ _ r x q=>q _ r x) (fun _ _ _ _ _ _ r1 G=>h2 r1 _ _ G) fun _ _ _ _ _ _ r1 k=>k _ r1)
theorem A3 (ox:CxOK C F x) {n:PySem.Str} (h:isLocal x n=true):F.env.kindOf n=some .local:=(congrArg (fun sc:Scope=>sc.names.lookup n) ox.scope).trans (r8 (b7 h))
theorem v9 {M:Model} (ok:FmOK C F A) (ox:CxOK C F x) {n:PySem.Str} {i:Nat} (hl:isLocal x n=true) (hi:x.vars[i]?=some n) (r:Rel C F g loc c s.heap) {v:V} {a:Value} (hv:VR C g v a) {Q:Unit→Shared→Prop} {E:Value→Shared→Prop}
    (hq:∀ h' tk,Rel C F g (loc.set i (some v)) c h'→Q () { s with heap:=h',toks:=tk }):wpAny M A (storeName F.env n a) Q E s :=
  r.ns.elim fun m q=>wpAny_storeName_local (A3 ox hl) q.1 (fun h' hn hs=>hq h' _ (r.store q.2 (ox.vars▸hi) (A3 ox hl) ok.uniq hv hn hs)) (by rw [ok.kind]; rfl)
noncomputable def noComp:Expr→Bool | .ListComp ..=>false | .SetComp ..=>false | .DictComp ..=>false | _=>true
theorem A8 {e:Expr} (h:noComp e=true) (t:Option Expr) (l:Nat) (env:Env):swapsWith e t l env=pure false:=by
  cases e <;> first | rfl | (cases h)
theorem aG4 (ok:FmOK C F A) (ox:CxOK C F x) {n:PySem.Str} {i:Nat} {e:Expr} {m:ME} {np pos:Pos} (hl:isLocal x n=true) (hi:x.vars[i]?=some n) (hc:noComp e=true) (h:EvSim C A F CS e m):S1Sim C A F CS N (.Assign [.Name n np] e pos) (.assign i m):=fun r Q E G =>
  wpAny_Assign_Name ((h r).step G fun g1 _ _ _ _ _ _ r1 p1 G=>v9 ok ox hl hi r1 p1 fun h' tk r'=>G.done (a:=.next) g1.le_refl r') (A8 hc _ _ _)
theorem R4 {n:PySem.Str} {i:Nat} (h:isSlot x n i=true):x.vars[i]?=some n:=r8 (b7 h)
theorem s_aug (ok:FmOK C F A) (ox:CxOK C F x) {n:PySem.Str} {i:Nat} {o:BO} {e:Expr} {m:ME} {np pos:Pos} (hs:isSlot x n i=true) (hl:isLocal x n=true) (h:EvSim C A F CS e m):S1Sim C A F CS N (.AugAssign (.Name n np) .Add e pos) (.aug i o m):=fun r Q E G =>
  G.o_in.opt fun v ev G=>wpAny_AugAssign_Name (al1 ok ox hs r ev fun a p=>(h r).step G fun g1 _ _ _ _ a1 _ r1 p1 G=>G.opt fun i1 e1 G=>G.opt fun i2 e2 G =>
    p.isInt (W:=fun a=>wpAny _ A (inplaceOp .Add a a1) _ E _) e1 fun t=>p1.isInt (W:=fun a1=>wpAny _ A (inplaceOp .Add (.int i1 t) a1) _ E _) e2 fun u =>
    wpAny_iadd_int (v9 (s:=⟨_,_,_,_,_⟩) ok ox hl (R4 hs) r1 (.int _ _) fun h' tk r'=>G.done (a:=.next) g1.le_refl r'))
theorem s_if {t:Expr} {a b:List Stmt} {mt:ME} {ma mb:MS} {pos:Pos} (ht:TsSim C A F CS t mt) (ha:StSim C A F CS N a ma) (hb:StSim C A F CS N b mb):S1Sim C A F CS N (.If t a b pos) (.ite mt ma mb):=fun {_ loc _ _} r Q E G =>
  wpAny_If (ht (k:=fun t h=>if t=true then mex CS N ma loc h else mex CS N mb loc h) r G fun _ _ _ _ b l r G=>by
    cases b with
    | true=>exact ha r _ _ G
    | false=>exact hb r _ _ G)
theorem s_ret {e:Expr} {m:ME} {pos:Pos} (h:EvSim C A F CS e m):S1Sim C A F CS N (.Return (some e) pos) (.ret m):=fun r Q E G =>
  wpAny_Return_some ((h r).step G fun g1 _ h1 tk _ a _ r1 p1 G=>G.done (tk:=tk) (a:=.ret a) g1.le_refl ⟨r1.weak,p1⟩)
theorem ba8 (ok:FmOK C F A) {e:Expr} {m:ME} {pos:Pos} (hc:noComp e=true) (h:EvSim C A F CS e m):S1Sim C A F CS N (.Expr e pos) (.expr m):=fun r Q E G =>
  wpAny_Expr_any ((h r).step G fun g1 _ h1 tk _ _ _ r1 p1 G=>G.done (tk:=tk) (a:=.next) g1.le_refl r1) (by unfold interactive; rw [ok.kind]; rfl) (A8 hc _ _ _)
theorem aR0 (ok:FmOK C F A) (of:FnOK F) {t:Expr} {b:List Stmt} {mt:ME} {mb:MS} {pos:Pos} (ht:TsSim C A F CS t mt) (hb:StSim C A F CS N b mb):S1Sim C A F CS N (.While t b [] pos) (.while mt mb):=fun {g loc c s} r Q E G =>
  wpAny_While (codeAny_whileLoop (fun n s'=>∃ g loc c,Rel C F g loc c s'.heap∧Goal C F (FlOK C F) g s' (wloop (mev CS mt) (mex CS N mb) n loc c) Q E) (fun n s' I=>I.elim fun g I=>I.elim fun loc I=>I.elim fun c I=>by
    cases n with
    | zero=>exact I.2.no
    | succ n =>
      refine TsG.stepE (k:=fun t h=>if t=true then (mex CS N mb loc h).bind fun f h=>seqR f h (wloop (mev CS mt) (mex CS N mb) n) else .ok (.next loc) h) ht I.1 I.2 (fun _ _ _ _ _ _ _ r x k=>X7 (s:=⟨_,_,_,_,_⟩) ok of r x k) fun g1 c1 h1 tk b l r1 G=>?_
      cases b with
      | false=>exact wpAny_execs_nil (G.done (tk:=tk) (a:=.next) g1.le_refl r1)
      | true =>
        exact (hb r1).seq G (fun _ _ _ _ _ _ _ r x k=>X7 (s:=⟨_,_,_,_,_⟩) ok of r x k) (fun g2 c2 h2 tk2 loc' _ r2 G=>⟨n,Nat.lt_succ_self n,g2,loc',c2,r2,G⟩) fun _ _ _ _ _ _ r2 k=>k _ r2) N ⟨g,loc,c,r,G⟩)
end
end Mine
end
section
set_option genInjectivity false
namespace Mine
open PySem PySem.Spec PySem.Calls PyProof.Rows
section
variable {C:Cfg} {A:Around} {F:Fm} {CS:Calls} {x:Cx} {g:Gh} {loc:L} {c:H} {h h':Heap} {N:Nat} {s:Shared}
theorem aS5 {I:Addr} {o:Obj} {ty:String} {v:Value} {M:Model} {Q:Unit→Shared→Prop} {E:Value→Shared→Prop} (ho:s.heap.get? I=some o) (hc:o.cls=.type ty) (hb:ownedNames.contains ty=false) (hq:Q () s) :
    wpAny M A (do
      let (.ref r,.ref a):=((Value.ref I),v) | return
      let o ← load r
      match o.cls,o.data with
      | .type n,.fields vs =>
        if ["enumerate", "zip", "dict_itemiterator", "dict_reverseitemiterator", "odict_iterator", "itertools.zip_longest", "itertools.pairwise"].contains n&&vs[0]?==some (rawInt a) then
          rule "for.unpacks-the-owned-tuple"
          updateField r 0 .none
      | _,_=>pure ()) Q E s:=by
  cases v with
  | ref a =>
    refine wpAny_bind (wpAny_load ho ?_)
    rw [hc]
    cases o.data with
    | fields vs=>exact iteInduction (motive:=fun t=>wpAny M A t Q E s) (fun q=>nomatch hb.symm.trans (b7 q)) fun _=>wpAny_pure hq
    | _=>exact wpAny_pure hq
  | _=>exact wpAny_pure hq
theorem bb7 {I:Addr} {o:Obj} {ty:String} {target:Expr} {v:Value} {M:Model} {Q:Unit→Shared→Prop} {E:Value→Shared→Prop} (ho:s.heap.get? I=some o) (hc:o.cls=.type ty) (hb:ownedNames.contains ty=false) (hq:Q () s):wpAny M A (letOwnedTupleGo target (.ref I) v) Q E s:=by
  cases target <;> first | exact wpAny_pure hq | exact aS5 ho hc hb hq
noncomputable def tgtOK (x:Cx):List Expr→List Nat→Bool
  | [],[]=>true
  | e::r,i::is=>xName e fun n _=>isLocal x n&&(x.vars[i]?==some n&&tgtOK x r is)
  | _,_=>false
theorem ag4 (ok:FmOK C F A) (ox:CxOK C F x) {M:Model} {elts:List Expr}:∀ {is:List Nat} {vs:List V} {vals:List Value} {loc loc':L} {s:Shared},tgtOK x elts is=true→VRs C g vs vals→setAll is vs loc=some loc'→Rel C F g loc c s.heap →
    ∀ {Q:Unit→Shared→Prop} {E:Value→Shared→Prop},(∀ h' tk,Rel C F g loc' c h'→Q () { s with heap:=h',toks:=tk })→wpAny M A (assignInOrder ((assignEach elts F.env).map (·.2)) vals) Q E s:=by
  induction elts with
  | nil =>
    intro is vs vals loc loc' s ht hv hs r Q E hq
    cases is with
    | cons=>cases ht
    | nil=>cases vs with
      | cons=>cases hs
      | nil=>exact (show vals=[] from hv)▸wpAny_pure (hq s.heap s.toks (Option.some.inj hs▸r))
  | cons e elts ih =>
    intro is vs vals loc loc' s ht hv hs r Q E hq
    cases is with
    | nil=>cases ht
    | cons i is=>cases vs with
      | nil=>cases hs
      | cons v vs=>exact hv.elim fun a hv=>hv.elim fun vals hv=>hv.1▸k6 (P:=fun e=>wpAny M A (assignInOrder ((assignEach (e::elts) F.env).map (·.2)) (a::vals)) Q E s) ht fun n p ht=>wpAny_bind (wpAny_holding (assign_Name (v9 ok ox (b7 ht) (r8 (b7 (a8 ht))) r hv.2.1 fun h' tk r'=>ih (s:={ s with heap:=h',toks:=tk }) (a8 (a8 ht)) hv.2.2 hs r' fun h2 tk2 r2=>hq h2 tk2 r2)))
theorem au3 {env:Env} {elts:List Expr}:∀ {is:List Nat},tgtOK x elts is=true→(assignEach elts env).length=is.length∧(assignEach elts env).findIdx? (·.1)=none:=by
  induction elts with
  | nil=>exact fun {is} ht=>match is,ht with | [],_=>⟨rfl,rfl⟩
  | cons e elts ih =>
    intro is ht
    cases is with
    | nil=>cases ht
    | cons i is =>
      refine k6 (P:=fun e=>(assignEach (e::elts) env).length=(i::is).length∧(assignEach (e::elts) env).findIdx? (·.1)=none) ht fun n p ht=>?_
      have q:=ih (a8 (a8 ht))
      refine ⟨congrArg (· + 1) q.1,?_⟩
      show List.findIdx? _ ((false,assign (.Name n p) env)::assignEach elts env)=none
      rw [List.findIdx?_cons,q.2]; rfl
theorem ao4 {is:List Nat}:∀ {vs:List V} {loc loc':L},setAll is vs loc=some loc'→is.length=vs.length:=by
  induction is with
  | nil=>intro vs loc loc' h; cases vs with
    | nil=>rfl
    | cons=>cases h
  | cons i is ih=>intro vs loc loc' h; cases vs with
    | nil=>cases h
    | cons v vs=>exact congrArg (· + 1) (ih h)
theorem Rel.ext (r:Rel C F g loc c s.heap) (he:Heap.ExtBut s.heap.objs.size s.heap h'):Rel C F g loc c h':=r.one he r.fresh
theorem Z0 (ok:FmOK C F A) (ox:CxOK C F x) {elts:List Expr} {is:List Nat} {k:Nat} {pos:Pos} {v:V} {ws:List V} {a:Value} {loc':L} (ht:tgtOK x elts is=true) (hv:VR C g v a) (e:tupOf v=some ws) (hs:setAll is ws loc=some loc') (r:Rel C F g loc c s.heap)
    {Q:Unit→Shared→Prop} {E:Value→Shared→Prop} (hq:∀ h' tk,Rel C F g loc' c h'→Q () { s with heap:=h',toks:=tk }):wpAny (model C.prog C.w) A (assign (.Tuple elts k pos) F.env a) Q E s :=
  hv.isTup (W:=fun a=>wpAny (model C.prog C.w) A (assign (.Tuple elts k pos) F.env a) Q E s) e fun p its h1 h2 _ =>
    assign_Tuple_tuple ok.hh (r.tupAt h1) ((au3 ht).1.trans ((ao4 hs).trans h2.length.symm)) (au3 ht).2 fun h' he=>ag4 (s:={ s with heap:=h' }) ok ox ht h2 hs (r.ext he) hq
noncomputable def notTup:Expr→Bool | .Tuple ..=>false | _=>true
theorem ak3 {e:Expr} (h:notTup e=true) {elts:List Expr} {k:Nat} {tp:Pos} {env:Env}:swappedStores [.Tuple elts k tp] e env=pure none:=by cases e <;> first | rfl | (cases h)
theorem aG2 (ok:FmOK C F A) (ox:CxOK C F x) {elts:List Expr} {is:List Nat} {e:Expr} {m:ME} {k:Nat} {tp pos:Pos} (ht:tgtOK x elts is=true) (hc:noComp e=true) (hn:notTup e=true) (h:EvSim C A F CS e m):S1Sim C A F CS N (.Assign [.Tuple elts k tp] e pos) (.unpack is m):=fun r Q E G =>
  Assign_Tuple ((h r).step G fun g1 _ _ _ _ _ _ r1 p1 G=>G.opt fun ws e G=>G.opt fun loc' hs G=>Z0 ok ox ht p1 e hs r1 fun h' tk r'=>G.done (a:=.next) g1.le_refl r') (show swapsWithSole _ e pos.line F.env=pure false by unfold swapsWithSole; exact A8 hc _ _ _) (ak3 hn)
theorem az2 {n1 n2:PySem.Str} (hne:n1≠n2) {l:List PySem.Str} (e:l=[n1,n2]):(l.length != 2 || l.eraseDups.length != l.length)=false:=by
  subst e
  rw [List.eraseDups_cons,List.filter_cons,show (!n2==n1)=true from congrArg (!·) (beq_eq_false_iff_ne.mpr (Ne.symm hne))]
  rfl
theorem ab5 {n1 n2:PySem.Str} {e1 e2:Expr} {f:Expr→Option PySem.Str} (h1:f e1=some n1) (h2:f e2=some n2):List.filterMap f [e1,e2]=[n1,n2]:=by rw [List.filterMap_cons_some h1,List.filterMap_cons_some h2]; rfl
theorem an9 {n1 n2:PySem.Str} {p1 p2:Pos} {k k2:Nat} {tp vp:Pos} {v1 v2:Expr} {env:Env} (hbk:env.blockKind=.function) (h1:env.kindOf n1=some .local) (h2:env.kindOf n2=some .local) (hl:p2.line=p1.line) (hne:n1≠n2)
    (hs:[v1,v2].all notStar=true) (hf:[v1,v2].all (foldedForSure 8)=false) (hc:[v1,v2].all (constantsAlone 8)=false) :
    swappedStores [.Tuple [.Name n1 p1,.Name n2 p2] k tp] (.Tuple [v1,v2] k2 vp) env=pure (some [n1,n2]):=by
  have c1:(env.kindOf n1==some .local&&p1.line==p1.line)=true:=Bool.and_eq_true_iff.mpr ⟨beq_iff_eq.mpr h1,beq_self_eq_true _⟩
  have c2:(env.kindOf n2==some .local&&p2.line==p1.line)=true:=Bool.and_eq_true_iff.mpr ⟨beq_iff_eq.mpr h2,beq_iff_eq.mpr hl⟩
  refine (if_neg (fun q=>?_)).trans ((if_neg (fun q=>?_)).trans ((if_neg (fun q=>?_)).trans ((if_neg (fun q=>?_)).trans ((if_neg (fun q=>?_)).trans (congrArg (fun l=>pure (some l)) (ab5 (if_pos c1) (if_pos c2)))))))
  · exact Bool.false_ne_true ((show (env.blockKind != .function)=false by rw [hbk]; rfl).symm.trans q)
  · exact Bool.false_ne_true ((show (isStarE v1 || (isStarE v2 || false))=false by rw [v8 (b7 hs),v8 (b7 (a8 hs))]; rfl).symm.trans q)
  · exact Bool.false_ne_true ((az2 hne (ab5 (if_pos c1) (if_pos c2))).symm.trans q)
  · exact Bool.false_ne_true (hf.symm.trans q)
  · exact Bool.false_ne_true (hc.symm.trans q)
theorem aj7 (ok:FmOK C F A) (ox:CxOK C F x) {n1 n2:PySem.Str} {i j:Nat} (hl1:isLocal x n1=true) (hi1:x.vars[i]?=some n1) (hl2:isLocal x n2=true) (hi2:x.vars[j]?=some n2) {v1 v2:V} {a1 a2:Value} (r:Rel C F g loc c s.heap) (p1:VR C g v1 a1) (p2:VR C g v2 a2) {Q:Flow→Shared→Prop} {E:Value→Shared→Prop}
    (G:Goal C F (FlOK C F) g s (.ok (.next ((loc.set j (some v2)).set i (some v1))) c) Q E) :
    wpAny (model C.prog C.w) A (unpackItems (.ref s.heap.objs.size) [n1,n2].length none) (fun items s₂=>wpAny (model C.prog C.w) A (assignInOrder ([n1,n2].reverse.map fun n=>bindName F.env n) items.reverse) (fun _=>Q .next) E s₂) E { s with heap:=s.heap.push { cls:=.type "tuple",data:=.seq [a1,a2].toArray } } :=
  unpackItems_tuple (s:={ s with heap:=_ }) (items:=[a1,a2].toArray) ok.hh ⟨_,Heap.get?_push_size _ rfl,rfl,0,rfl⟩ fun h3 he =>
  have r3:=Rel.ext (s:={ s with heap:=_ }) (r.push { cls:=.type "tuple",data:=.seq [a1,a2].toArray }) he
  wpAny_bind (wpAny_holding (bindName_ (v9 (s:={ s with heap:=h3 }) ok ox hl2 hi2 r3 p2 fun h4 tk4 r4 =>
    wpAny_bind (wpAny_holding (bindName_ (v9 (s:={ s with heap:=h4,toks:=tk4 }) ok ox hl1 hi1 r4 p1 fun h5 tk5 r5=>wpAny_pure (G.done (a:=.next) g.le_refl r5)))))))
theorem ba6 (ok:FmOK C F A) (ox:CxOK C F x) {n1 n2:PySem.Str} {i j:Nat} {e1 e2:Expr} {m1 m2:ME} {k k2:Nat} {p1 p2 tp vp pos:Pos} (hl1:isLocal x n1=true) (hi1:x.vars[i]?=some n1) (hl2:isLocal x n2=true) (hi2:x.vars[j]?=some n2) (hl:p2.line=p1.line) (hne:n1≠n2)
    (hs:[e1,e2].all notStar=true) (hf:[e1,e2].all (foldedForSure 8)=false) (hc:[e1,e2].all (constantsAlone 8)=false) (h1:EvSim C A F CS e1 m1) (h2:EvSim C A F CS e2 m2) :
    S1Sim C A F CS N (.Assign [.Tuple [.Name n1 p1,.Name n2 p2] k tp] (.Tuple [e1,e2] k2 vp) pos) (.pair i j m1 m2):=fun r Q E G =>
  Assign_Tuple_swapped (wpAny_Tuple (wpAny_items_cons ((h1 r).step G fun _ _ _ _ _ a1 _ r1 p1 G=>wpAny_items_cons ((h2 r1).step G fun g2 _ hp2 t2 _ a2 l2 r2 p2 G=>wpAny_items_nil ⟨(by decide:2≤sizeLine),aj7 (s:=⟨_,_,_,_,_⟩) ok ox hl1 hi1 hl2 hi2 r2 (p1.mono l2) p2 G⟩) (f4 (b7 (a8 hs)))) (f4 (b7 hs))))
    rfl (an9 (show F.env.blockKind=.function by unfold Env.blockKind; rw [ok.kind]; rfl) (A3 ox hl1) (A3 ox hl2) hl hne hs hf hc)
noncomputable def TgtSim (C:Cfg) (A:Around) (F:Fm) (target:Expr) (tgt:V→L→Option L):Prop:=∀ p {g:Gh} {loc loc':L} {c:H} {s:Shared} {v:V} {a:Value},Rel C (F.also p) g loc c s.heap→VR C g v a→tgt v loc=some loc' →
  ∀ {Q:Unit→Shared→Prop} {E:Value→Shared→Prop},(∀ h' tk,Rel C (F.also p) g loc' c h'→Q () { s with heap:=h',toks:=tk })→wpAny (model C.prog C.w) A (assign target F.env a) Q E s
noncomputable def bodyF (CS:Calls) (N:Nat) (mb:MS) (tgt:V→L→Option L) (v:V) (loc:L) (h:H):R Fl:=ofK (tgt v loc) fun loc=>mex CS N mb loc h
structure ForI (C:Cfg) (A:Around) (F:Fm) (I:Addr) (ty:String) (body:V→L→H→R Fl) (Q:Flow→Shared→Prop) (E:Value→Shared→Prop) (g:Gh) (loc:L) (c:H) (vs:List V) (o:Obj) (n:Nat) (s:Shared):Prop where
  get:s.heap.get? I=some o
  cls:o.cls=.type ty
  nx:Nx C A g I ty vs o.data
  rel:Rel C (F.also (I,triOf o)) g loc c s.heap
  goal:Goal C F (FlOK C F) g s (floop body vs loc c) Q E
  len:n=vs.length
theorem am4 (ok:FmOK C F A) (of:FnOK F) {I:Addr} {ty:String} {target:Expr} {b:List Stmt} {mb:MS} {tgt:V→L→Option L} (hT:TgtSim C A F target tgt) (hB:∀ p,StSim C A (F.also p) CS N b mb) (hc:ownedNames.contains ty=false) {vs:List V} {o:Obj} {Q:Flow→Shared→Prop} {E:Value→Shared→Prop}
    (X:ForI C A F I ty (bodyF CS N mb tgt) Q E g loc c vs o vs.length s):codeAny (model C.prog C.w) A (.forLoop target (.ref I) b [] F.env) (fun r s'=>match r with | .ok f=>Q f s' | .error e=>cameBackBy (model C.prog C.w) A F.env E e s') s :=
  codeAny_forLoop_any (fun n s'=>∃ g loc c vs o,ForI C A F I ty (bodyF CS N mb tgt) Q E g loc c vs o n s') (fun n s' X=>X.elim fun g X=>X.elim fun loc X=>X.elim fun c X=>X.elim fun vs X=>X.elim fun o X=>by
    cases vs with
    | nil=>exact X.nx s' _ _ ⟨o,X.get,X.cls,rfl⟩ X.rel.imOK fun h' he=>wpAny_execs_nil (X.goal.done (tk:=s'.toks) (a:=.next) g.le_refl (X.rel.dropKeep.one he X.rel.keptAt.1))
    | cons v vs=>exact X.nx s' _ _ ⟨o,X.get,X.cls,rfl⟩ X.rel.imOK fun h' tk a d' he ho' hv n2=>ho'.elim fun o' ho'=>bb7 (s:={ s' with heap:=h',toks:=tk }) ho'.1 ho'.2.1 hc (Goal.o_in X.goal |>.opt fun loc2 ht G =>
        hT _ (s:={ s' with heap:=h',toks:=tk }) (X.rel.turnKeep he ho'.1) hv ht fun h3 tk3 r3=>(hB _ r3).seq (s:={ s' with heap:=h3,toks:=tk3 }) (G.move g.le_refl) (fun _ _ _ _ _ _ _ r x k=>X7 (s:=⟨_,_,_,_,_⟩) ok of r.dropKeep x.dropKeep k)
          (fun g4 c4 h4 tk4 loc4 l4 r4 G=>r4.keptAt.2.elim fun o4 q=>⟨vs.length,X.len▸Nat.lt_succ_self _,g4,loc4,c4,vs,o4,q.1,q.2.1.trans ho'.2.1,(q.2.2.2.trans ho'.2.2)▸n2.mono l4,r4.dropKeep.addKeep q.1 r4.keptAt.1,G,rfl⟩)
          fun _ _ _ _ _ _ r4 k=>k _ r4.dropKeep)) vs.length ⟨g,loc,c,vs,o,X⟩
noncomputable def notSet:Expr→Bool | .Set ..=>false | _=>true
theorem G1 {iter:Expr} (h:notSet iter=true) (env:Env) (x:Value):foldedSetIterable iter env x=pure x:=by
  cases iter <;> first | rfl | (cases h)
theorem aa5 (ok:FmOK C F A) (of:FnOK F) {target it:Expr} {b:List Stmt} {mi:ME} {mb:MS} {tgt:V→L→Option L} {pos:Pos} {ms:MS} (hset:notSet it=true) (hT:TgtSim C A F target tgt) (hB:∀ p,StSim C A (F.also p) CS N b mb) (hi:EvSim C A F CS it mi)
    (hms:∀ loc c,mex CS N ms loc c=(mev CS mi loc c).bind fun v h=>if isRefV v=true then .stuck else itemsR (items h v) fun vs=>floop (bodyF CS N mb tgt) vs loc h):S1Sim C A F CS N (.For target it b [] pos) ms:=fun {g loc c s} r Q E G =>
  wpAny_For ((hi r).step (hms loc c▸G) fun g1 c1 h1 t1 v1 _ _ r1 p1 G=>by
    cases hrf:isRefV v1 with
    | true=>rw [hrf] at G; exact G.no
    | false =>
      rw [hrf] at G
      exact Goal.opt G fun vs hit G=>aU6 (s:={ s with heap:=h1,toks:=t1 }) ok.hh r1 p1 hrf hit fun ty d hc n1 hf=>am4 (s:={ s with heap:=_,toks:=t1 }) ok of hT hB hc ⟨Heap.get?_push_size h1 hf,rfl,n1,(r1.push _).addKeep (Heap.get?_push_size h1 hf) r1.fresh,G.move g1.le_refl,rfl⟩) (G1 hset _)
theorem ah8 (ok:FmOK C F A) (ox:CxOK C F x) {n:PySem.Str} {i:Nat} {np:Pos} (hl:isLocal x n=true) (hi:x.vars[i]?=some n):TgtSim C A F (.Name n np) fun v loc=>some (loc.set i (some v)) :=
  fun p {_ _ _ _ _ _ _} r hv ht {_ _} hq=>assign_Name (v9 (F:=F.also p) (ok.also p) (ox.also p) hl hi r hv (Option.some.inj ht▸hq))
theorem s_for (ok:FmOK C F A) (of:FnOK F) (ox:CxOK C F x) {n:PySem.Str} {i:Nat} {it:Expr} {b:List Stmt} {mi:ME} {mb:MS} {np pos:Pos} (hset:notSet it=true) (hl:isLocal x n=true) (hi:x.vars[i]?=some n) (hB:∀ p,StSim C A (F.also p) CS N b mb) (h:EvSim C A F CS it mi) :
    S1Sim C A F CS N (.For (.Name n np) it b [] pos) (.for i mi mb):=aa5 ok of hset (ah8 ok ox hl hi) hB h fun _ _=>rfl
theorem ba7 (ok:FmOK C F A) (of:FnOK F) (ox:CxOK C F x) {elts:List Expr} {is:List Nat} {it:Expr} {b:List Stmt} {mi:ME} {mb:MS} {k:Nat} {np pos:Pos} (hset:notSet it=true) (ht:tgtOK x elts is=true) (hB:∀ p,StSim C A (F.also p) CS N b mb) (h:EvSim C A F CS it mi) :
    S1Sim C A F CS N (.For (.Tuple elts k np) it b [] pos) (.forT is mi mb) :=
  aa5 (tgt:=fun v loc=>(tupOf v).bind fun ws=>setAll is ws loc) ok of hset (fun p {_ _ _ _ _ _ _} r hv hs {_ _} hq=>j9 hs fun ws e hs=>Z0 (F:=F.also p) (ok.also p) (ox.also p) ht hv e hs r hq) hB h fun _ _=>rfl
end
end Mine
end
section
namespace Mine
open PySem PySem.Spec PySem.Calls PyProof.Rows
section
variable {C:Cfg} {A:Around} {F:Fm} {CS:Calls} {x:Cx} {g:Gh} {loc:L} {c:H} {h h':Heap} {N:Nat} {s:Shared}
theorem aj3 (ok:FmOK C F A) (of:FnOK F) (ox:CxOK C F x) {n:PySem.Str} {i:Nat} {b:List Stmt} {mb:MS} {np:Pos} (hl:isLocal x n=true) (hi:x.vars[i]?=some n) (hB:∀ p,StSim C A (F.also p) CS N b mb)
    {a b':Int} {t u v:Tok} (r:Rel C F g loc c s.heap) {Q:Flow→Shared→Prop} {E:Value→Shared→Prop} (hb:-1000 < a∧a < big∧b' < big∧-1000 < b')
    (G:Goal C F (FlOK C F) g s (floop (fun v loc h=>mex CS N mb (loc.set i (some v)) h) ((List.range (b' - a).toNat).map fun (i:Nat)=>V.int (a+(i:Int))) loc c) Q E) (tk:Nat) :
    wpAny (model C.prog C.w) A (pyIter (.ref s.heap.objs.size)) (fun it s₂=>codeAny (model C.prog C.w) A (.forLoop (.Name n np) it b [] F.env) (fun r s'=>match r with | .ok f=>Q f s' | .error e=>cameBackBy (model C.prog C.w) A F.env E e s') s₂) E
      { s with heap:=s.heap.push { cls:=.type "range",data:=.fields #[.int a t,.int b' u,.int 1 v] },toks:=tk }:=by
  have hbig:(big:Int)=1048576:=congrArg Int.ofNat k7
  refine wpAny_pyIter_range (IsRange.new _ _ _ _ _ _ _) (small_one (by omega) (by omega) (by omega) (by omega)) ?_
  rw [rangeSize_one,show (if a < b' then b' - a else 0)=(((b' - a).toNat:Nat):Int) by split <;> omega]
  have r2:=r.push { cls:=.type "range",data:=.fields #[.int a t,.int b' u,.int 1 v] }
  exact am4 (s:=⟨_,_,_,_,_⟩) ok of (ah8 ok ox hl hi) hB (ty := "range_iterator") (by decide) ⟨Heap.get?_push_size _ rfl,rfl,aH9 ok.hh _ a,(r2.push _).addKeep (Heap.get?_push_size _ rfl) r2.fresh,G.move g.le_refl,rfl⟩
theorem aR2 (ok:FmOK C F A) (oc:CfgX C) (of:FnOK F) (ox:CxOK C F x) {n:PySem.Str} {i:Nat} {e1 e2:Expr} {b:List Stmt} {m1 m2:ME} {mb:MS} {np rp cp pos:Pos} (hl:isLocal x n=true) (hi:x.vars[i]?=some n) (hr:isBlt x "range" (.type "range")=true) (hs:[e1,e2].all notStar=true) (hB:∀ p,StSim C A (F.also p) CS N b mb) (h1:EvSim C A F CS e1 m1) (h2:EvSim C A F CS e2 m2) :
    S1Sim C A F CS N (.For (.Name n np) (.Call (.Name "range" rp) [e1,e2] [] cp) b [] pos) (.forR i m1 m2 mb):=fun r Q E G =>
  wpAny_For (u7 (D1 ok oc ox hr r (v4 rfl (t8 hs) (s9 hs (wpAny_items_cons ((h1 r).step G fun _ _ _ _ _ a1 _ r1 p1 G=>wpAny_items_cons ((h2 r1).step G fun _ _ _ _ _ a2 l2 r2 p2 G=>wpAny_items_nil
    (G.ints2 (W2:=fun a1 a2=>wpAny _ A (call (.type "range") [a1,a2] []) _ E _) (p1.mono l2) p2 fun i t n u G=>G.oif fun hb G=>call_range_2 (aj3 (s:=⟨_,_,_,_,_⟩) ok of ox hl hi hB r2 hb G _))) (f4 (b7 (a8 hs)))) (f4 (b7 hs)))))))
    (G1 rfl _)
theorem aR3 (ok:FmOK C F A) (oc:CfgX C) (of:FnOK F) (ox:CxOK C F x) {n:PySem.Str} {i:Nat} {e2:Expr} {b:List Stmt} {m2:ME} {mb:MS} {np rp cp pos:Pos} (hl:isLocal x n=true) (hi:x.vars[i]?=some n) (hr:isBlt x "range" (.type "range")=true) (hs:[e2].all notStar=true) (hB:∀ p,StSim C A (F.also p) CS N b mb) (h2:EvSim C A F CS e2 m2) :
    S1Sim C A F CS N (.For (.Name n np) (.Call (.Name "range" rp) [e2] [] cp) b [] pos) (.forR i (.int 0) m2 mb):=fun {g loc c s} r Q E G =>
  wpAny_For (u7 (D1 ok oc ox hr r (v4 rfl (t8 hs) (s9 hs (wpAny_items_cons ((h2 r).step (k:=fun y h=>itemsR (rangeV (.int 0) y) fun vs=>floop (fun v loc h=>mex CS N mb (loc.set i (some v)) h) vs loc h) G fun _ _ _ _ _ a2 l2 r2 p2 G=>wpAny_items_nil
    (Goal.int (j:=fun n=>if -1000 < (0:Int)∧(0:Int) < big∧n < big∧-1000 < n then some ((List.range (n - 0).toNat).map fun (i:Nat)=>V.int (0+(i:Int))) else none) G (W:=fun a2=>wpAny _ A (call (.type "range") [a2] []) _ E _) p2 fun n u G=>G.oif fun hb G=>call_range_1 (aj3 (s:=⟨_,_,_,_,_⟩) ok of ox hl hi hB r2 hb G _))) (f4 (b7 hs)))))))
    (G1 rfl _)
end
end Mine
end
section
set_option genInjectivity false
namespace Mine
open PySem PySem.Spec PySem.Calls PyProof.Rows
noncomputable def relabelX (sc o:Scope):Scope:=relabel sc { scope:=o,locals:=0,globals:=0,cells:=[] }
theorem bb1 (sc:Scope) (env:Env):relabel sc env=relabelX sc env.scope:=rfl
noncomputable def closL (env:Env):List (PySem.Str×NameKind)→List (PySem.Str×Addr)→List (PySem.Str×Addr)
  | [],acc=>acc
  | p::r,acc=>closL env r (if p.2==.free then (env.cells.lookup p.1).elim acc fun a=>(p.1,a)::acc else acc)
theorem aX0 (env:Env) (f:PySem.Str×NameKind→List (PySem.Str×Addr)→Sem (ForInStep (List (PySem.Str×Addr)))) (hf:∀ p cs,f p cs=if p.2==.free then (do let a ← cellOf env p.1; pure (.yield ((p.1,a)::cs))) else pure (.yield cs)) (names:List (PySem.Str×NameKind)) :
    ∀ (acc:List (PySem.Str×Addr)),(∀ p∈names,p.2=.free→∃ a,env.cells.lookup p.1=some a)→(forIn names acc f:Sem _)=pure (closL env names acc):=by
  induction names with
  | nil=>exact fun acc _=>List.forIn_nil ..
  | cons p r ih =>
    intro acc h
    have hr:=fun acc=>ih acc fun q hq=>h q (.tail _ hq)
    rw [List.forIn_cons,hf,closL]
    cases hk:p.2==.free with
    | true =>
      refine (h p (.head _) (r8 hk)).elim fun a ha=>?_
      rw [if_pos rfl,if_pos rfl]
      unfold cellOf
      rw [ha]
      exact hr _
    | false =>
      rw [if_neg Bool.false_ne_true,if_neg Bool.false_ne_true]
      exact hr _
theorem aX1 (env:Env) (sc:Scope) (h:∀ p∈sc.names,p.2=.free→∃ a,env.cells.lookup p.1=some a):closureFor sc env=pure (closL env sc.names []) :=
  (congrArg (· >>= fun cs=>pure cs) (aX0 env _ (fun p cs=>rfl) sc.names [] h)).trans rfl
theorem aN4 (env:Env) (names:List (PySem.Str×NameKind)):∀ (acc:List (PySem.Str×Addr)),(∀ p∈acc,env.cells.lookup p.1=some p.2)→∀ p∈closL env names acc,env.cells.lookup p.1=some p.2:=by
  induction names with
  | nil=>exact fun acc h=>h
  | cons q r ih =>
    intro acc h
    refine ih _ ?_
    split
    · cases ha:env.cells.lookup q.1 with
      | none=>exact h
      | some a=>exact fun p hp=>(List.mem_cons.mp hp).elim (fun e=>e▸ha) (h p)
    · exact h
theorem aN5 (env:Env) {n:PySem.Str} {a:Addr} (ha:env.cells.lookup n=some a) (names:List (PySem.Str×NameKind)):∀ (acc:List (PySem.Str×Addr)),(n,a)∈acc∨(n,NameKind.free)∈names→(n,a)∈closL env names acc:=by
  induction names with
  | nil=>exact fun acc h=>h.elim id fun h=>nomatch h
  | cons q r ih =>
    refine fun acc h=>ih _ (h.elim (fun h=>.inl ?_) fun h=>(List.mem_cons.mp h).elim (fun e=>.inl ?_) .inr)
    · split
      · cases env.cells.lookup q.1 with
        | none=>exact h
        | some b=>exact .tail _ h
      · exact h
    · rw [← e,if_pos (show (NameKind.free==.free)=true from rfl),ha]; exact .head _
theorem Z4 {l:List (PySem.Str×Addr)} {n:PySem.Str} {a:Addr} (h:(n,a)∈l) (hu:∀ b,(n,b)∈l→b=a):l.lookup n=some a:=by
  induction l with
  | nil=>cases h
  | cons p r ih =>
    rw [List.lookup_cons]
    cases hb:n==p.1 with
    | true=>exact congrArg some (hu p.2 (r8 hb▸.head _))
    | false=>exact ih ((List.mem_cons.mp h).elim (fun e=>nomatch hb.symm.trans (beq_iff_eq.mpr (congrArg Prod.fst e))) id) fun b hb=>hu b (.tail _ hb)
theorem am8 (env:Env) {names:List (PySem.Str×NameKind)} {n:PySem.Str} {a:Addr} (ha:env.cells.lookup n=some a) (h:(n,NameKind.free)∈names):(closL env names []).lookup n=some a :=
  Z4 (aN5 env ha names [] (.inr h)) fun b hb=>Option.some.inj ((aN4 env names [] (fun p hp=>nomatch hp) _ hb).symm.trans ha)
noncomputable def capOK (x:Cx) (sc:Scope) (p:Nat×PySem.Str):Bool:=(x.vars[p.1]?==some p.2)&&((x.scope.names.lookup p.2==some .cell)&&(sc.names.contains (p.2,.free)&&((relabelX sc x.scope).names.lookup p.2==some .cell || (relabelX sc x.scope).names.lookup p.2==some .free)))
noncomputable def compOK (x:Cx) (sc:Scope) (t:PySem.Str) (caps:List Nat) (ns:List PySem.Str):Bool :=
  (sc.kind==.function)&&(sc.names.all (fun p=>p.2 != .cell&&((p.2 != .local || sc.names.lookup p.1==some .local)&&(p.2 != .free || ns.contains p.1)))&&((sc.names.lookup t==some .local)&&(!(t==("__debug__" : PySem.Str)) &&
    (decide (t::ns).Nodup&&((caps.length==ns.length)&&(caps.zip ns).all (capOK x sc))))))
structure CompIs (x:Cx) (sc:Scope) (t:PySem.Str) (caps:List Nat) (ns:List PySem.Str):Prop where
  kind:sc.kind=.function
  noCell:∀ p∈sc.names,p.2≠.cell
  loc:∀ p∈sc.names,p.2=.local→sc.names.lookup p.1=some .local
  free:∀ p∈sc.names,p.2=.free→p.1∈ns
  tl:isLocal { scope:=relabelX sc x.scope,vars:=t::ns,fns:=x.fns,noEnd:=x.noEnd } t=true
  nd:(t::ns).Nodup
  len:caps.length=ns.length
  cap:∀ (i c:Nat) (n:PySem.Str),caps[i]?=some c→ns[i]?=some n→capOK x sc (c,n)=true
theorem CompIs.of {x:Cx} {sc:Scope} {t:PySem.Str} {caps:List Nat} {ns:List PySem.Str} (h:compOK x sc t caps ns=true):CompIs x sc t caps ns :=
  have h1:=a8 h
  have h2:=a8 h1
  have h3:=a8 h2
  have h4:=a8 h3
  have h5:=a8 h4
  have n:=fun p hp=>List.all_eq_true.mp (b7 h1) p hp
  { kind:=r8 (b7 h)
    noCell:=fun p hp=>bne_iff_ne.mp (b7 (n p hp))
    loc:=fun p hp e=>(E1 (b7 (a8 (n p hp)))).elim (fun z=>absurd e (bne_iff_ne.mp z)) r8
    free:=fun p hp e=>(E1 (a8 (a8 (n p hp)))).elim (fun z=>absurd e (bne_iff_ne.mp z)) List.contains_iff_mem.mp
    tl:=Bool.and_eq_true_iff.mpr ⟨beq_iff_eq.mpr (lookup_relabel_local (r8 (b7 h2))),b7 h3⟩
    nd:=g7 (b7 h4)
    len:=r8 (b7 h5)
    cap:=fun i c n e1 e2=>List.all_eq_true.mp (a8 h5) (c,n) (List.mem_of_getElem? (i:=i) (List.getElem?_zip_eq_some.mpr ⟨e1,e2⟩)) }
noncomputable def compCx (x:Cx) (sc:Scope) (t:PySem.Str) (ns:List PySem.Str):Cx:={ scope:=relabelX sc x.scope,vars:=t::ns,fns:=x.fns,noEnd:=x.noEnd }
noncomputable def compFm (F:Fm) (sc:Scope) (t:PySem.Str) (ns:List PySem.Str) (Ca:Addr) (tl:Tri):Fm:={ env:=compEnvC sc (closL F.env sc.names []) Ca F.env,vars:=t::ns,keeps:=(F.env.locals,tl)::F.keeps,fr:=F.fr }
section
variable {C:Cfg} {A:Around} {F F':Fm} {CS:Calls} {x:Cx} {g g':Gh} {loc loc':L} {c c':H} {h h':Heap} {N:Nat} {s:Shared}
variable {sc:Scope} {t:PySem.Str} {caps:List Nat} {ns:List PySem.Str} {Ca:Addr}
theorem bf7 {caps:List Nat}:∀ {cvs:L} {i:Nat} {v:V},capVals loc caps=some cvs→cvs[i]?=some (some v)→∃ c,caps[i]?=some c∧getV loc c=some v:=by
  induction caps with
  | nil=>exact fun h e=>nomatch (show some (some _)=_ from e.symm.trans (congrArg (·[_]?) (Option.some.inj h).symm))
  | cons c r ih =>
    intro cvs i v h e
    refine j9 h fun u hu h=>u0 h fun ws hw q=>?_
    subst q
    cases i with
    | zero=>exact ⟨c,rfl,hu.trans (Option.some.inj e)⟩
    | succ i=>exact ih hw e
theorem aX2 {caps:List Nat}:∀ {cvs:L} {i c:Nat},capVals loc caps=some cvs→caps[i]?=some c→∃ v,getV loc c=some v:=by
  induction caps with
  | nil=>exact fun _ e=>nomatch e
  | cons d r ih =>
    intro cvs i c h e
    refine j9 h fun u hu h=>u0 h fun ws hw q=>?_
    cases i with
    | zero=>exact ⟨u,Option.some.inj e▸hu⟩
    | succ i=>exact ih hw e
theorem D8 {o:Obj} (hk:F'.keeps=(F.env.locals,triOf o)::F.keeps):places F' g=F'.env.locals::places F g:=by unfold places; rw [hk]; rfl
theorem Rel.enter (r:Rel C F g loc c h) {o:Obj} (ho:h.get? F.env.locals=some o) (k:∀ a o,h.get? a=some o→h'.get? a=some o) (hk:F'.keeps=(F.env.locals,triOf o)::F.keeps) (off:Off C F g F'.env.locals) (hn:∃ m,h'.Ns F'.env.locals m∧LocOK C F'.env F'.vars g loc' m):Rel C F' g loc' c h' :=
  have R:=r.keeps k
  ⟨R.base,R.im,fun p hp=>(List.mem_cons.mp (show p∈(F.env.locals,triOf o)::F.keeps from hk▸hp)).elim (fun q=>q▸⟨o,k _ _ ho,rfl,rfl,rfl⟩) (R.keep p),hn,R.clen,R.cell,fun a m=>(List.mem_cons.mp (show a∈F'.env.locals::places F g from D8 hk▸m)).elim (fun q=>q▸off.1) (r.new a),D8 hk▸List.nodup_cons.mpr ⟨off.2,r.apart⟩⟩
theorem Rel.inner {o:Obj} (hk:F'.keeps=(F.env.locals,triOf o)::F.keeps) (r:Rel C F' g loc' c' h'):Off C F g F'.env.locals:=⟨r.new _ (.head _),(List.nodup_cons.mp (D8 hk▸r.apart)).1⟩
theorem ae6 {o:Obj} {a:Addr} {m:PySem.Str→Option Value} (n:h.Ns a m) (ho:h.get? a=some o) (k:∃ o',h'.get? a=some o'∧Obj.is o' (triOf o)):h'.Ns a m :=
  n.elim fun o1 n=>n.elim fun es n=>n.elim fun ep n=>k.elim fun o2 k=>⟨o2,es,ep,k.1,(k.2.2.2.trans (congrArg Obj.data (Option.some.inj (ho.symm.trans n.1)))).trans n.2.1,n.2.2⟩
theorem Rel.leaveTo {o:Obj} (r0:Rel C F g loc c h) (ho:h.get? F.env.locals=some o) (hk:F'.keeps=(F.env.locals,triOf o)::F.keeps) (l:g.le g') (r:Rel C F' g' loc' c' h'):Rel C F g' loc c' h' :=
  ⟨r.base,r.im,fun p hp=>r.keep p (hk▸.tail _ hp),r0.ns.imp fun m q=>⟨ae6 q.1 ho (r.keep (F.env.locals,triOf o) (hk▸.head _)),q.2.mono l⟩,r.clen,r.cell,fun a m=>r.new a (D8 hk▸.tail _ m),(List.nodup_cons.mp (D8 hk▸r.apart)).2⟩
theorem Rel.enterComp (ox:CxOK C F x) (hc:CompIs x sc t caps ns) {cvs:L} (hcv:capVals loc caps=some cvs) (r:Rel C F g loc c h) {o:Obj} (ho:h.get? F.env.locals=some o) (k:∀ a o,h.get? a=some o→h'.get? a=some o)
    (off:Off C F g Ca) {m':PySem.Str→Option Value} (hn:h'.Ns Ca m'):Rel C (compFm F sc t ns Ca (triOf o)) g (none::cvs) c h' :=
  r.enter ho k rfl off ⟨m',hn,fun i v e=>by
    cases i with
    | zero=>cases e
    | succ i=>exact (bf7 hcv e).elim fun d q=>r.ns.elim fun m n=>(n.2 d v (X2 q.2)).elim fun n' w=>w.elim fun val w =>
        have hi:i < ns.length:=hc.len▸F9 q.1
        have en:=List.getElem?_eq_getElem hi
        have K:=hc.cap i d _ q.1 en
        have e':ns[i]=n':=Option.some.inj ((ox.vars▸r8 (b7 K)).symm.trans w.var)
        have hcell:F.env.kindOf n'=some .cell:=e'▸(congrArg (fun sc:Scope=>sc.names.lookup ns[i]) ox.scope).trans (r8 (b7 (a8 K)))
        ⟨n',val,(e'▸en:ns[i]?=some n'),w.rd.elim (fun z=>nomatch z.1.symm.trans hcell) fun z=>z.elim fun cl z=>z.elim fun dd z=>.inr ⟨cl,dd,(e'▸ox.scope.symm▸(E1 (a8 (a8 (a8 K)))).imp r8 r8:(relabelX sc F.env.scope).names.lookup n'=some .cell∨(relabelX sc F.env.scope).names.lookup n'=some .free),am8 F.env z.2.1 (e'▸List.contains_iff_mem.mp (b7 (a8 (a8 K)))),z.2.2⟩,w.vr⟩⟩
theorem aB7 (ok:FmOK C F A) (hc:CompIs x sc t caps ns) {o:Obj} {es:Array DictEntry} {n:Nat} (hd:o.data=.dict es n):FmOK C (compFm F sc t ns Ca (triOf o)) A :=
  ⟨ok.hh,ok.fr,fun e he=>⟨(ok.frOK e he).1,(ok.frOK e he).2.imp fun L q=>⟨q.1,.inr (q.2.elim (fun z=>z▸⟨_,.head _,rfl,es,n,hd⟩) fun z=>z.imp fun y z=>⟨.tail _ z.1,z.2⟩)⟩⟩,hc.kind,ok.glob,ok.blt,hc.nd⟩
theorem aC3 (ox:CxOK C F x) {tl:Tri}:CxOK C (compFm F sc t ns Ca tl) (compCx x sc t ns):=⟨congrArg (relabelX sc) ox.scope,rfl,ox.fns⟩
theorem Rel.swapKeep {p q:Addr×Tri} (r:Rel C ((F.also p).also q) g loc c h):Rel C ((F.also q).also p) g loc c h :=
  ⟨r.base,r.im,fun y hy=>r.keep y ((List.Perm.swap _ _ _).mem_iff.mp hy),r.ns,r.clen,r.cell,M3 (r.new _ (H7 (.tail _ (.head _)))) (M3 (r.new _ (.tail _ (.head _))) fun a m=>r.new a (H7 (H7 m))),(List.Perm.cons _ (List.Perm.append_right _ (List.Perm.swap _ _ _))).nodup_iff.mp r.apart⟩
inductive IfsSim (C:Cfg) (A:Around) (CS:Calls) (ok:Fm→Prop):List Expr→ME→Prop
  | none:IfsSim C A CS ok [] (.bool true)
  | one {e:Expr} {m:ME} (h:∀ F,ok F→TsSim C A F CS e m):IfsSim C A CS ok [e] m
end
end Mine
end
section
set_option genInjectivity false
namespace Mine
open PySem PySem.Spec PySem.Calls PyProof.Rows
section
variable {C:Cfg} {A:Around} {F F₂:Fm} {CS:Calls} {x:Cx} {g:Gh} {loc:L} {c:H} {h h':Heap} {N:Nat} {s:Shared}
variable {sc:Scope} {t:PySem.Str} {caps:List Nat} {ns:List PySem.Str} {Ca:Addr}
section
variable {α β γ δ:Type} {P:Gh→H→Heap→β→α→Prop} {Q:α→Shared→Prop} {E E':Value→Shared→Prop}
theorem Sim.okstep {P₁:Gh→δ→γ→Prop} {t:Sem γ} {r₁:R δ} {k:δ→H→R β} {Q':γ→Shared→Prop} (S:Sim C A F g loc s P₁ t r₁) (G:Goal C F₂ P g s (okR r₁ k) Q E)
    (f:∀ g₁ c₁ h₁ tk b a,g.le g₁→Rel C F g₁ loc c₁ h₁→P₁ g₁ b a→Goal C F₂ P g₁ { s with heap:=h₁,toks:=tk } (k b c₁) Q E→Q' a { s with heap:=h₁,toks:=tk }):wpAny (model C.prog C.w) A t Q' E' s :=
  S Q' E' ⟨fun q=>G.ns (congrArg (okR · k) q),fun g' h' tk b c' a q l p=>f g' c' h' tk b a l p.1 p.2 (((congrArg (okR · k) q)▸G).move l),fun _ _ _ _ _ _ _ q _ _ _=>((congrArg (okR · k) q)▸G).no⟩
theorem aS9 (r:R V) {k:Bool→H→R β} {b:Bool} {c:H} (q:(r.bind fun x h=>ofO (truth h x) h)=.ok b c):leR (okR r fun x h=>ofK (boolOf x) fun t=>k t h) (k b c):=by
  cases r with
  | ok x h =>
    cases e:boolOf x with
    | none=>exact .inl (show ofK (boolOf x) _=_ by rw [e]; rfl)
    | some t =>
      have q:ofO (truth h x) h=.ok b c:=q
      rw [ah6 e] at q
      cases q
      exact .inr (show ofK (boolOf x) _=_ by rw [e]; rfl)
  | _=>cases q
theorem aS0 (r:R V) {k:Bool→H→R β} {w:List Nat} {l:Int} {c:H} (q:(r.bind fun x h=>ofO (truth h x) h)=.pf w l c):(okR r fun x h=>ofK (boolOf x) fun t=>k t h)=.stuck:=by
  cases r with
  | ok x h =>
    have q:ofO (truth h x) h=.pf w l c:=q
    cases e:truth h x <;> rw [e] at q <;> cases q
  | _=>rfl
theorem ao0 (r:R V) {k:Bool→H→R β} (q:(r.bind fun x h=>ofO (truth h x) h)=.stuck):(okR r fun x h=>ofK (boolOf x) fun t=>k t h)=.stuck:=by
  cases r with
  | ok x h =>
    cases e:boolOf x with
    | none=>exact (show ofK (boolOf x) _=_ by rw [e]; rfl)
    | some t =>
      have q:ofO (truth h x) h=.stuck:=q
      rw [ah6 e] at q
      cases q
  | _=>rfl
theorem TsG.okstep {t:Sem Bool} {m:ME} {k:Bool→H→R β} {Q':Bool→Shared→Prop} (S:TsG C A F CS t m) (r:Rel C F g loc c s.heap) (G:Goal C F₂ P g s (okR (mev CS m loc c) fun x h=>ofK (boolOf x) fun t=>k t h) Q E)
    (f:∀ g₁ c₁ h₁ tk b,g.le g₁→Rel C F g₁ loc c₁ h₁→Goal C F₂ P g₁ { s with heap:=h₁,toks:=tk } (k b c₁) Q E→Q' b { s with heap:=h₁,toks:=tk }):wpAny (model C.prog C.w) A t Q' E' s :=
  S (P:=fun _ c' _ b (a:Bool×H)=>a=(b,c')) (k:=fun t h=>.ok t h) (Q:=fun a _=>((mev CS m loc c).bind fun x h=>ofO (truth h x) h)=.ok a.1 a.2) r
    ⟨fun q=>G.ns (ao0 _ q),fun _ _ _ _ _ _ q _ p=>p▸q,fun _ _ _ _ _ _ _ q _ _ _=>absurd (aS0 _ q) G.ns⟩
    fun g₁ c₁ h₁ tk b l r' G'=>f g₁ c₁ h₁ tk b l r' ((G.le (aS9 _ (G'.ok g₁ h₁ tk b c₁ (b,c₁) rfl g₁.le_refl rfl))).move l)
end
noncomputable def CompFms (C:Cfg) (A:Around) (x:Cx) (sc:Scope) (t:PySem.Str) (ns:List PySem.Str) (F':Fm):Prop:=FmOK C F' A∧CxOK C F' (compCx x sc t ns)
theorem aE3 {α β:Type} {P:Gh→H→Heap→β→α→Prop} {Q:α→Shared→Prop} {E E':Value→Shared→Prop} {Pf:Fm→Prop} {ifs:List Expr} {mc:ME} {k:Bool→H→R β} {Q':Bool→Shared→Prop} (hi:IfsSim C A CS Pf ifs mc) (hP:Pf F) (r:Rel C F g loc c s.heap)
    (G:Goal C F₂ P g s (okR (mev CS mc loc c) fun x h=>ofK (boolOf x) fun t=>k t h) Q E)
    (f:∀ g₁ c₁ h₁ tk b,g.le g₁→Rel C F g₁ loc c₁ h₁→Goal C F₂ P g₁ { s with heap:=h₁,toks:=tk } (k b c₁) Q E→Q' b { s with heap:=h₁,toks:=tk }) :
    wpAny (model C.prog C.w) A (forIn ifs true fun c r=>if r=true then do let ok ← isTrue c F.env (eval c F.env); pure (ForInStep.yield ok) else pure (ForInStep.yield r)) Q' E' s:=by
  cases hi with
  | none=>exact wpAny_tests_nil (f g c s.heap s.toks true g.le_refl r G)
  | one h=>exact wpAny_tests_one (TsG.okstep (h F hP) r G f)
theorem is_tri {o:Obj} {t:Tri} (h:Obj.is o t):triOf o=t:=by
  obtain ⟨a,b,d⟩:=t
  cases h.1; cases h.2.1; cases h.2.2; rfl
theorem Rel.turnIn {p q:Addr×Tri} (r:Rel C ((F.also p).also q) g loc c h) (k:Heap.ExtBut p.1 h h') {o:Obj} (ho:h'.get? p.1=some o):Rel C ((F.also (p.1,triOf o)).also q) g loc c h':=(r.swapKeep.turnKeep k ho).swapKeep
theorem Rel.noFirst {o:Option V} {cvs:L} (r:Rel C F g (o::cvs) c h):Rel C F g (none::cvs) c h:=r.weakLoc fun i u hu=>by
  cases i with
  | zero=>cases hu
  | succ i=>exact hu
noncomputable def compP (C:Cfg) (F:Fm) (cvs:L) (D:Addr) (g:Gh) (c:H) (h:Heap) (b:V) (_:Unit):Prop:=Rel C F g (none::cvs) c h∧VR C g b (.ref D)
structure CompI (C:Cfg) (A:Around) (F:Fm) (cvs:L) (I D:Addr) (elt cond:V→H→R V) (R:Result→Shared→Prop) (g:Gh) (c:H) (vs acc:List V) (its:List Value) (tD tI:Tri) (n:Nat) (s:Shared):Prop where
  rel:Rel C ((F.also (D,tD)).also (I,tI)) g (none::cvs) c s.heap
  cls:tI.1=.type "list_iterator"
  nx:Nx C A g I "list_iterator" vs tI.2.2
  clsD:tD.1=.type "list"
  dat:∃ k,tD.2.2=.seq its.toArray k
  vrs:VRs C g acc its
  len:acc.length+vs.length≤big
  goal:Goal C F (compP C F cvs D) g s (cloop elt cond vs c acc) (fun (_:Unit) s=>R (.ok .next) s) (fun _ _=>True)
  num:n=vs.length
theorem aN3 {cvs:L} {I D:Addr} {elt cond:V→H→R V} {R:Result→Shared→Prop} {acc:List V} {its:List Value} {tD tI:Tri} {n:Nat} (X:CompI C A F cvs I D elt cond R g c [] acc its tD tI n s) (he:Heap.ExtBut I s.heap h'):R (.ok .next) { s with heap:=h' } :=
  have r2:=X.rel.dropKeep.one he X.rel.keptAt.1
  r2.keptAt.2.elim fun o q=>X.dat.elim fun k hk =>
  have L:=Gh.put_le (x:=(o.cls,o.dict,o.data)) r2.keptAt.1.1.2
  X.goal.done (a:=()) L ⟨r2.dropKeep.put q.1 r2.keptAt.1,.lst ⟨o.dict,k,Gh.put_self.trans (by rw [q.2.1.trans X.clsD,q.2.2.2.trans hk])⟩ (X.vrs.mono L) X.len⟩
theorem aC4 {e1 it:Expr} {ifs:List Expr} {me mc:ME} {tp pos:Pos} (hc:CompIs x sc t caps ns) (ok:FmOK C F A) (ox:CxOK C F (compCx x sc t ns))
    (hE:∀ F',CompFms C A x sc t ns F'→EvSim C A F' CS e1 me) (hI:IfsSim C A CS (CompFms C A x sc t ns) ifs mc) {cvs:L} {I D:Addr} {vs acc:List V} {its:List Value} {tD tI:Tri} {R:Result→Shared→Prop}
    (X:CompI C A F cvs I D (fun v h=>mev CS me (some v::cvs) h) (fun v h=>mev CS mc (some v::cvs) h) R g c vs acc its tD tI vs.length s) :
    codeAny (model C.prog C.w) A (.compLoop (.ListComp e1 [⟨.Name t tp,it,ifs,0⟩] sc pos) 0 (.ref I) (.ref D) F.env) R s :=
  codeAny_compLoop_tests (fun n s=>∃ g c vs acc its tD tI,CompI C A F cvs I D (fun v h=>mev CS me (some v::cvs) h) (fun v h=>mev CS mc (some v::cvs) h) R g c vs acc its tD tI n s)
    (fun n s X=>X.elim fun g X=>X.elim fun c X=>X.elim fun vs X=>X.elim fun acc X=>X.elim fun its X=>X.elim fun tD X=>X.elim fun tI X=>by
      have at':ItAt s.heap I "list_iterator" tI.2.2:=X.rel.keptAt.2.imp fun o q=>⟨q.1,q.2.1.trans X.cls,q.2.2.2⟩
      cases vs with
      | nil=>exact X.nx s _ _ at' X.rel.imOK fun h' he=>aN3 X he
      | cons v vs=>exact X.nx s _ _ at' X.rel.imOK fun h' tk a d' he ho' hv n2=>ho'.elim fun o' ho' =>
          have P:CompFms C A x sc t ns ((F.also (D,tD)).also (I,triOf o')):=⟨(ok.also _).also _,(ox.also _).also _⟩
          PyProof.Rows.assign_Name (v9 (s:={ s with heap:=h',toks:=tk }) P.1 P.2 (i:=0) hc.tl rfl (X.rel.turnKeep he ho'.1) hv fun h3 tk3 r3 =>
            aE3 (F:=(F.also (D,tD)).also (I,triOf o')) (s:={ s with heap:=h3,toks:=tk3 }) hI P r3 (X.goal.move g.le_refl) fun g4 c4 h4 tk4 b l4 r4 G=>by
              cases b with
              | true =>
                exact (hE _ P r4).okstep (s:={ s with heap:=h4,toks:=tk4 }) G fun g5 c5 h5 tk5 y a5 l5 r5 p5 G=>r5.dropKeep.keptAt.2.elim fun o5 q5=>X.dat.elim fun k hk =>
                  wpAny_list_append (s:={ s with heap:=h5,toks:=tk5 }) ⟨o5,q5.1,q5.2.1.trans X.clsD,k,q5.2.2.2.trans hk⟩ (fun h6 hl6 hs6=>hl6.elim fun o6 q6 =>
                    ⟨vs.length,X.num▸Nat.lt_succ_self _,g5,c5,vs,acc++[y],its++[a5],triOf o6,triOf o',r5.noFirst.turnIn hs6.extBut q6.1,ho'.2.1,(show (triOf o').2.2=d' from ho'.2.2)▸(n2.mono l4).mono l5,q6.2.1,List.push_toArray its a5▸q6.2.2,
                      VRs.append (.cons p5 .nil) ((X.vrs.mono l4).mono l5),Nat.le_trans (Nat.le_of_eq (by rw [List.length_append]; exact Nat.succ_add_eq_add_succ _ _)) X.len,G.move g5.le_refl,rfl⟩)
                    (show its.length≤sizeLine from X.vrs.length▸Nat.le_trans (Nat.le_trans (Nat.le_add_right _ _) X.len) v5)
              | false=>exact ⟨vs.length,X.num▸Nat.lt_succ_self _,g4,c4,vs,acc,its,tD,triOf o',r4.noFirst,ho'.2.1,(show (triOf o').2.2=d' from ho'.2.2)▸n2.mono l4,X.clsD,X.dat,X.vrs.mono l4,Nat.le_trans (Nat.le_succ _) X.len,G,rfl⟩)) vs.length ⟨g,c,vs,acc,its,tD,tI,X⟩
theorem as4 (ox:CxOK C F x) (hc:CompIs x sc t caps ns) {cvs:L} (hcv:capVals loc caps=some cvs) (r:Rel C F g loc c h) {p:PySem.Str×NameKind} (hp:p∈sc.names) (hf:p.2=.free):∃ a,F.env.cells.lookup p.1=some a :=
  (List.getElem_of_mem (hc.free p hp hf)).elim fun i q=>q.elim fun hi q =>
  have ec:caps[i]?=some (caps[i]'(hc.len▸hi)):=List.getElem?_eq_getElem _
  (aX2 hcv ec).elim fun v hv=>r.ns.elim fun m n=>(n.2 _ v (X2 hv)).elim fun n' w=>w.elim fun val w =>
  have K:=hc.cap i _ p.1 ec ((List.getElem?_eq_getElem hi).trans (congrArg some q))
  have e':p.1=n':=Option.some.inj ((ox.vars▸r8 (b7 K)).symm.trans w.var)
  have hcell:F.env.kindOf n'=some .cell:=e'▸(congrArg (fun sc:Scope=>sc.names.lookup p.1) ox.scope).trans (r8 (b7 (a8 K)))
  w.rd.elim (fun z=>nomatch z.1.symm.trans hcell) fun z=>z.imp fun cl z=>z.elim fun _ z=>e'▸z.2.1
theorem aC5 {α β:Type} {P:Gh→H→Heap→β→α→Prop} {K:V→H→R β} {Q₀:α→Shared→Prop} (ok:FmOK C F A) (ox:CxOK C F x) {e1 it:Expr} {ifs:List Expr} {me mc:ME} {tp pos:Pos} {use:Option (Value→Sem Unit)} (hc:CompIs x sc t caps ns)
    (hE:∀ F',CompFms C A x sc t ns F'→EvSim C A F' CS e1 me) (hI:IfsSim C A CS (CompFms C A x sc t ns) ifs mc) {cvs:L} (hcv:capVals loc caps=some cvs) (r:Rel C F g loc c s.heap) {Q:Value→Shared→Prop} {E:Value→Shared→Prop} {ap:Addr} {vs:List V} {its:List Value} (ha:SeqIm g "list" ap its) (hv:VRs C g vs its) (hlen:vs.length≤big)
    (G:Goal C F P g s ((cloop (fun v h=>mev CS me (some v::cvs) h) (fun v h=>mev CS mc (some v::cvs) h) vs c []).bind K) Q₀ E)
    (hok:∀ g' c' h' tk b D Ca m,g.le g'→Rel C F g' loc c' h'→VR C g' b (.ref D)→Off C F g' Ca→h'.Ns Ca m→Goal C F P g' { s with heap:=h',toks:=tk } (K b c') Q₀ E→compPost (model C.prog C.w) A E use Q (.ref D) Ca (.ok .next) { s with heap:=h',toks:=tk }) :
    wpAny (model C.prog C.w) A (pyIter (.ref ap)) (fun it' s₂=>wpAny (model C.prog C.w) A (newList []) (fun acc s₃=>wpAny (model C.prog C.w) A (newFunctionEnv sc F.env.globals (closL F.env sc.names []) [] F.env.qual none .none (some F.env)) (fun cenv s₄ =>
      codeAny (model C.prog C.w) A (.compStart (.ListComp e1 [⟨.Name t tp,it,ifs,0⟩] sc pos) 0 it' acc { cenv with scope:=relabel sc F.env }) (compPost (model C.prog C.w) A E use Q acc cenv.locals) s₄) E s₃) E s₂) E s:=by
  refine wpAny_pyIter_list (r.lstAt ha) ?_
  generalize hoI:({ cls:=.type "list_iterator",data:=.fields #[.ref ap,.int 0 0] }:Obj)=oI
  have n1:Nx C A g s.heap.objs.size "list_iterator" vs oI.data:=hoI▸aw1 ok.hh ha 0 hv
  have hcl:oI.cls=.type "list_iterator" := hoI▸rfl
  have hfree:oI.isFreed=false:=hoI▸rfl
  have r2:=r.push oI
  refine wpAny_newObj_type ?_ (Nat.zero_le _)
  generalize hoD:({ cls:=.type "list",data:=.seq ([]:List Value).toArray }:Obj)=oD
  have r3:=r2.push oD
  refine wpAny_newFunctionEnv hc.noCell (fun y hy=>nomatch hy) (fun h4 hns4 hsb4=>?_) hc.kind
  have up4:∀ b o,((s.heap.push oI).push oD).get? b=some o→h4.get? b=some o:=fun b o e=>hsb4.extBut b o (Nat.ne_of_lt (Heap.lt_size e)) (Heap.get?_push_of_some _ e)
  have hI3:=up4 _ _ (Heap.get?_push_of_some oD (Heap.get?_push_size s.heap hfree))
  have hD3:=up4 _ _ (Heap.get?_push_size (o:=oD) (s.heap.push oI) (hoD▸rfl))
  refine (r3.there (.head _)).elim fun oL hoL=>?_
  have r4:=r3.enterComp ox hc hcv hoL up4 r3.fresh hns4
  have sz:((s.heap.push oI).push oD).objs.size=(s.heap.push oI).objs.size+1:=Heap.size_push ..
  have lI:s.heap.objs.size < (s.heap.push oI).objs.size:=Nat.lt_of_lt_of_eq (Nat.lt_succ_self _) (Heap.size_push ..).symm
  have lD:(s.heap.push oI).objs.size < ((s.heap.push oI).push oD).objs.size:=Nat.lt_of_lt_of_eq (Nat.lt_succ_self _) (Heap.size_push ..).symm
  have ne:∀ a,a < ((s.heap.push oI).push oD).objs.size→Off C F g a→Off C (compFm F sc t ns ((s.heap.push oI).push oD).objs.size (triOf oL)) g a:=fun a l off=>⟨off.1,fun m=>(List.mem_cons.mp m).elim (fun z=>Nat.ne_of_lt l z) off.2⟩
  have r6:=(r4.addKeep hD3 (ne _ lD r2.fresh)).addKeep hI3 ⟨r.fresh.1,fun m=>M3 (P:=fun a=>s.heap.objs.size≠a) (Nat.ne_of_lt lI) (fun a m z=>(ne _ (Nat.lt_trans lI lD) r.fresh).2 (z▸m)) _ m rfl⟩
  have loop:∀ tk,codeAny (model C.prog C.w) A (.compLoop (.ListComp e1 [⟨.Name t tp,it,ifs,0⟩] sc pos) 0 (.ref s.heap.objs.size) (.ref (s.heap.push oI).objs.size) (compFm F sc t ns ((s.heap.push oI).push oD).objs.size (triOf oL)).env)
      (compPost (model C.prog C.w) A E use Q (.ref (s.heap.push oI).objs.size) ((s.heap.push oI).push oD).objs.size) { s with heap:=h4,toks:=tk }:=fun tk =>
    aC4 (s:={ s with heap:=h4,toks:=tk }) hc (r3.ns.elim fun _ n=>n.1.elim fun o' n=>n.elim fun es n=>n.elim fun ep n=>aB7 ok hc ((congrArg Obj.data (Option.some.inj (hoL.symm.trans n.1))).trans n.2.1)) (aC3 ox) hE hI
      ⟨r6,hcl,n1,(hoD▸rfl:oD.cls=.type "list"),⟨0,(hoD▸rfl:oD.data=.seq ([]:List Value).toArray 0)⟩,(.nil:VRs C g [] []),Nat.le_trans (Nat.le_of_eq (Nat.zero_add _)) hlen,⟨fun q=>G.ns (congrArg (R.bind · K) q),fun g' h' tk b c' _ q l p=>p.1.ns.elim fun m n=>hok g' c' h' tk b _ _ m l (r3.leaveTo hoL rfl l p.1) p.2 (Rel.inner (F:=F) rfl p.1) n.1 (((congrArg (R.bind · K) q)▸G).move l),fun _ _ _ _ _ _ _ _ _ _ _=>trivial⟩,rfl⟩
  exact codeAny_compStart_list (loop _) (wpAny_pyIter_listiter (s:={ s with heap:=h4,toks:=_ }) (l:=ap) (i:=0) ⟨oI,hI3,hcl,hoI▸rfl⟩ (loop _))
theorem am7 {α β:Type} {P:Gh→H→Heap→β→α→Prop} {K:V→H→R β} {Q₀:α→Shared→Prop} (ok:FmOK C F A) (ox:CxOK C F x) {e1 it:Expr} {ifs:List Expr} {me mc mi:ME} {tp pos:Pos} {use:Option (Value→Sem Unit)} (hset:notSet it=true) (hc:CompIs x sc t caps ns) (hit:EvSim C A F CS it mi)
    (hE:∀ F',CompFms C A x sc t ns F'→EvSim C A F' CS e1 me) (hI:IfsSim C A CS (CompFms C A x sc t ns) ifs mc) (r:Rel C F g loc c s.heap) {Q:Value→Shared→Prop} {E:Value→Shared→Prop}
    (G:Goal C F P g s ((mev CS (.comp caps mi me mc) loc c).bind K) Q₀ E)
    (hok:∀ g' c' h' tk b D Ca m,g.le g'→Rel C F g' loc c' h'→VR C g' b (.ref D)→Off C F g' Ca→h'.Ns Ca m→Goal C F P g' { s with heap:=h',toks:=tk } (K b c') Q₀ E→compPost (model C.prog C.w) A E use Q (.ref D) Ca (.ok .next) { s with heap:=h',toks:=tk }) :
    wpAny (model C.prog C.w) A (comprehension (.ListComp e1 [⟨.Name t tp,it,ifs,0⟩] sc pos) sc F.env (firstIterPos [⟨.Name t tp,it,ifs,0⟩] pos) (newList []) false (eval it F.env) use) Q E s :=
  G.o_in.opt fun cvs hcv G=>wpAny_comprehension_free rfl (G1 hset _) (aX1 _ _ fun p hp hf=>as4 ox hc hcv r hp hf) hc.kind hc.loc
    ((hit r).step G.assoc fun g1 c1 hp1 t1 v1 a1 l1 r1 p1 G=>G.o_in.opt fun vs e G=>p1.isLst (W:=fun a=>wpAny (model C.prog C.w) A (pyIter a) _ E _) e fun ap its q1 q2 q3 =>
      aC5 (s:={ s with heap:=hp1,toks:=t1 }) ok ox hc hE hI hcv r1 q1 q2 q3 G fun g' c' h' tk b D Ca m l=>hok g' c' h' tk b D Ca m (l1.trans l))
end
end Mine
end
section
namespace Mine
open PySem PySem.Spec PySem.Calls PyProof.Rows
section
variable {C:Cfg} {A:Around} {F:Fm} {CS:Calls} {x:Cx} {g:Gh} {loc:L} {c:H} {h h':Heap} {N:Nat} {s:Shared}
variable {sc:Scope} {t:PySem.Str} {caps:List Nat} {ns:List PySem.Str} {Ca:Addr}
theorem aX4 {α:Type} (r:R α):r.bind .ok=r:=by cases r <;> rfl
theorem aW0 (ok:FmOK C F A) (ox:CxOK C F x) {e1 it:Expr} {ifs:List Expr} {me mc mi:ME} {tp pos:Pos} (hset:notSet it=true) (hc:CompIs x sc t caps ns) (hit:EvSim C A F CS it mi)
    (hE:∀ F',CompFms C A x sc t ns F'→EvSim C A F' CS e1 me) (hI:IfsSim C A CS (CompFms C A x sc t ns) ifs mc) :
    EvSim C A F CS (.ListComp e1 [⟨.Name t tp,it,ifs,0⟩] sc pos) (.comp caps mi me mc):=fun {g loc c s} r Q E G=>by
  rw [eval_ListComp]
  exact am7 (use:=none) (K:=.ok) ok ox hset hc hit hE hI r ((aX4 (mev CS (.comp caps mi me mc) loc c)).symm▸G) fun g' c' h' tk b D Ca m l r' p off hm G=>⟨m,hm,fun h2 hs=>G.done (s:=⟨_,_,_,_,_⟩) g'.le_refl ⟨r'.one hs.extBut off,p⟩⟩
theorem an8 (ok:FmOK C F A) (ox:CxOK C F x) {e1:Expr} {gs:List Comprehension} {pos np:Pos} {n:PySem.Str} {line:Nat} (hl:isLocal x n=true) (hline:np.line=pos.line) (hn:(sc.names.any fun (m,k)=>m==n&&(k==.local || k==.cell))=false) :
    swapsWith (.ListComp e1 gs sc pos) (some (.Name n np)) line F.env=pure true:=by
  show (pure (F.env.blockKind==.function&&F.env.kindOf n==some .local&&np.line==pos.line&&!(sc.names.any fun (m,k)=>m==n&&(k==.local || k==.cell))):Sem Bool)=_
  rw [show F.env.blockKind=.function by unfold Env.blockKind; rw [ok.kind]; rfl,A3 ox hl,hline,hn,beq_self_eq_true,beq_self_eq_true,beq_self_eq_true]; rfl
theorem ba9 (ok:FmOK C F A) (ox:CxOK C F x) {e1 it:Expr} {ifs:List Expr} {me mc mi:ME} {tp pos spos np:Pos} {n:PySem.Str} {i:Nat} (hset:notSet it=true) (hc:CompIs x sc t caps ns) (hit:EvSim C A F CS it mi)
    (hE:∀ F',CompFms C A x sc t ns F'→EvSim C A F' CS e1 me) (hI:IfsSim C A CS (CompFms C A x sc t ns) ifs mc) (hl:isLocal x n=true) (hi:x.vars[i]?=some n) (hline:np.line=pos.line) (hn:(sc.names.any fun (m,k)=>m==n&&(k==.local || k==.cell))=false) :
    S1Sim C A F CS N (.Assign [.Name n np] (.ListComp e1 [⟨.Name t tp,it,ifs,0⟩] sc pos) spos) (.assign i (.comp caps mi me mc)):=fun {g loc c s} r Q E G=>by
  rw [exec_Assign_Name_used _ _ _ _ (an8 ok ox hl hline hn)]
  refine wpAny_bind (wpAny_standAt (wpAny_bind ?_))
  show wpAny _ A (do let _ ← comprehension (.ListComp e1 [⟨.Name t tp,it,ifs,0⟩] sc pos) sc F.env (firstIterPos [⟨.Name t tp,it,ifs,0⟩] pos) (newList []) false (eval it F.env) (some (assign (.Name n np) F.env))) _ _ s
  exact wpAny_bind (wpAny_mono (am7 (use:=some (assign (.Name n np) F.env)) (Q:=fun _ s'=>Q .next s') ok ox hset hc hit hE hI r G fun g' c' h' tk b D Ca m l r' p off hm G=>hm.elim fun o q =>
    PyProof.Rows.assign_Name (v9 (F:=F.also (Ca,triOf o)) (s:={ s with heap:=h',toks:=tk }) (ok.also _) (ox.also _) hl hi (r'.addKeep (q.elim fun _ q=>q.elim fun _ q=>q.1) off) p fun h3 tk3 r3 =>
      ⟨m,ae6 hm (q.elim fun _ q=>q.elim fun _ q=>q.1) r3.keptAt.2,fun h4 hs=>G.done (a:=.next) g'.le_refl (r3.dropKeep.one hs.extBut r3.keptAt.1)⟩)) (fun _ s' hq=>wpAny_pure (wpAny_pure hq)) fun _ _ e=>e)
end
end Mine
end
section
set_option genInjectivity false
set_option genSizeOf false
namespace Mine
open PySem PySem.Spec PySem.Calls PyProof.Rows
theorem V7 {ps:List PySem.Str}:∀ {vals:List Value},vals.length=ps.length→∀ n∈ps,((ps.zip vals).lookup n).isNone=false:=by
  induction ps with
  | nil=>exact fun _ _ hn=>nomatch hn
  | cons p ps ih =>
    intro vals hv n hn
    cases vals with
    | nil=>cases hv
    | cons v vals =>
      rw [List.zip_cons_cons,List.lookup_cons]
      cases hb:n==p with
      | true=>rfl
      | false=>exact ih (Nat.succ.inj hv) n ((List.mem_cons.mp hn).elim (fun e=>nomatch hb.symm.trans (beq_iff_eq.mpr e)) id)
theorem aL9 {α β:Type} {f g:α→Option β} {l:List α}:(∀ x∈l,f x=g x)→l.filterMap f=l.filterMap g:=by
  induction l with
  | nil=>exact fun _=>rfl
  | cons a l ih=>exact fun h=>by rw [List.filterMap_cons,List.filterMap_cons,h a (.head _),ih fun x hx=>h x (.tail _ hx)]
theorem bd7 {ps:List PySem.Str}:∀ {vals:List Value},ps.Nodup→vals.length=ps.length→ps.filterMap (fun n=>((ps.zip vals).lookup n).map (n,·))=ps.zip vals:=by
  induction ps with
  | nil=>exact fun _ _=>rfl
  | cons p ps ih =>
    intro vals hn hv
    cases vals with
    | nil=>cases hv
    | cons v vals =>
      have e:((p,v)::ps.zip vals).lookup p=some v:=by rw [List.lookup_cons,beq_self_eq_true]
      refine (List.filterMap_cons_some (f:=fun n=>(((p,v)::ps.zip vals).lookup n).map (n,·)) (b:=(p,v)) (congrArg (Option.map (p,·)) e)).trans (congrArg _ ((aL9 (g:=fun n=>((ps.zip vals).lookup n).map (n,·)) fun n hm=>congrArg (Option.map (n,·)) ?_).trans (ih (List.nodup_cons.mp hn).2 (Nat.succ.inj hv))))
      show ((p,v)::ps.zip vals).lookup n=_
      rw [List.lookup_cons,beq_eq_false_iff_ne.mpr fun q:n=p=>(List.nodup_cons.mp hn).1 (q▸hm)]
theorem Y7 {fd:FuncData} {args:List Arg} {vals:List Value} (hp:fd.params={ posonlyargs:=[],args:=args,vararg:=none,kwonlyargs:=[],kw_defaults:=[],kwarg:=none,defaults:=[] }) (hd:fd.defaults=.none)
    (hu:(args.map (·.arg)).Nodup) (hl:vals.length=args.length):bindArgs fd ⟨vals,[]⟩=pure ((args.map (·.arg)).zip vals):=by
  have hs:notAStandIn Value.none=pure ():=rfl
  have hl':vals.length=(args.map (·.arg)).length:=by rw [List.length_map]; exact hl
  have hz:=bd7 hu hl'
  have hm:((args.map (·.arg)).take vals.length).filter (fun n=>(((args.map (·.arg)).zip vals).lookup n).isNone)=[] :=
    List.filter_eq_nil_iff.mpr fun n hn z=>nomatch z.symm.trans (V7 hl' n (List.mem_of_mem_take hn))
  unfold bindArgs
  rw [hp,hd]
  simp only [List.map_nil,List.nil_append,List.forIn_nil,pure_bind,seqItems?,List.append_nil]
  rw [List.filterMap_map] at hz
  simp [hl,hs,hz]
  intro n hn hno
  have hk:=V7 (vals:=vals) hl' n (List.mem_of_mem_take hn)
  cases q:List.lookup n ((List.map (fun x=>x.arg) args).zip vals) with
  | none=>rw [q] at hk; cases hk
  | some v=>exact absurd (PySem.mem_of_lookup q) (hno v)
section
variable (kindOf:PySem.Str→Option NameKind) {n:PySem.Str} {v:Value} {ps:List PySem.Str}
theorem as9:∀ {vals:List Value} {m:PySem.Str→Option Value},n ∉ ps→bindL kindOf (ps.zip vals) m n=m n:=by
  induction ps with
  | nil=>exact fun _=>rfl
  | cons p ps ih =>
    intro vals m h
    cases vals with
    | nil=>rfl
    | cons v vals =>
      refine (ih fun q=>h (.tail _ q)).trans ?_
      split
      · exact if_neg fun q:n=p=>h (q▸.head _)
      · rfl
theorem ac3:∀ {vals:List Value} {m:PySem.Str→Option Value} {i:Nat},ps.Nodup→ps[i]?=some n→vals[i]?=some v→kindOf n=some .local→bindL kindOf (ps.zip vals) m n=some v:=by
  induction ps with
  | nil=>exact fun _ h=>nomatch h
  | cons p ps ih =>
    intro vals m i hu h1 h2 hk
    cases vals with
    | nil=>cases h2
    | cons u vals =>
      cases i with
      | zero=>cases h1; cases h2; exact (as9 kindOf (List.nodup_cons.mp hu).1).trans (by rw [if_pos hk]; exact if_pos rfl)
      | succ i=>exact ih (i:=i) (List.nodup_cons.mp hu).2 h1 h2 hk
theorem at2:∀ {vals:List Value} {m:PySem.Str→Option Value},n ∉ ps→bindC kindOf (ps.zip vals) m n=m n:=by
  induction ps with
  | nil=>exact fun _=>rfl
  | cons p ps ih =>
    intro vals m h
    cases vals with
    | nil=>rfl
    | cons v vals =>
      refine (ih fun q=>h (.tail _ q)).trans ?_
      split
      · rfl
      · exact if_neg fun q:n=p=>h (q▸.head _)
theorem aC9:∀ {vals:List Value} {m:PySem.Str→Option Value} {i:Nat},ps.Nodup→ps[i]?=some n→vals[i]?=some v→kindOf n≠some .local→bindC kindOf (ps.zip vals) m n=some v:=by
  induction ps with
  | nil=>exact fun _ h=>nomatch h
  | cons p ps ih =>
    intro vals m i hu h1 h2 hk
    cases vals with
    | nil=>cases h2
    | cons u vals =>
      cases i with
      | zero=>cases h1; cases h2; exact (at2 kindOf (List.nodup_cons.mp hu).1).trans (by rw [if_neg hk]; exact if_pos rfl)
      | succ i=>exact ih (i:=i) (List.nodup_cons.mp hu).2 h1 h2 hk
end
theorem aC7 {n:PySem.Str} {names:List (PySem.Str×NameKind)}:∀ {k:Nat} {acc:List (PySem.Str×Addr)},((n,NameKind.cell)∈names∨∃ c,(n,c)∈acc)→∃ c,(n,c)∈cellsFrom k names acc:=by
  induction names with
  | nil=>exact fun h=>h.elim (fun h=>nomatch h) id
  | cons p r ih =>
    intro k acc h
    unfold cellsFrom
    split
    · exact ih (h.elim (fun h=>(List.mem_cons.mp h).elim (fun e=>.inr ⟨k,e▸.head _⟩) .inl) fun h=>.inr (h.imp fun _=>.tail _))
    · rename_i hk
      exact ih (h.imp_left fun h=>(List.mem_cons.mp h).elim (fun e=>absurd (e▸rfl) hk) id)
theorem Z5 {l:List (PySem.Str×Addr)} {n:PySem.Str} {c:Addr} (h:(n,c)∈l):(l.lookup n).isSome=true:=by
  induction l with
  | nil=>cases h
  | cons p r ih =>
    rw [List.lookup_cons]
    cases hb:n==p.1 with
    | true=>rfl
    | false=>exact ih ((List.mem_cons.mp h).elim (fun e=>nomatch hb.symm.trans (beq_iff_eq.mpr (congrArg Prod.fst e))) id)
theorem V5 {l:List (PySem.Str×NameKind)} {n:PySem.Str} {k:NameKind} (h:l.lookup n=some k):(n,k)∈l:=PySem.mem_of_lookup h
structure DefIs (h₀:Heap) (fd:FuncData) (args:List Arg) (body:List Stmt):Prop where
  par:fd.params={ posonlyargs:=[],args:=args,vararg:=none,kwonlyargs:=[],kw_defaults:=[],kwarg:=none,defaults:=[] }
  dft:fd.defaults=.none
  bod:fd.body=.stmts body
  glob:fd.globals=mainGlobals
  clo:fd.closure=[]
  blt:fd.builtins=builtinsNs
  code:h₀.CodeRec fd.code fd.qualname
  kind:fd.scope.kind=.function
  co:fd.scope.isCoroutine=false
  gen:fd.scope.isGenerator=false
noncomputable def RunOK (C:Cfg) (fns:List (PySem.Str×Nat)) (d:FD) (vars:List PySem.Str) (sc:Scope) (body:List Stmt):Prop:=∀ (A:Around) (F:Fm) (CS:Calls) (N k:Nat),FmOK C F A→FnOK F→CxOK C F { scope:=sc,vars:=vars,fns:=fns }→A.depth+3 * k+8 < recursionLimit→A.units+20 * k+317 < cLine →
  (∀ F A,FmOK C F A→A.depth+3 * k+6 < recursionLimit→A.units+20 * k+300 < cLine→CallsAt C A F CS)→StSim C A F CS N body d.body
structure BodyIs (C:Cfg) (fns:List (PySem.Str×Nat)) (fd:FuncData) (args:List Arg) (body:List Stmt) (d:FD) (vars:List PySem.Str):Prop where
  np:d.np=args.length
  nd:vars.Nodup
  nv:vars.length=d.nv
  ps:vars.take d.np=args.map (·.arg)
  run:RunOK C fns d vars fd.scope body
structure FnAt (C:Cfg) (fns:List (PySem.Str×Nat)) (T:Nat→Option FD) (f:Nat) (a:Addr) (o:Obj) (fd:FuncData) (args:List Arg) (body:List Stmt):Prop where
  get:C.h₀.get? a=some o
  data:o.data=.func fd
  is:DefIs C.h₀ fd args body
  nd:(args.map (·.arg)).Nodup
  names:∀ n∈args.map (·.arg),fd.scope.names.lookup n=some .local∨fd.scope.names.lookup n=some .cell
  body:∀ d,T f=some d→∃ vars,BodyIs C fns fd args body d vars
noncomputable def FnIs (C:Cfg) (fns:List (PySem.Str×Nat)) (T:Nat→Option FD) (f:Nat) (a:Addr):Prop:=∃ o fd args body,FnAt C fns T f a o fd args body
section
variable {C:Cfg} {A:Around} {F F':Fm} {CS:Calls} {g g₁:Gh} {loc:L} {c c₁:H} {h h':Heap} {N:Nat} {s:Shared}
theorem Rel.putCells (cm:PySem.Str→Option Value) {cs:List (PySem.Str×Addr)}:∀ {g:Gh},Rel C F g loc c h→(cs.Pairwise fun x y=>x.2≠y.2)→(∀ p∈cs,Off C F g p.2∧∃ o,h.get? p.2=some o∧o.data=.cell (cm p.1)) →
    ∃ g',g.le g'∧Rel C F g' loc c h∧∀ p∈cs,∃ cl d,g'.im p.2=some (cl,d,.cell (cm p.1)):=by
  induction cs with
  | nil=>exact fun {g} r _ _=>⟨g,g.le_refl,r,fun p hp=>nomatch hp⟩
  | cons q cs ih =>
    intro g r hp ho
    have P:=List.pairwise_cons.mp hp
    refine (ho q (.head _)).2.elim fun o e=>?_
    have off:=(ho q (.head _)).1
    exact (ih (r.put e.1 off) P.2 fun p hp=>⟨⟨⟨(ho p (.tail _ hp)).1.1.1,(Gh.put_ne fun z=>P.1 p hp z.symm).trans (ho p (.tail _ hp)).1.1.2⟩,(ho p (.tail _ hp)).1.2⟩,(ho p (.tail _ hp)).2⟩).imp fun g' w =>
      ⟨(Gh.put_le off.1.2).trans w.1,w.2.1,fun p hp=>(List.mem_cons.mp hp).elim (fun z=>⟨o.cls,o.dict,z▸w.1.1 _ _ (Gh.put_self.trans (congrArg (fun d=>some (o.cls,o.dict,d)) e.2))⟩) (w.2.2 p)⟩
noncomputable def Gh.froze (g₁:Gh) (n:Nat) (h:Heap):Gh:=⟨fun a=>if a∈g₁.σ.drop n then (h.get? a).map triOf else g₁.im a,g₁.σ.take n⟩
theorem VRs.frzAll {g₁ g₂:Gh} {f:V→Option V} (ih:∀ {v v':V} {val:Value},VR C g₁ v val→f v=some v'→VR C g₂ v' val) {vs:List V} :
    ∀ {vs':List V} {vals:List Value},VRs C g₁ vs vals→vs.mapM f=some vs'→VRs C g₂ vs' vals∧vs'.length=vs.length:=by
  induction vs with
  | nil=>exact fun r hf=>(show []=_ from Option.some.inj hf)▸⟨r,rfl⟩
  | cons v vs IH=>exact fun r hf=>r.elim fun x r=>r.elim fun xs r=>j9 (List.mapM_cons.symm.trans hf) fun v2 q1 hf=>j9 hf fun vs2 q2 hf=>Option.some.inj hf▸r.1 ▸
      ⟨.cons (ih r.2.1 q1) (IH r.2.2 q2).1,congrArg (· + 1) (IH r.2.2 q2).2⟩
theorem VR.frz {g₁ g₂:Gh} {n:Nat} {c₁:H} (hc:∀ (i:Nat) (vs:List V),c₁[i]?=some vs→∃ a its,CellAt C g₁ h i vs a its) (e₂:g₂=g₁.froze n h) (im:∀ a x,g₁.im a=some x→g₂.im a=some x)
    {k:Nat}:∀ {v v':V} {val:Value},VR C g₁ v val→Mine.frz c₁ n k v=some v'→VR C g₂ v' val:=by
  induction k with
  | zero=>exact fun _ hf=>nomatch hf
  | succ k ih =>
    intro v v' val hv hf
    cases v with
    | tup vs=>exact hv.elim fun p q=>q.elim fun its q=>u0 hf fun ws m e=>e▸⟨p,its,q.1,q.2.1.mono im,(VRs.frzAll ih q.2.2.1 m).1,(VRs.frzAll ih q.2.2.1 m).2▸q.2.2.2⟩
    | lst vs=>exact hv.elim fun p q=>q.elim fun its q=>u0 hf fun ws m e=>e▸⟨p,its,q.1,q.2.1.mono im,(VRs.frzAll ih q.2.2.1 m).1,(VRs.frzAll ih q.2.2.1 m).2▸q.2.2.2⟩
    | tok s1 v1 l1=>exact hv.elim fun p q=>q.elim fun x q=>q.elim fun y q=>q.elim fun z q=>j9 hf fun s2 q1 hf=>j9 hf fun v2 q2 hf=>j9 hf fun l2 q3 hf=>Option.some.inj hf ▸
        ⟨p,x,y,z,q.1,q.2.1.mono im,ih q.2.2.1 q1,ih q.2.2.2.1 q2,ih q.2.2.2.2 q3⟩
    | ref m =>
      refine hv.elim fun p q=>?_
      have hf:(if m < n then some (V.ref m) else (c₁[m]?).bind fun vs=>(vs.mapM (Mine.frz c₁ n k)).map .lst)=some v':=hf
      by_cases hm:m < n
      · rw [if_pos hm] at hf
        exact Option.some.inj hf▸⟨p,q.1,e₂▸(List.getElem?_take_of_lt hm).trans q.2⟩
      · rw [if_neg hm] at hf
        exact j9 hf fun vs e hf=>u0 hf fun ws w e'=>e'▸(hc m vs e).elim fun a z=>z.elim fun its (z:CellAt C g₁ h m vs a its)=>z.pl.elim fun j ho =>
          have ha:p=a:=Option.some.inj (q.2.symm.trans z.pos)
          have hd:a∈g₁.σ.drop n:=List.mem_of_getElem? (i:=m - n) ((List.getElem?_drop).trans ((congrArg (g₁.σ[·]?) (Nat.add_sub_cancel' (Nat.le_of_not_lt hm))).trans z.pos))
          ⟨p,its,q.1,ha▸⟨Option.none,j,(congrArg (fun g:Gh=>g.im a) e₂).trans ((if_pos hd).trans (congrArg (Option.map triOf) ho))⟩,(VRs.frzAll ih z.vrs w).1,(VRs.frzAll ih z.vrs w).2▸z.len⟩
    | _=>exact Option.some.inj hf▸hv
end
end Mine
end
section
set_option genInjectivity false
set_option genSizeOf false
namespace Mine
open PySem PySem.Spec PySem.Calls PyProof.Rows
mutual
theorem VR.low {C:Cfg} {g g₁ g₂:Gh} (hs:∀ (m:Nat) (a b:Addr),g.σ[m]?=some a→g₁.σ[m]?=some b→g₂.σ[m]?=some b) (hi:∀ a x,g₁.im a=some x→g₂.im a=some x):∀ {v:V} {val a0:Value},VR C g₁ v val→VR C g v a0→VR C g₂ v val
  | .none,_,_,h,_=>h
  | .bool b,_,_,h,_=>h
  | .int i,_,_,h,_=>h
  | .str s,_,_,h,_=>h
  | .fn f,_,_,h,_=>h
  | .tup vs,_,_,h,h0=>h.imp fun _ h=>h.imp fun _ h=>h0.elim fun _ h0=>h0.elim fun _ h0=>⟨h.1,h.2.1.mono hi,VRs.low hs hi h.2.2.1 h0.2.2.1,h.2.2.2⟩
  | .lst vs,_,_,h,h0=>h.imp fun _ h=>h.imp fun _ h=>h0.elim fun _ h0=>h0.elim fun _ h0=>⟨h.1,h.2.1.mono hi,VRs.low hs hi h.2.2.1 h0.2.2.1,h.2.2.2⟩
  | .ref n,_,_,h,h0=>h.imp fun _ h=>h0.elim fun _ h0=>⟨h.1,hs n _ _ h0.2 h.2⟩
  | .tok s v w,_,_,h,h0=>h.imp fun _ h=>h.imp fun _ h=>h.imp fun _ h=>h.imp fun _ h=>h0.elim fun _ h0=>h0.elim fun _ h0=>h0.elim fun _ h0=>h0.elim fun _ h0 =>
      ⟨h.1,h.2.1.mono hi,VR.low hs hi h.2.2.1 h0.2.2.1,VR.low hs hi h.2.2.2.1 h0.2.2.2.1,VR.low hs hi h.2.2.2.2 h0.2.2.2.2⟩
theorem VRs.low {C:Cfg} {g g₁ g₂:Gh} (hs:∀ (m:Nat) (a b:Addr),g.σ[m]?=some a→g₁.σ[m]?=some b→g₂.σ[m]?=some b) (hi:∀ a x,g₁.im a=some x→g₂.im a=some x):∀ {vs:List V} {vals a0s:List Value},VRs C g₁ vs vals→VRs C g vs a0s→VRs C g₂ vs vals
  | [],_,_,h,_=>h
  | _::_,_,_,h,h0=>h.imp fun _ h=>h.imp fun _ h=>h0.elim fun _ h0=>h0.elim fun _ h0=>⟨h.1,VR.low hs hi h.2.1 h0.2.1,VRs.low hs hi h.2.2 h0.2.2⟩
end
theorem S6 {α:Type} {l:List α} {n i:Nat} {x:α} (e:(l.take n)[i]?=some x):i < n∧l[i]?=some x:=by
  rw [List.getElem?_take] at e
  split at e
  · exact ⟨‹_›,e⟩
  · cases e
theorem aI7 {α β:Type} {f:α→Option β} {l:List α}:∀ {m:List β} {i:Nat} {y:β},l.mapM f=some m→m[i]?=some y→∃ x,l[i]?=some x∧f x=some y:=by
  induction l with
  | nil=>intro m i y h e; cases h; cases e
  | cons a l ih =>
    refine fun {m i y} h=>ae8 h fun b ys q1 q2 q=>?_
    subst q
    cases i with
    | zero=>exact fun e=>⟨a,rfl,q1.trans e⟩
    | succ i=>exact ih q2
theorem aI6 {α β:Type} {f:α→Option β} {l:List α}:∀ {m:List β},l.mapM f=some m→m.length=l.length:=by
  induction l with
  | nil=>intro m h; cases h; rfl
  | cons a l ih=>exact fun h=>ae8 h fun b ys q1 q2 q=>q▸congrArg (· + 1) (ih q2)
section
variable {C:Cfg} {A:Around} {F F':Fm} {CS:Calls} {g g₁:Gh} {loc loc₁:L} {c c₁ c₂:H} {h h₁:Heap} {N n:Nat} {s:Shared}
theorem am3 (r1:Rel C F' g₁ loc₁ c₁ h) (h₁:Heap) {a:Addr} {x:Tri} (e:g₁.im a=some x):(g₁.froze n h₁).im a=some x :=
  (if_neg fun q=>j8 (r1.new a (.tail _ (List.mem_append_right _ (List.mem_of_mem_drop q)))).2 e).trans e
theorem G0:places F g₁=places F (g₁.froze n h)++g₁.σ.drop n :=
  (congrArg (fun σ=>F.env.locals::(F.keeps.map (·.1)++σ)) (List.take_append_drop n g₁.σ).symm).trans (congrArg (F.env.locals::·) (List.append_assoc _ _ _).symm)
theorem aB6 {a:Addr} (y:Off C F g₁ a):Off C F (g₁.froze n h) a :=
  ⟨⟨y.1.1,(if_neg fun q=>y.2 (.tail _ (List.mem_append_right _ (List.mem_of_mem_drop q)))).trans y.1.2⟩,fun m=>y.2 (G0 (n:=n) (h:=h)▸List.mem_append_left _ m)⟩
theorem Rel.froze {o:Obj} (r0:Rel C F g loc c h) (ho:h.get? F.env.locals=some o) (hk:F'.keeps=(F.env.locals,triOf o)::F.keeps) (l:g.le g₁) (r1:Rel C F' g₁ loc₁ c₁ h₁) (hlen:c₂.length=c.length)
    (hc:∀ (i:Nat) (vs:List V),c₂[i]?=some vs→∃ ws,(c₁.take c.length)[i]?=some ws∧∀ its,VRs C g₁ ws its→VRs C (g₁.froze c.length h₁) vs its∧vs.length=ws.length) :
    g.le (g₁.froze c.length h₁)∧Rel C F (g₁.froze c.length h₁) loc c₂ h₁ :=
  have R:=r0.leaveTo ho hk l r1
  have tk:g₁.σ.take c.length=g.σ:=l.2.elim fun t e=>by rw [e,r0.clen,List.take_left]
  have le2:g.le (g₁.froze c.length h₁):=⟨fun a x e=>am3 r1 h₁ (l.1 a x e),[],tk.trans (List.append_nil _).symm⟩
  have nd:=List.nodup_append.mp (show (places F (g₁.froze c.length h₁)++g₁.σ.drop c.length).Nodup by rw [← G0]; exact R.apart)
  have mem:∀ a∈places F (g₁.froze c.length h₁),a∈places F g₁:=fun a ha=>by rw [G0 (n:=c.length) (h:=h₁)]; exact List.mem_append_left _ ha
  ⟨le2,R.base,fun a x e=>if hm:a∈g₁.σ.drop c.length then u0 ((if_pos hm).symm.trans e) fun o' ho' q=>⟨o',ho',q▸⟨rfl,rfl,rfl⟩⟩ else R.im a x ((if_neg hm).symm.trans e),R.keep,
    r0.ns.imp fun m q=>⟨ae6 q.1 ho (r1.keep (F.env.locals,triOf o) (hk▸.head _)),q.2.mono le2⟩,hlen.trans (r0.clen.trans (congrArg List.length tk.symm)),
    fun i vs e=>(hc i vs e).elim fun ws q=>(R.cell i ws (S6 q.1).2).imp fun a w=>w.imp fun its (w:CellAt C g₁ h₁ i ws a its)=>⟨(List.getElem?_take_of_lt (S6 q.1).1).trans w.pos,w.pl,(q.2 its w.vrs).1,(q.2 its w.vrs).2▸w.len⟩,
    fun a ha=>⟨(R.new a (mem a ha)).1,(if_neg fun q=>nd.2.2 a ha a q rfl).trans (R.new a (mem a ha)).2⟩,nd.1⟩
structure Backs (C:Cfg) (F:Fm) (g g₁:Gh) (loc:L) (h₁:Heap) (val:Value) (q:V×H) (g₂:Gh):Prop where
  le:g.le g₂
  rel:Rel C F g₂ loc q.2 h₁
  vr:VR C g₂ q.1 val
  im:∀ a x,g₁.im a=some x→g₂.im a=some x
  off:∀ a,Off C F g₁ a→Off C F g₂ a
theorem Rel.backTo {o:Obj} (r0:Rel C F g loc c h) (ho:h.get? F.env.locals=some o) (hk:F'.keeps=(F.env.locals,triOf o)::F.keeps) (l:g.le g₁) (r1:Rel C F' g₁ loc₁ c₁ h₁) {v:V} {val:Value} {q:V×H} (hv:VR C g₁ v val) (hb:backO c v c₁=some q) :
    ∃ g₂,Backs C F g g₁ loc h₁ val q g₂:=by
  have im:∀ a x,g₁.im a=some x→(g₁.froze c.length h₁).im a=some x:=fun a x=>am3 r1 h₁
  have fz:∀ {v v':V} {val:Value},VR C g₁ v val→frz c₁ c.length 9 v=some v'→VR C (g₁.froze c.length h₁) v' val:=VR.frz r1.cell rfl im
  have mk:∀ {v':V} {c₂:H},frz c₁ c.length 9 v=some v'→c₂.length=c.length→(∀ (i:Nat) (vs:List V),c₂[i]?=some vs→∃ ws,(c₁.take c.length)[i]?=some ws∧∀ its,VRs C g₁ ws its→VRs C (g₁.froze c.length h₁) vs its∧vs.length=ws.length)→∃ g₂,Backs C F g g₁ loc h₁ val (v',c₂) g₂ :=
    fun q hl hc=>⟨_,(r0.froze ho hk l r1 hl hc).1,(r0.froze ho hk l r1 hl hc).2,fz hv q,im,fun a=>aB6⟩
  have hle:c.length≤c₁.length:=l.2.elim fun t e=>by rw [r0.clen,r1.clen,e,List.length_append]; exact Nat.le_add_right _ _
  unfold backO at hb
  split at hb
  · exact Option.some.inj hb▸⟨g₁,l,r0.leaveTo ho hk l r1,hv,fun _ _ e=>e,fun _ e=>e⟩
  · split at hb
    · rename_i hs
      exact u0 hb fun v' q e=>e▸mk q rfl fun i vs e=>⟨vs,(congrArg (·[i]?) hs).trans e,fun its x=>(r0.cell i vs e).elim fun a w=>w.elim fun its0 w =>
        ⟨VRs.low (g:=g) (fun k x y p1 p2=>(List.getElem?_take_of_lt (r0.clen▸F9 p1)).trans p2) im x w.vrs,rfl⟩⟩
    · exact j9 hb fun v' q hb=>u0 hb fun c' q2 e=>e▸mk q ((aI6 q2).trans (List.length_take_of_le hle)) fun i vs e=>(aI7 q2 e).imp fun ws w=>⟨w.1,fun its x=>VRs.frzAll fz x w.2⟩
theorem aO8 {args:List V} {n:Nat} {v:V}:∀ {i:Nat},(args.map some++List.replicate n none)[i]?=some (some v)→args[i]?=some v:=by
  induction args with
  | nil=>exact fun e=>nomatch List.eq_of_mem_replicate (List.mem_of_getElem? e)
  | cons a args ih =>
    intro i e
    cases i with
    | zero=>exact Option.some.inj e
    | succ i=>exact ih e
theorem aO7 {env:Env} {D vars:List PySem.Str} {n:Nat} {m:PySem.Str→Option Value} {args:List V} {vals:List Value} (hargs:VRs C g args vals) (hn:args.length=D.length) {k:Nat} (hvt:vars.take k=D)
    (hP:∀ (i:Nat) (x:PySem.Str) (v:Value),D[i]?=some x→vals[i]?=some v→Rd env g m x v):LocOK C env vars g (args.map some++List.replicate n none) m:=fun i v e =>
  (hargs.get (aO8 e)).elim fun val w=>have hd:=List.getElem?_eq_getElem (l:=D) (hn▸F9 (aO8 e)); ⟨_,val,(S6 ((congrArg (·[i]?) hvt).trans hd)).2,hP i _ _ hd w.1,w.2⟩
theorem aq1 {h:Heap} {a:Addr} (l:h.objs.size < a):h.get? a=none:=Option.eq_none_iff_forall_ne_some.mpr fun o q=>absurd (Nat.lt_trans l (Heap.lt_size q)) (Nat.lt_irrefl _)
noncomputable def inFm (K:List (Addr×Tri)) (FR:List Env) (env:Env) (vars:List PySem.Str):Fm:={ env:=env,vars:=vars,keeps:=K,fr:=env::FR }
theorem ay4 (fd:FuncData) {n:Addr} {x:PySem.Str} (q:fd.scope.names.lookup x=some .cell):∃ cc,(cellsFrom n fd.scope.names []).lookup x=some cc :=
  (aC7 (k:=n) (acc:=[]) (.inl (V5 q))).elim fun _ h=>Option.isSome_iff_exists.mp (Z5 h)
theorem rd_of {fd:FuncData} {n a:Addr} {D:List PySem.Str} {vals:List Value} {g1:Gh} (hnd:D.Nodup) (hlk:∀ n∈D,fd.scope.names.lookup n=some .local∨fd.scope.names.lookup n=some .cell)
    (hc:∀ p∈(callEnvC fd n a).cells.filter (fun p=>(callEnvC fd n a).cells.lookup p.1==some p.2),∃ cl d,g1.im p.2=some (cl,d,.cell (bindC (callEnvC fd n a).kindOf (D.zip vals) (fun _=>none) p.1))) (i:Nat) (x:PySem.Str) (v:Value) (h1:D[i]?=some x) (h2:vals[i]?=some v) :
    Rd (callEnvC fd n a) g1 (bindL (callEnvC fd n a).kindOf (D.zip vals) fun _=>none) x v :=
  (hlk x (List.mem_of_getElem? h1)).elim (fun q=>.inl ⟨q,ac3 _ hnd h1 h2 q⟩) fun q=>(ay4 fd (n:=n+1) q).elim fun cc hcc=>(hc (x,cc) (List.mem_filter.mpr ⟨PySem.mem_of_lookup hcc,beq_iff_eq.mpr hcc⟩)).elim fun cl w=>w.elim fun dd him =>
    .inr ⟨cc,dd,.inl q,hcc,cl,him.trans (congrArg (fun o=>some (cl,dd,Data.cell o)) (aC9 _ hnd h1 h2 fun z=>nomatch z.symm.trans (show (callEnvC fd n a).kindOf x=_ from q)))⟩
theorem ay5 (oc:CfgX C) {fns:List (PySem.Str×Nat)} {T:Nat→Option FD} {f:Nat} {a:Addr} (fi:FnIs C fns T f a) {args:List V} {vals:List Value} (hargs:VRs C g args vals)
    {d:FD} (hT:T f=some d) (hlen:args.length=d.np) (base:∀ a o,C.h₀.get? a=some o→s.heap.get? a=some o) (hdep:A.depth < recursionLimit) {K:List (Addr×Tri)} {FR:List Env} (hh:A.handled=none) (hfr:A.frames=some FR)
    (hFR:∀ e∈FR,e.scope.kind≠.module∧∃ L,e.frame=some L∧∃ x∈K,x.1=L∧∃ es n,x.2.2.2=.dict es n)
    (hR:∀ env vars h₁ m,s.heap.get? env.locals=none→(∀ b o,s.heap.get? b=some o→h₁.get? b=some o)→h₁.Ns env.locals m→Rel C (inFm K FR env vars) g [] c h₁) (hO:∀ env vars cc,s.heap.get? cc=none→cc≠env.locals→Off C (inFm K FR env vars) g cc) {Q E:Value→Shared→Prop}
    (H:∀ env vars body h₁ tk g1,FmOK C (inFm K FR env vars) (A.deeper env)→FnOK (inFm K FR env vars)→g.le g1→Rel C (inFm K FR env vars) g1 (args.map some++List.replicate (d.nv - d.np) none) c h₁→RunOK C fns d vars env.scope body →
      wpAny (model C.prog C.w) (A.deeper env) (execs body env) (fun f s'=>Q (match f with | .ret v=>v | _=>.none) s')
        (fun e s'=>wpAny (model C.prog C.w) (A.deeper env) (leaving env e) (fun _ s''=>E e s'') (fun e' s''=>E e' s'') s') { s with heap:=h₁,toks:=tk }):wpAny (model C.prog C.w) A (call (.ref a) vals []) Q E s :=
  fi.elim fun o q=>q.elim fun fd q=>q.elim fun pargs q=>q.elim fun body (q:FnAt C fns T f a o fd pargs body)=>(q.body d hT).elim fun vars (B:BodyIs C fns fd pargs body d vars) =>
  have hn:args.length=(pargs.map (·.arg)).length:=(hlen.trans B.np).trans (List.length_map _).symm
  have hv:vals.length=pargs.length:=(hargs.length.trans hlen).trans B.np
  wpAny_call (codeAny_call_cells hdep (base _ _ q.get) q.data (oc.nolimit.keeps base) (q.is.code.keeps base) q.is.bod (Y7 q.is.par q.is.dft q.nd hv) q.is.clo (fun x hx=>(q.names x.1 (List.of_mem_zip (show (x.1,x.2)∈_ from hx)).1).imp id fun q=>⟨q,Option.isSome_iff_exists.mpr (ay4 fd q)⟩) (fun s₁ x=>by
    obtain ⟨h₁,tk,rfl⟩:=x.toInCall.same
    refine ((hR (callEnvC fd s.heap.objs.size a) vars h₁ _ (B3 _) x.toInCall.keep x.toInCall.ns).putCells (bindC (callEnvC fd s.heap.objs.size a).kindOf ((pargs.map (·.arg)).zip vals) fun _=>none) (cs:=(callEnvC fd s.heap.objs.size a).cells.filter fun p=>(callEnvC fd s.heap.objs.size a).cells.lookup p.1==some p.2) (x.apart.filter _) fun p hp =>
      have hp:=List.mem_filter.mp hp
      have hab:=x.above p.1 p.2 hp.1
      ⟨hO _ _ _ (aq1 hab) (fun q=>Nat.lt_irrefl _ (q▸hab:s.heap.objs.size < (callEnvC fd s.heap.objs.size a).locals)),x.cell p.1 p.2 (r8 hp.2)⟩).elim fun g1 w=>?_
    exact H (callEnvC fd s.heap.objs.size a) vars body h₁ tk g1 ⟨hh,congrArg (Option.map _) hfr,fun e he=>(List.mem_cons.mp he).elim (fun z=>by rw [z]; exact ⟨(fun y=>nomatch q.is.kind.symm.trans (show fd.scope.kind=_ from y)),_,rfl,.inl rfl⟩) fun z=>⟨(hFR e z).1,(hFR e z).2.imp fun L w=>⟨w.1,.inr w.2⟩⟩,q.is.kind,q.is.glob,q.is.blt,B.nd⟩
      ⟨⟨FR,rfl⟩,rfl⟩ w.1 { w.2.1 with ns:=⟨_,x.toInCall.ns,aO7 (hargs.mono w.1) hn B.ps (rd_of q.nd q.names w.2.2)⟩ } B.run) q.is.co q.is.gen q.is.kind)
noncomputable def retOf (fw:Flow):Value:=match fw with | .ret v=>v | _=>.none
theorem au8 {fl:Fl} {fw:Flow} {h':Heap} (y:FlOK C F' g c h' fl fw):∃ v,Rel C F' g [] c h'∧VR C g v (retOf fw)∧callR c₁ (.ok fl c)=back c₁ v c:=by
  cases fl with
  | next loc'=>exact y.isNext.1▸⟨.none,y.isNext.2.weak,.none,rfl⟩
  | ret v=>exact y.isRet.elim fun a q=>q.1▸⟨v,q.2.1,q.2.2,rfl⟩
theorem aF7 {T:Nat→Option FD} {k f:Nat} {args:List V} (hns:sem T N (k+1) f args c≠.stuck):∃ d,T f=some d∧args.length=d.np∧sem T N (k+1) f args c=callR c (mex (sem T N k) N d.body (args.map some++List.replicate (d.nv - d.np) none) c):=by
  unfold sem at hns
  cases hT:T f with
  | none=>rw [hT] at hns; exact absurd rfl hns
  | some d =>
    rw [hT] at hns
    by_cases hl:args.length=d.np
    · exact ⟨d,rfl,hl,t9 hT hl⟩
    · exact absurd (if_neg hl) hns
theorem aC8 (oc:CfgX C) {fns:List (PySem.Str×Nat)} {T:Nat→Option FD} (hfn:∀ f a,C.fnA f=some a→FnIs C fns T f a) (hglob:∀ p∈fns,∃ a,C.mg p.1=some (.ref a)∧C.fnA p.2=some a) (k:Nat)
    (ih:∀ F A,FmOK C F A→A.depth+3 * k+6 < recursionLimit→A.units+20 * k+300 < cLine→CallsAt C A F (sem T N k)) (ok:FmOK C F A) (hd:A.depth+3 * (k+1)+6 < recursionLimit) (hu:A.units+20 * (k+1)+300 < cLine):CallsAt C A F (sem T N (k+1)) :=
  fun {g loc c s f args vals a} r hargs hf Q E G=>(aF7 G.ns).elim fun d D=>r.ns.elim fun m0 n0=>n0.1.elim fun oL n0=>n0.elim fun esL n0=>n0.elim fun epL n0 =>
  have G:=D.2.2▸G
  ay5 (K:=(F.env.locals,triOf oL)::F.keeps) (FR:=F.fr) oc (hfn f a hf) hargs D.1 D.2.1 r.base (by omega) ok.hh ok.fr
    (fun e he=>⟨(ok.frOK e he).1,(ok.frOK e he).2.imp fun L q=>⟨q.1,q.2.elim (fun z=>⟨_,.head _,z.symm,esL,epL,n0.2.1⟩) fun z=>z.imp fun y z=>⟨.tail _ z.1,z.2⟩⟩⟩)
    (fun env vars h₁ m hnew keep hns=>r.enter n0.1 keep rfl (r.none_of_new hnew) ⟨m,hns,fun i v e=>nomatch e⟩)
    (fun env vars cc hnew hne=>⟨(r.none_of_new hnew).1,fun m=>(List.mem_cons.mp m).elim hne (r.none_of_new hnew).2⟩)
    fun env vars body h₁ tk g1 ok' of' l1 R3 run =>
      run (A.deeper env) (inFm ((F.env.locals,triOf oL)::F.keeps) F.fr env vars) (sem T N k) N k ok' of' ⟨rfl,rfl,hglob⟩ (show A.depth+1+3 * k+8 < _ by omega) (show A.units+3+20 * k+317 < _ by omega) ih (s:={ s with heap:=h₁,toks:=tk }) R3 _ _
        ⟨fun q=>G.ns (congrArg (callR c) q),fun g2 h2 tk2 fl c2 fw q l2 y=>(au8 (c₁:=c) y).elim fun v w=>Goal.opt (W:=Q (retOf fw) { s with heap:=h2,toks:=tk2 }) ((congrArg (callR c) q).trans w.2.2▸G) fun x hb G =>
          (Rel.backTo r n0.1 rfl (l1.trans l2) w.1 w.2.1 hb).elim fun g3 B=>G.done B.le ⟨B.rel,B.vr⟩,
        fun g2 h2 tk2 w l c2 e q l2 r2 x2=>aB9 (s:={ s with heap:=h2,toks:=tk2 }) ok' of' r2 x2 fun h3 r3 x3=>Goal.opt (W:=E (.ref e) { s with heap:=h3,toks:=tk2 }) (congrArg (callR c) q▸G) fun x hb G =>
          (Rel.backTo r n0.1 rfl (l1.trans l2) r3 .none hb).elim fun g3 B=>G.pf g3 h3 tk2 w l x.2 e rfl B.le B.rel.weak (x3.at.to B.im fun a q=>B.off a ⟨q.1,fun m=>q.2 (show a∈env.locals::places F g2 from .tail _ m)⟩)⟩
theorem aN9 (oc:CfgX C) {fns:List (PySem.Str×Nat)} {T:Nat→Option FD} (hfn:∀ f a,C.fnA f=some a→FnIs C fns T f a) (hglob:∀ p∈fns,∃ a,C.mg p.1=some (.ref a)∧C.fnA p.2=some a)
    (k:Nat):∀ (F:Fm) (A:Around),FmOK C F A→A.depth+3 * k+6 < recursionLimit→A.units+20 * k+300 < cLine→CallsAt C A F (sem T N k):=by
  induction k with
  | zero=>exact fun F A ok _ _ _ _ _ _ _ _ _ _ r hargs hf Q E G=>G.no
  | succ k ih=>exact fun F A ok hd hu=>aC8 oc hfn hglob k ih ok hd hu
end
end Mine
end
section
set_option genInjectivity false
set_option genSizeOf false
namespace Mine
open PySem PySem.Spec PySem.Calls PyProof.Rows
structure PlainAt (h₀:Heap) (a:Addr) (names globs:List PySem.Str) (body:List Stmt) (o:Obj) (fd:FuncData) (args:List Arg):Prop where
  get:h₀.get? a=some o
  cls:o.cls=.type "function"
  data:o.data=.func fd
  is:DefIs h₀ fd args body
  args:args.map (·.arg)=names
  nd:names.Nodup
  loc:∀ n∈names,fd.scope.names.lookup n=some .local
  gl:∀ n∈globs,fd.scope.names.lookup n=some .globalImplicit
noncomputable def PlainFn (h₀:Heap) (a:Addr) (names globs:List PySem.Str) (body:List Stmt):Prop:=∃ o fd args,PlainAt h₀ a names globs body o fd args
structure PlainIn (names globs:List PySem.Str) (vals:List Value) (h:Heap) (env:Env) (h₁:Heap) (m:PySem.Str→Option Value):Prop where
  kind:env.scope.kind=.function
  glob:env.globals=mainGlobals
  blt:env.builtins=builtinsNs
  frame:env.frame=some env.locals
  loc:∀ n∈names,env.kindOf n=some .local
  gl:∀ n∈globs,env.kindOf n=some .globalImplicit
  new:h.get? env.locals=none
  ns:h₁.Ns env.locals m
  val:∀ (i:Nat) (n:PySem.Str) (v:Value),names[i]?=some n→vals[i]?=some v→m n=some v
  keep:∀ b o,h.get? b=some o→h₁.get? b=some o
section
variable {prog:Program} {w:World} {A:Around} {h₀:Heap}
theorem F5 {a:Addr} {names globs:List PySem.Str} {body:List Stmt} {vals:List Value} {s:Shared} {Q:Value→Shared→Prop} {E:Value→Shared→Prop} (hf:PlainFn h₀ a names globs body) (hb:∀ b o,h₀.get? b=some o→s.heap.get? b=some o) (hlim:h₀.NoLimit)
    (hd:A.depth < recursionLimit) (hl:vals.length=names.length)
    (h:∀ env h₁ tk m,PlainIn names globs vals s.heap env h₁ m →
      wpAny (model prog w) (A.deeper env) (execs body env) (fun f s'=>Q (match f with | .ret v=>v | _=>.none) s')
        (fun e s'=>wpAny (model prog w) (A.deeper env) (leaving env e) (fun _ s''=>E e s'') (fun e' s''=>E e' s'') s') { s with heap:=h₁,toks:=tk }):wpAny (model prog w) A (call (.ref a) vals []) Q E s :=
  hf.elim fun o q=>q.elim fun fd q=>q.elim fun args (q:PlainAt h₀ a names globs body o fd args) =>
  have hv:vals.length=args.length:=hl.trans ((congrArg List.length q.args).symm.trans (List.length_map _))
  have hz:(args.map (·.arg)).zip vals=names.zip vals:=congrArg (List.zip · vals) q.args
  wpAny_call (codeAny_call_cells hd (hb _ _ q.get) q.data (hlim.keeps hb) (q.is.code.keeps hb) q.is.bod ((Y7 q.is.par q.is.dft (q.args▸q.nd) hv).trans (congrArg pure hz)) q.is.clo (fun x hx=>.inl (q.loc x.1 (List.of_mem_zip (show (x.1,x.2)∈_ from hx)).1)) (fun s₁ x=>by
    obtain ⟨h₁,tk,rfl⟩:=x.toInCall.same
    exact h (callEnvC fd s.heap.objs.size a) h₁ tk _ ⟨q.is.kind,q.is.glob,q.is.blt,rfl,q.loc,q.gl,B3 _,x.toInCall.ns,fun i n v h1 h2=>ac3 _ q.nd h1 h2 (q.loc n (List.mem_of_getElem? h1)),x.toInCall.keep⟩) q.is.co q.is.gen q.is.kind)
noncomputable def setsOwn (st:Stmt) (n:PySem.Str):Prop:=∃ p1 p2 p3 p4,st=.Assign [.Attribute (.Name "self" p1) n p2] (.Name n p3) p4
structure InstD (h:Heap) (x C dx:Addr) (mA:PySem.Str→Option Value):Prop where
  inst:h.Inst x C mA
  dict:∀ o,h.get? x=some o→o.dict=some dx
theorem ac9 {env:Env} {h:Heap} {g:Array GenState} {d:Drawn} {t:Nat} {os:OsState} {nm q:PySem.Str} {C N x dx:Addr} {bs bm:List Value} {sn:List PySem.Str} {sub:List Value} {ab:Bool} {col:Option Bool} {dd:Option Addr} {k0 k1 k2 k3 k5:Option Value} {B newId sa owner:String}
    {mN mA m:PySem.Str→Option Value} {name:PySem.Str} {v:Value} {st:Stmt} {Q:Flow→Shared→Prop} {E:Value→Shared→Prop} {ns:List PySem.Str} (SF:StoreFacts B bm sa owner) (hs:setsOwn st name)
    (hC:h.get? C=some (excClassObj nm q C N bs bm true sn sub ab col dd k0 k1 k2 k3 k5 newId)) (hn:h.Ns N mN) (hns:mN "__setattr__" = none) (hna:mN name=none)
    (hB:typeLookup (.type B) name=pure none) (hxC:x≠C) (I:InstD h x C dx mA)
    (hk:env.scope.kind=.function) (hl:h.Ns env.locals m) (k1':env.kindOf "self" = some .local) (k2':env.kindOf name=some .local) (v1:m "self" = some (.ref x)) (v2:m name=some v) (hdb:(name==("__debug__" : PySem.Str))=false) (hsz:ns.length≤sizeLine) (hw:Within mA ns)
    (hq:∀ h' tk',InstD h' x C dx (fun y=>if y=name then some v else mA y)→(∀ b o,b≠x→b≠dx→h.get? b=some o→h'.get? b=some o)→Q .next ⟨h',g,d,tk',os⟩) :
    wpAny (model prog w) A (exec st env) Q E ⟨h,g,d,t,os⟩ :=
  hs.elim fun p1 q=>q.elim fun p2 q=>q.elim fun p3 q=>q.elim fun p4 q=>q ▸
  plainObj_wpAny_Assign_Attribute (wpAny_Name (wpAny_loadName_local hk k2' hl v2 (wpAny_Name (wpAny_loadName_local hk k1' hl v1 (I.inst.elim fun o z =>
    store_attr SF hC hn hns hna hB hxC I.inst (fun h' tk' I' hk hsame=>hq h' tk' ⟨I',fun o' ho'=>(hsame o z.1).elim fun o₁ w=>Option.some.inj (w.1.symm.trans ho')▸w.2.2.2.2 dx (I.dict o z.1)⟩
      fun b ob h1 h2 h3=>hk b ob h1 (fun o₀ dx' e1 e2=>(Option.some.inj ((I.dict o₀ e1).symm.trans e2))▸h2) h3) hw hsz)) rfl)) hdb) rfl
end
structure TokInit (h₀:Heap) (fI:Addr) (s1 s2 s3:Stmt):Prop where
  fn:PlainFn h₀ fI ["self", "sort", "value", "line"] [] [s1,s2,s3]
  s1:setsOwn s1 "sort"
  s2:setsOwn s2 "value"
  s3:setsOwn s3 "line"
structure TokNs (h₀:Heap) (mN:PySem.Str→Option Value) (fI:Addr):Prop where
  getattribute:mN "__getattribute__" = none
  setattr:mN "__setattr__" = none
  sort:mN "sort" = none
  value:mN "value" = none
  line:mN "line" = none
  init:mN "__init__" = some (.ref fI)
  is:∃ s1 s2 s3,TokInit h₀ fI s1 s2 s3
structure TokIs (C:Cfg):Prop where
  cls:∃ nm q N bs sn sub col dd k0 k1 k2 k3 k5,C.h₀.get? C.tokC=some (excClassObj nm q C.tokC N bs [.type "object"] true sn sub false col dd k0 k1 k2 k3 k5 "object.__new__")∧∃ mN fI,C.h₀.Ns N mN∧TokNs C.h₀ mN fI
theorem Q1:typeLookup (.type "object") "sort" = pure none:=by rw [typeLookup_type,builtinLookup_eq_fast]; kernel_rfl
theorem M5:typeLookup (.type "object") "value" = pure none:=by rw [typeLookup_type,builtinLookup_eq_fast]; kernel_rfl
theorem Q2:typeLookup (.type "object") "line" = pure none:=by rw [typeLookup_type,builtinLookup_eq_fast]; kernel_rfl
section
variable {C:Cfg} {A:Around} {F:Fm}
theorem P0 {g:Gh} {v:V} {a:Value} (h:VR C g v a):handedOut a=pure a :=
  h.weak (P:=fun _ a=>handedOut a=pure a) rfl (fun _=>rfl) (fun _ _=>rfl) (fun _ _=>rfl) fun _ _ _=>rfl
theorem aX8 (tk:TokIs C):AttrAt C A F:=fun {g loc c s v a f} r hv Q E G=>by
  obtain ⟨nm,q,N,bs,sn,sub,col,dd,k0,k1,k2,k3,k5,hC,mN,fI,hN,T⟩:=tk.cls
  cases v with
  | tok s0 v0 l0 =>
    obtain ⟨p,x,y,z,rfl,⟨d,D⟩,r1,r2,r3⟩:=hv
    obtain ⟨o,ho,o1,o2,o3⟩:=r.im _ _ D.im
    obtain ⟨od,hod,_,_,d3⟩:=r.im _ _ D.dim
    have I:s.heap.Inst p C.tokC (nsFind d.es):=⟨o,ho,o1,fun c=>by rw [o3]; exact D.noCls c,.inr ⟨d.dx,o2,D.ne,od,d.es,d.n,hod,d3,D.keys,D.uniq,fun _=>rfl⟩⟩
    have hN:=r.ns0 hN
    obtain ⟨hp,gg,dr,t,os⟩:=s
    match f,G with
    | 0,G=>exact load_attr (r.base _ _ hC) hN T.getattribute T.sort Q1 I D.fs (P0 r1) (G.now r r1)
    | 1,G=>exact load_attr (r.base _ _ hC) hN T.getattribute T.value M5 I D.fv (P0 r2) (G.now r r2)
    | 2,G=>exact load_attr (r.base _ _ hC) hN T.getattribute T.line Q2 I D.fl (P0 r3) (G.now r r3)
    | n+3,G=>exact G.no
  | _=>exact G.no
theorem Z8 (C:Addr) (r:List Value) (kw:List (PySem.Str×Value)):(Code.builtin "type.__call__" ⟨.ref C::r,kw⟩).weight=1:=by kernel_rfl
theorem VRs.three {g:Gh} {vs:List V} {t:V} {vals:List Value} (e:tokOf vs=some t) (h:VRs C g vs vals):∃ a b c x y z,t=.tok a b c∧vals=[x,y,z]∧VR C g a x∧VR C g b y∧VR C g c z:=by
  match vs,e with
  | [a,b,c],e =>
    obtain ⟨x,_,rfl,r1,y,_,rfl,r2,z,_,rfl,r3,h⟩:=h
    cases (h:_=_)
    exact ⟨a,b,c,x,y,z,(Option.some.inj e).symm,rfl,r1,r2,r3⟩
theorem mk_at (oc:CfgOK C) (tk:TokIs C) (hd:A.depth+8 < recursionLimit):MkAt C A F:=fun {g loc c s vs vals} r hv Q E G=>by
  obtain ⟨nm,q,N,bs,sn,sub,col,dd,k0,k1,k2,k3,k5,hC,mN,fI,hN,T⟩:=tk.cls
  obtain ⟨s1,s2,s3,W⟩:=T.is
  obtain ⟨oI,fdI,agI,PI⟩:=id W.fn
  refine Goal.opt G fun tv etv G=>?_
  obtain ⟨a0,b0,c0,v1,v2,v3,rfl,rfl,r1,r2,r3⟩:=hv.three etv
  obtain ⟨hp,gg,dr,t,os⟩:=s
  have hC':=r.base _ _ hC
  have hN':hp.Ns N mN:=hN.keeps r.base
  refine wpAny_call_obj_init PySem.F.objNew hC' hN' T.init (r.base _ _ PI.get) PI.cls fun h' x dx mo=>?_
  have hb':∀ b o,C.h₀.get? b=some o→h'.get? b=some o:=fun b o e=>mo.keeps _ _ (r.base _ _ e)
  refine F5 (s:=⟨h',gg,dr,t,os⟩) W.fn hb' oc.nolimit (by show A.depth+(Code.builtin "type.__call__" ⟨[.ref C.tokC,v1,v2,v3],[]⟩).weight < _; rw [Z8]; exact Nat.lt_of_le_of_lt (Nat.add_le_add_left (by decide) _) hd) rfl fun env h₁ tk m P=>?_
  obtain ⟨ox,hox,i1,i2,i3⟩:=id mo.inst
  have dox:=mo.dict ox hox
  have oldx:∀ b o,hp.get? b=some o→b≠x∧b≠dx:=fun b o e=>⟨fun q=>j8 mo.newX (q▸e),fun q=>j8 mo.newD (q▸e)⟩
  have hxC:x≠C.tokC:=fun q=>j8 mo.newX (q▸hC')
  have nex:env.locals≠x:=fun q=>j8 P.new (q▸hox)
  have ned:env.locals≠dx:=i3.elim (fun q=>j8 q.1 dox) fun q=>q.elim fun d' q=>q.2.2.elim fun od z=>fun e=>j8 P.new ((e.trans (Option.some.inj (dox.symm.trans q.1)))▸z.elim fun es z=>z.elim fun n z=>z.1)
  have old1:∀ b o,hp.get? b=some o→h₁.get? b=some o:=fun b o e=>P.keep _ _ (mo.keeps _ _ e)
  have D0:InstD h₁ x C.tokC dx fun _=>none:=⟨⟨ox,P.keep _ _ hox,i1,i2,i3.imp id fun q=>q.imp fun _ q=>⟨q.1,q.2.1,q.2.2.keeps P.keep⟩⟩,fun o e=>Option.some.inj ((P.keep _ _ hox).symm.trans e)▸dox⟩
  have stay:∀ {hh hh':Heap},hh.Ns env.locals m→(∀ b o,b≠x→b≠dx→hh.get? b=some o→hh'.get? b=some o)→hh'.Ns env.locals m:=fun n k=>n.imp fun o n=>n.imp fun es n=>n.imp fun ep n=>⟨k _ _ nex ned n.1,n.2⟩
  refine wpAny_execs_cons (ac9 (ns:=[]) PySem.F.store_object W.s1 (old1 _ _ hC') (hN'.keeps old1) T.setattr T.sort Q1 hxC D0 P.kind P.ns (P.loc "self" (by decide)) (P.loc "sort" (by decide)) (P.val 0 _ _ rfl rfl) (P.val 1 _ _ rfl rfl) (by decide) (by decide) Within.nil fun hA tA DA kA=>?_)
  have oldA:∀ b o,hp.get? b=some o→hA.get? b=some o:=fun b o e=>kA _ _ (oldx _ _ e).1 (oldx _ _ e).2 (old1 _ _ e)
  refine wpAny_execs_cons (ac9 (ns:=["sort"]) PySem.F.store_object W.s2 (oldA _ _ hC') (hN'.keeps oldA) T.setattr T.value M5 hxC DA P.kind (stay P.ns kA) (P.loc "self" (by decide)) (P.loc "value" (by decide)) (P.val 0 _ _ rfl rfl) (P.val 2 _ _ rfl rfl) (by decide) (by decide) (Within.cons _ _ Within.nil) fun hB tB DB kB=>?_)
  have oldB:∀ b o,hp.get? b=some o→hB.get? b=some o:=fun b o e=>kB _ _ (oldx _ _ e).1 (oldx _ _ e).2 (oldA _ _ e)
  refine wpAny_execs_cons (ac9 (ns:=["value", "sort"]) PySem.F.store_object W.s3 (oldB _ _ hC') (hN'.keeps oldB) T.setattr T.line Q2 hxC DB P.kind (stay (stay P.ns kA) kB) (P.loc "self" (by decide)) (P.loc "line" (by decide)) (P.val 0 _ _ rfl rfl) (P.val 3 _ _ rfl rfl) (by decide) (by decide) (Within.cons _ _ (Within.cons _ _ Within.nil)) fun hD tD DD kD=>?_)
  have oldD:∀ b o,hp.get? b=some o→hD.get? b=some o:=fun b o e=>kD _ _ (oldx _ _ e).1 (oldx _ _ e).2 (oldB _ _ e)
  refine wpAny_execs_nil ⟨rfl,?_⟩
  obtain ⟨ox,hox,i1,i2,i3⟩:=DD.inst
  have hdx:=DD.dict _ hox
  obtain ⟨d',q,hne,od,es,n,hod,j1,j2,j3,j4⟩:=i3.resolve_left fun q=>j8 q.1 hdx
  cases Option.some.inj (hdx.symm.trans q)
  have nx:=r.none_of_new mo.newX
  have ny:=r.none_of_new mo.newD
  have L1:g.le (g.put dx (od.cls,od.dict,od.data)):=Gh.put_le ny.1.2
  have e2:(g.put dx (od.cls,od.dict,od.data)).im x=none:=(Gh.put_ne hne.symm).trans nx.1.2
  have L2:=L1.trans (Gh.put_le (x:=(ox.cls,ox.dict,ox.data)) e2)
  have R2:=((r.keeps oldD).put hod ny).put (a:=x) hox ⟨⟨nx.1.1,e2⟩,nx.2⟩
  refine G.done (tk:=tD) L2 ⟨R2,x,v1,v2,v3,rfl,⟨⟨dx,es,n,od.cls,od.dict,ox.data⟩,Gh.put_self.trans (by rw [i1,hdx]),((Gh.put_ne hne).trans Gh.put_self).trans (by rw [j1]),hne,i2,j2,j3,?_,?_,?_⟩,r1.mono L2,r2.mono L2,r3.mono L2⟩ <;> exact (j4 _).trans rfl
end
end Mine
end
section
set_option maxRecDepth 100000
namespace Mine
open PySem PySem.Spec PySem.Calls PyProof.Rows
noncomputable def bmE:List Value:=[.type "Exception",.type "BaseException",.type "object"]
noncomputable def pfBm (P:Addr):List Value:=.ref P::bmE
theorem aL0 (P:Addr):(pfBm P).contains (.type "Exception")=true:=by unfold pfBm; rw [List.contains_cons,show bmE.contains (Value.type "Exception")=true by decide,Bool.or_true]
theorem ar8 (P:Addr):(pfBm P).contains (.type "BaseException")=true:=by unfold pfBm; rw [List.contains_cons,show bmE.contains (Value.type "BaseException")=true by decide,Bool.or_true]
theorem no_AE (P:Addr):(pfBm P).contains (.type "AttributeError")=false:=by unfold pfBm; rw [List.contains_cons,show bmE.contains (Value.type "AttributeError")=false by decide]; rfl
theorem no_NE (P:Addr):(pfBm P).contains (.type "NameError")=false:=by unfold pfBm; rw [List.contains_cons,show bmE.contains (Value.type "NameError")=false by decide]; rfl
section
variable {prog:Program} {w:World} {A:Around} {E:Value→Shared→Prop} {R:Result→Shared→Prop} {h:Heap} {g:Array GenState} {d:Drawn} {t:Nat} {os:OsState}
variable {nm q:PySem.Str} {C N P:Addr} {bs:List Value} {hdct:Bool} {sn:List PySem.Str} {sub:List Value} {ab:Bool} {col:Option Bool} {dd:Option Addr} {k0 k1 k2 k3 k5:Option Value}
theorem ae2 {M:Model} {rest:List Value} {Q:Unit→Shared→Prop} (hC:h.get? C=some (excClassObj nm q C N bs (pfBm P) hdct sn sub ab col dd k0 k1 k2 k3 k5 "Exception.__new__"))
    (hq:Q () ⟨h,g,d,t,os⟩):wpAny M A (checkBuiltinCall "Exception.__new__" ⟨.ref C::rest,[]⟩) Q E ⟨h,g,d,t,os⟩:=by
  have F:=PySem.F.excBase_Exception
  have hcont:(Value.ref C::pfBm P).contains (.type "Exception")=true:=by rw [List.contains_cons,aL0,Bool.or_true]
  have hstar:=F.noStar
  simp only [checkBuiltinCall,F.newKind,F.newSplit,F.newRow]
  repeat (first | refine wpAny_loadPart_at hC ?_ | (refine wpAny_isSubtype_exc hC ?_; rw [hcont]) | refine wpAny_staticBase_exc hC ?_ | refine wpAny_madeBy_exc hC ?_ | simp only [bne_self_eq_false,Bool.false_eq_true,if_false] | wp_step)
  exact hq
theorem bb4 {rest:List Value} (hC:h.get? C=some (excClassObj nm q C N bs (pfBm P) hdct sn sub ab col dd k0 k1 k2 k3 k5 "Exception.__new__"))
    (hq:R (.ok (.ret (.ref (h.objs.size+1)))) ⟨(h.push { cls:=.type "tuple",data:=.seq rest.toArray }).push
      { cls:=.ref C,data:=.fields #[.ref h.objs.size,.none,.none,.none,.bool false,.none] },g,d,t,os⟩) (hrest:rest.length≤sizeLine) :
    codeAny (model prog w) A (.builtin "Exception.__new__" ⟨.ref C::rest,[]⟩) R ⟨h,g,d,t,os⟩:=by
  have F:=PySem.F.excBase_Exception
  have hends:=F.ends
  have hcB:(Value.ref C::pfBm P).contains (.type "Exception")=true:=by rw [List.contains_cons,aL0,Bool.or_true]
  have hcA:(Value.ref C::pfBm P).contains (.type "AttributeError")=false:=by rw [List.contains_cons,no_AE]; rfl
  have hcN:(Value.ref C::pfBm P).contains (.type "NameError")=false:=by rw [List.contains_cons,no_NE]; rfl
  refine codeAny_builtinAt F.entry ?_
  unfold Builtin.«BaseException.__new__»
  refine PySem.wpAt_bind ?_
  show PySem.wpAt _ _ _ (PySem.stack >>= _) _ _ _
  refine PySem.wpAt_bind (PySem.wpAt_stack fun p below=>PySem.wpAt_of_wpAny ?_)
  wp_walk
  refine PySem.wpAt_of_wpAny ?_
  rw [F.owner]
  repeat (first | with_reducible refine wpAny_madeHere_exc F.canon hC ?_ | with_reducible refine wpAny_loadPart_at hC ?_ | (with_reducible refine wpAny_isSubtype_exc hC ?_; first | rw [hcB] | rw [hcA] | rw [hcN]) | wp_step)
  show R _ _
  rw [Heap.size_push]
  exact hq
theorem ad9 {mN:PySem.Str→Option Value} {rest:List Value} {fI:Addr} {oI:Obj} {Q:Fin→Shared→Prop}
    (hC:h.get? C=some (excClassObj nm q C N bs (pfBm P) hdct sn sub ab col dd k0 k1 k2 k3 k5 "Exception.__new__")) (hn:h.Ns N mN) (hi:mN "__init__" = some (.ref fI))
    (hfI:h.get? fI=some oI) (hfc:oI.cls=.type "function")
    (hq:∀ h' e,Heap.MadeExcOf h h' e (.ref C) rest →
      wpAny (model prog w) A (call (.ref fI) (.ref e::rest)) (fun r s'=>r=.none∧Q (.done (.ret (.ref e))) s') E ⟨h',g,d,t,os⟩) (hrest:rest.length≤sizeLine) :
    wpAny (model prog w) A (Builtin.«type.__call__» ⟨.ref C::rest,[]⟩) Q E ⟨h,g,d,t,os⟩:=by
  have F:=PySem.F.excBase_Exception
  repeat (first | with_reducible refine wpAny_loadPart_at hC ?_ | with_reducible refine wpAny_madeBy_exc hC ?_ | wp_step)
  refine codeAny_call_builtin_code (Code.quiet_builtin _ F.quiet) (ae2 hC ?_)
  refine bb4 hC ?_ hrest
  show wpAny _ _ _ _ _ _
  have up:∀ b o,h.get? b=some o→((h.push { cls:=.type "tuple",data:=.seq rest.toArray }).push { cls:=.ref C,data:=.fields #[.ref h.objs.size,.none,.none,.none,.bool false,.none] }).get? b=some o :=
    fun b o e=>Heap.get?_push_of_some _ (Heap.get?_push_of_some _ e)
  have hC₁:=up _ _ hC
  have hfI₁:=up _ _ hfI
  have hn₁:=hn.keeps up
  have hget:((h.push { cls:=.type "tuple",data:=.seq rest.toArray }).push
      { cls:=.ref C,data:=.fields #[.ref h.objs.size,.none,.none,.none,.bool false,.none] }).get? (h.objs.size+1)=some
      { cls:=.ref C,data:=.fields #[.ref h.objs.size,.none,.none,.none,.bool false,.none] }:=by heap_get
  have hcC:(Value.ref C::pfBm P).contains (.ref C)=true:=by simp
  unfold isInstance
  repeat (first | with_reducible refine wpAny_loadPart_at hget ?_ | (with_reducible refine wpAny_isSubtype_exc hC₁ ?_; rw [hcC]) | wp_step)
  show wpAny _ _ (typeLookup (.ref C) _) _ _ _
  rw [typeLookup_eq]
  refine wpAny_bind (wpAny_mroOf_exc hC₁ ?_)
  rw [lookupAlong_cons]
  refine wpAny_bind (wpAny_classOwn_exc hC₁ hn₁ ?_)
  rw [hi]
  refine wpAny_pure ?_
  refine wpAny_holding (wpAny_bind ?_)
  unfold bindSpecial
  refine wpAny_bind (wpAny_typeOf (T := "function") ⟨_,hfI₁,hfc⟩ ?_)
  rw [if_pos (by decide)]
  refine wpAny_pure (wpAny_bind (wpAny_mono (hq _ (h.objs.size+1) ⟨up,Heap.get?_none_of_le (Nat.le_succ _),h.objs.size,hget,Heap.get?_none_of_le (Nat.le_refl _),?_⟩) (fun r s' hr=>?_) fun _ _ x=>x))
  · exact Heap.get?_push_of_some _ (Heap.get?_push_at rfl rfl)
  · obtain ⟨rfl,hQ⟩:=hr
    wp_walk
    exact hQ
theorem aS2 {mN:PySem.Str→Option Value} {rest:List Value} {fI:Addr} {oI:Obj} {Q:Value→Shared→Prop}
    (hC:h.get? C=some (excClassObj nm q C N bs (pfBm P) hdct sn sub ab col dd k0 k1 k2 k3 k5 "Exception.__new__")) (hn:h.Ns N mN) (hi:mN "__init__" = some (.ref fI))
    (hfI:h.get? fI=some oI) (hfc:oI.cls=.type "function")
    (hq:∀ h' e,Heap.MadeExcOf h h' e (.ref C) rest →
      wpAny (model prog w) (A.under (.builtin "type.__call__" ⟨.ref C::rest,[]⟩)) (call (.ref fI) (.ref e::rest)) (fun r s'=>r=.none∧Q (.ref e) s') E ⟨h',g,d,t,os⟩) (hrest:rest.length≤sizeLine) :
    wpAny (model prog w) A (call (.ref C) rest) Q E ⟨h,g,d,t,os⟩:=by
  have f1:=tc_lookup
  have f2:=tc_bind (.ref C)
  have hT:(⟨h,g,d,t,os⟩:Shared).TypeIs (.ref C) "type" := ⟨_,hC,rfl⟩
  refine wpAny_call (codeAny_of_tree ?_)
  show wpAny _ _ (callAny (.ref C) _) _ _ _
  repeat (any_goals (first | assumption | with_reducible refine wpAny_loadPart_at hC ?_ | wp_step))
  refine ⟨rfl,?_⟩
  exact codeAny_call_builtin_at (Code.quiet_builtin _ (by decide +kernel)) entry_typeCall (wpAny_check_type_call_sub hC (ad9 hC hn hi hfI hfc (fun h' e hm=>hq h' e hm) hrest))
end
end Mine
end
section
set_option maxRecDepth 100000
namespace Mine
open PySem PySem.Spec PySem.Calls PyProof.Rows Builtin Builtin.ObjectAttr
section
variable {prog:Program} {w:World} {A:Around} {E:Value→Shared→Prop} {R:Result→Shared→Prop} {h:Heap} {g:Array GenState} {d:Drawn} {t:Nat} {os:OsState}
variable {nm q nm' q':PySem.Str} {C N P NP e:Addr} {bs bs':List Value} {sn sn':List PySem.Str} {sub sub':List Value} {ab ab' hd':Bool} {col col':Option Bool} {dd dd':Option Addr} {k0 k1 k2 k3 k5 j0 j1 j2 j3 j5:Option Value}
  {mN mP:PySem.Str→Option Value} {name:PySem.Str} {v:Value}
theorem D9 {M:Model} {y:Option Value} {Q:Option Value→Shared→Prop}
    (hC:h.get? C=some (excClassObj nm q C N bs (pfBm P) true sn sub ab col dd k0 k1 k2 k3 k5 "Exception.__new__")) (hn:h.Ns N mN)
    (hP:h.get? P=some (excClassObj nm' q' P NP bs' bmE hd' sn' sub' ab' col' dd' j0 j1 j2 j3 j5 "Exception.__new__")) (hp:h.Ns NP mP)
    (e1:mN name=none) (e2:mP name=none) (hB:typeLookup (.type "Exception") name=pure y) (hq:Q y ⟨h,g,d,t,os⟩):wpAny M A (typeLookup (.ref C) name) Q E ⟨h,g,d,t,os⟩:=by
  have hrest:lookupAlong bmE name=pure y:=by rw [typeLookup_eq,PySem.F.excBase_Exception.mroIs] at hB; exact hB
  rw [typeLookup_eq]
  refine wpAny_bind (wpAny_mroOf_exc hC ?_)
  rw [lookupAlong_cons]
  refine wpAny_bind (wpAny_classOwn_exc hC hn ?_)
  rw [e1]
  show wpAny M A (lookupAlong (.ref P::bmE) name) Q E _
  rw [lookupAlong_cons]
  refine wpAny_bind (wpAny_classOwn_exc hP hp ?_)
  rw [e2]
  show wpAny M A (lookupAlong bmE name) Q E _
  rw [hrest]
  exact wpAny_pure hq
theorem Z2 {M:Model} {oe:Obj} {rest:List Value} {Q:Unit→Shared→Prop}
    (hC:h.get? C=some (excClassObj nm q C N bs (pfBm P) true sn sub ab col dd k0 k1 k2 k3 k5 "Exception.__new__")) (he:h.get? e=some oe) (hcls:oe.cls=.ref C) (hq:Q () ⟨h,g,d,t,os⟩) :
    wpAny M A (checkBuiltinCall "Exception.__init__" ⟨.ref e::rest,[]⟩) Q E ⟨h,g,d,t,os⟩:=by
  have F:=PySem.F.excBase_Exception
  have hcB:(Value.ref C::pfBm P).contains (.type "Exception")=true:=by rw [List.contains_cons,aL0,Bool.or_true]
  have hshort:=F.noStar
  simp only [checkBuiltinCall,F.initKind,F.initSplit,F.initRow]
  repeat (first | (with_reducible refine wpAny_loadPart_at he ?_; rw [hcls]) | with_reducible refine wpAny_loadPart_at hC ?_ | (with_reducible refine wpAny_isSubtype_exc hC ?_; rw [hcB]) | wp_step)
  refine wpAny_onRaise ?_
  rw [show ∀ (a b:String) (n:Nat),Bind.check ⟨.positional, "*", "Exception",.self,[⟨"args",.varPos,false⟩]⟩ a b n (List.map (fun x=>x.fst) ({ pos:=Value.ref e::rest }:Args).kw)=pure () from
    fun a b n=>check_star_args _ _ _ _ _ _]
  exact wpAny_pure hq
theorem aS1 {a:Addr} {x:Value} {Q:Value→Shared→Prop}
    (hC:h.get? C=some (excClassObj nm q C N bs (pfBm P) true sn sub ab col dd k0 k1 k2 k3 k5 "Exception.__new__")) (he:h.get? e=some { cls:=.ref C,data:=.fields #[.ref a,.none,.none,.none,.bool false,.none] })
    (hq:∀ h' a',(∀ b o,b≠e→h.get? b=some o→h'.get? b=some o)→h'.get? e=some { cls:=.ref C,data:=.fields #[.ref a',.none,.none,.none,.bool false,.none] }→Q .none ⟨h',g,d,t,os⟩) :
    wpAny (model prog w) A (call (.builtin "Exception.__init__") [.ref e,x]) Q E ⟨h,g,d,t,os⟩:=by
  have F:=PySem.F.excBase_Exception
  refine wpAny_call (codeAny_call_builtin F.init.plain F.initEntry (Z2 hC he rfl ?_))
  wp_walk
  refine hq _ h.objs.size (fun b o hb hbo=>?_) ?_
  · rw [Heap.get?_update_other _ _ hb.symm]
    exact Heap.get?_push_of_some _ hbo
  · rw [Heap.get?_update_self _ (Heap.get?_push_of_some _ he) rfl]
    rfl
theorem U6 {tk:Tok} {o:Obj} {mA:PySem.Str→Option Value} {ns:List PySem.Str} {b:Bool} {Q:Fin→Shared→Prop}
    (hC:h.get? C=some (excClassObj nm q C N bs (pfBm P) true sn sub ab col dd k0 k1 k2 k3 k5 "Exception.__new__")) (he:h.get? e=some o) (hc:o.cls=.ref C) (hnc:∀ c,o.data≠.cls c)
    (hd:(o.dict=none∧∀ n,mA n=none)∨∃ dx,o.dict=some dx∧dx≠e∧h.Ns1 dx mA) (hw:Within mA ns) (hsz:ns.length≤1000)
    (hq:∀ h' tk' dx,((o.dict=none∧h.get? dx=none)∨o.dict=some dx)→(∀ b ob,b≠e→b≠dx→h.get? b=some ob→h'.get? b=some ob)→h'.get? e=some { o with dict:=some dx }→dx≠e →
      h'.Ns1 dx (fun y=>if y=name then some v else mA y)→Q (.done (.ret .none)) ⟨h',g,d,tk',os⟩) :
    wpAny (model prog w) A (storeInOwnDict (.ref e) (.ref C) (.str name tk) name v b) Q E ⟨h,g,d,t,os⟩:=by
  unfold storeInOwnDict
  repeat (first | (with_reducible refine wpAny_loadPart_at he ?_; rw [hc]) | with_reducible refine wpAny_loadPart_at hC ?_ | wp_step)
  rcases hd with ⟨hdn,hmA⟩ | ⟨dx,hdx,hne,hns⟩
  · rw [hdn]
    have hes:e≠h.objs.size:=Nat.ne_of_lt (Heap.lt_size he)
    rw [if_neg (show ¬ (!true || !typeHasDict (Value.ref C))=true by simp [typeHasDict])]
    split
    · rename_i hcd; cases hcd
    split
    · rename_i c hcd; exact absurd hcd (hnc c)
    refine wpAny_bind (wpAny_alloc' (wpAny_bind (wpAny_update' (Heap.get?_push_of_some _ he) (wpAny_pure ?_))))
    have gd:((h.push { cls:=.type "dict",data:=.dict #[] }).update e fun o=>{ cls:=o.cls,dict:=some h.objs.size,data:=o.data,slots:=o.slots }).get? h.objs.size=some { cls:=.type "dict",data:=.dict #[] } :=
      (Heap.get?_update_ne _ _ _ _ hes.symm).trans (Heap.get?_push_at rfl rfl)
    have nd:((h.push { cls:=.type "dict",data:=.dict #[] }).update e fun o=>{ cls:=o.cls,dict:=some h.objs.size,data:=o.data,slots:=o.slots }).Ns h.objs.size (fun _=>none) :=
      ⟨_,#[],_,gd,rfl,fun x hx=>absurd hx (by simp),fun _=>rfl⟩
    show wpAny _ _ (storeInDict h.objs.size (.str name tk) name v) _ _ _
    refine wpAny_bind (wpAny_pure (wpAny_bind (wpAny_nsSet1 (Heap.Ns1.of_empty nd) fun h' hn' hs=>?_)))
    obtain ⟨oD,esD,epD,hoD,hdD,hcD⟩:=hn'.count (Within.cons name v Within.nil)
    refine wpAny_bind (wpAny_lookBehind hoD (by rw [hdD]; exact pastItsLine_dict (Nat.le_trans hcD (by rw [List.length_cons,List.length_nil,sizeLine_eq]; omega))) (wpAny_pure ?_))
    refine hq h' _ h.objs.size (.inl ⟨hdn,B3 h⟩) (fun b ob h1 h2 hb=>?_) ?_ hes.symm ?_
    · exact (hs.2 b h2).trans ((Heap.get?_update_ne _ _ _ _ h1).trans (Heap.get?_push_of_some _ hb))
    · refine (hs.2 e hes).trans (Heap.get?_update_self _ (Heap.get?_push_of_some _ he) ?_)
      have hfr:=(Heap.get?_some_iff.mp he).2
      obtain ⟨oc,od,odt,osl⟩:=o
      cases odt <;> first | rfl | exact hfr
    · obtain ⟨o',es,ep,e1,e2,e3,eu,e4⟩:=hn'
      exact ⟨o',es,ep,e1,e2,e3,eu,fun y=>by rw [e4 y]; by_cases hy:y=name <;> simp [hy,hmA]⟩
  · rw [hdx]
    refine wpAny_pure ?_
    show wpAny _ _ (storeInDict dx (.str name tk) name v) _ _ _
    refine wpAny_bind (wpAny_pure (wpAny_bind (wpAny_nsSet1 hns fun h' hn' hs=>?_)))
    obtain ⟨oD,esD,epD,hoD,hdD,hcD⟩:=hn'.count (Within.cons name v hw)
    refine wpAny_bind (wpAny_lookBehind hoD (by rw [hdD]; exact pastItsLine_dict (Nat.le_trans hcD (by rw [List.length_cons,sizeLine_eq]; omega))) (wpAny_pure ?_))
    refine hq h' _ dx (.inr hdx) (fun b ob _ h2 hb=>(hs.2 b h2).trans hb) ?_ hne hn'
    rw [hs.2 e hne.symm,he]
    obtain ⟨oc,od,odt,osl⟩:=o
    cases hdx; rfl
set_option maxHeartbeats 1000000 in
theorem aj4 {o:Obj} {mA:PySem.Str→Option Value} {ns:List PySem.Str} {Q:Unit→Shared→Prop}
    (hC:h.get? C=some (excClassObj nm q C N bs (pfBm P) true sn sub ab col dd k0 k1 k2 k3 k5 "Exception.__new__")) (hn:h.Ns N mN)
    (hP:h.get? P=some (excClassObj nm' q' P NP bs' bmE hd' sn' sub' ab' col' dd' j0 j1 j2 j3 j5 "Exception.__new__")) (hp:h.Ns NP mP)
    (s1:mN "__setattr__" = none) (s2:mP "__setattr__" = none) (e1:mN name=none) (e2:mP name=none) (hB:typeLookup (.type "Exception") name=pure none)
    (he:h.get? e=some o) (hc:o.cls=.ref C) (hnc:∀ c,o.data≠.cls c)
    (hd:(o.dict=none∧∀ n,mA n=none)∨∃ dx,o.dict=some dx∧dx≠e∧h.Ns1 dx mA) (hw:Within mA ns) (hsz:ns.length≤1000)
    (hq:∀ h' tk' dx,((o.dict=none∧h.get? dx=none)∨o.dict=some dx)→(∀ b ob,b≠e→b≠dx→h.get? b=some ob→h'.get? b=some ob)→h'.get? e=some { o with dict:=some dx }→dx≠e →
      h'.Ns1 dx (fun y=>if y=name then some v else mA y)→Q () ⟨h',g,d,tk',os⟩) :
    wpAny (model prog w) A (setAttr (.ref e) name v) Q E ⟨h,g,d,t,os⟩:=by
  have SF:=PySem.F.store_Exception
  have f3:=SF.slot.bind (.ref e)
  have hpass:=SF.passes (.ref e)
  have hcB:(Value.ref C::pfBm P).contains (.type "object")=true:=by
    rw [List.contains_cons]; unfold pfBm; rw [List.contains_cons,show bmE.contains (Value.type "object")=true by decide]; simp
  unfold setAttr callSpecial? specialOf
  repeat (any_goals (first | assumption | (with_reducible refine wpAny_loadPart_at he ?_; rw [hc]) | (with_reducible refine D9 hC hn hP hp s1 s2 SF.slot.lookup ?_) | wp_step))
  refine codeAny_call_builtin SF.slot.plain SF.entry ?_
  · have ha:=SF.args (.ref e) (.str name t) v
    simp only [checkBuiltinCall,SF.kind,SF.split]
    refine wpAny_bind ?_
    unfold isInstance
    repeat (first | (with_reducible refine wpAny_loadPart_at he ?_; rw [hc]) | (with_reducible refine wpAny_isSubtype_exc hC ?_; rw [hcB]) | wp_step)
    refine D9 hC hn hP hp e1 e2 hB ?_
    refine wpAny_bind (wpAny_pure ?_)
    refine U6 hC he hc hnc hd hw hsz fun h' tk' dx x1 x2 x3 x4 x5=>?_
    exact wpAny_pure (wpAny_pure (hq h' tk' dx x1 x2 x3 x4 x5))
end
end Mine
end
section
set_option maxRecDepth 100000
namespace Mine
open PySem PySem.Spec PySem.Calls PyProof.Rows PySem.W
set_option genInjectivity false in
set_option genSizeOf false in
structure PfD (C:Cfg) where
  (P fI fP:Addr) (cd cd':ClassData) (dd dd':Option Addr) (k0 k1 k2 k3 k5 j0 j1 j2 j3 j5:Option Value)
  (mN mP:PySem.Str→Option Value)
  hC:C.h₀.get? C.pfC=some (excClassObj cd.name cd.qualname C.pfC cd.ns cd.bases (pfBm P) true cd.slotNames cd.subclasses cd.abstract cd.collection dd k0 k1 k2 k3 k5 "Exception.__new__")
  hN:C.h₀.Ns cd.ns mN
  hP:C.h₀.get? P=some (excClassObj cd'.name cd'.qualname P cd'.ns cd'.bases bmE cd'.hasDict cd'.slotNames cd'.subclasses cd'.abstract cd'.collection dd' j0 j1 j2 j3 j5 "Exception.__new__")
  hNP:C.h₀.Ns cd'.ns mP
  initC:mN "__init__" = some (.ref fI)
  noC:∀ n∈(["__setattr__", "__getattribute__", "__getattr__", "why", "line"]:List PySem.Str),mN n=none
  noP:∀ n∈(["__setattr__", "__getattribute__", "__getattr__", "why", "line"]:List PySem.Str),mP n=none
  K:Frag
  KIn:K.In C.h₀
  reads:readsIn K P (.type "type")=true
  find:findCls K (.ref P) (.type "type") "__init__" = some (.val (.ref fP))
  spec:specialIn K (.ref P) "__getattribute__" = some (some (.builtin "type.__getattribute__"))
  gP:C.mg "PhpFault" = some (.ref P)
  gC:C.mg "ParseFault" = some (.ref C.pfC)
  gE:C.mg "Exception" = none
  (c1 c2 d1 d2:Stmt)
  bodyC:PlainFn C.h₀ fI ["self", "why", "line"] ["PhpFault"] [c1,c2]
  bodyP:PlainFn C.h₀ fP ["self", "why"] ["Exception"] [d1,d2]
  isC1:∃ p1 p2 p3 p4 p5 p6,c1=.Expr (.Call (.Attribute (.Name "PhpFault" p1) "__init__" p2) [.Name "self" p3,.Name "why" p4] [] p5) p6∧(p2.endLine==p5.line)=true
  isC2:setsOwn c2 "line"
  isD1:∃ p1 p2 p3 p4 p5 p6,d1=.Expr (.Call (.Attribute (.Name "Exception" p1) "__init__" p2) [.Name "self" p3,.Name "why" p4] [] p5) p6∧(p2.endLine==p5.line)=true
  isD2:setsOwn d2 "why"
section
variable {prog:Program} {w:World} {A:Around} {E:Value→Shared→Prop} {s:Shared} {env:Env}
theorem G6 {o:Expr} {name:PySem.Str} {apos pos:Pos} {es:List Expr} {Q:Value→Shared→Prop} (hb:baseOK o=true) (hl:es.length < 29) (hs:es.all notStar=true) (hline:(apos.endLine==pos.line)=true)
    (h:wpAny (model prog w) A (eval o env) (fun ov s₁=>∀ pl,wpAny (model prog w) A (getMethod ov name pl) (fun fx s₂=>wpAny (model prog w) A (callWith pos fx.1 fx.2 (backTo pos (starEach es env)) []) Q E s₂) E s₁) E s) :
    wpAny (model prog w) A (eval (.Call (.Attribute o name apos) es [] pos) env) Q E s:=by
  have hany:=t8 (pos:=pos) (env:=env) hs
  have hall:(backTo pos (starEach es env)).all (fun x=>!x.1)=true:=List.all_eq_true.mpr fun y hy=>by rw [Bool.eq_false_iff.mpr (List.any_eq_false.mp hany y hy)]; rfl
  have hform:methodCallForm (es.length+([]:List Keyword).length) (backTo pos (starEach es env)) (backToKw pos (keywordEach [] env))=true:=by
    unfold methodCallForm
    rw [hall]
    exact decide_eq_true (show es.length+0+0 < 30 from Nat.lt_succ_of_lt hl)
  rw [arm_eval_Call,ay7 hb]
  refine wpAny_bind (wpAny_mono h (fun ov s₁ h₁=>?_) fun _ _ e=>e)
  refine wpAny_bind (wpAny_standAt ?_)
  have hpos:methodCallPos true o env apos pos=pure pos:=by unfold methodCallPos; simp [hline]
  unfold methodCall
  rw [hform]
  refine wpAny_bind (wpAny_holding (wpAny_mono (h₁ _) (fun fx s₂ h₂=>?_) fun _ _ e=>e))
  obtain ⟨f,first⟩:=fx
  exact wpAny_bind (wpAny_of_eq hpos h₂)
theorem aO9 {C:Cfg} (D:PfD C) {pl:Sem Bool} {Q:Value×List Value→Shared→Prop} (hb:∀ b o,C.h₀.get? b=some o→s.heap.get? b=some o) (h:Q (.ref D.fP,[]) { s with toks:=s.toks+1 }) :
    wpAny (model prog w) A (getMethod (.ref D.P) "__init__" pl) Q E s :=
  method_cls (D.KIn.keeps hb) D.spec (cls_value (D.KIn.keeps hb) D.reads D.find rfl h)
theorem aP0:typeOf (.type "Exception")=pure (.type "type"):=by kernel_rfl
theorem bg8:findCls [] (.type "Exception") (.type "type") "__init__" = some (.val (.builtin "Exception.__init__")):=by kernel_rfl
theorem aP1:opaqueClassAbove (.type "Exception")=pure none:=by kernel_rfl
theorem nilIn {h:Heap}:Frag.In [] h:=fun a o e=>by cases e
theorem aP2 {pl:Sem Bool} {Q:Value×List Value→Shared→Prop} (h:Q (.builtin "Exception.__init__",[]) { s with toks:=s.toks+1 }) :
    wpAny (model prog w) A (getMethod (.type "Exception") "__init__" pl) Q E s:=by
  unfold getMethod
  refine wpAny_bind (((Looks.of_pure aP0).andThen (Looks.of_pure KF.slot_tga.lookup)).here ?_)
  dsimp only
  rw [if_pos canon_tga]
  refine wpAny_bind (cls_open (K:=[]) (mc:=.type "type") (hook:=none) nilIn (Looks.of_pure aP1) (Looks.of_pure aP0) (by kernel_rfl) (Looks.of_pure (by kernel_rfl)) (by kernel_rfl) bg8 (wpAny_pure ?_))
  show wpAny _ _ (handedOut (.builtin "Exception.__init__")) _ _ _
  rw [handedOut_of (by kernel_rfl)]
  exact wpAny_pure (wpAny_pure h)
noncomputable def excObj (C:Addr) (a:Addr) (dx:Option Addr):Obj:={ cls:=.ref C,dict:=dx,data:=.fields #[.ref a,.none,.none,.none,.bool false,.none] }
theorem aJ5:typeLookup (.type "Exception") "why" = pure none:=by rw [typeLookup_type,builtinLookup_eq_fast]; kernel_rfl
theorem aw8:typeLookup (.type "Exception") "line" = pure none:=by rw [typeLookup_type,builtinLookup_eq_fast]; kernel_rfl
variable {h:Heap} {g:Array GenState} {d:Drawn} {t:Nat} {os:OsState}
theorem C7 {M:Model} {n:PySem.Str} {p:Pos} {v:Value} {m:PySem.Str→Option Value} {Q:Value→Shared→Prop} (hk:env.scope.kind=.function) (hl:s.heap.Ns env.locals m) (k:env.kindOf n=some .local) (hv:m n=some v) (hd:(n==("__debug__" : PySem.Str))=false) (hq:Q v s) :
    wpAny M A (eval (.Name n p) env) Q E s:=wpAny_Name (wpAny_loadName_local hk k hl hv hq) hd
theorem ah5 {M:Model} {f:Value} {pos p3 p4:Pos} {n1 n2:PySem.Str} {v1 v2:Value} {m:PySem.Str→Option Value} {Q:Args→Shared→Prop} (hk:env.scope.kind=.function) (hl:s.heap.Ns env.locals m) (k1:env.kindOf n1=some .local) (k2:env.kindOf n2=some .local) (h1:m n1=some v1) (h2:m n2=some v2)
    (d1:(n1==("__debug__" : PySem.Str))=false) (d2:(n2==("__debug__" : PySem.Str))=false) (hq:Q ⟨[v1,v2],[]⟩ s) :
    wpAny M A (evalArgs f true (backTo pos (starEach [.Name n1 p3,.Name n2 p4] env)) []) Q E s:=by
  refine s9 (by rfl) (wpAny_items_cons (C7 hk hl k1 h1 d1 ?_) (f4 (by rfl)))
  exact wpAny_items_cons (C7 hk hl k2 h2 d2 (wpAny_items_nil hq)) (f4 (by rfl))
theorem aj8 {st:Stmt} {name:PySem.Str} {v:Value} {e:Addr} {m:PySem.Str→Option Value} {Q:Flow→Shared→Prop} (hs:setsOwn st name) (hk:env.scope.kind=.function) (hl:s.heap.Ns env.locals m) (k1:env.kindOf "self" = some .local) (k2:env.kindOf name=some .local)
    (v1:m "self" = some (.ref e)) (v2:m name=some v) (hdb:(name==("__debug__" : PySem.Str))=false) (h:wpAny (model prog w) A (setAttr (.ref e) name v) (fun _=>Q .next) E s):wpAny (model prog w) A (exec st env) Q E s:=by
  obtain ⟨p1,p2,p3,p4,rfl⟩:=hs
  exact plainObj_wpAny_Assign_Attribute (C7 hk hl k2 v2 hdb (C7 hk hl k1 v1 rfl h)) rfl
theorem aH4 {C:Cfg} (oc:CfgOK C) (D:PfD C) {e a:Addr} {why:Value} {Q:Value→Shared→Prop} (hb:∀ b o,C.h₀.get? b=some o→h.get? b=some o) (he:h.get? e=some (excObj C.pfC a none)) (hnew:C.h₀.get? e=none) (hd:A.depth < recursionLimit)
    (hq:∀ h' tk' dx a',h.get? dx=none→dx≠e→(∀ b o,b≠e→h.get? b=some o→h'.get? b=some o)→h'.get? e=some (excObj C.pfC a' (some dx))→h'.Ns1 dx (fun y=>if y = "why" then some why else none)→Q .none ⟨h',g,d,tk',os⟩) :
    wpAny (model prog w) A (call (.ref D.fP) [.ref e,why]) Q E ⟨h,g,d,t,os⟩:=by
  refine F5 (s:=⟨h,g,d,t,os⟩) D.bodyP hb oc.nolimit hd rfl fun env h₁ tk m P=>?_
  obtain ⟨e1,e2,e3,e4,e5,e6,e7,hns,hm,hk⟩:=P
  obtain ⟨p1,p2,p3,p4,p5,p6,hst,hline⟩:=D.isD1
  rw [hst]
  have ne:env.locals≠e:=fun q=>j8 e7 (q▸he)
  have hb1:∀ b o,C.h₀.get? b=some o→h₁.get? b=some o:=fun b o q=>hk _ _ (hb _ _ q)
  have l1:=e5 "self" (by decide)
  have l2:=e5 "why" (by decide)
  have a1:=hm 0 _ _ rfl rfl
  have a2:=hm 1 _ _ rfl rfl
  have hC1:=hb1 _ _ D.hC
  have hP1:=hb1 _ _ D.hP
  have hN1:=D.hN.keeps hb1
  have hNP1:=D.hNP.keeps hb1
  have eC:e≠C.pfC:=fun q=>by
    have:=hb _ _ D.hC; rw [← q,he] at this
    simp [excObj,excClassObj] at this
  refine wpAny_execs_cons (wpAny_Expr_any (G6 rfl (by show 2 < 29; decide) rfl hline ?_) (by unfold interactive; rw [e1]; rfl) rfl)
  refine Name_function_global e1 (e6 "Exception" (by decide)) (loadGlobal_builtin (s:=⟨h₁,g,d,tk,os⟩) (by rw [e2]; exact oc.mgN.keeps hb1) D.gE (by rw [e3]; exact oc.mbN.keeps hb1) ((oc.blt "Exception" (by decide)).trans Boot.«Exception») ?_) rfl
  intro pl
  refine aP2 ?_
  refine v4 rfl (t8 rfl) (ah5 e1 hns l1 l2 a1 a2 rfl rfl ?_)
  refine aS1 hC1 (hk _ _ he) fun h2 a' k2 he2=>?_
  have nb:∀ b o,C.h₀.get? b=some o→b≠e:=fun b o q z=>j8 hnew (z▸q)
  have hb2:∀ b o,C.h₀.get? b=some o→h2.get? b=some o:=fun b o q=>k2 _ _ (nb _ _ q) (hb1 _ _ q)
  have hns2:h2.Ns env.locals m:=hns.imp fun o n=>n.imp fun es n=>n.imp fun ep n=>⟨k2 _ _ ne n.1,n.2⟩
  refine wpAny_execs_cons (aj8 (s:=⟨h2,g,d,_,os⟩) D.isD2 e1 hns2 l1 l2 a1 a2 rfl ?_)
  refine aj4 (mA:=fun _=>none) (ns:=[]) (hb2 _ _ D.hC) (D.hN.keeps hb2) (hb2 _ _ D.hP) (D.hNP.keeps hb2) (D.noC _ (by decide)) (D.noP _ (by decide)) (D.noC _ (by decide)) (D.noP _ (by decide)) aJ5 he2 rfl (fun c q=>by cases q) (.inl ⟨rfl,fun _=>rfl⟩) Within.nil (by decide)
    fun h3 tk3 dx x1 x2 x3 x4 x5=>wpAny_execs_nil ?_
  have hdx:h.get? dx=none:=x1.elim (fun x1=>Option.eq_none_iff_forall_ne_some.mpr fun o q=>j8 x1.2 (k2 _ _ x4 (hk _ _ q))) fun x1=>nomatch x1
  exact hq h3 tk3 dx a' hdx x4 (fun b o q1 q2=>x2 _ _ q1 (fun z=>j8 hdx (z▸q2)) (k2 _ _ q1 (hk _ _ q2))) x3 x5
theorem aj5 {C:Cfg} (oc:CfgOK C) (D:PfD C) {e a:Addr} {why line:Value} {Q:Value→Shared→Prop} (hb:∀ b o,C.h₀.get? b=some o→h.get? b=some o) (he:h.get? e=some (excObj C.pfC a none)) (hnew:C.h₀.get? e=none) (hd:A.depth+1 < recursionLimit)
    (hq:∀ h' tk' dx a',h.get? dx=none→dx≠e→(∀ b o,b≠e→h.get? b=some o→h'.get? b=some o)→h'.get? e=some (excObj C.pfC a' (some dx))→h'.Ns1 dx (fun y=>if y = "line" then some line else if y = "why" then some why else none)→Q .none ⟨h',g,d,tk',os⟩) :
    wpAny (model prog w) A (call (.ref D.fI) [.ref e,why,line]) Q E ⟨h,g,d,t,os⟩:=by
  refine F5 (s:=⟨h,g,d,t,os⟩) D.bodyC hb oc.nolimit (by omega) rfl fun env h₁ tk m P=>?_
  obtain ⟨e1,e2,e3,e4,e5,e6,e7,hns,hm,hk⟩:=P
  obtain ⟨p1,p2,p3,p4,p5,p6,hst,hline⟩:=D.isC1
  rw [hst]
  have ne:env.locals≠e:=fun q=>j8 e7 (q▸he)
  have hb1:∀ b o,C.h₀.get? b=some o→h₁.get? b=some o:=fun b o q=>hk _ _ (hb _ _ q)
  have l1:=e5 "self" (by decide)
  have l2:=e5 "why" (by decide)
  have l3:=e5 "line" (by decide)
  have a1:=hm 0 _ _ rfl rfl
  have a2:=hm 1 _ _ rfl rfl
  have a3:=hm 2 _ _ rfl rfl
  obtain ⟨oP,fdP,argsP,PP⟩:=D.bodyP
  refine wpAny_execs_cons (wpAny_Expr_any (G6 rfl (by show 2 < 29; decide) rfl hline ?_) (by unfold interactive; rw [e1]; rfl) rfl)
  refine Name_function_global e1 (e6 "PhpFault" (by decide)) (loadGlobal_global (s:=⟨h₁,g,d,tk,os⟩) (by rw [e2]; exact oc.mgN.keeps hb1) D.gP ?_) rfl
  intro pl
  refine aO9 (s:=⟨h₁,g,d,tk,os⟩) D hb1 ?_
  refine callWith_function (o:=oP) (fd:=fdP) (ah5 e1 hns l1 l2 a1 a2 rfl rfl ⟨⟨hb1 _ _ PP.get,PP.data⟩,?_⟩)
  refine aH4 oc D hb1 (hk _ _ he) hnew (by show A.depth+1 < _; omega) fun h2 tk2 dx a' x1 x2 x3 x4 x5=>?_
  have nb:∀ b o,C.h₀.get? b=some o→b≠e:=fun b o q z=>j8 hnew (z▸q)
  have hb2:∀ b o,C.h₀.get? b=some o→h2.get? b=some o:=fun b o q=>x3 _ _ (nb _ _ q) (hb1 _ _ q)
  have hns2:h2.Ns env.locals m:=hns.imp fun o n=>n.imp fun es n=>n.imp fun ep n=>⟨x3 _ _ ne n.1,n.2⟩
  refine wpAny_execs_cons (aj8 (s:=⟨h2,g,d,_,os⟩) D.isC2 e1 hns2 l1 l3 a1 a3 rfl ?_)
  refine aj4 (mA:=fun y=>if y = "why" then some why else none) (ns:=["why"]) (hb2 _ _ D.hC) (D.hN.keeps hb2) (hb2 _ _ D.hP) (D.hNP.keeps hb2) (D.noC _ (by decide)) (D.noP _ (by decide)) (D.noC _ (by decide)) (D.noP _ (by decide)) aw8 x4 rfl (fun c q=>by cases q) (.inr ⟨dx,rfl,x2,x5⟩) (Within.cons _ _ Within.nil) (by decide)
    fun h3 tk3 dx' y1 y2 y3 y4 y5=>wpAny_execs_nil ?_
  have hdx:dx'=dx:=y1.elim (fun y1=>nomatch y1.1) fun y1=>(Option.some.inj y1).symm
  subst hdx
  have hdx:h.get? dx'=none:=Option.eq_none_iff_forall_ne_some.mpr fun o q=>j8 x1 (hk _ _ q)
  exact hq h3 tk3 dx' a' hdx y4 (fun b o q1 q2=>y2 _ _ q1 (fun z=>j8 hdx (z▸q2)) (x3 _ _ q1 (hk _ _ q2))) y3 y5
theorem aY7 {C:Cfg} (oc:CfgOK C) (D:PfD C) {why line:Value} {Q:Value→Shared→Prop} (hb:∀ b o,C.h₀.get? b=some o→h.get? b=some o) (hd:A.depth+3 < recursionLimit)
    (hq:∀ h' tk' e dx a',h.get? e=none→h.get? dx=none→dx≠e→(∀ b o,h.get? b=some o→h'.get? b=some o)→h'.get? e=some (excObj C.pfC a' (some dx))→h'.Ns1 dx (fun y=>if y = "line" then some line else if y = "why" then some why else none)→Q (.ref e) ⟨h',g,d,tk',os⟩) :
    wpAny (model prog w) A (call (.ref C.pfC) [why,line]) Q E ⟨h,g,d,t,os⟩:=by
  obtain ⟨oI,fdI,argsI,PI⟩:=D.bodyC
  refine aS2 (hb _ _ D.hC) (D.hN.keeps hb) D.initC (hb _ _ PI.get) PI.cls (fun h1 e hm=>?_) (by show 2≤sizeLine; decide)
  obtain ⟨a,he,_,_⟩:=hm.there
  have hnew:C.h₀.get? e=none:=Option.eq_none_iff_forall_ne_some.mpr fun o q=>j8 hm.new (hb _ _ q)
  refine aj5 oc D (fun b o q=>hm.keeps _ _ (hb _ _ q)) he hnew ?_ fun h2 tk2 dx a' x1 x2 x3 x4 x5=>⟨rfl,?_⟩
  · show A.depth+(Code.builtin "type.__call__" ⟨.ref C.pfC::[why,line],[]⟩).weight+1 < _
    rw [Z8]; omega
  exact hq h2 tk2 e dx a' hm.new (Option.eq_none_iff_forall_ne_some.mpr fun o q=>j8 x1 (hm.keeps _ _ q)) x2 (fun b o q=>x3 _ _ (fun z=>j8 hm.new (z▸q)) (hm.keeps _ _ q)) x4 x5
end
end Mine
end
section
set_option maxRecDepth 100000
namespace Mine
open PySem PySem.Spec PySem.Calls PyProof.Rows
section
variable {C:Cfg} {A:Around} {F:Fm} {CS:Calls} {g:Gh} {loc:L} {c:H} {h h':Heap} {N:Nat} {s:Shared} {env:Env}
theorem U1 {M:Model} (D:PfD C) {x:Sem Value} {Q:Flow→Shared→Prop} {E:Value→Shared→Prop} (hh:A.handled=none)
    (h:wpAny M A x (fun v s₁=>∃ e a dx,v=.ref e∧(∀ b o,C.h₀.get? b=some o→s₁.heap.get? b=some o)∧s₁.heap.get? e=some (excObj C.pfC a dx)∧E (.ref e) s₁) E s) :
    wpAny M A (raiseStmt env (some x) none) Q E s:=by
  have hcB:(Value.ref C.pfC::pfBm D.P).contains (.type "BaseException")=true:=by rw [List.contains_cons,ar8,Bool.or_true]
  unfold raiseStmt
  refine wpAny_bind (wpAny_mono h (fun v s₁ h₁=>?_) fun _ _ x=>x)
  obtain ⟨e,a,dx,rfl,hb,he,hE⟩:=h₁
  have hC:=hb _ _ D.hC
  obtain ⟨hp,g,d,tk,os⟩:=s₁
  have hc:(excObj C.pfC a dx).cls=.ref C.pfC:=rfl
  repeat (first | (with_reducible refine wpAny_loadPart_at he ?_; try rw [hc]) | with_reducible refine wpAny_loadPart_at hC ?_ | (with_reducible refine wpAny_isSubtype_exc hC ?_; rw [hcB]) | wp_step)
  exact wpAny_raiseNew_none hh hE
theorem U0 {M:Model} (D:PfD C) {ex:Expr} {pos:Pos} {Q:Flow→Shared→Prop} {E:Value→Shared→Prop} (hh:A.handled=none)
    (h:wpAny M A (eval ex env) (fun v s₁=>∃ e a dx,v=.ref e∧(∀ b o,C.h₀.get? b=some o→s₁.heap.get? b=some o)∧s₁.heap.get? e=some (excObj C.pfC a dx)∧E (.ref e) s₁) E s) :
    wpAny M A (exec (.Raise (some ex) none pos) env) Q E s:=by
  rw [arm_exec_Raise]
  first
    | refine wpAny_bind (wpAny_standAt (U1 D hh (wpAny_bind (wpAny_mono h (fun v s₃ h₃=>wpAny_bind (wpAny_standAt (wpAny_pure h₃))) fun _ _ x=>x))))
    | (simp only [evalOpt,Option.map]; refine wpAny_bind (wpAny_standAt (U1 D hh (wpAny_bind (wpAny_mono h (fun v s₃ h₃=>wpAny_bind (wpAny_standAt (wpAny_pure h₃))) fun _ _ x=>x)))))
theorem Q5 {M:Model} (D:PfD C) {pos:Pos} {args:List (Bool×Sem Value)} {Q:Value→Shared→Prop} {E:Value→Shared→Prop} (hplain:args.any (·.1)=false)
    (h:wpAny M A (evalArgs (.ref C.pfC) true args []) (fun a s₁=>(∀ b o,C.h₀.get? b=some o→s₁.heap.get? b=some o)∧wpAny M A (call (.ref C.pfC) a.pos a.kw) Q E s₁) E s):wpAny M A (callWith pos (.ref C.pfC) [] args []) Q E s:=by
  unfold callWith
  refine wpAny_bind (wpAny_holding (wpAny_mono h (fun a s₁ h₁=>wpAny_bind (wpAny_standAt ?_)) fun _ _ x=>x))
  obtain ⟨hp,g,d,t,os⟩:=s₁
  rw [hplain]
  refine wpAny_bind (wpAny_keeperOf_exc (h₁.1 _ _ D.hC) ?_)
  exact wpAny_bind (wpAny_mono h₁.2 (fun r s₂ hr=>wpAny_bind (wpAny_holding (wpAny_point (wpAny_pure hr)))) fun _ _ x=>x)
theorem av4 (r:Rel C F g loc c h) {e dx a:Addr} {w:List Nat} {l:Int} {tw tl:Tok} (hw:TxtOK w) (h1:h.get? e=none) (h2:h.get? dx=none) (hne:dx≠e) (k:∀ b o,h.get? b=some o→h'.get? b=some o) (he:h'.get? e=some (excObj C.pfC a (some dx)))
    (hn:h'.Ns1 dx (fun y=>if y = "line" then some (.int l tl) else if y = "why" then some (.str (strOf w) tw) else none)):∃ g',g.le g'∧Rel C F g' loc c h'∧ExcAt C F g' w l e h':=by
  obtain ⟨od,es,n,q1,q2,q3,q4,q5⟩:=hn
  have x:=r.none_of_new h1
  have y:=r.none_of_new h2
  exact ⟨g.put dx (od.cls,od.dict,od.data),Gh.put_le y.1.2,(r.keeps k).put q1 y,⟨⟨x.1.1,(Gh.put_ne hne.symm).trans x.1.2⟩,x.2⟩,⟨_,_,dx,es,n,tw,tl⟩,he,rfl,rfl,rfl,rfl,⟨od.cls,od.dict,Gh.put_self.trans (congrArg (fun d=>some (od.cls,od.dict,d)) q2)⟩,q3,q4,hw,(q5 _).trans rfl,(q5 _).trans rfl,.inl rfl⟩
abbrev Made (C:Cfg) (E:Value→Shared→Prop) (v:Value) (s₁:Shared):Prop:=∃ e a dx,v=.ref e∧(∀ b o,C.h₀.get? b=some o→s₁.heap.get? b=some o)∧s₁.heap.get? e=some (excObj C.pfC a dx)∧E (.ref e) s₁
theorem aR1 (ok:FmOK C F A) (oc:CfgOK C) (D:PfD C) (hd:A.depth+3 < recursionLimit) {x:Cx} (ox:CxOK C F x) {e1 e2:Expr} {m1 m2:ME} {np cp pos:Pos} (hg:isGlob x "ParseFault" = true) (hs:[e1,e2].all notStar=true) (h1:EvSim C A F CS e1 m1) (h2:EvSim C A F CS e2 m2) :
    S1Sim C A F CS N (.Raise (some (.Call (.Name "ParseFault" np) [e1,e2] [] cp)) none pos) (.raise m1 m2):=fun {g loc c s} r Q E G =>
  U0 D ok.hh (u7 (E5 ok oc ox hg D.gC r (Q5 D (t8 hs) (s9 hs (wpAny_items_cons ((h1 r).step G fun g1 c1 hp1 t1 v1 a1 l1 r1 p1 G=>wpAny_items_cons ((h2 r1).step (s:={ s with heap:=hp1,toks:=t1 }) G fun g2 c2 hp2 t2 v2 a2 l2 r2 p2 G =>
    wpAny_items_nil ⟨r2.base,G.opt fun w e G=>(p1.mono l2).isTxt (W:=fun a1=>wpAny (model C.prog C.w) A (call (.ref C.pfC) [a1,a2] []) (Made C E) E { s with heap:=hp2,toks:=t2 }) e fun tw ht =>
      G.opt fun l e G=>p2.isInt (W:=fun a2=>wpAny (model C.prog C.w) A (call (.ref C.pfC) [.str (strOf w) tw,a2] []) (Made C E) E { s with heap:=hp2,toks:=t2 }) e fun tl =>
        aY7 oc D r2.base hd fun h' tk' e dx a' x1 x2 x3 x4 x5 x6=>(av4 r2 ht x1 x2 x3 x4 x5 x6).elim fun g3 q=>⟨e,a',_,rfl,q.2.1.base,x5,G.pf g3 h' tk' w l c2 e rfl q.1 q.2.1.weak q.2.2⟩⟩) (f4 (b7 (a8 hs)))) (f4 (b7 hs)))))))
noncomputable def endText:List Nat:=[115,121,110,116,97,120,32,101,114,114,111,114,44,32,117,110,101,120,112,101,99,116,101,100,32,101,110,100,32,111,102,32,102,105,108,101]
structure EndIs (C:Cfg):Prop where
  is:∃ fE p1 k p2 p3 p4 p5,C.mg "no_end" = some (.ref fE)∧PlainFn C.h₀ fE ["line"] ["ParseFault"] [.Return (some (.Call (.Name "ParseFault" p1) [.Constant (.str (strOf endText)) k p2,.Name "line" p3] [] p4)) p5]
theorem ap5 (ok:FmOK C F A) (oc:CfgOK C) (D:PfD C) (en:EndIs C) (hd:A.depth+4 < recursionLimit) {x:Cx} (ox:CxOK C F x) {e1:Expr} {m1:ME} {np cp pos:Pos} (hg:isGlob x "no_end" = true) (hs:[e1].all notStar=true) (h1:EvSim C A F CS e1 m1) :
    S1Sim C A F CS N (.Raise (some (.Call (.Name "no_end" np) [e1] [] cp)) none pos) (.raiseEnd m1):=fun {g loc c s} r Q E G=>by
  obtain ⟨fE,q1,q2,q3,q4,q5,q6,hgE,pf⟩:=en.is
  obtain ⟨oE,fdE,argsE,PE⟩:=id pf
  refine U0 D ok.hh (u7 (E5 ok oc ox hg hgE r (callWith_function (o:=oE) (fd:=fdE) (s9 hs (wpAny_items_cons ((h1 r).step G fun g1 c1 hp1 t1 v1 a1 l1 r1 p1 G=>wpAny_items_nil ⟨⟨r1.base _ _ PE.get,PE.data⟩,?_⟩) (f4 (b7 hs)))))))
  refine G.opt fun l e G=>p1.isInt (W:=fun a1=>wpAny (model C.prog C.w) A (call (.ref fE) [a1] []) (Made C E) E { s with heap:=hp1,toks:=t1 }) e fun tl=>?_
  refine F5 pf r1.base oc.nolimit (Nat.lt_of_le_of_lt (Nat.le_add_right _ _) hd) rfl fun env h₁ tk m P=>?_
  have hb1:∀ b o,C.h₀.get? b=some o→h₁.get? b=some o:=fun b o q=>P.keep _ _ (r1.base _ _ q)
  refine wpAny_execs_cons (wpAny_Return_some (u7 ?_))
  refine Name_function_global P.kind (P.gl "ParseFault" (by decide)) (loadGlobal_global (s:={ s with heap:=h₁,toks:=tk }) (by rw [P.glob]; exact oc.mgN.keeps hb1) D.gC ?_) rfl
  refine Q5 D (t8 rfl) (s9 rfl (wpAny_items_cons (wpAny_Constant_str ?_) (f4 rfl)))
  refine wpAny_items_cons (C7 (s:={ s with heap:=h₁,toks:=_ }) P.kind P.ns (P.loc "line" (by decide)) (P.val 0 _ _ rfl rfl) rfl (wpAny_items_nil ⟨hb1,?_⟩)) (f4 rfl)
  refine aY7 oc D hb1 (show A.depth+1+3 < _ by rw [Nat.add_assoc]; exact hd) fun h' tk' e dx a' x1 x2 x3 x4 x5 x6=>?_
  have old:∀ b,h₁.get? b=none→hp1.get? b=none:=fun b q=>Option.eq_none_iff_forall_ne_some.mpr fun o z=>j8 q (P.keep _ _ z)
  exact (av4 r1 (w:=endText) ⟨by decide,by decide⟩ (old _ x1) (old _ x2) x3 (fun b o q=>x4 _ _ (P.keep _ _ q)) x5 x6).elim fun g3 q=>⟨e,a',_,rfl,q.2.1.base,x5,G.pf g3 h' tk' endText l c1 e rfl q.1 q.2.1.weak q.2.2⟩
end
end Mine
end
section
set_option maxRecDepth 100000
namespace Mine
open PySem PySem.Spec PySem.Calls PyProof.Rows Builtin Builtin.ObjectAttr
section
variable {prog:Program} {w:World} {A:Around} {E:Value→Shared→Prop} {h:Heap} {g:Array GenState} {d:Drawn} {t:Nat} {os:OsState}
variable {nm q nm' q':PySem.Str} {C N P NP e:Addr} {bs bs':List Value} {sn sn':List PySem.Str} {sub sub':List Value} {ab ab' hd':Bool} {col col':Option Bool} {dd dd':Option Addr} {k0 k1 k2 k3 k5 j0 j1 j2 j3 j5:Option Value}
  {mN mP:PySem.Str→Option Value} {name:PySem.Str} {v:Value}
theorem ae1 {M:Model} {o:Obj} {nameV:Value} {Q:Unit→Shared→Prop}
    (hC:h.get? C=some (excClassObj nm q C N bs (pfBm P) true sn sub ab col dd k0 k1 k2 k3 k5 "Exception.__new__")) (he:h.get? e=some o) (hc:o.cls=.ref C) (hq:Q () ⟨h,g,d,t,os⟩) :
    wpAny M A (checkBuiltinCall "BaseException.__getattribute__" ⟨[.ref e,nameV],[]⟩) Q E ⟨h,g,d,t,os⟩:=by
  have hk:builtinKind "BaseException.__getattribute__" = some .slot:=by decide +kernel
  have hsplit:splitId "BaseException.__getattribute__" = some ("BaseException", "__getattribute__"):=by decide +kernel
  have hcB:(Value.ref C::pfBm P).contains (.type "BaseException")=true:=by rw [List.contains_cons,ar8]; simp
  have ha:=PySem.F.args_bexc_ga (.ref e) nameV
  simp only [checkBuiltinCall,hk,hsplit]
  refine wpAny_bind ?_
  unfold isInstance
  repeat (first | (with_reducible refine wpAny_loadPart_at he ?_; rw [hc]) | (with_reducible refine wpAny_isSubtype_exc hC ?_; rw [hcB]) | wp_step)
  exact hq
set_option maxHeartbeats 1000000 in
theorem ae0 {tk:Tok} {o:Obj} {dx:Addr} {mA:PySem.Str→Option Value} {Q:PySem.Fin→Shared→Prop}
    (hC:h.get? C=some (excClassObj nm q C N bs (pfBm P) true sn sub ab col dd k0 k1 k2 k3 k5 "Exception.__new__")) (hn:h.Ns N mN)
    (hP:h.get? P=some (excClassObj nm' q' P NP bs' bmE hd' sn' sub' ab' col' dd' j0 j1 j2 j3 j5 "Exception.__new__")) (hp:h.Ns NP mP)
    (e1:mN name=none) (e2:mP name=none) (hB:typeLookup (.type "Exception") name=pure none)
    (he:h.get? e=some o) (hc:o.cls=.ref C) (hnc:∀ c,o.data≠.cls c) (hdx:o.dict=some dx) (hns:h.Ns dx mA) (hv:mA name=some v) (hh:handedOut v=pure v) (hq:Q (.done (.ret v)) ⟨h,g,d,t,os⟩) :
    wpAny (model prog w) A (Builtin.«object.__getattribute__» ⟨[.ref e,.str name tk],[]⟩) Q E ⟨h,g,d,t,os⟩:=by
  repeat (any_goals (first | assumption | (with_reducible refine wpAny_loadPart_at he ?_; rw [hc]) | (with_reducible refine D9 hC hn hP hp e1 e2 hB ?_) | wp_step))
  split
  · rename_i c hcd
    exact absurd hcd (hnc c)
  unfold instanceDict
  repeat (first | (with_reducible refine wpAny_loadPart_at he ?_; rw [hc]) | with_reducible refine wpAny_loadPart_at hC ?_ | wp_step)
  rw [hdx]
  repeat (first | (with_reducible refine wpAny_nsGet hns ?_; rw [hv]) | wp_step)
  exact hq
set_option maxHeartbeats 1000000 in
theorem bb5 {o:Obj} {dx:Addr} {mA:PySem.Str→Option Value} {expr:Bool} {Q:Value→Shared→Prop}
    (hC:h.get? C=some (excClassObj nm q C N bs (pfBm P) true sn sub ab col dd k0 k1 k2 k3 k5 "Exception.__new__")) (hn:h.Ns N mN)
    (hP:h.get? P=some (excClassObj nm' q' P NP bs' bmE hd' sn' sub' ab' col' dd' j0 j1 j2 j3 j5 "Exception.__new__")) (hp:h.Ns NP mP)
    (e1:mN name=none) (e2:mP name=none) (g1:mN "__getattribute__" = none) (g2:mP "__getattribute__" = none) (i1:mN "__getattr__" = none) (i2:mP "__getattr__" = none) (hB:typeLookup (.type "Exception") name=pure none)
    (he:h.get? e=some o) (hc:o.cls=.ref C) (hnc:∀ c,o.data≠.cls c) (hdx:o.dict=some dx) (hns:h.Ns dx mA) (hv:mA name=some v) (hh:handedOut v=pure v) (hq:Q v ⟨h,g,d,t+1,os⟩) :
    wpAny (model prog w) A (getAttr (.ref e) name expr) Q E ⟨h,g,d,t,os⟩:=by
  have FB:=PySem.F.attrBase_Exception
  have f3:=FB.ga.bind (.ref e)
  have hx0:(expr&&onTheHeap (Value.builtin "BaseException.__getattribute__"))=false:=by cases expr <;> rfl
  have hx2:(Value.builtin "BaseException.__getattribute__" == Value.builtin "object.__getattribute__")=false:=by decide +kernel
  have hx1:(onTheHeap (Value.ref C)&&Value.builtin "BaseException.__getattribute__" == Value.builtin "object.__getattribute__")=false:=by rw [hx2]; rfl
  unfold getAttr getAttrBy
  repeat (any_goals (first | assumption | (with_reducible refine wpAny_loadPart_at he ?_; rw [hc]) | (with_reducible refine D9 hC hn hP hp g1 g2 FB.ga.lookup ?_) | (with_reducible refine D9 hC hn hP hp i1 i2 FB.noGetattr ?_) | wp_step))
  refine codeAny_call_builtin FB.ga.plain PySem.F.entry_bexc_ga (ae1 hC he hc (ae0 hC hn hP hp e1 e2 hB he hc hnc hdx hns hv hh ?_))
  show wpAny _ _ (handedOut v) _ _ _
  rw [hh]
  exact wpAny_pure hq
end
section
variable {C:Cfg} {A:Around} {F:Fm} {CS:Calls} {g:Gh} {loc:L} {c:H} {h h':Heap} {N:Nat} {s:Shared}
theorem Rel.locals (r:Rel C F g [] c h) {m:PySem.Str→Option Value} (hn:h'.Ns F.env.locals m) (hs:Heap.SameBut F.env.locals h h'):Rel C F g [] c h' :=
  { r with
    base:=(r.part (.head _) hs).1
    im:=(r.part (.head _) hs).2
    keep:=fun p hp=>(r.keep p hp).imp fun o q=>⟨(hs.2 p.1 fun z=>r.at_locals.2 (z▸M2 hp)).trans q.1,q.2⟩
    ns:=⟨m,hn,fun i v e=>nomatch e⟩
    cell:=fun i vs e=>(r.cell i vs e).imp fun a q=>q.imp fun its q=>{ q with pl:=q.pl.imp fun _=>(hs.2 a fun z=>r.at_locals.2 (z▸C8 q.pos)).trans } }
noncomputable def refText:List Nat:=[114,101,102,117,115,101,100]
theorem av5 (D:PfD C) (r:Rel C F g loc c h) {w:List Nat} {l:Int} {e:Addr} {d:ExcD} (O:ExcO C F g w l e h d) {name:PySem.Str} {val:Value} {t:Nat} {Q:Value→Shared→Prop} {E:Value→Shared→Prop} (hmem:name∈(["__setattr__", "__getattribute__", "__getattr__", "why", "line"]:List PySem.Str))
    (hl:typeLookup (.type "Exception") name=pure none) (hv:nsFind d.es name=some val) (hh:handedOut val=pure val) (hq:Q val { s with heap:=h,toks:=t+1 }):wpAny (model C.prog C.w) A (getAttr (.ref e) name true) Q E { s with heap:=h,toks:=t } :=
  O.im.elim fun cl q=>q.elim fun dd q=>(r.im _ _ q).elim fun od z =>
  bb5 (r.base _ _ D.hC) (D.hN.keeps r.base) (r.base _ _ D.hP) (D.hNP.keeps r.base) (D.noC _ hmem) (D.noP _ hmem) (D.noC _ (by decide)) (D.noP _ (by decide)) (D.noC _ (by decide)) (D.noP _ (by decide)) hl O.get O.cls (fun c q=>nomatch O.data.symm.trans q) O.dict ⟨od,d.es,d.n,z.1,z.2.2.2,O.keys,fun _=>rfl⟩ hv hh hq
theorem s_try (ok:FmOK C F A) (of:FnOK F) (oc:CfgOK C) (D:PfD C) {x:Cx} (ox:CxOK C F x) {n fn:PySem.Str} {i:Nat} {e:Expr} {m:ME} {np ap hp p1 p2 p3 p4 p5 p6 p7 hpos pos:Pos} {k1 k2:Nat}
    (ha:S1Sim C A F CS N (.Assign [.Name n np] e ap) (.assign i m)) (hg:isGlob x "ParseFault" = true) (hf:isLocal x fn=true) :
    S1Sim C A F CS N (.Try [.Assign [.Name n np] e ap] [.ExceptHandler (some (.Name "ParseFault" hp)) (some fn)
      [.Return (some (.Tuple [.Constant (.str (strOf refText)) k1 p1,.Attribute (.Name fn p2) "why" p3,.Attribute (.Name fn p4) "line" p5] k2 p6)) p7] hpos] [] [] pos) (.tryR i m):=fun {g loc c s} r Q E G=>by
  have hb:StSim C A F CS N [.Assign [.Name n np] e ap] (.seq (.assign i m) .skip):=au4 ha aF2
  have G:Goal C F (FlOK C F) g s (tryK i loc (mev CS m loc c)) Q E:=G
  cases z:mev CS m loc c with
  | stuck=>rw [z] at G; exact G.no
  | ok v c2 =>
    rw [z] at G
    have q0:mex CS N (.seq (.assign i m) .skip) loc c=.ok (.next (loc.set i (some v))) c2:=by show R.bind (R.bind (mev CS m loc c) _) _=_; rw [z]; rfl
    exact wpAny_Try_except (hb r _ _ ⟨(fun q=>nomatch q0.symm.trans q),(fun g1 h1 t1 fl c1 f q l1 y=>by
      cases q0.symm.trans q
      exact y.isNext.1▸wpAny_execs_nil (G.done (tk:=t1) l1 (a:=.next) y.isNext.2)),(fun _ _ _ _ _ _ _ q=>nomatch q0.symm.trans q)⟩)
  | pf w l c2 =>
    rw [z] at G
    have q0:mex CS N (.seq (.assign i m) .skip) loc c=.pf w l c2:=by show R.bind (R.bind (mev CS m loc c) _) _=_; rw [z]; rfl
    refine wpAny_Try_except (hb r _ _ ⟨(fun q=>nomatch q0.symm.trans q),(fun _ _ _ _ _ _ q=>nomatch q0.symm.trans q),(fun g1 h1 t1 w l c1 ea q l1 r1 y=>?_)⟩)
    cases q0.symm.trans q
    refine X6 (s:={ s with heap:=h1,toks:=t1 }) ok of r1 y fun h2 r2 y2=>G2 (s:={ s with heap:=h2,toks:=t1 }) r2 y2 fun h3 r3 y3=>?_
    have hkf:=A3 ox hf
    have hdb:(fn==("__debug__" : PySem.Str))=false:=v8 (a8 hf)
    have hp0:(F.env.scope.kind==.class || (F.env.scope.kind==.module&&F.env.locals != F.env.globals))=false:=by rw [ok.kind]; rfl
    obtain ⟨d3,O3,_⟩:=y3.obj
    refine wpAny_handleBy_cons (codeAny_handlers_test (Name_function_global ok.kind (O9 ox hg) (loadGlobal_global (s:={ s with heap:=h3,toks:=t1 }) (ok.glob▸oc.mgN.keeps r3.base) D.gC ?_) (v8 (a8 hg)))) (fun q=>nomatch q)
    refine wpAny_excMatches_sub_self (h:=h3) (r3.base _ _ D.hC) O3.get O3.cls (ar8 D.P) (codeAny_handlers_suite_as ?_)
    refine G2 (s:={ s with heap:=h3,toks:=t1 }) r3 y3 fun h4 r4 y4=>?_
    obtain ⟨m4,hm4,_⟩:=r4.ns
    refine wpAny_storeName_local (s:={ s with heap:=h4,toks:=t1 }) hkf hm4 (fun h5 hn5 hs5=>?_) hp0
    have r5:=r4.locals hn5 hs5
    obtain ⟨d4,O4,t4,T4⟩:=y4.obj
    have nel:ea≠F.env.locals:=fun z=>y4.off.2 (z▸.head _)
    have O5:ExcO C F g1 w l ea h5 d4:=O4.same ((hs5.2 ea nel).trans O4.get) fun t T=>⟨t,{ T with get:=(hs5.2 t.T fun z=>T.off.2 (z▸.head _)).trans T.get }⟩
    refine wpAny_execs_cons (wpAny_Return_some (wpAny_Tuple (wpAny_items_cons (wpAny_Constant_str ?_) (f4 rfl))))
    refine wpAny_items_cons (Attribute_name (C7 (s:={ s with heap:=h5,toks:=_ }) ok.kind hn5 hkf (if_pos rfl) hdb (av5 D r5 O5 (by decide) aJ5 O5.why rfl ?_))) (f4 rfl)
    refine wpAny_items_cons (Attribute_name (C7 (s:={ s with heap:=h5,toks:=_ }) ok.kind hn5 hkf (if_pos rfl) hdb (av5 D r5 O5 (by decide) aw8 O5.line rfl ?_))) (f4 rfl)
    refine wpAny_items_nil ?_
    have N5:=fun its=>Rel.newSeq (T := "tuple") (s:={ s with heap:=h5,toks:=0 }) r5 its
    refine ⟨by show 3≤sizeLine; decide,?_⟩
    refine wpAny_nameGoes (s:={ s with heap:=_,toks:=_ }) hkf (hn5.keeps fun a o e=>Heap.get?_push_of_some _ e) hp0 fun h7 m7 hn7 hs7=>?_
    exact G.done (l1.trans (N5 _).2.1) (a:=.ret _) ⟨(N5 _).1.locals hn7 hs7,.tup (N5 _).2.2 (.cons (.txt ⟨by decide,by decide⟩) (.cons (.txt O5.txt) (.cons (.int l _) .nil))) (by show 3≤big; rw [k7]; decide)⟩
end
end Mine
end
section
set_option genInjectivity false
namespace Mine
open PySem PySem.Spec PySem.Calls PyProof.Rows PySem.MeetsSeq
section
variable {prog:Program} {w:World} {A:Around} {E:Value→Shared→Prop} {s:Shared} {l:Addr} {its:List Value}
theorem I2 {h:Heap} (hl:h.PlainList l its.toArray) (f:Array Value→Array Value) {its':List Value} (e:f its.toArray=its'.toArray):(h.update l (Obj.mapSeq f)).PlainList l its'.toArray:=hl.elim fun n ho=>e▸⟨_,IsL.update ho f⟩
theorem as7 {Q:Value→Shared→Prop} (hl:s.heap.PlainList l its.toArray) (hz:its.length≤sizeLine) (hQ:∀ h',h'.PlainList l ([]:List Value).toArray→Heap.SameBut l s.heap h'→Q .none { s with heap:=h' }) :
    wpAny (model prog w) A (call (.builtin "list.clear") [.ref l]) Q E s :=
  hl.elim fun n ho=>call_meets PySem.F.slot_list_clear ⟨_,ho,rfl⟩ PySem.F.entry_list_clear (PySem.F.args_list_clear_1 _) (AutoSeq1.list_clear_list_0 l its.toArray n hz) ⟨ho,hQ _ (I2 hl _ rfl) (Heap.SameBut.update ..)⟩
theorem bb2 {α:Type} (l:List α):l.toArray.eraseIdxIfInBounds (l.toArray.size - 1)=l.dropLast.toArray:=(List.eraseIdxIfInBounds_toArray l _).trans (congrArg _ List.eraseIdx_length_sub_one)
theorem aN7 {y:Value} {Q:Value→Shared→Prop} (hl:s.heap.PlainList l its.toArray) (hy:its.getLast?=some y) (hz:its.length≤sizeLine) (hQ:∀ h',h'.PlainList l its.dropLast.toArray→Heap.SameBut l s.heap h'→Q y { s with heap:=h' }) :
    wpAny (model prog w) A (call (.builtin "list.pop") [.ref l]) Q E s :=
  hl.elim fun n ho=>call_meets PySem.F.slot_list_pop ⟨_,ho,rfl⟩ PySem.F.entry_list_pop (PySem.F.args_list_pop_1 _) (list_pop_last l its.toArray n y (List.getElem?_toArray.trans (List.getLast?_eq_getElem?.symm.trans hy)) hz) ⟨ho,hQ _ (I2 hl _ (bb2 its)) (Heap.SameBut.update ..)⟩
theorem O1 {i n j:Nat} (h:placeOf (Int.ofNat i) n=some j):i=j∧j < n:=by
  unfold placeOf at h
  split at h
  · rename_i q; cases h; exact ⟨rfl,q.2⟩
  · split at h
    · rename_i q; exact absurd q.1 (Int.not_lt.mpr (Int.natCast_nonneg i))
    · cases h
theorem ab0 {i n j:Nat} (h:placeOf (Int.negSucc i) n=some j):(Int.negSucc i+n).toNat=j∧j < n∧-(n:Int)≤Int.negSucc i:=by
  unfold placeOf at h
  split at h
  · rename_i q; exact absurd (Int.negSucc_lt_zero i) (Int.not_lt.mpr q.1)
  · split at h
    · rename_i q; cases h; have:=q.2; omega
    · cases h
theorem aV4 {i n:Nat} (h:i < n) (z:n≤sizeLine):Builtin.List.listFitsIndex (Int.ofNat i)=true:=fitsIndex_of (Int.natCast_nonneg i) (big63 (k:=Int.ofNat i) (Int.natCast_nonneg i) h z)
theorem aV3 {i n:Nat} (z:n≤sizeLine) (h:-(n:Int)≤Int.negSucc i):Builtin.List.listFitsIndex (Int.negSucc i)=true :=
  fitsIndex_neg (Int.negSucc_lt_zero i) (Int.le_trans (Int.neg_le_neg (Int.ofNat_le.mpr (Nat.le_trans z (show sizeLine≤2 ^ 63 by decide)))) h)
theorem aF4 {k:Int} {t:Tok} {v:Value} {j:Nat} {Q:Unit→Shared→Prop} (hl:s.heap.PlainList l its.toArray) (hz:its.length≤sizeLine) (hp:placeOf k its.length=some j)
    (hQ:∀ h',h'.PlainList l (its.set j v).toArray→Heap.SameBut l s.heap h'→Q () { s with heap:=h' }):wpAny (model prog w) A (setItem (.ref l) (.int k t) v) Q E s:=by
  obtain ⟨n,ho⟩:=id hl
  unfold setItem
  try with_reducible refine wpAny_holding ?_
  first | refine wpAny_bind (wpAny_pure ?_) | skip
  refine wpAny_bind (wpAny_sequenceKey hl.isList.typeIs (by decide) ?_)
  refine wpAny_bind (wpAny_callSpecial?_slot (name:=Str.ofString "__setitem__") hl.isList.typeIs slot_list_setitem
    (wpAny_call_entry slot_list_setitem hl.isList.typeIs entry_list_setitem ?_ (args_list_setitem _ _ _)))
  show wpAny _ _ (Builtin.List.listSubscript? (.int k t) >>= _) _ _ s
  have e:(fun x:Array Value=>x.setIfInBounds j v) its.toArray=(its.set j v).toArray:=List.setIfInBounds_toArray its j v
  have hf:Builtin.List.listFitsIndex k=true:=by
    cases k with
    | ofNat i=>exact aV4 ((O1 hp).1▸(O1 hp).2) hz
    | negSucc i=>exact aV3 hz (ab0 hp).2.2
  refine wpAny_bind (wpAny_listSubscript_int hf ?_)
  clear hf
  have hd:({ cls:=.type "list",data:=.seq its.toArray n }:Obj).data=.seq its.toArray n:=rfl
  cases k with
  | ofNat i =>
    have q:=O1 hp
    show wpAny _ _ ((seqItemAt l i >>= fun r=>pure (r.map (i,·))) >>= _) _ _ s
    refine wpAny_bind (wpAny_bind (wpAny_seqItemAt ho rfl (wpAny_pure ?_)))
    rw [q.1,List.getElem?_toArray,List.getElem?_eq_getElem q.2]
    show wpAny _ _ (setSeqItemAt l j v >>= _) _ _ s
    refine wpAny_bind (wpAny_setSeqItemAt (items:=its.toArray) (n:=n) ho hd ?_)
    have fin:=hQ _ (I2 hl (fun x=>x.setIfInBounds j v) e) (Heap.SameBut.update ..)
    first
      | exact wpAny_bind (wpAny_pure (wpAny_pure ⟨.none,rfl,wpAny_pure fin⟩))
      | exact wpAny_pure ⟨.none,rfl,wpAny_pure fin⟩
  | negSucc i =>
    have q:=ab0 hp
    show wpAny _ _ ((Builtin.List.listItems (.ref l) >>= fun xs=>pure ((seqIndex? (Int.negSucc i) xs.size).bind fun i=>xs[i]?.map (i,·))) >>= _) _ _ s
    refine wpAny_bind (wpAny_bind ?_)
    show wpAny _ _ (seqItems? (.ref l) >>= _) _ _ s
    refine wpAny_bind (wpAny_seqItems ho rfl (wpAny_pure (wpAny_pure ?_)))
    rw [show seqIndex? (Int.negSucc i) its.toArray.size=some j from (PySem.seqIndex_neg (Int.negSucc_lt_zero i) (by have:=q.2.2; rw [List.size_toArray]; omega)).trans (congrArg some q.1),Option.bind_some,List.getElem?_toArray,List.getElem?_eq_getElem q.2.1]
    show wpAny _ _ (setSeqItemAt l j v >>= _) _ _ s
    refine wpAny_bind (wpAny_setSeqItemAt (items:=its.toArray) (n:=n) ho hd ?_)
    have fin:=hQ _ (I2 hl (fun x=>x.setIfInBounds j v) e) (Heap.SameBut.update ..)
    first
      | exact wpAny_bind (wpAny_pure (wpAny_pure ⟨.none,rfl,wpAny_pure fin⟩))
      | exact wpAny_pure ⟨.none,rfl,wpAny_pure fin⟩
end
section
variable {C:Cfg} {A:Around} {F:Fm} {CS:Calls} {N:Nat}
theorem VRs.dropLast {g:Gh} {vs:List V} {its:List Value} (h:VRs C g vs its):VRs C g vs.dropLast its.dropLast:=by
  rw [List.dropLast_eq_take,List.dropLast_eq_take,h.length]; exact h.take _
theorem VRs.set {g:Gh} {v:V} {a:Value} (hv:VR C g v a) {vs:List V}:∀ {its:List Value} {j:Nat},VRs C g vs its→VRs C g (vs.set j v) (its.set j a):=by
  induction vs with
  | nil=>exact fun h=>(show _=_ from h)▸.nil
  | cons w vs ih =>
    refine fun {its j} h=>h.elim fun x h=>h.elim fun r h=>h.1▸?_
    cases j with
    | zero=>exact .cons hv h.2.2
    | succ j=>exact .cons h.2.1 (ih h.2.2)
theorem aM7 {e1:Expr} {m1:ME} {apos pos:Pos} (hb:baseOK e1=true) (hline:(apos.endLine==pos.line)=true) (h1:EvSim C A F CS e1 m1) :
    EvSim C A F CS (.Call (.Attribute e1 "clear" apos) [] [] pos) (.p1 .clear m1):=fun r Q E G =>
  A9 hb (by decide) rfl hline PySem.F.plainAttrs_list PySem.F.slot_list_clear PySem.F.type_list_clear ((h1 r).step G fun g1 c1 hp tk _ a _ r1 p1 G=>⟨G.obind fun n e _=>aq5 r1 p1 e,wpAny_items_nil
    (G.obind fun n e G=>p1.isRef (W:=fun a=>wpAny _ A (call (.builtin "list.clear") [a]) Q E { heap:=hp,gens:=_,drawn:=_,toks:=tk,os:=_ }) e fun p hp=>G.omap fun vs hc G=>(r1.cellAt hp hc).elim fun its w =>
      as7 w.pl (w.vrs.length▸Nat.le_trans w.len v5) fun h' hl' hsb=>G.done g1.le_refl ⟨r1.setCell hp .nil (Nat.zero_le _) hl' hsb,.none⟩)⟩)
theorem be4 {e1:Expr} {m1:ME} {apos pos:Pos} (hb:baseOK e1=true) (hline:(apos.endLine==pos.line)=true) (h1:EvSim C A F CS e1 m1) :
    EvSim C A F CS (.Call (.Attribute e1 "pop" apos) [] [] pos) (.p1 .pop m1):=fun r Q E G =>
  A9 hb (by decide) rfl hline PySem.F.plainAttrs_list PySem.F.slot_list_pop PySem.F.type_list_pop ((h1 r).step G fun g1 c1 hp tk _ a _ r1 p1 G=>⟨G.obind fun n e _=>aq5 r1 p1 e,wpAny_items_nil
    (G.obind fun n e G=>p1.isRef (W:=fun a=>wpAny _ A (call (.builtin "list.pop") [a]) Q E { heap:=hp,gens:=_,drawn:=_,toks:=tk,os:=_ }) e fun p hp=>G.obind fun vs hc G=>G.omap fun v hv G=>(r1.cellAt hp hc).elim fun its w =>
      (w.vrs.get (List.getLast?_eq_getElem?.symm.trans hv)).elim fun y q=>aN7 w.pl ((List.getLast?_eq_getElem?).trans (w.vrs.length▸q.1)) (w.vrs.length▸Nat.le_trans w.len v5) fun h' hl' hsb=>G.done g1.le_refl ⟨r1.setCell hp w.vrs.dropLast (Nat.le_trans (List.length_dropLast▸Nat.sub_le _ _) w.len) hl' hsb,q.2⟩)⟩)
theorem aG3 (ok:FmOK C F A) {e1 e2 e3:Expr} {m1 m2 m3:ME} {p' pos:Pos} (hn:noComp e3=true) (h1:EvSim C A F CS e1 m1) (h2:EvSim C A F CS e2 m2) (h3:EvSim C A F CS e3 m3) :
    S1Sim C A F CS N (.Assign [.Subscript e1 e2 p'] e3 pos) (.setidx m1 m2 m3):=fun r Q E G =>
  wpAny_Assign_Subscript ((h3 r).step G fun _ _ _ _ _ a3 _ r3 p3 G=>(h1 r3).step G fun _ _ _ _ _ a1 l1 r1 p1 G=>(h2 r1).step G fun g2 c2 hp tk _ a2 l2 r2 p2 G =>
    G.opt fun n e G=>(p1.mono l2).isRef (W:=fun a1=>wpAny _ A (setItem a1 a2 a3) (fun _=>Q .next) E { heap:=hp,gens:=_,drawn:=_,toks:=tk,os:=_ }) e fun p hp=>G.opt fun k e G=>p2.isInt (W:=fun a2=>wpAny _ A (setItem (.ref p) a2 a3) (fun _=>Q .next) E _) e fun t =>
      G.opt fun vs hc G=>G.opt fun j hj G=>(r2.cellAt hp hc).elim fun its w=>aF4 w.pl (w.vrs.length▸Nat.le_trans w.len v5) (w.vrs.length▸hj) fun h' hl' hsb =>
        G.done (a:=.next) g2.le_refl (r2.setCell hp (w.vrs.set ((p3.mono l1).mono l2)) (Nat.le_trans (Nat.le_of_eq List.length_set) w.len) hl' hsb)) (A8 hn _ _ _)
end
end Mine
end
section
set_option genInjectivity false
set_option genSizeOf false
namespace Mine
open PySem PySem.Spec PySem.Calls PyProof.Rows
section
variable {κ K:Type} [DecidableEq K]
noncomputable def Tab (con:κ→Const):List (κ×List Nat)→List (Option Expr)→List Expr→Prop
  | [],ks,vs=>ks=[]∧vs=[]
  | (k,t)::r,ks,vs=>∃ n p n' p' ks' vs',ks=some (.Constant (con k) n p)::ks'∧vs=.Constant (.str (strOf t)) n' p'::vs'∧TxtOK t∧Tab con r ks' vs'
noncomputable def TabV (f:κ→K):List (κ×List Nat)→List (K×Value)→Prop
  | [],kvals=>kvals=[]
  | (k,t)::r,kvals=>∃ tok r',kvals=(f k,.str (strOf t) tok)::r'∧TxtOK t∧TabV f r r'
noncomputable def TabAt (t:Option (List Nat)) (o:Option Value):Prop:=match t with | some t=>∃ tok,o=some (.str (strOf t) tok)∧TxtOK t | none=>o=none
theorem aE6 [BEq κ] [LawfulBEq κ] {f:κ→K} (inj:∀ a b,f a=f b→a=b) (k:κ) {kvs:List (κ×List Nat)}:∀ {kvals:List (K×Value)},TabV f kvs kvals→TabAt (kvs.lookup k) (valueAt kvals (f k)):=by
  induction kvs with
  | nil=>intro kvals h; cases (h:kvals=[]); rfl
  | cons p r ih =>
    obtain ⟨k',t⟩:=p
    refine fun {kvals} h=>h.elim fun tok h=>h.elim fun r' h=>h.1▸?_
    rw [List.lookup_cons]
    unfold valueAt
    rw [List.find?_cons]
    cases e:k==k' with
    | true=>rw [eq_of_beq e,decide_eq_true rfl]; exact ⟨tok,rfl,h.2.1⟩
    | false =>
      rw [decide_eq_false fun q=>beq_eq_false_iff_ne.mp e (inj _ _ q).symm]
      exact ih h.2.2
theorem aE5 {f:κ→K} {kvs:List (κ×List Nat)}:∀ {kvals:List (K×Value)},TabV f kvs kvals→kvals.map (·.1)=kvs.map fun p=>f p.1:=by
  induction kvs with
  | nil=>intro kvals h; cases (h:kvals=[]); rfl
  | cons p r ih=>exact fun h=>h.elim fun tok h=>h.elim fun r' h=>h.1▸congrArg (f p.1::·) (ih h.2.2)
variable {prog:Program} {w:World} {knd:PySem.KeyKind prog w K} {A:Around} {E:Value→Shared→Prop} {env:Env}
noncomputable def KeyTree (knd:PySem.KeyKind prog w K) (con:κ→Const) (f:κ→K):Prop:=∀ (k:κ) (n:Nat) (p:Pos) (A:Around) (env:Env) (Q:Value→Shared→Prop) (E:Value→Shared→Prop) (s:Shared),(∀ key tk,knd.is (f k) key=true→Q key { s with toks:=tk })→wpAny (model prog w) A (eval (.Constant (con k) n p) env) Q E s
theorem az4 {con:κ→Const} {f:κ→K} (hc:KeyTree knd con f) (dpos:Pos) {kvs:List (κ×List Nat)}:∀ {ks:List (Option Expr)} {vs:List Expr},Tab con kvs ks vs →
    ∃ pairs,((evalEachOpt ks env).zip ((evalEach vs env).map fun v=>do let x ← v; standAt dpos; pure x)=pairs.map fun p=>(some p.1,p.2))∧pairs.length=kvs.length ∧
      ∀ (Q:List (Value×Value)→Shared→Prop) (s:Shared),(∀ vals kvals tk,Carries knd vals kvals→TabV f kvs kvals→Q vals { s with toks:=tk })→wpAny (model prog w) A (evalPairs pairs) Q E s:=by
  induction kvs with
  | nil =>
    intro ks vs T
    cases T.1; cases T.2
    exact ⟨[],rfl,rfl,fun Q s h=>evalPairs_nil (h [] [] s.toks trivial rfl)⟩
  | cons q r ih =>
    obtain ⟨k,t⟩:=q
    intro ks vs T
    obtain ⟨n,p,n',p',ks',vs',rfl,rfl,ht,T'⟩:=T
    obtain ⟨pairs,e1,e2,e3⟩:=ih T'
    refine ⟨(eval (.Constant (con k) n p) env,do let x ← eval (.Constant (.str (strOf t)) n' p') env; standAt dpos; pure x)::pairs,congrArg (_::·) e1,congrArg (· + 1) e2,fun Q s h=>evalPairs_cons (hc k n p _ _ _ _ _ fun key tk hk=>wpAny_bind (wpAny_Constant_str (wpAny_bind (wpAny_standAt (wpAny_pure ?_))))) ⟩
    exact e3 _ _ fun vals kvals tk' hC hV=>h _ ((f k,_)::kvals) _ ⟨hk,rfl,hC⟩ ⟨_,kvals,rfl,ht,hV⟩
theorem disp {con:κ→Const} {f:κ→K} (hc:KeyTree knd con f) {kvs:List (κ×List Nat)} {ks:List (Option Expr)} {vs:List Expr} {pos:Pos} (T:Tab con kvs ks vs) (h0:kvs≠[]) (hl:kvs.length≤15) (hn:(kvs.map fun p=>f p.1).Nodup) {Q:Value→Shared→Prop} {s:Shared}
    (h:∀ h' tk kvals,h'.DictOf knd s.heap.objs.size kvals→TabV f kvs kvals→(∀ b o,s.heap.get? b=some o→h'.get? b=some o)→Q (.ref s.heap.objs.size) { s with heap:=h',toks:=tk }):wpAny (model prog w) A (eval (.Dict ks vs pos) env) Q E s :=
  (az4 (A:=A) (E:=E) (env:=env) hc pos T).elim fun pairs q=>wpAny_Dict_pairs (knd:=knd) q.1 (fun e=>h0 (List.length_eq_zero_iff.mp (q.2.1.symm.trans (congrArg List.length e)))) (q.2.1▸hl) (q.2.2 _ _ fun vals kvals tk hC hV =>
    ⟨kvals,hC,Heap.DictOf.new _,fun h' hd hs=>h h' _ kvals (merged_nil_of_nodup kvals (aE5 hV▸hn)▸hd) hV fun b o e=>(hs.2 b (Nat.ne_of_lt (Heap.lt_size e))).trans (Heap.get?_push_of_some _ e)⟩)
end
theorem aU4 {prog:Program} {w:World}:KeyTree (intKind prog w) Const.int id:=fun k n p A env Q E s h=>wpAny_Constant_int (h _ _ (show Value.isInt k (.int k s.toks)=true from beq_self_eq_true k))
theorem aU3 {prog:Program} {w:World}:KeyTree (strKind prog w) (fun l=>Const.str (strOf l)) strOf:=fun k n p A env Q E s h=>wpAny_Constant_str (h _ _ (show Value.isStrOf (strOf k) (.str (strOf k) s.toks)=true from beq_self_eq_true _))
section
variable {C:Cfg} {A:Around} {F:Fm} {CS:Calls} {x:Cx} {g:Gh} {loc:L} {c:H} {s:Shared} {N:Nat}
theorem aw3 (oc:CfgOK C) (r:Rel C F g loc c s.heap):(s.heap.objs.size==sysModules)=false :=
  (r.ns0 oc.mgN).elim fun o q=>q.elim fun es q=>q.elim fun ep q=>beq_eq_false_iff_ne.mpr (Nat.ne_of_gt (Nat.lt_trans (show sysModules < mainGlobals by decide) (Heap.lt_size q.1)))
theorem aN8 {K:Type} [DecidableEq K] {knd:PySem.KeyKind C.prog C.w K} {d:Addr} {kvals:List (K×Value)} {k:K} {key dflt:Value} {Q:Value→Shared→Prop} {E:Value→Shared→Prop} (hd:(d==sysModules)=false) (hm:s.heap.DictOf knd d kvals) (hk:knd.is k key=true)
    (hq:Q ((valueAt kvals k).getD dflt) { s with toks:=s.toks+1 }):wpAny (model C.prog C.w) A (call (.builtin "dict.get") [.ref d,key,dflt]) Q E s :=
  call_meetsIn PySem.F.slot_dict_get hm.mapOf.typeIs PySem.F.entry_dict_get (PySem.F.args_dict_get_3 _ _ _) (meets_dict_get_default knd d hk hd dflt) ⟨_,hm.mapOf,hq⟩
theorem aV9 (ok:FmOK C F A) (oc:CfgOK C) (ox:CxOK C F x) {kvs:List (Int×List Nat)} {ks:List (Option Expr)} {vs:List Expr} {k d:Nat} {nk nd:PySem.Str} {pk pd dp apos pos:Pos} (T:Tab Const.int kvs ks vs) (h0:kvs≠[]) (hl:kvs.length≤15) (hn:(kvs.map (·.1)).Nodup)
    (hk:isSlot x nk k=true) (hd:isSlot x nd d=true) (hline:(apos.endLine==pos.line)=true):EvSim C A F CS (.Call (.Attribute (.Dict ks vs dp) "get" apos) [.Name nk pk,.Name nd pd] [] pos) (.getI kvs k d):=fun {g loc c s} r Q E G=>by
  refine G.opt fun v e G=>j9 e fun vk e1 e=>j9 e fun i e2 e=>u0 e fun vd e3 e4=>?_
  subst e4
  refine A9 rfl (by decide:2+0+0 < 30) rfl hline PySem.F.plainAttrs_dict PySem.F.slot_dict_get PySem.F.type_dict_get (disp (knd:=intKind C.prog C.w) aU4 T h0 hl hn fun h' tk kvals hm hV keep=>?_)
  have r':Rel C F g loc c h':=r.keeps keep
  refine ⟨⟨hm.mapOf.typeIs,hm.mapOf.noDict⟩,wpAny_items_cons (E8 (s:={ s with heap:=h',toks:=tk }) ok ox hk r' e1 fun a p=>wpAny_items_cons (E8 (s:={ s with heap:=h',toks:=tk }) ok ox hd r' e3 fun b q=>wpAny_items_nil ?_) (f4 rfl)) (f4 rfl)⟩
  refine p.isInt (W:=fun a=>wpAny _ A (call (.builtin "dict.get") [.ref s.heap.objs.size,a,b]) Q E { s with heap:=h',toks:=tk }) e2 fun t=>aN8 (knd:=intKind C.prog C.w) (k:=i) (aw3 oc r) hm (show Value.isInt i (.int i t)=true from beq_self_eq_true i) ?_
  have at':=aE6 (f:=id) (fun _ _ e=>e) i hV
  cases hl:kvs.lookup i with
  | none =>
    rw [hl] at at' G
    rw [show valueAt kvals i=none from at']
    exact G.done g.le_refl ⟨r',q⟩
  | some t =>
    rw [hl] at at' G
    exact Exists.elim at' fun tok w=>(show valueAt kvals i=some (.str (strOf t) tok) from w.1)▸G.done g.le_refl ⟨r',.txt w.2⟩
end
end Mine
end
section
set_option genInjectivity false
set_option genSizeOf false
namespace Mine
open PySem PySem.Spec PySem.Calls PyProof.Rows
section
variable {C:Cfg} {A:Around} {F:Fm} {CS:Calls} {x:Cx} {g:Gh} {loc:L} {c:H} {h h':Heap} {s:Shared} {N:Nat}
theorem aM5 (ok:FmOK C F A) (oc:CfgX C) (ox:CxOK C F x) {e1:Expr} {m1:ME} {np pos:Pos} (hb:isBlt x "tuple" (.type "tuple")=true) (hs:[e1].all notStar=true) (h1:EvSim C A F CS e1 m1) :
    EvSim C A F CS (.Call (.Name "tuple" np) [e1] [] pos) (.p1 .tuple m1):=fun {_ _ _ s} r Q E G =>
  u7 (D1 ok oc ox hb r (v4 rfl (t8 hs) (s9 hs (wpAny_items_cons ((h1 r).step G fun g1 c1 hp tk _ a _ r1 p1 G=>wpAny_items_nil (G.obind fun n e G =>
    p1.isRef (W:=fun a=>wpAny _ A (call (.type "tuple") [a]) Q E { heap:=hp,gens:=_,drawn:=_,toks:=tk,os:=_ }) e fun p ha=>G.omap fun vs hc G=>(r1.cellAt ha hc).elim fun its w =>
      call_tuple_list w.pl.isList (fun h' hk=>have n:=Rel.newSeq (T := "tuple") (s:={ s with heap:=h',toks:=tk }) (r1.keeps hk) its; G.done n.2.1 ⟨n.1,.tup n.2.2 (w.vrs.mono n.2.1) w.len⟩) (show its.length≤sizeLine from w.vrs.length▸Nat.le_trans w.len v5))) (f4 (b7 hs))))))
theorem aM6 (ok:FmOK C F A) (oc:CfgX C) (ox:CxOK C F x) {e1:Expr} {m1:ME} {np ip pos:Pos} (hb:isBlt x "isinstance" (.builtin "isinstance")=true) (hi:isBlt x "int" (.type "int")=true) (hs:[e1].all notStar=true) (h1:EvSim C A F CS e1 m1) :
    EvSim C A F CS (.Call (.Name "isinstance" np) [e1,.Name "int" ip] [] pos) (.p1 .isint m1):=fun r Q E G =>
  have hs':[e1,.Name "int" ip].all notStar=true:=Bool.and_eq_true_iff.mpr ⟨b7 hs,rfl⟩
  u7 (D1 ok oc ox hb r (v4 rfl (t8 hs') (s9 hs' (wpAny_items_cons ((h1 r).step G fun g1 c1 hp tk _ a _ r1 p1 G=>wpAny_items_cons (D1 ok oc ox hi (s:={ heap:=hp,gens:=_,drawn:=_,toks:=tk,os:=_ }) r1 (wpAny_items_nil
    (G.pick (fun G=>G.omap fun i e G=>p1.isInt (W:=fun a=>wpAny _ A (call (.builtin "isinstance") [a,.type "int"]) Q E _) e fun t=>IsiPair.int_int (G.now (s:={ heap:=hp,gens:=_,drawn:=_,toks:=tk,os:=_ }) r1 (.bool _)))
      fun G=>G.omap fun i e G=>p1.isTxt (W:=fun a=>wpAny _ A (call (.builtin "isinstance") [a,.type "int"]) Q E _) e fun t _=>IsiPair.str_int (G.now (s:={ heap:=hp,gens:=_,drawn:=_,toks:=tk,os:=_ }) r1 (.bool _))))) (f4 rfl)) (f4 (b7 hs))))))
theorem Rel.storeN (r:Rel C F g loc c h) {i:Nat} {n:PySem.Str} {val:Value} {m:PySem.Str→Option Value} (hr:LocOK C F.env F.vars g loc m) (hx:F.vars[i]?=some n) (hu:F.vars.Nodup)
    (hn:h'.Ns F.env.locals (fun y=>if y=n then some val else m y)) (hs:Heap.SameBut F.env.locals h h'):Rel C F g (loc.set i none) c h' :=
  { r with
    base:=(r.part (.head _) hs).1
    im:=(r.part (.head _) hs).2
    keep:=fun p hp=>(r.keep p hp).imp fun o q=>⟨(hs.2 p.1 fun z=>r.at_locals.2 (z▸M2 hp)).trans q.1,q.2⟩
    ns:=⟨_,hn,fun j u e=>if q:j=i then nomatch ad0 (q▸e:(loc.set i none)[i]?=some (some u)) else (hr j u ((List.getElem?_set_ne (Ne.symm q)).symm.trans e)).imp fun y w=>w.imp fun v' w =>
      ⟨w.var,w.rd.imp (fun z=>⟨z.1,(show (if y=n then some val else m y)=m y from if_neg fun z:y=n=>q ((List.getElem?_inj (List.getElem?_eq_some_iff.mp w.var).1 hu).mp (w.var.trans (z▸hx.symm)))).trans z.2⟩) id,w.vr⟩⟩
    cell:=fun i vs e=>(r.cell i vs e).imp fun a q=>q.imp fun its q=>{ q with pl:=q.pl.imp fun _=>(hs.2 a fun z=>r.at_locals.2 (z▸C8 q.pos)).trans } }
theorem aL5 {i k:Nat} {o:Option V} (h:k≠i):getV (loc.set i o) k=getV loc k:=congrArg (Option.bind · id) (List.getElem?_set_ne h.symm)
theorem az7 (ok:FmOK C F A) (oc:CfgOK C) (ox:CxOK C F x) {kvs:List (List Nat×List Nat)} {ks:List (Option Expr)} {vs:List Expr} {i k:Nat} {n nk:PySem.Str} {np n2 n3 dp ap kp k2 cp p5 p6 p7 pos:Pos} {z:Nat} {e:Expr} {m:ME} {rest:List Stmt} {mr:MS}
    (T:Tab (fun l=>Const.str (strOf l)) kvs ks vs) (h0:kvs≠[]) (hl:kvs.length≤15) (hn:(kvs.map fun p=>strOf p.1).Nodup) (hi:isSlot x n i=true) (hloc:isLocal x n=true) (hk:isSlot x nk k=true) (hne:n≠nk) (hs:notStar e=true) (he:EvSim C A F CS e m) (hr:StSim C A F CS N rest mr) :
    StSim C A F CS N (.Assign [.Name n np] (.Dict ks vs dp) ap::.If (.Compare (.Name nk kp) [.In] [.Name n n2] cp) [.Return (some (.Tuple [.Subscript (.Name n n3) (.Name nk k2) p5,e] z p6)) p7] [] pos::rest) (.seq (.dictIf i kvs k m) mr):=fun {g loc c s} r Q E G=>by
  have G:=G.o_in
  refine G.opt fun t e1 G=>j9 e1 fun vk e2 e3=>?_
  have hik:k≠i:=fun q=>hne (Option.some.inj ((R4 (q▸hi)).symm.trans (R4 hk)))
  have hkf:=A3 ox hloc
  have hdb:(n==("__debug__" : PySem.Str))=false:=v8 (a8 hloc)
  refine wpAny_execs_cons (wpAny_Assign_Name (disp (knd:=PySem.strKind C.prog C.w) aU3 T h0 hl hn fun h1 tk kvals hm hV keep=>?_) (A8 rfl _ _ _))
  have r1:Rel C F g loc c h1:=r.keeps keep
  refine r1.ns.elim fun mm q=>wpAny_storeName_local (s:={ s with heap:=h1,toks:=tk }) hkf q.1 (fun h2 hn2 hs2=>?_) (by rw [ok.kind]; rfl)
  have r2:=r1.storeN q.2 (ox.vars▸R4 hi) ok.uniq hn2 hs2
  have hd:s.heap.objs.size≠F.env.locals:=fun z=>r.fresh.2 (z▸.head _)
  have hm2:h2.DictOf (PySem.strKind C.prog C.w) s.heap.objs.size kvals:=hm.imp fun o w=>w.imp fun es w=>w.imp fun ep w=>⟨(hs2.2 _ hd).trans w.1,w.2⟩
  have ld:∀ {M:Model} {p:Pos} {Q:Value→Shared→Prop} {E:Value→Shared→Prop} {tk:Nat},Q (.ref s.heap.objs.size) { s with heap:=h2,toks:=tk }→wpAny M A (eval (.Name n p) F.env) Q E { s with heap:=h2,toks:=tk }:=fun hq=>wpAny_Name (wpAny_loadName_local ok.kind hkf hn2 (if_pos rfl) hq) hdb
  have e2':getV (loc.set i none) k=some vk:=(aL5 hik).trans e2
  have at':=aE6 (f:=strOf) (fun a b e=>congrArg Array.toList (PySem.Str.mk.inj e)) t hV
  refine wpAny_execs_cons (wpAny_If (wpAny_isTrue_Compare1 (E8 (s:={ s with heap:=h2,toks:=_ }) ok ox hk r2 e2' fun a p=>ld ?_) rfl))
  refine p.isTxt (W:=fun a=>wpAny _ A (compareOp .In a (.ref s.heap.objs.size)) _ _ _) e3 fun tok ht=>wpAny_in_of (knd:=PySem.strKind C.prog C.w) (k:=strOf t) (show Value.isStrOf (strOf t) (.str (strOf t) tok)=true from beq_self_eq_true _) (aw3 oc r) hm2.mapOf (wpAny_truthy_bool ?_)
  cases hl:kvs.lookup t with
  | none =>
    rw [hl] at at' G
    rw [show valueAt kvals (strOf t)=none from at']
    exact wpAny_execs_nil (hr r2 _ _ (G.move g.le_refl))
  | some v =>
    rw [hl] at at' G
    have G:Goal C F (FlOK C F) g s (((mev CS m (loc.set i none) c).bind fun x h=>.ok (.ret (.tup [.str v,x])) h).bind fun f h=>seqR f h (mex CS N mr)) Q E:=G
    refine Exists.elim at' fun tv w=>?_
    rw [w.1]
    refine wpAny_execs_cons (wpAny_Return_some (wpAny_Tuple (wpAny_items_cons (wpAny_Subscript_Name PySem.slot_dict_getitem.lookup (ld (E8 (s:={ s with heap:=h2,toks:=_ }) ok ox hk r2 e2' fun a p=>⟨hm2.mapOf.typeIs,?_⟩)) fun _ _=>rfl) (f4 rfl))))
    refine p.isTxt (W:=fun a=>wpAny _ A (getItem (.ref s.heap.objs.size) a) _ _ _) e3 fun tok ht=>wpAny_getItem_of (knd:=PySem.strKind C.prog C.w) (k:=strOf t) (show Value.isStrOf (strOf t) (.str (strOf t) tok)=true from beq_self_eq_true _) hm2.mapOf w.1 ?_
    refine wpAny_items_cons (Sim.step (s:={ s with heap:=h2,toks:=_ }) (he r2) (Goal.assoc (G.move g.le_refl)) fun g3 c3 h3 tk3 y a l3 r3 p3 G=>wpAny_items_nil ⟨(by decide:2≤sizeLine),?_⟩) (f4 hs)
    have N3:=Rel.newSeq (T := "tuple") (s:={ s with heap:=h3,toks:=tk3 }) r3 [.str (strOf v) tv,a]
    exact G.done (a:=.ret _) N3.2.1 ⟨N3.1.weak,.tup N3.2.2 (.cons (.txt w.2) (.cons (p3.mono N3.2.1) .nil)) (show 2≤big by rw [k7]; decide)⟩
end
end Mine
end
section
namespace Mine
open PySem PySem.Spec PySem.Calls PyProof.Rows
noncomputable def capNames (x:Cx) (caps:List Nat):List PySem.Str:=caps.filterMap (x.vars[·]?)
noncomputable def isNoneE (m:ME):Bool:=match m with | .none=>true | _=>false
noncomputable def isTrueE (m:ME):Bool:=match m with | .bool true=>true | _=>false
noncomputable def isZeroE (m:ME):Bool:=match m with | .int 0=>true | _=>false
theorem W4 {m:ME} {P:ME→Prop} (h:isNoneE m=true) (H:P .none):P m:=by cases m <;> first | exact H | exact no_f h
theorem W3 {m:ME} {P:ME→Prop} (h:isTrueE m=true) (H:P (.bool true)):P m:=by
  cases m with
  | bool b=>cases b with | true=>exact H | false=>exact no_f h
  | _=>exact no_f h
theorem ar0 {m:ME} {P:ME→Prop} (h:isZeroE m=true) (H:P (.int 0)):P m:=by
  cases m with
  | int i =>
    by_cases e:i=0
    · rw [e]; exact H
    · unfold isZeroE at h; split at h <;> first | (rename_i q; cases q; exact absurd rfl e) | exact no_f h
  | _=>exact no_f h
noncomputable def tabOK {κ:Type} (eqc:κ→Const→Bool):List (κ×List Nat)→List (Option Expr)→List Expr→Bool
  | [],ks,vs=>lNil ks (lNil vs true)
  | p::r,ks,vs=>lCons ks fun k ks=>lCons vs fun v vs=>oSome k fun k=>xConst k fun c _ _=>xConst v fun d _ _=>cStr d fun u=>eqc p.1 c&&(decide (u=strOf p.2)&&(decide (p.2.length≤bigN)&&(p.2.all (fun c=>decide (c < 1114112))&&tabOK eqc r ks vs)))
theorem ah9 {κ:Type} {eqc:κ→Const→Bool} {con:κ→Const} (hc:∀ k c,eqc k c=true→c=con k) {kvs:List (κ×List Nat)}:∀ {ks:List (Option Expr)} {vs:List Expr},tabOK eqc kvs ks vs=true→Tab con kvs ks vs:=by
  induction kvs with
  | nil=>exact fun {ks vs} h=>m5 (P:=fun ks=>Tab con [] ks vs) h fun h=>m5 (P:=fun vs=>Tab con [] [] vs) h fun _=>⟨rfl,rfl⟩
  | cons p r ih =>
    exact fun {ks vs} h=>q9 (P:=fun ks=>Tab con (p::r) ks vs) h fun k ks h=>q9 (P:=fun vs=>Tab con (p::r) (k::ks) vs) h fun v vs h=>v7 (P:=fun k=>Tab con (p::r) (k::ks) (v::vs)) h fun k h =>
      x0 (P:=fun k=>Tab con (p::r) (some k::ks) (v::vs)) h fun c n q h=>x0 (P:=fun v=>Tab con (p::r) (some (.Constant c n q)::ks) (v::vs)) h fun d n' q' h=>N4 (P:=fun d=>Tab con (p::r) (some (.Constant c n q)::ks) (.Constant d n' q'::vs)) h fun u h =>
      ⟨n,q,n',q',ks,vs,congrArg (fun c=>some (Expr.Constant c n q)::ks) (hc _ _ (b7 h)),congrArg (fun u=>Expr.Constant (.str u) n' q'::vs) (g7 (b7 (a8 h))),⟨Nat.le_trans (S4 (g7 (b7 (a8 (a8 h))))) v5,fun c hc=>g7 (List.all_eq_true.mp (b7 (a8 (a8 (a8 h)))) c hc)⟩,ih (a8 (a8 (a8 (a8 h))))⟩
noncomputable def eqI (k:Int) (c:Const):Bool:=cInt c fun j=>decide (k=j)
noncomputable def eqS (k:List Nat) (c:Const):Bool:=cStr c fun u=>decide (u=strOf k)
theorem bf4 (k:Int) (c:Const) (h:eqI k c=true):c=.int k:=ay6 (P:=fun c=>c=.int k) h fun j h=>g7 h▸rfl
theorem bf3 (k:List Nat) (c:Const) (h:eqS k c=true):c=.str (strOf k):=N4 (P:=fun c=>c=.str (strOf k)) h fun j h=>g7 h▸rfl
noncomputable def m1Of:P1→Option PySem.Str | .lower=>some "lower" | .clear=>some "clear" | .pop=>some "pop" | _=>none
noncomputable def isNmE (e:Expr) (n:PySem.Str):Bool:=xName e fun m _=>decide (m=n)
mutual
noncomputable def okE:ME→Cx→Expr→Bool
  | .none,_,e=>xConst e fun v _ _=>cNone v
  | .bool b,_,e=>xConst e fun v _ _=>cBool v fun b'=>b==b'
  | .int i,_,e=>xConst e fun v _ _=>cInt v fun j=>decide (i=j)
  | .str l,_,e=>xConst e fun v _ _=>cStr v fun t=>decide (t=strOf l)&&(decide (l.length≤bigN)&&l.all (fun c=>decide (c < 1114112)))
  | .var i,x,e=>xName e fun n _=>isSlot x n i
  | .glob f,x,e=>xName e fun n _=>isGlob x n&&x.fns.contains (n,f)
  | .bin o a b,x,e=>xBin e fun e1 op e2 _=>decide (op=opB o)&&(okE a x e1&&okE b x e2)
  | .cmp o a b,x,e=>xCmp e fun e1 ops es _=>l1 ops fun op=>l1 es fun e2=>decide (op=opC o)&&(!behindInMarks (opC o) e2&&(okE a x e1&&okE b x e2))
  | .cmp2 o p a b c,x,e=>xCmp e fun e1 ops es _=>l2 ops fun op oq=>l2 es fun e2 e3=>decide (op=opC o)&&(decide (oq=opC p)&&(!lastMarks [opC o,opC p] [e2,e3]&&(okE a x e1&&(okE b x e2&&okE c x e3))))
  | .isnone a,x,e=>xCmp e fun e1 ops es _=>l1 ops fun op=>l1 es fun e2=>decide (op=.Is)&&xConst e2 fun v _ _=>cNone v&&okE a x e1
  | .notnone a,x,e=>xCmp e fun e1 ops es _=>l1 ops fun op=>l1 es fun e2=>decide (op=.IsNot)&&xConst e2 fun v _ _=>cNone v&&okE a x e1
  | .and a b,x,e=>xBoolOp e fun op vs pos=>decide (op=.And)&&lCons vs fun e1 r=>lCons r fun e2 es=>okE a x e1&&lPick es (okE b x e2) (okE b x (.BoolOp .And (e2::es) pos))
  | .or a b,x,e=>xBoolOp e fun op vs pos=>decide (op=.Or)&&lCons vs fun e1 r=>lCons r fun e2 es=>okE a x e1&&lPick es (okE b x e2) (okE b x (.BoolOp .Or (e2::es) pos))
  | .not a,x,e=>xUn e fun op e1 _=>decide (op=.Not)&&okE a x e1
  | .neg a,x,e=>xUn e fun op e1 _=>decide (op=.USub)&&okE a x e1
  | .ite t a b,x,e=>xIf e fun e0 e1 e2 _=>okE t x e0&&(okE a x e1&&okE b x e2)
  | .idx a i,x,e=>xSub e fun e1 e2 _=>okE a x e1&&okE i x e2
  | .slc a lo hi,x,e=>xSub e fun e1 e2 _=>xSlice e2 fun l h st _=>oNone st (okE a x e1&&(oPick l (fun l=>okE lo x l) (isNoneE lo)&&oPick h (fun h=>okE hi x h) (isNoneE hi)))
  | .slst a lo st,x,e=>xSub e fun e1 e2 _=>xSlice e2 fun l h s _=>oSome l fun l=>oNone h (oSome s fun s=>okE a x e1&&(okE lo x l&&okE st x s))
  | .attr a f,x,e=>xAttr e fun v at' _=>xName v fun n np=>decide (at'=attrName f)&&okE a x (.Name n np)
  | .call f as,x,e=>xCall e fun v es ws _=>xName v fun n _=>lNil ws (isGlob x n&&(x.fns.contains (n,f)&&okEs as x es))
  | .callv i as,x,e=>xCall e fun v es ws _=>xName v fun n _=>lNil ws (isSlot x n i&&okEs as x es)
  | .mk as,x,e=>xCall e fun v es ws _=>xName v fun n _=>lNil ws (decide (n = "Token")&&(isGlob x "Token" && lCons es fun e1 t=>okEs as x (e1::t)))
  | .p1 p a,x,e=>xCall e fun v es ws pos=>lNil ws (
      (xName v fun n _=>l1 es fun e1=>oSome (p1Fn p) fun f=>isBlt x n f&&([e1].all notStar&&okE a x e1)) ||
      ((xAttr v fun e1 n apos=>lNil es (oSome (m1Of p) fun m=>decide (n=m)&&(baseOK e1&&((apos.endLine==pos.line)&&okE a x e1)))) ||
      (xName v fun n _=>(decide (p=.tuple)&&(decide (n = "tuple")&&(isBlt x "tuple" (.type "tuple")&&l1 es fun e1=>[e1].all notStar&&okE a x e1))) ||
        (decide (p=.isint)&&(decide (n = "isinstance")&&(isBlt x "isinstance" (.builtin "isinstance")&&(isBlt x "int" (.type "int")&&l2 es fun e1 e2=>isNmE e2 "int" && ([e1].all notStar&&okE a x e1))))))))
  | .p2 p a b,x,e=>xCall e fun v es ws pos=>lNil ws (
      (xName v fun n _=>l2 es fun e1 e2=>oSome (p2Fn p) fun f=>isBlt x n f&&([e1,e2].all notStar&&(okE a x e1&&okE b x e2))) ||
      (xAttr v fun e1 n apos=>l1 es fun e2=>oPick (m2Of p) (fun t=>decide (n=t.1)) (decide (p=.append)&&decide (n = "append"))&&(baseOK e1&&([e2].all notStar&&((apos.endLine==pos.line)&&(okE a x e1&&okE b x e2))))))
  | .p3 p a b c,x,e=>xCall e fun v es ws pos=>lNil ws (xAttr v fun e1 n apos=>l2 es fun e2 e3=>decide (p=.find)&&(decide (n = "find")&&(baseOK e1&&([e2,e3].all notStar&&((apos.endLine==pos.line)&&(okE a x e1&&(okE b x e2&&okE c x e3)))))))
  | .tup es,x,e=>xTup e fun l _ _=>decide (es.len≤bigN)&&okEs es x l
  | .list es,x,e=>xList e fun l _=>decide (es.len≤bigN)&&okEs es x l
  | .cell es,x,e=>xList e fun l _=>decide (es.len≤bigN)&&okEs es x l
  | .dead,_,_=>true
  | .getI kvs k d,x,e=>xCall e fun v es ws pos=>lNil ws (xAttr v fun o n apos=>xDict o fun ks vs _=>l2 es fun a b=>xName a fun nk _=>xName b fun nd _=>decide (n = "get")&&(tabOK eqI kvs ks vs&&(!kvs.isEmpty&&(decide (kvs.length≤15)&&(decide (kvs.map (·.1)).Nodup&&(isSlot x nk k&&(isSlot x nd d&&(apos.endLine==pos.line))))))))
  | .comp caps it elt cond,x,e=>xComp e fun e1 gs sc _=>l1 gs fun g=>xGen g fun t _ it' ifs=>notSet it'&&(compOK x sc t caps (capNames x caps)&&(okE it x it'&&(okE elt (compCx x sc t (capNames x caps)) e1 &&
      (lNil ifs (isTrueE cond) || l1 ifs fun c=>okE cond (compCx x sc t (capNames x caps)) c))))
noncomputable def okEs:MEs→Cx→List Expr→Bool
  | .nil,_,es=>lNil es true
  | .cons m r,x,es=>lCons es fun e t=>notStar e&&(okE m x e&&okEs r x t)
end
section
variable {C:Cfg} {A:Around} {CS:Calls}
structure Base (C:Cfg) (A:Around) (CS:Calls):Prop where
  oc:CfgX C
  tk:TokIs C
  pf:Nonempty (PfD C)
  en:EndIs C
  hd:A.depth+8 < recursionLimit
  hu:A.units+64 < cLine
  calls:∀ F,FmOK C F A→CallsAt C A F CS
noncomputable def notBool (e:Expr):Bool:=match e with | .BoolOp ..=>false | _=>true
noncomputable def Got (C:Cfg) (A:Around) (F:Fm) (CS:Calls) (m:ME) (e:Expr):Prop :=
  EvSim C A F CS e m∧TsSim C A F CS e m∧∀ o es pos,e=.BoolOp o es pos→BsSim C A F CS o es m∧AsSim C A F CS o es m
variable {F:Fm}
theorem V1 {e:Expr} {P:Prop} (hn:notBool e=true) {o:BoolOp} {es:List Expr} {pos:Pos} (q:e=.BoolOp o es pos):P:=by subst q; exact no_f hn
theorem Got.plain {m:ME} {e:Expr} (h:EvSim C A F CS e m) (hn:notBool e=true:=by rfl) (he:∀ whole,isTrue e F.env whole=(do let v ← whole; standAt e.pos; holding [v] (truthy v)):=by intro _; rfl):Got C A F CS m e :=
  ⟨h,TsSim.plain h he,fun o es pos q=>V1 hn q⟩
theorem Got.test {m:ME} {e:Expr} (h:EvSim C A F CS e m) (t:TsSim C A F CS e m) (hn:notBool e=true:=by rfl):Got C A F CS m e:=⟨h,t,fun o es pos q=>V1 hn q⟩
noncomputable def GotAll (C:Cfg) (A:Around) (CS:Calls) (x:Cx) (m:ME) (e:Expr):Prop:=∀ F,FmOK C F A→CxOK C F x→Got C A F CS m e
noncomputable def GotEs (C:Cfg) (A:Around) (CS:Calls) (ms:MEs) (x:Cx) (es:List Expr):Prop:=es.all notStar=true∧∀ F,FmOK C F A→CxOK C F x→EsSim C A F CS es ms
theorem aL2 {a b:ME} {x:Cx} {e1 e2:Expr} {es:List Expr} {pos:Pos} {op:BoolOp} (hb:GotAll C A CS x b (if es.isEmpty then e2 else .BoolOp op (e2::es) pos)) (F:Fm) (ok:FmOK C F A) (ox:CxOK C F x) :
    BsSim C A F CS op (e2::es) b∧AsSim C A F CS op (e2::es) b:=by
  cases es with
  | nil=>exact ⟨bf8 (hb F ok ox).1,bg4 (hb F ok ox).2.1⟩
  | cons y r=>exact (hb F ok ox).2.2 _ _ _ rfl
theorem av2 {op:BoolOp} {m:ME} {x:Cx} {e2:Expr} {es:List Expr} {pos:Pos} {a b:Bool} (h:lPick es a b=true) (H:a=true→GotAll C A CS x m e2) (K:b=true→GotAll C A CS x m (.BoolOp op (e2::es) pos)):GotAll C A CS x m (if es.isEmpty then e2 else .BoolOp op (e2::es) pos):=by
  cases es with
  | nil=>exact H h
  | cons y r=>exact K h
theorem m1_is {q:P1} {m:PySem.Str} (hm:m1Of q=some m) {P:P1→PySem.Str→Prop} {n:PySem.Str} (hn:n=m) (h1:P .lower "lower") (h2:P .clear "clear") (h3:P .pop "pop"):P q n:=by
  subst hn
  cases q with
  | lower=>exact Option.some.inj hm▸h1
  | clear=>exact Option.some.inj hm▸h2
  | pop=>exact Option.some.inj hm▸h3
  | _=>cases hm
mutual
theorem d8 (B:Base C A CS):∀ (m:ME) (x:Cx) (e:Expr),okE m x e=true→GotAll C A CS x m e
  | .none,x,e,h=>x0 (P:=GotAll C A CS x .none) h fun v i p h=>Y5 (P:=fun v=>GotAll C A CS x .none (.Constant v i p)) h fun F ok ox=>.plain aV6
  | .bool b,x,e,h=>x0 (P:=GotAll C A CS x (.bool b)) h fun v i p h=>aO0 (P:=fun v=>GotAll C A CS x (.bool b) (.Constant v i p)) h fun b' h F ok ox=>r8 h▸.plain aW4
  | .int b,x,e,h=>x0 (P:=GotAll C A CS x (.int b)) h fun v i p h=>ay6 (P:=fun v=>GotAll C A CS x (.int b) (.Constant v i p)) h fun b' h F ok ox=>g7 h▸.plain be8
  | .str l,x,e,h=>x0 (P:=GotAll C A CS x (.str l)) h fun v i p h=>N4 (P:=fun v=>GotAll C A CS x (.str l) (.Constant v i p)) h fun t h F ok ox =>
      .plain (be2 (g7 (b7 h)) (S4 (g7 (b7 (a8 h)))) fun c hc=>g7 (List.all_eq_true.mp (a8 (a8 h)) c hc))
  | .var i,x,e,h=>k6 (P:=GotAll C A CS x (.var i)) h fun n p h F ok ox=>.plain (be0 ok ox h)
  | .glob f,x,e,h=>k6 (P:=GotAll C A CS x (.glob f)) h fun n p h F ok ox=>.plain (aV8 ok B.oc.toCfgOK ox (b7 h) (List.contains_iff_mem.mp (a8 h)))
  | .bin o a b,x,e,h=>aP3 (P:=GotAll C A CS x (.bin o a b)) h fun e1 op e2 p h F ok ox=>by
    cases g7 (b7 h)
    exact .plain (bf1 (d8 B a x _ (b7 (a8 h)) F ok ox).1 (d8 B b x _ (a8 (a8 h)) F ok ox).1)
  | .cmp o a b,x,e,h=>J9 (P:=GotAll C A CS x (.cmp o a b)) h fun e1 ops es p h=>u5 (P:=fun ops=>GotAll C A CS x (.cmp o a b) (.Compare e1 ops es p)) h fun op h=>u5 (P:=fun es=>GotAll C A CS x (.cmp o a b) (.Compare e1 [op] es p)) h fun e2 h F ok ox=>by
    cases g7 (b7 h)
    have hm:=v8 (b7 (a8 h))
    have ha:=d8 B a x _ (b7 (a8 (a8 h))) F ok ox
    have hb:=d8 B b x _ (a8 (a8 (a8 h))) F ok ox
    exact .test (bf0 B.hu hm ha.1 hb.1) (aZ7 B.hu hm ha.1 hb.1)
  | .cmp2 o q a b c,x,e,h=>J9 (P:=GotAll C A CS x (.cmp2 o q a b c)) h fun e1 ops es p h=>B9 (P:=fun ops=>GotAll C A CS x (.cmp2 o q a b c) (.Compare e1 ops es p)) h fun op oq h=>B9 (P:=fun es=>GotAll C A CS x (.cmp2 o q a b c) (.Compare e1 [op,oq] es p)) h fun e2 e3 h F ok ox=>by
    cases g7 (b7 h)
    cases g7 (b7 (a8 h))
    have h:=a8 (a8 h)
    have hm:=v8 (b7 h)
    have ha:=d8 B a x _ (b7 (a8 h)) F ok ox
    have hb:=d8 B b x _ (b7 (a8 (a8 h))) F ok ox
    have hc:=d8 B c x _ (a8 (a8 (a8 h))) F ok ox
    exact .test (aW1 B.hu hm ha.1 hb.1 hc.1) (aP5 B.hu hm ha.1 hb.1 hc.1)
  | .isnone a,x,e,h=>J9 (P:=GotAll C A CS x (.isnone a)) h fun e1 ops es p h=>u5 (P:=fun ops=>GotAll C A CS x (.isnone a) (.Compare e1 ops es p)) h fun op h=>u5 (P:=fun es=>GotAll C A CS x (.isnone a) (.Compare e1 [op] es p)) h fun e2 h =>
    x0 (P:=fun e2=>GotAll C A CS x (.isnone a) (.Compare e1 [op] [e2] p)) (a8 h) fun v i p' h'=>Y5 (P:=fun v=>GotAll C A CS x (.isnone a) (.Compare e1 [op] [.Constant v i p'] p)) (b7 h') fun F ok ox=>by
    cases g7 (b7 h)
    have ha:=d8 B a x _ (a8 h') F ok ox
    exact .test (aC0 ha.1) (az3 ha.1)
  | .notnone a,x,e,h=>J9 (P:=GotAll C A CS x (.notnone a)) h fun e1 ops es p h=>u5 (P:=fun ops=>GotAll C A CS x (.notnone a) (.Compare e1 ops es p)) h fun op h=>u5 (P:=fun es=>GotAll C A CS x (.notnone a) (.Compare e1 [op] es p)) h fun e2 h =>
    x0 (P:=fun e2=>GotAll C A CS x (.notnone a) (.Compare e1 [op] [e2] p)) (a8 h) fun v i p' h'=>Y5 (P:=fun v=>GotAll C A CS x (.notnone a) (.Compare e1 [op] [.Constant v i p'] p)) (b7 h') fun F ok ox=>by
    cases g7 (b7 h)
    have ha:=d8 B a x _ (a8 h') F ok ox
    exact .test (as0 ha.1) (an6 ha.1)
  | .and a b,x,e,h=>S2 (P:=GotAll C A CS x (.and a b)) h fun op vs p h=>q9 (P:=fun vs=>GotAll C A CS x (.and a b) (.BoolOp op vs p)) (a8 h) fun e1 r h'=>q9 (P:=fun r=>GotAll C A CS x (.and a b) (.BoolOp op (e1::r) p)) h' fun e2 es h' F ok ox=>by
    cases g7 (b7 h)
    have ha:=d8 B a x _ (b7 h') F ok ox
    have key:=aL2 (a:=a) (e1:=e1) (av2 (op:=.And) (pos:=p) (a8 h') (d8 B b x _) (d8 B b x _)) F ok ox
    have h1:=bf9 ha.1 key.1
    have h2:AsSim C A F CS .And (e1::e2::es) (.and a b):=bg5 ha.2.1 key.2
    exact ⟨X8 h1,S3 h2,fun o es pos q=>by cases q; exact ⟨h1,h2⟩⟩
  | .or a b,x,e,h=>S2 (P:=GotAll C A CS x (.or a b)) h fun op vs p h=>q9 (P:=fun vs=>GotAll C A CS x (.or a b) (.BoolOp op vs p)) (a8 h) fun e1 r h'=>q9 (P:=fun r=>GotAll C A CS x (.or a b) (.BoolOp op (e1::r) p)) h' fun e2 es h' F ok ox=>by
    cases g7 (b7 h)
    have ha:=d8 B a x _ (b7 h') F ok ox
    have key:=aL2 (a:=a) (e1:=e1) (av2 (op:=.Or) (pos:=p) (a8 h') (d8 B b x _) (d8 B b x _)) F ok ox
    have h1:=bs_or ha.1 key.1
    have h2:AsSim C A F CS .Or (e1::e2::es) (.or a b):=as_or ha.2.1 key.2
    exact ⟨X8 h1,S3 h2,fun o es pos q=>by cases q; exact ⟨h1,h2⟩⟩
  | .not a,x,e,h=>aD6 (P:=GotAll C A CS x (.not a)) h fun op e1 p h F ok ox=>by
    cases g7 (b7 h)
    have ha:=d8 B a x _ (a8 h) F ok ox
    exact .test (be5 ha.1) (aZ5 ha.2.1)
  | .neg a,x,e,h=>aD6 (P:=GotAll C A CS x (.neg a)) h fun op e1 p h F ok ox=>by
    cases g7 (b7 h)
    exact .plain (be6 (d8 B a x _ (a8 h) F ok ox).1)
  | .ite t a b,x,e,h=>aZ4 (P:=GotAll C A CS x (.ite t a b)) h fun e0 e1 e2 p h F ok ox =>
    have ht:=d8 B t x _ (b7 h) F ok ox
    have ha:=d8 B a x _ (b7 (a8 h)) F ok ox
    have hb:=d8 B b x _ (a8 (a8 h)) F ok ox
    .test (be7 ht.2.1 ha.1 hb.1) (aZ6 ht.2.1 ha.2.1 hb.2.1)
  | .idx a i,x,e,h=>J8 (P:=GotAll C A CS x (.idx a i)) h fun e1 e2 p h F ok ox=>.plain (be9 (d8 B a x _ (b7 h) F ok ox).1 (d8 B i x _ (a8 h) F ok ox).1)
  | .slc a lo hi,x,e,h=>J8 (P:=GotAll C A CS x (.slc a lo hi)) h fun e1 e2 p h=>Z7 (P:=fun e2=>GotAll C A CS x (.slc a lo hi) (.Subscript e1 e2 p)) h fun l hh st p' h=>E2 (P:=fun st=>GotAll C A CS x (.slc a lo hi) (.Subscript e1 (.Slice l hh st p') p)) h fun h F ok ox =>
    .plain (be3 (d8 B a x _ (b7 h) F ok ox).1
      (U8 (P:=fun l=>OpSim C A F CS l lo) (b7 (a8 h)) (fun y h=>av9 (d8 B lo x _ h F ok ox).1) fun h=>W4 (P:=fun m=>OpSim C A F CS none m) h aw0)
      (U8 (P:=fun l=>OpSim C A F CS l hi) (a8 (a8 h)) (fun y h=>av9 (d8 B hi x _ h F ok ox).1) fun h=>W4 (P:=fun m=>OpSim C A F CS none m) h aw0))
  | .slst a lo st,x,e,h=>J8 (P:=GotAll C A CS x (.slst a lo st)) h fun e1 e2 p h=>Z7 (P:=fun e2=>GotAll C A CS x (.slst a lo st) (.Subscript e1 e2 p)) h fun l hh s p' h=>v7 (P:=fun l=>GotAll C A CS x (.slst a lo st) (.Subscript e1 (.Slice l hh s p') p)) h fun l h =>
    E2 (P:=fun hh=>GotAll C A CS x (.slst a lo st) (.Subscript e1 (.Slice (some l) hh s p') p)) h fun h=>v7 (P:=fun s=>GotAll C A CS x (.slst a lo st) (.Subscript e1 (.Slice (some l) none s p') p)) h fun s h F ok ox =>
    .plain (aV5 (d8 B a x _ (b7 h) F ok ox).1 (d8 B lo x _ (b7 (a8 h)) F ok ox).1 (d8 B st x _ (a8 (a8 h)) F ok ox).1)
  | .attr a f,x,e,h=>B4 (P:=GotAll C A CS x (.attr a f)) h fun v at' p h=>k6 (P:=fun v=>GotAll C A CS x (.attr a f) (.Attribute v at' p)) h fun n np h F ok ox=>by
    cases g7 (b7 h)
    exact .plain (aW5 (aX8 B.tk) (d8 B a x _ (a8 h) F ok ox).1)
  | .call f as,x,e,h=>w9 (P:=GotAll C A CS x (.call f as)) h fun v es ws p h=>k6 (P:=fun v=>GotAll C A CS x (.call f as) (.Call v es ws p)) h fun n np h=>m5 (P:=fun ws=>GotAll C A CS x (.call f as) (.Call (.Name n np) es ws p)) h fun h F ok ox =>
    have ha:=A2 B as x _ (a8 (a8 h))
    .plain (aW3 ok B.oc.toCfgOK ox (B.calls F ok) (b7 h) (List.contains_iff_mem.mp (b7 (a8 h))) ha.1 (ha.2 F ok ox))
  | .callv i as,x,e,h=>w9 (P:=GotAll C A CS x (.callv i as)) h fun v es ws p h=>k6 (P:=fun v=>GotAll C A CS x (.callv i as) (.Call v es ws p)) h fun n np h=>m5 (P:=fun ws=>GotAll C A CS x (.callv i as) (.Call (.Name n np) es ws p)) h fun h F ok ox =>
    have ha:=A2 B as x _ (a8 h)
    .plain (aM8 ok B.oc.toCfgOK ox (B.calls F ok) (b7 h) ha.1 (ha.2 F ok ox))
  | .mk as,x,e,h=>w9 (P:=GotAll C A CS x (.mk as)) h fun v es ws p h=>k6 (P:=fun v=>GotAll C A CS x (.mk as) (.Call v es ws p)) h fun n np h=>m5 (P:=fun ws=>GotAll C A CS x (.mk as) (.Call (.Name n np) es ws p)) h fun h=>q9 (P:=fun es=>GotAll C A CS x (.mk as) (.Call (.Name n np) es [] p)) (a8 (a8 h)) fun e1 t h' F ok ox =>
    have ha:=A2 B as x _ h'
    (g7 (b7 h):n = "Token")▸.plain (ev_mk ok B.oc ox (mk_at B.oc.toCfgOK B.tk B.hd) (b7 (a8 h)) ha.1 (ha.2 F ok ox))
  | .p1 q a,x,e,h=>w9 (P:=GotAll C A CS x (.p1 q a)) h fun v es ws p h=>m5 (P:=fun ws=>GotAll C A CS x (.p1 q a) (.Call v es ws p)) h fun h=>(E1 h).elim
    (fun h=>k6 (P:=fun v=>GotAll C A CS x (.p1 q a) (.Call v es [] p)) h fun n np h=>u5 (P:=fun es=>GotAll C A CS x (.p1 q a) (.Call (.Name n np) es [] p)) h fun e1 h=>u8 h fun f hf h F ok ox =>
      .plain (ev_b1 ok B.oc ox (b7 h) hf (b7 (a8 h)) (d8 B a x _ (a8 (a8 h)) F ok ox).1))
    fun h=>(E1 h).elim (fun h=>B4 (P:=fun v=>GotAll C A CS x (.p1 q a) (.Call v es [] p)) h fun e1 n apos h=>m5 (P:=fun es=>GotAll C A CS x (.p1 q a) (.Call (.Attribute e1 n apos) es [] p)) h fun h=>u8 h fun m hm h F ok ox =>
      m1_is hm (P:=fun q m=>GotAll C A CS x (.p1 q a) (.Call (.Attribute e1 m apos) [] [] p)) (g7 (b7 h)) (fun F ok ox=>.plain (ev_m1 ok (b7 (a8 h)) (b7 (a8 (a8 h))) (d8 B a x _ (a8 (a8 (a8 h))) F ok ox).1))
        (fun F ok ox=>.plain (aM7 (b7 (a8 h)) (b7 (a8 (a8 h))) (d8 B a x _ (a8 (a8 (a8 h))) F ok ox).1)) (fun F ok ox=>.plain (be4 (b7 (a8 h)) (b7 (a8 (a8 h))) (d8 B a x _ (a8 (a8 (a8 h))) F ok ox).1)) F ok ox)
    fun h=>k6 (P:=fun v=>GotAll C A CS x (.p1 q a) (.Call v es [] p)) h fun n np h=>(E1 h).elim
      (fun h=>(g7 (b7 h):q=.tuple)▸(g7 (b7 (a8 h)):n = "tuple")▸u5 (P:=fun es=>GotAll C A CS x (.p1 .tuple a) (.Call (.Name "tuple" np) es [] p)) (a8 (a8 (a8 h))) fun e1 h' F ok ox=>.plain (aM5 ok B.oc ox (b7 (a8 (a8 h))) (b7 h') (d8 B a x _ (a8 h') F ok ox).1))
      fun h=>(g7 (b7 h):q=.isint)▸(g7 (b7 (a8 h)):n = "isinstance")▸B9 (P:=fun es=>GotAll C A CS x (.p1 .isint a) (.Call (.Name "isinstance" np) es [] p)) (a8 (a8 (a8 (a8 h)))) fun e1 e2 h' =>
        k6 (P:=fun e2=>GotAll C A CS x (.p1 .isint a) (.Call (.Name "isinstance" np) [e1,e2] [] p)) (b7 h') fun n2 p2 hn F ok ox=>(g7 hn:n2 = "int")▸.plain (aM6 ok B.oc ox (b7 (a8 (a8 h))) (b7 (a8 (a8 (a8 h)))) (b7 (a8 h')) (d8 B a x _ (a8 (a8 h')) F ok ox).1)
  | .p2 q a b,x,e,h=>w9 (P:=GotAll C A CS x (.p2 q a b)) h fun v es ws p h=>m5 (P:=fun ws=>GotAll C A CS x (.p2 q a b) (.Call v es ws p)) h fun h=>(E1 h).elim
    (fun h=>k6 (P:=fun v=>GotAll C A CS x (.p2 q a b) (.Call v es [] p)) h fun n np h=>B9 (P:=fun es=>GotAll C A CS x (.p2 q a b) (.Call (.Name n np) es [] p)) h fun e1 e2 h=>u8 h fun f hf h F ok ox =>
      have h':=a8 (a8 h)
      .plain (ev_b2 ok B.oc ox (b7 h) hf (b7 (a8 h)) (d8 B a x _ (b7 h') F ok ox).1 (d8 B b x _ (a8 h') F ok ox).1))
    (fun h=>B4 (P:=fun v=>GotAll C A CS x (.p2 q a b) (.Call v es [] p)) h fun e1 n apos h=>u5 (P:=fun es=>GotAll C A CS x (.p2 q a b) (.Call (.Attribute e1 n apos) es [] p)) h fun e2 h F ok ox =>
      have hb:=b7 (a8 h)
      have hs:=b7 (a8 (a8 h))
      have hl:=b7 (a8 (a8 (a8 h)))
      have h':=a8 (a8 (a8 (a8 h)))
      have ha:=d8 B a x _ (b7 h') F ok ox
      have hb2:=d8 B b x _ (a8 h') F ok ox
      aH8 (b7 h) (fun t hm hp=>by
        cases t with | mk n' id=>cases (g7 hp:n=n'); exact .plain (ev_m2 ok hm hb hs hl ha.1 hb2.1)) fun hm hp=>by
        have e1':q=.append:=g7 (b7 hp)
        have e2':n = "append" := g7 (a8 hp)
        clear hm hp
        subst e1' e2'
        exact .plain (aC1 ok hb hs hl ha.1 hb2.1))
  | .p3 q a b c,x,e,h=>w9 (P:=GotAll C A CS x (.p3 q a b c)) h fun v es ws p h=>m5 (P:=fun ws=>GotAll C A CS x (.p3 q a b c) (.Call v es ws p)) h fun h =>
    B4 (P:=fun v=>GotAll C A CS x (.p3 q a b c) (.Call v es [] p)) h fun e1 n apos h=>B9 (P:=fun es=>GotAll C A CS x (.p3 q a b c) (.Call (.Attribute e1 n apos) es [] p)) h fun e2 e3 h F ok ox=>by
      have e1':q=.find:=g7 (b7 h)
      have e2':n = "find" := g7 (b7 (a8 h))
      have h:=a8 (a8 h)
      have h':=a8 (a8 (a8 h))
      rw [e1',e2']
      exact .plain (ev_m3 (b7 h) (b7 (a8 h)) (b7 (a8 (a8 h))) (d8 B a x _ (b7 h') F ok ox).1 (d8 B b x _ (b7 (a8 h')) F ok ox).1 (d8 B c x _ (a8 (a8 h')) F ok ox).1)
  | .tup es,x,e,h=>F0 (P:=GotAll C A CS x (.tup es)) h fun l k p h F ok ox =>
    .plain (be1 ((A2 B es x _ (a8 h)).2 F ok ox) (S4 (g7 (b7 h))))
  | .list es,x,e,h=>ag7 (P:=GotAll C A CS x (.list es)) h fun l p h F ok ox=>.plain (aV7 ((A2 B es x _ (a8 h)).2 F ok ox) (S4 (g7 (b7 h))))
  | .cell es,x,e,h=>ag7 (P:=GotAll C A CS x (.cell es)) h fun l p h F ok ox=>.plain (aW2 ((A2 B es x _ (a8 h)).2 F ok ox) (S4 (g7 (b7 h))))
  | .dead,x,e,h=>fun F ok ox=>⟨fun r Q E G=>G.no,fun r G f=>G.no,fun o es pos q=>⟨fun pos {g loc c s} r Q E G=>G.no,fun r G f=>G.no⟩⟩
  | .getI kvs k d,x,e,h=>w9 (P:=GotAll C A CS x (.getI kvs k d)) h fun v es ws p h=>m5 (P:=fun ws=>GotAll C A CS x (.getI kvs k d) (.Call v es ws p)) h fun h=>B4 (P:=fun v=>GotAll C A CS x (.getI kvs k d) (.Call v es [] p)) h fun o n apos h =>
    ag9 (P:=fun o=>GotAll C A CS x (.getI kvs k d) (.Call (.Attribute o n apos) es [] p)) h fun ks vs dp h=>B9 (P:=fun es=>GotAll C A CS x (.getI kvs k d) (.Call (.Attribute (.Dict ks vs dp) n apos) es [] p)) h fun a b h =>
    k6 (P:=fun a=>GotAll C A CS x (.getI kvs k d) (.Call (.Attribute (.Dict ks vs dp) n apos) [a,b] [] p)) h fun nk pk h=>k6 (P:=fun b=>GotAll C A CS x (.getI kvs k d) (.Call (.Attribute (.Dict ks vs dp) n apos) [.Name nk pk,b] [] p)) h fun nd pd h F ok ox =>
    have h3:=a8 (a8 (a8 h))
    have h5:=a8 (a8 h3)
    (g7 (b7 h):n = "get")▸.plain (aV9 ok B.oc.toCfgOK ox (ah9 bf4 (b7 (a8 h))) (fun q=>nomatch (v8 (b7 (a8 (a8 h)))).symm.trans (congrArg List.isEmpty q)) (g7 (b7 h3)) (g7 (b7 (a8 h3))) (b7 h5) (b7 (a8 h5)) (a8 (a8 h5)))
  | .comp caps it elt cond,x,e,h=>ah0 (P:=GotAll C A CS x (.comp caps it elt cond)) h fun e1 gs sc p h=>u5 (P:=fun gs=>GotAll C A CS x (.comp caps it elt cond) (.ListComp e1 gs sc p)) h fun g h=>at9 (P:=fun g=>GotAll C A CS x (.comp caps it elt cond) (.ListComp e1 [g] sc p)) h fun t tp it' ifs h F ok ox =>
    have h':=a8 (a8 (a8 h))
    .plain (aW0 ok ox (b7 h) (CompIs.of (b7 (a8 h))) (d8 B it x _ (b7 (a8 (a8 h))) F ok ox).1 (fun F' p=>(d8 B elt _ _ (b7 h') F' p.1 p.2).1)
      ((E1 (a8 h')).elim (fun h=>m5 (P:=fun ifs=>IfsSim C A CS (CompFms C A x sc t (capNames x caps)) ifs cond) h fun h=>W3 (P:=fun m=>IfsSim C A CS (CompFms C A x sc t (capNames x caps)) [] m) h .none)
        fun h=>u5 (P:=fun ifs=>IfsSim C A CS (CompFms C A x sc t (capNames x caps)) ifs cond) h fun c h=>.one fun F' p=>(d8 B cond _ _ h F' p.1 p.2).2.1))
theorem A2 (B:Base C A CS):∀ (ms:MEs) (x:Cx) (es:List Expr),okEs ms x es=true→GotEs C A CS ms x es
  | .nil,x,es,h=>m5 (P:=GotEs C A CS .nil x) h fun _=>⟨rfl,fun F ok ox=>bf2⟩
  | .cons m r,x,es,h=>q9 (P:=GotEs C A CS (.cons m r) x) h fun e t h =>
    have ht:=A2 B r x _ (a8 (a8 h))
    ⟨Bool.and_eq_true_iff.mpr ⟨b7 h,ht.1⟩,fun F ok ox=>aW7 (b7 h) (d8 B m x _ (b7 (a8 h)) F ok ox).1 (ht.2 F ok ox)⟩
end
end
end Mine
end
section
namespace Mine
open PySem PySem.Spec PySem.Calls PyProof.Rows
noncomputable def isAtt (n:PySem.Str) (a:PySem.Str) (e:Expr):Bool:=xAttr e fun v at' _=>xName v fun f _=>decide (f=n)&&decide (at'=a)
theorem al6 {n a:PySem.Str} {e:Expr} {P:Expr→Prop} (h:isAtt n a e=true) (H:∀ p q,P (.Attribute (.Name n p) a q)):P e :=
  B4 h fun v at' q h=>k6 (P:=fun v=>P (.Attribute v at' q)) h fun f p h=>by
    rw [(g7 (b7 h):f=n),(g7 (a8 h):at'=a)]; exact H p q
noncomputable def isRefused (x:Cx) (hs:List ExceptHandler) (k:PySem.Str→Bool):Bool:=l1 hs fun h=>xHandler h fun ty nm body _=>oSome ty fun ty=>xName ty fun pn _=>oSome nm fun fn=>l1 body fun st=>sRet st fun v _=>oSome v fun v=>xTup v fun es _ _ =>
  lCons es fun t r=>xConst t (fun t _ _=>cStr t fun t=>decide (t=strOf refText))&&l2 r fun a1 a2=>isAtt fn "why" a1&&(isAtt fn "line" a2&&(decide (pn = "ParseFault")&&(isLocal x fn&&k fn)))
theorem af1 {x:Cx} {hs:List ExceptHandler} {k:PySem.Str→Bool} {P:List ExceptHandler→Prop} (h:isRefused x hs k=true)
    (H:∀ fn p1 p2 p3 p4 p5 p6 p7 p8 p9 n1 n2,isLocal x fn=true→k fn=true →
      P [.ExceptHandler (some (.Name "ParseFault" p1)) (some fn) [.Return (some (.Tuple [.Constant (.str (strOf refText)) n1 p2,.Attribute (.Name fn p3) "why" p4,.Attribute (.Name fn p5) "line" p6] n2 p7)) p8] p9]):P hs :=
  u5 h fun hd h=>ag8 (P:=fun hd=>P [hd]) h fun ty nm body p9 h=>v7 (P:=fun ty=>P [.ExceptHandler ty nm body p9]) h fun ty h=>k6 (P:=fun ty=>P [.ExceptHandler (some ty) nm body p9]) h fun pn p1 h=>v7 (P:=fun nm=>P [.ExceptHandler (some (.Name pn p1)) nm body p9]) h fun fn h =>
    u5 (P:=fun body=>P [.ExceptHandler (some (.Name pn p1)) (some fn) body p9]) h fun st h=>R5 (P:=fun st=>P [.ExceptHandler (some (.Name pn p1)) (some fn) [st] p9]) h fun v p8 h=>v7 (P:=fun v=>P [.ExceptHandler (some (.Name pn p1)) (some fn) [.Return v p8] p9]) h fun v h =>
    F0 (P:=fun v=>P [.ExceptHandler (some (.Name pn p1)) (some fn) [.Return (some v) p8] p9]) h fun es n2 p7 h=>q9 (P:=fun es=>P [.ExceptHandler (some (.Name pn p1)) (some fn) [.Return (some (.Tuple es n2 p7)) p8] p9]) h fun t r h =>
    x0 (P:=fun t=>P [.ExceptHandler (some (.Name pn p1)) (some fn) [.Return (some (.Tuple (t::r) n2 p7)) p8] p9]) (b7 h) fun t n1 p2 ht=>N4 (P:=fun t=>P [.ExceptHandler (some (.Name pn p1)) (some fn) [.Return (some (.Tuple (.Constant t n1 p2::r) n2 p7)) p8] p9]) ht fun t ht =>
    B9 (P:=fun r=>P [.ExceptHandler (some (.Name pn p1)) (some fn) [.Return (some (.Tuple (.Constant (.str t) n1 p2::r) n2 p7)) p8] p9]) (a8 h) fun a1 a2 h=>al6 (P:=fun a1=>P [.ExceptHandler (some (.Name pn p1)) (some fn) [.Return (some (.Tuple [.Constant (.str t) n1 p2,a1,a2] n2 p7)) p8] p9]) (b7 h) fun p3 p4 =>
    al6 (P:=fun a2=>P [.ExceptHandler (some (.Name pn p1)) (some fn) [.Return (some (.Tuple [.Constant (.str t) n1 p2,.Attribute (.Name fn p3) "why" p4,a2] n2 p7)) p8] p9]) (b7 (a8 h)) fun p5 p6=>by
      have h:=a8 (a8 h)
      have h':=a8 (a8 h)
      rw [(g7 ht:t=_),(g7 (b7 h):pn=_)]
      exact H _ _ _ _ _ _ _ _ _ _ _ _ (b7 (a8 h)) h'
noncomputable def isCompE (m:ME):Bool:=match m with | .comp ..=>true | _=>false
noncomputable def compSc (n:PySem.Str) (np:Pos) (e:Expr):Bool:=xComp e fun _ _ sc cpos=>decide (np.line=cpos.line)&&!(sc.names.any fun (m,k)=>m==n&&(k==.local || k==.cell))
noncomputable def okAssign (i:Nat) (m:ME) (x:Cx) (n:PySem.Str) (np:Pos) (e:Expr):Bool :=
  isLocal x n&&(x.vars[i]?==some n&&(okE m x e&&(noComp e || (compSc n np e&&isCompE m))))
theorem W5 {P:Expr→Prop} {e:Expr} {n:PySem.Str} (h:isNmE e n=true) (H:∀ p,P (.Name n p)):P e:=k6 h fun m p h=>(g7 h:m=n)▸H p
noncomputable def okTab (i:Nat) (kvs:List (List Nat×List Nat)) (k:Nat) (m:ME) (x:Cx) (sts:List Stmt) (K:List Stmt→Bool):Bool :=
  lCons sts fun s1 r=>lCons r fun s2 r=>sAssign s1 fun ts v _=>l1 ts fun t=>xName t fun n _=>xDict v fun ks vs _=>sIf s2 fun tst sa sb _=>lNil sb (xCmp tst fun e1 ops es _=>l1 ops fun op=>l1 es fun e2=>xName e1 fun nk _=>l1 sa fun rt=>sRet rt fun rv _=>oSome rv fun rv=>xTup rv fun els _ _=>l2 els fun s e'=>xSub s fun b1 b2 _ =>
    decide (op=.In)&&(isNmE e2 n&&(isNmE b1 n&&(isNmE b2 nk&&(tabOK eqS kvs ks vs&&(!kvs.isEmpty&&(decide (kvs.length≤15)&&(decide (kvs.map fun p=>strOf p.1).Nodup&&(isSlot x n i&&(isLocal x n&&(isSlot x nk k&&(decide (n≠nk)&&(notStar e'&&(okE m x e'&&K r))))))))))))))
noncomputable def okDict (a:MS) (x:Cx) (sts:List Stmt) (K:List Stmt→Bool):Bool:=match a with | .dictIf i kvs k m=>okTab i kvs k m x sts K | _=>false
theorem aB1 {a:MS} {x:Cx} {sts:List Stmt} {K:List Stmt→Bool} {P:MS→Prop} (h:okDict a x sts K=true) (H:∀ i kvs k m,okTab i kvs k m x sts K=true→P (.dictIf i kvs k m)):P a:=by cases a <;> first | exact H _ _ _ _ h | exact no_f h
mutual
noncomputable def okS:MS→Cx→Stmt→Bool
  | .assign i m,x,st=>sAssign st fun ts e _=>l1 ts fun t=>xName t fun n np=>okAssign i m x n np e
  | .unpack is m,x,st=>sAssign st fun ts e _=>l1 ts fun t=>xTup t fun elts _ _=>tgtOK x elts is&&(noComp e&&(notTup e&&okE m x e))
  | .pair i j a b,x,st=>sAssign st fun ts e _=>l1 ts fun t=>xTup t fun elts _ _=>xTup e fun es _ _=>l2 elts fun t1 t2=>xName t1 fun n1 p1=>xName t2 fun n2 p2=>l2 es fun e1 e2 =>
      isLocal x n1&&(x.vars[i]?==some n1&&(isLocal x n2&&(x.vars[j]?==some n2&&(decide (p2.line=p1.line)&&(decide (n1≠n2)&&([e1,e2].all notStar &&
      (!([e1,e2].all (foldedForSure 8))&&(!([e1,e2].all (constantsAlone 8))&&(okE a x e1&&okE b x e2)))))))))
  | .aug i o m,x,st=>sAug st fun t op e _=>xName t fun n _=>decide (op=.Add)&&(decide (o=.add)&&(isSlot x n i&&(isLocal x n&&okE m x e)))
  | .setidx a k m,x,st=>sAssign st fun ts e _=>l1 ts fun t=>xSub t fun o i _=>noComp e&&(okE a x o&&(okE k x i&&okE m x e))
  | .ite t a b,x,st=>sIf st fun e sa sb _=>okE t x e&&(okSs a x sa&&okSs b x sb)
  | .while t b,x,st=>sWhile st fun e sb els _=>lNil els (okE t x e&&okSs b x sb)
  | .for i it b,x,st=>sFor st fun t e sb els _=>lNil els (xName t fun n _=>notSet e&&(isLocal x n&&(x.vars[i]?==some n&&(okE it x e&&okSs b x sb))))
  | .forT is it b,x,st=>sFor st fun t e sb els _=>lNil els (xTup t fun elts _ _=>notSet e&&(tgtOK x elts is&&(okE it x e&&okSs b x sb)))
  | .forR i lo hi b,x,st=>sFor st fun t e sb els _=>lNil els (xName t fun n _=>xCall e fun f args ws _=>lNil ws (xName f fun r _=>decide (r = "range")&&(isLocal x n&&(x.vars[i]?==some n&&(isBlt x "range" (.type "range")&&(
      ((l1 args fun e2=>isZeroE lo&&([e2].all notStar&&okE hi x e2)) || (l2 args fun e1 e2=>[e1,e2].all notStar&&(okE lo x e1&&okE hi x e2)))&&okSs b x sb))))))
  | .ret m,x,st=>sRet st fun v _=>oSome v fun e=>okE m x e
  | .raise a b,x,st=>sRaise st fun v c _=>oNone c (oSome v fun v=>xCall v fun f es ws _=>lNil ws (xName f fun n _=>l2 es fun e1 e2=>decide (n = "ParseFault")&&(isGlob x "ParseFault" && ([e1,e2].all notStar&&(okE a x e1&&okE b x e2)))))
  | .raiseEnd a,x,st=>sRaise st fun v c _=>oNone c (oSome v fun v=>xCall v fun f es ws _=>lNil ws (xName f fun n _=>l1 es fun e1=>decide (n = "no_end")&&(isGlob x "no_end" && ([e1].all notStar&&okE a x e1))))
  | .expr m,x,st=>sExpr st fun e _=>noComp e&&okE m x e
  | .tryR i m,x,st=>sTry st fun body hs els fin _=>lNil els (lNil fin (l1 body fun st=>sAssign st fun ts e ap=>l1 ts fun t=>xName t fun n np=>isRefused x hs fun _=>isGlob x "ParseFault" && okAssign i m x n np e))
  | .dead,_,_=>true
  | _,_,_=>false
noncomputable def okSs:MS→Cx→List Stmt→Bool
  | .skip,_,sts=>lNil sts true
  | .seq a b,x,sts=>(lCons sts fun st r=>okS a x st&&okSs b x r) || okDict a x sts fun r=>okSs b x r
  | .dead,_,_=>true
  | _,_,_=>false
end
section
variable {C:Cfg} {A:Around} {CS:Calls} {N:Nat}
noncomputable def GotS (C:Cfg) (A:Around) (CS:Calls) (N:Nat) (m:MS) (x:Cx) (st:Stmt):Prop:=∀ F,FmOK C F A→FnOK F→CxOK C F x→S1Sim C A F CS N st m
noncomputable def GotSs (C:Cfg) (A:Around) (CS:Calls) (N:Nat) (m:MS) (x:Cx) (sts:List Stmt):Prop:=∀ F,FmOK C F A→FnOK F→CxOK C F x→StSim C A F CS N sts m
theorem an3 {α:Type} {a b:α} (P:α→Prop) (h:a=b) (H:P b):P a:=h▸H
theorem ar3 {m:ME} {P:ME→Prop} (h:isCompE m=true) (H:∀ a b c d,P (.comp a b c d)):P m:=by cases m <;> first | exact H _ _ _ _ | exact no_f h
theorem X0 (B:Base C A CS) {i:Nat} {m:ME} {x:Cx} {n:PySem.Str} {np:Pos} {e:Expr} {pos:Pos} (h:okAssign i m x n np e=true):GotS C A CS N (.assign i m) x (.Assign [.Name n np] e pos):=fun F ok of ox =>
  have hl:=b7 h
  have hi:=r8 (b7 (a8 h))
  have he:=b7 (a8 (a8 h))
  (E1 (a8 (a8 (a8 h)))).elim (fun hc=>aG4 ok ox hl hi hc (d8 B m x e he F ok ox).1) fun hc =>
    ar3 (P:=fun m=>okE m x e=true→S1Sim C A F CS N (.Assign [.Name n np] e pos) (.assign i m)) (a8 hc) (fun caps it elt cond he =>
      ah0 (P:=fun e=>compSc n np e=true→S1Sim C A F CS N (.Assign [.Name n np] e pos) (.assign i (.comp caps it elt cond))) he (fun e1 gs sc cpos h=>u5 (P:=fun gs=>compSc n np (.ListComp e1 gs sc cpos)=true→S1Sim C A F CS N (.Assign [.Name n np] (.ListComp e1 gs sc cpos) pos) (.assign i (.comp caps it elt cond))) h fun g h =>
        at9 (P:=fun g=>compSc n np (.ListComp e1 [g] sc cpos)=true→S1Sim C A F CS N (.Assign [.Name n np] (.ListComp e1 [g] sc cpos) pos) (.assign i (.comp caps it elt cond))) h fun t tp it' ifs h hc =>
        have h':=a8 (a8 (a8 h))
        ba9 ok ox (b7 h) (CompIs.of (b7 (a8 h))) (d8 B it x _ (b7 (a8 (a8 h))) F ok ox).1 (fun F' p=>(d8 B elt _ _ (b7 h') F' p.1 p.2).1)
          ((E1 (a8 h')).elim (fun h=>m5 (P:=fun ifs=>IfsSim C A CS (CompFms C A x sc t (capNames x caps)) ifs cond) h fun h=>W3 (P:=fun m=>IfsSim C A CS (CompFms C A x sc t (capNames x caps)) [] m) h .none)
            fun h=>u5 (P:=fun ifs=>IfsSim C A CS (CompFms C A x sc t (capNames x caps)) ifs cond) h fun c h=>.one fun F' p=>(d8 B cond _ _ h F' p.1 p.2).2.1)
          hl hi (g7 (b7 hc)) (v8 (a8 hc))) (b7 hc)) he
theorem aU9 (B:Base C A CS) {i:Nat} {kvs:List (List Nat×List Nat)} {k:Nat} {m:ME} {x:Cx} {sts:List Stmt} {K:List Stmt→Bool} {b:MS} (h:okTab i kvs k m x sts K=true) (hK:∀ r,K r=true→GotSs C A CS N b x r):GotSs C A CS N (.seq (.dictIf i kvs k m) b) x sts :=
  q9 (P:=GotSs C A CS N (.seq (.dictIf i kvs k m) b) x) h fun s1 r h=>q9 (P:=fun r=>GotSs C A CS N (.seq (.dictIf i kvs k m) b) x (s1::r)) h fun s2 r h=>A1 (P:=fun s1=>GotSs C A CS N (.seq (.dictIf i kvs k m) b) x (s1::s2::r)) h fun ts v ap h =>
  u5 (P:=fun ts=>GotSs C A CS N (.seq (.dictIf i kvs k m) b) x (.Assign ts v ap::s2::r)) h fun t h=>k6 (P:=fun t=>GotSs C A CS N (.seq (.dictIf i kvs k m) b) x (.Assign [t] v ap::s2::r)) h fun n np h=>ag9 (P:=fun v=>GotSs C A CS N (.seq (.dictIf i kvs k m) b) x (.Assign [.Name n np] v ap::s2::r)) h fun ks vs dp h =>
  aG5 (P:=fun s2=>GotSs C A CS N (.seq (.dictIf i kvs k m) b) x (.Assign [.Name n np] (.Dict ks vs dp) ap::s2::r)) h fun tst sa sb ip h=>m5 (P:=fun sb=>GotSs C A CS N (.seq (.dictIf i kvs k m) b) x (.Assign [.Name n np] (.Dict ks vs dp) ap::.If tst sa sb ip::r)) h fun h =>
  J9 (P:=fun tst=>GotSs C A CS N (.seq (.dictIf i kvs k m) b) x (.Assign [.Name n np] (.Dict ks vs dp) ap::.If tst sa [] ip::r)) h fun e1 ops es cp h=>u5 (P:=fun ops=>GotSs C A CS N (.seq (.dictIf i kvs k m) b) x (.Assign [.Name n np] (.Dict ks vs dp) ap::.If (.Compare e1 ops es cp) sa [] ip::r)) h fun op h =>
  u5 (P:=fun es=>GotSs C A CS N (.seq (.dictIf i kvs k m) b) x (.Assign [.Name n np] (.Dict ks vs dp) ap::.If (.Compare e1 [op] es cp) sa [] ip::r)) h fun e2 h=>k6 (P:=fun e1=>GotSs C A CS N (.seq (.dictIf i kvs k m) b) x (.Assign [.Name n np] (.Dict ks vs dp) ap::.If (.Compare e1 [op] [e2] cp) sa [] ip::r)) h fun nk kp h =>
  u5 (P:=fun sa=>GotSs C A CS N (.seq (.dictIf i kvs k m) b) x (.Assign [.Name n np] (.Dict ks vs dp) ap::.If (.Compare (.Name nk kp) [op] [e2] cp) sa [] ip::r)) h fun rt h=>R5 (P:=fun rt=>GotSs C A CS N (.seq (.dictIf i kvs k m) b) x (.Assign [.Name n np] (.Dict ks vs dp) ap::.If (.Compare (.Name nk kp) [op] [e2] cp) [rt] [] ip::r)) h fun rv rp h =>
  v7 (P:=fun rv=>GotSs C A CS N (.seq (.dictIf i kvs k m) b) x (.Assign [.Name n np] (.Dict ks vs dp) ap::.If (.Compare (.Name nk kp) [op] [e2] cp) [.Return rv rp] [] ip::r)) h fun rv h=>F0 (P:=fun rv=>GotSs C A CS N (.seq (.dictIf i kvs k m) b) x (.Assign [.Name n np] (.Dict ks vs dp) ap::.If (.Compare (.Name nk kp) [op] [e2] cp) [.Return (some rv) rp] [] ip::r)) h fun els z tp h =>
  B9 (P:=fun els=>GotSs C A CS N (.seq (.dictIf i kvs k m) b) x (.Assign [.Name n np] (.Dict ks vs dp) ap::.If (.Compare (.Name nk kp) [op] [e2] cp) [.Return (some (.Tuple els z tp)) rp] [] ip::r)) h fun s e' h=>J8 (P:=fun s=>GotSs C A CS N (.seq (.dictIf i kvs k m) b) x (.Assign [.Name n np] (.Dict ks vs dp) ap::.If (.Compare (.Name nk kp) [op] [e2] cp) [.Return (some (.Tuple [s,e'] z tp)) rp] [] ip::r)) h fun b1 b2 sp h =>
  have h3:=a8 (a8 (a8 h))
  have h6:=a8 (a8 (a8 h3))
  have h9:=a8 (a8 (a8 h6))
  have h12:=a8 (a8 (a8 h9))
  (g7 (b7 h):op=.In)▸W5 (P:=fun e2=>GotSs C A CS N (.seq (.dictIf i kvs k m) b) x (.Assign [.Name n np] (.Dict ks vs dp) ap::.If (.Compare (.Name nk kp) [.In] [e2] cp) [.Return (some (.Tuple [.Subscript b1 b2 sp,e'] z tp)) rp] [] ip::r)) (b7 (a8 h)) fun q2 =>
  W5 (P:=fun b1=>GotSs C A CS N (.seq (.dictIf i kvs k m) b) x (.Assign [.Name n np] (.Dict ks vs dp) ap::.If (.Compare (.Name nk kp) [.In] [.Name n q2] cp) [.Return (some (.Tuple [.Subscript b1 b2 sp,e'] z tp)) rp] [] ip::r)) (b7 (a8 (a8 h))) fun q3 =>
  W5 (P:=fun b2=>GotSs C A CS N (.seq (.dictIf i kvs k m) b) x (.Assign [.Name n np] (.Dict ks vs dp) ap::.If (.Compare (.Name nk kp) [.In] [.Name n q2] cp) [.Return (some (.Tuple [.Subscript (.Name n q3) b2 sp,e'] z tp)) rp] [] ip::r)) (b7 h3) fun q4 F ok of ox =>
  az7 ok B.oc.toCfgOK ox (ah9 bf3 (b7 (a8 h3))) (fun q=>nomatch (v8 (b7 (a8 (a8 h3)))).symm.trans (congrArg List.isEmpty q)) (g7 (b7 h6)) (g7 (b7 (a8 h6))) (b7 (a8 (a8 h6))) (b7 h9) (b7 (a8 h9)) (g7 (b7 (a8 (a8 h9)))) (b7 h12) (d8 B m x _ (b7 (a8 h12)) F ok ox).1 (hK r (a8 (a8 h12)) F ok of ox)
mutual
theorem aB0 (B:Base C A CS):∀ (m:MS) (x:Cx) (st:Stmt),okS m x st=true→GotS C A CS N m x st
  | .assign i m,x,st,h=>A1 (P:=GotS C A CS N (.assign i m) x) h fun ts e p h=>u5 (P:=fun ts=>GotS C A CS N (.assign i m) x (.Assign ts e p)) h fun t h=>k6 (P:=fun t=>GotS C A CS N (.assign i m) x (.Assign [t] e p)) h fun n np h=>X0 B h
  | .unpack is m,x,st,h=>A1 (P:=GotS C A CS N (.unpack is m) x) h fun ts e p h=>u5 (P:=fun ts=>GotS C A CS N (.unpack is m) x (.Assign ts e p)) h fun t h=>F0 (P:=fun t=>GotS C A CS N (.unpack is m) x (.Assign [t] e p)) h fun elts k tp h F ok of ox =>
      aG2 ok ox (b7 h) (b7 (a8 h)) (b7 (a8 (a8 h))) (d8 B m x _ (a8 (a8 (a8 h))) F ok ox).1
  | .pair i j a b,x,st,h=>A1 (P:=GotS C A CS N (.pair i j a b) x) h fun ts e p h=>u5 (P:=fun ts=>GotS C A CS N (.pair i j a b) x (.Assign ts e p)) h fun t h=>F0 (P:=fun t=>GotS C A CS N (.pair i j a b) x (.Assign [t] e p)) h fun elts k tp h =>
      F0 (P:=fun e=>GotS C A CS N (.pair i j a b) x (.Assign [.Tuple elts k tp] e p)) h fun es k2 tp2 h=>B9 (P:=fun elts=>GotS C A CS N (.pair i j a b) x (.Assign [.Tuple elts k tp] (.Tuple es k2 tp2) p)) h fun t1 t2 h =>
      k6 (P:=fun t1=>GotS C A CS N (.pair i j a b) x (.Assign [.Tuple [t1,t2] k tp] (.Tuple es k2 tp2) p)) h fun n1 p1 h=>k6 (P:=fun t2=>GotS C A CS N (.pair i j a b) x (.Assign [.Tuple [.Name n1 p1,t2] k tp] (.Tuple es k2 tp2) p)) h fun n2 p2 h =>
      B9 (P:=fun es=>GotS C A CS N (.pair i j a b) x (.Assign [.Tuple [.Name n1 p1,.Name n2 p2] k tp] (.Tuple es k2 tp2) p)) h fun e1 e2 h F ok of ox =>
        have h4:=a8 (a8 (a8 h))
        have h7:=a8 (a8 (a8 h4))
        have h9:=a8 (a8 (a8 h7))
        ba6 ok ox (b7 h) (r8 (b7 (a8 h))) (b7 (a8 (a8 h))) (r8 (b7 h4)) (g7 (b7 (a8 h4))) (g7 (b7 (a8 (a8 h4)))) (b7 h7) (v8 (b7 (a8 h7))) (v8 (b7 (a8 (a8 h7)))) (d8 B a x _ (b7 h9) F ok ox).1 (d8 B b x _ (a8 h9) F ok ox).1
  | .aug i o m,x,st,h=>aR5 (P:=GotS C A CS N (.aug i o m) x) h fun t op e p h=>k6 (P:=fun t=>GotS C A CS N (.aug i o m) x (.AugAssign t op e p)) h fun n np h F ok of ox =>
      have h':=a8 (a8 h)
      an3 (fun op=>S1Sim C A F CS N (.AugAssign (.Name n np) op e p) (.aug i o m)) (g7 (b7 h)) <| an3 (fun o=>S1Sim C A F CS N (.AugAssign (.Name n np) .Add e p) (.aug i o m)) (g7 (b7 (a8 h))) <|
      s_aug ok ox (b7 h') (b7 (a8 h')) (d8 B m x _ (a8 (a8 h')) F ok ox).1
  | .ite t a b,x,st,h=>aG5 (P:=GotS C A CS N (.ite t a b) x) h fun e sa sb p h F ok of ox=>s_if (d8 B t x _ (b7 h) F ok ox).2.1 (w0 B a x _ (b7 (a8 h)) F ok of ox) (w0 B b x _ (a8 (a8 h)) F ok of ox)
  | .while t b,x,st,h=>aA4 (P:=GotS C A CS N (.while t b) x) h fun e sb els p h=>m5 (P:=fun els=>GotS C A CS N (.while t b) x (.While e sb els p)) h fun h F ok of ox=>aR0 ok of (d8 B t x _ (b7 h) F ok ox).2.1 (w0 B b x _ (a8 h) F ok of ox)
  | .for i it b,x,st,h=>ad3 (P:=GotS C A CS N (.for i it b) x) h fun t e sb els p h=>m5 (P:=fun els=>GotS C A CS N (.for i it b) x (.For t e sb els p)) h fun h=>k6 (P:=fun t=>GotS C A CS N (.for i it b) x (.For t e sb [] p)) h fun n np h F ok of ox =>
      have h':=a8 (a8 (a8 h))
      s_for ok of ox (b7 h) (b7 (a8 h)) (r8 (b7 (a8 (a8 h)))) (fun p=>w0 B b x _ (a8 h') _ (ok.also p) (of.also p) (ox.also p)) (d8 B it x _ (b7 h') F ok ox).1
  | .forT is it b,x,st,h=>ad3 (P:=GotS C A CS N (.forT is it b) x) h fun t e sb els p h=>m5 (P:=fun els=>GotS C A CS N (.forT is it b) x (.For t e sb els p)) h fun h=>F0 (P:=fun t=>GotS C A CS N (.forT is it b) x (.For t e sb [] p)) h fun elts k tp h F ok of ox =>
      have h':=a8 (a8 h)
      ba7 ok of ox (b7 h) (b7 (a8 h)) (fun p=>w0 B b x _ (a8 h') _ (ok.also p) (of.also p) (ox.also p)) (d8 B it x _ (b7 h') F ok ox).1
  | .forR i lo hi b,x,st,h=>ad3 (P:=GotS C A CS N (.forR i lo hi b) x) h fun t e sb els p h=>m5 (P:=fun els=>GotS C A CS N (.forR i lo hi b) x (.For t e sb els p)) h fun h=>k6 (P:=fun t=>GotS C A CS N (.forR i lo hi b) x (.For t e sb [] p)) h fun n np h =>
      w9 (P:=fun e=>GotS C A CS N (.forR i lo hi b) x (.For (.Name n np) e sb [] p)) h fun f args ws cp h=>m5 (P:=fun ws=>GotS C A CS N (.forR i lo hi b) x (.For (.Name n np) (.Call f args ws cp) sb [] p)) h fun h =>
      k6 (P:=fun f=>GotS C A CS N (.forR i lo hi b) x (.For (.Name n np) (.Call f args [] cp) sb [] p)) h fun r rp h F ok of ox =>
      have h':=a8 (a8 (a8 h))
      have hb:=w0 B b x _ (a8 (a8 h'))
      an3 (fun r=>S1Sim C A F CS N (.For (.Name n np) (.Call (.Name r rp) args [] cp) sb [] p) (.forR i lo hi b)) (g7 (b7 h)) <|
      (E1 (b7 (a8 h'))).elim
        (fun g=>u5 (P:=fun args=>S1Sim C A F CS N (.For (.Name n np) (.Call (.Name "range" rp) args [] cp) sb [] p) (.forR i lo hi b)) g fun e2 g=>ar0 (P:=fun lo=>S1Sim C A F CS N (.For (.Name n np) (.Call (.Name "range" rp) [e2] [] cp) sb [] p) (.forR i lo hi b)) (b7 g)
          (aR3 ok B.oc of ox (b7 (a8 h)) (r8 (b7 (a8 (a8 h)))) (b7 h') (b7 (a8 g)) (fun p=>hb _ (ok.also p) (of.also p) (ox.also p)) (d8 B hi x _ (a8 (a8 g)) F ok ox).1))
        (fun g=>B9 (P:=fun args=>S1Sim C A F CS N (.For (.Name n np) (.Call (.Name "range" rp) args [] cp) sb [] p) (.forR i lo hi b)) g fun e1 e2 g =>
          aR2 ok B.oc of ox (b7 (a8 h)) (r8 (b7 (a8 (a8 h)))) (b7 h') (b7 g) (fun p=>hb _ (ok.also p) (of.also p) (ox.also p)) (d8 B lo x _ (b7 (a8 g)) F ok ox).1 (d8 B hi x _ (a8 (a8 g)) F ok ox).1)
  | .ret m,x,st,h=>R5 (P:=GotS C A CS N (.ret m) x) h fun v p h=>v7 (P:=fun v=>GotS C A CS N (.ret m) x (.Return v p)) h fun e h F ok of ox=>s_ret (d8 B m x _ h F ok ox).1
  | .raise a b,x,st,h=>aa6 (P:=GotS C A CS N (.raise a b) x) h fun v c p h=>E2 (P:=fun c=>GotS C A CS N (.raise a b) x (.Raise v c p)) h fun h=>v7 (P:=fun v=>GotS C A CS N (.raise a b) x (.Raise v none p)) h fun v h=>w9 (P:=fun v=>GotS C A CS N (.raise a b) x (.Raise (some v) none p)) h fun f es ws cp h =>
      m5 (P:=fun ws=>GotS C A CS N (.raise a b) x (.Raise (some (.Call f es ws cp)) none p)) h fun h=>k6 (P:=fun f=>GotS C A CS N (.raise a b) x (.Raise (some (.Call f es [] cp)) none p)) h fun n np h=>B9 (P:=fun es=>GotS C A CS N (.raise a b) x (.Raise (some (.Call (.Name n np) es [] cp)) none p)) h fun e1 e2 h F ok of ox =>
      have h':=a8 (a8 h)
      an3 (fun n=>S1Sim C A F CS N (.Raise (some (.Call (.Name n np) [e1,e2] [] cp)) none p) (.raise a b)) (g7 (b7 h)) <|
      B.pf.elim fun D=>aR1 ok B.oc.toCfgOK D (Nat.lt_of_le_of_lt (Nat.add_le_add_left (by decide) _) B.hd) ox (b7 (a8 h)) (b7 h') (d8 B a x _ (b7 (a8 h')) F ok ox).1 (d8 B b x _ (a8 (a8 h')) F ok ox).1
  | .raiseEnd a,x,st,h=>aa6 (P:=GotS C A CS N (.raiseEnd a) x) h fun v c p h=>E2 (P:=fun c=>GotS C A CS N (.raiseEnd a) x (.Raise v c p)) h fun h=>v7 (P:=fun v=>GotS C A CS N (.raiseEnd a) x (.Raise v none p)) h fun v h=>w9 (P:=fun v=>GotS C A CS N (.raiseEnd a) x (.Raise (some v) none p)) h fun f es ws cp h =>
      m5 (P:=fun ws=>GotS C A CS N (.raiseEnd a) x (.Raise (some (.Call f es ws cp)) none p)) h fun h=>k6 (P:=fun f=>GotS C A CS N (.raiseEnd a) x (.Raise (some (.Call f es [] cp)) none p)) h fun n np h=>u5 (P:=fun es=>GotS C A CS N (.raiseEnd a) x (.Raise (some (.Call (.Name n np) es [] cp)) none p)) h fun e1 h F ok of ox =>
      have h':=a8 (a8 h)
      an3 (fun n=>S1Sim C A F CS N (.Raise (some (.Call (.Name n np) [e1] [] cp)) none p) (.raiseEnd a)) (g7 (b7 h)) <|
      B.pf.elim fun D=>ap5 ok B.oc.toCfgOK D B.en (Nat.lt_of_le_of_lt (Nat.add_le_add_left (by decide) _) B.hd) ox (b7 (a8 h)) (b7 h') (d8 B a x _ (a8 h') F ok ox).1
  | .expr m,x,st,h=>aj0 (P:=GotS C A CS N (.expr m) x) h fun e p h F ok of ox=>ba8 ok (b7 h) (d8 B m x _ (a8 h) F ok ox).1
  | .tryR i m,x,st,h=>aR4 (P:=GotS C A CS N (.tryR i m) x) h fun body hs els fin p h=>m5 (P:=fun els=>GotS C A CS N (.tryR i m) x (.Try body hs els fin p)) h fun h=>m5 (P:=fun fin=>GotS C A CS N (.tryR i m) x (.Try body hs [] fin p)) h fun h =>
      u5 (P:=fun body=>GotS C A CS N (.tryR i m) x (.Try body hs [] [] p)) h fun st h=>A1 (P:=fun st=>GotS C A CS N (.tryR i m) x (.Try [st] hs [] [] p)) h fun ts e ap h=>u5 (P:=fun ts=>GotS C A CS N (.tryR i m) x (.Try [.Assign ts e ap] hs [] [] p)) h fun t h =>
      k6 (P:=fun t=>GotS C A CS N (.tryR i m) x (.Try [.Assign [t] e ap] hs [] [] p)) h fun n np h=>af1 (P:=fun hs=>GotS C A CS N (.tryR i m) x (.Try [.Assign [.Name n np] e ap] hs [] [] p)) h fun fn p1 p2 p3 p4 p5 p6 p7 p8 p9 n1 n2 h7 h F ok of ox =>
      B.pf.elim fun D=>s_try ok of B.oc.toCfgOK D ox (X0 B (a8 h) F ok of ox) (b7 h) h7
  | .dead,x,st,h=>fun F ok of ox=>fun {g loc c s} r Q E G=>G.no
  | .skip,x,st,h=>no_f h
  | .seq _ _,x,st,h=>no_f h
  | .dictIf _ _ _ _,x,st,h=>no_f h
  | .setidx a k m,x,st,h=>A1 (P:=GotS C A CS N (.setidx a k m) x) h fun ts e p h=>u5 (P:=fun ts=>GotS C A CS N (.setidx a k m) x (.Assign ts e p)) h fun t h=>J8 (P:=fun t=>GotS C A CS N (.setidx a k m) x (.Assign [t] e p)) h fun o i p' h F ok of ox =>
      aG3 ok (b7 h) (d8 B a x _ (b7 (a8 h)) F ok ox).1 (d8 B k x _ (b7 (a8 (a8 h))) F ok ox).1 (d8 B m x _ (a8 (a8 (a8 h))) F ok ox).1
theorem w0 (B:Base C A CS):∀ (m:MS) (x:Cx) (sts:List Stmt),okSs m x sts=true→GotSs C A CS N m x sts
  | .skip,x,sts,h=>m5 (P:=GotSs C A CS N .skip x) h fun _ F ok of ox=>aF2
  | .seq a b,x,sts,h=>(E1 h).elim (fun h=>q9 (P:=GotSs C A CS N (.seq a b) x) h fun st r h F ok of ox=>au4 (aB0 B a x _ (b7 h) F ok of ox) (w0 B b x _ (a8 h) F ok of ox))
      fun h=>aB1 (P:=fun a=>GotSs C A CS N (.seq a b) x sts) h fun i kvs k m h=>aU9 B h fun r h=>w0 B b x r h
  | .dead,x,sts,h=>fun F ok of ox=>fun {g loc c s} r Q E G=>G.no
  | .assign _ _,x,sts,h=>no_f h
  | .unpack _ _,x,sts,h=>no_f h
  | .pair _ _ _ _,x,sts,h=>no_f h
  | .aug _ _ _,x,sts,h=>no_f h
  | .setidx _ _ _,x,sts,h=>no_f h
  | .ite _ _ _,x,sts,h=>no_f h
  | .while _ _,x,sts,h=>no_f h
  | .for _ _ _,x,sts,h=>no_f h
  | .forT _ _ _,x,sts,h=>no_f h
  | .forR _ _ _ _,x,sts,h=>no_f h
  | .ret _,x,sts,h=>no_f h
  | .raise _ _,x,sts,h=>no_f h
  | .raiseEnd _,x,sts,h=>no_f h
  | .expr _,x,sts,h=>no_f h
  | .tryR _ _,x,sts,h=>no_f h
  | .dictIf _ _ _ _,x,sts,h=>no_f h
end
end
end Mine
end
section
set_option backward.match.sparseCases false
namespace Mine
open PySem PySem.Spec PySem.Calls PyProof.Rows PySem.W
structure Ent where
  name:PySem.Str
  f:Nat
  d:FD
  vars:List PySem.Str
noncomputable def vRef (v:Value) (k:Addr→Bool):Bool:=match v with | .ref a=>k a | _=>false
noncomputable def vStr (v:Value) (k:PySem.Str→Bool):Bool:=match v with | .str a _=>k a | _=>false
noncomputable def vType (v:Value) (k:String→Bool):Bool:=match v with | .type a=>k a | _=>false
noncomputable def vBuiltin (v:Value) (k:String→Bool):Bool:=match v with | .builtin a=>k a | _=>false
noncomputable def isNoneV (v:Value):Bool:=match v with | .none=>true | _=>false
noncomputable def dFunc (d:Data) (k:FuncData→Bool):Bool:=match d with | .func f=>k f | _=>false
noncomputable def dFields (d:Data) (k:Array Value→Bool):Bool:=match d with | .fields f=>k f | _=>false
noncomputable def dCls (d:Data) (k:ClassData→Bool):Bool:=match d with | .cls f=>k f | _=>false
noncomputable def fStmts (d:FuncBody) (k:List Stmt→Bool):Bool:=match d with | .stmts f=>k f | _=>false
section
variable {P:Value→Prop} {v:Value} {G:Prop}
theorem au1 {k:Addr→Bool} (h:vRef v k=true) (H:∀ a,k a=true→P (.ref a)):P v:=by cases v <;> first | exact H _ h | exact no_f h
theorem aP4 {k:PySem.Str→Bool} (h:vStr v k=true) (H:∀ a t,k a=true→P (.str a t)):P v:=by cases v <;> first | exact H _ _ h | exact no_f h
theorem aD8 {k:String→Bool} (h:vType v k=true) (H:∀ a,k a=true→P (.type a)):P v:=by cases v <;> first | exact H _ h | exact no_f h
theorem ah2 {k:String→Bool} (h:vBuiltin v k=true) (H:∀ a,k a=true→P (.builtin a)):P v:=by cases v <;> first | exact H _ h | exact no_f h
theorem ar1 (h:isNoneV v=true):v=.none:=by cases v <;> first | rfl | exact no_f h
variable {d:Data} {b:FuncBody}
theorem aN1 {k:FuncData→Bool} (h:dFunc d k=true) (H:∀ f,d=.func f→k f=true→G):G:=by cases d <;> first | exact H _ rfl h | exact no_f h
theorem as3 {k:Array Value→Bool} (h:dFields d k=true) (H:∀ f,d=.fields f→k f=true→G):G:=by cases d <;> first | exact H _ rfl h | exact no_f h
theorem aW9 {k:ClassData→Bool} {P:Data→Prop} (h:dCls d k=true) (H:∀ f,k f=true→P (.cls f)):P d:=by cases d <;> first | exact H _ h | exact no_f h
theorem aB8 {k:List Stmt→Bool} (h:fStmts b k=true) (H:∀ f,b=.stmts f→k f=true→G):G:=by cases b <;> first | exact H _ rfl h | exact no_f h
end
noncomputable def plainArgs (p:Arguments) (k:List Arg→Bool):Bool:=lNil p.posonlyargs (oNone p.vararg (lNil p.kwonlyargs (lNil p.kw_defaults (oNone p.kwarg (lNil p.defaults (k p.args))))))
theorem ad8 {p:Arguments} {k:List Arg→Bool} {G:Prop} (h:plainArgs p k=true) (H:∀ args,p={ posonlyargs:=[],args:=args,vararg:=none,kwonlyargs:=[],kw_defaults:=[],kwarg:=none,defaults:=[] }→k args=true→G):G:=by
  obtain ⟨a,b,c,d,e,f,g⟩:=p
  exact m5 (P:=fun x=>a=x→G) h (fun h ea=>E2 (P:=fun x=>c=x→G) h (fun h ec=>m5 (P:=fun x=>d=x→G) h (fun h ed=>m5 (P:=fun x=>e=x→G) h (fun h ee=>E2 (P:=fun x=>f=x→G) h (fun h ef=>m5 (P:=fun x=>g=x→G) h (fun h eg=>by
    subst ea ec ed ee ef eg; exact H b rfl h) rfl) rfl) rfl) rfl) rfl) rfl
noncomputable def codeSee (h:Heap) (cd:Value) (q:PySem.Str):Bool:=vRef cd fun c=>oSome (h.get? c) fun o=>dFields o.data fun vs=>oSome (vs[1]?:Option Value) fun v=>vStr v fun q'=>decide (q'=q)
noncomputable def Kept (h h':Heap):Prop:=∀ b o,h.get? b=some o→(∀ vs n,o.data≠.seq vs n)→h'.get? b=some o
theorem as5 {h h':Heap} {cd:Value} {q:PySem.Str} (k:Kept h h') (x:codeSee h cd q=true):h'.CodeRec cd q :=
  au1 (P:=fun cd=>h'.CodeRec cd q) x fun c x=>u8 x fun o ho x=>as3 x fun vs hd x=>u8 x fun v hv x=>aP4 (P:=fun v=>(vs[1]?:Option Value)=some v→h'.CodeRec (.ref c) q) x (fun q' t x hv =>
    ⟨c,o,vs,t,rfl,k _ _ ho (fun a b z=>by rw [hd] at z; cases z),hd,g7 x▸hv⟩) hv
noncomputable def defSee (h:Heap) (fd:FuncData) (k:List Arg→List Stmt→Bool):Bool:=plainArgs fd.params fun args=>fStmts fd.body fun body=>isNoneV fd.defaults&&(decide (fd.globals=mainGlobals)&&(lNil fd.closure true&&(decide (fd.builtins=builtinsNs)&&(codeSee h fd.code fd.qualname &&
  (decide (fd.scope.kind=.function)&&(!fd.scope.isCoroutine&&(!fd.scope.isGenerator&&k args body)))))))
theorem ac2 {h h':Heap} (k:Kept h h') {fd:FuncData} {K:List Arg→List Stmt→Bool} {G:Prop} (x:defSee h fd K=true) (H:∀ args body,DefIs h' fd args body→K args body=true→G):G :=
  ad8 x fun args hp x=>aB8 x fun body hb x =>
    have x4:=a8 (a8 (a8 x))
    have x7:=a8 (a8 (a8 x4))
    H args body ⟨hp,ar1 (b7 x),hb,g7 (b7 (a8 x)),m5 (P:=(·=[])) (b7 (a8 (a8 x))) fun _=>rfl,g7 (b7 x4),as5 k (b7 (a8 x4)),g7 (b7 (a8 (a8 x4))),v8 (b7 x7),v8 (b7 (a8 x7))⟩ (a8 (a8 x7))
noncomputable def fnAt (h:Heap) (a:Addr) (k:Obj→FuncData→Bool):Bool:=oSome (h.get? a) fun o=>dFunc o.data fun fd=>k o fd
theorem af4 {h h':Heap} (k:Kept h h') {a:Addr} {K:Obj→FuncData→Bool} {G:Prop} (x:fnAt h a K=true) (H:∀ o fd,h'.get? a=some o→o.data=.func fd→K o fd=true→G):G :=
  u8 x fun o ho x=>aN1 x fun fd hd x=>H o fd (k _ _ ho fun a b z=>by rw [hd] at z; cases z) hd x
noncomputable def fnSee (fns:List (PySem.Str×Nat)) (h:Heap) (e:Ent):Bool:=oSome (h.nsMap mainGlobals e.name) fun v=>vRef v fun a=>fnAt h a fun _ fd=>defSee h fd fun args body=>decide (args.map (·.arg)).Nodup&&((args.map (·.arg)).all (fun n=>fd.scope.names.lookup n==some .local || fd.scope.names.lookup n==some .cell) &&
  (decide (e.d.np=args.length)&&(decide e.vars.Nodup&&(decide (e.vars.length=e.d.nv)&&(decide (e.vars.take e.d.np=args.map (·.arg))&&okSs e.d.body { scope:=fd.scope,vars:=e.vars,fns:=fns } body)))))
noncomputable def entOf (T:List Ent) (f:Nat):Option Ent:=T.find? (fun e=>e.f==f)
noncomputable def fnsOf (T:List Ent):List (PySem.Str×Nat):=T.map fun e=>(e.name,e.f)
noncomputable def addrOf (mg:PySem.Str→Option Value) (n:PySem.Str):Option Addr:=match mg n with | some (.ref a)=>some a | _=>none
noncomputable def fnAOf (T:List Ent) (mg:PySem.Str→Option Value) (f:Nat):Option Addr:=(entOf T f).bind fun e=>addrOf mg e.name
noncomputable def tabOf (T:List Ent) (f:Nat):Option FD:=(entOf T f).map (·.d)
noncomputable def mkCfg (T:List Ent) (prog:Program) (w:World) (h:Heap) (mg mb:PySem.Str→Option Value):Cfg :=
  { prog:=prog,w:=w,h₀:=h,mg:=mg,mb:=mb,fnA:=fnAOf T mg,tokC:=(addrOf mg "Token").getD 0,pfC:=(addrOf mg "ParseFault").getD 0 }
theorem aL7 {T:List Ent} {fns:List (PySem.Str×Nat)} {h h':Heap} {C:Cfg} (hC:C.h₀=h') (k:Kept h h') {e:Ent} {a:Addr} (hn:h.nsMap mainGlobals e.name=some (.ref a)) (x:fnSee fns h e=true) {f:Nat} (ht:tabOf T f=some e.d)
    (hb:∀ (A:Around) (CS:Calls) (k:Nat),A.depth+3 * k+8 < recursionLimit→A.units+20 * k+317 < cLine→(∀ F A,FmOK C F A→A.depth+3 * k+6 < recursionLimit→A.units+20 * k+300 < cLine→CallsAt C A F CS)→Base C A CS):FnIs C fns (tabOf T) f a:=by
  subst hC
  unfold fnSee at x
  rw [hn] at x
  exact af4 k x fun o fd ho hd x=>ac2 k x fun args body D x =>
    have x3:=a8 (a8 x)
    have x6:=a8 (a8 (a8 x3))
    ⟨o,fd,args,body,ho,hd,D,g7 (b7 x),fun n hn=>(E1 (List.all_eq_true.mp (b7 (a8 x)) n hn)).imp r8 r8,fun d hT=>Option.some.inj (ht.symm.trans hT) ▸
      ⟨e.vars,g7 (b7 x3),g7 (b7 (a8 x3)),g7 (b7 (a8 (a8 x3))),g7 (b7 x6),fun A F CS N k ok of ox hd hu hc=>w0 (hb A CS k hd hu hc) _ _ _ (a8 x6) F ok of ox⟩⟩
noncomputable def plainSee (h:Heap) (a:Addr) (names globs:List PySem.Str) (P:List Stmt→Bool):Bool:=fnAt h a fun o fd=>decide (o.cls=.type "function")&&defSee h fd fun args body=>decide (args.map (·.arg)=names)&&(names.all (fun n=>fd.scope.names.lookup n==some .local) &&
  (globs.all (fun n=>fd.scope.names.lookup n==some .globalImplicit)&&P body))
theorem G9 {h h':Heap} (k:Kept h h') {a:Addr} {names globs:List PySem.Str} {P:List Stmt→Bool} (hu:names.Nodup) (x:plainSee h a names globs P=true):∃ body,P body=true∧PlainFn h' a names globs body :=
  af4 k x fun o fd ho hd x=>ac2 k (a8 x) fun args body D y =>
    ⟨body,a8 (a8 (a8 y)),o,fd,args,ho,g7 (b7 x),hd,D,g7 (b7 y),hu,fun n hn=>r8 (List.all_eq_true.mp (b7 (a8 y)) n hn),fun n hn=>r8 (List.all_eq_true.mp (b7 (a8 (a8 y))) n hn)⟩
noncomputable def isNm (e:Expr) (n:PySem.Str):Bool:=xName e fun m _=>decide (m=n)
theorem F8 {P:Expr→Prop} {e:Expr} {n:PySem.Str} (h:isNm e n=true) (H:∀ p,P (.Name n p)):P e:=k6 h fun m p h=>(g7 h:m=n)▸H p
noncomputable def ownSee (n:PySem.Str) (st:Stmt):Bool:=sAssign st fun ts e _=>l1 ts fun t=>xAttr t fun o a _=>decide (a=n)&&(isNm o "self" && isNm e n)
theorem E0 {n:PySem.Str} {st:Stmt} (h:ownSee n st=true):setsOwn st n :=
  A1 (P:=fun st=>setsOwn st n) h fun ts e p h=>u5 (P:=fun ts=>setsOwn (.Assign ts e p) n) h fun t h=>B4 (P:=fun t=>setsOwn (.Assign [t] e p) n) h fun o a p' h =>
    F8 (P:=fun o=>setsOwn (.Assign [.Attribute o a p'] e p) n) (b7 (a8 h)) fun q=>F8 (P:=fun e=>setsOwn (.Assign [.Attribute (.Name "self" q) a p'] e p) n) (a8 (a8 h)) fun q'=>(g7 (b7 h):a=n)▸⟨_,_,_,_,rfl⟩
noncomputable def upSee (cls:PySem.Str) (st:Stmt):Bool:=sExpr st fun e _=>xCall e fun f es ws p5=>xAttr f fun o i p2=>l2 es fun a b=>lNil ws (isNm o cls&&(isNm a "self" && (isNm b "why" && (decide (i = "__init__")&&(p2.endLine==p5.line)))))
theorem aD9 {cls:PySem.Str} {st:Stmt} {P:Stmt→Prop} (h:upSee cls st=true) (H:∀ p1 p2 p3 p4 p5 p6,(p2.endLine==p5.line)=true→P (.Expr (.Call (.Attribute (.Name cls p1) "__init__" p2) [.Name "self" p3,.Name "why" p4] [] p5) p6)):P st :=
  aj0 h fun e p6 h=>w9 (P:=fun e=>P (.Expr e p6)) h fun f es ws p5 h=>B4 (P:=fun f=>P (.Expr (.Call f es ws p5) p6)) h fun o i p2 h=>B9 (P:=fun es=>P (.Expr (.Call (.Attribute o i p2) es ws p5) p6)) h fun a b h=>m5 (P:=fun ws=>P (.Expr (.Call (.Attribute o i p2) [a,b] ws p5) p6)) h fun h =>
    F8 (P:=fun o=>P (.Expr (.Call (.Attribute o i p2) [a,b] [] p5) p6)) (b7 h) fun p1=>F8 (P:=fun a=>P (.Expr (.Call (.Attribute (.Name cls p1) i p2) [a,b] [] p5) p6)) (b7 (a8 h)) fun p3=>F8 (P:=fun b=>P (.Expr (.Call (.Attribute (.Name cls p1) i p2) [.Name "self" p3,b] [] p5) p6)) (b7 (a8 (a8 h))) fun p4 =>
    (show i = "__init__" from g7 (b7 (a8 (a8 (a8 h)))))▸H p1 p2 p3 p4 p5 p6 (a8 (a8 (a8 (a8 h))))
theorem ah3 {cls:PySem.Str} {st:Stmt} (h:upSee cls st=true):∃ p1 p2 p3 p4 p5 p6,st=.Expr (.Call (.Attribute (.Name cls p1) "__init__" p2) [.Name "self" p3,.Name "why" p4] [] p5) p6∧(p2.endLine==p5.line)=true :=
  aD9 (P:=fun st=>∃ p1 p2 p3 p4 p5 p6,st=.Expr (.Call (.Attribute (.Name cls p1) "__init__" p2) [.Name "self" p3,.Name "why" p4] [] p5) p6∧(p2.endLine==p5.line)=true) h fun p1 p2 p3 p4 p5 p6 h=>⟨p1,p2,p3,p4,p5,p6,rfl,h⟩
structure ClsIs (h:Heap) (C:Addr) (bm:List Value) (newId:String) (cd:ClassData):Prop where
  is:∃ dd k0 k1 k2 k3 k5,h.get? C=some (excClassObj cd.name cd.qualname C cd.ns cd.bases bm cd.hasDict cd.slotNames cd.subclasses cd.abstract cd.collection dd k0 k1 k2 k3 k5 newId)
noncomputable def slotSee (newId:String) (sl:List (Option Value)):Bool:=lCons sl fun _ r=>lCons r fun _ r=>lCons r fun _ r=>lCons r fun _ r=>lCons r fun x r=>lCons r fun _ r=>lNil r (oSome x fun v=>vBuiltin v fun n=>decide (n=newId))
theorem ao2 {newId:String} {sl:List (Option Value)} (h:slotSee newId sl=true):∃ k0 k1 k2 k3 k5,sl=[k0,k1,k2,k3,some (.builtin newId),k5] :=
  q9 (P:=fun sl=>∃ k0 k1 k2 k3 k5,sl=[k0,k1,k2,k3,some (.builtin newId),k5]) h fun k0 r h=>q9 (P:=fun r=>∃ j0 k1 k2 k3 k5,k0::r=[j0,k1,k2,k3,some (.builtin newId),k5]) h fun k1 r h=>q9 (P:=fun r=>∃ j0 j1 k2 k3 k5,k0::k1::r=[j0,j1,k2,k3,some (.builtin newId),k5]) h fun k2 r h =>
    q9 (P:=fun r=>∃ j0 j1 j2 k3 k5,k0::k1::k2::r=[j0,j1,j2,k3,some (.builtin newId),k5]) h fun k3 r h=>q9 (P:=fun r=>∃ j0 j1 j2 j3 k5,k0::k1::k2::k3::r=[j0,j1,j2,j3,some (.builtin newId),k5]) h fun x r h =>
    q9 (P:=fun r=>∃ j0 j1 j2 j3 k5,k0::k1::k2::k3::x::r=[j0,j1,j2,j3,some (.builtin newId),k5]) h fun k5 r h=>m5 (P:=fun r=>∃ j0 j1 j2 j3 j5,k0::k1::k2::k3::x::k5::r=[j0,j1,j2,j3,some (.builtin newId),j5]) h fun h =>
    v7 (P:=fun x=>∃ j0 j1 j2 j3 j5,k0::k1::k2::k3::x::[k5]=[j0,j1,j2,j3,some (.builtin newId),j5]) h fun v h=>ah2 (P:=fun v=>∃ j0 j1 j2 j3 j5,k0::k1::k2::k3::some v::[k5]=[j0,j1,j2,j3,some (.builtin newId),j5]) h fun n h=>g7 h▸⟨k0,k1,k2,k3,k5,rfl⟩
noncomputable def clsSee (h:Heap) (C:Addr) (bm:List Value) (newId:String) (P:ClassData→Bool):Bool:=oSome (h.get? C) fun o=>vType o.cls fun t=>dCls o.data fun cd=>decide (t = "type")&&(decide (cd.mro=.ref C::bm)&&(!cd.hasDel&&(slotSee newId o.slots.toList&&P cd)))
theorem P5 {h h':Heap} (k:Kept h h') {C:Addr} {bm:List Value} {newId:String} {P:ClassData→Bool} {G:Prop} (x:clsSee h C bm newId P=true) (H:∀ cd,ClsIs h' C bm newId cd→P cd=true→G):G :=
  u8 x fun o ho x=>by
  obtain ⟨cls,dd,data,⟨sl⟩⟩:=o
  refine aD8 (P:=fun v=>h.get? C=some ⟨v,dd,data,⟨sl⟩⟩→G) x (fun t x ho=>aW9 (P:=fun d=>h.get? C=some ⟨.type t,dd,d,⟨sl⟩⟩→G) x (fun cd x ho=>?_) ho) ho
  have x3:=a8 (a8 x)
  obtain ⟨k0,k1,k2,k3,k5,e⟩:=ao2 (b7 (a8 x3))
  refine H cd ⟨dd,k0,k1,k2,k3,k5,?_⟩ (a8 (a8 x3))
  have e':sl=_:=e
  rw [(g7 (b7 x):t=_),e'] at ho
  have e1:cd.mro=_:=g7 (b7 (a8 x))
  have e2:cd.hasDel=_:=v8 (b7 x3)
  obtain ⟨nm,bs,mro,ns,qn,hd,sn,sub,ab,col,del⟩:=cd
  cases e1; cases e2
  exact k _ _ ho fun a b z=>by cases z
end Mine
end
section
namespace Mine
open PySem PySem.Spec PySem.Calls PyProof.Rows PySem.W
noncomputable def nsNone (h:Heap) (N:Addr) (ns:List PySem.Str):Bool:=ns.all fun n=>(h.nsMap N n).isNone
noncomputable def tokP (h:Heap) (cd:ClassData):Bool:=cd.hasDict&&(!cd.abstract&&(h.isNs cd.ns&&(nsNone h cd.ns ["__getattribute__", "__setattr__", "sort", "value", "line"]&&oSome (addrOf (h.nsMap cd.ns) "__init__") fun f =>
  plainSee h f ["self", "sort", "value", "line"] [] fun body=>lCons body fun s1 r=>l2 r fun s2 s3=>ownSee "sort" s1&&(ownSee "value" s2&&ownSee "line" s3))))
noncomputable def tokSee (h:Heap):Bool:=oSome (addrOf (h.nsMap mainGlobals) "Token") fun c=>clsSee h c [.type "object"] "object.__new__" (tokP h)
noncomputable def nonseq (o:Obj):Bool:=match o.data with | .seq _ _=>false | _=>true
noncomputable def kOf (h:Heap) (as:List Addr):Frag:=as.filterMap fun a=>(h.get? a).bind fun o=>if nonseq o then some (a,o) else none
noncomputable def pfNames:List PySem.Str:=["__setattr__", "__getattribute__", "__getattr__", "why", "line"]
noncomputable def initSee (h:Heap) (ns:Addr) (args:List PySem.Str) (up:PySem.Str) (own:PySem.Str) (k:Addr→Bool):Bool:=oSome (addrOf (h.nsMap ns) "__init__") fun f=>plainSee h f args [up] (fun body=>l2 body fun s1 s2=>upSee up s1&&ownSee own s2)&&k f
noncomputable def phP (h:Heap) (p:Addr) (cd:ClassData):Bool:=h.isNs cd.ns&&(nsNone h cd.ns pfNames&&initSee h cd.ns ["self", "why"] "Exception" "why" fun f =>
  readsIn (kOf h [p,cd.ns,cStatics,f]) p (.type "type")&&((match findCls (kOf h [p,cd.ns,cStatics,f]) (.ref p) (.type "type") "__init__" with | some (.val v)=>decide (v=.ref f) | _=>false) &&
    decide (specialIn (kOf h [p,cd.ns,cStatics,f]) (.ref p) "__getattribute__" = some (some (.builtin "type.__getattribute__")))))
noncomputable def pcP (h:Heap) (cd:ClassData):Bool:=cd.hasDict&&(h.isNs cd.ns&&(nsNone h cd.ns pfNames&&initSee h cd.ns ["self", "why", "line"] "PhpFault" "line" fun _=>true))
noncomputable def pfSee (h:Heap):Bool:=oSome (addrOf (h.nsMap mainGlobals) "ParseFault") fun c=>oSome (addrOf (h.nsMap mainGlobals) "PhpFault") fun p=>clsSee h c (pfBm p) "Exception.__new__" (pcP h)&&(clsSee h p bmE "Exception.__new__" (phP h p)&&nsNone h mainGlobals ["Exception"])
noncomputable def endBody (body:List Stmt):Bool:=l1 body fun st=>sRet st fun v _=>oSome v fun v=>xCall v fun f es ws _=>lNil ws (l2 es fun a b=>isNm f "ParseFault" && (isNm b "line" && xConst a fun t _ _=>cStr t fun t=>decide (t=strOf endText)))
noncomputable def endSee (h:Heap):Bool:=oSome (addrOf (h.nsMap mainGlobals) "no_end") fun f=>plainSee h f ["line"] ["ParseFault"] endBody
noncomputable def namesSee (T:List Ent) (h:Heap):Bool:=T.all fun e=>match entOf T e.f with | some e'=>decide (e'.name=e.name) | none=>false
noncomputable def see (T:List Ent) (h:Heap):Bool:=h.isNs mainGlobals&&nsNone h mainGlobals bltNames&&namesSee T h&&tokSee h&&pfSee h&&endSee h&&T.all (fnSee (fnsOf T) h)
theorem E3 {h:Heap} {N:Addr} {ns:List PySem.Str} (x:nsNone h N ns=true):∀ n∈ns,h.nsMap N n=none:=fun n hn=>by
  have:=List.all_eq_true.mp x n hn
  simpa using this
theorem B1 {m:PySem.Str→Option Value} {n:PySem.Str} {a:Addr} (h:addrOf m n=some a):m n=some (.ref a):=by
  unfold addrOf at h
  split at h
  · rename_i b hb; cases h; exact hb
  · cases h
theorem S0 {h h':Heap} (k:Kept h h') {N:Addr} (x:h.isNs N=true):h'.Ns N (h.nsMap N):=by
  obtain ⟨o,es,ep,a,b,c⟩:=Heap.Ns.of_isNs x
  exact ⟨o,es,ep,k _ _ a (fun vs n z=>by rw [b] at z; cases z),b,c⟩
theorem aq4 {a:Addr} {o:Obj} {K:Frag}:K.lookup a=some o→(a,o)∈K:=by
  induction K with
  | nil=>exact fun e=>nomatch e
  | cons p r ih =>
    intro e
    rw [List.lookup_cons] at e
    cases hb:a==p.1 with
    | true=>rw [hb] at e; cases e; exact r8 hb▸.head _
    | false=>rw [hb] at e; exact .tail _ (ih e)
theorem bc9 {h h':Heap} (k:Kept h h') {as:List Addr}:Frag.In (kOf h as) h':=fun a o e=>by
  obtain ⟨b,hb,hq⟩:=List.mem_filterMap.mp (aq4 e)
  obtain ⟨o',ho',hi⟩:=Option.bind_eq_some_iff.mp hq
  split at hi
  · rename_i hn
    cases hi
    exact k _ _ ho' fun vs n z=>by unfold nonseq at hn; rw [z] at hn; cases hn
  · cases hi
section
variable {T:List Ent} {h h':Heap} {mg mb:PySem.Str→Option Value} {prog:Program} {w:World}
theorem L5 (k:Kept h h') (x:h.isNs mainGlobals=true) (g:h'.Ns mainGlobals mg):h.nsMap mainGlobals=mg:=by
  obtain ⟨o,es,ep,a,b,_,c⟩:=S0 k x
  obtain ⟨o',es',ep',a',b',_,c'⟩:=g
  rw [a] at a'; cases a'
  rw [b] at b'; cases b'
  exact funext fun n=>(c n).symm.trans (c' n)
theorem aH5 {n:PySem.Str} {c:Addr} (hc:addrOf mg n=some c):(addrOf mg n).getD 0=c:=by rw [hc]; rfl
theorem tokIs (k:Kept h h') (x:h.isNs mainGlobals=true) (g:h'.Ns mainGlobals mg) (t:tokSee h=true):TokIs (mkCfg T prog w h' mg mb)∧mg "Token" = some (.ref (mkCfg T prog w h' mg mb).tokC):=by
  unfold tokSee at t
  rw [L5 k x g] at t
  refine u8 t fun c hc t=>P5 k t fun cd ⟨dd,k0,k1,k2,k3,k5,hC⟩ p=>?_
  have ec:(mkCfg T prog w h' mg mb).tokC=c:=aH5 hc
  have p3:=a8 (a8 p)
  refine u8 (a8 (a8 p3)) fun f hf p5=>?_
  obtain ⟨body,hb,pf⟩:=G9 k (by decide) p5
  have nn:=E3 (b7 (a8 p3))
  rw [b7 p,v8 (b7 (a8 p))] at hC
  rw [← ec] at hC hc
  have I:∃ s1 s2 s3,TokInit h' f s1 s2 s3:=q9 (P:=fun body=>PlainFn h' f ["self", "sort", "value", "line"] [] body→∃ s1 s2 s3,TokInit h' f s1 s2 s3) hb (fun s1 r hb=>B9 (P:=fun r=>PlainFn h' f ["self", "sort", "value", "line"] [] (s1::r)→∃ s1 s2 s3,TokInit h' f s1 s2 s3) hb fun s2 s3 hb pf =>
    ⟨s1,s2,s3,pf,E0 (b7 hb),E0 (b7 (a8 hb)),E0 (a8 (a8 hb))⟩) pf
  exact ⟨⟨cd.name,cd.qualname,cd.ns,cd.bases,cd.slotNames,cd.subclasses,cd.collection,dd,k0,k1,k2,k3,k5,hC,h.nsMap cd.ns,f,S0 k (b7 p3),nn _ (by decide),nn _ (by decide),nn _ (by decide),nn _ (by decide),nn _ (by decide),B1 hf,I⟩,B1 hc⟩
theorem endIs (k:Kept h h') (x:h.isNs mainGlobals=true) (g:h'.Ns mainGlobals mg) (t:endSee h=true):EndIs (mkCfg T prog w h' mg mb):=by
  unfold endSee at t
  rw [L5 k x g] at t
  refine u8 t fun f hf t=>?_
  obtain ⟨body,hb,pf⟩:=G9 k (by decide) t
  have D:=B1 hf
  refine u5 (P:=fun body=>PlainFn h' f ["line"] ["ParseFault"] body→EndIs (mkCfg T prog w h' mg mb)) hb (fun st hb=>R5 (P:=fun st=>PlainFn h' f ["line"] ["ParseFault"] [st]→EndIs (mkCfg T prog w h' mg mb)) hb fun v p5 hb=>v7 (P:=fun v=>PlainFn h' f ["line"] ["ParseFault"] [.Return v p5]→EndIs (mkCfg T prog w h' mg mb)) hb fun v hb =>
    w9 (P:=fun v=>PlainFn h' f ["line"] ["ParseFault"] [.Return (some v) p5]→EndIs (mkCfg T prog w h' mg mb)) hb fun fn es ws p4 hb=>m5 (P:=fun ws=>PlainFn h' f ["line"] ["ParseFault"] [.Return (some (.Call fn es ws p4)) p5]→EndIs (mkCfg T prog w h' mg mb)) hb fun hb =>
    B9 (P:=fun es=>PlainFn h' f ["line"] ["ParseFault"] [.Return (some (.Call fn es [] p4)) p5]→EndIs (mkCfg T prog w h' mg mb)) hb fun a b hb=>F8 (P:=fun fn=>PlainFn h' f ["line"] ["ParseFault"] [.Return (some (.Call fn [a,b] [] p4)) p5]→EndIs (mkCfg T prog w h' mg mb)) (b7 hb) fun p1 =>
    F8 (P:=fun b=>PlainFn h' f ["line"] ["ParseFault"] [.Return (some (.Call (.Name "ParseFault" p1) [a,b] [] p4)) p5]→EndIs (mkCfg T prog w h' mg mb)) (b7 (a8 hb)) fun p3=>x0 (P:=fun a=>PlainFn h' f ["line"] ["ParseFault"] [.Return (some (.Call (.Name "ParseFault" p1) [a,.Name "line" p3] [] p4)) p5]→EndIs (mkCfg T prog w h' mg mb)) (a8 (a8 hb)) fun tt k' p2 hb =>
    N4 (P:=fun t=>PlainFn h' f ["line"] ["ParseFault"] [.Return (some (.Call (.Name "ParseFault" p1) [.Constant t k' p2,.Name "line" p3] [] p4)) p5]→EndIs (mkCfg T prog w h' mg mb)) hb fun tt hb pf=>⟨f,p1,k',p2,p3,p4,p5,D,(g7 hb:tt=_)▸pf⟩) pf
theorem W8 {ns:Addr} {args:List PySem.Str} {up own:PySem.Str} {K:Addr→Bool} {G:Prop} (k:Kept h h') (hu:args.Nodup) (x:initSee h ns args up own K=true)
    (H:∀ f s1 s2,h.nsMap ns "__init__" = some (.ref f)→PlainFn h' f args [up] [s1,s2]→upSee up s1=true→ownSee own s2=true→K f=true→G):G :=
  u8 x fun f hf x=>let ⟨body,hb,pf⟩:=G9 k hu (b7 x)
    B9 (P:=fun body=>PlainFn h' f args [up] body→G) hb (fun s1 s2 hb pf=>H f s1 s2 (B1 hf) pf (b7 hb) (a8 hb) (a8 x)) pf
theorem pfIs (k:Kept h h') (x:h.isNs mainGlobals=true) (g:h'.Ns mainGlobals mg) (t:pfSee h=true):Nonempty (PfD (mkCfg T prog w h' mg mb)):=by
  unfold pfSee at t
  rw [L5 k x g] at t
  refine u8 t fun c hc t=>u8 t fun p hp t=>P5 k (b7 t) fun cd ⟨dd,k0,k1,k2,k3,k5,hC⟩ q=>P5 k (b7 (a8 t)) fun cd' ⟨dd',j0,j1,j2,j3,j5,hC'⟩ q' =>
    W8 k (by decide) (a8 (a8 (a8 q))) fun f s1 s2 hf pf u1 u2 _=>W8 k (by decide) (a8 (a8 q')) fun f' s1' s2' hf' pf' u1' u2' r=>?_
  have ec:(mkCfg T prog w h' mg mb).pfC=c:=aH5 hc
  rw [b7 q] at hC
  rw [← ec] at hC hc
  have fnd:findCls (kOf h [p,cd'.ns,cStatics,f']) (.ref p) (.type "type") "__init__" = some (.val (.ref f')):=by
    have:=b7 (a8 r)
    split at this
    · rename_i e; rw [e,(g7 this:_=Value.ref f')]
    · cases this
  exact ⟨{ P:=p,fI:=f,fP:=f',cd:=cd,cd':=cd',dd:=dd,dd':=dd',k0:=k0,k1:=k1,k2:=k2,k3:=k3,k5:=k5,j0:=j0,j1:=j1,j2:=j2,j3:=j3,j5:=j5,mN:=h.nsMap cd.ns,mP:=h.nsMap cd'.ns,hC:=hC,hN:=S0 k (b7 (a8 q)),hP:=hC',hNP:=S0 k (b7 q'),initC:=hf,
           noC:=E3 (b7 (a8 (a8 q))),noP:=E3 (b7 (a8 q')),K:=_,KIn:=bc9 k,reads:=b7 r,find:=fnd,spec:=g7 (a8 (a8 r)),gP:=B1 hp,gC:=B1 hc,gE:=(L5 k x g)▸E3 (a8 (a8 t)) _ (by decide),
           c1:=s1,c2:=s2,d1:=s1',d2:=s2',bodyC:=pf,bodyP:=pf',isC1:=ah3 u1,isC2:=E0 u2,isD1:=ah3 u1',isD2:=E0 u2' }⟩
end
end Mine
end
section
namespace Mine
open PySem PySem.Spec PySem.Calls PyProof.Rows PySem.W
theorem aL8 {fns:List (PySem.Str×Nat)} {h h':Heap} (k:Kept h h') {e:Ent} {a:Addr} (hn:h.nsMap mainGlobals e.name=some (.ref a)) (x:fnSee fns h e=true):∃ o fd,h'.get? a=some o∧o.data=.func fd:=by
  unfold fnSee at x
  rw [hn] at x
  exact af4 k x fun o fd ho hd _=>⟨o,fd,ho,hd⟩
theorem ar9 {fns:List (PySem.Str×Nat)} {h:Heap} {e:Ent} (x:fnSee fns h e=true):∃ a,h.nsMap mainGlobals e.name=some (.ref a) :=
  u8 x fun v hv x=>au1 (P:=fun v=>h.nsMap mainGlobals e.name=some v→_) x (fun a _ hv=>⟨a,hv⟩) hv
section
variable {T:List Ent} {h h':Heap} {mg mb:PySem.Str→Option Value} {prog:Program} {w:World}
theorem ax9 {f:Nat} {a:Addr} (q:fnAOf T mg f=some a):∃ e∈T,entOf T f=some e∧mg e.name=some (.ref a):=by
  obtain ⟨e,he,ha⟩:=Option.bind_eq_some_iff.mp q
  exact ⟨e,List.mem_of_find?_eq_some he,he,B1 ha⟩
theorem aQ9 (k:Kept h h') (x:see T h=true) (g:h'.Ns mainGlobals mg) (b:h'.Ns builtinsNs mb) (nl:h'.NoLimit) (nd:∃ mc,h'.Ns cStatics mc∧mc "sys.int_max_str_digits" = none) (bl:∀ x:PySem.Str,x ≠ "__name__" → mb x=bootBuiltins x) :
    CfgX (mkCfg T prog w h' mg mb)∧(∀ f a,(mkCfg T prog w h' mg mb).fnA f=some a→FnIs (mkCfg T prog w h' mg mb) (fnsOf T) (tabOf T) f a)∧∀ p∈fnsOf T,∃ a,(mkCfg T prog w h' mg mb).mg p.1=some (.ref a)∧(mkCfg T prog w h' mg mb).fnA p.2=some a:=by
  unfold see at x
  simp only [Bool.and_eq_true,List.all_eq_true] at x
  obtain ⟨⟨⟨⟨⟨⟨x1,x2⟩,x3⟩,x4⟩,x5⟩,x6⟩,x7⟩:=x
  have hm:=L5 k x1 g
  have free:=E3 x2
  rw [hm] at free
  obtain ⟨tk,tb⟩:=tokIs (T:=T) (mb:=mb) (prog:=prog) (w:=w) k x1 g x4
  have pf:=pfIs (T:=T) (mb:=mb) (prog:=prog) (w:=w) k x1 g x5
  have en:=endIs (T:=T) (mb:=mb) (prog:=prog) (w:=w) k x1 g x6
  have oc:CfgX (mkCfg T prog w h' mg mb):={
    mgN:=g
    mbN:=b
    nolimit:=nl
    nodigits:=nd
    fn:=fun f a q=>by
      obtain ⟨e,he,_,hn⟩:=ax9 (T:=T) (mg:=mg) q
      exact aL8 k (by rw [hm]; exact hn) (x7 e he)
    blt:=bl
    free:=free
    tokB:=tb
    tokO:=by
      obtain ⟨nm,q,N,bs,sn,sub,col,dd,k0,k1,k2,k3,k5,hC,mN,fI,hN,_⟩:=tk.cls
      exact ⟨N,mN,⟨nm,q,bs,sn,sub,col,dd,k0,k1,k2,k3,k5,hC⟩,hN⟩ }
  have hfn:∀ f a,(mkCfg T prog w h' mg mb).fnA f=some a→FnIs (mkCfg T prog w h' mg mb) (fnsOf T) (tabOf T) f a:=fun f a q=>by
    obtain ⟨e,he,hf,hn⟩:=ax9 (T:=T) (mg:=mg) q
    refine aL7 rfl k (by rw [hm]; exact hn) (x7 e he) (by unfold tabOf; rw [hf]; rfl) fun A CS n hd hu hc=>?_
    exact ⟨oc,tk,pf,en,by omega,by omega,fun F ok=>hc F A ok (by omega) (by omega)⟩
  have hglob:∀ p∈fnsOf T,∃ a,(mkCfg T prog w h' mg mb).mg p.1=some (.ref a)∧(mkCfg T prog w h' mg mb).fnA p.2=some a:=fun p hp=>by
    obtain ⟨e,he,rfl⟩:=List.mem_map.mp hp
    obtain ⟨a,ha⟩:=ar9 (x7 e he)
    rw [hm] at ha
    refine ⟨a,ha,?_⟩
    have:=List.all_eq_true.mp x3 e he
    split at this
    · rename_i e' he'
      have:=of_decide_eq_true this
      show (entOf T e.f).bind _=_
      rw [he']
      show addrOf mg e'.name=_
      rw [this]; unfold addrOf; rw [ha]
    · cases this
  exact ⟨oc,hfn,hglob⟩
end
end Mine
end
section
namespace Mine
open PySem PySem.Spec PySem.Calls PyProof.Rows PySem.W
theorem bb9 {α:Type} {a b:α} {h h':H} (e:Mine.R.ok a h=.ok b h'):a=b∧h=h':=by
  injection e with e1 e2
  exact ⟨e1,e2⟩
theorem am2 {h:H} {n k:Nat} {v:V} {b:Bool} (e:frz h n k v=some (.bool b)):v=.bool b:=by
  cases k with
  | zero=>cases e
  | succ k =>
    cases v with
    | tup vs=>exact u0 e fun _ _ q=>nomatch q
    | lst vs=>exact u0 e fun _ _ q=>nomatch q
    | ref m =>
      have e:(if m < n then some (V.ref m) else (h[m]?).bind fun vs=>(vs.mapM (frz h n k)).map .lst)=_:=e
      split at e
      · cases e
      · exact j9 e fun _ _ e=>u0 e fun _ _ q=>nomatch q
    | tok a c d=>exact j9 e fun _ _ e=>j9 e fun _ _ e=>j9 e fun _ _ q=>nomatch q
    | _=>first | exact Option.some.inj e | cases e
theorem at3 {h₀ h:H} {v:V} {x:V×H} {b:Bool} (e:backO h₀ v h=some x) (hx:x.1=.bool b):v=.bool b:=by
  unfold backO at e
  split at e
  · exact (congrArg Prod.fst (Option.some.inj e)).trans hx
  · split at e
    · exact u0 e fun w hw q=>am2 (hw.trans (congrArg some ((congrArg Prod.fst q).trans hx:w=.bool b)))
    · exact j9 e fun w hw e=>u0 e fun h' _ q=>am2 (hw.trans (congrArg some ((congrArg Prod.fst q).trans hx:w=.bool b)))
theorem aD1 {v:V} {h c:H} {b:Bool} (e:back [] v h=.ok (.bool b) c):v=.bool b:=by
  unfold back at e
  cases q:backO [] v h with
  | none=>rw [q] at e; cases e
  | some x=>rw [q] at e; exact at3 q (bb9 e).1
theorem aD2 {h₀ h c:H} {w:List Nat} {l:Int} {v:V} (e:backPf h₀ w l h=.ok v c) {P:Prop}:P:=by
  unfold backPf at e
  cases q:backO h₀ .none h with
  | none=>rw [q] at e; cases e
  | some x=>rw [q] at e; cases e
section
variable {C:Cfg} {A:Around} {g:Gh} {s:Shared} {N:Nat}
theorem aE2 (oc:CfgX C) {fns:List (PySem.Str×Nat)} {T:Nat→Option FD} (hfn:∀ f a,C.fnA f=some a→FnIs C fns T f a) (hglob:∀ p∈fns,∃ a,C.mg p.1=some (.ref a)∧C.fnA p.2=some a) (k:Nat)
    (ih:∀ F A,FmOK C F A→A.depth+3 * k+6 < recursionLimit→A.units+20 * k+300 < cLine→CallsAt C A F (sem T N k)) (hhd:A.handled=none) (hfr:A.frames=some []) (hd:A.depth+3 * (k+1)+6 < recursionLimit) (hu:A.units+20 * (k+1)+300 < cLine)
    (h0:C.h₀=s.heap) (gs:g.σ=[]) (gi:∀ a x,g.im a=some x→∃ o,s.heap.get? a=some o∧Obj.is o x) {f:Nat} {args:List V} {vals:List Value} {a:Addr} (hargs:VRs C g args vals) (hf:C.fnA f=some a) {b:Bool} (hok:sem T N (k+1) f args []=.ok (.bool b) [])
    {Q:Value→Shared→Prop} {E:Value→Shared→Prop} (hQ:∀ h' tk,(∀ a o,s.heap.get? a=some o→h'.get? a=some o)→Q (.bool b) { s with heap:=h',toks:=tk }):wpAny (model C.prog C.w) A (call (.ref a) vals []) Q E s :=
  have base:∀ a o,C.h₀.get? a=some o→s.heap.get? a=some o:=fun a o e=>h0▸e
  have newN:∀ b,s.heap.get? b=none→New C g b:=fun b e=>⟨h0▸e,Option.eq_none_iff_forall_ne_some.mpr fun y q=>(gi b y q).elim fun _ w=>j8 e w.1⟩
  have pl:∀ env vars,places (inFm [] [] env vars) g=[env.locals]:=fun env vars=>congrArg (env.locals::·) gs
  (aF7 (c:=[]) fun q=>nomatch q.symm.trans hok).elim fun d D =>
  have hok:=D.2.2.symm.trans hok
  ay5 (c:=[]) (K:=[]) (FR:=[]) oc (hfn f a hf) hargs D.1 D.2.1 base (by omega) hhd hfr (fun e he=>nomatch he)
    (fun env vars h₁ m hnew keep hns=>⟨fun a o e=>keep _ _ (base _ _ e),fun a y e=>(gi a y e).imp fun o q=>⟨keep _ _ q.1,q.2⟩,(fun p hp=>nomatch hp),⟨_,hns,(fun i v e=>nomatch e)⟩,congrArg List.length gs.symm,(fun i vs e=>nomatch e),
      fun a ha=>List.mem_singleton.mp (pl env vars▸ha)▸newN _ hnew,pl env vars▸List.nodup_cons.mpr ⟨List.not_mem_nil,List.nodup_nil⟩⟩)
    (fun env vars cc hnew hne=>⟨newN _ hnew,fun m=>hne (List.mem_singleton.mp (pl env vars▸m))⟩)
    fun env vars body h₁ tk g1 ok' of' l1 R3 run =>
      run (A.deeper env) (inFm [] [] env vars) (sem T N k) N k ok' of' ⟨rfl,rfl,hglob⟩ (show A.depth+1+3 * k+8 < _ by omega) (show A.units+3+20 * k+317 < _ by omega) ih (s:={ s with heap:=h₁,toks:=tk }) R3 _ _
        ⟨(fun q=>nomatch (congrArg (callR []) q).symm.trans hok),(fun g2 h2 tk2 fl c2 fw q l2 y=>(au8 (c₁:=[]) y).elim fun v w=>by
          have e:v=.bool b:=aD1 (w.2.2.symm.trans ((congrArg (callR []) q).symm.trans hok))
          subst e
          show Q (retOf fw) _
          rw [show retOf fw=.bool b from w.2.1]
          exact hQ h2 tk2 fun a o e=>w.1.base a o (h0▸e)),(fun g2 h2 tk2 w l c2 e q l2 r2 x2=>aD2 ((congrArg (callR []) q).symm.trans hok))⟩
end
end Mine
end
section
namespace Mine
open PySem PySem.Spec PySem.Calls PyProof.Rows PySem.W
theorem ax4 {R:WRecords} {cl:PySem.Str→Option Addr} {h:Heap}:∀ {xs:List WData} {vs:List Value} {as:List Addr},ReadsAllW R cl h vs xs as→WShape.hasItems R xs .int=true→∃ is:List Int,vs.length=is.length∧xs.length=is.length∧∀ (C:Cfg) (g:Gh),VRs C g (is.map V.int) vs
  | [],vs,as,r,_=>by cases r; exact ⟨[],rfl,rfl,fun C g=>.nil⟩
  | d::xs,vs,as,r,x=>by
    have x':WShape.has R d .int=true∧WShape.hasItems R xs .int=true:=by simpa [WShape.hasItems] using x
    obtain ⟨i,rfl⟩:=hasW_int x'.1
    cases r with
    | cons r1 r2 =>
      cases r1
      obtain ⟨is,h1,h2,h3⟩:=ax4 r2 x'.2
      exact ⟨i::is,by simp [h1],by simp [h2],fun C g=>.cons (.int i _) (h3 C g)⟩
theorem walk_of {l:OpenLaw} {q:Program} {loose:List PySem.Str} {T:List Ent} {lawF:Nat} {d:DefRec} {kwd:List (PySem.Str×Expr)} {most:Nat} (hmost:l.most=some most) (hm:most≤1000) (hbound:l.bound=none)
    (hname:∃ e,entOf T lawF=some e∧e.name=d.name)
    (hsem:∀ is:List Int,sem (tabOf T) 5000 40 lawF [.lst (is.map .int)] []=.ok (.bool true) []) :
    WalkO q loose (fun _ _=>True) (fun _ h=>∃ h₀,see T h₀=true∧∀ b o,h₀.get? b=some o→h.get? b=some o) l.row.toRowW d kwd fun f vs=>PySem.call f vs:=by
  intro w s₀ s₁ mg mb G Y a o pm cd doc dV kV ho hd hcd hD hmg hg args vals as hpre hlay hrd hwl hlo
  obtain ⟨h₀,hs,hk⟩:=Y
  have kept:Kept h₀ s₁.heap:=fun b o e _=>hk b o e
  obtain ⟨p1,p2⟩:=pre_splitW hpre
  obtain ⟨x,r,rfl,q1,q2⟩:=hasAllW_cons (show WShape.hasAll [] args [.list .int]=true from p1)
  have:=hasAllW_nil q2
  subst this
  obtain ⟨xs,rfl,q3⟩:=hasW_list q1
  cases hrd with
  | @cons v vs _ _ as bs r1 r2 =>
  cases r2
  cases r1 with
  | @list sa so svs sn _ as' g1 g2 g3 g4 =>
  obtain ⟨is,l1,l2,l3⟩:=ax4 g4 q3
  have hlen:xs.length≤1000:=by
    have p2:(OpenLaw.pre l).holds [] { args:=[.list xs] }=true:=p2
    unfold OpenLaw.pre at p2
    rw [hmost,hbound] at p2
    rcases Nat.lt_or_ge most xs.length with q | q
    · exfalso
      have e:WTm.value [] (.lt (.lit (.int (most:Int))) (.len (.arg 0))) { args:=[.list xs] }=some (.bool true):=by
        show (W.less? (.int most) (.int xs.length)).map WData.bool=_
        have:W.less? (.int most) (.int xs.length)=some (decide ((most:Int) < (xs.length:Int))):=rfl
        rw [this,decide_eq_true (by omega)]; rfl
      unfold WTm.holds at p2
      have e2:WTm.value [] (.and (.not (.lt (.lit (.int (most:Int))) (.len (.arg 0)))) (.lit (.bool true))) { args:=[.list xs] }=some (.bool false):=by
        simp only [WTm.value] at e ⊢
        rw [e]; rfl
      rw [e2] at p2
      cases p2
    · omega
  obtain ⟨e,hen,hnm⟩:=hname
  obtain ⟨oc,hfn,hglob⟩:=aQ9 (prog:=l.prog) (w:=w) kept hs G.T.g G.T.b G.T.nolimit G.T.nodigits G.T.builtins
  have hfA:(mkCfg T l.prog w s₁.heap mg mb).fnA lawF=some a:=by
    show (entOf T lawF).bind _=_
    rw [hen]
    show addrOf mg e.name=_
    rw [hnm]; unfold addrOf; rw [hmg]
  have hg0:∀ b y,(⟨fun b=>if b=sa then some (triOf so) else none,[]⟩:Gh).im b=some y→∃ o,s₁.heap.get? b=some o∧Obj.is o y:=fun b y q=>by
    have q:(if b=sa then some (triOf so) else none)=some y:=q
    by_cases hb:b=sa
    · rw [if_pos hb] at q; cases q; exact ⟨so,hb▸g1,rfl,rfl,rfl⟩
    · rw [if_neg hb] at q; cases q
  refine aE2 (C:=mkCfg T l.prog w s₁.heap mg mb) (A:=callerA) (g:=⟨fun b=>if b=sa then some (triOf so) else none,[]⟩) (N:=5000) (T:=tabOf T) oc hfn hglob 39 (fun F A=>aN9 oc hfn hglob 39 F A) rfl rfl (by decide) (by decide) rfl rfl hg0 (f:=lawF) (args:=[.lst (is.map .int)]) (vals:=[.ref sa]) (.cons (.lst (its:=svs.toList) ⟨so.dict,sn,?_⟩ (l3 _ _) ?_) .nil) hfA (hsem is) ?_
  · show (if sa=sa then some (triOf so) else none)=_
    rw [if_pos rfl]
    obtain ⟨cls,dict,data,fr⟩:=so
    simp only at g2 g3
    subst g2 g3
    rfl
  · rw [List.length_map,← l2,k7]; omega
  · intro h' tk hk'
    refine ⟨.inl ⟨.bool true,.bool true,[],rfl,fun cls=>rfl,.bool true,?_,fun _=>⟨List.nodup_nil,fun a ha=>by cases ha⟩⟩,.of_keep hk',rfl,?_⟩
    · show (WShape.has [] (.bool true) .bool&&WTm.holds [] (.eq .res (.lit (.bool true))) { args:=[.list xs],res:=some (.bool true),after:=[.list xs] })=true
      simp [WShape.has,WShape.arms,WTm.holds,WTm.value,W.same]
    · show AllBare s₁.gens
      exact .of_eq hg
end Mine
end
section
namespace Mine.P1
open Mine
noncomputable def s0:List Nat:=[73,110,118,97,108,105,100,32,85,84,70,45,56,32,99,111,100,101,112,111,105,110,116,32,101,115,99,97,112,101,32,115,101,113,117,101,110,99,101]
noncomputable def s1:List Nat:=[73,110,118,97,108,105,100,32,85,84,70,45,56,32,99,111,100,101,112,111,105,110,116,32,101,115,99,97,112,101,32,115,101,113,117,101,110,99,101,58,32,67,111,100,101,112,111,105,110,116,32,116,111,111,32,108,97,114,103,101]
noncomputable def s2:List Nat:=[73,110,118,97,108,105,100,32,105,110,100,101,110,116,97,116,105,111,110,32,45,32,116,97,98,115,32,97,110,100,32,115,112,97,99,101,115,32,99,97,110,110,111,116,32,98,101,32,109,105,120,101,100]
noncomputable def s3:List Nat:=[73,110,118,97,108,105,100,32,98,111,100,121,32,105,110,100,101,110,116,97,116,105,111,110,32,108,101,118,101,108,32,40,101,120,112,101,99,116,105,110,103,32,97,110,32,105,110,100,101,110,116,97,116,105,111,110,32,108,101,118,101,108,32,111,102,32,97,116,32,108,101,97,115,116,32]
noncomputable def s4:List Nat:=[85,110,116,101,114,109,105,110,97,116,101,100,32,99,111,109,109,101,110,116,32,115,116,97,114,116,105,110,103,32,108,105,110,101,32]
noncomputable def s5:List Nat:=[115,121,110,116,97,120,32,101,114,114,111,114,44,32,117,110,101,120,112,101,99,116,101,100,32,99,104,97,114,97,99,116,101,114,32,48,120]
noncomputable def s6:List Nat:=[115,121,110,116,97,120,32,101,114,114,111,114,44,32,117,110,101,120,112,101,99,116,101,100,32,101,110,100,32,111,102,32,102,105,108,101]
noncomputable def f_least:FD:=⟨0,0,.dead⟩
noncomputable def f_greatest:FD:=⟨0,0,.dead⟩
noncomputable def f_is_name_start:FD:=⟨1,1,(.seq (.ret (.and (.cmp .ne (.var 0) (.str [])) (.or (.cmp .eq (.var 0) (.str [95])) (.or (.cmp2 .le .le (.str [97]) (.var 0) (.str [122])) (.or (.cmp2 .le .le (.str [65]) (.var 0) (.str [90])) (.cmp .ge (.p1 .ord (.var 0)) (.int 128)))))))
    .skip)⟩
noncomputable def f_is_name_sign:FD:=⟨1,1,(.seq (.ret (.or (.call 2 (.cons (.var 0) .nil)) (.cmp2 .le .le (.str [48]) (.var 0) (.str [57]))))
    .skip)⟩
noncomputable def f_read_name:FD:=⟨2,2,(.seq (.while (.and (.cmp .lt (.var 1) (.p1 .len (.var 0))) (.call 3 (.cons (.idx (.var 0) (.var 1)) .nil)))
    (.seq (.aug 1 .add (.int 1))
    .skip))
    (.seq (.ret (.var 1))
    .skip))⟩
noncomputable def f_operators:FD:=⟨0,0,(.seq (.ret (.tup (.cons (.str [61,61,61]) (.cons (.str [33,61,61]) (.cons (.str [60,61,62]) (.cons (.str [42,42,61]) (.cons (.str [60,60,61]) (.cons (.str [62,62,61]) (.cons (.str [63,63,61]) (.cons (.str [63,45,62]) (.cons (.str [46,46,46]) (.cons (.str [61,61]) (.cons (.str [33,61]) (.cons (.str [60,62]) (.cons (.str [60,61]) (.cons (.str [62,61]) (.cons (.str [38,38]) (.cons (.str [124,124]) (.cons (.str [63,63]) (.cons (.str [43,43]) (.cons (.str [45,45]) (.cons (.str [43,61]) (.cons (.str [45,61]) (.cons (.str [42,61]) (.cons (.str [47,61]) (.cons (.str [46,61]) (.cons (.str [37,61]) (.cons (.str [38,61]) (.cons (.str [124,61]) (.cons (.str [94,61]) (.cons (.str [61,62]) (.cons (.str [45,62]) (.cons (.str [58,58]) (.cons (.str [60,60]) (.cons (.str [62,62]) (.cons (.str [42,42]) (.cons (.str [59]) (.cons (.str [44]) (.cons (.str [40]) (.cons (.str [41]) (.cons (.str [91]) (.cons (.str [93]) (.cons (.str [123]) (.cons (.str [125]) (.cons (.str [61]) (.cons (.str [60]) (.cons (.str [62]) (.cons (.str [43]) (.cons (.str [45]) (.cons (.str [42]) (.cons (.str [47]) (.cons (.str [37]) (.cons (.str [46]) (.cons (.str [33]) (.cons (.str [126]) (.cons (.str [38]) (.cons (.str [124]) (.cons (.str [94]) (.cons (.str [63]) (.cons (.str [58]) (.cons (.str [64]) (.cons (.str [36]) .nil))))))))))))))))))))))))))))))))))))))))))))))))))))))))))))))
    .skip)⟩
noncomputable def f_operator_at:FD:=⟨2,4,(.seq (.for 2 (.tup (.cons (.int 3) (.cons (.int 2) (.cons (.int 1) .nil))))
    (.seq (.assign 3 (.slc (.var 0) (.var 1) (.bin .add (.var 1) (.var 2))))
    (.seq (.ite (.cmp .isin (.var 3) (.call 5 .nil))
    (.seq (.ret (.var 3))
    .skip)
    .skip)
    .skip)))
    (.seq (.ret (.str []))
    .skip))⟩
noncomputable def f_blanks_behind:FD:=⟨2,2,(.seq (.while (.and (.cmp .lt (.var 1) (.p1 .len (.var 0))) (.cmp .isin (.idx (.var 0) (.var 1)) (.tup (.cons (.str [32]) (.cons (.str [9]) .nil)))))
    (.seq (.aug 1 .add (.int 1))
    .skip))
    (.seq (.ret (.var 1))
    .skip))⟩
noncomputable def f_cast_at:FD:=⟨3,8,.dead⟩
noncomputable def f_digit_of:FD:=⟨1,2,(.seq (.assign 1 (.p2 .find (.str [48,49,50,51,52,53,54,55,56,57,97,98,99,100,101,102]) (.p1 .lower (.var 0))))
    (.seq (.ret (.ite (.and (.cmp .ne (.var 0) (.str [])) (.cmp .ge (.var 1) (.int 0))) (.var 1) (.int 99)))
    .skip))⟩
noncomputable def f_digits_behind:FD:=⟨2,2,.dead⟩
noncomputable def f_digits_value:FD:=⟨3,5,.dead⟩
noncomputable def f_is_float:FD:=⟨2,4,.dead⟩
noncomputable def f_read_number:FD:=⟨3,7,.dead⟩
noncomputable def f_is_digit:FD:=⟨2,2,.dead⟩
noncomputable def f_signed:FD:=⟨2,3,.dead⟩
noncomputable def f_key_number:FD:=⟨1,3,.dead⟩
noncomputable def f_sign_at:FD:=⟨2,2,(.seq (.ret (.slc (.var 0) (.var 1) (.bin .add (.var 1) (.int 1))))
    .skip)⟩
noncomputable def f_rows_in:FD:=⟨1,1,(.seq (.ret (.bin .sub (.p1 .len (.p2 .split (.var 0) (.str [10]))) (.int 1)))
    .skip)⟩
noncomputable def f_no_end:FD:=⟨1,1,(.seq (.ret .dead)
    .skip)⟩
noncomputable def f_single:FD:=⟨3,5,.dead⟩
noncomputable def f_octets_of:FD:=⟨1,2,(.seq (.ite (.cmp .lt (.var 0) (.int 128))
    (.seq (.ret (.p1 .chr (.var 0)))
    .skip)
    .skip)
    (.seq (.ite (.cmp .lt (.var 0) (.int 2048))
    (.seq (.ret (.bin .add (.p1 .chr (.bin .add (.int 192) (.bin .shr (.var 0) (.int 6)))) (.p1 .chr (.bin .add (.int 128) (.bin .band (.var 0) (.int 63))))))
    .skip)
    .skip)
    (.seq (.assign 1 (.bin .add (.p1 .chr (.bin .add (.int 128) (.bin .band (.bin .shr (.var 0) (.int 6)) (.int 63)))) (.p1 .chr (.bin .add (.int 128) (.bin .band (.var 0) (.int 63))))))
    (.seq (.ite (.cmp .lt (.var 0) (.int 65536))
    (.seq (.ret (.bin .add (.p1 .chr (.bin .add (.int 224) (.bin .shr (.var 0) (.int 12)))) (.var 1)))
    .skip)
    .skip)
    (.seq (.ret (.bin .add (.bin .add (.p1 .chr (.bin .add (.int 240) (.bin .shr (.var 0) (.int 18)))) (.p1 .chr (.bin .add (.int 128) (.bin .band (.bin .shr (.var 0) (.int 12)) (.int 63))))) (.var 1)))
    .skip)))))⟩
noncomputable def b_22:MS:=(.seq (.assign 4 (.bin .add (.bin .mul (.var 4) (.var 2)) (.call 9 (.cons (.idx (.var 0) (.var 5)) .nil))))
    (.seq (.aug 5 .add (.int 1))
    .skip))
noncomputable def t_22:ME:=(.and (.cmp .lt (.var 5) (.bin .add (.var 1) (.var 3))) (.cmp .lt (.call 9 (.cons (.call 17 (.cons (.var 0) (.cons (.var 5) .nil))) .nil)) (.var 2)))
noncomputable def f_read_digits:FD:=⟨4,6,(.seq (.assign 4 (.int 0))
    (.seq (.assign 5 (.var 1))
    (.seq (.while t_22
    b_22)
    (.seq (.ret (.tup (.cons (.var 4) (.cons (.var 5) .nil))))
    .skip))))⟩
noncomputable def f_read_point:FD:=⟨3,5,(.seq (.unpack [3,4] (.call 22 (.cons (.var 0) (.cons (.var 1) (.cons (.int 16) (.cons (.p1 .len (.var 0)) .nil))))))
    (.seq (.ite (.or (.cmp .eq (.var 4) (.var 1)) (.cmp .ne (.call 17 (.cons (.var 0) (.cons (.var 4) .nil))) (.str [125])))
    (.seq (.raise (.str s0) (.var 2))
    .skip)
    .skip)
    (.seq (.ite (.cmp .gt (.var 3) (.int 1114111))
    (.seq (.raise (.str s1) (.var 2))
    .skip)
    .skip)
    (.seq (.ret (.tup (.cons (.call 21 (.cons (.var 3) .nil)) (.cons (.bin .add (.var 4) (.int 1)) .nil))))
    .skip))))⟩
noncomputable def b_24:MS:=(.seq (.ite (.and (.cmp .isin (.var 4) (.tup (.cons (.str [120]) (.cons (.str [88]) .nil)))) (.cmp .lt (.call 9 (.cons (.call 17 (.cons (.var 0) (.cons (.bin .add (.var 1) (.int 2)) .nil))) .nil)) (.int 16)))
    (.seq (.unpack [6,7] (.call 22 (.cons (.var 0) (.cons (.bin .add (.var 1) (.int 2)) (.cons (.int 16) (.cons (.int 2) .nil))))))
    (.seq (.ret (.tup (.cons (.p1 .chr (.var 6)) (.cons (.var 7) .nil))))
    .skip))
    .skip)
    (.seq (.ite (.and (.cmp .eq (.var 4) (.str [117])) (.cmp .eq (.call 17 (.cons (.var 0) (.cons (.bin .add (.var 1) (.int 2)) .nil))) (.str [123])))
    (.seq (.ret (.call 23 (.cons (.var 0) (.cons (.bin .add (.var 1) (.int 3)) (.cons (.var 3) .nil)))))
    .skip)
    .skip)
    (.seq (.ite (.cmp .eq (.var 4) (.str [123]))
    (.seq (.ret (.tup (.cons (.str [92,123]) (.cons (.bin .add (.var 1) (.int 2)) .nil))))
    .skip)
    .skip)
    (.seq (.ret (.tup (.cons (.str [92]) (.cons (.bin .add (.var 1) (.int 1)) .nil))))
    .skip))))
noncomputable def f_escape:FD:=⟨4,8,(.seq (.assign 4 (.call 17 (.cons (.var 0) (.cons (.bin .add (.var 1) (.int 1)) .nil))))
    (.seq (.dictIf 5 [([110],[10]),([116],[9]),([114],[13]),([118],[11]),([101],[27]),([102],[12]),([92],[92]),([36],[36])] 4 (.bin .add (.var 1) (.int 2)))
    (.seq (.ite (.and (.cmp .ne (.var 4) (.str [])) (.cmp .eq (.var 4) (.var 2)))
    (.seq (.ret (.tup (.cons (.var 4) (.cons (.bin .add (.var 1) (.int 2)) .nil))))
    .skip)
    .skip)
    (.seq (.ite (.cmp .lt (.call 9 (.cons (.var 4) .nil)) (.int 8))
    (.seq (.unpack [6,7] (.call 22 (.cons (.var 0) (.cons (.bin .add (.var 1) (.int 1)) (.cons (.int 8) (.cons (.int 3) .nil))))))
    (.seq (.ret (.tup (.cons (.p1 .chr (.bin .band (.var 6) (.int 255))) (.cons (.var 7) .nil))))
    .skip))
    .skip)
    b_24))))⟩
noncomputable def f_index_fault:FD:=⟨2,2,.dead⟩
noncomputable def f_number_tokens:FD:=⟨3,4,.dead⟩
noncomputable def f_index_tokens:FD:=⟨3,7,.dead⟩
noncomputable def f_simple_part:FD:=⟨3,8,(.seq (.assign 3 (.call 4 (.cons (.var 0) (.cons (.bin .add (.var 1) (.int 1)) .nil))))
    (.seq (.assign 4 (.cell (.cons (.mk (.cons (.str [118,97,114]) (.cons (.slc (.var 0) (.bin .add (.var 1) (.int 1)) (.var 3)) (.cons (.var 2) .nil)))) .nil)))
    (.seq (.ite (.cmp .eq (.call 17 (.cons (.var 0) (.cons (.var 3) .nil))) (.str [91]))
    (.seq (.unpack [7,3] (.call 27 (.cons (.var 0) (.cons (.bin .add (.var 3) (.int 1)) (.cons (.var 2) .nil)))))
    (.seq (.ite (.cmp .ne (.call 17 (.cons (.var 0) (.cons (.var 3) .nil))) (.str [93]))
    (.seq .dead
    .skip)
    .skip)
    (.seq (.aug 3 .add (.int 1))
    (.seq .dead
    .skip))))
    (.seq (.assign 5 (.ite (.cmp .eq (.call 17 (.cons (.var 0) (.cons (.var 3) .nil))) (.str [63])) (.str [63,45,62]) (.str [45,62])))
    (.seq (.assign 6 (.bin .add (.var 3) (.p1 .len (.var 5))))
    (.seq (.ite (.and (.cmp .eq (.slc (.var 0) (.var 3) (.var 6)) (.var 5)) (.call 2 (.cons (.call 17 (.cons (.var 0) (.cons (.var 6) .nil))) .nil)))
    (.seq (.assign 3 (.call 4 (.cons (.var 0) (.cons (.var 6) .nil))))
    (.seq .dead
    .skip))
    .skip)
    .skip))))
    (.seq (.expr (.p2 .append (.var 4) (.mk (.cons (.str [101,110,100]) (.cons (.str []) (.cons (.var 2) .nil))))))
    (.seq (.ret (.tup (.cons (.var 4) (.cons (.var 3) .nil))))
    .skip)))))⟩
noncomputable def f_code_part:FD:=⟨4,8,(.seq (.assign 4 (.idx (.var 0) (.var 1)))
    (.seq (.ite (.and (.cmp .eq (.var 4) (.str [123])) (.cmp .eq (.call 17 (.cons (.var 0) (.cons (.bin .add (.var 1) (.int 1)) .nil))) (.str [36])))
    (.seq (.unpack [5,6,7] (.callv 3 (.cons (.var 0) (.cons (.bin .add (.var 1) (.int 1)) (.cons (.var 2) .nil)))))
    (.seq (.ret (.tup (.cons (.var 5) (.cons (.var 6) .nil))))
    .skip))
    .skip)
    (.seq (.ite (.and (.cmp .eq (.var 4) (.str [36])) (.cmp .eq (.call 17 (.cons (.var 0) (.cons (.bin .add (.var 1) (.int 1)) .nil))) (.str [123])))
    (.seq .dead
    .skip)
    .skip)
    (.seq (.ite (.and (.cmp .eq (.var 4) (.str [36])) (.call 2 (.cons (.call 17 (.cons (.var 0) (.cons (.bin .add (.var 1) (.int 1)) .nil))) .nil)))
    (.seq (.ret (.call 28 (.cons (.var 0) (.cons (.var 1) (.cons (.var 2) .nil)))))
    .skip)
    .skip)
    (.seq (.ret .none)
    .skip)))))⟩
noncomputable def f_put_text:FD:=⟨2,2,(.seq (.ite (.var 1)
    (.seq (.expr (.p2 .append (.var 0) (.tup (.cons (.str [116,101,120,116]) (.cons (.p2 .join (.str []) (.var 1)) .nil)))))
    .skip)
    .skip)
    (.seq (.expr (.p1 .clear (.var 1)))
    .skip))⟩
noncomputable def f_is_before:FD:=⟨4,4,(.seq (.ite (.p1 .isint (.var 2))
    (.seq (.ite (.cmp .gt (.var 1) (.var 2))
    (.seq (.raiseEnd (.var 3))
    .skip)
    .skip)
    (.seq (.ret (.cmp .lt (.var 1) (.var 2)))
    .skip))
    .skip)
    (.seq (.ite (.cmp .ge (.var 1) (.p1 .len (.var 0)))
    (.seq (.raiseEnd (.var 3))
    .skip)
    .skip)
    (.seq (.ret (.cmp .ne (.idx (.var 0) (.var 1)) (.var 2)))
    .skip)))⟩
noncomputable def d_32:MS:=(.ite (.and (.cmp .eq (.var 9) (.str [10])) (.cmp .ne (.var 4) (.str [])))
    (.seq (.assign 12 (.call 36 (.cons (.var 0) (.cons (.var 12) (.cons (.var 2) (.cons (.var 4) (.cons (.bin .add (.var 5) (.int 1)) .nil)))))))
    .skip)
    .skip)
noncomputable def g_32:MS:=(.seq (.aug 5 .add (.call 18 (.cons (.slc (.var 0) (.var 1) (.var 12)) .nil)))
    (.seq (.assign 1 (.var 12))
    .skip))
noncomputable def b_32:MS:=(.seq (.assign 9 (.idx (.var 0) (.var 1)))
    (.seq (.assign 10 (.call 29 (.cons (.var 0) (.cons (.var 1) (.cons (.var 5) (.cons (.var 6) .nil))))))
    (.seq (.ite (.notnone (.var 10))
    (.seq (.unpack [11,12] (.var 10))
    (.seq (.expr (.call 30 (.cons (.var 7) (.cons (.var 8) .nil))))
    (.seq (.expr (.p2 .append (.var 7) (.tup (.cons (.str [99,111,100,101]) (.cons (.var 11) .nil)))))
    .skip)))
    (.seq (.ite (.cmp .eq (.var 9) (.str [92]))
    (.seq (.unpack [13,12] (.call 24 (.cons (.var 0) (.cons (.var 1) (.cons (.var 3) (.cons (.var 5) .nil))))))
    (.seq (.expr (.p2 .append (.var 8) (.var 13)))
    .skip))
    (.seq (.expr (.p2 .append (.var 8) (.var 9)))
    (.seq (.assign 12 (.bin .add (.var 1) (.int 1)))
    (.seq d_32
    .skip))))
    .skip))
    g_32)))
noncomputable def t_32:ME:=(.call 31 (.cons (.var 0) (.cons (.var 1) (.cons (.var 2) (.cons (.var 5) .nil)))))
noncomputable def e_32:MS:=(.seq (.expr (.call 30 (.cons (.var 7) (.cons (.var 8) .nil))))
    (.seq (.ret (.tup (.cons (.p1 .tuple (.var 7)) (.cons (.ite (.p1 .isint (.var 2)) (.var 1) (.bin .add (.var 1) (.int 1))) .nil))))
    .skip))
noncomputable def f_parts_until:FD:=⟨7,14,(.seq (.assign 7 (.cell .nil))
    (.seq (.assign 8 (.cell .nil))
    (.seq (.ite (.cmp .ne (.var 4) (.str []))
    (.seq (.assign 1 (.call 36 (.cons (.var 0) (.cons (.var 1) (.cons (.var 2) (.cons (.var 4) (.cons (.var 5) .nil)))))))
    .skip)
    .skip)
    (.seq (.while t_32
    b_32)
    e_32))))⟩
noncomputable def f_newline_behind:FD:=⟨2,2,(.seq (.ite (.cmp .eq (.slc (.var 0) (.var 1) (.bin .add (.var 1) (.int 2))) (.str [13,10]))
    (.seq (.ret (.bin .add (.var 1) (.int 2)))
    .skip)
    .skip)
    (.seq (.ret (.ite (.cmp .eq (.call 17 (.cons (.var 0) (.cons (.var 1) .nil))) (.str [10])) (.bin .add (.var 1) (.int 1)) (.var 1)))
    .skip))⟩
noncomputable def f_heredoc_head:FD:=⟨2,6,(.seq (.ite (.cmp .ne (.slc (.var 0) (.var 1) (.bin .add (.var 1) (.int 3))) (.str [60,60,60]))
    (.seq (.ret .none)
    .skip)
    .skip)
    (.seq (.assign 2 (.call 7 (.cons (.var 0) (.cons (.bin .add (.var 1) (.int 3)) .nil))))
    (.seq (.assign 3 (.call 17 (.cons (.var 0) (.cons (.var 2) .nil))))
    (.seq (.ite (.cmp .isin (.var 3) (.tup (.cons (.str [39]) (.cons (.str [34]) .nil))))
    (.seq (.aug 2 .add (.int 1))
    .skip)
    .skip)
    (.seq (.assign 4 (.call 4 (.cons (.var 0) (.cons (.var 2) .nil))))
    (.seq (.assign 5 (.var 4))
    (.seq (.ite (.cmp .isin (.var 3) (.tup (.cons (.str [39]) (.cons (.str [34]) .nil))))
    (.seq (.ite (.cmp .ne (.call 17 (.cons (.var 0) (.cons (.var 5) .nil))) (.var 3))
    (.seq (.ret .none)
    .skip)
    .skip)
    (.seq (.aug 5 .add (.int 1))
    .skip))
    .skip)
    (.seq (.ite (.or (.not (.call 2 (.cons (.call 17 (.cons (.var 0) (.cons (.var 2) .nil))) .nil))) (.cmp .eq (.call 33 (.cons (.var 0) (.cons (.var 5) .nil))) (.var 5)))
    (.seq (.ret .none)
    .skip)
    .skip)
    (.seq (.ret (.tup (.cons (.slc (.var 0) (.var 2) (.var 4)) (.cons (.cmp .eq (.var 3) (.str [39])) (.cons (.call 33 (.cons (.var 0) (.cons (.var 5) .nil))) .nil)))))
    .skip)))))))))⟩
noncomputable def i_35:MS:=(.seq (.ite (.cmp .eq (.var 4) (.var 1))
    (.seq (.ret (.tup (.cons (.var 1) (.cons (.var 8) (.cons (.var 6) .nil)))))
    .skip)
    .skip)
    (.seq (.assign 9 (.ite (.and (.cmp .ge (.bin .sub (.var 4) (.int 2)) (.var 1)) (.cmp .eq (.idx (.var 0) (.bin .sub (.var 4) (.int 2))) (.str [13]))) (.bin .sub (.var 4) (.int 2)) (.bin .sub (.var 4) (.int 1))))
    (.seq (.ret (.tup (.cons (.var 9) (.cons (.var 8) (.cons (.var 6) .nil)))))
    .skip)))
noncomputable def b_35:MS:=(.seq (.assign 5 (.call 7 (.cons (.var 0) (.cons (.var 4) .nil))))
    (.seq (.assign 6 (.bin .add (.var 5) (.p1 .len (.var 2))))
    (.seq (.ite (.and (.cmp .eq (.slc (.var 0) (.var 5) (.var 6)) (.var 2)) (.not (.call 3 (.cons (.call 17 (.cons (.var 0) (.cons (.var 6) .nil))) .nil))))
    (.seq (.assign 8 (.slc (.var 0) (.var 4) (.var 5)))
    (.seq (.ite (.and (.cmp .isin (.str [32]) (.var 8)) (.cmp .isin (.str [9]) (.var 8)))
    (.seq (.raise (.str s2) (.var 3))
    .skip)
    .skip)
    i_35))
    .skip)
    (.seq (.assign 7 (.p3 .find (.var 0) (.str [10]) (.var 4)))
    (.seq (.assign 4 (.ite (.cmp .ge (.var 7) (.int 0)) (.bin .add (.var 7) (.int 1)) (.bin .add (.p1 .len (.var 0)) (.int 1))))
    .skip)))))
noncomputable def t_35:ME:=(.cmp .le (.var 4) (.p1 .len (.var 0)))
noncomputable def f_heredoc_end:FD:=⟨4,10,(.seq (.assign 4 (.var 1))
    (.seq (.while t_35
    b_35)
    (.seq (.raiseEnd (.var 3))
    .skip)))⟩
noncomputable def b_36:MS:=(.seq (.ite (.or (.cmp .ge (.var 1) (.var 2)) (.cmp .gt (.call 33 (.cons (.var 0) (.cons (.var 1) .nil))) (.var 1)))
    (.seq (.ret (.var 1))
    .skip)
    .skip)
    (.seq (.ite (.cmp .notin (.idx (.var 0) (.var 1)) (.tup (.cons (.str [32]) (.cons (.str [9]) .nil))))
    (.seq (.assign 6 (.str s3))
    (.seq (.raise (.bin .add (.bin .add (.var 6) (.p1 .str (.p1 .len (.var 3)))) (.str [41])) (.var 4))
    .skip))
    .skip)
    (.seq (.ite (.cmp .ne (.idx (.var 0) (.var 1)) (.idx (.var 3) (.int 0)))
    (.seq (.raise (.str s2) (.var 4))
    .skip)
    .skip)
    (.seq (.aug 1 .add (.int 1))
    .skip))))
noncomputable def f_pass_indent:FD:=⟨5,7,(.seq (.forR 5 (.int 0) (.p1 .len (.var 3))
    b_36)
    (.seq (.ret (.var 1))
    .skip))⟩
noncomputable def b_37:MS:=(.seq (.assign 1 (.call 36 (.cons (.var 0) (.cons (.var 1) (.cons (.var 2) (.cons (.var 3) (.cons (.var 4) .nil)))))))
    (.seq (.assign 6 (.p3 .find (.var 0) (.str [10]) (.var 1)))
    (.seq (.assign 7 (.ite (.cmp2 .le .lt (.int 0) (.var 6) (.var 2)) (.bin .add (.var 6) (.int 1)) (.var 2)))
    (.seq (.expr (.p2 .append (.var 5) (.slc (.var 0) (.var 1) (.var 7))))
    (.seq (.assign 1 (.var 7))
    (.seq (.aug 4 .add (.int 1))
    .skip))))))
noncomputable def t_37:ME:=(.cmp .lt (.var 1) (.var 2))
noncomputable def f_raw_body:FD:=⟨5,8,(.seq (.assign 5 (.cell .nil))
    (.seq (.while t_37
    b_37)
    (.seq (.ret (.p2 .join (.str []) (.var 5)))
    .skip)))⟩
noncomputable def f_row_end:FD:=⟨2,2,.dead⟩
noncomputable def b_39:MS:=(.seq (.aug 1 .add (.int 1))
    .skip)
noncomputable def t_39:ME:=(.cmp .isin (.call 17 (.cons (.var 0) (.cons (.var 1) .nil))) (.tup (.cons (.str [32]) (.cons (.str [9]) (.cons (.str [10]) (.cons (.str [13]) .nil))))))
noncomputable def f_pass_gap:FD:=⟨3,6,(.seq (.assign 3 (.var 1))
    (.seq (.while t_39
    b_39)
    (.seq (.assign 4 (.slc (.var 0) (.var 1) (.bin .add (.var 1) (.int 2))))
    (.seq (.ite (.cmp .eq (.var 4) (.str [35,91]))
    (.seq .dead
    .skip)
    .skip)
    (.seq (.ite (.or (.cmp .eq (.var 4) (.str [47,47])) (.cmp .eq (.slc (.var 4) .none (.int 1)) (.str [35])))
    (.seq (.ret (.call 38 (.cons (.var 0) (.cons (.var 1) .nil))))
    .skip)
    .skip)
    (.seq (.ite (.cmp .eq (.var 4) (.str [47,42]))
    (.seq (.assign 5 (.p3 .find (.var 0) (.str [42,47]) (.bin .add (.var 1) (.int 2))))
    (.seq (.ite (.cmp .lt (.var 5) (.int 0))
    (.seq (.aug 2 .add (.call 18 (.cons (.slc (.var 0) (.var 3) (.var 1)) .nil)))
    (.seq (.raise (.bin .add (.str s4) (.p1 .str (.var 2))) (.var 2))
    .skip))
    .skip)
    (.seq (.ret (.bin .add (.var 5) (.int 2)))
    .skip)))
    .skip)
    (.seq (.ret (.var 1))
    .skip)))))))⟩
noncomputable def f_tag_at:FD:=⟨2,3,(.seq (.ite (.cmp .eq (.slc (.var 0) (.var 1) (.bin .add (.var 1) (.int 3))) (.str [60,63,61]))
    (.seq (.ret (.bin .add (.var 1) (.int 3)))
    .skip)
    .skip)
    (.seq (.ite (.cmp .ne (.p1 .lower (.slc (.var 0) (.var 1) (.bin .add (.var 1) (.int 5)))) (.str [60,63,112,104,112]))
    (.seq (.ret (.var 1))
    .skip)
    .skip)
    (.seq (.assign 2 (.bin .add (.var 1) (.int 5)))
    (.seq (.ite (.cmp .eq (.slc (.var 0) (.var 2) (.bin .add (.var 2) (.int 2))) (.str [13,10]))
    (.seq (.ret (.bin .add (.var 2) (.int 2)))
    .skip)
    .skip)
    (.seq (.ite (.cmp .eq (.var 2) (.p1 .len (.var 0)))
    (.seq (.ret (.var 2))
    .skip)
    .skip)
    (.seq (.ret (.ite (.cmp .isin (.idx (.var 0) (.var 2)) (.tup (.cons (.str [32]) (.cons (.str [9]) (.cons (.str [10]) (.cons (.str [13]) .nil)))))) (.bin .add (.var 2) (.int 1)) (.var 1)))
    .skip))))))⟩
noncomputable def b_41:MS:=(.seq (.aug 1 .add (.int 1))
    .skip)
noncomputable def t_41:ME:=(.and (.cmp .lt (.var 1) (.p1 .len (.var 0))) (.cmp .eq (.call 40 (.cons (.var 0) (.cons (.var 1) .nil))) (.var 1)))
noncomputable def f_pass_inline:FD:=⟨4,5,(.seq (.assign 4 (.var 1))
    (.seq (.while t_41
    b_41)
    (.seq (.ite (.cmp .gt (.var 1) (.var 4))
    (.seq (.expr (.p2 .append (.var 3) (.mk (.cons (.str [104,116,109,108]) (.cons (.slc (.var 0) (.var 4) (.var 1)) (.cons (.var 2) .nil))))))
    .skip)
    .skip)
    (.seq (.ite (.cmp .eq (.slc (.var 0) (.var 1) (.bin .add (.var 1) (.int 3))) (.str [60,63,61]))
    (.seq (.expr (.p2 .append (.var 3) (.mk (.cons (.str [110,97,109,101]) (.cons (.str [101,99,104,111]) (.cons (.bin .add (.var 2) (.call 18 (.cons (.slc (.var 0) (.var 4) (.var 1)) .nil))) .nil))))))
    .skip)
    .skip)
    (.seq (.ret (.call 40 (.cons (.var 0) (.cons (.var 1) .nil))))
    .skip)))))⟩
noncomputable def f_text_token:FD:=⟨2,2,(.seq (.ite (.cmp .eq (.p1 .len (.var 0)) (.int 0))
    (.seq (.ret (.mk (.cons (.str [115,116,114]) (.cons (.str []) (.cons (.var 1) .nil)))))
    .skip)
    .skip)
    (.seq (.ite (.and (.cmp .eq (.p1 .len (.var 0)) (.int 1)) (.cmp .eq (.idx (.idx (.var 0) (.int 0)) (.int 0)) (.str [116,101,120,116])))
    (.seq (.ret (.mk (.cons (.str [115,116,114]) (.cons (.idx (.idx (.var 0) (.int 0)) (.int 1)) (.cons (.var 1) .nil)))))
    .skip)
    .skip)
    (.seq (.ret (.mk (.cons (.str [116,101,109,112,108,97,116,101]) (.cons (.var 0) (.cons (.var 1) .nil)))))
    .skip)))⟩
noncomputable def i_43:MS:=(.seq (.ite (.var 4)
    (.seq (.ret (.tup (.cons (.mk (.cons (.str [115,116,114]) (.cons (.call 37 (.cons (.var 0) (.cons (.var 5) (.cons (.var 6) (.cons (.var 7) (.cons (.bin .add (.var 2) (.int 1)) .nil)))))) (.cons (.var 2) .nil)))) (.cons (.var 8) .nil))))
    .skip)
    .skip)
    (.seq (.unpack [9,10] (.call 32 (.cons (.var 0) (.cons (.var 5) (.cons (.var 6) (.cons (.str []) (.cons (.var 7) (.cons (.bin .add (.var 2) (.int 1)) (.cons (.glob 47) .nil)))))))))
    (.seq (.ret (.tup (.cons (.call 42 (.cons (.var 9) (.cons (.var 2) .nil))) (.cons (.var 8) .nil))))
    .skip)))
noncomputable def f_read_heredoc:FD:=⟨3,11,(.seq (.unpack [3,4,5] (.var 1))
    (.seq (.unpack [6,7,8] (.call 35 (.cons (.var 0) (.cons (.var 5) (.cons (.var 3) (.cons (.var 2) .nil))))))
    i_43))⟩
noncomputable def f_read_text:FD:=⟨3,8,(.seq (.ite (.and (.cmp .isin (.idx (.var 0) (.var 1)) (.tup (.cons (.str [98]) (.cons (.str [66]) .nil)))) (.cmp .isin (.call 17 (.cons (.var 0) (.cons (.bin .add (.var 1) (.int 1)) .nil))) (.tup (.cons (.str [39]) (.cons (.str [34]) (.cons (.str [60]) .nil))))))
    (.seq (.aug 1 .add (.int 1))
    .skip)
    .skip)
    (.seq (.assign 3 (.idx (.var 0) (.var 1)))
    (.seq (.ite (.cmp .eq (.var 3) (.str [39]))
    (.seq (.unpack [5,6] (.call 20 (.cons (.var 0) (.cons (.var 1) (.cons (.var 2) .nil)))))
    (.seq (.ret (.tup (.cons (.mk (.cons (.str [115,116,114]) (.cons (.var 5) (.cons (.var 2) .nil)))) (.cons (.var 6) .nil))))
    .skip))
    .skip)
    (.seq (.ite (.cmp .eq (.var 3) (.str [34]))
    (.seq (.unpack [7,6] (.call 32 (.cons (.var 0) (.cons (.bin .add (.var 1) (.int 1)) (.cons (.str [34]) (.cons (.str [34]) (.cons (.str []) (.cons (.var 2) (.cons (.glob 47) .nil)))))))))
    (.seq (.ret (.tup (.cons (.call 42 (.cons (.var 7) (.cons (.var 2) .nil))) (.cons (.var 6) .nil))))
    .skip))
    .skip)
    (.seq (.assign 4 (.call 34 (.cons (.var 0) (.cons (.var 1) .nil))))
    (.seq (.ret (.ite (.isnone (.var 4)) .none (.call 43 (.cons (.var 0) (.cons (.var 4) (.cons (.var 2) .nil))))))
    .skip))))))⟩
noncomputable def f_read_operator:FD:=⟨3,7,(.seq (.assign 3 (.idx (.var 0) (.var 1)))
    (.seq (.ite (.cmp .eq (.var 3) (.str [40]))
    (.seq (.assign 5 (.call 8 (.cons (.var 0) (.cons (.var 1) (.cons (.var 2) .nil)))))
    (.seq (.ite (.notnone (.var 5))
    (.seq (.ret (.tup (.cons (.mk (.cons (.str [99,97,115,116]) (.cons (.idx (.var 5) (.int 0)) (.cons (.var 2) .nil)))) (.cons (.idx (.var 5) (.int 1)) .nil))))
    .skip)
    .skip)
    .skip))
    .skip)
    (.seq (.ite (.cmp .isin (.var 3) (.tup (.cons (.str [96]) (.cons (.str [92]) .nil))))
    (.seq .dead
    .skip)
    .skip)
    (.seq (.assign 4 (.call 6 (.cons (.var 0) (.cons (.var 1) .nil))))
    (.seq (.ite (.cmp .eq (.var 4) (.str []))
    (.seq (.assign 6 (.bin .add (.idx (.str [48,49,50,51,52,53,54,55,56,57,65,66,67,68,69,70]) (.bin .fdiv (.p1 .ord (.var 3)) (.int 16))) (.idx (.str [48,49,50,51,52,53,54,55,56,57,65,66,67,68,69,70]) (.bin .mod (.p1 .ord (.var 3)) (.int 16)))))
    (.seq (.raise (.bin .add (.str s5) (.var 6)) (.var 2))
    .skip))
    .skip)
    (.seq (.ret (.tup (.cons (.mk (.cons (.str [111,112]) (.cons (.ite (.cmp .eq (.var 4) (.str [60,62])) (.str [33,61]) (.var 4)) (.cons (.var 2) .nil)))) (.cons (.bin .add (.var 1) (.p1 .len (.var 4))) .nil))))
    .skip))))))⟩
noncomputable def f_read_token:FD:=⟨3,7,(.seq (.assign 3 (.idx (.var 0) (.var 1)))
    (.seq (.assign 4 (.call 44 (.cons (.var 0) (.cons (.var 1) (.cons (.var 2) .nil)))))
    (.seq (.ite (.notnone (.var 4))
    (.seq (.ret (.var 4))
    .skip)
    .skip)
    (.seq (.ite (.call 2 (.cons (.var 3) .nil))
    (.seq (.assign 5 (.call 4 (.cons (.var 0) (.cons (.var 1) .nil))))
    (.seq (.ret (.tup (.cons (.mk (.cons (.str [110,97,109,101]) (.cons (.slc (.var 0) (.var 1) (.var 5)) (.cons (.var 2) .nil)))) (.cons (.var 5) .nil))))
    .skip))
    .skip)
    (.seq (.ite (.and (.cmp .eq (.var 3) (.str [36])) (.call 2 (.cons (.call 17 (.cons (.var 0) (.cons (.bin .add (.var 1) (.int 1)) .nil))) .nil)))
    (.seq (.assign 5 (.call 4 (.cons (.var 0) (.cons (.bin .add (.var 1) (.int 1)) .nil))))
    (.seq (.ret (.tup (.cons (.mk (.cons (.str [118,97,114]) (.cons (.slc (.var 0) (.bin .add (.var 1) (.int 1)) (.var 5)) (.cons (.var 2) .nil)))) (.cons (.var 5) .nil))))
    .skip))
    .skip)
    (.seq (.ite (.or (.cmp .lt (.call 9 (.cons (.var 3) .nil)) (.int 10)) (.and (.cmp .eq (.var 3) (.str [46])) (.cmp .lt (.call 9 (.cons (.call 17 (.cons (.var 0) (.cons (.bin .add (.var 1) (.int 1)) .nil))) .nil)) (.int 10))))
    (.seq (.unpack [6,5] (.call 13 (.cons (.var 0) (.cons (.var 1) (.cons (.var 2) .nil)))))
    (.seq (.ret (.tup (.cons (.mk (.cons (.str [105,110,116]) (.cons (.var 6) (.cons (.var 2) .nil)))) (.cons (.var 5) .nil))))
    .skip))
    .skip)
    (.seq (.ret (.call 45 (.cons (.var 0) (.cons (.var 1) (.cons (.var 2) .nil)))))
    .skip)))))))⟩
noncomputable def b_47:MS:=(.seq (.assign 5 (.call 39 (.cons (.var 0) (.cons (.var 1) (.cons (.var 2) .nil)))))
    (.seq (.ite (.cmp .eq (.var 5) (.var 1))
    (.seq (.ite (.cmp .eq (.slc (.var 0) (.var 1) (.bin .add (.var 1) (.int 2))) (.str [63,62]))
    (.seq .dead
    .skip)
    .skip)
    (.seq (.unpack [6,5] (.call 46 (.cons (.var 0) (.cons (.var 1) (.cons (.var 2) .nil)))))
    (.seq (.ite (.and (.cmp .eq (.attr (.var 6) 0) (.str [111,112])) (.cmp .isin (.attr (.var 6) 1) (.tup (.cons (.str [123]) (.cons (.str [125]) .nil)))))
    (.seq (.aug 4 .add (.ite (.cmp .eq (.attr (.var 6) 1) (.str [123])) (.int 1) (.neg (.int 1))))
    .skip)
    .skip)
    (.seq (.ite (.cmp .lt (.var 4) (.int 0))
    (.seq (.expr (.p2 .append (.var 3) (.mk (.cons (.str [101,110,100]) (.cons (.str []) (.cons (.var 2) .nil))))))
    (.seq (.ret (.tup (.cons (.var 3) (.cons (.var 5) (.cons (.var 2) .nil)))))
    .skip))
    .skip)
    (.seq (.expr (.p2 .append (.var 3) (.var 6)))
    .skip)))))
    .skip)
    (.seq (.aug 2 .add (.call 18 (.cons (.slc (.var 0) (.var 1) (.var 5)) .nil)))
    (.seq (.assign 1 (.var 5))
    .skip))))
noncomputable def t_47:ME:=(.cmp .lt (.var 1) (.p1 .len (.var 0)))
noncomputable def f_lex_code:FD:=⟨3,7,(.seq (.assign 3 (.cell .nil))
    (.seq (.assign 4 (.int 0))
    (.seq (.while t_47
    b_47)
    (.seq (.raiseEnd (.var 2))
    .skip))))⟩
noncomputable def b_48:MS:=(.seq (.assign 4 (.call 39 (.cons (.var 0) (.cons (.var 2) (.cons (.var 3) .nil)))))
    (.seq (.ite (.and (.cmp .eq (.var 4) (.var 2)) (.cmp .eq (.slc (.var 0) (.var 2) (.bin .add (.var 2) (.int 2))) (.str [63,62])))
    (.seq (.expr (.p2 .append (.var 1) (.mk (.cons (.str [111,112]) (.cons (.str [59]) (.cons (.var 3) .nil))))))
    (.seq (.assign 5 (.bin .add (.var 2) (.int 2)))
    (.seq (.ite (.cmp .eq (.slc (.var 0) (.var 5) (.bin .add (.var 5) (.int 2))) (.str [13,10]))
    (.seq (.aug 5 .add (.int 2))
    .skip)
    (.seq (.ite (.cmp .eq (.call 17 (.cons (.var 0) (.cons (.var 5) .nil))) (.str [10]))
    (.seq (.aug 5 .add (.int 1))
    .skip)
    .skip)
    .skip))
    (.seq (.assign 4 (.call 41 (.cons (.var 0) (.cons (.var 5) (.cons (.bin .add (.var 3) (.call 18 (.cons (.slc (.var 0) (.var 2) (.var 5)) .nil))) (.cons (.var 1) .nil))))))
    .skip))))
    (.seq (.ite (.cmp .eq (.var 4) (.var 2))
    (.seq (.unpack [6,4] (.call 46 (.cons (.var 0) (.cons (.var 2) (.cons (.var 3) .nil)))))
    (.seq (.expr (.p2 .append (.var 1) (.var 6)))
    .skip))
    .skip)
    .skip))
    (.seq (.aug 3 .add (.call 18 (.cons (.slc (.var 0) (.var 2) (.var 4)) .nil)))
    (.seq (.assign 2 (.var 4))
    .skip))))
noncomputable def t_48:ME:=(.cmp .lt (.var 2) (.p1 .len (.var 0)))
noncomputable def e_48:MS:=(.seq (.expr (.p2 .append (.var 1) (.mk (.cons (.str [101,110,100]) (.cons (.str []) (.cons (.var 3) .nil))))))
    (.seq (.ret (.var 1))
    .skip))
noncomputable def f_tokens_of:FD:=⟨1,7,(.seq (.assign 1 (.cell .nil))
    (.seq (.assign 2 (.call 41 (.cons (.var 0) (.cons (.int 0) (.cons (.int 1) (.cons (.var 1) .nil))))))
    (.seq (.assign 3 (.bin .add (.int 1) (.call 18 (.cons (.slc (.var 0) .none (.var 2)) .nil))))
    (.seq (.while t_48
    b_48)
    e_48))))⟩
noncomputable def f_law_drawn:FD:=⟨3,4,(.seq (.assign 3 (.bin .mod (.idx (.var 0) (.int 0)) (.var 2)))
    (.seq (.setidx (.var 0) (.int 0) (.bin .fdiv (.idx (.var 0) (.int 0)) (.var 2)))
    (.seq (.ret (.bin .mod (.bin .add (.var 1) (.var 3)) (.var 2)))
    .skip)))⟩
noncomputable def f_law_row:FD:=⟨1,1,(.seq (.ret (.bin .add (.int 1) (.p2 .count (.idx (.var 0) (.int 0)) (.str [10]))))
    .skip)⟩
noncomputable def f_law_refuse:FD:=⟨3,3,(.seq (.ite (.isnone (.idx (.var 0) (.int 1)))
    (.seq (.setidx (.var 0) (.int 1) (.tup (.cons (.str [114,101,102,117,115,101,100]) (.cons (.var 1) (.cons (.var 2) .nil)))))
    .skip)
    .skip)
    .skip)⟩
noncomputable def f_law_text:FD:=⟨2,3,(.seq (.assign 2 (.idx (.var 0) (.int 2)))
    (.seq (.ite (.and (.cmp .ne (.var 2) (.list .nil)) (.cmp .eq (.idx (.idx (.var 2) (.neg (.int 1))) (.int 0)) (.str [116,101,120,116])))
    (.seq (.setidx (.var 2) (.neg (.int 1)) (.tup (.cons (.str [116,101,120,116]) (.cons (.bin .add (.idx (.idx (.var 2) (.neg (.int 1))) (.int 1)) (.var 1)) .nil))))
    .skip)
    (.seq (.ite (.cmp .ne (.var 1) (.str []))
    (.seq (.expr (.p2 .append (.var 2) (.tup (.cons (.str [116,101,120,116]) (.cons (.var 1) .nil)))))
    .skip)
    .skip)
    .skip))
    .skip))⟩
noncomputable def f_law_code:FD:=⟨3,3,(.seq (.expr (.p2 .append (.idx (.var 0) (.int 2)) (.tup (.cons (.str [99,111,100,101]) (.cons (.list (.cons (.tup (.cons (.str [118,97,114]) (.cons (.str [118]) (.cons (.var 1) .nil)))) (.cons (.tup (.cons (.str [101,110,100]) (.cons (.str []) (.cons (.bin .add (.var 1) (.var 2)) .nil)))) .nil))) .nil)))))
    .skip)⟩
noncomputable def f_law_piece:FD:=⟨3,9,(.seq (.unpack [5,6,7,8] (.var 1))
    (.seq (.assign 3 (.call 50 (.cons (.var 0) .nil)))
    (.seq (.assign 4 (.idx (.list (.cons (.str [97]) (.cons (.str [92,110]) (.cons (.str [92,34]) (.cons (.str [36,118,32]) (.cons (.str [123,36,118,125]) (.cons (.bin .add (.bin .add (.str [123,36,118,32,47,42]) (.var 7)) (.str [42,47,125])) (.cons (.bin .add (.var 5) (.str [120])) (.cons (.bin .add (.str [46]) (.var 5)) (.cons (.str [123,32]) (.cons (.str [39]) (.cons (.str [92,117,123,125]) (.cons (.str [92,120,52,49]) (.cons (.str [125]) (.cons (.str [92,117,123,69,57,125]) .nil))))))))))))))) (.var 2)))
    (.seq (.setidx (.var 0) (.int 0) (.bin .add (.idx (.var 0) (.int 0)) (.var 4)))
    (.seq (.ite (.var 6)
    (.seq (.expr (.call 52 (.cons (.var 0) (.cons (.var 4) .nil))))
    (.seq (.ite (.and (.cmp .eq (.var 2) (.int 5)) (.cmp .ne (.var 8) (.str [])))
    (.seq (.expr (.call 51 (.cons (.var 0) (.cons (.call 55 (.cons (.var 8) .nil)) (.cons (.bin .add (.var 3) (.int 1)) .nil)))))
    .skip)
    .skip)
    .skip))
    (.seq (.ite (.cmp .isin (.var 2) (.list (.cons (.int 3) (.cons (.int 4) (.cons (.int 5) .nil)))))
    (.seq (.expr (.call 53 (.cons (.var 0) (.cons (.var 3) (.cons (.ite (.cmp .eq (.var 2) (.int 5)) (.int 1) (.int 0)) .nil)))))
    (.seq (.expr (.call 52 (.cons (.var 0) (.cons (.ite (.cmp .eq (.var 2) (.int 3)) (.str [32]) (.str [])) .nil))))
    .skip))
    (.seq (.ite (.cmp .eq (.var 2) (.int 10))
    (.seq (.expr (.call 51 (.cons (.var 0) (.cons (.str s0) (.cons (.var 3) .nil)))))
    .skip)
    (.seq (.expr (.call 52 (.cons (.var 0) (.cons (.getI [(1,[10]),(11,[65]),(13,[195,169])] 2 4) .nil))))
    .skip))
    .skip))
    .skip))
    .skip)))))⟩
noncomputable def f_law_short:FD:=⟨1,1,(.seq (.ret (.bin .add (.bin .add (.str s3) (.p1 .str (.p1 .len (.var 0)))) (.str [41])))
    .skip)⟩
noncomputable def b_56:MS:=(.seq (.expr (.call 54 (.cons (.var 0) (.cons (.var 2) (.cons (.call 49 (.cons (.var 1) (.cons (.bin .add (.bin .mul (.int 4) (.var 3)) (.bin .mul (.int 3) (.var 10))) (.cons (.int 14) .nil)))) .nil)))))
    .skip)
noncomputable def i_56:MS:=(.ite (.cmp .eq (.var 5) (.int 3))
    (.seq (.setidx (.var 0) (.int 0) (.bin .add (.idx (.var 0) (.int 0)) (.slc (.var 9) .none (.call 49 (.cons (.var 1) (.cons (.var 3) (.cons (.int 5) .nil)))))))
    .skip)
    (.seq (.ite (.and (.cmp .eq (.var 5) (.int 4)) (.cmp .ne (.var 9) (.str [])))
    (.seq (.expr (.call 51 (.cons (.var 0) (.cons (.call 55 (.cons (.var 9) .nil)) (.cons (.var 4) .nil)))))
    (.seq (.setidx (.var 0) (.int 0) (.bin .add (.idx (.var 0) (.int 0)) (.slc (.var 9) (.int 1) .none)))
    .skip))
    (.seq (.ite (.and (.cmp .eq (.var 5) (.int 5)) (.cmp .ne (.var 9) (.str [])))
    (.seq (.expr (.call 51 (.cons (.var 0) (.cons (.str s2) (.cons (.var 4) .nil)))))
    (.seq (.setidx (.var 0) (.int 0) (.bin .add (.bin .add (.idx (.var 0) (.int 0)) (.ite (.cmp .eq (.idx (.var 9) (.int 0)) (.str [32])) (.str [9]) (.str [32]))) (.slc (.var 9) (.int 1) .none)))
    .skip))
    (.seq (.setidx (.var 0) (.int 0) (.bin .add (.bin .add (.idx (.var 0) (.int 0)) (.var 9)) (.ite (.cmp .eq (.var 5) (.int 1)) (.str [32]) (.str []))))
    (.seq (.expr (.call 52 (.cons (.var 0) (.cons (.ite (.cmp .eq (.var 5) (.int 1)) (.str [32]) (.str [])) .nil))))
    .skip)))
    .skip))
    .skip))
noncomputable def l_56:MS:=(.ite (.cmp .ne (.var 5) (.int 3))
    (.seq (.forR 10 (.int 0) (.bin .add (.int 1) (.call 49 (.cons (.var 1) (.cons (.var 3) (.cons (.int 3) .nil)))))
    b_56)
    .skip)
    .skip)
noncomputable def f_law_body_row:FD:=⟨4,11,(.seq (.unpack [6,7,8,9] (.var 2))
    (.seq (.assign 4 (.call 50 (.cons (.var 0) .nil)))
    (.seq (.assign 5 (.call 49 (.cons (.var 1) (.cons (.var 3) (.cons (.int 6) .nil)))))
    (.seq i_56
    (.seq l_56
    (.seq (.setidx (.var 0) (.int 0) (.bin .add (.idx (.var 0) (.int 0)) (.var 8)))
    (.seq (.expr (.call 52 (.cons (.var 0) (.cons (.var 8) .nil))))
    .skip)))))))⟩
noncomputable def b_57:MS:=(.seq (.expr (.call 56 (.cons (.var 0) (.cons (.var 1) (.cons (.tup (.cons (.var 3) (.cons (.cmp .eq (.var 4) (.int 2)) (.cons (.var 5) (.cons (.var 6) .nil))))) (.cons (.idx (.idx (.list (.cons (.list (.cons (.int 0) (.cons (.int 3) (.cons (.int 1) (.cons (.int 0) .nil))))) (.cons (.list (.cons (.int 1) (.cons (.int 0) (.cons (.int 3) (.cons (.int 2) .nil))))) .nil))) (.var 2)) (.var 11)) .nil))))))
    .skip)
noncomputable def g_57:MS:=(.seq (.ite (.cmp .eq (.idx (.var 0) (.int 2)) (.list .nil))
    (.seq (.ret (.tup (.cons (.tup (.cons (.str [115,116,114]) (.cons (.str []) (.cons (.var 9) .nil)))) (.cons (.var 7) .nil))))
    .skip)
    .skip)
    (.seq (.ite (.and (.cmp .eq (.p1 .len (.idx (.var 0) (.int 2))) (.int 1)) (.cmp .eq (.idx (.idx (.idx (.var 0) (.int 2)) (.int 0)) (.int 0)) (.str [116,101,120,116])))
    (.seq (.ret (.tup (.cons (.tup (.cons (.str [115,116,114]) (.cons (.idx (.idx (.idx (.var 0) (.int 2)) (.int 0)) (.int 1)) (.cons (.var 9) .nil)))) (.cons (.var 7) .nil))))
    .skip)
    .skip)
    (.seq (.ret (.tup (.cons (.tup (.cons (.str [116,101,109,112,108,97,116,101]) (.cons (.idx (.var 0) (.int 2)) (.cons (.var 9) .nil)))) (.cons (.var 7) .nil))))
    .skip)))
noncomputable def e_57:MS:=(.seq (.setidx (.var 0) (.int 0) (.bin .add (.bin .add (.bin .add (.idx (.var 0) (.int 0)) (.var 6)) (.var 3)) (.ite (.var 7) (.str []) (.str [122]))))
    g_57)
noncomputable def d_57:MS:=(.seq (.ite (.cmp .gt (.var 8) (.int 0))
    (.seq (.assign 12 (.idx (.p1 .pop (.idx (.var 0) (.int 2))) (.int 1)))
    (.seq (.expr (.call 52 (.cons (.var 0) (.cons (.slc (.var 12) .none (.bin .sub (.p1 .len (.var 12)) (.p1 .len (.var 5)))) .nil))))
    .skip))
    .skip)
    e_57)
noncomputable def c_57:MS:=(.seq (.assign 10 (.idx (.list (.cons (.str []) (.cons (.str [34]) (.cons (.str [39]) .nil)))) (.var 4)))
    (.seq (.setidx (.var 0) (.int 0) (.bin .add (.bin .add (.bin .add (.bin .add (.bin .add (.bin .add (.idx (.var 0) (.int 0)) (.str [60,60,60])) (.idx (.list (.cons (.str []) (.cons (.str [32,9]) .nil))) (.call 49 (.cons (.var 1) (.cons (.var 2) (.cons (.int 2) .nil)))))) (.var 10)) (.var 3)) (.var 10)) (.var 5)))
    (.seq (.setidx (.var 0) (.int 2) (.cell .nil))
    (.seq (.forR 11 (.int 0) (.var 8)
    b_57)
    d_57))))
noncomputable def a_57:MS:=(.seq (.ite (.not (.var 7))
    (.seq (.expr (.call 51 (.cons (.var 0) (.cons (.str s6) (.cons (.var 9) .nil)))))
    .skip)
    (.seq (.ite (.cmp .eq (.var 6) (.str [32,9]))
    (.seq (.expr (.call 51 (.cons (.var 0) (.cons (.str s2) (.cons (.var 9) .nil)))))
    .skip)
    .skip)
    .skip))
    c_57)
noncomputable def f_law_heredoc:FD:=⟨3,13,(.seq (.assign 3 (.idx (.list (.cons (.str [69,79,84]) (.cons (.str [65]) (.cons (.str [95,120]) (.cons (.str [233,49]) .nil))))) (.call 49 (.cons (.var 1) (.cons (.var 2) (.cons (.int 4) .nil))))))
    (.seq (.assign 4 (.call 49 (.cons (.var 1) (.cons (.var 2) (.cons (.int 3) .nil)))))
    (.seq (.assign 5 (.idx (.list (.cons (.str [10]) (.cons (.str [13,10]) .nil))) (.call 49 (.cons (.var 1) (.cons (.var 2) (.cons (.int 2) .nil))))))
    (.seq (.assign 6 (.idx (.list (.cons (.str [32,32]) (.cons (.str [9]) (.cons (.str []) (.cons (.str [32,32,32,32]) (.cons (.str [9,9]) (.cons (.str [32,9]) (.cons (.str [32,32,32]) .nil)))))))) (.call 49 (.cons (.var 1) (.cons (.var 2) (.cons (.int 7) .nil))))))
    (.seq (.assign 7 (.cmp .ne (.call 49 (.cons (.var 1) (.cons (.int 0) (.cons (.int 7) .nil)))) (.int 3)))
    (.seq (.assign 8 (.call 49 (.cons (.var 1) (.cons (.int 4) (.cons (.int 5) .nil)))))
    (.seq (.assign 9 (.call 50 (.cons (.var 0) .nil)))
    a_57)))))))⟩
noncomputable def b_58:MS:=(.seq (.expr (.p2 .append (.var 1) (.tup (.cons (.var 2) (.cons (.ite (.cmp .eq (.var 2) (.str [116,101,120,116])) (.var 3) (.comp [] (.var 3) (.call 58 (.cons (.var 0) .nil)) (.bool true))) .nil)))))
    .skip)
noncomputable def f_law_view:FD:=⟨1,4,(.seq (.ite (.cmp .ne (.attr (.var 0) 0) (.str [116,101,109,112,108,97,116,101]))
    (.seq (.ret (.tup (.cons (.attr (.var 0) 0) (.cons (.attr (.var 0) 1) (.cons (.attr (.var 0) 2) .nil)))))
    .skip)
    .skip)
    (.seq (.assign 1 (.cell .nil))
    (.seq (.forT [2,3] (.attr (.var 0) 1)
    b_58)
    (.seq (.ret (.tup (.cons (.str [116,101,109,112,108,97,116,101]) (.cons (.var 1) (.cons (.attr (.var 0) 2) .nil)))))
    .skip))))⟩
noncomputable def f_law_told:FD:=⟨1,2,(.seq (.tryR 1 (.call 48 (.cons (.var 0) .nil)))
    (.seq (.ret (.tup (.cons (.str [114,101,97,100]) (.cons (.comp [] (.var 1) (.call 58 (.cons (.var 0) .nil)) (.bool true)) .nil))))
    .skip))⟩
noncomputable def b_60:MS:=(.seq (.ite (.var 4)
    (.seq (.unpack [5,4] (.call 57 (.cons (.var 1) (.cons (.cell (.cons (.p1 .sum (.slst (.var 0) (.var 2) (.int 2))) .nil)) (.cons (.var 2) .nil)))))
    (.seq (.expr (.p2 .append (.var 3) (.var 5)))
    (.seq (.ite (.var 4)
    (.seq (.assign 6 (.idx (.list (.cons (.str [44]) (.cons (.str [59]) (.cons (.str [41]) (.cons (.str [46]) .nil))))) (.bin .mod (.bin .add (.p1 .sum (.var 0)) (.var 2)) (.int 4))))
    (.seq (.expr (.p2 .append (.var 3) (.tup (.cons (.str [111,112]) (.cons (.var 6) (.cons (.call 50 (.cons (.var 1) .nil)) .nil))))))
    (.seq (.setidx (.var 1) (.int 0) (.bin .add (.idx (.var 1) (.int 0)) (.var 6)))
    .skip)))
    .skip)
    .skip)))
    .skip)
    .skip)
noncomputable def e_60:MS:=(.seq (.expr (.p2 .append (.var 3) (.tup (.cons (.str [101,110,100]) (.cons (.str []) (.cons (.call 50 (.cons (.var 1) .nil)) .nil))))))
    (.seq (.ret (.cmp .eq (.call 59 (.cons (.idx (.var 1) (.int 0)) .nil)) (.ite (.isnone (.idx (.var 1) (.int 1))) (.tup (.cons (.str [114,101,97,100]) (.cons (.var 3) .nil))) (.idx (.var 1) (.int 1)))))
    .skip))
noncomputable def f_law:FD:=⟨1,7,(.seq (.assign 0 (.slc (.var 0) .none (.int 63)))
    (.seq (.assign 1 (.cell (.cons (.bin .add (.str [60,63,112,104,112,10]) (.bin .mul (.str [10]) (.bin .mod (.p1 .len (.var 0)) (.int 3)))) (.cons .none (.cons (.cell .nil) .nil)))))
    (.seq (.pair 3 4 (.cell .nil) (.bool true))
    (.seq (.forR 2 (.int 0) (.int 2)
    b_60)
    e_60))))⟩
noncomputable def f_digits_behind_lexnames:FD:=⟨3,3,.dead⟩
noncomputable def f_digits_value_lexnames:FD:=⟨3,5,.dead⟩
noncomputable def tab:Nat→Option FD
  | 0=>some f_least
  | 1=>some f_greatest
  | 2=>some f_is_name_start
  | 3=>some f_is_name_sign
  | 4=>some f_read_name
  | 5=>some f_operators
  | 6=>some f_operator_at
  | 7=>some f_blanks_behind
  | 8=>some f_cast_at
  | 9=>some f_digit_of
  | 10=>some f_digits_behind
  | 11=>some f_digits_value
  | 12=>some f_is_float
  | 13=>some f_read_number
  | 14=>some f_is_digit
  | 15=>some f_signed
  | 16=>some f_key_number
  | 17=>some f_sign_at
  | 18=>some f_rows_in
  | 19=>some f_no_end
  | 20=>some f_single
  | 21=>some f_octets_of
  | 22=>some f_read_digits
  | 23=>some f_read_point
  | 24=>some f_escape
  | 25=>some f_index_fault
  | 26=>some f_number_tokens
  | 27=>some f_index_tokens
  | 28=>some f_simple_part
  | 29=>some f_code_part
  | 30=>some f_put_text
  | 31=>some f_is_before
  | 32=>some f_parts_until
  | 33=>some f_newline_behind
  | 34=>some f_heredoc_head
  | 35=>some f_heredoc_end
  | 36=>some f_pass_indent
  | 37=>some f_raw_body
  | 38=>some f_row_end
  | 39=>some f_pass_gap
  | 40=>some f_tag_at
  | 41=>some f_pass_inline
  | 42=>some f_text_token
  | 43=>some f_read_heredoc
  | 44=>some f_read_text
  | 45=>some f_read_operator
  | 46=>some f_read_token
  | 47=>some f_lex_code
  | 48=>some f_tokens_of
  | 49=>some f_law_drawn
  | 50=>some f_law_row
  | 51=>some f_law_refuse
  | 52=>some f_law_text
  | 53=>some f_law_code
  | 54=>some f_law_piece
  | 55=>some f_law_short
  | 56=>some f_law_body_row
  | 57=>some f_law_heredoc
  | 58=>some f_law_view
  | 59=>some f_law_told
  | 60=>some f_law
  | 61=>some f_digits_behind_lexnames
  | 62=>some f_digits_value_lexnames
  | _=>none
noncomputable def names:List (Nat×String×List String):=[(0, "least",[]),(1, "greatest",[]),(2, "is_name_start",["c"]),(3, "is_name_sign",["c"]),(4, "read_name",["text", "at"]),(5, "operators",[]),(6, "operator_at",["text", "at", "size", "piece"]),(7, "blanks_behind",["text", "at"]),(8, "cast_at",["text", "at", "line", "first", "behind", "end", "word", "sorts"]),(9, "digit_of",["c", "place"]),(10, "digits_behind",["text", "at"]),(11, "digits_value",["text", "first", "behind", "value", "at"]),(12, "is_float",["text", "behind", "sign", "at"]),(13, "read_number",["text", "at", "line", "mark", "behind", "base", "begin"]),(14, "is_digit",["text", "at"]),(15, "signed",["is_minus", "value", "n"]),(16, "key_number",["text", "is_minus", "first"]),(17, "sign_at",["text", "at"]),(18, "rows_in",["text"]),(19, "no_end",["line"]),(20, "single",["text", "at", "line", "made", "c"]),(21, "octets_of",["point", "low"]),(22, "read_digits",["text", "at", "base", "most", "value", "behind"]),(23, "read_point",["text", "at", "line", "point", "behind"]),(24, "escape",["text", "at", "quote", "line", "c", "plain", "value", "behind"]),(25, "index_fault",["expected", "line"]),(26, "number_tokens",["digits", "is_minus", "line", "key"]),(27, "index_tokens",["text", "at", "line", "c", "first", "behind", "value"]),(28, "simple_part",["text", "at", "line", "behind", "tokens", "arrow", "first", "index"]),(29, "code_part",["text", "at", "line", "lex", "c", "tokens", "behind", "end_line"]),(30, "put_text",["parts", "made"]),(31, "is_before",["text", "at", "stop", "line"]),(32, "parts_until",["text", "at", "stop", "quote", "indent", "line", "lex", "parts", "made", "c", "code", "tokens", "behind", "signs"]),(33, "newline_behind",["text", "at"]),(34, "heredoc_head",["text", "at", "first", "mark", "behind", "end"]),(35, "heredoc_end",["text", "at", "label", "line", "row", "first", "behind", "newline", "indent", "end"]),(36, "pass_indent",["text", "at", "stop", "indent", "line", "turn", "why"]),(37, "raw_body",["text", "at", "stop", "indent", "line", "made", "newline", "behind"]),(38, "row_end",["text", "at"]),(39, "pass_gap",["text", "at", "line", "first", "mark", "behind"]),(40, "tag_at",["text", "at", "behind"]),(41, "pass_inline",["text", "at", "line", "tokens", "first"]),(42, "text_token",["parts", "line"]),(43, "read_heredoc",["text", "head", "line", "label", "is_raw", "first", "end", "indent", "behind", "parts", "ended"]),(44, "read_text",["text", "at", "line", "c", "head", "value", "behind", "parts"]),(45, "read_operator",["text", "at", "line", "c", "op", "cast", "point"]),(46, "read_token",["text", "at", "line", "c", "found", "behind", "value"]),(47, "lex_code",["text", "at", "line", "tokens", "depth", "behind", "token"]),(48, "tokens_of",["text", "tokens", "at", "line", "behind", "first", "token"]),(49, "_law_drawn",["pen", "first", "many", "number"]),(50, "_law_row",["page"]),(51, "_law_refuse",["page", "why", "row"]),(52, "_law_text",["page", "text", "parts"]),(53, "_law_code",["page", "row", "more"]),(54, "_law_piece",["page", "sort", "number", "row", "text", "label", "is_raw", "newline", "ahead"]),(55, "_law_short",["ahead"]),(56, "_law_body_row",["page", "pen", "sort", "first", "row", "way", "label", "is_raw", "newline", "ahead", "k"]),(57, "_law_heredoc",["page", "pen", "first", "label", "head", "newline", "ahead", "ends", "many", "row", "quote", "k", "last"]),(58, "_law_view",["token", "parts", "sort", "one_part"]),(59, "_law_told",["text", "tokens"]),(60, "law",["script", "page", "j", "due", "ends", "token", "end_sign"]),(61, "digits_behind_lexnames",["text", "at", "base"]),(62, "digits_value_lexnames",["text", "base", "line", "value", "c"])]
end Mine.P1
end
section
namespace Mine
theorem Y3 (n i:Nat):clip n (i:Int)=min i n:=by
  unfold clip
  rw [if_neg (Int.not_lt.mpr (Int.natCast_nonneg i))]
  rcases Nat.le_total i n with h | h
  · rw [Int.min_eq_left (Int.ofNat_le.mpr h),Nat.min_eq_left h,Int.max_eq_right (Int.natCast_nonneg _),Int.toNat_natCast]
  · rw [Int.min_eq_right (Int.ofNat_le.mpr h),Nat.min_eq_right h,Int.max_eq_right (Int.natCast_nonneg _),Int.toNat_natCast]
theorem slN {α:Type} (l:List α) (i j:Nat):sliceL l (some (i:Int)) (some (j:Int))=(l.drop i).take (j - i):=by
  unfold sliceL loAt hiAt
  simp only [Y3]
  rcases Nat.lt_or_ge i l.length with h | h
  · rw [Nat.min_eq_left (Nat.le_of_lt h)]
    rcases Nat.lt_or_ge j l.length with h' | h'
    · rw [Nat.min_eq_left (Nat.le_of_lt h')]
    · rw [Nat.min_eq_right h',List.take_of_length_le (by simp),List.take_of_length_le (by simp; omega)]
  · rw [Nat.min_eq_right h,List.drop_of_length_le (Nat.le_refl _),List.drop_of_length_le h]; simp
theorem slL {α:Type} (l:List α) (i:Nat):sliceL l (some (i:Int)) none=l.drop i:=by
  unfold sliceL loAt hiAt
  simp only [Y3]
  rcases Nat.lt_or_ge i l.length with h | h
  · rw [Nat.min_eq_left (Nat.le_of_lt h),List.take_of_length_le (by simp)]
  · rw [Nat.min_eq_right h,List.drop_of_length_le (Nat.le_refl _),List.drop_of_length_le h]; simp
theorem slR {α:Type} (l:List α) (j:Nat):sliceL l none (some (j:Int))=l.take j:=by
  unfold sliceL loAt hiAt
  simp only [Y3,List.drop_zero,Nat.sub_zero]
  rcases Nat.lt_or_ge j l.length with h | h
  · rw [Nat.min_eq_left (Nat.le_of_lt h)]
  · rw [Nat.min_eq_right h,List.take_of_length_le (Nat.le_refl _),List.take_of_length_le h]
theorem nat1 (a:Nat):(a:Int)+1=((a+1:Nat):Int):=rfl
theorem nat2 (a:Nat):(a:Int)+2=((a+2:Nat):Int):=rfl
theorem nat3 (a:Nat):(a:Int)+3=((a+3:Nat):Int):=rfl
theorem nat5 (a:Nat):(a:Int)+5=((a+5:Nat):Int):=rfl
theorem nat7 (a:Nat):(a:Int)+7=((a+7:Nat):Int):=rfl
theorem f9 {h h':H} {v:V} (e:h'.length=h.length):back h v h'=.ok v h':=by unfold back backO; rw [if_pos e]; rfl
theorem N2 {h h':H} {v:V} (e:h'.length=h.length):callR h (.ok (.ret v) h')=.ok v h':=f9 e
theorem a7 {α β:Type} (a:α) (h:H) (f:α→H→R β):(R.ok a h).bind f=f a h:=rfl
theorem z9 {α β:Type} (w:List Nat) (l:Int) (h:H) (f:α→H→R β):(R.pf w l h:R α).bind f=.pf w l h:=rfl
theorem W1 {α β:Type} {c:Prop} [Decidable c] (a b:R α) (f:α→H→R β):(if c then a else b).bind f=if c then a.bind f else b.bind f:=by split <;> rfl
theorem a9 (v:V) (h:H):varR (some (some v)) h=.ok v h:=rfl
theorem f6 {α:Type} (c:Bool) (a b:R α):ifR (some c) a b=if c=true then a else b:=rfl
theorem g8 (c:Bool) (h:H):boolR (.bool c) h=.ok (.bool c) h:=rfl
theorem i4 (c:Bool) (h:H) (m:R V):andR (.bool c) h m=if c=true then m.bind boolR else .ok (.bool false) h:=rfl
theorem A7 (c:Bool) (h:H) (m:R V):orR (.bool c) h m=if c=true then .ok (.bool true) h else m.bind boolR:=rfl
theorem F6 (c:Bool) (h:H):notR (.bool c) h=.ok (.bool (!c)) h:=rfl
theorem f0 (loc:L) (h:H) (k:L→H→R Fl):seqR (.next loc) h k=k loc h:=rfl
theorem g9 (v:V) (h:H) (k:L→H→R Fl):seqR (.ret v) h k=.ok (.ret v) h:=rfl
section
variable (C:Calls) (N:Nat) (loc:L) (h:H)
theorem z0:mev C .none loc h=.ok .none h:=rfl
theorem as2 (b:Bool):mev C (.bool b) loc h=.ok (.bool b) h:=rfl
theorem f7 (i:Int):mev C (.int i) loc h=.ok (.int i) h:=rfl
theorem f5 (l:List Nat):mev C (.str l) loc h=.ok (.str l) h:=rfl
theorem b8 (i:Nat):mev C (.var i) loc h=varR loc[i]? h:=rfl
theorem j6 (o:BO) (a b:ME):mev C (.bin o a b) loc h=(mev C a loc h).bind fun x h=>(mev C b loc h).bind fun y h=>ofO (binV o h x y) h:=rfl
theorem e8 (o:CO) (a b:ME):mev C (.cmp o a b) loc h=(mev C a loc h).bind fun x h=>(mev C b loc h).bind fun y h=>ofO ((cmpV o h x y).map .bool) h:=rfl
theorem m8 (a b:ME):mev C (.and a b) loc h=(mev C a loc h).bind fun x h=>andR x h (mev C b loc h):=rfl
theorem e_or (a b:ME):mev C (.or a b) loc h=(mev C a loc h).bind fun x h=>orR x h (mev C b loc h):=rfl
theorem Q4 (a:ME):mev C (.not a) loc h=(mev C a loc h).bind notR:=rfl
theorem ac1 (a:ME):mev C (.neg a) loc h=(mev C a loc h).bind negR:=rfl
theorem y9 (t a b:ME):mev C (.ite t a b) loc h=(mev C t loc h).bind fun x h=>ifR (truth h x) (mev C a loc h) (mev C b loc h):=rfl
theorem n9 (a i:ME):mev C (.idx a i) loc h=(mev C a loc h).bind fun x h=>(mev C i loc h).bind fun y h=>ofO (idxV h x y) h:=rfl
theorem s7 (a b c:ME):mev C (.slc a b c) loc h=(mev C a loc h).bind fun x h=>(mev C b loc h).bind fun y h=>(mev C c loc h).bind fun z h=>ofO (slcV x y z) h:=rfl
theorem e9 (f:Nat) (as:MEs):mev C (.call f as) loc h=(mevs C as loc h).bind fun vs h=>C f vs h:=rfl
theorem e_mk (as:MEs):mev C (.mk as) loc h=(mevs C as loc h).bind mkR:=rfl
theorem e_p1 (p:P1) (a:ME):mev C (.p1 p a) loc h=(mev C a loc h).bind fun x h=>p1V p x h:=rfl
theorem e_p2 (p:P2) (a b:ME):mev C (.p2 p a b) loc h=(mev C a loc h).bind fun x h=>if recv2 p x=true then (mev C b loc h).bind fun y h=>p2V p x y h else .stuck:=rfl
theorem e_p3 (p:P3) (a b c:ME):mev C (.p3 p a b c) loc h=(mev C a loc h).bind fun x h=>if isStrV x=true then (mev C b loc h).bind fun y h=>(mev C c loc h).bind fun z h=>p3V p x y z h else .stuck:=rfl
theorem l9 (es:MEs):mev C (.tup es) loc h=(mevs C es loc h).bind fun vs h=>.ok (.tup vs) h:=rfl
theorem G3 (es:MEs):mev C (.list es) loc h=(mevs C es loc h).bind fun vs h=>.ok (.lst vs) h:=rfl
theorem af8 (es:MEs):mev C (.cell es) loc h=(mevs C es loc h).bind fun vs h=>.ok (.ref h.length) (h++[vs]):=rfl
theorem X9 (a:ME):mev C (.isnone a) loc h=(mev C a loc h).bind noneR:=rfl
theorem C3 (a:ME):mev C (.notnone a) loc h=(mev C a loc h).bind someR:=rfl
theorem b9:mevs C .nil loc h=.ok [] h:=rfl
theorem b6 (e:ME) (r:MEs):mevs C (.cons e r) loc h=(mev C e loc h).bind fun x h=>(mevs C r loc h).bind fun xs h=>.ok (x::xs) h:=rfl
theorem j7:mex C N .skip loc h=.ok (.next loc) h:=rfl
theorem h8 (a b:MS):mex C N (.seq a b) loc h=(mex C N a loc h).bind fun f h=>seqR f h (mex C N b):=rfl
theorem k4 (i:Nat) (e:ME):mex C N (.assign i e) loc h=(mev C e loc h).bind fun v h=>.ok (.next (loc.set i (some v))) h:=rfl
theorem m9 (is:List Nat) (e:ME):mex C N (.unpack is e) loc h=(mev C e loc h).bind fun v h=>unpR is loc v h:=rfl
theorem aZ2 (i j:Nat) (a b:ME):mex C N (.pair i j a b) loc h=(mev C a loc h).bind fun x h=>(mev C b loc h).bind fun y h=>.ok (.next ((loc.set j (some y)).set i (some x))) h:=rfl
theorem C4 (i:Nat) (e:ME):mex C N (.aug i .add e) loc h=(mev C (.var i) loc h).bind fun x h=>(mev C e loc h).bind fun y h=>augR i loc x y h:=rfl
theorem w8 (i:Nat) (x y:Int):augR i loc (.int x) (.int y) h=.ok (.next (loc.set i (some (.int (x+y))))) h:=rfl
theorem q7 (t:ME) (a b:MS):mex C N (.ite t a b) loc h=(mev C t loc h).bind fun x h=>ifR (truth h x) (mex C N a loc h) (mex C N b loc h):=rfl
theorem at8 (t:ME) (b:MS):mex C N (.while t b) loc h=wloop (mev C t) (mex C N b) N loc h:=rfl
theorem n6 (e:ME):mex C N (.ret e) loc h=(mev C e loc h).bind fun v h=>.ok (.ret v) h:=rfl
theorem A0 (e:ME):mex C N (.expr e) loc h=(mev C e loc h).bind fun _ h=>.ok (.next loc) h:=rfl
theorem Q9 (a b:ME):mex C N (.raise a b) loc h=(mev C a loc h).bind fun x h=>(mev C b loc h).bind fun y h=>raiseR x y h:=rfl
theorem an4 (a:ME):mex C N (.raiseEnd a) loc h=(mev C a loc h).bind endR:=rfl
end
theorem f8 (h:H) (x y:Int):binV .add h (.int x) (.int y)=some (.int (x+y)):=rfl
theorem H9 (h:H) (x y:Int):binV .sub h (.int x) (.int y)=some (.int (x - y)):=rfl
theorem i8 (h:H) (a b:List Nat):cmpV .eq h (.str a) (.str b)=some (a==b):=rfl
theorem u6 (h:H) (a b:List Nat):cmpV .ne h (.str a) (.str b)=some (!(a==b)):=rfl
theorem r7 (h:H) (a b:Int):cmpV .eq h (.int a) (.int b)=some (a==b):=rfl
theorem t7 (h:H) (a b:Int):cmpV .lt h (.int a) (.int b)=some (decide (a < b)):=rfl
theorem H5 (h:H) (a b:Int):cmpV .gt h (.int a) (.int b)=some (decide (b < a)):=rfl
theorem C9 (h:H) (a b:Int):cmpV .ge h (.int a) (.int b)=some (decide (b≤a)):=rfl
theorem m6 (l:List Nat) (i j:Nat):slcV (.str l) (.int i) (.int j)=some (.str ((l.drop i).take (j - i))):=by
  show some (V.str (sliceL l (some (i:Int)) (some (j:Int))))=_; rw [slN]
theorem ai5 (l:List Nat) (i:Nat):slcV (.str l) (.int i) .none=some (.str (l.drop i)):=by
  show some (V.str (sliceL l (some (i:Int)) none))=_; rw [slL]
theorem K6 (l:List Nat) (j:Nat):slcV (.str l) .none (.int j)=some (.str (l.take j)):=by
  show some (V.str (sliceL l none (some (j:Int))))=_; rw [slR]
theorem aa3 (l:List Nat):slcV (.str l) .none (.int 1)=some (.str (l.take 1)):=K6 l 1
theorem b5 {α:Type} (v:α) (h:H):ofO (some v) h=.ok v h:=rfl
theorem d0 (h:H) (b:Bool):truth h (.bool b)=some b:=rfl
theorem U5 {p:P1} {a:V} {h:H} {q:V×H} (e:p1O p a h=some q):p1V p a h=.ok q.1 q.2:=by unfold p1V; rw [e]; rfl
theorem U4 {p:P2} {a b:V} {h:H} {q:V×H} (e:p2O p a b h=some q):p2V p a b h=.ok q.1 q.2:=by unfold p2V; rw [e]; rfl
theorem p3_ok {p:P3} {a b c:V} {h:H} {q:V×H} (e:p3O p a b c h=some q):p3V p a b c h=.ok q.1 q.2:=by unfold p3V; rw [e]; rfl
theorem t0 (l:List Nat) (h:H):p1V .len (.str l) h=.ok (.int l.length) h:=rfl
theorem aT9 {l:List Nat} (h:H) (e:l.all (fun c=>decide (c < 128))=true):p1V .lower (.str l) h=.ok (.str (l.map lowerC)) h:=U5 (q:=(.str (l.map lowerC),h)) (if_pos e)
theorem o7 {l:List Nat} {i c:Nat} (h:H) (e:l[i]?=some c):idxV h (.str l) (.int i)=some (.str [c]):=by
  have q:atL l (i:Int)=some c:=(if_pos (Int.natCast_nonneg i)).trans e
  show pick ((atL l (i:Int)).map fun c=>V.str [c]) _=_
  rw [q]; rfl
theorem i6 {t:List Nat} {i c:Nat} {r:List Nat} (h:t.drop i=c::r):t[i]?=some c∧i < t.length∧t.drop (i+1)=r:=by
  have hi:i < t.length:=by
    rcases Nat.lt_or_ge i t.length with q | q
    · exact q
    · rw [List.drop_of_length_le q] at h; cases h
  rw [List.drop_eq_getElem_cons hi] at h
  cases h
  exact ⟨List.getElem?_eq_getElem hi,hi,rfl⟩
theorem aC2 {t:List Nat} {i:Nat} (h:t.drop i=[]):t.length≤i:=List.drop_eq_nil_iff.mp h
section
variable {test:L→H→R V} {body:L→H→R Fl} {n:Nat} {loc loc':L} {h h' h'':H}
theorem z7 (ht:test loc h=.ok (.bool false) h'):wloop test body (n+1) loc h=.ok (.next loc) h':=by
  simp only [wloop,ht,a7,d0]; rfl
theorem y8 (ht:test loc h=.ok (.bool true) h') (hb:body loc h'=.ok (.next loc') h''):wloop test body (n+1) loc h=wloop test body n loc' h'':=by
  simp only [wloop,ht,hb,a7,d0]; rfl
theorem an5 {v:V} (ht:test loc h=.ok (.bool true) h') (hb:body loc h'=.ok (.ret v) h''):wloop test body (n+1) loc h=.ok (.ret v) h'':=by
  simp only [wloop,ht,hb,a7,d0]; rfl
theorem au0 {w:List Nat} {l:Int} (ht:test loc h=.ok (.bool true) h') (hb:body loc h'=.pf w l h''):wloop test body (n+1) loc h=.pf w l h'':=by
  simp only [wloop,ht,hb,a7,z9,d0]; rfl
end
theorem J1 (c:Nat):∀ (l acc:List Nat),(splitC c l acc).length=l.count c+1
  | [],acc=>rfl
  | d::r,acc=>by
    unfold splitC
    rw [List.count_cons]
    cases hd:d==c with
    | true=>simp [J1 c r []]
    | false=>simp [J1 c r (d::acc)]
theorem g6 {t:List Nat} {i c:Nat} {r:List Nat} (h:t.drop i=c::r):t.drop (i+1)=r:=(i6 h).2.2
theorem E9 (c d:Nat):([c]==[d])=(c==d):=by
  rw [Bool.eq_iff_iff]; simp
section
variable (C:Calls) (N:Nat) (loc:L) (h:H)
noncomputable def cmp2R (o:Option Bool) (h:H) (k:H→R V):R V:=ifR o (k h) (.ok (.bool false) h)
theorem J5 (b:Bool) (h:H) (k:H→R V):cmp2R (some b) h k=if b=true then k h else .ok (.bool false) h:=rfl
theorem af7 (o p:CO) (a b c:ME):mev C (.cmp2 o p a b c) loc h=(mev C a loc h).bind fun x h=>(mev C b loc h).bind fun y h=>cmp2R (cmpV o h x y) h fun h=>(mev C c loc h).bind fun z h=>ofO ((cmpV p h y z).map .bool) h:=rfl
theorem Q3 (vs:List V) (k:List V→R Fl):itemsR (some vs) k=k vs:=rfl
theorem aX9 (x:Nat) (it:ME) (b:MS):mex C N (.for x it b) loc h=(mev C it loc h).bind fun v h=>if isRefV v=true then .stuck else itemsR (items h v) fun vs=>floop (fun v loc h=>mex C N b (loc.set x (some v)) h) vs loc h:=rfl
noncomputable def tupLoop (C:Calls) (N:Nat) (is:List Nat) (b:MS) (v:V) (loc:L) (h:H):R Fl:=ofK ((tupOf v).bind fun ws=>setAll is ws loc) fun loc=>mex C N b loc h
theorem aZ3 (is:List Nat) (it:ME) (b:MS):mex C N (.forT is it b) loc h=(mev C it loc h).bind fun v h=>if isRefV v=true then .stuck else itemsR (items h v) fun vs=>floop (tupLoop C N is b) vs loc h:=rfl
theorem Y0 (a:ME) (f:Nat):mev C (.attr a f) loc h=(mev C a loc h).bind fun x h=>ofO (attrV x f) h:=rfl
theorem F1 (i j:Nat) (a b:V):unpR [i,j] loc (.tup [a,b]) h=.ok (.next ((loc.set i (some a)).set j (some b))) h:=rfl
theorem aE0 (i j k:Nat) (a b c:V):unpR [i,j,k] loc (.tup [a,b,c]) h=.ok (.next (((loc.set i (some a)).set j (some b)).set k (some c))) h:=rfl
theorem fl_nil (body:V→L→H→R Fl):floop body [] loc h=.ok (.next loc) h:=rfl
noncomputable def flR (body:V→L→H→R Fl) (r:List V) (f:Fl) (h:H):R Fl:=seqR f h (floop body r)
theorem N0 (body:V→L→H→R Fl) (v:V) (r:List V):floop body (v::r) loc h=(body v loc h).bind (flR body r):=rfl
theorem aM0 (body:V→L→H→R Fl) (r:List V):flR body r (.next loc) h=floop body r loc h:=rfl
theorem ay0 (body:V→L→H→R Fl) (r:List V) (v:V):flR body r (.ret v) h=.ok (.ret v) h:=rfl
theorem tupL_2 (i j:Nat) (b:MS) (x y:V):tupLoop C N [i,j] b (.tup [x,y]) loc h=mex C N b ((loc.set i (some x)).set j (some y)) h:=rfl
end
theorem bi6 (x:V) (h:H):noneR x h=.ok (.bool (match x with | .none=>true | _=>false)) h:=rfl
theorem bh4 (x:V) (h:H):someR x h=.ok (.bool (match x with | .none=>false | _=>true)) h:=rfl
theorem V4 (a b c:V) (h:H):mkR [a,b,c] h=.ok (.tok a b c) h:=rfl
theorem aU8 (h:H) (p:List Nat) (vs:List V) {ys:List (List Nat)} (e:strsOf vs=some ys):cmpV .isin h (.str p) (.tup vs)=some (ys.any (·==p)):=by
  have q:inStrs vs p=some (ys.any (·==p)):=congrArg (Option.map _) e
  show pick none (pick (inStrs vs p) _)=_; rw [q]; rfl
theorem Y8 {h:H} {x:List V} {v w:V} (e:frz (h++[x]) h.length 9 v=some w):backO h v (h++[x])=some (w,h):=by
  unfold backO
  rw [if_neg (by simp),List.take_left' rfl,if_pos rfl,e]; rfl
theorem I6 {h:H} {x:List V} {v w:V} (e:frz (h++[x]) h.length 9 v=some w):back h v (h++[x])=.ok w h:=by unfold back; rw [Y8 e]; rfl
theorem Q6 {h:H} {x:List V} {w:List Nat} {l:Int}:backPf h w l (h++[x])=.pf w l h:=by
  unfold backPf; rw [Y8 (w:=.none) rfl]; rfl
theorem Y4 (h:H) (x:List V):(h++[x])[h.length]?=some x:=by simp
theorem aN6 (h:H) (x y:List V):(h++[x]).set h.length y=h++[y]:=by simp
theorem y7 (h:H) (x:List V) (v:V) (e:x.length < big):p2V .append (.ref h.length) v (h++[x])=.ok .none (h++[x++[v]]):=by
  refine (U4 (q:=(.none,(h++[x]).set h.length (x++[v]))) ?_).trans (congrArg (R.ok V.none) (aN6 _ _ _))
  show Option.bind ((h++[x])[h.length]?) _=_; rw [Y4]; exact if_pos e
theorem aX3 {h h':H} {w:List Nat} {l:Int} (e:h'.length=h.length):callR h (.pf w l h')=.pf w l h':=by
  show backPf h w l h'=_
  unfold backPf; rw [show backO h .none h'=some (.none,h') from if_pos e]; rfl
section
variable {C:Calls} {N:Nat} {t:ME} {a b c:MS} {loc:L} {h h0 h':H}
end
theorem t5 {h h':H} {w:List Nat} {l:Int} (e:h'.length=h.length):backPf h w l h'=.pf w l h':=aX3 e
theorem m_p3 {C:Calls} {loc:L} {h h1 h2 h3:H} {a b c:ME} {x y z:V} {p:P3} (e1:mev C a loc h=.ok x h1) (hx:isStrV x=true) (e2:mev C b loc h1=.ok y h2) (e3:mev C c loc h2=.ok z h3):mev C (.p3 p a b c) loc h=p3V p x y z h3:=by
  rw [e_p3,e1,a7,if_pos hx,e2,a7,e3,a7]
theorem r9 {C:Calls} {N:Nat} {i:Nat} {e:ME} {loc:L} {h h':H} {v:V} (q:mev C e loc h=.ok v h'):mex C N (.assign i e) loc h=.ok (.next (loc.set i (some v))) h':=by
  rw [k4,q,a7]
theorem m_p1 {C:Calls} {loc:L} {h h1:H} {a:ME} {x:V} {p:P1} (e1:mev C a loc h=.ok x h1):mev C (.p1 p a) loc h=p1V p x h1:=by
  rw [e_p1,e1,a7]
theorem v6 {C:Calls} {loc:L} {h h1 h2:H} {a b:ME} {x y z:V} {o:BO} (e1:mev C a loc h=.ok x h1) (e2:mev C b loc h1=.ok y h2) (e3:binV o h2 x y=some z):mev C (.bin o a b) loc h=.ok z h2:=by
  rw [j6,e1,a7,e2,a7,e3,b5]
theorem aw6 {C:Calls} {N:Nat} {loc:L} {h h1 h2:H} {a b:ME} {w:List Nat} {l:Int} (e1:mev C a loc h=.ok (.str w) h1) (e2:mev C b loc h1=.ok (.int l) h2):mex C N (.raise a b) loc h=.pf w l h2:=by
  rw [Q9,e1,a7,e2,a7]; rfl
theorem B8 (p:List Nat):∀ (l:List Nat) (i:Nat),findFrom p l i=(findFrom p l 0).map (· + i)
  | [],i=>by unfold findFrom; split <;> simp
  | c::r,i=>by
    unfold findFrom
    split
    · simp
    · rw [B8 p r (i+1),B8 p r (0+1),Option.map_map]
      congr 1; funext x; simp only [Function.comp_apply]; omega
theorem Y1:∀ (b f n:Nat) (acc:List Char),(Nat.toDigitsCore b f n acc).length≤f+acc.length
  | b,0,n,acc=>by unfold Nat.toDigitsCore; omega
  | b,f+1,n,acc=>by
    unfold Nat.toDigitsCore
    dsimp only
    split
    · simp; omega
    · have:=Y1 b f (n / b) (Nat.digitChar (n % b)::acc)
      simp only [List.length_cons] at this
      omega
theorem an7 (i:Nat):(textOf (i:Int)).length≤i+1:=by
  have:textOf (i:Int)=(Nat.toDigits 10 i).map Char.toNat:=by
    show ((toString (i:Int)).toList).map _=_
    have:(toString (i:Int))=String.ofList (Nat.toDigits 10 i):=rfl
    rw [this,String.toList_ofList]
  rw [this,List.length_map]
  have:=Y1 10 (i+1) i []
  simpa [Nat.toDigits] using this
theorem D6 {i:Nat} (hi:i < 100000):small (i:Int)=true:=by
  simp only [small,Bool.and_eq_true,decide_eq_true_eq]
  omega
theorem ba1 {i:Int} {h:H}:p1O .str (.int i) h=if small i=true then some (.str (textOf i),h) else none:=rfl
theorem az5 {h:H} {i:Nat} (hi:i < 100000):p1V .str (.int i) h=.ok (.str (textOf i)) h:=U5 (p:=.str) (a:=.int i) (q:=(.str (textOf i),h)) (ba1.trans (if_pos (D6 hi)))
theorem X4 {t p:List Nat} {i:Nat} {h:H} (hi:i≤t.length) (hb:t.length < big) (hp:p≠[]):p3V .find (.str t) (.str p) (.int i) h=.ok (.int (match findFrom p (t.drop i) 0 with | some k=>((i+k:Nat):Int) | none=>-1)) h:=by
  refine (p3_ok (p:=.find) (a:=.str t) (b:=.str p) (c:=.int i) (q:=(.int (findL t p (i:Int).toNat),h)) (if_pos ⟨Int.natCast_nonneg i,Int.ofNat_le.mpr (Nat.le_of_lt (Nat.lt_of_le_of_lt hi hb)),hp⟩)).trans ?_
  rw [Int.toNat_natCast]
  unfold findL
  rw [if_pos hi,B8]
  cases findFrom p (t.drop i) 0 with
  | none=>rfl
  | some k=>simp only [Option.map_some,Nat.add_comm i k]
section
variable {C:Calls} {N:Nat} {loc:L} {h h1 h2:H}
theorem E6 {a b:ME} {x y z:V} (e1:mev C a loc h=.ok x h1) (e2:mev C b loc h1=.ok y h2) (e3:idxV h2 x y=some z):mev C (.idx a b) loc h=.ok z h2:=by
  rw [n9,e1,a7,e2,a7,e3,b5]
end
section
variable {C:Calls} {N:Nat} {t:ME} {a b c:MS} {loc loc':L} {h h' h1 h2:H} {v x y:V}
theorem i5 (e:mex C N a loc h=.ok (.next loc') h'):mex C N (.seq a b) loc h=mex C N b loc' h':=by rw [h8,e]; rfl
theorem U9 (e:mex C N a loc h=.ok (.ret v) h'):mex C N (.seq a b) loc h=.ok (.ret v) h':=by rw [h8,e]; rfl
theorem L9 {w:List Nat} {l:Int} (e:mex C N a loc h=.pf w l h'):mex C N (.seq a b) loc h=.pf w l h':=by rw [h8,e]; rfl
theorem aT1 (e:mev C t loc h=.ok (.bool false) h'):mex C N (.seq (.ite t a .skip) c) loc h=mex C N c loc h':=by
  rw [h8,q7,e,a7,d0,f6,if_neg Bool.false_ne_true,j7,a7,f0]
theorem aw2 (e:mev C t loc h=.ok (.bool false) h'):mex C N (.seq (.ite t a b) c) loc h=mex C N (.seq b c) loc h':=by
  rw [h8,q7,e,a7,d0,f6,if_neg Bool.false_ne_true,h8]
theorem aT0 (e:mev C t loc h=.ok (.bool true) h'):mex C N (.seq (.ite t a b) c) loc h=mex C N (.seq a c) loc h':=by
  rw [h8,q7,e,a7,d0,f6,if_pos rfl,h8]
theorem o8:mex C N (.seq (.seq a b) c) loc h=mex C N (.seq a (.seq b c)) loc h:=by
  rw [h8,h8,h8]
  cases mex C N a loc h with
  | stuck=>rfl
  | pf=>rfl
  | ok f h1=>cases f with
    | ret v=>rfl
    | next l1=>simp only [a7,f0,h8]
theorem u9:mex C N (.seq .skip c) loc h=mex C N c loc h:=by rw [h8,j7]; rfl
theorem bc7 {i j:Nat} {a b:ME} (e1:mev C a loc h=.ok x h1) (e2:mev C b loc h1=.ok y h2):mex C N (.pair i j a b) loc h=.ok (.next ((loc.set j (some y)).set i (some x))) h2:=by
  rw [aZ2,e1,a7,e2,a7]
end
theorem S7:∀ l:List (List Nat),strsOf (l.map .str)=some l
  | []=>rfl
  | a::r=>by show (strsOf (r.map V.str)).map _=_; rw [S7 r]; rfl
theorem aK2 (h:H) (p:List Nat) (l:List (List Nat)):cmpV .isin h (.str p) (.tup (l.map .str))=some (l.any (·==p)):=aU8 h p _ (S7 l)
section
variable {C:Calls} {N:Nat} {e:ME} {b:MS} {loc:L} {h h0 h':H} {v:V}
theorem aI9 (q:mev C e loc h=.ok v h'):mex C N (.expr e) loc h=.ok (.next loc) h':=by rw [A0,q,a7]
theorem m_p2 {h1 h2:H} {p:P2} {a b:ME} {x y:V} (e1:mev C a loc h=.ok x h1) (hx:recv2 p x=true) (e2:mev C b loc h1=.ok y h2):mev C (.p2 p a b) loc h=p2V p x y h2:=by
  rw [e_p2,e1,a7,if_pos hx,e2,a7]
end
theorem aY8 {C:Calls} {N:Nat} {loc:L} {h h1:H} {e:ME} {v:V} (q:mev C e loc h=.ok v h1):mex C N (.ret e) loc h=.ok (.ret v) h1:=by rw [n6,q,a7]
theorem M4 {f:V→Option V}:∀ {l:List V},(∀ x∈l,f x=some x)→l.mapM f=some l
  | [],_=>rfl
  | a::r,h=>by
    rw [List.mapM_cons,h a (.head _),M4 fun x hx=>h x (.tail _ hx)]; rfl
theorem L8 {C:Calls} {N:Nat} {t:ME} {b c:MS} {loc loc':L} {h h':H} (e:wloop (mev C t) (mex C N b) N loc h=.ok (.next loc') h'):mex C N (.seq (.while t b) c) loc h=mex C N c loc' h':=i5 e
theorem L7 {C:Calls} {N:Nat} {t:ME} {b c:MS} {loc:L} {h h':H} {v:V} (e:wloop (mev C t) (mex C N b) N loc h=.ok (.ret v) h'):mex C N (.seq (.while t b) c) loc h=.ok (.ret v) h':=U9 e
theorem aY4 {C:Calls} {N:Nat} {t:ME} {b c:MS} {loc:L} {h h':H} {w:List Nat} {l:Int} (e:wloop (mev C t) (mex C N b) N loc h=.pf w l h'):mex C N (.seq (.while t b) c) loc h=.pf w l h':=L9 e
section
variable {C:Calls} {N:Nat} {t:ME} {a b c:MS} {loc:L} {h h':H} {v:V}
theorem nxf (e:mev C t loc h=.ok (.bool false) h):mex C N (.seq (.ite t a .skip) c) loc h=mex C N c loc h:=aT1 e
theorem nxe (e:mev C t loc h=.ok (.bool false) h):mex C N (.seq (.ite t a b) c) loc h=mex C N (.seq b c) loc h:=aw2 e
theorem nxe2 {b1 b2:MS} (e:mev C t loc h=.ok (.bool false) h):mex C N (.seq (.ite t a (.seq b1 b2)) c) loc h=mex C N (.seq b1 (.seq b2 c)) loc h:=(aw2 e).trans o8
theorem nxt {a1 a2:MS} (e:mev C t loc h=.ok (.bool true) h):mex C N (.seq (.ite t (.seq a1 a2) b) c) loc h=mex C N (.seq a1 (.seq a2 c)) loc h:=(aT0 e).trans o8
theorem nxa {e:ME} {i:Nat} (v:V) (q:mev C e loc h=.ok v h):mex C N (.seq (.assign i e) b) loc h=mex C N b (loc.set i (some v)) h:=i5 (r9 q)
theorem nxr {e:ME} (q:mev C e loc h=.ok v h'):mex C N (.seq (.ret e) b) loc h=.ok (.ret v) h':=U9 (aY8 q)
theorem nxx {e:ME} (q:mev C e loc h=.ok v h'):mex C N (.seq (.expr e) b) loc h=mex C N b loc h':=i5 (aI9 q)
end
theorem as1 (C:Calls) (loc:L) (h:H) (f:Nat):mev C (.glob f) loc h=.ok (.fn f) h:=rfl
theorem L6:1 < big:=by rw [k7]; decide
theorem ag6:0 < big:=Nat.lt_trans Nat.zero_lt_one L6
theorem n7 (h:H) (x y:List Nat) (e:x.length+y.length≤big):binV .add h (.str x) (.str y)=some (.str (x++y)):=by
  show pick none (pick (if x.length+y.length≤big then some (V.str (x++y)) else none) _)=_; rw [if_pos e]; rfl
theorem attr0 (a b c:V):attrV (.tok a b c) 0=some a:=rfl
theorem attr1 (a b c:V):attrV (.tok a b c) 1=some b:=rfl
theorem attr2 (a b c:V):attrV (.tok a b c) 2=some c:=rfl
section
variable {C:Calls} {loc:L} {h h1 h2 h3:H} {f:Nat} {a b c:ME} {x y z:V}
theorem I3 (e1:mev C a loc h=.ok x h1):mev C (.call f (.cons a .nil)) loc h=C f [x] h1:=by
  rw [e9,b6,e1,a7,b9,a7,a7]
theorem F7 (e1:mev C a loc h=.ok x h1) (e2:mev C b loc h1=.ok y h2):mev C (.call f (.cons a (.cons b .nil))) loc h=C f [x,y] h2:=by
  rw [e9,b6,e1,a7,b6,e2,a7,b9,a7,a7,a7]
theorem s8 (e1:mev C a loc h=.ok x h1) (e2:mev C b loc h1=.ok y h2) (e3:mev C c loc h2=.ok z h3):mev C (.call f (.cons a (.cons b (.cons c .nil)))) loc h=C f [x,y,z] h3:=by
  rw [e9,b6,e1,a7,b6,e2,a7,b6,e3,a7,b9,a7,a7,a7,a7]
end
theorem x9 {a n:Nat} (h:a < n):∃ m,n=m+1:=by
  cases n with
  | zero=>cases h
  | succ m=>exact ⟨m,rfl⟩
theorem fuel {s p q n:Nat} (h:s - p < n+1) (hp:p < s) (hq:p < q):s - q < n:=Nat.lt_of_lt_of_le (Nat.sub_lt_sub_left hp hq) (Nat.le_of_lt_succ h)
theorem J7 {a b:List Nat} {n k:Nat} (h:(a++b).length+n≤k):a.length+b.length≤k:=by
  rw [List.length_append] at h; exact Nat.le_trans (Nat.le_add_right _ _) h
theorem aq2 (h:H):noneR .none h=.ok (.bool true) h:=rfl
theorem bg9 (l:List V) (h:H):noneR (.tup l) h=.ok (.bool false) h:=rfl
theorem C5 (h:H):someR .none h=.ok (.bool false) h:=rfl
theorem aA0 (l:List V) (h:H):someR (.tup l) h=.ok (.bool true) h:=rfl
theorem C6 (p:P2) (l:List Nat):recv2 p (.str l)=match p with | .append=>false | _=>true:=by cases p <;> rfl
theorem k8 (n:Nat):recv2 .append (.ref n)=true:=rfl
theorem bh2 (l:List Nat):isStrV (.str l)=true:=rfl
theorem List.nil_beq_nil':(([]:List Nat)==[])=true:=rfl
theorem List.nil_beq_cons' (a:Nat) (l:List Nat):([]==a::l)=false:=rfl
theorem List.cons_beq_nil' (a:Nat) (l:List Nat):(a::l==[])=false:=rfl
theorem i9 {T:Nat→Option FD} {N k f:Nat} {args:List V} {h h':H} {d:FD} {v:V} {X:R V} (hd:T f=some d) (hn:args.length=d.np)
    (e:mex (sem T N k) N d.body (args.map some++List.replicate (d.nv - d.np) none) h=.ok (.ret v) h') (b:back h v h'=X):sem T N (k+1) f args h=X:=by
  rw [t9 hd hn,e]; exact b
theorem F3 {T:Nat→Option FD} {N k f:Nat} {args:List V} {h h':H} {d:FD} {loc':L} {X:R V} (hd:T f=some d) (hn:args.length=d.np)
    (e:mex (sem T N k) N d.body (args.map some++List.replicate (d.nv - d.np) none) h=.ok (.next loc') h') (b:back h .none h'=X):sem T N (k+1) f args h=X:=by
  rw [t9 hd hn,e]; exact b
theorem J2 {T:Nat→Option FD} {N k f:Nat} {args:List V} {h h':H} {d:FD} {w:List Nat} {l:Int} {X:R V} (hd:T f=some d) (hn:args.length=d.np)
    (e:mex (sem T N k) N d.body (args.map some++List.replicate (d.nv - d.np) none) h=.pf w l h') (b:backPf h w l h'=X):sem T N (k+1) f args h=X:=by
  rw [t9 hd hn,e]; exact b
end Mine
end
section
namespace Mine
open P1
section
variable {N k p:Nat} {t r:List Nat} {h:H}
theorem i7:sem tab N (k+1) 17 [.str t,.int p] h=.ok (.str ((t.drop p).take 1)) h :=
  i9 (d:=f_sign_at) rfl rfl (by simp only [f_sign_at,List.map_cons,List.map_nil,List.cons_append,List.nil_append,Nat.reduceSub,List.replicate,h8,n6,f7,b8,j6,s7,List.getElem?_cons_zero,List.getElem?_cons_succ,a9,a7,f8,b5,nat1,m6,g9,Nat.add_sub_cancel_left] <;> rfl) (f9 rfl)
theorem A4 (ht:t.length < big):sem tab N (k+1) 18 [.str t] h=.ok (.int (t.count 10:Nat)) h:=by
  have e1:p2V .split (.str t) (.str [10]) h=.ok (.lst ((splitC 10 t []).map .str)) h :=
    U4 (q:=(.lst ((splitC 10 t []).map .str),h)) (congrArg (Option.map fun v=>(v,h)) (if_pos ht))
  have e2:p1V .len (.lst ((splitC 10 t []).map V.str)) h=.ok (.int (t.count 10+1:Nat)) h:=by
    show R.ok (V.int ((splitC 10 t []).map V.str).length) h=_; rw [List.length_map,J1]
  refine i9 (d:=f_rows_in) (v:=.int ((t.count 10+1:Nat) - 1)) rfl rfl (by simp only [f_rows_in,List.map_cons,List.map_nil,List.cons_append,List.nil_append,Nat.reduceSub,List.replicate,h8,n6,f7,f5,b8,j6,e_p1,e_p2,List.getElem?_cons_zero,a9,a7,H9,b5,g9,if_true,C6,e1,e2]) ((f9 rfl).trans ?_)
  rw [show ((t.count 10+1:Nat):Int) - 1=(t.count 10:Nat) by omega]
noncomputable def sgn:List Nat:=[36,118,125,44,59,41,46,69,79,84,65,95,120,233,49,122,32,34,39,13,10]
noncomputable def inR (a b c:Nat):Bool:=decide (a≤c)&&decide (c≤b)
noncomputable def isNs (c:Nat):Bool:=[c]==[95] || (inR 97 122 c || (inR 65 90 c || decide ((128:Int)≤(c:Int))))
noncomputable def isNg (c:Nat):Bool:=isNs c || inR 48 57 c
theorem ae5 {C:Calls} {loc:L} {a b:ME} {x y:Bool} (e1:mev C a loc h=.ok (.bool x) h) (e2:mev C b loc h=.ok (.bool y) h):mev C (.or a b) loc h=.ok (.bool (x || y)) h:=by
  rw [e_or,e1,a7,A7,e2,a7,g8]
  cases x <;> rfl
theorem aJ8 (h:H) (a b:Nat):cmpV .le h (.str [a]) (.str [b])=some (decide (a≤b)):=by
  show some (!decide ([b] < [a]))=_
  congr 1
  rw [Bool.eq_iff_iff]
  simp [List.cons_lt_cons_iff]
theorem ar4 {C:Calls} {a b c:Nat}:mev C (.cmp2 .le .le (.str [a]) (.var 0) (.str [b])) [some (.str [c])] h=.ok (.bool (inR a b c)) h:=by
  rw [af7,f5,a7,b8,List.getElem?_cons_zero,a9,a7,aJ8,J5,f5,a7,aJ8]
  unfold inR
  cases decide (a≤c) <;> rfl
theorem N9 {c:Nat} (hc:c∈sgn):sem tab N (k+1) 2 [.str [c]] h=.ok (.bool (isNs c)) h:=by
  have e:mev (sem tab N k) (.or (.cmp .eq (.var 0) (.str [95])) (.or (.cmp2 .le .le (.str [97]) (.var 0) (.str [122])) (.or (.cmp2 .le .le (.str [65]) (.var 0) (.str [90])) (.cmp .ge (.p1 .ord (.var 0)) (.int 128))))) [some (.str [c])] h=.ok (.bool (isNs c)) h :=
    ae5 rfl (ae5 ar4 (ae5 ar4 rfl))
  exact i9 (d:=f_is_name_start) rfl rfl (nxr ((congrArg (andR (.bool true) h) e).trans rfl)) (f9 rfl)
theorem aQ7:sem tab N (k+1) 2 [.str []] h=.ok (.bool false) h:=by
  rw [t9 (d:=f_is_name_start) rfl rfl]; exact N2 rfl
theorem ad2 {c:Nat} (hc:c∈sgn):sem tab N (k+2) 3 [.str [c]] h=.ok (.bool (isNg c)) h :=
  i9 (d:=f_is_name_sign) rfl rfl (nxr (ae5 ((I3 rfl).trans (N9 hc)) ar4)) (f9 rfl)
theorem aQ8:sem tab N (k+2) 3 [.str []] h=.ok (.bool false) h :=
  i9 (d:=f_is_name_sign) rfl rfl (by simp only [f_is_name_sign,af7,List.map_cons,List.map_nil,List.cons_append,List.nil_append,Nat.reduceSub,List.replicate,h8,n6,f5,b8,e_or,e9,b9,b6,List.getElem?_cons_zero,a9,a7,A7,Bool.false_eq_true,if_false,aQ7] <;> rfl) (f9 rfl)
noncomputable def dig (c:Nat):Int:=if c=52 then 4 else if c=49 then 1 else if c=69 then 14 else if c=57 then 9 else 99
theorem I0 {c:Nat} (hc:c∈[34,120,117,52,49,69,57,125,44,59,41,46,60]):sem tab N (k+1) 9 [.str [c]] h=.ok (.int (dig c)) h:=by
  rw [t9 (d:=f_digit_of) rfl rfl]
  simp only [List.mem_cons,List.not_mem_nil,or_false] at hc
  rcases hc with rfl | rfl | rfl | rfl | rfl | rfl | rfl | rfl | rfl | rfl | rfl | rfl | rfl <;> exact N2 rfl
theorem aG1:sem tab N (k+1) 9 [.str []] h=.ok (.int 99) h:=by
  rw [t9 (d:=f_digit_of) rfl rfl]; exact N2 rfl
theorem O8 {c:Nat} (hr:t.drop p=c::r):decide ((p:Int) < (t.length:Int))=true:=by
  have:=(i6 hr).2.1; rw [decide_eq_true_eq]; omega
theorem aw7 (hr:t.drop p=[]):decide ((p:Int) < (t.length:Int))=false:=by
  have:=aC2 hr; rw [decide_eq_false_iff_not]; omega
noncomputable def stopB (f:Nat→Bool):List Nat→Bool | []=>true | c::_=>sgn.contains c&&!f c
theorem ab6:∀ (w:List Nat) (n p:Nat),t.drop p=w++r→w.length < n→(∀ c∈w,c∈sgn∧isNg c=true)→stopB isNg r=true →
    wloop (mev (sem tab N (k+2)) (.and (.cmp .lt (.var 1) (.p1 .len (.var 0))) (.call 3 (.cons (.idx (.var 0) (.var 1)) .nil)))) (mex (sem tab N (k+2)) N (.seq (.aug 1 .add (.int 1)) .skip)) n [some (.str t),some (.int p)] h =
      .ok (.next [some (.str t),some (.int (p+w.length:Nat))]) h
  | [],n+1,p,hr,hn,hw,hs=>by
    rw [z7 (h':=h)]
    · rfl
    · cases r with
      | nil=>simp only [b8,e8,m8,n9,e9,e_p1,b9,b6,List.getElem?_cons_zero,List.getElem?_cons_succ,a9,a7,b5,t7,Option.map_some,i4,t0,Bool.false_eq_true,if_false,aw7 hr]
      | cons c r =>
        have hs:sgn.contains c=true∧(!isNg c)=true:=Bool.and_eq_true_iff.mp hs
        have b:isNg c=false:=by simpa using hs.2
        simp only [b8,e8,m8,n9,e9,e_p1,b9,b6,List.getElem?_cons_zero,List.getElem?_cons_succ,a9,a7,b5,t7,Option.map_some,i4,g8,t0,ite_self,O8 hr,o7 h (i6 hr).1,ad2 (List.contains_iff_mem.mp hs.1),b]
  | c::w,n+1,p,hr,hn,hw,hs=>by
    obtain ⟨b1,b2⟩:=hw c (.head _)
    rw [y8 (h':=h) (h'':=h) (loc':=[some (.str t),some (.int (p+1:Nat))]) (by simp only [b8,e8,m8,n9,e9,e_p1,b9,b6,List.getElem?_cons_zero,List.getElem?_cons_succ,a9,a7,b5,t7,Option.map_some,i4,g8,t0,if_true,O8 hr,o7 h (i6 hr).1,ad2 b1,b2]) (by simp only [h8,j7,C4,f7,b8,List.getElem?_cons_zero,List.getElem?_cons_succ,List.set_cons_zero,List.set_cons_succ,a9,a7,w8,nat1,f0]),ab6 w n (p+1) (g6 hr) (Nat.lt_of_succ_lt_succ hn) (fun d hd=>hw d (.tail _ hd)) hs]
    simp only [List.length_cons,Nat.add_right_comm,Nat.add_assoc]
theorem D5 {w:List Nat} (hr:t.drop p=w++r) (hw:∀ c∈w,c∈sgn∧isNg c=true) (hs:stopB isNg r=true) (hn:w.length < N):sem tab N (k+3) 4 [.str t,.int p] h=.ok (.int (p+w.length:Nat)) h :=
  i9 (d:=f_read_name) rfl rfl (by simp only [f_read_name,at8,List.map_cons,List.map_nil,List.cons_append,List.nil_append,Nat.reduceSub,List.replicate,h8,n6,b8,List.getElem?_cons_zero,List.getElem?_cons_succ,a9,a7,f0,g9,ab6 w N p hr hn hw hs]) (f9 rfl)
theorem aq6 {a b:List Nat} (hr:t.drop p=a++b) (hN:t.length < N):a.length < N:=by
  have e:=congrArg List.length hr
  rw [List.length_drop,List.length_append] at e
  exact Nat.lt_of_le_of_lt (Nat.le_trans (e▸Nat.le_add_right _ _) (Nat.sub_le _ _)) hN
noncomputable def isB (c:Nat):Bool:=c==32 || c==9
theorem in_b (h:H) (c:Nat):cmpV .isin h (.str [c]) (.tup [.str [32],.str [9]])=some (isB c):=by
  show some ([[32],[9]].any (·==[c]))=_
  congr 1
  simp only [List.any_cons,List.any_nil,Bool.or_false,E9,isB]
  rw [Bool.beq_comm (a:=32),Bool.beq_comm (a:=9)]
noncomputable def stopG (f:Nat→Bool):List Nat→Bool | []=>true | c::_=>!f c
theorem Y6 {C:Calls}:∀ (w:List Nat) (n p:Nat),t.drop p=w++r→w.length < n→w.all isB=true→stopG isB r=true →
    wloop (mev C (.and (.cmp .lt (.var 1) (.p1 .len (.var 0))) (.cmp .isin (.idx (.var 0) (.var 1)) (.tup (.cons (.str [32]) (.cons (.str [9]) .nil)))))) (mex C N (.seq (.aug 1 .add (.int 1)) .skip)) n [some (.str t),some (.int p)] h =
      .ok (.next [some (.str t),some (.int (p+w.length:Nat))]) h
  | [],n+1,p,hr,hn,hw,hs=>by
    rw [z7 (h':=h)]
    · rfl
    · cases r with
      | nil=>simp only [f5,b8,e8,m8,n9,e_p1,l9,b9,b6,List.getElem?_cons_zero,List.getElem?_cons_succ,a9,a7,b5,t7,Option.map_some,i4,t0,Bool.false_eq_true,if_false,aw7 hr]
      | cons c r =>
        have b:isB c=false:=by simpa [stopG] using hs
        simp only [f5,b8,e8,m8,n9,e_p1,l9,b9,b6,List.getElem?_cons_zero,List.getElem?_cons_succ,a9,a7,b5,t7,Option.map_some,i4,g8,t0,ite_self,O8 hr,o7 h (i6 hr).1,in_b,b]
  | c::w,n+1,p,hr,hn,hw,hs=>by
    obtain ⟨b1,b2⟩:isB c=true∧w.all isB=true:=Bool.and_eq_true_iff.mp hw
    rw [y8 (h':=h) (h'':=h) (loc':=[some (.str t),some (.int (p+1:Nat))]) (by simp only [f5,b8,e8,m8,n9,e_p1,l9,b9,b6,List.getElem?_cons_zero,List.getElem?_cons_succ,a9,a7,b5,t7,Option.map_some,i4,g8,t0,if_true,O8 hr,o7 h (i6 hr).1,in_b,b1]) (by simp only [h8,j7,C4,f7,b8,List.getElem?_cons_zero,List.getElem?_cons_succ,List.set_cons_zero,List.set_cons_succ,a9,a7,w8,nat1,f0]),Y6 w n (p+1) (g6 hr) (Nat.lt_of_succ_lt_succ hn) b2 hs]
    simp only [List.length_cons,Nat.add_right_comm,Nat.add_assoc]
theorem T5 {w:List Nat} (hr:t.drop p=w++r) (hw:w.all isB=true) (hs:stopG isB r=true) (hn:w.length < N):sem tab N (k+1) 7 [.str t,.int p] h=.ok (.int (p+w.length:Nat)) h :=
  i9 (d:=f_blanks_behind) rfl rfl (by simp only [f_blanks_behind,at8,List.map_cons,List.map_nil,List.cons_append,List.nil_append,Nat.reduceSub,List.replicate,h8,n6,b8,List.getElem?_cons_zero,List.getElem?_cons_succ,a9,a7,f0,g9,Y6 w N p hr hn hw hs]) (f9 rfl)
noncomputable def nlN (r:List Nat):Nat:=if (r.take 2==[13,10])=true then 2 else if (r.take 1==[10])=true then 1 else 0
theorem B6:sem tab N (k+2) 33 [.str t,.int p] h=.ok (.int (p+nlN (t.drop p):Nat)) h:=by
  refine i9 (d:=f_newline_behind) rfl rfl ?_ (f9 rfl)
  unfold nlN
  cases b:(t.drop p).take 2==[13,10] with
  | true=>simp only [f_newline_behind,List.map_cons,List.map_nil,List.cons_append,List.nil_append,Nat.reduceSub,List.replicate,h8,q7,n6,j7,f7,f5,b8,j6,e8,s7,List.getElem?_cons_zero,List.getElem?_cons_succ,a9,a7,f8,b5,nat2,m6,i8,Option.map_some,d0,f6,g9,Nat.add_sub_cancel_left,if_true,b]
  | false =>
    cases b1:(t.drop p).take 1==[10] <;> simp only [f_newline_behind,List.map_cons,List.map_nil,List.cons_append,List.nil_append,Nat.reduceSub,List.replicate,h8,q7,n6,j7,f7,f5,b8,j6,e8,y9,s7,e9,b9,b6,List.getElem?_cons_zero,List.getElem?_cons_succ,a9,a7,f8,b5,nat1,nat2,m6,i8,Option.map_some,d0,f6,f0,g9,Nat.add_sub_cancel_left,Bool.false_eq_true,if_false,if_true,i7,b,b1,Nat.add_zero]
end
end Mine
end
section
namespace Mine
open P1
section
variable {N k p:Nat} {t r:List Nat} {h:H} {l:Int}
noncomputable def opsL:List (List Nat):=[[61,61,61],[33,61,61],[60,61,62],[42,42,61],[60,60,61],[62,62,61],[63,63,61],[63,45,62],[46,46,46],[61,61],[33,61],[60,62],[60,61],[62,61],[38,38],[124,124],[63,63],[43,43],[45,45],[43,61],[45,61],[42,61],[47,61],[46,61],[37,61],[38,61],[124,61],[94,61],[61,62],[45,62],[58,58],[60,60],[62,62],[42,42],[59],[44],[40],[41],[91],[93],[123],[125],[61],[60],[62],[43],[45],[42],[47],[37],[46],[33],[126],[38],[124],[94],[63],[58],[64],[36]]
theorem I9:sem tab N (k+1) 5 [] h=.ok (.tup (opsL.map .str)) h:=by
  rw [t9 (d:=f_operators) rfl rfl]; exact N2 rfl
noncomputable def one (c:Nat) (r:List Nat):Bool:=opsL.any (·==[c])&&(r.isEmpty || !opsL.any (·==(c::r).take 3)&&!opsL.any (·==(c::r).take 2))
theorem Q7 {c:Nat} (hr:t.drop p=c::r) (ho:one c r=true):sem tab N (k+2) 6 [.str t,.int p] h=.ok (.str [c]) h:=by
  have i1:items h (.tup [.int 3,.int 2,.int 1])=some [.int 3,.int 2,.int 1]:=rfl
  obtain ⟨q1,q2⟩:=Bool.and_eq_true_iff.mp ho
  have q1:opsL.any (·==[c])=true:=q1
  refine i9 (d:=f_operator_at) rfl rfl ?_ (f9 rfl)
  cases r with
  | nil=>simp only [f_operator_at,aX9,Q3,isRefV,N0,ay0,List.map_cons,List.map_nil,List.cons_append,List.nil_append,Nat.reduceSub,List.replicate,h8,q7,k4,n6,j7,f7,b8,j6,e8,s7,e9,l9,b9,b6,List.getElem?_cons_zero,List.getElem?_cons_succ,List.set_cons_zero,List.set_cons_succ,a9,a7,f8,b5,nat3,m6,Option.map_some,d0,f6,f0,g9,Nat.add_sub_cancel_left,Bool.false_eq_true,if_false,if_true,i1,hr,I9,aK2,List.take_succ_cons,List.take_nil,q1]
  | cons d r =>
    obtain ⟨b1,b2⟩:(!opsL.any (·==(c::d::r).take 3))=true∧(!opsL.any (·==(c::d::r).take 2))=true:=Bool.and_eq_true_iff.mp q2
    have b1:opsL.any (·==(c::d::r).take 3)=false:=by simpa using b1
    have b2:opsL.any (·==(c::d::r).take 2)=false:=by simpa using b2
    have b3:opsL.any (·==(c::d::r).take 1)=true:=q1
    simp only [f_operator_at,aX9,Q3,isRefV,N0,aM0,ay0,List.map_cons,List.map_nil,List.cons_append,List.nil_append,Nat.reduceSub,List.replicate,h8,q7,k4,n6,j7,f7,b8,j6,e8,s7,e9,l9,b9,b6,List.getElem?_cons_zero,List.getElem?_cons_succ,List.set_cons_zero,List.set_cons_succ,a9,a7,f8,b5,nat1,nat2,nat3,m6,Option.map_some,d0,f6,f0,g9,Nat.add_sub_cancel_left,Bool.false_eq_true,if_false,if_true,i1,hr,I9,aK2,b1,b2,b3]
    rfl
noncomputable def opS:List Nat:=[125,44,59,41,46]
theorem H1 {P:Nat→Prop} (h:∀ c∈opS,P c) {c:Nat} (hc:c∈opS):P c:=h c hc
theorem K9 {c:Nat} (hr:t.drop p=c::r) (hc:c∈opS) (ho:one c r=true):sem tab N (k+3) 45 [.str t,.int p,.int l] h=.ok (.tup [.tok (.str [111,112]) (.str [c]) (.int l),.int (p+1:Nat)]) h:=by
  have i1:∀ p,cmpV .isin h (.str p) (.tup [.str [96],.str [92]])=some ([[96],[92]].any (·==p)):=fun p=>rfl
  have b1:([[96],[92]].any (·==[c]))=false:=H1 (P:=fun c=>([[96],[92]].any (·==[c]))=false) (by decide) hc
  have b2:([c]==[40])=false:=H1 (P:=fun c=>([c]==[40])=false) (by decide) hc
  have b3:([c]==[])=false:=rfl
  have b4:([c]==[60,62])=false:=H1 (P:=fun c=>([c]==[60,62])=false) (by decide) hc
  have e1:=fun h=>Q7 (N:=N) (k:=k) (h:=h) hr ho
  have n1:([c].length:Int)=1:=rfl
  exact i9 (d:=f_read_operator) rfl rfl (by simp only [f_read_operator,List.map_cons,List.map_nil,List.cons_append,List.nil_append,Nat.reduceSub,List.replicate,h8,q7,k4,n6,j7,f7,f5,b8,j6,e8,y9,n9,e9,e_mk,e_p1,l9,b9,b6,List.getElem?_cons_zero,List.getElem?_cons_succ,List.set_cons_zero,List.set_cons_succ,a9,a7,f8,b5,nat1,i8,Option.map_some,d0,f6,f0,g9,t0,Bool.false_eq_true,if_false,V4,o7 h (i6 hr).1,i1,b1,b2,b3,b4,e1,n1]) (f9 rfl)
theorem Z1 (b:((t.drop p).take 3==[60,60,60])=false):sem tab N (k+1) 34 [.str t,.int p] h=.ok .none h :=
  i9 (d:=f_heredoc_head) rfl rfl (by simp only [f_heredoc_head,List.map_cons,List.map_nil,List.cons_append,List.nil_append,Nat.reduceSub,List.replicate,h8,q7,n6,j7,z0,f7,f5,b8,j6,e8,s7,List.getElem?_cons_zero,List.getElem?_cons_succ,a9,a7,f8,b5,nat3,m6,u6,Option.map_some,d0,f6,g9,Nat.add_sub_cancel_left,if_true,Bool.not_false,b]) (f9 rfl)
theorem I8 {c:Nat} (hr:t.drop p=c::r) (hc:c∈36::opS):sem tab N (k+2) 44 [.str t,.int p,.int l] h=.ok .none h:=by
  have i1:∀ p,cmpV .isin h (.str p) (.tup [.str [98],.str [66]])=some ([[98],[66]].any (·==p)):=fun p=>rfl
  have al:∀ {P:Nat→Prop},(∀ c∈36::opS,P c)→P c:=fun h=>h c hc
  have b1:([[98],[66]].any (·==[c]))=false:=al (P:=fun c=>([[98],[66]].any (·==[c]))=false) (by decide)
  have b2:([c]==[39])=false:=al (P:=fun c=>([c]==[39])=false) (by decide)
  have b3:([c]==[34])=false:=al (P:=fun c=>([c]==[34])=false) (by decide)
  have b4:(c==60)=false:=al (P:=fun c=>(c==60)=false) (by decide)
  have e1:=fun h=>Z1 (N:=N) (k:=k) (h:=h) (t:=t) (p:=p) (by rw [hr,List.take_succ_cons,List.cons_beq_cons,b4]; rfl)
  exact i9 (d:=f_read_text) rfl rfl (by simp only [f_read_text,List.map_cons,List.map_nil,List.cons_append,List.nil_append,Nat.reduceSub,List.replicate,h8,q7,k4,n6,j7,C4,m9,z0,f7,f5,b8,as1,j6,e8,m8,y9,n9,e9,l9,X9,b9,b6,List.getElem?_cons_zero,List.getElem?_cons_succ,List.set_cons_zero,List.set_cons_succ,a9,a7,f8,w8,b5,nat1,i8,Option.map_some,d0,f6,i4,f0,g9,Bool.false_eq_true,if_false,if_true,aq2,o7 h (i6 hr).1,i1,b1,b2,b3,e1]) (f9 rfl)
theorem K8 {c:Nat} (hr:t.drop p=c::r) (hc:c∈opS) (ho:one c r=true) (hd:c=46→r.head?.all (·==60)=true):sem tab N (k+4) 46 [.str t,.int p,.int l] h=.ok (.tup [.tok (.str [111,112]) (.str [c]) (.int l),.int (p+1:Nat)]) h:=by
  have e1:=fun h=>I8 (N:=N) (k:=k+1) (h:=h) (l:=l) hr (List.mem_cons_of_mem _ hc)
  have e2:=fun h=>N9 (N:=N) (k:=k+2) (h:=h) (c:=c) (H1 (P:=(·∈sgn)) (by decide) hc)
  have b0:isNs c=false:=H1 (P:=fun c=>isNs c=false) (by decide) hc
  have b1:([c]==[36])=false:=H1 (P:=fun c=>([c]==[36])=false) (by decide) hc
  have e3:=fun h=>I0 (N:=N) (k:=k+2) (h:=h) (c:=c) (H1 (P:=(·∈_)) (by decide) hc)
  have b2:decide (dig c < 10)=false:=H1 (P:=fun c=>decide (dig c < 10)=false) (by decide) hc
  have e4:=fun h=>K9 (N:=N) (k:=k) (h:=h) (l:=l) hr hc ho
  have tst:∀ h,mev (sem tab N (k+3)) (.and (.cmp .eq (.var 3) (.str [46])) (.cmp .lt (.call 9 (.cons (.call 17 (.cons (.var 0) (.cons (.bin .add (.var 1) (.int 1)) .nil))) .nil)) (.int 10))) [some (.str t),some (.int p),some (.int l),some (.str [c]),some .none,none,none] h=.ok (.bool false) h:=fun h=>by
    cases b3:([c]==[46]) with
    | false=>simp only [f7,f5,b8,j6,e8,m8,e9,b9,b6,List.getElem?_cons_zero,List.getElem?_cons_succ,a9,a7,f8,b5,nat1,i8,Option.map_some,i4,Bool.false_eq_true,if_false,b3]
    | true =>
      have d1:=hd (by simpa using b3)
      have d2:t.drop (p+1)=r:=g6 hr
      cases r with
      | nil=>simp only [f7,f5,b8,j6,e8,m8,e9,b9,b6,List.getElem?_cons_zero,List.getElem?_cons_succ,a9,a7,f8,b5,nat1,i8,t7,Option.map_some,i4,g8,if_true,b3,i7,d2,List.take_nil,aG1]; rfl
      | cons a r =>
        have:a=60:=by simpa using d1
        subst this
        simp only [f7,f5,b8,j6,e8,m8,e9,b9,b6,List.getElem?_cons_zero,List.getElem?_cons_succ,a9,a7,f8,b5,nat1,i8,t7,Option.map_some,i4,g8,if_true,b3,i7,d2,List.take_succ_cons,List.take_zero,I0 (c:=60) (by decide)]; rfl
  refine i9 (d:=f_read_token) rfl rfl ?_ (f9 rfl)
  simp only [List.map_cons,List.map_nil,List.cons_append,List.nil_append,Nat.reduceSub,List.replicate,h8,k4,f7,f5,b8,j6,e8,m8,n9,e9,b9,b6,List.getElem?_cons_zero,List.getElem?_cons_succ,List.set_cons_zero,List.set_cons_succ,a9,a7,f8,b5,nat1,i8,Option.map_some,i4,f_read_token] at tst ⊢
  simp only [h8,q7,k4,n6,j7,m9,f7,f5,b8,j6,e8,m8,e_or,e9,C3,b9,b6,List.getElem?_cons_zero,List.getElem?_cons_succ,List.set_cons_zero,List.set_cons_succ,a9,a7,f8,b5,nat1,i8,t7,Option.map_some,d0,f6,i4,A7,g8,f0,g9,Bool.false_eq_true,if_false,C5,o7 h (i6 hr).1,e1,e2,b0,b1,e3,b2,e4,tst]
theorem ai7 (hr:t.drop p=36::118::r) (hs:stopB isNg r=true) (hN:2≤N):sem tab N (k+5) 46 [.str t,.int p,.int l] h=.ok (.tup [.tok (.str [118,97,114]) (.str [118]) (.int l),.int (p+2:Nat)]) h:=by
  have e1:=fun h=>I8 (N:=N) (k:=k+2) (h:=h) (l:=l) hr (by decide)
  have e2:=fun h=>N9 (N:=N) (k:=k+3) (h:=h) (c:=36) (by decide)
  have e3:=fun h=>N9 (N:=N) (k:=k+3) (h:=h) (c:=118) (by decide)
  have b2:isNs 36=false:=rfl
  have b3:isNs 118=true:=rfl
  have d1:t.drop (p+1)=118::r:=g6 hr
  have e4:=fun h=>D5 (N:=N) (k:=k+1) (h:=h) (w:=[118]) (r:=r) d1 (by decide) hs hN
  have n1:p+1 + [118].length - (p+1)=1:=by simp
  exact i9 (d:=f_read_token) rfl rfl (by simp only [f_read_token,List.map_cons,List.map_nil,List.cons_append,List.nil_append,Nat.reduceSub,List.replicate,h8,q7,k4,n6,j7,f7,f5,b8,j6,e8,m8,n9,s7,e9,e_mk,l9,C3,b9,b6,List.getElem?_cons_zero,List.getElem?_cons_succ,List.set_cons_zero,List.set_cons_succ,a9,a7,f8,b5,nat1,m6,i8,Option.map_some,d0,f6,i4,g8,f0,g9,Bool.false_eq_true,if_false,if_true,V4,C5,o7 h (i6 hr).1,e1,e2,e3,b2,b3,i7,d1,List.take_succ_cons,List.take_zero,e4,n1,beq_self_eq_true] <;> rfl) (f9 rfl)
end
end Mine
end
section
namespace Mine
open P1
section
variable {N k p:Nat} {t r:List Nat} {h:H} {l:Int}
noncomputable def isBl (c:Nat):Bool:=c==32 || (c==9 || (c==10 || c==13))
theorem aK3 (h:H) (c:Nat):cmpV .isin h (.str [c]) (.tup [.str [32],.str [9],.str [10],.str [13]])=some (isBl c):=by
  show some ([[32],[9],[10],[13]].any (·==[c]))=_
  congr 1
  simp only [List.any_cons,List.any_nil,Bool.or_false,E9,isBl]
  rw [Bool.beq_comm (a:=32),Bool.beq_comm (a:=9),Bool.beq_comm (a:=10),Bool.beq_comm (a:=13)]
theorem X3 {c:Nat} {f:V} (hb:isBl c=false):∀ (w:List Nat) (n p:Nat),t.drop p=w++c::r→w.length < n→w.all isBl=true →
    wloop (mev (sem tab N (k+1)) t_39) (mex (sem tab N (k+1)) N b_39) n [some (.str t),some (.int p),some (.int l),some f,none,none] h =
      .ok (.next [some (.str t),some (.int (p+w.length:Nat)),some (.int l),some f,none,none]) h
  | [],n+1,p,hr,hn,hw=>by
    have hr:t.drop p=c::r:=hr
    rw [z7 (h':=h)]
    · rfl
    · simp only [t_39,f5,b8,e8,e9,l9,b9,b6,List.getElem?_cons_zero,List.getElem?_cons_succ,a9,a7,b5,Option.map_some,i7,hr,List.take_succ_cons,List.take_zero,aK3,hb]
  | d::w,n+1,p,hr,hn,hw=>by
    obtain ⟨b1,b2⟩:isBl d=true∧w.all isBl=true:=Bool.and_eq_true_iff.mp hw
    have hr:t.drop p=d::(w++c::r):=hr
    rw [y8 (h':=h) (h'':=h) (loc':=[some (.str t),some (.int (p+1:Nat)),some (.int l),some f,none,none]) (by simp only [t_39,f5,b8,e8,e9,l9,b9,b6,List.getElem?_cons_zero,List.getElem?_cons_succ,a9,a7,b5,Option.map_some,i7,hr,List.take_succ_cons,List.take_zero,aK3,b1]) (by simp only [b_39,h8,j7,C4,f7,b8,List.getElem?_cons_zero,List.getElem?_cons_succ,List.set_cons_zero,List.set_cons_succ,a9,a7,w8,nat1,f0]),X3 hb w n (p+1) (g6 hr) (Nat.lt_of_succ_lt_succ hn) b2]
    simp only [List.length_cons,Nat.add_right_comm,Nat.add_assoc]
theorem y0 {w s:List Nat} (hr:t.drop p=w++s):t.drop (p+w.length)=s:=by
  rw [← List.drop_drop,hr,List.drop_left]
theorem au6 {c:Nat} {w:List Nat} (hr:t.drop p=w++c::r) (hw:w.all isBl=true) (hb:isBl c=false) (h1:(c==35)=false) (h2:(c==47)=false) (hn:w.length < N):sem tab N (k+2) 39 [.str t,.int p,.int l] h=.ok (.int (p+w.length:Nat)) h:=by
  have lp:=X3 (N:=N) (k:=k) (h:=h) (l:=l) (f:=.int p) hb w N p hr hn hw
  refine i9 (d:=f_pass_gap) rfl rfl ((i5 (r9 rfl)).trans ((L8 lp).trans ?_)) (f9 rfl)
  refine (nxa (.str (c::r.take 1)) (by simp only [f7,b8,j6,s7,List.getElem?_cons_zero,List.getElem?_cons_succ,a9,a7,f8,b5,nat2,m6,Nat.add_sub_cancel_left,y0 hr,List.take_succ_cons])).trans ?_
  refine (nxf (by simp only [f5,b8,e8,List.getElem?_cons_zero,List.getElem?_cons_succ,List.set_cons_zero,List.set_cons_succ,a9,a7,b5,i8,Option.map_some,List.cons_beq_cons,h1,Bool.false_and])).trans ?_
  refine (nxf (by simp only [z0,f7,f5,b8,e8,e_or,s7,List.getElem?_cons_zero,List.getElem?_cons_succ,List.set_cons_zero,List.set_cons_succ,a9,a7,b5,i8,Option.map_some,A7,g8,Bool.false_eq_true,if_false,List.take_succ_cons,List.take_zero,aa3,List.cons_beq_cons,h1,h2,Bool.false_and])).trans ?_
  refine (nxf (by simp only [f5,b8,e8,List.getElem?_cons_zero,List.getElem?_cons_succ,List.set_cons_zero,List.set_cons_succ,a9,a7,b5,i8,Option.map_some,List.cons_beq_cons,h2,Bool.false_and])).trans ?_
  simp only [h8,n6,b8,List.getElem?_cons_zero,List.getElem?_cons_succ,List.set_cons_zero,List.set_cons_succ,a9,a7,g9]
theorem L3 {c:Nat} (hr:t.drop p=c::r) (hb:isBl c=false) (h1:(c==35)=false) (h2:(c==47)=false) (hn:0 < N):sem tab N (k+2) 39 [.str t,.int p,.int l] h=.ok (.int p) h:=au6 (w:=[]) hr rfl hb h1 h2 hn
noncomputable def isNl (nl:List Nat):Bool:=nl==[10] || nl==[13,10]
theorem E4 {P:List Nat→Prop} (a:P [10]) (b:P [13,10]) {nl:List Nat} (h:isNl nl=true):P nl:=by
  rcases Bool.or_eq_true_iff.mp h with q | q
  · rw [beq_iff_eq.mp q]; exact a
  · rw [beq_iff_eq.mp q]; exact b
theorem ai8 {nl:List Nat} (hr:t.drop p=32::47::42::(nl++42::47::r)) (hnl:isNl nl=true) (hb:t.length < big) (hn:1 < N):sem tab N (k+2) 39 [.str t,.int p,.int l] h=.ok (.int (p+(5+nl.length):Nat)) h:=by
  have lp:=X3 (N:=N) (k:=k) (h:=h) (l:=l) (f:=.int p) (c:=47) (r:=42::(nl++42::47::r)) rfl [32] N p hr hn rfl
  have d1:t.drop (p + [32].length)=47::42::(nl++42::47::r):=g6 hr
  have d3:t.drop (p + [32].length+2)=nl++42::47::r:=g6 (g6 d1)
  have hl:p + [32].length+2≤t.length:=by
    have:=congrArg List.length hr
    simp at this ⊢; omega
  have ff:findFrom [42,47] (t.drop (p + [32].length+2)) 0=some nl.length:=by
    rw [d3]
    exact E4 (P:=fun nl=>findFrom [42,47] (nl++42::47::r) 0=some nl.length) rfl rfl hnl
  have fd:p3V .find (.str t) (.str [42,47]) (.int (p + [32].length+2:Nat)) h=.ok (.int (p + [32].length+2+nl.length:Nat)) h:=by
    rw [X4 hl hb (by decide),ff]
  have q1:decide (((p + [32].length+2+nl.length:Nat):Int) < 0)=false:=by rw [decide_eq_false_iff_not]; omega
  have q2:([47,42]==[35,91])=false:=rfl
  have q3:([47,42]==[47,47])=false:=rfl
  have q4:([47]==[35])=false:=rfl
  refine i9 (d:=f_pass_gap) (v:=.int (p + [32].length+2+nl.length+2:Nat)) rfl rfl ((i5 (r9 rfl)).trans ((L8 lp).trans ?_)) ((f9 rfl).trans ?_)
  · refine (nxa (.str [47,42]) (by simp only [f7,b8,j6,s7,List.getElem?_cons_zero,List.getElem?_cons_succ,a9,a7,f8,b5,nat2,m6,Nat.add_sub_cancel_left,d1,List.take_succ_cons,List.take_zero])).trans ?_
    refine (nxf (by simp only [f5,b8,e8,List.getElem?_cons_zero,List.getElem?_cons_succ,List.set_cons_zero,List.set_cons_succ,a9,a7,b5,i8,Option.map_some,q2])).trans ((nxf (by simp only [z0,f7,f5,b8,e8,e_or,s7,List.getElem?_cons_zero,List.getElem?_cons_succ,List.set_cons_zero,List.set_cons_succ,a9,a7,b5,i8,Option.map_some,A7,g8,Bool.false_eq_true,if_false,aa3,List.take_succ_cons,List.take_zero,q3,q4])).trans ((nxt (by simp only [f5,b8,e8,List.getElem?_cons_zero,List.getElem?_cons_succ,List.set_cons_zero,List.set_cons_succ,a9,a7,b5,i8,Option.map_some,beq_self_eq_true])).trans ?_))
    refine (nxa (.int (p + [32].length+2+nl.length:Nat)) ((m_p3 rfl rfl rfl (by simp only [f7,b8,j6,List.getElem?_cons_zero,List.getElem?_cons_succ,List.set_cons_zero,List.set_cons_succ,a9,a7,f8,b5,nat2] <;> rfl)).trans fd)).trans (o8.trans ((nxf (by simp only [f7,b8,e8,List.getElem?_cons_zero,List.getElem?_cons_succ,List.set_cons_zero,List.set_cons_succ,a9,a7,b5,t7,Option.map_some,q1])).trans ?_))
    simp only [h8,n6,f7,b8,j6,List.getElem?_cons_zero,List.getElem?_cons_succ,List.set_cons_zero,List.set_cons_succ,a9,a7,f8,b5,nat2,g9]
  · rw [show p + [32].length+2+nl.length+2=p+(5+nl.length) by simp; omega]
noncomputable def varT (l:Int):V:=.tok (.str [118,97,114]) (.str [118]) (.int l)
noncomputable def endT (l:Int):V:=.tok (.str [101,110,100]) (.str []) (.int l)
noncomputable def lexL (t:List Nat) (p:Nat) (l:Int) (h:H) (a b:Option V):L:=[some (.str t),some (.int p),some (.int l),some (.ref h.length),some (.int 0),a,b]
theorem M6 {c:Nat} {x:List V} {a b:Option V} {C:Calls} (hr:t.drop p=c::r):mev C t_47 (lexL t p l h a b) (h++[x])=.ok (.bool true) (h++[x]):=by
  simp only [t_47,lexL,b8,e8,e_p1,List.getElem?_cons_zero,List.getElem?_cons_succ,a9,a7,b5,t7,Option.map_some,t0,O8 hr]
theorem ab8 {x:List V} {a b:Option V} {d n:Nat} (hr:t.drop p=125::d::r) (hx:x.length < big) (hn:0 < N) :
    wloop (mev (sem tab N (k+4)) t_47) (mex (sem tab N (k+4)) N b_47) (n+1) (lexL t p l h a b) (h++[x])=.ok (.ret (.tup [.ref h.length,.int (p+1:Nat),.int l])) (h++[x++[endT l]]):=by
  refine an5 (M6 hr) ?_
  have g:=fun h=>L3 (N:=N) (k:=k+2) (h:=h) (l:=l) hr rfl rfl rfl hn
  have tk:=fun h=>K8 (N:=N) (k:=k) (h:=h) (l:=l) hr (by decide) rfl (fun e=>by cases e)
  have q1:cmpV .isin (h++[x]) (.str [125]) (.tup [.str [123],.str [125]])=some true:=rfl
  have q2:([125]==[123])=false:=rfl
  have q3:decide ((0:Int) + -1 < 0)=true:=rfl
  have ap:=y7 h x (endT l) hx
  unfold endT at ap
  simp only [b_47,lexL,endT,negR,ofK,intOf,h8,q7,k4,n6,j7,A0,C4,m9,f7,f5,b8,j6,e8,m8,ac1,y9,s7,e9,e_mk,e_p2,l9,Y0,b9,b6,List.getElem?_cons_zero,List.getElem?_cons_succ,List.set_cons_zero,List.set_cons_succ,a9,a7,f8,w8,b5,nat2,m6,i8,r7,t7,Option.map_some,d0,f6,i4,g8,f0,g9,F1,Nat.add_sub_cancel_left,Bool.false_eq_true,if_false,if_true,V4,attr0,attr1,k8,g,tk,hr,List.take_succ_cons,List.take_zero,List.cons_beq_cons,Nat.reduceBEq,Bool.false_and,Bool.and_true,beq_self_eq_true,q1,q2,q3,k8,ap]
theorem aw9 {x:List V} {a b:Option V} (hr:t.drop p=36::118::r) (hs:stopB isNg r=true) (hx:x.length < big) (hn:2≤N) :
    mex (sem tab N (k+5)) N b_47 (lexL t p l h a b) (h++[x])=.ok (.next (lexL t (p+2) l h (some (.int (p+2:Nat))) (some (varT l)))) (h++[x++[varT l]]):=by
  have g:=fun h=>L3 (N:=N) (k:=k+3) (h:=h) (l:=l) hr rfl rfl rfl (by omega)
  have tk:=fun h=>ai7 (N:=N) (k:=k) (h:=h) (l:=l) hr hs hn
  have q2:([118,97,114]==[111,112])=false:=rfl
  have q3:decide ((0:Int) < 0)=false:=rfl
  have ap:=y7 h x (varT l) hx
  unfold varT at ap
  have ri:=fun h=>A4 (N:=N) (k:=k+4) (t:=[36,118]) (h:=h) (by rw [k7]; decide)
  have c0:l+((List.count 10 [36,118]:Nat):Int)=l:=Int.add_zero l
  simp only [b_47,lexL,varT,h8,q7,k4,j7,A0,C4,m9,f7,f5,b8,j6,e8,m8,ac1,y9,s7,e9,e_mk,e_p2,l9,Y0,b9,b6,List.getElem?_cons_zero,List.getElem?_cons_succ,List.set_cons_zero,List.set_cons_succ,a9,a7,f8,w8,b5,nat2,m6,i8,r7,t7,Option.map_some,d0,f6,i4,f0,F1,Nat.add_sub_cancel_left,Bool.false_eq_true,if_false,if_true,V4,attr0,attr1,k8,g,tk,hr,List.take_succ_cons,List.take_zero,List.cons_beq_cons,Nat.reduceBEq,Bool.and_false,Bool.and_true,beq_self_eq_true,q2,q3,k8,ap,ri,c0]
theorem aU0 {x:List V} {a b:Option V} {nl:List Nat} (hr:t.drop p=32::47::42::(nl++42::47::r)) (hnl:isNl nl=true) (hb:t.length < big) (hn:1 < N) :
    mex (sem tab N (k+4)) N b_47 (lexL t p l h a b) (h++[x])=.ok (.next (lexL t (p+(5+nl.length)) (l+1) h (some (.int (p+(5+nl.length):Nat))) b)) (h++[x]):=by
  have g:=fun h=>ai8 (N:=N) (k:=k+2) (h:=h) (l:=l) hr hnl hb hn
  have q1:(((p+(5+nl.length):Nat):Int)==(p:Int))=false:=by rw [beq_eq_false_iff_ne]; omega
  have ri:=fun h=>A4 (N:=N) (k:=k+3) (t:=(32::47::42::(nl++42::47::r)).take (5+nl.length)) (h:=h) (Nat.lt_of_le_of_lt (List.length_take_le _ _) (Nat.lt_of_le_of_lt (E4 (P:=fun nl=>5+nl.length≤7) (by decide) (by decide) hnl) (by rw [k7]; decide)))
  have c0:(List.count 10 ((32::47::42::(nl++42::47::r)).take (5+nl.length)):Nat)=1:=E4 (P:=fun nl=>(List.count 10 ((32::47::42::(nl++42::47::r)).take (5+nl.length)):Nat)=1) rfl rfl hnl
  have n1:((1:Nat):Int)=1:=rfl
  rw [c0] at ri
  simp only [b_47,lexL,h8,q7,k4,j7,C4,m9,f7,f5,b8,j6,e8,s7,e9,b9,b6,List.getElem?_cons_zero,List.getElem?_cons_succ,List.set_cons_zero,List.set_cons_succ,a9,a7,W1,f8,w8,b5,nat2,m6,i8,r7,Option.map_some,d0,f6,f0,Nat.add_sub_cancel_left,Bool.false_eq_true,if_false,g,hr,q1,ri,n1]
end
end Mine
end
section
namespace Mine
open P1
theorem af3 {h:H} {x y:List V} {k:Nat} (e:x.mapM (frz (h++[x]) h.length k)=some y):frz (h++[x]) h.length (k+1) (.ref h.length)=some (.lst y):=by
  have:frz (h++[x]) h.length (k+1) (.ref h.length)=if h.length < h.length then some (.ref h.length) else ((h++[x])[h.length]?).bind fun vs=>(vs.mapM (frz (h++[x]) h.length k)).map .lst:=rfl
  rw [this,if_neg (Nat.lt_irrefl _),Y4,Option.bind_some,e]; rfl
theorem M9 {H:H} {n k:Nat} {r w:V} {vs ys:List V} (e1:frz H n k r=some w) (e2:vs.mapM (frz H n k)=some ys):frz H n (k+1) (.tup (r::vs))=some (.tup (w::ys)):=by
  show ((r::vs).mapM (frz H n k)).map V.tup=_; rw [List.mapM_cons,e1,e2]; rfl
theorem aT6 {C:Calls} {loc:L} {h:H} {i f:Nat} {as:MEs} (e:getV loc i=some (.fn f)):mev C (.callv i as) loc h=(mevs C as loc h).bind fun vs h=>C f vs h:=by
  show ofK ((getV loc i).bind fnOf) _=_; rw [e]; rfl
section
variable {N k p:Nat} {t r:List Nat} {h:H} {l:Int}
theorem P6 {a b:Int} {vs:List V} (hv:vs.mapM (frz (h++[[varT a,endT b]]) h.length 8)=some vs):back h (.tup (.ref h.length::vs)) (h++[[varT a,endT b]])=.ok (.tup (.lst [varT a,endT b]::vs)) h :=
  I6 (M9 (af3 rfl) hv)
theorem aF9 {d:Nat} (hr:t.drop p=36::118::125::d::r) (hn:4≤N):sem tab N (k+6) 47 [.str t,.int p,.int l] h=.ok (.tup [.lst [varT l,endT l],.int (p+3:Nat),.int l]) h:=by
  have lp:wloop (mev (sem tab N (k+5)) t_47) (mex (sem tab N (k+5)) N b_47) N (lexL t p l h none none) (h++[[]])=.ok (.ret (.tup [.ref h.length,.int (p+3:Nat),.int l])) (h++[[varT l,endT l]]):=by
    obtain ⟨n,rfl⟩:∃ n,N=n+2:=⟨N - 2,by omega⟩
    rw [y8 (M6 hr) (aw9 (x:=[]) hr rfl ag6 (by omega))]
    exact ab8 (k:=k+1) (p:=p+2) (g6 (g6 hr)) L6 (by omega)
  exact i9 (d:=f_lex_code) rfl rfl ((i5 (r9 rfl)).trans ((nxa (.int 0) rfl).trans (L7 lp))) (P6 rfl)
theorem aF8 {d:Nat} {nl:List Nat} (hr:t.drop p=36::118::32::47::42::(nl++42::47::125::d::r)) (hnl:isNl nl=true) (hb:t.length < big) (hn:5≤N):sem tab N (k+6) 47 [.str t,.int p,.int l] h=.ok (.tup [.lst [varT l,endT (l+1)],.int (p+(8+nl.length):Nat),.int (l+1)]) h:=by
  have d2:t.drop (p+2)=32::47::42::(nl++42::47::125::d::r):=g6 (g6 hr)
  have d3:t.drop (p+2+(5+nl.length))=125::d::r:=by
    rw [← List.drop_drop,d2]
    exact E4 (P:=fun nl=>List.drop (5+nl.length) (32::47::42::(nl++42::47::125::d::r))=125::d::r) rfl rfl hnl
  have lp:wloop (mev (sem tab N (k+5)) t_47) (mex (sem tab N (k+5)) N b_47) N (lexL t p l h none none) (h++[[]])=.ok (.ret (.tup [.ref h.length,.int (p+2+(5+nl.length)+1:Nat),.int (l+1)])) (h++[[varT l,endT (l+1)]]):=by
    obtain ⟨n,rfl⟩:∃ n,N=n+3:=⟨N - 3,by omega⟩
    rw [y8 (M6 hr) (aw9 (x:=[]) hr rfl ag6 (by omega)),y8 (M6 d2) (aU0 (k:=k+1) d2 hnl hb (by omega))]
    exact ab8 (k:=k+1) d3 L6 (by omega)
  rw [show p+(8+nl.length)=p+2+(5+nl.length)+1 by omega]
  exact i9 (d:=f_lex_code) rfl rfl ((i5 (r9 rfl)).trans ((nxa (.int 0) rfl).trans (L7 lp))) (P6 rfl)
theorem ao6 (hr:t.drop p=36::118::32::r) (hn:2≤N):sem tab N (k+4) 28 [.str t,.int p,.int l] h=.ok (.tup [.lst [varT l,endT l],.int (p+2:Nat)]) h:=by
  have d1:t.drop (p+1)=118::32::r:=g6 hr
  have d2:t.drop (p+1 + [118].length)=32::r:=g6 d1
  have e1:=fun h=>D5 (N:=N) (k:=k) (h:=h) (w:=[118]) (r:=32::r) d1 (by decide) rfl hn
  have n1:p+1 + [118].length - (p+1)=1:=by simp
  have q1:(([32]:List Nat)==[91])=false:=rfl
  have q2:(([32]:List Nat)==[63])=false:=rfl
  have q3:∀ x,((32::x:List Nat)==[45,62])=false:=fun x=>rfl
  have n2:((p+1 + [118].length:Nat):Int)+(([45,62]:List Nat).length:Nat)=((p+1 + [118].length+2:Nat):Int):=rfl
  have ap:=y7 h [varT l] (endT l) L6
  unfold varT endT at ap
  refine i9 (d:=f_simple_part) (h':=h++[[varT l,endT l]]) (v:=.tup [.ref h.length,.int (p+2:Nat)]) rfl rfl ?_ (P6 rfl)
  simp only [f_simple_part,List.map_cons,List.map_nil,List.cons_append,List.nil_append,Nat.reduceSub,List.replicate,h8,q7,k4,n6,j7,A0,m9,f7,f5,b8,j6,e8,m8,y9,s7,e9,e_mk,e_p1,e_p2,l9,af8,b9,b6,List.getElem?_cons_zero,List.getElem?_cons_succ,List.set_cons_zero,List.set_cons_succ,a9,a7,f8,b5,nat1,m6,i8,Option.map_some,d0,f6,i4,f0,g9,t0,Nat.add_sub_cancel_left,Bool.false_eq_true,if_false,if_true,V4,k8,varT,endT,e1,d1,List.take_succ_cons,List.take_zero,n1,i7,d2,q1,q2,n2,q3,k8,ap]
  rfl
theorem z8 {c:Nat} (hr:t.drop p=c::r) (h1:([c]==[123])=false) (h2:([c]==[36])=false):sem tab N (k+1) 29 [.str t,.int p,.int l,.fn 47] h=.ok .none h :=
  i9 (d:=f_code_part) rfl rfl (by simp only [f_code_part,List.map_cons,List.map_nil,List.cons_append,List.nil_append,Nat.reduceSub,List.replicate,h8,q7,k4,n6,j7,m9,z0,f7,f5,b8,j6,e8,m8,n9,e9,b9,b6,List.getElem?_cons_zero,List.getElem?_cons_succ,List.set_cons_zero,List.set_cons_succ,a9,a7,f8,b5,nat1,i8,Option.map_some,d0,f6,i4,f0,g9,Bool.false_eq_true,if_false,o7 h (i6 hr).1,h1,h2]) (f9 rfl)
theorem ai9 {c:Nat} (hr:t.drop p=123::c::r) (h1:([c]==[36])=false):sem tab N (k+2) 29 [.str t,.int p,.int l,.fn 47] h=.ok .none h:=by
  have q1:(([123]:List Nat)==[36])=false:=rfl
  exact i9 (d:=f_code_part) rfl rfl (by simp only [f_code_part,List.map_cons,List.map_nil,List.cons_append,List.nil_append,Nat.reduceSub,List.replicate,h8,q7,k4,n6,j7,m9,z0,f7,f5,b8,j6,e8,m8,n9,e9,b9,b6,List.getElem?_cons_zero,List.getElem?_cons_succ,List.set_cons_zero,List.set_cons_succ,a9,a7,f8,b5,nat1,i8,Option.map_some,d0,f6,i4,g8,f0,g9,Bool.false_eq_true,if_false,ite_self,o7 h (i6 hr).1,beq_self_eq_true,i7,g6 hr,List.take_succ_cons,List.take_zero,h1,q1]) (f9 rfl)
theorem ap3 (hr:t.drop p=36::118::32::r) (hn:2≤N):sem tab N (k+5) 29 [.str t,.int p,.int l,.fn 47] h=.ok (.tup [.lst [varT l,endT l],.int (p+2:Nat)]) h:=by
  have q1:(([36]:List Nat)==[123])=false:=rfl
  have q2:(([118]:List Nat)==[123])=false:=rfl
  have e1:=fun h=>N9 (N:=N) (k:=k+3) (h:=h) (c:=118) (by decide)
  have b1:isNs 118=true:=rfl
  have e2:=fun h=>ao6 (N:=N) (k:=k) (h:=h) (l:=l) hr hn
  exact i9 (d:=f_code_part) rfl rfl (by simp only [f_code_part,List.map_cons,List.map_nil,List.cons_append,List.nil_append,Nat.reduceSub,List.replicate,h8,q7,k4,n6,j7,m9,f7,f5,b8,j6,e8,m8,n9,e9,b9,b6,List.getElem?_cons_zero,List.getElem?_cons_succ,List.set_cons_zero,List.set_cons_succ,a9,a7,f8,b5,nat1,i8,Option.map_some,d0,f6,i4,g8,f0,g9,Bool.false_eq_true,if_false,if_true,ite_self,o7 h (i6 hr).1,beq_self_eq_true,i7,g6 hr,List.take_succ_cons,List.take_zero,q1,q2,e1,b1,e2]) (f9 rfl)
theorem L4 {m q:Int} {ts:V} (hr:t.drop p=123::36::r) (e:∀ h,sem tab N (k+1) 47 [.str t,.int (p+1:Nat),.int l] h=.ok (.tup [ts,.int q,.int m]) h):sem tab N (k+2) 29 [.str t,.int p,.int l,.fn 47] h=.ok (.tup [ts,.int q]) h:=by
  have cv:∀ (h:H) (x4 x5 x6 x7:Option V),mev (sem tab N (k+1)) (.callv 3 (.cons (.var 0) (.cons (.bin .add (.var 1) (.int 1)) (.cons (.var 2) .nil)))) [some (.str t),some (.int p),some (.int l),some (.fn 47),x4,x5,x6,x7] h=.ok (.tup [ts,.int q,.int m]) h:=fun h x4 x5 x6 x7=>by
    rw [aT6 rfl]; simp only [f7,b8,j6,b9,b6,List.getElem?_cons_zero,List.getElem?_cons_succ,a9,a7,f8,b5,nat1,e]
  exact i9 (d:=f_code_part) rfl rfl (by simp only [f_code_part,List.map_cons,List.map_nil,List.cons_append,List.nil_append,Nat.reduceSub,List.replicate,h8,q7,k4,n6,j7,m9,f7,f5,b8,j6,e8,m8,n9,e9,l9,b9,b6,List.getElem?_cons_zero,List.getElem?_cons_succ,List.set_cons_zero,List.set_cons_succ,a9,a7,f8,b5,nat1,i8,Option.map_some,d0,f6,i4,g8,f0,g9,aE0,if_true,o7 h (i6 hr).1,beq_self_eq_true,i7,g6 hr,List.take_succ_cons,List.take_zero,cv]) (f9 rfl)
end
end Mine
end
section
namespace Mine
open P1
section
variable {N k p:Nat} {t r:List Nat} {h:H} {l:Int}
noncomputable def digs:List Nat:=[34,120,117,52,49,69,57,125,44,59,41,46,60]
noncomputable def rdL (t:List Nat) (a m b:Nat) (v:Int):L:=[some (.str t),some (.int a),some (.int 16),some (.int m),some (.int v),some (.int b)]
theorem R6 {a m b n c:Nat} {v:Int} (hr:t.drop b=c::r) (hc:c∈digs) (hd:decide (dig c < 16)=true) (hlt:b < a+m) (hm:small v=true) :
    wloop (mev (sem tab N (k+2)) t_22) (mex (sem tab N (k+2)) N b_22) (n+1) (rdL t a m b v) h=wloop (mev (sem tab N (k+2)) t_22) (mex (sem tab N (k+2)) N b_22) n (rdL t a m (b+1) (v * 16+dig c)) h:=by
  have e1:=fun h=>I0 (N:=N) (k:=k+1) (h:=h) hc
  have q1:decide ((b:Int) < (a:Int)+(m:Int))=true:=by rw [decide_eq_true_eq]; omega
  have q2:binV .mul h (.int v) (.int 16)=some (.int (v * 16)):=by
    show pick (if small v=true∧small 16=true then some (V.int (v * 16)) else none) _=_; rw [if_pos ⟨hm,rfl⟩]; rfl
  refine y8 (h':=h) (h'':=h) ?_ ?_
  · simp only [t_22,rdL,b8,j6,e8,m8,e9,b9,b6,List.getElem?_cons_zero,List.getElem?_cons_succ,a9,a7,f8,b5,t7,Option.map_some,i4,g8,if_true,q1,i7,hr,List.take_succ_cons,List.take_zero,e1,hd]
  · simp only [b_22,rdL,h8,k4,j7,C4,f7,b8,j6,n9,e9,b9,b6,List.getElem?_cons_zero,List.getElem?_cons_succ,List.set_cons_zero,List.set_cons_succ,a9,a7,f8,w8,b5,nat1,f0,q2,o7 h (i6 hr).1,e1]
theorem aR6 {a m n:Nat} {v:Int}:wloop (mev (sem tab N (k+2)) t_22) (mex (sem tab N (k+2)) N b_22) (n+1) (rdL t a m (a+m) v) h=.ok (.next (rdL t a m (a+m) v)) h:=by
  have q1:decide (((a+m:Nat):Int) < (a:Int)+(m:Int))=false:=by rw [decide_eq_false_iff_not]; omega
  exact z7 (by simp only [t_22,rdL,b8,j6,e8,m8,e9,b9,b6,List.getElem?_cons_zero,List.getElem?_cons_succ,a9,a7,f8,b5,t7,Option.map_some,i4,Bool.false_eq_true,if_false,q1])
theorem au9 {a m b n c:Nat} {v:Int} (hr:t.drop b=c::r) (hc:c∈digs) (hd:decide (dig c < 16)=false) (hlt:b < a+m) :
    wloop (mev (sem tab N (k+2)) t_22) (mex (sem tab N (k+2)) N b_22) (n+1) (rdL t a m b v) h=.ok (.next (rdL t a m b v)) h:=by
  have e1:=fun h=>I0 (N:=N) (k:=k+1) (h:=h) hc
  have q1:decide ((b:Int) < (a:Int)+(m:Int))=true:=by rw [decide_eq_true_eq]; omega
  exact z7 (by simp only [t_22,rdL,b8,j6,e8,m8,e9,b9,b6,List.getElem?_cons_zero,List.getElem?_cons_succ,a9,a7,f8,b5,t7,Option.map_some,i4,g8,ite_self,q1,i7,hr,List.take_succ_cons,List.take_zero,e1,hd])
theorem ap6 {m b:Nat} {v:Int} (lp:wloop (mev (sem tab N (k+2)) t_22) (mex (sem tab N (k+2)) N b_22) N (rdL t p m p 0) h=.ok (.next (rdL t p m b v)) h):sem tab N (k+3) 22 [.str t,.int p,.int 16,.int m] h=.ok (.tup [.int v,.int b]) h :=
  i9 (d:=f_read_digits) rfl rfl ((nxa (.int 0) rfl).trans ((nxa (.int p) rfl).trans ((L8 lp).trans (by simp only [rdL,h8,n6,b8,l9,b9,b6,List.getElem?_cons_zero,List.getElem?_cons_succ,a9,a7,g9])))) (f9 rfl)
theorem aJ7 {w:List Nat} (hr:t.drop p=w):t.length - p=w.length:=by rw [← hr,List.length_drop]
theorem ao8:sem tab N (k+1) 21 [.int 233] h=.ok (.str [195,169]) h:=by
  have q0:decide ((233:Int) < 128)=false:=rfl
  have q1:decide ((233:Int) < 2048)=true:=rfl
  have q2:binV .shr h (.int 233) (.int 6)=some (.int 3):=rfl
  have q3:binV .band h (.int 233) (.int 63)=some (.int 41):=rfl
  have q4:p1V .chr (.int (192+3)) h=.ok (.str [195]) h:=rfl
  have q5:p1V .chr (.int (128+41)) h=.ok (.str [169]) h:=rfl
  have q6:=n7 h [195] [169] (Nat.succ_le_of_lt L6)
  exact i9 (d:=f_octets_of) rfl rfl (by simp only [f_octets_of,List.map_cons,List.map_nil,List.cons_append,List.nil_append,Nat.reduceSub,List.replicate,h8,q7,n6,j7,f7,b8,j6,e8,e_p1,List.getElem?_cons_zero,a9,a7,f8,b5,t7,Option.map_some,d0,f6,f0,g9,Bool.false_eq_true,if_false,if_true,q0,q1,q2,q3,q4,q5,q6]) (f9 rfl)
theorem aA2 (hr:t.drop p=69::57::125::r) (hn:3≤N):sem tab N (k+4) 23 [.str t,.int p,.int l] h=.ok (.tup [.str [195,169],.int (p+3:Nat)]) h:=by
  have hl:=aJ7 hr
  simp only [List.length_cons] at hl
  have e1:∀ h,sem tab N (k+3) 22 [.str t,.int p,.int 16,.int t.length] h=.ok (.tup [.int 233,.int (p+2:Nat)]) h:=fun h=>by
    obtain ⟨n,rfl⟩:∃ n,N=n+3:=⟨N - 3,by omega⟩
    refine ap6 ((R6 hr (by decide) rfl (by omega) rfl).trans ((R6 (g6 hr) (by decide) rfl (by omega) rfl).trans ?_))
    exact au9 (g6 (g6 hr)) (by decide) rfl (by omega)
  have d3:t.drop (p+2)=125::r:=g6 (g6 hr)
  have q1:(((p+2:Nat):Int)==(p:Int))=false:=by rw [beq_eq_false_iff_ne]; omega
  have q2:decide ((1114111:Int) < 233)=false:=rfl
  exact i9 (d:=f_read_point) rfl rfl (by simp only [f_read_point,List.map_cons,List.map_nil,List.cons_append,List.nil_append,Nat.reduceSub,List.replicate,h8,q7,n6,j7,m9,Q9,f7,f5,b8,j6,e8,e_or,e9,e_p1,l9,b9,b6,List.getElem?_cons_zero,List.getElem?_cons_succ,List.set_cons_zero,List.set_cons_succ,a9,a7,f8,b5,nat1,u6,r7,H5,Option.map_some,d0,f6,A7,g8,f0,g9,F1,t0,Bool.false_eq_true,if_false,Bool.not_true,e1,q1,i7,d3,List.take_succ_cons,List.take_zero,beq_self_eq_true,q2,ao8]) (f9 rfl)
theorem ao7 (hr:t.drop p=125::r) (hn:1≤N):sem tab N (k+4) 23 [.str t,.int p,.int l] h=.pf s0 l h:=by
  have hl:=aJ7 hr
  simp only [List.length_cons] at hl
  have e1:∀ h,sem tab N (k+3) 22 [.str t,.int p,.int 16,.int t.length] h=.ok (.tup [.int 0,.int p]) h:=fun h=>by
    obtain ⟨n,rfl⟩:∃ n,N=n+1:=⟨N - 1,by omega⟩
    exact ap6 (au9 hr (by decide) rfl (by omega))
  refine J2 (d:=f_read_point) rfl rfl ?_ (t5 rfl)
  simp only [f_read_point,List.map_cons,List.map_nil,List.cons_append,List.nil_append,Nat.reduceSub,List.replicate,h8,q7,j7,m9,Q9,f7,f5,b8,e8,e_or,e9,e_p1,b9,b6,List.getElem?_cons_zero,List.getElem?_cons_succ,List.set_cons_zero,List.set_cons_succ,a9,a7,z9,b5,r7,Option.map_some,d0,f6,A7,f0,F1,t0,if_true,e1,beq_self_eq_true,raiseR,txtOf,intOf,ofK]
theorem esc_n (hr:t.drop p=92::110::r):sem tab N (k+2) 24 [.str t,.int p,.str [],.int l] h=.ok (.tup [.str [10],.int (p+2:Nat)]) h :=
  i9 (d:=f_escape) rfl rfl ((nxa (.str [110]) (by simp only [List.map_cons,List.map_nil,List.cons_append,List.nil_append,f7,b8,j6,e9,b9,b6,List.getElem?_cons_zero,List.getElem?_cons_succ,a9,a7,f8,b5,nat1,i7,g6 hr,List.take_succ_cons,List.take_zero])).trans (U9 rfl)) (f9 rfl)
theorem af5 {c:Nat} {X:R Fl} (hr:t.drop p=92::c::r) (hc:c∈digs) (hp:([([110],[10]),([116],[9]),([114],[13]),([118],[11]),([101],[27]),([102],[12]),([92],[92]),([36],[36])]:List (List Nat×List Nat)).lookup [c]=none) (hd:decide (dig c < 8)=false)
    (e:mex (sem tab N (k+1)) N b_24 [some (.str t),some (.int p),some (.str []),some (.int l),some (.str [c]),none,none,none] h=X) :
    mex (sem tab N (k+1)) N f_escape.body [some (.str t),some (.int p),some (.str []),some (.int l),none,none,none,none] h=X:=by
  have q1:([c]==[])=false:=rfl
  have e1:=I0 (N:=N) (k:=k) (h:=h) hc
  have dc:mex (sem tab N (k+1)) N (.dictIf 5 [([110],[10]),([116],[9]),([114],[13]),([118],[11]),([101],[27]),([102],[12]),([92],[92]),([36],[36])] 4 (.bin .add (.var 1) (.int 2))) [some (.str t),some (.int p),some (.str []),some (.int l),some (.str [c]),none,none,none] h=.ok (.next [some (.str t),some (.int p),some (.str []),some (.int l),some (.str [c]),none,none,none]) h:=by
    show Option.elim _ _ _=_; rw [hp]; rfl
  exact (nxa (.str [c]) (by simp only [f7,b8,j6,e9,b9,b6,List.getElem?_cons_zero,List.getElem?_cons_succ,a9,a7,f8,b5,nat1,i7,g6 hr,List.take_succ_cons,List.take_zero])).trans ((i5 dc).trans ((nxf (by simp only [f5,b8,e8,m8,List.getElem?_cons_zero,List.getElem?_cons_succ,a9,a7,b5,i8,u6,Option.map_some,i4,g8,ite_self,Bool.not_false,q1])).trans ((nxf (by simp only [f7,b8,e8,e9,b9,b6,List.getElem?_cons_zero,List.getElem?_cons_succ,a9,a7,b5,t7,Option.map_some,e1,hd])).trans e)))
theorem esc_q (hr:t.drop p=92::34::r):sem tab N (k+2) 24 [.str t,.int p,.str [],.int l] h=.ok (.tup [.str [92],.int (p+1:Nat)]) h:=by
  have i1:∀ p,cmpV .isin h (.str p) (.tup [.str [120],.str [88]])=some ([[120],[88]].any (·==p)):=fun p=>rfl
  have q1:[[120],[88]].any (·==[34])=false:=rfl
  have q2:(([34]:List Nat)==[117])=false:=rfl
  have q3:(([34]:List Nat)==[123])=false:=rfl
  exact i9 (d:=f_escape) rfl rfl (af5 hr (by decide) rfl rfl (by simp only [b_24,h8,q7,n6,j7,m9,f7,f5,b8,j6,e8,m8,e9,l9,b9,b6,List.getElem?_cons_zero,List.getElem?_cons_succ,a9,a7,f8,b5,nat1,nat2,nat3,i8,Option.map_some,d0,f6,i4,f0,g9,Bool.false_eq_true,if_false,i1,q1,q2,q3])) (f9 rfl)
theorem esc_x (hr:t.drop p=92::120::52::49::r) (hn:3≤N):sem tab N (k+4) 24 [.str t,.int p,.str [],.int l] h=.ok (.tup [.str [65],.int (p+4:Nat)]) h:=by
  have i1:∀ p,cmpV .isin h (.str p) (.tup [.str [120],.str [88]])=some ([[120],[88]].any (·==p)):=fun p=>rfl
  have q1:[[120],[88]].any (·==[120])=true:=rfl
  have d2:t.drop (p+2)=52::49::r:=g6 (g6 hr)
  have e2:=I0 (N:=N) (k:=k+2) (h:=h) (c:=52) (by decide)
  have q2:decide (dig 52 < 16)=true:=rfl
  have e1:sem tab N (k+3) 22 [.str t,.int (p+2:Nat),.int 16,.int 2] h=.ok (.tup [.int 65,.int (p+4:Nat)]) h:=by
    obtain ⟨n,rfl⟩:∃ n,N=n+3:=⟨N - 3,by omega⟩
    exact ap6 (m:=2) ((R6 d2 (by decide) rfl (by omega) rfl).trans ((R6 (g6 d2) (by decide) rfl (by omega) rfl).trans aR6))
  have q3:p1V .chr (.int 65) h=.ok (.str [65]) h:=rfl
  exact i9 (d:=f_escape) rfl rfl (af5 hr (by decide) rfl rfl (by simp only [b_24,h8,q7,n6,j7,m9,f7,f5,b8,j6,e8,m8,e9,e_p1,l9,b9,b6,List.getElem?_cons_zero,List.getElem?_cons_succ,List.set_cons_zero,List.set_cons_succ,a9,a7,f8,b5,nat2,t7,Option.map_some,d0,f6,i4,g8,f0,g9,F1,if_true,i1,q1,i7,d2,List.take_succ_cons,List.take_zero,e2,q2,e1,q3])) (f9 rfl)
theorem esc_u (hr:t.drop p=92::117::123::69::57::125::r) (hn:3≤N):sem tab N (k+5) 24 [.str t,.int p,.str [],.int l] h=.ok (.tup [.str [195,169],.int (p+6:Nat)]) h:=by
  have i1:∀ p,cmpV .isin h (.str p) (.tup [.str [120],.str [88]])=some ([[120],[88]].any (·==p)):=fun p=>rfl
  have q1:[[120],[88]].any (·==[117])=false:=rfl
  have d2:t.drop (p+2)=123::69::57::125::r:=g6 (g6 hr)
  have e1:=aA2 (N:=N) (k:=k) (h:=h) (l:=l) (p:=p+3) (g6 d2) hn
  exact i9 (d:=f_escape) rfl rfl (af5 hr (by decide) rfl rfl (by simp only [b_24,h8,q7,n6,j7,m9,f7,f5,b8,j6,e8,m8,e9,l9,b9,b6,List.getElem?_cons_zero,List.getElem?_cons_succ,a9,a7,f8,b5,nat2,nat3,i8,Option.map_some,d0,f6,i4,g8,f0,g9,Bool.false_eq_true,if_false,if_true,i1,q1,i7,d2,List.take_succ_cons,List.take_zero,beq_self_eq_true,e1])) (f9 rfl)
theorem aW6 (hr:t.drop p=92::117::123::125::r) (hn:1≤N):sem tab N (k+5) 24 [.str t,.int p,.str [],.int l] h=.pf s0 l h:=by
  have i1:∀ p,cmpV .isin h (.str p) (.tup [.str [120],.str [88]])=some ([[120],[88]].any (·==p)):=fun p=>rfl
  have q1:[[120],[88]].any (·==[117])=false:=rfl
  have d2:t.drop (p+2)=123::125::r:=g6 (g6 hr)
  have e1:=ao7 (N:=N) (k:=k) (h:=h) (l:=l) (p:=p+3) (g6 d2) hn
  exact J2 (d:=f_escape) rfl rfl (af5 hr (by decide) rfl rfl (by simp only [b_24,h8,q7,n6,j7,m9,f7,f5,b8,j6,e8,m8,e9,l9,b9,b6,List.getElem?_cons_zero,List.getElem?_cons_succ,a9,a7,z9,f8,b5,nat2,nat3,i8,Option.map_some,d0,f6,i4,g8,f0,Bool.false_eq_true,if_false,if_true,i1,q1,i7,d2,List.take_succ_cons,List.take_zero,beq_self_eq_true,e1])) (t5 rfl)
end
end Mine
end
section
namespace Mine
open P1
section
variable (h:H) (a b:List V)
theorem get2a:(h++[a,b])[h.length]?=some a:=by simp
theorem get2b:(h++[a,b])[h.length+1]?=some b:=by rw [List.getElem?_append_right (Nat.le_add_right _ 1),Nat.add_sub_cancel_left]; rfl
theorem set2a (x:List V):(h++[a,b]).set h.length x=h++[x,b]:=by simp
theorem set2b (x:List V):(h++[a,b]).set (h.length+1) x=h++[a,x]:=by rw [List.set_append_right _ _ (Nat.le_add_right _ 1),Nat.add_sub_cancel_left]; rfl
theorem ap2a (v:V) (e:a.length < big):p2V .append (.ref h.length) v (h++[a,b])=.ok .none (h++[a++[v],b]):=by
  refine (U4 (q:=(.none,(h++[a,b]).set h.length (a++[v]))) ?_).trans (congrArg (R.ok V.none) (set2a _ _ _ _))
  show Option.bind ((h++[a,b])[h.length]?) _=_; rw [get2a]; exact if_pos e
theorem ap2b (v:V) (e:b.length < big):p2V .append (.ref (h.length+1)) v (h++[a,b])=.ok .none (h++[a,b++[v]]):=by
  refine (U4 (q:=(.none,(h++[a,b]).set (h.length+1) (b++[v]))) ?_).trans (congrArg (R.ok V.none) (set2b _ _ _ _))
  show Option.bind ((h++[a,b])[h.length+1]?) _=_; rw [get2b]; exact if_pos e
theorem join2b {x:List Nat} (e:joinL b=some x) (hx:x.length≤big):p2V .join (.str []) (.ref (h.length+1)) (h++[a,b])=.ok (.str x) (h++[a,b]):=by
  refine U4 (q:=(.str x,h++[a,b])) ?_
  show Option.bind ((h++[a,b])[h.length+1]?) _=_; rw [get2b]
  show Option.bind (joinL b) _=_; rw [e]; exact if_pos ⟨rfl,hx⟩
theorem truth2b:truth (h++[a,b]) (.ref (h.length+1))=some (!b.isEmpty):=by
  show ((h++[a,b])[h.length+1]?).map _=_; rw [get2b]; rfl
theorem clear2b:p1V .clear (.ref (h.length+1)) (h++[a,b])=.ok .none (h++[a,[]]):=by
  refine (U5 (q:=(.none,(h++[a,b]).set (h.length+1) [])) ?_).trans (congrArg (R.ok V.none) (set2b _ _ _ _))
  show ((h++[a,b])[h.length+1]?).map _=_; rw [get2b]; rfl
theorem tuple2a:p1V .tuple (.ref h.length) (h++[a,b])=.ok (.tup a) (h++[a,b]):=by
  refine U5 (q:=(.tup a,h++[a,b])) ?_
  show ((h++[a,b])[h.length]?).map _=_; rw [get2a]; rfl
theorem backO2 {v w:V} (e:frz (h++[a,b]) h.length 9 v=some w):backO h v (h++[a,b])=some (w,h):=by
  unfold backO
  rw [if_neg (by simp),List.take_left' rfl,if_pos rfl,e]; rfl
theorem back2 {v w:V} (e:frz (h++[a,b]) h.length 9 v=some w):back h v (h++[a,b])=.ok w h:=by unfold back; rw [backO2 _ _ _ e]; rfl
theorem backPf2 {w:List Nat} {l:Int}:backPf h w l (h++[a,b])=.pf w l h:=by
  unfold backPf; rw [backO2 (v:=.none) (w:=.none) _ _ _ rfl]; rfl
end
noncomputable def txtV (s:List Nat):V:=.tup [.str [116,101,120,116],.str s]
noncomputable def tx (cur:List Nat):List V:=if cur.isEmpty=true then [] else [txtV cur]
structure MadeT (ms:List V) (cur:List Nat):Prop where
  j:joinL ms=some cur
  e:ms.isEmpty=cur.isEmpty
  l:ms.length≤cur.length
theorem J4 {x:List Nat}:∀ {ms:List V} {cur:List Nat},joinL ms=some cur→joinL (ms++[.str x])=some (cur++x)
  | [],cur,e=>by cases e; show some (x++[])=_; simp
  | v::ms,cur,e=>by
    cases v with
    | str y =>
      obtain ⟨z,hz,rfl⟩:=Option.map_eq_some_iff.mp (show (joinL ms).map (y++·)=some cur from e)
      show (joinL (ms++[.str x])).map (y++·)=_
      rw [J4 hz,Option.map_some,List.append_assoc]
    | _=>cases e
theorem MadeT.nil:MadeT [] []:=⟨rfl,rfl,Nat.le_refl _⟩
theorem MadeT.snoc {ms:List V} {cur x:List Nat} (m:MadeT ms cur) (hx:0 < x.length):MadeT (ms++[.str x]) (cur++x):=by
  refine ⟨J4 m.j,?_,?_⟩
  · cases x with
    | nil=>cases hx
    | cons=>cases ms <;> cases cur <;> rfl
  · rw [List.length_append,List.length_append]; exact Nat.add_le_add m.l hx
section
variable {N k p:Nat} {t r:List Nat} {h:H} {l:Int}
theorem au5 {ps ms:List V} {cur:List Nat} (m:MadeT ms cur) (hp:ps.length < big) (hc:cur.length≤big):sem tab N (k+1) 30 [.ref h.length,.ref (h.length+1)] (h++[ps,ms])=.ok .none (h++[ps++tx cur,[]]):=by
  have e0:=m.e
  refine F3 (d:=f_put_text) (h':=h++[ps++tx cur,[]]) (loc':=[some (.ref h.length),some (.ref (h.length+1))]) rfl rfl ?_ (f9 (by simp))
  unfold tx
  cases b:cur.isEmpty with
  | true =>
    rw [b] at e0
    simp only [f_put_text,List.map_cons,List.map_nil,Nat.reduceSub,List.replicate,h8,q7,j7,A0,f5,b8,e_p1,e_p2,l9,b9,b6,List.getElem?_cons_zero,List.getElem?_cons_succ,a9,a7,f6,f0,Bool.false_eq_true,if_false,if_true,Bool.not_true,C6,k8,truth2b,e0,clear2b,List.append_nil]
  | false =>
    rw [b] at e0
    have ap:=ap2a h ps ms (txtV cur) hp
    unfold txtV at ap
    simp only [f_put_text,txtV,List.map_cons,List.map_nil,List.cons_append,List.nil_append,Nat.reduceSub,List.replicate,h8,q7,j7,A0,f5,b8,e_p1,e_p2,l9,b9,b6,List.getElem?_cons_zero,List.getElem?_cons_succ,a9,a7,f6,f0,Bool.false_eq_true,if_false,if_true,Bool.not_false,C6,k8,truth2b,e0,k8,C6,join2b h ps ms m.j hc,ap,clear2b]
theorem ap4 {s:Nat} (hp:p≤s):sem tab N (k+1) 31 [.str t,.int p,.int s,.int l] h=.ok (.bool (decide (p < s))) h:=by
  have q1:decide ((s:Int) < (p:Int))=false:=by rw [decide_eq_false_iff_not]; omega
  have q2:decide ((p:Int) < (s:Int))=decide (p < s):=by
    rw [Bool.eq_iff_iff]; simp only [decide_eq_true_eq]; omega
  have e1:p1V .isint (.int s) h=.ok (.bool true) h:=rfl
  exact i9 (d:=f_is_before) rfl rfl (by simp only [f_is_before,List.map_cons,List.map_nil,List.cons_append,List.nil_append,Nat.reduceSub,List.replicate,h8,q7,n6,j7,an4,b8,e8,e_p1,List.getElem?_cons_zero,List.getElem?_cons_succ,a9,a7,b5,t7,H5,Option.map_some,d0,f6,f0,g9,Bool.false_eq_true,if_false,if_true,e1,q1,q2]) (f9 rfl)
theorem D3 {body:V→L→H→R Fl} {v:V} {r:List V} {loc loc':L} {h h':H} (e:body v loc h=.ok (.next loc') h'):floop body (v::r) loc h=floop body r loc' h':=by rw [N0,e]; rfl
theorem bd8 {body:V→L→H→R Fl} {v x:V} {r:List V} {loc:L} {h h':H} (e:body v loc h=.ok (.ret x) h'):floop body (v::r) loc h=.ok (.ret x) h':=by rw [N0,e]; rfl
theorem aZ0 {body:V→L→H→R Fl} {v:V} {r:List V} {loc:L} {h h':H} {w:List Nat} {l:Int} (e:body v loc h=.pf w l h'):floop body (v::r) loc h=.pf w l h':=by rw [N0,e]; rfl
theorem av1 (a b:Int) (e:-1000 < a∧a < big∧b < big∧-1000 < b):rangeV (.int a) (.int b)=some ((List.range (b - a).toNat).map fun (i:Nat)=>V.int (a+(i:Int))):=if_pos e
noncomputable def rangeL (n:Nat):List V:=(List.range n).map fun (i:Nat)=>V.int (0+(i:Int))
theorem aT2 {C:Calls} {x:Nat} {lo hi:ME} {b c:MS} {loc:L} {n:Nat} {Y:R Fl} (e1:mev C lo loc h=.ok (.int 0) h) (e2:mev C hi loc h=.ok (.int n) h) (hn:n < 1000)
    (e3:(floop (fun v loc h=>mex C N b (loc.set x (some v)) h) (rangeL n) loc h).bind (fun f h=>seqR f h (mex C N c))=Y):mex C N (.seq (.forR x lo hi b) c) loc h=Y:=by
  have:mex C N (.seq (.forR x lo hi b) c) loc h=((mev C lo loc h).bind fun a h=>(mev C hi loc h).bind fun c h=>itemsR (rangeV a c) fun vs=>floop (fun v loc h=>mex C N b (loc.set x (some v)) h) vs loc h).bind fun f h=>seqR f h (mex C N c):=rfl
  rw [this,e1,a7,e2,a7]
  have q:rangeV (.int 0) (.int n)=some (rangeL n):=by
    refine (av1 0 n ⟨by decide,by rw [k7]; decide,by rw [k7]; omega,by omega⟩).trans ?_
    rw [Int.sub_zero,Int.toNat_natCast]; rfl
  rw [q]; exact e3
theorem B2 (n:Nat):(rangeL n).length=n:=by simp [rangeL]
noncomputable def piL (t:List Nat) (p s:Nat) (ind:List Nat) (l:Int) (a b:Option V):L:=[some (.str t),some (.int p),some (.int s),some (.str ind),some (.int l),a,b]
noncomputable def piF (C:Calls) (N:Nat):V→L→H→R Fl:=fun v loc h=>mex C N b_36 (loc.set 5 (some v)) h
theorem ae7 (h:H) (c:Nat):cmpV .notin h (.str [c]) (.tup [.str [32],.str [9]])=some (!isB c):=by
  show (cmpV .isin h (.str [c]) (.tup [.str [32],.str [9]])).map _=_; rw [in_b]; rfl
theorem ak4 {c:Nat} (hb:isB c=true):nlN (c::r)=0:=by
  unfold nlN
  have h1:(c==13)=false:=by cases q:c==13 with | false=>rfl | true=>rw [beq_iff_eq.mp q] at hb; cases hb
  have h2:(c==10)=false:=by cases q:c==10 with | false=>rfl | true=>rw [beq_iff_eq.mp q] at hb; cases hb
  simp only [List.take_succ_cons,List.take_zero,List.cons_beq_cons,h1,h2,Bool.false_and,Bool.false_eq_true,if_false]
section
variable {s m:Nat} {b:Nat} {x5 x6:Option V} {v:V}
theorem ax5 (h:H) (hm:0 < m):idxV h (.str (List.replicate m b)) (.int 0)=some (.str [b]):=by
  obtain ⟨n,rfl⟩:∃ n,m=n+1:=⟨m - 1,by omega⟩
  exact o7 (i:=0) h rfl
theorem aR9 (hr:t.drop p=b::r) (hb:isB b=true) (hs:p < s) (hm:0 < m):piF (sem tab N (k+2)) N v (piL t p s (List.replicate m b) l x5 x6) h=.ok (.next (piL t (p+1) s (List.replicate m b) l (some v) x6)) h:=by
  have q1:decide ((s:Int)≤(p:Int))=false:=by rw [decide_eq_false_iff_not]; omega
  have q2:decide ((p:Int) < ((p+0:Nat):Int))=false:=by rw [decide_eq_false_iff_not]; omega
  unfold piF piL b_36
  refine (nxf (by simp only [b8,e8,e_or,e9,b9,b6,List.getElem?_cons_zero,List.getElem?_cons_succ,List.set_cons_zero,List.set_cons_succ,a9,a7,b5,H5,C9,Option.map_some,A7,g8,Bool.false_eq_true,if_false,q1,B6,hr,ak4 hb,q2])).trans ((nxf (by simp only [f5,b8,e8,n9,l9,b9,b6,List.getElem?_cons_zero,List.getElem?_cons_succ,List.set_cons_zero,List.set_cons_succ,a9,a7,b5,Option.map_some,Bool.not_true,o7 h (i6 hr).1,ae7,hb])).trans ((nxf (by simp only [f7,b8,e8,n9,List.getElem?_cons_zero,List.getElem?_cons_succ,List.set_cons_zero,List.set_cons_succ,a9,a7,b5,u6,Option.map_some,Bool.not_true,o7 h (i6 hr).1,ax5 h hm,beq_self_eq_true])).trans ?_))
  simp only [h8,j7,C4,f7,b8,List.getElem?_cons_zero,List.getElem?_cons_succ,List.set_cons_zero,List.set_cons_succ,a9,a7,w8,nat1,f0]
theorem aR8 (hs:p=s∨0 < nlN (t.drop p)) (hp:p≤s):piF (sem tab N (k+2)) N v (piL t p s (List.replicate m b) l x5 x6) h=.ok (.ret (.int p)) h:=by
  have q1:decide ((s:Int)≤(p:Int))=decide (p=s):=by rw [Bool.eq_iff_iff]; simp only [decide_eq_true_eq]; omega
  unfold piF piL b_36
  refine (nxt (by
    cases e:decide (p=s) with
    | true=>simp only [b8,e8,e_or,e9,b9,b6,List.getElem?_cons_zero,List.getElem?_cons_succ,List.set_cons_zero,List.set_cons_succ,a9,a7,b5,C9,Option.map_some,A7,if_true,q1,e]
    | false =>
      have q2:decide ((p:Int) < ((p+nlN (t.drop p):Nat):Int))=true:=by
        rw [decide_eq_true_eq]
        have:=of_decide_eq_false e
        omega
      simp only [b8,e8,e_or,e9,b9,b6,List.getElem?_cons_zero,List.getElem?_cons_succ,List.set_cons_zero,List.set_cons_succ,a9,a7,b5,H5,C9,Option.map_some,A7,g8,Bool.false_eq_true,ite_self,q1,e,B6,q2])).trans ?_
  simp only [h8,n6,b8,List.getElem?_cons_zero,List.getElem?_cons_succ,List.set_cons_zero,List.set_cons_succ,a9,a7,g9]
noncomputable def shortW (m:Nat):List Nat:=s3++textOf (m:Int)++[41]
theorem aa4 (h:H) (hm:m < 1000):p1V .str (.int m) h=.ok (.str (textOf m)) h∧binV .add h (.str s3) (.str (textOf (m:Int)))=some (.str (s3++textOf (m:Int)))∧binV .add h (.str (s3++textOf (m:Int))) (.str [41])=some (.str (shortW m)):=by
  have h1:=an7 m
  have h2:s3.length=75:=rfl
  refine ⟨az5 (by omega),n7 h _ _ (by rw [k7]; omega),n7 h _ _ (by rw [k7,List.length_append]; simp only [List.length_cons,List.length_nil]; omega)⟩
theorem aH2 {c:Nat} (hr:t.drop p=c::r) (hc:isB c=false) (hn:nlN (t.drop p)=0) (hs:p < s) (hm:m < 1000):piF (sem tab N (k+2)) N v (piL t p s (List.replicate m b) l x5 x6) h=.pf (shortW m) l h:=by
  have q1:decide ((s:Int)≤(p:Int))=false:=by rw [decide_eq_false_iff_not]; omega
  have q2:decide ((p:Int) < ((p+0:Nat):Int))=false:=by rw [decide_eq_false_iff_not]; omega
  obtain ⟨a1,a2,a3⟩:=aa4 (m:=m) h hm
  unfold piF piL b_36
  refine (nxf (by simp only [b8,e8,e_or,e9,b9,b6,List.getElem?_cons_zero,List.getElem?_cons_succ,List.set_cons_zero,List.set_cons_succ,a9,a7,b5,H5,C9,Option.map_some,A7,g8,Bool.false_eq_true,if_false,q1,B6,hn,q2])).trans ((nxt (by simp only [f5,b8,e8,n9,l9,b9,b6,List.getElem?_cons_zero,List.getElem?_cons_succ,List.set_cons_zero,List.set_cons_succ,a9,a7,b5,Option.map_some,Bool.not_false,o7 h (i6 hr).1,ae7,hc])).trans ((nxa (.str s3) rfl).trans ?_))
  have e1:mev (sem tab N (k+2)) (.var 6) (((piL t p s (List.replicate m b) l x5 x6).set 5 (some v)).set 6 (some (.str s3))) h=.ok (.str s3) h:=rfl
  have e2:mev (sem tab N (k+2)) (.p1 .len (.var 3)) (((piL t p s (List.replicate m b) l x5 x6).set 5 (some v)).set 6 (some (.str s3))) h=.ok (.int m) h:=by simp only [piL,b8,e_p1,List.getElem?_cons_zero,List.getElem?_cons_succ,List.set_cons_zero,List.set_cons_succ,a9,a7,t0,List.length_replicate]
  have e3:mev (sem tab N (k+2)) (.var 4) (((piL t p s (List.replicate m b) l x5 x6).set 5 (some v)).set 6 (some (.str s3))) h=.ok (.int l) h:=rfl
  have e4:=v6 (v6 e1 ((m_p1 (p:=.str) e2).trans a1) a2) (f5 (sem tab N (k+2)) (((piL t p s (List.replicate m b) l x5 x6).set 5 (some v)).set 6 (some (.str s3))) h [41]) a3
  exact o8.trans (L9 (aw6 e4 e3))
theorem aH3 {c:Nat} (hr:t.drop p=c::r) (hc:isB c=true) (hcb:([c]==[b])=false) (hs:p < s) (hm:0 < m):piF (sem tab N (k+2)) N v (piL t p s (List.replicate m b) l x5 x6) h=.pf s2 l h:=by
  have q1:decide ((s:Int)≤(p:Int))=false:=by rw [decide_eq_false_iff_not]; omega
  have q2:decide ((p:Int) < ((p+0:Nat):Int))=false:=by rw [decide_eq_false_iff_not]; omega
  unfold piF piL b_36
  refine (nxf (by simp only [b8,e8,e_or,e9,b9,b6,List.getElem?_cons_zero,List.getElem?_cons_succ,List.set_cons_zero,List.set_cons_succ,a9,a7,b5,H5,C9,Option.map_some,A7,g8,Bool.false_eq_true,if_false,q1,B6,hr,ak4 hc,q2])).trans ((nxf (by simp only [f5,b8,e8,n9,l9,b9,b6,List.getElem?_cons_zero,List.getElem?_cons_succ,List.set_cons_zero,List.set_cons_succ,a9,a7,b5,Option.map_some,Bool.not_true,o7 h (i6 hr).1,ae7,hc])).trans ((nxt (by simp only [f7,b8,e8,n9,List.getElem?_cons_zero,List.getElem?_cons_succ,List.set_cons_zero,List.set_cons_succ,a9,a7,b5,u6,Option.map_some,Bool.not_false,o7 h (i6 hr).1,ax5 h hm,hcb])).trans ?_))
  simp only [h8,Q9,f5,b8,List.getElem?_cons_zero,List.getElem?_cons_succ,List.set_cons_zero,List.set_cons_succ,a9,a7,z9,raiseR,txtOf,intOf,ofK]
theorem ap9 (hb:isB b=true) (hm:0 < m):∀ (d p:Nat) (vs:List V) (x5:Option V),t.drop p=List.replicate d b++r→d≤vs.length→p+d≤s →
    ∃ x5',floop (piF (sem tab N (k+2)) N) vs (piL t p s (List.replicate m b) l x5 x6) h=floop (piF (sem tab N (k+2)) N) (vs.drop d) (piL t (p+d) s (List.replicate m b) l x5' x6) h
  | 0,p,vs,x5,hr,hv,hs=>⟨x5,rfl⟩
  | d+1,p,v::vs,x5,hr,hv,hs=>by
    have hr:t.drop p=b::(List.replicate d b++r):=hr
    obtain ⟨y,e⟩:=ap9 hb hm d (p+1) vs (some v) (g6 hr) (Nat.le_of_succ_le_succ hv) (by omega)
    refine ⟨y,(D3 (aR9 hr hb (by omega) hm)).trans (e.trans ?_)⟩
    rw [show p+1+d=p+(d+1) by omega]; rfl
theorem R8 {Y:R Fl} {Z:R V} (hm:m < 1000) (e:(floop (piF (sem tab N k) N) (rangeL m) (piL t p s (List.replicate m b) l none none) h).bind (fun f h=>seqR f h (mex (sem tab N k) N (.seq (.ret (.var 1)) .skip)))=Y) (hz:callR h Y=Z):sem tab N (k+1) 36 [.str t,.int p,.int s,.str (List.replicate m b),.int l] h=Z:=by
  rw [t9 (d:=f_pass_indent) rfl rfl,← hz]
  exact congrArg (callR h) (aT2 rfl (n:=m) (by simp only [List.map_cons,List.map_nil,List.cons_append,List.nil_append,b8,e_p1,List.getElem?_cons_zero,List.getElem?_cons_succ,a9,a7,t0,List.length_replicate]) hm e)
theorem C1 {d:Nat} (hb:isB b=true) (hm:m < 1000) (hr:t.drop p=List.replicate d b++r) (hd:d≤m) (hs:p+d≤s) (hq:d=m∨p+d=s∨0 < nlN r) :
    sem tab N (k+3) 36 [.str t,.int p,.int s,.str (List.replicate m b),.int l] h=.ok (.int (p+d:Nat)) h:=by
  rcases Nat.eq_zero_or_pos m with rfl | h0
  · have:d=0:=by omega
    subst this
    exact R8 hm rfl (f9 rfl)
  obtain ⟨y,e⟩:=ap9 (N:=N) (k:=k) (l:=l) (h:=h) (x6:=none) hb h0 d p (rangeL m) none hr (by rw [B2]; exact hd) hs
  refine R8 (Y:=.ok (.ret (.int (p+d:Nat))) h) hm ?_ (f9 rfl)
  rw [e]
  have hl:((rangeL m).drop d).length=m - d:=by rw [List.length_drop,B2]
  cases hv:(rangeL m).drop d with
  | nil=>rfl
  | cons v vs =>
    rw [hv,List.length_cons] at hl
    rw [bd8 (aR8 (by rw [← List.drop_drop,hr,List.drop_left' (by simp)]; omega) hs)]; rfl
theorem F2 {d c:Nat} (hb:isB b=true) (hm:m < 1000) (hr:t.drop p=List.replicate d b++c::r) (hd:d < m) (hs:p+d < s) (hc:isB c=false) (hq:nlN (c::r)=0) :
    sem tab N (k+3) 36 [.str t,.int p,.int s,.str (List.replicate m b),.int l] h=.pf (shortW m) l h:=by
  obtain ⟨y,e⟩:=ap9 (N:=N) (k:=k) (l:=l) (h:=h) (x6:=none) hb (Nat.lt_of_le_of_lt (Nat.zero_le d) hd) d p (rangeL m) none hr (by rw [B2]; omega) (Nat.le_of_lt hs)
  have h1:t.drop (p+d)=c::r:=by rw [← List.drop_drop,hr,List.drop_left' (by simp)]
  refine R8 (Y:=.pf (shortW m) l h) hm ?_ (t5 rfl)
  rw [e]
  have hl:((rangeL m).drop d).length=m - d:=by rw [List.length_drop,B2]
  cases hv:(rangeL m).drop d with
  | nil=>rw [hv] at hl; simp at hl; omega
  | cons v vs=>rw [aZ0 (aH2 h1 hc (by rw [h1]; exact hq) hs hm)]; rfl
theorem L0 {c:Nat} (hm:m < 1000) (h0:0 < m) (hr:t.drop p=c::r) (hs:p < s) (hc:isB c=true) (hcb:([c]==[b])=false) :
    sem tab N (k+3) 36 [.str t,.int p,.int s,.str (List.replicate m b),.int l] h=.pf s2 l h:=by
  obtain ⟨n,rfl⟩:∃ n,m=n+1:=⟨m - 1,by omega⟩
  refine R8 (Y:=.pf s2 l h) hm ?_ (t5 rfl)
  have:rangeL (n+1)=V.int (0+((0:Nat):Int))::((List.range' 1 n).map fun (i:Nat)=>V.int (0+(i:Int))):=by
    unfold rangeL; rw [List.range_eq_range',List.range'_succ,List.map_cons]
  rw [this,aZ0 (aH3 hr hc hcb hs h0)]; rfl
end
end
end Mine
end
section
namespace Mine
open P1
section
variable (N k:Nat) (t:List Nat) (s:Nat) (ind:List Nat) (h:H) (X:R V)
noncomputable def puL (p:Nat) (l:Int) (c9 c10 c11 c12 c13:Option V):L:=[some (.str t),some (.int p),some (.int s),some (.str []),some (.str ind),some (.int l),some (.fn 47),some (.ref h.length),some (.ref (h.length+1)),c9,c10,c11,c12,c13]
noncomputable def PK (p:Nat) (l:Int) (ps:List V) (cur:List Nat):Prop :=
  ∀ (n:Nat) (ms:List V) (c9 c10 c11 c12 c13:Option V),s - p < n→MadeT ms cur →
    callR h ((wloop (mev (sem tab N (k+7)) t_32) (mex (sem tab N (k+7)) N b_32) n (puL t s ind h p l c9 c10 c11 c12 c13) (h++[ps,ms])).bind fun f h'=>seqR f h' (mex (sem tab N (k+7)) N e_32))=X
end
section
variable {N k:Nat} {t:List Nat} {s:Nat} {ind:List Nat} {h:H} {X:R V} {p:Nat} {l:Int} {ps:List V} {cur r:List Nat} {c:Nat}
theorem ad7 {H:H} {c9 c10 c11 c12 c13:Option V} (hp:p≤s):mev (sem tab N (k+7)) t_32 (puL t s ind h p l c9 c10 c11 c12 c13) H=.ok (.bool (decide (p < s))) H:=by
  unfold t_32 puL
  simp only [b8,e9,b9,b6,List.getElem?_cons_zero,List.getElem?_cons_succ,a9,a7,ap4 hp]
theorem PK.step {q:Nat} {m:Int} {ps':List V} {cur':List Nat} (hp:p < s) (hq:p < q)
    (e:∀ (ms:List V) (c9 c10 c11 c12 c13:Option V),MadeT ms cur→∃ (ms':List V) (d9 d10 d11 d12 d13:Option V),MadeT ms' cur'∧mex (sem tab N (k+7)) N b_32 (puL t s ind h p l c9 c10 c11 c12 c13) (h++[ps,ms])=.ok (.next (puL t s ind h q m d9 d10 d11 d12 d13)) (h++[ps',ms']))
    (g:PK N k t s ind h X q m ps' cur'):PK N k t s ind h X p l ps cur:=by
  intro n ms c9 c10 c11 c12 c13 hn hm
  obtain ⟨ms',d9,d10,d11,d12,d13,hm',e⟩:=e ms c9 c10 c11 c12 c13 hm
  obtain ⟨n,rfl⟩:=x9 hn
  rw [y8 ((ad7 (Nat.le_of_lt hp)).trans (by rw [decide_eq_true hp])) e]
  exact g n ms' d9 d10 d11 d12 d13 (fuel hn hp hq) hm'
theorem PK.bad {w:List Nat} {m:Int} (hp:p < s)
    (e:∀ (ms:List V) (c9 c10 c11 c12 c13:Option V),MadeT ms cur→∃ ms':List V,mex (sem tab N (k+7)) N b_32 (puL t s ind h p l c9 c10 c11 c12 c13) (h++[ps,ms])=.pf w m (h++[ps,ms']))
    (g:X=.pf w m h):PK N k t s ind h X p l ps cur:=by
  intro n ms c9 c10 c11 c12 c13 hn hm
  obtain ⟨ms',e⟩:=e ms c9 c10 c11 c12 c13 hm
  obtain ⟨n,rfl⟩:=x9 hn
  rw [au0 ((ad7 (Nat.le_of_lt hp)).trans (by rw [decide_eq_true hp])) e,g]
  exact backPf2 h ps ms'
theorem PK.done (hs:∀ H:H,(ps++tx cur).mapM (frz H h.length 7)=some (ps++tx cur)) (hp:ps.length < big) (hc:cur.length≤big) (g:X=.ok (.tup [.tup (ps++tx cur),.int s]) h):PK N k t s ind h X s l ps cur:=by
  intro n ms c9 c10 c11 c12 c13 hn hm
  obtain ⟨n,rfl⟩:=x9 hn
  rw [z7 ((ad7 (Nat.le_refl s)).trans (by rw [decide_eq_false (Nat.lt_irrefl s)])),g]
  have q1:p1V .isint (.int s) (h++[ps++tx cur,[]])=.ok (.bool true) (h++[ps++tx cur,[]]):=rfl
  have e:mex (sem tab N (k+7)) N e_32 (puL t s ind h s l c9 c10 c11 c12 c13) (h++[ps,ms])=.ok (.ret (.tup [.tup (ps++tx cur),.int s])) (h++[ps++tx cur,[]]):=by
    unfold e_32 puL
    simp only [h8,n6,A0,f7,b8,j6,y9,e9,e_p1,l9,b9,b6,List.getElem?_cons_zero,List.getElem?_cons_succ,a9,a7,f8,b5,nat1,d0,f6,f0,g9,if_true,au5 hm hp hc,tuple2a,q1]
  show callR h (mex (sem tab N (k+7)) N e_32 (puL t s ind h s l c9 c10 c11 c12 c13) (h++[ps,ms]))=_
  rw [e]
  refine back2 h _ _ (M9 ?_ rfl)
  show ((ps++tx cur).mapM (frz _ h.length 7)).map V.tup=_
  rw [hs]; rfl
theorem rows1 {h:H} (w:List Nat) (hw:w.count 10=n) (hl:w.length < big):sem tab N (k+7) 18 [.str w] h=.ok (.int (n:Nat)) h:=by
  rw [A4 hl,hw]
theorem R7 {q m:Nat} {ms:List V} {c9 c10 c11 c13:Option V} (hr:t.drop p=c::r) (hw:((c::r).take (q - p)).count 10=m) (hl:q - p < 100) :
    mex (sem tab N (k+7)) N g_32 (puL t s ind h p l c9 c10 c11 (some (.int q)) c13) (h++[ps,ms])=.ok (.next (puL t s ind h q (l+(m:Int)) c9 c10 c11 (some (.int q)) c13)) (h++[ps,ms]):=by
  have ri:=fun h=>rows1 (N:=N) (k:=k) (h:=h) (n:=m) ((c::r).take (q - p)) hw (Nat.lt_of_le_of_lt (List.length_take_le _ _) (by rw [k7]; omega))
  unfold g_32 puL
  simp only [h8,k4,j7,C4,b8,s7,e9,b9,b6,List.getElem?_cons_zero,List.getElem?_cons_succ,List.set_cons_zero,List.set_cons_succ,a9,a7,w8,b5,m6,f0,hr,ri]
theorem ap7 {ms:List V} {c9 c10 c11 c12 c13:Option V} (hr:t.drop p=c::r) (e1:∀ h,sem tab N (k+7) 29 [.str t,.int p,.int l,.fn 47] h=.ok .none h) (h3:([c]==[92])=false) (hm:ms.length < big) :
    mex (sem tab N (k+7)) N b_32 (puL t s ind h p l c9 c10 c11 c12 c13) (h++[ps,ms])=mex (sem tab N (k+7)) N (.seq d_32 (.seq .skip (.seq .skip g_32))) (puL t s ind h p l (some (.str [c])) (some .none) c11 (some (.int (p+1:Nat))) c13) (h++[ps,ms++[.str [c]]]):=by
  have ap:=ap2b h ps ms (.str [c]) hm
  unfold b_32 puL
  refine (nxa (.str [c]) (by simp only [b8,n9,List.getElem?_cons_zero,List.getElem?_cons_succ,a9,a7,b5,o7 _ (i6 hr).1])).trans ((nxa .none (by simp only [b8,e9,b9,b6,List.getElem?_cons_zero,List.getElem?_cons_succ,List.set_cons_zero,List.set_cons_succ,a9,a7,e1])).trans ((nxe2 (by simp only [b8,C3,List.getElem?_cons_zero,List.getElem?_cons_succ,List.set_cons_zero,List.set_cons_succ,a9,a7,C5])).trans ?_))
  refine (nxe2 (by simp only [f5,b8,e8,List.getElem?_cons_zero,List.getElem?_cons_succ,List.set_cons_zero,List.set_cons_succ,a9,a7,b5,i8,Option.map_some,h3])).trans ((nxx (by simp only [b8,e_p2,List.getElem?_cons_zero,List.getElem?_cons_succ,List.set_cons_zero,List.set_cons_succ,a9,a7,if_true,k8,k8,ap] <;> rfl)).trans ?_)
  refine (o8.trans (nxa (.int (p+1:Nat)) (by simp only [f7,b8,j6,List.getElem?_cons_zero,List.getElem?_cons_succ,List.set_cons_zero,List.set_cons_succ,a9,a7,f8,b5,nat1]))).trans o8
theorem PK.plain (hr:t.drop p=c::r) (hp:p < s) (h1:([c]==[36])=false) (h2:([c]==[123])=true→r.head?=some 32) (h3:([c]==[92])=false) (h4:([c]==[10])=false) (hc:cur.length < big)
    (g:PK N k t s ind h X (p+1) l ps (cur++[c])):PK N k t s ind h X p l ps cur:=by
  refine PK.step (q:=p+1) (m:=l) (ps':=ps) hp (Nat.lt_succ_self p) (fun ms c9 c10 c11 c12 c13 hm=>⟨_,some (.str [c]),some .none,c11,some (.int (p+1:Nat)),c13,hm.snoc (x:=[c]) Nat.zero_lt_one,?_⟩) g
  have e1:∀ h,sem tab N (k+7) 29 [.str t,.int p,.int l,.fn 47] h=.ok .none h:=fun h=>by
    cases b:[c]==[123] with
    | false=>exact z8 hr b h1
    | true =>
      have hh:=h2 b
      cases r with
      | nil=>cases hh
      | cons d r =>
        have:c=123:=by simpa using b
        subst this
        cases hh
        exact ai9 hr rfl
  have hc0:((c::r).take (p+1 - p)).count 10=0:=by
    have:c≠10:=by simpa using h4
    rw [Nat.add_sub_cancel_left]
    exact List.count_eq_zero.mpr (by simpa using Ne.symm this)
  refine (ap7 hr e1 h3 (Nat.lt_of_le_of_lt hm.l hc)).trans ((nxf ?_).trans (u9.trans (u9.trans ?_)))
  · unfold puL; simp only [f5,b8,e8,m8,List.getElem?_cons_zero,List.getElem?_cons_succ,a9,a7,b5,i8,u6,Option.map_some,i4,g8,Bool.false_eq_true,if_false,h4]
  · refine (R7 (N:=N) (k:=k) hr hc0 (by omega)).trans ?_
    rw [show l+((0:Nat):Int)=l from Int.add_zero l]
theorem PK.esc {q:Nat} {x:List Nat} (hr:t.drop p=92::r) (hp:p < s) (hq:p < q) (hx:0 < x.length) (hc:cur.length < big) (hw:((92::r).take (q - p)).count 10=0) (hl:q - p < 100)
    (e:∀ h,sem tab N (k+7) 24 [.str t,.int p,.str [],.int l] h=.ok (.tup [.str x,.int q]) h)
    (g:PK N k t s ind h X q l ps (cur++x)):PK N k t s ind h X p l ps cur:=by
  refine PK.step (m:=l) (ps':=ps) hp hq (fun ms c9 c10 c11 c12 c13 hm=>⟨_,some (.str [92]),some .none,c11,some (.int q),some (.str x),hm.snoc (x:=x) hx,?_⟩) g
  have e1:=fun h=>z8 (N:=N) (k:=k+6) (h:=h) (l:=l) hr rfl rfl
  have ap:=ap2b h ps ms (.str x) (Nat.lt_of_le_of_lt hm.l hc)
  refine Eq.trans ?_ ((R7 (N:=N) (k:=k) hr hw hl).trans (by rw [show l+((0:Nat):Int)=l from Int.add_zero l]))
  unfold b_32 puL
  simp only [h8,q7,k4,j7,A0,m9,f5,b8,e8,n9,e9,e_p2,C3,b9,b6,List.getElem?_cons_zero,List.getElem?_cons_succ,List.set_cons_zero,List.set_cons_succ,a9,a7,b5,i8,Option.map_some,d0,f6,f0,F1,Bool.false_eq_true,if_false,if_true,C5,k8,o7 _ (i6 hr).1,e1,beq_self_eq_true,e,k8,ap]
theorem PK.esc_bad {w:List Nat} {m:Int} (hr:t.drop p=92::r) (hp:p < s)
    (e:∀ h,sem tab N (k+7) 24 [.str t,.int p,.str [],.int l] h=.pf w m h) (g:X=.pf w m h):PK N k t s ind h X p l ps cur:=by
  refine PK.bad hp (fun ms c9 c10 c11 c12 c13 hm=>⟨ms,?_⟩) g
  have e1:=fun h=>z8 (N:=N) (k:=k+6) (h:=h) (l:=l) hr rfl rfl
  unfold b_32 puL
  simp only [h8,q7,k4,A0,m9,f5,b8,e8,n9,e9,e_p2,C3,b9,b6,List.getElem?_cons_zero,List.getElem?_cons_succ,List.set_cons_zero,List.set_cons_succ,a9,a7,z9,b5,i8,Option.map_some,d0,f6,f0,Bool.false_eq_true,if_false,if_true,C5,k8,o7 _ (i6 hr).1,e1,beq_self_eq_true,e]
noncomputable def codeL (ts:V):V:=.tup [.str [99,111,100,101],ts]
theorem PK.code {q m:Nat} {ts:V} (hr:t.drop p=c::r) (hp:p < s) (hq:p < q) (hps:ps.length+1 < big) (hc:cur.length≤big) (hw:((c::r).take (q - p)).count 10=m) (hl:q - p < 100)
    (e:∀ h,sem tab N (k+7) 29 [.str t,.int p,.int l,.fn 47] h=.ok (.tup [ts,.int q]) h)
    (g:PK N k t s ind h X q (l+(m:Int)) (ps++tx cur++[codeL ts]) []):PK N k t s ind h X p l ps cur:=by
  refine PK.step (m:=l+(m:Int)) (ps':=ps++tx cur++[codeL ts]) hp hq (fun ms c9 c10 c11 c12 c13 hm=>⟨[],some (.str [c]),some (.tup [ts,.int q]),some ts,some (.int q),c13,MadeT.nil,?_⟩) g
  have lt:(tx cur).length≤1:=by unfold tx; split <;> simp
  have ap:=ap2a h (ps++tx cur) [] (codeL ts) (by rw [List.length_append]; omega)
  unfold codeL at ap
  have pt:=au5 (N:=N) (k:=k+6) (h:=h) (ps:=ps) hm (Nat.lt_of_succ_lt hps) hc
  refine Eq.trans ?_ (R7 (N:=N) (k:=k) hr hw hl)
  unfold b_32 puL codeL
  simp only [h8,q7,k4,j7,A0,m9,f5,b8,e8,n9,e9,e_p2,l9,C3,b9,b6,List.getElem?_cons_zero,List.getElem?_cons_succ,List.set_cons_zero,List.set_cons_succ,a9,a7,W1,b5,i8,Option.map_some,d0,f6,f0,F1,if_true,aA0,k8,o7 _ (i6 hr).1,e,pt,k8,ap]
theorem PK.nl {q:Nat} (hr:t.drop p=10::r) (hp:p < s) (hq:p < q) (hc:cur.length < big) (hw:((10::r).take (q - p)).count 10=1) (hl:q - p < 100)
    (e:∀ h,sem tab N (k+7) 36 [.str t,.int (p+1:Nat),.int s,.str ind,.int (l+1)] h=.ok (.int q) h)
    (e0:ind=[]→q=p+1)
    (g:PK N k t s ind h X q (l+1) ps (cur++[10])):PK N k t s ind h X p l ps cur:=by
  refine PK.step (m:=l+1) (ps':=ps) hp hq (fun ms c9 c10 c11 c12 c13 hm=>⟨_,some (.str [10]),some .none,c11,some (.int q),c13,hm.snoc (x:=[10]) Nat.zero_lt_one,?_⟩) g
  refine (ap7 hr (fun h=>z8 (N:=N) (k:=k+6) (h:=h) (l:=l) hr rfl rfl) rfl (Nat.lt_of_le_of_lt hm.l hc)).trans (Eq.trans ?_ (u9.trans (u9.trans (R7 (N:=N) (k:=k) hr hw hl))))
  cases b:ind==[] with
  | true =>
    rw [e0 (beq_iff_eq.mp b)]
    refine nxf ?_
    unfold puL; simp only [f5,b8,e8,m8,List.getElem?_cons_zero,List.getElem?_cons_succ,a9,a7,b5,i8,u6,Option.map_some,i4,g8,ite_self,Bool.not_true,beq_self_eq_true,b]
  | false =>
    refine (nxt (by unfold puL; simp only [f5,b8,e8,m8,List.getElem?_cons_zero,List.getElem?_cons_succ,a9,a7,b5,i8,u6,Option.map_some,i4,g8,if_true,Bool.not_false,beq_self_eq_true,b])).trans ((nxa (.int q) (by unfold puL; simp only [f7,b8,j6,e9,b9,b6,List.getElem?_cons_zero,List.getElem?_cons_succ,a9,a7,f8,b5,e])).trans u9)
theorem PK.nl_bad {w:List Nat} {m:Int} (hr:t.drop p=10::r) (hp:p < s) (hc:cur.length < big) (hi:(ind==[])=false)
    (e:∀ h,sem tab N (k+7) 36 [.str t,.int (p+1:Nat),.int s,.str ind,.int (l+1)] h=.pf w m h) (g:X=.pf w m h):PK N k t s ind h X p l ps cur:=by
  refine PK.bad hp (fun ms c9 c10 c11 c12 c13 hm=>⟨ms++[.str [10]],?_⟩) g
  refine (ap7 hr (fun h=>z8 (N:=N) (k:=k+6) (h:=h) (l:=l) hr rfl rfl) rfl (Nat.lt_of_le_of_lt hm.l hc)).trans ((nxt (by unfold puL; simp only [f5,b8,e8,m8,List.getElem?_cons_zero,List.getElem?_cons_succ,a9,a7,b5,i8,u6,Option.map_some,i4,g8,if_true,Bool.not_false,beq_self_eq_true,hi])).trans ?_)
  unfold puL; simp only [h8,k4,f7,b8,j6,e9,b9,b6,List.getElem?_cons_zero,List.getElem?_cons_succ,List.set_cons_zero,List.set_cons_succ,a9,a7,z9,f8,b5,e]
end
end Mine
end
section
namespace Mine
open P1
theorem aq7 (h:H) (a b:Int):cmpV .le h (.int a) (.int b)=some (decide (a≤b)):=rfl
theorem am5:∀ {w r:List Nat},w.contains 10=false→findFrom [10] (w++10::r) 0=some w.length
  | [],r,_=>rfl
  | c::w,r,hw=>by
    have hw:(10==c || w.contains 10)=false:=hw
    obtain ⟨h1,h2⟩:=Bool.or_eq_false_iff.mp hw
    have e:startsWith (c::(w++10::r)) [10]=false:=by
      show ((c::(w++10::r)).take 1==[10])=false
      rw [List.take_succ_cons,List.take_zero,E9,Bool.beq_comm]; exact h1
    show (if startsWith (c::(w++10::r)) [10]=true then some 0 else findFrom [10] (w++10::r) (0+1))=_
    rw [e,if_neg Bool.false_ne_true,B8,am5 h2]; rfl
theorem ac0:∀ {w:List Nat},w.contains 10=false→findFrom [10] w 0=none
  | [],_=>rfl
  | c::w,hw=>by
    have hw:(10==c || w.contains 10)=false:=hw
    obtain ⟨h1,h2⟩:=Bool.or_eq_false_iff.mp hw
    have e:startsWith (c::w) [10]=false:=by
      show ((c::w).take 1==[10])=false
      rw [List.take_succ_cons,List.take_zero,E9,Bool.beq_comm]; exact h1
    show (if startsWith (c::w) [10]=true then some 0 else findFrom [10] w (0+1))=_
    rw [e,if_neg Bool.false_ne_true,B8,ac0 h2]; rfl
section
variable {t:List Nat} {p:Nat} {h:H} {w r:List Nat}
theorem ay1 (hr:t.drop p=w++10::r) (hw:w.contains 10=false) (hb:t.length < big):p3V .find (.str t) (.str [10]) (.int p) h=.ok (.int (p+w.length:Nat)) h:=by
  have:p≤t.length:=by
    have:=congrArg List.length hr
    simp at this; omega
  rw [X4 this hb (by decide),hr,am5 hw]
theorem aM1 (hp:p≤t.length) (hw:(t.drop p).contains 10=false) (hb:t.length < big):p3V .find (.str t) (.str [10]) (.int p) h=.ok (.int (-1)) h:=by
  rw [X4 hp hb (by decide),ac0 hw]
end
section
variable (N k:Nat) (t:List Nat) (s:Nat) (ind:List Nat) (h:H) (X:R V)
noncomputable def rwL (p:Nat) (l:Int) (c6 c7:Option V):L:=[some (.str t),some (.int p),some (.int s),some (.str ind),some (.int l),some (.ref h.length),c6,c7]
noncomputable def RK (p:Nat) (l:Int) (cur:List Nat):Prop :=
  ∀ (n:Nat) (ms:List V) (c6 c7:Option V),s - p < n→joinL ms=some cur→ms.length≤p →
    callR h ((wloop (mev (sem tab N (k+3)) t_37) (mex (sem tab N (k+3)) N b_37) n (rwL t s ind h p l c6 c7) (h++[ms])).bind fun f h'=>seqR f h' (mex (sem tab N (k+3)) N (.seq (.ret (.p2 .join (.str []) (.var 5))) .skip)))=X
end
section
variable {N k:Nat} {t:List Nat} {s:Nat} {ind:List Nat} {h:H} {X:R V} {p q:Nat} {l:Int} {cur w r:List Nat}
theorem ad5 {H:H} {c6 c7:Option V} {C:Calls}:mev C t_37 (rwL t s ind h p l c6 c7) H=.ok (.bool (decide (p < s))) H:=by
  have q2:decide ((p:Int) < (s:Int))=decide (p < s):=by
    rw [Bool.eq_iff_iff]; simp only [decide_eq_true_eq]; omega
  unfold t_37 rwL
  simp only [b8,e8,List.getElem?_cons_zero,List.getElem?_cons_succ,a9,a7,b5,t7,Option.map_some,q2]
theorem aq9 (h:H) (ms:List V) (x:List Nat) (e:joinL ms=some x) (hx:x.length≤big):p2V .join (.str []) (.ref h.length) (h++[ms])=.ok (.str x) (h++[ms]):=by
  refine U4 (q:=(.str x,h++[ms])) ?_
  show Option.bind ((h++[ms])[h.length]?) _=_; rw [Y4]
  show Option.bind (joinL ms) _=_; rw [e]; exact if_pos ⟨rfl,hx⟩
theorem RK.done (hc:cur.length≤big) (g:X=.ok (.str cur) h):RK N k t s ind h X s l cur:=by
  intro n ms c6 c7 hn hm hl
  obtain ⟨n,rfl⟩:=x9 hn
  rw [z7 (ad5.trans (by rw [decide_eq_false (Nat.lt_irrefl s)])),g]
  have e:mex (sem tab N (k+3)) N (.seq (.ret (.p2 .join (.str []) (.var 5))) .skip) (rwL t s ind h s l c6 c7) (h++[ms])=.ok (.ret (.str cur)) (h++[ms]):=by
    unfold rwL
    simp only [h8,n6,f5,b8,e_p2,List.getElem?_cons_zero,List.getElem?_cons_succ,a9,a7,g9,if_true,C6,aq9 h ms cur hm hc]
  show callR h (mex (sem tab N (k+3)) N _ _ (h++[ms]))=_
  rw [e]
  exact I6 rfl
theorem RK.bad {v:List Nat} {m:Int} (hp:p < s) (e:∀ h,sem tab N (k+3) 36 [.str t,.int p,.int s,.str ind,.int l] h=.pf v m h) (g:X=.pf v m h):RK N k t s ind h X p l cur:=by
  intro n ms c6 c7 hn hm hl
  obtain ⟨n,rfl⟩:=x9 hn
  have e2:mex (sem tab N (k+3)) N b_37 (rwL t s ind h p l c6 c7) (h++[ms])=.pf v m (h++[ms]):=by
    unfold b_37 rwL
    refine L9 ?_
    simp only [k4,b8,e9,b9,b6,List.getElem?_cons_zero,List.getElem?_cons_succ,List.set_cons_zero,List.set_cons_succ,a9,a7,z9,e]
  rw [au0 (ad5.trans (by rw [decide_eq_true hp])) e2,g]
  exact Q6
theorem RK.row {b v:Nat} (hp:p < s) (hb:t.length < big) (hs:s≤t.length) (e:∀ h,sem tab N (k+3) 36 [.str t,.int p,.int s,.str ind,.int l] h=.ok (.int q) h)
    (hr:t.drop q=w++10::r) (hw:w.contains 10=false) (hv:q+w.length=v) (hbv:b=if v < s then v+1 else s) (hpb:p < b) (hqb:q≤b)
    (g:RK N k t s ind h X b (l+1) (cur++(t.drop q).take (b - q))):RK N k t s ind h X p l cur:=by
  intro n ms c6 c7 hn hm hl
  obtain ⟨n,rfl⟩:=x9 hn
  have fd:p3V .find (.str t) (.str [10]) (.int q) (h++[ms])=_:=ay1 (h:=h++[ms]) hr hw hb
  rw [hv] at fd
  have ap:=y7 h ms (.str ((t.drop q).take (b - q))) (by omega)
  have q0:decide ((0:Int)≤(v:Int))=true:=by rw [decide_eq_true_eq]; omega
  have q1:mev (sem tab N (k+3)) (.ite (.cmp2 .le .lt (.int 0) (.var 6) (.var 2)) (.bin .add (.var 6) (.int 1)) (.var 2)) [some (.str t),some (.int q),some (.int s),some (.str ind),some (.int l),some (.ref h.length),some (.int v),c7] (h++[ms])=.ok (.int b) (h++[ms]):=by
    cases z:decide (v < s) with
    | true =>
      have q2:decide ((v:Int) < (s:Int))=true:=by rw [decide_eq_true_eq]; have:=of_decide_eq_true z; omega
      rw [if_pos (of_decide_eq_true z)] at hbv
      simp only [af7,J5,aq7,f7,b8,j6,y9,List.getElem?_cons_zero,List.getElem?_cons_succ,a9,a7,f8,b5,nat1,t7,Option.map_some,d0,f6,if_true,q0,q2,hbv]
    | false =>
      have q2:decide ((v:Int) < (s:Int))=false:=by rw [decide_eq_false_iff_not]; have:=of_decide_eq_false z; omega
      rw [if_neg (of_decide_eq_false z)] at hbv
      simp only [af7,J5,aq7,f7,b8,j6,y9,List.getElem?_cons_zero,List.getElem?_cons_succ,a9,a7,f8,b5,nat1,t7,Option.map_some,d0,f6,Bool.false_eq_true,if_false,ite_self,q0,q2,hbv]
  have e2:mex (sem tab N (k+3)) N b_37 (rwL t s ind h p l c6 c7) (h++[ms])=.ok (.next (rwL t s ind h b (l+1) (some (.int v)) (some (.int b)))) (h++[ms++[.str ((t.drop q).take (b - q))]]):=by
    unfold b_37 rwL
    refine (nxa (.int q) (by simp only [b8,e9,b9,b6,List.getElem?_cons_zero,List.getElem?_cons_succ,a9,a7,e])).trans ((nxa (.int v) ((m_p3 rfl rfl rfl rfl).trans fd)).trans ((nxa (.int b) q1).trans ?_))
    simp only [h8,k4,j7,A0,C4,f7,b8,s7,e_p2,List.getElem?_cons_zero,List.getElem?_cons_succ,List.set_cons_zero,List.set_cons_succ,a9,a7,w8,b5,m6,f0,if_true,k8,k8,ap]
  rw [y8 (ad5.trans (by rw [decide_eq_true hp])) e2]
  exact g n _ _ _ (fuel hn hp hpb) (J4 hm) (by rw [List.length_append]; simp only [List.length_cons,List.length_nil]; omega)
theorem aQ6 (hN:s - p < N) (g:RK N k t s ind h X p l []):sem tab N (k+4) 37 [.str t,.int p,.int s,.str ind,.int l] h=X:=by
  rw [t9 (d:=f_raw_body) rfl rfl]
  exact (congrArg (callR h) (i5 (r9 rfl))).trans (g N [] none none hN rfl (Nat.zero_le _))
end
section
variable (N k:Nat) (t:List Nat) (a:Nat) (lab:List Nat) (l:Int) (h:H) (X:R V)
noncomputable def heL (p:Nat) (c5 c6 c7 c8 c9:Option V):L:=[some (.str t),some (.int a),some (.str lab),some (.int l),some (.int p),c5,c6,c7,c8,c9]
noncomputable def HK (p:Nat):Prop :=
  ∀ (n:Nat) (c5 c6 c7 c8 c9:Option V),t.length+1 - p < n →
    callR h ((wloop (mev (sem tab N (k+2)) t_35) (mex (sem tab N (k+2)) N b_35) n (heL t a lab l p c5 c6 c7 c8 c9) h).bind fun f h'=>seqR f h' (mex (sem tab N (k+2)) N (.seq (.raiseEnd (.var 3)) .skip)))=X
noncomputable def noLab (lab r:List Nat):Bool:=!(r.take lab.length==lab) || match r.drop lab.length with | []=>false | c::_=>sgn.contains c&&isNg c
end
section
variable {N k:Nat} {t:List Nat} {a:Nat} {lab:List Nat} {l:Int} {h:H} {X:R V} {p:Nat} {bl w r:List Nat}
theorem I4 {c5 c6 c7 c8 c9:Option V} {C:Calls}:mev C t_35 (heL t a lab l p c5 c6 c7 c8 c9) h=.ok (.bool (decide (p≤t.length))) h:=by
  have q2:decide ((p:Int)≤(t.length:Int))=decide (p≤t.length):=by
    rw [Bool.eq_iff_iff]; simp only [decide_eq_true_eq]; omega
  unfold t_35 heL
  simp only [b8,e8,e_p1,List.getElem?_cons_zero,List.getElem?_cons_succ,a9,a7,b5,Option.map_some,t0,aq7,q2]
theorem aU1 (a:Nat) (l:List Nat):(a:Int)+(l.length:Int)=((a+l.length:Nat):Int):=rfl
theorem W9 {c5 c6 c7 c8 c9:Option V} {b:MS} (hr:t.drop p=bl++r) (hbl:bl.all isB=true) (hs:stopG isB r=true) (hN:bl.length < N) :
    mex (sem tab N (k+2)) N (.seq (.assign 5 (.call 7 (.cons (.var 0) (.cons (.var 4) .nil)))) (.seq (.assign 6 (.bin .add (.var 5) (.p1 .len (.var 2)))) b)) (heL t a lab l p c5 c6 c7 c8 c9) h=mex (sem tab N (k+2)) N b (heL t a lab l p (some (.int (p+bl.length:Nat))) (some (.int (p+bl.length+lab.length:Nat))) c7 c8 c9) h:=by
  unfold heL
  exact (nxa (.int (p+bl.length:Nat)) (by simp only [b8,e9,b9,b6,List.getElem?_cons_zero,List.getElem?_cons_succ,a9,a7,T5 hr hbl hs hN])).trans (nxa (.int (p+bl.length+lab.length:Nat)) (by simp only [b8,j6,e_p1,List.getElem?_cons_zero,List.getElem?_cons_succ,List.set_cons_zero,List.set_cons_succ,a9,a7,f8,b5,t0,aU1]))
theorem aY9 {c7 c8 c9:Option V} (hr:t.drop p=bl++r) (hn:noLab lab r=true) :
    mev (sem tab N (k+2)) (.and (.cmp .eq (.slc (.var 0) (.var 5) (.var 6)) (.var 2)) (.not (.call 3 (.cons (.call 17 (.cons (.var 0) (.cons (.var 6) .nil))) .nil)))) (heL t a lab l p (some (.int (p+bl.length:Nat))) (some (.int (p+bl.length+lab.length:Nat))) c7 c8 c9) h=.ok (.bool false) h:=by
  have d1:=y0 hr
  have d2:t.drop (p+bl.length+lab.length)=r.drop lab.length:=by rw [← List.drop_drop,d1]
  unfold heL
  cases b:(r.take lab.length==lab) with
  | false=>simp only [b8,e8,m8,Q4,s7,e9,b9,b6,List.getElem?_cons_zero,List.getElem?_cons_succ,a9,a7,b5,m6,i8,Option.map_some,i4,Nat.add_sub_cancel_left,Bool.false_eq_true,if_false,d1,b]
  | true =>
    have hn:(match r.drop lab.length with | []=>false | c::_=>sgn.contains c&&isNg c)=true:=by
      unfold noLab at hn; rw [b] at hn; exact hn
    cases hd:r.drop lab.length with
    | nil=>rw [hd] at hn; cases hn
    | cons c s =>
      rw [hd] at hn d2
      obtain ⟨n1,n2⟩:=Bool.and_eq_true_iff.mp hn
      simp only [b8,e8,m8,Q4,s7,e9,b9,b6,List.getElem?_cons_zero,List.getElem?_cons_succ,a9,a7,b5,m6,i8,Option.map_some,i4,F6,g8,Nat.add_sub_cancel_left,ite_self,Bool.not_true,d1,b,i7,d2,List.take_succ_cons,List.take_zero,ad2 (List.contains_iff_mem.mp n1),n2]
theorem bd5 (hr:t.drop p=w++r) (hw:0 < (w++r).length):p≤t.length:=by
  have:=congrArg List.length hr
  rw [List.length_drop] at this; omega
theorem HK.next {r2:List Nat} (hr:t.drop p=bl++r) (hbl:bl.all isB=true) (hs:stopG isB r=true) (hN:bl.length < N) (hn:noLab lab r=true)
    (hl:t.drop p=w++10::r2) (hw:w.contains 10=false) (hb:t.length < big) (g:HK N k t a lab l h X (p+w.length+1)):HK N k t a lab l h X p:=by
  intro n c5 c6 c7 c8 c9 hn2
  obtain ⟨n,rfl⟩:=x9 hn2
  have hp:=bd5 (w:=w) hl (by simp; omega)
  have fd:p3V .find (.str t) (.str [10]) (.int p) h=_:=ay1 (h:=h) hl hw hb
  have q0:decide ((0:Int)≤((p+w.length:Nat):Int))=true:=by rw [decide_eq_true_eq]; omega
  have e2:mex (sem tab N (k+2)) N b_35 (heL t a lab l p c5 c6 c7 c8 c9) h=.ok (.next (heL t a lab l (p+w.length+1) (some (.int (p+bl.length:Nat))) (some (.int (p+bl.length+lab.length:Nat))) (some (.int (p+w.length:Nat))) c8 c9)) h:=by
    refine (W9 hr hbl hs hN).trans ((nxf (aY9 hr hn)).trans ((nxa (.int (p+w.length:Nat)) ((m_p3 rfl rfl rfl rfl).trans fd)).trans ?_))
    unfold heL
    simp only [h8,k4,j7,f7,b8,j6,e8,y9,e_p1,List.getElem?_cons_zero,List.getElem?_cons_succ,List.set_cons_zero,List.set_cons_succ,a9,a7,f8,b5,nat1,C9,Option.map_some,d0,f6,f0,t0,if_true,q0]
  rw [y8 (I4.trans (by rw [decide_eq_true hp])) e2]
  exact g n _ _ _ _ _ (fuel hn2 (Nat.lt_succ_of_le hp) (Nat.lt_succ_of_le (Nat.le_add_right _ _)))
theorem pos_2 {p t n:Nat} (hp:p≤t) (h:t+1 - p < n):∃ m,n=m+2:=by
  obtain ⟨m,rfl⟩:=x9 h
  obtain ⟨k,rfl⟩:=x9 (Nat.lt_of_lt_of_le (Nat.sub_pos_of_lt (Nat.lt_succ_of_le hp)) (Nat.le_of_lt_succ h))
  exact ⟨k,rfl⟩
theorem HK.last (hr:t.drop p=bl++r) (hbl:bl.all isB=true) (hs:stopG isB r=true) (hN:bl.length < N) (hn:noLab lab r=true)
    (hp:p≤t.length) (hw:(t.drop p).contains 10=false) (hb:t.length < big) (g:X=.pf s6 l h):HK N k t a lab l h X p:=by
  intro n c5 c6 c7 c8 c9 hn2
  obtain ⟨n,rfl⟩:=pos_2 hp hn2
  have fd:=aM1 (h:=h) hp hw hb
  have q0:decide ((0:Int)≤-1)=false:=rfl
  have e2:mex (sem tab N (k+2)) N b_35 (heL t a lab l p c5 c6 c7 c8 c9) h=.ok (.next (heL t a lab l (t.length+1) (some (.int (p+bl.length:Nat))) (some (.int (p+bl.length+lab.length:Nat))) (some (.int (-1))) c8 c9)) h:=by
    refine (W9 hr hbl hs hN).trans ((nxf (aY9 hr hn)).trans ((nxa (.int (-1)) ((m_p3 rfl rfl rfl rfl).trans fd)).trans ?_))
    unfold heL
    simp only [h8,k4,j7,f7,b8,j6,e8,y9,e_p1,List.getElem?_cons_zero,List.getElem?_cons_succ,List.set_cons_zero,List.set_cons_succ,a9,a7,f8,b5,nat1,C9,Option.map_some,d0,f6,f0,t0,Bool.false_eq_true,if_false,q0]
  rw [y8 (I4.trans (by rw [decide_eq_true hp])) e2,z7 (I4.trans (by rw [decide_eq_false (Nat.not_succ_le_self _)])),g]
  exact t5 rfl
noncomputable def endLab (lab r:List Nat):Bool:=r.take lab.length==lab&&stopB isNg (r.drop lab.length)
theorem bd4 {c7 c8 c9:Option V} (hr:t.drop p=bl++r) (hn:endLab lab r=true) :
    mev (sem tab N (k+2)) (.and (.cmp .eq (.slc (.var 0) (.var 5) (.var 6)) (.var 2)) (.not (.call 3 (.cons (.call 17 (.cons (.var 0) (.cons (.var 6) .nil))) .nil)))) (heL t a lab l p (some (.int (p+bl.length:Nat))) (some (.int (p+bl.length+lab.length:Nat))) c7 c8 c9) h=.ok (.bool true) h:=by
  have d1:=y0 hr
  have d2:t.drop (p+bl.length+lab.length)=r.drop lab.length:=by rw [← List.drop_drop,d1]
  obtain ⟨b,hn⟩:=Bool.and_eq_true_iff.mp hn
  unfold heL
  cases hd:r.drop lab.length with
  | nil =>
    rw [hd] at d2
    simp only [b8,e8,m8,Q4,s7,e9,b9,b6,List.getElem?_cons_zero,List.getElem?_cons_succ,a9,a7,b5,m6,i8,Option.map_some,i4,F6,g8,Nat.add_sub_cancel_left,if_true,Bool.not_false,d1,b,i7,d2,List.take_nil,aQ8]
  | cons c s =>
    rw [hd] at hn d2
    obtain ⟨n1,n2⟩:sgn.contains c=true∧(!isNg c)=true:=Bool.and_eq_true_iff.mp hn
    have n2:isNg c=false:=by simpa using n2
    simp only [b8,e8,m8,Q4,s7,e9,b9,b6,List.getElem?_cons_zero,List.getElem?_cons_succ,a9,a7,b5,m6,i8,Option.map_some,i4,F6,g8,Nat.add_sub_cancel_left,if_true,Bool.not_false,d1,b,i7,d2,List.take_succ_cons,List.take_zero,ad2 (List.contains_iff_mem.mp n1),n2]
theorem aK4 (h:H) (l:List Nat) (c:Nat):cmpV .isin h (.str [c]) (.str l)=some (l.contains c):=rfl
noncomputable def isMix (bl:List Nat):Bool:=bl.contains 32&&bl.contains 9
theorem ar5 {H:H} {L:L} {C:Calls} {b:Bool} (e:mev C (.var 8) L H=.ok (.str bl) H) (hb:isMix bl=b):mev C (.and (.cmp .isin (.str [32]) (.var 8)) (.cmp .isin (.str [9]) (.var 8))) L H=.ok (.bool b) H:=by
  rw [← hb]; unfold isMix
  rw [b8] at e
  cases c:bl.contains 32 <;> simp only [f5,b8,e8,m8,a7,b5,Option.map_some,i4,g8,Bool.false_eq_true,if_false,if_true,e,aK4,c,Bool.true_and,Bool.false_and]
theorem ar6 {c5 c6 c7 c8 c9:Option V} {Y:R Fl} (hr:t.drop p=bl++r) (hbl:bl.all isB=true) (hs:stopG isB r=true) (hN:bl.length < N) (hn:endLab lab r=true)
    (e:∀ c,mex (sem tab N (k+2)) N (.seq (.ite (.and (.cmp .isin (.str [32]) (.var 8)) (.cmp .isin (.str [9]) (.var 8))) (.seq (.raise (.str s2) (.var 3)) .skip) .skip) (.seq i_35 c)) (heL t a lab l p (some (.int (p+bl.length:Nat))) (some (.int (p+bl.length+lab.length:Nat))) c7 (some (.str bl)) c9) h=Y):mex (sem tab N (k+2)) N b_35 (heL t a lab l p c5 c6 c7 c8 c9) h=Y:=by
  refine (W9 hr hbl hs hN).trans ((nxt (bd4 hr hn)).trans ((nxa (.str bl) ?_).trans (o8.trans (e _))))
  have n1:p+bl.length - p=bl.length:=Nat.add_sub_cancel_left ..
  unfold heL
  simp only [b8,s7,List.getElem?_cons_zero,List.getElem?_cons_succ,a9,a7,b5,m6,hr,n1,List.take_left']
theorem HK.mixed (hp:p≤t.length) (hr:t.drop p=bl++r) (hbl:bl.all isB=true) (hs:stopG isB r=true) (hN:bl.length < N) (hn:endLab lab r=true) (hm:isMix bl=true) (g:X=.pf s2 l h):HK N k t a lab l h X p:=by
  intro n c5 c6 c7 c8 c9 hn2
  obtain ⟨n,rfl⟩:=x9 hn2
  rw [au0 (h':=h) (I4.trans (by rw [decide_eq_true hp])) (ar6 hr hbl hs hN hn fun c=>(nxt (ar5 rfl hm)).trans (L9 (aw6 rfl rfl))),g]
  exact t5 rfl
theorem HK.at0 (hp:a≤t.length) (hr:t.drop a=bl++r) (hbl:bl.all isB=true) (hs:stopG isB r=true) (hN:bl.length < N) (hn:endLab lab r=true) (hm:isMix bl=false) (g:X=.ok (.tup [.int a,.str bl,.int (a+bl.length+lab.length:Nat)]) h):HK N k t a lab l h X a:=by
  intro n c5 c6 c7 c8 c9 hn2
  obtain ⟨n,rfl⟩:=x9 hn2
  rw [an5 (v:=.tup [.int a,.str bl,.int (a+bl.length+lab.length:Nat)]) (h'':=h) (I4.trans (by rw [decide_eq_true hp])) (ar6 hr hbl hs hN hn fun c=>(nxf (ar5 rfl hm)).trans (by unfold i_35 heL; simp only [h8,q7,n6,j7,b8,e8,l9,b9,b6,List.getElem?_cons_zero,List.getElem?_cons_succ,a9,a7,b5,r7,Option.map_some,d0,f6,g9,if_true,beq_self_eq_true])),g]
  exact f9 rfl
theorem HK.found {e:Nat} (hp:p≤t.length) (ha:a < p) (he:(a+2≤p∧t[p - 2]?=some 13∧e+2=p)∨(e+1=p∧(p < a+2∨∃ c,t[p - 2]?=some c∧([c]==[13])=false)))
    (hr:t.drop p=bl++r) (hbl:bl.all isB=true) (hs:stopG isB r=true) (hN:bl.length < N) (hn:endLab lab r=true) (hm:isMix bl=false) (g:X=.ok (.tup [.int e,.str bl,.int (p+bl.length+lab.length:Nat)]) h):HK N k t a lab l h X p:=by
  intro n c5 c6 c7 c8 c9 hn2
  obtain ⟨n,rfl⟩:=x9 hn2
  have q1:((p:Int)==(a:Int))=false:=by rw [beq_eq_false_iff_ne]; omega
  have ev:∀ C c7,mev C (.ite (.and (.cmp .ge (.bin .sub (.var 4) (.int 2)) (.var 1)) (.cmp .eq (.idx (.var 0) (.bin .sub (.var 4) (.int 2))) (.str [13]))) (.bin .sub (.var 4) (.int 2)) (.bin .sub (.var 4) (.int 1))) [some (.str t),some (.int a),some (.str lab),some (.int l),some (.int p),some (.int (p+bl.length:Nat)),some (.int (p+bl.length+lab.length:Nat)),c7,some (.str bl),c9] h=.ok (.int e) h:=fun C c7=>by
    rcases he with ⟨h1,h2,h3⟩ | ⟨h1,h2⟩
    · have q2:decide ((a:Int)≤(p:Int) - 2)=true:=by rw [decide_eq_true_eq]; omega
      have q3:(p:Int) - 2=(e:Int):=by omega
      rw [show p - 2=e by omega] at h2
      rw [q3] at q2
      simp only [f7,f5,b8,j6,e8,m8,y9,n9,List.getElem?_cons_zero,List.getElem?_cons_succ,a9,a7,H9,b5,i8,C9,Option.map_some,d0,f6,i4,g8,if_true,q3,q2,o7 _ h2,beq_self_eq_true]
    · have q3:(p:Int) - 1=(e:Int):=by omega
      rcases h2 with h2 | ⟨c,h2,h4⟩
      · have q2:decide ((a:Int)≤(p:Int) - 2)=false:=by rw [decide_eq_false_iff_not]; omega
        simp only [f7,f5,b8,j6,e8,m8,y9,n9,List.getElem?_cons_zero,List.getElem?_cons_succ,a9,a7,H9,b5,C9,Option.map_some,d0,f6,i4,Bool.false_eq_true,if_false,q3,q2]
      · cases z:decide ((a:Int)≤(p:Int) - 2) with
        | false=>simp only [f7,f5,b8,j6,e8,m8,y9,n9,List.getElem?_cons_zero,List.getElem?_cons_succ,a9,a7,H9,b5,C9,Option.map_some,d0,f6,i4,Bool.false_eq_true,if_false,q3,z]
        | true =>
          have q5:(p:Int) - 2=((p - 2:Nat):Int):=by have:=of_decide_eq_true z; omega
          rw [q5] at z
          simp only [f7,f5,b8,j6,e8,m8,y9,n9,List.getElem?_cons_zero,List.getElem?_cons_succ,a9,a7,H9,b5,i8,C9,Option.map_some,d0,f6,i4,g8,Bool.false_eq_true,if_false,ite_self,q3,q5,z,o7 _ h2,h4]
  rw [an5 (v:=.tup [.int e,.str bl,.int (p+bl.length+lab.length:Nat)]) (h'':=h) (I4.trans (by rw [decide_eq_true hp])) (ar6 hr hbl hs hN hn fun c=>(nxf (ar5 rfl hm)).trans (by unfold i_35 heL; simp only [h8,q7,k4,n6,j7,b8,e8,l9,b9,b6,List.getElem?_cons_zero,List.getElem?_cons_succ,List.set_cons_zero,List.set_cons_succ,a9,a7,b5,r7,Option.map_some,d0,f6,f0,g9,Bool.false_eq_true,if_false,q1,ev])),g]
  exact f9 rfl
theorem ap0 (hN:t.length+1 - a < N) (g:HK N k t a lab l h X a):sem tab N (k+3) 35 [.str t,.int a,.str lab,.int l] h=X:=by
  rw [t9 (d:=f_heredoc_end) rfl rfl]
  exact (congrArg (callR h) (nxa (.int a) rfl)).trans (g N none none none none none hN)
end
end Mine
end
section
namespace Mine
open P1
noncomputable def labs:List (List Nat):=[[69,79,84],[65],[95,120],[233,49]]
noncomputable def labB (lab:List Nat):Bool:=lab.all (fun c=>sgn.contains c&&isNg c)&&match lab with | []=>false | c::_=>isNs c&&!isB c&&!([[39],[34]].any (·==[c]))&&sgn.contains c
theorem ax2:labs.all labB=true:=by decide
noncomputable def isQ (q:List Nat):Bool:=[[],[34],[39]].contains q
theorem q_is {P:List Nat→Prop} (a:P []) (b:P [34]) (c:P [39]) {q:List Nat} (h:isQ q=true):P q:=by
  have:q∈[[],[34],[39]]:=List.contains_iff_mem.mp h
  simp only [List.mem_cons,List.not_mem_nil,or_false] at this
  rcases this with rfl | rfl | rfl
  · exact a
  · exact b
  · exact c
section
variable {N k p:Nat} {t r:List Nat} {h:H} {l:Int}
theorem aI2 {nl:List Nat} (hnl:isNl nl=true):nlN (nl++r)=nl.length:=E4 (P:=fun nl=>nlN (nl++r)=nl.length) rfl rfl hnl
theorem aT3 {nl:List Nat} (hnl:isNl nl=true):stopB isNg (nl++r)=true:=E4 (P:=fun nl=>stopB isNg (nl++r)=true) rfl rfl hnl
theorem O7 {nl:List Nat} (hnl:isNl nl=true):0 < nl.length:=E4 (P:=fun nl=>0 < nl.length) (by decide) (by decide) hnl
theorem aG0 {bl q lab nl:List Nat} (hr:t.drop p=60::60::60::(bl++(q++(lab++(q++(nl++r)))))) (hb:bl.all isB=true) (hq:isQ q=true) (hl:labB lab=true) (hnl:isNl nl=true) (hN:t.length < N) :
    sem tab N (k+4) 34 [.str t,.int p] h=.ok (.tup [.str lab,.bool (q==[39]),.int (p+3+bl.length+q.length+lab.length+q.length+nl.length:Nat)]) h:=by
  obtain ⟨l1,l2⟩:=Bool.and_eq_true_iff.mp hl
  have l1:∀ c∈lab,c∈sgn∧isNg c=true:=fun c hc=>by
    have:=List.all_eq_true.mp l1 c hc
    exact (Bool.and_eq_true_iff.mp this).imp List.contains_iff_mem.mp id
  have i1:∀ p,cmpV .isin h (.str p) (.tup [.str [39],.str [34]])=some ([[39],[34]].any (·==p)):=fun p=>rfl
  have d3:t.drop (p+3)=bl++(q++(lab++(q++(nl++r)))):=g6 (g6 (g6 hr))
  have d4:=y0 d3
  have d5:=y0 d4
  have d6:=y0 d5
  have d7:=y0 d6
  cases lab with
  | nil=>cases l2
  | cons c0 w =>
  obtain ⟨l3,l6⟩:=Bool.and_eq_true_iff.mp (show (isNs c0&&!isB c0&&!([[39],[34]].any (·==[c0]))&&sgn.contains c0)=true from l2)
  obtain ⟨l3,l5⟩:=Bool.and_eq_true_iff.mp l3
  obtain ⟨l3,l4⟩:=Bool.and_eq_true_iff.mp l3
  have l4:isB c0=false:=by simpa using l4
  have l5:([[39],[34]].any (·==[c0]))=false:=by simpa using l5
  have ns:=fun h=>N9 (N:=N) (k:=k+2) (h:=h) (List.contains_iff_mem.mp l6)
  have e1:sem tab N (k+3) 7 [.str t,.int (p+3:Nat)] h=.ok (.int (p+3+bl.length:Nat)) h:=T5 d3 hb (q_is (P:=fun q=>stopG isB (q++(c0::w++(q++(nl++r))))=true) (by show (!isB c0)=true; rw [l4]; rfl) rfl rfl hq) (aq6 d3 hN)
  have e2:sem tab N (k+3) 4 [.str t,.int (p+3+bl.length+q.length:Nat)] h=.ok (.int (p+3+bl.length+q.length+(c0::w).length:Nat)) h:=D5 d5 l1 (q_is (P:=fun q=>stopB isNg (q++(nl++r))=true) (aT3 (r:=r) (nl:=nl) hnl) rfl rfl hq) (aq6 d5 hN)
  have n1:p+3+bl.length+q.length+(c0::w).length - (p+3+bl.length+q.length)=(c0::w).length:=Nat.add_sub_cancel_left ..
  have t1:(t.drop (p+3+bl.length+q.length)).take (c0::w).length=c0::w:=by rw [d5,List.take_left' rfl]
  have s1:(t.drop (p+3+bl.length+q.length)).take 1=[c0]:=by rw [d5]; rfl
  have q6:(((p+3+bl.length+q.length+(c0::w).length+q.length+nl.length:Nat):Int)==((p+3+bl.length+q.length+(c0::w).length+q.length:Nat):Int))=false:=by
    rw [beq_eq_false_iff_ne]; have:=O7 hnl; omega
  have nn:=B6 (N:=N) (k:=k+1) (t:=t) (p:=p+3+bl.length+q.length+(c0::w).length+q.length) (h:=h)
  rw [d7,aI2 hnl] at nn
  have q0:∀ x:List Nat,((60::60::60::x).take 3==[60,60,60])=true:=fun x=>rfl
  refine i9 (d:=f_heredoc_head) rfl rfl ?_ (f9 rfl)
  show mex _ N f_heredoc_head.body [some (.str t),some (.int p),none,none,none,none] h=_
  refine (nxf (by simp only [List.cons_append,f7,f5,b8,j6,e8,s7,List.getElem?_cons_zero,List.getElem?_cons_succ,a9,a7,f8,b5,nat3,m6,u6,Option.map_some,Nat.add_sub_cancel_left,Bool.not_true,hr,q0])).trans ((nxa (.int (p+3+bl.length:Nat)) (by simp only [f7,b8,j6,e9,b9,b6,List.getElem?_cons_zero,List.getElem?_cons_succ,a9,a7,f8,b5,nat3,e1])).trans ?_)
  have hz:=List.contains_iff_mem.mp hq
  simp only [List.mem_cons,List.not_mem_nil,or_false] at hz
  rcases hz with rfl | hz
  · have s2:(t.drop (p+3+bl.length)).take 1=[c0]:=s1
    have q8:([c0]==[39])=false:=by
      have:([[39],[34]].any (·==[c0]))=false:=l5
      simp only [List.any_cons,Bool.or_eq_false_iff] at this
      rw [← this.1,Bool.beq_comm]
    simp only [List.length_nil,Nat.add_zero] at e2 n1 t1 q6 nn s1
    refine (nxa (.str [c0]) (by simp only [b8,e9,b9,b6,List.getElem?_cons_zero,List.getElem?_cons_succ,List.set_cons_zero,List.set_cons_succ,a9,a7,i7,s2])).trans ((nxf (by simp only [f5,b8,e8,l9,b9,b6,List.getElem?_cons_zero,List.getElem?_cons_succ,List.set_cons_zero,List.set_cons_succ,a9,a7,b5,Option.map_some,i1,l5])).trans ((nxa _ (by simp only [b8,e9,b9,b6,List.getElem?_cons_zero,List.getElem?_cons_succ,List.set_cons_zero,List.set_cons_succ,a9,a7,e2]; rfl)).trans ((nxa _ (by simp only [b8,List.getElem?_cons_zero,List.getElem?_cons_succ,List.set_cons_zero,List.set_cons_succ,a9]; rfl)).trans ((nxf (by simp only [f5,b8,e8,l9,b9,b6,List.getElem?_cons_zero,List.getElem?_cons_succ,List.set_cons_zero,List.set_cons_succ,a9,a7,b5,Option.map_some,i1,l5])).trans ((nxf (by simp only [b8,e8,e_or,Q4,e9,b9,b6,List.getElem?_cons_zero,List.getElem?_cons_succ,List.set_cons_zero,List.set_cons_succ,a9,a7,b5,r7,Option.map_some,A7,F6,g8,Bool.false_eq_true,if_false,Bool.not_true,i7,s1,ns,l3,nn,q6])).trans ?_)))))
    simp only [h8,n6,f5,b8,e8,s7,e9,l9,b9,b6,List.getElem?_cons_zero,List.getElem?_cons_succ,List.set_cons_zero,List.set_cons_succ,a9,a7,b5,m6,i8,Option.map_some,g9,n1,t1,nn,q8,List.length_nil,Nat.add_zero]
    rfl
  · obtain ⟨x,rfl,hx⟩:∃ x,q=[x]∧([[39],[34]].any (·==[x]))=true:=by rcases hz with rfl | rfl <;> exact ⟨_,rfl,rfl⟩
    have s2:(t.drop (p+3+bl.length)).take 1=[x]:=by rw [d4]; rfl
    have s6:(t.drop (p+3+bl.length + [x].length+(c0::w).length)).take 1=[x]:=by rw [d6]; rfl
    refine (nxa (.str [x]) (by simp only [b8,e9,b9,b6,List.getElem?_cons_zero,List.getElem?_cons_succ,List.set_cons_zero,List.set_cons_succ,a9,a7,i7,s2])).trans ((nxt (by simp only [f5,b8,e8,l9,b9,b6,List.getElem?_cons_zero,List.getElem?_cons_succ,List.set_cons_zero,List.set_cons_succ,a9,a7,b5,Option.map_some,i1,hx])).trans ((i5 (loc':=[some (.str t),some (.int p),some (.int (p+3+bl.length + [x].length:Nat)),some (.str [x]),none,none]) (by simp only [C4,f7,b8,List.getElem?_cons_zero,List.getElem?_cons_succ,List.set_cons_zero,List.set_cons_succ,a9,a7,w8,nat1]; rfl)).trans (u9.trans ?_)))
    refine (nxa _ (by simp only [b8,e9,b9,b6,List.getElem?_cons_zero,List.getElem?_cons_succ,a9,a7,e2]; rfl)).trans ((nxa _ (by simp only [b8,List.getElem?_cons_zero,List.getElem?_cons_succ,List.set_cons_zero,List.set_cons_succ,a9]; rfl)).trans ((nxt (by simp only [f5,b8,e8,l9,b9,b6,List.getElem?_cons_zero,List.getElem?_cons_succ,List.set_cons_zero,List.set_cons_succ,a9,a7,b5,Option.map_some,i1,hx])).trans ((nxf (by simp only [b8,e8,e9,b9,b6,List.getElem?_cons_zero,List.getElem?_cons_succ,List.set_cons_zero,List.set_cons_succ,a9,a7,b5,u6,Option.map_some,Bool.not_true,i7,s6,beq_self_eq_true])).trans (o8.trans ?_))))
    refine (i5 (loc':=[some (.str t),some (.int p),some (.int (p+3+bl.length + [x].length:Nat)),some (.str [x]),some (.int (p+3+bl.length + [x].length+(c0::w).length:Nat)),some (.int (p+3+bl.length + [x].length+(c0::w).length + [x].length:Nat))]) (by simp only [C4,f7,b8,List.getElem?_cons_zero,List.getElem?_cons_succ,List.set_cons_zero,List.set_cons_succ,a9,a7,w8,nat1]; rfl)).trans (u9.trans ((nxf (by simp only [b8,e8,e_or,Q4,e9,b9,b6,List.getElem?_cons_zero,List.getElem?_cons_succ,a9,a7,b5,r7,Option.map_some,A7,F6,g8,Bool.false_eq_true,if_false,Bool.not_true,i7,s1,ns,l3,nn,q6])).trans ?_))
    simp only [h8,n6,f5,b8,e8,s7,e9,l9,b9,b6,List.getElem?_cons_zero,List.getElem?_cons_succ,a9,a7,b5,m6,i8,Option.map_some,g9,n1,t1,nn]
end
end Mine
end
section
set_option genInjectivity false
set_option genSizeOf false
namespace Mine
open P1
inductive Pt where
  | t (s:List Nat)
  | c (n m:Nat)
inductive Tk where
  | str (s:List Nat) (n:Nat)
  | tmpl (ps:List Pt) (n:Nat)
  | op (c n:Nat)
  | fin (n:Nat)
noncomputable def ptL:Pt→V
  | .t s=>txtV s
  | .c n m=>codeL (.lst [varT n,endT m])
noncomputable def ptB:Pt→V
  | .t s=>txtV s
  | .c n m=>codeL (.lst [.tup [.str [118,97,114],.str [118],.int n],.tup [.str [101,110,100],.str [],.int m]])
noncomputable def tkL:Tk→V
  | .str s n=>.tok (.str [115,116,114]) (.str s) (.int n)
  | .tmpl ps n=>.tok (.str [116,101,109,112,108,97,116,101]) (.tup (ps.map ptL)) (.int n)
  | .op c n=>.tok (.str [111,112]) (.str [c]) (.int n)
  | .fin n=>endT n
noncomputable def tkB:Tk→V
  | .str s n=>.tup [.str [115,116,114],.str s,.int n]
  | .tmpl ps n=>.tup [.str [116,101,109,112,108,97,116,101],.lst (ps.map ptB),.int n]
  | .op c n=>.tup [.str [111,112],.str [c],.int n]
  | .fin n=>.tup [.str [101,110,100],.str [],.int n]
noncomputable def txP (cur:List Nat):List Pt:=if cur.isEmpty=true then [] else [.t cur]
theorem aY0 (cur:List Nat):(txP cur).map ptL=tx cur:=by unfold txP tx; split <;> rfl
noncomputable def isT:Pt→Bool | .t _=>true | _=>false
noncomputable def tOf:Pt→List Nat | .t s=>s | _=>[]
noncomputable def mkTk (ps:List Pt) (n:Nat):Tk:=match ps with
  | []=>.str [] n
  | x::r=>if (r.isEmpty&&isT x)=true then .str (tOf x) n else .tmpl ps n
theorem B7 {f:V→Option V} {g:Pt→V} (hf:∀ x,f (g x)=some (g x)) (l:List Pt):(l.map g).mapM f=some (l.map g) :=
  M4 fun v hv=>by
    obtain ⟨x,_,rfl⟩:=List.mem_map.mp hv
    exact hf x
theorem ax8 (H:H) (n k:Nat):∀ x,frz H n (k+4) (ptL x)=some (ptL x)
  | .t s=>rfl
  | .c a b=>rfl
theorem aV0 (H:H) (n k:Nat):∀ x,frz H n (k+6) (tkL x)=some (tkL x)
  | .str s a=>rfl
  | .tmpl ps a=>by
    have:frz H n (k+6) (tkL (.tmpl ps a))=(((ps.map ptL).mapM (frz H n (k+4))).map V.tup).bind fun b=>some (.tok (.str [116,101,109,112,108,97,116,101]) b (.int a)):=rfl
    rw [this,B7 (ax8 H n k)]; rfl
  | .op c a=>rfl
  | .fin a=>rfl
section
variable {N k p:Nat} {t r:List Nat} {h:H} {n:Nat}
theorem aU7 {C:Calls} {x:Pt} {r:List Pt} {b:Option V}:mev C (.cmp .eq (.idx (.idx (.var 0) (.int 0)) (.int 0)) (.str [116,101,120,116])) [some (.tup ((x::r).map ptL)),b] h=.ok (.bool (isT x)) h:=by
  cases x <;> rfl
theorem T3 (ps:List Pt):sem tab N (k+1) 42 [.tup (ps.map ptL),.int n] h=.ok (tkL (mkTk ps n)) h:=by
  refine i9 (d:=f_text_token) rfl rfl ?_ (f9 rfl)
  show mex _ N f_text_token.body [some (.tup (ps.map ptL)),some (.int n)] h=_
  cases ps with
  | nil=>rfl
  | cons x r =>
    have ln:p1V .len (.tup ((x::r).map ptL)) h=.ok (.int (r.length+1:Nat)) h:=by
      show R.ok (V.int ((x::r).map ptL).length) h=_; rw [List.length_map]; rfl
    have q1:(((r.length+1:Nat):Int)==0)=false:=by rw [beq_eq_false_iff_ne]; omega
    have q2:(((r.length+1:Nat):Int)==1)=r.isEmpty:=by
      cases r with
      | nil=>rfl
      | cons=>rw [beq_eq_false_iff_ne.mpr (by simp only [List.length_cons]; omega)]; rfl
    refine (nxf (by simp only [b8,e_p1,e8,f7,List.getElem?_cons_zero,a9,a7,ln,r7,q1,Option.map_some,b5])).trans ?_
    have tst:mev (sem tab N k) (.and (.cmp .eq (.p1 .len (.var 0)) (.int 1)) (.cmp .eq (.idx (.idx (.var 0) (.int 0)) (.int 0)) (.str [116,101,120,116]))) [some (.tup ((x::r).map ptL)),some (.int n)] h=.ok (.bool (r.isEmpty&&isT x)) h:=by
      have it:=fun h=>aU7 (C:=sem tab N k) (x:=x) (r:=r) (b:=some (.int n)) (h:=h)
      cases z:r.isEmpty <;> simp only [m8,it,b8,e_p1,e8,f7,List.getElem?_cons_zero,a9,a7,ln,r7,q2,z,Option.map_some,b5,i4,g8,Bool.true_and,Bool.false_and,if_true,Bool.false_eq_true,if_false]
    show _=R.ok (Fl.ret (tkL (if (r.isEmpty&&isT x)=true then .str (tOf x) n else .tmpl (x::r) n))) h
    cases z:(r.isEmpty&&isT x) with
    | true =>
      rw [z] at tst
      obtain ⟨z1,z2⟩:=Bool.and_eq_true_iff.mp z
      refine (nxt tst).trans ?_
      cases x with
      | t s=>rfl
      | c=>cases z2
    | false =>
      rw [z] at tst
      refine (nxf tst).trans ?_
      rfl
section
variable {lab ind x:List Nat} {raw:Bool} {f e b:Nat} {w:List Nat} {m:Int}
theorem aY1 (e1:∀ h,sem tab N (k+8) 35 [.str t,.int f,.str lab,.int n] h=.pf w m h):sem tab N (k+9) 43 [.str t,.tup [.str lab,.bool raw,.int f],.int n] h=.pf w m h:=by
  refine J2 (d:=f_read_heredoc) rfl rfl ?_ (t5 rfl)
  show mex _ N f_read_heredoc.body [some (.str t),some (.tup [.str lab,.bool raw,.int f]),some (.int n),none,none,none,none,none,none,none,none] h=_
  exact (i5 rfl).trans (L9 (by simp only [m9,b8,e9,b9,b6,List.getElem?_cons_zero,List.getElem?_cons_succ,List.set_cons_zero,List.set_cons_succ,a9,a7,z9,e1]))
theorem au7 {Y:R Fl} (e1:∀ h,sem tab N (k+8) 35 [.str t,.int f,.str lab,.int n] h=.ok (.tup [.int e,.str ind,.int b]) h)
    (e2:mex (sem tab N (k+8)) N i_43 [some (.str t),some (.tup [.str lab,.bool raw,.int f]),some (.int n),some (.str lab),some (.bool raw),some (.int f),some (.int e),some (.str ind),some (.int b),none,none] h=Y) :
    mex (sem tab N (k+8)) N f_read_heredoc.body [some (.str t),some (.tup [.str lab,.bool raw,.int f]),some (.int n),none,none,none,none,none,none,none,none] h=Y:=by
  refine (i5 (loc':=[some (.str t),some (.tup [.str lab,.bool raw,.int f]),some (.int n),some (.str lab),some (.bool raw),some (.int f),none,none,none,none,none]) rfl).trans ?_
  exact (i5 (by simp only [m9,b8,e9,b9,b6,List.getElem?_cons_zero,List.getElem?_cons_succ,List.set_cons_zero,List.set_cons_succ,a9,a7,aE0,e1])).trans e2
theorem bb0 (e1:∀ h,sem tab N (k+8) 35 [.str t,.int f,.str lab,.int n] h=.ok (.tup [.int e,.str ind,.int b]) h)
    (e2:∀ h,sem tab N (k+8) 37 [.str t,.int f,.int e,.str ind,.int ((n+1:Nat):Int)] h=.ok (.str x) h):sem tab N (k+9) 43 [.str t,.tup [.str lab,.bool true,.int f],.int n] h=.ok (.tup [tkL (.str x n),.int b]) h :=
  i9 (d:=f_read_heredoc) rfl rfl (au7 e1 (by simp only [i_43,h8,q7,n6,j7,f7,f5,b8,j6,e9,e_mk,l9,b9,b6,List.getElem?_cons_zero,List.getElem?_cons_succ,a9,a7,f8,b5,nat1,d0,f6,g9,if_true,V4,e2,tkL])) (f9 rfl)
theorem aA5 (e1:∀ h,sem tab N (k+8) 35 [.str t,.int f,.str lab,.int n] h=.ok (.tup [.int e,.str ind,.int b]) h)
    (e2:∀ h,sem tab N (k+8) 37 [.str t,.int f,.int e,.str ind,.int ((n+1:Nat):Int)] h=.pf w m h):sem tab N (k+9) 43 [.str t,.tup [.str lab,.bool true,.int f],.int n] h=.pf w m h :=
  J2 (d:=f_read_heredoc) rfl rfl (au7 e1 (by simp only [i_43,h8,q7,n6,j7,f7,f5,b8,j6,e9,e_mk,l9,b9,b6,List.getElem?_cons_zero,List.getElem?_cons_succ,a9,a7,z9,f8,b5,nat1,d0,f6,if_true,e2])) (t5 rfl)
theorem rh_tm {ps:List Pt} (e1:∀ h,sem tab N (k+8) 35 [.str t,.int f,.str lab,.int n] h=.ok (.tup [.int e,.str ind,.int b]) h)
    (e2:∀ h,sem tab N (k+8) 32 [.str t,.int f,.int e,.str [],.str ind,.int ((n+1:Nat):Int),.fn 47] h=.ok (.tup [.tup (ps.map ptL),.int e]) h):sem tab N (k+9) 43 [.str t,.tup [.str lab,.bool false,.int f],.int n] h=.ok (.tup [tkL (mkTk ps n),.int b]) h :=
  i9 (d:=f_read_heredoc) rfl rfl (au7 e1 (by simp only [i_43,h8,q7,n6,j7,m9,f7,f5,b8,as1,j6,e9,e_mk,l9,b9,b6,List.getElem?_cons_zero,List.getElem?_cons_succ,List.set_cons_zero,List.set_cons_succ,a9,a7,f8,b5,nat1,d0,f6,f0,g9,F1,Bool.false_eq_true,if_false,e2,T3])) (f9 rfl)
theorem aG9 (e1:∀ h,sem tab N (k+8) 35 [.str t,.int f,.str lab,.int n] h=.ok (.tup [.int e,.str ind,.int b]) h)
    (e2:∀ h,sem tab N (k+8) 32 [.str t,.int f,.int e,.str [],.str ind,.int ((n+1:Nat):Int),.fn 47] h=.pf w m h):sem tab N (k+9) 43 [.str t,.tup [.str lab,.bool false,.int f],.int n] h=.pf w m h :=
  J2 (d:=f_read_heredoc) rfl rfl (au7 e1 (by simp only [i_43,h8,q7,n6,j7,m9,f7,f5,b8,as1,j6,e9,e_mk,l9,b9,b6,List.getElem?_cons_zero,List.getElem?_cons_succ,a9,a7,z9,f8,b5,nat1,d0,f6,f0,Bool.false_eq_true,if_false,e2])) (t5 rfl)
noncomputable def Is (X:H→R V):Prop:=(∃ l,X=fun h=>.ok (.tup l) h)∨∃ w m,X=fun h=>.pf w m h
theorem rt_is {X:H→R V} (hX:Is X) (hr:t.drop p=60::r) (e1:∀ h,sem tab N (k+9) 34 [.str t,.int p] h=.ok (.tup [.str lab,.bool raw,.int f]) h)
    (e2:∀ h,sem tab N (k+9) 43 [.str t,.tup [.str lab,.bool raw,.int f],.int n] h=X h):sem tab N (k+11) 46 [.str t,.int p,.int n] h=X h:=by
  have ix:∀ h,idxV h (.str t) (.int p)=some (.str [60]):=fun h=>o7 h (i6 hr).1
  have c0:∀ {C:Calls} {a b c d e:Option V} {h},mev C (.idx (.var 0) (.var 1)) [some (.str t),some (.int p),a,b,c,d,e] h=.ok (.str [60]) h:=fun {C a b c d e h}=>E6 rfl rfl (ix h)
  have c1:∀ {C:Calls} {a b c d e f:Option V} {h},mev C (.idx (.var 0) (.var 1)) [some (.str t),some (.int p),a,b,c,d,e,f] h=.ok (.str [60]) h:=fun {C a b c d e f h}=>E6 rfl rfl (ix h)
  have pre:∀ {h} {Y:R Fl},mex (sem tab N (k+9)) N (.seq (.ret (.ite (.isnone (.var 4)) .none (.call 43 (.cons (.var 0) (.cons (.var 4) (.cons (.var 2) .nil)))))) .skip) [some (.str t),some (.int p),some (.int n),some (.str [60]),some (.tup [.str lab,.bool raw,.int f]),none,none,none] h=Y→mex (sem tab N (k+9)) N f_read_text.body [some (.str t),some (.int p),some (.int n),none,none,none,none,none] h=Y:=fun {h Y} q =>
    (nxf (by rw [m8,e8,c1]; rfl)).trans ((nxa (.str [60]) c1).trans ((nxf rfl).trans ((nxf rfl).trans ((nxa (.tup [.str lab,.bool raw,.int f]) ((F7 (a:=.var 0) (b:=.var 1) rfl rfl).trans (e1 h))).trans q))))
  have cal:∀ {h},mev (sem tab N (k+9)) (.ite (.isnone (.var 4)) .none (.call 43 (.cons (.var 0) (.cons (.var 4) (.cons (.var 2) .nil))))) [some (.str t),some (.int p),some (.int n),some (.str [60]),some (.tup [.str lab,.bool raw,.int f]),none,none,none] h=X h:=fun {h} =>
    Eq.trans (b:=mev (sem tab N (k+9)) (.call 43 (.cons (.var 0) (.cons (.var 4) (.cons (.var 2) .nil)))) [some (.str t),some (.int p),some (.int n),some (.str [60]),some (.tup [.str lab,.bool raw,.int f]),none,none,none] h) rfl ((s8 rfl rfl rfl).trans (e2 h))
  rcases hX with ⟨l,rfl⟩ | ⟨w,m,rfl⟩
  · have e3:∀ h,sem tab N (k+10) 44 [.str t,.int p,.int n] h=.ok (.tup l) h:=fun h =>
      i9 (d:=f_read_text) rfl rfl (pre (nxr cal)) (f9 rfl)
    exact i9 (d:=f_read_token) rfl rfl ((nxa (.str [60]) c0).trans ((nxa (.tup l) ((s8 (a:=.var 0) (b:=.var 1) (c:=.var 2) rfl rfl rfl).trans (e3 h))).trans ((nxt rfl).trans (nxr rfl)))) (f9 rfl)
  · have e3:∀ h,sem tab N (k+10) 44 [.str t,.int p,.int n] h=.pf w m h:=fun h =>
      J2 (d:=f_read_text) rfl rfl (pre (L9 (by rw [n6,cal]; rfl))) (t5 rfl)
    exact J2 (d:=f_read_token) rfl rfl ((nxa (.str [60]) c0).trans (L9 (by rw [k4,s8 (a:=.var 0) (b:=.var 1) (c:=.var 2) rfl rfl rfl,e3]; rfl))) (t5 rfl)
end
end
end Mine
end
section
namespace Mine
open P1
section
variable {N k p:Nat} {t r:List Nat} {h:H} {l:Int} {X:R V}
theorem aa0 {C:Calls} {loc:L} {x:List V}:mev C (.cell .nil) loc (h++[x])=.ok (.ref (h.length+1)) (h++[x,[]]):=by
  rw [af8,b9,a7,List.length_append,List.append_assoc]; rfl
section
variable {s q:Nat} {ind:List Nat}
theorem aA3 (hN:s - q < N) (e:∀ h,sem tab N (k+7) 36 [.str t,.int p,.int s,.str ind,.int l] h=.ok (.int q) h) (e0:ind=[]→q=p) (g:PK N k t s ind h X q l [] []) :
    sem tab N (k+8) 32 [.str t,.int p,.int s,.str [],.str ind,.int l,.fn 47] h=X:=by
  rw [t9 (d:=f_parts_until) rfl rfl]
  refine Eq.trans (congrArg (callR h) ?_) (g N [] none none none none none hN MadeT.nil)
  refine (i5 (loc':=[some (.str t),some (.int p),some (.int s),some (.str []),some (.str ind),some (.int l),some (.fn 47),some (.ref h.length),none,none,none,none,none,none]) (h':=h++[[]]) rfl).trans ((i5 (r9 aa0)).trans ?_)
  cases b:ind==[] with
  | true =>
    rw [e0 (beq_iff_eq.mp b)]
    exact nxf (by simp only [f5,b8,e8,List.getElem?_cons_zero,List.getElem?_cons_succ,List.set_cons_zero,List.set_cons_succ,a9,a7,b5,u6,Option.map_some,Bool.not_true,b])
  | false=>exact (nxt (by simp only [f5,b8,e8,List.getElem?_cons_zero,List.getElem?_cons_succ,List.set_cons_zero,List.set_cons_succ,a9,a7,b5,u6,Option.map_some,Bool.not_false,b])).trans ((nxa (.int q) (by simp only [b8,e9,b9,b6,List.getElem?_cons_zero,List.getElem?_cons_succ,List.set_cons_zero,List.set_cons_succ,a9,a7,e])).trans u9)
theorem ad1 {w:List Nat} {m:Int} (hi:(ind==[])=false) (e:∀ h,sem tab N (k+7) 36 [.str t,.int p,.int s,.str ind,.int l] h=.pf w m h) :
    sem tab N (k+8) 32 [.str t,.int p,.int s,.str [],.str ind,.int l,.fn 47] h=.pf w m h:=by
  rw [t9 (d:=f_parts_until) rfl rfl]
  refine Eq.trans (congrArg (a₂:=R.pf w m (h++[[],[]])) (callR h) ?_) (backPf2 h [] [])
  refine (i5 (loc':=[some (.str t),some (.int p),some (.int s),some (.str []),some (.str ind),some (.int l),some (.fn 47),some (.ref h.length),none,none,none,none,none,none]) (h':=h++[[]]) rfl).trans ((i5 (r9 aa0)).trans ?_)
  exact (nxt (by simp only [f5,b8,e8,List.getElem?_cons_zero,List.getElem?_cons_succ,List.set_cons_zero,List.set_cons_succ,a9,a7,b5,u6,Option.map_some,Bool.not_false,hi])).trans (L9 (by simp only [k4,b8,e9,b9,b6,List.getElem?_cons_zero,List.getElem?_cons_succ,List.set_cons_zero,List.set_cons_succ,a9,a7,z9,e]))
end
theorem aQ5 (hr:t.drop p=60::63::112::104::112::10::r):sem tab N (k+1) 40 [.str t,.int p] h=.ok (.int (p+5+1:Nat)) h:=by
  have q1:(([60,63,112]:List Nat)==[60,63,61])=false:=rfl
  have q2:=aT9 (l:=[60,63,112,104,112]) h rfl
  have q3:([lowerC 60,lowerC 63,lowerC 112,lowerC 104,lowerC 112]==[60,63,112,104,112])=true:=rfl
  have d5:t.drop (p+5)=10::r:=g6 (g6 (g6 (g6 (g6 hr))))
  have q4:∀ x:List Nat,(10::x==[13,10])=false:=fun x=>rfl
  have q5:(((p+5:Nat):Int)==(t.length:Int))=false:=by
    rw [beq_eq_false_iff_ne]; have:=(i6 d5).2.1; omega
  have n5:(p:Int)+5=((p+5:Nat):Int):=rfl
  refine i9 (d:=f_tag_at) rfl rfl ?_ (f9 rfl)
  show mex _ N f_tag_at.body [some (.str t),some (.int p),none] h=_
  refine (nxf (by simp only [f7,f5,b8,j6,e8,s7,List.getElem?_cons_zero,List.getElem?_cons_succ,a9,a7,f8,b5,nat3,m6,i8,Option.map_some,Nat.add_sub_cancel_left,hr,List.take_succ_cons,List.take_zero,q1])).trans ((nxf (by simp only [List.map_cons,List.map_nil,f7,f5,b8,j6,e8,s7,e_p1,List.getElem?_cons_zero,List.getElem?_cons_succ,a9,a7,f8,b5,m6,u6,Option.map_some,Nat.add_sub_cancel_left,Bool.not_true,n5,hr,List.take_succ_cons,List.take_zero,q2,q3])).trans ((nxa (.int (p+5:Nat)) rfl).trans ?_))
  refine (nxf (by simp only [f7,f5,b8,j6,e8,s7,List.getElem?_cons_zero,List.getElem?_cons_succ,List.set_cons_zero,List.set_cons_succ,a9,a7,f8,b5,nat2,m6,i8,Option.map_some,Nat.add_sub_cancel_left,d5,List.take_succ_cons,q4])).trans ((nxf (by simp only [b8,e8,e_p1,List.getElem?_cons_zero,List.getElem?_cons_succ,List.set_cons_zero,List.set_cons_succ,a9,a7,b5,r7,Option.map_some,t0,q5])).trans ?_)
  simp only [h8,n6,f7,f5,b8,j6,e8,y9,n9,l9,b9,b6,List.getElem?_cons_zero,List.getElem?_cons_succ,List.set_cons_zero,List.set_cons_succ,a9,a7,W1,f8,b5,nat1,Option.map_some,d0,f6,g9,o7 h (i6 d5).1,aK3]
  rfl
theorem ao9 {x:List V} {H:H} {c:V} (hr:t.drop p=60::63::112::104::112::10::r) (hN:0 < N):sem tab N (k+2) 41 [.str t,.int p,.int l,c] H=.ok (.int (p+5+1:Nat)) H:=by
  obtain ⟨n,rfl⟩:∃ n,N=n+1:=⟨N - 1,by omega⟩
  have q1:(([60,63,112]:List Nat)==[60,63,61])=false:=rfl
  have q2:(((p+5+1:Nat):Int)==(p:Int))=false:=by rw [beq_eq_false_iff_ne]; omega
  have q3:decide ((p:Int) < (p:Int))=false:=by rw [decide_eq_false_iff_not]; omega
  have tg:=fun H=>aQ5 (N:=n+1) (k:=k) (h:=H) hr
  refine i9 (d:=f_pass_inline) rfl rfl ?_ (f9 rfl)
  show mex _ (n+1) f_pass_inline.body [some (.str t),some (.int p),some (.int l),some c,none] H=_
  refine (nxa (.int p) rfl).trans ((L8 (z7 (h':=H) (by simp only [t_41,b8,e8,m8,e9,e_p1,b9,b6,List.getElem?_cons_zero,List.getElem?_cons_succ,List.set_cons_zero,List.set_cons_succ,a9,a7,b5,r7,t7,Option.map_some,i4,g8,t0,ite_self,O8 hr,tg,q2]))).trans ((nxf (by simp only [b8,e8,List.getElem?_cons_zero,List.getElem?_cons_succ,List.set_cons_zero,List.set_cons_succ,a9,a7,b5,H5,Option.map_some,q3])).trans ((nxf (by simp only [f7,f5,b8,j6,e8,s7,List.getElem?_cons_zero,List.getElem?_cons_succ,List.set_cons_zero,List.set_cons_succ,a9,a7,f8,b5,nat3,m6,i8,Option.map_some,Nat.add_sub_cancel_left,hr,List.take_succ_cons,List.take_zero,q1])).trans ?_)))
  simp only [h8,n6,b8,e9,b9,b6,List.getElem?_cons_zero,List.getElem?_cons_succ,List.set_cons_zero,List.set_cons_succ,a9,a7,g9,tg]
section
variable (N k:Nat) (t:List Nat) (h:H) (X:R V)
noncomputable def toL (p n:Nat) (c4 c5 c6:Option V):L:=[some (.str t),some (.ref h.length),some (.int p),some (.int n),c4,c5,c6]
noncomputable def TK (p m:Nat) (ts:List Tk):Prop :=
  ∀ (n:Nat) (c4 c5 c6:Option V),t.length - p < n →
    callR h ((wloop (mev (sem tab N (k+11)) t_48) (mex (sem tab N (k+11)) N b_48) n (toL t h p m c4 c5 c6) (h++[ts.map tkL])).bind fun f h'=>seqR f h' (mex (sem tab N (k+11)) N e_48))=X
end
section
variable {m q:Nat} {ts:List Tk}
theorem R1 {c4 c5 c6:Option V} {C:Calls} {H:H}:mev C t_48 (toL t h p m c4 c5 c6) H=.ok (.bool (decide (p < t.length))) H:=by
  have q2:decide ((p:Int) < (t.length:Int))=decide (p < t.length):=by
    rw [Bool.eq_iff_iff]; simp only [decide_eq_true_eq]; omega
  unfold t_48 toL
  simp only [b8,e8,e_p1,List.getElem?_cons_zero,List.getElem?_cons_succ,a9,a7,b5,t7,Option.map_some,t0,q2]
theorem TK.done (hp:t.length≤p) (hts:ts.length < big) (g:X=.ok (.lst ((ts++[Tk.fin m]).map tkL)) h):TK N k t h X p m ts:=by
  intro n c4 c5 c6 hn
  obtain ⟨n,rfl⟩:=x9 hn
  rw [z7 (R1.trans (by rw [decide_eq_false (by omega)])),g]
  have ap:=y7 h (ts.map tkL) (endT m) (by rw [List.length_map]; exact hts)
  have e:mex (sem tab N (k+11)) N e_48 (toL t h p m c4 c5 c6) (h++[ts.map tkL])=.ok (.ret (.ref h.length)) (h++[(ts++[Tk.fin m]).map tkL]):=by
    unfold endT at ap
    unfold e_48 toL
    refine (nxx (by simp only [f5,b8,e_mk,e_p2,b9,b6,List.getElem?_cons_zero,List.getElem?_cons_succ,a9,a7,if_true,V4,k8,k8,ap]; rfl)).trans ?_
    rw [List.map_append]; rfl
  show callR h (mex (sem tab N (k+11)) N e_48 (toL t h p m c4 c5 c6) (h++[ts.map tkL]))=_
  rw [e]
  refine I6 (af3 (M4 fun v hv=>?_))
  obtain ⟨x,_,rfl⟩:=List.mem_map.mp hv
  exact aV0 _ _ 2 x
theorem TK.gap {d:Nat} (hp:p < t.length) (hq:p < q) (e:∀ h,sem tab N (k+11) 39 [.str t,.int p,.int m] h=.ok (.int q) h)
    (hw:((t.drop p).take (q - p)).count 10=d) (hl:q - p < 1000) (g:TK N k t h X q (m+d) ts):TK N k t h X p m ts:=by
  intro n c4 c5 c6 hn
  obtain ⟨n,rfl⟩:=x9 hn
  have q1:((q:Int)==(p:Int))=false:=by rw [beq_eq_false_iff_ne]; omega
  have ri:=fun h=>A4 (N:=N) (k:=k+10) (h:=h) (t:=(t.drop p).take (q - p)) (Nat.lt_of_le_of_lt (List.length_take_le _ _) (by rw [k7]; omega))
  rw [hw] at ri
  have n1:(m:Int)+(d:Int)=((m+d:Nat):Int):=rfl
  have e2:mex (sem tab N (k+11)) N b_48 (toL t h p m c4 c5 c6) (h++[ts.map tkL])=.ok (.next (toL t h q (m+d) (some (.int q)) c5 c6)) (h++[ts.map tkL]):=by
    unfold b_48 toL
    refine (nxa (.int q) (by simp only [b8,e9,b9,b6,List.getElem?_cons_zero,List.getElem?_cons_succ,a9,a7,e])).trans ((nxe2 (by simp only [f7,f5,b8,j6,e8,m8,s7,List.getElem?_cons_zero,List.getElem?_cons_succ,List.set_cons_zero,List.set_cons_succ,a9,a7,f8,b5,nat2,m6,i8,r7,Option.map_some,i4,g8,Nat.add_sub_cancel_left,Bool.false_eq_true,if_false,q1])).trans ((nxf (by simp only [b8,e8,List.getElem?_cons_zero,List.getElem?_cons_succ,List.set_cons_zero,List.set_cons_succ,a9,a7,b5,r7,Option.map_some,q1])).trans (u9.trans ?_)))
    simp only [h8,k4,j7,C4,b8,s7,e9,b9,b6,List.getElem?_cons_zero,List.getElem?_cons_succ,List.set_cons_zero,List.set_cons_succ,a9,a7,w8,b5,m6,f0,ri,n1]
  rw [y8 (R1.trans (by rw [decide_eq_true hp])) e2]
  exact g n _ _ _ (fuel hn hp hq)
theorem TK.tok {c d:Nat} {x:Tk} (hr:t.drop p=c::r) (hc:(c==63)=false) (hq:p < q) (hts:ts.length < big) (e:∀ h,sem tab N (k+11) 39 [.str t,.int p,.int m] h=.ok (.int p) h)
    (e1:∀ h,sem tab N (k+11) 46 [.str t,.int p,.int m] h=.ok (.tup [tkL x,.int q]) h)
    (hw:((t.drop p).take (q - p)).count 10=d) (hl:q - p < 1000) (g:TK N k t h X q (m+d) (ts++[x])):TK N k t h X p m ts:=by
  intro n c4 c5 c6 hn
  obtain ⟨n,rfl⟩:=x9 hn
  have hp:=(i6 hr).2.1
  have q1:((t.drop p).take 2==[63,62])=false:=by rw [hr,List.take_succ_cons,List.cons_beq_cons,hc]; rfl
  have ri:=fun h=>A4 (N:=N) (k:=k+10) (h:=h) (t:=(t.drop p).take (q - p)) (Nat.lt_of_le_of_lt (List.length_take_le _ _) (by rw [k7]; omega))
  rw [hw] at ri
  have n1:(m:Int)+(d:Int)=((m+d:Nat):Int):=rfl
  have ap:=y7 h (ts.map tkL) (tkL x) (by rw [List.length_map]; exact hts)
  have e2:mex (sem tab N (k+11)) N b_48 (toL t h p m c4 c5 c6) (h++[ts.map tkL])=.ok (.next (toL t h q (m+d) (some (.int q)) c5 (some (tkL x)))) (h++[(ts++[x]).map tkL]):=by
    rw [List.map_append]
    unfold b_48 toL
    refine (nxa (.int p) (by simp only [b8,e9,b9,b6,List.getElem?_cons_zero,List.getElem?_cons_succ,a9,a7,e])).trans ((nxe2 (by simp only [f7,f5,b8,j6,e8,m8,s7,List.getElem?_cons_zero,List.getElem?_cons_succ,List.set_cons_zero,List.set_cons_succ,a9,a7,f8,b5,nat2,m6,i8,r7,Option.map_some,i4,g8,Nat.add_sub_cancel_left,ite_self,beq_self_eq_true,q1])).trans ((nxt (by simp only [b8,e8,List.getElem?_cons_zero,List.getElem?_cons_succ,List.set_cons_zero,List.set_cons_succ,a9,a7,b5,r7,Option.map_some,beq_self_eq_true])).trans ((i5 (loc':=[some (.str t),some (.ref h.length),some (.int p),some (.int m),some (.int q),c5,some (tkL x)]) (h':=h++[ts.map tkL]) (by simp only [m9,b8,e9,b9,b6,List.getElem?_cons_zero,List.getElem?_cons_succ,List.set_cons_zero,List.set_cons_succ,a9,a7,F1,e1])).trans ?_)))
    refine (o8.trans ((nxx (by simp only [b8,e_p2,List.getElem?_cons_zero,List.getElem?_cons_succ,a9,a7,if_true,k8,k8,ap]; rfl)).trans (u9.trans (u9.trans ?_))))
    simp only [List.map_cons,List.map_nil,h8,k4,j7,C4,b8,s7,e9,b9,b6,List.getElem?_cons_zero,List.getElem?_cons_succ,List.set_cons_zero,List.set_cons_succ,a9,a7,w8,b5,m6,f0,ri,n1]
  rw [y8 (R1.trans (by rw [decide_eq_true hp])) e2]
  exact g n _ _ _ (fuel hn hp hq)
theorem TK.bad {c:Nat} {w:List Nat} (hr:t.drop p=c::r) (hc:(c==63)=false) (e:∀ h,sem tab N (k+11) 39 [.str t,.int p,.int m] h=.ok (.int p) h)
    (e1:∀ h,sem tab N (k+11) 46 [.str t,.int p,.int m] h=.pf w l h) (g:X=.pf w l h):TK N k t h X p m ts:=by
  intro n c4 c5 c6 hn
  obtain ⟨n,rfl⟩:=x9 hn
  have hp:=(i6 hr).2.1
  have q1:((t.drop p).take 2==[63,62])=false:=by rw [hr,List.take_succ_cons,List.cons_beq_cons,hc]; rfl
  have e2:mex (sem tab N (k+11)) N b_48 (toL t h p m c4 c5 c6) (h++[ts.map tkL])=.pf w l (h++[ts.map tkL]):=by
    unfold b_48 toL
    refine (nxa (.int p) (by simp only [b8,e9,b9,b6,List.getElem?_cons_zero,List.getElem?_cons_succ,a9,a7,e])).trans ((nxe2 (by simp only [f7,f5,b8,j6,e8,m8,s7,List.getElem?_cons_zero,List.getElem?_cons_succ,List.set_cons_zero,List.set_cons_succ,a9,a7,f8,b5,nat2,m6,i8,r7,Option.map_some,i4,g8,Nat.add_sub_cancel_left,ite_self,beq_self_eq_true,q1])).trans ((nxt (by simp only [b8,e8,List.getElem?_cons_zero,List.getElem?_cons_succ,List.set_cons_zero,List.set_cons_succ,a9,a7,b5,r7,Option.map_some,beq_self_eq_true])).trans (L9 (by simp only [m9,b8,e9,b9,b6,List.getElem?_cons_zero,List.getElem?_cons_succ,List.set_cons_zero,List.set_cons_succ,a9,a7,z9,e1]))))
  rw [au0 (R1.trans (by rw [decide_eq_true hp])) e2,g]
  exact Q6
theorem ao5 (hr:t=60::63::112::104::112::10::r) (hN:t.length < N) (g:TK N k t h X 6 2 []):sem tab N (k+12) 48 [.str t] h=X:=by
  rw [t9 (d:=f_tokens_of) rfl rfl]
  refine Eq.trans (congrArg (callR h) ?_) (g N none none none (by omega))
  have pi:=fun H=>ao9 (N:=N) (k:=k+9) (x:=[]) (t:=t) (r:=r) (p:=0) (l:=1) (H:=H) (c:=.ref h.length) (by rw [List.drop_zero]; exact hr) (by omega)
  have ri:=fun h=>A4 (N:=N) (k:=k+10) (h:=h) (t:=[60,63,112,104,112,10]) (by rw [k7]; decide)
  have t6:slcV (.str t) .none (.int (6:Nat))=some (.str [60,63,112,104,112,10]):=(K6 t 6).trans (by rw [hr]; rfl)
  refine (i5 (loc':=[some (.str t),some (.ref h.length),none,none,none,none,none]) (h':=h++[[]]) rfl).trans ((nxa (.int (6:Nat)) ?_).trans ((nxa (.int (2:Nat)) ?_).trans rfl))
  · refine Eq.trans ?_ (pi (h++[[]]))
    rfl
  · simp only [z0,f7,b8,j6,s7,e9,b9,b6,List.getElem?_cons_zero,List.getElem?_cons_succ,List.set_cons_zero,List.set_cons_succ,a9,a7,f8,b5,t6,ri]
    rfl
end
end
end Mine
end
section
namespace Mine
open P1
section
variable {C:Calls} {N:Nat} {loc:L} {h h1 h2:H}
theorem aJ0 {caps:List Nat} {it elt cond:ME} {cvs:L} {vs:List V} (q:capVals loc caps=some cvs) (e:mev C it loc h=.ok (.lst vs) h1):mev C (.comp caps it elt cond) loc h=cloop (fun v h=>mev C elt (some v::cvs) h) (fun v h=>mev C cond (some v::cvs) h) vs h1 []:=by
  show ofK (capVals loc caps) _=_; rw [q]
  show (mev C it loc h).bind _=_; rw [e]; rfl
theorem bf6 {elt cond:V→H→R V} {acc:List V}:cloop elt cond [] h acc=.ok (.lst acc) h:=rfl
theorem cl_t {elt cond:V→H→R V} {v x:V} {r acc:List V} (a:cond v h=.ok (.bool true) h1) (b:elt v h1=.ok x h2):cloop elt cond (v::r) h acc=cloop elt cond r h2 (acc++[x]):=by
  rw [cloop,a]; show okR (elt v h1) _=_; rw [b]; rfl
theorem au2 {i j:Nat} {b:MS} {x y:V} {loc loc':L} {h':H} (e:mex C N b ((loc.set i (some x)).set j (some y)) h=.ok (.next loc') h'):tupLoop C N [i,j] b (.tup [x,y]) loc h=.ok (.next loc') h':=e
end
section
variable {N k:Nat} {h:H}
theorem B5 {s:List Nat} {v l:V} (hs:(s==[116,101,109,112,108,97,116,101])=false):sem tab N (k+1) 58 [.tok (.str s) v l] h=.ok (.tup [.str s,v,l]) h :=
  i9 (d:=f_law_view) rfl rfl (by simp only [f_law_view,List.map_cons,List.map_nil,List.cons_append,List.nil_append,Nat.reduceSub,List.replicate,h8,q7,n6,j7,f5,b8,e8,l9,Y0,b9,b6,List.getElem?_cons_zero,a9,a7,b5,u6,Option.map_some,d0,f6,g9,if_true,Bool.not_false,attr0,attr1,attr2,hs]) (f9 rfl)
theorem az1 (a b:Nat) {x2 x3 z:Option V}:mev (sem tab N (k+1)) (.comp [] (.var 3) (.call 58 (.cons (.var 0) .nil)) (.bool true)) [z,x2,x3,some (.lst [varT a,endT b])] h=.ok (.lst [.tup [.str [118,97,114],.str [118],.int a],.tup [.str [101,110,100],.str [],.int b]]) h:=by
  have e1:=B5 (N:=N) (k:=k) (h:=h) (s:=[118,97,114]) (v:=.str [118]) (l:=.int a) rfl
  have e2:=B5 (N:=N) (k:=k) (h:=h) (s:=[101,110,100]) (v:=.str []) (l:=.int b) rfl
  refine (aJ0 (cvs:=[]) rfl rfl).trans ?_
  rw [cl_t (h1:=h) (h2:=h) (x:=.tup [.str [118,97,114],.str [118],.int a]) (by rw [as2]) (by simp only [varT,b8,e9,b9,b6,List.getElem?_cons_zero,a9,a7,e1]),cl_t (h1:=h) (h2:=h) (x:=.tup [.str [101,110,100],.str [],.int b]) (by rw [as2]) (by simp only [endT,b8,e9,b9,b6,List.getElem?_cons_zero,a9,a7,e2])]
  rfl
theorem Z9:∀ (ps acc:List Pt) (x y z:Option V),(acc++ps).length < big→∃ x' y',floop (tupLoop (sem tab N (k+1)) N [2,3] b_58) (ps.map ptL) [z,some (.ref h.length),x,y] (h++[acc.map ptB])=.ok (.next [z,some (.ref h.length),x',y']) (h++[(acc++ps).map ptB])
  | [],acc,x,y,z,hl=>⟨x,y,by rw [List.append_nil]; rfl⟩
  | p::ps,acc,x,y,z,hl=>by
    have hl2:((acc++[p])++ps).length < big:=by rw [List.append_assoc]; exact hl
    have ap:=y7 h (acc.map ptB) (ptB p) (by rw [List.length_map]; rw [List.length_append] at hl; omega)
    have em:acc.map ptB++[ptB p]=(acc++[p]).map ptB:=by rw [List.map_append]; rfl
    rw [em] at ap
    have st:∃ x2 y2,tupLoop (sem tab N (k+1)) N [2,3] b_58 (ptL p) [z,some (.ref h.length),x,y] (h++[acc.map ptB])=.ok (.next [z,some (.ref h.length),x2,y2]) (h++[(acc++[p]).map ptB]):=by
      cases p with
      | t s =>
        refine ⟨_,_,au2 (loc':=[z,some (.ref h.length),some (.str [116,101,120,116]),some (.str s)]) ?_⟩
        have ap:p2V .append (.ref h.length) (.tup [.str [116,101,120,116],.str s]) (h++[acc.map ptB])=.ok .none (h++[(acc++[Pt.t s]).map ptB]):=ap
        simp only [b_58,h8,j7,A0,f5,b8,e8,y9,e_p2,l9,b9,b6,List.getElem?_cons_zero,List.getElem?_cons_succ,List.set_cons_zero,List.set_cons_succ,a9,a7,b5,i8,Option.map_some,d0,f6,f0,if_true,k8,beq_self_eq_true,k8,ap]
      | c a b =>
        refine ⟨_,_,au2 (loc':=[z,some (.ref h.length),some (.str [99,111,100,101]),some (.lst [varT a,endT b])]) ?_⟩
        have q1:(([99,111,100,101]:List Nat)==[116,101,120,116])=false:=rfl
        have vc:=fun H=>az1 (N:=N) (k:=k) (h:=H) a b (x2:=some (.ref h.length)) (x3:=some (.str [99,111,100,101])) (z:=z)
        have ap:p2V .append (.ref h.length) (.tup [.str [99,111,100,101],.lst [.tup [.str [118,97,114],.str [118],.int a],.tup [.str [101,110,100],.str [],.int b]]]) (h++[acc.map ptB])=.ok .none (h++[(acc++[Pt.c a b]).map ptB]):=ap
        simp only [b_58,h8,j7,A0,f5,b8,e8,y9,e_p2,l9,b9,b6,List.getElem?_cons_zero,List.getElem?_cons_succ,List.set_cons_zero,List.set_cons_succ,a9,a7,b5,i8,Option.map_some,d0,f6,f0,Bool.false_eq_true,if_false,if_true,k8,q1,vc,k8,ap]
    obtain ⟨x2,y2,st⟩:=st
    obtain ⟨x3,y3,e⟩:=Z9 ps (acc++[p]) x2 y2 z hl2
    refine ⟨x3,y3,?_⟩
    rw [List.map_cons,D3 st,e,List.append_assoc]; rfl
theorem S1 (H:H) (n k:Nat):∀ x,frz H n (k+4) (ptB x)=some (ptB x)
  | .t s=>rfl
  | .c a b=>rfl
theorem bh1 (h:H) (l:List V):items h (.tup l)=some l:=rfl
theorem aF6:∀ (x:Tk),(∀ ps n,x=.tmpl ps n→ps.length < big)→sem tab N (k+2) 58 [tkL x] h=.ok (tkB x) h
  | .str s n,_=>B5 rfl
  | .op c n,_=>B5 rfl
  | .fin n,_=>B5 rfl
  | .tmpl ps n,hl=>by
    obtain ⟨x,y,e⟩:=Z9 (N:=N) (k:=k) (h:=h) ps [] none none (some (tkL (.tmpl ps n))) (by rw [List.nil_append]; exact hl ps n rfl)
    refine i9 (d:=f_law_view) (v:=.tup [.str [116,101,109,112,108,97,116,101],.ref h.length,.int n]) (h':=h++[ps.map ptB]) rfl rfl ?_ (I6 ?_)
    · show mex _ N f_law_view.body [some (tkL (.tmpl ps n)),none,none,none] h=_
      refine (nxf (by simp only [tkL,f5,b8,e8,Y0,List.getElem?_cons_zero,a9,a7,b5,u6,Option.map_some,Bool.not_true,attr0,beq_self_eq_true])).trans ((i5 (r9 rfl)).trans ((i5 (Eq.trans ?_ e)).trans ?_))
      · rw [aZ3]; rfl
      · simp only [tkL,List.nil_append,h8,n6,f5,b8,l9,Y0,b9,b6,List.getElem?_cons_zero,List.getElem?_cons_succ,a9,a7,b5,g9,attr2,List.nil_append]
    · refine M9 rfl ?_
      rw [List.mapM_cons,af3 (B7 (S1 _ _ 3) ps)]; rfl
theorem ah1:∀ (l:List Tk) (acc:List V),(∀ x∈l,∀ ps n,x=.tmpl ps n→ps.length < big) →
    cloop (fun v h=>mev (sem tab N (k+2)) (.call 58 (.cons (.var 0) .nil)) [some v] h) (fun v h=>mev (sem tab N (k+2)) (.bool true) [some v] h) (l.map tkL) h acc=.ok (.lst (acc++l.map tkB)) h
  | [],acc,_=>by rw [List.map_nil,bf6,List.map_nil,List.append_nil]
  | x::l,acc,hl=>by
    have e:=aF6 (N:=N) (k:=k) (h:=h) x (hl x (.head _))
    rw [List.map_cons,cl_t (h1:=h) (h2:=h) (x:=tkB x) (by rw [as2]) (by simp only [b8,e9,b9,b6,List.getElem?_cons_zero,a9,a7,e]),ah1 l _ fun y hy=>hl y (.tail _ hy),List.map_cons,List.append_assoc]; rfl
noncomputable def tryF (i:Nat) (loc:L):R V→R Fl
  | .stuck=>.stuck
  | .ok v h=>.ok (.next (loc.set i (some v))) h
  | .pf w l h=>.ok (.ret (.tup [.str [114,101,102,117,115,101,100],.str w,.int l])) h
theorem aD5 (C:Calls) (N i:Nat) (e:ME) (loc:L) (h:H):mex C N (.tryR i e) loc h=tryF i loc (mev C e loc h):=rfl
noncomputable def readV (ts:V):V:=.tup [.str [114,101,97,100],ts]
theorem aP7 {t:List Nat} {l:List Tk} (e:sem tab N (k+2) 48 [.str t] h=.ok (.lst (l.map tkL)) h) (hl:∀ x∈l,∀ ps n,x=.tmpl ps n→ps.length < big):sem tab N (k+3) 59 [.str t] h=.ok (readV (.lst (l.map tkB))) h:=by
  refine i9 (d:=f_law_told) (v:=readV (.lst (l.map tkB))) (h':=h) rfl rfl ?_ (f9 rfl)
  show mex _ N f_law_told.body [some (.str t),none] h=_
  refine (i5 (loc':=[some (.str t),some (.lst (l.map tkL))]) (h':=h) (by rw [aD5]; simp only [b8,e9,b9,b6,List.getElem?_cons_zero,a9,a7,e]; rfl)).trans (U9 (aY8 ?_))
  have v:=(aJ0 (C:=sem tab N (k+2)) (loc:=[some (.str t),some (.lst (l.map tkL))]) (h:=h) (it:=.var 1) (elt:=.call 58 (.cons (.var 0) .nil)) (cond:=.bool true) (caps:=[]) rfl rfl).trans (ah1 (N:=N) (k:=k) (h:=h) l [] hl)
  simp only [List.nil_append,f5,l9,b9,b6,a7,v]; rfl
theorem aP6 {t:List Nat} {w:List Nat} {l:Int} (e:sem tab N (k+2) 48 [.str t] h=.pf w l h):sem tab N (k+3) 59 [.str t] h=.ok (.tup [.str [114,101,102,117,115,101,100],.str w,.int l]) h:=by
  refine i9 (d:=f_law_told) (h':=h) rfl rfl ?_ (f9 rfl)
  show mex _ N f_law_told.body [some (.str t),none] h=_
  exact U9 (by rw [aD5]; simp only [b8,e9,b9,b6,List.getElem?_cons_zero,a9,a7,e]; rfl)
end
end Mine
end
section
set_option genInjectivity false
set_option genSizeOf false
namespace Mine
open P1
noncomputable def pn (j:Bool):Nat:=cond j 4 3
noncomputable def pr (j:Bool):Nat:=cond j 5 4
noncomputable def HP (j:Bool) (T:List Nat) (R q:V) (due x:List V) (pen:Int) (tl:List (List V)):H:=[]::[.str T,R,q]::due::cond j (x::[.int pen]::tl) ([.int pen]::tl)
section
variable {j:Bool} {T:List Nat} {R q:V} {due x:List V} {pen:Int} {tl:List (List V)} {loc:L} {N k:Nat}
theorem hp_T:idxV (HP j T R q due x pen tl) (.ref 1) (.int 0)=some (.str T):=rfl
theorem hp_R:idxV (HP j T R q due x pen tl) (.ref 1) (.int 1)=some R:=rfl
theorem hp_q:idxV (HP j T R q due x pen tl) (.ref 1) (.int 2)=some q:=rfl
theorem st_T (T':List Nat):setR loc (.ref 1) (.int 0) (.str T') (HP j T R q due x pen tl)=.ok (.next loc) (HP j T' R q due x pen tl):=rfl
theorem st_R (R':V):setR loc (.ref 1) (.int 1) R' (HP j T R q due x pen tl)=.ok (.next loc) (HP j T R' q due x pen tl):=rfl
theorem st_q (q':V):setR loc (.ref 1) (.int 2) q' (HP j T R q due x pen tl)=.ok (.next loc) (HP j T R q' due x pen tl):=rfl
theorem bd2:idxV (HP j T R q due x pen tl) (.ref (pn j)) (.int 0)=some (.int pen):=by cases j <;> rfl
theorem ba2 (p':Int):setR loc (.ref (pn j)) (.int 0) (.int p') (HP j T R q due x pen tl)=.ok (.next loc) (HP j T R q due x p' tl):=by cases j <;> rfl
theorem H4 {P:List V}:(HP j T R q due x pen [P])[pr j]?=some P:=by cases j <;> rfl
theorem K4 {P:List V} (P':List V):(HP j T R q due x pen [P]).set (pr j) P'=HP j T R q due x pen [P']:=by cases j <;> rfl
theorem D4 {T':List Nat} {R' q':V} {due' x':List V} {pen':Int} {tl':List (List V)} {v:V} (e:tl'.length=tl.length):back (HP j T R q due x pen tl) v (HP j T' R' q' due' x' pen' tl')=.ok v (HP j T' R' q' due' x' pen' tl'):=by
  refine f9 ?_
  cases j
  · show tl'.length+1+1+1+1=tl.length+1+1+1+1; rw [e]
  · show tl'.length+1+1+1+1+1=tl.length+1+1+1+1+1; rw [e]
theorem A6 (C:Calls) (a i e:ME) (h:H):mex C N (.setidx a i e) loc h=(mev C e loc h).bind fun v h=>(mev C a loc h).bind fun x h=>(mev C i loc h).bind fun k h=>setR loc x k v h:=rfl
theorem R9 (h:H) (x y:Int) (e:0 < y):binV .mod h (.int x) (.int y)=some (.int (x % y)):=if_pos e
theorem bd9 (h:H) (x k:Int) (e:0 < k∧k < 1073741824):binV .fdiv h (.int x) (.int k)=some (.int (x / k)):=if_pos e
theorem ag3 (f:Int) (m:Nat) (hm:0 < m∧m < 1000):∃ d:Nat,d < m∧∃ p',∀ tl,sem tab N (k+1) 49 [.ref (pn j),.int f,.int m] (HP j T R q due x pen tl)=.ok (.int d) (HP j T R q due x p' tl):=by
  have h0:(0:Int) < m:=by omega
  have e1:=Int.emod_nonneg (f+pen % m) (show (m:Int)≠0 by omega)
  have e2:=Int.emod_lt_of_pos (f+pen % m) h0
  refine ⟨((f+pen % m) % m).toNat,by omega,pen / m,fun tl=>?_⟩
  rw [Int.toNat_of_nonneg e1]
  refine i9 (d:=f_law_drawn) (h':=HP j T R q due x (pen / m) tl) rfl rfl ?_ (D4 rfl)
  have a1:=R9 (HP j T R q due x pen tl) pen m h0
  have a2:=bd9 (HP j T R q due x pen tl) pen m ⟨h0,by omega⟩
  have a3:=R9 (HP j T R q due x (pen / m) tl) (f+pen % m) m h0
  simp only [f_law_drawn,A6,List.map_cons,List.map_nil,List.cons_append,List.nil_append,Nat.reduceSub,List.replicate,h8,k4,n6,f7,b8,j6,n9,List.getElem?_cons_zero,List.getElem?_cons_succ,List.set_cons_zero,List.set_cons_succ,a9,a7,f8,b5,f0,g9,bd2,a1,a2,ba2,a3]
noncomputable def rowOf (T:List Nat):Nat:=1+T.count 10
theorem ay9:sem tab N (k+1) 50 [.ref 1] (HP j T R q due x pen tl)=.ok (.int (rowOf T)) (HP j T R q due x pen tl):=by
  have e:p2V .count (.str T) (.str [10]) (HP j T R q due x pen tl)=.ok (.int (T.count 10:Nat)) (HP j T R q due x pen tl):=rfl
  have e1:(1:Int)+((T.count 10:Nat):Int)=((rowOf T:Nat):Int):=rfl
  exact i9 (d:=f_law_row) rfl rfl (by simp only [f_law_row,List.map_cons,List.map_nil,List.cons_append,List.nil_append,Nat.reduceSub,List.replicate,h8,n6,f7,f5,b8,j6,n9,e_p2,List.getElem?_cons_zero,a9,a7,f8,b5,g9,if_true,C6,hp_T,C6,e,e1]) (D4 rfl)
abbrev Ref:=Option (List Nat×Nat)
noncomputable def refV (y:List Nat×Nat):V:=.tup [.str [114,101,102,117,115,101,100],.str y.1,.int y.2]
noncomputable def rV (R:Ref):V:=R.elim .none refV
noncomputable def refu (R:Ref) (w:List Nat) (n:Nat):Ref:=some (R.getD (w,n))
theorem an2 {R:Ref} (w:List Nat) (n:Nat):sem tab N (k+1) 51 [.ref 1,.str w,.int n] (HP j T (rV R) q due x pen tl)=.ok .none (HP j T (rV (refu R w n)) q due x pen tl):=by
  refine F3 (d:=f_law_refuse) (loc':=[some (.ref 1),some (.str w),some (.int n)]) (h':=HP j T (rV (refu R w n)) q due x pen tl) rfl rfl ?_ (D4 rfl)
  cases R with
  | none =>
    have e1:noneR (rV none) (HP j T (rV none) q due x pen tl)=.ok (.bool true) (HP j T (rV none) q due x pen tl):=rfl
    simp only [f_law_refuse,A6,List.map_cons,List.map_nil,List.cons_append,List.nil_append,Nat.reduceSub,List.replicate,h8,q7,j7,f7,f5,b8,n9,l9,X9,b9,b6,List.getElem?_cons_zero,List.getElem?_cons_succ,a9,a7,b5,d0,f6,f0,if_true,hp_R,e1,st_R]
    rfl
  | some y =>
    have e1:noneR (rV (some y)) (HP j T (rV (some y)) q due x pen tl)=.ok (.bool false) (HP j T (rV (some y)) q due x pen tl):=rfl
    simp only [f_law_refuse,A6,List.map_cons,List.map_nil,List.cons_append,List.nil_append,Nat.reduceSub,List.replicate,h8,q7,j7,f7,f5,b8,n9,l9,X9,b9,b6,List.getElem?_cons_zero,List.getElem?_cons_succ,a9,a7,b5,d0,f6,f0,Bool.false_eq_true,if_false,hp_R,e1]
    rfl
structure St where
  T:List Nat
  R:Ref
  ps:List Pt
  cur:List Nat
noncomputable def St.parts (s:St):List Pt:=s.ps++txP s.cur
noncomputable def HS (j:Bool) (s:St) (due x:List V) (pen:Int):H:=HP j s.T (rV s.R) (.ref (pr j)) due x pen [s.parts.map ptB]
structure Good (s:St) (m:Nat):Prop where
  t:s.T.length≤m
  c:s.cur.length≤m
  p:s.ps.length≤m
  l:s.ps.getLast?.elim false isT=false
noncomputable def St.addT (s:St) (x:List Nat):St:={ s with T:=s.T++x }
noncomputable def St.txt (s:St) (x:List Nat):St:={ s with cur:=s.cur++x }
noncomputable def St.ref (s:St) (w:List Nat) (n:Nat):St:={ s with R:=refu s.R w n }
noncomputable def St.code (s:St) (n m:Nat):St:={ s with ps:=s.parts++[.c n m],cur:=[] }
theorem aa9 (h:H) (k:Nat):∀ x,plainV h (k+4) (ptB x)=some (ptB x)
  | .t s=>rfl
  | .c a b=>rfl
theorem aN0 {h:H} {a b x:V} (ha:plainV h 8 a=some x) (hb:plainV h 8 b=some x):eqD h a b=some true:=by
  unfold eqD; rw [ha,hb]; exact if_pos rfl
theorem eqD_f {h:H} {a b:V} {v:V} {l:List V} (ha:plainV h 8 a=some (.lst (v::l))) (hb:plainV h 8 b=some (.lst [])):eqD h a b=some false:=by
  unfold eqD; rw [ha,hb]
  refine (if_neg (fun e=>by cases e)).trans ?_
  show (if (v::l).isEmpty=false∧([]:List V)=[] then some false else none)=_
  exact if_pos ⟨rfl,rfl⟩
theorem aM9 {h:H} {n:Nat} {P:List Pt} (e:h[n]?=some (P.map ptB)):cmpV .eq h (.ref n) (.lst [])=some P.isEmpty:=by
  have a:plainV h 8 (.ref n)=some (.lst (P.map ptB)):=by
    show ((h[n]?).bind fun vs=>(vs.mapM (plainV h 7)).map V.lst)=_
    rw [e,Option.bind_some,B7 (aa9 h 3)]; rfl
  show eqD h (.ref n) (.lst [])=_
  cases P with
  | nil=>exact aN0 a rfl
  | cons p P=>exact eqD_f a rfl
theorem bc2 {h:H} {n:Nat} {P:List Pt} (e:h[n]?=some (P.map ptB)):cmpV .ne h (.ref n) (.lst [])=some (!P.isEmpty):=congrArg (Option.map (!·)) (aM9 e)
theorem aO6 (l:List V) (v:V):atE (l++[v]) (-1)=some v:=by
  unfold atE
  rw [if_neg (by decide),if_pos (by rw [List.length_append]; simp; omega)]
  rw [show (-1+(((l++[v]).length:Nat):Int)).toNat=l.length by rw [List.length_append]; simp only [List.length_cons,List.length_nil]; omega]
  rw [List.getElem?_append_right (Nat.le_refl _),Nat.sub_self]; rfl
theorem ai6 (l:List V) (v w:V):placeOf (-1) (l++[v]).length=some l.length∧(l++[v]).set l.length w=l++[w]:=by
  constructor
  · unfold placeOf
    rw [if_neg (fun h=>absurd h.1 (by decide)),if_pos ⟨by decide,by rw [List.length_append]; simp; omega⟩]
    rw [List.length_append]; rfl
  · rw [List.set_append_right _ _ (Nat.le_refl _),Nat.sub_self]; rfl
theorem am1 {h:H} {n:Nat} {l:List V} {v:V} (e:h[n]?=some (l++[v])):idxV h (.ref n) (.int (-1))=some v:=by
  show pick none (pick none ((h[n]?).bind fun l=>atE l (-1)))=_
  rw [e,Option.bind_some,aO6]; rfl
theorem ba5 {h:H} {n:Nat} {l:List V} {v:V} (w:V) (e:h[n]?=some (l++[v])):setR loc (.ref n) (.int (-1)) w h=.ok (.next loc) (h.set n (l++[w])):=by
  show (ofK (h[n]?) fun l=>ofK (placeOf (-1) l.length) fun j=>R.ok (Fl.next loc) (h.set n (l.set j w)))=_
  rw [e]
  show (ofK (placeOf (-1) (l++[v]).length) fun j=>R.ok (Fl.next loc) (h.set n ((l++[v]).set j w)))=_
  rw [(ai6 l v w).1]
  show R.ok (Fl.next loc) (h.set n ((l++[v]).set l.length w))=_
  rw [(ai6 l v w).2]
theorem at6 {h:H} {n:Nat} {l:List V} (w:V) (e:h[n]?=some l) (hl:l.length < big):p2V .append (.ref n) w h=.ok .none (h.set n (l++[w])):=by
  refine U4 (q:=(.none,h.set n (l++[w]))) ?_
  show (h[n]?).bind _=_; rw [e]; exact if_pos hl
end
end Mine
end
section
set_option genInjectivity false
set_option genSizeOf false
namespace Mine
open P1
theorem aE1 {c:List Nat} (h:c.isEmpty=true):txP c=[]:=if_pos h
theorem ah4 {c:List Nat} (h:c.isEmpty=false):txP c=[.t c]:=if_neg (by rw [h]; exact Bool.false_ne_true)
section
variable {s:St} {m c:Nat} {x:List Nat}
theorem Good.addT (g:Good s m) (h:x.length≤c):Good (s.addT x) (m+c):=⟨by show (s.T++x).length≤_; rw [List.length_append]; exact Nat.add_le_add g.t h,Nat.le_trans g.c (Nat.le_add_right _ _),Nat.le_trans g.p (Nat.le_add_right _ _),g.l⟩
theorem Good.txt (g:Good s m) (h:x.length≤c):Good (s.txt x) (m+c):=⟨Nat.le_trans g.t (Nat.le_add_right _ _),by show (s.cur++x).length≤_; rw [List.length_append]; exact Nat.add_le_add g.c h,Nat.le_trans g.p (Nat.le_add_right _ _),g.l⟩
theorem Good.ref {w:List Nat} {n:Nat} (g:Good s m):Good (s.ref w n) m:=⟨g.t,g.c,g.p,g.l⟩
theorem R0 (c:List Nat):(txP c).length≤1:=by unfold txP; split <;> simp
theorem Good.code {a b:Nat} (g:Good s m):Good (s.code a b) (m+2):=⟨Nat.le_trans g.t (Nat.le_add_right _ _),Nat.zero_le _,by
  have:=R0 s.cur
  have:=g.p
  show (s.ps++txP s.cur++[Pt.c a b]).length≤_; simp only [List.length_append,List.length_cons,List.length_nil]; omega,by
  show (s.parts++[Pt.c a b]).getLast?.elim false isT=false; rw [List.getLast?_concat]; rfl⟩
theorem Good.mono (g:Good s m) (h:m≤c):Good s c:=⟨Nat.le_trans g.t h,Nat.le_trans g.c h,Nat.le_trans g.p h,g.l⟩
end
section
variable {j:Bool} {s:St} {due y:List V} {pen:Int} {N k m:Nat} {x:List Nat}
theorem aY2 (h:H):∀ p,∃ w,idxV h (ptB p) (.int 0)=some (.str w)∧(w==[116,101,120,116])=isT p
  | .t s=>⟨_,rfl,rfl⟩
  | .c a b=>⟨_,rfl,rfl⟩
theorem Y9 (g:Good s m) (hm:m < 10000) (hx:x.length < 100000):sem tab N (k+1) 52 [.ref 1,.str x] (HS j s due y pen)=.ok .none (HS j (s.txt x) due y pen):=by
  have hg:=g.p
  have hc:=g.c
  have bg:=k7
  refine F3 (d:=f_law_text) (loc':=[some (.ref 1),some (.str x),some (.ref (pr j))]) (h':=HS j (s.txt x) due y pen) rfl rfl ?_ (D4 rfl)
  show mex _ N f_law_text.body [some (.ref 1),some (.str x),none] _=_
  refine (nxa (.ref (pr j)) (by unfold HS; simp only [f7,b8,n9,List.getElem?_cons_zero,a9,a7,b5,hp_q])).trans ?_
  have ht:=R0 s.cur
  have gp:(HS j s due y pen)[pr j]?=some (s.parts.map ptB):=H4
  have nn:=bc2 gp
  cases b:s.cur.isEmpty with
  | true =>
    have e0:s.parts=s.ps:=by unfold St.parts; rw [aE1 b,List.append_nil]
    have ec:s.cur=[]:=List.isEmpty_iff.mp b
    have tst:mev (sem tab N k) (.and (.cmp .ne (.var 2) (.list .nil)) (.cmp .eq (.idx (.idx (.var 2) (.neg (.int 1))) (.int 0)) (.str [116,101,120,116]))) [some (.ref 1),some (.str x),some (.ref (pr j))] (HS j s due y pen)=.ok (.bool false) (HS j s due y pen):=by
      have gl:=g.l
      rw [e0] at nn gp
      rcases List.eq_nil_or_concat s.ps with z | ⟨L,p,z⟩
      · rw [z] at nn
        simp only [f7,f5,b8,e8,m8,ac1,n9,G3,b9,List.getElem?_cons_zero,List.getElem?_cons_succ,a9,a7,b5,Option.map_some,i4,Bool.false_eq_true,if_false,Bool.not_true,nn,List.isEmpty_nil]
      · rw [List.concat_eq_append] at z
        rw [z] at nn gp gl
        rw [List.getLast?_concat] at gl
        have gl:isT p=false:=gl
        rw [List.map_append] at gp
        have il:=am1 (v:=ptB p) gp
        obtain ⟨w,w1,w2⟩:=aY2 (HS j s due y pen) p
        rw [gl] at w2
        have n1:(L++[p]).isEmpty=false:=by cases L <;> rfl
        have ng:negR (.int 1) (HS j s due y pen)=.ok (.int (-1)) (HS j s due y pen):=rfl
        simp only [f7,f5,b8,e8,m8,ac1,n9,G3,b9,List.getElem?_cons_zero,List.getElem?_cons_succ,a9,a7,b5,i8,Option.map_some,i4,g8,ite_self,Bool.not_false,nn,n1,ng,il,w1,w2]
    refine (nxe2 tst).trans ?_
    cases bx:x==[] with
    | true =>
      have ex:=beq_iff_eq.mp bx
      refine (nxf (by simp only [f5,b8,e8,List.getElem?_cons_zero,List.getElem?_cons_succ,a9,a7,b5,u6,Option.map_some,Bool.not_true,bx])).trans ?_
      rw [show s.txt x=s by unfold St.txt; rw [ex,List.append_nil]]
      rfl
    | false =>
      have ap:=at6 (txtV x) gp (by rw [List.length_map,e0]; omega)
      unfold txtV at ap
      have fin:(HS j s due y pen).set (pr j) (s.parts.map ptB++[txtV x])=HS j (s.txt x) due y pen:=by
        refine (K4 _).trans ?_
        have:(s.txt x).parts.map ptB=s.parts.map ptB++[txtV x]:=by
          unfold St.parts St.txt
          rw [aE1 b,List.append_nil,ec,List.nil_append,ah4 (by cases x with | nil=>cases bx | cons=>rfl),List.map_append]; rfl
        rw [← this]; rfl
      unfold txtV at fin
      rw [fin] at ap
      refine (nxt (by simp only [f5,b8,e8,List.getElem?_cons_zero,List.getElem?_cons_succ,a9,a7,b5,u6,Option.map_some,Bool.not_false,bx])).trans ?_
      simp only [h8,j7,A0,f5,b8,e_p2,l9,b9,b6,List.getElem?_cons_zero,List.getElem?_cons_succ,a9,a7,f0,if_true,k8,k8,ap]
  | false =>
    have e0:s.parts.map ptB=s.ps.map ptB++[txtV s.cur]:=by unfold St.parts; rw [ah4 b,List.map_append]; rfl
    have n1:s.parts.isEmpty=false:=by unfold St.parts; rw [ah4 b]; cases s.ps <;> rfl
    rw [e0] at gp
    have il:=am1 gp
    have i0:idxV (HS j s due y pen) (txtV s.cur) (.int 0)=some (.str [116,101,120,116]):=rfl
    have i1:idxV (HS j s due y pen) (txtV s.cur) (.int 1)=some (.str s.cur):=rfl
    have ng:negR (.int 1) (HS j s due y pen)=.ok (.int (-1)) (HS j s due y pen):=rfl
    refine (nxt (by simp only [f7,f5,b8,e8,m8,ac1,n9,G3,b9,List.getElem?_cons_zero,List.getElem?_cons_succ,List.set_cons_zero,List.set_cons_succ,a9,a7,b5,i8,Option.map_some,i4,g8,if_true,Bool.not_false,nn,n1,ng,il,i0,beq_self_eq_true])).trans ?_
    have ad:=n7 (HS j s due y pen) s.cur x (by omega)
    have fin:(HS j s due y pen).set (pr j) (s.ps.map ptB++[txtV (s.cur++x)])=HS j (s.txt x) due y pen:=by
      refine (K4 _).trans ?_
      have:(s.txt x).parts.map ptB=s.ps.map ptB++[txtV (s.cur++x)]:=by
        unfold St.parts St.txt
        rw [ah4 (by cases z:s.cur with | nil=>rw [z] at b; cases b | cons=>rfl),List.map_append]; rfl
      rw [← this]; rfl
    have sa:=ba5 (loc:=[some (.ref 1),some (.str x),some (.ref (pr j))]) (txtV (s.cur++x)) gp
    unfold txtV at fin sa
    rw [fin] at sa
    simp only [A6,h8,j7,f7,f5,b8,j6,ac1,n9,l9,b9,b6,List.getElem?_cons_zero,List.getElem?_cons_succ,List.set_cons_zero,List.set_cons_succ,a9,a7,b5,f0,ng,il,i1,ad,sa]
theorem bg1 (g:Good s m) (hm:m < 10000) (n a:Nat):sem tab N (k+1) 53 [.ref 1,.int n,.int a] (HS j s due y pen)=.ok .none (HS j (s.code n (n+a)) due y pen):=by
  have gp:(HS j s due y pen)[pr j]?=some (s.parts.map ptB):=H4
  have ap:=at6 (ptB (.c n (n+a))) gp (by
    have:=R0 s.cur
    have:=g.p
    have bg:=k7
    unfold St.parts; rw [List.length_map,List.length_append]; omega)
  have fin:(HS j s due y pen).set (pr j) (s.parts.map ptB++[ptB (.c n (n+a))])=HS j (s.code n (n+a)) due y pen:=by
    refine (K4 _).trans ?_
    have:(s.code n (n+a)).parts.map ptB=s.parts.map ptB++[ptB (.c n (n+a))]:=by
      show ((s.parts++[Pt.c n (n+a)])++txP []).map ptB=_
      rw [aE1 rfl,List.append_nil,List.map_append]; rfl
    rw [← this]; rfl
  rw [fin] at ap
  have n1:(n:Int)+(a:Int)=((n+a:Nat):Int):=rfl
  have ap:p2V .append (.ref (pr j)) (.tup [.str [99,111,100,101],.lst [.tup [.str [118,97,114],.str [118],.int n],.tup [.str [101,110,100],.str [],.int (n+a:Nat)]]]) (HS j s due y pen)=_:=ap
  have hq:idxV (HS j s due y pen) (.ref 1) (.int 2)=some (.ref (pr j)):=rfl
  exact F3 (d:=f_law_code) (loc':=[some (.ref 1),some (.int n),some (.int a)]) (h':=HS j (s.code n (n+a)) due y pen) rfl rfl (by simp only [f_law_code,List.map_cons,List.map_nil,List.cons_append,List.nil_append,Nat.reduceSub,List.replicate,h8,j7,A0,f7,f5,b8,j6,n9,e_p2,l9,G3,b9,b6,List.getElem?_cons_zero,List.getElem?_cons_succ,a9,a7,f8,b5,f0,if_true,k8,hq,n1,k8,ap]) (D4 rfl)
theorem ay8 {h:H} {a:List Nat} (ha:a.length < 1000):sem tab N (k+1) 55 [.str a] h=.ok (.str (shortW a.length)) h:=by
  obtain ⟨a1,a2,a3⟩:=aa4 h ha
  exact i9 (d:=f_law_short) rfl rfl (nxr (v6 (v6 (f5 _ _ h s3) ((m_p1 (p:=.str) (x:=.int a.length) (h1:=h) rfl).trans a1) a2) (f5 _ _ h [41]) a3)) (f9 rfl)
theorem aK6:sem tab N (k+1) 50 [.ref 1] (HS j s due y pen)=.ok (.int (rowOf s.T)) (HS j s due y pen):=ay9
theorem af2 (w:List Nat) (n:Nat):sem tab N (k+1) 51 [.ref 1,.str w,.int n] (HS j s due y pen)=.ok .none (HS j (s.ref w n) due y pen):=an2 w n
end
end Mine
end
section
set_option genInjectivity false
set_option genSizeOf false
namespace Mine
open P1
structure So where
  lab:List Nat
  nl:List Nat
  ahead:List Nat
  raw:Bool
noncomputable def soV (o:So):V:=.tup [.str o.lab,.bool o.raw,.str o.nl,.str o.ahead]
structure So.Ok (o:So):Prop where
  l:o.lab.length≤3
  n:o.nl.length≤2
  a:o.ahead.length≤4
noncomputable def pcT (lab nl:List Nat):List (List Nat):=[[97],[92,110],[92,34],[36,118,32],[123,36,118,125],[123,36,118,32,47,42]++nl++[42,47,125],lab++[120],[46]++lab,[123,32],[39],[92,117,123,125],[92,120,52,49],[125],[92,117,123,69,57,125]]
noncomputable def pcX (o:So) (n:Nat):List Nat:=((pcT o.lab o.nl)[n]?).getD []
noncomputable def kvs:List (Int×List Nat):=[(1,[10]),(11,[65]),(13,[195,169])]
noncomputable def pcV (n:Nat) (x:List Nat):List Nat:=(kvs.lookup (n:Int)).getD x
noncomputable def pieceS (o:So) (n:Nat) (s:St):St :=
  cond o.raw (cond (n==5&&!(o.ahead==[])) (((s.addT (pcX o n)).txt (pcX o n)).ref (shortW o.ahead.length) (rowOf s.T+1)) ((s.addT (pcX o n)).txt (pcX o n)))
    (cond ([3,4,5].contains n) (((s.addT (pcX o n)).code (rowOf s.T) (rowOf s.T+cond (n==5) 1 0)).txt (cond (n==3) [32] []))
      (cond (n==10) ((s.addT (pcX o n)).ref s0 (rowOf s.T)) ((s.addT (pcX o n)).txt (pcV n (pcX o n)))))
theorem all14 {P:Nat→Prop} (h:∀ n∈List.range 14,P n) {n:Nat} (hn:n < 14):P n:=h n (List.mem_range.mpr hn)
theorem av7 {o:So} (ho:o.Ok) {n:Nat} (hn:n < 14):(pcX o n).length≤12:=by
  have h1:=ho.l
  have h2:=ho.n
  have:∀ x∈pcT o.lab o.nl,x.length≤12:=by
    intro x hx
    simp only [pcT,List.mem_cons,List.not_mem_nil,or_false] at hx
    rcases hx with rfl | rfl | rfl | rfl | rfl | rfl | rfl | rfl | rfl | rfl | rfl | rfl | rfl | rfl <;> simp only [List.length_append,List.length_cons,List.length_nil] <;> omega
  have hl:n < (pcT o.lab o.nl).length:=hn
  unfold pcX
  rw [List.getElem?_eq_getElem hl]
  exact this _ (List.getElem_mem hl)
theorem am0 (h:H) (l:List (List Nat)) {n:Nat} (hn:n < l.length):idxV h (.lst (l.map .str)) (.int n)=some (.str ((l[n]?).getD [])):=by
  show pick none (pick none (atE (l.map V.str) (n:Int)))=_
  have:atE (l.map V.str) (n:Int)=some (.str ((l[n]?).getD [])):=by
    unfold atE
    rw [if_pos (Int.natCast_nonneg n),Int.toNat_natCast,List.getElem?_map,List.getElem?_eq_getElem hn]; rfl
  rw [this]; rfl
section
variable {j:Bool} {s:St} {due y:List V} {pen:Int} {N k m n:Nat} {o:So}
theorem aS4 {C:Calls} {h:H} {l0 l1 l2 l3 l4 l6 l8:Option V} (ho:o.Ok):mev C (.list (.cons (.str [97]) (.cons (.str [92,110]) (.cons (.str [92,34]) (.cons (.str [36,118,32]) (.cons (.str [123,36,118,125]) (.cons (.bin .add (.bin .add (.str [123,36,118,32,47,42]) (.var 7)) (.str [42,47,125])) (.cons (.bin .add (.var 5) (.str [120])) (.cons (.bin .add (.str [46]) (.var 5)) (.cons (.str [123,32]) (.cons (.str [39]) (.cons (.str [92,117,123,125]) (.cons (.str [92,120,52,49]) (.cons (.str [125]) (.cons (.str [92,117,123,69,57,125]) .nil))))))))))))))) [l0,l1,l2,l3,l4,some (.str o.lab),l6,some (.str o.nl),l8] h=.ok (.lst ((pcT o.lab o.nl).map .str)) h:=by
  have h1:=ho.l
  have h2:=ho.n
  have bg:=k7
  have a1:=n7 h [123,36,118,32,47,42] o.nl (by simp only [List.length_cons,List.length_nil]; omega)
  have a2:=n7 h ([123,36,118,32,47,42]++o.nl) [42,47,125] (by simp only [List.length_append,List.length_cons,List.length_nil]; omega)
  have a3:=n7 h o.lab [120] (by simp only [List.length_cons,List.length_nil]; omega)
  have a4:=n7 h [46] o.lab (by simp only [List.length_cons,List.length_nil]; omega)
  simp only [List.cons_append,List.nil_append] at a1 a2 a4
  simp only [f5,b8,j6,G3,b9,b6,List.getElem?_cons_zero,List.getElem?_cons_succ,a9,a7,b5,a1,a2,a3,a4]
  rfl
theorem aX6 (g:Good s m) (hm:m < 9000) (hn:n < 14) (ho:o.Ok):sem tab N (k+2) 54 [.ref 1,soV o,.int n] (HS j s due y pen)=.ok .none (HS j (pieceS o n s) due y pen):=by
  have hx:=av7 ho hn
  have hT:=g.t
  have bg:=k7
  have g1:=g.addT hx
  refine F3 (d:=f_law_piece) (loc':=[some (.ref 1),some (soV o),some (.int n),some (.int (rowOf s.T)),some (.str (pcX o n)),some (.str o.lab),some (.bool o.raw),some (.str o.nl),some (.str o.ahead)]) (h':=HS j (pieceS o n s) due y pen) rfl rfl ?_ (D4 rfl)
  show mex _ N f_law_piece.body [some (.ref 1),some (soV o),some (.int n),none,none,none,none,none,none] _=_
  refine (i5 (loc':=[some (.ref 1),some (soV o),some (.int n),none,none,some (.str o.lab),some (.bool o.raw),some (.str o.nl),some (.str o.ahead)]) (h':=HS j s due y pen) rfl).trans ?_
  refine (nxa (.int (rowOf s.T)) (by simp only [b8,e9,b9,b6,List.getElem?_cons_zero,a9,a7,aK6])).trans ((nxa (.str (pcX o n)) (E6 (aS4 ho) rfl (am0 _ _ hn))).trans ?_)
  have ad:=n7 (HS j s due y pen) s.T (pcX o n) (by omega)
  have iT:idxV (HS j s due y pen) (.ref 1) (.int 0)=some (.str s.T):=rfl
  have sT:∀ loc,setR loc (.ref 1) (.int 0) (.str (s.T++pcX o n)) (HS j s due y pen)=.ok (.next loc) (HS j (s.addT (pcX o n)) due y pen):=fun loc=>rfl
  refine (i5 (loc':=[some (.ref 1),some (soV o),some (.int n),some (.int (rowOf s.T)),some (.str (pcX o n)),some (.str o.lab),some (.bool o.raw),some (.str o.nl),some (.str o.ahead)]) (h':=HS j (s.addT (pcX o n)) due y pen) (by simp only [A6,f7,b8,j6,n9,List.getElem?_cons_zero,List.getElem?_cons_succ,List.set_cons_zero,List.set_cons_succ,a9,a7,b5,iT,ad,sT])).trans ?_
  have tx:∀ x:List Nat,x.length≤12→sem tab N (k+1) 52 [.ref 1,.str x] (HS j (s.addT (pcX o n)) due y pen)=.ok .none (HS j ((s.addT (pcX o n)).txt x) due y pen):=fun x hx=>Y9 g1 (by omega) (by omega)
  have n5:((n:Int)==5)=(n==5):=all14 (P:=fun n:Nat=>((n:Int)==5)=(n==5)) (by decide) hn
  unfold pieceS
  cases br:o.raw with
  | true =>
    refine (nxt rfl).trans ((nxx ((F7 rfl rfl).trans (tx _ hx))).trans ?_)
    cases b:(n==5&&!(o.ahead==[])) with
    | true =>
      obtain ⟨b1,b2⟩:=Bool.and_eq_true_iff.mp b
      have b2:(o.ahead==[])=false:=by simpa using b2
      have sh:=fun h=>ay8 (N:=N) (k:=k) (h:=h) (a:=o.ahead) (by have:=ho.a; omega)
      have rf:=af2 (j:=j) (s:=(s.addT (pcX o n)).txt (pcX o n)) (due:=due) (y:=y) (pen:=pen) (N:=N) (k:=k) (shortW o.ahead.length) (rowOf s.T+1)
      exact (o8.trans (nxt (by simp only [f7,f5,b8,e8,m8,List.getElem?_cons_zero,List.getElem?_cons_succ,a9,a7,b5,u6,r7,Option.map_some,i4,g8,if_true,Bool.not_false,n5,b1,b2]))).trans ((nxx ((s8 rfl ((I3 rfl).trans (sh _)) rfl).trans rf)).trans rfl)
    | false =>
      have tst:mev (sem tab N (k+1)) (.and (.cmp .eq (.var 2) (.int 5)) (.cmp .ne (.var 8) (.str []))) [some (.ref 1),some (soV o),some (.int n),some (.int (rowOf s.T)),some (.str (pcX o n)),some (.str o.lab),some (.bool true),some (.str o.nl),some (.str o.ahead)] (HS j ((s.addT (pcX o n)).txt (pcX o n)) due y pen)=.ok (.bool false) (HS j ((s.addT (pcX o n)).txt (pcX o n)) due y pen):=by
        rw [← b]
        cases b1:n==5 <;> simp only [f7,f5,b8,e8,m8,List.getElem?_cons_zero,List.getElem?_cons_succ,a9,a7,b5,u6,r7,Option.map_some,i4,g8,Bool.false_eq_true,if_false,if_true,n5,b1,Bool.true_and,Bool.false_and]
      exact o8.trans (nxf tst)
  | false =>
    have i3:cmpV .isin (HS j (s.addT (pcX o n)) due y pen) (.int n) (.lst [.int 3,.int 4,.int 5])=some ([3,4,5].contains n):=(show _=some (([3,4,5]:List Int).any (·==(n:Int))) from rfl).trans (congrArg some (all14 (P:=fun n:Nat=>(([3,4,5]:List Int).any (·==(n:Int)))=[3,4,5].contains n) (by decide) hn))
    refine (nxe2 rfl).trans ?_
    cases b:[3,4,5].contains n with
    | true =>
      have n3:((n:Int)==3)=(n==3):=all14 (P:=fun n:Nat=>((n:Int)==3)=(n==3)) (by decide) hn
      have cd:=fun a=>bg1 (j:=j) (due:=due) (y:=y) (pen:=pen) (N:=N) (k:=k) g1 (by omega) (rowOf s.T) a
      have g2:Good ((s.addT (pcX o n)).code (rowOf s.T) (rowOf s.T+cond (n==5) 1 0)) (m+12+2):=g1.code
      have t3:sem tab N (k+1) 52 [.ref 1,.str (cond (n==3) [32] [])] (HS j ((s.addT (pcX o n)).code (rowOf s.T) (rowOf s.T+cond (n==5) 1 0)) due y pen)=_:=Y9 g2 (by omega) (by cases n==3 <;> decide)
      have e5:mev (sem tab N (k+1)) (.ite (.cmp .eq (.var 2) (.int 5)) (.int 1) (.int 0)) [some (.ref 1),some (soV o),some (.int n),some (.int (rowOf s.T)),some (.str (pcX o n)),some (.str o.lab),some (.bool false),some (.str o.nl),some (.str o.ahead)] (HS j (s.addT (pcX o n)) due y pen)=.ok (.int (cond (n==5) 1 0:Nat)) (HS j (s.addT (pcX o n)) due y pen):=by
        cases z:n==5 <;> simp only [f7,b8,e8,y9,List.getElem?_cons_zero,List.getElem?_cons_succ,a9,a7,b5,r7,Option.map_some,d0,f6,Bool.false_eq_true,if_false,if_true,n5,z] <;> rfl
      have e3:∀ h,mev (sem tab N (k+1)) (.ite (.cmp .eq (.var 2) (.int 3)) (.str [32]) (.str [])) [some (.ref 1),some (soV o),some (.int n),some (.int (rowOf s.T)),some (.str (pcX o n)),some (.str o.lab),some (.bool false),some (.str o.nl),some (.str o.ahead)] h=.ok (.str (cond (n==3) [32] [])) h:=fun h=>by
        cases z:n==3 <;> simp only [f7,f5,b8,e8,y9,List.getElem?_cons_zero,List.getElem?_cons_succ,a9,a7,b5,r7,Option.map_some,d0,f6,Bool.false_eq_true,if_false,if_true,n3,z] <;> rfl
      refine (nxt (by simp only [f7,b8,e8,G3,b9,b6,List.getElem?_cons_zero,List.getElem?_cons_succ,a9,a7,b5,Option.map_some,i3,b])).trans ?_
      exact (nxx ((s8 rfl rfl e5).trans (cd _))).trans (o8.trans ((nxx ((F7 rfl (e3 _)).trans t3)).trans rfl))
    | false =>
      have n10:((n:Int)==10)=(n==10):=all14 (P:=fun n:Nat=>((n:Int)==10)=(n==10)) (by decide) hn
      refine (nxe2 (by simp only [f7,b8,e8,G3,b9,b6,List.getElem?_cons_zero,List.getElem?_cons_succ,a9,a7,b5,Option.map_some,i3,b])).trans ?_
      cases b10:n==10 with
      | true =>
        refine (nxt (by simp only [f7,b8,e8,List.getElem?_cons_zero,List.getElem?_cons_succ,a9,a7,b5,r7,Option.map_some,n10,b10])).trans ((nxx ((s8 rfl rfl rfl).trans (af2 s0 (rowOf s.T)))).trans rfl)
      | false =>
        have hv:(pcV n (pcX o n)).length≤12:=by
          unfold pcV
          cases z:kvs.lookup (n:Int) with
          | none=>exact hx
          | some w=>exact all14 (P:=fun n:Nat=>∀ w,kvs.lookup (n:Int)=some w→w.length≤12) (by decide) hn w z
        have eg:∀ loc,getV loc 2=some (.int n)→getV loc 4=some (.str (pcX o n))→mev (sem tab N (k+1)) (.getI [(1,[10]),(11,[65]),(13,[195,169])] 2 4) loc (HS j (s.addT (pcX o n)) due y pen)=.ok (.str (pcV n (pcX o n))) (HS j (s.addT (pcX o n)) due y pen):=fun loc a1 a2=>by
          show ofO (getIV kvs loc 2 4) _=_
          unfold getIV
          rw [a1,a2]
          show ofO (some ((kvs.lookup (n:Int)).elim (V.str (pcX o n)) V.str)) _=_
          unfold pcV
          cases kvs.lookup (n:Int) <;> rfl
        exact (nxe2 (by simp only [f7,b8,e8,List.getElem?_cons_zero,List.getElem?_cons_succ,a9,a7,b5,r7,Option.map_some,n10,b10])).trans ((nxx ((F7 rfl (eg _ rfl rfl)).trans (tx _ hv))).trans rfl)
end
end Mine
end
section
set_option genInjectivity false
set_option genSizeOf false
namespace Mine
open P1
inductive Kd where
  | blank (d:Nat)
  | short | mixed
  | full (e:Bool)
noncomputable def sp (e:Bool):List Nat:=cond e [32] []
noncomputable def oth (a:List Nat):List Nat:=cond (a.take 1==[32]) [9] [32]
noncomputable def preS (o:So) (k:Kd) (s:St):St:=match k with
  | .blank d=>s.addT (o.ahead.take d)
  | .short=>(s.ref (shortW o.ahead.length) (rowOf s.T)).addT (o.ahead.drop 1)
  | .mixed=>(s.ref s2 (rowOf s.T)).addT (oth o.ahead++o.ahead.drop 1)
  | .full e=>(s.addT (o.ahead++sp e)).txt (sp e)
noncomputable def isBlank (k:Kd):Bool:=match k with | .blank _=>true | _=>false
noncomputable def needA (k:Kd):Bool:=match k with | .short=>true | .mixed=>true | _=>false
structure Rw where
  k:Kd
  ps:List Nat
noncomputable def pcsS (o:So) (ps:List Nat) (s:St):St:=ps.foldl (fun s n=>pieceS o n s) s
noncomputable def midS (o:So) (r:Rw) (s:St):St:=pcsS o r.ps (preS o r.k s)
noncomputable def nlS (o:So) (s:St):St:=(s.addT o.nl).txt o.nl
structure RwOk (o:So) (r:Rw):Prop where
  p:∀ n∈r.ps,n < 14
  l:r.ps.length≤3
  e:r.ps.isEmpty=isBlank r.k
  a:needA r.k=true→(o.ahead==[])=false
section
variable {j:Bool} {s:St} {due y:List V} {pen:Int} {N k m n f:Nat} {o:So}
theorem S9 (e:Bool):(sp e).length≤1:=by cases e <;> decide
theorem ae4 (a:List Nat):(oth a).length=1:=by unfold oth; cases (a.take 1==[32]) <;> rfl
theorem Good.pre (g:Good s m) (ho:o.Ok) (k:Kd):Good (preS o k s) (m+10):=by
  have h1:=ho.a
  cases k with
  | blank d=>exact (g.addT (c:=4) (by rw [List.length_take]; omega)).mono (by omega)
  | short=>exact (g.ref.addT (c:=4) (by rw [List.length_drop]; omega)).mono (by omega)
  | mixed=>exact (g.ref.addT (c:=5) (by rw [List.length_append,ae4,List.length_drop]; omega)).mono (by omega)
  | full e=>exact ((g.addT (c:=5) (by have:=S9 e; rw [List.length_append]; omega)).txt (S9 e)).mono (by omega)
theorem Good.piece (g:Good s m) (ho:o.Ok) (hn:n < 14):Good (pieceS o n s) (m+24):=by
  have hx:=av7 ho hn
  have g1:=g.addT hx
  unfold pieceS
  cases o.raw with
  | true=>cases (n==5&&!(o.ahead==[])) with
    | true=>exact (g1.txt hx).ref
    | false=>exact g1.txt hx
  | false=>cases [3,4,5].contains n with
    | true=>exact (g1.code.txt (c:=1) (by cases n==3 <;> decide)).mono (by omega)
    | false=>cases n==10 with
      | true=>exact g1.ref.mono (by omega)
      | false =>
        show Good ((s.addT (pcX o n)).txt (pcV n (pcX o n))) _
        refine g1.txt (c:=12) ?_
        unfold pcV
        cases z:kvs.lookup (n:Int) with
        | none=>exact hx
        | some w=>exact all14 (P:=fun n:Nat=>∀ w,kvs.lookup (n:Int)=some w→w.length≤12) (by decide) hn w z
theorem Good.pcs (ho:o.Ok):∀ (ps:List Nat) {s:St} {m:Nat},Good s m→(∀ n∈ps,n < 14)→Good (pcsS o ps s) (m+24 * ps.length)
  | [],s,m,g,_=>g
  | n::ps,s,m,g,h=>(Good.pcs ho ps (g.piece ho (h n (.head _))) fun a ha=>h a (.tail _ ha)).mono (by rw [List.length_cons]; omega)
theorem Good.nl (g:Good s m) (ho:o.Ok):Good (nlS o s) (m+4):=(g.addT ho.n).txt ho.n
theorem Good.mid {r:Rw} (g:Good s m) (ho:o.Ok) (hr:RwOk o r):Good (midS o r s) (m+82):=((g.pre ho r.k).pcs ho r.ps hr.p).mono (by have:=hr.l; omega)
noncomputable def brL (j:Bool) (o:So) (f row way:Nat) (c10:Option V):L:=[some (.ref 1),some (.ref (pn j)),some (soV o),some (.int f),some (.int row),some (.int way),some (.str o.lab),some (.bool o.raw),some (.str o.nl),some (.str o.ahead),c10]
theorem ag1 {C:Calls} {loc:L} {E:ME} {x:List Nat} {s':St} {pen':Int} (hT:s'.T=s.T) (h0:loc[0]?=some (some (.ref 1))) (q:mev C E loc (HS j s due y pen)=.ok (.str (s.T++x)) (HS j s' due y pen')):mex C N (.setidx (.var 0) (.int 0) E) loc (HS j s due y pen)=.ok (.next loc) (HS j (s'.addT x) due y pen'):=by
  rw [A6,q,a7,b8,h0,a9,a7,f7,a7,← hT]
  rfl
theorem ag2 {C:Calls} {loc:L} (h0:loc[0]?=some (some (.ref 1))):mev C (.idx (.var 0) (.int 0)) loc (HS j s due y pen)=.ok (.str s.T) (HS j s due y pen):=E6 (by rw [b8,h0,a9]) (f7 _ _ _ _) rfl
theorem at5 {C:Calls} {loc:L} {e:ME} {x:List Nat} {s':St} {pen':Int} (g:Good s' m) (hm:m < 9000) (hT:s'.T=s.T) (hx:x.length < 1000) (h0:loc[0]?=some (some (.ref 1))) (q:mev C e loc (HS j s due y pen)=.ok (.str x) (HS j s' due y pen')):mex C N (.setidx (.var 0) (.int 0) (.bin .add (.idx (.var 0) (.int 0)) e)) loc (HS j s due y pen)=.ok (.next loc) (HS j (s'.addT x) due y pen'):=by
  have hT2:=g.t
  have bg:=k7
  exact ag1 hT h0 (v6 (ag2 h0) q (n7 _ s.T x (by rw [← hT]; omega)))
theorem M8 (f:Int) (m:Nat) (hm:0 < m∧m < 1000):∃ d:Nat,d < m∧∃ p',sem tab N (k+1) 49 [.ref (pn j),.int f,.int m] (HS j s due y pen)=.ok (.int d) (HS j s due y p'):=by
  obtain ⟨d,hd,p',e⟩:=ag3 (j:=j) (T:=s.T) (R:=rV s.R) (q:=.ref (pr j)) (due:=due) (x:=y) (pen:=pen) (N:=N) (k:=k) f m hm
  exact ⟨d,hd,p',e _⟩
theorem N7 (a b:Nat):((a:Int)==(b:Int))=(a==b):=by
  rw [Bool.eq_iff_iff]; simp only [beq_iff_eq]; omega
theorem b_pre {way:Nat} {c10:Option V} (g:Good s m) (hm:m < 8000) (ho:o.Ok):∃ kd p',(needA kd=true→(o.ahead==[])=false)∧isBlank kd=(way==3) ∧
    mex (sem tab N (k+2)) N i_56 (brL j o f (rowOf s.T) way c10) (HS j s due y pen)=.ok (.next (brL j o f (rowOf s.T) way c10)) (HS j (preS o kd s) due y p'):=by
  have ha:=ho.a
  have bg:=k7
  cases w3:way==3 with
  | true =>
    obtain ⟨d,hd,p',e⟩:=M8 (j:=j) (s:=s) (due:=due) (y:=y) (pen:=pen) (N:=N) (k:=k+1) f 5 (by decide)
    have n3:((way:Int)==3)=true:=by rw [beq_iff_eq.mp w3]; rfl
    refine ⟨.blank d,p',(fun h=>by cases h),rfl,?_⟩
    have sl:mev (sem tab N (k+2)) (.slc (.var 9) .none (.call 49 (.cons (.var 1) (.cons (.var 3) (.cons (.int 5) .nil))))) (brL j o f (rowOf s.T) way c10) (HS j s due y pen)=.ok (.str (o.ahead.take d)) (HS j s due y p'):=by
      rw [s7,brL,b8]
      simp only [List.getElem?_cons_succ,List.getElem?_cons_zero,a9,a7,z0]
      rw [s8 rfl rfl rfl,show ((5:Int))=((5:Nat):Int) from rfl,e]
      rw [a7,K6]; rfl
    have:=at5 (N:=N) (g.mono (Nat.le_refl m)) (by omega) rfl (x:=o.ahead.take d) (by rw [List.length_take]; omega) rfl sl
    unfold i_56
    rw [q7,show mev (sem tab N (k+2)) (.cmp .eq (.var 5) (.int 3)) (brL j o f (rowOf s.T) way c10) (HS j s due y pen)=.ok (.bool true) (HS j s due y pen) by unfold brL; simp only [f7,b8,e8,List.getElem?_cons_zero,List.getElem?_cons_succ,a9,a7,b5,r7,Option.map_some,n3],a7,d0,f6,if_pos rfl]
    exact (i5 this).trans rfl
  | false =>
    have n3:((way:Int)==3)=false:=(N7 way 3).trans w3
    have t3:mev (sem tab N (k+2)) (.cmp .eq (.var 5) (.int 3)) (brL j o f (rowOf s.T) way c10) (HS j s due y pen)=.ok (.bool false) (HS j s due y pen):=by unfold brL; simp only [f7,b8,e8,List.getElem?_cons_zero,List.getElem?_cons_succ,a9,a7,b5,r7,Option.map_some,n3]
    have tst:∀ c b,(way==c&&!(o.ahead==[]))=b→mev (sem tab N (k+2)) (.and (.cmp .eq (.var 5) (.int (c:Nat))) (.cmp .ne (.var 9) (.str []))) (brL j o f (rowOf s.T) way c10) (HS j s due y pen)=.ok (.bool b) (HS j s due y pen):=fun c b hb=>by
      have nc:=N7 way c
      rw [← hb]
      unfold brL
      cases z:way==c <;> rw [z] at nc <;> simp only [f7,f5,b8,e8,m8,List.getElem?_cons_zero,List.getElem?_cons_succ,a9,a7,b5,u6,r7,Option.map_some,i4,g8,Bool.false_eq_true,if_false,if_true,nc,Bool.true_and,Bool.false_and]
    unfold i_56
    rw [q7,t3,a7,d0,f6,if_neg Bool.false_ne_true]
    cases w4:(way==4&&!(o.ahead==[])) with
    | true =>
      have b2:(o.ahead==[])=false:=by simpa using (Bool.and_eq_true_iff.mp w4).2
      refine ⟨.short,pen,fun _=>b2,rfl,?_⟩
      have sh:=ay8 (N:=N) (k:=k+1) (h:=HS j s due y pen) (a:=o.ahead) (by omega)
      have rf:=af2 (j:=j) (s:=s) (due:=due) (y:=y) (pen:=pen) (N:=N) (k:=k+1) (shortW o.ahead.length) (rowOf s.T)
      have ad:=at5 (N:=N) (C:=sem tab N (k+2)) (j:=j) (due:=due) (y:=y) (pen:=pen) (pen':=pen) (loc:=brL j o f (rowOf s.T) way c10) (s:=s.ref (shortW o.ahead.length) (rowOf s.T)) (e:=.slc (.var 9) (.int 1) .none) (x:=o.ahead.drop 1) g.ref (by omega) rfl (by rw [List.length_drop]; omega) rfl (by
        have:=ai5 o.ahead 1
        unfold brL; simp only [z0,f7,b8,s7,List.getElem?_cons_zero,List.getElem?_cons_succ,a9,a7,z0]
        exact congrArg (fun o=>ofO o _) this)
      refine (nxt (tst 4 true w4)).trans ((nxx ((s8 rfl ((I3 rfl).trans sh) rfl).trans rf)).trans (o8.trans ((i5 ad).trans rfl)))
    | false =>
      have hT2:=g.t
      cases w5:(way==5&&!(o.ahead==[])) with
      | true =>
        have b2:(o.ahead==[])=false:=by simpa using (Bool.and_eq_true_iff.mp w5).2
        refine ⟨.mixed,pen,fun _=>b2,rfl,?_⟩
        have rf:=af2 (j:=j) (s:=s) (due:=due) (y:=y) (pen:=pen) (N:=N) (k:=k+1) s2 (rowOf s.T)
        have ol:=ae4 o.ahead
        have e1:mev (sem tab N (k+2)) (.ite (.cmp .eq (.idx (.var 9) (.int 0)) (.str [32])) (.str [9]) (.str [32])) (brL j o f (rowOf s.T) way c10) (HS j (s.ref s2 (rowOf s.T)) due y pen)=.ok (.str (oth o.ahead)) (HS j (s.ref s2 (rowOf s.T)) due y pen):=by
          cases z:o.ahead with
          | nil=>rw [z] at b2; cases b2
          | cons c w =>
            have ic:idxV (HS j (s.ref s2 (rowOf s.T)) due y pen) (.str (c::w)) (.int 0)=some (.str [c]):=rfl
            have oc:oth (c::w)=cond ([c]==[32]) [9] [32]:=rfl
            rw [oc]
            unfold brL
            rw [z]
            cases zc:([c]==[32]) <;> simp only [f7,f5,b8,e8,y9,n9,List.getElem?_cons_zero,List.getElem?_cons_succ,a9,a7,b5,i8,Option.map_some,d0,f6,Bool.false_eq_true,if_false,if_true,ic,zc] <;> rfl
        have e2:mev (sem tab N (k+2)) (.slc (.var 9) (.int 1) .none) (brL j o f (rowOf s.T) way c10) (HS j (s.ref s2 (rowOf s.T)) due y pen)=.ok (.str (o.ahead.drop 1)) (HS j (s.ref s2 (rowOf s.T)) due y pen):=by
          have:=ai5 o.ahead 1
          unfold brL; simp only [z0,f7,b8,s7,List.getElem?_cons_zero,List.getElem?_cons_succ,a9,a7,z0]
          exact congrArg (fun o=>ofO o _) this
        have ad:=ag1 (N:=N) (C:=sem tab N (k+2)) (j:=j) (due:=due) (y:=y) (pen:=pen) (pen':=pen) (loc:=brL j o f (rowOf s.T) way c10) (s:=s.ref s2 (rowOf s.T)) (s':=s.ref s2 (rowOf s.T)) (x:=oth o.ahead++o.ahead.drop 1) rfl rfl (by
          rw [← List.append_assoc]
          exact v6 (v6 (ag2 rfl) e1 (n7 _ s.T (oth o.ahead) (by omega))) e2 (n7 _ (s.T++oth o.ahead) (o.ahead.drop 1) (by rw [List.length_append,List.length_drop]; omega)))
        exact (nxe2 (tst 4 false w4)).trans ((nxt (tst 5 true w5)).trans ((nxx ((s8 rfl rfl rfl).trans rf)).trans (o8.trans ((i5 ad).trans rfl))))
      | false =>
        refine ⟨.full (way==1),pen,(fun h=>by cases h),rfl,?_⟩
        have n1:=N7 way 1
        have sl:=S9 (way==1)
        have e1:∀ h,mev (sem tab N (k+2)) (.ite (.cmp .eq (.var 5) (.int 1)) (.str [32]) (.str [])) (brL j o f (rowOf s.T) way c10) h=.ok (.str (sp (way==1))) h:=fun h=>by
          have n1:((way:Int)==1)=(way==1):=n1
          unfold brL
          cases z:way==1 <;> simp only [f7,f5,b8,e8,y9,List.getElem?_cons_zero,List.getElem?_cons_succ,a9,a7,b5,r7,Option.map_some,d0,f6,Bool.false_eq_true,if_false,if_true,n1,z] <;> rfl
        have ad:=ag1 (N:=N) (C:=sem tab N (k+2)) (j:=j) (due:=due) (y:=y) (pen:=pen) (pen':=pen) (loc:=brL j o f (rowOf s.T) way c10) (s:=s) (s':=s) (x:=o.ahead++sp (way==1)) rfl rfl (by
          rw [← List.append_assoc]
          exact v6 (v6 (b:=.var 9) (ag2 rfl) rfl (n7 _ s.T o.ahead (by omega))) (e1 _) (n7 _ (s.T++o.ahead) (sp (way==1)) (by rw [List.length_append]; omega)))
        have tx:=Y9 (j:=j) (s:=s.addT (o.ahead++sp (way==1))) (due:=due) (y:=y) (pen:=pen) (N:=N) (k:=k+1) (x:=sp (way==1)) (g.addT (c:=5) (by rw [List.length_append]; omega)) (by omega) (by omega)
        exact (nxe2 (tst 4 false w4)).trans ((nxe2 (tst 5 false w5)).trans ((i5 ad).trans (o8.trans ((nxx ((F7 (a:=.var 0) rfl (e1 _)).trans tx)).trans rfl))))
end
end Mine
end
section
set_option genInjectivity false
set_option genSizeOf false
namespace Mine
open P1
theorem aA7 (n:Nat):rangeL n=(List.range n).map fun (i:Nat)=>V.int (i:Int):=by
  unfold rangeL
  exact List.map_congr_left fun i _=>by rw [Int.zero_add]
theorem V0 {C:Calls} {N x:Nat} {lo hi:ME} {b c:MS} {loc:L} {n:Nat} {h h':H} {Y:R Fl} (e1:mev C lo loc h=.ok (.int 0) h) (e2:mev C hi loc h=.ok (.int n) h') (hn:n < 1000)
    (e3:(floop (fun v loc h=>mex C N b (loc.set x (some v)) h) ((List.range n).map fun (i:Nat)=>V.int (i:Int)) loc h').bind (fun f h=>seqR f h (mex C N c))=Y):mex C N (.seq (.forR x lo hi b) c) loc h=Y:=by
  have:mex C N (.seq (.forR x lo hi b) c) loc h=((mev C lo loc h).bind fun a h=>(mev C hi loc h).bind fun c h=>itemsR (rangeV a c) fun vs=>floop (fun v loc h=>mex C N b (loc.set x (some v)) h) vs loc h).bind fun f h=>seqR f h (mex C N c):=rfl
  rw [this,e1,a7,e2,a7]
  have q:rangeV (.int 0) (.int n)=some (rangeL n):=by
    refine (av1 0 n ⟨by decide,by rw [k7]; decide,by rw [k7]; omega,by omega⟩).trans ?_
    rw [Int.sub_zero,Int.toNat_natCast]; rfl
  rw [q,aA7]; exact e3
theorem aY6 (h:H) (x y:Int) (e:small x=true∧small y=true):binV .mul h (.int x) (.int y)=some (.int (x * y)):=by
  show pick (if small x=true∧small y=true then some (V.int (x * y)) else none) _=_
  rw [if_pos e]; rfl
section
variable {j:Bool} {due y:List V} {N k f:Nat} {o:So}
theorem aO5 (ho:o.Ok) (hf:f < 1000) {row way:Nat}:∀ (l:List Nat) (s:St) (m:Nat) (pen:Int) (c10:Option V),Good s m→m+24 * l.length < 9000→(∀ i∈l,i < 1000) →
    ∃ ps p' c10',ps.length=l.length∧(∀ n∈ps,n < 14)∧floop (fun v loc h=>mex (sem tab N (k+2)) N b_56 (loc.set 10 (some v)) h) (l.map fun (i:Nat)=>V.int (i:Int)) (brL j o f row way c10) (HS j s due y pen)=.ok (.next (brL j o f row way c10')) (HS j (pcsS o ps s) due y p')
  | [],s,m,pen,c10,_,_,_=>⟨[],pen,c10,rfl,(fun n hn=>by cases hn),rfl⟩
  | i::l,s,m,pen,c10,g,hm,hi=>by
    have i1:=hi i (.head _)
    rw [List.length_cons] at hm
    obtain ⟨d,hd,p1,e⟩:=M8 (j:=j) (s:=s) (due:=due) (y:=y) (pen:=pen) (N:=N) (k:=k+1) ((4:Nat) * (f:Int)+(3:Nat) * (i:Int)) 14 (by decide)
    have ex:mev (sem tab N (k+2)) (.bin .add (.bin .mul (.int 4) (.var 3)) (.bin .mul (.int 3) (.var 10))) (brL j o f row way (some (.int i))) (HS j s due y pen)=.ok (.int ((4:Nat) * (f:Int)+(3:Nat) * (i:Int))) (HS j s due y pen) :=
      v6 (v6 (a:=.int 4) (b:=.var 3) rfl rfl (aY6 _ (4:Nat) f ⟨D6 (by decide),D6 (by omega)⟩)) (v6 (a:=.int 3) (b:=.var 10) rfl rfl (aY6 _ (3:Nat) i ⟨D6 (by decide),D6 (by omega)⟩)) rfl
    have st:mex (sem tab N (k+2)) N b_56 ((brL j o f row way c10).set 10 (some (.int i))) (HS j s due y pen)=.ok (.next (brL j o f row way (some (.int i)))) (HS j (pieceS o d s) due y p1) :=
      (nxx ((s8 (a:=.var 0) (b:=.var 2) rfl rfl ((s8 (a:=.var 1) (c:=.int 14) rfl ex rfl).trans e)).trans (aX6 g (by omega) hd ho))).trans rfl
    obtain ⟨ps,p',c',h1,h2,h3⟩:=aO5 ho hf l (pieceS o d s) (m+24) p1 (some (.int i)) (g.piece ho hd) (by omega) fun a ha=>hi a (.tail _ ha)
    exact ⟨d::ps,p',c',congrArg (· + 1) h1,(fun n hn=>(List.mem_cons.mp hn).elim (fun e=>e▸hd) (h2 n)),by
      rw [List.map_cons,D3 (body:=fun v loc h=>mex (sem tab N (k+2)) N b_56 (loc.set 10 (some v)) h) (v:=.int i) st]; exact h3⟩
theorem at4 (ho:o.Ok) (hf:f < 1000) {s:St} {m:Nat} {pen:Int} (g:Good s m) (hm:m < 7000) :
    ∃ r p',RwOk o r∧sem tab N (k+3) 56 [.ref 1,.ref (pn j),soV o,.int f] (HS j s due y pen)=.ok .none (HS j (nlS o (midS o r s)) due y p'):=by
  obtain ⟨way,hw,p1,ew⟩:=M8 (j:=j) (s:=s) (due:=due) (y:=y) (pen:=pen) (N:=N) (k:=k+1) f 6 (by decide)
  obtain ⟨kd,p2,k1,k2,ek⟩:=b_pre (j:=j) (due:=due) (y:=y) (pen:=p1) (N:=N) (k:=k) (f:=f) (way:=way) (c10:=none) g (by omega) ho
  have start:∀ {Y},mex (sem tab N (k+2)) N (.seq l_56 (.seq (.setidx (.var 0) (.int 0) (.bin .add (.idx (.var 0) (.int 0)) (.var 8))) (.seq (.expr (.call 52 (.cons (.var 0) (.cons (.var 8) .nil)))) .skip))) (brL j o f (rowOf s.T) way none) (HS j (preS o kd s) due y p2)=Y→mex (sem tab N (k+2)) N f_law_body_row.body [some (.ref 1),some (.ref (pn j)),some (soV o),some (.int f),none,none,none,none,none,none,none] (HS j s due y pen)=Y:=fun {Y} q =>
    (i5 (loc':=[some (.ref 1),some (.ref (pn j)),some (soV o),some (.int f),none,none,some (.str o.lab),some (.bool o.raw),some (.str o.nl),some (.str o.ahead),none]) (h':=HS j s due y pen) rfl).trans
      ((nxa (.int (rowOf s.T)) ((I3 (a:=.var 0) rfl).trans aK6)).trans ((i5 (r9 ((s8 (a:=.var 1) (b:=.var 3) (c:=.int 6) rfl rfl rfl).trans ew))).trans ((i5 ek).trans q)))
  have n3:=N7 way 3
  rw [← k2] at n3
  have n3:((way:Int)==3)=isBlank kd:=n3
  have fin:∀ (ps:List Nat) (p':Int) (c10:Option V),RwOk o ⟨kd,ps⟩→mex (sem tab N (k+2)) N (.seq (.setidx (.var 0) (.int 0) (.bin .add (.idx (.var 0) (.int 0)) (.var 8))) (.seq (.expr (.call 52 (.cons (.var 0) (.cons (.var 8) .nil)))) .skip)) (brL j o f (rowOf s.T) way c10) (HS j (midS o ⟨kd,ps⟩ s) due y p')=.ok (.next (brL j o f (rowOf s.T) way c10)) (HS j (nlS o (midS o ⟨kd,ps⟩ s)) due y p'):=fun ps p' c10 hr=>by
    have g1:=g.mid ho hr
    have hn:=ho.n
    have ad:=at5 (N:=N) (C:=sem tab N (k+2)) (j:=j) (due:=due) (y:=y) (pen:=p') (pen':=p') (loc:=brL j o f (rowOf s.T) way c10) (e:=.var 8) (x:=o.nl) g1 (by omega) rfl (by omega) rfl rfl
    have tx:=Y9 (j:=j) (due:=due) (y:=y) (pen:=p') (N:=N) (k:=k+1) (x:=o.nl) (g1.addT hn) (by omega) (by omega)
    exact (i5 ad).trans ((nxx ((F7 (a:=.var 0) (b:=.var 8) rfl rfl).trans tx)).trans rfl)
  have tst:mev (sem tab N (k+2)) (.cmp .ne (.var 5) (.int 3)) (brL j o f (rowOf s.T) way none) (HS j (preS o kd s) due y p2)=.ok (.bool (!isBlank kd)) (HS j (preS o kd s) due y p2):=by
    have:cmpV .ne (HS j (preS o kd s) due y p2) (.int way) (.int 3)=some (!((way:Int)==3)):=rfl
    unfold brL; simp only [f7,b8,e8,List.getElem?_cons_zero,List.getElem?_cons_succ,a9,a7,b5,Option.map_some,this,n3]
  cases hb:isBlank kd with
  | true =>
    rw [hb] at tst
    have hr:RwOk o ⟨kd,[]⟩:=⟨(fun n hn=>by cases hn),Nat.zero_le _,hb.symm,k1⟩
    exact ⟨⟨kd,[]⟩,p2,hr,F3 (d:=f_law_body_row) rfl rfl (start ((nxf tst).trans (fin [] p2 none hr))) (D4 rfl)⟩
  | false =>
    rw [hb] at tst
    obtain ⟨d,hd,p3,e3⟩:=M8 (j:=j) (s:=preS o kd s) (due:=due) (y:=y) (pen:=p2) (N:=N) (k:=k+1) f 3 (by decide)
    obtain ⟨ps,p4,c4,l1,l2,l3⟩:=aO5 (j:=j) (due:=due) (y:=y) (N:=N) (k:=k) ho hf (row:=rowOf s.T) (way:=way) (List.range (1+d)) (preS o kd s) (m+10) p3 none (g.pre ho kd) (by rw [List.length_range]; omega) fun i hi=>by have:=List.mem_range.mp hi; omega
    rw [List.length_range] at l1
    have hr:RwOk o ⟨kd,ps⟩:=⟨l2,by show ps.length≤3; omega,by rw [hb]; cases ps with | nil=>simp at l1; omega | cons=>rfl,k1⟩
    refine ⟨⟨kd,ps⟩,p4,hr,F3 (d:=f_law_body_row) (loc':=brL j o f (rowOf s.T) way c4) rfl rfl (start ((nxt tst).trans (V0 (n:=1+d) rfl (v6 (a:=.int 1) rfl ((s8 (a:=.var 1) (b:=.var 3) (c:=.int 3) rfl rfl rfl).trans e3) rfl) (by omega) ?_))) (D4 rfl)⟩
    rw [l3,a7,f0]
    exact u9.trans (fin ps p4 c4 hr)
end
end Mine
end
section
set_option genInjectivity false
set_option genSizeOf false
namespace Mine
open P1
noncomputable def rowsS (o:So) (rs:List Rw) (s:St):St:=rs.foldl (fun s r=>nlS o (midS o r s)) s
noncomputable def rowsX (o:So):Rw→List Rw→St→St
  | r,[],s=>midS o r s
  | r,r2::rs,s=>rowsX o r2 rs (nlS o (midS o r s))
theorem T7 (o:So):∀ (rs:List Rw) (r:Rw) (s:St),rowsS o (r::rs) s=nlS o (rowsX o r rs s)
  | [],r,s=>rfl
  | r2::rs,r,s=>T7 o rs r2 (nlS o (midS o r s))
noncomputable def bodyS (o:So) (rs:List Rw) (s:St):St:=match rs with
  | []=>s
  | r::rs=>(rowsX o r rs s).addT o.nl
theorem Good.rows {o:So} (ho:o.Ok):∀ (rs:List Rw) {s:St} {m:Nat},Good s m→(∀ r∈rs,RwOk o r)→Good (rowsS o rs s) (m+86 * rs.length)
  | [],s,m,g,_=>g
  | r::rs,s,m,g,h=>(Good.rows ho rs ((g.mid ho (h r (.head _))).nl ho) fun a ha=>h a (.tail _ ha)).mono (by rw [List.length_cons]; omega)
theorem Good.rowsX {o:So} (ho:o.Ok):∀ (rs:List Rw) {r:Rw} {s:St} {m:Nat},Good s m→(∀ x∈r::rs,RwOk o x)→Good (rowsX o r rs s) (m+86 * (rs.length+1))
  | [],r,s,m,g,h=>(g.mid ho (h r (.head _))).mono (by simp only [List.length_nil]; omega)
  | r2::rs,r,s,m,g,h=>(Good.rowsX ho rs ((g.mid ho (h r (.head _))).nl ho) fun a ha=>h a (.tail _ ha)).mono (by rw [List.length_cons]; omega)
noncomputable def hdL (j:Bool) (lab:List Nat) (head:Nat) (nl ahead:List Nat) (ends:Bool) (many row:Nat) (c10 c11 c12:Option V):L:=[some (.ref 1),some (.ref (pn j)),some (.int (cond j 1 0:Nat)),some (.str lab),some (.int head),some (.str nl),some (.str ahead),some (.bool ends),some (.int many),some (.int row),c10,c11,c12]
theorem aV1 (H:H) (n k:Nat):∀ x,frz H n (k+6) (tkB x)=some (tkB x)
  | .str s a=>rfl
  | .tmpl ps a=>by
    have:frz H n (k+6) (tkB (.tmpl ps a))=([V.str [116,101,109,112,108,97,116,101],.lst (ps.map ptB),.int a].mapM (frz H n (k+5))).map V.tup:=rfl
    have e:frz H n (k+5) (.lst (ps.map ptB))=some (.lst (ps.map ptB)):=by
      show ((ps.map ptB).mapM (frz H n (k+4))).map V.lst=_
      rw [B7 (S1 H n k)]; rfl
    rw [this,List.mapM_cons,List.mapM_cons,e]; rfl
  | .op c a=>rfl
  | .fin a=>rfl
noncomputable def Still (l:List V):Prop:=∀ (h:H) (n:Nat),l.mapM (frz h n 9)=some l
section
variable {j ends:Bool} {due y:List V} {N k m:Nat} {s:St} {p p0:Int} {T:List Nat} {R q:V} {tl:List (List V)}
theorem ax6 {T':List Nat} {R' Q:V} {P:List V}:(HP j T' R' Q due y p [P]).take (HP j T R q due y p0 []).length=HP j T' R' Q due y p []:=by cases j <;> rfl
theorem bd3:(HP j T R q due y p []).length=pr j:=by cases j <;> rfl
theorem aD0 {S:Ref} {P:List Pt} {v w:V} {T':List Nat} (hT:T.length < T'.length) (hd:Still due) (hy:Still y)
    (e:∀ H:H,H[pr j]?=some (P.map ptB)→frz H (pr j) 9 v=some w) :
    back (HP j T R q due y p0 []) v (HP j T' (rV S) (.ref (pr j)) due y p [P.map ptB])=.ok w (HP j T' (rV S) (.lst (P.map ptB)) due y p []):=by
  have gp:(HP j T' (rV S) (.ref (pr j)) due y p [P.map ptB])[pr j]?=some (P.map ptB):=H4
  have fr:frz (HP j T' (rV S) (.ref (pr j)) due y p [P.map ptB]) (pr j) 9 (.ref (pr j))=some (.lst (P.map ptB)):=by
    have:frz (HP j T' (rV S) (.ref (pr j)) due y p [P.map ptB]) (pr j) 9 (.ref (pr j))=if pr j < pr j then some (.ref (pr j)) else (((HP j T' (rV S) (.ref (pr j)) due y p [P.map ptB])[pr j]?).bind fun vs=>(vs.mapM (frz (HP j T' (rV S) (.ref (pr j)) due y p [P.map ptB]) (pr j) 8)).map V.lst):=rfl
    rw [this,if_neg (Nat.lt_irrefl _),gp,Option.bind_some,B7 (S1 _ _ 4)]; rfl
  have pg:[V.str T',rV S,V.ref (pr j)].mapM (frz (HP j T' (rV S) (.ref (pr j)) due y p [P.map ptB]) (pr j) 9)=some [V.str T',rV S,.lst (P.map ptB)]:=by
    have f2:frz (HP j T' (rV S) (.ref (pr j)) due y p [P.map ptB]) (pr j) 9 (rV S)=some (rV S):=by cases S <;> rfl
    rw [List.mapM_cons,show frz (HP j T' (rV S) (.ref (pr j)) due y p [P.map ptB]) (pr j) 9 (.str T')=some (.str T') from rfl,List.mapM_cons,f2,List.mapM_cons,fr]; rfl
  have cells:(HP j T' (rV S) (.ref (pr j)) due y p []).mapM (fun c:List V=>c.mapM (frz (HP j T' (rV S) (.ref (pr j)) due y p [P.map ptB]) (pr j) 9))=some (HP j T' (rV S) (.lst (P.map ptB)) due y p []):=by
    cases j
    · show List.mapM _ [[],[V.str T',rV S,.ref (pr false)],due,[.int p]]=_
      rw [List.mapM_cons,List.mapM_cons,pg,List.mapM_cons,hd,List.mapM_cons]; rfl
    · show List.mapM _ [[],[V.str T',rV S,.ref (pr true)],due,y,[.int p]]=_
      rw [List.mapM_cons,List.mapM_cons,pg,List.mapM_cons,hd,List.mapM_cons,hy,List.mapM_cons]; rfl
  unfold back backO
  rw [if_neg (by cases j <;> exact fun h=>absurd h (Nat.succ_ne_self _)),if_neg (by
    rw [ax6]
    intro h
    have:=congrArg (fun h:H=>h[1]?) h
    have:some [V.str T',rV S,V.ref (pr j)]=some [V.str T,R,q]:=this
    injection this with this
    injection this with a b
    injection a with a
    rw [a] at hT
    exact absurd hT (Nat.lt_irrefl _)),ax6,bd3,e _ gp,Option.bind_some,cells]
  rfl
theorem ptB_1 (h:H) (s:List Nat):idxV h (txtV s) (.int 1)=some (.str s):=rfl
theorem b_fin {lab nl ahead:List Nat} {head many row:Nat} {c10 c11 c12:Option V} (hT:T.length < s.T.length) (hd:Still due) (hy:Still y) :
    callR (HP j T R q due y p0 []) (mex (sem tab N k) N g_57 (hdL j lab head nl ahead ends many row c10 c11 c12) (HS j s due y p))=.ok (.tup [tkB (mkTk s.parts row),.bool ends]) (HP j s.T (rV s.R) (.lst (s.parts.map ptB)) due y p []):=by
  have gp:(HS j s due y p)[pr j]?=some (s.parts.map ptB):=H4
  have iq:idxV (HS j s due y p) (.ref 1) (.int 2)=some (.ref (pr j)):=rfl
  have en:=aM9 gp
  have bk:∀ {v w:V},(∀ H:H,H[pr j]?=some (s.parts.map ptB)→frz H (pr j) 9 v=some w)→mex (sem tab N k) N g_57 (hdL j lab head nl ahead ends many row c10 c11 c12) (HS j s due y p)=.ok (.ret v) (HS j s due y p)→callR (HP j T R q due y p0 []) (mex (sem tab N k) N g_57 (hdL j lab head nl ahead ends many row c10 c11 c12) (HS j s due y p))=.ok w (HP j s.T (rV s.R) (.lst (s.parts.map ptB)) due y p []):=fun {v w} e q=>by
    rw [q]; exact aD0 hT hd hy e
  generalize hP:s.parts=P at gp en bk ⊢
  cases P with
  | nil =>
    refine bk (v:=.tup [.tup [.str [115,116,114],.str [],.int row],.bool ends]) (fun H _=>rfl) ?_
    unfold g_57 hdL
    refine (nxt (by simp only [f7,b8,e8,n9,G3,b9,List.getElem?_cons_zero,a9,a7,b5,Option.map_some,iq,en]; rfl)).trans ?_
    simp only [h8,n6,f5,b8,l9,b9,b6,List.getElem?_cons_zero,List.getElem?_cons_succ,a9,a7,g9]
  | cons x r =>
    have t1:mex (sem tab N k) N g_57 (hdL j lab head nl ahead ends many row c10 c11 c12) (HS j s due y p)=mex (sem tab N k) N (.seq (.ite (.and (.cmp .eq (.p1 .len (.idx (.var 0) (.int 2))) (.int 1)) (.cmp .eq (.idx (.idx (.idx (.var 0) (.int 2)) (.int 0)) (.int 0)) (.str [116,101,120,116]))) (.seq (.ret (.tup (.cons (.tup (.cons (.str [115,116,114]) (.cons (.idx (.idx (.idx (.var 0) (.int 2)) (.int 0)) (.int 1)) (.cons (.var 9) .nil)))) (.cons (.var 7) .nil)))) .skip) .skip) (.seq (.ret (.tup (.cons (.tup (.cons (.str [116,101,109,112,108,97,116,101]) (.cons (.idx (.var 0) (.int 2)) (.cons (.var 9) .nil)))) (.cons (.var 7) .nil)))) .skip)) (hdL j lab head nl ahead ends many row c10 c11 c12) (HS j s due y p):=by
      unfold g_57
      exact nxf (by unfold hdL; simp only [f7,b8,e8,n9,G3,b9,List.getElem?_cons_zero,a9,a7,b5,Option.map_some,iq,en]; rfl)
    rw [t1] at bk ⊢
    have ln:p1V .len (.ref (pr j)) (HS j s due y p)=.ok (.int (r.length+1:Nat)) (HS j s due y p):=by
      refine U5 (q:=(.int (r.length+1:Nat),HS j s due y p)) ?_
      show pick none (pick (((HS j s due y p)[pr j]?).map fun l=>(V.int l.length,HS j s due y p)) _)=_
      rw [gp]
      show some (V.int ((x::r).map ptB).length,HS j s due y p)=_
      rw [List.length_map]; rfl
    have i0:idxV (HS j s due y p) (.ref (pr j)) (.int 0)=some (ptB x):=by
      show pick none (pick none (((HS j s due y p)[pr j]?).bind fun l=>atE l 0))=_
      rw [gp]; rfl
    obtain ⟨w,w1,w2⟩:=aY2 (HS j s due y p) x
    have q2:(((r.length+1:Nat):Int)==1)=r.isEmpty:=by
      cases r with
      | nil=>rfl
      | cons=>rw [beq_eq_false_iff_ne.mpr (by simp only [List.length_cons]; omega)]; rfl
    have tst:mev (sem tab N k) (.and (.cmp .eq (.p1 .len (.idx (.var 0) (.int 2))) (.int 1)) (.cmp .eq (.idx (.idx (.idx (.var 0) (.int 2)) (.int 0)) (.int 0)) (.str [116,101,120,116]))) (hdL j lab head nl ahead ends many row c10 c11 c12) (HS j s due y p)=.ok (.bool (r.isEmpty&&isT x)) (HS j s due y p):=by
      unfold hdL
      cases z:r.isEmpty <;> rw [z] at q2 <;> simp only [f7,f5,b8,e8,m8,n9,e_p1,List.getElem?_cons_zero,a9,a7,b5,i8,r7,Option.map_some,i4,g8,Bool.false_eq_true,if_false,if_true,iq,ln,q2,i0,w1,w2,Bool.true_and,Bool.false_and]
    show _=Mine.R.ok (V.tup [tkB (if (r.isEmpty&&isT x)=true then .str (tOf x) row else .tmpl (x::r) row),.bool ends]) _
    cases z:(r.isEmpty&&isT x) with
    | true =>
      rw [z] at tst
      obtain ⟨z1,z2⟩:=Bool.and_eq_true_iff.mp z
      cases x with
      | c=>cases z2
      | t u =>
        have i1:idxV (HS j s due y p) (ptB (.t u)) (.int 1)=some (.str u):=rfl
        refine bk (v:=.tup [.tup [.str [115,116,114],.str u,.int row],.bool ends]) (fun H _=>rfl) ((nxt tst).trans ?_)
        unfold hdL
        simp only [h8,n6,f7,f5,b8,n9,l9,b9,b6,List.getElem?_cons_zero,List.getElem?_cons_succ,a9,a7,b5,g9,iq,i0,i1]
    | false =>
      rw [z] at tst
      refine bk (v:=.tup [.tup [.str [116,101,109,112,108,97,116,101],.ref (pr j),.int row],.bool ends]) (fun H hH=>?_) ((nxf tst).trans ?_)
      · refine M9 ?_ rfl
        have fr:frz H (pr j) 7 (.ref (pr j))=some (.lst ((x::r).map ptB)):=by
          have:frz H (pr j) 7 (.ref (pr j))=if pr j < pr j then some (.ref (pr j)) else ((H[pr j]?).bind fun vs=>(vs.mapM (frz H (pr j) 6)).map V.lst):=rfl
          rw [this,if_neg (Nat.lt_irrefl _),hH,Option.bind_some,B7 (S1 _ _ 2)]; rfl
        refine M9 rfl ?_
        rw [List.mapM_cons,fr]; rfl
      · unfold hdL
        simp only [h8,n6,f7,f5,b8,n9,l9,b9,b6,List.getElem?_cons_zero,List.getElem?_cons_succ,a9,a7,b5,g9,iq]
end
end Mine
end
section
set_option genInjectivity false
set_option genSizeOf false
namespace Mine
open P1
noncomputable def ahs:List (List Nat):=[[32,32],[9],[],[32,32,32,32],[9,9],[32,9],[32,32,32]]
structure Hd where
  lab:List Nat
  q:List Nat
  nl:List Nat
  bl:List Nat
  ahead:List Nat
  ends:Bool
  rs:List Rw
noncomputable def Hd.o (d:Hd):So:=⟨d.lab,d.nl,d.ahead,d.q==[39]⟩
structure HdOk (d:Hd):Prop where
  lab:d.lab∈labs
  q:isQ d.q=true
  nl:isNl d.nl=true
  bl:d.bl∈[[],[32,9]]
  ah:d.ahead∈ahs
  rl:d.rs.length≤4
  rs:∀ r∈d.rs,RwOk d.o r
noncomputable def Hd.hT (d:Hd):List Nat:=[60,60,60]++(d.bl++(d.q++(d.lab++(d.q++d.nl))))
noncomputable def hdR (d:Hd) (R:Ref) (n:Nat):Ref:=cond d.ends (cond (d.ahead==[32,9]) (refu R s2 n) R) (refu R s6 n)
noncomputable def Hd.s0 (d:Hd) (T:List Nat) (R:Ref):St:=⟨T++d.hT,hdR d R (rowOf T),[],[]⟩
noncomputable def Hd.lT (d:Hd):List Nat:=d.ahead++(d.lab++cond d.ends [] [122])
noncomputable def Hd.s1 (d:Hd) (T:List Nat) (R:Ref):St:=(bodyS d.o d.rs (d.s0 T R)).addT d.lT
theorem C0 {l:List Nat} (h:l∈labs):l.length≤3:=(show ∀ l∈labs,l.length≤3 by decide) l h
theorem G5 {l:List Nat} (h:l∈ahs):l.length≤4:=(show ∀ l∈ahs,l.length≤4 by decide) l h
theorem J0 {nl:List Nat} (h:isNl nl=true):nl.length≤2:=E4 (P:=fun nl=>nl.length≤2) (by decide) (by decide) h
theorem ar7 {T bl u lab nl:List Nat} (h1:lab.length≤3) (h2:nl.length≤2) (h3:bl.length≤2) (h4:u.length≤1):(T++([60,60,60]++(bl++(u++(lab++(u++nl)))))).length≤T.length+20:=by
  simp only [List.length_append,List.length_cons,List.length_nil]; omega
theorem HdOk.o {d:Hd} (h:HdOk d):d.o.Ok:=⟨C0 h.lab,J0 h.nl,G5 h.ah⟩
theorem H0 (h:H) (l:List (List Nat)) {n:Nat} (hn:n < l.length):∃ x∈l,idxV h (.lst (l.map .str)) (.int n)=some (.str x) :=
  ⟨(l[n]?).getD [],by rw [List.getElem?_eq_getElem hn]; exact List.getElem_mem hn,am0 h l hn⟩
section
variable {j:Bool} {due y:List V} {N k m:Nat} {s:St} {p p0:Int} {T:List Nat} {q:V} {R:Ref} {d:Hd} {head many row:Nat} {c10 c11 c12:Option V}
theorem b_e (hd:HdOk d) (g:Good s m) (hm:m < 7000) (hT:T.length < s.T.length) (sd:Still due) (sy:Still y) :
    callR (HP j T (rV R) q due y p0 []) (mex (sem tab N k) N e_57 (hdL j d.lab head d.nl d.ahead d.ends many row c10 c11 c12) (HS j s due y p))=.ok (.tup [tkB (mkTk (s.addT d.lT).parts row),.bool d.ends]) (HP j (s.addT d.lT).T (rV s.R) (.lst ((s.addT d.lT).parts.map ptB)) due y p []):=by
  have h1:=C0 hd.lab
  have h2:=G5 hd.ah
  have hT2:=g.t
  have bg:=k7
  have e1:∀ H,mev (sem tab N k) (.ite (.var 7) (.str []) (.str [122])) (hdL j d.lab head d.nl d.ahead d.ends many row c10 c11 c12) H=.ok (.str (cond d.ends [] [122])) H:=fun H=>by
    unfold hdL; cases d.ends <;> rfl
  have lz:(cond d.ends ([]:List Nat) [122]).length≤1:=by cases d.ends <;> decide
  have ad:=ag1 (N:=N) (C:=sem tab N k) (j:=j) (due:=due) (y:=y) (pen:=p) (pen':=p) (loc:=hdL j d.lab head d.nl d.ahead d.ends many row c10 c11 c12) (s:=s) (s':=s) (x:=d.lT) rfl rfl (by
    rw [show s.T++d.lT=s.T++d.ahead++d.lab++cond d.ends [] [122] by unfold Hd.lT; simp only [List.append_assoc]]
    have z3:(s.T++d.ahead++d.lab).length+(cond d.ends ([]:List Nat) [122]).length≤big:=by
      rw [List.length_append,List.length_append]; omega
    have z2:=J7 z3
    exact v6 (v6 (b:=.var 3) (v6 (b:=.var 6) (ag2 rfl) rfl (n7 _ s.T d.ahead (J7 z2))) rfl (n7 _ (s.T++d.ahead) d.lab z2)) (e1 _) (n7 _ (s.T++d.ahead++d.lab) _ z3))
  have lt:T.length < (s.addT d.lT).T.length:=by show _ < (s.T++d.lT).length; rw [List.length_append]; omega
  exact (congrArg (callR _) (i5 ad)).trans (b_fin (s:=s.addT d.lT) lt sd sy)
theorem bb3 {h:H} {n:Nat} {l:List V} {v:V} (e:h[n]?=some (l++[v])):p1V .pop (.ref n) h=.ok v (h.set n l):=by
  refine U5 (q:=(v,h.set n l)) ?_
  show (h[n]?).bind (fun l=>(l.getLast?).map fun v=>(v,h.set n l.dropLast))=_
  rw [e,Option.bind_some,List.getLast?_concat,List.dropLast_concat]; rfl
theorem b_d {o:So} (hd:HdOk d) (ho:d.o=o) (g:Good s m) (hm:m < 6000) (hr:∀ r∈d.rs,RwOk d.o r) (hl:d.rs.length=many) (hl4:many≤4):∃ c12',
    mex (sem tab N (k+1)) N d_57 (hdL j d.lab head d.nl d.ahead d.ends many row c10 c11 c12) (HS j (rowsS o d.rs s) due y p)=mex (sem tab N (k+1)) N e_57 (hdL j d.lab head d.nl d.ahead d.ends many row c10 c11 c12') (HS j (bodyS o d.rs s) due y p):=by
  subst ho
  cases hrs:d.rs with
  | nil =>
    rw [hrs] at hl
    have hl:0=many:=hl
    subst hl
    exact ⟨c12,nxf rfl⟩
  | cons r rs =>
    rw [hrs] at hl hr
    have hl:rs.length+1=many:=hl
    have q1:decide ((0:Int) < (many:Int))=true:=by rw [decide_eq_true_eq]; omega
    have ge:=Good.rowsX hd.o rs g hr
    rw [T7]
    generalize he:rowsX d.o r rs s=e at ge
    have hb:bodyS d.o (r::rs) s=e.addT d.nl:=by rw [← he]; rfl
    rw [hb]
    have ne:(e.cur++d.nl).isEmpty=false:=by
      have:=O7 hd.nl
      cases z:d.nl with
      | nil=>rw [z] at this; cases this
      | cons=>cases e.cur <;> rfl
    have gp:(HS j (nlS d.o e) due y p)[pr j]?=some (e.ps.map ptB++[txtV (e.cur++d.nl)]):=by
      refine H4.trans ?_
      show some ((e.ps++txP (e.cur++d.nl)).map ptB)=_
      rw [ah4 ne,List.map_append]; rfl
    have po:=bb3 gp
    have fin:(HS j (nlS d.o e) due y p).set (pr j) (e.ps.map ptB)=HS j ⟨e.T++d.nl,e.R,e.ps,[]⟩ due y p:=by
      refine (K4 _).trans ?_
      have:(⟨e.T++d.nl,e.R,e.ps,[]⟩:St).parts=e.ps:=List.append_nil _
      show HP j (e.T++d.nl) (rV e.R) (.ref (pr j)) due y p [e.ps.map ptB]=HP j (e.T++d.nl) (rV e.R) (.ref (pr j)) due y p [(⟨e.T++d.nl,e.R,e.ps,[]⟩:St).parts.map ptB]
      rw [this]
    rw [fin] at po
    have hn:=J0 hd.nl
    have g2:Good (⟨e.T++d.nl,e.R,e.ps,[]⟩:St) (m+86 * (rs.length+1)+2):=⟨by have:=ge.t; show (e.T++d.nl).length≤_; rw [List.length_append]; omega,Nat.zero_le _,Nat.le_trans ge.p (Nat.le_add_right _ _),ge.l⟩
    have tx:=Y9 (j:=j) (due:=due) (y:=y) (pen:=p) (N:=N) (k:=k) (x:=e.cur) g2 (by omega) (by have:=ge.c; omega)
    have iq:idxV (HS j (nlS d.o e) due y p) (.ref 1) (.int 2)=some (.ref (pr j)):=rfl
    refine ⟨some (.str (e.cur++d.nl)),?_⟩
    have t1:mev (sem tab N (k+1)) (.cmp .gt (.var 8) (.int 0)) (hdL j d.lab head d.nl d.ahead d.ends many row c10 c11 c12) (HS j (nlS d.o e) due y p)=.ok (.bool true) (HS j (nlS d.o e) due y p):=by unfold hdL; simp only [f7,b8,e8,List.getElem?_cons_zero,List.getElem?_cons_succ,a9,a7,b5,H5,Option.map_some,q1]
    have a1:mev (sem tab N (k+1)) (.idx (.p1 .pop (.idx (.var 0) (.int 2))) (.int 1)) (hdL j d.lab head d.nl d.ahead d.ends many row c10 c11 c12) (HS j (nlS d.o e) due y p)=.ok (.str (e.cur++d.nl)) (HS j ⟨e.T++d.nl,e.R,e.ps,[]⟩ due y p) :=
      E6 ((m_p1 (E6 (a:=.var 0) (b:=.int 2) rfl rfl iq)).trans po) (f7 _ _ _ _) (ptB_1 _ _)
    have sl:mev (sem tab N (k+1)) (.slc (.var 12) .none (.bin .sub (.p1 .len (.var 12)) (.p1 .len (.var 5)))) (hdL j d.lab head d.nl d.ahead d.ends many row c10 c11 (some (.str (e.cur++d.nl)))) (HS j ⟨e.T++d.nl,e.R,e.ps,[]⟩ due y p)=.ok (.str e.cur) (HS j ⟨e.T++d.nl,e.R,e.ps,[]⟩ due y p):=by
      have n1:(((e.cur++d.nl).length:Nat):Int) - (d.nl.length:Int)=((e.cur.length:Nat):Int):=by rw [List.length_append]; omega
      have s1:=K6 (e.cur++d.nl) e.cur.length
      rw [List.take_left' rfl] at s1
      unfold hdL; simp only [z0,b8,j6,s7,e_p1,List.getElem?_cons_zero,List.getElem?_cons_succ,a9,a7,H9,b5,t0,z0,n1,s1]
    exact (nxt t1).trans ((i5 (r9 a1)).trans (o8.trans ((nxx ((F7 (a:=.var 0) rfl sl).trans tx)).trans u9)))
end
end Mine
end
section
set_option genInjectivity false
set_option genSizeOf false
namespace Mine
open P1
section
variable {C:Calls} {loc:L} {h h1 h2 h3 h4:H} {f:Nat} {a b c e:ME} {x y z w:V}
theorem aT7 (e1:mev C a loc h=.ok x h1) (e2:mev C b loc h1=.ok y h2) (e3:mev C c loc h2=.ok z h3) (e4:mev C e loc h3=.ok w h4):mev C (.call f (.cons a (.cons b (.cons c (.cons e .nil))))) loc h=C f [x,y,z,w] h4:=by
  rw [e9,b6,e1,a7,b6,e2,a7,b6,e3,a7,b6,e4,a7,b9,a7,a7,a7,a7,a7]
end
section
variable {j ends:Bool} {due y:List V} {N k:Nat} {o:So} {head many row:Nat} {c10 c11 c12:Option V}
theorem b_tab {C:Calls} {lab nl ahead:List Nat}:∀ {i:Nat},i < 4→∃ f:Nat,f < 1000∧∀ H,mev C (.idx (.idx (.list (.cons (.list (.cons (.int 0) (.cons (.int 3) (.cons (.int 1) (.cons (.int 0) .nil))))) (.cons (.list (.cons (.int 1) (.cons (.int 0) (.cons (.int 3) (.cons (.int 2) .nil))))) .nil))) (.var 2)) (.var 11)) (hdL j lab head nl ahead ends many row c10 (some (.int i)) c12) H=.ok (.int f) H
  | 0,_=>⟨cond j 1 0,by cases j <;> decide,fun H=>by cases j <;> rfl⟩
  | 1,_=>⟨cond j 0 3,by cases j <;> decide,fun H=>by cases j <;> rfl⟩
  | 2,_=>⟨cond j 3 1,by cases j <;> decide,fun H=>by cases j <;> rfl⟩
  | 3,_=>⟨cond j 2 0,by cases j <;> decide,fun H=>by cases j <;> rfl⟩
  | n+4,h=>absurd h (by omega)
theorem aO3 (ho:o.Ok) (hw:((head:Int)==2)=o.raw):∀ (l:List Nat) (s:St) (m:Nat) (pen:Int) (c11:Option V),Good s m→m+86 * l.length < 7000→(∀ i∈l,i < 4) →
    ∃ rs p' c11',rs.length=l.length∧(∀ r∈rs,RwOk o r)∧floop (fun v loc h=>mex (sem tab N (k+3)) N b_57 (loc.set 11 (some v)) h) (l.map fun (i:Nat)=>V.int (i:Int)) (hdL j o.lab head o.nl o.ahead ends many row c10 c11 c12) (HS j s due y pen)=.ok (.next (hdL j o.lab head o.nl o.ahead ends many row c10 c11' c12)) (HS j (rowsS o rs s) due y p')
  | [],s,m,pen,c11,_,_,_=>⟨[],pen,c11,rfl,(fun n hn=>by cases hn),rfl⟩
  | i::l,s,m,pen,c11,g,hm,hi=>by
    rw [List.length_cons] at hm
    obtain ⟨f,hf,ef⟩:=b_tab (C:=sem tab N (k+3)) (j:=j) (ends:=ends) (head:=head) (many:=many) (row:=row) (c10:=c10) (c12:=c12) (lab:=o.lab) (nl:=o.nl) (ahead:=o.ahead) (hi i (.head _))
    obtain ⟨r,p1,hr,er⟩:=at4 (j:=j) (due:=due) (y:=y) (N:=N) (k:=k) (pen:=pen) ho hf g (by omega)
    have so:mev (sem tab N (k+3)) (.tup (.cons (.var 3) (.cons (.cmp .eq (.var 4) (.int 2)) (.cons (.var 5) (.cons (.var 6) .nil))))) (hdL j o.lab head o.nl o.ahead ends many row c10 (some (.int i)) c12) (HS j s due y pen)=.ok (soV o) (HS j s due y pen):=by
      unfold hdL; simp only [f7,b8,e8,l9,b9,b6,List.getElem?_cons_zero,List.getElem?_cons_succ,a9,a7,b5,r7,Option.map_some,hw]; rfl
    have st:mex (sem tab N (k+3)) N b_57 ((hdL j o.lab head o.nl o.ahead ends many row c10 c11 c12).set 11 (some (.int i))) (HS j s due y pen)=.ok (.next (hdL j o.lab head o.nl o.ahead ends many row c10 (some (.int i)) c12)) (HS j (nlS o (midS o r s)) due y p1) :=
      (nxx ((aT7 (a:=.var 0) (b:=.var 1) rfl rfl so (ef _)).trans er)).trans rfl
    obtain ⟨rs,p',c',h1,h2,h3⟩:=aO3 ho hw l (nlS o (midS o r s)) (m+86) p1 (some (.int i)) (((g.mid ho hr).nl ho).mono (by omega)) (by omega) fun a ha=>hi a (.tail _ ha)
    exact ⟨r::rs,p',c',congrArg (· + 1) h1,(fun n hn=>(List.mem_cons.mp hn).elim (fun e=>e▸hr) (h2 n)),by
      rw [List.map_cons,D3 (body:=fun v loc h=>mex (sem tab N (k+3)) N b_57 (loc.set 11 (some v)) h) (v:=.int i) st]; exact h3⟩
end
section
variable {j ends:Bool} {due y:List V} {N k:Nat} {lab nl ahead:List Nat} {head many row:Nat} {T:List Nat} {q:V} {R:Ref} {pen:Int} {m:Nat}
theorem bg2 {C:Calls} {loc:L}:mev C (.cell .nil) loc (HP j T (rV R) q due y pen [])=.ok (.ref (pr j)) (HP j T (rV R) q due y pen [[]]):=by cases j <;> rfl
theorem aX5 {C:Calls} {c10 c11 c12:Option V} (h3:head < 3):∃ u,isQ u=true∧((head:Int)==2)=(u==[39])∧∀ H,mev C (.idx (.list (.cons (.str []) (.cons (.str [34]) (.cons (.str [39]) .nil)))) (.var 4)) (hdL j lab head nl ahead ends many row c10 c11 c12) H=.ok (.str u) H:=by
  match head,h3 with
  | 0,_=>exact ⟨[],rfl,rfl,fun H=>rfl⟩
  | 1,_=>exact ⟨[34],rfl,rfl,fun H=>rfl⟩
  | 2,_=>exact ⟨[39],rfl,rfl,fun H=>rfl⟩
theorem b_c (h1:lab∈labs) (h2:isNl nl=true) (h3:head < 3) (h4:ahead∈ahs) (h5:many≤4) (hm:m < 5000) (hT:T.length≤m) :
    ∃ d,HdOk d∧d.lab=lab∧d.nl=nl∧d.ahead=ahead∧d.ends=ends∧d.rs.length=many∧∃ p' c10 c11,mex (sem tab N (k+3)) N c_57 (hdL j lab head nl ahead ends many row none none none) (HP j T (rV R) q due y pen [])=mex (sem tab N (k+3)) N d_57 (hdL j lab head nl ahead ends many row c10 c11 none) (HS j (rowsS d.o d.rs ⟨T++d.hT,R,[],[]⟩) due y p'):=by
  have l1:=C0 h1
  have l2:=J0 h2
  have bg:=k7
  obtain ⟨u,u1,u2,u3⟩:=aX5 (j:=j) (ends:=ends) (C:=sem tab N (k+3)) (lab:=lab) (nl:=nl) (ahead:=ahead) (many:=many) (row:=row) (c10:=none) (c11:=none) (c12:=none) h3
  obtain ⟨dd,hdd,p1,e1⟩:=ag3 (j:=j) (T:=T) (R:=rV R) (q:=q) (due:=due) (x:=y) (pen:=pen) (N:=N) (k:=k+2) (cond j 1 0:Nat) 2 (by decide)
  obtain ⟨bl,hb,eb⟩:=H0 (HP j T (rV R) q due y p1 []) [[],[32,9]] hdd
  have lb:bl.length≤2:=(show ∀ l∈([[],[32,9]]:List (List Nat)),l.length≤2 by decide) bl hb
  have lu:u.length≤1:=q_is (P:=fun u=>u.length≤1) (by decide) (by decide) (by decide) u1
  have ho:(⟨lab,nl,ahead,u==[39]⟩:So).Ok:=⟨l1,l2,G5 h4⟩
  have v0:mev (sem tab N (k+3)) (.idx (.list (.cons (.str []) (.cons (.str [32,9]) .nil))) (.call 49 (.cons (.var 1) (.cons (.var 2) (.cons (.int 2) .nil))))) (hdL j lab head nl ahead ends many row (some (.str u)) none none) (HP j T (rV R) q due y pen [])=.ok (.str bl) (HP j T (rV R) q due y p1 []) :=
    E6 (x:=.lst ([[],[32,9]].map .str)) rfl ((s8 (a:=.var 1) (b:=.var 2) (c:=.int 2) rfl rfl rfl).trans (e1 [])) eb
  have gT:mev (sem tab N (k+3)) (.idx (.var 0) (.int 0)) (hdL j lab head nl ahead ends many row (some (.str u)) none none) (HP j T (rV R) q due y pen [])=.ok (.str T) (HP j T (rV R) q due y pen []):=rfl
  have eT:∃ T',T'=T++([60,60,60]++(bl++(u++(lab++(u++nl)))))∧mev (sem tab N (k+3)) (.bin .add (.bin .add (.bin .add (.bin .add (.bin .add (.bin .add (.idx (.var 0) (.int 0)) (.str [60,60,60])) (.idx (.list (.cons (.str []) (.cons (.str [32,9]) .nil))) (.call 49 (.cons (.var 1) (.cons (.var 2) (.cons (.int 2) .nil)))))) (.var 10)) (.var 3)) (.var 10)) (.var 5)) (hdL j lab head nl ahead ends many row (some (.str u)) none none) (HP j T (rV R) q due y pen [])=.ok (.str T') (HP j T (rV R) q due y p1 []):=by
    refine ⟨T++[60,60,60]++bl++u++lab++u++nl,by simp only [List.append_assoc],?_⟩
    have z6:(T++[60,60,60]++bl++u++lab++u).length+nl.length≤big:=by
      have e:=ar7 (T:=T) (bl:=bl) l1 l2 lb lu
      rw [← List.length_append]
      simp only [List.append_assoc] at e ⊢
      exact Nat.le_trans e (by omega)
    have z5:=J7 z6
    have z4:=J7 z5
    have z3:=J7 z4
    have z2:=J7 z3
    exact v6 (b:=.var 5) (v6 (b:=.var 10) (v6 (b:=.var 3) (v6 (b:=.var 10) (v6 (v6 gT (f5 _ _ _ [60,60,60]) (n7 _ T [60,60,60] (J7 z2))) v0 (n7 _ (T++[60,60,60]) bl z2)) rfl (n7 _ (T++[60,60,60]++bl) u z3)) rfl (n7 _ (T++[60,60,60]++bl++u) lab z4)) rfl (n7 _ (T++[60,60,60]++bl++u++lab) u z5)) rfl (n7 _ (T++[60,60,60]++bl++u++lab++u) nl z6)
  obtain ⟨T',eq,eT⟩:=eT
  have g0:Good (⟨T',R,[],[]⟩:St) (m+20):=⟨by rw [eq]; exact Nat.le_trans (ar7 l1 l2 lb lu) (Nat.add_le_add_right hT 20),Nat.zero_le _,Nat.zero_le _,rfl⟩
  obtain ⟨rs,p2,c11',r1,r2,r3⟩:=aO3 (j:=j) (ends:=ends) (due:=due) (y:=y) (N:=N) (k:=k) (head:=head) (many:=many) (row:=row) (c10:=some (.str u)) (c12:=none) ho u2 (List.range many) ⟨T',R,[],[]⟩ (m+20) p1 none g0 (by rw [List.length_range]; omega) fun i hi=>by have:=List.mem_range.mp hi; omega
  rw [List.length_range] at r1
  refine ⟨⟨lab,u,nl,bl,ahead,ends,rs⟩,⟨h1,u1,h2,hb,h4,by show rs.length≤4; omega,r2⟩,rfl,rfl,rfl,rfl,r1,p2,some (.str u),c11',?_⟩
  show _=mex (sem tab N (k+3)) N d_57 _ (HS j (rowsS ⟨lab,nl,ahead,u==[39]⟩ rs ⟨T++([60,60,60]++(bl++(u++(lab++(u++nl))))),R,[],[]⟩) due y p2)
  rw [← eq]
  refine (nxa (.str u) (u3 _)).trans ((i5 (loc':=hdL j lab head nl ahead ends many row (some (.str u)) none none) (h':=HP j T' (rV R) q due y p1 []) ?_).trans ((i5 (loc':=hdL j lab head nl ahead ends many row (some (.str u)) none none) (h':=HS j ⟨T',R,[],[]⟩ due y p1) ?_).trans (V0 (n:=many) rfl rfl (by omega) ?_)))
  · rw [A6]
    refine (congrArg (Mine.R.bind · _) eT).trans ?_
    rfl
  · rw [A6,bg2]; rfl
  · rw [r3]; rfl
end
end Mine
end
section
set_option genInjectivity false
set_option genSizeOf false
namespace Mine
open P1
section
variable {o:So} {n:Nat} {s:St}
theorem pc_T:(pieceS o n s).T=s.T++pcX o n:=by
  unfold pieceS
  cases o.raw with
  | true=>cases (n==5&&!(o.ahead==[])) <;> rfl
  | false=>cases [3,4,5].contains n with
    | true=>rfl
    | false=>cases n==10 <;> rfl
noncomputable def preT (o:So) (k:Kd):List Nat:=match k with
  | .blank d=>o.ahead.take d
  | .short=>o.ahead.drop 1
  | .mixed=>oth o.ahead++o.ahead.drop 1
  | .full e=>o.ahead++sp e
theorem aa7 (k:Kd):(preS o k s).T=s.T++preT o k:=by cases k <;> rfl
theorem Q0:∀ (ps:List Nat) {s:St},s.T <+: (pcsS o ps s).T
  | [],s=>List.prefix_rfl
  | n::ps,s=>(pc_T▸List.prefix_append s.T (pcX o n):s.T <+: (pieceS o n s).T).trans (Q0 ps)
theorem aw5 (r:Rw):(preS o r.k s).T <+: (midS o r s).T:=Q0 r.ps
theorem H3 (r:Rw):s.T <+: (midS o r s).T:=(aa7 (o:=o) (s:=s) r.k▸List.prefix_append s.T _:s.T <+: (preS o r.k s).T).trans (aw5 r)
theorem I1:∀ (rs:List Rw) (r:Rw) {s:St},(midS o r s).T <+: (rowsX o r rs s).T
  | [],r,s=>List.prefix_rfl
  | r2::rs,r,s=>(List.prefix_append (midS o r s).T o.nl).trans ((H3 (s:=nlS o (midS o r s)) r2).trans (I1 rs r2))
theorem as8 (rs:List Rw):s.T <+: (bodyS o rs s).T:=by
  cases rs with
  | nil=>exact List.prefix_rfl
  | cons r rs=>exact (H3 r).trans ((I1 rs r).trans (List.prefix_append _ _))
end
end Mine
end
section
set_option genInjectivity false
set_option genSizeOf false
namespace Mine
open P1
theorem aJ1 {C:Calls} {loc:L} {h h1 h2:H} {a b:ME} {x y:V} {o:CO} {z:Bool} (e1:mev C a loc h=.ok x h1) (e2:mev C b loc h1=.ok y h2) (e3:cmpV o h2 x y=some z):mev C (.cmp o a b) loc h=.ok (.bool z) h2:=by
  rw [e8,e1,a7,e2,a7,e3,Option.map_some,b5]
section
variable {j ends:Bool} {due y:List V} {N k:Nat} {lab nl ahead:List Nat} {head many:Nat} {T:List Nat} {q:V} {R:Ref} {pen:Int} {m:Nat}
noncomputable def ref0 (ends:Bool) (ahead:List Nat) (R:Ref) (n:Nat):Ref:=cond ends (cond (ahead==[32,9]) (refu R s2 n) R) (refu R s6 n)
theorem b_a {row:Nat} {c10 c11 c12:Option V}:mex (sem tab N (k+1)) N a_57 (hdL j lab head nl ahead ends many row c10 c11 c12) (HP j T (rV R) q due y pen [])=mex (sem tab N (k+1)) N c_57 (hdL j lab head nl ahead ends many row c10 c11 c12) (HP j T (rV (ref0 ends ahead R row)) q due y pen []):=by
  have rf:=fun w=>an2 (j:=j) (T:=T) (q:=q) (due:=due) (x:=y) (pen:=pen) (tl:=[]) (N:=N) (k:=k) (R:=R) w row
  cases ends with
  | false =>
    exact (nxt (by unfold hdL; simp only [b8,Q4,List.getElem?_cons_zero,List.getElem?_cons_succ,a9,a7,F6,Bool.not_false])).trans ((nxx ((s8 (a:=.var 0) (b:=.str s6) (c:=.var 9) rfl rfl rfl).trans (rf s6))).trans u9)
  | true =>
    refine (nxe2 (by unfold hdL; simp only [b8,Q4,List.getElem?_cons_zero,List.getElem?_cons_succ,a9,a7,F6,Bool.not_true])).trans ?_
    cases b:ahead==[32,9] with
    | false =>
      have:ref0 true ahead R row=R:=by unfold ref0; rw [b]; rfl
      rw [this]
      exact (nxf (by unfold hdL; simp only [f5,b8,e8,List.getElem?_cons_zero,List.getElem?_cons_succ,a9,a7,b5,i8,Option.map_some,b])).trans u9
    | true =>
      have:ref0 true ahead R row=refu R s2 row:=by unfold ref0; rw [b]; rfl
      rw [this]
      exact (nxt (by unfold hdL; simp only [f5,b8,e8,List.getElem?_cons_zero,List.getElem?_cons_succ,a9,a7,b5,i8,Option.map_some,b])).trans ((nxx ((s8 (a:=.var 0) (b:=.str s2) (c:=.var 9) rfl rfl rfl).trans (rf s2))).trans (u9.trans u9))
theorem ad4 {d:Hd} (ok:HdOk d) {m:Nat} (hT:T.length≤m):Good (d.s0 T R) (m+20):=⟨Nat.le_trans (ar7 (C0 ok.lab) (J0 ok.nl) ((show ∀ l∈([[],[32,9]]:List (List Nat)),l.length≤2 by decide) _ ok.bl) (q_is (P:=fun u=>u.length≤1) (by decide) (by decide) (by decide) ok.q)) (Nat.add_le_add_right hT 20),Nat.zero_le _,Nat.zero_le _,rfl⟩
noncomputable def nls:List (List Nat):=[[10],[13,10]]
theorem aX7:∃ lab head nl ahead ends many p',lab∈labs∧head < 3∧isNl nl=true∧ahead∈ahs∧many≤4 ∧
    mex (sem tab N (k+3)) N f_law_heredoc.body [some (.ref 1),some (.ref (pn j)),some (.int (cond j 1 0:Nat)),none,none,none,none,none,none,none,none,none,none] (HP j T (rV R) q due y pen [])=mex (sem tab N (k+3)) N a_57 (hdL j lab head nl ahead ends many (rowOf T) none none none) (HP j T (rV R) q due y p' []):=by
  have dr:=fun (pen:Int) (f:Int) (m:Nat) hm=>ag3 (j:=j) (T:=T) (R:=rV R) (q:=q) (due:=due) (x:=y) (pen:=pen) (N:=N) (k:=k+2) f m hm
  obtain ⟨d1,h1,p1,e1⟩:=dr pen (cond j 1 0:Nat) 4 (by decide)
  obtain ⟨lab,hl,il⟩:=H0 (HP j T (rV R) q due y p1 []) labs h1
  obtain ⟨d2,h2,p2,e2⟩:=dr p1 (cond j 1 0:Nat) 3 (by decide)
  obtain ⟨d3,h3,p3,e3⟩:=dr p2 (cond j 1 0:Nat) 2 (by decide)
  obtain ⟨nl,hn,iN⟩:=H0 (HP j T (rV R) q due y p3 []) nls h3
  obtain ⟨d4,h4,p4,e4⟩:=dr p3 (cond j 1 0:Nat) 7 (by decide)
  obtain ⟨ahead,ha,ia⟩:=H0 (HP j T (rV R) q due y p4 []) ahs h4
  obtain ⟨d5,h5,p5,e5⟩:=dr p4 (0:Nat) 7 (by decide)
  obtain ⟨d6,h6,p6,e6⟩:=dr p5 (4:Nat) 5 (by decide)
  refine ⟨lab,d2,nl,ahead,!((d5:Int)==3),d6,p6,hl,h2,(show ∀ n∈nls,isNl n=true by decide) nl hn,ha,by omega,?_⟩
  refine (i5 (r9 (E6 (x:=.lst (labs.map .str)) rfl ((s8 (a:=.var 1) (b:=.var 2) (c:=.int 4) rfl rfl rfl).trans (e1 [])) il))).trans ?_
  refine (i5 (r9 ((s8 (a:=.var 1) (b:=.var 2) (c:=.int 3) rfl rfl rfl).trans (e2 [])))).trans ?_
  refine (i5 (r9 (E6 (x:=.lst (nls.map .str)) rfl ((s8 (a:=.var 1) (b:=.var 2) (c:=.int 2) rfl rfl rfl).trans (e3 [])) iN))).trans ?_
  refine (i5 (r9 (E6 (x:=.lst (ahs.map .str)) rfl ((s8 (a:=.var 1) (b:=.var 2) (c:=.int 7) rfl rfl rfl).trans (e4 [])) ia))).trans ?_
  refine (i5 (r9 (aJ1 ((s8 (a:=.var 1) (b:=.int 0) (c:=.int 7) rfl rfl rfl).trans (e5 [])) (f7 _ _ _ 3) (show cmpV .ne (HP j T (rV R) q due y p5 []) (.int d5) (.int 3)=some (!((d5:Int)==3)) from rfl)))).trans ?_
  refine (i5 (r9 ((s8 (a:=.var 1) (b:=.int 4) (c:=.int 5) rfl rfl rfl).trans (e6 [])))).trans ?_
  exact i5 (r9 ((I3 (a:=.var 0) rfl).trans ay9))
theorem aD3 (hm:m < 5000) (hT:T.length≤m) (sd:Still due) (sy:Still y):∃ d p',HdOk d∧sem tab N (k+4) 57 [.ref 1,.ref (pn j),.int (cond j 1 0:Nat)] (HP j T (rV R) q due y pen []) =
    .ok (.tup [tkB (mkTk (d.s1 T R).parts (rowOf T)),.bool d.ends]) (HP j (d.s1 T R).T (rV (d.s1 T R).R) (.lst ((d.s1 T R).parts.map ptB)) due y p' []):=by
  obtain ⟨lab,head,nl,ahead,ends,many,p1,h1,h2,h3,h4,h5,e⟩:=aX7 (j:=j) (due:=due) (y:=y) (N:=N) (k:=k) (T:=T) (q:=q) (R:=R) (pen:=pen)
  obtain ⟨d,ok,g1,g2,g3,g4,g5,p2,c10,c11,ec⟩:=b_c (j:=j) (ends:=ends) (due:=due) (y:=y) (N:=N) (k:=k) (q:=q) (R:=ref0 ends ahead R (rowOf T)) (pen:=p1) (row:=rowOf T) h1 h3 h2 h4 h5 hm hT
  subst g1 g2 g3 g4
  have g0:Good (d.s0 T R) (m+20):=ad4 ok hT
  obtain ⟨c12,ed⟩:=b_d (j:=j) (due:=due) (y:=y) (N:=N) (k:=k+2) (p:=p2) (head:=head) (row:=rowOf T) (c10:=c10) (c11:=c11) (c12:=none) ok rfl g0 (by omega) ok.rs g5 h5
  have hb:Good (bodyS d.o d.rs (d.s0 T R)) (m+400)∧T.length < (bodyS d.o d.rs (d.s0 T R)).T.length:=by
    refine ⟨?_,Nat.lt_of_lt_of_le ?_ (as8 d.rs).length_le⟩
    · have rl:=ok.rl
      have rs:=ok.rs
      cases hrs:d.rs with
      | nil=>exact g0.mono (by omega)
      | cons r l =>
        rw [hrs] at rl rs
        rw [List.length_cons] at rl
        exact ((Good.rowsX ok.o l g0 rs).addT (J0 ok.nl)).mono (by omega)
    · show T.length < (T++d.hT).length
      unfold Hd.hT
      simp only [List.length_append,List.length_cons,List.length_nil]; omega
  refine ⟨d,p2,ok,?_⟩
  rw [t9 (d:=f_law_heredoc) rfl rfl]
  refine (congrArg (callR _) (e.trans (b_a.trans (ec.trans ed)))).trans ?_
  exact b_e ok hb.1 (by omega) hb.2 sd sy
end
end Mine
end
section
set_option genInjectivity false
set_option genSizeOf false
namespace Mine
open P1
theorem x8 (a b:List Nat):rowOf (a++b)=rowOf a+b.count 10:=by unfold rowOf; rw [List.count_append]; omega
theorem B0 {a b:List Nat} (h:b.count 10=0):rowOf (a++b)=rowOf a:=by rw [x8,h]; rfl
theorem n8 {a x t:List Nat} (h:a++x <+: t):∃ r,t.drop a.length=x++r:=by
  obtain ⟨r,hr⟩:=h
  exact ⟨r,by rw [← hr,List.append_assoc,List.drop_left' rfl]⟩
theorem k9 {a t:List Nat} {n:Nat} (h:a <+: t.take n):a <+: t∧a.length≤n :=
  ⟨h.trans (List.take_prefix n t),Nat.le_trans h.length_le (List.length_take_le n t)⟩
noncomputable def plainW:List Nat→Bool
  | []=>true
  | c::r=>!([c]==[36])&&(!([c]==[92])&&(!([c]==[10])&&((!([c]==[123]) || r.head?==some 32)&&plainW r)))
theorem U2 {c:Nat} {w:List Nat} (hw:plainW (c::w)=true):([c]==[36])=false∧([c]==[92])=false∧([c]==[10])=false∧(([c]==[123])=true→w.head?=some 32)∧plainW w=true:=by
  obtain ⟨w1,hw⟩:=Bool.and_eq_true_iff.mp (show (!([c]==[36])&&(!([c]==[92])&&(!([c]==[10])&&((!([c]==[123]) || w.head?==some 32)&&plainW w))))=true from hw)
  obtain ⟨w2,hw⟩:=Bool.and_eq_true_iff.mp hw
  obtain ⟨w3,hw⟩:=Bool.and_eq_true_iff.mp hw
  obtain ⟨w4,hw⟩:=Bool.and_eq_true_iff.mp hw
  refine ⟨by simpa using w1,by simpa using w2,by simpa using w3,fun e=>?_,hw⟩
  rw [e] at w4
  have w4:(w.head?==some 32)=true:=w4
  cases w with
  | nil=>cases w4
  | cons d w=>exact beq_iff_eq.mp w4
theorem P9:∀ {w:List Nat},plainW w=true→w.count 10=0
  | [],_=>rfl
  | c::w,hw=>by
    obtain ⟨_,_,h3,_,h5⟩:=U2 hw
    have:(c==10)=false:=by rw [← E9]; exact h3
    rw [List.count_cons,P9 h5,this]; rfl
section
variable {N k:Nat} {t:List Nat} {s:Nat} {ind:List Nat} {h:H} {X:R V} {l:Int} {ps:List V} {r:List Nat}
theorem PK.run:∀ {w:List Nat} {p:Nat} {cur:List Nat},t.drop p=w++r→p+w.length≤s→plainW w=true→cur.length+w.length < big→PK N k t s ind h X (p+w.length) l ps (cur++w)→PK N k t s ind h X p l ps cur
  | [],p,cur,hr,hs,hw,hc,g=>by rw [List.append_nil] at g; exact g
  | c::w,p,cur,hr,hs,hw,hc,g=>by
    obtain ⟨h1,h2,h3,h4,h5⟩:=U2 hw
    rw [List.length_cons] at hs hc g
    have hr:t.drop p=c::(w++r):=hr
    refine PK.plain hr (by omega) h1 (fun e=>?_) h2 h3 (by omega) (PK.run (w:=w) (g6 hr) (by omega) h5 (by rw [List.length_append]; simp only [List.length_cons,List.length_nil]; omega) ?_)
    · have:=h4 e
      cases w with
      | nil=>cases this
      | cons d w=>exact this
    · rw [List.append_assoc,show p+1+w.length=p+(w.length+1) by omega]; exact g
end
structure Cxt (N:Nat) (t:List Nat) (stop:Nat) (o:So):Prop where
  n:t.length+10 < N
  b:t.length < 9000
  st:stop < t.length
  lab:o.lab∈labs
  nl:isNl o.nl=true
  ah:o.ahead.length≤4
theorem bc8 {P:List Nat→Prop} (h:∀ l∈labs,P l) {l:List Nat} (hl:l∈labs):P l:=h l hl
section
variable {N k:Nat} {t:List Nat} {stop:Nat} {h:H} {X:R V} {o:So} {s:St} {m n:Nat}
noncomputable def LX (N k:Nat) (t:List Nat) (stop:Nat) (ind:List Nat) (h:H) (X:R V) (s:St):Prop:=PK N k t stop ind h X s.T.length (rowOf s.T) (s.ps.map ptL) s.cur
noncomputable def Pf (X:R V) (h:H) (R:Ref):Prop:=∀ w n,R=some (w,n)→X=.pf w (n:Nat) h
theorem V6 {ind x w:List Nat} (hp:s.T++x <+: t.take stop) (hx:∃ a,x=w++a) (hw:plainW w=true) (g:Good s m) (hm:m < 9000) (hl:w.length < 1000) (K:LX N k t stop ind h X ((s.addT w).txt w)):LX N k t stop ind h X s:=by
  obtain ⟨a,rfl⟩:=hx
  obtain ⟨hp,hl2⟩:=k9 hp
  obtain ⟨r,hr⟩:=n8 hp
  rw [List.length_append,List.length_append] at hl2
  have bg:=k7
  have c0:=P9 hw
  refine PK.run (w:=w) (r:=a++r) (by rw [hr,List.append_assoc]) (by omega) hw (by have:=g.c; omega) ?_
  have K:PK N k t stop ind h X (s.T++w).length (rowOf (s.T++w)) (s.ps.map ptL) (s.cur++w):=K
  rw [B0 c0,List.length_append] at K
  exact K
theorem aJ3 {ind x a:List Nat} (hp:s.T++(92::a) <+: t.take stop) (hx:0 < x.length) (ha:(92::a).count 10=0) (hl:a.length < 50) (g:Good s m) (hm:m < 9000)
    (e:∀ h,sem tab N (k+7) 24 [.str t,.int s.T.length,.str [],.int (rowOf s.T)] h=.ok (.tup [.str x,.int (s.T.length+(a.length+1):Nat)]) h) (K:LX N k t stop ind h X ((s.addT (92::a)).txt x)):LX N k t stop ind h X s:=by
  obtain ⟨hp,hl2⟩:=k9 hp
  obtain ⟨r,hr⟩:=n8 hp
  rw [List.length_append,List.length_cons] at hl2
  have bg:=k7
  have K:PK N k t stop ind h X (s.T++(92::a)).length (rowOf (s.T++(92::a))) (s.ps.map ptL) (s.cur++x):=K
  rw [B0 ha,List.length_append,List.length_cons] at K
  exact PK.esc (r:=a++r) hr (by omega) (by omega) hx (by have:=g.c; omega) (by
    rw [Nat.add_sub_cancel_left]
    show ((92::a++r).take (92::a).length).count 10=0
    rw [List.take_left' rfl]; exact ha) (by omega) e K
theorem af0 {ind a:List Nat} {c d:Nat} (hp:s.T++(c::a) <+: t.take stop) (ha:(c::a).count 10=d) (hl:a.length < 50) (g:Good s m) (hm:m < 9000)
    (e:∀ h,sem tab N (k+7) 29 [.str t,.int s.T.length,.int (rowOf s.T),.fn 47] h=.ok (.tup [.lst [varT (rowOf s.T),endT ((rowOf s.T:Int)+(d:Int))],.int (s.T.length+(a.length+1):Nat)]) h) (K:LX N k t stop ind h X ((s.addT (c::a)).code (rowOf s.T) (rowOf s.T+d))):LX N k t stop ind h X s:=by
  obtain ⟨hp,hl2⟩:=k9 hp
  obtain ⟨r,hr⟩:=n8 hp
  rw [List.length_append,List.length_cons] at hl2
  have bg:=k7
  have K:PK N k t stop ind h X (s.T++(c::a)).length (rowOf (s.T++(c::a))) ((s.parts++[Pt.c (rowOf s.T) (rowOf s.T+d)]).map ptL) []:=K
  rw [x8,ha,List.length_append,List.length_cons,List.map_append,St.parts,List.map_append,aY0] at K
  exact PK.code (r:=a++r) hr (by omega) (by omega) (by rw [List.length_map]; have:=g.p; omega) (by have:=g.c; omega) (by
    rw [Nat.add_sub_cancel_left]
    show ((c::a++r).take (c::a).length).count 10=d
    rw [List.take_left' rfl]; exact ha) (by omega) e K
end
end Mine
end
section
set_option genInjectivity false
set_option genSizeOf false
namespace Mine
open P1
section
variable {N k:Nat} {t:List Nat} {stop:Nat} {h:H} {X:R V} {o:So} {s:St} {m n:Nat} {ind:List Nat}
theorem ab2 {x:List Nat} (hp:s.T++x <+: t.take stop):∃ r,t.drop s.T.length=x++r:=n8 (k9 hp).1
theorem av3 {x:List Nat} (hp:s.T++x <+: t.take stop) (hs:stop < t.length):∃ d r,t.drop s.T.length=x++d::r:=by
  obtain ⟨r,hr⟩:=ab2 hp
  have hl:=(k9 hp).2
  cases r with
  | cons d r=>exact ⟨d,r,hr⟩
  | nil =>
    have:=congrArg List.length hr
    rw [List.length_drop,List.append_nil] at this
    rw [List.length_append] at hl
    omega
noncomputable def PcP (N k:Nat) (t:List Nat) (stop:Nat) (ind:List Nat) (h:H) (X:R V) (o:So) (s:St) (n:Nat):Prop :=
  s.T++pcX o n <+: t.take stop→((pieceS o n s).R=none→LX N k t stop ind h X (pieceS o n s))→Pf X h (pieceS o n s).R→LX N k t stop ind h X s
theorem O2 (hraw:o.raw=false) (g:Good s m) (hm:m < 8000) (hR:s.R=none) (hx:pieceS o n s=(s.addT (pcX o n)).txt (pcX o n)) (hw:plainW (pcX o n)=true) (hl:(pcX o n).length < 1000):PcP N k t stop ind h X o s n:=fun hp K F=>by
  rw [hx] at K
  exact V6 hp ⟨[],(List.append_nil _).symm⟩ hw g (by omega) hl (K hR)
theorem aq0 {x a:List Nat} (g:Good s m) (hm:m < 8000) (hR:s.R=none) (ha:pcX o n=92::a) (hx:pieceS o n s=(s.addT (92::a)).txt x) (h0:0 < x.length) (hc:(92::a).count 10=0) (hl:a.length < 50)
    (e:∀ r h,t.drop s.T.length=(92::a)++r→sem tab N (k+7) 24 [.str t,.int s.T.length,.str [],.int (rowOf s.T)] h=.ok (.tup [.str x,.int (s.T.length+(a.length+1):Nat)]) h):PcP N k t stop ind h X o s n:=fun hp K F=>by
  rw [ha] at hp
  rw [hx] at K
  obtain ⟨r,hr⟩:=ab2 hp
  exact aJ3 hp h0 hc hl g (by omega) (fun h=>e r h hr) (K hR)
theorem bh3 (s:St) (a b:List Nat):(s.addT a).addT b=s.addT (a++b):=by unfold St.addT; rw [List.append_assoc]
theorem bb6 (cx:Cxt N t stop o) (hraw:o.raw=false) (g:Good s m) (hm:m < 8000) (hR:s.R=none) (hn:n < 14):PcP N k t stop ind h X o s n:=by
  have h10:10≤N:=by have:=cx.n; omega
  have ht:t.length < big:=by have:=cx.b; rw [k7]; omega
  have pe:∀ n,pieceS o n s=cond ([3,4,5].contains n) (((s.addT (pcX o n)).code (rowOf s.T) (rowOf s.T+cond (n==5) 1 0)).txt (cond (n==3) [32] [])) (cond (n==10) ((s.addT (pcX o n)).ref s0 (rowOf s.T)) ((s.addT (pcX o n)).txt (pcV n (pcX o n)))):=fun n=>by unfold pieceS; rw [hraw]; rfl
  refine all14 (P:=PcP N k t stop ind h X o s) ?_ hn
  have lw:∀ l∈labs,plainW (l++[120])=true∧plainW ([46]++l)=true∧(l++[120]).length < 1000∧([46]++l).length < 1000:=by decide
  obtain ⟨w6,w7,l6,l7⟩:=bc8 lw cx.lab
  have c3:PcP N k t stop ind h X o s 3:=fun hp K F=>by
    rw [pe 3] at K
    have hp:s.T++[36,118,32] <+: t.take stop:=hp
    obtain ⟨r,hr⟩:=ab2 hp
    refine af0 (c:=36) (a:=[118]) (d:=0) ((show s.T++[36,118] <+: s.T++[36,118,32] from ⟨[32],by rw [List.append_assoc]; rfl⟩).trans hp) rfl (by decide) g (by omega) (fun h=>by
      rw [show ((rowOf s.T:Nat):Int)+((0:Nat):Int)=(rowOf s.T:Nat) from Int.add_zero _]
      exact ap3 (k:=k+2) hr (by omega)) ?_
    refine V6 (w:=[32]) (x:=[32]) (m:=m+2+2) ?_ ⟨[],rfl⟩ rfl (g.addT (x:=[36,118]) (Nat.le_refl 2)).code (by omega) (by decide) ?_
    · show (s.T++[36,118])++[32] <+: _
      rw [List.append_assoc]; exact hp
    · have K:=K hR
      show LX N k t stop ind h X ⟨(s.T++[36,118])++[32],s.R,s.parts++[.c (rowOf s.T) (rowOf s.T+0)],[]++[32]⟩
      rw [List.append_assoc]; exact K
  have c4:PcP N k t stop ind h X o s 4:=fun hp K F=>by
    rw [pe 4] at K
    have hp:s.T++[123,36,118,125] <+: t.take stop:=hp
    obtain ⟨d,r,hr⟩:=av3 hp cx.st
    exact af0 (c:=123) (a:=[36,118,125]) (d:=0) hp rfl (by decide) g (by omega) (fun h=>by
      rw [show ((rowOf s.T:Nat):Int)+((0:Nat):Int)=(rowOf s.T:Nat) from Int.add_zero _]
      exact L4 (k:=k+5) hr fun h=>aF9 (g6 hr) (by omega)) (K hR)
  have c5:PcP N k t stop ind h X o s 5:=fun hp K F=>by
    rw [pe 5] at K
    have e5:pcX o 5=123::36::118::32::47::42::(o.nl++[42,47,125]):=rfl
    rw [e5] at hp
    obtain ⟨d,r,hr⟩:=av3 hp cx.st
    have hr:t.drop s.T.length=123::36::118::32::47::42::(o.nl++[42,47,125]++d::r):=hr
    rw [List.append_assoc] at hr
    refine af0 (c:=123) (a:=36::118::32::47::42::(o.nl++[42,47,125])) (d:=1) hp (E4 (P:=fun nl=>(123::36::118::32::47::42::(nl++[42,47,125])).count 10=1) rfl rfl cx.nl) (E4 (P:=fun nl=>(36::118::32::47::42::(nl++[42,47,125])).length < 50) (by decide) (by decide) cx.nl) g (by omega) (fun h=>?_) (K hR)
    have e1:=fun h=>aF8 (N:=N) (k:=k) (h:=h) (l:=(rowOf s.T:Nat)) (d:=d) (r:=r) (g6 hr) cx.nl ht (by omega)
    have:s.T.length+((36::118::32::47::42::(o.nl++[42,47,125])).length+1)=s.T.length+1+(8+o.nl.length):=by simp only [List.length_cons,List.length_append,List.length_nil]; omega
    rw [this]
    exact L4 (k:=k+5) hr e1
  have c10:PcP N k t stop ind h X o s 10:=fun hp K F=>by
    have hp:s.T++[92,117,123,125] <+: t.take stop:=hp
    obtain ⟨r,hr⟩:=ab2 hp
    have hl:=(k9 hp).2
    rw [List.length_append] at hl
    refine PK.esc_bad (w:=s0) (m:=(rowOf s.T:Nat)) (r:=117::123::125::r) hr (by simp at hl; omega) (fun h=>aW6 (k:=k+2) hr (by omega)) ?_
    refine F s0 (rowOf s.T) ?_
    rw [pe 10]
    show some (s.R.getD (s0,rowOf s.T))=_
    rw [hR]; rfl
  have c2:PcP N k t stop ind h X o s 2:=fun hp K F=>by
    rw [pe 2] at K
    have hp:s.T++[92,34] <+: t.take stop:=hp
    obtain ⟨r,hr⟩:=ab2 hp
    refine aJ3 (a:=[]) (x:=[92]) ((show s.T++[92] <+: s.T++[92,34] from ⟨[34],by rw [List.append_assoc]; rfl⟩).trans hp) (by decide) rfl (by decide) g (by omega) (fun h=>esc_q (k:=k+5) hr) ?_
    refine V6 (w:=[34]) (x:=[34]) (m:=m+1+1) ?_ ⟨[],rfl⟩ rfl ((g.addT (x:=[92]) (Nat.le_refl 1)).txt (x:=[92]) (Nat.le_refl 1)) (by omega) (by decide) ?_
    · show (s.T++[92])++[34] <+: _
      rw [List.append_assoc]; exact hp
    · have K:=K hR
      show LX N k t stop ind h X ⟨(s.T++[92])++[34],s.R,s.ps,(s.cur++[92])++[34]⟩
      rw [List.append_assoc,List.append_assoc]; exact K
  show ∀ n∈[0,1,2,3,4,5,6,7,8,9,10,11,12,13],PcP N k t stop ind h X o s n
  simp only [List.forall_mem_cons]
  refine ⟨O2 hraw g hm hR (pe 0) rfl (show 1 < 1000 by decide),aq0 (a:=[110]) (x:=[10]) g hm hR rfl (pe 1) (by decide) rfl (by decide) (fun r h hr=>esc_n (k:=k+5) hr),c2,c3,c4,c5,O2 hraw g hm hR (pe 6) w6 l6,O2 hraw g hm hR (pe 7) w7 l7,O2 hraw g hm hR (pe 8) rfl (show 2 < 1000 by decide),O2 hraw g hm hR (pe 9) rfl (show 1 < 1000 by decide),c10,aq0 (a:=[120,52,49]) (x:=[65]) g hm hR rfl (pe 11) (by decide) rfl (by decide) (fun r h hr=>esc_x (k:=k+3) hr (by omega)),O2 hraw g hm hR (pe 12) rfl (show 1 < 1000 by decide),aq0 (a:=[117,123,69,57,125]) (x:=[195,169]) g hm hR rfl (pe 13) (by decide) rfl (by decide) (fun r h hr=>esc_u (k:=k+2) hr (by omega)),fun n hn=>by cases hn⟩
end
end Mine
end
section
set_option genInjectivity false
set_option genSizeOf false
namespace Mine
open P1
theorem aI1 {c:Nat} {r:List Nat} (hb:isBl c=false):nlN (c::r)=0∧isB c=false:=by
  obtain ⟨h1,hb⟩:=Bool.or_eq_false_iff.mp (show (c==32 || (c==9 || (c==10 || c==13)))=false from hb)
  obtain ⟨h2,hb⟩:=Bool.or_eq_false_iff.mp hb
  obtain ⟨h3,h4⟩:=Bool.or_eq_false_iff.mp hb
  refine ⟨?_,by unfold isB; rw [h1,h2]; rfl⟩
  unfold nlN
  simp only [List.take_succ_cons,List.take_zero,List.cons_beq_cons,h3,h4,Bool.false_and,Bool.false_eq_true,if_false]
theorem aI0 {nl r:List Nat} (hnl:isNl nl=true):0 < nlN (nl++r):=by rw [aI2 hnl]; exact O7 hnl
noncomputable def headB (l:List Nat):Bool:=match l with | []=>false | c::_=>!isBl c
theorem ae3 {o:So} (hl:o.lab∈labs) {n:Nat} (hn:n < 14):∃ c w,pcX o n=c::w∧isBl c=false:=by
  have h6:∀ l∈labs,headB (l++[120])=true:=by decide
  have:headB (pcX o n)=true:=by
    refine all14 (P:=fun n=>headB (pcX o n)=true) ?_ hn
    show ∀ n∈[0,1,2,3,4,5,6,7,8,9,10,11,12,13],headB (pcX o n)=true
    simp only [List.forall_mem_cons]
    exact ⟨rfl,rfl,rfl,rfl,rfl,rfl,h6 _ hl,rfl,rfl,rfl,rfl,rfl,rfl,rfl,fun n hn=>by cases hn⟩
  cases h:pcX o n with
  | nil=>rw [h] at this; cases this
  | cons c w=>rw [h] at this; exact ⟨c,w,rfl,by simpa [headB] using this⟩
theorem ax3 {o:So} {n:Nat} {s:St} {y:List Nat×Nat} (hy:s.R=some y):(pieceS o n s).R=some y:=by
  have hk:∀ w m,refu s.R w m=some y:=fun w m=>by rw [hy]; rfl
  unfold pieceS
  cases o.raw with
  | true=>cases (n==5&&!(o.ahead==[])) with
    | true=>exact hk _ _
    | false=>exact hy
  | false=>cases [3,4,5].contains n with
    | true=>exact hy
    | false=>cases n==10 with
      | true=>exact hk _ _
      | false=>exact hy
theorem W0 {o:So} {k:Kd} {s:St} {y:List Nat×Nat} (hy:s.R=some y):(preS o k s).R=some y:=by
  have hk:∀ w m,refu s.R w m=some y:=fun w m=>by rw [hy]; rfl
  cases k with
  | blank d=>exact hy
  | short=>exact hk _ _
  | mixed=>exact hk _ _
  | full e=>exact hy
structure Ind (o:So) (q b:Nat):Prop where
  a:o.ahead=List.replicate q b
  b:isB b=true
  q:q < 1000
section
variable (N k:Nat) (t:List Nat) (stop:Nat) (ind:List Nat) (h:H) (X:R V)
structure Okay (s:St):Prop where
  l:s.R=none→LX N k t stop ind h X s
  f:Pf X h s.R
noncomputable def RS (s:St):Prop :=
  (∃ d,(∀ h,sem tab N (k+7) 36 [.str t,.int s.T.length,.int stop,.str ind,.int (rowOf s.T)] h=.ok (.int (s.T.length+d:Nat)) h)∧(ind=[]→d=0)∧d≤10∧((t.drop s.T.length).take d).count 10=0∧PK N k t stop ind h X (s.T.length+d) (rowOf s.T) (s.ps.map ptL) s.cur) ∨
  ((ind==[])=false∧∃ w,(∀ h,sem tab N (k+7) 36 [.str t,.int s.T.length,.int stop,.str ind,.int (rowOf s.T)] h=.pf w (rowOf s.T) h)∧X=.pf w (rowOf s.T) h)
structure ORS (s:St):Prop where
  l:s.R=none→RS N k t stop ind h X s
  f:Pf X h s.R
end
section
variable {N k:Nat} {t:List Nat} {stop:Nat} {h:H} {X:R V} {o:So} {s:St} {m n q b:Nat} {ind:List Nat}
theorem aS7 (cx:Cxt N t stop o) (hraw:o.raw=false) (g:Good s m) (hm:m < 8000) (hn:n < 14) (hp:(pieceS o n s).T <+: t.take stop) (K:Okay N k t stop ind h X (pieceS o n s)):Okay N k t stop ind h X s :=
  ⟨fun hR=>bb6 cx hraw g hm hR hn (pc_T▸hp) K.l K.f,fun w n' e=>K.f w n' (ax3 e)⟩
theorem ak0 (cx:Cxt N t stop o) (hraw:o.raw=false):∀ (ps:List Nat) {s:St} {m:Nat},Good s m→m+24 * ps.length < 8000→(∀ n∈ps,n < 14)→(pcsS o ps s).T <+: t.take stop→Okay N k t stop ind h X (pcsS o ps s)→Okay N k t stop ind h X s
  | [],s,m,g,hm,hn,hp,K=>K
  | n::ps,s,m,g,hm,hn,hp,K=>by
    rw [List.length_cons] at hm
    have h14:=hn n (.head _)
    have ho:o.Ok:=⟨C0 cx.lab,J0 cx.nl,cx.ah⟩
    exact aS7 cx hraw g (by omega) h14 ((Q0 ps).trans hp) (ak0 cx hraw ps (g.piece ho h14) (by omega) (fun a ha=>hn a (.tail _ ha)) hp K)
theorem az0 (hb:isB b=true):b=32∨b=9:=by
  rcases Bool.or_eq_true_iff.mp (show (b==32 || b==9)=true from hb) with h | h
  · exact .inl (beq_iff_eq.mp h)
  · exact .inr (beq_iff_eq.mp h)
theorem C2 (hb:isB b=true) (n:Nat):(List.replicate n b).count 10=0:=by
  rw [List.count_eq_zero]
  intro h
  rw [List.mem_replicate] at h
  rw [← h.2] at hb; cases hb
theorem LX.at {a:List Nat} (ha:a.count 10=0) (K:LX N k t stop ind h X (s.addT a)):PK N k t stop ind h X (s.T.length+a.length) (rowOf s.T) (s.ps.map ptL) s.cur:=by
  have K:PK N k t stop ind h X (s.T++a).length (rowOf (s.T++a)) (s.ps.map ptL) s.cur:=K
  rw [B0 ha,List.length_append] at K
  exact K
theorem aj9 (cx:Cxt N t stop o) (hraw:o.raw=false) (iq:Ind o q b) (g:Good s m) (hm:m < 7000) {r:Rw} (hr:RwOk o r) (hp:(midS o r s).T <+: t.take stop) (hq:(midS o r s).T++o.nl <+: t)
    (K:Okay N k t stop o.ahead h X (midS o r s)):ORS N k t stop o.ahead h X s:=by
  have ho:o.Ok:=⟨C0 cx.lab,J0 cx.nl,cx.ah⟩
  have ql:o.ahead.length=q:=by rw [iq.a,List.length_replicate]
  have q4:=cx.ah
  rw [ql] at q4
  have K1:=ak0 cx hraw r.ps (g.pre ho r.k) (by have:=hr.l; omega) hr.p hp K
  refine ⟨fun hR=>?_,fun w n e=>K1.f w n (W0 e)⟩
  have ne:isBlank r.k=false→∃ c w,(preS o r.k s).T++c::w <+: t.take stop∧isBl c=false:=fun hb=>by
    have he:=hr.e
    rw [hb] at he
    have hp:=hp
    unfold midS at hp
    cases hps:r.ps with
    | nil=>rw [hps] at he; cases he
    | cons n ps =>
      obtain ⟨c,w,e1,e2⟩:=ae3 cx.lab (hr.p n (by rw [hps]; exact .head _))
      refine ⟨c,w,?_,e2⟩
      rw [hps] at hp
      rw [← e1,← pc_T]
      exact (Q0 (o:=o) ps (s:=pieceS o n (preS o r.k s))).trans hp
  cases hk:r.k with
  | blank d =>
    have hps:r.ps=[]:=by
      have he:=hr.e
      rw [hk] at he
      exact List.isEmpty_iff.mp he
    have hm2:midS o r s=s.addT (o.ahead.take d):=by unfold midS; rw [hk,hps]; rfl
    rw [hm2] at hp hq
    have L:=K.l (by rw [hm2]; exact hR)
    rw [hm2] at L
    obtain ⟨r2,hr2⟩:=n8 (show s.T++(o.ahead.take d++o.nl) <+: t by rw [← List.append_assoc]; exact hq)
    have hl:=(k9 hp).2
    have tk:o.ahead.take d=List.replicate (min d q) b:=by rw [iq.a,List.take_replicate]
    have ll:(s.addT (o.ahead.take d)).T.length=s.T.length+min d q:=by show (s.T++o.ahead.take d).length=_; rw [List.length_append,tk,List.length_replicate]
    rw [ll] at hl
    rw [tk,List.append_assoc] at hr2
    refine .inl ⟨min d q,fun h=>?_,fun e=>?_,by omega,?_,?_⟩
    · rw [iq.a]
      exact C1 (k:=k+4) iq.b iq.q hr2 (Nat.min_le_right _ _) hl (.inr (.inr (aI0 cx.nl)))
    · rw [e] at ql
      have:q=0:=ql.symm
      rw [this,Nat.min_zero]
    · rw [hr2,List.take_left' (List.length_replicate ..)]
      exact C2 iq.b _
    · have:=LX.at (by rw [tk]; exact C2 iq.b _) L
      rw [tk,List.length_replicate] at this
      exact this
  | full e =>
    have L:=K1.l (by rw [hk]; exact hR)
    rw [hk] at L
    have hp1:(preS o r.k s).T <+: t.take stop:=(aw5 r).trans hp
    rw [hk] at hp1
    have hp1:s.T++(o.ahead++sp e) <+: t.take stop:=hp1
    rw [← List.append_assoc] at hp1
    have L2:LX N k t stop o.ahead h X (s.addT o.ahead):=by
      refine V6 (w:=sp e) (x:=sp e) (m:=m+4) hp1 ⟨[],(List.append_nil _).symm⟩ (by cases e <;> rfl) (g.addT ho.a) (by omega) (by have:=S9 e; omega) ?_
      show LX N k t stop o.ahead h X ⟨(s.T++o.ahead)++sp e,s.R,s.ps,s.cur++sp e⟩
      rw [List.append_assoc]; exact L
    obtain ⟨r2,hr2⟩:=n8 ((List.prefix_append (s.T++o.ahead) (sp e)).trans (k9 hp1).1)
    have hl:=(k9 ((List.prefix_append (s.T++o.ahead) (sp e)).trans hp1)).2
    rw [List.length_append,ql] at hl
    rw [iq.a] at hr2
    refine .inl ⟨q,fun h=>?_,fun e=>?_,by omega,?_,?_⟩
    · rw [iq.a]
      exact C1 (k:=k+4) iq.b iq.q hr2 (Nat.le_refl q) hl (.inl rfl)
    · rw [e] at ql; exact ql.symm
    · rw [hr2,List.take_left' (List.length_replicate ..)]
      exact C2 iq.b _
    · have:=LX.at (by rw [iq.a]; exact C2 iq.b _) L2
      rw [ql] at this
      exact this
  | short =>
    obtain ⟨c,w,hc,hcb⟩:=ne (by rw [hk]; rfl)
    rw [hk] at hc
    have hc:(s.T++o.ahead.drop 1)++c::w <+: t.take stop:=hc
    have hl:=(k9 hc).2
    rw [List.append_assoc] at hc
    obtain ⟨r2,hr2⟩:=n8 (k9 hc).1
    have na:(o.ahead==[])=false:=hr.a (by rw [hk]; rfl)
    have q0:0 < q:=by
      cases z:o.ahead with
      | nil=>rw [z] at na; cases na
      | cons=>rw [← ql,z]; exact Nat.succ_pos _
    have dr:o.ahead.drop 1=List.replicate (q - 1) b:=by rw [iq.a,List.drop_replicate]
    rw [dr] at hr2 hl
    rw [List.length_append,List.length_append,List.length_replicate,List.length_cons] at hl
    rw [List.append_assoc] at hr2
    obtain ⟨n1,n2⟩:=aI1 (r:=w++r2) hcb
    refine .inr ⟨na,shortW q,fun h=>?_,?_⟩
    · rw [iq.a]
      exact F2 (k:=k+4) iq.b iq.q hr2 (by omega) (by omega) n2 n1
    · refine K1.f (shortW q) (rowOf s.T) ?_
      rw [hk]
      show some (s.R.getD (shortW o.ahead.length,rowOf s.T))=_
      rw [hR,ql]; rfl
  | mixed =>
    obtain ⟨c,w,hc,hcb⟩:=ne (by rw [hk]; rfl)
    rw [hk] at hc
    have hc:(s.T++(oth o.ahead++o.ahead.drop 1))++c::w <+: t.take stop:=hc
    have hl:=(k9 hc).2
    rw [List.append_assoc] at hc
    obtain ⟨r2,hr2⟩:=n8 (k9 hc).1
    have na:(o.ahead==[])=false:=hr.a (by rw [hk]; rfl)
    have q0:0 < q:=by
      cases z:o.ahead with
      | nil=>rw [z] at na; cases na
      | cons=>rw [← ql,z]; exact Nat.succ_pos _
    obtain ⟨n,rfl⟩:∃ n,q=n+1:=⟨q - 1,by omega⟩
    obtain ⟨c2,hc2,hc3,hc4⟩:∃ c2,oth o.ahead=[c2]∧isB c2=true∧([c2]==[b])=false:=by
      rw [iq.a]
      rcases az0 iq.b with rfl | rfl
      · exact ⟨9,rfl,rfl,rfl⟩
      · exact ⟨32,rfl,rfl,rfl⟩
    rw [hc2] at hr2
    rw [List.length_append,List.length_append,hc2,List.length_cons,List.length_append,List.length_cons] at hl
    refine .inr ⟨na,s2,fun h=>?_,?_⟩
    · rw [iq.a]
      exact L0 (k:=k+4) (r:=o.ahead.drop 1++c::w++r2) iq.q q0 (by rw [hr2]; rfl) (by omega) hc3 hc4
    · refine K1.f s2 (rowOf s.T) ?_
      rw [hk]
      show some (s.R.getD (s2,rowOf s.T))=_
      rw [hR]; rfl
end
end Mine
end
section
set_option genInjectivity false
set_option genSizeOf false
namespace Mine
open P1
noncomputable def ans (R:Ref) (v:V) (h:H):Mine.R V:=R.elim (.ok v h) fun y=>.pf y.1 (y.2:Nat) h
noncomputable def bdF (o:So) (rs:List Rw) (s:St):St:=match rs with
  | []=>s
  | r::rs=>rowsX o r rs s
section
variable {N k:Nat} {t:List Nat} {stop:Nat} {h:H} {X:R V} {o:So} {s:St} {m n q b:Nat} {ind:List Nat}
theorem aJ2 (g:Good s m) (hm:m < 9000) (hp:s.T++[10] <+: t.take stop) (K:RS N k t stop ind h X ((s.addT [10]).txt [10])):LX N k t stop ind h X s:=by
  obtain ⟨r,hr⟩:=ab2 hp
  have hr:t.drop s.T.length=10::r:=hr
  have hl:=(k9 hp).2
  rw [List.length_append] at hl
  have hl:s.T.length+1≤stop:=hl
  have bg:=k7
  have gc:=g.c
  have ll:(s.T++[10]).length=s.T.length+1:=by rw [List.length_append]; rfl
  have lr:rowOf (s.T++[10])=rowOf s.T+1:=x8 _ _
  have K:RS N k t stop ind h X ⟨s.T++[10],s.R,s.ps,s.cur++[10]⟩:=K
  rcases K with ⟨d,e,e0,dl,dc,P⟩ | ⟨na,w,e,hX⟩
  · rw [ll,lr] at e P
    rw [ll] at dc
    refine PK.nl (q:=s.T.length+1+d) hr hl (by omega) (by omega) ?_ (by omega) e (fun z=>by rw [e0 z]) P
    rw [show s.T.length+1+d - s.T.length=d+1 by omega,List.take_succ_cons,List.count_cons]
    rw [g6 hr] at dc
    rw [dc]; rfl
  · rw [ll,lr] at e
    rw [lr] at hX
    exact PK.nl_bad hr hl (by omega) na e hX
theorem aS8 (cx:Cxt N t stop o) (g:Good s m) (hm:m < 8000) (hp:(nlS o s).T <+: t.take stop) (K:ORS N k t stop ind h X (nlS o s)):Okay N k t stop ind h X s:=by
  refine ⟨fun hR=>?_,K.f⟩
  have L:=K.l hR
  have hp:s.T++o.nl <+: t.take stop:=hp
  have L:RS N k t stop ind h X ⟨s.T++o.nl,s.R,s.ps,s.cur++o.nl⟩:=L
  rcases Bool.or_eq_true_iff.mp cx.nl with z | z
  · rw [beq_iff_eq.mp z] at hp L
    exact aJ2 g (by omega) hp L
  · rw [beq_iff_eq.mp z] at hp L
    refine V6 (w:=[13]) (x:=[13,10]) hp ⟨[10],rfl⟩ rfl g (by omega) (by decide) ?_
    refine aJ2 (m:=m+1+1) ((g.addT (x:=[13]) (Nat.le_refl 1)).txt (x:=[13]) (Nat.le_refl 1)) (by omega) ?_ ?_
    · show (s.T++[13])++[10] <+: _
      rw [List.append_assoc]; exact hp
    · show RS N k t stop ind h X ⟨(s.T++[13])++[10],s.R,s.ps,(s.cur++[13])++[10]⟩
      rw [List.append_assoc,List.append_assoc]; exact L
theorem aj1 (cx:Cxt N t stop o) (hraw:o.raw=false) (iq:Ind o q b):∀ (rs:List Rw) {r:Rw} {s:St} {m:Nat},Good s m→m+86 * (rs.length+1) < 7000→(∀ x∈r::rs,RwOk o x)→(rowsX o r rs s).T <+: t.take stop→(rowsX o r rs s).T++o.nl <+: t →
    Okay N k t stop o.ahead h X (rowsX o r rs s)→ORS N k t stop o.ahead h X s
  | [],r,s,m,g,hm,hr,hp,hq,K=>aj9 cx hraw iq g (by omega) (hr r (.head _)) hp hq K
  | r2::rs,r,s,m,g,hm,hr,hp,hq,K=>by
    have ho:o.Ok:=⟨C0 cx.lab,J0 cx.nl,cx.ah⟩
    rw [List.length_cons] at hm
    have gm:=g.mid ho (hr r (.head _))
    have h1:(nlS o (midS o r s)).T <+: t.take stop:=((H3 r2).trans (I1 rs r2)).trans hp
    have IH:=aj1 cx hraw iq rs (gm.nl ho) (by omega) (fun a ha=>hr a (.tail _ ha)) hp hq K
    exact aj9 cx hraw iq g (by omega) (hr r (.head _)) ((List.prefix_append (midS o r s).T o.nl).trans h1) (k9 h1).1 (aS8 cx gm (by omega) h1 IH)
theorem RS.sem (hN:t.length < N) (hs:stop < t.length) (K:RS N k t stop ind h X s) (h1:s.ps=[]) (h2:s.cur=[]):sem tab N (k+8) 32 [.str t,.int s.T.length,.int stop,.str [],.str ind,.int (rowOf s.T),.fn 47] h=X:=by
  rcases K with ⟨d,e,e0,dl,dc,P⟩ | ⟨na,w,e,hX⟩
  · rw [h1,h2] at P
    exact aA3 (by omega) e (fun z=>by rw [e0 z]; rfl) P
  · rw [hX]; exact ad1 na e
theorem ak1 (g:Good s m) (hm:m < 9000) (hs:stop=s.T.length):Okay N k t stop ind h (ans s.R (.tup [.tup (s.parts.map ptL),.int stop]) h) s:=by
  have bg:=k7
  have e:s.ps.map ptL++tx s.cur=s.parts.map ptL:=by unfold St.parts; rw [List.map_append,aY0]
  refine ⟨fun hR=>?_,fun w n e=>by rw [e]; rfl⟩
  unfold LX
  rw [← hs]
  refine PK.done (fun H=>?_) (by rw [List.length_map]; have:=g.p; omega) (by have:=g.c; omega) ?_
  · rw [e]; exact B7 (ax8 _ _ 3) _
  · rw [hR,e]; rfl
theorem aO1 (cx:Cxt N t stop o) (hraw:o.raw=false) (iq:Ind o q b) {rs:List Rw} (g:Good s m) (hm:m < 6000) (hr:∀ r∈rs,RwOk o r) (hl:rs.length≤4) (hR:s.R=none) (h1:s.ps=[]) (h2:s.cur=[]) (hs:stop=(bdF o rs s).T.length) (hF:(bdF o rs s).T <+: t) (hq:rs≠[]→(bdF o rs s).T++o.nl <+: t) :
    sem tab N (k+8) 32 [.str t,.int s.T.length,.int stop,.str [],.str o.ahead,.int (rowOf s.T),.fn 47] h=ans (bdF o rs s).R (.tup [.tup ((bdF o rs s).parts.map ptL),.int stop]) h:=by
  have ho:o.Ok:=⟨C0 cx.lab,J0 cx.nl,cx.ah⟩
  have hu:(bdF o rs s).T <+: t.take stop:=by rw [hs,List.prefix_take_iff]; exact ⟨hF,Nat.le_refl _⟩
  have K:ORS N k t stop o.ahead h (ans (bdF o rs s).R (.tup [.tup ((bdF o rs s).parts.map ptL),.int stop]) h) s:=by
    cases rs with
    | nil =>
      have E:Okay N k t stop o.ahead h (ans s.R (.tup [.tup (s.parts.map ptL),.int stop]) h) s:=ak1 g (by omega) hs
      refine ⟨fun hR=>.inl ⟨0,fun h=>?_,fun _=>rfl,by omega,rfl,E.l hR⟩,E.f⟩
      rw [iq.a]
      exact C1 (k:=k+4) (r:=t.drop s.T.length) iq.b iq.q rfl (Nat.zero_le _) (Nat.le_of_eq hs.symm) (.inr (.inl hs.symm))
    | cons r rs=>exact aj1 cx hraw iq rs g (by rw [List.length_cons] at hl; omega) hr hu (hq (by simp)) (ak1 (Good.rowsX ho rs g hr) (by rw [List.length_cons] at hl; omega) hs)
  exact (K.l hR).sem (by have:=cx.n; omega) cx.st h1 h2
end
end Mine
end
section
set_option genInjectivity false
set_option genSizeOf false
namespace Mine
open P1
theorem y6 (a b:List Nat) (c:Nat):(a++b).contains c=(a.contains c || b.contains c):=by
  rw [Bool.eq_iff_iff,Bool.or_eq_true,List.contains_iff_mem,List.contains_iff_mem,List.contains_iff_mem,List.mem_append]
theorem o9 {lab r:List Nat} {c:Nat} (hl:lab∈labs) (hc:[69,65,95,233].contains c=false):noLab lab (c::r)=true:=by
  have:∀ l∈labs,∃ d w,l=d::w∧[69,65,95,233].contains d=true:=by
    intro l hl
    simp only [labs,List.mem_cons,List.not_mem_nil,or_false] at hl
    rcases hl with rfl | rfl | rfl | rfl <;> exact ⟨_,_,rfl,rfl⟩
  obtain ⟨d,w,rfl,hd⟩:=this lab hl
  have cd:(c==d)=false:=by
    cases z:c==d with
    | false=>rfl
    | true=>rw [beq_iff_eq.mp z,hd] at hc; cases hc
  unfold noLab
  rw [List.length_cons,List.take_succ_cons,List.cons_beq_cons,cd]; rfl
theorem aw4 {lab r:List Nat} (c:Nat) (h1:sgn.contains c=true) (h2:isNg c=true):noLab lab (lab++c::r)=true:=by
  unfold noLab
  rw [List.take_left' rfl,List.drop_left' rfl]
  show (!(lab==lab) || (sgn.contains c&&isNg c))=true
  rw [h1,h2,Bool.or_comm]; rfl
noncomputable def hdOk (l:List Nat):Bool:=match l with | []=>false | c::_=>!([69,65,95,233].contains c)
theorem aH7 {o:So} (hl:o.lab∈labs) {n:Nat} (hn:n < 14) (r:List Nat):noLab o.lab (pcX o n++r)=true:=by
  refine all14 (P:=fun n=>noLab o.lab (pcX o n++r)=true) ?_ hn
  show ∀ n∈[0,1,2,3,4,5,6,7,8,9,10,11,12,13],noLab o.lab (pcX o n++r)=true
  simp only [List.forall_mem_cons]
  refine ⟨o9 hl rfl,o9 hl rfl,o9 hl rfl,o9 hl rfl,o9 hl rfl,o9 hl rfl,?_,o9 hl rfl,o9 hl rfl,o9 hl rfl,o9 hl rfl,o9 hl rfl,o9 hl rfl,o9 hl rfl,fun n hn=>by cases hn⟩
  show noLab o.lab ((o.lab++[120])++r)=true
  rw [List.append_assoc]
  exact aw4 120 rfl rfl
theorem av6 {o:So} (hl:o.lab∈labs) {n:Nat} (hn:n < 14) (h5:(n==5)=false):(pcX o n).contains 10=false:=by
  have h6:∀ l∈labs,(l++[120]).contains 10=false∧([46]++l).contains 10=false:=by decide
  refine all14 (P:=fun n=>(n==5)=false→(pcX o n).contains 10=false) ?_ hn h5
  show ∀ n∈[0,1,2,3,4,5,6,7,8,9,10,11,12,13],(n==5)=false→(pcX o n).contains 10=false
  simp only [List.forall_mem_cons]
  exact ⟨fun _=>rfl,fun _=>rfl,fun _=>rfl,fun _=>rfl,fun _=>rfl,(fun h=>by cases h),fun _=>(h6 _ hl).1,fun _=>(h6 _ hl).2,fun _=>rfl,fun _=>rfl,fun _=>rfl,fun _=>rfl,fun _=>rfl,fun _=>rfl,fun n hn=>by cases hn⟩
theorem ah_b {a:List Nat} (h:a∈ahs):a.all isB=true:=(show ∀ a∈ahs,a.all isB=true by decide) a h
theorem aD4 {a:List Nat} (h:a.all isB=true) (n:Nat):(a.take n).all isB=true:=List.all_eq_true.mpr fun c hc=>List.all_eq_true.mp h c (List.mem_of_mem_take hc)
theorem ac4 {a:List Nat} (h:a.all isB=true) (n:Nat):(a.drop n).all isB=true:=List.all_eq_true.mpr fun c hc=>List.all_eq_true.mp h c (List.mem_of_mem_drop hc)
theorem aY3 {o:So} (h:o.ahead.all isB=true) (k:Kd):(preT o k).all isB=true:=by
  cases k with
  | blank d=>exact aD4 h d
  | short=>exact ac4 h 1
  | mixed =>
    show (oth o.ahead++o.ahead.drop 1).all isB=true
    rw [List.all_append,ac4 h 1]
    unfold oth
    cases (o.ahead.take 1==[32]) <;> rfl
  | full e =>
    show (o.ahead++sp e).all isB=true
    rw [List.all_append,h]
    cases e <;> rfl
theorem aO4 {w:List Nat} (h:w.all isB=true):w.contains 10=false:=by
  cases z:w.contains 10 with
  | false=>rfl
  | true =>
    have:=List.all_eq_true.mp h 10 (List.contains_iff_mem.mp z)
    cases this
noncomputable def nl0 (nl:List Nat):List Nat:=cond (nl==[10]) [] [13]
theorem V2 {nl:List Nat} (h:isNl nl=true):nl=nl0 nl++[10]∧(nl0 nl).contains 10=false:=E4 (P:=fun nl=>nl=nl0 nl++[10]∧(nl0 nl).contains 10=false) ⟨rfl,rfl⟩ ⟨rfl,rfl⟩ h
section
variable (N k:Nat) (t:List Nat) (a:Nat) (lab:List Nat) (l:Int) (h:H) (X:R V)
structure Mid (p:Nat) (s:St):Prop where
  x:∃ bl r,t.drop p=bl++r∧bl.all isB=true∧stopG isB r=true∧bl.length < N∧noLab lab r=true
  w:∃ w,t.drop p=w++t.drop s.T.length∧p+w.length=s.T.length∧w.contains 10=false
end
section
variable {N k:Nat} {t:List Nat} {a:Nat} {l:Int} {h:H} {X:R V} {o:So} {s:St} {p n:Nat}
theorem Mid.add {x:List Nat} (M:Mid N t o.lab p s) (hp:s.T++x <+: t) (hx:x.contains 10=false):Mid N t o.lab p (s.addT x):=by
  obtain ⟨w,w1,w2,w3⟩:=M.w
  obtain ⟨r,hr⟩:=n8 hp
  have hd:t.drop (s.T++x).length=r:=by rw [List.length_append]; exact y0 hr
  refine ⟨M.x,w++x,?_,?_,?_⟩
  · show t.drop p=w++x++t.drop (s.T++x).length
    rw [hd,List.append_assoc,← hr]; exact w1
  · show p+(w++x).length=(s.T++x).length
    rw [List.length_append,List.length_append,← w2,Nat.add_assoc]
  · rw [y6,w3,hx]; rfl
theorem Mid.next {x:List Nat} (M:Mid N t o.lab p s) (hb:t.length < big) (hp:s.T++(x++[10]) <+: t) (hx:x.contains 10=false) (K:HK N k t a o.lab l h X (s.T++(x++[10])).length):HK N k t a o.lab l h X p:=by
  obtain ⟨bl,r,x1,x2,x3,x4,x5⟩:=M.x
  obtain ⟨w,w1,w2,w3⟩:=M.w
  obtain ⟨r2,hr⟩:=n8 hp
  refine HK.next x1 x2 x3 x4 x5 (w:=w++x) (r2:=r2) ?_ ?_ hb ?_
  · rw [w1,hr,List.append_assoc,List.append_assoc]; rfl
  · rw [y6,w3,hx]; rfl
  · rw [show p+(w++x).length+1=(s.T++(x++[10])).length by simp only [List.length_append,List.length_cons,List.length_nil]; omega]
    exact K
theorem Mid.start {bl r:List Nat} (h1:t.drop s.T.length=bl++r) (h2:bl.all isB=true) (h3:stopG isB r=true) (h4:bl.length < N) (h5:noLab o.lab r=true):Mid N t o.lab s.T.length s :=
  ⟨⟨bl,r,h1,h2,h3,h4,h5⟩,[],rfl,rfl,rfl⟩
theorem aQ2 {c:Nat} {r:List Nat} (h:isBl c=false):stopG isB (c::r)=true:=by
  show (!isB c)=true
  rw [(aI1 (r:=r) h).2]; rfl
theorem aK8 (hl:o.lab∈labs) (hnl:isNl o.nl=true) (hb:t.length < big) (hN:0 < N):∀ (ps:List Nat) {s:St} {p:Nat},Mid N t o.lab p s→(∀ n∈ps,n < 14)→(pcsS o ps s).T <+: t→(∀ p',Mid N t o.lab p' (pcsS o ps s)→HK N k t a o.lab l h X p')→HK N k t a o.lab l h X p
  | [],s,p,M,hn,hp,K=>K p M
  | n::ps,s,p,M,hn,hp,K=>by
    have h14:=hn n (.head _)
    have hp1:s.T++pcX o n <+: t:=pc_T (o:=o) (s:=s)▸(Q0 ps (s:=pieceS o n s)).trans hp
    have IH:∀ {p},Mid N t o.lab p (pieceS o n s)→HK N k t a o.lab l h X p:=fun M=>aK8 hl hnl hb hN ps M (fun a ha=>hn a (.tail _ ha)) hp K
    have same:∀ {p} {s':St},s'.T=(pieceS o n s).T→Mid N t o.lab p s'→Mid N t o.lab p (pieceS o n s):=fun {p s'} e M=>⟨M.x,by have:=M.w; rw [e] at this; exact this⟩
    cases h5:n==5 with
    | false=>exact IH (same (s':=s.addT (pcX o n)) pc_T.symm (M.add hp1 (av6 hl h14 h5)))
    | true =>
      obtain ⟨n1,n2⟩:=V2 hnl
      have e5:pcX o n=([123,36,118,32,47,42]++nl0 o.nl++[10])++[42,47,125]:=by
        rw [beq_iff_eq.mp h5]
        show [123,36,118,32,47,42]++o.nl++[42,47,125]=_
        rw [List.append_assoc [123,36,118,32,47,42] (nl0 o.nl),← n1]
      rw [e5] at hp1
      have hp2:s.T++([123,36,118,32,47,42]++nl0 o.nl++[10]) <+: t:=(List.prefix_append _ [42,47,125]).trans (by rw [List.append_assoc]; exact hp1)
      have hp3:(s.addT ([123,36,118,32,47,42]++nl0 o.nl++[10])).T++[42,47,125] <+: t:=by
        show (s.T++_)++_ <+: t
        rw [List.append_assoc]; exact hp1
      refine M.next hb hp2 (by rw [y6,n2]; rfl) ?_
      obtain ⟨r,hr⟩:=n8 hp3
      refine IH (p:=(s.addT ([123,36,118,32,47,42]++nl0 o.nl++[10])).T.length) (same (s':=(s.addT ([123,36,118,32,47,42]++nl0 o.nl++[10])).addT [42,47,125]) ?_ ((Mid.start (bl:=[]) hr rfl rfl hN (o9 hl rfl)).add hp3 rfl))
      rw [pc_T,e5]
      exact List.append_assoc ..
theorem aK7 (hl:o.lab∈labs) (hnl:isNl o.nl=true) (hb:t.length < big) (hN:10 < N) (ha:o.ahead.all isB=true) (ha4:o.ahead.length≤4) {r:Rw} (hr:RwOk o r) (hp:(nlS o (midS o r s)).T <+: t)
    (K:HK N k t a o.lab l h X (nlS o (midS o r s)).T.length):HK N k t a o.lab l h X s.T.length:=by
  obtain ⟨n1,n2⟩:=V2 hnl
  have hm:(midS o r s).T++o.nl <+: t:=hp
  have hm0:(midS o r s).T <+: t:=(List.prefix_append _ _).trans hm
  have hb1:=aY3 ha r.k
  have pl:(preT o r.k).length < N:=by
    cases r.k with
    | blank d=>show (o.ahead.take d).length < N; rw [List.length_take]; omega
    | short=>show (o.ahead.drop 1).length < N; rw [List.length_drop]; omega
    | mixed=>show (oth o.ahead++o.ahead.drop 1).length < N; rw [List.length_append,ae4,List.length_drop]; omega
    | full e=>show (o.ahead++sp e).length < N; have:=S9 e; rw [List.length_append]; omega
  have hpre:s.T++preT o r.k <+: t:=aa7 (o:=o) (s:=s) r.k▸(aw5 r).trans hm0
  obtain ⟨rr,hrr⟩:=n8 hpre
  have hd:t.drop (preS o r.k s).T.length=rr:=by rw [aa7,List.length_append]; exact y0 hrr
  have lk:stopG isB rr=true∧noLab o.lab rr=true:=by
    have he:=hr.e
    cases hps:r.ps with
    | nil =>
      have hm2:midS o r s=preS o r.k s:=by unfold midS; rw [hps]; rfl
      rw [hm2] at hm
      obtain ⟨r3,hr3⟩:=n8 hm
      rw [← hd,hr3]
      exact E4 (P:=fun nl=>stopG isB (nl++r3)=true∧noLab o.lab (nl++r3)=true) ⟨rfl,o9 hl rfl⟩ ⟨rfl,o9 hl rfl⟩ hnl
    | cons n ps =>
      have h14:=hr.p n (by rw [hps]; exact .head _)
      have hp2:(preS o r.k s).T++pcX o n <+: t:=by
        rw [← pc_T]
        refine (Q0 (o:=o) ps (s:=pieceS o n (preS o r.k s))).trans ?_
        have:=hm0
        unfold midS at this
        rw [hps] at this
        exact this
      obtain ⟨r3,hr3⟩:=n8 hp2
      rw [← hd,hr3]
      obtain ⟨c,w,e1,e2⟩:=ae3 hl h14
      refine ⟨?_,aH7 hl h14 r3⟩
      rw [e1]; exact aQ2 e2
  have M0:Mid N t o.lab s.T.length s:=Mid.start hrr hb1 lk.1 pl lk.2
  have M1:Mid N t o.lab s.T.length (preS o r.k s):=by
    have:=M0.add hpre (aO4 hb1)
    exact ⟨this.x,by have:=this.w; rw [show (s.addT (preT o r.k)).T=(preS o r.k s).T from (aa7 r.k).symm] at this; exact this⟩
  refine aK8 hl hnl hb (by omega) r.ps M1 hr.p hm0 fun p' M=>?_
  rw [n1] at hm
  refine M.next hb hm n2 ?_
  rw [← n1]; exact K
theorem ax7 (hl:o.lab∈labs) (hnl:isNl o.nl=true) (hb:t.length < big) (hN:10 < N) (ha:o.ahead.all isB=true) (ha4:o.ahead.length≤4):∀ (rs:List Rw) {r:Rw} {s:St},(∀ x∈r::rs,RwOk o x)→(nlS o (rowsX o r rs s)).T <+: t →
    HK N k t a o.lab l h X (nlS o (rowsX o r rs s)).T.length→HK N k t a o.lab l h X s.T.length
  | [],r,s,hr,hp,K=>aK7 hl hnl hb hN ha ha4 (hr r (.head _)) hp K
  | r2::rs,r,s,hr,hp,K=>aK7 hl hnl hb hN ha ha4 (hr r (.head _)) (((H3 r2).trans ((I1 rs r2).trans (List.prefix_append _ o.nl))).trans hp) (ax7 hl hnl hb hN ha ha4 rs (fun a ha=>hr a (.tail _ ha)) hp K)
end
end Mine
end
section
set_option genInjectivity false
set_option genSizeOf false
namespace Mine
open P1
structure No13 (s s':St):Prop where
  w:∃ w,s'.T=s.T++w∧w.contains 13=false
theorem No13.rfl {s:St}:No13 s s:=⟨[],(List.append_nil _).symm,by decide⟩
theorem No13.trans {a b c:St} (x:No13 a b) (y:No13 b c):No13 a c:=by
  obtain ⟨u,u1,u2⟩:=x.w
  obtain ⟨v,v1,v2⟩:=y.w
  exact ⟨u++v,by rw [v1,u1,List.append_assoc],by rw [y6,u2,v2]; decide⟩
theorem No13.of {s s':St} {w:List Nat} (h:s'.T=s.T++w) (hw:w.contains 13=false):No13 s s':=⟨w,h,hw⟩
theorem bg0 {w:List Nat} (h:w.all isB=true):w.contains 13=false:=by
  cases z:w.contains 13 with
  | false=>decide
  | true =>
    have:=List.all_eq_true.mp h 13 (List.contains_iff_mem.mp z)
    cases this
section
variable {o:So} {n:Nat} {s:St}
theorem aS3 (hl:o.lab∈labs) (hnl:o.nl=[10]) (hn:n < 14):(pcX o n).contains 13=false:=by
  have h6:∀ l∈labs,(l++[120]).contains 13=false∧([46]++l).contains 13=false:=by decide
  refine all14 (P:=fun n=>(pcX o n).contains 13=false) ?_ hn
  show ∀ n∈[0,1,2,3,4,5,6,7,8,9,10,11,12,13],(pcX o n).contains 13=false
  simp only [List.forall_mem_cons]
  refine ⟨by rfl,by rfl,by rfl,by rfl,by rfl,?_,(h6 _ hl).1,(h6 _ hl).2,by rfl,by rfl,by rfl,by rfl,by rfl,by rfl,fun n hn=>by cases hn⟩
  show ([123,36,118,32,47,42]++o.nl++[42,47,125]).contains 13=false
  rw [hnl]; decide
theorem aj6 (hl:o.lab∈labs) (hnl:o.nl=[10]):∀ (ps:List Nat) {s:St},(∀ n∈ps,n < 14)→No13 s (pcsS o ps s)
  | [],s,_=>.rfl
  | n::ps,s,h=>(No13.of pc_T (aS3 hl hnl (h n (.head _)))).trans (aj6 hl hnl ps fun a ha=>h a (.tail _ ha))
theorem ak5 (hl:o.lab∈labs) (hnl:o.nl=[10]) (ha:o.ahead.all isB=true) {r:Rw} (hr:RwOk o r):No13 s (midS o r s) :=
  (No13.of (aa7 r.k) (bg0 (aY3 ha r.k))).trans (aj6 hl hnl r.ps hr.p)
theorem T6 (hl:o.lab∈labs) (hnl:o.nl=[10]) (ha:o.ahead.all isB=true):∀ (rs:List Rw) {r:Rw} {s:St},(∀ x∈r::rs,RwOk o x)→No13 s (rowsX o r rs s)
  | [],r,s,h=>ak5 hl hnl ha (h r (.head _))
  | r2::rs,r,s,h=>(ak5 hl hnl ha (h r (.head _))).trans ((No13.of (s':=nlS o (midS o r s)) (w:=o.nl) (by rfl) (by rw [hnl]; decide)).trans (T6 hl hnl ha rs fun a ha=>h a (.tail _ ha)))
end
theorem aI5 {a:List Nat} (h:a∈ahs):isMix a=(a==[32,9]):=(show ∀ a∈ahs,isMix a=(a==[32,9]) by decide) a h
theorem M7 {l r:List Nat} (h:l∈labs):stopG isB (l++r)=true:=by
  simp only [labs,List.mem_cons,List.not_mem_nil,or_false] at h
  rcases h with rfl | rfl | rfl | rfl <;> rfl
theorem al3 {l:List Nat} (h:l∈labs):l.contains 10=false:=(show ∀ l∈labs,l.contains 10=false by decide) l h
theorem P4 {l r:List Nat} (h:stopB isNg r=true):endLab l (l++r)=true:=by
  unfold endLab
  rw [List.take_left' rfl,List.drop_left' rfl,h,Bool.and_true]
  exact beq_self_eq_true l
section
variable {N k:Nat} {t:List Nat} {l:Int} {h:H} {X:R V} {o:So} {s:St} {z:List Nat} {rs:List Rw}
theorem aZ1 (o:So) (rs:List Rw) (s:St):(bodyS o rs s).T=(bdF o rs s).T++cond rs.isEmpty [] o.nl:=by
  cases rs with
  | nil=>exact (List.append_nil _).symm
  | cons r rs=>rfl
structure He (N:Nat) (t:List Nat) (o:So) (rs:List Rw) (s:St) (z:List Nat):Prop where
  l:o.lab∈labs
  n:isNl o.nl=true
  a:o.ahead∈ahs
  r:∀ r∈rs,RwOk o r
  N:t.length+10 < N
  b:t.length < 9000
  t:t=(bodyS o rs s).T++(o.ahead++(o.lab++z))
section
variable (E:He N t o rs s z)
include E
theorem He.at:t.drop (bodyS o rs s).T.length=o.ahead++(o.lab++z):=by rw [E.t,List.drop_left' rfl]
theorem He.le:(bodyS o rs s).T.length≤t.length:=by have:=congrArg List.length E.t; rw [List.length_append] at this; omega
theorem He.big:t.length < big:=by have:=E.b; rw [k7]; omega
theorem He.up (K:HK N k t s.T.length o.lab l h X (bodyS o rs s).T.length):sem tab N (k+3) 35 [.str t,.int s.T.length,.str o.lab,.int l] h=X:=by
  have hN:=E.N
  refine ap0 (by omega) ?_
  cases hrs:rs with
  | nil=>rw [hrs] at K; exact K
  | cons r l =>
    have ht:=E.t
    have hr:=E.r
    rw [hrs] at K ht hr
    exact ax7 E.l E.n E.big (by omega) (ah_b E.a) (G5 E.a) l hr ⟨_,ht.symm⟩ K
theorem He.pf6 (hz:z=[122]):sem tab N (k+3) 35 [.str t,.int s.T.length,.str o.lab,.int l] h=.pf s6 l h:=by
  have hN:=E.N
  have ha:=G5 E.a
  have hd:=E.at
  refine E.up (HK.last hd (ah_b E.a) (M7 E.l) (by omega) (by rw [hz]; exact aw4 122 (by decide) (by decide)) E.le ?_ E.big (by rfl))
  rw [hd,y6,y6,aO4 (ah_b E.a),al3 E.l,hz]; decide
theorem He.pf2 (hz:stopB isNg z=true) (ha:(o.ahead==[32,9])=true):sem tab N (k+3) 35 [.str t,.int s.T.length,.str o.lab,.int l] h=.pf s2 l h:=by
  have hN:=E.N
  have h4:=G5 E.a
  exact E.up (HK.mixed E.le E.at (ah_b E.a) (M7 E.l) (by omega) (P4 hz) ((aI5 E.a).trans ha) (by rfl))
theorem He.ok (hz:stopB isNg z=true) (ha:(o.ahead==[32,9])=false):sem tab N (k+3) 35 [.str t,.int s.T.length,.str o.lab,.int l] h=.ok (.tup [.int (bdF o rs s).T.length,.str o.ahead,.int ((bodyS o rs s).T.length+o.ahead.length+o.lab.length:Nat)]) h:=by
  have hN:=E.N
  have h4:=G5 E.a
  have hm:=(aI5 E.a).trans ha
  have hd:=E.at
  have hle:=E.le
  have ht:=E.t
  have hr:=E.r
  cases hrs:rs with
  | nil =>
    rw [hrs] at hd hle
    rw [← hrs]
    refine E.up ?_
    rw [hrs]
    exact HK.at0 hle hd (ah_b E.a) (M7 E.l) (by omega) (P4 hz) hm (by rfl)
  | cons r l =>
    rw [hrs] at hd hle ht hr
    rw [← hrs]
    refine E.up ?_
    rw [hrs]
    have hB:(bodyS o (r::l) s).T=(rowsX o r l s).T++o.nl:=by rfl
    have hF:bdF o (r::l) s=rowsX o r l s:=by rfl
    rw [hF]
    have hs:s.T <+: (rowsX o r l s).T:=(H3 r).trans (I1 l r)
    have hsl:=hs.length_le
    have np:=O7 E.n
    rw [hB] at hd hle ht ⊢
    have hT:t=(rowsX o r l s).T++(o.nl++(o.ahead++(o.lab++z))):=by rw [ht,List.append_assoc]
    refine HK.found (e:=(rowsX o r l s).T.length) hle (by rw [List.length_append]; omega) ?_ hd (ah_b E.a) (M7 E.l) (by omega) (P4 hz) hm (by rfl)
    rw [List.length_append]
    rcases Bool.or_eq_true_iff.mp E.n with q | q
    · have q:=beq_iff_eq.mp q
      refine .inr ⟨by rw [q]; rfl,?_⟩
      rw [q]
      obtain ⟨w,w1,w2⟩:=(T6 E.l q (ah_b E.a) l (s:=s) hr).w
      rcases List.eq_nil_or_concat w with e | ⟨u,c,e⟩
      · left
        rw [w1,e,List.append_nil]
        exact Nat.lt_succ_self _
      · right
        rw [List.concat_eq_append] at e
        rw [e] at w1 w2
        refine ⟨c,?_,?_⟩
        · have:(rowsX o r l s).T.length=(s.T++u).length+1:=by rw [w1,← List.append_assoc,List.length_append]; rfl
          rw [this,show (s.T++u).length+1 + [10].length - 2=(s.T++u).length from rfl,hT,w1,← List.append_assoc s.T u,List.append_assoc,List.getElem?_append_right (Nat.le_refl _),Nat.sub_self]; rfl
        · rw [y6] at w2
          have:=(Bool.or_eq_false_iff.mp w2).2
          rw [E9]
          have:(13==c || false)=false:=this
          rw [Bool.or_false,Bool.beq_comm] at this
          exact this
    · have q:=beq_iff_eq.mp q
      refine .inl ⟨by rw [q]; show s.T.length+2≤_+2; omega,?_,by rw [q]; rfl⟩
      rw [q] at hT ⊢
      show t[(rowsX o r l s).T.length]?=some 13
      rw [hT,List.getElem?_append_right (Nat.le_refl _),Nat.sub_self]; rfl
end
end
end Mine
end
section
set_option genInjectivity false
set_option genSizeOf false
namespace Mine
open P1
section
variable (N k:Nat) (t:List Nat) (stop:Nat) (ind:List Nat) (h:H) (X:R V)
structure RM (p q l0:Nat) (c0:List Nat) (s:St):Prop where
  pi:∀ h,sem tab N (k+4+3) 36 [.str t,.int p,.int stop,.str ind,.int l0] h=.ok (.int q) h
  hp:p < stop
  pq:p≤q
  w:∃ w,t.drop q=w++t.drop s.T.length∧q+w.length=s.T.length∧w.contains 10=false∧s.cur=c0++w
  l:l0=rowOf s.T
structure ORR (s:St):Prop where
  l:s.R=none→RK N (k+4) t stop ind h X s.T.length (rowOf s.T) s.cur
  f:Pf X h s.R
end
theorem H2 {w:List Nat} (h:w.contains 10=false):w.count 10=0:=by
  rw [List.count_eq_zero]
  intro m
  rw [List.contains_iff_mem.mpr m] at h
  cases h
section
variable {N k:Nat} {t:List Nat} {stop:Nat} {ind:List Nat} {h:H} {X:R V} {o:So} {s:St} {p q l0 m n b:Nat} {c0 x:List Nat}
theorem RM.add (M:RM N k t stop ind p q l0 c0 s) (hp:s.T++x <+: t) (hx:x.contains 10=false):RM N k t stop ind p q l0 c0 ((s.addT x).txt x):=by
  obtain ⟨w,w1,w2,w3,w4⟩:=M.w
  obtain ⟨r,hr⟩:=n8 hp
  have hd:t.drop (s.T++x).length=r:=by rw [List.length_append]; exact y0 hr
  refine ⟨M.pi,M.hp,M.pq,⟨w++x,?_,?_,?_,?_⟩,?_⟩
  · show t.drop q=w++x++t.drop (s.T++x).length
    rw [hd,List.append_assoc,← hr]; exact w1
  · show q+(w++x).length=(s.T++x).length
    rw [List.length_append,List.length_append,← w2,Nat.add_assoc]
  · rw [y6,w3,hx]; rfl
  · show s.cur++x=c0++(w++x)
    rw [w4,List.append_assoc]
  · show l0=rowOf (s.T++x)
    rw [B0 (H2 hx)]; exact M.l
theorem RM.next (M:RM N k t stop ind p q l0 c0 s) (hb:t.length < big) (hs:stop≤t.length) (hp:s.T++(x++[10]) <+: t.take stop) (hx:x.contains 10=false)
    (K:RK N (k+4) t stop ind h X (s.T++(x++[10])).length (rowOf (s.T++(x++[10]))) (s.cur++(x++[10]))):RK N (k+4) t stop ind h X p l0 c0:=by
  obtain ⟨w,w1,w2,w3,w4⟩:=M.w
  obtain ⟨hp1,hl⟩:=k9 hp
  obtain ⟨r,hr⟩:=n8 hp1
  have pq:=M.pq
  simp only [List.length_append,List.length_cons,List.length_nil] at hl
  have hd:t.drop q=(w++x)++10::r:=by rw [w1,hr,List.append_assoc,List.append_assoc]; rfl
  have hL:(s.T++(x++[10])).length=q+(w++x).length+1:=by simp only [List.length_append,List.length_cons,List.length_nil]; omega
  rw [hL,x8,List.count_append,H2 hx,← M.l,w4] at K
  refine RK.row (q:=q) (w:=w++x) (r:=r) (v:=q+(w++x).length) (b:=q+(w++x).length+1) M.hp hb hs M.pi hd (by rw [y6,w3,hx]; rfl) rfl ?_ (by omega) (by omega) ?_
  · rw [if_pos (by rw [List.length_append]; omega)]
  · have tk:(t.drop q).take (q+(w++x).length+1 - q)=w++(x++[10]):=by
      rw [show q+(w++x).length+1 - q=(w++(x++[10])).length by simp only [List.length_append,List.length_cons,List.length_nil]; omega,hd]
      have:(w++x)++10::r=(w++(x++[10]))++r:=by simp only [List.append_assoc]; rfl
      rw [this,List.take_left' rfl]
    rw [tk,← List.append_assoc]
    exact K
theorem RM.last {nl r:List Nat} (M:RM N k t stop ind p q l0 c0 s) (hb:t.length < big) (hs:stop=s.T.length) (hnl:isNl nl=true) (hr:t.drop s.T.length=nl++r) (hc:s.cur.length≤big) (g:X=.ok (.str s.cur) h):RK N (k+4) t stop ind h X p l0 c0:=by
  obtain ⟨w,w1,w2,w3,w4⟩:=M.w
  obtain ⟨n1,n2⟩:=V2 hnl
  have pq:=M.pq
  have hp:=M.hp
  have hst:stop≤t.length:=by
    have:=congrArg List.length hr
    rw [List.length_drop,List.length_append] at this
    have:=O7 hnl
    omega
  have hd:t.drop q=(w++nl0 nl)++10::r:=by
    have e:nl++r=nl0 nl++10::r:=(congrArg (·++r) n1).trans (by rw [List.append_assoc]; rfl)
    rw [w1,hr,e,List.append_assoc]
  have lw:(w++nl0 nl).length=w.length+(nl0 nl).length:=List.length_append
  have tk:(t.drop q).take (stop - q)=w:=by
    rw [show stop - q=w.length by omega,w1,List.take_left' rfl]
  refine RK.row (q:=q) (w:=w++nl0 nl) (r:=r) (v:=q+(w++nl0 nl).length) (b:=stop) hp hb hst M.pi hd (by rw [y6,w3,n2]; rfl) rfl ?_ hp (by omega) ?_
  · rw [if_neg (by omega)]
  · rw [tk,← w4]
    exact RK.done hc g
theorem aH0 (hraw:o.raw=true):pieceS o n s=cond (n==5&&!(o.ahead==[])) (((s.addT (pcX o n)).txt (pcX o n)).ref (shortW o.ahead.length) (rowOf s.T+1)) ((s.addT (pcX o n)).txt (pcX o n)):=by
  unfold pieceS; rw [hraw]; rfl
theorem E7:∀ (ps:List Nat) {s:St} {y:List Nat×Nat},s.R=some y→(pcsS o ps s).R=some y
  | [],s,y,e=>e
  | n::ps,s,y,e=>E7 ps (ax3 (o:=o) (n:=n) e)
theorem ad6 (cx:Cxt N t stop o) (hraw:o.raw=true) (iq:Ind o q b):∀ (ps:List Nat) {s:St} {p q0 l0:Nat} {c0:List Nat},s.R=none→RM N k t stop o.ahead p q0 l0 c0 s→(∀ n∈ps,n < 14)→(pcsS o ps s).T <+: t.take stop →
    ((pcsS o ps s).R=none→∀ p q0 l0 c0,RM N k t stop o.ahead p q0 l0 c0 (pcsS o ps s)→RK N (k+4) t stop o.ahead h X p l0 c0)→Pf X h (pcsS o ps s).R→RK N (k+4) t stop o.ahead h X p l0 c0
  | [],s,p,q0,l0,c0,hR,M,hn,hp,K,F=>K hR p q0 l0 c0 M
  | n::ps,s,p,q0,l0,c0,hR,M,hn,hp,K,F=>by
    have h14:=hn n (.head _)
    have hb:t.length < big:=by have:=cx.b; rw [k7]; omega
    have hp1:s.T++pcX o n <+: t.take stop:=pc_T (o:=o) (s:=s)▸(Q0 ps (s:=pieceS o n s)).trans hp
    have rp:=aH0 (n:=n) (s:=s) hraw
    cases h5:n==5 with
    | false =>
      rw [h5] at rp
      refine ad6 cx hraw iq ps (s:=pieceS o n s) (q0:=q0) (by rw [rp]; exact hR) ?_ (fun a ha=>hn a (.tail _ ha)) hp K F
      rw [rp]
      exact M.add (k9 hp1).1 (av6 cx.lab h14 h5)
    | true =>
      obtain ⟨n1,n2⟩:=V2 cx.nl
      have e5:pcX o n=([123,36,118,32,47,42]++nl0 o.nl++[10])++[42,47,125]:=by
        rw [beq_iff_eq.mp h5]
        show [123,36,118,32,47,42]++o.nl++[42,47,125]=_
        rw [List.append_assoc [123,36,118,32,47,42] (nl0 o.nl),← n1]
      generalize hA:[123,36,118,32,47,42]++nl0 o.nl=A at e5
      have cA:A.contains 10=false:=by rw [← hA,y6,n2]; rfl
      rw [e5] at hp1
      have hp2:s.T++(A++[10]) <+: t.take stop:=(List.prefix_append _ [42,47,125]).trans (by rw [List.append_assoc]; exact hp1)
      have hp3:(s.T++(A++[10]))++[42,47,125] <+: t.take stop:=by rw [List.append_assoc]; exact hp1
      obtain ⟨r,hr⟩:=n8 (k9 hp3).1
      have hl:=(k9 hp3).2
      rw [List.length_append] at hl
      have hl:(s.T++(A++[10])).length+3≤stop:=hl
      have as:s.T++(A++[10]++[42,47,125])=s.T++(A++[10])++[42,47,125]:=(List.append_assoc ..).symm
      have rA:rowOf (s.T++(A++[10]))=rowOf s.T+1:=by rw [x8,List.count_append,H2 cA]; rfl
      refine M.next hb (Nat.le_of_lt cx.st) hp2 cA ?_
      cases na:o.ahead==[] with
      | true =>
        have na:=beq_iff_eq.mp na
        rw [h5,na] at rp
        have q0':q=0:=by have:=congrArg List.length iq.a; rw [na,List.length_replicate] at this; exact this.symm
        refine ad6 cx hraw iq ps (s:=pieceS o n s) (p:=(s.T++(A++[10])).length) (q0:=(s.T++(A++[10])).length) (by rw [rp]; exact hR) ?_ (fun a ha=>hn a (.tail _ ha)) hp K F
        rw [rp,e5]
        refine ⟨fun h=>?_,by omega,Nat.le_refl _,⟨[42,47,125],?_,?_,rfl,?_⟩,?_⟩
        · rw [iq.a]
          exact C1 (k:=k+4) (d:=0) iq.b iq.q (r:=t.drop (s.T++(A++[10])).length) rfl (Nat.zero_le _) (by omega) (.inl q0'.symm)
        · show t.drop (s.T++(A++[10])).length=[42,47,125]++t.drop (s.T++(A++[10]++[42,47,125])).length
          rw [as,List.length_append (bs:=[42,47,125]),← List.drop_drop,hr]; rfl
        · show _=(s.T++(A++[10]++[42,47,125])).length
          simp only [List.length_append,List.length_cons,List.length_nil]; omega
        · show s.cur++(A++[10]++[42,47,125])=s.cur++(A++[10])++[42,47,125]
          simp only [List.append_assoc]
        · show rowOf _=rowOf (s.T++(A++[10]++[42,47,125]))
          rw [as,x8 (s.T++(A++[10]))]; rfl
      | false =>
        rw [h5,na] at rp
        have q1:0 < q:=by
          rcases Nat.eq_zero_or_pos q with z | z
          · have:=iq.a; rw [z] at this; rw [this] at na; cases na
          · exact z
        refine RK.bad (v:=shortW q) (m:=(rowOf s.T+1:Nat)) (by omega) (fun h=>?_) (F (shortW q) (rowOf s.T+1) ?_)
        · rw [iq.a,rA]
          exact F2 (k:=k+4) (d:=0) iq.b iq.q hr q1 (by omega) rfl rfl
        · refine E7 (o:=o) ps (s:=pieceS o n s) ?_
          rw [rp]
          show some (s.R.getD (shortW o.ahead.length,rowOf s.T+1))=_
          have ql:o.ahead.length=q:=by rw [iq.a,List.length_replicate]
          rw [hR,ql]; rfl
end
end Mine
end
section
set_option genInjectivity false
set_option genSizeOf false
namespace Mine
open P1
section
variable {N k:Nat} {t:List Nat} {stop:Nat} {h:H} {X:R V} {o:So} {s:St} {q b m:Nat}
theorem aH6 (hl:o.lab∈labs) {ps:List Nat} (hps:ps≠[]) (hn:∀ n∈ps,n < 14):∃ c w,(s.T++c::w <+: (pcsS o ps s).T)∧isBl c=false:=by
  cases ps with
  | nil=>exact absurd rfl hps
  | cons n ps =>
    obtain ⟨c,w,e1,e2⟩:=ae3 hl (hn n (.head _))
    refine ⟨c,w,?_,e2⟩
    rw [← e1,← pc_T]
    exact Q0 (o:=o) ps (s:=pieceS o n s)
theorem aY5 {r:Rw} (hr:RwOk o r) (hb:isBlank r.k=false):r.ps≠[]:=by
  have he:=hr.e
  rw [hb] at he
  intro z
  rw [z] at he; cases he
theorem av0 (cx:Cxt N t stop o) (hraw:o.raw=true) (iq:Ind o q b) {r:Rw} (hr:RwOk o r) (hp:(midS o r s).T <+: t.take stop) (hq:(midS o r s).T++o.nl <+: t) (hlt:s.T.length < stop)
    (K:(midS o r s).R=none→∀ p q0 l0 c0,RM N k t stop o.ahead p q0 l0 c0 (midS o r s)→RK N (k+4) t stop o.ahead h X p l0 c0) (F:Pf X h (midS o r s).R):ORR N k t stop o.ahead h X s:=by
  have ql:o.ahead.length=q:=by rw [iq.a,List.length_replicate]
  refine ⟨fun hR=>?_,fun w n e=>F w n (E7 (o:=o) r.ps (W0 (k:=r.k) e))⟩
  have ne:isBlank r.k=false→∃ c w,(preS o r.k s).T++c::w <+: t.take stop∧isBl c=false:=fun hb=>by
    obtain ⟨c,w,h1,h2⟩:=aH6 (s:=preS o r.k s) cx.lab (aY5 hr hb) hr.p
    exact ⟨c,w,h1.trans hp,h2⟩
  have go:(preS o r.k s).R=none→∀ {q0:Nat},RM N k t stop o.ahead s.T.length q0 (rowOf s.T) s.cur (preS o r.k s)→RK N (k+4) t stop o.ahead h X s.T.length (rowOf s.T) s.cur:=fun hR {q0} M=>ad6 cx hraw iq r.ps hR M hr.p hp K F
  cases hk:r.k with
  | blank d =>
    have hps:r.ps=[]:=by
      have he:=hr.e
      rw [hk] at he
      exact List.isEmpty_iff.mp he
    have hm2:midS o r s=s.addT (o.ahead.take d):=by unfold midS; rw [hk,hps]; rfl
    have hq2:=hq
    rw [hm2] at hq2
    obtain ⟨r2,hr2⟩:=n8 (show s.T++(o.ahead.take d++o.nl) <+: t by rw [← List.append_assoc]; exact hq2)
    have hl:=(k9 hp).2
    have tk:o.ahead.take d=List.replicate (min d q) b:=by rw [iq.a,List.take_replicate]
    have ll:(s.T++o.ahead.take d).length=s.T.length+min d q:=by rw [List.length_append,tk,List.length_replicate]
    rw [hm2,show (s.addT (o.ahead.take d)).T.length=(s.T++o.ahead.take d).length from rfl,ll] at hl
    rw [tk,List.append_assoc] at hr2
    rw [hk] at go
    refine go hR (q0:=s.T.length+min d q) ⟨fun h=>?_,hlt,Nat.le_add_right _ _,⟨[],?_,?_,rfl,?_⟩,?_⟩
    · rw [iq.a]
      exact C1 (k:=k+4) iq.b iq.q hr2 (Nat.min_le_right _ _) hl (.inr (.inr (aI0 cx.nl)))
    · show _=t.drop (s.T++o.ahead.take d).length
      rw [ll]
    · show _=(s.T++o.ahead.take d).length
      rw [ll]; rfl
    · show s.cur=s.cur++[]
      rw [List.append_nil]
    · show _=rowOf (s.T++o.ahead.take d)
      rw [tk,B0 (C2 iq.b _)]
  | full e =>
    have hp1:(preS o r.k s).T <+: t.take stop:=(aw5 r).trans hp
    rw [hk] at hp1 go
    have hp1:s.T++(o.ahead++sp e) <+: t.take stop:=hp1
    rw [← List.append_assoc] at hp1
    obtain ⟨r2,hr2⟩:=n8 ((List.prefix_append (s.T++o.ahead) (sp e)).trans (k9 hp1).1)
    obtain ⟨r3,hr3⟩:=n8 (k9 hp1).1
    have hl:=(k9 ((List.prefix_append (s.T++o.ahead) (sp e)).trans hp1)).2
    rw [List.length_append,ql] at hl
    rw [iq.a] at hr2
    have se:(sp e).contains 10=false:=by cases e <;> rfl
    have ls:(s.T++o.ahead).length=s.T.length+q:=by rw [List.length_append,ql]
    refine go hR (q0:=s.T.length+q) ⟨fun h=>?_,hlt,Nat.le_add_right _ _,⟨sp e,?_,?_,se,rfl⟩,?_⟩
    · rw [iq.a]
      exact C1 (k:=k+4) iq.b iq.q hr2 (Nat.le_refl q) hl (.inl rfl)
    · show _=sp e++t.drop (s.T++(o.ahead++sp e)).length
      rw [← List.append_assoc,List.length_append (bs:=sp e),y0 hr3,← ls,hr3]
    · show _=(s.T++(o.ahead++sp e)).length
      rw [List.length_append,List.length_append,ql,Nat.add_assoc]
    · show _=rowOf (s.T++(o.ahead++sp e))
      rw [B0 (by rw [List.count_append,iq.a,C2 iq.b,H2 se])]
  | short =>
    obtain ⟨c,w,hc,hcb⟩:=ne (by rw [hk]; rfl)
    rw [hk] at hc
    have hc:(s.T++o.ahead.drop 1)++c::w <+: t.take stop:=hc
    have hl:=(k9 hc).2
    rw [List.append_assoc] at hc
    obtain ⟨r2,hr2⟩:=n8 (k9 hc).1
    have na:(o.ahead==[])=false:=hr.a (by rw [hk]; rfl)
    have q0:0 < q:=by
      cases z:o.ahead with
      | nil=>rw [z] at na; cases na
      | cons=>rw [← ql,z]; exact Nat.succ_pos _
    have dr:o.ahead.drop 1=List.replicate (q - 1) b:=by rw [iq.a,List.drop_replicate]
    rw [dr] at hr2 hl
    rw [List.length_append,List.length_append,List.length_replicate,List.length_cons] at hl
    rw [List.append_assoc] at hr2
    obtain ⟨n1,n2⟩:=aI1 (r:=w++r2) hcb
    refine RK.bad (v:=shortW q) (m:=(rowOf s.T:Nat)) hlt (fun h=>?_) (F (shortW q) (rowOf s.T) (E7 (o:=o) r.ps ?_))
    · rw [iq.a]
      exact F2 (k:=k+4) iq.b iq.q hr2 (by omega) (by omega) n2 n1
    · rw [hk]
      show some (s.R.getD (shortW o.ahead.length,rowOf s.T))=_
      rw [hR,ql]; rfl
  | mixed =>
    obtain ⟨c,w,hc,hcb⟩:=ne (by rw [hk]; rfl)
    rw [hk] at hc
    have hc:(s.T++(oth o.ahead++o.ahead.drop 1))++c::w <+: t.take stop:=hc
    rw [List.append_assoc] at hc
    obtain ⟨r2,hr2⟩:=n8 (k9 hc).1
    have na:(o.ahead==[])=false:=hr.a (by rw [hk]; rfl)
    have q0:0 < q:=by
      cases z:o.ahead with
      | nil=>rw [z] at na; cases na
      | cons=>rw [← ql,z]; exact Nat.succ_pos _
    obtain ⟨n,rfl⟩:∃ n,q=n+1:=⟨q - 1,by omega⟩
    obtain ⟨c2,hc2,hc3,hc4⟩:∃ c2,oth o.ahead=[c2]∧isB c2=true∧([c2]==[b])=false:=by
      rw [iq.a]
      rcases az0 iq.b with rfl | rfl
      · exact ⟨9,rfl,rfl,rfl⟩
      · exact ⟨32,rfl,rfl,rfl⟩
    rw [hc2] at hr2
    refine RK.bad (v:=s2) (m:=(rowOf s.T:Nat)) hlt (fun h=>?_) (F s2 (rowOf s.T) (E7 (o:=o) r.ps ?_))
    · rw [iq.a]
      exact L0 (k:=k+4) (r:=o.ahead.drop 1++c::w++r2) iq.q q0 (by rw [hr2]; rfl) hlt hc3 hc4
    · rw [hk]
      show some (s.R.getD (s2,rowOf s.T))=_
      rw [hR]; rfl
theorem aj2 (cx:Cxt N t stop o) (hraw:o.raw=true) (iq:Ind o q b):∀ (rs:List Rw) {r:Rw} {s:St},(∀ x∈r::rs,RwOk o x)→(rowsX o r rs s).T <+: t.take stop→(rowsX o r rs s).T++o.nl <+: t→stop=(rowsX o r rs s).T.length→(rowsX o r rs s).cur.length≤big →
    ((rowsX o r rs s).R=none→X=.ok (.str (rowsX o r rs s).cur) h)→Pf X h (rowsX o r rs s).R→ORR N k t stop o.ahead h X s
  | [],r,s,hr,hp,hq,hs,hc,K,F=>by
    have hb:t.length < big:=by have:=cx.b; rw [k7]; omega
    obtain ⟨r3,hr3⟩:=n8 hq
    rcases Nat.lt_or_ge s.T.length stop with hlt | hge
    · exact av0 cx hraw iq (hr r (.head _)) hp hq hlt (fun hR p q0 l0 c0 M=>M.last hb hs cx.nl hr3 hc (K hR)) F
    · have hk:isBlank r.k=true:=by
        cases z:isBlank r.k with
        | true=>rfl
        | false =>
          obtain ⟨c,w,h1,_⟩:=aH6 (s:=preS o r.k s) cx.lab (aY5 (hr r (.head _)) z) (hr r (.head _)).p
          have h1:=h1.length_le
          have h2:s.T.length≤(preS o r.k s).T.length:=by rw [aa7,List.length_append]; omega
          have hs:stop=(pcsS o r.ps (preS o r.k s)).T.length:=hs
          rw [List.length_append,List.length_cons] at h1
          omega
      have hps:r.ps=[]:=by
        have he:=(hr r (.head _)).e
        rw [hk] at he
        exact List.isEmpty_iff.mp he
      have hcur:(rowsX o r [] s).cur=s.cur∧(rowsX o r [] s).R=s.R:=by
        show (midS o r s).cur=s.cur∧(midS o r s).R=s.R
        unfold midS
        rw [hps]
        cases hkk:r.k with
        | blank d=>exact ⟨rfl,rfl⟩
        | short=>rw [hkk] at hk; cases hk
        | mixed=>rw [hkk] at hk; cases hk
        | full e=>rw [hkk] at hk; cases hk
      have hl:s.T.length=stop:=by
        have:=(H3 (o:=o) (s:=s) r).length_le
        have hs:stop=(midS o r s).T.length:=hs
        omega
      rw [hcur.1] at K hc
      rw [hcur.2] at K F
      refine ⟨fun hR=>?_,F⟩
      rw [hl]
      exact RK.done hc (K hR)
  | r2::rs,r,s,hr,hp,hq,hs,hc,K,F=>by
    have hb:t.length < big:=by have:=cx.b; rw [k7]; omega
    obtain ⟨n1,n2⟩:=V2 cx.nl
    have h1:(midS o r s).T++o.nl <+: t.take stop:=((H3 (s:=nlS o (midS o r s)) r2).trans (I1 rs r2)).trans hp
    have IH:=aj2 cx hraw iq rs (r:=r2) (s:=nlS o (midS o r s)) (fun a ha=>hr a (.tail _ ha)) hp hq hs hc K F
    have hl:=(k9 h1).2
    rw [List.length_append] at hl
    have:=O7 cx.nl
    have:=(H3 (o:=o) (s:=s) r).length_le
    refine av0 cx hraw iq (hr r (.head _)) ((List.prefix_append _ _).trans h1) (k9 h1).1 (by omega) (fun hR p q0 l0 c0 M=>?_) IH.f
    have L:=IH.l hR
    have L:RK N (k+4) t stop o.ahead h X ((midS o r s).T++o.nl).length (rowOf ((midS o r s).T++o.nl)) ((midS o r s).cur++o.nl):=L
    rw [n1] at L h1
    exact M.next hb (Nat.le_of_lt cx.st) h1 n2 L
theorem aR7 (cx:Cxt N t stop o) (hraw:o.raw=true) (iq:Ind o q b) {rs:List Rw} (hr:∀ r∈rs,RwOk o r) (hR:s.R=none) (h2:s.cur=[]) (hs:stop=(bdF o rs s).T.length) (hF:(bdF o rs s).T <+: t) (hq:rs≠[]→(bdF o rs s).T++o.nl <+: t) (hc:(bdF o rs s).cur.length≤big) :
    sem tab N (k+8) 37 [.str t,.int s.T.length,.int stop,.str o.ahead,.int (rowOf s.T)] h=ans (bdF o rs s).R (.str (bdF o rs s).cur) h:=by
  have hN:=cx.n
  have hst:=cx.st
  refine aQ6 (k:=k+4) (by omega) ?_
  have hu:(bdF o rs s).T <+: t.take stop:=by rw [hs,List.prefix_take_iff]; exact ⟨hF,Nat.le_refl _⟩
  rw [← h2]
  cases rs with
  | nil =>
    have hs:stop=s.T.length:=hs
    rw [← hs]
    refine RK.done hc ?_
    show ans s.R _ h=_
    rw [hR]; rfl
  | cons r rs=>exact (aj2 cx hraw iq rs hr hu (hq (by simp)) hs hc (fun z=>by show ans (rowsX o r rs s).R _ h=_; rw [z]; rfl) (fun w n z=>by show ans (rowsX o r rs s).R _ h=_; rw [z]; rfl)).l hR
end
end Mine
end
section
set_option genInjectivity false
set_option genSizeOf false
namespace Mine
open P1
theorem bd1 {a:List Nat} (h:a∈ahs) (hm:(a==[32,9])=false):∃ q b,a=List.replicate q b∧isB b=true∧q < 1000:=by
  simp only [ahs,List.mem_cons,List.not_mem_nil,or_false] at h
  rcases h with rfl | rfl | rfl | rfl | rfl | rfl | rfl
  · exact ⟨2,32,rfl,rfl,by decide⟩
  · exact ⟨1,9,rfl,rfl,by decide⟩
  · exact ⟨0,32,rfl,rfl,by decide⟩
  · exact ⟨4,32,rfl,rfl,by decide⟩
  · exact ⟨2,9,rfl,rfl,by decide⟩
  · cases hm
  · exact ⟨3,32,rfl,rfl,by decide⟩
theorem al4 {o:So} {r:Rw} {s:St} {y:List Nat×Nat} (e:s.R=some y):(midS o r s).R=some y:=E7 (o:=o) r.ps (W0 (k:=r.k) e)
theorem V9 {o:So}:∀ (rs:List Rw) {r:Rw} {s:St} {y:List Nat×Nat},s.R=some y→(rowsX o r rs s).R=some y
  | [],r,s,y,e=>al4 e
  | r2::rs,r,s,y,e=>V9 rs (s:=nlS o (midS o r s)) (al4 (r:=r) e)
theorem aq8 {o:So} {rs:List Rw} {s:St} {y:List Nat×Nat} (e:s.R=some y):(bdF o rs s).R=some y:=by
  cases rs with
  | nil=>exact e
  | cons r rs=>exact V9 rs e
theorem H6 (o:So) (rs:List Rw) (s:St):bodyS o rs s={ bdF o rs s with T:=(bodyS o rs s).T }:=by cases rs <;> rfl
section
variable {d:Hd} {T:List Nat} {R:Ref}
theorem s1_R:(d.s1 T R).R=(bdF d.o d.rs (d.s0 T R)).R:=by
  show (bodyS d.o d.rs (d.s0 T R)).R=_
  rw [H6]
theorem aG6:(d.s1 T R).parts=(bdF d.o d.rs (d.s0 T R)).parts:=by
  show (bodyS d.o d.rs (d.s0 T R)).parts=_
  rw [H6]; rfl
theorem s1_T:(d.s1 T R).T=(bodyS d.o d.rs (d.s0 T R)).T++(d.ahead++(d.lab++cond d.ends [] [122])):=rfl
theorem aU5 {y:List Nat×Nat} (e:R=some y):(d.s1 T R).R=some y:=by
  rw [s1_R]
  refine aq8 ?_
  subst e
  show hdR d (some y) _=_
  unfold hdR
  cases d.ends with
  | false=>rfl
  | true=>cases (d.ahead==[32,9]) <;> rfl
theorem T8 {o:So} (hraw:o.raw=true):∀ (ps:List Nat) {s:St},(pcsS o ps s).ps=s.ps
  | [],s=>rfl
  | n::ps,s=>by
    refine (T8 hraw ps (s:=pieceS o n s)).trans ?_
    rw [aH0 hraw]
    cases (n==5&&!(o.ahead==[])) <;> rfl
theorem T9 {o:So} (hraw:o.raw=true) (r:Rw) {s:St}:(midS o r s).ps=s.ps:=by
  refine (T8 hraw r.ps).trans ?_
  cases r.k <;> rfl
theorem P8 {o:So} (hraw:o.raw=true):∀ (rs:List Rw) {r:Rw} {s:St},(rowsX o r rs s).ps=s.ps
  | [],r,s=>T9 hraw r
  | r2::rs,r,s=>(P8 hraw rs (r:=r2) (s:=nlS o (midS o r s))).trans (T9 hraw r)
theorem aH1 {o:So} (hraw:o.raw=true) (rs:List Rw) {s:St}:(bdF o rs s).ps=s.ps:=by
  cases rs with
  | nil=>rfl
  | cons r rs=>exact P8 hraw rs
theorem bc4 (cur:List Nat) (n:Nat):mkTk (txP cur) n=.str cur n:=by
  cases cur <;> rfl
theorem Good.F {o:So} {rs:List Rw} {s:St} {m:Nat} (ho:o.Ok) (g:Good s m) (hr:∀ r∈rs,RwOk o r) (hl:rs.length≤4):Good (bdF o rs s) (m+344):=by
  cases rs with
  | nil=>exact g.mono (by omega)
  | cons r rs=>rw [List.length_cons] at hl; exact (Good.rowsX ho rs g hr).mono (by omega)
theorem aL1 (ok:HdOk d):d.hT.count 10=1:=by
  have h1:d.lab.count 10=0:=H2 (al3 ok.lab)
  have h2:d.bl.count 10=0:=(show ∀ l∈([[],[32,9]]:List (List Nat)),l.count 10=0 by decide) _ ok.bl
  have h3:d.q.count 10=0:=q_is (P:=fun q=>q.count 10=0) rfl rfl rfl ok.q
  have h4:d.nl.count 10=1:=E4 (P:=fun q=>q.count 10=1) rfl rfl ok.nl
  unfold Hd.hT
  simp only [List.count_append,h1,h2,h3,h4]; rfl
end
section
variable {N k:Nat} {t:List Nat} {h:H} {d:Hd} {T z:List Nat}
theorem bg6 (R:Ref) (l:List V):Is fun h=>ans R (.tup l) h:=by
  cases R with
  | none=>exact .inl ⟨l,rfl⟩
  | some y=>exact .inr ⟨y.1,y.2,rfl⟩
theorem aK9 (ok:HdOk d) (hN:t.length+10 < N) (hb:t.length < 9000) (hTb:T.length < 5000) (ht:t=(d.s1 T none).T++z) (hz:d.ends=true→stopB isNg z=true) (hz2:d.ends=false→z=[]) :
    sem tab N (k+11) 46 [.str t,.int T.length,.int (rowOf T)] h=ans (d.s1 T none).R (.tup [tkL (mkTk (d.s1 T none).parts (rowOf T)),.int (d.s1 T none).T.length]) h:=by
  have hl:=ax2
  have lb:labB d.lab=true:=List.all_eq_true.mp ax2 _ ok.lab
  have bl:d.bl.all isB=true:=(show ∀ l∈([[],[32,9]]:List (List Nat)),l.all isB=true by decide) _ ok.bl
  have hp0:(d.s0 T none).T <+: (bodyS d.o d.rs (d.s0 T none)).T:=as8 d.rs
  have hpS:(bodyS d.o d.rs (d.s0 T none)).T <+: t:=by
    rw [ht,s1_T,List.append_assoc]; exact List.prefix_append _ _
  obtain ⟨r0,hr0⟩:=n8 (show T++d.hT <+: t from hp0.trans hpS)
  have hd:t.drop T.length=60::60::60::(d.bl++(d.q++(d.lab++(d.q++(d.nl++r0))))):=by
    rw [hr0]; unfold Hd.hT; simp only [List.append_assoc]; rfl
  have e1:∀ h,sem tab N (k+9) 34 [.str t,.int T.length] h=.ok (.tup [.str d.lab,.bool (d.q==[39]),.int (d.s0 T none).T.length]) h:=fun h=>by
    rw [aG0 (k:=k+5) hd bl ok.q lb ok.nl (by omega)]
    have:(d.s0 T none).T.length=T.length+3+d.bl.length+d.q.length+d.lab.length+d.q.length+d.nl.length:=by
      show (T++d.hT).length=_
      unfold Hd.hT
      simp only [List.length_append,Nat.add_assoc]; rfl
    rw [this]
  refine rt_is (bg6 _ _) hd e1 fun h=>?_
  rw [s1_R,aG6]
  have E:He N t d.o d.rs (d.s0 T none) (cond d.ends [] [122]++z):=⟨ok.lab,ok.nl,ok.ah,ok.rs,hN,hb,by
    rw [ht,s1_T]
    show _=(bodyS d.o d.rs (d.s0 T none)).T++(d.ahead++(d.lab++_))
    simp only [List.append_assoc]⟩
  cases he:d.ends with
  | false =>
    rw [he] at E
    have hR:(bdF d.o d.rs (d.s0 T none)).R=some (s6,rowOf T):=aq8 (by show hdR d none _=_; unfold hdR; rw [he]; rfl)
    rw [hR]
    exact aY1 (m:=(rowOf T:Nat)) fun h=>E.pf6 (k:=k+5) (by rw [hz2 he]; rfl)
  | true =>
    rw [he] at E
    have hz:=hz he
    cases hm:d.ahead==[32,9] with
    | true =>
      have hR:(bdF d.o d.rs (d.s0 T none)).R=some (s2,rowOf T):=aq8 (by show hdR d none _=_; unfold hdR; rw [he,hm]; rfl)
      rw [hR]
      exact aY1 (m:=(rowOf T:Nat)) fun h=>E.pf2 (k:=k+5) hz hm
    | false =>
      have hR0:(d.s0 T none).R=none:=by show hdR d none _=_; unfold hdR; rw [he,hm]; rfl
      obtain ⟨q,b,i1,i2,i3⟩:=bd1 ok.ah hm
      have iq:Ind d.o q b:=⟨i1,i2,i3⟩
      have g:=(ad4 (R:=none) ok (Nat.le_refl T.length))
      have gF:=g.F ok.o ok.rs ok.rl
      have bg:=k7
      have hrow:((rowOf T+1:Nat):Int)=(rowOf (d.s0 T none).T:Nat):=by
        show _=((rowOf (T++d.hT):Nat):Int)
        rw [x8,aL1 ok]
      have eo:=fun h=>E.ok (k:=k+5) (l:=(rowOf T:Nat)) (h:=h) hz hm
      have hFS:=aZ1 d.o d.rs (d.s0 T none)
      have hF:(bdF d.o d.rs (d.s0 T none)).T <+: t:=by
        rw [hFS] at hpS
        exact (List.prefix_append _ _).trans hpS
      have hq:d.rs≠[]→(bdF d.o d.rs (d.s0 T none)).T++d.o.nl <+: t:=fun hne=>by
        have:d.rs.isEmpty=false:=by cases hz:d.rs with | nil=>exact absurd hz hne | cons=>rfl
        rw [this] at hFS
        rw [hFS] at hpS
        exact hpS
      have st:(bdF d.o d.rs (d.s0 T none)).T.length < t.length:=by
        have h1:=congrArg List.length E.t
        have h2:=congrArg List.length hFS
        have h3:0 < d.lab.length:=(show ∀ l∈labs,0 < l.length by decide) _ ok.lab
        rw [List.length_append,List.length_append,List.length_append] at h1
        rw [List.length_append] at h2
        have h3:0 < d.o.lab.length:=h3
        omega
      have cx:Cxt N t (bdF d.o d.rs (d.s0 T none)).T.length d.o:=⟨hN,hb,st,ok.lab,ok.nl,G5 ok.ah⟩
      have hS:(bodyS d.o d.rs (d.s0 T none)).T.length+d.o.ahead.length+d.o.lab.length=(d.s1 T none).T.length:=by
        rw [s1_T,he]
        show _=(_++(d.ahead++(d.lab++[]))).length
        rw [List.append_nil,List.length_append,List.length_append,Nat.add_assoc]; rfl
      rw [hS] at eo
      cases hraw:d.q==[39] with
      | true =>
        have rl:=fun h=>aR7 (N:=N) (k:=k) (t:=t) (h:=h) (o:=d.o) (s:=d.s0 T none) cx hraw iq ok.rs hR0 rfl rfl hF hq (by have:=gF.c; omega)
        have hpp:(bdF d.o d.rs (d.s0 T none)).parts=txP (bdF d.o d.rs (d.s0 T none)).cur:=by
          unfold St.parts
          rw [aH1 hraw]; rfl
        rw [hpp,bc4]
        rw [← hrow] at rl
        cases hR:(bdF d.o d.rs (d.s0 T none)).R with
        | none =>
          rw [hR] at rl
          exact bb0 eo rl
        | some y =>
          rw [hR] at rl
          exact aA5 eo rl
      | false =>
        have bl:=fun h=>aO1 (N:=N) (k:=k) (t:=t) (h:=h) (o:=d.o) (s:=d.s0 T none) cx hraw iq g (by omega) ok.rs ok.rl hR0 rfl rfl rfl hF hq
        rw [← hrow] at bl
        cases hR:(bdF d.o d.rs (d.s0 T none)).R with
        | none =>
          rw [hR] at bl
          exact rh_tm eo bl
        | some y =>
          rw [hR] at bl
          exact aG9 eo bl
end
end Mine
end
section
set_option genInjectivity false
set_option genSizeOf false
namespace Mine
open P1
section
variable (N k:Nat) (t:List Nat) (h:H) (X:R V)
structure Tr (T:List Nat) (R:Ref) (ts:List Tk):Prop where
  l:R=none→TK N k t h X T.length (rowOf T) ts
  f:Pf X h R
end
noncomputable def ends4:List Nat:=[44,59,41,46]
section
variable {N k:Nat} {t:List Nat} {h:H} {X:R V} {T z:List Nat} {R:Ref} {ts:List Tk} {d:Hd} {m c:Nat}
theorem aG7:∃ w,(d.s1 T R).T=T++(d.hT++w):=by
  obtain ⟨w,hw⟩:=as8 (o:=d.o) (s:=d.s0 T R) d.rs
  refine ⟨w++d.lT,?_⟩
  show (bodyS d.o d.rs (d.s0 T R)).T++d.lT=_
  rw [← hw]
  show T++d.hT++w++d.lT=_
  simp only [List.append_assoc]
theorem F4 (ok:HdOk d) (hT:T.length≤m):Good (d.s1 T R) (m+400):=by
  have gF:=(ad4 (R:=R) ok hT).F ok.o ok.rs ok.rl
  have e:=aZ1 d.o d.rs (d.s0 T R)
  have h1:=C0 ok.lab
  have h2:=G5 ok.ah
  have h3:=J0 ok.nl
  have h4:(cond d.ends ([]:List Nat) [122]).length≤1:=by cases d.ends <;> decide
  have h5:(cond d.rs.isEmpty ([]:List Nat) d.o.nl).length≤2:=by cases d.rs.isEmpty with | true=>exact Nat.zero_le _ | false=>exact h3
  refine ⟨?_,?_,?_,?_⟩
  · rw [s1_T,e]
    have:=gF.t
    simp only [List.length_append]; omega
  · show (bodyS d.o d.rs (d.s0 T R)).cur.length≤_
    rw [H6]; have:=gF.c; show (bdF d.o d.rs (d.s0 T R)).cur.length≤_; omega
  · show (bodyS d.o d.rs (d.s0 T R)).ps.length≤_
    rw [H6]; have:=gF.p; show (bdF d.o d.rs (d.s0 T R)).ps.length≤_; omega
  · show (bodyS d.o d.rs (d.s0 T R)).ps.getLast?.elim false isT=false
    rw [H6]; exact gF.l
theorem Tr.hd (ok:HdOk d) (hN:t.length+10 < N) (hb:t.length < 9000) (hTb:T.length < 5000) (ht:t=(d.s1 T R).T++z) (hz:d.ends=true→stopB isNg z=true) (hz2:d.ends=false→z=[]) (hts:ts.length < 1000)
    (K:Tr N k t h X (d.s1 T R).T (d.s1 T R).R (ts++[mkTk (d.s1 T R).parts (rowOf T)])):Tr N k t h X T R ts:=by
  refine ⟨fun hR=>?_,fun w n e=>K.f w n (aU5 e)⟩
  subst hR
  have bg:=k7
  obtain ⟨w,hw⟩:=aG7 (d:=d) (T:=T) (R:=none)
  have hr:t.drop T.length=d.hT++w++z:=by rw [ht,hw,List.append_assoc,List.drop_left' rfl]
  have hr60:∃ r,t.drop T.length=60::r:=⟨_,hr.trans rfl⟩
  obtain ⟨r,hr60⟩:=hr60
  have hg:=(F4 (R:=none) ok (Nat.le_refl T.length)).t
  have hl:(d.s1 T none).T.length=T.length+(d.hT++w).length:=by rw [hw,List.length_append]
  have h0:0 < (d.hT++w).length:=by unfold Hd.hT; simp only [List.length_append,List.length_cons]; omega
  have gap:∀ h,sem tab N (k+11) 39 [.str t,.int T.length,.int (rowOf T)] h=.ok (.int T.length) h:=fun h=>L3 (k:=k+9) hr60 rfl rfl rfl (by omega)
  have tk:=fun h=>aK9 (N:=N) (k:=k) (h:=h) ok hN hb hTb ht hz hz2
  cases hS:(d.s1 T none).R with
  | none =>
    rw [hS] at tk
    refine TK.tok hr60 rfl (by omega) (by omega) gap tk rfl (by omega) ?_
    have:=K.l hS
    rw [hl] at this ⊢
    rw [Nat.add_sub_cancel_left,hr,List.take_left' rfl]
    rw [hw,x8] at this
    exact this
  | some y =>
    rw [hS] at tk
    exact TK.bad hr60 rfl gap tk (K.f y.1 y.2 hS)
theorem aS6 (hc:c∈ends4) (hz:z=[]∨∃ r,z=60::60::60::r):one c z=true∧(z.head?.all (·==60)=true):=by
  simp only [ends4,List.mem_cons,List.not_mem_nil,or_false] at hc
  rcases hz with rfl | ⟨r,rfl⟩
  · refine ⟨?_,rfl⟩
    rcases hc with rfl | rfl | rfl | rfl <;> rfl
  · refine ⟨?_,rfl⟩
    rcases hc with rfl | rfl | rfl | rfl <;> rfl
theorem af6 {c:Nat} (hc:c∈ends4):c∈opS∧isBl c=false∧(c==35)=false∧(c==47)=false∧(c==63)=false∧(c==10)=false∧sgn.contains c=true∧isNg c=false :=
  (show ∀ c∈ends4,c∈opS∧isBl c=false∧(c==35)=false∧(c==47)=false∧(c==63)=false∧(c==10)=false∧sgn.contains c=true∧isNg c=false by decide) c hc
theorem Tr.op (hc:c∈ends4) (hN:t.length+10 < N) (ht:t=(T++[c])++z) (hz:z=[]∨∃ r,z=60::60::60::r) (hts:ts.length < 1000) (K:Tr N k t h X (T++[c]) R (ts++[.op c (rowOf T)])):Tr N k t h X T R ts:=by
  refine ⟨fun hR=>?_,K.f⟩
  have bg:=k7
  have hr:t.drop T.length=c::z:=by rw [ht,List.append_assoc,List.drop_left' rfl]; rfl
  obtain ⟨a1,a2,a3,a4,a5,a6,_⟩:=af6 hc
  obtain ⟨b1,b2⟩:=aS6 hc hz
  refine TK.tok (x:=.op c (rowOf T)) hr a5 (Nat.lt_succ_self _) (by omega) (fun h=>L3 (k:=k+9) hr a2 a3 a4 (by omega)) (fun h=>K8 (k:=k+7) hr a1 b1 fun _=>b2) rfl (by omega) ?_
  have:=K.l hR
  rw [List.length_append,x8] at this
  have e:((t.drop T.length).take (T.length+1 - T.length)).count 10=[c].count 10:=by rw [Nat.add_sub_cancel_left,hr]; rfl
  rw [e]
  exact this
theorem Tr.end (ht:t.length≤T.length) (hts:ts.length < 1000):Tr N k t h (ans R (.lst ((ts++[Tk.fin (rowOf T)]).map tkL)) h) T R ts:=by
  have bg:=k7
  exact ⟨fun hR=>TK.done ht (by omega) (by rw [hR]; rfl),fun w n e=>by rw [e]; rfl⟩
noncomputable def T0 (m:Nat):List Nat:=[60,63,112,104,112,10]++List.replicate m 10
theorem Tr.begin (hN:t.length+10 < N) {r:List Nat} (ht:t=T0 m++60::r) (hm:m < 3) (K:Tr N k t h X (T0 m) none []):sem tab N (k+12) 48 [.str t] h=X:=by
  refine ao5 (r:=List.replicate m 10++60::r) (by rw [ht]; unfold T0; rw [List.append_assoc]; rfl) (by omega) ?_
  have g:=K.l rfl
  have l0:(T0 m).length=6+m:=by unfold T0; rw [List.length_append,List.length_replicate]; rfl
  have r0:rowOf (T0 m)=2+m:=by unfold T0; rw [x8,List.count_replicate_self]; rfl
  rw [l0,r0] at g
  have d6:t.drop 6=List.replicate m 10++60::r:=by rw [ht]; unfold T0; rw [List.append_assoc]; rfl
  rcases Nat.eq_zero_or_pos m with rfl | h0
  · exact g
  obtain ⟨n,rfl⟩:=x9 h0
  have lt:=(i6 (show t.drop 6=10::(List.replicate n 10++60::r) from d6)).2.1
  refine TK.gap (q:=6+(n+1)) (d:=n+1) lt (Nat.lt_add_of_pos_right h0) (fun h=>?_) ?_ (by rw [Nat.add_sub_cancel_left]; exact Nat.lt_trans hm (by decide)) g
  · have:=au6 (N:=N) (k:=k+9) (h:=h) (l:=(2:Nat)) (w:=List.replicate (n+1) 10) d6 (by rw [List.all_replicate]; rfl) rfl rfl rfl (aq6 d6 (Nat.lt_of_le_of_lt (Nat.le_add_right _ _) hN))
    rw [List.length_replicate] at this
    exact this
  · rw [Nat.add_sub_cancel_left,d6,List.take_left' (List.length_replicate ..),List.count_replicate_self]
end
end Mine
end
section
set_option genInjectivity false
set_option genSizeOf false
namespace Mine
open P1
theorem al7:∀ l:List Int,intsOf (l.map .int)=some l
  | []=>rfl
  | a::r=>by show (intsOf (r.map V.int)).map _=_; rw [al7 r]; rfl
theorem aE7 (h:H) (l:List Int):p1V .sum (.lst (l.map .int)) h=.ok (.int l.sum) h:=by
  refine U5 (p:=.sum) (a:=.lst (l.map .int)) (q:=(.int l.sum,h)) ?_
  show (intsOf (l.map V.int)).map _=_; rw [al7]; rfl
theorem aF0 (f:Int→V) (l:List Int) (j k:Int):stepL (l.map f) j k=(stepL l j k).map f:=by
  unfold stepL
  rw [List.length_map,List.map_filterMap]
  exact congrArg (List.filterMap · _) (funext fun i=>List.getElem?_map)
theorem ba4 (l:List V) (j k:Int) (e:0≤j∧0 < k):slstV (.lst l) (.int j) (.int k)=some (.lst (stepL l j k)):=if_pos e
theorem aQ3 (l:List Int) (j:Nat):slstV (.lst (l.map .int)) (.int j) (.int 2)=some (.lst ((stepL l j 2).map .int)) :=
  (ba4 _ j 2 ⟨Int.natCast_nonneg j,by decide⟩).trans (congrArg (fun x=>some (V.lst x)) (aF0 .int l j 2))
section
variable {C:Calls} {N:Nat} {loc:L} {h h1 h2 h3:H}
theorem bc6 {a b c:ME} {x y z v:V} (e1:mev C a loc h=.ok x h1) (e2:mev C b loc h1=.ok y h2) (e3:mev C c loc h2=.ok z h3) (e4:slstV x y z=some v):mev C (.slst a b c) loc h=.ok v h3:=by
  have:mev C (.slst a b c) loc h=(mev C a loc h).bind fun x h=>(mev C b loc h).bind fun y h=>(mev C c loc h).bind fun z h=>ofO (slstV x y z) h:=rfl
  rw [this,e1,a7,e2,a7,e3,a7,e4]; rfl
end
noncomputable def HB (j:Bool) (T:List Nat) (R q:V) (due x:List V):H:=[]::[.str T,R,q]::due::cond j [x] []
noncomputable def lwL (is:List Int) (v2:Option V) (b:Bool) (c5 c6:Option V):L:=[some (.lst (is.map .int)),some (.ref 1),v2,some (.ref 2),some (.bool b),c5,c6]
noncomputable def lawT (d:Hd) (T:List Nat) (R:Ref) (c:Nat):List Nat:=cond d.ends ((d.s1 T R).T++[c]) (d.s1 T R).T
noncomputable def lawK (d:Hd) (T:List Nat) (R:Ref) (c:Nat) (ts:List Tk):List Tk:=cond d.ends (ts++[mkTk (d.s1 T R).parts (rowOf T)]++[Tk.op c (rowOf (d.s1 T R).T)]) (ts++[mkTk (d.s1 T R).parts (rowOf T)])
theorem aE9 (ts:List Tk):Still (ts.map tkB):=fun H n=>M4 fun v hv=>by
  obtain ⟨x,_,rfl⟩:=List.mem_map.mp hv
  exact aV1 H n 3 x
section
variable {j:Bool} {T:List Nat} {R:Ref} {q:V} {due y:List V} {p:Int} {tl:List (List V)} {N k m:Nat} {is:List Int} {ts:List Tk} {c5 c6 v2:Option V}
theorem at7 {R:V} (v:V) (hl:due.length < big):p2V .append (.ref 2) v (HP j T R q due y p tl)=.ok .none (HP j T R q (due++[v]) y p tl) :=
  (at6 (l:=due) v rfl hl).trans rfl
theorem aU2 {C:Calls} {R:V} {e:ME} {loc:L} (q1:mev C e loc (HB j T R q due y)=.ok (.int p) (HB j T R q due y)):mev C (.cell (.cons e .nil)) loc (HB j T R q due y)=.ok (.ref (pn j)) (HP j T R q due y p []):=by
  rw [af8,b6,q1,a7,b9,a7,a7]
  cases j <;> rfl
theorem al2 (hm:m < 4000) (hT:T.length≤m) (hts:ts.length < 1000) (sy:Still y):∃ d,HdOk d∧∃ c,c∈ends4∧∃ p' q' c5' c6',
    mex (sem tab N (k+4)) N b_60 (lwL is (some (.int (cond j 1 0:Nat))) true c5 c6) (HB j T (rV R) q (ts.map tkB) y)=.ok (.next (lwL is (some (.int (cond j 1 0:Nat))) d.ends c5' c6')) (HP j (lawT d T R c) (rV (d.s1 T R).R) q' ((lawK d T R c ts).map tkB) y p' []):=by
  have bg:=k7
  have pe:=aU2 (C:=sem tab N (k+4)) (j:=j) (T:=T) (q:=q) (due:=ts.map tkB) (y:=y) (R:=rV R) (e:=.p1 .sum (.slst (.var 0) (.var 2) (.int 2))) (loc:=lwL is (some (.int (cond j 1 0:Nat))) true c5 c6) (p:=(stepL is (cond j 1 0:Nat) 2).sum)
    ((m_p1 (bc6 (a:=.var 0) (b:=.var 2) (c:=.int 2) rfl rfl rfl (aQ3 is (cond j 1 0)))).trans (aE7 _ _))
  obtain ⟨d,p',ok,hd⟩:=aD3 (j:=j) (due:=ts.map tkB) (y:=y) (N:=N) (k:=k) (T:=T) (q:=q) (R:=R) (pen:=(stepL is (cond j 1 0:Nat) 2).sum) (m:=m) (by omega) hT (aE9 ts) sy
  generalize hS:d.s1 T R=S at hd
  have hg:Good S (m+400):=hS▸F4 ok hT
  have n0:0≤(is.sum+(cond j 1 0:Nat)) % 4:=Int.emod_nonneg _ (by decide)
  have n4:(is.sum+(cond j 1 0:Nat)) % 4 < 4:=Int.emod_lt_of_pos _ (by decide)
  have ap1:=at7 (j:=j) (T:=S.T) (R:=rV S.R) (q:=.lst (S.parts.map ptB)) (due:=ts.map tkB) (y:=y) (p:=p') (tl:=[]) (tkB (mkTk S.parts (rowOf T))) (by rw [List.length_map]; omega)
  have em:ts.map tkB++[tkB (mkTk S.parts (rowOf T))]=(ts++[mkTk S.parts (rowOf T)]).map tkB:=by rw [List.map_append]; rfl
  rw [em] at ap1
  have unp:mex (sem tab N (k+4)) N (.unpack [5,4] (.call 57 (.cons (.var 1) (.cons (.cell (.cons (.p1 .sum (.slst (.var 0) (.var 2) (.int 2))) .nil)) (.cons (.var 2) .nil))))) (lwL is (some (.int (cond j 1 0:Nat))) true c5 c6) (HB j T (rV R) q (ts.map tkB) y)=.ok (.next (lwL is (some (.int (cond j 1 0:Nat))) d.ends (some (tkB (mkTk S.parts (rowOf T)))) c6)) (HP j S.T (rV S.R) (.lst (S.parts.map ptB)) (ts.map tkB) y p' []):=by
    rw [m9,s8 (a:=.var 1) (c:=.var 2) rfl pe rfl,hd]; rfl
  have app:mex (sem tab N (k+4)) N (.expr (.p2 .append (.var 3) (.var 5))) (lwL is (some (.int (cond j 1 0:Nat))) d.ends (some (tkB (mkTk S.parts (rowOf T)))) c6) (HP j S.T (rV S.R) (.lst (S.parts.map ptB)) (ts.map tkB) y p' [])=.ok (.next (lwL is (some (.int (cond j 1 0:Nat))) d.ends (some (tkB (mkTk S.parts (rowOf T)))) c6)) (HP j S.T (rV S.R) (.lst (S.parts.map ptB)) ((ts++[mkTk S.parts (rowOf T)]).map tkB) y p' []) :=
    aI9 ((m_p2 (a:=.var 3) (b:=.var 5) rfl rfl rfl).trans ap1)
  cases he:d.ends with
  | false =>
    rw [he] at unp app
    refine ⟨d,ok,44,by decide,p',.lst (S.parts.map ptB),some (tkB (mkTk S.parts (rowOf T))),c6,?_⟩
    rw [he]
    have e1:lawT d T R 44=S.T:=by unfold lawT; rw [he,hS]; rfl
    have e2:lawK d T R 44 ts=ts++[mkTk S.parts (rowOf T)]:=by unfold lawK; rw [he,hS]; rfl
    rw [e1,e2,hS]
    exact (nxt rfl).trans ((i5 unp).trans (o8.trans ((i5 app).trans (o8.trans ((nxf rfl).trans rfl)))))
  | true =>
    rw [he] at unp app
    have hx:=H0 (HP j S.T (rV S.R) (.lst (S.parts.map ptB)) ((ts++[mkTk S.parts (rowOf T)]).map tkB) y p' []) [[44],[59],[41],[46]] (n:=((is.sum+(cond j 1 0:Nat)) % 4).toNat) (by show _ < 4; omega)
    obtain ⟨w,hw,iw⟩:=hx
    obtain ⟨c,rfl,hc⟩:∃ c,w=[c]∧c∈ends4:=by
      simp only [List.mem_cons,List.not_mem_nil,or_false] at hw
      rcases hw with rfl | rfl | rfl | rfl <;> exact ⟨_,rfl,by decide⟩
    rw [Int.toNat_of_nonneg n0] at iw
    refine ⟨d,ok,c,hc,p',.lst (S.parts.map ptB),some (tkB (mkTk S.parts (rowOf T))),some (.str [c]),?_⟩
    have e1:lawT d T R c=S.T++[c]:=by unfold lawT; rw [he,hS]; rfl
    have e2:lawK d T R c ts=ts++[mkTk S.parts (rowOf T)]++[Tk.op c (rowOf S.T)]:=by unfold lawK; rw [he,hS]; rfl
    rw [e1,e2,hS,he]
    have a6:mev (sem tab N (k+4)) (.idx (.list (.cons (.str [44]) (.cons (.str [59]) (.cons (.str [41]) (.cons (.str [46]) .nil))))) (.bin .mod (.bin .add (.p1 .sum (.var 0)) (.var 2)) (.int 4))) (lwL is (some (.int (cond j 1 0:Nat))) true (some (tkB (mkTk S.parts (rowOf T)))) c6) (HP j S.T (rV S.R) (.lst (S.parts.map ptB)) ((ts++[mkTk S.parts (rowOf T)]).map tkB) y p' [])=.ok (.str [c]) (HP j S.T (rV S.R) (.lst (S.parts.map ptB)) ((ts++[mkTk S.parts (rowOf T)]).map tkB) y p' []) :=
      E6 (x:=.lst ([[44],[59],[41],[46]].map .str)) rfl (v6 (b:=.int 4) (v6 (b:=.var 2) ((m_p1 (a:=.var 0) rfl).trans (aE7 _ _)) rfl (f8 _ _ _)) rfl (R9 _ _ 4 (by decide))) iw
    have ap2:=at7 (j:=j) (T:=S.T) (R:=rV S.R) (q:=.lst (S.parts.map ptB)) (due:=(ts++[mkTk S.parts (rowOf T)]).map tkB) (y:=y) (p:=p') (tl:=[]) (tkB (.op c (rowOf S.T))) (by rw [List.length_map,List.length_append]; simp only [List.length_cons,List.length_nil]; omega)
    have em2:(ts++[mkTk S.parts (rowOf T)]).map tkB++[tkB (.op c (rowOf S.T))]=(ts++[mkTk S.parts (rowOf T)]++[Tk.op c (rowOf S.T)]).map tkB:=by rw [List.map_append (l₂:=[Tk.op c (rowOf S.T)])]; rfl
    rw [em2] at ap2
    have tp:∀ c5,mev (sem tab N (k+4)) (.tup (.cons (.str [111,112]) (.cons (.var 6) (.cons (.call 50 (.cons (.var 1) .nil)) .nil)))) (lwL is (some (.int (cond j 1 0:Nat))) true c5 (some (.str [c]))) (HP j S.T (rV S.R) (.lst (S.parts.map ptB)) ((ts++[mkTk S.parts (rowOf T)]).map tkB) y p' [])=.ok (tkB (.op c (rowOf S.T))) (HP j S.T (rV S.R) (.lst (S.parts.map ptB)) ((ts++[mkTk S.parts (rowOf T)]).map tkB) y p' []):=fun c5=>by
      have br:=ay9 (j:=j) (T:=S.T) (R:=rV S.R) (q:=.lst (S.parts.map ptB)) (due:=(ts++[mkTk S.parts (rowOf T)]).map tkB) (x:=y) (pen:=p') (tl:=[]) (N:=N) (k:=k+3)
      unfold lwL
      simp only [f5,b8,e9,l9,b9,b6,List.getElem?_cons_zero,List.getElem?_cons_succ,a9,a7,br]
      rfl
    have ad:=n7 (HP j S.T (rV S.R) (.lst (S.parts.map ptB)) ((ts++[mkTk S.parts (rowOf T)]++[Tk.op c (rowOf S.T)]).map tkB) y p' []) S.T [c] (by have:=hg.t; simp only [List.length_cons,List.length_nil]; omega)
    refine (nxt rfl).trans ((i5 unp).trans (o8.trans ((i5 app).trans (o8.trans ((nxt rfl).trans ((i5 (r9 a6)).trans (o8.trans ((nxx ((m_p2 (a:=.var 3) rfl rfl (tp _)).trans ap2)).trans (o8.trans ((i5 ?_).trans rfl))))))))))
    rw [A6,v6 (b:=.var 6) (E6 (a:=.var 1) (b:=.int 0) rfl rfl hp_T) rfl ad]
    rfl
end
end Mine
end
section
set_option genInjectivity false
set_option genSizeOf false
namespace Mine
open P1
theorem aA8 (h:H) (k:Nat):∀ x,plainV h (k+6) (tkB x)=some (tkB x)
  | .str s a=>rfl
  | .tmpl ps a=>by
    have:plainV h (k+6) (tkB (.tmpl ps a))=([V.str [116,101,109,112,108,97,116,101],.lst (ps.map ptB),.int a].mapM (plainV h (k+5))).map V.tup:=rfl
    have e:plainV h (k+5) (.lst (ps.map ptB))=some (.lst (ps.map ptB)):=by
      show ((ps.map ptB).mapM (plainV h (k+4))).map V.lst=_
      rw [B7 (aa9 h k)]; rfl
    rw [this,List.mapM_cons,List.mapM_cons,e]; rfl
  | .op c a=>rfl
  | .fin a=>rfl
theorem aa8 (h:H) (ts:List Tk):(ts.map tkB).mapM (plainV h 6)=some (ts.map tkB):=M4 fun v hv=>by
  obtain ⟨x,_,rfl⟩:=List.mem_map.mp hv
  exact aA8 h 0 x
section
variable {j:Bool} {T:List Nat} {R:Ref} {q:V} {y:List V} {p:Int} {N k:Nat} {is:List Int} {ts:List Tk} {c5 c6 v2:Option V} {b:Bool}
noncomputable def toldV (T:List Nat) (R:Ref) (ts:List Tk):V:=R.elim (readV (.lst ((ts++[Tk.fin (rowOf T)]).map tkB))) refV
theorem ax1 (hts:ts.length < 1000) (told:∀ H,sem tab N (k+4) 59 [.str T] H=.ok (toldV T R ts) H) :
    mex (sem tab N (k+4)) N e_60 (lwL is v2 b c5 c6) (HP j T (rV R) q (ts.map tkB) y p [])=.ok (.ret (.bool true)) (HP j T (rV R) q ((ts++[Tk.fin (rowOf T)]).map tkB) y p []):=by
  have bg:=k7
  have ap:=at7 (j:=j) (T:=T) (R:=rV R) (q:=q) (due:=ts.map tkB) (y:=y) (p:=p) (tl:=[]) (tkB (.fin (rowOf T))) (by rw [List.length_map]; omega)
  have em:ts.map tkB++[tkB (.fin (rowOf T))]=(ts++[Tk.fin (rowOf T)]).map tkB:=by rw [List.map_append]; rfl
  rw [em] at ap
  have br:=ay9 (j:=j) (T:=T) (R:=rV R) (q:=q) (due:=ts.map tkB) (x:=y) (pen:=p) (tl:=[]) (N:=N) (k:=k+3)
  have tp:mev (sem tab N (k+4)) (.tup (.cons (.str [101,110,100]) (.cons (.str []) (.cons (.call 50 (.cons (.var 1) .nil)) .nil)))) (lwL is v2 b c5 c6) (HP j T (rV R) q (ts.map tkB) y p [])=.ok (tkB (.fin (rowOf T))) (HP j T (rV R) q (ts.map tkB) y p []):=by
    unfold lwL
    simp only [f5,b8,e9,l9,b9,b6,List.getElem?_cons_zero,List.getElem?_cons_succ,a9,a7,br]
    rfl
  refine (nxx ((m_p2 (a:=.var 3) rfl rfl tp).trans ap)).trans (nxr ?_)
  have e1:mev (sem tab N (k+4)) (.call 59 (.cons (.idx (.var 1) (.int 0)) .nil)) (lwL is v2 b c5 c6) (HP j T (rV R) q ((ts++[Tk.fin (rowOf T)]).map tkB) y p [])=.ok (toldV T R ts) (HP j T (rV R) q ((ts++[Tk.fin (rowOf T)]).map tkB) y p []) :=
    (I3 (E6 (a:=.var 1) (b:=.int 0) rfl rfl hp_T)).trans (told _)
  cases R with
  | some u =>
    have e2:mev (sem tab N (k+4)) (.ite (.isnone (.idx (.var 1) (.int 1))) (.tup (.cons (.str [114,101,97,100]) (.cons (.var 3) .nil))) (.idx (.var 1) (.int 1))) (lwL is v2 b c5 c6) (HP j T (rV (some u)) q ((ts++[Tk.fin (rowOf T)]).map tkB) y p [])=.ok (refV u) (HP j T (rV (some u)) q ((ts++[Tk.fin (rowOf T)]).map tkB) y p []):=rfl
    exact aJ1 e1 e2 (show eqD (HP j T (rV (some u)) q ((ts++[Tk.fin (rowOf T)]).map tkB) y p []) (refV u) (refV u)=some true from aN0 (x:=refV u) rfl rfl)
  | none =>
    have e2:mev (sem tab N (k+4)) (.ite (.isnone (.idx (.var 1) (.int 1))) (.tup (.cons (.str [114,101,97,100]) (.cons (.var 3) .nil))) (.idx (.var 1) (.int 1))) (lwL is v2 b c5 c6) (HP j T (rV none) q ((ts++[Tk.fin (rowOf T)]).map tkB) y p [])=.ok (readV (.ref 2)) (HP j T (rV none) q ((ts++[Tk.fin (rowOf T)]).map tkB) y p []):=rfl
    refine aJ1 e1 e2 (show eqD (HP j T (rV none) q ((ts++[Tk.fin (rowOf T)]).map tkB) y p []) (readV (.lst ((ts++[Tk.fin (rowOf T)]).map tkB))) (readV (.ref 2))=some true from aN0 (x:=readV (.lst ((ts++[Tk.fin (rowOf T)]).map tkB))) ?_ ?_)
    · show ([V.str [114,101,97,100],.lst ((ts++[Tk.fin (rowOf T)]).map tkB)].mapM (plainV _ 7)).map V.tup=_
      have:plainV (HP j T (rV none) q ((ts++[Tk.fin (rowOf T)]).map tkB) y p []) 7 (.lst ((ts++[Tk.fin (rowOf T)]).map tkB))=some (.lst ((ts++[Tk.fin (rowOf T)]).map tkB)):=by
        show (((ts++[Tk.fin (rowOf T)]).map tkB).mapM (plainV _ 6)).map V.lst=_
        rw [aa8]; rfl
      rw [List.mapM_cons,List.mapM_cons,this]; rfl
    · show ([V.str [114,101,97,100],.ref 2].mapM (plainV _ 7)).map V.tup=_
      have:plainV (HP j T (rV none) q ((ts++[Tk.fin (rowOf T)]).map tkB) y p []) 7 (.ref 2)=some (.lst ((ts++[Tk.fin (rowOf T)]).map tkB)):=by
        show ((some ((ts++[Tk.fin (rowOf T)]).map tkB)).bind fun vs=>(vs.mapM (plainV _ 6)).map V.lst)=_
        rw [Option.bind_some,aa8]; rfl
      rw [List.mapM_cons,List.mapM_cons,this]; rfl
end
noncomputable def okTk (x:Tk):Prop:=∀ ps n,x=.tmpl ps n→ps.length < big
theorem mk_ok {P:List Pt} (n:Nat) (h:P.length < big):okTk (mkTk P n):=by
  intro ps m e
  cases P with
  | nil=>cases e
  | cons x r =>
    have e:(if (r.isEmpty&&isT x)=true then Tk.str (tOf x) n else .tmpl (x::r) n)=.tmpl ps m:=e
    split at e
    · cases e
    · injection e with e1
      rw [← e1]; exact h
section
variable {N k m c c2:Nat} {H:H} {d d2:Hd} {t T:List Nat} {R:Ref} {ts:List Tk}
theorem ac6 (hk:∀ x∈ts,okTk x) (e:∀ h,sem tab N (k+12) 48 [.str T] h=ans R (.lst ((ts++[Tk.fin (rowOf T)]).map tkL)) h):sem tab N (k+13) 59 [.str T] H=.ok (toldV T R ts) H:=by
  have e:=e H
  cases R with
  | none =>
    refine aP7 (k:=k+10) e fun x hx=>(List.mem_append.mp hx).elim (hk x) fun h ps n z=>?_
    rw [List.mem_singleton.mp h] at z
    cases z
  | some y=>exact aP6 (k:=k+10) e
theorem aG8:∃ w,(d.s1 T R).T=T++60::60::60::w:=by
  obtain ⟨w,hw⟩:=aG7 (d:=d) (T:=T) (R:=R)
  exact ⟨_,hw.trans rfl⟩
theorem U3 (ok:HdOk d) (hT:T.length≤1000) (n:Nat):okTk (mkTk (d.s1 T R).parts n):=by
  have g:=F4 (R:=R) ok hT
  have l:=R0 (d.s1 T R).cur
  have bg:=k7
  refine mk_ok n ?_
  unfold St.parts
  rw [List.length_append]
  have:=g.p
  omega
theorem ag5 (hm:m < 3):(T0 m).length≤8:=by unfold T0; rw [List.length_append,List.length_replicate]; show 6+m≤8; omega
theorem aZ9 (hN:2000 < N) (hm:m < 3) (ok:HdOk d) (he:d.ends=false):sem tab N (k+13) 59 [.str (lawT d (T0 m) none c)] H=.ok (toldV (lawT d (T0 m) none c) (d.s1 (T0 m) none).R (lawK d (T0 m) none c [])) H:=by
  have hT:=ag5 hm
  have g:=(F4 (R:=none) ok hT).t
  have e1:lawT d (T0 m) none c=(d.s1 (T0 m) none).T:=by unfold lawT; rw [he]; rfl
  have e2:lawK d (T0 m) none c []=[mkTk (d.s1 (T0 m) none).parts (rowOf (T0 m))]:=by unfold lawK; rw [he]; rfl
  rw [e1,e2]
  refine ac6 (fun x hx=>by rw [List.mem_singleton.mp hx]; exact U3 ok (by omega) _) fun h=>?_
  obtain ⟨w,hw⟩:=aG8 (d:=d) (T:=T0 m) (R:=none)
  refine Tr.begin (by omega) hw hm ?_
  exact Tr.hd (z:=[]) ok (by omega) (by omega) (by omega) (List.append_nil _).symm (fun h=>by rw [he] at h; cases h) (fun _=>rfl) (by decide) (Tr.end (Nat.le_refl _) (show 1 < 1000 by decide))
theorem aZ8 (hN:2000 < N) (hm:m < 3) (ok:HdOk d) (he:d.ends=true) (hc:c∈ends4) (ok2:HdOk d2) (hc2:c2∈ends4) :
    sem tab N (k+13) 59 [.str (lawT d2 (lawT d (T0 m) none c) (d.s1 (T0 m) none).R c2)] H=.ok (toldV (lawT d2 (lawT d (T0 m) none c) (d.s1 (T0 m) none).R c2) (d2.s1 (lawT d (T0 m) none c) (d.s1 (T0 m) none).R).R (lawK d2 (lawT d (T0 m) none c) (d.s1 (T0 m) none).R c2 (lawK d (T0 m) none c []))) H:=by
  have hT:=ag5 hm
  have g:=(F4 (R:=none) ok hT).t
  have e1:lawT d (T0 m) none c=(d.s1 (T0 m) none).T++[c]:=by unfold lawT; rw [he]; rfl
  have e2:lawK d (T0 m) none c []=[mkTk (d.s1 (T0 m) none).parts (rowOf (T0 m)),.op c (rowOf (d.s1 (T0 m) none).T)]:=by unfold lawK; rw [he]; rfl
  rw [e1,e2]
  have k1:=U3 (R:=none) ok (Nat.le_trans hT (by decide)) (rowOf (T0 m))
  have lT:((d.s1 (T0 m) none).T++[c]).length≤409:=by rw [List.length_append]; show _+1≤409; omega
  have g2:=(F4 (R:=(d.s1 (T0 m) none).R) ok2 lT).t
  have k2:=U3 (R:=(d.s1 (T0 m) none).R) ok2 (Nat.le_trans lT (by decide)) (rowOf ((d.s1 (T0 m) none).T++[c]))
  obtain ⟨w,hw⟩:=aG8 (d:=d) (T:=T0 m) (R:=none)
  obtain ⟨w2,hw2⟩:=aG8 (d:=d2) (T:=(d.s1 (T0 m) none).T++[c]) (R:=(d.s1 (T0 m) none).R)
  have all:∀ (H:Mine.H) (t z:List Nat) (X:Mine.R V),t=(d2.s1 ((d.s1 (T0 m) none).T++[c]) (d.s1 (T0 m) none).R).T++z→(d2.ends=true→stopB isNg z=true)→(d2.ends=false→z=[])→z.length≤1 →
      Tr N k t H X (d2.s1 ((d.s1 (T0 m) none).T++[c]) (d.s1 (T0 m) none).R).T (d2.s1 ((d.s1 (T0 m) none).T++[c]) (d.s1 (T0 m) none).R).R [mkTk (d.s1 (T0 m) none).parts (rowOf (T0 m)),.op c (rowOf (d.s1 (T0 m) none).T),mkTk (d2.s1 ((d.s1 (T0 m) none).T++[c]) (d.s1 (T0 m) none).R).parts (rowOf ((d.s1 (T0 m) none).T++[c]))]→sem tab N (k+12) 48 [.str t] H=X:=by
    intro H t z X ht z1 z2 zl K
    have tl:t.length≤810:=by rw [ht,List.length_append]; omega
    have K2:=Tr.hd (ts:=[mkTk (d.s1 (T0 m) none).parts (rowOf (T0 m)),.op c (rowOf (d.s1 (T0 m) none).T)]) ok2 (by omega) (by omega) (by omega) ht z1 z2 (show 2 < 1000 by decide) K
    have t2:t=((d.s1 (T0 m) none).T++[c])++(60::60::60::(w2++z)):=by rw [ht,hw2,List.append_assoc]; rfl
    have K1:=Tr.op (ts:=[mkTk (d.s1 (T0 m) none).parts (rowOf (T0 m))]) hc (by omega) t2 (.inr ⟨_,rfl⟩) (show 1 < 1000 by decide) K2
    have em:=af6 hc
    have K0:=Tr.hd (ts:=[]) (z:=c::60::60::60::(w2++z)) ok (by omega) (by omega) (by omega) (by rw [t2,List.append_assoc]; rfl) (fun _=>by show (sgn.contains c&&!isNg c)=true; rw [em.2.2.2.2.2.2.1,em.2.2.2.2.2.2.2]; rfl) (fun h=>by rw [he] at h; cases h) (by decide) K1
    exact Tr.begin (by omega) (r:=60::60::(w++c::60::60::60::(w2++z))) (by rw [t2,hw,List.append_assoc,List.append_assoc]; rfl) hm K0
  have oks:∀ x,x=mkTk (d.s1 (T0 m) none).parts (rowOf (T0 m))∨x=mkTk (d2.s1 ((d.s1 (T0 m) none).T++[c]) (d.s1 (T0 m) none).R).parts (rowOf ((d.s1 (T0 m) none).T++[c]))∨(∃ a b,x=Tk.op a b)→okTk x:=fun x hx=>by
    rcases hx with rfl | rfl | ⟨a,b,rfl⟩
    · exact k1
    · exact k2
    · intro ps n e; cases e
  cases he2:d2.ends with
  | false =>
    have e3:lawT d2 ((d.s1 (T0 m) none).T++[c]) (d.s1 (T0 m) none).R c2=(d2.s1 ((d.s1 (T0 m) none).T++[c]) (d.s1 (T0 m) none).R).T:=by unfold lawT; rw [he2]; rfl
    have e4:∀ ts,lawK d2 ((d.s1 (T0 m) none).T++[c]) (d.s1 (T0 m) none).R c2 ts=ts++[mkTk (d2.s1 ((d.s1 (T0 m) none).T++[c]) (d.s1 (T0 m) none).R).parts (rowOf ((d.s1 (T0 m) none).T++[c]))]:=fun ts=>by unfold lawK; rw [he2]; rfl
    rw [e3,e4]
    refine ac6 (fun x hx=>oks x ?_) fun h=>all h _ [] _ (List.append_nil _).symm (fun h=>by rw [he2] at h; cases h) (fun _=>rfl) (Nat.zero_le _) (Tr.end (Nat.le_refl _) (show 3 < 1000 by decide))
    simp only [List.cons_append,List.nil_append,List.mem_cons,List.not_mem_nil,or_false] at hx
    rcases hx with h | h | h
    · exact .inl h
    · exact .inr (.inr ⟨_,_,h⟩)
    · exact .inr (.inl h)
  | true =>
    have e3:lawT d2 ((d.s1 (T0 m) none).T++[c]) (d.s1 (T0 m) none).R c2=(d2.s1 ((d.s1 (T0 m) none).T++[c]) (d.s1 (T0 m) none).R).T++[c2]:=by unfold lawT; rw [he2]; rfl
    have e4:∀ ts,lawK d2 ((d.s1 (T0 m) none).T++[c]) (d.s1 (T0 m) none).R c2 ts=ts++[mkTk (d2.s1 ((d.s1 (T0 m) none).T++[c]) (d.s1 (T0 m) none).R).parts (rowOf ((d.s1 (T0 m) none).T++[c]))]++[.op c2 (rowOf (d2.s1 ((d.s1 (T0 m) none).T++[c]) (d.s1 (T0 m) none).R).T)]:=fun ts=>by unfold lawK; rw [he2]; rfl
    rw [e3,e4]
    have em:=af6 hc2
    refine ac6 (fun x hx=>oks x ?_) fun h=>all h _ [c2] _ rfl (fun _=>by show (sgn.contains c2&&!isNg c2)=true; rw [em.2.2.2.2.2.2.1,em.2.2.2.2.2.2.2]; rfl) (fun h=>by rw [he2] at h; cases h) (Nat.le_refl _) (Tr.op (z:=[]) hc2 (by rw [List.length_append]; show _+1+10 < N; omega) (List.append_nil _).symm (.inl rfl) (show 3 < 1000 by decide) (Tr.end (Nat.le_refl _) (show 4 < 1000 by decide)))
    simp only [List.cons_append,List.nil_append,List.mem_cons,List.not_mem_nil,or_false] at hx
    rcases hx with h | h | h | h
    · exact .inl h
    · exact .inr (.inr ⟨_,_,h⟩)
    · exact .inr (.inl h)
    · exact .inr (.inr ⟨_,_,h⟩)
end
theorem aE4 (f:Int→V) (l:List Int):slcV (.lst (l.map f)) .none (.int 63)=some (.lst ((l.take 63).map f)):=by
  show some (V.lst (sliceL (l.map f) none (some ((63:Nat):Int))))=_
  rw [slR,List.map_take]
theorem aO2 (h:H) (hh:h.length≠0):back [] (.bool true) h=.ok (.bool true) []:=by
  unfold back backO
  rw [if_neg (show ¬ h.length=([]:H).length from hh),if_pos (show h.take ([]:H).length=[] from rfl)]; rfl
theorem aB3 (is:List Int):sem tab 5000 40 60 [.lst (is.map .int)] []=.ok (.bool true) []:=by
  have bg:=k7
  rw [t9 (d:=f_law) rfl rfl]
  generalize hl:is.take 63=l
  have hm:l.length % 3 < 3:=Nat.mod_lt _ (by decide)
  generalize hmm:l.length % 3=m at hm
  have st1:mev (sem tab 5000 39) (.cell (.cons (.bin .add (.str [60,63,112,104,112,10]) (.bin .mul (.str [10]) (.bin .mod (.p1 .len (.var 0)) (.int 3)))) (.cons .none (.cons (.cell .nil) .nil)))) [some (.lst (l.map .int)),none,none,none,none,none,none] []=.ok (.ref 1) [[],[.str (T0 m),.none,.ref 0]]:=by
    have a1:mev (sem tab 5000 39) (.p1 .len (.var 0)) [some (.lst (l.map .int)),none,none,none,none,none,none] []=.ok (.int l.length) []:=by
      show R.ok (V.int (l.map V.int).length) []=_
      rw [List.length_map]
    have a2:binV .mod [] (.int l.length) (.int 3)=some (.int m):=by
      rw [R9 _ _ 3 (by decide),← hmm]; rfl
    have a3:binV .mul [] (.str [10]) (.int m)=some (.str (List.replicate m 10)):=by
      match m,hm with
      | 0,_=>rfl
      | 1,_=>rfl
      | 2,_=>rfl
    have a4:=n7 [] [60,63,112,104,112,10] (List.replicate m 10) (by rw [List.length_replicate]; show 6+m≤big; omega)
    rw [af8,b6,v6 (f5 _ _ _ _) (v6 (f5 _ _ _ _) (v6 a1 (f7 _ _ _ 3) a2) a3) a4]
    rfl
  obtain ⟨d,ok,c,hc,p1,q1,c5,c6,t1⟩:=al2 (N:=5000) (k:=35) (j:=false) (is:=l) (c5:=none) (c6:=none) (T:=T0 m) (R:=none) (q:=.ref 0) (y:=[]) (ts:=[]) (m:=8) (by decide) (ag5 hm) (by decide) (fun h n=>rfl)
  have start:∀ {Y},(floop (fun v loc h=>mex (sem tab 5000 39) 5000 b_60 (loc.set 2 (some v)) h) [V.int ((0:Nat):Int),V.int ((1:Nat):Int)] (lwL l none true none none) (HB false (T0 m) (rV none) (.ref 0) (([]:List Tk).map tkB) [])).bind (fun f h=>seqR f h (mex (sem tab 5000 39) 5000 e_60))=Y →
      mex (sem tab 5000 39) 5000 f_law.body [some (.lst (is.map .int)),none,none,none,none,none,none] []=Y:=fun {Y} q =>
    (nxa (.lst (l.map .int)) (by rw [← hl]; exact (by simp only [z0,f7,b8,s7,List.getElem?_cons_zero,a9,a7,b5,z0,aE4]))).trans ((i5 (r9 st1)).trans ((i5 (bc7 rfl rfl)).trans (V0 (n:=2) rfl rfl (by decide) q)))
  have lb:∀ b,(lwL l none b none none).set 2 (some (.int ((0:Nat):Int)))=lwL l (some (.int (cond false 1 0:Nat))) b none none:=fun b=>rfl
  have f1:mex (sem tab 5000 39) 5000 b_60 ((lwL l none true none none).set 2 (some (.int ((0:Nat):Int)))) (HB false (T0 m) (rV none) (.ref 0) (([]:List Tk).map tkB) [])=_:=t1
  have fin:∀ {H:Mine.H},mex (sem tab 5000 39) 5000 f_law.body [some (.lst (is.map .int)),none,none,none,none,none,none] []=.ok (.ret (.bool true)) H→H.length≠0→callR [] (mex (sem tab 5000 39) 5000 f_law.body [some (.lst (is.map .int)),none,none,none,none,none,none] [])=.ok (.bool true) []:=fun {H} e hh=>by
    rw [e]; exact aO2 H hh
  cases he:d.ends with
  | false =>
    rw [he] at f1
    have e1:lawK d (T0 m) none c []=[mkTk (d.s1 (T0 m) none).parts (rowOf (T0 m))]:=by unfold lawK; rw [he]; rfl
    have f2:mex (sem tab 5000 39) 5000 b_60 ((lwL l (some (.int (cond false 1 0:Nat))) false c5 c6).set 2 (some (.int ((1:Nat):Int)))) (HP false (lawT d (T0 m) none c) (rV (d.s1 (T0 m) none).R) q1 ((lawK d (T0 m) none c []).map tkB) [] p1 [])=.ok (.next (lwL l (some (.int ((1:Nat):Int))) false c5 c6)) (HP false (lawT d (T0 m) none c) (rV (d.s1 (T0 m) none).R) q1 ((lawK d (T0 m) none c []).map tkB) [] p1 []):=(nxf rfl).trans rfl
    refine fin (H:=HP false (lawT d (T0 m) none c) (rV (d.s1 (T0 m) none).R) q1 ((lawK d (T0 m) none c []++[Tk.fin (rowOf (lawT d (T0 m) none c))]).map tkB) [] p1 []) (start ?_) ?_
    · rw [D3 f1,D3 f2]
      exact ax1 (k:=35) (by rw [e1]; exact (show 1 < 1000 by decide)) fun H=>aZ9 (N:=5000) (k:=26) (by decide) hm ok he
    · intro h; cases h
  | true =>
    rw [he] at f1
    have lT:(lawT d (T0 m) none c).length≤409:=by
      have g:=(F4 (R:=none) ok (ag5 hm)).t
      unfold lawT
      rw [he]
      show ((d.s1 (T0 m) none).T++[c]).length≤_
      rw [List.length_append]
      show _+1≤409
      omega
    have lk:∀ d T R c ts,(lawK d T R c ts).length≤ts.length+2:=fun d T R c ts=>by
      unfold lawK
      cases d.ends <;> simp only [cond_true,cond_false,List.length_append,List.length_cons,List.length_nil] <;> omega
    have k1:=lk d (T0 m) none c []
    have k1:(lawK d (T0 m) none c []).length≤2:=k1
    obtain ⟨d2,ok2,c2,hc2,p2,q2,c5',c6',t2⟩:=al2 (N:=5000) (k:=35) (j:=true) (is:=l) (c5:=c5) (c6:=c6) (T:=lawT d (T0 m) none c) (R:=(d.s1 (T0 m) none).R) (q:=q1) (y:=[.int p1]) (ts:=lawK d (T0 m) none c []) (m:=409) (by decide) lT (by omega) (fun h n=>rfl)
    have f2:mex (sem tab 5000 39) 5000 b_60 ((lwL l (some (.int (cond false 1 0:Nat))) true c5 c6).set 2 (some (.int ((1:Nat):Int)))) (HP false (lawT d (T0 m) none c) (rV (d.s1 (T0 m) none).R) q1 ((lawK d (T0 m) none c []).map tkB) [] p1 [])=_:=t2
    have k2:=lk d2 (lawT d (T0 m) none c) (d.s1 (T0 m) none).R c2 (lawK d (T0 m) none c [])
    refine fin (H:=HP true (lawT d2 (lawT d (T0 m) none c) (d.s1 (T0 m) none).R c2) (rV (d2.s1 (lawT d (T0 m) none c) (d.s1 (T0 m) none).R).R) q2 ((lawK d2 (lawT d (T0 m) none c) (d.s1 (T0 m) none).R c2 (lawK d (T0 m) none c [])++[Tk.fin (rowOf (lawT d2 (lawT d (T0 m) none c) (d.s1 (T0 m) none).R c2))]).map tkB) [.int p1] p2 []) (start ?_) ?_
    · rw [D3 f1,D3 f2]
      exact ax1 (k:=35) (by omega) fun H=>aZ8 (N:=5000) (k:=26) (by decide) hm ok he hc ok2 hc2
    · intro h; cases h
end Mine
end
section
namespace Mine
open PySem PySem.Spec PySem.Calls PyProof.Rows PySem.W
theorem LeftO.of_run {p q:Program} {loose:List PySem.Str} {Xt:Shared→Bool} {α:Type} {Yf:Shared→α} {Ya:World→α} {N:Nat} {H₀:Params→Heap} {d₀:Drawn} {k₀:Nat} {m₀:Nat} {ann:Option Value} {M:Nat}
    (open_:∀ w:World,(fencedOpening treeTable p w N).map (fun s=>(s.heap,s.gens,s.drawn,s.toks))=some (H₀ w.params,#[],d₀,k₀))
    (size:∀ w:World,((H₀ w.params).isNs mainGlobals,(H₀ w.params).objs.size,(H₀ w.params).nsMap mainGlobals "__annotations__")=(true,m₀,ann)) (le:Nat.ble M N=true)
    (runA:∀ (w:World) (os:OsState),(topRun treeTable p w m₀ ann M ⟨H₀ w.params,#[],d₀,k₀,os⟩ (topStub p)).map (fun s=>(staticsOk (importedModules p.main.body) (H₀ w.params) s.heap&&namesBound p s.heap&&gensDone s&&laidKept (H₀ w.params) s.heap))=some true)
    (runB:∀ (w:World) (os:OsState),(topRun treeTable p w m₀ ann M ⟨H₀ w.params,#[],d₀,k₀,os⟩ (topStub p)).map (fun s=>openSeen q loose (importedModules p.main.body) Xt true s)=some (openGood q loose))
    (runC:∀ (w:World) (os:OsState),(topRun treeTable p w m₀ ann M ⟨H₀ w.params,#[],d₀,k₀,os⟩ (topStub p)).map Yf=some (Ya w)):LeftO p q loose Xt Yf Ya N:=fun w=>by
  obtain ⟨⟨h,gs,d,k,os⟩,e,e'⟩:=Option.map_eq_some_iff.mp (open_ w)
  obtain ⟨rfl,rfl,rfl,rfl⟩:h=H₀ w.params∧gs=#[]∧d=d₀∧k=k₀:=by simpa using e'
  obtain ⟨z1,z2,z3⟩:_∧_∧_:=by simpa only [Prod.mk.injEq] using size w
  obtain ⟨s₁,r,l1⟩:=Option.map_eq_some_iff.mp (runA w os)
  obtain ⟨s₂,r2,l2⟩:=Option.map_eq_some_iff.mp (runB w os)
  obtain ⟨s₃,r3,l3⟩:=Option.map_eq_some_iff.mp (runC w os)
  rw [r] at r2 r3
  cases r2; cases r3
  have r':=topRun_mono (N - M) _ _ _ _ r
  rw [show M+(N - M)=N by have:=Nat.le_of_ble_eq_true le; omega] at r'
  have t:topFrom treeTable p w N ⟨H₀ w.params,#[],d,k,os⟩=some s₁:=by
    unfold topFrom
    dsimp only
    rw [z1,z2,z3,r']
    show (match staticsOk (importedModules p.main.body) (H₀ w.params) s₁.heap&&namesBound p s₁.heap&&gensDone s₁&&laidKept (H₀ w.params) s₁.heap with | true=>_ | false=>_)=_
    rw [l1]
  unfold openEnds
  rw [e]
  show (topFrom treeTable p w N _).map _=_
  rw [t]
  exact congrArg some (Prod.ext l2 l3)
theorem LeftO.of_run2 {p q:Program} {loose:List PySem.Str} {Xt:Shared→Bool} {α:Type} {Yf:Shared→α} {Ya:World→α} {N:Nat} {H₀:Params→Heap} {d₀:Drawn} {k₀:Nat} {m₀:Nat} {ann:Option Value} {M:Nat}
    (open_:∀ w:World,(fencedOpening treeTable p w N).map (fun s=>(s.heap,s.gens,s.drawn,s.toks))=some (H₀ w.params,#[],d₀,k₀))
    (size:∀ w:World,((H₀ w.params).isNs mainGlobals,(H₀ w.params).objs.size,(H₀ w.params).nsMap mainGlobals "__annotations__")=(true,m₀,ann)) (le:Nat.ble M N=true)
    (run:∀ (w:World) (os:OsState),(topRun treeTable p w m₀ ann M ⟨H₀ w.params,#[],d₀,k₀,os⟩ (topStub p)).map (fun s=>((staticsOk (importedModules p.main.body) (H₀ w.params) s.heap&&namesBound p s.heap&&gensDone s&&laidKept (H₀ w.params) s.heap),openSeen q loose (importedModules p.main.body) Xt true s))=some (true,openGood q loose))
    (runC:∀ (w:World) (os:OsState),(topRun treeTable p w m₀ ann M ⟨H₀ w.params,#[],d₀,k₀,os⟩ (topStub p)).map Yf=some (Ya w)):LeftO p q loose Xt Yf Ya N :=
  LeftO.of_run open_ size le (fun w os=>by have:=congrArg (Option.map Prod.fst) (run w os); rw [Option.map_map] at this; exact this) (fun w os=>by have:=congrArg (Option.map Prod.snd) (run w os); rw [Option.map_map] at this; exact this) runC
end Mine
end
section
set_option maxRecDepth 100000
set_option maxHeartbeats 0
namespace Mine
open PySem PySem.Spec PySem.Calls PyProof.Rows PySem.W
noncomputable def T1:List Ent:=P1.names.filterMap fun (f,n,vs)=>(P1.tab f).map fun d=>⟨Str.ofString n,f,d,vs.map Str.ofString⟩
abbrev pw1:=PySem.Challenge.pw_pq0854_01
noncomputable def Q01:Program:=view pw1 [76]
noncomputable def loose1:List PySem.Str:=(pw1.main.body.dropLast.flatMap bindsAtTop).eraseDups.filter fun x=>!startupNames.contains x
theorem run1a:∀ (w:World) (os:OsState),(Fast.tw14082659384304107361 Fast.tw14364793385576792824 pw1 w 11 (some (.ref 6)) 3117 ⟨boot_heap w.params,#[],boot_drawn,boot_toks,os⟩ (topStub pw1)).map (fun s=>((staticsOk (importedModules pw1.main.body) (boot_heap w.params) s.heap&&namesBound pw1 s.heap&&gensDone s&&laidKept (boot_heap w.params) s.heap),Fast.tw4187177175401517315 Q01 loose1 (importedModules pw1.main.body) (fun _=>true) true s))=some (true,openGood Q01 loose1):=by
  intro w os; kernel_rfl!
theorem run1c:∀ (w:World) (os:OsState),(Fast.tw14082659384304107361 Fast.tw14364793385576792824 pw1 w 11 (some (.ref 6)) 3117 ⟨boot_heap w.params,#[],boot_drawn,boot_toks,os⟩ (topStub pw1)).map (fun s=>see T1 s.heap)=some true:=by
  intro w os; kernel_rfl!
theorem left1:LeftO pw1 Q01 loose1 (fun _=>true) (fun s=>see T1 s.heap) (fun _=>true) 6200 :=
  LeftO.of_run2 (H₀:=boot_heap) (d₀:=boot_drawn) (k₀:=boot_toks) (m₀:=11) (ann:=some (.ref 6)) (M:=3117) (boot_open (by rfl) (by decide +kernel) (fun s=>by rfl)) (fun w=>by kernel_rfl!) (by decide +kernel)
    (by rw [Fast.te14082659384304107361,Fast.te14364793385576792824,Fast.te4187177175401517315]; exact run1a) (by rw [Fast.te14082659384304107361,Fast.te14364793385576792824]; exact run1c)
theorem tab1:∀ f,tabOf T1 f=P1.tab f
  | 0=>rfl
  | 1=>rfl
  | 2=>rfl
  | 3=>rfl
  | 4=>rfl
  | 5=>rfl
  | 6=>rfl
  | 7=>rfl
  | 8=>rfl
  | 9=>rfl
  | 10=>rfl
  | 11=>rfl
  | 12=>rfl
  | 13=>rfl
  | 14=>rfl
  | 15=>rfl
  | 16=>rfl
  | 17=>rfl
  | 18=>rfl
  | 19=>rfl
  | 20=>rfl
  | 21=>rfl
  | 22=>rfl
  | 23=>rfl
  | 24=>rfl
  | 25=>rfl
  | 26=>rfl
  | 27=>rfl
  | 28=>rfl
  | 29=>rfl
  | 30=>rfl
  | 31=>rfl
  | 32=>rfl
  | 33=>rfl
  | 34=>rfl
  | 35=>rfl
  | 36=>rfl
  | 37=>rfl
  | 38=>rfl
  | 39=>rfl
  | 40=>rfl
  | 41=>rfl
  | 42=>rfl
  | 43=>rfl
  | 44=>rfl
  | 45=>rfl
  | 46=>rfl
  | 47=>rfl
  | 48=>rfl
  | 49=>rfl
  | 50=>rfl
  | 51=>rfl
  | 52=>rfl
  | 53=>rfl
  | 54=>rfl
  | 55=>rfl
  | 56=>rfl
  | 57=>rfl
  | 58=>rfl
  | 59=>rfl
  | 60=>rfl
  | 61=>rfl
  | 62=>rfl
  | _+63=>rfl
theorem sem1 (is:List Int):sem (tabOf T1) 5000 40 60 [.lst (is.map .int)] []=.ok (.bool true) []:=by
  rw [funext tab1]; exact aB3 is
theorem said1:OpenLaw.wellSaid PySem.Challenge.rw_pq0854_01=true:=by
  rw [Fast.te9446332074065402090]; decide +kernel
end Mine
open PySem PySem.W PyProof.Rows
theorem PySem.Challenge.cw_pq0854_01_holds : PySem.Challenge.rw_pq0854_01.Holds := by
  w_on
  refine holds_law Mine.said1 fun said => ?_
  refine PySem.W.holds_open (q := Mine.Q01) (loose := Mine.loose1) (Xt := fun _ => true) (XP := fun _ _ => True) (Yf := fun s => Mine.see Mine.T1 s.heap) (Ya := fun _ => true) (YP := fun _ h => ∃ h₀, Mine.see Mine.T1 h₀ = true ∧ ∀ b o, h₀.get? b = some o → h.get? b = some o) (N := 6200) Mine.left1 (fun w s e => ⟨s.heap, e, fun _ _ e => e⟩) (fun w h h' y k => let ⟨h₀, a, b⟩ := y; ⟨h₀, a, fun x o e => k _ _ (b x o e)⟩) (fun _ _ => trivial) (fun _ _ _ _ _ => trivial) (by rfl) (by rfl) (by rfl) (fun s _ => recFacts_nil rfl) (by rfl) (by assumption) (by decide +kernel) ⟨rfl, rfl, rfl, rfl, rfl, by decide +kernel⟩ ?hw ?hc
  case hw => w_witness2
  case hc => exact Mine.walk_of (lawF := 60) (most := 63) rfl (by decide) rfl ⟨_, rfl, rfl⟩ Mine.sem1
end
