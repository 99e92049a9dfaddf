import PyProof.Rows.All
import PyProof.ExcBaseAll.Exception
import PyProof.ExcAttrAll.Exception
import PyProof.ExcClass3
import PyProof.ExcInit
import PyProof.InstStoreFacts
import OpenK.KCls
import Open.Head
import Open.FastLooks
import Open.Line
import Open.Boot
import Open.FastRun
import Open.FastT9
import Wide.All
import Lean
import PySem.Challenge.RW_pq0854_02
set_option Elab.async false
set_option linter.all false
section
set_option linter.all false
namespace Mine

/-- values of the small language: lists that are never turned again are values (`lst`), a list that is turned is a cell (`ref`) -/
inductive V where
  | none | bool (b : Bool) | int (i : Int) | str (l : List Nat)
  | tup (vs : List V) | lst (vs : List V) | ref (n : Nat)
  | tok (s v l : V) | fn (f : Nat)
deriving Inhabited

abbrev H := List (List V)

inductive R (α : Type) where
  | stuck
  | ok (a : α) (h : H)
  | pf (w : List Nat) (l : Int) (h : H)
deriving Inhabited

noncomputable def R.bind {α β : Type} (r : R α) (f : α → H → R β) : R β := match r with
  | .stuck => .stuck
  | .ok a h => f a h
  | .pf w l h => .pf w l h

inductive BO where | add | sub | mul | fdiv | mod | pow | shr | band
deriving DecidableEq
inductive CO where | eq | ne | lt | le | gt | ge | isin | notin
deriving DecidableEq
inductive P1 where | len | ord | chr | sum | min | str | lower | tuple | isint | clear | pop
deriving DecidableEq
inductive P2 where | max | find | count | split | lstrip | join | append
deriving DecidableEq
inductive P3 where | find | get
deriving DecidableEq

set_option genInjectivity false
set_option genSizeOf false
mutual
inductive ME where
  | none | bool (b : Bool) | int (i : Int) | str (l : List Nat)
  | var (i : Nat) | glob (f : Nat)
  | bin (o : BO) (a b : ME)
  | cmp (o : CO) (a b : ME)
  | cmp2 (o p : CO) (a b c : ME)
  | isnone (a : ME) | notnone (a : ME)
  | and (a b : ME) | or (a b : ME) | not (a : ME) | neg (a : ME)
  | ite (t a b : ME)
  | idx (a i : ME)
  | slc (a lo hi : ME)
  | slst (a lo st : ME)
  | attr (a : ME) (f : Nat)
  | call (f : Nat) (as : MEs)
  | callv (i : Nat) (as : MEs)
  | mk (as : MEs)
  | p1 (p : P1) (a : ME) | p2 (p : P2) (a b : ME) | p3 (p : P3) (a b c : ME)
  | tup (es : MEs) | list (es : MEs) | cell (es : MEs)
  | dead
  | comp (caps : List Nat) (it elt cond : ME)
inductive MEs where
  | nil
  | cons (e : ME) (r : MEs)
end

inductive MS where
  | skip
  | seq (a b : MS)
  | assign (i : Nat) (e : ME)
  | unpack (is : List Nat) (e : ME)
  | pair (i j : Nat) (a b : ME)
  | aug (i : Nat) (o : BO) (e : ME)
  | setidx (a i e : ME)
  | ite (t : ME) (a b : MS)
  | while (t : ME) (b : MS)
  | for (x : Nat) (it : ME) (b : MS)
  | forT (is : List Nat) (it : ME) (b : MS)
  | forR (x : Nat) (lo hi : ME) (b : MS)
  | ret (e : ME)
  | raise (why line : ME)
  | raiseEnd (line : ME)
  | expr (e : ME)
  | tryR (i : Nat) (e : ME)
  | dead

abbrev L := List (Option V)
inductive Fl where
  | next (loc : L)
  | ret (v : V)
deriving Inhabited

set_option genInjectivity true
/-- a size that is far below the model's lines -/
noncomputable def big : Nat := 1048576

/-! texts -/
noncomputable def clip (n : Nat) (i : Int) : Nat := (max 0 (min (if i < 0 then i + n else i) n)).toNat
noncomputable def loAt {α : Type} (l : List α) (lo : Option Int) : Nat := match lo with | none => 0 | some i => clip l.length i
noncomputable def hiAt {α : Type} (l : List α) (hi : Option Int) : Nat := match hi with | none => l.length | some j => clip l.length j
noncomputable def sliceL {α : Type} (l : List α) (lo hi : Option Int) : List α := (l.drop (loAt l lo)).take (hiAt l hi - loAt l lo)
noncomputable def startsWith (l p : List Nat) : Bool := l.take p.length == p
noncomputable def findFrom (p : List Nat) : List Nat → Nat → Option Nat
  | [], i => if p == [] then some i else none
  | c :: r, i => if startsWith (c :: r) p then some i else findFrom p r (i + 1)
noncomputable def findL (l p : List Nat) (i : Nat) : Int := if i ≤ l.length then (match findFrom p (l.drop i) i with | some k => (k : Int) | none => -1) else -1
noncomputable def lowerC (c : Nat) : Nat := if 65 ≤ c ∧ c ≤ 90 then c + 32 else c
noncomputable def splitC (c : Nat) : List Nat → List Nat → List (List Nat)
  | [], acc => [acc.reverse]
  | d :: r, acc => if d == c then acc.reverse :: splitC c r [] else splitC c r (d :: acc)
noncomputable def textOf (i : Int) : List Nat := (toString i).toList.map Char.toNat
noncomputable def joinL : List V → Option (List Nat)
  | [] => some []
  | .str x :: r => (joinL r).map (x ++ ·)
  | _ :: _ => none
noncomputable def stepIdx (n : Nat) (j k : Int) : List Nat := (List.range (if max 0 (min j n) < n then ((n : Int) - max 0 (min j n) + k - 1) / k else 0).toNat).map fun (i : Nat) => (max 0 (min j n) + k * (i : Int)).toNat
noncomputable def stepL {α : Type} (l : List α) (j k : Int) : List α := (stepIdx l.length j k).filterMap fun i => l[i]?

/-! what a value is -/
noncomputable def boolOf : V → Option Bool | .bool b => some b | _ => none
noncomputable def intOf : V → Option Int | .int b => some b | _ => none
noncomputable def txtOf : V → Option (List Nat) | .str b => some b | _ => none
noncomputable def tupOf : V → Option (List V) | .tup b => some b | _ => none
noncomputable def lstOf : V → Option (List V) | .lst b => some b | _ => none
noncomputable def refOf : V → Option Nat | .ref b => some b | _ => none
noncomputable def fnOf : V → Option Nat | .fn b => some b | _ => none
noncomputable def listAt (h : H) : V → Option (List V) | .lst l => some l | .ref n => h[n]? | _ => none
noncomputable def isN : V → Bool | .none => true | _ => false
noncomputable def isS : V → Bool | .none => false | _ => true
noncomputable def pick {α : Type} (a b : Option α) : Option α := match a with | some x => some x | none => b
noncomputable def ints2 {β : Type} (a b : V) (k : Int → Int → Option β) : Option β := (intOf a).bind fun x => (intOf b).bind fun y => k x y
noncomputable def strs2 {β : Type} (a b : V) (k : List Nat → List Nat → Option β) : Option β := (txtOf a).bind fun x => (txtOf b).bind fun y => k x y
noncomputable def ofK {α β : Type} (o : Option α) (k : α → R β) : R β := match o with | some v => k v | none => .stuck
noncomputable def ofO {α : Type} (o : Option α) (h : H) : R α := ofK o fun v => .ok v h
noncomputable def okR {α β : Type} (r : R α) (k : α → H → R β) : R β := match r with | .ok a h => k a h | _ => .stuck
noncomputable def ifR {α : Type} (o : Option Bool) (a b : R α) : R α := ofK o fun t => if t = true then a else b

/-- the items of a sequence -/
noncomputable def items (h : H) (v : V) : Option (List V) := pick (tupOf v) (pick (listAt h v) ((txtOf v).map fun l => l.map fun c => .str [c]))

/-- data alone: what == looks into (cells are read) -/
noncomputable def plainV (h : H) : Nat → V → Option V
  | 0, _ => none
  | _ + 1, .none => some .none
  | _ + 1, .bool b => some (.bool b)
  | _ + 1, .int i => some (.int i)
  | _ + 1, .str l => some (.str l)
  | k + 1, .tup vs => (vs.mapM (plainV h k)).map .tup
  | k + 1, .lst vs => (vs.mapM (plainV h k)).map .lst
  | k + 1, .ref n => (h[n]?).bind fun vs => (vs.mapM (plainV h k)).map .lst
  | _ + 1, _ => none

open Classical in
noncomputable def eqD (h : H) (a b : V) : Option Bool := (plainV h 8 a).bind fun x => (plainV h 8 b).bind fun y => if x = y then some true else
  (lstOf x).bind fun l => (lstOf y).bind fun m => if l.isEmpty = false ∧ m = [] then some false else none
/-- equal: shown for texts, ints2, bools; for the rest where both are the same data, or one is an empty list -/
noncomputable def eqV (h : H) (a b : V) : Option Bool := pick (strs2 a b fun x y => some (x == y)) (pick (ints2 a b fun x y => some (x == y)) (pick ((boolOf a).bind fun x => (boolOf b).bind fun y => some (x == y)) (eqD h a b)))

noncomputable def strsOf : List V → Option (List (List Nat))
  | [] => some []
  | .str p :: r => (strsOf r).map (p :: ·)
  | _ :: _ => none
noncomputable def intsOf : List V → Option (List Int)
  | [] => some []
  | .int p :: r => (intsOf r).map (p :: ·)
  | _ :: _ => none
noncomputable def in1 (l : List Nat) : List Nat → Option Bool | [] => some true | [c] => some (l.contains c) | _ => none
noncomputable def inStrs (vs : List V) (p : List Nat) : Option Bool := (strsOf vs).map fun ys => ys.any (· == p)
noncomputable def inV (x y : V) : Option Bool := pick ((txtOf y).bind fun l => (txtOf x).bind (in1 l)) (pick ((tupOf y).bind fun vs => (txtOf x).bind (inStrs vs))
  ((lstOf y).bind fun vs => pick ((txtOf x).bind (inStrs vs)) ((intOf x).bind fun p => (intsOf vs).map fun ys => ys.any (· == p))))

noncomputable def cmpV (o : CO) (h : H) (a b : V) : Option Bool := match o with
  | .eq => eqV h a b
  | .ne => (eqV h a b).map (!·)
  | .isin => inV a b
  | .notin => (inV a b).map (!·)
  | .lt => ints2 a b fun x y => some (decide (x < y))
  | .le => pick (ints2 a b fun x y => some (decide (x ≤ y))) (strs2 a b fun x y => some (!decide (y < x)))
  | .gt => ints2 a b fun x y => some (decide (y < x))
  | .ge => ints2 a b fun x y => some (decide (y ≤ x))

noncomputable def small (i : Int) : Bool := decide (-(2 ^ 62) < i) && decide (i < 2 ^ 62)

noncomputable def binV (o : BO) (h : H) (a b : V) : Option V := match o with
  | .add => pick (ints2 a b fun x y => some (.int (x + y))) (pick (strs2 a b fun x y => if x.length + y.length ≤ big then some (.str (x ++ y)) else none)
      ((listAt h a).bind fun x => (lstOf b).bind fun y => if x.length + y.length ≤ big then some (.lst (x ++ y)) else none))
  | .sub => ints2 a b fun x y => some (.int (x - y))
  | .mul => pick (ints2 a b fun x y => if small x = true ∧ small y = true then some (.int (x * y)) else none)
      ((txtOf a).bind fun x => (intOf b).bind fun y => if 0 ≤ y ∧ y ≤ 64 ∧ x.length ≤ 64 then some (.str (List.replicate y.toNat x).flatten) else none)
  | .fdiv => ints2 a b fun x y => if 0 < y ∧ y < 1073741824 then some (.int (x / y)) else none
  | .mod => ints2 a b fun x y => if 0 < y then some (.int (x % y)) else none
  | .pow => ints2 a b fun x y => if x = 2 ∧ y = 63 then some (.int 9223372036854775808) else none
  | .shr => ints2 a b fun x y => if 0 ≤ x ∧ 0 ≤ y ∧ y ≤ 64 ∧ small x = true then some (.int (x / 2 ^ y.toNat)) else none
  | .band => ints2 a b fun x y => if 0 ≤ x ∧ 0 ≤ y then some (.int ((x.toNat &&& y.toNat : Nat) : Int)) else none

noncomputable def truth (h : H) (v : V) : Option Bool := pick (boolOf v) ((refOf v).bind fun n => (h[n]?).map (!·.isEmpty))

noncomputable def atL {α : Type} (l : List α) (k : Int) : Option α := if 0 ≤ k then l[k.toNat]? else none
noncomputable def atE {α : Type} (l : List α) (k : Int) : Option α := if 0 ≤ k then l[k.toNat]? else if -k ≤ l.length then l[(k + l.length).toNat]? else none
noncomputable def idxV (h : H) (a i : V) : Option V := (intOf i).bind fun k => pick ((txtOf a).bind fun l => (atL l k).map fun c => .str [c]) (pick ((tupOf a).bind fun l => atL l k) ((listAt h a).bind fun l => atE l k))

noncomputable def bnd : V → Option (Option Int)
  | .none => some none
  | .int i => some (some i)
  | _ => none
noncomputable def slcV (a lo hi : V) : Option V := (bnd lo).bind fun x => (bnd hi).bind fun y => pick ((txtOf a).map fun l => .str (sliceL l x y)) ((lstOf a).map fun l => .lst (sliceL l x y))
noncomputable def slstV (a lo st : V) : Option V := (lstOf a).bind fun l => ints2 lo st fun j k => if 0 ≤ j ∧ 0 < k then some (.lst (stepL l j k)) else none

noncomputable def ord1 : List Nat → Option V | [c] => some (.int c) | _ => none
noncomputable def p1O (p : P1) (a : V) (h : H) : Option (V × H) := match p with
  | .len => pick ((txtOf a).map fun l => (.int l.length, h)) (pick ((listAt h a).map fun l => (.int l.length, h)) ((tupOf a).map fun l => (.int l.length, h)))
  | .ord => ((txtOf a).bind ord1).map fun v => (v, h)
  | .chr => (intOf a).bind fun i => if 0 ≤ i ∧ i < 1114112 then some (.str [i.toNat], h) else none
  | .sum => (lstOf a).bind fun l => (intsOf l).map fun is => (.int is.sum, h)
  | .min => (lstOf a).bind fun l => (intsOf l).bind fun is => (is.min?).map fun m => (.int m, h)
  | .str => (intOf a).bind fun i => if small i = true then some (.str (textOf i), h) else none
  | .lower => (txtOf a).bind fun l => if l.all (fun c => decide (c < 128)) = true then some (.str (l.map lowerC), h) else none
  | .tuple => (refOf a).bind fun n => (h[n]?).map fun l => (.tup l, h)
  | .isint => pick ((intOf a).map fun _ => (.bool true, h)) ((txtOf a).map fun _ => (.bool false, h))
  | .clear => (refOf a).bind fun n => (h[n]?).map fun _ => (.none, h.set n [])
  | .pop => (refOf a).bind fun n => (h[n]?).bind fun l => (l.getLast?).map fun v => (v, h.set n l.dropLast)
noncomputable def p1V (p : P1) (a : V) (h : H) : R V := ofK (p1O p a h) fun q => .ok q.1 q.2

noncomputable def cnt1 (l : List Nat) : List Nat → Option V | [c] => some (.int (l.count c)) | _ => none
noncomputable def spl1 (l : List Nat) : List Nat → Option V | [c] => if l.length < big then some (.lst ((splitC c l []).map .str)) else none | _ => none
noncomputable def p2O (p : P2) (a b : V) (h : H) : Option (V × H) := match p with
  | .max => ints2 a b fun x y => some (.int (if x < y then y else x), h)
  | .find => strs2 a b fun l p => some (.int (findL l p 0), h)
  | .count => strs2 a b fun l p => (cnt1 l p).map fun v => (v, h)
  | .split => strs2 a b fun l p => (spl1 l p).map fun v => (v, h)
  | .lstrip => strs2 a b fun l p => some (.str (l.dropWhile p.contains), h)
  | .join => (txtOf a).bind fun s => (refOf b).bind fun n => (h[n]?).bind fun l => (joinL l).bind fun x => if s = [] ∧ x.length ≤ big then some (.str x, h) else none
  | .append => (refOf a).bind fun n => (h[n]?).bind fun l => if l.length < big then some (.none, h.set n (l ++ [b])) else none
noncomputable def p2V (p : P2) (a b : V) (h : H) : R V := ofK (p2O p a b h) fun q => .ok q.1 q.2

noncomputable def p3O (p : P3) (a b c : V) (h : H) : Option (V × H) := match p with
  | .find => strs2 a b fun l p => (intOf c).bind fun i => if 0 ≤ i ∧ i ≤ big ∧ p ≠ [] then some (.int (findL l p i.toNat), h) else none
  | .get => none
noncomputable def p3V (p : P3) (a b c : V) (h : H) : R V := ofK (p3O p a b c h) fun q => .ok q.1 q.2

noncomputable def attrV (a : V) (f : Nat) : Option V := match a with
  | .tok s v l => match f with | 0 => some s | 1 => some v | 2 => some l | _ => none
  | _ => none

noncomputable def isStrV : V → Bool | .str _ => true | _ => false
noncomputable def isRefV : V → Bool | .ref _ => true | _ => false
/-- on what a method is called -/
noncomputable def recv2 (p : P2) (x : V) : Bool := match p with | .max => true | .append => isRefV x | _ => isStrV x
abbrev Calls := Nat → List V → H → R V

/-- the loop of a comprehension -/
noncomputable def cloop (elt cond : V → H → R V) : List V → H → List V → R V
  | [], h, acc => .ok (.lst acc) h
  | v :: r, h, acc => okR (cond v h) fun b h₁ => ifR (boolOf b) (okR (elt v h₁) fun x h₂ => cloop elt cond r h₂ (acc ++ [x])) (cloop elt cond r h₁ acc)
noncomputable def getV (loc : L) (i : Nat) : Option V := (loc[i]?).bind id
noncomputable def capVals (loc : L) : List Nat → Option L
  | [] => some []
  | i :: r => (getV loc i).bind fun v => (capVals loc r).map (some v :: ·)

/-! what is done with values -/
noncomputable def varR (o : Option (Option V)) (h : H) : R V := ofO (o.bind id) h
noncomputable def boolR (y : V) (h : H) : R V := ofK (boolOf y) fun c => .ok (.bool c) h
noncomputable def andR (x : V) (h : H) (m : R V) : R V := ofK (boolOf x) fun c => if c = true then m.bind boolR else .ok (.bool false) h
noncomputable def orR (x : V) (h : H) (m : R V) : R V := ofK (boolOf x) fun c => if c = true then .ok (.bool true) h else m.bind boolR
noncomputable def notR (x : V) (h : H) : R V := ofK (boolOf x) fun c => .ok (.bool (!c)) h
noncomputable def negR (x : V) (h : H) : R V := ofK (intOf x) fun i => .ok (.int (-i)) h
noncomputable def noneR (x : V) (h : H) : R V := .ok (.bool (isN x)) h
noncomputable def someR (x : V) (h : H) : R V := .ok (.bool (isS x)) h
noncomputable def tokOf : List V → Option V | [a, b, c] => some (.tok a b c) | _ => none
noncomputable def mkR (vs : List V) (h : H) : R V := ofO (tokOf vs) h

mutual
noncomputable def mev (C : Calls) : ME → L → H → R V
  | .none, _, h => .ok .none h
  | .bool b, _, h => .ok (.bool b) h
  | .int i, _, h => .ok (.int i) h
  | .str l, _, h => .ok (.str l) h
  | .var i, loc, h => varR loc[i]? h
  | .glob f, _, h => .ok (.fn f) h
  | .bin o a b, loc, h => (mev C a loc h).bind fun x h => (mev C b loc h).bind fun y h => ofO (binV o h x y) h
  | .cmp o a b, loc, h => (mev C a loc h).bind fun x h => (mev C b loc h).bind fun y h => ofO ((cmpV o h x y).map .bool) h
  | .cmp2 o p a b c, loc, h => (mev C a loc h).bind fun x h => (mev C b loc h).bind fun y h => ifR (cmpV o h x y) ((mev C c loc h).bind fun z h => ofO ((cmpV p h y z).map .bool) h) (.ok (.bool false) h)
  | .isnone a, loc, h => (mev C a loc h).bind noneR
  | .notnone a, loc, h => (mev C a loc h).bind someR
  | .and a b, loc, h => (mev C a loc h).bind fun x h => andR x h (mev C b loc h)
  | .or a b, loc, h => (mev C a loc h).bind fun x h => orR x h (mev C b loc h)
  | .not a, loc, h => (mev C a loc h).bind notR
  | .neg a, loc, h => (mev C a loc h).bind negR
  | .ite t a b, loc, h => (mev C t loc h).bind fun x h => ifR (truth h x) (mev C a loc h) (mev C b loc h)
  | .idx a i, loc, h => (mev C a loc h).bind fun x h => (mev C i loc h).bind fun y h => ofO (idxV h x y) h
  | .slc a lo hi, loc, h => (mev C a loc h).bind fun x h => (mev C lo loc h).bind fun y h => (mev C hi loc h).bind fun z h => ofO (slcV x y z) h
  | .slst a lo st, loc, h => (mev C a loc h).bind fun x h => (mev C lo loc h).bind fun y h => (mev C st loc h).bind fun z h => ofO (slstV x y z) h
  | .attr a f, loc, h => (mev C a loc h).bind fun x h => ofO (attrV x f) h
  | .call f as, loc, h => (mevs C as loc h).bind fun vs h => C f vs h
  | .callv i as, loc, h => ofK ((getV loc i).bind fnOf) fun f => (mevs C as loc h).bind fun vs h => C f vs h
  | .mk as, loc, h => (mevs C as loc h).bind mkR
  | .p1 p a, loc, h => (mev C a loc h).bind fun x h => p1V p x h
  | .p2 p a b, loc, h => (mev C a loc h).bind fun x h => if recv2 p x = true then (mev C b loc h).bind fun y h => p2V p x y h else .stuck
  | .p3 p a b c, loc, h => (mev C a loc h).bind fun x h => if isStrV x = true then (mev C b loc h).bind fun y h => (mev C c loc h).bind fun z h => p3V p x y z h else .stuck
  | .tup es, loc, h => (mevs C es loc h).bind fun vs h => .ok (.tup vs) h
  | .list es, loc, h => (mevs C es loc h).bind fun vs h => .ok (.lst vs) h
  | .cell es, loc, h => (mevs C es loc h).bind fun vs h => .ok (.ref h.length) (h ++ [vs])
  | .dead, _, _ => .stuck
  | .comp caps it elt cond, loc, h => ofK (capVals loc caps) fun cvs => (mev C it loc h).bind fun x h => ofK (lstOf x) fun vs => cloop (fun v h => mev C elt (some v :: cvs) h) (fun v h => mev C cond (some v :: cvs) h) vs h []
noncomputable def mevs (C : Calls) : MEs → L → H → R (List V)
  | .nil, _, h => .ok [] h
  | .cons e r, loc, h => (mev C e loc h).bind fun x h => (mevs C r loc h).bind fun xs h => .ok (x :: xs) h
end

noncomputable def setAll : List Nat → List V → L → Option L
  | [], [], loc => some loc
  | i :: r, v :: vs, loc => setAll r vs (loc.set i (some v))
  | _, _, _ => none

noncomputable def seqR (f : Fl) (h : H) (k : L → H → R Fl) : R Fl := match f with | .next loc => k loc h | .ret v => .ok (.ret v) h
noncomputable def wloop (test : L → H → R V) (body : L → H → R Fl) : Nat → L → H → R Fl
  | 0, _, _ => .stuck
  | n + 1, loc, h => (test loc h).bind fun b h => ifR (truth h b) ((body loc h).bind fun f h => seqR f h (wloop test body n)) (.ok (.next loc) h)

noncomputable def floop (body : V → L → H → R Fl) : List V → L → H → R Fl
  | [], loc, h => .ok (.next loc) h
  | v :: r, loc, h => (body v loc h).bind fun f h => seqR f h (floop body r)

noncomputable def rangeV (lo hi : V) : Option (List V) := ints2 lo hi fun a b => if -1000 < a ∧ a < big ∧ b < big ∧ -1000 < b then some ((List.range (b - a).toNat).map fun (i : Nat) => V.int (a + (i : Int))) else none

noncomputable def unpR (is : List Nat) (loc : L) (v : V) (h : H) : R Fl := ofK (tupOf v) fun vs => ofK (setAll is vs loc) fun loc => .ok (.next loc) h
noncomputable def augR (i : Nat) (loc : L) (x y : V) (h : H) : R Fl := ofK (intOf x) fun x => ofK (intOf y) fun y => .ok (.next (loc.set i (some (.int (x + y))))) h
noncomputable def raiseR (x y : V) (h : H) : R Fl := ofK (txtOf x) fun w => ofK (intOf y) fun l => .pf w l h
noncomputable def endR (y : V) (h : H) : R Fl := ofK (intOf y) fun l => .pf [115, 121, 110, 116, 97, 120, 32, 101, 114, 114, 111, 114, 44, 32, 117, 110, 101, 120, 112, 101, 99, 116, 101, 100, 32, 101, 110, 100, 32, 111, 102, 32, 102, 105, 108, 101] l h
noncomputable def itemsR (o : Option (List V)) (k : List V → R Fl) : R Fl := ofK o k
noncomputable def placeOf (k : Int) (n : Nat) : Option Nat := if 0 ≤ k ∧ k.toNat < n then some k.toNat else if k < 0 ∧ -k ≤ n then some (n - (-k).toNat) else none
noncomputable def setR (loc : L) (x k v : V) (h : H) : R Fl := ofK (refOf x) fun n => ofK (intOf k) fun k => ofK (h[n]?) fun l => ofK (placeOf k l.length) fun j => .ok (.next loc) (h.set n (l.set j v))
noncomputable def tryK (i : Nat) (loc : L) : R V → R Fl
  | .stuck => .stuck
  | .ok v h => .ok (.next (loc.set i (some v))) h
  | .pf w l h => .ok (.ret (.tup [.str [114, 101, 102, 117, 115, 101, 100], .str w, .int l])) h

noncomputable def mex (C : Calls) (N : Nat) : MS → L → H → R Fl
  | .skip, loc, h => .ok (.next loc) h
  | .seq a b, loc, h => (mex C N a loc h).bind fun f h => seqR f h (mex C N b)
  | .assign i e, loc, h => (mev C e loc h).bind fun v h => .ok (.next (loc.set i (some v))) h
  | .unpack is e, loc, h => (mev C e loc h).bind fun v h => unpR is loc v h
  | .pair i j a b, loc, h => (mev C a loc h).bind fun x h => (mev C b loc h).bind fun y h => .ok (.next ((loc.set j (some y)).set i (some x))) h
  | .aug i _ e, loc, h => (mev C (.var i) loc h).bind fun x h => (mev C e loc h).bind fun y h => augR i loc x y h
  | .setidx a i e, loc, h => (mev C e loc h).bind fun v h => (mev C a loc h).bind fun x h => (mev C i loc h).bind fun k h => setR loc x k v h
  | .ite t a b, loc, h => (mev C t loc h).bind fun x h => ifR (truth h x) (mex C N a loc h) (mex C N b loc h)
  | .while t b, loc, h => wloop (mev C t) (mex C N b) N loc h
  | .for x it b, loc, h => (mev C it loc h).bind fun v h => if isRefV v = true then .stuck else itemsR (items h v) fun vs => floop (fun v loc h => mex C N b (loc.set x (some v)) h) vs loc h
  | .forT is it b, loc, h => (mev C it loc h).bind fun v h => if isRefV v = true then .stuck else itemsR (items h v) fun vs => floop (fun v loc h => ofK ((tupOf v).bind fun ws => setAll is ws loc) fun loc => mex C N b loc h) vs loc h
  | .forR x lo hi b, loc, h => (mev C lo loc h).bind fun a h => (mev C hi loc h).bind fun c h => itemsR (rangeV a c) fun vs => floop (fun v loc h => mex C N b (loc.set x (some v)) h) vs loc h
  | .ret e, loc, h => (mev C e loc h).bind fun v h => .ok (.ret v) h
  | .raise w l, loc, h => (mev C w loc h).bind fun x h => (mev C l loc h).bind fun y h => raiseR x y h
  | .raiseEnd l, loc, h => (mev C l loc h).bind endR
  | .expr e, loc, h => (mev C e loc h).bind fun _ h => .ok (.next loc) h
  | .dead, _, _ => .stuck
  | .tryR i e, loc, h => tryK i loc (mev C e loc h)

/-- at a call's end: cells that the call made become values -/
noncomputable def frz (h : H) (n : Nat) : Nat → V → Option V
  | 0, _ => none
  | k + 1, .tup vs => (vs.mapM (frz h n k)).map .tup
  | k + 1, .lst vs => (vs.mapM (frz h n k)).map .lst
  | k + 1, .tok a b c => (frz h n k a).bind fun a => (frz h n k b).bind fun b => (frz h n k c).bind fun c => some (.tok a b c)
  | k + 1, .ref m => if m < n then some (.ref m) else (h[m]?).bind fun vs => (vs.mapM (frz h n k)).map .lst
  | _ + 1, v => some v

open Classical in
noncomputable def backO (h₀ : H) (v : V) (h : H) : Option (V × H) := if h.length = h₀.length then some (v, h)
  else if h.take h₀.length = h₀ then (frz h h₀.length 9 v).map fun v => (v, h₀)
  else (frz h h₀.length 9 v).bind fun v => ((h.take h₀.length).mapM (fun c : List V => c.mapM (frz h h₀.length 9))).map fun h => (v, h)
noncomputable def back (h₀ : H) (v : V) (h : H) : R V := ofK (backO h₀ v h) fun q => .ok q.1 q.2
noncomputable def backPf (h₀ : H) (w : List Nat) (l : Int) (h : H) : R V := ofK (backO h₀ .none h) fun q => .pf w l q.2

structure FD where
  np : Nat
  nv : Nat
  body : MS

noncomputable def callR (h : H) : R Fl → R V
  | .stuck => .stuck
  | .ok (.ret v) h' => back h v h'
  | .ok (.next _) h' => back h .none h'
  | .pf w l h' => backPf h w l h'
noncomputable def sem (T : Nat → Option FD) (N : Nat) : Nat → Calls
  | 0, _, _, _ => .stuck
  | k + 1, f, args, h => ofK (T f) fun d => if args.length = d.np then callR h (mex (sem T N k) N d.body (args.map some ++ List.replicate (d.nv - d.np) none) h) else .stuck
theorem sem_call {T : Nat → Option FD} {N k f : Nat} {args : List V} {h : H} {d : FD} (hd : T f = some d) (hn : args.length = d.np) : sem T N (k + 1) f args h = callR h (mex (sem T N k) N d.body (args.map some ++ List.replicate (d.nv - d.np) none) h) := by
  show ofK (T f) _ = _
  rw [hd]; exact if_pos hn

end Mine
end
section
set_option Elab.async false
set_option linter.all false
set_option genInjectivity false
set_option genSizeOf false
namespace Mine
open PySem PySem.Spec PySem.Calls PyProof.Rows

/-- what does not change in a whole call of the law -/
structure Cfg where
  prog : Program
  w : World
  h₀ : Heap
  mg : PySem.Str → Option Value
  mb : PySem.Str → Option Value
  fnA : Nat → Option Addr
  tokC : Addr
  pfC : Addr

abbrev Tri := Value × Option Addr × Data
noncomputable def Obj.is (o : Obj) (x : Tri) : Prop := o.cls = x.1 ∧ o.dict = x.2.1 ∧ o.data = x.2.2

/-- the ghost: objects that will not change any more; the cells' addresses -/
structure Gh where
  im : Addr → Option Tri
  σ : List Addr
noncomputable def Gh.le (g g' : Gh) : Prop := (∀ a x, g.im a = some x → g'.im a = some x) ∧ ∃ r, g'.σ = g.σ ++ r
theorem Gh.le_refl (g : Gh) : g.le g := ⟨fun _ _ e => e, [], by simp⟩
theorem Gh.le_trans {g₁ g₂ g₃ : Gh} (a : g₁.le g₂) (b : g₂.le g₃) : g₁.le g₃ := by
  obtain ⟨a1, r, a2⟩ := a
  obtain ⟨b1, t, b2⟩ := b
  exact ⟨fun x y e => b1 x y (a1 x y e), r ++ t, by rw [b2, a2, List.append_assoc]⟩
theorem Gh.le_get {g g' : Gh} (l : g.le g') {n : Nat} {a : Addr} (e : g.σ[n]? = some a) : g'.σ[n]? = some a := by
  obtain ⟨_, r, h⟩ := l
  have hn : n < g.σ.length := (List.getElem?_eq_some_iff.mp e).1
  rw [h, List.getElem?_append_left hn, e]

noncomputable def strOf (l : List Nat) : PySem.Str := ⟨l.toArray⟩

structure TokD where
  dx : Addr
  es : Array DictEntry
  n : Nat
  cl : Value
  dd : Option Addr
  dt : Data
structure TokO (C : Cfg) (g : Gh) (a : Addr) (x y z : Value) (d : TokD) : Prop where
  im : g.im a = some (.ref C.tokC, some d.dx, d.dt)
  dim : g.im d.dx = some (d.cl, d.dd, .dict d.es d.n)
  ne : d.dx ≠ a
  noCls : ∀ c, d.dt ≠ .cls c
  keys : StrKeys d.es
  uniq : UniqKeys d.es
  fs : nsFind d.es (Str.ofString "sort") = some x
  fv : nsFind d.es (Str.ofString "value") = some y
  fl : nsFind d.es (Str.ofString "line") = some z
/-- a token of the text's class -/
noncomputable def TokAt (C : Cfg) (g : Gh) (a : Addr) (x y z : Value) : Prop := ∃ d, TokO C g a x y z d
structure TxtOK (l : List Nat) : Prop where
  len : l.length ≤ sizeLine
  cps : ∀ c ∈ l, c < 1114112
/-- a tuple or a list that will not change any more -/
noncomputable def SeqIm (g : Gh) (T : String) (p : Addr) (its : List Value) : Prop := ∃ d n, g.im p = some (.type T, d, .seq its.toArray n)
mutual
/-- what a value of the small language is in the heap -/
noncomputable def VR (C : Cfg) (g : Gh) : V → Value → Prop
  | .none, a => a = .none
  | .bool b, a => a = .bool b
  | .int i, a => ∃ t, a = .int i t
  | .str l, a => ∃ t, a = .str (strOf l) t ∧ TxtOK l
  | .tup vs, a => ∃ (p : Addr) (its : List Value), a = .ref p ∧ SeqIm g "tuple" p its ∧ VRs C g vs its ∧ vs.length ≤ big
  | .lst vs, a => ∃ (p : Addr) (its : List Value), a = .ref p ∧ SeqIm g "list" p its ∧ VRs C g vs its ∧ vs.length ≤ big
  | .ref n, a => ∃ p, a = .ref p ∧ g.σ[n]? = some p
  | .tok s v l, a => ∃ p x y z, a = .ref p ∧ TokAt C g p x y z ∧ VR C g s x ∧ VR C g v y ∧ VR C g l z
  | .fn f, a => ∃ p, a = .ref p ∧ C.fnA f = some p
noncomputable def VRs (C : Cfg) (g : Gh) : List V → List Value → Prop
  | [], xs => xs = []
  | v :: vs, xs => ∃ x r, xs = x :: r ∧ VR C g v x ∧ VRs C g vs r
end
section
variable {C : Cfg} {g : Gh}
theorem VR.none : VR C g .none .none := rfl
theorem VR.bool (b : Bool) : VR C g (.bool b) (.bool b) := rfl
theorem VR.int (i : Int) (t : Tok) : VR C g (.int i) (.int i t) := ⟨t, rfl⟩
theorem VR.txt {l : List Nat} {t : Tok} (h : TxtOK l) : VR C g (.str l) (.str (strOf l) t) := ⟨t, rfl, h⟩
theorem VR.tup {vs : List V} {a : Addr} {its : List Value} (h : SeqIm g "tuple" a its) (r : VRs C g vs its) (hb : vs.length ≤ big) : VR C g (.tup vs) (.ref a) := ⟨a, its, rfl, h, r, hb⟩
theorem VR.lst {vs : List V} {a : Addr} {its : List Value} (h : SeqIm g "list" a its) (r : VRs C g vs its) (hb : vs.length ≤ big) : VR C g (.lst vs) (.ref a) := ⟨a, its, rfl, h, r, hb⟩
theorem VR.ref (n : Nat) (a : Addr) (h : g.σ[n]? = some a) : VR C g (.ref n) (.ref a) := ⟨a, rfl, h⟩
theorem VR.fn (f : Nat) (a : Addr) (h : C.fnA f = some a) : VR C g (.fn f) (.ref a) := ⟨a, rfl, h⟩
theorem VRs.nil : VRs C g [] [] := rfl
theorem VRs.cons {v : V} {x : Value} {vs : List V} {xs : List Value} (h : VR C g v x) (r : VRs C g vs xs) : VRs C g (v :: vs) (x :: xs) := ⟨x, xs, rfl, h, r⟩
end
theorem TokAt.mono {C : Cfg} {g g' : Gh} (l : ∀ a x, g.im a = some x → g'.im a = some x) {a : Addr} {x y z : Value} (t : TokAt C g a x y z) : TokAt C g' a x y z :=
  t.imp fun _ h => { h with im := l _ _ h.im, dim := l _ _ h.dim }
theorem SeqIm.mono {g g' : Gh} (l : ∀ a x, g.im a = some x → g'.im a = some x) {T : String} {p : Addr} {its : List Value} (h : SeqIm g T p its) : SeqIm g' T p its := h.imp fun _ h => h.imp fun _ => l _ _

mutual
theorem VR.mono {C : Cfg} {g g' : Gh} (l : g.le g') : ∀ {v : V} {x : Value}, VR C g v x → VR C g' v x
  | .none, _, h => h
  | .bool b, _, h => h
  | .int i, _, h => h
  | .str s, _, h => h
  | .tup vs, _, h => h.imp fun _ h => h.imp fun _ h => ⟨h.1, h.2.1.mono l.1, VRs.mono l h.2.2.1, h.2.2.2⟩
  | .lst vs, _, h => h.imp fun _ h => h.imp fun _ h => ⟨h.1, h.2.1.mono l.1, VRs.mono l h.2.2.1, h.2.2.2⟩
  | .ref n, _, h => h.imp fun _ h => ⟨h.1, Gh.le_get l h.2⟩
  | .tok s v w, _, h => h.imp fun _ h => h.imp fun _ h => h.imp fun _ h => h.imp fun _ h => ⟨h.1, h.2.1.mono l.1, VR.mono l h.2.2.1, VR.mono l h.2.2.2.1, VR.mono l h.2.2.2.2⟩
  | .fn f, _, h => h
theorem VRs.mono {C : Cfg} {g g' : Gh} (l : g.le g') : ∀ {vs : List V} {xs : List Value}, VRs C g vs xs → VRs C g' vs xs
  | [], _, h => h
  | _ :: _, _, h => h.imp fun _ h => h.imp fun _ h => ⟨h.1, VR.mono l h.2.1, VRs.mono l h.2.2⟩
end
theorem VRs.length {C : Cfg} {g : Gh} {vs : List V} : ∀ {xs : List Value}, VRs C g vs xs → xs.length = vs.length := by
  induction vs with
  | nil => exact fun h => congrArg List.length h
  | cons v vs ih => exact fun h => h.elim fun _ h => h.elim fun _ h => h.1 ▸ congrArg (· + 1) (ih h.2.2)
theorem VRs.get {C : Cfg} {g : Gh} {v : V} {vs : List V} : ∀ {xs : List Value} {i : Nat}, VRs C g vs xs → vs[i]? = some v → ∃ x, xs[i]? = some x ∧ VR C g v x := by
  induction vs with
  | nil => exact fun _ e => nomatch e
  | cons w vs ih =>
    intro xs i h e
    refine h.elim fun x h => h.elim fun r h => h.1 ▸ ?_
    cases i with
    | zero => exact ⟨x, rfl, Option.some.inj e ▸ h.2.1⟩
    | succ i => exact ih (i := i) h.2.2 e
theorem VRs.append {C : Cfg} {g : Gh} {ws : List V} {ys : List Value} (s : VRs C g ws ys) {vs : List V} : ∀ {xs : List Value}, VRs C g vs xs → VRs C g (vs ++ ws) (xs ++ ys) := by
  induction vs with
  | nil => exact fun h => (show _ = _ from h) ▸ s
  | cons w vs ih => exact fun h => h.elim fun _ h => h.elim fun _ h => h.1 ▸ .cons h.2.1 (ih h.2.2)

/-- a frame of the walk -/
structure Fm where
  env : Env
  vars : List PySem.Str
  keeps : List (Addr × Tri)
  fr : List Env
/-- the addresses that turn -/
abbrev places (F : Fm) (g : Gh) : List Addr := F.env.locals :: (F.keeps.map (·.1) ++ g.σ)
noncomputable def New (C : Cfg) (g : Gh) (a : Addr) : Prop := C.h₀.get? a = none ∧ g.im a = none
/-- an address that the relation does not speak of -/
noncomputable def Off (C : Cfg) (F : Fm) (g : Gh) (a : Addr) : Prop := New C g a ∧ a ∉ places F g

/-- where a name of the block is read -/
noncomputable def Rd (env : Env) (g : Gh) (m : PySem.Str → Option Value) (x : PySem.Str) (val : Value) : Prop :=
  (env.kindOf x = some .local ∧ m x = some val) ∨
  (∃ c d, (env.kindOf x = some .cell ∨ env.kindOf x = some .free) ∧ env.cells.lookup x = some c ∧ ∃ cl, g.im c = some (cl, d, .cell (some val)))
structure LocAt (C : Cfg) (env : Env) (vars : List PySem.Str) (g : Gh) (m : PySem.Str → Option Value) (i : Nat) (v : V) (x : PySem.Str) (val : Value) : Prop where
  var : vars[i]? = some x
  rd : Rd env g m x val
  vr : VR C g v val
noncomputable def LocOK (C : Cfg) (env : Env) (vars : List PySem.Str) (g : Gh) (loc : L) (m : PySem.Str → Option Value) : Prop := ∀ (i : Nat) (v : V), loc[i]? = some (some v) → ∃ x val, LocAt C env vars g m i v x val
structure CellAt (C : Cfg) (g : Gh) (h : Heap) (i : Nat) (vs : List V) (a : Addr) (its : List Value) : Prop where
  pos : g.σ[i]? = some a
  pl : h.PlainList a its.toArray
  vrs : VRs C g vs its
  len : vs.length ≤ big

structure Rel (C : Cfg) (F : Fm) (g : Gh) (loc : L) (c : H) (h : Heap) : Prop where
  base : ∀ a o, C.h₀.get? a = some o → h.get? a = some o
  im : ∀ a x, g.im a = some x → ∃ o, h.get? a = some o ∧ Obj.is o x
  keep : ∀ p ∈ F.keeps, ∃ o, h.get? p.1 = some o ∧ Obj.is o p.2
  ns : ∃ m, h.Ns F.env.locals m ∧ LocOK C F.env F.vars g loc m
  clen : c.length = g.σ.length
  cell : ∀ (i : Nat) (vs : List V), c[i]? = some vs → ∃ a its, CellAt C g h i vs a its
  new : ∀ a ∈ places F g, New C g a
  apart : (places F g).Nodup

theorem Rd.mono {env : Env} {g g' : Gh} {m : PySem.Str → Option Value} {x : PySem.Str} {val : Value} (l : g.le g') (r : Rd env g m x val) : Rd env g' m x val :=
  r.imp id fun q => q.imp fun _ q => q.imp fun _ q => ⟨q.1, q.2.1, q.2.2.imp fun _ => l.1 _ _⟩
theorem LocOK.mono {C : Cfg} {env : Env} {vars : List PySem.Str} {g g' : Gh} {loc : L} {m : PySem.Str → Option Value} (l : g.le g') (r : LocOK C env vars g loc m) : LocOK C env vars g' loc m :=
  fun i v e => (r i v e).imp fun _ q => q.imp fun _ q => ⟨q.var, q.rd.mono l, q.vr.mono l⟩

/-- all but the objects xs stands as it was; frames may have been readied -/
noncomputable def Soft (xs frs : List Addr) (h h' : Heap) : Prop := ∀ b o, b ∉ xs → h.get? b = some o → ∃ sl, h'.get? b = some { o with slots := sl } ∧ (b ∉ frs → h'.get? b = some o)
theorem Soft.mk' {xs frs : List Addr} {h h' : Heap} (k : ∀ b o, b ∉ xs → h.get? b = some o → h'.get? b = some o) : Soft xs frs h h' := fun b o hb e => ⟨o.slots, k b o hb e, fun _ => k b o hb e⟩
theorem Soft.but {a : Addr} {h h' : Heap} (k : Heap.ExtBut a h h') : Soft [a] [] h h' := .mk' fun b o hb e => k b o (fun q => hb (by rw [q]; exact .head _)) e

section
variable {C : Cfg} {F : Fm} {g : Gh} {loc : L} {c : H} {h h' : Heap}

theorem some_none {α : Type} {P : Prop} {o : Option α} {x : α} (e : o = none) (q : o = some x) : P := nomatch e.symm.trans q
theorem Rel.at_locals (r : Rel C F g loc c h) : New C g F.env.locals ∧ F.env.locals ∉ F.keeps.map (·.1) ++ g.σ := ⟨r.new _ (.head _), (List.nodup_cons.mp r.apart).1⟩
theorem mem_keep {p : Addr × Tri} (hp : p ∈ F.keeps) : p.1 ∈ F.keeps.map (·.1) ++ g.σ := List.mem_append_left _ (List.mem_map_of_mem hp)
theorem mem_cell {a : Addr} {i : Nat} (ha : g.σ[i]? = some a) : a ∈ F.keeps.map (·.1) ++ g.σ := List.mem_append_right _ (List.mem_of_getElem? ha)

theorem Rel.soft (r : Rel C F g loc c h) {xs frs : List Addr} (k : Soft xs frs h h') (hx : ∀ a ∈ xs, Off C F g a) (hf : ∀ a ∈ frs, C.h₀.get? a = none ∧ a ∉ g.σ) : Rel C F g loc c h' :=
  { r with
    base := fun a o e => (k a o (fun q => some_none (hx a q).1.1 e) (r.base a o e)).elim fun _ q => q.2 fun z => some_none (hf a z).1 e
    im := fun a x e => (r.im a x e).elim fun o q => (k a o (fun z => some_none (hx a z).1.2 e) q.1).elim fun _ w => ⟨_, w.1, q.2⟩
    keep := fun p hp => (r.keep p hp).elim fun o q => (k p.1 o (fun z => (hx _ z).2 (.tail _ (mem_keep hp))) q.1).elim fun _ w => ⟨_, w.1, q.2⟩
    ns := r.ns.imp fun m q => ⟨q.1.elim fun o q => q.elim fun es q => q.elim fun ep q => (k _ o (fun z => (hx _ z).2 (.head _)) q.1).elim fun _ w => ⟨_, es, ep, w.1, q.2⟩, q.2⟩
    cell := fun i vs e => (r.cell i vs e).imp fun a q => q.imp fun its q => { q with pl := q.pl.imp fun n ho => (k a _ (fun z => (hx _ z).2 (.tail _ (mem_cell q.pos))) ho).elim fun _ w => w.2 fun z => (hf _ z).2 (List.mem_of_getElem? q.pos) } }

/-- a heap in which all that the relation speaks of is as it was -/
theorem Rel.keeps (r : Rel C F g loc c h) (k : ∀ a o, h.get? a = some o → h'.get? a = some o) : Rel C F g loc c h' := r.soft (xs := []) (frs := []) (.mk' fun b o _ => k b o) (fun _ q => nomatch q) (fun _ q => nomatch q)
theorem Rel.push (r : Rel C F g loc c h) (o : Obj) : Rel C F g loc c (h.push o) := r.keeps fun _ _ e => Heap.get?_push_of_some o e
theorem Rel.one (r : Rel C F g loc c h) {a : Addr} (k : Heap.ExtBut a h h') (ha : Off C F g a) : Rel C F g loc c h' := r.soft (.but k) (fun _ q => List.mem_singleton.mp q ▸ ha) (fun _ q => nomatch q)

theorem Rel.there (r : Rel C F g loc c h) {a : Addr} (m : a ∈ places F g) : ∃ o, h.get? a = some o :=
  (List.mem_cons.mp m).elim (fun q => q ▸ r.ns.elim fun _ n => n.1.imp fun _ n => n.elim fun _ n => n.elim fun _ n => n.1) fun m => (List.mem_append.mp m).elim
    (fun m => (List.mem_map.mp m).elim fun p hp => hp.2 ▸ (r.keep p hp.1).imp fun _ q => q.1)
    fun m => (List.getElem_of_mem m).elim fun i q => q.elim fun hi q => (r.cell i _ (List.getElem?_eq_getElem (r.clen ▸ hi))).elim fun b w => w.elim fun its w => w.pl.elim fun n ho => ⟨_, (show b = a from Option.some.inj (w.pos.symm.trans ((List.getElem?_eq_getElem hi).trans (congrArg some q)))) ▸ ho⟩
theorem Rel.none_of_new (r : Rel C F g loc c h) {a : Addr} (e : h.get? a = none) : Off C F g a :=
  ⟨⟨Option.eq_none_iff_forall_ne_some.mpr fun o q => some_none e (r.base a o q), Option.eq_none_iff_forall_ne_some.mpr fun x q => (r.im a x q).elim fun _ w => some_none e w.1⟩, fun m => (r.there m).elim fun _ q => some_none e q⟩
theorem get_none_size (h : Heap) : h.get? h.objs.size = none := Option.eq_none_iff_forall_ne_some.mpr fun _ q => absurd (Heap.lt_size q) (Nat.lt_irrefl _)
theorem Rel.fresh (r : Rel C F g loc c h) : Off C F g h.objs.size := r.none_of_new (get_none_size h)

noncomputable def Gh.put (g : Gh) (a : Addr) (x : Tri) : Gh := ⟨fun b => if b = a then some x else g.im b, g.σ⟩
theorem Gh.put_self {g : Gh} {a : Addr} {x : Tri} : (g.put a x).im a = some x := if_pos rfl
theorem Gh.put_ne {g : Gh} {a b : Addr} {x : Tri} (h : b ≠ a) : (g.put a x).im b = g.im b := if_neg h
theorem Gh.put_le {g : Gh} {a : Addr} {x : Tri} (n : g.im a = none) : g.le (g.put a x) :=
  ⟨fun b y e => (Gh.put_ne fun q => some_none n (q ▸ e)).trans e, [], (List.append_nil _).symm⟩

/-- an object that will not change any more, of those that stand apart -/
theorem Rel.put (r : Rel C F g loc c h) {a : Addr} {o : Obj} (ho : h.get? a = some o) (off : Off C F g a) : Rel C F (g.put a (o.cls, o.dict, o.data)) loc c h :=
  { r with
    im := fun b x e => if q : b = a then ⟨o, q ▸ ho, Option.some.inj (Gh.put_self.symm.trans (q ▸ e)) ▸ ⟨rfl, rfl, rfl⟩⟩ else r.im b x ((Gh.put_ne q).symm.trans e)
    ns := r.ns.imp fun m q => ⟨q.1, q.2.mono (Gh.put_le off.1.2)⟩
    cell := fun i vs e => (r.cell i vs e).imp fun b q => q.imp fun its q => { q with vrs := q.vrs.mono (Gh.put_le off.1.2) }
    new := fun b hb => ⟨(r.new b hb).1, (Gh.put_ne (a := a) (b := b) fun q => off.2 (q ▸ (show b ∈ places F g from hb))).trans (r.new b hb).2⟩ }
theorem Rel.pushIm (r : Rel C F g loc c h) (o : Obj) (hf : o.isFreed = false := by rfl) : Rel C F (g.put h.objs.size (o.cls, o.dict, o.data)) loc c (h.push o) :=
  (r.push o).put (Heap.get?_push_size h hf) r.fresh

theorem LocOK.set {m : PySem.Str → Option Value} {i : Nat} {x : PySem.Str} {v : V} {val : Value} (hr : LocOK C F.env F.vars g loc m) (hx : F.vars[i]? = some x) (hk : F.env.kindOf x = some .local) (hu : F.vars.Nodup) (hv : VR C g v val) :
    LocOK C F.env F.vars g (loc.set i (some v)) fun y => if y = x then some val else m y := fun j u e =>
  if q : j = i then ⟨x, val, q ▸ hx, .inl ⟨hk, if_pos rfl⟩, (show u = v by
      subst q
      rw [List.getElem?_set, if_pos rfl] at e
      split at e
      · exact (Option.some.inj (Option.some.inj e)).symm
      · cases e) ▸ hv⟩
  else (hr j u ((List.getElem?_set_ne (Ne.symm q)).symm.trans e)).imp fun y w => w.imp fun val' w =>
    ⟨w.var, w.rd.imp (fun z => ⟨z.1, (show (if y = x then some val else m y) = m y from if_neg fun z : y = x => q ((List.getElem?_inj (List.getElem?_eq_some_iff.mp w.var).1 hu).mp (w.var.trans (z ▸ hx.symm)))).trans z.2⟩) id, w.vr⟩
/-- what turns: all but the object a, which is new, stands -/
theorem Rel.part (r : Rel C F g loc c h) {a : Addr} (ha : a ∈ places F g) (hs : Heap.SameBut a h h') :
    (∀ b o, C.h₀.get? b = some o → h'.get? b = some o) ∧ (∀ b x, g.im b = some x → ∃ o, h'.get? b = some o ∧ Obj.is o x) :=
  ⟨fun b o e => (hs.2 b fun q => some_none (r.new a ha).1 (q ▸ e)).trans (r.base b o e), fun b y e => (r.im b y e).imp fun o q => ⟨(hs.2 b fun z => some_none (r.new a ha).2 (z ▸ e)).trans q.1, q.2⟩⟩
/-- a name of the block is stored -/
theorem Rel.store (r : Rel C F g loc c h) {i : Nat} {x : PySem.Str} {v : V} {val : Value} {m : PySem.Str → Option Value} (hr : LocOK C F.env F.vars g loc m)
    (hx : F.vars[i]? = some x) (hk : F.env.kindOf x = some .local) (hu : F.vars.Nodup) (hv : VR C g v val)
    (hn : h'.Ns F.env.locals (fun y => if y = x then some val else m y)) (hs : Heap.SameBut F.env.locals h h') : Rel C F g (loc.set i (some v)) c h' :=
  { r with
    base := (r.part (.head _) hs).1
    im := (r.part (.head _) hs).2
    keep := fun p hp => (r.keep p hp).imp fun o q => ⟨(hs.2 p.1 fun z => r.at_locals.2 (z ▸ mem_keep hp)).trans q.1, q.2⟩
    ns := ⟨_, hn, hr.set hx hk hu hv⟩
    cell := fun i vs e => (r.cell i vs e).imp fun a q => q.imp fun its q => { q with pl := q.pl.imp fun _ => (hs.2 a fun z => r.at_locals.2 (z ▸ mem_cell q.pos)).trans } }

theorem Rel.cells_apart (r : Rel C F g loc c h) : (∀ a ∈ g.σ, a ∉ F.keeps.map (·.1)) ∧ g.σ.Nodup :=
  have q := List.nodup_append.mp (List.nodup_cons.mp r.apart).2
  ⟨fun a ha hb => q.2.2 a hb a ha rfl, q.2.1⟩
theorem set_get {α : Type} {l : List α} {n : Nat} {x y : α} (e : (l.set n x)[n]? = some y) : x = y := by
  rw [List.getElem?_set, if_pos rfl] at e
  split at e
  · exact Option.some.inj e
  · cases e
/-- a cell is turned -/
theorem Rel.setCell (r : Rel C F g loc c h) {n : Nat} {a : Addr} {vs : List V} {its : List Value} (ha : g.σ[n]? = some a) (hv : VRs C g vs its) (hb : vs.length ≤ big)
    (hl : h'.PlainList a its.toArray) (hs : Heap.SameBut a h h') : Rel C F g loc (c.set n vs) h' :=
  { r with
    base := (r.part (.tail _ (mem_cell ha)) hs).1
    im := (r.part (.tail _ (mem_cell ha)) hs).2
    keep := fun p hp => (r.keep p hp).imp fun o q => ⟨(hs.2 p.1 fun z => r.cells_apart.1 a (List.mem_of_getElem? ha) (z ▸ List.mem_map_of_mem hp)).trans q.1, q.2⟩
    ns := r.ns.imp fun m q => ⟨q.1.sameBut hs fun z => r.at_locals.2 (z ▸ mem_cell ha), q.2⟩
    clen := List.length_set.trans r.clen
    cell := fun i us e => if q : i = n then ⟨a, its, q ▸ ha, hl, set_get (q ▸ e) ▸ hv, set_get (q ▸ e) ▸ hb⟩ else
      (r.cell i us ((List.getElem?_set_ne (Ne.symm q)).symm.trans e)).imp fun b w => w.imp fun js w => { w with pl := w.pl.imp fun _ => (hs.2 b fun z => q ((List.getElem?_inj (List.getElem?_eq_some_iff.mp w.pos).1 r.cells_apart.2).mp (w.pos.trans (z ▸ ha.symm)))).trans } }

noncomputable def Gh.cell (g : Gh) (a : Addr) : Gh := ⟨g.im, g.σ ++ [a]⟩
theorem Gh.cell_le {g : Gh} {a : Addr} : g.le (g.cell a) := ⟨fun _ _ e => e, [a], rfl⟩
theorem get_last {α : Type} {l : List α} {i : Nat} {x y : α} (e : (l ++ [x])[i]? = some y) : l[i]? = some y ∨ (i = l.length ∧ x = y) := by
  rcases Nat.lt_or_ge i l.length with q | q
  · exact .inl ((List.getElem?_append_left q).symm.trans e)
  · rw [List.getElem?_append_right q] at e
    have := (List.getElem?_eq_some_iff.mp e).1
    have z : i - l.length = 0 := Nat.lt_one_iff.mp this
    rw [z] at e
    exact .inr ⟨Nat.le_antisymm (Nat.sub_eq_zero_iff_le.mp z) q, Option.some.inj e⟩
/-- a new cell -/
theorem Rel.pushCell (r : Rel C F g loc c h) {vs : List V} {its : List Value} {n : Nat} (hv : VRs C g vs its) (hb : vs.length ≤ big) :
    Rel C F (g.cell h.objs.size) loc (c ++ [vs]) (h.push { cls := .type "list", data := .seq its.toArray n }) :=
  have R := r.push { cls := .type "list", data := .seq its.toArray n }
  { R with
    ns := R.ns.imp fun m q => ⟨q.1, q.2.mono Gh.cell_le⟩
    clen := (show (c ++ [vs]).length = (g.σ ++ [h.objs.size]).length by rw [List.length_append, List.length_append, r.clen]; rfl)
    cell := fun i us e => (get_last e).elim (fun e => (R.cell i us e).imp fun b w => w.imp fun js w => ⟨Gh.le_get Gh.cell_le w.pos, w.pl, w.vrs.mono Gh.cell_le, w.len⟩)
      fun q => ⟨h.objs.size, its, (show (g.σ ++ [h.objs.size])[i]? = _ by rw [q.1, r.clen]; exact List.getElem?_concat_length), ⟨n, Heap.get?_push_size h rfl⟩, q.2 ▸ hv.mono Gh.cell_le, q.2 ▸ hb⟩
    new := fun a ha => (List.mem_cons.mp ha).elim (fun q => q ▸ r.new _ (.head _)) fun m => (List.mem_append.mp m).elim (fun m => r.new _ (.tail _ (List.mem_append_left _ m))) fun m =>
      (List.mem_append.mp m).elim (fun m => r.new _ (.tail _ (List.mem_append_right _ m))) fun m => List.mem_singleton.mp m ▸ r.fresh.1
    apart := by
      show (F.env.locals :: (F.keeps.map (·.1) ++ (g.σ ++ [h.objs.size]))).Nodup
      rw [← List.append_assoc, ← List.cons_append]
      exact List.nodup_append.mpr ⟨r.apart, List.nodup_cons.mpr ⟨List.not_mem_nil, List.nodup_nil⟩, fun a ha b hb' q => r.fresh.2 (List.mem_singleton.mp hb' ▸ q ▸ ha)⟩ }
end

end Mine
end
section
set_option Elab.async false
set_option linter.all false
set_option genInjectivity false
set_option genSizeOf false
namespace Mine
open PySem PySem.Spec PySem.Calls PyProof.Rows

/-- an exception of the text's own, in flight -/
structure ExcD where
  oe : Obj
  vs : Array Value
  dx : Addr
  es : Array DictEntry
  n : Nat
  tw : Tok
  tl : Tok
structure TbD where
  T : Addr
  o : Obj
  ts : Array Value
  x : Value
structure TbO (C : Cfg) (F : Fm) (g : Gh) (e : Addr) (h : Heap) (vs : Array Value) (d : TbD) : Prop where
  fld : vs[1]? = some (.ref d.T)
  get : h.get? d.T = some d.o
  data : d.o.data = .fields d.ts
  flight : d.ts[3]? = some d.x
  ne : d.T ≠ e
  off : Off C F g d.T
structure ExcO (C : Cfg) (F : Fm) (g : Gh) (w : List Nat) (l : Int) (e : Addr) (h : Heap) (d : ExcD) : Prop where
  get : h.get? e = some d.oe
  cls : d.oe.cls = .ref C.pfC
  dict : d.oe.dict = some d.dx
  data : d.oe.data = .fields d.vs
  size : d.vs.size = 6
  im : ∃ cl dd, g.im d.dx = some (cl, dd, .dict d.es d.n)
  keys : StrKeys d.es
  uniq : UniqKeys d.es
  txt : TxtOK w
  why : nsFind d.es (Str.ofString "why") = some (.str (strOf w) d.tw)
  line : nsFind d.es (Str.ofString "line") = some (.int l d.tl)
  tb : d.vs[1]? = some .none ∨ ∃ t, TbO C F g e h d.vs t
structure ExcAt (C : Cfg) (F : Fm) (g : Gh) (w : List Nat) (l : Int) (e : Addr) (h : Heap) : Prop where
  off : Off C F g e
  obj : ∃ d, ExcO C F g w l e h d

/-- what is wanted behind a tree that does what r says -/
structure Goal (C : Cfg) (F : Fm) {α β : Type} (P : Gh → H → Heap → β → α → Prop) (g : Gh) (s : Shared) (r : R β) (Q : α → Shared → Prop) (E : Value → Shared → Prop) : Prop where
  ns : r ≠ .stuck
  ok : ∀ g' h' tk b c' a, r = .ok b c' → g.le g' → P g' c' h' b a → Q a { s with heap := h', toks := tk }
  pf : ∀ g' h' tk w l c' e, r = .pf w l c' → g.le g' → Rel C F g' [] c' h' → ExcAt C F g' w l e h' → E (.ref e) { s with heap := h', toks := tk }
/-- the tree t, begun in s, does what the small language's r says -/
noncomputable def SimG (C : Cfg) (A : Around) (F : Fm) {α β : Type} (P : Gh → H → Heap → β → α → Prop) (g : Gh) (s : Shared) (t : Sem α) (r : R β) : Prop :=
  ∀ (Q : α → Shared → Prop) (E : Value → Shared → Prop), Goal C F P g s r Q E → wpAny (model C.prog C.w) A t Q E s
noncomputable def EvP (C : Cfg) (F : Fm) (loc : L) {α β : Type} (P : Gh → β → α → Prop) (g : Gh) (c : H) (h : Heap) (b : β) (a : α) : Prop := Rel C F g loc c h ∧ P g b a
abbrev Sim (C : Cfg) (A : Around) (F : Fm) (g : Gh) (loc : L) (s : Shared) {α β : Type} (P : Gh → β → α → Prop) (t : Sem α) (r : R β) : Prop := SimG C A F (EvP C F loc P) g s t r

theorem Gh.le.trans {g₁ g₂ g₃ : Gh} (a : g₁.le g₂) (b : g₂.le g₃) : g₁.le g₃ := Gh.le_trans a b
section
variable {C : Cfg} {A : Around} {F : Fm} {g g₁ : Gh} {loc : L} {s : Shared} {α β γ δ : Type} {W : Prop}
variable {P : Gh → H → Heap → β → α → Prop} {Q : α → Shared → Prop} {E : Value → Shared → Prop}

theorem Goal.no (G : Goal C F P g s .stuck Q E) : W := absurd rfl G.ns
theorem Goal.opt {o : Option γ} {k : γ → R β} (G : Goal C F P g s (ofK o k) Q E) (f : ∀ v, o = some v → Goal C F P g s (k v) Q E → W) : W := by
  cases o with
  | none => exact G.no
  | some v => exact f v rfl G
theorem Goal.obind {o : Option γ} {j : γ → Option δ} {k : δ → R β} (G : Goal C F P g s (ofK (o.bind j) k) Q E) (f : ∀ v, o = some v → Goal C F P g s (ofK (j v) k) Q E → W) : W := by
  cases o with
  | none => exact G.no
  | some v => exact f v rfl G
theorem Goal.omap {o : Option γ} {j : γ → δ} {k : δ → R β} (G : Goal C F P g s (ofK (o.map j) k) Q E) (f : ∀ v, o = some v → Goal C F P g s (k (j v)) Q E → W) : W := by
  cases o with
  | none => exact G.no
  | some v => exact f v rfl G
theorem Goal.pick {a b : Option γ} {k : γ → R β} (G : Goal C F P g s (ofK (pick a b) k) Q E) (f : Goal C F P g s (ofK a k) Q E → W) (f' : Goal C F P g s (ofK b k) Q E → W) : W := by
  cases a with
  | none => exact f' G
  | some v => exact f G
theorem Goal.oif {p : Prop} [Decidable p] {a : Option γ} {k : γ → R β} (G : Goal C F P g s (ofK (if p then a else none) k) Q E) (f : p → Goal C F P g s (ofK a k) Q E → W) : W :=
  if h : p then f h ((congrArg (ofK · k) (if_pos h)) ▸ G) else ((congrArg (ofK · k) (if_neg h)) ▸ G : Goal C F P g s (ofK none k) Q E).no
theorem Goal.rif {p : Prop} [Decidable p] {a : R β} (G : Goal C F P g s (if p then a else .stuck) Q E) (f : p → Goal C F P g s a Q E → W) : W :=
  if h : p then f h ((show (if p then a else .stuck) = a from if_pos h) ▸ G) else ((show (if p then a else .stuck) = (R.stuck : R β) from if_neg h) ▸ G).no
theorem Goal.done {b : β} {c : H} (G : Goal C F P g s (.ok b c) Q E) {g' : Gh} {h' : Heap} {tk : Nat} {a : α} (l : g.le g') (p : P g' c h' b a) : Q a { s with heap := h', toks := tk } := G.ok _ _ _ _ _ _ rfl l p
theorem Goal.now {P : Gh → β → α → Prop} {b : β} {c : H} (G : Goal C F (EvP C F loc P) g s (.ok b c) Q E) {tk : Nat} {a : α} (r : Rel C F g loc c s.heap) (p : P g b a) : Q a { s with toks := tk } := G.ok g s.heap tk _ _ _ rfl g.le_refl ⟨r, p⟩
theorem Goal.move {r : R β} (G : Goal C F P g s r Q E) {h₁ : Heap} {tk : Nat} (l : g.le g₁) : Goal C F P g₁ { s with heap := h₁, toks := tk } r Q E :=
  ⟨G.ns, fun g' h' tk b c' a q l' => G.ok g' h' tk b c' a q (l.trans l'), fun g' h' tk w l' c' e q l'' => G.pf g' h' tk w l' c' e q (l.trans l'')⟩

/-- one part of a tree, perhaps in a frame of its own: what is wanted behind it -/
theorem SimG.stepE {F' : Fm} {P₁ : Gh → H → Heap → δ → γ → Prop} {t : Sem γ} {r₁ : R δ} {k : δ → H → R β} {Q' : γ → Shared → Prop} {E' : Value → Shared → Prop} (h : SimG C A F' P₁ g s t r₁) (G : Goal C F P g s (r₁.bind k) Q E)
    (hE : ∀ g' h' tk w l c' e, Rel C F' g' [] c' h' → ExcAt C F' g' w l e h' → (∀ h₂, Rel C F g' [] c' h₂ → ExcAt C F g' w l e h₂ → E (.ref e) { s with heap := h₂, toks := tk }) → E' (.ref e) { s with heap := h', toks := tk })
    (f : ∀ g₁ c₁ h₁ tk b a, g.le g₁ → P₁ g₁ c₁ h₁ b a → Goal C F P g₁ { s with heap := h₁, toks := tk } (k b c₁) Q E → Q' a { s with heap := h₁, toks := tk }) : wpAny (model C.prog C.w) A t Q' E' s :=
  h Q' E' ⟨fun q => G.ns (congrArg (R.bind · k) q), fun g' h' tk b c' a q l p => f g' c' h' tk b a l p (((congrArg (R.bind · k) q) ▸ G).move l), fun g' h' tk w l c' e q l' r x => hE g' h' tk w l c' e r x fun h₂ => G.pf g' h₂ tk w l c' e (congrArg (R.bind · k) q) l'⟩
theorem SimG.step {P₁ : Gh → H → Heap → δ → γ → Prop} {t : Sem γ} {r₁ : R δ} {k : δ → H → R β} {Q' : γ → Shared → Prop} (h : SimG C A F P₁ g s t r₁) (G : Goal C F P g s (r₁.bind k) Q E)
    (f : ∀ g₁ c₁ h₁ tk b a, g.le g₁ → P₁ g₁ c₁ h₁ b a → Goal C F P g₁ { s with heap := h₁, toks := tk } (k b c₁) Q E → Q' a { s with heap := h₁, toks := tk }) : wpAny (model C.prog C.w) A t Q' E s :=
  h.stepE G (fun _ _ _ _ _ _ _ r x q => q _ r x) f
theorem Sim.step {P₁ : Gh → δ → γ → Prop} {t : Sem γ} {r₁ : R δ} {k : δ → H → R β} {Q' : γ → Shared → Prop} (h : Sim C A F g loc s P₁ t r₁) (G : Goal C F P g s (r₁.bind k) Q E)
    (f : ∀ g₁ c₁ h₁ tk b a, g.le g₁ → Rel C F g₁ loc c₁ h₁ → P₁ g₁ b a → Goal C F P g₁ { s with heap := h₁, toks := tk } (k b c₁) Q E → Q' a { s with heap := h₁, toks := tk }) : wpAny (model C.prog C.w) A t Q' E s :=
  SimG.step h G fun g₁ c₁ h₁ tk b a l p => f g₁ c₁ h₁ tk b a l p.1 p.2
end

/-- what a frame is -/
structure FmOK (C : Cfg) (F : Fm) (A : Around) : Prop where
  hh : A.handled = none
  fr : A.frames = some F.fr
  frOK : ∀ e ∈ F.fr, e.scope.kind ≠ .module ∧ ∃ L, e.frame = some L ∧ (L = F.env.locals ∨ ∃ x ∈ F.keeps, x.1 = L ∧ ∃ es n, x.2.2.2 = .dict es n)
  kind : F.env.scope.kind = .function
  glob : F.env.globals = mainGlobals
  blt : F.env.builtins = builtinsNs
  uniq : F.vars.Nodup

structure CfgOK (C : Cfg) : Prop where
  mgN : C.h₀.Ns mainGlobals C.mg
  mbN : C.h₀.Ns builtinsNs C.mb
  nolimit : C.h₀.NoLimit
  nodigits : ∃ mc, C.h₀.Ns cStatics mc ∧ mc "sys.int_max_str_digits" = none
  fn : ∀ f a, C.fnA f = some a → ∃ o fd, C.h₀.get? a = some o ∧ o.data = .func fd
  blt : ∀ x : PySem.Str, x ≠ "__name__" → C.mb x = bootBuiltins x

section
variable {C : Cfg} {A : Around} {F : Fm} {g : Gh} {loc : L} {c : H} {s : Shared}

theorem big_le : big ≤ sizeLine := by decide
theorem Rel.ns0 (r : Rel C F g loc c s.heap) {a : Addr} {m : PySem.Str → Option Value} (n : C.h₀.Ns a m) : s.heap.Ns a m := n.keeps r.base

/-! texts -/
theorem strOf_len (l : List Nat) : (strOf l).length = l.length := rfl
theorem strOf_append (l m : List Nat) : strOf l ++ strOf m = strOf (l ++ m) := congrArg Str.mk (List.append_toArray l m)
theorem TxtOK.append {l m : List Nat} (a : TxtOK l) (b : TxtOK m) (h : l.length + m.length ≤ big) : TxtOK (l ++ m) :=
  ⟨Nat.le_trans (Nat.le_of_eq List.length_append) (Nat.le_trans h big_le), fun z hz => (List.mem_append.mp hz).elim (a.cps z) (b.cps z)⟩
theorem TxtOK.sub {l m : List Nat} (a : TxtOK l) (h : m.length ≤ l.length) (k : ∀ z ∈ m, z ∈ l) : TxtOK m := ⟨Nat.le_trans h a.len, fun z hz => a.cps z (k z hz)⟩
theorem TxtOK.one {z : Nat} (h : z < 1114112) : TxtOK [z] := ⟨(by decide : 1 ≤ sizeLine), fun y hy => List.mem_singleton.mp hy ▸ h⟩

/-! what a value's shape says of the model's value -/
section
variable {W : Value → Prop} {x : V} {a : Value}
theorem VR.isBool {b : Bool} (hx : VR C g x a) (e : boolOf x = some b) (f : W (.bool b)) : W a := by
  cases x with
  | bool b' => exact (show a = _ from hx) ▸ Option.some.inj e ▸ f
  | _ => cases e
theorem VR.isInt {i : Int} (hx : VR C g x a) (e : intOf x = some i) (f : ∀ t, W (.int i t)) : W a := by
  cases x with
  | int j => exact hx.elim fun t q => q ▸ Option.some.inj e ▸ f t
  | _ => cases e
theorem VR.isTxt {l : List Nat} (hx : VR C g x a) (e : txtOf x = some l) (f : ∀ t, TxtOK l → W (.str (strOf l) t)) : W a := by
  cases x with
  | str m => exact hx.elim fun t q => q.1 ▸ Option.some.inj e ▸ f t (Option.some.inj e ▸ q.2)
  | _ => cases e
theorem VR.isTup {vs : List V} (hx : VR C g x a) (e : tupOf x = some vs) (f : ∀ p its, SeqIm g "tuple" p its → VRs C g vs its → vs.length ≤ big → W (.ref p)) : W a := by
  cases x with
  | tup m => exact hx.elim fun p q => q.elim fun its q => q.1 ▸ f p its q.2.1 (Option.some.inj e ▸ q.2.2.1) (Option.some.inj e ▸ q.2.2.2)
  | _ => cases e
theorem VR.isLst {vs : List V} (hx : VR C g x a) (e : lstOf x = some vs) (f : ∀ p its, SeqIm g "list" p its → VRs C g vs its → vs.length ≤ big → W (.ref p)) : W a := by
  cases x with
  | lst m => exact hx.elim fun p q => q.elim fun its q => q.1 ▸ f p its q.2.1 (Option.some.inj e ▸ q.2.2.1) (Option.some.inj e ▸ q.2.2.2)
  | _ => cases e
theorem VR.isRef {n : Nat} (hx : VR C g x a) (e : refOf x = some n) (f : ∀ p, g.σ[n]? = some p → W (.ref p)) : W a := by
  cases x with
  | ref m => exact hx.elim fun p q => q.1 ▸ f p (Option.some.inj e ▸ q.2)
  | _ => cases e
theorem VR.isFn {n : Nat} (hx : VR C g x a) (e : fnOf x = some n) (f : ∀ p, C.fnA n = some p → W (.ref p)) : W a := by
  cases x with
  | fn m => exact hx.elim fun p q => q.1 ▸ f p (Option.some.inj e ▸ q.2)
  | _ => cases e
end
theorem Rel.seqIm (r : Rel C F g loc c s.heap) {a : Addr} {T : String} {its : List Value} (h : SeqIm g T a its) : ∃ o, s.heap.get? a = some o ∧ o.cls = .type T ∧ ∃ n, o.data = .seq its.toArray n :=
  h.elim fun d h => h.elim fun n h => (r.im a _ h).imp fun _ q => ⟨q.1, q.2.1, n, q.2.2.2⟩
theorem Rel.lstAt (r : Rel C F g loc c s.heap) {a : Addr} {its : List Value} (h : SeqIm g "list" a its) : s.heap.IsList a its.toArray := r.seqIm h
theorem Rel.tupAt (r : Rel C F g loc c s.heap) {a : Addr} {its : List Value} (h : SeqIm g "tuple" a its) : IsTup s.heap a its.toArray := r.seqIm h
theorem Rel.cellAt (r : Rel C F g loc c s.heap) {n : Nat} {a : Addr} {vs : List V} (ha : g.σ[n]? = some a) (hc : c[n]? = some vs) : ∃ its, CellAt C g s.heap n vs a its :=
  (r.cell n vs hc).elim fun b q => q.imp fun its (q : CellAt C g s.heap n vs b its) => (show b = a from Option.some.inj (q.pos.symm.trans ha)) ▸ q
/-- a list, or a cell -/
theorem VR.isList {W : Value → Prop} {x : V} {a : Value} {vs : List V} (r : Rel C F g loc c s.heap) (hx : VR C g x a) (e : listAt c x = some vs) (f : ∀ p its, s.heap.IsList p its.toArray → VRs C g vs its → vs.length ≤ big → W (.ref p)) : W a := by
  cases x with
  | lst m => exact hx.isLst (x := .lst m) e fun p its h => f p its (r.lstAt h)
  | ref n => exact hx.isRef (x := .ref n) rfl fun p h => (r.cellAt h e).elim fun its q => f p its q.pl.isList q.vrs q.len
  | _ => cases e
section
variable {α β γ : Type} {P : Gh → H → Heap → β → α → Prop} {Q : α → Shared → Prop} {E : Value → Shared → Prop} {k : γ → R β} {W : Value → Prop} {W2 : Value → Value → Prop} {x y : V} {a b : Value}
theorem Goal.int {j : Int → Option γ} (G : Goal C F P g s (ofK ((intOf x).bind j) k) Q E) (hx : VR C g x a) (f : ∀ i t, Goal C F P g s (ofK (j i) k) Q E → W (.int i t)) : W a :=
  G.obind fun i e G => hx.isInt e fun t => f i t G
theorem Goal.txt {j : List Nat → Option γ} (G : Goal C F P g s (ofK ((txtOf x).bind j) k) Q E) (hx : VR C g x a) (f : ∀ l t, TxtOK l → Goal C F P g s (ofK (j l) k) Q E → W (.str (strOf l) t)) : W a :=
  G.obind fun l e G => hx.isTxt e fun t h => f l t h G
theorem Goal.list {j : List V → Option γ} (r : Rel C F g loc c s.heap) (G : Goal C F P g s (ofK ((listAt c x).bind j) k) Q E) (hx : VR C g x a) (f : ∀ vs p its, s.heap.IsList p its.toArray → VRs C g vs its → vs.length ≤ big → Goal C F P g s (ofK (j vs) k) Q E → W (.ref p)) : W a :=
  G.obind fun vs e G => hx.isList r e fun p its h1 h2 h3 => f vs p its h1 h2 h3 G
theorem Goal.ints2 {j : Int → Int → Option γ} (G : Goal C F P g s (ofK (ints2 x y j) k) Q E) (hx : VR C g x a) (hy : VR C g y b) (f : ∀ i t n u, Goal C F P g s (ofK (j i n) k) Q E → W2 (.int i t) (.int n u)) : W2 a b :=
  Goal.int (W := fun a => W2 a b) G hx fun i t G => Goal.int G hy fun n u G => f i t n u G
theorem Goal.strs2 {j : List Nat → List Nat → Option γ} (G : Goal C F P g s (ofK (strs2 x y j) k) Q E) (hx : VR C g x a) (hy : VR C g y b) (f : ∀ l t m u, TxtOK l → TxtOK m → Goal C F P g s (ofK (j l m) k) Q E → W2 (.str (strOf l) t) (.str (strOf m) u)) : W2 a b :=
  Goal.txt (W := fun a => W2 a b) G hx fun l t h G => Goal.txt G hy fun m u h' G => f l t m u h h' G
end

/-! the operators on two values -/
noncomputable def opB : BO → Operator
  | .add => .Add | .sub => .Sub | .mul => .Mult | .fdiv => .FloorDiv | .mod => .Mod | .pow => .Pow | .shr => .RShift | .band => .BitAnd
noncomputable def opC : CO → CmpOp
  | .eq => .Eq | .ne => .NotEq | .lt => .Lt | .le => .LtE | .gt => .Gt | .ge => .GtE | .isin => .In | .notin => .NotIn

theorem small_is {x : Int} (h : small x = true) : -(2 ^ 62) < x ∧ x < 2 ^ 62 := have h := Bool.and_eq_true_iff.mp h; ⟨of_decide_eq_true h.1, of_decide_eq_true h.2⟩
theorem intBits_small {x : Int} (h : small x = true) : Builtin.Int.intBits x ≤ 64 := intBits_le_64 (Int.lt_trans (by decide) (small_is h).1) (Int.lt_trans (small_is h).2 (by decide))

/-- a list is made -/
theorem Rel.newSeq {T : String} (r : Rel C F g loc c s.heap) (its : List Value) (n : Nat := 0) :
    Rel C F (g.put s.heap.objs.size (.type T, none, .seq its.toArray n)) loc c (s.heap.push { cls := .type T, data := .seq its.toArray n }) ∧ g.le (g.put s.heap.objs.size (.type T, none, .seq its.toArray n)) ∧
    SeqIm (g.put s.heap.objs.size (.type T, none, .seq its.toArray n)) T s.heap.objs.size its :=
  ⟨r.pushIm { cls := .type T, data := .seq its.toArray n } rfl, Gh.put_le r.fresh.1.2, _, _, Gh.put_self⟩
theorem Goal.newList {Q : Value → Shared → Prop} {E : Value → Shared → Prop} {vs : List V} {its : List Value} {tk : Nat} (G : Goal C F (EvP C F loc (VR C)) g s (.ok (.lst vs) c) Q E) (r : Rel C F g loc c s.heap) (hv : VRs C g vs its) (hb : vs.length ≤ big) :
    Q (.ref s.heap.objs.size) { s with heap := s.heap.push { cls := .type "list", data := .seq its.toArray }, toks := tk } :=
  have N := r.newSeq its; G.done N.2.1 ⟨N.1, .lst N.2.2 (hv.mono N.2.1) hb⟩

theorem seq_at {o : Obj} {T : String} {its : Array Value} {n : Nat} (hc : o.cls = .type T) (hd : o.data = .seq its n) : o = { cls := .type T, dict := o.dict, data := .seq its n, slots := o.slots } := by
  obtain ⟨_, _, _, _⟩ := o; cases hc; cases hd; rfl
theorem sim_concat (r : Rel C F g loc c s.heap) {a b : Addr} {vs ws : List V} {xs ys : List Value} (ha : s.heap.IsList a xs.toArray) (hb : s.heap.IsList b ys.toArray) (hv : VRs C g vs xs) (hw : VRs C g ws ys) (hz : vs.length + ws.length ≤ big) {Q : Value → Shared → Prop} {E : Value → Shared → Prop}
    (G : Goal C F (EvP C F loc (VR C)) g s (.ok (.lst (vs ++ ws)) c) Q E) : wpAny (model C.prog C.w) A (binaryOp .Add (.ref a) (.ref b)) Q E s :=
  ha.elim fun o p => p.2.2.elim fun n pd => hb.elim fun o2 p2 => p2.2.2.elim fun n2 pd2 =>
  concat_meets ⟨_, p.1, p.2.1⟩ ⟨_, p2.1, p2.2.1⟩ noFill_list_add seq_list_add PySem.F.slot_list_add PySem.F.entry_list_add (PySem.F.args_list_add_2 _ _)
    (list_addW a b xs.toArray ys.toArray n n2 o.dict o2.dict o.slots o2.slots (show xs.length + ys.length ≤ sizeLine by rw [hv.length, hw.length]; exact Nat.le_trans hz big_le)) ⟨seq_at p.2.1 pd ▸ p.1, seq_at p2.2.1 pd2 ▸ p2.1, by
      rw [show xs.toArray ++ ys.toArray = (xs ++ ys).toArray from List.append_toArray xs ys]
      exact G.newList r (hw.append hv) (Nat.le_trans (Nat.le_of_eq List.length_append) hz)⟩

theorem mul_fold (x : Array Nat) (n : Nat) : ∀ (acc : Array Nat), (List.replicate n x).foldl (· ++ ·) acc = acc ++ (List.replicate n x.toList).flatten.toArray := by
  induction n with
  | zero => exact fun acc => (Array.append_empty (xs := acc)).symm
  | succ n ih => intro acc; rw [List.replicate_succ, List.foldl_cons, ih, List.replicate_succ, List.flatten_cons, Array.append_assoc]; exact congrArg (acc ++ ·) (List.append_toArray x.toList _)
theorem mul_eq (l : List Nat) (i : Int) (h : 0 ≤ i) : Txt.mul (strOf l) i = strOf (List.replicate i.toNat l).flatten := by
  unfold Txt.mul
  split
  · have : i.toNat = 0 := by omega
    rw [this]; rfl
  · split
    · rename_i hc
      rcases Bool.or_eq_true_iff.mp hc with hc | hc
      · cases beq_iff_eq.mp hc
        exact congrArg strOf (List.append_nil l).symm
      · have : l = [] := List.length_eq_zero_iff.mp (beq_iff_eq.mp hc)
        subst this; rw [List.flatten_replicate_nil]
    · rw [mul_fold]; exact congrArg Str.mk (Array.empty_append)
theorem le_4096 {a b : Nat} (h : a ≤ 64) (h' : b ≤ 64) : a * b ≤ sizeLine := Nat.le_trans (Nat.mul_le_mul h h') (by decide)
theorem mul_now (r : Rel C F g loc c s.heap) {l : List Nat} {i : Int} {t u : Tok} (h : TxtOK l) (hs : 0 ≤ i ∧ i ≤ 64 ∧ l.length ≤ 64) {Q : Value → Shared → Prop} {E : Value → Shared → Prop}
    (G : Goal C F (EvP C F loc (VR C)) g s (.ok (.str (List.replicate i.toNat l).flatten) c) Q E) : wpAny (model C.prog C.w) A (binaryOp .Mult (.str (strOf l) t) (.int i u)) Q E s := by
  refine SB.mul ⟨?_, fun hn _ => ?_, fun _ _ => decide_eq_false (Nat.not_lt.mpr (le_4096 hs.2.2 (Int.toNat_le.mpr hs.2.1)))⟩ fun t' tk => mul_eq l i hs.1 ▸ G.now r (.txt ⟨?_, fun z hz => (List.mem_flatten.mp hz).elim fun m q => h.cps z (List.eq_of_mem_replicate q.1 ▸ q.2)⟩)
  · rw [decide_eq_false (by omega), decide_eq_false (by omega)]; rfl
  · have : (64 : Int) ≤ (2 ^ 63 - 1) / i := (Int.le_ediv_iff_mul_le (by omega)).mpr (by omega)
    rw [strOf_len]
    omega
  · rw [List.length_flatten, List.map_replicate, List.sum_replicate_nat]
    exact le_4096 (Int.toNat_le.mpr hs.2.1) hs.2.2
theorem sim_bin (r : Rel C F g loc c s.heap) {o : BO} {x y : V} {a b : Value} (hx : VR C g x a) (hy : VR C g y b) : Sim C A F g loc s (VR C) (binaryOp (opB o) a b) (ofO (binV o c x y) c) := fun Q E => by
  cases o with
  | add => exact fun G => G.pick (fun G => G.ints2 (W2 := fun a b => wpAny _ A (binaryOp .Add a b) Q E s) hx hy fun _ _ _ _ G => wpAny_add_int (G.now r (.int _ _))) fun G =>
      G.pick (fun G => G.strs2 (W2 := fun a b => wpAny _ A (binaryOp .Add a b) Q E s) hx hy fun l _ m _ h h' G => G.oif fun hs G => SB.add (fun _ _ => strOf_append l m ▸ G.now r (.txt (h.append h' hs))) (Nat.le_trans hs big_le)) fun G =>
      G.list (W := fun a => wpAny _ A (binaryOp .Add a b) Q E s) r hx fun _ p _ h1 h2 _ G => G.obind fun _ e G => hy.isLst (W := fun b => wpAny _ A (binaryOp .Add (.ref p) b) Q E s) e fun _ _ h3 h4 _ => G.oif fun hs G => sim_concat r h1 (r.lstAt h3) h2 h4 hs G
  | sub => exact fun G => G.ints2 (W2 := fun a b => wpAny _ A (binaryOp .Sub a b) Q E s) hx hy fun _ _ _ _ G => P.sub_int (G.now r (.int _ _))
  | mul => exact fun G => G.pick (fun G => G.ints2 (W2 := fun a b => wpAny _ A (binaryOp .Mult a b) Q E s) hx hy fun _ _ _ _ G => G.oif fun hs G => PyProof.Rows.mul_int (G.now r (.int _ _)) (IntMulOk.of_left (intBits_small hs.1))) fun G =>
      G.txt (W := fun a => wpAny _ A (binaryOp .Mult a b) Q E s) hx fun l t h G => G.int (W := fun b => wpAny _ A (binaryOp .Mult (.str (strOf l) t) b) Q E s) hy fun _ _ G => G.oif fun hs G => mul_now r h hs G
  | fdiv => exact fun G => G.ints2 (W2 := fun a b => wpAny _ A (binaryOp .FloorDiv a b) Q E s) hx hy fun _ _ _ _ G => G.oif fun hs G => PyProof.Rows.floordiv_int (Int.ne_of_gt hs.1) (Int.fdiv_eq_ediv_of_nonneg _ (Int.le_of_lt hs.1) ▸ G.now r (.int _ _)) (.inl (PyProof.noPylong_small (Int.natAbs_lt_natAbs_of_nonneg_of_lt (Int.le_of_lt hs.1) hs.2)))
  | mod => exact fun G => G.ints2 (W2 := fun a b => wpAny _ A (binaryOp .Mod a b) Q E s) hx hy fun _ _ _ _ G => G.oif fun hs G => PyProof.Rows.mod_int' (Int.ne_of_gt hs) (Int.fmod_eq_emod_of_nonneg _ (Int.le_of_lt hs) ▸ G.now r (.int _ _))
  | pow => exact fun G => G.ints2 (W2 := fun a b => wpAny _ A (binaryOp .Pow a b) Q E s) hx hy fun i t n u G => G.oif fun hs G => hs.1 ▸ hs.2 ▸ PyProof.Rows.pow_int_small (a := 2) (n := 63) (by decide) (by decide) (by decide) (G.now r (.int _ _))
  | shr => exact fun G => G.ints2 (W2 := fun a b => wpAny _ A (binaryOp .RShift a b) Q E s) hx hy fun _ _ _ _ G => G.oif fun hs G => PyProof.Rows.rshift_int hs.2.1 (Int.fdiv_eq_ediv_of_nonneg _ (Int.le_of_lt (Int.pow_pos (show (0 : Int) < 2 by decide))) ▸ G.now r (.int _ _))
  | band => exact fun G => G.ints2 (W2 := fun a b => wpAny _ A (binaryOp .BitAnd a b) Q E s) hx hy fun p _ q _ G => G.oif fun hs G => PyProof.Rows.and_int ((show Builtin.bitAnd p q = ((p.toNat &&& q.toNat : Nat) : Int) by
      unfold Builtin.bitAnd; rw [decide_eq_true hs.1, decide_eq_true hs.2]) ▸ G.now r (.int _ _))

/-! truth -/
theorem isEmpty_eq {α β : Type} : ∀ {l : List α} {m : List β}, l.length = m.length → l.isEmpty = m.isEmpty
  | [], [], _ => rfl
  | _ :: _, _ :: _, _ => rfl
theorem sim_truth {β α : Type} {P : Gh → H → Heap → β → α → Prop} {k : Bool → R β} {Q' : α → Shared → Prop} {E' : Value → Shared → Prop} (r : Rel C F g loc c s.heap) {x : V} {a : Value} (hx : VR C g x a) (G : Goal C F P g s (ofK (truth c x) k) Q' E') {Q : Bool → Shared → Prop} {E : Value → Shared → Prop}
    (hq : ∀ b tk, Goal C F P g { s with heap := s.heap, toks := tk } (k b) Q' E' → Q b { s with heap := s.heap, toks := tk }) : wpAny (model C.prog C.w) A (truthy a) Q E s :=
  G.pick (fun G => G.opt fun b e G => hx.isBool (W := fun a => wpAny _ A (truthy a) Q E s) e (wpAny_truthy_bool (hq b s.toks G))) fun G =>
    G.obind fun n e G => hx.isRef (W := fun a => wpAny _ A (truthy a) Q E s) e fun p hp => G.omap fun vs hc G => (r.cellAt hp hc).elim fun its h =>
      wpAny_truthy_list h.pl.isList (show (its.length : Int) < 2 ^ 63 from Int.lt_of_le_of_lt (Int.ofNat_le.mpr (Nat.le_trans (Nat.le_of_eq h.vrs.length) h.len)) (by decide))
        ((show (!its.toArray.isEmpty) = !vs.isEmpty from congrArg _ ((List.isEmpty_toArray its).trans (isEmpty_eq h.vrs.length))) ▸ hq _ _ (G.move g.le_refl))

/-! slices -/
theorem sliceL_eq {α : Type} (l : List α) (lo hi : Option Int) : sliceL l lo hi = (l.drop (lo.elim 0 (clipAt l.length))).take (hi.elim l.length (clipAt l.length) - lo.elim 0 (clipAt l.length)) := by
  cases lo <;> cases hi <;> rfl
theorem picked_eq (l : List Nat) (lo hi : Option (Int × Tok)) : (slicePicked (strOf l) lo hi none).filterMap ((strOf l).cps[·]?) = sliceL l (lo.map (·.1)) (hi.map (·.1)) ∧ (slicePicked (strOf l) lo hi none).length = (hi.map (·.1)).elim l.length (clipAt l.length) - (lo.map (·.1)).elim 0 (clipAt l.length) := by
  have e : slicePicked (strOf l) lo hi none = (List.range ((hi.map (·.1)).elim l.length (clipAt l.length) - (lo.map (·.1)).elim 0 (clipAt l.length))).map ((lo.map (·.1)).elim 0 (clipAt l.length) + ·) := by
    rw [← sliceRange_one]
    unfold slicePicked Builtin.Str.strSliceIndices
    cases lo <;> cases hi <;> simp only [Option.map_none, Option.map_some, Option.elim_none, Option.elim_some, clipAt_cast] <;> rfl
  rw [e, sliceL_eq]
  exact ⟨pick_run (strOf l).cps _ _, by rw [List.length_map, List.length_range]⟩

theorem slice_whole {α : Type} {l : List α} {a b : Nat} (h : b - a = l.length) (hb : b ≤ l.length) : (l.drop a).take (b - a) = l := by
  cases l with
  | nil => rw [List.drop_nil, List.take_nil]
  | cons x r =>
    have : a = 0 := by rw [List.length_cons] at h hb; omega
    subst this
    rw [h]; exact List.take_length
theorem clipAt_le (n : Nat) (i : Int) : clipAt n i ≤ n := Int.toNat_le.mpr (Int.max_le.mpr ⟨Int.natCast_nonneg n, Int.min_le_right _ _⟩)
theorem mem_sliceL {α : Type} {l : List α} {lo hi : Option Int} {x : α} (h : x ∈ sliceL l lo hi) : x ∈ l := List.mem_of_mem_drop (List.mem_of_mem_take h)
theorem len_sliceL {α : Type} (l : List α) (lo hi : Option Int) : (sliceL l lo hi).length ≤ l.length := Nat.le_trans (List.length_take_le' _ _) (Nat.le_trans (Nat.le_of_eq List.length_drop) (Nat.sub_le _ _))
theorem TxtOK.slice {l : List Nat} (h : TxtOK l) {lo hi : Option Int} : TxtOK (sliceL l lo hi) := h.sub (len_sliceL _ _ _) fun _ => mem_sliceL
theorem post_slice {l : List Nat} {t : Tok} {lo hi : Option (Int × Tok)} {s : Shared} {Q : Value → Shared → Prop} (hz : TxtOK l)
    (h : ∀ t' tk, Q (.str (strOf (sliceL l (lo.map (·.1)) (hi.map (·.1)))) t') { s with toks := tk }) : (sliceMade (strOf l) t lo hi none).post Q s := by
  have e := picked_eq l lo hi
  unfold sliceMade
  rw [e.1, e.2, strOf_len]
  split
  · rename_i hc
    have hw := sliceL_eq l (lo.map (·.1)) (hi.map (·.1))
    rw [slice_whole (beq_iff_eq.mp (Bool.and_eq_true_iff.mp hc).2) (by cases hi with | none => exact Nat.le_refl _ | some _ => exact clipAt_le _ _)] at hw
    exact hw ▸ h t s.toks
  · exact ⟨hz.slice.len, h _ _⟩
end

end Mine
end
section
set_option Elab.async false
set_option linter.all false
namespace Mine
open PySem PySem.Spec PySem.Calls PyProof.Rows PySem.StrLaws PySem.Builtin PySem.Builtin.Str

theorem strOf_toList (l : List Nat) : (strOf l).cps.toList = l := by simp [strOf]
theorem strOf_list (x : PySem.Str) : strOf x.cps.toList = x := by simp [strOf]
theorem strOf_inj {l m : List Nat} (h : strOf l = strOf m) : l = m := by
  rw [← strOf_toList l, h, strOf_toList]
theorem strOf_beq (l m : List Nat) : (strOf l == strOf m) = (l == m) := by
  rw [Bool.eq_iff_iff, beq_iff_eq, beq_iff_eq]
  exact ⟨strOf_inj, fun h => by rw [h]⟩

theorem contains_one (l : List Nat) (c : Nat) : Txt.contains (strOf l) (strOf [c]) = l.contains c := by
  show (!(occurrences (strOf l) ⟨#[c]⟩ 0 (strOf l).length 1).isEmpty) = _
  rw [found_one, strOf_toList]
  simp [List.contains_eq_mem]
theorem contains_nil (l : List Nat) : Txt.contains (strOf l) (strOf []) = true := by
  show (!(occurrences (strOf l) (strOf []) 0 (strOf l).length 1).isEmpty) = _
  rw [found_iff]
  refine ⟨0, by rw [strOf_len, strOf_len]; exact Nat.zero_le _, ?_⟩
  rw [subAt_eq, strOf_toList, strOf_len]
  simp [strOf]

theorem occ_full (s sub : Str) (hi : Nat) (k : Nat) : ∀ (l : List Nat) (st : Array Nat × Nat), k ≤ st.fst.size → (forIn l st (occBody s sub hi k)).run = st
  | [], st, _ => rfl
  | a :: l, st, h => by
    rw [List.forIn_cons]
    unfold occBody
    rw [if_neg (by omega)]
    exact occ_full s sub hi k l _ h
theorem occ_first (s sub : Str) (hi : Nat) : ∀ (k a free : Nat), free ≤ a →
    (forIn (List.range' a k) ((#[] : Array Nat), free) (occBody s sub hi 1)).run.fst.toList = ((List.range' a k).find? (fun i => decide (i + sub.length ≤ hi) && subAt s sub i)).toList
  | 0, a, free, _ => rfl
  | k + 1, a, free, hf => by
    rw [List.range'_succ, List.forIn_cons, List.find?_cons]
    by_cases hc : a + sub.length ≤ hi ∧ subAt s sub a = true
    · have e : (decide (a + sub.length ≤ hi) && subAt s sub a) = true := by simp [hc.1, hc.2]
      rw [e]
      unfold occBody
      rw [if_pos ⟨⟨⟨by simp, hf⟩, hc.1⟩, hc.2⟩]
      have := occ_full s sub hi 1 (List.range' (a + 1) k) (#[a], a + sub.length) (by simp)
      exact congrArg (fun z : Array Nat × Nat => z.fst.toList) this
    · have e : (decide (a + sub.length ≤ hi) && subAt s sub a) = false := by
        cases h : (decide (a + sub.length ≤ hi) && subAt s sub a) with
        | false => rfl
        | true => exact absurd (by simpa using h) hc
      rw [e]
      have ih := occ_first s sub hi k (a + 1) free (by omega)
      rw [← ih]
      unfold occBody
      rw [if_neg (fun h => hc ⟨h.1.2, h.2⟩)]
      rfl
theorem startsWith_iff (l p : List Nat) (i : Nat) (hi : i ≤ l.length) : (decide (i + (strOf p).length ≤ (strOf l).length) && subAt (strOf l) (strOf p) i) = startsWith (l.drop i) p := by
  rw [subAt_eq, strOf_toList, strOf_toList, strOf_len, strOf_len]
  unfold startsWith
  cases h : ((l.drop i).take p.length == p) with
  | false => simp
  | true =>
    have := congrArg List.length (beq_iff_eq.mp h)
    rw [List.length_take, List.length_drop] at this
    simp; omega
theorem find_range (l p : List Nat) : ∀ (r : List Nat) (i : Nat), l.drop i = r → i ≤ l.length →
    (List.range' i (l.length + 1 - i)).find? (fun i => decide (i + (strOf p).length ≤ (strOf l).length) && subAt (strOf l) (strOf p) i) = findFrom p r i
  | [], i, h, hi => by
    have : l.length ≤ i := by simpa using h
    have e : l.length + 1 - i = 1 := by omega
    rw [e, List.range'_succ, List.range'_zero, List.find?_cons, startsWith_iff l p i hi, h]
    unfold findFrom startsWith
    cases p <;> simp
  | c :: r, i, h, hi => by
    have hlt : i < l.length := by
      rcases Nat.lt_or_ge i l.length with q | q
      · exact q
      · rw [List.drop_eq_nil_of_le q] at h; cases h
    have e : l.length + 1 - i = (l.length + 1 - (i + 1)) + 1 := by omega
    rw [e, List.range'_succ, List.find?_cons, startsWith_iff l p i hi, h]
    have ht : l.drop (i + 1) = r := by rw [← List.drop_drop, h]; rfl
    rw [find_range l p r (i + 1) ht (by omega), findFrom]
    cases startsWith (c :: r) p <;> simp
theorem occ_none_past (s sub : Str) (a : Nat) (h : s.length < a) : occurrences s sub a s.length 1 = [] := by
  rw [occ_eq]
  have : s.length + 1 - a = 0 := by omega
  rw [this]
  rfl
theorem find_eq (l p : List Nat) (i : Nat) : (match occurrences (strOf l) (strOf p) i (strOf l).length 1 with | k :: _ => (k : Int) | [] => -1) = findL l p i := by
  unfold findL
  by_cases hi : i ≤ l.length
  · rw [if_pos hi, occ_eq, occ_first _ _ _ _ _ _ (Nat.le_refl _), show (strOf l).length = l.length from strOf_len l]
    have := find_range l p _ i rfl hi
    rw [strOf_len l] at this
    rw [this]
    cases findFrom p (l.drop i) i <;> rfl
  · rw [if_neg hi, occ_none_past _ _ _ (by rw [strOf_len]; omega)]
theorem find0_eq (l p : List Nat) : Txt.find (strOf l) (strOf p) = findL l p 0 := find_eq l p 0
theorem find3_eq (l p : List Nat) (i : Nat) : Txt.find3 (strOf l) (strOf p) (i : Int) = findL l p i := by
  unfold Txt.find3
  have : fromIndex (strOf l).length (i : Int) = i := by
    unfold fromIndex
    rw [if_neg (by omega)]; omega
  rw [this]; exact find_eq l p i

theorem occ_count (s : Str) (c hi limit : Nat) (hs : s.length = hi) : ∀ (k a : Nat) (st : Array Nat × Nat), st.snd ≤ a → st.fst.size + k ≤ limit →
    (forIn (List.range' a k) st (occBody s ⟨#[c]⟩ hi limit)).run.fst.size = st.fst.size + (List.range' a k).countP (fun i => decide (s.cps.toList[i]? = some c))
  | 0, a, st, _, _ => rfl
  | k + 1, a, st, hf, hl => by
    rw [List.range'_succ, List.forIn_cons, List.countP_cons]
    have q := subAt_one s c a
    unfold occBody
    split
    · rename_i h
      have : s.cps.toList[a]? = some c := q.mp ⟨hs ▸ h.1.2, h.2⟩
      have ih := occ_count s c hi limit hs k (a + 1) (st.fst.push a, a + 1) (Nat.le_refl _) (by rw [Array.size_push]; omega)
      rw [if_pos (by simpa using this)]
      refine Eq.trans ih ?_
      rw [Array.size_push]; omega
    · rename_i h
      have : ¬ s.cps.toList[a]? = some c := fun e => h (by
        have := q.mpr e
        exact ⟨⟨⟨by omega, hf⟩, hs ▸ this.1⟩, this.2⟩)
      have ih := occ_count s c hi limit hs k (a + 1) st (by omega) (by omega)
      rw [if_neg (by simpa using this)]
      exact ih
theorem countP_get (c : Nat) : ∀ (l : List Nat) (a : Nat) (m : List Nat), m.drop a = l → a ≤ m.length → (List.range' a (m.length + 1 - a)).countP (fun i => decide (m[i]? = some c)) = l.count c
  | [], a, m, h, ha => by
    have : m.length ≤ a := by simpa using h
    have e : m.length + 1 - a = 1 := by omega
    rw [e, List.range'_succ, List.range'_zero, List.countP_cons]
    simp [this]
  | x :: r, a, m, h, ha => by
    have hlt : a < m.length := by
      rcases Nat.lt_or_ge a m.length with q | q
      · exact q
      · rw [List.drop_eq_nil_of_le q] at h; cases h
    have e : m.length + 1 - a = (m.length + 1 - (a + 1)) + 1 := by omega
    have hx : m[a]? = some x := by
      have : (m.drop a)[0]? = some x := by rw [h]; rfl
      rw [List.getElem?_drop] at this; simpa using this
    rw [e, List.range'_succ, List.countP_cons, countP_get c r (a + 1) m (by rw [← List.drop_drop, h]; rfl) (by omega), List.count_cons, hx]
    by_cases q : x = c <;> simp [q]
theorem count_eq (l : List Nat) (c : Nat) : Txt.count (strOf l) (strOf [c]) = (l.count c : Nat) := by
  unfold Txt.count
  have : (occurrences (strOf l) (strOf [c]) 0 (strOf l).length ((strOf l).length + 1)).length = l.count c := by
    rw [occ_eq, Array.length_toList]
    have q := occ_count (strOf l) c (strOf l).length ((strOf l).length + 1) rfl ((strOf l).length + 1 - 0) 0 (#[], 0) (Nat.le_refl _) (by rw [List.size_toArray]; simp)
    refine Eq.trans q ?_
    rw [strOf_toList, strOf_len]
    have := countP_get c l 0 l rfl (Nat.zero_le _)
    rw [this]; simp
  rw [this]

theorem lower_ascii : (List.range 128).all (fun c => Unicode.lowerOf c == [lowerC c]) = true := by decide +kernel
theorem lower_eq {l : List Nat} (h : l.all (fun c => decide (c < 128)) = true) : Txt.lower (strOf l) = strOf (l.map lowerC) := by
  unfold Txt.lower
  apply Str.ext'
  apply Array.toList_inj.mp
  show (placed (strOf l) fun i _ => Unicode.lowerAt (strOf l).cps i).toList = (l.map lowerC).toArray.toList
  unfold placed
  rw [Array.toList_flatten, Array.toList_mapIdx, strOf_toList]
  have key : ∀ (m : List Nat) (a : Nat), l.drop a = m → ((m.mapIdx fun i c => (Unicode.lowerAt (strOf l).cps (i + a)).toArray).map Array.toList).flatten = m.map lowerC := by
    intro m
    induction m with
    | nil => intro a _; rfl
    | cons x r ih =>
      intro a ha
      rw [List.mapIdx_cons, List.map_cons, List.flatten_cons, List.map_cons]
      have hx : l[a]? = some x := by
        have : (l.drop a)[0]? = some x := by rw [ha]; rfl
        rw [List.getElem?_drop] at this; simpa using this
      have e1 : Unicode.lowerAt (strOf l).cps (0 + a) = [lowerC x] := by
        unfold Unicode.lowerAt
        have : (strOf l).cps[0 + a]? = some x := by simp [strOf, hx]
        rw [this]
        have hm : x ∈ l := List.mem_of_getElem? hx
        have hlt : x < 128 := by simpa using List.all_eq_true.mp h x hm
        have := List.all_eq_true.mp lower_ascii x (List.mem_range.mpr hlt)
        simp only
        rw [if_neg (by simp; omega)]
        exact beq_iff_eq.mp this
      have e2 := ih (a + 1) (by rw [← List.drop_drop, ha]; rfl)
      rw [e1]
      have e3 : (fun (i : Nat) (c : Nat) => (Unicode.lowerAt (strOf l).cps (i + 1 + a)).toArray) = (fun (i : Nat) (c : Nat) => (Unicode.lowerAt (strOf l).cps (i + (a + 1))).toArray) := by
        funext i c; rw [show i + 1 + a = i + (a + 1) by omega]
      rw [e3, e2]; rfl
  have := key l 0 rfl
  simpa using this
theorem lower_len (l : List Nat) : (strOf (l.map lowerC)).length = l.length := by rw [strOf_len, List.length_map]

theorem lstrip_eq (l p : List Nat) : Txt.lstripChars (strOf l) (strOf p) = strOf (l.dropWhile p.contains) := by
  unfold Txt.lstripChars Txt.stripBy
  have hg : (strOf p).cps.contains = p.contains := by
    funext c; simp [strOf]
  rw [hg]
  have e : stripped p.contains true false (strOf l) = strOf (l.dropWhile p.contains) := by
    unfold stripped stripLo stripHi
    simp only [if_true, Bool.false_eq_true, if_false]
    apply Str.ext'
    apply Array.toList_inj.mp
    rw [strSub_toList, strOf_toList, strOf_toList, strOf_len]
    have a := List.takeWhile_append_dropWhile (p := p.contains) (l := l)
    have b : l.drop (l.takeWhile p.contains).length = l.dropWhile p.contains := by
      conv => lhs; rw [← a]
      rw [List.takeWhile_append_dropWhile]
      conv => lhs; arg 2; rw [← a]
      exact List.drop_left
    rw [b, List.take_of_length_le]
    have := congrArg List.length a
    rw [List.length_append] at this
    omega
  split
  · rename_i h
    unfold stripSame stripLo at h
    simp only [if_true, Bool.and_eq_true, beq_iff_eq] at h
    have : l.dropWhile p.contains = l := by
      have a := List.takeWhile_append_dropWhile (p := p.contains) (l := l)
      have z : l.takeWhile p.contains = [] := by
        have := h.1; rw [strOf_toList] at this
        exact List.length_eq_zero_iff.mp this
      rw [z] at a; simpa using a
    rw [this]
  · exact e

noncomputable def joinC (c : Nat) : List (List Nat) → List Nat
  | [] => []
  | [x] => x
  | x :: y :: r => x ++ c :: joinC c (y :: r)
theorem splitC_plain (c : Nat) : ∀ (x acc : List Nat), c ∉ x → splitC c x acc = [acc.reverse ++ x]
  | [], acc, _ => by simp [splitC]
  | d :: r, acc, h => by
    have hd : ¬ d = c := fun e => h (e ▸ .head _)
    rw [splitC, if_neg (by simpa using hd), splitC_plain c r _ (fun q => h (.tail _ q))]
    simp
theorem splitC_app (c : Nat) (t : List Nat) : ∀ (x acc : List Nat), c ∉ x → splitC c (x ++ c :: t) acc = (acc.reverse ++ x) :: splitC c t []
  | [], acc, _ => by simp [splitC]
  | d :: r, acc, h => by
    have hd : ¬ d = c := fun e => h (e ▸ .head _)
    rw [List.cons_append, splitC, if_neg (by simpa using hd), splitC_app c t r _ (fun q => h (.tail _ q))]
    simp
theorem splitC_join (c : Nat) : ∀ (ps : List (List Nat)), ps ≠ [] → (∀ p ∈ ps, c ∉ p) → splitC c (joinC c ps) [] = ps
  | [], h, _ => absurd rfl h
  | [x], _, h => by rw [joinC, splitC_plain c x [] (h x (.head _))]; rfl
  | x :: y :: r, _, h => by
    rw [joinC, splitC_app c _ x [] (h x (.head _)), splitC_join c (y :: r) (by simp) (fun p hp => h p (.tail _ hp))]
    rfl
theorem glued_fold (c : Nat) : ∀ (ps : List Str) (acc : Array Nat), (ps.foldl (fun acc p => acc ++ (⟨#[c]⟩ : Str).cps ++ p.cps) acc).toList = match ps with | [] => acc.toList | _ => acc.toList ++ c :: joinC c (ps.map (·.cps.toList))
  | [], acc => rfl
  | [p], acc => by simp [joinC]
  | p :: q :: r, acc => by
    rw [List.foldl_cons, glued_fold c (q :: r)]
    simp [joinC]
theorem glued_eq (c : Nat) (ps : List Str) : (glued ⟨#[c]⟩ ps).cps.toList = joinC c (ps.map (·.cps.toList)) := by
  unfold glued
  cases ps with
  | nil => rfl
  | cons p r =>
    refine Eq.trans (glued_fold c r p.cps) ?_
    cases r <;> simp [joinC]
theorem split_glued (x : Str) (c : Nat) : glued ⟨#[c]⟩ (Txt.split x ⟨#[c]⟩) = x := by
  unfold Txt.split
  split
  · rfl
  · split
    · rfl
    · exact glued_between_self x ⟨#[c]⟩ _
theorem split_ne (x : Str) (c : Nat) : Txt.split x ⟨#[c]⟩ ≠ [] := by
  unfold Txt.split
  split
  · simp
  · split
    · simp
    · rw [partsBetween_eq]
      obtain ⟨p, r, h⟩ := partsFrom_ne x (⟨#[c]⟩ : Str).length 0 (occurrences x ⟨#[c]⟩ 0 x.length (x.length + 1))
      rw [h]; simp
theorem split_eq (l : List Nat) (c : Nat) : (Txt.split (strOf l) (strOf [c])).map (·.cps.toList) = splitC c l [] := by
  have a := congrArg (fun x : Str => x.cps.toList) (split_glued (strOf l) c)
  simp only [strOf_toList, glued_eq] at a
  show (Txt.split (strOf l) ⟨#[c]⟩).map _ = _
  have b := splitC_join c ((Txt.split (strOf l) ⟨#[c]⟩).map (·.cps.toList)) (by simpa using split_ne (strOf l) c) (fun p hp => by
    obtain ⟨q, hq, rfl⟩ := List.mem_map.mp hp
    exact split_free (strOf l) c q hq)
  rw [a] at b
  exact b.symm
end Mine
end
section
set_option Elab.async false
set_option linter.all false
set_option genInjectivity false
namespace Mine
open PySem PySem.Spec PySem.Calls PyProof.Rows

mutual
noncomputable def toD : V → PyData
  | .none => .none
  | .bool b => .bool b
  | .int i => .int i
  | .str l => .str (strOf l)
  | .tup vs => .tuple (toDs vs)
  | .lst vs => .list (toDs vs)
  | _ => .none
noncomputable def toDs : List V → List PyData
  | [] => []
  | v :: r => toD v :: toDs r
end
section
variable {α β : Type} {W : Prop}
theorem pick_is {a b : Option α} {y : α} (h : pick a b = some y) (f : a = some y → W) (g : b = some y → W) : W := by
  cases a with
  | none => exact g h
  | some v => exact f h
theorem bind_is {o : Option α} {k : α → Option β} {y : β} (h : o.bind k = some y) (f : ∀ v, o = some v → k v = some y → W) : W := (Option.bind_eq_some_iff.mp h).elim fun v q => f v q.1 q.2
theorem map_is {o : Option α} {k : α → β} {y : β} (h : o.map k = some y) (f : ∀ v, o = some v → k v = y → W) : W := (Option.map_eq_some_iff.mp h).elim fun v q => f v q.1 q.2
theorem if_is {p : Prop} [Decidable p] {o : Option α} {y : α} (h : (if p then o else none) = some y) (f : p → o = some y → W) : W :=
  if q : p then f q ((if_pos q).symm.trans h) else nomatch (if_neg q).symm.trans h
theorem mapM_is {f : α → Option β} {v : α} {vs : List α} {xs : List β} (h : (v :: vs).mapM f = some xs) (k : ∀ y ys, f v = some y → vs.mapM f = some ys → y :: ys = xs → W) : W :=
  bind_is (List.mapM_cons.symm.trans h) fun y e h => bind_is h fun ys e' h => k y ys e e' (Option.some.inj h)
end

section
variable {C : Cfg} {A : Around} {F : Fm} {g : Gh} {loc : L} {c : H} {s : Shared}

/-- what == reads of a value -/
noncomputable def LookOK (h : Heap) (k : Nat) (val : Value) (d : PyData) : Prop := (∃ as, Reads h val d as) ∧ d.canLay0 = true ∧ d.depth ≤ k
noncomputable def LooksOK (h : Heap) (k : Nat) (vals : List Value) (ds : List PyData) : Prop := (∃ as, ReadsAll h vals ds as) ∧ PyData.canLayAll0 ds = true ∧ PyData.depthAll ds ≤ k
theorem LooksOK.cons {h : Heap} {k : Nat} {val : Value} {vals : List Value} {d : PyData} {ds : List PyData} (a : LookOK h k val d) (b : LooksOK h k vals ds) : LooksOK h k (val :: vals) (d :: ds) :=
  ⟨a.1.elim fun _ x => b.1.elim fun _ y => ⟨_, .cons x y⟩, Bool.and_eq_true_iff.mpr ⟨a.2.1, b.2.1⟩, Nat.max_le.mpr ⟨a.2.2, b.2.2⟩⟩
theorem plain_all {h : Heap} {k : Nat} (ih : ∀ {v x : V} {val : Value}, plainV c k v = some x → VR C g v val → LookOK h k val (toD x)) {vs : List V} : ∀ {xs : List V} {vals : List Value}, vs.mapM (plainV c k) = some xs → VRs C g vs vals → LooksOK h k vals (toDs xs) := by
  induction vs with
  | nil => exact fun e r => (show _ = _ from r) ▸ Option.some.inj e ▸ ⟨⟨_, .nil⟩, rfl, Nat.zero_le _⟩
  | cons v vs ih' => exact fun e r => mapM_is e fun y ys e1 e2 e3 => e3 ▸ r.elim fun _ r => r.elim fun _ r => r.1 ▸ .cons (ih e1 r.2.1) (ih' e2 r.2.2)
theorem strOk_of {l : List Nat} (h : TxtOK l) : PyData.strOk (strOf l) = true := by
  unfold PyData.strOk
  rw [← Array.all_toList, strOf_toList]
  exact List.all_eq_true.mpr fun x hx => decide_eq_true (h.cps x hx)
theorem LooksOK.seq {h : Heap} {k : Nat} {vals : List Value} {ds : List PyData} (a : LooksOK h k vals ds) {p : Addr} (ho : h.IsList p vals.toArray) : LookOK h (k + 1) (.ref p) (.list ds) :=
  ⟨ho.elim fun _ q => q.2.2.elim fun _ q' => a.1.elim fun _ x => ⟨_, .list q.1 q.2.1 q' x⟩, a.2.1, Nat.succ_le_succ a.2.2⟩
theorem LooksOK.tup {h : Heap} {k : Nat} {vals : List Value} {ds : List PyData} (a : LooksOK h k vals ds) {p : Addr} (ho : IsTup h p vals.toArray) : LookOK h (k + 1) (.ref p) (.tuple ds) :=
  ⟨ho.elim fun _ q => q.2.2.elim fun _ q' => a.1.elim fun _ x => ⟨_, .tuple q.1 q.2.1 q' x⟩, a.2.1, Nat.succ_le_succ a.2.2⟩
theorem plain_reads (r : Rel C F g loc c s.heap) (k : Nat) : ∀ {v x : V} {val : Value}, plainV c k v = some x → VR C g v val → LookOK s.heap k val (toD x) := by
  induction k with
  | zero => exact fun h => nomatch h
  | succ k ih =>
    intro v x val h hv
    cases v with
    | none => exact (show val = _ from hv) ▸ Option.some.inj h ▸ ⟨⟨_, .none⟩, rfl, Nat.zero_le _⟩
    | bool b => exact (show val = _ from hv) ▸ Option.some.inj h ▸ ⟨⟨_, .bool b⟩, rfl, Nat.zero_le _⟩
    | int i => exact hv.elim fun t q => q ▸ Option.some.inj h ▸ ⟨⟨_, .int i t⟩, rfl, Nat.zero_le _⟩
    | str l => exact hv.elim fun t q => q.1 ▸ Option.some.inj h ▸ ⟨⟨_, .str _ t⟩, strOk_of q.2, Nat.zero_le _⟩
    | tup vs => exact map_is h fun xs e q => q ▸ hv.elim fun p hv => hv.elim fun its hv => hv.1 ▸ (plain_all ih e hv.2.2.1).tup (r.tupAt hv.2.1)
    | lst vs => exact map_is h fun xs e q => q ▸ hv.elim fun p hv => hv.elim fun its hv => hv.1 ▸ (plain_all ih e hv.2.2.1).seq (r.lstAt hv.2.1)
    | ref n => exact bind_is h fun vs hc h => map_is h fun xs e q => q ▸ hv.elim fun p hv => hv.1 ▸ (r.cellAt hv.2 hc).elim fun its w => (plain_all ih e w.vrs).seq w.pl.isList
    | tok _ _ _ => exact nomatch h
    | fn _ => exact nomatch h
theorem LookOK.shaped {h : Heap} {val : Value} {d : PyData} (a : LookOK h 8 val d) : SeqAt.shaped d = true := Bool.and_eq_true_iff.mpr ⟨a.2.1, decide_eq_true (Nat.le_trans a.2.2 (by decide))⟩

theorem lst_is {x : V} {l : List V} (e : lstOf x = some l) : x = .lst l := by
  cases x with
  | lst m => exact congrArg V.lst (Option.some.inj e)
  | _ => cases e
theorem eqv_nil : ∀ {l : List V}, l.isEmpty = false → PyData.eqv (toD (.lst l)) (toD (.lst [])) = false
  | _ :: _, _ => rfl
section
variable {h : Heap} {x : V} {a : Value}
theorem look_str {l : List Nat} (hx : VR C g x a) (e : txtOf x = some l) : LookOK h 8 a (.str (strOf l)) := hx.isTxt (W := fun a => LookOK h 8 a (.str (strOf l))) e fun t h => ⟨⟨_, .str _ t⟩, strOk_of h, Nat.zero_le _⟩
theorem look_int {i : Int} (hx : VR C g x a) (e : intOf x = some i) : LookOK h 8 a (.int i) := hx.isInt (W := fun a => LookOK h 8 a (.int i)) e fun t => ⟨⟨_, .int i t⟩, rfl, Nat.zero_le _⟩
theorem look_bool {i : Bool} (hx : VR C g x a) (e : boolOf x = some i) : LookOK h 8 a (.bool i) := hx.isBool (W := fun a => LookOK h 8 a (.bool i)) e ⟨⟨_, .bool i⟩, rfl, Nat.zero_le _⟩
end
theorem eq_data (r : Rel C F g loc c s.heap) {x y : V} {a b : Value} {t : Bool} (hx : VR C g x a) (hy : VR C g y b) (h : eqV c x y = some t) : ∃ da db, LookOK s.heap 8 a da ∧ LookOK s.heap 8 b db ∧ PyData.eqv da db = t :=
  pick_is h (fun h => bind_is h fun l e1 h => bind_is h fun m e2 h => ⟨_, _, look_str hx e1, look_str hy e2, (strOf_beq l m).trans (Option.some.inj h)⟩) fun h =>
  pick_is h (fun h => bind_is h fun i e1 h => bind_is h fun j e2 h => ⟨_, _, look_int hx e1, look_int hy e2, Option.some.inj h⟩) fun h =>
  pick_is h (fun h => bind_is h fun i e1 h => bind_is h fun j e2 h => ⟨_, _, look_bool hx e1, look_bool hy e2, Option.some.inj h⟩) fun h =>
  bind_is h fun p e1 h => bind_is h fun q e2 h => ⟨toD p, toD q, plain_reads r 8 e1 hx, plain_reads r 8 e2 hy, (Classical.em (p = q)).elim
    (fun w => (w ▸ SeqAt.eqv_refl _ (plain_reads r 8 e1 hx).2.1 : PyData.eqv (toD p) (toD q) = true).trans (Option.some.inj ((if_pos w).symm.trans h)))
    fun w => bind_is ((if_neg w).symm.trans h) fun l q1 h => bind_is h fun m q2 h => if_is h fun hs h => lst_is q1 ▸ lst_is q2 ▸ hs.2 ▸ (eqv_nil hs.1).trans (Option.some.inj h)⟩

theorem strs_are {vs : List V} : ∀ {its : List Value} {ys : List (List Nat)}, VRs C g vs its → strsOf vs = some ys → StrsAre its (ys.map strOf) := by
  induction vs with
  | nil => exact fun r h => (show _ = _ from r) ▸ Option.some.inj h ▸ .nil
  | cons v vs ih =>
    intro its ys r h
    cases v with
    | str l => exact map_is h fun zs e q => q ▸ r.elim fun _ r => r.elim fun _ r => r.1 ▸ r.2.1.elim fun t w => w.1 ▸ .cons _ t (ih r.2.2 e)
    | _ => cases h
theorem ints_are {vs : List V} : ∀ {its : List Value} {ys : List Int}, VRs C g vs its → intsOf vs = some ys → IntsAre its ys := by
  induction vs with
  | nil => exact fun r h => (show _ = _ from r) ▸ Option.some.inj h ▸ .nil
  | cons v vs ih =>
    intro its ys r h
    cases v with
    | int l => exact map_is h fun zs e q => q ▸ r.elim fun _ r => r.elim fun _ r => r.1 ▸ r.2.1.elim fun t w => w ▸ .cons _ t (ih r.2.2 e)
    | _ => cases h
theorem any_strs (p : List Nat) (ys : List (List Nat)) : (ys.map strOf).any (· == strOf p) = ys.any (· == p) := by
  rw [List.any_map]
  exact congrArg ys.any (funext fun y => strOf_beq y p)
theorem in1_is {l p : List Nat} {t : Bool} (h : in1 l p = some t) : Txt.contains (strOf l) (strOf p) = t := by
  cases p with
  | nil => exact (contains_nil l).trans (Option.some.inj h)
  | cons z r => cases r with
    | nil => exact (contains_one l z).trans (Option.some.inj h)
    | cons => cases h

/-- «in» and «not in» -/
noncomputable def InNow (C : Cfg) (A : Around) (s : Shared) (Q : Value → Shared → Prop) (E : Value → Shared → Prop) (t : Bool) (a b : Value) : Prop :=
  (Q (.bool t) s → wpAny (model C.prog C.w) A (compareOp .In a b) Q E s) ∧ (Q (.bool (!t)) s → wpAny (model C.prog C.w) A (compareOp .NotIn a b) Q E s)
theorem in_cases (r : Rel C F g loc c s.heap) {x y : V} {a b : Value} {t : Bool} (hx : VR C g x a) (hy : VR C g y b) (h : inV x y = some t) {Q : Value → Shared → Prop} {E : Value → Shared → Prop} : InNow C A s Q E t a b :=
  pick_is h (fun h => bind_is h fun l e h => bind_is h fun p e' h => hy.isTxt (W := InNow C A s Q E t a) e fun u _ => hx.isTxt (W := fun a => InNow C A s Q E t a (.str (strOf l) u)) e' fun u' _ =>
      ⟨fun q => SB.contains (in1_is h ▸ q), fun q => SB.notContains (in1_is h ▸ q)⟩) fun h =>
  pick_is h (fun h => bind_is h fun vs e h => bind_is h fun p e' h => map_is h fun ys w k => hy.isTup (W := InNow C A s Q E t a) e fun P its h1 h2 _ => hx.isTxt (W := fun a => InNow C A s Q E t a (.ref P)) e' fun u' _ =>
      ⟨fun q => PyProof.Rows.in_tuple_strs (r.tupAt h1) (strs_are h2 w) ((any_strs p ys).trans k ▸ q), fun q => PyProof.Rows.notin_tuple_strs (r.tupAt h1) (strs_are h2 w) ((any_strs p ys).trans k ▸ q)⟩) fun h =>
  bind_is h fun vs e h => hy.isLst (W := InNow C A s Q E t a) e fun P its h1 h2 _ =>
    pick_is h (fun h => bind_is h fun p e' h => map_is h fun ys w k => hx.isTxt (W := fun a => InNow C A s Q E t a (.ref P)) e' fun u' _ =>
      ⟨fun q => PyProof.Rows.in_list_strs (r.lstAt h1) (strs_are h2 w) ((any_strs p ys).trans k ▸ q), fun q => PyProof.Rows.notin_list_strs (r.lstAt h1) (strs_are h2 w) ((any_strs p ys).trans k ▸ q)⟩) fun h =>
    bind_is h fun i e' h => map_is h fun ys w k => hx.isInt (W := fun a => InNow C A s Q E t a (.ref P)) e' fun u' =>
      ⟨fun q => PyProof.Rows.in_list_ints (r.lstAt h1) (ints_are h2 w) (k ▸ q), fun q => PyProof.Rows.notin_list_ints (r.lstAt h1) (ints_are h2 w) (k ▸ q)⟩

theorem cmp_now {α β : Type} {P' : Gh → H → Heap → β → α → Prop} {k : Bool → R β} {Q' : α → Shared → Prop} {E' : Value → Shared → Prop} (r : Rel C F g loc c s.heap) (hu : A.units + 64 < cLine) {o : CO} {x y : V} {a b : Value} (hx : VR C g x a) (hy : VR C g y b) (G : Goal C F P' g s (ofK (cmpV o c x y) k) Q' E')
    {Q : Value → Shared → Prop} {E : Value → Shared → Prop} (hq : ∀ t, Goal C F P' g s (k t) Q' E' → Q (.bool t) s) : wpAny (model C.prog C.w) A (compareOp (opC o) a b) Q E s := by
  revert G
  cases o with
  | eq => exact fun G => G.opt fun t h G => (eq_data r hx hy h).elim fun da q => q.elim fun db q => q.1.1.elim fun _ ra => q.2.1.1.elim fun _ rb => SeqAt.compareEq_shaped ra rb q.1.shaped q.2.1.shaped hu (q.2.2 ▸ hq t G)
  | ne => exact fun G => G.omap fun t h G => (eq_data r hx hy h).elim fun da q => q.elim fun db q => q.1.1.elim fun _ ra => q.2.1.1.elim fun _ rb => SeqAt.compareNe_shaped ra rb q.1.shaped q.2.1.shaped hu (q.2.2 ▸ hq (!t) G)
  | isin => exact fun G => G.opt fun t h G => (in_cases r hx hy h).1 (hq t G)
  | notin => exact fun G => G.omap fun t h G => (in_cases r hx hy h).2 (hq (!t) G)
  | lt => exact fun G => G.ints2 (W2 := fun a b => wpAny _ A (compareOp .Lt a b) Q E s) hx hy fun _ _ _ _ G => wpAny_lt_int (hq _ G)
  | gt => exact fun G => G.ints2 (W2 := fun a b => wpAny _ A (compareOp .Gt a b) Q E s) hx hy fun _ _ _ _ G => P.gt_int (hq _ G)
  | le => exact fun G => G.pick (fun G => G.ints2 (W2 := fun a b => wpAny _ A (compareOp .LtE a b) Q E s) hx hy fun _ _ _ _ G => P.le_int (hq _ G)) fun G =>
      G.strs2 (W2 := fun a b => wpAny _ A (compareOp .LtE a b) Q E s) hx hy fun l _ m _ _ _ G => P.le_str (hq _ G)
  | ge => exact fun G => G.ints2 (W2 := fun a b => wpAny _ A (compareOp .GtE a b) Q E s) hx hy fun _ _ _ _ G => P.ge_int (hq _ G)
theorem Goal.map_in {α β γ δ : Type} {P : Gh → H → Heap → β → α → Prop} {Q : α → Shared → Prop} {E : Value → Shared → Prop} {o : Option γ} {j : γ → δ} {k : δ → R β} (G : Goal C F P g s (ofK (o.map j) k) Q E) : Goal C F P g s (ofK o fun v => k (j v)) Q E := by cases o <;> exact G

/-! items and slices -/
theorem sub_ops (slice : Expr) (o i : Value) : ∃ ops, subscripted slice false o i = operate ops (getItem o i) := by
  cases slice with
  | Slice _ _ st _ => cases st <;> exact ⟨_, rfl⟩
  | _ => exact ⟨_, rfl⟩
theorem seqIndex_nat {k : Int} {n : Nat} (h0 : 0 ≤ k) (h1 : k.toNat < n) : seqIndex? k n = some k.toNat := by
  unfold seqIndex?
  simp only [if_neg (Int.not_lt.mpr h0)]
  exact if_pos (Bool.and_eq_true_iff.mpr ⟨decide_eq_true h0, decide_eq_true (by omega)⟩)
theorem big63 {n : Nat} {k : Int} (h0 : 0 ≤ k) (h1 : k.toNat < n) (h2 : n ≤ sizeLine) : k < 2 ^ 63 := by
  have : sizeLine < 2 ^ 62 := by decide
  omega
theorem fits63 {k : Int} (h : 0 ≤ k) (h' : k < 2 ^ 63) : fitsSsize k = true := by
  unfold fitsSsize; rw [decide_eq_false (by omega), decide_eq_false (by omega)]; rfl
theorem get_lt {α : Type} {l : List α} {i : Nat} {x : α} (e : l[i]? = some x) : i < l.length := (List.getElem?_eq_some_iff.mp e).1

theorem sub_idx (r : Rel C F g loc c s.heap) {value slice : Expr} {x i : V} {a b : Value} (hx : VR C g x a) (hi : VR C g i b) {Q : Value → Shared → Prop} {E : Value → Shared → Prop}
    (G : Goal C F (EvP C F loc (VR C)) g s (ofO (idxV c x i) c) Q E) : wpAny (model C.prog C.w) A (subscriptTail value slice a b) Q E s :=
  G.int (W := fun b => wpAny (model C.prog C.w) A (subscriptTail value slice a b) Q E s) hi fun k u G =>
  G.pick (fun G => G.txt (W := fun a => wpAny (model C.prog C.w) A (subscriptTail value slice a (.int k u)) Q E s) hx fun l t h G => G.omap fun z e G => if_is e fun h0 e =>
      have e1 : Txt.charAt (strOf l) k = some z := by
        unfold Txt.charAt
        rw [seqIndex_nat (n := (strOf l).length) h0 (get_lt e)]
        exact (List.getElem?_toArray).trans e
      (sub_ops slice (.str (strOf l) t) (.int k u)).elim fun ops hs => tail_any (typeIs_str _ _ _) PySem.F.slot_str_getitem.lookup (SB.getItem (fits63 h0 (big63 h0 (get_lt e) h.len)) (by rw [e1]; rfl)
        ((show Txt.item (strOf l) k = strOf [z] by unfold Txt.item; rw [e1]; rfl) ▸ G.now r (.txt (.one (h.cps z (List.mem_of_getElem? e)))))) hs) fun G =>
  G.pick (fun G => G.obind fun vs e G => hx.isTup (W := fun a => wpAny (model C.prog C.w) A (subscriptTail value slice a (.int k u)) Q E s) e fun p its h1 h2 h3 => G.opt fun y e G => if_is e fun h0 e => (h2.get e).elim fun v q =>
      have hb : its.length ≤ sizeLine := h2.length ▸ Nat.le_trans h3 big_le
      (sub_ops slice (.ref p) (.int k u)).elim fun ops hs => tail_any (r.tupAt h1).typeIs slot_tuple_getitem.lookup (PyProof.Rows.getItem_tuple (r.tupAt h1) (by omega) (big63 h0 (get_lt q.1) hb) (seqIndex_nat h0 (get_lt q.1)) ((List.getElem?_toArray).trans q.1) (G.now r q.2)) hs) fun G =>
  G.list (W := fun a => wpAny (model C.prog C.w) A (subscriptTail value slice a (.int k u)) Q E s) r hx fun vs p its h1 h2 h3 G => G.opt fun y e G =>
      have hb : its.length ≤ sizeLine := h2.length ▸ Nat.le_trans h3 big_le
      (sub_ops slice (.ref p) (.int k u)).elim fun ops hs => if h0 : 0 ≤ k then (h2.get ((if_pos h0).symm.trans e)).elim fun v q =>
          tail_any h1.typeIs slot_list_getitem.lookup (wpAny_getItem_list h1 h0 (big63 h0 (get_lt q.1) hb) ((List.getElem?_toArray).trans q.1) (G.now r q.2)) hs
        else if_is ((if_neg h0).symm.trans e) fun h1' e => (h2.get e).elim fun v q =>
          tail_any h1.typeIs slot_list_getitem.lookup (wpAny_getItem_list_neg h1 (Int.not_le.mp h0) (show -(its.length : Int) ≤ k from h2.length ▸ Int.neg_le_of_neg_le h1') (Int.le_trans (Int.neg_le_neg (Int.ofNat_le.mpr (Nat.le_trans hb (show sizeLine ≤ 2 ^ 63 by decide)))) (show -(its.length : Int) ≤ k from h2.length ▸ Int.neg_le_of_neg_le h1')) (show its.toArray[(k + its.length).toNat]? = _ from (List.getElem?_toArray).trans (h2.length ▸ q.1)) (G.now r q.2)) hs

theorem VRs.drop {C : Cfg} {g : Gh} {vs : List V} : ∀ {xs : List Value} (n : Nat), VRs C g vs xs → VRs C g (vs.drop n) (xs.drop n) := by
  induction vs with
  | nil => exact fun n h => (show _ = _ from h) ▸ (by rw [List.drop_nil, List.drop_nil]; exact .nil)
  | cons v vs ih => exact fun n h => match n with
    | 0 => h
    | n + 1 => h.elim fun _ h => h.elim fun _ h => h.1 ▸ ih n h.2.2
theorem VRs.take {C : Cfg} {g : Gh} {vs : List V} : ∀ {xs : List Value} (n : Nat), VRs C g vs xs → VRs C g (vs.take n) (xs.take n) := by
  induction vs with
  | nil => exact fun n h => (show _ = _ from h) ▸ (by rw [List.take_nil, List.take_nil]; exact .nil)
  | cons v vs ih => exact fun n h => match n with
    | 0 => .nil
    | n + 1 => h.elim fun _ h => h.elim fun _ h => h.1 ▸ .cons h.2.1 (ih n h.2.2)
theorem VRs.slice {C : Cfg} {g : Gh} {vs : List V} {xs : List Value} (lo hi : Option Int) (r : VRs C g vs xs) : VRs C g (sliceL vs lo hi) (sliceL xs lo hi) := by
  rw [sliceL_eq, sliceL_eq, r.length]
  exact (r.drop _).take _
theorem slicePick_eq (its : List Value) (lo hi : Option Int) : slicePick its.toArray lo hi none = (sliceL its lo hi).toArray := by
  have e := pick_run its.toArray (lo.elim 0 (clipAt its.length)) (hi.elim its.length (clipAt its.length) - lo.elim 0 (clipAt its.length))
  rw [sliceL_eq, ← show _ = _ from e, ← sliceRange_one]
  unfold slicePick
  rw [sliceBounds_plain]
  rfl

inductive Part : V → Value → Option Int → Option (Int × Tok) → Prop
  | none : Part .none .none none none
  | int (i : Int) (t : Tok) : Part (.int i) (.int i t) (some i) (some (i, t))
theorem part_of {x : V} {a : Value} {p : Option Int} (hx : VR C g x a) (h : bnd x = some p) : ∃ q, Part x a p q := by
  cases x with
  | none => exact (show a = _ from hx) ▸ Option.some.inj h ▸ ⟨_, .none⟩
  | int i => exact hx.elim fun t q => q ▸ Option.some.inj h ▸ ⟨_, .int i t⟩
  | _ => cases h
theorem Part.is {x : V} {a : Value} {p : Option Int} {q : Option (Int × Tok)} (h : Part x a p q) : IsPart a p ∧ a = partValue q ∧ p = q.map (·.1) := by
  cases h with
  | none => exact ⟨.none, rfl, rfl⟩
  | int i t => exact ⟨.int i t, rfl, rfl⟩

/-- a slice without a step, of a text or a list -/
theorem sub_slc (r : Rel C F g loc c s.heap) {value slice : Expr} {x lo hi : V} {a l u : Value} (hx : VR C g x a) (hl : VR C g lo l) (hu : VR C g hi u) {Q : Value → Shared → Prop} {E : Value → Shared → Prop}
    (G : Goal C F (EvP C F loc (VR C)) g s (ofO (slcV x lo hi) c) Q E) :
    wpAny (model C.prog C.w) A (subscriptTail value slice a (.ref s.heap.objs.size)) Q E { s with heap := s.heap.push { cls := .type "slice", data := .fields #[l, u, .none] } } :=
  G.obind fun p e1 G => G.obind fun q e2 G => (part_of hl e1).elim fun p' P1 => (part_of hu e2).elim fun q' P2 =>
  have r2 := r.push { cls := .type "slice", data := .fields #[l, u, .none] }
  G.pick (fun G => G.omap fun m e G => hx.isTxt (W := fun a => wpAny (model C.prog C.w) A (subscriptTail value slice a (.ref s.heap.objs.size)) Q E { s with heap := s.heap.push { cls := .type "slice", data := .fields #[l, u, .none] } }) e fun t h =>
      (sub_ops slice (.str (strOf m) t) (.ref s.heap.objs.size)).elim fun ops hs => tail_any (typeIs_str _ _ _) PySem.F.slot_str_getitem.lookup (wpAny_getItem_str_slice (l := p') (u := q') (st := none) ⟨_, Heap.get?_push_size _ rfl, rfl, by rw [P1.is.2.1, P2.is.2.1]; rfl⟩ rfl
        (post_slice h fun t' tk => P1.is.2.2 ▸ P2.is.2.2 ▸ G.done g.le_refl ⟨r2, .txt h.slice⟩)) hs) fun G =>
  G.omap fun vs e G => hx.isLst (W := fun a => wpAny (model C.prog C.w) A (subscriptTail value slice a (.ref s.heap.objs.size)) Q E { s with heap := s.heap.push { cls := .type "slice", data := .fields #[l, u, .none] } }) e fun o its h1 h2 h3 =>
      (sub_ops slice (.ref o) (.ref s.heap.objs.size)).elim fun ops hs => tail_any ((r2.lstAt (s := { s with heap := _ }) h1).typeIs) slot_list_getitem.lookup (wpAny_getItem_list_slice (r2.lstAt (s := { s with heap := _ }) h1) (Heap.IsSliceOf.new _ _ _ _) P1.is.1 P2.is.1 .none (fun q => nomatch q)
        (slicePick_eq its p q ▸ Goal.newList (s := { s with heap := _ }) (G.move g.le_refl) r2 (h2.slice p q) (Nat.le_trans (len_sliceL _ _ _) h3)) (show its.length ≤ sizeLine from h2.length ▸ Nat.le_trans h3 big_le)) hs
end
end Mine
end
section
set_option Elab.async false
set_option linter.all false
namespace Mine
open PySem PySem.Spec PySem.Calls PyProof.Rows PySem.StrLaws PySem.Builtin PySem.Builtin.Str

noncomputable def p1Fn : P1 → Option Value
  | .len => some (.builtin "len") | .ord => some (.builtin "ord") | .chr => some (.builtin "chr") | .sum => some (.builtin "sum") | .min => some (.builtin "min")
  | .str => some (.type "str") | .lower => some (.builtin "str.lower") | _ => none
noncomputable def p2Fn : P2 → Option Value
  | .max => some (.builtin "max") | .find => some (.builtin "str.find") | .count => some (.builtin "str.count") | .split => some (.builtin "str.split")
  | .lstrip => some (.builtin "str.lstrip") | .join => some (.builtin "str.join") | .append => some (.builtin "list.append")

section
variable {C : Cfg} {A : Around} {F : Fm} {g : Gh} {loc : L} {c : H} {s : Shared} {Q : Value → Shared → Prop} {E : Value → Shared → Prop}

theorem tl_false {n : Nat} (h : n ≤ sizeLine) : tooLong n = false := decide_eq_false (Nat.not_lt.mpr h)
theorem toString_fits {i : Int} (h : small i = true) : i.natAbs.log2 < 1920 := by
  by_cases h0 : i.natAbs = 0
  · rw [h0]; decide
  · refine Nat.lt_trans ((Nat.log2_lt (k := 62) h0).mpr ?_) (by decide)
    have := small_is h
    omega
theorem textOf_str (i : Int) : Str.ofString (toString i) = strOf (textOf i) := Str.ofString_eq_toList _
theorem char_small (c : Char) : c.toNat < 1114112 := c.valid.elim (fun h => Nat.lt_trans h (by decide)) fun h => h.2
theorem text_ok {i : Int} (hs : small i = true) : TxtOK (textOf i) := ⟨Nat.le_trans (Nat.le_of_eq (congrArg Str.length (textOf_str i)).symm) (int_text_fits (toString_fits hs)), fun z hz => (List.mem_map.mp hz).elim fun q w => w.2 ▸ char_small q⟩
theorem lower_small {z : Nat} (h : z < 128) : lowerC z < 1114112 := by
  unfold lowerC
  split
  · exact Nat.lt_of_lt_of_le (Nat.add_lt_add_right h 32) (by decide)
  · exact Nat.lt_trans h (by decide)
theorem TxtOK.lower {l : List Nat} (h : TxtOK l) (hs : l.all (fun c => decide (c < 128)) = true) : TxtOK (l.map lowerC) :=
  ⟨Nat.le_trans (Nat.le_of_eq (List.length_map ..)) h.len, fun z hz => (List.mem_map.mp hz).elim fun q w => w.2 ▸ lower_small (of_decide_eq_true (List.all_eq_true.mp hs q w.1))⟩
theorem size62 {n : Nat} (h : n ≤ sizeLine) : (n : Int) < 2 ^ 63 := Int.ofNat_lt.mpr (Nat.lt_of_le_of_lt h (show sizeLine < 2 ^ 63 by decide))

/-- the ints of a list, as the model's sum and min read them -/
theorem ints_items {vs : List V} {its : List Value} {is : List Int} (h2 : VRs C g vs its) (e : intsOf vs = some is) : ∃ xs, its.toArray = intItems xs ∧ is = xs.toList.map (·.1) :=
  have hi := ints_are h2 e
  hi.allInts.items.imp fun xs ex => ⟨ex, by rw [← hi.numsOf, ← nums_intItems, ← ex]⟩
theorem min_at {xs : Array (Int × Tok)} {m : Int} (em : (xs.toList.map (·.1)).min? = some m) : 0 < xs.size ∧ numAt xs (argBest (fun i j => decide (numAt xs i < numAt xs j)) (xs.size - 1)) = m := by
  have hm := List.min?_eq_some_iff.mp em
  have hl : (xs.toList.map (·.1)).length = xs.size := (List.length_map ..).trans Array.length_toList
  have hsz : 0 < xs.size := hl ▸ List.length_pos_of_mem hm.1
  have h := argBest_lt (numAt xs) (xs.size - 1)
  refine ⟨hsz, Int.le_antisymm ?_ (hm.2 _ ?_)⟩
  · refine (mem_getD hm.1).elim fun j q => ?_
    have k3 := h.2 j (Nat.le_pred_of_lt (hl ▸ q.1))
    rw [numAt_eq xs j, q.2] at k3
    exact k3
  · rw [numAt_eq]
    exact PySem.getD_mem (Nat.lt_of_lt_of_eq (Nat.lt_of_le_of_lt h.1 (Nat.pred_lt (Nat.ne_of_gt hsz))) hl.symm)

theorem sum_at {xs : Array (Int × Tok)} {is : List Int} (e : is = xs.toList.map (·.1)) : is.sum = preSum (numAt xs) xs.size := by
  rw [preSum_eq, List.take_of_length_le (Nat.le_of_eq ((List.length_map ..).trans Array.length_toList)), e]
theorem len_to {n m : Nat} {t : Tok} {s : Shared} (e : n = m) (q : Q (.int m t) s) : Q (.int n t) s := e ▸ q
theorem ord_is {W : List Nat → V → Prop} {l : List Nat} {v : V} (e : ord1 l = some v) (f : ∀ z : Nat, W [z] (.int z)) : W l v := by
  cases l with
  | nil => cases e
  | cons z r => cases r with
    | nil => exact Option.some.inj e ▸ f z
    | cons => cases e
theorem prim1 (r : Rel C F g loc c s.heap) (hh : A.handled = none) {p : P1} {f : Value} {x : V} {a : Value} (hf : p1Fn p = some f) (hx : VR C g x a) (G : Goal C F (EvP C F loc (VR C)) g s (p1V p x c) Q E) : wpAny (model C.prog C.w) A (call f [a]) Q E s := by
  revert G
  cases p with
  | len => exact Option.some.inj hf ▸ fun G => G.pick (fun G => G.omap fun l e G => hx.isTxt (W := fun a => wpAny _ A (call (.builtin "len") [a]) Q E s) e fun t h => P.len_str (Int.not_le.mpr (size62 h.len)) (G.now r (.int _ _))) fun G =>
      G.pick (fun G => G.omap fun l e G => hx.isList (W := fun a => wpAny _ A (call (.builtin "len") [a]) Q E s) r e fun p its h1 h2 h3 => call_len_list h1 (size62 (n := its.length) (h2.length ▸ Nat.le_trans h3 big_le)) (len_to h2.length (G.now r (.int _ _)))) fun G =>
      G.omap fun l e G => hx.isTup (W := fun a => wpAny _ A (call (.builtin "len") [a]) Q E s) e fun p its h1 h2 h3 => PyProof.Rows.len_tuple (r.tupAt h1) (size62 (n := its.length) (h2.length ▸ Nat.le_trans h3 big_le)) (len_to h2.length (G.now r (.int _ _)))
  | ord => exact Option.some.inj hf ▸ fun G => G.omap fun v e G => bind_is e fun l e1 e2 => hx.isTxt (W := fun a => wpAny _ A (call (.builtin "ord") [a]) Q E s) e1 fun t h => ord_is (W := fun l v => Goal C F (EvP C F loc (VR C)) g s (.ok v c) Q E → wpAny _ A (call (.builtin "ord") [.str (strOf l) t]) Q E s) e2 (fun z G => P.ord_of_char (G.now r (.int _ _))) G
  | chr => exact Option.some.inj hf ▸ fun G => G.int (W := fun a => wpAny _ A (call (.builtin "chr") [a]) Q E s) hx fun i t G => G.oif fun hi G => P.chr_of_int (by simp; omega) (G.now r (.txt (.one (by omega))))
  | sum => exact Option.some.inj hf ▸ fun G => G.obind fun l e G => hx.isLst (W := fun a => wpAny _ A (call (.builtin "sum") [a]) Q E s) e fun p its h1 h2 h3 => G.omap fun is e G => (ints_items h2 e).elim fun xs q =>
      sum_intListG hh (q.1 ▸ r.lstAt h1) fun h' tk t' hk => sum_at q.2 ▸ G.done g.le_refl ⟨r.keeps hk, .int _ _⟩
  | min => exact Option.some.inj hf ▸ fun G => G.obind fun l e G => hx.isLst (W := fun a => wpAny _ A (call (.builtin "min") [a]) Q E s) e fun p its h1 h2 h3 => G.obind fun is e G => G.omap fun m em G => (ints_items h2 e).elim fun xs q =>
      have hm := min_at (q.2 ▸ em)
      min_intList hh (q.1 ▸ r.lstAt h1) hm.1 fun v h' tk hv hk => (intItems_at hv).elim fun t e => e ▸ hm.2 ▸ G.done g.le_refl ⟨r.keeps hk, .int _ _⟩
  | str => exact Option.some.inj hf ▸ fun G => G.int (W := fun a => wpAny _ A (call (.type "str") [a]) Q E s) hx fun i t G => G.oif fun hs G => P.str_of_int (toString_fits hs) (textOf_str i ▸ G.now r (.txt (text_ok hs)))
  | lower => exact Option.some.inj hf ▸ fun G => G.txt (W := fun a => wpAny _ A (call (.builtin "str.lower") [a]) Q E s) hx fun l t h G => G.oif fun hs G => SC.lower (lower_eq hs ▸ tl_false (h.lower hs).len) (lower_eq hs ▸ G.now r (.txt (h.lower hs)))
  | _ => exact nomatch hf

theorem split_len (d : Nat) (l : List Nat) : ∀ acc, (splitC d l acc).length ≤ l.length + 1 := by
  induction l with
  | nil => exact fun _ => Nat.le_refl 1
  | cons z r ih =>
    intro acc
    rw [splitC]
    split
    · exact Nat.succ_le_succ (ih [])
    · exact Nat.le_succ_of_le (ih _)
theorem split_sub (d : Nat) {l : List Nat} {P : Nat → Prop} : (∀ z ∈ l, P z) → ∀ acc : List Nat, (∀ z ∈ acc, P z) → ∀ p ∈ splitC d l acc, p.length ≤ acc.length + l.length ∧ ∀ z ∈ p, P z := by
  induction l with
  | nil => exact fun _ acc ha p hp => List.mem_singleton.mp hp ▸ ⟨Nat.le_of_eq List.length_reverse, fun z hz => ha z (List.mem_reverse.mp hz)⟩
  | cons z r ih =>
    intro hl acc ha p hp
    rw [splitC] at hp
    split at hp
    · exact (List.mem_cons.mp hp).elim (fun e => e ▸ ⟨Nat.le_trans (Nat.le_of_eq List.length_reverse) (Nat.le_add_right _ _), fun z hz => ha z (List.mem_reverse.mp hz)⟩)
        fun hp => have q := ih (fun y hy => hl y (.tail _ hy)) [] (fun _ h => nomatch h) p hp; ⟨Nat.le_trans q.1 (Nat.le_trans (Nat.le_of_eq (Nat.zero_add _)) (Nat.le_trans (Nat.le_succ _) (Nat.le_add_left _ _))), q.2⟩
    · have q := ih (fun y hy => hl y (.tail _ hy)) (z :: acc) (fun y hy => (List.mem_cons.mp hy).elim (fun e => e ▸ hl z (.head _)) (ha y)) p hp
      exact ⟨Nat.le_trans q.1 (Nat.le_of_eq (Nat.succ_add_eq_add_succ _ _)), q.2⟩
theorem VR.txt' {l : List Nat} {x : Str} {t : Tok} (e : strOf l = x) (h : TxtOK l) : VR C g (.str l) (.str x t) := e ▸ .txt h
theorem vrs_strs {ps : List (Str × Tok)} : (∀ p ∈ ps.map (·.1.cps.toList), TxtOK p) → VRs C g ((ps.map (·.1.cps.toList)).map .str) (strValues ps) := by
  induction ps with
  | nil => exact fun _ => .nil
  | cons p r ih => exact fun h => .cons (VR.txt' (strOf_list p.1) (h _ (.head _))) (ih fun q hq => h q (.tail _ hq))
theorem split_now (r : Rel C F g loc c s.heap) {l : List Nat} {d : Nat} {t u : Tok} (hb : l.length < big) (hv : TxtOK l) (G : Goal C F (EvP C F loc (VR C)) g s (.ok (.lst ((splitC d l []).map .str)) c) Q E) :
    wpAny (model C.prog C.w) A (call (.builtin "str.split") [.str (strOf l) t, .str (strOf [d]) u]) Q E s := by
  have fin : ∀ (ps : List (Str × Tok)) tk, ps.map (·.1) = Txt.split (strOf l) (strOf [d]) → Q (.ref s.heap.objs.size) { s with heap := s.heap.push { cls := .type "list", data := .seq (strValues ps).toArray }, toks := tk } := fun ps tk e => by
    have e2 : ps.map (·.1.cps.toList) = splitC d l [] := by rw [← split_eq, ← e, List.map_map]; rfl
    refine Goal.newList G r (e2 ▸ vrs_strs fun p hp => ?_) (Nat.le_trans (Nat.le_of_eq (List.length_map ..)) (Nat.le_trans (split_len d l []) hb))
    have q := split_sub d hv.cps [] (fun _ h => nomatch h) p (e2 ▸ hp)
    exact ⟨Nat.le_trans q.1 (Nat.le_trans (Nat.le_of_eq (Nat.zero_add _)) hv.len), q.2⟩
  have hy : ((strOf [d]).length == 0) = false := rfl
  cases h1 : (decide ((strOf l).length < (strOf [d]).length) || decide (strKind (strOf l) < strKind (strOf [d])))
  · cases hf : (occurrences (strOf l) (strOf [d]) 0 (strOf l).length ((strOf l).length + 1)).isEmpty
    · have e : Txt.split (strOf l) (strOf [d]) = partsBetween (strOf l) (occurrences (strOf l) (strOf [d]) 0 (strOf l).length ((strOf l).length + 1)) (strOf [d]).length := (if_neg (ne_true_of_eq_false h1)).trans (if_neg (ne_true_of_eq_false hf))
      have hn := congrArg List.length (split_eq l d)
      rw [List.length_map, e] at hn
      refine call_meets PySem.F.slot_str_split (typeIs_str _ _ _) PySem.F.entry_str_split (PySem.F.args_str_split_2 _ _) (meets_str_split_sep (strOf l) (strOf [d]) t u h1 hy hf hv.len (hn ▸ Nat.le_trans (split_len d l []) (Nat.le_trans hb big_le))) ?_
      show wants Q E _ { s with toks := _, heap := s.heap.push { cls := .type "list", data := .seq (strsFrom s.toks (partsBetween (strOf l) (occurrences (strOf l) (strOf [d]) 0 (strOf l).length ((strOf l).length + 1)) (strOf [d]).length)).toArray } }
      rw [strsFrom_eq]
      exact fin (numbered s.toks _) _ ((numbered_texts _ _).trans e.symm)
    · exact call_meets PySem.F.slot_str_split (typeIs_str _ _ _) PySem.F.entry_str_split (PySem.F.args_str_split_2 _ _) (meets_str_split_not_found (strOf l) (strOf [d]) t u h1 hy hf)
        (fin [(strOf l, t)] s.toks ((if_neg (ne_true_of_eq_false h1)).trans (if_pos hf)).symm)
  · exact call_meets PySem.F.slot_str_split (typeIs_str _ _ _) PySem.F.entry_str_split (PySem.F.args_str_split_2 _ _) (meets_str_split_cannot_occur (strOf l) (strOf [d]) t u h1)
      (fin [(strOf l, t)] s.toks (if_pos h1).symm)

theorem join_vals {vs : List V} : ∀ {its : List Value} {x : List Nat}, VRs C g vs its → joinL vs = some x → ∃ ps : List (Str × Tok), its = strValues ps ∧ (ps.map (·.1.cps.toList)).flatten = x ∧ ∀ z ∈ x, z < 1114112 := by
  induction vs with
  | nil => exact fun r h => (show _ = _ from r) ▸ Option.some.inj h ▸ ⟨[], rfl, rfl, fun z hz => nomatch hz⟩
  | cons v vs ih =>
    intro its x r h
    cases v with
    | str l => exact map_is h fun w e q => q ▸ r.elim fun _ r => r.elim fun _ r => r.1 ▸ r.2.1.elim fun t k => k.1 ▸ (ih r.2.2 e).elim fun ps q =>
        ⟨(strOf l, t) :: ps, congrArg _ q.1, congrArg (l ++ ·) q.2.1, fun z hz => (List.mem_append.mp hz).elim (k.2.cps z) (q.2.2 z)⟩
    | _ => cases h
theorem glued_nil (ps : List Str) : (glued (strOf []) ps).cps.toList = (ps.map (·.cps.toList)).flatten := by
  have f : ∀ (r : List Str) (acc : Array Nat), (r.foldl (fun acc p => acc ++ (strOf []).cps ++ p.cps) acc).toList = acc.toList ++ (r.map (·.cps.toList)).flatten := by
    intro r
    induction r with
    | nil => exact fun acc => (List.append_nil _).symm
    | cons p r ih => intro acc; rw [List.foldl_cons, ih, Array.toList_append, Array.toList_append, List.map_cons, List.flatten_cons, List.append_assoc, List.append_assoc]; rfl
  cases ps with
  | nil => rfl
  | cons p r => exact f r p.cps
theorem join_now (r : Rel C F g loc c s.heap) {n : Nat} {a : Addr} {vs : List V} {x : List Nat} {t : Tok} (ha : g.σ[n]? = some a) (hc : c[n]? = some vs) (hj : joinL vs = some x) (hb : x.length ≤ big) (G : Goal C F (EvP C F loc (VR C)) g s (.ok (.str x) c) Q E) :
    wpAny (model C.prog C.w) A (call (.builtin "str.join") [.str (strOf []) t, .ref a]) Q E s :=
  (r.cellAt ha hc).elim fun its w => (join_vals w.vrs hj).elim fun ps q => by
  refine SC.join (q.1 ▸ w.pl.isList) rfl ?_ fun t' k => ?_
  · unfold JoinOk
    rw [joinTotal, show ((ps.map (·.1)).map (·.length)).sum = x.length by rw [← q.2.1, List.length_flatten, List.map_map, List.map_map]; rfl, show (strOf []).length = 0 from rfl, Nat.mul_zero, Nat.add_zero, tl_false (Nat.le_trans hb big_le)]
    rfl
  · rw [show Txt.join (strOf []) (ps.map (·.1)) = strOf x from congrArg Str.mk (Array.toList_inj.mp ((glued_nil _).trans (by rw [List.map_map]; exact q.2.1)))]
    exact G.now r (.txt ⟨Nat.le_trans hb big_le, q.2.2⟩)

theorem cnt_is {W : List Nat → V → Prop} {l p : List Nat} {v : V} (e : cnt1 l p = some v) (f : ∀ z : Nat, W [z] (.int (l.count z))) : W p v := by
  cases p with
  | nil => cases e
  | cons z r => cases r with
    | nil => exact Option.some.inj e ▸ f z
    | cons => cases e
theorem spl_is {W : List Nat → V → Prop} {l p : List Nat} {v : V} (e : spl1 l p = some v) (f : ∀ z : Nat, l.length < big → W [z] (.lst ((splitC z l []).map .str))) : W p v := by
  cases p with
  | nil => cases e
  | cons z r => cases r with
    | nil => exact if_is e fun h e => Option.some.inj e ▸ f z h
    | cons => cases e
theorem max_fin {i j : Int} {t u : Tok} {s : Shared} (f : ∀ k v, (if i < j then j else i) = k → Q (.int k v) s) : Q (if j > i then .int j u else .int i t) s := by
  by_cases q : i < j
  · rw [if_pos (show j > i from q)]; exact f j u (if_pos q)
  · rw [if_neg (show ¬ j > i from q)]; exact f i t (if_neg q)
theorem find3_at (l m : List Nat) {i : Int} (h : 0 ≤ i) : Txt.find3 (strOf l) (strOf m) i = findL l m i.toNat := (congrArg (Txt.find3 (strOf l) (strOf m)) (Int.toNat_of_nonneg h).symm).trans (find3_eq l m i.toNat)
theorem int_to {i j : Int} {t : Tok} {s : Shared} (e : i = j) (q : Q (.int j t) s) : Q (.int i t) s := e ▸ q
theorem prim2 (r : Rel C F g loc c s.heap) (hh : A.handled = none) {p : P2} {f : Value} {x y : V} {a b : Value} (hf : p2Fn p = some f) (hx : VR C g x a) (hy : VR C g y b) (G : Goal C F (EvP C F loc (VR C)) g s (p2V p x y c) Q E) : wpAny (model C.prog C.w) A (call f [a, b]) Q E s := by
  revert G
  cases p with
  | max => exact Option.some.inj hf ▸ fun G => G.ints2 (W2 := fun a b => wpAny _ A (call (.builtin "max") [a, b]) Q E s) hx hy fun i t j u G => max_two_ints hh fun h' tk hk => max_fin fun k v e => G.done g.le_refl ⟨r.keeps hk, e ▸ .int _ _⟩
  | find => exact Option.some.inj hf ▸ fun G => G.strs2 (W2 := fun a b => wpAny _ A (call (.builtin "str.find") [a, b]) Q E s) hx hy fun l t m u _ _ G => SC.find (find0_eq l m ▸ G.now r (.int _ _))
  | count => exact Option.some.inj hf ▸ fun G => G.strs2 (W2 := fun a b => wpAny _ A (call (.builtin "str.count") [a, b]) Q E s) hx hy fun l t m u _ _ G => G.omap fun v e G => cnt_is (W := fun m v => Goal C F (EvP C F loc (VR C)) g s (.ok v c) Q E → wpAny _ A (call (.builtin "str.count") [.str (strOf l) t, .str (strOf m) u]) Q E s) e (fun z G => SC.count (count_eq l z ▸ G.now r (.int _ _))) G
  | split => exact Option.some.inj hf ▸ fun G => G.strs2 (W2 := fun a b => wpAny _ A (call (.builtin "str.split") [a, b]) Q E s) hx hy fun l t m u h _ G => G.omap fun v e G => spl_is (W := fun m v => Goal C F (EvP C F loc (VR C)) g s (.ok v c) Q E → wpAny _ A (call (.builtin "str.split") [.str (strOf l) t, .str (strOf m) u]) Q E s) e (fun z hb G => split_now r hb h G) G
  | lstrip => exact Option.some.inj hf ▸ fun G => G.strs2 (W2 := fun a b => wpAny _ A (call (.builtin "str.lstrip") [a, b]) Q E s) hx hy fun l t m u h _ G =>
      have sub := List.dropWhile_sublist (l := l) (m.contains)
      SC.lstripChars (fun t' k => lstrip_eq l m ▸ G.now r (.txt (h.sub sub.length_le fun _ hz => sub.subset hz))) h.len
  | join => exact Option.some.inj hf ▸ fun G => G.txt (W := fun a => wpAny _ A (call (.builtin "str.join") [a, b]) Q E s) hx fun l t _ G => G.obind fun n e G => hy.isRef (W := fun b => wpAny _ A (call (.builtin "str.join") [.str (strOf l) t, b]) Q E s) e fun p hp =>
      G.obind fun vs hc G => G.obind fun w e G => G.oif fun hs G => hs.1 ▸ join_now r hp hc e hs.2 G
  | append => exact Option.some.inj hf ▸ fun G => G.obind fun n e G => hx.isRef (W := fun a => wpAny _ A (call (.builtin "list.append") [a, b]) Q E s) e fun p hp => G.obind fun vs hc G => G.oif fun hs G => (r.cellAt hp hc).elim fun its w =>
      wpAny_list_append_plain w.pl (fun h' hl' hsb => G.done g.le_refl ⟨r.setCell hp (VRs.append (.cons hy .nil) w.vrs) (Nat.le_trans (Nat.le_of_eq List.length_append) hs) (List.push_toArray its b ▸ hl') hsb, .none⟩) (show its.length ≤ sizeLine from w.vrs.length ▸ Nat.le_trans w.len big_le)

theorem prim3 (r : Rel C F g loc c s.heap) {x y z : V} {a b d : Value} (hx : VR C g x a) (hy : VR C g y b) (hz : VR C g z d) (G : Goal C F (EvP C F loc (VR C)) g s (p3V .find x y z c) Q E) : wpAny (model C.prog C.w) A (call (.builtin "str.find") [a, b, d]) Q E s :=
  G.strs2 (W2 := fun a b => wpAny _ A (call (.builtin "str.find") [a, b, d]) Q E s) hx hy fun l t m u _ _ G => G.int (W := fun d => wpAny _ A (call (.builtin "str.find") [.str (strOf l) t, .str (strOf m) u, d]) Q E s) hz fun i v G => G.oif fun hs G =>
    SC.find3 (int_to (find3_at l m hs.1) (G.now r (.int _ _)))
end
end Mine
end
section
set_option Elab.async false
set_option genInjectivity false
set_option linter.all false
set_option backward.match.sparseCases false
namespace Mine
open PySem
/-! looks at trees, one a constructor, and what each says -/
theorem no_f {P : Prop} (h : false = true) : P := Bool.noConfusion h
theorem and_l {a b : Bool} (h : (a && b) = true) : a = true := (Bool.and_eq_true_iff.mp h).1
theorem and_r {a b : Bool} (h : (a && b) = true) : b = true := (Bool.and_eq_true_iff.mp h).2
theorem or_is {a b : Bool} (h : (a || b) = true) : a = true ∨ b = true := Bool.or_eq_true_iff.mp h
theorem not_is {a : Bool} (h : (!a) = true) : a = false := by cases a <;> first | rfl | cases h
theorem dec_is {p : Prop} [Decidable p] (h : decide p = true) : p := of_decide_eq_true h
theorem beq_is {α : Type} [BEq α] [LawfulBEq α] {a b : α} (h : (a == b) = true) : a = b := eq_of_beq h

noncomputable def xName (e : Expr) (k : PySem.Str → Pos → Bool) : Bool := match e with | .Name n p => k n p | _ => false
noncomputable def xConst (e : Expr) (k : Const → Nat → Pos → Bool) : Bool := match e with | .Constant n i p => k n i p | _ => false
noncomputable def xBin (e : Expr) (k : Expr → Operator → Expr → Pos → Bool) : Bool := match e with | .BinOp a o b p => k a o b p | _ => false
noncomputable def xUn (e : Expr) (k : UnaryOp → Expr → Pos → Bool) : Bool := match e with | .UnaryOp o a p => k o a p | _ => false
noncomputable def xBoolOp (e : Expr) (k : BoolOp → List Expr → Pos → Bool) : Bool := match e with | .BoolOp o a p => k o a p | _ => false
noncomputable def xCmp (e : Expr) (k : Expr → List CmpOp → List Expr → Pos → Bool) : Bool := match e with | .Compare a o b p => k a o b p | _ => false
noncomputable def xIf (e : Expr) (k : Expr → Expr → Expr → Pos → Bool) : Bool := match e with | .IfExp a o b p => k a o b p | _ => false
noncomputable def xSub (e : Expr) (k : Expr → Expr → Pos → Bool) : Bool := match e with | .Subscript a b p => k a b p | _ => false
noncomputable def xSlice (e : Expr) (k : Option Expr → Option Expr → Option Expr → Pos → Bool) : Bool := match e with | .Slice a b c p => k a b c p | _ => false
noncomputable def xAttr (e : Expr) (k : Expr → PySem.Str → Pos → Bool) : Bool := match e with | .Attribute a n p => k a n p | _ => false
noncomputable def xCall (e : Expr) (k : Expr → List Expr → List Keyword → Pos → Bool) : Bool := match e with | .Call a n w p => k a n w p | _ => false
noncomputable def xTup (e : Expr) (k : List Expr → Nat → Pos → Bool) : Bool := match e with | .Tuple a n p => k a n p | _ => false
noncomputable def xList (e : Expr) (k : List Expr → Pos → Bool) : Bool := match e with | .List a p => k a p | _ => false
noncomputable def xComp (e : Expr) (k : Expr → List Comprehension → Scope → Pos → Bool) : Bool := match e with | .ListComp a g sc p => k a g sc p | _ => false
noncomputable def xDict (e : Expr) (k : List (Option Expr) → List Expr → Pos → Bool) : Bool := match e with | .Dict a g p => k a g p | _ => false
section
variable {P : Expr → Prop} {e : Expr}
theorem xName_is {k : PySem.Str → Pos → Bool} (h : xName e k = true) (H : ∀ n p, k n p = true → P (.Name n p)) : P e := by cases e <;> first | exact H _ _ h | exact no_f h
theorem xConst_is {k : Const → Nat → Pos → Bool} (h : xConst e k = true) (H : ∀ n i p, k n i p = true → P (.Constant n i p)) : P e := by cases e <;> first | exact H _ _ _ h | exact no_f h
theorem xBin_is {k : Expr → Operator → Expr → Pos → Bool} (h : xBin e k = true) (H : ∀ a o b p, k a o b p = true → P (.BinOp a o b p)) : P e := by cases e <;> first | exact H _ _ _ _ h | exact no_f h
theorem xUn_is {k : UnaryOp → Expr → Pos → Bool} (h : xUn e k = true) (H : ∀ o a p, k o a p = true → P (.UnaryOp o a p)) : P e := by cases e <;> first | exact H _ _ _ h | exact no_f h
theorem xBoolOp_is {k : BoolOp → List Expr → Pos → Bool} (h : xBoolOp e k = true) (H : ∀ o a p, k o a p = true → P (.BoolOp o a p)) : P e := by cases e <;> first | exact H _ _ _ h | exact no_f h
theorem xCmp_is {k : Expr → List CmpOp → List Expr → Pos → Bool} (h : xCmp e k = true) (H : ∀ a o b p, k a o b p = true → P (.Compare a o b p)) : P e := by cases e <;> first | exact H _ _ _ _ h | exact no_f h
theorem xIf_is {k : Expr → Expr → Expr → Pos → Bool} (h : xIf e k = true) (H : ∀ a o b p, k a o b p = true → P (.IfExp a o b p)) : P e := by cases e <;> first | exact H _ _ _ _ h | exact no_f h
theorem xSub_is {k : Expr → Expr → Pos → Bool} (h : xSub e k = true) (H : ∀ a b p, k a b p = true → P (.Subscript a b p)) : P e := by cases e <;> first | exact H _ _ _ h | exact no_f h
theorem xSlice_is {k : Option Expr → Option Expr → Option Expr → Pos → Bool} (h : xSlice e k = true) (H : ∀ a b c p, k a b c p = true → P (.Slice a b c p)) : P e := by cases e <;> first | exact H _ _ _ _ h | exact no_f h
theorem xAttr_is {k : Expr → PySem.Str → Pos → Bool} (h : xAttr e k = true) (H : ∀ a b p, k a b p = true → P (.Attribute a b p)) : P e := by cases e <;> first | exact H _ _ _ h | exact no_f h
theorem xCall_is {k : Expr → List Expr → List Keyword → Pos → Bool} (h : xCall e k = true) (H : ∀ a b c p, k a b c p = true → P (.Call a b c p)) : P e := by cases e <;> first | exact H _ _ _ _ h | exact no_f h
theorem xTup_is {k : List Expr → Nat → Pos → Bool} (h : xTup e k = true) (H : ∀ a b p, k a b p = true → P (.Tuple a b p)) : P e := by cases e <;> first | exact H _ _ _ h | exact no_f h
theorem xList_is {k : List Expr → Pos → Bool} (h : xList e k = true) (H : ∀ a p, k a p = true → P (.List a p)) : P e := by cases e <;> first | exact H _ _ h | exact no_f h
theorem xComp_is {k : Expr → List Comprehension → Scope → Pos → Bool} (h : xComp e k = true) (H : ∀ a b c p, k a b c p = true → P (.ListComp a b c p)) : P e := by cases e <;> first | exact H _ _ _ _ h | exact no_f h
theorem xDict_is {k : List (Option Expr) → List Expr → Pos → Bool} (h : xDict e k = true) (H : ∀ a b p, k a b p = true → P (.Dict a b p)) : P e := by cases e <;> first | exact H _ _ _ h | exact no_f h
end
noncomputable def cNone (v : Const) : Bool := match v with | .none => true | _ => false
noncomputable def cBool (v : Const) (k : Bool → Bool) : Bool := match v with | .bool b => k b | _ => false
noncomputable def cInt (v : Const) (k : Int → Bool) : Bool := match v with | .int b => k b | _ => false
noncomputable def cStr (v : Const) (k : PySem.Str → Bool) : Bool := match v with | .str b => k b | _ => false
section
variable {P : Const → Prop} {v : Const}
theorem cNone_is (h : cNone v = true) (H : P .none) : P v := by cases v <;> first | exact H | exact no_f h
theorem cBool_is {k : Bool → Bool} (h : cBool v k = true) (H : ∀ b, k b = true → P (.bool b)) : P v := by cases v <;> first | exact H _ h | exact no_f h
theorem cInt_is {k : Int → Bool} (h : cInt v k = true) (H : ∀ b, k b = true → P (.int b)) : P v := by cases v <;> first | exact H _ h | exact no_f h
theorem cStr_is {k : PySem.Str → Bool} (h : cStr v k = true) (H : ∀ b, k b = true → P (.str b)) : P v := by cases v <;> first | exact H _ h | exact no_f h
end
/-! lists and options -/
noncomputable def lNil {α : Type} (l : List α) (b : Bool) : Bool := match l with | [] => b | _ :: _ => false
noncomputable def lCons {α : Type} (l : List α) (k : α → List α → Bool) : Bool := match l with | [] => false | a :: r => k a r
noncomputable def lPick {α : Type} (l : List α) (a b : Bool) : Bool := match l with | [] => a | _ :: _ => b
noncomputable def l1 {α : Type} (l : List α) (k : α → Bool) : Bool := lCons l fun a r => lNil r (k a)
noncomputable def l2 {α : Type} (l : List α) (k : α → α → Bool) : Bool := lCons l fun a r => l1 r (k a)
noncomputable def oSome {α : Type} (o : Option α) (k : α → Bool) : Bool := match o with | some a => k a | none => false
noncomputable def oNone {α : Type} (o : Option α) (b : Bool) : Bool := match o with | some _ => false | none => b
noncomputable def oPick {α : Type} (o : Option α) (k : α → Bool) (b : Bool) : Bool := match o with | some a => k a | none => b
section
variable {α : Type} {P : List α → Prop} {l : List α}
theorem lNil_is {b : Bool} (h : lNil l b = true) (H : b = true → P []) : P l := match l, h with | [], h => H h | _ :: _, h => no_f h
theorem lCons_is {k : α → List α → Bool} (h : lCons l k = true) (H : ∀ a r, k a r = true → P (a :: r)) : P l := match l, h with | [], h => no_f h | _ :: _, h => H _ _ h
theorem lPick_is {a b : Bool} (h : lPick l a b = true) (H : a = true → P []) (K : ∀ x r, b = true → P (x :: r)) : P l := match l, h with | [], h => H h | _ :: _, h => K _ _ h
theorem l1_is {k : α → Bool} (h : l1 l k = true) (H : ∀ a, k a = true → P [a]) : P l := lCons_is h fun a r h => lNil_is (P := fun r => P (a :: r)) h fun h => H a h
theorem l2_is {k : α → α → Bool} (h : l2 l k = true) (H : ∀ a b, k a b = true → P [a, b]) : P l := lCons_is h fun a r h => l1_is (P := fun r => P (a :: r)) h fun b h => H a b h
end
section
variable {α : Type} {P : Option α → Prop} {o : Option α}
theorem oSome_is {k : α → Bool} (h : oSome o k = true) (H : ∀ a, k a = true → P (some a)) : P o := match o, h with | some _, h => H _ h | none, h => no_f h
theorem oNone_is {b : Bool} (h : oNone o b = true) (H : b = true → P none) : P o := match o, h with | some _, h => no_f h | none, h => H h
theorem oPick_is {k : α → Bool} {b : Bool} (h : oPick o k b = true) (H : ∀ a, k a = true → P (some a)) (K : b = true → P none) : P o := match o, h with | some _, h => H _ h | none, h => K h
theorem oSome_eq {k : α → Bool} {G : Prop} (h : oSome o k = true) (H : ∀ a, o = some a → k a = true → G) : G := oSome_is (P := fun x => o = x → G) h (fun a h e => H a e h) rfl
theorem oPick_eq {k : α → Bool} {b : Bool} {G : Prop} (h : oPick o k b = true) (H : ∀ a, o = some a → k a = true → G) (K : o = none → b = true → G) : G := oPick_is (P := fun x => o = x → G) h (fun a h e => H a e h) (fun h e => K e h) rfl
end
noncomputable def xGen (g : Comprehension) (k : PySem.Str → Pos → Expr → List Expr → Bool) : Bool := xName g.target fun t p => decide (g.is_async = 0) && k t p g.iter g.ifs
theorem xGen_is {P : Comprehension → Prop} {g : Comprehension} {k : PySem.Str → Pos → Expr → List Expr → Bool} (h : xGen g k = true) (H : ∀ t p it ifs, k t p it ifs = true → P ⟨.Name t p, it, ifs, 0⟩) : P g := by
  obtain ⟨tg, it, ifs, a⟩ := g
  refine xName_is (P := fun tg => P ⟨tg, it, ifs, a⟩) h fun t p h => ?_
  have h0 : a = 0 := dec_is (and_l h)
  subst h0
  exact H t p it ifs (and_r h)
/-! statements -/
noncomputable def sAssign (s : Stmt) (k : List Expr → Expr → Pos → Bool) : Bool := match s with | .Assign a b p => k a b p | _ => false
noncomputable def sAug (s : Stmt) (k : Expr → Operator → Expr → Pos → Bool) : Bool := match s with | .AugAssign a o b p => k a o b p | _ => false
noncomputable def sIf (s : Stmt) (k : Expr → List Stmt → List Stmt → Pos → Bool) : Bool := match s with | .If a b c p => k a b c p | _ => false
noncomputable def sWhile (s : Stmt) (k : Expr → List Stmt → List Stmt → Pos → Bool) : Bool := match s with | .While a b c p => k a b c p | _ => false
noncomputable def sFor (s : Stmt) (k : Expr → Expr → List Stmt → List Stmt → Pos → Bool) : Bool := match s with | .For t a b c p => k t a b c p | _ => false
noncomputable def sRet (s : Stmt) (k : Option Expr → Pos → Bool) : Bool := match s with | .Return a p => k a p | _ => false
noncomputable def sRaise (s : Stmt) (k : Option Expr → Option Expr → Pos → Bool) : Bool := match s with | .Raise a b p => k a b p | _ => false
noncomputable def sExpr (s : Stmt) (k : Expr → Pos → Bool) : Bool := match s with | .Expr a p => k a p | _ => false
noncomputable def sTry (s : Stmt) (k : List Stmt → List ExceptHandler → List Stmt → List Stmt → Pos → Bool) : Bool := match s with | .Try a b c d p => k a b c d p | _ => false
section
variable {P : Stmt → Prop} {s : Stmt}
theorem sAssign_is {k : List Expr → Expr → Pos → Bool} (h : sAssign s k = true) (H : ∀ a b p, k a b p = true → P (.Assign a b p)) : P s := by cases s <;> first | exact H _ _ _ h | exact no_f h
theorem sAug_is {k : Expr → Operator → Expr → Pos → Bool} (h : sAug s k = true) (H : ∀ a o b p, k a o b p = true → P (.AugAssign a o b p)) : P s := by cases s <;> first | exact H _ _ _ _ h | exact no_f h
theorem sIf_is {k : Expr → List Stmt → List Stmt → Pos → Bool} (h : sIf s k = true) (H : ∀ a b c p, k a b c p = true → P (.If a b c p)) : P s := by cases s <;> first | exact H _ _ _ _ h | exact no_f h
theorem sWhile_is {k : Expr → List Stmt → List Stmt → Pos → Bool} (h : sWhile s k = true) (H : ∀ a b c p, k a b c p = true → P (.While a b c p)) : P s := by cases s <;> first | exact H _ _ _ _ h | exact no_f h
theorem sFor_is {k : Expr → Expr → List Stmt → List Stmt → Pos → Bool} (h : sFor s k = true) (H : ∀ t a b c p, k t a b c p = true → P (.For t a b c p)) : P s := by cases s <;> first | exact H _ _ _ _ _ h | exact no_f h
theorem sRet_is {k : Option Expr → Pos → Bool} (h : sRet s k = true) (H : ∀ a p, k a p = true → P (.Return a p)) : P s := by cases s <;> first | exact H _ _ h | exact no_f h
theorem sRaise_is {k : Option Expr → Option Expr → Pos → Bool} (h : sRaise s k = true) (H : ∀ a b p, k a b p = true → P (.Raise a b p)) : P s := by cases s <;> first | exact H _ _ _ h | exact no_f h
theorem sExpr_is {k : Expr → Pos → Bool} (h : sExpr s k = true) (H : ∀ a p, k a p = true → P (.Expr a p)) : P s := by cases s <;> first | exact H _ _ h | exact no_f h
theorem sTry_is {k : List Stmt → List ExceptHandler → List Stmt → List Stmt → Pos → Bool} (h : sTry s k = true) (H : ∀ a b c d p, k a b c d p = true → P (.Try a b c d p)) : P s := by cases s <;> first | exact H _ _ _ _ _ h | exact no_f h
end
noncomputable def xHandler (e : ExceptHandler) (k : Option Expr → Option PySem.Str → List Stmt → Pos → Bool) : Bool := match e with | .ExceptHandler a b c p => k a b c p
theorem xHandler_is {P : ExceptHandler → Prop} {e : ExceptHandler} {k : Option Expr → Option PySem.Str → List Stmt → Pos → Bool} (h : xHandler e k = true) (H : ∀ a b c p, k a b c p = true → P (.ExceptHandler a b c p)) : P e := match e, h with | .ExceptHandler .., h => H _ _ _ _ h
end Mine
end
section
set_option Elab.async false
set_option linter.all false
set_option genInjectivity false
set_option genSizeOf false
namespace Mine
open PySem PySem.Spec PySem.Calls PyProof.Rows

structure Cx where
  scope : Scope
  vars : List PySem.Str
  fns : List (PySem.Str × Nat)
  noEnd : Bool := true

structure CxOK (C : Cfg) (F : Fm) (x : Cx) : Prop where
  scope : F.env.scope = x.scope
  vars : F.vars = x.vars
  fns : ∀ p ∈ x.fns, ∃ a, C.mg p.1 = some (.ref a) ∧ C.fnA p.2 = some a

noncomputable def isLocal (x : Cx) (n : PySem.Str) : Bool := x.scope.names.lookup n == some .local && !(n == ("__debug__" : PySem.Str))
noncomputable def isGlob (x : Cx) (n : PySem.Str) : Bool := x.scope.names.lookup n == some .globalImplicit && !(n == ("__debug__" : PySem.Str))
noncomputable def isSlot (x : Cx) (n : PySem.Str) (i : Nat) : Bool := x.vars[i]? == some n && (!(n == ("__debug__" : PySem.Str)) && !(n == ("__classdict__" : PySem.Str)))

/-- the left one is stuck, or they are the same -/
noncomputable def leR {α : Type} (a b : R α) : Prop := a = .stuck ∨ a = b
section
variable {α β γ : Type}
theorem leR.bind {k₁ k₂ : α → H → R β} (r : R α) (h : ∀ x c, leR (k₁ x c) (k₂ x c)) : leR (r.bind k₁) (r.bind k₂) := by
  cases r with
  | ok x c => exact h x c
  | stuck => exact .inl rfl
  | pf w l c => exact .inr rfl
theorem leR.trans {a b c : R α} (h : leR a b) (h' : leR b c) : leR a c := h.elim .inl fun e => e ▸ h'
theorem bind_assoc (r : R α) (f : α → H → R β) (k : β → H → R γ) : (r.bind f).bind k = r.bind fun x h => (f x h).bind k := by cases r <;> rfl
theorem ofK_bind (o : Option α) (f : α → R β) (k : β → H → R γ) : (ofK o f).bind k = ofK o fun v => (f v).bind k := by cases o <;> rfl
theorem test_eq (r : R V) (k : Bool → H → R β) : (r.bind fun x h => ofK (truth h x) fun t => k t h) = (r.bind fun x h => ofO (truth h x) h).bind k := by
  cases r with
  | ok x c => exact (ofK_bind (truth c x) (fun v => .ok v c) k).symm
  | _ => rfl
theorem boolR_le {y : V} {c : H} {k : V → H → R β} : leR ((boolR y c).bind k) (k y c) := by
  cases y with
  | bool b => exact .inr rfl
  | _ => exact .inl rfl
theorem truth_of {x : V} {b : Bool} {c : H} (e : boolOf x = some b) : truth c x = some b := by
  unfold truth; rw [e]; rfl
end

section
variable {C : Cfg} {A : Around} {F : Fm} {CS : Calls} {x : Cx}
section
variable {α β γ δ : Type} {g : Gh} {s : Shared} {P : Gh → H → Heap → β → α → Prop} {Q : α → Shared → Prop} {E : Value → Shared → Prop}
theorem Goal.le {a b : R β} (G : Goal C F P g s a Q E) (h : leR a b) : Goal C F P g s b Q E := h.elim (fun e => absurd e G.ns) fun e => e ▸ G
theorem Goal.assoc {r : R γ} {f : γ → H → R δ} {k : δ → H → R β} (G : Goal C F P g s ((r.bind f).bind k) Q E) : Goal C F P g s (r.bind fun x h => (f x h).bind k) Q E := bind_assoc r f k ▸ G
theorem Goal.o_in {o : Option γ} {f : γ → R δ} {k : δ → H → R β} (G : Goal C F P g s ((ofK o f).bind k) Q E) : Goal C F P g s (ofK o fun v => (f v).bind k) Q E := ofK_bind o f k ▸ G
end

noncomputable def EvSim (C : Cfg) (A : Around) (F : Fm) (CS : Calls) (e : Expr) (m : ME) : Prop := ∀ {g : Gh} {loc : L} {c : H} {s : Shared}, Rel C F g loc c s.heap → Sim C A F g loc s (VR C) (eval e F.env) (mev CS m loc c)
/-- a test: what is wanted behind it -/
noncomputable def TsG (C : Cfg) (A : Around) (F : Fm) (CS : Calls) (t : Sem Bool) (m : ME) : Prop := ∀ {g : Gh} {loc : L} {c : H} {s : Shared} {α β : Type} {P : Gh → H → Heap → β → α → Prop} {k : Bool → H → R β} {Q : α → Shared → Prop} {E : Value → Shared → Prop} {Q' : Bool → Shared → Prop}, Rel C F g loc c s.heap →
  Goal C F P g s ((mev CS m loc c).bind fun x h => ofK (truth h x) fun t => k t h) Q E → (∀ g₁ c₁ h₁ tk b, g.le g₁ → Rel C F g₁ loc c₁ h₁ → Goal C F P g₁ { s with heap := h₁, toks := tk } (k b c₁) Q E → Q' b { s with heap := h₁, toks := tk }) → wpAny (model C.prog C.w) A t Q' E s
abbrev TsSim (C : Cfg) (A : Around) (F : Fm) (CS : Calls) (e : Expr) (m : ME) : Prop := TsG C A F CS (isTrue e F.env (eval e F.env)) m
theorem TsG.stepE {g : Gh} {loc : L} {c : H} {s : Shared} {t : Sem Bool} {m : ME} {α β : Type} {P : Gh → H → Heap → β → α → Prop} {k : Bool → H → R β} {Q : α → Shared → Prop} {E E' : Value → Shared → Prop} {Q' : Bool → Shared → Prop} (h : TsG C A F CS t m) (r : Rel C F g loc c s.heap)
    (G : Goal C F P g s ((mev CS m loc c).bind fun x h => ofK (truth h x) fun t => k t h) Q E)
    (hE : ∀ g' h' tk w l c' e, Rel C F g' [] c' h' → ExcAt C F g' w l e h' → (∀ h₂, Rel C F g' [] c' h₂ → ExcAt C F g' w l e h₂ → E (.ref e) { s with heap := h₂, toks := tk }) → E' (.ref e) { s with heap := h', toks := tk })
    (f : ∀ g₁ c₁ h₁ tk b, g.le g₁ → Rel C F g₁ loc c₁ h₁ → Goal C F P g₁ { s with heap := h₁, toks := tk } (k b c₁) Q E → Q' b { s with heap := h₁, toks := tk }) : wpAny (model C.prog C.w) A t Q' E' s :=
  have G : Goal C F P g s (((mev CS m loc c).bind fun x h => ofO (truth h x) h).bind k) Q E := test_eq (mev CS m loc c) k ▸ G
  h (P := fun _ c' _ b (a : Bool × H) => a = (b, c')) (k := fun t h => .ok t h) (Q := fun a _ => ((mev CS m loc c).bind fun x h => ofO (truth h x) h) = .ok a.1 a.2) r
    ⟨fun q => G.ns (congrArg (R.bind · k) q), fun _ _ _ _ _ _ q _ p => p ▸ q, fun g' h' tk w l c' e q l' r x => hE g' h' tk w l c' e r x fun h₂ => G.pf g' h₂ tk w l c' e (congrArg (R.bind · k) q) l'⟩
    fun g₁ c₁ h₁ tk b l r' G' => f g₁ c₁ h₁ tk b l r' (((congrArg (R.bind · k) (G'.ok g₁ h₁ tk b c₁ (b, c₁) rfl g₁.le_refl rfl)) ▸ G).move l)
noncomputable def MEs.len : MEs → Nat | .nil => 0 | .cons _ r => r.len + 1
noncomputable def VRsN (C : Cfg) (n : Nat) (g : Gh) (vs : List V) (xs : List Value) : Prop := VRs C g vs xs ∧ vs.length = n
noncomputable def EsSim (C : Cfg) (A : Around) (F : Fm) (CS : Calls) (es : List Expr) (ms : MEs) : Prop := ∀ (pos : Pos) {g : Gh} {loc : L} {c : H} {s : Shared}, Rel C F g loc c s.heap → Sim C A F g loc s (VRsN C ms.len) (spliced (backTo pos (starEach es F.env))) (mevs CS ms loc c)

/-- a test of no special shape -/
theorem TsSim.plain {e : Expr} {m : ME} (h : EvSim C A F CS e m) (he : ∀ whole, isTrue e F.env whole = (do let v ← whole; standAt e.pos; holding [v] (truthy v)) := by intro _; rfl) : TsSim C A F CS e m :=
  fun r G f => wpAny_isTrue_value ((h r).step G fun g₁ c₁ h₁ tk v a l r₁ p₁ G => sim_truth r₁ p₁ G fun b tk G => f g₁ c₁ h₁ tk b l r₁ G) (he _)

/-! leaves -/
theorem ev_none {k : Nat} {pos : Pos} : EvSim C A F CS (.Constant .none k pos) .none := fun r Q E G => wpAny_Constant_none (G.now r .none)
theorem ev_bool {b : Bool} {k : Nat} {pos : Pos} : EvSim C A F CS (.Constant (.bool b) k pos) (.bool b) := fun r Q E G => wpAny_Constant_bool (G.now r (.bool b))
theorem ev_int {i : Int} {k : Nat} {pos : Pos} : EvSim C A F CS (.Constant (.int i) k pos) (.int i) := fun r Q E G => wpAny_Constant_int (G.now r (.int i _))
theorem ev_str {t : PySem.Str} {l : List Nat} {k : Nat} {pos : Pos} (e : t = strOf l) (h : l.length ≤ big) (hv : ∀ z ∈ l, z < 1114112) : EvSim C A F CS (.Constant (.str t) k pos) (.str l) := fun r Q E G => wpAny_Constant_str (G.now r (e ▸ .txt ⟨Nat.le_trans h big_le, hv⟩))

theorem Rd.load {g : Gh} {c : H} {s : Shared} {m : PySem.Str → Option Value} {n : PySem.Str} {v : Value} (ok : FmOK C F A) {loc : L} (r : Rel C F g loc c s.heap) (hm : s.heap.Ns F.env.locals m) (h : Rd F.env g m n v) (hn : (n == ("__classdict__" : PySem.Str)) = false)
    {M : Model} {Q : Value → Shared → Prop} {E : Value → Shared → Prop} (hq : Q v s) : wpAny M A (loadName F.env n) Q E s :=
  h.elim (fun h => wpAny_loadName_local ok.kind h.1 hm h.2 hq) fun h => h.elim fun cl h => h.elim fun d h => h.2.2.elim fun ck hi => (r.im _ _ hi).elim fun o w =>
    h.1.elim (fun hk => wpAny_loadName_cell ok.kind hk h.2.1 ⟨o, w.1, w.2.2.2⟩ hq) fun hk => wpAny_loadName_free ok.kind hk h.2.1 ⟨o, w.1, w.2.2.2⟩ hq (hn := hn)
theorem get_getV {loc : L} {i : Nat} {v : V} (h : getV loc i = some v) : loc[i]? = some (some v) := bind_is h fun o e q => e.trans (congrArg some q)
theorem load_var {M : Model} {g : Gh} {loc : L} {c : H} {s : Shared} (ok : FmOK C F A) (ox : CxOK C F x) {n : PySem.Str} {i : Nat} (h : isSlot x n i = true) (r : Rel C F g loc c s.heap) {v : V} (hl : getV loc i = some v) {Q : Value → Shared → Prop} {E : Value → Shared → Prop}
    (hq : ∀ a, VR C g v a → Q a s) : wpAny M A (loadName F.env n) Q E s :=
  r.ns.elim fun m hm => (hm.2 i v (get_getV hl)).elim fun n' q => q.elim fun val w =>
    (show Rd F.env g m n val from (show n' = n from Option.some.inj (w.var.symm.trans (ox.vars ▸ beq_is (and_l h)))) ▸ w.rd).load ok r hm.1 (not_is (and_r (and_r h))) (hq val w.vr)
theorem eval_var {M : Model} {g : Gh} {loc : L} {c : H} {s : Shared} (ok : FmOK C F A) (ox : CxOK C F x) {n : PySem.Str} {i : Nat} {pos : Pos} (h : isSlot x n i = true) (r : Rel C F g loc c s.heap) {v : V} (hl : getV loc i = some v) {Q : Value → Shared → Prop} {E : Value → Shared → Prop}
    (hq : ∀ a, VR C g v a → Q a s) : wpAny M A (eval (.Name n pos) F.env) Q E s := wpAny_Name (load_var ok ox h r hl hq) (not_is (and_l (and_r h)))
theorem ev_var (ok : FmOK C F A) (ox : CxOK C F x) {n : PySem.Str} {i : Nat} {pos : Pos} (h : isSlot x n i = true) : EvSim C A F CS (.Name n pos) (.var i) := fun r Q E G => G.opt fun v e G => eval_var ok ox h r e fun a p => G.now r p

theorem kind_glob (ox : CxOK C F x) {n : PySem.Str} (h : isGlob x n = true) : F.env.kindOf n = some .globalImplicit := (congrArg (fun sc : Scope => sc.names.lookup n) ox.scope).trans (beq_is (and_l h))
theorem name_glob (ok : FmOK C F A) (oc : CfgOK C) (ox : CxOK C F x) {n : PySem.Str} {pos : Pos} (h : isGlob x n = true) {v : Value} (hv : C.mg n = some v) {g : Gh} {loc : L} {c : H} {s : Shared} (r : Rel C F g loc c s.heap)
    {M : Model} {Q : Value → Shared → Prop} {E : Value → Shared → Prop} (hq : Q v s) : wpAny M A (eval (.Name n pos) F.env) Q E s :=
  Name_function_global ok.kind (kind_glob ox h) (loadGlobal_global (ok.glob ▸ r.ns0 oc.mgN) hv hq) (not_is (and_r h))
theorem name_blt (ok : FmOK C F A) (oc : CfgOK C) (ox : CxOK C F x) {n : PySem.Str} {pos : Pos} (h : isGlob x n = true) {v : Value} (hg : C.mg n = none) (hn : n ≠ "__name__") (hv : bootBuiltins n = some v) {g : Gh} {loc : L} {c : H} {s : Shared} (r : Rel C F g loc c s.heap)
    {M : Model} {Q : Value → Shared → Prop} {E : Value → Shared → Prop} (hq : Q v s) : wpAny M A (eval (.Name n pos) F.env) Q E s :=
  Name_function_global ok.kind (kind_glob ox h) (loadGlobal_builtin (ok.glob ▸ r.ns0 oc.mgN) hg (ok.blt ▸ r.ns0 oc.mbN) ((oc.blt n hn).trans hv) hq) (not_is (and_r h))
theorem ev_glob (ok : FmOK C F A) (oc : CfgOK C) (ox : CxOK C F x) {n : PySem.Str} {f : Nat} {pos : Pos} (h : isGlob x n = true) (hf : (n, f) ∈ x.fns) : EvSim C A F CS (.Name n pos) (.glob f) := fun r Q E G =>
  (ox.fns _ hf).elim fun a q => name_glob ok oc ox h q.1 r (G.now r (.fn f a q.2))

/-! operators -/
theorem ev_bin {o : BO} {e1 e2 : Expr} {m1 m2 : ME} {pos : Pos} (h1 : EvSim C A F CS e1 m1) (h2 : EvSim C A F CS e2 m2) : EvSim C A F CS (.BinOp e1 (opB o) e2 pos) (.bin o m1 m2) := fun r Q E G =>
  wpAny_BinOp ((h1 r).step G fun _ _ _ _ _ _ _ r1 p1 G => (h2 r1).step G fun _ _ _ _ _ _ l2 r2 p2 G => sim_bin r2 (p1.mono l2) p2 _ _ G)

theorem ev_cmp (hu : A.units + 64 < cLine) {o : CO} {e1 e2 : Expr} {m1 m2 : ME} {pos : Pos} (hb : behindInMarks (opC o) e2 = false) (h1 : EvSim C A F CS e1 m1) (h2 : EvSim C A F CS e2 m2) : EvSim C A F CS (.Compare e1 [opC o] [e2] pos) (.cmp o m1 m2) := fun r Q E G =>
  wpAny_Compare1 ((h1 r).step G fun _ _ _ _ _ _ _ r1 p1 G => (h2 r1).step G fun _ _ _ _ _ _ l2 r2 p2 G => cmp_now r2 hu (p1.mono l2) p2 G.map_in fun t G => G.now r2 (.bool t)) hb
theorem ts_cmp (hu : A.units + 64 < cLine) {o : CO} {e1 e2 : Expr} {m1 m2 : ME} {pos : Pos} (hb : behindInMarks (opC o) e2 = false) (h1 : EvSim C A F CS e1 m1) (h2 : EvSim C A F CS e2 m2) : TsSim C A F CS (.Compare e1 [opC o] [e2] pos) (.cmp o m1 m2) := fun r G f =>
  wpAny_isTrue_Compare1 ((h1 r).step G.assoc fun _ _ _ _ _ _ l1 r1 p1 G => (h2 r1).step G.assoc fun _ _ _ _ _ _ l2 r2 p2 G => cmp_now r2 hu (p1.mono l2) p2 G.o_in.map_in fun t G => wpAny_truthy_bool (f _ _ _ _ t (l1.trans l2) r2 G)) hb

theorem ev_cmp2 (hu : A.units + 64 < cLine) {o p : CO} {e1 e2 e3 : Expr} {m1 m2 m3 : ME} {pos : Pos} (hb : lastMarks [opC o, opC p] [e2, e3] = false) (h1 : EvSim C A F CS e1 m1) (h2 : EvSim C A F CS e2 m2) (h3 : EvSim C A F CS e3 m3) :
    EvSim C A F CS (.Compare e1 [opC o, opC p] [e2, e3] pos) (.cmp2 o p m1 m2 m3) := fun r Q E G =>
  Compare_chain ((h1 r).step G fun _ _ _ _ _ _ _ r1 p1 G => chain_link ((h2 r1).step G fun _ _ _ _ _ _ l2 r2 p2 G => cmp_now r2 hu (p1.mono l2) p2 G fun t G => wpAny_truthy_bool (by
    cases t with
    | false => exact G.now r2 (.bool false)
    | true => exact chain_last ((h3 r2).step G fun _ _ _ _ _ _ l3 r3 p3 G => cmp_now r3 hu (p2.mono l3) p3 G.map_in fun t G => G.now r3 (.bool t))))) hb
theorem ts_cmp2 (hu : A.units + 64 < cLine) {o p : CO} {e1 e2 e3 : Expr} {m1 m2 m3 : ME} {pos : Pos} (hb : lastMarks [opC o, opC p] [e2, e3] = false) (h1 : EvSim C A F CS e1 m1) (h2 : EvSim C A F CS e2 m2) (h3 : EvSim C A F CS e3 m3) :
    TsSim C A F CS (.Compare e1 [opC o, opC p] [e2, e3] pos) (.cmp2 o p m1 m2 m3) := fun r G f =>
  isTrue_chain ((h1 r).step G.assoc fun _ _ _ _ _ _ l1 r1 p1 G => test_link ((h2 r1).step G.assoc fun _ _ _ _ _ _ l2 r2 p2 G => cmp_now r2 hu (p1.mono l2) p2 G.o_in fun t G => wpAny_truthy_bool (by
    cases t with
    | false => exact f _ _ _ _ false (l1.trans l2) r2 G
    | true => exact test_last ((h3 r2).step (Goal.assoc G) fun _ _ _ _ _ _ l3 r3 p3 G => cmp_now r3 hu (p2.mono l3) p3 G.o_in.map_in fun t G => wpAny_truthy_bool (f _ _ _ _ t ((l1.trans l2).trans l3) r3 G))))) hb

theorem VR.weak {g : Gh} {v : V} {a : Value} {P : V → Value → Prop} (h : VR C g v a) (h0 : P .none .none) (h1 : ∀ b, P (.bool b) (.bool b)) (h2 : ∀ i t, P (.int i) (.int i t)) (h3 : ∀ l t, P (.str l) (.str (strOf l) t)) (h4 : ∀ v a, isN v = false → P v (.ref a)) : P v a := by
  cases v with
  | none => exact (show a = _ from h) ▸ h0
  | bool b => exact (show a = _ from h) ▸ h1 b
  | int i => exact h.elim fun t q => q ▸ h2 i t
  | str l => exact h.elim fun t q => q.1 ▸ h3 l t
  | tup vs => exact h.elim fun p q => q.elim fun _ q => q.1 ▸ h4 _ p rfl
  | lst vs => exact h.elim fun p q => q.elim fun _ q => q.1 ▸ h4 _ p rfl
  | ref n => exact h.elim fun p q => q.1 ▸ h4 _ p rfl
  | tok _ _ _ => exact h.elim fun p q => q.elim fun _ q => q.elim fun _ q => q.elim fun _ q => q.1 ▸ h4 _ p rfl
  | fn n => exact h.elim fun p q => q.1 ▸ h4 _ p rfl
theorem VR.isNone {g : Gh} {v : V} {a : Value} (h : VR C g v a) : isN v = (a == .none) :=
  h.weak (P := fun v a => isN v = (a == .none)) rfl (fun _ => rfl) (fun _ _ => rfl) (fun _ _ => rfl) fun v a e => e
theorem isS_eq {v : V} : isS v = !isN v := by cases v <;> rfl
theorem ev_isnone {e1 : Expr} {m1 : ME} {k : Nat} {p1 pos : Pos} (h1 : EvSim C A F CS e1 m1) : EvSim C A F CS (.Compare e1 [.Is] [.Constant .none k p1] pos) (.isnone m1) := fun r Q E G =>
  wpAny_Compare1 ((h1 r).step G fun _ _ _ _ _ _ _ r1 p1 G => wpAny_Constant_none (is_none (p1.isNone ▸ G.now r1 (.bool _)))) rfl
theorem ts_isnone {e1 : Expr} {m1 : ME} {k : Nat} {p1 pos : Pos} (h1 : EvSim C A F CS e1 m1) : TsSim C A F CS (.Compare e1 [.Is] [.Constant .none k p1] pos) (.isnone m1) := fun r G f =>
  wpAny_isTrue_Compare1 ((h1 r).step G.assoc fun _ _ _ _ _ _ l1 r1 p1 G => wpAny_Constant_none (is_none (wpAny_truthy_bool (p1.isNone ▸ f _ _ _ _ _ l1 r1 G)))) rfl
theorem ev_notnone {e1 : Expr} {m1 : ME} {k : Nat} {p1 pos : Pos} (h1 : EvSim C A F CS e1 m1) : EvSim C A F CS (.Compare e1 [.IsNot] [.Constant .none k p1] pos) (.notnone m1) := fun r Q E G =>
  wpAny_Compare1 ((h1 r).step G fun _ _ _ _ _ _ _ r1 p1 G => wpAny_Constant_none (isNot_none (p1.isNone ▸ isS_eq ▸ G.now r1 (.bool _)))) rfl
theorem ts_notnone {e1 : Expr} {m1 : ME} {k : Nat} {p1 pos : Pos} (h1 : EvSim C A F CS e1 m1) : TsSim C A F CS (.Compare e1 [.IsNot] [.Constant .none k p1] pos) (.notnone m1) := fun r G f =>
  wpAny_isTrue_Compare1 ((h1 r).step G.assoc fun _ _ _ _ _ _ l1 r1 p1 G => wpAny_Constant_none (isNot_none (wpAny_truthy_bool (p1.isNone ▸ isS_eq ▸ f _ _ _ _ _ l1 r1 G)))) rfl

theorem ev_not {e1 : Expr} {m1 : ME} {pos : Pos} (h1 : EvSim C A F CS e1 m1) : EvSim C A F CS (.UnaryOp .Not e1 pos) (.not m1) := fun r Q E G =>
  wpAny_UnaryOp ((h1 r).step G fun _ _ _ _ _ a _ r1 p1 G => G.opt fun b e G => p1.isBool (W := fun a => wpAny _ A _ Q E _) e (not_value (wpAny_truthy_bool (G.now r1 (.bool _)))))
theorem ts_not {e1 : Expr} {m1 : ME} {pos : Pos} (h1 : TsSim C A F CS e1 m1) : TsSim C A F CS (.UnaryOp .Not e1 pos) (.not m1) := fun {_ _ _ _ _ _ _ k _ _ _} r G f =>
  wpAny_isTrue_Not (h1 (k := fun b h => k (!b) h) r (G.assoc.le (.bind _ fun y c => by
    cases y with
    | bool b => exact .inr rfl
    | _ => exact .inl rfl)) fun _ _ _ _ b l r G => f _ _ _ _ (!b) l r G)
theorem ev_neg {e1 : Expr} {m1 : ME} {pos : Pos} (h1 : EvSim C A F CS e1 m1) : EvSim C A F CS (.UnaryOp .USub e1 pos) (.neg m1) := fun r Q E G =>
  wpAny_UnaryOp ((h1 r).step G fun _ _ _ _ _ a _ r1 p1 G => G.opt fun i e G => p1.isInt (W := fun a => wpAny _ A _ Q E _) e fun t => neg_int (G.now r1 (.int _ _)))

theorem ev_ite {e0 e1 e2 : Expr} {m0 m1 m2 : ME} {pos : Pos} (h0 : TsSim C A F CS e0 m0) (h1 : EvSim C A F CS e1 m1) (h2 : EvSim C A F CS e2 m2) : EvSim C A F CS (.IfExp e0 e1 e2 pos) (.ite m0 m1 m2) := fun {_ loc _ _} r Q E G =>
  wpAny_IfExp (h0 (k := fun t h => if t = true then mev CS m1 loc h else mev CS m2 loc h) r G fun _ _ _ _ b l r G => by
    cases b with
    | true => exact h1 r _ _ G
    | false => exact h2 r _ _ G)
theorem ts_ite {e0 e1 e2 : Expr} {m0 m1 m2 : ME} {pos : Pos} (h0 : TsSim C A F CS e0 m0) (h1 : TsSim C A F CS e1 m1) (h2 : TsSim C A F CS e2 m2) : TsSim C A F CS (.IfExp e0 e1 e2 pos) (.ite m0 m1 m2) := fun {_ loc _ _ _ _ _ k _ _ _} r G f =>
  isTrue_IfExp (h0 (k := fun t h => (if t = true then mev CS m1 loc h else mev CS m2 loc h).bind fun x h => ofK (truth h x) fun t => k t h) r (G.assoc.le (.bind _ fun y c => .inr (ofK_bind (truth c y) _ _))) fun _ _ _ _ b l r G => by
    cases b with
    | true => exact h1 r G fun _ _ _ _ b l' => f _ _ _ _ b (l.trans l')
    | false => exact h2 r G fun _ _ _ _ b l' => f _ _ _ _ b (l.trans l'))
end
end Mine
end
section
set_option Elab.async false
set_option linter.all false
namespace Mine
open PySem PySem.Spec PySem.Calls PyProof.Rows

section
variable {C : Cfg} {A : Around} {F : Fm} {CS : Calls} {x : Cx}

/-! and, or -/
theorem boolOp_cons2 {M : Model} {A : Around} {E : Value → Shared → Prop} {s : Shared} {pos : Pos} {o : BoolOp} {t t' : Sem Value} {ts : List (Sem Value)} {Q : Value → Shared → Prop}
    (h : wpAny M A t (fun v s₁ => wpAny M A (truthy v) (fun b s₂ => if (o == .And) == b then wpAny M A (boolOp pos o (t' :: ts)) Q E s₂ else Q v s₂) E s₁) E s) :
    wpAny M A (boolOp pos o (t :: t' :: ts)) Q E s :=
  wpAny_bind (wpAny_mono h (fun v s₁ h₁ => wpAny_bind (wpAny_standAt (wpAny_bind (wpAny_holding (wpAny_mono h₁ (fun b s₂ h₂ => by
    cases o <;> cases b <;> first | exact wpAny_pure h₂ | exact h₂) fun _ _ x => x))))) fun _ _ x => x)

noncomputable def BsSim (C : Cfg) (A : Around) (F : Fm) (CS : Calls) (o : BoolOp) (es : List Expr) (m : ME) : Prop := ∀ (pos : Pos) {g : Gh} {loc : L} {c : H} {s : Shared}, Rel C F g loc c s.heap → Sim C A F g loc s (VR C) (boolOp pos o (evalEach es F.env)) (mev CS m loc c)
abbrev AsSim (C : Cfg) (A : Around) (F : Fm) (CS : Calls) (o : BoolOp) (es : List Expr) (m : ME) : Prop := TsG C A F CS (allTrue o es F.env) m

theorem bs_one {o : BoolOp} {e : Expr} {m : ME} (h : EvSim C A F CS e m) : BsSim C A F CS o [e] m := fun pos {g loc c s} r => h r
theorem bool_end {g : Gh} {loc : L} {c : H} {s : Shared} {v : V} {a : Value} {Q : Value → Shared → Prop} {E : Value → Shared → Prop} (r : Rel C F g loc c s.heap) (p : VR C g v a) (G : Goal C F (EvP C F loc (VR C)) g s (boolR v c) Q E) : Q a s :=
  G.opt fun b e G => p.isBool (W := fun a => Q a s) e (G.now r (.bool b))
theorem bs_and {e e' : Expr} {es : List Expr} {m m' : ME} (h : EvSim C A F CS e m) (h' : BsSim C A F CS .And (e' :: es) m') : BsSim C A F CS .And (e :: e' :: es) (.and m m') := fun pos {g loc c s} r Q E G =>
  boolOp_cons2 ((h r).step G fun _ _ _ _ _ a _ r1 p1 G => G.opt fun b e G => p1.isBool (W := fun a => wpAny _ A (truthy a) (fun b s₂ => if (BoolOp.And == .And) == b then wpAny _ A (boolOp pos .And _) Q E s₂ else Q a s₂) E _) e (wpAny_truthy_bool (by
    cases b with
    | false => exact G.now r1 (.bool _)
    | true => exact (h' pos r1).step G fun _ _ _ _ _ _ _ r2 p2 G => bool_end r2 p2 G)))
theorem bs_or {e e' : Expr} {es : List Expr} {m m' : ME} (h : EvSim C A F CS e m) (h' : BsSim C A F CS .Or (e' :: es) m') : BsSim C A F CS .Or (e :: e' :: es) (.or m m') := fun pos {g loc c s} r Q E G =>
  boolOp_cons2 ((h r).step G fun _ _ _ _ _ a _ r1 p1 G => G.opt fun b e G => p1.isBool (W := fun a => wpAny _ A (truthy a) (fun b s₂ => if (BoolOp.Or == .And) == b then wpAny _ A (boolOp pos .Or _) Q E s₂ else Q a s₂) E _) e (wpAny_truthy_bool (by
    cases b with
    | true => exact G.now r1 (.bool _)
    | false => exact (h' pos r1).step G fun _ _ _ _ _ _ _ r2 p2 G => bool_end r2 p2 G)))

theorem allTrue_cons {M : Model} {A : Around} {E : Value → Shared → Prop} {s : Shared} {env : Env} {o : BoolOp} {e : Expr} {rest : List Expr} {Q : Bool → Shared → Prop}
    (h : wpAny M A (isTrue e env (eval e env)) (fun b s₁ => if (o == .And) == b then wpAny M A (allTrue o rest env) Q E s₁ else Q b s₁) E s) : wpAny M A (allTrue o (e :: rest) env) Q E s := by
  cases o with
  | And => exact wpAny_allTrue_And_cons (wpAny_mono h (fun b s₁ h₁ => by cases b <;> exact h₁) fun _ _ x => x)
  | Or => exact wpAny_allTrue_Or_cons (wpAny_mono h (fun b s₁ h₁ => by cases b <;> exact h₁) fun _ _ x => x)
theorem as_one {o : BoolOp} {e : Expr} {m : ME} (h : TsSim C A F CS e m) : AsSim C A F CS o [e] m := fun r G f => allTrue_cons (h r G fun _ _ _ _ b l r G => by
  have := f _ _ _ _ b l r G
  cases o <;> cases b <;> first | exact this | exact wpAny_allTrue_And_nil this | exact wpAny_allTrue_Or_nil this)
theorem and_le {y : V} {c : H} {m : R V} {β : Type} {k : Bool → H → R β} : leR ((andR y c m).bind fun x h => ofK (truth h x) fun t => k t h) (ofK (truth c y) fun t => if t = true then m.bind (fun x h => ofK (truth h x) fun t => k t h) else k false c) := by
  cases y with
  | bool b => cases b with
    | true => exact leR.trans (.inr (bind_assoc _ _ _)) (.bind _ fun _ _ => boolR_le)
    | false => exact .inr rfl
  | _ => exact .inl rfl
theorem or_le {y : V} {c : H} {m : R V} {β : Type} {k : Bool → H → R β} : leR ((orR y c m).bind fun x h => ofK (truth h x) fun t => k t h) (ofK (truth c y) fun t => if t = true then k true c else m.bind (fun x h => ofK (truth h x) fun t => k t h)) := by
  cases y with
  | bool b => cases b with
    | false => exact leR.trans (.inr (bind_assoc _ _ _)) (.bind _ fun _ _ => boolR_le)
    | true => exact .inr rfl
  | _ => exact .inl rfl
theorem as_and {e e' : Expr} {es : List Expr} {m m' : ME} (h : TsSim C A F CS e m) (h' : AsSim C A F CS .And (e' :: es) m') : AsSim C A F CS .And (e :: e' :: es) (.and m m') := fun {_ loc _ _ _ _ _ k _ _ _} r G f =>
  allTrue_cons (h (k := fun t h => if t = true then (mev CS m' loc h).bind (fun x h => ofK (truth h x) fun t => k t h) else k false h) r (G.assoc.le (.bind _ fun _ _ => and_le)) fun _ _ _ _ b l r G => by
    cases b with
    | false => exact f _ _ _ _ false l r G
    | true => exact h' r G fun _ _ _ _ b l' => f _ _ _ _ b (l.trans l'))
theorem as_or {e e' : Expr} {es : List Expr} {m m' : ME} (h : TsSim C A F CS e m) (h' : AsSim C A F CS .Or (e' :: es) m') : AsSim C A F CS .Or (e :: e' :: es) (.or m m') := fun {_ loc _ _ _ _ _ k _ _ _} r G f =>
  allTrue_cons (h (k := fun t h => if t = true then k true h else (mev CS m' loc h).bind (fun x h => ofK (truth h x) fun t => k t h)) r (G.assoc.le (.bind _ fun _ _ => or_le)) fun _ _ _ _ b l r G => by
    cases b with
    | true => exact f _ _ _ _ true l r G
    | false => exact h' r G fun _ _ _ _ b l' => f _ _ _ _ b (l.trans l'))
theorem ev_bool_op {o : BoolOp} {es : List Expr} {m : ME} {pos : Pos} (h : BsSim C A F CS o es m) : EvSim C A F CS (.BoolOp o es pos) m := fun {g loc c s} r => by
  rw [arm_eval_BoolOp]; exact h pos r
theorem ts_bool_op {o : BoolOp} {es : List Expr} {m : ME} {pos : Pos} (h : AsSim C A F CS o es m) : TsSim C A F CS (.BoolOp o es pos) m := by
  show TsG _ _ _ _ (isTrue _ _ _) _
  rw [arm_isTrue_BoolOp]; exact h

/-! items and slices -/
theorem ev_idx {e1 e2 : Expr} {m1 m2 : ME} {pos : Pos} (h1 : EvSim C A F CS e1 m1) (h2 : EvSim C A F CS e2 m2) : EvSim C A F CS (.Subscript e1 e2 pos) (.idx m1 m2) := fun r Q E G =>
  Subscript_ ((h1 r).step G fun _ _ _ _ _ _ _ r1 p1 G => (h2 r1).step G fun _ _ _ _ _ _ l2 r2 p2 G => sub_idx r2 (p1.mono l2) p2 G)

noncomputable def OpSim (C : Cfg) (A : Around) (F : Fm) (CS : Calls) (o : Option Expr) (m : ME) : Prop := ∀ {g : Gh} {loc : L} {c : H} {s : Shared}, Rel C F g loc c s.heap → Sim C A F g loc s (VR C) (evalPart o F.env) (mev CS m loc c)
theorem op_none : OpSim C A F CS none .none := fun r _ _ G => wpAny_pure (G.now r .none)
theorem op_some {e : Expr} {m : ME} (h : EvSim C A F CS e m) : OpSim C A F CS (some e) m := fun {g loc c s} r => h r
theorem ev_slc {e1 : Expr} {lo hi : Option Expr} {m1 m2 m3 : ME} {p pos : Pos} (h1 : EvSim C A F CS e1 m1) (h2 : OpSim C A F CS lo m2) (h3 : OpSim C A F CS hi m3) : EvSim C A F CS (.Subscript e1 (.Slice lo hi none p) pos) (.slc m1 m2 m3) := fun r Q E G =>
  Subscript_ ((h1 r).step G fun _ _ _ _ _ _ _ r1 p1 G => wpAny_Slice ((h2 r1).step G fun _ _ _ _ _ _ l2 r2 p2 G => (h3 r2).step G fun _ _ _ _ _ _ l3 r3 p3 G => wpAny_pure (sub_slc r3 ((p1.mono l2).mono l3) (p2.mono l3) p3 G)))

/-- a slice with a step -/
theorem pick_step (its : List Value) {j k : Int} (hj : 0 ≤ j) (hk : 0 < k) : slicePick its.toArray (some j) none (some k) = (stepL its j k).toArray := by
  unfold slicePick sliceBounds sliceRange
  simp only [Option.getD_some, if_pos hk, if_neg (Int.not_lt.mpr hj), List.getElem?_toArray]
  rfl
theorem VRs.picked {g : Gh} {vs : List V} {xs : List Value} (r : VRs C g vs xs) (is : List Nat) : VRs C g (is.filterMap fun i => vs[i]?) (is.filterMap fun i => xs[i]?) := by
  induction is with
  | nil => exact .nil
  | cons i is ih =>
    rw [List.filterMap_cons, List.filterMap_cons]
    cases e : vs[i]? with
    | none => rw [List.getElem?_eq_none (r.length ▸ List.getElem?_eq_none_iff.mp e)]; exact ih
    | some v => exact (r.get e).elim fun y q => q.1.symm ▸ .cons q.2 ih
theorem VRs.step {g : Gh} {vs : List V} {xs : List Value} (r : VRs C g vs xs) (j k : Int) : VRs C g (stepL vs j k) (stepL xs j k) := by
  unfold stepL; rw [r.length]; exact r.picked _
theorem step_len {its : List Value} {j k : Int} (hj : 0 ≤ j) (hk : 0 < k) : (stepL its j k).length ≤ its.length :=
  Nat.le_trans (Nat.le_of_eq (congrArg Array.size (pick_step its hj hk)).symm) (slicePick_size_le its.toArray _ _ _)
theorem sub_slst {g : Gh} {loc : L} {c : H} {s : Shared} (r : Rel C F g loc c s.heap) {value slice : Expr} {x lo st : V} {a l u : Value} (hx : VR C g x a) (hl : VR C g lo l) (hu : VR C g st u) {Q : Value → Shared → Prop} {E : Value → Shared → Prop}
    (G : Goal C F (EvP C F loc (VR C)) g s (ofO (slstV x lo st) c) Q E) :
    wpAny (model C.prog C.w) A (subscriptTail value slice a (.ref s.heap.objs.size)) Q E { s with heap := s.heap.push { cls := .type "slice", data := .fields #[l, .none, u] } } :=
  G.obind fun vs e G => hx.isLst (W := fun a => wpAny (model C.prog C.w) A (subscriptTail value slice a (.ref s.heap.objs.size)) Q E { s with heap := s.heap.push { cls := .type "slice", data := .fields #[l, .none, u] } }) e fun o its q1 q2 q3 =>
  G.ints2 (W2 := fun l u => wpAny (model C.prog C.w) A (subscriptTail value slice (.ref o) (.ref s.heap.objs.size)) Q E { s with heap := s.heap.push { cls := .type "slice", data := .fields #[l, .none, u] } }) hl hu fun j u k v G => G.oif fun hs G =>
  have r4 := r.push { cls := .type "slice", data := .fields #[.int j u, .none, .int k v] }
  have V := q2.step j k
  (sub_ops slice (.ref o) (.ref s.heap.objs.size)).elim fun ops w => tail_any ((r4.lstAt (s := { s with heap := _ }) q1).typeIs) slot_list_getitem.lookup (wpAny_getItem_list_slice (r4.lstAt (s := { s with heap := _ }) q1) (Heap.IsSliceOf.new _ _ _ _) (.int _ _) .none (.int _ _) (fun q => absurd (Option.some.inj q) (Int.ne_of_gt hs.2))
    (pick_step its hs.1 hs.2 ▸ Goal.newList (s := { s with heap := _ }) (G.move g.le_refl) r4 V (V.length ▸ Nat.le_trans (step_len hs.1 hs.2) (Nat.le_trans (Nat.le_of_eq q2.length) q3))) (show its.length ≤ sizeLine from q2.length ▸ Nat.le_trans q3 big_le)) w
theorem ev_slst {e1 e2 e3 : Expr} {m1 m2 m3 : ME} {p pos : Pos} (h1 : EvSim C A F CS e1 m1) (h2 : EvSim C A F CS e2 m2) (h3 : EvSim C A F CS e3 m3) : EvSim C A F CS (.Subscript e1 (.Slice (some e2) none (some e3) p) pos) (.slst m1 m2 m3) := fun r Q E G =>
  Subscript_ ((h1 r).step G fun _ _ _ _ _ _ _ r1 p1 G => wpAny_Slice ((h2 r1).step G fun _ _ _ _ _ _ l2 r2 p2 G => wpAny_pure ((h3 r2).step G fun _ _ _ _ _ _ l3 r3 p3 G => sub_slst r3 ((p1.mono l2).mono l3) (p2.mono l3) p3 G)))

/-! lists of parts -/
noncomputable def isStarE (e : Expr) : Bool := match e with | .Starred .. => true | _ => false
noncomputable def notStar (e : Expr) : Bool := !isStarE e
theorem starEach_cons {e : Expr} {rest : List Expr} {env : Env} (h : notStar e = true) : starEach (e :: rest) env = (false, eval e env) :: starEach rest env := by
  cases e <;> first | rfl | (cases h)
theorem es_nil : EsSim C A F CS [] .nil := fun pos {g loc c s} r _ _ G => wpAny_items_nil (G.now r ⟨.nil, rfl⟩)
theorem es_cons {e : Expr} {es : List Expr} {m : ME} {ms : MEs} (hn : notStar e = true) (h1 : EvSim C A F CS e m) (h2 : EsSim C A F CS es ms) : EsSim C A F CS (e :: es) (.cons m ms) := fun pos {g loc c s} r Q E G =>
  wpAny_items_cons ((h1 r).step G fun _ _ _ _ _ _ _ r1 p1 G => (h2 pos r1).step G fun _ _ _ _ _ _ l2 r2 p2 G => G.now r2 ⟨.cons (p1.mono l2) p2.1, congrArg (· + 1) p2.2⟩) (starEach_cons hn)
theorem backTo_any {pos : Pos} {env : Env} {es : List Expr} : es.all notStar = true → (backTo pos (starEach es env)).any (·.1) = false := by
  induction es with
  | nil => exact fun _ => rfl
  | cons e es ih =>
    intro h
    rw [starEach_cons (and_l h)]
    exact ih (and_r h)
theorem evalArgs_es {M : Model} {A : Around} {E : Value → Shared → Prop} {s : Shared} {env : Env} {f : Value} {pos : Pos} {es : List Expr} {Q : Args → Shared → Prop} (hn : es.all notStar = true)
    (h : wpAny M A (spliced (backTo pos (starEach es env))) (fun vs s' => Q ⟨vs, []⟩ s') E s) : wpAny M A (evalArgs f true (backTo pos (starEach es env)) []) Q E s := by
  cases es with
  | nil => exact wpAny_bind (wpAny_mono h (fun vs s' h' => wpAny_bind (wpAny_pure (wpAny_holding (wpAny_bind (wpAny_pure (wpAny_bind (wpAny_pure (wpAny_pure h')))))))) fun _ _ x => x)
  | cons e es =>
    rw [starEach_cons (and_l hn)] at h ⊢
    exact evalArgs_plain h

theorem VRsN.fits {n : Nat} {g : Gh} {vs : List V} {xs : List Value} (p : VRsN C n g vs xs) (h : n ≤ big) : xs.length ≤ sizeLine := p.1.length ▸ p.2 ▸ Nat.le_trans h big_le
theorem ev_tup {es : List Expr} {ms : MEs} {k : Nat} {pos : Pos} (h : EsSim C A F CS es ms) (hb : ms.len ≤ big) : EvSim C A F CS (.Tuple es k pos) (.tup ms) := fun {g loc c s} r Q E G =>
  wpAny_Tuple ((h pos r).step G fun g1 c1 h1 t1 _ a1 _ r1 p1 G => ⟨p1.fits hb, have N := Rel.newSeq (s := { s with heap := h1, toks := t1 }) r1 a1; G.done (tk := t1) N.2.1 ⟨N.1, .tup N.2.2 (p1.1.mono N.2.1) (p1.2 ▸ hb)⟩⟩)
theorem ev_list {es : List Expr} {ms : MEs} {pos : Pos} (h : EsSim C A F CS es ms) (hb : ms.len ≤ big) : EvSim C A F CS (.List es pos) (.list ms) := fun {g loc c s} r Q E G =>
  wpAny_List ((h pos r).step G fun g1 c1 h1 t1 _ a1 _ r1 p1 G => ⟨p1.fits hb, Goal.newList (s := { s with heap := h1, toks := t1 }) G r1 p1.1 (p1.2 ▸ hb)⟩)
theorem ev_cell {es : List Expr} {ms : MEs} {pos : Pos} (h : EsSim C A F CS es ms) (hb : ms.len ≤ big) : EvSim C A F CS (.List es pos) (.cell ms) := fun {g loc c s} r Q E G =>
  wpAny_List ((h pos r).step G fun g1 c1 h1 t1 _ a1 _ r1 p1 G => ⟨p1.fits hb, G.done (tk := t1) Gh.cell_le ⟨r1.pushCell p1.1 (p1.2 ▸ hb), .ref _ _ (show (g1.σ ++ [h1.objs.size])[c1.length]? = _ by rw [r1.clen]; exact List.getElem?_concat_length)⟩⟩)
end
end Mine
end
section
set_option Elab.async false
set_option linter.all false
namespace Mine
open PySem PySem.Spec PySem.Calls PyProof.Rows

noncomputable def bltNames : List PySem.Str := ["len", "ord", "chr", "sum", "min", "max", "str", "range", "isinstance", "tuple", "int"]
structure CfgX (C : Cfg) : Prop extends CfgOK C where
  free : ∀ n ∈ bltNames, C.mg n = none
  tokB : C.mg "Token" = some (.ref C.tokC)
  tokO : ∃ N mN, ClsAt C.h₀ C.tokC N mN

section
variable {C : Cfg} {A : Around} {F : Fm} {CS : Calls} {x : Cx}

noncomputable def keepMach : Value → Bool | .builtin _ => true | .type _ => true | _ => false
theorem callWith_mach {M : Model} {A : Around} {E : Value → Shared → Prop} {s : Shared} {pos : Pos} {f : Value} {first : List Value} {args : List (Bool × Sem Value)} {Q : Value → Shared → Prop} (hk : keepMach f = true) (hplain : args.any (·.1) = false)
    (h : wpAny M A (evalArgs f true args []) (fun a s₁ => wpAny M A (call f (first ++ a.pos) a.kw) Q E s₁) E s) : wpAny M A (callWith pos f first args []) Q E s := by
  cases f with
  | builtin id => exact callWith_builtin hplain h
  | type T => exact PySem.callWith_type hplain h
  | _ => cases hk

theorem Call_Name {M : Model} {A : Around} {E : Value → Shared → Prop} {s : Shared} {env : Env} {n : PySem.Str} {np pos : Pos} {args : List Expr} {Q : Value → Shared → Prop}
    (h : wpAny M A (eval (.Name n np) env) (fun f s₁ => wpAny M A (callWith pos f [] (backTo pos (starEach args env)) []) Q E s₁) E s) : wpAny M A (eval (.Call (.Name n np) args [] pos) env) Q E s := wpAny_bind h

/-- a call of a def -/
noncomputable def CallsAt (C : Cfg) (A : Around) (F : Fm) (CS : Calls) : Prop := ∀ {g : Gh} {loc : L} {c : H} {s : Shared} {f : Nat} {args : List V} {vals : List Value} {a : Addr}, Rel C F g loc c s.heap → VRs C g args vals → C.fnA f = some a → Sim C A F g loc s (VR C) (call (.ref a) vals []) (CS f args c)

theorem def_call (oc : CfgOK C) (hc : CallsAt C A F CS) {es : List Expr} {ms : MEs} {pos : Pos} (hs : es.all notStar = true) (h : EsSim C A F CS es ms) {f : Nat} {a : Addr} (hf : C.fnA f = some a) {g : Gh} {loc : L} {c : H} {s : Shared} (r : Rel C F g loc c s.heap) :
    Sim C A F g loc s (VR C) (callWith pos (.ref a) [] (backTo pos (starEach es F.env)) []) ((mevs CS ms loc c).bind fun vs h => CS f vs h) := fun Q E G =>
  (oc.fn f a hf).elim fun o q => q.elim fun fd q => callWith_function (o := o) (fd := fd) (evalArgs_es hs ((h pos r).step G fun _ _ _ _ _ _ _ r1 p1 G => ⟨⟨r1.base _ _ q.1, q.2⟩, hc r1 p1.1 hf _ _ G⟩))

theorem ev_call (ok : FmOK C F A) (oc : CfgOK C) (ox : CxOK C F x) (hc : CallsAt C A F CS) {n : PySem.Str} {f : Nat} {es : List Expr} {ms : MEs} {np pos : Pos} (hg : isGlob x n = true) (hf : (n, f) ∈ x.fns) (hs : es.all notStar = true) (h : EsSim C A F CS es ms) :
    EvSim C A F CS (.Call (.Name n np) es [] pos) (.call f ms) := fun r Q E G => (ox.fns _ hf).elim fun a q => Call_Name (name_glob ok oc ox hg q.1 r (def_call oc hc hs h q.2 r _ _ G))
theorem ev_callv (ok : FmOK C F A) (oc : CfgOK C) (ox : CxOK C F x) (hc : CallsAt C A F CS) {n : PySem.Str} {i : Nat} {es : List Expr} {ms : MEs} {np pos : Pos} (hg : isSlot x n i = true) (hs : es.all notStar = true) (h : EsSim C A F CS es ms) :
    EvSim C A F CS (.Call (.Name n np) es [] pos) (.callv i ms) := fun r Q E G => G.obind fun v e G => G.opt fun f e' G => Call_Name (eval_var ok ox hg r e fun a p => p.isFn (W := fun a => wpAny _ A (callWith pos a [] _ []) Q E _) e' fun b hb => def_call oc hc hs h hb r _ _ G)

/-- a token is made -/
noncomputable def MkAt (C : Cfg) (A : Around) (F : Fm) : Prop := ∀ {g : Gh} {loc : L} {c : H} {s : Shared} {vs : List V} {vals : List Value}, Rel C F g loc c s.heap → VRs C g vs vals → Sim C A F g loc s (VR C) (call (.ref C.tokC) vals []) (mkR vs c)
theorem ev_mk (ok : FmOK C F A) (oc : CfgX C) (ox : CxOK C F x) (hm : MkAt C A F) {e : Expr} {es : List Expr} {ms : MEs} {np pos : Pos} (hg : isGlob x "Token" = true) (hs : (e :: es).all notStar = true) (h : EsSim C A F CS (e :: es) ms) :
    EvSim C A F CS (.Call (.Name "Token" np) (e :: es) [] pos) (.mk ms) := fun r Q E G => oc.tokO.elim fun _ X => X.elim fun _ X =>
  Call_Name (name_glob ok oc.toCfgOK ox hg oc.tokB r (PyProof.Rows.callWith_cls X ((h pos r).step G fun _ _ _ _ _ _ _ r1 p1 G => ⟨r1.base, hm r1 p1.1 _ _ G⟩) (starEach_cons (and_l hs)) (backTo_any (and_r hs))))

/-- a field of a token -/
noncomputable def attrName : Nat → PySem.Str | 0 => "sort" | 1 => "value" | _ => "line"
noncomputable def AttrAt (C : Cfg) (A : Around) (F : Fm) : Prop := ∀ {g : Gh} {loc : L} {c : H} {s : Shared} {v : V} {a : Value} {f : Nat}, Rel C F g loc c s.heap → VR C g v a → Sim C A F g loc s (VR C) (getAttr a (attrName f) true) (ofO (attrV v f) c)
theorem ev_attr (ha : AttrAt C A F) {n : PySem.Str} {f : Nat} {m1 : ME} {np pos : Pos} (h1 : EvSim C A F CS (.Name n np) m1) : EvSim C A F CS (.Attribute (.Name n np) (attrName f) pos) (.attr m1 f) := fun r Q E G =>
  Attribute_name ((h1 r).step G fun _ _ _ _ _ _ _ r1 p1 G => ha r1 p1 _ _ G)

/-! built-in functions by their names -/
noncomputable def isBlt (x : Cx) (n : PySem.Str) (f : Value) : Bool := isGlob x n && (decide (n ∈ bltNames) && (bootBuiltins n == some f && (keepMach f && n != "__name__")))
theorem blt_name (ok : FmOK C F A) (oc : CfgX C) (ox : CxOK C F x) {n : PySem.Str} {f : Value} {np : Pos} (h : isBlt x n f = true) {g : Gh} {loc : L} {c : H} {s : Shared} (r : Rel C F g loc c s.heap)
    {M : Model} {Q : Value → Shared → Prop} {E : Value → Shared → Prop} (hq : Q f s) : wpAny M A (eval (.Name n np) F.env) Q E s :=
  name_blt ok oc.toCfgOK ox (and_l h) (oc.free n (dec_is (and_l (and_r h)))) (bne_iff_ne.mp (and_r (and_r (and_r (and_r h))))) (beq_is (and_l (and_r (and_r h)))) r hq
theorem blt_mach {n : PySem.Str} {f : Value} (h : isBlt x n f = true) : keepMach f = true := and_l (and_r (and_r (and_r h)))

theorem ev_b1 (ok : FmOK C F A) (oc : CfgX C) (ox : CxOK C F x) {p : P1} {n : PySem.Str} {f : Value} {e1 : Expr} {m1 : ME} {np pos : Pos} (hb : isBlt x n f = true) (hf : p1Fn p = some f) (hs : [e1].all notStar = true) (h1 : EvSim C A F CS e1 m1) :
    EvSim C A F CS (.Call (.Name n np) [e1] [] pos) (.p1 p m1) := fun r Q E G =>
  Call_Name (blt_name ok oc ox hb r (callWith_mach (blt_mach hb) (backTo_any hs) (evalArgs_es hs (wpAny_items_cons ((h1 r).step G fun _ _ _ _ _ _ _ r1 p1 G => wpAny_items_nil (prim1 r1 ok.hh hf p1 G)) (starEach_cons (and_l hs))))))
theorem ev_b2 (ok : FmOK C F A) (oc : CfgX C) (ox : CxOK C F x) {p : P2} {n : PySem.Str} {f : Value} {e1 e2 : Expr} {m1 m2 : ME} {np pos : Pos} (hb : isBlt x n f = true) (hf : p2Fn p = some f) (hs : [e1, e2].all notStar = true) (h1 : EvSim C A F CS e1 m1) (h2 : EvSim C A F CS e2 m2) :
    EvSim C A F CS (.Call (.Name n np) [e1, e2] [] pos) (.p2 p m1 m2) := fun r Q E G =>
  Call_Name (blt_name ok oc ox hb r (callWith_mach (blt_mach hb) (backTo_any hs) (evalArgs_es hs (wpAny_items_cons ((h1 r).step G fun _ _ _ _ _ _ _ r1 p1 G => G.rif fun _ G =>
    wpAny_items_cons ((h2 r1).step G fun _ _ _ _ _ _ l2 r2 p2 G => wpAny_items_nil (prim2 r2 ok.hh hf (p1.mono l2) p2 G)) (starEach_cons (and_l (and_r hs)))) (starEach_cons (and_l hs))))))

/-! methods -/
noncomputable def baseOK : Expr → Bool | .Name .. => true | .Constant .. => true | .Subscript .. => true | _ => false
theorem base_ok {o : Expr} (h : baseOK o = true) (n : PySem.Str) (env : Env) : attributeBase o n env (eval o env) = eval o env := by
  cases o <;> first | rfl | (cases h)
theorem wp_method {prog : Program} {w : World} {A : Around} {E : Value → Shared → Prop} {s : Shared} {env : Env} {o : Expr} {name : PySem.Str} {T id : String} {apos pos : Pos} {es : List Expr} {Q : Value → Shared → Prop}
    (hb : baseOK o = true) (hl : es.length + 0 + 0 < 30) (hs : es.all notStar = true) (hline : (apos.endLine == pos.line) = true) (pa : PlainAttrs T) (slot : Slot T name id) (hty : typeOf (.builtin id) = pure (.type "method_descriptor"))
    (h : wpAny (model prog w) A (eval o env) (fun ov s₁ => (s₁.TypeIs ov T ∧ ∀ a, ov = .ref a → ∃ ob, s₁.heap.get? a = some ob ∧ ob.dict = none) ∧
      wpAny (model prog w) A (spliced (backTo pos (starEach es env))) (fun vs s₂ => wpAny (model prog w) A (call (.builtin id) (ov :: vs)) Q E s₂) E s₁) E s) :
    wpAny (model prog w) A (eval (.Call (.Attribute o name apos) es [] pos) env) Q E s := by
  have hany := backTo_any (pos := pos) (env := env) hs
  have hall : (backTo pos (starEach es env)).all (fun x => !x.1) = true := List.all_eq_true.mpr fun y hy => congrArg (!·) (Bool.eq_false_iff.mpr (List.any_eq_false.mp hany y hy))
  refine wpAny_Call_method (base_ok hb _ _) ?_ hline pa slot hty (wpAny_mono h (fun ov s₁ h₁ => ⟨h₁.1.1, h₁.1.2, callWith_builtin hany (evalArgs_es hs h₁.2)⟩) fun _ _ x => x)
  rw [hall]
  exact decide_eq_true hl

section
variable {g : Gh} {loc : L} {c : H} {s : Shared} {v : V} {a : Value}
theorem m_str {l : List Nat} (p : VR C g v a) (e : txtOf v = some l) : s.TypeIs a "str" ∧ ∀ b, a = .ref b → ∃ ob, s.heap.get? b = some ob ∧ ob.dict = none :=
  p.isTxt (W := fun a => s.TypeIs a "str" ∧ ∀ b, a = .ref b → ∃ ob, s.heap.get? b = some ob ∧ ob.dict = none) e fun t _ => ⟨typeIs_str _ _ _, fun _ q => nomatch q⟩
theorem isStr_is (h : isStrV v = true) : ∃ l, txtOf v = some l := by
  cases v with
  | str l => exact ⟨l, rfl⟩
  | _ => cases h
theorem isRef_is (h : isRefV v = true) : ∃ l, refOf v = some l := by
  cases v with
  | ref l => exact ⟨l, rfl⟩
  | _ => cases h
theorem m_cell {n : Nat} (r : Rel C F g loc c s.heap) (p : VR C g v a) (e : refOf v = some n) : s.TypeIs a "list" ∧ ∀ b, a = .ref b → ∃ ob, s.heap.get? b = some ob ∧ ob.dict = none :=
  p.isRef (W := fun a => s.TypeIs a "list" ∧ ∀ b, a = .ref b → ∃ ob, s.heap.get? b = some ob ∧ ob.dict = none) e fun p hp => (r.cellAt hp (List.getElem?_eq_getElem (r.clen ▸ get_lt hp))).elim fun its w => w.pl.elim fun k ho =>
    ⟨⟨_, ho, rfl⟩, fun b q => ⟨_, Value.ref.inj q ▸ ho, rfl⟩⟩
end
theorem ev_m1 (ok : FmOK C F A) {e1 : Expr} {m1 : ME} {apos pos : Pos} (hb : baseOK e1 = true) (hline : (apos.endLine == pos.line) = true) (h1 : EvSim C A F CS e1 m1) :
    EvSim C A F CS (.Call (.Attribute e1 "lower" apos) [] [] pos) (.p1 .lower m1) := fun r Q E G =>
  wp_method hb (by decide) rfl hline PySem.F.plainAttrs_str PySem.F.slot_str_lower PySem.F.type_str_lower ((h1 r).step G fun _ _ _ _ _ _ _ r1 p1 G => ⟨G.obind fun l e _ => m_str p1 e, wpAny_items_nil (prim1 r1 ok.hh rfl p1 G)⟩)

noncomputable def m2Of : P2 → Option (PySem.Str × String)
  | .find => some ("find", "str.find") | .count => some ("count", "str.count") | .split => some ("split", "str.split") | .lstrip => some ("lstrip", "str.lstrip") | .join => some ("join", "str.join") | _ => none
structure M2Is (p : P2) (n : PySem.Str) (id : String) : Prop where
  slot : Slot "str" n id
  type : typeOf (.builtin id) = pure (.type "method_descriptor")
  fn : p2Fn p = some (.builtin id)
  recv : ∀ v, recv2 p v = isStrV v
theorem m2_slot {p : P2} {t : PySem.Str × String} (h : m2Of p = some t) : M2Is p t.1 t.2 := by
  cases p with
  | find => exact Option.some.inj h ▸ ⟨PySem.F.slot_str_find, PySem.F.type_str_find, rfl, fun _ => rfl⟩
  | count => exact Option.some.inj h ▸ ⟨PySem.F.slot_str_count, PySem.F.type_str_count, rfl, fun _ => rfl⟩
  | split => exact Option.some.inj h ▸ ⟨PySem.F.slot_str_split, PySem.F.type_str_split, rfl, fun _ => rfl⟩
  | lstrip => exact Option.some.inj h ▸ ⟨PySem.F.slot_str_lstrip, PySem.F.type_str_lstrip, rfl, fun _ => rfl⟩
  | join => exact Option.some.inj h ▸ ⟨PySem.F.slot_str_join, PySem.F.type_str_join, rfl, fun _ => rfl⟩
  | _ => cases h
theorem ev_m2 (ok : FmOK C F A) {p : P2} {t : PySem.Str × String} {e1 e2 : Expr} {m1 m2 : ME} {apos pos : Pos} (hp : m2Of p = some t) (hb : baseOK e1 = true) (hs : [e2].all notStar = true) (hline : (apos.endLine == pos.line) = true) (h1 : EvSim C A F CS e1 m1) (h2 : EvSim C A F CS e2 m2) :
    EvSim C A F CS (.Call (.Attribute e1 t.1 apos) [e2] [] pos) (.p2 p m1 m2) := fun r Q E G =>
  have q := m2_slot hp
  wp_method hb (by decide : 1 + 0 + 0 < 30) hs hline PySem.F.plainAttrs_str q.slot q.type ((h1 r).step G fun _ _ _ _ v1 _ _ r1 p1 G => G.rif fun hr G => ⟨(isStr_is (q.recv v1 ▸ hr)).elim fun l e => m_str p1 e,
    wpAny_items_cons ((h2 r1).step G fun _ _ _ _ _ _ l2 r2 p2 G => wpAny_items_nil (prim2 r2 ok.hh q.fn (p1.mono l2) p2 G)) (starEach_cons (and_l hs))⟩)

theorem ev_m3 {e1 e2 e3 : Expr} {m1 m2 m3 : ME} {apos pos : Pos} (hb : baseOK e1 = true) (hs : [e2, e3].all notStar = true) (hline : (apos.endLine == pos.line) = true) (h1 : EvSim C A F CS e1 m1) (h2 : EvSim C A F CS e2 m2) (h3 : EvSim C A F CS e3 m3) :
    EvSim C A F CS (.Call (.Attribute e1 "find" apos) [e2, e3] [] pos) (.p3 .find m1 m2 m3) := fun r Q E G =>
  wp_method hb (by decide : 2 + 0 + 0 < 30) hs hline PySem.F.plainAttrs_str PySem.F.slot_str_find PySem.F.type_str_find ((h1 r).step G fun _ _ _ _ _ _ _ r1 p1 G => G.rif fun hr G => ⟨(isStr_is hr).elim fun l e => m_str p1 e,
    wpAny_items_cons ((h2 r1).step G fun _ _ _ _ _ _ l2 r2 p2 G => wpAny_items_cons ((h3 r2).step G fun _ _ _ _ _ _ l3 r3 p3 G => wpAny_items_nil (prim3 r3 ((p1.mono l2).mono l3) (p2.mono l3) p3 G)) (starEach_cons (and_l (and_r hs)))) (starEach_cons (and_l hs))⟩)

theorem ev_append (ok : FmOK C F A) {e1 e2 : Expr} {m1 m2 : ME} {apos pos : Pos} (hb : baseOK e1 = true) (hs : [e2].all notStar = true) (hline : (apos.endLine == pos.line) = true) (h1 : EvSim C A F CS e1 m1) (h2 : EvSim C A F CS e2 m2) :
    EvSim C A F CS (.Call (.Attribute e1 "append" apos) [e2] [] pos) (.p2 .append m1 m2) := fun r Q E G =>
  wp_method hb (by decide : 1 + 0 + 0 < 30) hs hline PySem.F.plainAttrs_list PySem.F.slot_list_append PySem.F.type_list_append ((h1 r).step G fun _ _ _ _ _ _ _ r1 p1 G => G.rif fun hr G => ⟨(isRef_is hr).elim fun n e => m_cell r1 p1 e,
    wpAny_items_cons ((h2 r1).step G fun _ _ _ _ _ _ l2 r2 p2 G => wpAny_items_nil (prim2 r2 ok.hh rfl (p1.mono l2) p2 G)) (starEach_cons (and_l hs))⟩)
end
end Mine
end
section
set_option Elab.async false
set_option linter.all false
namespace Mine
open PySem PySem.Spec PySem.Calls PyProof.Rows

/-- the exception bears a traceback -/
structure ExcIn (C : Cfg) (F : Fm) (g : Gh) (w : List Nat) (l : Int) (e : Addr) (h : Heap) : Prop where
  off : Off C F g e
  obj : ∃ d, ExcO C F g w l e h d ∧ ∃ t, TbO C F g e h d.vs t

section
variable {C : Cfg} {A : Around} {F : Fm} {g : Gh} {loc : L} {c : H} {h h' : Heap} {w : List Nat} {l : Int} {e : Addr}
theorem ExcIn.at (x : ExcIn C F g w l e h) : ExcAt C F g w l e h := ⟨x.off, x.obj.imp fun _ q => q.1⟩

/-- a frame that a call makes: its own block is its frame -/
structure FnOK (F : Fm) : Prop where
  top : ∃ outer, F.fr = F.env :: outer
  frame : F.env.frame = some F.env.locals

theorem fr_funs (ok : FmOK C F A) (r : Rel C F g loc c h) : h.FunFrames { objs := #[] } F.fr := by
  have gen : ∀ l : List Env, (∀ e ∈ l, e.scope.kind ≠ .module ∧ ∃ L, e.frame = some L ∧ (L = F.env.locals ∨ ∃ x ∈ F.keeps, x.1 = L ∧ ∃ es n, x.2.2.2 = .dict es n)) → h.FunFrames { objs := #[] } l := by
    intro l
    induction l with
    | nil => exact fun _ => trivial
    | cons e l ih => exact fun hl => ⟨(hl e (.head _)).1, (hl e (.head _)).2.elim fun L h2 => ⟨L, h2.2.elim
        (fun q => r.ns.elim fun m q' => q'.1.elim fun o q' => q'.elim fun es q' => q'.elim fun ep q' => ⟨o, h2.1, rfl, q ▸ q'.1, fun vs z => nomatch q'.2.1.symm.trans z⟩)
        fun q => q.elim fun x q => (r.keep x q.1).elim fun o k => q.2.2.elim fun es z => z.elim fun n z => ⟨o, h2.1, rfl, q.2.1 ▸ k.1, fun vs y => nomatch (k.2.2.2.trans z).symm.trans y⟩⟩, ih fun e he => hl e (.tail _ he)⟩
  exact gen _ ok.frOK
theorem fr_mem (ok : FmOK C F A) {a : Addr} (ha : a ∈ F.fr.filterMap (·.frame)) : a ∈ F.env.locals :: F.keeps.map (·.1) :=
  (List.mem_filterMap.mp ha).elim fun e q => (ok.frOK e q.1).2.elim fun L k => Option.some.inj (k.1.symm.trans q.2) ▸ k.2.elim (fun z => z ▸ .head _) fun z => z.elim fun x z => z.2.1 ▸ .tail _ (List.mem_map_of_mem z.1)
theorem fr_places (ok : FmOK C F A) {a : Addr} (ha : a ∈ F.fr.filterMap (·.frame)) : a ∈ places F g := List.mem_append_left (as := F.env.locals :: F.keeps.map (·.1)) _ (fr_mem ok ha)
theorem fr_off (ok : FmOK C F A) (r : Rel C F g loc c h) (a : Addr) (ha : a ∈ F.fr.filterMap (·.frame)) : C.h₀.get? a = none ∧ a ∉ g.σ :=
  ⟨(r.new a (fr_places ok ha)).1, fun hs => (List.nodup_append.mp (show ((F.env.locals :: F.keeps.map (·.1)) ++ g.σ).Nodup from r.apart)).2.2 a (fr_mem ok ha) a hs rfl⟩

theorem mapFields_eq {o : Obj} {vs : Array Value} (hd : o.data = .fields vs) (f : Array Value → Array Value) : o.mapFields f = { o with data := .fields (f vs) } := by
  obtain ⟨c, d, dt, sl⟩ := o; cases hd; rfl
/-- a field of the exception's record is set -/
theorem ExcO.setTb {d : ExcD} (O : ExcO C F g w l e h d) (off : Off C F g e) {T : Addr} (he : h'.get? e = some (d.oe.mapFields (·.setIfInBounds 1 (.ref T)))) {t : TbD} (ht : TbO C F g e h' (d.vs.setIfInBounds 1 (.ref T)) t) : ExcIn C F g w l e h' :=
  ⟨off, { d with oe := { d.oe with data := .fields (d.vs.setIfInBounds 1 (.ref T)) }, vs := d.vs.setIfInBounds 1 (.ref T) },
    { O with get := he.trans (congrArg some (mapFields_eq O.data _)), data := rfl, size := Array.size_setIfInBounds.trans O.size, tb := .inr ⟨t, ht⟩ }, t, ht⟩
theorem ExcO.at1 {d : ExcD} (O : ExcO C F g w l e h d) {x : Value} : (d.vs.setIfInBounds 1 x)[1]? = some x := by
  rw [Array.getElem?_setIfInBounds_self]
  exact if_pos (O.size ▸ by decide)
/-- all but one object that stands apart is as it was -/
theorem ExcO.same {d : ExcD} (O : ExcO C F g w l e h d) (he : h'.get? e = some d.oe) (ht : ∀ t, TbO C F g e h d.vs t → ∃ t', TbO C F g e h' d.vs t') : ExcO C F g w l e h' d :=
  { O with get := he, tb := O.tb.imp id fun q => q.elim fun t q => ht t q }
/-- the traceback's own record is turned -/
theorem TbO.flight' {d : ExcD} (O : ExcO C F g w l e h d) (off : Off C F g e) {t : TbD} (T : TbO C F g e h d.vs t) (x : Value) :
    ExcIn C F g w l e (h.update t.T (Obj.mapFields (·.setIfInBounds 3 x))) :=
  have N : TbO C F g e (h.update t.T (Obj.mapFields (·.setIfInBounds 3 x))) d.vs { t with o := t.o.mapFields (·.setIfInBounds 3 x), ts := t.ts.setIfInBounds 3 x, x := x } :=
    { T with get := Heap.get?_update_self _ T.get (Obj.isFreed_of_fields (Obj.data_mapFields T.data _)), data := Obj.data_mapFields T.data _, flight := by rw [Array.getElem?_setIfInBounds_self]; exact if_pos (Array.getElem?_eq_some_iff.mp T.flight).1 }
  ⟨off, d, O.same ((Heap.get?_update_other _ _ T.ne).trans O.get) fun _ _ => ⟨_, N⟩, _, N⟩
theorem upd_but {a : Addr} (f : Obj → Obj) : Heap.ExtBut a h (h.update a f) := fun b o hb hbo => (Heap.get?_update_other _ _ (Ne.symm hb)).trans hbo
end

section
variable {C : Cfg} {A : Around} {F : Fm} {g : Gh} {loc : L} {c : H} {s : Shared} {M : Model} {w : List Nat} {l : Int} {e : Addr} {Q : Unit → Shared → Prop} {E : Value → Shared → Prop}

theorem new_entry (ok : FmOK C F A) (of : FnOK F) (r : Rel C F g loc c s.heap) (off : Off C F g e) {d : ExcD} (O : ExcO C F g w l e s.heap d) {head : Value} {b : Bool} (hq : ∀ h', Rel C F g loc c h' → ExcIn C F g w l e h' → Q () { s with heap := h' }) :
    wpAny M A (do let a ← frameOf F.env; let pl ← entryPlaceOf F.env.locals b; let t ← EntryCells.newEntry head a .none (rawInt F.env.locals) .none pl; setField (.ref e) 1 t) Q E s := by
  obtain ⟨outer, hfr⟩ := of.top
  refine wpAny_bind (wpAny_frameOf_fun (ok.fr.trans (congrArg some hfr)) (hfr ▸ fr_funs ok r) of.frame fun h₁ hs₁ => ?_)
  refine wpAny_bind (wpAny_entryPlaceOf fun pl hpl => ?_)
  unfold EntryCells.newEntry newFields
  refine wpAny_bind (wpAny_newObj_type ?_ (hpl.sizeOk5 _ _ _ _ _))
  rw [← hfr] at hs₁
  have r₁ : Rel C F g loc c h₁ := r.soft (xs := []) (fun b o _ hb => (hs₁.2.2 b o hb).imp fun sl e1 => ⟨e1, fun hf => (hs₁.2.1 b hf).trans hb⟩) (fun _ q => nomatch q) (fr_off ok r)
  have he₁ : h₁.get? e = some d.oe := (hs₁.2.1 e fun hm => off.2 (fr_places ok hm)).trans O.get
  generalize hTB : ({ cls := .type "traceback", dict := none, data := .fields ([head, .ref F.env.locals, .none, rawInt F.env.locals, .none] ++ (if pl.isEmpty then List.replicate 6 Value.none else pl)).toArray } : Obj) = tb
  have htd : tb.data = .fields ([head, .ref F.env.locals, .none, rawInt F.env.locals, .none] ++ (if pl.isEmpty then List.replicate 6 Value.none else pl)).toArray := hTB ▸ rfl
  have he₂ := Heap.get?_push_of_some (h := h₁) tb he₁
  refine wpAny_setField he₂ O.data (O.size ▸ by decide) ?_
  have hTe : h₁.objs.size ≠ e := Nat.ne_of_gt (Heap.lt_size he₁)
  exact hq _ ((r₁.push tb).one (upd_but _) off) (O.setTb off (Heap.get?_update_self _ he₂ (Obj.isFreed_of_fields (Obj.data_mapFields O.data _))) (t := ⟨_, tb, _, rawInt F.env.locals⟩)
    ⟨O.at1, (Heap.get?_update_other _ _ (Ne.symm hTe)).trans (Heap.get?_push_size h₁ (Obj.isFreed_of_fields htd)), htd, rfl, hTe, r₁.fresh⟩)

theorem exc_note (ok : FmOK C F A) (of : FnOK F) (r : Rel C F g loc c s.heap) (x : ExcAt C F g w l e s.heap) (hq : ∀ h', Rel C F g loc c h' → ExcIn C F g w l e h' → Q () { s with heap := h' }) : wpAny M A (noteFrame (.ref e) F.env) Q E s := by
  unfold noteFrame
  simp only [of.frame]
  refine x.obj.elim fun d O => O.tb.elim (fun h1 => wpAny_bind (wpAny_field O.get O.data h1 (new_entry ok of r x.off O hq))) fun q => q.elim fun t T => wpAny_bind (wpAny_field O.get O.data T.fld ?_)
  rw [if_pos (show (Value.ref t.T != Value.none) = true from rfl)]
  refine wpAny_bind (wpAny_field T.get T.data T.flight ?_)
  split
  · exact wpAny_pure (hq s.heap r ⟨x.off, d, O, t, T⟩)
  · exact wpAny_bind (wpAny_setField T.get T.data (Array.getElem?_eq_some_iff.mp T.flight).1 ((T.flight' O x.off .none).obj.elim fun d' q => new_entry (s := { s with heap := _ }) ok of (r.one (upd_but _) T.off) x.off q.1 hq))

theorem exc_flight (r : Rel C F g loc c s.heap) {fo : Option Addr} (x : ExcIn C F g w l e s.heap) (hq : ∀ h', Rel C F g loc c h' → ExcIn C F g w l e h' → Q () { s with heap := h' }) : wpAny M A (setFlight (.ref e) fo) Q E s := by
  unfold setFlight
  refine x.obj.elim fun d q => q.2.elim fun t T => wpAny_bind (wpAny_field q.1.get q.1.data T.fld ?_)
  rw [if_pos (show (Value.ref t.T != Value.none) = true from rfl)]
  exact wpAny_setField T.get T.data (Array.getElem?_eq_some_iff.mp T.flight).1 (hq _ (r.one (upd_but _) T.off) (T.flight' q.1 x.off _))

/-- an exception leaves a loop's body -/
theorem exc_loop (ok : FmOK C F A) (of : FnOK F) (r : Rel C F g loc c s.heap) (x : ExcAt C F g w l e s.heap) {E : Value → Shared → Prop}
    (hq : ∀ h', Rel C F g loc c h' → ExcAt C F g w l e h' → E (.ref e) { s with heap := h' }) : notedBy M A F.env (cameBackBy M A F.env E) (.ref e) s :=
  exc_note ok of r x fun h' r' x' => x'.obj.elim fun d q => q.2.elim fun t T => wpAny_bind (wpAny_field q.1.get q.1.data T.fld (by
    rw [if_neg (show ¬ (Value.ref t.T == Value.none) = true from fun z => nomatch z)]
    exact exc_flight (s := { s with heap := h' }) r' x' fun h2 r2 x2 => hq h2 r2 x2.at))
/-- an exception leaves a frame -/
theorem exc_leave (ok : FmOK C F A) (of : FnOK F) (r : Rel C F g loc c s.heap) (x : ExcAt C F g w l e s.heap) (hq : ∀ h', Rel C F g loc c h' → ExcIn C F g w l e h' → Q () { s with heap := h' }) : wpAny M A (leaving F.env (.ref e)) Q E s :=
  wpAny_bind (exc_note ok of r x fun h' r' x' => exc_flight (s := { s with heap := h' }) r' x' hq)
end
end Mine
end
section
set_option Elab.async false
set_option linter.all false
namespace Mine
open PySem PySem.Spec PySem.Calls PyProof.Rows

noncomputable def ImOK (g : Gh) (h : Heap) : Prop := ∀ a x, g.im a = some x → ∃ o, h.get? a = some o ∧ Obj.is o x
theorem ImOK.seq {g : Gh} {h : Heap} (im : ImOK g h) {T : String} {a : Addr} {its : List Value} (ha : SeqIm g T a its) : ∃ o, h.get? a = some o ∧ o.cls = .type T ∧ ∃ n, o.data = .seq its.toArray n :=
  ha.elim fun d q => q.elim fun n q => (im a _ q).imp fun _ k => ⟨k.1, k.2.1, n, k.2.2.2⟩
noncomputable def ownedNames : List String := ["enumerate", "zip", "dict_itemiterator", "dict_reverseitemiterator", "odict_iterator", "itertools.zip_longest", "itertools.pairwise"]
noncomputable def ItAt (h : Heap) (I : Addr) (ty : String) (d : Data) : Prop := ∃ o, h.get? I = some o ∧ o.cls = .type ty ∧ o.data = d

/-- what an iterator hands out from here on -/
noncomputable def Nx (C : Cfg) (A : Around) (g : Gh) (I : Addr) (ty : String) : List V → Data → Prop
  | [], d => ∀ (s : Shared) (Q : Option Value → Shared → Prop) (E : Value → Shared → Prop), ItAt s.heap I ty d → ImOK g s.heap → (∀ h', Heap.ExtBut I s.heap h' → Q none { s with heap := h' }) → wpAny (model C.prog C.w) A (pyNext (.ref I)) Q E s
  | v :: r, d => ∀ (s : Shared) (Q : Option Value → Shared → Prop) (E : Value → Shared → Prop), ItAt s.heap I ty d → ImOK g s.heap →
      (∀ h' tk a d', Heap.ExtBut I s.heap h' → ItAt h' I ty d' → VR C g v a → Nx C A g I ty r d' → Q (some a) { s with heap := h', toks := tk }) → wpAny (model C.prog C.w) A (pyNext (.ref I)) Q E s
theorem Nx.mono {C : Cfg} {A : Around} {g g' : Gh} (l : g.le g') {I : Addr} {ty : String} {vs : List V} : ∀ {d : Data}, Nx C A g I ty vs d → Nx C A g' I ty vs d := by
  induction vs with
  | nil => exact fun n s Q E ho im k => n s Q E ho (fun a x e => im a x (l.1 a x e)) k
  | cons v r ih => exact fun n s Q E ho im k => n s Q E ho (fun a x e => im a x (l.1 a x e)) fun h' tk a d e1 e2 e3 e4 => k h' tk a d e1 e2 (e3.mono l) (ih e4)
theorem drop_cons {α : Type} {l : List α} {i : Nat} {x : α} {r : List α} (e : l.drop i = x :: r) : l[i]? = some x ∧ l.drop (i + 1) = r :=
  ⟨by rw [← List.head?_drop, e]; rfl, by rw [← List.tail_drop, e]; rfl⟩
theorem drop_nil {α : Type} {l : List α} {i : Nat} (e : l.drop i = []) : l[i]? = none := List.getElem?_eq_none (List.drop_eq_nil_iff.mp e)

section
variable {C : Cfg} {A : Around} {F : Fm} {g : Gh} {loc : L} {c : H} {s : Shared}
theorem Rel.imOK {h : Heap} (r : Rel C F g loc c h) : ImOK g h := r.im

theorem nx_list (hh : A.handled = none) {I a : Addr} {its : List Value} (ha : SeqIm g "list" a its) {vs : List V} : ∀ (i : Nat), VRs C g vs (its.drop i) → Nx C A g I "list_iterator" vs (.fields #[.ref a, .int i 0]) := by
  induction vs with
  | nil => exact fun i hv s Q E ho im k => wpAny_pyNext_list_end hh ho (im.seq ha) ((List.getElem?_toArray).trans (drop_nil hv)) k
  | cons v vs ih => exact fun i hv s Q E ho im k => hv.elim fun x q => q.elim fun xs q => wpAny_pyNext_list_item ho (im.seq ha) ((List.getElem?_toArray).trans (drop_cons q.1).1) fun h' hit hs => k h' s.toks x _ hs.extBut hit q.2.1 (ih (i + 1) ((drop_cons q.1).2 ▸ q.2.2))
theorem nx_tup (hh : A.handled = none) {I a : Addr} {its : List Value} (ha : SeqIm g "tuple" a its) {vs : List V} : ∀ (i : Nat), VRs C g vs (its.drop i) → Nx C A g I "tuple_iterator" vs (.fields #[.ref a, .int i 0]) := by
  induction vs with
  | nil => exact fun i hv s Q E ho im k => next_tuple_end hh ho (im.seq ha) ((List.getElem?_toArray).trans (drop_nil hv)) k
  | cons v vs ih => exact fun i hv s Q E ho im k => hv.elim fun x q => q.elim fun xs q => next_tuple_item ho (im.seq ha) ((List.getElem?_toArray).trans (drop_cons q.1).1) fun h' hit hs => k h' s.toks x _ hs.extBut hit q.2.1 (ih (i + 1) ((drop_cons q.1).2 ▸ q.2.2))

theorem str_iter (l : PySem.Str) : strIterType l = "str_ascii_iterator" ∨ strIterType l = "str_iterator" := by
  unfold strIterType
  split
  · exact .inl rfl
  · exact .inr rfl
theorem nx_str (hh : A.handled = none) {I : Addr} {l : List Nat} {t : Tok} {ty : String} (ht : ty = "str_ascii_iterator" ∨ ty = "str_iterator") (hv : TxtOK l) {m : List Nat} : ∀ (i : Nat), l.drop i = m → Nx C A g I ty (m.map fun z => .str [z]) (.fields #[.str (strOf l) t, .int i 0]) := by
  induction m with
  | nil => exact fun i e s Q E ho im k => ht.elim (fun q => wpAny_pyNext_ascii_end hh (q ▸ ho) ((List.getElem?_toArray).trans (drop_nil e)) k) fun q => wpAny_pyNext_wide_end hh (q ▸ ho) ((List.getElem?_toArray).trans (drop_nil e)) k
  | cons z m ih =>
    intro i e s Q E ho im k
    have hn : (strOf l).cps[i]? = some z := (List.getElem?_toArray).trans (drop_cons e).1
    have hz : TxtOK [z] := .one (hv.cps z (List.mem_of_getElem? (drop_cons e).1))
    exact ht.elim (fun q => wpAny_pyNext_ascii_item (q ▸ ho) hn fun h' hit hs => k h' _ _ _ hs.extBut (q ▸ hit) (.txt hz) (ih (i + 1) (drop_cons e).2)) fun q => wpAny_pyNext_wide_item (q ▸ ho) hn fun h' hit hs => k h' _ _ _ hs.extBut (q ▸ hit) (.txt hz) (ih (i + 1) (drop_cons e).2)

theorem next_range_item {it : Addr} {x left step : Int} {o : Obj} {Q : Option Value → Shared → Prop} {E : Value → Shared → Prop} (ho : s.heap.get? it = some o) (hc : o.cls = .type "range_iterator") (hd : o.data = .fields #[rawInt x, rawInt left, rawInt step]) (hleft : 0 < left)
    (hQ : ∀ h' o', h'.get? it = some o' → o'.cls = .type "range_iterator" → o'.data = .fields #[rawInt (x + step), rawInt (left - 1), rawInt step] → Heap.SameBut it s.heap h' → Q (some (.int x s.toks)) { s with heap := h', toks := s.toks + 1 }) :
    wpAny (model C.prog C.w) A (pyNext (.ref it)) Q E s := by
  have hT : s.TypeIs (.ref it) "range_iterator" := ⟨_, ho, hc⟩
  unfold pyNext
  refine wpAny_bind (wpAny_attempt (wpAny_callSpecial?_slot (name := Str.ofString "__next__") hT PySem.F.slot_range_iterator_next
    (wpAny_call_entry PySem.F.slot_range_iterator_next hT PySem.F.entry_range_iterator_next ?_ (PySem.F.args_range_iterator_next_1 _))))
  show wpAny _ _ (field (.ref it) 0 >>= _) _ _ s
  refine wpAny_bind (wpAny_field ho hd (x := rawInt x) rfl ?_)
  show wpAny _ _ (field (.ref it) 1 >>= _) _ _ s
  refine wpAny_bind (wpAny_field ho hd (x := rawInt left) rfl ?_)
  show wpAny _ _ (field (.ref it) 2 >>= _) _ _ s
  refine wpAny_bind (wpAny_field ho hd (x := rawInt step) rfl ?_)
  show wpAny _ _ (if left ≤ 0 then _ else _) _ _ s
  rw [if_neg (by omega)]
  have hd1 := Obj.data_mapFields hd (fun y => y.setIfInBounds 0 (rawInt (x + step)))
  have e1 := Heap.get?_update_self (Obj.mapFields fun y => y.setIfInBounds 0 (rawInt (x + step))) ho (Obj.isFreed_of_fields hd1)
  have hd2 := Obj.data_mapFields hd1 (fun y => y.setIfInBounds 1 (rawInt (left - 1)))
  have e2 := Heap.get?_update_self (Obj.mapFields fun y => y.setIfInBounds 1 (rawInt (left - 1))) e1 (Obj.isFreed_of_fields hd2)
  refine wpAny_bind (wpAny_setField ho hd (by simp) (wpAny_bind (wpAny_setField e1 hd1 (by simp) ?_)))
  refine wpAny_ret_mkInt (wpAny_pure (hQ _ _ e2 ((Obj.cls_mapFields ..).trans ((Obj.cls_mapFields ..).trans hc)) ?_ ((Heap.SameBut.update ..).trans (Heap.SameBut.update ..))))
  rw [hd2]; simp
theorem next_range_end {it : Addr} {x left step : Int} {o : Obj} {Q : Option Value → Shared → Prop} {E : Value → Shared → Prop} (hh : A.handled = none) (ho : s.heap.get? it = some o) (hc : o.cls = .type "range_iterator") (hd : o.data = .fields #[rawInt x, rawInt left, rawInt step]) (hleft : left ≤ 0)
    (hQ : ∀ h', Heap.ExtBut it s.heap h' → Q none { s with heap := h' }) : wpAny (model C.prog C.w) A (pyNext (.ref it)) Q E s := by
  have hT : s.TypeIs (.ref it) "range_iterator" := ⟨_, ho, hc⟩
  unfold pyNext
  refine wpAny_bind (wpAny_attempt (wpAny_callSpecial?_slot (name := Str.ofString "__next__") hT PySem.F.slot_range_iterator_next
    (wpAny_call_entry PySem.F.slot_range_iterator_next hT PySem.F.entry_range_iterator_next ?_ (PySem.F.args_range_iterator_next_1 _))))
  show wpAny _ _ (field (.ref it) 0 >>= _) _ _ s
  refine wpAny_bind (wpAny_field ho hd (x := rawInt x) rfl ?_)
  show wpAny _ _ (field (.ref it) 1 >>= _) _ _ s
  refine wpAny_bind (wpAny_field ho hd (x := rawInt left) rfl ?_)
  show wpAny _ _ (field (.ref it) 2 >>= _) _ _ s
  refine wpAny_bind (wpAny_field ho hd (x := rawInt step) rfl ?_)
  show wpAny _ _ (if left ≤ 0 then _ else _) _ _ s
  rw [if_pos hleft]
  refine wpAny_bind (wpAny_rule ?_)
  refine wpAny_bind ?_
  show wpAny _ _ (newExc (.type "StopIteration") [] >>= _) _ _ _
  refine wpAny_bind ?_
  simp only [newExc, newTuple]
  refine wpAny_bind (wpAny_newObj_type ?_ (by size_fits))
  refine wpAny_bind (m := firstArgMember _ _) (wpAny_of_eq (a := Value.none) (by first | rfl | (simp only [firstArgMember]; rfl)) ?_)
  refine wpAny_newObj_type ?_ (by size_fits)
  simp only [raiseNew]
  refine wpAny_bind (wpAny_handled ?_)
  first | rw [show A.in1.handled = none from hh] | rw [hh]
  refine wpAny_bind (wpAny_pure (wpAny_throw ?_))
  refine wpAny_bind (wpAny_isInstance (T := "StopIteration") (b := true) ⟨_, Heap.get?_push_size _ rfl, rfl⟩ isSubtype_stop ?_)
  exact wpAny_pure (hQ _ (((Heap.ExtBut.refl it s.heap).push _).push _))
theorem range_map (n : Nat) (a : Int) : ((List.range (n + 1)).map fun (i : Nat) => V.int (a + (i : Int))) = V.int a :: ((List.range n).map fun (i : Nat) => V.int (a + 1 + (i : Int))) := by
  rw [List.range_succ_eq_map, List.map_cons, List.map_map]
  exact congr (congrArg List.cons (congrArg V.int (Int.add_zero a))) (List.map_congr_left fun i _ => congrArg V.int ((congrArg (a + ·) (Int.natCast_succ i)).trans ((congrArg (a + ·) (Int.add_comm _ _)).trans (Int.add_assoc a 1 _).symm)))
theorem nx_range (hh : A.handled = none) {I : Addr} (n : Nat) : ∀ (a : Int), Nx C A g I "range_iterator" ((List.range n).map fun (i : Nat) => V.int (a + (i : Int))) (.fields #[rawInt a, rawInt (n : Int), rawInt 1]) := by
  induction n with
  | zero => exact fun a s Q E ho im k => ho.elim fun o ho => next_range_end hh ho.1 ho.2.1 ho.2.2 (Int.le_refl 0) k
  | succ n ih =>
    intro a
    rw [range_map]
    exact fun s Q E ho im k => ho.elim fun o ho => next_range_item ho.1 ho.2.1 ho.2.2 (Int.natCast_succ_pos n) fun h' o' e1 e2 e3 hs => k h' _ _ _ hs.extBut ⟨o', e1, e2, e3⟩ (.int _ _) ((show (((n + 1 : Nat) : Int) - 1) = (n : Int) from Int.add_sub_cancel (n : Int) 1) ▸ ih (a + 1))

theorem at_lst {v : V} {vs : List V} (e : listAt c v = some vs) (hn : isRefV v = false) : lstOf v = some vs := by
  cases v with
  | ref n => cases hn
  | _ => exact e
/-- an iterator for a value that does not turn -/
theorem iter_of (hh : A.handled = none) (r : Rel C F g loc c s.heap) {v : V} {a : Value} (hv : VR C g v a) (hn : isRefV v = false) {Q : Value → Shared → Prop} {E : Value → Shared → Prop} {vs : List V} (hi : items c v = some vs)
    (k : ∀ ty d, ownedNames.contains ty = false → Nx C A g s.heap.objs.size ty vs d → ({ cls := .type ty, data := d } : Obj).isFreed = false → Q (.ref s.heap.objs.size) { s with heap := s.heap.push { cls := .type ty, data := d } }) : wpAny (model C.prog C.w) A (pyIter a) Q E s :=
  pick_is hi (fun e => hv.isTup (W := fun a => wpAny _ A (pyIter a) Q E s) e fun p its h1 h2 _ => iter_tuple (r.tupAt h1) (k "tuple_iterator" _ (by decide) (nx_tup hh h1 0 h2) rfl)) fun hi =>
  pick_is hi (fun e => hv.isLst (W := fun a => wpAny _ A (pyIter a) Q E s) (at_lst e hn) fun p its h1 h2 _ => wpAny_pyIter_list (r.lstAt h1) (k "list_iterator" _ (by decide) (nx_list hh h1 0 h2) rfl)) fun hi =>
  map_is hi fun l e q => hv.isTxt (W := fun a => wpAny _ A (pyIter a) Q E s) e fun t h => wpAny_pyIter_strU (k (strIterType (strOf l)) _ ((str_iter _).elim (fun q => q ▸ by decide) fun q => q ▸ by decide) (q ▸ nx_str hh (str_iter _) h 0 rfl) rfl)
end
end Mine
end
section
set_option Elab.async false
set_option linter.all false
namespace Mine
open PySem PySem.Spec PySem.Calls PyProof.Rows

/-! frames with more that is kept -/
noncomputable def Fm.also (F : Fm) (p : Addr × Tri) : Fm := { F with keeps := p :: F.keeps }
noncomputable def triOf (o : Obj) : Tri := (o.cls, o.dict, o.data)

section
variable {C : Cfg} {A : Around} {F F' : Fm} {CS : Calls} {x : Cx} {g g' : Gh} {loc : L} {c : H} {h h' : Heap} {w : List Nat} {l : Int} {e : Addr}

theorem FmOK.also (ok : FmOK C F A) (p : Addr × Tri) : FmOK C (F.also p) A :=
  ⟨ok.hh, ok.fr, fun e he => ⟨(ok.frOK e he).1, (ok.frOK e he).2.imp fun _ k => ⟨k.1, k.2.imp id fun z => z.imp fun _ z => ⟨.tail _ z.1, z.2⟩⟩⟩, ok.kind, ok.glob, ok.blt, ok.uniq⟩
theorem FnOK.also (of : FnOK F) (p : Addr × Tri) : FnOK (F.also p) := ⟨of.top, of.frame⟩
theorem CxOK.also (ox : CxOK C F x) (p : Addr × Tri) : CxOK C (F.also p) x := ⟨ox.scope, ox.vars, ox.fns⟩

theorem mem_also {p : Addr × Tri} {P : Addr → Prop} (h0 : P p.1) (h : ∀ a ∈ places F g, P a) (a : Addr) (m : a ∈ places (F.also p) g) : P a :=
  (List.mem_cons.mp m).elim (fun q => h a (q ▸ .head _)) fun m => (List.mem_cons.mp m).elim (fun q => q ▸ h0) fun m => h a (.tail _ m)
theorem nodup_also {p : Addr × Tri} : (places (F.also p) g).Nodup ↔ (p.1 :: places F g).Nodup := (List.Perm.swap _ _ _).nodup_iff
theorem also_sub {p : Addr × Tri} {a : Addr} (m : a ∈ places F g) : a ∈ places (F.also p) g := (List.mem_cons.mp m).elim (fun q => q ▸ .head _) fun m => .tail _ (.tail _ m)
theorem Rel.addKeep (r : Rel C F g loc c h) {a : Addr} {o : Obj} (ho : h.get? a = some o) (off : Off C F g a) : Rel C (F.also (a, triOf o)) g loc c h :=
  ⟨r.base, r.im, fun p hp => (List.mem_cons.mp hp).elim (fun q => q ▸ ⟨o, ho, rfl, rfl, rfl⟩) (r.keep p), r.ns, r.clen, r.cell, mem_also off.1 r.new, nodup_also.mpr (List.nodup_cons.mpr ⟨off.2, r.apart⟩)⟩
theorem Rel.dropKeep {p : Addr × Tri} (r : Rel C (F.also p) g loc c h) : Rel C F g loc c h :=
  ⟨r.base, r.im, fun q hq => r.keep q (.tail _ hq), r.ns, r.clen, r.cell, fun a m => r.new a (also_sub m), (List.nodup_cons.mp (nodup_also.mp r.apart)).2⟩
theorem Rel.keptAt {a : Addr} {t : Tri} (r : Rel C (F.also (a, t)) g loc c h) : Off C F g a ∧ ∃ o, h.get? a = some o ∧ Obj.is o t :=
  ⟨⟨r.new a (.tail _ (.head _)), (List.nodup_cons.mp (nodup_also.mp r.apart)).1⟩, r.keep (a, t) (.head _)⟩
theorem Rel.turnKeep {a : Addr} {t : Tri} (r : Rel C (F.also (a, t)) g loc c h) (k : Heap.ExtBut a h h') {o' : Obj} (ho : h'.get? a = some o') : Rel C (F.also (a, triOf o')) g loc c h' :=
  (r.dropKeep.one k r.keptAt.1).addKeep ho r.keptAt.1
theorem Rel.weakLoc {loc' : L} (r : Rel C F g loc c h) (k : ∀ (i : Nat) (v : V), loc'[i]? = some (some v) → loc[i]? = some (some v)) : Rel C F g loc' c h :=
  { r with ns := r.ns.imp fun m q => ⟨q.1, fun i v e => q.2 i v (k i v e)⟩ }
theorem Rel.weak (r : Rel C F g loc c h) : Rel C F g [] c h := r.weakLoc fun i v e => nomatch e
/-- the exception, seen from another frame, or with another ghost -/
theorem ExcAt.to (hi : ∀ a x, g.im a = some x → g'.im a = some x) (ho : ∀ a, Off C F g a → Off C F' g' a) (y : ExcAt C F g w l e h) : ExcAt C F' g' w l e h :=
  ⟨ho e y.off, y.obj.imp fun d O => { O with im := O.im.imp fun _ q => q.imp fun _ => hi _ _, tb := O.tb.imp id fun q => q.imp fun t T => { T with off := ho _ T.off } }⟩
theorem ExcAt.dropKeep {p : Addr × Tri} (y : ExcAt C (F.also p) g w l e h) : ExcAt C F g w l e h := y.to (fun _ _ e => e) fun a q => ⟨q.1, fun m => q.2 (also_sub m)⟩

/-! statements -/
noncomputable def FlOK (C : Cfg) (F : Fm) (g : Gh) (c : H) (h : Heap) : Fl → Flow → Prop
  | .next loc, .next => Rel C F g loc c h
  | .ret v, .ret a => Rel C F g [] c h ∧ VR C g v a
  | _, _ => False
noncomputable def StSim (C : Cfg) (A : Around) (F : Fm) (CS : Calls) (N : Nat) (sts : List Stmt) (m : MS) : Prop := ∀ {g : Gh} {loc : L} {c : H} {s : Shared}, Rel C F g loc c s.heap → SimG C A F (FlOK C F) g s (execs sts F.env) (mex CS N m loc c)
noncomputable def S1Sim (C : Cfg) (A : Around) (F : Fm) (CS : Calls) (N : Nat) (st : Stmt) (m : MS) : Prop := ∀ {g : Gh} {loc : L} {c : H} {s : Shared}, Rel C F g loc c s.heap → SimG C A F (FlOK C F) g s (exec st F.env) (mex CS N m loc c)

variable {N : Nat} {s : Shared} {f : Flow}
theorem FlOK.isNext {loc : L} (x : FlOK C F g c h (.next loc) f) : f = .next ∧ Rel C F g loc c h := by
  cases f <;> first | exact ⟨rfl, x⟩ | exact x.elim
theorem FlOK.isRet {v : V} (x : FlOK C F g c h (.ret v) f) : ∃ a, f = .ret a ∧ Rel C F g [] c h ∧ VR C g v a := by
  cases f <;> first | exact ⟨_, rfl, x⟩ | exact x.elim

theorem st_nil : StSim C A F CS N [] .skip := fun {g loc c s} r Q E G => wpAny_execs_nil (G.done (h' := s.heap) (tk := s.toks) g.le_refl r)
/-- a statement, and what is done behind it -/
theorem SimG.seq {t : Sem Flow} {r₁ : R Fl} {K : L → H → R Fl} {Q Q' : Flow → Shared → Prop} {E E' : Value → Shared → Prop} (S : SimG C A F' (FlOK C F') g s t r₁) (G : Goal C F (FlOK C F) g s (r₁.bind fun f h => seqR f h K) Q E)
    (hE : ∀ g' h' tk w l c' e, Rel C F' g' [] c' h' → ExcAt C F' g' w l e h' → (∀ h₂, Rel C F g' [] c' h₂ → ExcAt C F g' w l e h₂ → E (.ref e) { s with heap := h₂, toks := tk }) → E' (.ref e) { s with heap := h', toks := tk })
    (hn : ∀ g₁ c₁ h₁ tk loc, g.le g₁ → Rel C F' g₁ loc c₁ h₁ → Goal C F (FlOK C F) g₁ { s with heap := h₁, toks := tk } (K loc c₁) Q E → Q' .next { s with heap := h₁, toks := tk })
    (hr : ∀ g₁ c₁ h₁ tk a, g.le g₁ → Rel C F' g₁ [] c₁ h₁ → (∀ h₂, Rel C F g₁ [] c₁ h₂ → Q (.ret a) { s with heap := h₂, toks := tk }) → Q' (.ret a) { s with heap := h₁, toks := tk }) : wpAny (model C.prog C.w) A t Q' E' s :=
  S.stepE G hE fun g₁ c₁ h₁ tk fl f l x G => by
    cases fl with
    | next loc1 => exact x.isNext.1 ▸ hn g₁ c₁ h₁ tk loc1 l x.isNext.2 G
    | ret v => exact x.isRet.elim fun a q => q.1 ▸ hr g₁ c₁ h₁ tk a l q.2.1 fun h₂ r₂ => G.done (tk := tk) g₁.le_refl (a := .ret a) ⟨r₂, q.2.2⟩
theorem st_cons {st : Stmt} {rest : List Stmt} {m mr : MS} (h1 : S1Sim C A F CS N st m) (h2 : StSim C A F CS N rest mr) : StSim C A F CS N (st :: rest) (.seq m mr) := fun {g loc c s} r Q E G =>
  wpAny_execs_cons ((h1 r).seq G (fun _ _ _ _ _ _ _ r x q => q _ r x) (fun _ _ _ _ _ _ r1 G => h2 r1 _ _ G) fun _ _ _ _ _ _ r1 k => k _ r1)

theorem kind_local (ox : CxOK C F x) {n : PySem.Str} (h : isLocal x n = true) : F.env.kindOf n = some .local := (congrArg (fun sc : Scope => sc.names.lookup n) ox.scope).trans (beq_is (and_l h))
theorem store_local {M : Model} (ok : FmOK C F A) (ox : CxOK C F x) {n : PySem.Str} {i : Nat} (hl : isLocal x n = true) (hi : x.vars[i]? = some n) (r : Rel C F g loc c s.heap) {v : V} {a : Value} (hv : VR C g v a) {Q : Unit → Shared → Prop} {E : Value → Shared → Prop}
    (hq : ∀ h' tk, Rel C F g (loc.set i (some v)) c h' → Q () { s with heap := h', toks := tk }) : wpAny M A (storeName F.env n a) Q E s :=
  r.ns.elim fun m q => wpAny_storeName_local (kind_local ox hl) q.1 (fun h' hn hs => hq h' _ (r.store q.2 (ox.vars ▸ hi) (kind_local ox hl) ok.uniq hv hn hs)) (by rw [ok.kind]; rfl)

noncomputable def noComp : Expr → Bool | .ListComp .. => false | .SetComp .. => false | .DictComp .. => false | _ => true
theorem noComp_swaps {e : Expr} (h : noComp e = true) (t : Option Expr) (l : Nat) (env : Env) : swapsWith e t l env = pure false := by
  cases e <;> first | rfl | (cases h)

theorem s_assign (ok : FmOK C F A) (ox : CxOK C F x) {n : PySem.Str} {i : Nat} {e : Expr} {m : ME} {np pos : Pos} (hl : isLocal x n = true) (hi : x.vars[i]? = some n) (hc : noComp e = true) (h : EvSim C A F CS e m) : S1Sim C A F CS N (.Assign [.Name n np] e pos) (.assign i m) := fun r Q E G =>
  wpAny_Assign_Name ((h r).step G fun g1 _ _ _ _ _ _ r1 p1 G => store_local ok ox hl hi r1 p1 fun h' tk r' => G.done (a := .next) g1.le_refl r') (noComp_swaps hc _ _ _)
theorem slot_at {n : PySem.Str} {i : Nat} (h : isSlot x n i = true) : x.vars[i]? = some n := beq_is (and_l h)
theorem s_aug (ok : FmOK C F A) (ox : CxOK C F x) {n : PySem.Str} {i : Nat} {o : BO} {e : Expr} {m : ME} {np pos : Pos} (hs : isSlot x n i = true) (hl : isLocal x n = true) (h : EvSim C A F CS e m) : S1Sim C A F CS N (.AugAssign (.Name n np) .Add e pos) (.aug i o m) := fun r Q E G =>
  G.o_in.opt fun v ev G => wpAny_AugAssign_Name (load_var ok ox hs r ev fun a p => (h r).step G fun g1 _ _ _ _ a1 _ r1 p1 G => G.opt fun i1 e1 G => G.opt fun i2 e2 G =>
    p.isInt (W := fun a => wpAny _ A (inplaceOp .Add a a1) _ E _) e1 fun t => p1.isInt (W := fun a1 => wpAny _ A (inplaceOp .Add (.int i1 t) a1) _ E _) e2 fun u =>
    wpAny_iadd_int (store_local (s := ⟨_, _, _, _, _⟩) ok ox hl (slot_at hs) r1 (.int _ _) fun h' tk r' => G.done (a := .next) g1.le_refl r'))

theorem s_if {t : Expr} {a b : List Stmt} {mt : ME} {ma mb : MS} {pos : Pos} (ht : TsSim C A F CS t mt) (ha : StSim C A F CS N a ma) (hb : StSim C A F CS N b mb) : S1Sim C A F CS N (.If t a b pos) (.ite mt ma mb) := fun {_ loc _ _} r Q E G =>
  wpAny_If (ht (k := fun t h => if t = true then mex CS N ma loc h else mex CS N mb loc h) r G fun _ _ _ _ b l r G => by
    cases b with
    | true => exact ha r _ _ G
    | false => exact hb r _ _ G)

theorem s_ret {e : Expr} {m : ME} {pos : Pos} (h : EvSim C A F CS e m) : S1Sim C A F CS N (.Return (some e) pos) (.ret m) := fun r Q E G =>
  wpAny_Return_some ((h r).step G fun g1 _ h1 tk _ a _ r1 p1 G => G.done (tk := tk) (a := .ret a) g1.le_refl ⟨r1.weak, p1⟩)
theorem s_expr (ok : FmOK C F A) {e : Expr} {m : ME} {pos : Pos} (hc : noComp e = true) (h : EvSim C A F CS e m) : S1Sim C A F CS N (.Expr e pos) (.expr m) := fun r Q E G =>
  wpAny_Expr_any ((h r).step G fun g1 _ h1 tk _ _ _ r1 p1 G => G.done (tk := tk) (a := .next) g1.le_refl r1) (by unfold interactive; rw [ok.kind]; rfl) (noComp_swaps hc _ _ _)

/-- a while -/
theorem s_while (ok : FmOK C F A) (of : FnOK F) {t : Expr} {b : List Stmt} {mt : ME} {mb : MS} {pos : Pos} (ht : TsSim C A F CS t mt) (hb : StSim C A F CS N b mb) : S1Sim C A F CS N (.While t b [] pos) (.while mt mb) := fun {g loc c s} r Q E G =>
  wpAny_While (codeAny_whileLoop (fun n s' => ∃ g loc c, Rel C F g loc c s'.heap ∧ Goal C F (FlOK C F) g s' (wloop (mev CS mt) (mex CS N mb) n loc c) Q E) (fun n s' I => I.elim fun g I => I.elim fun loc I => I.elim fun c I => by
    cases n with
    | zero => exact I.2.no
    | succ n =>
      refine TsG.stepE (k := fun t h => if t = true then (mex CS N mb loc h).bind fun f h => seqR f h (wloop (mev CS mt) (mex CS N mb) n) else .ok (.next loc) h) ht I.1 I.2 (fun _ _ _ _ _ _ _ r x k => exc_loop (s := ⟨_, _, _, _, _⟩) ok of r x k) fun g1 c1 h1 tk b l r1 G => ?_
      cases b with
      | false => exact wpAny_execs_nil (G.done (tk := tk) (a := .next) g1.le_refl r1)
      | true =>
        exact (hb r1).seq G (fun _ _ _ _ _ _ _ r x k => exc_loop (s := ⟨_, _, _, _, _⟩) ok of r x k) (fun g2 c2 h2 tk2 loc' _ r2 G => ⟨n, Nat.lt_succ_self n, g2, loc', c2, r2, G⟩) fun _ _ _ _ _ _ r2 k => k _ r2) N ⟨g, loc, c, r, G⟩)
end
end Mine
end
section
set_option Elab.async false
set_option linter.all false
set_option genInjectivity false
namespace Mine
open PySem PySem.Spec PySem.Calls PyProof.Rows

section
variable {C : Cfg} {A : Around} {F : Fm} {CS : Calls} {x : Cx} {g : Gh} {loc : L} {c : H} {h h' : Heap} {N : Nat} {s : Shared}

theorem own_tup {I : Addr} {o : Obj} {ty : String} {v : Value} {M : Model} {Q : Unit → Shared → Prop} {E : Value → Shared → Prop} (ho : s.heap.get? I = some o) (hc : o.cls = .type ty) (hb : ownedNames.contains ty = false) (hq : Q () s) :
    wpAny M A (do
      let (.ref r, .ref a) := ((Value.ref I), v) | return
      let o ← load r
      match o.cls, o.data with
      | .type n, .fields vs =>
        if ["enumerate", "zip", "dict_itemiterator", "dict_reverseitemiterator", "odict_iterator", "itertools.zip_longest", "itertools.pairwise"].contains n && vs[0]? == some (rawInt a) then
          rule "for.unpacks-the-owned-tuple"
          updateField r 0 .none
      | _, _ => pure ()) Q E s := by
  cases v with
  | ref a =>
    refine wpAny_bind (wpAny_load ho ?_)
    rw [hc]
    cases o.data with
    | fields vs => exact iteInduction (motive := fun t => wpAny M A t Q E s) (fun q => nomatch hb.symm.trans (and_l q)) fun _ => wpAny_pure hq
    | _ => exact wpAny_pure hq
  | _ => exact wpAny_pure hq
theorem own_go {I : Addr} {o : Obj} {ty : String} {target : Expr} {v : Value} {M : Model} {Q : Unit → Shared → Prop} {E : Value → Shared → Prop} (ho : s.heap.get? I = some o) (hc : o.cls = .type ty) (hb : ownedNames.contains ty = false) (hq : Q () s) : wpAny M A (letOwnedTupleGo target (.ref I) v) Q E s := by
  cases target <;> first | exact wpAny_pure hq | exact own_tup ho hc hb hq

/-- a target that names locals -/
noncomputable def tgtOK (x : Cx) : List Expr → List Nat → Bool
  | [], [] => true
  | e :: r, i :: is => xName e fun n _ => isLocal x n && (x.vars[i]? == some n && tgtOK x r is)
  | _, _ => false
theorem assign_names (ok : FmOK C F A) (ox : CxOK C F x) {M : Model} {elts : List Expr} : ∀ {is : List Nat} {vs : List V} {vals : List Value} {loc loc' : L} {s : Shared}, tgtOK x elts is = true → VRs C g vs vals → setAll is vs loc = some loc' → Rel C F g loc c s.heap →
    ∀ {Q : Unit → Shared → Prop} {E : Value → Shared → Prop}, (∀ h' tk, Rel C F g loc' c h' → Q () { s with heap := h', toks := tk }) → wpAny M A (assignInOrder ((assignEach elts F.env).map (·.2)) vals) Q E s := by
  induction elts with
  | nil =>
    intro is vs vals loc loc' s ht hv hs r Q E hq
    cases is with
    | cons => cases ht
    | nil => cases vs with
      | cons => cases hs
      | nil => exact (show vals = [] from hv) ▸ wpAny_pure (hq s.heap s.toks (Option.some.inj hs ▸ r))
  | cons e elts ih =>
    intro is vs vals loc loc' s ht hv hs r Q E hq
    cases is with
    | nil => cases ht
    | cons i is => cases vs with
      | nil => cases hs
      | cons v vs => exact hv.elim fun a hv => hv.elim fun vals hv => hv.1 ▸ xName_is (P := fun e => wpAny M A (assignInOrder ((assignEach (e :: elts) F.env).map (·.2)) (a :: vals)) Q E s) ht fun n p ht => wpAny_bind (wpAny_holding (assign_Name (store_local ok ox (and_l ht) (beq_is (and_l (and_r ht))) r hv.2.1 fun h' tk r' => ih (s := { s with heap := h', toks := tk }) (and_r (and_r ht)) hv.2.2 hs r' fun h2 tk2 r2 => hq h2 tk2 r2)))
theorem tgt_len {env : Env} {elts : List Expr} : ∀ {is : List Nat}, tgtOK x elts is = true → (assignEach elts env).length = is.length ∧ (assignEach elts env).findIdx? (·.1) = none := by
  induction elts with
  | nil => exact fun {is} ht => match is, ht with | [], _ => ⟨rfl, rfl⟩
  | cons e elts ih =>
    intro is ht
    cases is with
    | nil => cases ht
    | cons i is =>
      refine xName_is (P := fun e => (assignEach (e :: elts) env).length = (i :: is).length ∧ (assignEach (e :: elts) env).findIdx? (·.1) = none) ht fun n p ht => ?_
      have q := ih (and_r (and_r ht))
      refine ⟨congrArg (· + 1) q.1, ?_⟩
      show List.findIdx? _ ((false, assign (.Name n p) env) :: assignEach elts env) = none
      rw [List.findIdx?_cons, q.2]; rfl
theorem setAll_len {is : List Nat} : ∀ {vs : List V} {loc loc' : L}, setAll is vs loc = some loc' → is.length = vs.length := by
  induction is with
  | nil => intro vs loc loc' h; cases vs with
    | nil => rfl
    | cons => cases h
  | cons i is ih => intro vs loc loc' h; cases vs with
    | nil => cases h
    | cons v vs => exact congrArg (· + 1) (ih h)
theorem Rel.ext (r : Rel C F g loc c s.heap) (he : Heap.ExtBut s.heap.objs.size s.heap h') : Rel C F g loc c h' := r.one he r.fresh
theorem assign_tup (ok : FmOK C F A) (ox : CxOK C F x) {elts : List Expr} {is : List Nat} {k : Nat} {pos : Pos} {v : V} {ws : List V} {a : Value} {loc' : L} (ht : tgtOK x elts is = true) (hv : VR C g v a) (e : tupOf v = some ws) (hs : setAll is ws loc = some loc') (r : Rel C F g loc c s.heap)
    {Q : Unit → Shared → Prop} {E : Value → Shared → Prop} (hq : ∀ h' tk, Rel C F g loc' c h' → Q () { s with heap := h', toks := tk }) : wpAny (model C.prog C.w) A (assign (.Tuple elts k pos) F.env a) Q E s :=
  hv.isTup (W := fun a => wpAny (model C.prog C.w) A (assign (.Tuple elts k pos) F.env a) Q E s) e fun p its h1 h2 _ =>
    assign_Tuple_tuple ok.hh (r.tupAt h1) ((tgt_len ht).1.trans ((setAll_len hs).trans h2.length.symm)) (tgt_len ht).2 fun h' he => assign_names (s := { s with heap := h' }) ok ox ht h2 hs (r.ext he) hq

noncomputable def notTup : Expr → Bool | .Tuple .. => false | _ => true
theorem notTup_swap {e : Expr} (h : notTup e = true) {elts : List Expr} {k : Nat} {tp : Pos} {env : Env} : swappedStores [.Tuple elts k tp] e env = pure none := by cases e <;> first | rfl | (cases h)
theorem s_unpack (ok : FmOK C F A) (ox : CxOK C F x) {elts : List Expr} {is : List Nat} {e : Expr} {m : ME} {k : Nat} {tp pos : Pos} (ht : tgtOK x elts is = true) (hc : noComp e = true) (hn : notTup e = true) (h : EvSim C A F CS e m) : S1Sim C A F CS N (.Assign [.Tuple elts k tp] e pos) (.unpack is m) := fun r Q E G =>
  Assign_Tuple ((h r).step G fun g1 _ _ _ _ _ _ r1 p1 G => G.opt fun ws e G => G.opt fun loc' hs G => assign_tup ok ox ht p1 e hs r1 fun h' tk r' => G.done (a := .next) g1.le_refl r') (show swapsWithSole _ e pos.line F.env = pure false by unfold swapsWithSole; exact noComp_swaps hc _ _ _) (notTup_swap hn)

theorem two_names {n1 n2 : PySem.Str} (hne : n1 ≠ n2) {l : List PySem.Str} (e : l = [n1, n2]) : (l.length != 2 || l.eraseDups.length != l.length) = false := by
  subst e
  rw [List.eraseDups_cons, List.filter_cons, show (!n2 == n1) = true from congrArg (!·) (beq_eq_false_iff_ne.mpr (Ne.symm hne))]
  rfl
theorem names_two {n1 n2 : PySem.Str} {e1 e2 : Expr} {f : Expr → Option PySem.Str} (h1 : f e1 = some n1) (h2 : f e2 = some n2) : List.filterMap f [e1, e2] = [n1, n2] := by rw [List.filterMap_cons_some h1, List.filterMap_cons_some h2]; rfl
theorem swapped_eq {n1 n2 : PySem.Str} {p1 p2 : Pos} {k k2 : Nat} {tp vp : Pos} {v1 v2 : Expr} {env : Env} (hbk : env.blockKind = .function) (h1 : env.kindOf n1 = some .local) (h2 : env.kindOf n2 = some .local) (hl : p2.line = p1.line) (hne : n1 ≠ n2)
    (hs : [v1, v2].all notStar = true) (hf : [v1, v2].all (foldedForSure 8) = false) (hc : [v1, v2].all (constantsAlone 8) = false) :
    swappedStores [.Tuple [.Name n1 p1, .Name n2 p2] k tp] (.Tuple [v1, v2] k2 vp) env = pure (some [n1, n2]) := by
  have c1 : (env.kindOf n1 == some .local && p1.line == p1.line) = true := Bool.and_eq_true_iff.mpr ⟨beq_iff_eq.mpr h1, beq_self_eq_true _⟩
  have c2 : (env.kindOf n2 == some .local && p2.line == p1.line) = true := Bool.and_eq_true_iff.mpr ⟨beq_iff_eq.mpr h2, beq_iff_eq.mpr hl⟩
  refine (if_neg (fun q => ?_)).trans ((if_neg (fun q => ?_)).trans ((if_neg (fun q => ?_)).trans ((if_neg (fun q => ?_)).trans ((if_neg (fun q => ?_)).trans (congrArg (fun l => pure (some l)) (names_two (if_pos c1) (if_pos c2)))))))
  · exact Bool.false_ne_true ((show (env.blockKind != .function) = false by rw [hbk]; rfl).symm.trans q)
  · exact Bool.false_ne_true ((show (isStarE v1 || (isStarE v2 || false)) = false by rw [not_is (and_l hs), not_is (and_l (and_r hs))]; rfl).symm.trans q)
  · exact Bool.false_ne_true ((two_names hne (names_two (if_pos c1) (if_pos c2))).symm.trans q)
  · exact Bool.false_ne_true (hf.symm.trans q)
  · exact Bool.false_ne_true (hc.symm.trans q)

theorem pair_stores (ok : FmOK C F A) (ox : CxOK C F x) {n1 n2 : PySem.Str} {i j : Nat} (hl1 : isLocal x n1 = true) (hi1 : x.vars[i]? = some n1) (hl2 : isLocal x n2 = true) (hi2 : x.vars[j]? = some n2) {v1 v2 : V} {a1 a2 : Value} (r : Rel C F g loc c s.heap) (p1 : VR C g v1 a1) (p2 : VR C g v2 a2) {Q : Flow → Shared → Prop} {E : Value → Shared → Prop}
    (G : Goal C F (FlOK C F) g s (.ok (.next ((loc.set j (some v2)).set i (some v1))) c) Q E) :
    wpAny (model C.prog C.w) A (unpackItems (.ref s.heap.objs.size) [n1, n2].length none) (fun items s₂ => wpAny (model C.prog C.w) A (assignInOrder ([n1, n2].reverse.map fun n => bindName F.env n) items.reverse) (fun _ => Q .next) E s₂) E { s with heap := s.heap.push { cls := .type "tuple", data := .seq [a1, a2].toArray } } :=
  unpackItems_tuple (s := { s with heap := _ }) (items := [a1, a2].toArray) ok.hh ⟨_, Heap.get?_push_size _ rfl, rfl, 0, rfl⟩ fun h3 he =>
  have r3 := Rel.ext (s := { s with heap := _ }) (r.push { cls := .type "tuple", data := .seq [a1, a2].toArray }) he
  wpAny_bind (wpAny_holding (bindName_ (store_local (s := { s with heap := h3 }) ok ox hl2 hi2 r3 p2 fun h4 tk4 r4 =>
    wpAny_bind (wpAny_holding (bindName_ (store_local (s := { s with heap := h4, toks := tk4 }) ok ox hl1 hi1 r4 p1 fun h5 tk5 r5 => wpAny_pure (G.done (a := .next) g.le_refl r5)))))))
theorem s_pair (ok : FmOK C F A) (ox : CxOK C F x) {n1 n2 : PySem.Str} {i j : Nat} {e1 e2 : Expr} {m1 m2 : ME} {k k2 : Nat} {p1 p2 tp vp pos : Pos} (hl1 : isLocal x n1 = true) (hi1 : x.vars[i]? = some n1) (hl2 : isLocal x n2 = true) (hi2 : x.vars[j]? = some n2) (hl : p2.line = p1.line) (hne : n1 ≠ n2)
    (hs : [e1, e2].all notStar = true) (hf : [e1, e2].all (foldedForSure 8) = false) (hc : [e1, e2].all (constantsAlone 8) = false) (h1 : EvSim C A F CS e1 m1) (h2 : EvSim C A F CS e2 m2) :
    S1Sim C A F CS N (.Assign [.Tuple [.Name n1 p1, .Name n2 p2] k tp] (.Tuple [e1, e2] k2 vp) pos) (.pair i j m1 m2) := fun r Q E G =>
  Assign_Tuple_swapped (wpAny_Tuple (wpAny_items_cons ((h1 r).step G fun _ _ _ _ _ a1 _ r1 p1 G => wpAny_items_cons ((h2 r1).step G fun g2 _ hp2 t2 _ a2 l2 r2 p2 G => wpAny_items_nil ⟨(by decide : 2 ≤ sizeLine), pair_stores (s := ⟨_, _, _, _, _⟩) ok ox hl1 hi1 hl2 hi2 r2 (p1.mono l2) p2 G⟩) (starEach_cons (and_l (and_r hs)))) (starEach_cons (and_l hs))))
    rfl (swapped_eq (show F.env.blockKind = .function by unfold Env.blockKind; rw [ok.kind]; rfl) (kind_local ox hl1) (kind_local ox hl2) hl hne hs hf hc)

/-! for -/
noncomputable def TgtSim (C : Cfg) (A : Around) (F : Fm) (target : Expr) (tgt : V → L → Option L) : Prop := ∀ p {g : Gh} {loc loc' : L} {c : H} {s : Shared} {v : V} {a : Value}, Rel C (F.also p) g loc c s.heap → VR C g v a → tgt v loc = some loc' →
  ∀ {Q : Unit → Shared → Prop} {E : Value → Shared → Prop}, (∀ h' tk, Rel C (F.also p) g loc' c h' → Q () { s with heap := h', toks := tk }) → wpAny (model C.prog C.w) A (assign target F.env a) Q E s
noncomputable def bodyF (CS : Calls) (N : Nat) (mb : MS) (tgt : V → L → Option L) (v : V) (loc : L) (h : H) : R Fl := ofK (tgt v loc) fun loc => mex CS N mb loc h
structure ForI (C : Cfg) (A : Around) (F : Fm) (I : Addr) (ty : String) (body : V → L → H → R Fl) (Q : Flow → Shared → Prop) (E : Value → Shared → Prop) (g : Gh) (loc : L) (c : H) (vs : List V) (o : Obj) (n : Nat) (s : Shared) : Prop where
  get : s.heap.get? I = some o
  cls : o.cls = .type ty
  nx : Nx C A g I ty vs o.data
  rel : Rel C (F.also (I, triOf o)) g loc c s.heap
  goal : Goal C F (FlOK C F) g s (floop body vs loc c) Q E
  len : n = vs.length
theorem for_loop (ok : FmOK C F A) (of : FnOK F) {I : Addr} {ty : String} {target : Expr} {b : List Stmt} {mb : MS} {tgt : V → L → Option L} (hT : TgtSim C A F target tgt) (hB : ∀ p, StSim C A (F.also p) CS N b mb) (hc : ownedNames.contains ty = false) {vs : List V} {o : Obj} {Q : Flow → Shared → Prop} {E : Value → Shared → Prop}
    (X : ForI C A F I ty (bodyF CS N mb tgt) Q E g loc c vs o vs.length s) : codeAny (model C.prog C.w) A (.forLoop target (.ref I) b [] F.env) (fun r s' => match r with | .ok f => Q f s' | .error e => cameBackBy (model C.prog C.w) A F.env E e s') s :=
  codeAny_forLoop_any (fun n s' => ∃ g loc c vs o, ForI C A F I ty (bodyF CS N mb tgt) Q E g loc c vs o n s') (fun n s' X => X.elim fun g X => X.elim fun loc X => X.elim fun c X => X.elim fun vs X => X.elim fun o X => by
    cases vs with
    | nil => exact X.nx s' _ _ ⟨o, X.get, X.cls, rfl⟩ X.rel.imOK fun h' he => wpAny_execs_nil (X.goal.done (tk := s'.toks) (a := .next) g.le_refl (X.rel.dropKeep.one he X.rel.keptAt.1))
    | cons v vs => exact X.nx s' _ _ ⟨o, X.get, X.cls, rfl⟩ X.rel.imOK fun h' tk a d' he ho' hv n2 => ho'.elim fun o' ho' => own_go (s := { s' with heap := h', toks := tk }) ho'.1 ho'.2.1 hc (Goal.o_in X.goal |>.opt fun loc2 ht G =>
        hT _ (s := { s' with heap := h', toks := tk }) (X.rel.turnKeep he ho'.1) hv ht fun h3 tk3 r3 => (hB _ r3).seq (s := { s' with heap := h3, toks := tk3 }) (G.move g.le_refl) (fun _ _ _ _ _ _ _ r x k => exc_loop (s := ⟨_, _, _, _, _⟩) ok of r.dropKeep x.dropKeep k)
          (fun g4 c4 h4 tk4 loc4 l4 r4 G => r4.keptAt.2.elim fun o4 q => ⟨vs.length, X.len ▸ Nat.lt_succ_self _, g4, loc4, c4, vs, o4, q.1, q.2.1.trans ho'.2.1, (q.2.2.2.trans ho'.2.2) ▸ n2.mono l4, r4.dropKeep.addKeep q.1 r4.keptAt.1, G, rfl⟩)
          fun _ _ _ _ _ _ r4 k => k _ r4.dropKeep)) vs.length ⟨g, loc, c, vs, o, X⟩

noncomputable def notSet : Expr → Bool | .Set .. => false | _ => true
theorem fold_noset {iter : Expr} (h : notSet iter = true) (env : Env) (x : Value) : foldedSetIterable iter env x = pure x := by
  cases iter <;> first | rfl | (cases h)
theorem s_for_gen (ok : FmOK C F A) (of : FnOK F) {target it : Expr} {b : List Stmt} {mi : ME} {mb : MS} {tgt : V → L → Option L} {pos : Pos} {ms : MS} (hset : notSet it = true) (hT : TgtSim C A F target tgt) (hB : ∀ p, StSim C A (F.also p) CS N b mb) (hi : EvSim C A F CS it mi)
    (hms : ∀ loc c, mex CS N ms loc c = (mev CS mi loc c).bind fun v h => if isRefV v = true then .stuck else itemsR (items h v) fun vs => floop (bodyF CS N mb tgt) vs loc h) : S1Sim C A F CS N (.For target it b [] pos) ms := fun {g loc c s} r Q E G =>
  wpAny_For ((hi r).step (hms loc c ▸ G) fun g1 c1 h1 t1 v1 _ _ r1 p1 G => by
    cases hrf : isRefV v1 with
    | true => rw [hrf] at G; exact G.no
    | false =>
      rw [hrf] at G
      exact Goal.opt G fun vs hit G => iter_of (s := { s with heap := h1, toks := t1 }) ok.hh r1 p1 hrf hit fun ty d hc n1 hf => for_loop (s := { s with heap := _, toks := t1 }) ok of hT hB hc ⟨Heap.get?_push_size h1 hf, rfl, n1, (r1.push _).addKeep (Heap.get?_push_size h1 hf) r1.fresh, G.move g1.le_refl, rfl⟩) (fold_noset hset _)
theorem tgt_name (ok : FmOK C F A) (ox : CxOK C F x) {n : PySem.Str} {i : Nat} {np : Pos} (hl : isLocal x n = true) (hi : x.vars[i]? = some n) : TgtSim C A F (.Name n np) fun v loc => some (loc.set i (some v)) :=
  fun p {_ _ _ _ _ _ _} r hv ht {_ _} hq => assign_Name (store_local (F := F.also p) (ok.also p) (ox.also p) hl hi r hv (Option.some.inj ht ▸ hq))
theorem s_for (ok : FmOK C F A) (of : FnOK F) (ox : CxOK C F x) {n : PySem.Str} {i : Nat} {it : Expr} {b : List Stmt} {mi : ME} {mb : MS} {np pos : Pos} (hset : notSet it = true) (hl : isLocal x n = true) (hi : x.vars[i]? = some n) (hB : ∀ p, StSim C A (F.also p) CS N b mb) (h : EvSim C A F CS it mi) :
    S1Sim C A F CS N (.For (.Name n np) it b [] pos) (.for i mi mb) := s_for_gen ok of hset (tgt_name ok ox hl hi) hB h fun _ _ => rfl
theorem s_forT (ok : FmOK C F A) (of : FnOK F) (ox : CxOK C F x) {elts : List Expr} {is : List Nat} {it : Expr} {b : List Stmt} {mi : ME} {mb : MS} {k : Nat} {np pos : Pos} (hset : notSet it = true) (ht : tgtOK x elts is = true) (hB : ∀ p, StSim C A (F.also p) CS N b mb) (h : EvSim C A F CS it mi) :
    S1Sim C A F CS N (.For (.Tuple elts k np) it b [] pos) (.forT is mi mb) :=
  s_for_gen (tgt := fun v loc => (tupOf v).bind fun ws => setAll is ws loc) ok of hset (fun p {_ _ _ _ _ _ _} r hv hs {_ _} hq => bind_is hs fun ws e hs => assign_tup (F := F.also p) (ok.also p) (ox.also p) ht hv e hs r hq) hB h fun _ _ => rfl
end
end Mine
end
section
set_option Elab.async false
set_option linter.all false
namespace Mine
open PySem PySem.Spec PySem.Calls PyProof.Rows

section
variable {C : Cfg} {A : Around} {F : Fm} {CS : Calls} {x : Cx} {g : Gh} {loc : L} {c : H} {h h' : Heap} {N : Nat} {s : Shared}

theorem range_go (ok : FmOK C F A) (of : FnOK F) (ox : CxOK C F x) {n : PySem.Str} {i : Nat} {b : List Stmt} {mb : MS} {np : Pos} (hl : isLocal x n = true) (hi : x.vars[i]? = some n) (hB : ∀ p, StSim C A (F.also p) CS N b mb)
    {a b' : Int} {t u v : Tok} (r : Rel C F g loc c s.heap) {Q : Flow → Shared → Prop} {E : Value → Shared → Prop} (hb : -1000 < a ∧ a < big ∧ b' < big ∧ -1000 < b')
    (G : Goal C F (FlOK C F) g s (floop (fun v loc h => mex CS N mb (loc.set i (some v)) h) ((List.range (b' - a).toNat).map fun (i : Nat) => V.int (a + (i : Int))) loc c) Q E) (tk : Nat) :
    wpAny (model C.prog C.w) A (pyIter (.ref s.heap.objs.size)) (fun it s₂ => codeAny (model C.prog C.w) A (.forLoop (.Name n np) it b [] F.env) (fun r s' => match r with | .ok f => Q f s' | .error e => cameBackBy (model C.prog C.w) A F.env E e s') s₂) E
      { s with heap := s.heap.push { cls := .type "range", data := .fields #[.int a t, .int b' u, .int 1 v] }, toks := tk } := by
  have hbig : (big : Int) = 1048576 := rfl
  refine wpAny_pyIter_range (IsRange.new _ _ _ _ _ _ _) (small_one (by omega) (by omega) (by omega) (by omega)) ?_
  rw [rangeSize_one, show (if a < b' then b' - a else 0) = (((b' - a).toNat : Nat) : Int) by split <;> omega]
  have r2 := r.push { cls := .type "range", data := .fields #[.int a t, .int b' u, .int 1 v] }
  exact for_loop (s := ⟨_, _, _, _, _⟩) ok of (tgt_name ok ox hl hi) hB (ty := "range_iterator") (by decide) ⟨Heap.get?_push_size _ rfl, rfl, nx_range ok.hh _ a, (r2.push _).addKeep (Heap.get?_push_size _ rfl) r2.fresh, G.move g.le_refl, rfl⟩
theorem s_forR2 (ok : FmOK C F A) (oc : CfgX C) (of : FnOK F) (ox : CxOK C F x) {n : PySem.Str} {i : Nat} {e1 e2 : Expr} {b : List Stmt} {m1 m2 : ME} {mb : MS} {np rp cp pos : Pos} (hl : isLocal x n = true) (hi : x.vars[i]? = some n) (hr : isBlt x "range" (.type "range") = true) (hs : [e1, e2].all notStar = true) (hB : ∀ p, StSim C A (F.also p) CS N b mb) (h1 : EvSim C A F CS e1 m1) (h2 : EvSim C A F CS e2 m2) :
    S1Sim C A F CS N (.For (.Name n np) (.Call (.Name "range" rp) [e1, e2] [] cp) b [] pos) (.forR i m1 m2 mb) := fun r Q E G =>
  wpAny_For (Call_Name (blt_name ok oc ox hr r (callWith_mach rfl (backTo_any hs) (evalArgs_es hs (wpAny_items_cons ((h1 r).step G fun _ _ _ _ _ a1 _ r1 p1 G => wpAny_items_cons ((h2 r1).step G fun _ _ _ _ _ a2 l2 r2 p2 G => wpAny_items_nil
    (G.ints2 (W2 := fun a1 a2 => wpAny _ A (call (.type "range") [a1, a2] []) _ E _) (p1.mono l2) p2 fun i t n u G => G.oif fun hb G => call_range_2 (range_go (s := ⟨_, _, _, _, _⟩) ok of ox hl hi hB r2 hb G _))) (starEach_cons (and_l (and_r hs)))) (starEach_cons (and_l hs)))))))
    (fold_noset rfl _)
theorem s_forR1 (ok : FmOK C F A) (oc : CfgX C) (of : FnOK F) (ox : CxOK C F x) {n : PySem.Str} {i : Nat} {e2 : Expr} {b : List Stmt} {m2 : ME} {mb : MS} {np rp cp pos : Pos} (hl : isLocal x n = true) (hi : x.vars[i]? = some n) (hr : isBlt x "range" (.type "range") = true) (hs : [e2].all notStar = true) (hB : ∀ p, StSim C A (F.also p) CS N b mb) (h2 : EvSim C A F CS e2 m2) :
    S1Sim C A F CS N (.For (.Name n np) (.Call (.Name "range" rp) [e2] [] cp) b [] pos) (.forR i (.int 0) m2 mb) := fun {g loc c s} r Q E G =>
  wpAny_For (Call_Name (blt_name ok oc ox hr r (callWith_mach rfl (backTo_any hs) (evalArgs_es hs (wpAny_items_cons ((h2 r).step (k := fun y h => itemsR (rangeV (.int 0) y) fun vs => floop (fun v loc h => mex CS N mb (loc.set i (some v)) h) vs loc h) G fun _ _ _ _ _ a2 l2 r2 p2 G => wpAny_items_nil
    (Goal.int (j := fun n => if -1000 < (0 : Int) ∧ (0 : Int) < big ∧ n < big ∧ -1000 < n then some ((List.range (n - 0).toNat).map fun (i : Nat) => V.int (0 + (i : Int))) else none) G (W := fun a2 => wpAny _ A (call (.type "range") [a2] []) _ E _) p2 fun n u G => G.oif fun hb G => call_range_1 (range_go (s := ⟨_, _, _, _, _⟩) ok of ox hl hi hB r2 hb G _))) (starEach_cons (and_l hs)))))))
    (fold_noset rfl _)
end
end Mine
end
section
set_option Elab.async false
set_option linter.all false
set_option genInjectivity false
namespace Mine
open PySem PySem.Spec PySem.Calls PyProof.Rows

noncomputable def relabelX (sc o : Scope) : Scope := relabel sc { scope := o, locals := 0, globals := 0, cells := [] }
theorem relabel_eq (sc : Scope) (env : Env) : relabel sc env = relabelX sc env.scope := rfl

noncomputable def closL (env : Env) : List (PySem.Str × NameKind) → List (PySem.Str × Addr) → List (PySem.Str × Addr)
  | [], acc => acc
  | p :: r, acc => closL env r (if p.2 == .free then (env.cells.lookup p.1).elim acc fun a => (p.1, a) :: acc else acc)
theorem clos_go (env : Env) (f : PySem.Str × NameKind → List (PySem.Str × Addr) → Sem (ForInStep (List (PySem.Str × Addr)))) (hf : ∀ p cs, f p cs = if p.2 == .free then (do let a ← cellOf env p.1; pure (.yield ((p.1, a) :: cs))) else pure (.yield cs)) (names : List (PySem.Str × NameKind)) :
    ∀ (acc : List (PySem.Str × Addr)), (∀ p ∈ names, p.2 = .free → ∃ a, env.cells.lookup p.1 = some a) → (forIn names acc f : Sem _) = pure (closL env names acc) := by
  induction names with
  | nil => exact fun acc _ => List.forIn_nil ..
  | cons p r ih =>
    intro acc h
    have hr := fun acc => ih acc fun q hq => h q (.tail _ hq)
    rw [List.forIn_cons, hf, closL]
    cases hk : p.2 == .free with
    | true =>
      refine (h p (.head _) (beq_is hk)).elim fun a ha => ?_
      rw [if_pos rfl, if_pos rfl]
      unfold cellOf
      rw [ha]
      exact hr _
    | false =>
      rw [if_neg Bool.false_ne_true, if_neg Bool.false_ne_true]
      exact hr _
theorem clos_eq (env : Env) (sc : Scope) (h : ∀ p ∈ sc.names, p.2 = .free → ∃ a, env.cells.lookup p.1 = some a) : closureFor sc env = pure (closL env sc.names []) :=
  (congrArg (· >>= fun cs => pure cs) (clos_go env _ (fun p cs => rfl) sc.names [] h)).trans rfl
theorem clos_mem (env : Env) (names : List (PySem.Str × NameKind)) : ∀ (acc : List (PySem.Str × Addr)), (∀ p ∈ acc, env.cells.lookup p.1 = some p.2) → ∀ p ∈ closL env names acc, env.cells.lookup p.1 = some p.2 := by
  induction names with
  | nil => exact fun acc h => h
  | cons q r ih =>
    intro acc h
    refine ih _ ?_
    split
    · cases ha : env.cells.lookup q.1 with
      | none => exact h
      | some a => exact fun p hp => (List.mem_cons.mp hp).elim (fun e => e ▸ ha) (h p)
    · exact h
theorem clos_has (env : Env) {n : PySem.Str} {a : Addr} (ha : env.cells.lookup n = some a) (names : List (PySem.Str × NameKind)) : ∀ (acc : List (PySem.Str × Addr)), (n, a) ∈ acc ∨ (n, NameKind.free) ∈ names → (n, a) ∈ closL env names acc := by
  induction names with
  | nil => exact fun acc h => h.elim id fun h => nomatch h
  | cons q r ih =>
    refine fun acc h => ih _ (h.elim (fun h => .inl ?_) fun h => (List.mem_cons.mp h).elim (fun e => .inl ?_) .inr)
    · split
      · cases env.cells.lookup q.1 with
        | none => exact h
        | some b => exact .tail _ h
      · exact h
    · rw [← e, if_pos (show (NameKind.free == .free) = true from rfl), ha]; exact .head _
theorem lookup_of_mem {l : List (PySem.Str × Addr)} {n : PySem.Str} {a : Addr} (h : (n, a) ∈ l) (hu : ∀ b, (n, b) ∈ l → b = a) : l.lookup n = some a := by
  induction l with
  | nil => cases h
  | cons p r ih =>
    rw [List.lookup_cons]
    cases hb : n == p.1 with
    | true => exact congrArg some (hu p.2 (beq_is hb ▸ .head _))
    | false => exact ih ((List.mem_cons.mp h).elim (fun e => nomatch hb.symm.trans (beq_iff_eq.mpr (congrArg Prod.fst e))) id) fun b hb => hu b (.tail _ hb)
theorem clos_lookup (env : Env) {names : List (PySem.Str × NameKind)} {n : PySem.Str} {a : Addr} (ha : env.cells.lookup n = some a) (h : (n, NameKind.free) ∈ names) : (closL env names []).lookup n = some a :=
  lookup_of_mem (clos_has env ha names [] (.inr h)) fun b hb => Option.some.inj ((clos_mem env names [] (fun p hp => nomatch hp) _ hb).symm.trans ha)

noncomputable def capOK (x : Cx) (sc : Scope) (p : Nat × PySem.Str) : Bool := (x.vars[p.1]? == some p.2) && ((x.scope.names.lookup p.2 == some .cell) && (sc.names.contains (p.2, .free) && ((relabelX sc x.scope).names.lookup p.2 == some .cell || (relabelX sc x.scope).names.lookup p.2 == some .free)))
/-- what a comprehension's own block must be -/
noncomputable def compOK (x : Cx) (sc : Scope) (t : PySem.Str) (caps : List Nat) (ns : List PySem.Str) : Bool :=
  (sc.kind == .function) && (sc.names.all (fun p => p.2 != .cell && ((p.2 != .local || sc.names.lookup p.1 == some .local) && (p.2 != .free || ns.contains p.1))) && ((sc.names.lookup t == some .local) && (!(t == ("__debug__" : PySem.Str)) &&
    (decide (t :: ns).Nodup && ((caps.length == ns.length) && (caps.zip ns).all (capOK x sc))))))
structure CompIs (x : Cx) (sc : Scope) (t : PySem.Str) (caps : List Nat) (ns : List PySem.Str) : Prop where
  kind : sc.kind = .function
  noCell : ∀ p ∈ sc.names, p.2 ≠ .cell
  loc : ∀ p ∈ sc.names, p.2 = .local → sc.names.lookup p.1 = some .local
  free : ∀ p ∈ sc.names, p.2 = .free → p.1 ∈ ns
  tl : isLocal { scope := relabelX sc x.scope, vars := t :: ns, fns := x.fns, noEnd := x.noEnd } t = true
  nd : (t :: ns).Nodup
  len : caps.length = ns.length
  cap : ∀ (i c : Nat) (n : PySem.Str), caps[i]? = some c → ns[i]? = some n → capOK x sc (c, n) = true
theorem CompIs.of {x : Cx} {sc : Scope} {t : PySem.Str} {caps : List Nat} {ns : List PySem.Str} (h : compOK x sc t caps ns = true) : CompIs x sc t caps ns :=
  have h1 := and_r h
  have h2 := and_r h1
  have h3 := and_r h2
  have h4 := and_r h3
  have h5 := and_r h4
  have n := fun p hp => List.all_eq_true.mp (and_l h1) p hp
  { kind := beq_is (and_l h)
    noCell := fun p hp => bne_iff_ne.mp (and_l (n p hp))
    loc := fun p hp e => (or_is (and_l (and_r (n p hp)))).elim (fun z => absurd e (bne_iff_ne.mp z)) beq_is
    free := fun p hp e => (or_is (and_r (and_r (n p hp)))).elim (fun z => absurd e (bne_iff_ne.mp z)) List.contains_iff_mem.mp
    tl := Bool.and_eq_true_iff.mpr ⟨beq_iff_eq.mpr (lookup_relabel_local (beq_is (and_l h2))), and_l h3⟩
    nd := dec_is (and_l h4)
    len := beq_is (and_l h5)
    cap := fun i c n e1 e2 => List.all_eq_true.mp (and_r h5) (c, n) (List.mem_of_getElem? (i := i) (List.getElem?_zip_eq_some.mpr ⟨e1, e2⟩)) }
noncomputable def compCx (x : Cx) (sc : Scope) (t : PySem.Str) (ns : List PySem.Str) : Cx := { scope := relabelX sc x.scope, vars := t :: ns, fns := x.fns, noEnd := x.noEnd }
noncomputable def compFm (F : Fm) (sc : Scope) (t : PySem.Str) (ns : List PySem.Str) (Ca : Addr) (tl : Tri) : Fm := { env := compEnvC sc (closL F.env sc.names []) Ca F.env, vars := t :: ns, keeps := (F.env.locals, tl) :: F.keeps, fr := F.fr }

section
variable {C : Cfg} {A : Around} {F F' : Fm} {CS : Calls} {x : Cx} {g g' : Gh} {loc loc' : L} {c c' : H} {h h' : Heap} {N : Nat} {s : Shared}
variable {sc : Scope} {t : PySem.Str} {caps : List Nat} {ns : List PySem.Str} {Ca : Addr}

theorem cap_at {caps : List Nat} : ∀ {cvs : L} {i : Nat} {v : V}, capVals loc caps = some cvs → cvs[i]? = some (some v) → ∃ c, caps[i]? = some c ∧ getV loc c = some v := by
  induction caps with
  | nil => exact fun h e => nomatch (show some (some _) = _ from e.symm.trans (congrArg (·[_]?) (Option.some.inj h).symm))
  | cons c r ih =>
    intro cvs i v h e
    refine bind_is h fun u hu h => map_is h fun ws hw q => ?_
    subst q
    cases i with
    | zero => exact ⟨c, rfl, hu.trans (Option.some.inj e)⟩
    | succ i => exact ih hw e
theorem cap_has {caps : List Nat} : ∀ {cvs : L} {i c : Nat}, capVals loc caps = some cvs → caps[i]? = some c → ∃ v, getV loc c = some v := by
  induction caps with
  | nil => exact fun _ e => nomatch e
  | cons d r ih =>
    intro cvs i c h e
    refine bind_is h fun u hu h => map_is h fun ws hw q => ?_
    cases i with
    | zero => exact ⟨u, Option.some.inj e ▸ hu⟩
    | succ i => exact ih hw e

/-! into a frame and back -/
theorem places_in {o : Obj} (hk : F'.keeps = (F.env.locals, triOf o) :: F.keeps) : places F' g = F'.env.locals :: places F g := by unfold places; rw [hk]; rfl
theorem Rel.enter (r : Rel C F g loc c h) {o : Obj} (ho : h.get? F.env.locals = some o) (k : ∀ a o, h.get? a = some o → h'.get? a = some o) (hk : F'.keeps = (F.env.locals, triOf o) :: F.keeps) (off : Off C F g F'.env.locals) (hn : ∃ m, h'.Ns F'.env.locals m ∧ LocOK C F'.env F'.vars g loc' m) : Rel C F' g loc' c h' :=
  have R := r.keeps k
  ⟨R.base, R.im, fun p hp => (List.mem_cons.mp (show p ∈ (F.env.locals, triOf o) :: F.keeps from hk ▸ hp)).elim (fun q => q ▸ ⟨o, k _ _ ho, rfl, rfl, rfl⟩) (R.keep p), hn, R.clen, R.cell, fun a m => (List.mem_cons.mp (show a ∈ F'.env.locals :: places F g from places_in hk ▸ m)).elim (fun q => q ▸ off.1) (r.new a), places_in hk ▸ List.nodup_cons.mpr ⟨off.2, r.apart⟩⟩
theorem Rel.inner {o : Obj} (hk : F'.keeps = (F.env.locals, triOf o) :: F.keeps) (r : Rel C F' g loc' c' h') : Off C F g F'.env.locals := ⟨r.new _ (.head _), (List.nodup_cons.mp (places_in hk ▸ r.apart)).1⟩
theorem ns_kept {o : Obj} {a : Addr} {m : PySem.Str → Option Value} (n : h.Ns a m) (ho : h.get? a = some o) (k : ∃ o', h'.get? a = some o' ∧ Obj.is o' (triOf o)) : h'.Ns a m :=
  n.elim fun o1 n => n.elim fun es n => n.elim fun ep n => k.elim fun o2 k => ⟨o2, es, ep, k.1, (k.2.2.2.trans (congrArg Obj.data (Option.some.inj (ho.symm.trans n.1)))).trans n.2.1, n.2.2⟩
theorem Rel.leaveTo {o : Obj} (r0 : Rel C F g loc c h) (ho : h.get? F.env.locals = some o) (hk : F'.keeps = (F.env.locals, triOf o) :: F.keeps) (l : g.le g') (r : Rel C F' g' loc' c' h') : Rel C F g' loc c' h' :=
  ⟨r.base, r.im, fun p hp => r.keep p (hk ▸ .tail _ hp), r0.ns.imp fun m q => ⟨ns_kept q.1 ho (r.keep (F.env.locals, triOf o) (hk ▸ .head _)), q.2.mono l⟩, r.clen, r.cell, fun a m => r.new a (places_in hk ▸ .tail _ m), (List.nodup_cons.mp (places_in hk ▸ r.apart)).2⟩

theorem Rel.enterComp (ox : CxOK C F x) (hc : CompIs x sc t caps ns) {cvs : L} (hcv : capVals loc caps = some cvs) (r : Rel C F g loc c h) {o : Obj} (ho : h.get? F.env.locals = some o) (k : ∀ a o, h.get? a = some o → h'.get? a = some o)
    (off : Off C F g Ca) {m' : PySem.Str → Option Value} (hn : h'.Ns Ca m') : Rel C (compFm F sc t ns Ca (triOf o)) g (none :: cvs) c h' :=
  r.enter ho k rfl off ⟨m', hn, fun i v e => by
    cases i with
    | zero => cases e
    | succ i => exact (cap_at hcv e).elim fun d q => r.ns.elim fun m n => (n.2 d v (get_getV q.2)).elim fun n' w => w.elim fun val w =>
        have hi : i < ns.length := hc.len ▸ get_lt q.1
        have en := List.getElem?_eq_getElem hi
        have K := hc.cap i d _ q.1 en
        have e' : ns[i] = n' := Option.some.inj ((ox.vars ▸ beq_is (and_l K)).symm.trans w.var)
        have hcell : F.env.kindOf n' = some .cell := e' ▸ (congrArg (fun sc : Scope => sc.names.lookup ns[i]) ox.scope).trans (beq_is (and_l (and_r K)))
        ⟨n', val, (e' ▸ en : ns[i]? = some n'), w.rd.elim (fun z => nomatch z.1.symm.trans hcell) fun z => z.elim fun cl z => z.elim fun dd z => .inr ⟨cl, dd, (e' ▸ ox.scope.symm ▸ (or_is (and_r (and_r (and_r K)))).imp beq_is beq_is : (relabelX sc F.env.scope).names.lookup n' = some .cell ∨ (relabelX sc F.env.scope).names.lookup n' = some .free), clos_lookup F.env z.2.1 (e' ▸ List.contains_iff_mem.mp (and_l (and_r (and_r K)))), z.2.2⟩, w.vr⟩⟩

theorem fmOK_comp (ok : FmOK C F A) (hc : CompIs x sc t caps ns) {o : Obj} {es : Array DictEntry} {n : Nat} (hd : o.data = .dict es n) : FmOK C (compFm F sc t ns Ca (triOf o)) A :=
  ⟨ok.hh, ok.fr, fun e he => ⟨(ok.frOK e he).1, (ok.frOK e he).2.imp fun L q => ⟨q.1, .inr (q.2.elim (fun z => z ▸ ⟨_, .head _, rfl, es, n, hd⟩) fun z => z.imp fun y z => ⟨.tail _ z.1, z.2⟩)⟩⟩, hc.kind, ok.glob, ok.blt, hc.nd⟩
theorem cxOK_comp (ox : CxOK C F x) {tl : Tri} : CxOK C (compFm F sc t ns Ca tl) (compCx x sc t ns) := ⟨congrArg (relabelX sc) ox.scope, rfl, ox.fns⟩

theorem Rel.swapKeep {p q : Addr × Tri} (r : Rel C ((F.also p).also q) g loc c h) : Rel C ((F.also q).also p) g loc c h :=
  ⟨r.base, r.im, fun y hy => r.keep y ((List.Perm.swap _ _ _).mem_iff.mp hy), r.ns, r.clen, r.cell, mem_also (r.new _ (also_sub (.tail _ (.head _)))) (mem_also (r.new _ (.tail _ (.head _))) fun a m => r.new a (also_sub (also_sub m))), (List.Perm.cons _ (List.Perm.append_right _ (List.Perm.swap _ _ _))).nodup_iff.mp r.apart⟩

/-- the tests of a comprehension -/
inductive IfsSim (C : Cfg) (A : Around) (CS : Calls) (ok : Fm → Prop) : List Expr → ME → Prop
  | none : IfsSim C A CS ok [] (.bool true)
  | one {e : Expr} {m : ME} (h : ∀ F, ok F → TsSim C A F CS e m) : IfsSim C A CS ok [e] m
end
end Mine
end
section
set_option Elab.async false
set_option linter.all false
set_option genInjectivity false
namespace Mine
open PySem PySem.Spec PySem.Calls PyProof.Rows

section
variable {C : Cfg} {A : Around} {F F₂ : Fm} {CS : Calls} {x : Cx} {g : Gh} {loc : L} {c : H} {h h' : Heap} {N : Nat} {s : Shared}
variable {sc : Scope} {t : PySem.Str} {caps : List Nat} {ns : List PySem.Str} {Ca : Addr}

section
variable {α β γ δ : Type} {P : Gh → H → Heap → β → α → Prop} {Q : α → Shared → Prop} {E E' : Value → Shared → Prop}
/-- a part that does not raise -/
theorem Sim.okstep {P₁ : Gh → δ → γ → Prop} {t : Sem γ} {r₁ : R δ} {k : δ → H → R β} {Q' : γ → Shared → Prop} (S : Sim C A F g loc s P₁ t r₁) (G : Goal C F₂ P g s (okR r₁ k) Q E)
    (f : ∀ g₁ c₁ h₁ tk b a, g.le g₁ → Rel C F g₁ loc c₁ h₁ → P₁ g₁ b a → Goal C F₂ P g₁ { s with heap := h₁, toks := tk } (k b c₁) Q E → Q' a { s with heap := h₁, toks := tk }) : wpAny (model C.prog C.w) A t Q' E' s :=
  S Q' E' ⟨fun q => G.ns (congrArg (okR · k) q), fun g' h' tk b c' a q l p => f g' c' h' tk b a l p.1 p.2 (((congrArg (okR · k) q) ▸ G).move l), fun _ _ _ _ _ _ _ q _ _ _ => ((congrArg (okR · k) q) ▸ G).no⟩
theorem ok_test (r : R V) {k : Bool → H → R β} {b : Bool} {c : H} (q : (r.bind fun x h => ofO (truth h x) h) = .ok b c) : leR (okR r fun x h => ofK (boolOf x) fun t => k t h) (k b c) := by
  cases r with
  | ok x h =>
    cases e : boolOf x with
    | none => exact .inl (show ofK (boolOf x) _ = _ by rw [e]; rfl)
    | some t =>
      have q : ofO (truth h x) h = .ok b c := q
      rw [truth_of e] at q
      cases q
      exact .inr (show ofK (boolOf x) _ = _ by rw [e]; rfl)
  | _ => cases q
theorem pf_test (r : R V) {k : Bool → H → R β} {w : List Nat} {l : Int} {c : H} (q : (r.bind fun x h => ofO (truth h x) h) = .pf w l c) : (okR r fun x h => ofK (boolOf x) fun t => k t h) = .stuck := by
  cases r with
  | ok x h =>
    have q : ofO (truth h x) h = .pf w l c := q
    cases e : truth h x <;> rw [e] at q <;> cases q
  | _ => rfl
theorem stuck_test (r : R V) {k : Bool → H → R β} (q : (r.bind fun x h => ofO (truth h x) h) = .stuck) : (okR r fun x h => ofK (boolOf x) fun t => k t h) = .stuck := by
  cases r with
  | ok x h =>
    cases e : boolOf x with
    | none => exact (show ofK (boolOf x) _ = _ by rw [e]; rfl)
    | some t =>
      have q : ofO (truth h x) h = .stuck := q
      rw [truth_of e] at q
      cases q
  | _ => rfl
theorem TsG.okstep {t : Sem Bool} {m : ME} {k : Bool → H → R β} {Q' : Bool → Shared → Prop} (S : TsG C A F CS t m) (r : Rel C F g loc c s.heap) (G : Goal C F₂ P g s (okR (mev CS m loc c) fun x h => ofK (boolOf x) fun t => k t h) Q E)
    (f : ∀ g₁ c₁ h₁ tk b, g.le g₁ → Rel C F g₁ loc c₁ h₁ → Goal C F₂ P g₁ { s with heap := h₁, toks := tk } (k b c₁) Q E → Q' b { s with heap := h₁, toks := tk }) : wpAny (model C.prog C.w) A t Q' E' s :=
  S (P := fun _ c' _ b (a : Bool × H) => a = (b, c')) (k := fun t h => .ok t h) (Q := fun a _ => ((mev CS m loc c).bind fun x h => ofO (truth h x) h) = .ok a.1 a.2) r
    ⟨fun q => G.ns (stuck_test _ q), fun _ _ _ _ _ _ q _ p => p ▸ q, fun _ _ _ _ _ _ _ q _ _ _ => absurd (pf_test _ q) G.ns⟩
    fun g₁ c₁ h₁ tk b l r' G' => f g₁ c₁ h₁ tk b l r' ((G.le (ok_test _ (G'.ok g₁ h₁ tk b c₁ (b, c₁) rfl g₁.le_refl rfl))).move l)
end

/-- the blocks in which a comprehension's parts are evaluated -/
noncomputable def CompFms (C : Cfg) (A : Around) (x : Cx) (sc : Scope) (t : PySem.Str) (ns : List PySem.Str) (F' : Fm) : Prop := FmOK C F' A ∧ CxOK C F' (compCx x sc t ns)

theorem tests_go {α β : Type} {P : Gh → H → Heap → β → α → Prop} {Q : α → Shared → Prop} {E E' : Value → Shared → Prop} {Pf : Fm → Prop} {ifs : List Expr} {mc : ME} {k : Bool → H → R β} {Q' : Bool → Shared → Prop} (hi : IfsSim C A CS Pf ifs mc) (hP : Pf F) (r : Rel C F g loc c s.heap)
    (G : Goal C F₂ P g s (okR (mev CS mc loc c) fun x h => ofK (boolOf x) fun t => k t h) Q E)
    (f : ∀ g₁ c₁ h₁ tk b, g.le g₁ → Rel C F g₁ loc c₁ h₁ → Goal C F₂ P g₁ { s with heap := h₁, toks := tk } (k b c₁) Q E → Q' b { s with heap := h₁, toks := tk }) :
    wpAny (model C.prog C.w) A (forIn ifs true fun c r => if r = true then do let ok ← isTrue c F.env (eval c F.env); pure (ForInStep.yield ok) else pure (ForInStep.yield r)) Q' E' s := by
  cases hi with
  | none => exact wpAny_tests_nil (f g c s.heap s.toks true g.le_refl r G)
  | one h => exact wpAny_tests_one (TsG.okstep (h F hP) r G f)

theorem is_tri {o : Obj} {t : Tri} (h : Obj.is o t) : triOf o = t := by
  obtain ⟨a, b, d⟩ := t
  cases h.1; cases h.2.1; cases h.2.2; rfl
theorem Rel.turnIn {p q : Addr × Tri} (r : Rel C ((F.also p).also q) g loc c h) (k : Heap.ExtBut p.1 h h') {o : Obj} (ho : h'.get? p.1 = some o) : Rel C ((F.also (p.1, triOf o)).also q) g loc c h' := (r.swapKeep.turnKeep k ho).swapKeep
theorem Rel.noFirst {o : Option V} {cvs : L} (r : Rel C F g (o :: cvs) c h) : Rel C F g (none :: cvs) c h := r.weakLoc fun i u hu => by
  cases i with
  | zero => cases hu
  | succ i => exact hu

noncomputable def compP (C : Cfg) (F : Fm) (cvs : L) (D : Addr) (g : Gh) (c : H) (h : Heap) (b : V) (_ : Unit) : Prop := Rel C F g (none :: cvs) c h ∧ VR C g b (.ref D)
/-- a comprehension's loop, between its turns -/
structure CompI (C : Cfg) (A : Around) (F : Fm) (cvs : L) (I D : Addr) (elt cond : V → H → R V) (R : Result → Shared → Prop) (g : Gh) (c : H) (vs acc : List V) (its : List Value) (tD tI : Tri) (n : Nat) (s : Shared) : Prop where
  rel : Rel C ((F.also (D, tD)).also (I, tI)) g (none :: cvs) c s.heap
  cls : tI.1 = .type "list_iterator"
  nx : Nx C A g I "list_iterator" vs tI.2.2
  clsD : tD.1 = .type "list"
  dat : ∃ k, tD.2.2 = .seq its.toArray k
  vrs : VRs C g acc its
  len : acc.length + vs.length ≤ big
  goal : Goal C F (compP C F cvs D) g s (cloop elt cond vs c acc) (fun (_ : Unit) s => R (.ok .next) s) (fun _ _ => True)
  num : n = vs.length

theorem comp_end {cvs : L} {I D : Addr} {elt cond : V → H → R V} {R : Result → Shared → Prop} {acc : List V} {its : List Value} {tD tI : Tri} {n : Nat} (X : CompI C A F cvs I D elt cond R g c [] acc its tD tI n s) (he : Heap.ExtBut I s.heap h') : R (.ok .next) { s with heap := h' } :=
  have r2 := X.rel.dropKeep.one he X.rel.keptAt.1
  r2.keptAt.2.elim fun o q => X.dat.elim fun k hk =>
  have L := Gh.put_le (x := (o.cls, o.dict, o.data)) r2.keptAt.1.1.2
  X.goal.done (a := ()) L ⟨r2.dropKeep.put q.1 r2.keptAt.1, .lst ⟨o.dict, k, Gh.put_self.trans (by rw [q.2.1.trans X.clsD, q.2.2.2.trans hk])⟩ (X.vrs.mono L) X.len⟩
theorem comp_loop {e1 it : Expr} {ifs : List Expr} {me mc : ME} {tp pos : Pos} (hc : CompIs x sc t caps ns) (ok : FmOK C F A) (ox : CxOK C F (compCx x sc t ns))
    (hE : ∀ F', CompFms C A x sc t ns F' → EvSim C A F' CS e1 me) (hI : IfsSim C A CS (CompFms C A x sc t ns) ifs mc) {cvs : L} {I D : Addr} {vs acc : List V} {its : List Value} {tD tI : Tri} {R : Result → Shared → Prop}
    (X : CompI C A F cvs I D (fun v h => mev CS me (some v :: cvs) h) (fun v h => mev CS mc (some v :: cvs) h) R g c vs acc its tD tI vs.length s) :
    codeAny (model C.prog C.w) A (.compLoop (.ListComp e1 [⟨.Name t tp, it, ifs, 0⟩] sc pos) 0 (.ref I) (.ref D) F.env) R s :=
  codeAny_compLoop_tests (fun n s => ∃ g c vs acc its tD tI, CompI C A F cvs I D (fun v h => mev CS me (some v :: cvs) h) (fun v h => mev CS mc (some v :: cvs) h) R g c vs acc its tD tI n s)
    (fun n s X => X.elim fun g X => X.elim fun c X => X.elim fun vs X => X.elim fun acc X => X.elim fun its X => X.elim fun tD X => X.elim fun tI X => by
      have at' : ItAt s.heap I "list_iterator" tI.2.2 := X.rel.keptAt.2.imp fun o q => ⟨q.1, q.2.1.trans X.cls, q.2.2.2⟩
      cases vs with
      | nil => exact X.nx s _ _ at' X.rel.imOK fun h' he => comp_end X he
      | cons v vs => exact X.nx s _ _ at' X.rel.imOK fun h' tk a d' he ho' hv n2 => ho'.elim fun o' ho' =>
          have P : CompFms C A x sc t ns ((F.also (D, tD)).also (I, triOf o')) := ⟨(ok.also _).also _, (ox.also _).also _⟩
          PyProof.Rows.assign_Name (store_local (s := { s with heap := h', toks := tk }) P.1 P.2 (i := 0) hc.tl rfl (X.rel.turnKeep he ho'.1) hv fun h3 tk3 r3 =>
            tests_go (F := (F.also (D, tD)).also (I, triOf o')) (s := { s with heap := h3, toks := tk3 }) hI P r3 (X.goal.move g.le_refl) fun g4 c4 h4 tk4 b l4 r4 G => by
              cases b with
              | true =>
                exact (hE _ P r4).okstep (s := { s with heap := h4, toks := tk4 }) G fun g5 c5 h5 tk5 y a5 l5 r5 p5 G => r5.dropKeep.keptAt.2.elim fun o5 q5 => X.dat.elim fun k hk =>
                  wpAny_list_append (s := { s with heap := h5, toks := tk5 }) ⟨o5, q5.1, q5.2.1.trans X.clsD, k, q5.2.2.2.trans hk⟩ (fun h6 hl6 hs6 => hl6.elim fun o6 q6 =>
                    ⟨vs.length, X.num ▸ Nat.lt_succ_self _, g5, c5, vs, acc ++ [y], its ++ [a5], triOf o6, triOf o', r5.noFirst.turnIn hs6.extBut q6.1, ho'.2.1, (show (triOf o').2.2 = d' from ho'.2.2) ▸ (n2.mono l4).mono l5, q6.2.1, List.push_toArray its a5 ▸ q6.2.2,
                      VRs.append (.cons p5 .nil) ((X.vrs.mono l4).mono l5), Nat.le_trans (Nat.le_of_eq (by rw [List.length_append]; exact Nat.succ_add_eq_add_succ _ _)) X.len, G.move g5.le_refl, rfl⟩)
                    (show its.length ≤ sizeLine from X.vrs.length ▸ Nat.le_trans (Nat.le_trans (Nat.le_add_right _ _) X.len) big_le)
              | false => exact ⟨vs.length, X.num ▸ Nat.lt_succ_self _, g4, c4, vs, acc, its, tD, triOf o', r4.noFirst, ho'.2.1, (show (triOf o').2.2 = d' from ho'.2.2) ▸ n2.mono l4, X.clsD, X.dat, X.vrs.mono l4, Nat.le_trans (Nat.le_succ _) X.len, G, rfl⟩)) vs.length ⟨g, c, vs, acc, its, tD, tI, X⟩

theorem comp_cells (ox : CxOK C F x) (hc : CompIs x sc t caps ns) {cvs : L} (hcv : capVals loc caps = some cvs) (r : Rel C F g loc c h) {p : PySem.Str × NameKind} (hp : p ∈ sc.names) (hf : p.2 = .free) : ∃ a, F.env.cells.lookup p.1 = some a :=
  (List.getElem_of_mem (hc.free p hp hf)).elim fun i q => q.elim fun hi q =>
  have ec : caps[i]? = some (caps[i]'(hc.len ▸ hi)) := List.getElem?_eq_getElem _
  (cap_has hcv ec).elim fun v hv => r.ns.elim fun m n => (n.2 _ v (get_getV hv)).elim fun n' w => w.elim fun val w =>
  have K := hc.cap i _ p.1 ec ((List.getElem?_eq_getElem hi).trans (congrArg some q))
  have e' : p.1 = n' := Option.some.inj ((ox.vars ▸ beq_is (and_l K)).symm.trans w.var)
  have hcell : F.env.kindOf n' = some .cell := e' ▸ (congrArg (fun sc : Scope => sc.names.lookup p.1) ox.scope).trans (beq_is (and_l (and_r K)))
  w.rd.elim (fun z => nomatch z.1.symm.trans hcell) fun z => z.imp fun cl z => z.elim fun _ z => e' ▸ z.2.1

/-- the objects that a comprehension makes, and what is wanted behind its loop -/
theorem comp_body {α β : Type} {P : Gh → H → Heap → β → α → Prop} {K : V → H → R β} {Q₀ : α → Shared → Prop} (ok : FmOK C F A) (ox : CxOK C F x) {e1 it : Expr} {ifs : List Expr} {me mc : ME} {tp pos : Pos} {use : Option (Value → Sem Unit)} (hc : CompIs x sc t caps ns)
    (hE : ∀ F', CompFms C A x sc t ns F' → EvSim C A F' CS e1 me) (hI : IfsSim C A CS (CompFms C A x sc t ns) ifs mc) {cvs : L} (hcv : capVals loc caps = some cvs) (r : Rel C F g loc c s.heap) {Q : Value → Shared → Prop} {E : Value → Shared → Prop} {ap : Addr} {vs : List V} {its : List Value} (ha : SeqIm g "list" ap its) (hv : VRs C g vs its) (hlen : vs.length ≤ big)
    (G : Goal C F P g s ((cloop (fun v h => mev CS me (some v :: cvs) h) (fun v h => mev CS mc (some v :: cvs) h) vs c []).bind K) Q₀ E)
    (hok : ∀ g' c' h' tk b D Ca m, g.le g' → Rel C F g' loc c' h' → VR C g' b (.ref D) → Off C F g' Ca → h'.Ns Ca m → Goal C F P g' { s with heap := h', toks := tk } (K b c') Q₀ E → compPost (model C.prog C.w) A E use Q (.ref D) Ca (.ok .next) { s with heap := h', toks := tk }) :
    wpAny (model C.prog C.w) A (pyIter (.ref ap)) (fun it' s₂ => wpAny (model C.prog C.w) A (newList []) (fun acc s₃ => wpAny (model C.prog C.w) A (newFunctionEnv sc F.env.globals (closL F.env sc.names []) [] F.env.qual none .none (some F.env)) (fun cenv s₄ =>
      codeAny (model C.prog C.w) A (.compStart (.ListComp e1 [⟨.Name t tp, it, ifs, 0⟩] sc pos) 0 it' acc { cenv with scope := relabel sc F.env }) (compPost (model C.prog C.w) A E use Q acc cenv.locals) s₄) E s₃) E s₂) E s := by
  refine wpAny_pyIter_list (r.lstAt ha) ?_
  generalize hoI : ({ cls := .type "list_iterator", data := .fields #[.ref ap, .int 0 0] } : Obj) = oI
  have n1 : Nx C A g s.heap.objs.size "list_iterator" vs oI.data := hoI ▸ nx_list ok.hh ha 0 hv
  have hcl : oI.cls = .type "list_iterator" := hoI ▸ rfl
  have hfree : oI.isFreed = false := hoI ▸ rfl
  have r2 := r.push oI
  refine wpAny_newObj_type ?_ (Nat.zero_le _)
  generalize hoD : ({ cls := .type "list", data := .seq ([] : List Value).toArray } : Obj) = oD
  have r3 := r2.push oD
  refine wpAny_newFunctionEnv hc.noCell (fun y hy => nomatch hy) (fun h4 hns4 hsb4 => ?_) hc.kind
  have up4 : ∀ b o, ((s.heap.push oI).push oD).get? b = some o → h4.get? b = some o := fun b o e => hsb4.extBut b o (Nat.ne_of_lt (Heap.lt_size e)) (Heap.get?_push_of_some _ e)
  have hI3 := up4 _ _ (Heap.get?_push_of_some oD (Heap.get?_push_size s.heap hfree))
  have hD3 := up4 _ _ (Heap.get?_push_size (o := oD) (s.heap.push oI) (hoD ▸ rfl))
  refine (r3.there (.head _)).elim fun oL hoL => ?_
  have r4 := r3.enterComp ox hc hcv hoL up4 r3.fresh hns4
  have sz : ((s.heap.push oI).push oD).objs.size = (s.heap.push oI).objs.size + 1 := Heap.size_push ..
  have lI : s.heap.objs.size < (s.heap.push oI).objs.size := Nat.lt_of_lt_of_eq (Nat.lt_succ_self _) (Heap.size_push ..).symm
  have lD : (s.heap.push oI).objs.size < ((s.heap.push oI).push oD).objs.size := Nat.lt_of_lt_of_eq (Nat.lt_succ_self _) (Heap.size_push ..).symm
  have ne : ∀ a, a < ((s.heap.push oI).push oD).objs.size → Off C F g a → Off C (compFm F sc t ns ((s.heap.push oI).push oD).objs.size (triOf oL)) g a := fun a l off => ⟨off.1, fun m => (List.mem_cons.mp m).elim (fun z => Nat.ne_of_lt l z) off.2⟩
  have r6 := (r4.addKeep hD3 (ne _ lD r2.fresh)).addKeep hI3 ⟨r.fresh.1, fun m => mem_also (P := fun a => s.heap.objs.size ≠ a) (Nat.ne_of_lt lI) (fun a m z => (ne _ (Nat.lt_trans lI lD) r.fresh).2 (z ▸ m)) _ m rfl⟩
  have loop : ∀ tk, codeAny (model C.prog C.w) A (.compLoop (.ListComp e1 [⟨.Name t tp, it, ifs, 0⟩] sc pos) 0 (.ref s.heap.objs.size) (.ref (s.heap.push oI).objs.size) (compFm F sc t ns ((s.heap.push oI).push oD).objs.size (triOf oL)).env)
      (compPost (model C.prog C.w) A E use Q (.ref (s.heap.push oI).objs.size) ((s.heap.push oI).push oD).objs.size) { s with heap := h4, toks := tk } := fun tk =>
    comp_loop (s := { s with heap := h4, toks := tk }) hc (r3.ns.elim fun _ n => n.1.elim fun o' n => n.elim fun es n => n.elim fun ep n => fmOK_comp ok hc ((congrArg Obj.data (Option.some.inj (hoL.symm.trans n.1))).trans n.2.1)) (cxOK_comp ox) hE hI
      ⟨r6, hcl, n1, (hoD ▸ rfl : oD.cls = .type "list"), ⟨0, (hoD ▸ rfl : oD.data = .seq ([] : List Value).toArray 0)⟩, (.nil : VRs C g [] []), Nat.le_trans (Nat.le_of_eq (Nat.zero_add _)) hlen, ⟨fun q => G.ns (congrArg (R.bind · K) q), fun g' h' tk b c' _ q l p => p.1.ns.elim fun m n => hok g' c' h' tk b _ _ m l (r3.leaveTo hoL rfl l p.1) p.2 (Rel.inner (F := F) rfl p.1) n.1 (((congrArg (R.bind · K) q) ▸ G).move l), fun _ _ _ _ _ _ _ _ _ _ _ => trivial⟩, rfl⟩
  exact codeAny_compStart_list (loop _) (wpAny_pyIter_listiter (s := { s with heap := h4, toks := _ }) (l := ap) (i := 0) ⟨oI, hI3, hcl, hoI ▸ rfl⟩ (loop _))
/-- a whole comprehension -/
theorem comp_all {α β : Type} {P : Gh → H → Heap → β → α → Prop} {K : V → H → R β} {Q₀ : α → Shared → Prop} (ok : FmOK C F A) (ox : CxOK C F x) {e1 it : Expr} {ifs : List Expr} {me mc mi : ME} {tp pos : Pos} {use : Option (Value → Sem Unit)} (hset : notSet it = true) (hc : CompIs x sc t caps ns) (hit : EvSim C A F CS it mi)
    (hE : ∀ F', CompFms C A x sc t ns F' → EvSim C A F' CS e1 me) (hI : IfsSim C A CS (CompFms C A x sc t ns) ifs mc) (r : Rel C F g loc c s.heap) {Q : Value → Shared → Prop} {E : Value → Shared → Prop}
    (G : Goal C F P g s ((mev CS (.comp caps mi me mc) loc c).bind K) Q₀ E)
    (hok : ∀ g' c' h' tk b D Ca m, g.le g' → Rel C F g' loc c' h' → VR C g' b (.ref D) → Off C F g' Ca → h'.Ns Ca m → Goal C F P g' { s with heap := h', toks := tk } (K b c') Q₀ E → compPost (model C.prog C.w) A E use Q (.ref D) Ca (.ok .next) { s with heap := h', toks := tk }) :
    wpAny (model C.prog C.w) A (comprehension (.ListComp e1 [⟨.Name t tp, it, ifs, 0⟩] sc pos) sc F.env (firstIterPos [⟨.Name t tp, it, ifs, 0⟩] pos) (newList []) false (eval it F.env) use) Q E s :=
  G.o_in.opt fun cvs hcv G => wpAny_comprehension_free rfl (fold_noset hset _) (clos_eq _ _ fun p hp hf => comp_cells ox hc hcv r hp hf) hc.kind hc.loc
    ((hit r).step G.assoc fun g1 c1 hp1 t1 v1 a1 l1 r1 p1 G => G.o_in.opt fun vs e G => p1.isLst (W := fun a => wpAny (model C.prog C.w) A (pyIter a) _ E _) e fun ap its q1 q2 q3 =>
      comp_body (s := { s with heap := hp1, toks := t1 }) ok ox hc hE hI hcv r1 q1 q2 q3 G fun g' c' h' tk b D Ca m l => hok g' c' h' tk b D Ca m (l1.trans l))
end
end Mine
end
section
set_option Elab.async false
set_option linter.all false
namespace Mine
open PySem PySem.Spec PySem.Calls PyProof.Rows

section
variable {C : Cfg} {A : Around} {F : Fm} {CS : Calls} {x : Cx} {g : Gh} {loc : L} {c : H} {h h' : Heap} {N : Nat} {s : Shared}
variable {sc : Scope} {t : PySem.Str} {caps : List Nat} {ns : List PySem.Str} {Ca : Addr}

theorem bind_ok {α : Type} (r : R α) : r.bind .ok = r := by cases r <;> rfl
theorem ev_comp (ok : FmOK C F A) (ox : CxOK C F x) {e1 it : Expr} {ifs : List Expr} {me mc mi : ME} {tp pos : Pos} (hset : notSet it = true) (hc : CompIs x sc t caps ns) (hit : EvSim C A F CS it mi)
    (hE : ∀ F', CompFms C A x sc t ns F' → EvSim C A F' CS e1 me) (hI : IfsSim C A CS (CompFms C A x sc t ns) ifs mc) :
    EvSim C A F CS (.ListComp e1 [⟨.Name t tp, it, ifs, 0⟩] sc pos) (.comp caps mi me mc) := fun {g loc c s} r Q E G => by
  rw [eval_ListComp]
  exact comp_all (use := none) (K := .ok) ok ox hset hc hit hE hI r ((bind_ok (mev CS (.comp caps mi me mc) loc c)).symm ▸ G) fun g' c' h' tk b D Ca m l r' p off hm G => ⟨m, hm, fun h2 hs => G.done (s := ⟨_, _, _, _, _⟩) g'.le_refl ⟨r'.one hs.extBut off, p⟩⟩

theorem swaps_comp (ok : FmOK C F A) (ox : CxOK C F x) {e1 : Expr} {gs : List Comprehension} {pos np : Pos} {n : PySem.Str} {line : Nat} (hl : isLocal x n = true) (hline : np.line = pos.line) (hn : (sc.names.any fun (m, k) => m == n && (k == .local || k == .cell)) = false) :
    swapsWith (.ListComp e1 gs sc pos) (some (.Name n np)) line F.env = pure true := by
  show (pure (F.env.blockKind == .function && F.env.kindOf n == some .local && np.line == pos.line && !(sc.names.any fun (m, k) => m == n && (k == .local || k == .cell))) : Sem Bool) = _
  rw [show F.env.blockKind = .function by unfold Env.blockKind; rw [ok.kind]; rfl, kind_local ox hl, hline, hn, beq_self_eq_true, beq_self_eq_true, beq_self_eq_true]; rfl
theorem s_comp (ok : FmOK C F A) (ox : CxOK C F x) {e1 it : Expr} {ifs : List Expr} {me mc mi : ME} {tp pos spos np : Pos} {n : PySem.Str} {i : Nat} (hset : notSet it = true) (hc : CompIs x sc t caps ns) (hit : EvSim C A F CS it mi)
    (hE : ∀ F', CompFms C A x sc t ns F' → EvSim C A F' CS e1 me) (hI : IfsSim C A CS (CompFms C A x sc t ns) ifs mc) (hl : isLocal x n = true) (hi : x.vars[i]? = some n) (hline : np.line = pos.line) (hn : (sc.names.any fun (m, k) => m == n && (k == .local || k == .cell)) = false) :
    S1Sim C A F CS N (.Assign [.Name n np] (.ListComp e1 [⟨.Name t tp, it, ifs, 0⟩] sc pos) spos) (.assign i (.comp caps mi me mc)) := fun {g loc c s} r Q E G => by
  rw [exec_Assign_Name_used _ _ _ _ (swaps_comp ok ox hl hline hn)]
  refine wpAny_bind (wpAny_standAt (wpAny_bind ?_))
  show wpAny _ A (do let _ ← comprehension (.ListComp e1 [⟨.Name t tp, it, ifs, 0⟩] sc pos) sc F.env (firstIterPos [⟨.Name t tp, it, ifs, 0⟩] pos) (newList []) false (eval it F.env) (some (assign (.Name n np) F.env))) _ _ s
  exact wpAny_bind (wpAny_mono (comp_all (use := some (assign (.Name n np) F.env)) (Q := fun _ s' => Q .next s') ok ox hset hc hit hE hI r G fun g' c' h' tk b D Ca m l r' p off hm G => hm.elim fun o q =>
    PyProof.Rows.assign_Name (store_local (F := F.also (Ca, triOf o)) (s := { s with heap := h', toks := tk }) (ok.also _) (ox.also _) hl hi (r'.addKeep (q.elim fun _ q => q.elim fun _ q => q.1) off) p fun h3 tk3 r3 =>
      ⟨m, ns_kept hm (q.elim fun _ q => q.elim fun _ q => q.1) r3.keptAt.2, fun h4 hs => G.done (a := .next) g'.le_refl (r3.dropKeep.one hs.extBut r3.keptAt.1)⟩)) (fun _ s' hq => wpAny_pure (wpAny_pure hq)) fun _ _ e => e)
end
end Mine
end
section
set_option Elab.async false
set_option linter.all false
set_option genInjectivity false
set_option genSizeOf false
namespace Mine
open PySem PySem.Spec PySem.Calls PyProof.Rows

/-! binding the parameters -/
theorem lookup_zip {ps : List PySem.Str} : ∀ {vals : List Value}, vals.length = ps.length → ∀ n ∈ ps, ((ps.zip vals).lookup n).isNone = false := by
  induction ps with
  | nil => exact fun _ _ hn => nomatch hn
  | cons p ps ih =>
    intro vals hv n hn
    cases vals with
    | nil => cases hv
    | cons v vals =>
      rw [List.zip_cons_cons, List.lookup_cons]
      cases hb : n == p with
      | true => rfl
      | false => exact ih (Nat.succ.inj hv) n ((List.mem_cons.mp hn).elim (fun e => nomatch hb.symm.trans (beq_iff_eq.mpr e)) id)
theorem fm_congr {α β : Type} {f g : α → Option β} {l : List α} : (∀ x ∈ l, f x = g x) → l.filterMap f = l.filterMap g := by
  induction l with
  | nil => exact fun _ => rfl
  | cons a l ih => exact fun h => by rw [List.filterMap_cons, List.filterMap_cons, h a (.head _), ih fun x hx => h x (.tail _ hx)]
theorem fm_zip {ps : List PySem.Str} : ∀ {vals : List Value}, ps.Nodup → vals.length = ps.length → ps.filterMap (fun n => ((ps.zip vals).lookup n).map (n, ·)) = ps.zip vals := by
  induction ps with
  | nil => exact fun _ _ => rfl
  | cons p ps ih =>
    intro vals hn hv
    cases vals with
    | nil => cases hv
    | cons v vals =>
      have e : ((p, v) :: ps.zip vals).lookup p = some v := by rw [List.lookup_cons, beq_self_eq_true]
      refine (List.filterMap_cons_some (f := fun n => (((p, v) :: ps.zip vals).lookup n).map (n, ·)) (b := (p, v)) (congrArg (Option.map (p, ·)) e)).trans (congrArg _ ((fm_congr (g := fun n => ((ps.zip vals).lookup n).map (n, ·)) fun n hm => congrArg (Option.map (n, ·)) ?_).trans (ih (List.nodup_cons.mp hn).2 (Nat.succ.inj hv))))
      show ((p, v) :: ps.zip vals).lookup n = _
      rw [List.lookup_cons, beq_eq_false_iff_ne.mpr fun q : n = p => (List.nodup_cons.mp hn).1 (q ▸ hm)]
theorem bind_plain {fd : FuncData} {args : List Arg} {vals : List Value} (hp : fd.params = { posonlyargs := [], args := args, vararg := none, kwonlyargs := [], kw_defaults := [], kwarg := none, defaults := [] }) (hd : fd.defaults = .none)
    (hu : (args.map (·.arg)).Nodup) (hl : vals.length = args.length) : bindArgs fd ⟨vals, []⟩ = pure ((args.map (·.arg)).zip vals) := by
  have hs : notAStandIn Value.none = pure () := rfl
  have hl' : vals.length = (args.map (·.arg)).length := by rw [List.length_map]; exact hl
  have hz := fm_zip hu hl'
  have hm : ((args.map (·.arg)).take vals.length).filter (fun n => (((args.map (·.arg)).zip vals).lookup n).isNone) = [] :=
    List.filter_eq_nil_iff.mpr fun n hn z => nomatch z.symm.trans (lookup_zip hl' n (List.mem_of_mem_take hn))
  unfold bindArgs
  rw [hp, hd]
  simp only [List.map_nil, List.nil_append, List.forIn_nil, pure_bind, seqItems?, List.append_nil]
  rw [List.filterMap_map] at hz
  simp [hl, hs, hz]
  intro n hn hno
  have hk := lookup_zip (vals := vals) hl' n (List.mem_of_mem_take hn)
  cases q : List.lookup n ((List.map (fun x => x.arg) args).zip vals) with
  | none => rw [q] at hk; cases hk
  | some v => exact absurd (PySem.mem_of_lookup q) (hno v)

section
variable (kindOf : PySem.Str → Option NameKind) {n : PySem.Str} {v : Value} {ps : List PySem.Str}
theorem bindL_skip : ∀ {vals : List Value} {m : PySem.Str → Option Value}, n ∉ ps → bindL kindOf (ps.zip vals) m n = m n := by
  induction ps with
  | nil => exact fun _ => rfl
  | cons p ps ih =>
    intro vals m h
    cases vals with
    | nil => rfl
    | cons v vals =>
      refine (ih fun q => h (.tail _ q)).trans ?_
      split
      · exact if_neg fun q : n = p => h (q ▸ .head _)
      · rfl
theorem bindL_get : ∀ {vals : List Value} {m : PySem.Str → Option Value} {i : Nat}, ps.Nodup → ps[i]? = some n → vals[i]? = some v → kindOf n = some .local → bindL kindOf (ps.zip vals) m n = some v := by
  induction ps with
  | nil => exact fun _ h => nomatch h
  | cons p ps ih =>
    intro vals m i hu h1 h2 hk
    cases vals with
    | nil => cases h2
    | cons u vals =>
      cases i with
      | zero => cases h1; cases h2; exact (bindL_skip kindOf (List.nodup_cons.mp hu).1).trans (by rw [if_pos hk]; exact if_pos rfl)
      | succ i => exact ih (i := i) (List.nodup_cons.mp hu).2 h1 h2 hk
theorem bindC_skip : ∀ {vals : List Value} {m : PySem.Str → Option Value}, n ∉ ps → bindC kindOf (ps.zip vals) m n = m n := by
  induction ps with
  | nil => exact fun _ => rfl
  | cons p ps ih =>
    intro vals m h
    cases vals with
    | nil => rfl
    | cons v vals =>
      refine (ih fun q => h (.tail _ q)).trans ?_
      split
      · rfl
      · exact if_neg fun q : n = p => h (q ▸ .head _)
theorem bindC_get : ∀ {vals : List Value} {m : PySem.Str → Option Value} {i : Nat}, ps.Nodup → ps[i]? = some n → vals[i]? = some v → kindOf n ≠ some .local → bindC kindOf (ps.zip vals) m n = some v := by
  induction ps with
  | nil => exact fun _ h => nomatch h
  | cons p ps ih =>
    intro vals m i hu h1 h2 hk
    cases vals with
    | nil => cases h2
    | cons u vals =>
      cases i with
      | zero => cases h1; cases h2; exact (bindC_skip kindOf (List.nodup_cons.mp hu).1).trans (by rw [if_neg hk]; exact if_pos rfl)
      | succ i => exact ih (i := i) (List.nodup_cons.mp hu).2 h1 h2 hk
end

theorem cells_has {n : PySem.Str} {names : List (PySem.Str × NameKind)} : ∀ {k : Nat} {acc : List (PySem.Str × Addr)}, ((n, NameKind.cell) ∈ names ∨ ∃ c, (n, c) ∈ acc) → ∃ c, (n, c) ∈ cellsFrom k names acc := by
  induction names with
  | nil => exact fun h => h.elim (fun h => nomatch h) id
  | cons p r ih =>
    intro k acc h
    unfold cellsFrom
    split
    · exact ih (h.elim (fun h => (List.mem_cons.mp h).elim (fun e => .inr ⟨k, e ▸ .head _⟩) .inl) fun h => .inr (h.imp fun _ => .tail _))
    · rename_i hk
      exact ih (h.imp_left fun h => (List.mem_cons.mp h).elim (fun e => absurd (e ▸ rfl) hk) id)
theorem lookup_isSome {l : List (PySem.Str × Addr)} {n : PySem.Str} {c : Addr} (h : (n, c) ∈ l) : (l.lookup n).isSome = true := by
  induction l with
  | nil => cases h
  | cons p r ih =>
    rw [List.lookup_cons]
    cases hb : n == p.1 with
    | true => rfl
    | false => exact ih ((List.mem_cons.mp h).elim (fun e => nomatch hb.symm.trans (beq_iff_eq.mpr (congrArg Prod.fst e))) id)
theorem mem_of_lookup' {l : List (PySem.Str × NameKind)} {n : PySem.Str} {k : NameKind} (h : l.lookup n = some k) : (n, k) ∈ l := PySem.mem_of_lookup h

/-- a def whose parameters are plain -/
structure DefIs (h₀ : Heap) (fd : FuncData) (args : List Arg) (body : List Stmt) : Prop where
  par : fd.params = { posonlyargs := [], args := args, vararg := none, kwonlyargs := [], kw_defaults := [], kwarg := none, defaults := [] }
  dft : fd.defaults = .none
  bod : fd.body = .stmts body
  glob : fd.globals = mainGlobals
  clo : fd.closure = []
  blt : fd.builtins = builtinsNs
  code : h₀.CodeRec fd.code fd.qualname
  kind : fd.scope.kind = .function
  co : fd.scope.isCoroutine = false
  gen : fd.scope.isGenerator = false
/-- what a frame's body is -/
noncomputable def RunOK (C : Cfg) (fns : List (PySem.Str × Nat)) (d : FD) (vars : List PySem.Str) (sc : Scope) (body : List Stmt) : Prop := ∀ (A : Around) (F : Fm) (CS : Calls) (N k : Nat), FmOK C F A → FnOK F → CxOK C F { scope := sc, vars := vars, fns := fns } → A.depth + 3 * k + 8 < recursionLimit → A.units + 20 * k + 317 < cLine →
  (∀ F A, FmOK C F A → A.depth + 3 * k + 6 < recursionLimit → A.units + 20 * k + 300 < cLine → CallsAt C A F CS) → StSim C A F CS N body d.body
structure BodyIs (C : Cfg) (fns : List (PySem.Str × Nat)) (fd : FuncData) (args : List Arg) (body : List Stmt) (d : FD) (vars : List PySem.Str) : Prop where
  np : d.np = args.length
  nd : vars.Nodup
  nv : vars.length = d.nv
  ps : vars.take d.np = args.map (·.arg)
  run : RunOK C fns d vars fd.scope body
structure FnAt (C : Cfg) (fns : List (PySem.Str × Nat)) (T : Nat → Option FD) (f : Nat) (a : Addr) (o : Obj) (fd : FuncData) (args : List Arg) (body : List Stmt) : Prop where
  get : C.h₀.get? a = some o
  data : o.data = .func fd
  is : DefIs C.h₀ fd args body
  nd : (args.map (·.arg)).Nodup
  names : ∀ n ∈ args.map (·.arg), fd.scope.names.lookup n = some .local ∨ fd.scope.names.lookup n = some .cell
  body : ∀ d, T f = some d → ∃ vars, BodyIs C fns fd args body d vars
/-- what the text's defs are -/
noncomputable def FnIs (C : Cfg) (fns : List (PySem.Str × Nat)) (T : Nat → Option FD) (f : Nat) (a : Addr) : Prop := ∃ o fd args body, FnAt C fns T f a o fd args body

section
variable {C : Cfg} {A : Around} {F F' : Fm} {CS : Calls} {g g₁ : Gh} {loc : L} {c c₁ : H} {h h' : Heap} {N : Nat} {s : Shared}

/-- the cells of a call's block stand still -/
theorem Rel.putCells (cm : PySem.Str → Option Value) {cs : List (PySem.Str × Addr)} : ∀ {g : Gh}, Rel C F g loc c h → (cs.Pairwise fun x y => x.2 ≠ y.2) → (∀ p ∈ cs, Off C F g p.2 ∧ ∃ o, h.get? p.2 = some o ∧ o.data = .cell (cm p.1)) →
    ∃ g', g.le g' ∧ Rel C F g' loc c h ∧ ∀ p ∈ cs, ∃ cl d, g'.im p.2 = some (cl, d, .cell (cm p.1)) := by
  induction cs with
  | nil => exact fun {g} r _ _ => ⟨g, g.le_refl, r, fun p hp => nomatch hp⟩
  | cons q cs ih =>
    intro g r hp ho
    have P := List.pairwise_cons.mp hp
    refine (ho q (.head _)).2.elim fun o e => ?_
    have off := (ho q (.head _)).1
    exact (ih (r.put e.1 off) P.2 fun p hp => ⟨⟨⟨(ho p (.tail _ hp)).1.1.1, (Gh.put_ne fun z => P.1 p hp z.symm).trans (ho p (.tail _ hp)).1.1.2⟩, (ho p (.tail _ hp)).1.2⟩, (ho p (.tail _ hp)).2⟩).imp fun g' w =>
      ⟨(Gh.put_le off.1.2).trans w.1, w.2.1, fun p hp => (List.mem_cons.mp hp).elim (fun z => ⟨o.cls, o.dict, z ▸ w.1.1 _ _ (Gh.put_self.trans (congrArg (fun d => some (o.cls, o.dict, d)) e.2))⟩) (w.2.2 p)⟩

/-- the ghost behind a call: the cells that it made are values -/
noncomputable def Gh.froze (g₁ : Gh) (n : Nat) (h : Heap) : Gh := ⟨fun a => if a ∈ g₁.σ.drop n then (h.get? a).map triOf else g₁.im a, g₁.σ.take n⟩

theorem VRs.frzAll {g₁ g₂ : Gh} {f : V → Option V} (ih : ∀ {v v' : V} {val : Value}, VR C g₁ v val → f v = some v' → VR C g₂ v' val) {vs : List V} :
    ∀ {vs' : List V} {vals : List Value}, VRs C g₁ vs vals → vs.mapM f = some vs' → VRs C g₂ vs' vals ∧ vs'.length = vs.length := by
  induction vs with
  | nil => exact fun r hf => (show [] = _ from Option.some.inj hf) ▸ ⟨r, rfl⟩
  | cons v vs IH => exact fun r hf => r.elim fun x r => r.elim fun xs r => bind_is (List.mapM_cons.symm.trans hf) fun v2 q1 hf => bind_is hf fun vs2 q2 hf => Option.some.inj hf ▸ r.1 ▸
      ⟨.cons (ih r.2.1 q1) (IH r.2.2 q2).1, congrArg (· + 1) (IH r.2.2 q2).2⟩
theorem VR.frz {g₁ g₂ : Gh} {n : Nat} {c₁ : H} (hc : ∀ (i : Nat) (vs : List V), c₁[i]? = some vs → ∃ a its, CellAt C g₁ h i vs a its) (e₂ : g₂ = g₁.froze n h) (im : ∀ a x, g₁.im a = some x → g₂.im a = some x)
    {k : Nat} : ∀ {v v' : V} {val : Value}, VR C g₁ v val → Mine.frz c₁ n k v = some v' → VR C g₂ v' val := by
  induction k with
  | zero => exact fun _ hf => nomatch hf
  | succ k ih =>
    intro v v' val hv hf
    cases v with
    | tup vs => exact hv.elim fun p q => q.elim fun its q => map_is hf fun ws m e => e ▸ ⟨p, its, q.1, q.2.1.mono im, (VRs.frzAll ih q.2.2.1 m).1, (VRs.frzAll ih q.2.2.1 m).2 ▸ q.2.2.2⟩
    | lst vs => exact hv.elim fun p q => q.elim fun its q => map_is hf fun ws m e => e ▸ ⟨p, its, q.1, q.2.1.mono im, (VRs.frzAll ih q.2.2.1 m).1, (VRs.frzAll ih q.2.2.1 m).2 ▸ q.2.2.2⟩
    | tok s1 v1 l1 => exact hv.elim fun p q => q.elim fun x q => q.elim fun y q => q.elim fun z q => bind_is hf fun s2 q1 hf => bind_is hf fun v2 q2 hf => bind_is hf fun l2 q3 hf => Option.some.inj hf ▸
        ⟨p, x, y, z, q.1, q.2.1.mono im, ih q.2.2.1 q1, ih q.2.2.2.1 q2, ih q.2.2.2.2 q3⟩
    | ref m =>
      refine hv.elim fun p q => ?_
      have hf : (if m < n then some (V.ref m) else (c₁[m]?).bind fun vs => (vs.mapM (Mine.frz c₁ n k)).map .lst) = some v' := hf
      by_cases hm : m < n
      · rw [if_pos hm] at hf
        exact Option.some.inj hf ▸ ⟨p, q.1, e₂ ▸ (List.getElem?_take_of_lt hm).trans q.2⟩
      · rw [if_neg hm] at hf
        exact bind_is hf fun vs e hf => map_is hf fun ws w e' => e' ▸ (hc m vs e).elim fun a z => z.elim fun its (z : CellAt C g₁ h m vs a its) => z.pl.elim fun j ho =>
          have ha : p = a := Option.some.inj (q.2.symm.trans z.pos)
          have hd : a ∈ g₁.σ.drop n := List.mem_of_getElem? (i := m - n) ((List.getElem?_drop).trans ((congrArg (g₁.σ[·]?) (Nat.add_sub_cancel' (Nat.le_of_not_lt hm))).trans z.pos))
          ⟨p, its, q.1, ha ▸ ⟨Option.none, j, (congrArg (fun g : Gh => g.im a) e₂).trans ((if_pos hd).trans (congrArg (Option.map triOf) ho))⟩, (VRs.frzAll ih z.vrs w).1, (VRs.frzAll ih z.vrs w).2 ▸ z.len⟩
    | _ => exact Option.some.inj hf ▸ hv
end
end Mine
end
section
set_option Elab.async false
set_option linter.all false
set_option genInjectivity false
set_option genSizeOf false
namespace Mine
open PySem PySem.Spec PySem.Calls PyProof.Rows

mutual
theorem VR.low {C : Cfg} {g g₁ g₂ : Gh} (hs : ∀ (m : Nat) (a b : Addr), g.σ[m]? = some a → g₁.σ[m]? = some b → g₂.σ[m]? = some b) (hi : ∀ a x, g₁.im a = some x → g₂.im a = some x) : ∀ {v : V} {val a0 : Value}, VR C g₁ v val → VR C g v a0 → VR C g₂ v val
  | .none, _, _, h, _ => h
  | .bool b, _, _, h, _ => h
  | .int i, _, _, h, _ => h
  | .str s, _, _, h, _ => h
  | .fn f, _, _, h, _ => h
  | .tup vs, _, _, h, h0 => h.imp fun _ h => h.imp fun _ h => h0.elim fun _ h0 => h0.elim fun _ h0 => ⟨h.1, h.2.1.mono hi, VRs.low hs hi h.2.2.1 h0.2.2.1, h.2.2.2⟩
  | .lst vs, _, _, h, h0 => h.imp fun _ h => h.imp fun _ h => h0.elim fun _ h0 => h0.elim fun _ h0 => ⟨h.1, h.2.1.mono hi, VRs.low hs hi h.2.2.1 h0.2.2.1, h.2.2.2⟩
  | .ref n, _, _, h, h0 => h.imp fun _ h => h0.elim fun _ h0 => ⟨h.1, hs n _ _ h0.2 h.2⟩
  | .tok s v w, _, _, h, h0 => h.imp fun _ h => h.imp fun _ h => h.imp fun _ h => h.imp fun _ h => h0.elim fun _ h0 => h0.elim fun _ h0 => h0.elim fun _ h0 => h0.elim fun _ h0 =>
      ⟨h.1, h.2.1.mono hi, VR.low hs hi h.2.2.1 h0.2.2.1, VR.low hs hi h.2.2.2.1 h0.2.2.2.1, VR.low hs hi h.2.2.2.2 h0.2.2.2.2⟩
theorem VRs.low {C : Cfg} {g g₁ g₂ : Gh} (hs : ∀ (m : Nat) (a b : Addr), g.σ[m]? = some a → g₁.σ[m]? = some b → g₂.σ[m]? = some b) (hi : ∀ a x, g₁.im a = some x → g₂.im a = some x) : ∀ {vs : List V} {vals a0s : List Value}, VRs C g₁ vs vals → VRs C g vs a0s → VRs C g₂ vs vals
  | [], _, _, h, _ => h
  | _ :: _, _, _, h, h0 => h.imp fun _ h => h.imp fun _ h => h0.elim fun _ h0 => h0.elim fun _ h0 => ⟨h.1, VR.low hs hi h.2.1 h0.2.1, VRs.low hs hi h.2.2 h0.2.2⟩
end

theorem take_get {α : Type} {l : List α} {n i : Nat} {x : α} (e : (l.take n)[i]? = some x) : i < n ∧ l[i]? = some x := by
  rw [List.getElem?_take] at e
  split at e
  · exact ⟨‹_›, e⟩
  · cases e
theorem mapM_get {α β : Type} {f : α → Option β} {l : List α} : ∀ {m : List β} {i : Nat} {y : β}, l.mapM f = some m → m[i]? = some y → ∃ x, l[i]? = some x ∧ f x = some y := by
  induction l with
  | nil => intro m i y h e; cases h; cases e
  | cons a l ih =>
    refine fun {m i y} h => mapM_is h fun b ys q1 q2 q => ?_
    subst q
    cases i with
    | zero => exact fun e => ⟨a, rfl, q1.trans e⟩
    | succ i => exact ih q2
theorem mapM_len {α β : Type} {f : α → Option β} {l : List α} : ∀ {m : List β}, l.mapM f = some m → m.length = l.length := by
  induction l with
  | nil => intro m h; cases h; rfl
  | cons a l ih => exact fun h => mapM_is h fun b ys q1 q2 q => q ▸ congrArg (· + 1) (ih q2)

section
variable {C : Cfg} {A : Around} {F F' : Fm} {CS : Calls} {g g₁ : Gh} {loc loc₁ : L} {c c₁ c₂ : H} {h h₁ : Heap} {N n : Nat} {s : Shared}

theorem froze_im (r1 : Rel C F' g₁ loc₁ c₁ h) (h₁ : Heap) {a : Addr} {x : Tri} (e : g₁.im a = some x) : (g₁.froze n h₁).im a = some x :=
  (if_neg fun q => some_none (r1.new a (.tail _ (List.mem_append_right _ (List.mem_of_mem_drop q)))).2 e).trans e
theorem froze_places : places F g₁ = places F (g₁.froze n h) ++ g₁.σ.drop n :=
  (congrArg (fun σ => F.env.locals :: (F.keeps.map (·.1) ++ σ)) (List.take_append_drop n g₁.σ).symm).trans (congrArg (F.env.locals :: ·) (List.append_assoc _ _ _).symm)
theorem froze_off {a : Addr} (y : Off C F g₁ a) : Off C F (g₁.froze n h) a :=
  ⟨⟨y.1.1, (if_neg fun q => y.2 (.tail _ (List.mem_append_right _ (List.mem_of_mem_drop q)))).trans y.1.2⟩, fun m => y.2 (froze_places (n := n) (h := h) ▸ List.mem_append_left _ m)⟩

theorem Rel.froze {o : Obj} (r0 : Rel C F g loc c h) (ho : h.get? F.env.locals = some o) (hk : F'.keeps = (F.env.locals, triOf o) :: F.keeps) (l : g.le g₁) (r1 : Rel C F' g₁ loc₁ c₁ h₁) (hlen : c₂.length = c.length)
    (hc : ∀ (i : Nat) (vs : List V), c₂[i]? = some vs → ∃ ws, (c₁.take c.length)[i]? = some ws ∧ ∀ its, VRs C g₁ ws its → VRs C (g₁.froze c.length h₁) vs its ∧ vs.length = ws.length) :
    g.le (g₁.froze c.length h₁) ∧ Rel C F (g₁.froze c.length h₁) loc c₂ h₁ :=
  have R := r0.leaveTo ho hk l r1
  have tk : g₁.σ.take c.length = g.σ := l.2.elim fun t e => by rw [e, r0.clen, List.take_left]
  have le2 : g.le (g₁.froze c.length h₁) := ⟨fun a x e => froze_im r1 h₁ (l.1 a x e), [], tk.trans (List.append_nil _).symm⟩
  have nd := List.nodup_append.mp (show (places F (g₁.froze c.length h₁) ++ g₁.σ.drop c.length).Nodup by rw [← froze_places]; exact R.apart)
  have mem : ∀ a ∈ places F (g₁.froze c.length h₁), a ∈ places F g₁ := fun a ha => by rw [froze_places (n := c.length) (h := h₁)]; exact List.mem_append_left _ ha
  ⟨le2, R.base, fun a x e => if hm : a ∈ g₁.σ.drop c.length then map_is ((if_pos hm).symm.trans e) fun o' ho' q => ⟨o', ho', q ▸ ⟨rfl, rfl, rfl⟩⟩ else R.im a x ((if_neg hm).symm.trans e), R.keep,
    r0.ns.imp fun m q => ⟨ns_kept q.1 ho (r1.keep (F.env.locals, triOf o) (hk ▸ .head _)), q.2.mono le2⟩, hlen.trans (r0.clen.trans (congrArg List.length tk.symm)),
    fun i vs e => (hc i vs e).elim fun ws q => (R.cell i ws (take_get q.1).2).imp fun a w => w.imp fun its (w : CellAt C g₁ h₁ i ws a its) => ⟨(List.getElem?_take_of_lt (take_get q.1).1).trans w.pos, w.pl, (q.2 its w.vrs).1, (q.2 its w.vrs).2 ▸ w.len⟩,
    fun a ha => ⟨(R.new a (mem a ha)).1, (if_neg fun q => nd.2.2 a ha a q rfl).trans (R.new a (mem a ha)).2⟩, nd.1⟩

/-- the caller's ghost behind a call -/
structure Backs (C : Cfg) (F : Fm) (g g₁ : Gh) (loc : L) (h₁ : Heap) (val : Value) (q : V × H) (g₂ : Gh) : Prop where
  le : g.le g₂
  rel : Rel C F g₂ loc q.2 h₁
  vr : VR C g₂ q.1 val
  im : ∀ a x, g₁.im a = some x → g₂.im a = some x
  off : ∀ a, Off C F g₁ a → Off C F g₂ a
/-- the way back into the caller's frame -/
theorem Rel.backTo {o : Obj} (r0 : Rel C F g loc c h) (ho : h.get? F.env.locals = some o) (hk : F'.keeps = (F.env.locals, triOf o) :: F.keeps) (l : g.le g₁) (r1 : Rel C F' g₁ loc₁ c₁ h₁) {v : V} {val : Value} {q : V × H} (hv : VR C g₁ v val) (hb : backO c v c₁ = some q) :
    ∃ g₂, Backs C F g g₁ loc h₁ val q g₂ := by
  have im : ∀ a x, g₁.im a = some x → (g₁.froze c.length h₁).im a = some x := fun a x => froze_im r1 h₁
  have fz : ∀ {v v' : V} {val : Value}, VR C g₁ v val → frz c₁ c.length 9 v = some v' → VR C (g₁.froze c.length h₁) v' val := VR.frz r1.cell rfl im
  have mk : ∀ {v' : V} {c₂ : H}, frz c₁ c.length 9 v = some v' → c₂.length = c.length → (∀ (i : Nat) (vs : List V), c₂[i]? = some vs → ∃ ws, (c₁.take c.length)[i]? = some ws ∧ ∀ its, VRs C g₁ ws its → VRs C (g₁.froze c.length h₁) vs its ∧ vs.length = ws.length) → ∃ g₂, Backs C F g g₁ loc h₁ val (v', c₂) g₂ :=
    fun q hl hc => ⟨_, (r0.froze ho hk l r1 hl hc).1, (r0.froze ho hk l r1 hl hc).2, fz hv q, im, fun a => froze_off⟩
  have hle : c.length ≤ c₁.length := l.2.elim fun t e => by rw [r0.clen, r1.clen, e, List.length_append]; exact Nat.le_add_right _ _
  unfold backO at hb
  split at hb
  · exact Option.some.inj hb ▸ ⟨g₁, l, r0.leaveTo ho hk l r1, hv, fun _ _ e => e, fun _ e => e⟩
  · split at hb
    · rename_i hs
      exact map_is hb fun v' q e => e ▸ mk q rfl fun i vs e => ⟨vs, (congrArg (·[i]?) hs).trans e, fun its x => (r0.cell i vs e).elim fun a w => w.elim fun its0 w =>
        ⟨VRs.low (g := g) (fun k x y p1 p2 => (List.getElem?_take_of_lt (r0.clen ▸ get_lt p1)).trans p2) im x w.vrs, rfl⟩⟩
    · exact bind_is hb fun v' q hb => map_is hb fun c' q2 e => e ▸ mk q ((mapM_len q2).trans (List.length_take_of_le hle)) fun i vs e => (mapM_get q2 e).imp fun ws w => ⟨w.1, fun its x => VRs.frzAll fz x w.2⟩

theorem arg_at {args : List V} {n : Nat} {v : V} : ∀ {i : Nat}, (args.map some ++ List.replicate n none)[i]? = some (some v) → args[i]? = some v := by
  induction args with
  | nil => exact fun e => nomatch List.eq_of_mem_replicate (List.mem_of_getElem? e)
  | cons a args ih =>
    intro i e
    cases i with
    | zero => exact Option.some.inj e
    | succ i => exact ih e
/-- the arguments in their places -/
theorem args_loc {env : Env} {D vars : List PySem.Str} {n : Nat} {m : PySem.Str → Option Value} {args : List V} {vals : List Value} (hargs : VRs C g args vals) (hn : args.length = D.length) {k : Nat} (hvt : vars.take k = D)
    (hP : ∀ (i : Nat) (x : PySem.Str) (v : Value), D[i]? = some x → vals[i]? = some v → Rd env g m x v) : LocOK C env vars g (args.map some ++ List.replicate n none) m := fun i v e =>
  (hargs.get (arg_at e)).elim fun val w => have hd := List.getElem?_eq_getElem (l := D) (hn ▸ get_lt (arg_at e)); ⟨_, val, (take_get ((congrArg (·[i]?) hvt).trans hd)).2, hP i _ _ hd w.1, w.2⟩
theorem none_above {h : Heap} {a : Addr} (l : h.objs.size < a) : h.get? a = none := Option.eq_none_iff_forall_ne_some.mpr fun o q => absurd (Nat.lt_trans l (Heap.lt_size q)) (Nat.lt_irrefl _)
/-- the frame of a plain def's call -/
noncomputable def inFm (K : List (Addr × Tri)) (FR : List Env) (env : Env) (vars : List PySem.Str) : Fm := { env := env, vars := vars, keeps := K, fr := env :: FR }
theorem cell_at (fd : FuncData) {n : Addr} {x : PySem.Str} (q : fd.scope.names.lookup x = some .cell) : ∃ cc, (cellsFrom n fd.scope.names []).lookup x = some cc :=
  (cells_has (k := n) (acc := []) (.inl (mem_of_lookup' q))).elim fun _ h => Option.isSome_iff_exists.mp (lookup_isSome h)
theorem rd_of {fd : FuncData} {n a : Addr} {D : List PySem.Str} {vals : List Value} {g1 : Gh} (hnd : D.Nodup) (hlk : ∀ n ∈ D, fd.scope.names.lookup n = some .local ∨ fd.scope.names.lookup n = some .cell)
    (hc : ∀ p ∈ (callEnvC fd n a).cells.filter (fun p => (callEnvC fd n a).cells.lookup p.1 == some p.2), ∃ cl d, g1.im p.2 = some (cl, d, .cell (bindC (callEnvC fd n a).kindOf (D.zip vals) (fun _ => none) p.1))) (i : Nat) (x : PySem.Str) (v : Value) (h1 : D[i]? = some x) (h2 : vals[i]? = some v) :
    Rd (callEnvC fd n a) g1 (bindL (callEnvC fd n a).kindOf (D.zip vals) fun _ => none) x v :=
  (hlk x (List.mem_of_getElem? h1)).elim (fun q => .inl ⟨q, bindL_get _ hnd h1 h2 q⟩) fun q => (cell_at fd (n := n + 1) q).elim fun cc hcc => (hc (x, cc) (List.mem_filter.mpr ⟨PySem.mem_of_lookup hcc, beq_iff_eq.mpr hcc⟩)).elim fun cl w => w.elim fun dd him =>
    .inr ⟨cc, dd, .inl q, hcc, cl, him.trans (congrArg (fun o => some (cl, dd, Data.cell o)) (bindC_get _ hnd h1 h2 fun z => nomatch z.symm.trans (show (callEnvC fd n a).kindOf x = _ from q)))⟩
/-- into a plain def's frame -/
theorem call_in (oc : CfgX C) {fns : List (PySem.Str × Nat)} {T : Nat → Option FD} {f : Nat} {a : Addr} (fi : FnIs C fns T f a) {args : List V} {vals : List Value} (hargs : VRs C g args vals)
    {d : FD} (hT : T f = some d) (hlen : args.length = d.np) (base : ∀ a o, C.h₀.get? a = some o → s.heap.get? a = some o) (hdep : A.depth < recursionLimit) {K : List (Addr × Tri)} {FR : List Env} (hh : A.handled = none) (hfr : A.frames = some FR)
    (hFR : ∀ e ∈ FR, e.scope.kind ≠ .module ∧ ∃ L, e.frame = some L ∧ ∃ x ∈ K, x.1 = L ∧ ∃ es n, x.2.2.2 = .dict es n)
    (hR : ∀ env vars h₁ m, s.heap.get? env.locals = none → (∀ b o, s.heap.get? b = some o → h₁.get? b = some o) → h₁.Ns env.locals m → Rel C (inFm K FR env vars) g [] c h₁) (hO : ∀ env vars cc, s.heap.get? cc = none → cc ≠ env.locals → Off C (inFm K FR env vars) g cc) {Q E : Value → Shared → Prop}
    (H : ∀ env vars body h₁ tk g1, FmOK C (inFm K FR env vars) (A.deeper env) → FnOK (inFm K FR env vars) → g.le g1 → Rel C (inFm K FR env vars) g1 (args.map some ++ List.replicate (d.nv - d.np) none) c h₁ → RunOK C fns d vars env.scope body →
      wpAny (model C.prog C.w) (A.deeper env) (execs body env) (fun f s' => Q (match f with | .ret v => v | _ => .none) s')
        (fun e s' => wpAny (model C.prog C.w) (A.deeper env) (leaving env e) (fun _ s'' => E e s'') (fun e' s'' => E e' s'') s') { s with heap := h₁, toks := tk }) : wpAny (model C.prog C.w) A (call (.ref a) vals []) Q E s :=
  fi.elim fun o q => q.elim fun fd q => q.elim fun pargs q => q.elim fun body (q : FnAt C fns T f a o fd pargs body) => (q.body d hT).elim fun vars (B : BodyIs C fns fd pargs body d vars) =>
  have hn : args.length = (pargs.map (·.arg)).length := (hlen.trans B.np).trans (List.length_map _).symm
  have hv : vals.length = pargs.length := (hargs.length.trans hlen).trans B.np
  wpAny_call (codeAny_call_cells hdep (base _ _ q.get) q.data (oc.nolimit.keeps base) (q.is.code.keeps base) q.is.bod (bind_plain q.is.par q.is.dft q.nd hv) q.is.clo (fun x hx => (q.names x.1 (List.of_mem_zip (show (x.1, x.2) ∈ _ from hx)).1).imp id fun q => ⟨q, Option.isSome_iff_exists.mpr (cell_at fd q)⟩) (fun s₁ x => by
    obtain ⟨h₁, tk, rfl⟩ := x.toInCall.same
    refine ((hR (callEnvC fd s.heap.objs.size a) vars h₁ _ (get_none_size _) x.toInCall.keep x.toInCall.ns).putCells (bindC (callEnvC fd s.heap.objs.size a).kindOf ((pargs.map (·.arg)).zip vals) fun _ => none) (cs := (callEnvC fd s.heap.objs.size a).cells.filter fun p => (callEnvC fd s.heap.objs.size a).cells.lookup p.1 == some p.2) (x.apart.filter _) fun p hp =>
      have hp := List.mem_filter.mp hp
      have hab := x.above p.1 p.2 hp.1
      ⟨hO _ _ _ (none_above hab) (fun q => Nat.lt_irrefl _ (q ▸ hab : s.heap.objs.size < (callEnvC fd s.heap.objs.size a).locals)), x.cell p.1 p.2 (beq_is hp.2)⟩).elim fun g1 w => ?_
    exact H (callEnvC fd s.heap.objs.size a) vars body h₁ tk g1 ⟨hh, congrArg (Option.map _) hfr, fun e he => (List.mem_cons.mp he).elim (fun z => by rw [z]; exact ⟨(fun y => nomatch q.is.kind.symm.trans (show fd.scope.kind = _ from y)), _, rfl, .inl rfl⟩) fun z => ⟨(hFR e z).1, (hFR e z).2.imp fun L w => ⟨w.1, .inr w.2⟩⟩, q.is.kind, q.is.glob, q.is.blt, B.nd⟩
      ⟨⟨FR, rfl⟩, rfl⟩ w.1 { w.2.1 with ns := ⟨_, x.toInCall.ns, args_loc (hargs.mono w.1) hn B.ps (rd_of q.nd q.names w.2.2)⟩ } B.run) q.is.co q.is.gen q.is.kind)

noncomputable def retOf (fw : Flow) : Value := match fw with | .ret v => v | _ => .none
theorem ret_val {fl : Fl} {fw : Flow} {h' : Heap} (y : FlOK C F' g c h' fl fw) : ∃ v, Rel C F' g [] c h' ∧ VR C g v (retOf fw) ∧ callR c₁ (.ok fl c) = back c₁ v c := by
  cases fl with
  | next loc' => exact y.isNext.1 ▸ ⟨.none, y.isNext.2.weak, .none, rfl⟩
  | ret v => exact y.isRet.elim fun a q => q.1 ▸ ⟨v, q.2.1, q.2.2, rfl⟩
theorem sem_ok {T : Nat → Option FD} {k f : Nat} {args : List V} (hns : sem T N (k + 1) f args c ≠ .stuck) : ∃ d, T f = some d ∧ args.length = d.np ∧ sem T N (k + 1) f args c = callR c (mex (sem T N k) N d.body (args.map some ++ List.replicate (d.nv - d.np) none) c) := by
  unfold sem at hns
  cases hT : T f with
  | none => rw [hT] at hns; exact absurd rfl hns
  | some d =>
    rw [hT] at hns
    by_cases hl : args.length = d.np
    · exact ⟨d, rfl, hl, sem_call hT hl⟩
    · exact absurd (if_neg hl) hns
/-- a call does what the small language's call says -/
theorem call_step (oc : CfgX C) {fns : List (PySem.Str × Nat)} {T : Nat → Option FD} (hfn : ∀ f a, C.fnA f = some a → FnIs C fns T f a) (hglob : ∀ p ∈ fns, ∃ a, C.mg p.1 = some (.ref a) ∧ C.fnA p.2 = some a) (k : Nat)
    (ih : ∀ F A, FmOK C F A → A.depth + 3 * k + 6 < recursionLimit → A.units + 20 * k + 300 < cLine → CallsAt C A F (sem T N k)) (ok : FmOK C F A) (hd : A.depth + 3 * (k + 1) + 6 < recursionLimit) (hu : A.units + 20 * (k + 1) + 300 < cLine) : CallsAt C A F (sem T N (k + 1)) :=
  fun {g loc c s f args vals a} r hargs hf Q E G => (sem_ok G.ns).elim fun d D => r.ns.elim fun m0 n0 => n0.1.elim fun oL n0 => n0.elim fun esL n0 => n0.elim fun epL n0 =>
  have G := D.2.2 ▸ G
  call_in (K := (F.env.locals, triOf oL) :: F.keeps) (FR := F.fr) oc (hfn f a hf) hargs D.1 D.2.1 r.base (by omega) ok.hh ok.fr
    (fun e he => ⟨(ok.frOK e he).1, (ok.frOK e he).2.imp fun L q => ⟨q.1, q.2.elim (fun z => ⟨_, .head _, z.symm, esL, epL, n0.2.1⟩) fun z => z.imp fun y z => ⟨.tail _ z.1, z.2⟩⟩⟩)
    (fun env vars h₁ m hnew keep hns => r.enter n0.1 keep rfl (r.none_of_new hnew) ⟨m, hns, fun i v e => nomatch e⟩)
    (fun env vars cc hnew hne => ⟨(r.none_of_new hnew).1, fun m => (List.mem_cons.mp m).elim hne (r.none_of_new hnew).2⟩)
    fun env vars body h₁ tk g1 ok' of' l1 R3 run =>
      run (A.deeper env) (inFm ((F.env.locals, triOf oL) :: F.keeps) F.fr env vars) (sem T N k) N k ok' of' ⟨rfl, rfl, hglob⟩ (show A.depth + 1 + 3 * k + 8 < _ by omega) (show A.units + 3 + 20 * k + 317 < _ by omega) ih (s := { s with heap := h₁, toks := tk }) R3 _ _
        ⟨fun q => G.ns (congrArg (callR c) q), fun g2 h2 tk2 fl c2 fw q l2 y => (ret_val (c₁ := c) y).elim fun v w => Goal.opt (W := Q (retOf fw) { s with heap := h2, toks := tk2 }) ((congrArg (callR c) q).trans w.2.2 ▸ G) fun x hb G =>
          (Rel.backTo r n0.1 rfl (l1.trans l2) w.1 w.2.1 hb).elim fun g3 B => G.done B.le ⟨B.rel, B.vr⟩,
        fun g2 h2 tk2 w l c2 e q l2 r2 x2 => exc_leave (s := { s with heap := h2, toks := tk2 }) ok' of' r2 x2 fun h3 r3 x3 => Goal.opt (W := E (.ref e) { s with heap := h3, toks := tk2 }) (congrArg (callR c) q ▸ G) fun x hb G =>
          (Rel.backTo r n0.1 rfl (l1.trans l2) r3 .none hb).elim fun g3 B => G.pf g3 h3 tk2 w l x.2 e rfl B.le B.rel.weak (x3.at.to B.im fun a q => B.off a ⟨q.1, fun m => q.2 (show a ∈ env.locals :: places F g2 from .tail _ m)⟩)⟩

theorem call_all (oc : CfgX C) {fns : List (PySem.Str × Nat)} {T : Nat → Option FD} (hfn : ∀ f a, C.fnA f = some a → FnIs C fns T f a) (hglob : ∀ p ∈ fns, ∃ a, C.mg p.1 = some (.ref a) ∧ C.fnA p.2 = some a)
    (k : Nat) : ∀ (F : Fm) (A : Around), FmOK C F A → A.depth + 3 * k + 6 < recursionLimit → A.units + 20 * k + 300 < cLine → CallsAt C A F (sem T N k) := by
  induction k with
  | zero => exact fun F A ok _ _ _ _ _ _ _ _ _ _ r hargs hf Q E G => G.no
  | succ k ih => exact fun F A ok hd hu => call_step oc hfn hglob k ih ok hd hu
end
end Mine
end
section
set_option Elab.async false
set_option linter.all false
set_option genInjectivity false
set_option genSizeOf false
namespace Mine
open PySem PySem.Spec PySem.Calls PyProof.Rows

/-- a def of the text whose parameters are plain locals -/
structure PlainAt (h₀ : Heap) (a : Addr) (names globs : List PySem.Str) (body : List Stmt) (o : Obj) (fd : FuncData) (args : List Arg) : Prop where
  get : h₀.get? a = some o
  cls : o.cls = .type "function"
  data : o.data = .func fd
  is : DefIs h₀ fd args body
  args : args.map (·.arg) = names
  nd : names.Nodup
  loc : ∀ n ∈ names, fd.scope.names.lookup n = some .local
  gl : ∀ n ∈ globs, fd.scope.names.lookup n = some .globalImplicit
noncomputable def PlainFn (h₀ : Heap) (a : Addr) (names globs : List PySem.Str) (body : List Stmt) : Prop := ∃ o fd args, PlainAt h₀ a names globs body o fd args
/-- the frame of such a def's call -/
structure PlainIn (names globs : List PySem.Str) (vals : List Value) (h : Heap) (env : Env) (h₁ : Heap) (m : PySem.Str → Option Value) : Prop where
  kind : env.scope.kind = .function
  glob : env.globals = mainGlobals
  blt : env.builtins = builtinsNs
  frame : env.frame = some env.locals
  loc : ∀ n ∈ names, env.kindOf n = some .local
  gl : ∀ n ∈ globs, env.kindOf n = some .globalImplicit
  new : h.get? env.locals = none
  ns : h₁.Ns env.locals m
  val : ∀ (i : Nat) (n : PySem.Str) (v : Value), names[i]? = some n → vals[i]? = some v → m n = some v
  keep : ∀ b o, h.get? b = some o → h₁.get? b = some o

section
variable {prog : Program} {w : World} {A : Around} {h₀ : Heap}

theorem plain_call {a : Addr} {names globs : List PySem.Str} {body : List Stmt} {vals : List Value} {s : Shared} {Q : Value → Shared → Prop} {E : Value → Shared → Prop} (hf : PlainFn h₀ a names globs body) (hb : ∀ b o, h₀.get? b = some o → s.heap.get? b = some o) (hlim : h₀.NoLimit)
    (hd : A.depth < recursionLimit) (hl : vals.length = names.length)
    (h : ∀ env h₁ tk m, PlainIn names globs vals s.heap env h₁ m →
      wpAny (model prog w) (A.deeper env) (execs body env) (fun f s' => Q (match f with | .ret v => v | _ => .none) s')
        (fun e s' => wpAny (model prog w) (A.deeper env) (leaving env e) (fun _ s'' => E e s'') (fun e' s'' => E e' s'') s') { s with heap := h₁, toks := tk }) : wpAny (model prog w) A (call (.ref a) vals []) Q E s :=
  hf.elim fun o q => q.elim fun fd q => q.elim fun args (q : PlainAt h₀ a names globs body o fd args) =>
  have hv : vals.length = args.length := hl.trans ((congrArg List.length q.args).symm.trans (List.length_map _))
  have hz : (args.map (·.arg)).zip vals = names.zip vals := congrArg (List.zip · vals) q.args
  wpAny_call (codeAny_call_cells hd (hb _ _ q.get) q.data (hlim.keeps hb) (q.is.code.keeps hb) q.is.bod ((bind_plain q.is.par q.is.dft (q.args ▸ q.nd) hv).trans (congrArg pure hz)) q.is.clo (fun x hx => .inl (q.loc x.1 (List.of_mem_zip (show (x.1, x.2) ∈ _ from hx)).1)) (fun s₁ x => by
    obtain ⟨h₁, tk, rfl⟩ := x.toInCall.same
    exact h (callEnvC fd s.heap.objs.size a) h₁ tk _ ⟨q.is.kind, q.is.glob, q.is.blt, rfl, q.loc, q.gl, get_none_size _, x.toInCall.ns, fun i n v h1 h2 => bindL_get _ q.nd h1 h2 (q.loc n (List.mem_of_getElem? h1)), x.toInCall.keep⟩) q.is.co q.is.gen q.is.kind)

/-- one line of an __init__: self.n = n -/
noncomputable def setsOwn (st : Stmt) (n : PySem.Str) : Prop := ∃ p1 p2 p3 p4, st = .Assign [.Attribute (.Name "self" p1) n p2] (.Name n p3) p4

/-- an object under way -/
structure InstD (h : Heap) (x C dx : Addr) (mA : PySem.Str → Option Value) : Prop where
  inst : h.Inst x C mA
  dict : ∀ o, h.get? x = some o → o.dict = some dx

theorem set_own {env : Env} {h : Heap} {g : Array GenState} {d : Drawn} {t : Nat} {os : OsState} {nm q : PySem.Str} {C N x dx : Addr} {bs bm : List Value} {sn : List PySem.Str} {sub : List Value} {ab : Bool} {col : Option Bool} {dd : Option Addr} {k0 k1 k2 k3 k5 : Option Value} {B newId sa owner : String}
    {mN mA m : PySem.Str → Option Value} {name : PySem.Str} {v : Value} {st : Stmt} {Q : Flow → Shared → Prop} {E : Value → Shared → Prop} {ns : List PySem.Str} (SF : StoreFacts B bm sa owner) (hs : setsOwn st name)
    (hC : h.get? C = some (excClassObj nm q C N bs bm true sn sub ab col dd k0 k1 k2 k3 k5 newId)) (hn : h.Ns N mN) (hns : mN "__setattr__" = none) (hna : mN name = none)
    (hB : typeLookup (.type B) name = pure none) (hxC : x ≠ C) (I : InstD h x C dx mA)
    (hk : env.scope.kind = .function) (hl : h.Ns env.locals m) (k1' : env.kindOf "self" = some .local) (k2' : env.kindOf name = some .local) (v1 : m "self" = some (.ref x)) (v2 : m name = some v) (hdb : (name == ("__debug__" : PySem.Str)) = false) (hsz : ns.length ≤ sizeLine) (hw : Within mA ns)
    (hq : ∀ h' tk', InstD h' x C dx (fun y => if y = name then some v else mA y) → (∀ b o, b ≠ x → b ≠ dx → h.get? b = some o → h'.get? b = some o) → Q .next ⟨h', g, d, tk', os⟩) :
    wpAny (model prog w) A (exec st env) Q E ⟨h, g, d, t, os⟩ :=
  hs.elim fun p1 q => q.elim fun p2 q => q.elim fun p3 q => q.elim fun p4 q => q ▸
  plainObj_wpAny_Assign_Attribute (wpAny_Name (wpAny_loadName_local hk k2' hl v2 (wpAny_Name (wpAny_loadName_local hk k1' hl v1 (I.inst.elim fun o z =>
    store_attr SF hC hn hns hna hB hxC I.inst (fun h' tk' I' hk hsame => hq h' tk' ⟨I', fun o' ho' => (hsame o z.1).elim fun o₁ w => Option.some.inj (w.1.symm.trans ho') ▸ w.2.2.2.2 dx (I.dict o z.1)⟩
      fun b ob h1 h2 h3 => hk b ob h1 (fun o₀ dx' e1 e2 => (Option.some.inj ((I.dict o₀ e1).symm.trans e2)) ▸ h2) h3) hw hsz)) rfl)) hdb) rfl
end

structure TokInit (h₀ : Heap) (fI : Addr) (s1 s2 s3 : Stmt) : Prop where
  fn : PlainFn h₀ fI ["self", "sort", "value", "line"] [] [s1, s2, s3]
  s1 : setsOwn s1 "sort"
  s2 : setsOwn s2 "value"
  s3 : setsOwn s3 "line"
structure TokNs (h₀ : Heap) (mN : PySem.Str → Option Value) (fI : Addr) : Prop where
  getattribute : mN "__getattribute__" = none
  setattr : mN "__setattr__" = none
  sort : mN "sort" = none
  value : mN "value" = none
  line : mN "line" = none
  init : mN "__init__" = some (.ref fI)
  is : ∃ s1 s2 s3, TokInit h₀ fI s1 s2 s3
/-- the class of the tokens -/
structure TokIs (C : Cfg) : Prop where
  cls : ∃ nm q N bs sn sub col dd k0 k1 k2 k3 k5, C.h₀.get? C.tokC = some (excClassObj nm q C.tokC N bs [.type "object"] true sn sub false col dd k0 k1 k2 k3 k5 "object.__new__") ∧ ∃ mN fI, C.h₀.Ns N mN ∧ TokNs C.h₀ mN fI

theorem lk_obj_sort : typeLookup (.type "object") "sort" = pure none := by rw [typeLookup_type, builtinLookup_eq_fast]; kernel_rfl
theorem lk_obj_value : typeLookup (.type "object") "value" = pure none := by rw [typeLookup_type, builtinLookup_eq_fast]; kernel_rfl
theorem lk_obj_line : typeLookup (.type "object") "line" = pure none := by rw [typeLookup_type, builtinLookup_eq_fast]; kernel_rfl

section
variable {C : Cfg} {A : Around} {F : Fm}
theorem handed_ok {g : Gh} {v : V} {a : Value} (h : VR C g v a) : handedOut a = pure a :=
  h.weak (P := fun _ a => handedOut a = pure a) rfl (fun _ => rfl) (fun _ _ => rfl) (fun _ _ => rfl) fun _ _ _ => rfl

theorem attr_at (tk : TokIs C) : AttrAt C A F := fun {g loc c s v a f} r hv Q E G => by
  obtain ⟨nm, q, N, bs, sn, sub, col, dd, k0, k1, k2, k3, k5, hC, mN, fI, hN, T⟩ := tk.cls
  cases v with
  | tok s0 v0 l0 =>
    obtain ⟨p, x, y, z, rfl, ⟨d, D⟩, r1, r2, r3⟩ := hv
    obtain ⟨o, ho, o1, o2, o3⟩ := r.im _ _ D.im
    obtain ⟨od, hod, _, _, d3⟩ := r.im _ _ D.dim
    have I : s.heap.Inst p C.tokC (nsFind d.es) := ⟨o, ho, o1, fun c => by rw [o3]; exact D.noCls c, .inr ⟨d.dx, o2, D.ne, od, d.es, d.n, hod, d3, D.keys, D.uniq, fun _ => rfl⟩⟩
    have hN := r.ns0 hN
    obtain ⟨hp, gg, dr, t, os⟩ := s
    match f, G with
    | 0, G => exact load_attr (r.base _ _ hC) hN T.getattribute T.sort lk_obj_sort I D.fs (handed_ok r1) (G.now r r1)
    | 1, G => exact load_attr (r.base _ _ hC) hN T.getattribute T.value lk_obj_value I D.fv (handed_ok r2) (G.now r r2)
    | 2, G => exact load_attr (r.base _ _ hC) hN T.getattribute T.line lk_obj_line I D.fl (handed_ok r3) (G.now r r3)
    | n + 3, G => exact G.no
  | _ => exact G.no

theorem weight_tc (C : Addr) (r : List Value) (kw : List (PySem.Str × Value)) : (Code.builtin "type.__call__" ⟨.ref C :: r, kw⟩).weight = 1 := by kernel_rfl
theorem VRs.three {g : Gh} {vs : List V} {t : V} {vals : List Value} (e : tokOf vs = some t) (h : VRs C g vs vals) : ∃ a b c x y z, t = .tok a b c ∧ vals = [x, y, z] ∧ VR C g a x ∧ VR C g b y ∧ VR C g c z := by
  match vs, e with
  | [a, b, c], e =>
    obtain ⟨x, _, rfl, r1, y, _, rfl, r2, z, _, rfl, r3, h⟩ := h
    cases (h : _ = _)
    exact ⟨a, b, c, x, y, z, (Option.some.inj e).symm, rfl, r1, r2, r3⟩
theorem mk_at (oc : CfgOK C) (tk : TokIs C) (hd : A.depth + 8 < recursionLimit) : MkAt C A F := fun {g loc c s vs vals} r hv Q E G => by
  obtain ⟨nm, q, N, bs, sn, sub, col, dd, k0, k1, k2, k3, k5, hC, mN, fI, hN, T⟩ := tk.cls
  obtain ⟨s1, s2, s3, W⟩ := T.is
  obtain ⟨oI, fdI, agI, PI⟩ := id W.fn
  refine Goal.opt G fun tv etv G => ?_
  obtain ⟨a0, b0, c0, v1, v2, v3, rfl, rfl, r1, r2, r3⟩ := hv.three etv
  obtain ⟨hp, gg, dr, t, os⟩ := s
  have hC' := r.base _ _ hC
  have hN' : hp.Ns N mN := hN.keeps r.base
  refine wpAny_call_obj_init PySem.F.objNew hC' hN' T.init (r.base _ _ PI.get) PI.cls fun h' x dx mo => ?_
  have hb' : ∀ b o, C.h₀.get? b = some o → h'.get? b = some o := fun b o e => mo.keeps _ _ (r.base _ _ e)
  refine plain_call (s := ⟨h', gg, dr, t, os⟩) W.fn hb' oc.nolimit (by show A.depth + (Code.builtin "type.__call__" ⟨[.ref C.tokC, v1, v2, v3], []⟩).weight < _; rw [weight_tc]; exact Nat.lt_of_le_of_lt (Nat.add_le_add_left (by decide) _) hd) rfl fun env h₁ tk m P => ?_
  obtain ⟨ox, hox, i1, i2, i3⟩ := id mo.inst
  have dox := mo.dict ox hox
  have oldx : ∀ b o, hp.get? b = some o → b ≠ x ∧ b ≠ dx := fun b o e => ⟨fun q => some_none mo.newX (q ▸ e), fun q => some_none mo.newD (q ▸ e)⟩
  have hxC : x ≠ C.tokC := fun q => some_none mo.newX (q ▸ hC')
  have nex : env.locals ≠ x := fun q => some_none P.new (q ▸ hox)
  have ned : env.locals ≠ dx := i3.elim (fun q => some_none q.1 dox) fun q => q.elim fun d' q => q.2.2.elim fun od z => fun e => some_none P.new ((e.trans (Option.some.inj (dox.symm.trans q.1))) ▸ z.elim fun es z => z.elim fun n z => z.1)
  have old1 : ∀ b o, hp.get? b = some o → h₁.get? b = some o := fun b o e => P.keep _ _ (mo.keeps _ _ e)
  have D0 : InstD h₁ x C.tokC dx fun _ => none := ⟨⟨ox, P.keep _ _ hox, i1, i2, i3.imp id fun q => q.imp fun _ q => ⟨q.1, q.2.1, q.2.2.keeps P.keep⟩⟩, fun o e => Option.some.inj ((P.keep _ _ hox).symm.trans e) ▸ dox⟩
  have stay : ∀ {hh hh' : Heap}, hh.Ns env.locals m → (∀ b o, b ≠ x → b ≠ dx → hh.get? b = some o → hh'.get? b = some o) → hh'.Ns env.locals m := fun n k => n.imp fun o n => n.imp fun es n => n.imp fun ep n => ⟨k _ _ nex ned n.1, n.2⟩
  refine wpAny_execs_cons (set_own (ns := []) PySem.F.store_object W.s1 (old1 _ _ hC') (hN'.keeps old1) T.setattr T.sort lk_obj_sort hxC D0 P.kind P.ns (P.loc "self" (by decide)) (P.loc "sort" (by decide)) (P.val 0 _ _ rfl rfl) (P.val 1 _ _ rfl rfl) (by decide) (by decide) Within.nil fun hA tA DA kA => ?_)
  have oldA : ∀ b o, hp.get? b = some o → hA.get? b = some o := fun b o e => kA _ _ (oldx _ _ e).1 (oldx _ _ e).2 (old1 _ _ e)
  refine wpAny_execs_cons (set_own (ns := ["sort"]) PySem.F.store_object W.s2 (oldA _ _ hC') (hN'.keeps oldA) T.setattr T.value lk_obj_value hxC DA P.kind (stay P.ns kA) (P.loc "self" (by decide)) (P.loc "value" (by decide)) (P.val 0 _ _ rfl rfl) (P.val 2 _ _ rfl rfl) (by decide) (by decide) (Within.cons _ _ Within.nil) fun hB tB DB kB => ?_)
  have oldB : ∀ b o, hp.get? b = some o → hB.get? b = some o := fun b o e => kB _ _ (oldx _ _ e).1 (oldx _ _ e).2 (oldA _ _ e)
  refine wpAny_execs_cons (set_own (ns := ["value", "sort"]) PySem.F.store_object W.s3 (oldB _ _ hC') (hN'.keeps oldB) T.setattr T.line lk_obj_line hxC DB P.kind (stay (stay P.ns kA) kB) (P.loc "self" (by decide)) (P.loc "line" (by decide)) (P.val 0 _ _ rfl rfl) (P.val 3 _ _ rfl rfl) (by decide) (by decide) (Within.cons _ _ (Within.cons _ _ Within.nil)) fun hD tD DD kD => ?_)
  have oldD : ∀ b o, hp.get? b = some o → hD.get? b = some o := fun b o e => kD _ _ (oldx _ _ e).1 (oldx _ _ e).2 (oldB _ _ e)
  refine wpAny_execs_nil ⟨rfl, ?_⟩
  obtain ⟨ox, hox, i1, i2, i3⟩ := DD.inst
  have hdx := DD.dict _ hox
  obtain ⟨d', q, hne, od, es, n, hod, j1, j2, j3, j4⟩ := i3.resolve_left fun q => some_none q.1 hdx
  cases Option.some.inj (hdx.symm.trans q)
  have nx := r.none_of_new mo.newX
  have ny := r.none_of_new mo.newD
  have L1 : g.le (g.put dx (od.cls, od.dict, od.data)) := Gh.put_le ny.1.2
  have e2 : (g.put dx (od.cls, od.dict, od.data)).im x = none := (Gh.put_ne hne.symm).trans nx.1.2
  have L2 := L1.trans (Gh.put_le (x := (ox.cls, ox.dict, ox.data)) e2)
  have R2 := ((r.keeps oldD).put hod ny).put (a := x) hox ⟨⟨nx.1.1, e2⟩, nx.2⟩
  refine G.done (tk := tD) L2 ⟨R2, x, v1, v2, v3, rfl, ⟨⟨dx, es, n, od.cls, od.dict, ox.data⟩, Gh.put_self.trans (by rw [i1, hdx]), ((Gh.put_ne hne).trans Gh.put_self).trans (by rw [j1]), hne, i2, j2, j3, ?_, ?_, ?_⟩, r1.mono L2, r2.mono L2, r3.mono L2⟩ <;> exact (j4 _).trans rfl
end
end Mine
end
section
set_option Elab.async false
set_option maxRecDepth 100000
set_option linter.all false
namespace Mine
open PySem PySem.Spec PySem.Calls PyProof.Rows

noncomputable def bmE : List Value := [.type "Exception", .type "BaseException", .type "object"]
noncomputable def pfBm (P : Addr) : List Value := .ref P :: bmE
theorem has_E (P : Addr) : (pfBm P).contains (.type "Exception") = true := by unfold pfBm; rw [List.contains_cons, show bmE.contains (Value.type "Exception") = true by decide, Bool.or_true]
theorem has_BE (P : Addr) : (pfBm P).contains (.type "BaseException") = true := by unfold pfBm; rw [List.contains_cons, show bmE.contains (Value.type "BaseException") = true by decide, Bool.or_true]
theorem no_AE (P : Addr) : (pfBm P).contains (.type "AttributeError") = false := by unfold pfBm; rw [List.contains_cons, show bmE.contains (Value.type "AttributeError") = false by decide]; rfl
theorem no_NE (P : Addr) : (pfBm P).contains (.type "NameError") = false := by unfold pfBm; rw [List.contains_cons, show bmE.contains (Value.type "NameError") = false by decide]; rfl

section
variable {prog : Program} {w : World} {A : Around} {E : Value → Shared → Prop} {R : Result → Shared → Prop} {h : Heap} {g : Array GenState} {d : Drawn} {t : Nat} {os : OsState}
variable {nm q : PySem.Str} {C N P : Addr} {bs : List Value} {hdct : Bool} {sn : List PySem.Str} {sub : List Value} {ab : Bool} {col : Option Bool} {dd : Option Addr} {k0 k1 k2 k3 k5 : Option Value}

theorem pf_check_new {M : Model} {rest : List Value} {Q : Unit → Shared → Prop} (hC : h.get? C = some (excClassObj nm q C N bs (pfBm P) hdct sn sub ab col dd k0 k1 k2 k3 k5 "Exception.__new__"))
    (hq : Q () ⟨h, g, d, t, os⟩) : wpAny M A (checkBuiltinCall "Exception.__new__" ⟨.ref C :: rest, []⟩) Q E ⟨h, g, d, t, os⟩ := by
  have F := PySem.F.excBase_Exception
  have hcont : (Value.ref C :: pfBm P).contains (.type "Exception") = true := by rw [List.contains_cons, has_E, Bool.or_true]
  have hstar := F.noStar
  simp only [checkBuiltinCall, F.newKind, F.newSplit, F.newRow]
  repeat (first | refine wpAny_loadPart_at hC ?_ | (refine wpAny_isSubtype_exc hC ?_; rw [hcont]) | refine wpAny_staticBase_exc hC ?_ | refine wpAny_madeBy_exc hC ?_ | simp only [bne_self_eq_false, Bool.false_eq_true, if_false] | wp_step)
  exact hq

theorem pf_new {rest : List Value} (hC : h.get? C = some (excClassObj nm q C N bs (pfBm P) hdct sn sub ab col dd k0 k1 k2 k3 k5 "Exception.__new__"))
    (hq : R (.ok (.ret (.ref (h.objs.size + 1)))) ⟨(h.push { cls := .type "tuple", data := .seq rest.toArray }).push
      { cls := .ref C, data := .fields #[.ref h.objs.size, .none, .none, .none, .bool false, .none] }, g, d, t, os⟩) (hrest : rest.length ≤ sizeLine) :
    codeAny (model prog w) A (.builtin "Exception.__new__" ⟨.ref C :: rest, []⟩) R ⟨h, g, d, t, os⟩ := by
  have F := PySem.F.excBase_Exception
  have hends := F.ends
  have hcB : (Value.ref C :: pfBm P).contains (.type "Exception") = true := by rw [List.contains_cons, has_E, Bool.or_true]
  have hcA : (Value.ref C :: pfBm P).contains (.type "AttributeError") = false := by rw [List.contains_cons, no_AE]; rfl
  have hcN : (Value.ref C :: pfBm P).contains (.type "NameError") = false := by rw [List.contains_cons, no_NE]; rfl
  refine codeAny_builtinAt F.entry ?_
  unfold Builtin.«BaseException.__new__»
  refine PySem.wpAt_bind ?_
  show PySem.wpAt _ _ _ (PySem.stack >>= _) _ _ _
  refine PySem.wpAt_bind (PySem.wpAt_stack fun p below => PySem.wpAt_of_wpAny ?_)
  wp_walk
  refine PySem.wpAt_of_wpAny ?_
  rw [F.owner]
  repeat (first | with_reducible refine wpAny_madeHere_exc F.canon hC ?_ | with_reducible refine wpAny_loadPart_at hC ?_ | (with_reducible refine wpAny_isSubtype_exc hC ?_; first | rw [hcB] | rw [hcA] | rw [hcN]) | wp_step)
  show R _ _
  rw [Heap.size_push]
  exact hq

theorem pf_type_call {mN : PySem.Str → Option Value} {rest : List Value} {fI : Addr} {oI : Obj} {Q : Fin → Shared → Prop}
    (hC : h.get? C = some (excClassObj nm q C N bs (pfBm P) hdct sn sub ab col dd k0 k1 k2 k3 k5 "Exception.__new__")) (hn : h.Ns N mN) (hi : mN "__init__" = some (.ref fI))
    (hfI : h.get? fI = some oI) (hfc : oI.cls = .type "function")
    (hq : ∀ h' e, Heap.MadeExcOf h h' e (.ref C) rest →
      wpAny (model prog w) A (call (.ref fI) (.ref e :: rest)) (fun r s' => r = .none ∧ Q (.done (.ret (.ref e))) s') E ⟨h', g, d, t, os⟩) (hrest : rest.length ≤ sizeLine) :
    wpAny (model prog w) A (Builtin.«type.__call__» ⟨.ref C :: rest, []⟩) Q E ⟨h, g, d, t, os⟩ := by
  have F := PySem.F.excBase_Exception
  repeat (first | with_reducible refine wpAny_loadPart_at hC ?_ | with_reducible refine wpAny_madeBy_exc hC ?_ | wp_step)
  refine codeAny_call_builtin_code (Code.quiet_builtin _ F.quiet) (pf_check_new hC ?_)
  refine pf_new hC ?_ hrest
  show wpAny _ _ _ _ _ _
  have up : ∀ b o, h.get? b = some o → ((h.push { cls := .type "tuple", data := .seq rest.toArray }).push { cls := .ref C, data := .fields #[.ref h.objs.size, .none, .none, .none, .bool false, .none] }).get? b = some o :=
    fun b o e => Heap.get?_push_of_some _ (Heap.get?_push_of_some _ e)
  have hC₁ := up _ _ hC
  have hfI₁ := up _ _ hfI
  have hn₁ := hn.keeps up
  have hget : ((h.push { cls := .type "tuple", data := .seq rest.toArray }).push
      { cls := .ref C, data := .fields #[.ref h.objs.size, .none, .none, .none, .bool false, .none] }).get? (h.objs.size + 1) = some
      { cls := .ref C, data := .fields #[.ref h.objs.size, .none, .none, .none, .bool false, .none] } := by heap_get
  have hcC : (Value.ref C :: pfBm P).contains (.ref C) = true := by simp
  unfold isInstance
  repeat (first | with_reducible refine wpAny_loadPart_at hget ?_ | (with_reducible refine wpAny_isSubtype_exc hC₁ ?_; rw [hcC]) | wp_step)
  show wpAny _ _ (typeLookup (.ref C) _) _ _ _
  rw [typeLookup_eq]
  refine wpAny_bind (wpAny_mroOf_exc hC₁ ?_)
  rw [lookupAlong_cons]
  refine wpAny_bind (wpAny_classOwn_exc hC₁ hn₁ ?_)
  rw [hi]
  refine wpAny_pure ?_
  refine wpAny_holding (wpAny_bind ?_)
  unfold bindSpecial
  refine wpAny_bind (wpAny_typeOf (T := "function") ⟨_, hfI₁, hfc⟩ ?_)
  rw [if_pos (by decide)]
  refine wpAny_pure (wpAny_bind (wpAny_mono (hq _ (h.objs.size + 1) ⟨up, Heap.get?_none_of_le (Nat.le_succ _), h.objs.size, hget, Heap.get?_none_of_le (Nat.le_refl _), ?_⟩) (fun r s' hr => ?_) fun _ _ x => x))
  · exact Heap.get?_push_of_some _ (Heap.get?_push_at rfl rfl)
  · obtain ⟨rfl, hQ⟩ := hr
    wp_walk
    exact hQ

theorem pf_call {mN : PySem.Str → Option Value} {rest : List Value} {fI : Addr} {oI : Obj} {Q : Value → Shared → Prop}
    (hC : h.get? C = some (excClassObj nm q C N bs (pfBm P) hdct sn sub ab col dd k0 k1 k2 k3 k5 "Exception.__new__")) (hn : h.Ns N mN) (hi : mN "__init__" = some (.ref fI))
    (hfI : h.get? fI = some oI) (hfc : oI.cls = .type "function")
    (hq : ∀ h' e, Heap.MadeExcOf h h' e (.ref C) rest →
      wpAny (model prog w) (A.under (.builtin "type.__call__" ⟨.ref C :: rest, []⟩)) (call (.ref fI) (.ref e :: rest)) (fun r s' => r = .none ∧ Q (.ref e) s') E ⟨h', g, d, t, os⟩) (hrest : rest.length ≤ sizeLine) :
    wpAny (model prog w) A (call (.ref C) rest) Q E ⟨h, g, d, t, os⟩ := by
  have f1 := tc_lookup
  have f2 := tc_bind (.ref C)
  have hT : (⟨h, g, d, t, os⟩ : Shared).TypeIs (.ref C) "type" := ⟨_, hC, rfl⟩
  refine wpAny_call (codeAny_of_tree ?_)
  show wpAny _ _ (callAny (.ref C) _) _ _ _
  repeat (any_goals (first | assumption | with_reducible refine wpAny_loadPart_at hC ?_ | wp_step))
  refine ⟨rfl, ?_⟩
  exact codeAny_call_builtin_at (Code.quiet_builtin _ (by decide +kernel)) entry_typeCall (wpAny_check_type_call_sub hC (pf_type_call hC hn hi hfI hfc (fun h' e hm => hq h' e hm) hrest))
end
end Mine
end
section
set_option Elab.async false
set_option maxRecDepth 100000
set_option linter.all false
namespace Mine
open PySem PySem.Spec PySem.Calls PyProof.Rows Builtin Builtin.ObjectAttr

section
variable {prog : Program} {w : World} {A : Around} {E : Value → Shared → Prop} {R : Result → Shared → Prop} {h : Heap} {g : Array GenState} {d : Drawn} {t : Nat} {os : OsState}
variable {nm q nm' q' : PySem.Str} {C N P NP e : Addr} {bs bs' : List Value} {sn sn' : List PySem.Str} {sub sub' : List Value} {ab ab' hd' : Bool} {col col' : Option Bool} {dd dd' : Option Addr} {k0 k1 k2 k3 k5 j0 j1 j2 j3 j5 : Option Value}
  {mN mP : PySem.Str → Option Value} {name : PySem.Str} {v : Value}

theorem pf_lookup {M : Model} {y : Option Value} {Q : Option Value → Shared → Prop}
    (hC : h.get? C = some (excClassObj nm q C N bs (pfBm P) true sn sub ab col dd k0 k1 k2 k3 k5 "Exception.__new__")) (hn : h.Ns N mN)
    (hP : h.get? P = some (excClassObj nm' q' P NP bs' bmE hd' sn' sub' ab' col' dd' j0 j1 j2 j3 j5 "Exception.__new__")) (hp : h.Ns NP mP)
    (e1 : mN name = none) (e2 : mP name = none) (hB : typeLookup (.type "Exception") name = pure y) (hq : Q y ⟨h, g, d, t, os⟩) : wpAny M A (typeLookup (.ref C) name) Q E ⟨h, g, d, t, os⟩ := by
  have hrest : lookupAlong bmE name = pure y := by rw [typeLookup_eq, PySem.F.excBase_Exception.mroIs] at hB; exact hB
  rw [typeLookup_eq]
  refine wpAny_bind (wpAny_mroOf_exc hC ?_)
  rw [lookupAlong_cons]
  refine wpAny_bind (wpAny_classOwn_exc hC hn ?_)
  rw [e1]
  show wpAny M A (lookupAlong (.ref P :: bmE) name) Q E _
  rw [lookupAlong_cons]
  refine wpAny_bind (wpAny_classOwn_exc hP hp ?_)
  rw [e2]
  show wpAny M A (lookupAlong bmE name) Q E _
  rw [hrest]
  exact wpAny_pure hq

/-- Exception.__init__ of such an exception -/
theorem pf_check_init {M : Model} {oe : Obj} {rest : List Value} {Q : Unit → Shared → Prop}
    (hC : h.get? C = some (excClassObj nm q C N bs (pfBm P) true sn sub ab col dd k0 k1 k2 k3 k5 "Exception.__new__")) (he : h.get? e = some oe) (hcls : oe.cls = .ref C) (hq : Q () ⟨h, g, d, t, os⟩) :
    wpAny M A (checkBuiltinCall "Exception.__init__" ⟨.ref e :: rest, []⟩) Q E ⟨h, g, d, t, os⟩ := by
  have F := PySem.F.excBase_Exception
  have hcB : (Value.ref C :: pfBm P).contains (.type "Exception") = true := by rw [List.contains_cons, has_E, Bool.or_true]
  have hshort := F.noStar
  simp only [checkBuiltinCall, F.initKind, F.initSplit, F.initRow]
  repeat (first | (with_reducible refine wpAny_loadPart_at he ?_; rw [hcls]) | with_reducible refine wpAny_loadPart_at hC ?_ | (with_reducible refine wpAny_isSubtype_exc hC ?_; rw [hcB]) | wp_step)
  refine wpAny_onRaise ?_
  rw [show ∀ (a b : String) (n : Nat), Bind.check ⟨.positional, "*", "Exception", .self, [⟨"args", .varPos, false⟩]⟩ a b n (List.map (fun x => x.fst) ({ pos := Value.ref e :: rest } : Args).kw) = pure () from
    fun a b n => check_star_args _ _ _ _ _ _]
  exact wpAny_pure hq

theorem pf_init {a : Addr} {x : Value} {Q : Value → Shared → Prop}
    (hC : h.get? C = some (excClassObj nm q C N bs (pfBm P) true sn sub ab col dd k0 k1 k2 k3 k5 "Exception.__new__")) (he : h.get? e = some { cls := .ref C, data := .fields #[.ref a, .none, .none, .none, .bool false, .none] })
    (hq : ∀ h' a', (∀ b o, b ≠ e → h.get? b = some o → h'.get? b = some o) → h'.get? e = some { cls := .ref C, data := .fields #[.ref a', .none, .none, .none, .bool false, .none] } → Q .none ⟨h', g, d, t, os⟩) :
    wpAny (model prog w) A (call (.builtin "Exception.__init__") [.ref e, x]) Q E ⟨h, g, d, t, os⟩ := by
  have F := PySem.F.excBase_Exception
  refine wpAny_call (codeAny_call_builtin F.init.plain F.initEntry (pf_check_init hC he rfl ?_))
  wp_walk
  refine hq _ h.objs.size (fun b o hb hbo => ?_) ?_
  · rw [Heap.get?_update_other _ _ hb.symm]
    exact Heap.get?_push_of_some _ hbo
  · rw [Heap.get?_update_self _ (Heap.get?_push_of_some _ he) rfl]
    rfl

theorem own_store_tail {tk : Tok} {o : Obj} {mA : PySem.Str → Option Value} {ns : List PySem.Str} {b : Bool} {Q : Fin → Shared → Prop}
    (hC : h.get? C = some (excClassObj nm q C N bs (pfBm P) true sn sub ab col dd k0 k1 k2 k3 k5 "Exception.__new__")) (he : h.get? e = some o) (hc : o.cls = .ref C) (hnc : ∀ c, o.data ≠ .cls c)
    (hd : (o.dict = none ∧ ∀ n, mA n = none) ∨ ∃ dx, o.dict = some dx ∧ dx ≠ e ∧ h.Ns1 dx mA) (hw : Within mA ns) (hsz : ns.length ≤ 1000)
    (hq : ∀ h' tk' dx, ((o.dict = none ∧ h.get? dx = none) ∨ o.dict = some dx) → (∀ b ob, b ≠ e → b ≠ dx → h.get? b = some ob → h'.get? b = some ob) → h'.get? e = some { o with dict := some dx } → dx ≠ e →
      h'.Ns1 dx (fun y => if y = name then some v else mA y) → Q (.done (.ret .none)) ⟨h', g, d, tk', os⟩) :
    wpAny (model prog w) A (storeInOwnDict (.ref e) (.ref C) (.str name tk) name v b) Q E ⟨h, g, d, t, os⟩ := by
  unfold storeInOwnDict
  repeat (first | (with_reducible refine wpAny_loadPart_at he ?_; rw [hc]) | with_reducible refine wpAny_loadPart_at hC ?_ | wp_step)
  rcases hd with ⟨hdn, hmA⟩ | ⟨dx, hdx, hne, hns⟩
  · rw [hdn]
    have hes : e ≠ h.objs.size := Nat.ne_of_lt (Heap.lt_size he)
    rw [if_neg (show ¬ (!true || !typeHasDict (Value.ref C)) = true by simp [typeHasDict])]
    split
    · rename_i hcd; cases hcd
    split
    · rename_i c hcd; exact absurd hcd (hnc c)
    refine wpAny_bind (wpAny_alloc' (wpAny_bind (wpAny_update' (Heap.get?_push_of_some _ he) (wpAny_pure ?_))))
    have gd : ((h.push { cls := .type "dict", data := .dict #[] }).update e fun o => { cls := o.cls, dict := some h.objs.size, data := o.data, slots := o.slots }).get? h.objs.size = some { cls := .type "dict", data := .dict #[] } :=
      (Heap.get?_update_ne _ _ _ _ hes.symm).trans (Heap.get?_push_at rfl rfl)
    have nd : ((h.push { cls := .type "dict", data := .dict #[] }).update e fun o => { cls := o.cls, dict := some h.objs.size, data := o.data, slots := o.slots }).Ns h.objs.size (fun _ => none) :=
      ⟨_, #[], _, gd, rfl, fun x hx => absurd hx (by simp), fun _ => rfl⟩
    show wpAny _ _ (storeInDict h.objs.size (.str name tk) name v) _ _ _
    refine wpAny_bind (wpAny_pure (wpAny_bind (wpAny_nsSet1 (Heap.Ns1.of_empty nd) fun h' hn' hs => ?_)))
    obtain ⟨oD, esD, epD, hoD, hdD, hcD⟩ := hn'.count (Within.cons name v Within.nil)
    refine wpAny_bind (wpAny_lookBehind hoD (by rw [hdD]; exact pastItsLine_dict (Nat.le_trans hcD (by rw [List.length_cons, List.length_nil, sizeLine_eq]; omega))) (wpAny_pure ?_))
    refine hq h' _ h.objs.size (.inl ⟨hdn, get_none_size h⟩) (fun b ob h1 h2 hb => ?_) ?_ hes.symm ?_
    · exact (hs.2 b h2).trans ((Heap.get?_update_ne _ _ _ _ h1).trans (Heap.get?_push_of_some _ hb))
    · refine (hs.2 e hes).trans (Heap.get?_update_self _ (Heap.get?_push_of_some _ he) ?_)
      have hfr := (Heap.get?_some_iff.mp he).2
      obtain ⟨oc, od, odt, osl⟩ := o
      cases odt <;> first | rfl | exact hfr
    · obtain ⟨o', es, ep, e1, e2, e3, eu, e4⟩ := hn'
      exact ⟨o', es, ep, e1, e2, e3, eu, fun y => by rw [e4 y]; by_cases hy : y = name <;> simp [hy, hmA]⟩
  · rw [hdx]
    refine wpAny_pure ?_
    show wpAny _ _ (storeInDict dx (.str name tk) name v) _ _ _
    refine wpAny_bind (wpAny_pure (wpAny_bind (wpAny_nsSet1 hns fun h' hn' hs => ?_)))
    obtain ⟨oD, esD, epD, hoD, hdD, hcD⟩ := hn'.count (Within.cons name v hw)
    refine wpAny_bind (wpAny_lookBehind hoD (by rw [hdD]; exact pastItsLine_dict (Nat.le_trans hcD (by rw [List.length_cons, sizeLine_eq]; omega))) (wpAny_pure ?_))
    refine hq h' _ dx (.inr hdx) (fun b ob _ h2 hb => (hs.2 b h2).trans hb) ?_ hne hn'
    rw [hs.2 e hne.symm, he]
    obtain ⟨oc, od, odt, osl⟩ := o
    cases hdx; rfl

set_option maxHeartbeats 1000000 in
/-- self.name = v in such an exception -/
theorem pf_store {o : Obj} {mA : PySem.Str → Option Value} {ns : List PySem.Str} {Q : Unit → Shared → Prop}
    (hC : h.get? C = some (excClassObj nm q C N bs (pfBm P) true sn sub ab col dd k0 k1 k2 k3 k5 "Exception.__new__")) (hn : h.Ns N mN)
    (hP : h.get? P = some (excClassObj nm' q' P NP bs' bmE hd' sn' sub' ab' col' dd' j0 j1 j2 j3 j5 "Exception.__new__")) (hp : h.Ns NP mP)
    (s1 : mN "__setattr__" = none) (s2 : mP "__setattr__" = none) (e1 : mN name = none) (e2 : mP name = none) (hB : typeLookup (.type "Exception") name = pure none)
    (he : h.get? e = some o) (hc : o.cls = .ref C) (hnc : ∀ c, o.data ≠ .cls c)
    (hd : (o.dict = none ∧ ∀ n, mA n = none) ∨ ∃ dx, o.dict = some dx ∧ dx ≠ e ∧ h.Ns1 dx mA) (hw : Within mA ns) (hsz : ns.length ≤ 1000)
    (hq : ∀ h' tk' dx, ((o.dict = none ∧ h.get? dx = none) ∨ o.dict = some dx) → (∀ b ob, b ≠ e → b ≠ dx → h.get? b = some ob → h'.get? b = some ob) → h'.get? e = some { o with dict := some dx } → dx ≠ e →
      h'.Ns1 dx (fun y => if y = name then some v else mA y) → Q () ⟨h', g, d, tk', os⟩) :
    wpAny (model prog w) A (setAttr (.ref e) name v) Q E ⟨h, g, d, t, os⟩ := by
  have SF := PySem.F.store_Exception
  have f3 := SF.slot.bind (.ref e)
  have hpass := SF.passes (.ref e)
  have hcB : (Value.ref C :: pfBm P).contains (.type "object") = true := by
    rw [List.contains_cons]; unfold pfBm; rw [List.contains_cons, show bmE.contains (Value.type "object") = true by decide]; simp
  unfold setAttr callSpecial? specialOf
  repeat (any_goals (first | assumption | (with_reducible refine wpAny_loadPart_at he ?_; rw [hc]) | (with_reducible refine pf_lookup hC hn hP hp s1 s2 SF.slot.lookup ?_) | wp_step))
  refine codeAny_call_builtin SF.slot.plain SF.entry ?_
  · have ha := SF.args (.ref e) (.str name t) v
    simp only [checkBuiltinCall, SF.kind, SF.split]
    refine wpAny_bind ?_
    unfold isInstance
    repeat (first | (with_reducible refine wpAny_loadPart_at he ?_; rw [hc]) | (with_reducible refine wpAny_isSubtype_exc hC ?_; rw [hcB]) | wp_step)
    refine pf_lookup hC hn hP hp e1 e2 hB ?_
    refine wpAny_bind (wpAny_pure ?_)
    refine own_store_tail hC he hc hnc hd hw hsz fun h' tk' dx x1 x2 x3 x4 x5 => ?_
    exact wpAny_pure (wpAny_pure (hq h' tk' dx x1 x2 x3 x4 x5))
end
end Mine
end
section
set_option Elab.async false
set_option maxRecDepth 100000
set_option linter.all false
namespace Mine
open PySem PySem.Spec PySem.Calls PyProof.Rows PySem.W

set_option genInjectivity false in
set_option genSizeOf false in
/-- the exception class of the text -/
structure PfD (C : Cfg) where
  (P fI fP : Addr) (cd cd' : ClassData) (dd dd' : Option Addr) (k0 k1 k2 k3 k5 j0 j1 j2 j3 j5 : Option Value)
  (mN mP : PySem.Str → Option Value)
  hC : C.h₀.get? C.pfC = some (excClassObj cd.name cd.qualname C.pfC cd.ns cd.bases (pfBm P) true cd.slotNames cd.subclasses cd.abstract cd.collection dd k0 k1 k2 k3 k5 "Exception.__new__")
  hN : C.h₀.Ns cd.ns mN
  hP : C.h₀.get? P = some (excClassObj cd'.name cd'.qualname P cd'.ns cd'.bases bmE cd'.hasDict cd'.slotNames cd'.subclasses cd'.abstract cd'.collection dd' j0 j1 j2 j3 j5 "Exception.__new__")
  hNP : C.h₀.Ns cd'.ns mP
  initC : mN "__init__" = some (.ref fI)
  noC : ∀ n ∈ (["__setattr__", "__getattribute__", "__getattr__", "why", "line"] : List PySem.Str), mN n = none
  noP : ∀ n ∈ (["__setattr__", "__getattribute__", "__getattr__", "why", "line"] : List PySem.Str), mP n = none
  K : Frag
  KIn : K.In C.h₀
  reads : readsIn K P (.type "type") = true
  find : findCls K (.ref P) (.type "type") "__init__" = some (.val (.ref fP))
  spec : specialIn K (.ref P) "__getattribute__" = some (some (.builtin "type.__getattribute__"))
  gP : C.mg "PhpFault" = some (.ref P)
  gC : C.mg "ParseFault" = some (.ref C.pfC)
  gE : C.mg "Exception" = none
  (c1 c2 d1 d2 : Stmt)
  bodyC : PlainFn C.h₀ fI ["self", "why", "line"] ["PhpFault"] [c1, c2]
  bodyP : PlainFn C.h₀ fP ["self", "why"] ["Exception"] [d1, d2]
  isC1 : ∃ p1 p2 p3 p4 p5 p6, c1 = .Expr (.Call (.Attribute (.Name "PhpFault" p1) "__init__" p2) [.Name "self" p3, .Name "why" p4] [] p5) p6 ∧ (p2.endLine == p5.line) = true
  isC2 : setsOwn c2 "line"
  isD1 : ∃ p1 p2 p3 p4 p5 p6, d1 = .Expr (.Call (.Attribute (.Name "Exception" p1) "__init__" p2) [.Name "self" p3, .Name "why" p4] [] p5) p6 ∧ (p2.endLine == p5.line) = true
  isD2 : setsOwn d2 "why"

section
variable {prog : Program} {w : World} {A : Around} {E : Value → Shared → Prop} {s : Shared} {env : Env}

theorem Call_method_any {o : Expr} {name : PySem.Str} {apos pos : Pos} {es : List Expr} {Q : Value → Shared → Prop} (hb : baseOK o = true) (hl : es.length < 29) (hs : es.all notStar = true) (hline : (apos.endLine == pos.line) = true)
    (h : wpAny (model prog w) A (eval o env) (fun ov s₁ => ∀ pl, wpAny (model prog w) A (getMethod ov name pl) (fun fx s₂ => wpAny (model prog w) A (callWith pos fx.1 fx.2 (backTo pos (starEach es env)) []) Q E s₂) E s₁) E s) :
    wpAny (model prog w) A (eval (.Call (.Attribute o name apos) es [] pos) env) Q E s := by
  have hany := backTo_any (pos := pos) (env := env) hs
  have hall : (backTo pos (starEach es env)).all (fun x => !x.1) = true := List.all_eq_true.mpr fun y hy => by rw [Bool.eq_false_iff.mpr (List.any_eq_false.mp hany y hy)]; rfl
  have hform : methodCallForm (es.length + ([] : List Keyword).length) (backTo pos (starEach es env)) (backToKw pos (keywordEach [] env)) = true := by
    unfold methodCallForm
    rw [hall]
    exact decide_eq_true (show es.length + 0 + 0 < 30 from Nat.lt_succ_of_lt hl)
  rw [arm_eval_Call, base_ok hb]
  refine wpAny_bind (wpAny_mono h (fun ov s₁ h₁ => ?_) fun _ _ e => e)
  refine wpAny_bind (wpAny_standAt ?_)
  have hpos : methodCallPos true o env apos pos = pure pos := by unfold methodCallPos; simp [hline]
  unfold methodCall
  rw [hform]
  refine wpAny_bind (wpAny_holding (wpAny_mono (h₁ _) (fun fx s₂ h₂ => ?_) fun _ _ e => e))
  obtain ⟨f, first⟩ := fx
  exact wpAny_bind (wpAny_of_eq hpos h₂)

theorem P_method {C : Cfg} (D : PfD C) {pl : Sem Bool} {Q : Value × List Value → Shared → Prop} (hb : ∀ b o, C.h₀.get? b = some o → s.heap.get? b = some o) (h : Q (.ref D.fP, []) { s with toks := s.toks + 1 }) :
    wpAny (model prog w) A (getMethod (.ref D.P) "__init__" pl) Q E s :=
  method_cls (D.KIn.keeps hb) D.spec (cls_value (D.KIn.keeps hb) D.reads D.find rfl h)

theorem E_type : typeOf (.type "Exception") = pure (.type "type") := by kernel_rfl
theorem E_find : findCls [] (.type "Exception") (.type "type") "__init__" = some (.val (.builtin "Exception.__init__")) := by kernel_rfl
theorem E_opaque : opaqueClassAbove (.type "Exception") = pure none := by kernel_rfl
theorem nilIn {h : Heap} : Frag.In [] h := fun a o e => by cases e
theorem E_method {pl : Sem Bool} {Q : Value × List Value → Shared → Prop} (h : Q (.builtin "Exception.__init__", []) { s with toks := s.toks + 1 }) :
    wpAny (model prog w) A (getMethod (.type "Exception") "__init__" pl) Q E s := by
  unfold getMethod
  refine wpAny_bind (((Looks.of_pure E_type).andThen (Looks.of_pure KF.slot_tga.lookup)).here ?_)
  dsimp only
  rw [if_pos canon_tga]
  refine wpAny_bind (cls_open (K := []) (mc := .type "type") (hook := none) nilIn (Looks.of_pure E_opaque) (Looks.of_pure E_type) (by kernel_rfl) (Looks.of_pure (by kernel_rfl)) (by kernel_rfl) E_find (wpAny_pure ?_))
  show wpAny _ _ (handedOut (.builtin "Exception.__init__")) _ _ _
  rw [handedOut_of (by kernel_rfl)]
  exact wpAny_pure (wpAny_pure h)

noncomputable def excObj (C : Addr) (a : Addr) (dx : Option Addr) : Obj := { cls := .ref C, dict := dx, data := .fields #[.ref a, .none, .none, .none, .bool false, .none] }
theorem lk_why : typeLookup (.type "Exception") "why" = pure none := by rw [typeLookup_type, builtinLookup_eq_fast]; kernel_rfl
theorem lk_line : typeLookup (.type "Exception") "line" = pure none := by rw [typeLookup_type, builtinLookup_eq_fast]; kernel_rfl

variable {h : Heap} {g : Array GenState} {d : Drawn} {t : Nat} {os : OsState}

theorem name_arg {M : Model} {n : PySem.Str} {p : Pos} {v : Value} {m : PySem.Str → Option Value} {Q : Value → Shared → Prop} (hk : env.scope.kind = .function) (hl : s.heap.Ns env.locals m) (k : env.kindOf n = some .local) (hv : m n = some v) (hd : (n == ("__debug__" : PySem.Str)) = false) (hq : Q v s) :
    wpAny M A (eval (.Name n p) env) Q E s := wpAny_Name (wpAny_loadName_local hk k hl hv hq) hd

theorem two_args {M : Model} {f : Value} {pos p3 p4 : Pos} {n1 n2 : PySem.Str} {v1 v2 : Value} {m : PySem.Str → Option Value} {Q : Args → Shared → Prop} (hk : env.scope.kind = .function) (hl : s.heap.Ns env.locals m) (k1 : env.kindOf n1 = some .local) (k2 : env.kindOf n2 = some .local) (h1 : m n1 = some v1) (h2 : m n2 = some v2)
    (d1 : (n1 == ("__debug__" : PySem.Str)) = false) (d2 : (n2 == ("__debug__" : PySem.Str)) = false) (hq : Q ⟨[v1, v2], []⟩ s) :
    wpAny M A (evalArgs f true (backTo pos (starEach [.Name n1 p3, .Name n2 p4] env)) []) Q E s := by
  refine evalArgs_es (by rfl) (wpAny_items_cons (name_arg hk hl k1 h1 d1 ?_) (starEach_cons (by rfl)))
  exact wpAny_items_cons (name_arg hk hl k2 h2 d2 (wpAny_items_nil hq)) (starEach_cons (by rfl))

theorem own_line {st : Stmt} {name : PySem.Str} {v : Value} {e : Addr} {m : PySem.Str → Option Value} {Q : Flow → Shared → Prop} (hs : setsOwn st name) (hk : env.scope.kind = .function) (hl : s.heap.Ns env.locals m) (k1 : env.kindOf "self" = some .local) (k2 : env.kindOf name = some .local)
    (v1 : m "self" = some (.ref e)) (v2 : m name = some v) (hdb : (name == ("__debug__" : PySem.Str)) = false) (h : wpAny (model prog w) A (setAttr (.ref e) name v) (fun _ => Q .next) E s) : wpAny (model prog w) A (exec st env) Q E s := by
  obtain ⟨p1, p2, p3, p4, rfl⟩ := hs
  exact plainObj_wpAny_Assign_Attribute (name_arg hk hl k2 v2 hdb (name_arg hk hl k1 v1 rfl h)) rfl

theorem php_init {C : Cfg} (oc : CfgOK C) (D : PfD C) {e a : Addr} {why : Value} {Q : Value → Shared → Prop} (hb : ∀ b o, C.h₀.get? b = some o → h.get? b = some o) (he : h.get? e = some (excObj C.pfC a none)) (hnew : C.h₀.get? e = none) (hd : A.depth < recursionLimit)
    (hq : ∀ h' tk' dx a', h.get? dx = none → dx ≠ e → (∀ b o, b ≠ e → h.get? b = some o → h'.get? b = some o) → h'.get? e = some (excObj C.pfC a' (some dx)) → h'.Ns1 dx (fun y => if y = "why" then some why else none) → Q .none ⟨h', g, d, tk', os⟩) :
    wpAny (model prog w) A (call (.ref D.fP) [.ref e, why]) Q E ⟨h, g, d, t, os⟩ := by
  refine plain_call (s := ⟨h, g, d, t, os⟩) D.bodyP hb oc.nolimit hd rfl fun env h₁ tk m P => ?_
  obtain ⟨e1, e2, e3, e4, e5, e6, e7, hns, hm, hk⟩ := P
  obtain ⟨p1, p2, p3, p4, p5, p6, hst, hline⟩ := D.isD1
  rw [hst]
  have ne : env.locals ≠ e := fun q => some_none e7 (q ▸ he)
  have hb1 : ∀ b o, C.h₀.get? b = some o → h₁.get? b = some o := fun b o q => hk _ _ (hb _ _ q)
  have l1 := e5 "self" (by decide)
  have l2 := e5 "why" (by decide)
  have a1 := hm 0 _ _ rfl rfl
  have a2 := hm 1 _ _ rfl rfl
  have hC1 := hb1 _ _ D.hC
  have hP1 := hb1 _ _ D.hP
  have hN1 := D.hN.keeps hb1
  have hNP1 := D.hNP.keeps hb1
  have eC : e ≠ C.pfC := fun q => by
    have := hb _ _ D.hC; rw [← q, he] at this
    simp [excObj, excClassObj] at this
  refine wpAny_execs_cons (wpAny_Expr_any (Call_method_any rfl (by show 2 < 29; decide) rfl hline ?_) (by unfold interactive; rw [e1]; rfl) rfl)
  refine Name_function_global e1 (e6 "Exception" (by decide)) (loadGlobal_builtin (s := ⟨h₁, g, d, tk, os⟩) (by rw [e2]; exact oc.mgN.keeps hb1) D.gE (by rw [e3]; exact oc.mbN.keeps hb1) ((oc.blt "Exception" (by decide)).trans Boot.«Exception») ?_) rfl
  intro pl
  refine E_method ?_
  refine callWith_mach rfl (backTo_any rfl) (two_args e1 hns l1 l2 a1 a2 rfl rfl ?_)
  refine pf_init hC1 (hk _ _ he) fun h2 a' k2 he2 => ?_
  have nb : ∀ b o, C.h₀.get? b = some o → b ≠ e := fun b o q z => some_none hnew (z ▸ q)
  have hb2 : ∀ b o, C.h₀.get? b = some o → h2.get? b = some o := fun b o q => k2 _ _ (nb _ _ q) (hb1 _ _ q)
  have hns2 : h2.Ns env.locals m := hns.imp fun o n => n.imp fun es n => n.imp fun ep n => ⟨k2 _ _ ne n.1, n.2⟩
  refine wpAny_execs_cons (own_line (s := ⟨h2, g, d, _, os⟩) D.isD2 e1 hns2 l1 l2 a1 a2 rfl ?_)
  refine pf_store (mA := fun _ => none) (ns := []) (hb2 _ _ D.hC) (D.hN.keeps hb2) (hb2 _ _ D.hP) (D.hNP.keeps hb2) (D.noC _ (by decide)) (D.noP _ (by decide)) (D.noC _ (by decide)) (D.noP _ (by decide)) lk_why he2 rfl (fun c q => by cases q) (.inl ⟨rfl, fun _ => rfl⟩) Within.nil (by decide)
    fun h3 tk3 dx x1 x2 x3 x4 x5 => wpAny_execs_nil ?_
  have hdx : h.get? dx = none := x1.elim (fun x1 => Option.eq_none_iff_forall_ne_some.mpr fun o q => some_none x1.2 (k2 _ _ x4 (hk _ _ q))) fun x1 => nomatch x1
  exact hq h3 tk3 dx a' hdx x4 (fun b o q1 q2 => x2 _ _ q1 (fun z => some_none hdx (z ▸ q2)) (k2 _ _ q1 (hk _ _ q2))) x3 x5

theorem pf_init_run {C : Cfg} (oc : CfgOK C) (D : PfD C) {e a : Addr} {why line : Value} {Q : Value → Shared → Prop} (hb : ∀ b o, C.h₀.get? b = some o → h.get? b = some o) (he : h.get? e = some (excObj C.pfC a none)) (hnew : C.h₀.get? e = none) (hd : A.depth + 1 < recursionLimit)
    (hq : ∀ h' tk' dx a', h.get? dx = none → dx ≠ e → (∀ b o, b ≠ e → h.get? b = some o → h'.get? b = some o) → h'.get? e = some (excObj C.pfC a' (some dx)) → h'.Ns1 dx (fun y => if y = "line" then some line else if y = "why" then some why else none) → Q .none ⟨h', g, d, tk', os⟩) :
    wpAny (model prog w) A (call (.ref D.fI) [.ref e, why, line]) Q E ⟨h, g, d, t, os⟩ := by
  refine plain_call (s := ⟨h, g, d, t, os⟩) D.bodyC hb oc.nolimit (by omega) rfl fun env h₁ tk m P => ?_
  obtain ⟨e1, e2, e3, e4, e5, e6, e7, hns, hm, hk⟩ := P
  obtain ⟨p1, p2, p3, p4, p5, p6, hst, hline⟩ := D.isC1
  rw [hst]
  have ne : env.locals ≠ e := fun q => some_none e7 (q ▸ he)
  have hb1 : ∀ b o, C.h₀.get? b = some o → h₁.get? b = some o := fun b o q => hk _ _ (hb _ _ q)
  have l1 := e5 "self" (by decide)
  have l2 := e5 "why" (by decide)
  have l3 := e5 "line" (by decide)
  have a1 := hm 0 _ _ rfl rfl
  have a2 := hm 1 _ _ rfl rfl
  have a3 := hm 2 _ _ rfl rfl
  obtain ⟨oP, fdP, argsP, PP⟩ := D.bodyP
  refine wpAny_execs_cons (wpAny_Expr_any (Call_method_any rfl (by show 2 < 29; decide) rfl hline ?_) (by unfold interactive; rw [e1]; rfl) rfl)
  refine Name_function_global e1 (e6 "PhpFault" (by decide)) (loadGlobal_global (s := ⟨h₁, g, d, tk, os⟩) (by rw [e2]; exact oc.mgN.keeps hb1) D.gP ?_) rfl
  intro pl
  refine P_method (s := ⟨h₁, g, d, tk, os⟩) D hb1 ?_
  refine callWith_function (o := oP) (fd := fdP) (two_args e1 hns l1 l2 a1 a2 rfl rfl ⟨⟨hb1 _ _ PP.get, PP.data⟩, ?_⟩)
  refine php_init oc D hb1 (hk _ _ he) hnew (by show A.depth + 1 < _; omega) fun h2 tk2 dx a' x1 x2 x3 x4 x5 => ?_
  have nb : ∀ b o, C.h₀.get? b = some o → b ≠ e := fun b o q z => some_none hnew (z ▸ q)
  have hb2 : ∀ b o, C.h₀.get? b = some o → h2.get? b = some o := fun b o q => x3 _ _ (nb _ _ q) (hb1 _ _ q)
  have hns2 : h2.Ns env.locals m := hns.imp fun o n => n.imp fun es n => n.imp fun ep n => ⟨x3 _ _ ne n.1, n.2⟩
  refine wpAny_execs_cons (own_line (s := ⟨h2, g, d, _, os⟩) D.isC2 e1 hns2 l1 l3 a1 a3 rfl ?_)
  refine pf_store (mA := fun y => if y = "why" then some why else none) (ns := ["why"]) (hb2 _ _ D.hC) (D.hN.keeps hb2) (hb2 _ _ D.hP) (D.hNP.keeps hb2) (D.noC _ (by decide)) (D.noP _ (by decide)) (D.noC _ (by decide)) (D.noP _ (by decide)) lk_line x4 rfl (fun c q => by cases q) (.inr ⟨dx, rfl, x2, x5⟩) (Within.cons _ _ Within.nil) (by decide)
    fun h3 tk3 dx' y1 y2 y3 y4 y5 => wpAny_execs_nil ?_
  have hdx : dx' = dx := y1.elim (fun y1 => nomatch y1.1) fun y1 => (Option.some.inj y1).symm
  subst hdx
  have hdx : h.get? dx' = none := Option.eq_none_iff_forall_ne_some.mpr fun o q => some_none x1 (hk _ _ q)
  exact hq h3 tk3 dx' a' hdx y4 (fun b o q1 q2 => y2 _ _ q1 (fun z => some_none hdx (z ▸ q2)) (x3 _ _ q1 (hk _ _ q2))) y3 y5

/-- such an exception is made -/
theorem mk_pf {C : Cfg} (oc : CfgOK C) (D : PfD C) {why line : Value} {Q : Value → Shared → Prop} (hb : ∀ b o, C.h₀.get? b = some o → h.get? b = some o) (hd : A.depth + 3 < recursionLimit)
    (hq : ∀ h' tk' e dx a', h.get? e = none → h.get? dx = none → dx ≠ e → (∀ b o, h.get? b = some o → h'.get? b = some o) → h'.get? e = some (excObj C.pfC a' (some dx)) → h'.Ns1 dx (fun y => if y = "line" then some line else if y = "why" then some why else none) → Q (.ref e) ⟨h', g, d, tk', os⟩) :
    wpAny (model prog w) A (call (.ref C.pfC) [why, line]) Q E ⟨h, g, d, t, os⟩ := by
  obtain ⟨oI, fdI, argsI, PI⟩ := D.bodyC
  refine pf_call (hb _ _ D.hC) (D.hN.keeps hb) D.initC (hb _ _ PI.get) PI.cls (fun h1 e hm => ?_) (by show 2 ≤ sizeLine; decide)
  obtain ⟨a, he, _, _⟩ := hm.there
  have hnew : C.h₀.get? e = none := Option.eq_none_iff_forall_ne_some.mpr fun o q => some_none hm.new (hb _ _ q)
  refine pf_init_run oc D (fun b o q => hm.keeps _ _ (hb _ _ q)) he hnew ?_ fun h2 tk2 dx a' x1 x2 x3 x4 x5 => ⟨rfl, ?_⟩
  · show A.depth + (Code.builtin "type.__call__" ⟨.ref C.pfC :: [why, line], []⟩).weight + 1 < _
    rw [weight_tc]; omega
  exact hq h2 tk2 e dx a' hm.new (Option.eq_none_iff_forall_ne_some.mpr fun o q => some_none x1 (hm.keeps _ _ q)) x2 (fun b o q => x3 _ _ (fun z => some_none hm.new (z ▸ q)) (hm.keeps _ _ q)) x4 x5
end
end Mine
end
section
set_option Elab.async false
set_option maxRecDepth 100000
set_option linter.all false
namespace Mine
open PySem PySem.Spec PySem.Calls PyProof.Rows

section
variable {C : Cfg} {A : Around} {F : Fm} {CS : Calls} {g : Gh} {loc : L} {c : H} {h h' : Heap} {N : Nat} {s : Shared} {env : Env}

theorem raise_made {M : Model} (D : PfD C) {x : Sem Value} {Q : Flow → Shared → Prop} {E : Value → Shared → Prop} (hh : A.handled = none)
    (h : wpAny M A x (fun v s₁ => ∃ e a dx, v = .ref e ∧ (∀ b o, C.h₀.get? b = some o → s₁.heap.get? b = some o) ∧ s₁.heap.get? e = some (excObj C.pfC a dx) ∧ E (.ref e) s₁) E s) :
    wpAny M A (raiseStmt env (some x) none) Q E s := by
  have hcB : (Value.ref C.pfC :: pfBm D.P).contains (.type "BaseException") = true := by rw [List.contains_cons, has_BE, Bool.or_true]
  unfold raiseStmt
  refine wpAny_bind (wpAny_mono h (fun v s₁ h₁ => ?_) fun _ _ x => x)
  obtain ⟨e, a, dx, rfl, hb, he, hE⟩ := h₁
  have hC := hb _ _ D.hC
  obtain ⟨hp, g, d, tk, os⟩ := s₁
  have hc : (excObj C.pfC a dx).cls = .ref C.pfC := rfl
  repeat (first | (with_reducible refine wpAny_loadPart_at he ?_; try rw [hc]) | with_reducible refine wpAny_loadPart_at hC ?_ | (with_reducible refine wpAny_isSubtype_exc hC ?_; rw [hcB]) | wp_step)
  exact wpAny_raiseNew_none hh hE

theorem raise_stmt {M : Model} (D : PfD C) {ex : Expr} {pos : Pos} {Q : Flow → Shared → Prop} {E : Value → Shared → Prop} (hh : A.handled = none)
    (h : wpAny M A (eval ex env) (fun v s₁ => ∃ e a dx, v = .ref e ∧ (∀ b o, C.h₀.get? b = some o → s₁.heap.get? b = some o) ∧ s₁.heap.get? e = some (excObj C.pfC a dx) ∧ E (.ref e) s₁) E s) :
    wpAny M A (exec (.Raise (some ex) none pos) env) Q E s := by
  rw [arm_exec_Raise]
  first
    | refine wpAny_bind (wpAny_standAt (raise_made D hh (wpAny_bind (wpAny_mono h (fun v s₃ h₃ => wpAny_bind (wpAny_standAt (wpAny_pure h₃))) fun _ _ x => x))))
    | (simp only [evalOpt, Option.map]; refine wpAny_bind (wpAny_standAt (raise_made D hh (wpAny_bind (wpAny_mono h (fun v s₃ h₃ => wpAny_bind (wpAny_standAt (wpAny_pure h₃))) fun _ _ x => x)))))

theorem callWith_pf {M : Model} (D : PfD C) {pos : Pos} {args : List (Bool × Sem Value)} {Q : Value → Shared → Prop} {E : Value → Shared → Prop} (hplain : args.any (·.1) = false)
    (h : wpAny M A (evalArgs (.ref C.pfC) true args []) (fun a s₁ => (∀ b o, C.h₀.get? b = some o → s₁.heap.get? b = some o) ∧ wpAny M A (call (.ref C.pfC) a.pos a.kw) Q E s₁) E s) : wpAny M A (callWith pos (.ref C.pfC) [] args []) Q E s := by
  unfold callWith
  refine wpAny_bind (wpAny_holding (wpAny_mono h (fun a s₁ h₁ => wpAny_bind (wpAny_standAt ?_)) fun _ _ x => x))
  obtain ⟨hp, g, d, t, os⟩ := s₁
  rw [hplain]
  refine wpAny_bind (wpAny_keeperOf_exc (h₁.1 _ _ D.hC) ?_)
  exact wpAny_bind (wpAny_mono h₁.2 (fun r s₂ hr => wpAny_bind (wpAny_holding (wpAny_point (wpAny_pure hr)))) fun _ _ x => x)

theorem pf_done (r : Rel C F g loc c h) {e dx a : Addr} {w : List Nat} {l : Int} {tw tl : Tok} (hw : TxtOK w) (h1 : h.get? e = none) (h2 : h.get? dx = none) (hne : dx ≠ e) (k : ∀ b o, h.get? b = some o → h'.get? b = some o) (he : h'.get? e = some (excObj C.pfC a (some dx)))
    (hn : h'.Ns1 dx (fun y => if y = "line" then some (.int l tl) else if y = "why" then some (.str (strOf w) tw) else none)) : ∃ g', g.le g' ∧ Rel C F g' loc c h' ∧ ExcAt C F g' w l e h' := by
  obtain ⟨od, es, n, q1, q2, q3, q4, q5⟩ := hn
  have x := r.none_of_new h1
  have y := r.none_of_new h2
  exact ⟨g.put dx (od.cls, od.dict, od.data), Gh.put_le y.1.2, (r.keeps k).put q1 y, ⟨⟨x.1.1, (Gh.put_ne hne.symm).trans x.1.2⟩, x.2⟩, ⟨_, _, dx, es, n, tw, tl⟩, he, rfl, rfl, rfl, rfl, ⟨od.cls, od.dict, Gh.put_self.trans (congrArg (fun d => some (od.cls, od.dict, d)) q2)⟩, q3, q4, hw, (q5 _).trans rfl, (q5 _).trans rfl, .inl rfl⟩

/-- what is wanted of a raise behind the exception's making -/
abbrev Made (C : Cfg) (E : Value → Shared → Prop) (v : Value) (s₁ : Shared) : Prop := ∃ e a dx, v = .ref e ∧ (∀ b o, C.h₀.get? b = some o → s₁.heap.get? b = some o) ∧ s₁.heap.get? e = some (excObj C.pfC a dx) ∧ E (.ref e) s₁
/-- raise ParseFault(why, line) -/
theorem s_raise (ok : FmOK C F A) (oc : CfgOK C) (D : PfD C) (hd : A.depth + 3 < recursionLimit) {x : Cx} (ox : CxOK C F x) {e1 e2 : Expr} {m1 m2 : ME} {np cp pos : Pos} (hg : isGlob x "ParseFault" = true) (hs : [e1, e2].all notStar = true) (h1 : EvSim C A F CS e1 m1) (h2 : EvSim C A F CS e2 m2) :
    S1Sim C A F CS N (.Raise (some (.Call (.Name "ParseFault" np) [e1, e2] [] cp)) none pos) (.raise m1 m2) := fun {g loc c s} r Q E G =>
  raise_stmt D ok.hh (Call_Name (name_glob ok oc ox hg D.gC r (callWith_pf D (backTo_any hs) (evalArgs_es hs (wpAny_items_cons ((h1 r).step G fun g1 c1 hp1 t1 v1 a1 l1 r1 p1 G => wpAny_items_cons ((h2 r1).step (s := { s with heap := hp1, toks := t1 }) G fun g2 c2 hp2 t2 v2 a2 l2 r2 p2 G =>
    wpAny_items_nil ⟨r2.base, G.opt fun w e G => (p1.mono l2).isTxt (W := fun a1 => wpAny (model C.prog C.w) A (call (.ref C.pfC) [a1, a2] []) (Made C E) E { s with heap := hp2, toks := t2 }) e fun tw ht =>
      G.opt fun l e G => p2.isInt (W := fun a2 => wpAny (model C.prog C.w) A (call (.ref C.pfC) [.str (strOf w) tw, a2] []) (Made C E) E { s with heap := hp2, toks := t2 }) e fun tl =>
        mk_pf oc D r2.base hd fun h' tk' e dx a' x1 x2 x3 x4 x5 x6 => (pf_done r2 ht x1 x2 x3 x4 x5 x6).elim fun g3 q => ⟨e, a', _, rfl, q.2.1.base, x5, G.pf g3 h' tk' w l c2 e rfl q.1 q.2.1.weak q.2.2⟩⟩) (starEach_cons (and_l (and_r hs)))) (starEach_cons (and_l hs)))))))

noncomputable def endText : List Nat := [115, 121, 110, 116, 97, 120, 32, 101, 114, 114, 111, 114, 44, 32, 117, 110, 101, 120, 112, 101, 99, 116, 101, 100, 32, 101, 110, 100, 32, 111, 102, 32, 102, 105, 108, 101]
structure EndIs (C : Cfg) : Prop where
  is : ∃ fE p1 k p2 p3 p4 p5, C.mg "no_end" = some (.ref fE) ∧ PlainFn C.h₀ fE ["line"] ["ParseFault"] [.Return (some (.Call (.Name "ParseFault" p1) [.Constant (.str (strOf endText)) k p2, .Name "line" p3] [] p4)) p5]

/-- raise no_end(line) -/
theorem s_raiseEnd (ok : FmOK C F A) (oc : CfgOK C) (D : PfD C) (en : EndIs C) (hd : A.depth + 4 < recursionLimit) {x : Cx} (ox : CxOK C F x) {e1 : Expr} {m1 : ME} {np cp pos : Pos} (hg : isGlob x "no_end" = true) (hs : [e1].all notStar = true) (h1 : EvSim C A F CS e1 m1) :
    S1Sim C A F CS N (.Raise (some (.Call (.Name "no_end" np) [e1] [] cp)) none pos) (.raiseEnd m1) := fun {g loc c s} r Q E G => by
  obtain ⟨fE, q1, q2, q3, q4, q5, q6, hgE, pf⟩ := en.is
  obtain ⟨oE, fdE, argsE, PE⟩ := id pf
  refine raise_stmt D ok.hh (Call_Name (name_glob ok oc ox hg hgE r (callWith_function (o := oE) (fd := fdE) (evalArgs_es hs (wpAny_items_cons ((h1 r).step G fun g1 c1 hp1 t1 v1 a1 l1 r1 p1 G => wpAny_items_nil ⟨⟨r1.base _ _ PE.get, PE.data⟩, ?_⟩) (starEach_cons (and_l hs)))))))
  refine G.opt fun l e G => p1.isInt (W := fun a1 => wpAny (model C.prog C.w) A (call (.ref fE) [a1] []) (Made C E) E { s with heap := hp1, toks := t1 }) e fun tl => ?_
  refine plain_call pf r1.base oc.nolimit (Nat.lt_of_le_of_lt (Nat.le_add_right _ _) hd) rfl fun env h₁ tk m P => ?_
  have hb1 : ∀ b o, C.h₀.get? b = some o → h₁.get? b = some o := fun b o q => P.keep _ _ (r1.base _ _ q)
  refine wpAny_execs_cons (wpAny_Return_some (Call_Name ?_))
  refine Name_function_global P.kind (P.gl "ParseFault" (by decide)) (loadGlobal_global (s := { s with heap := h₁, toks := tk }) (by rw [P.glob]; exact oc.mgN.keeps hb1) D.gC ?_) rfl
  refine callWith_pf D (backTo_any rfl) (evalArgs_es rfl (wpAny_items_cons (wpAny_Constant_str ?_) (starEach_cons rfl)))
  refine wpAny_items_cons (name_arg (s := { s with heap := h₁, toks := _ }) P.kind P.ns (P.loc "line" (by decide)) (P.val 0 _ _ rfl rfl) rfl (wpAny_items_nil ⟨hb1, ?_⟩)) (starEach_cons rfl)
  refine mk_pf oc D hb1 (show A.depth + 1 + 3 < _ by rw [Nat.add_assoc]; exact hd) fun h' tk' e dx a' x1 x2 x3 x4 x5 x6 => ?_
  have old : ∀ b, h₁.get? b = none → hp1.get? b = none := fun b q => Option.eq_none_iff_forall_ne_some.mpr fun o z => some_none q (P.keep _ _ z)
  exact (pf_done r1 (w := endText) ⟨by decide, by decide⟩ (old _ x1) (old _ x2) x3 (fun b o q => x4 _ _ (P.keep _ _ q)) x5 x6).elim fun g3 q => ⟨e, a', _, rfl, q.2.1.base, x5, G.pf g3 h' tk' endText l c1 e rfl q.1 q.2.1.weak q.2.2⟩
end
end Mine
end
section
set_option Elab.async false
set_option maxRecDepth 100000
set_option linter.all false
namespace Mine
open PySem PySem.Spec PySem.Calls PyProof.Rows Builtin Builtin.ObjectAttr

section
variable {prog : Program} {w : World} {A : Around} {E : Value → Shared → Prop} {h : Heap} {g : Array GenState} {d : Drawn} {t : Nat} {os : OsState}
variable {nm q nm' q' : PySem.Str} {C N P NP e : Addr} {bs bs' : List Value} {sn sn' : List PySem.Str} {sub sub' : List Value} {ab ab' hd' : Bool} {col col' : Option Bool} {dd dd' : Option Addr} {k0 k1 k2 k3 k5 j0 j1 j2 j3 j5 : Option Value}
  {mN mP : PySem.Str → Option Value} {name : PySem.Str} {v : Value}

theorem pf_get_check {M : Model} {o : Obj} {nameV : Value} {Q : Unit → Shared → Prop}
    (hC : h.get? C = some (excClassObj nm q C N bs (pfBm P) true sn sub ab col dd k0 k1 k2 k3 k5 "Exception.__new__")) (he : h.get? e = some o) (hc : o.cls = .ref C) (hq : Q () ⟨h, g, d, t, os⟩) :
    wpAny M A (checkBuiltinCall "BaseException.__getattribute__" ⟨[.ref e, nameV], []⟩) Q E ⟨h, g, d, t, os⟩ := by
  have hk : builtinKind "BaseException.__getattribute__" = some .slot := by decide +kernel
  have hsplit : splitId "BaseException.__getattribute__" = some ("BaseException", "__getattribute__") := by decide +kernel
  have hcB : (Value.ref C :: pfBm P).contains (.type "BaseException") = true := by rw [List.contains_cons, has_BE]; simp
  have ha := PySem.F.args_bexc_ga (.ref e) nameV
  simp only [checkBuiltinCall, hk, hsplit]
  refine wpAny_bind ?_
  unfold isInstance
  repeat (first | (with_reducible refine wpAny_loadPart_at he ?_; rw [hc]) | (with_reducible refine wpAny_isSubtype_exc hC ?_; rw [hcB]) | wp_step)
  exact hq

set_option maxHeartbeats 1000000 in
theorem pf_get_entry {tk : Tok} {o : Obj} {dx : Addr} {mA : PySem.Str → Option Value} {Q : PySem.Fin → Shared → Prop}
    (hC : h.get? C = some (excClassObj nm q C N bs (pfBm P) true sn sub ab col dd k0 k1 k2 k3 k5 "Exception.__new__")) (hn : h.Ns N mN)
    (hP : h.get? P = some (excClassObj nm' q' P NP bs' bmE hd' sn' sub' ab' col' dd' j0 j1 j2 j3 j5 "Exception.__new__")) (hp : h.Ns NP mP)
    (e1 : mN name = none) (e2 : mP name = none) (hB : typeLookup (.type "Exception") name = pure none)
    (he : h.get? e = some o) (hc : o.cls = .ref C) (hnc : ∀ c, o.data ≠ .cls c) (hdx : o.dict = some dx) (hns : h.Ns dx mA) (hv : mA name = some v) (hh : handedOut v = pure v) (hq : Q (.done (.ret v)) ⟨h, g, d, t, os⟩) :
    wpAny (model prog w) A (Builtin.«object.__getattribute__» ⟨[.ref e, .str name tk], []⟩) Q E ⟨h, g, d, t, os⟩ := by
  repeat (any_goals (first | assumption | (with_reducible refine wpAny_loadPart_at he ?_; rw [hc]) | (with_reducible refine pf_lookup hC hn hP hp e1 e2 hB ?_) | wp_step))
  split
  · rename_i c hcd
    exact absurd hcd (hnc c)
  unfold instanceDict
  repeat (first | (with_reducible refine wpAny_loadPart_at he ?_; rw [hc]) | with_reducible refine wpAny_loadPart_at hC ?_ | wp_step)
  rw [hdx]
  repeat (first | (with_reducible refine wpAny_nsGet hns ?_; rw [hv]) | wp_step)
  exact hq

set_option maxHeartbeats 1000000 in
theorem pf_get {o : Obj} {dx : Addr} {mA : PySem.Str → Option Value} {expr : Bool} {Q : Value → Shared → Prop}
    (hC : h.get? C = some (excClassObj nm q C N bs (pfBm P) true sn sub ab col dd k0 k1 k2 k3 k5 "Exception.__new__")) (hn : h.Ns N mN)
    (hP : h.get? P = some (excClassObj nm' q' P NP bs' bmE hd' sn' sub' ab' col' dd' j0 j1 j2 j3 j5 "Exception.__new__")) (hp : h.Ns NP mP)
    (e1 : mN name = none) (e2 : mP name = none) (g1 : mN "__getattribute__" = none) (g2 : mP "__getattribute__" = none) (i1 : mN "__getattr__" = none) (i2 : mP "__getattr__" = none) (hB : typeLookup (.type "Exception") name = pure none)
    (he : h.get? e = some o) (hc : o.cls = .ref C) (hnc : ∀ c, o.data ≠ .cls c) (hdx : o.dict = some dx) (hns : h.Ns dx mA) (hv : mA name = some v) (hh : handedOut v = pure v) (hq : Q v ⟨h, g, d, t + 1, os⟩) :
    wpAny (model prog w) A (getAttr (.ref e) name expr) Q E ⟨h, g, d, t, os⟩ := by
  have FB := PySem.F.attrBase_Exception
  have f3 := FB.ga.bind (.ref e)
  have hx0 : (expr && onTheHeap (Value.builtin "BaseException.__getattribute__")) = false := by cases expr <;> rfl
  have hx2 : (Value.builtin "BaseException.__getattribute__" == Value.builtin "object.__getattribute__") = false := by decide +kernel
  have hx1 : (onTheHeap (Value.ref C) && Value.builtin "BaseException.__getattribute__" == Value.builtin "object.__getattribute__") = false := by rw [hx2]; rfl
  unfold getAttr getAttrBy
  repeat (any_goals (first | assumption | (with_reducible refine wpAny_loadPart_at he ?_; rw [hc]) | (with_reducible refine pf_lookup hC hn hP hp g1 g2 FB.ga.lookup ?_) | (with_reducible refine pf_lookup hC hn hP hp i1 i2 FB.noGetattr ?_) | wp_step))
  refine codeAny_call_builtin FB.ga.plain PySem.F.entry_bexc_ga (pf_get_check hC he hc (pf_get_entry hC hn hP hp e1 e2 hB he hc hnc hdx hns hv hh ?_))
  show wpAny _ _ (handedOut v) _ _ _
  rw [hh]
  exact wpAny_pure hq
end

/-! try -/
section
variable {C : Cfg} {A : Around} {F : Fm} {CS : Calls} {g : Gh} {loc : L} {c : H} {h h' : Heap} {N : Nat} {s : Shared}

theorem Rel.locals (r : Rel C F g [] c h) {m : PySem.Str → Option Value} (hn : h'.Ns F.env.locals m) (hs : Heap.SameBut F.env.locals h h') : Rel C F g [] c h' :=
  { r with
    base := (r.part (.head _) hs).1
    im := (r.part (.head _) hs).2
    keep := fun p hp => (r.keep p hp).imp fun o q => ⟨(hs.2 p.1 fun z => r.at_locals.2 (z ▸ mem_keep hp)).trans q.1, q.2⟩
    ns := ⟨m, hn, fun i v e => nomatch e⟩
    cell := fun i vs e => (r.cell i vs e).imp fun a q => q.imp fun its q => { q with pl := q.pl.imp fun _ => (hs.2 a fun z => r.at_locals.2 (z ▸ mem_cell q.pos)).trans } }

noncomputable def refText : List Nat := [114, 101, 102, 117, 115, 101, 100]
/-- a field of the caught exception -/
theorem pf_attr (D : PfD C) (r : Rel C F g loc c h) {w : List Nat} {l : Int} {e : Addr} {d : ExcD} (O : ExcO C F g w l e h d) {name : PySem.Str} {val : Value} {t : Nat} {Q : Value → Shared → Prop} {E : Value → Shared → Prop} (hmem : name ∈ (["__setattr__", "__getattribute__", "__getattr__", "why", "line"] : List PySem.Str))
    (hl : typeLookup (.type "Exception") name = pure none) (hv : nsFind d.es name = some val) (hh : handedOut val = pure val) (hq : Q val { s with heap := h, toks := t + 1 }) : wpAny (model C.prog C.w) A (getAttr (.ref e) name true) Q E { s with heap := h, toks := t } :=
  O.im.elim fun cl q => q.elim fun dd q => (r.im _ _ q).elim fun od z =>
  pf_get (r.base _ _ D.hC) (D.hN.keeps r.base) (r.base _ _ D.hP) (D.hNP.keeps r.base) (D.noC _ hmem) (D.noP _ hmem) (D.noC _ (by decide)) (D.noP _ (by decide)) (D.noC _ (by decide)) (D.noP _ (by decide)) hl O.get O.cls (fun c q => nomatch O.data.symm.trans q) O.dict ⟨od, d.es, d.n, z.1, z.2.2.2, O.keys, fun _ => rfl⟩ hv hh hq

theorem s_try (ok : FmOK C F A) (of : FnOK F) (oc : CfgOK C) (D : PfD C) {x : Cx} (ox : CxOK C F x) {n fn : PySem.Str} {i : Nat} {e : Expr} {m : ME} {np ap hp p1 p2 p3 p4 p5 p6 p7 hpos pos : Pos} {k1 k2 : Nat}
    (ha : S1Sim C A F CS N (.Assign [.Name n np] e ap) (.assign i m)) (hg : isGlob x "ParseFault" = true) (hf : isLocal x fn = true) :
    S1Sim C A F CS N (.Try [.Assign [.Name n np] e ap] [.ExceptHandler (some (.Name "ParseFault" hp)) (some fn)
      [.Return (some (.Tuple [.Constant (.str (strOf refText)) k1 p1, .Attribute (.Name fn p2) "why" p3, .Attribute (.Name fn p4) "line" p5] k2 p6)) p7] hpos] [] [] pos) (.tryR i m) := fun {g loc c s} r Q E G => by
  have hb : StSim C A F CS N [.Assign [.Name n np] e ap] (.seq (.assign i m) .skip) := st_cons ha st_nil
  have G : Goal C F (FlOK C F) g s (tryK i loc (mev CS m loc c)) Q E := G
  cases z : mev CS m loc c with
  | stuck => rw [z] at G; exact G.no
  | ok v c2 =>
    rw [z] at G
    have q0 : mex CS N (.seq (.assign i m) .skip) loc c = .ok (.next (loc.set i (some v))) c2 := by show R.bind (R.bind (mev CS m loc c) _) _ = _; rw [z]; rfl
    exact wpAny_Try_except (hb r _ _ ⟨(fun q => nomatch q0.symm.trans q), (fun g1 h1 t1 fl c1 f q l1 y => by
      cases q0.symm.trans q
      exact y.isNext.1 ▸ wpAny_execs_nil (G.done (tk := t1) l1 (a := .next) y.isNext.2)), (fun _ _ _ _ _ _ _ q => nomatch q0.symm.trans q)⟩)
  | pf w l c2 =>
    rw [z] at G
    have q0 : mex CS N (.seq (.assign i m) .skip) loc c = .pf w l c2 := by show R.bind (R.bind (mev CS m loc c) _) _ = _; rw [z]; rfl
    refine wpAny_Try_except (hb r _ _ ⟨(fun q => nomatch q0.symm.trans q), (fun _ _ _ _ _ _ q => nomatch q0.symm.trans q), (fun g1 h1 t1 w l c1 ea q l1 r1 y => ?_)⟩)
    cases q0.symm.trans q
    refine exc_note (s := { s with heap := h1, toks := t1 }) ok of r1 y fun h2 r2 y2 => exc_flight (s := { s with heap := h2, toks := t1 }) r2 y2 fun h3 r3 y3 => ?_
    have hkf := kind_local ox hf
    have hdb : (fn == ("__debug__" : PySem.Str)) = false := not_is (and_r hf)
    have hp0 : (F.env.scope.kind == .class || (F.env.scope.kind == .module && F.env.locals != F.env.globals)) = false := by rw [ok.kind]; rfl
    obtain ⟨d3, O3, _⟩ := y3.obj
    refine wpAny_handleBy_cons (codeAny_handlers_test (Name_function_global ok.kind (kind_glob ox hg) (loadGlobal_global (s := { s with heap := h3, toks := t1 }) (ok.glob ▸ oc.mgN.keeps r3.base) D.gC ?_) (not_is (and_r hg)))) (fun q => nomatch q)
    refine wpAny_excMatches_sub_self (h := h3) (r3.base _ _ D.hC) O3.get O3.cls (has_BE D.P) (codeAny_handlers_suite_as ?_)
    refine exc_flight (s := { s with heap := h3, toks := t1 }) r3 y3 fun h4 r4 y4 => ?_
    obtain ⟨m4, hm4, _⟩ := r4.ns
    refine wpAny_storeName_local (s := { s with heap := h4, toks := t1 }) hkf hm4 (fun h5 hn5 hs5 => ?_) hp0
    have r5 := r4.locals hn5 hs5
    obtain ⟨d4, O4, t4, T4⟩ := y4.obj
    have nel : ea ≠ F.env.locals := fun z => y4.off.2 (z ▸ .head _)
    have O5 : ExcO C F g1 w l ea h5 d4 := O4.same ((hs5.2 ea nel).trans O4.get) fun t T => ⟨t, { T with get := (hs5.2 t.T fun z => T.off.2 (z ▸ .head _)).trans T.get }⟩
    refine wpAny_execs_cons (wpAny_Return_some (wpAny_Tuple (wpAny_items_cons (wpAny_Constant_str ?_) (starEach_cons rfl))))
    refine wpAny_items_cons (Attribute_name (name_arg (s := { s with heap := h5, toks := _ }) ok.kind hn5 hkf (if_pos rfl) hdb (pf_attr D r5 O5 (by decide) lk_why O5.why rfl ?_))) (starEach_cons rfl)
    refine wpAny_items_cons (Attribute_name (name_arg (s := { s with heap := h5, toks := _ }) ok.kind hn5 hkf (if_pos rfl) hdb (pf_attr D r5 O5 (by decide) lk_line O5.line rfl ?_))) (starEach_cons rfl)
    refine wpAny_items_nil ?_
    have N5 := fun its => Rel.newSeq (T := "tuple") (s := { s with heap := h5, toks := 0 }) r5 its
    refine ⟨by show 3 ≤ sizeLine; decide, ?_⟩
    refine wpAny_nameGoes (s := { s with heap := _, toks := _ }) hkf (hn5.keeps fun a o e => Heap.get?_push_of_some _ e) hp0 fun h7 m7 hn7 hs7 => ?_
    exact G.done (l1.trans (N5 _).2.1) (a := .ret _) ⟨(N5 _).1.locals hn7 hs7, .tup (N5 _).2.2 (.cons (.txt ⟨by decide, by decide⟩) (.cons (.txt O5.txt) (.cons (.int l _) .nil))) (by show 3 ≤ big; decide)⟩
end
end Mine
end
section
set_option Elab.async false
set_option linter.all false
namespace Mine
open PySem PySem.Spec PySem.Calls PyProof.Rows

noncomputable def capNames (x : Cx) (caps : List Nat) : List PySem.Str := caps.filterMap (x.vars[·]?)
noncomputable def isNoneE (m : ME) : Bool := match m with | .none => true | _ => false
noncomputable def isTrueE (m : ME) : Bool := match m with | .bool true => true | _ => false
noncomputable def isZeroE (m : ME) : Bool := match m with | .int 0 => true | _ => false
theorem isNoneE_is {m : ME} {P : ME → Prop} (h : isNoneE m = true) (H : P .none) : P m := by cases m <;> first | exact H | exact no_f h
theorem isTrueE_is {m : ME} {P : ME → Prop} (h : isTrueE m = true) (H : P (.bool true)) : P m := by
  cases m with
  | bool b => cases b with | true => exact H | false => exact no_f h
  | _ => exact no_f h
theorem isZeroE_is {m : ME} {P : ME → Prop} (h : isZeroE m = true) (H : P (.int 0)) : P m := by
  cases m with
  | int i => by_cases e : i = 0
             · rw [e]; exact H
             · unfold isZeroE at h; split at h <;> first | (rename_i q; cases q; exact absurd rfl e) | exact no_f h
  | _ => exact no_f h
mutual
/-- the expression is told by the small language's tree -/
noncomputable def okE : ME → Cx → Expr → Bool
  | .none, _, e => xConst e fun v _ _ => cNone v
  | .bool b, _, e => xConst e fun v _ _ => cBool v fun b' => b == b'
  | .int i, _, e => xConst e fun v _ _ => cInt v fun j => decide (i = j)
  | .str l, _, e => xConst e fun v _ _ => cStr v fun t => decide (t = strOf l) && (decide (l.length ≤ big) && l.all (fun c => decide (c < 1114112)))
  | .var i, x, e => xName e fun n _ => isSlot x n i
  | .glob f, x, e => xName e fun n _ => isGlob x n && x.fns.contains (n, f)
  | .bin o a b, x, e => xBin e fun e1 op e2 _ => decide (op = opB o) && (okE a x e1 && okE b x e2)
  | .cmp o a b, x, e => xCmp e fun e1 ops es _ => l1 ops fun op => l1 es fun e2 => decide (op = opC o) && (!behindInMarks (opC o) e2 && (okE a x e1 && okE b x e2))
  | .cmp2 o p a b c, x, e => xCmp e fun e1 ops es _ => l2 ops fun op oq => l2 es fun e2 e3 => decide (op = opC o) && (decide (oq = opC p) && (!lastMarks [opC o, opC p] [e2, e3] && (okE a x e1 && (okE b x e2 && okE c x e3))))
  | .isnone a, x, e => xCmp e fun e1 ops es _ => l1 ops fun op => l1 es fun e2 => decide (op = .Is) && xConst e2 fun v _ _ => cNone v && okE a x e1
  | .notnone a, x, e => xCmp e fun e1 ops es _ => l1 ops fun op => l1 es fun e2 => decide (op = .IsNot) && xConst e2 fun v _ _ => cNone v && okE a x e1
  | .and a b, x, e => xBoolOp e fun op vs pos => decide (op = .And) && lCons vs fun e1 r => lCons r fun e2 es => okE a x e1 && lPick es (okE b x e2) (okE b x (.BoolOp .And (e2 :: es) pos))
  | .or a b, x, e => xBoolOp e fun op vs pos => decide (op = .Or) && lCons vs fun e1 r => lCons r fun e2 es => okE a x e1 && lPick es (okE b x e2) (okE b x (.BoolOp .Or (e2 :: es) pos))
  | .not a, x, e => xUn e fun op e1 _ => decide (op = .Not) && okE a x e1
  | .neg a, x, e => xUn e fun op e1 _ => decide (op = .USub) && okE a x e1
  | .ite t a b, x, e => xIf e fun e0 e1 e2 _ => okE t x e0 && (okE a x e1 && okE b x e2)
  | .idx a i, x, e => xSub e fun e1 e2 _ => okE a x e1 && okE i x e2
  | .slc a lo hi, x, e => xSub e fun e1 e2 _ => xSlice e2 fun l h st _ => oNone st (okE a x e1 && (oPick l (fun l => okE lo x l) (isNoneE lo) && oPick h (fun h => okE hi x h) (isNoneE hi)))
  | .slst a lo st, x, e => xSub e fun e1 e2 _ => xSlice e2 fun l h s _ => oSome l fun l => oNone h (oSome s fun s => okE a x e1 && (okE lo x l && okE st x s))
  | .attr a f, x, e => xAttr e fun v at' _ => xName v fun n np => decide (at' = attrName f) && okE a x (.Name n np)
  | .call f as, x, e => xCall e fun v es ws _ => xName v fun n _ => lNil ws (isGlob x n && (x.fns.contains (n, f) && okEs as x es))
  | .callv i as, x, e => xCall e fun v es ws _ => xName v fun n _ => lNil ws (isSlot x n i && okEs as x es)
  | .mk as, x, e => xCall e fun v es ws _ => xName v fun n _ => lNil ws (decide (n = "Token") && (isGlob x "Token" && lCons es fun e1 t => okEs as x (e1 :: t)))
  | .p1 p a, x, e => xCall e fun v es ws pos => lNil ws (
      (xName v fun n _ => l1 es fun e1 => oSome (p1Fn p) fun f => isBlt x n f && ([e1].all notStar && okE a x e1)) ||
      (xAttr v fun e1 n apos => lNil es (decide (p = .lower) && (decide (n = "lower") && (baseOK e1 && ((apos.endLine == pos.line) && okE a x e1))))))
  | .p2 p a b, x, e => xCall e fun v es ws pos => lNil ws (
      (xName v fun n _ => l2 es fun e1 e2 => oSome (p2Fn p) fun f => isBlt x n f && ([e1, e2].all notStar && (okE a x e1 && okE b x e2))) ||
      (xAttr v fun e1 n apos => l1 es fun e2 => oPick (m2Of p) (fun t => decide (n = t.1)) (decide (p = .append) && decide (n = "append")) && (baseOK e1 && ([e2].all notStar && ((apos.endLine == pos.line) && (okE a x e1 && okE b x e2))))))
  | .p3 p a b c, x, e => xCall e fun v es ws pos => lNil ws (xAttr v fun e1 n apos => l2 es fun e2 e3 => decide (p = .find) && (decide (n = "find") && (baseOK e1 && ([e2, e3].all notStar && ((apos.endLine == pos.line) && (okE a x e1 && (okE b x e2 && okE c x e3)))))))
  | .tup es, x, e => xTup e fun l _ _ => decide (es.len ≤ big) && okEs es x l
  | .list es, x, e => xList e fun l _ => decide (es.len ≤ big) && okEs es x l
  | .cell es, x, e => xList e fun l _ => decide (es.len ≤ big) && okEs es x l
  | .dead, _, _ => true
  | .comp caps it elt cond, x, e => xComp e fun e1 gs sc _ => l1 gs fun g => xGen g fun t _ it' ifs => notSet it' && (compOK x sc t caps (capNames x caps) && (okE it x it' && (okE elt (compCx x sc t (capNames x caps)) e1 &&
      (lNil ifs (isTrueE cond) || l1 ifs fun c => okE cond (compCx x sc t (capNames x caps)) c))))
noncomputable def okEs : MEs → Cx → List Expr → Bool
  | .nil, _, es => lNil es true
  | .cons m r, x, es => lCons es fun e t => notStar e && (okE m x e && okEs r x t)
end

section
variable {C : Cfg} {A : Around} {CS : Calls}
/-- what every frame of a def's run leans on -/
structure Base (C : Cfg) (A : Around) (CS : Calls) : Prop where
  oc : CfgX C
  tk : TokIs C
  pf : Nonempty (PfD C)
  en : EndIs C
  hd : A.depth + 8 < recursionLimit
  hu : A.units + 64 < cLine
  calls : ∀ F, FmOK C F A → CallsAt C A F CS

noncomputable def notBool (e : Expr) : Bool := match e with | .BoolOp .. => false | _ => true
noncomputable def Got (C : Cfg) (A : Around) (F : Fm) (CS : Calls) (m : ME) (e : Expr) : Prop :=
  EvSim C A F CS e m ∧ TsSim C A F CS e m ∧ ∀ o es pos, e = .BoolOp o es pos → BsSim C A F CS o es m ∧ AsSim C A F CS o es m

variable {F : Fm}
theorem notBool_is {e : Expr} {P : Prop} (hn : notBool e = true) {o : BoolOp} {es : List Expr} {pos : Pos} (q : e = .BoolOp o es pos) : P := by subst q; exact no_f hn
theorem Got.plain {m : ME} {e : Expr} (h : EvSim C A F CS e m) (hn : notBool e = true := by rfl) (he : ∀ whole, isTrue e F.env whole = (do let v ← whole; standAt e.pos; holding [v] (truthy v)) := by intro _; rfl) : Got C A F CS m e :=
  ⟨h, TsSim.plain h he, fun o es pos q => notBool_is hn q⟩
theorem Got.test {m : ME} {e : Expr} (h : EvSim C A F CS e m) (t : TsSim C A F CS e m) (hn : notBool e = true := by rfl) : Got C A F CS m e := ⟨h, t, fun o es pos q => notBool_is hn q⟩


noncomputable def GotAll (C : Cfg) (A : Around) (CS : Calls) (x : Cx) (m : ME) (e : Expr) : Prop := ∀ F, FmOK C F A → CxOK C F x → Got C A F CS m e
noncomputable def GotEs (C : Cfg) (A : Around) (CS : Calls) (ms : MEs) (x : Cx) (es : List Expr) : Prop := es.all notStar = true ∧ ∀ F, FmOK C F A → CxOK C F x → EsSim C A F CS es ms

theorem got_bo {a b : ME} {x : Cx} {e1 e2 : Expr} {es : List Expr} {pos : Pos} {op : BoolOp} (hb : GotAll C A CS x b (if es.isEmpty then e2 else .BoolOp op (e2 :: es) pos)) (F : Fm) (ok : FmOK C F A) (ox : CxOK C F x) :
    BsSim C A F CS op (e2 :: es) b ∧ AsSim C A F CS op (e2 :: es) b := by
  cases es with
  | nil => exact ⟨bs_one (hb F ok ox).1, as_one (hb F ok ox).2.1⟩
  | cons y r => exact (hb F ok ox).2.2 _ _ _ rfl
theorem pick_bo {op : BoolOp} {m : ME} {x : Cx} {e2 : Expr} {es : List Expr} {pos : Pos} {a b : Bool} (h : lPick es a b = true) (H : a = true → GotAll C A CS x m e2) (K : b = true → GotAll C A CS x m (.BoolOp op (e2 :: es) pos)) : GotAll C A CS x m (if es.isEmpty then e2 else .BoolOp op (e2 :: es) pos) := by
  cases es with
  | nil => exact H h
  | cons y r => exact K h

mutual
theorem okE_sound (B : Base C A CS) : ∀ (m : ME) (x : Cx) (e : Expr), okE m x e = true → GotAll C A CS x m e
  | .none, x, e, h => xConst_is (P := GotAll C A CS x .none) h fun v i p h => cNone_is (P := fun v => GotAll C A CS x .none (.Constant v i p)) h fun F ok ox => .plain ev_none
  | .bool b, x, e, h => xConst_is (P := GotAll C A CS x (.bool b)) h fun v i p h => cBool_is (P := fun v => GotAll C A CS x (.bool b) (.Constant v i p)) h fun b' h F ok ox => beq_is h ▸ .plain ev_bool
  | .int b, x, e, h => xConst_is (P := GotAll C A CS x (.int b)) h fun v i p h => cInt_is (P := fun v => GotAll C A CS x (.int b) (.Constant v i p)) h fun b' h F ok ox => dec_is h ▸ .plain ev_int
  | .str l, x, e, h => xConst_is (P := GotAll C A CS x (.str l)) h fun v i p h => cStr_is (P := fun v => GotAll C A CS x (.str l) (.Constant v i p)) h fun t h F ok ox =>
      .plain (ev_str (dec_is (and_l h)) (dec_is (and_l (and_r h))) fun c hc => dec_is (List.all_eq_true.mp (and_r (and_r h)) c hc))
  | .var i, x, e, h => xName_is (P := GotAll C A CS x (.var i)) h fun n p h F ok ox => .plain (ev_var ok ox h)
  | .glob f, x, e, h => xName_is (P := GotAll C A CS x (.glob f)) h fun n p h F ok ox => .plain (ev_glob ok B.oc.toCfgOK ox (and_l h) (List.contains_iff_mem.mp (and_r h)))
  | .bin o a b, x, e, h => xBin_is (P := GotAll C A CS x (.bin o a b)) h fun e1 op e2 p h F ok ox => by
    cases dec_is (and_l h)
    exact .plain (ev_bin (okE_sound B a x _ (and_l (and_r h)) F ok ox).1 (okE_sound B b x _ (and_r (and_r h)) F ok ox).1)
  | .cmp o a b, x, e, h => xCmp_is (P := GotAll C A CS x (.cmp o a b)) h fun e1 ops es p h => l1_is (P := fun ops => GotAll C A CS x (.cmp o a b) (.Compare e1 ops es p)) h fun op h => l1_is (P := fun es => GotAll C A CS x (.cmp o a b) (.Compare e1 [op] es p)) h fun e2 h F ok ox => by
    cases dec_is (and_l h)
    have hm := not_is (and_l (and_r h))
    have ha := okE_sound B a x _ (and_l (and_r (and_r h))) F ok ox
    have hb := okE_sound B b x _ (and_r (and_r (and_r h))) F ok ox
    exact .test (ev_cmp B.hu hm ha.1 hb.1) (ts_cmp B.hu hm ha.1 hb.1)
  | .cmp2 o q a b c, x, e, h => xCmp_is (P := GotAll C A CS x (.cmp2 o q a b c)) h fun e1 ops es p h => l2_is (P := fun ops => GotAll C A CS x (.cmp2 o q a b c) (.Compare e1 ops es p)) h fun op oq h => l2_is (P := fun es => GotAll C A CS x (.cmp2 o q a b c) (.Compare e1 [op, oq] es p)) h fun e2 e3 h F ok ox => by
    cases dec_is (and_l h)
    cases dec_is (and_l (and_r h))
    have h := and_r (and_r h)
    have hm := not_is (and_l h)
    have ha := okE_sound B a x _ (and_l (and_r h)) F ok ox
    have hb := okE_sound B b x _ (and_l (and_r (and_r h))) F ok ox
    have hc := okE_sound B c x _ (and_r (and_r (and_r h))) F ok ox
    exact .test (ev_cmp2 B.hu hm ha.1 hb.1 hc.1) (ts_cmp2 B.hu hm ha.1 hb.1 hc.1)
  | .isnone a, x, e, h => xCmp_is (P := GotAll C A CS x (.isnone a)) h fun e1 ops es p h => l1_is (P := fun ops => GotAll C A CS x (.isnone a) (.Compare e1 ops es p)) h fun op h => l1_is (P := fun es => GotAll C A CS x (.isnone a) (.Compare e1 [op] es p)) h fun e2 h =>
    xConst_is (P := fun e2 => GotAll C A CS x (.isnone a) (.Compare e1 [op] [e2] p)) (and_r h) fun v i p' h' => cNone_is (P := fun v => GotAll C A CS x (.isnone a) (.Compare e1 [op] [.Constant v i p'] p)) (and_l h') fun F ok ox => by
    cases dec_is (and_l h)
    have ha := okE_sound B a x _ (and_r h') F ok ox
    exact .test (ev_isnone ha.1) (ts_isnone ha.1)
  | .notnone a, x, e, h => xCmp_is (P := GotAll C A CS x (.notnone a)) h fun e1 ops es p h => l1_is (P := fun ops => GotAll C A CS x (.notnone a) (.Compare e1 ops es p)) h fun op h => l1_is (P := fun es => GotAll C A CS x (.notnone a) (.Compare e1 [op] es p)) h fun e2 h =>
    xConst_is (P := fun e2 => GotAll C A CS x (.notnone a) (.Compare e1 [op] [e2] p)) (and_r h) fun v i p' h' => cNone_is (P := fun v => GotAll C A CS x (.notnone a) (.Compare e1 [op] [.Constant v i p'] p)) (and_l h') fun F ok ox => by
    cases dec_is (and_l h)
    have ha := okE_sound B a x _ (and_r h') F ok ox
    exact .test (ev_notnone ha.1) (ts_notnone ha.1)
  | .and a b, x, e, h => xBoolOp_is (P := GotAll C A CS x (.and a b)) h fun op vs p h => lCons_is (P := fun vs => GotAll C A CS x (.and a b) (.BoolOp op vs p)) (and_r h) fun e1 r h' => lCons_is (P := fun r => GotAll C A CS x (.and a b) (.BoolOp op (e1 :: r) p)) h' fun e2 es h' F ok ox => by
    cases dec_is (and_l h)
    have ha := okE_sound B a x _ (and_l h') F ok ox
    have key := got_bo (a := a) (e1 := e1) (pick_bo (op := .And) (pos := p) (and_r h') (okE_sound B b x _) (okE_sound B b x _)) F ok ox
    have h1 := bs_and ha.1 key.1
    have h2 : AsSim C A F CS .And (e1 :: e2 :: es) (.and a b) := as_and ha.2.1 key.2
    exact ⟨ev_bool_op h1, ts_bool_op h2, fun o es pos q => by cases q; exact ⟨h1, h2⟩⟩
  | .or a b, x, e, h => xBoolOp_is (P := GotAll C A CS x (.or a b)) h fun op vs p h => lCons_is (P := fun vs => GotAll C A CS x (.or a b) (.BoolOp op vs p)) (and_r h) fun e1 r h' => lCons_is (P := fun r => GotAll C A CS x (.or a b) (.BoolOp op (e1 :: r) p)) h' fun e2 es h' F ok ox => by
    cases dec_is (and_l h)
    have ha := okE_sound B a x _ (and_l h') F ok ox
    have key := got_bo (a := a) (e1 := e1) (pick_bo (op := .Or) (pos := p) (and_r h') (okE_sound B b x _) (okE_sound B b x _)) F ok ox
    have h1 := bs_or ha.1 key.1
    have h2 : AsSim C A F CS .Or (e1 :: e2 :: es) (.or a b) := as_or ha.2.1 key.2
    exact ⟨ev_bool_op h1, ts_bool_op h2, fun o es pos q => by cases q; exact ⟨h1, h2⟩⟩
  | .not a, x, e, h => xUn_is (P := GotAll C A CS x (.not a)) h fun op e1 p h F ok ox => by
    cases dec_is (and_l h)
    have ha := okE_sound B a x _ (and_r h) F ok ox
    exact .test (ev_not ha.1) (ts_not ha.2.1)
  | .neg a, x, e, h => xUn_is (P := GotAll C A CS x (.neg a)) h fun op e1 p h F ok ox => by
    cases dec_is (and_l h)
    exact .plain (ev_neg (okE_sound B a x _ (and_r h) F ok ox).1)
  | .ite t a b, x, e, h => xIf_is (P := GotAll C A CS x (.ite t a b)) h fun e0 e1 e2 p h F ok ox =>
    have ht := okE_sound B t x _ (and_l h) F ok ox
    have ha := okE_sound B a x _ (and_l (and_r h)) F ok ox
    have hb := okE_sound B b x _ (and_r (and_r h)) F ok ox
    .test (ev_ite ht.2.1 ha.1 hb.1) (ts_ite ht.2.1 ha.2.1 hb.2.1)
  | .idx a i, x, e, h => xSub_is (P := GotAll C A CS x (.idx a i)) h fun e1 e2 p h F ok ox => .plain (ev_idx (okE_sound B a x _ (and_l h) F ok ox).1 (okE_sound B i x _ (and_r h) F ok ox).1)
  | .slc a lo hi, x, e, h => xSub_is (P := GotAll C A CS x (.slc a lo hi)) h fun e1 e2 p h => xSlice_is (P := fun e2 => GotAll C A CS x (.slc a lo hi) (.Subscript e1 e2 p)) h fun l hh st p' h => oNone_is (P := fun st => GotAll C A CS x (.slc a lo hi) (.Subscript e1 (.Slice l hh st p') p)) h fun h F ok ox =>
    .plain (ev_slc (okE_sound B a x _ (and_l h) F ok ox).1
      (oPick_is (P := fun l => OpSim C A F CS l lo) (and_l (and_r h)) (fun y h => op_some (okE_sound B lo x _ h F ok ox).1) fun h => isNoneE_is (P := fun m => OpSim C A F CS none m) h op_none)
      (oPick_is (P := fun l => OpSim C A F CS l hi) (and_r (and_r h)) (fun y h => op_some (okE_sound B hi x _ h F ok ox).1) fun h => isNoneE_is (P := fun m => OpSim C A F CS none m) h op_none))
  | .slst a lo st, x, e, h => xSub_is (P := GotAll C A CS x (.slst a lo st)) h fun e1 e2 p h => xSlice_is (P := fun e2 => GotAll C A CS x (.slst a lo st) (.Subscript e1 e2 p)) h fun l hh s p' h => oSome_is (P := fun l => GotAll C A CS x (.slst a lo st) (.Subscript e1 (.Slice l hh s p') p)) h fun l h =>
    oNone_is (P := fun hh => GotAll C A CS x (.slst a lo st) (.Subscript e1 (.Slice (some l) hh s p') p)) h fun h => oSome_is (P := fun s => GotAll C A CS x (.slst a lo st) (.Subscript e1 (.Slice (some l) none s p') p)) h fun s h F ok ox =>
    .plain (ev_slst (okE_sound B a x _ (and_l h) F ok ox).1 (okE_sound B lo x _ (and_l (and_r h)) F ok ox).1 (okE_sound B st x _ (and_r (and_r h)) F ok ox).1)
  | .attr a f, x, e, h => xAttr_is (P := GotAll C A CS x (.attr a f)) h fun v at' p h => xName_is (P := fun v => GotAll C A CS x (.attr a f) (.Attribute v at' p)) h fun n np h F ok ox => by
    cases dec_is (and_l h)
    exact .plain (ev_attr (attr_at B.tk) (okE_sound B a x _ (and_r h) F ok ox).1)
  | .call f as, x, e, h => xCall_is (P := GotAll C A CS x (.call f as)) h fun v es ws p h => xName_is (P := fun v => GotAll C A CS x (.call f as) (.Call v es ws p)) h fun n np h => lNil_is (P := fun ws => GotAll C A CS x (.call f as) (.Call (.Name n np) es ws p)) h fun h F ok ox =>
    have ha := okEs_sound B as x _ (and_r (and_r h))
    .plain (ev_call ok B.oc.toCfgOK ox (B.calls F ok) (and_l h) (List.contains_iff_mem.mp (and_l (and_r h))) ha.1 (ha.2 F ok ox))
  | .callv i as, x, e, h => xCall_is (P := GotAll C A CS x (.callv i as)) h fun v es ws p h => xName_is (P := fun v => GotAll C A CS x (.callv i as) (.Call v es ws p)) h fun n np h => lNil_is (P := fun ws => GotAll C A CS x (.callv i as) (.Call (.Name n np) es ws p)) h fun h F ok ox =>
    have ha := okEs_sound B as x _ (and_r h)
    .plain (ev_callv ok B.oc.toCfgOK ox (B.calls F ok) (and_l h) ha.1 (ha.2 F ok ox))
  | .mk as, x, e, h => xCall_is (P := GotAll C A CS x (.mk as)) h fun v es ws p h => xName_is (P := fun v => GotAll C A CS x (.mk as) (.Call v es ws p)) h fun n np h => lNil_is (P := fun ws => GotAll C A CS x (.mk as) (.Call (.Name n np) es ws p)) h fun h => lCons_is (P := fun es => GotAll C A CS x (.mk as) (.Call (.Name n np) es [] p)) (and_r (and_r h)) fun e1 t h' F ok ox =>
    have ha := okEs_sound B as x _ h'
    (dec_is (and_l h) : n = "Token") ▸ .plain (ev_mk ok B.oc ox (mk_at B.oc.toCfgOK B.tk B.hd) (and_l (and_r h)) ha.1 (ha.2 F ok ox))
  | .p1 q a, x, e, h => xCall_is (P := GotAll C A CS x (.p1 q a)) h fun v es ws p h => lNil_is (P := fun ws => GotAll C A CS x (.p1 q a) (.Call v es ws p)) h fun h => (or_is h).elim
    (fun h => xName_is (P := fun v => GotAll C A CS x (.p1 q a) (.Call v es [] p)) h fun n np h => l1_is (P := fun es => GotAll C A CS x (.p1 q a) (.Call (.Name n np) es [] p)) h fun e1 h => oSome_eq h fun f hf h F ok ox =>
      .plain (ev_b1 ok B.oc ox (and_l h) hf (and_l (and_r h)) (okE_sound B a x _ (and_r (and_r h)) F ok ox).1))
    (fun h => xAttr_is (P := fun v => GotAll C A CS x (.p1 q a) (.Call v es [] p)) h fun e1 n apos h => lNil_is (P := fun es => GotAll C A CS x (.p1 q a) (.Call (.Attribute e1 n apos) es [] p)) h fun h F ok ox => by
      have e1' : q = .lower := dec_is (and_l h)
      have e2' : n = "lower" := dec_is (and_l (and_r h))
      have h := and_r (and_r h)
      rw [e1', e2']
      exact .plain (ev_m1 ok (and_l h) (and_l (and_r h)) (okE_sound B a x _ (and_r (and_r h)) F ok ox).1))
  | .p2 q a b, x, e, h => xCall_is (P := GotAll C A CS x (.p2 q a b)) h fun v es ws p h => lNil_is (P := fun ws => GotAll C A CS x (.p2 q a b) (.Call v es ws p)) h fun h => (or_is h).elim
    (fun h => xName_is (P := fun v => GotAll C A CS x (.p2 q a b) (.Call v es [] p)) h fun n np h => l2_is (P := fun es => GotAll C A CS x (.p2 q a b) (.Call (.Name n np) es [] p)) h fun e1 e2 h => oSome_eq h fun f hf h F ok ox =>
      have h' := and_r (and_r h)
      .plain (ev_b2 ok B.oc ox (and_l h) hf (and_l (and_r h)) (okE_sound B a x _ (and_l h') F ok ox).1 (okE_sound B b x _ (and_r h') F ok ox).1))
    (fun h => xAttr_is (P := fun v => GotAll C A CS x (.p2 q a b) (.Call v es [] p)) h fun e1 n apos h => l1_is (P := fun es => GotAll C A CS x (.p2 q a b) (.Call (.Attribute e1 n apos) es [] p)) h fun e2 h F ok ox =>
      have hb := and_l (and_r h)
      have hs := and_l (and_r (and_r h))
      have hl := and_l (and_r (and_r (and_r h)))
      have h' := and_r (and_r (and_r (and_r h)))
      have ha := okE_sound B a x _ (and_l h') F ok ox
      have hb2 := okE_sound B b x _ (and_r h') F ok ox
      oPick_eq (and_l h) (fun t hm hp => by
        cases t with | mk n' id => cases (dec_is hp : n = n'); exact .plain (ev_m2 ok hm hb hs hl ha.1 hb2.1)) fun hm hp => by
        have e1' : q = .append := dec_is (and_l hp)
        have e2' : n = "append" := dec_is (and_r hp)
        clear hm hp
        subst e1' e2'
        exact .plain (ev_append ok hb hs hl ha.1 hb2.1))
  | .p3 q a b c, x, e, h => xCall_is (P := GotAll C A CS x (.p3 q a b c)) h fun v es ws p h => lNil_is (P := fun ws => GotAll C A CS x (.p3 q a b c) (.Call v es ws p)) h fun h =>
    xAttr_is (P := fun v => GotAll C A CS x (.p3 q a b c) (.Call v es [] p)) h fun e1 n apos h => l2_is (P := fun es => GotAll C A CS x (.p3 q a b c) (.Call (.Attribute e1 n apos) es [] p)) h fun e2 e3 h F ok ox => by
      have e1' : q = .find := dec_is (and_l h)
      have e2' : n = "find" := dec_is (and_l (and_r h))
      have h := and_r (and_r h)
      have h' := and_r (and_r (and_r h))
      rw [e1', e2']
      exact .plain (ev_m3 (and_l h) (and_l (and_r h)) (and_l (and_r (and_r h))) (okE_sound B a x _ (and_l h') F ok ox).1 (okE_sound B b x _ (and_l (and_r h')) F ok ox).1 (okE_sound B c x _ (and_r (and_r h')) F ok ox).1)
  | .tup es, x, e, h => xTup_is (P := GotAll C A CS x (.tup es)) h fun l k p h F ok ox =>
    .plain (ev_tup ((okEs_sound B es x _ (and_r h)).2 F ok ox) (dec_is (and_l h)))
  | .list es, x, e, h => xList_is (P := GotAll C A CS x (.list es)) h fun l p h F ok ox => .plain (ev_list ((okEs_sound B es x _ (and_r h)).2 F ok ox) (dec_is (and_l h)))
  | .cell es, x, e, h => xList_is (P := GotAll C A CS x (.cell es)) h fun l p h F ok ox => .plain (ev_cell ((okEs_sound B es x _ (and_r h)).2 F ok ox) (dec_is (and_l h)))
  | .dead, x, e, h => fun F ok ox => ⟨fun r Q E G => G.no, fun r G f => G.no, fun o es pos q => ⟨fun pos {g loc c s} r Q E G => G.no, fun r G f => G.no⟩⟩
  | .comp caps it elt cond, x, e, h => xComp_is (P := GotAll C A CS x (.comp caps it elt cond)) h fun e1 gs sc p h => l1_is (P := fun gs => GotAll C A CS x (.comp caps it elt cond) (.ListComp e1 gs sc p)) h fun g h => xGen_is (P := fun g => GotAll C A CS x (.comp caps it elt cond) (.ListComp e1 [g] sc p)) h fun t tp it' ifs h F ok ox =>
    have h' := and_r (and_r (and_r h))
    .plain (ev_comp ok ox (and_l h) (CompIs.of (and_l (and_r h))) (okE_sound B it x _ (and_l (and_r (and_r h))) F ok ox).1 (fun F' p => (okE_sound B elt _ _ (and_l h') F' p.1 p.2).1)
      ((or_is (and_r h')).elim (fun h => lNil_is (P := fun ifs => IfsSim C A CS (CompFms C A x sc t (capNames x caps)) ifs cond) h fun h => isTrueE_is (P := fun m => IfsSim C A CS (CompFms C A x sc t (capNames x caps)) [] m) h .none)
        fun h => l1_is (P := fun ifs => IfsSim C A CS (CompFms C A x sc t (capNames x caps)) ifs cond) h fun c h => .one fun F' p => (okE_sound B cond _ _ h F' p.1 p.2).2.1))
theorem okEs_sound (B : Base C A CS) : ∀ (ms : MEs) (x : Cx) (es : List Expr), okEs ms x es = true → GotEs C A CS ms x es
  | .nil, x, es, h => lNil_is (P := GotEs C A CS .nil x) h fun _ => ⟨rfl, fun F ok ox => es_nil⟩
  | .cons m r, x, es, h => lCons_is (P := GotEs C A CS (.cons m r) x) h fun e t h =>
    have ht := okEs_sound B r x _ (and_r (and_r h))
    ⟨Bool.and_eq_true_iff.mpr ⟨and_l h, ht.1⟩, fun F ok ox => es_cons (and_l h) (okE_sound B m x _ (and_l (and_r h)) F ok ox).1 (ht.2 F ok ox)⟩
end
end
end Mine
end
section
set_option Elab.async false
set_option linter.all false
namespace Mine
open PySem PySem.Spec PySem.Calls PyProof.Rows

noncomputable def isAtt (n : PySem.Str) (a : PySem.Str) (e : Expr) : Bool := xAttr e fun v at' _ => xName v fun f _ => decide (f = n) && decide (at' = a)
theorem isAtt_is {n a : PySem.Str} {e : Expr} {P : Expr → Prop} (h : isAtt n a e = true) (H : ∀ p q, P (.Attribute (.Name n p) a q)) : P e :=
  xAttr_is h fun v at' q h => xName_is (P := fun v => P (.Attribute v at' q)) h fun f p h => by
    rw [(dec_is (and_l h) : f = n), (dec_is (and_r h) : at' = a)]; exact H p q
/-- what «except ParseFault as fn: return ('refused', fn.why, fn.line)» is -/
noncomputable def isRefused (x : Cx) (hs : List ExceptHandler) (k : PySem.Str → Bool) : Bool := l1 hs fun h => xHandler h fun ty nm body _ => oSome ty fun ty => xName ty fun pn _ => oSome nm fun fn => l1 body fun st => sRet st fun v _ => oSome v fun v => xTup v fun es _ _ =>
  lCons es fun t r => xConst t (fun t _ _ => cStr t fun t => decide (t = strOf refText)) && l2 r fun a1 a2 => isAtt fn "why" a1 && (isAtt fn "line" a2 && (decide (pn = "ParseFault") && (isLocal x fn && k fn)))
theorem isRefused_is {x : Cx} {hs : List ExceptHandler} {k : PySem.Str → Bool} {P : List ExceptHandler → Prop} (h : isRefused x hs k = true)
    (H : ∀ fn p1 p2 p3 p4 p5 p6 p7 p8 p9 n1 n2, isLocal x fn = true → k fn = true →
      P [.ExceptHandler (some (.Name "ParseFault" p1)) (some fn) [.Return (some (.Tuple [.Constant (.str (strOf refText)) n1 p2, .Attribute (.Name fn p3) "why" p4, .Attribute (.Name fn p5) "line" p6] n2 p7)) p8] p9]) : P hs :=
  l1_is h fun hd h => xHandler_is (P := fun hd => P [hd]) h fun ty nm body p9 h => oSome_is (P := fun ty => P [.ExceptHandler ty nm body p9]) h fun ty h => xName_is (P := fun ty => P [.ExceptHandler (some ty) nm body p9]) h fun pn p1 h => oSome_is (P := fun nm => P [.ExceptHandler (some (.Name pn p1)) nm body p9]) h fun fn h =>
    l1_is (P := fun body => P [.ExceptHandler (some (.Name pn p1)) (some fn) body p9]) h fun st h => sRet_is (P := fun st => P [.ExceptHandler (some (.Name pn p1)) (some fn) [st] p9]) h fun v p8 h => oSome_is (P := fun v => P [.ExceptHandler (some (.Name pn p1)) (some fn) [.Return v p8] p9]) h fun v h =>
    xTup_is (P := fun v => P [.ExceptHandler (some (.Name pn p1)) (some fn) [.Return (some v) p8] p9]) h fun es n2 p7 h => lCons_is (P := fun es => P [.ExceptHandler (some (.Name pn p1)) (some fn) [.Return (some (.Tuple es n2 p7)) p8] p9]) h fun t r h =>
    xConst_is (P := fun t => P [.ExceptHandler (some (.Name pn p1)) (some fn) [.Return (some (.Tuple (t :: r) n2 p7)) p8] p9]) (and_l h) fun t n1 p2 ht => cStr_is (P := fun t => P [.ExceptHandler (some (.Name pn p1)) (some fn) [.Return (some (.Tuple (.Constant t n1 p2 :: r) n2 p7)) p8] p9]) ht fun t ht =>
    l2_is (P := fun r => P [.ExceptHandler (some (.Name pn p1)) (some fn) [.Return (some (.Tuple (.Constant (.str t) n1 p2 :: r) n2 p7)) p8] p9]) (and_r h) fun a1 a2 h => isAtt_is (P := fun a1 => P [.ExceptHandler (some (.Name pn p1)) (some fn) [.Return (some (.Tuple [.Constant (.str t) n1 p2, a1, a2] n2 p7)) p8] p9]) (and_l h) fun p3 p4 =>
    isAtt_is (P := fun a2 => P [.ExceptHandler (some (.Name pn p1)) (some fn) [.Return (some (.Tuple [.Constant (.str t) n1 p2, .Attribute (.Name fn p3) "why" p4, a2] n2 p7)) p8] p9]) (and_l (and_r h)) fun p5 p6 => by
      have h := and_r (and_r h)
      have h' := and_r (and_r h)
      rw [(dec_is ht : t = _), (dec_is (and_l h) : pn = _)]
      exact H _ _ _ _ _ _ _ _ _ _ _ _ (and_l (and_r h)) h'

noncomputable def isCompE (m : ME) : Bool := match m with | .comp .. => true | _ => false
noncomputable def compSc (n : PySem.Str) (np : Pos) (e : Expr) : Bool := xComp e fun _ _ sc cpos => decide (np.line = cpos.line) && !(sc.names.any fun (m, k) => m == n && (k == .local || k == .cell))
noncomputable def okAssign (i : Nat) (m : ME) (x : Cx) (n : PySem.Str) (np : Pos) (e : Expr) : Bool :=
  isLocal x n && (x.vars[i]? == some n && (okE m x e && (noComp e || (compSc n np e && isCompE m))))
mutual
noncomputable def okS : MS → Cx → Stmt → Bool
  | .assign i m, x, st => sAssign st fun ts e _ => l1 ts fun t => xName t fun n np => okAssign i m x n np e
  | .unpack is m, x, st => sAssign st fun ts e _ => l1 ts fun t => xTup t fun elts _ _ => tgtOK x elts is && (noComp e && (notTup e && okE m x e))
  | .pair i j a b, x, st => sAssign st fun ts e _ => l1 ts fun t => xTup t fun elts _ _ => xTup e fun es _ _ => l2 elts fun t1 t2 => xName t1 fun n1 p1 => xName t2 fun n2 p2 => l2 es fun e1 e2 =>
      isLocal x n1 && (x.vars[i]? == some n1 && (isLocal x n2 && (x.vars[j]? == some n2 && (decide (p2.line = p1.line) && (decide (n1 ≠ n2) && ([e1, e2].all notStar &&
      (!([e1, e2].all (foldedForSure 8)) && (!([e1, e2].all (constantsAlone 8)) && (okE a x e1 && okE b x e2)))))))))
  | .aug i o m, x, st => sAug st fun t op e _ => xName t fun n _ => decide (op = .Add) && (decide (o = .add) && (isSlot x n i && (isLocal x n && okE m x e)))
  | .ite t a b, x, st => sIf st fun e sa sb _ => okE t x e && (okSs a x sa && okSs b x sb)
  | .while t b, x, st => sWhile st fun e sb els _ => lNil els (okE t x e && okSs b x sb)
  | .for i it b, x, st => sFor st fun t e sb els _ => lNil els (xName t fun n _ => notSet e && (isLocal x n && (x.vars[i]? == some n && (okE it x e && okSs b x sb))))
  | .forT is it b, x, st => sFor st fun t e sb els _ => lNil els (xTup t fun elts _ _ => notSet e && (tgtOK x elts is && (okE it x e && okSs b x sb)))
  | .forR i lo hi b, x, st => sFor st fun t e sb els _ => lNil els (xName t fun n _ => xCall e fun f args ws _ => lNil ws (xName f fun r _ => decide (r = "range") && (isLocal x n && (x.vars[i]? == some n && (isBlt x "range" (.type "range") && (
      ((l1 args fun e2 => isZeroE lo && ([e2].all notStar && okE hi x e2)) || (l2 args fun e1 e2 => [e1, e2].all notStar && (okE lo x e1 && okE hi x e2))) && okSs b x sb))))))
  | .ret m, x, st => sRet st fun v _ => oSome v fun e => okE m x e
  | .raise a b, x, st => sRaise st fun v c _ => oNone c (oSome v fun v => xCall v fun f es ws _ => lNil ws (xName f fun n _ => l2 es fun e1 e2 => decide (n = "ParseFault") && (isGlob x "ParseFault" && ([e1, e2].all notStar && (okE a x e1 && okE b x e2)))))
  | .raiseEnd a, x, st => sRaise st fun v c _ => oNone c (oSome v fun v => xCall v fun f es ws _ => lNil ws (xName f fun n _ => l1 es fun e1 => decide (n = "no_end") && (isGlob x "no_end" && ([e1].all notStar && okE a x e1))))
  | .expr m, x, st => sExpr st fun e _ => noComp e && okE m x e
  | .tryR i m, x, st => sTry st fun body hs els fin _ => lNil els (lNil fin (l1 body fun st => sAssign st fun ts e ap => l1 ts fun t => xName t fun n np => isRefused x hs fun _ => isGlob x "ParseFault" && okAssign i m x n np e))
  | .dead, _, _ => true
  | _, _, _ => false
noncomputable def okSs : MS → Cx → List Stmt → Bool
  | .skip, _, sts => lNil sts true
  | .seq a b, x, sts => lCons sts fun st r => okS a x st && okSs b x r
  | .dead, _, _ => true
  | _, _, _ => false
end

section
variable {C : Cfg} {A : Around} {CS : Calls} {N : Nat}
noncomputable def GotS (C : Cfg) (A : Around) (CS : Calls) (N : Nat) (m : MS) (x : Cx) (st : Stmt) : Prop := ∀ F, FmOK C F A → FnOK F → CxOK C F x → S1Sim C A F CS N st m
noncomputable def GotSs (C : Cfg) (A : Around) (CS : Calls) (N : Nat) (m : MS) (x : Cx) (sts : List Stmt) : Prop := ∀ F, FmOK C F A → FnOK F → CxOK C F x → StSim C A F CS N sts m

theorem at_eq {α : Type} {a b : α} (P : α → Prop) (h : a = b) (H : P b) : P a := h ▸ H
theorem isCompE_is {m : ME} {P : ME → Prop} (h : isCompE m = true) (H : ∀ a b c d, P (.comp a b c d)) : P m := by cases m <;> first | exact H _ _ _ _ | exact no_f h
theorem got_assign (B : Base C A CS) {i : Nat} {m : ME} {x : Cx} {n : PySem.Str} {np : Pos} {e : Expr} {pos : Pos} (h : okAssign i m x n np e = true) : GotS C A CS N (.assign i m) x (.Assign [.Name n np] e pos) := fun F ok of ox =>
  have hl := and_l h
  have hi := beq_is (and_l (and_r h))
  have he := and_l (and_r (and_r h))
  (or_is (and_r (and_r (and_r h)))).elim (fun hc => s_assign ok ox hl hi hc (okE_sound B m x e he F ok ox).1) fun hc =>
    isCompE_is (P := fun m => okE m x e = true → S1Sim C A F CS N (.Assign [.Name n np] e pos) (.assign i m)) (and_r hc) (fun caps it elt cond he =>
      xComp_is (P := fun e => compSc n np e = true → S1Sim C A F CS N (.Assign [.Name n np] e pos) (.assign i (.comp caps it elt cond))) he (fun e1 gs sc cpos h => l1_is (P := fun gs => compSc n np (.ListComp e1 gs sc cpos) = true → S1Sim C A F CS N (.Assign [.Name n np] (.ListComp e1 gs sc cpos) pos) (.assign i (.comp caps it elt cond))) h fun g h =>
        xGen_is (P := fun g => compSc n np (.ListComp e1 [g] sc cpos) = true → S1Sim C A F CS N (.Assign [.Name n np] (.ListComp e1 [g] sc cpos) pos) (.assign i (.comp caps it elt cond))) h fun t tp it' ifs h hc =>
        have h' := and_r (and_r (and_r h))
        s_comp ok ox (and_l h) (CompIs.of (and_l (and_r h))) (okE_sound B it x _ (and_l (and_r (and_r h))) F ok ox).1 (fun F' p => (okE_sound B elt _ _ (and_l h') F' p.1 p.2).1)
          ((or_is (and_r h')).elim (fun h => lNil_is (P := fun ifs => IfsSim C A CS (CompFms C A x sc t (capNames x caps)) ifs cond) h fun h => isTrueE_is (P := fun m => IfsSim C A CS (CompFms C A x sc t (capNames x caps)) [] m) h .none)
            fun h => l1_is (P := fun ifs => IfsSim C A CS (CompFms C A x sc t (capNames x caps)) ifs cond) h fun c h => .one fun F' p => (okE_sound B cond _ _ h F' p.1 p.2).2.1)
          hl hi (dec_is (and_l hc)) (not_is (and_r hc))) (and_l hc)) he

mutual
theorem okS_sound (B : Base C A CS) : ∀ (m : MS) (x : Cx) (st : Stmt), okS m x st = true → GotS C A CS N m x st
  | .assign i m, x, st, h => sAssign_is (P := GotS C A CS N (.assign i m) x) h fun ts e p h => l1_is (P := fun ts => GotS C A CS N (.assign i m) x (.Assign ts e p)) h fun t h => xName_is (P := fun t => GotS C A CS N (.assign i m) x (.Assign [t] e p)) h fun n np h => got_assign B h
  | .unpack is m, x, st, h => sAssign_is (P := GotS C A CS N (.unpack is m) x) h fun ts e p h => l1_is (P := fun ts => GotS C A CS N (.unpack is m) x (.Assign ts e p)) h fun t h => xTup_is (P := fun t => GotS C A CS N (.unpack is m) x (.Assign [t] e p)) h fun elts k tp h F ok of ox =>
      s_unpack ok ox (and_l h) (and_l (and_r h)) (and_l (and_r (and_r h))) (okE_sound B m x _ (and_r (and_r (and_r h))) F ok ox).1
  | .pair i j a b, x, st, h => sAssign_is (P := GotS C A CS N (.pair i j a b) x) h fun ts e p h => l1_is (P := fun ts => GotS C A CS N (.pair i j a b) x (.Assign ts e p)) h fun t h => xTup_is (P := fun t => GotS C A CS N (.pair i j a b) x (.Assign [t] e p)) h fun elts k tp h =>
      xTup_is (P := fun e => GotS C A CS N (.pair i j a b) x (.Assign [.Tuple elts k tp] e p)) h fun es k2 tp2 h => l2_is (P := fun elts => GotS C A CS N (.pair i j a b) x (.Assign [.Tuple elts k tp] (.Tuple es k2 tp2) p)) h fun t1 t2 h =>
      xName_is (P := fun t1 => GotS C A CS N (.pair i j a b) x (.Assign [.Tuple [t1, t2] k tp] (.Tuple es k2 tp2) p)) h fun n1 p1 h => xName_is (P := fun t2 => GotS C A CS N (.pair i j a b) x (.Assign [.Tuple [.Name n1 p1, t2] k tp] (.Tuple es k2 tp2) p)) h fun n2 p2 h =>
      l2_is (P := fun es => GotS C A CS N (.pair i j a b) x (.Assign [.Tuple [.Name n1 p1, .Name n2 p2] k tp] (.Tuple es k2 tp2) p)) h fun e1 e2 h F ok of ox =>
        have h4 := and_r (and_r (and_r h))
        have h7 := and_r (and_r (and_r h4))
        have h9 := and_r (and_r (and_r h7))
        s_pair ok ox (and_l h) (beq_is (and_l (and_r h))) (and_l (and_r (and_r h))) (beq_is (and_l h4)) (dec_is (and_l (and_r h4))) (dec_is (and_l (and_r (and_r h4)))) (and_l h7) (not_is (and_l (and_r h7))) (not_is (and_l (and_r (and_r h7)))) (okE_sound B a x _ (and_l h9) F ok ox).1 (okE_sound B b x _ (and_r h9) F ok ox).1
  | .aug i o m, x, st, h => sAug_is (P := GotS C A CS N (.aug i o m) x) h fun t op e p h => xName_is (P := fun t => GotS C A CS N (.aug i o m) x (.AugAssign t op e p)) h fun n np h F ok of ox =>
      have h' := and_r (and_r h)
      at_eq (fun op => S1Sim C A F CS N (.AugAssign (.Name n np) op e p) (.aug i o m)) (dec_is (and_l h)) <| at_eq (fun o => S1Sim C A F CS N (.AugAssign (.Name n np) .Add e p) (.aug i o m)) (dec_is (and_l (and_r h))) <|
      s_aug ok ox (and_l h') (and_l (and_r h')) (okE_sound B m x _ (and_r (and_r h')) F ok ox).1
  | .ite t a b, x, st, h => sIf_is (P := GotS C A CS N (.ite t a b) x) h fun e sa sb p h F ok of ox => s_if (okE_sound B t x _ (and_l h) F ok ox).2.1 (okSs_sound B a x _ (and_l (and_r h)) F ok of ox) (okSs_sound B b x _ (and_r (and_r h)) F ok of ox)
  | .while t b, x, st, h => sWhile_is (P := GotS C A CS N (.while t b) x) h fun e sb els p h => lNil_is (P := fun els => GotS C A CS N (.while t b) x (.While e sb els p)) h fun h F ok of ox => s_while ok of (okE_sound B t x _ (and_l h) F ok ox).2.1 (okSs_sound B b x _ (and_r h) F ok of ox)
  | .for i it b, x, st, h => sFor_is (P := GotS C A CS N (.for i it b) x) h fun t e sb els p h => lNil_is (P := fun els => GotS C A CS N (.for i it b) x (.For t e sb els p)) h fun h => xName_is (P := fun t => GotS C A CS N (.for i it b) x (.For t e sb [] p)) h fun n np h F ok of ox =>
      have h' := and_r (and_r (and_r h))
      s_for ok of ox (and_l h) (and_l (and_r h)) (beq_is (and_l (and_r (and_r h)))) (fun p => okSs_sound B b x _ (and_r h') _ (ok.also p) (of.also p) (ox.also p)) (okE_sound B it x _ (and_l h') F ok ox).1
  | .forT is it b, x, st, h => sFor_is (P := GotS C A CS N (.forT is it b) x) h fun t e sb els p h => lNil_is (P := fun els => GotS C A CS N (.forT is it b) x (.For t e sb els p)) h fun h => xTup_is (P := fun t => GotS C A CS N (.forT is it b) x (.For t e sb [] p)) h fun elts k tp h F ok of ox =>
      have h' := and_r (and_r h)
      s_forT ok of ox (and_l h) (and_l (and_r h)) (fun p => okSs_sound B b x _ (and_r h') _ (ok.also p) (of.also p) (ox.also p)) (okE_sound B it x _ (and_l h') F ok ox).1
  | .forR i lo hi b, x, st, h => sFor_is (P := GotS C A CS N (.forR i lo hi b) x) h fun t e sb els p h => lNil_is (P := fun els => GotS C A CS N (.forR i lo hi b) x (.For t e sb els p)) h fun h => xName_is (P := fun t => GotS C A CS N (.forR i lo hi b) x (.For t e sb [] p)) h fun n np h =>
      xCall_is (P := fun e => GotS C A CS N (.forR i lo hi b) x (.For (.Name n np) e sb [] p)) h fun f args ws cp h => lNil_is (P := fun ws => GotS C A CS N (.forR i lo hi b) x (.For (.Name n np) (.Call f args ws cp) sb [] p)) h fun h =>
      xName_is (P := fun f => GotS C A CS N (.forR i lo hi b) x (.For (.Name n np) (.Call f args [] cp) sb [] p)) h fun r rp h F ok of ox =>
      have h' := and_r (and_r (and_r h))
      have hb := okSs_sound B b x _ (and_r (and_r h'))
      at_eq (fun r => S1Sim C A F CS N (.For (.Name n np) (.Call (.Name r rp) args [] cp) sb [] p) (.forR i lo hi b)) (dec_is (and_l h)) <|
      (or_is (and_l (and_r h'))).elim
        (fun g => l1_is (P := fun args => S1Sim C A F CS N (.For (.Name n np) (.Call (.Name "range" rp) args [] cp) sb [] p) (.forR i lo hi b)) g fun e2 g => isZeroE_is (P := fun lo => S1Sim C A F CS N (.For (.Name n np) (.Call (.Name "range" rp) [e2] [] cp) sb [] p) (.forR i lo hi b)) (and_l g)
          (s_forR1 ok B.oc of ox (and_l (and_r h)) (beq_is (and_l (and_r (and_r h)))) (and_l h') (and_l (and_r g)) (fun p => hb _ (ok.also p) (of.also p) (ox.also p)) (okE_sound B hi x _ (and_r (and_r g)) F ok ox).1))
        (fun g => l2_is (P := fun args => S1Sim C A F CS N (.For (.Name n np) (.Call (.Name "range" rp) args [] cp) sb [] p) (.forR i lo hi b)) g fun e1 e2 g =>
          s_forR2 ok B.oc of ox (and_l (and_r h)) (beq_is (and_l (and_r (and_r h)))) (and_l h') (and_l g) (fun p => hb _ (ok.also p) (of.also p) (ox.also p)) (okE_sound B lo x _ (and_l (and_r g)) F ok ox).1 (okE_sound B hi x _ (and_r (and_r g)) F ok ox).1)
  | .ret m, x, st, h => sRet_is (P := GotS C A CS N (.ret m) x) h fun v p h => oSome_is (P := fun v => GotS C A CS N (.ret m) x (.Return v p)) h fun e h F ok of ox => s_ret (okE_sound B m x _ h F ok ox).1
  | .raise a b, x, st, h => sRaise_is (P := GotS C A CS N (.raise a b) x) h fun v c p h => oNone_is (P := fun c => GotS C A CS N (.raise a b) x (.Raise v c p)) h fun h => oSome_is (P := fun v => GotS C A CS N (.raise a b) x (.Raise v none p)) h fun v h => xCall_is (P := fun v => GotS C A CS N (.raise a b) x (.Raise (some v) none p)) h fun f es ws cp h =>
      lNil_is (P := fun ws => GotS C A CS N (.raise a b) x (.Raise (some (.Call f es ws cp)) none p)) h fun h => xName_is (P := fun f => GotS C A CS N (.raise a b) x (.Raise (some (.Call f es [] cp)) none p)) h fun n np h => l2_is (P := fun es => GotS C A CS N (.raise a b) x (.Raise (some (.Call (.Name n np) es [] cp)) none p)) h fun e1 e2 h F ok of ox =>
      have h' := and_r (and_r h)
      at_eq (fun n => S1Sim C A F CS N (.Raise (some (.Call (.Name n np) [e1, e2] [] cp)) none p) (.raise a b)) (dec_is (and_l h)) <|
      B.pf.elim fun D => s_raise ok B.oc.toCfgOK D (Nat.lt_of_le_of_lt (Nat.add_le_add_left (by decide) _) B.hd) ox (and_l (and_r h)) (and_l h') (okE_sound B a x _ (and_l (and_r h')) F ok ox).1 (okE_sound B b x _ (and_r (and_r h')) F ok ox).1
  | .raiseEnd a, x, st, h => sRaise_is (P := GotS C A CS N (.raiseEnd a) x) h fun v c p h => oNone_is (P := fun c => GotS C A CS N (.raiseEnd a) x (.Raise v c p)) h fun h => oSome_is (P := fun v => GotS C A CS N (.raiseEnd a) x (.Raise v none p)) h fun v h => xCall_is (P := fun v => GotS C A CS N (.raiseEnd a) x (.Raise (some v) none p)) h fun f es ws cp h =>
      lNil_is (P := fun ws => GotS C A CS N (.raiseEnd a) x (.Raise (some (.Call f es ws cp)) none p)) h fun h => xName_is (P := fun f => GotS C A CS N (.raiseEnd a) x (.Raise (some (.Call f es [] cp)) none p)) h fun n np h => l1_is (P := fun es => GotS C A CS N (.raiseEnd a) x (.Raise (some (.Call (.Name n np) es [] cp)) none p)) h fun e1 h F ok of ox =>
      have h' := and_r (and_r h)
      at_eq (fun n => S1Sim C A F CS N (.Raise (some (.Call (.Name n np) [e1] [] cp)) none p) (.raiseEnd a)) (dec_is (and_l h)) <|
      B.pf.elim fun D => s_raiseEnd ok B.oc.toCfgOK D B.en (Nat.lt_of_le_of_lt (Nat.add_le_add_left (by decide) _) B.hd) ox (and_l (and_r h)) (and_l h') (okE_sound B a x _ (and_r h') F ok ox).1
  | .expr m, x, st, h => sExpr_is (P := GotS C A CS N (.expr m) x) h fun e p h F ok of ox => s_expr ok (and_l h) (okE_sound B m x _ (and_r h) F ok ox).1
  | .tryR i m, x, st, h => sTry_is (P := GotS C A CS N (.tryR i m) x) h fun body hs els fin p h => lNil_is (P := fun els => GotS C A CS N (.tryR i m) x (.Try body hs els fin p)) h fun h => lNil_is (P := fun fin => GotS C A CS N (.tryR i m) x (.Try body hs [] fin p)) h fun h =>
      l1_is (P := fun body => GotS C A CS N (.tryR i m) x (.Try body hs [] [] p)) h fun st h => sAssign_is (P := fun st => GotS C A CS N (.tryR i m) x (.Try [st] hs [] [] p)) h fun ts e ap h => l1_is (P := fun ts => GotS C A CS N (.tryR i m) x (.Try [.Assign ts e ap] hs [] [] p)) h fun t h =>
      xName_is (P := fun t => GotS C A CS N (.tryR i m) x (.Try [.Assign [t] e ap] hs [] [] p)) h fun n np h => isRefused_is (P := fun hs => GotS C A CS N (.tryR i m) x (.Try [.Assign [.Name n np] e ap] hs [] [] p)) h fun fn p1 p2 p3 p4 p5 p6 p7 p8 p9 n1 n2 h7 h F ok of ox =>
      B.pf.elim fun D => s_try ok of B.oc.toCfgOK D ox (got_assign B (and_r h) F ok of ox) (and_l h) h7
  | .dead, x, st, h => fun F ok of ox => fun {g loc c s} r Q E G => G.no
  | .skip, x, st, h => no_f h
  | .seq _ _, x, st, h => no_f h
  | .setidx _ _ _, x, st, h => no_f h
theorem okSs_sound (B : Base C A CS) : ∀ (m : MS) (x : Cx) (sts : List Stmt), okSs m x sts = true → GotSs C A CS N m x sts
  | .skip, x, sts, h => lNil_is (P := GotSs C A CS N .skip x) h fun _ F ok of ox => st_nil
  | .seq a b, x, sts, h => lCons_is (P := GotSs C A CS N (.seq a b) x) h fun st r h F ok of ox => st_cons (okS_sound B a x _ (and_l h) F ok of ox) (okSs_sound B b x _ (and_r h) F ok of ox)
  | .dead, x, sts, h => fun F ok of ox => fun {g loc c s} r Q E G => G.no
  | .assign _ _, x, sts, h => no_f h
  | .unpack _ _, x, sts, h => no_f h
  | .pair _ _ _ _, x, sts, h => no_f h
  | .aug _ _ _, x, sts, h => no_f h
  | .setidx _ _ _, x, sts, h => no_f h
  | .ite _ _ _, x, sts, h => no_f h
  | .while _ _, x, sts, h => no_f h
  | .for _ _ _, x, sts, h => no_f h
  | .forT _ _ _, x, sts, h => no_f h
  | .forR _ _ _ _, x, sts, h => no_f h
  | .ret _, x, sts, h => no_f h
  | .raise _ _, x, sts, h => no_f h
  | .raiseEnd _, x, sts, h => no_f h
  | .expr _, x, sts, h => no_f h
  | .tryR _ _, x, sts, h => no_f h
end
end
end Mine
end
section
set_option Elab.async false
set_option linter.all false
set_option backward.match.sparseCases false
namespace Mine
open PySem PySem.Spec PySem.Calls PyProof.Rows PySem.W

/-! what is looked at when the text's top has run -/
structure Ent where
  name : PySem.Str
  f : Nat
  d : FD
  vars : List PySem.Str

noncomputable def vRef (v : Value) (k : Addr → Bool) : Bool := match v with | .ref a => k a | _ => false
noncomputable def vStr (v : Value) (k : PySem.Str → Bool) : Bool := match v with | .str a _ => k a | _ => false
noncomputable def vType (v : Value) (k : String → Bool) : Bool := match v with | .type a => k a | _ => false
noncomputable def vBuiltin (v : Value) (k : String → Bool) : Bool := match v with | .builtin a => k a | _ => false
noncomputable def isNoneV (v : Value) : Bool := match v with | .none => true | _ => false
noncomputable def dFunc (d : Data) (k : FuncData → Bool) : Bool := match d with | .func f => k f | _ => false
noncomputable def dFields (d : Data) (k : Array Value → Bool) : Bool := match d with | .fields f => k f | _ => false
noncomputable def dCls (d : Data) (k : ClassData → Bool) : Bool := match d with | .cls f => k f | _ => false
noncomputable def fStmts (d : FuncBody) (k : List Stmt → Bool) : Bool := match d with | .stmts f => k f | _ => false
section
variable {P : Value → Prop} {v : Value} {G : Prop}
theorem vRef_is {k : Addr → Bool} (h : vRef v k = true) (H : ∀ a, k a = true → P (.ref a)) : P v := by cases v <;> first | exact H _ h | exact no_f h
theorem vStr_is {k : PySem.Str → Bool} (h : vStr v k = true) (H : ∀ a t, k a = true → P (.str a t)) : P v := by cases v <;> first | exact H _ _ h | exact no_f h
theorem vType_is {k : String → Bool} (h : vType v k = true) (H : ∀ a, k a = true → P (.type a)) : P v := by cases v <;> first | exact H _ h | exact no_f h
theorem vBuiltin_is {k : String → Bool} (h : vBuiltin v k = true) (H : ∀ a, k a = true → P (.builtin a)) : P v := by cases v <;> first | exact H _ h | exact no_f h
theorem isNoneV_eq (h : isNoneV v = true) : v = .none := by cases v <;> first | rfl | exact no_f h
variable {d : Data} {b : FuncBody}
theorem dFunc_eq {k : FuncData → Bool} (h : dFunc d k = true) (H : ∀ f, d = .func f → k f = true → G) : G := by cases d <;> first | exact H _ rfl h | exact no_f h
theorem dFields_eq {k : Array Value → Bool} (h : dFields d k = true) (H : ∀ f, d = .fields f → k f = true → G) : G := by cases d <;> first | exact H _ rfl h | exact no_f h
theorem dCls_is {k : ClassData → Bool} {P : Data → Prop} (h : dCls d k = true) (H : ∀ f, k f = true → P (.cls f)) : P d := by cases d <;> first | exact H _ h | exact no_f h
theorem fStmts_eq {k : List Stmt → Bool} (h : fStmts b k = true) (H : ∀ f, b = .stmts f → k f = true → G) : G := by cases b <;> first | exact H _ rfl h | exact no_f h
end
noncomputable def plainArgs (p : Arguments) (k : List Arg → Bool) : Bool := lNil p.posonlyargs (oNone p.vararg (lNil p.kwonlyargs (lNil p.kw_defaults (oNone p.kwarg (lNil p.defaults (k p.args))))))
theorem plainArgs_eq {p : Arguments} {k : List Arg → Bool} {G : Prop} (h : plainArgs p k = true) (H : ∀ args, p = { posonlyargs := [], args := args, vararg := none, kwonlyargs := [], kw_defaults := [], kwarg := none, defaults := [] } → k args = true → G) : G := by
  obtain ⟨a, b, c, d, e, f, g⟩ := p
  exact lNil_is (P := fun x => a = x → G) h (fun h ea => oNone_is (P := fun x => c = x → G) h (fun h ec => lNil_is (P := fun x => d = x → G) h (fun h ed => lNil_is (P := fun x => e = x → G) h (fun h ee => oNone_is (P := fun x => f = x → G) h (fun h ef => lNil_is (P := fun x => g = x → G) h (fun h eg => by
    subst ea ec ed ee ef eg; exact H b rfl h) rfl) rfl) rfl) rfl) rfl) rfl

noncomputable def codeSee (h : Heap) (cd : Value) (q : PySem.Str) : Bool := vRef cd fun c => oSome (h.get? c) fun o => dFields o.data fun vs => oSome (vs[1]? : Option Value) fun v => vStr v fun q' => decide (q' = q)
/-- kept: all but sequences -/
noncomputable def Kept (h h' : Heap) : Prop := ∀ b o, h.get? b = some o → (∀ vs n, o.data ≠ .seq vs n) → h'.get? b = some o
theorem codeSee_ok {h h' : Heap} {cd : Value} {q : PySem.Str} (k : Kept h h') (x : codeSee h cd q = true) : h'.CodeRec cd q :=
  vRef_is (P := fun cd => h'.CodeRec cd q) x fun c x => oSome_eq x fun o ho x => dFields_eq x fun vs hd x => oSome_eq x fun v hv x => vStr_is (P := fun v => (vs[1]? : Option Value) = some v → h'.CodeRec (.ref c) q) x (fun q' t x hv =>
    ⟨c, o, vs, t, rfl, k _ _ ho (fun a b z => by rw [hd] at z; cases z), hd, dec_is x ▸ hv⟩) hv

noncomputable def defSee (h : Heap) (fd : FuncData) (k : List Arg → List Stmt → Bool) : Bool := plainArgs fd.params fun args => fStmts fd.body fun body => isNoneV fd.defaults && (decide (fd.globals = mainGlobals) && (lNil fd.closure true && (decide (fd.builtins = builtinsNs) && (codeSee h fd.code fd.qualname &&
  (decide (fd.scope.kind = .function) && (!fd.scope.isCoroutine && (!fd.scope.isGenerator && k args body)))))))
theorem defSee_is {h h' : Heap} (k : Kept h h') {fd : FuncData} {K : List Arg → List Stmt → Bool} {G : Prop} (x : defSee h fd K = true) (H : ∀ args body, DefIs h' fd args body → K args body = true → G) : G :=
  plainArgs_eq x fun args hp x => fStmts_eq x fun body hb x =>
    have x4 := and_r (and_r (and_r x))
    have x7 := and_r (and_r (and_r x4))
    H args body ⟨hp, isNoneV_eq (and_l x), hb, dec_is (and_l (and_r x)), lNil_is (P := (· = [])) (and_l (and_r (and_r x))) fun _ => rfl, dec_is (and_l x4), codeSee_ok k (and_l (and_r x4)), dec_is (and_l (and_r (and_r x4))), not_is (and_l x7), not_is (and_l (and_r x7))⟩ (and_r (and_r x7))
noncomputable def fnAt (h : Heap) (a : Addr) (k : Obj → FuncData → Bool) : Bool := oSome (h.get? a) fun o => dFunc o.data fun fd => k o fd
theorem fnAt_is {h h' : Heap} (k : Kept h h') {a : Addr} {K : Obj → FuncData → Bool} {G : Prop} (x : fnAt h a K = true) (H : ∀ o fd, h'.get? a = some o → o.data = .func fd → K o fd = true → G) : G :=
  oSome_eq x fun o ho x => dFunc_eq x fun fd hd x => H o fd (k _ _ ho fun a b z => by rw [hd] at z; cases z) hd x
noncomputable def fnSee (fns : List (PySem.Str × Nat)) (h : Heap) (e : Ent) : Bool := oSome (h.nsMap mainGlobals e.name) fun v => vRef v fun a => fnAt h a fun _ fd => defSee h fd fun args body => decide (args.map (·.arg)).Nodup && ((args.map (·.arg)).all (fun n => fd.scope.names.lookup n == some .local || fd.scope.names.lookup n == some .cell) &&
  (decide (e.d.np = args.length) && (decide e.vars.Nodup && (decide (e.vars.length = e.d.nv) && (decide (e.vars.take e.d.np = args.map (·.arg)) && okSs e.d.body { scope := fd.scope, vars := e.vars, fns := fns } body)))))

noncomputable def entOf (T : List Ent) (f : Nat) : Option Ent := T.find? (fun e => e.f == f)
noncomputable def fnsOf (T : List Ent) : List (PySem.Str × Nat) := T.map fun e => (e.name, e.f)
noncomputable def addrOf (mg : PySem.Str → Option Value) (n : PySem.Str) : Option Addr := match mg n with | some (.ref a) => some a | _ => none
noncomputable def fnAOf (T : List Ent) (mg : PySem.Str → Option Value) (f : Nat) : Option Addr := (entOf T f).bind fun e => addrOf mg e.name
noncomputable def tabOf (T : List Ent) (f : Nat) : Option FD := (entOf T f).map (·.d)
noncomputable def mkCfg (T : List Ent) (prog : Program) (w : World) (h : Heap) (mg mb : PySem.Str → Option Value) : Cfg :=
  { prog := prog, w := w, h₀ := h, mg := mg, mb := mb, fnA := fnAOf T mg, tokC := (addrOf mg "Token").getD 0, pfC := (addrOf mg "ParseFault").getD 0 }

theorem fnSee_is {T : List Ent} {fns : List (PySem.Str × Nat)} {h h' : Heap} {C : Cfg} (hC : C.h₀ = h') (k : Kept h h') {e : Ent} {a : Addr} (hn : h.nsMap mainGlobals e.name = some (.ref a)) (x : fnSee fns h e = true) {f : Nat} (ht : tabOf T f = some e.d)
    (hb : ∀ (A : Around) (CS : Calls) (k : Nat), A.depth + 3 * k + 8 < recursionLimit → A.units + 20 * k + 317 < cLine → (∀ F A, FmOK C F A → A.depth + 3 * k + 6 < recursionLimit → A.units + 20 * k + 300 < cLine → CallsAt C A F CS) → Base C A CS) : FnIs C fns (tabOf T) f a := by
  subst hC
  unfold fnSee at x
  rw [hn] at x
  exact fnAt_is k x fun o fd ho hd x => defSee_is k x fun args body D x =>
    have x3 := and_r (and_r x)
    have x6 := and_r (and_r (and_r x3))
    ⟨o, fd, args, body, ho, hd, D, dec_is (and_l x), fun n hn => (or_is (List.all_eq_true.mp (and_l (and_r x)) n hn)).imp beq_is beq_is, fun d hT => Option.some.inj (ht.symm.trans hT) ▸
      ⟨e.vars, dec_is (and_l x3), dec_is (and_l (and_r x3)), dec_is (and_l (and_r (and_r x3))), dec_is (and_l x6), fun A F CS N k ok of ox hd hu hc => okSs_sound (hb A CS k hd hu hc) _ _ _ (and_r x6) F ok of ox⟩⟩

/-! plain defs that the walk knows -/
noncomputable def plainSee (h : Heap) (a : Addr) (names globs : List PySem.Str) (P : List Stmt → Bool) : Bool := fnAt h a fun o fd => decide (o.cls = .type "function") && defSee h fd fun args body => decide (args.map (·.arg) = names) && (names.all (fun n => fd.scope.names.lookup n == some .local) &&
  (globs.all (fun n => fd.scope.names.lookup n == some .globalImplicit) && P body))
theorem plainSee_is {h h' : Heap} (k : Kept h h') {a : Addr} {names globs : List PySem.Str} {P : List Stmt → Bool} (hu : names.Nodup) (x : plainSee h a names globs P = true) : ∃ body, P body = true ∧ PlainFn h' a names globs body :=
  fnAt_is k x fun o fd ho hd x => defSee_is k (and_r x) fun args body D y =>
    ⟨body, and_r (and_r (and_r y)), o, fd, args, ho, dec_is (and_l x), hd, D, dec_is (and_l y), hu, fun n hn => beq_is (List.all_eq_true.mp (and_l (and_r y)) n hn), fun n hn => beq_is (List.all_eq_true.mp (and_l (and_r (and_r y))) n hn)⟩
noncomputable def isNm (e : Expr) (n : PySem.Str) : Bool := xName e fun m _ => decide (m = n)
theorem isNm_is {P : Expr → Prop} {e : Expr} {n : PySem.Str} (h : isNm e n = true) (H : ∀ p, P (.Name n p)) : P e := xName_is h fun m p h => (dec_is h : m = n) ▸ H p
noncomputable def ownSee (n : PySem.Str) (st : Stmt) : Bool := sAssign st fun ts e _ => l1 ts fun t => xAttr t fun o a _ => decide (a = n) && (isNm o "self" && isNm e n)
theorem ownSee_is {n : PySem.Str} {st : Stmt} (h : ownSee n st = true) : setsOwn st n :=
  sAssign_is (P := fun st => setsOwn st n) h fun ts e p h => l1_is (P := fun ts => setsOwn (.Assign ts e p) n) h fun t h => xAttr_is (P := fun t => setsOwn (.Assign [t] e p) n) h fun o a p' h =>
    isNm_is (P := fun o => setsOwn (.Assign [.Attribute o a p'] e p) n) (and_l (and_r h)) fun q => isNm_is (P := fun e => setsOwn (.Assign [.Attribute (.Name "self" q) a p'] e p) n) (and_r (and_r h)) fun q' => (dec_is (and_l h) : a = n) ▸ ⟨_, _, _, _, rfl⟩
noncomputable def upSee (cls : PySem.Str) (st : Stmt) : Bool := sExpr st fun e _ => xCall e fun f es ws p5 => xAttr f fun o i p2 => l2 es fun a b => lNil ws (isNm o cls && (isNm a "self" && (isNm b "why" && (decide (i = "__init__") && (p2.endLine == p5.line)))))
theorem upSee_ok {cls : PySem.Str} {st : Stmt} {P : Stmt → Prop} (h : upSee cls st = true) (H : ∀ p1 p2 p3 p4 p5 p6, (p2.endLine == p5.line) = true → P (.Expr (.Call (.Attribute (.Name cls p1) "__init__" p2) [.Name "self" p3, .Name "why" p4] [] p5) p6)) : P st :=
  sExpr_is h fun e p6 h => xCall_is (P := fun e => P (.Expr e p6)) h fun f es ws p5 h => xAttr_is (P := fun f => P (.Expr (.Call f es ws p5) p6)) h fun o i p2 h => l2_is (P := fun es => P (.Expr (.Call (.Attribute o i p2) es ws p5) p6)) h fun a b h => lNil_is (P := fun ws => P (.Expr (.Call (.Attribute o i p2) [a, b] ws p5) p6)) h fun h =>
    isNm_is (P := fun o => P (.Expr (.Call (.Attribute o i p2) [a, b] [] p5) p6)) (and_l h) fun p1 => isNm_is (P := fun a => P (.Expr (.Call (.Attribute (.Name cls p1) i p2) [a, b] [] p5) p6)) (and_l (and_r h)) fun p3 => isNm_is (P := fun b => P (.Expr (.Call (.Attribute (.Name cls p1) i p2) [.Name "self" p3, b] [] p5) p6)) (and_l (and_r (and_r h))) fun p4 =>
    (show i = "__init__" from dec_is (and_l (and_r (and_r (and_r h))))) ▸ H p1 p2 p3 p4 p5 p6 (and_r (and_r (and_r (and_r h))))
theorem upSee_is {cls : PySem.Str} {st : Stmt} (h : upSee cls st = true) : ∃ p1 p2 p3 p4 p5 p6, st = .Expr (.Call (.Attribute (.Name cls p1) "__init__" p2) [.Name "self" p3, .Name "why" p4] [] p5) p6 ∧ (p2.endLine == p5.line) = true :=
  upSee_ok (P := fun st => ∃ p1 p2 p3 p4 p5 p6, st = .Expr (.Call (.Attribute (.Name cls p1) "__init__" p2) [.Name "self" p3, .Name "why" p4] [] p5) p6 ∧ (p2.endLine == p5.line) = true) h fun p1 p2 p3 p4 p5 p6 h => ⟨p1, p2, p3, p4, p5, p6, rfl, h⟩

/-- a class of the text: its mro behind itself, its dict, how it is made -/
structure ClsIs (h : Heap) (C : Addr) (bm : List Value) (newId : String) (cd : ClassData) : Prop where
  is : ∃ dd k0 k1 k2 k3 k5, h.get? C = some (excClassObj cd.name cd.qualname C cd.ns cd.bases bm cd.hasDict cd.slotNames cd.subclasses cd.abstract cd.collection dd k0 k1 k2 k3 k5 newId)
noncomputable def slotSee (newId : String) (sl : List (Option Value)) : Bool := lCons sl fun _ r => lCons r fun _ r => lCons r fun _ r => lCons r fun _ r => lCons r fun x r => lCons r fun _ r => lNil r (oSome x fun v => vBuiltin v fun n => decide (n = newId))
theorem slotSee_is {newId : String} {sl : List (Option Value)} (h : slotSee newId sl = true) : ∃ k0 k1 k2 k3 k5, sl = [k0, k1, k2, k3, some (.builtin newId), k5] :=
  lCons_is (P := fun sl => ∃ k0 k1 k2 k3 k5, sl = [k0, k1, k2, k3, some (.builtin newId), k5]) h fun k0 r h => lCons_is (P := fun r => ∃ j0 k1 k2 k3 k5, k0 :: r = [j0, k1, k2, k3, some (.builtin newId), k5]) h fun k1 r h => lCons_is (P := fun r => ∃ j0 j1 k2 k3 k5, k0 :: k1 :: r = [j0, j1, k2, k3, some (.builtin newId), k5]) h fun k2 r h =>
    lCons_is (P := fun r => ∃ j0 j1 j2 k3 k5, k0 :: k1 :: k2 :: r = [j0, j1, j2, k3, some (.builtin newId), k5]) h fun k3 r h => lCons_is (P := fun r => ∃ j0 j1 j2 j3 k5, k0 :: k1 :: k2 :: k3 :: r = [j0, j1, j2, j3, some (.builtin newId), k5]) h fun x r h =>
    lCons_is (P := fun r => ∃ j0 j1 j2 j3 k5, k0 :: k1 :: k2 :: k3 :: x :: r = [j0, j1, j2, j3, some (.builtin newId), k5]) h fun k5 r h => lNil_is (P := fun r => ∃ j0 j1 j2 j3 j5, k0 :: k1 :: k2 :: k3 :: x :: k5 :: r = [j0, j1, j2, j3, some (.builtin newId), j5]) h fun h =>
    oSome_is (P := fun x => ∃ j0 j1 j2 j3 j5, k0 :: k1 :: k2 :: k3 :: x :: [k5] = [j0, j1, j2, j3, some (.builtin newId), j5]) h fun v h => vBuiltin_is (P := fun v => ∃ j0 j1 j2 j3 j5, k0 :: k1 :: k2 :: k3 :: some v :: [k5] = [j0, j1, j2, j3, some (.builtin newId), j5]) h fun n h => dec_is h ▸ ⟨k0, k1, k2, k3, k5, rfl⟩
noncomputable def clsSee (h : Heap) (C : Addr) (bm : List Value) (newId : String) (P : ClassData → Bool) : Bool := oSome (h.get? C) fun o => vType o.cls fun t => dCls o.data fun cd => decide (t = "type") && (decide (cd.mro = .ref C :: bm) && (!cd.hasDel && (slotSee newId o.slots.toList && P cd)))
theorem clsSee_is {h h' : Heap} (k : Kept h h') {C : Addr} {bm : List Value} {newId : String} {P : ClassData → Bool} {G : Prop} (x : clsSee h C bm newId P = true) (H : ∀ cd, ClsIs h' C bm newId cd → P cd = true → G) : G :=
  oSome_eq x fun o ho x => by
  obtain ⟨cls, dd, data, ⟨sl⟩⟩ := o
  refine vType_is (P := fun v => h.get? C = some ⟨v, dd, data, ⟨sl⟩⟩ → G) x (fun t x ho => dCls_is (P := fun d => h.get? C = some ⟨.type t, dd, d, ⟨sl⟩⟩ → G) x (fun cd x ho => ?_) ho) ho
  have x3 := and_r (and_r x)
  obtain ⟨k0, k1, k2, k3, k5, e⟩ := slotSee_is (and_l (and_r x3))
  refine H cd ⟨dd, k0, k1, k2, k3, k5, ?_⟩ (and_r (and_r x3))
  have e' : sl = _ := e
  rw [(dec_is (and_l x) : t = _), e'] at ho
  have e1 : cd.mro = _ := dec_is (and_l (and_r x))
  have e2 : cd.hasDel = _ := not_is (and_l x3)
  obtain ⟨nm, bs, mro, ns, qn, hd, sn, sub, ab, col, del⟩ := cd
  cases e1; cases e2
  exact k _ _ ho fun a b z => by cases z
end Mine
end
section
set_option Elab.async false
set_option linter.all false
namespace Mine
open PySem PySem.Spec PySem.Calls PyProof.Rows PySem.W

noncomputable def nsNone (h : Heap) (N : Addr) (ns : List PySem.Str) : Bool := ns.all fun n => (h.nsMap N n).isNone
noncomputable def tokP (h : Heap) (cd : ClassData) : Bool := cd.hasDict && (!cd.abstract && (h.isNs cd.ns && (nsNone h cd.ns ["__getattribute__", "__setattr__", "sort", "value", "line"] && oSome (addrOf (h.nsMap cd.ns) "__init__") fun f =>
  plainSee h f ["self", "sort", "value", "line"] [] fun body => lCons body fun s1 r => l2 r fun s2 s3 => ownSee "sort" s1 && (ownSee "value" s2 && ownSee "line" s3))))
noncomputable def tokSee (h : Heap) : Bool := oSome (addrOf (h.nsMap mainGlobals) "Token") fun c => clsSee h c [.type "object"] "object.__new__" (tokP h)
noncomputable def nonseq (o : Obj) : Bool := match o.data with | .seq _ _ => false | _ => true
noncomputable def kOf (h : Heap) (as : List Addr) : Frag := as.filterMap fun a => (h.get? a).bind fun o => if nonseq o then some (a, o) else none
noncomputable def pfNames : List PySem.Str := ["__setattr__", "__getattribute__", "__getattr__", "why", "line"]
noncomputable def initSee (h : Heap) (ns : Addr) (args : List PySem.Str) (up : PySem.Str) (own : PySem.Str) (k : Addr → Bool) : Bool := oSome (addrOf (h.nsMap ns) "__init__") fun f => plainSee h f args [up] (fun body => l2 body fun s1 s2 => upSee up s1 && ownSee own s2) && k f
noncomputable def phP (h : Heap) (p : Addr) (cd : ClassData) : Bool := h.isNs cd.ns && (nsNone h cd.ns pfNames && initSee h cd.ns ["self", "why"] "Exception" "why" fun f =>
  readsIn (kOf h [p, cd.ns, cStatics, f]) p (.type "type") && ((match findCls (kOf h [p, cd.ns, cStatics, f]) (.ref p) (.type "type") "__init__" with | some (.val v) => decide (v = .ref f) | _ => false) &&
    decide (specialIn (kOf h [p, cd.ns, cStatics, f]) (.ref p) "__getattribute__" = some (some (.builtin "type.__getattribute__")))))
noncomputable def pcP (h : Heap) (cd : ClassData) : Bool := cd.hasDict && (h.isNs cd.ns && (nsNone h cd.ns pfNames && initSee h cd.ns ["self", "why", "line"] "PhpFault" "line" fun _ => true))
noncomputable def pfSee (h : Heap) : Bool := oSome (addrOf (h.nsMap mainGlobals) "ParseFault") fun c => oSome (addrOf (h.nsMap mainGlobals) "PhpFault") fun p => clsSee h c (pfBm p) "Exception.__new__" (pcP h) && (clsSee h p bmE "Exception.__new__" (phP h p) && nsNone h mainGlobals ["Exception"])
noncomputable def endBody (body : List Stmt) : Bool := l1 body fun st => sRet st fun v _ => oSome v fun v => xCall v fun f es ws _ => lNil ws (l2 es fun a b => isNm f "ParseFault" && (isNm b "line" && xConst a fun t _ _ => cStr t fun t => decide (t = strOf endText)))
noncomputable def endSee (h : Heap) : Bool := oSome (addrOf (h.nsMap mainGlobals) "no_end") fun f => plainSee h f ["line"] ["ParseFault"] endBody
noncomputable def namesSee (T : List Ent) (h : Heap) : Bool := T.all fun e => match entOf T e.f with | some e' => decide (e'.name = e.name) | none => false
noncomputable def see (T : List Ent) (h : Heap) : Bool := h.isNs mainGlobals && nsNone h mainGlobals bltNames && namesSee T h && tokSee h && pfSee h && endSee h && T.all (fnSee (fnsOf T) h)

theorem nsNone_is {h : Heap} {N : Addr} {ns : List PySem.Str} (x : nsNone h N ns = true) : ∀ n ∈ ns, h.nsMap N n = none := fun n hn => by
  have := List.all_eq_true.mp x n hn
  simpa using this
theorem addrOf_is {m : PySem.Str → Option Value} {n : PySem.Str} {a : Addr} (h : addrOf m n = some a) : m n = some (.ref a) := by
  unfold addrOf at h
  split at h
  · rename_i b hb; cases h; exact hb
  · cases h
theorem kept_ns {h h' : Heap} (k : Kept h h') {N : Addr} (x : h.isNs N = true) : h'.Ns N (h.nsMap N) := by
  obtain ⟨o, es, ep, a, b, c⟩ := Heap.Ns.of_isNs x
  exact ⟨o, es, ep, k _ _ a (fun vs n z => by rw [b] at z; cases z), b, c⟩
theorem mem_lookup {a : Addr} {o : Obj} {K : Frag} : K.lookup a = some o → (a, o) ∈ K := by
  induction K with
  | nil => exact fun e => nomatch e
  | cons p r ih =>
    intro e
    rw [List.lookup_cons] at e
    cases hb : a == p.1 with
    | true => rw [hb] at e; cases e; exact beq_is hb ▸ .head _
    | false => rw [hb] at e; exact .tail _ (ih e)
theorem kOf_in {h h' : Heap} (k : Kept h h') {as : List Addr} : Frag.In (kOf h as) h' := fun a o e => by
  obtain ⟨b, hb, hq⟩ := List.mem_filterMap.mp (mem_lookup e)
  obtain ⟨o', ho', hi⟩ := Option.bind_eq_some_iff.mp hq
  split at hi
  · rename_i hn
    cases hi
    exact k _ _ ho' fun vs n z => by unfold nonseq at hn; rw [z] at hn; cases hn
  · cases hi

section
variable {T : List Ent} {h h' : Heap} {mg mb : PySem.Str → Option Value} {prog : Program} {w : World}
theorem same_mg (k : Kept h h') (x : h.isNs mainGlobals = true) (g : h'.Ns mainGlobals mg) : h.nsMap mainGlobals = mg := by
  obtain ⟨o, es, ep, a, b, _, c⟩ := kept_ns k x
  obtain ⟨o', es', ep', a', b', _, c'⟩ := g
  rw [a] at a'; cases a'
  rw [b] at b'; cases b'
  exact funext fun n => (c n).symm.trans (c' n)

theorem pfc_is {n : PySem.Str} {c : Addr} (hc : addrOf mg n = some c) : (addrOf mg n).getD 0 = c := by rw [hc]; rfl
theorem tokIs (k : Kept h h') (x : h.isNs mainGlobals = true) (g : h'.Ns mainGlobals mg) (t : tokSee h = true) : TokIs (mkCfg T prog w h' mg mb) ∧ mg "Token" = some (.ref (mkCfg T prog w h' mg mb).tokC) := by
  unfold tokSee at t
  rw [same_mg k x g] at t
  refine oSome_eq t fun c hc t => clsSee_is k t fun cd ⟨dd, k0, k1, k2, k3, k5, hC⟩ p => ?_
  have ec : (mkCfg T prog w h' mg mb).tokC = c := pfc_is hc
  have p3 := and_r (and_r p)
  refine oSome_eq (and_r (and_r p3)) fun f hf p5 => ?_
  obtain ⟨body, hb, pf⟩ := plainSee_is k (by decide) p5
  have nn := nsNone_is (and_l (and_r p3))
  rw [and_l p, not_is (and_l (and_r p))] at hC
  rw [← ec] at hC hc
  have I : ∃ s1 s2 s3, TokInit h' f s1 s2 s3 := lCons_is (P := fun body => PlainFn h' f ["self", "sort", "value", "line"] [] body → ∃ s1 s2 s3, TokInit h' f s1 s2 s3) hb (fun s1 r hb => l2_is (P := fun r => PlainFn h' f ["self", "sort", "value", "line"] [] (s1 :: r) → ∃ s1 s2 s3, TokInit h' f s1 s2 s3) hb fun s2 s3 hb pf =>
    ⟨s1, s2, s3, pf, ownSee_is (and_l hb), ownSee_is (and_l (and_r hb)), ownSee_is (and_r (and_r hb))⟩) pf
  exact ⟨⟨cd.name, cd.qualname, cd.ns, cd.bases, cd.slotNames, cd.subclasses, cd.collection, dd, k0, k1, k2, k3, k5, hC, h.nsMap cd.ns, f, kept_ns k (and_l p3), nn _ (by decide), nn _ (by decide), nn _ (by decide), nn _ (by decide), nn _ (by decide), addrOf_is hf, I⟩, addrOf_is hc⟩

theorem endIs (k : Kept h h') (x : h.isNs mainGlobals = true) (g : h'.Ns mainGlobals mg) (t : endSee h = true) : EndIs (mkCfg T prog w h' mg mb) := by
  unfold endSee at t
  rw [same_mg k x g] at t
  refine oSome_eq t fun f hf t => ?_
  obtain ⟨body, hb, pf⟩ := plainSee_is k (by decide) t
  have D := addrOf_is hf
  refine l1_is (P := fun body => PlainFn h' f ["line"] ["ParseFault"] body → EndIs (mkCfg T prog w h' mg mb)) hb (fun st hb => sRet_is (P := fun st => PlainFn h' f ["line"] ["ParseFault"] [st] → EndIs (mkCfg T prog w h' mg mb)) hb fun v p5 hb => oSome_is (P := fun v => PlainFn h' f ["line"] ["ParseFault"] [.Return v p5] → EndIs (mkCfg T prog w h' mg mb)) hb fun v hb =>
    xCall_is (P := fun v => PlainFn h' f ["line"] ["ParseFault"] [.Return (some v) p5] → EndIs (mkCfg T prog w h' mg mb)) hb fun fn es ws p4 hb => lNil_is (P := fun ws => PlainFn h' f ["line"] ["ParseFault"] [.Return (some (.Call fn es ws p4)) p5] → EndIs (mkCfg T prog w h' mg mb)) hb fun hb =>
    l2_is (P := fun es => PlainFn h' f ["line"] ["ParseFault"] [.Return (some (.Call fn es [] p4)) p5] → EndIs (mkCfg T prog w h' mg mb)) hb fun a b hb => isNm_is (P := fun fn => PlainFn h' f ["line"] ["ParseFault"] [.Return (some (.Call fn [a, b] [] p4)) p5] → EndIs (mkCfg T prog w h' mg mb)) (and_l hb) fun p1 =>
    isNm_is (P := fun b => PlainFn h' f ["line"] ["ParseFault"] [.Return (some (.Call (.Name "ParseFault" p1) [a, b] [] p4)) p5] → EndIs (mkCfg T prog w h' mg mb)) (and_l (and_r hb)) fun p3 => xConst_is (P := fun a => PlainFn h' f ["line"] ["ParseFault"] [.Return (some (.Call (.Name "ParseFault" p1) [a, .Name "line" p3] [] p4)) p5] → EndIs (mkCfg T prog w h' mg mb)) (and_r (and_r hb)) fun tt k' p2 hb =>
    cStr_is (P := fun t => PlainFn h' f ["line"] ["ParseFault"] [.Return (some (.Call (.Name "ParseFault" p1) [.Constant t k' p2, .Name "line" p3] [] p4)) p5] → EndIs (mkCfg T prog w h' mg mb)) hb fun tt hb pf => ⟨f, p1, k', p2, p3, p4, p5, D, (dec_is hb : tt = _) ▸ pf⟩) pf

theorem initSee_is {ns : Addr} {args : List PySem.Str} {up own : PySem.Str} {K : Addr → Bool} {G : Prop} (k : Kept h h') (hu : args.Nodup) (x : initSee h ns args up own K = true)
    (H : ∀ f s1 s2, h.nsMap ns "__init__" = some (.ref f) → PlainFn h' f args [up] [s1, s2] → upSee up s1 = true → ownSee own s2 = true → K f = true → G) : G :=
  oSome_eq x fun f hf x => let ⟨body, hb, pf⟩ := plainSee_is k hu (and_l x)
    l2_is (P := fun body => PlainFn h' f args [up] body → G) hb (fun s1 s2 hb pf => H f s1 s2 (addrOf_is hf) pf (and_l hb) (and_r hb) (and_r x)) pf
theorem pfIs (k : Kept h h') (x : h.isNs mainGlobals = true) (g : h'.Ns mainGlobals mg) (t : pfSee h = true) : Nonempty (PfD (mkCfg T prog w h' mg mb)) := by
  unfold pfSee at t
  rw [same_mg k x g] at t
  refine oSome_eq t fun c hc t => oSome_eq t fun p hp t => clsSee_is k (and_l t) fun cd ⟨dd, k0, k1, k2, k3, k5, hC⟩ q => clsSee_is k (and_l (and_r t)) fun cd' ⟨dd', j0, j1, j2, j3, j5, hC'⟩ q' =>
    initSee_is k (by decide) (and_r (and_r (and_r q))) fun f s1 s2 hf pf u1 u2 _ => initSee_is k (by decide) (and_r (and_r q')) fun f' s1' s2' hf' pf' u1' u2' r => ?_
  have ec : (mkCfg T prog w h' mg mb).pfC = c := pfc_is hc
  rw [and_l q] at hC
  rw [← ec] at hC hc
  have fnd : findCls (kOf h [p, cd'.ns, cStatics, f']) (.ref p) (.type "type") "__init__" = some (.val (.ref f')) := by
    have := and_l (and_r r)
    split at this
    · rename_i e; rw [e, (dec_is this : _ = Value.ref f')]
    · cases this
  exact ⟨{ P := p, fI := f, fP := f', cd := cd, cd' := cd', dd := dd, dd' := dd', k0 := k0, k1 := k1, k2 := k2, k3 := k3, k5 := k5, j0 := j0, j1 := j1, j2 := j2, j3 := j3, j5 := j5, mN := h.nsMap cd.ns, mP := h.nsMap cd'.ns, hC := hC, hN := kept_ns k (and_l (and_r q)), hP := hC', hNP := kept_ns k (and_l q'), initC := hf,
           noC := nsNone_is (and_l (and_r (and_r q))), noP := nsNone_is (and_l (and_r q')), K := _, KIn := kOf_in k, reads := and_l r, find := fnd, spec := dec_is (and_r (and_r r)), gP := addrOf_is hp, gC := addrOf_is hc, gE := (same_mg k x g) ▸ nsNone_is (and_r (and_r t)) _ (by decide),
           c1 := s1, c2 := s2, d1 := s1', d2 := s2', bodyC := pf, bodyP := pf', isC1 := upSee_is u1, isC2 := ownSee_is u2, isD1 := upSee_is u1', isD2 := ownSee_is u2' }⟩
end
end Mine
end
section
set_option Elab.async false
set_option linter.all false
namespace Mine
open PySem PySem.Spec PySem.Calls PyProof.Rows PySem.W

theorem fnSee_fn {fns : List (PySem.Str × Nat)} {h h' : Heap} (k : Kept h h') {e : Ent} {a : Addr} (hn : h.nsMap mainGlobals e.name = some (.ref a)) (x : fnSee fns h e = true) : ∃ o fd, h'.get? a = some o ∧ o.data = .func fd := by
  unfold fnSee at x
  rw [hn] at x
  exact fnAt_is k x fun o fd ho hd _ => ⟨o, fd, ho, hd⟩
theorem fnSee_addr {fns : List (PySem.Str × Nat)} {h : Heap} {e : Ent} (x : fnSee fns h e = true) : ∃ a, h.nsMap mainGlobals e.name = some (.ref a) :=
  oSome_eq x fun v hv x => vRef_is (P := fun v => h.nsMap mainGlobals e.name = some v → _) x (fun a _ hv => ⟨a, hv⟩) hv

section
variable {T : List Ent} {h h' : Heap} {mg mb : PySem.Str → Option Value} {prog : Program} {w : World}
theorem fnA_ent {f : Nat} {a : Addr} (q : fnAOf T mg f = some a) : ∃ e ∈ T, entOf T f = some e ∧ mg e.name = some (.ref a) := by
  obtain ⟨e, he, ha⟩ := Option.bind_eq_some_iff.mp q
  exact ⟨e, List.mem_of_find?_eq_some he, he, addrOf_is ha⟩

/-- the text's defs are the small language's -/
theorem see_fns (k : Kept h h') (x : see T h = true) (g : h'.Ns mainGlobals mg) (b : h'.Ns builtinsNs mb) (nl : h'.NoLimit) (nd : ∃ mc, h'.Ns cStatics mc ∧ mc "sys.int_max_str_digits" = none) (bl : ∀ x : PySem.Str, x ≠ "__name__" → mb x = bootBuiltins x) :
    CfgX (mkCfg T prog w h' mg mb) ∧ (∀ f a, (mkCfg T prog w h' mg mb).fnA f = some a → FnIs (mkCfg T prog w h' mg mb) (fnsOf T) (tabOf T) f a) ∧ ∀ p ∈ fnsOf T, ∃ a, (mkCfg T prog w h' mg mb).mg p.1 = some (.ref a) ∧ (mkCfg T prog w h' mg mb).fnA p.2 = some a := by
  unfold see at x
  simp only [Bool.and_eq_true, List.all_eq_true] at x
  obtain ⟨⟨⟨⟨⟨⟨x1, x2⟩, x3⟩, x4⟩, x5⟩, x6⟩, x7⟩ := x
  have hm := same_mg k x1 g
  have free := nsNone_is x2
  rw [hm] at free
  obtain ⟨tk, tb⟩ := tokIs (T := T) (mb := mb) (prog := prog) (w := w) k x1 g x4
  have pf := pfIs (T := T) (mb := mb) (prog := prog) (w := w) k x1 g x5
  have en := endIs (T := T) (mb := mb) (prog := prog) (w := w) k x1 g x6
  have oc : CfgX (mkCfg T prog w h' mg mb) := {
    mgN := g
    mbN := b
    nolimit := nl
    nodigits := nd
    fn := fun f a q => by
      obtain ⟨e, he, _, hn⟩ := fnA_ent (T := T) (mg := mg) q
      exact fnSee_fn k (by rw [hm]; exact hn) (x7 e he)
    blt := bl
    free := free
    tokB := tb
    tokO := by
      obtain ⟨nm, q, N, bs, sn, sub, col, dd, k0, k1, k2, k3, k5, hC, mN, fI, hN, _⟩ := tk.cls
      exact ⟨N, mN, ⟨nm, q, bs, sn, sub, col, dd, k0, k1, k2, k3, k5, hC⟩, hN⟩ }
  have hfn : ∀ f a, (mkCfg T prog w h' mg mb).fnA f = some a → FnIs (mkCfg T prog w h' mg mb) (fnsOf T) (tabOf T) f a := fun f a q => by
    obtain ⟨e, he, hf, hn⟩ := fnA_ent (T := T) (mg := mg) q
    refine fnSee_is rfl k (by rw [hm]; exact hn) (x7 e he) (by unfold tabOf; rw [hf]; rfl) fun A CS n hd hu hc => ?_
    exact ⟨oc, tk, pf, en, by omega, by omega, fun F ok => hc F A ok (by omega) (by omega)⟩
  have hglob : ∀ p ∈ fnsOf T, ∃ a, (mkCfg T prog w h' mg mb).mg p.1 = some (.ref a) ∧ (mkCfg T prog w h' mg mb).fnA p.2 = some a := fun p hp => by
    obtain ⟨e, he, rfl⟩ := List.mem_map.mp hp
    obtain ⟨a, ha⟩ := fnSee_addr (x7 e he)
    rw [hm] at ha
    refine ⟨a, ha, ?_⟩
    have := List.all_eq_true.mp x3 e he
    split at this
    · rename_i e' he'
      have := of_decide_eq_true this
      show (entOf T e.f).bind _ = _
      rw [he']
      show addrOf mg e'.name = _
      rw [this]; unfold addrOf; rw [ha]
    · cases this
  exact ⟨oc, hfn, hglob⟩
end
end Mine
end
section
set_option Elab.async false
set_option linter.all false
namespace Mine
open PySem PySem.Spec PySem.Calls PyProof.Rows PySem.W

theorem frz_bool {h : H} {n k : Nat} {v : V} {b : Bool} (e : frz h n k v = some (.bool b)) : v = .bool b := by
  cases k with
  | zero => cases e
  | succ k =>
    cases v with
    | tup vs => exact map_is e fun _ _ q => nomatch q
    | lst vs => exact map_is e fun _ _ q => nomatch q
    | ref m =>
      have e : (if m < n then some (V.ref m) else (h[m]?).bind fun vs => (vs.mapM (frz h n k)).map .lst) = _ := e
      split at e
      · cases e
      · exact bind_is e fun _ _ e => map_is e fun _ _ q => nomatch q
    | tok a c d => exact bind_is e fun _ _ e => bind_is e fun _ _ e => bind_is e fun _ _ q => nomatch q
    | _ => first | exact Option.some.inj e | cases e
theorem backO_bool {h₀ h : H} {v : V} {x : V × H} {b : Bool} (e : backO h₀ v h = some x) (hx : x.1 = .bool b) : v = .bool b := by
  unfold backO at e
  split at e
  · exact (congrArg Prod.fst (Option.some.inj e)).trans hx
  · split at e
    · exact map_is e fun w hw q => frz_bool (hw.trans (congrArg some ((congrArg Prod.fst q).trans hx : w = .bool b)))
    · exact bind_is e fun w hw e => map_is e fun h' _ q => frz_bool (hw.trans (congrArg some ((congrArg Prod.fst q).trans hx : w = .bool b)))
theorem back_bool {v : V} {h c : H} {b : Bool} (e : back [] v h = .ok (.bool b) c) : v = .bool b := by
  unfold back at e
  cases q : backO [] v h with
  | none => rw [q] at e; cases e
  | some x => rw [q] at e; exact backO_bool q (R.ok.inj e).1
theorem backPf_no {h₀ h c : H} {w : List Nat} {l : Int} {v : V} (e : backPf h₀ w l h = .ok v c) {P : Prop} : P := by
  unfold backPf at e
  cases q : backO h₀ .none h with
  | none => rw [q] at e; cases e
  | some x => rw [q] at e; cases e

section
variable {C : Cfg} {A : Around} {g : Gh} {s : Shared} {N : Nat}
/-- the law's call from outside -/
theorem top_call (oc : CfgX C) {fns : List (PySem.Str × Nat)} {T : Nat → Option FD} (hfn : ∀ f a, C.fnA f = some a → FnIs C fns T f a) (hglob : ∀ p ∈ fns, ∃ a, C.mg p.1 = some (.ref a) ∧ C.fnA p.2 = some a) (k : Nat)
    (ih : ∀ F A, FmOK C F A → A.depth + 3 * k + 6 < recursionLimit → A.units + 20 * k + 300 < cLine → CallsAt C A F (sem T N k)) (hhd : A.handled = none) (hfr : A.frames = some []) (hd : A.depth + 3 * (k + 1) + 6 < recursionLimit) (hu : A.units + 20 * (k + 1) + 300 < cLine)
    (h0 : C.h₀ = s.heap) (gs : g.σ = []) (gi : ∀ a x, g.im a = some x → ∃ o, s.heap.get? a = some o ∧ Obj.is o x) {f : Nat} {args : List V} {vals : List Value} {a : Addr} (hargs : VRs C g args vals) (hf : C.fnA f = some a) {b : Bool} (hok : sem T N (k + 1) f args [] = .ok (.bool b) [])
    {Q : Value → Shared → Prop} {E : Value → Shared → Prop} (hQ : ∀ h' tk, (∀ a o, s.heap.get? a = some o → h'.get? a = some o) → Q (.bool b) { s with heap := h', toks := tk }) : wpAny (model C.prog C.w) A (call (.ref a) vals []) Q E s :=
  have base : ∀ a o, C.h₀.get? a = some o → s.heap.get? a = some o := fun a o e => h0 ▸ e
  have newN : ∀ b, s.heap.get? b = none → New C g b := fun b e => ⟨h0 ▸ e, Option.eq_none_iff_forall_ne_some.mpr fun y q => (gi b y q).elim fun _ w => some_none e w.1⟩
  have pl : ∀ env vars, places (inFm [] [] env vars) g = [env.locals] := fun env vars => congrArg (env.locals :: ·) gs
  (sem_ok (c := []) fun q => nomatch q.symm.trans hok).elim fun d D =>
  have hok := D.2.2.symm.trans hok
  call_in (c := []) (K := []) (FR := []) oc (hfn f a hf) hargs D.1 D.2.1 base (by omega) hhd hfr (fun e he => nomatch he)
    (fun env vars h₁ m hnew keep hns => ⟨fun a o e => keep _ _ (base _ _ e), fun a y e => (gi a y e).imp fun o q => ⟨keep _ _ q.1, q.2⟩, (fun p hp => nomatch hp), ⟨_, hns, (fun i v e => nomatch e)⟩, congrArg List.length gs.symm, (fun i vs e => nomatch e),
      fun a ha => List.mem_singleton.mp (pl env vars ▸ ha) ▸ newN _ hnew, pl env vars ▸ List.nodup_cons.mpr ⟨List.not_mem_nil, List.nodup_nil⟩⟩)
    (fun env vars cc hnew hne => ⟨newN _ hnew, fun m => hne (List.mem_singleton.mp (pl env vars ▸ m))⟩)
    fun env vars body h₁ tk g1 ok' of' l1 R3 run =>
      run (A.deeper env) (inFm [] [] env vars) (sem T N k) N k ok' of' ⟨rfl, rfl, hglob⟩ (show A.depth + 1 + 3 * k + 8 < _ by omega) (show A.units + 3 + 20 * k + 317 < _ by omega) ih (s := { s with heap := h₁, toks := tk }) R3 _ _
        ⟨(fun q => nomatch (congrArg (callR []) q).symm.trans hok), (fun g2 h2 tk2 fl c2 fw q l2 y => (ret_val (c₁ := []) y).elim fun v w => by
          have e : v = .bool b := back_bool (w.2.2.symm.trans ((congrArg (callR []) q).symm.trans hok))
          subst e
          show Q (retOf fw) _
          rw [show retOf fw = .bool b from w.2.1]
          exact hQ h2 tk2 fun a o e => w.1.base a o (h0 ▸ e)), (fun g2 h2 tk2 w l c2 e q l2 r2 x2 => backPf_no ((congrArg (callR []) q).symm.trans hok))⟩
end
end Mine
end
section
set_option Elab.async false
set_option linter.all false
namespace Mine
open PySem PySem.Spec PySem.Calls PyProof.Rows PySem.W

theorem ints_of {R : WRecords} {cl : PySem.Str → Option Addr} {h : Heap} : ∀ {xs : List WData} {vs : List Value} {as : List Addr}, ReadsAllW R cl h vs xs as → WShape.hasItems R xs .int = true → ∃ is : List Int, vs.length = is.length ∧ xs.length = is.length ∧ ∀ (C : Cfg) (g : Gh), VRs C g (is.map V.int) vs
  | [], vs, as, r, _ => by cases r; exact ⟨[], rfl, rfl, fun C g => .nil⟩
  | d :: xs, vs, as, r, x => by
    have x' : WShape.has R d .int = true ∧ WShape.hasItems R xs .int = true := by simpa [WShape.hasItems] using x
    obtain ⟨i, rfl⟩ := hasW_int x'.1
    cases r with
    | cons r1 r2 =>
      cases r1
      obtain ⟨is, h1, h2, h3⟩ := ints_of r2 x'.2
      exact ⟨i :: is, by simp [h1], by simp [h2], fun C g => .cons (.int i _) (h3 C g)⟩

/-- what a law of one list of ints leans on, and what it then says -/
theorem walk_of {l : OpenLaw} {q : Program} {loose : List PySem.Str} {T : List Ent} {lawF : Nat} {d : DefRec} {kwd : List (PySem.Str × Expr)} {most : Nat} (hmost : l.most = some most) (hm : most ≤ 1000) (hbound : l.bound = none)
    (hname : ∃ e, entOf T lawF = some e ∧ e.name = d.name)
    (hsem : ∀ is : List Int, sem (tabOf T) 5000 40 lawF [.lst (is.map .int)] [] = .ok (.bool true) []) :
    WalkO q loose (fun _ _ => True) (fun _ h => ∃ h₀, see T h₀ = true ∧ ∀ b o, h₀.get? b = some o → h.get? b = some o) l.row.toRowW d kwd fun f vs => PySem.call f vs := by
  intro w s₀ s₁ mg mb G Y a o pm cd doc dV kV ho hd hcd hD hmg hg args vals as hpre hlay hrd hwl hlo
  obtain ⟨h₀, hs, hk⟩ := Y
  have kept : Kept h₀ s₁.heap := fun b o e _ => hk b o e
  obtain ⟨p1, p2⟩ := pre_splitW hpre
  obtain ⟨x, r, rfl, q1, q2⟩ := hasAllW_cons (show WShape.hasAll [] args [.list .int] = true from p1)
  have := hasAllW_nil q2
  subst this
  obtain ⟨xs, rfl, q3⟩ := hasW_list q1
  cases hrd with
  | @cons v vs _ _ as bs r1 r2 =>
  cases r2
  cases r1 with
  | @list sa so svs sn _ as' g1 g2 g3 g4 =>
  obtain ⟨is, l1, l2, l3⟩ := ints_of g4 q3
  have hlen : xs.length ≤ 1000 := by
    have p2 : (OpenLaw.pre l).holds [] { args := [.list xs] } = true := p2
    unfold OpenLaw.pre at p2
    rw [hmost, hbound] at p2
    rcases Nat.lt_or_ge most xs.length with q | q
    · exfalso
      have e : WTm.value [] (.lt (.lit (.int (most : Int))) (.len (.arg 0))) { args := [.list xs] } = some (.bool true) := by
        show (W.less? (.int most) (.int xs.length)).map WData.bool = _
        have : W.less? (.int most) (.int xs.length) = some (decide ((most : Int) < (xs.length : Int))) := rfl
        rw [this, decide_eq_true (by omega)]; rfl
      unfold WTm.holds at p2
      have e2 : WTm.value [] (.and (.not (.lt (.lit (.int (most : Int))) (.len (.arg 0)))) (.lit (.bool true))) { args := [.list xs] } = some (.bool false) := by
        simp only [WTm.value] at e ⊢
        rw [e]; rfl
      rw [e2] at p2
      cases p2
    · omega
  -- the call
  obtain ⟨e, hen, hnm⟩ := hname
  obtain ⟨oc, hfn, hglob⟩ := see_fns (prog := l.prog) (w := w) kept hs G.T.g G.T.b G.T.nolimit G.T.nodigits G.T.builtins
  have hfA : (mkCfg T l.prog w s₁.heap mg mb).fnA lawF = some a := by
    show (entOf T lawF).bind _ = _
    rw [hen]
    show addrOf mg e.name = _
    rw [hnm]; unfold addrOf; rw [hmg]
  have hg0 : ∀ b y, (⟨fun b => if b = sa then some (triOf so) else none, []⟩ : Gh).im b = some y → ∃ o, s₁.heap.get? b = some o ∧ Obj.is o y := fun b y q => by
    have q : (if b = sa then some (triOf so) else none) = some y := q
    by_cases hb : b = sa
    · rw [if_pos hb] at q; cases q; exact ⟨so, hb ▸ g1, rfl, rfl, rfl⟩
    · rw [if_neg hb] at q; cases q
  refine top_call (C := mkCfg T l.prog w s₁.heap mg mb) (A := callerA) (g := ⟨fun b => if b = sa then some (triOf so) else none, []⟩) (N := 5000) (T := tabOf T) oc hfn hglob 39 (fun F A => call_all oc hfn hglob 39 F A) rfl rfl (by decide) (by decide) rfl rfl hg0 (f := lawF) (args := [.lst (is.map .int)]) (vals := [.ref sa]) (.cons (.lst (its := svs.toList) ⟨so.dict, sn, ?_⟩ (l3 _ _) ?_) .nil) hfA (hsem is) ?_
  · show (if sa = sa then some (triOf so) else none) = _
    rw [if_pos rfl]
    obtain ⟨cls, dict, data, fr⟩ := so
    simp only at g2 g3
    subst g2 g3
    rfl
  · rw [List.length_map, ← l2, big]; omega
  · intro h' tk hk'
    refine ⟨.inl ⟨.bool true, .bool true, [], rfl, fun cls => rfl, .bool true, ?_, fun _ => ⟨List.nodup_nil, fun a ha => by cases ha⟩⟩, .of_keep hk', rfl, ?_⟩
    · show (WShape.has [] (.bool true) .bool && WTm.holds [] (.eq .res (.lit (.bool true))) { args := [.list xs], res := some (.bool true), after := [.list xs] }) = true
      simp [WShape.has, WShape.arms, WTm.holds, WTm.value, W.same]
    · show AllBare s₁.gens
      exact .of_eq hg
end Mine
end
section
set_option linter.all false
namespace Mine.P2
open Mine
/-- 0: least();  -/
noncomputable def f_least : FD := ⟨0, 0, .dead⟩
/-- 1: greatest();  -/
noncomputable def f_greatest : FD := ⟨0, 0, (.seq (.ret (.bin .sub (.bin .pow (.int 2) (.int 63)) (.int 1)))
    .skip)⟩
/-- 2: is_name_start(c); c -/
noncomputable def f_is_name_start : FD := ⟨1, 1, (.seq (.ret (.and (.cmp .ne (.var 0) (.str [])) (.or (.cmp .eq (.var 0) (.str [95])) (.or (.cmp2 .le .le (.str [97]) (.var 0) (.str [122])) (.or (.cmp2 .le .le (.str [65]) (.var 0) (.str [90])) (.cmp .ge (.p1 .ord (.var 0)) (.int 128)))))))
    .skip)⟩
/-- 3: is_name_sign(c); c -/
noncomputable def f_is_name_sign : FD := ⟨1, 1, (.seq (.ret (.or (.call 2 (.cons (.var 0) .nil)) (.cmp2 .le .le (.str [48]) (.var 0) (.str [57]))))
    .skip)⟩
/-- 4: read_name(text, at); text, at -/
noncomputable def f_read_name : FD := ⟨2, 2, (.seq (.while (.and (.cmp .lt (.var 1) (.p1 .len (.var 0))) (.call 3 (.cons (.idx (.var 0) (.var 1)) .nil)))
    (.seq (.aug 1 .add (.int 1))
    .skip))
    (.seq (.ret (.var 1))
    .skip))⟩
/-- 5: operators();  -/
noncomputable def f_operators : FD := ⟨0, 0, (.seq (.ret (.tup (.cons (.str [61, 61, 61]) (.cons (.str [33, 61, 61]) (.cons (.str [60, 61, 62]) (.cons (.str [42, 42, 61]) (.cons (.str [60, 60, 61]) (.cons (.str [62, 62, 61]) (.cons (.str [63, 63, 61]) (.cons (.str [63, 45, 62]) (.cons (.str [46, 46, 46]) (.cons (.str [61, 61]) (.cons (.str [33, 61]) (.cons (.str [60, 62]) (.cons (.str [60, 61]) (.cons (.str [62, 61]) (.cons (.str [38, 38]) (.cons (.str [124, 124]) (.cons (.str [63, 63]) (.cons (.str [43, 43]) (.cons (.str [45, 45]) (.cons (.str [43, 61]) (.cons (.str [45, 61]) (.cons (.str [42, 61]) (.cons (.str [47, 61]) (.cons (.str [46, 61]) (.cons (.str [37, 61]) (.cons (.str [38, 61]) (.cons (.str [124, 61]) (.cons (.str [94, 61]) (.cons (.str [61, 62]) (.cons (.str [45, 62]) (.cons (.str [58, 58]) (.cons (.str [60, 60]) (.cons (.str [62, 62]) (.cons (.str [42, 42]) (.cons (.str [59]) (.cons (.str [44]) (.cons (.str [40]) (.cons (.str [41]) (.cons (.str [91]) (.cons (.str [93]) (.cons (.str [123]) (.cons (.str [125]) (.cons (.str [61]) (.cons (.str [60]) (.cons (.str [62]) (.cons (.str [43]) (.cons (.str [45]) (.cons (.str [42]) (.cons (.str [47]) (.cons (.str [37]) (.cons (.str [46]) (.cons (.str [33]) (.cons (.str [126]) (.cons (.str [38]) (.cons (.str [124]) (.cons (.str [94]) (.cons (.str [63]) (.cons (.str [58]) (.cons (.str [64]) (.cons (.str [36]) .nil))))))))))))))))))))))))))))))))))))))))))))))))))))))))))))))
    .skip)⟩
/-- 6: operator_at(text, at); text, at, size, piece -/
noncomputable def f_operator_at : FD := ⟨2, 4, (.seq (.for 2 (.tup (.cons (.int 3) (.cons (.int 2) (.cons (.int 1) .nil))))
    (.seq (.assign 3 (.slc (.var 0) (.var 1) (.bin .add (.var 1) (.var 2))))
    (.seq (.ite (.cmp .isin (.var 3) (.call 5 .nil))
    (.seq (.ret (.var 3))
    .skip)
    .skip)
    .skip)))
    (.seq (.ret (.str []))
    .skip))⟩
/-- 7: blanks_behind(text, at); text, at -/
noncomputable def f_blanks_behind : FD := ⟨2, 2, .dead⟩
/-- 8: cast_at(text, at, line); text, at, line, first, behind, end, word, sorts -/
noncomputable def f_cast_at : FD := ⟨3, 8, .dead⟩
/-- 9: digit_of(c); c, place -/
noncomputable def f_digit_of : FD := ⟨1, 2, (.seq (.assign 1 (.p2 .find (.str [48, 49, 50, 51, 52, 53, 54, 55, 56, 57, 97, 98, 99, 100, 101, 102]) (.p1 .lower (.var 0))))
    (.seq (.ret (.ite (.and (.cmp .ne (.var 0) (.str [])) (.cmp .ge (.var 1) (.int 0))) (.var 1) (.int 99)))
    .skip))⟩
/-- 10: digits_behind(text, at); text, at -/
noncomputable def f_digits_behind : FD := ⟨2, 2, .dead⟩
/-- 11: digits_value(text, first, behind); text, first, behind, value, at -/
noncomputable def f_digits_value : FD := ⟨3, 5, .dead⟩
/-- 12: is_float(text, behind); text, behind, sign, at -/
noncomputable def f_is_float : FD := ⟨2, 4, (.seq (.assign 2 (.slc (.var 0) (.var 1) (.bin .add (.var 1) (.int 1))))
    (.seq (.ite (.cmp .eq (.var 2) (.str [46]))
    (.seq (.ret (.bool true))
    .skip)
    .skip)
    (.seq (.assign 3 (.bin .add (.var 1) (.int 1)))
    (.seq (.ite (.cmp .isin (.slc (.var 0) (.var 3) (.bin .add (.var 3) (.int 1))) (.tup (.cons (.str [43]) (.cons (.str [45]) .nil))))
    (.seq (.aug 3 .add (.int 1))
    .skip)
    .skip)
    (.seq (.ret (.and (.cmp .isin (.var 2) (.tup (.cons (.str [101]) (.cons (.str [69]) .nil)))) (.cmp .lt (.call 9 (.cons (.slc (.var 0) (.var 3) (.bin .add (.var 3) (.int 1))) .nil)) (.int 10))))
    .skip)))))⟩
/-- 13: read_number(text, at, line); text, at, line, mark, behind, base, begin -/
noncomputable def f_read_number : FD := ⟨3, 7, (.seq (.assign 3 (.p1 .lower (.slc (.var 0) (.var 1) (.bin .add (.var 1) (.int 2)))))
    (.seq (.forT [6, 5] (.tup (.cons (.tup (.cons (.str [48, 120]) (.cons (.int 16) .nil))) (.cons (.tup (.cons (.str [48, 98]) (.cons (.int 2) .nil))) (.cons (.tup (.cons (.str [48, 111]) (.cons (.int 8) .nil))) .nil))))
    (.seq (.ite (.and (.cmp .eq (.var 3) (.var 6)) (.cmp .lt (.call 9 (.cons (.slc (.var 0) (.bin .add (.var 1) (.int 2)) (.bin .add (.var 1) (.int 3))) .nil)) (.var 5)))
    (.seq (.assign 4 (.call 60 (.cons (.var 0) (.cons (.bin .add (.var 1) (.int 2)) (.cons (.var 5) .nil)))))
    (.seq (.ret (.tup (.cons (.call 61 (.cons (.slc (.var 0) (.bin .add (.var 1) (.int 2)) (.var 4)) (.cons (.var 5) (.cons (.var 2) .nil)))) (.cons (.var 4) .nil))))
    .skip))
    .skip)
    .skip))
    (.seq (.assign 4 (.call 60 (.cons (.var 0) (.cons (.var 1) (.cons (.int 10) .nil)))))
    (.seq (.ite (.call 12 (.cons (.var 0) (.cons (.var 4) .nil)))
    (.seq .dead
    .skip)
    .skip)
    (.seq (.assign 5 (.ite (.cmp .eq (.idx (.var 0) (.var 1)) (.str [48])) (.int 8) (.int 10)))
    (.seq (.ret (.tup (.cons (.call 61 (.cons (.slc (.var 0) (.var 1) (.var 4)) (.cons (.var 5) (.cons (.var 2) .nil)))) (.cons (.var 4) .nil))))
    .skip))))))⟩
/-- 14: is_digit(text, at); text, at -/
noncomputable def f_is_digit : FD := ⟨2, 2, .dead⟩
/-- 15: signed(is_minus, value); is_minus, value, n -/
noncomputable def f_signed : FD := ⟨2, 3, .dead⟩
/-- 16: key_number(text); text, is_minus, first -/
noncomputable def f_key_number : FD := ⟨1, 3, .dead⟩
/-- 17: sign_at(text, at); text, at -/
noncomputable def f_sign_at : FD := ⟨2, 2, (.seq (.ret (.slc (.var 0) (.var 1) (.bin .add (.var 1) (.int 1))))
    .skip)⟩
/-- 18: rows_in(text); text -/
noncomputable def f_rows_in : FD := ⟨1, 1, (.seq (.ret (.bin .sub (.p1 .len (.p2 .split (.var 0) (.str [10]))) (.int 1)))
    .skip)⟩
/-- 19: no_end(line); line -/
noncomputable def f_no_end : FD := ⟨1, 1, .dead⟩
/-- 20: single(text, at, line); text, at, line, made, c -/
noncomputable def f_single : FD := ⟨3, 5, (.seq (.assign 3 (.cell .nil))
    (.seq (.aug 1 .add (.int 1))
    (.seq (.while (.cmp .lt (.var 1) (.p1 .len (.var 0)))
    (.seq (.assign 4 (.idx (.var 0) (.var 1)))
    (.seq (.ite (.cmp .eq (.var 4) (.str [39]))
    (.seq (.ret (.tup (.cons (.p2 .join (.str []) (.var 3)) (.cons (.bin .add (.var 1) (.int 1)) .nil))))
    .skip)
    .skip)
    (.seq (.ite (.and (.cmp .eq (.var 4) (.str [92])) (.cmp .isin (.call 17 (.cons (.var 0) (.cons (.bin .add (.var 1) (.int 1)) .nil))) (.tup (.cons (.str [92]) (.cons (.str [39]) .nil)))))
    (.seq (.aug 1 .add (.int 1))
    (.seq (.assign 4 (.call 17 (.cons (.var 0) (.cons (.var 1) .nil))))
    .skip))
    .skip)
    (.seq (.expr (.p2 .append (.var 3) (.var 4)))
    (.seq (.aug 1 .add (.int 1))
    .skip))))))
    (.seq (.raiseEnd (.var 2))
    .skip))))⟩
/-- 21: octets_of(point); point, low -/
noncomputable def f_octets_of : FD := ⟨1, 2, .dead⟩
/-- 22: read_digits(text, at, base, most); text, at, base, most, value, behind -/
noncomputable def f_read_digits : FD := ⟨4, 6, .dead⟩
/-- 23: read_point(text, at, line); text, at, line, point, behind -/
noncomputable def f_read_point : FD := ⟨3, 5, .dead⟩
/-- 24: escape(text, at, quote, line); text, at, quote, line, c, plain, value, behind -/
noncomputable def f_escape : FD := ⟨4, 8, .dead⟩
/-- 25: index_fault(expected, line); expected, line -/
noncomputable def f_index_fault : FD := ⟨2, 2, .dead⟩
/-- 26: number_tokens(digits, is_minus, line); digits, is_minus, line, key -/
noncomputable def f_number_tokens : FD := ⟨3, 4, .dead⟩
/-- 27: index_tokens(text, at, line); text, at, line, c, first, behind, value -/
noncomputable def f_index_tokens : FD := ⟨3, 7, .dead⟩
/-- 28: simple_part(text, at, line); text, at, line, behind, tokens, arrow, first, index -/
noncomputable def f_simple_part : FD := ⟨3, 8, .dead⟩
/-- 29: code_part(text, at, line, lex); text, at, line, lex, c, tokens, behind, end_line -/
noncomputable def f_code_part : FD := ⟨4, 8, .dead⟩
/-- 30: put_text(parts, made); parts, made -/
noncomputable def f_put_text : FD := ⟨2, 2, .dead⟩
/-- 31: is_before(text, at, stop, line); text, at, stop, line -/
noncomputable def f_is_before : FD := ⟨4, 4, .dead⟩
/-- 32: parts_until(text, at, stop, quote, indent, line, lex); text, at, stop, quote, indent, line, lex, parts, made, c, code, tokens, behind, signs -/
noncomputable def f_parts_until : FD := ⟨7, 14, .dead⟩
/-- 33: newline_behind(text, at); text, at -/
noncomputable def f_newline_behind : FD := ⟨2, 2, .dead⟩
/-- 34: heredoc_head(text, at); text, at, first, mark, behind, end -/
noncomputable def f_heredoc_head : FD := ⟨2, 6, (.seq (.ite (.cmp .ne (.slc (.var 0) (.var 1) (.bin .add (.var 1) (.int 3))) (.str [60, 60, 60]))
    (.seq (.ret .none)
    .skip)
    .skip)
    (.seq (.assign 2 (.call 7 (.cons (.var 0) (.cons (.bin .add (.var 1) (.int 3)) .nil))))
    (.seq (.assign 3 (.call 17 (.cons (.var 0) (.cons (.var 2) .nil))))
    (.seq (.ite (.cmp .isin (.var 3) (.tup (.cons (.str [39]) (.cons (.str [34]) .nil))))
    (.seq (.aug 2 .add (.int 1))
    .skip)
    .skip)
    (.seq (.assign 4 (.call 4 (.cons (.var 0) (.cons (.var 2) .nil))))
    (.seq (.assign 5 (.var 4))
    (.seq (.ite (.cmp .isin (.var 3) (.tup (.cons (.str [39]) (.cons (.str [34]) .nil))))
    (.seq (.ite (.cmp .ne (.call 17 (.cons (.var 0) (.cons (.var 5) .nil))) (.var 3))
    (.seq (.ret .none)
    .skip)
    .skip)
    (.seq (.aug 5 .add (.int 1))
    .skip))
    .skip)
    (.seq (.ite (.or (.not (.call 2 (.cons (.call 17 (.cons (.var 0) (.cons (.var 2) .nil))) .nil))) (.cmp .eq (.call 33 (.cons (.var 0) (.cons (.var 5) .nil))) (.var 5)))
    (.seq (.ret .none)
    .skip)
    .skip)
    (.seq (.ret (.tup (.cons (.slc (.var 0) (.var 2) (.var 4)) (.cons (.cmp .eq (.var 3) (.str [39])) (.cons (.call 33 (.cons (.var 0) (.cons (.var 5) .nil))) .nil)))))
    .skip)))))))))⟩
/-- 35: heredoc_end(text, at, label, line); text, at, label, line, row, first, behind, newline, indent, end -/
noncomputable def f_heredoc_end : FD := ⟨4, 10, .dead⟩
/-- 36: pass_indent(text, at, stop, indent, line); text, at, stop, indent, line, turn, why -/
noncomputable def f_pass_indent : FD := ⟨5, 7, .dead⟩
/-- 37: raw_body(text, at, stop, indent, line); text, at, stop, indent, line, made, newline, behind -/
noncomputable def f_raw_body : FD := ⟨5, 8, .dead⟩
/-- 38: row_end(text, at); text, at -/
noncomputable def f_row_end : FD := ⟨2, 2, (.seq (.while (.and (.cmp .lt (.var 1) (.p1 .len (.var 0))) (.and (.cmp .ne (.idx (.var 0) (.var 1)) (.str [10])) (.cmp .ne (.slc (.var 0) (.var 1) (.bin .add (.var 1) (.int 2))) (.str [63, 62]))))
    (.seq (.aug 1 .add (.int 1))
    .skip))
    (.seq (.ret (.var 1))
    .skip))⟩
/-- 39: pass_gap(text, at, line); text, at, line, first, mark, behind -/
noncomputable def f_pass_gap : FD := ⟨3, 6, (.seq (.assign 3 (.var 1))
    (.seq (.while (.cmp .isin (.call 17 (.cons (.var 0) (.cons (.var 1) .nil))) (.tup (.cons (.str [32]) (.cons (.str [9]) (.cons (.str [10]) (.cons (.str [13]) .nil))))))
    (.seq (.aug 1 .add (.int 1))
    .skip))
    (.seq (.assign 4 (.slc (.var 0) (.var 1) (.bin .add (.var 1) (.int 2))))
    (.seq (.ite (.cmp .eq (.var 4) (.str [35, 91]))
    (.seq .dead
    .skip)
    .skip)
    (.seq (.ite (.or (.cmp .eq (.var 4) (.str [47, 47])) (.cmp .eq (.slc (.var 4) .none (.int 1)) (.str [35])))
    (.seq (.ret (.call 38 (.cons (.var 0) (.cons (.var 1) .nil))))
    .skip)
    .skip)
    (.seq (.ite (.cmp .eq (.var 4) (.str [47, 42]))
    (.seq (.assign 5 (.p3 .find (.var 0) (.str [42, 47]) (.bin .add (.var 1) (.int 2))))
    (.seq (.ite (.cmp .lt (.var 5) (.int 0))
    (.seq (.aug 2 .add (.call 18 (.cons (.slc (.var 0) (.var 3) (.var 1)) .nil)))
    (.seq (.raise (.bin .add (.str [85, 110, 116, 101, 114, 109, 105, 110, 97, 116, 101, 100, 32, 99, 111, 109, 109, 101, 110, 116, 32, 115, 116, 97, 114, 116, 105, 110, 103, 32, 108, 105, 110, 101, 32]) (.p1 .str (.var 2))) (.var 2))
    .skip))
    .skip)
    (.seq (.ret (.bin .add (.var 5) (.int 2)))
    .skip)))
    .skip)
    (.seq (.ret (.var 1))
    .skip)))))))⟩
/-- 40: tag_at(text, at); text, at, behind -/
noncomputable def f_tag_at : FD := ⟨2, 3, (.seq (.ite (.cmp .eq (.slc (.var 0) (.var 1) (.bin .add (.var 1) (.int 3))) (.str [60, 63, 61]))
    (.seq (.ret (.bin .add (.var 1) (.int 3)))
    .skip)
    .skip)
    (.seq (.ite (.cmp .ne (.p1 .lower (.slc (.var 0) (.var 1) (.bin .add (.var 1) (.int 5)))) (.str [60, 63, 112, 104, 112]))
    (.seq (.ret (.var 1))
    .skip)
    .skip)
    (.seq (.assign 2 (.bin .add (.var 1) (.int 5)))
    (.seq (.ite (.cmp .eq (.slc (.var 0) (.var 2) (.bin .add (.var 2) (.int 2))) (.str [13, 10]))
    (.seq (.ret (.bin .add (.var 2) (.int 2)))
    .skip)
    .skip)
    (.seq (.ite (.cmp .eq (.var 2) (.p1 .len (.var 0)))
    (.seq (.ret (.var 2))
    .skip)
    .skip)
    (.seq (.ret (.ite (.cmp .isin (.idx (.var 0) (.var 2)) (.tup (.cons (.str [32]) (.cons (.str [9]) (.cons (.str [10]) (.cons (.str [13]) .nil)))))) (.bin .add (.var 2) (.int 1)) (.var 1)))
    .skip))))))⟩
/-- 41: pass_inline(text, at, line, tokens); text, at, line, tokens, first -/
noncomputable def f_pass_inline : FD := ⟨4, 5, (.seq (.assign 4 (.var 1))
    (.seq (.while (.and (.cmp .lt (.var 1) (.p1 .len (.var 0))) (.cmp .eq (.call 40 (.cons (.var 0) (.cons (.var 1) .nil))) (.var 1)))
    (.seq (.aug 1 .add (.int 1))
    .skip))
    (.seq (.ite (.cmp .gt (.var 1) (.var 4))
    (.seq (.expr (.p2 .append (.var 3) (.mk (.cons (.str [104, 116, 109, 108]) (.cons (.slc (.var 0) (.var 4) (.var 1)) (.cons (.var 2) .nil))))))
    .skip)
    .skip)
    (.seq (.ite (.cmp .eq (.slc (.var 0) (.var 1) (.bin .add (.var 1) (.int 3))) (.str [60, 63, 61]))
    (.seq (.expr (.p2 .append (.var 3) (.mk (.cons (.str [110, 97, 109, 101]) (.cons (.str [101, 99, 104, 111]) (.cons (.bin .add (.var 2) (.call 18 (.cons (.slc (.var 0) (.var 4) (.var 1)) .nil))) .nil))))))
    .skip)
    .skip)
    (.seq (.ret (.call 40 (.cons (.var 0) (.cons (.var 1) .nil))))
    .skip)))))⟩
/-- 42: text_token(parts, line); parts, line -/
noncomputable def f_text_token : FD := ⟨2, 2, .dead⟩
/-- 43: read_heredoc(text, head, line); text, head, line, label, is_raw, first, end, indent, behind, parts, ended -/
noncomputable def f_read_heredoc : FD := ⟨3, 11, .dead⟩
/-- 44: read_text(text, at, line); text, at, line, c, head, value, behind, parts -/
noncomputable def f_read_text : FD := ⟨3, 8, (.seq (.ite (.and (.cmp .isin (.idx (.var 0) (.var 1)) (.tup (.cons (.str [98]) (.cons (.str [66]) .nil)))) (.cmp .isin (.call 17 (.cons (.var 0) (.cons (.bin .add (.var 1) (.int 1)) .nil))) (.tup (.cons (.str [39]) (.cons (.str [34]) (.cons (.str [60]) .nil))))))
    (.seq (.aug 1 .add (.int 1))
    .skip)
    .skip)
    (.seq (.assign 3 (.idx (.var 0) (.var 1)))
    (.seq (.ite (.cmp .eq (.var 3) (.str [39]))
    (.seq (.unpack [5, 6] (.call 20 (.cons (.var 0) (.cons (.var 1) (.cons (.var 2) .nil)))))
    (.seq (.ret (.tup (.cons (.mk (.cons (.str [115, 116, 114]) (.cons (.var 5) (.cons (.var 2) .nil)))) (.cons (.var 6) .nil))))
    .skip))
    .skip)
    (.seq (.ite (.cmp .eq (.var 3) (.str [34]))
    (.seq (.unpack [7, 6] (.call 32 (.cons (.var 0) (.cons (.bin .add (.var 1) (.int 1)) (.cons (.str [34]) (.cons (.str [34]) (.cons (.str []) (.cons (.var 2) (.cons (.glob 47) .nil)))))))))
    (.seq (.ret (.tup (.cons (.call 42 (.cons (.var 7) (.cons (.var 2) .nil))) (.cons (.var 6) .nil))))
    .skip))
    .skip)
    (.seq (.assign 4 (.call 34 (.cons (.var 0) (.cons (.var 1) .nil))))
    (.seq (.ret (.ite (.isnone (.var 4)) .none (.call 43 (.cons (.var 0) (.cons (.var 4) (.cons (.var 2) .nil))))))
    .skip))))))⟩
/-- 45: read_operator(text, at, line); text, at, line, c, op, cast, point -/
noncomputable def f_read_operator : FD := ⟨3, 7, (.seq (.assign 3 (.idx (.var 0) (.var 1)))
    (.seq (.ite (.cmp .eq (.var 3) (.str [40]))
    (.seq (.assign 5 (.call 8 (.cons (.var 0) (.cons (.var 1) (.cons (.var 2) .nil)))))
    (.seq (.ite (.notnone (.var 5))
    (.seq (.ret (.tup (.cons (.mk (.cons (.str [99, 97, 115, 116]) (.cons (.idx (.var 5) (.int 0)) (.cons (.var 2) .nil)))) (.cons (.idx (.var 5) (.int 1)) .nil))))
    .skip)
    .skip)
    .skip))
    .skip)
    (.seq (.ite (.cmp .isin (.var 3) (.tup (.cons (.str [96]) (.cons (.str [92]) .nil))))
    (.seq .dead
    .skip)
    .skip)
    (.seq (.assign 4 (.call 6 (.cons (.var 0) (.cons (.var 1) .nil))))
    (.seq (.ite (.cmp .eq (.var 4) (.str []))
    (.seq (.assign 6 (.bin .add (.idx (.str [48, 49, 50, 51, 52, 53, 54, 55, 56, 57, 65, 66, 67, 68, 69, 70]) (.bin .fdiv (.p1 .ord (.var 3)) (.int 16))) (.idx (.str [48, 49, 50, 51, 52, 53, 54, 55, 56, 57, 65, 66, 67, 68, 69, 70]) (.bin .mod (.p1 .ord (.var 3)) (.int 16)))))
    (.seq (.raise (.bin .add (.str [115, 121, 110, 116, 97, 120, 32, 101, 114, 114, 111, 114, 44, 32, 117, 110, 101, 120, 112, 101, 99, 116, 101, 100, 32, 99, 104, 97, 114, 97, 99, 116, 101, 114, 32, 48, 120]) (.var 6)) (.var 2))
    .skip))
    .skip)
    (.seq (.ret (.tup (.cons (.mk (.cons (.str [111, 112]) (.cons (.ite (.cmp .eq (.var 4) (.str [60, 62])) (.str [33, 61]) (.var 4)) (.cons (.var 2) .nil)))) (.cons (.bin .add (.var 1) (.p1 .len (.var 4))) .nil))))
    .skip))))))⟩
/-- 46: read_token(text, at, line); text, at, line, c, found, behind, value -/
noncomputable def f_read_token : FD := ⟨3, 7, (.seq (.assign 3 (.idx (.var 0) (.var 1)))
    (.seq (.assign 4 (.call 44 (.cons (.var 0) (.cons (.var 1) (.cons (.var 2) .nil)))))
    (.seq (.ite (.notnone (.var 4))
    (.seq (.ret (.var 4))
    .skip)
    .skip)
    (.seq (.ite (.call 2 (.cons (.var 3) .nil))
    (.seq (.assign 5 (.call 4 (.cons (.var 0) (.cons (.var 1) .nil))))
    (.seq (.ret (.tup (.cons (.mk (.cons (.str [110, 97, 109, 101]) (.cons (.slc (.var 0) (.var 1) (.var 5)) (.cons (.var 2) .nil)))) (.cons (.var 5) .nil))))
    .skip))
    .skip)
    (.seq (.ite (.and (.cmp .eq (.var 3) (.str [36])) (.call 2 (.cons (.call 17 (.cons (.var 0) (.cons (.bin .add (.var 1) (.int 1)) .nil))) .nil)))
    (.seq (.assign 5 (.call 4 (.cons (.var 0) (.cons (.bin .add (.var 1) (.int 1)) .nil))))
    (.seq (.ret (.tup (.cons (.mk (.cons (.str [118, 97, 114]) (.cons (.slc (.var 0) (.bin .add (.var 1) (.int 1)) (.var 5)) (.cons (.var 2) .nil)))) (.cons (.var 5) .nil))))
    .skip))
    .skip)
    (.seq (.ite (.or (.cmp .lt (.call 9 (.cons (.var 3) .nil)) (.int 10)) (.and (.cmp .eq (.var 3) (.str [46])) (.cmp .lt (.call 9 (.cons (.call 17 (.cons (.var 0) (.cons (.bin .add (.var 1) (.int 1)) .nil))) .nil)) (.int 10))))
    (.seq (.unpack [6, 5] (.call 13 (.cons (.var 0) (.cons (.var 1) (.cons (.var 2) .nil)))))
    (.seq (.ret (.tup (.cons (.mk (.cons (.str [105, 110, 116]) (.cons (.var 6) (.cons (.var 2) .nil)))) (.cons (.var 5) .nil))))
    .skip))
    .skip)
    (.seq (.ret (.call 45 (.cons (.var 0) (.cons (.var 1) (.cons (.var 2) .nil)))))
    .skip)))))))⟩
/-- 47: lex_code(text, at, line); text, at, line, tokens, depth, behind, token -/
noncomputable def f_lex_code : FD := ⟨3, 7, .dead⟩
/-- 48: tokens_of(text); text, tokens, at, line, behind, first, token -/
noncomputable def f_tokens_of : FD := ⟨1, 7, (.seq (.assign 1 (.cell .nil))
    (.seq (.assign 2 (.call 41 (.cons (.var 0) (.cons (.int 0) (.cons (.int 1) (.cons (.var 1) .nil))))))
    (.seq (.assign 3 (.bin .add (.int 1) (.call 18 (.cons (.slc (.var 0) .none (.var 2)) .nil))))
    (.seq (.while (.cmp .lt (.var 2) (.p1 .len (.var 0)))
    (.seq (.assign 4 (.call 39 (.cons (.var 0) (.cons (.var 2) (.cons (.var 3) .nil)))))
    (.seq (.ite (.and (.cmp .eq (.var 4) (.var 2)) (.cmp .eq (.slc (.var 0) (.var 2) (.bin .add (.var 2) (.int 2))) (.str [63, 62])))
    (.seq (.expr (.p2 .append (.var 1) (.mk (.cons (.str [111, 112]) (.cons (.str [59]) (.cons (.var 3) .nil))))))
    (.seq (.assign 5 (.bin .add (.var 2) (.int 2)))
    (.seq (.ite (.cmp .eq (.slc (.var 0) (.var 5) (.bin .add (.var 5) (.int 2))) (.str [13, 10]))
    (.seq (.aug 5 .add (.int 2))
    .skip)
    (.seq (.ite (.cmp .eq (.call 17 (.cons (.var 0) (.cons (.var 5) .nil))) (.str [10]))
    (.seq (.aug 5 .add (.int 1))
    .skip)
    .skip)
    .skip))
    (.seq (.assign 4 (.call 41 (.cons (.var 0) (.cons (.var 5) (.cons (.bin .add (.var 3) (.call 18 (.cons (.slc (.var 0) (.var 2) (.var 5)) .nil))) (.cons (.var 1) .nil))))))
    .skip))))
    (.seq (.ite (.cmp .eq (.var 4) (.var 2))
    (.seq (.unpack [6, 4] (.call 46 (.cons (.var 0) (.cons (.var 2) (.cons (.var 3) .nil)))))
    (.seq (.expr (.p2 .append (.var 1) (.var 6)))
    .skip))
    .skip)
    .skip))
    (.seq (.aug 3 .add (.call 18 (.cons (.slc (.var 0) (.var 2) (.var 4)) .nil)))
    (.seq (.assign 2 (.var 4))
    .skip)))))
    (.seq (.expr (.p2 .append (.var 1) (.mk (.cons (.str [101, 110, 100]) (.cons (.str []) (.cons (.var 3) .nil))))))
    (.seq (.ret (.var 1))
    .skip))))))⟩
/-- 49: _law_pieces();  -/
noncomputable def f_law_pieces : FD := ⟨0, 0, (.seq (.ret (.list (.cons (.str [60, 63, 112, 104, 112, 32]) (.cons (.str [60, 63, 112, 104, 112, 10]) (.cons (.str [60, 63, 80, 72, 80, 9]) (.cons (.str [60, 63, 112, 104, 112, 13, 10]) (.cons (.str [60, 63, 112, 104, 112, 120]) (.cons (.str [60, 63, 61]) (.cons (.str [60, 63]) (.cons (.str [63, 62]) (.cons (.str [63, 62, 10]) (.cons (.str [63, 62, 13, 10]) (.cons (.str [63, 62, 10, 10]) (.cons (.str [97]) (.cons (.str [32]) (.cons (.str [10]) (.cons (.str [39, 63, 62, 39]) (.cons (.str [47, 42, 63, 62, 10, 42, 47]) (.cons (.str [35, 32, 99]) (.cons (.str [47, 47, 32, 100, 63]) (.cons (.str [59]) (.cons (.str [36, 98]) (.cons (.str [49, 32]) .nil)))))))))))))))))))))))
    .skip)⟩
/-- 50: _law_script(script); script, j, told, text, some, piece -/
noncomputable def f_law_script : FD := ⟨1, 6, (.seq (.pair 2 3 (.list (.cons (.int 4) (.cons (.int 11) (.cons (.int 1) (.cons (.int 19) (.cons (.int 14) (.cons (.int 15) (.cons (.int 16) (.cons (.int 8) (.cons (.int 6) (.cons (.int 5) (.cons (.int 20) (.cons (.int 17) (.cons (.int 9) (.cons (.int 13) (.cons (.int 2) (.cons (.int 18) (.cons (.int 10) (.cons (.int 3) .nil))))))))))))))))))) (.str []))
    (.seq (.forR 1 (.int 0) (.int 18)
    (.seq (.assign 4 (.p1 .sum (.slst (.var 0) (.var 1) (.int 18))))
    (.seq (.assign 5 (.idx (.call 49 .nil) (.bin .mod (.bin .add (.idx (.var 2) (.var 1)) (.var 4)) (.int 21))))
    (.seq (.assign 3 (.bin .add (.var 3) (.ite (.cmp .eq (.bin .mod (.bin .fdiv (.var 4) (.int 21)) (.int 3)) (.int 2)) (.bin .add (.var 5) (.var 5)) (.var 5))))
    .skip))))
    (.seq (.ret (.bin .add (.var 3) (.idx (.list (.cons (.str []) (.cons (.str [60, 63, 112, 104, 112]) (.cons (.str [60, 63, 61]) (.cons (.str [63, 62]) (.cons (.str [47, 42, 32, 120]) (.cons (.str [39, 121]) .nil))))))) (.bin .mod (.p1 .sum (.var 0)) (.int 6)))))
    .skip)))⟩
/-- 51: _law_tag(text, at); text, at, follow -/
noncomputable def f_law_tag : FD := ⟨2, 3, (.seq (.ite (.cmp .eq (.slc (.var 0) (.var 1) (.bin .add (.var 1) (.int 3))) (.str [60, 63, 61]))
    (.seq (.ret (.bin .add (.var 1) (.int 3)))
    .skip)
    .skip)
    (.seq (.assign 2 (.slc (.var 0) (.bin .add (.var 1) (.int 5)) (.bin .add (.var 1) (.int 7))))
    (.seq (.ite (.or (.cmp .ne (.p1 .lower (.slc (.var 0) (.var 1) (.bin .add (.var 1) (.int 5)))) (.str [60, 63, 112, 104, 112])) (.and (.cmp .ne (.var 2) (.str [])) (.cmp .notin (.idx (.var 2) (.int 0)) (.str [32, 9, 13, 10]))))
    (.seq (.ret (.neg (.int 1)))
    .skip)
    .skip)
    (.seq (.ret (.bin .add (.bin .add (.var 1) (.int 5)) (.ite (.cmp .eq (.var 2) (.str [13, 10])) (.int 2) (.p1 .len (.slc (.var 2) .none (.int 1))))))
    .skip))))⟩
/-- 52: _law_row(text, at); text, at -/
noncomputable def f_law_row : FD := ⟨2, 2, (.seq (.ret (.bin .add (.int 1) (.p2 .count (.slc (.var 0) .none (.var 1)) (.str [10]))))
    .skip)⟩
/-- 53: _law_outside(text, at, found); text, at, found, end -/
noncomputable def f_law_outside : FD := ⟨3, 4, (.seq (.assign 3 (.var 1))
    (.seq (.while (.and (.cmp .lt (.var 3) (.p1 .len (.var 0))) (.cmp .lt (.call 51 (.cons (.var 0) (.cons (.var 3) .nil))) (.int 0)))
    (.seq (.assign 3 (.bin .add (.var 3) (.int 1)))
    .skip))
    (.seq (.ite (.cmp .gt (.var 3) (.var 1))
    (.seq (.expr (.p2 .append (.var 2) (.tup (.cons (.str [104, 116, 109, 108]) (.cons (.slc (.var 0) (.var 1) (.var 3)) (.cons (.call 52 (.cons (.var 0) (.cons (.var 1) .nil))) .nil))))))
    .skip)
    .skip)
    (.seq (.ite (.cmp .eq (.slc (.var 0) (.var 3) (.bin .add (.var 3) (.int 3))) (.str [60, 63, 61]))
    (.seq (.expr (.p2 .append (.var 2) (.tup (.cons (.str [110, 97, 109, 101]) (.cons (.str [101, 99, 104, 111]) (.cons (.call 52 (.cons (.var 0) (.cons (.var 3) .nil))) .nil))))))
    .skip)
    .skip)
    (.seq (.ret (.ite (.cmp .lt (.var 3) (.p1 .len (.var 0))) (.p2 .max (.var 3) (.call 51 (.cons (.var 0) (.cons (.var 3) .nil)))) (.var 3)))
    .skip)))))⟩
/-- 54: _law_word(text, at); text, at, rest -/
noncomputable def f_law_word : FD := ⟨2, 3, (.seq (.assign 2 (.slc (.var 0) (.var 1) .none))
    (.seq (.ret (.slc (.var 2) .none (.bin .sub (.p1 .len (.var 2)) (.p1 .len (.p2 .lstrip (.var 2) (.str [97, 98, 99, 100, 104, 112, 120, 121, 72, 80, 49]))))))
    .skip))⟩
/-- 55: _law_gap(text, at); text, at, ends, end -/
noncomputable def f_law_gap : FD := ⟨2, 4, (.seq (.ite (.cmp .isin (.idx (.var 0) (.var 1)) (.str [32, 9, 13, 10]))
    (.seq (.ret (.bin .add (.var 1) (.int 1)))
    .skip)
    .skip)
    (.seq (.ite (.or (.cmp .eq (.idx (.var 0) (.var 1)) (.str [35])) (.cmp .eq (.slc (.var 0) (.var 1) (.bin .add (.var 1) (.int 2))) (.str [47, 47])))
    (.seq (.assign 2 (.comp [1, 0] (.list (.cons (.str [10]) (.cons (.str [63, 62]) .nil))) (.p3 .find (.var 2) (.var 0) (.var 1)) (.cmp .ge (.p3 .find (.var 2) (.var 0) (.var 1)) (.int 0))))
    (.seq (.ret (.p1 .min (.bin .add (.var 2) (.list (.cons (.p1 .len (.var 0)) .nil)))))
    .skip))
    .skip)
    (.seq (.ite (.cmp .eq (.slc (.var 0) (.var 1) (.bin .add (.var 1) (.int 2))) (.str [47, 42]))
    (.seq (.assign 3 (.p3 .find (.var 0) (.str [42, 47]) (.bin .add (.var 1) (.int 2))))
    (.seq (.ret (.ite (.cmp .lt (.var 3) (.int 0)) (.neg (.int 1)) (.bin .add (.var 3) (.int 2))))
    .skip))
    .skip)
    (.seq (.ret (.int 0))
    .skip))))⟩
/-- 56: _law_token(text, at); text, at, name, size, end -/
noncomputable def f_law_token : FD := ⟨2, 5, (.seq (.ite (.cmp .eq (.idx (.var 0) (.var 1)) (.str [39]))
    (.seq (.assign 4 (.p3 .find (.var 0) (.str [39]) (.bin .add (.var 1) (.int 1))))
    (.seq (.ret (.tup (.cons (.str [115, 116, 114]) (.cons (.slc (.var 0) (.bin .add (.var 1) (.int 1)) (.var 4)) (.cons (.ite (.cmp .lt (.var 4) (.int 0)) (.neg (.int 1)) (.bin .add (.var 4) (.int 1))) .nil)))))
    .skip))
    .skip)
    (.seq (.ite (.and (.cmp .eq (.idx (.var 0) (.var 1)) (.str [36])) (.cmp .ne (.call 54 (.cons (.var 0) (.cons (.bin .add (.var 1) (.int 1)) .nil))) (.str [])))
    (.seq (.assign 2 (.call 54 (.cons (.var 0) (.cons (.bin .add (.var 1) (.int 1)) .nil))))
    (.seq (.ret (.tup (.cons (.str [118, 97, 114]) (.cons (.var 2) (.cons (.bin .add (.bin .add (.var 1) (.int 1)) (.p1 .len (.var 2))) .nil)))))
    .skip))
    .skip)
    (.seq (.ite (.cmp .eq (.idx (.var 0) (.var 1)) (.str [49]))
    (.seq (.ret (.tup (.cons (.str [105, 110, 116]) (.cons (.int 1) (.cons (.bin .add (.var 1) (.int 1)) .nil)))))
    .skip)
    .skip)
    (.seq (.assign 2 (.call 54 (.cons (.var 0) (.cons (.var 1) .nil))))
    (.seq (.ite (.cmp .ne (.var 2) (.str []))
    (.seq (.ret (.tup (.cons (.str [110, 97, 109, 101]) (.cons (.var 2) (.cons (.bin .add (.var 1) (.p1 .len (.var 2))) .nil)))))
    .skip)
    .skip)
    (.seq (.for 3 (.list (.cons (.int 3) (.cons (.int 2) .nil)))
    (.seq (.ite (.cmp .isin (.slc (.var 0) (.var 1) (.bin .add (.var 1) (.var 3))) (.list (.cons (.str [63, 63, 61]) (.cons (.str [60, 61, 62]) (.cons (.str [60, 60, 61]) (.cons (.str [62, 62, 61]) (.cons (.str [61, 61, 61]) (.cons (.str [63, 63]) (.cons (.str [60, 61]) (.cons (.str [62, 61]) (.cons (.str [61, 61]) (.cons (.str [61, 62]) (.cons (.str [60, 62]) (.cons (.str [60, 60]) (.cons (.str [62, 62]) .nil)))))))))))))))
    (.seq (.ret (.tup (.cons (.str [111, 112]) (.cons (.slc (.var 0) (.var 1) (.bin .add (.var 1) (.var 3))) (.cons (.bin .add (.var 1) (.var 3)) .nil)))))
    .skip)
    .skip)
    .skip))
    (.seq (.ret (.tup (.cons (.str [111, 112]) (.cons (.idx (.var 0) (.var 1)) (.cons (.bin .add (.var 1) (.int 1)) .nil)))))
    .skip)))))))⟩
/-- 57: _law_read(text); text, found, at, behind, row, newline, sort, value -/
noncomputable def f_law_read : FD := ⟨1, 8, (.seq (.assign 1 (.cell .nil))
    (.seq (.assign 2 (.call 53 (.cons (.var 0) (.cons (.int 0) (.cons (.var 1) .nil)))))
    (.seq (.while (.cmp .lt (.var 2) (.p1 .len (.var 0)))
    (.seq (.pair 3 4 (.call 55 (.cons (.var 0) (.cons (.var 2) .nil))) (.call 52 (.cons (.var 0) (.cons (.var 2) .nil))))
    (.seq (.ite (.cmp .lt (.var 3) (.int 0))
    (.seq (.ret (.tup (.cons (.str [114, 101, 102, 117, 115, 101, 100]) (.cons (.bin .add (.str [85, 110, 116, 101, 114, 109, 105, 110, 97, 116, 101, 100, 32, 99, 111, 109, 109, 101, 110, 116, 32, 115, 116, 97, 114, 116, 105, 110, 103, 32, 108, 105, 110, 101, 32]) (.p1 .str (.var 4))) (.cons (.var 4) .nil)))))
    .skip)
    .skip)
    (.seq (.ite (.cmp .gt (.var 3) (.int 0))
    (.seq (.assign 2 (.var 3))
    .skip)
    (.seq (.ite (.cmp .eq (.slc (.var 0) (.var 2) (.bin .add (.var 2) (.int 2))) (.str [63, 62]))
    (.seq (.expr (.p2 .append (.var 1) (.tup (.cons (.str [111, 112]) (.cons (.str [59]) (.cons (.var 4) .nil))))))
    (.seq (.assign 5 (.ite (.cmp .eq (.slc (.var 0) (.bin .add (.var 2) (.int 2)) (.bin .add (.var 2) (.int 4))) (.str [13, 10])) (.int 2) (.ite (.cmp .eq (.slc (.var 0) (.bin .add (.var 2) (.int 2)) (.bin .add (.var 2) (.int 3))) (.str [10])) (.int 1) (.int 0))))
    (.seq (.assign 2 (.call 53 (.cons (.var 0) (.cons (.bin .add (.bin .add (.var 2) (.int 2)) (.var 5)) (.cons (.var 1) .nil)))))
    .skip)))
    (.seq (.unpack [6, 7, 3] (.call 56 (.cons (.var 0) (.cons (.var 2) .nil))))
    (.seq (.ite (.cmp .lt (.var 3) (.int 0))
    (.seq (.ret (.tup (.cons (.str [114, 101, 102, 117, 115, 101, 100]) (.cons (.str [115, 121, 110, 116, 97, 120, 32, 101, 114, 114, 111, 114, 44, 32, 117, 110, 101, 120, 112, 101, 99, 116, 101, 100, 32, 101, 110, 100, 32, 111, 102, 32, 102, 105, 108, 101]) (.cons (.var 4) .nil)))))
    .skip)
    .skip)
    (.seq (.expr (.p2 .append (.var 1) (.tup (.cons (.var 6) (.cons (.var 7) (.cons (.var 4) .nil))))))
    (.seq (.assign 2 (.var 3))
    .skip)))))
    .skip))
    .skip))))
    (.seq (.ret (.tup (.cons (.str [114, 101, 97, 100]) (.cons (.bin .add (.var 1) (.list (.cons (.tup (.cons (.str [101, 110, 100]) (.cons (.str []) (.cons (.call 52 (.cons (.var 0) (.cons (.p1 .len (.var 0)) .nil))) .nil)))) .nil))) (.cons (.int 0) .nil)))))
    .skip))))⟩
/-- 58: _law_told(text); text, tokens -/
noncomputable def f_law_told : FD := ⟨1, 2, (.seq (.tryR 1 (.call 48 (.cons (.var 0) .nil)))
    (.seq (.ret (.tup (.cons (.str [114, 101, 97, 100]) (.cons (.comp [] (.var 1) (.tup (.cons (.attr (.var 0) 0) (.cons (.attr (.var 0) 1) (.cons (.attr (.var 0) 2) .nil)))) (.bool true)) (.cons (.int 0) .nil)))))
    .skip))⟩
/-- 59: law(script); script, text, cut -/
noncomputable def f_law : FD := ⟨1, 3, (.seq (.assign 0 (.slc (.var 0) .none (.int 63)))
    (.seq (.assign 1 (.call 50 (.cons (.var 0) .nil)))
    (.seq (.for 2 (.list (.cons (.p1 .len (.var 1)) (.cons (.bin .fdiv (.p1 .len (.var 1)) (.int 2)) (.cons (.bin .mod (.p1 .sum (.var 0)) (.bin .add (.p1 .len (.var 1)) (.int 1))) .nil))))
    (.seq (.ite (.cmp .ne (.call 58 (.cons (.slc (.var 1) .none (.var 2)) .nil)) (.call 57 (.cons (.slc (.var 1) .none (.var 2)) .nil)))
    (.seq (.ret (.bool false))
    .skip)
    .skip)
    .skip))
    (.seq (.ret (.bool true))
    .skip))))⟩
/-- 60: digits_behind_lexnames(text, at, base); text, at, base -/
noncomputable def f_digits_behind_lexnames : FD := ⟨3, 3, (.seq (.while (.cmp .lt (.call 9 (.cons (.slc (.var 0) (.var 1) (.bin .add (.var 1) (.int 1))) .nil)) (.var 2))
    (.seq (.aug 1 .add (.int 1))
    (.seq (.ite (.and (.cmp .eq (.slc (.var 0) (.var 1) (.bin .add (.var 1) (.int 1))) (.str [95])) (.cmp .lt (.call 9 (.cons (.slc (.var 0) (.bin .add (.var 1) (.int 1)) (.bin .add (.var 1) (.int 2))) .nil)) (.var 2)))
    (.seq (.aug 1 .add (.int 1))
    .skip)
    .skip)
    .skip)))
    (.seq (.ret (.var 1))
    .skip))⟩
/-- 61: digits_value_lexnames(text, base, line); text, base, line, value, c -/
noncomputable def f_digits_value_lexnames : FD := ⟨3, 5, (.seq (.assign 3 (.int 0))
    (.seq (.for 4 (.var 0)
    (.seq (.ite (.cmp .ne (.var 4) (.str [95]))
    (.seq (.ite (.cmp .ge (.call 9 (.cons (.var 4) .nil)) (.var 1))
    (.seq (.raise (.str [73, 110, 118, 97, 108, 105, 100, 32, 110, 117, 109, 101, 114, 105, 99, 32, 108, 105, 116, 101, 114, 97, 108]) (.var 2))
    .skip)
    .skip)
    (.seq (.assign 3 (.bin .add (.bin .mul (.var 3) (.var 1)) (.call 9 (.cons (.var 4) .nil))))
    .skip))
    .skip)
    .skip))
    (.seq (.ite (.cmp .gt (.var 3) (.call 1 .nil))
    (.seq .dead
    .skip)
    .skip)
    (.seq (.ret (.var 3))
    .skip))))⟩
noncomputable def tab : Nat → Option FD
  | 0 => some f_least
  | 1 => some f_greatest
  | 2 => some f_is_name_start
  | 3 => some f_is_name_sign
  | 4 => some f_read_name
  | 5 => some f_operators
  | 6 => some f_operator_at
  | 7 => some f_blanks_behind
  | 8 => some f_cast_at
  | 9 => some f_digit_of
  | 10 => some f_digits_behind
  | 11 => some f_digits_value
  | 12 => some f_is_float
  | 13 => some f_read_number
  | 14 => some f_is_digit
  | 15 => some f_signed
  | 16 => some f_key_number
  | 17 => some f_sign_at
  | 18 => some f_rows_in
  | 19 => some f_no_end
  | 20 => some f_single
  | 21 => some f_octets_of
  | 22 => some f_read_digits
  | 23 => some f_read_point
  | 24 => some f_escape
  | 25 => some f_index_fault
  | 26 => some f_number_tokens
  | 27 => some f_index_tokens
  | 28 => some f_simple_part
  | 29 => some f_code_part
  | 30 => some f_put_text
  | 31 => some f_is_before
  | 32 => some f_parts_until
  | 33 => some f_newline_behind
  | 34 => some f_heredoc_head
  | 35 => some f_heredoc_end
  | 36 => some f_pass_indent
  | 37 => some f_raw_body
  | 38 => some f_row_end
  | 39 => some f_pass_gap
  | 40 => some f_tag_at
  | 41 => some f_pass_inline
  | 42 => some f_text_token
  | 43 => some f_read_heredoc
  | 44 => some f_read_text
  | 45 => some f_read_operator
  | 46 => some f_read_token
  | 47 => some f_lex_code
  | 48 => some f_tokens_of
  | 49 => some f_law_pieces
  | 50 => some f_law_script
  | 51 => some f_law_tag
  | 52 => some f_law_row
  | 53 => some f_law_outside
  | 54 => some f_law_word
  | 55 => some f_law_gap
  | 56 => some f_law_token
  | 57 => some f_law_read
  | 58 => some f_law_told
  | 59 => some f_law
  | 60 => some f_digits_behind_lexnames
  | 61 => some f_digits_value_lexnames
  | _ => none
/-- the names: of the def, of its slots -/
noncomputable def names : List (Nat × String × List String) := [(0, "least", []), (1, "greatest", []), (2, "is_name_start", ["c"]), (3, "is_name_sign", ["c"]), (4, "read_name", ["text", "at"]), (5, "operators", []), (6, "operator_at", ["text", "at", "size", "piece"]), (7, "blanks_behind", ["text", "at"]), (8, "cast_at", ["text", "at", "line", "first", "behind", "end", "word", "sorts"]), (9, "digit_of", ["c", "place"]), (10, "digits_behind", ["text", "at"]), (11, "digits_value", ["text", "first", "behind", "value", "at"]), (12, "is_float", ["text", "behind", "sign", "at"]), (13, "read_number", ["text", "at", "line", "mark", "behind", "base", "begin"]), (14, "is_digit", ["text", "at"]), (15, "signed", ["is_minus", "value", "n"]), (16, "key_number", ["text", "is_minus", "first"]), (17, "sign_at", ["text", "at"]), (18, "rows_in", ["text"]), (19, "no_end", ["line"]), (20, "single", ["text", "at", "line", "made", "c"]), (21, "octets_of", ["point", "low"]), (22, "read_digits", ["text", "at", "base", "most", "value", "behind"]), (23, "read_point", ["text", "at", "line", "point", "behind"]), (24, "escape", ["text", "at", "quote", "line", "c", "plain", "value", "behind"]), (25, "index_fault", ["expected", "line"]), (26, "number_tokens", ["digits", "is_minus", "line", "key"]), (27, "index_tokens", ["text", "at", "line", "c", "first", "behind", "value"]), (28, "simple_part", ["text", "at", "line", "behind", "tokens", "arrow", "first", "index"]), (29, "code_part", ["text", "at", "line", "lex", "c", "tokens", "behind", "end_line"]), (30, "put_text", ["parts", "made"]), (31, "is_before", ["text", "at", "stop", "line"]), (32, "parts_until", ["text", "at", "stop", "quote", "indent", "line", "lex", "parts", "made", "c", "code", "tokens", "behind", "signs"]), (33, "newline_behind", ["text", "at"]), (34, "heredoc_head", ["text", "at", "first", "mark", "behind", "end"]), (35, "heredoc_end", ["text", "at", "label", "line", "row", "first", "behind", "newline", "indent", "end"]), (36, "pass_indent", ["text", "at", "stop", "indent", "line", "turn", "why"]), (37, "raw_body", ["text", "at", "stop", "indent", "line", "made", "newline", "behind"]), (38, "row_end", ["text", "at"]), (39, "pass_gap", ["text", "at", "line", "first", "mark", "behind"]), (40, "tag_at", ["text", "at", "behind"]), (41, "pass_inline", ["text", "at", "line", "tokens", "first"]), (42, "text_token", ["parts", "line"]), (43, "read_heredoc", ["text", "head", "line", "label", "is_raw", "first", "end", "indent", "behind", "parts", "ended"]), (44, "read_text", ["text", "at", "line", "c", "head", "value", "behind", "parts"]), (45, "read_operator", ["text", "at", "line", "c", "op", "cast", "point"]), (46, "read_token", ["text", "at", "line", "c", "found", "behind", "value"]), (47, "lex_code", ["text", "at", "line", "tokens", "depth", "behind", "token"]), (48, "tokens_of", ["text", "tokens", "at", "line", "behind", "first", "token"]), (49, "_law_pieces", []), (50, "_law_script", ["script", "j", "told", "text", "some", "piece"]), (51, "_law_tag", ["text", "at", "follow"]), (52, "_law_row", ["text", "at"]), (53, "_law_outside", ["text", "at", "found", "end"]), (54, "_law_word", ["text", "at", "rest"]), (55, "_law_gap", ["text", "at", "ends", "end"]), (56, "_law_token", ["text", "at", "name", "size", "end"]), (57, "_law_read", ["text", "found", "at", "behind", "row", "newline", "sort", "value"]), (58, "_law_told", ["text", "tokens"]), (59, "law", ["script", "text", "cut"]), (60, "digits_behind_lexnames", ["text", "at", "base"]), (61, "digits_value_lexnames", ["text", "base", "line", "value", "c"])]
end Mine.P2
end
section
set_option Elab.async false
set_option linter.all false
namespace Mine
open P2

/-! slices at natural places -/
theorem clip_nat (n i : Nat) : clip n (i : Int) = min i n := by
  unfold clip
  rw [if_neg (by omega)]
  omega
theorem slN {α : Type} (l : List α) (i j : Nat) : sliceL l (some (i : Int)) (some (j : Int)) = (l.drop i).take (j - i) := by
  unfold sliceL loAt hiAt
  simp only [clip_nat]
  rcases Nat.lt_or_ge i l.length with h | h
  · rw [Nat.min_eq_left (Nat.le_of_lt h)]
    rcases Nat.lt_or_ge j l.length with h' | h'
    · rw [Nat.min_eq_left (Nat.le_of_lt h')]
    · rw [Nat.min_eq_right h', List.take_of_length_le (by simp), List.take_of_length_le (by simp; omega)]
  · rw [Nat.min_eq_right h, List.drop_of_length_le (Nat.le_refl _), List.drop_of_length_le h]; simp
theorem slL {α : Type} (l : List α) (i : Nat) : sliceL l (some (i : Int)) none = l.drop i := by
  unfold sliceL loAt hiAt
  simp only [clip_nat]
  rcases Nat.lt_or_ge i l.length with h | h
  · rw [Nat.min_eq_left (Nat.le_of_lt h), List.take_of_length_le (by simp)]
  · rw [Nat.min_eq_right h, List.drop_of_length_le (Nat.le_refl _), List.drop_of_length_le h]; simp
theorem slR {α : Type} (l : List α) (j : Nat) : sliceL l none (some (j : Int)) = l.take j := by
  unfold sliceL loAt hiAt
  simp only [clip_nat, List.drop_zero, Nat.sub_zero]
  rcases Nat.lt_or_ge j l.length with h | h
  · rw [Nat.min_eq_left (Nat.le_of_lt h)]
  · rw [Nat.min_eq_right h, List.take_of_length_le (Nat.le_refl _), List.take_of_length_le h]
theorem nat1 (a : Nat) : (a : Int) + 1 = ((a + 1 : Nat) : Int) := rfl
theorem nat2 (a : Nat) : (a : Int) + 2 = ((a + 2 : Nat) : Int) := rfl
theorem nat3 (a : Nat) : (a : Int) + 3 = ((a + 3 : Nat) : Int) := rfl
theorem nat5 (a : Nat) : (a : Int) + 5 = ((a + 5 : Nat) : Int) := rfl
theorem nat7 (a : Nat) : (a : Int) + 7 = ((a + 7 : Nat) : Int) := rfl

/-! the end of a call -/
theorem back_same {h h' : H} {v : V} (e : h'.length = h.length) : back h v h' = .ok v h' := by unfold back backO; rw [if_pos e]; rfl
theorem call_ret {h h' : H} {v : V} (e : h'.length = h.length) : callR h (.ok (.ret v) h') = .ok v h' := back_same e

noncomputable def isBl (c : Nat) : Bool := decide (c = 32 ∨ c = 9 ∨ c = 10 ∨ c = 13)
noncomputable def tagL (r : List Nat) : Option Nat :=
  if (r.take 3 == [60, 63, 61]) = true then some 3
  else if (!((r.take 5).map lowerC == [60, 63, 112, 104, 112])) = true then none
  else if ((r.drop 5).take 2 == [13, 10]) = true then some 7
  else match r.drop 5 with
    | [] => some 5
    | c :: _ => if isBl c = true then some 6 else none

/-! one step of the small language's evaluation -/
theorem ok_bind {α β : Type} (a : α) (h : H) (f : α → H → R β) : (R.ok a h).bind f = f a h := rfl
theorem pf_bind {α β : Type} (w : List Nat) (l : Int) (h : H) (f : α → H → R β) : (R.pf w l h : R α).bind f = .pf w l h := rfl
theorem ite_bind {α β : Type} {c : Prop} [Decidable c] (a b : R α) (f : α → H → R β) : (if c then a else b).bind f = if c then a.bind f else b.bind f := by split <;> rfl
theorem varR_ok (v : V) (h : H) : varR (some (some v)) h = .ok v h := rfl
theorem ifR_some {α : Type} (c : Bool) (a b : R α) : ifR (some c) a b = if c = true then a else b := rfl
theorem boolR_ok (c : Bool) (h : H) : boolR (.bool c) h = .ok (.bool c) h := rfl
theorem andR_ok (c : Bool) (h : H) (m : R V) : andR (.bool c) h m = if c = true then m.bind boolR else .ok (.bool false) h := rfl
theorem orR_ok (c : Bool) (h : H) (m : R V) : orR (.bool c) h m = if c = true then .ok (.bool true) h else m.bind boolR := rfl
theorem notR_ok (c : Bool) (h : H) : notR (.bool c) h = .ok (.bool (!c)) h := rfl
theorem seqR_next (loc : L) (h : H) (k : L → H → R Fl) : seqR (.next loc) h k = k loc h := rfl
theorem seqR_ret (v : V) (h : H) (k : L → H → R Fl) : seqR (.ret v) h k = .ok (.ret v) h := rfl
section
variable (C : Calls) (N : Nat) (loc : L) (h : H)
theorem e_none : mev C .none loc h = .ok .none h := rfl
theorem e_bool (b : Bool) : mev C (.bool b) loc h = .ok (.bool b) h := rfl
theorem e_int (i : Int) : mev C (.int i) loc h = .ok (.int i) h := rfl
theorem e_str (l : List Nat) : mev C (.str l) loc h = .ok (.str l) h := rfl
theorem e_var (i : Nat) : mev C (.var i) loc h = varR loc[i]? h := rfl
theorem e_bin (o : BO) (a b : ME) : mev C (.bin o a b) loc h = (mev C a loc h).bind fun x h => (mev C b loc h).bind fun y h => ofO (binV o h x y) h := rfl
theorem e_cmp (o : CO) (a b : ME) : mev C (.cmp o a b) loc h = (mev C a loc h).bind fun x h => (mev C b loc h).bind fun y h => ofO ((cmpV o h x y).map .bool) h := rfl
theorem e_and (a b : ME) : mev C (.and a b) loc h = (mev C a loc h).bind fun x h => andR x h (mev C b loc h) := rfl
theorem e_or (a b : ME) : mev C (.or a b) loc h = (mev C a loc h).bind fun x h => orR x h (mev C b loc h) := rfl
theorem e_not (a : ME) : mev C (.not a) loc h = (mev C a loc h).bind notR := rfl
theorem e_neg (a : ME) : mev C (.neg a) loc h = (mev C a loc h).bind negR := rfl
theorem e_ite (t a b : ME) : mev C (.ite t a b) loc h = (mev C t loc h).bind fun x h => ifR (truth h x) (mev C a loc h) (mev C b loc h) := rfl
theorem e_idx (a i : ME) : mev C (.idx a i) loc h = (mev C a loc h).bind fun x h => (mev C i loc h).bind fun y h => ofO (idxV h x y) h := rfl
theorem e_slc (a b c : ME) : mev C (.slc a b c) loc h = (mev C a loc h).bind fun x h => (mev C b loc h).bind fun y h => (mev C c loc h).bind fun z h => ofO (slcV x y z) h := rfl
theorem e_call (f : Nat) (as : MEs) : mev C (.call f as) loc h = (mevs C as loc h).bind fun vs h => C f vs h := rfl
theorem e_mk (as : MEs) : mev C (.mk as) loc h = (mevs C as loc h).bind mkR := rfl
theorem e_p1 (p : P1) (a : ME) : mev C (.p1 p a) loc h = (mev C a loc h).bind fun x h => p1V p x h := rfl
theorem e_p2 (p : P2) (a b : ME) : mev C (.p2 p a b) loc h = (mev C a loc h).bind fun x h => if recv2 p x = true then (mev C b loc h).bind fun y h => p2V p x y h else .stuck := rfl
theorem e_p3 (p : P3) (a b c : ME) : mev C (.p3 p a b c) loc h = (mev C a loc h).bind fun x h => if isStrV x = true then (mev C b loc h).bind fun y h => (mev C c loc h).bind fun z h => p3V p x y z h else .stuck := rfl
theorem e_tup (es : MEs) : mev C (.tup es) loc h = (mevs C es loc h).bind fun vs h => .ok (.tup vs) h := rfl
theorem e_list (es : MEs) : mev C (.list es) loc h = (mevs C es loc h).bind fun vs h => .ok (.lst vs) h := rfl
theorem e_cell (es : MEs) : mev C (.cell es) loc h = (mevs C es loc h).bind fun vs h => .ok (.ref h.length) (h ++ [vs]) := rfl
theorem e_isnone (a : ME) : mev C (.isnone a) loc h = (mev C a loc h).bind noneR := rfl
theorem e_notnone (a : ME) : mev C (.notnone a) loc h = (mev C a loc h).bind someR := rfl
theorem es_nil' : mevs C .nil loc h = .ok [] h := rfl
theorem es_cons' (e : ME) (r : MEs) : mevs C (.cons e r) loc h = (mev C e loc h).bind fun x h => (mevs C r loc h).bind fun xs h => .ok (x :: xs) h := rfl
theorem x_skip : mex C N .skip loc h = .ok (.next loc) h := rfl
theorem x_seq (a b : MS) : mex C N (.seq a b) loc h = (mex C N a loc h).bind fun f h => seqR f h (mex C N b) := rfl
theorem x_assign (i : Nat) (e : ME) : mex C N (.assign i e) loc h = (mev C e loc h).bind fun v h => .ok (.next (loc.set i (some v))) h := rfl
theorem x_unpack (is : List Nat) (e : ME) : mex C N (.unpack is e) loc h = (mev C e loc h).bind fun v h => unpR is loc v h := rfl
theorem x_pair (i j : Nat) (a b : ME) : mex C N (.pair i j a b) loc h = (mev C a loc h).bind fun x h => (mev C b loc h).bind fun y h => .ok (.next ((loc.set j (some y)).set i (some x))) h := rfl
theorem x_aug (i : Nat) (e : ME) : mex C N (.aug i .add e) loc h = (mev C (.var i) loc h).bind fun x h => (mev C e loc h).bind fun y h => augR i loc x y h := rfl
theorem augR_ok (i : Nat) (x y : Int) : augR i loc (.int x) (.int y) h = .ok (.next (loc.set i (some (.int (x + y))))) h := rfl
theorem x_ite (t : ME) (a b : MS) : mex C N (.ite t a b) loc h = (mev C t loc h).bind fun x h => ifR (truth h x) (mex C N a loc h) (mex C N b loc h) := rfl
theorem x_while (t : ME) (b : MS) : mex C N (.while t b) loc h = wloop (mev C t) (mex C N b) N loc h := rfl
theorem x_ret (e : ME) : mex C N (.ret e) loc h = (mev C e loc h).bind fun v h => .ok (.ret v) h := rfl
theorem x_expr (e : ME) : mex C N (.expr e) loc h = (mev C e loc h).bind fun _ h => .ok (.next loc) h := rfl
theorem x_raise (a b : ME) : mex C N (.raise a b) loc h = (mev C a loc h).bind fun x h => (mev C b loc h).bind fun y h => raiseR x y h := rfl
theorem x_raiseEnd (a : ME) : mex C N (.raiseEnd a) loc h = (mev C a loc h).bind endR := rfl
end
/-! operators -/
theorem add_int (h : H) (x y : Int) : binV .add h (.int x) (.int y) = some (.int (x + y)) := rfl
theorem sub_int (h : H) (x y : Int) : binV .sub h (.int x) (.int y) = some (.int (x - y)) := rfl
theorem eq_str (h : H) (a b : List Nat) : cmpV .eq h (.str a) (.str b) = some (a == b) := rfl
theorem ne_str (h : H) (a b : List Nat) : cmpV .ne h (.str a) (.str b) = some (!(a == b)) := rfl
theorem eq_int (h : H) (a b : Int) : cmpV .eq h (.int a) (.int b) = some (a == b) := rfl
theorem lt_int (h : H) (a b : Int) : cmpV .lt h (.int a) (.int b) = some (decide (a < b)) := rfl
theorem gt_int (h : H) (a b : Int) : cmpV .gt h (.int a) (.int b) = some (decide (b < a)) := rfl
theorem ge_int (h : H) (a b : Int) : cmpV .ge h (.int a) (.int b) = some (decide (b ≤ a)) := rfl
theorem slc_str (l : List Nat) (i j : Nat) : slcV (.str l) (.int i) (.int j) = some (.str ((l.drop i).take (j - i))) := by
  show some (V.str (sliceL l (some (i : Int)) (some (j : Int)))) = _; rw [slN]
theorem slc_strL (l : List Nat) (i : Nat) : slcV (.str l) (.int i) .none = some (.str (l.drop i)) := by
  show some (V.str (sliceL l (some (i : Int)) none)) = _; rw [slL]
theorem slc_strR (l : List Nat) (j : Nat) : slcV (.str l) .none (.int j) = some (.str (l.take j)) := by
  show some (V.str (sliceL l none (some (j : Int)))) = _; rw [slR]
theorem slc_strR1 (l : List Nat) : slcV (.str l) .none (.int 1) = some (.str (l.take 1)) := slc_strR l 1
theorem ofO_some {α : Type} (v : α) (h : H) : ofO (some v) h = .ok v h := rfl
theorem truth_bool (h : H) (b : Bool) : truth h (.bool b) = some b := rfl
theorem p1_ok {p : P1} {a : V} {h : H} {q : V × H} (e : p1O p a h = some q) : p1V p a h = .ok q.1 q.2 := by unfold p1V; rw [e]; rfl
theorem p2_ok {p : P2} {a b : V} {h : H} {q : V × H} (e : p2O p a b h = some q) : p2V p a b h = .ok q.1 q.2 := by unfold p2V; rw [e]; rfl
theorem p3_ok {p : P3} {a b c : V} {h : H} {q : V × H} (e : p3O p a b c h = some q) : p3V p a b c h = .ok q.1 q.2 := by unfold p3V; rw [e]; rfl
theorem len_str (l : List Nat) (h : H) : p1V .len (.str l) h = .ok (.int l.length) h := rfl
theorem low_str {l : List Nat} (h : H) (e : l.all (fun c => decide (c < 128)) = true) : p1V .lower (.str l) h = .ok (.str (l.map lowerC)) h := p1_ok (q := (.str (l.map lowerC), h)) (if_pos e)
theorem idx_str {l : List Nat} {i c : Nat} (h : H) (e : l[i]? = some c) : idxV h (.str l) (.int i) = some (.str [c]) := by
  have q : atL l (i : Int) = some c := (if_pos (Int.natCast_nonneg i)).trans e
  show pick ((atL l (i : Int)).map fun c => V.str [c]) _ = _
  rw [q]; rfl

end Mine
end
section
set_option Elab.async false
set_option linter.all false
namespace Mine
open P2

theorem all_take {l : List Nat} (hl : ∀ c ∈ l, c < 128) (i j : Nat) : ((l.drop i).take j).all (fun c => decide (c < 128)) = true := by
  rw [List.all_eq_true]; intro c hc; exact decide_eq_true (hl c (List.mem_of_mem_drop (List.mem_of_mem_take hc)))
theorem drop_consL {t : List Nat} {i c : Nat} {r : List Nat} (h : t.drop i = c :: r) : t[i]? = some c ∧ i < t.length ∧ t.drop (i + 1) = r := by
  have hi : i < t.length := by
    rcases Nat.lt_or_ge i t.length with q | q
    · exact q
    · rw [List.drop_of_length_le q] at h; cases h
  rw [List.drop_eq_getElem_cons hi] at h
  cases h
  exact ⟨List.getElem?_eq_getElem hi, hi, rfl⟩
theorem drop_nilL {t : List Nat} {i : Nat} (h : t.drop i = []) : t.length ≤ i := List.drop_eq_nil_iff.mp h
theorem in_blank (h : H) (c : Nat) : cmpV .isin h (.str [c]) (.tup [.str [32], .str [9], .str [10], .str [13]]) = some (isBl c) := by
  show some ([[32], [9], [10], [13]].any (· == [c])) = _
  congr 1
  rw [Bool.eq_iff_iff, List.any_eq_true, isBl, decide_eq_true_eq]
  constructor
  · rintro ⟨x, hx, e⟩
    rw [beq_iff_eq] at e
    subst e
    simpa using hx
  · intro e
    exact ⟨[c], by simpa using e, by simp⟩

theorem sem_tag_at {N k at' : Nat} {t : List Nat} {h : H} (hl : ∀ c ∈ t, c < 128) : sem tab N (k + 1) 40 [.str t, .int at'] h = .ok (.int (at' + (tagL (t.drop at')).getD 0 : Nat)) h := by
  rw [sem_call (d := f_tag_at) rfl rfl]
  have d5 : (t.drop at').drop 5 = t.drop (at' + 5) := List.drop_drop ..
  cases b1 : ((t.drop at').take 3 == [60, 63, 61]) with
  | true =>
    simp only [f_tag_at, List.map_cons, List.map_nil, List.cons_append, List.nil_append, Nat.reduceSub, List.replicate, x_seq, x_ite, x_ret, x_skip, e_int, e_var, e_str, e_bin, e_cmp, e_slc, List.getElem?_cons_zero, List.getElem?_cons_succ, varR_ok, ok_bind, add_int, ofO_some, nat3, slc_str, eq_str, Option.map_some, truth_bool, ifR_some, seqR_ret, Nat.add_sub_cancel_left, tagL, d5, b1, if_true, Option.getD_some]
    exact call_ret rfl
  | false =>
  cases b2 : (((t.drop at').take 5).map lowerC == [60, 63, 112, 104, 112]) with
  | false =>
    simp only [f_tag_at, List.map_cons, List.map_nil, List.cons_append, List.nil_append, Nat.reduceSub, List.replicate, x_seq, x_ite, x_ret, x_skip, e_int, e_var, e_str, e_bin, e_cmp, e_slc, e_p1, List.getElem?_cons_zero, List.getElem?_cons_succ, varR_ok, ok_bind, add_int, ofO_some, nat3, nat5, slc_str, eq_str, ne_str, Option.map_some, truth_bool, ifR_some, seqR_next, seqR_ret, Nat.add_sub_cancel_left, low_str h (all_take hl _ _), tagL, d5, b1, b2, Bool.false_eq_true, if_false, if_true, Bool.not_false, Option.getD_none, Nat.add_zero]
    exact call_ret rfl
  | true =>
  have h4 := congrArg List.length (beq_iff_eq.mp b2)
  simp only [List.length_map, List.length_take, List.length_drop, List.length_cons, List.length_nil] at h4
  cases hd : t.drop (at' + 5) with
  | nil =>
    have h5 := drop_nilL hd
    have h6 : (((at' + 5 : Nat) : Int) == (t.length : Int)) = true := by rw [beq_iff_eq]; omega
    simp only [f_tag_at, List.map_cons, List.map_nil, List.cons_append, List.nil_append, Nat.reduceSub, List.replicate, x_seq, x_ite, x_assign, x_ret, x_skip, e_int, e_var, e_str, e_bin, e_cmp, e_slc, e_p1, List.getElem?_cons_zero, List.getElem?_cons_succ, List.set_cons_zero, List.set_cons_succ, varR_ok, ok_bind, ite_bind, add_int, ofO_some, nat2, nat3, nat5, slc_str, eq_str, ne_str, eq_int, Option.map_some, truth_bool, ifR_some, seqR_next, seqR_ret, len_str, Nat.add_sub_cancel_left, low_str h (all_take hl _ _), tagL, d5, hd, b1, b2, h6, List.take_nil, Bool.false_eq_true, if_false, if_true, Bool.not_true]
    exact call_ret rfl
  | cons c r =>
    obtain ⟨e1, e2, e3⟩ := drop_consL hd
    have h6 : (((at' + 5 : Nat) : Int) == (t.length : Int)) = false := by rw [beq_eq_false_iff_ne]; omega
    cases b3 : ((c :: r).take 2 == [13, 10]) with
    | true =>
      simp only [f_tag_at, List.map_cons, List.map_nil, List.cons_append, List.nil_append, Nat.reduceSub, List.replicate, x_seq, x_ite, x_assign, x_ret, x_skip, e_int, e_var, e_str, e_bin, e_cmp, e_slc, e_p1, List.getElem?_cons_zero, List.getElem?_cons_succ, List.set_cons_zero, List.set_cons_succ, varR_ok, ok_bind, add_int, ofO_some, nat2, nat3, nat5, slc_str, eq_str, ne_str, Option.map_some, truth_bool, ifR_some, seqR_next, seqR_ret, Nat.add_sub_cancel_left, low_str h (all_take hl _ _), tagL, d5, hd, b1, b2, b3, Bool.false_eq_true, if_false, if_true, Bool.not_true, Option.getD_some]
      exact call_ret rfl
    | false =>
      simp only [f_tag_at, List.map_cons, List.map_nil, List.cons_append, List.nil_append, Nat.reduceSub, List.replicate, x_seq, x_ite, x_assign, x_ret, x_skip, e_int, e_var, e_str, e_bin, e_cmp, e_slc, e_p1, e_idx, e_ite, e_tup, es_nil', es_cons', List.getElem?_cons_zero, List.getElem?_cons_succ, List.set_cons_zero, List.set_cons_succ, varR_ok, ok_bind, ite_bind, add_int, ofO_some, nat1, nat2, nat3, nat5, slc_str, eq_str, ne_str, eq_int, Option.map_some, truth_bool, ifR_some, seqR_next, seqR_ret, len_str, Nat.add_sub_cancel_left, low_str h (all_take hl _ _), tagL, d5, hd, b1, b2, b3, h6, idx_str h e1, in_blank, Bool.false_eq_true, if_false, Bool.not_true]
      cases isBl c <;> exact call_ret rfl

/-! loops -/
section
variable {test : L → H → R V} {body : L → H → R Fl} {n : Nat} {loc loc' : L} {h h' h'' : H}
theorem wl_false (ht : test loc h = .ok (.bool false) h') : wloop test body (n + 1) loc h = .ok (.next loc) h' := by
  simp only [wloop, ht, ok_bind, truth_bool]; rfl
theorem wl_true (ht : test loc h = .ok (.bool true) h') (hb : body loc h' = .ok (.next loc') h'') : wloop test body (n + 1) loc h = wloop test body n loc' h'' := by
  simp only [wloop, ht, hb, ok_bind, truth_bool]; rfl
theorem wl_ret {v : V} (ht : test loc h = .ok (.bool true) h') (hb : body loc h' = .ok (.ret v) h'') : wloop test body (n + 1) loc h = .ok (.ret v) h'' := by
  simp only [wloop, ht, hb, ok_bind, truth_bool]; rfl
theorem wl_pf {w : List Nat} {l : Int} (ht : test loc h = .ok (.bool true) h') (hb : body loc h' = .pf w l h'') : wloop test body (n + 1) loc h = .pf w l h'' := by
  simp only [wloop, ht, hb, ok_bind, pf_bind, truth_bool]; rfl
end

/-- the signs of the law's texts -/
noncomputable def alpha : List Nat := [60, 63, 112, 104, 80, 72, 120, 61, 62, 32, 10, 9, 13, 97, 39, 47, 42, 35, 99, 100, 59, 36, 98, 49, 121]
noncomputable def isLet (c : Nat) : Bool := [112, 104, 80, 72, 120, 97, 99, 100, 98, 121].contains c
noncomputable def isWd (c : Nat) : Bool := isLet c || c == 49
theorem alpha_all {P : Nat → Prop} (h : ∀ c ∈ alpha, P c) {c : Nat} (hc : c ∈ alpha) : P c := h c hc
theorem alpha_low {c : Nat} (hc : c ∈ alpha) : c < 128 := by revert c; decide

theorem sem_name_start {N k c : Nat} {h : H} (hc : c ∈ alpha) : sem tab N (k + 1) 2 [.str [c]] h = .ok (.bool (isLet c)) h := by
  rw [sem_call (d := f_is_name_start) rfl rfl]
  simp only [alpha, List.mem_cons, List.not_mem_nil, or_false] at hc
  rcases hc with rfl | rfl | rfl | rfl | rfl | rfl | rfl | rfl | rfl | rfl | rfl | rfl | rfl | rfl | rfl | rfl | rfl | rfl | rfl | rfl | rfl | rfl | rfl | rfl | rfl <;> exact call_ret rfl
theorem sem_name_start0 {N k : Nat} {h : H} : sem tab N (k + 1) 2 [.str []] h = .ok (.bool false) h := by
  rw [sem_call (d := f_is_name_start) rfl rfl]; exact call_ret rfl
theorem sem_name_sign {N k c : Nat} {h : H} (hc : c ∈ alpha) : sem tab N (k + 2) 3 [.str [c]] h = .ok (.bool (isWd c)) h := by
  rw [sem_call (d := f_is_name_sign) rfl rfl]
  simp only [f_is_name_sign, List.map_cons, List.map_nil, List.cons_append, List.nil_append, Nat.reduceSub, List.replicate, x_seq, x_ret, e_var, e_or, e_call, es_nil', es_cons', List.getElem?_cons_zero, varR_ok, ok_bind, ite_bind, orR_ok, seqR_ret, sem_name_start hc]
  simp only [alpha, List.mem_cons, List.not_mem_nil, or_false] at hc
  rcases hc with rfl | rfl | rfl | rfl | rfl | rfl | rfl | rfl | rfl | rfl | rfl | rfl | rfl | rfl | rfl | rfl | rfl | rfl | rfl | rfl | rfl | rfl | rfl | rfl | rfl <;> exact call_ret rfl
theorem sem_sign_at {N k at' : Nat} {t : List Nat} {h : H} : sem tab N (k + 1) 17 [.str t, .int at'] h = .ok (.str ((t.drop at').take 1)) h := by
  rw [sem_call (d := f_sign_at) rfl rfl]
  simp only [f_sign_at, List.map_cons, List.map_nil, List.cons_append, List.nil_append, Nat.reduceSub, List.replicate, x_seq, x_ret, e_int, e_var, e_bin, e_slc, List.getElem?_cons_zero, List.getElem?_cons_succ, varR_ok, ok_bind, add_int, ofO_some, nat1, slc_str, seqR_ret, Nat.add_sub_cancel_left]
  exact call_ret rfl
theorem split_lenL (c : Nat) : ∀ (l acc : List Nat), (splitC c l acc).length = l.count c + 1
  | [], acc => rfl
  | d :: r, acc => by
    unfold splitC
    rw [List.count_cons]
    cases hd : d == c with
    | true => simp [split_lenL c r []]
    | false => simp [split_lenL c r (d :: acc)]
theorem sem_rows_in {N k : Nat} {t : List Nat} {h : H} (ht : t.length < big) : sem tab N (k + 1) 18 [.str t] h = .ok (.int (t.count 10 : Nat)) h := by
  rw [sem_call (d := f_rows_in) rfl rfl]
  have e1 : p2V .split (.str t) (.str [10]) h = .ok (.lst ((splitC 10 t []).map .str)) h := by
    exact p2_ok (q := (.lst ((splitC 10 t []).map .str), h)) (congrArg (Option.map fun v => (v, h)) (if_pos ht))
  have e2 : p1V .len (.lst ((splitC 10 t []).map V.str)) h = .ok (.int ((splitC 10 t []).map V.str).length) h := rfl
  simp only [f_rows_in, List.map_cons, List.map_nil, List.cons_append, List.nil_append, Nat.reduceSub, List.replicate, x_seq, x_ret, e_int, e_var, e_str, e_bin, e_p1, e_p2, List.getElem?_cons_zero, varR_ok, ok_bind, sub_int, ofO_some, seqR_ret, recv2, isStrV, if_true, e1, e2, List.length_map, split_lenL]
  refine (call_ret rfl).trans ?_
  congr 2
  omega

/-- how far a row goes: to its end, or to a closing tag -/
noncomputable def rowE : List Nat → Nat
  | [] => 0
  | c :: r => if (c == 10) = true then 0 else if ((c :: r).take 2 == [63, 62]) = true then 0 else rowE r + 1
theorem drop_succ {t : List Nat} {i c : Nat} {r : List Nat} (h : t.drop i = c :: r) : t.drop (i + 1) = r := (drop_consL h).2.2
theorem beq_str1 (c d : Nat) : ([c] == [d]) = (c == d) := by
  rw [Bool.eq_iff_iff]; simp
theorem row_loop {C : Calls} {N : Nat} {t : List Nat} {h : H} : ∀ (r : List Nat) (n at' : Nat), t.drop at' = r → rowE r < n →
    wloop (mev C (.and (.cmp .lt (.var 1) (.p1 .len (.var 0))) (.and (.cmp .ne (.idx (.var 0) (.var 1)) (.str [10])) (.cmp .ne (.slc (.var 0) (.var 1) (.bin .add (.var 1) (.int 2))) (.str [63, 62]))))) (mex C N (.seq (.aug 1 .add (.int 1)) .skip)) n [some (.str t), some (.int at')] h =
      .ok (.next [some (.str t), some (.int (at' + rowE r : Nat))]) h
  | [], n + 1, at', hr, hn => by
    have h1 := drop_nilL hr
    have h2 : decide ((at' : Int) < (t.length : Int)) = false := by rw [decide_eq_false_iff_not]; omega
    rw [wl_false (h' := h) (by simp only [e_int, e_var, e_str, e_bin, e_cmp, e_slc, e_p1, e_idx, e_and, List.getElem?_cons_zero, List.getElem?_cons_succ, varR_ok, ok_bind, add_int, ofO_some, nat2, slc_str, ne_str, lt_int, Option.map_some, andR_ok, len_str, Nat.add_sub_cancel_left, h2, Bool.false_eq_true, if_false])]
    rfl
  | c :: r, n + 1, at', hr, hn => by
    obtain ⟨e1, e2, e3⟩ := drop_consL hr
    have h2 : decide ((at' : Int) < (t.length : Int)) = true := by rw [decide_eq_true_eq]; omega
    cases b1 : c == 10 with
    | true =>
      rw [wl_false (h' := h) (by simp only [e_int, e_var, e_str, e_bin, e_cmp, e_slc, e_p1, e_idx, e_and, List.getElem?_cons_zero, List.getElem?_cons_succ, varR_ok, ok_bind, add_int, ofO_some, nat2, slc_str, ne_str, lt_int, Option.map_some, andR_ok, boolR_ok, len_str, Nat.add_sub_cancel_left, h2, idx_str h e1, beq_str1, b1, Bool.false_eq_true, if_false, Bool.not_true, ite_self])]
      simp only [rowE, b1, if_true, Nat.add_zero]
    | false =>
      cases b2 : ((c :: r).take 2 == [63, 62]) with
      | true =>
        rw [wl_false (h' := h) (by simp only [e_int, e_var, e_str, e_bin, e_cmp, e_slc, e_p1, e_idx, e_and, List.getElem?_cons_zero, List.getElem?_cons_succ, varR_ok, ok_bind, add_int, ofO_some, nat2, slc_str, ne_str, lt_int, Option.map_some, andR_ok, boolR_ok, len_str, Nat.add_sub_cancel_left, h2, idx_str h e1, beq_str1, b1, hr, b2, Bool.not_true, Bool.not_false, ite_self])]
        simp only [rowE, b1, b2, Bool.false_eq_true, if_true, ite_self, Nat.add_zero]
      | false =>
        rw [wl_true (h' := h) (h'' := h) (loc' := [some (.str t), some (.int (at' + 1 : Nat))]) (by simp only [e_int, e_var, e_str, e_bin, e_cmp, e_slc, e_p1, e_idx, e_and, List.getElem?_cons_zero, List.getElem?_cons_succ, varR_ok, ok_bind, add_int, ofO_some, nat2, slc_str, ne_str, lt_int, Option.map_some, andR_ok, boolR_ok, len_str, Nat.add_sub_cancel_left, h2, idx_str h e1, beq_str1, b1, hr, b2, if_true, Bool.not_false]) (by simp only [x_seq, x_skip, x_aug, e_int, e_var, List.getElem?_cons_zero, List.getElem?_cons_succ, List.set_cons_zero, List.set_cons_succ, varR_ok, ok_bind, augR_ok, nat1, seqR_next]), row_loop r n (at' + 1) e3 (by simp only [rowE, b1, b2, Bool.false_eq_true, if_false] at hn; omega)]
        simp only [rowE, b1, b2, Bool.false_eq_true, if_false, show at' + 1 + rowE r = at' + (rowE r + 1) by omega]
theorem sem_row_end {N k at' : Nat} {t : List Nat} {h : H} (hn : rowE (t.drop at') < N) : sem tab N (k + 1) 38 [.str t, .int at'] h = .ok (.int (at' + rowE (t.drop at') : Nat)) h := by
  rw [sem_call (d := f_row_end) rfl rfl]
  have := row_loop (C := sem tab N k) (N := N) (h := h) _ N at' rfl hn
  simp only [f_row_end, List.map_cons, List.map_nil, List.cons_append, List.nil_append, Nat.reduceSub, List.replicate, x_seq, x_ret, x_while, e_var, List.getElem?_cons_zero, List.getElem?_cons_succ, varR_ok, ok_bind, seqR_next, seqR_ret, this]
  exact call_ret rfl

/-! names -/
noncomputable def wordL (r : List Nat) : Nat := (r.takeWhile isWd).length
theorem name_loop {N k : Nat} {t : List Nat} {h : H} (hl : ∀ c ∈ t, c ∈ alpha) : ∀ (r : List Nat) (n at' : Nat), t.drop at' = r → wordL r < n →
    wloop (mev (sem tab N (k + 2)) (.and (.cmp .lt (.var 1) (.p1 .len (.var 0))) (.call 3 (.cons (.idx (.var 0) (.var 1)) .nil)))) (mex (sem tab N (k + 2)) N (.seq (.aug 1 .add (.int 1)) .skip)) n [some (.str t), some (.int at')] h =
      .ok (.next [some (.str t), some (.int (at' + wordL r : Nat))]) h
  | [], n + 1, at', hr, hn => by
    have h1 := drop_nilL hr
    have h2 : decide ((at' : Int) < (t.length : Int)) = false := by rw [decide_eq_false_iff_not]; omega
    rw [wl_false (h' := h) (by simp only [e_var, e_cmp, e_p1, e_idx, e_and, e_call, es_nil', es_cons', List.getElem?_cons_zero, List.getElem?_cons_succ, varR_ok, ok_bind, ofO_some, lt_int, Option.map_some, andR_ok, len_str, h2, Bool.false_eq_true, if_false])]
    rfl
  | c :: r, n + 1, at', hr, hn => by
    obtain ⟨e1, e2, e3⟩ := drop_consL hr
    have hc : c ∈ alpha := hl c (List.mem_of_mem_drop (i := at') (hr ▸ .head _))
    have h2 : decide ((at' : Int) < (t.length : Int)) = true := by rw [decide_eq_true_eq]; omega
    cases b1 : isWd c with
    | false =>
      rw [wl_false (h' := h) (by simp only [e_var, e_cmp, e_p1, e_idx, e_and, e_call, es_nil', es_cons', List.getElem?_cons_zero, List.getElem?_cons_succ, varR_ok, ok_bind, ofO_some, lt_int, Option.map_some, andR_ok, boolR_ok, len_str, h2, idx_str h e1, sem_name_sign hc, b1, ite_self])]
      simp only [wordL, List.takeWhile_cons, b1, List.length_nil, Bool.false_eq_true, if_false, Nat.add_zero]
    | true =>
      have e : wordL (c :: r) = wordL r + 1 := by simp only [wordL, List.takeWhile_cons, b1, List.length_cons, if_true]
      rw [wl_true (h' := h) (h'' := h) (loc' := [some (.str t), some (.int (at' + 1 : Nat))]) (by simp only [e_var, e_cmp, e_p1, e_idx, e_and, e_call, es_nil', es_cons', List.getElem?_cons_zero, List.getElem?_cons_succ, varR_ok, ok_bind, ofO_some, lt_int, Option.map_some, andR_ok, boolR_ok, len_str, h2, idx_str h e1, sem_name_sign hc, b1, if_true]) (by simp only [x_seq, x_skip, x_aug, e_int, e_var, List.getElem?_cons_zero, List.getElem?_cons_succ, List.set_cons_zero, List.set_cons_succ, varR_ok, ok_bind, augR_ok, nat1, seqR_next]), name_loop hl r n (at' + 1) e3 (by omega), e]
      simp only [show at' + 1 + wordL r = at' + (wordL r + 1) by omega]
theorem sem_read_name {N k at' : Nat} {t : List Nat} {h : H} (hl : ∀ c ∈ t, c ∈ alpha) (hn : wordL (t.drop at') < N) : sem tab N (k + 3) 4 [.str t, .int at'] h = .ok (.int (at' + wordL (t.drop at') : Nat)) h := by
  rw [sem_call (d := f_read_name) rfl rfl]
  have := name_loop (k := k) (N := N) (h := h) hl _ N at' rfl hn
  simp only [f_read_name, List.map_cons, List.map_nil, List.cons_append, List.nil_append, Nat.reduceSub, List.replicate, x_seq, x_ret, x_while, e_var, List.getElem?_cons_zero, List.getElem?_cons_succ, varR_ok, ok_bind, seqR_next, seqR_ret, this]
  exact call_ret rfl
end Mine
end
section
set_option Elab.async false
set_option linter.all false
namespace Mine
open P2

section
variable (C : Calls) (N : Nat) (loc : L) (h : H)
noncomputable def cmp2R (o : Option Bool) (h : H) (k : H → R V) : R V := ifR o (k h) (.ok (.bool false) h)
theorem cmp2R_some (b : Bool) (h : H) (k : H → R V) : cmp2R (some b) h k = if b = true then k h else .ok (.bool false) h := rfl
theorem e_cmp2 (o p : CO) (a b c : ME) : mev C (.cmp2 o p a b c) loc h = (mev C a loc h).bind fun x h => (mev C b loc h).bind fun y h => cmp2R (cmpV o h x y) h fun h => (mev C c loc h).bind fun z h => ofO ((cmpV p h y z).map .bool) h := rfl
theorem itemsR_some (vs : List V) (k : List V → R Fl) : itemsR (some vs) k = k vs := rfl
theorem x_for (x : Nat) (it : ME) (b : MS) : mex C N (.for x it b) loc h = (mev C it loc h).bind fun v h => if isRefV v = true then .stuck else itemsR (items h v) fun vs => floop (fun v loc h => mex C N b (loc.set x (some v)) h) vs loc h := rfl
noncomputable def tupLoop (C : Calls) (N : Nat) (is : List Nat) (b : MS) (v : V) (loc : L) (h : H) : R Fl := ofK ((tupOf v).bind fun ws => setAll is ws loc) fun loc => mex C N b loc h
theorem x_forT (is : List Nat) (it : ME) (b : MS) : mex C N (.forT is it b) loc h = (mev C it loc h).bind fun v h => if isRefV v = true then .stuck else itemsR (items h v) fun vs => floop (tupLoop C N is b) vs loc h := rfl
theorem e_attr (a : ME) (f : Nat) : mev C (.attr a f) loc h = (mev C a loc h).bind fun x h => ofO (attrV x f) h := rfl
theorem unpR_2 (i j : Nat) (a b : V) : unpR [i, j] loc (.tup [a, b]) h = .ok (.next ((loc.set i (some a)).set j (some b))) h := rfl
theorem unpR_3 (i j k : Nat) (a b c : V) : unpR [i, j, k] loc (.tup [a, b, c]) h = .ok (.next (((loc.set i (some a)).set j (some b)).set k (some c))) h := rfl
theorem fl_nil (body : V → L → H → R Fl) : floop body [] loc h = .ok (.next loc) h := rfl
noncomputable def flR (body : V → L → H → R Fl) (r : List V) (f : Fl) (h : H) : R Fl := seqR f h (floop body r)
theorem fl_cons (body : V → L → H → R Fl) (v : V) (r : List V) : floop body (v :: r) loc h = (body v loc h).bind (flR body r) := rfl
theorem flR_next (body : V → L → H → R Fl) (r : List V) : flR body r (.next loc) h = floop body r loc h := rfl
theorem flR_ret (body : V → L → H → R Fl) (r : List V) (v : V) : flR body r (.ret v) h = .ok (.ret v) h := rfl
theorem tupL_2 (i j : Nat) (b : MS) (x y : V) : tupLoop C N [i, j] b (.tup [x, y]) loc h = mex C N b ((loc.set i (some x)).set j (some y)) h := rfl
end
theorem noneR_eq (x : V) (h : H) : noneR x h = .ok (.bool (match x with | .none => true | _ => false)) h := rfl
theorem someR_eq (x : V) (h : H) : someR x h = .ok (.bool (match x with | .none => false | _ => true)) h := rfl
theorem mkR_3 (a b c : V) (h : H) : mkR [a, b, c] h = .ok (.tok a b c) h := rfl
theorem in_strs (h : H) (p : List Nat) (vs : List V) {ys : List (List Nat)} (e : strsOf vs = some ys) : cmpV .isin h (.str p) (.tup vs) = some (ys.any (· == p)) := by
  have q : inStrs vs p = some (ys.any (· == p)) := congrArg (Option.map _) e
  show pick none (pick (inStrs vs p) _) = _; rw [q]; rfl
theorem in_strsL (h : H) (p : List Nat) (vs : List V) {ys : List (List Nat)} (e : strsOf vs = some ys) : cmpV .isin h (.str p) (.lst vs) = some (ys.any (· == p)) := by
  have q : inStrs vs p = some (ys.any (· == p)) := congrArg (Option.map _) e
  show pick none (pick none (pick (inStrs vs p) _)) = _; rw [q]; rfl

/-! what the law's texts look like -/
noncomputable def bi (p c : Nat) : Bool :=
  if p == 60 then c == 63 else if p == 49 then c == 32 else if p == 36 then c == 98 else if c == 98 then false
  else if p == 42 then c == 47 || c == 63 || c == 32 else if p == 47 then !(c == 61) else true
noncomputable def okL : Nat → List Nat → Bool
  | _, [] => true
  | p, c :: r => alpha.contains c && bi p c && okL c r
noncomputable def cdL : List Nat → Bool
  | [] => true
  | c :: r => alpha.contains c && !(c == 98) && okL c r
theorem okL_mem : ∀ {t : List Nat} {p : Nat}, okL p t = true → ∀ c ∈ t, c ∈ alpha
  | c :: r, p, h, d, hd => by
    simp only [okL, Bool.and_eq_true, List.contains_iff_mem] at h
    rcases List.mem_cons.mp hd with rfl | hd
    · exact h.1.1
    · exact okL_mem h.2 d hd
theorem okL_drop : ∀ {t : List Nat} {p : Nat}, okL p t = true → ∀ n, ∃ q, okL q (t.drop n) = true
  | t, p, h, 0 => ⟨p, h⟩
  | [], p, h, n + 1 => ⟨p, rfl⟩
  | c :: r, p, h, n + 1 => by
    simp only [okL, Bool.and_eq_true] at h
    exact okL_drop h.2 n
theorem okL_cd {p : Nat} {r : List Nat} (h : okL p r = true) (hc : ∀ c s, r = c :: s → c ≠ 98) : cdL r = true := by
  cases r with
  | nil => rfl
  | cons c s =>
    simp only [okL, Bool.and_eq_true] at h
    simp only [cdL, h.1.1, h.2, Bool.and_true, Bool.true_and, Bool.not_eq_true', beq_eq_false_iff_ne]
    exact hc c s rfl
theorem okL_cd36 {p : Nat} {r : List Nat} (h : okL p r = true) (hp : p ≠ 36) : cdL r = true := okL_cd h fun c s e => by
  subst e
  rintro rfl
  simp only [okL, Bool.and_eq_true] at h
  have := h.1.2
  simp only [bi, show (p == 36) = false by simpa using hp] at this
  (repeat' split at this) <;> simp_all
theorem cd_cons {c : Nat} {r : List Nat} (h : cdL (c :: r) = true) : c ∈ alpha ∧ c ≠ 98 ∧ okL c r = true := by
  simp only [cdL, Bool.and_eq_true, List.contains_iff_mem, Bool.not_eq_true', beq_eq_false_iff_ne] at h
  exact ⟨h.1.1, h.1.2, h.2⟩
theorem okL_cons {p c : Nat} {r : List Nat} (h : okL p (c :: r) = true) : c ∈ alpha ∧ bi p c = true ∧ okL c r = true := by
  simp only [okL, Bool.and_eq_true, List.contains_iff_mem] at h
  exact ⟨h.1.1, h.1.2, h.2⟩

/-! numbers -/
noncomputable def dgV (s : List Nat) : Int := match s with
  | [49] => 1 | [97] => 10 | [98] => 11 | [99] => 12 | [100] => 13 | _ => 99
theorem sem_digit_of {N k c : Nat} {h : H} (hc : c ∈ alpha) : sem tab N (k + 1) 9 [.str [c]] h = .ok (.int (dgV [c])) h := by
  rw [sem_call (d := f_digit_of) rfl rfl]
  simp only [alpha, List.mem_cons, List.not_mem_nil, or_false] at hc
  rcases hc with rfl | rfl | rfl | rfl | rfl | rfl | rfl | rfl | rfl | rfl | rfl | rfl | rfl | rfl | rfl | rfl | rfl | rfl | rfl | rfl | rfl | rfl | rfl | rfl | rfl <;> exact call_ret rfl
theorem sem_digit_of0 {N k : Nat} {h : H} : sem tab N (k + 1) 9 [.str []] h = .ok (.int 99) h := by
  rw [sem_call (d := f_digit_of) rfl rfl]; exact call_ret rfl
/-- behind a number: a blank, or nothing -/
theorem one_behind {r : List Nat} (h : okL 49 r = true) : r = [] ∨ ∃ s, r = 32 :: s := by
  cases r with
  | nil => exact .inl rfl
  | cons c s =>
    refine .inr ⟨s, ?_⟩
    have := (okL_cons h).2.1
    simp [bi] at this
    rw [this]

theorem sem_digits_behind {N k at' : Nat} {t r : List Nat} {h : H} (hr : t.drop at' = 49 :: r) (ho : okL 49 r = true) (hN : 2 ≤ N) : sem tab N (k + 2) 60 [.str t, .int at', .int 10] h = .ok (.int (at' + 1 : Nat)) h := by
  rw [sem_call (d := f_digits_behind_lexnames) rfl rfl]
  obtain ⟨n, rfl⟩ : ∃ n, N = n + 2 := ⟨N - 2, by omega⟩
  have h1 : t.drop (at' + 1) = r := drop_succ hr
  have a49 : (49 : Nat) ∈ alpha := by decide
  have a32 : (32 : Nat) ∈ alpha := by decide
  have d1 : decide (dgV [49] < 10) = true := by decide
  have d2 : decide (dgV [32] < 10) = false := by decide
  have d3 : decide ((99 : Int) < 10) = false := by decide
  have q1 : (List.take 1 r == [95]) = false := by rcases one_behind ho with rfl | ⟨s, rfl⟩ <;> rfl
  have step : mex (sem tab (n + 2) (k + 1)) (n + 2) (.seq (.aug 1 .add (.int 1)) (.seq (.ite (.and (.cmp .eq (.slc (.var 0) (.var 1) (.bin .add (.var 1) (.int 1))) (.str [95])) (.cmp .lt (.call 9 (.cons (.slc (.var 0) (.bin .add (.var 1) (.int 1)) (.bin .add (.var 1) (.int 2))) .nil)) (.var 2))) (.seq (.aug 1 .add (.int 1)) .skip) .skip) .skip)) [some (.str t), some (.int at'), some (.int 10)] h = .ok (.next [some (.str t), some (.int (at' + 1 : Nat)), some (.int 10)]) h := by
    simp only [x_seq, x_ite, x_skip, x_aug, e_int, e_var, e_str, e_bin, e_cmp, e_slc, e_and, e_call, es_nil', es_cons', List.getElem?_cons_zero, List.getElem?_cons_succ, List.set_cons_zero, List.set_cons_succ, varR_ok, ok_bind, add_int, augR_ok, ofO_some, nat1, nat2, slc_str, eq_str, Option.map_some, truth_bool, ifR_some, andR_ok, seqR_next, Nat.add_sub_cancel_left, h1, q1, Bool.false_eq_true, if_false]
  have w1 : wloop (mev (sem tab (n + 2) (k + 1)) (.cmp .lt (.call 9 (.cons (.slc (.var 0) (.var 1) (.bin .add (.var 1) (.int 1))) .nil)) (.var 2))) (mex (sem tab (n + 2) (k + 1)) (n + 2) (.seq (.aug 1 .add (.int 1)) (.seq (.ite (.and (.cmp .eq (.slc (.var 0) (.var 1) (.bin .add (.var 1) (.int 1))) (.str [95])) (.cmp .lt (.call 9 (.cons (.slc (.var 0) (.bin .add (.var 1) (.int 1)) (.bin .add (.var 1) (.int 2))) .nil)) (.var 2))) (.seq (.aug 1 .add (.int 1)) .skip) .skip) .skip))) (n + 2) [some (.str t), some (.int at'), some (.int 10)] h = .ok (.next [some (.str t), some (.int (at' + 1 : Nat)), some (.int 10)]) h := by
    rw [wl_true (h' := h) (by simp only [e_int, e_var, e_bin, e_cmp, e_slc, e_call, es_nil', es_cons', List.getElem?_cons_zero, List.getElem?_cons_succ, varR_ok, ok_bind, add_int, ofO_some, nat1, slc_str, lt_int, Option.map_some, Nat.add_sub_cancel_left, hr, List.take_succ_cons, List.take_zero, sem_digit_of a49, d1]) step]
    rw [wl_false (h' := h)]
    rcases one_behind ho with rfl | ⟨s, rfl⟩
    · simp only [e_int, e_var, e_bin, e_cmp, e_slc, e_call, es_nil', es_cons', List.getElem?_cons_zero, List.getElem?_cons_succ, varR_ok, ok_bind, add_int, ofO_some, nat1, slc_str, lt_int, Option.map_some, Nat.add_sub_cancel_left, h1, List.take_nil, sem_digit_of0, d3]
    · simp only [e_int, e_var, e_bin, e_cmp, e_slc, e_call, es_nil', es_cons', List.getElem?_cons_zero, List.getElem?_cons_succ, varR_ok, ok_bind, add_int, ofO_some, nat1, slc_str, lt_int, Option.map_some, Nat.add_sub_cancel_left, h1, List.take_succ_cons, List.take_zero, sem_digit_of a32, d2]
  simp only [f_digits_behind_lexnames, List.map_cons, List.map_nil, List.cons_append, List.nil_append, Nat.reduceSub, List.replicate, x_seq, x_ret, x_while, e_var, List.getElem?_cons_zero, List.getElem?_cons_succ, varR_ok, ok_bind, seqR_next, seqR_ret, w1]
  exact call_ret rfl
theorem sem_digits_value {N k : Nat} {l : Int} {h : H} : sem tab N (k + 2) 61 [.str [49], .int 10, .int l] h = .ok (.int 1) h := by
  rw [sem_call (d := f_digits_value_lexnames) rfl rfl]
  have a49 : (49 : Nat) ∈ alpha := by decide
  have i1 : items h (.str [49]) = some [.str [49]] := rfl
  have d1 : decide ((10 : Int) ≤ dgV [49]) = false := by decide
  have d2 : binV .mul h (.int 0) (.int 10) = some (.int 0) := rfl
  have d4 : dgV [49] = 1 := rfl
  have q1 : (([49] : List Nat) == [95]) = false := rfl
  have g : sem tab N (k + 1) 1 [] h = .ok (.int 9223372036854775807) h := by
    rw [sem_call (d := f_greatest) rfl rfl]; exact call_ret rfl
  have d3 : decide ((9223372036854775807 : Int) < 1) = false := by decide
  simp only [f_digits_value_lexnames, x_for, itemsR_some, isRefV, fl_nil, fl_cons, flR_next, List.map_cons, List.map_nil, List.cons_append, List.nil_append, Nat.reduceSub, List.replicate, x_seq, x_ite, x_assign, x_ret, x_skip, x_raise, e_int, e_var, e_str, e_bin, e_cmp, e_call, es_nil', es_cons', List.getElem?_cons_zero, List.getElem?_cons_succ, List.set_cons_zero, List.set_cons_succ, varR_ok, ok_bind, ite_bind, add_int, ofO_some, ne_str, gt_int, ge_int, Option.map_some, truth_bool, ifR_some, seqR_next, seqR_ret, i1, sem_digit_of a49, q1, d2, d4, g, d3, Int.zero_add, Bool.false_eq_true, if_false, if_true, Bool.not_false]
  exact call_ret rfl
theorem sem_is_float {N k at' : Nat} {t r : List Nat} {h : H} (h1 : t.drop at' = r) (ho : okL 49 r = true) (h2 : ∀ c ∈ t, c ∈ alpha) : sem tab N (k + 2) 12 [.str t, .int at'] h = .ok (.bool false) h := by
  rw [sem_call (d := f_is_float) rfl rfl]
  have q1 : (List.take 1 r == [46]) = false := by rcases one_behind ho with rfl | ⟨s, rfl⟩ <;> rfl
  have q2 : [[101], [69]].any (· == List.take 1 r) = false := by rcases one_behind ho with rfl | ⟨s, rfl⟩ <;> rfl
  have q3 : [[43], [45]].any (· == List.take 1 (t.drop (at' + 1))) = false := by
    cases hd : t.drop (at' + 1) with
    | nil => rfl
    | cons c s =>
      have hc : c ∈ alpha := h2 c (List.mem_of_mem_drop (i := at' + 1) (hd ▸ .head _))
      show [[43], [45]].any (· == [c]) = false
      clear hd; revert c; decide
  have i1 : ∀ p, cmpV .isin h (.str p) (.tup [.str [43], .str [45]]) = some ([[43], [45]].any (· == p)) := fun p => rfl
  have i2 : ∀ p, cmpV .isin h (.str p) (.tup [.str [101], .str [69]]) = some ([[101], [69]].any (· == p)) := fun p => rfl
  simp only [f_is_float, List.map_cons, List.map_nil, List.cons_append, List.nil_append, Nat.reduceSub, List.replicate, x_seq, x_ite, x_assign, x_ret, x_skip, x_aug, e_bool, e_int, e_var, e_str, e_bin, e_cmp, e_slc, e_tup, e_and, e_call, es_nil', es_cons', List.getElem?_cons_zero, List.getElem?_cons_succ, List.set_cons_zero, List.set_cons_succ, varR_ok, ok_bind, add_int, augR_ok, ofO_some, nat1, slc_str, eq_str, Option.map_some, truth_bool, ifR_some, andR_ok, seqR_next, seqR_ret, Nat.add_sub_cancel_left, h1, q1, q3, i1, i2, q2, Bool.false_eq_true, if_false]
  exact call_ret rfl
theorem sem_read_number {N k at' : Nat} {l : Int} {t r : List Nat} {h : H} (hr : t.drop at' = 49 :: r) (ho : okL 49 r = true) (h2 : ∀ c ∈ t, c ∈ alpha) (hN : 2 ≤ N) : sem tab N (k + 4) 13 [.str t, .int at', .int l] h = .ok (.tup [.int 1, .int (at' + 1 : Nat)]) h := by
  rw [sem_call (d := f_read_number) rfl rfl]
  obtain ⟨e1, e2, e3⟩ := drop_consL hr
  have hl : ∀ c ∈ t, c < 128 := fun c hc => alpha_low (h2 c hc)
  have q1 : (List.map lowerC ((49 :: r).take 2) == [48, 120]) = false := by rcases one_behind ho with rfl | ⟨s, rfl⟩ <;> rfl
  have q2 : (List.map lowerC ((49 :: r).take 2) == [48, 98]) = false := by rcases one_behind ho with rfl | ⟨s, rfl⟩ <;> rfl
  have q3 : (List.map lowerC ((49 :: r).take 2) == [48, 111]) = false := by rcases one_behind ho with rfl | ⟨s, rfl⟩ <;> rfl
  have i1 : items h (.tup [.tup [.str [48, 120], .int 16], .tup [.str [48, 98], .int 2], .tup [.str [48, 111], .int 8]]) = some [.tup [.str [48, 120], .int 16], .tup [.str [48, 98], .int 2], .tup [.str [48, 111], .int 8]] := rfl
  have lo := low_str h (all_take hl at' 2)
  rw [hr] at lo
  have q4 : (([49] : List Nat) == [48]) = false := rfl
  simp only [f_read_number, x_forT, itemsR_some, isRefV, fl_nil, fl_cons, flR_next, tupL_2, List.map_cons, List.map_nil, List.cons_append, List.nil_append, Nat.reduceSub, List.replicate, x_seq, x_ite, x_assign, x_ret, x_skip, e_int, e_var, e_str, e_bin, e_cmp, e_slc, e_p1, e_idx, e_ite, e_tup, e_and, e_call, es_nil', es_cons', List.getElem?_cons_zero, List.getElem?_cons_succ, List.set_cons_zero, List.set_cons_succ, varR_ok, ok_bind, add_int, ofO_some, nat2, nat3, slc_str, eq_str, Option.map_some, truth_bool, ifR_some, andR_ok, seqR_next, seqR_ret, Nat.add_sub_cancel_left, hr, lo, i1, q1, q2, q3, sem_digits_behind hr ho hN, sem_is_float e3 ho h2, idx_str h e1, q4, show (49 :: r).take 1 = [49] from rfl, sem_digits_value, Bool.false_eq_true, if_false]
  exact call_ret rfl
end Mine
end
section
set_option Elab.async false
set_option linter.all false
namespace Mine
open P2

/-! cells at the heap's end -/
theorem backO_cell {h : H} {x : List V} {v w : V} (e : frz (h ++ [x]) h.length 9 v = some w) : backO h v (h ++ [x]) = some (w, h) := by
  unfold backO
  rw [if_neg (by simp), List.take_left' rfl, if_pos rfl, e]; rfl
theorem back_cell {h : H} {x : List V} {v w : V} (e : frz (h ++ [x]) h.length 9 v = some w) : back h v (h ++ [x]) = .ok w h := by unfold back; rw [backO_cell e]; rfl
theorem backPf_cell {h : H} {x : List V} {w : List Nat} {l : Int} : backPf h w l (h ++ [x]) = .pf w l h := by
  unfold backPf; rw [backO_cell (w := .none) rfl]; rfl
theorem cell_get (h : H) (x : List V) : (h ++ [x])[h.length]? = some x := by simp
theorem cell_set (h : H) (x y : List V) : (h ++ [x]).set h.length y = h ++ [y] := by simp
theorem append_last (h : H) (x : List V) (v : V) (e : x.length < big) : p2V .append (.ref h.length) v (h ++ [x]) = .ok .none (h ++ [x ++ [v]]) := by
  refine (p2_ok (q := (.none, (h ++ [x]).set h.length (x ++ [v]))) ?_).trans (congrArg (R.ok V.none) (cell_set _ _ _))
  show Option.bind ((h ++ [x])[h.length]?) _ = _; rw [cell_get]; exact if_pos e
noncomputable def chs (l : List Nat) : List V := l.map fun c => .str [c]
theorem chs_length (l : List Nat) : (chs l).length = l.length := by simp [chs]
theorem chs_snoc (l : List Nat) (c : Nat) : chs l ++ [.str [c]] = chs (l ++ [c]) := by simp [chs]
theorem join_chs : ∀ l, joinL (chs l) = some l
  | [] => rfl
  | c :: r => by show (joinL (chs r)).map _ = _; rw [join_chs r]; rfl
theorem join_last (h : H) (l : List Nat) (e : l.length ≤ big) : p2V .join (.str []) (.ref h.length) (h ++ [chs l]) = .ok (.str l) (h ++ [chs l]) := by
  refine p2_ok (q := (.str l, h ++ [chs l])) ?_
  show Option.bind ((h ++ [chs l])[h.length]?) _ = _; rw [cell_get]
  show Option.bind (joinL (chs l)) _ = _; rw [join_chs]; exact if_pos ⟨rfl, e⟩

/-! a text in quotes -/
noncomputable def qEnd : List Nat → Option Nat
  | [] => none
  | c :: r => if (c == 39) = true then some 0 else (qEnd r).map (· + 1)
theorem qEnd_lt : ∀ {r : List Nat} {k : Nat}, qEnd r = some k → k < r.length
  | c :: r, k, e => by
    unfold qEnd at e
    split at e
    · cases e; simp
    · obtain ⟨j, hj, rfl⟩ := Option.map_eq_some_iff.mp e
      have := qEnd_lt hj
      simp; omega
noncomputable def endW : List Nat := [115, 121, 110, 116, 97, 120, 32, 101, 114, 114, 111, 114, 44, 32, 117, 110, 101, 120, 112, 101, 99, 116, 101, 100, 32, 101, 110, 100, 32, 111, 102, 32, 102, 105, 108, 101]
noncomputable def sglB : MS := (.seq (.assign 4 (.idx (.var 0) (.var 1)))
    (.seq (.ite (.cmp .eq (.var 4) (.str [39]))
    (.seq (.ret (.tup (.cons (.p2 .join (.str []) (.var 3)) (.cons (.bin .add (.var 1) (.int 1)) .nil))))
    .skip)
    .skip)
    (.seq (.ite (.and (.cmp .eq (.var 4) (.str [92])) (.cmp .isin (.call 17 (.cons (.var 0) (.cons (.bin .add (.var 1) (.int 1)) .nil))) (.tup (.cons (.str [92]) (.cons (.str [39]) .nil)))))
    (.seq (.aug 1 .add (.int 1))
    (.seq (.assign 4 (.call 17 (.cons (.var 0) (.cons (.var 1) .nil))))
    .skip))
    .skip)
    (.seq (.expr (.p2 .append (.var 3) (.var 4)))
    (.seq (.aug 1 .add (.int 1))
    .skip)))))
theorem single_loop {C : Calls} {N : Nat} {t : List Nat} {l : Int} {h : H} (h2 : ∀ c ∈ t, c ∈ alpha) : ∀ (r : List Nat) (n p : Nat) (made : List Nat) (c0 : Option V), t.drop p = r → r.length < n → made.length + r.length < big →
    match qEnd r with
    | some k => wloop (mev C (.cmp .lt (.var 1) (.p1 .len (.var 0)))) (mex C N sglB) n [some (.str t), some (.int p), some (.int l), some (.ref h.length), c0] (h ++ [chs made]) =
        .ok (.ret (.tup [.str (made ++ r.take k), .int (p + k + 1 : Nat)])) (h ++ [chs (made ++ r.take k)])
    | none => ∃ q x c1, wloop (mev C (.cmp .lt (.var 1) (.p1 .len (.var 0)))) (mex C N sglB) n [some (.str t), some (.int p), some (.int l), some (.ref h.length), c0] (h ++ [chs made]) =
        .ok (.next [some (.str t), q, some (.int l), some (.ref h.length), c1]) (h ++ [x])
  | [], n + 1, p, made, c0, hr, hn, hb => by
    have h1 := drop_nilL hr
    have hd : decide ((p : Int) < (t.length : Int)) = false := by rw [decide_eq_false_iff_not]; omega
    exact ⟨_, _, _, wl_false (h' := h ++ [chs made]) (by simp only [e_var, e_cmp, e_p1, List.getElem?_cons_zero, List.getElem?_cons_succ, varR_ok, ok_bind, ofO_some, lt_int, Option.map_some, len_str, hd])⟩
  | c :: r, n + 1, p, made, c0, hr, hn, hb => by
    obtain ⟨e1, e2, e3⟩ := drop_consL hr
    have hd : decide ((p : Int) < (t.length : Int)) = true := by rw [decide_eq_true_eq]; omega
    have hc : c ∈ alpha := h2 c (List.mem_of_mem_drop (i := p) (hr ▸ .head _))
    have b2 : (c == 92) = false := alpha_all (P := fun c => (c == 92) = false) (by decide) hc
    simp only [List.length_cons] at hn hb
    have ht : mev C (.cmp .lt (.var 1) (.p1 .len (.var 0))) [some (.str t), some (.int p), some (.int l), some (.ref h.length), c0] (h ++ [chs made]) = .ok (.bool true) (h ++ [chs made]) := by simp only [e_var, e_cmp, e_p1, List.getElem?_cons_zero, List.getElem?_cons_succ, varR_ok, ok_bind, ofO_some, lt_int, Option.map_some, len_str, hd]
    unfold qEnd
    cases b1 : c == 39 with
    | true =>
      simp only [if_true, Nat.add_zero, List.take_zero, List.append_nil]
      exact wl_ret ht (by simp only [sglB, x_seq, x_ite, x_assign, x_ret, x_skip, e_int, e_var, e_str, e_bin, e_cmp, e_p2, e_idx, e_tup, es_nil', es_cons', List.getElem?_cons_zero, List.getElem?_cons_succ, List.set_cons_zero, List.set_cons_succ, varR_ok, ok_bind, add_int, ofO_some, nat1, eq_str, Option.map_some, truth_bool, ifR_some, seqR_next, seqR_ret, idx_str (h ++ [chs made]) e1, beq_str1, b1, if_true, recv2, isStrV, join_last h made (by omega)])
    | false =>
      have ap := append_last h (chs made) (.str [c]) (by rw [chs_length]; omega)
      rw [chs_snoc] at ap
      have step : mex C N sglB [some (.str t), some (.int p), some (.int l), some (.ref h.length), c0] (h ++ [chs made]) = .ok (.next [some (.str t), some (.int (p + 1 : Nat)), some (.int l), some (.ref h.length), some (.str [c])]) (h ++ [chs (made ++ [c])]) := by
        simp only [sglB, x_seq, x_ite, x_assign, x_ret, x_skip, x_expr, x_aug, e_int, e_var, e_str, e_bin, e_cmp, e_p2, e_idx, e_tup, e_and, e_call, es_nil', es_cons', List.getElem?_cons_zero, List.getElem?_cons_succ, List.set_cons_zero, List.set_cons_succ, varR_ok, ok_bind, ite_bind, add_int, augR_ok, ofO_some, nat1, eq_str, Option.map_some, truth_bool, ifR_some, andR_ok, seqR_next, idx_str (h ++ [chs made]) e1, beq_str1, b1, b2, Bool.false_eq_true, if_false, if_true, recv2, isRefV, ap]
      have ih := single_loop (C := C) (N := N) (l := l) (h := h) h2 r n (p + 1) (made ++ [c]) (some (.str [c])) e3 (by omega) (by rw [List.length_append]; simp; omega)
      rw [wl_true ht step]
      simp only [Bool.false_eq_true, if_false]
      cases hq : qEnd r with
      | some k =>
        rw [hq] at ih
        simp only [Option.map_some, List.take_succ_cons]
        rw [ih]
        simp only [List.append_assoc, List.cons_append, List.nil_append, show p + 1 + k + 1 = p + (k + 1) + 1 by omega]
      | none =>
        rw [hq] at ih
        exact ih
theorem sem_single {N k at' : Nat} {l : Int} {t r : List Nat} {h : H} (hr : t.drop at' = 39 :: r) (h2 : ∀ c ∈ t, c ∈ alpha) (hN : t.length < N) (hb : t.length < big) : sem tab N (k + 1) 20 [.str t, .int at', .int l] h =
    match qEnd r with
    | some j => .ok (.tup [.str (r.take j), .int (at' + 1 + j + 1 : Nat)]) h
    | none => .pf endW l h := by
  rw [sem_call (d := f_single) rfl rfl]
  have h1 := drop_succ hr
  have hlen : r.length ≤ t.length := by rw [← h1, List.length_drop]; omega
  have lp := single_loop (C := sem tab N k) (N := N) (l := l) (h := h) h2 r N (at' + 1) [] none h1 (by omega) (by simp; omega)
  have e0 : h ++ [chs []] = h ++ [[]] := rfl
  rw [e0] at lp
  unfold sglB at lp
  cases hq : qEnd r with
  | some j =>
    rw [hq] at lp
    simp only [f_single, List.map_cons, List.map_nil, List.cons_append, List.nil_append, Nat.reduceSub, List.replicate, x_seq, x_assign, x_aug, x_while, e_int, e_var, e_cell, es_nil', List.getElem?_cons_zero, List.getElem?_cons_succ, List.set_cons_zero, List.set_cons_succ, varR_ok, ok_bind, augR_ok, nat1, seqR_next, seqR_ret, lp]
    exact back_cell rfl
  | none =>
    rw [hq] at lp
    obtain ⟨q, x, c1, lp⟩ := lp
    simp only [f_single, List.map_cons, List.map_nil, List.cons_append, List.nil_append, Nat.reduceSub, List.replicate, x_seq, x_assign, x_aug, x_raiseEnd, x_while, e_int, e_var, e_cell, es_nil', List.getElem?_cons_zero, List.getElem?_cons_succ, List.set_cons_zero, List.set_cons_succ, varR_ok, ok_bind, pf_bind, augR_ok, nat1, seqR_next, lp, endR]
    exact backPf_cell
end Mine
end
section
set_option Elab.async false
set_option linter.all false
namespace Mine
open P2

theorem strsOf_map : ∀ l : List (List Nat), strsOf (l.map .str) = some l
  | [] => rfl
  | a :: r => by show (strsOf (r.map V.str)).map _ = _; rw [strsOf_map r]; rfl
theorem in_map (h : H) (p : List Nat) (l : List (List Nat)) : cmpV .isin h (.str p) (.tup (l.map .str)) = some (l.any (· == p)) := in_strs h p _ (strsOf_map l)
theorem in_mapL (h : H) (p : List Nat) (l : List (List Nat)) : cmpV .isin h (.str p) (.lst (l.map .str)) = some (l.any (· == p)) := in_strsL h p _ (strsOf_map l)

/-! signs -/
noncomputable def opsL : List (List Nat) := [[61, 61, 61], [33, 61, 61], [60, 61, 62], [42, 42, 61], [60, 60, 61], [62, 62, 61], [63, 63, 61], [63, 45, 62], [46, 46, 46], [61, 61], [33, 61], [60, 62], [60, 61], [62, 61], [38, 38], [124, 124], [63, 63], [43, 43], [45, 45], [43, 61], [45, 61], [42, 61], [47, 61], [46, 61], [37, 61], [38, 61], [124, 61], [94, 61], [61, 62], [45, 62], [58, 58], [60, 60], [62, 62], [42, 42], [59], [44], [40], [41], [91], [93], [123], [125], [61], [60], [62], [43], [45], [42], [47], [37], [46], [33], [126], [38], [124], [94], [63], [58], [64], [36]]
noncomputable def opsW : List (List Nat) := [[63, 63, 61], [60, 61, 62], [60, 60, 61], [62, 62, 61], [61, 61, 61], [63, 63], [60, 61], [62, 61], [61, 61], [61, 62], [60, 62], [60, 60], [62, 62]]
noncomputable def opA (r : List Nat) : List Nat := if opsL.any (· == r.take 3) = true then r.take 3 else if opsL.any (· == r.take 2) = true then r.take 2 else if opsL.any (· == r.take 1) = true then r.take 1 else []
noncomputable def opW (r : List Nat) : List Nat := if opsW.any (· == r.take 3) = true then r.take 3 else if opsW.any (· == r.take 2) = true then r.take 2 else r.take 1
noncomputable def isOp (c : Nat) : Bool := [60, 63, 61, 62, 47, 42, 59, 36].contains c
theorem op_mem {c : Nat} (hc : isOp c = true) : c ∈ [60, 63, 61, 62, 47, 42, 59, 36] := List.contains_iff_mem.mp hc
theorem any_mem (l : List (List Nat)) (p : List Nat) : l.any (· == p) = l.contains p := by
  rw [Bool.eq_iff_iff, List.any_eq_true, List.contains_iff_mem]
  exact ⟨fun ⟨x, hx, e⟩ => by rw [← beq_iff_eq.mp e]; exact hx, fun h => ⟨p, h, by simp⟩⟩
noncomputable def opChk (p : List Nat) : Bool := match p with | a :: b :: _ => !(isOp a && alpha.contains b && bi a b) || opsW.contains p | _ => true
theorem op_chk : opsL.all opChk = true := by decide
theorem op_sub : opsW.all (opsL.contains ·) = true := by decide
theorem op_more {c d : Nat} {s : List Nat} (hc : isOp c = true) (hd : d ∈ alpha) (b : bi c d = true) : opsL.any (· == c :: d :: s) = opsW.any (· == c :: d :: s) := by
  rw [any_mem, any_mem, Bool.eq_iff_iff]
  constructor
  · intro h
    have := List.all_eq_true.mp op_chk _ (List.contains_iff_mem.mp h)
    unfold opChk at this
    simpa only [hc, List.contains_iff_mem.mpr hd, b, Bool.and_self, Bool.not_true, Bool.false_or] using this
  · intro h
    exact List.all_eq_true.mp op_sub _ (List.contains_iff_mem.mp h)
theorem op_one1 : ∀ c ∈ [60, 63, 61, 62, 47, 42, 59, 36], opsL.any (· == [c]) = true ∧ opsW.any (· == [c]) = false := by decide
theorem op_same {c : Nat} {r : List Nat} (hc : isOp c = true) (ho : okL c r = true) : opA (c :: r) = opW (c :: r) := by
  obtain ⟨o1, o2⟩ := op_one1 c (op_mem hc)
  match r, ho with
  | [], _ => simp only [opA, opW, List.take_succ_cons, List.take_nil, o1, o2, if_true, Bool.false_eq_true, if_false]
  | d :: s, ho =>
    have m := fun s => op_more (s := s) hc (okL_cons ho).1 (okL_cons ho).2.1
    simp only [opA, opW, List.take_succ_cons, List.take_zero, o1, m, if_true]
    rfl
theorem opA_one {c : Nat} {r : List Nat} (hc : isOp c = true) : opA (c :: r) ≠ [] := by
  have one : ∀ c ∈ [60, 63, 61, 62, 47, 42, 59, 36], opsL.any (· == [c]) = true := by decide
  unfold opA
  simp only [List.take_succ_cons, List.take_zero, one c (op_mem hc), if_true]
  (repeat' split) <;> simp
theorem sem_operators {N k : Nat} {h : H} : sem tab N (k + 1) 5 [] h = .ok (.tup (opsL.map .str)) h := by
  rw [sem_call (d := f_operators) rfl rfl]; exact call_ret rfl
theorem add_zero_int (i : Nat) : ((i : Int) + 3 - i).toNat = 3 := by omega
theorem sem_operator_at {N k at' : Nat} {t : List Nat} {h : H} : sem tab N (k + 2) 6 [.str t, .int at'] h = .ok (.str (opA (t.drop at'))) h := by
  rw [sem_call (d := f_operator_at) rfl rfl]
  have i1 : items h (.tup [.int 3, .int 2, .int 1]) = some [.int 3, .int 2, .int 1] := rfl
  unfold opA
  cases b1 : opsL.any (· == (t.drop at').take 3) with
  | true =>
    simp only [f_operator_at, x_for, itemsR_some, isRefV, fl_cons, flR_ret, List.map_cons, List.map_nil, List.cons_append, List.nil_append, Nat.reduceSub, List.replicate, x_seq, x_ite, x_assign, x_ret, x_skip, e_int, e_var, e_bin, e_cmp, e_slc, e_tup, e_call, es_nil', es_cons', List.getElem?_cons_zero, List.getElem?_cons_succ, List.set_cons_zero, List.set_cons_succ, varR_ok, ok_bind, add_int, ofO_some, nat3, slc_str, Option.map_some, truth_bool, ifR_some, seqR_next, seqR_ret, Nat.add_sub_cancel_left, i1, sem_operators, in_map, b1, Bool.false_eq_true, if_false, if_true]
    exact call_ret rfl
  | false =>
  cases b2 : opsL.any (· == (t.drop at').take 2) with
  | true =>
    simp only [f_operator_at, x_for, itemsR_some, isRefV, fl_cons, flR_next, flR_ret, List.map_cons, List.map_nil, List.cons_append, List.nil_append, Nat.reduceSub, List.replicate, x_seq, x_ite, x_assign, x_ret, x_skip, e_int, e_var, e_bin, e_cmp, e_slc, e_tup, e_call, es_nil', es_cons', List.getElem?_cons_zero, List.getElem?_cons_succ, List.set_cons_zero, List.set_cons_succ, varR_ok, ok_bind, add_int, ofO_some, nat2, nat3, slc_str, Option.map_some, truth_bool, ifR_some, seqR_next, seqR_ret, Nat.add_sub_cancel_left, i1, sem_operators, in_map, b1, b2, Bool.false_eq_true, if_false, if_true]
    exact call_ret rfl
  | false =>
  cases b3 : opsL.any (· == (t.drop at').take 1) with
  | true =>
    simp only [f_operator_at, x_for, itemsR_some, isRefV, fl_cons, flR_next, flR_ret, List.map_cons, List.map_nil, List.cons_append, List.nil_append, Nat.reduceSub, List.replicate, x_seq, x_ite, x_assign, x_ret, x_skip, e_int, e_var, e_bin, e_cmp, e_slc, e_tup, e_call, es_nil', es_cons', List.getElem?_cons_zero, List.getElem?_cons_succ, List.set_cons_zero, List.set_cons_succ, varR_ok, ok_bind, add_int, ofO_some, nat1, nat2, nat3, slc_str, Option.map_some, truth_bool, ifR_some, seqR_next, seqR_ret, Nat.add_sub_cancel_left, i1, sem_operators, in_map, b1, b2, b3, Bool.false_eq_true, if_false, if_true]
    exact call_ret rfl
  | false =>
    simp only [f_operator_at, x_for, itemsR_some, isRefV, fl_nil, fl_cons, flR_next, List.map_cons, List.map_nil, List.cons_append, List.nil_append, Nat.reduceSub, List.replicate, x_seq, x_ite, x_assign, x_ret, x_skip, e_int, e_var, e_str, e_bin, e_cmp, e_slc, e_tup, e_call, es_nil', es_cons', List.getElem?_cons_zero, List.getElem?_cons_succ, List.set_cons_zero, List.set_cons_succ, varR_ok, ok_bind, add_int, ofO_some, nat1, nat2, nat3, slc_str, Option.map_some, truth_bool, ifR_some, seqR_next, seqR_ret, Nat.add_sub_cancel_left, i1, sem_operators, in_map, b1, b2, b3, Bool.false_eq_true, if_false]
    exact call_ret rfl
theorem sem_read_operator {N k at' : Nat} {l : Int} {t r : List Nat} {c : Nat} {h : H} (hr : t.drop at' = c :: r) (hc : isOp c = true) (ho : okL c r = true) : sem tab N (k + 3) 45 [.str t, .int at', .int l] h = .ok (.tup [.tok (.str [111, 112]) (.str (opW (c :: r))) (.int l), .int (at' + (opW (c :: r)).length : Nat)]) h := by
  rw [sem_call (d := f_read_operator) rfl rfl]
  obtain ⟨e1, e2, e3⟩ := drop_consL hr
  have q1 : ([c] == [40]) = false := (by decide : ∀ c ∈ [60, 63, 61, 62, 47, 42, 59, 36], ([c] == [40]) = false) c (op_mem hc)
  have i1 : cmpV .isin h (.str [c]) (.tup [.str [96], .str [92]]) = some ([[96], [92]].any (· == [c])) := rfl
  have q2 : [[96], [92]].any (· == [c]) = false := (by decide : ∀ c ∈ [60, 63, 61, 62, 47, 42, 59, 36], [[96], [92]].any (· == [c]) = false) c (op_mem hc)
  have os := op_same hc ho
  have q3 : (opW (c :: r) == []) = false := by
    rw [← os, beq_eq_false_iff_ne]; exact opA_one hc
  have q4 : (opW (c :: r) == [60, 62]) = false := by
    rw [beq_eq_false_iff_ne]
    intro e
    have : ∀ n, (c :: r).take n ≠ [60, 62] := fun n q => by
      rcases n with _ | _ | n
      · simp at q
      · simp at q
      · cases r with
        | nil => simp at q
        | cons d s =>
          simp only [List.take_succ_cons, List.cons.injEq] at q
          obtain ⟨rfl, rfl, _⟩ := q
          have := (okL_cons ho).2.1
          revert this; decide
    unfold opW at e
    (repeat' split at e)
    · exact this 3 e
    · exact this 2 e
    · exact this 1 e
  simp only [f_read_operator, List.map_cons, List.map_nil, List.cons_append, List.nil_append, Nat.reduceSub, List.replicate, x_seq, x_ite, x_assign, x_ret, x_skip, e_int, e_var, e_str, e_bin, e_cmp, e_p1, e_idx, e_ite, e_tup, e_call, e_mk, es_nil', es_cons', List.getElem?_cons_zero, List.getElem?_cons_succ, List.set_cons_zero, List.set_cons_succ, varR_ok, ok_bind, add_int, ofO_some, eq_str, Option.map_some, truth_bool, ifR_some, seqR_next, seqR_ret, len_str, idx_str h e1, q1, i1, q2, sem_operator_at, hr, os, q3, q4, mkR_3, Bool.false_eq_true, if_false]
  exact call_ret rfl
end Mine
end
section
set_option Elab.async false
set_option linter.all false
namespace Mine
open P2

theorem no_here {c : Nat} {r : List Nat} (ho : okL c r = true) : ((c :: r).take 3 == [60, 60, 60]) = false := by
  rw [beq_eq_false_iff_ne]
  intro q
  cases r with
  | nil => simp at q
  | cons d s =>
    simp only [List.take_succ_cons, List.cons.injEq] at q
    obtain ⟨rfl, rfl, _⟩ := q
    have := (okL_cons ho).2.1
    revert this; decide
theorem sem_heredoc_head {N k at' : Nat} {t r : List Nat} {c : Nat} {h : H} (hr : t.drop at' = c :: r) (ho : okL c r = true) : sem tab N (k + 1) 34 [.str t, .int at'] h = .ok .none h := by
  rw [sem_call (d := f_heredoc_head) rfl rfl]
  simp only [f_heredoc_head, List.map_cons, List.map_nil, List.cons_append, List.nil_append, Nat.reduceSub, List.replicate, x_seq, x_ite, x_ret, x_skip, e_none, e_int, e_var, e_str, e_bin, e_cmp, e_slc, List.getElem?_cons_zero, List.getElem?_cons_succ, varR_ok, ok_bind, add_int, ofO_some, nat3, slc_str, ne_str, Option.map_some, truth_bool, ifR_some, seqR_ret, Nat.add_sub_cancel_left, hr, no_here ho, if_true, Bool.not_false]
  exact call_ret rfl
theorem call_pf {h h' : H} {w : List Nat} {l : Int} (e : h'.length = h.length) : callR h (.pf w l h') = .pf w l h' := by
  show backPf h w l h' = _
  unfold backPf; rw [show backO h .none h' = some (.none, h') from if_pos e]; rfl
/-- a token that is a text -/
theorem sem_read_text {N k at' : Nat} {l : Int} {t r : List Nat} {c : Nat} {h : H} (hr : t.drop at' = c :: r) (h1 : cdL (c :: r) = true) (h2 : ∀ c ∈ t, c ∈ alpha) (hN : t.length < N) (hb : t.length < big) : sem tab N (k + 2) 44 [.str t, .int at', .int l] h =
    if (c == 39) = true then (match qEnd r with | some j => .ok (.tup [.tok (.str [115, 116, 114]) (.str (r.take j)) (.int l), .int (at' + 1 + j + 1 : Nat)]) h | none => .pf endW l h) else .ok .none h := by
  rw [sem_call (d := f_read_text) rfl rfl]
  obtain ⟨e1, e2, e3⟩ := drop_consL hr
  obtain ⟨c1, c2, c3⟩ := cd_cons h1
  have i1 : ∀ p, cmpV .isin h (.str p) (.tup [.str [98], .str [66]]) = some ([[98], [66]].any (· == p)) := fun p => rfl
  have q1 : [[98], [66]].any (· == [c]) = false := by
    have : ∀ c ∈ alpha, c ≠ 98 → [[98], [66]].any (· == [c]) = false := by decide
    exact this c c1 c2
  have q2 : (c == 34) = false := alpha_all (P := fun c => (c == 34) = false) (by decide) c1
  cases b1 : c == 39 with
  | true =>
    have ec : c = 39 := beq_iff_eq.mp b1
    subst ec
    have sg := sem_single (k := k) (l := l) (h := h) hr h2 hN hb
    cases hq : qEnd r with
    | some j =>
      rw [hq] at sg
      simp only [f_read_text, List.map_cons, List.map_nil, List.cons_append, List.nil_append, Nat.reduceSub, List.replicate, x_seq, x_ite, x_assign, x_ret, x_skip, x_aug, x_unpack, e_int, e_var, e_str, e_bin, e_cmp, e_idx, e_tup, e_and, e_call, e_mk, es_nil', es_cons', List.getElem?_cons_zero, List.getElem?_cons_succ, List.set_cons_zero, List.set_cons_succ, varR_ok, ok_bind, add_int, augR_ok, ofO_some, nat1, eq_str, Option.map_some, truth_bool, ifR_some, andR_ok, seqR_next, seqR_ret, idx_str h e1, i1, q1, beq_str1, b1, sg, unpR_2, mkR_3, Bool.false_eq_true, if_false, if_true]
      exact call_ret rfl
    | none =>
      rw [hq] at sg
      simp only [f_read_text, List.map_cons, List.map_nil, List.cons_append, List.nil_append, Nat.reduceSub, List.replicate, x_seq, x_ite, x_assign, x_skip, x_aug, x_unpack, e_int, e_var, e_str, e_bin, e_cmp, e_idx, e_tup, e_and, e_call, es_nil', es_cons', List.getElem?_cons_zero, List.getElem?_cons_succ, List.set_cons_zero, List.set_cons_succ, varR_ok, ok_bind, pf_bind, add_int, augR_ok, ofO_some, nat1, eq_str, Option.map_some, truth_bool, ifR_some, andR_ok, seqR_next, idx_str h e1, i1, q1, beq_str1, b1, sg, Bool.false_eq_true, if_false, if_true]
      exact call_pf rfl
  | false =>
    simp only [f_read_text, List.map_cons, List.map_nil, List.cons_append, List.nil_append, Nat.reduceSub, List.replicate, x_seq, x_ite, x_assign, x_ret, x_skip, x_aug, x_unpack, e_none, e_int, e_var, e_str, e_bin, e_cmp, e_idx, e_ite, e_tup, e_and, e_call, e_isnone, es_nil', es_cons', List.getElem?_cons_zero, List.getElem?_cons_succ, List.set_cons_zero, List.set_cons_succ, varR_ok, ok_bind, add_int, augR_ok, ofO_some, nat1, eq_str, Option.map_some, truth_bool, ifR_some, andR_ok, seqR_next, seqR_ret, idx_str h e1, i1, q1, beq_str1, b1, q2, sem_heredoc_head hr c3, noneR_eq, Bool.false_eq_true, if_false, if_true]
    exact call_ret rfl

/-- the token at a place of code that is no gap and no closing tag -/
noncomputable def tokA (c : Nat) (r : List Nat) : Option (List Nat × V × Nat) :=
  if (c == 39) = true then (qEnd r).map fun j => ([115, 116, 114], .str (r.take j), j + 2)
  else if isLet c = true then some ([110, 97, 109, 101], .str ((c :: r).take (wordL (c :: r))), wordL (c :: r))
  else if (c == 36 && !(wordL r == 0)) = true then some ([118, 97, 114], .str (r.take (wordL r)), 1 + wordL r)
  else if (c == 49) = true then some ([105, 110, 116], .int 1, 1)
  else some ([111, 112], .str (opW (c :: r)), (opW (c :: r)).length)
noncomputable def isGap (c : Nat) : Bool := isBl c || c == 35
theorem code_cases : ∀ c ∈ alpha, isGap c = false → c = 39 ∨ isLet c = true ∨ c = 36 ∨ c = 49 ∨ isOp c = true := by decide
theorem wordL_pos {c : Nat} {r : List Nat} (h : isLet c = true) : wordL (c :: r) = wordL r + 1 := by
  simp only [wordL, List.takeWhile_cons, isWd, h, Bool.true_or, if_true, List.length_cons]
theorem sem_read_token {N k at' : Nat} {l : Int} {t r : List Nat} {c : Nat} {h : H} (hr : t.drop at' = c :: r) (h1 : cdL (c :: r) = true) (hg : isGap c = false) (h2 : ∀ c ∈ t, c ∈ alpha) (hN : t.length + 2 < N) (hb : t.length < big) : sem tab N (k + 5) 46 [.str t, .int at', .int l] h =
    match tokA c r with | some (s, v, n) => .ok (.tup [.tok (.str s) v (.int l), .int (at' + n : Nat)]) h | none => .pf endW l h := by
  rw [sem_call (d := f_read_token) rfl rfl]
  obtain ⟨e1, e2, e3⟩ := drop_consL hr
  obtain ⟨c1, c2, c3⟩ := cd_cons h1
  have rt : sem tab N (k + 4) 44 _ _ = _ := sem_read_text (k := k + 2) (l := l) (h := h) hr h1 h2 (by omega) hb
  have len0 : (t.drop at').length ≤ t.length := by rw [List.length_drop]; omega
  have wl : ∀ s : List Nat, wordL s ≤ s.length := fun s => by unfold wordL; exact (List.takeWhile_sublist _).length_le
  have len1 : r.length + 1 ≤ t.length := by rw [hr] at len0; simpa using len0
  unfold tokA
  cases b1 : c == 39 with
  | true =>
    rw [b1] at rt
    simp only [if_true] at rt ⊢
    cases hq : qEnd r with
    | some j =>
      rw [hq] at rt
      simp only [f_read_token, List.map_cons, List.map_nil, List.cons_append, List.nil_append, Nat.reduceSub, List.replicate, x_seq, x_ite, x_assign, x_ret, x_skip, e_var, e_idx, e_call, e_notnone, es_nil', es_cons', List.getElem?_cons_zero, List.getElem?_cons_succ, List.set_cons_zero, List.set_cons_succ, varR_ok, ok_bind, ofO_some, Option.map_some, truth_bool, ifR_some, seqR_next, seqR_ret, idx_str h e1, rt, someR_eq, if_true]
      rw [show at' + 1 + j + 1 = at' + (j + 2) by omega]
      exact call_ret rfl
    | none =>
      rw [hq] at rt
      simp only [f_read_token, List.map_cons, List.map_nil, List.cons_append, List.nil_append, Nat.reduceSub, List.replicate, x_seq, x_assign, e_var, e_idx, e_call, es_nil', es_cons', List.getElem?_cons_zero, List.getElem?_cons_succ, List.set_cons_zero, List.set_cons_succ, varR_ok, ok_bind, pf_bind, ofO_some, seqR_next, idx_str h e1, rt, Option.map_none]
      exact call_pf rfl
  | false =>
  rw [b1] at rt
  simp only [Bool.false_eq_true, if_false] at rt
  have ns : sem tab N (k + 4) 2 _ _ = _ := sem_name_start (N := N) (k := k + 3) (h := h) c1
  cases b2 : isLet c with
  | true =>
    have rn : sem tab N (k + 4) 4 _ _ = _ := sem_read_name (k := k + 1) (at' := at') (h := h) (N := N) h2 (by rw [hr]; have := wl (c :: r); simp at this; omega)
    rw [hr] at rn
    simp only [f_read_token, List.map_cons, List.map_nil, List.cons_append, List.nil_append, Nat.reduceSub, List.replicate, x_seq, x_ite, x_assign, x_ret, x_skip, e_var, e_str, e_slc, e_idx, e_tup, e_call, e_mk, e_notnone, es_nil', es_cons', List.getElem?_cons_zero, List.getElem?_cons_succ, List.set_cons_zero, List.set_cons_succ, varR_ok, ok_bind, ofO_some, slc_str, truth_bool, ifR_some, seqR_next, seqR_ret, Nat.add_sub_cancel_left, idx_str h e1, rt, someR_eq, ns, b2, rn, mkR_3, hr, Bool.false_eq_true, if_false, if_true]
    exact call_ret rfl
  | false =>
  cases b3 : c == 36 with
  | true =>
    have ec : c = 36 := beq_iff_eq.mp b3
    subst ec
    cases r with
    | nil =>
      have rop : sem tab N (k + 4) 45 _ _ = _ := sem_read_operator (N := N) (k := k + 1) (l := l) (h := h) hr rfl c3
      have w0 : wordL [] = 0 := rfl
      have d0 : decide (dgV [36] < 10) = false := by decide
      simp only [f_read_token, List.map_cons, List.map_nil, List.cons_append, List.nil_append, Nat.reduceSub, List.replicate, x_seq, x_ite, x_assign, x_ret, x_skip, x_unpack, e_int, e_var, e_str, e_bin, e_cmp, e_idx, e_and, e_or, e_call, e_notnone, es_nil', es_cons', List.getElem?_cons_zero, List.getElem?_cons_succ, List.set_cons_zero, List.set_cons_succ, varR_ok, ok_bind, add_int, ofO_some, nat1, eq_str, lt_int, Option.map_some, truth_bool, ifR_some, andR_ok, orR_ok, boolR_ok, seqR_next, seqR_ret, idx_str h e1, rt, someR_eq, ns, b2, sem_sign_at, e3, List.take_nil, sem_name_start0, w0, sem_digit_of c1, d0, rop, show (36 == 49) = false from rfl, show (([36] : List Nat) == [46]) = false from rfl, show (([36] : List Nat) == [36]) = true from rfl, show ((0 : Nat) == 0) = true from rfl, Bool.false_eq_true, if_false, Bool.not_true, ite_self, Nat.add_zero]
      exact call_ret rfl
    | cons d s =>
      have hd : d = 98 := by
        have := (okL_cons c3).2.1
        simpa [bi] using this
      subst hd
      have rn : sem tab N (k + 4) 4 _ _ = _ := sem_read_name (k := k + 1) (at' := at' + 1) (h := h) (N := N) h2 (by rw [e3]; have := wl (98 :: s); simp at this; simp at len1; omega)
      rw [e3] at rn
      have ns2 : sem tab N (k + 4) 2 _ _ = _ := sem_name_start (N := N) (k := k + 3) (h := h) (c := 98) (by decide)
      have w1 : (wordL (98 :: s) == 0) = false := by rw [wordL_pos rfl, beq_eq_false_iff_ne]; omega
      simp only [f_read_token, List.map_cons, List.map_nil, List.cons_append, List.nil_append, Nat.reduceSub, List.replicate, x_seq, x_ite, x_assign, x_ret, x_skip, e_int, e_var, e_str, e_bin, e_cmp, e_slc, e_idx, e_tup, e_and, e_call, e_mk, e_notnone, es_nil', es_cons', List.getElem?_cons_zero, List.getElem?_cons_succ, List.set_cons_zero, List.set_cons_succ, varR_ok, ok_bind, add_int, ofO_some, nat1, slc_str, eq_str, Option.map_some, truth_bool, ifR_some, andR_ok, boolR_ok, seqR_next, seqR_ret, Nat.add_sub_cancel_left, idx_str h e1, rt, someR_eq, ns, b2, sem_sign_at, e3, List.take_succ_cons, List.take_zero, ns2, show isLet 98 = true from rfl, rn, mkR_3, w1, show (([36] : List Nat) == [36]) = true from rfl, Bool.false_eq_true, if_false, if_true, Bool.not_false]
      rw [show at' + 1 + wordL (98 :: s) = at' + (1 + wordL (98 :: s)) by omega]
      exact call_ret rfl
  | false =>
  cases b4 : c == 49 with
  | true =>
    have ec : c = 49 := beq_iff_eq.mp b4
    subst ec
    have d0 : decide (dgV [49] < 10) = true := by decide
    have rn : sem tab N (k + 4) 13 _ _ = _ := sem_read_number (k := k) (l := l) (h := h) (N := N) hr c3 h2 (by omega)
    simp only [f_read_token, List.map_cons, List.map_nil, List.cons_append, List.nil_append, Nat.reduceSub, List.replicate, x_seq, x_ite, x_assign, x_ret, x_skip, x_unpack, e_int, e_var, e_str, e_bin, e_cmp, e_idx, e_tup, e_and, e_or, e_call, e_mk, e_notnone, es_nil', es_cons', List.getElem?_cons_zero, List.getElem?_cons_succ, List.set_cons_zero, List.set_cons_succ, varR_ok, ok_bind, ite_bind, add_int, ofO_some, nat1, eq_str, lt_int, Option.map_some, truth_bool, ifR_some, andR_ok, orR_ok, boolR_ok, seqR_next, seqR_ret, idx_str h e1, rt, someR_eq, ns, b2, beq_str1, b3, sem_digit_of c1, d0, rn, unpR_2, mkR_3, Bool.false_and, Bool.false_eq_true, if_false, if_true]
    exact call_ret rfl
  | false =>
    have ho : isOp c = true := by
      rcases code_cases c c1 hg with q | q | q | q | q
      · rw [q] at b1; cases b1
      · rw [q] at b2; cases b2
      · rw [q] at b3; cases b3
      · rw [q] at b4; cases b4
      · exact q
    have rop : sem tab N (k + 4) 45 _ _ = _ := sem_read_operator (N := N) (k := k + 1) (l := l) (h := h) hr ho c3
    have d0 : decide (dgV [c] < 10) = false := by
      have : ∀ c ∈ [60, 63, 61, 62, 47, 42, 59, 36], decide (dgV [c] < 10) = false := by decide
      exact this c (op_mem ho)
    have d1 : (c == 46) = false := alpha_all (P := fun c => (c == 46) = false) (by decide) c1
    simp only [f_read_token, List.map_cons, List.map_nil, List.cons_append, List.nil_append, Nat.reduceSub, List.replicate, x_seq, x_ite, x_assign, x_ret, x_skip, x_unpack, e_int, e_var, e_str, e_bin, e_cmp, e_idx, e_and, e_or, e_call, e_notnone, es_nil', es_cons', List.getElem?_cons_zero, List.getElem?_cons_succ, List.set_cons_zero, List.set_cons_succ, varR_ok, ok_bind, add_int, ofO_some, nat1, eq_str, lt_int, Option.map_some, truth_bool, ifR_some, andR_ok, orR_ok, boolR_ok, seqR_next, seqR_ret, idx_str h e1, rt, someR_eq, ns, b2, beq_str1, b3, sem_digit_of c1, d0, d1, rop, Bool.false_and, Bool.false_eq_true, if_false]
    exact call_ret rfl
end Mine
end
section
set_option Elab.async false

set_option linter.all false
namespace Mine
open P2

/-! gaps -/
noncomputable def blN (r : List Nat) : Nat := (r.takeWhile isBl).length
theorem blN_cons (c : Nat) (r : List Nat) : blN (c :: r) = if isBl c = true then blN r + 1 else 0 := by
  unfold blN; rw [List.takeWhile_cons]; split <;> simp
theorem in_blank0 (h : H) : cmpV .isin h (.str []) (.tup [.str [32], .str [9], .str [10], .str [13]]) = some false := rfl
theorem bl_loop {N k : Nat} {t : List Nat} {h : H} {l : V} {b : V} : ∀ (r : List Nat) (n at' : Nat), t.drop at' = r → r.length < n →
    wloop (mev (sem tab N (k + 1)) (.cmp .isin (.call 17 (.cons (.var 0) (.cons (.var 1) .nil))) (.tup (.cons (.str [32]) (.cons (.str [9]) (.cons (.str [10]) (.cons (.str [13]) .nil))))))) (mex (sem tab N (k + 1)) N (.seq (.aug 1 .add (.int 1)) .skip)) n [some (.str t), some (.int at'), some l, some b, none, none] h =
      .ok (.next [some (.str t), some (.int (at' + blN r : Nat)), some l, some b, none, none]) h
  | [], n + 1, at', hr, hn => by
    rw [wl_false (h' := h) (by simp only [e_var, e_str, e_cmp, e_tup, e_call, es_nil', es_cons', List.getElem?_cons_zero, List.getElem?_cons_succ, varR_ok, ok_bind, ofO_some, Option.map_some, sem_sign_at, hr, List.take_nil, in_blank0])]
    rfl
  | c :: r, n + 1, at', hr, hn => by
    have e3 := drop_succ hr
    rw [blN_cons]
    cases b1 : isBl c with
    | false =>
      rw [wl_false (h' := h) (by simp only [e_var, e_str, e_cmp, e_tup, e_call, es_nil', es_cons', List.getElem?_cons_zero, List.getElem?_cons_succ, varR_ok, ok_bind, ofO_some, Option.map_some, sem_sign_at, hr, List.take_succ_cons, List.take_zero, in_blank, b1])]
      simp only [Bool.false_eq_true, if_false, Nat.add_zero]
    | true =>
      rw [wl_true (h' := h) (h'' := h) (loc' := [some (.str t), some (.int (at' + 1 : Nat)), some l, some b, none, none]) (by simp only [e_var, e_str, e_cmp, e_tup, e_call, es_nil', es_cons', List.getElem?_cons_zero, List.getElem?_cons_succ, varR_ok, ok_bind, ofO_some, Option.map_some, sem_sign_at, hr, List.take_succ_cons, List.take_zero, in_blank, b1]) (by simp only [x_seq, x_skip, x_aug, e_int, e_var, List.getElem?_cons_zero, List.getElem?_cons_succ, List.set_cons_zero, List.set_cons_succ, varR_ok, ok_bind, augR_ok, nat1, seqR_next]), bl_loop r n (at' + 1) e3 (by simp at hn; omega)]
      simp only [if_true, show at' + 1 + blN r = at' + (blN r + 1) by omega]

theorem st_next {C : Calls} {N : Nat} {a b : MS} {loc loc' : L} {h h0 h' : H} (e : mex C N a loc h = .ok (.next loc') h') : callR h0 (mex C N (.seq a b) loc h) = callR h0 (mex C N b loc' h') := by
  rw [x_seq, e]; rfl
theorem st_ret {C : Calls} {N : Nat} {a b : MS} {loc : L} {h h0 h' : H} {v : V} (e : mex C N a loc h = .ok (.ret v) h') : callR h0 (mex C N (.seq a b) loc h) = back h0 v h' := by
  rw [x_seq, e]; rfl
theorem st_pf {C : Calls} {N : Nat} {a b : MS} {loc : L} {h h0 h' : H} {w : List Nat} {l : Int} (e : mex C N a loc h = .pf w l h') : callR h0 (mex C N (.seq a b) loc h) = backPf h0 w l h' := by
  rw [x_seq, e]; rfl
section
variable {C : Calls} {N : Nat} {t : ME} {a b c : MS} {loc : L} {h h0 h' : H}
theorem st_if_f (e : mev C t loc h = .ok (.bool false) h') : callR h0 (mex C N (.seq (.ite t a .skip) c) loc h) = callR h0 (mex C N c loc h') := by
  rw [x_seq, x_ite, e, ok_bind, truth_bool, ifR_some, if_neg Bool.false_ne_true, x_skip, ok_bind, seqR_next]
theorem st_if_e (e : mev C t loc h = .ok (.bool false) h') : callR h0 (mex C N (.seq (.ite t a b) c) loc h) = callR h0 (mex C N (.seq b c) loc h') := by
  rw [x_seq, x_ite, e, ok_bind, truth_bool, ifR_some, if_neg Bool.false_ne_true, x_seq]
theorem st_if_t (e : mev C t loc h = .ok (.bool true) h') : callR h0 (mex C N (.seq (.ite t a b) c) loc h) = callR h0 (mex C N (.seq a c) loc h') := by
  rw [x_seq, x_ite, e, ok_bind, truth_bool, ifR_some, if_pos rfl, x_seq]
theorem st_assoc : callR h0 (mex C N (.seq (.seq a b) c) loc h) = callR h0 (mex C N (.seq a (.seq b c)) loc h) := by
  rw [x_seq, x_seq, x_seq]
  cases mex C N a loc h with
  | stuck => rfl
  | pf => rfl
  | ok f h1 => cases f with
    | ret v => rfl
    | next l1 => simp only [ok_bind, seqR_next, x_seq]
theorem st_skip : callR h0 (mex C N (.seq .skip c) loc h) = callR h0 (mex C N c loc h) := by
  rw [x_seq, x_skip]; rfl
end
theorem backPf_same {h h' : H} {w : List Nat} {l : Int} (e : h'.length = h.length) : backPf h w l h' = .pf w l h' := call_pf e
theorem m_p3 {C : Calls} {loc : L} {h h1 h2 h3 : H} {a b c : ME} {x y z : V} {p : P3} (e1 : mev C a loc h = .ok x h1) (hx : isStrV x = true) (e2 : mev C b loc h1 = .ok y h2) (e3 : mev C c loc h2 = .ok z h3) : mev C (.p3 p a b c) loc h = p3V p x y z h3 := by
  rw [e_p3, e1, ok_bind, if_pos hx, e2, ok_bind, e3, ok_bind]
theorem m_assign {C : Calls} {N : Nat} {i : Nat} {e : ME} {loc : L} {h h' : H} {v : V} (q : mev C e loc h = .ok v h') : mex C N (.assign i e) loc h = .ok (.next (loc.set i (some v))) h' := by
  rw [x_assign, q, ok_bind]
theorem m_p1 {C : Calls} {loc : L} {h h1 : H} {a : ME} {x : V} {p : P1} (e1 : mev C a loc h = .ok x h1) : mev C (.p1 p a) loc h = p1V p x h1 := by
  rw [e_p1, e1, ok_bind]
theorem m_bin {C : Calls} {loc : L} {h h1 h2 : H} {a b : ME} {x y z : V} {o : BO} (e1 : mev C a loc h = .ok x h1) (e2 : mev C b loc h1 = .ok y h2) (e3 : binV o h2 x y = some z) : mev C (.bin o a b) loc h = .ok z h2 := by
  rw [e_bin, e1, ok_bind, e2, ok_bind, e3, ofO_some]
theorem m_raise {C : Calls} {N : Nat} {loc : L} {h h1 h2 : H} {a b : ME} {w : List Nat} {l : Int} (e1 : mev C a loc h = .ok (.str w) h1) (e2 : mev C b loc h1 = .ok (.int l) h2) : mex C N (.raise a b) loc h = .pf w l h2 := by
  rw [x_raise, e1, ok_bind, e2, ok_bind]; rfl
theorem findFrom_at (p : List Nat) : ∀ (l : List Nat) (i : Nat), findFrom p l i = (findFrom p l 0).map (· + i)
  | [], i => by unfold findFrom; split <;> simp
  | c :: r, i => by
    unfold findFrom
    split
    · simp
    · rw [findFrom_at p r (i + 1), findFrom_at p r (0 + 1), Option.map_map]
      congr 1; funext x; simp only [Function.comp_apply]; omega
/-- where a comment ends -/
noncomputable def comE (r : List Nat) : Option Nat := (findFrom [42, 47] (r.drop 2) 0).map (· + 4)
noncomputable def isRowC (r : List Nat) : Bool := r.take 2 == [47, 47] || (r.take 2).take 1 == [35]
noncomputable def gapN (r : List Nat) : Option Nat :=
  if isRowC (r.drop (blN r)) = true then some (blN r + rowE (r.drop (blN r)))
  else if ((r.drop (blN r)).take 2 == [47, 42]) = true then (comE (r.drop (blN r))).map (blN r + ·) else some (blN r)
noncomputable def comW : List Nat := [85, 110, 116, 101, 114, 109, 105, 110, 97, 116, 101, 100, 32, 99, 111, 109, 109, 101, 110, 116, 32, 115, 116, 97, 114, 116, 105, 110, 103, 32, 108, 105, 110, 101, 32]
theorem digits_len : ∀ (b f n : Nat) (acc : List Char), (Nat.toDigitsCore b f n acc).length ≤ f + acc.length
  | b, 0, n, acc => by unfold Nat.toDigitsCore; omega
  | b, f + 1, n, acc => by
    unfold Nat.toDigitsCore
    dsimp only
    split
    · simp; omega
    · have := digits_len b f (n / b) (Nat.digitChar (n % b) :: acc)
      simp only [List.length_cons] at this
      omega
theorem textOf_len (i : Nat) : (textOf (i : Int)).length ≤ i + 1 := by
  have : textOf (i : Int) = (Nat.toDigits 10 i).map Char.toNat := by
    show ((toString (i : Int)).toList).map _ = _
    have : (toString (i : Int)) = String.ofList (Nat.toDigits 10 i) := rfl
    rw [this, String.toList_ofList]
  rw [this, List.length_map]
  have := digits_len 10 (i + 1) i []
  simpa [Nat.toDigits] using this
theorem comW_len : comW.length = 35 := rfl
theorem big_is : big = 1048576 := rfl
theorem comStr {h : H} {i : Nat} (hi : i < 100000) : binV .add h (.str comW) (.str (textOf (i : Int))) = some (.str (comW ++ textOf (i : Int))) := by
  have := textOf_len i
  show pick none (pick (if comW.length + (textOf (i : Int)).length ≤ big then some (V.str (comW ++ textOf (i : Int))) else none) _) = _
  have hb : ∀ a b : Nat, a = 35 → b ≤ i + 1 → a + b ≤ big := fun a b _ _ => by rw [big_is]; omega
  rw [if_pos (hb _ _ comW_len this)]; rfl
theorem comStr' {h : H} {i : Nat} (hi : i < 100000) : binV .add h (.str [85, 110, 116, 101, 114, 109, 105, 110, 97, 116, 101, 100, 32, 99, 111, 109, 109, 101, 110, 116, 32, 115, 116, 97, 114, 116, 105, 110, 103, 32, 108, 105, 110, 101, 32]) (.str (textOf (i : Int))) = some (.str (comW ++ textOf (i : Int))) := comStr hi
theorem small_is' {i : Nat} (hi : i < 100000) : small (i : Int) = true := by
  simp only [small, Bool.and_eq_true, decide_eq_true_eq]
  omega
theorem str_p1 {i : Int} {h : H} : p1O .str (.int i) h = if small i = true then some (.str (textOf i), h) else none := rfl
theorem str_small {h : H} {i : Nat} (hi : i < 100000) : p1V .str (.int i) h = .ok (.str (textOf i)) h := p1_ok (p := .str) (a := .int i) (q := (.str (textOf i), h)) (str_p1.trans (if_pos (small_is' hi)))
theorem find_str {t p : List Nat} {i : Nat} {h : H} (hi : i ≤ t.length) (hb : t.length < big) (hp : p ≠ []) : p3V .find (.str t) (.str p) (.int i) h = .ok (.int (match findFrom p (t.drop i) 0 with | some k => ((i + k : Nat) : Int) | none => -1)) h := by
  refine (p3_ok (p := .find) (a := .str t) (b := .str p) (c := .int i) (q := (.int (findL t p (i : Int).toNat), h)) (if_pos ⟨Int.natCast_nonneg i, Int.ofNat_le.mpr (Nat.le_of_lt (Nat.lt_of_le_of_lt hi hb)), hp⟩)).trans ?_
  rw [Int.toNat_natCast]
  unfold findL
  rw [if_pos hi, findFrom_at]
  cases findFrom p (t.drop i) 0 with
  | none => rfl
  | some k => simp only [Option.map_some, Nat.add_comm i k]
theorem rowE_le : ∀ r : List Nat, rowE r ≤ r.length
  | [] => Nat.le_refl _
  | c :: r => by
    unfold rowE
    have := rowE_le r
    (repeat' split) <;> simp <;> omega
theorem count_le (t : List Nat) (c : Nat) : t.count c ≤ t.length := List.count_le_length
theorem sem_pass_gap {N k at' l : Nat} {t : List Nat} {h : H} (ha : at' ≤ t.length) (h2 : ∀ c ∈ t, c ∈ alpha) (hN : t.length < N) (hb : t.length < big) (hl : l + t.length < 100000) : sem tab N (k + 2) 39 [.str t, .int at', .int l] h =
    match gapN (t.drop at') with
    | some n => .ok (.int (at' + n : Nat)) h
    | none => .pf (comW ++ textOf ((l + ((t.drop at').take (blN (t.drop at'))).count 10 : Nat) : Int)) ((l + ((t.drop at').take (blN (t.drop at'))).count 10 : Nat) : Int) h := by
  rw [sem_call (d := f_pass_gap) rfl rfl]
  generalize hr : t.drop at' = r
  have hrl : r.length ≤ t.length := by rw [← hr, List.length_drop]; omega
  have lp := bl_loop (N := N) (k := k) (h := h) (l := .int l) (b := .int at') r N at' hr (by omega)
  have hble : blN r ≤ r.length := (List.takeWhile_sublist _).length_le
  have hrl2 : at' + r.length = t.length := by rw [← hr, List.length_drop]; omega
  generalize hb' : blN r = b at lp hble
  have hr2 : t.drop (at' + b) = r.drop b := by rw [← hr, List.drop_drop]
  generalize hs : r.drop b = s at hr2
  have q0 : (s.take 2 == [35, 91]) = false := by
    rw [beq_eq_false_iff_ne]; intro e
    have : 91 ∈ s := List.mem_of_mem_take (e ▸ (by simp : 91 ∈ [35, 91]))
    have : 91 ∈ alpha := h2 91 (by rw [← hr2] at this; exact List.mem_of_mem_drop this)
    revert this; decide
  have hsl : s.length + (at' + b) = t.length := by rw [← hr2, List.length_drop]; omega
  have tk : (t.drop at').take (at' + b - at') = r.take b := by rw [hr, Nat.add_sub_cancel_left]
  unfold gapN isRowC
  rw [hb', hs]
  have re := sem_row_end (N := N) (k := k) (at' := at' + b) (t := t) (h := h) (by rw [hr2]; have := rowE_le s; omega)
  rw [hr2] at re
  simp only [f_pass_gap, List.map_cons, List.map_nil, List.cons_append, List.nil_append, Nat.reduceSub, List.replicate]
  refine (st_next (by simp only [x_assign, e_var, List.getElem?_cons_zero, List.getElem?_cons_succ, List.set_cons_zero, List.set_cons_succ, varR_ok, ok_bind] <;> rfl)).trans ?_
  refine (st_next (by rw [x_while]; exact lp)).trans ?_
  refine (st_next (by simp only [x_assign, e_int, e_var, e_bin, e_slc, List.getElem?_cons_zero, List.getElem?_cons_succ, List.set_cons_zero, List.set_cons_succ, varR_ok, ok_bind, add_int, ofO_some, nat2, slc_str, Nat.add_sub_cancel_left, hr2] <;> rfl)).trans ?_
  refine (st_if_f (by simp only [e_var, e_str, e_cmp, List.getElem?_cons_zero, List.getElem?_cons_succ, varR_ok, ok_bind, ofO_some, eq_str, Option.map_some, q0] <;> rfl)).trans ?_
  cases b1 : (s.take 2 == [47, 47]) with
  | true =>
    refine (st_if_t (by simp only [e_none, e_int, e_var, e_str, e_cmp, e_slc, e_or, List.getElem?_cons_zero, List.getElem?_cons_succ, varR_ok, ok_bind, ofO_some, slc_strR1, eq_str, Option.map_some, orR_ok, boolR_ok, b1, if_true] <;> rfl)).trans (st_assoc.trans ?_)
    refine (st_ret (by simp only [x_ret, e_var, e_call, es_nil', es_cons', List.getElem?_cons_zero, List.getElem?_cons_succ, varR_ok, ok_bind, re] <;> rfl)).trans ?_
    rw [show at' + b + rowE s = at' + (b + rowE s) by omega]
    simp only [Bool.true_or, if_true]
    exact back_same rfl
  | false =>
  cases b2 : ((s.take 2).take 1 == [35]) with
  | true =>
    refine (st_if_t (by simp only [e_none, e_int, e_var, e_str, e_cmp, e_slc, e_or, List.getElem?_cons_zero, List.getElem?_cons_succ, varR_ok, ok_bind, ofO_some, slc_strR1, eq_str, Option.map_some, orR_ok, boolR_ok, b1, b2, Bool.false_eq_true, ite_self] <;> rfl)).trans (st_assoc.trans ?_)
    refine (st_ret (by simp only [x_ret, e_var, e_call, es_nil', es_cons', List.getElem?_cons_zero, List.getElem?_cons_succ, varR_ok, ok_bind, re] <;> rfl)).trans ?_
    rw [show at' + b + rowE s = at' + (b + rowE s) by omega]
    simp only [Bool.or_true, if_true]
    exact back_same rfl
  | false =>
  refine (st_if_f (by simp only [e_none, e_int, e_var, e_str, e_cmp, e_slc, e_or, List.getElem?_cons_zero, List.getElem?_cons_succ, varR_ok, ok_bind, ofO_some, slc_strR1, eq_str, Option.map_some, orR_ok, boolR_ok, b1, b2, Bool.false_eq_true, if_false] <;> rfl)).trans ?_
  simp only [Bool.false_or, Bool.false_eq_true, if_false]
  cases b3 : (s.take 2 == [47, 42]) with
  | false =>
    refine (st_if_f (by simp only [e_var, e_str, e_cmp, List.getElem?_cons_zero, List.getElem?_cons_succ, varR_ok, ok_bind, ofO_some, eq_str, Option.map_some, b3] <;> rfl)).trans ?_
    refine (st_ret (by simp only [x_ret, e_var, List.getElem?_cons_zero, List.getElem?_cons_succ, varR_ok, ok_bind] <;> rfl)).trans ?_
    simp only [Bool.false_eq_true, if_false]
    exact back_same rfl
  | true =>
    have hs2 : 2 ≤ s.length := by
      have := congrArg List.length (beq_iff_eq.mp b3)
      rw [List.length_take] at this
      simp at this; omega
    have fd := find_str (t := t) (p := [42, 47]) (i := at' + b + 2) (h := h) (by omega) hb (by decide)
    have d2 : t.drop (at' + b + 2) = s.drop 2 := by rw [← hr2, List.drop_drop]
    rw [d2] at fd
    refine (st_if_t (by simp only [e_var, e_str, e_cmp, List.getElem?_cons_zero, List.getElem?_cons_succ, varR_ok, ok_bind, ofO_some, eq_str, Option.map_some, b3] <;> rfl)).trans (st_assoc.trans ?_)
    refine (st_next (m_assign ((m_p3 (by simp only [e_var, List.getElem?_cons_zero, varR_ok] <;> rfl) rfl (by simp only [e_str] <;> rfl) (by simp only [e_int, e_var, e_bin, List.getElem?_cons_zero, List.getElem?_cons_succ, varR_ok, ok_bind, add_int, ofO_some, nat2] <;> rfl)).trans fd))).trans (st_assoc.trans ?_)
    simp only [if_true]
    unfold comE
    cases hf : findFrom [42, 47] (s.drop 2) 0 with
    | some j =>
      have d3 : decide (((at' + b + 2 + j : Nat) : Int) < 0) = false := by rw [decide_eq_false_iff_not]; omega
      refine (st_if_f (by simp only [e_int, e_var, e_cmp, List.getElem?_cons_zero, List.getElem?_cons_succ, List.set_cons_zero, List.set_cons_succ, varR_ok, ok_bind, ofO_some, lt_int, Option.map_some, d3] <;> rfl)).trans ?_
      refine (st_ret (by simp only [x_seq, x_ret, e_int, e_var, e_bin, List.getElem?_cons_zero, List.getElem?_cons_succ, List.set_cons_zero, List.set_cons_succ, varR_ok, ok_bind, add_int, ofO_some, nat2, seqR_ret] <;> rfl)).trans ?_
      simp only [Option.map_some]
      rw [show at' + b + 2 + j + 2 = at' + (b + (j + 4)) by omega]
      exact back_same rfl
    | none =>
      have cnt : (r.take b).count 10 ≤ t.length := by
        have h1 := count_le (r.take b) 10
        have h2 := List.length_take_le b r
        omega
      have ri := sem_rows_in (N := N) (k := k) (t := r.take b) (h := h) (by rw [List.length_take]; omega)
      have d3 : decide ((-1 : Int) < 0) = true := rfl
      have e5 : ((l : Int) + ((r.take b).count 10 : Nat)) = ((l + (r.take b).count 10 : Nat) : Int) := by omega
      have cs := comStr' (h := h) (i := l + (r.take b).count 10) (by omega)
      have ss := str_small (h := h) (i := l + (r.take b).count 10) (by omega)
      simp only [Option.map_none]
      refine (st_if_t (by simp only [e_int, e_var, e_cmp, List.getElem?_cons_zero, List.getElem?_cons_succ, List.set_cons_zero, List.set_cons_succ, varR_ok, ok_bind, ofO_some, lt_int, Option.map_some, d3] <;> rfl)).trans (st_assoc.trans ?_)
      refine (st_next (by simp only [x_aug, e_var, e_slc, e_call, es_nil', es_cons', List.getElem?_cons_zero, List.getElem?_cons_succ, List.set_cons_zero, List.set_cons_succ, varR_ok, ok_bind, augR_ok, ofO_some, slc_str, Nat.add_sub_cancel_left, hr, ri, e5] <;> rfl)).trans (st_assoc.trans ?_)
      refine (st_pf (m_raise (m_bin (by simp only [e_str] <;> rfl) ((m_p1 (by simp only [e_var, List.getElem?_cons_zero, List.getElem?_cons_succ, varR_ok] <;> rfl)).trans ss) cs) (by simp only [e_var, List.getElem?_cons_zero, List.getElem?_cons_succ, varR_ok] <;> rfl))).trans ?_
      exact backPf_same rfl
end Mine
end
section
set_option Elab.async false
set_option linter.all false
namespace Mine
open P2

/-! outside of the code -/
noncomputable def outE : List Nat → Nat
  | [] => 0
  | c :: r => if (tagL (c :: r)).isSome = true then 0 else outE r + 1
theorem outE_le : ∀ r : List Nat, outE r ≤ r.length
  | [] => Nat.le_refl _
  | c :: r => by
    unfold outE
    have := outE_le r
    split <;> simp <;> omega
theorem tagL_pos {r : List Nat} {n : Nat} (h : tagL r = some n) : 3 ≤ n := by
  unfold tagL at h
  (repeat' split at h) <;> cases h <;> omega
theorem tagL_le {r : List Nat} {n : Nat} (h : tagL r = some n) : n ≤ r.length := by
  unfold tagL at h
  split at h
  · rename_i q
    have := congrArg List.length (beq_iff_eq.mp q)
    rw [List.length_take] at this
    cases h; simp at this; omega
  split at h
  · cases h
  rename_i q
  have q : ((r.take 5).map lowerC == [60, 63, 112, 104, 112]) = true := by simpa using q
  have l5 := congrArg List.length (beq_iff_eq.mp q)
  rw [List.length_map, List.length_take] at l5
  simp only [List.length_cons, List.length_nil] at l5
  split at h
  · rename_i q
    have := congrArg List.length (beq_iff_eq.mp q)
    rw [List.length_take, List.length_drop] at this
    cases h; simp at this; omega
  split at h
  · cases h; omega
  · rename_i c s e
    have := congrArg List.length e
    rw [List.length_drop] at this
    split at h
    · cases h; simp at this; omega
    · cases h
theorem tagL_nil : tagL [] = none := rfl
theorem beq_nat (a b : Nat) : ((a : Int) == (b : Int)) = (a == b) := by
  rw [Bool.eq_iff_iff]; simp only [beq_iff_eq]; omega
theorem lt_nat (a b : Nat) : decide ((a : Int) < (b : Int)) = decide (a < b) := by
  rw [Bool.eq_iff_iff]; simp only [decide_eq_true_eq]; omega
theorem out_loop {N k : Nat} {t : List Nat} {h : H} {l b f : V} (hl : ∀ c ∈ t, c < 128) : ∀ (r : List Nat) (n at' : Nat), t.drop at' = r → r.length < n →
    wloop (mev (sem tab N (k + 1)) (.and (.cmp .lt (.var 1) (.p1 .len (.var 0))) (.cmp .eq (.call 40 (.cons (.var 0) (.cons (.var 1) .nil))) (.var 1)))) (mex (sem tab N (k + 1)) N (.seq (.aug 1 .add (.int 1)) .skip)) n [some (.str t), some (.int at'), some l, some b, some f] h =
      .ok (.next [some (.str t), some (.int (at' + outE r : Nat)), some l, some b, some f]) h
  | [], n + 1, at', hr, hn => by
    have h1 := drop_nilL hr
    have h2 : decide (at' < t.length) = false := by rw [decide_eq_false_iff_not]; omega
    rw [wl_false (h' := h) (by simp only [e_var, e_cmp, e_p1, e_and, e_call, es_nil', es_cons', List.getElem?_cons_zero, List.getElem?_cons_succ, varR_ok, ok_bind, ofO_some, lt_int, Option.map_some, andR_ok, len_str, lt_nat, h2, Bool.false_eq_true, if_false])]
    rfl
  | c :: r, n + 1, at', hr, hn => by
    obtain ⟨e1, e2, e3⟩ := drop_consL hr
    have h2 : decide (at' < t.length) = true := by rw [decide_eq_true_eq]; omega
    have tg := sem_tag_at (N := N) (k := k) (at' := at') (h := h) hl
    rw [hr] at tg
    unfold outE
    cases ht : tagL (c :: r) with
    | some m =>
      have := tagL_pos ht
      rw [ht] at tg
      have b1 : (at' + m == at') = false := by rw [beq_eq_false_iff_ne]; omega
      rw [wl_false (h' := h) (by simp only [e_var, e_cmp, e_p1, e_and, e_call, es_nil', es_cons', List.getElem?_cons_zero, List.getElem?_cons_succ, varR_ok, ok_bind, ofO_some, eq_int, lt_int, Option.map_some, andR_ok, boolR_ok, len_str, lt_nat, h2, tg, beq_nat, b1, ite_self, Option.getD_some])]
      simp only [Option.isSome_some, if_true, Nat.add_zero]
    | none =>
      rw [ht] at tg
      have b1 : (at' == at') = true := by simp
      rw [wl_true (h' := h) (h'' := h) (loc' := [some (.str t), some (.int (at' + 1 : Nat)), some l, some b, some f]) (by simp only [e_var, e_cmp, e_p1, e_and, e_call, es_nil', es_cons', List.getElem?_cons_zero, List.getElem?_cons_succ, varR_ok, ok_bind, ofO_some, eq_int, lt_int, Option.map_some, andR_ok, boolR_ok, len_str, lt_nat, h2, tg, beq_nat, Option.getD_none, Nat.add_zero, b1, if_true, Option.getD_none, Nat.add_zero]) (by simp only [x_seq, x_skip, x_aug, e_int, e_var, List.getElem?_cons_zero, List.getElem?_cons_succ, List.set_cons_zero, List.set_cons_succ, varR_ok, ok_bind, augR_ok, nat1, seqR_next]), out_loop hl r n (at' + 1) e3 (by simp at hn; omega)]
      simp only [Option.isSome_none, Bool.false_eq_true, if_false, show at' + 1 + outE r = at' + (outE r + 1) by omega]

abbrev Tk := List Nat × V × Nat
noncomputable def tkV (x : Tk) : V := .tok (.str x.1) x.2.1 (.int x.2.2)
noncomputable def tpV (x : Tk) : V := .tup [.str x.1, x.2.1, .int x.2.2]
noncomputable def row (t : List Nat) (i : Nat) : Nat := 1 + (t.take i).count 10
theorem row_add (t : List Nat) (i n : Nat) : row t (i + n) = row t i + ((t.drop i).take n).count 10 := by
  unfold row; rw [List.take_add, List.count_append]; omega
noncomputable def htmlW : List Nat := [104, 116, 109, 108]
noncomputable def nameW : List Nat := [110, 97, 109, 101]
noncomputable def echoW : List Nat := [101, 99, 104, 111]
noncomputable def out1 (t : List Nat) (a : Nat) : List Tk := if outE (t.drop a) = 0 then [] else [(htmlW, .str ((t.drop a).take (outE (t.drop a))), row t a)]
noncomputable def out2 (t : List Nat) (a : Nat) : List Tk := if ((t.drop a).take 3 == [60, 63, 61]) = true then [(nameW, .str echoW, row t a)] else []
noncomputable def outEnd (t : List Nat) (a : Nat) : Nat := a + outE (t.drop a)
noncomputable def outS (t : List Nat) (a : Nat) : List Tk := out1 t a ++ out2 t (outEnd t a)
noncomputable def outN (t : List Nat) (a : Nat) : Nat := outEnd t a + (tagL (t.drop (outEnd t a))).getD 0
section
variable {C : Calls} {N : Nat} {e : ME} {b : MS} {loc : L} {h h0 h' : H} {v : V}
theorem m_expr (q : mev C e loc h = .ok v h') : mex C N (.expr e) loc h = .ok (.next loc) h' := by rw [x_expr, q, ok_bind]
theorem m_p2 {h1 h2 : H} {p : P2} {a b : ME} {x y : V} (e1 : mev C a loc h = .ok x h1) (hx : recv2 p x = true) (e2 : mev C b loc h1 = .ok y h2) : mev C (.p2 p a b) loc h = p2V p x y h2 := by
  rw [e_p2, e1, ok_bind, if_pos hx, e2, ok_bind]
end
theorem sem_pass_inline {N k at' : Nat} {t : List Nat} {h : H} {x : List V} (hl : ∀ c ∈ t, c < 128) (ha : at' ≤ t.length) (hN : t.length < N) (hb : t.length < big) (hx : x.length + 2 < big) :
    sem tab N (k + 2) 41 [.str t, .int at', .int (row t at' : Nat), .ref h.length] (h ++ [x]) = .ok (.int (outN t at' : Nat)) (h ++ [x ++ (outS t at').map tkV]) := by
  rw [sem_call (d := f_pass_inline) rfl rfl]
  have lp := out_loop (N := N) (k := k) (h := h ++ [x]) (l := .int (row t at' : Nat)) (b := .ref h.length) (f := .int at') hl (t.drop at') N at' rfl (by rw [List.length_drop]; omega)
  have el := outE_le (t.drop at')
  have e5 := row_add t at' (outE (t.drop at'))
  have tg := fun h => sem_tag_at (N := N) (k := k) (at' := at' + outE (t.drop at')) (h := h) hl
  simp only [f_pass_inline, List.map_cons, List.map_nil, List.cons_append, List.nil_append, Nat.reduceSub, List.replicate]
  refine (st_next (by simp only [x_assign, e_var, List.getElem?_cons_zero, List.getElem?_cons_succ, List.set_cons_zero, List.set_cons_succ, varR_ok, ok_bind] <;> rfl)).trans ?_
  refine (st_next (by rw [x_while]; exact lp)).trans ?_
  unfold outN outS outEnd out1 out2
  have a2 := row_add t at' (outE (t.drop at'))
  generalize hE : outE (t.drop at') = E at lp el e5 tg a2
  have fin : ∀ (y : List V), callR (h ++ [x]) (mex (sem tab N (k + 1)) N (.seq (.ret (.call 40 (.cons (.var 0) (.cons (.var 1) .nil)))) .skip) [some (.str t), some (.int (at' + E : Nat)), some (.int (row t at' : Nat)), some (.ref h.length), some (.int at')] (h ++ [y])) = .ok (.int (at' + E + (tagL (t.drop (at' + E))).getD 0 : Nat)) (h ++ [y]) := fun y => by
    refine (st_ret (by simp only [x_ret, e_var, e_call, es_nil', es_cons', List.getElem?_cons_zero, List.getElem?_cons_succ, varR_ok, ok_bind, tg] <;> rfl)).trans ?_
    exact back_same (by simp)
  have ech : ∀ (y : List V), y.length < big → callR (h ++ [x]) (mex (sem tab N (k + 1)) N (.seq (.ite (.cmp .eq (.slc (.var 0) (.var 1) (.bin .add (.var 1) (.int 3))) (.str [60, 63, 61])) (.seq (.expr (.p2 .append (.var 3) (.mk (.cons (.str [110, 97, 109, 101]) (.cons (.str [101, 99, 104, 111]) (.cons (.bin .add (.var 2) (.call 18 (.cons (.slc (.var 0) (.var 4) (.var 1)) .nil))) .nil)))))) .skip) .skip) (.seq (.ret (.call 40 (.cons (.var 0) (.cons (.var 1) .nil)))) .skip)) [some (.str t), some (.int (at' + E : Nat)), some (.int (row t at' : Nat)), some (.ref h.length), some (.int at')] (h ++ [y])) =
      .ok (.int (at' + E + (tagL (t.drop (at' + E))).getD 0 : Nat)) (h ++ [y ++ (if ((t.drop (at' + E)).take 3 == [60, 63, 61]) = true then [(nameW, V.str echoW, row t (at' + E))] else []).map tkV]) := fun y hy => by
    cases b1 : ((t.drop (at' + E)).take 3 == [60, 63, 61]) with
    | false =>
      refine (st_if_f (by simp only [e_int, e_var, e_str, e_bin, e_cmp, e_slc, List.getElem?_cons_zero, List.getElem?_cons_succ, varR_ok, ok_bind, add_int, ofO_some, nat3, slc_str, eq_str, Option.map_some, Nat.add_sub_cancel_left, b1] <;> rfl)).trans ?_
      simp only [Bool.false_eq_true, if_false, List.map_nil, List.append_nil]
      exact fin y
    | true =>
      have ri := sem_rows_in (N := N) (k := k) (t := (t.drop at').take E) (h := h ++ [y]) (by rw [List.length_take, List.length_drop]; omega)
      refine (st_if_t (by simp only [e_int, e_var, e_str, e_bin, e_cmp, e_slc, List.getElem?_cons_zero, List.getElem?_cons_succ, varR_ok, ok_bind, add_int, ofO_some, nat3, slc_str, eq_str, Option.map_some, Nat.add_sub_cancel_left, b1] <;> rfl)).trans (st_assoc.trans ?_)
      have e6 : ((row t at' : Nat) : Int) + ((((t.drop at').take E).count 10 : Nat) : Int) = ((row t (at' + E) : Nat) : Int) := by omega
      refine (st_next (m_expr ((m_p2 (by simp only [e_var, List.getElem?_cons_zero, List.getElem?_cons_succ, varR_ok] <;> rfl) rfl (by simp only [e_var, e_str, e_bin, e_slc, e_call, e_mk, es_nil', es_cons', List.getElem?_cons_zero, List.getElem?_cons_succ, varR_ok, ok_bind, add_int, ofO_some, slc_str, Nat.add_sub_cancel_left, ri, mkR_3, e6] <;> rfl)).trans (append_last h y _ hy)))).trans (st_skip.trans ?_)
      refine (fin _).trans ?_
      simp only [if_true]
      rfl
  cases hz : E with
  | zero =>
    rw [hz] at ech fin
    have d1 : decide (at' < at' + 0) = false := by simp
    refine (st_if_f (by simp only [e_var, e_cmp, List.getElem?_cons_zero, List.getElem?_cons_succ, varR_ok, ok_bind, ofO_some, gt_int, Option.map_some, lt_nat, d1] <;> rfl)).trans ?_
    refine (ech x (by omega)).trans ?_
    simp only [if_true, List.nil_append]
  | succ n =>
    have d1 : decide (at' < at' + (n + 1)) = true := by simp
    rw [hz] at ech fin
    refine (st_if_t (by simp only [e_var, e_cmp, List.getElem?_cons_zero, List.getElem?_cons_succ, varR_ok, ok_bind, ofO_some, gt_int, Option.map_some, lt_nat, d1] <;> rfl)).trans (st_assoc.trans ?_)
    refine (st_next (m_expr ((m_p2 (by simp only [e_var, List.getElem?_cons_zero, List.getElem?_cons_succ, varR_ok] <;> rfl) rfl (by simp only [e_var, e_str, e_slc, e_mk, es_nil', es_cons', List.getElem?_cons_zero, List.getElem?_cons_succ, varR_ok, ok_bind, ofO_some, slc_str, Nat.add_sub_cancel_left, mkR_3] <;> rfl)).trans (append_last h x _ (by omega))))).trans (st_skip.trans ?_)
    refine (ech _ (by simp; omega)).trans ?_
    simp only [show n + 1 ≠ 0 by omega, if_false, List.map_append, List.map_cons, List.map_nil, List.append_assoc]
    rfl
end Mine
end
section
set_option Elab.async false
set_option linter.all false
namespace Mine
open P2

/-! the law's own cutting -/
theorem sem_law_row {N k at' : Nat} {t : List Nat} {h : H} : sem tab N (k + 1) 52 [.str t, .int at'] h = .ok (.int (row t at' : Nat)) h := by
  rw [sem_call (d := f_law_row) rfl rfl]
  simp only [f_law_row, List.map_cons, List.map_nil, List.cons_append, List.nil_append, Nat.reduceSub, List.replicate]
  have c1 : p2V .count (.str (t.take at')) (.str [10]) h = .ok (.int ((t.take at').count 10 : Nat)) h := rfl
  refine (st_ret (v := .int (row t at' : Nat)) (by simp only [x_ret, e_none, e_int, e_var, e_str, e_bin, e_slc, e_p2, List.getElem?_cons_zero, List.getElem?_cons_succ, varR_ok, ok_bind, add_int, ofO_some, slc_strR, recv2, isStrV, if_true, c1]; rw [row]; congr 3)).trans ?_
  exact back_same rfl
theorem notin_blank (h : H) (c : Nat) : cmpV .notin h (.str [c]) (.str [32, 9, 13, 10]) = some (!isBl c) := by
  show some (!([32, 9, 13, 10].contains c)) = _
  congr 2
  rw [Bool.eq_iff_iff, List.contains_iff_mem, isBl, decide_eq_true_eq]
  simp; omega
theorem in_blankS (h : H) (c : Nat) : cmpV .isin h (.str [c]) (.str [32, 9, 13, 10]) = some (isBl c) := by
  show some ([32, 9, 13, 10].contains c) = _
  congr 1
  rw [Bool.eq_iff_iff, List.contains_iff_mem, isBl, decide_eq_true_eq]
  simp; omega
theorem idx0_str (h : H) (c : Nat) (r : List Nat) : idxV h (.str (c :: r)) (.int 0) = some (.str [c]) := rfl
theorem take_ne {r : List Nat} {c : Nat} {s : List Nat} (h : r = c :: s) (n : Nat) : (r.take (n + 1) == []) = false := by
  subst h; rfl
theorem sem_law_tag {N k at' : Nat} {t : List Nat} {h : H} (hl : ∀ c ∈ t, c < 128) : sem tab N (k + 1) 51 [.str t, .int at'] h = .ok (.int (match tagL (t.drop at') with | some n => ((at' + n : Nat) : Int) | none => -1)) h := by
  rw [sem_call (d := f_law_tag) rfl rfl]
  have d5 : (t.drop at').drop 5 = t.drop (at' + 5) := List.drop_drop ..
  simp only [f_law_tag, List.map_cons, List.map_nil, List.cons_append, List.nil_append, Nat.reduceSub, List.replicate]
  cases b1 : ((t.drop at').take 3 == [60, 63, 61]) with
  | true =>
    refine (st_if_t (by simp only [e_int, e_var, e_str, e_bin, e_cmp, e_slc, List.getElem?_cons_zero, List.getElem?_cons_succ, varR_ok, ok_bind, add_int, ofO_some, nat3, slc_str, eq_str, Option.map_some, Nat.add_sub_cancel_left, b1] <;> rfl)).trans (st_assoc.trans ?_)
    refine (st_ret (by simp only [x_ret, e_int, e_var, e_bin, List.getElem?_cons_zero, List.getElem?_cons_succ, varR_ok, ok_bind, add_int, ofO_some, nat3] <;> rfl)).trans ?_
    simp only [tagL, b1, if_true]
    exact back_same rfl
  | false =>
  have e57 : at' + 7 - (at' + 5) = 2 := by omega
  refine (st_if_f (by simp only [e_int, e_var, e_str, e_bin, e_cmp, e_slc, List.getElem?_cons_zero, List.getElem?_cons_succ, varR_ok, ok_bind, add_int, ofO_some, nat3, slc_str, eq_str, Option.map_some, Nat.add_sub_cancel_left, b1] <;> rfl)).trans ?_
  refine (st_next (by simp only [x_assign, e_int, e_var, e_bin, e_slc, List.getElem?_cons_zero, List.getElem?_cons_succ, List.set_cons_zero, List.set_cons_succ, varR_ok, ok_bind, add_int, ofO_some, nat5, nat7, slc_str, e57] <;> rfl)).trans ?_
  cases b2 : (((t.drop at').take 5).map lowerC == [60, 63, 112, 104, 112]) with
  | false =>
    refine (st_if_t (by simp only [e_int, e_var, e_str, e_bin, e_cmp, e_slc, e_p1, e_idx, e_and, e_or, List.getElem?_cons_zero, List.getElem?_cons_succ, varR_ok, ok_bind, ite_bind, add_int, ofO_some, nat5, slc_str, ne_str, Option.map_some, andR_ok, orR_ok, boolR_ok, Nat.add_sub_cancel_left, low_str h (all_take hl _ _), b2, if_true, Bool.not_false] <;> rfl)).trans (st_assoc.trans ?_)
    refine (st_ret (by simp only [x_ret, e_int, e_neg, ok_bind, e_neg, negR] <;> rfl)).trans ?_
    simp only [tagL, b1, b2, Bool.false_eq_true, if_false, if_true, Bool.not_false]
    exact back_same rfl
  | true =>
  cases hd : t.drop (at' + 5) with
  | nil =>
    refine (st_if_f (by simp only [e_int, e_var, e_str, e_bin, e_cmp, e_slc, e_p1, e_idx, e_and, e_or, List.getElem?_cons_zero, List.getElem?_cons_succ, varR_ok, ok_bind, add_int, ofO_some, nat5, slc_str, ne_str, Option.map_some, andR_ok, orR_ok, boolR_ok, Nat.add_sub_cancel_left, low_str h (all_take hl _ _), b2, List.take_nil, show (([] : List Nat) == []) = true from rfl, Bool.false_eq_true, if_false, Bool.not_true] <;> rfl)).trans ?_
    refine (st_ret (by simp only [x_ret, e_none, e_int, e_var, e_str, e_bin, e_cmp, e_slc, e_p1, e_ite, List.getElem?_cons_zero, List.getElem?_cons_succ, varR_ok, ok_bind, add_int, ofO_some, nat5, slc_strR1, eq_str, Option.map_some, truth_bool, ifR_some, len_str, List.take_nil, show (([] : List Nat) == [13, 10]) = false from rfl, List.length_nil, Bool.false_eq_true, if_false] <;> rfl)).trans ?_
    simp only [tagL, d5, hd, b1, b2, List.take_nil, show (([] : List Nat) == [13, 10]) = false from rfl, Bool.false_eq_true, if_false, Bool.not_true]
    exact back_same rfl
  | cons c r =>
    have tk : (c :: r).take 2 = c :: r.take 1 := rfl
    have ne : (c :: r.take 1 == []) = false := rfl
    cases b4 : isBl c with
    | false =>
      refine (st_if_t (by simp only [e_int, e_var, e_str, e_bin, e_cmp, e_slc, e_p1, e_idx, e_and, e_or, List.getElem?_cons_zero, List.getElem?_cons_succ, varR_ok, ok_bind, add_int, ofO_some, nat5, slc_str, ne_str, Option.map_some, andR_ok, orR_ok, boolR_ok, Nat.add_sub_cancel_left, low_str h (all_take hl _ _), b2, tk, ne, idx0_str, notin_blank, b4, Bool.false_eq_true, if_true, Bool.not_true, Bool.not_false, ite_self] <;> rfl)).trans (st_assoc.trans ?_)
      refine (st_ret (by simp only [x_ret, e_int, e_neg, ok_bind, e_neg, negR] <;> rfl)).trans ?_
      have b3 : ((c :: r).take 2 == [13, 10]) = false := by
        rw [beq_eq_false_iff_ne]; intro q
        simp only [tk, List.cons.injEq] at q
        obtain ⟨rfl, _⟩ := q
        cases b4
      simp only [tagL, d5, hd, b1, b2, b3, b4, Bool.false_eq_true, if_false, Bool.not_true, ite_self]
      exact back_same rfl
    | true =>
      refine (st_if_f (by simp only [e_int, e_var, e_str, e_bin, e_cmp, e_slc, e_p1, e_idx, e_and, e_or, List.getElem?_cons_zero, List.getElem?_cons_succ, varR_ok, ok_bind, add_int, ofO_some, nat5, slc_str, ne_str, Option.map_some, andR_ok, orR_ok, boolR_ok, Nat.add_sub_cancel_left, low_str h (all_take hl _ _), b2, tk, ne, idx0_str, notin_blank, b4, Bool.false_eq_true, if_false, Bool.not_true, Bool.not_false, ite_self] <;> rfl)).trans ?_
      cases b3 : ((c :: r).take 2 == [13, 10]) with
      | true =>
        refine (st_ret (by simp only [x_ret, e_none, e_int, e_var, e_str, e_bin, e_cmp, e_slc, e_p1, e_ite, List.getElem?_cons_zero, List.getElem?_cons_succ, varR_ok, ok_bind, add_int, ofO_some, nat2, nat5, slc_strR1, eq_str, Option.map_some, truth_bool, ifR_some, len_str, b3, if_true] <;> rfl)).trans ?_
        simp only [tagL, d5, hd, b1, b2, b3, Bool.false_eq_true, if_false, if_true, Bool.not_true]
        exact back_same rfl
      | false =>
        have t1 : ((c :: r).take 2).take 1 = [c] := rfl
        refine (st_ret (by simp only [x_ret, e_none, e_int, e_var, e_str, e_bin, e_cmp, e_slc, e_p1, e_ite, List.getElem?_cons_zero, List.getElem?_cons_succ, varR_ok, ok_bind, add_int, ofO_some, nat5, slc_strR1, eq_str, Option.map_some, truth_bool, ifR_some, len_str, b3, t1, List.length_cons, List.length_nil, Bool.false_eq_true, if_false] <;> rfl)).trans ?_
        simp only [tagL, d5, hd, b1, b2, b3, b4, Bool.false_eq_true, if_false, if_true, Bool.not_true]
        exact back_same rfl
theorem lout_loop {N k : Nat} {t : List Nat} {h : H} {l f : V} (hl : ∀ c ∈ t, c < 128) : ∀ (r : List Nat) (n at' : Nat), t.drop at' = r → r.length < n →
    wloop (mev (sem tab N (k + 1)) (.and (.cmp .lt (.var 3) (.p1 .len (.var 0))) (.cmp .lt (.call 51 (.cons (.var 0) (.cons (.var 3) .nil))) (.int 0)))) (mex (sem tab N (k + 1)) N (.seq (.assign 3 (.bin .add (.var 3) (.int 1))) .skip)) n [some (.str t), some l, some f, some (.int at')] h =
      .ok (.next [some (.str t), some l, some f, some (.int (at' + outE r : Nat))]) h
  | [], n + 1, at', hr, hn => by
    have h1 := drop_nilL hr
    have h2 : decide (at' < t.length) = false := by rw [decide_eq_false_iff_not]; omega
    rw [wl_false (h' := h) (by simp only [e_int, e_var, e_cmp, e_p1, e_and, e_call, es_nil', es_cons', List.getElem?_cons_zero, List.getElem?_cons_succ, varR_ok, ok_bind, ofO_some, lt_int, Option.map_some, andR_ok, len_str, lt_nat, h2, Bool.false_eq_true, if_false])]
    rfl
  | c :: r, n + 1, at', hr, hn => by
    obtain ⟨e1, e2, e3⟩ := drop_consL hr
    have h2 : decide (at' < t.length) = true := by rw [decide_eq_true_eq]; omega
    have tg := sem_law_tag (N := N) (k := k) (at' := at') (h := h) hl
    rw [hr] at tg
    unfold outE
    cases ht : tagL (c :: r) with
    | some m =>
      rw [ht] at tg
      have b1 : decide (((at' + m : Nat) : Int) < 0) = false := by rw [decide_eq_false_iff_not]; omega
      rw [wl_false (h' := h) (by simp only [e_int, e_var, e_cmp, e_p1, e_and, e_call, es_nil', es_cons', List.getElem?_cons_zero, List.getElem?_cons_succ, varR_ok, ok_bind, ofO_some, lt_int, Option.map_some, andR_ok, boolR_ok, len_str, lt_nat, h2, tg, b1, ite_self])]
      simp only [Option.isSome_some, if_true, Nat.add_zero]
    | none =>
      rw [ht] at tg
      have b1 : decide ((-1 : Int) < 0) = true := rfl
      rw [wl_true (h' := h) (h'' := h) (loc' := [some (.str t), some l, some f, some (.int (at' + 1 : Nat))]) (by simp only [e_int, e_var, e_cmp, e_p1, e_and, e_call, es_nil', es_cons', List.getElem?_cons_zero, List.getElem?_cons_succ, varR_ok, ok_bind, ofO_some, lt_int, Option.map_some, andR_ok, boolR_ok, len_str, lt_nat, h2, tg, b1, if_true]) (by simp only [x_seq, x_assign, x_skip, e_int, e_var, e_bin, List.getElem?_cons_zero, List.getElem?_cons_succ, List.set_cons_zero, List.set_cons_succ, varR_ok, ok_bind, add_int, ofO_some, nat1, seqR_next]), lout_loop hl r n (at' + 1) e3 (by simp at hn; omega)]
      simp only [Option.isSome_none, Bool.false_eq_true, if_false, show at' + 1 + outE r = at' + (outE r + 1) by omega]
theorem out_tag : ∀ r : List Nat, outE r < r.length → ∃ n, tagL (r.drop (outE r)) = some n
  | c :: r, h => by
    unfold outE at h ⊢
    cases ht : tagL (c :: r) with
    | some m =>
      rw [ht] at h
      simp only [Option.isSome_some, if_true, List.drop_zero]
      exact ⟨m, ht⟩
    | none =>
      rw [ht] at h
      simp only [Option.isSome_none, Bool.false_eq_true, if_false, List.length_cons] at h ⊢
      exact out_tag r (by omega)
theorem sem_law_outside {N k at' : Nat} {t : List Nat} {h : H} {x : List V} (hl : ∀ c ∈ t, c < 128) (ha : at' ≤ t.length) (hN : t.length < N) (hb : t.length < big) (hx : x.length + 2 < big) :
    sem tab N (k + 2) 53 [.str t, .int at', .ref h.length] (h ++ [x]) = .ok (.int (outN t at' : Nat)) (h ++ [x ++ (outS t at').map tpV]) := by
  rw [sem_call (d := f_law_outside) rfl rfl]
  have lp := lout_loop (N := N) (k := k) (h := h ++ [x]) (l := .int at') (f := .ref h.length) hl (t.drop at') N at' rfl (by rw [List.length_drop]; omega)
  have el := outE_le (t.drop at')
  have tgs := out_tag (t.drop at')
  rw [List.length_drop] at el tgs
  have tg := fun h => sem_law_tag (N := N) (k := k) (at' := at' + outE (t.drop at')) (h := h) hl
  have rw1 := fun h => sem_law_row (N := N) (k := k) (at' := at') (t := t) (h := h)
  have rw2 := fun h => sem_law_row (N := N) (k := k) (at' := at' + outE (t.drop at')) (t := t) (h := h)
  simp only [f_law_outside, List.map_cons, List.map_nil, List.cons_append, List.nil_append, Nat.reduceSub, List.replicate]
  refine (st_next (by simp only [x_assign, e_var, List.getElem?_cons_zero, List.getElem?_cons_succ, List.set_cons_zero, List.set_cons_succ, varR_ok, ok_bind] <;> rfl)).trans ?_
  refine (st_next (by rw [x_while]; exact lp)).trans ?_
  unfold outN outS outEnd out1 out2
  rw [List.drop_drop] at tgs
  generalize hE : outE (t.drop at') = E at lp el tg tgs rw2
  have fin : ∀ (y : List V), callR (h ++ [x]) (mex (sem tab N (k + 1)) N (.seq (.ret (.ite (.cmp .lt (.var 3) (.p1 .len (.var 0))) (.p2 .max (.var 3) (.call 51 (.cons (.var 0) (.cons (.var 3) .nil)))) (.var 3))) .skip) [some (.str t), some (.int at'), some (.ref h.length), some (.int (at' + E : Nat))] (h ++ [y])) = .ok (.int (at' + E + (tagL (t.drop (at' + E))).getD 0 : Nat)) (h ++ [y]) := fun y => by
    by_cases q : at' + E < t.length
    · obtain ⟨n, hn⟩ := tgs (by omega)
      rw [hn] at tg
      have b1 : decide (at' + E < t.length) = true := decide_eq_true q
      have mx : p2V .max (.int (at' + E : Nat)) (.int (at' + E + n : Nat)) (h ++ [y]) = .ok (.int (at' + E + n : Nat)) (h ++ [y]) := by
        show R.ok (V.int (if _ then _ else _)) _ = _
        rw [if_pos (by have := tagL_pos hn; omega)]
      refine (st_ret (by simp only [x_ret, e_var, e_cmp, e_p1, e_p2, e_ite, e_call, es_nil', es_cons', List.getElem?_cons_zero, List.getElem?_cons_succ, varR_ok, ok_bind, ofO_some, lt_int, Option.map_some, truth_bool, ifR_some, len_str, lt_nat, b1, recv2, tg, mx, if_true] <;> rfl)).trans ?_
      rw [hn]
      exact back_same (by simp)
    · have b1 : decide (at' + E < t.length) = false := decide_eq_false q
      refine (st_ret (by simp only [x_ret, e_var, e_cmp, e_p1, e_p2, e_ite, e_call, es_nil', es_cons', List.getElem?_cons_zero, List.getElem?_cons_succ, varR_ok, ok_bind, ofO_some, lt_int, Option.map_some, truth_bool, ifR_some, len_str, lt_nat, b1, Bool.false_eq_true, if_false] <;> rfl)).trans ?_
      rw [List.drop_of_length_le (Nat.not_lt.mp q), tagL_nil]
      exact back_same (by simp)
  have ech : ∀ (y : List V), y.length < big → callR (h ++ [x]) (mex (sem tab N (k + 1)) N (.seq (.ite (.cmp .eq (.slc (.var 0) (.var 3) (.bin .add (.var 3) (.int 3))) (.str [60, 63, 61])) (.seq (.expr (.p2 .append (.var 2) (.tup (.cons (.str [110, 97, 109, 101]) (.cons (.str [101, 99, 104, 111]) (.cons (.call 52 (.cons (.var 0) (.cons (.var 3) .nil))) .nil)))))) .skip) .skip) (.seq (.ret (.ite (.cmp .lt (.var 3) (.p1 .len (.var 0))) (.p2 .max (.var 3) (.call 51 (.cons (.var 0) (.cons (.var 3) .nil)))) (.var 3))) .skip)) [some (.str t), some (.int at'), some (.ref h.length), some (.int (at' + E : Nat))] (h ++ [y])) =
      .ok (.int (at' + E + (tagL (t.drop (at' + E))).getD 0 : Nat)) (h ++ [y ++ (if ((t.drop (at' + E)).take 3 == [60, 63, 61]) = true then [(nameW, V.str echoW, row t (at' + E))] else []).map tpV]) := fun y hy => by
    cases b1 : ((t.drop (at' + E)).take 3 == [60, 63, 61]) with
    | false =>
      refine (st_if_f (by simp only [e_int, e_var, e_str, e_bin, e_cmp, e_slc, List.getElem?_cons_zero, List.getElem?_cons_succ, varR_ok, ok_bind, add_int, ofO_some, nat3, slc_str, eq_str, Option.map_some, Nat.add_sub_cancel_left, b1] <;> rfl)).trans ?_
      simp only [Bool.false_eq_true, if_false, List.map_nil, List.append_nil]
      exact fin y
    | true =>
      refine (st_if_t (by simp only [e_int, e_var, e_str, e_bin, e_cmp, e_slc, List.getElem?_cons_zero, List.getElem?_cons_succ, varR_ok, ok_bind, add_int, ofO_some, nat3, slc_str, eq_str, Option.map_some, Nat.add_sub_cancel_left, b1] <;> rfl)).trans (st_assoc.trans ?_)
      refine (st_next (m_expr ((m_p2 (by simp only [e_var, List.getElem?_cons_zero, List.getElem?_cons_succ, varR_ok] <;> rfl) rfl (by simp only [e_var, e_str, e_tup, e_call, es_nil', es_cons', List.getElem?_cons_zero, List.getElem?_cons_succ, varR_ok, ok_bind, rw2] <;> rfl)).trans (append_last h y _ hy)))).trans (st_skip.trans ?_)
      refine (fin _).trans ?_
      simp only [if_true]
      rfl
  cases hz : E with
  | zero =>
    rw [hz] at ech fin
    have d1 : decide (at' < at' + 0) = false := by simp
    refine (st_if_f (by simp only [e_var, e_cmp, List.getElem?_cons_zero, List.getElem?_cons_succ, varR_ok, ok_bind, ofO_some, gt_int, Option.map_some, lt_nat, d1] <;> rfl)).trans ?_
    refine (ech x (by omega)).trans ?_
    simp only [if_true, List.nil_append]
  | succ n =>
    have d1 : decide (at' < at' + (n + 1)) = true := by simp
    rw [hz] at ech fin
    refine (st_if_t (by simp only [e_var, e_cmp, List.getElem?_cons_zero, List.getElem?_cons_succ, varR_ok, ok_bind, ofO_some, gt_int, Option.map_some, lt_nat, d1] <;> rfl)).trans (st_assoc.trans ?_)
    refine (st_next (m_expr ((m_p2 (by simp only [e_var, List.getElem?_cons_zero, List.getElem?_cons_succ, varR_ok] <;> rfl) rfl (by simp only [e_var, e_str, e_slc, e_tup, e_call, es_nil', es_cons', List.getElem?_cons_zero, List.getElem?_cons_succ, varR_ok, ok_bind, ofO_some, slc_str, Nat.add_sub_cancel_left, rw1] <;> rfl)).trans (append_last h x _ (by omega))))).trans (st_skip.trans ?_)
    refine (ech _ (by simp; omega)).trans ?_
    simp only [show n + 1 ≠ 0 by omega, if_false, List.map_append, List.map_cons, List.map_nil, List.append_assoc]
    rfl
end Mine
end
section
set_option Elab.async false
set_option linter.all false
namespace Mine
open P2

theorem wd_is : ∀ c ∈ alpha, [97, 98, 99, 100, 104, 112, 120, 121, 72, 80, 49].contains c = isWd c := by decide
theorem drop_word : ∀ (r : List Nat), (∀ c ∈ r, c ∈ alpha) → r.dropWhile [97, 98, 99, 100, 104, 112, 120, 121, 72, 80, 49].contains = r.drop (wordL r)
  | [], _ => rfl
  | c :: r, h => by
    rw [List.dropWhile_cons, wd_is c (h c (.head _))]
    cases b : isWd c with
    | false => simp only [wordL, List.takeWhile_cons, b, Bool.false_eq_true, if_false, List.length_nil, List.drop_zero]
    | true =>
      simp only [if_true]
      rw [drop_word r fun d hd => h d (.tail _ hd)]
      simp only [wordL, List.takeWhile_cons, b, if_true, List.length_cons, List.drop_succ_cons]
theorem wordL_le (r : List Nat) : wordL r ≤ r.length := by unfold wordL; exact (List.takeWhile_sublist _).length_le
theorem sem_law_word {N k at' : Nat} {t : List Nat} {h : H} (h2 : ∀ c ∈ t, c ∈ alpha) : sem tab N (k + 1) 54 [.str t, .int at'] h = .ok (.str ((t.drop at').take (wordL (t.drop at')))) h := by
  rw [sem_call (d := f_law_word) rfl rfl]
  generalize hr : t.drop at' = r
  have hd := drop_word r fun c hc => h2 c (by rw [← hr] at hc; exact List.mem_of_mem_drop hc)
  have ls : p2V .lstrip (.str r) (.str [97, 98, 99, 100, 104, 112, 120, 121, 72, 80, 49]) h = .ok (.str (r.drop (wordL r))) h := by
    show R.ok (V.str (r.dropWhile _)) h = _; rw [hd]
  have e1 : ((r.length : Int) - ((r.drop (wordL r)).length : Nat)) = ((wordL r : Nat) : Int) := by
    rw [List.length_drop]; have := wordL_le r; omega
  simp only [f_law_word, List.map_cons, List.map_nil, List.cons_append, List.nil_append, Nat.reduceSub, List.replicate]
  refine (st_next (by simp only [x_assign, e_none, e_var, e_slc, List.getElem?_cons_zero, List.getElem?_cons_succ, List.set_cons_zero, List.set_cons_succ, varR_ok, ok_bind, ofO_some, slc_strL, hr] <;> rfl)).trans ?_
  refine (st_ret (by simp only [x_ret, e_none, e_var, e_str, e_bin, e_slc, e_p1, e_p2, List.getElem?_cons_zero, List.getElem?_cons_succ, varR_ok, ok_bind, sub_int, ofO_some, slc_strR, len_str, recv2, isStrV, if_true, ls, e1] <;> rfl)).trans ?_
  exact back_same rfl

/-! comprehensions -/
section
variable {C : Calls} {N : Nat} {loc : L} {h h1 h2 : H}
theorem m_comp {caps : List Nat} {it elt cond : ME} {cvs : L} {vs : List V} (q : capVals loc caps = some cvs) (e : mev C it loc h = .ok (.lst vs) h1) : mev C (.comp caps it elt cond) loc h = cloop (fun v h => mev C elt (some v :: cvs) h) (fun v h => mev C cond (some v :: cvs) h) vs h1 [] := by
  show ofK (capVals loc caps) _ = _; rw [q]
  show (mev C it loc h).bind _ = _; rw [e]; rfl
theorem cl_nil {elt cond : V → H → R V} {acc : List V} : cloop elt cond [] h acc = .ok (.lst acc) h := rfl
theorem cl_t {elt cond : V → H → R V} {v x : V} {r acc : List V} (a : cond v h = .ok (.bool true) h1) (b : elt v h1 = .ok x h2) : cloop elt cond (v :: r) h acc = cloop elt cond r h2 (acc ++ [x]) := by
  rw [cloop, a]; show okR (elt v h1) _ = _; rw [b]; rfl
theorem cl_f {elt cond : V → H → R V} {v : V} {r acc : List V} (a : cond v h = .ok (.bool false) h1) : cloop elt cond (v :: r) h acc = cloop elt cond r h1 acc := by
  rw [cloop, a]; rfl
theorem m_ret {e : ME} {v : V} (q : mev C e loc h = .ok v h1) : mex C N (.ret e) loc h = .ok (.ret v) h1 := by rw [x_ret, q, ok_bind]
theorem m_cmp {a b : ME} {x y : V} {o : CO} {z : Bool} (e1 : mev C a loc h = .ok x h1) (e2 : mev C b loc h1 = .ok y h2) (e3 : cmpV o h2 x y = some z) : mev C (.cmp o a b) loc h = .ok (.bool z) h2 := by
  rw [e_cmp, e1, ok_bind, e2, ok_bind, e3, Option.map_some, ofO_some]
end

noncomputable def fInt (o : Option Nat) (at' : Nat) : Int := match o with | some k => ((at' + k : Nat) : Int) | none => -1
theorem fInt_neg (o : Option Nat) (at' : Nat) : decide (0 ≤ fInt o at') = o.isSome := by
  cases o with
  | none => rfl
  | some k => show decide ((0 : Int) ≤ ((at' + k : Nat) : Int)) = true; rw [decide_eq_true_eq]; omega
theorem find_at {t p : List Nat} {i : Nat} {h : H} (hi : i ≤ t.length) (hb : t.length < big) (hp : p ≠ []) : p3V .find (.str t) (.str p) (.int i) h = .ok (.int (fInt (findFrom p (t.drop i) 0) i)) h := find_str hi hb hp
theorem findFrom_le {p : List Nat} : ∀ {r : List Nat} {n : Nat}, findFrom p r 0 = some n → n + p.length ≤ r.length
  | [], n, e => by
    unfold findFrom at e
    split at e
    · rename_i q; cases e; rw [beq_iff_eq.mp q]; simp
    · cases e
  | c :: r, n, e => by
    unfold findFrom at e
    split at e
    · rename_i q
      cases e
      have := congrArg List.length (beq_iff_eq.mp q)
      rw [List.length_take] at this
      omega
    · rw [findFrom_at] at e
      obtain ⟨j, hj, rfl⟩ := Option.map_eq_some_iff.mp e
      have := findFrom_le hj
      simp; omega
theorem sw_cons (c : Nat) (r : List Nat) (d : Nat) : startsWith (c :: r) [d] = (c == d) := by
  show ((c :: r).take 1 == [d]) = _
  rw [List.take_succ_cons, List.take_zero, beq_str1]
theorem rowE_find : ∀ r : List Nat, rowE r = min (min ((findFrom [10] r 0).getD r.length) ((findFrom [63, 62] r 0).getD r.length)) r.length
  | [] => rfl
  | c :: r => by
    unfold rowE findFrom
    rw [sw_cons]
    cases b1 : c == 10 with
    | true => simp only [if_true, Option.getD_some]; simp
    | false =>
      simp only [Bool.false_eq_true, if_false]
      have : startsWith (c :: r) [63, 62] = ((c :: r).take 2 == [63, 62]) := rfl
      rw [this]
      cases b2 : ((c :: r).take 2 == [63, 62]) with
      | true => simp only [if_true, Option.getD_some]; simp
      | false =>
        simp only [Bool.false_eq_true, if_false]
        rw [rowE_find r, findFrom_at [10] r (0 + 1), findFrom_at [63, 62] r (0 + 1)]
        cases findFrom [10] r 0 <;> cases findFrom [63, 62] r 0 <;> simp only [Option.map_none, Option.map_some, Option.getD_none, Option.getD_some, List.length_cons] <;> omega
theorem min_is (l : List V) {is : List Int} {m : Int} (h : H) (e : intsOf l = some is) (q : is.min? = some m) : p1V .min (.lst l) h = .ok (.int m) h := by
  refine p1_ok (p := .min) (a := .lst l) (q := (.int m, h)) ?_
  show (intsOf l).bind _ = _; rw [e]; show Option.map _ is.min? = _; rw [q]; rfl
theorem add_lst (h : H) (x y : List V) (e : x.length + y.length ≤ big) : binV .add h (.lst x) (.lst y) = some (.lst (x ++ y)) := by
  show pick none (pick none (if x.length + y.length ≤ big then some (V.lst (x ++ y)) else none)) = _; rw [if_pos e]; rfl
theorem lt_zero (i : Int) : decide (i < 0) = !decide (0 ≤ i) := by
  rw [Bool.eq_iff_iff]; simp
theorem small_list : (3 : Nat) ≤ big := by rw [big_is]; omega
theorem sem_law_gap {N k at' : Nat} {t r : List Nat} {c : Nat} {h : H} (hr : t.drop at' = c :: r) (hb : t.length < big) : sem tab N (k + 1) 55 [.str t, .int at'] h =
    .ok (.int (if isBl c = true then ((at' + 1 : Nat) : Int) else if (c == 35 || (c :: r).take 2 == [47, 47]) = true then ((at' + rowE (c :: r) : Nat) : Int) else if ((c :: r).take 2 == [47, 42]) = true then fInt (comE (c :: r)) at' else 0)) h := by
  rw [sem_call (d := f_law_gap) rfl rfl]
  obtain ⟨e1, e2, e3⟩ := drop_consL hr
  simp only [f_law_gap, List.map_cons, List.map_nil, List.cons_append, List.nil_append, Nat.reduceSub, List.replicate]
  cases b1 : isBl c with
  | true =>
    refine (st_if_t (by simp only [e_var, e_str, e_cmp, e_idx, List.getElem?_cons_zero, List.getElem?_cons_succ, varR_ok, ok_bind, ofO_some, Option.map_some, idx_str h e1, in_blankS, b1] <;> rfl)).trans (st_assoc.trans ?_)
    refine (st_ret (by simp only [x_ret, e_int, e_var, e_bin, List.getElem?_cons_zero, List.getElem?_cons_succ, varR_ok, ok_bind, add_int, ofO_some, nat1] <;> rfl)).trans ?_
    simp only [if_true]
    exact back_same rfl
  | false =>
  refine (st_if_f (by simp only [e_var, e_str, e_cmp, e_idx, List.getElem?_cons_zero, List.getElem?_cons_succ, varR_ok, ok_bind, ofO_some, Option.map_some, idx_str h e1, in_blankS, b1] <;> rfl)).trans ?_
  simp only [Bool.false_eq_true, if_false]
  cases b2 : (c == 35 || (c :: r).take 2 == [47, 47]) with
  | true =>
    have tst : mev (sem tab N k) (.or (.cmp .eq (.idx (.var 0) (.var 1)) (.str [35])) (.cmp .eq (.slc (.var 0) (.var 1) (.bin .add (.var 1) (.int 2))) (.str [47, 47]))) [some (V.str t), some (V.int at'), none, none] h = .ok (.bool true) h := by
      cases b3 : c == 35 with
      | true => simp only [e_int, e_var, e_str, e_bin, e_cmp, e_slc, e_idx, e_or, List.getElem?_cons_zero, List.getElem?_cons_succ, varR_ok, ok_bind, add_int, ofO_some, nat2, slc_str, eq_str, Option.map_some, orR_ok, boolR_ok, Nat.add_sub_cancel_left, idx_str h e1, beq_str1, b3, if_true]
      | false =>
        rw [b3, Bool.false_or] at b2
        simp only [e_int, e_var, e_str, e_bin, e_cmp, e_slc, e_idx, e_or, List.getElem?_cons_zero, List.getElem?_cons_succ, varR_ok, ok_bind, add_int, ofO_some, nat2, slc_str, eq_str, Option.map_some, orR_ok, boolR_ok, Nat.add_sub_cancel_left, idx_str h e1, beq_str1, b3, hr, b2, Bool.false_eq_true, ite_self]
    refine (st_if_t tst).trans (st_assoc.trans ?_)
    simp only [if_true]
    have f1 := find_at (t := t) (p := [10]) (i := at') (h := h) (by omega) hb (by decide)
    have f2 := find_at (t := t) (p := [63, 62]) (i := at') (h := h) (by omega) hb (by decide)
    rw [hr] at f1 f2
    have rl := rowE_find (c :: r)
    have hlen : at' + (c :: r).length = t.length := by rw [← hr, List.length_drop]; omega
    have F1 : ∀ (x : List Nat) (hx : x ≠ []), mev (sem tab N k) (.p3 .find (.var 2) (.var 0) (.var 1)) [some (.str x), some (.int at'), some (.str t)] h = .ok (.int (fInt (findFrom x (c :: r) 0) at')) h := fun x hx => by
      refine (m_p3 (by simp only [e_var, List.getElem?_cons_zero, List.getElem?_cons_succ, varR_ok] <;> rfl) rfl (by simp only [e_var, List.getElem?_cons_zero, varR_ok] <;> rfl) (by simp only [e_var, List.getElem?_cons_zero, List.getElem?_cons_succ, varR_ok] <;> rfl)).trans ?_
      rw [← hr]
      exact find_at (by omega) hb hx
    have G1 : ∀ (x : List Nat) (hx : x ≠ []) (z : Bool), (findFrom x (c :: r) 0).isSome = z → mev (sem tab N k) (.cmp .ge (.p3 .find (.var 2) (.var 0) (.var 1)) (.int 0)) [some (.str x), some (.int at'), some (.str t)] h = .ok (.bool z) h := fun x hx z hz =>
      m_cmp (F1 x hx) (by simp only [e_int] <;> rfl) (by rw [ge_int, fInt_neg, hz])
    have cmp : ∃ l is, intsOf l = some is ∧ is.length ≤ 2 ∧ l.length = is.length ∧ (is ++ [(t.length : Int)]).min? = some ((at' + rowE (c :: r) : Nat) : Int) ∧
        mev (sem tab N k) (.comp [1, 0] (.list (.cons (.str [10]) (.cons (.str [63, 62]) .nil))) (.p3 .find (.var 2) (.var 0) (.var 1)) (.cmp .ge (.p3 .find (.var 2) (.var 0) (.var 1)) (.int 0))) [some (V.str t), some (V.int at'), none, none] h = .ok (.lst l) h := by
      cases q1 : findFrom [10] (c :: r) 0 with
      | none =>
        cases q2 : findFrom [63, 62] (c :: r) 0 with
        | none =>
          rw [q1, q2] at rl
          refine ⟨[], [], rfl, by simp, rfl, ?_, ?_⟩
          · show some (t.length : Int) = _
            simp only [Option.getD_none] at rl
            congr 1; omega
          · refine (m_comp rfl (by simp only [e_str, e_list, es_nil', es_cons', ok_bind] <;> rfl)).trans ?_
            exact (cl_f (G1 _ (by decide) false (by rw [q1]; rfl))).trans (cl_f (G1 _ (by decide) false (by rw [q2]; rfl)))
        | some n =>
          rw [q1, q2] at rl
          have := findFrom_le q2
          refine ⟨[V.int (fInt (findFrom [63, 62] (c :: r) 0) at')], [_], rfl, by simp, rfl, ?_, ?_⟩
          rotate_left
          · refine (m_comp rfl (by simp only [e_str, e_list, es_nil', es_cons', ok_bind] <;> rfl)).trans ?_
            exact (cl_f (G1 _ (by decide) false (by rw [q1]; rfl))).trans (cl_t (G1 _ (by decide) true (by rw [q2]; rfl)) (F1 _ (by decide)))
          · rw [q2]
            show some (min ((at' + n : Nat) : Int) (t.length : Int)) = _
            simp only [Option.getD_none, Option.getD_some] at rl
            congr 1; omega
      | some m =>
        have := findFrom_le q1
        cases q2 : findFrom [63, 62] (c :: r) 0 with
        | none =>
          rw [q1, q2] at rl
          refine ⟨[V.int (fInt (findFrom [10] (c :: r) 0) at')], [_], rfl, by simp, rfl, ?_, ?_⟩
          rotate_left
          · refine (m_comp rfl (by simp only [e_str, e_list, es_nil', es_cons', ok_bind] <;> rfl)).trans ?_
            exact (cl_t (G1 _ (by decide) true (by rw [q1]; rfl)) (F1 _ (by decide))).trans (cl_f (G1 _ (by decide) false (by rw [q2]; rfl)))
          · rw [q1]
            show some (min ((at' + m : Nat) : Int) (t.length : Int)) = _
            simp only [Option.getD_none, Option.getD_some] at rl
            congr 1; omega
        | some n =>
          rw [q1, q2] at rl
          have := findFrom_le q2
          refine ⟨[V.int (fInt (findFrom [10] (c :: r) 0) at'), V.int (fInt (findFrom [63, 62] (c :: r) 0) at')], [_, _], rfl, by simp, rfl, ?_, ?_⟩
          rotate_left
          · refine (m_comp rfl (by simp only [e_str, e_list, es_nil', es_cons', ok_bind] <;> rfl)).trans ?_
            exact (cl_t (G1 _ (by decide) true (by rw [q1]; rfl)) (F1 _ (by decide))).trans (cl_t (G1 _ (by decide) true (by rw [q2]; rfl)) (F1 _ (by decide)))
          · rw [q1, q2]
            show some (min (min ((at' + m : Nat) : Int) ((at' + n : Nat) : Int)) (t.length : Int)) = _
            simp only [Option.getD_some] at rl
            congr 1; omega
    obtain ⟨l, is, g1, g2, g3, g4, g5⟩ := cmp
    refine (st_next (m_assign g5)).trans (st_assoc.trans ?_)
    have io : ∀ (l : List V) (is : List Int) (n : Int), intsOf l = some is → intsOf (l ++ [.int n]) = some (is ++ [n]) := by
      intro l
      induction l with
      | nil => intro is n e; cases e; rfl
      | cons v l ih =>
        intro is n e
        cases v <;> simp only [intsOf] at e <;> try (cases e; done)
        obtain ⟨js, hj, rfl⟩ := Option.map_eq_some_iff.mp e
        simp only [List.cons_append, intsOf, ih js n hj, Option.map_some]
    have q5 : mev (sem tab N k) (.p1 .min (.bin .add (.var 2) (.list (.cons (.p1 .len (.var 0)) .nil)))) [some (V.str t), some (V.int at'), some (.lst l), none] h = .ok (.int (at' + rowE (c :: r) : Nat)) h :=
      (m_p1 (m_bin (by simp only [e_var, List.getElem?_cons_zero, List.getElem?_cons_succ, varR_ok] <;> rfl) (by simp only [e_var, e_p1, e_list, es_nil', es_cons', List.getElem?_cons_zero, varR_ok, ok_bind, len_str] <;> rfl) (add_lst h l [.int t.length] (by simp; have := small_list; omega)))).trans (min_is _ h (io l is t.length g1) g4)
    refine (st_ret (m_ret q5)).trans ?_
    exact back_same rfl
  | false =>
  have tst : mev (sem tab N k) (.or (.cmp .eq (.idx (.var 0) (.var 1)) (.str [35])) (.cmp .eq (.slc (.var 0) (.var 1) (.bin .add (.var 1) (.int 2))) (.str [47, 47]))) [some (V.str t), some (V.int at'), none, none] h = .ok (.bool false) h := by
    obtain ⟨q1, q2⟩ := Bool.or_eq_false_iff.mp b2
    simp only [e_int, e_var, e_str, e_bin, e_cmp, e_slc, e_idx, e_or, List.getElem?_cons_zero, List.getElem?_cons_succ, varR_ok, ok_bind, add_int, ofO_some, nat2, slc_str, eq_str, Option.map_some, orR_ok, boolR_ok, Nat.add_sub_cancel_left, idx_str h e1, beq_str1, q1, hr, q2, Bool.false_eq_true, if_false]
  refine (st_if_f tst).trans ?_
  simp only [Bool.false_eq_true, if_false]
  cases b3 : ((c :: r).take 2 == [47, 42]) with
  | false =>
    refine (st_if_f (by simp only [e_int, e_var, e_str, e_bin, e_cmp, e_slc, List.getElem?_cons_zero, List.getElem?_cons_succ, varR_ok, ok_bind, add_int, ofO_some, nat2, slc_str, eq_str, Option.map_some, Nat.add_sub_cancel_left, hr, b3] <;> rfl)).trans ?_
    refine (st_ret (by simp only [x_ret, e_int, ok_bind] <;> rfl)).trans ?_
    simp only [Bool.false_eq_true, if_false]
    exact back_same rfl
  | true =>
    have hs2 : 2 ≤ (c :: r).length := by
      have := congrArg List.length (beq_iff_eq.mp b3)
      rw [List.length_take] at this
      simp at this; simp; omega
    have hlen : at' + (c :: r).length = t.length := by rw [← hr, List.length_drop]; omega
    have fd := find_at (t := t) (p := [42, 47]) (i := at' + 2) (h := h) (by omega) hb (by decide)
    have d2 : t.drop (at' + 2) = (c :: r).drop 2 := by rw [← hr, List.drop_drop]
    rw [d2] at fd
    refine (st_if_t (by simp only [e_int, e_var, e_str, e_bin, e_cmp, e_slc, List.getElem?_cons_zero, List.getElem?_cons_succ, varR_ok, ok_bind, add_int, ofO_some, nat2, slc_str, eq_str, Option.map_some, Nat.add_sub_cancel_left, hr, b3] <;> rfl)).trans (st_assoc.trans ?_)
    refine (st_next (m_assign ((m_p3 (by simp only [e_var, List.getElem?_cons_zero, varR_ok] <;> rfl) rfl (by simp only [e_str] <;> rfl) (by simp only [e_int, e_var, e_bin, List.getElem?_cons_zero, List.getElem?_cons_succ, varR_ok, ok_bind, add_int, ofO_some, nat2] <;> rfl)).trans fd))).trans (st_assoc.trans ?_)
    simp only [if_true]
    unfold comE
    cases hf : findFrom [42, 47] ((c :: r).drop 2) 0 with
    | none =>
      have d3 : decide (fInt none (at' + 2) < 0) = true := rfl
      refine (st_ret (by simp only [x_ret, e_int, e_var, e_bin, e_cmp, e_ite, e_neg, List.getElem?_cons_zero, List.getElem?_cons_succ, List.set_cons_zero, List.set_cons_succ, varR_ok, ok_bind, add_int, ofO_some, lt_int, Option.map_some, truth_bool, ifR_some, e_neg, negR, d3, if_true] <;> rfl)).trans ?_
      exact back_same rfl
    | some j =>
      have d3 : decide (fInt (some j) (at' + 2) < 0) = false := by rw [lt_zero, fInt_neg]; rfl
      have e4 : fInt (some j) (at' + 2) + 2 = ((at' + (j + 4) : Nat) : Int) := by show ((at' + 2 + j : Nat) : Int) + 2 = _; omega
      refine (st_ret (by simp only [x_ret, e_int, e_var, e_bin, e_cmp, e_ite, e_neg, List.getElem?_cons_zero, List.getElem?_cons_succ, List.set_cons_zero, List.set_cons_succ, varR_ok, ok_bind, add_int, ofO_some, lt_int, Option.map_some, truth_bool, ifR_some, e_neg, negR, d3, e4, Bool.false_eq_true, if_false] <;> rfl)).trans ?_
      exact back_same rfl
end Mine
end
section
set_option Elab.async false
set_option linter.all false
namespace Mine
open P2

/-! what a script is cut into -/
inductive Act where
  | go (n : Nat) | bad | close | tok (s : List Nat) (v : V) (n : Nat) | badS
noncomputable def act (c : Nat) (r : List Nat) : Act :=
  if isBl c = true then .go 1
  else if (c == 35 || (c :: r).take 2 == [47, 47]) = true then .go (rowE (c :: r))
  else if ((c :: r).take 2 == [47, 42]) = true then (match comE (c :: r) with | some n => .go n | none => .bad)
  else if ((c :: r).take 2 == [63, 62]) = true then .close
  else match tokA c r with | some (s, v, n) => .tok s v n | none => .badS
inductive Res where
  | read (l : List Tk) | refC (row : Nat) | refS (row : Nat)
noncomputable def nlN (r : List Nat) : Nat := if (r.take 2 == [13, 10]) = true then 2 else if (r.take 1 == [10]) = true then 1 else 0
noncomputable def clo (t : List Nat) (a : Nat) : Nat := a + 2 + nlN (t.drop (a + 2))
inductive Spec (t : List Nat) : Nat → List Tk → Res → Prop
  | fin {a acc} (h : t.length ≤ a) : Spec t a acc (.read acc)
  | go {a acc c r n res} (h : t.drop a = c :: r) (q : act c r = .go n) (s : Spec t (a + n) acc res) : Spec t a acc res
  | bad {a acc c r} (h : t.drop a = c :: r) (q : act c r = .bad) : Spec t a acc (.refC (row t a))
  | close {a acc c r res} (h : t.drop a = c :: r) (q : act c r = .close) (s : Spec t (outN t (clo t a)) (acc ++ [([111, 112], .str [59], row t a)] ++ outS t (clo t a)) res) : Spec t a acc res
  | tok {a acc c r s v n res} (h : t.drop a = c :: r) (q : act c r = .tok s v n) (k : Spec t (a + n) (acc ++ [(s, v, row t a)]) res) : Spec t a acc res
  | badS {a acc c r} (h : t.drop a = c :: r) (q : act c r = .badS) : Spec t a acc (.refS (row t a))

/-! code goes on -/
noncomputable def lastOr : Nat → List Nat → Nat
  | p, [] => p
  | _, c :: r => lastOr c r
theorem okL_append : ∀ {a b : List Nat} {p : Nat}, okL p (a ++ b) = true → okL (lastOr p a) b = true
  | [], b, p, h => h
  | c :: r, b, p, h => okL_append (a := r) (p := c) (okL_cons (c := c) (r := r ++ b) h).2.2
theorem cd_okL {r : List Nat} (h : cdL r = true) : ∃ p, p ≠ 36 ∧ okL p r = true := by
  cases r with
  | nil => exact ⟨0, by decide, rfl⟩
  | cons c s =>
    obtain ⟨a, b, d⟩ := cd_cons h
    by_cases hc : c = 36
    · subst hc; exact ⟨0, by decide, by simp [okL, d]; decide⟩
    · refine ⟨0, by decide, ?_⟩
      simp only [okL, List.contains_iff_mem.mpr a, d, Bool.true_and, Bool.and_true]
      have : (c == 98) = false := by simpa using b
      simp [bi, this]
theorem cd_drop {r : List Nat} (h : cdL r = true) {n : Nat} {p : Nat} {s u : List Nat} (hd : r.drop n = p :: s) (hp : p ≠ 36) (hu : r.drop (n + 1) = u) : cdL u = true := by
  obtain ⟨q, _, hq⟩ := cd_okL h
  obtain ⟨q', hq'⟩ := okL_drop hq n
  rw [hd] at hq'
  have e : s = u := by rw [← hu, ← List.drop_drop, hd]; rfl
  exact e ▸ okL_cd36 (okL_cons hq').2.2 hp
theorem cd_stop {r : List Nat} (h : cdL r = true) (n : Nat) (hs : ∀ c s, r.drop n = c :: s → c ≠ 98) : cdL (r.drop n) = true := by
  obtain ⟨q, _, hq⟩ := cd_okL h
  obtain ⟨q', hq'⟩ := okL_drop hq n
  exact okL_cd hq' hs
theorem rowE_stop : ∀ r : List Nat, r.drop (rowE r) = [] ∨ (∃ s, r.drop (rowE r) = 10 :: s) ∨ ∃ s, r.drop (rowE r) = 63 :: s
  | [] => .inl rfl
  | c :: r => by
    unfold rowE
    cases b1 : c == 10 with
    | true => simp only [if_true, List.drop_zero]; rw [beq_iff_eq.mp b1]; exact .inr (.inl ⟨_, rfl⟩)
    | false =>
      cases b2 : ((c :: r).take 2 == [63, 62]) with
      | true =>
        simp only [Bool.false_eq_true, if_true, ite_self, List.drop_zero]
        have := beq_iff_eq.mp b2
        rw [List.take_succ_cons] at this
        obtain ⟨rfl, _⟩ := List.cons.inj this
        exact .inr (.inr ⟨_, rfl⟩)
      | false => simp only [Bool.false_eq_true, if_false, List.drop_succ_cons]; exact rowE_stop r
theorem word_stop : ∀ (r : List Nat) (c : Nat) (s : List Nat), r.drop (wordL r) = c :: s → isWd c = false
  | [], c, s, e => by cases e
  | d :: r, c, s, e => by
    cases b : isWd d with
    | false =>
      simp only [wordL, List.takeWhile_cons, b, Bool.false_eq_true, if_false, List.length_nil, List.drop_zero, List.cons.injEq] at e
      rw [← e.1]; exact b
    | true =>
      simp only [wordL, List.takeWhile_cons, b, if_true, List.length_cons, List.drop_succ_cons] at e
      exact word_stop r c s e
theorem qEnd_at : ∀ {r : List Nat} {j : Nat}, qEnd r = some j → ∃ s, r.drop j = 39 :: s
  | c :: r, j, e => by
    unfold qEnd at e
    split at e
    · rename_i q; cases e; exact ⟨r, by rw [beq_iff_eq.mp q]; rfl⟩
    · obtain ⟨i, hi, rfl⟩ := Option.map_eq_some_iff.mp e
      obtain ⟨s, hs⟩ := qEnd_at hi
      exact ⟨s, by rw [List.drop_succ_cons]; exact hs⟩
theorem findFrom_sw {p : List Nat} (hp : p ≠ []) : ∀ {r : List Nat} {n : Nat}, findFrom p r 0 = some n → (r.drop n).take p.length = p
  | [], n, e => by
    unfold findFrom at e
    split at e
    · rename_i q; exact absurd (beq_iff_eq.mp q) hp
    · cases e
  | c :: r, n, e => by
    unfold findFrom at e
    split at e
    · rename_i q; cases e; exact beq_iff_eq.mp q
    · rw [findFrom_at] at e
      obtain ⟨j, hj, rfl⟩ := Option.map_eq_some_iff.mp e
      show (r.drop j).take p.length = p
      exact findFrom_sw hp hj
theorem opW_take (r : List Nat) : ∃ n, (n = 3 ∨ n = 2 ∨ n = 1) ∧ opW r = r.take n ∧ (n ≠ 1 → opsW.contains (r.take n) = true) := by
  unfold opW
  split
  · rename_i q; exact ⟨3, .inl rfl, rfl, fun _ => by rw [← any_mem]; exact q⟩
  split
  · rename_i q; exact ⟨2, .inr (.inl rfl), rfl, fun _ => by rw [← any_mem]; exact q⟩
  · exact ⟨1, .inr (.inr rfl), rfl, fun q => absurd rfl q⟩
theorem opsW_last : opsW.all (fun p => lastOr 0 p != 36) = true := by decide
theorem lastOr_eq {p q : Nat} {a : List Nat} (h : a ≠ []) : lastOr p a = lastOr q a := by
  cases a with
  | nil => exact absurd rfl h
  | cons c r => rfl
theorem op_next {c : Nat} {r : List Nat} (h : cdL (c :: r) = true) (h36 : c = 36 → wordL r = 0) : 1 ≤ (opW (c :: r)).length ∧ (opW (c :: r)).length ≤ (c :: r).length ∧ cdL ((c :: r).drop (opW (c :: r)).length) = true := by
  obtain ⟨n, hn, e, hm⟩ := opW_take (c :: r)
  have hl : (opW (c :: r)).length = min n (r.length + 1) := by rw [e, List.length_take]; rfl
  refine ⟨by omega, by simp only [List.length_cons]; omega, ?_⟩
  have hd : (c :: r).drop (opW (c :: r)).length = (c :: r).drop n := by
    rw [hl]
    rcases Nat.lt_or_ge n (r.length + 1) with q | q
    · rw [Nat.min_eq_left (by omega)]
    · rw [Nat.min_eq_right q, List.drop_of_length_le (by simp), List.drop_of_length_le (by simpa using q)]
  rw [hd]
  obtain ⟨q, hq36, hq⟩ := cd_okL h
  have happ : okL (lastOr q ((c :: r).take n)) ((c :: r).drop n) = true := okL_append (by rw [List.take_append_drop]; exact hq)
  by_cases h1 : n = 1
  · subst h1
    show cdL r = true
    have ho : okL c r = true := (cd_cons h).2.2
    by_cases hc : c = 36
    · have w0 := h36 hc
      subst hc
      cases r with
      | nil => rfl
      | cons d s =>
        have : d = 98 := by have := (okL_cons ho).2.1; simpa [bi] using this
        subst this
        rw [wordL_pos rfl] at w0; omega
    · exact okL_cd36 ho hc
  · have hmem := hm h1
    have := List.all_eq_true.mp opsW_last _ (List.contains_iff_mem.mp hmem)
    rw [lastOr_eq (q := 0) (by intro e; have := congrArg List.length e; rw [List.length_take] at this; simp at this; omega)] at happ
    exact okL_cd36 happ (by simpa using this)
theorem tok_next {c : Nat} {r : List Nat} (h : cdL (c :: r) = true) {s : List Nat} {v : V} {n : Nat} (e : tokA c r = some (s, v, n)) : 1 ≤ n ∧ n ≤ (c :: r).length ∧ cdL ((c :: r).drop n) = true := by
  unfold tokA at e
  split at e
  · obtain ⟨j, hj, q⟩ := Option.map_eq_some_iff.mp e
    obtain ⟨_, _, rfl⟩ : _ ∧ _ ∧ j + 2 = n := by simpa using q
    have := qEnd_lt hj
    obtain ⟨u, hu⟩ := qEnd_at hj
    refine ⟨by omega, by simp; omega, ?_⟩
    exact cd_drop h (n := j + 1) (by rw [List.drop_succ_cons]; exact hu) (by decide) rfl
  split at e
  · rename_i b1 b2
    obtain ⟨_, _, rfl⟩ : _ ∧ _ ∧ wordL (c :: r) = n := by simpa using e
    refine ⟨by rw [wordL_pos b2]; omega, wordL_le _, cd_stop h _ fun d u q => ?_⟩
    have := word_stop _ _ _ q
    rintro rfl; cases this
  split at e
  · rename_i b1 b2 b3
    obtain ⟨_, _, rfl⟩ : _ ∧ _ ∧ 1 + wordL r = n := by simpa using e
    have := wordL_le r
    refine ⟨by omega, by simp; omega, ?_⟩
    rw [Nat.add_comm 1]
    refine cd_stop h _ fun d u q => ?_
    rw [List.drop_succ_cons] at q
    have := word_stop _ _ _ q
    rintro rfl; cases this
  split at e
  · rename_i b1 b2 b3 b4
    obtain ⟨_, _, rfl⟩ : _ ∧ _ ∧ 1 = n := by simpa using e
    have hc := beq_iff_eq.mp b4
    exact ⟨by omega, by simp, okL_cd36 (p := c) (cd_cons h).2.2 (by omega)⟩
  · rename_i b1 b2 b3 b4
    obtain ⟨_, _, rfl⟩ : _ ∧ _ ∧ (opW (c :: r)).length = n := by simpa using e
    refine op_next h fun hc => ?_
    subst hc
    simpa using b3
theorem act_go {c : Nat} {r : List Nat} (h : cdL (c :: r) = true) {n : Nat} (e : act c r = .go n) : 1 ≤ n ∧ n ≤ (c :: r).length ∧ cdL ((c :: r).drop n) = true := by
  unfold act at e
  split at e
  · rename_i b
    cases e
    exact ⟨by omega, by simp, okL_cd36 (p := c) (cd_cons h).2.2 (by rintro rfl; cases b)⟩
  split at e
  · rename_i b1 b2
    cases e
    refine ⟨?_, rowE_le _, cd_stop h _ fun d u q => ?_⟩
    · unfold rowE
      have c10 : (c == 10) = false := by rw [beq_eq_false_iff_ne]; rintro rfl; exact b1 rfl
      have c63 : ((c :: r).take 2 == [63, 62]) = false := by
        rw [beq_eq_false_iff_ne]; intro q
        rw [q] at b2
        rw [List.take_succ_cons] at q
        obtain ⟨rfl, _⟩ := List.cons.inj q
        revert b2; decide
      simp only [c10, c63, Bool.false_eq_true, if_false]; omega
    · rcases rowE_stop (c :: r) with q' | ⟨u', q'⟩ | ⟨u', q'⟩ <;> rw [q'] at q <;> cases q <;> decide
  split at e
  · split at e
    · rename_i b1 b2 b3 m hm
      cases e
      obtain ⟨j, hj, rfl⟩ := Option.map_eq_some_iff.mp hm
      have l1 := findFrom_le hj
      have s1 := findFrom_sw (by decide) hj
      rw [List.length_drop] at l1
      rw [List.drop_drop] at s1
      refine ⟨by omega, by simp only [List.length_cons, List.length_nil] at l1 ⊢; omega, ?_⟩
      have hd : ∃ u, (c :: r).drop (2 + j) = 42 :: 47 :: u := by
        match hx : (c :: r).drop (2 + j), s1 with
        | x :: y :: u, s1 =>
          have s2 : [x, y] = [42, 47] := s1
          cases s2
          exact ⟨u, rfl⟩
        | [x], s1 => cases (s1 : [x] = [42, 47])
        | [], s1 => cases (s1 : ([] : List Nat) = [42, 47])
      obtain ⟨u, hu⟩ := hd
      refine cd_drop h (n := j + 3) (p := 47) (s := u) ?_ (by decide) rfl
      rw [show j + 3 = (2 + j) + 1 by omega, ← List.drop_drop, hu]; rfl
    · cases e
  split at e
  · cases e
  · split at e <;> cases e
theorem act_tok {c : Nat} {r : List Nat} {s : List Nat} {v : V} {n : Nat} (e : act c r = .tok s v n) : isBl c = false ∧ (c == 35 || (c :: r).take 2 == [47, 47]) = false ∧ ((c :: r).take 2 == [47, 42]) = false ∧ ((c :: r).take 2 == [63, 62]) = false ∧ tokA c r = some (s, v, n) := by
  unfold act at e
  split at e
  · cases e
  split at e
  · cases e
  split at e
  · split at e <;> cases e
  split at e
  · cases e
  rename_i a b d f
  refine ⟨by simpa using a, by simpa using b, by simpa using d, by simpa using f, ?_⟩
  split at e
  · rename_i q; cases e; exact q
  · cases e
theorem act_badS {c : Nat} {r : List Nat} (e : act c r = .badS) : isBl c = false ∧ (c == 35 || (c :: r).take 2 == [47, 47]) = false ∧ ((c :: r).take 2 == [47, 42]) = false ∧ ((c :: r).take 2 == [63, 62]) = false ∧ tokA c r = none := by
  unfold act at e
  split at e
  · cases e
  split at e
  · cases e
  split at e
  · split at e <;> cases e
  split at e
  · cases e
  rename_i a b d f
  refine ⟨by simpa using a, by simpa using b, by simpa using d, by simpa using f, ?_⟩
  split at e
  · cases e
  · rename_i q; exact q
theorem act_close {c : Nat} {r : List Nat} (e : act c r = .close) : isBl c = false ∧ (c == 35 || (c :: r).take 2 == [47, 47]) = false ∧ ((c :: r).take 2 == [47, 42]) = false ∧ ((c :: r).take 2 == [63, 62]) = true := by
  unfold act at e
  split at e
  · cases e
  split at e
  · cases e
  split at e
  · split at e <;> cases e
  split at e
  · rename_i a b d f; exact ⟨by simpa using a, by simpa using b, by simpa using d, f⟩
  split at e <;> cases e
theorem act_bad {c : Nat} {r : List Nat} (e : act c r = .bad) : isBl c = false ∧ (c == 35 || (c :: r).take 2 == [47, 47]) = false ∧ ((c :: r).take 2 == [47, 42]) = true ∧ comE (c :: r) = none := by
  unfold act at e
  split at e
  · cases e
  split at e
  · cases e
  split at e
  · rename_i a b d
    refine ⟨by simpa using a, by simpa using b, d, ?_⟩
    split at e
    · cases e
    · rename_i q; exact q
  split at e
  · cases e
  split at e <;> cases e
/-- behind a tag there is code, or nothing -/
theorem out_next {t : List Nat} {p a : Nat} (ho : okL p t = true) (ha : a ≤ t.length) : a ≤ outN t a ∧ outN t a ≤ t.length ∧ cdL (t.drop (outN t a)) = true := by
  unfold outN outEnd
  have el := outE_le (t.drop a)
  rw [List.length_drop] at el
  have tgs := out_tag (t.drop a)
  rw [List.drop_drop, List.length_drop] at tgs
  generalize outE (t.drop a) = E at el tgs
  by_cases hE : E < t.length - a
  · obtain ⟨n, hn⟩ := tgs hE
    have hl := tagL_le hn
    rw [List.length_drop] at hl
    rw [hn]
    refine ⟨by omega, by simp; omega, ?_⟩
    show cdL (t.drop (a + E + n)) = true
    rw [← List.drop_drop]
    obtain ⟨q, hq⟩ := okL_drop ho (a + E)
    generalize t.drop (a + E) = r at hn hl hq
    -- which tag
    unfold tagL at hn
    split at hn
    · rename_i b
      cases hn
      have := beq_iff_eq.mp b
      have hh : okL (lastOr q (r.take 3)) (r.drop 3) = true := okL_append (by rw [List.take_append_drop]; exact hq)
      rw [this] at hh
      exact okL_cd36 hh (by simp [lastOr])
    split at hn
    · cases hn
    split at hn
    · rename_i b
      cases hn
      have := beq_iff_eq.mp b
      obtain ⟨q5, hq5⟩ := okL_drop hq 5
      have hh : okL (lastOr q5 ((r.drop 5).take 2)) ((r.drop 5).drop 2) = true := okL_append (by rw [List.take_append_drop]; exact hq5)
      rw [this, List.drop_drop] at hh
      exact okL_cd36 hh (by simp [lastOr])
    split at hn
    · rename_i b; cases hn; rw [b]; rfl
    · rename_i c s b
      split at hn
      · rename_i hb
        cases hn
        obtain ⟨q5, hq5⟩ := okL_drop hq 5
        rw [b] at hq5
        rw [show 6 = 5 + 1 from rfl, ← List.drop_drop, b]
        exact okL_cd36 (okL_cons hq5).2.2 (by rintro rfl; cases hb)
      · cases hn
  · have : t.drop (a + E) = [] := List.drop_of_length_le (by omega)
    rw [this, tagL_nil]
    refine ⟨by simp only [Option.getD_none]; omega, by simp only [Option.getD_none]; omega, ?_⟩
    show cdL (t.drop (a + E + 0)) = true
    rw [Nat.add_zero, this]; rfl
theorem clo_le {t : List Nat} {a c : Nat} {r : List Nat} (h : t.drop a = c :: r) (q : ((c :: r).take 2 == [63, 62]) = true) : clo t a ≤ t.length ∧ a + 2 ≤ clo t a := by
  unfold clo nlN
  have l2 := congrArg List.length (beq_iff_eq.mp q)
  rw [List.length_take] at l2
  have hl : a + (c :: r).length = t.length := by
    have := (drop_consL h).2.1
    rw [← h, List.length_drop]; omega
  simp only [List.length_cons, List.length_nil] at l2 hl
  split
  · rename_i b
    have := congrArg List.length (beq_iff_eq.mp b)
    rw [List.length_take, List.length_drop] at this
    simp at this; omega
  split
  · rename_i b
    have := congrArg List.length (beq_iff_eq.mp b)
    rw [List.length_take, List.length_drop] at this
    simp at this; omega
  · omega
/-- every script is cut -/
theorem spec_is {t : List Nat} {p : Nat} (ho : okL p t = true) : ∀ (n a : Nat) (acc : List Tk), t.length - a < n → cdL (t.drop a) = true → ∃ res, Spec t a acc res
  | 0, a, acc, hn, _ => by omega
  | n + 1, a, acc, hn, hc => by
    by_cases ha : t.length ≤ a
    · exact ⟨_, .fin ha⟩
    cases hr : t.drop a with
    | nil => exact absurd (drop_nilL hr) ha
    | cons c r =>
      rw [hr] at hc
      have hl : a + (c :: r).length = t.length := by rw [← hr, List.length_drop]; omega
      cases hq : act c r with
      | go m =>
        obtain ⟨h1, h2, h3⟩ := act_go hc hq
        obtain ⟨res, s⟩ := spec_is ho n (a + m) acc (by omega) (by rw [← List.drop_drop, hr]; exact h3)
        exact ⟨res, .go hr hq s⟩
      | bad => exact ⟨_, .bad hr hq⟩
      | badS => exact ⟨_, .badS hr hq⟩
      | close =>
        obtain ⟨k1, k2⟩ := clo_le hr (act_close hq).2.2.2
        obtain ⟨o1, o2, o3⟩ := out_next ho k1
        obtain ⟨res, s⟩ := spec_is ho n (outN t (clo t a)) _ (by omega) o3
        exact ⟨res, .close hr hq s⟩
      | tok s v m =>
        obtain ⟨h1, h2, h3⟩ := tok_next hc (act_tok hq).2.2.2.2
        obtain ⟨res, s⟩ := spec_is ho n (a + m) _ (by omega) (by rw [← List.drop_drop, hr]; exact h3)
        exact ⟨res, .tok hr hq s⟩
end Mine
end
section
set_option Elab.async false
set_option linter.all false
namespace Mine
open P2

theorem find_q : ∀ r : List Nat, findFrom [39] r 0 = qEnd r
  | [] => rfl
  | c :: r => by
    unfold findFrom qEnd
    rw [sw_cons, findFrom_at, find_q r]
section
variable {C : Calls} {N : Nat} {loc : L} {h h1 h2 : H}
theorem m_idx {a b : ME} {x y z : V} (e1 : mev C a loc h = .ok x h1) (e2 : mev C b loc h1 = .ok y h2) (e3 : idxV h2 x y = some z) : mev C (.idx a b) loc h = .ok z h2 := by
  rw [e_idx, e1, ok_bind, e2, ok_bind, e3, ofO_some]
end
theorem sem_law_token {N k at' : Nat} {t r : List Nat} {c : Nat} {h : H} (hr : t.drop at' = c :: r) (h1 : cdL (c :: r) = true) (h2 : ∀ c ∈ t, c ∈ alpha) (hb : t.length < big) :
    match tokA c r with
    | some (s, v, n) => ∃ b : Nat, (b = at' + n ∨ (t.length ≤ at' + n ∧ t.length ≤ b)) ∧ sem tab N (k + 2) 56 [.str t, .int at'] h = .ok (.tup [.str s, v, .int b]) h
    | none => ∃ v, sem tab N (k + 2) 56 [.str t, .int at'] h = .ok (.tup [.str [115, 116, 114], v, .int (-1)]) h := by
  rw [sem_call (d := f_law_token) rfl rfl]
  obtain ⟨e1, e2, e3⟩ := drop_consL hr
  have ix : ∀ h, mev (sem tab N (k + 1)) (.idx (.var 0) (.var 1)) [some (.str t), some (.int at'), none, none, none] h = .ok (.str [c]) h := fun h => by simp only [e_var, e_idx, List.getElem?_cons_zero, List.getElem?_cons_succ, varR_ok, ok_bind, ofO_some, idx_str h e1]
  have hlen : at' + (c :: r).length = t.length := by rw [← hr, List.length_drop]; omega
  have wd1 := sem_law_word (N := N) (k := k) (at' := at' + 1) (t := t) (h := h) h2
  have wd0 := sem_law_word (N := N) (k := k) (at' := at') (t := t) (h := h) h2
  rw [e3] at wd1
  rw [hr] at wd0
  simp only [f_law_token, List.map_cons, List.map_nil, List.cons_append, List.nil_append, Nat.reduceSub, List.replicate]
  unfold tokA
  cases b1 : c == 39 with
  | true =>
    simp only [if_true]
    have fd := find_at (t := t) (p := [39]) (i := at' + 1) (h := h) (by omega) hb (by decide)
    rw [e3, find_q] at fd
    have q1 := m_cmp (C := sem tab N (k + 1)) (o := .eq) (ix h) (e_str (sem tab N (k + 1)) [some (.str t), some (.int at'), none, none, none] h [39]) ((eq_str h [c] [39]).trans (by rw [beq_str1, b1]))
    cases hq : qEnd r with
    | none =>
      rw [hq] at fd
      have d3 : decide (fInt none (at' + 1) < 0) = true := rfl
      refine ⟨_, (st_if_t q1).trans (st_assoc.trans ((st_next (m_assign ((m_p3 (by simp only [e_var, List.getElem?_cons_zero, varR_ok] <;> rfl) rfl (by simp only [e_str] <;> rfl) (by simp only [e_int, e_var, e_bin, List.getElem?_cons_zero, List.getElem?_cons_succ, varR_ok, ok_bind, add_int, ofO_some, nat1] <;> rfl)).trans fd))).trans (st_assoc.trans ((st_ret (m_ret (by simp only [e_int, e_var, e_str, e_bin, e_cmp, e_slc, e_ite, e_tup, e_neg, es_nil', es_cons', List.getElem?_cons_zero, List.getElem?_cons_succ, List.set_cons_zero, List.set_cons_succ, varR_ok, ok_bind, add_int, ofO_some, nat1, lt_int, Option.map_some, truth_bool, ifR_some, e_neg, negR, d3, if_true] <;> rfl))).trans (back_same rfl)))))⟩
    | some j =>
      rw [hq] at fd
      have d3 : decide (fInt (some j) (at' + 1) < 0) = false := by rw [lt_zero, fInt_neg]; rfl
      have e4 : fInt (some j) (at' + 1) = ((at' + 1 + j : Nat) : Int) := rfl
      refine ⟨at' + (j + 2), .inl rfl, (st_if_t q1).trans (st_assoc.trans ((st_next (m_assign ((m_p3 (by simp only [e_var, List.getElem?_cons_zero, varR_ok] <;> rfl) rfl (by simp only [e_str] <;> rfl) (by simp only [e_int, e_var, e_bin, List.getElem?_cons_zero, List.getElem?_cons_succ, varR_ok, ok_bind, add_int, ofO_some, nat1] <;> rfl)).trans fd))).trans (st_assoc.trans ((st_ret (m_ret (by simp only [e_int, e_var, e_str, e_bin, e_cmp, e_slc, e_ite, e_tup, e_neg, es_nil', es_cons', List.getElem?_cons_zero, List.getElem?_cons_succ, List.set_cons_zero, List.set_cons_succ, varR_ok, ok_bind, ite_bind, add_int, ofO_some, nat1, slc_str, lt_int, Option.map_some, truth_bool, ifR_some, Nat.add_sub_cancel_left, e4, e3] <;> rfl))).trans ?_))))⟩
      rw [show at' + (j + 2) = at' + 1 + j + 1 by omega]
      exact back_same rfl
  | false =>
  have g1 := fun a d => st_if_f (a := a) (c := d) (C := sem tab N (k + 1)) (N := N) (h0 := h) (h := h) (h' := h) (t := .cmp .eq (.idx (.var 0) (.var 1)) (.str [39])) (loc := [some (.str t), some (.int at'), none, none, none]) (m_cmp (ix h) (by simp only [e_str] <;> rfl) (by rw [eq_str, beq_str1, b1]))
  simp only [g1, Bool.false_eq_true, if_false]
  clear g1
  have wne : ∀ s : List Nat, (s.take (wordL s) == []) = (wordL s == 0) := fun s => by
    have := wordL_le s
    rw [Bool.eq_iff_iff, beq_iff_eq, beq_iff_eq]
    constructor
    · intro q
      have := congrArg List.length q
      rw [List.length_take] at this
      simp only [List.length_nil] at this; omega
    · intro q; rw [q]; rfl
  cases b2 : (c == 36 && !(wordL r == 0)) with
  | true =>
    obtain ⟨q1, q2⟩ := Bool.and_eq_true_iff.mp b2
    have hl : isLet c = false := by rw [beq_iff_eq.mp q1]; rfl
    have tst : mev (sem tab N (k + 1)) (.and (.cmp .eq (.idx (.var 0) (.var 1)) (.str [36])) (.cmp .ne (.call 54 (.cons (.var 0) (.cons (.bin .add (.var 1) (.int 1)) .nil))) (.str []))) [some (.str t), some (.int at'), none, none, none] h = .ok (.bool true) h := by
      simp only [e_int, e_var, e_str, e_bin, e_cmp, e_idx, e_and, e_call, es_nil', es_cons', List.getElem?_cons_zero, List.getElem?_cons_succ, varR_ok, ok_bind, add_int, ofO_some, nat1, eq_str, ne_str, Option.map_some, andR_ok, boolR_ok, idx_str h e1, beq_str1, q1, wd1, wne, q2, if_true]
    simp only [st_if_t tst, st_assoc, hl, Bool.false_eq_true, if_false, if_true]
    refine ⟨_, .inl rfl, (st_next (m_assign (by simp only [e_int, e_var, e_bin, e_call, es_nil', es_cons', List.getElem?_cons_zero, List.getElem?_cons_succ, varR_ok, ok_bind, add_int, ofO_some, nat1, wd1] <;> rfl))).trans (st_assoc.trans ((st_ret (m_ret (by simp only [e_int, e_var, e_str, e_bin, e_p1, e_tup, es_nil', es_cons', List.getElem?_cons_zero, List.getElem?_cons_succ, List.set_cons_zero, List.set_cons_succ, varR_ok, ok_bind, add_int, ofO_some, nat1, len_str] <;> rfl))).trans ?_))⟩
    rw [List.length_take, Nat.min_eq_left (wordL_le r)]
    rw [show at' + (1 + wordL r) = at' + 1 + wordL r by omega]
    exact back_same rfl
  | false =>
  have tst : mev (sem tab N (k + 1)) (.and (.cmp .eq (.idx (.var 0) (.var 1)) (.str [36])) (.cmp .ne (.call 54 (.cons (.var 0) (.cons (.bin .add (.var 1) (.int 1)) .nil))) (.str []))) [some (.str t), some (.int at'), none, none, none] h = .ok (.bool false) h := by
    cases q1 : c == 36 with
    | false => simp only [e_int, e_var, e_str, e_bin, e_cmp, e_idx, e_and, e_call, es_nil', es_cons', List.getElem?_cons_zero, List.getElem?_cons_succ, varR_ok, ok_bind, add_int, ofO_some, nat1, eq_str, Option.map_some, andR_ok, idx_str h e1, beq_str1, q1, Bool.false_eq_true, if_false]
    | true =>
      rw [q1, Bool.true_and] at b2
      simp only [e_int, e_var, e_str, e_bin, e_cmp, e_idx, e_and, e_call, es_nil', es_cons', List.getElem?_cons_zero, List.getElem?_cons_succ, varR_ok, ok_bind, add_int, ofO_some, nat1, eq_str, ne_str, Option.map_some, andR_ok, boolR_ok, idx_str h e1, beq_str1, q1, wd1, wne, b2, ite_self]
  simp only [st_if_f tst, Bool.false_eq_true, if_false]
  cases b3 : c == 49 with
  | true =>
    have hl : isLet c = false := by rw [beq_iff_eq.mp b3]; rfl
    simp only [st_if_t (m_cmp (ix h) (e_str _ _ _ _) ((eq_str h [c] [49]).trans (by rw [beq_str1, b3]))), hl, st_assoc, Bool.false_eq_true, if_false, if_true]
    refine ⟨_, .inl rfl, (st_ret (m_ret (by simp only [e_int, e_var, e_str, e_bin, e_tup, es_nil', es_cons', List.getElem?_cons_zero, List.getElem?_cons_succ, varR_ok, ok_bind, add_int, ofO_some, nat1] <;> rfl))).trans ?_⟩
    exact back_same rfl
  | false =>
  simp only [st_if_f (m_cmp (ix h) (e_str _ _ _ _) ((eq_str h [c] [49]).trans (by rw [beq_str1, b3]))), Bool.false_eq_true, if_false]
  have nx := fun b => st_next (b := b) (C := sem tab N (k + 1)) (N := N) (h0 := h) (h := h) (h' := h) (a := .assign 2 (.call 54 (.cons (.var 0) (.cons (.var 1) .nil)))) (loc := [some (.str t), some (.int at'), none, none, none]) (loc' := [some (.str t), some (.int at'), some (.str ((c :: r).take (wordL (c :: r)))), none, none]) (m_assign (by simp only [e_var, e_call, es_nil', es_cons', List.getElem?_cons_zero, List.getElem?_cons_succ, varR_ok, ok_bind, wd0] <;> rfl))
  simp only [nx]
  clear nx
  cases b4 : isLet c with
  | true =>
    have w0 : (wordL (c :: r) == 0) = false := by rw [wordL_pos b4, beq_eq_false_iff_ne]; omega
    simp only [if_true]
    refine ⟨_, .inl rfl, (st_if_t (by simp only [e_var, e_str, e_cmp, List.getElem?_cons_zero, List.getElem?_cons_succ, varR_ok, ok_bind, ofO_some, ne_str, Option.map_some, wne, w0, Bool.not_false] <;> rfl)).trans (st_assoc.trans ((st_ret (m_ret (by simp only [e_var, e_str, e_bin, e_p1, e_tup, es_nil', es_cons', List.getElem?_cons_zero, List.getElem?_cons_succ, varR_ok, ok_bind, add_int, ofO_some, len_str] <;> rfl))).trans ?_))⟩
    rw [List.length_take, Nat.min_eq_left (wordL_le (c :: r))]
    exact back_same rfl
  | false =>
    have w0 : (wordL (c :: r) == 0) = true := by
      have : isWd c = false := by unfold isWd; rw [b4, b3]; rfl
      simp only [wordL, List.takeWhile_cons, this, Bool.false_eq_true, if_false, List.length_nil]; rfl
    simp only [st_if_f (loc := [some (.str t), some (.int at'), some (.str ((c :: r).take (wordL (c :: r)))), none, none]) (h := h) (h' := h) (h0 := h) (C := sem tab N (k + 1)) (N := N) (t := .cmp .ne (.var 2) (.str [])) (by simp only [e_var, e_str, e_cmp, List.getElem?_cons_zero, List.getElem?_cons_succ, varR_ok, ok_bind, ofO_some, ne_str, Option.map_some, wne, w0, Bool.not_true] <;> rfl), Bool.false_eq_true, if_false]
    have i1 : items h (.lst [.int 3, .int 2]) = some [.int 3, .int 2] := rfl
    have inW : ∀ p, cmpV .isin h (.str p) (.lst [.str [63, 63, 61], .str [60, 61, 62], .str [60, 60, 61], .str [62, 62, 61], .str [61, 61, 61], .str [63, 63], .str [60, 61], .str [62, 61], .str [61, 61], .str [61, 62], .str [60, 62], .str [60, 60], .str [62, 62]]) = some (opsW.any (· == p)) := fun p => in_mapL h p opsW
    unfold opW
    cases b5 : opsW.any (· == (c :: r).take 3) with
    | true =>
      refine ⟨at' + 3, ?_, ?_⟩
      · simp only [if_true, List.length_take]
        rcases Nat.lt_or_ge 2 (c :: r).length with q | q
        · left; omega
        · right; omega
      · refine (st_ret (h' := h) (v := .tup [.str [111, 112], .str ((c :: r).take 3), .int (at' + 3 : Nat)]) (by simp only [x_for, itemsR_some, isRefV, fl_cons, flR_ret, x_seq, x_ite, x_ret, x_skip, e_int, e_var, e_str, e_bin, e_cmp, e_slc, e_tup, e_list, es_nil', es_cons', List.getElem?_cons_zero, List.getElem?_cons_succ, List.set_cons_zero, List.set_cons_succ, varR_ok, ok_bind, add_int, ofO_some, nat3, slc_str, Option.map_some, truth_bool, ifR_some, seqR_ret, Nat.add_sub_cancel_left, i1, inW, hr, b5, Bool.false_eq_true, if_false, if_true])).trans ?_
        exact back_same rfl
    | false =>
    cases b6 : opsW.any (· == (c :: r).take 2) with
    | true =>
      refine ⟨at' + 2, ?_, ?_⟩
      · simp only [Bool.false_eq_true, if_false, if_true, List.length_take]
        rcases Nat.lt_or_ge 1 (c :: r).length with q | q
        · left; omega
        · right; omega
      · refine (st_ret (h' := h) (v := .tup [.str [111, 112], .str ((c :: r).take 2), .int (at' + 2 : Nat)]) (by simp only [x_for, itemsR_some, isRefV, fl_cons, flR_next, flR_ret, x_seq, x_ite, x_ret, x_skip, e_int, e_var, e_str, e_bin, e_cmp, e_slc, e_tup, e_list, es_nil', es_cons', List.getElem?_cons_zero, List.getElem?_cons_succ, List.set_cons_zero, List.set_cons_succ, varR_ok, ok_bind, add_int, ofO_some, nat2, nat3, slc_str, Option.map_some, truth_bool, ifR_some, seqR_next, seqR_ret, Nat.add_sub_cancel_left, i1, inW, hr, b5, b6, Bool.false_eq_true, if_false, if_true])).trans ?_
        exact back_same rfl
    | false =>
      refine ⟨at' + 1, .inl rfl, ?_⟩
      refine (st_next (loc' := [some (.str t), some (.int at'), some (.str ((c :: r).take (wordL (c :: r)))), some (.int 2), none]) (h' := h) (by simp only [x_for, itemsR_some, isRefV, fl_nil, fl_cons, flR_next, x_seq, x_ite, x_ret, x_skip, e_int, e_var, e_str, e_bin, e_cmp, e_slc, e_tup, e_list, es_nil', es_cons', List.getElem?_cons_zero, List.getElem?_cons_succ, List.set_cons_zero, List.set_cons_succ, varR_ok, ok_bind, add_int, ofO_some, nat2, nat3, slc_str, Option.map_some, truth_bool, ifR_some, seqR_next, seqR_ret, Nat.add_sub_cancel_left, i1, inW, hr, b5, b6, Bool.false_eq_true, if_false])).trans ?_
      refine (st_ret (h' := h) (v := .tup [.str [111, 112], .str ((c :: r).take 1), .int (at' + 1 : Nat)]) (m_ret (by simp only [e_int, e_var, e_str, e_bin, e_idx, e_tup, es_nil', es_cons', List.getElem?_cons_zero, List.getElem?_cons_succ, varR_ok, ok_bind, add_int, ofO_some, nat1, idx_str h e1, List.take_succ_cons, List.take_zero] <;> rfl))).trans ?_
      simp only [Bool.false_eq_true, if_false]
      exact back_same rfl
end Mine
end
section
set_option Elab.async false
set_option linter.all false
namespace Mine
open P2

section
variable {C : Calls} {N : Nat} {t : ME} {a b c : MS} {loc loc' : L} {h h' h1 h2 : H} {v x y : V}
theorem nx_next (e : mex C N a loc h = .ok (.next loc') h') : mex C N (.seq a b) loc h = mex C N b loc' h' := by rw [x_seq, e]; rfl
theorem nx_ret (e : mex C N a loc h = .ok (.ret v) h') : mex C N (.seq a b) loc h = .ok (.ret v) h' := by rw [x_seq, e]; rfl
theorem nx_pf {w : List Nat} {l : Int} (e : mex C N a loc h = .pf w l h') : mex C N (.seq a b) loc h = .pf w l h' := by rw [x_seq, e]; rfl
theorem nx_if_f (e : mev C t loc h = .ok (.bool false) h') : mex C N (.seq (.ite t a .skip) c) loc h = mex C N c loc h' := by
  rw [x_seq, x_ite, e, ok_bind, truth_bool, ifR_some, if_neg Bool.false_ne_true, x_skip, ok_bind, seqR_next]
theorem nx_if_e (e : mev C t loc h = .ok (.bool false) h') : mex C N (.seq (.ite t a b) c) loc h = mex C N (.seq b c) loc h' := by
  rw [x_seq, x_ite, e, ok_bind, truth_bool, ifR_some, if_neg Bool.false_ne_true, x_seq]
theorem nx_if_t (e : mev C t loc h = .ok (.bool true) h') : mex C N (.seq (.ite t a b) c) loc h = mex C N (.seq a c) loc h' := by
  rw [x_seq, x_ite, e, ok_bind, truth_bool, ifR_some, if_pos rfl, x_seq]
theorem nx_assoc : mex C N (.seq (.seq a b) c) loc h = mex C N (.seq a (.seq b c)) loc h := by
  rw [x_seq, x_seq, x_seq]
  cases mex C N a loc h with
  | stuck => rfl
  | pf => rfl
  | ok f h1 => cases f with
    | ret v => rfl
    | next l1 => simp only [ok_bind, seqR_next, x_seq]
theorem nx_skip : mex C N (.seq .skip c) loc h = mex C N c loc h := by rw [x_seq, x_skip]; rfl
theorem m_pair {i j : Nat} {a b : ME} (e1 : mev C a loc h = .ok x h1) (e2 : mev C b loc h1 = .ok y h2) : mex C N (.pair i j a b) loc h = .ok (.next ((loc.set j (some y)).set i (some x))) h2 := by
  rw [x_pair, e1, ok_bind, e2, ok_bind]
end

noncomputable def refW : List Nat := [114, 101, 102, 117, 115, 101, 100]
noncomputable def readW : List Nat := [114, 101, 97, 100]
noncomputable def LawOut (t : List Nat) (h : H) (x : R Fl) : Res → Prop
  | .read l => ∃ x2 x3 x4 x5 x6 x7, x = .ok (.next [some (.str t), some (.ref h.length), x2, x3, x4, x5, x6, x7]) (h ++ [l.map tpV])
  | .refC r => ∃ y, x = .ok (.ret (.tup [.str refW, .str (comW ++ textOf (r : Int)), .int r])) (h ++ [y])
  | .refS r => ∃ y, x = .ok (.ret (.tup [.str refW, .str endW, .int r])) (h ++ [y])
noncomputable def lawB : MS := (.seq (.pair 3 4 (.call 55 (.cons (.var 0) (.cons (.var 2) .nil))) (.call 52 (.cons (.var 0) (.cons (.var 2) .nil))))
    (.seq (.ite (.cmp .lt (.var 3) (.int 0))
    (.seq (.ret (.tup (.cons (.str [114, 101, 102, 117, 115, 101, 100]) (.cons (.bin .add (.str [85, 110, 116, 101, 114, 109, 105, 110, 97, 116, 101, 100, 32, 99, 111, 109, 109, 101, 110, 116, 32, 115, 116, 97, 114, 116, 105, 110, 103, 32, 108, 105, 110, 101, 32]) (.p1 .str (.var 4))) (.cons (.var 4) .nil)))))
    .skip)
    .skip)
    (.seq (.ite (.cmp .gt (.var 3) (.int 0))
    (.seq (.assign 2 (.var 3))
    .skip)
    (.seq (.ite (.cmp .eq (.slc (.var 0) (.var 2) (.bin .add (.var 2) (.int 2))) (.str [63, 62]))
    (.seq (.expr (.p2 .append (.var 1) (.tup (.cons (.str [111, 112]) (.cons (.str [59]) (.cons (.var 4) .nil))))))
    (.seq (.assign 5 (.ite (.cmp .eq (.slc (.var 0) (.bin .add (.var 2) (.int 2)) (.bin .add (.var 2) (.int 4))) (.str [13, 10])) (.int 2) (.ite (.cmp .eq (.slc (.var 0) (.bin .add (.var 2) (.int 2)) (.bin .add (.var 2) (.int 3))) (.str [10])) (.int 1) (.int 0))))
    (.seq (.assign 2 (.call 53 (.cons (.var 0) (.cons (.bin .add (.bin .add (.var 2) (.int 2)) (.var 5)) (.cons (.var 1) .nil)))))
    .skip)))
    (.seq (.unpack [6, 7, 3] (.call 56 (.cons (.var 0) (.cons (.var 2) .nil))))
    (.seq (.ite (.cmp .lt (.var 3) (.int 0))
    (.seq (.ret (.tup (.cons (.str [114, 101, 102, 117, 115, 101, 100]) (.cons (.str [115, 121, 110, 116, 97, 120, 32, 101, 114, 114, 111, 114, 44, 32, 117, 110, 101, 120, 112, 101, 99, 116, 101, 100, 32, 101, 110, 100, 32, 111, 102, 32, 102, 105, 108, 101]) (.cons (.var 4) .nil)))))
    .skip)
    .skip)
    (.seq (.expr (.p2 .append (.var 1) (.tup (.cons (.var 6) (.cons (.var 7) (.cons (.var 4) .nil))))))
    (.seq (.assign 2 (.var 3))
    .skip)))))
    .skip))
    .skip)))
theorem gap_act {N k a : Nat} {t r : List Nat} {c : Nat} {h : H} (hr : t.drop a = c :: r) (hb : t.length < big) : sem tab N (k + 1) 55 [.str t, .int a] h = .ok (.int (match act c r with | .go n => ((a + n : Nat) : Int) | .bad => -1 | _ => 0)) h := by
  rw [sem_law_gap hr hb]
  congr 2
  unfold act
  split
  · rfl
  split
  · rfl
  split
  · cases comE (c :: r) <;> rfl
  cases b4 : ((c :: r).take 2 == [63, 62]) with
  | true => simp only [if_true]
  | false => cases tokA c r <;> simp only [Bool.false_eq_true, if_false]
theorem row_le (t : List Nat) (a : Nat) : row t a ≤ t.length + 1 := by
  unfold row
  have := count_le (t.take a) 10
  have := List.length_take_le a t
  have := List.length_take_le' a t
  omega
theorem out_len (t : List Nat) (a : Nat) : (outS t a).length ≤ 2 := by
  unfold outS out1 out2
  rw [List.length_append]
  split <;> split <;> simp
theorem law_loop {N k p : Nat} {t : List Nat} {h : H} (ho : okL p t = true) (hT : t.length < 20000) (hN : t.length + 2 < N) : ∀ {a : Nat} {acc : List Tk} {res : Res}, Spec t a acc res → ∀ (n : Nat) (x3 x4 x5 x6 x7 : Option V), t.length - a < n → cdL (t.drop a) = true → acc.length + 3 * (t.length - a) + 4 < big →
    LawOut t h (wloop (mev (sem tab N (k + 2)) (.cmp .lt (.var 2) (.p1 .len (.var 0)))) (mex (sem tab N (k + 2)) N lawB) n [some (.str t), some (.ref h.length), some (.int a), x3, x4, x5, x6, x7] (h ++ [acc.map tpV])) res := by
  have hb : t.length < big := by rw [big_is]; omega
  have h2 : ∀ c ∈ t, c ∈ alpha := okL_mem ho
  have hl : ∀ c ∈ t, c < 128 := fun c hc => alpha_low (h2 c hc)
  intro a acc res s
  have stop : ∀ (b : Nat) (acc : List Tk) (n : Nat) (x3 x4 x5 x6 x7 : Option V), t.length ≤ b → LawOut t h (wloop (mev (sem tab N (k + 2)) (.cmp .lt (.var 2) (.p1 .len (.var 0)))) (mex (sem tab N (k + 2)) N lawB) (n + 1) [some (.str t), some (.ref h.length), some (.int b), x3, x4, x5, x6, x7] (h ++ [acc.map tpV])) (.read acc) := fun b acc n x3 x4 x5 x6 x7 hle => by
    have d : decide (b < t.length) = false := by rw [decide_eq_false_iff_not]; omega
    exact ⟨_, _, _, _, _, _, wl_false (by simp only [e_var, e_cmp, e_p1, List.getElem?_cons_zero, List.getElem?_cons_succ, varR_ok, ok_bind, ofO_some, lt_int, Option.map_some, len_str, lt_nat, d])⟩
  have less : ∀ {a c : Nat} {r : List Nat}, t.drop a = c :: r → a + (c :: r).length = t.length := fun {a c r} q => by
    have := (drop_consL q).2.1
    rw [← q, List.length_drop]; omega
  have tst : ∀ {a c : Nat} {r : List Nat} (H : H) (x3 x4 x5 x6 x7 : Option V), t.drop a = c :: r → mev (sem tab N (k + 2)) (.cmp .lt (.var 2) (.p1 .len (.var 0))) [some (.str t), some (.ref h.length), some (.int a), x3, x4, x5, x6, x7] H = .ok (.bool true) H := fun {a c r} H x3 x4 x5 x6 x7 q => by
    have d : decide (a < t.length) = true := by rw [decide_eq_true_eq]; exact (drop_consL q).2.1
    simp only [e_var, e_cmp, e_p1, List.getElem?_cons_zero, List.getElem?_cons_succ, varR_ok, ok_bind, ofO_some, lt_int, Option.map_some, len_str, lt_nat, d]
  have pr : ∀ {a c : Nat} {r : List Nat} {b : MS} {g : Int} (H : H) (x3 x4 x5 x6 x7 : Option V), t.drop a = c :: r → (match act c r with | .go n => ((a + n : Nat) : Int) | .bad => -1 | _ => 0) = g →
      mex (sem tab N (k + 2)) N (.seq (.pair 3 4 (.call 55 (.cons (.var 0) (.cons (.var 2) .nil))) (.call 52 (.cons (.var 0) (.cons (.var 2) .nil)))) b) [some (.str t), some (.ref h.length), some (.int a), x3, x4, x5, x6, x7] H = mex (sem tab N (k + 2)) N b [some (.str t), some (.ref h.length), some (.int a), some (.int g), some (.int (row t a : Nat)), x5, x6, x7] H := fun {a c r b g} H x3 x4 x5 x6 x7 q e => by
    subst e
    have g1 : ∀ H, sem tab N (k + 2) 55 _ H = _ := fun H => gap_act (N := N) (k := k + 1) (h := H) q hb
    have g2 : ∀ H, sem tab N (k + 2) 52 [.str t, .int a] H = _ := fun H => sem_law_row (N := N) (k := k + 1) (h := H)
    exact nx_next (m_pair (by simp only [e_var, e_call, es_nil', es_cons', List.getElem?_cons_zero, List.getElem?_cons_succ, varR_ok, ok_bind, g1] <;> rfl) (by simp only [e_var, e_call, es_nil', es_cons', List.getElem?_cons_zero, List.getElem?_cons_succ, varR_ok, ok_bind, g2] <;> rfl))
  induction s with
  | @fin a acc hle =>
    intro n x3 x4 x5 x6 x7 hn _ _
    obtain ⟨m, rfl⟩ : ∃ m, n = m + 1 := ⟨n - 1, by omega⟩
    exact stop a acc m x3 x4 x5 x6 x7 hle
  | @go a acc c r m res hr q s ih =>
    intro n x3 x4 x5 x6 x7 hn hc hbig
    obtain ⟨n, rfl⟩ : ∃ m, n = m + 1 := ⟨n - 1, by omega⟩
    rw [hr] at hc
    obtain ⟨m1, m2, m3⟩ := act_go hc q
    have ll := less hr
    have d1 : decide (((a + m : Nat) : Int) < 0) = false := by rw [decide_eq_false_iff_not]; omega
    have d2 : decide (0 < ((a + m : Nat) : Int)) = true := by rw [decide_eq_true_eq]; omega
    rw [wl_true (h' := h ++ [acc.map tpV]) (h'' := h ++ [acc.map tpV]) (loc' := [some (.str t), some (.ref h.length), some (.int (a + m : Nat)), some (.int (a + m : Nat)), some (.int (row t a : Nat)), x5, x6, x7]) (tst _ _ _ _ _ _ hr) (by
      unfold lawB
      refine (pr (g := ((a + m : Nat) : Int)) _ _ _ _ _ _ hr (by rw [q])).trans ?_
      refine (nx_if_f (by simp only [e_int, e_var, e_cmp, List.getElem?_cons_zero, List.getElem?_cons_succ, varR_ok, ok_bind, ofO_some, lt_int, Option.map_some, d1] <;> rfl)).trans ?_
      refine (nx_if_t (by simp only [e_int, e_var, e_cmp, List.getElem?_cons_zero, List.getElem?_cons_succ, varR_ok, ok_bind, ofO_some, gt_int, Option.map_some, d2] <;> rfl)).trans (nx_assoc.trans ?_)
      refine (nx_next (m_assign (by simp only [e_var, List.getElem?_cons_zero, List.getElem?_cons_succ, varR_ok] <;> rfl))).trans (nx_skip.trans ?_)
      rw [x_skip]; rfl)]
    exact ih n _ _ _ _ _ (by omega) (by rw [← List.drop_drop, hr]; exact m3) (by omega)
  | @bad a acc c r hr q =>
    intro n x3 x4 x5 x6 x7 hn hc hbig
    obtain ⟨n, rfl⟩ : ∃ m, n = m + 1 := ⟨n - 1, by omega⟩
    have d1 : decide ((-1 : Int) < 0) = true := rfl
    have rl := row_le t a
    have cs := comStr' (h := h ++ [acc.map tpV]) (i := row t a) (by omega)
    have ss := str_small (h := h ++ [acc.map tpV]) (i := row t a) (by omega)
    refine ⟨_, wl_ret (tst _ _ _ _ _ _ hr) (h'' := h ++ [acc.map tpV]) ?_⟩
    unfold lawB
    refine (pr (g := -1) _ _ _ _ _ _ hr (by rw [q])).trans ?_
    refine (nx_if_t (by simp only [e_int, e_var, e_cmp, List.getElem?_cons_zero, List.getElem?_cons_succ, varR_ok, ok_bind, ofO_some, lt_int, Option.map_some, d1] <;> rfl)).trans (nx_assoc.trans ?_)
    have bn : mev (sem tab N (k + 2)) (.bin .add (.str [85, 110, 116, 101, 114, 109, 105, 110, 97, 116, 101, 100, 32, 99, 111, 109, 109, 101, 110, 116, 32, 115, 116, 97, 114, 116, 105, 110, 103, 32, 108, 105, 110, 101, 32]) (.p1 .str (.var 4))) [some (.str t), some (.ref h.length), some (.int a), some (.int (-1)), some (.int (row t a : Nat)), x5, x6, x7] (h ++ [acc.map tpV]) = _ := m_bin (by simp only [e_str] <;> rfl) ((m_p1 (by simp only [e_var, List.getElem?_cons_zero, List.getElem?_cons_succ, varR_ok] <;> rfl)).trans ss) cs
    refine nx_ret (m_ret ?_)
    rw [e_tup, es_cons', e_str, ok_bind, es_cons', bn, ok_bind, es_cons']
    simp only [e_var, es_nil', List.getElem?_cons_zero, List.getElem?_cons_succ, varR_ok, ok_bind]
    rfl
  | @close a acc c r res hr q s ih =>
    intro n x3 x4 x5 x6 x7 hn hc hbig
    obtain ⟨n, rfl⟩ : ∃ m, n = m + 1 := ⟨n - 1, by omega⟩
    have b := (act_close q).2.2.2
    obtain ⟨k1, k2⟩ := clo_le hr b
    obtain ⟨o1, o2, o3⟩ := out_next ho k1
    have ll := less hr
    have e1 : ((acc.map tpV).length) < big := by simp; omega
    have lo : sem tab N (k + 2) 53 [.str t, .int (clo t a : Nat), .ref h.length] (h ++ [acc.map tpV ++ [tpV ([111, 112], .str [59], row t a)]]) = _ := sem_law_outside (k := k) hl k1 (by omega) hb (by simp; omega)
    have o7 := out_len t (clo t a)
    have e24 : a + 4 - (a + 2) = 2 := by omega
    have e23 : a + 3 - (a + 2) = 1 := by omega
    have nl : ∀ H, mev (sem tab N (k + 2)) (.ite (.cmp .eq (.slc (.var 0) (.bin .add (.var 2) (.int 2)) (.bin .add (.var 2) (.int 4))) (.str [13, 10])) (.int 2) (.ite (.cmp .eq (.slc (.var 0) (.bin .add (.var 2) (.int 2)) (.bin .add (.var 2) (.int 3))) (.str [10])) (.int 1) (.int 0))) [some (.str t), some (.ref h.length), some (.int a), some (.int 0), some (.int (row t a : Nat)), x5, x6, x7] H = .ok (.int (nlN (t.drop (a + 2)) : Nat)) H := fun H => by
      unfold nlN
      have n4 : (a : Int) + 4 = ((a + 4 : Nat) : Int) := rfl
      cases b3 : ((t.drop (a + 2)).take 2 == [13, 10]) with
      | true => simp only [e_int, e_var, e_str, e_bin, e_cmp, e_slc, e_ite, List.getElem?_cons_zero, List.getElem?_cons_succ, varR_ok, ok_bind, add_int, ofO_some, nat2, nat3, slc_str, eq_str, Option.map_some, truth_bool, ifR_some, n4, e24, b3, if_true]; rfl
      | false =>
        cases b4 : ((t.drop (a + 2)).take 1 == [10]) with
        | true => simp only [e_int, e_var, e_str, e_bin, e_cmp, e_slc, e_ite, List.getElem?_cons_zero, List.getElem?_cons_succ, varR_ok, ok_bind, add_int, ofO_some, nat2, nat3, slc_str, eq_str, Option.map_some, truth_bool, ifR_some, n4, e24, e23, b3, b4, Bool.false_eq_true, if_false, if_true]; rfl
        | false => simp only [e_int, e_var, e_str, e_bin, e_cmp, e_slc, e_ite, List.getElem?_cons_zero, List.getElem?_cons_succ, varR_ok, ok_bind, add_int, ofO_some, nat2, nat3, slc_str, eq_str, Option.map_some, truth_bool, ifR_some, n4, e24, e23, b3, b4, Bool.false_eq_true, if_false]; rfl
    rw [wl_true (h' := h ++ [acc.map tpV]) (h'' := h ++ [(acc ++ [([111, 112], V.str [59], row t a)] ++ outS t (clo t a)).map tpV]) (loc' := [some (.str t), some (.ref h.length), some (.int (outN t (clo t a) : Nat)), some (.int 0), some (.int (row t a : Nat)), some (.int (nlN (t.drop (a + 2)) : Nat)), x6, x7]) (tst _ _ _ _ _ _ hr) (by
      unfold lawB
      refine (pr (g := 0) _ _ _ _ _ _ hr (by rw [q])).trans ?_
      refine (nx_if_f (by simp only [e_int, e_var, e_cmp, List.getElem?_cons_zero, List.getElem?_cons_succ, varR_ok, ok_bind, ofO_some, lt_int, Option.map_some, show decide ((0 : Int) < 0) = false from rfl] <;> rfl)).trans ?_
      refine (nx_if_e (by simp only [e_int, e_var, e_cmp, List.getElem?_cons_zero, List.getElem?_cons_succ, varR_ok, ok_bind, ofO_some, gt_int, Option.map_some, show decide ((0 : Int) < 0) = false from rfl] <;> rfl)).trans (nx_assoc.trans ?_)
      refine (nx_if_t (by simp only [e_int, e_var, e_str, e_bin, e_cmp, e_slc, List.getElem?_cons_zero, List.getElem?_cons_succ, varR_ok, ok_bind, add_int, ofO_some, nat2, slc_str, eq_str, Option.map_some, Nat.add_sub_cancel_left, hr, b] <;> rfl)).trans (nx_assoc.trans ?_)
      refine (nx_next (m_expr ((m_p2 (by simp only [e_var, List.getElem?_cons_zero, List.getElem?_cons_succ, varR_ok] <;> rfl) rfl (by simp only [e_var, e_str, e_tup, es_nil', es_cons', List.getElem?_cons_zero, List.getElem?_cons_succ, varR_ok, ok_bind] <;> rfl)).trans (append_last h _ _ e1)))).trans (nx_assoc.trans ?_)
      refine (nx_next (m_assign (nl _))).trans (nx_assoc.trans ?_)
      refine (nx_next (m_assign (v := .int (outN t (clo t a) : Nat)) (h' := h ++ [acc.map tpV ++ [tpV ([111, 112], .str [59], row t a)] ++ (outS t (clo t a)).map tpV]) ?_)).trans (nx_skip.trans (nx_skip.trans ?_))
      · have e9 : ((a + 2 : Nat) : Int) + ((nlN (t.drop (a + 2)) : Nat) : Int) = ((clo t a : Nat) : Int) := rfl
        simp only [e_int, e_var, e_bin, e_call, es_nil', es_cons', List.getElem?_cons_zero, List.getElem?_cons_succ, List.set_cons_zero, List.set_cons_succ, varR_ok, ok_bind, add_int, ofO_some, nat2, e9]
        exact lo
      · rw [x_skip]; simp only [List.map_append, List.map_cons, List.map_nil]; rfl)]
    exact ih n _ _ _ _ _ (by omega) o3 (by simp only [List.length_append, List.length_cons, List.length_nil]; omega)
  | @tok a acc c r s v m res hr q kk ih =>
    intro n x3 x4 x5 x6 x7 hn hc hbig
    obtain ⟨n, rfl⟩ : ∃ m, n = m + 1 := ⟨n - 1, by omega⟩
    rw [hr] at hc
    obtain ⟨_, _, _, b, tq⟩ := act_tok q
    obtain ⟨m1, m2, m3⟩ := tok_next hc tq
    have ll := less hr
    have lt0 := sem_law_token (N := N) (k := k) (h := h ++ [acc.map tpV]) hr hc h2 hb
    rw [tq] at lt0
    obtain ⟨e, he, lt⟩ := lt0
    have e1 : ((acc.map tpV).length) < big := by simp; omega
    have d1 : decide (((e : Nat) : Int) < 0) = false := by rw [decide_eq_false_iff_not]; omega
    have stp := fun x => wl_true (body := mex (sem tab N (k + 2)) N lawB) (n := n) (h' := h ++ [acc.map tpV]) (h'' := h ++ [(acc ++ [(s, v, row t a)]).map tpV]) (loc' := [some (.str t), some (.ref h.length), some (.int e), some (.int e), some (.int (row t a : Nat)), x5, some (.str s), some v]) (tst (h ++ [acc.map tpV]) x3 x4 x5 x6 x7 hr) x
    rw [stp (by
      unfold lawB
      refine (pr (g := 0) _ _ _ _ _ _ hr (by rw [q])).trans ?_
      refine (nx_if_f (by simp only [e_int, e_var, e_cmp, List.getElem?_cons_zero, List.getElem?_cons_succ, varR_ok, ok_bind, ofO_some, lt_int, Option.map_some, show decide ((0 : Int) < 0) = false from rfl] <;> rfl)).trans ?_
      refine (nx_if_e (by simp only [e_int, e_var, e_cmp, List.getElem?_cons_zero, List.getElem?_cons_succ, varR_ok, ok_bind, ofO_some, gt_int, Option.map_some, show decide ((0 : Int) < 0) = false from rfl] <;> rfl)).trans (nx_assoc.trans ?_)
      refine (nx_if_e (by simp only [e_int, e_var, e_str, e_bin, e_cmp, e_slc, List.getElem?_cons_zero, List.getElem?_cons_succ, varR_ok, ok_bind, add_int, ofO_some, nat2, slc_str, eq_str, Option.map_some, Nat.add_sub_cancel_left, hr, b] <;> rfl)).trans (nx_assoc.trans ?_)
      refine (nx_next (loc' := [some (.str t), some (.ref h.length), some (.int a), some (.int e), some (.int (row t a : Nat)), x5, some (.str s), some v]) (h' := h ++ [acc.map tpV]) (by simp only [x_unpack, e_var, e_call, es_nil', es_cons', List.getElem?_cons_zero, List.getElem?_cons_succ, List.set_cons_zero, List.set_cons_succ, varR_ok, ok_bind, lt, unpR_3] <;> rfl)).trans (nx_assoc.trans ?_)
      refine (nx_if_f (by simp only [e_int, e_var, e_cmp, List.getElem?_cons_zero, List.getElem?_cons_succ, varR_ok, ok_bind, ofO_some, lt_int, Option.map_some, d1] <;> rfl)).trans (nx_assoc.trans ?_)
      refine (nx_next (m_expr ((m_p2 (by simp only [e_var, List.getElem?_cons_zero, List.getElem?_cons_succ, varR_ok] <;> rfl) rfl (by simp only [e_var, e_tup, es_nil', es_cons', List.getElem?_cons_zero, List.getElem?_cons_succ, varR_ok, ok_bind] <;> rfl)).trans (append_last h _ _ e1)))).trans (nx_assoc.trans ?_)
      refine (nx_next (m_assign (by simp only [e_var, List.getElem?_cons_zero, List.getElem?_cons_succ, varR_ok] <;> rfl))).trans (nx_skip.trans (nx_skip.trans ?_))
      rw [x_skip]; simp only [List.map_append, List.map_cons, List.map_nil]; rfl)]
    rcases he with rfl | ⟨q1, q2⟩
    · exact ih n _ _ _ _ _ (by omega) (by rw [← List.drop_drop, hr]; exact m3) (by simp only [List.length_append, List.length_cons, List.length_nil]; omega)
    · obtain ⟨n, rfl⟩ : ∃ m, n = m + 1 := ⟨n - 1, by omega⟩
      cases kk with
      | fin _ => exact stop e _ n _ _ _ _ _ q2
      | go h' _ _ => have := less h'; simp only [List.length_cons] at this; omega
      | bad h' _ => have := less h'; simp only [List.length_cons] at this; omega
      | close h' _ _ => have := less h'; simp only [List.length_cons] at this; omega
      | tok h' _ _ => have := less h'; simp only [List.length_cons] at this; omega
      | badS h' _ => have := less h'; simp only [List.length_cons] at this; omega
  | @badS a acc c r hr q =>
    intro n x3 x4 x5 x6 x7 hn hc hbig
    obtain ⟨n, rfl⟩ : ∃ m, n = m + 1 := ⟨n - 1, by omega⟩
    rw [hr] at hc
    obtain ⟨_, _, _, b, tq⟩ := act_badS q
    have lt0 := sem_law_token (N := N) (k := k) (h := h ++ [acc.map tpV]) hr hc h2 hb
    rw [tq] at lt0
    obtain ⟨v, lt⟩ := lt0
    refine ⟨_, wl_ret (tst _ _ _ _ _ _ hr) (h'' := h ++ [acc.map tpV]) ?_⟩
    unfold lawB
    refine (pr (g := 0) _ _ _ _ _ _ hr (by rw [q])).trans ?_
    refine (nx_if_f (by simp only [e_int, e_var, e_cmp, List.getElem?_cons_zero, List.getElem?_cons_succ, varR_ok, ok_bind, ofO_some, lt_int, Option.map_some, show decide ((0 : Int) < 0) = false from rfl] <;> rfl)).trans ?_
    refine (nx_if_e (by simp only [e_int, e_var, e_cmp, List.getElem?_cons_zero, List.getElem?_cons_succ, varR_ok, ok_bind, ofO_some, gt_int, Option.map_some, show decide ((0 : Int) < 0) = false from rfl] <;> rfl)).trans (nx_assoc.trans ?_)
    refine (nx_if_e (by simp only [e_int, e_var, e_str, e_bin, e_cmp, e_slc, List.getElem?_cons_zero, List.getElem?_cons_succ, varR_ok, ok_bind, add_int, ofO_some, nat2, slc_str, eq_str, Option.map_some, Nat.add_sub_cancel_left, hr, b] <;> rfl)).trans (nx_assoc.trans ?_)
    refine (nx_next (loc' := [some (.str t), some (.ref h.length), some (.int a), some (.int (-1)), some (.int (row t a : Nat)), x5, some (.str [115, 116, 114]), some v]) (h' := h ++ [acc.map tpV]) (by simp only [x_unpack, e_var, e_call, es_nil', es_cons', List.getElem?_cons_zero, List.getElem?_cons_succ, List.set_cons_zero, List.set_cons_succ, varR_ok, ok_bind, lt, unpR_3] <;> rfl)).trans (nx_assoc.trans ?_)
    refine (nx_if_t (by simp only [e_int, e_var, e_cmp, List.getElem?_cons_zero, List.getElem?_cons_succ, varR_ok, ok_bind, ofO_some, lt_int, Option.map_some, show decide ((-1 : Int) < 0) = true from rfl] <;> rfl)).trans (nx_assoc.trans ?_)
    refine nx_ret (m_ret (by simp only [e_var, e_str, e_tup, es_nil', es_cons', List.getElem?_cons_zero, List.getElem?_cons_succ, varR_ok, ok_bind] <;> rfl))
end Mine
end
section
set_option Elab.async false
set_option linter.all false
namespace Mine
open P2

theorem Spec.inv {t : List Nat} {a c : Nat} {r : List Nat} {acc : List Tk} {res : Res} (s : Spec t a acc res) (hr : t.drop a = c :: r) :
    match act c r with
    | .go n => Spec t (a + n) acc res
    | .bad => res = .refC (row t a)
    | .close => Spec t (outN t (clo t a)) (acc ++ [([111, 112], .str [59], row t a)] ++ outS t (clo t a)) res
    | .tok s v n => Spec t (a + n) (acc ++ [(s, v, row t a)]) res
    | .badS => res = .refS (row t a) := by
  cases s with
  | fin h => exact absurd (drop_consL hr).2.1 (Nat.not_lt.mpr h)
  | go h q s => rw [hr] at h; cases h; rw [q]; exact s
  | bad h q => rw [hr] at h; cases h; rw [q]
  | close h q s => rw [hr] at h; cases h; rw [q]; exact s
  | tok h q s => rw [hr] at h; cases h; rw [q]; exact s
  | badS h q => rw [hr] at h; cases h; rw [q]
theorem Spec.nil {t : List Nat} {a : Nat} {acc : List Tk} {res : Res} (s : Spec t a acc res) (hr : t.length ≤ a) : res = .read acc := by
  have no : ∀ {c : Nat} {r : List Nat}, t.drop a = c :: r → False := fun h => absurd (drop_consL h).2.1 (Nat.not_lt.mpr hr)
  cases s with
  | fin h => rfl
  | go h q s => exact (no h).elim
  | bad h q => exact (no h).elim
  | close h q s => exact (no h).elim
  | tok h q s => exact (no h).elim
  | badS h q => exact (no h).elim
theorem bl_skip {t : List Nat} {acc : List Tk} {res : Res} : ∀ (m a : Nat), blN (t.drop a) = m → cdL (t.drop a) = true → Spec t a acc res → cdL (t.drop (a + m)) = true ∧ Spec t (a + m) acc res ∧ (∀ c r, t.drop (a + m) = c :: r → isBl c = false)
  | 0, a, hm, hc, s => ⟨hc, s, fun c r q => by
    rw [Nat.add_zero] at q
    rw [q, blN_cons] at hm
    cases b : isBl c with
    | false => rfl
    | true => rw [b] at hm; simp at hm⟩
  | m + 1, a, hm, hc, s => by
    cases hr : t.drop a with
    | nil => rw [hr] at hm; cases hm
    | cons c r =>
      rw [hr, blN_cons] at hm
      split at hm
      · rename_i b
        have q : act c r = .go 1 := by unfold act; rw [if_pos b]
        have i := s.inv hr
        rw [q] at i
        have e3 := drop_succ hr
        rw [hr] at hc
        have := bl_skip m (a + 1) (by rw [e3]; omega) (by rw [e3]; exact (act_go hc q).2.2) i
        rw [show a + (m + 1) = a + 1 + m by omega]
        exact this
      · cases hm
theorem gap_cons {r s : List Nat} {c : Nat} (hs : r.drop (blN r) = c :: s) (hb : isBl c = false) : gapN r = (match act c s with | .go n => some (blN r + n) | .bad => none | _ => some (blN r)) := by
  unfold gapN isRowC act
  rw [hs, hb]
  have e : ((c :: s).take 2).take 1 = [c] := by cases s <;> rfl
  rw [e, beq_str1, Bool.or_comm]
  simp only [Bool.false_eq_true, if_false]
  split
  · rfl
  split
  · cases comE (c :: s) <;> rfl
  cases b4 : ((c :: s).take 2 == [63, 62]) with
  | true => simp only [if_true]
  | false => cases tokA c s <;> simp only [Bool.false_eq_true, if_false]
theorem gap_nil {r : List Nat} (hs : r.drop (blN r) = []) : gapN r = some (blN r) := by
  unfold gapN isRowC
  rw [hs]; rfl

noncomputable def LexOut (t : List Nat) (h : H) (x : R Fl) : Res → Prop
  | .read l => ∃ x4 x5 x6, x = .ok (.next [some (.str t), some (.ref h.length), some (.int t.length), some (.int (row t t.length : Nat)), x4, x5, x6]) (h ++ [l.map tkV])
  | .refC r => ∃ y, x = .pf (comW ++ textOf (r : Int)) r (h ++ [y])
  | .refS r => ∃ y, x = .pf endW r (h ++ [y])
noncomputable def tokB : MS := (.seq (.assign 4 (.call 39 (.cons (.var 0) (.cons (.var 2) (.cons (.var 3) .nil)))))
    (.seq (.ite (.and (.cmp .eq (.var 4) (.var 2)) (.cmp .eq (.slc (.var 0) (.var 2) (.bin .add (.var 2) (.int 2))) (.str [63, 62])))
    (.seq (.expr (.p2 .append (.var 1) (.mk (.cons (.str [111, 112]) (.cons (.str [59]) (.cons (.var 3) .nil))))))
    (.seq (.assign 5 (.bin .add (.var 2) (.int 2)))
    (.seq (.ite (.cmp .eq (.slc (.var 0) (.var 5) (.bin .add (.var 5) (.int 2))) (.str [13, 10]))
    (.seq (.aug 5 .add (.int 2))
    .skip)
    (.seq (.ite (.cmp .eq (.call 17 (.cons (.var 0) (.cons (.var 5) .nil))) (.str [10]))
    (.seq (.aug 5 .add (.int 1))
    .skip)
    .skip)
    .skip))
    (.seq (.assign 4 (.call 41 (.cons (.var 0) (.cons (.var 5) (.cons (.bin .add (.var 3) (.call 18 (.cons (.slc (.var 0) (.var 2) (.var 5)) .nil))) (.cons (.var 1) .nil))))))
    .skip))))
    (.seq (.ite (.cmp .eq (.var 4) (.var 2))
    (.seq (.unpack [6, 4] (.call 46 (.cons (.var 0) (.cons (.var 2) (.cons (.var 3) .nil)))))
    (.seq (.expr (.p2 .append (.var 1) (.var 6)))
    .skip))
    .skip)
    .skip))
    (.seq (.aug 3 .add (.call 18 (.cons (.slc (.var 0) (.var 2) (.var 4)) .nil)))
    (.seq (.assign 2 (.var 4))
    .skip))))
theorem lex_loop {N k p : Nat} {t : List Nat} {h : H} (ho : okL p t = true) (hT : t.length < 20000) (hN : t.length + 2 < N) : ∀ (n a : Nat) (acc : List Tk) (res : Res) (x4 x5 x6 : Option V), Spec t a acc res → a ≤ t.length → t.length - a < n → cdL (t.drop a) = true → acc.length + 3 * (t.length - a) + 4 < big →
    LexOut t h (wloop (mev (sem tab N (k + 5)) (.cmp .lt (.var 2) (.p1 .len (.var 0)))) (mex (sem tab N (k + 5)) N tokB) n [some (.str t), some (.ref h.length), some (.int a), some (.int (row t a : Nat)), x4, x5, x6] (h ++ [acc.map tkV])) res := by
  have hb : t.length < big := by rw [big_is]; omega
  have h2 : ∀ c ∈ t, c ∈ alpha := okL_mem ho
  have hl : ∀ c ∈ t, c < 128 := fun c hc => alpha_low (h2 c hc)
  have less : ∀ {a c : Nat} {r : List Nat}, t.drop a = c :: r → a + (c :: r).length = t.length := fun {a c r} q => by
    have := (drop_consL q).2.1
    rw [← q, List.length_drop]; omega
  have tst : ∀ {a : Nat} (H : H) (x3 x4 x5 x6 : Option V), a < t.length → mev (sem tab N (k + 5)) (.cmp .lt (.var 2) (.p1 .len (.var 0))) [some (.str t), some (.ref h.length), some (.int a), x3, x4, x5, x6] H = .ok (.bool true) H := fun {a} H x3 x4 x5 x6 q => by
    have d : decide (a < t.length) = true := by rw [decide_eq_true_eq]; exact q
    simp only [e_var, e_cmp, e_p1, List.getElem?_cons_zero, List.getElem?_cons_succ, varR_ok, ok_bind, ofO_some, lt_int, Option.map_some, len_str, lt_nat, d]
  -- the end of a turn
  have fin : ∀ (a m : Nat) (H : H) (x5 x6 : Option V), a + m ≤ t.length → mex (sem tab N (k + 5)) N (.seq (.aug 3 .add (.call 18 (.cons (.slc (.var 0) (.var 2) (.var 4)) .nil))) (.seq (.assign 2 (.var 4)) .skip)) [some (.str t), some (.ref h.length), some (.int a), some (.int (row t a : Nat)), some (.int (a + m : Nat)), x5, x6] H =
      .ok (.next [some (.str t), some (.ref h.length), some (.int (a + m : Nat)), some (.int (row t (a + m) : Nat)), some (.int (a + m : Nat)), x5, x6]) H := fun a m H x5 x6 hm => by
    have ri : sem tab N (k + 5) 18 [.str ((t.drop a).take m)] H = _ := sem_rows_in (k := k + 4) (by rw [List.length_take, List.length_drop]; omega)
    have e6 : ((row t a : Nat) : Int) + ((((t.drop a).take m).count 10 : Nat) : Int) = ((row t (a + m) : Nat) : Int) := by rw [row_add]; omega
    refine (nx_next (by simp only [x_aug, e_var, e_slc, e_call, es_nil', es_cons', List.getElem?_cons_zero, List.getElem?_cons_succ, List.set_cons_zero, List.set_cons_succ, varR_ok, ok_bind, augR_ok, ofO_some, slc_str, Nat.add_sub_cancel_left, ri, e6] <;> rfl)).trans ?_
    refine (nx_next (m_assign (by simp only [e_var, List.getElem?_cons_zero, List.getElem?_cons_succ, varR_ok] <;> rfl))).trans ?_
    rw [x_skip]; rfl
  have pg : ∀ (a : Nat) (H : H) (x4 x5 x6 : Option V), a ≤ t.length → mev (sem tab N (k + 5)) (.call 39 (.cons (.var 0) (.cons (.var 2) (.cons (.var 3) .nil)))) [some (.str t), some (.ref h.length), some (.int a), some (.int (row t a : Nat)), x4, x5, x6] H =
      match gapN (t.drop a) with
      | some n => .ok (.int (a + n : Nat)) H
      | none => .pf (comW ++ textOf ((row t (a + blN (t.drop a)) : Nat) : Int)) ((row t (a + blN (t.drop a)) : Nat) : Int) H := fun a H x4 x5 x6 ha => by
    have rl := row_le t a
    have g : sem tab N (k + 5) 39 _ H = _ := sem_pass_gap (N := N) (k := k + 3) (l := row t a) (h := H) ha h2 (by omega) hb (by omega)
    rw [row_add]
    simp only [e_var, e_call, es_nil', es_cons', List.getElem?_cons_zero, List.getElem?_cons_succ, varR_ok, ok_bind]
    exact g
  intro n
  induction n with
  | zero => intro a acc res x4 x5 x6 _ _ hn; omega
  | succ n ih =>
    intro a acc res x4 x5 x6 s ha hn hc hbig
    by_cases hlt : a < t.length
    case neg =>
      have e : a = t.length := by omega
      subst e
      have := s.nil (Nat.le_refl _)
      subst this
      have d : decide (t.length < t.length) = false := by simp
      exact ⟨_, _, _, wl_false (by simp only [e_var, e_cmp, e_p1, List.getElem?_cons_zero, List.getElem?_cons_succ, varR_ok, ok_bind, ofO_some, lt_int, Option.map_some, len_str, lt_nat, d])⟩
    obtain ⟨g1, g2, g3⟩ := bl_skip _ a rfl hc s
    have tb := blN (t.drop a)
    have pga := pg a (h ++ [acc.map tkV]) x4 x5 x6 ha
    have e1 : ((acc.map tkV).length) < big := by simp; omega
    -- going on behind a gap
    have goOn : ∀ m, gapN (t.drop a) = some m → 1 ≤ m → a + m ≤ t.length → cdL (t.drop (a + m)) = true → Spec t (a + m) acc res →
        LexOut t h (wloop (mev (sem tab N (k + 5)) (.cmp .lt (.var 2) (.p1 .len (.var 0)))) (mex (sem tab N (k + 5)) N tokB) (n + 1) [some (.str t), some (.ref h.length), some (.int a), some (.int (row t a : Nat)), x4, x5, x6] (h ++ [acc.map tkV])) res := fun m hm h1 hle hcd sp => by
      rw [hm] at pga
      have b1 : (a + m == a) = false := by rw [beq_eq_false_iff_ne]; omega
      rw [wl_true (tst _ _ _ _ _ hlt) (h'' := h ++ [acc.map tkV]) (loc' := [some (.str t), some (.ref h.length), some (.int (a + m : Nat)), some (.int (row t (a + m) : Nat)), some (.int (a + m : Nat)), x5, x6]) (by
        unfold tokB
        refine (nx_next (m_assign pga)).trans ?_
        refine (nx_if_e (by simp only [e_int, e_var, e_str, e_bin, e_cmp, e_slc, e_and, List.getElem?_cons_zero, List.getElem?_cons_succ, List.set_cons_zero, List.set_cons_succ, varR_ok, ok_bind, add_int, ofO_some, nat2, slc_str, eq_str, eq_int, Option.map_some, andR_ok, boolR_ok, Nat.add_sub_cancel_left, beq_nat, b1, Bool.false_eq_true, if_false] <;> rfl)).trans (nx_assoc.trans ?_)
        refine (nx_if_f (by simp only [e_var, e_cmp, List.getElem?_cons_zero, List.getElem?_cons_succ, List.set_cons_zero, List.set_cons_succ, varR_ok, ok_bind, ofO_some, eq_int, Option.map_some, beq_nat, b1] <;> rfl)).trans (nx_skip.trans ?_)
        exact fin a m _ _ _ hle)]
      exact ih _ _ _ _ _ _ sp hle (by omega) hcd (by omega)
    cases hs : t.drop (a + blN (t.drop a)) with
    | nil =>
      have hd : (t.drop a).drop (blN (t.drop a)) = [] := by rw [List.drop_drop]; exact hs
      have gn := gap_nil hd
      have := drop_nilL hs
      have ble : blN (t.drop a) ≤ (t.drop a).length := (List.takeWhile_sublist _).length_le
      rw [List.length_drop] at ble
      exact goOn _ gn (by omega) (by omega) g1 g2
    | cons c r =>
      have hd : (t.drop a).drop (blN (t.drop a)) = c :: r := by rw [List.drop_drop]; exact hs
      have gc := gap_cons hd (g3 c r hs)
      have iv := g2.inv hs
      have ll := less hs
      rw [hs] at g1
      cases hq : act c r with
      | go m =>
        rw [hq] at gc iv
        obtain ⟨m1, m2, m3⟩ := act_go g1 hq
        exact goOn _ gc (by omega) (by omega) (by rw [← Nat.add_assoc, ← List.drop_drop, hs]; exact m3) (by rw [← Nat.add_assoc]; exact iv)
      | bad =>
        rw [hq] at gc iv
        subst iv
        rw [gc] at pga
        refine ⟨acc.map tkV, ?_⟩
        exact wl_pf (tst _ _ _ _ _ hlt) (by
          unfold tokB
          refine nx_pf ?_
          rw [x_assign, pga]; rfl)
      | close =>
        rw [hq] at gc iv
        by_cases hz : blN (t.drop a) = 0
        · rw [hz, Nat.add_zero] at hs iv
          rw [hz] at gc
          rw [gc, Nat.add_zero] at pga
          have b := (act_close hq).2.2.2
          obtain ⟨k1, k2⟩ := clo_le hs b
          obtain ⟨o1, o2, o3⟩ := out_next ho k1
          have o7 := out_len t (clo t a)
          have b1 : (a == a) = true := by simp
          have lo : sem tab N (k + 5) 41 [.str t, .int (clo t a : Nat), .int (row t (clo t a) : Nat), .ref h.length] (h ++ [acc.map tkV ++ [tkV ([111, 112], .str [59], row t a)]]) = _ := sem_pass_inline (k := k + 3) hl k1 (by omega) hb (by simp; omega)
          have sg : ∀ H, sem tab N (k + 5) 17 [.str t, .int (a + 2 : Nat)] H = _ := fun H => sem_sign_at (k := k + 4)
          have e22 : a + 2 + 2 - (a + 2) = 2 := by omega
          have nl : ∀ (H : H) (c' : MS), mex (sem tab N (k + 5)) N (.seq (.ite (.cmp .eq (.slc (.var 0) (.var 5) (.bin .add (.var 5) (.int 2))) (.str [13, 10])) (.seq (.aug 5 .add (.int 2)) .skip) (.seq (.ite (.cmp .eq (.call 17 (.cons (.var 0) (.cons (.var 5) .nil))) (.str [10])) (.seq (.aug 5 .add (.int 1)) .skip) .skip) .skip)) c') [some (.str t), some (.ref h.length), some (.int a), some (.int (row t a : Nat)), some (.int a), some (.int (a + 2 : Nat)), x6] H =
              mex (sem tab N (k + 5)) N c' [some (.str t), some (.ref h.length), some (.int a), some (.int (row t a : Nat)), some (.int a), some (.int (clo t a : Nat)), x6] H := fun H c' => by
            unfold clo nlN
            cases b3 : ((t.drop (a + 2)).take 2 == [13, 10]) with
            | true =>
              refine (nx_if_t (by simp only [e_int, e_var, e_str, e_bin, e_cmp, e_slc, List.getElem?_cons_zero, List.getElem?_cons_succ, varR_ok, ok_bind, add_int, ofO_some, nat2, slc_str, eq_str, Option.map_some, Nat.add_sub_cancel_left, b3] <;> rfl)).trans (nx_assoc.trans ?_)
              refine (nx_next (by simp only [x_aug, e_int, e_var, List.getElem?_cons_zero, List.getElem?_cons_succ, List.set_cons_zero, List.set_cons_succ, varR_ok, ok_bind, augR_ok, nat2] <;> rfl)).trans nx_skip
            | false =>
              refine (nx_if_e (by simp only [e_int, e_var, e_str, e_bin, e_cmp, e_slc, List.getElem?_cons_zero, List.getElem?_cons_succ, varR_ok, ok_bind, add_int, ofO_some, nat2, slc_str, eq_str, Option.map_some, Nat.add_sub_cancel_left, b3] <;> rfl)).trans (nx_assoc.trans ?_)
              cases b4 : ((t.drop (a + 2)).take 1 == [10]) with
              | true =>
                refine (nx_if_t (by simp only [e_var, e_str, e_cmp, e_call, es_nil', es_cons', List.getElem?_cons_zero, List.getElem?_cons_succ, varR_ok, ok_bind, ofO_some, eq_str, Option.map_some, sg, b4] <;> rfl)).trans (nx_assoc.trans ?_)
                refine (nx_next (by simp only [x_aug, e_int, e_var, List.getElem?_cons_zero, List.getElem?_cons_succ, List.set_cons_zero, List.set_cons_succ, varR_ok, ok_bind, augR_ok, nat1] <;> rfl)).trans (nx_skip.trans nx_skip)
              | false =>
                refine (nx_if_f (by simp only [e_var, e_str, e_cmp, e_call, es_nil', es_cons', List.getElem?_cons_zero, List.getElem?_cons_succ, varR_ok, ok_bind, ofO_some, eq_str, Option.map_some, sg, b4] <;> rfl)).trans nx_skip
          obtain ⟨j, hj⟩ : ∃ j, clo t a = a + j := ⟨clo t a - a, by omega⟩
          obtain ⟨m, hm⟩ : ∃ m, outN t (clo t a) = a + m := ⟨outN t (clo t a) - a, by omega⟩
          have ri : ∀ H, sem tab N (k + 5) 18 [.str ((t.drop a).take j)] H = _ := fun H => sem_rows_in (k := k + 4) (by rw [List.length_take, List.length_drop]; omega)
          have e6 : ((row t a : Nat) : Int) + ((((t.drop a).take j).count 10 : Nat) : Int) = ((row t (a + j) : Nat) : Int) := by rw [row_add]; omega
          rw [wl_true (tst _ _ _ _ _ hlt) (h'' := h ++ [(acc ++ [([111, 112], V.str [59], row t a)] ++ outS t (clo t a)).map tkV]) (loc' := [some (.str t), some (.ref h.length), some (.int (a + m : Nat)), some (.int (row t (a + m) : Nat)), some (.int (a + m : Nat)), some (.int (clo t a : Nat)), x6]) (by
            unfold tokB
            refine (nx_next (m_assign pga)).trans ?_
            refine (nx_if_t (by simp only [e_int, e_var, e_str, e_bin, e_cmp, e_slc, e_and, List.getElem?_cons_zero, List.getElem?_cons_succ, List.set_cons_zero, List.set_cons_succ, varR_ok, ok_bind, add_int, ofO_some, nat2, slc_str, eq_str, eq_int, Option.map_some, andR_ok, boolR_ok, Nat.add_sub_cancel_left, beq_nat, b1, hs, b, if_true, Nat.add_zero] <;> rfl)).trans (nx_assoc.trans ?_)
            refine (nx_next (m_expr ((m_p2 (by simp only [e_var, List.getElem?_cons_zero, List.getElem?_cons_succ, List.set_cons_zero, List.set_cons_succ, varR_ok] <;> rfl) rfl (by simp only [e_var, e_str, e_mk, es_nil', es_cons', List.getElem?_cons_zero, List.getElem?_cons_succ, List.set_cons_zero, List.set_cons_succ, varR_ok, ok_bind, mkR_3] <;> rfl)).trans (append_last h _ _ e1)))).trans (nx_assoc.trans ?_)
            refine (nx_next (m_assign (by simp only [e_int, e_var, e_bin, List.getElem?_cons_zero, List.getElem?_cons_succ, List.set_cons_zero, List.set_cons_succ, varR_ok, ok_bind, add_int, ofO_some, nat2] <;> rfl))).trans (nx_assoc.trans ?_)
            refine (nl _ _).trans (nx_assoc.trans ?_)
            refine (nx_next (m_assign (v := .int (outN t (clo t a) : Nat)) (h' := h ++ [acc.map tkV ++ [tkV ([111, 112], .str [59], row t a)] ++ (outS t (clo t a)).map tkV]) ?_)).trans (nx_skip.trans ?_)
            · rw [hj] at lo ⊢
              simp only [e_var, e_bin, e_slc, e_call, es_nil', es_cons', List.getElem?_cons_zero, List.getElem?_cons_succ, varR_ok, ok_bind, add_int, ofO_some, slc_str, Nat.add_sub_cancel_left, ri, e6]
              exact lo
            · rw [hm]
              refine (fin a m _ _ _ (by omega)).trans ?_
              simp only [List.map_append, List.map_cons, List.map_nil])]
          rw [hm] at iv o2 o3
          exact ih _ _ _ _ _ _ iv o2 (by omega) o3 (by simp only [List.length_append, List.length_cons, List.length_nil]; omega)
        · exact goOn _ gc (by omega) (by omega) (by rw [hs]; exact g1) g2
      | tok s' v m =>
        rw [hq] at gc iv
        by_cases hz : blN (t.drop a) = 0
        · rw [hz, Nat.add_zero] at hs iv ll
          rw [hz] at gc
          rw [gc, Nat.add_zero] at pga
          obtain ⟨q1, q2, _, b, tq⟩ := act_tok hq
          obtain ⟨m1, m2, m3⟩ := tok_next g1 tq
          have ig : isGap c = false := by unfold isGap; rw [q1, (Bool.or_eq_false_iff.mp q2).1]; rfl
          have b1 : (a == a) = true := by simp
          have rt : sem tab N (k + 5) 46 [.str t, .int a, .int (row t a : Nat)] (h ++ [acc.map tkV]) = _ := sem_read_token (k := k) hs g1 ig h2 hN hb
          rw [tq] at rt
          rw [wl_true (tst _ _ _ _ _ hlt) (h'' := h ++ [(acc ++ [(s', v, row t a)]).map tkV]) (loc' := [some (.str t), some (.ref h.length), some (.int (a + m : Nat)), some (.int (row t (a + m) : Nat)), some (.int (a + m : Nat)), x5, some (tkV (s', v, row t a))]) (by
            unfold tokB
            refine (nx_next (m_assign pga)).trans ?_
            refine (nx_if_e (by simp only [e_int, e_var, e_str, e_bin, e_cmp, e_slc, e_and, List.getElem?_cons_zero, List.getElem?_cons_succ, List.set_cons_zero, List.set_cons_succ, varR_ok, ok_bind, add_int, ofO_some, nat2, slc_str, eq_str, eq_int, Option.map_some, andR_ok, boolR_ok, Nat.add_sub_cancel_left, beq_nat, b1, hs, b, ite_self, Nat.add_zero] <;> rfl)).trans (nx_assoc.trans ?_)
            refine (nx_if_t (by simp only [e_var, e_cmp, List.getElem?_cons_zero, List.getElem?_cons_succ, List.set_cons_zero, List.set_cons_succ, varR_ok, ok_bind, ofO_some, eq_int, Option.map_some, beq_nat, b1, Nat.add_zero] <;> rfl)).trans (nx_assoc.trans ?_)
            refine (nx_next (loc' := [some (.str t), some (.ref h.length), some (.int a), some (.int (row t a : Nat)), some (.int (a + m : Nat)), x5, some (tkV (s', v, row t a))]) (h' := h ++ [acc.map tkV]) (by simp only [x_unpack, e_var, e_call, es_nil', es_cons', List.getElem?_cons_zero, List.getElem?_cons_succ, List.set_cons_zero, List.set_cons_succ, varR_ok, ok_bind, rt, unpR_2] <;> rfl)).trans (nx_assoc.trans ?_)
            refine (nx_next (m_expr ((m_p2 (by simp only [e_var, List.getElem?_cons_zero, List.getElem?_cons_succ, varR_ok] <;> rfl) rfl (by simp only [e_var, List.getElem?_cons_zero, List.getElem?_cons_succ, varR_ok] <;> rfl)).trans (append_last h _ _ e1)))).trans (nx_skip.trans (nx_skip.trans ?_))
            refine (fin a m _ _ _ (by omega)).trans ?_
            simp only [List.map_append, List.map_cons, List.map_nil])]
          exact ih _ _ _ _ _ _ iv (by omega) (by omega) (by rw [← List.drop_drop, hs]; exact m3) (by simp only [List.length_append, List.length_cons, List.length_nil]; omega)
        · exact goOn _ gc (by omega) (by omega) (by rw [hs]; exact g1) g2
      | badS =>
        rw [hq] at gc iv
        by_cases hz : blN (t.drop a) = 0
        · rw [hz, Nat.add_zero] at hs iv
          rw [hz] at gc
          rw [gc, Nat.add_zero] at pga
          subst iv
          obtain ⟨q1, q2, _, b, tq⟩ := act_badS hq
          have ig : isGap c = false := by unfold isGap; rw [q1, (Bool.or_eq_false_iff.mp q2).1]; rfl
          have b1 : (a == a) = true := by simp
          have rt : sem tab N (k + 5) 46 [.str t, .int a, .int (row t a : Nat)] (h ++ [acc.map tkV]) = _ := sem_read_token (k := k) hs g1 ig h2 hN hb
          rw [tq] at rt
          refine ⟨acc.map tkV, wl_pf (tst _ _ _ _ _ hlt) ?_⟩
          unfold tokB
          refine (nx_next (m_assign pga)).trans ?_
          refine (nx_if_e (by simp only [e_int, e_var, e_str, e_bin, e_cmp, e_slc, e_and, List.getElem?_cons_zero, List.getElem?_cons_succ, List.set_cons_zero, List.set_cons_succ, varR_ok, ok_bind, add_int, ofO_some, nat2, slc_str, eq_str, eq_int, Option.map_some, andR_ok, boolR_ok, Nat.add_sub_cancel_left, beq_nat, b1, hs, b, ite_self, Nat.add_zero] <;> rfl)).trans (nx_assoc.trans ?_)
          refine (nx_if_t (by simp only [e_var, e_cmp, List.getElem?_cons_zero, List.getElem?_cons_succ, List.set_cons_zero, List.set_cons_succ, varR_ok, ok_bind, ofO_some, eq_int, Option.map_some, beq_nat, b1, Nat.add_zero] <;> rfl)).trans (nx_assoc.trans ?_)
          refine nx_pf ?_
          simp only [x_unpack, e_var, e_call, es_nil', es_cons', List.getElem?_cons_zero, List.getElem?_cons_succ, List.set_cons_zero, List.set_cons_succ, varR_ok, ok_bind, pf_bind, rt]
        · exact goOn _ gc (by omega) (by omega) (by rw [hs]; exact g1) g2
end Mine
end
section
set_option Elab.async false
set_option linter.all false
namespace Mine
open P2

/-! data alone -/
noncomputable def simV : V → Bool | .str _ => true | .int _ => true | _ => false
noncomputable def Sm (l : List Tk) : Prop := ∀ x ∈ l, simV x.2.1 = true
theorem mapM_id {f : V → Option V} : ∀ {l : List V}, (∀ x ∈ l, f x = some x) → l.mapM f = some l
  | [], _ => rfl
  | a :: r, h => by
    rw [List.mapM_cons, h a (.head _), mapM_id fun x hx => h x (.tail _ hx)]; rfl
theorem frz_sim {h : H} {n k : Nat} {v : V} (e : simV v = true) : frz h n (k + 1) v = some v := by
  cases v <;> first | rfl | cases e
theorem plain_sim {h : H} {k : Nat} {v : V} (e : simV v = true) : plainV h (k + 1) v = some v := by
  cases v <;> first | rfl | cases e
theorem frz_tp {h : H} {n k : Nat} {x : Tk} (e : simV x.2.1 = true) : frz h n (k + 2) (tpV x) = some (tpV x) := by
  have : frz h n (k + 2) (tpV x) = ([V.str x.1, x.2.1, .int x.2.2].mapM (frz h n (k + 1))).map .tup := rfl
  rw [this, mapM_id]
  · rfl
  · intro v hv
    simp only [List.mem_cons, List.not_mem_nil, or_false] at hv
    rcases hv with rfl | rfl | rfl
    · rfl
    · exact frz_sim e
    · rfl
theorem plain_tp {h : H} {k : Nat} {x : Tk} (e : simV x.2.1 = true) : plainV h (k + 2) (tpV x) = some (tpV x) := by
  have : plainV h (k + 2) (tpV x) = ([V.str x.1, x.2.1, .int x.2.2].mapM (plainV h (k + 1))).map .tup := rfl
  rw [this, mapM_id]
  · rfl
  · intro v hv
    simp only [List.mem_cons, List.not_mem_nil, or_false] at hv
    rcases hv with rfl | rfl | rfl
    · rfl
    · exact plain_sim e
    · rfl
theorem frz_tk {h : H} {n k : Nat} {x : Tk} (e : simV x.2.1 = true) : frz h n (k + 2) (tkV x) = some (tkV x) := by
  have : frz h n (k + 2) (tkV x) = (frz h n (k + 1) (.str x.1)).bind fun a => (frz h n (k + 1) x.2.1).bind fun b => (frz h n (k + 1) (.int x.2.2)).bind fun c => some (.tok a b c) := rfl
  rw [this, frz_sim e]; rfl
noncomputable def endT (t : List Nat) : Tk := ([101, 110, 100], .str [], row t t.length)
noncomputable def rdV (t : List Nat) : Res → V
  | .read l => .tup [.str readW, .lst ((l ++ [endT t]).map tpV), .int 0]
  | .refC r => .tup [.str refW, .str (comW ++ textOf (r : Int)), .int r]
  | .refS r => .tup [.str refW, .str endW, .int r]
theorem Sm_end {t : List Nat} {l : List Tk} (h : Sm l) : Sm (l ++ [endT t]) := fun x hx => by
  rcases List.mem_append.mp hx with hx | hx
  · exact h x hx
  · rw [List.mem_singleton.mp hx]; rfl
theorem frz_lst {h : H} {n k : Nat} {l : List Tk} (e : Sm l) : frz h n (k + 3) (.lst (l.map tpV)) = some (.lst (l.map tpV)) := by
  have : frz h n (k + 3) (.lst (l.map tpV)) = ((l.map tpV).mapM (frz h n (k + 2))).map .lst := rfl
  rw [this, mapM_id]
  · rfl
  · intro v hv
    obtain ⟨x, hx, rfl⟩ := List.mem_map.mp hv
    exact frz_tp (e x hx)
theorem plain_lst {h : H} {k : Nat} {l : List Tk} (e : Sm l) : plainV h (k + 3) (.lst (l.map tpV)) = some (.lst (l.map tpV)) := by
  have : plainV h (k + 3) (.lst (l.map tpV)) = ((l.map tpV).mapM (plainV h (k + 2))).map .lst := rfl
  rw [this, mapM_id]
  · rfl
  · intro v hv
    obtain ⟨x, hx, rfl⟩ := List.mem_map.mp hv
    exact plain_tp (e x hx)
noncomputable def SmR : Res → Prop | .read l => Sm l | _ => True
theorem frz_rd {h : H} {n : Nat} {t : List Nat} : ∀ {res : Res}, SmR res → frz h n 9 (rdV t res) = some (rdV t res)
  | .read l, e => by
    have : frz h n 9 (rdV t (.read l)) = ([V.str readW, .lst ((l ++ [endT t]).map tpV), .int 0].mapM (frz h n 8)).map .tup := rfl
    rw [this, mapM_id]
    · rfl
    · intro v hv
      simp only [List.mem_cons, List.not_mem_nil, or_false] at hv
      rcases hv with rfl | rfl | rfl
      · rfl
      · exact frz_lst (Sm_end e)
      · rfl
  | .refC r, _ => rfl
  | .refS r, _ => rfl
theorem plain_rd {h : H} {t : List Nat} : ∀ {res : Res}, SmR res → plainV h 8 (rdV t res) = some (rdV t res)
  | .read l, e => by
    have : plainV h 8 (rdV t (.read l)) = ([V.str readW, .lst ((l ++ [endT t]).map tpV), .int 0].mapM (plainV h 7)).map .tup := rfl
    rw [this, mapM_id]
    · rfl
    · intro v hv
      simp only [List.mem_cons, List.not_mem_nil, or_false] at hv
      rcases hv with rfl | rfl | rfl
      · rfl
      · exact plain_lst (Sm_end e)
      · rfl
  | .refC r, _ => rfl
  | .refS r, _ => rfl
theorem ne_rd {h : H} {t : List Nat} {res : Res} (e : SmR res) : cmpV .ne h (rdV t res) (rdV t res) = some false := by
  have p := plain_rd (h := h) (t := t) e
  have : eqV h (rdV t res) (rdV t res) = some true := by
    have q : ∀ vs : List V, plainV h 8 (.tup vs) = some (.tup vs) → eqV h (.tup vs) (.tup vs) = some true := fun vs e => by
      show eqD h (.tup vs) (.tup vs) = _
      unfold eqD
      rw [e, Option.bind_some, Option.bind_some, if_pos rfl]
    cases res <;> exact q _ p
  show (eqV h _ _).map _ = _
  rw [this]; rfl

theorem Sm_nil : Sm [] := fun x hx => by cases hx
theorem Sm_app {a b : List Tk} (x : Sm a) (y : Sm b) : Sm (a ++ b) := fun z hz => by
  rcases List.mem_append.mp hz with h | h
  · exact x z h
  · exact y z h
theorem Sm_one {s : List Nat} {v : V} {r : Nat} (e : simV v = true) : Sm [(s, v, r)] := fun x hx => by rw [List.mem_singleton.mp hx]; exact e
theorem Sm_out (t : List Nat) (a : Nat) : Sm (outS t a) := by
  unfold outS out1 out2
  refine Sm_app ?_ ?_
  · split
    · exact Sm_nil
    · exact Sm_one rfl
  · split
    · exact Sm_one rfl
    · exact Sm_nil
theorem tokA_sim {c : Nat} {r s : List Nat} {v : V} {n : Nat} (e : tokA c r = some (s, v, n)) : simV v = true := by
  unfold tokA at e
  split at e
  · obtain ⟨j, hj, q⟩ := Option.map_eq_some_iff.mp e
    cases q; rfl
  split at e
  · cases e; rfl
  split at e
  · cases e; rfl
  split at e
  · cases e; rfl
  · cases e; rfl
theorem Spec.sm {t : List Nat} {a : Nat} {acc : List Tk} {res : Res} (s : Spec t a acc res) : Sm acc → SmR res := by
  induction s with
  | fin _ => exact id
  | go _ _ _ ih => exact ih
  | bad _ _ => exact fun _ => trivial
  | close _ _ _ ih => exact fun h => ih (Sm_app (Sm_app h (Sm_one rfl)) (Sm_out _ _))
  | tok _ q _ ih => exact fun h => ih (Sm_app h (Sm_one (tokA_sim (act_tok q).2.2.2.2)))
  | badS _ _ => exact fun _ => trivial

section
variable {N k : Nat} {t : List Nat} {h : H} {res : Res}
theorem add_ref (h : H) (x y : List V) (e : x.length + y.length ≤ big) : binV .add (h ++ [x]) (.ref h.length) (.lst y) = some (.lst (x ++ y)) := by
  show pick none (pick none (((h ++ [x])[h.length]?).bind fun x => if x.length + y.length ≤ big then some (V.lst (x ++ y)) else none)) = _
  rw [cell_get, Option.bind_some, if_pos e]; rfl
theorem Spec.len {a : Nat} {acc : List Tk} {l : List Tk} (s : Spec t a acc (.read l)) (p : Nat) (ho : okL p t = true) (hc : cdL (t.drop a) = true) : l.length ≤ acc.length + 3 * (t.length - a) := by
  generalize hres : Res.read l = res at s
  induction s with
  | fin _ => cases hres; omega
  | @go a acc c r n res hr q s ih =>
    have ll : a + (c :: r).length = t.length := by have := (drop_consL hr).2.1; rw [← hr, List.length_drop]; omega
    rw [hr] at hc
    obtain ⟨h1, h2, h3⟩ := act_go hc q
    have := ih (by rw [← List.drop_drop, hr]; exact h3) hres
    omega
  | bad _ _ => cases hres
  | @close a acc c r res hr q s ih =>
    obtain ⟨k1, k2⟩ := clo_le hr (act_close q).2.2.2
    obtain ⟨o1, o2, o3⟩ := out_next ho k1
    have := ih o3 hres
    have := out_len t (clo t a)
    simp only [List.length_append, List.length_cons, List.length_nil] at *
    omega
  | @tok a acc c r s v n res hr q kk ih =>
    have ll : a + (c :: r).length = t.length := by have := (drop_consL hr).2.1; rw [← hr, List.length_drop]; omega
    rw [hr] at hc
    obtain ⟨h1, h2, h3⟩ := tok_next hc (act_tok q).2.2.2.2
    have := ih (by rw [← List.drop_drop, hr]; exact h3) hres
    simp only [List.length_append, List.length_cons, List.length_nil] at *
    omega
  | badS _ _ => cases hres
theorem sem_law_read {p : Nat} (ho : okL p t = true) (hT : t.length < 20000) (hN : t.length + 2 < N) (s : Spec t (outN t 0) (outS t 0) res) : sem tab N (k + 3) 57 [.str t] h = .ok (rdV t res) h := by
  have hb : t.length < big := by rw [big_is]; omega
  have h2 : ∀ c ∈ t, c ∈ alpha := okL_mem ho
  have hl : ∀ c ∈ t, c < 128 := fun c hc => alpha_low (h2 c hc)
  obtain ⟨o1, o2, o3⟩ := out_next ho (Nat.zero_le t.length)
  have ol := out_len t 0
  rw [sem_call (d := f_law_read) rfl rfl]
  have lo : sem tab N (k + 2) 53 [.str t, .int (0 : Nat), .ref h.length] (h ++ [[]]) = _ := sem_law_outside (k := k) hl (Nat.zero_le _) (by omega) hb (by rw [big_is]; simp)
  have lp := law_loop (k := k) (h := h) ho hT hN s N none none none none none (by omega) o3 (by rw [big_is]; omega)
  simp only [f_law_read, List.map_cons, List.map_nil, List.cons_append, List.nil_append, Nat.reduceSub, List.replicate]
  refine (st_next (m_assign (by rw [e_cell, es_nil', ok_bind]))).trans ?_
  refine (st_next (m_assign (v := .int (outN t 0 : Nat)) (h' := h ++ [(outS t 0).map tpV]) (by simp only [e_int, e_var, e_call, es_nil', es_cons', List.getElem?_cons_zero, List.getElem?_cons_succ, List.set_cons_zero, List.set_cons_succ, varR_ok, ok_bind]; exact lo))).trans ?_
  simp only [List.set_cons_succ, List.set_cons_zero]
  cases res with
  | read l =>
    obtain ⟨x2, x3, x4, x5, x6, x7, lp⟩ := lp
    refine (st_next (by rw [x_while]; exact lp)).trans ?_
    have sl := s.len p ho o3
    have lr : ∀ H, sem tab N (k + 2) 52 [.str t, .int t.length] H = _ := fun H => sem_law_row (N := N) (k := k + 1) (t := t) (at' := t.length) (h := H)
    have en : mev (sem tab N (k + 2)) (.list (.cons (.tup (.cons (.str [101, 110, 100]) (.cons (.str []) (.cons (.call 52 (.cons (.var 0) (.cons (.p1 .len (.var 0)) .nil))) .nil)))) .nil)) [some (.str t), some (.ref h.length), x2, x3, x4, x5, x6, x7] (h ++ [l.map tpV]) = .ok (.lst [tpV (endT t)]) (h ++ [l.map tpV]) := by
      simp only [e_var, e_str, e_p1, e_tup, e_list, e_call, es_nil', es_cons', List.getElem?_cons_zero, varR_ok, ok_bind, len_str, lr]; rfl
    have ad : mev (sem tab N (k + 2)) (.bin .add (.var 1) (.list (.cons (.tup (.cons (.str [101, 110, 100]) (.cons (.str []) (.cons (.call 52 (.cons (.var 0) (.cons (.p1 .len (.var 0)) .nil))) .nil)))) .nil))) [some (.str t), some (.ref h.length), x2, x3, x4, x5, x6, x7] (h ++ [l.map tpV]) = .ok (.lst ((l ++ [endT t]).map tpV)) (h ++ [l.map tpV]) := by
      rw [List.map_append]
      exact m_bin (by simp only [e_var, List.getElem?_cons_zero, List.getElem?_cons_succ, varR_ok] <;> rfl) en (add_ref h _ _ (by rw [big_is]; simp; omega))
    refine (st_ret (v := rdV t (.read l)) (h' := h ++ [l.map tpV]) (m_ret ?_)).trans ?_
    · rw [e_tup, es_cons', e_str, ok_bind, es_cons', ad, ok_bind]
      simp only [e_int, es_nil', es_cons', ok_bind]; rfl
    · exact back_cell (frz_rd (s.sm (Sm_out t 0)))
  | refC r =>
    obtain ⟨y, lp⟩ := lp
    refine (st_ret (by rw [x_while]; exact lp)).trans ?_
    exact back_cell rfl
  | refS r =>
    obtain ⟨y, lp⟩ := lp
    refine (st_ret (by rw [x_while]; exact lp)).trans ?_
    exact back_cell rfl
noncomputable def tkR (t : List Nat) (h : H) : Res → R V
  | .read l => .ok (.lst ((l ++ [endT t]).map tkV)) h
  | .refC r => .pf (comW ++ textOf (r : Int)) r h
  | .refS r => .pf endW r h
noncomputable def tryF (i : Nat) (loc : L) : R V → R Fl
  | .stuck => .stuck
  | .ok v h => .ok (.next (loc.set i (some v))) h
  | .pf w l h => .ok (.ret (.tup [.str [114, 101, 102, 117, 115, 101, 100], .str w, .int l])) h
theorem x_tryR (C : Calls) (N i : Nat) (e : ME) (loc : L) (h : H) : mex C N (.tryR i e) loc h = tryF i loc (mev C e loc h) := rfl
theorem row_zero (t : List Nat) : row t 0 = 1 := rfl
theorem sem_tokens_of {p : Nat} (ho : okL p t = true) (hT : t.length < 20000) (hN : t.length + 2 < N) (s : Spec t (outN t 0) (outS t 0) res) : sem tab N (k + 6) 48 [.str t] h = tkR t h res := by
  have hb : t.length < big := by rw [big_is]; omega
  have h2 : ∀ c ∈ t, c ∈ alpha := okL_mem ho
  have hl : ∀ c ∈ t, c < 128 := fun c hc => alpha_low (h2 c hc)
  obtain ⟨o1, o2, o3⟩ := out_next ho (Nat.zero_le t.length)
  have ol := out_len t 0
  rw [sem_call (d := f_tokens_of) rfl rfl]
  have lo : sem tab N (k + 5) 41 [.str t, .int (0 : Nat), .int (1 : Nat), .ref h.length] (h ++ [[]]) = _ := sem_pass_inline (k := k + 3) hl (Nat.zero_le _) (by omega) hb (by rw [big_is]; simp)
  have lp := lex_loop (k := k) (h := h) ho hT hN N _ _ _ none none none s o2 (by omega) o3 (by rw [big_is]; omega)
  have ri : ∀ H, sem tab N (k + 5) 18 [.str (t.take (outN t 0))] H = _ := fun H => sem_rows_in (k := k + 4) (by rw [List.length_take]; omega)
  simp only [f_tokens_of, List.map_cons, List.map_nil, List.cons_append, List.nil_append, Nat.reduceSub, List.replicate]
  refine (st_next (m_assign (by rw [e_cell, es_nil', ok_bind]))).trans ?_
  refine (st_next (m_assign (v := .int (outN t 0 : Nat)) (h' := h ++ [(outS t 0).map tkV]) (by simp only [e_int, e_var, e_call, es_nil', es_cons', List.getElem?_cons_zero, List.getElem?_cons_succ, List.set_cons_zero, List.set_cons_succ, varR_ok, ok_bind]; exact lo))).trans ?_
  refine (st_next (m_assign (v := .int (row t (outN t 0) : Nat)) (h' := h ++ [(outS t 0).map tkV]) (by simp only [e_none, e_int, e_var, e_bin, e_slc, e_call, es_nil', es_cons', List.getElem?_cons_zero, List.getElem?_cons_succ, List.set_cons_zero, List.set_cons_succ, varR_ok, ok_bind, add_int, ofO_some, slc_strR, ri] <;> rfl))).trans ?_
  simp only [List.set_cons_succ, List.set_cons_zero]
  cases res with
  | read l =>
    obtain ⟨x4, x5, x6, lp⟩ := lp
    have sl := s.len p ho o3
    refine (st_next (by rw [x_while]; exact lp)).trans ?_
    refine (st_next (m_expr ((m_p2 (by simp only [e_var, List.getElem?_cons_zero, List.getElem?_cons_succ, varR_ok] <;> rfl) rfl (by simp only [e_var, e_str, e_mk, es_nil', es_cons', List.getElem?_cons_zero, List.getElem?_cons_succ, varR_ok, ok_bind, mkR_3] <;> rfl)).trans (append_last h _ _ (by rw [big_is]; simp; omega))))).trans ?_
    refine (st_ret (m_ret (by simp only [e_var, List.getElem?_cons_zero, List.getElem?_cons_succ, varR_ok] <;> rfl))).trans ?_
    have em : l.map tkV ++ [V.tok (.str [101, 110, 100]) (.str []) (.int (row t t.length : Nat))] = (l ++ [endT t]).map tkV := by rw [List.map_append]; rfl
    rw [em]
    refine back_cell ?_
    have : frz (h ++ [(l ++ [endT t]).map tkV]) h.length 9 (.ref h.length) = if h.length < h.length then some (.ref h.length) else ((h ++ [(l ++ [endT t]).map tkV])[h.length]?).bind fun vs => (vs.mapM (frz (h ++ [(l ++ [endT t]).map tkV]) h.length 8)).map .lst := rfl
    rw [this, if_neg (Nat.lt_irrefl _), cell_get, Option.bind_some, mapM_id]
    · rfl
    · intro v hv
      obtain ⟨x, hx, rfl⟩ := List.mem_map.mp hv
      exact frz_tk (Sm_end (s.sm (Sm_out t 0)) x hx)
  | refC r =>
    obtain ⟨y, lp⟩ := lp
    refine (st_pf (by rw [x_while]; exact lp)).trans ?_
    exact backPf_cell
  | refS r =>
    obtain ⟨y, lp⟩ := lp
    refine (st_pf (by rw [x_while]; exact lp)).trans ?_
    exact backPf_cell
theorem cloop_tk {C : Calls} : ∀ (l : List Tk) (acc : List V), cloop (fun v h => mev C (.tup (.cons (.attr (.var 0) 0) (.cons (.attr (.var 0) 1) (.cons (.attr (.var 0) 2) .nil)))) [some v] h) (fun v h => mev C (.bool true) [some v] h) (l.map tkV) h acc = .ok (.lst (acc ++ l.map tpV)) h
  | [], acc => by rw [List.map_nil, cl_nil, List.map_nil, List.append_nil]
  | x :: l, acc => by
    rw [List.map_cons, cl_t (h1 := h) (h2 := h) (x := tpV x) (by rw [e_bool]) (by simp only [e_attr, e_var, e_tup, es_nil', es_cons', List.getElem?_cons_zero, varR_ok, ok_bind, ofO_some, tkV, attrV]; rfl), cloop_tk l]
    simp
theorem sem_told {p : Nat} (ho : okL p t = true) (hT : t.length < 20000) (hN : t.length + 2 < N) (s : Spec t (outN t 0) (outS t 0) res) : sem tab N (k + 7) 58 [.str t] h = .ok (rdV t res) h := by
  rw [sem_call (d := f_law_told) rfl rfl]
  have tk := sem_tokens_of (k := k) (h := h) ho hT hN s
  simp only [f_law_told, List.map_cons, List.map_nil, List.cons_append, List.nil_append, Nat.reduceSub, List.replicate]
  have cl : mev (sem tab N (k + 6)) (.call 48 (.cons (.var 0) .nil)) [some (.str t), none] h = _ := (by simp only [e_var, e_call, es_nil', es_cons', List.getElem?_cons_zero, varR_ok, ok_bind] : _ = sem tab N (k + 6) 48 [.str t] h).trans tk
  cases res with
  | read l =>
    refine (st_next (by rw [x_tryR, cl]; rfl)).trans ?_
    have cp : mev (sem tab N (k + 6)) (.comp [] (.var 1) (.tup (.cons (.attr (.var 0) 0) (.cons (.attr (.var 0) 1) (.cons (.attr (.var 0) 2) .nil)))) (.bool true)) [some (.str t), some (.lst ((l ++ [endT t]).map tkV))] h = .ok (.lst ((l ++ [endT t]).map tpV)) h := by
      refine (m_comp (cvs := []) rfl (by simp only [e_var, List.getElem?_cons_zero, List.getElem?_cons_succ, varR_ok] <;> rfl)).trans ?_
      exact (cloop_tk (l ++ [endT t]) []).trans rfl
    refine (st_ret (v := rdV t (.read l)) (h' := h) (m_ret ?_)).trans (back_same rfl)
    simp only [List.set_cons_succ, List.set_cons_zero]
    rw [e_tup, es_cons', e_str, ok_bind, es_cons', cp, ok_bind]
    simp only [e_int, es_nil', es_cons', ok_bind]; rfl
  | refC r => exact (st_ret (v := rdV t _) (h' := h) (by rw [x_tryR, cl]; rfl)).trans (back_same rfl)
  | refS r => exact (st_ret (v := rdV t _) (h' := h) (by rw [x_tryR, cl]; rfl)).trans (back_same rfl)
end
end Mine
end
section
set_option Elab.async false
set_option linter.all false
namespace Mine
open P2

/-! the script -/
noncomputable def starts : List Nat := [60, 63, 97, 32, 10, 39, 47, 35, 59, 36, 49]
noncomputable def opn (p : Nat) : Bool := starts.all (bi p ·)
noncomputable def pcs : List (List Nat) := [[60, 63, 112, 104, 112, 32], [60, 63, 112, 104, 112, 10], [60, 63, 80, 72, 80, 9], [60, 63, 112, 104, 112, 13, 10], [60, 63, 112, 104, 112, 120], [60, 63, 61], [60, 63], [63, 62], [63, 62, 10], [63, 62, 13, 10], [63, 62, 10, 10], [97], [32], [10], [39, 63, 62, 39], [47, 42, 63, 62, 10, 42, 47], [35, 32, 99], [47, 47, 32, 100, 63], [59], [36, 98], [49, 32]]
noncomputable def tls : List (List Nat) := [[], [60, 63, 112, 104, 112], [60, 63, 61], [63, 62], [47, 42, 32, 120], [39, 121]]
noncomputable def chkP (x : List Nat) : Bool := match x with | [] => true | c :: r => starts.contains c && (alpha.contains c && okL c r) && opn (lastOr c r) && decide ((c :: r).length ≤ 7)
theorem pcs_ok : pcs.all chkP = true := by decide
theorem tls_ok : tls.all chkP = true := by decide
noncomputable def Cl (x : List Nat) : Prop := okL 0 x = true ∧ opn (lastOr 0 x) = true
theorem okL_app : ∀ {a b : List Nat} {p : Nat}, okL p a = true → okL (lastOr p a) b = true → okL p (a ++ b) = true
  | [], b, p, _, h => h
  | c :: r, b, p, x, h => by
    obtain ⟨x1, x2, x3⟩ := okL_cons x
    show (alpha.contains c && bi p c && okL c (r ++ b)) = true
    rw [List.contains_iff_mem.mpr x1, x2, okL_app x3 h]; rfl
theorem lastOr_app : ∀ (a b : List Nat) (p : Nat), lastOr p (a ++ b) = lastOr (lastOr p a) b
  | [], b, p => rfl
  | c :: r, b, p => lastOr_app r b c
theorem Cl_nil : Cl [] := ⟨rfl, by decide⟩
theorem Cl_app {x y : List Nat} (h : Cl x) (q : chkP y = true) : Cl (x ++ y) := by
  cases y with
  | nil => rw [List.append_nil]; exact h
  | cons c r =>
    simp only [chkP, Bool.and_eq_true, List.contains_iff_mem] at q
    obtain ⟨⟨⟨q1, q2, q3⟩, q4⟩, _⟩ := q
    have b := List.all_eq_true.mp h.2 c q1
    exact ⟨okL_app h.1 (by simp only [okL, List.contains_iff_mem.mpr q2, b, q3]; rfl), by rw [lastOr_app]; exact q4⟩
theorem chk_len {y : List Nat} (q : chkP y = true) : y.length ≤ 7 := by
  cases y with
  | nil => simp
  | cons c r => simp only [chkP, Bool.and_eq_true, decide_eq_true_eq] at q; exact q.2
theorem okL_take : ∀ {t : List Nat} {p : Nat} (n : Nat), okL p t = true → okL p (t.take n) = true
  | [], p, n, h => by rw [List.take_nil]; rfl
  | c :: r, p, 0, h => rfl
  | c :: r, p, n + 1, h => by
    obtain ⟨x1, x2, x3⟩ := okL_cons h
    show (alpha.contains c && bi p c && okL c (r.take n)) = true
    rw [List.contains_iff_mem.mpr x1, x2, okL_take n x3]; rfl

noncomputable def tells : List Int := [4, 11, 1, 19, 14, 15, 16, 8, 6, 5, 20, 17, 9, 13, 2, 18, 10, 3]
noncomputable def scrB : MS := (.seq (.assign 4 (.p1 .sum (.slst (.var 0) (.var 1) (.int 18))))
    (.seq (.assign 5 (.idx (.call 49 .nil) (.bin .mod (.bin .add (.idx (.var 2) (.var 1)) (.var 4)) (.int 21))))
    (.seq (.assign 3 (.bin .add (.var 3) (.ite (.cmp .eq (.bin .mod (.bin .fdiv (.var 4) (.int 21)) (.int 3)) (.int 2)) (.bin .add (.var 5) (.var 5)) (.var 5))))
    .skip)))
theorem sem_pieces {N k : Nat} {h : H} : sem tab N (k + 1) 49 [] h = .ok (.lst (pcs.map .str)) h := by
  rw [sem_call (d := f_law_pieces) rfl rfl]; exact call_ret rfl
theorem idx_map (h : H) (l : List (List Nat)) (i : Int) (h0 : 0 ≤ i) (h1 : i < l.length) : ∃ x ∈ l, idxV h (.lst (l.map .str)) (.int i) = some (.str x) := by
  have hi : i.toNat < l.length := by omega
  refine ⟨l[i.toNat], List.getElem_mem hi, ?_⟩
  show pick none (pick none (if 0 ≤ i then (l.map V.str)[i.toNat]? else _)) = _
  rw [if_pos h0, List.getElem?_map, List.getElem?_eq_getElem hi]; rfl
theorem idx_ints (h : H) (l : List Int) (i : Nat) (h1 : i < l.length) : idxV h (.lst (l.map .int)) (.int i) = some (.int l[i]) := by
  have q : atE (l.map V.int) (i : Int) = some (.int l[i]) := (if_pos (Int.natCast_nonneg i)).trans ((List.getElem?_map).trans (congrArg (Option.map V.int) (List.getElem?_eq_getElem h1)))
  show pick none (pick none (atE (l.map V.int) (i : Int))) = _
  rw [q]; rfl
theorem mod_pos (h : H) (x y : Int) (e : 0 < y) : binV .mod h (.int x) (.int y) = some (.int (x % y)) := if_pos e
theorem fdiv_k (h : H) (x k : Int) (e : 0 < k ∧ k < 1073741824) : binV .fdiv h (.int x) (.int k) = some (.int (x / k)) := if_pos e
theorem fdiv_21 (h : H) (x : Int) : binV .fdiv h (.int x) (.int 21) = some (.int (x / 21)) := fdiv_k h x 21 (by decide)
theorem fdiv_2 (h : H) (x : Int) : binV .fdiv h (.int x) (.int 2) = some (.int (x / 2)) := fdiv_k h x 2 (by decide)
theorem add_strs (h : H) (x y : List Nat) (e : x.length + y.length ≤ big) : binV .add h (.str x) (.str y) = some (.str (x ++ y)) := by
  show pick none (pick (if x.length + y.length ≤ big then some (V.str (x ++ y)) else none) _) = _; rw [if_pos e]; rfl
theorem ints_map : ∀ l : List Int, intsOf (l.map .int) = some l
  | [] => rfl
  | a :: r => by show (intsOf (r.map V.int)).map _ = _; rw [ints_map r]; rfl
theorem sum_is (h : H) (l : List Int) : p1V .sum (.lst (l.map .int)) h = .ok (.int l.sum) h := by
  refine p1_ok (p := .sum) (a := .lst (l.map .int)) (q := (.int l.sum, h)) ?_
  show (intsOf (l.map V.int)).map _ = _; rw [ints_map]; rfl
theorem step_map (f : Int → V) (l : List Int) (j k : Int) : stepL (l.map f) j k = (stepL l j k).map f := by
  unfold stepL
  rw [List.length_map, List.map_filterMap]
  exact congrArg (List.filterMap · _) (funext fun i => List.getElem?_map)
theorem slst_k (l : List V) (j k : Int) (e : 0 ≤ j ∧ 0 < k) : slstV (.lst l) (.int j) (.int k) = some (.lst (stepL l j k)) := if_pos e
theorem slst_is (l : List Int) (j : Nat) : slstV (.lst (l.map .int)) (.int j) (.int 18) = some (.lst ((stepL l j 18).map .int)) :=
  (slst_k _ j 18 ⟨Int.natCast_nonneg j, by decide⟩).trans (congrArg (fun x => some (V.lst x)) (step_map .int l j 18))
section
variable {C : Calls} {N : Nat} {loc : L} {h h1 h2 h3 : H}
theorem m_slst {a b c : ME} {x y z v : V} (e1 : mev C a loc h = .ok x h1) (e2 : mev C b loc h1 = .ok y h2) (e3 : mev C c loc h2 = .ok z h3) (e4 : slstV x y z = some v) : mev C (.slst a b c) loc h = .ok v h3 := by
  show (mev C a loc h).bind _ = _; rw [e1, ok_bind, e2, ok_bind, e3, ok_bind, e4]; rfl
theorem m_ite_t {t a b : ME} (e : mev C t loc h = .ok (.bool true) h1) : mev C (.ite t a b) loc h = mev C a loc h1 := by
  rw [e_ite, e, ok_bind, truth_bool, ifR_some, if_pos rfl]
theorem m_ite_f {t a b : ME} (e : mev C t loc h = .ok (.bool false) h1) : mev C (.ite t a b) loc h = mev C b loc h1 := by
  rw [e_ite, e, ok_bind, truth_bool, ifR_some, if_neg Bool.false_ne_true]
end
theorem scr_body {N k j : Nat} {l : List Int} {x : List Nat} {h : H} {c4 c5 jj : Option V} (hl : l.length ≤ 63) (hj : j < 18) (hx : Cl x) (hlen : x.length ≤ 14 * j) :
    ∃ y c4' c5', Cl y ∧ y.length ≤ 14 * (j + 1) ∧ mex (sem tab N (k + 1)) N scrB [some (.lst (l.map .int)), some (.int j), some (.lst (tells.map .int)), some (.str x), c4, c5] h = .ok (.next [some (.lst (l.map .int)), some (.int j), some (.lst (tells.map .int)), some (.str y), c4', c5']) h := by
  generalize hs : (stepL l j 18).sum = s
  have a1 : ∀ c4 c5, mev (sem tab N (k + 1)) (.p1 .sum (.slst (.var 0) (.var 1) (.int 18))) [some (.lst (l.map .int)), some (.int j), some (.lst (tells.map .int)), some (.str x), c4, c5] h = .ok (.int s) h := fun c4 c5 => by
    refine (m_p1 (m_slst (by simp only [e_var, List.getElem?_cons_zero, varR_ok] <;> rfl) (by simp only [e_var, List.getElem?_cons_zero, List.getElem?_cons_succ, varR_ok] <;> rfl) (by simp only [e_int] <;> rfl) (slst_is l j))).trans ?_
    rw [sum_is, hs]
  obtain ⟨y, hy, hi⟩ := idx_map h pcs ((tells[j]'(by show j < 18; exact hj) + s) % 21) (Int.emod_nonneg _ (by decide)) (Int.emod_lt_of_pos _ (by decide))
  have qy := List.all_eq_true.mp pcs_ok y hy
  have ly := chk_len qy
  have a2 : ∀ c5, mev (sem tab N (k + 1)) (.idx (.call 49 .nil) (.bin .mod (.bin .add (.idx (.var 2) (.var 1)) (.var 4)) (.int 21))) [some (.lst (l.map .int)), some (.int j), some (.lst (tells.map .int)), some (.str x), some (.int s), c5] h = .ok (.str y) h := fun c5 => by
    refine m_idx (by simp only [e_call, es_nil', ok_bind, sem_pieces] <;> rfl) (m_bin (m_bin (m_idx (by simp only [e_var, List.getElem?_cons_zero, List.getElem?_cons_succ, varR_ok] <;> rfl) (by simp only [e_var, List.getElem?_cons_zero, List.getElem?_cons_succ, varR_ok] <;> rfl) (idx_ints h tells j hj)) (by simp only [e_var, List.getElem?_cons_zero, List.getElem?_cons_succ, varR_ok] <;> rfl) (add_int _ _ _)) (by simp only [e_int] <;> rfl) (mod_pos _ _ _ (by decide))) hi
  have tst : ∀ b : Bool, ((s / 21 % 3 == 2) = b) → mev (sem tab N (k + 1)) (.cmp .eq (.bin .mod (.bin .fdiv (.var 4) (.int 21)) (.int 3)) (.int 2)) [some (.lst (l.map .int)), some (.int j), some (.lst (tells.map .int)), some (.str x), some (.int s), some (.str y)] h = .ok (.bool b) h := fun b hb =>
    m_cmp (m_bin (m_bin (by simp only [e_var, List.getElem?_cons_zero, List.getElem?_cons_succ, varR_ok] <;> rfl) (by simp only [e_int] <;> rfl) (fdiv_21 _ _)) (by simp only [e_int] <;> rfl) (mod_pos _ _ _ (by decide))) (by simp only [e_int] <;> rfl) (by rw [eq_int, hb])
  have bg := big_is
  unfold scrB
  cases b : (s / 21 % 3 == 2) with
  | false =>
    refine ⟨x ++ y, some (.int s), some (.str y), Cl_app hx qy, by rw [List.length_append]; omega, ?_⟩
    refine (nx_next (m_assign (a1 _ _))).trans ((nx_next (m_assign (a2 _))).trans ((nx_next (m_assign (m_bin (by simp only [e_var, List.getElem?_cons_zero, List.getElem?_cons_succ, varR_ok] <;> rfl) ((m_ite_f (tst _ b)).trans (by simp only [e_var, List.getElem?_cons_zero, List.getElem?_cons_succ, varR_ok] <;> rfl)) (add_strs h x y (by omega))))).trans ?_))
    rw [x_skip]; rfl
  | true =>
    refine ⟨x ++ (y ++ y), some (.int s), some (.str y), by rw [← List.append_assoc]; exact Cl_app (Cl_app hx qy) qy, by rw [List.length_append, List.length_append]; omega, ?_⟩
    refine (nx_next (m_assign (a1 _ _))).trans ((nx_next (m_assign (a2 _))).trans ((nx_next (m_assign (m_bin (by simp only [e_var, List.getElem?_cons_zero, List.getElem?_cons_succ, varR_ok] <;> rfl) ((m_ite_t (tst _ b)).trans (m_bin (by simp only [e_var, List.getElem?_cons_zero, List.getElem?_cons_succ, varR_ok] <;> rfl) (by simp only [e_var, List.getElem?_cons_zero, List.getElem?_cons_succ, varR_ok] <;> rfl) (add_strs h y y (by omega)))) (add_strs h x (y ++ y) (by rw [List.length_append]; omega))))).trans ?_))
    rw [x_skip]; rfl
theorem scr_loop {N k : Nat} {l : List Int} {h : H} (hl : l.length ≤ 63) : ∀ (n j : Nat) (x : List Nat) (c1 c4 c5 : Option V), j + n = 18 → Cl x → x.length ≤ 14 * j →
    ∃ y c1' c4' c5', Cl y ∧ y.length ≤ 14 * 18 ∧ floop (fun v loc h => mex (sem tab N (k + 1)) N scrB (loc.set 1 (some v)) h) ((List.range' j n).map fun (i : Nat) => V.int (i : Int)) [some (.lst (l.map .int)), c1, some (.lst (tells.map .int)), some (.str x), c4, c5] h =
      .ok (.next [some (.lst (l.map .int)), c1', some (.lst (tells.map .int)), some (.str y), c4', c5']) h
  | 0, j, x, c1, c4, c5, hn, hx, hlen => ⟨x, c1, c4, c5, hx, by omega, rfl⟩
  | n + 1, j, x, c1, c4, c5, hn, hx, hlen => by
    obtain ⟨y, c4', c5', hy, ly, e⟩ := scr_body (N := N) (k := k) (h := h) (c4 := c4) (c5 := c5) (jj := none) hl (by omega : j < 18) hx hlen
    obtain ⟨z, d1, d4, d5, hz, lz, e2⟩ := scr_loop (N := N) (k := k) (h := h) hl n (j + 1) y (some (.int j)) c4' c5' (by omega) hy ly
    refine ⟨z, d1, d4, d5, hz, lz, ?_⟩
    rw [List.range'_succ, List.map_cons, fl_cons]
    simp only [List.set_cons_succ, List.set_cons_zero, e, ok_bind, flR_next]
    exact e2
noncomputable def forRV (lo hi : V) (C : Calls) (N : Nat) (x : Nat) (b : MS) (loc : L) (h : H) : R Fl := itemsR (rangeV lo hi) fun vs => floop (fun v loc h => mex C N b (loc.set x (some v)) h) vs loc h
theorem x_forR (C : Calls) (N x : Nat) (lo hi : ME) (b : MS) (loc : L) (h : H) : mex C N (.forR x lo hi b) loc h = (mev C lo loc h).bind fun a h => (mev C hi loc h).bind fun c h => forRV a c C N x b loc h := rfl
theorem range_k (a b : Int) (e : -1000 < a ∧ a < big ∧ b < big ∧ -1000 < b) : rangeV (.int a) (.int b) = some ((List.range (b - a).toNat).map fun (i : Nat) => V.int (a + (i : Int))) := if_pos e
theorem range_18 : rangeV (.int 0) (.int 18) = some ((List.range' 0 18).map fun (i : Nat) => V.int (i : Int)) := by
  exact (range_k 0 18 (by decide)).trans rfl
theorem sem_script {N k : Nat} {l : List Int} {h : H} (hl : l.length ≤ 63) : ∃ x, okL 0 x = true ∧ x.length < 1000 ∧ sem tab N (k + 2) 50 [.lst (l.map .int)] h = .ok (.str x) h := by
  obtain ⟨y, d1, d4, d5, hy, ly, e⟩ := scr_loop (N := N) (k := k) (h := h) hl 18 0 [] none none none rfl Cl_nil (by simp)
  obtain ⟨z, hz, hi⟩ := idx_map h tls (l.sum % 6) (Int.emod_nonneg _ (by decide)) (Int.emod_lt_of_pos _ (by decide))
  have qz := List.all_eq_true.mp tls_ok z hz
  have lz := chk_len qz
  refine ⟨y ++ z, (Cl_app hy qz).1, by rw [List.length_append]; omega, ?_⟩
  rw [sem_call (d := f_law_script) rfl rfl]
  simp only [f_law_script, List.map_cons, List.map_nil, List.cons_append, List.nil_append, Nat.reduceSub, List.replicate]
  refine (st_next (loc' := [some (.lst (l.map .int)), none, some (.lst (tells.map .int)), some (.str []), none, none]) (m_pair (by simp only [e_int, e_list, es_nil', es_cons', ok_bind] <;> rfl) (by simp only [e_str] <;> rfl))).trans ?_
  refine (st_next (loc' := [some (.lst (l.map .int)), d1, some (.lst (tells.map .int)), some (.str y), d4, d5]) (h' := h) (by rw [x_forR, e_int, ok_bind, e_int, ok_bind]; unfold forRV; rw [range_18]; exact e)).trans ?_
  refine (st_ret (m_ret (m_bin (by simp only [e_var, List.getElem?_cons_zero, List.getElem?_cons_succ, varR_ok] <;> rfl) (m_idx (x := .lst (tls.map .str)) (h1 := h) (by simp only [e_str, e_list, es_nil', es_cons', ok_bind] <;> rfl) (m_bin ((m_p1 (by simp only [e_var, List.getElem?_cons_zero, varR_ok] <;> rfl)).trans (sum_is h l)) (by simp only [e_int] <;> rfl) (mod_pos _ _ _ (by decide))) hi) (add_strs h y z (by rw [big_is]; omega))))).trans ?_
  exact back_same rfl

/-! the law -/
theorem take_map (f : Int → V) (l : List Int) : slcV (.lst (l.map f)) .none (.int 63) = some (.lst ((l.take 63).map f)) := by
  show some (V.lst (sliceL (l.map f) none (some ((63 : Nat) : Int)))) = _
  rw [slR, List.map_take]
theorem law_holds {N k : Nat} {l : List Int} (hN : 2000 ≤ N) : sem tab N (k + 9) 59 [.lst (l.map .int)] [] = .ok (.bool true) [] := by
  rw [sem_call (d := f_law) rfl rfl]
  generalize hm : l.take 63 = m
  have lm : m.length ≤ 63 := by rw [← hm]; exact List.length_take_le 63 l
  obtain ⟨x, ox, lx, sx⟩ := sem_script (N := N) (k := k + 6) (h := []) lm
  simp only [f_law, List.map_cons, List.map_nil, List.cons_append, List.nil_append, Nat.reduceSub, List.replicate]
  refine (st_next (loc' := [some (.lst (m.map .int)), none, none]) (m_assign (by simp only [e_none, e_int, e_var, e_slc, List.getElem?_cons_zero, varR_ok, ok_bind, ofO_some, take_map, hm] <;> rfl))).trans ?_
  refine (st_next (loc' := [some (.lst (m.map .int)), some (.str x), none]) (m_assign (by simp only [e_var, e_call, es_nil', es_cons', List.getElem?_cons_zero, varR_ok, ok_bind]; exact sx))).trans ?_
  have one : ∀ (c : Nat) (v2 : Option V), c ≤ x.length → mex (sem tab N (k + 8)) N (.seq (.ite (.cmp .ne (.call 58 (.cons (.slc (.var 1) .none (.var 2)) .nil)) (.call 57 (.cons (.slc (.var 1) .none (.var 2)) .nil))) (.seq (.ret (.bool false)) .skip) .skip) .skip) [some (.lst (m.map .int)), some (.str x), some (.int c)] [] = .ok (.next [some (.lst (m.map .int)), some (.str x), some (.int c)]) [] := fun c v2 hc => by
    have ok : okL 0 (x.take c) = true := okL_take c ox
    have lc : (x.take c).length ≤ x.length := by rw [List.length_take]; omega
    obtain ⟨o1, o2, o3⟩ := out_next ok (Nat.zero_le _)
    obtain ⟨res, sp⟩ := spec_is ok _ _ (outS (x.take c) 0) (Nat.lt_succ_self _) o3
    have t1 : sem tab N (k + 8) 58 [.str (x.take c)] [] = _ := sem_told (k := k + 1) ok (by omega) (by omega) sp
    have t2 : sem tab N (k + 8) 57 [.str (x.take c)] [] = _ := sem_law_read (k := k + 5) ok (by omega) (by omega) sp
    refine (nx_if_f (m_cmp (x := rdV (x.take c) res) (y := rdV (x.take c) res) (h1 := []) (h2 := []) (by simp only [e_none, e_var, e_slc, e_call, es_nil', es_cons', List.getElem?_cons_zero, List.getElem?_cons_succ, varR_ok, ok_bind, ofO_some, slc_strR]; exact t1) (by simp only [e_none, e_var, e_slc, e_call, es_nil', es_cons', List.getElem?_cons_zero, List.getElem?_cons_succ, varR_ok, ok_bind, ofO_some, slc_strR]; exact t2) (ne_rd (sp.sm (Sm_out _ 0))))).trans ?_
    rw [x_skip]
  obtain ⟨c3, hc3⟩ : ∃ c : Nat, m.sum % ((x.length : Int) + 1) = (c : Int) ∧ c ≤ x.length := ⟨(m.sum % ((x.length : Int) + 1)).toNat, by
    have := Int.emod_nonneg m.sum (show ((x.length : Int) + 1) ≠ 0 by omega)
    omega, by
    have := Int.emod_nonneg m.sum (show ((x.length : Int) + 1) ≠ 0 by omega)
    have := Int.emod_lt_of_pos m.sum (show 0 < ((x.length : Int) + 1) by omega)
    omega⟩
  have li : mev (sem tab N (k + 8)) (.list (.cons (.p1 .len (.var 1)) (.cons (.bin .fdiv (.p1 .len (.var 1)) (.int 2)) (.cons (.bin .mod (.p1 .sum (.var 0)) (.bin .add (.p1 .len (.var 1)) (.int 1))) .nil)))) [some (.lst (m.map .int)), some (.str x), none] [] = .ok (.lst [.int x.length, .int (x.length / 2 : Nat), .int c3]) [] := by
    have e1 : mev (sem tab N (k + 8)) (.bin .fdiv (.p1 .len (.var 1)) (.int 2)) [some (.lst (m.map .int)), some (.str x), none] [] = .ok (.int (x.length / 2 : Nat)) [] := m_bin (by simp only [e_var, e_p1, List.getElem?_cons_zero, List.getElem?_cons_succ, varR_ok, ok_bind, len_str] <;> rfl) (by simp only [e_int] <;> rfl) ((fdiv_2 _ _).trans (by congr 2))
    have e2 : mev (sem tab N (k + 8)) (.bin .mod (.p1 .sum (.var 0)) (.bin .add (.p1 .len (.var 1)) (.int 1))) [some (.lst (m.map .int)), some (.str x), none] [] = .ok (.int c3) [] := m_bin ((m_p1 (by simp only [e_var, List.getElem?_cons_zero, varR_ok] <;> rfl)).trans (sum_is _ m)) (m_bin (by simp only [e_var, e_p1, List.getElem?_cons_zero, List.getElem?_cons_succ, varR_ok, ok_bind, len_str] <;> rfl) (by simp only [e_int] <;> rfl) (add_int _ _ _)) ((mod_pos _ _ _ (by omega)).trans (by rw [hc3.1]))
    simp only [e_list, es_cons', es_nil', e1, e2, ok_bind, e_p1, e_var, List.getElem?_cons_zero, List.getElem?_cons_succ, varR_ok, len_str]
  have it : items [] (.lst [.int x.length, .int (x.length / 2 : Nat), .int c3]) = some [.int x.length, .int (x.length / 2 : Nat), .int c3] := rfl
  refine (st_next (loc' := [some (.lst (m.map .int)), some (.str x), some (.int c3)]) (h' := []) (by
    rw [x_for, li, ok_bind, it, itemsR_some]
    simp only [isRefV, Bool.false_eq_true, if_false, fl_cons, fl_nil, List.set_cons_succ, List.set_cons_zero, one x.length none (Nat.le_refl _), one (x.length / 2) none (Nat.div_le_self _ _), one c3 none hc3.2, ok_bind, flR_next])).trans ?_
  refine (st_ret (m_ret (by simp only [e_bool] <;> rfl))).trans ?_
  exact back_same rfl
end Mine
end
section
set_option Elab.async false
set_option linter.all false
namespace Mine
open PySem PySem.Spec PySem.Calls PyProof.Rows PySem.W

theorem LeftO.of_run {p q : Program} {loose : List PySem.Str} {Xt : Shared → Bool} {α : Type} {Yf : Shared → α} {Ya : World → α} {N : Nat} {H₀ : Params → Heap} {d₀ : Drawn} {k₀ : Nat} {m₀ : Nat} {ann : Option Value} {M : Nat}
    (open_ : ∀ w : World, (fencedOpening treeTable p w N).map (fun s => (s.heap, s.gens, s.drawn, s.toks)) = some (H₀ w.params, #[], d₀, k₀))
    (size : ∀ w : World, ((H₀ w.params).isNs mainGlobals, (H₀ w.params).objs.size, (H₀ w.params).nsMap mainGlobals "__annotations__") = (true, m₀, ann)) (le : Nat.ble M N = true)
    (runA : ∀ (w : World) (os : OsState), (topRun treeTable p w m₀ ann M ⟨H₀ w.params, #[], d₀, k₀, os⟩ (topStub p)).map (fun s => (staticsOk (importedModules p.main.body) (H₀ w.params) s.heap && namesBound p s.heap && gensDone s && laidKept (H₀ w.params) s.heap)) = some true)
    (runB : ∀ (w : World) (os : OsState), (topRun treeTable p w m₀ ann M ⟨H₀ w.params, #[], d₀, k₀, os⟩ (topStub p)).map (fun s => openSeen q loose (importedModules p.main.body) Xt true s) = some (openGood q loose))
    (runC : ∀ (w : World) (os : OsState), (topRun treeTable p w m₀ ann M ⟨H₀ w.params, #[], d₀, k₀, os⟩ (topStub p)).map Yf = some (Ya w)) : LeftO p q loose Xt Yf Ya N := fun w => by
  obtain ⟨⟨h, gs, d, k, os⟩, e, e'⟩ := Option.map_eq_some_iff.mp (open_ w)
  obtain ⟨rfl, rfl, rfl, rfl⟩ : h = H₀ w.params ∧ gs = #[] ∧ d = d₀ ∧ k = k₀ := by simpa using e'
  obtain ⟨z1, z2, z3⟩ : _ ∧ _ ∧ _ := by simpa only [Prod.mk.injEq] using size w
  obtain ⟨s₁, r, l1⟩ := Option.map_eq_some_iff.mp (runA w os)
  obtain ⟨s₂, r2, l2⟩ := Option.map_eq_some_iff.mp (runB w os)
  obtain ⟨s₃, r3, l3⟩ := Option.map_eq_some_iff.mp (runC w os)
  rw [r] at r2 r3
  cases r2; cases r3
  have r' := topRun_mono (N - M) _ _ _ _ r
  rw [show M + (N - M) = N by have := Nat.le_of_ble_eq_true le; omega] at r'
  have t : topFrom treeTable p w N ⟨H₀ w.params, #[], d, k, os⟩ = some s₁ := by
    unfold topFrom
    dsimp only
    rw [z1, z2, z3, r']
    show (match staticsOk (importedModules p.main.body) (H₀ w.params) s₁.heap && namesBound p s₁.heap && gensDone s₁ && laidKept (H₀ w.params) s₁.heap with | true => _ | false => _) = _
    rw [l1]
  unfold openEnds
  rw [e]
  show (topFrom treeTable p w N _).map _ = _
  rw [t]
  exact congrArg some (Prod.ext l2 l3)

theorem LeftO.of_run2 {p q : Program} {loose : List PySem.Str} {Xt : Shared → Bool} {α : Type} {Yf : Shared → α} {Ya : World → α} {N : Nat} {H₀ : Params → Heap} {d₀ : Drawn} {k₀ : Nat} {m₀ : Nat} {ann : Option Value} {M : Nat}
    (open_ : ∀ w : World, (fencedOpening treeTable p w N).map (fun s => (s.heap, s.gens, s.drawn, s.toks)) = some (H₀ w.params, #[], d₀, k₀))
    (size : ∀ w : World, ((H₀ w.params).isNs mainGlobals, (H₀ w.params).objs.size, (H₀ w.params).nsMap mainGlobals "__annotations__") = (true, m₀, ann)) (le : Nat.ble M N = true)
    (run : ∀ (w : World) (os : OsState), (topRun treeTable p w m₀ ann M ⟨H₀ w.params, #[], d₀, k₀, os⟩ (topStub p)).map (fun s => ((staticsOk (importedModules p.main.body) (H₀ w.params) s.heap && namesBound p s.heap && gensDone s && laidKept (H₀ w.params) s.heap), openSeen q loose (importedModules p.main.body) Xt true s)) = some (true, openGood q loose))
    (runC : ∀ (w : World) (os : OsState), (topRun treeTable p w m₀ ann M ⟨H₀ w.params, #[], d₀, k₀, os⟩ (topStub p)).map Yf = some (Ya w)) : LeftO p q loose Xt Yf Ya N :=
  LeftO.of_run open_ size le (fun w os => by have := congrArg (Option.map Prod.fst) (run w os); rw [Option.map_map] at this; exact this) (fun w os => by have := congrArg (Option.map Prod.snd) (run w os); rw [Option.map_map] at this; exact this) runC
end Mine
end
section
set_option Elab.async false
set_option maxRecDepth 100000
set_option maxHeartbeats 0
set_option linter.all false
namespace Mine
open PySem PySem.Spec PySem.Calls PyProof.Rows PySem.W
noncomputable def T2 : List Ent := P2.names.filterMap fun (f, n, vs) => (P2.tab f).map fun d => ⟨Str.ofString n, f, d, vs.map Str.ofString⟩
abbrev pw2 := PySem.Challenge.pw_pq0854_02
noncomputable def Q2 : Program := view pw2 [75]
noncomputable def loose2 : List PySem.Str := (pw2.main.body.dropLast.flatMap bindsAtTop).eraseDups.filter fun x => !startupNames.contains x
theorem run2a : ∀ (w : World) (os : OsState), (Fast.tw14082659384304107361 Fast.tw14364793385576792824 pw2 w 11 (some (.ref 6)) 3117 ⟨boot_heap w.params, #[], boot_drawn, boot_toks, os⟩ (topStub pw2)).map (fun s => ((staticsOk (importedModules pw2.main.body) (boot_heap w.params) s.heap && namesBound pw2 s.heap && gensDone s && laidKept (boot_heap w.params) s.heap), Fast.tw4187177175401517315 Q2 loose2 (importedModules pw2.main.body) (fun _ => true) true s)) = some (true, openGood Q2 loose2) := by
  intro w os; kernel_rfl!
theorem run2c : ∀ (w : World) (os : OsState), (Fast.tw14082659384304107361 Fast.tw14364793385576792824 pw2 w 11 (some (.ref 6)) 3117 ⟨boot_heap w.params, #[], boot_drawn, boot_toks, os⟩ (topStub pw2)).map (fun s => see T2 s.heap) = some true := by
  intro w os; kernel_rfl!
theorem left2 : LeftO pw2 Q2 loose2 (fun _ => true) (fun s => see T2 s.heap) (fun _ => true) 6200 :=
  LeftO.of_run2 (H₀ := boot_heap) (d₀ := boot_drawn) (k₀ := boot_toks) (m₀ := 11) (ann := some (.ref 6)) (M := 3117) (boot_open (by rfl) (by decide +kernel) (fun s => by rfl)) (fun w => by kernel_rfl!) (by decide +kernel)
    (by rw [Fast.te14082659384304107361, Fast.te14364793385576792824, Fast.te4187177175401517315]; exact run2a) (by rw [Fast.te14082659384304107361, Fast.te14364793385576792824]; exact run2c)
theorem tab2 : ∀ f, tabOf T2 f = P2.tab f
  | 0 => rfl
  | 1 => rfl
  | 2 => rfl
  | 3 => rfl
  | 4 => rfl
  | 5 => rfl
  | 6 => rfl
  | 7 => rfl
  | 8 => rfl
  | 9 => rfl
  | 10 => rfl
  | 11 => rfl
  | 12 => rfl
  | 13 => rfl
  | 14 => rfl
  | 15 => rfl
  | 16 => rfl
  | 17 => rfl
  | 18 => rfl
  | 19 => rfl
  | 20 => rfl
  | 21 => rfl
  | 22 => rfl
  | 23 => rfl
  | 24 => rfl
  | 25 => rfl
  | 26 => rfl
  | 27 => rfl
  | 28 => rfl
  | 29 => rfl
  | 30 => rfl
  | 31 => rfl
  | 32 => rfl
  | 33 => rfl
  | 34 => rfl
  | 35 => rfl
  | 36 => rfl
  | 37 => rfl
  | 38 => rfl
  | 39 => rfl
  | 40 => rfl
  | 41 => rfl
  | 42 => rfl
  | 43 => rfl
  | 44 => rfl
  | 45 => rfl
  | 46 => rfl
  | 47 => rfl
  | 48 => rfl
  | 49 => rfl
  | 50 => rfl
  | 51 => rfl
  | 52 => rfl
  | 53 => rfl
  | 54 => rfl
  | 55 => rfl
  | 56 => rfl
  | 57 => rfl
  | 58 => rfl
  | 59 => rfl
  | 60 => rfl
  | 61 => rfl
  | _ + 62 => rfl
theorem sem2 (is : List Int) : sem (tabOf T2) 5000 40 59 [.lst (is.map .int)] [] = .ok (.bool true) [] := by
  rw [funext tab2]; exact law_holds (k := 31) (by decide)
theorem said2 : OpenLaw.wellSaid PySem.Challenge.rw_pq0854_02 = true := by
  rw [Fast.te9446332074065402090]; decide +kernel
end Mine
open PySem PySem.W PyProof.Rows
theorem PySem.Challenge.cw_pq0854_02_holds : PySem.Challenge.rw_pq0854_02.Holds := by
  w_on
  refine holds_law Mine.said2 fun said => ?_
  refine PySem.W.holds_open (q := Mine.Q2) (loose := Mine.loose2) (Xt := fun _ => true) (XP := fun _ _ => True) (Yf := fun s => Mine.see Mine.T2 s.heap) (Ya := fun _ => true) (YP := fun _ h => ∃ h₀, Mine.see Mine.T2 h₀ = true ∧ ∀ b o, h₀.get? b = some o → h.get? b = some o) (N := 6200) Mine.left2 (fun w s e => ⟨s.heap, e, fun _ _ e => e⟩) (fun w h h' y k => let ⟨h₀, a, b⟩ := y; ⟨h₀, a, fun x o e => k _ _ (b x o e)⟩) (fun _ _ => trivial) (fun _ _ _ _ _ => trivial) (by rfl) (by rfl) (by rfl) (fun s _ => recFacts_nil rfl) (by rfl) (by assumption) (by decide +kernel) ⟨rfl, rfl, rfl, rfl, rfl, by decide +kernel⟩ ?hw ?hc
  case hw => w_witness2
  case hc => exact Mine.walk_of (lawF := 59) (most := 63) rfl (by decide) rfl ⟨_, rfl, rfl⟩ Mine.sem2
end
