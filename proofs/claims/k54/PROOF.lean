import PyProof.Rows.All
import Wide.All
import OpenK.AllK
import Wide.FinOn
import HandS.ForMost
import HandS.Wide
import HandS.TupAny
import HandS.Style
import HandS.Exc
import HandS.Deep
import KE.KMulAny
import HandS.Walk
import HandS.IsInst
import HandS.SortRule
import HandS.SortInts
import HandS.Conv
import HandS.More
import HandS.Defaults
import HandS.Head0
import HandS.Head1
import HandS.Head2
import HandS.HeadEnd
import HandS.EndBits
import HandS.HeadHook1
import HandS.HeadHook2
import HandS.HeadHook3
import HandS.HeadHook4
import KE.KStateDown
import PySem.Challenge.RW_ringbase_k54_taken_back
set_option Elab.async false
set_option linter.all false
set_option maxRecDepth 100000
set_option maxHeartbeats 0
/-! A small evaluator over plain data: slots, some of which own a mutable container. -/
namespace Rb
open PySem L2
inductive SV where
  | emp | slf
  | dat (d : PyData) | lst (ds : List PyData) | dct (es : List (PyData × PyData)) | std (d : PyData) (ds : List PyData)
/-- it owns something that may change -/
def SV.own : SV → Bool
  | .emp => false
  | .dat _ => false
  | _ => true
/-- read as plain data -/
def frz : SV → Option PyData
  | .dat d => some d
  | .lst ds => some (.list ds)
  | .dct es => some (.dict es)
  | _ => none
abbrev Sto := List SV
/-- np: the parameters; nv: where the object's own fields stand (a method); F: what the defs that are called do -/
structure En where
  np : Nat
  nv : Nat
  me : Bool
  F : Str → List SV → Option (SV × List SV)
abbrev ME := En → Sto → Option (SV × Sto)
abbrev MD := En → Sto → Option (PyData × Sto)
inductive Pd where
  | pl (i : Nat) | da (d : PyData)
abbrev MO := En → Sto → Option (Pd × Sto)
abbrev MA := En → Sto → Option (List Pd × Sto)
abbrev MT := En → Sto → Option (Bool × Sto)
abbrev MI := En → Sto → Option (List PyData × Sto)
inductive Out where
  | nx | rt (r : SV)
abbrev MS := En → Sto → Option (Out × Sto)
def gt (st : Sto) (i : Nat) : SV := st.getD i .emp
def lim : Nat := 1048576
/-! ### what operators give -/
def mulOk (i j : Int) : Bool := decide (i.natAbs.log2 + j.natAbs.log2 < 1000000)
def powOk (i j : Int) : Bool := decide (0 ≤ j) && decide (j ≤ 1000000) && decide (i.natAbs < 2 ^ 64)
def divOk (j : Int) : Bool := decide (0 < j) && decide (j.natAbs.log2 < 9000)
def binD : Operator → PyData → PyData → Option SV
  | .Add, .int i, .int j => some (.dat (.int (i + j)))
  | .Add, .str x, .str y => if x.length + y.length ≤ lim then some (.dat (.str (x ++ y))) else none
  | .Add, .tuple xs, .tuple ys => if xs.length + ys.length ≤ lim then some (.dat (.tuple (xs ++ ys))) else none
  | .Add, .list xs, .list ys => if xs.length + ys.length ≤ lim then some (.lst (xs ++ ys)) else none
  | .Sub, .int i, .int j => some (.dat (.int (i - j)))
  | .Mult, .int i, .int j => if mulOk i j then some (.dat (.int (i * j))) else none
  | .Mult, .list xs, .int j => if decide (0 ≤ j) && decide (j ≤ 1000) && decide (xs.length ≤ 1000) then some (.lst (List.replicate j.toNat xs).flatten) else none
  | .FloorDiv, .int i, .int j => if divOk j then some (.dat (.int (i / j))) else none
  | .Mod, .int i, .int j => if 0 < j then some (.dat (.int (i % j))) else none
  | .Pow, .int i, .int j => if powOk i j then some (.dat (.int (i ^ j.toNat))) else none
  | .LShift, .int i, .int j => if powOk i j then some (.dat (.int (i * 2 ^ j.toNat))) else none
  | .RShift, .int i, .int j => if 0 ≤ j then some (.dat (.int (i / 2 ^ j.toNat))) else none
  | .BitAnd, .int i, .int j => some (.dat (.int (Builtin.bitAnd i j)))
  | .BitOr, .int i, .int j => some (.dat (.int (Builtin.bitOr i j)))
  | .BitXor, .int i, .int j => some (.dat (.int (Builtin.bitXor i j)))
  | _, _, _ => none
def flatD : PyData → Bool
  | .none => true
  | .bool _ => true
  | .int _ => true
  | .str _ => true
  | _ => false
def keyD : PyData → Option Key
  | .int i => some (.inl i)
  | .str x => some (.inr x)
  | _ => none
/-- keys: ints and texts, or tuples of them -/
def keysD : List PyData → Option (List Key)
  | [] => some []
  | x :: r => match keyD x, keysD r with
    | some k, some ks => some (k :: ks)
    | _, _ => none
def isKey (x : PyData) : Bool := (keyD x).isSome
def isKeys : PyData → Bool
  | .tuple xs => (keysD xs).isSome
  | _ => false
/-- the key is of the kind of the dict's keys -/
def keyOk (es : List (PyData × PyData)) (k : PyData) : Bool := (isKey k && es.all fun e => isKey e.1) || (isKeys k && !es.isEmpty && es.all fun e => isKeys e.1)
def dlook (es : List (PyData × PyData)) (k : PyData) : Option PyData := (es.find? fun e => PyData.eqv e.1 k).map (·.2)
def inD (x : PyData) : PyData → Option Bool
  | .list ys => if flatD x && ys.all flatD then some (ys.any fun y => PyData.eqv y x) else if SeqAt.shaped x && SeqAt.shaped (.list ys) then some (ys.any fun y => PyData.eqv y x) else none
  | .tuple ys => if flatD x && ys.all flatD then some (ys.any fun y => PyData.eqv y x) else none
  | .dict es => if keyOk es x then some (dlook es x).isSome else none
  | .str z => match x with
    | .str y => if y.length = 1 then some (decide (y.cps.getD 0 0 ∈ z.cps.toList)) else none
    | _ => none
  | _ => none
def cmpD : CmpOp → PyData → PyData → Option Bool
  | .Eq, x, y => if SeqAt.shaped x && SeqAt.shaped y then some (PyData.eqv x y) else none
  | .NotEq, x, y => if SeqAt.shaped x && SeqAt.shaped y then some (!PyData.eqv x y) else none
  | .Lt, .int i, .int j => some (decide (i < j))
  | .LtE, .int i, .int j => some (decide (i ≤ j))
  | .Gt, .int i, .int j => some (decide (j < i))
  | .GtE, .int i, .int j => some (decide (j ≤ i))
  | .Is, x, .none => some (match x with | .none => true | _ => false)
  | .IsNot, x, .none => some (match x with | .none => false | _ => true)
  | .Is, .bool a, .bool b => some (decide (a = b))
  | .IsNot, .bool a, .bool b => some (!decide (a = b))
  | .In, x, y => inD x y
  | .NotIn, x, y => (inD x y).map (!·)
  | _, _, _ => none
def ixD : PyData → PyData → Option PyData
  | .list xs, .int i => atI xs i
  | .tuple xs, .int i => atI xs i
  | .str z, .int i => if z.length ≤ lim then (atI z.cps.toList i).map fun c => .str ⟨#[c]⟩ else none
  | .dict es, k => if keyOk es k then dlook es k else none
  | _, _ => none
def cutD {α : Type} (xs : List α) (lo hi : Option Int) : List α := (xs.drop (HT.sIx xs.length 0 lo)).take (HT.sIx xs.length xs.length hi - HT.sIx xs.length 0 lo)
def slcD : PyData → Option Int → Option Int → Option SV
  | .list xs, lo, hi => some (.lst (cutD xs lo hi))
  | .tuple xs, lo, hi => some (.dat (.tuple (cutD xs lo hi)))
  | .str z, lo, hi => if z.length ≤ lim then some (.dat (.str (cutS z lo hi))) else none
  | _, _, _ => none
/-! ### expressions -/
def cstE (d : PyData) : ME := fun _ st => some (.dat d, st)
def varE (i : Nat) : ME := fun M st => match gt st i with
  | .dat d => some (.dat d, st)
  | .lst ds => if i < M.np then none else if i < M.nv then some (.dat (.list ds), st.set i (.dat (.list ds))) else none
  | .dct es => if i < M.np then none else if i < M.nv then some (.dat (.dict es), st.set i (.dat (.dict es))) else none
  | _ => none
/-- the value as plain data -/
def valE (m : ME) : MD := fun M st => match m M st with
  | some (r, st1) => match frz r with
    | some d => some (d, st1)
    | none => none
  | none => none
def datE (m : MD) : ME := fun M st => match m M st with
  | some (d, st1) => some (.dat d, st1)
  | none => none
def plO (i : Nat) : MO := fun _ st => match gt st i with
  | .emp => none
  | .slf => none
  | _ => some (.pl i, st)
def exO (m : ME) : MO := fun M st => match valE m M st with
  | some (d, st1) => some (.da d, st1)
  | none => none
def peek (st : Sto) : Pd → Option PyData
  | .pl i => frz (gt st i)
  | .da d => some d
def peeks (st : Sto) : List Pd → Option (List PyData)
  | [] => some []
  | p :: r => match peek st p, peeks st r with
    | some d, some ds => some (d :: ds)
    | _, _ => none
def two (a b : MO) (k : PyData → PyData → Sto → Option (SV × Sto)) : ME := fun M st => match a M st with
  | some (p, st1) => match b M st1 with
    | some (q, st2) => match peek st2 p, peek st2 q with
      | some x, some y => k x y st2
      | _, _ => none
    | none => none
  | none => none
def rs (o : Option SV) (st : Sto) : Option (SV × Sto) := match o with
  | some r => some (r, st)
  | none => none
def rd (o : Option PyData) (st : Sto) : Option (SV × Sto) := match o with
  | some r => some (.dat r, st)
  | none => none
def rb (o : Option Bool) (st : Sto) : Option (SV × Sto) := match o with
  | some r => some (.dat (.bool r), st)
  | none => none
def binE (op : Operator) (a b : MO) : ME := two a b fun x y st => rs (binD op x y) st
def cmpE (op : CmpOp) (a b : MO) : ME := two a b fun x y st => rb (cmpD op x y) st
def ixE (a b : MO) : ME := two a b fun x y st => rd (ixD x y) st
def negE (a : ME) : ME := fun M st => match valE a M st with
  | some (.int i, st1) => some (.dat (.int (-i)), st1)
  | _ => none
def bolE (a : ME) : MT := fun M st => match valE a M st with
  | some (.bool b, st1) => some (b, st1)
  | _ => none
def notE (a : ME) : ME := fun M st => match bolE a M st with
  | some (b, st1) => some (.dat (.bool (!b)), st1)
  | none => none
def andE (a b : ME) : ME := fun M st => match bolE a M st with
  | some (true, st1) => b M st1
  | some (false, st1) => some (.dat (.bool false), st1)
  | none => none
def orE (a b : ME) : ME := fun M st => match bolE a M st with
  | some (true, st1) => some (.dat (.bool true), st1)
  | some (false, st1) => b M st1
  | none => none
/-- a o1 b o2 c -/
def chnE (o1 o2 : CmpOp) (a b c : ME) : MT := fun M st => match valE a M st with
  | some (x, st1) => match valE b M st1 with
    | some (y, st2) => match cmpD o1 x y with
      | some true => match valE c M st2 with
        | some (z, st3) => match cmpD o2 y z with
          | some k => some (k, st3)
          | none => none
        | none => none
      | some false => some (false, st2)
      | none => none
    | none => none
  | none => none
def blE (m : MT) : ME := fun M st => match m M st with
  | some (b, st1) => some (.dat (.bool b), st1)
  | none => none
def iteE (t : MT) (a b : ME) : ME := fun M st => match t M st with
  | some (true, st1) => a M st1
  | some (false, st1) => b M st1
  | none => none
def nilA : MA := fun _ st => some ([], st)
def consA (a : MO) (r : MA) : MA := fun M st => match a M st with
  | some (p, st1) => match r M st1 with
    | some (ps, st2) => some (p :: ps, st2)
    | none => none
  | none => none
def nilV : MI := fun _ st => some ([], st)
def consV (a : ME) (r : MI) : MI := fun M st => match valE a M st with
  | some (d, st1) => match r M st1 with
    | some (ds, st2) => some (d :: ds, st2)
    | none => none
  | none => none
def tupE (m : MI) : ME := fun M st => match m M st with
  | some (ds, st1) => some (.dat (.tuple ds), st1)
  | none => none
def lstE (m : MI) : ME := fun M st => match m M st with
  | some (ds, st1) => some (.lst ds, st1)
  | none => none
def dicE : ME := fun _ st => some (.dct [], st)
/-- {k: v}, the key an int, a text, or a tuple of them -/
def dc1E (k v : ME) : ME := fun M st => match valE k M st with
  | some (x, st1) => match valE v M st1 with
    | some (y, st2) => match keyD x, x with
      | some _, _ => some (.dct [(x, y)], st2)
      | none, .tuple xs => match keysD xs with
        | some _ => some (.dct [(x, y)], st2)
        | none => none
      | _, _ => none
    | none => none
  | none => none
def partE (m : ME) : En → Sto → Option (Option Int × Sto) := fun M st => match valE m M st with
  | some (.int i, st1) => some (some i, st1)
  | _ => none
def noP : En → Sto → Option (Option Int × Sto) := fun _ st => some (none, st)
def slcE (a : MO) (lo hi : En → Sto → Option (Option Int × Sto)) : ME := fun M st => match a M st with
  | some (p, st1) => match lo M st1 with
    | some (l, st2) => match hi M st2 with
      | some (h, st3) => match peek st3 p with
        | some x => rs (slcD x l h) st3
        | none => none
      | none => none
    | none => none
  | none => none
/-! ### calls -/
def argOf (M : En) (st : Sto) : Pd → Option SV
  | .da d => some (.dat d)
  | .pl i => match gt st i with
    | .emp => none
    | .slf => none
    | s => some s
def argsOf (M : En) (st : Sto) : List Pd → Option (List SV)
  | [] => some []
  | p :: r => match argOf M st p, argsOf M st r with
    | some s, some ss => some (s :: ss)
    | _, _ => none
/-- the slots that are handed on with what they own -/
def ownIx (st : Sto) : List Pd → List Nat
  | [] => []
  | .da _ :: r => ownIx st r
  | .pl i :: r => if (gt st i).own then i :: ownIx st r else ownIx st r
def same : SV → SV → Bool
  | .lst _, .lst _ => true
  | .dct _, .dct _ => true
  | .std _ _, .std _ _ => true
  | _, _ => false
def putB : Sto → List Pd → List SV → Option Sto
  | st, [], _ => some st
  | st, .da _ :: r, _ :: ss => putB st r ss
  | st, .pl i :: r, s :: ss => if (gt st i).own then (if same (gt st i) s then putB (st.set i s) r ss else none) else putB st r ss
  | _, _ :: _, [] => none
def callF (M : En) (g : Str) (st : Sto) (ps : List Pd) : Option (SV × Sto) := match argsOf M st ps with
  | some ss => if (ownIx st ps).Nodup then (match M.F g ss with
    | some (r, ss') => match putB st ps ss' with
      | some st' => some (r, st')
      | none => none
    | none => none) else none
  | none => none
def callE (g : Str) (as : MA) : ME := fun M st => match as M st with
  | some (ps, st1) => callF M g st1 ps
  | none => none
/-- a method of the object in slot i; g: the class's name, a point, the method's -/
def methE (i : Nat) (g : Str) (as : MA) : ME := fun M st => match gt st i with
  | .std _ _ => match as M st with
    | some (ps, st1) => match gt st1 i with
      | .std _ _ => callF M g st1 (.pl i :: ps)
      | _ => none
    | none => none
  | _ => none
/-- a method of the method's own object (slot 0; its fields stand at nv, nv + 1) -/
def slfE (g : Str) (as : MA) : ME := fun M st => match gt st 0 with
  | .slf => match as M st with
    | some (ps, st1) => match gt st1 0, gt st1 M.nv, gt st1 (M.nv + 1), argsOf M st1 ps with
      | .slf, .dat d, .lst ds, some ss => if (ownIx st1 ps).isEmpty then (match M.F g (.std d ds :: ss) with
        | some (r, .std d' ds' :: _) => some (r, (st1.set M.nv (.dat d')).set (M.nv + 1) (.lst ds'))
        | _ => none) else none
      | _, _, _, _ => none
    | none => none
  | _ => none
def mkE (g : Str) (as : MI) : ME := fun M st => match as M st with
  | some (ds, st1) => match M.F g (ds.map SV.dat) with
    | some (.std d ds', _) => some (.std d ds', st1)
    | _ => none
  | none => none
/-! ### what is walked; comprehensions -/
def rgD (lo hi : Int) : List PyData := (List.range (hi - lo).toNat).map fun k => .int (lo + (k : Nat))
def rgOk (lo hi : Int) : Bool := decide (-(2 ^ 61) ≤ lo) && decide (lo ≤ 2 ^ 61) && decide (-(2 ^ 61) ≤ hi) && decide (hi ≤ 2 ^ 61)
def itR1 (a : ME) : MI := fun M st => match valE a M st with
  | some (.int n, st1) => if rgOk 0 n then some (rgD 0 n, st1) else none
  | _ => none
def itR2 (a b : ME) : MI := fun M st => match valE a M st with
  | some (.int m, st1) => match valE b M st1 with
    | some (.int n, st2) => if rgOk m n then some (rgD m n, st2) else none
    | _ => none
  | _ => none
def itOv (a : ME) : MI := fun M st => match valE a M st with
  | some (.list ds, st1) => some (ds, st1)
  | some (.tuple ds, st1) => some (ds, st1)
  | some (.str z, st1) => some (z.cps.toList.map fun c => .str ⟨#[c]⟩, st1)
  | _ => none
def enD : Nat → List PyData → List PyData
  | _, [] => []
  | k, d :: r => .tuple [.int (k : Nat), d] :: enD (k + 1) r
def itEn (a : ME) : MI := fun M st => match valE a M st with
  | some (.list ds, st1) => some (enD 0 ds, st1)
  | some (.tuple ds, st1) => some (enD 0 ds, st1)
  | _ => none
/-- plain data to a slot -/
def putS (i : Nat) (r : SV) (M : En) (st : Sto) : Option Sto := if i < M.nv then (if decide (i < M.np) && (gt st i).own then none else some (st.set i r)) else none
mutual
inductive Tg where
  | nm (i : Nat) | tp (ts : Tgs)
inductive Tgs where
  | nil | cons (t : Tg) (ts : Tgs)
end
mutual
def asg : Tg → PyData → En → Sto → Option Sto
  | .nm i => fun d M st => putS i (.dat d) M st
  | .tp ts => fun d M st => match d with
    | .tuple ds => asgs ts ds M st
    | _ => none
def asgs : Tgs → List PyData → En → Sto → Option Sto
  | .nil => fun ds _ st => match ds with
    | [] => some st
    | _ => none
  | .cons t ts => fun ds M st => match ds with
    | d :: r => match asg t d M st with
      | some st1 => asgs ts r M st1
      | none => none
    | [] => none
end
def wipeS (st : Sto) : List Nat → Sto
  | [] => st
  | v :: vs => (wipeS st vs).set v .emp
def noOwn (st : Sto) (vs : List Nat) : Bool := vs.all fun v => !(gt st v).own
def lcTurn (tg : Tg) (vs : List Nat) (tst : MT) (elt : MD) (M : En) : List PyData → List PyData → Sto → Option (List PyData × Sto)
  | [], acc, st => some (acc, st)
  | d :: r, acc, st => match asg tg d M st with
    | some st1 => match tst M st1 with
      | some (true, st2) => match elt M st2 with
        | some (x, st3) => if acc.length < lim then (if noOwn st3 vs then lcTurn tg vs tst elt M r (acc ++ [x]) (wipeS st3 vs) else none) else none
        | none => none
      | some (false, st2) => if noOwn st2 vs then lcTurn tg vs tst elt M r acc (wipeS st2 vs) else none
      | none => none
    | none => none
def backS (st0 st : Sto) : List Nat → Sto
  | [] => st
  | v :: vs => (backS st0 st vs).set v (gt st0 v)
def yesT : MT := fun _ st => some (true, st)
def lcE (tg : Tg) (vs : List Nat) (src : MI) (tst : MT) (elt : MD) : ME := fun M st => match src M st with
  | some (ds, st1) => if noOwn st1 vs && vs.all fun v => decide (v < M.nv) then (match lcTurn tg vs tst elt M ds [] (wipeS st1 vs) with
    | some (acc, st2) => some (.lst acc, backS st1 st2 vs)
    | none => none) else none
  | none => none
/-! ### tests -/
def cmpT (op : CmpOp) (a b : MO) : MT := bolE (cmpE op a b)
def andT (a b : MT) : MT := fun M st => match a M st with
  | some (true, st1) => b M st1
  | some (false, st1) => some (false, st1)
  | none => none
def orT (a b : MT) : MT := fun M st => match a M st with
  | some (true, st1) => some (true, st1)
  | some (false, st1) => b M st1
  | none => none
def notT (a : MT) : MT := fun M st => match a M st with
  | some (b, st1) => some (!b, st1)
  | none => none
/-! ### statements -/
def nxS : MS := fun _ st => some (.nx, st)
def seqS (a b : MS) : MS := fun M st => match a M st with
  | some (.nx, st1) => b M st1
  | r => r
def expS (m : ME) : MS := fun M st => match m M st with
  | some (_, st1) => some (.nx, st1)
  | none => none
def setS (i : Nat) (m : ME) : MS := fun M st => match m M st with
  | some (r, st1) => match putS i r M st1 with
    | some st2 => some (.nx, st2)
    | none => none
  | none => none
def desS (tg : Tg) (m : ME) : MS := fun M st => match valE m M st with
  | some (d, st1) => match asg tg d M st1 with
    | some st2 => some (.nx, st2)
    | none => none
  | none => none
def parS (i j : Nat) (a b : ME) : MS := fun M st => match valE a M st with
  | some (x, st1) => match valE b M st1 with
    | some (y, st2) => match putS i (.dat x) M st2 with
      | some st3 => match putS j (.dat y) M st3 with
        | some st4 => some (.nx, st4)
        | none => none
      | none => none
    | none => none
  | none => none
def ifS (t : MT) (a b : MS) : MS := fun M st => match t M st with
  | some (true, st1) => a M st1
  | some (false, st1) => b M st1
  | none => none
def retS (m : ME) : MS := fun M st => match m M st with
  | some (r, st1) => some (.rt r, st1)
  | none => none
/-- return x: what x owns is handed out -/
def retV (i : Nat) : MS := fun M st => match gt st i with
  | .dat d => some (.rt (.dat d), st)
  | .emp => none
  | .slf => none
  | s => if i < M.np then none else if i < M.nv then some (.rt s, st.set i .emp) else none
def retN : MS := fun _ st => some (.rt (.dat .none), st)
def neverS : MS := fun _ _ => none
def forT (tg : Tg) (b : MS) (M : En) : List PyData → Sto → Option (Out × Sto)
  | [], st => some (.nx, st)
  | d :: r, st => match asg tg d M st with
    | some st1 => match b M st1 with
      | some (.nx, st2) => forT tg b M r st2
      | some (.rt x, st2) => some (.rt x, st2)
      | none => none
    | none => none
def forS (tg : Tg) (src : MI) (b : MS) : MS := fun M st => match src M st with
  | some (ds, st1) => forT tg b M ds st1
  | none => none
def whN (t : MT) (b : MS) (M : En) : Nat → Sto → Option (Out × Sto)
  | 0, _ => none
  | n + 1, st => match t M st with
    | some (true, st1) => match b M st1 with
      | some (.nx, st2) => whN t b M n st2
      | some (.rt x, st2) => some (.rt x, st2)
      | none => none
    | some (false, st1) => some (.nx, st1)
    | none => none
def fuel : Nat := 1000000000
def whS (t : MT) (b : MS) : MS := fun M st => whN t b M fuel st
end Rb
namespace Rb
open PySem L2
def kP : Key → PyData
  | .inl i => .int i
  | .inr x => .str x
def Ex (H H' : Hp) : Prop := ∀ a o, H a = some o → H' a = some o
theorem Ex.refl (H : Hp) : Ex H H := fun _ _ h => h
theorem Ex.trans {H H1 H2 : Hp} (a : Ex H H1) (b : Ex H1 H2) : Ex H H2 := fun x o h => b x o (a x o h)
theorem Ex.new {H : Hp} {p : Addr} {o : HO} (h : H p = none) : Ex H (upd H p o) := fun a u e => by
  rw [upd_ne (ne_of_none e h)]
  exact e
theorem Ex.mut {H H' : Hp} {p : Addr} {o : HO} (e : Ex H H') (h : H p = none) : Ex H (upd H' p o) := fun a u ha => by
  rw [upd_ne (ne_of_none ha h)]
  exact e a u ha
theorem Ex.rd {H H' : Hp} {a : Addr} {u : HO} (e : Ex H H') (h : Rd H a u) : Rd H' a u := by
  rcases h with h | ⟨o, h⟩
  · exact Or.inl (e a _ h)
  · exact Or.inr ⟨o, e a _ h⟩
theorem Ex.l {K : PySem.W.Frag} {H H' : Hp} {a : Addr} {xs : List V} (e : Ex H H') (h : SqL K H a xs) : SqL K H' a xs := by
  rcases h with h | h
  · exact Or.inl (e.rd h)
  · exact Or.inr h
theorem Ex.t {K : PySem.W.Frag} {H H' : Hp} {a : Addr} {xs : List V} (e : Ex H H') (h : SqT K H a xs) : SqT K H' a xs := by
  rcases h with h | h
  · exact Or.inl (e.rd h)
  · exact Or.inr h
theorem Ex.fresh {H H' : Hp} (e : Ex H H') {p : Addr} (h : H' p = none) : H p = none := by
  cases q : H p with
  | none => rfl
  | some o => rw [e p o q] at h; cases h
/-! ### plain data in a heap -/
mutual
inductive Dat (K : PySem.W.Frag) (B : Hp) : V → PyData → Prop
  | non : Dat K B .non .none
  | bl (b : Bool) : Dat K B (.bl b) (.bool b)
  | int (i : Int) : Dat K B (.int i) (.int i)
  | str (x : Str) : Dat K B (.str x) (.str x)
  | lst {a : Addr} {xs : List V} {ds : List PyData} : SqL K B a xs → Dats K B xs ds → Dat K B (.ref a) (.list ds)
  | tup {a : Addr} {xs : List V} {ds : List PyData} : B a = some (.tup xs) → Dats K B xs ds → Dat K B (.ref a) (.tuple ds)
  | dk {a : Addr} {kvs : List (Key × V)} {es : List (PyData × PyData)} : B a = some (.dK kvs) → DKs K B kvs es → Dat K B (.ref a) (.dict es)
  | dt {a : Addr} {kvs : List (List Key × V)} {es : List (PyData × PyData)} : B a = some (.dT kvs) → DTs K B kvs es → es ≠ [] → Dat K B (.ref a) (.dict es)
inductive Dats (K : PySem.W.Frag) (B : Hp) : List V → List PyData → Prop
  | nil : Dats K B [] []
  | cons {v : V} {vs : List V} {d : PyData} {ds : List PyData} : Dat K B v d → Dats K B vs ds → Dats K B (v :: vs) (d :: ds)
inductive DKs (K : PySem.W.Frag) (B : Hp) : List (Key × V) → List (PyData × PyData) → Prop
  | nil : DKs K B [] []
  | cons {k : Key} {v : V} {r : List (Key × V)} {d : PyData} {es : List (PyData × PyData)} : Dat K B v d → DKs K B r es → DKs K B ((k, v) :: r) ((kP k, d) :: es)
inductive DTs (K : PySem.W.Frag) (B : Hp) : List (List Key × V) → List (PyData × PyData) → Prop
  | nil : DTs K B [] []
  | cons {k : List Key} {v : V} {r : List (List Key × V)} {d : PyData} {es : List (PyData × PyData)} : Dat K B v d → DTs K B r es → DTs K B ((k, v) :: r) ((.tuple (k.map kP), d) :: es)
end
section
variable {K : PySem.W.Frag} {B B' : Hp}
mutual
theorem Dat.mono (e : Ex B B') : ∀ {v : V} {d : PyData}, Dat K B v d → Dat K B' v d
  | _, _, .non => .non
  | _, _, .bl b => .bl b
  | _, _, .int b => .int b
  | _, _, .str b => .str b
  | _, _, .lst h r => .lst (e.l h) (Dats.mono e r)
  | _, _, .tup h r => .tup (e _ _ h) (Dats.mono e r)
  | _, _, .dk h r => .dk (e _ _ h) (DKs.mono e r)
  | _, _, .dt h r n => .dt (e _ _ h) (DTs.mono e r) n
theorem Dats.mono (e : Ex B B') : ∀ {v : List V} {d : List PyData}, Dats K B v d → Dats K B' v d
  | _, _, .nil => .nil
  | _, _, .cons h r => .cons (Dat.mono e h) (Dats.mono e r)
theorem DKs.mono (e : Ex B B') : ∀ {v : List (Key × V)} {d : List (PyData × PyData)}, DKs K B v d → DKs K B' v d
  | _, _, .nil => .nil
  | _, _, .cons h r => .cons (Dat.mono e h) (DKs.mono e r)
theorem DTs.mono (e : Ex B B') : ∀ {v : List (List Key × V)} {d : List (PyData × PyData)}, DTs K B v d → DTs K B' v d
  | _, _, .nil => .nil
  | _, _, .cons h r => .cons (Dat.mono e h) (DTs.mono e r)
end
theorem Dats.length : ∀ {vs : List V} {ds : List PyData}, Dats K B vs ds → vs.length = ds.length
  | _, _, .nil => rfl
  | _, _, .cons _ r => by rw [List.length_cons, List.length_cons, Dats.length r]
theorem Dats.get : ∀ {vs : List V} {ds : List PyData} {i : Nat} {d : PyData}, Dats K B vs ds → ds[i]? = some d → ∃ v, vs[i]? = some v ∧ Dat K B v d
  | _, _, _, _, .nil, e => by simp at e
  | _, _, 0, _, .cons h _, e => by simp at e; subst e; exact ⟨_, rfl, h⟩
  | _, _, i + 1, d, .cons _ r, e => by
    obtain ⟨v, h1, h2⟩ := Dats.get (i := i) (d := d) r (by simpa using e)
    exact ⟨v, by simpa using h1, h2⟩
theorem Dats.getV : ∀ {vs : List V} {ds : List PyData} {i : Nat} {v : V}, Dats K B vs ds → vs[i]? = some v → ∃ d, ds[i]? = some d ∧ Dat K B v d
  | _, _, _, _, .nil, e => by simp at e
  | _, _, 0, _, .cons h _, e => by simp at e; subst e; exact ⟨_, rfl, h⟩
  | _, _, i + 1, v, .cons _ r, e => by
    obtain ⟨d, h1, h2⟩ := Dats.getV (i := i) (v := v) r (by simpa using e)
    exact ⟨d, by simpa using h1, h2⟩
theorem Dats.append : ∀ {vs ws : List V} {ds es : List PyData}, Dats K B vs ds → Dats K B ws es → Dats K B (vs ++ ws) (ds ++ es)
  | _, _, _, _, .nil, s => s
  | _, _, _, _, .cons h r, s => .cons h (Dats.append r s)
theorem Dats.take : ∀ {vs : List V} {ds : List PyData} (n : Nat), Dats K B vs ds → Dats K B (vs.take n) (ds.take n)
  | _, _, 0, _ => .nil
  | _, _, _ + 1, .nil => .nil
  | _, _, n + 1, .cons h r => .cons h (Dats.take n r)
theorem Dats.drop : ∀ {vs : List V} {ds : List PyData} (n : Nat), Dats K B vs ds → Dats K B (vs.drop n) (ds.drop n)
  | _, _, 0, r => r
  | _, _, _ + 1, .nil => .nil
  | _, _, n + 1, .cons _ r => Dats.drop n r
theorem Dats.set {v : V} {d : PyData} (h : Dat K B v d) : ∀ {vs : List V} {ds : List PyData} (n : Nat), Dats K B vs ds → Dats K B (vs.set n v) (ds.set n d)
  | _, _, _, .nil => .nil
  | _, _, 0, .cons _ r => .cons h r
  | _, _, n + 1, .cons q r => .cons q (Dats.set h n r)
theorem Dats.one {v : V} {d : PyData} (h : Dat K B v d) : Dats K B [v] [d] := .cons h .nil
theorem Dats.ints : ∀ (ns : List Int), Dats K B (ns.map V.int) (ns.map PyData.int)
  | [] => .nil
  | n :: r => .cons (.int n) (Dats.ints r)
theorem Dats.of_ints : ∀ {ns : List Int} {vs : List V}, Dats K B vs (ns.map PyData.int) → vs = ns.map V.int
  | [], _, .nil => rfl
  | n :: r, _, .cons h t => by
    cases h
    rw [Dats.of_ints t]
    rfl
end
/-! ### slots -/
/-- what is fixed while a def's body runs: the base at its entry, the heap that is not its own, the object whose method it is, the parameters that it may change -/
structure Fx where
  K : PySem.W.Frag
  C : Addr
  n : Nat
  np : Nat
  sf : Option (Addr × Addr)
  pv : Nat → Option V
  G : Hp
  B0 : Hp
  H0 : Hp
def isIns : HO → Bool
  | .ins _ _ _ => true
  | _ => false
def flds (v1 v2 : V) : List (Str × V) := [(Str.ofString "points", v1), (Str.ofString "states", v2)]
/-- a dict at an address -/
def DcAt (K : PySem.W.Frag) (B H : Hp) (p : Addr) (es : List (PyData × PyData)) : Prop :=
  (∃ kvs, H p = some (.dK kvs) ∧ DKs K B kvs es) ∨ ∃ kvs, H p = some (.dT kvs) ∧ DTs K B kvs es ∧ es ≠ []
def SlotRel (K : PySem.W.Frag) (C : Addr) (sf : Option (Addr × Addr)) (B H : Hp) : SV → Option V → List Addr → Prop
  | .emp, _, o => o = []
  | .slf, v, o => ∃ p dx, sf = some (p, dx) ∧ v = some (.ref p) ∧ o = [p]
  | .dat d, v, o => o = [] ∧ ∃ x, v = some x ∧ Dat K B x d
  | .lst ds, v, o => ∃ p xs, v = some (.ref p) ∧ o = [p] ∧ H p = some (.lst xs) ∧ Dats K B xs ds
  | .dct es, v, o => ∃ p, v = some (.ref p) ∧ o = [p] ∧ DcAt K B H p es
  | .std d ds, v, o => ∃ p dx l v1 xs, v = some (.ref p) ∧ o = [p, l] ∧ H p = some (.ins C dx (flds v1 (.ref l))) ∧ Dat K B v1 d ∧ H l = some (.lst xs) ∧ Dats K B xs ds
theorem DcAt.mono {K : PySem.W.Frag} {B B' H H' : Hp} {p : Addr} {es : List (PyData × PyData)} (e : Ex B B') (h : H' p = H p) (x : DcAt K B H p es) : DcAt K B' H' p es := by
  rcases x with ⟨kvs, a, b⟩ | ⟨kvs, a, b, n⟩
  · exact .inl ⟨kvs, h.trans a, b.mono e⟩
  · exact .inr ⟨kvs, h.trans a, b.mono e, n⟩
/-- the slot's relation leans on the base, which may grow, and on what stands at the slot's own places -/
theorem SlotRel.mono {K : PySem.W.Frag} {C : Addr} {sf : Option (Addr × Addr)} {B B' H H' : Hp} {s : SV} {v : Option V} {o : List Addr} (e : Ex B B') (h : ∀ a ∈ o, H' a = H a) (x : SlotRel K C sf B H s v o) : SlotRel K C sf B' H' s v o := by
  cases s with
  | emp => exact x
  | slf => exact x
  | dat d => obtain ⟨a, y, b, c⟩ := x; exact ⟨a, y, b, c.mono e⟩
  | lst ds => obtain ⟨p, xs, a, b, c, d⟩ := x; subst b; exact ⟨p, xs, a, rfl, (h p (by simp)).trans c, d.mono e⟩
  | dct es => obtain ⟨p, a, b, c⟩ := x; subst b; exact ⟨p, a, rfl, c.mono e (h p (by simp))⟩
  | std d ds => obtain ⟨p, dx, l, v1, xs, a, b, c, d1, e1, f1⟩ := x; subst b; exact ⟨p, dx, l, v1, xs, a, rfl, (h p (by simp)).trans c, d1.mono e, (h l (by simp)).trans e1, f1.mono e⟩
/-- a slot's own places are tracked -/
theorem SlotRel.there {K : PySem.W.Frag} {C : Addr} {sf : Option (Addr × Addr)} {B H : Hp} {s : SV} {v : Option V} {o : List Addr} (hs : ∀ p dx, sf = some (p, dx) → ∃ u, H p = some u) (x : SlotRel K C sf B H s v o) : ∀ a ∈ o, ∃ u, H a = some u := by
  intro a ha
  cases s with
  | emp => rw [show o = [] from x] at ha; cases ha
  | slf => obtain ⟨p, dx, e, _, rfl⟩ := x; simp at ha; subst ha; exact hs _ _ e
  | dat d => obtain ⟨e, _⟩ := x; subst e; cases ha
  | lst ds => obtain ⟨p, xs, _, rfl, c, _⟩ := x; simp at ha; subst ha; exact ⟨_, c⟩
  | dct es => obtain ⟨p, _, rfl, c⟩ := x; simp at ha; subst ha; rcases c with ⟨_, c, _⟩ | ⟨_, c, _, _⟩ <;> exact ⟨_, c⟩
  | std d ds =>
    obtain ⟨p, dx, l, v1, xs, _, rfl, c, _, e1, _⟩ := x
    simp at ha
    rcases ha with rfl | rfl
    · exact ⟨_, c⟩
    · exact ⟨_, e1⟩
theorem SlotRel.notOwn {K : PySem.W.Frag} {C : Addr} {sf : Option (Addr × Addr)} {B H : Hp} {s : SV} {v : Option V} {o : List Addr} (x : SlotRel K C sf B H s v o) (h : s.own = false) : o = [] := by
  cases s with
  | emp => exact x
  | dat d => exact x.1
  | _ => cases h
structure Rel (f : Fx) (B : Hp) (st : Sto) (σ : L2.St) (w : Nat → Option V) (H : Hp) (own : Nat → List Addr) : Prop where
  exG : Ex f.G H
  exB : Ex B H
  ex0 : Ex f.B0 B
  exI : ∀ a o, f.H0 a = some o → isIns o = true → H a = some o
  grw : ∀ a, B a ≠ none → f.B0 a ≠ none ∨ f.G a = none
  slot : ∀ i, SlotRel f.K f.C f.sf B H (gt st i) (w i) (own i)
  sep : ∀ i j a, a ∈ own i → a ∈ own j → i = j
  nd : ∀ i, (own i).Nodup
  out : ∀ i a, a ∈ own i → f.G a = none ∧ B a = none
  par : ∀ i v, f.pv i = some v → i < f.np ∧ w i = some v ∧ (gt st i).own = true
  len : σ.length = f.n
  wv : ∀ i, i < f.n → w i = σ.getD i none
  npn : f.np ≤ f.n
  sfv : ∀ p dx, f.sf = some (p, dx) → 0 < f.np ∧ gt st 0 = .slf ∧ ∃ v1 v2, w f.n = some v1 ∧ w (f.n + 1) = some v2 ∧ H p = some (.ins f.C dx (flds v1 v2))
  slen : st.length = f.n + (match f.sf with | none => 0 | some _ => 2)
/-- a result, beside the slots -/
def Res (f : Fx) (B H : Hp) (own : Nat → List Addr) (r : SV) (v : V) (ro : List Addr) : Prop :=
  SlotRel f.K f.C none B H r (some v) ro ∧ ro.Nodup ∧ ∀ a ∈ ro, f.G a = none ∧ B a = none ∧ ∀ i, a ∉ own i
section
variable {f : Fx} {B : Hp} {st : Sto} {σ : L2.St} {w : Nat → Option V} {H : Hp} {own : Nat → List Addr}
theorem Rel.there (R : Rel f B st σ w H own) (i : Nat) : ∀ a ∈ own i, ∃ u, H a = some u :=
  (R.slot i).there fun p dx e => let ⟨_, _, _, _, _, _, h⟩ := R.sfv p dx e; ⟨_, h⟩
theorem Rel.ne (R : Rel f B st σ w H own) {p : Addr} (h : H p = none) (i : Nat) : p ∉ own i := fun hp => by
  obtain ⟨u, e⟩ := R.there i p hp
  rw [h] at e; cases e
/-- a new object, not known to the base -/
theorem Rel.alloc (R : Rel f B st σ w H own) {p : Addr} {o : HO} (h : H p = none) : Rel f B st σ w (upd H p o) own :=
  { R with
    exG := R.exG.trans (Ex.new h)
    exB := R.exB.trans (Ex.new h)
    exI := fun a o q z => Ex.new h a o (R.exI a o q z)
    slot := fun i => (R.slot i).mono (Ex.refl _) fun a ha => upd_ne fun e => R.ne h i (e ▸ ha)
    sfv := fun p' dx e => by
      obtain ⟨a, b, v1, v2, c, d, q⟩ := R.sfv p' dx e
      exact ⟨a, b, v1, v2, c, d, by rw [upd_ne (ne_of_none q h)]; exact q⟩ }
/-- an object outside of G, of the slots, put into the base -/
theorem Rel.grow (R : Rel f B st σ w H own) {p : Addr} {o : HO} (hH : H p = some o) (hG : f.G p = none) (hB : B p = none) (hown : ∀ i, p ∉ own i) : Ex B (upd B p o) ∧ Rel f (upd B p o) st σ w H own := by
  have e : Ex B (upd B p o) := Ex.new hB
  refine ⟨e, { R with exB := fun a u q => ?_, ex0 := R.ex0.trans e, grw := fun a q => ?_, slot := fun i => (R.slot i).mono e fun _ _ => rfl, out := fun i a ha => ⟨(R.out i a ha).1, ?_⟩ }⟩
  · by_cases z : a = p
    · subst z; rw [upd_same] at q; cases q; exact hH
    · rw [upd_ne z] at q; exact R.exB a u q
  · by_cases z : a = p
    · subst z; exact .inr hG
    · rw [upd_ne z] at q; exact R.grw a q
  · rw [upd_ne (show a ≠ p from fun z => hown i (by rw [← z]; exact ha))]; exact (R.out i a ha).2
theorem Rel.freeG (R : Rel f B st σ w H own) {p : Addr} (h : H p = none) : f.G p = none := R.exG.fresh h
theorem Rel.freeB (R : Rel f B st σ w H own) {p : Addr} (h : H p = none) : B p = none := R.exB.fresh h
/-- a new object, put into the base at once -/
theorem Rel.laid (R : Rel f B st σ w H own) {p : Addr} {o : HO} (h : H p = none) : Ex B (upd B p o) ∧ Rel f (upd B p o) st σ w (upd H p o) own :=
  (R.alloc h).grow upd_same (R.freeG h) (R.freeB h) fun i => R.ne h i
end
end Rb
namespace Rb
open PySem L2
/-! ### slots set -/
theorem gt_set {st : Sto} {i j : Nat} {s : SV} : gt (st.set i s) j = if j = i ∧ i < st.length then s else gt st j := by
  unfold gt
  by_cases h : j = i
  · subst h
    by_cases hl : j < st.length
    · simp [hl]
    · simp [hl]
  · simp [h, List.getElem?_set_ne (Ne.symm h)]
theorem gt_set_ne {st : Sto} {i j : Nat} {s : SV} (h : j ≠ i) : gt (st.set i s) j = gt st j := by
  rw [gt_set, if_neg fun z => h z.1]
theorem gt_set_self {st : Sto} {i : Nat} {s : SV} (h : i < st.length) : gt (st.set i s) i = s := by
  rw [gt_set, if_pos ⟨rfl, h⟩]
theorem gt_lt {st : Sto} {i : Nat} (h : gt st i ≠ .emp) : i < st.length := by
  refine Nat.lt_of_not_le fun hl => h ?_
  unfold gt
  rw [List.getD_eq_getElem?_getD, List.getElem?_eq_none hl]
  rfl
section
variable {f : Fx} {B : Hp} {st : Sto} {σ : L2.St} {w : Nat → Option V} {H : Hp} {own : Nat → List Addr}
/-- a slot takes another relation, at places that are its own or free -/
theorem Rel.slot_set (R : Rel f B st σ w H own) {i : Nat} {s : SV} {o : List Addr} {H' : Hp} (hi : i < st.length) (h0 : ∀ p dx, f.sf = some (p, dx) → i ≠ 0) (x : SlotRel f.K f.C f.sf B H' s (w i) o) (nd : o.Nodup)
    (hsub : ∀ a ∈ o, a ∈ own i) (keep : ∀ a, a ∉ own i → H' a = H a) (kI : ∀ a o, H a = some o → isIns o = true → H' a = some o) (hp : f.pv i ≠ none → s.own = true) : Rel f B (st.set i s) σ w H' (fun j => if j = i then o else own j) := by
  have hG : ∀ a, f.G a ≠ none → a ∉ own i := fun a q m => q (R.out i a m).1
  have hB : ∀ a, B a ≠ none → a ∉ own i := fun a q m => q (R.out i a m).2
  refine { R with exI := fun a o q z => kI a o (R.exI a o q z) z, exG := fun a u q => ?_, exB := fun a u q => ?_, slot := fun j => ?_, sep := fun j k a ha hb => ?_, nd := fun j => ?_, out := fun j a ha => ?_, par := fun j v q => ?_, sfv := fun p dx q => ?_, slen := ?_ }
  · rw [keep a (hG a (by rw [q]; simp))]; exact R.exG a u q
  · rw [keep a (hB a (by rw [q]; simp))]; exact R.exB a u q
  · by_cases h : j = i
    · subst h; rw [if_pos rfl, gt_set_self hi]; exact x
    · rw [if_neg h, gt_set_ne h]
      exact (R.slot j).mono (Ex.refl _) fun a ha => keep a fun m => h (R.sep _ _ a ha m)
  · have ha : a ∈ own j := by
      by_cases h : j = i
      · subst h; rw [if_pos rfl] at ha; exact hsub a ha
      · rw [if_neg h] at ha; exact ha
    have hb : a ∈ own k := by
      by_cases h : k = i
      · subst h; rw [if_pos rfl] at hb; exact hsub a hb
      · rw [if_neg h] at hb; exact hb
    exact R.sep j k a ha hb
  · by_cases h : j = i
    · rw [if_pos h]; exact nd
    · rw [if_neg h]; exact R.nd j
  · have ha : a ∈ own j := by
      by_cases h : j = i
      · subst h; rw [if_pos rfl] at ha; exact hsub a ha
      · rw [if_neg h] at ha; exact ha
    exact R.out j a ha
  · obtain ⟨a, b, c⟩ := R.par j v q
    refine ⟨a, b, ?_⟩
    by_cases h : j = i
    · subst h; rw [gt_set_self hi]; exact hp (by rw [q]; simp)
    · rw [gt_set_ne h]; exact c
  · obtain ⟨a, b, v1, v2, c, d, e⟩ := R.sfv p dx q
    refine ⟨a, by rw [gt_set_ne (Ne.symm (h0 p dx q))]; exact b, v1, v2, c, d, ?_⟩
    rw [keep p fun m => ?_]
    · exact e
    · -- p is slot 0's
      have z := R.slot 0
      rw [b] at z
      obtain ⟨p', dx', e1, _, e2⟩ := z
      rw [q] at e1; cases e1
      exact h0 p dx q (R.sep _ _ p m (by rw [e2]; simp))
  · rw [List.length_set]; exact R.slen
/-- the slot's own list, its items changed -/
theorem Rel.lst_at (R : Rel f B st σ w H own) {i : Nat} {ds : List PyData} (h : gt st i = .lst ds) : ∃ p xs, w i = some (.ref p) ∧ own i = [p] ∧ H p = some (.lst xs) ∧ Dats f.K B xs ds := by
  have z := R.slot i
  rw [h] at z
  exact z
theorem Rel.not0 (R : Rel f B st σ w H own) {i : Nat} (h : gt st i ≠ .slf) : ∀ p dx, f.sf = some (p, dx) → i ≠ 0 := fun p dx q z => by
  obtain ⟨_, b, _⟩ := R.sfv p dx q
  subst z
  exact h b
theorem Rel.lst_set (R : Rel f B st σ w H own) {i : Nat} {ds ds' : List PyData} {p : Addr} {xs' : List V} (h : gt st i = .lst ds) (hp : w i = some (.ref p)) (hx : Dats f.K B xs' ds') :
    Rel f B (st.set i (.lst ds')) σ w (upd H p (.lst xs')) own := by
  obtain ⟨p', xs, e1, e2, e3, e4⟩ := R.lst_at h
  rw [hp] at e1
  cases e1
  have q := R.slot_set (i := i) (s := .lst ds') (o := [p]) (H' := upd H p (.lst xs')) (gt_lt (by rw [h]; simp)) (R.not0 (by rw [h]; simp)) ⟨p, xs', hp, rfl, upd_same, hx⟩ (by simp) (fun a ha => by rw [e2]; exact ha)
    (fun a ha => upd_ne fun z => ha (by rw [e2, z]; simp)) (fun a o q z => by
      by_cases ha : a = p
      · subst ha; rw [e3] at q; cases q; cases z
      · rw [upd_ne ha]; exact q) fun _ => rfl
  have e : (fun j => if j = i then [p] else own j) = own := by
    funext j
    by_cases hj : j = i
    · subst hj; rw [if_pos rfl, e2]
    · rw [if_neg hj]
  rw [e] at q
  exact q
/-- an own container goes over to the base -/
theorem Rel.freeze (R : Rel f B st σ w H own) {i : Nat} {d : PyData} (hf : frz (gt st i) = some d) (hp : f.pv i = none) : ∃ B1 own1 v, Ex B B1 ∧ w i = some v ∧ Dat f.K B1 v d ∧ Rel f B1 (st.set i (.dat d)) σ w H own1 := by
  have hi : i < st.length := gt_lt fun z => by rw [z] at hf; cases hf
  have h0 : ∀ p dx, f.sf = some (p, dx) → i ≠ 0 := R.not0 fun z => by rw [z] at hf; cases hf
  have z := R.slot i
  cases hs : gt st i with
  | dat d' =>
    rw [hs] at hf z
    cases hf
    obtain ⟨a, x, b, c⟩ := z
    refine ⟨B, _, x, Ex.refl _, b, c, R.slot_set (i := i) (s := .dat d) (o := []) (H' := H) hi h0 ⟨rfl, x, b, c⟩ (by simp) (by simp) (fun _ _ => rfl) (fun _ _ q _ => q) fun q => absurd hp q⟩
  | lst ds =>
    rw [hs] at hf z
    cases hf
    obtain ⟨p, xs, e1, e2, e3, e4⟩ := z
    have hG := R.out i p (by rw [e2]; simp)
    have e : Ex B (upd B p (.lst xs)) := Ex.new hG.2
    have hD : Dat f.K (upd B p (.lst xs)) (.ref p) (.list ds) := .lst (Or.inl (Or.inl upd_same)) (e4.mono e)
    have R1 := R.slot_set (i := i) (s := .emp) (o := []) (H' := H) hi h0 rfl (by simp) (by simp) (fun _ _ => rfl) (fun _ _ q _ => q) fun q => absurd hp q
    obtain ⟨_, R2⟩ := R1.grow e3 hG.1 hG.2 fun j hj => by
      by_cases q : j = i
      · rw [if_pos q] at hj; cases hj
      · rw [if_neg q] at hj; exact q (R.sep _ _ p hj (by rw [e2]; simp))
    have R3 := R2.slot_set (i := i) (s := .dat (.list ds)) (o := []) (H' := H) (by rw [List.length_set]; exact hi) h0 ⟨rfl, .ref p, e1, hD⟩ (by simp) (by simp) (fun _ _ => rfl) (fun _ _ q _ => q) fun q => absurd hp q
    rw [List.set_set] at R3
    exact ⟨_, _, .ref p, e, e1, hD, R3⟩
  | dct es =>
    rw [hs] at hf z
    cases hf
    obtain ⟨p, e1, e2, e3⟩ := z
    have hG := R.out i p (by rw [e2]; simp)
    obtain ⟨o, ho, hD⟩ : ∃ o, H p = some o ∧ Dat f.K (upd B p o) (.ref p) (.dict es) := by
      rcases e3 with ⟨kvs, a, b⟩ | ⟨kvs, a, b, n⟩
      · exact ⟨_, a, .dk upd_same (b.mono (Ex.new hG.2))⟩
      · exact ⟨_, a, .dt upd_same (b.mono (Ex.new hG.2)) n⟩
    have e : Ex B (upd B p o) := Ex.new hG.2
    have R1 := R.slot_set (i := i) (s := .emp) (o := []) (H' := H) hi h0 rfl (by simp) (by simp) (fun _ _ => rfl) (fun _ _ q _ => q) fun q => absurd hp q
    obtain ⟨_, R2⟩ := R1.grow ho hG.1 hG.2 fun j hj => by
      by_cases q : j = i
      · rw [if_pos q] at hj; cases hj
      · rw [if_neg q] at hj; exact q (R.sep _ _ p hj (by rw [e2]; simp))
    have R3 := R2.slot_set (i := i) (s := .dat (.dict es)) (o := []) (H' := H) (by rw [List.length_set]; exact hi) h0 ⟨rfl, .ref p, e1, hD⟩ (by simp) (by simp) (fun _ _ => rfl) (fun _ _ q _ => q) fun q => absurd hp q
    rw [List.set_set] at R3
    exact ⟨_, _, .ref p, e, e1, hD, R3⟩
  | emp => rw [hs] at hf; cases hf
  | slf => rw [hs] at hf; cases hf
  | std d ds => rw [hs] at hf; cases hf
/-- a result beside the slots goes over to the base -/
theorem Rel.frz_res (R : Rel f B st σ w H own) {r : SV} {v : V} {ro : List Addr} {d : PyData} (x : Res f B H own r v ro) (hf : frz r = some d) : ∃ B1, Ex B B1 ∧ Dat f.K B1 v d ∧ Rel f B1 st σ w H own := by
  obtain ⟨x, _, hout⟩ := x
  cases r with
  | dat d' =>
    cases hf
    obtain ⟨_, y, e, c⟩ := x
    cases e
    exact ⟨B, Ex.refl _, c, R⟩
  | lst ds =>
    cases hf
    obtain ⟨p, xs, e1, e2, e3, e4⟩ := x
    cases e1
    subst e2
    obtain ⟨a, b, c⟩ := hout p (by simp)
    obtain ⟨e, R2⟩ := R.grow e3 a b c
    exact ⟨_, e, .lst (Or.inl (Or.inl upd_same)) (e4.mono e), R2⟩
  | dct es =>
    cases hf
    obtain ⟨p, e1, e2, e3⟩ := x
    cases e1
    subst e2
    obtain ⟨a, b, c⟩ := hout p (by simp)
    rcases e3 with ⟨kvs, q1, q2⟩ | ⟨kvs, q1, q2, q3⟩
    · obtain ⟨e, R2⟩ := R.grow q1 a b c
      exact ⟨_, e, .dk upd_same (q2.mono e), R2⟩
    · obtain ⟨e, R2⟩ := R.grow q1 a b c
      exact ⟨_, e, .dt upd_same (q2.mono e) q3, R2⟩
  | emp => cases hf
  | slf => cases hf
  | std d ds => cases hf
theorem res_dat {v : V} {d : PyData} (h : Dat f.K B v d) : Res f B H own (.dat d) v [] := ⟨⟨rfl, v, rfl, h⟩, by simp, by simp⟩
/-- a new list beside the slots -/
theorem Rel.res_lst (R : Rel f B st σ w H own) {p : Addr} {xs : List V} {ds : List PyData} (h : H p = none) (hx : Dats f.K B xs ds) : Rel f B st σ w (upd H p (.lst xs)) own ∧ Res f B (upd H p (.lst xs)) own (.lst ds) (.ref p) [p] :=
  ⟨R.alloc h, ⟨p, xs, rfl, rfl, upd_same, hx⟩, by simp, fun a ha => by
    have e : a = p := by simpa using ha
    subst e
    exact ⟨R.freeG h, R.freeB h, R.ne h⟩⟩
/-- a new tuple, in the base at once -/
theorem Rel.res_tup (R : Rel f B st σ w H own) {p : Addr} {xs : List V} {ds : List PyData} (h : H p = none) (hx : Dats f.K B xs ds) : ∃ B1, Ex B B1 ∧ Rel f B1 st σ w (upd H p (.tup xs)) own ∧ Dat f.K B1 (.ref p) (.tuple ds) := by
  obtain ⟨e, R2⟩ := R.laid (o := .tup xs) h
  exact ⟨_, e, R2, .tup upd_same (hx.mono e)⟩
end
/-! ### what may be read -/
inductive HD (K : PySem.W.Frag) (B H : Hp) : V → PyData → Prop
  | of {v : V} {d : PyData} : Dat K B v d → HD K B H v d
  | lst {p : Addr} {xs : List V} {ds : List PyData} : H p = some (.lst xs) → Dats K B xs ds → HD K B H (.ref p) (.list ds)
  | dc {p : Addr} {es : List (PyData × PyData)} : DcAt K B H p es → HD K B H (.ref p) (.dict es)
section
variable {K : PySem.W.Frag} {B H : Hp}
theorem HD.list {v : V} {ds : List PyData} (h : HD K B H v (.list ds)) (e : Ex B H) : ∃ p xs, v = .ref p ∧ SqL K H p xs ∧ Dats K B xs ds := by
  cases h with
  | of h =>
    cases h with
    | lst a b => exact ⟨_, _, rfl, e.l a, b⟩
  | lst a b => exact ⟨_, _, rfl, Or.inl (Or.inl a), b⟩
theorem HD.tuple {v : V} {ds : List PyData} (h : HD K B H v (.tuple ds)) (e : Ex B H) : ∃ p xs, v = .ref p ∧ H p = some (.tup xs) ∧ Dats K B xs ds := by
  cases h with
  | of h =>
    cases h with
    | tup a b => exact ⟨_, _, rfl, e _ _ a, b⟩
theorem HD.dict {v : V} {es : List (PyData × PyData)} (h : HD K B H v (.dict es)) (e : Ex B H) : ∃ p, v = .ref p ∧ DcAt K B H p es := by
  cases h with
  | of h =>
    cases h with
    | dk a b => exact ⟨_, rfl, .inl ⟨_, e _ _ a, b⟩⟩
    | dt a b n => exact ⟨_, rfl, .inr ⟨_, e _ _ a, b, n⟩⟩
  | dc a => exact ⟨_, rfl, a⟩
theorem HD.int {v : V} {i : Int} (h : HD K B H v (.int i)) : v = .int i := by
  cases h with
  | of h => cases h; rfl
theorem HD.str {v : V} {i : Str} (h : HD K B H v (.str i)) : v = .str i := by
  cases h with
  | of h => cases h; rfl
theorem HD.bl {v : V} {i : Bool} (h : HD K B H v (.bool i)) : v = .bl i := by
  cases h with
  | of h => cases h; rfl
theorem HD.non {v : V} (h : HD K B H v .none) : v = .non := by
  cases h with
  | of h => cases h; rfl
theorem Dat.dat_int {v : V} {i : Int} (h : Dat K B v (.int i)) : v = .int i := by cases h; rfl
theorem Dat.dat_str {v : V} {i : Str} (h : Dat K B v (.str i)) : v = .str i := by cases h; rfl
theorem Dat.dat_bl {v : V} {i : Bool} (h : Dat K B v (.bool i)) : v = .bl i := by cases h; rfl
theorem Dat.dat_non {v : V} (h : Dat K B v .none) : v = .non := by cases h; rfl
theorem HD.mono {B1 : Hp} {v : V} {d : PyData} (h : HD K B H v d) (e : Ex B H) : Dat K H v d := by
  cases h with
  | of h => exact h.mono e
  | lst a b => exact .lst (Or.inl (Or.inl a)) (b.mono e)
  | dc a =>
    rcases a with ⟨_, a, b⟩ | ⟨_, a, b, n⟩
    · exact .dk a (b.mono e)
    · exact .dt a (b.mono e) n
end
/-! the library's words for plain data -/
mutual
theorem Dat.dp {K : PySem.W.Frag} {B : Hp} : ∀ {v : V} {d : PyData}, Dat K B v d → PyData.canLay0 d = true → Dp K B v d
  | _, _, .non, _ => .non
  | _, _, .bl b, _ => .bl b
  | _, _, .int b, _ => .int b
  | _, _, .str b, _ => .str b
  | _, _, .lst h r, c => .lst h (Dats.dp r (by simpa [PyData.canLay0] using c))
  | _, _, .tup h r, c => .tup (Or.inl (Or.inl h)) (Dats.dp r (by simpa [PyData.canLay0] using c))
  | _, _, .dk _ _, c => by simp [PyData.canLay0] at c
  | _, _, .dt _ _ _, c => by simp [PyData.canLay0] at c
theorem Dats.dp {K : PySem.W.Frag} {B : Hp} : ∀ {v : List V} {d : List PyData}, Dats K B v d → PyData.canLayAll0 d = true → DpAll K B v d
  | _, _, .nil, _ => .nil
  | _, d :: ds, .cons h r, c => by
    have c' : PyData.canLay0 d = true ∧ PyData.canLayAll0 ds = true := by simpa [PyData.canLayAll0] using c
    exact .cons (Dat.dp h c'.1) (Dats.dp r c'.2)
end
end Rb
namespace Rb
open PySem L2
/-! ### what readings must do -/
structure FxOk (X : Cx) (M : En) (C : Addr) (f : Fx) : Prop where
  K : f.K = X.K
  C : f.C = C
  np : f.np = M.np
  n : f.n = M.nv
  me : f.sf.isSome = M.me
def OkE (X : Cx) (M : En) (C : Addr) (t : TE) (m : ME) : Prop := ∀ f B st σ w H own r st1, FxOk X M C f → Rel f B st σ w H own → m M st = some (r, st1) →
  ∀ Q : VK, (∀ v B1 H1 own1 ro, Ex B B1 → Rel f B1 st1 σ w H1 own1 → Res f B1 H1 own1 r v ro → Q v H1) → t σ H Q
/-- as plain data -/
def OkD (X : Cx) (M : En) (C : Addr) (t : TE) (m : MD) : Prop := ∀ f B st σ w H own d st1, FxOk X M C f → Rel f B st σ w H own → m M st = some (d, st1) →
  ∀ Q : VK, (∀ v B1 H1 own1, Ex B B1 → Rel f B1 st1 σ w H1 own1 → Dat X.K B1 v d → Q v H1) → t σ H Q
def PdRel (K : PySem.W.Frag) (w : Nat → Option V) (B : Hp) : Pd → V → Prop
  | .pl i, v => w i = some v
  | .da d, v => Dat K B v d
/-- an operand: a slot's content is read later -/
def OkO (X : Cx) (M : En) (C : Addr) (t : TE) (m : MO) : Prop := ∀ f B st σ w H own p st1, FxOk X M C f → Rel f B st σ w H own → m M st = some (p, st1) →
  ∀ Q : VK, (∀ v B1 H1 own1, Ex B B1 → Rel f B1 st1 σ w H1 own1 → PdRel X.K w B1 p v → Q v H1) → t σ H Q
def OkT (X : Cx) (M : En) (C : Addr) (t : TT) (m : MT) : Prop := ∀ f B st σ w H own b st1, FxOk X M C f → Rel f B st σ w H own → m M st = some (b, st1) →
  ∀ Q : Bool → Hp → Prop, (∀ B1 H1 own1, Ex B B1 → Rel f B1 st1 σ w H1 own1 → Q b H1) → t σ H Q
def PdsRel (K : PySem.W.Frag) (w : Nat → Option V) (B : Hp) : List Pd → List V → Prop
  | [], vs => vs = []
  | p :: r, vs => ∃ v vr, vs = v :: vr ∧ PdRel K w B p v ∧ PdsRel K w B r vr
def OkA (X : Cx) (M : En) (C : Addr) (t : TA) (m : MA) : Prop := ∀ f B st σ w H own ps st1, FxOk X M C f → Rel f B st σ w H own → m M st = some (ps, st1) →
  ∀ Q : List V → Hp → Prop, (∀ vs B1 H1 own1, Ex B B1 → Rel f B1 st1 σ w H1 own1 → PdsRel X.K w B1 ps vs → Q vs H1) → t σ H Q
def OkV (X : Cx) (M : En) (C : Addr) (t : TA) (m : MI) : Prop := ∀ f B st σ w H own ds st1, FxOk X M C f → Rel f B st σ w H own → m M st = some (ds, st1) →
  ∀ Q : List V → Hp → Prop, (∀ vs B1 H1 own1, Ex B B1 → Rel f B1 st1 σ w H1 own1 → Dats X.K B1 vs ds → Q vs H1) → t σ H Q
theorem PdRel.mono {K : PySem.W.Frag} {w : Nat → Option V} {B B1 : Hp} {p : Pd} {v : V} (e : Ex B B1) (h : PdRel K w B p v) : PdRel K w B1 p v := by
  cases p with
  | pl i => exact h
  | da d => exact Dat.mono e h
theorem PdsRel.mono {K : PySem.W.Frag} {w : Nat → Option V} {B B1 : Hp} (e : Ex B B1) : ∀ {ps : List Pd} {vs : List V}, PdsRel K w B ps vs → PdsRel K w B1 ps vs
  | [], _, h => h
  | p :: r, _, h => by
    obtain ⟨v, vr, e1, a, b⟩ := h
    exact ⟨v, vr, e1, a.mono e, PdsRel.mono e b⟩
section
variable {X : Cx} {M : En} {C : Addr} {f : Fx} {B : Hp} {st : Sto} {σ : L2.St} {w : Nat → Option V} {H : Hp} {own : Nat → List Addr}
/-- the content of an operand, read now -/
theorem Rel.peek (R : Rel f B st σ w H own) {p : Pd} {v : V} {d : PyData} (h : PdRel f.K w B p v) (hd : peek st p = some d) : HD f.K B H v d := by
  cases p with
  | da d' =>
    cases hd
    exact .of h
  | pl i =>
    have hw : w i = some v := h
    have z := R.slot i
    have hd : frz (gt st i) = some d := hd
    cases hs : gt st i with
    | dat d' =>
      rw [hs] at hd z
      cases hd
      obtain ⟨_, x, b, c⟩ := z
      rw [hw] at b; cases b
      exact .of c
    | lst ds =>
      rw [hs] at hd z
      cases hd
      obtain ⟨p, xs, a, _, b, c⟩ := z
      rw [hw] at a; cases a
      exact .lst b c
    | dct es =>
      rw [hs] at hd z
      cases hd
      obtain ⟨p, a, _, b⟩ := z
      rw [hw] at a; cases a
      exact .dc b
    | emp => rw [hs] at hd; cases hd
    | slf => rw [hs] at hd; cases hd
    | std d ds => rw [hs] at hd; cases hd
theorem Rel.peeks (R : Rel f B st σ w H own) : ∀ {ps : List Pd} {vs : List V} {ds : List PyData}, PdsRel f.K w B ps vs → peeks st ps = some ds → Paired (fun v d => HD f.K B H v d) vs ds
  | [], _, _, h, hd => by
    cases hd
    rw [show _ = [] from h]
    exact .nil
  | p :: r, _, ds, h, hd => by
    obtain ⟨v, vr, rfl, a, b⟩ := h
    unfold Rb.peeks at hd
    cases h1 : Rb.peek st p with
    | none => rw [h1] at hd; cases hd
    | some d =>
      cases h2 : Rb.peeks st r with
      | none => rw [h1, h2] at hd; cases hd
      | some dr =>
        rw [h1, h2] at hd
        cases hd
        exact .cons (R.peek a h1) (R.peeks b h2)
theorem OkE.val {t : TE} {m : ME} (h : OkE X M C t m) : OkD X M C t (valE m) := by
  intro f B st σ w H own d st1 F R e Q q
  unfold valE at e
  cases h1 : m M st with
  | none => rw [h1] at e; cases e
  | some z =>
    obtain ⟨r, st'⟩ := z
    rw [h1] at e
    simp only at e
    cases h2 : frz r with
    | none => rw [h2] at e; cases e
    | some d' =>
      rw [h2] at e
      cases e
      refine h f B st σ w H own r st1 F R h1 Q fun v B1 H1 own1 ro e1 R1 x => ?_
      obtain ⟨B2, e2, hd, R2⟩ := R1.frz_res x h2
      rw [F.K] at hd
      exact q v B2 H1 own1 (e1.trans e2) R2 hd
theorem OkD.exp {t : TE} {m : MD} (h : OkD X M C t m) : OkE X M C t (datE m) := by
  intro f B st σ w H own r st1 F R e Q q
  unfold datE at e
  cases h1 : m M st with
  | none => rw [h1] at e; cases e
  | some z =>
    obtain ⟨d, st'⟩ := z
    rw [h1] at e
    cases e
    exact h f B st σ w H own d st1 F R h1 Q fun v B1 H1 own1 e1 R1 x => q v B1 H1 own1 [] e1 R1 (res_dat (by rw [F.K]; exact x))
theorem OkE.opd {t : TE} {m : ME} (h : OkE X M C t m) : OkO X M C t (exO m) := by
  intro f B st σ w H own p st1 F R e Q q
  unfold exO at e
  cases h1 : valE m M st with
  | none => rw [h1] at e; cases e
  | some z =>
    obtain ⟨d, st'⟩ := z
    rw [h1] at e
    cases e
    exact h.val f B st σ w H own d st1 F R h1 Q fun v B1 H1 own1 e1 R1 x => q v B1 H1 own1 e1 R1 x
theorem ok_cst {v : V} {d : PyData} (h : ∀ B, Dat X.K B v d) : OkE X M C (tC v) (cstE d) := by
  intro f B st σ w H own r st1 F R e Q q
  cases e
  exact q v B H own [] (Ex.refl _) R (res_dat (by rw [F.K]; exact h B))
/-- reading a slot: its value stands there -/
def OkVar (t : TE) (f : Fx) (i : Nat) (w : Nat → Option V) (σ : L2.St) (H : Hp) : Prop := ∀ v, w i = some v → ∀ Q : VK, Q v H → t σ H Q
theorem ok_opl {t : TE} {i : Nat} (ht : ∀ (f : Fx) B st σ w H own, FxOk X M C f → Rel f B st σ w H own → ∀ v, w i = some v → ∀ Q : VK, Q v H → t σ H Q) : OkO X M C t (plO i) := by
  intro f B st σ w H own p st1 F R e Q q
  have z := R.slot i
  unfold plO at e
  have hv : ∃ v, w i = some v ∧ p = .pl i ∧ st1 = st := by
    cases hs : gt st i with
    | emp => rw [hs] at e; cases e
    | slf => rw [hs] at e; cases e
    | dat d =>
      rw [hs] at e z
      cases e
      obtain ⟨_, x, b, _⟩ := z
      exact ⟨x, b, rfl, rfl⟩
    | lst d =>
      rw [hs] at e z
      cases e
      obtain ⟨_, x, b, _⟩ := z
      exact ⟨_, b, rfl, rfl⟩
    | dct d =>
      rw [hs] at e z
      cases e
      obtain ⟨_, b, _⟩ := z
      exact ⟨_, b, rfl, rfl⟩
    | std d ds =>
      rw [hs] at e z
      cases e
      obtain ⟨_, _, _, _, _, b, _⟩ := z
      exact ⟨_, b, rfl, rfl⟩
  obtain ⟨v, hw, rfl, rfl⟩ := hv
  exact ht f B _ σ w H own F R v hw Q (q v B H own (Ex.refl _) R hw)
theorem ok_var {t : TE} {i : Nat} (ht : ∀ (f : Fx) B st σ w H own, FxOk X M C f → Rel f B st σ w H own → ∀ v, w i = some v → ∀ Q : VK, Q v H → t σ H Q) : OkE X M C t (varE i) := by
  intro f B st σ w H own r st1 F R e Q q
  unfold varE at e
  have npv : ¬ i < M.np → f.pv i = none := fun h => by
    cases z : f.pv i with
    | none => rfl
    | some v =>
      obtain ⟨a, _⟩ := R.par i v z
      rw [F.np] at a
      exact absurd a h
  have z := R.slot i
  cases hs : gt st i with
  | dat d =>
    rw [hs] at e z
    cases e
    obtain ⟨_, x, b, c⟩ := z
    exact ht f B _ σ w H own F R x b Q (q x B H own [] (Ex.refl _) R (res_dat c))
  | lst ds =>
    rw [hs] at e
    simp only at e
    split at e
    · cases e
    · split at e
      · cases e
        obtain ⟨B1, own1, v, e1, hw, hd, R1⟩ := R.freeze (i := i) (d := .list ds) (by rw [hs]; rfl) (npv (by assumption))
        exact ht f B st σ w H own F R v hw Q (q v B1 H own1 [] e1 R1 (res_dat hd))
      · cases e
  | dct es =>
    rw [hs] at e
    simp only at e
    split at e
    · cases e
    · split at e
      · cases e
        obtain ⟨B1, own1, v, e1, hw, hd, R1⟩ := R.freeze (i := i) (d := .dict es) (by rw [hs]; rfl) (npv (by assumption))
        exact ht f B st σ w H own F R v hw Q (q v B1 H own1 [] e1 R1 (res_dat hd))
      · cases e
  | emp => rw [hs] at e; cases e
  | slf => rw [hs] at e; cases e
  | std d ds => rw [hs] at e; cases e
/-- a def's own name -/
theorem var_real {i : Nat} (hi : i < M.nv) : ∀ (f : Fx) B st σ w H own, FxOk X M C f → Rel f B st σ w H own → ∀ v, w i = some v → ∀ Q : VK, Q v H → tVar i σ H Q := by
  intro f B st σ w H own F R v hw Q q
  refine ⟨v, ?_, q⟩
  have h1 : i < f.n := by rw [F.n]; exact hi
  have h2 := R.wv i h1
  rw [hw, List.getD_eq_getElem?_getD] at h2
  have hl : i < σ.length := by rw [R.len]; exact h1
  rw [List.getElem?_eq_getElem hl] at h2 ⊢
  exact congrArg some h2.symm
/-- two operands, then their contents -/
theorem ok_two {ta tb : TE} {a b : MO} {r : R2} {k : PyData → PyData → Sto → Option (SV × Sto)} (ha : OkO X M C ta a) (hb : OkO X M C tb b)
    (h : ∀ f B st σ w H own x y dx dy r0 st1, FxOk X M C f → Rel f B st σ w H own → HD X.K B H x dx → HD X.K B H y dy → k dx dy st = some (r0, st1) →
      ∀ Q : VK, (∀ v B1 H1 own1 ro, Ex B B1 → Rel f B1 st1 σ w H1 own1 → Res f B1 H1 own1 r0 v ro → Q v H1) → r x y H Q) : OkE X M C (tOp r ta tb) (two a b k) := by
  intro f B st σ w H own r0 st1 F R e Q q
  unfold two at e
  cases h1 : a M st with
  | none => rw [h1] at e; cases e
  | some z1 =>
    obtain ⟨p, s1⟩ := z1
    rw [h1] at e
    simp only at e
    cases h2 : b M s1 with
    | none => rw [h2] at e; cases e
    | some z2 =>
      obtain ⟨p2, s2⟩ := z2
      rw [h2] at e
      simp only at e
      cases h3 : Rb.peek s2 p with
      | none => rw [h3] at e; cases e
      | some dx =>
        cases h4 : Rb.peek s2 p2 with
        | none => rw [h3, h4] at e; cases e
        | some dy =>
          rw [h3, h4] at e
          simp only at e
          refine ha f B st σ w H own p s1 F R h1 _ fun x B1 H1 own1 e1 R1 hx => ?_
          refine hb f B1 s1 σ w H1 own1 p2 s2 F R1 h2 _ fun y B2 H2 own2 e2 R2 hy => ?_
          have kx := hx.mono e2
          rw [← F.K] at kx hy
          have px := R2.peek kx h3
          have py := R2.peek hy h4
          rw [F.K] at px py
          exact h f B2 s2 σ w H2 own2 x y dx dy r0 st1 F R2 px py e Q fun v B3 H3 own3 ro e3 R3 x3 => q v B3 H3 own3 ro ((e1.trans e2).trans e3) R3 x3
/-- the same where nothing is made: the answer is plain data that stands in the base -/
theorem rs_some {o : Option SV} {st : Sto} {r : SV} {st1 : Sto} (h : rs o st = some (r, st1)) : o = some r ∧ st1 = st := by
  unfold rs at h
  cases o with
  | none => cases h
  | some z => cases h; exact ⟨rfl, rfl⟩
theorem rd_some {o : Option PyData} {st : Sto} {r : SV} {st1 : Sto} (h : rd o st = some (r, st1)) : ∃ d, o = some d ∧ r = .dat d ∧ st1 = st := by
  unfold rd at h
  cases o with
  | none => cases h
  | some z => cases h; exact ⟨z, rfl, rfl, rfl⟩
theorem rb_some {o : Option Bool} {st : Sto} {r : SV} {st1 : Sto} (h : rb o st = some (r, st1)) : ∃ d, o = some d ∧ r = .dat (.bool d) ∧ st1 = st := by
  unfold rb at h
  cases o with
  | none => cases h
  | some z => cases h; exact ⟨z, rfl, rfl, rfl⟩
end
end Rb
namespace Rb
open PySem L2
section
variable {X : Cx}
open PySem.Spec PyProof.Rows in
/-- list + list, of lists that may be read -/
def rCatS (K : PySem.W.Frag) : R2 := fun x y H Q => ∃ l b xs zs, x = .ref l ∧ y = .ref b ∧ SqL K H l xs ∧ SqL K H b zs ∧ xs.length + zs.length ≤ sizeLine ∧ ∀ p, H p = none → Q (.ref p) (upd H p (.lst (xs ++ zs)))
open PySem.Spec PyProof.Rows in
theorem op_catS : OpR X (binaryOp .Add) (rCatS X.K) := by
  intro pins s σ H x y v u Q I rx ry h
  obtain ⟨l, b, xs, zs, rfl, rfl, hH, hB, hz, q⟩ := h
  cases rx
  cases ry
  obtain ⟨its, r, pl, hl⟩ := I.list hH
  obtain ⟨its2, r2, pl2, hl2⟩ := I.list hB
  obtain ⟨⟨cls, dd, data, sl⟩, ho, hc, n, hd⟩ := id pl.isList
  obtain ⟨⟨cls2, dd2, data2, sl2⟩, ho2, hc2, n2, hd2⟩ := id pl2.isList
  simp only at hc hd hc2 hd2
  subst hc hd hc2 hd2
  have e : its.toArray ++ its2.toArray = (its ++ its2).toArray := by simp
  refine concat_meets ⟨_, ho, rfl⟩ ⟨_, ho2, rfl⟩ noFill_list_add seq_list_add PySem.F.slot_list_add PySem.F.entry_list_add (PySem.F.args_list_add_2 _ _) (list_addW l b its.toArray its2.toArray n n2 dd dd2 sl sl2 (by rw [List.size_toArray, List.size_toArray, ← r.length, ← r2.length]; exact hz)) ⟨ho, ho2, ?_⟩
  rw [e]
  exact ⟨.ref _, _, I.lnew (t' := s.toks) (r.append r2) (by rw [List.length_append]; omega), rfl, q _ I.fresh⟩
open PySem.Spec PyProof.Rows in
/-- list * int -/
def rRepS (K : PySem.W.Frag) : R2 := fun x y H Q => ∃ l k xs, x = .ref l ∧ y = .int k ∧ SqL K H l xs ∧ 0 ≤ k ∧ k ≤ 1000 ∧ xs.length ≤ 1000 ∧ ∀ p, H p = none → Q (.ref p) (upd H p (.lst (List.replicate k.toNat xs).flatten))
open PySem.Spec PyProof.Rows in
theorem op_repS : OpR X (binaryOp .Mult) (rRepS X.K) := by
  intro pins s σ H x y v u Q I rx ry h
  obtain ⟨l, k, xs, rfl, rfl, hH, h1, h2, hz, q⟩ := h
  cases rx
  obtain ⟨t, rfl⟩ := ry
  obtain ⟨its, r, pl, hl⟩ := I.list hH
  obtain ⟨⟨cls, d, data, sl⟩, ho, hc, n, hd⟩ := id pl.isList
  simp only at hc hd
  subst hc hd
  have hlen := r.length
  have hle : its.length ≤ 1000 := by rw [← hlen]; exact hz
  have hk : k.toNat ≤ 1000 := by omega
  have hmul : its.length * k.toNat ≤ 1000000 := Nat.le_trans (Nat.mul_le_mul hle hk) (by decide)
  have hcap : ¬ its.toArray.size * k.toNat > (2 ^ 63 - 1) / 8 := by rw [List.size_toArray]; omega
  have hfit : ¬ (!Builtin.List.listFitsIndex k) = true := by
    rw [fitsIndex_both (by omega) (by omega)]
    exact Bool.false_ne_true
  have hlong : ¬ Builtin.List.listTooLong (its.toArray.size * k.toNat) = true := by
    rw [notLongL (by rw [List.size_toArray, sizeLine_eq]; omega)]
    exact Bool.false_ne_true
  have hnew : List.foldl (fun x1 x2 => x1 ++ x2) #[] (List.replicate (if its.toArray.isEmpty = true then 0 else k.toNat) its.toArray) = (List.replicate k.toNat its).flatten.toArray := by
    have f0 : ∀ m : Nat, List.foldl (fun x1 x2 => x1 ++ x2) #[] (List.replicate m its.toArray) = (List.replicate m its).flatten.toArray := fun m => by
      have := foldl_rep its m []
      rw [List.nil_append] at this
      exact this
    rw [f0]
    cases its with
    | nil => simp
    | cons a r' => rw [if_neg (by simp)]
  refine wpAny_binaryOp_repeat_ref (T := "list") (U := "int") (by decide) ⟨_, ho, rfl⟩ (fun s' => typeIs_int s' k t) noFill_list_mul F.fills_int_mul F.slot_int_rmul repeat_list F.slot_int_index.lookup
    (call_meets F.slot_int_rmul (typeIs_int s k t) F.entry_int_rmul (F.args_int_rmul_2 _ _) (lm_int_rmul_list_any k t l its.toArray n d sl)
      ⟨ho, rfl, ⟨_, ho, rfl⟩, call_meets F.slot_list_mul ⟨_, ho, rfl⟩ F.entry_list_mul (F.args_list_mul_2 _ _) (lm_list_mul_any l its.toArray n d sl k t hfit hcap hlong) ⟨ho, ?_⟩⟩)
  rw [hnew]
  have hz2 : (List.replicate k.toNat xs).flatten.length ≤ sizeLine := by
    rw [PyProof.Rows.lm_len_rep_flat, sizeLine_eq, hlen, Nat.mul_comm]
    omega
  exact ⟨.ref _, _, I.lnew (t' := s.toks) (r.rep k.toNat) hz2, rfl, q _ I.fresh⟩
theorem op_bot {f : Value → Value → Sem Value} : OpR X f (fun _ _ _ _ => False) := fun _ _ _ _ _ _ _ _ _ _ _ _ h => h.elim
def rBin (K : PySem.W.Frag) : Operator → R2
  | .Add => fun x y H Q => rI0 (fun i j => .int (i + j)) x y H Q ∨ (∃ i j, x = .str i ∧ y = .str j ∧ i.length + j.length ≤ sizeLine ∧ Q (.str (i ++ j)) H) ∨ rCatA K x y H Q ∨ rCatS K x y H Q
  | .Sub => rI0 fun i j => .int (i - j)
  | .Mult => fun x y H Q => rI CMulW (fun i j => .int (i * j)) x y H Q ∨ rRepS K x y H Q
  | .FloorDiv => rI CDivW fun i j => .int (i / j)
  | .Mod => rI (fun _ j => 0 < j) fun i j => .int (i % j)
  | .Pow => rI CPow fun i j => .int (i ^ j.toNat)
  | .LShift => rI CPow fun i j => .int (i * 2 ^ j.toNat)
  | .RShift => rI (fun _ j => 0 ≤ j) fun i j => .int (i / 2 ^ j.toNat)
  | .BitAnd => rI0 fun i j => .int (Builtin.bitAnd i j)
  | .BitOr => rI0 fun i j => .int (Builtin.bitOr i j)
  | .BitXor => rI0 fun i j => .int (Builtin.bitXor i j)
  | _ => fun _ _ _ _ => False
theorem op_bin : ∀ op : Operator, OpR X (binaryOp op) (rBin X.K op)
  | .Add => op_add.or (op_add_str.or (op_catA.or op_catS))
  | .Sub => op_sub
  | .Mult => op_mulW.or op_repS
  | .FloorDiv => op_fdivW
  | .Mod => op_mod
  | .Pow => op_pow
  | .LShift => op_shl
  | .RShift => op_shr
  | .BitAnd => op_and
  | .BitOr => op_or
  | .BitXor => op_xor
  | .MatMult => op_bot
  | .Div => op_bot
theorem lim_line : lim ≤ sizeLine := by rw [sizeLine_eq]; decide
section
variable {M : En} {C : Addr} {f : Fx} {B : Hp} {st : Sto} {σ : L2.St} {w : Nat → Option V} {H : Hp} {own : Nat → List Addr}
theorem Dats.rep {K : PySem.W.Frag} {xs : List V} {ds : List PyData} (h : Dats K B xs ds) : ∀ n : Nat, Dats K B (List.replicate n xs).flatten (List.replicate n ds).flatten
  | 0 => .nil
  | n + 1 => by
    rw [List.replicate_succ, List.replicate_succ, List.flatten_cons, List.flatten_cons]
    exact h.append (Dats.rep h n)
theorem bin_ok {op : Operator} {x y : V} {dx dy : PyData} {r0 : SV} (F : FxOk X M C f) (R : Rel f B st σ w H own) (hx : HD X.K B H x dx) (hy : HD X.K B H y dy) (e : binD op dx dy = some r0) (Q : VK)
    (q : ∀ v B1 H1 own1 ro, Ex B B1 → Rel f B1 st σ w H1 own1 → Res f B1 H1 own1 r0 v ro → Q v H1) : rBin X.K op x y H Q := by
  have qi : ∀ i : Int, r0 = .dat (.int i) → Q (.int i) H := fun i h => q _ B H own [] (Ex.refl _) R (by rw [h]; exact res_dat (.int i))
  have qs : ∀ i : Str, r0 = .dat (.str i) → Q (.str i) H := fun i h => q _ B H own [] (Ex.refl _) R (by rw [h]; exact res_dat (.str i))
  cases op with
  | Add =>
    cases dx with
    | int i =>
      cases dy <;> first
        | (cases e; done)
        | (cases hx.int; cases hy.int; cases e; exact .inl ⟨_, _, rfl, rfl, qi _ rfl⟩)
    | str i =>
      cases dy <;> first
        | (cases e; done)
        | (rename_i j
           cases hx.str; cases hy.str
           simp only [binD] at e
           split at e
           · cases e
             exact .inr (.inl ⟨_, _, rfl, rfl, Nat.le_trans (by assumption) lim_line, qs _ rfl⟩)
           · cases e)
    | tuple xs =>
      cases dy <;> first
        | (cases e; done)
        | (rename_i ys
           obtain ⟨p, vx, rfl, a, b⟩ := hx.tuple R.exB
           obtain ⟨p2, vy, rfl, a2, b2⟩ := hy.tuple R.exB
           simp only [binD] at e
           split at e
           · cases e
             have l1 := b.length
             have l2 := b2.length
             refine .inr (.inr (.inl ⟨p, p2, vx, vy, rfl, rfl, SqT.of a, SqT.of a2, by rw [l1, l2]; exact Nat.le_trans (by assumption) lim_line, ?_, ?_, ?_⟩))
             · rintro rfl
               cases b
               refine q _ B H own [] (Ex.refl _) R (res_dat ?_)
               rw [F.K]
               cases hy with
               | of h => exact h
             · rintro _ rfl
               cases b2
               refine q _ B H own [] (Ex.refl _) R (res_dat ?_)
               rw [F.K, List.append_nil]
               cases hx with
               | of h => exact h
             · intro _ _ p3 hp3
               obtain ⟨B1, e1, R1, hD⟩ := R.res_tup hp3 (by rw [F.K]; exact b.append b2)
               exact q _ B1 _ own [] e1 R1 (res_dat hD)
           · cases e)
    | list xs =>
      cases dy <;> first
        | (cases e; done)
        | (rename_i ys
           obtain ⟨p, vx, rfl, a, b⟩ := hx.list R.exB
           obtain ⟨p2, vy, rfl, a2, b2⟩ := hy.list R.exB
           simp only [binD] at e
           split at e
           · cases e
             have l1 := b.length
             have l2 := b2.length
             refine .inr (.inr (.inr ⟨p, p2, vx, vy, rfl, rfl, a, a2, by rw [l1, l2]; exact Nat.le_trans (by assumption) lim_line, fun p3 hp3 => ?_⟩))
             obtain ⟨R1, x1⟩ := R.res_lst hp3 (by rw [F.K]; exact b.append b2)
             exact q _ B _ own [p3] (Ex.refl _) R1 x1
           · cases e)
    | none => cases e
    | bool _ => cases e
    | dict _ => cases e
  | Mult =>
    cases dx with
    | int i =>
      cases dy <;> first
        | (cases e; done)
        | (cases hx.int; cases hy.int
           simp only [binD] at e
           split at e
           · cases e
             exact .inl ⟨_, _, rfl, rfl, by rename_i h; unfold mulOk at h; unfold CMulW; exact of_decide_eq_true h, qi _ rfl⟩
           · cases e)
    | list xs =>
      cases dy <;> first
        | (cases e; done)
        | (rename_i j
           obtain ⟨p, vx, rfl, a, b⟩ := hx.list R.exB
           cases hy.int
           simp only [binD] at e
           split at e
           · cases e
             rename_i h
             simp only [Bool.and_eq_true, decide_eq_true_eq] at h
             refine .inr ⟨p, _, vx, rfl, rfl, a, h.1.1, h.1.2, by rw [b.length]; exact h.2, fun p3 hp3 => ?_⟩
             obtain ⟨R1, x1⟩ := R.res_lst (xs := (List.replicate j.toNat vx).flatten) (ds := (List.replicate j.toNat xs).flatten) hp3 (by rw [F.K]; exact Dats.rep b _)
             exact q _ B _ own [p3] (Ex.refl _) R1 x1
           · cases e)
    | none => cases e
    | bool _ => cases e
    | str _ => cases e
    | tuple _ => cases e
    | dict _ => cases e
  | Sub =>
    cases dx <;> cases dy <;> first
      | (cases e; done)
      | (cases hx.int; cases hy.int; cases e; exact ⟨_, _, rfl, rfl, qi _ rfl⟩)
  | BitAnd =>
    cases dx <;> cases dy <;> first
      | (cases e; done)
      | (cases hx.int; cases hy.int; cases e; exact ⟨_, _, rfl, rfl, qi _ rfl⟩)
  | BitOr =>
    cases dx <;> cases dy <;> first
      | (cases e; done)
      | (cases hx.int; cases hy.int; cases e; exact ⟨_, _, rfl, rfl, qi _ rfl⟩)
  | BitXor =>
    cases dx <;> cases dy <;> first
      | (cases e; done)
      | (cases hx.int; cases hy.int; cases e; exact ⟨_, _, rfl, rfl, qi _ rfl⟩)
  | FloorDiv =>
    cases dx <;> cases dy <;> first
      | (cases e; done)
      | (cases hx.int; cases hy.int
         simp only [binD] at e
         split at e
         · cases e
           rename_i h
           unfold divOk at h
           simp only [Bool.and_eq_true, decide_eq_true_eq] at h
           exact ⟨_, _, rfl, rfl, h, qi _ rfl⟩
         · cases e)
  | Mod =>
    cases dx <;> cases dy <;> first
      | (cases e; done)
      | (cases hx.int; cases hy.int
         simp only [binD] at e
         split at e
         · cases e
           exact ⟨_, _, rfl, rfl, by assumption, qi _ rfl⟩
         · cases e)
  | Pow =>
    cases dx <;> cases dy <;> first
      | (cases e; done)
      | (cases hx.int; cases hy.int
         simp only [binD] at e
         split at e
         · cases e
           rename_i h
           unfold powOk at h
           simp only [Bool.and_eq_true, decide_eq_true_eq] at h
           exact ⟨_, _, rfl, rfl, ⟨h.1.1, h.1.2, h.2⟩, qi _ rfl⟩
         · cases e)
  | LShift =>
    cases dx <;> cases dy <;> first
      | (cases e; done)
      | (cases hx.int; cases hy.int
         simp only [binD] at e
         split at e
         · cases e
           rename_i h
           unfold powOk at h
           simp only [Bool.and_eq_true, decide_eq_true_eq] at h
           exact ⟨_, _, rfl, rfl, ⟨h.1.1, h.1.2, h.2⟩, qi _ rfl⟩
         · cases e)
  | RShift =>
    cases dx <;> cases dy <;> first
      | (cases e; done)
      | (cases hx.int; cases hy.int
         simp only [binD] at e
         split at e
         · cases e
           exact ⟨_, _, rfl, rfl, by assumption, qi _ rfl⟩
         · cases e)
  | MatMult => cases dx <;> cases dy <;> cases e
  | Div => cases dx <;> cases dy <;> cases e
theorem ok_bin {op : Operator} {ta tb : TE} {a b : MO} (ha : OkO X M C ta a) (hb : OkO X M C tb b) : OkE X M C (tOp (rBin X.K op) ta tb) (binE op a b) :=
  ok_two ha hb fun f B st σ w H own x y dx dy r0 st1 F R hx hy e Q q => by
    obtain ⟨e1, rfl⟩ := rs_some e
    exact bin_ok F R hx hy e1 Q q
end
end
end Rb
namespace Rb
open PySem L2
theorem PE.or {X : Cx} {e : Expr} {t1 t2 : TE} (h1 : PE X e t1) (h2 : PE X e t2) : PE X e (fun σ H Q => t1 σ H Q ∨ t2 σ H Q) :=
  ⟨fun pins s σ H Q I h => h.elim (h1.run pins s σ H Q I) (h2.run pins s σ H Q I)⟩
/-! ### keys -/
theorem key_dat {K : PySem.W.Frag} {B : Hp} {v : V} {d : PyData} {k : Key} (h : Dat K B v d) (e : keyD d = some k) : v = kV k ∧ d = kP k := by
  cases d with
  | int i => cases e; cases h; exact ⟨rfl, rfl⟩
  | str x => cases e; cases h; exact ⟨rfl, rfl⟩
  | none => cases e
  | bool _ => cases e
  | list _ => cases e
  | tuple _ => cases e
  | dict _ => cases e
theorem keysD_cons {x : PyData} {r : List PyData} {ks : List Key} (e : keysD (x :: r) = some ks) : ∃ k kr, ks = k :: kr ∧ keyD x = some k ∧ keysD r = some kr := by
  unfold keysD at e
  cases h1 : keyD x with
  | none => rw [h1] at e; cases e
  | some k =>
    cases h2 : keysD r with
    | none => rw [h1, h2] at e; cases e
    | some kr =>
      rw [h1, h2] at e
      cases e
      exact ⟨k, kr, rfl, rfl, rfl⟩
theorem keys_dat {K : PySem.W.Frag} {B : Hp} : ∀ {vs : List V} {ds : List PyData} {ks : List Key}, Dats K B vs ds → keysD ds = some ks → vs = ks.map kV ∧ ds = ks.map kP
  | _, _, ks, .nil, e => by
    cases e
    exact ⟨rfl, rfl⟩
  | _, _, ks, .cons h r, e => by
    obtain ⟨k, kr, rfl, e1, e2⟩ := keysD_cons e
    obtain ⟨a, b⟩ := key_dat h e1
    obtain ⟨c, d⟩ := keys_dat r e2
    exact ⟨by rw [a, c]; rfl, by rw [b, d]; rfl⟩
theorem eqv_kP (a b : Key) : PyData.eqv (kP a) (kP b) = decide (a = b) := by
  cases a with
  | inl i =>
    cases b with
    | inl j =>
      show (i == j) = _
      by_cases h : i = j
      · subst h; simp
      · rw [decide_eq_false fun z => h (Sum.inl.inj z)]; exact beq_eq_false_iff_ne.mpr h
    | inr y => rfl
  | inr x =>
    cases b with
    | inl j => rfl
    | inr y =>
      show (x == y) = _
      by_cases h : x = y
      · subst h; simp
      · rw [decide_eq_false fun z => h (Sum.inr.inj z)]; exact beq_eq_false_iff_ne.mpr h
theorem eqv_kPs : ∀ a b : List Key, PyData.eqvAll (a.map kP) (b.map kP) = decide (a = b)
  | [], [] => rfl
  | [], _ :: _ => rfl
  | _ :: _, [] => rfl
  | x :: a, y :: b => by
    show (PyData.eqv (kP x) (kP y) && PyData.eqvAll (a.map kP) (b.map kP)) = _
    rw [eqv_kP, eqv_kPs a b]
    by_cases h : x = y
    · subst h; simp
    · simp [h]
theorem keyD_kP (k : Key) : keyD (kP k) = some k := by cases k <;> rfl
theorem isKey_kP (k : Key) : isKey (kP k) = true := by unfold isKey; rw [keyD_kP]; rfl
theorem keysD_kP : ∀ ks : List Key, keysD (ks.map kP) = some ks
  | [] => rfl
  | k :: r => by
    show keysD (kP k :: r.map kP) = _
    unfold keysD
    rw [keyD_kP, keysD_kP r]
section
variable {K : PySem.W.Frag} {B : Hp}
theorem DKs.len : ∀ {kvs : List (Key × V)} {es : List (PyData × PyData)}, DKs K B kvs es → kvs.length = es.length
  | _, _, .nil => rfl
  | _, _, .cons _ r => by rw [List.length_cons, List.length_cons, DKs.len r]
theorem DTs.len : ∀ {kvs : List (List Key × V)} {es : List (PyData × PyData)}, DTs K B kvs es → kvs.length = es.length
  | _, _, .nil => rfl
  | _, _, .cons _ r => by rw [List.length_cons, List.length_cons, DTs.len r]
theorem DKs.keys : ∀ {kvs : List (Key × V)} {es : List (PyData × PyData)}, DKs K B kvs es → ∀ e ∈ es, isKey e.1 = true
  | _, _, .nil => fun e h => by cases h
  | _, _, .cons _ r => fun e h => by
    rcases List.mem_cons.mp h with rfl | h
    · exact isKey_kP _
    · exact DKs.keys r e h
theorem isKeys_map (ks : List Key) : isKeys (.tuple (ks.map kP)) = true := by
  show (keysD (ks.map kP)).isSome = true
  rw [keysD_kP]; rfl
theorem DTs.keys : ∀ {kvs : List (List Key × V)} {es : List (PyData × PyData)}, DTs K B kvs es → ∀ e ∈ es, isKeys e.1 = true
  | _, _, .nil => fun e h => by cases h
  | _, _, .cons _ r => fun e h => by
    rcases List.mem_cons.mp h with rfl | h
    · exact isKeys_map _
    · exact DTs.keys r e h
theorem key_not_keys {d : PyData} (h : isKey d = true) (h' : isKeys d = true) : False := by
  cases d <;> simp [isKey, isKeys, keyD] at h h'
theorem dlook_cons (p : PyData × PyData) (es : List (PyData × PyData)) (k : PyData) : dlook (p :: es) k = if PyData.eqv p.1 k then some p.2 else dlook es k := by
  unfold dlook
  rw [List.find?_cons]
  cases PyData.eqv p.1 k <;> rfl
theorem DKs.look (k : Key) : ∀ {kvs : List (Key × V)} {es : List (PyData × PyData)}, DKs K B kvs es →
    (∃ v d, valV kvs k = some v ∧ dlook es (kP k) = some d ∧ Dat K B v d) ∨ (valV kvs k = none ∧ dlook es (kP k) = none)
  | _, _, .nil => .inr ⟨rfl, rfl⟩
  | _, _, .cons (k := j) (v := v) (d := d) h r => by
    rw [dlook_cons, eqv_kP]
    by_cases e : j = k
    · rw [if_pos (decide_eq_true e), valV_pos e]
      exact .inl ⟨v, d, rfl, rfl, h⟩
    · rw [if_neg (by simp [e]), valV_neg e]
      exact DKs.look k r
theorem DTs.look (k : List Key) : ∀ {kvs : List (List Key × V)} {es : List (PyData × PyData)}, DTs K B kvs es →
    (∃ v d, valV kvs k = some v ∧ dlook es (.tuple (k.map kP)) = some d ∧ Dat K B v d) ∨ (valV kvs k = none ∧ dlook es (.tuple (k.map kP)) = none)
  | _, _, .nil => .inr ⟨rfl, rfl⟩
  | _, _, .cons (k := j) (v := v) (d := d) h r => by
    rw [dlook_cons, show PyData.eqv (.tuple (j.map kP)) (.tuple (k.map kP)) = PyData.eqvAll (j.map kP) (k.map kP) from rfl, eqv_kPs]
    by_cases e : j = k
    · rw [if_pos (decide_eq_true e), valV_pos e]
      exact .inl ⟨v, d, rfl, rfl, h⟩
    · rw [if_neg (by simp [e]), valV_neg e]
      exact DTs.look k r
/-- asking a dict -/
theorem dc_get {H : Hp} {p : Addr} {es : List (PyData × PyData)} {v : V} {d : PyData} (e : Ex B H) (h : DcAt K B H p es) (hk : Dat K H v d) (ok : keyOk es d = true) :
    (∃ x y, DGet H p v (some x) ∧ dlook es d = some y ∧ Dat K B x y) ∨ (DGet H p v none ∧ dlook es d = none) := by
  unfold keyOk at ok
  rw [Bool.or_eq_true] at ok
  rcases h with ⟨kvs, a, b⟩ | ⟨kvs, a, b, n⟩
  · have hd : isKey d = true := by
      rcases ok with ok | ok
      · exact (Bool.and_eq_true _ _ ▸ ok).1
      · simp only [Bool.and_eq_true, List.all_eq_true] at ok
        cases es with
        | nil => simp at ok
        | cons q r => exact (key_not_keys (b.keys q (by simp)) (ok.2 q (by simp))).elim
    unfold isKey at hd
    obtain ⟨k, hk'⟩ := Option.isSome_iff_exists.mp hd
    obtain ⟨rfl, rfl⟩ := key_dat hk hk'
    have g := DGet.k (k := k) a
    rcases b.look k with ⟨x, y, q1, q2, q3⟩ | ⟨q1, q2⟩
    · rw [q1] at g; exact .inl ⟨x, y, g, q2, q3⟩
    · rw [q1] at g; exact .inr ⟨g, q2⟩
  · have hd : isKeys d = true := by
      rcases ok with ok | ok
      · simp only [Bool.and_eq_true, List.all_eq_true] at ok
        cases es with
        | nil => exact absurd rfl n
        | cons q r => exact (key_not_keys (ok.2 q (by simp)) (b.keys q (by simp))).elim
      · simp only [Bool.and_eq_true] at ok
        exact ok.1.1
    cases d with
    | tuple xs =>
      unfold isKeys at hd
      obtain ⟨ks, hks⟩ := Option.isSome_iff_exists.mp hd
      cases hk with
      | tup s r =>
        obtain ⟨rfl, rfl⟩ := keys_dat r hks
        have g := DGet.t (k := ks) a s
        rcases b.look ks with ⟨x, y, q1, q2, q3⟩ | ⟨q1, q2⟩
        · rw [q1] at g; exact .inl ⟨x, y, g, q2, q3⟩
        · rw [q1] at g; exact .inr ⟨g, q2⟩
    | none => cases hd
    | bool _ => cases hd
    | int _ => cases hd
    | str _ => cases hd
    | list _ => cases hd
    | dict _ => cases hd
end
/-! ### comparisons -/
section
variable {X : Cx}
def rInDc (neg : Bool) : R2 := fun y x H Q => ∃ a o, x = .ref a ∧ DGet H a y o ∧ Q (.bl (if neg then !o.isSome else o.isSome)) H
theorem op_inDc (hu : X.A.units + 1 < cLine) : OpR X (compareOp .In) (rInDc false) := by
  intro pins s σ H y x v u Q I ry rx h
  obtain ⟨a, o, rfl, g, q⟩ := h
  obtain rfl : u = Value.ref a := rx
  exact d_in hu I g ry fun s3 I3 => ⟨.bl o.isSome, H, I3, rfl, q⟩
theorem op_notInDc (hu : X.A.units + 1 < cLine) : OpR X (compareOp .NotIn) (rInDc true) := by
  intro pins s σ H y x v u Q I ry rx h
  obtain ⟨a, o, rfl, g, q⟩ := h
  obtain rfl : u = Value.ref a := rx
  exact d_notIn hu I g ry fun s3 I3 => ⟨.bl (!o.isSome), H, I3, rfl, q⟩
def rSign (neg : Bool) : R2 := fun x y H Q => ∃ (c : Nat) (z : Str), x = .str ⟨#[c]⟩ ∧ y = .str z ∧ Q (.bl (if neg then !decide (c ∈ z.cps.toList) else decide (c ∈ z.cps.toList))) H
def rCmp (K : PySem.W.Frag) : CmpOp → R2
  | .Eq => rEqD K
  | .NotEq => rNeD K
  | .Lt => rI0 fun i j => .bl (decide (i < j))
  | .LtE => rI0 fun i j => .bl (decide (i ≤ j))
  | .Gt => rI0 fun i j => .bl (decide (j < i))
  | .GtE => rI0 fun i j => .bl (decide (j ≤ i))
  | .Is => fun x y H Q => (y = .non ∧ Q (.bl (decide (x = .non))) H) ∨ rIsB x y H Q
  | .IsNot => fun x y H Q => (y = .non ∧ Q (.bl (!decide (x = .non))) H) ∨ rNotB x y H Q
  | .In => fun x y H Q => rIn K false x y H Q ∨ rInD K x y H Q ∨ rInDc false x y H Q ∨ rSign false x y H Q
  | .NotIn => fun x y H Q => rIn K true x y H Q ∨ rNotInD K x y H Q ∨ rInDc true x y H Q ∨ rSign true x y H Q
theorem op_cmp (hu : X.A.units + 65 < cLine) : ∀ op : CmpOp, OpR X (compareOp op) (rCmp X.K op)
  | .Eq => op_eqD (by omega)
  | .NotEq => op_neD (by omega)
  | .Lt => op_lt
  | .LtE => op_le
  | .Gt => op_gt
  | .GtE => op_ge
  | .Is => op_isN.or op_isBl
  | .IsNot => op_notN.or op_notBl
  | .In => op_in_seq.or ((op_inD hu).or ((op_inDc (by omega)).or op_in_sign))
  | .NotIn => op_notIn_seq.or ((op_notInD hu).or ((op_notInDc (by omega)).or op_notIn_sign))
theorem shaped_lay {d : PyData} (h : SeqAt.shaped d = true) : PyData.canLay0 d = true := SeqAt.canLay_of_shaped h
theorem flat_dat {K : PySem.W.Frag} {B : Hp} {v : V} {d : PyData} (h : Dat K B v d) (f : flatD d = true) : flatV v = true := by
  cases h <;> first | rfl | cases f
theorem flats_dat {K : PySem.W.Frag} {B : Hp} : ∀ {v : List V} {d : List PyData}, Dats K B v d → d.all flatD = true → v.all flatV = true
  | _, _, .nil, _ => rfl
  | _, _, .cons h r, f => by
    simp only [List.all_cons, Bool.and_eq_true] at f ⊢
    exact ⟨flat_dat h f.1, flats_dat r f.2⟩
theorem eqv_flat {K : PySem.W.Frag} {B B' : Hp} {x y : V} {d e : PyData} (h : Dat K B x d) (h' : Dat K B' y e) (f : flatD d = true) (f' : flatD e = true) : eqV x y = PyData.eqv d e := by
  cases h <;> first
    | (cases f; done)
    | (cases h' <;> first | (cases f'; done) | rfl | (unfold eqV; unfold PyData.eqv; rfl))
theorem any_flat {K : PySem.W.Frag} {B B' : Hp} {x : V} {d : PyData} (h : Dat K B' x d) (f : flatD d = true) : ∀ {v : List V} {ds : List PyData}, Dats K B v ds → ds.all flatD = true → inV x v = ds.any fun y => PyData.eqv y d
  | _, _, .nil, _ => rfl
  | _, _, .cons h1 r, g => by
    simp only [List.all_cons, Bool.and_eq_true] at g
    have ih := any_flat h f r g.2
    unfold inV at ih ⊢
    rw [List.any_cons, List.any_cons, ih, eqv_flat h1 h g.1 f]
section
variable {M : En} {C : Addr} {f : Fx} {B : Hp} {st : Sto} {σ : L2.St} {w : Nat → Option V} {H : Hp} {own : Nat → List Addr}
theorem in_ok {x y : V} {dx dy : PyData} {b : Bool} (eB : Ex B H) (hx : HD X.K B H x dx) (hy : HD X.K B H y dy) (e : inD dx dy = some b) (neg : Bool) (Q : VK) (q : Q (.bl (if neg then !b else b)) H) :
    rIn X.K neg x y H Q ∨ (if neg then rNotInD X.K else rInD X.K) x y H Q ∨ rInDc neg x y H Q ∨ rSign neg x y H Q := by
  have hx' := hx.mono (B1 := B) eB
  have hy' := hy.mono (B1 := B) eB
  cases dy with
  | list ys =>
    obtain ⟨p, vy, rfl, a, r⟩ := hy.list eB
    simp only [inD] at e
    split at e
    · rename_i h
      cases e
      rw [Bool.and_eq_true] at h
      refine .inl ⟨p, vy, rfl, .inl a, flat_dat hx' h.1, flats_dat r h.2, ?_⟩
      rw [any_flat hx' h.1 r h.2]
      exact q
    · split at e
      · rename_i h
        cases e
        rw [Bool.and_eq_true] at h
        refine .inr (.inl ?_)
        cases neg with
        | true => exact ⟨dx, ys, hx'.dp (shaped_lay h.1), hy'.dp (shaped_lay h.2), h.1, h.2, q⟩
        | false => exact ⟨dx, ys, hx'.dp (shaped_lay h.1), hy'.dp (shaped_lay h.2), h.1, h.2, q⟩
      · cases e
  | tuple ys =>
    obtain ⟨p, vy, rfl, a, r⟩ := hy.tuple eB
    simp only [inD] at e
    split at e
    · rename_i h
      cases e
      rw [Bool.and_eq_true] at h
      refine .inl ⟨p, vy, rfl, .inr (SqT.of a), flat_dat hx' h.1, flats_dat r h.2, ?_⟩
      rw [any_flat hx' h.1 r h.2]
      exact q
    · cases e
  | dict es =>
    obtain ⟨p, rfl, a⟩ := hy.dict eB
    simp only [inD] at e
    split at e
    · rename_i h
      cases e
      refine .inr (.inr (.inl ?_))
      rcases dc_get eB a hx' h with ⟨x1, y1, g1, g2, _⟩ | ⟨g1, g2⟩
      · rw [g2] at q; exact ⟨p, _, rfl, g1, q⟩
      · rw [g2] at q; exact ⟨p, _, rfl, g1, q⟩
    · cases e
  | str z =>
    cases hy.str
    cases dx with
    | str y =>
      cases hx.str
      simp only [inD] at e
      split at e
      · rename_i h
        cases e
        refine .inr (.inr (.inr ⟨y.cps.getD 0 0, z, ?_, rfl, q⟩))
        obtain ⟨cs⟩ := y
        have h1 : cs.size = 1 := h
        obtain ⟨l⟩ := cs
        match l, h1 with
        | [c], _ => rfl
      · cases e
    | _ => cases e
  | _ => cases e
theorem cmp_ok {op : CmpOp} {x y : V} {dx dy : PyData} {b : Bool} (eB : Ex B H) (hx : HD X.K B H x dx) (hy : HD X.K B H y dy) (e : cmpD op dx dy = some b) (Q : VK) (q : Q (.bl b) H) : rCmp X.K op x y H Q := by
  have hx' := hx.mono (B1 := B) eB
  have hy' := hy.mono (B1 := B) eB
  cases op with
  | Eq =>
    simp only [cmpD] at e
    split at e
    · rename_i h
      cases e
      rw [Bool.and_eq_true] at h
      exact ⟨dx, dy, hx'.dp (shaped_lay h.1), hy'.dp (shaped_lay h.2), h.1, h.2, q⟩
    · cases e
  | NotEq =>
    simp only [cmpD] at e
    split at e
    · rename_i h
      cases e
      rw [Bool.and_eq_true] at h
      exact ⟨dx, dy, hx'.dp (shaped_lay h.1), hy'.dp (shaped_lay h.2), h.1, h.2, q⟩
    · cases e
  | In =>
    have e' : inD dx dy = some b := by cases dx <;> cases dy <;> exact e
    exact in_ok eB hx hy e' false Q q
  | NotIn =>
    have e' : (inD dx dy).map (!·) = some b := by cases dx <;> cases dy <;> exact e
    cases hi : inD dx dy with
    | none => rw [hi] at e'; cases e'
    | some c =>
      rw [hi] at e'
      cases e'
      exact in_ok eB hx hy hi true Q q
  | Is =>
    cases dy with
    | none =>
      cases hy.non
      refine .inl ⟨rfl, ?_⟩
      have e' : b = decide (x = .non) := by
        cases hx' <;> (cases e; rfl)
      rw [← e']
      exact q
    | bool c =>
      cases dx <;> first
        | (cases e; done)
        | (cases hx.bl; cases hy.bl; cases e; exact .inr ⟨_, _, rfl, rfl, q⟩)
    | _ => cases dx <;> cases e
  | IsNot =>
    cases dy with
    | none =>
      cases hy.non
      refine .inl ⟨rfl, ?_⟩
      have e' : b = !decide (x = .non) := by
        cases hx' <;> (cases e; rfl)
      rw [← e']
      exact q
    | bool c =>
      cases dx <;> first
        | (cases e; done)
        | (cases hx.bl; cases hy.bl; cases e; exact .inr ⟨_, _, rfl, rfl, q⟩)
    | _ => cases dx <;> cases e
  | Lt =>
    cases dx <;> cases dy <;> first
      | (cases e; done)
      | (cases hx.int; cases hy.int; cases e; exact ⟨_, _, rfl, rfl, q⟩)
  | LtE =>
    cases dx <;> cases dy <;> first
      | (cases e; done)
      | (cases hx.int; cases hy.int; cases e; exact ⟨_, _, rfl, rfl, q⟩)
  | Gt =>
    cases dx <;> cases dy <;> first
      | (cases e; done)
      | (cases hx.int; cases hy.int; cases e; exact ⟨_, _, rfl, rfl, q⟩)
  | GtE =>
    cases dx <;> cases dy <;> first
      | (cases e; done)
      | (cases hx.int; cases hy.int; cases e; exact ⟨_, _, rfl, rfl, q⟩)
theorem ok_cmp {op : CmpOp} {ta tb : TE} {a b : MO} (ha : OkO X M C ta a) (hb : OkO X M C tb b) : OkE X M C (tOp (rCmp X.K op) ta tb) (cmpE op a b) :=
  ok_two ha hb fun f B st σ w H own x y dx dy r0 st1 F R hx hy e Q q => by
    obtain ⟨d, e1, rfl, rfl⟩ := rb_some e
    exact cmp_ok R.exB hx hy e1 Q (q _ B H own [] (Ex.refl _) R (res_dat (.bl d)))
end
end
end Rb
namespace Rb
open PySem L2
section
variable {X : Cx} {M : En} {C : Addr}
theorem atI_map {xs : List V} {ds : List PyData} {K : PySem.W.Frag} {B : Hp} {i : Int} {d : PyData} (h : Dats K B xs ds) (e : atI ds i = some d) : ∃ v, atI xs i = some v ∧ Dat K B v d := by
  unfold atI at e ⊢
  rw [h.length]
  cases hj : ixN ds.length i with
  | none => rw [hj] at e; cases e
  | some j =>
    rw [hj] at e
    obtain ⟨v, a, b⟩ := h.get (i := j) e
    exact ⟨v, a, b⟩
/-- a[b] -/
theorem ok_ix {ta tb : TE} {a b : MO} (ha : OkO X M C ta a) (hb : OkO X M C tb b) : OkE X M C (fun σ H Q => tOp (rIx X.K) ta tb σ H Q ∨ tDGet ta tb σ H Q) (ixE a b) := by
  intro f B st σ w H own r0 st1 F R e Q q
  unfold ixE two at e
  cases h1 : a M st with
  | none => rw [h1] at e; cases e
  | some z1 =>
    obtain ⟨p, s1⟩ := z1
    rw [h1] at e
    simp only at e
    cases h2 : b M s1 with
    | none => rw [h2] at e; cases e
    | some z2 =>
      obtain ⟨p2, s2⟩ := z2
      rw [h2] at e
      simp only at e
      cases h3 : Rb.peek s2 p with
      | none => rw [h3] at e; cases e
      | some dx =>
        cases h4 : Rb.peek s2 p2 with
        | none => rw [h3, h4] at e; cases e
        | some dy =>
          rw [h3, h4] at e
          simp only at e
          obtain ⟨d, e1, rfl, rfl⟩ := rd_some e
          -- what the two operands give
          have go : ∀ (P : V → V → Hp → VK → Prop), (∀ x y B2 H2 own2, Ex B B2 → Rel f B2 st1 σ w H2 own2 → HD X.K B2 H2 x dx → HD X.K B2 H2 y dy → P x y H2 Q) → ta σ H fun x H1 => tb σ H1 fun y H2 => P x y H2 Q := by
            intro P hP
            refine ha f B st σ w H own p s1 F R h1 _ fun x B1 H1 own1 e1 R1 hx => ?_
            refine hb f B1 s1 σ w H1 own1 p2 st1 F R1 h2 _ fun y B2 H2 own2 e2 R2 hy => ?_
            have kx := hx.mono e2
            rw [← F.K] at kx hy
            have px := R2.peek kx h3
            have py := R2.peek hy h4
            rw [F.K] at px py
            exact hP x y B2 H2 own2 (e1.trans e2) R2 px py
          cases dx with
          | list xs =>
            cases dy <;> first
              | (cases e1; done)
              | (refine .inl (go _ fun x y B2 H2 own2 e2 R2 hx hy => .inl ?_)
                 obtain ⟨p, vx, rfl, s, r⟩ := hx.list R2.exB
                 cases hy.int
                 obtain ⟨v, h5, h6⟩ := atI_map r e1
                 exact ⟨p, vx, _, v, rfl, rfl, s, h5, q v B2 H2 own2 [] e2 R2 (res_dat (by rw [F.K]; exact h6))⟩)
          | tuple xs =>
            cases dy <;> first
              | (cases e1; done)
              | (refine .inl (go _ fun x y B2 H2 own2 e2 R2 hx hy => .inr (.inl ?_))
                 obtain ⟨p, vx, rfl, s, r⟩ := hx.tuple R2.exB
                 cases hy.int
                 obtain ⟨v, h5, h6⟩ := atI_map r e1
                 exact ⟨p, vx, _, v, rfl, rfl, SqT.of s, h5, q v B2 H2 own2 [] e2 R2 (res_dat (by rw [F.K]; exact h6))⟩)
          | str z =>
            cases dy <;> first
              | (cases e1; done)
              | (rename_i i
                 simp only [ixD] at e1
                 split at e1
                 · rename_i hl
                   cases hc : atI z.cps.toList i with
                   | none => rw [hc] at e1; cases e1
                   | some c =>
                     rw [hc] at e1
                     cases e1
                     refine .inl (go _ fun x y B2 H2 own2 e2 R2 hx hy => .inr (.inr ?_))
                     cases hx.str
                     cases hy.int
                     exact ⟨z, i, c, rfl, rfl, Nat.le_trans hl lim_line, hc, q _ B2 H2 own2 [] e2 R2 (res_dat (.str _))⟩
                 · cases e1)
          | dict es =>
            simp only [ixD] at e1
            split at e1
            · rename_i ok
              refine .inr (go (fun x y H2 Q => ∃ a v, x = .ref a ∧ DGet H2 a y (some v) ∧ Q v H2) fun x y B2 H2 own2 e2 R2 hx hy => ?_)
              obtain ⟨p, rfl, s⟩ := hx.dict R2.exB
              rcases dc_get R2.exB s (hy.mono (B1 := B2) R2.exB) ok with ⟨x1, y1, g1, g2, g3⟩ | ⟨g1, g2⟩
              · rw [e1] at g2
                cases g2
                exact ⟨p, x1, rfl, g1, q x1 B2 H2 own2 [] e2 R2 (res_dat (by rw [F.K]; exact g3))⟩
              · rw [e1] at g2; cases g2
            · cases e1
          | none => cases dy <;> cases e1
          | bool _ => cases dy <;> cases e1
          | int _ => cases dy <;> cases e1
/-! ### numbers, truth -/
theorem val_some {m : ME} {st st1 : Sto} {d : PyData} {r : SV} (h : m M st = some (r, st1)) (hf : frz r = some d) : valE m M st = some (d, st1) := by
  unfold valE; rw [h]; simp only [hf]
theorem ok_neg {ta : TE} {a : ME} (ha : OkE X M C ta a) : OkE X M C (tUn (rU fun i => .int (-i)) ta) (negE a) := by
  intro f B st σ w H own r0 st1 F R e Q q
  unfold negE at e
  split at e
  · rename_i i s1 h1
    cases e
    refine ha.val f B st σ w H own _ _ F R h1 _ fun v B1 H1 own1 e1 R1 x => ?_
    cases x.dat_int
    exact ⟨i, rfl, q _ B1 H1 own1 [] e1 R1 (res_dat (.int _))⟩
  · cases e
/-- a truth value -/
def OkB (X : Cx) (M : En) (C : Addr) (t : TE) (m : MT) : Prop := ∀ f B st σ w H own b st1, FxOk X M C f → Rel f B st σ w H own → m M st = some (b, st1) →
  ∀ Q : VK, (∀ B1 H1 own1, Ex B B1 → Rel f B1 st1 σ w H1 own1 → Q (.bl b) H1) → t σ H Q
theorem OkE.bol {ta : TE} {a : ME} (ha : OkE X M C ta a) : OkB X M C ta (bolE a) := by
  intro f B st σ w H own b st1 F R e Q q
  unfold bolE at e
  split at e
  · rename_i c s1 h1
    cases e
    refine ha.val f B st σ w H own _ _ F R h1 _ fun v B1 H1 own1 e1 R1 x => ?_
    cases x.dat_bl
    exact q B1 H1 own1 e1 R1
  · cases e
theorem OkB.exp {ta : TE} {a : MT} (ha : OkB X M C ta a) : OkE X M C ta (blE a) := by
  intro f B st σ w H own r0 st1 F R e Q q
  unfold blE at e
  split at e
  · rename_i c s1 h1
    cases e
    exact ha f B st σ w H own _ _ F R h1 _ fun B1 H1 own1 e1 R1 => q _ B1 H1 own1 [] e1 R1 (res_dat (.bl _))
  · cases e
theorem OkB.tst {ta : TE} {a : MT} (ha : OkB X M C ta a) : OkT X M C (tB ta) a := fun f B st σ w H own b st1 F R e Q q => ha f B st σ w H own b st1 F R e _ fun B1 H1 own1 e1 R1 => ⟨b, rfl, q B1 H1 own1 e1 R1⟩
theorem OkB.tst2 {ta : TE} {a : MT} (ha : OkB X M C ta a) : OkT X M C (tTest ta) a := fun f B st σ w H own b st1 F R e Q q => ha f B st σ w H own b st1 F R e _ fun B1 H1 own1 e1 R1 => ⟨b, rfl, q B1 H1 own1 e1 R1⟩
theorem ok_not {ta : TE} {a : ME} (ha : OkE X M C ta a) : OkE X M C (tNotV ta) (notE a) := by
  intro f B st σ w H own r0 st1 F R e Q q
  unfold notE at e
  split at e
  · rename_i c s1 h1
    cases e
    exact ha.bol f B st σ w H own _ _ F R h1 _ fun B1 H1 own1 e1 R1 => ⟨c, rfl, q _ B1 H1 own1 [] e1 R1 (res_dat (.bl _))⟩
  · cases e
theorem ok_and {ta tb : TE} {a b : ME} (ha : OkE X M C ta a) (hb : OkE X M C tb b) : OkE X M C (tAndV ta tb) (andE a b) := by
  intro f B st σ w H own r0 st1 F R e Q q
  unfold andE at e
  split at e
  · rename_i s1 h1
    refine ha.bol f B st σ w H own _ _ F R h1 _ fun B1 H1 own1 e1 R1 => ⟨true, rfl, ?_⟩
    rw [if_pos rfl]
    exact hb f B1 s1 σ w H1 own1 r0 st1 F R1 e Q fun v B2 H2 own2 ro e2 R2 x => q v B2 H2 own2 ro (e1.trans e2) R2 x
  · rename_i s1 h1
    cases e
    refine ha.bol f B st σ w H own _ _ F R h1 _ fun B1 H1 own1 e1 R1 => ⟨false, rfl, ?_⟩
    rw [if_neg (by simp)]
    exact q _ B1 H1 own1 [] e1 R1 (res_dat (.bl _))
  · cases e
theorem ok_or {ta tb : TE} {a b : ME} (ha : OkE X M C ta a) (hb : OkE X M C tb b) : OkE X M C (tOrV ta tb) (orE a b) := by
  intro f B st σ w H own r0 st1 F R e Q q
  unfold orE at e
  split at e
  · rename_i s1 h1
    cases e
    refine ha.bol f B st σ w H own _ _ F R h1 _ fun B1 H1 own1 e1 R1 => ⟨true, rfl, ?_⟩
    rw [if_pos rfl]
    exact q _ B1 H1 own1 [] e1 R1 (res_dat (.bl _))
  · rename_i s1 h1
    refine ha.bol f B st σ w H own _ _ F R h1 _ fun B1 H1 own1 e1 R1 => ⟨false, rfl, ?_⟩
    rw [if_neg (by simp)]
    exact hb f B1 s1 σ w H1 own1 r0 st1 F R1 e Q fun v B2 H2 own2 ro e2 R2 x => q v B2 H2 own2 ro (e1.trans e2) R2 x
  · cases e
theorem ok_ite {tc : TT} {ta tb : TE} {c : MT} {a b : ME} (hc : OkT X M C tc c) (ha : OkE X M C ta a) (hb : OkE X M C tb b) : OkE X M C (tIf tc ta tb) (iteE c a b) := by
  intro f B st σ w H own r0 st1 F R e Q q
  unfold iteE at e
  split at e
  · rename_i s1 h1
    refine hc f B st σ w H own _ _ F R h1 _ fun B1 H1 own1 e1 R1 => ?_
    rw [if_pos rfl]
    exact ha f B1 s1 σ w H1 own1 r0 st1 F R1 e Q fun v B2 H2 own2 ro e2 R2 x => q v B2 H2 own2 ro (e1.trans e2) R2 x
  · rename_i s1 h1
    refine hc f B st σ w H own _ _ F R h1 _ fun B1 H1 own1 e1 R1 => ?_
    rw [if_neg (by simp)]
    exact hb f B1 s1 σ w H1 own1 r0 st1 F R1 e Q fun v B2 H2 own2 ro e2 R2 x => q v B2 H2 own2 ro (e1.trans e2) R2 x
  · cases e
theorem ok_chn {o1 o2 : CmpOp} {ta tb tc : TE} {a b c : ME} (ha : OkE X M C ta a) (hb : OkE X M C tb b) (hc : OkE X M C tc c) : OkB X M C (tChain (rCmp X.K o1) (rCmp X.K o2) ta tb tc) (chnE o1 o2 a b c) := by
  intro f B st σ w H own k st1 F R e Q q
  unfold chnE at e
  split at e
  · rename_i x s1 h1
    split at e
    · rename_i y s2 h2
      refine ha.val f B st σ w H own _ _ F R h1 _ fun v1 B1 H1 own1 e1 R1 x1 => ?_
      refine hb.val f B1 s1 σ w H1 own1 _ _ F R1 h2 _ fun v2 B2 H2 own2 e2 R2 x2 => ?_
      split at e
      · rename_i h3
        split at e
        · rename_i z s3 h4
          split at e
          · rename_i k' h5
            cases e
            refine cmp_ok R2.exB (.of (x1.mono e2)) (.of x2) h3 _ ⟨true, rfl, ?_⟩
            rw [if_pos rfl]
            refine hc.val f B2 s2 σ w H2 own2 _ _ F R2 h4 _ fun v3 B3 H3 own3 e3 R3 x3 => ?_
            exact cmp_ok R3.exB (.of (x2.mono e3)) (.of x3) h5 _ (q B3 H3 own3 ((e1.trans e2).trans e3) R3)
          · cases e
        · cases e
      · rename_i h3
        cases e
        refine cmp_ok R2.exB (.of (x1.mono e2)) (.of x2) h3 _ ⟨false, rfl, ?_⟩
        rw [if_neg (by simp)]
        exact q B2 H2 own2 (e1.trans e2) R2
      · cases e
    · cases e
  · cases e
/-! ### tests -/
theorem okt_and {ta tb : TT} {a b : MT} (ha : OkT X M C ta a) (hb : OkT X M C tb b) : OkT X M C (tAnd ta tb) (andT a b) := by
  intro f B st σ w H own r0 st1 F R e Q q
  unfold andT at e
  split at e
  · rename_i s1 h1
    refine ha f B st σ w H own _ _ F R h1 _ fun B1 H1 own1 e1 R1 => ?_
    rw [if_pos rfl]
    exact hb f B1 s1 σ w H1 own1 r0 st1 F R1 e Q fun B2 H2 own2 e2 R2 => q B2 H2 own2 (e1.trans e2) R2
  · rename_i s1 h1
    cases e
    refine ha f B st σ w H own _ _ F R h1 _ fun B1 H1 own1 e1 R1 => ?_
    rw [if_neg (by simp)]
    exact q B1 H1 own1 e1 R1
  · cases e
theorem okt_or {ta tb : TT} {a b : MT} (ha : OkT X M C ta a) (hb : OkT X M C tb b) : OkT X M C (tOr ta tb) (orT a b) := by
  intro f B st σ w H own r0 st1 F R e Q q
  unfold orT at e
  split at e
  · rename_i s1 h1
    cases e
    refine ha f B st σ w H own _ _ F R h1 _ fun B1 H1 own1 e1 R1 => ?_
    rw [if_pos rfl]
    exact q B1 H1 own1 e1 R1
  · rename_i s1 h1
    refine ha f B st σ w H own _ _ F R h1 _ fun B1 H1 own1 e1 R1 => ?_
    rw [if_neg (by simp)]
    exact hb f B1 s1 σ w H1 own1 r0 st1 F R1 e Q fun B2 H2 own2 e2 R2 => q B2 H2 own2 (e1.trans e2) R2
  · cases e
theorem okt_not {ta : TT} {a : MT} (ha : OkT X M C ta a) : OkT X M C (tNot ta) (notT a) := by
  intro f B st σ w H own r0 st1 F R e Q q
  unfold notT at e
  split at e
  · rename_i c s1 h1
    cases e
    exact ha f B st σ w H own _ _ F R h1 _ fun B1 H1 own1 e1 R1 => q B1 H1 own1 e1 R1
  · cases e
theorem okt_yes : OkT X M C tYes yesT := by
  intro f B st σ w H own r0 st1 F R e Q q
  cases e
  exact q B H own (Ex.refl _) R
/-! ### rows of values; tuples, lists -/
theorem okv_nil : OkV X M C tNil nilV := by
  intro f B st σ w H own ds st1 F R e Q q
  cases e
  exact q [] B H own (Ex.refl _) R .nil
theorem okv_cons {ta : TE} {tr : TA} {a : ME} {r : MI} (ha : OkE X M C ta a) (hr : OkV X M C tr r) : OkV X M C (tCons ta tr) (consV a r) := by
  intro f B st σ w H own ds st1 F R e Q q
  unfold consV at e
  split at e
  · rename_i d s1 h1
    split at e
    · rename_i dr s2 h2
      cases e
      refine ha.val f B st σ w H own _ _ F R h1 _ fun v B1 H1 own1 e1 R1 x => ?_
      refine hr f B1 s1 σ w H1 own1 _ _ F R1 h2 _ fun vs B2 H2 own2 e2 R2 xs => ?_
      exact q (v :: vs) B2 H2 own2 (e1.trans e2) R2 (.cons (x.mono e2) xs)
    · cases e
  · cases e
theorem oka_nil : OkA X M C tNil nilA := by
  intro f B st σ w H own ds st1 F R e Q q
  cases e
  exact q [] B H own (Ex.refl _) R rfl
theorem oka_cons {ta : TE} {tr : TA} {a : MO} {r : MA} (ha : OkO X M C ta a) (hr : OkA X M C tr r) : OkA X M C (tCons ta tr) (consA a r) := by
  intro f B st σ w H own ds st1 F R e Q q
  unfold consA at e
  split at e
  · rename_i d s1 h1
    split at e
    · rename_i dr s2 h2
      cases e
      refine ha f B st σ w H own _ _ F R h1 _ fun v B1 H1 own1 e1 R1 x => ?_
      refine hr f B1 s1 σ w H1 own1 _ _ F R1 h2 _ fun vs B2 H2 own2 e2 R2 xs => ?_
      exact q (v :: vs) B2 H2 own2 (e1.trans e2) R2 ⟨v, vs, rfl, x.mono e2, xs⟩
    · cases e
  · cases e
theorem ok_tup {ta : TA} {m : MI} (h : OkV X M C ta m) (n : Nat) (hn : ∀ M st ds st1, m M st = some (ds, st1) → ds.length ≤ 10000) : OkE X M C (tTup ta) (tupE m) := by
  intro f B st σ w H own r0 st1 F R e Q q
  unfold tupE at e
  split at e
  · rename_i ds s1 h1
    cases e
    refine h f B st σ w H own _ _ F R h1 _ fun vs B1 H1 own1 e1 R1 xs => ⟨?_, fun p hp => ?_⟩
    · rw [xs.length, sizeLine_eq]
      exact Nat.le_trans (hn _ _ _ _ h1) (by decide)
    · obtain ⟨B2, e2, R2, hD⟩ := R1.res_tup hp (by rw [F.K]; exact xs)
      exact q _ B2 _ own1 [] (e1.trans e2) R2 (res_dat hD)
  · cases e
theorem ok_lst {ta : TA} {m : MI} (h : OkV X M C ta m) (n : Nat) (hn : ∀ M st ds st1, m M st = some (ds, st1) → ds.length ≤ 10000) : OkE X M C (tLst ta) (lstE m) := by
  intro f B st σ w H own r0 st1 F R e Q q
  unfold lstE at e
  split at e
  · rename_i ds s1 h1
    cases e
    refine h f B st σ w H own _ _ F R h1 _ fun vs B1 H1 own1 e1 R1 xs => ⟨?_, fun p hp => ?_⟩
    · rw [xs.length, sizeLine_eq]
      exact Nat.le_trans (hn _ _ _ _ h1) (by decide)
    · obtain ⟨R2, x2⟩ := R1.res_lst hp (by rw [F.K]; exact xs)
      exact q _ B1 _ own1 [p] e1 R2 x2
  · cases e
theorem ok_dic : OkE X M C tDNewK dicE := by
  intro f B st σ w H own r0 st1 F R e Q q
  cases e
  intro p hp
  exact q _ B _ own [p] (Ex.refl _) (R.alloc hp) ⟨⟨p, rfl, rfl, .inl ⟨[], upd_same, .nil⟩⟩, by simp, fun a ha => by
    have e : a = p := by simpa using ha
    subst e
    exact ⟨R.freeG hp, R.freeB hp, R.ne hp⟩⟩
end
end Rb
namespace Rb
open PySem L2
/-! ### what a def promises -/
/-- the arguments as slots -/
structure ArgR (K : PySem.W.Frag) (C : Addr) (B H : Hp) (args : List SV) (vs : List V) (own : Nat → List Addr) : Prop where
  len : vs.length = args.length
  slot : ∀ i, SlotRel K C none B H (gt args i) vs[i]? (own i)
  sep : ∀ i j a, a ∈ own i → a ∈ own j → i = j
  nd : ∀ i, (own i).Nodup
  out : ∀ i a, a ∈ own i → B a = none
/-- behind a call -/
structure AftR (K : PySem.W.Frag) (C : Addr) (B H : Hp) (args : List SV) (vs : List V) (own : Nat → List Addr) (r : SV) (args' : List SV) (v : V) (B' H' : Hp) (own' : Nat → List Addr) (ro : List Addr) : Prop where
  exB : Ex B B'
  exH : Ex B' H'
  grw : ∀ a, B' a ≠ none → B a ≠ none ∨ H a = none ∨ ∃ i, a ∈ own i
  keep : ∀ a o, H a = some o → (∀ i, a ∉ own i) ∨ isIns o = true → H' a = some o
  slot : ∀ i, (gt args i).own = true → same (gt args i) (gt args' i) = true ∧ SlotRel K C none B' H' (gt args' i) vs[i]? (own' i)
  none : ∀ i, (gt args i).own = false → own' i = []
  sep : ∀ i j a, a ∈ own' i → a ∈ own' j → i = j
  nd : ∀ i, (own' i).Nodup
  out : ∀ i a, a ∈ own' i → B' a = Option.none ∧ (H a = Option.none ∨ ∃ j, a ∈ own j)
  res : SlotRel K C Option.none B' H' r (some v) ro
  resN : ro.Nodup
  resO : ∀ a ∈ ro, B' a = Option.none ∧ (H a = Option.none ∨ ∃ j, a ∈ own j) ∧ ∀ i, a ∉ own' i
abbrev FEnv := Str → List SV → Option (SV × List SV)
def PrF (K : PySem.W.Frag) (C : Addr) (F : FEnv) (g : Str) : Sp := fun vs H Q _ => ∃ B args own r args', Ex B H ∧ ArgR K C B H args vs own ∧ F g args = some (r, args') ∧
  ∀ v B' H' own' ro, AftR K C B H args vs own r args' v B' H' own' ro → Q v H'
theorem gt_cons0 (s : SV) (r : List SV) : gt (s :: r) 0 = s := rfl
theorem gt_consS (s : SV) (r : List SV) (i : Nat) : gt (s :: r) (i + 1) = gt r i := by unfold gt; simp
theorem gt_nil (i : Nat) : gt [] i = .emp := by unfold gt; simp
theorem same_own {a b : SV} (h : same a b = true) : a.own = true ∧ b.own = true := by
  cases a <;> cases b <;> first | exact ⟨rfl, rfl⟩ | cases h
theorem same_slf {a b : SV} (h : same a b = true) : b ≠ .slf ∧ b ≠ .emp := by
  cases a <;> cases b <;> first | (cases h; done) | exact ⟨by simp, by simp⟩
theorem SlotRel.sf {K : PySem.W.Frag} {C : Addr} {sf sf' : Option (Addr × Addr)} {B H : Hp} {s : SV} {v : Option V} {o : List Addr} (x : SlotRel K C sf B H s v o) (h : s ≠ .slf) : SlotRel K C sf' B H s v o := by
  cases s <;> first | exact x | exact absurd rfl h
section
variable {M : En}
theorem argsOf_cons {st : Sto} {p : Pd} {r : List Pd} {ss : List SV} (h : argsOf M st (p :: r) = some ss) : ∃ s sr, ss = s :: sr ∧ argOf M st p = some s ∧ argsOf M st r = some sr := by
  unfold argsOf at h
  cases h1 : argOf M st p with
  | none => rw [h1] at h; cases h
  | some s =>
    cases h2 : argsOf M st r with
    | none => rw [h1, h2] at h; cases h
    | some sr =>
      rw [h1, h2] at h
      cases h
      exact ⟨s, sr, rfl, rfl, rfl⟩
theorem argOf_pl {st : Sto} {i : Nat} {s : SV} (h : argOf M st (.pl i) = some s) : s = gt st i ∧ s ≠ .emp ∧ s ≠ .slf := by
  unfold argOf at h
  simp only at h
  split at h
  · cases h
  · cases h
  · rename_i h1 h2
    cases h
    exact ⟨rfl, h1, h2⟩
theorem argsOf_get : ∀ {ps : List Pd} {st : Sto} {ss : List SV} {k i : Nat}, argsOf M st ps = some ss → ps[k]? = some (.pl i) → gt ss k = gt st i ∧ gt st i ≠ .emp ∧ gt st i ≠ .slf
  | [], _, _, _, _, _, h => by simp at h
  | p :: r, st, ss, k, i, h, hk => by
    obtain ⟨s, sr, rfl, h1, h2⟩ := argsOf_cons h
    cases k with
    | zero =>
      have e : p = .pl i := by simpa using hk
      subst e
      obtain ⟨rfl, h3, h4⟩ := argOf_pl h1
      exact ⟨rfl, h3, h4⟩
    | succ k =>
      rw [gt_consS]
      exact argsOf_get h2 (by simpa using hk)
theorem argsOf_da : ∀ {ps : List Pd} {st : Sto} {ss : List SV} {k : Nat} {d : PyData}, argsOf M st ps = some ss → ps[k]? = some (.da d) → gt ss k = .dat d
  | [], _, _, _, _, _, h => by simp at h
  | p :: r, st, ss, k, i, h, hk => by
    obtain ⟨s, sr, rfl, h1, h2⟩ := argsOf_cons h
    cases k with
    | zero =>
      have e : p = .da i := by simpa using hk
      subst e
      cases h1
      rfl
    | succ k =>
      rw [gt_consS]
      exact argsOf_da h2 (by simpa using hk)
theorem argsOf_len : ∀ {ps : List Pd} {st : Sto} {ss : List SV}, argsOf M st ps = some ss → ss.length = ps.length
  | [], _, _, h => by cases h; rfl
  | p :: r, st, ss, h => by
    obtain ⟨s, sr, rfl, h1, h2⟩ := argsOf_cons h
    rw [List.length_cons, List.length_cons, argsOf_len h2]
theorem mem_ownIx {st : Sto} {i : Nat} : ∀ {ps : List Pd}, i ∈ ownIx st ps ↔ (gt st i).own = true ∧ ∃ k : Nat, ps[k]? = some (.pl i)
  | [] => by simp [ownIx]
  | .da d :: r => by
    show i ∈ ownIx st r ↔ _
    rw [mem_ownIx (ps := r)]
    constructor
    · rintro ⟨a, k, h⟩
      exact ⟨a, k + 1, by simpa using h⟩
    · rintro ⟨a, k, h⟩
      cases k with
      | zero => simp at h
      | succ k => exact ⟨a, k, by simpa using h⟩
  | .pl j :: r => by
    show i ∈ (if (gt st j).own = true then j :: ownIx st r else ownIx st r) ↔ _
    constructor
    · intro h
      split at h
      · rename_i hj
        rcases List.mem_cons.mp h with rfl | h
        · exact ⟨hj, 0, rfl⟩
        · obtain ⟨a, k, q⟩ := (mem_ownIx (ps := r)).mp h
          exact ⟨a, k + 1, by simpa using q⟩
      · obtain ⟨a, k, q⟩ := (mem_ownIx (ps := r)).mp h
        exact ⟨a, k + 1, by simpa using q⟩
    · rintro ⟨a, k, h⟩
      cases k with
      | zero =>
        have e : j = i := by simpa using h
        subst e
        rw [if_pos a]
        simp
      | succ k =>
        have m := (mem_ownIx (ps := r)).mpr ⟨a, k, by simpa using h⟩
        split
        · exact List.mem_cons.mpr (.inr m)
        · exact m
theorem ownIx_nd_tail {st : Sto} {p : Pd} {r : List Pd} (h : (ownIx st (p :: r)).Nodup) : (ownIx st r).Nodup := by
  cases p with
  | da d => exact h
  | pl i =>
    unfold ownIx at h
    split at h
    · exact (List.nodup_cons.mp h).2
    · exact h
theorem ownIx_uniq {st : Sto} {i : Nat} (ho : (gt st i).own = true) : ∀ {ps : List Pd} {k k' : Nat}, (ownIx st ps).Nodup → ps[k]? = some (.pl i) → ps[k']? = some (.pl i) → k = k'
  | [], _, _, _, h, _ => by simp at h
  | p :: r, 0, 0, _, _, _ => rfl
  | p :: r, k + 1, k' + 1, h, h1, h2 => congrArg (· + 1) (ownIx_uniq ho (ownIx_nd_tail h) (by simpa using h1) (by simpa using h2))
  | p :: r, 0, k' + 1, h, h1, h2 => by
    have e : p = .pl i := by simpa using h1
    subst e
    unfold ownIx at h
    rw [if_pos ho] at h
    exact absurd (mem_ownIx.mpr ⟨ho, k', by simpa using h2⟩) (List.nodup_cons.mp h).1
  | p :: r, k + 1, 0, h, h1, h2 => by
    have e : p = .pl i := by simpa using h2
    subst e
    unfold ownIx at h
    rw [if_pos ho] at h
    exact absurd (mem_ownIx.mpr ⟨ho, k, by simpa using h1⟩) (List.nodup_cons.mp h).1
theorem ownIx_set {st : Sto} {i : Nat} {s : SV} (hs : s.own = (gt st i).own) : ∀ ps : List Pd, ownIx (st.set i s) ps = ownIx st ps
  | [] => rfl
  | .da d :: r => ownIx_set hs r
  | .pl j :: r => by
    have e : (gt (st.set i s) j).own = (gt st j).own := by
      rw [gt_set]
      split
      · rename_i h
        rw [h.1, hs]
      · rfl
    unfold ownIx
    rw [e, ownIx_set hs r]
theorem putB_len : ∀ {ps : List Pd} {st st' : Sto} {ss : List SV}, putB st ps ss = some st' → st'.length = st.length
  | [], _, _, _, h => by unfold putB at h; cases h; rfl
  | .da d :: r, st, st', [], h => by cases h
  | .pl i :: r, st, st', [], h => by cases h
  | .da d :: r, st, st', s :: ss, h => putB_len (ps := r) h
  | .pl i :: r, st, st', s :: ss, h => by
    unfold putB at h
    split at h
    · split at h
      · rw [putB_len h, List.length_set]
      · cases h
    · exact putB_len h
theorem putB_get : ∀ {ps : List Pd} {st st' : Sto} {ss : List SV}, putB st ps ss = some st' → (ownIx st ps).Nodup → ∀ j,
    (∃ k : Nat, ps[k]? = some (.pl j) ∧ (gt st j).own = true ∧ same (gt st j) (gt ss k) = true ∧ gt st' j = gt ss k) ∨ (gt st' j = gt st j ∧ ∀ k : Nat, ps[k]? = some (.pl j) → (gt st j).own = false)
  | [], st, st', ss, h, _, j => by
    unfold putB at h
    cases h
    exact .inr ⟨rfl, fun k hk => by simp at hk⟩
  | .da d :: r, st, st', [], h, _, _ => by cases h
  | .pl i :: r, st, st', [], h, _, _ => by cases h
  | .da d :: r, st, st', s :: ss, h, nd, j => by
    rcases putB_get (ps := r) (ss := ss) h nd j with ⟨k, a, b, c, e⟩ | ⟨a, b⟩
    · exact .inl ⟨k + 1, by simpa using a, b, by rw [gt_consS]; exact c, by rw [gt_consS]; exact e⟩
    · refine .inr ⟨a, fun k hk => ?_⟩
      cases k with
      | zero => simp at hk
      | succ k => exact b k (by simpa using hk)
  | .pl i :: r, st, st', s :: ss, h, nd, j => by
    unfold putB at h
    split at h
    · rename_i ho
      split at h
      · rename_i hs
        have so := same_own hs
        have nd' : (ownIx (st.set i s) r).Nodup := by rw [ownIx_set (by rw [so.2, ho])]; exact ownIx_nd_tail nd
        have hni : ∀ k : Nat, r[k]? ≠ some (.pl i) := fun k hk => by
          unfold ownIx at nd
          rw [if_pos ho] at nd
          exact (List.nodup_cons.mp nd).1 (mem_ownIx.mpr ⟨ho, k, hk⟩)
        have hl : i < st.length := gt_lt fun z => by rw [z] at ho; cases ho
        rcases putB_get (ps := r) (ss := ss) h nd' j with ⟨k, a, b, c, e⟩ | ⟨a, b⟩
        · have hj : j ≠ i := fun z => hni k (z ▸ a)
          rw [gt_set_ne hj] at b c
          exact .inl ⟨k + 1, by simpa using a, b, by rw [gt_consS]; exact c, by rw [gt_consS]; exact e⟩
        · by_cases hj : j = i
          · subst hj
            rw [gt_set_self hl] at a
            exact .inl ⟨0, rfl, ho, hs, a⟩
          · rw [gt_set_ne hj] at a
            refine .inr ⟨a, fun k hk => ?_⟩
            cases k with
            | zero =>
              have e : i = j := by simpa using hk
              exact absurd e.symm hj
            | succ k =>
              have := b k (by simpa using hk)
              rw [gt_set_ne hj] at this
              exact this
      · cases h
    · rename_i ho
      rcases putB_get (ps := r) (ss := ss) h (ownIx_nd_tail nd) j with ⟨k, a, b, c, e⟩ | ⟨a, b⟩
      · exact .inl ⟨k + 1, by simpa using a, b, by rw [gt_consS]; exact c, by rw [gt_consS]; exact e⟩
      · refine .inr ⟨a, fun k hk => ?_⟩
        cases k with
        | zero =>
          have e : i = j := by simpa using hk
          subst e
          simpa using ho
        | succ k => exact b k (by simpa using hk)
end
/-- the places that go with the arguments -/
def ownA (own : Nat → List Addr) (ps : List Pd) (k : Nat) : List Addr := match ps[k]? with
  | some (.pl i) => own i
  | _ => []
theorem PdsRel.get {K : PySem.W.Frag} {w : Nat → Option V} {B : Hp} : ∀ {ps : List Pd} {vs : List V}, PdsRel K w B ps vs → ∀ (k : Nat) p, ps[k]? = some p → ∃ v, vs[k]? = some v ∧ PdRel K w B p v
  | [], _, _, k, p, h => by simp at h
  | q :: r, _, h, k, p, hk => by
    obtain ⟨v, vr, rfl, a, b⟩ := h
    cases k with
    | zero =>
      have e : q = p := by simpa using hk
      subst e
      exact ⟨v, rfl, a⟩
    | succ k =>
      obtain ⟨x, c, d⟩ := PdsRel.get b k p (by simpa using hk)
      exact ⟨x, by simpa using c, d⟩
theorem PdsRel.len {K : PySem.W.Frag} {w : Nat → Option V} {B : Hp} : ∀ {ps : List Pd} {vs : List V}, PdsRel K w B ps vs → vs.length = ps.length
  | [], _, h => by rw [show _ = [] from h]; rfl
  | q :: r, _, h => by
    obtain ⟨v, vr, rfl, a, b⟩ := h
    rw [List.length_cons, List.length_cons, PdsRel.len b]
section
variable {M : En} {f : Fx} {B : Hp} {st : Sto} {σ : L2.St} {w : Nat → Option V} {H : Hp} {own : Nat → List Addr}
theorem Rel.args (R : Rel f B st σ w H own) {ps : List Pd} {vs : List V} {ss : List SV} (hp : PdsRel f.K w B ps vs) (ha : argsOf M st ps = some ss) (nd : (ownIx st ps).Nodup) : ArgR f.K f.C B H ss vs (ownA own ps) := by
  have mem : ∀ k a, a ∈ ownA own ps k → ∃ i, ps[k]? = some (.pl i) ∧ a ∈ own i := fun k a h => by
    unfold ownA at h
    split at h
    · rename_i i hi
      exact ⟨i, hi, h⟩
    · cases h
  have ow : ∀ i a, a ∈ own i → (gt st i).own = true := fun i a h => by
    cases e : (gt st i).own with
    | true => rfl
    | false => rw [(R.slot i).notOwn e] at h; cases h
  refine ⟨by rw [hp.len, argsOf_len ha], fun k => ?_, fun k k' a h1 h2 => ?_, fun k => ?_, fun k a h => ?_⟩
  · cases hk : ps[k]? with
    | none =>
      have e1 : ownA own ps k = [] := by unfold ownA; rw [hk]
      have hl : ps.length ≤ k := List.getElem?_eq_none_iff.mp hk
      have e2 : gt ss k = .emp := by
        unfold gt
        rw [List.getD_eq_getElem?_getD, List.getElem?_eq_none (by rw [argsOf_len ha]; exact hl)]
        rfl
      rw [e1, e2]
      exact rfl
    | some p =>
      obtain ⟨v, hv, q⟩ := hp.get k p hk
      cases p with
      | da d =>
        have e1 : ownA own ps k = [] := by unfold ownA; rw [hk]
        rw [e1, argsOf_da ha hk, hv]
        exact ⟨rfl, v, rfl, q⟩
      | pl i =>
        have e1 : ownA own ps k = own i := by unfold ownA; rw [hk]
        obtain ⟨e2, n1, n2⟩ := argsOf_get ha hk
        rw [e1, e2, hv]
        have q : w i = some v := q
        rw [← q]
        exact (R.slot i).sf n2
  · obtain ⟨i, hi, a1⟩ := mem k a h1
    obtain ⟨j, hj, a2⟩ := mem k' a h2
    have e := R.sep i j a a1 a2
    subst e
    exact ownIx_uniq (ow i a a1) nd hi hj
  · unfold ownA
    split
    · exact R.nd _
    · simp
  · obtain ⟨i, hi, a1⟩ := mem k a h
    exact (R.out i a a1).2
/-- the state behind a call -/
theorem Rel.after (R : Rel f B st σ w H own) {ps : List Pd} {vs : List V} {ss ss' : List SV} {st' : Sto} {r : SV} {v : V} {B' H' : Hp} {own' : Nat → List Addr} {ro : List Addr} (hp : PdsRel f.K w B ps vs) (ha : argsOf M st ps = some ss)
    (nd : (ownIx st ps).Nodup) (hb : putB st ps ss' = some st') (A : AftR f.K f.C B H ss vs (ownA own ps) r ss' v B' H' own' ro) : ∃ own1, Ex B B' ∧ Rel f B' st' σ w H' own1 ∧ Res f B' H' own1 r v ro := by
  have get := putB_get hb nd
  have mem : ∀ k a, a ∈ ownA own ps k → ∃ i, ps[k]? = some (.pl i) ∧ a ∈ own i := fun k a h => by
    unfold ownA at h
    split at h
    · rename_i i hi
      exact ⟨i, hi, h⟩
    · cases h
  have ow : ∀ i a, a ∈ own i → (gt st i).own = true := fun i a h => by
    cases e : (gt st i).own with
    | true => rfl
    | false => rw [(R.slot i).notOwn e] at h; cases h
  -- where slot j was handed on
  let own1 : Nat → List Addr := fun j => match (List.range ps.length).find? (fun k : Nat => match ps[k]? with | some (.pl i) => decide (i = j) && (gt st j).own | _ => false) with
    | some k => own' k
    | none => own j
  have passed : ∀ (j k : Nat), ps[k]? = some (.pl j) → (gt st j).own = true → own1 j = own' k := fun j k hk ho => by
    show (match (List.range ps.length).find? _ with | some k => own' k | none => own j) = _
    cases hf : (List.range ps.length).find? (fun k : Nat => match ps[k]? with | some (.pl i) => decide (i = j) && (gt st j).own | _ => false) with
    | none =>
      have hl : k < ps.length := (List.getElem?_eq_some_iff.mp hk).1
      have := List.find?_eq_none.mp hf k (List.mem_range.mpr hl)
      rw [hk] at this
      simp [ho] at this
    | some k' =>
      have h1 := List.find?_some hf
      simp only at h1 ⊢
      split at h1
      · rename_i i hi
        simp only [Bool.and_eq_true, decide_eq_true_eq] at h1
        rw [h1.1] at hi
        rw [ownIx_uniq ho nd hi hk]
      · cases h1
  have rest : ∀ j, (∀ k : Nat, ps[k]? = some (.pl j) → (gt st j).own = false) → own1 j = own j := fun j h => by
    show (match (List.range ps.length).find? _ with | some k => own' k | none => own j) = _
    cases hf : (List.range ps.length).find? (fun k : Nat => match ps[k]? with | some (.pl i) => decide (i = j) && (gt st j).own | _ => false) with
    | none => rfl
    | some k' =>
      have h1 := List.find?_some hf
      simp only at h1 ⊢
      split at h1
      · rename_i i hi
        simp only [Bool.and_eq_true, decide_eq_true_eq] at h1
        rw [h1.1] at hi
        rw [h k' hi] at h1
        cases h1.2
      · cases h1
  have keepO : ∀ j, (∀ k : Nat, ps[k]? = some (.pl j) → (gt st j).own = false) → ∀ a ∈ own j, H' a = H a ∧ ∀ k, a ∉ ownA own ps k := fun j hj a haj => by
    have hn : ∀ k, a ∉ ownA own ps k := fun k hk => by
      obtain ⟨i, hi, a1⟩ := mem k a hk
      have e := R.sep i j a a1 haj
      subst e
      have := hj k hi
      rw [ow i a a1] at this
      cases this
    obtain ⟨o, ho⟩ := R.there j a haj
    exact ⟨by rw [ho]; exact A.keep a o ho (.inl hn), hn⟩
  have e0 : Ex B B' := A.exB
  have resA : ∀ a, (H a = none ∨ ∃ j, a ∈ ownA own ps j) → f.G a = none := fun a h => by
    rcases h with h | ⟨k, h⟩
    · exact R.freeG h
    · obtain ⟨i, _, a1⟩ := mem k a h
      exact (R.out i a a1).1
  -- places of a slot, old or handed back
  have pl : ∀ j, (∃ k : Nat, ps[k]? = some (.pl j) ∧ (gt st j).own = true ∧ same (gt st j) (gt ss' k) = true ∧ gt st' j = gt ss' k ∧ own1 j = own' k) ∨ (gt st' j = gt st j ∧ (∀ k : Nat, ps[k]? = some (.pl j) → (gt st j).own = false) ∧ own1 j = own j) := fun j => by
    rcases get j with ⟨k, a, b, c, d⟩ | ⟨a, b⟩
    · exact .inl ⟨k, a, b, c, d, passed j k a b⟩
    · exact .inr ⟨a, b, rest j b⟩
  have sepX : ∀ i j a, (∃ k : Nat, ps[k]? = some (.pl i) ∧ (gt st i).own = true ∧ same (gt st i) (gt ss' k) = true ∧ gt st' i = gt ss' k ∧ own1 i = own' k) →
      (gt st' j = gt st j ∧ (∀ k : Nat, ps[k]? = some (.pl j) → (gt st j).own = false) ∧ own1 j = own j) → a ∈ own1 i → a ∈ own1 j → False := fun i j a ⟨k, q1, q2, q3, q4, q5⟩ ⟨p1, p2, p3⟩ h1 h2 => by
    rw [q5] at h1
    rw [p3] at h2
    obtain ⟨_, hn⟩ := keepO j p2 a h2
    rcases (A.out k a h1).2 with z | ⟨k', z⟩
    · obtain ⟨o, ho⟩ := R.there j a h2
      rw [z] at ho; cases ho
    · exact hn k' z
  refine ⟨own1, e0, ⟨fun a o q => ?_, A.exH, R.ex0.trans e0, fun a o q z => ?_, fun a q => ?_, fun j => ?_, fun i j a h1 h2 => ?_, fun j => ?_, fun j a h => ?_, fun j x q => ?_, R.len, R.wv, R.npn, fun p dx q => ?_, ?_⟩, ?_⟩
  · exact A.keep a o (R.exG a o q) (.inl fun k hk => by
      obtain ⟨i, _, a1⟩ := mem k a hk
      rw [(R.out i a a1).1] at q; cases q)
  · exact A.keep a o (R.exI a o q z) (.inr z)
  · rcases A.grw a q with z | z
    · exact R.grw a z
    · exact .inr (resA a z)
  · rcases pl j with ⟨k, q1, q2, q3, q4, q5⟩ | ⟨p1, p2, p3⟩
    · rw [q4, q5]
      obtain ⟨e2, _, _⟩ := argsOf_get ha q1
      obtain ⟨_, x⟩ := A.slot k (by rw [e2]; exact q2)
      obtain ⟨v1, hv, hw⟩ := hp.get k _ q1
      rw [hv] at x
      have hw : w j = some v1 := hw
      rw [hw]
      exact x.sf (same_slf q3).1
    · rw [p1, p3]
      exact (R.slot j).mono e0 fun a ha => (keepO j p2 a ha).1
  · rcases pl i with P | P
    · rcases pl j with P' | P'
      · obtain ⟨k, q1, q2, _, _, q5⟩ := P
        obtain ⟨k', q1', q2', _, _, q5'⟩ := P'
        rw [q5] at h1
        rw [q5'] at h2
        have e := A.sep k k' a h1 h2
        subst e
        rw [q1] at q1'
        cases q1'
        rfl
      · exact (sepX i j a P P' h1 h2).elim
    · rcases pl j with P' | P'
      · exact (sepX j i a P' P h2 h1).elim
      · rw [P.2.2] at h1
        rw [P'.2.2] at h2
        exact R.sep i j a h1 h2
  · rcases pl j with ⟨k, q1, q2, q3, q4, q5⟩ | ⟨p1, p2, p3⟩
    · rw [q5]; exact A.nd k
    · rw [p3]; exact R.nd j
  · rcases pl j with ⟨k, q1, q2, q3, q4, q5⟩ | ⟨p1, p2, p3⟩
    · rw [q5] at h
      obtain ⟨a1, a2⟩ := A.out k a h
      exact ⟨resA a a2, a1⟩
    · rw [p3] at h
      obtain ⟨a1, a2⟩ := R.out j a h
      refine ⟨a1, ?_⟩
      cases z : B' a with
      | none => rfl
      | some o =>
        rcases A.grw a (by rw [z]; simp) with q | q | ⟨k, q⟩
        · exact absurd a2 q
        · obtain ⟨o', ho⟩ := R.there j a h
          rw [q] at ho; cases ho
        · exact absurd q ((keepO j p2 a h).2 k)
  · obtain ⟨a1, a2, a3⟩ := R.par j x q
    refine ⟨a1, a2, ?_⟩
    rcases pl j with ⟨k, q1, q2, q3, q4, q5⟩ | ⟨p1, p2, p3⟩
    · rw [q4]; exact (same_own q3).2
    · rw [p1]; exact a3
  · obtain ⟨a1, a2, v1, v2, a3, a4, a5⟩ := R.sfv p dx q
    refine ⟨a1, ?_, v1, v2, a3, a4, A.keep p _ a5 (.inr rfl)⟩
    rcases pl 0 with ⟨k, q1, q2, q3, q4, q5⟩ | ⟨p1, p2, p3⟩
    · obtain ⟨_, _, n⟩ := argsOf_get ha q1
      exact absurd a2 n
    · rw [p1]; exact a2
  · rw [putB_len hb]; exact R.slen
  · refine ⟨A.res, A.resN, fun a ha => ?_⟩
    obtain ⟨a1, a2, a3⟩ := A.resO a ha
    refine ⟨resA a a2, a1, fun j hj => ?_⟩
    rcases pl j with ⟨k, q1, q2, q3, q4, q5⟩ | ⟨p1, p2, p3⟩
    · rw [q5] at hj; exact a3 k hj
    · rw [p3] at hj
      obtain ⟨_, hn⟩ := keepO j p2 a hj
      rcases a2 with z | ⟨k, z⟩
      · obtain ⟨o, ho⟩ := R.there j a hj
        rw [z] at ho; cases ho
      · exact hn k z
end
section
variable {X : Cx} {M : En} {C : Addr}
theorem callF_ok {g : Str} {f : Fx} {B : Hp} {st st1 : Sto} {σ : L2.St} {w : Nat → Option V} {H : Hp} {own : Nat → List Addr} {ps : List Pd} {vs : List V} {r : SV} (F : FxOk X M C f) (R : Rel f B st σ w H own) (hp : PdsRel X.K w B ps vs) (e : callF M g st ps = some (r, st1)) (Q : VK) (E : XK)
    (q : ∀ v B1 H1 own1 ro, Ex B B1 → Rel f B1 st1 σ w H1 own1 → Res f B1 H1 own1 r v ro → Q v H1) : PrF X.K C M.F g vs H Q E := by
  unfold callF at e
  split at e
  · rename_i ss h1
    split at e
    · rename_i nd
      split at e
      · rename_i r' ss' h2
        split at e
        · rename_i st' h3
          cases e
          rw [← F.K] at hp
          have A := R.args hp h1 nd
          rw [F.K, F.C] at A
          refine ⟨B, ss, _, r, ss', R.exB, A, h2, fun v B' H' own' ro A' => ?_⟩
          rw [← F.K, ← F.C] at A'
          obtain ⟨own1, e1, R1, x⟩ := R.after hp h1 nd h3 A'
          exact q v B' H' own1 ro e1 R1 x
        · cases e
      · cases e
    · cases e
  · cases e
theorem ok_call {g : Str} {ta : TA} {as : MA} (ha : OkA X M C ta as) : OkE X M C (tCall (PrF X.K C M.F g) [] E0 ta) (callE g as) := by
  intro f B st σ w H own r st1 F R e Q q
  unfold callE at e
  split at e
  · rename_i ps s1 h1
    refine ha f B st σ w H own ps s1 F R h1 _ fun vs B1 H1 own1 e1 R1 hp => ?_
    rw [List.append_nil]
    exact callF_ok F R1 hp e Q _ fun v B2 H2 own2 ro e2 R2 x => q v B2 H2 own2 ro (e1.trans e2) R2 x
  · cases e
/-- a method of an object that stands in a slot -/
theorem ok_meth {i : Nat} {m g : Str} {te : TE} {ta : TA} {as : MA} (ht : ∀ (f : Fx) B st σ w H own, FxOk X M C f → Rel f B st σ w H own → ∀ v, w i = some v → ∀ Q : VK, Q v H → te σ H Q) (ha : OkA X M C ta as)
    (hm : ∀ v1 v2, (flds v1 v2).lookup m = none) : OkE X M C (tMeth C m (PrF X.K C M.F g) [] E0 te ta) (methE i g as) := by
  intro f B st σ w H own r st1 F R e Q q
  unfold methE at e
  split at e
  · rename_i d ds h0
    split at e
    · rename_i ps s1 h1
      split at e
      · rename_i d' ds' h2
        have z := R.slot i
        rw [h0] at z
        obtain ⟨p, dx, l, v1, xs, z1, z2, z3, z4⟩ := z
        refine ht f B st σ w H own F R _ z1 _ ⟨p, dx, _, rfl, by rw [← F.C]; exact z3, hm _ _, ?_⟩
        refine ha f B st σ w H own ps s1 F R h1 _ fun vs B1 H1 own1 e1 R1 hp => ?_
        rw [List.append_nil]
        exact callF_ok (ps := .pl i :: ps) F R1 ⟨_, vs, rfl, z1, hp⟩ e Q _ fun v B2 H2 own2 ro e2 R2 x => q v B2 H2 own2 ro (e1.trans e2) R2 x
      · cases e
    · cases e
  · cases e
end
end Rb
namespace Rb
open PySem L2
/-! ### assignment -/
def upW (w : Nat → Option V) (i : Nat) (v : Option V) : Nat → Option V := fun j => if j = i then v else w j
section
variable {f : Fx} {B : Hp} {st : Sto} {σ : L2.St} {w : Nat → Option V} {H : Hp} {own : Nat → List Addr}
/-- slot i (one of the def's names) takes another value -/
theorem Rel.assign (R : Rel f B st σ w H own) {i : Nat} {r : SV} {v : Option V} {ro : List Addr} (hi : i < f.n) (hp : ¬ (i < f.np ∧ (gt st i).own = true)) (hr : r ≠ .slf) (x : SlotRel f.K f.C f.sf B H r v ro) (nd : ro.Nodup)
    (hout : ∀ a ∈ ro, f.G a = none ∧ B a = none ∧ ∀ j, j ≠ i → a ∉ own j) : Rel f B (st.set i r) (σ.set i v) (upW w i v) H (fun j => if j = i then ro else own j) := by
  have hl : i < st.length := by rw [R.slen]; split <;> omega
  have n0 : ∀ p dx, f.sf = some (p, dx) → i ≠ 0 := fun p dx q z => by
    obtain ⟨a, b, _⟩ := R.sfv p dx q
    subst z
    exact hp ⟨a, by rw [b]; rfl⟩
  have npv : f.pv i = none := by
    cases z : f.pv i with
    | none => rfl
    | some u =>
      obtain ⟨a, _, c⟩ := R.par i u z
      exact absurd ⟨a, c⟩ hp
  refine { R with slot := fun j => ?_, sep := fun j k a ha hb => ?_, nd := fun j => ?_, out := fun j a ha => ?_, par := fun j u q => ?_, len := by rw [List.length_set]; exact R.len, wv := fun j hj => ?_, sfv := fun p dx q => ?_, slen := by rw [List.length_set]; exact R.slen }
  · by_cases h : j = i
    · subst h; rw [if_pos rfl, gt_set_self hl]; unfold upW; rw [if_pos rfl]; exact x
    · rw [if_neg h, gt_set_ne h]; unfold upW; rw [if_neg h]; exact R.slot j
  · by_cases h : j = i
    · by_cases h' : k = i
      · rw [h, h']
      · rw [if_pos h] at ha; rw [if_neg h'] at hb; exact absurd hb ((hout a ha).2.2 k h')
    · by_cases h' : k = i
      · rw [if_pos h'] at hb; rw [if_neg h] at ha; exact absurd ha ((hout a hb).2.2 j h)
      · rw [if_neg h] at ha; rw [if_neg h'] at hb; exact R.sep j k a ha hb
  · by_cases h : j = i
    · rw [if_pos h]; exact nd
    · rw [if_neg h]; exact R.nd j
  · by_cases h : j = i
    · rw [if_pos h] at ha; exact ⟨(hout a ha).1, (hout a ha).2.1⟩
    · rw [if_neg h] at ha; exact R.out j a ha
  · have h : j ≠ i := fun z => by rw [z, npv] at q; cases q
    obtain ⟨a, b, c⟩ := R.par j u q
    exact ⟨a, by unfold upW; rw [if_neg h]; exact b, by rw [gt_set_ne h]; exact c⟩
  · unfold upW
    by_cases h : j = i
    · subst h
      rw [if_pos rfl, List.getD_eq_getElem?_getD, List.getElem?_set_self (by rw [R.len]; exact hi)]
      rfl
    · rw [if_neg h, R.wv j hj, List.getD_eq_getElem?_getD, List.getD_eq_getElem?_getD, List.getElem?_set_ne (Ne.symm h)]
  · obtain ⟨a, b, v1, v2, c, d, e⟩ := R.sfv p dx q
    refine ⟨a, by rw [gt_set_ne (Ne.symm (n0 p dx q))]; exact b, v1, v2, ?_, ?_, e⟩
    · unfold upW; rw [if_neg (by omega)]; exact c
    · unfold upW; rw [if_neg (by omega)]; exact d
end
/-! ### judgements of statements and targets -/
def OkS (X : Cx) (M : En) (C : Addr) (t : TS) (m : MS) : Prop := ∀ f B st σ w H own o st1, FxOk X M C f → Rel f B st σ w H own → m M st = some (o, st1) → ∀ D : Ends,
  (o = .nx → ∀ B1 σ1 w1 H1 own1, Ex B B1 → Rel f B1 st1 σ1 w1 H1 own1 → D.nx σ1 H1) →
  (∀ r, o = .rt r → ∀ v B1 σ1 w1 H1 own1 ro, Ex B B1 → Rel f B1 st1 σ1 w1 H1 own1 → Res f B1 H1 own1 r v ro → D.rt v H1) → t D σ H
mutual
def tgIx : Tg → List Nat
  | .nm i => [i]
  | .tp ts => tgsIx ts
def tgsIx : Tgs → List Nat
  | .nil => []
  | .cons t ts => tgIx t ++ tgsIx ts
end
def OkG (X : Cx) (M : En) (C : Addr) (g : TG) (tg : Tg) : Prop := ∀ f B st σ w H own v d st1, FxOk X M C f → Rel f B st σ w H own → Dat X.K B v d → asg tg d M st = some st1 → ∀ Q : L2.St → Hp → Prop,
  (∀ B1 σ1 w1 H1 own1, Ex B B1 → Rel f B1 st1 σ1 w1 H1 own1 → (∀ vs : List Nat, (∀ i ∈ tgIx tg, i ∈ vs) → wipe σ1 vs = wipe σ vs) → Q σ1 H1) → g v σ H Q
def OkGs (X : Cx) (M : En) (C : Addr) (g : TGs) (ts : Tgs) : Prop := ∀ f B st σ w H own vs ds st1, FxOk X M C f → Rel f B st σ w H own → Dats X.K B vs ds → asgs ts ds M st = some st1 → ∀ Q : L2.St → Hp → Prop,
  (∀ B1 σ1 w1 H1 own1, Ex B B1 → Rel f B1 st1 σ1 w1 H1 own1 → (∀ us : List Nat, (∀ i ∈ tgsIx ts, i ∈ us) → wipe σ1 us = wipe σ us) → Q σ1 H1) → g vs σ H Q
theorem wipe_set {σ : L2.St} {i : Nat} {v : Option V} : ∀ {vs : List Nat}, i ∈ vs → wipe (σ.set i v) vs = wipe σ vs
  | [], h => by cases h
  | j :: vs, h => by
    show (wipe (σ.set i v) vs).set j none = (wipe σ vs).set j none
    by_cases hi : i ∈ vs
    · rw [wipe_set hi]
    · have e : i = j := (List.mem_cons.mp h).resolve_right hi
      subst e
      have : wipe (σ.set i v) vs = (wipe σ vs).set i v := by
        clear h
        induction vs with
        | nil => rfl
        | cons k r ih =>
          have hk : i ≠ k := fun z => hi (by rw [z]; simp)
          have hr : i ∉ r := fun z => hi (List.mem_cons.mpr (.inr z))
          show (wipe (σ.set i v) r).set k none = ((wipe σ r).set k none).set i v
          rw [ih hr, List.set_comm _ _ hk]
      rw [this, List.set_set]
section
variable {X : Cx} {M : En} {C : Addr}
theorem putS_some {i : Nat} {r : SV} {st st1 : Sto} (h : putS i r M st = some st1) : i < M.nv ∧ ¬ (i < M.np ∧ (gt st i).own = true) ∧ st1 = st.set i r := by
  unfold putS at h
  split at h
  · split at h
    · cases h
    · rename_i h1 h2
      cases h
      simp only [Bool.and_eq_true, decide_eq_true_eq] at h2
      exact ⟨h1, h2, rfl⟩
  · cases h
theorem okg_nm {i : Nat} : OkG X M C (gName i) (.nm i) := by
  intro f B st σ w H own v d st1 F R hd e Q q
  obtain ⟨h1, h2, rfl⟩ := putS_some (show putS i (.dat d) M st = some st1 from e)
  rw [← F.K] at hd
  rw [← F.n] at h1
  rw [← F.np] at h2
  exact q B _ _ H _ (Ex.refl _) (R.assign (r := .dat d) (v := some v) (ro := []) h1 h2 (by simp) ⟨rfl, v, rfl, hd⟩ (by simp) (by simp)) fun vs hv => wipe_set (hv i (by simp [tgIx]))
theorem okgs_nil : OkGs X M C gNil .nil := by
  intro f B st σ w H own vs ds st1 F R hd e Q q
  cases ds with
  | nil =>
    have e : some st = some st1 := e
    cases e
    cases hd
    exact ⟨rfl, q B σ w H own (Ex.refl _) R fun _ _ => rfl⟩
  | cons _ _ =>
    have e : (none : Option Sto) = some st1 := e
    cases e
theorem okgs_cons {t : TG} {u : TGs} {a : Tg} {b : Tgs} (ha : OkG X M C t a) (hb : OkGs X M C u b) : OkGs X M C (gCons t u) (.cons a b) := by
  intro f B st σ w H own vs ds st1 F R hd e Q q
  cases ds with
  | nil =>
    have e : (none : Option Sto) = some st1 := e
    cases e
  | cons d r =>
    have e : (match asg a d M st with | some st1 => asgs b r M st1 | none => none) = some st1 := e
    cases h1 : asg a d M st with
    | none => rw [h1] at e; cases e
    | some s1 =>
      rw [h1] at e
      simp only at e
      cases hd with
      | cons h2 h3 =>
        rename_i v vr
        refine ⟨v, vr, rfl, ha f B st σ w H own v d s1 F R h2 h1 _ fun B1 σ1 w1 H1 own1 e1 R1 k1 => ?_⟩
        exact hb f B1 s1 σ1 w1 H1 own1 vr r st1 F R1 (h3.mono e1) e Q fun B2 σ2 w2 H2 own2 e2 R2 k2 => q B2 σ2 w2 H2 own2 (e1.trans e2) R2 fun us hu => by
          rw [k2 us fun i hi => hu i (by simp [tgsIx, hi]), k1 us fun i hi => hu i (by simp [tgsIx, hi])]
theorem asgs_len : ∀ {ts : Tgs} {ds : List PyData} {st st1 : Sto}, asgs ts ds M st = some st1 → ∃ n, ds.length = n
  | _, ds, _, _, _ => ⟨_, rfl⟩
def tgsLen : Tgs → Nat
  | .nil => 0
  | .cons _ r => tgsLen r + 1
theorem asgs_length : ∀ (ts : Tgs) {ds : List PyData} {st st1 : Sto}, asgs ts ds M st = some st1 → ds.length = tgsLen ts
  | .nil, [], _, _, _ => rfl
  | .nil, _ :: _, _, _, h => by
    have h : (none : Option Sto) = _ := h
    cases h
  | .cons a b, [], _, _, h => by
    have h : (none : Option Sto) = _ := h
    cases h
  | .cons a b, d :: r, st, st1, h => by
    have h : (match asg a d M st with | some st1 => asgs b r M st1 | none => none) = some st1 := h
    cases h1 : asg a d M st with
    | none => rw [h1] at h; cases h
    | some s1 =>
      rw [h1] at h
      show r.length + 1 = tgsLen b + 1
      rw [asgs_length b h]
theorem okg_tp {u : TGs} {b : Tgs} (hb : OkGs X M C u b) : OkG X M C (gTup X.K (tgsLen b) u) (.tp b) := by
  intro f B st σ w H own v d st1 F R hd e Q q
  cases d with
  | tuple ds =>
    have e : asgs b ds M st = some st1 := e
    cases hd with
    | tup h1 h2 =>
      rename_i a xs
      exact ⟨a, xs, rfl, SqT.of (R.exB _ _ h1), by rw [h2.length]; exact asgs_length b e, hb f B st σ w H own xs ds st1 F R h2 e Q q⟩
  | _ =>
    have e : (none : Option Sto) = some st1 := e
    cases e
/-! ### statements -/
theorem oks_nil : OkS X M C tNext nxS := by
  intro f B st σ w H own o st1 F R e D qn qr
  cases e
  exact qn rfl B σ w H own (Ex.refl _) R
theorem oks_seq {t u : TS} {a b : MS} (ha : OkS X M C t a) (hb : OkS X M C u b) : OkS X M C (tSeq t u) (seqS a b) := by
  intro f B st σ w H own o st1 F R e D qn qr
  unfold seqS at e
  cases h1 : a M st with
  | none => rw [h1] at e; cases e
  | some z =>
    obtain ⟨o1, s1⟩ := z
    rw [h1] at e
    cases o1 with
    | nx =>
      simp only at e
      refine ha f B st σ w H own .nx s1 F R h1 { D with nx := u D } (fun _ B1 σ1 w1 H1 own1 e1 R1 => ?_) (fun r z => by cases z)
      exact hb f B1 s1 σ1 w1 H1 own1 o st1 F R1 e D (fun z B2 σ2 w2 H2 own2 e2 R2 => qn z B2 σ2 w2 H2 own2 (e1.trans e2) R2) (fun r z v B2 σ2 w2 H2 own2 ro e2 R2 x => qr r z v B2 σ2 w2 H2 own2 ro (e1.trans e2) R2 x)
    | rt r =>
      cases e
      exact ha f B st σ w H own (.rt r) _ F R h1 { D with nx := u D } (fun z => by cases z) qr
theorem oks_exp {t : TE} {m : ME} (h : OkE X M C t m) : OkS X M C (tDrop t) (expS m) := by
  intro f B st σ w H own o st1 F R e D qn qr
  unfold expS at e
  split at e
  · rename_i r s1 h1
    cases e
    exact h f B st σ w H own r _ F R h1 _ fun v B1 H1 own1 ro e1 R1 x => qn rfl B1 σ w H1 own1 e1 R1
  · cases e
theorem oks_set {i : Nat} {t : TE} {m : ME} (h : OkE X M C t m) : OkS X M C (tAsg t (gName i)) (setS i m) := by
  intro f B st σ w H own o st1 F R e D qn qr
  unfold setS at e
  split at e
  · rename_i r s1 h1
    split at e
    · rename_i s2 h2
      cases e
      obtain ⟨a1, a2, rfl⟩ := putS_some h2
      rw [← F.n] at a1
      rw [← F.np] at a2
      refine h f B st σ w H own r s1 F R h1 _ fun v B1 H1 own1 ro e1 R1 x => ?_
      have hr : r ≠ .slf := fun z => by
        have y := x.1
        rw [z] at y
        obtain ⟨_, _, y, _⟩ := y
        cases y
      exact qn rfl B1 _ _ H1 _ e1 (R1.assign a1 a2 hr (x.1.sf hr) x.2.1 fun a ha => let ⟨b1, b2, b3⟩ := x.2.2 a ha; ⟨b1, b2, fun j _ => b3 j⟩)
    · cases e
  · cases e
theorem oks_des {tg : Tg} {g : TG} {t : TE} {m : ME} (h : OkE X M C t m) (hg : OkG X M C g tg) : OkS X M C (tAsg t g) (desS tg m) := by
  intro f B st σ w H own o st1 F R e D qn qr
  unfold desS at e
  split at e
  · rename_i d s1 h1
    split at e
    · rename_i s2 h2
      cases e
      refine h.val f B st σ w H own d s1 F R h1 _ fun v B1 H1 own1 e1 R1 x => ?_
      exact hg f B1 s1 σ w H1 own1 v d _ F R1 x h2 _ fun B2 σ2 w2 H2 own2 e2 R2 _ => qn rfl B2 σ2 w2 H2 own2 (e1.trans e2) R2
    · cases e
  · cases e
theorem oks_if {tc : TT} {t u : TS} {c : MT} {a b : MS} (hc : OkT X M C tc c) (ha : OkS X M C t a) (hb : OkS X M C u b) : OkS X M C (tIfS tc t u) (ifS c a b) := by
  intro f B st σ w H own o st1 F R e D qn qr
  unfold ifS at e
  split at e
  · rename_i s1 h1
    refine hc f B st σ w H own _ _ F R h1 _ fun B1 H1 own1 e1 R1 => ?_
    rw [if_pos rfl]
    exact ha f B1 s1 σ w H1 own1 o st1 F R1 e D (fun z B2 σ2 w2 H2 own2 e2 R2 => qn z B2 σ2 w2 H2 own2 (e1.trans e2) R2) (fun r z v B2 σ2 w2 H2 own2 ro e2 R2 x => qr r z v B2 σ2 w2 H2 own2 ro (e1.trans e2) R2 x)
  · rename_i s1 h1
    refine hc f B st σ w H own _ _ F R h1 _ fun B1 H1 own1 e1 R1 => ?_
    rw [if_neg (by simp)]
    exact hb f B1 s1 σ w H1 own1 o st1 F R1 e D (fun z B2 σ2 w2 H2 own2 e2 R2 => qn z B2 σ2 w2 H2 own2 (e1.trans e2) R2) (fun r z v B2 σ2 w2 H2 own2 ro e2 R2 x => qr r z v B2 σ2 w2 H2 own2 ro (e1.trans e2) R2 x)
  · cases e
theorem oks_ret {t : TE} {m : ME} (h : OkE X M C t m) : OkS X M C (tRet t) (retS m) := by
  intro f B st σ w H own o st1 F R e D qn qr
  unfold retS at e
  split at e
  · rename_i r s1 h1
    cases e
    exact h f B st σ w H own r _ F R h1 _ fun v B1 H1 own1 ro e1 R1 x => qr r rfl v B1 σ w H1 own1 ro e1 R1 x
  · cases e
theorem oks_retN : OkS X M C tRetN retN := by
  intro f B st σ w H own o st1 F R e D qn qr
  cases e
  exact qr _ rfl .non B σ w H own [] (Ex.refl _) R (res_dat .non)
theorem oks_never {t : TS} : OkS X M C t neverS := by
  intro f B st σ w H own o st1 F R e D qn qr
  cases e
/-- an own container is handed out -/
theorem oks_retV {i : Nat} {t : TE} (ht : ∀ (f : Fx) B st σ w H own, FxOk X M C f → Rel f B st σ w H own → ∀ v, w i = some v → ∀ Q : VK, Q v H → t σ H Q) : OkS X M C (tRet t) (retV i) := by
  intro f B st σ w H own o st1 F R e D qn qr
  have z := R.slot i
  have key : ∀ s, gt st i = s → s.own = true → s ≠ .slf → retV i M st = some (o, st1) → tRet t D σ H := by
    intro s hs ho hns e
    have e : (if i < M.np then none else if i < M.nv then some (Out.rt s, st.set i .emp) else none) = some (o, st1) := by
      rw [← e]
      unfold retV
      rw [hs]
      cases s <;> first | (exact absurd rfl hns) | rfl | (cases ho; done) | exact absurd rfl hns
    split at e
    · cases e
    · split at e
      · cases e
        rename_i n1 n2 _
        rw [hs] at z
        have hw : ∃ v, w i = some v := by
          cases s <;> first
            | (cases ho; done)
            | exact absurd rfl hns
            | (obtain ⟨p, xs, a, _⟩ := z; exact ⟨_, a⟩)
            | (obtain ⟨p, a, _⟩ := z; exact ⟨_, a⟩)
            | (obtain ⟨p, dx, l, v1, xs, a, _⟩ := z; exact ⟨_, a⟩)
        obtain ⟨v, hv⟩ := hw
        refine ht f B st σ w H own F R v hv _ ?_
        have hpv : f.pv i = none := by
          cases q : f.pv i with
          | none => rfl
          | some u => have := (R.par i u q).1; rw [F.np] at this; exact absurd this n1
        have R1 := R.slot_set (i := i) (s := .emp) (o := []) (H' := H) (gt_lt (by rw [hs]; intro q; rw [q] at ho; cases ho)) (R.not0 (by rw [hs]; exact hns)) rfl (by simp) (by simp) (fun _ _ => rfl) (fun _ _ q _ => q) fun q => absurd hpv q
        refine qr _ rfl v B σ w H _ (own i) (Ex.refl _) R1 ⟨?_, R.nd i, fun a ha => ⟨(R.out i a ha).1, (R.out i a ha).2, fun j hj => ?_⟩⟩
        · rw [← hv]; exact z.sf hns
        · have hj : a ∈ (if j = i then [] else own j) := hj
          by_cases h : j = i
          · rw [if_pos h] at hj; cases hj
          · rw [if_neg h] at hj; exact h (R.sep _ _ a hj ha)
      · cases e
  cases hs : gt st i with
  | dat d =>
    unfold retV at e
    rw [hs] at e z
    cases e
    obtain ⟨_, x, b, c⟩ := z
    exact ht f B _ σ w H own F R x b _ (qr _ rfl x B σ w H own [] (Ex.refl _) R (res_dat c))
  | emp => unfold retV at e; rw [hs] at e; cases e
  | slf => unfold retV at e; rw [hs] at e; cases e
  | lst ds => exact key _ hs rfl (by simp) e
  | dct ds => exact key _ hs rfl (by simp) e
  | std d ds => exact key _ hs rfl (by simp) e
end
end Rb
namespace Rb
open PySem L2
/-! ### what is walked -/
/-- one turn gives the item, or a new pair -/
def YD (K : PySem.W.Frag) (B : Hp) (ds : List PyData) (i : Nat) (H : Hp) (x : V) (H' : Hp) : Prop :=
  ∃ d, ds[i]? = some d ∧ ((H' = H ∧ Dat K B x d) ∨ ∃ T a b da db, x = .ref T ∧ H T = none ∧ H' = upd H T (.tup [a, b]) ∧ d = .tuple [da, db] ∧ Dat K B a da ∧ Dat K B b db)
abbrev WalkD (K : PySem.W.Frag) (B : Hp) (J : It) (ds : List PyData) : Prop := Walk J ds.length (fun H => Ex B H) (YD K B ds)
def OkI (X : Cx) (M : En) (C : Addr) (wi : TI) (src : MI) : Prop := ∀ f B st σ w H own ds st1, FxOk X M C f → Rel f B st σ w H own → src M st = some (ds, st1) →
  ∀ R : It → Hp → Prop, (∀ J B1 H1 own1, Ex B B1 → Rel f B1 st1 σ w H1 own1 → WalkD X.K B1 J ds → R J H1) → wi σ H R
section
variable {K : PySem.W.Frag} {B : Hp}
theorem walkD_list {a : Addr} {xs : List V} {ds : List PyData} (h : SqL K B a xs) (hd : Dats K B xs ds) : WalkD K B (Itl K a) ds := by
  have w := walk_list (K := K) (a := a) (xs := xs)
  have l := hd.length
  refine ⟨fun i H hi e => w.goes i H (by rw [l]; exact hi) (e.l h), fun H e => by rw [← l]; exact w.stops H (e.l h), fun i H x H' hi e y => ?_⟩
  obtain ⟨y1, y2⟩ := w.yields i H x H' (by rw [l]; exact hi) (e.l h) y
  obtain ⟨d, q1, q2⟩ := hd.getV y2
  exact ⟨d, q1, .inl ⟨y1, q2⟩⟩
theorem walkD_tup {a : Addr} {xs : List V} {ds : List PyData} (h : B a = some (.tup xs)) (hd : Dats K B xs ds) : WalkD K B (Itt K a) ds := by
  have w := walk_tup (K := K) (a := a) (xs := xs)
  have l := hd.length
  refine ⟨fun i H hi e => w.goes i H (by rw [l]; exact hi) (SqT.of (e _ _ h)), fun H e => by rw [← l]; exact w.stops H (SqT.of (e _ _ h)), fun i H x H' hi e y => ?_⟩
  obtain ⟨y1, y2⟩ := w.yields i H x H' (by rw [l]; exact hi) (SqT.of (e _ _ h)) y
  obtain ⟨d, q1, q2⟩ := hd.getV y2
  exact ⟨d, q1, .inl ⟨y1, q2⟩⟩
theorem rgD_len (lo hi : Int) : (rgD lo hi).length = (hi - lo).toNat := by unfold rgD; rw [List.length_map, List.length_range]
theorem rgD_get {lo hi : Int} {i : Nat} (h : i < (hi - lo).toNat) : (rgD lo hi)[i]? = some (.int (lo + (i : Nat))) := by
  unfold rgD
  rw [List.getElem?_map, List.getElem?_range h]
  rfl
theorem walkD_rg {lo hi : Int} : WalkD K B (Itr lo (hi - lo).toNat) (rgD lo hi) := by
  have w := walk_range (lo := lo) (n := (hi - lo).toNat)
  have e := rgD_len lo hi
  refine ⟨fun i H hi' _ => w.goes i H (by rw [← e]; exact hi') trivial, fun H _ => by rw [e]; exact w.stops H trivial, fun i H x H' hi' _ y => ?_⟩
  obtain ⟨y1, y2⟩ := w.yields i H x H' (by rw [← e]; exact hi') trivial y
  rw [e] at hi'
  exact ⟨_, rgD_get hi', .inl ⟨y1, by rw [y2]; exact .int _⟩⟩
theorem walkD_str {z : Str} : WalkD K B (Its z) (z.cps.toList.map fun c => .str ⟨#[c]⟩) := by
  have w := walk_str (z := z)
  have e : (z.cps.toList.map fun c => (PyData.str ⟨#[c]⟩ : PyData)).length = z.cps.size := by rw [List.length_map, Array.length_toList]
  refine ⟨fun i H hi _ => w.goes i H (by rw [← e]; exact hi) trivial, fun H _ => by rw [e]; exact w.stops H trivial, fun i H x H' hi _ y => ?_⟩
  obtain ⟨y1, c, y2, y3⟩ := w.yields i H x H' (by rw [← e]; exact hi) trivial y
  refine ⟨.str ⟨#[c]⟩, ?_, .inl ⟨y1, by rw [y3]; exact .str _⟩⟩
  rw [List.getElem?_map, Array.getElem?_toList, y2]
  rfl
theorem enD_get : ∀ {ds : List PyData} {k i : Nat} {d : PyData}, ds[i]? = some d → (enD k ds)[i]? = some (.tuple [.int ((k + i : Nat) : Nat), d])
  | [], _, _, _, h => by simp at h
  | x :: r, k, 0, d, h => by
    have e : x = d := by simpa using h
    subst e
    rfl
  | x :: r, k, i + 1, d, h => by
    have := enD_get (ds := r) (k := k + 1) (i := i) (d := d) (by simpa using h)
    rw [show k + 1 + i = k + (i + 1) by omega] at this
    exact this
theorem enD_len : ∀ (ds : List PyData) (k : Nat), (enD k ds).length = ds.length
  | [], _ => rfl
  | _ :: r, k => congrArg (· + 1) (enD_len r (k + 1))
theorem walkD_enum {a : Addr} {xs : List V} {ds : List PyData} (h : SqL K B a xs) (hd : Dats K B xs ds) : WalkD K B (Ite K a) (enD 0 ds) := by
  have w := walk_enum (K := K) (a := a) (xs := xs)
  have l := hd.length
  refine ⟨fun i H hi e => w.goes i H (by rw [l, ← enD_len ds 0]; exact hi) (e.l h), fun H e => by rw [enD_len, ← l]; exact w.stops H (e.l h), fun i H x H' hi e y => ?_⟩
  obtain ⟨T, x1, y1, e1, e2, e3, e4, e5⟩ := w.yields i H x H' (by rw [l, ← enD_len ds 0]; exact hi) (e.l h) y
  obtain ⟨d, q1, q2⟩ := hd.getV e5
  cases e4
  refine ⟨_, enD_get q1, .inr ⟨T, _, _, _, _, e1, e2, e3, rfl, ?_, q2⟩⟩
  rw [Nat.zero_add]
  exact .int _
end
theorem PI.or {X : Cx} {tg e : Expr} {t1 t2 : TI} (h1 : PI X tg e t1) (h2 : PI X tg e t2) : PI X tg e (fun σ H R => t1 σ H R ∨ t2 σ H R) :=
  ⟨fun pins s σ H R I h => h.elim (h1.run pins s σ H R I) (h2.run pins s σ H R I)⟩
section
variable {X : Cx} {M : En} {C : Addr}
theorem rgOk_some {lo hi : Int} (h : rgOk lo hi = true) : -(2 ^ 61) ≤ lo ∧ lo ≤ 2 ^ 61 ∧ -(2 ^ 61) ≤ hi ∧ hi ≤ 2 ^ 61 := by
  unfold rgOk at h
  simp only [Bool.and_eq_true, decide_eq_true_eq] at h
  exact ⟨h.1.1.1, h.1.1.2, h.1.2, h.2⟩
theorem oki_rg1 {ta : TE} {a : ME} (ha : OkE X M C ta a) : OkI X M C (iRng1 (tCons ta tNil)) (itR1 a) := by
  intro f B st σ w H own ds st1 F R e P q
  unfold itR1 at e
  split at e
  · rename_i n s1 h1
    split at e
    · rename_i ok
      cases e
      obtain ⟨_, _, b1, b2⟩ := rgOk_some ok
      refine ha.val f B st σ w H own _ _ F R h1 _ fun v B1 H1 own1 e1 R1 x => ?_
      cases x.dat_int
      refine ⟨n, rfl, by omega, by omega, ?_⟩
      have wk := walkD_rg (K := X.K) (B := B1) (lo := 0) (hi := n)
      rw [show (n - 0).toNat = n.toNat by omega] at wk
      exact q _ B1 H1 own1 e1 R1 wk
    · cases e
  · cases e
theorem oki_rg2 {ta tb : TE} {a b : ME} (ha : OkE X M C ta a) (hb : OkE X M C tb b) : OkI X M C (iRng2 (tCons ta (tCons tb tNil))) (itR2 a b) := by
  intro f B st σ w H own ds st1 F R e P q
  unfold itR2 at e
  split at e
  · rename_i n s1 h1
    split at e
    · rename_i m s2 h2
      split at e
      · rename_i ok
        cases e
        obtain ⟨b1, b2, b3, b4⟩ := rgOk_some ok
        refine ha.val f B st σ w H own _ _ F R h1 _ fun v B1 H1 own1 e1 R1 x => ?_
        cases x.dat_int
        refine hb.val f B1 s1 σ w H1 own1 _ _ F R1 h2 _ fun v2 B2 H2 own2 e2 R2 x2 => ?_
        cases x2.dat_int
        exact ⟨n, m, rfl, ⟨by omega, by omega, by omega, by omega⟩, q _ B2 H2 own2 (e1.trans e2) R2 walkD_rg⟩
      · cases e
    · cases e
  · cases e
/-- a list, a tuple or a text -/
def iOv (K : PySem.W.Frag) (ta : TE) : TI := fun σ H R => iList K ta σ H R ∨ iTup K ta σ H R ∨ iStr ta σ H R
theorem pi_ov {tg e : Expr} {te : TE} (he : PE X e te) : PI X tg e (iOv X.K te) := PI.or (pi_list he) (PI.or (pi_tup he) (pi_str he))
theorem oki_ov {ta : TE} {a : ME} (ha : OkE X M C ta a) : OkI X M C (iOv X.K ta) (itOv a) := by
  intro f B st σ w H own ds st1 F R e P q
  unfold itOv at e
  split at e
  · rename_i ds' s1 h1
    cases e
    refine .inl (ha.val f B st σ w H own _ _ F R h1 _ fun v B1 H1 own1 e1 R1 x => ?_)
    cases x with
    | lst x1 x2 => exact ⟨_, rfl, ⟨_, R1.exB.l x1⟩, q _ B1 H1 own1 e1 R1 (walkD_list x1 x2)⟩
  · rename_i ds' s1 h1
    cases e
    refine .inr (.inl (ha.val f B st σ w H own _ _ F R h1 _ fun v B1 H1 own1 e1 R1 x => ?_))
    cases x with
    | tup x1 x2 => exact ⟨_, rfl, ⟨_, SqT.of (R1.exB _ _ x1)⟩, q _ B1 H1 own1 e1 R1 (walkD_tup x1 x2)⟩
  · rename_i z s1 h1
    cases e
    refine .inr (.inr (ha.val f B st σ w H own _ _ F R h1 _ fun v B1 H1 own1 e1 R1 x => ?_))
    cases x.dat_str
    exact ⟨z, rfl, q _ B1 H1 own1 e1 R1 walkD_str⟩
  · cases e
/-- the item of a turn, in the state -/
theorem Rel.item {f : Fx} {B B1 : Hp} {st : Sto} {σ : L2.St} {w : Nat → Option V} {H H' : Hp} {own : Nat → List Addr} {ds : List PyData} {i : Nat} {x : V} (R : Rel f B st σ w H own) (e : Ex B1 B) (y : YD f.K B1 ds i H x H') :
    ∃ d B2, ds[i]? = some d ∧ Ex B B2 ∧ Rel f B2 st σ w H' own ∧ Dat f.K B2 x d := by
  obtain ⟨d, hd, h | h⟩ := y
  · obtain ⟨rfl, h⟩ := h
    exact ⟨d, B, hd, Ex.refl _, R, h.mono e⟩
  · obtain ⟨T, a, b, da, db, rfl, hT, rfl, rfl, h1, h2⟩ := h
    obtain ⟨B2, e2, R2, x2⟩ := R.res_tup hT (Dats.cons (h1.mono e) (Dats.cons (h2.mono e) .nil))
    exact ⟨_, B2, hd, e2, R2, x2⟩
theorem drop_get {α : Type} {l : List α} {i : Nat} {d : α} (h : l[i]? = some d) : l.drop i = d :: l.drop (i + 1) := by
  obtain ⟨h1, h2⟩ := List.getElem?_eq_some_iff.mp h
  rw [List.drop_eq_getElem_cons h1, h2]
theorem oks_for {tg : Tg} {g : TG} {wi : TI} {src : MI} {t : TS} {b : MS} (hi : OkI X M C wi src) (hg : OkG X M C g tg) (hb : OkS X M C t b) : OkS X M C (tFor wi g t) (forS tg src b) := by
  intro f B st σ w H own o st1 F R e D qn qr
  unfold forS at e
  split at e
  · rename_i ds s1 h1
    refine hi f B st σ w H own ds s1 F R h1 _ fun J B1 H1 own1 e1 R1 wk => ?_
    refine ⟨fun i m σ' H' => m = ds.length - i ∧ i ≤ ds.length ∧ ∃ B' st' w' own', Ex B1 B' ∧ Rel f B' st' σ' w' H' own' ∧ forT tg b M (ds.drop i) st' = some (o, st1), ⟨ds.length, by simp, Nat.zero_le _, B1, s1, w, own1, Ex.refl _, R1, by simpa using e⟩, ?_⟩
    rintro i m σ' H' ⟨rfl, hi, B', st', w', own', e2, R2, hf⟩
    by_cases hl : i < ds.length
    · refine .inr ⟨wk.goes i H' hl (e2.trans R2.exB), fun σ2 H2 => i + 1 ≤ ds.length ∧ ∃ B' st' w' own', Ex B1 B' ∧ Rel f B' st' σ2 w' H2 own' ∧ forT tg b M (ds.drop (i + 1)) st' = some (o, st1), fun σ2 H2 h2 => ⟨ds.length - (i + 1), by omega, rfl, h2⟩, fun x H2 y => ?_⟩
      have y2 := wk.yields i H' x H2 hl (e2.trans R2.exB) y
      rw [← F.K] at y2
      obtain ⟨d, B3, hd, e3, R3, x3⟩ := R2.item e2 y2
      rw [F.K] at x3
      rw [drop_get hd] at hf
      unfold forT at hf
      split at hf
      · rename_i s4 h4
        refine hg f B3 st' σ' w' H2 own' x d s4 F R3 x3 h4 _ fun B5 σ5 w5 H5 own5 e5 R5 _ => ?_
        split at hf
        · rename_i s6 h6
          refine hb f B5 s4 σ5 w5 H5 own5 .nx s6 F R5 h6 _ (fun _ B7 σ7 w7 H7 own7 e7 R7 => ⟨hl, B7, s6, w7, own7, ((e2.trans e3).trans e5).trans e7, R7, hf⟩) (fun r z => by cases z)
        · rename_i r s6 h6
          cases hf
          refine hb f B5 s4 σ5 w5 H5 own5 _ _ F R5 h6 _ (fun z => by cases z) fun r' z v B7 σ7 w7 H7 own7 ro e7 R7 x7 => ?_
          exact qr r' z v B7 σ7 w7 H7 own7 ro ((((e1.trans e2).trans e3).trans e5).trans e7) R7 x7
        · cases hf
      · cases hf
    · have hi' : i = ds.length := by omega
      subst hi'
      rw [List.drop_length] at hf
      have hf : some (Out.nx, st') = some (o, st1) := hf
      cases hf
      exact .inl ⟨wk.stops H' (e2.trans R2.exB), qn rfl B' σ' w' H' own' (e1.trans e2) R2⟩
  · cases e
theorem oks_wh {tc : TT} {t : TS} {c : MT} {b : MS} (hc : OkT X M C tc c) (hb : OkS X M C t b) : OkS X M C (tWhile tc t) (whS c b) := by
  intro f B st σ w H own o st1 F R e D qn qr
  unfold whS at e
  refine ⟨fun m σ' H' => ∃ B' st' w' own', Ex B B' ∧ Rel f B' st' σ' w' H' own' ∧ whN c b M m st' = some (o, st1), ⟨fuel, B, st, w, own, Ex.refl _, R, e⟩, ?_⟩
  rintro m σ' H' ⟨B', st', w', own', e2, R2, hf⟩
  cases m with
  | zero => cases hf
  | succ m =>
    unfold whN at hf
    split at hf
    · rename_i s1 h1
      refine hc f B' st' σ' w' H' own' _ _ F R2 h1 _ fun B1 H1 own1 e1 R1 => ?_
      rw [if_pos rfl]
      refine ⟨fun σ2 H2 => ∃ B' st' w' own', Ex B B' ∧ Rel f B' st' σ2 w' H2 own' ∧ whN c b M m st' = some (o, st1), fun σ2 H2 h2 => ⟨m, Nat.lt_succ_self _, h2⟩, ?_⟩
      split at hf
      · rename_i s3 h3
        exact hb f B1 s1 σ' w' H1 own1 .nx s3 F R1 h3 _ (fun _ B7 σ7 w7 H7 own7 e7 R7 => ⟨B7, s3, w7, own7, (e2.trans e1).trans e7, R7, hf⟩) (fun r z => by cases z)
      · rename_i r s3 h3
        cases hf
        exact hb f B1 s1 σ' w' H1 own1 _ _ F R1 h3 _ (fun z => by cases z) fun r' z v B7 σ7 w7 H7 own7 ro e7 R7 x7 => qr r' z v B7 σ7 w7 H7 own7 ro ((e2.trans e1).trans e7) R7 x7
      · cases hf
    · rename_i s1 h1
      cases hf
      refine hc f B' st' σ' w' H' own' _ _ F R2 h1 _ fun B1 H1 own1 e1 R1 => ?_
      rw [if_neg (by simp)]
      exact qn rfl B1 σ' w' H1 own1 (e2.trans e1) R1
    · cases hf
end
end Rb
namespace Rb
open PySem L2
/-! ### a comprehension -/
section
variable {f : Fx} {B : Hp} {st : Sto} {σ : L2.St} {w : Nat → Option V} {H : Hp} {own : Nat → List Addr}
abbrev Fx.lock (f : Fx) (D : Addr) (o : HO) : Fx := { f with G := upd f.G D o }
theorem Rel.lock (R : Rel f B st σ w H own) {D : Addr} {o : HO} (h : H D = some o) (hB : B D = none) (ho : ∀ j, D ∉ own j) : Rel (f.lock D o) B st σ w H own :=
  { exG := fun a u q => by
      by_cases z : a = D
      · subst z
        have q : upd f.G a o a = some u := q
        rw [upd_same] at q; cases q; exact h
      · have q : upd f.G D o a = some u := q
        rw [upd_ne z] at q; exact R.exG a u q
    exB := R.exB, ex0 := R.ex0, exI := R.exI
    grw := fun a q => (R.grw a q).imp id fun z => by
      show upd f.G D o a = none
      rw [upd_ne (show a ≠ D from fun e => q (by rw [e]; exact hB))]; exact z
    slot := R.slot, sep := R.sep, nd := R.nd
    out := fun i a ha => ⟨by
      show upd f.G D o a = none
      rw [upd_ne (show a ≠ D from fun e => ho i (by rw [← e]; exact ha))]; exact (R.out i a ha).1, (R.out i a ha).2⟩
    par := R.par, len := R.len, wv := R.wv, npn := R.npn, sfv := R.sfv, slen := R.slen }
theorem Rel.unlock {D : Addr} {o : HO} (R : Rel (f.lock D o) B st σ w H own) (hG : f.G D = none) (h0 : f.B0 D = none) : H D = some o ∧ B D = none ∧ (∀ j, D ∉ own j) ∧ Rel f B st σ w H own := by
  have gD : (f.lock D o).G D = some o := upd_same
  have sub : ∀ a, (f.lock D o).G a = none → f.G a = none := fun a q => by
    have q : upd f.G D o a = none := q
    by_cases z : a = D
    · rw [z]; exact hG
    · rw [upd_ne z] at q; exact q
  refine ⟨R.exG D o gD, ?_, fun j hj => ?_, ?_⟩
  · cases q : B D with
    | none => rfl
    | some u =>
      rcases R.grw D (by rw [q]; simp) with z | z
      · exact absurd h0 z
      · rw [gD] at z; cases z
  · have := (R.out j D hj).1
    rw [gD] at this; cases this
  · exact
    { exG := fun a u q => R.exG a u (by
        show upd f.G D o a = some u
        rw [upd_ne (fun e => by rw [e, hG] at q; cases q)]; exact q)
      exB := R.exB, ex0 := R.ex0, exI := R.exI
      grw := fun a q => (R.grw a q).imp id (sub a)
      slot := R.slot, sep := R.sep, nd := R.nd, out := fun i a ha => ⟨sub a (R.out i a ha).1, (R.out i a ha).2⟩
      par := R.par, len := R.len, wv := R.wv, npn := R.npn, sfv := R.sfv, slen := R.slen }
/-- an object that nobody knows is changed -/
theorem Rel.poke (R : Rel f B st σ w H own) {D : Addr} {o o' : HO} (h : H D = some o) (hi : isIns o = false) (hG : f.G D = none) (hB : B D = none) (ho : ∀ j, D ∉ own j) : Rel f B st σ w (upd H D o') own :=
  { R with
    exG := fun a u q => by rw [upd_ne (fun e => by rw [e, hG] at q; cases q)]; exact R.exG a u q
    exB := fun a u q => by rw [upd_ne (fun e => by rw [e, hB] at q; cases q)]; exact R.exB a u q
    exI := fun a u q z => by
      have y := R.exI a u q z
      rw [upd_ne (fun e => by rw [e, h] at y; cases y; rw [hi] at z; cases z)]; exact y
    slot := fun i => (R.slot i).mono (Ex.refl _) fun a ha => upd_ne fun e => ho i (e ▸ ha)
    sfv := fun p dx e => by
      obtain ⟨a, b, v1, v2, c, d, q⟩ := R.sfv p dx e
      refine ⟨a, b, v1, v2, c, d, ?_⟩
      rw [upd_ne (fun e => by rw [e, h] at q; cases q; cases hi)]; exact q }
theorem Rel.wcongr (R : Rel f B st σ w H own) {w' : Nat → Option V} (h : ∀ i, i < st.length → w i = w' i) : Rel f B st σ w' H own := by
  have hn : f.n ≤ st.length := by rw [R.slen]; omega
  refine { R with slot := fun i => ?_, par := fun i v q => ?_, wv := fun i hi => by rw [← h i (by omega)]; exact R.wv i hi, sfv := fun p dx e => ?_ }
  · by_cases hi : i < st.length
    · rw [← h i hi]; exact R.slot i
    · have e : gt st i = .emp := by unfold gt; rw [List.getD_eq_getElem?_getD, List.getElem?_eq_none (by omega)]; rfl
      have x := R.slot i
      rw [e] at x ⊢
      exact x
  · obtain ⟨a, b, c⟩ := R.par i v q
    have := R.npn
    exact ⟨a, by rw [← h i (by omega)]; exact b, c⟩
  · obtain ⟨a, b, v1, v2, c, d, q⟩ := R.sfv p dx e
    have hs : st.length = f.n + 2 := by rw [R.slen, e]
    exact ⟨a, b, v1, v2, by rw [← h _ (by omega)]; exact c, by rw [← h _ (by omega)]; exact d, q⟩
theorem noOwn_cons {v : Nat} {vs : List Nat} : noOwn st (v :: vs) = (!(gt st v).own && noOwn st vs) := rfl
theorem gt_wipeS : ∀ (vs : List Nat) (j : Nat), gt (wipeS st vs) j = if j ∈ vs then .emp else gt st j
  | [], j => by simp [wipeS]
  | v :: vs, j => by
    unfold wipeS
    rw [gt_set, gt_wipeS vs j]
    by_cases h : j = v
    · subst h
      by_cases hl : j < (wipeS st vs).length
      · rw [if_pos ⟨rfl, hl⟩, if_pos (by simp)]
      · rw [if_neg (fun q => hl q.2), if_pos (by simp : j ∈ j :: vs)]
        split
        · rfl
        · rename_i hm
          have e := gt_wipeS vs j
          rw [if_neg hm] at e
          rw [← e]
          unfold gt
          rw [List.getD_eq_getElem?_getD, List.getElem?_eq_none (by omega)]
          rfl
    · rw [if_neg (fun q => h q.1)]
      by_cases hm : j ∈ vs
      · rw [if_pos hm, if_pos (by simp [hm])]
      · rw [if_neg hm, if_neg (by simp [hm, h])]
theorem noOwn_wipeS (vs : List Nat) : noOwn (wipeS st vs) vs = true := by
  unfold noOwn
  rw [List.all_eq_true]
  intro v hv
  rw [gt_wipeS, if_pos hv]
  rfl
theorem noOwn_mem {vs : List Nat} (h : noOwn st vs = true) {v : Nat} (hv : v ∈ vs) : (gt st v).own = false := by
  unfold noOwn at h
  rw [List.all_eq_true] at h
  simpa using h v hv
theorem Rel.wipe (R : Rel f B st σ w H own) : ∀ (vs : List Nat), noOwn st vs = true → (∀ v ∈ vs, v < f.n) → ∃ w' own', Rel f B (wipeS st vs) (L2.wipe σ vs) w' H own' ∧ ∀ i a, a ∈ own' i → a ∈ own i
  | [], _, _ => ⟨w, own, R, fun _ _ h => h⟩
  | v :: vs, h, hv => by
    rw [noOwn_cons] at h
    simp only [Bool.and_eq_true] at h
    obtain ⟨w', own', R1, s1⟩ := R.wipe vs h.2 fun x hx => hv x (by simp [hx])
    refine ⟨_, _, R1.assign (i := v) (r := .emp) (v := none) (ro := []) (hv v (by simp)) (fun q => ?_) (by simp) rfl (by simp) (by simp), fun i a ha => ?_⟩
    · have q := q.2
      rw [gt_wipeS] at q
      split at q
      · cases q
      · rw [q] at h; simp at h
    · have ha : a ∈ (if i = v then [] else own' i) := ha
      split at ha
      · cases ha
      · exact s1 i a ha
def backW (σ σ' : L2.St) : List Nat → L2.St
  | [] => σ'
  | v :: vs => (backW σ σ' vs).set v (σ.getD v none)
theorem backW_len (σ σ' : L2.St) : ∀ vs, (backW σ σ' vs).length = σ'.length
  | [] => rfl
  | v :: vs => by unfold backW; rw [List.length_set, backW_len σ σ' vs]
theorem backW_get (σ σ' : L2.St) : ∀ (vs : List Nat) (i : Nat), i < σ'.length → (backW σ σ' vs).getD i none = if i ∈ vs then σ.getD i none else σ'.getD i none
  | [], i, _ => by simp [backW]
  | v :: vs, i, h => by
    unfold backW
    rw [List.getD_eq_getElem?_getD, List.getElem?_set, backW_len]
    by_cases e : v = i
    · subst e
      rw [if_pos rfl, if_pos h, if_pos (by simp)]
      rfl
    · rw [if_neg e, ← List.getD_eq_getElem?_getD, backW_get σ σ' vs i h]
      have e' : ¬ i = v := fun q => e q.symm
      by_cases hm : i ∈ vs
      · rw [if_pos hm, if_pos (by simp [hm])]
      · rw [if_neg hm, if_neg (by simp [hm, e'])]
theorem wipe_get (σ : L2.St) : ∀ (vs : List Nat) (i : Nat), i ∉ vs → (L2.wipe σ vs).getD i none = σ.getD i none
  | [], i, _ => rfl
  | v :: vs, i, h => by
    show ((L2.wipe σ vs).set v none).getD i none = _
    rw [List.getD_eq_getElem?_getD, List.getElem?_set_ne (fun q => h (by simp [q])), ← List.getD_eq_getElem?_getD]
    exact wipe_get σ vs i fun q => h (by simp [q])
theorem backW_wipe (σ : L2.St) (vs : List Nat) : backW σ (L2.wipe σ vs) vs = σ := by
  apply List.ext_getElem?
  intro i
  have l1 : (backW σ (L2.wipe σ vs) vs).length = σ.length := by rw [backW_len, L2.wipe_length]
  by_cases h : i < σ.length
  · have e := backW_get σ (L2.wipe σ vs) vs i (by rw [L2.wipe_length]; exact h)
    have e2 : (backW σ (L2.wipe σ vs) vs).getD i none = σ.getD i none := by
      rw [e]
      split
      · rfl
      · rename_i hm; exact wipe_get σ vs i hm
    rw [List.getD_eq_getElem?_getD, List.getD_eq_getElem?_getD] at e2
    rw [List.getElem?_eq_getElem h, List.getElem?_eq_getElem (by omega)] at e2 ⊢
    simpa using e2
  · rw [List.getElem?_eq_none (by omega), List.getElem?_eq_none (by omega)]
theorem gt_backS (st0 st : Sto) : ∀ (vs : List Nat) (i : Nat), i ∉ vs → gt (backS st0 st vs) i = gt st i
  | [], _, _ => rfl
  | v :: vs, i, h => by
    unfold backS
    rw [gt_set_ne (fun q => h (by simp [q]))]
    exact gt_backS st0 st vs i fun q => h (by simp [q])
theorem gt_backS_in (st0 st : Sto) : ∀ (vs : List Nat) (i : Nat), i ∈ vs → gt (backS st0 st vs) i = gt st0 i ∨ gt (backS st0 st vs) i = .emp
  | v :: vs, i, h => by
    unfold backS
    rw [gt_set]
    split
    · rename_i q; rw [q.1]; exact .inl rfl
    · rename_i q
      by_cases hm : i ∈ vs
      · exact gt_backS_in st0 st vs i hm
      · have e : i = v := by simpa [hm] using h
        right
        unfold gt
        rw [List.getD_eq_getElem?_getD, List.getElem?_eq_none]
        · rfl
        · have : ¬ i < (backS st0 st vs).length := fun z => q ⟨e, e ▸ z⟩
          omega
theorem noOwn_back {st0 : Sto} {v : Nat} {vs : List Nat} (h0 : noOwn st0 (v :: vs) = true) (h : noOwn st (v :: vs) = true) : (gt (backS st0 st vs) v).own = false := by
  by_cases hm : v ∈ vs
  · rcases gt_backS_in st0 st vs v hm with e | e
    · rw [e]; exact noOwn_mem h0 (by simp)
    · rw [e]; rfl
  · rw [gt_backS _ _ _ _ hm]; exact noOwn_mem h (by simp)
/-- the slots of the block take their old values -/
theorem Rel.back {B1 H1 : Hp} {st1 : Sto} {σ1 : L2.St} {w1 : Nat → Option V} {own1 : Nat → List Addr} (R1 : Rel f B1 st1 σ1 w1 H1 own1) (R : Rel f B st σ w H own) (e : Ex B1 B) : ∀ (vs : List Nat), noOwn st1 vs = true → noOwn st vs = true → (∀ v ∈ vs, v < f.n) →
    ∃ w' own', Rel f B (backS st1 st vs) (backW σ1 σ vs) w' H own' ∧ (∀ i a, a ∈ own' i → a ∈ own i) ∧ ∀ i, f.n ≤ i → w' i = w i
  | [], _, _, _ => ⟨w, own, R, fun _ _ h => h, fun _ _ => rfl⟩
  | v :: vs, h0, h, hv => by
    have h0' := h0
    have h' := h
    rw [noOwn_cons] at h0' h'
    simp only [Bool.and_eq_true] at h0' h'
    obtain ⟨w', own', R2, s2, k2⟩ := R1.back R e vs h0'.2 h'.2 fun x hx => hv x (by simp [hx])
    have hvn : v < f.n := hv v (by simp)
    have x := R1.slot v
    have no := x.notOwn (noOwn_mem h0 (by simp))
    rw [no] at x
    have ns : gt st1 v ≠ .slf := fun q => by have := noOwn_mem h0 (show v ∈ v :: vs by simp); rw [q] at this; cases this
    refine ⟨_, _, R2.assign (i := v) (r := gt st1 v) (v := σ1.getD v none) (ro := []) hvn (fun q => ?_) ns ?_ (by simp) (by simp), fun i a ha => ?_, fun i hi => ?_⟩
    · rw [noOwn_back h0 h] at q; cases q.2
    · rw [← R1.wv v hvn]
      cases hs : gt st1 v with
      | dat d => rw [hs] at x; exact x.mono e (fun a ha => by cases ha)
      | emp => exact rfl
      | slf => exact absurd hs ns
      | _ => have := noOwn_mem h0 (show v ∈ v :: vs by simp); rw [hs] at this; cases this
    · have ha : a ∈ (if i = v then [] else own' i) := ha
      split at ha
      · cases ha
      · exact s2 i a ha
    · unfold upW
      rw [if_neg (by omega)]
      exact k2 i hi
end
section
variable {X : Cx} {M : En} {C : Addr}
theorem FxOk.lock {f : Fx} (F : FxOk X M C f) (D : Addr) (o : HO) : FxOk X M C (f.lock D o) := ⟨F.K, F.C, F.np, F.n, F.me⟩
theorem ok_lc {tg : Tg} {g : TG} {wi : TI} {src : MI} {tt : TT} {tst : MT} {te : TE} {elt : MD} {vs : List Nat} (hi : OkI X M C wi src) (hg : OkG X M C g tg) (ht : OkT X M C tt tst) (he : OkD X M C te elt) (hvs : ∀ i ∈ tgIx tg, i ∈ vs) : OkE X M C (tLc wi g tt te vs) (lcE tg vs src tst elt) := by
  intro f B st σ w H own r stF F R e Q q
  unfold lcE at e
  split at e
  · rename_i ds st1 h1
    split at e
    · rename_i hc
      split at e
      · rename_i accF st2 h2
        cases e
        simp only [Bool.and_eq_true] at hc
        have hv : ∀ v ∈ vs, v < f.n := fun v hv => by
          rw [F.n]; have := List.all_eq_true.mp hc.2 v hv; simpa using this
        refine hi f B st σ w H own ds st1 F R h1 _ fun J B1 H1 own1 e1 R1 wk => ?_
        intro D hD
        -- objects stay
        let fh : Fx := { f with H0 := H1 }
        have Fh : FxOk X M C fh := ⟨F.K, F.C, F.np, F.n, F.me⟩
        have Rh : Rel fh B1 st1 σ w H1 own1 := { R1 with exI := fun a o q _ => q }
        obtain ⟨w0, own0, R0, s0⟩ := Rh.wipe vs hc.1 hv
        refine ⟨fun i m H' => m = ds.length - i ∧ i ≤ ds.length ∧ ∃ B' st' w' own' acc xs, Ex B1 B' ∧ Rel fh B' st' (L2.wipe σ vs) w' H' own' ∧ H' D = some (.lst xs) ∧ Dats X.K B' xs acc ∧ (∀ j, D ∉ own' j) ∧ B' D = none ∧ noOwn st' vs = true ∧
          lcTurn tg vs tst elt M (ds.drop i) acc st' = some (accF, st2), ?_, ?_⟩
        · refine ⟨ds.length, by simp, Nat.zero_le _, B1, _, w0, own0, [], [], Ex.refl _, R0.alloc hD, upd_same, .nil, R0.ne hD, R0.freeB hD, noOwn_wipeS vs, by simpa using h2⟩
        rintro i m H' ⟨rfl, hil, B', st', w', own', acc, xs, e2, R2, d1, d2, d3, d4, d5, hl⟩
        have hGD : f.G D = none := R1.freeG hD
        have hB0 : f.B0 D = none := R1.ex0.fresh (R1.freeB hD)
        by_cases hlt : i < ds.length
        · refine .inr ⟨wk.goes i H' hlt (e2.trans R2.exB), fun H2 => i + 1 ≤ ds.length ∧ ∃ B' st' w' own' acc xs, Ex B1 B' ∧ Rel fh B' st' (L2.wipe σ vs) w' H2 own' ∧ H2 D = some (.lst xs) ∧ Dats X.K B' xs acc ∧ (∀ j, D ∉ own' j) ∧ B' D = none ∧ noOwn st' vs = true ∧
            lcTurn tg vs tst elt M (ds.drop (i + 1)) acc st' = some (accF, st2), fun H2 h2 => ⟨ds.length - (i + 1), by omega, rfl, h2⟩, fun x H2 y => ?_⟩
          have y2 := wk.yields i H' x H2 hlt (e2.trans R2.exB) y
          rw [← F.K] at y2
          have R3 := R2.lock d1 d4 d3
          have FL : FxOk X M C (fh.lock D (.lst xs)) := Fh.lock D _
          obtain ⟨d, B3, hd, e3, R4, x4⟩ := R3.item e2 y2
          have x4 : Dat X.K B3 x d := by rw [← F.K]; exact x4
          rw [drop_get hd] at hl
          unfold lcTurn at hl
          split at hl
          · rename_i s4 h4
            refine hg _ B3 st' _ w' H2 own' x d s4 FL R4 x4 h4 _ fun B5 σ5 w5 H5 own5 e5 R5 k5 => ?_
            have kw := k5 vs hvs
            have kw2 : L2.wipe (L2.wipe σ vs) vs = L2.wipe σ vs := by
              apply List.ext_getElem?
              intro j
              clear kw k5
              by_cases hj : j ∈ vs
              · have z : ∀ τ : L2.St, ∀ us : List Nat, j ∈ us → (L2.wipe τ us)[j]? = if j < τ.length then some none else none := by
                  intro τ us
                  induction us with
                  | nil => intro h; cases h
                  | cons v r ih =>
                    intro h
                    show ((L2.wipe τ r).set v none)[j]? = _
                    rw [List.getElem?_set, L2.wipe_length]
                    by_cases ev : v = j
                    · subst ev; simp
                    · rw [if_neg ev]
                      exact ih ((List.mem_cons.mp h).resolve_left fun q => ev q.symm)
                rw [z _ _ hj, z _ _ hj, L2.wipe_length]
              · have z : ∀ τ : L2.St, ∀ us : List Nat, j ∉ us → (L2.wipe τ us)[j]? = τ[j]? := by
                  intro τ us
                  induction us with
                  | nil => intro _; rfl
                  | cons v r ih =>
                    intro h
                    show ((L2.wipe τ r).set v none)[j]? = _
                    rw [List.getElem?_set_ne (fun q => h (by simp [q]))]
                    exact ih fun q => h (by simp [q])
                rw [z _ _ hj]
            rw [kw2] at kw
            refine ⟨kw, ?_⟩
            split at hl
            · rename_i s5 h5
              refine ht _ B5 s4 σ5 w5 H5 own5 _ _ FL R5 h5 _ fun B6 H6 own6 e6 R6 => ?_
              rw [if_pos rfl]
              split at hl
              · rename_i x7 s7 h7
                split at hl
                · rename_i hlim
                  split at hl
                  · rename_i hno
                    refine he _ B6 s5 σ5 w5 H6 own6 _ _ FL R6 h7 _ fun y B7 H7 own7 e7 R7 hy => ?_
                    obtain ⟨u1, u2, u3, R8⟩ := R7.unlock (f := fh) hGD hB0
                    obtain ⟨w9, own9, R9, s9⟩ := R8.wipe vs hno hv
                    rw [kw] at R9
                    have u3' : ∀ j, D ∉ own9 j := fun j hj => u3 j (s9 j D hj)
                    have ee : Ex B' B7 := ((e3.trans e5).trans e6).trans e7
                    have ll : xs.length < sizeLine := by rw [d2.length]; exact Nat.lt_of_lt_of_le hlim lim_line
                    exact ⟨xs, u1, ll, hlt, B7, _, w9, own9, acc ++ [x7], xs ++ [y], e2.trans ee, R9.poke u1 rfl hGD u2 u3', upd_same, (d2.mono ee).append (Dats.one hy), u3', u2, noOwn_wipeS vs, hl⟩
                  · cases hl
                · cases hl
              · cases hl
            · rename_i s5 h5
              split at hl
              · rename_i hno
                refine ht _ B5 s4 σ5 w5 H5 own5 _ _ FL R5 h5 _ fun B6 H6 own6 e6 R6 => ?_
                rw [if_neg (by simp)]
                obtain ⟨u1, u2, u3, R8⟩ := R6.unlock (f := fh) hGD hB0
                obtain ⟨w9, own9, R9, s9⟩ := R8.wipe vs hno hv
                rw [kw] at R9
                have u3' : ∀ j, D ∉ own9 j := fun j hj => u3 j (s9 j D hj)
                have ee : Ex B' B6 := (e3.trans e5).trans e6
                exact ⟨hlt, B6, _, w9, own9, acc, xs, e2.trans ee, R9, u1, d2.mono ee, u3', u2, noOwn_wipeS vs, hl⟩
              · cases hl
            · cases hl
          · cases hl
        · have hi' : i = ds.length := by omega
          subst hi'
          rw [List.drop_length] at hl
          have hl : some (acc, st') = some (accF, st2) := hl
          cases hl
          refine .inl ⟨wk.stops H' (e2.trans R2.exB), ?_⟩
          obtain ⟨w9, own9, R9, s9, k9⟩ := Rh.back R2 e2 vs hc.1 d5 hv
          rw [backW_wipe] at R9
          have wn : ∀ i, i < (backS st1 st2 vs).length → w9 i = w i := fun i hil => by
            by_cases hn : i < f.n
            · rw [R9.wv i hn, R1.wv i hn]
            · cases hsf : f.sf with
              | none =>
                have := R9.slen
                rw [show fh.sf = none from hsf] at this
                have : (backS st1 st2 vs).length = f.n := this
                omega
              | some pd =>
                obtain ⟨p, dx⟩ := pd
                have := R9.slen
                rw [show fh.sf = some (p, dx) from hsf] at this
                have : (backS st1 st2 vs).length = f.n + 2 := this
                obtain ⟨_, _, a1, a2, a3, a4, a5⟩ := R1.sfv p dx hsf
                obtain ⟨_, _, b1, b2, b3, b4, b5⟩ := R9.sfv p dx hsf
                have c := R9.exI p _ a5 rfl
                rw [b5] at c
                injection c with c
                injection c with _ _ c
                unfold flds at c
                simp at c
                have b3 : w9 f.n = some b1 := b3
                have b4 : w9 (f.n + 1) = some b2 := b4
                rcases (by omega : i = f.n ∨ i = f.n + 1) with rfl | rfl
                · rw [b3, a3, c.1]
                · rw [b4, a4, c.2]
          have RF : Rel f B' (backS st1 st2 vs) σ w H' own9 := { R9.wcongr wn with exI := fun a o q z => R9.exI a o (R1.exI a o q z) z }
          have d3' : ∀ j, D ∉ own9 j := fun j hj => d3 j (s9 j D hj)
          exact q _ B' H' own9 [D] (e1.trans e2) RF ⟨⟨D, xs, rfl, rfl, d1, by rw [F.K]; exact d2⟩, by simp, fun a ha => by
            have : a = D := by simpa using ha
            subst this
            exact ⟨hGD, d4, d3'⟩⟩
      · cases e
    · cases e
  · cases e
end
end Rb
namespace Rb
open PySem L2 PySem.Spec PyProof.Rows
/-! ### o[i] = v -/
def dput (es : List (PyData × PyData)) (k v : PyData) : List (PyData × PyData) :=
  if es.any fun e => PyData.eqv e.1 k then es.map (fun e => if PyData.eqv e.1 k then (e.1, v) else e) else es ++ [(k, v)]
def ddrop (es : List (PyData × PyData)) (k : PyData) : List (PyData × PyData) := es.filter fun e => !PyData.eqv e.1 k
def putOk (es : List (PyData × PyData)) (k : PyData) : Bool := (isKey k && es.all fun e => isKey e.1) || (isKeys k && es.all fun e => isKeys e.1)
def setD : SV → PyData → PyData → Option SV
  | .lst ds, .int k, d => (ixN ds.length k).map fun j => .lst (ds.set j d)
  | .dct es, k, d => if putOk es k && decide (es.length < lim) then some (.dct (dput es k d)) else none
  | _, _, _ => none
def has : SV → Bool
  | .emp => false
  | .slf => false
  | _ => true
/-- x[k] = e: first e, then k -/
def setIxS (i : Nat) (k e : ME) : MS := fun M st => match valE e M st with
  | some (d, st1) => if has (gt st1 i) then (match valE k M st1 with
    | some (x, st2) => match setD (gt st2 i) x d with
      | some s => some (.nx, st2.set i s)
      | none => none
    | none => none) else none
  | none => none
/-- the new item of x[k] op= e, ints -/
def augD : Operator → PyData → PyData → Option PyData
  | .Add, .int a, .int b => some (.int (a + b))
  | .Sub, .int a, .int b => some (.int (a - b))
  | _, _, _ => none
/-- an item of what the slot owns -/
def ixS : SV → PyData → Option PyData
  | .lst ds, x => ixD (.list ds) x
  | .dct es, x => ixD (.dict es) x
  | _, _ => none
def augIxS (op : Operator) (i : Nat) (k e : ME) : MS := fun M st => if has (gt st i) then (match valE k M st with
  | some (x, st1) => match ixS (gt st1 i) x with
    | some old => match valE e M st1 with
      | some (y, st2) => match augD op old y with
        | some new => match setD (gt st2 i) x new with
          | some s => some (.nx, st2.set i s)
          | none => none
        | none => none
      | none => none
    | none => none
  | none => none) else none
section
variable {X : Cx}
theorem Inv.retype {pins : List (Addr × Obj)} {σ : L2.St} {H : Hp} {s : Shared} {a : Addr} (I : Inv X pins σ H s) (e : H a = some (.dK [])) : Inv X pins σ (upd H a (.dT [])) s := by
  obtain ⟨z, hd, vs, rel, dd⟩ := dk_of I.hok e
  obtain ⟨o, es, ep, h1, h2, h3, h4, h5, h6⟩ := dd
  cases rel
  have hes : es.toList = [] := by
    cases h : es.toList with
    | nil => rfl
    | cons x r => rw [h] at h5; cases h5
  exact I.write (t' := s.toks) (x := a) (e := a) (by rw [e]; exact True.intro) (.inl rfl) (fun _ _ _ q => q) ⟨_, h1⟩ ⟨Nat.zero_le _, hd, [], .nil, o, es, ep, h1, h2, h3, by rw [hes]; rfl, List.nodup_nil⟩
def rSetDc : V → V → V → Hp → (Hp → Prop) → Prop := fun o i v H Q => ∃ a, o = .ref a ∧ ((∃ H', DPut H a i v H' ∧ Q H') ∨ ∃ b k, H a = some (.dK []) ∧ i = .ref b ∧ H b = some (.tup (k.map kV)) ∧ Q (upd H a (.dT [(k, v)])))
theorem upd_upd {H : Hp} {a : Addr} {x y : HO} : upd (upd H a x) a y = upd H a y := by
  funext b
  by_cases h : b = a
  · subst h; rw [upd_same, upd_same]
  · rw [upd_ne h, upd_ne h, upd_ne h]
theorem set_dc (hu : X.A.units + 1 < cLine) : PSet X rSetDc := by
  intro pins s σ H o i v ov iv u Q I ro ri rv h
  obtain ⟨a, rfl, h⟩ := h
  cases (show ov = Value.ref a from ro)
  rcases h with ⟨H', g, q⟩ | ⟨b, k, e, rfl, eb, q⟩
  · exact d_setItem hu I g ri rv fun s' I' => ⟨H', I', q⟩
  · have I1 := Inv.retype I e
    have g := DPut.t (H := upd H a (.dT [])) (a := a) (b := b) (k := k) (v := v) (kvs := []) upd_same (by rw [upd_ne (ne_of eb e (fun z => nomatch z))]; exact eb) (by rw [sizeLine_eq]; decide)
    have e2 : upd (upd H a (.dT [])) a (.dT (putK [] k v)) = upd H a (.dT [(k, v)]) := upd_upd
    rw [e2] at g
    exact d_setItem hu I1 g ri rv fun s' I' => ⟨_, I', q⟩
theorem PSet.or {r r' : TSet} (h : PSet X r) (h' : PSet X r') : PSet X (fun o i v H Q => r o i v H Q ∨ r' o i v H Q) := by
  intro pins s σ H o i v ov iv u Q I ro ri rv q
  rcases q with q | q
  · exact h pins s σ H o i v ov iv u Q I ro ri rv q
  · exact h' pins s σ H o i v ov iv u Q I ro ri rv q
def rSetA : TSet := fun o i v H Q => rSetL o i v H Q ∨ rSetDc o i v H Q
theorem set_any (hu : X.A.units + 1 < cLine) : PSet X rSetA := PSet.or set_list (set_dc hu)
def rGetL (K : PySem.W.Frag) : V → V → Hp → VK → Prop := fun o i H Q => ∃ p xs k v, o = .ref p ∧ i = .int k ∧ SqL K H p xs ∧ atI xs k = some v ∧ Q v H
theorem get_list : PGet X (rGetL X.K) := by
  intro pins s σ H o i ov iv Q I ro ri h
  obtain ⟨p, xs, k, v, rfl, rfl, hq, he, q⟩ := h
  cases (show ov = Value.ref p from ro)
  obtain ⟨t, rfl⟩ := ri
  obtain ⟨its, r, pl, hz⟩ := I.list hq
  obtain ⟨j, h1, h2, h3, h4, h5⟩ := atI_get he
  obtain ⟨w, ew, rw'⟩ := r.get h2
  have hl := r.length
  have hn := line63
  have fin : EP X pins σ Q w s := ⟨v, H, I, rw', q⟩
  by_cases h0 : 0 ≤ k
  · have hj : k.toNat = j := by
      rw [seqIndex_of h0 h5] at h1
      exact Option.some.inj h1
    exact wpAny_getItem_list pl.isList h0 (by omega) (by rw [hj]; simpa using ew) fin
  · have hj : (k + (its.toArray.size : Int)).toNat = j := by
      rw [seqIndex_neg (by omega) h4] at h1
      rw [List.size_toArray, ← hl]
      exact Option.some.inj h1
    exact wpAny_getItem_list_neg pl.isList (by omega) (by rw [List.size_toArray] <;> omega) (by omega) (by rw [hj]; simpa using ew) fin
def rGetDc : V → V → Hp → VK → Prop := fun o i H Q => ∃ a v, o = .ref a ∧ DGet H a i (some v) ∧ Q v H
theorem get_dc (hu : X.A.units + 1 < cLine) : PGet X rGetDc := by
  intro pins s σ H o i ov iv Q I ro ri h
  obtain ⟨a, v, rfl, g, q⟩ := h
  cases (show ov = Value.ref a from ro)
  exact d_getItem hu I g ri fun w' s' I' r' => ⟨v, H, I', r', q⟩
def rGetA (K : PySem.W.Frag) : V → V → Hp → VK → Prop := fun o i H Q => rGetL K o i H Q ∨ rGetDc o i H Q
theorem get_any (hu : X.A.units + 1 < cLine) : PGet X (rGetA X.K) := by
  intro pins s σ H o i ov iv Q I ro ri q
  rcases q with q | q
  · exact get_list pins s σ H o i ov iv Q I ro ri q
  · exact get_dc hu pins s σ H o i ov iv Q I ro ri q
def ipA : Operator → TIp
  | .Add => ipI fun i j => i + j
  | .Sub => ipI fun i j => i - j
  | _ => fun _ _ _ _ => False
theorem ip_any : ∀ op : Operator, PIp X op (ipA op) := by
  intro op
  cases op <;> first | exact ip_add | exact ip_sub | exact fun _ _ _ _ _ _ _ _ _ _ _ _ h => h.elim
end
section
variable {K : PySem.W.Frag} {B : Hp}
theorem eqv_key (e : PyData) (k : Key) (j : Key) (h : e = kP j) : PyData.eqv e (kP k) = decide (j = k) := by rw [h]; exact eqv_kP j k
theorem DKs.any (k : Key) : ∀ {kvs : List (Key × V)} {es : List (PyData × PyData)}, DKs K B kvs es → (es.any fun e => PyData.eqv e.1 (kP k)) = kvs.any fun kv => decide (kv.1 = k)
  | _, _, .nil => rfl
  | _, _, .cons _ r => by rw [List.any_cons, List.any_cons, DKs.any k r, eqv_kP]
theorem DTs.any (k : List Key) : ∀ {kvs : List (List Key × V)} {es : List (PyData × PyData)}, DTs K B kvs es → (es.any fun e => PyData.eqv e.1 (.tuple (k.map kP))) = kvs.any fun kv => decide (kv.1 = k)
  | _, _, .nil => rfl
  | _, _, .cons _ r => by
    rw [List.any_cons, List.any_cons, DTs.any k r]
    show (PyData.eqvAll _ _ || _) = _
    rw [eqv_kPs]
theorem DKs.repl {k : Key} {v : V} {d : PyData} (h : Dat K B v d) : ∀ {kvs : List (Key × V)} {es : List (PyData × PyData)}, DKs K B kvs es → DKs K B (kvs.map fun kv => if kv.1 = k then (kv.1, v) else kv) (es.map fun e => if PyData.eqv e.1 (kP k) then (e.1, d) else e)
  | _, _, .nil => .nil
  | _, _, .cons (k := j) q r => by
    rw [List.map_cons, List.map_cons, eqv_kP]
    by_cases e : j = k
    · rw [if_pos e, if_pos (decide_eq_true e)]; exact .cons h (DKs.repl h r)
    · rw [if_neg e, if_neg (by simp [e])]; exact .cons q (DKs.repl h r)
theorem DTs.repl {k : List Key} {v : V} {d : PyData} (h : Dat K B v d) : ∀ {kvs : List (List Key × V)} {es : List (PyData × PyData)}, DTs K B kvs es → DTs K B (kvs.map fun kv => if kv.1 = k then (kv.1, v) else kv) (es.map fun e => if PyData.eqv e.1 (.tuple (k.map kP)) then (e.1, d) else e)
  | _, _, .nil => .nil
  | _, _, .cons (k := j) q r => by
    rw [List.map_cons, List.map_cons]
    have e1 : PyData.eqv (.tuple (j.map kP)) (.tuple (k.map kP)) = decide (j = k) := eqv_kPs j k
    rw [e1]
    by_cases e : j = k
    · rw [if_pos e, if_pos (decide_eq_true e)]; exact .cons h (DTs.repl h r)
    · rw [if_neg e, if_neg (by simp [e])]; exact .cons q (DTs.repl h r)
theorem DKs.snoc {k : Key} {v : V} {d : PyData} (h : Dat K B v d) : ∀ {kvs : List (Key × V)} {es : List (PyData × PyData)}, DKs K B kvs es → DKs K B (kvs ++ [(k, v)]) (es ++ [(kP k, d)])
  | _, _, .nil => .cons h .nil
  | _, _, .cons q r => .cons q (DKs.snoc h r)
theorem DTs.snoc {k : List Key} {v : V} {d : PyData} (h : Dat K B v d) : ∀ {kvs : List (List Key × V)} {es : List (PyData × PyData)}, DTs K B kvs es → DTs K B (kvs ++ [(k, v)]) (es ++ [(.tuple (k.map kP), d)])
  | _, _, .nil => .cons h .nil
  | _, _, .cons q r => .cons q (DTs.snoc h r)
theorem DKs.put {k : Key} {v : V} {d : PyData} (h : Dat K B v d) {kvs : List (Key × V)} {es : List (PyData × PyData)} (r : DKs K B kvs es) : DKs K B (putK kvs k v) (dput es (kP k) d) := by
  unfold putK dput
  rw [r.any k]
  split
  · exact r.repl h
  · exact r.snoc h
theorem DTs.put {k : List Key} {v : V} {d : PyData} (h : Dat K B v d) {kvs : List (List Key × V)} {es : List (PyData × PyData)} (r : DTs K B kvs es) : DTs K B (putK kvs k v) (dput es (.tuple (k.map kP)) d) := by
  unfold putK dput
  rw [r.any k]
  split
  · exact r.repl h
  · exact r.snoc h
theorem DKs.drop {k : Key} : ∀ {kvs : List (Key × V)} {es : List (PyData × PyData)}, DKs K B kvs es → DKs K B (dropK kvs k) (ddrop es (kP k))
  | _, _, .nil => .nil
  | _, _, .cons (k := j) q r => by
    have ih := DKs.drop (k := k) r
    unfold dropK ddrop at ih ⊢
    rw [List.filter_cons, List.filter_cons, eqv_kP]
    by_cases e : j = k
    · rw [if_neg (by simp [e]), if_neg (by simp [e])]; exact ih
    · rw [if_pos (by simp [e]), if_pos (by simp [e])]; exact .cons q ih
theorem dput_ne {es : List (PyData × PyData)} {k v : PyData} : dput es k v ≠ [] := by
  unfold dput
  split
  · rename_i h
    intro q
    rw [List.map_eq_nil_iff] at q
    subst q
    cases h
  · simp
end
section
variable {f : Fx} {B : Hp} {st : Sto} {σ : L2.St} {w : Nat → Option V} {H : Hp} {own : Nat → List Addr}
/-- the slot's own object is replaced in its place -/
theorem Rel.one_set (R : Rel f B st σ w H own) {i : Nat} {s s' : SV} {p : Addr} {u u' : HO} (h : gt st i = s) (ho : own i = [p]) (hu : H p = some u) (hi : isIns u = false) (hs : s ≠ .emp) (hn : s ≠ .slf) (hx : SlotRel f.K f.C f.sf B (upd H p u') s' (w i) [p]) (hso : s'.own = true) :
    Rel f B (st.set i s') σ w (upd H p u') own := by
  have q := R.slot_set (i := i) (s := s') (o := [p]) (H' := upd H p u') (gt_lt (by rw [h]; exact hs)) (R.not0 (by rw [h]; exact hn)) hx (by simp) (fun a ha => by rw [ho]; exact ha)
    (fun a ha => upd_ne fun z => ha (by rw [ho, z]; simp)) (fun a o q z => by
      by_cases ha : a = p
      · subst ha; rw [hu] at q; cases q; rw [hi] at z; cases z
      · rw [upd_ne ha]; exact q) fun _ => hso
  have e : (fun j => if j = i then [p] else own j) = own := by
    funext j
    by_cases hj : j = i
    · subst hj; rw [if_pos rfl, ho]
    · rw [if_neg hj]
  rw [e] at q
  exact q
theorem Rel.put (R : Rel f B st σ w H own) {i : Nat} {s : SV} {k d : PyData} {v x y : V} (hw : w i = some v) (hk : Dat f.K B x k) (hd : Dat f.K B y d) (e : setD (gt st i) k d = some s) (Q : Hp → Prop) (q : ∀ H', Rel f B (st.set i s) σ w H' own → Q H') : rSetA v x y H Q := by
  have z := R.slot i
  cases hg : gt st i with
  | lst ds =>
    rw [hg] at e z
    obtain ⟨p, xs, e1, e2, e3, e4⟩ := z
    rw [hw] at e1; cases e1
    cases k with
    | int n =>
      have e : (ixN ds.length n).map (fun j => SV.lst (ds.set j d)) = some s := e
      cases hj : ixN ds.length n with
      | none => rw [hj] at e; cases e
      | some j =>
        rw [hj] at e
        cases e
        cases hk.dat_int
        exact .inl ⟨p, xs, n, j, rfl, rfl, e3, by rw [e4.length]; exact hj, q _ (R.lst_set hg hw (e4.set hd j))⟩
    | _ => cases e
  | dct es =>
    rw [hg] at e z
    obtain ⟨p, e1, e2, e3⟩ := z
    rw [hw] at e1; cases e1
    have e : (if (putOk es k && decide (es.length < lim)) = true then some (SV.dct (dput es k d)) else none) = some s := by
      rw [← e]; cases k <;> rfl
    split at e
    · rename_i ok
      cases e
      simp only [Bool.and_eq_true, decide_eq_true_eq] at ok
      obtain ⟨ok, hl⟩ := ok
      have hl : es.length < sizeLine := Nat.lt_of_lt_of_le hl lim_line
      have fin : ∀ u u', H p = some u → isIns u = false → DcAt f.K B (upd H p u') p (dput es k d) → Q (upd H p u') := fun u u' h1 h2 h3 =>
        q _ (R.one_set hg e2 h1 h2 (by simp) (by simp) ⟨p, hw, rfl, h3⟩ rfl)
      refine .inr ⟨p, rfl, ?_⟩
      unfold putOk at ok
      rw [Bool.or_eq_true, Bool.and_eq_true, Bool.and_eq_true] at ok
      rcases e3 with ⟨kvs, a, b⟩ | ⟨kvs, a, b, n⟩
      · by_cases hkk : isKey k = true
        · unfold isKey at hkk
          obtain ⟨kk, hk'⟩ := Option.isSome_iff_exists.mp hkk
          obtain ⟨rfl, rfl⟩ := key_dat hk hk'
          exact .inl ⟨_, DPut.k a (by rw [b.len]; exact hl), fin _ _ a rfl (.inl ⟨_, upd_same, b.put hd⟩)⟩
        · rcases ok with ok | ok
          · exact absurd ok.1 hkk
          · cases es with
            | cons q0 r =>
              have := List.all_eq_true.mp ok.2 q0 (by simp)
              exact (key_not_keys (b.keys q0 (by simp)) this).elim
            | nil =>
              cases b
              have hkt := ok.1
              cases k with
              | tuple xs =>
                unfold isKeys at hkt
                obtain ⟨ks, hks⟩ := Option.isSome_iff_exists.mp hkt
                cases hk with
                | tup s r =>
                  obtain ⟨rfl, rfl⟩ := keys_dat r hks
                  exact .inr ⟨_, ks, a, rfl, R.exB _ _ s, fin _ _ a rfl (.inr ⟨[(ks, y)], upd_same, .cons hd .nil, dput_ne⟩)⟩
              | none => cases hkt
              | bool _ => cases hkt
              | int _ => cases hkt
              | str _ => cases hkt
              | list _ => cases hkt
              | dict _ => cases hkt
      · have hkt : isKeys k = true := by
          rcases ok with ok | ok
          · cases es with
            | nil => exact absurd rfl n
            | cons q0 r =>
              have := List.all_eq_true.mp ok.2 q0 (by simp)
              exact (key_not_keys this (b.keys q0 (by simp))).elim
          · exact ok.1
        cases k with
        | tuple xs =>
          unfold isKeys at hkt
          obtain ⟨ks, hks⟩ := Option.isSome_iff_exists.mp hkt
          cases hk with
          | tup s r =>
            obtain ⟨rfl, rfl⟩ := keys_dat r hks
            exact .inl ⟨_, DPut.t a (R.exB _ _ s) (by rw [b.len]; exact hl), fin _ _ a rfl (.inr ⟨_, upd_same, b.put hd, dput_ne⟩)⟩
        | none => cases hkt
        | bool _ => cases hkt
        | int _ => cases hkt
        | str _ => cases hkt
        | list _ => cases hkt
        | dict _ => cases hkt
    · cases e
  | emp => rw [hg] at e; cases k <;> cases e
  | slf => rw [hg] at e; cases k <;> cases e
  | dat _ => rw [hg] at e; cases k <;> cases e
  | std _ _ => rw [hg] at e; cases k <;> cases e
end
/-- the reading of a slot -/
def SlotT (X : Cx) (M : En) (C : Addr) (i : Nat) (t : TE) : Prop := ∀ (f : Fx) B st σ w H own, FxOk X M C f → Rel f B st σ w H own → ∀ v, w i = some v → ∀ Q : VK, Q v H → t σ H Q
section
variable {f : Fx} {B : Hp} {st : Sto} {σ : L2.St} {w : Nat → Option V} {H : Hp} {own : Nat → List Addr}
theorem Rel.val_at (R : Rel f B st σ w H own) {i : Nat} (h : has (gt st i) = true) : ∃ v, w i = some v := by
  have z := R.slot i
  cases hg : gt st i with
  | emp => rw [hg] at h; cases h
  | slf => rw [hg] at h; cases h
  | dat _ => rw [hg] at z; obtain ⟨_, v, e, _⟩ := z; exact ⟨v, e⟩
  | lst _ => rw [hg] at z; obtain ⟨p, xs, e, _⟩ := z; exact ⟨_, e⟩
  | dct _ => rw [hg] at z; obtain ⟨p, e, _⟩ := z; exact ⟨_, e⟩
  | std _ _ => rw [hg] at z; obtain ⟨p, dx, l, v1, xs, e, _⟩ := z; exact ⟨_, e⟩
end
section
variable {X : Cx} {M : En} {C : Addr}
theorem oks_setIx {i : Nat} {tv to tk : TE} {k e : ME} (hv : OkE X M C tv e) (ho : SlotT X M C i to) (hk : OkE X M C tk k) : OkS X M C (tAsg tv (gSub to tk rSetA)) (setIxS i k e) := by
  intro f B st σ w H own o st1 F R ev D qn qr
  unfold setIxS at ev
  split at ev
  · rename_i d s1 h1
    split at ev
    · rename_i hh
      split at ev
      · rename_i x s2 h2
        split at ev
        · rename_i s h3
          cases ev
          refine hv.val f B st σ w H own _ _ F R h1 _ fun y B1 H1 own1 e1 R1 hy => ?_
          obtain ⟨v, hw⟩ := R1.val_at hh
          refine ho f B1 s1 σ w H1 own1 F R1 v hw _ ?_
          refine hk.val f B1 s1 σ w H1 own1 _ _ F R1 h2 _ fun x' B2 H2 own2 e2 R2 hx => ?_
          rw [← F.K] at hx hy
          exact R2.put hw hx (hy.mono e2) h3 _ fun H3 R3 => qn rfl B2 σ w H3 own2 (e1.trans e2) R3
        · cases ev
      · cases ev
    · cases ev
  · cases ev
theorem aug_ok {op : Operator} {x y : V} {a b c : PyData} {B H : Hp} {K : PySem.W.Frag} (hx : Dat K B x a) (hy : Dat K B y b) (e : augD op a b = some c) (Q : VK) (q : ∀ v, Dat K B v c → Q v H) : ipA op x y H Q := by
  unfold augD at e
  split at e
  · cases e; cases hx.dat_int; cases hy.dat_int; exact ⟨_, _, rfl, rfl, q _ (.int _)⟩
  · cases e; cases hx.dat_int; cases hy.dat_int; exact ⟨_, _, rfl, rfl, q _ (.int _)⟩
  · cases e
theorem oks_augIx {op : Operator} {i : Nat} {tv to tk : TE} {k e : ME} (ho : SlotT X M C i to) (hk : OkE X M C tk k) (hv : OkE X M C tv e) : OkS X M C (tAugS to tk tv (rGetA X.K) (ipA op) rSetA) (augIxS op i k e) := by
  intro f B st σ w H own o st1 F R ev D qn qr
  unfold augIxS at ev
  split at ev
  · rename_i hh
    split at ev
    · rename_i x s1 h1
      split at ev
      · rename_i old ho'
        split at ev
        · rename_i y s2 h2
          split at ev
          · rename_i new hnew
            split at ev
            · rename_i s hs
              cases ev
              obtain ⟨v, hw⟩ := R.val_at hh
              refine ho f B st σ w H own F R v hw _ ?_
              refine hk.val f B st σ w H own _ _ F R h1 _ fun x' B1 H1 own1 e1 R1 hx => ?_
              -- the old item
              have go : ∀ ov, Dat X.K B1 ov old → tv σ H1 fun y H4 => ipA op ov y H4 fun z H5 => rSetA v x' z H5 fun H6 => D.nx σ H6 := fun ov hov =>
                hv.val f B1 s1 σ w H1 own1 _ _ F R1 h2 _ fun yv B2 H2 own2 e2 R2 hy => aug_ok (hov.mono e2) hy hnew _ fun zv hz => by
                  rw [← F.K] at hx hz
                  exact R2.put hw (hx.mono e2) hz hs _ fun H3 R3 => qn rfl B2 σ w H3 own2 (e1.trans e2) R3
              cases hg : gt s1 i with
              | lst ds =>
                have hd := R1.peek (p := .pl i) (v := v) (d := .list ds) hw (by show frz (gt s1 i) = _; rw [hg]; rfl)
                rw [F.K] at hd
                rw [hg] at ho'
                cases x with
                | int n =>
                  cases hx.dat_int
                  obtain ⟨p, xs, rfl, a1, a2⟩ := hd.list R1.exB
                  obtain ⟨ov, b1, b2⟩ := atI_map a2 ho'
                  exact .inl ⟨p, xs, n, ov, rfl, rfl, a1, b1, go ov b2⟩
                | _ => cases ho'
              | dct es =>
                have hd := R1.peek (p := .pl i) (v := v) (d := .dict es) hw (by show frz (gt s1 i) = _; rw [hg]; rfl)
                rw [F.K] at hd
                rw [hg] at ho'
                have ho' : (if keyOk es x = true then dlook es x else none) = some old := ho'
                split at ho'
                · rename_i ok
                  obtain ⟨p, rfl, a1⟩ := hd.dict R1.exB
                  rcases dc_get R1.exB a1 (hx.mono R1.exB) ok with ⟨xv, yv, g, l, hd2⟩ | ⟨g, l⟩
                  · rw [l] at ho'; cases ho'
                    exact .inr ⟨p, xv, rfl, g, go xv hd2⟩
                  · rw [l] at ho'; cases ho'
                · cases ho'
              | _ => rw [hg] at ho'; cases ho'
            · cases ev
          · cases ev
        · cases ev
      · cases ev
    · cases ev
  · cases ev
end
end Rb
namespace Rb
open PySem L2 PySem.Spec PyProof.Rows
/-! ### built-in functions -/
def intsD : List PyData → Option (List Int)
  | [] => some []
  | .int i :: r => (intsD r).map (i :: ·)
  | _ :: _ => none
def pairsD : List PyData → Option (List (Int × Int))
  | [] => some []
  | .tuple [.int i, .int j] :: r => (pairsD r).map ((i, j) :: ·)
  | _ :: _ => none
def leI (x y : Int) : Bool := decide (x ≤ y)
def leP (p q : Int × Int) : Bool := decide (p.1 < q.1) || (decide (p.1 = q.1) && decide (p.2 ≤ q.2))
def pairD (p : Int × Int) : PyData := .tuple [.int p.1, .int p.2]
def srtD (ds : List PyData) : Option (List PyData) := match intsD ds with
  | some ns => some ((ns.mergeSort leI).map .int)
  | none => match pairsD ds with
    | some ps => some ((ps.mergeSort leP).map pairD)
    | none => none
def keysI : List (PyData × PyData) → Option (List Int)
  | [] => some []
  | (.int i, _) :: r => (keysI r).map (i :: ·)
  | _ :: _ => none
def dkOnly (es : List (PyData × PyData)) : Bool := es.all fun e => isKey e.1
inductive Blt where
  | len | sum | min2 | max2 | sorted | abs | str | int | tuple | list | dict
def maxI (i j : Int) : Int := if j > i then j else i
def minI (i j : Int) : Int := if j < i then j else i
def absI (i : Int) : Int := if i < 0 then -i else i
def bltD : Blt → List PyData → Option SV
  | .len, [.list ds] => some (.dat (.int (ds.length : Nat)))
  | .len, [.tuple ds] => some (.dat (.int (ds.length : Nat)))
  | .len, [.dict es] => if dkOnly es then some (.dat (.int (es.length : Nat))) else none
  | .len, [.str z] => if z.length ≤ lim then some (.dat (.int (z.length : Nat))) else none
  | .sum, [.list ds] => (intsD ds).map fun ns => .dat (.int ns.sum)
  | .min2, [.int i, .int j] => some (.dat (.int (minI i j)))
  | .max2, [.int i, .int j] => some (.dat (.int (maxI i j)))
  | .sorted, [.list ds] => (srtD ds).map .lst
  | .sorted, [.dict es] => match keysI es with
    | some ns => if ns.length < 64 then some (.lst ((ns.mergeSort leI).map .int)) else none
    | none => none
  | .abs, [.int i] => some (.dat (.int (absI i)))
  | .str, [.int i] => if i.natAbs.log2 < 1920 then some (.dat (.str (toString i))) else none
  | .int, [.int i] => some (.dat (.int i))
  | .int, [.bool b] => some (.dat (.int (if b then 1 else 0)))
  | .tuple, [.list ds] => some (.dat (.tuple ds))
  | .tuple, [.tuple ds] => some (.dat (.tuple ds))
  | .list, [.list ds] => some (.lst ds)
  | .list, [.tuple ds] => some (.lst ds)
  | .dict, [.dict es] => if dkOnly es then some (.dct es) else none
  | _, _ => none
def bltE (b : Blt) (as : MA) : ME := fun M st => match as M st with
  | some (ps, st1) => match peeks st1 ps with
    | some ds => rs (bltD b ds) st1
    | none => none
  | none => none
def rOr (a b : List V → Hp → VK → Prop) : List V → Hp → VK → Prop := fun xs H Q => a xs H Q ∨ b xs H Q
def rLenD : List V → Hp → VK → Prop := fun xs H Q => ∃ a kvs, xs = [.ref a] ∧ Rd H a (.dK kvs) ∧ Q (.int (kvs.length : Nat)) H
def rBlt (K : PySem.W.Frag) : Blt → List V → Hp → VK → Prop
  | .len => rOr (fun xs H Q => ∃ x n, xs = [x] ∧ LenV K x H n ∧ Q (.int n) H) rLenD
  | .sum => rSum K
  | .min2 => fun xs H Q => ∃ i j, xs = [.int i, .int j] ∧ Q (.int (if j < i then j else i)) H
  | .max2 => fun xs H Q => ∃ i j, xs = [.int i, .int j] ∧ Q (.int (if j > i then j else i)) H
  | .sorted => rOr (rSortedI K) (rOr (rSortedPO K) (fun xs H Q => ∃ (a : Addr) (kvs : List (Key × V)) (ks : List Int), xs = [.ref a] ∧ Rd H a (.dK kvs) ∧ kvs.map (·.1) = ks.map Sum.inl ∧ ks.length < 64 ∧
      ∀ (ys : List Int) (p : Addr), ys.Perm ks → ys.Pairwise (· ≤ ·) → H p = none → Q (.ref p) (upd H p (.lst (ys.map V.int)))))
  | .abs => fun xs H Q => ∃ i, xs = [.int i] ∧ Q (.int (if i < 0 then -i else i)) H
  | .str => fun xs H Q => ∃ i, xs = [.int i] ∧ i.natAbs.log2 < 1920 ∧ Q (.str (toString i)) H
  | .int => fun xs H Q => (∃ i, xs = [.int i] ∧ Q (.int i) H) ∨ ∃ k, xs = [.bl k] ∧ Q (.int (if k then 1 else 0)) H
  | .tuple => fun xs H Q => ∃ p ys, xs = [.ref p] ∧ ((SqL K H p ys ∧ ∀ l, H l = none → Q (.ref l) (upd H l (.tup ys))) ∨ (SqT K H p ys ∧ Q (.ref p) H))
  | .list => fun xs H Q => ∃ p ys, xs = [.ref p] ∧ (SqL K H p ys ∨ SqT K H p ys) ∧ ∀ l, H l = none → Q (.ref l) (upd H l (.lst ys))
  | .dict => fun xs H Q => ∃ (a : Addr) (kvs : List (Key × V)), xs = [.ref a] ∧ Rd H a (.dK kvs) ∧ ∀ p, H p = none → Q (.ref p) (upd H p (.dK kvs))
def bltV : Blt → Value
  | .len => .builtin "len"
  | .sum => .builtin "sum"
  | .min2 => .builtin "min"
  | .max2 => .builtin "max"
  | .sorted => .builtin "sorted"
  | .abs => .builtin "abs"
  | .str => .type "str"
  | .int => .type "int"
  | .tuple => .type "tuple"
  | .list => .type "list"
  | .dict => .type "dict"
section
variable {X : Cx}
theorem CallR.alt {v : Value} {a b : List V → Hp → VK → Prop} (h : CallR X v a) (h' : CallR X v b) : CallR X v (rOr a b) := by
  intro pins s σ H xs us Q I r q
  rcases q with q | q
  · exact h pins s σ H xs us Q I r q
  · exact h' pins s σ H xs us Q I r q
theorem call_lenD : CallR X (.builtin "len") rLenD := by
  intro pins s σ H xs us Q I r h
  obtain ⟨a, kvs, rfl, e, q⟩ := h
  obtain ⟨u, rfl, rx⟩ := vals1 r
  cases (show u = Value.ref a from rx)
  exact d_len I e fun t s' I' => ⟨.int (kvs.length : Nat), H, I', ⟨t, rfl⟩, q⟩
theorem blt_call (hc : X.calm = true) : ∀ b : Blt, CallR X (bltV b) (rBlt X.K b)
  | .len => CallR.alt call_len call_lenD
  | .sum => cr_sum hc
  | .min2 => call_min2 hc
  | .max2 => call_max2 hc
  | .sorted => CallR.alt cr_sortedI (CallR.alt cr_sortedPO (call_sortedDI hc))
  | .abs => call_abs
  | .str => call_str_int
  | .int => call_int1
  | .tuple => call_tuple_of
  | .list => call_list_of
  | .dict => call_dictD
end
section
variable {K : PySem.W.Frag} {B : Hp}
theorem intsD_map : ∀ {ds : List PyData} {ns : List Int}, intsD ds = some ns → ds = ns.map PyData.int
  | [], _, h => by cases h; rfl
  | .int i :: r, ns, h => by
    have h : (intsD r).map (i :: ·) = some ns := h
    obtain ⟨m, h1, rfl⟩ := Option.map_eq_some_iff.mp h
    rw [List.map_cons, ← intsD_map h1]
  | .none :: _, _, h => by cases h
  | .bool _ :: _, _, h => by cases h
  | .str _ :: _, _, h => by cases h
  | .list _ :: _, _, h => by cases h
  | .tuple _ :: _, _, h => by cases h
  | .dict _ :: _, _, h => by cases h
theorem intsD_ints (ns : List Int) : intsD (ns.map PyData.int) = some ns := by
  induction ns with
  | nil => rfl
  | cons n r ih => show (intsD (r.map PyData.int)).map (n :: ·) = _; rw [ih]; rfl
theorem pairsD_cons {d : PyData} {r : List PyData} {ps : List (Int × Int)} (h : pairsD (d :: r) = some ps) : ∃ p pr, d = pairD p ∧ ps = p :: pr ∧ pairsD r = some pr := by
  unfold pairsD at h
  split at h
  · rename_i e; cases e
  · rename_i i j r' e
    cases e
    obtain ⟨m, h1, rfl⟩ := Option.map_eq_some_iff.mp h
    exact ⟨(i, j), m, rfl, rfl, h1⟩
  · cases h
theorem pairsD_map : ∀ {ds : List PyData} {ps : List (Int × Int)}, pairsD ds = some ps → ds = ps.map pairD
  | [], _, h => by unfold pairsD at h; cases h; rfl
  | d :: r, ps, h => by
    obtain ⟨p, pr, rfl, rfl, h1⟩ := pairsD_cons h
    rw [List.map_cons, ← pairsD_map h1]
theorem pairsD_pairs (ps : List (Int × Int)) : pairsD (ps.map pairD) = some ps := by
  induction ps with
  | nil => rfl
  | cons p r ih => show (pairsD (r.map pairD)).map (p :: ·) = _; rw [ih]; rfl
theorem keysI_dk : ∀ {es : List (PyData × PyData)} {ns : List Int} {kvs : List (Key × V)}, keysI es = some ns → DKs K B kvs es → kvs.map (·.1) = ns.map Sum.inl := by
  intro es ns kvs h d
  induction es generalizing ns kvs with
  | nil => cases d; cases h; rfl
  | cons q r ih =>
    cases d with
    | cons hd t =>
      rename_i k v d kr
      cases k with
      | inl i =>
        have h : (keysI r).map (i :: ·) = some ns := h
        obtain ⟨m, h1, rfl⟩ := Option.map_eq_some_iff.mp h
        rw [List.map_cons, List.map_cons, ih h1 t]
      | inr x => cases h
theorem keysI_key : ∀ {es : List (PyData × PyData)} {ns : List Int}, keysI es = some ns → dkOnly es = true
  | [], _, _ => rfl
  | (.int i, d) :: r, ns, h => by
    have h : (keysI r).map (i :: ·) = some ns := h
    obtain ⟨m, h1, rfl⟩ := Option.map_eq_some_iff.mp h
    show (isKey (.int i) && dkOnly r) = true
    rw [keysI_key h1]
    rfl
  | (.none, _) :: _, _, h => by cases h
  | (.bool _, _) :: _, _, h => by cases h
  | (.str _, _) :: _, _, h => by cases h
  | (.list _, _) :: _, _, h => by cases h
  | (.tuple _, _) :: _, _, h => by cases h
  | (.dict _, _) :: _, _, h => by cases h
theorem dk_of_only {H : Hp} {p : Addr} {es : List (PyData × PyData)} (h : DcAt K B H p es) (o : dkOnly es = true) : ∃ kvs, H p = some (.dK kvs) ∧ DKs K B kvs es := by
  rcases h with h | ⟨kvs, a, b, n⟩
  · exact h
  · exfalso
    cases es with
    | nil => exact n rfl
    | cons q r => exact key_not_keys (List.all_eq_true.mp o q (by simp)) (b.keys q (by simp))
/-- two sorted lists with the same items are the same -/
theorem srt_uniq {α : Type} {le : α → α → Prop} (anti : ∀ a b, le a b → le b a → a = b) : ∀ {l m : List α}, l.Pairwise le → m.Pairwise le → l.Perm m → l = m
  | [], m, _, _, p => by rw [List.nil_perm.mp p]
  | a :: l, m, hl, hm, p => by
    cases m with
    | nil => have := p.length_eq; simp at this
    | cons b m =>
      have ha : a ∈ b :: m := p.mem_iff.mp (by simp)
      have hb : b ∈ a :: l := p.mem_iff.mpr (by simp)
      have e : a = b := by
        rcases List.mem_cons.mp ha with e | ha
        · exact e
        · rcases List.mem_cons.mp hb with e | hb
          · exact e.symm
          · exact anti a b ((List.pairwise_cons.mp hl).1 b hb) ((List.pairwise_cons.mp hm).1 a ha)
      subst e
      rw [srt_uniq anti (List.pairwise_cons.mp hl).2 (List.pairwise_cons.mp hm).2 p.cons_inv]
theorem sortI_pw (ns : List Int) : (ns.mergeSort leI).Pairwise (· ≤ ·) := by
  have h := List.pairwise_mergeSort (le := leI) (fun a b c h1 h2 => by unfold leI at *; simp at *; omega) (fun a b => by unfold leI; simp; omega) ns
  exact h.imp fun {a b} h => by unfold leI at h; simpa using h
theorem sortI_of {ns ys : List Int} (p : ys.Perm ns) (h : ys.Pairwise (· ≤ ·)) : ys = ns.mergeSort leI :=
  srt_uniq (fun a b h1 h2 => Int.le_antisymm h1 h2) h (sortI_pw ns) (p.trans (List.mergeSort_perm ns leI).symm)
theorem leP_iff {p q : Int × Int} : leP p q = true ↔ SrtO.lexB q p = false := by
  rw [SrtO.lexB_no]
  unfold leP
  simp
  omega
theorem sortP_pw (ns : List (Int × Int)) : (ns.mergeSort leP).Pairwise (fun a b => leP a b = true) :=
  List.pairwise_mergeSort (le := leP) (fun a b c h1 h2 => by unfold leP at *; simp at *; omega) (fun a b => by unfold leP; simp; omega) ns
theorem sortP_of {ns ys : List (Int × Int)} (p : ys.Perm ns) (h : ys.Pairwise (fun a b => leP a b = true)) : ys = ns.mergeSort leP :=
  srt_uniq (le := fun a b => leP a b = true) (fun a b h1 h2 => by
    unfold leP at h1 h2
    simp at h1 h2
    apply Prod.ext <;> omega) h (sortP_pw ns) (p.trans (List.mergeSort_perm ns leP).symm)
/-- the pair at a place -/
def kOf (H : Hp) : V → Int × Int
  | .ref t => match H t with
    | some (.tup [.int i, .int j]) => (i, j)
    | _ => (0, 0)
  | _ => (0, 0)
theorem Dats.pairs {H : Hp} (e : Ex B H) : ∀ {vs : List V} {ps : List (Int × Int)}, Dats K B vs (ps.map pairD) → vs.map (kOf H) = ps ∧ ∀ v ∈ vs, (∃ t, v = .ref t ∧ H t = some (.tup [.int (kOf H v).1, .int (kOf H v).2])) ∧ Dat K B v (pairD (kOf H v))
  | _, [], .nil => ⟨rfl, fun _ h => by cases h⟩
  | _, p :: r, .cons hd t => by
    obtain ⟨h1, h2⟩ := Dats.pairs e t
    have hd' := hd
    cases hd with
    | tup s q =>
      rename_i a xs
      cases q with
      | cons q1 q =>
        cases q with
        | cons q2 q =>
          cases q
          cases q1.dat_int
          cases q2.dat_int
          have hs := e _ _ s
          have hk : kOf H (.ref a) = p := by unfold kOf; simp only; rw [hs]
          refine ⟨by rw [List.map_cons, h1, hk], fun v hv => ?_⟩
          rcases List.mem_cons.mp hv with rfl | hv
          · rw [hk]; exact ⟨⟨a, rfl, hs⟩, hd'⟩
          · exact h2 v hv
theorem Dats.of_each {vs : List V} {g : V → PyData} (h : ∀ v ∈ vs, Dat K B v (g v)) : Dats K B vs (vs.map g) := by
  induction vs with
  | nil => exact .nil
  | cons v r ih => exact .cons (h v (by simp)) (ih fun x hx => h x (by simp [hx]))
end
section
variable {X : Cx} {M : En} {C : Addr} {f : Fx} {B : Hp} {st : Sto} {σ : L2.St} {w : Nat → Option V} {H : Hp} {own : Nat → List Addr}
theorem HD.tupD {K : PySem.W.Frag} {B H : Hp} {v : V} {ds : List PyData} (h : HD K B H v (.tuple ds)) : Dat K B v (.tuple ds) := by
  cases h with | of h => exact h
theorem Rel.res_dk (R : Rel f B st σ w H own) {p : Addr} {kvs : List (Key × V)} {es : List (PyData × PyData)} (h : H p = none) (hx : DKs f.K B kvs es) : Rel f B st σ w (upd H p (.dK kvs)) own ∧ Res f B (upd H p (.dK kvs)) own (.dct es) (.ref p) [p] :=
  ⟨R.alloc h, ⟨p, rfl, rfl, .inl ⟨kvs, upd_same, hx⟩⟩, by simp, fun a ha => by
    have : a = p := by simpa using ha
    subst this
    exact ⟨R.freeG h, R.freeB h, fun i => R.ne h i⟩⟩
theorem blt_ok {b : Blt} {vs : List V} {ds : List PyData} {r : SV} (F : FxOk X M C f) (R : Rel f B st σ w H own) (hv : Paired (fun v d => HD X.K B H v d) vs ds) (e : bltD b ds = some r) (Q : VK)
    (q : ∀ v B1 H1 own1 ro, Ex B B1 → Rel f B1 st σ w H1 own1 → Res f B1 H1 own1 r v ro → Q v H1) : rBlt X.K b vs H Q := by
  have qd : ∀ {v d}, r = .dat d → Dat X.K B v d → Q v H := fun {v d} h hd => q v B H own [] (Ex.refl _) R (by rw [h]; exact res_dat (by rw [F.K]; exact hd))
  have ql : ∀ {xs ds p}, r = .lst ds → Dats X.K B xs ds → H p = none → Q (.ref p) (upd H p (.lst xs)) := fun {xs ds p} h hd hp => by
    obtain ⟨R1, x1⟩ := R.res_lst hp (by rw [F.K]; exact hd)
    exact q _ B _ own [p] (Ex.refl _) R1 (by rw [h]; exact x1)
  have one : ∀ {d}, Paired (fun v d => HD X.K B H v d) vs [d] → ∃ v, vs = [v] ∧ HD X.K B H v d := fun {d} h => by
    cases h with | cons h t => cases t; exact ⟨_, rfl, h⟩
  have two : ∀ {c d}, Paired (fun v d => HD X.K B H v d) vs [c, d] → ∃ v u, vs = [v, u] ∧ HD X.K B H v c ∧ HD X.K B H u d := fun {c d} h => by
    cases h with | cons h t => cases t with | cons h' t => cases t; exact ⟨_, _, rfl, h, h'⟩
  unfold bltD at e
  split at e
  · cases e
    obtain ⟨v, rfl, h⟩ := one hv
    obtain ⟨p, xs, rfl, a, c⟩ := h.list R.exB
    exact .inl ⟨_, _, rfl, .inl ⟨xs, a, c.length.symm⟩, qd rfl (.int _)⟩
  · cases e
    obtain ⟨v, rfl, h⟩ := one hv
    obtain ⟨p, xs, rfl, a, c⟩ := h.tuple R.exB
    exact .inl ⟨_, _, rfl, .inr ⟨xs, SqT.of a, c.length.symm⟩, qd rfl (.int _)⟩
  · split at e
    · rename_i ok
      cases e
      obtain ⟨v, rfl, h⟩ := one hv
      obtain ⟨p, rfl, a⟩ := h.dict R.exB
      obtain ⟨kvs, a1, a2⟩ := dk_of_only a ok
      exact .inr ⟨p, kvs, rfl, .inl a1, by rw [a2.len]; exact qd rfl (.int _)⟩
    · cases e
  · split at e
    · rename_i hl
      cases e
      obtain ⟨v, rfl, h⟩ := one hv
      cases h.str
      exact .inl ⟨_, _, rfl, ⟨Nat.le_trans hl lim_line, rfl⟩, qd rfl (.int _)⟩
    · cases e
  · obtain ⟨ns, h1, rfl⟩ := Option.map_eq_some_iff.mp e
    obtain ⟨v, rfl, h⟩ := one hv
    obtain ⟨p, xs, rfl, a, c⟩ := h.list R.exB
    have := intsD_map h1
    subst this
    cases c.of_ints
    exact ⟨p, ns, rfl, a, qd rfl (.int _)⟩
  · cases e
    obtain ⟨v, u, rfl, h, h'⟩ := two hv
    cases h.int; cases h'.int
    exact ⟨_, _, rfl, qd rfl (.int _)⟩
  · cases e
    obtain ⟨v, u, rfl, h, h'⟩ := two hv
    cases h.int; cases h'.int
    exact ⟨_, _, rfl, qd rfl (.int _)⟩
  · obtain ⟨os, h1, rfl⟩ := Option.map_eq_some_iff.mp e
    obtain ⟨v, rfl, h⟩ := one hv
    obtain ⟨p, xs, rfl, a, c⟩ := h.list R.exB
    unfold srtD at h1
    split at h1
    · rename_i ns hn
      cases h1
      have := intsD_map hn
      subst this
      cases c.of_ints
      refine .inl ⟨p, ns, rfl, a, fun ns' p' hp hs hf => ?_⟩
      rw [sortI_of hp hs]
      exact ql rfl (Dats.ints _) hf
    · split at h1
      · rename_i ps hp
        cases h1
        have := pairsD_map hp
        subst this
        obtain ⟨k1, k2⟩ := Dats.pairs R.exB c
        refine .inr (.inl ⟨p, xs, kOf H, rfl, a, fun x hx => (k2 x hx).1, fun ys p' hs hb hf => ?_⟩)
        refine ql rfl ?_ hf
        have e1 : ys.map (kOf H) = ps.mergeSort leP := by
          refine sortP_of (by rw [← k1]; exact hb.perm.map _) ?_
          rw [List.pairwise_map]
          exact hs.imp fun {x y} h => leP_iff.mpr h
        rw [← e1, List.map_map]
        exact Dats.of_each fun y hy => (k2 y (hb.perm.mem_iff.mp hy)).2
      · cases h1
  · split at e
    · rename_i ns hk
      split at e
      · rename_i hl
        cases e
        obtain ⟨v, rfl, h⟩ := one hv
        obtain ⟨p, rfl, a⟩ := h.dict R.exB
        obtain ⟨kvs, a1, a2⟩ := dk_of_only a (keysI_key hk)
        refine .inr (.inr ⟨p, kvs, ns, rfl, .inl a1, keysI_dk hk a2, hl, fun ns' p' hp hs hf => ?_⟩)
        rw [sortI_of hp hs]
        exact ql rfl (Dats.ints _) hf
      · cases e
    · cases e
  · cases e
    obtain ⟨v, rfl, h⟩ := one hv
    cases h.int
    exact ⟨_, rfl, qd rfl (.int _)⟩
  · split at e
    · rename_i hl
      cases e
      obtain ⟨v, rfl, h⟩ := one hv
      cases h.int
      exact ⟨_, rfl, hl, qd rfl (.str _)⟩
    · cases e
  · cases e
    obtain ⟨v, rfl, h⟩ := one hv
    cases h.int
    exact .inl ⟨_, rfl, qd rfl (.int _)⟩
  · cases e
    obtain ⟨v, rfl, h⟩ := one hv
    cases h.bl
    exact .inr ⟨_, rfl, qd rfl (.int _)⟩
  · cases e
    obtain ⟨v, rfl, h⟩ := one hv
    obtain ⟨p, xs, rfl, a, c⟩ := h.list R.exB
    refine ⟨p, xs, rfl, .inl ⟨a, fun l hl => ?_⟩⟩
    rw [← F.K] at c
    obtain ⟨B1, e1, R1, x1⟩ := R.res_tup hl c
    exact q _ B1 _ own [] e1 R1 (res_dat x1)
  · cases e
    obtain ⟨v, rfl, h⟩ := one hv
    have h0 := h.tupD
    obtain ⟨p, xs, rfl, a, c⟩ := h.tuple R.exB
    exact ⟨p, xs, rfl, .inr ⟨SqT.of a, qd rfl h0⟩⟩
  · cases e
    obtain ⟨v, rfl, h⟩ := one hv
    obtain ⟨p, xs, rfl, a, c⟩ := h.list R.exB
    exact ⟨p, xs, rfl, .inl a, fun l hl => ql rfl c hl⟩
  · cases e
    obtain ⟨v, rfl, h⟩ := one hv
    obtain ⟨p, xs, rfl, a, c⟩ := h.tuple R.exB
    exact ⟨p, xs, rfl, .inr (SqT.of a), fun l hl => ql rfl c hl⟩
  · split at e
    · rename_i ok
      cases e
      obtain ⟨v, rfl, h⟩ := one hv
      obtain ⟨p, rfl, a⟩ := h.dict R.exB
      obtain ⟨kvs, a1, a2⟩ := dk_of_only a ok
      refine ⟨p, kvs, rfl, .inl a1, fun l hl => ?_⟩
      rw [← F.K] at a2
      obtain ⟨R1, x1⟩ := R.res_dk hl a2
      exact q _ B _ own [l] (Ex.refl _) R1 x1
    · cases e
  · cases e
theorem ok_blt {b : Blt} {ta : TA} {as : MA} (ha : OkA X M C ta as) : OkE X M C (tCB (rBlt X.K b) ta) (bltE b as) := by
  intro f B st σ w H own r st1 F R e Q q
  unfold bltE at e
  split at e
  · rename_i ps s1 h1
    split at e
    · rename_i ds h2
      obtain ⟨h3, rfl⟩ := rs_some e
      refine ha f B st σ w H own ps _ F R h1 _ fun vs B1 H1 own1 e1 R1 hp => ?_
      rw [← F.K] at hp
      have pk := R1.peeks hp h2
      rw [F.K] at pk
      exact blt_ok F R1 pk h3 Q fun v B2 H2 own2 ro e2 R2 x => q v B2 H2 own2 ro (e1.trans e2) R2 x
    · cases e
  · cases e
end
end Rb
namespace Rb
open PySem L2 PySem.Spec PyProof.Rows
/-! ### slices -/
def OkP (X : Cx) (M : En) (C : Addr) (t : TO) (m : En → Sto → Option (Option Int × Sto)) : Prop := ∀ f B st σ w H own d st1, FxOk X M C f → Rel f B st σ w H own → m M st = some (d, st1) →
  ∀ Q : Option Int → Hp → Prop, (∀ B1 H1 own1, Ex B B1 → Rel f B1 st1 σ w H1 own1 → Q d H1) → t σ H Q
def rSlc (K : PySem.W.Frag) : V → Option Int → Option Int → Hp → VK → Prop := fun x lo hi H Q => rSlL K x lo hi H Q ∨ (rSlA K x lo hi H Q ∨ rSlS x lo hi H Q)
section
variable {X : Cx} {M : En} {C : Addr}
theorem slc_any : SlR X (rSlc X.K) := SlR.or sl_list (SlR.or sl_tupA sl_str)
theorem okp_no : OkP X M C tNoPart noP := by
  intro f B st σ w H own d st1 F R e Q q
  cases e
  exact q B H own (Ex.refl _) R
theorem okp_some {t : TE} {m : ME} (h : OkE X M C t m) : OkP X M C (tPart t) (partE m) := by
  intro f B st σ w H own d st1 F R e Q q
  unfold partE at e
  split at e
  · rename_i i s1 h1
    cases e
    refine h.val f B st σ w H own _ _ F R h1 _ fun v B1 H1 own1 e1 R1 x => ?_
    cases x.dat_int
    exact ⟨i, rfl, q B1 H1 own1 e1 R1⟩
  · cases e
theorem Dats.cut {K : PySem.W.Frag} {B : Hp} {xs : List V} {ds : List PyData} (h : Dats K B xs ds) (lo hi : Option Int) : Dats K B (cutV xs lo hi) (cutD ds lo hi) := by
  unfold cutV cutD
  rw [h.length]
  exact (h.drop _).take _
theorem cutD_whole {α : Type} {xs : List α} {lo hi : Option Int} (h : HT.sIx xs.length 0 lo = 0 ∧ HT.sIx xs.length xs.length hi = xs.length) : cutD xs lo hi = xs := by
  unfold cutD
  rw [h.1, h.2]
  simp
theorem ok_slc {ta : TE} {tl th : TO} {a : MO} {lo hi : En → Sto → Option (Option Int × Sto)} (ha : OkO X M C ta a) (hl : OkP X M C tl lo) (hh : OkP X M C th hi) : OkE X M C (tSl (rSlc X.K) ta tl th) (slcE a lo hi) := by
  intro f B st σ w H own r st1 F R e Q q
  unfold slcE at e
  split at e
  · rename_i p s1 h1
    split at e
    · rename_i l s2 h2
      split at e
      · rename_i h s3 h3
        split at e
        · rename_i x h4
          obtain ⟨h5, rfl⟩ := rs_some e
          refine ha f B st σ w H own p s1 F R h1 _ fun v B1 H1 own1 e1 R1 hp => ?_
          refine hl f B1 s1 σ w H1 own1 l s2 F R1 h2 _ fun B2 H2 own2 e2 R2 => ?_
          refine hh f B2 s2 σ w H2 own2 h _ F R2 h3 _ fun B3 H3 own3 e3 R3 => ?_
          have hp := hp.mono (e2.trans e3)
          rw [← F.K] at hp
          have pk := R3.peek hp h4
          have e03 := e1.trans (e2.trans e3)
          cases x with
          | list ds =>
            cases h5
            obtain ⟨a, xs, rfl, c1, c2⟩ := pk.list R3.exB
            rw [F.K] at c1
            refine .inl ⟨a, xs, rfl, c1, fun p hp => ?_⟩
            obtain ⟨R4, x4⟩ := R3.res_lst hp (c2.cut l h)
            exact q _ B3 _ own3 [p] e03 R4 x4
          | tuple ds =>
            cases h5
            have h0 := pk.tupD
            obtain ⟨a, xs, rfl, c1, c2⟩ := pk.tuple R3.exB
            refine .inr (.inl ⟨a, xs, rfl, SqT.of c1, fun hw => ?_, fun hw p hp => ?_⟩)
            · rw [c2.length] at hw
              rw [cutD_whole hw] at q
              exact q _ B3 _ own3 [] e03 R3 (res_dat h0)
            · obtain ⟨B4, e4, R4, x4⟩ := R3.res_tup hp (c2.cut l h)
              exact q _ B4 _ own3 [] (e03.trans e4) R4 (res_dat x4)
          | str z =>
            have h5 : (if z.length ≤ lim then some (SV.dat (.str (cutS z l h))) else none) = some r := h5
            split at h5
            · rename_i hz
              cases h5
              cases pk.str
              exact .inr (.inr ⟨z, rfl, Nat.le_trans hz lim_line, q _ B3 _ own3 [] e03 R3 (res_dat (.str _))⟩)
            · cases h5
          | _ => cases h5
        · cases e
      · cases e
    · cases e
  · cases e
end
/-! ### methods of what a slot owns -/
def appE (i : Nat) (a : ME) : ME := fun M st => match gt st i with
  | .lst _ => match valE a M st with
    | some (d, st1) => match gt st1 i with
      | .lst ds => if ds.length < lim then some (.dat .none, st1.set i (.lst (ds ++ [d]))) else none
      | _ => none
    | none => none
  | _ => none
def popE (i : Nat) : ME := fun _ st => match gt st i with
  | .lst ds => match ds[ds.length - 1]? with
    | some d => some (.dat d, st.set i (.lst ds.dropLast))
    | none => none
  | _ => none
def popK (i : Nat) (k : ME) : ME := fun M st => match gt st i with
  | .dct _ => match valE k M st with
    | some (x, st1) => match gt st1 i with
      | .dct es => if isKey x && dkOnly es then (match dlook es x with
        | some d => some (.dat d, st1.set i (.dct (ddrop es x)))
        | none => none) else none
      | _ => none
    | none => none
  | _ => none
/-- the clearing of a list that nobody holds -/
def tmpClr (m : ME) : ME := fun M st => match m M st with
  | some (.lst _, st1) => some (.dat .none, st1)
  | _ => none
def getE1 (a k : MO) : ME := fun M st => match a M st with
  | some (p, st1) => match peek st1 p with
    | some (.dict _) => match k M st1 with
      | some (q, st2) => match peek st2 p, peek st2 q with
        | some (.dict es), some x => if keyOk es x then some (.dat ((dlook es x).getD .none), st2) else none
        | _, _ => none
      | none => none
    | _ => none
  | none => none
def tyD : PyData → String
  | .none => "NoneType"
  | .bool _ => "bool"
  | .int _ => "int"
  | .str _ => "str"
  | .list _ => "list"
  | .tuple _ => "tuple"
  | .dict _ => "dict"
inductive Tn where
  | int | bool | str | list | tuple
def Tn.nm : Tn → String
  | .int => "int"
  | .bool => "bool"
  | .str => "str"
  | .list => "list"
  | .tuple => "tuple"
def isD : Tn → PyData → Bool
  | .int, .int _ => true
  | .int, .bool _ => true
  | .bool, .bool _ => true
  | .str, .str _ => true
  | .list, .list _ => true
  | .tuple, .tuple _ => true
  | _, _ => false
def isiE (T : Tn) (a : MO) : ME := fun M st => match a M st with
  | some (p, st1) => match peek st1 p with
    | some d => some (.dat (.bool (isD T d)), st1)
    | none => none
  | none => none
theorem kit_tab : ∀ (T : Tn) (d : PyData), kitB (tyD d) T.nm = some (isD T d) := by
  intro T d
  cases T <;> cases d <;> (simp only [tyD, Tn.nm, isD]; decide +kernel)
section
variable {X : Cx} {M : En} {C : Addr}
theorem tyX_of {K : PySem.W.Frag} {B H : Hp} {v : V} {d : PyData} (e : Ex B H) (h : HD K B H v d) : TyX K H v (.type (tyD d)) := by
  cases d with
  | none => cases h.non; exact .base .non
  | bool b => cases h.bl; exact .base (.bl b)
  | int b => cases h.int; exact .base (.int b)
  | str b => cases h.str; exact .base (.str b)
  | list ds =>
    obtain ⟨p, xs, rfl, a, _⟩ := h.list e
    rcases a with (a | ⟨o, a⟩) | ⟨o, its, n, a, b, _⟩
    · exact .base (.lst a)
    · exact .base (.frz a)
    · exact .kList a b
  | tuple ds =>
    obtain ⟨p, xs, rfl, a, _⟩ := h.tuple e
    exact .base (.tup a)
  | dict es =>
    obtain ⟨p, rfl, a⟩ := h.dict e
    rcases a with ⟨kvs, a, _⟩ | ⟨kvs, a, _⟩
    · exact .base (.dK a)
    · exact .base (.dT a)
theorem ok_isi {T : Tn} {ta : TE} {a : MO} (ha : OkO X M C ta a) : OkE X M C (tCB (rIsi X.K) (tCons ta (tCons (tC (.ty T.nm)) tNil))) (isiE T a) := by
  intro f B st σ w H own r st1 F R e Q q
  unfold isiE at e
  split at e
  · rename_i p s1 h1
    split at e
    · rename_i d h2
      cases e
      refine ha f B st σ w H own p _ F R h1 _ fun v B1 H1 own1 e1 R1 hp => ?_
      rw [← F.K] at hp
      have pk := R1.peek hp h2
      rw [F.K] at pk
      exact ⟨v, .ty T.nm, _, _, isD T d, rfl, .ty _, tyX_of R1.exB pk, kit_ty (kit_tab T d), q _ B1 H1 own1 [] e1 R1 (res_dat (.bl _))⟩
    · cases e
  · cases e
theorem ty_list {K : PySem.W.Frag} {H : Hp} {p : Addr} {xs : List V} (h : H p = some (.lst xs)) : tyV K "list" (.ref p) H := .inl ⟨rfl, xs, .inl (.inl h)⟩
theorem ok_app {i : Nat} {to ta : TE} {a : ME} (ho : SlotT X M C i to) (ha : OkE X M C ta a) : OkE X M C (tBM X.K "list" rAppend to (tCons ta tNil)) (appE i a) := by
  intro f B st σ w H own r st1 F R e Q q
  unfold appE at e
  split at e
  · rename_i ds0 h0
    split at e
    · rename_i d s1 h1
      split at e
      · rename_i ds h2
        split at e
        · rename_i hl
          cases e
          obtain ⟨p, xs, a1, a2, a3, a4⟩ := R.lst_at h0
          refine ho f B st σ w H own F R _ a1 _ ⟨ty_list a3, ?_⟩
          refine ha.val f B st σ w H own _ _ F R h1 _ fun v B1 H1 own1 e1 R1 x => ?_
          obtain ⟨p', xs', b1, b2, b3, b4⟩ := R1.lst_at h2
          rw [a1] at b1; cases b1
          rw [← F.K] at x
          have R2 := R1.lst_set h2 a1 (b4.append (Dats.one x))
          exact ⟨p, xs', v, rfl, rfl, b3, by rw [b4.length]; exact Nat.lt_of_lt_of_le hl lim_line, q _ B1 _ own1 [] e1 R2 (res_dat .non)⟩
        · cases e
      · cases e
    · cases e
  · cases e
theorem Dats.dropLast {K : PySem.W.Frag} {B : Hp} {xs : List V} {ds : List PyData} (h : Dats K B xs ds) : Dats K B xs.dropLast ds.dropLast := by
  rw [List.dropLast_eq_take, List.dropLast_eq_take, h.length]
  exact h.take _
theorem ok_pop {i : Nat} {to : TE} (ho : SlotT X M C i to) : OkE X M C (tBM0 X.K "list" rPop to) (popE i) := by
  intro f B st σ w H own r st1 F R e Q q
  unfold popE at e
  split at e
  · rename_i ds h0
    split at e
    · rename_i d h1
      cases e
      obtain ⟨p, xs, a1, a2, a3, a4⟩ := R.lst_at h0
      obtain ⟨v, b1, b2⟩ := a4.get h1
      have R2 := R.lst_set h0 a1 a4.dropLast
      exact ho f B st σ w H own F R _ a1 _ ⟨ty_list a3, p, xs, v, rfl, rfl, a3, by rw [a4.length]; exact b1, q _ B _ own [] (Ex.refl _) R2 (res_dat b2)⟩
    · cases e
  · cases e
theorem ok_popK {i : Nat} {to tk : TE} {k : ME} (ho : SlotT X M C i to) (hk : OkE X M C tk k) : OkE X M C (tDPop1 to tk) (popK i k) := by
  intro f B st σ w H own r st1 F R e Q q
  unfold popK at e
  split at e
  · rename_i es0 h0
    split at e
    · rename_i x s1 h1
      split at e
      · rename_i es h2
        split at e
        · rename_i ok
          split at e
          · rename_i d h3
            cases e
            have z := R.slot i
            rw [h0] at z
            obtain ⟨p, a1, a2, a3⟩ := z
            refine ho f B st σ w H own F R _ a1 _ ⟨p, rfl, ?_, ?_⟩
            · rcases a3 with ⟨kvs, a3, _⟩ | ⟨kvs, a3, _⟩
              · exact .inl ⟨kvs, .inl a3⟩
              · exact .inr ⟨kvs, .inl a3⟩
            refine hk.val f B st σ w H own _ _ F R h1 _ fun v B1 H1 own1 e1 R1 hx => ?_
            have z := R1.slot i
            rw [h2] at z
            obtain ⟨p', b1, b2, b3⟩ := z
            rw [a1] at b1; cases b1
            simp only [Bool.and_eq_true] at ok
            obtain ⟨kvs, c1, c2⟩ := dk_of_only b3 ok.2
            have ok1 := ok.1
            unfold isKey at ok1
            obtain ⟨kk, hk'⟩ := Option.isSome_iff_exists.mp ok1
            obtain ⟨rfl, rfl⟩ := key_dat hx hk'
            rcases c2.look kk with ⟨xv, yv, g1, g2, g3⟩ | ⟨g1, g2⟩
            · rw [g2] at h3; cases h3
              have R2 := R1.one_set (s' := .dct (ddrop es (kP kk))) (u' := .dK (dropK kvs kk)) h2 b2 c1 rfl (by simp) (by simp) ⟨p, a1, rfl, .inl ⟨_, upd_same, c2.drop⟩⟩ rfl
              exact ⟨kvs, kk, xv, c1, rfl, g1, q _ B1 _ own1 [] e1 R2 (res_dat g3)⟩
            · rw [g2] at h3; cases h3
          · cases e
        · cases e
      · cases e
    · cases e
  · cases e
theorem ok_tmpClr {t : TE} {m : ME} (h : OkE X M C t m) : OkE X M C (tBM0 X.K "list" rClear t) (tmpClr m) := by
  intro f B st σ w H own r st1 F R e Q q
  unfold tmpClr at e
  split at e
  · rename_i ds s1 h1
    cases e
    refine h f B st σ w H own _ _ F R h1 _ fun v B1 H1 own1 ro e1 R1 x => ?_
    obtain ⟨⟨p, xs, a1, a2, a3, a4⟩, x2, x3⟩ := x
    cases a1; subst a2
    obtain ⟨y1, y2, y3⟩ := x3 p (by simp)
    exact ⟨ty_list a3, p, xs, rfl, rfl, a3, q _ B1 _ own1 [] e1 (R1.poke a3 rfl y1 y2 y3) (res_dat .non)⟩
  · cases e
theorem ok_get1 {ta tk : TE} {a k : MO} (ha : OkO X M C ta a) (hk : OkO X M C tk k) : OkE X M C (tDGet1 ta tk) (getE1 a k) := by
  intro f B st σ w H own r st1 F R e Q q
  unfold getE1 at e
  split at e
  · rename_i p s1 h1
    split at e
    · rename_i es0 h2
      split at e
      · rename_i q' s2 h3
        split at e
        · rename_i es x h4 h5
          split at e
          · rename_i ok
            cases e
            refine ha f B st σ w H own _ _ F R h1 _ fun v B1 H1 own1 e1 R1 hp => ?_
            rw [← F.K] at hp
            obtain ⟨a, rfl, c⟩ := (R1.peek hp h2).dict R1.exB
            refine ⟨a, rfl, ?_, ?_⟩
            · rcases c with ⟨kvs, a3, _⟩ | ⟨kvs, a3, _⟩
              · exact .inl ⟨kvs, .inl a3⟩
              · exact .inr ⟨kvs, .inl a3⟩
            refine hk f B1 s1 σ w H1 own1 _ _ F R1 h3 _ fun y B2 H2 own2 e2 R2 hq => ?_
            rw [← F.K] at hq
            have pk := R2.peek (hp.mono e2) h4
            have pq := HD.mono (B1 := B2) (R2.peek hq h5) R2.exB
            obtain ⟨a', e', c⟩ := pk.dict R2.exB
            cases e'
            rcases dc_get R2.exB c pq ok with ⟨xv, yv, g, l, hd2⟩ | ⟨g, l⟩
            · refine ⟨_, g, ?_⟩
              rw [l] at q
              exact q _ B2 _ own2 [] (e1.trans e2) R2 (res_dat hd2)
            · refine ⟨_, g, ?_⟩
              rw [l] at q
              exact q _ B2 _ own2 [] (e1.trans e2) R2 (res_dat .non)
          · cases e
        · cases e
      · cases e
    · cases e
  · cases e
/-! ### the fields of the own object -/
theorem fld_slot (hme : M.me = true) {g : Str} {k : Nat} (hk : (g = Str.ofString "points" ∧ k = 0) ∨ (g = Str.ofString "states" ∧ k = 1)) (hc : Cls X.K C) (hn : NoAttr X.K C g) : SlotT X M C (M.nv + k) (tFld X.K (tVar 0) g) := by
  intro f B st σ w H own F R v hw Q q
  have hs := F.me
  rw [hme] at hs
  obtain ⟨⟨p, dx⟩, hp⟩ := Option.isSome_iff_exists.mp hs
  obtain ⟨a1, a2, v1, v2, a3, a4, a5⟩ := R.sfv p dx hp
  have z := R.slot 0
  rw [a2] at z
  obtain ⟨p', dx', z1, z2, z3⟩ := z
  rw [hp] at z1; cases z1
  have h0 : 0 < M.nv := by have := R.npn; rw [← F.n]; omega
  refine var_real h0 f B st σ w H own F R _ z2 _ ?_
  rw [F.C] at a5
  rw [F.n] at a3 a4
  refine ⟨p, C, dx, _, v, rfl, a5, hc, hn, ?_, q⟩
  rcases hk with ⟨rfl, rfl⟩ | ⟨rfl, rfl⟩
  · rw [Nat.add_zero, a3] at hw; cases hw; rfl
  · rw [a4] at hw; cases hw; rfl
end
end Rb
namespace Rb
open PySem L2
/-! ### what must be seen of an expression's shape -/
def notStar : Expr → Bool
  | .Starred _ _ => false
  | _ => true
theorem star_cons {e : Expr} (h : notStar e = true) (es : List Expr) (env : Env) : starEach (e :: es) env = (false, eval e env) :: starEach es env := by
  cases e <;> first | rfl | cases h
theorem star_no : ∀ {es : List Expr} (env : Env), es.all notStar = true → (starEach es env).any (·.1) = false
  | [], _, _ => rfl
  | e :: es, env, h => by
    simp only [List.all_cons, Bool.and_eq_true] at h
    rw [star_cons h.1, List.any_cons, star_no env h.2]
    rfl
theorem star_each : ∀ {es : List Expr} (env : Env), es.all notStar = true → starEach es env = es.map fun e => (false, eval e env)
  | [], _, _ => rfl
  | e :: es, env, h => by
    simp only [List.all_cons, Bool.and_eq_true] at h
    rw [star_cons h.1, star_each env h.2]
    rfl
theorem back_no (pos : Pos) : ∀ l : List (Bool × Sem Value), (backTo pos l).any (·.1) = l.any (·.1)
  | [] => rfl
  | x :: r => by
    show (x.1 || (backTo pos r).any (·.1)) = (x.1 || r.any (·.1))
    rw [back_no pos r]
theorem star_back {es : List Expr} (env : Env) (pos : Pos) (h : es.all notStar = true) : (backTo pos (starEach es env)).any (·.1) = false := by rw [back_no, star_no env h]
theorem star_one {e : Expr} (h : notStar e = true) (env : Env) : starEach [e] env = [(false, eval e env)] := by rw [star_cons h]; rfl
theorem asg_map {e : Expr} (h : notStar e = true) (es : List Expr) (env : Env) : (assignEach (e :: es) env).map (·.2) = assign e env :: (assignEach es env).map (·.2) := by
  cases e <;> first | rfl | cases h
theorem asg_len : ∀ (es : List Expr) (env : Env), (assignEach es env).length = es.length
  | [], _ => rfl
  | e :: es, env => by
    have : (assignEach (e :: es) env).length = (assignEach es env).length + 1 := by cases e <;> rfl
    rw [this, asg_len es env]
    rfl
theorem asg_star : ∀ {es : List Expr} (env : Env), es.all notStar = true → (assignEach es env).findIdx? (·.1) = none
  | [], _, _ => rfl
  | e :: es, env, h => by
    simp only [List.all_cons, Bool.and_eq_true] at h
    have hs : assignEach (e :: es) env = (false, assign e env) :: assignEach es env := by cases e <;> first | rfl | cases h.1
    rw [hs, List.findIdx?_cons]
    rw [if_neg (by simp), asg_star env h.2]
    rfl
/-- no comprehension -/
def notLc : Expr → Bool
  | .ListComp _ _ _ _ => false
  | .SetComp _ _ _ _ => false
  | .DictComp _ _ _ _ _ => false
  | _ => true
theorem swap_no {e : Expr} (h : notLc e = true) (t : Option Expr) (l : Nat) (env : Env) : swapsWith e t l env = pure false := by
  cases e <;> first | rfl | cases h
theorem swapSole_no {e t : Expr} (h : notLc e = true) (l : Nat) (env : Env) : swapsWithSole [t] e l env = pure false := swap_no h _ _ _
def notTup : Expr → Bool
  | .Tuple _ _ _ => false
  | _ => true
theorem swapped_no {e t : Expr} (h : notTup e = true) (env : Env) : swappedStores [t] e env = pure none := by
  unfold swappedStores
  cases t <;> (try rfl) <;> (cases e <;> first | rfl | cases h)
/-- its truth is that of its value -/
def plainTest : Expr → Bool
  | .UnaryOp .Not _ _ => false
  | .BoolOp _ _ _ => false
  | .IfExp _ _ _ _ => false
  | .Compare _ _ _ _ => false
  | _ => true
theorem test_plain {e : Expr} (h : plainTest e = true) (env : Env) (whole : Sem Value) : isTrue e env whole = (do let v ← whole; standAt e.pos; holding [v] (truthy v)) := by
  cases e <;> first
    | rfl
    | (cases h; done)
    | (rename_i op x p; cases op <;> first | rfl | cases h)
def plainBase : Expr → Bool
  | .Call (.Name id _) _ _ _ => id != "super"
  | _ => true
theorem base_plain {o : Expr} (h : plainBase o = true) (attr : Str) (env : Env) (whole : Sem Value) : attributeBase o attr env whole = whole := by
  unfold attributeBase
  split
  · rename_i id p pos
    have h : (id != "super") = true := h
    rw [h]
    rfl
  · rfl
def notSlice : Expr → Bool
  | .Slice _ _ _ _ => false
  | _ => true
theorem plain_ix {b : Expr} (h : notSlice b = true) : PlainIx b := by
  intro o i
  cases b <;> first | rfl | cases h
theorem aug_plain {i : Expr} (h : notSlice i = true) (ov iv new : Value) : augStore i ov iv new = (do holding [new, ov, iv] (setItem ov iv new); release [new, ov, iv] []; pure .next) := by
  cases i <;> first | rfl | cases h
def notSet : Expr → Bool
  | .Set _ _ _ => false
  | _ => true
theorem folded_no {e : Expr} (h : notSet e = true) (env : Env) (x : Value) : foldedSetIterable e env x = pure x := by
  cases e <;> first | rfl | cases h
theorem behind_no {e : Expr} (h : notSet e = true) (op : CmpOp) : behindInMarks op e = false := by
  cases e <;> first | rfl | cases h
theorem last_no {a b : Expr} (h : notSet b = true) (o1 o2 : CmpOp) : lastMarks [o1, o2] [a, b] = false := by
  show behindInMarks o2 b = false
  exact behind_no h o2
/-- assignment to o[i] -/
theorem asg_sub {o i : Expr} (h : notSlice i = true) (pos : Pos) (env : Env) (v : Value) : assign (.Subscript o i pos) env v = (do
      let ov ← holding [v] (eval o env)
      let iv ← holding [v, ov] (eval i env)
      standAt pos
      holding [v, ov, iv] (setItem ov iv v)
      release [v, ov, iv] []) := by
  cases i <;> first | rfl | cases h
end Rb
namespace Rb
open PySem L2
/-- what the class's own __init__ promises -/
def spIni (K : PySem.W.Frag) (C : Addr) (F : FEnv) (g : Str) : Sp := fun vs H Q _ => ∃ x dx B va ds d ds' rest, vs = .ref x :: va ∧ H x = some (.ins C dx []) ∧ B x = none ∧ Ex B H ∧ Dats K B va ds ∧ F g (ds.map SV.dat) = some (.std d ds', rest) ∧
  ∀ B' H' v1 l xs dx', Ex B B' → Ex B' H' → (∀ a, B' a ≠ none → B a ≠ none ∨ H a = none) → (∀ a o, H a = some o → a ≠ x → H' a = some o) → H' x = some (.ins C dx' (flds v1 (.ref l))) → Dat K B' v1 d → H' l = some (.lst xs) → Dats K B' xs ds' →
    B' x = none → B' l = none → H l = none → Q .non H'
section
variable {X : Cx} {M : En} {C : Addr}
theorem ok_mk {g : Str} {ta : TA} {as : MI} (ha : OkV X M C ta as) : OkE X M C (tMake C (spIni X.K C M.F g) [] E0 ta) (mkE g as) := by
  intro f B st σ w H own r stF F R e Q q
  unfold mkE at e
  split at e
  · rename_i ds s1 h1
    split at e
    · rename_i d ds' rest h2
      cases e
      refine ha f B st σ w H own ds _ F R h1 _ fun vs B1 H1 own1 e1 R1 hds => ?_
      intro x dx hx hdx hne
      rw [List.append_nil]
      have e2 : Ex H1 (upd (upd H1 dx (.own x)) x (.ins C dx [])) := fun a o h => by
        rw [upd_ne (ne_of_none h hx), upd_ne (ne_of_none h hdx)]; exact h
      refine ⟨x, dx, B1, vs, ds, d, ds', rest, rfl, upd_same, R1.freeB hx, R1.exB.trans e2, hds, h2, fun B' H' v1 l xs dx' g1 g2 g3 g4 g5 g6 g7 g8 g9 g10 g11 => ⟨rfl, ?_⟩⟩
      have e3 : Ex H1 H' := fun a o h => g4 a o (e2 a o h) (ne_of_none h hx)
      have h1n : ∀ a, upd (upd H1 dx (.own x)) x (.ins C dx []) a = none → H1 a = none := fun a h => e2.fresh h
      have R2 : Rel f B' stF σ w H' own1 := by
        refine { R1 with exG := R1.exG.trans e3, exB := g2, ex0 := R1.ex0.trans g1, exI := fun a o h z => e3 a o (R1.exI a o h z), grw := fun a h => ?_, slot := fun i => (R1.slot i).mono g1 fun a ha => ?_, out := fun i a ha => ⟨(R1.out i a ha).1, ?_⟩, sfv := fun p dx e => ?_ }
        · rcases g3 a h with h | h
          · exact R1.grw a h
          · exact .inr (R1.freeG (h1n a h))
        · obtain ⟨o, ho⟩ := R1.there i a ha
          rw [ho]; exact e3 a o ho
        · cases z : B' a with
          | none => rfl
          | some o =>
            rcases g3 a (by rw [z]; simp) with h | h
            · exact absurd (R1.out i a ha).2 h
            · obtain ⟨o, ho⟩ := R1.there i a ha
              rw [h1n a h] at ho; cases ho
        · obtain ⟨a, b, u1, u2, c, d, q⟩ := R1.sfv p dx e
          exact ⟨a, b, u1, u2, c, d, e3 _ _ q⟩
      have hxl : x ≠ l := fun z => by rw [z] at g5; rw [g5] at g7; cases g7
      refine q _ B' H' own1 [x, l] (e1.trans g1) R2 ⟨?_, by simpa using hxl, fun a ha => ?_⟩
      · rw [← F.C] at g5
        rw [← F.K] at g6 g8
        exact ⟨x, dx', l, v1, xs, rfl, rfl, g5, g6, g7, g8⟩
      · have ha : a = x ∨ a = l := by simpa using ha
        rcases ha with rfl | rfl
        · exact ⟨R1.freeG hx, g9, fun i => R1.ne hx i⟩
        · exact ⟨R1.freeG (h1n _ g11), g10, fun i => R1.ne (h1n _ g11) i⟩
    · cases e
  · cases e
end
/-! ### calls, by shape -/
theorem form_ok {es : List Expr} (env : Env) (pos : Pos) (hs : es.all notStar = true) (hl : es.length < 29) : methodCallForm (es.length + ([] : List Keyword).length) (backTo pos (starEach es env)) (backToKw pos (keywordEach [] env)) = true := by
  unfold methodCallForm
  have h1 : (backTo pos (starEach es env)).all (!·.1) = true := by
    rw [star_each env hs]
    unfold backTo
    rw [List.map_map, List.all_map, List.all_eq_true]
    intro x _
    rfl
  have h2 : (backToKw pos (keywordEach [] env)).all (·.1.isSome) = true := rfl
  rw [h1, h2]
  show decide (es.length + 0 + 0 < 30) = true
  exact decide_eq_true (by omega)
theorem few_ok {es : List Expr} (env : Env) (pos : Pos) (hs : es.all notStar = true) (hl : es.length < 29) : ((backTo pos (starEach es env)).all (fun x => !x.1) && (backToKw pos (keywordEach [] env)).all (fun x => x.1.isSome)
      && decide (es.length + ([] : List Keyword).length + (if ([] : List Keyword).isEmpty then 0 else 1) < 30)) = true := form_ok env pos hs hl
theorem meth_shape {o : Expr} {m : Str} {apos pos : Pos} {es : List Expr} {env : Env} (hb : plainBase o = true) (hs : es.all notStar = true) (hl : es.length < 29) (hline : (apos.endLine == pos.line) = true) :
    eval (.Call (.Attribute o m apos) es [] pos) env = (do
      let ov ← eval o env
      standAt apos.atName
      let (f, first) ← holding [ov] (getMethod ov m (do return (← importBound o env).getD true))
      callWith pos f first (backTo pos (starEach es env)) (backToKw pos (keywordEach [] env))) := by
  have e : eval (.Call (.Attribute o m apos) es [] pos) env = (do
      let ov ← attributeBase o m env (eval o env)
      standAt apos.atName
      methodCall o m apos pos env ov (es.length + ([] : List Keyword).length) (backTo pos (starEach es env)) (backToKw pos (keywordEach [] env))) := by rfl
  rw [e, base_plain hb]
  unfold methodCall calleeOf methodCallPos
  rw [form_ok env pos hs hl, hline]
  rfl
section
variable {X : Cx} {CX : CXT} {k : Nat} {f C : Addr} {fd : FuncData} {ps : List Str} {sp : Sp} {E : XK} {x m : Str} {p pos apos : Pos} {o : Expr} {es : List Expr} {ta : TE} {t : TA}
theorem PA.nil_inv (h : PA X [] t) : True := trivial
/-- a def of the module -/
theorem pe_callG (F : FnOk X.prog X.w X.K X.mg X.base CX0 k f fd ps sp) (hr : Room k X.A) (hg : Gl X x) (hm : X.mg x = some (.ref f)) (hk : PySem.W.keepIn X.K (.ref f) = true) (hb : Binds X.K fd ps []) (hs : es.all notStar = true) (hd : (x == ("__debug__" : Str)) = false) (ha : PA X es t) (hne : es ≠ []) :
    PE X (.Call (.Name x p) es [] pos) (tCall sp [] E0 t) := by
  cases es with
  | nil => exact absurd rfl hne
  | cons e r =>
    simp only [List.all_cons, Bool.and_eq_true] at hs
    exact pe_call F hr hg hm hk hb .nil pass0 ha hd (star_cons hs.1 r X.env) (star_back X.env pos hs.2)
theorem pe_methG (he : PE X o ta) (c : Cls X.K C) (hm : Meth X.K C m f) (F : FnOk X.prog X.w X.K X.mg X.base CX0 k f fd ps sp) (hr : Room k X.A) (hb : Binds X.K fd ps []) (ho : plainBase o = true) (hs : es.all notStar = true) (hl : es.length < 29) (hline : (apos.endLine == pos.line) = true) (ha : PA X es t)
    (h0 : es = [] → t = tNil) : PE X (.Call (.Attribute o m apos) es [] pos) (tMeth C m sp [] E0 ta t) := by
  cases es with
  | nil =>
    rw [h0 rfl]
    exact pe_meth0 he c hm F hr hb .nil pass0 (meth_shape ho rfl hl hline)
  | cons e r =>
    have hs' := hs
    simp only [List.all_cons, Bool.and_eq_true] at hs'
    exact pe_meth he c hm F hr hb .nil pass0 ha (star_cons hs'.1 r X.env) (star_back X.env pos hs'.2) (meth_shape ho hs hl hline)
end
/-! ### what a text is turned to -/
inductive Cs where
  | non | bl (b : Bool) | int (i : Int) | str (x : Str)
def Cs.v : Cs → V
  | .non => .non
  | .bl b => .bl b
  | .int i => .int i
  | .str x => .str x
def Cs.d : Cs → PyData
  | .non => .none
  | .bl b => .bool b
  | .int i => .int i
  | .str x => .str x
theorem Cs.dat (c : Cs) {K : PySem.W.Frag} (B : Hp) : Dat K B c.v c.d := by
  cases c
  · exact .non
  · exact .bl _
  · exact .int _
  · exact .str _
inductive Rf where
  | sl (i : Nat) | fp | fs
def Rf.ix (nv : Nat) : Rf → Nat
  | .sl i => i
  | .fp => nv
  | .fs => nv + 1
def sPoints : Str := Str.ofString "points"
def sStates : Str := Str.ofString "states"
def Rf.t (K : PySem.W.Frag) : Rf → TE
  | .sl i => tVar i
  | .fp => tFld K (tVar 0) sPoints
  | .fs => tFld K (tVar 0) sStates
mutual
inductive IE where
  | cst (c : Cs) | var (r : Rf) | bin (op : Operator) (a b : IO) | cmp (op : CmpOp) (a b : IO) | ix (a b : IO) | neg (a : IE) | not (a : IE) | and (a b : IE) | or (a b : IE)
  | chn (o1 o2 : CmpOp) (a b c : IE) | ite (t : IT) (a b : IE) | tup (l : IL) | lst (l : IL) | dic | slc (a : IO) (lo hi : IP) | call (g : Str) (as : IA) | meth (i : Nat) (m g : Str) (as : IA) | slf (m g : Str) (as : IA) | mk (g : Str) (as : IL)
  | lc (tg : Tg) (vs : List Nat) (src : II) (t : IT) (e : IE) | blt (b : Blt) (as : IA) | isi (T : Tn) (a : IO) | get1 (a k : IO) | app (r : Rf) (a : IE) | pop (r : Rf) | popK (r : Rf) (k : IE) | clr (e : IE)
inductive IO where
  | pl (r : Rf) | ex (e : IE)
inductive IA where
  | nil | cons (a : IO) (r : IA)
inductive IL where
  | nil | cons (a : IE) (r : IL)
inductive IP where
  | no | some (e : IE)
inductive II where
  | r1 (a : IE) | r2 (a b : IE) | ov (a : IE) | en (a : IE)
inductive IT where
  | yes | cmp (op : CmpOp) (a b : IO) | val (e : IE) | not (a : IT) | and (a b : IT) | or (a b : IT) | chn (o1 o2 : CmpOp) (a b c : IE)
end
inductive IS where
  | nil | seq (a b : IS) | exp (e : IE) | set (i : Nat) (e : IE) | des (tg : Tg) (e : IE) | setIx (r : Rf) (k e : IE) | aug (op : Operator) (r : Rf) (k e : IE) | ife (t : IT) (a b : IS) | ret (e : IE) | retV (i : Nat) | retN | never
  | for (tg : Tg) (src : II) (b : IS) | whl (t : IT) (b : IS) | par (i j : Nat) (a b : IE)
/-- what the readings lean on -/
structure Dp where
  K : PySem.W.Frag
  C : Addr
  F : FEnv
mutual
def tgT (K : PySem.W.Frag) : Tg → TG
  | .nm i => gName i
  | .tp ts => gTup K (tgsLen ts) (tgsT K ts)
def tgsT (K : PySem.W.Frag) : Tgs → TGs
  | .nil => gNil
  | .cons t ts => gCons (tgT K t) (tgsT K ts)
end
def iEn (K : PySem.W.Frag) (ta : TE) : TI := fun _ _ _ => False
mutual
def IE.t (D : Dp) : IE → TE
  | .cst c => tC c.v
  | .var r => r.t D.K
  | .bin op a b => tOp (rBin D.K op) (a.t D) (b.t D)
  | .cmp op a b => tOp (rCmp D.K op) (a.t D) (b.t D)
  | .ix a b => fun σ H Q => tOp (rIx D.K) (a.t D) (b.t D) σ H Q ∨ tDGet (a.t D) (b.t D) σ H Q
  | .neg a => tUn (rU fun i => .int (-i)) (a.t D)
  | .not a => tNotV (a.t D)
  | .and a b => tAndV (a.t D) (b.t D)
  | .or a b => tOrV (a.t D) (b.t D)
  | .chn o1 o2 a b c => tChain (rCmp D.K o1) (rCmp D.K o2) (a.t D) (b.t D) (c.t D)
  | .ite t a b => tIf (t.t D) (a.t D) (b.t D)
  | .tup l => tTup (l.t D)
  | .lst l => tLst (l.t D)
  | .dic => tDNewK
  | .slc a lo hi => tSl (rSlc D.K) (a.t D) (lo.t D) (hi.t D)
  | .call g as => tCall (PrF D.K D.C D.F g) [] E0 (as.t D)
  | .meth i m g as => tMeth D.C m (PrF D.K D.C D.F g) [] E0 (tVar i) (as.t D)
  | .slf m g as => tMeth D.C m (PrF D.K D.C D.F g) [] E0 (tVar 0) (as.t D)
  | .mk g as => tMake D.C (spIni D.K D.C D.F g) [] E0 (as.t D)
  | .lc tg vs src t e => tLc (src.t D) (tgT D.K tg) (t.t D) (e.t D) vs
  | .blt b as => tCB (rBlt D.K b) (as.t D)
  | .isi T a => tCB (rIsi D.K) (tCons (a.t D) (tCons (tC (.ty T.nm)) tNil))
  | .get1 a k => tDGet1 (a.t D) (k.t D)
  | .app r a => tBM D.K "list" rAppend (r.t D.K) (tCons (a.t D) tNil)
  | .pop r => tBM0 D.K "list" rPop (r.t D.K)
  | .popK r k => tDPop1 (r.t D.K) (k.t D)
  | .clr e => tBM0 D.K "list" rClear (e.t D)
def IO.t (D : Dp) : IO → TE
  | .pl r => r.t D.K
  | .ex e => e.t D
def IA.t (D : Dp) : IA → TA
  | .nil => tNil
  | .cons a r => tCons (a.t D) (r.t D)
def IL.t (D : Dp) : IL → TA
  | .nil => tNil
  | .cons a r => tCons (a.t D) (r.t D)
def IP.t (D : Dp) : IP → TO
  | .no => tNoPart
  | .some e => tPart (e.t D)
def II.t (D : Dp) : II → TI
  | .r1 a => iRng1 (tCons (a.t D) tNil)
  | .r2 a b => iRng2 (tCons (a.t D) (tCons (b.t D) tNil))
  | .ov a => iOv D.K (a.t D)
  | .en a => iEn D.K (a.t D)
def IT.t (D : Dp) : IT → TT
  | .yes => tYes
  | .cmp op a b => tTest (tOp (rCmp D.K op) (a.t D) (b.t D))
  | .val e => tB (e.t D)
  | .not a => tNot (a.t D)
  | .and a b => tAnd (a.t D) (b.t D)
  | .or a b => tOr (a.t D) (b.t D)
  | .chn o1 o2 a b c => tTest (tChain (rCmp D.K o1) (rCmp D.K o2) (a.t D) (b.t D) (c.t D))
end
def IS.t (D : Dp) : IS → TS
  | .nil => tNext
  | .seq a b => tSeq (a.t D) (b.t D)
  | .exp e => tDrop (e.t D)
  | .set i e => tAsg (e.t D) (gName i)
  | .des tg e => tAsg (e.t D) (tgT D.K tg)
  | .setIx r k e => tAsg (e.t D) (gSub (r.t D.K) (k.t D) rSetA)
  | .aug op r k e => tAugS (r.t D.K) (k.t D) (e.t D) (rGetA D.K) (ipA op) rSetA
  | .ife t a b => tIfS (t.t D) (a.t D) (b.t D)
  | .ret e => tRet (e.t D)
  | .retV i => tRet (tVar i)
  | .retN => tRetN
  | .never => fun _ _ _ => False
  | .for tg src b => tFor (src.t D) (tgT D.K tg) (b.t D)
  | .whl t b => tWhile (t.t D) (b.t D)
  | .par i j a b => tPar i j (tCons (a.t D) (tCons (b.t D) tNil))
mutual
def IE.m (nv : Nat) : IE → ME
  | .cst c => cstE c.d
  | .var r => varE (r.ix nv)
  | .bin op a b => binE op (a.m nv) (b.m nv)
  | .cmp op a b => cmpE op (a.m nv) (b.m nv)
  | .ix a b => ixE (a.m nv) (b.m nv)
  | .neg a => negE (a.m nv)
  | .not a => notE (a.m nv)
  | .and a b => andE (a.m nv) (b.m nv)
  | .or a b => orE (a.m nv) (b.m nv)
  | .chn o1 o2 a b c => blE (chnE o1 o2 (a.m nv) (b.m nv) (c.m nv))
  | .ite t a b => iteE (t.m nv) (a.m nv) (b.m nv)
  | .tup l => tupE (l.m nv)
  | .lst l => lstE (l.m nv)
  | .dic => dicE
  | .slc a lo hi => slcE (a.m nv) (lo.m nv) (hi.m nv)
  | .call g as => callE g (as.m nv)
  | .meth i _ g as => methE i g (as.m nv)
  | .slf _ g as => slfE g (as.m nv)
  | .mk g as => mkE g (as.m nv)
  | .lc tg vs src t e => lcE tg vs (src.m nv) (t.m nv) (valE (e.m nv))
  | .blt b as => bltE b (as.m nv)
  | .isi T a => isiE T (a.m nv)
  | .get1 a k => getE1 (a.m nv) (k.m nv)
  | .app r a => appE (r.ix nv) (a.m nv)
  | .pop r => popE (r.ix nv)
  | .popK r k => popK (r.ix nv) (k.m nv)
  | .clr e => tmpClr (e.m nv)
def IO.m (nv : Nat) : IO → MO
  | .pl r => plO (r.ix nv)
  | .ex e => exO (e.m nv)
def IA.m (nv : Nat) : IA → MA
  | .nil => nilA
  | .cons a r => consA (a.m nv) (r.m nv)
def IL.m (nv : Nat) : IL → MI
  | .nil => nilV
  | .cons a r => consV (a.m nv) (r.m nv)
def IP.m (nv : Nat) : IP → En → Sto → Option (Option Int × Sto)
  | .no => noP
  | .some e => partE (e.m nv)
def II.m (nv : Nat) : II → MI
  | .r1 a => itR1 (a.m nv)
  | .r2 a b => itR2 (a.m nv) (b.m nv)
  | .ov a => itOv (a.m nv)
  | .en a => itEn (a.m nv)
def IT.m (nv : Nat) : IT → MT
  | .yes => yesT
  | .cmp op a b => cmpT op (a.m nv) (b.m nv)
  | .val e => bolE (e.m nv)
  | .not a => notT (a.m nv)
  | .and a b => andT (a.m nv) (b.m nv)
  | .or a b => orT (a.m nv) (b.m nv)
  | .chn o1 o2 a b c => chnE o1 o2 (a.m nv) (b.m nv) (c.m nv)
end
def IS.m (nv : Nat) : IS → MS
  | .nil => nxS
  | .seq a b => seqS (a.m nv) (b.m nv)
  | .exp e => expS (e.m nv)
  | .set i e => setS i (e.m nv)
  | .des tg e => desS tg (e.m nv)
  | .setIx r k e => setIxS (r.ix nv) (k.m nv) (e.m nv)
  | .aug op r k e => augIxS op (r.ix nv) (k.m nv) (e.m nv)
  | .ife t a b => ifS (t.m nv) (a.m nv) (b.m nv)
  | .ret e => retS (e.m nv)
  | .retV i => Rb.retV i
  | .retN => Rb.retN
  | .never => neverS
  | .for tg src b => forS tg (src.m nv) (b.m nv)
  | .whl t b => whS (t.m nv) (b.m nv)
  | .par i j a b => parS i j (a.m nv) (b.m nv)
end Rb
namespace Rb
open PySem L2
theorem own_nil {M : En} {st : Sto} {ps : List Pd} {f : Fx} {B : Hp} {σ : L2.St} {w : Nat → Option V} {H : Hp} {own : Nat → List Addr} (R : Rel f B st σ w H own) (h : (ownIx st ps).isEmpty = true) (k : Nat) : ownA own ps k = [] := by
  unfold ownA
  split
  · rename_i i hi
    by_cases ho : (gt st i).own = true
    · have := mem_ownIx.mpr ⟨ho, k, hi⟩
      rw [List.isEmpty_iff] at h
      rw [h] at this; cases this
    · exact (R.slot i).notOwn (by simpa using ho)
  · rfl
section
variable {X : Cx} {M : En} {C : Addr}
theorem ok_slf {m g : Str} {ta : TA} {as : MA} (ha : OkA X M C ta as) (hm : ∀ v1 v2, (flds v1 v2).lookup m = none) (hme : M.me = true) : OkE X M C (tMeth C m (PrF X.K C M.F g) [] E0 (tVar 0) ta) (slfE g as) := by
  intro f B st σ w H own r stF F R e Q q
  unfold slfE at e
  split at e
  · rename_i h0
    split at e
    · rename_i ps st1 h1
      split at e
      · rename_i d ds ss g0 g1 g2 hs
        split at e
        · rename_i hemp
          split at e
          · rename_i r' d' ds' rest hF
            cases e
            have hsf := F.me
            rw [hme] at hsf
            obtain ⟨⟨p, dx⟩, hsf⟩ := Option.isSome_iff_exists.mp hsf
            -- self is read
            have z := R.slot 0
            rw [h0] at z
            obtain ⟨p', dx', z1, z2, z3⟩ := z
            rw [hsf] at z1; cases z1
            have hn0 : 0 < M.nv := by
              obtain ⟨a, _⟩ := R.sfv p dx hsf
              have := R.npn; rw [← F.n]; omega
            obtain ⟨_, _, u1, u2, _, _, uH⟩ := R.sfv p dx hsf
            refine var_real hn0 f B st σ w H own F R _ z2 _ ⟨p, dx, _, rfl, by rw [← F.C]; exact uH, hm _ _, ?_⟩
            refine ha f B st σ w H own ps st1 F R h1 _ fun vs B1 H1 own1 e1 R1 hp => ?_
            rw [List.append_nil]
            rw [← F.K] at hp
            -- what stands
            obtain ⟨b1, b2, v1, v2, b3, b4, b5⟩ := R1.sfv p dx hsf
            have y0 := R1.slot 0
            rw [g0] at y0
            obtain ⟨p', dx', y1, _, y3⟩ := y0
            rw [hsf] at y1; cases y1
            have y1 := R1.slot M.nv
            rw [g1, ← F.n, b3] at y1
            obtain ⟨own_n, _, ev, hd⟩ := y1
            cases ev
            have y2 := R1.slot (M.nv + 1)
            rw [g2, ← F.n, b4] at y2
            obtain ⟨l, xs, ev, own_l, hl, hds⟩ := y2
            cases ev
            have onl : ∀ i a, a ∈ own1 i → a = p ∨ a = l → i = 0 ∨ i = f.n + 1 := fun i a ha h => by
              rcases h with rfl | rfl
              · exact .inl (R1.sep i 0 _ ha (by rw [y3]; simp))
              · exact .inr (R1.sep i (f.n + 1) _ ha (by rw [own_l]; simp))
            have npl : p ≠ l := fun e => by
              have := R1.sep 0 (f.n + 1) p (by rw [y3]; simp) (by rw [own_l, e]; simp)
              omega
            have nd : (ownIx st1 ps).Nodup := by
              rw [List.isEmpty_iff] at hemp; rw [hemp]; exact List.nodup_nil
            have A := R1.args hp hs nd
            have onil := own_nil (M := M) R1 hemp
            let ow : Nat → List Addr := fun k => match k with | 0 => [p, l] | _ + 1 => []
            have AR : ArgR f.K f.C B1 H1 (.std d ds :: ss) (.ref p :: vs) ow := by
              refine ⟨by rw [List.length_cons, List.length_cons, A.len], fun k => ?_, fun i j a hi hj => ?_, fun k => ?_, fun k a hk => ?_⟩
              · cases k with
                | zero => exact ⟨p, dx, l, v1, xs, rfl, rfl, b5, hd, hl, hds⟩
                | succ k =>
                  rw [gt_consS]
                  have := A.slot k
                  rw [onil k] at this
                  exact this
              · cases i with
                | zero => cases j with
                  | zero => rfl
                  | succ j => cases hj
                | succ i => cases hi
              · cases k with
                | zero => exact List.nodup_cons.mpr ⟨by simpa using npl, by simp⟩
                | succ k => exact List.nodup_nil
              · cases k with
                | zero =>
                  have hk : a = p ∨ a = l := by simpa [ow] using hk
                  rcases hk with rfl | rfl
                  · exact (R1.out 0 _ (by rw [y3]; simp)).2
                  · exact (R1.out (f.n + 1) _ (by rw [own_l]; simp)).2
                | succ k => cases hk
            rw [F.K, F.C] at AR
            refine ⟨B1, .std d ds :: ss, ow, r, .std d' ds' :: rest, R1.exB, AR, hF, fun v B' H' own' ro A' => ?_⟩
            rw [← F.K, ← F.C] at A'
            have memo : ∀ k a, a ∈ ow k → a = p ∨ a = l := fun k a h => by
              cases k with
              | zero => simpa [ow] using h
              | succ k => cases h
            obtain ⟨_, S0⟩ := A'.slot 0 rfl
            obtain ⟨p2, dx2, l2, w1, xs', c1, c2, c3, c4, c5, c6⟩ := S0
            cases c1
            have keepP := A'.keep p _ b5 (.inr rfl)
            rw [c3] at keepP
            injection keepP with keepP
            injection keepP with _ kdx kfl
            subst kdx
            unfold flds at kfl
            simp at kfl
            obtain ⟨rfl, rfl⟩ := kfl
            have keepO : ∀ j, j ≠ 0 → j ≠ f.n + 1 → ∀ a ∈ own1 j, H' a = H1 a := fun j j0 j1 a ha => by
              obtain ⟨o, ho⟩ := R1.there j a ha
              rw [ho]
              refine A'.keep a o ho (.inl fun k hk => ?_)
              rcases onl j a ha (memo k a hk) with h | h
              · exact j0 h
              · exact j1 h
            have hpl : ∀ a, a = p ∨ a = l2 → f.G a = none := fun a h => by
              rcases h with rfl | rfl
              · exact (R1.out 0 _ (by rw [y3]; simp)).1
              · exact (R1.out (f.n + 1) _ (by rw [own_l]; simp)).1
            have len1 : st1.length = f.n + 2 := by rw [R1.slen, hsf]
            have gnew : ∀ j, gt ((st1.set M.nv (.dat d')).set (M.nv + 1) (.lst ds')) j = if j = f.n + 1 then .lst ds' else if j = f.n then .dat d' else gt st1 j := fun j => by
              rw [gt_set, gt_set, List.length_set, ← F.n, len1]
              by_cases h1 : j = f.n + 1
              · rw [if_pos ⟨h1, by omega⟩, if_pos h1]
              · rw [if_neg (fun z => h1 z.1), if_neg h1]
                by_cases h2 : j = f.n
                · rw [if_pos ⟨h2, by omega⟩, if_pos h2]
                · rw [if_neg (fun z => h2 z.1), if_neg h2]
            have R2 : Rel f B' ((st1.set M.nv (.dat d')).set (M.nv + 1) (.lst ds')) σ w H' own1 := by
              refine ⟨fun a o hq => ?_, A'.exH, R1.ex0.trans A'.exB, fun a o hq hz => A'.keep a o (R1.exI a o hq hz) (.inr hz), fun a hq => ?_, fun j => ?_, R1.sep, R1.nd, fun i a ha => ?_, fun j x hx => ?_, R1.len, R1.wv, R1.npn, fun p2 dx2 hq => ?_, ?_⟩
              · refine A'.keep a o (R1.exG a o hq) (.inl fun k hk => ?_)
                rw [hpl a (memo k a hk)] at hq; cases hq
              · rcases A'.grw a hq with h | h | ⟨k, h⟩
                · exact R1.grw a h
                · exact .inr (R1.freeG h)
                · exact .inr (hpl a (memo k a h))
              · rw [gnew]
                by_cases h1 : j = f.n + 1
                · subst h1
                  rw [if_pos rfl, b4, own_l]
                  exact ⟨l2, xs', rfl, rfl, c5, c6⟩
                · rw [if_neg h1]
                  by_cases h2 : j = f.n
                  · subst h2
                    rw [if_pos rfl, b3, own_n]
                    exact ⟨rfl, _, rfl, c4⟩
                  · rw [if_neg h2]
                    by_cases h3 : j = 0
                    · subst h3
                      have := R1.slot 0
                      rw [g0] at this ⊢
                      exact this
                    · exact (R1.slot j).mono A'.exB (keepO j h3 h1)
              · refine ⟨(R1.out i a ha).1, ?_⟩
                cases hb : B' a with
                | none => rfl
                | some o =>
                  rcases A'.grw a (by rw [hb]; simp) with h | h | ⟨k, h⟩
                  · exact absurd (R1.out i a ha).2 h
                  · obtain ⟨o', ho'⟩ := R1.there i a ha
                    rw [h] at ho'; cases ho'
                  · have : a ∈ own' 0 := by rw [c2]; simpa using memo k a h
                    rw [(A'.out 0 a this).1] at hb; cases hb
              · obtain ⟨a1, a2, a3⟩ := R1.par j x hx
                refine ⟨a1, a2, ?_⟩
                have := R1.npn
                rw [gnew, if_neg (by omega), if_neg (by omega)]
                exact a3
              · rw [hsf] at hq; cases hq
                refine ⟨b1, ?_, _, _, b3, b4, c3⟩
                rw [gnew, if_neg (by omega), if_neg (by have := R1.npn; omega)]
                exact b2
              · rw [List.length_set, List.length_set]; exact R1.slen
            refine q v B' H' own1 ro (e1.trans A'.exB) R2 ⟨A'.res, A'.resN, fun a ha => ?_⟩
            obtain ⟨d1, d2, d3⟩ := A'.resO a ha
            have np : ¬ (a = p ∨ a = l2) := fun h => d3 0 (by rw [c2]; simpa using h)
            have hnone : H1 a = none := by
              rcases d2 with h | ⟨k, h⟩
              · exact h
              · exact absurd (memo k a h) np
            exact ⟨R1.freeG hnone, d1, fun i hi => by
              obtain ⟨o, ho⟩ := R1.there i a hi
              rw [hnone] at ho; cases ho⟩
          · cases e
        · cases e
      · cases e
    · cases e
  · cases e
/-! ### x, y = a, b -/
theorem oks_par {i j : Nat} {ta tb : TE} {a b : ME} (ha : OkE X M C ta a) (hb : OkE X M C tb b) : OkS X M C (tPar i j (tCons ta (tCons tb tNil))) (parS i j a b) := by
  intro f B st σ w H own o st1 F R e D qn qr
  unfold parS at e
  split at e
  · rename_i x s1 h1
    split at e
    · rename_i y s2 h2
      split at e
      · rename_i s3 h3
        split at e
        · rename_i s4 h4
          cases e
          obtain ⟨a1, a2, rfl⟩ := putS_some h3
          obtain ⟨c1, c2, rfl⟩ := putS_some h4
          rw [← F.n] at a1 c1
          rw [← F.np] at a2 c2
          refine ha.val f B st σ w H own _ _ F R h1 _ fun v B1 H1 own1 e1 R1 hx => ?_
          refine hb.val f B1 s1 σ w H1 own1 _ _ F R1 h2 _ fun u B2 H2 own2 e2 R2 hy => ?_
          refine ⟨v, u, rfl, ?_⟩
          rw [← F.K] at hx hy
          have R3 := R2.assign (i := i) (r := .dat x) (v := some v) (ro := []) a1 a2 (by simp) ⟨rfl, v, rfl, hx.mono e2⟩ (by simp) (by simp)
          have R4 := R3.assign (i := j) (r := .dat y) (v := some u) (ro := []) c1 c2 (by simp) ⟨rfl, u, rfl, hy⟩ (by simp) (by simp)
          exact qn rfl B2 _ _ H2 _ (e1.trans e2) R4
        · cases e
      · cases e
    · cases e
  · cases e
end
end Rb
namespace Rb
open PySem L2
/-! ### the turning of a text -/
structure Tb where
  cs : List (Str × Cs)
  fns : List Str
  mts : List (Str × Str)
  mks : List (Str × Str)
structure Cc where
  N : List Str
  sc : Scope
  own : Option (List (Str × NameKind))
  me : Bool
def Cc.fnB (c : Cc) (x : Str) : Bool := match c.own with
  | none => true
  | some ns => ns.lookup x == some .cell
def nameIx : List Str → Str → Option Nat
  | [], _ => none
  | y :: r, x => if y = x then some 0 else match nameIx r x with
    | some i => some (i + 1)
    | none => none
theorem nameIx_get : ∀ {N : List Str} {x : Str} {i : Nat}, nameIx N x = some i → N[i]? = some x
  | [], _, _, h => by cases h
  | y :: r, x, i, h => by
    unfold nameIx at h
    split at h
    · rename_i e; cases h; rw [e]; rfl
    · cases hr : nameIx r x with
      | none => rw [hr] at h; cases h
      | some j =>
        rw [hr] at h
        cases h
        have := nameIx_get hr
        simpa using this
def dbg (x : Str) : Bool := x == ("__debug__" : Str) || x == ("__classdict__" : Str) || x == ("__name__" : Str)
def visB (sc : Scope) (x : Str) : Bool := match sc.names.lookup x with
  | some .local => true
  | some .cell => true
  | some .free => true
  | _ => false
theorem visB_ok {sc : Scope} {x : Str} (h : visB sc x = true) : Vis sc x := by
  unfold visB at h
  split at h
  · rename_i e; exact .inl e
  · rename_i e; exact .inr (.inl e)
  · rename_i e; exact .inr (.inr e)
  · cases h
def glB (sc : Scope) (x : Str) : Bool := match sc.names.lookup x with
  | some .globalImplicit => true
  | _ => false
def locB (sc : Scope) (x : Str) : Bool := match sc.names.lookup x with
  | some .local => true
  | _ => false
def stoB (c : Cc) (x : Str) : Bool := match c.sc.names.lookup x with
  | some .local => true
  | some .cell => c.fnB x
  | _ => false
def bltOf (g : Str) : Nat → Option Blt
  | 1 => if g = "len" then some .len else if g = "sum" then some .sum else if g = "sorted" then some .sorted else if g = "abs" then some .abs else if g = "str" then some .str else if g = "int" then some .int else if g = "tuple" then some .tuple
    else if g = "list" then some .list else if g = "dict" then some .dict else none
  | 2 => if g = "min" then some .min2 else if g = "max" then some .max2 else none
  | _ => none
def bltNames : List Str := ["len", "sum", "sorted", "abs", "str", "int", "tuple", "list", "dict", "min", "max", "isinstance", "bool", "range", "enumerate"]
def tnOf (x : Str) : Option Tn := if x = "int" then some .int else if x = "bool" then some .bool else if x = "str" then some .str else if x = "list" then some .list else if x = "tuple" then some .tuple else none
def isSelf (c : Cc) : Expr → Bool
  | .Name x _ => c.me && (nameIx c.N x == some 0) && visB c.sc x && !dbg x
  | _ => false
def cRef (c : Cc) : Expr → Option Rf
  | .Name x _ => if dbg x || !visB c.sc x then none else match nameIx c.N x with
    | some i => some (.sl i)
    | none => none
  | .Attribute o f _ => if isSelf c o then (if f = sPoints then some .fp else if f = sStates then some .fs else none) else none
  | _ => none
def cName (tb : Tb) (c : Cc) (x : Str) : Option IE := if dbg x || !glB c.sc x then none else match tb.cs.lookup x with
  | some k => some (.cst k)
  | none => none
abbrev FE := Cc → Expr → Option IE
abbrev FT := Cc → Expr → Option IT
section
variable (tb : Tb) (fe : FE) (ft : FT)
def cO (c : Cc) (e : Expr) : Option IO := match cRef c e with
  | some r => some (.pl r)
  | none => match fe c e with
    | some i => some (.ex i)
    | none => none
def cA (c : Cc) : List Expr → Option IA
  | [] => some .nil
  | e :: r => match cO fe c e, cA c r with
    | some a, some s => if notStar e then some (.cons a s) else none
    | _, _ => none
def cL (c : Cc) : List Expr → Option IL
  | [] => some .nil
  | e :: r => match fe c e, cL c r with
    | some a, some s => if notStar e then some (.cons a s) else none
    | _, _ => none
def cP (c : Cc) : Option Expr → Option IP
  | none => some .no
  | some e => match fe c e with
    | some i => some (.some i)
    | none => none
def cRng (c : Cc) : List Expr → Option II
  | [a] => match fe c a with
    | some x => if notStar a then some (.r1 x) else none
    | none => none
  | [a, b] => match fe c a, fe c b with
    | some x, some y => if notStar a && notStar b then some (.r2 x y) else none
    | _, _ => none
  | _ => none
def cI (c : Cc) (e : Expr) : Option II := match e with
  | .Call (.Name g _) es [] _ => if g = "range" && glB c.sc "range" then cRng fe c es else match fe c e with
    | some i => some (.ov i)
    | none => none
  | _ => if notSet e then (match fe c e with
    | some i => some (.ov i)
    | none => none) else none
mutual
def cG (c : Cc) : Nat → Expr → Option Tg
  | n + 1, .Name x _ => if stoB c x then (match nameIx c.N x with
    | some i => some (.nm i)
    | none => none) else none
  | n + 1, .Tuple es _ _ => match cGs c n es with
    | some ts => some (.tp ts)
    | none => none
  | _, _ => none
def cGs (c : Cc) : Nat → List Expr → Option Tgs
  | n + 1, [] => some .nil
  | n + 1, e :: r => match cG c n e, cGs c n r with
    | some a, some b => if notStar e then some (.cons a b) else none
    | _, _ => none
  | _, _ => none
end
def cBool (op : BoolOp) (c : Cc) : List Expr → Option IE
  | [] => none
  | [a] => fe c a
  | a :: b :: r => match fe c a, cBool op c (b :: r) with
    | some x, some y => some (match op with | .And => .and x y | .Or => .or x y)
    | _, _ => none
def cBoolT (op : BoolOp) (c : Cc) : List Expr → Option IT
  | [] => none
  | [a] => ft c a
  | a :: b :: r => match ft c a, cBoolT op c (b :: r) with
    | some x, some y => some (match op with | .And => .and x y | .Or => .or x y)
    | _, _ => none
/-- the comprehension's own names, with their slots -/
def ownOf (N : List Str) : List (Str × NameKind) → List (Str × Nat)
  | [] => []
  | (x, k) :: r => match k, nameIx N x with
    | .local, some i => (x, i) :: ownOf N r
    | .cell, some i => (x, i) :: ownOf N r
    | _, _ => ownOf N r
def subNat (a b : List Nat) : Bool := a.all fun i => decide (i ∈ b)
def cLc (c : Cc) (elt tg iter : Expr) (ifs : List Expr) (scope : Scope) : Option IE :=
  let own := ownOf c.N scope.names
  let c' : Cc := ⟨c.N, relS scope c.sc, some scope.names, false⟩
  if blkC c.N c.sc scope own && notSet iter then (match cI fe c iter, cG c' 9 tg, fe c' elt with
    | some src, some g, some x => if subNat (tgIx g) (own.map (·.2)) then (match ifs with
      | [] => some (.lc g (own.map (·.2)) src .yes x)
      | [t] => match ft c' t with
        | some y => some (.lc g (own.map (·.2)) src y x)
        | none => none
      | _ => none) else none
    | _, _, _ => none) else none
def cCall (c : Cc) (g : Str) (es : List Expr) : Option IE := if dbg g || !glB c.sc g || !es.all notStar || decide (29 ≤ es.length) then none else match bltOf g es.length with
  | some b => match cA fe c es with
    | some as => some (.blt b as)
    | none => none
  | none => if g = "isinstance" then (match es with
      | [a, .Name T _] => match tnOf T, cO fe c a with
        | some t, some x => if glB c.sc T then some (.isi t x) else none
        | _, _ => none
      | _ => none)
    else if decide (g ∈ tb.fns) then (match cA fe c es with
      | some as => some (.call g as)
      | none => none)
    else (match tb.mks.lookup g, es with
      | some key, _ :: _ => (match cL fe c es with
        | some as => some (.mk key as)
        | none => none)
      | _, _ => none)
def cMeth (c : Cc) (o : Expr) (m : Str) (es : List Expr) (apos pos : Pos) : Option IE := if !plainBase o || !es.all notStar || decide (29 ≤ es.length) || apos.endLine != pos.line then none else
  match tb.mts.lookup m with
  | some g => if m = sPoints || m = sStates then none else (match cA fe c es with
    | some as => if isSelf c o then some (.slf m g as) else (match cRef c o with
      | some (.sl i) => some (.meth i m g as)
      | _ => none)
    | none => none)
  | none => match es with
    | [] => if m = "pop" then (match cRef c o with
        | some r => some (.pop r)
        | none => none)
      else if m = "clear" then (match fe c o with
        | some x => some (.clr x)
        | none => none)
      else none
    | [a] => if m = "append" then (match cRef c o, fe c a with
        | some r, some x => some (.app r x)
        | _, _ => none)
      else if m = "pop" then (match cRef c o, fe c a with
        | some r, some x => some (.popK r x)
        | _, _ => none)
      else if m = "get" then (match cO fe c o, cO fe c a with
        | some r, some x => some (.get1 r x)
        | _, _ => none)
      else none
    | _ => none
def cE (c : Cc) (e : Expr) : Option IE := match cRef c e with
  | some r => some (.var r)
  | none => match e with
  | .Constant (.int i) _ _ => some (.cst (.int i))
  | .Constant (.str x) _ _ => some (.cst (.str x))
  | .Constant (.bool b) _ _ => some (.cst (.bl b))
  | .Constant .none _ _ => some (.cst .non)
  | .Name x _ => cName tb c x
  | .BinOp a op b _ => match cO fe c a, cO fe c b with
    | some x, some y => some (.bin op x y)
    | _, _ => none
  | .UnaryOp .USub a _ => match fe c a with
    | some x => some (.neg x)
    | none => none
  | .UnaryOp .Not a _ => match fe c a with
    | some x => some (.not x)
    | none => none
  | .BoolOp op es _ => cBool fe op c es
  | .Compare a [op] [b] _ => match cO fe c a, cO fe c b with
    | some x, some y => if notSet b then some (.cmp op x y) else none
    | _, _ => none
  | .Compare a [o1, o2] [b, d] _ => match fe c a, fe c b, fe c d with
    | some x, some y, some z => if notSet d then some (.chn o1 o2 x y z) else none
    | _, _, _ => none
  | .IfExp t a b _ => match ft c t, fe c a, fe c b with
    | some x, some y, some z => some (.ite x y z)
    | _, _, _ => none
  | .Tuple es _ _ => match cL fe c es with
    | some l => if es.length ≤ 1000 then some (.tup l) else none
    | none => none
  | .List es _ => match cL fe c es with
    | some l => if es.length ≤ 1000 then some (.lst l) else none
    | none => none
  | .Dict [] [] _ => some .dic
  | .Subscript a (.Slice lo hi none _) _ => match cO fe c a, cP fe c lo, cP fe c hi with
    | some x, some y, some z => some (.slc x y z)
    | _, _, _ => none
  | .Subscript a b _ => match cO fe c a, cO fe c b with
    | some x, some y => if notSlice b then some (.ix x y) else none
    | _, _ => none
  | .ListComp elt [⟨tg, iter, ifs, 0⟩] scope _ => cLc fe ft c elt tg iter ifs scope
  | .Call (.Name g _) es [] _ => cCall tb fe c g es
  | .Call (.Attribute o m apos) es [] pos => cMeth tb fe c o m es apos pos
  | _ => none
def cT (c : Cc) (e : Expr) : Option IT := match e with
  | .UnaryOp .Not a _ => match ft c a with
    | some x => some (.not x)
    | none => none
  | .BoolOp op (a :: b :: r) _ => cBoolT ft op c (a :: b :: r)
  | .Compare a [op] [b] _ => match cO fe c a, cO fe c b with
    | some x, some y => if notSet b then some (.cmp op x y) else none
    | _, _ => none
  | .Compare a [o1, o2] [b, d] _ => match fe c a, fe c b, fe c d with
    | some x, some y, some z => if notSet d then some (.chn o1 o2 x y z) else none
    | _, _, _ => none
  | _ => if plainTest e then (match fe c e with
    | some x => some (.val x)
    | none => none) else none
end
structure Cmp where
  e : FE
  t : FT
def cmpN (tb : Tb) : Nat → Cmp
  | 0 => ⟨fun _ _ => none, fun _ _ => none⟩
  | n + 1 => ⟨cE tb (cmpN tb n).e (cmpN tb n).t, cT (cmpN tb n).e (cmpN tb n).t⟩
/-! statements -/
section
variable (tb : Tb) (fe : FE) (ft : FT)
def swapPar (c : Cc) (x y : Str) (px py : Pos) (a b : Expr) : Bool := locB c.sc x && locB c.sc y && px.line == py.line && x != y && notStar a && notStar b && !(foldedForSure 8 a && foldedForSure 8 b) && !(constantsAlone 8 a && constantsAlone 8 b)
def cAsg (c : Cc) (tg e : Expr) (pos : Pos) : Option IS := match tg with
  | .Name x py => if stoB c x then (match nameIx c.N x with
    | some i => (match e with
      | .ListComp elt [⟨tg, iter, ifs, 0⟩] scope lpos => if locB c.sc x && py.line == lpos.line && !(scope.names.any fun (n, k) => n == x && (k == .local || k == .cell)) then (match cLc fe ft c elt tg iter ifs scope with
          | some r => some (.set i r)
          | none => none)
        else none
      | _ => if notLc e then (match fe c e with
          | some r => some (.set i r)
          | none => none) else none)
    | none => none) else none
  | .Tuple ts k pt => (match ts, e with
    | [.Name x px, .Name y py], .Tuple [a, b] _ _ => if swapPar c x y px py a b then (match nameIx c.N x, nameIx c.N y, fe c a, fe c b with
        | some i, some j, some p, some q => if i = j then none else some (.par i j p q)
        | _, _, _, _ => none) else none
    | _, _ => if notTup e && notLc e then (match cG c 9 tg, fe c e with
        | some g, some r => some (.des g r)
        | _, _ => none) else none)
  | .Subscript o i _ => if notSlice i && notLc e then (match cRef c o, fe c i, fe c e with
    | some r, some k, some v => some (.setIx r k v)
    | _, _, _ => none) else none
  | _ => none
def cS (fs : Cc → List Stmt → Option IS) (c : Cc) (s : Stmt) : Option IS := match s with
  | .Assign [tg] e pos => cAsg fe ft c tg e pos
  | .AugAssign (.Subscript o i _) op e _ => if notSlice i then (match cRef c o, fe c i, fe c e with
    | some r, some k, some v => some (.aug op r k v)
    | _, _, _ => none) else none
  | .Expr e _ => if notLc e then (match fe c e with
    | some x => some (.exp x)
    | none => none) else none
  | .Return (some e) _ => (match cRef c e with
    | some (.sl i) => some (.retV i)
    | _ => match fe c e with
      | some x => some (.ret x)
      | none => none)
  | .Return none _ => some .retN
  | .If t a b _ => (match ft c t, fs c a, fs c b with
    | some x, some y, some z => some (.ife x y z)
    | _, _, _ => none)
  | .For tg iter b [] _ => if notSet iter then (match cG c 9 tg, cI fe c iter, fs c b with
    | some g, some src, some x => some (.for g src x)
    | _, _, _ => none) else none
  | .While t b [] _ => (match ft c t, fs c b with
    | some x, some y => some (.whl x y)
    | _, _ => none)
  | .Pass _ => some .nil
  | .Raise _ _ _ => some .never
  | .Try b (_ :: _) [] [] _ => fs c b
  | _ => none
end
def cSs (cs : Cc → Stmt → Option IS) (c : Cc) : List Stmt → Option IS
  | [] => some .nil
  | s :: r => match cs c s, cSs cs c r with
    | some a, some b => some (.seq a b)
    | _, _ => none
def cmpS (tb : Tb) (k : Nat) : Nat → Cc → List Stmt → Option IS
  | 0 => fun _ _ => none
  | n + 1 => cSs (cS (cmpN tb k).e (cmpN tb k).t (cmpS tb k n))
end Rb
namespace Rb
open PySem L2 PyProof.Rows
/-! ### what is known of the module -/
structure Wd (P : Program) (w : World) (K : PySem.W.Frag) (mg : Str → Option Value) (base : Heap) (C : Addr) (F : FEnv) (k : Nat) (tb : Tb) : Prop where
  cst : ∀ x c, tb.cs.lookup x = some c → ∃ u, mg x = some u ∧ RelV c.v u
  fn : ∀ g, g ∈ tb.fns → ∃ f fd ps, FnOk P w K mg base CX0 k f fd ps (PrF K C F g) ∧ mg g = some (.ref f) ∧ PySem.W.keepIn K (.ref f) = true ∧ Binds K fd ps []
  blt : ∀ x, x ∈ bltNames → mg x = none
  mt : ∀ m g, tb.mts.lookup m = some g → ∃ f fd ps, FnOk P w K mg base CX0 k f fd ps (PrF K C F g) ∧ Meth K C m f ∧ Binds K fd ps []
  mkc : ∀ x g, tb.mks.lookup x = some g → ∃ f fd ps k', k' + 1 ≤ k ∧ Mk K C f ∧ mg x = some (.ref C) ∧ FnOk P w K mg base CX0 k' f fd ps (spIni K C F g) ∧ Binds K fd ps []
  cl : tb.mts ≠ [] → Cls K C ∧ NoAttr K C sPoints ∧ NoAttr K C sStates
structure XOk (tb : Tb) (D : Dp) (k : Nat) (cc : Cc) (X : Cx) : Prop where
  wd : Wd X.prog X.w X.K X.mg X.base D.C D.F k tb
  K : X.K = D.K
  N : X.N = cc.N
  nd : cc.N.Nodup
  sc : X.env.scope = cc.sc
  fk : cc.sc.kind = .function
  calm : X.calm = true
  room : Room k X.A
  xe : X.xe = fun _ _ => False
  fn : ∀ x, cc.fnB x = true → X.fn x = true
  mec : cc.me = true → tb.mts ≠ []
structure COk (tb : Tb) (D : Dp) (M : En) (cc : Cc) : Prop where
  nv : cc.N.length = M.nv
  F : M.F = D.F
  me : cc.me = true → M.me = true ∧ Cls D.K D.C ∧ NoAttr D.K D.C sPoints ∧ NoAttr D.K D.C sStates
section
variable {tb : Tb} {D : Dp} {k : Nat} {cc : Cc} {X : Cx}
theorem XOk.hu (h : XOk tb D k cc X) : X.A.units + 65 < cLine := by have := h.room.un; omega
theorem XOk.hu1 (h : XOk tb D k cc X) : X.A.units + 1 < cLine := by have := h.room.un; omega
theorem XOk.gl (h : XOk tb D k cc X) {x : Str} (g : glB cc.sc x = true) : Gl X x := by
  unfold glB at g
  show X.env.scope.names.lookup x = _
  rw [h.sc]
  split at g
  · assumption
  · cases g
theorem XOk.vis (h : XOk tb D k cc X) {x : Str} (g : visB cc.sc x = true) : Vis X.env.scope x := by rw [h.sc]; exact visB_ok g
theorem XOk.at (h : XOk tb D k cc X) {x : Str} {i : Nat} (g : nameIx cc.N x = some i) : X.N[i]? = some x := by rw [h.N]; exact nameIx_get g
theorem dbg1 {x : Str} (h : dbg x = false) : (x == ("__debug__" : Str)) = false ∧ (x == ("__classdict__" : Str)) = false ∧ x ≠ "__name__" := by
  unfold dbg at h
  simp only [Bool.or_eq_false_iff] at h
  exact ⟨h.1.1, h.1.2, fun e => by have := h.2; rw [e] at this; simp at this⟩
theorem XOk.var (h : XOk tb D k cc X) {x : Str} {i : Nat} {pos : Pos} (hd : dbg x = false) (hv : visB cc.sc x = true) (g : nameIx cc.N x = some i) : PE X (.Name x pos) (tVar i) :=
  pe_var (h.at g) (h.vis hv) (dbg1 hd).1 (dbg1 hd).2.1
theorem xok_blk (h : XOk tb D k cc X) {scope : Scope} {own : List (Str × Nat)} (hb : BlkOk cc.N cc.sc scope own) (s : Shared) (H : Hp) (C : Addr) (cl : List (Str × Addr)) (fp : List Addr) :
    XOk tb D k ⟨cc.N, relS scope cc.sc, some scope.names, false⟩ (X.blk s H scope (compEnvC scope cl C X.env) fp) := by
  refine ⟨h.wd, h.K, h.N, h.nd, ?_, hb.kind, h.calm, h.room, rfl, fun x hx => ?_, fun z => by cases z⟩
  · show relabel scope X.env = relS scope cc.sc
    rw [← h.sc]
    rfl
  · exact hx
theorem self_pe (h : XOk tb D k cc X) {o : Expr} (g : isSelf cc o = true) : PE X o (tVar 0) ∧ plainBase o = true := by
  unfold isSelf at g
  split at g
  · simp only [Bool.and_eq_true, beq_iff_eq, Bool.not_eq_true'] at g
    obtain ⟨⟨⟨_, g1⟩, g2⟩, g3⟩ := g
    exact ⟨h.var g3 g2 g1, rfl⟩
  · cases g
theorem self_me {o : Expr} (g : isSelf cc o = true) : cc.me = true := by
  unfold isSelf at g
  split at g
  · simp only [Bool.and_eq_true] at g
    exact g.1.1.1
  · cases g
theorem ref_pe (h : XOk tb D k cc X) {e : Expr} {r : Rf} (g : cRef cc e = some r) : PE X e (r.t D.K) := by
  unfold cRef at g
  split at g
  · split at g
    · cases g
    · rename_i hd
      simp only [Bool.or_eq_true, Bool.not_eq_true', not_or, Bool.not_eq_true, Bool.not_eq_false] at hd
      split at g
      · rename_i i hi
        cases g
        exact h.var hd.1 hd.2 hi
      · cases g
  · split at g
    · rename_i hs
      obtain ⟨p1, p2⟩ := self_pe h hs
      split at g
      · rename_i e; subst e; cases g
        have := pe_fld (f := sPoints) (pos := by assumption) p1 (base_plain p2 _ _ _)
        rw [h.K] at this
        exact this
      · split at g
        · rename_i e; subst e; cases g
          have := pe_fld (f := sStates) (pos := by assumption) p1 (base_plain p2 _ _ _)
          rw [h.K] at this
          exact this
        · cases g
    · cases g
  · cases g
end
section
variable {tb : Tb} {D : Dp} {M : En} {cc : Cc} {X : Cx}
theorem nameIx_lt {N : List Str} {x : Str} {i : Nat} (h : nameIx N x = some i) : i < N.length := (List.getElem?_eq_some_iff.mp (nameIx_get h)).1
theorem ref_ok (c : COk tb D M cc) (hK : X.K = D.K) {e : Expr} {r : Rf} (g : cRef cc e = some r) : SlotT X M D.C (r.ix M.nv) (r.t D.K) := by
  unfold cRef at g
  split at g
  · split at g
    · cases g
    · split at g
      · rename_i i hi
        cases g
        exact var_real (by rw [← c.nv]; exact nameIx_lt hi)
      · cases g
  · split at g
    · rename_i hs
      obtain ⟨m1, m2, m3, m4⟩ := c.me (self_me hs)
      rw [← hK] at m2 m3 m4
      split at g
      · cases g
        have := fld_slot (X := X) (M := M) (C := D.C) m1 (k := 0) (.inl ⟨rfl, rfl⟩) m2 m3
        rw [hK] at this
        exact this
      · split at g
        · cases g
          have := fld_slot (X := X) (M := M) (C := D.C) m1 (k := 1) (.inr ⟨rfl, rfl⟩) m2 m4
          rw [hK] at this
          exact this
        · cases g
    · cases g
  · cases g
theorem slf_ok0 (c : COk tb D M cc) {o : Expr} (g : isSelf cc o = true) : 0 < M.nv := by
  unfold isSelf at g
  split at g
  · simp only [Bool.and_eq_true, beq_iff_eq] at g
    rw [← c.nv]
    exact nameIx_lt g.1.1.2
  · cases g
end
/-! ### what is right of a turned text -/
def GE (tb : Tb) (D : Dp) (k : Nat) (M : En) (cc : Cc) (e : Expr) (i : IE) : Prop := (∀ X, XOk tb D k cc X → PE X e (i.t D)) ∧ (COk tb D M cc → ∀ X, X.K = D.K → OkE X M D.C (i.t D) (i.m M.nv))
def GT (tb : Tb) (D : Dp) (k : Nat) (M : En) (cc : Cc) (e : Expr) (i : IT) : Prop := (∀ X, XOk tb D k cc X → PT X e (i.t D)) ∧ (COk tb D M cc → ∀ X, X.K = D.K → OkT X M D.C (i.t D) (i.m M.nv))
def GO (tb : Tb) (D : Dp) (k : Nat) (M : En) (cc : Cc) (e : Expr) (i : IO) : Prop := (∀ X, XOk tb D k cc X → PE X e (i.t D)) ∧ (COk tb D M cc → ∀ X, X.K = D.K → OkO X M D.C (i.t D) (i.m M.nv))
def GA (tb : Tb) (D : Dp) (k : Nat) (M : En) (cc : Cc) (es : List Expr) (i : IA) : Prop := (∀ X, XOk tb D k cc X → PA X es (i.t D)) ∧ (COk tb D M cc → ∀ X, X.K = D.K → OkA X M D.C (i.t D) (i.m M.nv))
def GL (tb : Tb) (D : Dp) (k : Nat) (M : En) (cc : Cc) (es : List Expr) (i : IL) : Prop := (∀ X, XOk tb D k cc X → PA X es (i.t D)) ∧ (COk tb D M cc → ∀ X, X.K = D.K → OkV X M D.C (i.t D) (i.m M.nv)) ∧ ∀ M' st ds st1, i.m M.nv M' st = some (ds, st1) → ds.length = es.length
def GP (tb : Tb) (D : Dp) (k : Nat) (M : En) (cc : Cc) (e : Option Expr) (i : IP) : Prop := (∀ X, XOk tb D k cc X → PO X e (i.t D)) ∧ (COk tb D M cc → ∀ X, X.K = D.K → OkP X M D.C (i.t D) (i.m M.nv))
def GI (tb : Tb) (D : Dp) (k : Nat) (M : En) (cc : Cc) (e : Expr) (i : II) : Prop := (∀ X, XOk tb D k cc X → ∀ tg, PI X tg e (i.t D)) ∧ (COk tb D M cc → ∀ X, X.K = D.K → OkI X M D.C (i.t D) (i.m M.nv))
def GS (tb : Tb) (D : Dp) (k : Nat) (M : En) (cc : Cc) (e : Stmt) (i : IS) : Prop := (∀ X, XOk tb D k cc X → PS X e (i.t D)) ∧ (COk tb D M cc → ∀ X, X.K = D.K → OkS X M D.C (i.t D) (i.m M.nv))
def GSs (tb : Tb) (D : Dp) (k : Nat) (M : En) (cc : Cc) (e : List Stmt) (i : IS) : Prop := (∀ X, XOk tb D k cc X → PSs X e (i.t D)) ∧ (COk tb D M cc → ∀ X, X.K = D.K → OkS X M D.C (i.t D) (i.m M.nv))
section
variable {tb : Tb} {D : Dp} {k : Nat} {M : En} {fe : FE} {ft : FT}
variable (he : ∀ cc e i, fe cc e = some i → GE tb D k M cc e i) (ht : ∀ cc e i, ft cc e = some i → GT tb D k M cc e i)
include he
theorem gO {cc : Cc} {e : Expr} {i : IO} (h : cO fe cc e = some i) : GO tb D k M cc e i := by
  unfold cO at h
  split at h
  · rename_i r hr
    cases h
    exact ⟨fun X hX => ref_pe hX hr, fun c X hK => ok_opl (ref_ok c hK hr)⟩
  · split at h
    · rename_i x hx
      cases h
      exact ⟨(he _ _ _ hx).1, fun c X hK => ((he _ _ _ hx).2 c X hK).opd⟩
    · cases h
theorem gA {cc : Cc} : ∀ {es : List Expr} {i : IA}, cA fe cc es = some i → GA tb D k M cc es i
  | [], _, h => by
    cases h
    exact ⟨fun X _ => pa_nil, fun _ X _ => oka_nil⟩
  | e :: r, i, h => by
    unfold cA at h
    split at h
    · rename_i a s h1 h2
      split at h
      · rename_i hs
        cases h
        have g1 := gO he h1
        have g2 := gA h2
        exact ⟨fun X hX => pa_cons (g1.1 X hX) (g2.1 X hX) (star_cons hs r X.env), fun c X hK => oka_cons (g1.2 c X hK) (g2.2 c X hK)⟩
      · cases h
    · cases h
theorem gL {cc : Cc} : ∀ {es : List Expr} {i : IL}, cL fe cc es = some i → GL tb D k M cc es i
  | [], _, h => by
    cases h
    exact ⟨fun X _ => pa_nil, fun _ X _ => okv_nil, fun M' st ds st1 e => by cases e; rfl⟩
  | e :: r, i, h => by
    unfold cL at h
    split at h
    · rename_i a s h1 h2
      split at h
      · rename_i hs
        cases h
        have g1 := he _ _ _ h1
        have g2 := gL h2
        refine ⟨fun X hX => pa_cons (g1.1 X hX) (g2.1 X hX) (star_cons hs r X.env), fun c X hK => okv_cons (g1.2 c X hK) (g2.2.1 c X hK), fun M' st ds st1 e => ?_⟩
        have e : consV (a.m M.nv) (s.m M.nv) M' st = some (ds, st1) := e
        unfold consV at e
        split at e
        · split at e
          · rename_i q
            cases e
            rw [List.length_cons, List.length_cons, g2.2.2 _ _ _ _ q]
          · cases e
        · cases e
      · cases h
    · cases h
theorem gP {cc : Cc} {e : Option Expr} {i : IP} (h : cP fe cc e = some i) : GP tb D k M cc e i := by
  unfold cP at h
  split at h
  · cases h; exact ⟨fun X _ => po_none, fun _ X _ => okp_no⟩
  · split at h
    · rename_i x hx
      cases h
      exact ⟨fun X hX => po_some ((he _ _ _ hx).1 X hX), fun c X hK => okp_some ((he _ _ _ hx).2 c X hK)⟩
    · cases h
theorem gOv {cc : Cc} {e : Expr} {i : IE} (h : fe cc e = some i) : GI tb D k M cc e (.ov i) := by
  refine ⟨fun X hX tg => ?_, fun c X hK => ?_⟩
  · have := pi_ov (tg := tg) ((he _ _ _ h).1 X hX)
    rw [hX.K] at this
    exact this
  · have := oki_ov ((he _ _ _ h).2 c X hK)
    rw [hK] at this
    exact this
theorem gI {cc : Cc} {e : Expr} {i : II} (h : cI fe cc e = some i) : GI tb D k M cc e i := by
  unfold cI at h
  split at h
  · split at h
    · rename_i hg
      simp only [Bool.and_eq_true, decide_eq_true_eq] at hg
      obtain ⟨rfl, hg⟩ := hg
      unfold cRng at h
      split at h
      · split at h
        · rename_i x hx
          split at h
          · rename_i hs
            cases h
            have g := he _ _ _ hx
            exact ⟨fun X hX tg => pi_range1 (hX.gl hg) (hX.wd.blt _ (by decide)) (pa_cons (g.1 X hX) pa_nil (star_cons hs [] X.env)) (star_one hs X.env), fun c X hK => oki_rg1 (g.2 c X hK)⟩
          · cases h
        · cases h
      · split at h
        · rename_i x y hx hy
          split at h
          · rename_i hs
            cases h
            simp only [Bool.and_eq_true] at hs
            have g := he _ _ _ hx
            have g' := he _ _ _ hy
            refine ⟨fun X hX tg => pi_range2 (hX.gl hg) (hX.wd.blt _ (by decide)) (pa_cons (g.1 X hX) (pa_cons (g'.1 X hX) pa_nil (star_cons hs.2 [] X.env)) (star_cons hs.1 _ X.env)) ?_ (star_one hs.2 X.env), fun c X hK => oki_rg2 (g.2 c X hK) (g'.2 c X hK)⟩
            rw [star_cons hs.1, star_one hs.2]
          · cases h
        · cases h
      · cases h
    · split at h
      · rename_i x hx
        cases h
        exact gOv he hx
      · cases h
  · split at h
    · split at h
      · rename_i x hx
        cases h
        exact gOv he hx
      · cases h
    · cases h
omit he
mutual
theorem okg_all (X : Cx) (M : En) (C : Addr) : ∀ tg : Tg, OkG X M C (tgT X.K tg) tg
  | .nm i => okg_nm
  | .tp ts => okg_tp (okgs_all X M C ts)
theorem okgs_all (X : Cx) (M : En) (C : Addr) : ∀ ts : Tgs, OkGs X M C (tgsT X.K ts) ts
  | .nil => okgs_nil
  | .cons t ts => okgs_cons (okg_all X M C t) (okgs_all X M C ts)
end
theorem XOk.sto {cc : Cc} {X : Cx} (h : XOk tb D k cc X) {x : Str} (g : stoB cc x = true) : Loc X.env.scope x ∧ (X.fn x = true ∨ X.env.scope.names.lookup x = some .local) := by
  rw [h.sc]
  unfold stoB at g
  split at g
  · rename_i e; exact ⟨.inl e, .inr e⟩
  · rename_i e; exact ⟨.inr e, .inl (h.fn x g)⟩
  · cases g
mutual
theorem gG {cc : Cc} {X : Cx} (hX : XOk tb D k cc X) : ∀ {n : Nat} {e : Expr} {t : Tg}, cG cc n e = some t → PG X e (tgT D.K t)
  | 0, e, t, h => by cases e <;> cases h
  | n + 1, e, t, h => by
    unfold cG at h
    split at h
    · split at h
      · rename_i hs
        split at h
        · rename_i i hi
          cases h
          obtain ⟨a, b⟩ := hX.sto hs
          exact pg_name (by rw [hX.N]; exact hX.nd) (hX.at hi) a b
        · cases h
      · cases h
    · split at h
      · rename_i ts hts
        cases h
        obtain ⟨a, b, c⟩ := gGs hX hts
        have := pg_tup (k := by assumption) (pos := by assumption) (n := tgsLen ts) hX.calm a (by rw [asg_len]; exact b) (asg_star X.env c)
        rw [hX.K] at this
        exact this
      · cases h
    · cases h
theorem gGs {cc : Cc} {X : Cx} (hX : XOk tb D k cc X) : ∀ {n : Nat} {es : List Expr} {t : Tgs}, cGs cc n es = some t → PGs X es (tgsT D.K t) ∧ es.length = tgsLen t ∧ es.all notStar = true
  | 0, es, t, h => by cases es <;> cases h
  | n + 1, [], t, h => by
    cases h
    exact ⟨pgs_nil, rfl, rfl⟩
  | n + 1, e :: r, t, h => by
    unfold cGs at h
    split at h
    · rename_i a b h1 h2
      split at h
      · rename_i hs
        cases h
        obtain ⟨p, q, z⟩ := gGs hX h2
        refine ⟨pgs_cons (gG hX h1) p (asg_map hs r X.env), ?_, ?_⟩
        · show r.length + 1 = tgsLen b + 1
          rw [q]
        · rw [List.all_cons, hs, z]; rfl
      · cases h
    · cases h
end
include he
theorem gBool {cc : Cc} {op : BoolOp} {pos : Pos} : ∀ {es : List Expr} {i : IE}, cBool fe op cc es = some i → GE tb D k M cc (.BoolOp op es pos) i
  | [], _, h => by cases h
  | [a], i, h => by
    have g := he _ _ _ (show fe cc a = some i from h)
    exact ⟨fun X hX => pe_one (g.1 X hX), g.2⟩
  | a :: b :: r, i, h => by
    unfold cBool at h
    split at h
    · rename_i x y h1 h2
      have g1 := he _ _ _ h1
      have g2 := gBool (pos := pos) h2
      cases h
      cases op with
      | And => exact ⟨fun X hX => pe_and (g1.1 X hX) (g2.1 X hX), fun c X hK => ok_and (g1.2 c X hK) (g2.2 c X hK)⟩
      | Or => exact ⟨fun X hX => pe_or (g1.1 X hX) (g2.1 X hX), fun c X hK => ok_or (g1.2 c X hK) (g2.2 c X hK)⟩
    · cases h
omit he
include ht
theorem gBoolT {cc : Cc} {op : BoolOp} {pos : Pos} : ∀ {es : List Expr} {i : IT}, cBoolT ft op cc es = some i → (∀ X, XOk tb D k cc X → PW X (.BoolOp op es pos) (i.t D)) ∧ (COk tb D M cc → ∀ X, X.K = D.K → OkT X M D.C (i.t D) (i.m M.nv))
  | [], _, h => by cases h
  | [a], i, h => by
    have g := ht _ _ _ (show ft cc a = some i from h)
    refine ⟨fun X hX => ?_, g.2⟩
    cases op with
    | And => exact pw_and1 (g.1 X hX)
    | Or => exact pw_or1 (g.1 X hX)
  | a :: b :: r, i, h => by
    unfold cBoolT at h
    split at h
    · rename_i x y h1 h2
      have g1 := ht _ _ _ h1
      have g2 := gBoolT (pos := pos) h2
      cases h
      cases op with
      | And => exact ⟨fun X hX => pw_and (g1.1 X hX) (g2.1 X hX), fun c X hK => okt_and (g1.2 c X hK) (g2.2 c X hK)⟩
      | Or => exact ⟨fun X hX => pw_or (g1.1 X hX) (g2.1 X hX), fun c X hK => okt_or (g1.2 c X hK) (g2.2 c X hK)⟩
    · cases h
omit ht
include he ht
theorem gLc {cc : Cc} {elt tg iter : Expr} {ifs : List Expr} {scope : Scope} {i : IE} (h : cLc fe ft cc elt tg iter ifs scope = some i) :
    ∃ g src t x own, i = .lc g (own.map (·.2)) src t x ∧ BlkOk cc.N cc.sc scope own ∧ notSet iter = true ∧ (∀ X, XOk tb D k cc X → ∀ tg, PI X tg iter (src.t D)) ∧
      (∀ X, XOk tb D k cc X → ∀ (s : Shared) (H : Hp) (C : Addr) (cl : List (Str × Addr)) (fp : List Addr), PG (X.blk s H scope (compEnvC scope cl C X.env) fp) tg (tgT D.K g) ∧ PTs (X.blk s H scope (compEnvC scope cl C X.env) fp) ifs (t.t D) ∧ PE (X.blk s H scope (compEnvC scope cl C X.env) fp) elt (x.t D)) ∧
      (COk tb D M cc → ∀ X, X.K = D.K → OkE X M D.C (i.t D) (i.m M.nv)) := by
  unfold cLc at h
  simp only at h
  split at h
  · rename_i hb
    simp only [Bool.and_eq_true] at hb
    have bk := blkOk_by hb.1
    split at h
    · rename_i src g x h1 h2 h3
      have gi := gI he h1
      have gx := he _ _ _ h3
      split at h
      · rename_i hsub
        have sub : ∀ i ∈ tgIx g, i ∈ (ownOf cc.N scope.names).map (·.2) := fun i hi => by
          unfold subNat at hsub
          have := List.all_eq_true.mp hsub i hi
          exact of_decide_eq_true this
        have cb : COk tb D M cc → COk tb D M ⟨cc.N, relS scope cc.sc, some scope.names, false⟩ := fun c => ⟨c.nv, c.F, fun z => by cases z⟩
        split at h
        · cases h
          refine ⟨g, src, .yes, x, ownOf cc.N scope.names, rfl, bk, hb.2, gi.1, fun X hX s H C cl fp => ?_, fun c X hK => ?_⟩
          · have hB := xok_blk hX bk s H C cl fp
            exact ⟨gG hB h2, pts_nil, gx.1 _ hB⟩
          · have hg := okg_all X M D.C g
            rw [hK] at hg
            exact ok_lc (gi.2 c X hK) hg okt_yes (gx.2 (cb c) X hK).val sub
        · split at h
          · rename_i y h4
            cases h
            have gy := ht _ _ _ h4
            refine ⟨g, src, y, x, ownOf cc.N scope.names, rfl, bk, hb.2, gi.1, fun X hX s H C cl fp => ?_, fun c X hK => ?_⟩
            · have hB := xok_blk hX bk s H C cl fp
              exact ⟨gG hB h2, pts_one (gy.1 _ hB), gx.1 _ hB⟩
            · have hg := okg_all X M D.C g
              rw [hK] at hg
              exact ok_lc (gi.2 c X hK) hg (gy.2 (cb c) X hK) (gx.2 (cb c) X hK).val sub
          · cases h
        · cases h
      · cases h
    · cases h
  · cases h
end
end Rb
namespace Rb
open PySem L2 PyProof.Rows
section
variable {tb : Tb} {D : Dp} {k : Nat} {cc : Cc} {X : Cx}
theorem blt_fn (hX : XOk tb D k cc X) {g : Str} {es : List Expr} {b : Blt} {t : TA} {p pos : Pos} (id : String) (hb : bltV b = .builtin id) (hv : bootBuiltins g = some (.builtin id)) (hn : g ∈ bltNames) (hg : glB cc.sc g = true) (hs : es.all notStar = true) (hd : dbg g = false) (hne : es ≠ []) (ha : PA X es t) :
    PE X (.Call (.Name g p) es [] pos) (tCB (rBlt X.K b) t) := by
  cases es with
  | nil => exact absurd rfl hne
  | cons e r =>
    simp only [List.all_cons, Bool.and_eq_true] at hs
    have hc := blt_call hX.calm b
    rw [hb] at hc
    exact pe_callB hc (hX.gl hg) (hX.wd.blt g hn) hv ha (dbg1 hd).2.2 (dbg1 hd).1 (star_cons hs.1 r X.env) (star_back X.env pos hs.2)
theorem blt_ty (hX : XOk tb D k cc X) {g : Str} {es : List Expr} {b : Blt} {t : TA} {p pos : Pos} (id : String) (hb : bltV b = .type id) (hv : bootBuiltins g = some (.type id)) (hn : g ∈ bltNames) (hg : glB cc.sc g = true) (hs : es.all notStar = true) (hd : dbg g = false) (hne : es ≠ []) (ha : PA X es t) :
    PE X (.Call (.Name g p) es [] pos) (tCB (rBlt X.K b) t) := by
  cases es with
  | nil => exact absurd rfl hne
  | cons e r =>
    simp only [List.all_cons, Bool.and_eq_true] at hs
    have hc := blt_call hX.calm b
    rw [hb] at hc
    exact pe_callTy hc (hX.gl hg) (hX.wd.blt g hn) hv ha (dbg1 hd).2.2 (dbg1 hd).1 (star_cons hs.1 r X.env) (star_back X.env pos hs.2)
theorem blt_pe (hX : XOk tb D k cc X) {g : Str} {es : List Expr} {b : Blt} {t : TA} {p pos : Pos} (h : bltOf g es.length = some b) (hg : glB cc.sc g = true) (hs : es.all notStar = true) (hd : dbg g = false) (ha : PA X es t) :
    PE X (.Call (.Name g p) es [] pos) (tCB (rBlt X.K b) t) := by
  have hne : es ≠ [] := fun e => by rw [e] at h; cases h
  unfold bltOf at h
  split at h
  · split at h
    · rename_i e; subst e; cases h; exact blt_fn hX "len" rfl PySem.boot_len (by decide) hg hs hd hne ha
    split at h
    · rename_i e; subst e; cases h; exact blt_fn hX "sum" rfl boot_sum (by decide) hg hs hd hne ha
    split at h
    · rename_i e; subst e; cases h; exact blt_fn hX "sorted" rfl boot_sorted (by decide) hg hs hd hne ha
    split at h
    · rename_i e; subst e; cases h; exact blt_fn hX "abs" rfl boot_abs (by decide) hg hs hd hne ha
    split at h
    · rename_i e; subst e; cases h; exact blt_ty hX "str" rfl boot_str (by decide) hg hs hd hne ha
    split at h
    · rename_i e; subst e; cases h; exact blt_ty hX "int" rfl boot_int (by decide) hg hs hd hne ha
    split at h
    · rename_i e; subst e; cases h; exact blt_ty hX "tuple" rfl boot_tuple (by decide) hg hs hd hne ha
    split at h
    · rename_i e; subst e; cases h; exact blt_ty hX "list" rfl boot_list (by decide) hg hs hd hne ha
    split at h
    · rename_i e; subst e; cases h; exact blt_ty hX "dict" rfl boot_dict (by decide) hg hs hd hne ha
    · cases h
  · split at h
    · rename_i e; subst e; cases h; exact blt_fn hX "min" rfl boot_min (by decide) hg hs hd hne ha
    split at h
    · rename_i e; subst e; cases h; exact blt_fn hX "max" rfl boot_max (by decide) hg hs hd hne ha
    · cases h
  · cases h
theorem tn_pe (hX : XOk tb D k cc X) {x : Str} {T : Tn} {pos : Pos} (h : tnOf x = some T) (hg : glB cc.sc x = true) : PE X (.Name x pos) (tC (.ty T.nm)) := by
  unfold tnOf at h
  split at h
  · rename_i e; subst e; cases h; exact pe_bltn (hX.gl hg) (hX.wd.blt _ (by decide)) boot_int rfl
  split at h
  · rename_i e; subst e; cases h; exact pe_bltn (hX.gl hg) (hX.wd.blt _ (by decide)) boot_bool rfl
  split at h
  · rename_i e; subst e; cases h; exact pe_bltn (hX.gl hg) (hX.wd.blt _ (by decide)) boot_str rfl
  split at h
  · rename_i e; subst e; cases h; exact pe_bltn (hX.gl hg) (hX.wd.blt _ (by decide)) boot_list rfl
  split at h
  · rename_i e; subst e; cases h; exact pe_bltn (hX.gl hg) (hX.wd.blt _ (by decide)) boot_tuple rfl
  · cases h
end
section
variable {tb : Tb} {D : Dp} {k : Nat} {M : En} {fe : FE} {ft : FT}
variable (he : ∀ cc e i, fe cc e = some i → GE tb D k M cc e i) (ht : ∀ cc e i, ft cc e = some i → GT tb D k M cc e i)
include he
theorem gCall {cc : Cc} {g : Str} {es : List Expr} {p pos : Pos} {i : IE} (h : cCall tb fe cc g es = some i) : GE tb D k M cc (.Call (.Name g p) es [] pos) i := by
  unfold cCall at h
  split at h
  · cases h
  · rename_i hc
    simp only [Bool.or_eq_true, not_or, Bool.not_eq_true, Bool.not_eq_false', decide_eq_false_iff_not] at hc
    obtain ⟨⟨⟨h1, h2⟩, h3⟩, h4⟩ := hc
    split at h
    · rename_i b hb
      split at h
      · rename_i as ha
        cases h
        have g1 := gA he ha
        refine ⟨fun X hX => ?_, fun c X hK => ?_⟩
        · have := blt_pe (p := p) (pos := pos) hX hb h2 h3 h1 (g1.1 X hX)
          rw [hX.K] at this
          exact this
        · have := ok_blt (b := b) (g1.2 c X hK)
          rw [hK] at this
          exact this
      · cases h
    · split at h
      · rename_i e
        subst e
        split at h
        · split at h
          · rename_i t x ht' hx
            split at h
            · rename_i hT
              cases h
              have g1 := gO he hx
              simp only [List.all_cons, Bool.and_eq_true] at h3
              refine ⟨fun X hX => ?_, fun c X hK => ?_⟩
              · show PE X _ (tCB (rIsi D.K) (tCons (x.t D) (tCons (tC (.ty t.nm)) tNil)))
                rw [← hX.K]
                exact pe_callB call_isi (hX.gl h2) (hX.wd.blt _ (by decide)) boot_isinstance (pa_cons (g1.1 X hX) (pa_cons (tn_pe hX ht' hT) pa_nil rfl) (star_cons h3.1 _ X.env)) (by decide) (by decide) (star_cons h3.1 _ X.env) rfl
              · have := ok_isi (T := t) (g1.2 c X hK)
                rw [hK] at this
                exact this
            · cases h
          · cases h
        · cases h
      · split at h
        · rename_i hm
          have hm := of_decide_eq_true hm
          split at h
          · rename_i as ha
            cases h
            have g1 := gA he ha
            refine ⟨fun X hX => ?_, fun c X hK => ?_⟩
            · obtain ⟨f, fd, ps, F1, F2, F3, F4⟩ := hX.wd.fn g hm
              have : PE X (.Call (.Name g p) es [] pos) (tCall (PrF X.K D.C D.F g) [] E0 (as.t D)) := by
                cases es with
                | nil =>
                  cases ha
                  exact pe_call0 F1 hX.room (hX.gl h2) F2 F3 F4 .nil pass0 (dbg1 h1).1
                | cons e r => exact pe_callG F1 hX.room (hX.gl h2) F2 F3 F4 h3 (dbg1 h1).1 (g1.1 X hX) (by simp)
              rw [hX.K] at this
              exact this
            · have := ok_call (g := g) (g1.2 c X hK)
              rw [hK, c.F] at this
              exact this
          · cases h
        · split at h
          · rename_i key e0 r hk _
            split at h
            · rename_i as ha
              cases h
              have g1 := gL he ha
              simp only [List.all_cons, Bool.and_eq_true] at h3
              refine ⟨fun X hX => ?_, fun c X hK => ?_⟩
              · obtain ⟨f, fd, ps, k', F1, F2, F3, F4, F5⟩ := hX.wd.mkc g key hk
                have : PE X (.Call (.Name g p) (e0 :: r) [] pos) (tMake D.C (spIni X.K D.C D.F key) [] E0 (as.t D)) :=
                  pe_make F2 F4 (hX.room.mono F1) (hX.gl h2) F3 F5 .nil pass0 (g1.1 X hX) (dbg1 h1).1 (star_cons h3.1 r X.env) (star_back X.env pos h3.2)
                rw [hX.K] at this
                exact this
              · have := ok_mk (g := key) (g1.2.1 c X hK)
                rw [hK, c.F] at this
                exact this
            · cases h
          · cases h
theorem flds_no {m : Str} (h : ¬ (m = sPoints ∨ m = sStates)) (v1 v2 : V) : (flds v1 v2).lookup m = none := by
  have h1 : (m == Str.ofString "points") = false := by
    cases q : (m == Str.ofString "points") with
    | false => rfl
    | true => exact absurd (.inl (eq_of_beq q)) h
  have h2 : (m == Str.ofString "states") = false := by
    cases q : (m == Str.ofString "states") with
    | false => rfl
    | true => exact absurd (.inr (eq_of_beq q)) h
  unfold flds
  rw [List.lookup_cons, h1, List.lookup_cons, h2]
  rfl
theorem gMeth {cc : Cc} {o : Expr} {m : Str} {es : List Expr} {apos pos : Pos} {i : IE} (h : cMeth tb fe cc o m es apos pos = some i) : GE tb D k M cc (.Call (.Attribute o m apos) es [] pos) i := by
  unfold cMeth at h
  split at h
  · cases h
  · rename_i hc
    simp only [Bool.or_eq_true, not_or, Bool.not_eq_true, Bool.not_eq_false', decide_eq_false_iff_not, bne_eq_false_iff_eq] at hc
    obtain ⟨⟨⟨h1, h2⟩, h3⟩, h4⟩ := hc
    have h3 : es.length < 29 := by omega
    have h4 : (apos.endLine == pos.line) = true := by rw [h4]; simp
    split at h
    · rename_i g hg
      split at h
      · cases h
      · rename_i hno
        simp only [Bool.or_eq_true, decide_eq_true_eq] at hno
        have hne : tb.mts ≠ [] := fun e => by rw [e] at hg; cases hg
        split at h
        · rename_i as ha
          have g1 := gA he ha
          have h0 : es = [] → as.t D = tNil := fun e => by subst e; cases ha; rfl
          split at h
          · rename_i hs
            cases h
            refine ⟨fun X hX => ?_, fun c X hK => ?_⟩
            · obtain ⟨f, fd, ps, F1, F2, F3⟩ := hX.wd.mt m g hg
              have := pe_methG (apos := apos) (pos := pos) (self_pe hX hs).1 (hX.wd.cl hne).1 F2 F1 hX.room F3 h1 h2 h3 h4 (g1.1 X hX) h0
              rw [hX.K] at this
              exact this
            · have := ok_slf (g := g) (g1.2 c X hK) (flds_no he hno) (c.me (self_me hs)).1
              rw [hK, c.F] at this
              exact this
          · split at h
            · rename_i j hj
              cases h
              refine ⟨fun X hX => ?_, fun c X hK => ?_⟩
              · obtain ⟨f, fd, ps, F1, F2, F3⟩ := hX.wd.mt m g hg
                have := pe_methG (apos := apos) (pos := pos) (ref_pe hX hj) (hX.wd.cl hne).1 F2 F1 hX.room F3 h1 h2 h3 h4 (g1.1 X hX) h0
                rw [hX.K] at this
                exact this
              · have := ok_meth (g := g) (i := j) (ref_ok c hK hj) (g1.2 c X hK) (flds_no he hno)
                rw [hK, c.F] at this
                exact this
            · cases h
        · cases h
    · rcases es with _ | ⟨a, _ | ⟨b, r⟩⟩
      · dsimp only at h
        split at h
        · rename_i e
          subst e
          split at h
          · rename_i r hr
            cases h
            refine ⟨fun X hX => ?_, fun c X hK => ?_⟩
            · have := pe_bm0 (apos := apos) (cpos := pos) PySem.F.plainAttrs_list PySem.F.slot_list_pop PySem.F.type_list_pop mt_pop (ref_pe hX hr) (base_plain h1 _ _ _) h4
              rw [hX.K] at this
              exact this
            · have := ok_pop (ref_ok c hK hr)
              rw [hK] at this
              exact this
          · cases h
        · split at h
          · rename_i e
            subst e
            split at h
            · rename_i x hx
              cases h
              have g1 := he _ _ _ hx
              refine ⟨fun X hX => ?_, fun c X hK => ?_⟩
              · have := pe_bm0 (apos := apos) (cpos := pos) PySem.F.plainAttrs_list PySem.F.slot_list_clear PySem.F.type_list_clear mt_clear (g1.1 X hX) (base_plain h1 _ _ _) h4
                rw [hX.K] at this
                exact this
              · have := ok_tmpClr (g1.2 c X hK)
                rw [hK] at this
                exact this
            · cases h
          · cases h
      · dsimp only at h
        have hs := h2
        simp only [List.all_cons, List.all_nil, Bool.and_true] at hs
        have M1ok : ∀ (X : Cx) (m : Str), M1 X o m apos a pos := fun X m => ⟨base_plain h1 _ _ _, few_ok X.env pos h2 h3, h4, by rw [star_one hs]; rfl⟩
        split at h
        · rename_i e
          subst e
          split at h
          · rename_i r x hr hx
            cases h
            have g1 := he _ _ _ hx
            refine ⟨fun X hX => ?_, fun c X hK => ?_⟩
            · have := pe_bm (apos := apos) (cpos := pos) PySem.F.plainAttrs_list PySem.F.slot_list_append PySem.F.type_list_append mt_append (ref_pe hX hr) (pa_cons (g1.1 X hX) pa_nil (star_one hs X.env)) (base_plain h1 _ _ _) (few_ok X.env pos h2 h3) h4 (star_cons hs [] X.env) rfl
              rw [hX.K] at this
              exact this
            · have := ok_app (ref_ok c hK hr) (g1.2 c X hK)
              rw [hK] at this
              exact this
          · cases h
        · split at h
          · rename_i e
            subst e
            split at h
            · rename_i r x hr hx
              cases h
              have g1 := he _ _ _ hx
              exact ⟨fun X hX => pe_dpop1 (ref_pe hX hr) (g1.1 X hX) (M1ok X _), fun c X hK => ok_popK (ref_ok c hK hr) (g1.2 c X hK)⟩
            · cases h
          · split at h
            · rename_i e
              subst e
              split at h
              · rename_i r x hr hx
                cases h
                have g0 := gO he hr
                have g1 := gO he hx
                exact ⟨fun X hX => pe_dget1 hX.hu1 (g0.1 X hX) (g1.1 X hX) (M1ok X _), fun c X hK => ok_get1 (g0.2 c X hK) (g1.2 c X hK)⟩
              · cases h
            · cases h
      · cases h
end
end Rb
namespace Rb
open PySem L2 PyProof.Rows
section
variable {tb : Tb} {D : Dp} {k : Nat} {M : En} {fe : FE} {ft : FT}
variable (he : ∀ cc e i, fe cc e = some i → GE tb D k M cc e i) (ht : ∀ cc e i, ft cc e = some i → GT tb D k M cc e i)
include he ht
theorem gE {cc : Cc} {e : Expr} {i : IE} (h : cE tb fe ft cc e = some i) : GE tb D k M cc e i := by
  unfold cE at h
  split at h
  · rename_i r hr
    cases h
    exact ⟨fun X hX => ref_pe hX hr, fun c X hK => ok_var (ref_ok c hK hr)⟩
  · split at h
    · cases h; exact ⟨fun X _ => pe_int, fun _ X _ => ok_cst (Cs.dat _)⟩
    · cases h; exact ⟨fun X _ => pe_str, fun _ X _ => ok_cst (Cs.dat _)⟩
    · cases h; exact ⟨fun X _ => pe_bl, fun _ X _ => ok_cst (Cs.dat _)⟩
    · cases h; exact ⟨fun X _ => pe_non, fun _ X _ => ok_cst (Cs.dat _)⟩
    · unfold cName at h
      split at h
      · cases h
      · rename_i hc
        simp only [Bool.or_eq_true, Bool.not_eq_true', not_or, Bool.not_eq_true, Bool.not_eq_false] at hc
        split at h
        · rename_i c0 h0
          cases h
          refine ⟨fun X hX => ?_, fun _ X _ => ok_cst (Cs.dat _)⟩
          obtain ⟨u, u1, u2⟩ := hX.wd.cst _ _ h0
          exact pe_glob (hX.gl hc.2) u1 u2 (dbg1 hc.1).1
        · cases h
    · split at h
      · rename_i x y h1 h2
        cases h
        have g1 := gO he h1
        have g2 := gO he h2
        refine ⟨fun X hX => ?_, fun c X hK => ?_⟩
        · have := pe_op (pos := by assumption) (op_bin (X := X) (by assumption)) (g1.1 X hX) (g2.1 X hX)
          rw [hX.K] at this
          exact this
        · have := ok_bin (op := by assumption) (g1.2 c X hK) (g2.2 c X hK)
          rw [hK] at this
          exact this
      · cases h
    · split at h
      · rename_i x h1
        cases h
        have g1 := he _ _ _ h1
        exact ⟨fun X hX => pe_un un_neg (g1.1 X hX), fun c X hK => ok_neg (g1.2 c X hK)⟩
      · cases h
    · split at h
      · rename_i x h1
        cases h
        have g1 := he _ _ _ h1
        exact ⟨fun X hX => pe_not (g1.1 X hX), fun c X hK => ok_not (g1.2 c X hK)⟩
      · cases h
    · exact gBool he h
    · split at h
      · rename_i x y h1 h2
        split at h
        · rename_i hs
          cases h
          have g1 := gO he h1
          have g2 := gO he h2
          refine ⟨fun X hX => ?_, fun c X hK => ?_⟩
          · show PE X _ (tOp (rCmp D.K _) (x.t D) (y.t D))
            rw [← hX.K]
            exact pe_cmpR (op_cmp hX.hu _) (g1.1 X hX) (g2.1 X hX) (behind_no hs _)
          · have := ok_cmp (op := by assumption) (g1.2 c X hK) (g2.2 c X hK)
            rw [hK] at this
            exact this
        · cases h
      · cases h
    · split at h
      · rename_i x y z h1 h2 h3
        split at h
        · rename_i hs
          cases h
          have g1 := he _ _ _ h1
          have g2 := he _ _ _ h2
          have g3 := he _ _ _ h3
          refine ⟨fun X hX => ?_, fun c X hK => ?_⟩
          · show PE X _ (tChain (rCmp D.K _) (rCmp D.K _) (x.t D) (y.t D) (z.t D))
            rw [← hX.K]
            exact pe_chain (op_cmp hX.hu _) (op_cmp hX.hu _) (g1.1 X hX) (g2.1 X hX) (g3.1 X hX) (last_no hs _ _)
          · show OkE X M D.C (tChain (rCmp D.K _) (rCmp D.K _) (x.t D) (y.t D) (z.t D)) _
            rw [← hK]
            exact (ok_chn (g1.2 c X hK) (g2.2 c X hK) (g3.2 c X hK)).exp
        · cases h
      · cases h
    · split at h
      · rename_i x y z h1 h2 h3
        cases h
        have g1 := ht _ _ _ h1
        have g2 := he _ _ _ h2
        have g3 := he _ _ _ h3
        exact ⟨fun X hX => pe_ifExp (g1.1 X hX) (g2.1 X hX) (g3.1 X hX), fun c X hK => ok_ite (g1.2 c X hK) (g2.2 c X hK) (g3.2 c X hK)⟩
      · cases h
    · split at h
      · rename_i l h1
        split at h
        · rename_i hl
          cases h
          have g1 := gL he h1
          exact ⟨fun X hX => pe_tup (g1.1 X hX), fun c X hK => ok_tup (g1.2.1 c X hK) 0 fun M' st ds st1 e => by rw [g1.2.2 _ _ _ _ e]; omega⟩
        · cases h
      · cases h
    · split at h
      · rename_i l h1
        split at h
        · rename_i hl
          cases h
          have g1 := gL he h1
          exact ⟨fun X hX => pe_lst (g1.1 X hX), fun c X hK => ok_lst (g1.2.1 c X hK) 0 fun M' st ds st1 e => by rw [g1.2.2 _ _ _ _ e]; omega⟩
        · cases h
      · cases h
    · cases h
      exact ⟨fun X hX => pe_dnewK, fun c X hK => ok_dic⟩
    · split at h
      · rename_i x y z h1 h2 h3
        cases h
        have g1 := gO he h1
        have g2 := gP he h2
        have g3 := gP he h3
        refine ⟨fun X hX => ?_, fun c X hK => ?_⟩
        · show PE X _ (tSl (rSlc D.K) (x.t D) (y.t D) (z.t D))
          rw [← hX.K]
          exact pe_slice slc_any (g1.1 X hX) (g2.1 X hX) (g3.1 X hX)
        · have := ok_slc (g1.2 c X hK) (g2.2 c X hK) (g3.2 c X hK)
          rw [hK] at this
          exact this
      · cases h
    · split at h
      · rename_i x y h1 h2
        split at h
        · rename_i hs
          cases h
          have g1 := gO he h1
          have g2 := gO he h2
          refine ⟨fun X hX => ?_, fun c X hK => ?_⟩
          · have := PE.or (pe_ix (pos := by assumption) ix_seq (g1.1 X hX) (g2.1 X hX) (plain_ix hs)) (pe_dget hX.hu1 (g1.1 X hX) (g2.1 X hX) (plain_ix hs))
            rw [hX.K] at this
            exact this
          · have := ok_ix (g1.2 c X hK) (g2.2 c X hK)
            rw [hK] at this
            exact this
        · cases h
      · cases h
    · obtain ⟨g, src, t, x, own, rfl, bk, hs, gi, gb, gk⟩ := gLc he ht h
      refine ⟨fun X hX => ?_, gk⟩
      exact pe_lc hX.calm (by rw [hX.N]; exact hX.nd) (gi X hX _) (by rw [hX.N, hX.sc]; exact bk) (fun s H C cl fp => (gb X hX s H C cl fp).1) (fun s H C cl fp => (gb X hX s H C cl fp).2.1) (fun s H C cl fp => (gb X hX s H C cl fp).2.2) (folded_no hs X.env)
    · exact gCall he h
    · exact gMeth he h
    · cases h
theorem gT {cc : Cc} {e : Expr} {i : IT} (h : cT fe ft cc e = some i) : GT tb D k M cc e i := by
  unfold cT at h
  split at h
  · split at h
    · rename_i x h1
      cases h
      have g1 := ht _ _ _ h1
      exact ⟨fun X hX => pt_not (g1.1 X hX), fun c X hK => okt_not (g1.2 c X hK)⟩
    · cases h
  · have g := gBoolT (pos := by assumption) ht h
    exact ⟨fun X hX => (g.1 X hX).pt, g.2⟩
  · split at h
    · rename_i x y h1 h2
      split at h
      · rename_i hs
        cases h
        have g1 := gO he h1
        have g2 := gO he h2
        refine ⟨fun X hX => ?_, fun c X hK => ?_⟩
        · show PT X _ (tTest (tOp (rCmp D.K _) (x.t D) (y.t D)))
          rw [← hX.K]
          exact pt_cmpR (op_cmp hX.hu _) (g1.1 X hX) (g2.1 X hX) (behind_no hs _)
        · have := (ok_cmp (op := by assumption) (g1.2 c X hK) (g2.2 c X hK)).bol.tst2
          rw [hK] at this
          exact this
      · cases h
    · cases h
  · split at h
    · rename_i x y z h1 h2 h3
      split at h
      · rename_i hs
        cases h
        have g1 := he _ _ _ h1
        have g2 := he _ _ _ h2
        have g3 := he _ _ _ h3
        refine ⟨fun X hX => ?_, fun c X hK => ?_⟩
        · show PT X _ (tTest (tChain (rCmp D.K _) (rCmp D.K _) (x.t D) (y.t D) (z.t D)))
          rw [← hX.K]
          exact pt_chain (op_cmp hX.hu _) (op_cmp hX.hu _) (g1.1 X hX) (g2.1 X hX) (g3.1 X hX) (last_no hs _ _)
        · show OkT X M D.C (tTest (tChain (rCmp D.K _) (rCmp D.K _) (x.t D) (y.t D) (z.t D))) _
          rw [← hK]
          exact (ok_chn (g1.2 c X hK) (g2.2 c X hK) (g3.2 c X hK)).tst2
      · cases h
    · cases h
  · split at h
    · rename_i hp
      split at h
      · rename_i x h1
        cases h
        have g1 := he _ _ _ h1
        exact ⟨fun X hX => pt_val (g1.1 X hX) (test_plain hp X.env), fun c X hK => (g1.2 c X hK).bol.tst⟩
      · cases h
    · cases h
end
theorem cmp_ok2 {tb : Tb} {D : Dp} {k : Nat} {M : En} : ∀ n : Nat, (∀ cc e i, (cmpN tb n).e cc e = some i → GE tb D k M cc e i) ∧ ∀ cc e i, (cmpN tb n).t cc e = some i → GT tb D k M cc e i
  | 0 => ⟨fun _ _ _ h => (by cases h), fun _ _ _ h => (by cases h)⟩
  | n + 1 => by
    obtain ⟨a, b⟩ := cmp_ok2 (tb := tb) (D := D) (k := k) (M := M) n
    exact ⟨fun cc e i h => gE a b h, fun cc e i h => gT a b h⟩
end Rb
namespace Rb
open PySem L2 PyProof.Rows
theorem locB_ok {sc : Scope} {x : Str} (h : locB sc x = true) : sc.names.lookup x = some .local := by
  unfold locB at h
  split at h
  · assumption
  · cases h
theorem star_match {a : Expr} (h : notStar a = true) : (match (generalizing := false) a with | .Starred _ _ => true | _ => false) = false := by
  cases a <;> first | rfl | cases h
theorem swapped_par {x y : Str} {px py pt p2 : Pos} {kt k2 : Nat} {a b : Expr} {env : Env} (hk : env.scope.kind = .function) (hx : env.scope.names.lookup x = some .local) (hy : env.scope.names.lookup y = some .local) (hl : (px.line == py.line) = true) (hn : x ≠ y) (ha : notStar a = true) (hb : notStar b = true)
    (h1 : (foldedForSure 8 a && foldedForSure 8 b) = false) (h2 : (constantsAlone 8 a && constantsAlone 8 b) = false) :
    swappedStores [.Tuple [.Name x px, .Name y py] kt pt] (.Tuple [a, b] k2 p2) env = pure (some [x, y]) := by
  have kx : env.kindOf x = some .local := hx
  have ky : env.kindOf y = some .local := hy
  have kb : env.blockKind = .function := by unfold Env.blockKind; rw [hk]; rfl
  have hl' : px.line = py.line := by simpa using hl
  have sa := star_match ha
  have sb := star_match hb
  have f1 : ([a, b].all (foldedForSure 8)) = false := by simpa using h1
  have f2 : ([a, b].all (constantsAlone 8)) = false := by simpa using h2
  have st : ([a, b].any fun | .Starred .. => true | _ => false) = false := by
    simp only [List.any_cons, List.any_nil, Bool.or_false]
    rw [Bool.or_eq_false_iff]
    exact ⟨sa, sb⟩
  have nm : ([Expr.Name x px, Expr.Name y py].filterMap fun
    | .Name id pos => if env.kindOf id == some .local && pos.line == px.line then some id else none
    | _ => none) = [x, y] := by
    simp [kx, ky, hl']
  have ed : [x, y].eraseDups.length = 2 := by
    rw [List.eraseDups_cons]
    have : ([y].filter fun b => !b == x) = [y] := by
      have : (y == x) = false := by simpa using fun e => hn e.symm
      simp [this]
    rw [this, List.eraseDups_cons]
    simp
  have nm2 : ([Expr.Name x px, Expr.Name y py].filterMap fun
    | .Name id pos => if env.kindOf id == some .local && pos.line == (([Expr.Name x px, Expr.Name y py].head?.map (·.pos.line)).getD 0) then some id else none
    | _ => none) = [x, y] := nm
  unfold swappedStores
  simp only [kb]
  refine (if_neg ?_).trans ((if_neg ?_).trans ((if_neg ?_).trans ((if_neg ?_).trans ((if_neg ?_).trans ?_))))
  · simp
  · exact Bool.eq_false_iff.mp st
  · have e3 : (([x, y] : List Str).length != [Expr.Name x px, Expr.Name y py].length || ([x, y] : List Str).eraseDups.length != ([x, y] : List Str).length) = false := by rw [ed]; rfl
    rw [← nm2] at e3
    exact Bool.eq_false_iff.mp e3
  · exact Bool.eq_false_iff.mp f1
  · exact Bool.eq_false_iff.mp f2
  · exact congrArg (fun l => pure (some l)) nm2
section
variable {tb : Tb} {D : Dp} {k : Nat} {M : En} {fe : FE} {ft : FT}
variable (he : ∀ cc e i, fe cc e = some i → GE tb D k M cc e i) (ht : ∀ cc e i, ft cc e = some i → GT tb D k M cc e i)
include he ht
theorem gAsg {cc : Cc} {tg e : Expr} {pos : Pos} {i : IS} (h : cAsg fe ft cc tg e pos = some i) : GS tb D k M cc (.Assign [tg] e pos) i := by
  unfold cAsg at h
  split at h
  · rename_i x py
    split at h
    · rename_i hs
      split at h
      · rename_i j hj
        split at h
        · rename_i elt tg' iter ifs scope lpos
          split at h
          · rename_i hc
            simp only [Bool.and_eq_true, Bool.not_eq_true'] at hc
            split at h
            · rename_i r hr
              cases h
              obtain ⟨g, src, t, x', own, rfl, bk, hns, gi, gb, gk⟩ := gLc he ht hr
              refine ⟨fun X hX => ?_, fun c X hK => oks_set (gk c X hK)⟩
              have hloc := locB_ok hc.1.1
              exact ps_setLc hX.calm (by rw [hX.N]; exact hX.nd) (hX.at hj) (by rw [hX.sc]; exact hloc) (sw_true (by rw [hX.sc]; exact hX.fk) (by rw [hX.sc]; exact hloc) hc.1.2 hc.2) (gi X hX _) (by rw [hX.N, hX.sc]; exact bk) (fun s H C cl fp => (gb X hX s H C cl fp).1) (fun s H C cl fp => (gb X hX s H C cl fp).2.1) (fun s H C cl fp => (gb X hX s H C cl fp).2.2) (folded_no hns X.env)
            · cases h
          · cases h
        · split at h
          · rename_i hl
            split at h
            · rename_i r hr
              cases h
              have g1 := he _ _ _ hr
              refine ⟨fun X hX => ?_, fun c X hK => oks_set (g1.2 c X hK)⟩
              obtain ⟨a, b⟩ := hX.sto hs
              exact ps_set (by rw [hX.N]; exact hX.nd) (hX.at hj) a (g1.1 X hX) (swap_no hl _ _ _) b
            · cases h
          · cases h
      · cases h
    · cases h
  · split at h
    · rename_i x px y py a b k2 p2
      split at h
      · rename_i hc
        unfold swapPar at hc
        simp only [Bool.and_eq_true, Bool.not_eq_true', bne_iff_ne, ne_eq] at hc
        obtain ⟨⟨⟨⟨⟨⟨⟨c1, c2⟩, c3⟩, c4⟩, c5⟩, c6⟩, c7⟩, c8⟩ := hc
        split at h
        · rename_i p q r s hp hq hr hs
          split at h
          · cases h
          · rename_i hij
            cases h
            have g1 := he _ _ _ hr
            have g2 := he _ _ _ hs
            refine ⟨fun X hX => ?_, fun c X hK => oks_par (g1.2 c X hK) (g2.2 c X hK)⟩
            have l1 := locB_ok c1
            have l2 := locB_ok c2
            rw [← hX.sc] at l1 l2
            exact ps_par hX.calm (by rw [hX.N]; exact hX.nd) (hX.at hp) (hX.at hq) hij l1 l2 (pa_cons (g1.1 X hX) (pa_cons (g2.1 X hX) pa_nil (star_one c6 X.env)) (star_cons c5 _ X.env))
              (swapped_par (by rw [hX.sc]; exact hX.fk) l1 l2 c3 c4 c5 c6 c7 c8) (swapSole_no rfl _ _)
        · cases h
      · cases h
    · split at h
      · rename_i hc
        simp only [Bool.and_eq_true] at hc
        split at h
        · rename_i g r hg hr
          cases h
          have g1 := he _ _ _ hr
          refine ⟨fun X hX => ?_, fun c X hK => ?_⟩
          · exact ps_asg (g1.1 X hX) (gG hX hg) (swapSole_no hc.2 _ _) (swapped_no hc.1 _) rfl
          · have := okg_all X M D.C g
            rw [hK] at this
            exact oks_des (g1.2 c X hK) this
        · cases h
      · cases h
  · rename_i o j p
    split at h
    · rename_i hc
      simp only [Bool.and_eq_true] at hc
      split at h
      · rename_i r kk v h1 h2 h3
        cases h
        have g2 := he _ _ _ h2
        have g3 := he _ _ _ h3
        refine ⟨fun X hX => ?_, fun c X hK => oks_setIx (g3.2 c X hK) (ref_ok c hK h1) (g2.2 c X hK)⟩
        exact ps_asg (g3.1 X hX) (pg_sub (ref_pe hX h1) (g2.1 X hX) (set_any hX.hu1) (asg_sub hc.1 p X.env)) (swapSole_no hc.2 _ _) (by unfold swappedStores; rfl) rfl
      · cases h
    · cases h
  · cases h
theorem gS {fs : Cc → List Stmt → Option IS} (hs : ∀ cc s i, fs cc s = some i → GSs tb D k M cc s i) {cc : Cc} {s : Stmt} {i : IS} (h : cS fe ft fs cc s = some i) : GS tb D k M cc s i := by
  unfold cS at h
  split at h
  · exact gAsg he ht h
  · split at h
    · rename_i hc
      split at h
      · rename_i r kk v h1 h2 h3
        cases h
        have g2 := he _ _ _ h2
        have g3 := he _ _ _ h3
        refine ⟨fun X hX => ?_, fun c X hK => ?_⟩
        · show PS X _ (tAugS (r.t D.K) (kk.t D) (v.t D) (rGetA D.K) (ipA _) rSetA)
          rw [← hX.K]
          have := ref_pe hX h1
          rw [← hX.K] at this
          exact ps_augS this (g2.1 X hX) (get_any hX.hu1) (g3.1 X hX) (ip_any _) (set_any hX.hu1) (aug_plain hc)
        · have := oks_augIx (op := by assumption) (ref_ok c hK h1) (g2.2 c X hK) (g3.2 c X hK)
          rw [hK] at this
          exact this
      · cases h
    · cases h
  · split at h
    · rename_i hc
      split at h
      · rename_i x h1
        cases h
        have g1 := he _ _ _ h1
        exact ⟨fun X hX => ps_expr (g1.1 X hX) (swap_no hc _ _ _), fun c X hK => oks_exp (g1.2 c X hK)⟩
      · cases h
    · cases h
  · split at h
    · rename_i j hj
      cases h
      exact ⟨fun X hX => ps_ret (ref_pe hX hj), fun c X hK => oks_retV (ref_ok c hK hj)⟩
    · split at h
      · rename_i x h1
        cases h
        have g1 := he _ _ _ h1
        exact ⟨fun X hX => ps_ret (g1.1 X hX), fun c X hK => oks_ret (g1.2 c X hK)⟩
      · cases h
  · cases h
    exact ⟨fun X hX => ps_retN, fun c X hK => oks_retN⟩
  · split at h
    · rename_i x y z h1 h2 h3
      cases h
      have g1 := ht _ _ _ h1
      have g2 := hs _ _ _ h2
      have g3 := hs _ _ _ h3
      exact ⟨fun X hX => ps_if (g1.1 X hX) (g2.1 X hX) (g3.1 X hX), fun c X hK => oks_if (g1.2 c X hK) (g2.2 c X hK) (g3.2 c X hK)⟩
    · cases h
  · split at h
    · rename_i hc
      split at h
      · rename_i g src x h1 h2 h3
        cases h
        have g2 := gI he h2
        have g3 := hs _ _ _ h3
        refine ⟨fun X hX => ?_, fun c X hK => ?_⟩
        · exact ps_for (by rw [hX.xe]; exact PassesOwn.never) hX.calm (g2.1 X hX _) (gG hX h1) (g3.1 X hX) (folded_no hc X.env)
        · have := okg_all X M D.C g
          rw [hK] at this
          exact oks_for (g2.2 c X hK) this (g3.2 c X hK)
      · cases h
    · cases h
  · split at h
    · rename_i x y h1 h2
      cases h
      have g1 := ht _ _ _ h1
      have g2 := hs _ _ _ h2
      exact ⟨fun X hX => ps_while (by rw [hX.xe]; exact PassesOwn.never) (g1.1 X hX) (g2.1 X hX), fun c X hK => oks_wh (g1.2 c X hK) (g2.2 c X hK)⟩
    · cases h
  · cases h
    exact ⟨fun X hX => ps_pass, fun c X hK => oks_nil⟩
  · cases h
    exact ⟨fun X hX => ps_never, fun c X hK => oks_never⟩
  · have g1 := hs _ _ _ h
    refine ⟨fun X hX => ?_, g1.2⟩
    have e : X.nox = X := by
      show { X with xe := fun _ _ => False } = X
      rw [← hX.xe]
    refine ps_try_thru0 ?_
    rw [e]
    exact g1.1 X hX
  · cases h
omit he ht
theorem gSs {cs : Cc → Stmt → Option IS} (hs : ∀ cc s i, cs cc s = some i → GS tb D k M cc s i) {cc : Cc} : ∀ {l : List Stmt} {i : IS}, cSs cs cc l = some i → GSs tb D k M cc l i
  | [], i, h => by
    cases h
    exact ⟨fun X hX => pss_nil, fun c X hK => oks_nil⟩
  | s :: r, i, h => by
    unfold cSs at h
    split at h
    · rename_i a b h1 h2
      cases h
      have g1 := hs _ _ _ h1
      have g2 := gSs hs h2
      exact ⟨fun X hX => pss_cons (g1.1 X hX) (g2.1 X hX), fun c X hK => oks_seq (g1.2 c X hK) (g2.2 c X hK)⟩
    · cases h
end
theorem cmpS_ok {tb : Tb} {D : Dp} {k : Nat} {M : En} {j : Nat} : ∀ (n : Nat) (cc : Cc) (l : List Stmt) (i : IS), cmpS tb j n cc l = some i → GSs tb D k M cc l i
  | 0, _, _, _, h => by cases h
  | n + 1, cc, l, i, h => by
    obtain ⟨a, b⟩ := cmp_ok2 (tb := tb) (D := D) (k := k) (M := M) j
    exact gSs (fun cc s i h => gS a b (fun cc s i h => cmpS_ok n cc s i h) h) h
end Rb
namespace Rb
open PySem L2 PyProof.Rows
/-! ### a def's promise -/
def sameAll : List SV → List SV → Bool
  | [], _ => true
  | a :: r, b :: s => (!a.own || same a b) && sameAll r s
  | _ :: _, [] => false
/-- a def's body on arguments: what it gives, and the arguments behind it -/
def runF (np nv : Nat) (b : MS) (F : FEnv) (args : List SV) : Option (SV × List SV) := if args.length = np then (match b ⟨np, nv, false, F⟩ (args ++ List.replicate (nv - np) .emp) with
  | some (.rt r, st) => if sameAll args st then some (r, st.take np) else none
  | some (.nx, st) => if sameAll args st then some (.dat .none, st.take np) else none
  | none => none) else none
def outV : Out → SV
  | .rt r => r
  | .nx => .dat .none
/-- a method's -/
def runM (np nv : Nat) (b : MS) (F : FEnv) (args : List SV) : Option (SV × List SV) := if args.length = np then (match args with
  | .std d ds :: rest => (match b ⟨np, nv, true, F⟩ (.slf :: rest ++ (List.replicate (nv - np) .emp ++ [.dat d, .lst ds])) with
    | some (o, st) => (match gt st nv, gt st (nv + 1) with
      | .dat d', .lst ds' => if sameAll rest st.tail then some (outV o, .std d' ds' :: (st.take np).tail) else none
      | _, _ => none)
    | none => none)
  | _ => none) else none
theorem sameAll_get : ∀ {a b : List SV} {i : Nat}, sameAll a b = true → (gt a i).own = true → same (gt a i) (gt b i) = true
  | [], b, i, _, h => by rw [gt_nil] at h; cases h
  | x :: r, [], i, h, _ => by cases h
  | x :: r, y :: s, i, h, ho => by
    unfold sameAll at h
    rw [Bool.and_eq_true] at h
    cases i with
    | zero =>
      rw [gt_cons0] at ho ⊢
      rw [ho] at h
      show same x y = true
      simpa using h.1
    | succ i =>
      rw [gt_consS] at ho ⊢
      rw [gt_consS]
      exact sameAll_get h.2 ho
theorem gt_app {a b : List SV} {i : Nat} : gt (a ++ b) i = if i < a.length then gt a i else gt b (i - a.length) := by
  unfold gt
  rw [List.getD_eq_getElem?_getD, List.getElem?_append]
  split
  · rw [List.getD_eq_getElem?_getD]
  · rw [List.getD_eq_getElem?_getD]
theorem gt_rep (n i : Nat) : gt (List.replicate n .emp) i = .emp := by
  unfold gt
  rw [List.getD_eq_getElem?_getD, List.getElem?_replicate]
  split <;> rfl
theorem gt_out {a : List SV} {i : Nat} (h : a.length ≤ i) : gt a i = .emp := by
  unfold gt
  rw [List.getD_eq_getElem?_getD, List.getElem?_eq_none h]
  rfl
theorem gt_take {a : List SV} {n i : Nat} (h : i < n) : gt (a.take n) i = gt a i := by
  unfold gt
  rw [List.getD_eq_getElem?_getD, List.getElem?_take, if_pos h, List.getD_eq_getElem?_getD]
/-- the heap without the arguments' own places -/
def less (H : Hp) (l : List Addr) : Hp := fun a => if a ∈ l then none else H a
theorem less_some {H : Hp} {l : List Addr} {a : Addr} {o : HO} (h : less H l a = some o) : H a = some o := by
  unfold less at h
  split at h
  · cases h
  · exact h
theorem less_none {H : Hp} {l : List Addr} {a : Addr} (h : less H l a = none) : a ∈ l ∨ H a = none := by
  unfold less at h
  split at h
  · exact .inl (by assumption)
  · exact .inr h
theorem start_get {N : List Str} {vs : List V} (h : vs.length ≤ N.length) (i : Nat) : (L2.start N vs).getD i none = vs[i]? := by
  unfold L2.start
  rw [List.getD_eq_getElem?_getD, List.getElem?_append]
  split
  · rename_i hl
    rw [List.length_map] at hl
    rw [List.getElem?_map, List.getElem?_eq_getElem hl]
    rfl
  · rename_i hl
    rw [List.length_map] at hl
    rw [List.getElem?_replicate, List.getElem?_eq_none (show vs.length ≤ i by omega)]
    split <;> rfl
theorem start_len {N : List Str} {vs : List V} (h : vs.length ≤ N.length) : (L2.start N vs).length = N.length := by
  unfold L2.start
  rw [List.length_append, List.length_map, List.length_replicate]
  omega
section
variable {P : Program} {w : World} {K : PySem.W.Frag} {mg : Str → Option Value} {base : Heap} {C : Addr} {F F' : FEnv} {k : Nat} {tb : Tb}
theorem ArgR.own_out {B H : Hp} {args : List SV} {vs : List V} {own : Nat → List Addr} (A : ArgR K C B H args vs own) {i : Nat} (h : args.length ≤ i) : own i = [] := by
  have := A.slot i
  rw [gt_out h] at this
  exact this
theorem fn_ok {x qual g : Str} {st : Stmt} {f : Addr} {fd : FuncData} {N ps : List Str} {ir : IS} {j n : Nat} (W : Wd P w K mg base C F k tb) {dvs : List V} {kws : List (Str × V)} (Fn : FunD K x qual (defArgs st) (defBody st) (defScope st) dvs kws f fd) (S : FnScope N ps (defScope st)) (hps : ps.length ≤ N.length)
    (hc : cmpS tb j n ⟨N, defScope st, none, false⟩ (defBody st) = some ir) (hF : F' g = runF ps.length N.length (ir.m N.length) F) : FnOk P w K mg base CX0 (k + 1) f fd ps (PrF K C F' g) := by
  have args_len : ∀ {args r a'}, F' g args = some (r, a') → args.length = ps.length := fun {args r a'} h => by
    rw [hF] at h
    unfold runF at h
    split at h
    · assumption
    · cases h
  refine Fn.ok S (fun vs H Q E h => ?_) fun cdv A outer s H vs Q E hr h => ?_
  · obtain ⟨B, args, own, r, args', _, AR, h1, _⟩ := h
    rw [AR.len, args_len h1]
  obtain ⟨B, args, own, r, args', eB, AR, h1, q⟩ := h
  have hl := args_len h1
  have hvl : vs.length = ps.length := AR.len.trans hl
  let M : En := ⟨ps.length, N.length, false, F⟩
  let D : Dp := ⟨K, C, F⟩
  have good := cmpS_ok (D := D) (k := k) (M := M) n _ _ _ hc
  let X : Cx := (cxOf CX0 P w K mg base N qual (defScope st) f cdv A outer s H E).nox
  have hX : XOk tb D k ⟨N, defScope st, none, false⟩ X := ⟨W, rfl, rfl, S.nd, rfl, S.kind, rfl, hr, rfl, fun x _ => rfl, fun z => by cases z⟩
  have ok : OkS X M C (ir.t D) (ir.m N.length) := good.2 ⟨rfl, rfl, fun z => by cases z⟩ X rfl
  refine ⟨ir.t D, PSs.nox (good.1 X hX), ?_⟩
  let all : List Addr := (List.range ps.length).flatMap own
  have mem_all : ∀ {a}, a ∈ all ↔ ∃ i, a ∈ own i := fun {a} => by
    show a ∈ (List.range ps.length).flatMap own ↔ _
    rw [List.mem_flatMap]
    constructor
    · rintro ⟨i, _, h⟩; exact ⟨i, h⟩
    · rintro ⟨i, h⟩
      refine ⟨i, List.mem_range.mpr ?_, h⟩
      apply Classical.byContradiction
      intro hi
      rw [AR.own_out (by omega)] at h; cases h
  let fx : Fx := { K := K, C := C, n := N.length, np := ps.length, sf := none, pv := fun i => if (gt args i).own then vs[i]? else none, G := less H all, B0 := B, H0 := H }
  have FO : FxOk X M C fx := ⟨rfl, rfl, rfl, rfl, rfl⟩
  let st0 : Sto := args ++ List.replicate (N.length - ps.length) .emp
  have gst : ∀ i, gt st0 i = gt args i := fun i => by
    show gt (args ++ _) i = _
    rw [gt_app]
    split
    · rfl
    · rename_i hi
      rw [gt_rep, gt_out (by omega)]
  have hvn : vs.length ≤ N.length := by omega
  have R : Rel fx B st0 (L2.start N vs) (fun i => vs[i]?) H own := by
    refine ⟨fun a o h => less_some h, eB, Ex.refl _, fun a o h _ => h, fun a h => .inl h, fun i => ?_, AR.sep, AR.nd, fun i a h => ⟨?_, AR.out i a h⟩, fun i v h => ?_, start_len hvn, fun i _ => (start_get hvn i).symm, hps, fun p dx h => (by cases h), ?_⟩
    · rw [gst]; exact AR.slot i
    · show less H all a = none
      unfold less
      rw [if_pos (mem_all.mpr ⟨i, h⟩)]
    · have h : (if (gt args i).own then vs[i]? else none) = some v := h
      split at h
      · rename_i ho
        refine ⟨?_, h, by rw [gst]; exact ho⟩
        have := (List.getElem?_eq_some_iff.mp h).1
        show i < ps.length
        omega
      · cases h
    · show (args ++ List.replicate (N.length - ps.length) SV.emp).length = N.length + 0
      rw [List.length_append, List.length_replicate]
      omega
  -- behind the body
  have fin : ∀ {r0 st1 v B1 σ1 w1 H1 own1 ro}, r0 = r → sameAll args st1 = true → args' = st1.take ps.length → Ex B B1 → Rel fx B1 st1 σ1 w1 H1 own1 → Res fx B1 H1 own1 r0 v ro → Q v H1 := by
    intro r0 st1 v B1 σ1 w1 H1 own1 ro e1 hs ha ee R1 x
    subst e1
    have Gn : ∀ a, less H all a = none → H a = none ∨ ∃ j, a ∈ own j := fun a h => (less_none h).elim (fun h => .inr (mem_all.mp h)) .inl
    refine q v B1 H1 (fun i => if (gt args i).own then own1 i else []) ro ⟨ee, R1.exB, fun a h => ?_, fun a o h hh => ?_, fun i ho => ?_, fun i ho => by rw [if_neg (by rw [ho]; simp)], fun i j a hi hj => ?_, fun i => ?_, fun i a hi => ?_, x.1, x.2.1, fun a ha => ?_⟩
    · rcases R1.grw a h with h | h
      · exact .inl h
      · exact .inr (Gn a h)
    · rcases hh with hh | hh
      · refine R1.exG a o ?_
        show less H all a = some o
        unfold less
        rw [if_neg (fun z => let ⟨i, hi⟩ := mem_all.mp z; hh i hi)]
        exact h
      · exact R1.exI a o h hh
    · have hi : i < ps.length := by
        apply Classical.byContradiction
        intro z
        rw [gt_out (by omega)] at ho; cases ho
      have hg : gt args' i = gt st1 i := by rw [ha, gt_take hi]
      have hv : ∃ v, vs[i]? = some v := ⟨vs[i]'(by omega), List.getElem?_eq_getElem (by omega)⟩
      obtain ⟨v', hv⟩ := hv
      obtain ⟨_, p2, p3⟩ := R1.par i v' (by show (if (gt args i).own then vs[i]? else none) = _; rw [if_pos ho]; exact hv)
      refine ⟨by rw [hg]; exact sameAll_get hs ho, ?_⟩
      rw [hg, if_pos ho, hv, ← p2]
      exact R1.slot i
    · split at hi <;> split at hj <;> first | exact R1.sep i j a hi hj | cases hi | cases hj
    · split
      · exact R1.nd i
      · exact List.nodup_nil
    · split at hi
      · exact ⟨(R1.out i a hi).2, Gn a (R1.out i a hi).1⟩
      · cases hi
    · obtain ⟨y1, y2, y3⟩ := x.2.2 a ha
      refine ⟨y2, Gn a y1, fun i hi => ?_⟩
      split at hi
      · exact y3 i hi
      · cases hi
  rw [hF] at h1
  unfold runF at h1
  rw [if_pos hl] at h1
  split at h1
  · rename_i r0 st1 hb
    split at h1
    · rename_i hs
      cases h1
      exact ok fx B st0 _ _ H own _ _ FO R hb _ (fun z => by cases z) fun r' e v B1 σ1 w1 H1 own1 ro ee R1 x => by
        cases e
        exact fin rfl hs rfl ee R1 x
    · cases h1
  · rename_i st1 hb
    split at h1
    · rename_i hs
      cases h1
      exact ok fx B st0 _ _ H own _ _ FO R hb _ (fun _ B1 σ1 w1 H1 own1 ee R1 => fin (r0 := .dat .none) (ro := []) rfl hs rfl ee R1 (res_dat .non)) fun r' e => by cases e
    · cases h1
  · cases h1
end
end Rb
namespace Rb
open PySem L2 PyProof.Rows
theorem gt_tail {a : List SV} {i : Nat} : gt a.tail i = gt a (i + 1) := by
  cases a with
  | nil => rw [List.tail_nil, gt_nil, gt_nil]
  | cons x r => rw [gt_consS]; rfl
section
variable {P : Program} {w : World} {K : PySem.W.Frag} {mg : Str → Option Value} {base : Heap} {C : Addr} {F F' : FEnv} {k : Nat} {tb : Tb}
theorem mt_ok {x qual g : Str} {st : Stmt} {f : Addr} {fd : FuncData} {N ps : List Str} {ir : IS} {j n : Nat} (W : Wd P w K mg base C F k tb) (hm : tb.mts ≠ []) {dvs : List V} {kws : List (Str × V)} (Fn : FunD K x qual (defArgs st) (defBody st) (defScope st) dvs kws f fd) (S : FnScope N ps (defScope st)) (hps : ps.length ≤ N.length)
    (hc : cmpS tb j n ⟨N, defScope st, none, true⟩ (defBody st) = some ir) (hF : F' g = runM ps.length N.length (ir.m N.length) F) : FnOk P w K mg base CX0 (k + 1) f fd ps (PrF K C F' g) := by
  have args_len : ∀ {args r a'}, F' g args = some (r, a') → args.length = ps.length := fun {args r a'} h => by
    rw [hF] at h
    unfold runM at h
    split at h
    · assumption
    · cases h
  refine Fn.ok S (fun vs H Q E h => ?_) fun cdv A outer s H vs Q E hr h => ?_
  · obtain ⟨B, args, own, r, args', _, AR, h1, _⟩ := h
    rw [AR.len, args_len h1]
  obtain ⟨B, args, own, r, args', eB, AR, h1, q⟩ := h
  have hl := args_len h1
  have hvl : vs.length = ps.length := AR.len.trans hl
  let M : En := ⟨ps.length, N.length, true, F⟩
  let D : Dp := ⟨K, C, F⟩
  have good := cmpS_ok (D := D) (k := k) (M := M) n _ _ _ hc
  let X : Cx := (cxOf CX0 P w K mg base N qual (defScope st) f cdv A outer s H E).nox
  have hX : XOk tb D k ⟨N, defScope st, none, true⟩ X := ⟨W, rfl, rfl, S.nd, rfl, S.kind, rfl, hr, rfl, fun x _ => rfl, fun _ => hm⟩
  have ok : OkS X M C (ir.t D) (ir.m N.length) := good.2 ⟨rfl, rfl, fun _ => ⟨rfl, W.cl hm⟩⟩ X rfl
  refine ⟨ir.t D, PSs.nox (good.1 X hX), ?_⟩
  rw [hF] at h1
  unfold runM at h1
  rw [if_pos hl] at h1
  split at h1
  · rename_i d ds rest
    split at h1
    · rename_i o st1 hb
      split at h1
      · rename_i d' ds' g1 g2
        split at h1
        · rename_i hs
          cases h1
          have hl1 : rest.length + 1 = ps.length := by rw [← hl]; rfl
          -- the object
          have z := AR.slot 0
          rw [gt_cons0] at z
          obtain ⟨p, dx, l, v1, xs, z1, z2, z3, z4, z5, z6⟩ := z
          have hv0 : vs[0]? = some (.ref p) := z1
          let all : List Addr := (List.range ps.length).flatMap own
          have mem_all : ∀ {a}, a ∈ all ↔ ∃ i, a ∈ own i := fun {a} => by
            show a ∈ (List.range ps.length).flatMap own ↔ _
            rw [List.mem_flatMap]
            constructor
            · rintro ⟨i, _, h⟩; exact ⟨i, h⟩
            · rintro ⟨i, h⟩
              refine ⟨i, List.mem_range.mpr ?_, h⟩
              apply Classical.byContradiction
              intro hi
              rw [AR.own_out (by omega)] at h; cases h
          let fx : Fx := { K := K, C := C, n := N.length, np := ps.length, sf := some (p, dx), pv := fun i => if (gt (SV.std d ds :: rest) i).own then vs[i]? else none, G := less H all, B0 := B, H0 := H }
          have FO : FxOk X M C fx := ⟨rfl, rfl, rfl, rfl, rfl⟩
          let st0 : Sto := .slf :: rest ++ (List.replicate (N.length - ps.length) .emp ++ [.dat d, .lst ds])
          have gst : ∀ i, gt st0 i = if i = 0 then .slf else if i = N.length then .dat d else if i = N.length + 1 then .lst ds else gt (SV.std d ds :: rest) i := fun i => by
            show gt ((SV.slf :: rest) ++ (List.replicate (N.length - ps.length) .emp ++ [.dat d, .lst ds])) i = _
            rw [gt_app, List.length_cons, hl1]
            split
            · rename_i hi
              cases i with
              | zero => rfl
              | succ i => rw [if_neg (by omega), if_neg (by omega), if_neg (by omega), gt_consS, gt_consS]
            · rename_i hi
              rw [gt_app, List.length_replicate, if_neg (show ¬ i = 0 by omega)]
              split
              · rename_i h2
                rw [gt_rep, if_neg (by omega), if_neg (by omega), gt_out (by rw [List.length_cons]; omega)]
              · rename_i h2
                by_cases e1 : i = N.length
                · rw [if_pos e1, show i - ps.length - (N.length - ps.length) = 0 by omega]; rfl
                · rw [if_neg e1]
                  by_cases e2 : i = N.length + 1
                  · rw [if_pos e2, show i - ps.length - (N.length - ps.length) = 1 by omega]; rfl
                  · rw [if_neg e2, gt_out (by simp; omega), gt_out (by rw [List.length_cons]; omega)]
          have hvn : vs.length ≤ N.length := by omega
          let ow : Nat → List Addr := fun i => if i = 0 then [p] else if i = N.length + 1 then [l] else own i
          let w0 : Nat → Option V := fun i => if i = N.length then some v1 else if i = N.length + 1 then some (.ref l) else vs[i]?
          have npl : p ≠ l := fun e => by
            have := AR.nd 0
            rw [z2, e] at this
            simp at this
          have ow_own : ∀ i a, a ∈ ow i → ∃ j, a ∈ own j := fun i a h => by
            have h : a ∈ (if i = 0 then [p] else if i = N.length + 1 then [l] else own i) := h
            split at h
            · exact ⟨0, by rw [z2]; simp at h; simp [h]⟩
            · split at h
              · exact ⟨0, by rw [z2]; simp at h; simp [h]⟩
              · exact ⟨i, h⟩
          have ow0 : ∀ {i : Nat}, i ≠ 0 → i ≠ N.length + 1 → ow i = own i := fun {i} h1 h2 => by
            show (if i = 0 then [p] else if i = N.length + 1 then [l] else own i) = _
            rw [if_neg h1, if_neg h2]
          have not0 : ∀ {i a}, i ≠ 0 → a ∈ own i → a ≠ p ∧ a ≠ l := fun {i a} h1 h => ⟨fun e => h1 (AR.sep i 0 a h (by rw [z2, e]; simp)), fun e => h1 (AR.sep i 0 a h (by rw [z2, e]; simp))⟩
          have owN : own N.length = [] := AR.own_out (by rw [List.length_cons]; omega)
          have R : Rel fx B st0 (L2.start N vs) w0 H ow := by
            refine ⟨fun a o h => less_some h, eB, Ex.refl _, fun a o h _ => h, fun a h => .inl h, fun i => ?_, fun i i' a h h' => ?_, fun i => ?_, fun i a h => ⟨?_, let ⟨j, hj⟩ := ow_own i a h; AR.out j a hj⟩, fun i v h => ?_, start_len hvn, fun i hi => ?_, hps, fun p' dx' h => ?_, ?_⟩
            · rw [gst]
              by_cases h0 : i = 0
              · subst h0
                rw [if_pos rfl]
                have : w0 0 = some (.ref p) := by
                  show (if 0 = N.length then _ else if 0 = N.length + 1 then _ else vs[0]?) = _
                  rw [if_neg (by omega), if_neg (by omega)]; exact hv0
                rw [this]
                exact ⟨p, dx, rfl, rfl, rfl⟩
              · rw [if_neg h0]
                by_cases h1 : i = N.length
                · subst h1
                  rw [if_pos rfl, ow0 h0 (by omega), owN]
                  have : w0 N.length = some v1 := if_pos rfl
                  rw [this]
                  exact ⟨rfl, v1, rfl, z4⟩
                · rw [if_neg h1]
                  by_cases h2 : i = N.length + 1
                  · subst h2
                    rw [if_pos rfl]
                    have e1 : w0 (N.length + 1) = some (.ref l) := by
                      show (if N.length + 1 = N.length then _ else if N.length + 1 = N.length + 1 then _ else _) = _
                      rw [if_neg h1, if_pos rfl]
                    have e2 : ow (N.length + 1) = [l] := by
                      show (if N.length + 1 = 0 then [p] else if N.length + 1 = N.length + 1 then [l] else own _) = _
                      rw [if_neg h0, if_pos rfl]
                    rw [e1, e2]
                    exact ⟨l, xs, rfl, rfl, z5, z6⟩
                  · rw [if_neg h2, ow0 h0 h2]
                    have e1 : w0 i = vs[i]? := by
                      show (if i = N.length then _ else if i = N.length + 1 then _ else _) = _
                      rw [if_neg h1, if_neg h2]
                    rw [e1]
                    refine (AR.slot i).sf ?_
                    intro hs
                    have := AR.slot i
                    rw [hs] at this
                    obtain ⟨_, _, this, _⟩ := this
                    cases this
            · have h : a ∈ (if i = 0 then [p] else if i = N.length + 1 then [l] else own i) := h
              have h' : a ∈ (if i' = 0 then [p] else if i' = N.length + 1 then [l] else own i') := h'
              split at h
              · rename_i c1
                have : a = p := by simpa using h
                subst this
                split at h'
                · rename_i c2; rw [c1, c2]
                · split at h'
                  · have : a = l := by simpa using h'
                    exact absurd this npl
                  · rename_i c2 c3; exact absurd rfl (not0 c2 h').1
              · split at h
                · rename_i c0 c1
                  have : a = l := by simpa using h
                  subst this
                  split at h'
                  · have : a = p := by simpa using h'
                    exact absurd this.symm npl
                  · split at h'
                    · rename_i c2; rw [c1, c2]
                    · rename_i c2 c3; exact absurd rfl (not0 c2 h').2
                · rename_i c0 c1
                  split at h'
                  · have : a = p := by simpa using h'
                    exact absurd this (not0 c0 h).1
                  · split at h'
                    · have : a = l := by simpa using h'
                      exact absurd this (not0 c0 h).2
                    · exact AR.sep i i' a h h'
            · show (if i = 0 then [p] else if i = N.length + 1 then [l] else own i).Nodup
              split
              · simp
              · split
                · simp
                · exact AR.nd i
            · show less H all a = none
              unfold less
              rw [if_pos (mem_all.mpr (ow_own i a h))]
            · have h : (if (gt (SV.std d ds :: rest) i).own then vs[i]? else none) = some v := h
              split at h
              · rename_i ho
                have hi := (List.getElem?_eq_some_iff.mp h).1
                refine ⟨by show i < ps.length; omega, ?_, ?_⟩
                · show (if i = N.length then _ else if i = N.length + 1 then _ else _) = _
                  rw [if_neg (by omega), if_neg (by omega)]; exact h
                · rw [gst]
                  by_cases h0 : i = 0
                  · rw [if_pos h0]; rfl
                  · rw [if_neg h0, if_neg (by omega), if_neg (by omega)]; exact ho
              · cases h
            · show (if i = N.length then _ else if i = N.length + 1 then _ else _) = _
              have hi : i < N.length := hi
              rw [if_neg (by omega), if_neg (by omega), start_get hvn]
            · have h : some (p, dx) = some (p', dx') := h
              cases h
              refine ⟨by show 0 < ps.length; omega, by rw [gst, if_pos rfl], v1, .ref l, if_pos rfl, ?_, z3⟩
              show (if N.length + 1 = N.length then _ else if N.length + 1 = N.length + 1 then _ else _) = _
              rw [if_neg (by omega), if_pos rfl]
            · show (SV.slf :: rest ++ (List.replicate (N.length - ps.length) SV.emp ++ [SV.dat d, SV.lst ds])).length = N.length + 2
              rw [List.length_append, List.length_append, List.length_cons, List.length_replicate]
              simp only [List.length_cons, List.length_nil]
              omega
          -- behind the body
          have fin : ∀ {r0 v B1 σ1 w1 H1 own1 ro}, r0 = outV o → Ex B B1 → Rel fx B1 st1 σ1 w1 H1 own1 → Res fx B1 H1 own1 r0 v ro → Q v H1 := by
            intro r0 v B1 σ1 w1 H1 own1 ro e1 ee R1 x
            subst e1
            have Gn : ∀ a, less H all a = none → H a = none ∨ ∃ j, a ∈ own j := fun a h => (less_none h).elim (fun h => .inr (mem_all.mp h)) .inl
            obtain ⟨b1, b2, v1', v2', b3, b4, b5⟩ := R1.sfv p dx rfl
            have y0 := R1.slot 0
            rw [b2] at y0
            obtain ⟨p', dx', y1, y2, y3⟩ := y0
            have y1 : some (p, dx) = some (p', dx') := y1
            cases y1
            have y4 := R1.slot N.length
            rw [g1] at y4
            obtain ⟨y5, x5, y6, y7⟩ := y4
            have b3 : w1 N.length = some v1' := b3
            rw [b3] at y6; cases y6
            have y8 := R1.slot (N.length + 1)
            rw [g2] at y8
            obtain ⟨l', xs', y9, y10, y11, y12⟩ := y8
            have b4 : w1 (N.length + 1) = some v2' := b4
            rw [b4] at y9; cases y9
            have npl' : p ≠ l' := fun e => by
              have := R1.sep 0 (N.length + 1) p (by rw [y3]; simp) (by rw [y10, e]; simp)
              omega
            let ow1 : Nat → List Addr := fun i => if i = 0 then [p, l'] else if (gt (SV.std d ds :: rest) i).own then own1 i else []
            have mem1 : ∀ i a, a ∈ ow1 i → ∃ j, a ∈ own1 j ∧ ((i = 0 ∧ (j = 0 ∨ j = N.length + 1)) ∨ (i ≠ 0 ∧ j = i ∧ i < ps.length)) := fun i a h => by
              have h : a ∈ (if i = 0 then [p, l'] else if (gt (SV.std d ds :: rest) i).own then own1 i else []) := h
              split at h
              · rename_i c
                have h : a = p ∨ a = l' := by simpa using h
                rcases h with rfl | rfl
                · exact ⟨0, by rw [y3]; simp, .inl ⟨c, .inl rfl⟩⟩
                · exact ⟨N.length + 1, by rw [y10]; simp, .inl ⟨c, .inr rfl⟩⟩
              · rename_i c
                split at h
                · rename_i ho
                  refine ⟨i, h, .inr ⟨c, rfl, ?_⟩⟩
                  apply Classical.byContradiction
                  intro zz
                  rw [gt_out (by rw [List.length_cons]; omega)] at ho; cases ho
                · cases h
            refine q v B1 H1 ow1 ro ⟨ee, R1.exB, fun a h => ?_, fun a o' h hh => ?_, fun i ho => ?_, fun i ho => ?_, fun i i' a hi hj => ?_, fun i => ?_, fun i a hi => ?_, x.1.sf ?_, x.2.1, fun a ha => ?_⟩
            · rcases R1.grw a h with h | h
              · exact .inl h
              · exact .inr (Gn a h)
            · rcases hh with hh | hh
              · refine R1.exG a o' ?_
                show less H all a = some o'
                unfold less
                rw [if_neg (fun z => let ⟨i, hi⟩ := mem_all.mp z; hh i hi)]
                exact h
              · exact R1.exI a o' h hh
            · cases i with
              | zero =>
                refine ⟨rfl, ?_⟩
                rw [gt_cons0]
                exact ⟨p, dx, l', v1', xs', hv0, if_pos rfl, b5, y7, y11, y12⟩
              | succ i =>
                have hi : i + 1 < ps.length := by
                  apply Classical.byContradiction
                  intro z
                  rw [gt_out (by rw [List.length_cons]; omega)] at ho; cases ho
                have hg : gt (SV.std d' ds' :: (st1.take ps.length).tail) (i + 1) = gt st1 (i + 1) := by rw [gt_consS, gt_tail, gt_take hi]
                obtain ⟨v', hv⟩ : ∃ v, vs[i + 1]? = some v := ⟨vs[i + 1]'(by omega), List.getElem?_eq_getElem (by omega)⟩
                obtain ⟨_, p2, p3⟩ := R1.par (i + 1) v' (by show (if (gt (SV.std d ds :: rest) (i + 1)).own then vs[i + 1]? else none) = _; rw [if_pos ho]; exact hv)
                have sm : same (gt (SV.std d ds :: rest) (i + 1)) (gt st1 (i + 1)) = true := by
                  have ho' := ho
                  rw [gt_consS] at ho' ⊢
                  rw [← gt_tail]
                  exact sameAll_get hs ho'
                refine ⟨by rw [hg]; exact sm, ?_⟩
                have e3 : ow1 (i + 1) = own1 (i + 1) := by
                  show (if i + 1 = 0 then [p, l'] else if (gt (SV.std d ds :: rest) (i + 1)).own then own1 (i + 1) else []) = _
                  rw [if_neg (by omega), if_pos ho]
                rw [hg, e3, hv, ← p2]
                exact (R1.slot (i + 1)).sf (same_slf sm).1
            · cases i with
              | zero => cases ho
              | succ i =>
                show (if i + 1 = 0 then [p, l'] else if (gt (SV.std d ds :: rest) (i + 1)).own then own1 (i + 1) else []) = _
                rw [if_neg (by omega), if_neg (by rw [ho]; simp)]
            · obtain ⟨j1, m1, c1⟩ := mem1 i a hi
              obtain ⟨j2, m2, c2⟩ := mem1 i' a hj
              have e := R1.sep j1 j2 a m1 m2
              rcases c1 with ⟨c1, c1'⟩ | ⟨c1, c1', c1''⟩ <;> rcases c2 with ⟨c2, c2'⟩ | ⟨c2, c2', c2''⟩ <;> omega
            · show (if i = 0 then [p, l'] else if (gt (SV.std d ds :: rest) i).own then own1 i else []).Nodup
              split
              · exact List.nodup_cons.mpr ⟨by simpa using npl', by simp⟩
              · split
                · exact R1.nd i
                · exact List.nodup_nil
            · obtain ⟨j1, m1, _⟩ := mem1 i a hi
              exact ⟨(R1.out j1 a m1).2, Gn a (R1.out j1 a m1).1⟩
            · intro hr
              have := x.1
              rw [hr] at this
              obtain ⟨_, _, this, _⟩ := this
              cases this
            · obtain ⟨u1, u2, u3⟩ := x.2.2 a ha
              exact ⟨u2, Gn a u1, fun i hi => let ⟨j1, m1, _⟩ := mem1 i a hi; u3 j1 m1⟩
          exact ok fx B st0 _ _ H ow _ _ FO R hb _ (fun e B1 σ1 w1 H1 own1 ee R1 => by subst e; exact fin (r0 := .dat .none) (ro := []) rfl ee R1 (res_dat .non)) fun r' e v B1 σ1 w1 H1 own1 ro ee R1 x => by
            subst e
            exact fin rfl ee R1 x
        · cases h1
      · cases h1
    · cases h1
  · cases h1
end
end Rb
namespace Rb
open PySem L2 PyProof.Rows
/-! ### the class's own __init__ -/
def iniSt (ds : List PyData) : List PyData := [.tuple [.int 0, .tuple []]]
theorem flds_put (v1 v2 : V) : putF sStates v2 (putF sPoints v1 []) = flds v1 v2 := by
  have h : ¬ sPoints = sStates := by decide
  show (if sPoints = sStates then _ else (sPoints, v1) :: putF sStates v2 []) = _
  rw [if_neg h]
  rfl
section
variable {P : Program} {w : World} {K : PySem.W.Frag} {mg : Str → Option Value} {base : Heap} {C : Addr} {F F' : FEnv} {k : Nat} {tb : Tb}
/-- self.points = points; self.states = [(0, ())] behind a call made_web(points, []) -/
theorem ini_ok {st : Stmt} {f : Addr} {fd : FuncData} {dvs : List V} {kws : List (Str × V)} {p1 p2 p3 p4 p5 q1 q2 q3 q4 q5 r1 r2 r3 r4 r5 r6 r7 : Pos} {j1 : Nat} {m1 m2 : Nat} (W : Wd P w K mg base C F k tb) (hm : tb.mts ≠ []) (hf : ("made_web" : Str) ∈ tb.fns)
    (Fn : FunD K "__init__" "Standing.__init__" (defArgs st) (defBody st) (defScope st) dvs kws f fd) (S : FnScope ["self", "points"] ["self", "points"] (defScope st)) (hv0 : visB (defScope st) "self" = true) (hv1 : visB (defScope st) "points" = true) (hg : glB (defScope st) "made_web" = true)
    (hb : defBody st = [.Expr (.Call (.Name "made_web" p1) [.Name "points" p2, .List [] p3] [] p4) p5, .Assign [.Attribute (.Name "self" q1) "points" q2] (.Name "points" q3) q4, .Assign [.Attribute (.Name "self" r1) "states" r2] (.List [.Tuple [.Constant (.int 0) j1 r3, .Tuple [] m1 r4] m2 r5] r6) r7])
    (hF : ∀ d ds rest, F' "Standing" [.dat d] = some (.std d ds, rest) → ds = [.tuple [.int 0, .tuple []]] ∧ ∃ z, F "made_web" [.dat d, .dat (.list [])] = some z) (hF1 : ∀ args z, F' "Standing" args = some z → ∃ d ds rest, args = [.dat d] ∧ z = (.std d ds, rest)) :
    FnOk P w K mg base CX0 (k + 1) f fd ["self", "points"] (spIni K C F' "Standing") := by
  have one : ∀ {ds : List PyData} {z}, F' "Standing" (ds.map SV.dat) = some z → ∃ d, ds = [d] := fun {ds z} h => by
    obtain ⟨d, _, _, e, _⟩ := hF1 _ _ h
    cases ds with
    | nil => cases e
    | cons x r => cases r with
      | nil => exact ⟨x, rfl⟩
      | cons y r => simp at e
  refine Fn.ok S (fun vs H Q E h => ?_) fun cdv A outer s H vs Q E hr h => ?_
  · obtain ⟨x, dx, B, va, ds, d, ds', rest, rfl, _, _, _, hd, h1, _⟩ := h
    obtain ⟨d0, rfl⟩ := one h1
    rw [List.length_cons, hd.length]
    rfl
  obtain ⟨x, dx, B, va, ds, d, ds', rest, rfl, hx, hBx, eB, hd, h1, q⟩ := h
  obtain ⟨d0, rfl⟩ := one h1
  obtain ⟨d1, ds1, rest1, e1, e2⟩ := hF1 _ _ h1
  have e1 : [SV.dat d0] = [SV.dat d1] := e1
  cases e1
  cases e2
  obtain ⟨rfl, z, hz⟩ := hF _ _ _ h1
  cases hd with
  | cons hd hn =>
  cases hn
  rename_i v0
  let M : En := ⟨2, 2, false, F⟩
  let X : Cx := (cxOf CX0 P w K mg base ["self", "points"] "Standing.__init__" (defScope st) f cdv A outer s H E).nox
  have hX : XOk tb ⟨K, C, F⟩ k ⟨["self", "points"], defScope st, none, false⟩ X := ⟨W, rfl, rfl, S.nd, rfl, S.kind, rfl, hr, rfl, fun x _ => rfl, fun z => by cases z⟩
  obtain ⟨hcl, hnp, hns⟩ := W.cl hm
  obtain ⟨fm, fdm, psm, F1, F2, F3, F4⟩ := W.fn _ hf
  have v0e : ∀ p, PE X (.Name "self" p) (tVar 0) := fun p => hX.var (by decide) hv0 (show nameIx ["self", "points"] "self" = some 0 by decide)
  have v1e : ∀ p, PE X (.Name "points" p) (tVar 1) := fun p => hX.var (by decide) hv1 (show nameIx ["self", "points"] "points" = some 1 by decide)
  rw [hb]
  refine ⟨_, PSs.nox (pss_cons (ps_expr (pe_callG F1 hr (hX.gl hg) F2 F3 F4 rfl (by decide) (pa_cons (v1e _) (pa_cons (pe_lst pa_nil) pa_nil rfl) rfl) (by simp)) rfl)
    (pss_cons (ps_fld (v0e _) (v1e _) rfl) (pss_one (ps_fld (v0e _) (pe_lst (pa_cons (pe_tup (pa_cons pe_int (pa_cons (pe_tup pa_nil) pa_nil rfl) rfl)) pa_nil rfl)) rfl)))), ?_⟩
  -- made_web(points, [])
  refine ⟨v0, rfl, small64 (by decide), fun l0 hl0 => ?_⟩
  have e0 : Ex H (upd H l0 (.lst [])) := Ex.new hl0
  have hBl0 : B l0 = none := eB.fresh hl0
  have eb0 : Ex B (upd B l0 (.lst [])) := Ex.new hBl0
  have ebh : Ex (upd B l0 (.lst [])) (upd H l0 (.lst [])) := fun a o h => by
    by_cases e : a = l0
    · subst e; rw [upd_same] at h ⊢; exact h
    · rw [upd_ne e] at h ⊢; exact eB a o h
  refine ⟨upd B l0 (.lst []), [.dat _, .dat (.list [])], fun i => [], z.1, z.2, ebh, ?_, hz, fun v B' H' own' ro A' => ?_⟩
  · refine ⟨rfl, fun i => ?_, fun i j a hi hj => (by cases hi), fun i => List.nodup_nil, fun i a hi => (by cases hi)⟩
    rcases i with _ | _ | i
    · exact ⟨rfl, v0, rfl, hd.mono eb0⟩
    · exact ⟨rfl, .ref l0, rfl, .lst (.inl (.inl upd_same)) .nil⟩
    · rw [gt_out (by simp)]
      exact rfl
  have keep : ∀ a o, H a = some o → H' a = some o := fun a o h => A'.keep a o (e0 a o h) (.inl fun i hi => by cases hi)
  have grw0 : ∀ a, B' a ≠ none → B a ≠ none ∨ H a = none := fun a h => by
    rcases A'.grw a h with h | h | ⟨i, h⟩
    · by_cases e : a = l0
      · subst e; exact .inr hl0
      · rw [upd_ne e] at h; exact .inl h
    · refine .inr ?_
      cases zz : H a with
      | none => rfl
      | some o => rw [e0 a o zz] at h; cases h
    · cases h
  have hx' := keep x _ hx
  have hB'x : B' x = none := by
    cases zz : B' x with
    | none => rfl
    | some o =>
      rcases grw0 x (by rw [zz]; simp) with h | h
      · exact absurd hBx h
      · rw [hx] at h; cases h
  -- self.points = points
  refine ⟨v0, rfl, .ref x, rfl, x, C, dx, [], rfl, hx', hcl, hnp, by decide, ?_⟩
  -- self.states = [(0, ())]
  refine ⟨small64 (n := 0) (by decide), fun t0 ht0 => ⟨small64 (n := 2) (by decide), fun t1 ht1 => ⟨small64 (n := 1) (by decide), fun l hl => ?_⟩⟩⟩
  have hxt0 : x ≠ t0 := fun e => by subst e; rw [upd_same] at ht0; cases ht0
  have H1x : ∀ a, a ≠ x → (upd H' x (.ins C dx (putF "points" v0 []))) a = H' a := fun a h => upd_ne h
  have hxt1 : x ≠ t1 := fun e => by subst e; rw [upd_ne hxt0, upd_same] at ht1; cases ht1
  have hxl : x ≠ l := fun e => by subst e; rw [upd_ne hxt1, upd_ne hxt0, upd_same] at hl; cases hl
  have ht0' : H' t0 = none := by rw [← ht0, upd_ne hxt0.symm]
  have ht10 : t1 ≠ t0 := fun e => by subst e; rw [upd_same] at ht1; cases ht1
  have ht1' : H' t1 = none := by rw [← ht1, upd_ne ht10, upd_ne hxt1.symm]
  have hlt1 : l ≠ t1 := fun e => by subst e; rw [upd_same] at hl; cases hl
  have hlt0 : l ≠ t0 := fun e => by subst e; rw [upd_ne (fun z => ht10 z.symm), upd_same] at hl; cases hl
  have hl' : H' l = none := by rw [← hl, upd_ne hlt1, upd_ne hlt0, upd_ne hxl.symm]
  refine ⟨.ref x, rfl, x, C, dx, putF "points" v0 [], rfl, ?_, hcl, hns, (show (1 : Nat) < 1000 by decide), ?_⟩
  · rw [upd_ne hxl, upd_ne hxt1, upd_ne hxt0, upd_same]
  -- behind it all: the two tuples go to the base
  let B1 := upd B' t0 (.tup [])
  let B2 := upd B1 t1 (.tup [.int 0, .ref t0])
  have exB : Ex B' H' := A'.exH
  have b1 : Ex B' B1 := Ex.new (exB.fresh ht0')
  have ht1B : B1 t1 = none := by
    show upd B' t0 _ t1 = none
    rw [upd_ne ht10]; exact exB.fresh ht1'
  have b2 : Ex B1 B2 := Ex.new ht1B
  refine q B2 _ v0 l [.ref t1] dx (eb0.trans (A'.exB.trans (b1.trans b2))) (fun a o h => ?_) (fun a h => ?_) (fun a o h hne => ?_) ?_ (hd.mono (eb0.trans (A'.exB.trans (b1.trans b2)))) ?_ ?_ ?_ ?_ ?_
  · have hax : a ≠ x := fun e => by
      subst e
      have : upd (upd B' t0 (.tup [])) t1 (.tup [.int 0, .ref t0]) a = some o := h
      rw [upd_ne hxt1, upd_ne hxt0, hB'x] at this; cases this
    rw [upd_ne hax]
    by_cases e1 : a = t1
    · subst e1
      have : upd (upd B' t0 (.tup [])) a (.tup [.int 0, .ref t0]) a = some o := h
      rw [upd_same] at this; cases this
      rw [upd_ne (fun z => hlt1 z.symm), upd_same]
    · have : upd (upd B' t0 (.tup [])) t1 (.tup [.int 0, .ref t0]) a = some o := h
      rw [upd_ne e1] at this
      by_cases e0' : a = t0
      · subst e0'
        rw [upd_same] at this; cases this
        rw [upd_ne (fun z => hlt0 z.symm), upd_ne (fun z => ht10 z.symm), upd_same]
      · rw [upd_ne e0'] at this
        have h' := exB a o this
        rw [upd_ne (ne_of_none h' hl'), upd_ne e1, upd_ne e0', upd_ne hax]
        exact h'
  · by_cases e1 : a = t1
    · subst e1
      refine .inr ?_
      cases zz : H a with
      | none => rfl
      | some o => rw [keep a o zz] at ht1'; cases ht1'
    · by_cases e0' : a = t0
      · subst e0'
        refine .inr ?_
        cases zz : H a with
        | none => rfl
        | some o => rw [keep a o zz] at ht0'; cases ht0'
      · have h : upd (upd B' t0 (.tup [])) t1 (.tup [.int 0, .ref t0]) a ≠ none := h
        rw [upd_ne e1, upd_ne e0'] at h
        exact grw0 a h
  · have h' := keep a o h
    rw [upd_ne hne, upd_ne (ne_of_none h' hl'), upd_ne (ne_of_none h' ht1'), upd_ne (ne_of_none h' ht0'), upd_ne hne]
    exact h'
  · rw [upd_same]
    exact congrArg (fun z => some (HO.ins C dx z)) (flds_put v0 (.ref l))
  · rw [upd_ne hxl.symm, upd_same]
  · have g1 : B2 t0 = some (.tup []) := by
      show upd (upd B' t0 (.tup [])) t1 _ t0 = _
      rw [upd_ne (fun z => ht10 z.symm), upd_same]
    exact Dats.one (.tup upd_same (.cons (.int 0) (Dats.one (.tup g1 .nil))))
  · show upd (upd B' t0 (.tup [])) t1 _ x = none
    rw [upd_ne hxt1, upd_ne hxt0]; exact hB'x
  · show upd (upd B' t0 (.tup [])) t1 _ l = none
    rw [upd_ne hlt1, upd_ne hlt0]; exact exB.fresh hl'
  · cases zz : H l with
    | none => rfl
    | some o => rw [keep l o zz] at hl'; cases hl'
end
end Rb
namespace Rb
open PySem L2 PyProof.Rows
/-! ### a program's defs, level by level -/
structure Df where
  key : Str
  at_ : Str × Option Str
  name : Str
  qual : Str
  st : Stmt
  ps : List Str
  N : List Str
  me : Bool
  ir : IS
def Df.dd (d : Df) : He.DefD := ⟨d.at_, d.name, d.qual, defArgs d.st, defBody d.st, defScope d.st, [], []⟩
def Df.run (d : Df) (F : FEnv) (args : List SV) : Option (SV × List SV) := if d.me then runM d.ps.length d.N.length (d.ir.m d.N.length) F args else runF d.ps.length d.N.length (d.ir.m d.N.length) F args
structure DfOk (tb : Tb) (d : Df) : Prop where
  sc : FnScope d.N d.ps (defScope d.st)
  cmp : cmpS tb 40 30 ⟨d.N, defScope d.st, none, d.me⟩ (defBody d.st) = some d.ir
  bnd : ∀ (kV doc pm : Value) (an : Option Addr) (cdv ct : Value) (us : List Value), us.length = d.ps.length → bindArgs (PySem.W.fnOf d.name d.qual (defArgs d.st) (defBody d.st) (defScope d.st) .none kV doc pm an cdv ct) ⟨us, []⟩ = pure (d.ps.zip us)
def iniF (F : FEnv) (args : List SV) : Option (SV × List SV) := match args with
  | [.dat d] => match F "made_web" [.dat d, .dat (.list [])] with
    | some _ => some (.std d [.tuple [.int 0, .tuple []]], [.dat d])
    | none => none
  | _ => none
def envL (dfs : List Df) : Nat → FEnv
  | 0 => fun _ _ => none
  | n + 1 => fun g args => if g = "Standing" then envL dfs n "Standing." args else if g = "Standing." then iniF (envL dfs n) args else match dfs.find? (fun d => decide (d.key = g)) with
    | some d => d.run (envL dfs n) args
    | none => none
structure IniSt (tb : Tb) (st : Stmt) : Prop where
  sc : FnScope ["self", "points"] ["self", "points"] (defScope st)
  v0 : visB (defScope st) "self" = true
  v1 : visB (defScope st) "points" = true
  g : glB (defScope st) "made_web" = true
  hf : ("made_web" : Str) ∈ tb.fns
  bnd : ∀ (kV doc pm : Value) (an : Option Addr) (cdv ct : Value) (us : List Value), us.length = 2 → bindArgs (PySem.W.fnOf "__init__" "Standing.__init__" (defArgs st) (defBody st) (defScope st) .none kV doc pm an cdv ct) ⟨us, []⟩ = pure ((["self", "points"] : List Str).zip us)
  hb : ∃ (p1 p2 p3 p4 p5 q1 q2 q3 q4 r1 r2 r3 r4 r5 r6 r7 : Pos) (j1 m1 m2 : Nat), defBody st = [.Expr (.Call (.Name "made_web" p1) [.Name "points" p2, .List [] p3] [] p4) p5, .Assign [.Attribute (.Name "self" q1) "points" q2] (.Name "points" q3) q4, .Assign [.Attribute (.Name "self" r1) "states" r2] (.List [.Tuple [.Constant (.int 0) j1 r3, .Tuple [] m1 r4] m2 r5] r6) r7]
/-- what must be seen of a law's text: the table, its defs, the facts that the top leaves -/
structure Txt (tb : Tb) (dfs : List Df) (fa : List He.Fa) (fn : List He.DefD) : Prop where
  df : ∀ d ∈ dfs, DfOk tb d ∧ d.dd ∈ fn
  fns : ∀ g ∈ tb.fns, ∃ d, dfs.find? (fun d => decide (d.key = g)) = some d ∧ d.me = false ∧ d.at_ = (g, none) ∧ He.Fa.glo g ∈ fa ∧ g ≠ "Standing" ∧ g ≠ "Standing."
  mts : ∀ m g, tb.mts.lookup m = some g → ∃ d, dfs.find? (fun d => decide (d.key = g)) = some d ∧ d.me = true ∧ d.at_ = (("Standing" : Str), some m) ∧ He.Fa.meth "Standing" m ∈ fa ∧ g ≠ "Standing" ∧ g ≠ "Standing."
  cst : ∀ x c, tb.cs.lookup x = some c → match c with | .int i => He.Fa.int x i ∈ fa | .str z => He.Fa.str x z ∈ fa | _ => False
  blt : ∀ x ∈ bltNames, He.Fa.free x ∈ fa
  cl : tb.mts ≠ [] → He.Fa.cls "Standing" ∈ fa ∧ He.Fa.noat "Standing" sPoints ∈ fa ∧ He.Fa.noat "Standing" sStates ∈ fa
  mkc : ∀ x g, tb.mks.lookup x = some g → x = "Standing" ∧ g = "Standing" ∧ tb.mts ≠ [] ∧ He.Fa.mkr "Standing" ∈ fa ∧ He.Fa.glo "Standing" ∈ fa ∧ ∃ st, IniSt tb st ∧ (⟨("Standing", some "__init__"), "__init__", "Standing.__init__", defArgs st, defBody st, defScope st, [], []⟩ : He.DefD) ∈ fn
section
variable {P : Program} {w : World} {K : PySem.W.Frag} {mg : Str → Option Value} {base h : Heap} {tb : Tb} {dfs : List Df} {fa : List He.Fa} {fn : List He.DefD}
theorem envL_def {n : Nat} {g : Str} {d : Df} (hf : dfs.find? (fun d => decide (d.key = g)) = some d) (h1 : g ≠ "Standing") (h2 : g ≠ "Standing.") : envL dfs (n + 1) g = d.run (envL dfs n) := by
  funext args
  show (if g = "Standing" then _ else if g = "Standing." then _ else match dfs.find? (fun d => decide (d.key = g)) with | some d => d.run (envL dfs n) args | none => none) = _
  rw [if_neg h1, if_neg h2, hf]
theorem fnok_none {k : Nat} {f : Addr} {fd : FuncData} {ps : List Str} {C : Addr} {g : Str} {F : FEnv} (hF : ∀ args, F g args = none) : FnOk P w K mg base CX0 k f fd ps (PrF K C F g) :=
  ⟨fun vs H Q E h => (by obtain ⟨_, _, _, _, _, _, _, h, _⟩ := h; rw [hF] at h; cases h), fun A outer s H args us vs Q E _ _ _ _ h => (by obtain ⟨_, _, _, _, _, _, _, h, _⟩ := h; rw [hF] at h; cases h)⟩
theorem fnok_ini0 {k : Nat} {f : Addr} {fd : FuncData} {ps : List Str} {C : Addr} {g : Str} {F : FEnv} (hF : ∀ args, F g args = none) : FnOk P w K mg base CX0 k f fd ps (spIni K C F g) :=
  ⟨fun vs H Q E h => (by obtain ⟨_, _, _, _, _, _, _, _, _, _, _, _, _, h, _⟩ := h; rw [hF] at h; cases h), fun A outer s H args us vs Q E _ _ _ _ h => (by obtain ⟨_, _, _, _, _, _, _, _, _, _, _, _, _, h, _⟩ := h; rw [hF] at h; cases h)⟩
theorem ps_le {d : Df} (h : DfOk tb d) : d.ps.length ≤ d.N.length := by
  have := congrArg List.length h.sc.pre
  rw [List.length_take] at this
  omega
/-- all that does not hang on the level -/
theorem wd_of (T : Txt tb dfs fa fn) (X : K.In h) (G : h.Ns mainGlobals mg) (c : He.SaysD fa fn K) {F : FEnv} {k : Nat} (hk : 1 ≤ k)
    (hF : ∀ g d f fd (dvs : List V) (kws : List (Str × V)), dfs.find? (fun d => decide (d.key = g)) = some d → g ≠ "Standing" → g ≠ "Standing." → DfOk tb d → FunD K d.name d.qual (defArgs d.st) (defBody d.st) (defScope d.st) dvs kws f fd → FnOk P w K mg base CX0 k f fd d.ps (PrF K (He.ga K "Standing") F g))
    (hI : ∀ st f fd (dvs : List V) (kws : List (Str × V)), IniSt tb st → tb.mts ≠ [] → FunD K "__init__" "Standing.__init__" (defArgs st) (defBody st) (defScope st) dvs kws f fd → FnOk P w K mg base CX0 (k - 1) f fd ["self", "points"] (spIni K (He.ga K "Standing") F "Standing")) : Wd P w K mg base (He.ga K "Standing") F k tb := by
  refine ⟨fun x cc hx => ?_, fun g hg => ?_, fun x hx => He.free_ok X G (c.facts (T.blt x hx)), fun m g hg => ?_, fun x g hg => ?_, fun hm => ?_⟩
  · have := T.cst x cc hx
    cases cc with
    | int i => obtain ⟨t, e⟩ := He.int_ok X G (c.facts this); exact ⟨_, e, t, rfl⟩
    | str z => obtain ⟨t, e⟩ := He.str_ok X G (c.facts this); exact ⟨_, e, t, rfl⟩
    | non => cases this
    | bl _ => cases this
  · obtain ⟨d, d1, d2, d3, d4, d5, d6⟩ := T.fns g hg
    obtain ⟨ok, hd⟩ := T.df d (List.mem_of_find?_eq_some d1)
    obtain ⟨fd, FD⟩ := c.defs hd
    have FD' : FunD K d.name d.qual (defArgs d.st) (defBody d.st) (defScope d.st) [] [] (He.fAd K d.at_) fd := FD
    have ea : He.fAd K d.at_ = He.ga K g := by rw [d3]; rfl
    refine ⟨He.fAd K d.at_, fd, d.ps, hF g d _ fd _ _ d1 d5 d6 ok FD', ?_, FD.kp, FD'.bindsN ok.bnd⟩
    rw [ea]
    exact He.glo_ok X G (c.facts d4)
  · obtain ⟨d, d1, d2, d3, d4, d5, d6⟩ := T.mts m g hg
    obtain ⟨ok, hd⟩ := T.df d (List.mem_of_find?_eq_some d1)
    obtain ⟨fd, FD⟩ := c.defs hd
    have FD' : FunD K d.name d.qual (defArgs d.st) (defBody d.st) (defScope d.st) [] [] (He.fAd K d.at_) fd := FD
    have ea : He.fAd K d.at_ = He.ma K (He.ga K "Standing") m := by rw [d3]; rfl
    refine ⟨He.fAd K d.at_, fd, d.ps, hF g d _ fd _ _ d1 d5 d6 ok FD', ?_, FD'.bindsN ok.bnd⟩
    rw [ea]
    exact He.meth_ok (c.facts d4)
  · obtain ⟨rfl, rfl, m1, m2, m3, st, I, hd⟩ := T.mkc x g hg
    obtain ⟨fd, FD⟩ := c.defs hd
    have FD' : FunD K "__init__" "Standing.__init__" (defArgs st) (defBody st) (defScope st) [] [] (He.ma K (He.ga K "Standing") "__init__") fd := FD
    exact ⟨_, fd, ["self", "points"], k - 1, by omega, He.mkr_ok (c.facts m2), He.glo_ok X G (c.facts m3), hI st _ fd _ _ I m1 FD', FD'.bindsN I.bnd⟩
  · obtain ⟨a, b, e⟩ := T.cl hm
    exact ⟨He.cls_ok (c.facts a), He.noat_ok (c.facts b), He.noat_ok (c.facts e)⟩
theorem def_ok (T : Txt tb dfs fa fn) {F F' : FEnv} {C : Addr} {k : Nat} (W : Wd P w K mg base C F k tb) (hm : ∀ d ∈ dfs, d.me = true → tb.mts ≠ []) {g : Str} {d : Df} {f : Addr} {fd : FuncData} {dvs : List V} {kws : List (Str × V)} (hd : d ∈ dfs) (ok : DfOk tb d) (FD : FunD K d.name d.qual (defArgs d.st) (defBody d.st) (defScope d.st) dvs kws f fd)
    (hF : F' g = d.run F) : FnOk P w K mg base CX0 (k + 1) f fd d.ps (PrF K C F' g) := by
  have hc := ok.cmp
  cases hme : d.me with
  | false =>
    rw [hme] at hc
    exact fn_ok W FD ok.sc (ps_le ok) hc (by rw [hF]; funext args; unfold Df.run; rw [hme]; rfl)
  | true =>
    rw [hme] at hc
    exact mt_ok W (hm d hd hme) FD ok.sc (ps_le ok) hc (by rw [hF]; funext args; unfold Df.run; rw [hme]; rfl)
theorem ini_def {n : Nat} {args : List SV} : envL dfs (n + 2) "Standing" args = iniF (envL dfs n) args := rfl
theorem iniF_some {F : FEnv} {args : List SV} {z : SV × List SV} (h : iniF F args = some z) : ∃ d, args = [.dat d] ∧ z = (.std d [.tuple [.int 0, .tuple []]], [.dat d]) ∧ ∃ y, F "made_web" [.dat d, .dat (.list [])] = some y := by
  unfold iniF at h
  split at h
  · split at h
    · rename_i y hy
      cases h
      exact ⟨_, rfl, rfl, y, hy⟩
    · cases h
  · cases h
theorem lvl (T : Txt tb dfs fa fn) (hm : ∀ d ∈ dfs, d.me = true → tb.mts ≠ []) (X : K.In h) (G : h.Ns mainGlobals mg) (c : He.SaysD fa fn K) : ∀ n : Nat, Wd P w K mg base (He.ga K "Standing") (envL dfs n) (n + 2) tb
  | 0 => wd_of T X G c (by omega) (fun g d f fd _ _ _ _ _ _ _ => fnok_none fun _ => rfl) (fun st f fd _ _ _ _ _ => fnok_ini0 fun _ => rfl)
  | 1 => by
    have W0 := lvl T hm X G c 0
    exact wd_of T X G c (by omega) (fun g d f fd _ _ d1 h1 h2 ok FD => def_ok T W0 hm (List.mem_of_find?_eq_some d1) ok FD (envL_def d1 h1 h2)) (fun st f fd _ _ _ _ _ => fnok_ini0 fun _ => rfl)
  | n + 2 => by
    have W0 := lvl T hm X G c n
    have W1 := lvl T hm X G c (n + 1)
    refine wd_of T X G c (by omega) (fun g d f fd _ _ d1 h1 h2 ok FD => def_ok T W1 hm (List.mem_of_find?_eq_some d1) ok FD (envL_def d1 h1 h2)) (fun st f fd _ _ I hne FD => ?_)
    obtain ⟨p1, p2, p3, p4, p5, q1, q2, q3, q4, r1, r2, r3, r4, r5, r6, r7, j1, m1, m2, hb⟩ := I.hb
    exact ini_ok (q5 := p1) W0 hne I.hf FD I.sc I.v0 I.v1 I.g hb (fun d ds rest e => by
      rw [ini_def] at e
      obtain ⟨d0, a1, a2, a3⟩ := iniF_some e
      cases a1; cases a2
      exact ⟨rfl, a3⟩) fun args z e => by
      rw [ini_def] at e
      obtain ⟨d0, a1, a2, _⟩ := iniF_some e
      exact ⟨d0, _, _, a1, a2⟩
end
/-- the law's promise, from what its text gives on the script -/
theorem law_sp {K : PySem.W.Frag} {C : Addr} {F : FEnv} {H : Hp} {a : Addr} {ns : List Int} {args' : List SV} (hS : SqL K H a (ns.map V.int)) (h : F "law" [.dat (.list (ns.map .int))] = some (.dat (.bool true), args')) : PrF K C F "law" [.ref a] H (fun v _ => v = .bl true) fun _ _ _ => False := by
  refine ⟨H, [.dat (.list (ns.map .int))], fun _ => [], _, args', Ex.refl _, ⟨rfl, fun i => ?_, fun i j a h => (by cases h), fun _ => List.nodup_nil, fun i a h => (by cases h)⟩, h, fun v B' H' own' ro A => ?_⟩
  · cases i with
    | zero => exact ⟨rfl, .ref a, rfl, .lst hS (Dats.ints ns)⟩
    | succ i => rw [gt_out (by simp)]; exact rfl
  · obtain ⟨_, x, e, hx⟩ := A.res
    cases e
    exact hx.dat_bl
end Rb
namespace Rb
open PySem L2 PyProof.Rows
theorem mem_of_lookup {β : Type} : ∀ {l : List (Str × β)} {x : Str} {y : β}, l.lookup x = some y → (x, y) ∈ l
  | [], _, _, h => by cases h
  | (a, b) :: r, x, y, h => by
    rw [List.lookup_cons] at h
    cases q : x == a with
    | true =>
      rw [q] at h
      cases h
      rw [eq_of_beq q]
      exact List.mem_cons_self ..
    | false =>
      rw [q] at h
      exact List.mem_cons_of_mem _ (mem_of_lookup h)
theorem walkB {l : PySem.W.OpenLaw} {k : Nat} {q : Program} {loose : List Str} {XP : (Str → Option Value) → Heap → Prop} {YP : World → Heap → Prop} {d : DefRec}
    (hn : l.most = some 63) (hdf : d.params.defaults = []) (hr : Room k callerA)
    (F : ∀ (w : World) (mg : Str → Option Value) (fa : Addr) (h : Heap), YP w h → h.Ns mainGlobals mg → mg d.name = some (.ref fa) →
      ∃ (K : PySem.W.Frag) (fd : FuncData) (sp : Sp), K.In h ∧ (∀ (s : Shared) (u : Value), BindsTo s fd ⟨[u], []⟩ [(("script" : Str), u)]) ∧
        (∀ (H : Hp) (a : Addr) (ns : List Int), ns.length ≤ 63 → (∀ z ∈ ns, Builtin.Int.intBits z ≤ 1048576) → Only H → SqL K H a (ns.map V.int) → sp [.ref a] H (fun v _ => v = .bl true) fun _ _ _ => False) ∧
        ∀ base : Heap, K.In base → base.Ns mainGlobals mg → FnOk l.prog w K mg base CX0 k fa fd ["script"] sp) :
    PySem.W.WalkO q loose XP YP l.row.toRowW d [] (fun f vs => PySem.call f vs) := by
  refine Att.attach_callB hn hdf fun w s₀ s₁ mg mb fa o pm cd doc a vs ns G Y ho hd hcd hmg hobj hints hlen hbits hg => ?_
  obtain ⟨K, fd, sp, KX, hb, hsp, hF⟩ := F w mg fa _ Y G.T.g hmg
  exact law_call KX G.T.g G.T.b G.T.builtins G.T.nolimit hg hobj hints (Nat.le_trans hlen (by decide)) hr hF hb (fun H hO hS => hsp H a ns hlen hbits hO hS) fun H e s' h => h
theorem law_end {P : Program} {w : World} {K : PySem.W.Frag} {mg : Str → Option Value} {h : Heap} {tb : Tb} {dfs : List Df} {fa : List He.Fa} {fn : List He.DefD} {f : Addr} (T : Txt tb dfs fa fn) (hm : ∀ d ∈ dfs, d.me = true → tb.mts ≠ []) (X : K.In h) (G : h.Ns mainGlobals mg) (hmg : mg ("law" : Str) = some (.ref f)) (c : He.SaysD fa fn K)
    (n : Nat) (hl : ("law" : Str) ∈ tb.fns ∧ ∀ d, dfs.find? (fun d => decide (d.key = ("law" : Str))) = some d → d.ps = [("script" : Str)]) (law : ∀ ns : List Int, ns.length ≤ 63 → (∀ z ∈ ns, Builtin.Int.intBits z ≤ 1048576) → ∃ a, envL dfs n "law" [.dat (.list (ns.map .int))] = some (.dat (.bool true), a)) :
    ∃ (K : PySem.W.Frag) (fd : FuncData) (sp : Sp), K.In h ∧ (∀ (s : Shared) (u : Value), BindsTo s fd ⟨[u], []⟩ [(("script" : Str), u)]) ∧
        (∀ (H : Hp) (a : Addr) (ns : List Int), ns.length ≤ 63 → (∀ z ∈ ns, Builtin.Int.intBits z ≤ 1048576) → Only H → SqL K H a (ns.map V.int) → sp [.ref a] H (fun v _ => v = .bl true) fun _ _ _ => False) ∧
        ∀ base : Heap, K.In base → base.Ns mainGlobals mg → FnOk P w K mg base CX0 (n + 2) f fd ["script"] sp := by
  obtain ⟨d, d1, d2, d3, d4, d5, d6⟩ := T.fns _ hl.1
  obtain ⟨ok, hd⟩ := T.df d (List.mem_of_find?_eq_some d1)
  have hps := hl.2 d d1
  obtain ⟨fd, FD⟩ := c.defs hd
  have FD' : FunD K d.name d.qual (defArgs d.st) (defBody d.st) (defScope d.st) [] [] (He.fAd K d.at_) fd := FD
  have ea : He.fAd K d.at_ = He.ga K "law" := by rw [d3]; rfl
  have e := hmg.symm.trans (He.glo_ok X G (c.facts d4))
  cases e
  refine ⟨K, fd, PrF K (He.ga K "Standing") (envL dfs n) "law", X, fun s u => ?_, fun H a ns h1 h2 _ hS => ?_, fun base hK hG => ?_⟩
  · have := FunD.bindsA (ps := d.ps) FD' ok.bnd s [u] (by rw [hps]; rfl)
    rw [hps] at this
    exact this
  · obtain ⟨a', ha⟩ := law ns h1 h2
    exact law_sp hS ha
  · have W := lvl (P := P) (w := w) (base := base) T hm X G c n
    -- the def itself, at this level
    rw [ea] at FD'
    cases n with
    | zero => rw [← hps]; exact fnok_none fun _ => rfl
    | succ n =>
      have W0 := lvl (P := P) (w := w) (base := base) T hm X G c n
      rw [← hps]
      exact def_ok T W0 hm (List.mem_of_find?_eq_some d1) ok FD' (envL_def d1 d5 d6)
end Rb
namespace Rb
open PySem L2
/-! the combinators, as rewriting rules -/
section
variable {M : En} {st : Sto}
@[simp] theorem cstE_s {d : PyData} : cstE d M st = some (.dat d, st) := rfl
@[simp] theorem valE_s {m : ME} : valE m M st = (m M st).bind fun p => (frz p.1).map fun d => (d, p.2) := by
  unfold valE
  cases m M st with
  | none => rfl
  | some p => cases h : frz p.1 <;> simp [h]
@[simp] theorem frz_dat {d : PyData} : frz (.dat d) = some d := rfl
@[simp] theorem frz_lst {d : List PyData} : frz (.lst d) = some (.list d) := rfl
@[simp] theorem frz_dct {d : List (PyData × PyData)} : frz (.dct d) = some (.dict d) := rfl
def vr (np nv i : Nat) (st : Sto) : SV → Option (SV × Sto)
  | .dat d => some (.dat d, st)
  | .lst ds => if i < np then none else if i < nv then some (.dat (.list ds), st.set i (.dat (.list ds))) else none
  | .dct es => if i < np then none else if i < nv then some (.dat (.dict es), st.set i (.dat (.dict es))) else none
  | _ => none
@[simp] theorem varE_s {i : Nat} : varE i M st = vr M.np M.nv i st (gt st i) := by unfold varE vr; cases gt st i <;> rfl
@[simp] theorem datE_s {m : MD} : datE m M st = (m M st).map fun p => (.dat p.1, p.2) := by unfold datE; cases m M st <;> rfl
def pls (i : Nat) (st : Sto) : SV → Option (Pd × Sto)
  | .emp => none
  | .slf => none
  | _ => some (.pl i, st)
@[simp] theorem plO_s {i : Nat} : plO i M st = pls i st (gt st i) := by unfold plO pls; cases gt st i <;> rfl
@[simp] theorem exO_s {m : ME} : exO m M st = (valE m M st).map fun p => (.da p.1, p.2) := by unfold exO; cases valE m M st <;> rfl
@[simp] theorem peek_pl {i : Nat} : peek st (.pl i) = frz (gt st i) := rfl
@[simp] theorem peek_da {d : PyData} : peek st (.da d) = some d := rfl
@[simp] theorem peeks_nil : peeks st [] = some [] := rfl
@[simp] theorem peeks_cons {p : Pd} {r : List Pd} : peeks st (p :: r) = (peek st p).bind fun d => (peeks st r).map (d :: ·) := by
  show (match peek st p, peeks st r with | some d, some ds => some (d :: ds) | _, _ => none) = _
  cases peek st p <;> cases peeks st r <;> rfl
@[simp] theorem two_s {a b : MO} {k : PyData → PyData → Sto → Option (SV × Sto)} : two a b k M st = (a M st).bind fun p => (b M p.2).bind fun q => (peek q.2 p.1).bind fun x => (peek q.2 q.1).bind fun y => k x y q.2 := by
  unfold two
  cases h : a M st with
  | none => rfl
  | some p =>
    simp only [Option.bind_some]
    cases h2 : b M p.2 with
    | none => rfl
    | some q => simp only [Option.bind_some]; cases peek q.2 p.1 <;> cases peek q.2 q.1 <;> rfl
@[simp] theorem rs_s {o : Option SV} : rs o st = o.map fun r => (r, st) := by cases o <;> rfl
@[simp] theorem rd_s {o : Option PyData} : rd o st = o.map fun r => (.dat r, st) := by cases o <;> rfl
@[simp] theorem rb_s {o : Option Bool} : rb o st = o.map fun r => (.dat (.bool r), st) := by cases o <;> rfl
@[simp] theorem negE_s {a : ME} : negE a M st = (valE a M st).bind fun p => (match p.1 with | .int i => some (.dat (.int (-i)), p.2) | _ => none) := by
  unfold negE
  cases h : valE a M st with
  | none => rfl
  | some p => obtain ⟨d, s⟩ := p; cases d <;> rfl
@[simp] theorem bolE_s {a : ME} : bolE a M st = (valE a M st).bind fun p => (match p.1 with | .bool b => some (b, p.2) | _ => none) := by
  unfold bolE
  cases h : valE a M st with
  | none => rfl
  | some p => obtain ⟨d, s⟩ := p; cases d <;> rfl
@[simp] theorem notE_s {a : ME} : notE a M st = (bolE a M st).map fun p => (.dat (.bool (!p.1)), p.2) := by unfold notE; cases bolE a M st <;> rfl
@[simp] theorem andE_s {a b : ME} : andE a b M st = (bolE a M st).bind fun p => bif p.1 then b M p.2 else some (.dat (.bool false), p.2) := by
  unfold andE
  cases h : bolE a M st with
  | none => rfl
  | some p => obtain ⟨d, s⟩ := p; cases d <;> rfl
@[simp] theorem orE_s {a b : ME} : orE a b M st = (bolE a M st).bind fun p => bif p.1 then some (.dat (.bool true), p.2) else b M p.2 := by
  unfold orE
  cases h : bolE a M st with
  | none => rfl
  | some p => obtain ⟨d, s⟩ := p; cases d <;> rfl
@[simp] theorem chnE_s {o1 o2 : CmpOp} {a b c : ME} : chnE o1 o2 a b c M st = (valE a M st).bind fun p => (valE b M p.2).bind fun q => (cmpD o1 p.1 q.1).bind fun t => bif t then ((valE c M q.2).bind fun r => (cmpD o2 q.1 r.1).map fun k => (k, r.2)) else some (false, q.2) := by
  unfold chnE
  cases h : valE a M st with
  | none => rfl
  | some p =>
    simp only [Option.bind_some]
    cases h2 : valE b M p.2 with
    | none => rfl
    | some q =>
      simp only [Option.bind_some]
      cases h3 : cmpD o1 p.1 q.1 with
      | none => rfl
      | some t =>
        cases t with
        | false => rfl
        | true =>
          simp only [Option.bind_some, cond_true]
          cases h4 : valE c M q.2 with
          | none => rfl
          | some r => simp only [Option.bind_some]; cases cmpD o2 q.1 r.1 <;> rfl
@[simp] theorem blE_s {m : MT} : blE m M st = (m M st).map fun p => (.dat (.bool p.1), p.2) := by unfold blE; cases m M st <;> rfl
@[simp] theorem iteE_s {t : MT} {a b : ME} : iteE t a b M st = (t M st).bind fun p => bif p.1 then a M p.2 else b M p.2 := by
  unfold iteE
  cases h : t M st with
  | none => rfl
  | some p => obtain ⟨d, s⟩ := p; cases d <;> rfl
@[simp] theorem nilA_s : nilA M st = some ([], st) := rfl
@[simp] theorem consA_s {a : MO} {r : MA} : consA a r M st = (a M st).bind fun p => (r M p.2).map fun q => (p.1 :: q.1, q.2) := by
  unfold consA
  cases h : a M st with
  | none => rfl
  | some p => simp only [Option.bind_some]; cases r M p.2 <;> rfl
@[simp] theorem nilV_s : nilV M st = some ([], st) := rfl
@[simp] theorem consV_s {a : ME} {r : MI} : consV a r M st = (valE a M st).bind fun p => (r M p.2).map fun q => (p.1 :: q.1, q.2) := by
  unfold consV
  cases h : valE a M st with
  | none => rfl
  | some p => simp only [Option.bind_some]; cases r M p.2 <;> rfl
@[simp] theorem tupE_s {m : MI} : tupE m M st = (m M st).map fun p => (.dat (.tuple p.1), p.2) := by unfold tupE; cases m M st <;> rfl
@[simp] theorem lstE_s {m : MI} : lstE m M st = (m M st).map fun p => (.lst p.1, p.2) := by unfold lstE; cases m M st <;> rfl
@[simp] theorem dicE_s : dicE M st = some (.dct [], st) := rfl
@[simp] theorem partE_s {m : ME} : partE m M st = (valE m M st).bind fun p => (match p.1 with | .int i => some (some i, p.2) | _ => none) := by
  unfold partE
  cases h : valE m M st with
  | none => rfl
  | some p => obtain ⟨d, s⟩ := p; cases d <;> rfl
@[simp] theorem noP_s : noP M st = some (none, st) := rfl
@[simp] theorem slcE_s {a : MO} {lo hi : En → Sto → Option (Option Int × Sto)} : slcE a lo hi M st = (a M st).bind fun p => (lo M p.2).bind fun l => (hi M l.2).bind fun h => (peek h.2 p.1).bind fun x => (slcD x l.1 h.1).map fun r => (r, h.2) := by
  unfold slcE
  cases h : a M st with
  | none => rfl
  | some p =>
    simp only [Option.bind_some]
    cases h2 : lo M p.2 with
    | none => rfl
    | some l =>
      simp only [Option.bind_some]
      cases h3 : hi M l.2 with
      | none => rfl
      | some q => simp only [Option.bind_some]; cases peek q.2 p.1 <;> first | rfl | (simp only [Option.bind_some]; rw [rs_s])
@[simp] theorem argOf_da {d : PyData} : argOf M st (.da d) = some (.dat d) := rfl
def ag : SV → Option SV
  | .emp => none
  | .slf => none
  | s => some s
@[simp] theorem argOf_pl' {i : Nat} : argOf M st (.pl i) = ag (gt st i) := by show (match gt st i with | .emp => none | .slf => none | s => some s) = _; unfold ag; cases gt st i <;> rfl
@[simp] theorem argsOf_nil : argsOf M st [] = some [] := rfl
@[simp] theorem argsOf_cons' {p : Pd} {r : List Pd} : argsOf M st (p :: r) = (argOf M st p).bind fun s => (argsOf M st r).map (s :: ·) := by
  show (match argOf M st p, argsOf M st r with | some s, some ss => some (s :: ss) | _, _ => none) = _
  cases argOf M st p <;> cases argsOf M st r <;> rfl
@[simp] theorem ownIx_nil : ownIx st [] = [] := rfl
@[simp] theorem ownIx_da {d : PyData} {r : List Pd} : ownIx st (.da d :: r) = ownIx st r := rfl
@[simp] theorem ownIx_pl {i : Nat} {r : List Pd} : ownIx st (.pl i :: r) = bif (gt st i).own then i :: ownIx st r else ownIx st r := by
  show (if (gt st i).own = true then _ else _) = _
  cases (gt st i).own <;> rfl
@[simp] theorem putB_nil {ss : List SV} : putB st [] ss = some st := by unfold putB; rfl
@[simp] theorem putB_da {d : PyData} {r : List Pd} {s : SV} {ss : List SV} : putB st (.da d :: r) (s :: ss) = putB st r ss := by rw [putB]
@[simp] theorem putB_pl {i : Nat} {r : List Pd} {s : SV} {ss : List SV} : putB st (.pl i :: r) (s :: ss) = bif (gt st i).own then (bif same (gt st i) s then putB (st.set i s) r ss else none) else putB st r ss := by
  rw [putB]
  cases (gt st i).own <;> cases same (gt st i) s <;> simp
@[simp] theorem callF_s {g : Str} {ps : List Pd} : callF M g st ps = (argsOf M st ps).bind fun ss => if (ownIx st ps).Nodup then (M.F g ss).bind fun p => (putB st ps p.2).map fun s => (p.1, s) else none := by
  unfold callF
  cases argsOf M st ps with
  | none => rfl
  | some ss =>
    simp only [Option.bind_some]
    split
    · cases h : M.F g ss with
      | none => rfl
      | some p => simp only [Option.bind_some]; cases putB st ps p.2 <;> rfl
    · rfl
@[simp] theorem callE_s {g : Str} {as : MA} : callE g as M st = (as M st).bind fun p => callF M g p.2 p.1 := by unfold callE; cases as M st <;> rfl
def isStd : SV → Bool
  | .std _ _ => true
  | _ => false
@[simp] theorem methE_s {i : Nat} {g : Str} {as : MA} : methE i g as M st = bif isStd (gt st i) then ((as M st).bind fun p => bif isStd (gt p.2 i) then callF M g p.2 (.pl i :: p.1) else none) else none := by
  unfold methE isStd
  cases gt st i <;> try rfl
  simp only [cond_true]
  cases h : as M st with
  | none => rfl
  | some p =>
    simp only [Option.bind_some]
    cases gt p.2 i <;> rfl
theorem slfE_s {g : Str} {as : MA} {d : PyData} {ds : List PyData} {ss : List SV} {p : List Pd × Sto} (h0 : gt st 0 = .slf) (ha : as M st = some p) (h1 : gt p.2 0 = .slf) (h2 : gt p.2 M.nv = .dat d) (h3 : gt p.2 (M.nv + 1) = .lst ds) (h4 : argsOf M p.2 p.1 = some ss) (h5 : ownIx p.2 p.1 = [])
    {r : SV} {d' : PyData} {ds' : List PyData} {rest : List SV} (h6 : M.F g (.std d ds :: ss) = some (r, .std d' ds' :: rest)) : slfE g as M st = some (r, (p.2.set M.nv (.dat d')).set (M.nv + 1) (.lst ds')) := by
  unfold slfE
  rw [h0, ha]
  simp only [h1, h2, h3, h4, h5, h6]
  rfl
@[simp] theorem mkE_s {g : Str} {as : MI} : mkE g as M st = (as M st).bind fun p => (M.F g (p.1.map SV.dat)).bind fun q => bif isStd q.1 then some (q.1, p.2) else none := by
  unfold mkE
  cases as M st with
  | none => rfl
  | some p =>
    simp only [Option.bind_some]
    cases h : M.F g (p.1.map SV.dat) with
    | none => rfl
    | some q => obtain ⟨r, s⟩ := q; cases r <;> rfl
@[simp] theorem itR1_s {a : ME} : itR1 a M st = (valE a M st).bind fun p => (match p.1 with | .int n => if rgOk 0 n then some (rgD 0 n, p.2) else none | _ => none) := by
  unfold itR1
  cases h : valE a M st with
  | none => rfl
  | some p => obtain ⟨d, s⟩ := p; cases d <;> rfl
theorem itR2_s {a b : ME} {m n : Int} {s1 s2 : Sto} (h1 : valE a M st = some (.int m, s1)) (h2 : valE b M s1 = some (.int n, s2)) : itR2 a b M st = if rgOk m n then some (rgD m n, s2) else none := by
  unfold itR2
  rw [h1]
  simp only [h2]
def ovD (st : Sto) : PyData → Option (List PyData × Sto)
  | .list ds => some (ds, st)
  | .tuple ds => some (ds, st)
  | .str z => some (z.cps.toList.map fun c => .str ⟨#[c]⟩, st)
  | _ => none
@[simp] theorem itOv_s {a : ME} : itOv a M st = (valE a M st).bind fun p => ovD p.2 p.1 := by
  unfold itOv ovD
  cases h : valE a M st with
  | none => rfl
  | some p => obtain ⟨d, s⟩ := p; cases d <;> rfl
@[simp] theorem putS_s {i : Nat} {r : SV} : putS i r M st = if i < M.nv then (if decide (i < M.np) && (gt st i).own then none else some (st.set i r)) else none := rfl
@[simp] theorem asg_nm {i : Nat} {d : PyData} : asg (.nm i) d M st = putS i (.dat d) M st := by rw [asg]
@[simp] theorem asg_tp {ts : Tgs} {ds : List PyData} : asg (.tp ts) (.tuple ds) M st = asgs ts ds M st := by rw [asg]
@[simp] theorem asgs_nil : asgs .nil [] M st = some st := by rw [asgs]
@[simp] theorem asgs_cons {t : Tg} {ts : Tgs} {d : PyData} {r : List PyData} : asgs (.cons t ts) (d :: r) M st = (asg t d M st).bind fun s => asgs ts r M s := by
  rw [asgs]
  simp only
  cases asg t d M st <;> rfl
@[simp] theorem binE_s {op : Operator} {a b : MO} : binE op a b M st = (a M st).bind fun p => (b M p.2).bind fun q => (peek q.2 p.1).bind fun x => (peek q.2 q.1).bind fun y => (binD op x y).map fun r => (r, q.2) := by
  unfold binE
  rw [two_s]
  have e : ∀ s : Sto, (fun x y => rs (binD op x y) s) = fun x y => (binD op x y).map fun r => (r, s) := fun s => by funext x y; exact rs_s
  simp only [rs_s]
@[simp] theorem ixE_s {a b : MO} : ixE a b M st = (a M st).bind fun p => (b M p.2).bind fun q => (peek q.2 p.1).bind fun x => (peek q.2 q.1).bind fun y => (ixD x y).map fun r => (.dat r, q.2) := by
  unfold ixE
  rw [two_s]
  simp only [rd_s]
@[simp] theorem cmpE_s {op : CmpOp} {a b : MO} : cmpE op a b M st = (a M st).bind fun p => (b M p.2).bind fun q => (peek q.2 p.1).bind fun x => (peek q.2 q.1).bind fun y => (cmpD op x y).map fun r => (.dat (.bool r), q.2) := by
  unfold cmpE
  rw [two_s]
  simp only [rb_s]
@[simp] theorem cmpT_s {op : CmpOp} {a b : MO} : cmpT op a b M st = (a M st).bind fun p => (b M p.2).bind fun q => (peek q.2 p.1).bind fun x => (peek q.2 q.1).bind fun y => (cmpD op x y).map fun r => (r, q.2) := by
  unfold cmpT
  rw [bolE_s, valE_s, cmpE_s]
  cases a M st with
  | none => rfl
  | some p =>
    simp only [Option.bind_some]
    cases b M p.2 with
    | none => rfl
    | some q =>
      simp only [Option.bind_some]
      cases peek q.2 p.1 with
      | none => rfl
      | some x =>
        simp only [Option.bind_some]
        cases peek q.2 q.1 with
        | none => rfl
        | some y =>
          simp only [Option.bind_some]
          cases cmpD op x y <;> rfl
@[simp] theorem andT_s {a b : MT} : andT a b M st = (a M st).bind fun p => bif p.1 then b M p.2 else some (false, p.2) := by
  unfold andT
  cases h : a M st with
  | none => rfl
  | some p => obtain ⟨d, s⟩ := p; cases d <;> rfl
@[simp] theorem orT_s {a b : MT} : orT a b M st = (a M st).bind fun p => bif p.1 then some (true, p.2) else b M p.2 := by
  unfold orT
  cases h : a M st with
  | none => rfl
  | some p => obtain ⟨d, s⟩ := p; cases d <;> rfl
@[simp] theorem notT_s {a : MT} : notT a M st = (a M st).map fun p => (!p.1, p.2) := by unfold notT; cases a M st <;> rfl
@[simp] theorem nxS_s : nxS M st = some (.nx, st) := rfl
def sq (f : Sto → Option (Out × Sto)) : Out × Sto → Option (Out × Sto)
  | (.nx, s) => f s
  | r => some r
@[simp] theorem sq_nx {f : Sto → Option (Out × Sto)} {s : Sto} : sq f (.nx, s) = f s := rfl
@[simp] theorem sq_rt {f : Sto → Option (Out × Sto)} {s : Sto} {r : SV} : sq f (.rt r, s) = some (.rt r, s) := rfl
@[simp] theorem seqS_s {a b : MS} : seqS a b M st = (a M st).bind (sq (b M)) := by
  unfold seqS
  cases h : a M st with
  | none => rfl
  | some p => obtain ⟨o, s⟩ := p; cases o <;> rfl
@[simp] theorem expS_s {m : ME} : expS m M st = (m M st).map fun p => (.nx, p.2) := by unfold expS; cases m M st <;> rfl
@[simp] theorem setS_s {i : Nat} {m : ME} : setS i m M st = (m M st).bind fun p => (putS i p.1 M p.2).map fun s => (.nx, s) := by
  unfold setS
  cases h : m M st with
  | none => rfl
  | some p => simp only [Option.bind_some]; cases putS i p.1 M p.2 <;> rfl
@[simp] theorem desS_s {tg : Tg} {m : ME} : desS tg m M st = (valE m M st).bind fun p => (asg tg p.1 M p.2).map fun s => (.nx, s) := by
  unfold desS
  cases h : valE m M st with
  | none => rfl
  | some p => simp only [Option.bind_some]; cases asg tg p.1 M p.2 <;> rfl
@[simp] theorem parS_s {i j : Nat} {a b : ME} : parS i j a b M st = (valE a M st).bind fun p => (valE b M p.2).bind fun q => (putS i (.dat p.1) M q.2).bind fun s => (putS j (.dat q.1) M s).map fun s => (.nx, s) := by
  unfold parS
  cases h : valE a M st with
  | none => rfl
  | some p =>
    simp only [Option.bind_some]
    cases h2 : valE b M p.2 with
    | none => rfl
    | some q =>
      simp only [Option.bind_some]
      cases h3 : putS i (.dat p.1) M q.2 with
      | none => rfl
      | some s => simp only [Option.bind_some]; cases putS j (.dat q.1) M s <;> rfl
@[simp] theorem ifS_s {t : MT} {a b : MS} : ifS t a b M st = (t M st).bind fun p => bif p.1 then a M p.2 else b M p.2 := by
  unfold ifS
  cases h : t M st with
  | none => rfl
  | some p => obtain ⟨d, s⟩ := p; cases d <;> rfl
@[simp] theorem retS_s {m : ME} : retS m M st = (m M st).map fun p => (.rt p.1, p.2) := by unfold retS; cases m M st <;> rfl
def rv (np nv i : Nat) (st : Sto) : SV → Option (Out × Sto)
  | .dat d => some (.rt (.dat d), st)
  | .emp => none
  | .slf => none
  | s => if i < np then none else if i < nv then some (.rt s, st.set i .emp) else none
@[simp] theorem retV_s {i : Nat} : retV i M st = rv M.np M.nv i st (gt st i) := by unfold retV rv; cases gt st i <;> rfl
@[simp] theorem retN_s : retN M st = some (.rt (.dat .none), st) := rfl
@[simp] theorem forT_nil {tg : Tg} {b : MS} : forT tg b M [] st = some (.nx, st) := rfl
theorem forT_cons {tg : Tg} {b : MS} {d : PyData} {r : List PyData} : forT tg b M (d :: r) st = (asg tg d M st).bind fun s => (b M s).bind (sq (forT tg b M r)) := by
  rw [forT]
  cases h : asg tg d M st with
  | none => rfl
  | some s =>
    simp only [Option.bind_some]
    cases h2 : b M s with
    | none => rfl
    | some p => obtain ⟨o, s'⟩ := p; cases o <;> rfl
@[simp] theorem forS_s {tg : Tg} {src : MI} {b : MS} : forS tg src b M st = (src M st).bind fun p => forT tg b M p.1 p.2 := by unfold forS; cases src M st <;> rfl
@[simp] theorem lcTurn_nil {tg : Tg} {vs : List Nat} {tst : MT} {elt : MD} {acc : List PyData} : lcTurn tg vs tst elt M [] acc st = some (acc, st) := by rw [lcTurn]
theorem lcTurn_cons {tg : Tg} {vs : List Nat} {tst : MT} {elt : MD} {d : PyData} {r acc : List PyData} : lcTurn tg vs tst elt M (d :: r) acc st = (asg tg d M st).bind fun s => (tst M s).bind fun p => bif p.1 then ((elt M p.2).bind fun q => if acc.length < lim then (if noOwn q.2 vs then lcTurn tg vs tst elt M r (acc ++ [q.1]) (wipeS q.2 vs) else none) else none)
    else (if noOwn p.2 vs then lcTurn tg vs tst elt M r acc (wipeS p.2 vs) else none) := by
  rw [lcTurn]
  cases h : asg tg d M st with
  | none => rfl
  | some s =>
    simp only [Option.bind_some]
    cases h2 : tst M s with
    | none => rfl
    | some p =>
      obtain ⟨o, s'⟩ := p
      cases o with
      | false => rfl
      | true =>
        simp only [Option.bind_some, cond_true]
        cases elt M s' <;> rfl
@[simp] theorem lcE_s {tg : Tg} {vs : List Nat} {src : MI} {tst : MT} {elt : MD} : lcE tg vs src tst elt M st = (src M st).bind fun p => if noOwn p.2 vs && vs.all fun v => decide (v < M.nv) then ((lcTurn tg vs tst elt M p.1 [] (wipeS p.2 vs)).map fun q => (.lst q.1, backS p.2 q.2 vs)) else none := by
  unfold lcE
  cases h : src M st with
  | none => rfl
  | some p =>
    simp only [Option.bind_some]
    split
    · cases lcTurn tg vs tst elt M p.1 [] (wipeS p.2 vs) <;> rfl
    · rfl
@[simp] theorem yesT_s : yesT M st = some (true, st) := rfl
end
/-- a comprehension whose every turn is known: the store comes back -/
theorem lcTurn_map {tg : Tg} {vs : List Nat} {tst : MT} {elt : MD} {M : En} {st : Sto} (p : PyData → Bool) (f : PyData → PyData) : ∀ (ds acc : List PyData), acc.length + ds.length ≤ lim →
    (∀ d ∈ ds, ∃ s1 s2, asg tg d M st = some s1 ∧ tst M s1 = some (p d, s2) ∧ (p d = false → noOwn s2 vs = true ∧ wipeS s2 vs = st) ∧ (p d = true → ∃ s3, elt M s2 = some (f d, s3) ∧ noOwn s3 vs = true ∧ wipeS s3 vs = st)) →
    lcTurn tg vs tst elt M ds acc st = some (acc ++ (ds.filter p).map f, st)
  | [], acc, _, _ => by rw [lcTurn_nil]; simp
  | d :: r, acc, hl, h => by
    obtain ⟨s1, s2, a1, a2, a3, a4⟩ := h d (by simp)
    rw [lcTurn_cons, a1]
    simp only [Option.bind_some]
    rw [a2]
    simp only [Option.bind_some]
    rw [List.length_cons] at hl
    cases hp : p d with
    | false =>
      obtain ⟨b1, b2⟩ := a3 hp
      simp only [cond_false]
      rw [if_pos b1, b2, lcTurn_map p f r acc (by omega) fun x hx => h x (by simp [hx])]
      simp [List.filter_cons, hp]
    | true =>
      obtain ⟨s3, b0, b1, b2⟩ := a4 hp
      simp only [cond_true]
      rw [b0]
      simp only [Option.bind_some]
      rw [if_pos (by omega), if_pos b1, b2, lcTurn_map p f r (acc ++ [f d]) (by simp; omega) fun x hx => h x (by simp [hx])]
      simp [List.filter_cons, hp]
end Rb
namespace Rb
open PySem L2
section
variable {M : En} {st : Sto} {np nv i : Nat}
@[simp] theorem pls_dat {d : PyData} : pls i st (.dat d) = some (.pl i, st) := rfl
@[simp] theorem pls_lst {d : List PyData} : pls i st (.lst d) = some (.pl i, st) := rfl
@[simp] theorem pls_dct {d : List (PyData × PyData)} : pls i st (.dct d) = some (.pl i, st) := rfl
@[simp] theorem pls_std {d : PyData} {ds : List PyData} : pls i st (.std d ds) = some (.pl i, st) := rfl
@[simp] theorem vr_dat {d : PyData} : vr np nv i st (.dat d) = some (.dat d, st) := rfl
@[simp] theorem vr_lst {ds : List PyData} : vr np nv i st (.lst ds) = if i < np then none else if i < nv then some (.dat (.list ds), st.set i (.dat (.list ds))) else none := rfl
@[simp] theorem vr_dct {ds : List (PyData × PyData)} : vr np nv i st (.dct ds) = if i < np then none else if i < nv then some (.dat (.dict ds), st.set i (.dat (.dict ds))) else none := rfl
@[simp] theorem rv_dat {d : PyData} : rv np nv i st (.dat d) = some (.rt (.dat d), st) := rfl
@[simp] theorem rv_lst {ds : List PyData} : rv np nv i st (.lst ds) = if i < np then none else if i < nv then some (.rt (.lst ds), st.set i .emp) else none := rfl
@[simp] theorem rv_dct {ds : List (PyData × PyData)} : rv np nv i st (.dct ds) = if i < np then none else if i < nv then some (.rt (.dct ds), st.set i .emp) else none := rfl
@[simp] theorem ag_dat {d : PyData} : ag (.dat d) = some (.dat d) := rfl
@[simp] theorem ag_lst {d : List PyData} : ag (.lst d) = some (.lst d) := rfl
@[simp] theorem ag_dct {d : List (PyData × PyData)} : ag (.dct d) = some (.dct d) := rfl
@[simp] theorem ag_std {d : PyData} {ds : List PyData} : ag (.std d ds) = some (.std d ds) := rfl
@[simp] theorem own_dat {d : PyData} : (SV.dat d).own = false := rfl
@[simp] theorem own_emp : SV.emp.own = false := rfl
@[simp] theorem own_slf : SV.slf.own = true := rfl
@[simp] theorem own_lst {d : List PyData} : (SV.lst d).own = true := rfl
@[simp] theorem own_dct {d : List (PyData × PyData)} : (SV.dct d).own = true := rfl
@[simp] theorem own_std {d : PyData} {ds : List PyData} : (SV.std d ds).own = true := rfl
@[simp] theorem same_lst {a b : List PyData} : same (.lst a) (.lst b) = true := rfl
@[simp] theorem same_dct {a b : List (PyData × PyData)} : same (.dct a) (.dct b) = true := rfl
@[simp] theorem same_std {a c : PyData} {b d : List PyData} : same (.std a b) (.std c d) = true := rfl
@[simp] theorem isStd_std {a : PyData} {b : List PyData} : isStd (.std a b) = true := rfl
@[simp] theorem has_dat {d : PyData} : has (.dat d) = true := rfl
@[simp] theorem has_lst {d : List PyData} : has (.lst d) = true := rfl
@[simp] theorem has_dct {d : List (PyData × PyData)} : has (.dct d) = true := rfl
@[simp] theorem sameAll_nil {b : List SV} : sameAll [] b = true := by cases b <;> rfl
@[simp] theorem sameAll_cons {x y : SV} {a b : List SV} : sameAll (x :: a) (y :: b) = ((!x.own || same x y) && sameAll a b) := rfl
@[simp] theorem ovD_list {ds : List PyData} : ovD st (.list ds) = some (ds, st) := rfl
@[simp] theorem ovD_tuple {ds : List PyData} : ovD st (.tuple ds) = some (ds, st) := rfl
@[simp] theorem gt_nil' : gt [] i = .emp := by unfold gt; simp
@[simp] theorem gt_0 {a : SV} {r : List SV} : gt (a :: r) 0 = a := rfl
@[simp] theorem gt_1 {a b : SV} {r : List SV} : gt (a :: b :: r) 1 = b := rfl
@[simp] theorem gt_2 {a b c : SV} {r : List SV} : gt (a :: b :: c :: r) 2 = c := rfl
@[simp] theorem gt_3 {a b c d : SV} {r : List SV} : gt (a :: b :: c :: d :: r) 3 = d := rfl
@[simp] theorem gt_4 {a b c d e : SV} {r : List SV} : gt (a :: b :: c :: d :: e :: r) 4 = e := rfl
@[simp] theorem gt_5 {a b c d e f : SV} {r : List SV} : gt (a :: b :: c :: d :: e :: f :: r) 5 = f := rfl
@[simp] theorem gt_6 {a b c d e f g : SV} {r : List SV} : gt (a :: b :: c :: d :: e :: f :: g :: r) 6 = g := rfl
@[simp] theorem gt_7 {a b c d e f g h : SV} {r : List SV} : gt (a :: b :: c :: d :: e :: f :: g :: h :: r) 7 = h := rfl
@[simp] theorem gt_8 {a b c d e f g h j : SV} {r : List SV} : gt (a :: b :: c :: d :: e :: f :: g :: h :: j :: r) 8 = j := rfl
@[simp] theorem gt_9 {a b c d e f g h j k : SV} {r : List SV} : gt (a :: b :: c :: d :: e :: f :: g :: h :: j :: k :: r) 9 = k := rfl
@[simp] theorem gt_10 {a b c d e f g h j k l : SV} {r : List SV} : gt (a :: b :: c :: d :: e :: f :: g :: h :: j :: k :: l :: r) 10 = l := rfl
@[simp] theorem gt_11 {a b c d e f g h j k l m : SV} {r : List SV} : gt (a :: b :: c :: d :: e :: f :: g :: h :: j :: k :: l :: m :: r) 11 = m := rfl
@[simp] theorem gt_12 {a b c d e f g h j k l m n : SV} {r : List SV} : gt (a :: b :: c :: d :: e :: f :: g :: h :: j :: k :: l :: m :: n :: r) 12 = n := rfl
@[simp] theorem gt_13 {a b c d e f g h j k l m n o : SV} {r : List SV} : gt (a :: b :: c :: d :: e :: f :: g :: h :: j :: k :: l :: m :: n :: o :: r) 13 = o := rfl
@[simp] theorem wipeS_nil : wipeS st [] = st := rfl
@[simp] theorem wipeS_cons {v : Nat} {vs : List Nat} : wipeS st (v :: vs) = (wipeS st vs).set v .emp := rfl
@[simp] theorem backS_nil {st0 : Sto} : backS st0 st [] = st := rfl
@[simp] theorem backS_cons {st0 : Sto} {v : Nat} {vs : List Nat} : backS st0 st (v :: vs) = (backS st0 st vs).set v (gt st0 v) := rfl
@[simp] theorem noOwn_nil : noOwn st [] = true := rfl
@[simp] theorem noOwn_cons' {v : Nat} {vs : List Nat} : noOwn st (v :: vs) = (!(gt st v).own && noOwn st vs) := rfl
@[simp] theorem bltE_s {b : Blt} {as : MA} : bltE b as M st = (as M st).bind fun p => (peeks p.2 p.1).bind fun ds => (bltD b ds).map fun r => (r, p.2) := by
  unfold bltE
  cases as M st with
  | none => rfl
  | some p => simp only [Option.bind_some]; cases peeks p.2 p.1 <;> first | rfl | (simp only [Option.bind_some]; exact rs_s)
@[simp] theorem isiE_s {T : Tn} {a : MO} : isiE T a M st = (a M st).bind fun p => (peek p.2 p.1).map fun d => (.dat (.bool (isD T d)), p.2) := by
  unfold isiE
  cases a M st with
  | none => rfl
  | some p => simp only [Option.bind_some]; cases peek p.2 p.1 <;> rfl
theorem appE_s {i : Nat} {a : ME} {ds0 ds : List PyData} {d : PyData} {s : Sto} (h0 : gt st i = .lst ds0) (ha : valE a M st = some (d, s)) (h1 : gt s i = .lst ds) (hl : ds.length < lim) : appE i a M st = some (.dat .none, s.set i (.lst (ds ++ [d]))) := by
  unfold appE
  rw [h0]
  simp only [ha]
  rw [h1]
  simp only [if_pos hl]
def ap (st : Sto) (i : Nat) (d : PyData) : SV → Option (SV × Sto)
  | .lst ds => if ds.length < lim then some (.dat .none, st.set i (.lst (ds ++ [d]))) else none
  | _ => none
def isLst : SV → Bool
  | .lst _ => true
  | _ => false
@[simp] theorem isLst_lst {d : List PyData} : isLst (.lst d) = true := rfl
@[simp] theorem ap_lst {d : PyData} {ds : List PyData} : ap st i d (.lst ds) = if ds.length < lim then some (.dat .none, st.set i (.lst (ds ++ [d]))) else none := rfl
@[simp] theorem appE_g {i : Nat} {a : ME} : appE i a M st = bif isLst (gt st i) then ((valE a M st).bind fun p => ap p.2 i p.1 (gt p.2 i)) else none := by
  unfold appE isLst
  cases gt st i <;> try rfl
  simp only [cond_true]
  cases valE a M st with
  | none => rfl
  | some p => simp only [Option.bind_some]; unfold ap; cases gt p.2 i <;> rfl
def pp (st : Sto) (i : Nat) : SV → Option (SV × Sto)
  | .lst ds => (ds[ds.length - 1]?).map fun d => (.dat d, st.set i (.lst ds.dropLast))
  | _ => none
@[simp] theorem pp_lst {ds : List PyData} : pp st i (.lst ds) = (ds[ds.length - 1]?).map fun d => (.dat d, st.set i (.lst ds.dropLast)) := rfl
@[simp] theorem popE_s {i : Nat} : popE i M st = pp st i (gt st i) := by
  unfold popE pp
  cases gt st i <;> try rfl
  rename_i ds
  simp only
  cases ds[ds.length - 1]? <;> rfl
def isDct : SV → Bool
  | .dct _ => true
  | _ => false
@[simp] theorem isDct_dct {d : List (PyData × PyData)} : isDct (.dct d) = true := rfl
def pk (st : Sto) (i : Nat) (x : PyData) : SV → Option (SV × Sto)
  | .dct es => if isKey x && dkOnly es then (dlook es x).map fun d => (.dat d, st.set i (.dct (ddrop es x))) else none
  | _ => none
@[simp] theorem pk_dct {x : PyData} {es : List (PyData × PyData)} : pk st i x (.dct es) = if isKey x && dkOnly es then (dlook es x).map fun d => (.dat d, st.set i (.dct (ddrop es x))) else none := rfl
@[simp] theorem popK_s {i : Nat} {k : ME} : popK i k M st = bif isDct (gt st i) then ((valE k M st).bind fun p => pk p.2 i p.1 (gt p.2 i)) else none := by
  unfold popK isDct
  cases gt st i <;> try rfl
  simp only [cond_true]
  cases valE k M st with
  | none => rfl
  | some p =>
    simp only [Option.bind_some]
    unfold pk
    cases gt p.2 i <;> try rfl
    simp only
    split
    · rename_i es _
      cases dlook es p.1 <;> rfl
    · rfl
@[simp] theorem tmpClr_s {m : ME} : tmpClr m M st = (m M st).bind fun p => bif isLst p.1 then some (.dat .none, p.2) else none := by
  unfold tmpClr isLst
  cases m M st with
  | none => rfl
  | some p => obtain ⟨a, b⟩ := p; cases a <;> rfl
@[simp] theorem setIxS_s {i : Nat} {k e : ME} : setIxS i k e M st = (valE e M st).bind fun p => if has (gt p.2 i) then ((valE k M p.2).bind fun q => (setD (gt q.2 i) q.1 p.1).map fun s => (.nx, q.2.set i s)) else none := by
  unfold setIxS
  cases valE e M st with
  | none => rfl
  | some p =>
    simp only [Option.bind_some]
    split
    · cases valE k M p.2 with
      | none => rfl
      | some q => simp only [Option.bind_some]; cases setD (gt q.2 i) q.1 p.1 <;> rfl
    · rfl
@[simp] theorem setD_lst {ds : List PyData} {k : Int} {d : PyData} : setD (.lst ds) (.int k) d = (ixN ds.length k).map fun j => .lst (ds.set j d) := rfl
@[simp] theorem setD_dct {es : List (PyData × PyData)} {k d : PyData} : setD (.dct es) k d = if putOk es k && decide (es.length < lim) then some (.dct (dput es k d)) else none := by cases k <;> rfl
/-! ### values -/
@[simp] theorem len_list {ds : List PyData} : bltD .len [.list ds] = some (.dat (.int (ds.length : Nat))) := rfl
@[simp] theorem len_tuple' {ds : List PyData} : bltD .len [.tuple ds] = some (.dat (.int (ds.length : Nat))) := rfl
@[simp] theorem len_dict {es : List (PyData × PyData)} : bltD .len [.dict es] = if dkOnly es then some (.dat (.int (es.length : Nat))) else none := rfl
@[simp] theorem max2_i {i j : Int} : bltD .max2 [.int i, .int j] = some (.dat (.int (maxI i j))) := rfl
@[simp] theorem min2_i {i j : Int} : bltD .min2 [.int i, .int j] = some (.dat (.int (minI i j))) := rfl
@[simp] theorem tuple_l {ds : List PyData} : bltD .tuple [.list ds] = some (.dat (.tuple ds)) := rfl
@[simp] theorem tuple_t {ds : List PyData} : bltD .tuple [.tuple ds] = some (.dat (.tuple ds)) := rfl
@[simp] theorem list_l {ds : List PyData} : bltD .list [.list ds] = some (.lst ds) := rfl
@[simp] theorem list_t {ds : List PyData} : bltD .list [.tuple ds] = some (.lst ds) := rfl
@[simp] theorem dict_d {es : List (PyData × PyData)} : bltD .dict [.dict es] = if dkOnly es then some (.dct es) else none := rfl
@[simp] theorem srt_l {ds : List PyData} : bltD .sorted [.list ds] = (srtD ds).map .lst := rfl
@[simp] theorem srt_d {es : List (PyData × PyData)} : bltD .sorted [.dict es] = (match keysI es with | some ns => if ns.length < 64 then some (.lst ((ns.mergeSort leI).map .int)) else none | none => none) := rfl
@[simp] theorem ix_l {xs : List PyData} {k : Int} : ixD (.list xs) (.int k) = atI xs k := rfl
@[simp] theorem ix_t {xs : List PyData} {k : Int} : ixD (.tuple xs) (.int k) = atI xs k := rfl
@[simp] theorem ix_d {es : List (PyData × PyData)} {k : PyData} : ixD (.dict es) k = if keyOk es k then dlook es k else none := by cases k <;> rfl
theorem atI_nat2 {α : Type} {xs : List α} {n : Nat} : atI xs (n : Int) = xs[n]? := by
  unfold atI ixN
  rw [if_pos (Int.natCast_nonneg n)]
  split
  · simp
  · rename_i h
    rw [List.getElem?_eq_none (by omega)]
    rfl
@[simp] theorem atI_0 {α : Type} {a : α} {r : List α} : atI (a :: r) 0 = some a := atI_nat2 (n := 0)
@[simp] theorem atI_1 {α : Type} {a b : α} {r : List α} : atI (a :: b :: r) 1 = some b := atI_nat2 (n := 1)
@[simp] theorem atI_2 {α : Type} {a b c : α} {r : List α} : atI (a :: b :: c :: r) 2 = some c := atI_nat2 (n := 2)
@[simp] theorem atI_m1 {α : Type} {a : α} {r : List α} : atI (r ++ [a]) (-1) = some a := by
  unfold atI ixN
  rw [if_neg (by omega), if_pos (by simp; omega)]
  simp only [Option.bind_some, List.length_append, List.length_cons, List.length_nil]
  rw [show (-1 + ((r.length + (0 + 1) : Nat) : Int)).toNat = r.length by omega]
  simp
@[simp] theorem eq_ii {i j : Int} : cmpD .Eq (.int i) (.int j) = some (decide (i = j)) := by
  show (if true = true then some (PyData.eqv (.int i) (.int j)) else none) = _
  rw [if_pos rfl]
  have := eqv_kP (.inl i) (.inl j)
  unfold kP at this
  rw [this]
  simp
@[simp] theorem ne_ii {i j : Int} : cmpD .NotEq (.int i) (.int j) = some (!decide (i = j)) := by
  show (if true = true then some (!PyData.eqv (.int i) (.int j)) else none) = _
  rw [if_pos rfl]
  have := eqv_kP (.inl i) (.inl j)
  unfold kP at this
  rw [this]
  simp
@[simp] theorem lt_ii {i j : Int} : cmpD .Lt (.int i) (.int j) = some (decide (i < j)) := rfl
@[simp] theorem le_ii {i j : Int} : cmpD .LtE (.int i) (.int j) = some (decide (i ≤ j)) := rfl
@[simp] theorem gt_ii {i j : Int} : cmpD .Gt (.int i) (.int j) = some (decide (j < i)) := rfl
@[simp] theorem ge_ii {i j : Int} : cmpD .GtE (.int i) (.int j) = some (decide (j ≤ i)) := rfl
@[simp] theorem is_nn : cmpD .Is .none .none = some true := rfl
@[simp] theorem is_in {i : Int} : cmpD .Is (.int i) .none = some false := rfl
@[simp] theorem isnot_in {i : Int} : cmpD .IsNot (.int i) .none = some true := rfl
@[simp] theorem isnot_nn : cmpD .IsNot .none .none = some false := rfl
@[simp] theorem add_ii {i j : Int} : binD .Add (.int i) (.int j) = some (.dat (.int (i + j))) := rfl
@[simp] theorem sub_ii {i j : Int} : binD .Sub (.int i) (.int j) = some (.dat (.int (i - j))) := rfl
@[simp] theorem mul_ii {i j : Int} : binD .Mult (.int i) (.int j) = if mulOk i j then some (.dat (.int (i * j))) else none := rfl
@[simp] theorem fdiv_ii {i j : Int} : binD .FloorDiv (.int i) (.int j) = if divOk j then some (.dat (.int (i / j))) else none := rfl
@[simp] theorem mod_ii {i j : Int} : binD .Mod (.int i) (.int j) = if 0 < j then some (.dat (.int (i % j))) else none := rfl
@[simp] theorem pow_ii {i j : Int} : binD .Pow (.int i) (.int j) = if powOk i j then some (.dat (.int (i ^ j.toNat))) else none := rfl
@[simp] theorem add_tt {x y : List PyData} : binD .Add (.tuple x) (.tuple y) = if x.length + y.length ≤ lim then some (.dat (.tuple (x ++ y))) else none := rfl
@[simp] theorem add_ll {x y : List PyData} : binD .Add (.list x) (.list y) = if x.length + y.length ≤ lim then some (.lst (x ++ y)) else none := rfl
@[simp] theorem isD_ii {i : Int} : isD .int (.int i) = true := rfl
@[simp] theorem isD_bi {i : Int} : isD .bool (.int i) = false := rfl
@[simp] theorem isD_ll {i : List PyData} : isD .list (.list i) = true := rfl
end
end Rb
namespace Rb
open PySem L2
@[simp] theorem outV_rt {r : SV} : outV (.rt r) = r := rfl
@[simp] theorem outV_nx : outV .nx = .dat .none := rfl
def fin (np : Nat) (args : List SV) (p : Out × Sto) : Option (SV × List SV) := if sameAll args p.2 then some (outV p.1, p.2.take np) else none
theorem runF_s {np nv : Nat} {b : MS} {F : FEnv} {args : List SV} : runF np nv b F args = if args.length = np then (b ⟨np, nv, false, F⟩ (args ++ List.replicate (nv - np) .emp)).bind (fin np args) else none := by
  unfold runF fin
  split
  · cases h : b ⟨np, nv, false, F⟩ (args ++ List.replicate (nv - np) .emp) with
    | none => rfl
    | some p => obtain ⟨o, s⟩ := p; cases o <;> rfl
  · rfl
@[simp] theorem fin_rt {np : Nat} {args : List SV} {r : SV} {s : Sto} : fin np args (.rt r, s) = if sameAll args s then some (r, s.take np) else none := rfl
@[simp] theorem fin_nx {np : Nat} {args : List SV} {s : Sto} : fin np args (.nx, s) = if sameAll args s then some (.dat .none, s.take np) else none := rfl
def finM (np nv : Nat) (rest : List SV) (p : Out × Sto) : SV → SV → Option (SV × List SV)
  | .dat d', .lst ds' => if sameAll rest p.2.tail then some (outV p.1, .std d' ds' :: (p.2.take np).tail) else none
  | _, _ => none
@[simp] theorem finM_s {np nv : Nat} {rest : List SV} {p : Out × Sto} {d' : PyData} {ds' : List PyData} : finM np nv rest p (.dat d') (.lst ds') = if sameAll rest p.2.tail then some (outV p.1, .std d' ds' :: (p.2.take np).tail) else none := rfl
theorem runM_s {np nv : Nat} {b : MS} {F : FEnv} {d : PyData} {ds : List PyData} {rest : List SV} : runM np nv b F (.std d ds :: rest) = if rest.length + 1 = np then (b ⟨np, nv, true, F⟩ (.slf :: rest ++ (List.replicate (nv - np) .emp ++ [.dat d, .lst ds]))).bind (fun p => finM np nv rest p (gt p.2 nv) (gt p.2 (nv + 1))) else none := by
  unfold runM finM
  rw [List.length_cons]
  split
  · simp only
    cases h : b ⟨np, nv, true, F⟩ (.slf :: rest ++ (List.replicate (nv - np) .emp ++ [.dat d, .lst ds])) with
    | none => rfl
    | some p => obtain ⟨o, s⟩ := p; rfl
  · rfl
section
variable {α β : Type} {c e : Bool} {s : Sto}
@[simp] theorem cond_bind {a b : Option α} {f : α → Option β} : (bif c then a else b).bind f = bif c then a.bind f else b.bind f := by cases c <;> rfl
@[simp] theorem cond_map {a b : Option α} {f : α → β} : (bif c then a else b).map f = bif c then a.map f else b.map f := by cases c <;> rfl
@[simp] theorem cond_or : (bif c then some (true, s) else some (e, s)) = some (c || e, s) := by cases c <;> rfl
@[simp] theorem cond_and : (bif c then some (e, s) else some (false, s)) = some (c && e, s) := by cases c <;> rfl
@[simp] theorem cond_orE : (bif c then some (SV.dat (.bool true), s) else some (SV.dat (.bool e), s)) = some (SV.dat (.bool (c || e)), s) := by cases c <;> rfl
@[simp] theorem cond_andE : (bif c then some (SV.dat (.bool e), s) else some (SV.dat (.bool false), s)) = some (SV.dat (.bool (c && e)), s) := by cases c <;> rfl
end
end Rb
namespace Rb
open PySem L2
/-- a loop that never ends early -/
theorem forT_all {tg : Tg} {b : MS} {M : En} {P : Sto → Prop} : ∀ {ds : List PyData}, (∀ d ∈ ds, ∀ st, P st → ∃ s1 st', asg tg d M st = some s1 ∧ b M s1 = some (.nx, st') ∧ P st') → ∀ st, P st → ∃ st', forT tg b M ds st = some (.nx, st') ∧ P st'
  | [], _, st, hp => ⟨st, rfl, hp⟩
  | d :: r, h, st, hp => by
    obtain ⟨s1, s2, a1, a2, a3⟩ := h d (by simp) st hp
    obtain ⟨s3, b1, b2⟩ := forT_all (ds := r) (fun x hx => h x (List.mem_cons_of_mem _ hx)) s2 a3
    exact ⟨s3, by rw [forT_cons, a1]; simp only [Option.bind_some]; rw [a2]; simp only [Option.bind_some, sq_nx]; exact b1, b2⟩
/-- .. with what is kept, by the items that were walked -/
theorem forT_inv {α : Type} {enc : α → PyData} {tg : Tg} {b : MS} {M : En} {P : List α → Sto → Prop} : ∀ {xs pre : List α}, (∀ (p : List α) (x : α) (r : List α), pre ++ xs = p ++ x :: r → ∀ st, P p st → ∃ s1 st', asg tg (enc x) M st = some s1 ∧ b M s1 = some (.nx, st') ∧ P (p ++ [x]) st') → ∀ st, P pre st → ∃ st', forT tg b M (xs.map enc) st = some (.nx, st') ∧ P (pre ++ xs) st'
  | [], pre, _, st, hp => ⟨st, rfl, by simpa using hp⟩
  | x :: r, pre, h, st, hp => by
    obtain ⟨s1, s2, a1, a2, a3⟩ := h pre x r rfl st hp
    obtain ⟨s3, b1, b2⟩ := forT_inv (xs := r) (pre := pre ++ [x]) (fun p y q e => h p y q (by simpa using e)) s2 a3
    exact ⟨s3, by rw [List.map_cons, forT_cons, a1]; simp only [Option.bind_some]; rw [a2]; simp only [Option.bind_some, sq_nx]; exact b1, by simpa using b2⟩
theorem lim_le {n m : Nat} (h : n ≤ m) (hm : m ≤ 1000000) : n ≤ lim := by unfold lim; omega
@[simp] theorem lim_val : lim = 1048576 := rfl
end Rb
namespace Rb
open PySem L2
def isSlf : SV → Bool
  | .slf => true
  | _ => false
@[simp] theorem isSlf_slf : isSlf .slf = true := rfl
def sl3 (M : En) (st : Sto) (r : SV) : List SV → Option (SV × Sto)
  | .std d' ds' :: _ => some (r, (st.set M.nv (.dat d')).set (M.nv + 1) (.lst ds'))
  | _ => none
@[simp] theorem sl3_s {M : En} {st : Sto} {r : SV} {d : PyData} {ds : List PyData} {rest : List SV} : sl3 M st r (.std d ds :: rest) = some (r, (st.set M.nv (.dat d)).set (M.nv + 1) (.lst ds)) := rfl
def sl2 (M : En) (g : Str) (st : Sto) (ps : List Pd) (ss : List SV) : SV → SV → Option (SV × Sto)
  | .dat d, .lst ds => if (ownIx st ps).isEmpty then (M.F g (.std d ds :: ss)).bind fun q => sl3 M st q.1 q.2 else none
  | _, _ => none
@[simp] theorem sl2_s {M : En} {g : Str} {st : Sto} {ps : List Pd} {ss : List SV} {d : PyData} {ds : List PyData} : sl2 M g st ps ss (.dat d) (.lst ds) = if (ownIx st ps).isEmpty then (M.F g (.std d ds :: ss)).bind fun q => sl3 M st q.1 q.2 else none := rfl
@[simp] theorem slfE_g {M : En} {st : Sto} {g : Str} {as : MA} : slfE g as M st = bif isSlf (gt st 0) then ((as M st).bind fun p => bif isSlf (gt p.2 0) then ((argsOf M p.2 p.1).bind fun ss => sl2 M g p.2 p.1 ss (gt p.2 M.nv) (gt p.2 (M.nv + 1))) else none) else none := by
  unfold slfE isSlf
  cases gt st 0 <;> try rfl
  simp only [cond_true]
  cases as M st with
  | none => rfl
  | some p =>
    simp only [Option.bind_some]
    cases h0 : gt p.2 0 <;> try rfl
    simp only [cond_true]
    cases h1 : argsOf M p.2 p.1 with
    | none =>
      simp only [Option.bind_none]
      cases gt p.2 M.nv <;> cases gt p.2 (M.nv + 1) <;> rfl
    | some ss =>
      simp only [Option.bind_some]
      cases gt p.2 M.nv <;> cases gt p.2 (M.nv + 1) <;> try rfl
      rename_i d ds
      simp only [sl2_s]
      split
      · cases h : M.F g (.std d ds :: ss) with
        | none => rfl
        | some q =>
          obtain ⟨r, l⟩ := q
          simp only [Option.bind_some]
          cases l with
          | nil => rfl
          | cons a b => cases a <;> rfl
      · rfl
end Rb
namespace Rb54
open PySem L2 PyProof.Rows Rb
def top (i : Nat) : Stmt := PySem.Challenge.pw_ringbase_k54_taken_back.main.body.getD i (.Pass ⟨0, 0, 0, 0⟩)
def tb : Tb := ⟨[("MOST_POINTS", .int 10), ("MOST_TIES", .int 24), ("LONGEST", .int 1000000000000000000000000000000)], ["good_tie", "made_web", "_law_cell", "_law_turn", "_law_whole", "_law_near", "_law_made", "_law_can", "_law_shown", "_law_go", "_law_back", "law"], [("web_with", "Standing.web_with"), ("put", "Standing.put"), ("drop", "Standing.drop"), ("back", "Standing.back"), ("names", "Standing.names"), ("web_now", "Standing.web_now"), ("deeds", "Standing.deeds")], [("Standing", "Standing")]⟩
def ir_good_tie : IS := (.seq (.ife (.or (.cmp .NotEq (.ex (.blt .len (.cons (.pl (.sl 1)) .nil))) (.ex (.cst (.int 3)))) (.or (.cmp .Eq (.ex (.ix (.pl (.sl 1)) (.ex (.cst (.int 0))))) (.ex (.ix (.pl (.sl 1)) (.ex (.cst (.int 1)))))) (.or (.cmp .Lt (.ex (.ix (.pl (.sl 1)) (.ex (.cst (.int 2))))) (.ex (.cst (.int 1)))) (.cmp .Gt (.ex (.ix (.pl (.sl 1)) (.ex (.cst (.int 2))))) (.ex (.cst (.int 1000000000000000000000000000000))))))) (.seq (.ret (.cst (.bl false))) .nil) .nil) (.seq (.ret (.and (.chn .LtE .Lt (.cst (.int 0)) (.ix (.pl (.sl 1)) (.ex (.cst (.int 0)))) (.var (.sl 0))) (.chn .LtE .Lt (.cst (.int 0)) (.ix (.pl (.sl 1)) (.ex (.cst (.int 1)))) (.var (.sl 0))))) .nil))
def ir_made_web : IS := (.seq (.ife (.or (.cmp .Lt (.pl (.sl 0)) (.ex (.cst (.int 1)))) (.or (.cmp .Gt (.pl (.sl 0)) (.ex (.cst (.int 10)))) (.cmp .Gt (.ex (.blt .len (.cons (.pl (.sl 1)) .nil))) (.ex (.cst (.int 24)))))) (.seq .never .nil) .nil) (.seq (.for (.nm 2) (.ov (.var (.sl 1))) (.seq (.ife (.not (.val (.call "good_tie" (.cons (.pl (.sl 0)) (.cons (.pl (.sl 2)) .nil))))) (.seq .never .nil) .nil) .nil)) (.seq (.ret (.tup (.cons (.var (.sl 0)) (.cons (.blt .tuple (.cons (.ex (.lc (.nm 2) [2] (.ov (.var (.sl 1))) .yes (.blt .tuple (.cons (.pl (.sl 2)) .nil)))) .nil)) .nil)))) .nil)))
def ir_Standing_web_with : IS := (.seq (.ret (.call "made_web" (.cons (.pl .fp) (.cons (.ex (.lc (.tp (.cons (.nm 2) (.cons (.nm 3) .nil))) [2, 3] (.ov (.var (.sl 1))) .yes (.var (.sl 3)))) .nil)))) .nil)
def ir_Standing_put : IS := (.seq (.des (.tp (.cons (.nm 5) (.cons (.nm 6) .nil))) (.ix (.pl .fs) (.ex (.neg (.cst (.int 1)))))) (.seq (.set 4 (.bin .Add (.pl (.sl 6)) (.ex (.tup (.cons (.tup (.cons (.var (.sl 5)) (.cons (.tup (.cons (.var (.sl 1)) (.cons (.var (.sl 2)) (.cons (.var (.sl 3)) .nil)))) .nil))) .nil))))) (.seq (.seq (.exp (.slf "web_with" "Standing.web_with" (.cons (.pl (.sl 4)) .nil))) .nil) (.seq (.exp (.app .fs (.tup (.cons (.bin .Add (.pl (.sl 5)) (.ex (.cst (.int 1)))) (.cons (.var (.sl 4)) .nil))))) (.seq (.retV 5) .nil)))))
def ir_Standing_drop : IS := (.seq (.des (.tp (.cons (.nm 3) (.cons (.nm 4) .nil))) (.ix (.pl .fs) (.ex (.neg (.cst (.int 1)))))) (.seq (.set 2 (.blt .tuple (.cons (.ex (.lc (.nm 5) [5] (.ov (.var (.sl 4))) (.cmp .NotEq (.ex (.ix (.pl (.sl 5)) (.ex (.cst (.int 0))))) (.pl (.sl 1))) (.var (.sl 5)))) .nil))) (.seq (.ife (.cmp .Eq (.ex (.blt .len (.cons (.pl (.sl 2)) .nil))) (.ex (.blt .len (.cons (.pl (.sl 4)) .nil)))) (.seq .never .nil) .nil) (.seq (.exp (.app .fs (.tup (.cons (.var (.sl 3)) (.cons (.var (.sl 2)) .nil))))) .nil))))
def ir_Standing_back : IS := (.seq (.ife (.cmp .Eq (.ex (.blt .len (.cons (.pl .fs) .nil))) (.ex (.cst (.int 1)))) (.seq .never .nil) .nil) (.seq (.exp (.pop .fs)) .nil))
def ir_Standing_names : IS := (.seq (.ret (.lc (.tp (.cons (.nm 1) (.cons (.nm 2) .nil))) [1, 2] (.ov (.ix (.ex (.ix (.pl .fs) (.ex (.neg (.cst (.int 1)))))) (.ex (.cst (.int 1))))) .yes (.var (.sl 1)))) .nil)
def ir_Standing_web_now : IS := (.seq (.ret (.slf "web_with" "Standing.web_with" (.cons (.ex (.ix (.ex (.ix (.pl .fs) (.ex (.neg (.cst (.int 1)))))) (.ex (.cst (.int 1))))) .nil))) .nil)
def ir_Standing_deeds : IS := (.seq (.ret (.bin .Sub (.ex (.blt .len (.cons (.pl .fs) .nil))) (.ex (.cst (.int 1))))) .nil)
def ir__law_cell : IS := (.seq (.ife (.cmp .Lt (.pl (.sl 1)) (.ex (.blt .len (.cons (.pl (.sl 0)) .nil)))) (.seq (.ret (.ix (.pl (.sl 0)) (.pl (.sl 1)))) .nil) .nil) (.seq (.ret (.cst (.int 0))) .nil))
def ir__law_turn : IS := (.seq (.set 1 (.bin .Mod (.ex (.bin .Mult (.ex (.bin .Add (.ex (.bin .Mod (.pl (.sl 0)) (.ex (.bin .Pow (.ex (.cst (.int 10))) (.ex (.cst (.int 60))))))) (.ex (.cst (.int 1))))) (.ex (.cst (.int 69621))))) (.ex (.cst (.int 2147483647))))) (.seq (.ret (.bin .FloorDiv (.ex (.bin .Mod (.ex (.bin .Mult (.pl (.sl 1)) (.pl (.sl 1)))) (.ex (.cst (.int 1000000007))))) (.ex (.cst (.int 7))))) .nil))
def ir__law_whole : IS := (.seq (.ret (.and (.isi .int (.pl (.sl 0))) (.not (.isi .bool (.pl (.sl 0)))))) .nil)
def ir__law_near : IS := (.seq (.set 2 (.bin .FloorDiv (.pl (.sl 0)) (.ex (.cst (.int 4))))) (.seq (.ife (.cmp .Eq (.ex (.bin .Mod (.pl (.sl 0)) (.ex (.cst (.int 3))))) (.ex (.cst (.int 1)))) (.seq (.set 2 (.bin .Add (.ex (.bin .Mult (.ex (.call "_law_turn" (.cons (.pl (.sl 0)) .nil))) (.ex (.cst (.int 1000003))))) (.ex (.call "_law_turn" (.cons (.ex (.bin .Add (.pl (.sl 0)) (.ex (.cst (.int 1))))) .nil))))) .nil) .nil) (.seq (.set 3 (.bin .Mod (.pl (.sl 2)) (.pl (.sl 1)))) (.seq (.set 4 (.bin .Mod (.ex (.bin .Add (.ex (.bin .Add (.pl (.sl 3)) (.ex (.cst (.int 1))))) (.ex (.bin .Mod (.ex (.bin .FloorDiv (.pl (.sl 2)) (.pl (.sl 1)))) (.ex (.blt .max2 (.cons (.ex (.cst (.int 1))) (.cons (.ex (.bin .Sub (.pl (.sl 1)) (.ex (.cst (.int 1))))) .nil)))))))) (.pl (.sl 1)))) (.seq (.set 2 (.bin .FloorDiv (.ex (.bin .FloorDiv (.pl (.sl 2)) (.pl (.sl 1)))) (.ex (.blt .max2 (.cons (.ex (.cst (.int 1))) (.cons (.ex (.bin .Sub (.pl (.sl 1)) (.ex (.cst (.int 1))))) .nil)))))) (.seq (.ret (.tup (.cons (.var (.sl 3)) (.cons (.var (.sl 4)) (.cons (.bin .Add (.ex (.cst (.int 1))) (.ex (.bin .Mod (.pl (.sl 2)) (.ex (.ix (.ex (.lst (.cons (.cst (.int 9)) (.cons (.cst (.int 1)) (.cons (.bin .Pow (.ex (.cst (.int 10))) (.ex (.cst (.int 30)))) .nil))))) (.ex (.bin .Mod (.ex (.bin .FloorDiv (.pl (.sl 2)) (.ex (.cst (.int 7))))) (.ex (.cst (.int 3)))))))))) .nil))))) .nil))))))
def ir__law_made : IS := (.seq (.ret (.blt .tuple (.cons (.ex (.lc (.nm 1) [1] (.ov (.blt .sorted (.cons (.pl (.sl 0)) .nil))) .yes (.ix (.pl (.sl 0)) (.pl (.sl 1))))) .nil))) .nil)
def ir__law_can : IS := (.seq (.ife (.or (.cmp .Lt (.ex (.ix (.pl (.sl 2)) (.ex (.cst (.int 0))))) (.ex (.cst (.int 0)))) (.or (.cmp .GtE (.ex (.ix (.pl (.sl 2)) (.ex (.cst (.int 0))))) (.pl (.sl 0))) (.or (.cmp .Lt (.ex (.ix (.pl (.sl 2)) (.ex (.cst (.int 1))))) (.ex (.cst (.int 0)))) (.or (.cmp .GtE (.ex (.ix (.pl (.sl 2)) (.ex (.cst (.int 1))))) (.pl (.sl 0))) (.cmp .Eq (.ex (.ix (.pl (.sl 2)) (.ex (.cst (.int 0))))) (.ex (.ix (.pl (.sl 2)) (.ex (.cst (.int 1)))))))))) (.seq (.ret (.cst (.bl false))) .nil) .nil) (.seq (.ret (.and (.chn .LtE .LtE (.cst (.int 1)) (.ix (.pl (.sl 2)) (.ex (.cst (.int 2)))) (.bin .Pow (.ex (.cst (.int 10))) (.ex (.cst (.int 30))))) (.cmp .Lt (.ex (.blt .len (.cons (.pl (.sl 1)) .nil))) (.ex (.cst (.int 24)))))) .nil))
def ir__law_shown : IS := (.seq (.ife (.or (.cmp .NotEq (.ex (.meth 0 "web_now" "Standing.web_now" .nil)) (.ex (.tup (.cons (.var (.sl 1)) (.cons (.call "_law_made" (.cons (.pl (.sl 2)) .nil)) .nil))))) (.cmp .NotEq (.ex (.meth 0 "deeds" "Standing.deeds" .nil)) (.pl (.sl 3)))) (.seq (.ret (.cst (.bl false))) .nil) .nil) (.seq (.set 4 (.meth 0 "names" "Standing.names" .nil)) (.seq (.ife (.or (.not (.val (.isi .list (.pl (.sl 4))))) (.cmp .NotEq (.pl (.sl 4)) (.ex (.blt .sorted (.cons (.pl (.sl 2)) .nil))))) (.seq (.ret (.cst (.bl false))) .nil) .nil) (.seq (.ret (.cmp .Eq (.ex (.blt .len (.cons (.ex (.lc (.nm 5) [5] (.ov (.var (.sl 4))) (.not (.val (.call "_law_whole" (.cons (.pl (.sl 5)) .nil)))) (.var (.sl 5)))) .nil))) (.ex (.cst (.int 0))))) .nil))))
def ir__law_go : IS := (.seq (.des (.tp (.cons (.nm 6) (.cons (.nm 7) .nil))) (.ix (.pl (.sl 2)) (.ex (.neg (.cst (.int 1)))))) (.seq (.set 4 (.call "_law_near" (.cons (.pl (.sl 3)) (.cons (.pl (.sl 1)) .nil)))) (.seq (.ife (.and (.cmp .Eq (.ex (.bin .Mod (.ex (.call "_law_turn" (.cons (.pl (.sl 3)) .nil))) (.ex (.cst (.int 3))))) (.ex (.cst (.int 1)))) (.cmp .Gt (.ex (.blt .len (.cons (.pl (.sl 7)) .nil))) (.ex (.cst (.int 0))))) (.seq (.set 8 (.ix (.ex (.blt .sorted (.cons (.pl (.sl 7)) .nil))) (.ex (.bin .Mod (.ex (.bin .FloorDiv (.ex (.call "_law_turn" (.cons (.pl (.sl 3)) .nil))) (.ex (.cst (.int 3))))) (.ex (.blt .len (.cons (.pl (.sl 7)) .nil))))))) (.seq (.set 9 (.blt .dict (.cons (.pl (.sl 7)) .nil))) (.seq (.exp (.popK (.sl 9) (.var (.sl 8)))) (.seq (.exp (.app (.sl 2) (.tup (.cons (.var (.sl 6)) (.cons (.var (.sl 9)) .nil))))) (.seq (.exp (.meth 0 "drop" "Standing.drop" (.cons (.pl (.sl 8)) .nil))) (.seq (.ret (.cst (.bl true))) .nil)))))) .nil) (.seq (.ife (.not (.val (.call "_law_can" (.cons (.pl (.sl 1)) (.cons (.pl (.sl 7)) (.cons (.pl (.sl 4)) .nil)))))) (.seq (.ret (.cst (.bl true))) .nil) .nil) (.seq (.set 5 (.blt .dict (.cons (.pl (.sl 7)) .nil))) (.seq (.setIx (.sl 5) (.var (.sl 6)) (.var (.sl 4))) (.seq (.exp (.app (.sl 2) (.tup (.cons (.bin .Add (.pl (.sl 6)) (.ex (.cst (.int 1)))) (.cons (.var (.sl 5)) .nil))))) (.seq (.ret (.cmp .Eq (.ex (.meth 0 "put" "Standing.put" (.cons (.ex (.ix (.pl (.sl 4)) (.ex (.cst (.int 0))))) (.cons (.ex (.ix (.pl (.sl 4)) (.ex (.cst (.int 1))))) (.cons (.ex (.ix (.pl (.sl 4)) (.ex (.cst (.int 2))))) .nil))))) (.pl (.sl 6)))) .nil))))))))
def ir__law_back : IS := (.seq (.exp (.pop (.sl 2))) (.seq (.ife (.or (.cmp .IsNot (.ex (.meth 0 "back" "Standing.back" .nil)) (.ex (.cst .non))) (.not (.val (.call "_law_shown" (.cons (.pl (.sl 0)) (.cons (.pl (.sl 1)) (.cons (.ex (.ix (.ex (.ix (.pl (.sl 2)) (.ex (.neg (.cst (.int 1)))))) (.ex (.cst (.int 1))))) (.cons (.ex (.bin .Sub (.ex (.blt .len (.cons (.pl (.sl 2)) .nil))) (.ex (.cst (.int 1))))) .nil)))))))) (.seq (.ret (.cst (.bl false))) .nil) .nil) (.seq (.ife (.cmp .Gt (.ex (.blt .len (.cons (.ex (.ix (.ex (.ix (.pl (.sl 2)) (.ex (.neg (.cst (.int 1)))))) (.ex (.cst (.int 1))))) .nil))) (.ex (.cst (.int 23)))) (.seq (.ret (.cst (.bl true))) .nil) .nil) (.seq (.ife (.cmp .NotEq (.ex (.meth 0 "put" "Standing.put" (.cons (.ex (.cst (.int 0))) (.cons (.ex (.cst (.int 1))) (.cons (.ex (.cst (.int 7))) .nil))))) (.ex (.ix (.ex (.ix (.pl (.sl 2)) (.ex (.neg (.cst (.int 1)))))) (.ex (.cst (.int 0)))))) (.seq (.ret (.cst (.bl false))) .nil) .nil) (.seq (.exp (.meth 0 "back" "Standing.back" .nil)) (.seq (.ret (.call "_law_shown" (.cons (.pl (.sl 0)) (.cons (.pl (.sl 1)) (.cons (.ex (.ix (.ex (.ix (.pl (.sl 2)) (.ex (.neg (.cst (.int 1)))))) (.ex (.cst (.int 1))))) (.cons (.ex (.bin .Sub (.ex (.blt .len (.cons (.pl (.sl 2)) .nil))) (.ex (.cst (.int 1))))) .nil)))))) .nil))))))
def ir_law : IS := (.seq (.set 1 (.ix (.ex (.lst (.cons (.cst (.int 2)) (.cons (.cst (.int 2)) (.cons (.cst (.int 3)) (.cons (.cst (.int 4)) (.cons (.cst (.int 5)) (.cons (.cst (.int 6)) (.cons (.cst (.int 4)) (.cons (.cst (.int 10)) .nil)))))))))) (.ex (.bin .Mod (.ex (.call "_law_cell" (.cons (.pl (.sl 0)) (.cons (.ex (.cst (.int 0))) .nil)))) (.ex (.cst (.int 8))))))) (.seq (.set 2 (.mk "Standing" (.cons (.var (.sl 1)) .nil))) (.seq (.set 3 (.lst (.cons (.tup (.cons (.cst (.int 0)) (.cons .dic .nil))) .nil))) (.seq (.for (.nm 4) (.ov (.slc (.pl (.sl 0)) (.some (.cst (.int 1))) (.some (.cst (.int 31))))) (.seq (.ife (.not (.val (.call "_law_go" (.cons (.pl (.sl 2)) (.cons (.pl (.sl 1)) (.cons (.pl (.sl 3)) (.cons (.pl (.sl 4)) .nil))))))) (.seq (.ret (.cst (.bl false))) .nil) .nil) .nil)) (.seq (.for (.nm 4) (.ov (.slc (.pl (.sl 0)) (.some (.cst (.int 1))) (.some (.cst (.int 31))))) (.seq (.ife (.and (.cmp .Gt (.ex (.blt .len (.cons (.pl (.sl 3)) .nil))) (.ex (.cst (.int 1)))) (.not (.val (.call "_law_back" (.cons (.pl (.sl 2)) (.cons (.pl (.sl 1)) (.cons (.pl (.sl 3)) .nil))))))) (.seq (.ret (.cst (.bl false))) .nil) .nil) (.seq (.ife (.and (.cmp .Eq (.ex (.bin .Mod (.ex (.call "_law_turn" (.cons (.pl (.sl 4)) .nil))) (.ex (.cst (.int 7))))) (.ex (.cst (.int 2)))) (.not (.val (.call "_law_go" (.cons (.pl (.sl 2)) (.cons (.pl (.sl 1)) (.cons (.pl (.sl 3)) (.cons (.ex (.bin .Add (.pl (.sl 4)) (.ex (.cst (.int 1))))) .nil)))))))) (.seq (.ret (.cst (.bl false))) .nil) .nil) .nil))) (.seq (.whl (.cmp .Gt (.ex (.blt .len (.cons (.pl (.sl 3)) .nil))) (.ex (.cst (.int 1)))) (.seq (.ife (.not (.val (.call "_law_back" (.cons (.pl (.sl 2)) (.cons (.pl (.sl 1)) (.cons (.pl (.sl 3)) .nil)))))) (.seq (.ret (.cst (.bl false))) .nil) .nil) .nil)) (.seq (.ret (.and (.cmp .Eq (.ex (.meth 2 "web_now" "Standing.web_now" .nil)) (.ex (.tup (.cons (.var (.sl 1)) (.cons (.tup .nil) .nil))))) (.and (.cmp .Eq (.ex (.meth 2 "names" "Standing.names" .nil)) (.ex (.lst .nil))) (.cmp .Eq (.ex (.meth 2 "deeds" "Standing.deeds" .nil)) (.ex (.cst (.int 0))))))) .nil)))))))
def d_good_tie : Df := ⟨"good_tie", ("good_tie", none), "good_tie", "good_tie", (top 9), ["points", "tie"], ["points", "tie"], false, ir_good_tie⟩
def d_made_web : Df := ⟨"made_web", ("made_web", none), "made_web", "made_web", (top 10), ["points", "ties"], ["points", "ties", "tie"], false, ir_made_web⟩
def d_Standing_web_with : Df := ⟨"Standing.web_with", ("Standing", some "web_with"), "web_with", "Standing.web_with", (inClass (top 12) 1), ["self", "held"], ["self", "held", "name", "tie"], true, ir_Standing_web_with⟩
def d_Standing_put : Df := ⟨"Standing.put", ("Standing", some "put"), "put", "Standing.put", (inClass (top 12) 2), ["self", "one", "other", "length"], ["self", "one", "other", "length", "made", "name", "held"], true, ir_Standing_put⟩
def d_Standing_drop : Df := ⟨"Standing.drop", ("Standing", some "drop"), "drop", "Standing.drop", (inClass (top 12) 3), ["self", "name"], ["self", "name", "left", "following", "held", "pair"], true, ir_Standing_drop⟩
def d_Standing_back : Df := ⟨"Standing.back", ("Standing", some "back"), "back", "Standing.back", (inClass (top 12) 4), ["self"], ["self"], true, ir_Standing_back⟩
def d_Standing_names : Df := ⟨"Standing.names", ("Standing", some "names"), "names", "Standing.names", (inClass (top 12) 5), ["self"], ["self", "name", "tie"], true, ir_Standing_names⟩
def d_Standing_web_now : Df := ⟨"Standing.web_now", ("Standing", some "web_now"), "web_now", "Standing.web_now", (inClass (top 12) 6), ["self"], ["self"], true, ir_Standing_web_now⟩
def d_Standing_deeds : Df := ⟨"Standing.deeds", ("Standing", some "deeds"), "deeds", "Standing.deeds", (inClass (top 12) 9), ["self"], ["self"], true, ir_Standing_deeds⟩
def d__law_cell : Df := ⟨"_law_cell", ("_law_cell", none), "_law_cell", "_law_cell", (top 14), ["script", "k"], ["script", "k"], false, ir__law_cell⟩
def d__law_turn : Df := ⟨"_law_turn", ("_law_turn", none), "_law_turn", "_law_turn", (top 15), ["cell"], ["cell", "stir"], false, ir__law_turn⟩
def d__law_whole : Df := ⟨"_law_whole", ("_law_whole", none), "_law_whole", "_law_whole", (top 16), ["found"], ["found"], false, ir__law_whole⟩
def d__law_near : Df := ⟨"_law_near", ("_law_near", none), "_law_near", "_law_near", (top 17), ["cell", "points"], ["cell", "points", "number", "one", "other"], false, ir__law_near⟩
def d__law_made : Df := ⟨"_law_made", ("_law_made", none), "_law_made", "_law_made", (top 18), ["held"], ["held", "name"], false, ir__law_made⟩
def d__law_can : Df := ⟨"_law_can", ("_law_can", none), "_law_can", "_law_can", (top 19), ["points", "held", "tie"], ["points", "held", "tie"], false, ir__law_can⟩
def d__law_shown : Df := ⟨"_law_shown", ("_law_shown", none), "_law_shown", "_law_shown", (top 20), ["standing", "points", "held", "many"], ["standing", "points", "held", "many", "found", "name"], false, ir__law_shown⟩
def d__law_go : Df := ⟨"_law_go", ("_law_go", none), "_law_go", "_law_go", (top 21), ["standing", "points", "rows", "cell"], ["standing", "points", "rows", "cell", "tie", "more", "fresh", "held", "name", "left"], false, ir__law_go⟩
def d__law_back : Df := ⟨"_law_back", ("_law_back", none), "_law_back", "_law_back", (top 22), ["standing", "points", "rows"], ["standing", "points", "rows"], false, ir__law_back⟩
def d_law : Df := ⟨"law", ("law", none), "law", "law", (top 23), ["script"], ["script", "points", "standing", "rows", "cell"], false, ir_law⟩
def dfs : List Df := [d_good_tie, d_made_web, d_Standing_web_with, d_Standing_put, d_Standing_drop, d_Standing_back, d_Standing_names, d_Standing_web_now, d_Standing_deeds, d__law_cell, d__law_turn, d__law_whole, d__law_near, d__law_made, d__law_can, d__law_shown, d__law_go, d__law_back, d_law]
theorem ok_good_tie : DfOk tb d_good_tie := ⟨⟨rfl, rfl, rfl, by decide +kernel, rfl, by decide +kernel, by decide +kernel⟩, by kernel_rfl, fun _ _ _ _ _ _ us hl => match us, hl with | [_, _], _ => rfl⟩
theorem ok_made_web : DfOk tb d_made_web := ⟨⟨rfl, rfl, rfl, by decide +kernel, rfl, by decide +kernel, by decide +kernel⟩, by kernel_rfl, fun _ _ _ _ _ _ us hl => match us, hl with | [_, _], _ => rfl⟩
theorem ok_Standing_web_with : DfOk tb d_Standing_web_with := ⟨⟨rfl, rfl, rfl, by decide +kernel, rfl, by decide +kernel, by decide +kernel⟩, by kernel_rfl, fun _ _ _ _ _ _ us hl => match us, hl with | [_, _], _ => rfl⟩
theorem ok_Standing_put : DfOk tb d_Standing_put := ⟨⟨rfl, rfl, rfl, by decide +kernel, rfl, by decide +kernel, by decide +kernel⟩, by kernel_rfl, fun _ _ _ _ _ _ us hl => match us, hl with | [_, _, _, _], _ => rfl⟩
theorem ok_Standing_drop : DfOk tb d_Standing_drop := ⟨⟨rfl, rfl, rfl, by decide +kernel, rfl, by decide +kernel, by decide +kernel⟩, by kernel_rfl, fun _ _ _ _ _ _ us hl => match us, hl with | [_, _], _ => rfl⟩
theorem ok_Standing_back : DfOk tb d_Standing_back := ⟨⟨rfl, rfl, rfl, by decide +kernel, rfl, by decide +kernel, by decide +kernel⟩, by kernel_rfl, fun _ _ _ _ _ _ us hl => match us, hl with | [_], _ => rfl⟩
theorem ok_Standing_names : DfOk tb d_Standing_names := ⟨⟨rfl, rfl, rfl, by decide +kernel, rfl, by decide +kernel, by decide +kernel⟩, by kernel_rfl, fun _ _ _ _ _ _ us hl => match us, hl with | [_], _ => rfl⟩
theorem ok_Standing_web_now : DfOk tb d_Standing_web_now := ⟨⟨rfl, rfl, rfl, by decide +kernel, rfl, by decide +kernel, by decide +kernel⟩, by kernel_rfl, fun _ _ _ _ _ _ us hl => match us, hl with | [_], _ => rfl⟩
theorem ok_Standing_deeds : DfOk tb d_Standing_deeds := ⟨⟨rfl, rfl, rfl, by decide +kernel, rfl, by decide +kernel, by decide +kernel⟩, by kernel_rfl, fun _ _ _ _ _ _ us hl => match us, hl with | [_], _ => rfl⟩
theorem ok__law_cell : DfOk tb d__law_cell := ⟨⟨rfl, rfl, rfl, by decide +kernel, rfl, by decide +kernel, by decide +kernel⟩, by kernel_rfl, fun _ _ _ _ _ _ us hl => match us, hl with | [_, _], _ => rfl⟩
theorem ok__law_turn : DfOk tb d__law_turn := ⟨⟨rfl, rfl, rfl, by decide +kernel, rfl, by decide +kernel, by decide +kernel⟩, by kernel_rfl, fun _ _ _ _ _ _ us hl => match us, hl with | [_], _ => rfl⟩
theorem ok__law_whole : DfOk tb d__law_whole := ⟨⟨rfl, rfl, rfl, by decide +kernel, rfl, by decide +kernel, by decide +kernel⟩, by kernel_rfl, fun _ _ _ _ _ _ us hl => match us, hl with | [_], _ => rfl⟩
theorem ok__law_near : DfOk tb d__law_near := ⟨⟨rfl, rfl, rfl, by decide +kernel, rfl, by decide +kernel, by decide +kernel⟩, by kernel_rfl, fun _ _ _ _ _ _ us hl => match us, hl with | [_, _], _ => rfl⟩
theorem ok__law_made : DfOk tb d__law_made := ⟨⟨rfl, rfl, rfl, by decide +kernel, rfl, by decide +kernel, by decide +kernel⟩, by kernel_rfl, fun _ _ _ _ _ _ us hl => match us, hl with | [_], _ => rfl⟩
theorem ok__law_can : DfOk tb d__law_can := ⟨⟨rfl, rfl, rfl, by decide +kernel, rfl, by decide +kernel, by decide +kernel⟩, by kernel_rfl, fun _ _ _ _ _ _ us hl => match us, hl with | [_, _, _], _ => rfl⟩
theorem ok__law_shown : DfOk tb d__law_shown := ⟨⟨rfl, rfl, rfl, by decide +kernel, rfl, by decide +kernel, by decide +kernel⟩, by kernel_rfl, fun _ _ _ _ _ _ us hl => match us, hl with | [_, _, _, _], _ => rfl⟩
theorem ok__law_go : DfOk tb d__law_go := ⟨⟨rfl, rfl, rfl, by decide +kernel, rfl, by decide +kernel, by decide +kernel⟩, by kernel_rfl, fun _ _ _ _ _ _ us hl => match us, hl with | [_, _, _, _], _ => rfl⟩
theorem ok__law_back : DfOk tb d__law_back := ⟨⟨rfl, rfl, rfl, by decide +kernel, rfl, by decide +kernel, by decide +kernel⟩, by kernel_rfl, fun _ _ _ _ _ _ us hl => match us, hl with | [_, _, _], _ => rfl⟩
theorem ok_law : DfOk tb d_law := ⟨⟨rfl, rfl, rfl, by decide +kernel, rfl, by decide +kernel, by decide +kernel⟩, by kernel_rfl, fun _ _ _ _ _ _ us hl => match us, hl with | [_], _ => rfl⟩
def fa : List He.Fa := [.glo "good_tie", .glo "made_web", .glo "_law_cell", .glo "_law_turn", .glo "_law_whole", .glo "_law_near", .glo "_law_made", .glo "_law_can", .glo "_law_shown", .glo "_law_go", .glo "_law_back", .glo "law", .meth "Standing" "web_with", .meth "Standing" "put", .meth "Standing" "drop", .meth "Standing" "back", .meth "Standing" "names", .meth "Standing" "web_now", .meth "Standing" "deeds", .int "MOST_POINTS" 10, .int "MOST_TIES" 24, .int "LONGEST" 1000000000000000000000000000000, .free "len", .free "sum", .free "sorted", .free "abs", .free "str", .free "int", .free "tuple", .free "list", .free "dict", .free "min", .free "max", .free "isinstance", .free "bool", .free "range", .free "enumerate", .cls "Standing", .noat "Standing" sPoints, .noat "Standing" sStates, .mkr "Standing", .glo "Standing"]
abbrev sIni : Stmt := (inClass (top 12) 0)
def dIni : He.DefD := ⟨("Standing", some "__init__"), "__init__", "Standing.__init__", defArgs sIni, defBody sIni, defScope sIni, [], []⟩
theorem iniSt : IniSt tb sIni := ⟨⟨rfl, rfl, rfl, by decide +kernel, rfl, by decide +kernel, by decide +kernel⟩, by kernel_rfl, by kernel_rfl, by kernel_rfl, by decide +kernel, fun _ _ _ _ _ _ us hl => match us, hl with | [_, _], _ => rfl, ⟨_, _, _, _, _, _, _, _, _, _, _, _, _, _, _, _, _, _, _, rfl⟩⟩
def fn : List He.DefD := [d_good_tie.dd, d_made_web.dd, d_Standing_web_with.dd, d_Standing_put.dd, d_Standing_drop.dd, d_Standing_back.dd, d_Standing_names.dd, d_Standing_web_now.dd, d_Standing_deeds.dd, d__law_cell.dd, d__law_turn.dd, d__law_whole.dd, d__law_near.dd, d__law_made.dd, d__law_can.dd, d__law_shown.dd, d__law_go.dd, d__law_back.dd, d_law.dd, dIni]
theorem txt : Txt tb dfs fa fn := by
  refine ⟨?_, ?_, ?_, ?_, ?_, ?_, ?_⟩
  · intro d hd
    simp only [dfs, List.mem_cons, List.not_mem_nil, or_false] at hd
    rcases hd with rfl | rfl | rfl | rfl | rfl | rfl | rfl | rfl | rfl | rfl | rfl | rfl | rfl | rfl | rfl | rfl | rfl | rfl | rfl
    · exact ⟨ok_good_tie, List.mem_of_getElem? (i := 0) rfl⟩
    · exact ⟨ok_made_web, List.mem_of_getElem? (i := 1) rfl⟩
    · exact ⟨ok_Standing_web_with, List.mem_of_getElem? (i := 2) rfl⟩
    · exact ⟨ok_Standing_put, List.mem_of_getElem? (i := 3) rfl⟩
    · exact ⟨ok_Standing_drop, List.mem_of_getElem? (i := 4) rfl⟩
    · exact ⟨ok_Standing_back, List.mem_of_getElem? (i := 5) rfl⟩
    · exact ⟨ok_Standing_names, List.mem_of_getElem? (i := 6) rfl⟩
    · exact ⟨ok_Standing_web_now, List.mem_of_getElem? (i := 7) rfl⟩
    · exact ⟨ok_Standing_deeds, List.mem_of_getElem? (i := 8) rfl⟩
    · exact ⟨ok__law_cell, List.mem_of_getElem? (i := 9) rfl⟩
    · exact ⟨ok__law_turn, List.mem_of_getElem? (i := 10) rfl⟩
    · exact ⟨ok__law_whole, List.mem_of_getElem? (i := 11) rfl⟩
    · exact ⟨ok__law_near, List.mem_of_getElem? (i := 12) rfl⟩
    · exact ⟨ok__law_made, List.mem_of_getElem? (i := 13) rfl⟩
    · exact ⟨ok__law_can, List.mem_of_getElem? (i := 14) rfl⟩
    · exact ⟨ok__law_shown, List.mem_of_getElem? (i := 15) rfl⟩
    · exact ⟨ok__law_go, List.mem_of_getElem? (i := 16) rfl⟩
    · exact ⟨ok__law_back, List.mem_of_getElem? (i := 17) rfl⟩
    · exact ⟨ok_law, List.mem_of_getElem? (i := 18) rfl⟩
  · intro g hg
    simp only [tb, List.mem_cons, List.not_mem_nil, or_false] at hg
    rcases hg with rfl | rfl | rfl | rfl | rfl | rfl | rfl | rfl | rfl | rfl | rfl | rfl
    · exact ⟨d_good_tie, by kernel_rfl, rfl, rfl, List.mem_of_getElem? (i := 0) rfl, by decide +kernel, by decide +kernel⟩
    · exact ⟨d_made_web, by kernel_rfl, rfl, rfl, List.mem_of_getElem? (i := 1) rfl, by decide +kernel, by decide +kernel⟩
    · exact ⟨d__law_cell, by kernel_rfl, rfl, rfl, List.mem_of_getElem? (i := 2) rfl, by decide +kernel, by decide +kernel⟩
    · exact ⟨d__law_turn, by kernel_rfl, rfl, rfl, List.mem_of_getElem? (i := 3) rfl, by decide +kernel, by decide +kernel⟩
    · exact ⟨d__law_whole, by kernel_rfl, rfl, rfl, List.mem_of_getElem? (i := 4) rfl, by decide +kernel, by decide +kernel⟩
    · exact ⟨d__law_near, by kernel_rfl, rfl, rfl, List.mem_of_getElem? (i := 5) rfl, by decide +kernel, by decide +kernel⟩
    · exact ⟨d__law_made, by kernel_rfl, rfl, rfl, List.mem_of_getElem? (i := 6) rfl, by decide +kernel, by decide +kernel⟩
    · exact ⟨d__law_can, by kernel_rfl, rfl, rfl, List.mem_of_getElem? (i := 7) rfl, by decide +kernel, by decide +kernel⟩
    · exact ⟨d__law_shown, by kernel_rfl, rfl, rfl, List.mem_of_getElem? (i := 8) rfl, by decide +kernel, by decide +kernel⟩
    · exact ⟨d__law_go, by kernel_rfl, rfl, rfl, List.mem_of_getElem? (i := 9) rfl, by decide +kernel, by decide +kernel⟩
    · exact ⟨d__law_back, by kernel_rfl, rfl, rfl, List.mem_of_getElem? (i := 10) rfl, by decide +kernel, by decide +kernel⟩
    · exact ⟨d_law, by kernel_rfl, rfl, rfl, List.mem_of_getElem? (i := 11) rfl, by decide +kernel, by decide +kernel⟩
  · intro m g hg
    have hm := Rb.mem_of_lookup hg
    simp only [tb, List.mem_cons, List.not_mem_nil, or_false, Prod.mk.injEq] at hm
    rcases hm with ⟨rfl, rfl⟩ | ⟨rfl, rfl⟩ | ⟨rfl, rfl⟩ | ⟨rfl, rfl⟩ | ⟨rfl, rfl⟩ | ⟨rfl, rfl⟩ | ⟨rfl, rfl⟩
    · exact ⟨d_Standing_web_with, by kernel_rfl, rfl, rfl, List.mem_of_getElem? (i := 12) rfl, by decide +kernel, by decide +kernel⟩
    · exact ⟨d_Standing_put, by kernel_rfl, rfl, rfl, List.mem_of_getElem? (i := 13) rfl, by decide +kernel, by decide +kernel⟩
    · exact ⟨d_Standing_drop, by kernel_rfl, rfl, rfl, List.mem_of_getElem? (i := 14) rfl, by decide +kernel, by decide +kernel⟩
    · exact ⟨d_Standing_back, by kernel_rfl, rfl, rfl, List.mem_of_getElem? (i := 15) rfl, by decide +kernel, by decide +kernel⟩
    · exact ⟨d_Standing_names, by kernel_rfl, rfl, rfl, List.mem_of_getElem? (i := 16) rfl, by decide +kernel, by decide +kernel⟩
    · exact ⟨d_Standing_web_now, by kernel_rfl, rfl, rfl, List.mem_of_getElem? (i := 17) rfl, by decide +kernel, by decide +kernel⟩
    · exact ⟨d_Standing_deeds, by kernel_rfl, rfl, rfl, List.mem_of_getElem? (i := 18) rfl, by decide +kernel, by decide +kernel⟩
  · intro x c hc
    have hm := Rb.mem_of_lookup hc
    simp only [tb, List.mem_cons, List.not_mem_nil, or_false, Prod.mk.injEq] at hm
    rcases hm with ⟨rfl, rfl⟩ | ⟨rfl, rfl⟩ | ⟨rfl, rfl⟩
    · exact List.mem_of_getElem? (i := 19) rfl
    · exact List.mem_of_getElem? (i := 20) rfl
    · exact List.mem_of_getElem? (i := 21) rfl
  · intro x hx
    simp only [bltNames, List.mem_cons, List.not_mem_nil, or_false] at hx
    rcases hx with rfl | rfl | rfl | rfl | rfl | rfl | rfl | rfl | rfl | rfl | rfl | rfl | rfl | rfl | rfl
    · exact List.mem_of_getElem? (i := 22) rfl
    · exact List.mem_of_getElem? (i := 23) rfl
    · exact List.mem_of_getElem? (i := 24) rfl
    · exact List.mem_of_getElem? (i := 25) rfl
    · exact List.mem_of_getElem? (i := 26) rfl
    · exact List.mem_of_getElem? (i := 27) rfl
    · exact List.mem_of_getElem? (i := 28) rfl
    · exact List.mem_of_getElem? (i := 29) rfl
    · exact List.mem_of_getElem? (i := 30) rfl
    · exact List.mem_of_getElem? (i := 31) rfl
    · exact List.mem_of_getElem? (i := 32) rfl
    · exact List.mem_of_getElem? (i := 33) rfl
    · exact List.mem_of_getElem? (i := 34) rfl
    · exact List.mem_of_getElem? (i := 35) rfl
    · exact List.mem_of_getElem? (i := 36) rfl
  · exact fun _ => ⟨List.mem_of_getElem? (i := 37) rfl, List.mem_of_getElem? (i := 38) rfl, List.mem_of_getElem? (i := 39) rfl⟩
  · intro x g hg
    have hm := Rb.mem_of_lookup hg
    simp only [tb, List.mem_cons, List.not_mem_nil, or_false, Prod.mk.injEq] at hm
    obtain ⟨rfl, rfl⟩ := hm
    exact ⟨rfl, rfl, by simp [tb], List.mem_of_getElem? (i := 40) rfl, List.mem_of_getElem? (i := 41) rfl, sIni, iniSt, List.mem_of_getElem? (i := 19) rfl⟩
theorem mes : ∀ d ∈ dfs, d.me = true → tb.mts ≠ [] := fun _ _ _ => by simp [tb]
end Rb54
namespace Rb54
open PySem L2 PyProof.Rows Rb
abbrev Tie := Int × Int × Int
def tieD (t : Tie) : PyData := .tuple [.int t.1, .int t.2.1, .int t.2.2]
def longest : Int := 1000000000000000000000000000000
def goodTie (p : Int) (t : Tie) : Bool := !(decide (t.1 = t.2.1) || (decide (t.2.2 < 1) || decide (longest < t.2.2))) && (decide (0 ≤ t.1) && decide (t.1 < p) && (decide (0 ≤ t.2.1) && decide (t.2.1 < p)))
abbrev Held := List (Int × Tie)
def heldD (h : Int × Tie) : PyData := .tuple [.int h.1, tieD h.2]
abbrev Row := Int × Held
def stateD (r : Row) : PyData := .tuple [.int r.1, .tuple (r.2.map heldD)]
def dicD (h : Held) : List (PyData × PyData) := h.map fun x => (.int x.1, tieD x.2)
def rowD (r : Row) : PyData := .tuple [.int r.1, .dict (dicD r.2)]
def webD (p : Int) (ts : List Tie) : PyData := .tuple [.int p, .tuple (ts.map tieD)]
theorem run_good_tie (F : FEnv) (p : Int) (t : Tie) : d_good_tie.run F [.dat (.int p), .dat (tieD t)] = some (.dat (.bool (goodTie p t)), [.dat (.int p), .dat (tieD t)]) := by
  obtain ⟨a, b, c⟩ := t
  simp [Df.run, d_good_tie, ir_good_tie, IS.m, IE.m, IT.m, IO.m, IA.m, Rf.ix, Cs.d, tieD, runF_s, goodTie, longest]
  by_cases h1 : a = b <;> by_cases h2 : c < 1 <;> by_cases h3 : 1000000000000000000000000000000 < c <;> simp [h1, h2, h3]
theorem run_made_web (F : FEnv) (hgt : ∀ p t, F "good_tie" [.dat (.int p), .dat (tieD t)] = some (.dat (.bool (goodTie p t)), [.dat (.int p), .dat (tieD t)])) (p : Int) (ts : List Tie) (h1 : 1 ≤ p) (h2 : p ≤ 10) (hl : ts.length ≤ 24) (hg : ∀ t ∈ ts, goodTie p t = true) :
    d_made_web.run F [.dat (.int p), .dat (.list (ts.map tieD))] = some (.dat (webD p ts), [.dat (.int p), .dat (.list (ts.map tieD))]) := by
  have e1 : decide (p < 1) = false := by simp; omega
  have e2 : decide (10 < p) = false := by simp; omega
  have e3 : decide (24 < (ts.length : Int)) = false := by simp; omega
  simp [Df.run, d_made_web, ir_made_web, IS.m, IE.m, IT.m, IO.m, IA.m, IL.m, II.m, Rf.ix, Cs.d, runF_s, e1, e2, e3]
  obtain ⟨st', q1, x, rfl, hx⟩ := forT_all (tg := .nm 2) (M := ⟨2, 3, false, F⟩) (ds := ts.map tieD) (P := fun st => ∃ x, st = [.dat (.int p), .dat (.list (ts.map tieD)), x] ∧ x.own = false)
    (b := seqS (ifS (notT (bolE (callE (Str.ofString "good_tie") (consA (plO 0) (consA (plO 2) nilA))))) (seqS neverS nxS) nxS) nxS) (fun d hd st hp => by
      obtain ⟨x, rfl, hx⟩ := hp
      obtain ⟨t, ht, rfl⟩ := List.mem_map.mp hd
      refine ⟨_, [.dat (.int p), .dat (.list (ts.map tieD)), .dat (tieD t)], by simp [hx]; rfl, ?_, _, rfl, rfl⟩
      have := hgt p t
      rw [hg t ht] at this
      simp [this]) [.dat (.int p), .dat (.list (ts.map tieD)), .emp] ⟨_, rfl, rfl⟩
  rw [q1]
  have lc := lcTurn_map (tg := .nm 2) (vs := [2]) (tst := yesT) (elt := valE (bltE Blt.tuple (consA (plO 2) nilA))) (M := ⟨2, 3, false, F⟩) (st := [.dat (.int p), .dat (.list (ts.map tieD)), .emp]) (fun _ => true) id (ts.map tieD) [] (by simp; omega) (fun d hd => by
      obtain ⟨t, ht, rfl⟩ := List.mem_map.mp hd
      exact ⟨_, _, by simp; rfl, by simp; rfl, by simp, fun _ => ⟨[.dat (.int p), .dat (.list (ts.map tieD)), .dat (tieD t)], by simp [tieD], by simp, by simp⟩⟩)
  simp [hx, lc, webD]
theorem stateD_def (r : Row) : stateD r = .tuple [.int r.1, .tuple (r.2.map heldD)] := rfl
def sv (p : Int) (rs : List Row) : SV := .std (.int p) (rs.map stateD)
theorem heldD_def (x : Int × Tie) : heldD x = .tuple [.int x.1, tieD x.2] := rfl
theorem run_web_with (F : FEnv) (p : Int) (rs : List Row) (h : Held) (hl : h.length ≤ 24) (hmw : F "made_web" [.dat (.int p), .dat (.list ((h.map (·.2)).map tieD))] = some (.dat (webD p (h.map (·.2))), [.dat (.int p), .dat (.list ((h.map (·.2)).map tieD))])) :
    d_Standing_web_with.run F [sv p rs, .dat (.tuple (h.map heldD))] = some (.dat (webD p (h.map (·.2))), [sv p rs, .dat (.tuple (h.map heldD))]) := by
  have lc := lcTurn_map (tg := .tp (.cons (.nm 2) (.cons (.nm 3) .nil))) (vs := [2, 3]) (tst := yesT) (elt := valE (varE 3)) (M := ⟨2, 4, true, F⟩) (st := [.slf, .dat (.tuple (h.map heldD)), .emp, .emp, .dat (.int p), .lst (rs.map stateD)]) (fun _ => true)
    (fun d => match d with | .tuple [_, t] => t | _ => .none) (h.map heldD) [] (by simp; omega) (fun d hd => by
      obtain ⟨x, hx, rfl⟩ := List.mem_map.mp hd
      exact ⟨_, _, by simp [heldD]; rfl, by simp; rfl, by simp, fun _ => ⟨_, by simp [heldD]; rfl, by simp, by simp⟩⟩)
  have e : ((h.map heldD).filter fun _ => true).map (fun d => match d with | .tuple [_, t] => t | _ => .none) = (h.map (·.2)).map tieD := by
    rw [List.filter_eq_self.mpr (by simp), List.map_map, List.map_map]
    rfl
  rw [e] at lc
  simp [List.map_map] at lc hmw
  simp [Df.run, d_Standing_web_with, ir_Standing_web_with, IS.m, IE.m, IT.m, IO.m, IA.m, IL.m, II.m, Rf.ix, Cs.d, runM_s, sv, lc, hmw]
theorem run_web_now (F : FEnv) (p : Int) (rs : List Row) (r : Row) (hmw : F "Standing.web_with" [sv p (rs ++ [r]), .dat (.tuple (r.2.map heldD))] = some (.dat (webD p (r.2.map (·.2))), [sv p (rs ++ [r]), .dat (.tuple (r.2.map heldD))])) :
    d_Standing_web_now.run F [sv p (rs ++ [r])] = some (.dat (webD p (r.2.map (·.2))), [sv p (rs ++ [r])]) := by
  simp [sv] at hmw
  simp [Df.run, d_Standing_web_now, ir_Standing_web_now, IS.m, IE.m, IT.m, IO.m, IA.m, IL.m, II.m, Rf.ix, Cs.d, runM_s, sv, stateD] at hmw ⊢
  simp [hmw]
theorem run_deeds (F : FEnv) (p : Int) (rs : List Row) : d_Standing_deeds.run F [sv p rs] = some (.dat (.int ((rs.length : Nat) - 1)), [sv p rs]) := by
  simp [Df.run, d_Standing_deeds, ir_Standing_deeds, IS.m, IE.m, IT.m, IO.m, IA.m, IL.m, II.m, Rf.ix, Cs.d, runM_s, sv]
theorem run_back (F : FEnv) (p : Int) (rs : List Row) (r : Row) (h : rs ≠ []) : d_Standing_back.run F [sv p (rs ++ [r])] = some (.dat .none, [sv p rs]) := by
  have e : ¬ ((rs.length : Int) + 1 = 1) := by
    have := List.length_pos_iff.mpr h
    omega
  simp [Df.run, d_Standing_back, ir_Standing_back, IS.m, IE.m, IT.m, IO.m, IA.m, IL.m, II.m, Rf.ix, Cs.d, runM_s, sv, e]
theorem run_names (F : FEnv) (p : Int) (rs : List Row) (r : Row) (hl : r.2.length ≤ 24) : d_Standing_names.run F [sv p (rs ++ [r])] = some (.lst (r.2.map fun x => .int x.1), [sv p (rs ++ [r])]) := by
  have lc := lcTurn_map (tg := .tp (.cons (.nm 1) (.cons (.nm 2) .nil))) (vs := [1, 2]) (tst := yesT) (elt := valE (varE 1)) (M := ⟨1, 3, true, F⟩) (st := [.slf, .emp, .emp, .dat (.int p), .lst ((rs ++ [r]).map stateD)]) (fun _ => true)
    (fun d => match d with | .tuple [n, _] => n | _ => .none) (r.2.map heldD) [] (by simp; omega) (fun d hd => by
      obtain ⟨x, hx, rfl⟩ := List.mem_map.mp hd
      exact ⟨_, _, by simp [heldD]; rfl, by simp; rfl, by simp, fun _ => ⟨_, by simp [heldD]; rfl, by simp, by simp⟩⟩)
  have e : ((r.2.map heldD).filter fun _ => true).map (fun d => match d with | .tuple [n, _] => n | _ => .none) = r.2.map fun x => .int x.1 := by
    rw [List.filter_eq_self.mpr (by simp), List.map_map]
    rfl
  rw [e] at lc
  simp [stateD] at lc
  simp [Df.run, d_Standing_names, ir_Standing_names, IS.m, IE.m, IT.m, IO.m, IA.m, IL.m, II.m, Rf.ix, Cs.d, runM_s, sv, stateD, lc]
theorem run_put (F : FEnv) (p : Int) (rs : List Row) (r : Row) (t : Tie) (hl : r.2.length < 24) (hr : rs.length < 1000) (hmw : ∃ z, F "Standing.web_with" [sv p (rs ++ [r]), .dat (.tuple ((r.2 ++ [(r.1, t)]).map heldD))] = some (z, [sv p (rs ++ [r]), .dat (.tuple ((r.2 ++ [(r.1, t)]).map heldD))])) :
    d_Standing_put.run F [sv p (rs ++ [r]), .dat (.int t.1), .dat (.int t.2.1), .dat (.int t.2.2)] = some (.dat (.int r.1), [sv p (rs ++ [r] ++ [(r.1 + 1, r.2 ++ [(r.1, t)])]), .dat (.int t.1), .dat (.int t.2.1), .dat (.int t.2.2)]) := by
  obtain ⟨z, hz⟩ := hmw
  have e1 : r.2.length + 1 ≤ 1048576 := by omega
  have e2 : rs.length + 1 < 1048576 := by omega
  simp [Df.run, d_Standing_put, ir_Standing_put, IS.m, IE.m, IT.m, IO.m, IA.m, IL.m, II.m, Rf.ix, Cs.d, runM_s, sv, stateD, heldD, tieD, e1, e2] at hz ⊢
  simp [hz, e2]
theorem run_drop (F : FEnv) (p : Int) (rs : List Row) (r : Row) (n : Int) (hl : r.2.length ≤ 24) (hr : rs.length < 1000) (hn : (r.2.filter fun x => decide (x.1 ≠ n)).length ≠ r.2.length) :
    d_Standing_drop.run F [sv p (rs ++ [r]), .dat (.int n)] = some (.dat .none, [sv p (rs ++ [r] ++ [(r.1, r.2.filter fun x => decide (x.1 ≠ n))]), .dat (.int n)]) := by
  have e2 : rs.length + 1 < 1048576 := by omega
  have lc := lcTurn_map (tg := .nm 5) (vs := [5]) (tst := cmpT .NotEq (exO (ixE (plO 5) (exO (cstE (.int 0))))) (plO 1)) (elt := valE (varE 5)) (M := ⟨2, 6, true, F⟩) (st := [.slf, .dat (.int n), .emp, .dat (.int r.1), .dat (.tuple (r.2.map heldD)), .emp, .dat (.int p), .lst ((rs ++ [r]).map stateD)])
    (fun d => match d with | .tuple [.int m, _] => decide (m ≠ n) | _ => false) id (r.2.map heldD) [] (by simp; omega) (fun d hd => by
      obtain ⟨x, hx, rfl⟩ := List.mem_map.mp hd
      exact ⟨_, _, by simp [heldD]; rfl, by simp [heldD]; rfl, by simp [heldD], fun _ => ⟨_, by simp [heldD]; rfl, by simp, by simp⟩⟩)
  have e : ((r.2.map heldD).filter fun d => match d with | .tuple [.int m, _] => decide (m ≠ n) | _ => false).map id = (r.2.filter fun x => decide (x.1 ≠ n)).map heldD := by
    rw [List.map_id, List.filter_map]
    rfl
  rw [e] at lc
  simp [stateD] at lc
  have hn' : ¬ (((r.2.filter fun x => decide (x.1 ≠ n)).length : Int) = (r.2.length : Int)) := by omega
  simp at hn'
  simp [Df.run, d_Standing_drop, ir_Standing_drop, IS.m, IE.m, IT.m, IO.m, IA.m, IL.m, II.m, Rf.ix, Cs.d, runM_s, sv, stateD, lc, hn', e2]
theorem mulOk_of {i j : Int} (a b : Nat) (hi : i.natAbs < 2 ^ a) (hj : j.natAbs < 2 ^ b) (h : a + b ≤ 900000) : mulOk i j = true := by
  unfold mulOk
  have h1 : i.natAbs.log2 ≤ a := by
    by_cases z : i.natAbs = 0
    · rw [z]; simp
    · exact Nat.le_of_lt ((Nat.log2_lt z).mpr hi)
  have h2 : j.natAbs.log2 ≤ b := by
    by_cases z : j.natAbs = 0
    · rw [z]; simp
    · exact Nat.le_of_lt ((Nat.log2_lt z).mpr hj)
  exact decide_eq_true (by omega)
theorem divOk_of {j : Int} (h0 : 0 < j) (h : j < 2 ^ 200) : divOk j = true := by
  unfold divOk
  have h1 : j.natAbs.log2 < 9000 := by
    refine Nat.lt_of_lt_of_le ((Nat.log2_lt (by omega)).mpr (?_ : j.natAbs < 2 ^ 200)) (by decide)
    omega
  simp [h0, h1]
def stir (c : Int) : Int := (c % 10 ^ 60 + 1) * 69621 % 2147483647
def turn (c : Int) : Int := stir c * stir c % 1000000007 / 7
theorem stir_lt (c : Int) : 0 ≤ stir c ∧ stir c < 2147483647 := ⟨Int.emod_nonneg _ (by decide), Int.emod_lt_of_pos _ (by decide)⟩
theorem turn_lt (c : Int) : 0 ≤ turn c ∧ turn c < 1000000007 := by
  have h1 : 0 ≤ stir c * stir c % 1000000007 := Int.emod_nonneg _ (by decide)
  have h2 : stir c * stir c % 1000000007 < 1000000007 := Int.emod_lt_of_pos _ (by decide)
  unfold turn
  omega
theorem run_turn (F : FEnv) (c : Int) : d__law_turn.run F [.dat (.int c)] = some (.dat (.int (turn c)), [.dat (.int c)]) := by
  have h0 : 0 ≤ c % 10 ^ 60 := Int.emod_nonneg _ (by decide)
  have h1 : c % 10 ^ 60 < 10 ^ 60 := Int.emod_lt_of_pos _ (by decide)
  have e1 : powOk 10 60 = true := by decide
  have e2 : mulOk (c % 10 ^ 60 + 1) 69621 = true := mulOk_of 201 20 (by omega) (by decide) (by decide)
  have s := stir_lt c
  have e3 : mulOk (stir c) (stir c) = true := mulOk_of 32 32 (by omega) (by omega) (by decide)
  have e4 : divOk 7 = true := by decide
  unfold stir at e3
  simp [Df.run, d__law_turn, ir__law_turn, IS.m, IE.m, IT.m, IO.m, IA.m, IL.m, II.m, Rf.ix, Cs.d, runF_s, e1, e4]
  rw [if_pos (by exact e2)]
  simp
  rw [if_pos (by exact e3)]
  simp [e4, turn, stir]
theorem run_whole (F : FEnv) (n : Int) : d__law_whole.run F [.dat (.int n)] = some (.dat (.bool true), [.dat (.int n)]) := by
  simp [Df.run, d__law_whole, ir__law_whole, IS.m, IE.m, IT.m, IO.m, IA.m, IL.m, II.m, Rf.ix, Cs.d, runF_s]
theorem run_cell (F : FEnv) (ns : List Int) (k : Nat) : d__law_cell.run F [.dat (.list (ns.map .int)), .dat (.int k)] = some (.dat (.int (ns.getD k 0)), [.dat (.list (ns.map .int)), .dat (.int k)]) := by
  by_cases h : k < ns.length
  · simp [Df.run, d__law_cell, ir__law_cell, IS.m, IE.m, IT.m, IO.m, IA.m, Rf.ix, Cs.d, runF_s, atI_nat2, h]
  · simp [Df.run, d__law_cell, ir__law_cell, IS.m, IE.m, IT.m, IO.m, IA.m, Rf.ix, Cs.d, runF_s, atI_nat2, h]
def canT (p : Int) (h : Held) (t : Tie) : Bool := goodTie p t && decide (h.length < 24)
theorem dk_dic (h : Held) : dkOnly (dicD h) = true := by
  unfold dkOnly dicD
  rw [List.all_map, List.all_eq_true]
  intro x _
  rfl
theorem goodTie_iff (p : Int) (t : Tie) : goodTie p t = true ↔ t.1 ≠ t.2.1 ∧ 1 ≤ t.2.2 ∧ t.2.2 ≤ 1000000000000000000000000000000 ∧ 0 ≤ t.1 ∧ t.1 < p ∧ 0 ≤ t.2.1 ∧ t.2.1 < p := by
  unfold goodTie longest
  simp only [Bool.and_eq_true, Bool.not_eq_true', Bool.or_eq_false_iff, decide_eq_true_eq, decide_eq_false_iff_not]
  constructor
  · rintro ⟨⟨h1, h2, h3⟩, ⟨h4, h5⟩, h6, h7⟩
    exact ⟨h1, by omega, by omega, h4, h5, h6, h7⟩
  · rintro ⟨h1, h2, h3, h4, h5, h6, h7⟩
    exact ⟨⟨h1, by omega, by omega⟩, ⟨h4, h5⟩, h6, h7⟩
theorem run_can (F : FEnv) (p : Int) (h : Held) (t : Tie) : ∃ b, d__law_can.run F [.dat (.int p), .dat (.dict (dicD h)), .dat (tieD t)] = some (.dat (.bool b), [.dat (.int p), .dat (.dict (dicD h)), .dat (tieD t)]) ∧ (b = true → goodTie p t = true ∧ h.length < 24) := by
  obtain ⟨a, b, c⟩ := t
  have e1 : powOk 10 30 = true := by decide
  have e2 : (dicD h).length = h.length := by unfold dicD; simp
  simp [Df.run, d__law_can, ir__law_can, IS.m, IE.m, IT.m, IO.m, IA.m, IL.m, II.m, Rf.ix, Cs.d, runF_s, e1, dk_dic, e2, tieD]
  by_cases k1 : a < 0
  · simp [k1]
  by_cases k2 : p ≤ a
  · simp [k1, k2]
  by_cases k3 : b < 0
  · simp [k1, k2, k3]
  by_cases k4 : p ≤ b
  · simp [k1, k2, k3, k4]
  by_cases k5 : a = b
  · simp [k1, k2, k3, k4, k5]
  by_cases k6 : 1 ≤ c
  · by_cases k7 : c ≤ 1000000000000000000000000000000
    · by_cases k8 : h.length < 24
      · have k8' : (h.length : Int) < 24 := by omega
        have g : goodTie p (a, b, c) = true := (goodTie_iff p (a, b, c)).mpr ⟨k5, k6, k7, by show 0 ≤ a; omega, by show a < p; omega, by show 0 ≤ b; omega, by show b < p; omega⟩
        right
        simp [k1, k2, k3, k4, k5, k6, k7, k8', k8, g]
      · have k8' : ¬ (h.length : Int) < 24 := by omega
        simp [k1, k2, k3, k4, k5, k6, k7, k8', k8]
    · simp [k1, k2, k3, k4, k5, k6, k7]
  · simp [k1, k2, k3, k4, k5, k6]
theorem pick3 (x : Int) : ∃ m, 0 < m ∧ atI [PyData.int 9, PyData.int 1, PyData.int 1000000000000000000000000000000] (x % 3) = some (.int m) := by
  have h1 : 0 ≤ x % 3 := Int.emod_nonneg _ (by decide)
  have h2 : x % 3 < 3 := Int.emod_lt_of_pos _ (by decide)
  rcases (by omega : x % 3 = 0 ∨ x % 3 = 1 ∨ x % 3 = 2) with e | e | e <;> rw [e]
  · exact ⟨9, by decide, rfl⟩
  · exact ⟨1, by decide, rfl⟩
  · exact ⟨1000000000000000000000000000000, by decide, rfl⟩
theorem run_near (F : FEnv) (ht : ∀ c, F "_law_turn" [.dat (.int c)] = some (.dat (.int (turn c)), [.dat (.int c)])) (c p : Int) (h1 : 1 ≤ p) (h2 : p ≤ 10) : ∃ t, d__law_near.run F [.dat (.int c), .dat (.int p)] = some (.dat (tieD t), [.dat (.int c), .dat (.int p)]) := by
  have e1 : powOk 10 30 = true := by decide
  have m1 : 0 < maxI 1 (p - 1) := by unfold maxI; split <;> omega
  have m2 : maxI 1 (p - 1) < 20 := by unfold maxI; split <;> omega
  have d1 : divOk 4 = true := by decide
  have d2 : divOk 7 = true := by decide
  have d3 : divOk p = true := divOk_of (by omega) (by omega)
  have d4 : divOk (maxI 1 (p - 1)) = true := divOk_of m1 (by omega)
  have p0 : 0 < p := by omega
  have u1 := turn_lt c
  have g1 : mulOk (turn c) 1000003 = true := mulOk_of 30 20 (by omega) (by decide) (by decide)
  simp [Df.run, d__law_near, ir__law_near, IS.m, IE.m, IT.m, IO.m, IA.m, IL.m, II.m, Rf.ix, Cs.d, runF_s, e1, d1, d2, d3, d4, p0, m1, ht, g1]
  obtain ⟨x, x1, x2⟩ := pick3 ((turn c * 1000003 + turn (c + 1)) / p / maxI 1 (p - 1) / 7)
  obtain ⟨y, y1, y2⟩ := pick3 (c / 4 / p / maxI 1 (p - 1) / 7)
  simp [x1, x2, y1, y2, tieD]
  by_cases k : c % 3 = 1 <;> simp [k]
/-! ### dicts by ascending names -/
def Asc (h : Held) : Prop := (h.map (·.1)).Pairwise (· < ·)
theorem keysI_dic (h : Held) : keysI (dicD h) = some (h.map (·.1)) := by
  induction h with
  | nil => rfl
  | cons x r ih =>
    show (keysI (dicD r)).map (x.1 :: ·) = _
    rw [ih]
    rfl
theorem sort_asc {ns : List Int} (h : ns.Pairwise (· < ·)) : ns.mergeSort leI = ns :=
  (sortI_of (List.Perm.refl ns) (h.imp fun h => Int.le_of_lt h)).symm
theorem dlook_dic : ∀ {h : Held} {x : Int × Tie}, Asc h → x ∈ h → dlook (dicD h) (.int x.1) = some (tieD x.2)
  | y :: r, x, ha, hx => by
    have e : dicD (y :: r) = (.int y.1, tieD y.2) :: dicD r := rfl
    rw [e, dlook_cons]
    have k := eqv_kP (.inl y.1) (.inl x.1)
    have k : PyData.eqv (.int y.1) (.int x.1) = decide ((Sum.inl y.1 : Key) = Sum.inl x.1) := k
    rw [k]
    rcases List.mem_cons.mp hx with rfl | hx
    · simp
    · have h2 : y.1 < x.1 := (List.pairwise_cons.mp ha).1 x.1 (List.mem_map_of_mem (f := fun z => z.1) hx)
      rw [if_neg (by simp; omega)]
      exact dlook_dic (List.pairwise_cons.mp ha).2 hx
theorem keyOk_dic (h : Held) (n : Int) : keyOk (dicD h) (.int n) = true := by
  unfold keyOk
  have : (dicD h).all (fun e => isKey e.1) = true := dk_dic h
  rw [this]
  rfl
theorem len_dic (h : Held) : (dicD h).length = h.length := by unfold dicD; simp
theorem run_made (F : FEnv) (h : Held) (ha : Asc h) (hl : h.length ≤ 24) : d__law_made.run F [.dat (.dict (dicD h))] = some (.dat (.tuple ((h.map (·.2)).map tieD)), [.dat (.dict (dicD h))]) := by
  have lc := lcTurn_map (tg := .nm 1) (vs := [1]) (tst := yesT) (elt := valE (ixE (plO 0) (plO 1))) (M := ⟨1, 2, false, F⟩) (st := [.dat (.dict (dicD h)), .emp]) (fun _ => true) (fun k => (dlook (dicD h) k).getD .none) (h.map fun x => .int x.1) [] (by simp; omega) (fun d hd => by
      obtain ⟨x, hx, rfl⟩ := List.mem_map.mp hd
      exact ⟨_, _, by simp; rfl, by simp; rfl, by simp, fun _ => ⟨_, by simp [keyOk_dic, dlook_dic ha hx]; rfl, by simp, by simp⟩⟩)
  have e : ((h.map fun x => PyData.int x.1).filter fun _ => true).map (fun k => (dlook (dicD h) k).getD .none) = (h.map (·.2)).map tieD := by
    rw [List.filter_eq_self.mpr (by simp), List.map_map, List.map_map]
    apply List.map_congr_left
    intro x hx
    simp [dlook_dic ha hx]
  rw [e] at lc
  have hl' : h.length < 64 := by omega
  have ks : (h.map (·.1)).mergeSort leI = h.map (·.1) := sort_asc ha
  have ks2 : ((h.map (·.1)).mergeSort leI).map PyData.int = h.map fun x => .int x.1 := by rw [ks, List.map_map]; rfl
  simp at lc
  simp [Df.run, d__law_made, ir__law_made, IS.m, IE.m, IT.m, IO.m, IA.m, IL.m, II.m, Rf.ix, Cs.d, runF_s, keysI_dic, hl', ks2, lc]
/-! ### equality of what is told -/
theorem sh_int (i : Int) : SeqAt.shaped (.int i) = true := rfl
theorem eqvAll_refl {α : Type} {enc : α → PyData} (h : ∀ x, PyData.eqv (enc x) (enc x) = true) : ∀ l : List α, PyData.eqvAll (l.map enc) (l.map enc) = true
  | [] => rfl
  | x :: r => by
    show (PyData.eqv (enc x) (enc x) && PyData.eqvAll (r.map enc) (r.map enc)) = true
    rw [h, eqvAll_refl h r]; rfl
theorem eqv_int (i : Int) : PyData.eqv (.int i) (.int i) = true := by
  have k := eqv_kP (.inl i) (.inl i)
  have k : PyData.eqv (.int i) (.int i) = decide ((Sum.inl i : Key) = Sum.inl i) := k
  rw [k]; simp
theorem eqv_tie (t : Tie) : PyData.eqv (tieD t) (tieD t) = true := by
  show (PyData.eqv (.int _) (.int _) && (PyData.eqv (.int _) (.int _) && (PyData.eqv (.int _) (.int _) && true))) = true
  rw [eqv_int, eqv_int, eqv_int]; rfl
theorem eqv_web (p : Int) (ts : List Tie) : PyData.eqv (webD p ts) (webD p ts) = true := by
  show (PyData.eqv (.int p) (.int p) && (PyData.eqvAll (ts.map tieD) (ts.map tieD) && true)) = true
  rw [eqv_int, eqvAll_refl eqv_tie]; rfl
theorem sh_lay_ties : ∀ ts : List Tie, PyData.canLayAll0 (ts.map tieD) = true ∧ PyData.depthAll (ts.map tieD) ≤ 5
  | [] => by simp [PyData.canLayAll0, PyData.depthAll]
  | t :: r => by
    have ih := sh_lay_ties r
    have h1 : (tieD t).canLay0 = true := by simp [tieD, PyData.canLay0, PyData.canLayAll0]
    have h2 : (tieD t).depth ≤ 5 := by simp [tieD, PyData.depth, PyData.depthAll]
    simp only [List.map_cons, PyData.canLayAll0, PyData.depthAll, h1, ih.1, Bool.and_self, true_and]
    omega
theorem sh_lay_ints : ∀ ts : List Int, PyData.canLayAll0 (ts.map .int) = true ∧ PyData.depthAll (ts.map .int) ≤ 5
  | [] => by simp [PyData.canLayAll0, PyData.depthAll]
  | t :: r => by
    have ih := sh_lay_ints r
    have h1 : (PyData.int t).canLay0 = true := by simp [PyData.canLay0]
    have h2 : (PyData.int t).depth ≤ 5 := by simp [PyData.depth]
    simp only [List.map_cons, PyData.canLayAll0, PyData.depthAll, h1, ih.1, Bool.and_self, true_and]
    omega
theorem shaped_of {d : PyData} (h1 : d.canLay0 = true) (h2 : d.depth ≤ 64) : SeqAt.shaped d = true := by
  unfold SeqAt.shaped
  simp [h1, h2]
theorem shaped_web (p : Int) (ts : List Tie) : SeqAt.shaped (webD p ts) = true := by
  obtain ⟨h1, h2⟩ := sh_lay_ties ts
  refine shaped_of ?_ ?_
  · simp [webD, PyData.canLay0, PyData.canLayAll0, h1]
  · simp only [webD, PyData.depth, PyData.depthAll]
    omega
theorem shaped_ints (ns : List Int) : SeqAt.shaped (.list (ns.map .int)) = true := by
  obtain ⟨h1, h2⟩ := sh_lay_ints ns
  refine shaped_of ?_ ?_
  · simp [PyData.canLay0, h1]
  · simp only [PyData.depth]
    omega
theorem ne_web (p : Int) (ts : List Tie) : cmpD .NotEq (webD p ts) (webD p ts) = some false := by
  show (if (SeqAt.shaped (webD p ts) && SeqAt.shaped (webD p ts)) = true then some (!PyData.eqv (webD p ts) (webD p ts)) else none) = _
  rw [shaped_web, eqv_web]
  rfl
theorem ne_ints (ns : List Int) : cmpD .NotEq (.list (ns.map .int)) (.list (ns.map .int)) = some false := by
  show (if (SeqAt.shaped _ && SeqAt.shaped _) = true then some (!PyData.eqvAll (ns.map .int) (ns.map .int)) else none) = _
  rw [shaped_ints, eqvAll_refl eqv_int]
  rfl
theorem run_shown (F : FEnv) (p : Int) (rs : List Row) (r : Row) (ha : Asc r.2) (hl : r.2.length ≤ 24)
    (h1 : F "Standing.web_now" [sv p (rs ++ [r])] = some (.dat (webD p (r.2.map (·.2))), [sv p (rs ++ [r])])) (h2 : F "_law_made" [.dat (.dict (dicD r.2))] = some (.dat (.tuple ((r.2.map (·.2)).map tieD)), [.dat (.dict (dicD r.2))]))
    (h3 : F "Standing.deeds" [sv p (rs ++ [r])] = some (.dat (.int (((rs ++ [r]).length : Nat) - 1)), [sv p (rs ++ [r])])) (h4 : F "Standing.names" [sv p (rs ++ [r])] = some (.lst ((r.2.map (·.1)).map .int), [sv p (rs ++ [r])])) (h5 : ∀ n, F "_law_whole" [.dat (.int n)] = some (.dat (.bool true), [.dat (.int n)])) :
    d__law_shown.run F [sv p (rs ++ [r]), .dat (.int p), .dat (.dict (dicD r.2)), .dat (.int (((rs ++ [r]).length : Nat) - 1))] = some (.dat (.bool true), [sv p (rs ++ [r]), .dat (.int p), .dat (.dict (dicD r.2)), .dat (.int (((rs ++ [r]).length : Nat) - 1))]) := by
  have hl' : r.2.length < 64 := by omega
  have ks : (r.2.map (·.1)).mergeSort leI = r.2.map (·.1) := sort_asc ha
  have hw := ne_web p (r.2.map (·.2))
  have hi := ne_ints (r.2.map (·.1))
  unfold webD at hw h1
  simp only [sv] at h1 h3 h4
  generalize hS : SV.std (.int p) ((rs ++ [r]).map stateD) = S at *
  generalize hn : (((rs ++ [r]).length : Nat) : Int) - 1 = nn at *
  have lc := lcTurn_map (tg := .nm 5) (vs := [5]) (tst := notT (bolE (callE (Str.ofString "_law_whole") (consA (plO 5) nilA)))) (elt := valE (varE 5)) (M := ⟨4, 6, false, F⟩) (st := [S, .dat (.int p), .dat (.dict (dicD r.2)), .dat (.int nn), .dat (.list ((r.2.map (·.1)).map .int)), .emp]) (fun _ => false) id ((r.2.map (·.1)).map .int) [] (by simp; omega) (fun d hd => by
      obtain ⟨x, hx, rfl⟩ := List.mem_map.mp hd
      have := h5 x
      exact ⟨_, _, by simp; rfl, by simp [this]; rfl, by simp, by simp⟩)
  have e : (((r.2.map (·.1)).map PyData.int).filter fun _ => false).map id = [] := by simp
  rw [e] at lc
  subst hS
  simp at lc h1 h2 h3 h4 hw hi ks
  simp [Df.run, d__law_shown, ir__law_shown, IS.m, IE.m, IT.m, IO.m, IA.m, IL.m, II.m, Rf.ix, Cs.d, runF_s, sv, h1, h2, hw, h3, h4, keysI_dic, hl', ks, hi, lc]
theorem ddrop_dic (h : Held) (n : Int) : ddrop (dicD h) (.int n) = dicD (h.filter fun x => decide (x.1 ≠ n)) := by
  unfold ddrop dicD
  rw [List.filter_map]
  congr 1
  apply List.filter_congr
  intro x _
  have k := eqv_kP (.inl x.1) (.inl n)
  have k : PyData.eqv (.int x.1) (.int n) = decide ((Sum.inl x.1 : Key) = Sum.inl n) := k
  show (!PyData.eqv (.int x.1) (.int n)) = _
  rw [k]
  simp
theorem dput_dic (h : Held) (n : Int) (t : Tie) (hn : ∀ x ∈ h, x.1 < n) : dput (dicD h) (.int n) (tieD t) = dicD (h ++ [(n, t)]) := by
  unfold dput
  have : ((dicD h).any fun e => PyData.eqv e.1 (.int n)) = false := by
    unfold dicD
    rw [List.any_map, List.any_eq_false]
    intro x hx
    have k := eqv_kP (.inl x.1) (.inl n)
    have k : PyData.eqv (.int x.1) (.int n) = decide ((Sum.inl x.1 : Key) = Sum.inl n) := k
    show ¬ PyData.eqv (.int x.1) (.int n) = true
    rw [k]
    have := hn x hx
    simp
    omega
  rw [this]
  unfold dicD
  simp
structure RowOk (p : Int) (r : Row) : Prop where
  len : r.2.length ≤ 24
  good : ∀ x ∈ r.2, goodTie p x.2 = true
  asc : Asc r.2
  low : ∀ x ∈ r.2, x.1 < r.1
structure Sp (F : FEnv) (p : Int) : Prop where
  turn : ∀ c, F "_law_turn" [.dat (.int c)] = some (.dat (.int (turn c)), [.dat (.int c)])
  whole : ∀ n, F "_law_whole" [.dat (.int n)] = some (.dat (.bool true), [.dat (.int n)])
  near : ∀ c, ∃ t, F "_law_near" [.dat (.int c), .dat (.int p)] = some (.dat (tieD t), [.dat (.int c), .dat (.int p)])
  can : ∀ h t, ∃ b, F "_law_can" [.dat (.int p), .dat (.dict (dicD h)), .dat (tieD t)] = some (.dat (.bool b), [.dat (.int p), .dat (.dict (dicD h)), .dat (tieD t)]) ∧ (b = true → goodTie p t = true ∧ h.length < 24)
  back : ∀ (rs : List Row) (r : Row), rs ≠ [] → F "Standing.back" [sv p (rs ++ [r])] = some (.dat .none, [sv p rs])
  drop : ∀ (rs : List Row) (r : Row) (n : Int), r.2.length ≤ 24 → rs.length < 1000 → (r.2.filter fun x => decide (x.1 ≠ n)).length ≠ r.2.length → F "Standing.drop" [sv p (rs ++ [r]), .dat (.int n)] = some (.dat .none, [sv p (rs ++ [r] ++ [(r.1, r.2.filter fun x => decide (x.1 ≠ n))]), .dat (.int n)])
  put : ∀ (rs : List Row) (r : Row) (t : Tie), RowOk p r → r.2.length < 24 → rs.length < 1000 → goodTie p t = true →
    F "Standing.put" [sv p (rs ++ [r]), .dat (.int t.1), .dat (.int t.2.1), .dat (.int t.2.2)] = some (.dat (.int r.1), [sv p (rs ++ [r] ++ [(r.1 + 1, r.2 ++ [(r.1, t)])]), .dat (.int t.1), .dat (.int t.2.1), .dat (.int t.2.2)])
theorem rowOk_drop {p : Int} {r : Row} (h : RowOk p r) (n : Int) : RowOk p (r.1, r.2.filter fun x => decide (x.1 ≠ n)) :=
  ⟨Nat.le_trans (List.length_filter_le _ _) h.len, fun x hx => h.good x (List.mem_filter.mp hx).1, by
    unfold Asc
    exact h.asc.sublist (List.Sublist.map _ (List.filter_sublist)), fun x hx => h.low x (List.mem_filter.mp hx).1⟩
theorem rowOk_put {p : Int} {r : Row} {t : Tie} (h : RowOk p r) (hl : r.2.length < 24) (hg : goodTie p t = true) : RowOk p (r.1 + 1, r.2 ++ [(r.1, t)]) := by
  refine ⟨by simp; omega, fun x hx => ?_, ?_, fun x hx => ?_⟩
  · rcases List.mem_append.mp hx with hx | hx
    · exact h.good x hx
    · have : x = (r.1, t) := by simpa using hx
      rw [this]; exact hg
  · unfold Asc
    rw [List.map_append, List.pairwise_append]
    refine ⟨h.asc, by simp, fun a ha b hb => ?_⟩
    obtain ⟨x, hx, rfl⟩ := List.mem_map.mp ha
    have : b = r.1 := by simpa using hb
    rw [this]; exact h.low x hx
  · rcases List.mem_append.mp hx with hx | hx
    · have := h.low x hx; show x.1 < r.1 + 1; omega
    · have : x = (r.1, t) := by simpa using hx
      rw [this]; show r.1 < r.1 + 1; omega
theorem pick_in {h : Held} {k : Int} (h0 : 0 < h.length) : ∃ x ∈ h, atI (h.map fun x => PyData.int x.1) (k % (h.length : Nat)) = some (.int x.1) := by
  have h1 : 0 ≤ k % (h.length : Nat) := Int.emod_nonneg _ (by omega)
  have h2 : k % (h.length : Nat) < h.length := Int.emod_lt_of_pos _ (by omega)
  obtain ⟨n, hn⟩ := Int.eq_ofNat_of_zero_le h1
  rw [hn] at h2 ⊢
  have h3 : n < h.length := by omega
  refine ⟨h[n], List.getElem_mem h3, ?_⟩
  rw [atI_nat2, List.getElem?_map, List.getElem?_eq_getElem h3]
  rfl
theorem run_go (F : FEnv) (p : Int) (S : Sp F p) (rs : List Row) (r : Row) (c : Int) (hr : ∀ q ∈ rs ++ [r], RowOk p q) (hlen : rs.length < 900) : ∃ rs' r', d__law_go.run F [sv p (rs ++ [r]), .dat (.int p), .lst ((rs ++ [r]).map rowD), .dat (.int c)] = some (.dat (.bool true), [sv p (rs' ++ [r']), .dat (.int p), .lst ((rs' ++ [r']).map rowD), .dat (.int c)]) ∧
    (∀ q ∈ rs' ++ [r'], RowOk p q) ∧ rs'.length ≤ rs.length + 1 ∧ ∀ x tl, rs ++ [r] = x :: tl → ∃ tl', rs' ++ [r'] = x :: tl' := by
  have ok := hr r (by simp)
  have e8 : divOk 3 = true := by decide
  obtain ⟨t, ht⟩ := S.near c
  have hk := dk_dic r.2
  have e2 : rs.length + 1 < 1048576 := by omega
  by_cases c2 : turn c % 3 = 1 ∧ 0 < r.2.length
  · obtain ⟨c2, c3⟩ := c2
    obtain ⟨x, hx, px⟩ := pick_in (h := r.2) (k := turn c / 3) c3
    have hn : (r.2.filter fun y => decide (y.1 ≠ x.1)).length ≠ r.2.length := by
      intro e
      have := (List.length_filter_eq_length_iff.mp e) x hx
      simp at this
    have hd := S.drop rs r x.1 ok.len (by omega) hn
    have ks : ((r.2.map (·.1)).mergeSort leI) = r.2.map (·.1) := sort_asc ok.asc
    have hl' : r.2.length < 64 := by have := ok.len; omega
    have hlk := dlook_dic ok.asc hx
    refine ⟨rs ++ [r], (r.1, r.2.filter fun y => decide (y.1 ≠ x.1)), ?_, fun q hq => ?_, by simp, fun y tl hy => ⟨tl ++ [_], by rw [hy]; rfl⟩⟩
    · have dr := ddrop_dic r.2 x.1
      simp [sv] at hd
      have px' : atI (r.2.map (PyData.int ∘ fun x => x.1)) (turn c / 3 % (r.2.length : Nat)) = some (.int x.1) := px
      simp at dr
      simp [Df.run, d__law_go, ir__law_go, IS.m, IE.m, IT.m, IO.m, IA.m, IL.m, II.m, Rf.ix, Cs.d, runF_s, sv, S.turn, rowD, c2, c3, keysI_dic, ks, hl', len_dic, hk, e8, e2, px', isKey, keyD, hlk, dr, hd, ht]
    · rcases List.mem_append.mp hq with hq | hq
      · exact hr q hq
      · have : q = (r.1, r.2.filter fun y => decide (y.1 ≠ x.1)) := by simpa using hq
        rw [this]; exact rowOk_drop ok x.1
  · obtain ⟨b, hb, hbt⟩ := S.can r.2 t
    have t2 : (decide (turn c % 3 = 1) && decide (0 < r.2.length)) = false := by
      rw [Bool.and_eq_false_iff, decide_eq_false_iff_not, decide_eq_false_iff_not]
      by_cases h : turn c % 3 = 1
      · exact .inr fun h' => c2 ⟨h, h'⟩
      · exact .inl h
    cases b with
    | false =>
      refine ⟨rs, r, ?_, hr, by omega, fun y tl hy => ⟨tl, hy⟩⟩
      simp [Df.run, d__law_go, ir__law_go, IS.m, IE.m, IT.m, IO.m, IA.m, IL.m, II.m, Rf.ix, Cs.d, runF_s, sv, S.turn, rowD, t2, len_dic, hk, e8, ht, hb]
    | true =>
      obtain ⟨g1, g2⟩ := hbt rfl
      have hp := S.put rs r t ok g2 (by omega) g1
      have hl2 : r.2.length < 1048576 := by omega
      have dp := dput_dic r.2 r.1 t ok.low
      have pok : putOk (dicD r.2) (.int r.1) = true := by
        unfold putOk
        have : (dicD r.2).all (fun e => isKey e.1) = true := hk
        rw [this]; rfl
      refine ⟨rs ++ [r], (r.1 + 1, r.2 ++ [(r.1, t)]), ?_, fun q hq => ?_, by simp, fun y tl hy => ⟨tl ++ [_], by rw [hy]; rfl⟩⟩
      · simp [sv] at hp
        have i0 : ixD (tieD t) (.int 0) = some (.int t.1) := rfl
        have i1 : ixD (tieD t) (.int 1) = some (.int t.2.1) := rfl
        have i2 : ixD (tieD t) (.int 2) = some (.int t.2.2) := rfl
        simp [Df.run, d__law_go, ir__law_go, IS.m, IE.m, IT.m, IO.m, IA.m, IL.m, II.m, Rf.ix, Cs.d, runF_s, sv, S.turn, rowD, t2, len_dic, hk, e8, ht, hb, hl2, pok, dp, e2, hp, i0, i1, i2]
      · rcases List.mem_append.mp hq with hq | hq
        · exact hr q hq
        · have : q = (r.1 + 1, r.2 ++ [(r.1, t)]) := by simpa using hq
          rw [this]; exact rowOk_put ok g2 g1
theorem run_back54 (F : FEnv) (p : Int) (h2p : 2 ≤ p) (S : Sp F p) (hs : ∀ (rs : List Row) (r : Row), RowOk p r → F "_law_shown" [sv p (rs ++ [r]), .dat (.int p), .dat (.dict (dicD r.2)), .dat (.int (((rs ++ [r]).length : Nat) - 1))] = some (.dat (.bool true), [sv p (rs ++ [r]), .dat (.int p), .dat (.dict (dicD r.2)), .dat (.int (((rs ++ [r]).length : Nat) - 1))]))
    (rs : List Row) (r q : Row) (ok : RowOk p r) (hlen : rs.length < 900) : d__law_back.run F [sv p (rs ++ [r] ++ [q]), .dat (.int p), .lst ((rs ++ [r] ++ [q]).map rowD)] = some (.dat (.bool true), [sv p (rs ++ [r]), .dat (.int p), .lst ((rs ++ [r]).map rowD)]) := by
  have b1 := S.back (rs ++ [r]) q (by simp)
  have s1 := hs rs r ok
  have hk := dk_dic r.2
  by_cases h23 : 23 < r.2.length
  · have h23' : (23 : Int) < (r.2.length : Int) := by omega
    simp [sv, rowD] at b1 s1
    simp [Df.run, d__law_back, ir__law_back, IS.m, IE.m, IT.m, IO.m, IA.m, IL.m, II.m, Rf.ix, Cs.d, runF_s, sv, rowD, b1, s1, hk, len_dic, h23']
  · have h23' : ¬ (23 : Int) < (r.2.length : Int) := by omega
    have g : goodTie p (0, 1, 7) = true := (goodTie_iff p (0, 1, 7)).mpr ⟨by decide, by decide, by decide, by decide, by show (0 : Int) < p; omega, by decide, by show (1 : Int) < p; omega⟩
    have p1 := S.put rs r (0, 1, 7) ok (by omega) (by omega) g
    have b2 := S.back (rs ++ [r]) (r.1 + 1, r.2 ++ [(r.1, (0, 1, 7))]) (by simp)
    simp [sv, rowD] at b1 s1 p1 b2
    simp [Df.run, d__law_back, ir__law_back, IS.m, IE.m, IT.m, IO.m, IA.m, IL.m, II.m, Rf.ix, Cs.d, runF_s, sv, rowD, b1, s1, hk, len_dic, h23', p1, b2]
structure Sp4 (F : FEnv) (p : Int) : Prop where
  turn : ∀ c, F "_law_turn" [.dat (.int c)] = some (.dat (.int (turn c)), [.dat (.int c)])
  go : ∀ (rs : List Row) (r : Row) (c : Int), (∀ q ∈ rs ++ [r], RowOk p q) → rs.length < 900 → ∃ rs' r', F "_law_go" [sv p (rs ++ [r]), .dat (.int p), .lst ((rs ++ [r]).map rowD), .dat (.int c)] = some (.dat (.bool true), [sv p (rs' ++ [r']), .dat (.int p), .lst ((rs' ++ [r']).map rowD), .dat (.int c)]) ∧
    (∀ q ∈ rs' ++ [r'], RowOk p q) ∧ rs'.length ≤ rs.length + 1 ∧ ∀ x tl, rs ++ [r] = x :: tl → ∃ tl', rs' ++ [r'] = x :: tl'
  back : ∀ (rs : List Row) (r q : Row), RowOk p r → rs.length < 900 → F "_law_back" [sv p (rs ++ [r] ++ [q]), .dat (.int p), .lst ((rs ++ [r] ++ [q]).map rowD)] = some (.dat (.bool true), [sv p (rs ++ [r]), .dat (.int p), .lst ((rs ++ [r]).map rowD)])
  web_now : ∀ (rs : List Row) (r : Row), RowOk p r → F "Standing.web_now" [sv p (rs ++ [r])] = some (.dat (webD p (r.2.map (·.2))), [sv p (rs ++ [r])])
  deeds : ∀ rs : List Row, F "Standing.deeds" [sv p rs] = some (.dat (.int ((rs.length : Nat) - 1)), [sv p rs])
  names : ∀ (rs : List Row) (r : Row), RowOk p r → F "Standing.names" [sv p (rs ++ [r])] = some (.lst (r.2.map fun x => .int x.1), [sv p (rs ++ [r])])
def nthS : IS → Nat → IS
  | .seq a _, 0 => a
  | .seq _ b, n + 1 => nthS b n
  | x, _ => x
def forB : IS → IS
  | .for _ _ b => b
  | .whl _ b => b
  | x => x
def stL (p : Int) (scr : PyData) (rs : List Row) (x : SV) : Sto := [.dat scr, .dat (.int p), sv p rs, .lst (rs.map rowD), x]
theorem body1 (F : FEnv) (p : Int) (S : Sp4 F p) (scr : PyData) (rs : List Row) (r : Row) (c : Int) (hr : ∀ q ∈ rs ++ [r], RowOk p q) (hlen : rs.length < 900) :
    ∃ rs' r', (forB (nthS ir_law 3)).m 5 ⟨1, 5, false, F⟩ (stL p scr (rs ++ [r]) (.dat (.int c))) = some (.nx, stL p scr (rs' ++ [r']) (.dat (.int c))) ∧ (∀ q ∈ rs' ++ [r'], RowOk p q) ∧ rs'.length ≤ rs.length + 1 ∧ ∀ x tl, rs ++ [r] = x :: tl → ∃ tl', rs' ++ [r'] = x :: tl' := by
  obtain ⟨rs', r', h1, h2, h3, h4⟩ := S.go rs r c hr hlen
  refine ⟨rs', r', ?_, h2, h3, h4⟩
  simp [sv] at h1
  simp [forB, nthS, ir_law, IS.m, IE.m, IT.m, IO.m, IA.m, IL.m, II.m, Rf.ix, Cs.d, sv, stL, h1]
theorem bodyW (F : FEnv) (p : Int) (S : Sp4 F p) (scr : PyData) (rs : List Row) (r q : Row) (x : SV) (ok : RowOk p r) (hlen : rs.length < 900) :
    (forB (nthS ir_law 5)).m 5 ⟨1, 5, false, F⟩ (stL p scr (rs ++ [r] ++ [q]) x) = some (.nx, stL p scr (rs ++ [r]) x) := by
  have h1 := S.back rs r q ok hlen
  simp [sv] at h1
  simp [forB, nthS, ir_law, IS.m, IE.m, IT.m, IO.m, IA.m, IL.m, II.m, Rf.ix, Cs.d, sv, stL, h1]
theorem body2 (F : FEnv) (p : Int) (S : Sp4 F p) (scr : PyData) (rs : List Row) (r : Row) (c : Int) (hr : ∀ q ∈ rs ++ [r], RowOk p q) (hlen : rs.length < 900) :
    ∃ rs' r', (forB (nthS ir_law 4)).m 5 ⟨1, 5, false, F⟩ (stL p scr (rs ++ [r]) (.dat (.int c))) = some (.nx, stL p scr (rs' ++ [r']) (.dat (.int c))) ∧ (∀ q ∈ rs' ++ [r'], RowOk p q) ∧ rs'.length ≤ rs.length + 1 ∧ ∀ x tl, rs ++ [r] = x :: tl → ∃ tl', rs' ++ [r'] = x :: tl' := by
  -- the first half
  have half : ∃ rs1 r1, ((bif decide (0 < rs.length) then (F "_law_back" [sv p (rs ++ [r]), .dat (.int p), .lst ((rs ++ [r]).map rowD)]) else some (.dat (.bool true), [sv p (rs ++ [r]), .dat (.int p), .lst ((rs ++ [r]).map rowD)])) = some (.dat (.bool true), [sv p (rs1 ++ [r1]), .dat (.int p), .lst ((rs1 ++ [r1]).map rowD)])) ∧
      (∀ q ∈ rs1 ++ [r1], RowOk p q) ∧ rs1.length ≤ rs.length ∧ (∀ x tl, rs ++ [r] = x :: tl → ∃ tl', rs1 ++ [r1] = x :: tl') ∧ (rs = [] → rs1 = rs ∧ r1 = r) := by
    by_cases h : rs = []
    · subst h
      exact ⟨[], r, by simp, hr, Nat.le_refl _, fun x tl h => ⟨tl, h⟩, fun _ => ⟨rfl, rfl⟩⟩
    · obtain ⟨rs1, r1, rfl⟩ : ∃ rs' r', rs = rs' ++ [r'] := ⟨rs.dropLast, rs.getLast h, (List.dropLast_concat_getLast h).symm⟩
      refine ⟨rs1, r1, ?_, fun q hq => hr q (List.mem_append_left _ hq), by simp, fun x tl hx => ?_, fun e => absurd e h⟩
      · have := S.back rs1 r1 r (hr r1 (by simp)) (by simp at hlen; omega)
        simp at this
        simp [this]
      · cases rs1 with
        | nil => simp at hx; exact ⟨[], by simp [hx.1]⟩
        | cons a t => simp at hx; exact ⟨t ++ [r1], by simp [hx.1]⟩
  obtain ⟨rs1, r1, h1, h2, h3, h4, h5⟩ := half
  obtain ⟨rs', r', g1, g2, g3, g4⟩ := S.go rs1 r1 (c + 1) h2 (by omega)
  have hh : ∀ x tl, rs ++ [r] = x :: tl → ∃ tl', rs' ++ [r'] = x :: tl' := fun x tl hx => by
    obtain ⟨t1, ht⟩ := h4 x tl hx
    exact g4 x t1 ht
  by_cases ct : turn c % 7 = 2
  · refine ⟨rs', r', ?_, g2, by omega, hh⟩
    by_cases h : rs = []
    · subst h
      obtain ⟨e1, e2⟩ := h5 rfl
      subst e1 e2
      simp [sv] at g1
      simp [forB, nthS, ir_law, IS.m, IE.m, IT.m, IO.m, IA.m, IL.m, II.m, Rf.ix, Cs.d, sv, stL, g1, S.turn, ct]
    · have hl := List.length_pos_iff.mpr h
      have hl1 : (1 : Int) < (rs.length : Int) + 1 := by omega
      simp [sv, hl] at h1 g1
      simp [forB, nthS, ir_law, IS.m, IE.m, IT.m, IO.m, IA.m, IL.m, II.m, Rf.ix, Cs.d, sv, stL, g1, S.turn, ct, hl, hl1, h1]
  · refine ⟨rs1, r1, ?_, h2, by omega, h4⟩
    by_cases h : rs = []
    · subst h
      obtain ⟨e1, e2⟩ := h5 rfl
      subst e1 e2
      simp [forB, nthS, ir_law, IS.m, IE.m, IT.m, IO.m, IA.m, IL.m, II.m, Rf.ix, Cs.d, sv, stL, S.turn, ct]
    · have hl := List.length_pos_iff.mpr h
      have hl1 : (1 : Int) < (rs.length : Int) + 1 := by omega
      simp [sv, hl] at h1
      simp [forB, nthS, ir_law, IS.m, IE.m, IT.m, IO.m, IA.m, IL.m, II.m, Rf.ix, Cs.d, sv, stL, S.turn, ct, hl, hl1, h1]
theorem whN_s {t : MT} {b : MS} {M : En} {n : Nat} {st : Sto} : whN t b M (n + 1) st = (t M st).bind fun p => bif p.1 then ((b M p.2).bind (sq (whN t b M n))) else some (.nx, p.2) := by
  rw [whN]
  cases t M st with
  | none => rfl
  | some p =>
    obtain ⟨c, s⟩ := p
    cases c with
    | false => rfl
    | true =>
      simp only [Option.bind_some, cond_true]
      cases b M s with
      | none => rfl
      | some q => obtain ⟨o, s'⟩ := q; cases o <;> rfl
theorem wh_run (F : FEnv) (p : Int) (S : Sp4 F p) (scr : PyData) (x : SV) : ∀ (n : Nat) (rs : List Row) (r : Row), (∀ q ∈ rs ++ [r], RowOk p q) → rs.length < 900 → rs.length < n → ∃ r0, (∀ y tl, rs ++ [r] = y :: tl → r0 = y) ∧ RowOk p r0 ∧
    whN (cmpT .Gt (exO (bltE .len (consA (plO 3) nilA))) (exO (cstE (.int 1)))) ((forB (nthS ir_law 5)).m 5) ⟨1, 5, false, F⟩ n (stL p scr (rs ++ [r]) x) = some (.nx, stL p scr [r0] x)
  | 0, rs, r, _, _, h => by omega
  | n + 1, rs, r, hr, hlen, hn => by
    by_cases h : rs = []
    · subst h
      refine ⟨r, fun y tl e => by simp at e; exact e.1, hr r (by simp), ?_⟩
      rw [whN_s]
      simp [stL]
    · obtain ⟨rs1, r1, rfl⟩ : ∃ rs' r', rs = rs' ++ [r'] := ⟨rs.dropLast, rs.getLast h, (List.dropLast_concat_getLast h).symm⟩
      simp at hn
      obtain ⟨r0, g1, g2, g3⟩ := wh_run F p S scr x n rs1 r1 (fun q hq => hr q (List.mem_append_left _ hq)) (by simp at hlen; omega) (by omega)
      refine ⟨r0, fun y tl e => ?_, g2, ?_⟩
      · cases rs1 with
        | nil => simp at e; exact g1 y [] (by simp [e.1])
        | cons a t => simp at e; exact g1 y (t ++ [r1]) (by simp [e.1])
      · have bw := bodyW F p S scr rs1 r1 r x (hr r1 (by simp)) (by simp at hlen; omega)
        have t1 : cmpT .Gt (exO (bltE .len (consA (plO 3) nilA))) (exO (cstE (.int 1))) ⟨1, 5, false, F⟩ (stL p scr (rs1 ++ [r1] ++ [r]) x) = some (true, stL p scr (rs1 ++ [r1] ++ [r]) x) := by
          have : (1 : Int) < (rs1.length : Int) + 2 := by omega
          have t2 : (1 : Int) < (rs1.length : Int) + 1 + 1 := by omega
          simp [stL, this, t2]
        rw [whN_s, t1]
        simp only [Option.bind_some, cond_true]
        rw [bw]
        simp only [Option.bind_some, sq_nx]
        exact g3
def pts (k : Int) : Int := match k % 8 with
  | 0 => 2
  | 1 => 2
  | 2 => 3
  | 3 => 4
  | 4 => 5
  | 5 => 6
  | 6 => 4
  | _ => 10
theorem pts_at (k : Int) : atI [PyData.int 2, PyData.int 2, PyData.int 3, PyData.int 4, PyData.int 5, PyData.int 6, PyData.int 4, PyData.int 10] (k % 8) = some (.int (pts k)) ∧ 2 ≤ pts k ∧ pts k ≤ 10 := by
  have h1 : 0 ≤ k % 8 := Int.emod_nonneg _ (by decide)
  have h2 : k % 8 < 8 := Int.emod_lt_of_pos _ (by decide)
  unfold pts
  rcases (by omega : k % 8 = 0 ∨ k % 8 = 1 ∨ k % 8 = 2 ∨ k % 8 = 3 ∨ k % 8 = 4 ∨ k % 8 = 5 ∨ k % 8 = 6 ∨ k % 8 = 7) with e | e | e | e | e | e | e | e <;> rw [e] <;> exact ⟨rfl, by decide, by decide⟩
theorem cutD_map {α β : Type} (f : α → β) (xs : List α) (lo hi : Option Int) : Rb.cutD (xs.map f) lo hi = (Rb.cutD xs lo hi).map f := by
  unfold Rb.cutD
  rw [List.length_map, List.map_take, List.map_drop]
theorem cutD_len {α : Type} (xs : List α) (lo hi : Option Int) : (Rb.cutD xs lo hi).length ≤ xs.length := by
  unfold Rb.cutD
  rw [List.length_take, List.length_drop]
  omega
theorem eq_web (p : Int) (ts : List Tie) : cmpD .Eq (webD p ts) (webD p ts) = some true := by
  show (if (SeqAt.shaped (webD p ts) && SeqAt.shaped (webD p ts)) = true then some (PyData.eqv (webD p ts) (webD p ts)) else none) = _
  rw [shaped_web, eqv_web]
  rfl
theorem eq_ints (ns : List Int) : cmpD .Eq (.list (ns.map .int)) (.list (ns.map .int)) = some true := by
  show (if (SeqAt.shaped _ && SeqAt.shaped _) = true then some (PyData.eqvAll (ns.map .int) (ns.map .int)) else none) = _
  rw [shaped_ints, eqvAll_refl eqv_int]
  rfl
theorem run_law (F : FEnv) (ns : List Int) (hl : ns.length ≤ 63) (hc : ∀ k : Nat, F "_law_cell" [.dat (.list (ns.map .int)), .dat (.int k)] = some (.dat (.int (ns.getD k 0)), [.dat (.list (ns.map .int)), .dat (.int k)]))
    (hmk : ∀ p, 2 ≤ p → p ≤ 10 → F "Standing" [.dat (.int p)] = some (sv p [(0, [])], [.dat (.int p)])) (hS : ∀ p, 2 ≤ p → p ≤ 10 → Sp4 F p) : ∃ a, d_law.run F [.dat (.list (ns.map .int))] = some (.dat (.bool true), a) := by
  obtain ⟨q1, q2, q3⟩ := pts_at (ns.getD 0 0)
  generalize hp : pts (ns.getD 0 0) = p at *
  have S := hS p q2 q3
  have c0 := hc 0
  have mk := hmk p q2 q3
  have e60 := cutD_map PyData.int ns (some 1) (some 31)
  have l60 := cutD_len ns (some 1) (some 31)
  obtain ⟨st1, f1, rs, r, x, rfl, hr, hlen, hx, hh⟩ := forT_inv (enc := PyData.int) (tg := .nm 4) (b := (forB (nthS ir_law 3)).m 5) (M := ⟨1, 5, false, F⟩) (xs := Rb.cutD ns (some 1) (some 31)) (pre := [])
    (P := fun pre st => ∃ (rs : List Row) (r : Row) (x : SV), st = stL p (.list (ns.map .int)) (rs ++ [r]) x ∧ (∀ q ∈ rs ++ [r], RowOk p q) ∧ rs.length ≤ pre.length ∧ x.own = false ∧ ∃ tl, rs ++ [r] = (0, []) :: tl)
    (fun pre c post e st h => by
      obtain ⟨rs, r, x, rfl, h1, h2, h4, tl, h5⟩ := h
      have hpl : pre.length ≤ 63 := by
        have := congrArg List.length e
        simp at this
        omega
      obtain ⟨rs', r', g1, g2, g3, g4⟩ := body1 F p S (.list (ns.map .int)) rs r c h1 (by omega)
      exact ⟨stL p (.list (ns.map .int)) (rs ++ [r]) (.dat (.int c)), _, by simp [stL, h4], g1, rs', r', _, rfl, g2, by simp; omega, rfl, g4 _ _ h5⟩)
    (stL p (.list (ns.map .int)) ([] ++ [(0, [])]) .emp)
    ⟨[], (0, []), .emp, rfl, fun q hq => by
      have : q = (0, []) := by simpa using hq
      rw [this]
      exact ⟨by simp, by simp, List.Pairwise.nil, by simp⟩, by simp, rfl, [], rfl⟩
  simp at hlen
  have hlen' : rs.length ≤ 63 := by omega
  obtain ⟨st2, f2, rs2, r2, x2, rfl, hr2, hlen2, hx2, hh2⟩ := forT_inv (enc := PyData.int) (tg := .nm 4) (b := (forB (nthS ir_law 4)).m 5) (M := ⟨1, 5, false, F⟩) (xs := Rb.cutD ns (some 1) (some 31)) (pre := [])
    (P := fun pre st => ∃ (rs : List Row) (r : Row) (x : SV), st = stL p (.list (ns.map .int)) (rs ++ [r]) x ∧ (∀ q ∈ rs ++ [r], RowOk p q) ∧ rs.length ≤ 63 + pre.length ∧ x.own = false ∧ ∃ tl, rs ++ [r] = (0, []) :: tl)
    (fun pre c post e st h => by
      obtain ⟨rs, r, x, rfl, h1, h2, h4, tl, h5⟩ := h
      have hpl : pre.length ≤ 63 := by
        have := congrArg List.length e
        simp at this
        omega
      obtain ⟨rs', r', g1, g2, g3, g4⟩ := body2 F p S (.list (ns.map .int)) rs r c h1 (by omega)
      exact ⟨stL p (.list (ns.map .int)) (rs ++ [r]) (.dat (.int c)), _, by simp [stL, h4], g1, rs', r', _, rfl, g2, by simp; omega, rfl, g4 _ _ h5⟩)
    (stL p (.list (ns.map .int)) (rs ++ [r]) x) ⟨rs, r, x, rfl, hr, by simp; omega, hx, hh⟩
  simp at hlen2
  have hlen2' : rs2.length < 900 := by omega
  obtain ⟨r0, g1, g2, g3⟩ := wh_run F p S (.list (ns.map .int)) x2 fuel rs2 r2 hr2 hlen2' (by unfold fuel; omega)
  obtain ⟨tl, htl⟩ := hh2
  have e0 := g1 _ _ htl
  subst e0
  have dd := S.deeds [(0, [])]
  have ww := S.web_now [] (0, []) g2
  have nn := S.names [] (0, []) g2
  have hw := eq_web p []
  have hi := eq_ints []
  have hsl : slcD (.list (ns.map .int)) (some 1) (some 31) = some (.lst ((Rb.cutD ns (some 1) (some 31)).map .int)) := by rw [← e60]; rfl
  have dn : dicD [] = [] := rfl
  rw [List.getD_eq_getElem?_getD] at q1
  simp [sv, stateD, webD] at dd mk c0 ww nn hw hi
  simp [dn, forB, nthS, ir_law, IS.m, IE.m, IT.m, IO.m, IA.m, IL.m, II.m, Rf.ix, Cs.d, sv, rowD, stateD, stL] at f1 f2 g3
  simp [Df.run, d_law, ir_law, IS.m, IE.m, IT.m, IO.m, IA.m, IL.m, II.m, IP.m, Rf.ix, Cs.d, runF_s, sv, rowD, stateD, dn, c0, q1, mk, hsl, f1, f2, whS, g3, ww, hw, nn, hi, dd]
/-! ### the levels -/
theorem e_def {n : Nat} {g : Str} {d : Df} (h : (dfs.find? (fun d => decide (d.key = g)) = some d ∧ g ≠ "Standing") ∧ g ≠ "Standing.") (args : List SV) : envL dfs (n + 1) g args = d.run (envL dfs n) args := by
  rw [envL_def h.1.1 h.1.2 h.2]
theorem f_good_tie : (dfs.find? (fun d => decide (d.key = ("good_tie" : Str))) = some d_good_tie ∧ ("good_tie" : Str) ≠ "Standing") ∧ ("good_tie" : Str) ≠ "Standing." := ⟨⟨by kernel_rfl, by decide +kernel⟩, by decide +kernel⟩
theorem f_made_web : (dfs.find? (fun d => decide (d.key = ("made_web" : Str))) = some d_made_web ∧ ("made_web" : Str) ≠ "Standing") ∧ ("made_web" : Str) ≠ "Standing." := ⟨⟨by kernel_rfl, by decide +kernel⟩, by decide +kernel⟩
theorem f_web_with : (dfs.find? (fun d => decide (d.key = ("Standing.web_with" : Str))) = some d_Standing_web_with ∧ ("Standing.web_with" : Str) ≠ "Standing") ∧ ("Standing.web_with" : Str) ≠ "Standing." := ⟨⟨by kernel_rfl, by decide +kernel⟩, by decide +kernel⟩
theorem f_put : (dfs.find? (fun d => decide (d.key = ("Standing.put" : Str))) = some d_Standing_put ∧ ("Standing.put" : Str) ≠ "Standing") ∧ ("Standing.put" : Str) ≠ "Standing." := ⟨⟨by kernel_rfl, by decide +kernel⟩, by decide +kernel⟩
theorem f_drop : (dfs.find? (fun d => decide (d.key = ("Standing.drop" : Str))) = some d_Standing_drop ∧ ("Standing.drop" : Str) ≠ "Standing") ∧ ("Standing.drop" : Str) ≠ "Standing." := ⟨⟨by kernel_rfl, by decide +kernel⟩, by decide +kernel⟩
theorem f_back : (dfs.find? (fun d => decide (d.key = ("Standing.back" : Str))) = some d_Standing_back ∧ ("Standing.back" : Str) ≠ "Standing") ∧ ("Standing.back" : Str) ≠ "Standing." := ⟨⟨by kernel_rfl, by decide +kernel⟩, by decide +kernel⟩
theorem f_names : (dfs.find? (fun d => decide (d.key = ("Standing.names" : Str))) = some d_Standing_names ∧ ("Standing.names" : Str) ≠ "Standing") ∧ ("Standing.names" : Str) ≠ "Standing." := ⟨⟨by kernel_rfl, by decide +kernel⟩, by decide +kernel⟩
theorem f_web_now : (dfs.find? (fun d => decide (d.key = ("Standing.web_now" : Str))) = some d_Standing_web_now ∧ ("Standing.web_now" : Str) ≠ "Standing") ∧ ("Standing.web_now" : Str) ≠ "Standing." := ⟨⟨by kernel_rfl, by decide +kernel⟩, by decide +kernel⟩
theorem f_deeds : (dfs.find? (fun d => decide (d.key = ("Standing.deeds" : Str))) = some d_Standing_deeds ∧ ("Standing.deeds" : Str) ≠ "Standing") ∧ ("Standing.deeds" : Str) ≠ "Standing." := ⟨⟨by kernel_rfl, by decide +kernel⟩, by decide +kernel⟩
theorem f_cell : (dfs.find? (fun d => decide (d.key = ("_law_cell" : Str))) = some d__law_cell ∧ ("_law_cell" : Str) ≠ "Standing") ∧ ("_law_cell" : Str) ≠ "Standing." := ⟨⟨by kernel_rfl, by decide +kernel⟩, by decide +kernel⟩
theorem f_turn : (dfs.find? (fun d => decide (d.key = ("_law_turn" : Str))) = some d__law_turn ∧ ("_law_turn" : Str) ≠ "Standing") ∧ ("_law_turn" : Str) ≠ "Standing." := ⟨⟨by kernel_rfl, by decide +kernel⟩, by decide +kernel⟩
theorem f_whole : (dfs.find? (fun d => decide (d.key = ("_law_whole" : Str))) = some d__law_whole ∧ ("_law_whole" : Str) ≠ "Standing") ∧ ("_law_whole" : Str) ≠ "Standing." := ⟨⟨by kernel_rfl, by decide +kernel⟩, by decide +kernel⟩
theorem f_near : (dfs.find? (fun d => decide (d.key = ("_law_near" : Str))) = some d__law_near ∧ ("_law_near" : Str) ≠ "Standing") ∧ ("_law_near" : Str) ≠ "Standing." := ⟨⟨by kernel_rfl, by decide +kernel⟩, by decide +kernel⟩
theorem f_made : (dfs.find? (fun d => decide (d.key = ("_law_made" : Str))) = some d__law_made ∧ ("_law_made" : Str) ≠ "Standing") ∧ ("_law_made" : Str) ≠ "Standing." := ⟨⟨by kernel_rfl, by decide +kernel⟩, by decide +kernel⟩
theorem f_can : (dfs.find? (fun d => decide (d.key = ("_law_can" : Str))) = some d__law_can ∧ ("_law_can" : Str) ≠ "Standing") ∧ ("_law_can" : Str) ≠ "Standing." := ⟨⟨by kernel_rfl, by decide +kernel⟩, by decide +kernel⟩
theorem f_shown : (dfs.find? (fun d => decide (d.key = ("_law_shown" : Str))) = some d__law_shown ∧ ("_law_shown" : Str) ≠ "Standing") ∧ ("_law_shown" : Str) ≠ "Standing." := ⟨⟨by kernel_rfl, by decide +kernel⟩, by decide +kernel⟩
theorem f_go : (dfs.find? (fun d => decide (d.key = ("_law_go" : Str))) = some d__law_go ∧ ("_law_go" : Str) ≠ "Standing") ∧ ("_law_go" : Str) ≠ "Standing." := ⟨⟨by kernel_rfl, by decide +kernel⟩, by decide +kernel⟩
theorem f_lback : (dfs.find? (fun d => decide (d.key = ("_law_back" : Str))) = some d__law_back ∧ ("_law_back" : Str) ≠ "Standing") ∧ ("_law_back" : Str) ≠ "Standing." := ⟨⟨by kernel_rfl, by decide +kernel⟩, by decide +kernel⟩
theorem f_law : (dfs.find? (fun d => decide (d.key = ("law" : Str))) = some d_law ∧ ("law" : Str) ≠ "Standing") ∧ ("law" : Str) ≠ "Standing." := ⟨⟨by kernel_rfl, by decide +kernel⟩, by decide +kernel⟩
theorem sp_good_tie (n : Nat) (p : Int) (t : Tie) : envL dfs (n + 1) "good_tie" [.dat (.int p), .dat (tieD t)] = some (.dat (.bool (goodTie p t)), [.dat (.int p), .dat (tieD t)]) := by
  rw [e_def f_good_tie]
  exact run_good_tie _ p t
theorem sp_made_web (n : Nat) (p : Int) (ts : List Tie) (h1 : 1 ≤ p) (h2 : p ≤ 10) (hl : ts.length ≤ 24) (hg : ∀ t ∈ ts, goodTie p t = true) : envL dfs (n + 2) "made_web" [.dat (.int p), .dat (.list (ts.map tieD))] = some (.dat (webD p ts), [.dat (.int p), .dat (.list (ts.map tieD))]) := by
  rw [e_def f_made_web]
  exact run_made_web _ (sp_good_tie n) p ts h1 h2 hl hg
theorem sp_web_with (n : Nat) (p : Int) (h1 : 1 ≤ p) (h2 : p ≤ 10) (rs : List Row) (h : Held) (hl : h.length ≤ 24) (hg : ∀ x ∈ h, goodTie p x.2 = true) : envL dfs (n + 3) "Standing.web_with" [sv p rs, .dat (.tuple (h.map heldD))] = some (.dat (webD p (h.map (·.2))), [sv p rs, .dat (.tuple (h.map heldD))]) := by
  rw [e_def f_web_with]
  refine run_web_with _ p rs h hl (sp_made_web n p _ h1 h2 (by simp; exact hl) fun t ht => ?_)
  obtain ⟨x, hx, rfl⟩ := List.mem_map.mp ht
  exact hg x hx
theorem sp1 (n : Nat) (p : Int) (h1 : 1 ≤ p) (h2 : p ≤ 10) : Sp (envL dfs (n + 4)) p where
  turn c := by rw [e_def f_turn]; exact run_turn _ c
  whole m := by rw [e_def f_whole]; exact run_whole _ m
  near c := by
    rw [e_def f_near]
    exact run_near _ (fun c => by rw [e_def f_turn]; exact run_turn _ c) c p h1 h2
  can h t := by rw [e_def f_can]; exact run_can _ p h t
  back rs r h := by rw [e_def f_back]; exact run_back _ p rs r h
  drop rs r m a b c := by rw [e_def f_drop]; exact run_drop _ p rs r m a b c
  put rs r t ok a b g := by
    rw [e_def f_put]
    refine run_put _ p rs r t a b ⟨_, sp_web_with n p h1 h2 _ _ (by simp; omega) fun x hx => ?_⟩
    rcases List.mem_append.mp hx with hx | hx
    · exact ok.good x hx
    · have : x = (r.1, t) := by simpa using hx
      rw [this]; exact g
theorem sp_names (n : Nat) (p : Int) (rs : List Row) (r : Row) (ok : RowOk p r) : envL dfs (n + 1) "Standing.names" [sv p (rs ++ [r])] = some (.lst (r.2.map fun x => .int x.1), [sv p (rs ++ [r])]) := by
  rw [e_def f_names]; exact run_names _ p rs r ok.len
theorem sp_web_now (n : Nat) (p : Int) (h1 : 1 ≤ p) (h2 : p ≤ 10) (rs : List Row) (r : Row) (ok : RowOk p r) : envL dfs (n + 4) "Standing.web_now" [sv p (rs ++ [r])] = some (.dat (webD p (r.2.map (·.2))), [sv p (rs ++ [r])]) := by
  rw [e_def f_web_now]
  exact run_web_now _ p rs r (sp_web_with n p h1 h2 _ _ ok.len ok.good)
theorem sp_made (n : Nat) (h : Held) (a : Asc h) (b : h.length ≤ 24) : envL dfs (n + 1) "_law_made" [.dat (.dict (dicD h))] = some (.dat (.tuple ((h.map (·.2)).map tieD)), [.dat (.dict (dicD h))]) := by
  rw [e_def f_made]; exact run_made _ h a b
theorem sp_deeds (n : Nat) (p : Int) (rs : List Row) : envL dfs (n + 1) "Standing.deeds" [sv p rs] = some (.dat (.int ((rs.length : Nat) - 1)), [sv p rs]) := by
  rw [e_def f_deeds]; exact run_deeds _ p rs
theorem sp_shown (n : Nat) (p : Int) (h1 : 1 ≤ p) (h2 : p ≤ 10) (rs : List Row) (r : Row) (ok : RowOk p r) : envL dfs (n + 5) "_law_shown" [sv p (rs ++ [r]), .dat (.int p), .dat (.dict (dicD r.2)), .dat (.int (((rs ++ [r]).length : Nat) - 1))] = some (.dat (.bool true), [sv p (rs ++ [r]), .dat (.int p), .dat (.dict (dicD r.2)), .dat (.int (((rs ++ [r]).length : Nat) - 1))]) := by
  rw [e_def f_shown]
  exact run_shown _ p rs r ok.asc ok.len (sp_web_now n p h1 h2 rs r ok) (sp_made (n + 3) r.2 ok.asc ok.len) (sp_deeds (n + 3) p _) (by rw [sp_names (n + 3) p rs r ok, List.map_map]; rfl) fun m => by rw [e_def f_whole]; exact run_whole _ m
theorem sp4 (n : Nat) (p : Int) (h1 : 2 ≤ p) (h2 : p ≤ 10) : Sp4 (envL dfs (n + 6)) p where
  turn c := by rw [e_def f_turn]; exact run_turn _ c
  go rs r c h hl := by
    rw [e_def f_go]
    exact run_go _ p (sp1 (n + 1) p (by omega) h2) rs r c h hl
  back rs r q ok hl := by
    rw [e_def f_lback]
    exact run_back54 _ p h1 (sp1 (n + 1) p (by omega) h2) (fun rs r ok => sp_shown n p (by omega) h2 rs r ok) rs r q ok hl
  web_now rs r ok := sp_web_now (n + 2) p (by omega) h2 rs r ok
  deeds rs := sp_deeds (n + 5) p rs
  names rs r ok := sp_names (n + 5) p rs r ok
theorem law_true (ns : List Int) (hl : ns.length ≤ 63) (hb : ∀ z ∈ ns, Builtin.Int.intBits z ≤ 1048576) : ∃ a, envL dfs 24 "law" [.dat (.list (ns.map .int))] = some (.dat (.bool true), a) := by
  have e : envL dfs 24 "law" [.dat (.list (ns.map .int))] = d_law.run (envL dfs 23) [.dat (.list (ns.map .int))] := e_def f_law _
  rw [e]
  refine run_law _ ns hl (fun k => ?_) (fun p h1 h2 => ?_) fun p h1 h2 => sp4 17 p h1 h2
  · have e : envL dfs 23 "_law_cell" [.dat (.list (ns.map .int)), .dat (.int k)] = d__law_cell.run (envL dfs 22) [.dat (.list (ns.map .int)), .dat (.int k)] := e_def f_cell _
    rw [e]
    exact run_cell _ ns k
  · have e : envL dfs 23 "Standing" [.dat (.int p)] = iniF (envL dfs 21) [.dat (.int p)] := ini_def (n := 21)
    have mw : envL dfs 21 "made_web" [.dat (.int p), .dat (.list ([].map tieD))] = _ := sp_made_web 19 p [] (by omega) h2 (by simp) (by simp)
    rw [e]
    unfold iniF
    have mw' : envL dfs 21 "made_web" [.dat (.int p), .dat (.list [])] = _ := mw
    simp only [mw']
    rfl
end Rb54
namespace Rb54
open PySem L2 PyProof.Rows Rb
abbrev R : PySem.W.OpenRow := PySem.W.OpenLaw.row PySem.Challenge.rw_ringbase_k54_taken_back
abbrev hk : PySem.W.Hook := He.hookD 6 fa fn
def ob (s : PySem.W.SharedT) : He.AlD := He.obsDG 6 fa fn (HandSHeadRun.getT s)
theorem ob_eq (s : PySem.W.SharedT) : ob s = hk.obs s.abs := He.obsDG_eq (HandSHeadRun.getT_eq s)
def nm0 : List Str := ["_wall", "RingError", "BadWeb", "NoDeed", "MOST_POINTS", "MOST_TIES", "LONGEST", "good_tie", "made_web", "Standing", "_law_cell", "_law_turn", "_law_whole", "_law_near", "_law_made", "_law_can", "_law_shown", "_law_go", "_law_back"]
def loose : List Str := nm0
theorem run (w : World) : HandSHeadRun.RunEq R (PySem.W.view R.prog [23]) hk ob 7000 loose w := by
  intro os
  kernel_rfl
end Rb54
open PySem PySem.W PySem.Calls PyProof.Rows
theorem PySem.Challenge.cw_ringbase_k54_taken_back_holds : PySem.Challenge.rw_ringbase_k54_taken_back.Holds := by
  w_on; o_law
  refine HandSHeadRun.head_any (r := OpenLaw.row PySem.Challenge.rw_ringbase_k54_taken_back) (q := view (OpenLaw.row PySem.Challenge.rw_ringbase_k54_taken_back).prog [23]) (H := Rb54.hk) (ob := Rb54.ob) (M := 7000) (loose := Rb54.loose) (d := HandSHeadRun.topDef (OpenLaw.row PySem.Challenge.rw_ringbase_k54_taken_back).prog 23) (kwd := []) Rb54.ob_eq
    (by kernel_rfl) (fun s => by kernel_rfl) Rb54.run (by kernel_rfl) (by kernel_rfl) (by kernel_rfl) (by rfl) (by first | assumption | decide +kernel) (by decide +kernel) ⟨rfl, rfl, rfl, rfl, rfl, by decide +kernel⟩ ?hw ?hc
  case hw => w_witness2
  case hc =>
    refine Rb.walkB (l := PySem.Challenge.rw_ringbase_k54_taken_back) (k := 24+2) rfl (by kernel_rfl) ⟨rfl, by decide, by decide⟩ ?F
    intro w mg fa h Y G hmg0
    obtain ⟨K, KX, c⟩ := Y
    have hmg : mg ("law" : PySem.Str) = some (.ref fa) := by
      have e : (HandSHeadRun.topDef (OpenLaw.row PySem.Challenge.rw_ringbase_k54_taken_back).prog 23).name = ("law" : PySem.Str) := by kernel_rfl
      rw [← e]
      exact hmg0
    exact Rb.law_end Rb54.txt Rb54.mes KX G hmg c 24 (by decide +kernel) fun ns hl hb => Rb54.law_true ns hl hb
