import PyProof.Rows.All
import Wide.All
import OpenK.AllK
import Wide.FinOn
import HandS.ForMost
import HandS.ForExc
import HandS.TryMany
import HandS.ExcField
import HandS.IsInst
import HandS.Lambda
import HandS.Walk
import HandS.Zip
import HandS.Wide
import HandS.Style
import HandS.Deep
import HandS.TupAny
import HandS.NoneIn
import KE.KExcInit
import KE.GoesMore
import HandS.FStr
import HandS.Codes
import HandS.EndTab
import HandS.HeadWalk
import PyProof.ReprRoads
import HandS.StrMore
import HandS.StrSplit
import HandS.Star
import KE.DataCmp
import HandS.DictComp
import HandS.TupLen
import PySem.Challenge.RW_firmwide_k04_refusals_of_pages
set_option linter.all false
/-! VI, part 1: the data that a program computes with, and its steps as plain Lean functions. -/
namespace VI
/-- data: lists and dicts as trees; scr: the law's script; fn: a def of the text -/
inductive Ty where
  | int | bool | str | tuple | list | dict
inductive W where
  | non | bl (b : Bool) | int (i : Int) | str (s : List Nat)
  | tup (xs : List W) | lst (xs : List W) | dct (ks vs : List W)
  | scr (ns : List Int) | fn (i : Nat) | cls (t : Ty)
  deriving Inhabited
/-- a slot of a frame: unset; seen by others (never changed again); own (changed in place); locked (read only, not handed on).
    l: lent by a caller, the name is not bound anew -/
inductive Slot where
  | no | fr (l : Bool) (w : W) | own (l : Bool) (w : W) | lk (w : W)
  deriving Inhabited
abbrev Slots := List Slot
inductive R (α : Type) where
  | ok (a : α) (ss : Slots) | exc (c : Nat) (w : W) (ss : Slots)
abbrev M (α : Type) := Slots → Option (R α)
def mret {α : Type} (a : α) : M α := fun ss => some (.ok a ss)
def mbd {α β : Type} (m : M α) (f : α → M β) : M β := fun ss =>
  match m ss with
  | none => none
  | some (.exc c w s) => some (.exc c w s)
  | some (.ok a s) => f a s
def stuck {α : Type} : M α := fun _ => none
def lift {α : Type} (o : Option α) : M α := fun ss => o.map fun a => .ok a ss
/-- no exception may come out -/
def calm {α : Type} (m : M α) : M α := fun ss => match m ss with
  | some (.ok a s) => some (.ok a s)
  | _ => none

/-! ### == -/
def b2i (b : Bool) : Int := if b then 1 else 0
mutual
def eqW : W → W → Bool
  | .non, .non => true
  | .bl a, .bl b => a == b
  | .bl a, .int j => b2i a == j
  | .int i, .bl b => i == b2i b
  | .int i, .int j => i == j
  | .str a, .str b => a == b
  | .tup xs, .tup ys => eqWs xs ys
  | .lst xs, .lst ys => eqWs xs ys
  | _, _ => false
def eqWs : List W → List W → Bool
  | [], [] => true
  | x :: xs, y :: ys => eqW x y && eqWs xs ys
  | _, _ => false
end
/-- a text without odd signs -/
def okS : List Nat → Bool
  | [] => true
  | c :: r => decide (c < 1114112) && okS r
mutual
/-- data that == tells apart by its parts, n deep: no dict, no script, no def within -/
def flat : Nat → W → Bool
  | _, .non => true
  | _, .bl _ => true
  | _, .int _ => true
  | _, .str s => okS s
  | 0, .tup _ => false
  | 0, .lst _ => false
  | n + 1, .tup xs => flats n xs
  | n + 1, .lst xs => flats n xs
  | _, _ => false
def flats : Nat → List W → Bool
  | _, [] => true
  | n, x :: xs => flat n x && flats n xs
end
/-- without parts -/
def sc1 : W → Bool
  | .non => true
  | .bl _ => true
  | .int _ => true
  | .str _ => true
  | _ => false
def sc1s : List W → Bool
  | [] => true
  | x :: xs => sc1 x && sc1s xs
def bEq : List W → Option W
  | [a, b] => if flat 40 a && flat 40 b then some (.bl (eqW a b)) else none
  | _ => none
def bNe : List W → Option W
  | [a, b] => if flat 40 a && flat 40 b then some (.bl (!eqW a b)) else none
  | _ => none

/-! ### numbers, texts -/
def bAdd : List W → Option W
  | [.int i, .int j] => some (.int (i + j))
  | [.str a, .str b] => if a.length + b.length ≤ 100000 then some (.str (a ++ b)) else none
  | [.lst a, .lst b] => if a.length + b.length ≤ 100000 then some (.lst (a ++ b)) else none
  | [.tup a, .tup b] => if a.length + b.length ≤ 100000 then some (.tup (a ++ b)) else none
  | _ => none
def bSub : List W → Option W
  | [.int i, .int j] => some (.int (i - j))
  | _ => none
def small64 (i : Int) : Bool := decide (i.natAbs < 18446744073709551616)
def bMul : List W → Option W
  | [.int i, .int j] => if small64 i || small64 j then some (.int (i * j)) else none
  | _ => none
def bFdiv : List W → Option W
  | [.int i, .int j] => if 0 < j ∧ j < 1073741824 then some (.int (i / j)) else none
  | _ => none
def bMod : List W → Option W
  | [.int i, .int j] => if 0 < j then some (.int (i % j)) else none
  | _ => none
def bNeg : List W → Option W
  | [.int i] => some (.int (-i))
  | _ => none
def ltL : List Nat → List Nat → Bool
  | [], [] => false
  | [], _ :: _ => true
  | _ :: _, [] => false
  | a :: x, b :: y => if a < b then true else if b < a then false else ltL x y
def bLt : List W → Option W
  | [.int i, .int j] => some (.bl (decide (i < j)))
  | [.str a, .str b] => some (.bl (ltL a b))
  | _ => none
def bLe : List W → Option W
  | [.int i, .int j] => some (.bl (decide (i ≤ j)))
  | [.str a, .str b] => some (.bl (!ltL b a))
  | _ => none
def bGt : List W → Option W
  | [.int i, .int j] => some (.bl (decide (j < i)))
  | [.str a, .str b] => some (.bl (ltL b a))
  | _ => none
def bGe : List W → Option W
  | [.int i, .int j] => some (.bl (decide (j ≤ i)))
  | [.str a, .str b] => some (.bl (!ltL a b))
  | _ => none
def isNon : W → Bool
  | .non => true
  | _ => false
def bIs : List W → Option W
  | [w, .non] => some (.bl (isNon w))
  | [.bl a, .bl b] => some (.bl (a == b))
  | _ => none
def bIsNot : List W → Option W
  | [w, .non] => some (.bl (!isNon w))
  | [.bl a, .bl b] => some (.bl (!(a == b)))
  | _ => none
/-- isinstance -/
def isT : Ty → W → Option Bool
  | _, .fn _ => none
  | _, .scr _ => none
  | _, .cls _ => none
  | .int, .int _ => some true
  | .int, .bl _ => some true
  | .bool, .bl _ => some true
  | .str, .str _ => some true
  | .tuple, .tup _ => some true
  | .list, .lst _ => some true
  | .dict, .dct _ _ => some true
  | _, _ => some false
def bIsT : List W → Option W
  | [w, .cls t] => (isT t w).map .bl
  | _ => none
def bLen : List W → Option W
  | [.str s] => if s.length ≤ 100000 then some (.int s.length) else none
  | [.tup xs] => some (.int xs.length)
  | [.lst xs] => some (.int xs.length)
  | [.scr ns] => some (.int ns.length)
  | _ => none
def bAbs : List W → Option W
  | [.int i] => some (.int (if i < 0 then -i else i))
  | _ => none
def bMax2 : List W → Option W
  | [.int i, .int j] => some (.int (if j > i then j else i))
  | _ => none
def bMin2 : List W → Option W
  | [.int i, .int j] => some (.int (if j < i then j else i))
  | _ => none
def bInt1 : List W → Option W
  | [.int i] => some (.int i)
  | [.bl b] => some (.int (if b then 1 else 0))
  | _ => none
/-- all of a list of truth values -/
def blsOf : List W → Option (List Bool)
  | [] => some []
  | .bl b :: r => (blsOf r).map (b :: ·)
  | _ :: _ => none
def bAll : List W → Option W
  | [.lst xs] => (blsOf xs).map fun bs => .bl (bs.all id)
  | _ => none
def bAny : List W → Option W
  | [.lst xs] => (blsOf xs).map fun bs => .bl (bs.any id)
  | _ => none
/-- x in xs, xs a tuple or a list of data -/
def inWs (x : W) : List W → Bool
  | [] => false
  | y :: ys => if eqW y x then true else inWs x ys
def inL (c : Nat) : List Nat → Bool
  | [] => false
  | d :: r => if c == d then true else inL c r
def bIn : List W → Option W
  | [x, .tup ys] => if sc1 x && sc1s ys then some (.bl (inWs x ys)) else none
  | [x, .lst ys] => if sc1 x && sc1s ys then some (.bl (inWs x ys)) else none
  | [.str [c], .str z] => some (.bl (inL c z))
  | _ => none
def bNotIn : List W → Option W
  | [x, .tup ys] => if sc1 x && sc1s ys then some (.bl (!inWs x ys)) else none
  | [x, .lst ys] => if sc1 x && sc1s ys then some (.bl (!inWs x ys)) else none
  | [.str [c], .str z] => some (.bl (!inL c z))
  | _ => none
/-- place i among n -/
def ixN (n : Nat) (i : Int) : Option Nat := if 0 ≤ i then (if i < n then some i.toNat else none) else if -(n : Int) ≤ i then some (i + n).toNat else none
def bIx : List W → Option W
  | [.tup xs, .int i] => (ixN xs.length i).bind fun j => xs[j]?
  | [.lst xs, .int i] => (ixN xs.length i).bind fun j => xs[j]?
  | [.scr ns, .int i] => (ixN ns.length i).bind fun j => ns[j]?.map .int
  | [.str s, .int i] => if s.length ≤ 100000 then (ixN s.length i).bind fun j => s[j]?.map fun c => .str [c] else none
  | _ => none
/-- a slice's bound as a place among n (d where it is left out) -/
def sIx (n d : Nat) : Option Int → Nat
  | none => d
  | some v => if v < 0 then (v + (n : Int)).toNat else min v.toNat n
def cut {α : Type} (xs : List α) (lo hi : Option Int) : List α := (xs.drop (sIx xs.length 0 lo)).take (sIx xs.length xs.length hi - sIx xs.length 0 lo)
def cutW (lo hi : Option Int) : W → Option W
  | .tup xs => some (.tup (cut xs lo hi))
  | .lst xs => some (.lst (cut xs lo hi))
  | .str s => if s.length ≤ 100000 then some (.str (cut s lo hi)) else none
  | _ => none
def bSl0 : List W → Option W
  | [w] => cutW none none w
  | _ => none
def bSlL : List W → Option W
  | [w, .int i] => cutW (some i) none w
  | _ => none
def bSlH : List W → Option W
  | [w, .int j] => cutW none (some j) w
  | _ => none
def bSlB : List W → Option W
  | [w, .int i, .int j] => cutW (some i) (some j) w
  | _ => none
def truthW : W → Option Bool
  | .non => some false
  | .bl b => some b
  | .int i => some (i != 0)
  | .str s => if s.length ≤ 100000 then some (!s.isEmpty) else none
  | .tup xs => some (!xs.isEmpty)
  | .lst xs => some (!xs.isEmpty)
  | _ => none

/-! ### expressions -/
def eC (w : W) : M W := mret w
def eVar (i : Nat) : M W := fun ss => match ss[i]? with
  | some (.fr _ w) => some (.ok w ss)
  | some (.own l w) => some (.ok w (ss.set i (.fr l w)))
  | _ => none
def rdSlot (i : Nat) : M W := fun ss => match ss[i]? with
  | some (.fr _ w) => some (.ok w ss)
  | some (.own _ w) => some (.ok w ss)
  | some (.lk w) => some (.ok w ss)
  | _ => none
/-- an operand: an expression, or a name that is only read -/
inductive Opd where
  | ev (m : M W) | pk (i : Nat)
def opds : List Opd → M (List W)
  | [] => mret []
  | .ev m :: r => mbd m fun w => mbd (opds r) fun ws => mret (w :: ws)
  | .pk i :: r => mbd (rdSlot i) fun _ => mbd (opds r) fun ws => mbd (rdSlot i) fun w => mret (w :: ws)
def bi (f : List W → Option W) (os : List Opd) : M W := mbd (opds os) fun ws => lift (f ws)
def exps : List (M W) → M (List W)
  | [] => mret []
  | m :: r => mbd m fun w => mbd (exps r) fun ws => mret (w :: ws)
def eTup (ms : List (M W)) : M W := mbd (exps ms) fun ws => mret (.tup ws)
def eLst (ms : List (M W)) : M W := mbd (exps ms) fun ws => mret (.lst ws)
/-- a whole number is wanted -/
def mInt (m : M W) : M W := mbd m fun w => match w with | .int i => mret (.int i) | _ => stuck
/-! tests -/
def tE (m : M W) : M Bool := mbd m fun w => lift (truthW w)
/-- a test that is a truth value for sure -/
def tB (m : M W) : M Bool := mbd m fun w => lift (match w with | .bl b => some b | _ => none)
def tAnd (a b : M Bool) : M Bool := mbd a fun k => if k then b else mret false
def tOr (a b : M Bool) : M Bool := mbd a fun k => if k then mret true else b
def tNot (a : M Bool) : M Bool := mbd a fun k => mret (!k)
def isBl (w : W) : Option Bool := match w with | .bl b => some b | _ => none
def eAnd (a b : M W) : M W := mbd a fun w => match w with | .bl true => b | .bl false => mret (.bl false) | _ => stuck
def eOr (a b : M W) : M W := mbd a fun w => match w with | .bl true => mret (.bl true) | .bl false => b | _ => stuck
def eNot (a : M W) : M W := mbd a fun w => match w with | .bl k => mret (.bl !k) | _ => stuck
def eIf (t : M Bool) (a b : M W) : M W := mbd t fun k => if k then a else b
/-- a op b op' c -/
def eChain (f g : List W → Option W) (a b c : M W) : M W := mbd a fun x => mbd b fun y => mbd (lift ((f [x, y]).bind isBl)) fun k =>
  if k then mbd c fun z => lift (g [y, z]) else mret (.bl false)

/-! ### statements -/
inductive Flow where
  | nx | brk | cont | ret (o : Bool) (w : W)
def free : Slot → Bool
  | .fr true _ => false
  | .own true _ => false
  | .lk _ => false
  | _ => true
def store (i : Nat) (s : Slot) : M Unit := fun ss => match ss[i]? with
  | some t => if free t then some (.ok () (ss.set i s)) else none
  | none => none
/-- a value that was just made, or one without parts -/
def ownS (w : W) : Slot := match w with
  | .lst _ => .own false w
  | .dct _ _ => .own false w
  | _ => .fr false w
def sPass : M Flow := mret .nx
def sAsg (i : Nat) (m : M W) : M Flow := mbd m fun w => mbd (store i (.fr false w)) fun _ => mret .nx
def sAsgO (i : Nat) (m : M W) : M Flow := mbd m fun w => mbd (store i (ownS w)) fun _ => mret .nx
def sSeq (a b : M Flow) : M Flow := mbd a fun f => match f with | .nx => b | f => mret f
def sIf (t : M Bool) (a b : M Flow) : M Flow := mbd t fun k => if k then a else b
def sRet (m : M W) : M Flow := mbd m fun w => mret (.ret false w)
def sRetO (m : M W) : M Flow := mbd m fun w => mret (.ret true w)
def sExpr (m : M W) : M Flow := mbd m fun _ => mret .nx
def sBrk : M Flow := mret .brk
def sCont : M Flow := mret .cont
def sRaise (c : Nat) (m : M W) : M Flow := mbd m fun w ss => some (.exc c w ss)
/-- targets of an assignment from a tuple -/
inductive Tg where
  | one (i : Nat) | many (ts : List Tg)
mutual
def asg : Tg → W → M Unit
  | .one i, w => store i (.fr false w)
  | .many ts, .tup ws => asgs ts ws
  | .many ts, .lst ws => asgs ts ws
  | .many _, _ => stuck
def asgs : List Tg → List W → M Unit
  | [], [] => mret ()
  | t :: ts, w :: ws => mbd (asg t w) fun _ => asgs ts ws
  | _, _ => stuck
end
def tgIx : Tg → List Nat
  | .one i => [i]
  | .many ts => tgIxs ts
where tgIxs : List Tg → List Nat
  | [] => []
  | t :: ts => tgIx t ++ tgIxs ts
def sUnp (t : Tg) (m : M W) : M Flow := mbd m fun w => mbd (calm (asg t w)) fun _ => mret .nx
/-- x op= e, numbers and texts -/
def sAug (i : Nat) (f : List W → Option W) (m : M W) : M Flow := fun ss => match ss[i]? with
  | some (.fr false x) => (mbd m fun y => mbd (lift (f [x, y])) fun z => mbd (store i (.fr false z)) fun _ => mret .nx) ss
  | _ => none
/-- x.append(e), x a list of one's own -/
def ownL (i : Nat) : M (List W) := fun ss => match ss[i]? with
  | some (.own _ (.lst xs)) => some (.ok xs ss)
  | _ => none
def putL (i : Nat) (xs : List W) : M Unit := fun ss => match ss[i]? with
  | some (.own l (.lst _)) => some (.ok () (ss.set i (.own l (.lst xs))))
  | _ => none
def sApp (i : Nat) (m : M W) : M Flow := mbd (ownL i) fun _ => mbd m fun w => mbd (ownL i) fun xs => if xs.length < 100000 then mbd (putL i (xs ++ [w])) fun _ => mret .nx else stuck
/-- x.extend(e) -/
def sExt (i : Nat) (m : M W) : M Flow := mbd (ownL i) fun _ => mbd m fun w => mbd (ownL i) fun xs => match w with
  | .lst ys => if xs.length + ys.length ≤ 100000 then mbd (putL i (xs ++ ys)) fun _ => mret .nx else stuck
  | _ => stuck
/-- x[k] = e, x a list of one's own -/
def sSetL (i : Nat) (mk mv : M W) : M Flow := mbd mv fun v => mbd (ownL i) fun _ => mbd mk fun k => mbd (ownL i) fun xs => match k with
  | .int j => match ixN xs.length j with
    | some n => mbd (putL i (xs.set n v)) fun _ => mret .nx
    | none => stuck
  | _ => stuck
/-- return x -/
def sRetV (i : Nat) : M Flow := fun ss => match ss[i]? with
  | some (.own false w) => some (.ok (.ret true w) ss)
  | _ => mbd (eVar i) (fun w => mret (.ret false w)) ss

/-! ### loops -/
/-- a name's own thing is locked meanwhile -/
def lockd {α : Type} (i : Nat) (m : M α) : M α := fun ss => match ss[i]? with
  | some (.own l w) => match m (ss.set i (.lk w)) with
    | none => none
    | some (.ok a s) => some (.ok a (s.set i (.own l w)))
    | some (.exc k v s) => some (.exc k v (s.set i (.own l w)))
  | _ => m ss
/-- a name that nobody changes meanwhile -/
def eLk (i : Nat) : M W := fun ss => match ss[i]? with
  | some (.fr _ w) => some (.ok w ss)
  | some (.lk w) => some (.ok w ss)
  | _ => none
def turns (tg : W → M Unit) (body : M Flow) : List W → M Flow
  | [] => mret .nx
  | w :: ws => mbd (calm (tg w)) fun _ => mbd body fun f => match f with
    | .nx => turns tg body ws
    | .cont => turns tg body ws
    | .brk => mret .nx
    | .ret o v => mret (.ret o v)
/-- what a for walks -/
def items : W → Option (List W)
  | .tup xs => some xs
  | .lst xs => some xs
  | .str s => some (s.map fun c => .str [c])
  | .scr ns => some (ns.map .int)
  | _ => none
def upto (lo : Int) : Nat → List W
  | 0 => []
  | n + 1 => .int lo :: upto (lo + 1) n
def rangeOk (i : Int) : Bool := decide (-4611686018427387904 ≤ i) && decide (i < 4611686018427387904)
def iRange1 (m : M W) : M (List W) := mbd m fun w => lift (match w with
  | .int n => if rangeOk n then some (upto 0 n.toNat) else none
  | _ => none)
def iRange2 (a b : M W) : M (List W) := mbd a fun x => mbd b fun y => lift (match x, y with
  | .int i, .int j => if rangeOk i && rangeOk j then some (upto i (j - i).toNat) else none
  | _, _ => none)
def iEv (m : M W) : M (List W) := mbd m fun w => lift (items w)
def numbered : Int → List W → List W
  | _, [] => []
  | n, x :: xs => .tup [.int n, x] :: numbered (n + 1) xs
def enumW : W → Option (List W)
  | .lst xs => some (numbered 0 xs)
  | .str s => some (numbered 0 (s.map fun c => .str [c]))
  | _ => none
def iEnum (m : M W) : M (List W) := mbd m fun w => lift (enumW w)
def zipped : List W → List W → List W
  | x :: xs, y :: ys => .tup [x, y] :: zipped xs ys
  | _, _ => []
def zipW : W → W → Option (List W)
  | .lst xs, .lst ys => some (zipped xs ys)
  | .tup xs, .tup ys => some (zipped xs ys)
  | _, _ => none
def iZip (a b : M W) : M (List W) := mbd a fun x => mbd b fun y => lift (zipW x y)
def sFor (it : M (List W)) (tg : W → M Unit) (body : M Flow) : M Flow := mbd it fun ws => turns tg body ws
def sWhile (t : M Bool) (body : M Flow) : Nat → M Flow
  | 0 => stuck
  | n + 1 => mbd t fun k => if k then (mbd body fun f => match f with
      | .nx => sWhile t body n
      | .cont => sWhile t body n
      | .brk => mret .nx
      | .ret o v => mret (.ret o v)) else mret .nx
/-! comprehensions: os, their own slots -/
def wipe (os : List Nat) (ss : Slots) : Slots := os.foldl (fun s i => s.set i .no) ss
def freeAt (ss : Slots) (i : Nat) : Bool := match ss[i]? with
  | some s => free s
  | none => false
def mwipe (os : List Nat) : M Unit := fun ss => if os.all (freeAt ss) then some (.ok () (wipe os ss)) else none
def compGo (os : List Nat) (tg : W → M Unit) (ifs : M Bool) (elt : M W) : List W → List W → M (List W)
  | [], acc => mret acc.reverse
  | w :: ws, acc => mbd (calm (tg w)) fun _ => mbd ifs fun k =>
    if k then mbd elt fun v => if acc.length < 100000 then mbd (mwipe os) fun _ => compGo os tg ifs elt ws (v :: acc) else stuck
    else mbd (mwipe os) fun _ => compGo os tg ifs elt ws acc
def eComp (os : List Nat) (it : M (List W)) (tg : W → M Unit) (ifs : M Bool) (elt : M W) : M W :=
  mbd it fun ws => calm (mbd (mwipe os) fun _ => mbd (compGo os tg ifs elt ws []) fun vs => mret (.lst vs))

/-! ### calls -/
inductive Arg where
  | ev (m : M W) | lend (i : Nat) | pk (i : Nat)
def addLend (i : Nat) (ws : List Slot) : M (List Slot) := fun ss => match ss[i]? with
  | some (.own _ w) => some (.ok (.own true w :: ws) ss)
  | _ => none
def args : List Arg → M (List Slot)
  | [] => mret []
  | .ev m :: r => mbd m fun w => mbd (args r) fun ws => mret (.fr false w :: ws)
  | .lend i :: r => mbd (rdSlot i) fun _ => mbd (args r) fun ws => addLend i ws
  | .pk i :: r => mbd (rdSlot i) fun _ => mbd (args r) fun ws => mbd (rdSlot i) fun w => mret (.lk w :: ws)
/-- lent things come back -/
def back1 (l : Bool) : Slot → Slot
  | .own _ w => .own l w
  | .fr _ w => .fr l w
  | s => s
def back : List Arg → List Slot → Slots → Slots
  | .lend i :: r, s :: ss, t => back r ss (match t[i]? with | some (.own l _) => t.set i (back1 l s) | _ => t)
  | _ :: r, _ :: ss, t => back r ss t
  | _, _, t => t
/-- what a def hands back: own or not, the value, the parameters' slots -/
abbrev FOut := Option (R (Bool × W))
def ends : List Slot → Slots → List Slot
  | [], _ => []
  | a :: as, ss => (if free a then .no else ss.headD .no) :: ends as ss.tail
def runFn (n : Nat) (body : M Flow) (as : List Slot) : FOut := match body (as ++ List.replicate (n - as.length) .no) with
  | some (.ok (.ret o w) ss) => some (.ok (o, w) (ends as ss))
  | some (.ok .nx ss) => some (.ok (false, .non) (ends as ss))
  | some (.exc c w ss) => some (.exc c w (ends as ss))
  | _ => none
def callM (ok : Bool → W → Bool) (f : List Slot → FOut) (as : List Arg) : M W := mbd (args as) fun vs ss => match f vs with
  | some (.ok (o, w) fin) => if ok o w then some (.ok w (back as fin ss)) else none
  | some (.exc c w fin) => some (.exc c w (back as fin ss))
  | none => none
def eCall (f : List Slot → FOut) (as : List Arg) : M W := callM (fun _ _ => true) f as
def isMutW : W → Bool
  | .lst _ => true
  | .dct _ _ => true
  | _ => false
/-- .. where a value of one's own is wanted -/
def eCallO (f : List Slot → FOut) (as : List Arg) : M W := callM (fun o w => o || !isMutW w) f as
def lendIx : List Arg → List Nat
  | [] => []
  | .lend i :: r => i :: lendIx r
  | _ :: r => lendIx r
def lendsOk : List Arg → Bool
  | [] => true
  | .lend i :: r => !(lendIx r).contains i && !(pkIx r).contains i && lendsOk r
  | .pk i :: r => !(lendIx r).contains i && lendsOk r
  | _ :: r => lendsOk r
where pkIx : List Arg → List Nat
  | [] => []
  | .pk i :: r => i :: pkIx r
  | _ :: r => pkIx r
/-- told(lambda: e) -/
def eMet (hd : Nat → W → Option W) (m : M W) : M W := fun ss => match m ss with
  | some (.ok w s) => some (.ok (.tup [.str [116, 111, 108, 100], w]) s)
  | some (.exc c w s) => (hd c w).map fun v => .ok v s
  | none => none
end VI

set_option Elab.async false
set_option linter.all false
set_option maxRecDepth 100000
set_option maxHeartbeats 1000000
/-! VI, part 2: how data lies in the heap; what a step keeps. -/
namespace VI
open PySem L2
/-- a text by its signs -/
def mkS (l : List Nat) : Str := ⟨l.toArray⟩
/-- the text at hand: what the top has written, where its defs and its exceptions' classes stand, the one field of each -/
structure Cn where
  K : PySem.W.Frag
  fa : Nat → Addr
  ca : Nat → Addr
  ef : Nat → Option Str
  T : List (Addr × Str)
def keyW : W → Option Key
  | .int i => some (.inl i)
  | .str s => some (.inr (mkS s))
  | _ => none
def keysW : List W → Option (List Key)
  | [] => some []
  | w :: ws => match keyW w, keysW ws with
    | some k, some ks => some (k :: ks)
    | _, _ => none
def keyT : W → Option (List Key)
  | .tup ws => keysW ws
  | _ => none
def tyN : Ty → String
  | .int => "int"
  | .bool => "bool"
  | .str => "str"
  | .tuple => "tuple"
  | .list => "list"
  | .dict => "dict"
/-- a dict of the keys ks and the values vs at a -/
def DctAt (H : Hp) (a : Addr) (ks : List W) (vs : List V) : Prop :=
  (∃ kvs : List (Key × V), Rd H a (.dK kvs) ∧ ks.map keyW = kvs.map (fun p => some p.1) ∧ vs = kvs.map (·.2)) ∨
    ∃ kvs : List (List Key × V), Rd H a (.dT kvs) ∧ ks.map keyT = kvs.map (fun p => some p.1) ∧ vs = kvs.map (·.2)
section
variable (c : Cn) (F : Addr → Prop) (H : Hp)
mutual
/-- v is w, all of it within F (what nobody changes any more) or unchangeable -/
def RepF : W → V → Prop
  | .non, v => v = .non
  | .bl b, v => v = .bl b
  | .int i, v => v = .int i
  | .str s, v => v = .str (mkS s)
  | .tup ws, v => ∃ a vs, v = .ref a ∧ SqT c.K H a vs ∧ RepFs ws vs
  | .lst ws, v => ∃ a vs, v = .ref a ∧ F a ∧ H a = some (.lst vs) ∧ RepFs ws vs
  | .dct ks ws, v => ∃ a vs, v = .ref a ∧ F a ∧ DctAt H a ks vs ∧ RepFs ws vs
  | .scr ns, v => ∃ a, v = .ref a ∧ ((∃ o, H a = some (.frz o (.lst (ns.map V.int)))) ∨ SqL c.K (fun _ => none) a (ns.map V.int))
  | .fn i, v => v = .ref (c.fa i)
  | .cls t, v => v = .ty (tyN t)
def RepFs : List W → List V → Prop
  | [], vs => vs = []
  | w :: ws, vs => ∃ v r, vs = v :: r ∧ RepF w v ∧ RepFs ws r
end
/-- a list or a dict at a that may still change, its parts within F -/
def OwnAt (a : Addr) : W → Prop
  | .lst ws => ∃ vs, H a = some (.lst vs) ∧ RepFs c F H ws vs
  | .dct ks ws => ∃ vs, ((∃ u, H a = some u ∧ Mut (some u) ∧ ∀ o w', u ≠ .frz o w') ∧ DctAt H a ks vs) ∧ RepFs c F H ws vs
  | _ => False
end
/-- what holds of a changed heap: what cannot change, and what lies in F, is as it was -/
structure Kp (F F' : Addr → Prop) (H H' : Hp) : Prop where
  at_ : ∀ a o, H a = some o → (F a ∨ (∃ xs, o = .tup xs) ∨ (∃ ob u, o = .frz ob u)) → H' a = some o
  mono : ∀ a, F a → F' a
section
variable {c : Cn} {F F' F'' : Addr → Prop} {H H' H'' : Hp}
theorem Kp.refl : Kp F F H H := ⟨fun _ _ h _ => h, fun _ h => h⟩
theorem Kp.rd (k : Kp F F' H H') {a : Addr} {xs : List V} (h : Rd H a (.tup xs)) : Rd H' a (.tup xs) := by
  rcases h with h | ⟨o, h⟩
  · exact .inl (k.at_ a _ h (.inr (.inl ⟨_, rfl⟩)))
  · exact .inr ⟨o, k.at_ a _ h (.inr (.inr ⟨_, _, rfl⟩))⟩
theorem Kp.rdF (k : Kp F F' H H') {a : Addr} {u : HO} (hF : F a) (h : Rd H a u) : Rd H' a u := by
  rcases h with h | ⟨o, h⟩
  · exact .inl (k.at_ a _ h (.inl hF))
  · exact .inr ⟨o, k.at_ a _ h (.inl hF)⟩
theorem Kp.tup (k : Kp F F' H H') {K : PySem.W.Frag} {a : Addr} {xs : List V} (h : SqT K H a xs) : SqT K H' a xs := by
  rcases h with h | h
  · exact .inl (k.rd h)
  · exact .inr h
theorem Kp.dct (k : Kp F F' H H') {a : Addr} {ks : List W} {vs : List V} (hF : F a) (h : DctAt H a ks vs) : DctAt H' a ks vs := by
  rcases h with ⟨kvs, h, e⟩ | ⟨kvs, h, e⟩
  · exact .inl ⟨kvs, k.rdF hF h, e⟩
  · exact .inr ⟨kvs, k.rdF hF h, e⟩
mutual
theorem RepF.kp (k : Kp F F' H H') : ∀ (w : W) (v : V), RepF c F H w v → RepF c F' H' w v
  | .non, _, h => h
  | .bl _, _, h => h
  | .int _, _, h => h
  | .str _, _, h => h
  | .fn _, _, h => h
  | .cls _, _, h => h
  | .tup ws, v, h => by
    obtain ⟨a, vs, e, h1, h2⟩ := h
    exact ⟨a, vs, e, k.tup h1, RepFs.kp k ws vs h2⟩
  | .lst ws, v, h => by
    obtain ⟨a, vs, e, hF, h1, h2⟩ := h
    exact ⟨a, vs, e, k.mono a hF, k.at_ a _ h1 (.inl hF), RepFs.kp k ws vs h2⟩
  | .dct ks ws, v, h => by
    obtain ⟨a, vs, e, hF, h1, h2⟩ := h
    exact ⟨a, vs, e, k.mono a hF, k.dct hF h1, RepFs.kp k ws vs h2⟩
  | .scr ns, v, h => by
    obtain ⟨a, e, h1⟩ := h
    rcases h1 with ⟨o, h1⟩ | h1
    · exact ⟨a, e, .inl ⟨o, k.at_ a _ h1 (.inr (.inr ⟨_, _, rfl⟩))⟩⟩
    · exact ⟨a, e, .inr h1⟩
theorem RepFs.kp (k : Kp F F' H H') : ∀ (ws : List W) (vs : List V), RepFs c F H ws vs → RepFs c F' H' ws vs
  | [], _, h => h
  | w :: ws, _, h => by
    obtain ⟨v, r, e, h1, h2⟩ := h
    exact ⟨v, r, e, RepF.kp k w v h1, RepFs.kp k ws r h2⟩
end
theorem RepFs.length : ∀ {ws : List W} {vs : List V}, RepFs c F H ws vs → ws.length = vs.length
  | [], _, h => by
    have e : _ = [] := h
    rw [e]
    rfl
  | _ :: _, _, h => by
    obtain ⟨v, r, e, _, h2⟩ := h
    rw [e, List.length_cons, List.length_cons, RepFs.length h2]
theorem RepFs.app : ∀ {ws ws' : List W} {vs vs' : List V}, RepFs c F H ws vs → RepFs c F H ws' vs' → RepFs c F H (ws ++ ws') (vs ++ vs')
  | [], _, _, _, h, h' => by
    have e : _ = [] := h
    rw [e]
    exact h'
  | _ :: _, _, _, _, h, h' => by
    obtain ⟨v, r, e, h1, h2⟩ := h
    rw [e]
    exact ⟨v, r ++ _, rfl, h1, RepFs.app h2 h'⟩
theorem RepFs.get : ∀ {ws : List W} {vs : List V} {i : Nat} {w : W}, RepFs c F H ws vs → ws[i]? = some w → ∃ v, vs[i]? = some v ∧ RepF c F H w v
  | [], _, _, _, _, h => by simp at h
  | _ :: _, _, 0, w, h, e => by
    obtain ⟨v, r, rfl, h1, _⟩ := h
    simp at e
    subst e
    exact ⟨v, rfl, h1⟩
  | _ :: _, _, i + 1, w, h, e => by
    obtain ⟨v, r, rfl, _, h2⟩ := h
    obtain ⟨u, e1, e2⟩ := RepFs.get (i := i) (w := w) h2 (by simpa using e)
    exact ⟨u, by simpa using e1, e2⟩
theorem RepFs.getV : ∀ {ws : List W} {vs : List V} {i : Nat} {v : V}, RepFs c F H ws vs → vs[i]? = some v → ∃ w, ws[i]? = some w ∧ RepF c F H w v
  | [], _, _, _, h, e => by
    have e' : _ = [] := h
    rw [e'] at e
    simp at e
  | w :: _, _, 0, v, h, e => by
    obtain ⟨u, r, rfl, h1, _⟩ := h
    simp at e
    subst e
    exact ⟨w, rfl, h1⟩
  | _ :: _, _, i + 1, v, h, e => by
    obtain ⟨u, r, rfl, _, h2⟩ := h
    obtain ⟨w, e1, e2⟩ := RepFs.getV (i := i) (v := v) h2 (by simpa using e)
    exact ⟨w, by simpa using e1, e2⟩
theorem RepFs.set : ∀ {ws : List W} {vs : List V} {i : Nat} {w : W} {v : V}, RepFs c F H ws vs → RepF c F H w v → RepFs c F H (ws.set i w) (vs.set i v)
  | [], _, _, _, _, h, _ => by
    have e : _ = [] := h
    rw [e]
    exact rfl
  | _ :: _, _, 0, _, _, h, h' => by
    obtain ⟨v, r, rfl, _, h2⟩ := h
    exact ⟨_, r, rfl, h', h2⟩
  | _ :: _, _, i + 1, _, _, h, h' => by
    obtain ⟨v, r, rfl, h1, h2⟩ := h
    exact ⟨v, _, rfl, h1, RepFs.set (i := i) h2 h'⟩
theorem RepF.mono (h : ∀ a, F a → F' a) {w : W} {v : V} (r : RepF c F H w v) : RepF c F' H w v := RepF.kp ⟨fun _ _ e _ => e, h⟩ w v r
theorem RepFs.mono (h : ∀ a, F a → F' a) {w : List W} {v : List V} (r : RepFs c F H w v) : RepFs c F' H w v := RepFs.kp ⟨fun _ _ e _ => e, h⟩ w v r

/-! ### slots -/
/-- v is w, or w lies at v and may change -/
def RepL (c : Cn) (F : Addr → Prop) (H : Hp) (w : W) (v : V) : Prop := RepF c F H w v ∨ ∃ a, v = .ref a ∧ OwnAt c F H a w
def SlotR (c : Cn) (F : Addr → Prop) (H : Hp) : Slot → Option V → Prop
  | .no, _ => True
  | .fr _ w, ov => ∃ v, ov = some v ∧ RepF c F H w v
  | .own _ w, ov => ∃ a, ov = some (.ref a) ∧ OwnAt c F H a w
  | .lk w, ov => ∃ v, ov = some v ∧ RepL c F H w v
def isOwn : Slot → Bool
  | .own _ _ => true
  | _ => false
/-- what the slots own -/
def OwnA (σ : L2.St) (ss : Slots) (a : Addr) : Prop := ∃ (i : Nat) (s : Slot), ss[i]? = some s ∧ isOwn s = true ∧ σ[i]? = some (some (V.ref a))
abbrev isMut : W → Bool := isMutW
/-- lists and dicts that are locked -/
def LkA (σ : L2.St) (ss : Slots) (a : Addr) : Prop := ∃ (i : Nat) (w : W), ss[i]? = some (.lk w) ∧ isMut w = true ∧ σ[i]? = some (some (V.ref a))
def Busy (σ : L2.St) (ss : Slots) (a : Addr) : Prop := OwnA σ ss a ∨ LkA σ ss a
/-- no table of code objects -/
def NoTb (o : HO) : Prop := ∀ ps, o ≠ .tbl ps
theorem noTb_mut {u : HO} (m : Mut (some u)) : NoTb u := fun ps z => by
  rw [z] at m
  exact m
theorem tabs_keep {T : List (Addr × Str)} {H H' : Hp} (t : LamX.Tabs T H) (e : ∀ b u, H b = some u → ((∃ ps, u = .tbl ps) ∨ ∃ φ, u = .ext φ) → H' b = some u) : LamX.Tabs T H' := fun p hp => by
  obtain ⟨ps, h1, h2, h3⟩ := t p hp
  refine ⟨ps, e _ _ h1 (.inl ⟨ps, rfl⟩), h2, fun pos cv hc => ?_⟩
  obtain ⟨c, e1, e2⟩ := h3 pos cv hc
  exact ⟨c, e1, e _ _ e2 (.inr ⟨_, rfl⟩)⟩
theorem tabs_upd {T : List (Addr × Str)} {H : Hp} {a : Addr} {o : HO} {vs : List V} (t : LamX.Tabs T H) (h : H a = some (.lst vs)) : LamX.Tabs T (upd H a o) := tabs_keep t fun b u e z => by
  have n : b ≠ a := fun y => by
    rw [y, h] at e
    cases e
    rcases z with ⟨_, z⟩ | ⟨_, z⟩ <;> cases z
  rw [upd_ne n]
  exact e
structure SR (c : Cn) (F : Addr → Prop) (H : Hp) (σ : L2.St) (ss : Slots) : Prop where
  len : σ.length = ss.length
  rel : ∀ (i : Nat) (s : Slot) (ov : Option V), ss[i]? = some s → σ[i]? = some ov → SlotR c F H s ov
  nf : ∀ a, OwnA σ ss a → ¬ F a
  inj : ∀ (i j : Nat) (s t : Slot) (a : Addr), ss[i]? = some s → ss[j]? = some t → isOwn s = true → isOwn t = true → σ[i]? = some (some (V.ref a)) → σ[j]? = some (some (V.ref a)) → i = j
  lk : ∀ a, LkA σ ss a → ¬ OwnA σ ss a
  live : (∀ a, F a → ∃ o, H a = some o ∧ NoTb o) ∧ LamX.Tabs c.T H
/-- nothing stands at a, or a table -/
def Fr (H : Hp) (a : Addr) : Prop := ∀ o, H a = some o → ∃ ps, o = .tbl ps
theorem Fr.of {H : Hp} {a : Addr} (h : H a = none) : Fr H a := fun o e => by
  rw [h] at e
  cases e
theorem Fr.no {H : Hp} {a : Addr} {o : HO} (f : Fr H a) (h : H a = some o) (n : NoTb o) : False := by
  obtain ⟨ps, e⟩ := f o h
  exact n ps e
/-- from one moment to a later one -/
structure Fm (F : Addr → Prop) (H : Hp) (O : Addr → Prop) (F' : Addr → Prop) (H' : Hp) (O' : Addr → Prop) : Prop where
  keep : ∀ a o, H a = some o → ¬ O a → NoTb o → H' a = some o
  live : ∀ a o, H a = some o → NoTb o → ∃ o', H' a = some o' ∧ NoTb o'
  mono : ∀ a, F a → F' a
  fnew : ∀ a, F' a → F a ∨ O a ∨ Fr H a
  onew : ∀ a, O' a → O a ∨ Fr H a
theorem Fm.refl {O : Addr → Prop} : Fm F H O F H O := ⟨fun _ _ h _ _ => h, fun _ o h n => ⟨o, h, n⟩, fun _ h => h, fun _ h => .inl h, fun _ h => .inl h⟩
theorem Fm.gone {O O' : Addr → Prop} (f : Fm F H O F' H' O') {a : Addr} (h : Fr H' a) : Fr H a := fun o e => by
  by_cases t : ∃ ps, o = .tbl ps
  · exact t
  · obtain ⟨o', q, n⟩ := f.live a o e fun ps z => t ⟨ps, z⟩
    exact (h.no q n).elim
theorem Fm.trans {O O' O'' : Addr → Prop} (f : Fm F H O F' H' O') (g : Fm F' H' O' F'' H'' O'') : Fm F H O F'' H'' O'' where
  keep := fun a o h n t => g.keep a o (f.keep a o h n t) (fun z => by
    rcases f.onew a z with z | z
    · exact n z
    · exact z.no h t) t
  live := fun a o h n => by
    obtain ⟨o', q, n'⟩ := f.live a o h n
    exact g.live a o' q n'
  mono := fun a h => g.mono a (f.mono a h)
  fnew := fun a h => by
    rcases g.fnew a h with z | z | z
    · exact f.fnew a z
    · rcases f.onew a z with z | z
      · exact .inr (.inl z)
      · exact .inr (.inr z)
    · exact .inr (.inr (f.gone z))
  onew := fun a h => by
    rcases g.onew a h with z | z
    · exact f.onew a z
    · exact .inr (f.gone z)
/-- what is owned is a list or a dict -/
theorem OwnAt.mut {a : Addr} {w : W} (h : OwnAt c F H a w) : ∃ u, H a = some u ∧ Mut (some u) ∧ (∀ xs, u ≠ .tup xs) ∧ ∀ o w', u ≠ .frz o w' := by
  cases w with
  | lst ws =>
    obtain ⟨vs, e, _⟩ := h
    exact ⟨_, e, True.intro, (fun xs z => by cases z), (fun o w' z => by cases z)⟩
  | dct ks ws =>
    obtain ⟨vs, ⟨⟨u, e, m, n⟩, _⟩, _⟩ := h
    exact ⟨u, e, m, (fun xs z => by rw [z] at m; exact m), n⟩
  | _ => exact h.elim
theorem SR.own {σ : L2.St} {ss : Slots} (s : SR c F H σ ss) {a : Addr} (h : OwnA σ ss a) : ∃ u, H a = some u ∧ Mut (some u) ∧ (∀ xs, u ≠ .tup xs) ∧ ∀ o w', u ≠ .frz o w' := by
  obtain ⟨i, t, h1, h2, h3⟩ := h
  have r := s.rel i t _ h1 h3
  cases t with
  | own l w =>
    obtain ⟨b, e, q⟩ := r
    cases e
    exact q.mut
  | _ => cases h2
/-- what is locked stands -/
theorem SR.locked {σ : L2.St} {ss : Slots} (s : SR c F H σ ss) {a : Addr} (h : LkA σ ss a) : ∃ u, H a = some u ∧ NoTb u := by
  obtain ⟨i, w, h1, h2, h3⟩ := h
  have r := s.rel i _ _ h1 h3
  obtain ⟨v, e, q⟩ := r
  cases e
  rcases q with q | ⟨b, e, q⟩
  · cases w with
    | lst ws =>
      obtain ⟨b, vs, e, _, e1, _⟩ := q
      cases e
      exact ⟨_, e1, fun _ z => by cases z⟩
    | dct ks ws =>
      obtain ⟨b, vs, e, _, e1, _⟩ := q
      cases e
      rcases e1 with ⟨kvs, e1 | ⟨o, e1⟩, _⟩ | ⟨kvs, e1 | ⟨o, e1⟩, _⟩ <;> exact ⟨_, e1, fun _ z => by cases z⟩
    | _ => cases h2
  · cases e
    obtain ⟨u, e, m, _⟩ := q.mut
    exact ⟨u, e, noTb_mut m⟩
/-- a new place is not busy -/
theorem SR.fresh {σ : L2.St} {ss : Slots} (s : SR c F H σ ss) {a : Addr} (h : Fr H a) : ¬ Busy σ ss a := fun z => by
  rcases z with z | z
  · obtain ⟨u, e, m, _⟩ := s.own z
    exact h.no e (noTb_mut m)
  · obtain ⟨u, e, n⟩ := s.locked z
    exact h.no e n
theorem SR.liv {σ : L2.St} {ss : Slots} (s : SR c F H σ ss) : ∀ a, F a → ∃ o, H a = some o := fun a h => by
  obtain ⟨o, e, _⟩ := s.live.1 a h
  exact ⟨o, e⟩
/-- what a step keeps -/
theorem SR.kp {σ : L2.St} {ss : Slots} {O' : Addr → Prop} (s : SR c F H σ ss) (f : Fm F H (OwnA σ ss) F' H' O') : Kp F F' H H' :=
  ⟨fun a o h z => f.keep a o h (fun ow => by
    obtain ⟨u, e, _, n1, n2⟩ := s.own ow
    rw [h] at e
    cases e
    rcases z with z | ⟨xs, z⟩ | ⟨ob, w', z⟩
    · exact s.nf a ow z
    · exact n1 xs z
    · exact n2 ob w' z) (by
    rcases z with z | ⟨xs, z⟩ | ⟨ob, w', z⟩
    · obtain ⟨o', e, n⟩ := s.live.1 a z
      rw [h] at e
      cases e
      exact n
    · intro ps y
      rw [z] at y
      cases y
    · intro ps y
      rw [z] at y
      cases y), f.mono⟩
end
end VI

set_option Elab.async false
set_option linter.all false
set_option maxRecDepth 100000
set_option maxHeartbeats 1000000
/-! VI, part 3: what a step of the machine is to a step of ours; expressions. -/
namespace VI
open PySem L2
/-- an exception of the kind k, its field w -/
def ExR (c : Cn) (F : Addr → Prop) (H : Hp) (k : Nat) (w : W) (cls : Value) (d : Option Addr) : Prop :=
  cls = .ref (c.ca k) ∧ match c.ef k with
    | none => True
    | some f => ∃ (dd : Addr) (v : V), d = some dd ∧ H dd = some (.xd [(f, v)]) ∧ RepF c F H w v
/-- a name that is not bound anew: what it may turn into -/
def Nfr : Slot → Slot → Prop
  | .lk w, s' => s' = .lk w
  | .fr _ w, s' => s' = .fr true w
  | .own _ _, s' => (∃ w', s' = .own true w') ∨ ∃ w', s' = .fr true w' ∧ isMut w' = true
  | .no, _ => True
theorem Nfr.refl {s : Slot} (h : free s = false) : Nfr s s := by
  cases s with
  | no => trivial
  | lk w => exact rfl
  | fr l w =>
    cases l
    · cases h
    · exact rfl
  | own l w =>
    cases l
    · cases h
    · exact .inl ⟨w, rfl⟩
theorem Nfr.frees {s s' : Slot} (h : Nfr s s') (f : free s = false) : free s' = false := by
  cases s with
  | no => cases f
  | lk w =>
    have h : s' = _ := h
    rw [h]
    rfl
  | fr l w =>
    have h : s' = _ := h
    rw [h]
    rfl
  | own l w =>
    rcases h with ⟨w', h⟩ | ⟨w', h, _⟩ <;> rw [h] <;> rfl
theorem Nfr.trans {s s' s'' : Slot} (f : free s = false) (a : Nfr s s') (b : Nfr s' s'') : Nfr s s'' := by
  cases s with
  | no => cases f
  | lk w =>
    have a : s' = _ := a
    subst a
    exact b
  | fr l w =>
    have a : s' = _ := a
    subst a
    exact b
  | own l w =>
    rcases a with ⟨w', h⟩ | ⟨w', h, m⟩
    · subst h
      exact b
    · subst h
      have b : s'' = _ := b
      subst b
      exact .inr ⟨w', rfl, m⟩
/-- lent and locked names stay as they are; no others are locked -/
structure Ln (σ : L2.St) (ss : Slots) (σ' : L2.St) (ss' : Slots) : Prop where
  st : ∀ (i : Nat) (s : Slot), ss[i]? = some s → free s = false → σ'[i]? = σ[i]? ∧ ∃ s' : Slot, ss'[i]? = some s' ∧ Nfr s s'
  lk : ∀ (i : Nat) (w : W), ss'[i]? = some (.lk w) → ss[i]? = some (.lk w)
theorem Ln.refl {σ : L2.St} {ss : Slots} : Ln σ ss σ ss := ⟨fun _ s h f => ⟨rfl, s, h, Nfr.refl f⟩, fun _ _ h => h⟩
theorem Ln.trans {σ σ' σ'' : L2.St} {ss ss' ss'' : Slots} (a : Ln σ ss σ' ss') (b : Ln σ' ss' σ'' ss'') : Ln σ ss σ'' ss'' := ⟨fun i s h f => by
  obtain ⟨e1, s1, h1, f1⟩ := a.st i s h f
  obtain ⟨e2, s2, h2, f2⟩ := b.st i s1 h1 (f1.frees f)
  exact ⟨e2.trans e1, s2, h2, f1.trans f f2⟩, fun i w h => a.lk i w (b.lk i w h)⟩
/-- what is busy: owned, locked -/
structure Bz where
  own : Addr → Prop
  lk : Addr → Prop
def BZ (σ : L2.St) (ss : Slots) : Bz := ⟨OwnA σ ss, LkA σ ss⟩
/-- how a value of ours (β: the machine's) is told -/
abbrev Rl (α β : Type) := Bz → (Addr → Prop) → Hp → Hp → α → β → Prop
/-- m, begun at the slots ss, comes to what Q wishes; Wx: of its exceptions -/
def From {α β : Type} (c : Cn) (m : M α) (T : Rl α β) (Wx : WX) (σ : L2.St) (F : Addr → Prop) (H : Hp) (ss : Slots) (Q : β → Hp → Prop) : Prop :=
  (∃ a ss', m ss = some (.ok a ss') ∧ ∀ (b : β) (F' : Addr → Prop) (H' : Hp), Fm F H (OwnA σ ss) F' H' (OwnA σ ss') → SR c F' H' σ ss' → Ln σ ss σ ss' → T (BZ σ ss') F' H H' a b → Q b H') ∨
    ∃ k w ss', m ss = some (.exc k w ss') ∧ ∀ (cls : Value) (d : Option Addr) (F' : Addr → Prop) (H' : Hp), Fm F H (OwnA σ ss) F' H' (OwnA σ ss') → SR c F' H' σ ss' → Ln σ ss σ ss' → ExR c F' H' k w cls d → Wx cls d σ H'
def tM {α β : Type} (c : Cn) (m : M α) (T : Rl α β) (Wx : WX) : L2.St → Hp → (β → Hp → Prop) → Prop := fun σ H Q => ∃ F ss, SR c F H σ ss ∧ From c m T Wx σ F H ss Q
/-- told of an earlier heap too -/
def Early {α β : Type} (T : Rl α β) : Prop := ∀ O F H H1 H' a b, (∀ x, Fr H1 x → Fr H x) → T O F H1 H' a b → T O F H H' a b
section
variable {α β γ δ : Type} {c : Cn} {Wx : WX} {σ : L2.St} {F F' : Addr → Prop} {H H' : Hp} {ss ss' : Slots}
theorem From.mono {m : M α} {T : Rl α β} {Q Q' : β → Hp → Prop} (h : From c m T Wx σ F H ss Q) (k : ∀ b H', Q b H' → Q' b H') : From c m T Wx σ F H ss Q' := by
  rcases h with ⟨a, s, e, q⟩ | ⟨j, w, s, e, q⟩
  · exact .inl ⟨a, s, e, fun b F' H' h1 h2 h3 h4 => k _ _ (q b F' H' h1 h2 h3 h4)⟩
  · exact .inr ⟨j, w, s, e, q⟩
theorem tM.mono {m : M α} {T : Rl α β} {Q Q' : β → Hp → Prop} (h : tM c m T Wx σ H Q) (k : ∀ b H', Q b H' → Q' b H') : tM c m T Wx σ H Q' := by
  obtain ⟨F, ss, s, h⟩ := h
  exact ⟨F, ss, s, h.mono k⟩
theorem From.bind {m : M α} {f : α → M γ} {T : Rl γ δ} {U : Rl α β} {Q : δ → Hp → Prop} (hT : Early T) (h : From c (mbd m f) T Wx σ F H ss Q) :
    From c m U Wx σ F H ss fun b H1 => ∃ a F1 ss1, m ss = some (.ok a ss1) ∧ SR c F1 H1 σ ss1 ∧ U (BZ σ ss1) F1 H H1 a b ∧ Fm F H (OwnA σ ss) F1 H1 (OwnA σ ss1) ∧ Ln σ ss σ ss1 ∧ From c (f a) T Wx σ F1 H1 ss1 Q := by
  cases em : m ss with
  | none =>
    have z : mbd m f ss = none := by unfold mbd; rw [em]
    rcases h with ⟨a, s, e, _⟩ | ⟨j, w, s, e, _⟩ <;> rw [z] at e <;> cases e
  | some r =>
    cases r with
    | exc k w s =>
      have z : mbd m f ss = some (.exc k w s) := by unfold mbd; rw [em]
      rcases h with ⟨a, s', e, _⟩ | ⟨j, w', s', e, q⟩
      · rw [z] at e
        cases e
      · rw [z] at e
        cases e
        exact .inr ⟨k, w, s, em, q⟩
    | ok a s =>
      have z : mbd m f ss = f a s := by unfold mbd; rw [em]
      refine .inl ⟨a, s, em, fun b F1 H1 f1 s1 l1 t1 => ⟨a, F1, s, rfl, s1, t1, f1, l1, ?_⟩⟩
      rcases h with ⟨a', s', e, q⟩ | ⟨j, w', s', e, q⟩
      · rw [z] at e
        exact .inl ⟨a', s', e, fun b' F2 H2 f2 s2 l2 t2 => q b' F2 H2 (f1.trans f2) s2 (l1.trans l2) (hT _ _ _ _ _ _ _ (fun x hx => f1.gone hx) t2)⟩
      · rw [z] at e
        exact .inr ⟨j, w', s', e, fun cls d F2 H2 f2 s2 l2 x => q cls d F2 H2 (f1.trans f2) s2 (l1.trans l2) x⟩
theorem From.ret {a : α} {T : Rl α β} {Q : β → Hp → Prop} {b : β} (h : From c (mret a) T Wx σ F H ss Q) (s : SR c F H σ ss) (t : T (BZ σ ss) F H H a b) : Q b H := by
  rcases h with ⟨a', s', e, q⟩ | ⟨j, w', s', e, q⟩
  · cases e
    exact q b F H .refl s .refl t
  · cases e
theorem From.retE {a : α} {T : Rl α β} {Q : β → Hp → Prop} (h : From c (mret a) T Wx σ F H ss Q) {b : β} {F' : Addr → Prop} {H' : Hp} (f : Fm F H (OwnA σ ss) F' H' (OwnA σ ss)) (s : SR c F' H' σ ss) (t : T (BZ σ ss) F' H H' a b) : Q b H' := by
  rcases h with ⟨a', s', e, q⟩ | ⟨j, w', s', e, q⟩
  · cases e
    exact q b F' H' f s .refl t
  · cases e
theorem From.lift {o : Option α} {T : Rl α β} {Q : β → Hp → Prop} (h : From c (lift o) T Wx σ F H ss Q) : ∃ a, o = some a ∧ ∀ (b : β) (F' : Addr → Prop) (H' : Hp), Fm F H (OwnA σ ss) F' H' (OwnA σ ss) → SR c F' H' σ ss → T (BZ σ ss) F' H H' a b → Q b H' := by
  cases o with
  | none => rcases h with ⟨a', s', e, q⟩ | ⟨j, w', s', e, q⟩ <;> cases e
  | some a =>
    rcases h with ⟨a', s', e, q⟩ | ⟨j, w', s', e, q⟩
    · cases e
      exact ⟨a, rfl, fun b F' H' f s t => q b F' H' f s .refl t⟩
    · cases e
end

/-! ### what is told of values -/
def rF (c : Cn) : Rl W V := fun _ F' _ H' w v => RepF c F' H' w v
def rFs (c : Cn) : Rl (List W) (List V) := fun _ F' _ H' ws vs => RepFs c F' H' ws vs
def rB : Rl Bool Bool := fun _ _ _ _ a b => a = b
/-- just made: nobody else has it -/
def rO (c : Cn) : Rl W V := fun O F' H H' w v => match w with
  | .lst _ => ∃ a, v = .ref a ∧ Fr H a ∧ ¬ F' a ∧ ¬ (O.own a ∨ O.lk a) ∧ OwnAt c F' H' a w
  | .dct _ _ => ∃ a, v = .ref a ∧ Fr H a ∧ ¬ F' a ∧ ¬ (O.own a ∨ O.lk a) ∧ OwnAt c F' H' a w
  | _ => RepF c F' H' w v
theorem early_F {c : Cn} : Early (rF c) := fun _ _ _ _ _ _ _ _ h => h
theorem early_Fs {c : Cn} : Early (rFs c) := fun _ _ _ _ _ _ _ _ h => h
theorem early_B : Early rB := fun _ _ _ _ _ _ _ _ h => h
theorem early_O {c : Cn} : Early (rO c) := fun O F H H1 H' w v k h => by
  cases w with
  | lst ws =>
    obtain ⟨a, e, n, r⟩ := h
    exact ⟨a, e, k a n, r⟩
  | dct ks ws =>
    obtain ⟨a, e, n, r⟩ := h
    exact ⟨a, e, k a n, r⟩
  | _ => exact h

def SimE (c : Cn) (X : Cx) (e : Expr) (m : M W) : Prop := ∀ Wx, Takes X Wx → PE X e (tM c m (rF c) Wx)
def SimO (c : Cn) (X : Cx) (e : Expr) (m : M W) : Prop := ∀ Wx, Takes X Wx → PE X e (tM c m (rO c) Wx)
def SimT (c : Cn) (X : Cx) (e : Expr) (m : M Bool) : Prop := ∀ Wx, Takes X Wx → PT X e (tM c m rB Wx)
def SimW (c : Cn) (X : Cx) (e : Expr) (m : M Bool) : Prop := ∀ Wx, Takes X Wx → PW X e (tM c m rB Wx)
def SimL (c : Cn) (X : Cx) (es : List Expr) (m : M (List W)) : Prop := ∀ Wx, Takes X Wx → PA X es (tM c m (rFs c) Wx)
/-- weaker wishes -/
theorem PE.imp {X : Cx} {e : Expr} {t t' : TE} (h : PE X e t) (k : ∀ σ H Q, t' σ H Q → t σ H Q) : PE X e t' := ⟨fun pins s σ H Q I q => h.run pins s σ H Q I (k σ H Q q)⟩
theorem PT.imp {X : Cx} {e : Expr} {t t' : TT} (h : PT X e t) (k : ∀ σ H Q, t' σ H Q → t σ H Q) : PT X e t' := ⟨fun pins s σ H Q I q => h.run pins s σ H Q I (k σ H Q q)⟩
theorem PW.imp {X : Cx} {e : Expr} {t t' : TT} (h : PW X e t) (k : ∀ σ H Q, t' σ H Q → t σ H Q) : PW X e t' := ⟨fun wh pins s σ H Q I q => h.run wh pins s σ H Q I (k σ H Q q)⟩
theorem PA.imp {X : Cx} {e : List Expr} {t t' : TA} (h : PA X e t) (k : ∀ σ H Q, t' σ H Q → t σ H Q) : PA X e t' := ⟨fun pos pins s σ H Q I q => h.run pos pins s σ H Q I (k σ H Q q)⟩

/-! ### a heap that has grown -/
def Ext (H H' : Hp) : Prop := ∀ a o, H a = some o → H' a = some o
theorem Ext.refl (H : Hp) : Ext H H := fun _ _ h => h
theorem Ext.new {H : Hp} {p : Addr} {o : HO} (h : H p = none) : Ext H (upd H p o) := fun a u e => by
  rw [upd_ne (ne_of_none e h)]
  exact e
theorem Ext.trans {H H1 H2 : Hp} (a : Ext H H1) (b : Ext H1 H2) : Ext H H2 := fun x o h => b x o (a x o h)
section
variable {c : Cn} {σ : L2.St} {F F' : Addr → Prop} {H H' : Hp} {ss : Slots} {O : Addr → Prop}
theorem Ext.fm (e : Ext H H') : Fm F H O F H' O := ⟨fun a o h _ _ => e a o h, fun a o h n => ⟨o, e a o h, n⟩, fun _ h => h, fun _ h => .inl h, fun _ h => .inl h⟩
theorem Ext.kp (e : Ext H H') : Kp F F H H' := ⟨fun a o h _ => e a o h, fun _ h => h⟩
theorem OwnAt.ext {a : Addr} {w : W} (h : OwnAt c F H a w) (e : Ext H H') : OwnAt c F H' a w := by
  cases w with
  | lst ws =>
    obtain ⟨vs, h1, h2⟩ := h
    exact ⟨vs, e _ _ h1, RepFs.kp e.kp _ _ h2⟩
  | dct ks ws =>
    obtain ⟨vs, ⟨⟨u, h1, m, n⟩, h3⟩, h2⟩ := h
    refine ⟨vs, ⟨⟨u, e _ _ h1, m, n⟩, ?_⟩, RepFs.kp e.kp _ _ h2⟩
    rcases h3 with ⟨kvs, h3, r⟩ | ⟨kvs, h3, r⟩
    · refine .inl ⟨kvs, ?_, r⟩
      rcases h3 with h3 | ⟨o, h3⟩
      · exact .inl (e _ _ h3)
      · exact .inr ⟨o, e _ _ h3⟩
    · refine .inr ⟨kvs, ?_, r⟩
      rcases h3 with h3 | ⟨o, h3⟩
      · exact .inl (e _ _ h3)
      · exact .inr ⟨o, e _ _ h3⟩
  | _ => exact h.elim
theorem OwnAt.mono {a : Addr} {w : W} (h : OwnAt c F H a w) (k : ∀ a, F a → F' a) : OwnAt c F' H a w := by
  cases w with
  | lst ws =>
    obtain ⟨vs, h1, h2⟩ := h
    exact ⟨vs, h1, h2.mono k⟩
  | dct ks ws =>
    obtain ⟨vs, h1, h2⟩ := h
    exact ⟨vs, h1, h2.mono k⟩
  | _ => exact h.elim
theorem SlotR.ext {s : Slot} {ov : Option V} (h : SlotR c F H s ov) (e : Ext H H') : SlotR c F H' s ov := by
  cases s with
  | no => exact h
  | fr l w =>
    obtain ⟨v, h1, h2⟩ := h
    exact ⟨v, h1, RepF.kp e.kp _ _ h2⟩
  | own l w =>
    obtain ⟨a, h1, h2⟩ := h
    exact ⟨a, h1, h2.ext e⟩
  | lk w =>
    obtain ⟨v, h1, h2⟩ := h
    rcases h2 with h2 | ⟨a, h3, h2⟩
    · exact ⟨v, h1, .inl (RepF.kp e.kp _ _ h2)⟩
    · exact ⟨v, h1, .inr ⟨a, h3, h2.ext e⟩⟩
theorem SR.ext (s : SR c F H σ ss) (e : Ext H H') : SR c F H' σ ss :=
  ⟨s.len, fun i t ov h1 h2 => (s.rel i t ov h1 h2).ext e, s.nf, s.inj, s.lk, ⟨fun a h => by
    obtain ⟨o, q, n⟩ := s.live.1 a h
    exact ⟨o, e a o q, n⟩, s.live.2.ext e⟩⟩
theorem SlotR.mono {s : Slot} {ov : Option V} (h : SlotR c F H s ov) (k : ∀ a, F a → F' a) : SlotR c F' H s ov := by
  cases s with
  | no => exact h
  | fr l w =>
    obtain ⟨v, h1, h2⟩ := h
    exact ⟨v, h1, h2.mono k⟩
  | own l w =>
    obtain ⟨a, h1, h2⟩ := h
    exact ⟨a, h1, h2.mono k⟩
  | lk w =>
    obtain ⟨v, h1, h2⟩ := h
    rcases h2 with h2 | ⟨a, h3, h2⟩
    · exact ⟨v, h1, .inl (h2.mono k)⟩
    · exact ⟨v, h1, .inr ⟨a, h3, h2.mono k⟩⟩
/-- F and the one place a -/
def plus (F : Addr → Prop) (a : Addr) : Addr → Prop := fun b => F b ∨ b = a
theorem SR.plusA (s : SR c F H σ ss) {a : Addr} {o : HO} (h : H a = some o) (m : Mut (some o)) (n : ¬ OwnA σ ss a) : SR c (plus F a) H σ ss :=
  ⟨s.len, fun i t ov h1 h2 => (s.rel i t ov h1 h2).mono fun _ h => .inl h, fun b hb z => by
    rcases z with z | z
    · exact s.nf b hb z
    · rw [z] at hb
      exact n hb, s.inj, s.lk, ⟨fun b z => by
    rcases z with z | z
    · exact s.live.1 b z
    · rw [z]
      exact ⟨o, h, noTb_mut m⟩, s.live.2⟩⟩
theorem Fm.plusA {O' : Addr → Prop} {H0 : Hp} {F0 : Addr → Prop} (f : Fm F0 H0 O F H O') {a : Addr} (n : O a ∨ Fr H0 a) : Fm F0 H0 O (plus F a) H O' :=
  ⟨f.keep, f.live, fun b h => .inl (f.mono b h), fun b h => by
    rcases h with h | h
    · exact f.fnew b h
    · rw [h]
      exact .inr n, f.onew⟩
theorem OwnAt.mutW {a : Addr} {w : W} (h : OwnAt c F H a w) : isMut w = true := by
  cases w with
  | lst ws => rfl
  | dct ks ws => rfl
  | _ => exact (show False from h).elim
theorem OwnAt.rep {a : Addr} {w : W} (h : OwnAt c F H a w) : RepF c (VI.plus F a) H w (.ref a) := by
  cases w with
  | lst ws =>
    obtain ⟨vs, h1, h2⟩ := h
    exact ⟨a, vs, rfl, .inr rfl, h1, h2.mono fun _ h => .inl h⟩
  | dct ks ws =>
    obtain ⟨vs, ⟨_, h1⟩, h2⟩ := h
    exact ⟨a, vs, rfl, .inr rfl, h1, h2.mono fun _ h => .inl h⟩
  | _ => exact h.elim
end
/-- what was just made is handed on -/
theorem SimO.toE {c : Cn} {X : Cx} {e : Expr} {m : M W} (h : SimO c X e m) : SimE c X e m := fun Wx tk => PE.imp (h Wx tk) fun σ H Q q => by
  obtain ⟨F, ss, s, q⟩ := q
  refine ⟨F, ss, s, ?_⟩
  rcases q with ⟨w, s', em, q⟩ | ⟨j, w', s', em, q⟩
  · refine .inl ⟨w, s', em, fun v F' H' f s1 l t => ?_⟩
    have go : (∃ a, v = .ref a ∧ Fr H a ∧ ¬ F' a ∧ ¬ Busy σ s' a ∧ OwnAt c F' H' a w) → Q v H' := fun ⟨a, ev, n, nF, nO, ow⟩ => by
      subst ev
      obtain ⟨u, hu, mu, _⟩ := ow.mut
      exact q _ (plus F' a) H' (f.plusA (.inr n)) (s1.plusA hu mu fun z => nO (.inl z)) l ow.rep
    cases w with
    | lst ws => exact go t
    | dct ks ws => exact go t
    | _ => exact q v F' H' f s1 l t
  · exact .inr ⟨j, w', s', em, q⟩
end VI

set_option Elab.async false
set_option linter.all false
set_option maxRecDepth 100000
set_option maxHeartbeats 1000000
/-! VI, part 4: operands, built-in operations by rules over data. -/
namespace VI
open PySem L2
theorem mbd_assoc {α β γ : Type} (m : M α) (f : α → M β) (g : β → M γ) : mbd (mbd m f) g = mbd m fun a => mbd (f a) g := by
  funext ss
  unfold mbd
  cases m ss with
  | none => rfl
  | some r => cases r <;> rfl
theorem mbd_ok {α β : Type} {m : M α} {f : α → M β} {ss s : Slots} {a : α} (h : m ss = some (.ok a s)) : mbd m f ss = f a s := by
  unfold mbd
  rw [h]
theorem mbd_ret {α β : Type} (a : α) (f : α → M β) : mbd (mret a) f = f a := rfl
section
variable {c : Cn} {σ : L2.St} {F F' : Addr → Prop} {H H' : Hp} {ss : Slots}
theorem SR.get (s : SR c F H σ ss) {i : Nat} {t : Slot} (h : ss[i]? = some t) : ∃ ov, σ[i]? = some ov ∧ SlotR c F H t ov := by
  have hl : i < σ.length := by
    rw [s.len]
    exact (List.getElem?_eq_some_iff.mp h).1
  exact ⟨_, List.getElem?_eq_getElem hl, s.rel i t _ h (List.getElem?_eq_getElem hl)⟩
theorem RepF.toL {w : W} {v : V} (h : RepF c F H w v) : RepL c F H w v := .inl h
theorem rd_slot {i : Nat} {r : R W} (s : SR c F H σ ss) (h : rdSlot i ss = some r) : ∃ w v, r = .ok w ss ∧ σ[i]? = some (some v) ∧ RepL c F H w v := by
  unfold rdSlot at h
  cases e : ss[i]? with
  | none =>
    rw [e] at h
    cases h
  | some t =>
    rw [e] at h
    obtain ⟨ov, e1, r1⟩ := s.get e
    cases t with
    | no => cases h
    | fr l w =>
      cases h
      obtain ⟨v, ev, q⟩ := r1
      exact ⟨w, v, rfl, by rw [e1, ev], .inl q⟩
    | own l w =>
      cases h
      obtain ⟨a, ev, q⟩ := r1
      exact ⟨w, .ref a, rfl, by rw [e1, ev], .inr ⟨a, rfl, q⟩⟩
    | lk w =>
      cases h
      obtain ⟨v, ev, q⟩ := r1
      exact ⟨w, v, rfl, by rw [e1, ev], q⟩
def RepLs (c : Cn) (F : Addr → Prop) (H : Hp) : List W → List V → Prop
  | [], vs => vs = []
  | w :: ws, vs => ∃ v r, vs = v :: r ∧ RepL c F H w v ∧ RepLs c F H ws r
/-- an operand's reading -/
def rdO (c : Cn) (Wx : WX) : Opd → TE
  | .ev m => tM c m (rF c) Wx
  | .pk i => tVar i
def rdOs (c : Cn) (Wx : WX) : List Opd → TA
  | [] => tNil
  | o :: os => tCons (rdO c Wx o) (rdOs c Wx os)
def SimP (c : Cn) (X : Cx) (e : Expr) (o : Opd) : Prop := ∀ Wx, Takes X Wx → PE X e (rdO c Wx o)
theorem rdO_mono {Wx : WX} {o : Opd} {Q Q' : VK} (h : rdO c Wx o σ H Q) (k : ∀ v H', Q v H' → Q' v H') : rdO c Wx o σ H Q' := by
  cases o with
  | ev m => exact tM.mono h k
  | pk i =>
    obtain ⟨v, e, q⟩ := h
    exact ⟨v, e, k _ _ q⟩
theorem rdOs_mono {Wx : WX} : ∀ {os : List Opd} {H : Hp} {Q Q' : List V → Hp → Prop}, rdOs c Wx os σ H Q → (∀ v H', Q v H' → Q' v H') → rdOs c Wx os σ H Q'
  | [], _, _, _, h, k => k _ _ h
  | o :: os, _, _, _, h, k => rdO_mono h fun v H' q => rdOs_mono (os := os) q fun vs H2 q2 => k _ _ q2
theorem opds_read {γ δ : Type} {Wx : WX} {T : Rl γ δ} (hT : Early T) {Q : δ → Hp → Prop} : ∀ (os : List Opd) {H : Hp} {F : Addr → Prop} {ss : Slots} {k : List W → M γ}, SR c F H σ ss → From c (mbd (opds os) k) T Wx σ F H ss Q →
    rdOs c Wx os σ H fun vs H' => ∃ ws F' ss', SR c F' H' σ ss' ∧ RepLs c F' H' ws vs ∧ Fm F H (OwnA σ ss) F' H' (OwnA σ ss') ∧ From c (k ws) T Wx σ F' H' ss' Q
  | [], H, F, ss, k, s, h => ⟨[], F, ss, s, rfl, .refl, h⟩
  | .ev m :: r, H, F, ss, k, s, h => by
    have h2 : From c (mbd m fun w => mbd (opds r) fun ws => k (w :: ws)) T Wx σ F H ss Q := by
      have e : mbd (opds (.ev m :: r)) k = mbd m fun w => mbd (opds r) fun ws => k (w :: ws) := by
        show mbd (mbd m fun w => mbd (opds r) fun ws => mret (w :: ws)) k = _
        rw [mbd_assoc]
        congr 1
        funext w
        rw [mbd_assoc]
        rfl
      rw [← e]
      exact h
    refine ⟨F, ss, s, (From.bind (U := rF c) hT h2).mono fun v H1 ⟨w, F1, ss1, _, s1, u1, f1, l1, h3⟩ => ?_⟩
    refine rdOs_mono (opds_read hT r s1 h3) fun vs H' ⟨ws, F', ss', s', u', f', h'⟩ => ?_
    exact ⟨w :: ws, F', ss', s', ⟨v, vs, rfl, .inl (RepF.kp (s1.kp f') _ _ u1), u'⟩, f1.trans f', h'⟩
  | .pk i :: r, H, F, ss, k, s, h => by
    have e : mbd (opds (.pk i :: r)) k = mbd (rdSlot i) fun _ => mbd (opds r) fun ws => mbd (rdSlot i) fun w => k (w :: ws) := by
      show mbd (mbd (rdSlot i) fun _ => mbd (opds r) fun ws => mbd (rdSlot i) fun w => mret (w :: ws)) k = _
      rw [mbd_assoc]
      congr 1
      funext w
      rw [mbd_assoc]
      congr 1
      funext ws
      rw [mbd_assoc]
      rfl
    rw [e] at h
    cases er : rdSlot i ss with
    | none =>
      have z : mbd (rdSlot i) (fun _ => mbd (opds r) fun ws => mbd (rdSlot i) fun w => k (w :: ws)) ss = none := by unfold mbd; rw [er]
      rcases h with ⟨a, s', e1, _⟩ | ⟨j, w, s', e1, _⟩ <;> rw [z] at e1 <;> cases e1
    | some t =>
      obtain ⟨w0, v, et, ev, _⟩ := rd_slot s er
      subst et
      have h2 : From c (mbd (opds r) fun ws => mbd (rdSlot i) fun w => k (w :: ws)) T Wx σ F H ss Q := by
        have z : mbd (rdSlot i) (fun _ => mbd (opds r) fun ws => mbd (rdSlot i) fun w => k (w :: ws)) ss = mbd (opds r) (fun ws => mbd (rdSlot i) fun w => k (w :: ws)) ss := by
          rw [mbd_ok er]
        unfold From at h ⊢
        rw [z] at h
        exact h
      refine ⟨v, ev, rdOs_mono (opds_read hT r s h2) fun vs H' ⟨ws, F', ss', s', u', f', h'⟩ => ?_⟩
      cases er2 : rdSlot i ss' with
      | none =>
        have z : mbd (rdSlot i) (fun w => k (w :: ws)) ss' = none := by unfold mbd; rw [er2]
        rcases h' with ⟨a, s', e1, _⟩ | ⟨j, w, s', e1, _⟩ <;> rw [z] at e1 <;> cases e1
      | some t2 =>
        obtain ⟨w, v2, et2, ev2, rl⟩ := rd_slot s' er2
        subst et2
        rw [ev] at ev2
        cases ev2
        refine ⟨w :: ws, F', ss', s', ⟨v, vs, rfl, rl, u'⟩, f', ?_⟩
        have z : mbd (rdSlot i) (fun w => k (w :: ws)) ss' = k (w :: ws) ss' := mbd_ok er2
        unfold From at h' ⊢
        rw [z] at h'
        exact h'
end
/-! ### rules over data -/
abbrev LR := List V → Hp → VK → Prop
/-- a rule r of the machine's values serves f: a value that is known, or new things -/
def RuF (c : Cn) (r : LR) (f : List W → Option W) : Prop := ∀ (F : Addr → Prop) (H : Hp) (vs : List V) (ws : List W) (w : W) (Q : VK), (∀ a, F a → ∃ o, H a = some o) → RepLs c F H ws vs → f ws = some w →
  (∀ v H', Ext H H' → RepF c F H' w v → Q v H') → r vs H Q
def RuO (c : Cn) (r : LR) (f : List W → Option W) : Prop := ∀ (F : Addr → Prop) (H : Hp) (vs : List V) (ws : List W) (w : W) (Q : VK), (∀ a, F a → ∃ o, H a = some o) → RepLs c F H ws vs → f ws = some w →
  (∀ a H', H a = none → Ext H H' → OwnAt c F H' a w → Q (.ref a) H') → r vs H Q
def RuE (c : Cn) (r : LR) (f : List W → Option W) : Prop := ∀ (F : Addr → Prop) (H : Hp) (vs : List V) (ws : List W) (w : W) (Q : VK), (∀ a, F a → ∃ o, H a = some o) → RepLs c F H ws vs → f ws = some w →
  (∀ v H', Ext H H' → RepF c F H' w v → Q v H') → (∀ a H', H a = none → Ext H H' → OwnAt c F H' a w → Q (.ref a) H') → r vs H Q
theorem RuF.e {c : Cn} {r : LR} {f : List W → Option W} (h : RuF c r f) : RuE c r f := fun F H vs ws w Q l u e k _ => h F H vs ws w Q l u e k
theorem RuO.e {c : Cn} {r : LR} {f : List W → Option W} (h : RuO c r f) : RuE c r f := fun F H vs ws w Q l u e _ k => h F H vs ws w Q l u e k
section
variable {c : Cn} {X : Cx} {f : List W → Option W} {os : List Opd} {Wx : WX} {σ : L2.St} {H : Hp} {Q : VK}
/-- an operation by a rule, read -/
theorem bi_read {r : LR} (ru : RuE c r f) (h : tM c (bi f os) (rF c) Wx σ H Q) : rdOs c Wx os σ H fun vs H' => r vs H' Q := by
  obtain ⟨F, ss, s, h⟩ := h
  refine rdOs_mono (opds_read early_F os s h) fun vs H' ⟨ws, F', ss', s', u', f', h'⟩ => ?_
  obtain ⟨w, ew, k⟩ := From.lift h'
  refine ru F' H' vs ws w Q s'.liv u' ew (fun v H2 e r => k v F' H2 e.fm (s'.ext e) r) fun a H2 n e o => ?_
  obtain ⟨u, hu, mu, _⟩ := o.mut
  have nO : ¬ OwnA σ ss' a := fun z => by
    obtain ⟨u', hu', _⟩ := s'.own z
    rw [n] at hu'
    cases hu'
  exact k _ (plus F' a) H2 (e.fm.plusA (.inr (.of n))) ((s'.ext e).plusA hu mu nO) o.rep
theorem bi_readO {r : LR} (ru : RuO c r f) (h : tM c (bi f os) (rO c) Wx σ H Q) : rdOs c Wx os σ H fun vs H' => r vs H' Q := by
  obtain ⟨F, ss, s, h⟩ := h
  refine rdOs_mono (opds_read early_O os s h) fun vs H' ⟨ws, F', ss', s', u', f', h'⟩ => ?_
  obtain ⟨w, ew, k⟩ := From.lift h'
  refine ru F' H' vs ws w Q s'.liv u' ew fun a H2 n e o => ?_
  have nO := s'.fresh (.of n)
  have nF : ¬ F' a := fun z => by
    obtain ⟨u', hu'⟩ := s'.liv a z
    rw [n] at hu'
    cases hu'
  refine k _ F' H2 e.fm (s'.ext e) ?_
  cases w with
  | lst ws => exact ⟨a, rfl, .of n, nF, nO, o⟩
  | dct ks ws => exact ⟨a, rfl, .of n, nF, nO, o⟩
  | _ => exact (show False from o).elim
end
/-! the forms -/
def r1 (r : V → Hp → VK → Prop) : LR := fun vs H Q => match vs with
  | [x] => r x H Q
  | _ => False
def r2 (r : R2) : LR := fun vs H Q => match vs with
  | [x, y] => r x y H Q
  | _ => False
section
variable {c : Cn} {X : Cx} {f : List W → Option W} {o p : Opd} {a b : Expr} {pos : Pos}
theorem sim_ev {m : M W} (h : SimE c X a m) : SimP c X a (.ev m) := h
theorem sim_pk (i : Nat) {x : Str} (hN : X.N[i]? = some x := by rfl) (hv : Vis X.env.scope x := by first | exact Or.inl rfl | exact Or.inr (Or.inl rfl) | exact Or.inr (Or.inr rfl)) (hd : (x == ("__debug__" : Str)) = false := by decide)
    (hcd : (x == ("__classdict__" : Str)) = false := by decide) : SimP c X (.Name x pos) (.pk i) := fun _ _ => pe_var hN hv hd hcd
theorem sim_bin {op : Operator} {r : R2} (ho : OpR X (binaryOp op) r) (ru : RuE c (r2 r) f) (ha : SimP c X a o) (hb : SimP c X b p) : SimE c X (.BinOp a op b pos) (bi f [o, p]) := fun Wx tk =>
  PE.imp (pe_op ho (ha Wx tk) (hb Wx tk)) fun σ H Q h => bi_read ru h
theorem sim_binO {op : Operator} {r : R2} (ho : OpR X (binaryOp op) r) (ru : RuO c (r2 r) f) (ha : SimP c X a o) (hb : SimP c X b p) : SimO c X (.BinOp a op b pos) (bi f [o, p]) := fun Wx tk =>
  PE.imp (pe_op ho (ha Wx tk) (hb Wx tk)) fun σ H Q h => bi_readO ru h
theorem sim_un {op : UnaryOp} {r : V → Hp → VK → Prop} (ho : UnR X (unaryOp op) r) (ru : RuE c (r1 r) f) (ha : SimP c X a o) : SimE c X (.UnaryOp op a pos) (bi f [o]) := fun Wx tk =>
  PE.imp (pe_un ho (ha Wx tk)) fun σ H Q h => bi_read ru h
theorem sim_cmp {op : CmpOp} {r : R2} (ho : OpR X (compareOp op) r) (ru : RuE c (r2 r) f) (ha : SimP c X a o) (hb : SimP c X b p) (hm : behindInMarks op b = false) : SimE c X (.Compare a [op] [b] pos) (bi f [o, p]) := fun Wx tk =>
  PE.imp (pe_cmpR ho (ha Wx tk) (hb Wx tk) hm) fun σ H Q h => bi_read ru h
/-- a comparison as a test -/
theorem tB_read {m : M W} {Wx : WX} {σ : L2.St} {H : Hp} {Q : Bool → Hp → Prop} (h : tM c (tB m) rB Wx σ H Q) : tM c m (rF c) Wx σ H fun x H' => ∃ k, x = .bl k ∧ Q k H' := by
  obtain ⟨F, ss, s, h⟩ := h
  refine ⟨F, ss, s, (From.bind (U := rF c) early_B h).mono fun v H1 ⟨w, F1, ss1, _, s1, u1, f1, l1, h3⟩ => ?_⟩
  obtain ⟨k, ek, q⟩ := From.lift h3
  cases w with
  | bl b =>
    cases ek
    have e : v = .bl k := u1
    subst e
    exact ⟨k, rfl, q k F1 H1 .refl s1 rfl⟩
  | _ => cases ek
theorem sim_tcmp {op : CmpOp} {r : R2} (ho : OpR X (compareOp op) r) (ru : RuE c (r2 r) f) (ha : SimP c X a o) (hb : SimP c X b p) (hm : behindInMarks op b = false) : SimT c X (.Compare a [op] [b] pos) (tB (bi f [o, p])) := fun Wx tk =>
  PT.imp (pt_cmpR ho (ha Wx tk) (hb Wx tk) hm) fun σ H Q h => bi_read (Q := fun x H' => ∃ k, x = .bl k ∧ Q k H') ru (tB_read h)
/-- an expression that gives a truth value, as a test -/
theorem sim_tB {m : M W} (h : SimE c X a m) (he : ∀ whole, isTrue a X.env whole = (do let v ← whole; standAt a.pos; holding [v] (truthy v)) := by intro _; rfl) : SimT c X a (tB m) := fun Wx tk =>
  PT.imp (pt_val (h Wx tk) he) fun σ H Q q => tB_read q
/-! ### calls of built-ins -/
inductive SimPs (c : Cn) (X : Cx) : List Expr → List Opd → Prop
  | nil : SimPs c X [] []
  | cons {e : Expr} {es : List Expr} {o : Opd} {os : List Opd} (h : SimP c X e o) (t : SimPs c X es os) (hs : starEach (e :: es) X.env = (false, eval e X.env) :: starEach es X.env) : SimPs c X (e :: es) (o :: os)
theorem SimPs.pa {Wx : WX} (tk : Takes X Wx) : ∀ {es : List Expr} {os : List Opd}, SimPs c X es os → PA X es (rdOs c Wx os)
  | _, _, .nil => pa_nil
  | _, _, .cons h t hs => pa_cons (h Wx tk) (t.pa tk) hs
theorem sim_callB {id : String} {r : LR} {x : Str} {p : Pos} {e : Expr} {es : List Expr} {os : List Opd} (hc : CallR X (.builtin id) r) (ru : RuE c r f) (hm : X.mg x = none) (ha : SimPs c X (e :: es) os) (hv : bootBuiltins x = some (.builtin id)) (hg : Gl X x := by rfl)
    (hn : x ≠ "__name__" := by decide) (hdb : (x == ("__debug__" : Str)) = false := by decide)
    (he : starEach (e :: es) X.env = (false, eval e X.env) :: starEach es X.env := by rfl) (hpl : (backTo pos (starEach es X.env)).any (·.1) = false := by rfl) : SimE c X (.Call (.Name x p) (e :: es) [] pos) (bi f os) := fun Wx tk =>
  PE.imp (pe_callB hc hg hm hv (ha.pa tk) hn hdb he hpl) fun σ H Q h => bi_read ru h
theorem sim_callBO {id : String} {r : LR} {x : Str} {p : Pos} {e : Expr} {es : List Expr} {os : List Opd} (hc : CallR X (.builtin id) r) (ru : RuO c r f) (hm : X.mg x = none) (ha : SimPs c X (e :: es) os) (hv : bootBuiltins x = some (.builtin id)) (hg : Gl X x := by rfl)
    (hn : x ≠ "__name__" := by decide) (hdb : (x == ("__debug__" : Str)) = false := by decide)
    (he : starEach (e :: es) X.env = (false, eval e X.env) :: starEach es X.env := by rfl) (hpl : (backTo pos (starEach es X.env)).any (·.1) = false := by rfl) : SimO c X (.Call (.Name x p) (e :: es) [] pos) (bi f os) := fun Wx tk =>
  PE.imp (pe_callB hc hg hm hv (ha.pa tk) hn hdb he hpl) fun σ H Q h => bi_readO ru h
theorem sim_callTy {T : String} {r : LR} {x : Str} {p : Pos} {e : Expr} {es : List Expr} {os : List Opd} (hc : CallR X (.type T) r) (ru : RuE c r f) (hm : X.mg x = none) (ha : SimPs c X (e :: es) os) (hv : bootBuiltins x = some (.type T)) (hg : Gl X x := by rfl)
    (hn : x ≠ "__name__" := by decide) (hdb : (x == ("__debug__" : Str)) = false := by decide)
    (he : starEach (e :: es) X.env = (false, eval e X.env) :: starEach es X.env := by rfl) (hpl : (backTo pos (starEach es X.env)).any (·.1) = false := by rfl) : SimE c X (.Call (.Name x p) (e :: es) [] pos) (bi f os) := fun Wx tk =>
  PE.imp (pe_callTy hc hg hm hv (ha.pa tk) hn hdb he hpl) fun σ H Q h => bi_read ru h
theorem sim_callTyO {T : String} {r : LR} {x : Str} {p : Pos} {e : Expr} {es : List Expr} {os : List Opd} (hc : CallR X (.type T) r) (ru : RuO c r f) (hm : X.mg x = none) (ha : SimPs c X (e :: es) os) (hv : bootBuiltins x = some (.type T)) (hg : Gl X x := by rfl)
    (hn : x ≠ "__name__" := by decide) (hdb : (x == ("__debug__" : Str)) = false := by decide)
    (he : starEach (e :: es) X.env = (false, eval e X.env) :: starEach es X.env := by rfl) (hpl : (backTo pos (starEach es X.env)).any (·.1) = false := by rfl) : SimO c X (.Call (.Name x p) (e :: es) [] pos) (bi f os) := fun Wx tk =>
  PE.imp (pe_callTy hc hg hm hv (ha.pa tk) hn hdb he hpl) fun σ H Q h => bi_readO ru h
/-- o[i] -/
theorem sim_ix {r : R2} (hr : IxR X r) (ru : RuE c (r2 r) f) (ha : SimP c X a o) (hb : SimP c X b p) (hs : PlainIx b := by exact fun _ _ => rfl) : SimE c X (.Subscript a b pos) (bi f [o, p]) := fun Wx tk =>
  PE.imp (pe_ix hr (ha Wx tk) (hb Wx tk) hs) fun σ H Q h => bi_read ru h
end
end VI

set_option Elab.async false
set_option linter.all false
set_option maxRecDepth 100000
set_option maxHeartbeats 1000000
/-! VI, part 5: the rules for the built-in operations. -/
namespace VI
open PySem L2
section
variable {c : Cn} {F : Addr → Prop} {H : Hp}
theorem rl0 {vs : List V} (h : RepLs c F H [] vs) : vs = [] := h
theorem rl1 {a : W} {vs : List V} (h : RepLs c F H [a] vs) : ∃ x, vs = [x] ∧ RepL c F H a x := by
  obtain ⟨v, r, e, h1, h2⟩ := h
  have e2 : r = [] := h2
  rw [e2] at e
  exact ⟨v, e, h1⟩
theorem rl2 {a b : W} {vs : List V} (h : RepLs c F H [a, b] vs) : ∃ x y, vs = [x, y] ∧ RepL c F H a x ∧ RepL c F H b y := by
  obtain ⟨v, r, e, h1, h2⟩ := h
  obtain ⟨y, e2, h3⟩ := rl1 h2
  rw [e2] at e
  exact ⟨v, y, e, h1, h3⟩
theorem rL_non {v : V} (h : RepL c F H .non v) : v = .non := by
  rcases h with h | ⟨a, _, h⟩
  · exact h
  · exact (show False from h).elim
theorem rL_bl {b : Bool} {v : V} (h : RepL c F H (.bl b) v) : v = .bl b := by
  rcases h with h | ⟨a, _, h⟩
  · exact h
  · exact (show False from h).elim
theorem rL_int {b : Int} {v : V} (h : RepL c F H (.int b) v) : v = .int b := by
  rcases h with h | ⟨a, _, h⟩
  · exact h
  · exact (show False from h).elim
theorem rL_str {b : List Nat} {v : V} (h : RepL c F H (.str b) v) : v = .str (mkS b) := by
  rcases h with h | ⟨a, _, h⟩
  · exact h
  · exact (show False from h).elim
theorem rL_cls {b : Ty} {v : V} (h : RepL c F H (.cls b) v) : v = .ty (tyN b) := by
  rcases h with h | ⟨a, _, h⟩
  · exact h
  · exact (show False from h).elim
theorem rL_tup {ws : List W} {v : V} (h : RepL c F H (.tup ws) v) : ∃ a vs, v = .ref a ∧ SqT c.K H a vs ∧ RepFs c F H ws vs := by
  rcases h with h | ⟨a, _, h⟩
  · exact h
  · exact (show False from h).elim
theorem rL_lst {ws : List W} {v : V} (h : RepL c F H (.lst ws) v) : ∃ a vs, v = .ref a ∧ H a = some (.lst vs) ∧ RepFs c F H ws vs := by
  rcases h with h | ⟨a, e, h⟩
  · obtain ⟨a, vs, e, _, h1, h2⟩ := h
    exact ⟨a, vs, e, h1, h2⟩
  · obtain ⟨vs, h1, h2⟩ := h
    exact ⟨a, vs, e, h1, h2⟩
theorem rL_dct {ks ws : List W} {v : V} (h : RepL c F H (.dct ks ws) v) : ∃ a vs, v = .ref a ∧ DctAt H a ks vs ∧ RepFs c F H ws vs := by
  rcases h with h | ⟨a, e, h⟩
  · obtain ⟨a, vs, e, _, h1, h2⟩ := h
    exact ⟨a, vs, e, h1, h2⟩
  · obtain ⟨vs, ⟨_, h1⟩, h2⟩ := h
    exact ⟨a, vs, e, h1, h2⟩
theorem scr_sq {K : PySem.W.Frag} {a : Addr} {xs : List V} (h : (∃ o, H a = some (.frz o (.lst xs))) ∨ SqL K (fun _ => none) a xs) : SqL K H a xs := by
  rcases h with ⟨o, h⟩ | (h | ⟨o, h⟩) | h
  · exact .inl (.inr ⟨o, h⟩)
  · cases h
  · cases h
  · exact .inr h
theorem rL_scr {ns : List Int} {v : V} (h : RepL c F H (.scr ns) v) : ∃ a, v = .ref a ∧ SqL c.K H a (ns.map V.int) := by
  rcases h with h | ⟨a, _, h⟩
  · obtain ⟨a, e, h⟩ := h
    exact ⟨a, e, scr_sq h⟩
  · exact (show False from h).elim
theorem mkS_list (l : List Nat) : (mkS l).cps.toList = l := by simp [mkS]
theorem mkS_len (l : List Nat) : (mkS l).length = l.length := by simp [mkS, Str.length]
theorem mkS_app (a b : List Nat) : mkS a ++ mkS b = mkS (a ++ b) := by
  show (⟨_⟩ : Str) = ⟨_⟩
  congr 1
  simp [mkS]
theorem mkS_inj {a b : List Nat} : mkS a = mkS b ↔ a = b := by
  constructor
  · intro h
    have := congrArg (fun x : Str => x.cps.toList) h
    simpa [mkS_list] using this
  · intro h
    rw [h]
theorem sizeLine_big {n : Nat} (h : n ≤ 100000) : n ≤ sizeLine := Nat.le_trans h (by rw [sizeLine_eq]; decide)
end
variable {c : Cn}
/-! ### numbers -/
def rAdd4 (K : PySem.W.Frag) : R2 := fun x y H Q => (∃ i j, x = .int i ∧ y = .int j ∧ Q (.int (i + j)) H) ∨ (∃ i j, x = .str i ∧ y = .str j ∧ i.length + j.length ≤ sizeLine ∧ Q (.str (i ++ j)) H) ∨ rCat x y H Q ∨ rCatA K x y H Q
theorem op_add4 {X : Cx} : OpR X (binaryOp .Add) (rAdd4 X.K) := op_add.or (op_add_str.or (op_cat.or op_catA))
theorem ru_add : RuE c (r2 (rAdd4 c.K)) bAdd := by
  intro F H vs ws w Q _ u e k ko
  unfold bAdd at e
  split at e
  · obtain ⟨x, y, rfl, h1, h2⟩ := rl2 u
    cases e
    rw [rL_int h1, rL_int h2]
    exact .inl ⟨_, _, rfl, rfl, k _ _ (.refl _) rfl⟩
  · obtain ⟨x, y, rfl, h1, h2⟩ := rl2 u
    split at e
    · cases e
      rename_i hl
      rw [rL_str h1, rL_str h2]
      refine .inr (.inl ⟨_, _, rfl, rfl, ?_, k _ _ (.refl _) ?_⟩)
      · rw [mkS_len, mkS_len]
        exact sizeLine_big hl
      · rw [mkS_app]
        exact rfl
    · cases e
  · obtain ⟨x, y, rfl, h1, h2⟩ := rl2 u
    split at e
    · cases e
      rename_i hl
      obtain ⟨a, va, rfl, e1, q1⟩ := rL_lst h1
      obtain ⟨b, vb, rfl, e2, q2⟩ := rL_lst h2
      refine .inr (.inr (.inl ⟨a, b, va, vb, rfl, rfl, e1, e2, ?_, fun p hp => ko p _ hp (.new hp) ?_⟩))
      · rw [← q1.length, ← q2.length]
        exact sizeLine_big hl
      · exact ⟨_, upd_same, RepFs.kp (Ext.kp (.new hp)) _ _ (q1.app q2)⟩
    · cases e
  · obtain ⟨x, y, rfl, h1, h2⟩ := rl2 u
    split at e
    · cases e
      rename_i hl
      obtain ⟨a, va, rfl, e1, q1⟩ := rL_tup h1
      obtain ⟨b, vb, rfl, e2, q2⟩ := rL_tup h2
      refine .inr (.inr (.inr ⟨a, b, va, vb, rfl, rfl, e1, e2, ?_, fun z => ?_, fun _ z => ?_, fun _ => ?_⟩))
      · rw [← q1.length, ← q2.length]
        exact sizeLine_big hl
      · subst z
        have e0 : _ = [] := List.eq_nil_of_length_eq_zero q1.length
        rw [e0] at k
        exact k _ _ (.refl _) ⟨b, vb, rfl, e2, q2⟩
      · subst z
        have e0 : _ = [] := List.eq_nil_of_length_eq_zero q2.length
        rw [e0, List.append_nil] at k
        exact k _ _ (.refl _) ⟨a, va, rfl, e1, q1⟩
      · exact fun n p hp => k _ _ (.new hp) ⟨p, va ++ vb, rfl, .of upd_same, RepFs.kp (Ext.kp (.new hp)) _ _ (q1.app q2)⟩
    · cases e
  · cases e
/-- lists, just made -/
def bCat : List W → Option W
  | [.lst a, .lst b] => if a.length + b.length ≤ 100000 then some (.lst (a ++ b)) else none
  | _ => none
theorem ru_cat : RuO c (r2 rCat) bCat := by
  intro F H vs ws w Q _ u e ko
  unfold bCat at e
  split at e
  · obtain ⟨x, y, rfl, h1, h2⟩ := rl2 u
    split at e
    · cases e
      rename_i hl
      obtain ⟨a, va, rfl, e1, q1⟩ := rL_lst h1
      obtain ⟨b, vb, rfl, e2, q2⟩ := rL_lst h2
      refine ⟨a, b, va, vb, rfl, rfl, e1, e2, ?_, fun p hp => ko p _ hp (.new hp) ?_⟩
      · rw [← q1.length, ← q2.length]
        exact sizeLine_big hl
      · exact ⟨_, upd_same, RepFs.kp (Ext.kp (.new hp)) _ _ (q1.app q2)⟩
    · cases e
  · cases e
theorem ru_int2 {C : Int → Int → Prop} {g : Int → Int → Int} {f : List W → Option W} (hf : ∀ ws w, f ws = some w → ∃ i j, ws = [.int i, .int j] ∧ C i j ∧ w = .int (g i j)) : RuF c (r2 (rI C fun i j => .int (g i j))) f := by
  intro F H vs ws w Q _ u e k
  obtain ⟨i, j, rfl, hc, rfl⟩ := hf ws w e
  obtain ⟨x, y, rfl, h1, h2⟩ := rl2 u
  rw [rL_int h1, rL_int h2]
  exact ⟨_, _, rfl, rfl, hc, k _ _ (.refl _) rfl⟩
theorem ru_sub : RuF c (r2 (rI0 fun i j => .int (i - j))) bSub := by
  intro F H vs ws w Q _ u e k
  unfold bSub at e
  split at e
  · obtain ⟨x, y, rfl, h1, h2⟩ := rl2 u
    cases e
    rw [rL_int h1, rL_int h2]
    exact ⟨_, _, rfl, rfl, k _ _ (.refl _) rfl⟩
  · cases e
theorem small64_ok {i : Int} (h : small64 i = true) : -(2 ^ 64) < i ∧ i < 2 ^ 64 := by
  unfold small64 at h
  have h := of_decide_eq_true h
  omega
theorem ru_mul : RuF c (r2 (rI CMul fun i j => .int (i * j))) bMul := ru_int2 fun ws w e => by
  unfold bMul at e
  split at e
  · split at e
    · cases e
      rename_i h
      rw [Bool.or_eq_true] at h
      exact ⟨_, _, rfl, h.imp small64_ok small64_ok, rfl⟩
    · cases e
  · cases e
theorem ru_fdiv : RuF c (r2 (rI CDiv fun i j => .int (i / j))) bFdiv := ru_int2 fun ws w e => by
  unfold bFdiv at e
  split at e
  · split at e
    · cases e
      rename_i h
      exact ⟨_, _, rfl, h, rfl⟩
    · cases e
  · cases e
theorem ru_mod : RuF c (r2 (rI (fun _ j => 0 < j) fun i j => .int (i % j))) bMod := ru_int2 fun ws w e => by
  unfold bMod at e
  split at e
  · split at e
    · cases e
      rename_i h
      exact ⟨_, _, rfl, h, rfl⟩
    · cases e
  · cases e
theorem ru_neg : RuF c (r1 (rU fun i => .int (-i))) bNeg := by
  intro F H vs ws w Q _ u e k
  unfold bNeg at e
  split at e
  · obtain ⟨x, rfl, h1⟩ := rl1 u
    cases e
    rw [rL_int h1]
    exact ⟨_, rfl, k _ _ (.refl _) rfl⟩
  · cases e
/-! ### order -/
theorem ltL_ok : ∀ a b : List Nat, ltL a b = decide (a < b)
  | [], [] => by simp [ltL]
  | [], _ :: _ => by simp [ltL]
  | _ :: _, [] => by simp [ltL]
  | a :: x, b :: y => by
    unfold ltL
    rw [ltL_ok x y]
    by_cases h : a < b
    · simp [h, List.cons_lt_cons_iff]
    · by_cases h2 : b < a
      · have h3 : a ≠ b := by omega
        simp [h, h2, h3, List.cons_lt_cons_iff]
      · have h3 : a = b := by omega
        subst h3
        simp [List.cons_lt_cons_iff]
def rOrd (g : Int → Int → Bool) (h : List Nat → List Nat → Bool) : R2 := fun x y H Q => (∃ i j, x = .int i ∧ y = .int j ∧ Q (.bl (g i j)) H) ∨ (∃ i j, x = .str i ∧ y = .str j ∧ Q (.bl (h i.cps.toList j.cps.toList)) H)
theorem ru_ord {g : Int → Int → Bool} {h h' : List Nat → List Nat → Bool} {f : List W → Option W} (hh : ∀ a b, h a b = h' a b)
    (hf : ∀ ws w, f ws = some w → (∃ i j, ws = [.int i, .int j] ∧ w = .bl (g i j)) ∨ ∃ a b, ws = [.str a, .str b] ∧ w = .bl (h' a b)) : RuF c (r2 (rOrd g h)) f := by
  intro F H vs ws w Q _ u e k
  rcases hf ws w e with ⟨i, j, rfl, rfl⟩ | ⟨i, j, rfl, rfl⟩
  · obtain ⟨x, y, rfl, h1, h2⟩ := rl2 u
    rw [rL_int h1, rL_int h2]
    exact .inl ⟨_, _, rfl, rfl, k _ _ (.refl _) rfl⟩
  · obtain ⟨x, y, rfl, h1, h2⟩ := rl2 u
    rw [rL_str h1, rL_str h2]
    refine .inr ⟨_, _, rfl, rfl, k _ _ (.refl _) ?_⟩
    rw [mkS_list, mkS_list, hh]
    exact rfl
theorem op_lt2 {X : Cx} : OpR X (compareOp .Lt) (rOrd (fun i j => decide (i < j)) fun a b => decide (a < b)) := op_lt.or op_lt_str
theorem op_le2 {X : Cx} : OpR X (compareOp .LtE) (rOrd (fun i j => decide (i ≤ j)) fun a b => !decide (b < a)) := op_le.or op_le_str
theorem op_gt2 {X : Cx} : OpR X (compareOp .Gt) (rOrd (fun i j => decide (j < i)) fun a b => decide (b < a)) := op_gt.or op_gt_str
theorem op_ge2 {X : Cx} : OpR X (compareOp .GtE) (rOrd (fun i j => decide (j ≤ i)) fun a b => !decide (a < b)) := op_ge.or op_ge_str
theorem ru_lt : RuF c (r2 (rOrd (fun i j => decide (i < j)) fun a b => decide (a < b))) bLt := ru_ord (h' := ltL) (fun a b => (ltL_ok a b).symm) fun ws w e => by
  unfold bLt at e
  split at e
  · cases e
    exact .inl ⟨_, _, rfl, rfl⟩
  · cases e
    exact .inr ⟨_, _, rfl, rfl⟩
  · cases e
theorem ru_le : RuF c (r2 (rOrd (fun i j => decide (i ≤ j)) fun a b => !decide (b < a))) bLe := ru_ord (h' := fun a b => !ltL b a) (fun a b => by rw [ltL_ok b a]) fun ws w e => by
  unfold bLe at e
  split at e
  · cases e
    exact .inl ⟨_, _, rfl, rfl⟩
  · cases e
    exact .inr ⟨_, _, rfl, rfl⟩
  · cases e
theorem ru_gt : RuF c (r2 (rOrd (fun i j => decide (j < i)) fun a b => decide (b < a))) bGt := ru_ord (h' := fun a b => ltL b a) (fun a b => by rw [ltL_ok b a]) fun ws w e => by
  unfold bGt at e
  split at e
  · cases e
    exact .inl ⟨_, _, rfl, rfl⟩
  · cases e
    exact .inr ⟨_, _, rfl, rfl⟩
  · cases e
theorem ru_ge : RuF c (r2 (rOrd (fun i j => decide (j ≤ i)) fun a b => !decide (a < b))) bGe := ru_ord (h' := fun a b => !ltL a b) (fun a b => by rw [ltL_ok a b]) fun ws w e => by
  unfold bGe at e
  split at e
  · cases e
    exact .inl ⟨_, _, rfl, rfl⟩
  · cases e
    exact .inr ⟨_, _, rfl, rfl⟩
  · cases e
/-! ### is -/
def rIs2 (n : Bool) : R2 := fun x y H Q => (y = .non ∧ Q (.bl (if n then !decide (x = .non) else decide (x = .non))) H) ∨ ∃ a b : Bool, x = .bl a ∧ y = .bl b ∧ Q (.bl (if n then !decide (a = b) else decide (a = b))) H
theorem op_is2 {X : Cx} : OpR X (compareOp .Is) (rIs2 false) := op_isN.or op_isBl
theorem op_isnot2 {X : Cx} : OpR X (compareOp .IsNot) (rIs2 true) := op_notN.or op_notBl
theorem rL_isnon {F : Addr → Prop} {H : Hp} {w : W} {v : V} (h : RepL c F H w v) : decide (v = .non) = isNon w := by
  have go : ∀ v' : V, v = v' → decide (v' = .non) = isNon w → decide (v = .non) = isNon w := fun v' e q => by
    rw [e]
    exact q
  cases w with
  | non => exact go _ (rL_non h) rfl
  | bl b => exact go _ (rL_bl h) rfl
  | int b => exact go _ (rL_int h) rfl
  | str b => exact go _ (rL_str h) rfl
  | cls b => exact go _ (rL_cls h) rfl
  | tup b =>
    obtain ⟨_, _, e, _⟩ := rL_tup h
    exact go _ e rfl
  | lst b =>
    obtain ⟨_, _, e, _⟩ := rL_lst h
    exact go _ e rfl
  | dct b d =>
    obtain ⟨_, _, e, _⟩ := rL_dct h
    exact go _ e rfl
  | scr b =>
    obtain ⟨_, e, _⟩ := rL_scr h
    exact go _ e rfl
  | fn i =>
    rcases h with h | ⟨a, _, h⟩
    · exact go _ h rfl
    · exact (show False from h).elim
theorem ru_is : RuF c (r2 (rIs2 false)) bIs := by
  intro F H vs ws w Q _ u e k
  unfold bIs at e
  split at e
  · obtain ⟨x, y, rfl, h1, h2⟩ := rl2 u
    cases e
    rw [rL_non h2]
    refine .inl ⟨rfl, k _ _ (.refl _) ?_⟩
    exact congrArg V.bl (rL_isnon h1)
  · obtain ⟨x, y, rfl, h1, h2⟩ := rl2 u
    cases e
    rw [rL_bl h1, rL_bl h2]
    refine .inr ⟨_, _, rfl, rfl, k _ _ (.refl _) ?_⟩
    exact congrArg V.bl (Bool.beq_eq_decide_eq _ _).symm
  · cases e
theorem ru_isnot : RuF c (r2 (rIs2 true)) bIsNot := by
  intro F H vs ws w Q _ u e k
  unfold bIsNot at e
  split at e
  · obtain ⟨x, y, rfl, h1, h2⟩ := rl2 u
    cases e
    rw [rL_non h2]
    refine .inl ⟨rfl, k _ _ (.refl _) ?_⟩
    exact congrArg V.bl (congrArg not (rL_isnon h1))
  · obtain ⟨x, y, rfl, h1, h2⟩ := rl2 u
    cases e
    rw [rL_bl h1, rL_bl h2]
    refine .inr ⟨_, _, rfl, rfl, k _ _ (.refl _) ?_⟩
    exact congrArg V.bl (congrArg not (Bool.beq_eq_decide_eq _ _).symm)
  · cases e
/-! ### ==, != -/
mutual
def pd : W → PyData
  | .bl b => .bool b
  | .int i => .int i
  | .str s => .str (mkS s)
  | .tup ws => .tuple (pds ws)
  | .lst ws => .list (pds ws)
  | _ => .none
def pds : List W → List PyData
  | [] => []
  | w :: ws => pd w :: pds ws
end
theorem strOk_mk : ∀ {s : List Nat}, okS s = true → PyData.strOk (mkS s) = true := fun {s} h => by
  unfold PyData.strOk mkS
  rw [List.all_toArray]
  induction s with
  | nil => rfl
  | cons a r ih =>
    unfold okS at h
    rw [Bool.and_eq_true] at h
    rw [List.all_cons, Bool.and_eq_true]
    exact ⟨by simpa using h.1, ih h.2⟩
mutual
theorem pd_lay : ∀ (n : Nat) (w : W), flat n w = true → (pd w).canLay0 = true ∧ (pd w).depth ≤ n
  | n, .non, _ => ⟨rfl, Nat.zero_le _⟩
  | n, .bl _, _ => ⟨rfl, Nat.zero_le _⟩
  | n, .int _, _ => ⟨rfl, Nat.zero_le _⟩
  | n, .str s, h => ⟨strOk_mk (by cases n <;> exact h), Nat.zero_le _⟩
  | 0, .tup _, h => by cases h
  | 0, .lst _, h => by cases h
  | n + 1, .tup ws, h => by
    obtain ⟨h1, h2⟩ := pds_lay n ws h
    exact ⟨h1, Nat.succ_le_succ h2⟩
  | n + 1, .lst ws, h => by
    obtain ⟨h1, h2⟩ := pds_lay n ws h
    exact ⟨h1, Nat.succ_le_succ h2⟩
  | 0, .dct _ _, h => by cases h
  | 0, .scr _, h => by cases h
  | 0, .fn _, h => by cases h
  | 0, .cls _, h => by cases h
  | _ + 1, .dct _ _, h => by cases h
  | _ + 1, .scr _, h => by cases h
  | _ + 1, .fn _, h => by cases h
  | _ + 1, .cls _, h => by cases h
theorem pds_lay : ∀ (n : Nat) (ws : List W), flats n ws = true → PyData.canLayAll0 (pds ws) = true ∧ PyData.depthAll (pds ws) ≤ n
  | _, [], _ => ⟨rfl, Nat.zero_le _⟩
  | n, w :: ws, h => by
    unfold flats at h
    rw [Bool.and_eq_true] at h
    obtain ⟨h1, h2⟩ := pd_lay n w h.1
    obtain ⟨h3, h4⟩ := pds_lay n ws h.2
    refine ⟨?_, ?_⟩
    · show (PyData.canLay0 (pd w) && PyData.canLayAll0 (pds ws)) = true
      rw [h1, h3]
      rfl
    · show max (PyData.depth (pd w)) (PyData.depthAll (pds ws)) ≤ n
      omega
end
theorem pd_shaped {w : W} (h : flat 40 w = true) : SeqAt.shaped (pd w) = true := by
  obtain ⟨h1, h2⟩ := pd_lay 40 w h
  unfold SeqAt.shaped
  rw [h1, decide_eq_true (by omega)]
  rfl
mutual
theorem pd_rep {F : Addr → Prop} {H : Hp} : ∀ (n : Nat) (w : W) (v : V), flat n w = true → RepF c F H w v → Dp c.K H v (pd w)
  | n, .non, _, _, r => by
    have e : _ = V.non := r
    rw [e]
    exact .non
  | n, .bl _, _, _, r => by
    have e : _ = V.bl _ := r
    rw [e]
    exact .bl _
  | n, .int _, _, _, r => by
    have e : _ = V.int _ := r
    rw [e]
    exact .int _
  | n, .str s, _, _, r => by
    have e : _ = V.str _ := r
    rw [e]
    exact .str _
  | 0, .tup _, _, h, _ => by cases h
  | 0, .lst _, _, h, _ => by cases h
  | n + 1, .tup ws, _, h, r => by
    obtain ⟨a, vs, e, h1, h2⟩ := r
    rw [e]
    exact .tup h1 (pds_rep n ws vs h h2)
  | n + 1, .lst ws, _, h, r => by
    obtain ⟨a, vs, e, _, h1, h2⟩ := r
    rw [e]
    exact .lst (.of h1) (pds_rep n ws vs h h2)
  | 0, .dct _ _, _, h, _ => by cases h
  | 0, .scr _, _, h, _ => by cases h
  | 0, .fn _, _, h, _ => by cases h
  | 0, .cls _, _, h, _ => by cases h
  | _ + 1, .dct _ _, _, h, _ => by cases h
  | _ + 1, .scr _, _, h, _ => by cases h
  | _ + 1, .fn _, _, h, _ => by cases h
  | _ + 1, .cls _, _, h, _ => by cases h
theorem pds_rep {F : Addr → Prop} {H : Hp} : ∀ (n : Nat) (ws : List W) (vs : List V), flats n ws = true → RepFs c F H ws vs → DpAll c.K H vs (pds ws)
  | _, [], _, _, r => by
    have e : _ = [] := r
    rw [e]
    exact .nil
  | n, w :: ws, _, h, r => by
    unfold flats at h
    rw [Bool.and_eq_true] at h
    obtain ⟨v, vs, e, r1, r2⟩ := r
    rw [e]
    exact .cons (pd_rep n w v h.1 r1) (pds_rep n ws vs h.2 r2)
end
theorem pd_repL {F : Addr → Prop} {H : Hp} {w : W} {v : V} (h : flat 40 w = true) (r : RepL c F H w v) : Dp c.K H v (pd w) := by
  rcases r with r | ⟨a, e, r⟩
  · exact pd_rep 40 w v h r
  · cases w with
    | lst ws =>
      obtain ⟨vs, h1, h2⟩ := r
      rw [e]
      exact .lst (.of h1) (pds_rep 39 ws vs h h2)
    | dct ks ws => cases h
    | _ => exact (show False from r).elim
mutual
theorem pd_eqv : ∀ (n m : Nat) (a b : W), flat n a = true → flat m b = true → PyData.eqv (pd a) (pd b) = eqW a b := by
  intro n m a b ha hb
  cases a <;> cases b
  all_goals first
    | (cases n <;> cases ha; done)
    | (cases m <;> cases hb; done)
    | rfl
    | skip
  · show (mkS _ == mkS _) = _
    unfold eqW
    rw [Bool.eq_iff_iff]
    simp [mkS_inj]
  · cases n with
    | zero => cases ha
    | succ n =>
      cases m with
      | zero => cases hb
      | succ m => exact pds_eqv n m _ _ ha hb
  · cases n with
    | zero => cases ha
    | succ n =>
      cases m with
      | zero => cases hb
      | succ m => exact pds_eqv n m _ _ ha hb
theorem pds_eqv : ∀ (n m : Nat) (a b : List W), flats n a = true → flats m b = true → PyData.eqvAll (pds a) (pds b) = eqWs a b
  | _, _, [], [], _, _ => rfl
  | _, _, [], _ :: _, _, _ => rfl
  | _, _, _ :: _, [], _, _ => rfl
  | n, m, x :: xs, y :: ys, ha, hb => by
    unfold flats at ha hb
    rw [Bool.and_eq_true] at ha hb
    show (PyData.eqv (pd x) (pd y) && PyData.eqvAll (pds xs) (pds ys)) = (eqW x y && eqWs xs ys)
    rw [pd_eqv n m x y ha.1 hb.1, pds_eqv n m xs ys ha.2 hb.2]
end
theorem ru_eq : RuF c (r2 (rEqD c.K)) bEq := by
  intro F H vs ws w Q _ u e k
  unfold bEq at e
  split at e
  · obtain ⟨x, y, rfl, h1, h2⟩ := rl2 u
    split at e
    · rename_i hf
      rw [Bool.and_eq_true] at hf
      cases e
      refine ⟨_, _, pd_repL hf.1 h1, pd_repL hf.2 h2, pd_shaped hf.1, pd_shaped hf.2, k _ _ (.refl _) ?_⟩
      rw [pd_eqv 40 40 _ _ hf.1 hf.2]
      exact rfl
    · cases e
  · cases e
theorem ru_ne : RuF c (r2 (rNeD c.K)) bNe := by
  intro F H vs ws w Q _ u e k
  unfold bNe at e
  split at e
  · obtain ⟨x, y, rfl, h1, h2⟩ := rl2 u
    split at e
    · rename_i hf
      rw [Bool.and_eq_true] at hf
      cases e
      refine ⟨_, _, pd_repL hf.1 h1, pd_repL hf.2 h2, pd_shaped hf.1, pd_shaped hf.2, k _ _ (.refl _) ?_⟩
      rw [pd_eqv 40 40 _ _ hf.1 hf.2]
      exact rfl
    · cases e
  · cases e
end VI

set_option Elab.async false
set_option linter.all false
set_option maxRecDepth 100000
set_option maxHeartbeats 1000000
/-! VI, part 6: in, isinstance, len, items, slices, tuple and list. -/
namespace VI
open PySem L2
variable {c : Cn}
/-! ### in -/
theorem fl_of {F : Addr → Prop} {H : Hp} {w : W} {v : V} (h : sc1 w = true) (r : RepL c F H w v) : flatV v = true := by
  cases w with
  | non => rw [rL_non r]; rfl
  | bl b => rw [rL_bl r]; rfl
  | int b => rw [rL_int r]; rfl
  | str b => rw [rL_str r]; rfl
  | _ => cases h
theorem fls_of {F : Addr → Prop} {H : Hp} : ∀ {ws : List W} {vs : List V}, sc1s ws = true → RepFs c F H ws vs → vs.all flatV = true
  | [], _, _, r => by
    have e : _ = [] := r
    rw [e]
    rfl
  | w :: ws, _, h, r => by
    unfold sc1s at h
    rw [Bool.and_eq_true] at h
    obtain ⟨v, vs, e, r1, r2⟩ := r
    rw [e, List.all_cons, fl_of h.1 (.inl r1), fls_of h.2 r2]
    rfl
theorem b2i_eq (a : Bool) (b : Int) : (b2i a == b) = ((if a then 1 else 0) == b) := by cases a <;> rfl
theorem eqV_of {F : Addr → Prop} {H : Hp} {w u : W} {v x : V} (h : sc1 w = true) (h' : sc1 u = true) (r : RepL c F H w v) (r' : RepL c F H u x) : eqV v x = eqW w u := by
  cases w with
  | non =>
    rw [rL_non r]
    cases u with
    | non => rw [rL_non r']; rfl
    | bl b => rw [rL_bl r']; rfl
    | int b => rw [rL_int r']; rfl
    | str b => rw [rL_str r']; rfl
    | _ => cases h'
  | bl a =>
    rw [rL_bl r]
    cases u with
    | non => rw [rL_non r']; rfl
    | bl b => rw [rL_bl r']; rfl
    | int b => rw [rL_int r']; cases a <;> rfl
    | str b => rw [rL_str r']; rfl
    | _ => cases h'
  | int a =>
    rw [rL_int r]
    cases u with
    | non => rw [rL_non r']; rfl
    | bl b => rw [rL_bl r']; cases b <;> rfl
    | int b => rw [rL_int r']; rfl
    | str b => rw [rL_str r']; rfl
    | _ => cases h'
  | str a =>
    rw [rL_str r]
    cases u with
    | non => rw [rL_non r']; rfl
    | bl b => rw [rL_bl r']; rfl
    | int b => rw [rL_int r']; rfl
    | str b =>
      rw [rL_str r']
      show (mkS _ == mkS _) = (a == b)
      rw [Bool.eq_iff_iff]
      simp [mkS_inj]
    | _ => cases h'
  | _ => cases h
theorem inV_of {F : Addr → Prop} {H : Hp} {w : W} {v : V} (h : sc1 w = true) (r : RepL c F H w v) : ∀ {ws : List W} {vs : List V}, sc1s ws = true → RepFs c F H ws vs → inV v vs = inWs w ws
  | [], _, _, r' => by
    have e : _ = [] := r'
    rw [e]
    rfl
  | u :: ws, _, h', r' => by
    unfold sc1s at h'
    rw [Bool.and_eq_true] at h'
    obtain ⟨x, vs, e, r1, r2⟩ := r'
    rw [e]
    unfold inWs
    show (eqV x v || inV v vs) = _
    rw [eqV_of h'.1 h (.inl r1) r, inV_of h r h'.2 r2]
    cases eqW u w <;> rfl
theorem inL_of (x : Nat) : ∀ l : List Nat, inL x l = decide (x ∈ l)
  | [] => by simp [inL]
  | a :: r => by
    unfold inL
    rw [inL_of x r]
    by_cases h : x = a
    · simp [h]
    · simp [h]
def rInB (K : PySem.W.Frag) (n : Bool) : R2 := fun x y H Q => rIn K n x y H Q ∨ ∃ (ch : Nat) (z : Str), x = .str ⟨#[ch]⟩ ∧ y = .str z ∧ Q (.bl (if n then !decide (ch ∈ z.cps.toList) else decide (ch ∈ z.cps.toList))) H
theorem op_in2 {X : Cx} : OpR X (compareOp .In) (rInB X.K false) := op_in_seq.or op_in_sign
theorem op_notin2 {X : Cx} : OpR X (compareOp .NotIn) (rInB X.K true) := op_notIn_seq.or op_notIn_sign
theorem mkS_one (a : Nat) : mkS [a] = ⟨#[a]⟩ := rfl
theorem ru_inG (n : Bool) {f : List W → Option W} (hf : ∀ ws w, f ws = some w → (∃ x ys, (ws = [x, .tup ys] ∨ ws = [x, .lst ys]) ∧ sc1 x = true ∧ sc1s ys = true ∧ w = .bl (if n then !inWs x ys else inWs x ys)) ∨
    ∃ a z, ws = [.str [a], .str z] ∧ w = .bl (if n then !inL a z else inL a z)) : RuF c (r2 (rInB c.K n)) f := by
  intro F H vs ws w Q _ u e k
  rcases hf ws w e with ⟨x, ys, ew, h1, h2, rfl⟩ | ⟨a, z, rfl, rfl⟩
  · rcases ew with rfl | rfl
    · obtain ⟨v, y, rfl, q1, q2⟩ := rl2 u
      obtain ⟨p, zs, rfl, e1, e2⟩ := rL_tup q2
      refine .inl ⟨p, zs, rfl, .inr e1, fl_of h1 q1, fls_of h2 e2, k _ _ (.refl _) ?_⟩
      rw [inV_of h1 q1 h2 e2]
      exact rfl
    · obtain ⟨v, y, rfl, q1, q2⟩ := rl2 u
      obtain ⟨p, zs, rfl, e1, e2⟩ := rL_lst q2
      refine .inl ⟨p, zs, rfl, .inl (.of e1), fl_of h1 q1, fls_of h2 e2, k _ _ (.refl _) ?_⟩
      rw [inV_of h1 q1 h2 e2]
      exact rfl
  · obtain ⟨v, y, rfl, q1, q2⟩ := rl2 u
    rw [rL_str q1, rL_str q2]
    refine .inr ⟨a, _, rfl, rfl, k _ _ (.refl _) ?_⟩
    rw [mkS_list, ← inL_of]
    exact rfl
theorem ru_in : RuF c (r2 (rInB c.K false)) bIn := ru_inG false fun ws w e => by
  unfold bIn at e
  split at e
  · split at e
    · rename_i h
      rw [Bool.and_eq_true] at h
      cases e
      exact .inl ⟨_, _, .inl rfl, h.1, h.2, rfl⟩
    · cases e
  · split at e
    · rename_i h
      rw [Bool.and_eq_true] at h
      cases e
      exact .inl ⟨_, _, .inr rfl, h.1, h.2, rfl⟩
    · cases e
  · cases e
    exact .inr ⟨_, _, rfl, rfl⟩
  · cases e
theorem ru_notin : RuF c (r2 (rInB c.K true)) bNotIn := ru_inG true fun ws w e => by
  unfold bNotIn at e
  split at e
  · split at e
    · rename_i h
      rw [Bool.and_eq_true] at h
      cases e
      exact .inl ⟨_, _, .inl rfl, h.1, h.2, rfl⟩
    · cases e
  · split at e
    · rename_i h
      rw [Bool.and_eq_true] at h
      cases e
      exact .inl ⟨_, _, .inr rfl, h.1, h.2, rfl⟩
    · cases e
  · cases e
    exact .inr ⟨_, _, rfl, rfl⟩
  · cases e

/-! ### isinstance -/
/-- the built-in class of w -/
def kindN : W → Option String
  | .non => some "NoneType"
  | .bl _ => some "bool"
  | .int _ => some "int"
  | .str _ => some "str"
  | .tup _ => some "tuple"
  | .lst _ => some "list"
  | .dct _ _ => some "dict"
  | _ => none
/-- .. or a dict with tuple keys that is walked just now -/
def TyZ (K : PySem.W.Frag) (H : Hp) (v : V) (t : Value) : Prop := TyX K H v t ∨ ∃ a o kvs, v = .ref a ∧ H a = some (.frz o (.dT kvs)) ∧ t = .type "dict"
theorem tyx_of {F : Addr → Prop} {H : Hp} {w : W} {v : V} {n : String} (h : kindN w = some n) (r : RepL c F H w v) : TyZ c.K H v (.type n) := by
  cases w with
  | non => cases h; rw [rL_non r]; exact .inl <| .base .non
  | bl b => cases h; rw [rL_bl r]; exact .inl <| .base (.bl _)
  | int b => cases h; rw [rL_int r]; exact .inl <| .base (.int _)
  | str b => cases h; rw [rL_str r]; exact .inl <| .base (.str _)
  | tup b =>
    cases h
    obtain ⟨a, vs, e, h1, _⟩ := rL_tup r
    rw [e]
    rcases h1 with (h1 | ⟨o, h1⟩) | ⟨o, _, _, h1, h2, _⟩
    · exact .inl <| .base (.tup h1)
    · exact .inl <| .fTuple h1
    · exact .inl <| .kTuple h1 h2
  | lst b =>
    cases h
    obtain ⟨a, vs, e, h1, _⟩ := rL_lst r
    rw [e]
    exact .inl <| .base (.lst h1)
  | dct ks b =>
    cases h
    obtain ⟨a, vs, e, h1, _⟩ := rL_dct r
    rw [e]
    rcases h1 with ⟨kvs, h1 | ⟨o, h1⟩, _⟩ | ⟨kvs, h1 | ⟨o, h1⟩, _⟩
    · exact .inl <| .base (.dK h1)
    · exact .inl <| .fDict h1
    · exact .inl <| .base (.dT h1)
    · exact .inr ⟨a, o, kvs, rfl, h1, rfl⟩
  | _ => cases h
def rIsiZ (K : PySem.W.Frag) : LR := fun xs H Q => ∃ (x d : V) (t u : Value) (b : Bool), xs = [x, d] ∧ ClsV d u ∧ TyZ K H x t ∧ PySem.W.kitOne K t u = some b ∧ Q (.bl b) H
theorem call_isiZ {X : Cx} : CallR X (.builtin "isinstance") (rIsiZ X.K) := by
  intro pins s σ H xs us Q I r h
  obtain ⟨x, d, t, u, b, rfl, k, ty | ⟨a, o, kvs, rfl, hd, rfl⟩, e, q⟩ := h
  · exact call_isi pins s σ H _ us Q I r ⟨x, d, t, u, b, rfl, k, ty, e, q⟩
  · obtain ⟨u1, u2, rfl, r1, r2⟩ := vals2 r
    have e2 := k.eq r2
    subst e2
    cases (show u1 = Value.ref a from r1)
    have ok := I.hok a _ hd
    obtain ⟨h1, _, _, _, _, o', _, _, h2, h3, _⟩ := ok
    have z : PySem.W.KitX X.K (.ref a) (.type "dict") _ := PySem.W.kitx_dict
    exact PySem.W.kia_one z I.kIn ⟨o', h2, h3.1⟩ e (fun z => nomatch z) fun tk => ⟨.bl b, H, I.tok tk, rfl, q⟩
theorem kit_all (w : W) (t : Ty) (b : Bool) (h : isT t w = some b) : ∃ n, kindN w = some n ∧ kitB n (tyN t) = some b := by
  cases w <;> cases t <;> first
    | (cases h; done)
    | (cases h; exact ⟨_, rfl, by decide +kernel⟩)
theorem ru_isT : RuF c (rIsiZ c.K) bIsT := by
  intro F H vs ws w Q _ u e k
  unfold bIsT at e
  split at e
  · obtain ⟨x, y, rfl, h1, h2⟩ := rl2 u
    rename_i w1 t
    cases eb : isT t w1 with
    | none =>
      rw [eb] at e
      cases e
    | some b =>
      rw [eb] at e
      cases e
      obtain ⟨n, e1, e2⟩ := kit_all _ _ _ eb
      rw [rL_cls h2]
      exact ⟨_, _, _, _, b, rfl, .ty _, tyx_of e1 h1, kit_ty e2, k _ _ (.refl _) rfl⟩
  · cases e

/-! ### len, and other calls -/
theorem ru_len : RuF c (fun xs H Q => ∃ x n, xs = [x] ∧ LenV c.K x H n ∧ Q (.int n) H) bLen := by
  intro F H vs ws w Q _ u e k
  unfold bLen at e
  split at e
  · obtain ⟨x, rfl, h1⟩ := rl1 u
    split at e
    · rename_i hl
      cases e
      rw [rL_str h1]
      refine ⟨_, _, rfl, ⟨?_, rfl⟩, k _ _ (.refl _) ?_⟩
      · rw [mkS_len]
        exact sizeLine_big hl
      · rw [mkS_len]
        exact rfl
    · cases e
  · obtain ⟨x, rfl, h1⟩ := rl1 u
    cases e
    obtain ⟨a, vs, rfl, e1, e2⟩ := rL_tup h1
    exact ⟨_, _, rfl, .inr ⟨_, e1, e2.length⟩, k _ _ (.refl _) rfl⟩
  · obtain ⟨x, rfl, h1⟩ := rl1 u
    cases e
    obtain ⟨a, vs, rfl, e1, e2⟩ := rL_lst h1
    exact ⟨_, _, rfl, .inl ⟨_, .of e1, e2.length⟩, k _ _ (.refl _) rfl⟩
  · obtain ⟨x, rfl, h1⟩ := rl1 u
    cases e
    obtain ⟨a, rfl, e1⟩ := rL_scr h1
    exact ⟨_, _, rfl, .inl ⟨_, e1, (List.length_map ..).symm⟩, k _ _ (.refl _) rfl⟩
  · cases e
theorem ru_abs : RuF c (fun xs H Q => ∃ i, xs = [.int i] ∧ Q (.int (if i < 0 then -i else i)) H) bAbs := by
  intro F H vs ws w Q _ u e k
  unfold bAbs at e
  split at e
  · obtain ⟨x, rfl, h1⟩ := rl1 u
    cases e
    rw [rL_int h1]
    exact ⟨_, rfl, k _ _ (.refl _) rfl⟩
  · cases e
theorem ru_max2 : RuF c (fun xs H Q => ∃ i j, xs = [.int i, .int j] ∧ Q (.int (if j > i then j else i)) H) bMax2 := by
  intro F H vs ws w Q _ u e k
  unfold bMax2 at e
  split at e
  · obtain ⟨x, y, rfl, h1, h2⟩ := rl2 u
    cases e
    rw [rL_int h1, rL_int h2]
    exact ⟨_, _, rfl, k _ _ (.refl _) rfl⟩
  · cases e
theorem ru_min2 : RuF c (fun xs H Q => ∃ i j, xs = [.int i, .int j] ∧ Q (.int (if j < i then j else i)) H) bMin2 := by
  intro F H vs ws w Q _ u e k
  unfold bMin2 at e
  split at e
  · obtain ⟨x, y, rfl, h1, h2⟩ := rl2 u
    cases e
    rw [rL_int h1, rL_int h2]
    exact ⟨_, _, rfl, k _ _ (.refl _) rfl⟩
  · cases e
theorem ru_int1 : RuF c (fun xs H Q => (∃ i, xs = [.int i] ∧ Q (.int i) H) ∨ ∃ k, xs = [.bl k] ∧ Q (.int (if k then 1 else 0)) H) bInt1 := by
  intro F H vs ws w Q _ u e k
  unfold bInt1 at e
  split at e
  · obtain ⟨x, rfl, h1⟩ := rl1 u
    cases e
    rw [rL_int h1]
    exact .inl ⟨_, rfl, k _ _ (.refl _) rfl⟩
  · obtain ⟨x, rfl, h1⟩ := rl1 u
    cases e
    rw [rL_bl h1]
    exact .inr ⟨_, rfl, k _ _ (.refl _) rfl⟩
  · cases e
theorem bls_rep {F : Addr → Prop} {H : Hp} : ∀ {ws : List W} {vs : List V} {bs : List Bool}, blsOf ws = some bs → RepFs c F H ws vs → vs = bs.map V.bl
  | [], _, _, h, r => by
    cases h
    exact r
  | w :: ws, _, bs, h, r => by
    obtain ⟨v, vs, e, r1, r2⟩ := r
    cases w with
    | bl b =>
      cases eb : blsOf ws with
      | none =>
        simp [blsOf, eb] at h
      | some bs' =>
        simp [blsOf, eb] at h
        subst h
        have e1 : v = .bl b := r1
        rw [e, e1, bls_rep eb r2]
        rfl
    | _ => simp [blsOf] at h
theorem ru_all : RuF c (rAll c.K) bAll := by
  intro F H vs ws w Q _ u e k
  unfold bAll at e
  split at e
  · obtain ⟨x, rfl, h1⟩ := rl1 u
    rename_i xs
    cases eb : blsOf xs with
    | none =>
      rw [eb] at e
      cases e
    | some bs =>
      rw [eb] at e
      cases e
      obtain ⟨a, vs, rfl, e1, e2⟩ := rL_lst h1
      rw [bls_rep eb e2] at e1
      exact ⟨_, bs, rfl, .of e1, k _ _ (.refl _) rfl⟩
  · cases e
theorem ru_any : RuF c (rAny c.K) bAny := by
  intro F H vs ws w Q _ u e k
  unfold bAny at e
  split at e
  · obtain ⟨x, rfl, h1⟩ := rl1 u
    rename_i xs
    cases eb : blsOf xs with
    | none =>
      rw [eb] at e
      cases e
    | some bs =>
      rw [eb] at e
      cases e
      obtain ⟨a, vs, rfl, e1, e2⟩ := rL_lst h1
      rw [bls_rep eb e2] at e1
      exact ⟨_, bs, rfl, .of e1, k _ _ (.refl _) rfl⟩
  · cases e
/-! ### items -/
theorem ix_of {α β : Type} {P : α → β → Prop} {xs : List α} {ys : List β} (hl : xs.length = ys.length) (hg : ∀ (i : Nat) (x : α), xs[i]? = some x → ∃ y, ys[i]? = some y ∧ P x y) {i : Int} {x : α} (h : ((ixN xs.length i).bind fun j => xs[j]?) = some x) : ∃ y, atI ys i = some y ∧ P x y := by
  unfold atI
  show ∃ y, ((L2.ixN ys.length i).bind fun j => ys[j]?) = some y ∧ P x y
  rw [← hl]
  have e : L2.ixN xs.length i = VI.ixN xs.length i := rfl
  rw [e]
  cases en : VI.ixN xs.length i with
  | none =>
    rw [en] at h
    cases h
  | some j =>
    rw [en] at h
    exact hg j x h
theorem ru_ix : RuF c (r2 (rIx c.K)) bIx := by
  intro F H vs ws w Q _ u e k
  unfold bIx at e
  split at e
  · obtain ⟨x, y, rfl, h1, h2⟩ := rl2 u
    rw [rL_int h2]
    obtain ⟨a, vs, rfl, e1, e2⟩ := rL_tup h1
    obtain ⟨v, ev, r⟩ := ix_of e2.length (fun i x => e2.get) e
    exact .inr (.inl ⟨a, vs, _, v, rfl, rfl, e1, ev, k _ _ (.refl _) r⟩)
  · obtain ⟨x, y, rfl, h1, h2⟩ := rl2 u
    rw [rL_int h2]
    obtain ⟨a, vs, rfl, e1, e2⟩ := rL_lst h1
    obtain ⟨v, ev, r⟩ := ix_of e2.length (fun i x => e2.get) e
    exact .inl ⟨a, vs, _, v, rfl, rfl, .of e1, ev, k _ _ (.refl _) r⟩
  · obtain ⟨x, y, rfl, h1, h2⟩ := rl2 u
    rw [rL_int h2]
    obtain ⟨a, rfl, e1⟩ := rL_scr h1
    rename_i ns i
    have h : ((ixN (ns.map W.int).length i).bind fun j => (ns.map W.int)[j]?) = some w := by
      rw [List.length_map]
      rw [← e]
      congr 1
      funext j
      rw [List.getElem?_map]
    obtain ⟨v, ev, r⟩ := ix_of (P := fun w v => RepF c F H w v) (ys := ns.map V.int) (by simp) (fun j x hx => by
      rw [List.getElem?_map] at hx
      cases en : ns[j]? with
      | none =>
        rw [en] at hx
        cases hx
      | some n =>
        rw [en] at hx
        cases hx
        exact ⟨.int n, by rw [List.getElem?_map, en]; rfl, rfl⟩) h
    exact .inl ⟨a, _, _, v, rfl, rfl, e1, ev, k _ _ (.refl _) r⟩
  · obtain ⟨x, y, rfl, h1, h2⟩ := rl2 u
    split at e
    · rename_i hl
      rw [rL_int h2, rL_str h1]
      rename_i s i
      cases en : ixN s.length i with
      | none =>
        rw [en] at e
        cases e
      | some j =>
        rw [en] at e
        have e' : (s[j]?.map fun c => W.str [c]) = some w := e
        cases es : s[j]? with
        | none =>
          rw [es] at e'
          cases e'
        | some ch =>
          rw [es] at e'
          cases e'
          refine .inr (.inr ⟨_, _, ch, rfl, rfl, ?_, ?_, k _ _ (.refl _) rfl⟩)
          · rw [mkS_len]
            exact sizeLine_big hl
          · rw [mkS_list]
            unfold atI
            have e2 : L2.ixN s.length i = VI.ixN s.length i := rfl
            rw [e2, en]
            exact es
    · cases e
  · cases e
/-! ### truth -/
theorem tru_of {F : Addr → Prop} {H : Hp} {w : W} {v : V} {b : Bool} (h : truthW w = some b) (r : RepL c F H w v) : TruV c.K v H b := by
  cases w with
  | non => cases h; rw [rL_non r]; exact rfl
  | bl x => cases h; rw [rL_bl r]; exact rfl
  | int x => cases h; rw [rL_int r]; exact rfl
  | str s =>
    have h : (if s.length ≤ 100000 then some (!s.isEmpty) else none) = some b := h
    split at h
    · rename_i hl
      cases h
      rw [rL_str r]
      refine ⟨by rw [mkS_len]; exact sizeLine_big hl, ?_⟩
      rw [mkS_len]
      cases s with
      | nil => rfl
      | cons a t =>
        show true = (((a :: t).length : Int) != 0)
        symm
        rw [bne_iff_ne, List.length_cons]
        omega
    · cases h
  | tup ws =>
    cases h
    obtain ⟨a, vs, e, e1, e2⟩ := rL_tup r
    rw [e]
    refine .inr (.inl ⟨vs, e1, ?_⟩)
    have := e2.length
    cases ws <;> cases vs <;> first | rfl | (simp at this)
  | lst ws =>
    cases h
    obtain ⟨a, vs, e, e1, e2⟩ := rL_lst r
    rw [e]
    refine .inl ⟨vs, .of e1, ?_⟩
    have := e2.length
    cases ws <;> cases vs <;> first | rfl | (simp at this)
  | _ => cases h
/-- any value as a test -/
theorem sim_tE {X : Cx} {a : Expr} {m : M W} (hK : X.K = c.K) (h : SimE c X a m) (he : ∀ whole, isTrue a X.env whole = (do let v ← whole; standAt a.pos; holding [v] (truthy v)) := by intro _; rfl) : SimT c X a (tE m) := fun Wx tk =>
  PT.imp (pt_truth (h Wx tk) he) fun σ H Q q => by
    obtain ⟨F, ss, s, q⟩ := q
    refine ⟨F, ss, s, (From.bind (U := rF c) early_B q).mono fun v H1 ⟨w, F1, ss1, _, s1, u1, f1, l1, h3⟩ => ?_⟩
    obtain ⟨k, ek, q⟩ := From.lift h3
    exact ⟨k, by rw [hK]; exact tru_of ek (.inl u1), q k F1 H1 .refl s1 rfl⟩
end VI

set_option Elab.async false
set_option linter.all false
set_option maxRecDepth 100000
set_option maxHeartbeats 1000000
/-! VI, part 7: the forms of expressions. -/
namespace VI
open PySem L2
variable {c : Cn} {X : Cx}
theorem tM_ret {w : W} {v : V} {Wx : WX} {σ : L2.St} {H : Hp} {Q : VK} (h : tM c (mret w) (rF c) Wx σ H Q) (r : ∀ F H, RepF c F H w v) : Q v H := by
  obtain ⟨F, ss, s, h⟩ := h
  exact h.ret s (r F H)
theorem sim_int {i : Int} {j : Nat} {pos : Pos} : SimE c X (.Constant (.int i) j pos) (eC (.int i)) := fun Wx _ => PE.imp pe_int fun σ H Q h => tM_ret h fun _ _ => rfl
theorem sim_bl {i : Bool} {j : Nat} {pos : Pos} : SimE c X (.Constant (.bool i) j pos) (eC (.bl i)) := fun Wx _ => PE.imp pe_bl fun σ H Q h => tM_ret h fun _ _ => rfl
theorem sim_non {j : Nat} {pos : Pos} : SimE c X (.Constant .none j pos) (eC .non) := fun Wx _ => PE.imp pe_non fun σ H Q h => tM_ret h fun _ _ => rfl
theorem sim_str {x : Str} {l : List Nat} {j : Nat} {pos : Pos} (h : x = mkS l) : SimE c X (.Constant (.str x) j pos) (eC (.str l)) := fun Wx _ => PE.imp pe_str fun σ H Q q => tM_ret q fun _ _ => by
  rw [h]
  exact rfl
/-- a built-in class as a value -/
theorem sim_cls {x : Str} {t : Ty} {pos : Pos} (hm : X.mg x = none) (hv : bootBuiltins x = some (.type (tyN t))) (hg : Gl X x := by rfl) (hn : x ≠ "__name__" := by decide) (hd : (x == ("__debug__" : Str)) = false := by decide) : SimE c X (.Name x pos) (eC (.cls t)) := fun Wx _ =>
  PE.imp (pe_bltn (v := .ty (tyN t)) hg hm hv rfl hn hd) fun σ H Q h => tM_ret h fun _ _ => rfl
/-- a constant of the module without parts -/
theorem sim_gl {x : Str} {w : W} {v : V} {u : Value} {pos : Pos} (hm : X.mg x = some u) (r : RelV v u) (rep : ∀ F H, RepF c F H w v) (hg : Gl X x := by rfl) (hd : (x == ("__debug__" : Str)) = false := by decide) : SimE c X (.Name x pos) (eC w) := fun Wx _ =>
  PE.imp (pe_glob hg hm r hd) fun σ H Q h => tM_ret h rep
section
variable {σ : L2.St} {F : Addr → Prop} {H : Hp} {ss : Slots}
theorem get_set {α : Type} {ss : List α} {i j : Nat} {s t : α} (h : (ss.set i s)[j]? = some t) : (j = i ∧ t = s) ∨ (j ≠ i ∧ ss[j]? = some t) := by
  by_cases e : j = i
  · subst e
    have hl : j < ss.length := by
      have := (List.getElem?_eq_some_iff.mp h).1
      simpa using this
    rw [List.getElem?_set_self hl] at h
    cases h
    exact .inl ⟨rfl, rfl⟩
  · rw [List.getElem?_set_ne (Ne.symm e)] at h
    exact .inr ⟨e, h⟩
/-- a name's own thing is shown to others -/
theorem SR.freeze (s : SR c F H σ ss) {i : Nat} {l : Bool} {w : W} (h : ss[i]? = some (.own l w)) : ∃ a, σ[i]? = some (some (.ref a)) ∧ SR c (plus F a) H σ (ss.set i (.fr l w)) ∧
    Fm F H (OwnA σ ss) (plus F a) H (OwnA σ (ss.set i (.fr l w))) ∧ RepF c (plus F a) H w (.ref a) := by
  obtain ⟨ov, e1, a, e2, ow⟩ := s.get h
  subst e2
  have hO : OwnA σ ss a := ⟨i, _, h, rfl, e1⟩
  have sub : ∀ b, OwnA σ (ss.set i (.fr l w)) b → OwnA σ ss b := fun b ⟨j, t, h1, h2, h3⟩ => by
    rcases get_set h1 with ⟨rfl, rfl⟩ | ⟨_, h1⟩
    · cases h2
    · exact ⟨j, t, h1, h2, h3⟩
  have nA : ¬ OwnA σ (ss.set i (.fr l w)) a := fun ⟨j, t, h1, h2, h3⟩ => by
    rcases get_set h1 with ⟨rfl, rfl⟩ | ⟨n, h1⟩
    · cases h2
    · exact n (s.inj j i t _ a h1 h h2 rfl h3 e1)
  have rp := ow.rep
  refine ⟨a, e1, ⟨by rw [List.length_set]; exact s.len, fun j t ov h1 h2 => ?_, fun b hb z => ?_, fun j k t u b h1 h2 h3 h4 h5 h6 => ?_, fun b hl hb => ?_, ⟨fun b z => ?_, s.live.2⟩⟩, ⟨fun _ _ h _ _ => h, fun b o h n => ⟨o, h, n⟩, fun _ h => .inl h, fun b z => ?_, fun b hb => .inl (sub b hb)⟩, rp⟩
  · rcases get_set h1 with ⟨rfl, rfl⟩ | ⟨_, h1⟩
    · rw [e1] at h2
      cases h2
      exact ⟨_, rfl, rp⟩
    · exact (s.rel j t ov h1 h2).mono fun _ h => .inl h
  · rcases z with z | z
    · exact s.nf b (sub b hb) z
    · rw [z] at hb
      exact nA hb
  · rcases get_set h1 with ⟨rfl, rfl⟩ | ⟨_, h1⟩
    · cases h3
    · rcases get_set h2 with ⟨rfl, rfl⟩ | ⟨_, h2⟩
      · cases h4
      · exact s.inj j k t u b h1 h2 h3 h4 h5 h6
  · obtain ⟨j, w', h1, h2, h3⟩ := hl
    rcases get_set h1 with ⟨rfl, z⟩ | ⟨_, h1⟩
    · cases z
    · exact s.lk b ⟨j, w', h1, h2, h3⟩ (sub b hb)
  · rcases z with z | z
    · exact s.live.1 b z
    · obtain ⟨u, hu, mu, _⟩ := ow.mut
      exact ⟨u, by rw [z]; exact hu, noTb_mut mu⟩
  · rcases z with z | z
    · exact .inl z
    · exact .inr (.inl (by rw [z]; exact hO))
theorem Ln.freeze {i : Nat} {l : Bool} {w : W} (s : SR c F H σ ss) (h : ss[i]? = some (.own l w)) : Ln σ ss σ (ss.set i (.fr l w)) := ⟨fun j t h1 f => by
  refine ⟨rfl, ?_⟩
  by_cases e : j = i
  · subst e
    rw [h] at h1
    cases h1
    have hl := (List.getElem?_eq_some_iff.mp h).1
    refine ⟨.fr l w, List.getElem?_set_self hl, ?_⟩
    cases l
    · cases f
    · obtain ⟨ov, _, a, _, ow⟩ := s.get h
      exact .inr ⟨w, rfl, ow.mutW⟩
  · exact ⟨t, by rw [List.getElem?_set_ne (Ne.symm e)]; exact h1, Nfr.refl f⟩, fun j u h1 => by
  rcases get_set h1 with ⟨_, z⟩ | ⟨_, h1⟩
  · cases z
  · exact h1⟩
end
/-- a name -/
theorem sim_var (i : Nat) {x : Str} {pos : Pos} (hN : X.N[i]? = some x := by rfl) (hv : Vis X.env.scope x := by first | exact Or.inl rfl | exact Or.inr (Or.inl rfl) | exact Or.inr (Or.inr rfl)) (hd : (x == ("__debug__" : Str)) = false := by decide)
    (hcd : (x == ("__classdict__" : Str)) = false := by decide) : SimE c X (.Name x pos) (eVar i) := fun Wx _ => PE.imp (pe_var hN hv hd hcd) fun σ H Q h => by
  obtain ⟨F, ss, s, h⟩ := h
  unfold From eVar at h
  cases e : ss[i]? with
  | none =>
    rw [e] at h
    rcases h with ⟨a, s', z, _⟩ | ⟨j, w, s', z, _⟩ <;> cases z
  | some t =>
    rw [e] at h
    cases t with
    | no => rcases h with ⟨a, s', z, _⟩ | ⟨j, w, s', z, _⟩ <;> cases z
    | lk w => rcases h with ⟨a, s', z, _⟩ | ⟨j, w, s', z, _⟩ <;> cases z
    | fr l w =>
      obtain ⟨ov, e1, v, e2, r⟩ := s.get e
      subst e2
      rcases h with ⟨a, s', z, q⟩ | ⟨j, w', s', z, _⟩
      · cases z
        exact ⟨v, e1, q v F H .refl s .refl r⟩
      · cases z
    | own l w =>
      obtain ⟨a, e1, s1, f1, r⟩ := s.freeze e
      rcases h with ⟨a', s', z, q⟩ | ⟨j, w', s', z, _⟩
      · cases z
        exact ⟨.ref a, e1, q _ _ H f1 s1 (.freeze s e) r⟩
      · cases z
/-! ### displays -/
theorem simL_nil : SimL c X [] (exps []) := fun Wx _ => PA.imp pa_nil fun σ H Q h => by
  obtain ⟨F, ss, s, h⟩ := h
  exact h.ret s rfl
theorem simL_cons {e : Expr} {es : List Expr} {m : M W} {ms : List (M W)} (h : SimE c X e m) (t : SimL c X es (exps ms)) (hs : starEach (e :: es) X.env = (false, eval e X.env) :: starEach es X.env := by rfl) : SimL c X (e :: es) (exps (m :: ms)) := fun Wx tk =>
  PA.imp (pa_cons (h Wx tk) (t Wx tk) hs) fun σ H Q q => by
    obtain ⟨F, ss, s, q⟩ := q
    have q : From c (mbd m fun w => mbd (exps ms) fun ws => mret (w :: ws)) (rFs c) Wx σ F H ss Q := q
    refine ⟨F, ss, s, (From.bind (U := rF c) early_Fs q).mono fun v H1 ⟨w, F1, ss1, _, s1, u1, f1, l1, h3⟩ => ?_⟩
    refine ⟨F1, ss1, s1, (From.bind (U := rFs c) early_Fs h3).mono fun vs H2 ⟨ws, F2, ss2, _, s2, u2, f2, l2, h4⟩ => ?_⟩
    exact h4.ret s2 ⟨v, vs, rfl, RepF.kp (s1.kp f2) _ _ u1, u2⟩
theorem exps_len : ∀ {ms : List (M W)} {ss ss' : Slots} {ws : List W}, exps ms ss = some (.ok ws ss') → ws.length = ms.length
  | [], _, _, _, h => by
    cases h
    rfl
  | m :: ms, ss, ss', ws, h => by
    have h : mbd m (fun w => mbd (exps ms) fun ws => mret (w :: ws)) ss = some (.ok ws ss') := h
    unfold mbd at h
    cases em : m ss with
    | none =>
      rw [em] at h
      cases h
    | some r =>
      rw [em] at h
      cases r with
      | exc k w s => cases h
      | ok w s =>
        dsimp only at h
        cases en : exps ms s with
        | none =>
          rw [en] at h
          cases h
        | some r =>
          rw [en] at h
          cases r with
          | exc k w s => cases h
          | ok ws2 s2 =>
            cases h
            rw [List.length_cons, List.length_cons, exps_len en]
theorem sim_tup {es : List Expr} {ms : List (M W)} {k : Nat} {pos : Pos} (h : SimL c X es (exps ms)) (hK : X.K = c.K) (hl : ms.length ≤ 1000 := by decide) : SimE c X (.Tuple es k pos) (eTup ms) := fun Wx tk =>
  PE.imp (pe_tup (h Wx tk)) fun σ H Q q => by
    obtain ⟨F, ss, s, q⟩ := q
    refine ⟨F, ss, s, (From.bind (U := rFs c) early_F q).mono fun vs H1 ⟨ws, F1, ss1, em, s1, u1, f1, l1, h3⟩ => ⟨?_, fun p hp => ?_⟩⟩
    · have e := exps_len em
      have e2 : ws.length = vs.length := u1.length
      exact sizeLine_big (by omega)
    · exact h3.retE (Ext.new hp).fm (s1.ext (.new hp)) ⟨p, vs, rfl, .of upd_same, RepFs.kp (Ext.kp (.new hp)) _ _ u1⟩
theorem sim_lst {es : List Expr} {ms : List (M W)} {pos : Pos} (h : SimL c X es (exps ms)) (hl : ms.length ≤ 1000 := by decide) : SimO c X (.List es pos) (eLst ms) := fun Wx tk =>
  PE.imp (pe_lst (h Wx tk)) fun σ H Q q => by
    obtain ⟨F, ss, s, q⟩ := q
    refine ⟨F, ss, s, (From.bind (U := rFs c) early_O q).mono fun vs H1 ⟨ws, F1, ss1, em, s1, u1, f1, l1, h3⟩ => ⟨?_, fun p hp => ?_⟩⟩
    · have e := exps_len em
      have e2 : ws.length = vs.length := u1.length
      exact sizeLine_big (by omega)
    · refine h3.retE (Ext.new hp).fm (s1.ext (.new hp)) ⟨p, rfl, .of hp, fun z => ?_, fun z => ?_, vs, upd_same, RepFs.kp (Ext.kp (.new hp)) _ _ u1⟩
      · obtain ⟨o, e⟩ := s1.liv p z
        rw [hp] at e
        cases e
      · exact s1.fresh (.of hp) z
/-! ### and, or, not, if -/
section
variable {a b : Expr} {rest : List Expr} {pos : Pos} {m n : M W} {t u : M Bool}
theorem sim_one {op : BoolOp} (h : SimE c X a m) : SimE c X (.BoolOp op [a] pos) m := fun Wx tk => pe_one (h Wx tk)
theorem sim_and (ha : SimE c X a m) (hb : SimE c X (.BoolOp .And (b :: rest) pos) n) : SimE c X (.BoolOp .And (a :: b :: rest) pos) (eAnd m n) := fun Wx tk =>
  PE.imp (pe_and (ha Wx tk) (hb Wx tk)) fun σ H Q q => by
    obtain ⟨F, ss, s, q⟩ := q
    refine ⟨F, ss, s, (From.bind (U := rF c) early_F q).mono fun v H1 ⟨w, F1, ss1, em, s1, u1, f1, l1, h3⟩ => ?_⟩
    cases w with
    | bl k =>
      have e : v = .bl k := u1
      refine ⟨k, e, ?_⟩
      cases k with
      | true => exact iteT ⟨F1, ss1, s1, h3⟩
      | false => exact iteF (h3.ret s1 rfl)
    | _ => rcases h3 with ⟨a, s', z, _⟩ | ⟨j, w, s', z, _⟩ <;> cases z
theorem sim_or (ha : SimE c X a m) (hb : SimE c X (.BoolOp .Or (b :: rest) pos) n) : SimE c X (.BoolOp .Or (a :: b :: rest) pos) (eOr m n) := fun Wx tk =>
  PE.imp (pe_or (ha Wx tk) (hb Wx tk)) fun σ H Q q => by
    obtain ⟨F, ss, s, q⟩ := q
    refine ⟨F, ss, s, (From.bind (U := rF c) early_F q).mono fun v H1 ⟨w, F1, ss1, em, s1, u1, f1, l1, h3⟩ => ?_⟩
    cases w with
    | bl k =>
      have e : v = .bl k := u1
      refine ⟨k, e, ?_⟩
      cases k with
      | true => exact iteT (h3.ret s1 rfl)
      | false => exact iteF ⟨F1, ss1, s1, h3⟩
    | _ => rcases h3 with ⟨a, s', z, _⟩ | ⟨j, w, s', z, _⟩ <;> cases z
theorem sim_not (ha : SimE c X a m) : SimE c X (.UnaryOp .Not a pos) (eNot m) := fun Wx tk =>
  PE.imp (pe_not (ha Wx tk)) fun σ H Q q => by
    obtain ⟨F, ss, s, q⟩ := q
    refine ⟨F, ss, s, (From.bind (U := rF c) early_F q).mono fun v H1 ⟨w, F1, ss1, em, s1, u1, f1, l1, h3⟩ => ?_⟩
    cases w with
    | bl k => exact ⟨k, u1, h3.ret s1 rfl⟩
    | _ => rcases h3 with ⟨a, s', z, _⟩ | ⟨j, w, s', z, _⟩ <;> cases z
theorem simW_and1 (h : SimT c X a t) : SimW c X (.BoolOp .And [a] pos) t := fun Wx tk => pw_and1 (h Wx tk)
theorem simW_or1 (h : SimT c X a t) : SimW c X (.BoolOp .Or [a] pos) t := fun Wx tk => pw_or1 (h Wx tk)
theorem simW_and (ha : SimT c X a t) (hb : SimW c X (.BoolOp .And (b :: rest) pos) u) : SimW c X (.BoolOp .And (a :: b :: rest) pos) (tAnd t u) := fun Wx tk =>
  PW.imp (pw_and (ha Wx tk) (hb Wx tk)) fun σ H Q q => by
    obtain ⟨F, ss, s, q⟩ := q
    refine ⟨F, ss, s, (From.bind (U := rB) early_B q).mono fun k H1 ⟨k', F1, ss1, em, s1, u1, f1, l1, h3⟩ => ?_⟩
    have u1 : k' = k := u1
    subst u1
    cases k' with
    | true => exact iteT ⟨F1, ss1, s1, h3⟩
    | false => exact iteF (h3.ret s1 rfl)
theorem simW_or (ha : SimT c X a t) (hb : SimW c X (.BoolOp .Or (b :: rest) pos) u) : SimW c X (.BoolOp .Or (a :: b :: rest) pos) (tOr t u) := fun Wx tk =>
  PW.imp (pw_or (ha Wx tk) (hb Wx tk)) fun σ H Q q => by
    obtain ⟨F, ss, s, q⟩ := q
    refine ⟨F, ss, s, (From.bind (U := rB) early_B q).mono fun k H1 ⟨k', F1, ss1, em, s1, u1, f1, l1, h3⟩ => ?_⟩
    have u1 : k' = k := u1
    subst u1
    cases k' with
    | true => exact iteT (h3.ret s1 rfl)
    | false => exact iteF ⟨F1, ss1, s1, h3⟩
theorem simT_W (h : SimW c X a t) : SimT c X a t := fun Wx tk => (h Wx tk).pt
theorem simT_not (h : SimT c X a t) : SimT c X (.UnaryOp .Not a pos) (tNot t) := fun Wx tk =>
  PT.imp (pt_not (h Wx tk)) fun σ H Q q => by
    obtain ⟨F, ss, s, q⟩ := q
    refine ⟨F, ss, s, (From.bind (U := rB) early_B q).mono fun k H1 ⟨k', F1, ss1, em, s1, u1, f1, l1, h3⟩ => ?_⟩
    have u1 : k' = k := u1
    subst u1
    exact h3.ret s1 rfl
theorem sim_ifE {T : Expr} (ht : SimT c X T t) (ha : SimE c X a m) (hb : SimE c X b n) : SimE c X (.IfExp T a b pos) (eIf t m n) := fun Wx tk =>
  PE.imp (pe_ifExp (ht Wx tk) (ha Wx tk) (hb Wx tk)) fun σ H Q q => by
    obtain ⟨F, ss, s, q⟩ := q
    refine ⟨F, ss, s, (From.bind (U := rB) early_F q).mono fun k H1 ⟨k', F1, ss1, em, s1, u1, f1, l1, h3⟩ => ?_⟩
    have u1 : k' = k := u1
    subst u1
    cases k' with
    | true => exact iteT ⟨F1, ss1, s1, h3⟩
    | false => exact iteF ⟨F1, ss1, s1, h3⟩
end
/-! ### a op b op' c -/
section
variable {a b d : Expr} {pos : Pos} {m n l : M W} {f g : List W → Option W} {r r' : R2}
theorem chain_read {Wx : WX} {σ : L2.St} {H : Hp} {Q : VK} (ru : RuF c (r2 r) f) (ru' : RuF c (r2 r') g) (h : tM c (eChain f g m n l) (rF c) Wx σ H Q) : tChain r r' (tM c m (rF c) Wx) (tM c n (rF c) Wx) (tM c l (rF c) Wx) σ H Q := by
  obtain ⟨F, ss, s, h⟩ := h
  refine ⟨F, ss, s, (From.bind (U := rF c) early_F h).mono fun x H1 ⟨wx, F1, ss1, _, s1, u1, f1, l1, h1⟩ => ?_⟩
  refine ⟨F1, ss1, s1, (From.bind (U := rF c) early_F h1).mono fun y H2 ⟨wy, F2, ss2, _, s2, u2, f2, l2, h2⟩ => ?_⟩
  cases ef : f [wx, wy] with
  | none =>
    exfalso
    have z : mbd (lift ((f [wx, wy]).bind isBl)) (fun k => if k then mbd l fun z => lift (g [wy, z]) else mret (.bl false)) ss2 = none := by rw [ef]; rfl
    rcases h2 with ⟨a, s', e, _⟩ | ⟨j, w, s', e, _⟩ <;> rw [z] at e <;> cases e
  | some w =>
    refine ru F2 H2 [x, y] [wx, wy] w _ s2.liv ⟨x, [y], rfl, .inl (RepF.kp (s1.kp f2) _ _ u1), y, [], rfl, .inl u2, rfl⟩ ef fun v H3 e3 q3 => ?_
    cases w with
    | bl k =>
      have ev : v = .bl k := q3
      refine ⟨k, ev, ?_⟩
      have s3 := s2.ext e3
      cases k with
      | false =>
        refine iteF ?_
        have z : From c (mret (.bl false)) (rF c) Wx σ F2 H2 ss2 Q := by
          have e : mbd (lift ((f [wx, wy]).bind isBl)) (fun k => if k then mbd l fun z => lift (g [wy, z]) else mret (.bl false)) ss2 = mret (.bl false) ss2 := by rw [ef]; rfl
          unfold From at h2 ⊢
          rw [e] at h2
          exact h2
        exact z.retE e3.fm s3 rfl
      | true =>
        refine iteT ?_
        have z : From c (mbd l fun z => lift (g [wy, z])) (rF c) Wx σ F2 H2 ss2 Q := by
          have e : mbd (lift ((f [wx, wy]).bind isBl)) (fun k => if k then mbd l fun z => lift (g [wy, z]) else mret (.bl false)) ss2 = mbd l (fun z => lift (g [wy, z])) ss2 := by rw [ef]; rfl
          unfold From at h2 ⊢
          rw [e] at h2
          exact h2
        have z3 : From c (mbd l fun z => lift (g [wy, z])) (rF c) Wx σ F2 H3 ss2 Q := by
          rcases z with ⟨a, s', e, q⟩ | ⟨j, w, s', e, q⟩
          · exact .inl ⟨a, s', e, fun b' F' H' fm sr ln t => q b' F' H' (e3.fm.trans fm) sr ln t⟩
          · exact .inr ⟨j, w, s', e, fun cls dd F' H' fm sr ln t => q cls dd F' H' (e3.fm.trans fm) sr ln t⟩
        refine ⟨F2, ss2, s3, (From.bind (U := rF c) early_F z3).mono fun zv H4 ⟨wz, F4, ss4, _, s4, u4, f4, l4, h4⟩ => ?_⟩
        obtain ⟨w', ew, q⟩ := From.lift h4
        exact ru' F4 H4 [y, zv] [wy, wz] w' Q s4.liv ⟨y, [zv], rfl, .inl (RepF.kp (s3.kp f4) _ _ (RepF.kp e3.kp _ _ u2)), zv, [], rfl, .inl u4, rfl⟩ ew fun v H5 e5 q5 => q v F4 H5 e5.fm (s4.ext e5) q5
    | _ =>
      exfalso
      have z : mbd (lift ((f [wx, wy]).bind isBl)) (fun k => if k then mbd l fun z => lift (g [wy, z]) else mret (.bl false)) ss2 = none := by rw [ef]; rfl
      rcases h2 with ⟨a, s', e, _⟩ | ⟨j, w, s', e, _⟩ <;> rw [z] at e <;> cases e
theorem sim_chain {op op' : CmpOp} (ho : OpR X (compareOp op) r) (ho' : OpR X (compareOp op') r') (ru : RuF c (r2 r) f) (ru' : RuF c (r2 r') g) (ha : SimE c X a m) (hb : SimE c X b n) (hd : SimE c X d l)
    (hm : lastMarks [op, op'] [b, d] = false := by with_unfolding_all rfl) : SimE c X (.Compare a [op, op'] [b, d] pos) (eChain f g m n l) := fun Wx tk =>
  PE.imp (pe_chain ho ho' (ha Wx tk) (hb Wx tk) (hd Wx tk) hm) fun σ H Q h => chain_read ru ru' h
theorem simT_chain {op op' : CmpOp} (ho : OpR X (compareOp op) r) (ho' : OpR X (compareOp op') r') (ru : RuF c (r2 r) f) (ru' : RuF c (r2 r') g) (ha : SimE c X a m) (hb : SimE c X b n) (hd : SimE c X d l)
    (hm : lastMarks [op, op'] [b, d] = false := by with_unfolding_all rfl) : SimT c X (.Compare a [op, op'] [b, d] pos) (tB (eChain f g m n l)) := fun Wx tk =>
  PT.imp (pt_chain ho ho' (ha Wx tk) (hb Wx tk) (hd Wx tk) hm) fun σ H Q h => chain_read (Q := fun x H' => ∃ k, x = .bl k ∧ Q k H') ru ru' (tB_read h)
end
/-! ### slices -/
def rCut (K : PySem.W.Frag) : V → Option Int → Option Int → Hp → VK → Prop := fun x lo hi H Q => rSlL K x lo hi H Q ∨ rSlA K x lo hi H Q ∨ rSlS x lo hi H Q
theorem sl_cut : SlR X (rCut X.K) := sl_list.or (sl_tupA.or sl_str)
theorem RepFs.cut {F : Addr → Prop} {H : Hp} {ws : List W} {vs : List V} (h : RepFs c F H ws vs) (lo hi : Option Int) : RepFs c F H (VI.cut ws lo hi) (cutV vs lo hi) := by
  have dr : ∀ (n : Nat) {ws : List W} {vs : List V}, RepFs c F H ws vs → RepFs c F H (ws.drop n) (vs.drop n) := by
    intro n
    induction n with
    | zero => intro ws vs h; exact h
    | succ n ih =>
      intro ws vs h
      cases ws with
      | nil =>
        have e : vs = [] := h
        rw [e]
        exact rfl
      | cons w ws =>
        obtain ⟨v, r, e, _, h2⟩ := h
        rw [e]
        exact ih h2
  have tk : ∀ (n : Nat) {ws : List W} {vs : List V}, RepFs c F H ws vs → RepFs c F H (ws.take n) (vs.take n) := by
    intro n
    induction n with
    | zero => intro ws vs h; exact rfl
    | succ n ih =>
      intro ws vs h
      cases ws with
      | nil =>
        have e : vs = [] := h
        rw [e]
        exact rfl
      | cons w ws =>
        obtain ⟨v, r, e, h1, h2⟩ := h
        rw [e]
        exact ⟨v, _, rfl, h1, ih h2⟩
  unfold VI.cut cutV
  rw [h.length]
  exact tk _ (dr _ h)
theorem cut_whole {α : Type} (xs : List α) (lo hi : Option Int) (h : VI.sIx xs.length 0 lo = 0 ∧ VI.sIx xs.length xs.length hi = xs.length) : VI.cut xs lo hi = xs := by
  unfold VI.cut
  rw [h.1, h.2]
  simp
theorem ru_cut {F : Addr → Prop} {H : Hp} {x : V} {w w' : W} {lo hi : Option Int} {Q : VK} (u : RepL c F H w x) (e : cutW lo hi w = some w') (k : ∀ v H', Ext H H' → RepF c F H' w' v → Q v H')
    (ko : ∀ a H', H a = none → Ext H H' → OwnAt c F H' a w' → Q (.ref a) H') : rCut c.K x lo hi H Q := by
  unfold cutW at e
  split at e
  · obtain ⟨a, vs, rfl, e1, e2⟩ := rL_tup u
    cases e
    rename_i ws
    refine .inr (.inl ⟨a, vs, rfl, e1, fun z => ?_, fun _ p hp => ?_⟩)
    · have z' : VI.sIx ws.length 0 lo = 0 ∧ VI.sIx ws.length ws.length hi = ws.length := by rw [e2.length]; exact z
      refine k _ _ (.refl _) ⟨a, vs, rfl, e1, ?_⟩
      rw [cut_whole _ _ _ z']
      exact e2
    · exact k _ _ (.new hp) ⟨p, _, rfl, .of upd_same, RepFs.kp (Ext.kp (.new hp)) _ _ (e2.cut lo hi)⟩
  · obtain ⟨a, vs, rfl, e1, e2⟩ := rL_lst u
    cases e
    exact .inl ⟨a, vs, rfl, .of e1, fun p hp => ko p _ hp (.new hp) ⟨_, upd_same, RepFs.kp (Ext.kp (.new hp)) _ _ (e2.cut lo hi)⟩⟩
  · split at e
    · rename_i s hl
      cases e
      rw [rL_str u]
      refine .inr (.inr ⟨_, rfl, by rw [mkS_len]; exact sizeLine_big hl, k _ _ (.refl _) ?_⟩)
      show V.str (cutS (mkS s) lo hi) = .str (mkS (VI.cut s lo hi))
      unfold cutS
      rw [mkS_list, mkS_len]
      rfl
    · cases e
  · cases e
/-- an int, for a slice's part -/
def intV (Q : Int → Hp → Prop) : VK := fun v H => ∃ i, v = .int i ∧ Q i H
def rSl0 (K : PySem.W.Frag) : LR := r1 fun x H Q => rCut K x none none H Q
def rSlLo (K : PySem.W.Frag) : LR := r2 fun x y H Q => ∃ i, y = .int i ∧ rCut K x (some i) none H Q
def rSlHi (K : PySem.W.Frag) : LR := r2 fun x y H Q => ∃ i, y = .int i ∧ rCut K x none (some i) H Q
def rSlB (K : PySem.W.Frag) : LR := fun vs H Q => match vs with
  | [x, y, z] => ∃ i, y = .int i ∧ ∃ j, z = .int j ∧ rCut K x (some i) (some j) H Q
  | _ => False
theorem ru_sl0 : RuE c (rSl0 c.K) bSl0 := by
  intro F H vs ws w Q _ u e k ko
  unfold bSl0 at e
  split at e
  · obtain ⟨x, rfl, h1⟩ := rl1 u
    exact ru_cut h1 e k ko
  · cases e
theorem ru_slL : RuE c (rSlLo c.K) bSlL := by
  intro F H vs ws w Q _ u e k ko
  unfold bSlL at e
  split at e
  · obtain ⟨x, y, rfl, h1, h2⟩ := rl2 u
    exact ⟨_, rL_int h2, ru_cut h1 e k ko⟩
  · cases e
theorem ru_slH : RuE c (rSlHi c.K) bSlH := by
  intro F H vs ws w Q _ u e k ko
  unfold bSlH at e
  split at e
  · obtain ⟨x, y, rfl, h1, h2⟩ := rl2 u
    exact ⟨_, rL_int h2, ru_cut h1 e k ko⟩
  · cases e
theorem ru_slB : RuE c (rSlB c.K) bSlB := by
  intro F H vs ws w Q _ u e k ko
  unfold bSlB at e
  split at e
  · obtain ⟨x, r, rfl, h1, h3⟩ := u
    obtain ⟨y, z, rfl, h2, h4⟩ := rl2 h3
    exact ⟨_, rL_int h2, _, rL_int h4, ru_cut h1 e k ko⟩
  · cases e
section
variable {e lo hi : Expr} {o p q : Opd} {pos p2 : Pos}
theorem sim_sl0 (hK : X.K = c.K) (he : SimP c X e o) : SimE c X (.Subscript e (.Slice none none none p2) pos) (bi bSl0 [o]) := fun Wx tk =>
  PE.imp (pe_slice sl_cut (he Wx tk) po_none po_none) fun σ H Q h => by
    rw [hK]
    exact bi_read ru_sl0 h
theorem sim_slL (hK : X.K = c.K) (he : SimP c X e o) (hl : SimP c X lo p) : SimE c X (.Subscript e (.Slice (some lo) none none p2) pos) (bi bSlL [o, p]) := fun Wx tk =>
  PE.imp (pe_slice sl_cut (he Wx tk) (po_some (hl Wx tk)) po_none) fun σ H Q h => by
    rw [hK]
    exact bi_read ru_slL h
theorem sim_slH (hK : X.K = c.K) (he : SimP c X e o) (hl : SimP c X hi p) : SimE c X (.Subscript e (.Slice none (some hi) none p2) pos) (bi bSlH [o, p]) := fun Wx tk =>
  PE.imp (pe_slice sl_cut (he Wx tk) po_none (po_some (hl Wx tk))) fun σ H Q h => by
    rw [hK]
    exact bi_read ru_slH h
theorem int_read {m : M W} {Wx : WX} {σ : L2.St} {H : Hp} {Q : VK} (h : tM c (mInt m) (rF c) Wx σ H Q) : tM c m (rF c) Wx σ H fun y H2 => ∃ i, y = .int i ∧ Q (.int i) H2 := by
  obtain ⟨F, ss, s, h⟩ := h
  refine ⟨F, ss, s, (From.bind (U := rF c) early_F h).mono fun v H1 ⟨w, F1, ss1, em, s1, u1, f1, l1, h3⟩ => ?_⟩
  cases w with
  | int i => exact ⟨i, u1, h3.ret s1 rfl⟩
  | _ => rcases h3 with ⟨a, s', z, _⟩ | ⟨j, w, s', z, _⟩ <;> cases z
theorem sim_slB {m n : M W} (hK : X.K = c.K) (he : SimP c X e o) (hl : SimE c X lo m) (hh : SimE c X hi n) : SimE c X (.Subscript e (.Slice (some lo) (some hi) none p2) pos) (bi bSlB [o, .ev (mInt m), .ev n]) := fun Wx tk =>
  PE.imp (pe_slice sl_cut (he Wx tk) (po_some (hl Wx tk)) (po_some (hh Wx tk))) fun σ H Q h => by
    rw [hK]
    have z := bi_read ru_slB h
    refine rdO_mono z fun x H1 z1 => ?_
    refine tM.mono (int_read z1) fun y H2 ⟨i, ei, z2⟩ => ⟨i, ei, ?_⟩
    refine tM.mono z2 fun z H3 ⟨i', e1, j, e2, q⟩ => ⟨j, e2, ?_⟩
    cases e1
    exact q
end
end VI

set_option Elab.async false
set_option linter.all false
set_option maxRecDepth 100000
set_option maxHeartbeats 1000000
/-! VI, part 8: statements. -/
namespace VI
open PySem L2
/-- owned and not lent -/
def Mine (σ : L2.St) (ss : Slots) (a : Addr) : Prop := ∃ (i : Nat) (w : W), ss[i]? = some (.own false w) ∧ σ[i]? = some (some (V.ref a))
/-- how a value that is handed back is told: o, nobody else has it -/
def RetR (c : Cn) (o : Bool) (σ : L2.St) (ss : Slots) (F' : Addr → Prop) (H H' : Hp) (w : W) (v : V) : Prop :=
  if o = true ∧ isMut w = true then ∃ a, v = .ref a ∧ ¬ F' a ∧ OwnAt c F' H' a w ∧ ((Fr H a ∧ ¬ Busy σ ss a) ∨ Mine σ ss a) else RepF c F' H' w v
theorem RetR.early {c : Cn} {o : Bool} {σ : L2.St} {ss : Slots} {F' : Addr → Prop} {H H1 H' : Hp} {w : W} {v : V} (h : RetR c o σ ss F' H1 H' w v) (k : ∀ x, Fr H1 x → Fr H x) : RetR c o σ ss F' H H' w v := by
  unfold RetR at h ⊢
  split at h
  · rename_i z
    rw [if_pos z]
    obtain ⟨a, e, n, ow, q⟩ := h
    exact ⟨a, e, n, ow, q.imp (fun ⟨z, y⟩ => ⟨k a z, y⟩) id⟩
  · rename_i z
    rw [if_neg z]
    exact h
def FlowR (c : Cn) (D : Ends) (H : Hp) (f : Flow) (σ' : L2.St) (ss' : Slots) (F' : Addr → Prop) (H' : Hp) : Prop := match f with
  | .nx => D.nx σ' H'
  | .brk => D.bk σ' H'
  | .cont => D.ct σ' H'
  | .ret o w => ∀ v, RetR c o σ' ss' F' H H' w v → D.rt v H'
def FromS (c : Cn) (m : M Flow) (Wx : WX) (σ : L2.St) (F : Addr → Prop) (H : Hp) (ss : Slots) (D : Ends) : Prop :=
  (∃ f ss', m ss = some (.ok f ss') ∧ ∀ (σ' : L2.St) (F' : Addr → Prop) (H' : Hp), Fm F H (OwnA σ ss) F' H' (OwnA σ' ss') → SR c F' H' σ' ss' → Ln σ ss σ' ss' → FlowR c D H f σ' ss' F' H') ∨
    ∃ k w ss', m ss = some (.exc k w ss') ∧ ∀ (cls : Value) (d : Option Addr) (σ' : L2.St) (F' : Addr → Prop) (H' : Hp), Fm F H (OwnA σ ss) F' H' (OwnA σ' ss') → SR c F' H' σ' ss' → Ln σ ss σ' ss' → ExR c F' H' k w cls d → Wx cls d σ' H'
def tS (c : Cn) (m : M Flow) (Wx : WX) : TS := fun D σ H => ∃ F ss, SR c F H σ ss ∧ FromS c m Wx σ F H ss D
def SimS (c : Cn) (X : Cx) (st : Stmt) (m : M Flow) : Prop := ∀ Wx, Takes X Wx → PS X st (tS c m Wx)
def SimB (c : Cn) (X : Cx) (sts : List Stmt) (m : M Flow) : Prop := ∀ Wx, Takes X Wx → PSs X sts (tS c m Wx)
theorem PS.imp {X : Cx} {e : Stmt} {t t' : TS} (h : PS X e t) (k : ∀ D σ H, t' D σ H → t D σ H) : PS X e t' := ⟨fun pins s σ H D I q => h.run pins s σ H D I (k D σ H q)⟩
theorem PSs.imp {X : Cx} {e : List Stmt} {t t' : TS} (h : PSs X e t) (k : ∀ D σ H, t' D σ H → t D σ H) : PSs X e t' := ⟨fun pins s σ H D I q => h.run pins s σ H D I (k D σ H q)⟩
section
variable {c : Cn} {X : Cx} {Wx : WX} {σ : L2.St} {F : Addr → Prop} {H : Hp} {ss : Slots} {D : Ends}
theorem FromS.eq {m n : M Flow} (e : m ss = n ss) (h : FromS c m Wx σ F H ss D) : FromS c n Wx σ F H ss D := by
  unfold FromS at h ⊢
  rw [← e]
  exact h
/-- on from a later moment -/
theorem FromS.later {m m' : M Flow} {σ1 : L2.St} {ss1 : Slots} {F1 : Addr → Prop} {H1 : Hp} (h : FromS c m Wx σ F H ss D) (e : m ss = m' ss1) (f : Fm F H (OwnA σ ss) F1 H1 (OwnA σ1 ss1)) (l : Ln σ ss σ1 ss1) : FromS c m' Wx σ1 F1 H1 ss1 D := by
  unfold FromS at h ⊢
  rw [e] at h
  rcases h with ⟨a, s', e', q⟩ | ⟨j, w', s', e', q⟩
  · refine .inl ⟨a, s', e', fun σ' F' H' f' s' l' => ?_⟩
    have z := q σ' F' H' (f.trans f') s' (l.trans l')
    cases a with
    | ret o w => exact fun v r => z v (r.early fun x hx => f.gone hx)
    | _ => exact z
  · exact .inr ⟨j, w', s', e', fun cls d σ' F' H' f' s' l' x => q cls d σ' F' H' (f.trans f') s' (l.trans l') x⟩
/-- an expression first -/
theorem FromS.bind {α β : Type} {m : M α} {f : α → M Flow} {U : Rl α β} (h : FromS c (mbd m f) Wx σ F H ss D) :
    From c m U Wx σ F H ss fun b H1 => ∃ a F1 ss1, m ss = some (.ok a ss1) ∧ SR c F1 H1 σ ss1 ∧ U (BZ σ ss1) F1 H H1 a b ∧ Fm F H (OwnA σ ss) F1 H1 (OwnA σ ss1) ∧ Ln σ ss σ ss1 ∧ FromS c (f a) Wx σ F1 H1 ss1 D ∧ FromS c (fun _ => f a ss1) Wx σ F H ss D := by
  cases em : m ss with
  | none =>
    have z : mbd m f ss = none := by unfold mbd; rw [em]
    rcases h with ⟨a, s, e, _⟩ | ⟨j, w, s, e, _⟩ <;> rw [z] at e <;> cases e
  | some r =>
    cases r with
    | exc k w s =>
      have z : mbd m f ss = some (.exc k w s) := by unfold mbd; rw [em]
      rcases h with ⟨a, s', e, _⟩ | ⟨j, w', s', e, q⟩
      · rw [z] at e
        cases e
      · rw [z] at e
        cases e
        exact .inr ⟨k, w, s, em, fun cls d F' H' h1 h2 h3 h4 => q cls d σ F' H' h1 h2 h3 h4⟩
    | ok a s => exact .inl ⟨a, s, em, fun b F1 H1 f1 s1 l1 t1 => ⟨a, F1, s, rfl, s1, t1, f1, l1, h.later (mbd_ok em) f1 l1, h.eq (mbd_ok em)⟩⟩
theorem FromS.ret {f : Flow} (h : FromS c (mret f) Wx σ F H ss D) (s : SR c F H σ ss) : FlowR c D H f σ ss F H := by
  rcases h with ⟨a, s', e, q⟩ | ⟨j, w', s', e, q⟩
  · cases e
    exact q σ F H .refl s .refl
  · cases e
theorem FromS.retE {f : Flow} {σ' : L2.St} {ss' : Slots} {F' : Addr → Prop} {H' : Hp} (h : FromS c (fun _ => some (.ok f ss')) Wx σ F H ss D) (fm : Fm F H (OwnA σ ss) F' H' (OwnA σ' ss')) (s : SR c F' H' σ' ss') (l : Ln σ ss σ' ss') : FlowR c D H f σ' ss' F' H' := by
  rcases h with ⟨a, s', e, q⟩ | ⟨j, w', s', e, q⟩
  · cases e
    exact q σ' F' H' fm s l
  · cases e
/-! ### blocks -/
theorem simB_nil : SimB c X [] sPass := fun Wx _ => PSs.imp pss_nil fun D σ H h => by
  obtain ⟨F, ss, s, h⟩ := h
  exact h.ret s
theorem sim_pass {pos : Pos} : SimS c X (.Pass pos) sPass := fun Wx _ => PS.imp ps_pass fun D σ H h => by
  obtain ⟨F, ss, s, h⟩ := h
  exact h.ret s
theorem sim_brk {pos : Pos} : SimS c X (.Break pos) sBrk := fun Wx _ => PS.imp ps_break fun D σ H h => by
  obtain ⟨F, ss, s, h⟩ := h
  exact h.ret s
theorem sim_cont {pos : Pos} : SimS c X (.Continue pos) sCont := fun Wx _ => PS.imp ps_continue fun D σ H h => by
  obtain ⟨F, ss, s, h⟩ := h
  exact h.ret s
/-- never reached -/
theorem sim_stuck {st : Stmt} : SimS c X st stuck := fun Wx _ => PS.imp ps_never fun D σ H h => by
  obtain ⟨F, ss, s, h⟩ := h
  rcases h with ⟨a, s', e, q⟩ | ⟨j, w', s', e, q⟩ <;> cases e
theorem simB_stuck {st : List Stmt} : SimB c X st stuck := fun Wx _ => PSs.imp pss_never fun D σ H h => by
  obtain ⟨F, ss, s, h⟩ := h
  rcases h with ⟨a, s', e, q⟩ | ⟨j, w', s', e, q⟩ <;> cases e
theorem FromS.seq {a b : M Flow} (h : FromS c (sSeq a b) Wx σ F H ss D) : FromS c a Wx σ F H ss { D with nx := tS c b Wx D } := by
  cases em : a ss with
  | none =>
    have z : sSeq a b ss = none := by unfold sSeq mbd; rw [em]
    rcases h with ⟨a, s, e, _⟩ | ⟨j, w, s, e, _⟩ <;> rw [z] at e <;> cases e
  | some r =>
    cases r with
    | exc k w s =>
      have z : sSeq a b ss = some (.exc k w s) := by unfold sSeq mbd; rw [em]
      rcases h with ⟨a, s', e, _⟩ | ⟨j, w', s', e, q⟩
      · rw [z] at e
        cases e
      · rw [z] at e
        cases e
        exact .inr ⟨k, w, s, em, q⟩
    | ok f s =>
      have z : sSeq a b ss = (match f with | .nx => b | f => mret f) s := mbd_ok em
      refine .inl ⟨f, s, em, fun σ1 F1 H1 f1 s1 l1 => ?_⟩
      have go : ∀ g : Flow, sSeq a b ss = some (.ok g s) → FlowR c D H g σ1 s F1 H1 := fun g e => by
        rcases h with ⟨a', s', e', q⟩ | ⟨j, w', s', e', q⟩
        · rw [e] at e'
          cases e'
          exact q σ1 F1 H1 f1 s1 l1
        · rw [e] at e'
          cases e'
      cases f with
      | nx => exact ⟨F1, s, s1, h.later z f1 l1⟩
      | brk => exact go .brk z
      | cont => exact go .cont z
      | ret o w => exact go (.ret o w) z
theorem simB_cons {st : Stmt} {sts : List Stmt} {a b : M Flow} (h : SimS c X st a) (t : SimB c X sts b) : SimB c X (st :: sts) (sSeq a b) := fun Wx tk =>
  PSs.imp (pss_cons (h Wx tk) (t Wx tk)) fun D σ H q => by
    obtain ⟨F, ss, s, q⟩ := q
    exact ⟨F, ss, s, q.seq⟩
/-! ### names are bound -/
theorem FromS.store {i : Nat} {t t' : Slot} (h : FromS c (mbd (VI.store i t') fun _ => mret Flow.nx) Wx σ F H ss D) (e : ss[i]? = some t) : free t = true ∧ FromS c (fun _ => some (.ok .nx (ss.set i t'))) Wx σ F H ss D := by
  cases ef : free t with
  | false =>
    have z : (mbd (VI.store i t') fun _ => mret Flow.nx) ss = none := by
      unfold mbd VI.store
      rw [e]
      dsimp only
      rw [ef]
      rfl
    rcases h with ⟨a, s, e', _⟩ | ⟨j, w, s, e', _⟩ <;> rw [z] at e' <;> cases e'
  | true =>
    refine ⟨rfl, h.eq ?_⟩
    unfold mbd VI.store
    rw [e]
    dsimp only
    rw [ef]
    rfl
theorem store_there {i : Nat} {t' : Slot} (h : FromS c (mbd (VI.store i t') fun _ => mret Flow.nx) Wx σ F H ss D) : ∃ t, ss[i]? = some t := by
  cases e : ss[i]? with
  | some t => exact ⟨t, rfl⟩
  | none =>
    have z : (mbd (VI.store i t') fun _ => mret Flow.nx) ss = none := by
      unfold mbd VI.store
      rw [e]
    rcases h with ⟨a, s, e', _⟩ | ⟨j, w, s, e', _⟩ <;> rw [z] at e' <;> cases e'
/-- slot i gets a value that others see -/
theorem SR.put (s : SR c F H σ ss) {i : Nat} {w : W} {v : V} (r : RepF c F H w v) : SR c F H (σ.set i (some v)) (ss.set i (.fr false w)) ∧ ∀ a, OwnA (σ.set i (some v)) (ss.set i (.fr false w)) a → OwnA σ ss a := by
  have sub : ∀ a, OwnA (σ.set i (some v)) (ss.set i (.fr false w)) a → OwnA σ ss a := fun a ⟨j, t, h1, h2, h3⟩ => by
    rcases get_set h1 with ⟨rfl, rfl⟩ | ⟨n, h1⟩
    · cases h2
    · rcases get_set h3 with ⟨z, _⟩ | ⟨_, h3⟩
      · exact absurd z n
      · exact ⟨j, t, h1, h2, h3⟩
  refine ⟨⟨by rw [List.length_set, List.length_set]; exact s.len, fun j t ov h1 h2 => ?_, fun b hb z => s.nf b (sub b hb) z, fun j k t u b h1 h2 h3 h4 h5 h6 => ?_, fun b hl hb => ?_, s.live⟩, sub⟩
  · rcases get_set h1 with ⟨rfl, rfl⟩ | ⟨n, h1⟩
    · rcases get_set h2 with ⟨_, rfl⟩ | ⟨n, _⟩
      · exact ⟨v, rfl, r⟩
      · exact absurd rfl n
    · rcases get_set h2 with ⟨z, _⟩ | ⟨_, h2⟩
      · exact absurd z n
      · exact s.rel j t ov h1 h2
  · rcases get_set h1 with ⟨rfl, rfl⟩ | ⟨n, h1⟩
    · cases h3
    · rcases get_set h2 with ⟨rfl, rfl⟩ | ⟨n2, h2⟩
      · cases h4
      · rcases get_set h5 with ⟨z, _⟩ | ⟨_, h5⟩
        · exact absurd z n
        · rcases get_set h6 with ⟨z, _⟩ | ⟨_, h6⟩
          · exact absurd z n2
          · exact s.inj j k t u b h1 h2 h3 h4 h5 h6
  · obtain ⟨j, w', h1, h2, h3⟩ := hl
    rcases get_set h1 with ⟨rfl, z⟩ | ⟨n, h1⟩
    · cases z
    · rcases get_set h3 with ⟨z, _⟩ | ⟨_, h3⟩
      · exact absurd z n
      · exact s.lk b ⟨j, w', h1, h2, h3⟩ (sub b hb)
/-- slot i gets a thing that nobody else has -/
theorem SR.putO (s : SR c F H σ ss) {i : Nat} {w : W} {a : Addr} (r : OwnAt c F H a w) (nF : ¬ F a) (nB : ¬ Busy σ ss a) : SR c F H (σ.set i (some (.ref a))) (ss.set i (.own false w)) ∧ ∀ b, OwnA (σ.set i (some (.ref a))) (ss.set i (.own false w)) b → OwnA σ ss b ∨ b = a := by
  have sub : ∀ b, OwnA (σ.set i (some (.ref a))) (ss.set i (.own false w)) b → OwnA σ ss b ∨ b = a := fun b ⟨j, t, h1, h2, h3⟩ => by
    rcases get_set h3 with ⟨_, z⟩ | ⟨n, h3⟩
    · cases z
      exact .inr rfl
    · rcases get_set h1 with ⟨z, _⟩ | ⟨_, h1⟩
      · exact absurd z n
      · exact .inl ⟨j, t, h1, h2, h3⟩
  refine ⟨⟨by rw [List.length_set, List.length_set]; exact s.len, fun j t ov h1 h2 => ?_, fun b hb z => ?_, fun j k t u b h1 h2 h3 h4 h5 h6 => ?_, fun b hl hb => ?_, s.live⟩, sub⟩
  · rcases get_set h1 with ⟨rfl, rfl⟩ | ⟨n, h1⟩
    · rcases get_set h2 with ⟨_, rfl⟩ | ⟨n, _⟩
      · exact ⟨a, rfl, r⟩
      · exact absurd rfl n
    · rcases get_set h2 with ⟨z, _⟩ | ⟨_, h2⟩
      · exact absurd z n
      · exact s.rel j t ov h1 h2
  · rcases sub b hb with h | h
    · exact s.nf b h z
    · rw [h] at z
      exact nF z
  · rcases get_set h5 with ⟨e1, z1⟩ | ⟨n, h5⟩
    · rcases get_set h6 with ⟨e2, _⟩ | ⟨n2, h6⟩
      · rw [e1, e2]
      · cases z1
        rcases get_set h2 with ⟨z, _⟩ | ⟨_, h2⟩
        · exact absurd z n2
        · exact absurd (.inl ⟨k, u, h2, h4, h6⟩) nB
    · rcases get_set h1 with ⟨z, _⟩ | ⟨_, h1⟩
      · exact absurd z n
      · rcases get_set h6 with ⟨e2, z2⟩ | ⟨n2, h6⟩
        · cases z2
          exact absurd (.inl ⟨j, t, h1, h3, h5⟩) nB
        · rcases get_set h2 with ⟨z, _⟩ | ⟨_, h2⟩
          · exact absurd z n2
          · exact s.inj j k t u b h1 h2 h3 h4 h5 h6
  · obtain ⟨j, w', h1, h2, h3⟩ := hl
    rcases get_set h1 with ⟨_, z⟩ | ⟨n, h1⟩
    · cases z
    · rcases get_set h3 with ⟨z, _⟩ | ⟨_, h3⟩
      · exact absurd z n
      · rcases sub b hb with h | h
        · exact s.lk b ⟨j, w', h1, h2, h3⟩ h
        · rw [h] at h3
          exact nB (.inr ⟨j, w', h1, h2, h3⟩)
theorem Ln.put {i : Nat} {t t' : Slot} {v : Option V} (e : ss[i]? = some t) (f : free t = true) (n : ∀ w, t' ≠ .lk w := by exact fun w z => by cases z) : Ln σ ss (σ.set i v) (ss.set i t') := ⟨fun j u h1 hf => by
  by_cases z : j = i
  · subst z
    rw [e] at h1
    cases h1
    rw [f] at hf
    cases hf
  · exact ⟨List.getElem?_set_ne (Ne.symm z), u, by rw [List.getElem?_set_ne (Ne.symm z)]; exact h1, Nfr.refl hf⟩, fun j w h => by
  rcases get_set h with ⟨_, z⟩ | ⟨_, h⟩
  · exact absurd z.symm (n w)
  · exact h⟩
theorem Fm.sub {O O' : Addr → Prop} (h : ∀ a, O' a → O a) : Fm F H O F H O' := ⟨fun _ _ h _ _ => h, fun _ o h n => ⟨o, h, n⟩, fun _ h => h, fun _ h => .inl h, fun a z => .inl (h a z)⟩
theorem Fm.more {O O1 O' F' : Addr → Prop} {H' : Hp} {a : Addr} (f : Fm F H O F' H' O1) (sub : ∀ b, O' b → O1 b ∨ b = a) (n : Fr H a) : Fm F H O F' H' O' :=
  ⟨f.keep, f.live, f.mono, f.fnew, fun b hb => by
    rcases sub b hb with h | h
    · exact f.onew b h
    · rw [h]
      exact .inr n⟩
theorem sim_asg {i : Nat} {x : Str} {e : Expr} {m : M W} {pos pos' : Pos} (he : SimE c X e m) (hN : X.N.Nodup) (hi : X.N[i]? = some x := by rfl) (hx : Loc X.env.scope x := by first | exact Or.inl rfl | exact Or.inr rfl) (hs : swapsWith e (some (.Name x pos')) pos.line X.env = pure false := by rfl)
    (hf : X.fn x = true ∨ X.env.scope.names.lookup x = some .local := by first | exact .inl rfl | exact .inr rfl) : SimS c X (.Assign [.Name x pos'] e pos) (sAsg i m) := fun Wx tk =>
  PS.imp (ps_set hN hi hx (he Wx tk) hs hf) fun D σ H q => by
    obtain ⟨F, ss, s, q⟩ := q
    refine ⟨F, ss, s, (FromS.bind (U := rF c) q).mono fun v H1 ⟨w, F1, ss1, em, s1, u1, f1, l1, h3, hr⟩ => ?_⟩
    obtain ⟨t, e⟩ := store_there h3
    obtain ⟨ft, h4⟩ := h3.store e
    obtain ⟨s2, sub⟩ := s1.put (i := i) u1
    exact h4.retE (Fm.sub sub) s2 (.put e ft)
theorem asgO_read {i : Nat} {m : M W} {Wx : WX} {D : Ends} {σ : L2.St} {H : Hp} (q : tS c (sAsgO i m) Wx D σ H) : tM c m (rO c) Wx σ H (fun x H1 => gName i x σ H1 D.nx) := by
  obtain ⟨F, ss, s, q⟩ := q
  refine ⟨F, ss, s, (FromS.bind (U := rO c) q).mono fun v H1 ⟨w, F1, ss1, em, s1, u1, f1, l1, h3, hr⟩ => ?_⟩
  obtain ⟨t, e⟩ := store_there h3
  obtain ⟨ft, h4⟩ := h3.store e
  have go : (∃ a, v = .ref a ∧ Fr H a ∧ ¬ F1 a ∧ ¬ Busy σ ss1 a ∧ OwnAt c F1 H1 a w) → ownS w = .own false w → D.nx (σ.set i (some v)) H1 := fun ⟨a, ev, n, nF, nB, ow⟩ eo => by
    subst ev
    obtain ⟨s2, sub⟩ := s1.putO (i := i) ow nF nB
    have em : (mbd (VI.store i (ownS w)) fun _ => mret Flow.nx) ss1 = some (.ok .nx (ss1.set i (.own false w))) := by
      rw [← eo]
      unfold mbd VI.store
      rw [e]
      dsimp only
      rw [ft]
      rfl
    have h5 : FromS c (fun _ => some (.ok .nx (ss1.set i (.own false w)))) Wx σ F H ss D := hr.eq em
    exact h5.retE (f1.more sub n) s2 (l1.trans (.put e ft))
  have gf : RepF c F1 H1 w v → ownS w = .fr false w → D.nx (σ.set i (some v)) H1 := fun r eo => by
    rw [eo] at h4
    obtain ⟨s2, sub⟩ := s1.put (i := i) r
    exact h4.retE (Fm.sub sub) s2 (.put e ft)
  cases w with
  | lst ws => exact go u1 rfl
  | dct ks ws => exact go u1 rfl
  | _ => exact gf u1 rfl
theorem sim_asgO {i : Nat} {x : Str} {e : Expr} {m : M W} {pos pos' : Pos} (he : SimO c X e m) (hN : X.N.Nodup) (hi : X.N[i]? = some x := by rfl) (hx : Loc X.env.scope x := by first | exact Or.inl rfl | exact Or.inr rfl) (hs : swapsWith e (some (.Name x pos')) pos.line X.env = pure false := by rfl)
    (hf : X.fn x = true ∨ X.env.scope.names.lookup x = some .local := by first | exact .inl rfl | exact .inr rfl) : SimS c X (.Assign [.Name x pos'] e pos) (sAsgO i m) := fun Wx tk =>
  PS.imp (ps_set hN hi hx (he Wx tk) hs hf) fun D σ H q => asgO_read q
theorem simB_one {st : Stmt} {a : M Flow} (h : SimS c X st a) : SimB c X [st] a := fun Wx tk => pss_one (h Wx tk)
end
end VI

set_option Elab.async false
set_option linter.all false
set_option maxRecDepth 100000
set_option maxHeartbeats 1000000
/-! VI, part 9: more statements: what is dropped, handed back, tested, changed in place. -/
namespace VI
open PySem L2
section
variable {c : Cn} {X : Cx} {Wx : WX} {σ : L2.St} {F : Addr → Prop} {H : Hp} {ss : Slots} {D : Ends} {e : Expr} {m : M W} {pos : Pos}
theorem sim_expr (he : SimE c X e m) (hs : swapsWith e none pos.line X.env = pure false := by rfl) : SimS c X (.Expr e pos) (sExpr m) := fun Wx tk =>
  PS.imp (ps_expr (he Wx tk) hs) fun D σ H q => by
    obtain ⟨F, ss, s, q⟩ := q
    exact ⟨F, ss, s, (FromS.bind (U := rF c) q).mono fun v H1 ⟨w, F1, ss1, em, s1, u1, f1, l1, h3, hr⟩ => h3.ret s1⟩
theorem sim_ret (he : SimE c X e m) : SimS c X (.Return (some e) pos) (sRet m) := fun Wx tk =>
  PS.imp (ps_ret (he Wx tk)) fun D σ H q => by
    obtain ⟨F, ss, s, q⟩ := q
    refine ⟨F, ss, s, (FromS.bind (U := rF c) q).mono fun v H1 ⟨w, F1, ss1, em, s1, u1, f1, l1, h3, hr⟩ => h3.ret s1 v ?_⟩
    unfold RetR
    rw [if_neg (fun z => absurd z.1 Bool.false_ne_true)]
    exact u1
theorem sim_retO (he : SimO c X e m) : SimS c X (.Return (some e) pos) (sRetO m) := fun Wx tk =>
  PS.imp (ps_ret (he Wx tk)) fun D σ H q => by
    obtain ⟨F, ss, s, q⟩ := q
    refine ⟨F, ss, s, (FromS.bind (U := rO c) q).mono fun v H1 ⟨w, F1, ss1, em, s1, u1, f1, l1, h3, hr⟩ => ?_⟩
    have z : FlowR c D H (.ret true w) σ ss1 F1 H1 := FromS.retE (hr.eq rfl) f1 s1 l1
    refine z v ?_
    unfold RetR
    cases w with
    | lst ws =>
      obtain ⟨a, ev, n, nF, nB, ow⟩ := u1
      rw [if_pos ⟨rfl, rfl⟩]
      exact ⟨a, ev, nF, ow, .inl ⟨n, nB⟩⟩
    | dct ks ws =>
      obtain ⟨a, ev, n, nF, nB, ow⟩ := u1
      rw [if_pos ⟨rfl, rfl⟩]
      exact ⟨a, ev, nF, ow, .inl ⟨n, nB⟩⟩
    | _ =>
      rw [if_neg (fun z => absurd z.2 Bool.false_ne_true)]
      exact u1
/-- return x -/
theorem sim_retV (i : Nat) {x : Str} {p : Pos} (hN : X.N[i]? = some x := by rfl) (hv : Vis X.env.scope x := by first | exact Or.inl rfl | exact Or.inr (Or.inl rfl) | exact Or.inr (Or.inr rfl)) (hd : (x == ("__debug__" : Str)) = false := by decide)
    (hcd : (x == ("__classdict__" : Str)) = false := by decide) : SimS c X (.Return (some (.Name x p)) pos) (sRetV i) := fun Wx tk =>
  PS.imp (ps_ret (pe_var (i := i) hN hv hd hcd)) fun D σ H q => by
    obtain ⟨F, ss, s, q⟩ := q
    have old : sRetV i ss = mbd (eVar i) (fun w => mret (.ret false w)) ss → tRet (tVar i) D σ H := fun ez => by
      have q2 := q.eq ez
      have q3 := (FromS.bind (U := rF c) q2)
      unfold From eVar at q3
      cases e : ss[i]? with
      | none =>
        rw [e] at q3
        rcases q3 with ⟨a, s', z, _⟩ | ⟨j, w, s', z, _⟩ <;> cases z
      | some t =>
        rw [e] at q3
        cases t with
        | no => rcases q3 with ⟨a, s', z, _⟩ | ⟨j, w, s', z, _⟩ <;> cases z
        | lk w => rcases q3 with ⟨a, s', z, _⟩ | ⟨j, w, s', z, _⟩ <;> cases z
        | fr l w =>
          obtain ⟨ov, e1, v, e2, r⟩ := s.get e
          subst e2
          rcases q3 with ⟨a, s', z, qq⟩ | ⟨j, w', s', z, _⟩
          · cases z
            obtain ⟨w', F1, ss1, _, s1, u1, f1, l1, h3, hr⟩ := qq v F H .refl s .refl r
            refine ⟨v, e1, h3.ret s1 v ?_⟩
            unfold RetR
            rw [if_neg (fun z => absurd z.1 Bool.false_ne_true)]
            exact u1
          · cases z
        | own l w =>
          obtain ⟨a, e1, s1, f1, r⟩ := s.freeze e
          rcases q3 with ⟨a', s', z, qq⟩ | ⟨j, w', s', z, _⟩
          · cases z
            obtain ⟨w', F1, ss1, _, s1, u1, f1, l1, h3, hr⟩ := qq _ _ H f1 s1 (.freeze s e) r
            refine ⟨.ref a, e1, h3.ret s1 _ ?_⟩
            unfold RetR
            rw [if_neg (fun z => absurd z.1 Bool.false_ne_true)]
            exact u1
          · cases z
    cases e : ss[i]? with
    | none => exact old (by unfold sRetV; rw [e])
    | some t =>
      cases t with
      | own l w =>
        cases l with
        | true => exact old (by unfold sRetV; rw [e])
        | false =>
          obtain ⟨ov, e1, a, e2, ow⟩ := s.get e
          subst e2
          have z : FlowR c D H (.ret true w) σ ss F H := FromS.retE (q.eq (n := fun _ => some (.ok (.ret true w) ss)) (by unfold sRetV; rw [e])) .refl s .refl
          refine ⟨.ref a, e1, z _ ?_⟩
          unfold RetR
          rw [if_pos ⟨rfl, ow.mutW⟩]
          exact ⟨a, rfl, s.nf a ⟨i, _, e, rfl, e1⟩, ow, .inr ⟨i, w, e, e1⟩⟩
      | _ => exact old (by unfold sRetV; rw [e])
theorem sim_retN : SimS c X (.Return none pos) (sRet (eC .non)) := fun Wx tk =>
  PS.imp ps_retN fun D σ H q => by
    obtain ⟨F, ss, s, q⟩ := q
    have z : FlowR c D H (.ret false .non) σ ss F H := FromS.retE (q.eq (n := fun _ => some (.ok (.ret false .non) ss)) rfl) .refl s .refl
    refine z .non ?_
    unfold RetR
    rw [if_neg (fun z => absurd z.1 Bool.false_ne_true)]
    exact rfl
theorem sim_if {T : Expr} {A B : List Stmt} {t : M Bool} {a b : M Flow} (ht : SimT c X T t) (ha : SimB c X A a) (hb : SimB c X B b) : SimS c X (.If T A B pos) (sIf t a b) := fun Wx tk =>
  PS.imp (ps_if (ht Wx tk) (ha Wx tk) (hb Wx tk)) fun D σ H q => by
    obtain ⟨F, ss, s, q⟩ := q
    refine ⟨F, ss, s, (FromS.bind (U := rB) q).mono fun k H1 ⟨k', F1, ss1, em, s1, u1, f1, l1, h3, hr⟩ => ?_⟩
    have u1 : k' = k := u1
    subst u1
    cases k' with
    | true => exact iteT ⟨F1, ss1, s1, h3⟩
    | false => exact iteF ⟨F1, ss1, s1, h3⟩
/-! ### targets -/
def FromG (c : Cn) (os : List Nat) (m : M Unit) (σ : L2.St) (F : Addr → Prop) (H : Hp) (ss : Slots) (Q : L2.St → Hp → Prop) : Prop :=
  ∃ ss', m ss = some (.ok () ss') ∧ ∀ (σ' : L2.St) (F' : Addr → Prop) (H' : Hp), Fm F H (OwnA σ ss) F' H' (OwnA σ' ss') → SR c F' H' σ' ss' → Ln σ ss σ' ss' → σ'.length = σ.length → (∀ j, j ∉ os → σ'[j]? = σ[j]?) → Q σ' H'
def tG (c : Cn) (t : Tg) : TG := fun v σ H Q => ∃ F ss w, SR c F H σ ss ∧ RepF c F H w v ∧ FromG c (tgIx t) (asg t w) σ F H ss Q
def tGs (c : Cn) (t : List Tg) : TGs := fun vs σ H Q => ∃ F ss ws, SR c F H σ ss ∧ RepFs c F H ws vs ∧ FromG c (tgIx (.many t)) (asgs t ws) σ F H ss Q
def SimG (c : Cn) (X : Cx) (tg : Expr) (t : Tg) : Prop := PG X tg (tG c t)
def SimGs (c : Cn) (X : Cx) (tgs : List Expr) (t : List Tg) : Prop := PGs X tgs (tGs c t)
theorem PG.imp {X : Cx} {e : Expr} {t t' : TG} (h : PG X e t) (k : ∀ v σ H Q, t' v σ H Q → t v σ H Q) : PG X e t' := ⟨fun pins s σ H v u Q I r q => h.run pins s σ H v u Q I r (k v σ H Q q)⟩
theorem PGs.imp {X : Cx} {e : List Expr} {t t' : TGs} (h : PGs X e t) (k : ∀ v σ H Q, t' v σ H Q → t v σ H Q) : PGs X e t' := ⟨fun pins s σ H v u Q I r q => h.run pins s σ H v u Q I r (k v σ H Q q)⟩
theorem simG_one {i : Nat} {x : Str} (hN : X.N.Nodup) (hi : X.N[i]? = some x := by rfl) (hx : Loc X.env.scope x := by first | exact Or.inl rfl | exact Or.inr rfl)
    (hf : X.fn x = true ∨ X.env.scope.names.lookup x = some .local := by first | exact .inl rfl | exact .inr rfl) : SimG c X (.Name x pos) (.one i) :=
  PG.imp (pg_name hN hi hx hf) fun v σ H Q h => by
    obtain ⟨F, ss, w, s, r, ss', e, q⟩ := h
    have e : VI.store i (.fr false w) ss = some (.ok () ss') := e
    unfold VI.store at e
    cases et : ss[i]? with
    | none =>
      rw [et] at e
      cases e
    | some t =>
      rw [et] at e
      dsimp only at e
      cases ef : free t with
      | false =>
        rw [ef] at e
        cases e
      | true =>
        rw [ef] at e
        cases e
        obtain ⟨s2, sub⟩ := s.put (i := i) r
        exact q _ F H (Fm.sub sub) s2 (.put et ef) (by rw [List.length_set]) fun j hj => List.getElem?_set_ne fun z => hj (by rw [z]; exact List.mem_singleton.mpr rfl)
theorem simGs_nil : SimGs c X [] [] := PGs.imp pgs_nil fun vs σ H Q h => by
  obtain ⟨F, ss, ws, s, r, ss', e, q⟩ := h
  cases ws with
  | nil =>
    cases e
    exact ⟨r, q σ F H .refl s .refl rfl fun _ _ => rfl⟩
  | cons w ws => cases e
theorem FromG.bind {Q : L2.St → Hp → Prop} {m : M Unit} {n : M Unit} {os os1 os2 : List Nat} (h : FromG c os (mbd m fun _ => n) σ F H ss Q) (hos : os = os1 ++ os2) : FromG c os1 m σ F H ss fun σ1 H1 => ∃ F1 ss1, SR c F1 H1 σ1 ss1 ∧ Fm F H (OwnA σ ss) F1 H1 (OwnA σ1 ss1) ∧ FromG c os2 n σ1 F1 H1 ss1 Q := by
  obtain ⟨ss', e, q⟩ := h
  cases em : m ss with
  | none =>
    unfold mbd at e
    rw [em] at e
    cases e
  | some r =>
    cases r with
    | exc k w s =>
      unfold mbd at e
      rw [em] at e
      cases e
    | ok a s =>
      rw [mbd_ok em] at e
      subst hos
      exact ⟨s, em, fun σ1 F1 H1 f1 s1 l1 n1 t1 => ⟨F1, s, s1, f1, ss', e, fun σ2 F2 H2 f2 s2 l2 n2 t2 => q σ2 F2 H2 (f1.trans f2) s2 (l1.trans l2) (n2.trans n1) fun j hj => by
        rw [List.mem_append] at hj
        exact (t2 j fun z => hj (.inr z)).trans (t1 j fun z => hj (.inl z))⟩⟩
theorem simGs_cons {a : Expr} {as : List Expr} {t : Tg} {ts : List Tg} (h : SimG c X a t) (k : SimGs c X as ts) (hs : (assignEach (a :: as) X.env).map (·.2) = assign a X.env :: (assignEach as X.env).map (·.2) := by rfl) : SimGs c X (a :: as) (t :: ts) :=
  PGs.imp (pgs_cons h k hs) fun vs σ H Q q => by
    obtain ⟨F, ss, ws, s, r, q⟩ := q
    cases ws with
    | nil =>
      obtain ⟨ss', e, _⟩ := q
      cases e
    | cons w ws =>
      obtain ⟨v, vr, e, r1, r2⟩ := r
      have q : FromG c (tgIx t ++ tgIx (.many ts)) (mbd (asg t w) fun _ => asgs ts ws) σ F H ss Q := q
      refine ⟨v, vr, e, F, ss, w, s, r1, ?_⟩
      obtain ⟨ss', e', q'⟩ := q.bind rfl
      refine ⟨ss', e', fun σ1 F1 H1 f1 s1 l1 n1 t1 => ?_⟩
      obtain ⟨F2, ss2, s2, f2, q2⟩ := q' σ1 F1 H1 f1 s1 l1 n1 t1
      exact ⟨F2, ss2, ws, s2, RepFs.kp (s.kp f2) _ _ r2, q2⟩
theorem asgs_len : ∀ (ts : List Tg) (ws : List W) (ss ss' : Slots), asgs ts ws ss = some (.ok () ss') → ws.length = ts.length := by
  intro ts
  induction ts with
  | nil =>
    intro ws ss ss' h
    cases ws with
    | nil => rfl
    | cons w ws => cases h
  | cons t ts ih =>
    intro ws ss ss' h
    cases ws with
    | nil => cases h
    | cons w ws =>
      have h : mbd (asg t w) (fun _ => asgs ts ws) ss = some (.ok () ss') := h
      unfold mbd at h
      cases em : asg t w ss with
      | none =>
        rw [em] at h
        cases h
      | some r =>
        rw [em] at h
        cases r with
        | exc k w s => cases h
        | ok a s => rw [List.length_cons, List.length_cons, ih ws s ss' h]
theorem PG.or {X : Cx} {e : Expr} {t t' : TG} (h : PG X e t) (h' : PG X e t') : PG X e (fun v σ H Q => t v σ H Q ∨ t' v σ H Q) := ⟨fun pins s σ H v u Q I r q => q.elim (h.run pins s σ H v u Q I r) (h'.run pins s σ H v u Q I r)⟩
theorem simG_tup {es : List Expr} {k : Nat} {ts : List Tg} (hc : X.calm = true) (hK : X.K = c.K) (h : SimGs c X es ts) (hn : (assignEach es X.env).length = ts.length := by rfl) (hst : (assignEach es X.env).findIdx? (·.1) = none := by rfl) : SimG c X (.Tuple es k pos) (.many ts) :=
  PG.imp (PG.or (pg_tup (n := ts.length) hc h hn hst) (pg_unl (n := ts.length) hc h hn hst)) fun v σ H Q q => by
    obtain ⟨F, ss, w, s, r, q⟩ := q
    cases w with
    | tup ws =>
      obtain ⟨a, vs, e, e1, e2⟩ := r
      refine .inl ⟨a, vs, e, by rw [hK]; exact e1, ?_, F, ss, ws, s, e2, q⟩
      rw [← e2.length]
      obtain ⟨ss', e', _⟩ := q
      exact asgs_len ts ws ss ss' e'
    | lst ws =>
      obtain ⟨a, vs, e, _, e1, e2⟩ := r
      refine .inr ⟨a, vs, e, .inl (.of e1), ?_, F, ss, ws, s, e2, q⟩
      rw [← e2.length]
      obtain ⟨ss', e', _⟩ := q
      exact asgs_len ts ws ss ss' e'
    | _ =>
      obtain ⟨ss', e', _⟩ := q
      cases e'
theorem calm_ok {α : Type} {m : M α} {a : α} {s : Slots} (h : m ss = some (.ok a s)) : calm m ss = some (.ok a s) := by
  unfold calm
  rw [h]
/-- targets first -/
theorem calm_G {g : M Unit} {n : M Flow} (h : FromS c (mbd (calm g) fun _ => n) Wx σ F H ss D) : ∃ ss', g ss = some (.ok () ss') ∧ FromS c (fun _ => n ss') Wx σ F H ss D := by
  cases et : g ss with
  | none =>
    have z : mbd (calm g) (fun _ => n) ss = none := by unfold mbd calm; rw [et]
    rcases h with ⟨a, s, e, _⟩ | ⟨j, w, s, e, _⟩ <;> rw [z] at e <;> cases e
  | some r =>
    cases r with
    | exc k w' s' =>
      have z : mbd (calm g) (fun _ => n) ss = none := by unfold mbd calm; rw [et]
      rcases h with ⟨a, s, e, _⟩ | ⟨j, w, s, e, _⟩ <;> rw [z] at e <;> cases e
    | ok a s' => exact ⟨s', rfl, h.eq (mbd_ok (calm_ok et))⟩
/-- a, b = e -/
theorem sim_unp {tg : Expr} {t : Tg} (he : SimE c X e m) (hg : SimG c X tg t) (hs : swapsWithSole [tg] e pos.line X.env = pure false := by rfl) (hw : swappedStores [tg] e X.env = pure none := by rfl)
    (h1 : (assignEach [tg] X.env).map (·.2) = [assign tg X.env] := by rfl) : SimS c X (.Assign [tg] e pos) (sUnp t m) := fun Wx tk =>
  PS.imp (ps_asg (he Wx tk) hg hs hw h1) fun D σ H q => by
    obtain ⟨F, ss, s, q⟩ := q
    refine ⟨F, ss, s, (FromS.bind (U := rF c) q).mono fun v H1 ⟨w, F1, ss1, em, s1, u1, f1, l1, h3, hr⟩ => ⟨F1, ss1, w, s1, u1, ?_⟩⟩
    obtain ⟨s', e', h4⟩ := calm_G h3
    exact ⟨s', e', fun σ' F' H' f' sr' l' _ _ => FromS.retE (h4.eq (n := fun _ => some (.ok .nx s')) rfl) f' sr' l'⟩
end
end VI

set_option Elab.async false
set_option linter.all false
set_option maxRecDepth 100000
set_option maxHeartbeats 1000000
/-! VI, part 10: lists changed in place; x op= e. -/
namespace VI
open PySem L2
section
variable {c : Cn} {X : Cx} {Wx : WX} {σ : L2.St} {F : Addr → Prop} {H : Hp} {ss : Slots} {D : Ends} {e : Expr} {m : M W} {pos : Pos}
theorem own_L {i : Nat} {r : R (List W)} (s : SR c F H σ ss) (h : ownL i ss = some r) : ∃ l xs a vs, r = .ok xs ss ∧ ss[i]? = some (.own l (.lst xs)) ∧ σ[i]? = some (some (.ref a)) ∧ H a = some (.lst vs) ∧ RepFs c F H xs vs := by
  unfold ownL at h
  cases e : ss[i]? with
  | none =>
    rw [e] at h
    cases h
  | some t =>
    rw [e] at h
    cases t with
    | own l w =>
      cases w with
      | lst xs =>
        cases h
        obtain ⟨ov, e1, a, e2, vs, e3, r⟩ := s.get e
        subst e2
        exact ⟨l, xs, a, vs, rfl, rfl, e1, e3, r⟩
      | _ => cases h
    | _ => cases h
/-- a list of one's own at a is changed -/
theorem SR.write (s : SR c F H σ ss) {i : Nat} {l : Bool} {xs ys : List W} {a : Addr} {vs us : List V} (e : ss[i]? = some (.own l (.lst xs))) (e1 : σ[i]? = some (some (.ref a))) (e2 : H a = some (.lst vs)) (r : RepFs c F H ys us) :
    SR c F (upd H a (.lst us)) σ (ss.set i (.own l (.lst ys))) ∧ Fm F H (OwnA σ ss) F (upd H a (.lst us)) (OwnA σ (ss.set i (.own l (.lst ys)))) ∧ Ln σ ss σ (ss.set i (.own l (.lst ys))) := by
  have hO : OwnA σ ss a := ⟨i, _, e, rfl, e1⟩
  have hl := (List.getElem?_eq_some_iff.mp e).1
  have f : Fm F H (OwnA σ ss) F (upd H a (.lst us)) (OwnA σ ss) := ⟨fun b o h n _ => by
      have nb : b ≠ a := fun z => by
        rw [z] at n
        exact n hO
      rw [upd_ne nb]
      exact h, fun b o h n => by
      by_cases z : b = a
      · rw [z]
        exact ⟨_, upd_same, fun _ z => by cases z⟩
      · exact ⟨o, by rw [upd_ne z]; exact h, n⟩, fun _ h => h, fun _ h => .inl h, fun _ h => .inl h⟩
  have k := s.kp f
  have same : ∀ b, OwnA σ (ss.set i (.own l (.lst ys))) b → OwnA σ ss b := fun b ⟨j, t, h1, h2, h3⟩ => by
    rcases get_set h1 with ⟨rfl, _⟩ | ⟨_, h1⟩
    · exact ⟨_, _, e, rfl, h3⟩
    · exact ⟨j, t, h1, h2, h3⟩
  have other : ∀ {b : Addr} {w : W}, OwnAt c F H b w → b ≠ a → OwnAt c F (upd H a (.lst us)) b w := fun {b w} h n => by
    cases w with
    | lst ws =>
      obtain ⟨zs, h1, h2⟩ := h
      exact ⟨zs, by rw [upd_ne n]; exact h1, RepFs.kp k _ _ h2⟩
    | dct ks ws =>
      obtain ⟨zs, ⟨h0, h1⟩, h2⟩ := h
      have h1' : DctAt (upd H a (.lst us)) b ks zs := by
        rcases h1 with ⟨kvs, h1, r⟩ | ⟨kvs, h1, r⟩
        · refine .inl ⟨kvs, ?_, r⟩
          unfold Rd
          rw [upd_ne n]
          exact h1
        · refine .inr ⟨kvs, ?_, r⟩
          unfold Rd
          rw [upd_ne n]
          exact h1
      exact ⟨zs, ⟨by rw [upd_ne n]; exact h0, h1'⟩, RepFs.kp k _ _ h2⟩
    | _ => exact (show False from h).elim
  refine ⟨⟨by rw [List.length_set]; exact s.len, fun j t ov h1 h2 => ?_, fun b hb => s.nf b (same b hb), fun j n t u b h1 h2 h3 h4 h5 h6 => ?_, fun b hl hb => ?_, ⟨fun b hb => ?_, tabs_upd s.live.2 e2⟩⟩, ⟨f.keep, f.live, f.mono, f.fnew, fun b hb => .inl (same b hb)⟩, ⟨fun j t h1 hf => ⟨rfl, ?_⟩, fun j w h1 => ?_⟩⟩
  · rcases get_set h1 with ⟨rfl, rfl⟩ | ⟨n, h1⟩
    · rw [e1] at h2
      cases h2
      exact ⟨a, rfl, us, upd_same, RepFs.kp k _ _ r⟩
    · have q := s.rel j t ov h1 h2
      cases t with
      | no => trivial
      | fr l' w =>
        obtain ⟨v, ev, q⟩ := q
        exact ⟨v, ev, RepF.kp k _ _ q⟩
      | own l' w =>
        obtain ⟨b, ev, q⟩ := q
        subst ev
        exact ⟨b, rfl, other q fun z => by
          rw [z] at h2
          exact n (s.inj j i _ _ a h1 e rfl rfl h2 e1)⟩
      | lk w =>
        obtain ⟨v, ev, q⟩ := q
        refine ⟨v, ev, ?_⟩
        rcases q with q | ⟨b, eb, q⟩
        · exact .inl (RepF.kp k _ _ q)
        · refine .inr ⟨b, eb, other q fun z => ?_⟩
          rw [ev, eb, z] at h2
          exact s.lk a ⟨j, w, h1, q.mutW, h2⟩ hO
  · have fix : ∀ {j : Nat} {t : Slot}, (ss.set i (.own l (.lst ys)))[j]? = some t → isOwn t = true → ∃ t', ss[j]? = some t' ∧ isOwn t' = true := fun {j t} h1 h3 => by
      rcases get_set h1 with ⟨rfl, _⟩ | ⟨_, h1⟩
      · exact ⟨_, e, rfl⟩
      · exact ⟨t, h1, h3⟩
    obtain ⟨t', g1, g2⟩ := fix h1 h3
    obtain ⟨u', g3, g4⟩ := fix h2 h4
    exact s.inj j n t' u' b g1 g3 g2 g4 h5 h6
  · obtain ⟨j, w, h1, h2, h3⟩ := hl
    rcases get_set h1 with ⟨_, z⟩ | ⟨_, h1⟩
    · cases z
    · exact s.lk b ⟨j, w, h1, h2, h3⟩ (same b hb)
  · obtain ⟨o, ho, no⟩ := s.live.1 b hb
    have nb : b ≠ a := fun z => by
      rw [z] at hb
      exact s.nf a hO hb
    exact ⟨o, by rw [upd_ne nb]; exact ho, no⟩
  · by_cases z : j = i
    · subst z
      rw [e] at h1
      cases h1
      refine ⟨_, List.getElem?_set_self hl, ?_⟩
      cases l
      · cases hf
      · exact .inl ⟨_, rfl⟩
    · exact ⟨t, by rw [List.getElem?_set_ne (Ne.symm z)]; exact h1, Nfr.refl hf⟩
  · rcases get_set h1 with ⟨_, z⟩ | ⟨_, h1⟩
    · cases z
    · exact h1
theorem putL_ok {i : Nat} {l : Bool} {xs ys : List W} (e : ss[i]? = some (.own l (.lst xs))) : putL i ys ss = some (.ok () (ss.set i (.own l (.lst ys)))) := by
  unfold putL
  rw [e]
theorem own_first {i : Nat} {f : List W → M Flow} (h : FromS c (mbd (ownL i) f) Wx σ F H ss D) (s : SR c F H σ ss) : ∃ l xs a vs, ss[i]? = some (.own l (.lst xs)) ∧ σ[i]? = some (some (.ref a)) ∧ H a = some (.lst vs) ∧ RepFs c F H xs vs ∧ FromS c (f xs) Wx σ F H ss D := by
  cases eo : ownL i ss with
  | none =>
    have z : mbd (ownL i) f ss = none := by unfold mbd; rw [eo]
    rcases h with ⟨a, s, e, _⟩ | ⟨j, w, s, e, _⟩ <;> rw [z] at e <;> cases e
  | some r =>
    obtain ⟨l, xs, a, vs, er, e1, e2, e3, q⟩ := own_L s eo
    subst er
    exact ⟨l, xs, a, vs, e1, e2, e3, q, h.eq (mbd_ok eo)⟩
theorem FromS.no {m : M Flow} (h : FromS c m Wx σ F H ss D) (e : m ss = none) : False := by
  rcases h with ⟨a, s, e', _⟩ | ⟨j, w, s, e', _⟩ <;> rw [e] at e' <;> cases e'
/-- x.append(e) -/
theorem sim_app (i : Nat) {x : Str} {p apos cpos : Pos} (he : SimE c X e m) (hN : X.N[i]? = some x := by rfl) (hv : Vis X.env.scope x := by first | exact Or.inl rfl | exact Or.inr (Or.inl rfl) | exact Or.inr (Or.inr rfl)) (hd : (x == ("__debug__" : Str)) = false := by decide)
    (hcd : (x == ("__classdict__" : Str)) = false := by decide) (hbase : attributeBase (.Name x p) "append" X.env (eval (.Name x p) X.env) = eval (.Name x p) X.env := by rfl)
    (hfew : ((backTo cpos (starEach [e] X.env)).all (fun x => !x.1) && (backToKw cpos (keywordEach [] X.env)).all (fun x => x.1.isSome)
      && decide ([e].length + ([] : List Keyword).length + (if ([] : List Keyword).isEmpty then 0 else 1) < 30)) = true := by rfl)
    (hline : (apos.endLine == cpos.line) = true := by rfl) (hs : starEach [e] X.env = (false, eval e X.env) :: starEach [] X.env := by rfl)
    (hsw : swapsWith (.Call (.Attribute (.Name x p) "append" apos) [e] [] cpos) none pos.line X.env = pure false := by rfl) : SimS c X (.Expr (.Call (.Attribute (.Name x p) "append" apos) [e] [] cpos) pos) (sApp i m) := fun Wx tk =>
  PS.imp (ps_expr (pe_bm PySem.F.plainAttrs_list PySem.F.slot_list_append PySem.F.type_list_append mt_append (pe_var (i := i) hN hv hd hcd) (pa_cons (he Wx tk) pa_nil hs) hbase hfew hline hs rfl) hsw) fun D σ H q => by
    obtain ⟨F, ss, s, q⟩ := q
    obtain ⟨l0, xs0, a, vs0, e1, e2, e3, r0, q1⟩ := own_first q s
    refine ⟨.ref a, e2, .inl ⟨rfl, vs0, .of e3⟩, F, ss, s, (FromS.bind (U := rF c) q1).mono fun v H1 ⟨w, F1, ss1, em, s1, u1, f1, l1, h3, hr⟩ => ?_⟩
    obtain ⟨l, xs, b, vs, e4, e5, e6, r1, q2⟩ := own_first h3 s1
    rw [e2] at e5
    cases e5
    split at q2
    · rename_i hlen
      have r2 : RepFs c F1 H1 (xs ++ [w]) (vs ++ [v]) := r1.app ⟨v, [], rfl, u1, rfl⟩
      obtain ⟨s2, f2, l2⟩ := s1.write e4 e2 e6 r2
      refine ⟨a, vs, v, rfl, rfl, e6, ?_, ?_⟩
      · rw [← r1.length]
        exact Nat.lt_of_lt_of_le hlen (sizeLine_big (Nat.le_refl _))
      · exact FromS.retE (q2.eq (n := fun _ => some (.ok .nx (ss1.set i (.own l (.lst (xs ++ [w])))))) (mbd_ok (putL_ok e4))) f2 s2 l2
    · exact (q2.no rfl).elim
/-- x.extend(e), e a list -/
theorem sim_ext (i : Nat) {x : Str} {p apos cpos : Pos} (he : SimE c X e m) (hN : X.N[i]? = some x := by rfl) (hv : Vis X.env.scope x := by first | exact Or.inl rfl | exact Or.inr (Or.inl rfl) | exact Or.inr (Or.inr rfl)) (hd : (x == ("__debug__" : Str)) = false := by decide)
    (hcd : (x == ("__classdict__" : Str)) = false := by decide) (hbase : attributeBase (.Name x p) "extend" X.env (eval (.Name x p) X.env) = eval (.Name x p) X.env := by rfl)
    (hfew : ((backTo cpos (starEach [e] X.env)).all (fun x => !x.1) && (backToKw cpos (keywordEach [] X.env)).all (fun x => x.1.isSome)
      && decide ([e].length + ([] : List Keyword).length + (if ([] : List Keyword).isEmpty then 0 else 1) < 30)) = true := by rfl)
    (hline : (apos.endLine == cpos.line) = true := by rfl) (hs : starEach [e] X.env = (false, eval e X.env) :: starEach [] X.env := by rfl)
    (hsw : swapsWith (.Call (.Attribute (.Name x p) "extend" apos) [e] [] cpos) none pos.line X.env = pure false := by rfl) : SimS c X (.Expr (.Call (.Attribute (.Name x p) "extend" apos) [e] [] cpos) pos) (sExt i m) := fun Wx tk =>
  PS.imp (ps_expr (pe_bm PySem.F.plainAttrs_list PySem.F.slot_list_extend PySem.F.type_list_extend mt_extend (pe_var (i := i) hN hv hd hcd) (pa_cons (he Wx tk) pa_nil hs) hbase hfew hline hs rfl) hsw) fun D σ H q => by
    obtain ⟨F, ss, s, q⟩ := q
    obtain ⟨l0, xs0, a, vs0, e1, e2, e3, r0, q1⟩ := own_first q s
    refine ⟨.ref a, e2, .inl ⟨rfl, vs0, .of e3⟩, F, ss, s, (FromS.bind (U := rF c) q1).mono fun v H1 ⟨w, F1, ss1, em, s1, u1, f1, l1, h3, hr⟩ => ?_⟩
    obtain ⟨l, xs, b, vs, e4, e5, e6, r1, q2⟩ := own_first h3 s1
    rw [e2] at e5
    cases e5
    cases w with
    | lst ys =>
      obtain ⟨b, us, eb, _, e7, r3⟩ := u1
      subst eb
      dsimp only at q2
      split at q2
      · rename_i hlen
        have r2 : RepFs c F1 H1 (xs ++ ys) (vs ++ us) := r1.app r3
        obtain ⟨s2, f2, l2⟩ := s1.write e4 e2 e6 r2
        refine ⟨a, b, vs, us, rfl, rfl, e6, e7, ?_, ?_⟩
        · rw [← r1.length, ← r3.length]
          exact sizeLine_big hlen
        · exact FromS.retE (q2.eq (n := fun _ => some (.ok .nx (ss1.set i (.own l (.lst (xs ++ ys)))))) (mbd_ok (putL_ok e4))) f2 s2 l2
      · exact (q2.no rfl).elim
    | _ => exact (q2.no rfl).elim
/-- x[k] = e, x a list -/
theorem sim_setL (i : Nat) {x : Str} {p spos : Pos} {k : Expr} {mk : M W} (he : SimE c X e m) (hk : SimE c X k mk) (hN : X.N[i]? = some x := by rfl) (hv : Vis X.env.scope x := by first | exact Or.inl rfl | exact Or.inr (Or.inl rfl) | exact Or.inr (Or.inr rfl)) (hd : (x == ("__debug__" : Str)) = false := by decide)
    (hcd : (x == ("__classdict__" : Str)) = false := by decide)
    (ha : ∀ v, assign (.Subscript (.Name x p) k spos) X.env v = (do
      let ov ← holding [v] (eval (.Name x p) X.env)
      let iv ← holding [v, ov] (eval k X.env)
      standAt spos
      holding [v, ov, iv] (setItem ov iv v)
      release [v, ov, iv] []) := by intro _; rfl)
    (hs : swapsWithSole [.Subscript (.Name x p) k spos] e pos.line X.env = pure false := by rfl) (hw : swappedStores [.Subscript (.Name x p) k spos] e X.env = pure none := by rfl)
    (h1 : (assignEach [.Subscript (.Name x p) k spos] X.env).map (·.2) = [assign (.Subscript (.Name x p) k spos) X.env] := by rfl) : SimS c X (.Assign [.Subscript (.Name x p) k spos] e pos) (sSetL i mk m) := fun Wx tk =>
  PS.imp (ps_asg (he Wx tk) (pg_sub (pe_var (i := i) hN hv hd hcd) (hk Wx tk) set_list ha) hs hw h1) fun D σ H q => by
    obtain ⟨F, ss, s, q⟩ := q
    refine ⟨F, ss, s, (FromS.bind (U := rF c) q).mono fun v H1 ⟨w, F1, ss1, em, s1, u1, f1, l1, h3, hr⟩ => ?_⟩
    obtain ⟨l0, xs0, a, vs0, e1, e2, e3, r0, q1⟩ := own_first h3 s1
    refine ⟨.ref a, e2, F1, ss1, s1, (FromS.bind (U := rF c) q1).mono fun kv H2 ⟨wk, F2, ss2, em2, s2, u2, f2, l2, h4, hr2⟩ => ?_⟩
    obtain ⟨l, xs, b, vs, e4, e5, e6, r1, q2⟩ := own_first h4 s2
    rw [e2] at e5
    cases e5
    cases wk with
    | int j =>
      dsimp only at q2
      split at q2
      · rename_i n en
        have u1' : RepF c F2 H2 w v := RepF.kp (s1.kp f2) _ _ u1
        obtain ⟨s3, f3, l3⟩ := s2.write e4 e2 e6 (r1.set (i := n) u1')
        refine ⟨a, vs, j, n, rfl, u2, e6, ?_, ?_⟩
        · rw [← r1.length]
          exact en
        · exact FromS.retE (q2.eq (n := fun _ => some (.ok .nx (ss2.set i (.own l (.lst (xs.set n w)))))) (mbd_ok (putL_ok e4))) f3 s3 l3
      · exact (q2.no rfl).elim
    | _ => exact (q2.no rfl).elim
/-- x op= e -/
theorem sim_aug {i : Nat} {x : Str} {op : Operator} {r : R2} {f : List W → Option W} {pos' : Pos} (he : SimE c X e m) (ho : OpR X (inplaceOp op) r) (ru : RuF c (r2 r) f) (hN : X.N.Nodup) (hi : X.N[i]? = some x := by rfl) (hx : Loc X.env.scope x := by first | exact Or.inl rfl | exact Or.inr rfl)
    (hf : X.fn x = true ∨ X.env.scope.names.lookup x = some .local := by first | exact .inl rfl | exact .inr rfl) : SimS c X (.AugAssign (.Name x pos') op e pos) (sAug i f m) := fun Wx tk =>
  PS.imp (ps_aug hN hi hx (he Wx tk) ho hf) fun D σ H q => by
    obtain ⟨F, ss, s, q⟩ := q
    cases e0 : ss[i]? with
    | none => exact (q.no (by unfold sAug; rw [e0])).elim
    | some t =>
      cases t with
      | fr l w =>
        cases l with
        | true => exact (q.no (by unfold sAug; rw [e0])).elim
        | false =>
          have q : FromS c (mbd m fun y => mbd (lift (f [w, y])) fun z => mbd (VI.store i (.fr false z)) fun _ => mret .nx) Wx σ F H ss D := q.eq (by unfold sAug; rw [e0])
          obtain ⟨ov, e1, v, e2, rv⟩ := s.get e0
          subst e2
          refine ⟨v, e1, F, ss, s, (FromS.bind (U := rF c) q).mono fun y H1 ⟨wy, F1, ss1, em, s1, u1, f1, l1, h3, hr⟩ => ?_⟩
          cases ef : f [w, wy] with
          | none => exact (h3.no (by unfold mbd lift; rw [ef]; rfl)).elim
          | some z =>
            have h4 : FromS c (mbd (VI.store i (.fr false z)) fun _ => mret .nx) Wx σ F1 H1 ss1 D := h3.eq (mbd_ok (m := lift (f [w, wy])) (a := z) (by unfold lift; rw [ef]; rfl))
            obtain ⟨t, et⟩ := store_there h4
            obtain ⟨ft, h5⟩ := h4.store et
            refine ru F1 H1 [v, y] [w, wy] z _ s1.liv ⟨v, [y], rfl, .inl (RepF.kp (s.kp f1) _ _ rv), y, [], rfl, .inl u1, rfl⟩ ef fun zv H2 e2 r2 => ?_
            obtain ⟨s2, sub⟩ := (s1.ext e2).put (i := i) r2
            exact h5.retE (e2.fm.trans (Fm.sub sub)) s2 (.put et ft)
      | _ => exact (q.no (by unfold sAug; rw [e0])).elim
end
end VI

set_option Elab.async false
set_option linter.all false
set_option maxRecDepth 100000
set_option maxHeartbeats 1000000
/-! VI, part 11: locks, iterators, loops. -/
namespace VI
open PySem L2
section
variable {c : Cn} {X : Cx} {Wx : WX} {σ σ' : L2.St} {F F' : Addr → Prop} {H H' : Hp} {ss ss' : Slots} {D : Ends} {e : Expr} {m : M W} {pos : Pos}
/-! ### locks -/
theorem SR.lock (s : SR c F H σ ss) {i : Nat} {l : Bool} {w : W} (e : ss[i]? = some (.own l w)) : ∃ a, σ[i]? = some (some (.ref a)) ∧ OwnAt c F H a w ∧ ¬ F a ∧ ¬ OwnA σ (ss.set i (.lk w)) a ∧ ¬ LkA σ ss a ∧ SR c F H σ (ss.set i (.lk w)) ∧ ∀ b, OwnA σ (ss.set i (.lk w)) b → OwnA σ ss b := by
  obtain ⟨ov, e1, a, e2, ow⟩ := s.get e
  subst e2
  have hO : OwnA σ ss a := ⟨i, _, e, rfl, e1⟩
  have sub : ∀ b, OwnA σ (ss.set i (.lk w)) b → OwnA σ ss b := fun b ⟨j, t, h1, h2, h3⟩ => by
    rcases get_set h1 with ⟨rfl, rfl⟩ | ⟨_, h1⟩
    · cases h2
    · exact ⟨j, t, h1, h2, h3⟩
  have nA : ¬ OwnA σ (ss.set i (.lk w)) a := fun ⟨j, t, h1, h2, h3⟩ => by
    rcases get_set h1 with ⟨rfl, rfl⟩ | ⟨n, h1⟩
    · cases h2
    · exact n (s.inj j i t _ a h1 e h2 rfl h3 e1)
  refine ⟨a, e1, ow, s.nf a hO, nA, fun z => s.lk a z hO, ⟨by rw [List.length_set]; exact s.len, fun j t ov h1 h2 => ?_, fun b hb => s.nf b (sub b hb), fun j k t u b h1 h2 h3 h4 h5 h6 => ?_, fun b hl hb => ?_, s.live⟩, sub⟩
  · rcases get_set h1 with ⟨rfl, rfl⟩ | ⟨_, h1⟩
    · rw [e1] at h2
      cases h2
      exact ⟨_, rfl, .inr ⟨a, rfl, ow⟩⟩
    · exact s.rel j t ov h1 h2
  · rcases get_set h1 with ⟨rfl, rfl⟩ | ⟨_, h1⟩
    · cases h3
    · rcases get_set h2 with ⟨rfl, rfl⟩ | ⟨_, h2⟩
      · cases h4
      · exact s.inj j k t u b h1 h2 h3 h4 h5 h6
  · obtain ⟨j, w', h1, h2, h3⟩ := hl
    rcases get_set h1 with ⟨rfl, z⟩ | ⟨n, h1⟩
    · rw [e1] at h3
      cases h3
      exact nA hb
    · exact s.lk b ⟨j, w', h1, h2, h3⟩ (sub b hb)
theorem OwnAt.keep {a : Addr} {w : W} (h : OwnAt c F H a w) (k : Kp F F' H H') (e : ∀ o, H a = some o → NoTb o → H' a = some o) : OwnAt c F' H' a w := by
  cases w with
  | lst ws =>
    obtain ⟨vs, h1, h2⟩ := h
    exact ⟨vs, e _ h1 (fun _ z => by cases z), RepFs.kp k _ _ h2⟩
  | dct ks ws =>
    obtain ⟨vs, ⟨⟨u, h1, m, n⟩, h3⟩, h2⟩ := h
    refine ⟨vs, ⟨⟨u, e _ h1 (noTb_mut m), m, n⟩, ?_⟩, RepFs.kp k _ _ h2⟩
    rcases h3 with ⟨kvs, h3 | ⟨o, h3⟩, r⟩ | ⟨kvs, h3 | ⟨o, h3⟩, r⟩
    · exact .inl ⟨kvs, .inl (e _ h3 (fun _ z => by cases z)), r⟩
    · exact .inl ⟨kvs, .inr ⟨o, e _ h3 (fun _ z => by cases z)⟩, r⟩
    · exact .inr ⟨kvs, .inl (e _ h3 (fun _ z => by cases z)), r⟩
    · exact .inr ⟨kvs, .inr ⟨o, e _ h3 (fun _ z => by cases z)⟩, r⟩
  | _ => exact h.elim
/-- the lock is taken away -/
theorem SR.unlock (s : SR c F H σ ss) {i : Nat} {l : Bool} {w : W} (e : ss[i]? = some (.own l w)) (s' : SR c F' H' σ' ss') (f : Fm F H (OwnA σ (ss.set i (.lk w))) F' H' (OwnA σ' ss')) (ln : Ln σ (ss.set i (.lk w)) σ' ss') :
    SR c F' H' σ' (ss'.set i (.own l w)) ∧ Fm F H (OwnA σ ss) F' H' (OwnA σ' (ss'.set i (.own l w))) ∧ Ln σ ss σ' (ss'.set i (.own l w)) := by
  obtain ⟨a, e1, ow, nF, nO, nL, sl, sub⟩ := s.lock e
  have hl := (List.getElem?_eq_some_iff.mp e).1
  have el : (ss.set i (.lk w))[i]? = some (.lk w) := List.getElem?_set_self hl
  obtain ⟨eσ, t, et, nt⟩ := ln.st i _ el rfl
  have et : ss'[i]? = some (.lk w) := by
    rw [et]
    exact congrArg some nt
  have hl' := (List.getElem?_eq_some_iff.mp et).1
  rw [e1] at eσ
  obtain ⟨u, hu, mu, _⟩ := ow.mut
  have ow' : OwnAt c F' H' a w := ow.keep (sl.kp f) fun o h t => f.keep a o h nO t
  have nF' : ¬ F' a := fun z => by
    rcases f.fnew a z with z | z | z
    · exact nF z
    · exact nO z
    · exact z.no hu (noTb_mut mu)
  have nO' : ¬ OwnA σ' ss' a := fun z => by
    rcases f.onew a z with z | z
    · exact nO z
    · exact z.no hu (noTb_mut mu)
  have sub' : ∀ b, OwnA σ' (ss'.set i (.own l w)) b → OwnA σ' ss' b ∨ b = a := fun b ⟨j, t, h1, h2, h3⟩ => by
    rcases get_set h1 with ⟨rfl, rfl⟩ | ⟨_, h1⟩
    · rw [eσ] at h3
      cases h3
      exact .inr rfl
    · exact .inl ⟨j, t, h1, h2, h3⟩
  have old : ∀ b, LkA σ' (ss'.set i (.own l w)) b → LkA σ ss b ∧ LkA σ' ss' b := fun b ⟨j, w', h1, h2, h3⟩ => by
    rcases get_set h1 with ⟨_, z⟩ | ⟨n, h1⟩
    · cases z
    · have h4 := ln.lk j w' h1
      have e4 := (ln.st j _ h4 rfl).1
      rcases get_set h4 with ⟨z, _⟩ | ⟨_, h4⟩
      · exact absurd z n
      · exact ⟨⟨j, w', h4, h2, by rw [← e4]; exact h3⟩, ⟨j, w', h1, h2, h3⟩⟩
  refine ⟨⟨by rw [List.length_set]; exact s'.len, fun j t ov h1 h2 => ?_, fun b hb => ?_, fun j k t u b h1 h2 h3 h4 h5 h6 => ?_, fun b hl hb => ?_, s'.live⟩, ⟨fun b o h n t => f.keep b o h (fun z => n (sub b z)) t, f.live, f.mono, fun b h => ?_, fun b h => ?_⟩, ⟨fun j t h1 hf => ?_, fun j w' h1 => ?_⟩⟩
  · rcases get_set h1 with ⟨rfl, rfl⟩ | ⟨_, h1⟩
    · rw [eσ] at h2
      cases h2
      exact ⟨a, rfl, ow'⟩
    · exact s'.rel j t ov h1 h2
  · rcases sub' b hb with h | rfl
    · exact s'.nf b h
    · exact nF'
  · rcases get_set h1 with ⟨z1, _⟩ | ⟨n1, g1⟩
    · rcases get_set h2 with ⟨z2, _⟩ | ⟨n2, g2⟩
      · rw [z1, z2]
      · rw [z1, eσ] at h5
        cases h5
        exact absurd ⟨k, u, g2, h4, h6⟩ nO'
    · rcases get_set h2 with ⟨z2, _⟩ | ⟨n2, g2⟩
      · rw [z2, eσ] at h6
        cases h6
        exact absurd ⟨j, t, g1, h3, h5⟩ nO'
      · exact s'.inj j k t u b g1 g2 h3 h4 h5 h6
  · obtain ⟨o1, o2⟩ := old b hl
    rcases sub' b hb with h | rfl
    · exact s'.lk b o2 h
    · exact nL o1
  · rcases f.fnew b h with h | h | h
    · exact .inl h
    · exact .inr (.inl (sub b h))
    · exact .inr (.inr h)
  · rcases sub' b h with h | rfl
    · exact (f.onew b h).imp (sub b) id
    · exact .inl ⟨i, _, e, rfl, e1⟩
  · by_cases z : j = i
    · subst z
      rw [e] at h1
      cases h1
      exact ⟨eσ.trans e1.symm, _, List.getElem?_set_self hl', Nfr.refl hf⟩
    · obtain ⟨e5, t', e6, n6⟩ := ln.st j t (by rw [List.getElem?_set_ne (Ne.symm z)]; exact h1) hf
      exact ⟨e5, t', by rw [List.getElem?_set_ne (Ne.symm z)]; exact e6, n6⟩
  · rcases get_set h1 with ⟨_, z⟩ | ⟨n, h1⟩
    · cases z
    · have h4 := ln.lk j w' h1
      rcases get_set h4 with ⟨z, _⟩ | ⟨_, h4⟩
      · exact absurd z n
      · exact h4
theorem lockd_own {α : Type} {m : M α} {i : Nat} {l : Bool} {w : W} (e : ss[i]? = some (.own l w)) : lockd i m ss = match m (ss.set i (.lk w)) with
    | none => none
    | some (.ok a s) => some (.ok a (s.set i (.own l w)))
    | some (.exc k v s) => some (.exc k v (s.set i (.own l w))) := by
  unfold lockd
  rw [e] <;> rfl
theorem lockd_not {α : Type} {m : M α} {i : Nat} (h : ∀ l w, ss[i]? ≠ some (.own l w)) : lockd i m ss = m ss := by
  unfold lockd
  split
  · rename_i l w e
    exact absurd e (h l w)
  · rfl
/-- lists and dicts that are busy behind the lock are busy within it -/
theorem busy_unlock {i : Nat} {l : Bool} {w : W} {a : Addr} (ew : ss'[i]? = some (.lk w)) (m : isMut w = true) (h : Busy σ (ss'.set i (.own l w)) a) : Busy σ ss' a := by
  rcases h with ⟨j, t, h1, h2, h3⟩ | ⟨j, w', h1, h2, h3⟩
  · rcases get_set h1 with ⟨rfl, rfl⟩ | ⟨_, h1⟩
    · exact .inr ⟨j, w, ew, m, h3⟩
    · exact .inl ⟨j, t, h1, h2, h3⟩
  · rcases get_set h1 with ⟨_, z⟩ | ⟨_, h1⟩
    · cases z
    · exact .inr ⟨j, w', h1, h2, h3⟩
theorem FromS.lockd {m : M Flow} {i : Nat} (s : SR c F H σ ss) (h : FromS c (VI.lockd i m) Wx σ F H ss D) : ∃ sl, SR c F H σ sl ∧ FromS c m Wx σ F H sl D := by
  by_cases own : ∃ l w, ss[i]? = some (.own l w)
  · obtain ⟨l, w, e⟩ := own
    obtain ⟨a, e1, ow, nF, nO, nL, sl, sub⟩ := s.lock e
    refine ⟨_, sl, ?_⟩
    have hl := (List.getElem?_eq_some_iff.mp e).1
    have ez := lockd_own (m := m) e
    cases em : m (ss.set i (.lk w)) with
    | none =>
      rw [em] at ez
      exact (h.no ez).elim
    | some r =>
      rw [em] at ez
      cases r with
      | exc k v s2 =>
        rcases h with ⟨f, s3, e3, q⟩ | ⟨k', v', s3, e3, q⟩
        · rw [ez] at e3
          cases e3
        · rw [ez] at e3
          cases e3
          refine .inr ⟨k, v, s2, em, fun cls d σ' F' H' f' sr' l' x => ?_⟩
          obtain ⟨g1, g2, g3⟩ := s.unlock e sr' f' l'
          exact q cls d σ' F' H' g2 g1 g3 x
      | ok fl s2 =>
        rcases h with ⟨f, s3, e3, q⟩ | ⟨k', v', s3, e3, q⟩
        · rw [ez] at e3
          cases e3
          refine .inl ⟨fl, s2, em, fun σ' F' H' f' sr' l' => ?_⟩
          obtain ⟨g1, g2, g3⟩ := s.unlock e sr' f' l'
          have z := q σ' F' H' g2 g1 g3
          cases fl with
          | nx => exact z
          | brk => exact z
          | cont => exact z
          | ret o w' =>
            refine fun v r => z v ?_
            have el : (ss.set i (.lk w))[i]? = some (.lk w) := List.getElem?_set_self hl
            obtain ⟨eσ, t, et, nt⟩ := l'.st i _ el rfl
            have et : s2[i]? = some (.lk w) := by
              rw [et]
              exact congrArg some nt
            unfold RetR at r ⊢
            split at r
            · rename_i y
              rw [if_pos y]
              obtain ⟨b, e5, n5, o5, q5⟩ := r
              refine ⟨b, e5, n5, o5, ?_⟩
              rcases q5 with ⟨q5, q6⟩ | ⟨j, w6, q5, q6⟩
              · exact .inl ⟨q5, fun y => q6 (busy_unlock et ow.mutW y)⟩
              · refine .inr ⟨j, w6, ?_, q6⟩
                rw [List.getElem?_set_ne fun y => ?_]
                · exact q5
                · rw [← y, et] at q5
                  cases q5
            · rename_i y
              rw [if_neg y]
              exact r
        · rw [ez] at e3
          cases e3
  · exact ⟨ss, s, h.eq (lockd_not fun l w z => own ⟨l, w, z⟩)⟩
theorem sim_lock {st : Stmt} {m : M Flow} (i : Nat) (h : SimS c X st m) : SimS c X st (VI.lockd i m) := fun Wx tk => PS.imp (h Wx tk) fun D σ H q => by
  obtain ⟨F, ss, s, q⟩ := q
  obtain ⟨sl, s1, q1⟩ := q.lockd s
  exact ⟨F, sl, s1, q1⟩
/-- how a value is told behind the lock -/
def Lks {α β : Type} (T : Rl α β) : Prop := ∀ (B B' : Bz) F H H' a b, (∀ x, B.own x ∨ B.lk x → B'.own x ∨ B'.lk x) → T B' F H H' a b → T B F H H' a b
theorem lks_F : Lks (rF c) := fun _ _ _ _ _ _ _ _ h => h
theorem lks_B : Lks rB := fun _ _ _ _ _ _ _ _ h => h
theorem lks_O : Lks (rO c) := fun B B' F H H' w v k h => by
  cases w with
  | lst ws =>
    obtain ⟨a, e, n, nF, nB, r⟩ := h
    exact ⟨a, e, n, nF, fun z => nB (k a z), r⟩
  | dct ks ws =>
    obtain ⟨a, e, n, nF, nB, r⟩ := h
    exact ⟨a, e, n, nF, fun z => nB (k a z), r⟩
  | _ => exact h
theorem From.lockd {α β : Type} {m : M α} {T : Rl α β} {Q : β → Hp → Prop} {i : Nat} (hT : Lks T) (s : SR c F H σ ss) (h : From c (VI.lockd i m) T Wx σ F H ss Q) : ∃ sl, SR c F H σ sl ∧ From c m T Wx σ F H sl Q := by
  by_cases own : ∃ l w, ss[i]? = some (.own l w)
  · obtain ⟨l, w, e⟩ := own
    obtain ⟨a, e1, ow, nF, nO, nL, sl, sub⟩ := s.lock e
    refine ⟨_, sl, ?_⟩
    have hl := (List.getElem?_eq_some_iff.mp e).1
    have ez := lockd_own (m := m) e
    cases em : m (ss.set i (.lk w)) with
    | none =>
      rw [em] at ez
      rcases h with ⟨f, s3, e3, q⟩ | ⟨k', v', s3, e3, q⟩ <;> rw [ez] at e3 <;> cases e3
    | some r =>
      rw [em] at ez
      cases r with
      | exc k v s2 =>
        rcases h with ⟨f, s3, e3, q⟩ | ⟨k', v', s3, e3, q⟩
        · rw [ez] at e3
          cases e3
        · rw [ez] at e3
          cases e3
          refine .inr ⟨k, v, s2, em, fun cls d F' H' f' sr' l' x => ?_⟩
          obtain ⟨g1, g2, g3⟩ := s.unlock e sr' f' l'
          exact q cls d F' H' g2 g1 g3 x
      | ok a2 s2 =>
        rcases h with ⟨f, s3, e3, q⟩ | ⟨k', v', s3, e3, q⟩
        · rw [ez] at e3
          cases e3
          refine .inl ⟨a2, s2, em, fun b F' H' f' sr' l' t => ?_⟩
          obtain ⟨g1, g2, g3⟩ := s.unlock e sr' f' l'
          have el : (ss.set i (.lk w))[i]? = some (.lk w) := List.getElem?_set_self hl
          obtain ⟨eσ, t', et, nt⟩ := l'.st i _ el rfl
          have et : s2[i]? = some (.lk w) := by
            rw [et]
            exact congrArg some nt
          exact q b F' H' g2 g1 g3 (hT (BZ σ (s2.set i (.own l w))) (BZ σ s2) _ _ _ _ _ (fun x y => (busy_unlock (l := l) et ow.mutW y : Busy σ s2 x)) t)
        · rw [ez] at e3
          cases e3
  · refine ⟨ss, s, ?_⟩
    have z := lockd_not (m := m) (i := i) (ss := ss) fun l w z => own ⟨l, w, z⟩
    unfold From at h ⊢
    rw [z] at h
    exact h
theorem sim_lockE (i : Nat) (h : SimE c X e m) : SimE c X e (VI.lockd i m) := fun Wx tk => PE.imp (h Wx tk) fun σ H Q q => by
  obtain ⟨F, ss, s, q⟩ := q
  obtain ⟨sl, s1, q1⟩ := q.lockd lks_F s
  exact ⟨F, sl, s1, q1⟩
theorem sim_lockO (i : Nat) (h : SimO c X e m) : SimO c X e (VI.lockd i m) := fun Wx tk => PE.imp (h Wx tk) fun σ H Q q => by
  obtain ⟨F, ss, s, q⟩ := q
  obtain ⟨sl, s1, q1⟩ := q.lockd lks_O s
  exact ⟨F, sl, s1, q1⟩
/-! ### what nobody changes -/
def rK (c : Cn) : Rl W V := fun B F' _ H' w v => RepF c F' H' w v ∨ ∃ a, v = .ref a ∧ OwnAt c F' H' a w ∧ ¬ B.own a
theorem early_K {c : Cn} : Early (rK c) := fun _ _ _ _ _ _ _ _ h => h
def SimK (c : Cn) (X : Cx) (e : Expr) (m : M W) : Prop := ∀ Wx, Takes X Wx → PE X e (tM c m (rK c) Wx)
theorem tM_T {α β : Type} {m : M α} {T T' : Rl α β} {Q : β → Hp → Prop} (h : tM c m T' Wx σ H Q) (k : ∀ B F H H' a b, T B F H H' a b → T' B F H H' a b) : tM c m T Wx σ H Q := by
  obtain ⟨F, ss, s, q⟩ := h
  refine ⟨F, ss, s, ?_⟩
  rcases q with ⟨a, s', e, q⟩ | q
  · exact .inl ⟨a, s', e, fun b F' H' h1 h2 h3 h4 => q b F' H' h1 h2 h3 (k _ _ _ _ _ _ h4)⟩
  · exact .inr q
theorem sim_K (h : SimE c X e m) : SimK c X e m := fun Wx tk => PE.imp (h Wx tk) fun σ H Q q => tM_T q fun _ _ _ _ _ _ z => .inl z
theorem sim_lk (i : Nat) {x : Str} (hN : X.N[i]? = some x := by rfl) (hv : Vis X.env.scope x := by first | exact Or.inl rfl | exact Or.inr (Or.inl rfl) | exact Or.inr (Or.inr rfl)) (hd : (x == ("__debug__" : Str)) = false := by decide)
    (hcd : (x == ("__classdict__" : Str)) = false := by decide) : SimK c X (.Name x pos) (eLk i) := fun Wx _ => PE.imp (pe_var hN hv hd hcd) fun σ H Q h => by
  obtain ⟨F, ss, s, h⟩ := h
  unfold From eLk at h
  cases e : ss[i]? with
  | none =>
    rw [e] at h
    rcases h with ⟨a, s', z, _⟩ | ⟨j, w, s', z, _⟩ <;> cases z
  | some t =>
    rw [e] at h
    cases t with
    | no => rcases h with ⟨a, s', z, _⟩ | ⟨j, w, s', z, _⟩ <;> cases z
    | own l w => rcases h with ⟨a, s', z, _⟩ | ⟨j, w, s', z, _⟩ <;> cases z
    | fr l w =>
      obtain ⟨ov, e1, v, e2, r⟩ := s.get e
      subst e2
      rcases h with ⟨a, s', z, q⟩ | ⟨j, w', s', z, _⟩
      · cases z
        exact ⟨v, e1, q v F H .refl s .refl (.inl r)⟩
      · cases z
    | lk w =>
      obtain ⟨ov, e1, v, e2, r⟩ := s.get e
      subst e2
      rcases h with ⟨a, s', z, q⟩ | ⟨j, w', s', z, _⟩
      · cases z
        refine ⟨v, e1, q v F H .refl s .refl ?_⟩
        rcases r with r | ⟨a, ev, ow⟩
        · exact .inl r
        · subst ev
          exact .inr ⟨a, rfl, ow, fun z => s.lk a ⟨i, w, e, ow.mutW, e1⟩ z⟩
      · cases z
/-! ### what a loop walks -/
/-- J walks ws, from now on -/
def Wk (c : Cn) (O F : Addr → Prop) (H : Hp) (ws : List W) (J : It) : Prop := ∃ (G : Hp → Prop) (Y : Nat → Hp → V → Hp → Prop), Walk J ws.length G Y ∧
  ∀ (F2 : Addr → Prop) (H2 : Hp) (O2 : Addr → Prop), Fm F H O F2 H2 O2 → Kp F F2 H H2 → G H2 ∧ ∀ (i : Nat) (x : V) (H3 : Hp), i < ws.length → Y i H2 x H3 → Ext H2 H3 ∧ ∃ w, ws[i]? = some w ∧ RepF c F2 H3 w x
def rI (c : Cn) : Rl (List W) It := fun B F' _ H' ws J => Wk c B.own F' H' ws J
theorem early_I {c : Cn} : Early (rI c) := fun _ _ _ _ _ _ _ _ h => h
def SimI (c : Cn) (X : Cx) (tg iter : Expr) (it : M (List W)) : Prop := ∀ Wx, Takes X Wx → PI X tg iter (tM c it (rI c) Wx)
theorem PI.imp {X : Cx} {tg e : Expr} {t t' : TI} (h : PI X tg e t) (k : ∀ σ H Q, t' σ H Q → t σ H Q) : PI X tg e t' := ⟨fun pins s σ H Q I q => h.run pins s σ H Q I (k σ H Q q)⟩
theorem PI.or {X : Cx} {tg e : Expr} {t t' : TI} (h : PI X tg e t) (h' : PI X tg e t') : PI X tg e (fun σ H Q => t σ H Q ∨ t' σ H Q) := ⟨fun pins s σ H Q I q => q.elim (h.run pins s σ H Q I) (h'.run pins s σ H Q I)⟩
theorem iter_read {ws : List W} {Q : It → Hp → Prop} (h : From c (lift (items (.lst ws))) (rI c) Wx σ F H ss Q) (s : SR c F H σ ss) {J : It} (k : Wk c (OwnA σ ss) F H ws J) : Q J H := by
  obtain ⟨a, e, q⟩ := From.lift h
  cases e
  exact q J F H .refl s k
def WkOf (c : Cn) (O F : Addr → Prop) (H : Hp) (v : V) (ws : List W) : W → Prop
  | .tup _ => ∃ a, v = .ref a ∧ (∃ xs, SqT c.K H a xs) ∧ Wk c O F H ws (Itt c.K a)
  | .str _ => ∃ z, v = .str z ∧ Wk c O F H ws (Its z)
  | _ => ∃ a, v = .ref a ∧ (∃ xs, SqL c.K H a xs) ∧ Wk c O F H ws (Itl c.K a)
theorem wk_lst {a : Addr} {vs : List V} {xs : List W} {O : Addr → Prop} (h1 : H a = some (.lst vs)) (h2 : RepFs c F H xs vs) (h3 : F a ∨ ¬ O a) : Wk c O F H xs (Itl c.K a) := by
  refine ⟨fun H2 => SqL c.K H2 a vs, YAt vs, by rw [h2.length]; exact walk_list, fun F2 H2 O2 f k => ⟨.inl (.inl ?_), fun i x H3 hi y => ?_⟩⟩
  · rcases h3 with h3 | h3
    · exact k.at_ a _ h1 (.inl h3)
    · exact f.keep a _ h1 h3 (fun _ z => by cases z)
  · obtain ⟨rfl, y⟩ := y
    exact ⟨.refl _, (RepFs.kp k _ _ h2).getV y⟩
theorem wk_tup {a : Addr} {vs : List V} {xs : List W} {O : Addr → Prop} (h1 : SqT c.K H a vs) (h2 : RepFs c F H xs vs) : Wk c O F H xs (Itt c.K a) := by
  refine ⟨fun H2 => SqT c.K H2 a vs, YAt vs, by rw [h2.length]; exact walk_tup, fun F2 H2 O2 f k => ⟨k.tup h1, fun i x H3 hi y => ?_⟩⟩
  obtain ⟨rfl, y⟩ := y
  exact ⟨.refl _, (RepFs.kp k _ _ h2).getV y⟩
theorem wk_scr {a : Addr} {ns : List Int} {O : Addr → Prop} (r : (∃ o, H a = some (.frz o (.lst (ns.map V.int)))) ∨ SqL c.K (fun _ => none) a (ns.map V.int)) : SqL c.K H a (ns.map V.int) ∧ Wk c O F H (ns.map .int) (Itl c.K a) := by
  have any : ∀ F2 H2, Kp F F2 H H2 → SqL c.K H2 a (ns.map V.int) := fun F2 H2 k => by
    rcases r with ⟨o, r⟩ | r
    · exact .inl (.inr ⟨o, k.at_ a _ r (.inr (.inr ⟨_, _, rfl⟩))⟩)
    · rcases r with (r | ⟨o, r⟩) | r
      · cases r
      · cases r
      · exact .inr r
  refine ⟨any F H .refl, fun H2 => SqL c.K H2 a (ns.map V.int), YAt (ns.map V.int), ?_, fun F2 H2 O2 f k => ⟨any F2 H2 k, fun i x H3 hi y => ?_⟩⟩
  · rw [show (ns.map W.int).length = (ns.map V.int).length by rw [List.length_map, List.length_map]]
    exact walk_list
  · obtain ⟨rfl, y⟩ := y
    refine ⟨.refl _, ?_⟩
    rw [List.getElem?_map] at y
    cases en : ns[i]? with
    | none =>
      rw [en] at y
      cases y
    | some n =>
      rw [en] at y
      cases y
      exact ⟨.int n, by rw [List.getElem?_map, en]; rfl, rfl⟩
/-- a list, a tuple or a text that is walked -/
theorem wk_seq {w : W} {v : V} {ws : List W} {O : Addr → Prop} (e : items w = some ws) (r : RepF c F H w v ∨ ∃ a, v = .ref a ∧ OwnAt c F H a w ∧ ¬ O a) : WkOf c O F H v ws w := by
  cases w with
  | lst xs =>
    cases e
    rcases r with ⟨a, vs, ev, hF, h1, h2⟩ | ⟨a, ev, ⟨vs, h1, h2⟩, nO⟩
    · exact ⟨a, ev, ⟨vs, .inl (.inl h1)⟩, wk_lst h1 h2 (.inl hF)⟩
    · exact ⟨a, ev, ⟨vs, .inl (.inl h1)⟩, wk_lst h1 h2 (.inr nO)⟩
  | tup xs =>
    cases e
    rcases r with ⟨a, vs, ev, h1, h2⟩ | ⟨a, ev, z, _⟩
    · exact ⟨a, ev, ⟨vs, h1⟩, wk_tup h1 h2⟩
    · exact z.elim
  | str l =>
    cases e
    rcases r with r | ⟨a, ev, z, _⟩
    · refine ⟨_, r, fun _ => True, _, by rw [List.length_map]; exact walk_str (z := mkS l), fun F2 H2 O2 f k => ⟨trivial, fun i x H3 hi y => ?_⟩⟩
      obtain ⟨rfl, ch, e1, e2⟩ := y
      refine ⟨.refl _, .str [ch], ?_, e2⟩
      rw [List.getElem?_map]
      have e1 : l.toArray[i]? = some ch := e1
      rw [List.getElem?_toArray] at e1
      rw [e1]
      rfl
    · exact z.elim
  | scr ns =>
    cases e
    rcases r with ⟨a, ev, r⟩ | ⟨a, ev, z, _⟩
    · obtain ⟨h1, h2⟩ := wk_scr (O := O) (F := F) r
      exact ⟨a, ev, ⟨_, h1⟩, h2⟩
    · exact z.elim
  | _ => cases e
theorem simI_ev {tg : Expr} (h : SimK c X e m) (hK : X.K = c.K := by rfl) : SimI c X tg e (iEv m) := fun Wx tk => by
  refine PI.imp (PI.or (pi_list (h Wx tk)) (PI.or (pi_tup (h Wx tk)) (pi_str (h Wx tk)))) fun σ H Q q => ?_
  rw [hK]
  obtain ⟨F, ss, s, q⟩ := q
  have q1 := From.bind (U := rK c) early_I q
  rcases q1 with ⟨w, ss1, em, q1⟩ | ⟨k, w, ss1, em, q1⟩
  · have go : ∀ (v : V) (F1 : Addr → Prop) (H1 : Hp), Fm F H (OwnA σ ss) F1 H1 (OwnA σ ss1) → SR c F1 H1 σ ss1 → Ln σ ss σ ss1 → rK c (BZ σ ss1) F1 H H1 w v → ∃ F2 ws, WkOf c (OwnA σ ss1) F2 H1 v ws w ∧ ∀ J, Wk c (OwnA σ ss1) F2 H1 ws J → Q J H1 := fun v F1 H1 f1 s1 l1 t1 => by
      obtain ⟨w', F2, ss2, em2, s2, u2, f2, l2, h2⟩ := q1 v F1 H1 f1 s1 l1 t1
      rw [em] at em2
      cases em2
      obtain ⟨ws, ew, k⟩ := From.lift h2
      exact ⟨F2, ws, wk_seq ew u2, fun J wk => k J F2 H1 .refl s2 wk⟩
    cases w with
    | tup xs =>
      refine .inr (.inl ⟨F, ss, s, .inl ⟨_, ss1, em, fun v F1 H1 f1 s1 l1 t1 => ?_⟩⟩)
      obtain ⟨F2, ws, ⟨a, ev, ex, wk⟩, k⟩ := go v F1 H1 f1 s1 l1 t1
      exact ⟨a, ev, ex, k _ wk⟩
    | str l =>
      refine .inr (.inr ⟨F, ss, s, .inl ⟨_, ss1, em, fun v F1 H1 f1 s1 l1 t1 => ?_⟩⟩)
      obtain ⟨F2, ws, ⟨a, ev, wk⟩, k⟩ := go v F1 H1 f1 s1 l1 t1
      exact ⟨a, ev, k _ wk⟩
    | _ =>
      refine .inl ⟨F, ss, s, .inl ⟨_, ss1, em, fun v F1 H1 f1 s1 l1 t1 => ?_⟩⟩
      obtain ⟨F2, ws, ⟨a, ev, ex, wk⟩, k⟩ := go v F1 H1 f1 s1 l1 t1
      exact ⟨a, ev, ex, k _ wk⟩
  · exact .inl ⟨F, ss, s, .inr ⟨k, w, ss1, em, q1⟩⟩
theorem upto_get : ∀ {n : Nat} {lo : Int} {i : Nat}, i < n → (upto lo n)[i]? = some (.int (lo + i))
  | n + 1, lo, 0, _ => by
    unfold upto
    simp
  | n + 1, lo, i + 1, h => by
    unfold upto
    rw [List.getElem?_cons_succ, upto_get (by omega)]
    congr 2
    omega
theorem upto_len : ∀ {n : Nat} {lo : Int}, (upto lo n).length = n
  | 0, _ => rfl
  | n + 1, lo => by
    unfold upto
    rw [List.length_cons, upto_len]
theorem wk_range {lo : Int} {n : Nat} {O : Addr → Prop} : Wk c O F H (upto lo n) (Itr lo n) := by
  refine ⟨fun _ => True, YFn fun i => .int (lo + i), by rw [upto_len]; exact walk_range, fun F2 H2 O2 f k => ⟨trivial, fun i x H3 hi y => ?_⟩⟩
  obtain ⟨rfl, rfl⟩ := y
  rw [upto_len] at hi
  exact ⟨.refl _, _, upto_get hi, rfl⟩
theorem rangeOk_le {i : Int} (h : rangeOk i = true) : -(2 ^ 62) ≤ i ∧ i < 2 ^ 62 := by
  unfold rangeOk at h
  rw [Bool.and_eq_true, decide_eq_true_iff, decide_eq_true_iff] at h
  obtain ⟨a, b⟩ := h
  constructor <;> omega
theorem simI_range1 {tg : Expr} {p : Pos} {a : Expr} {m : M W} (hm : X.mg "range" = none) (h : SimE c X a m) (hg : Gl X "range" := by rfl) (hs : starEach [a] X.env = [(false, eval a X.env)] := by rfl) : SimI c X tg (.Call (.Name "range" p) [a] [] pos) (iRange1 m) := fun Wx tk => by
  refine PI.imp (pi_range1 hg hm (pa_cons (h Wx tk) pa_nil hs) hs) fun σ H Q q => ?_
  obtain ⟨F, ss, s, q⟩ := q
  refine ⟨F, ss, s, (From.bind (U := rF c) early_I q).mono fun v H1 ⟨w, F1, ss1, em, s1, u1, f1, l1, h1⟩ => ?_⟩
  obtain ⟨ws, ew, k⟩ := From.lift h1
  cases w with
  | int n =>
    dsimp only at ew
    split at ew
    · rename_i hr
      cases ew
      obtain ⟨r1, r2⟩ := rangeOk_le hr
      have ev : v = .int n := u1
      subst ev
      exact ⟨n, rfl, r1, r2, k _ F1 H1 .refl s1 wk_range⟩
    · cases ew
  | _ => cases ew
theorem simI_range2 {tg : Expr} {p : Pos} {a b : Expr} {m n : M W} (hm : X.mg "range" = none) (h : SimE c X a m) (h' : SimE c X b n) (hg : Gl X "range" := by rfl) (hs : starEach [a, b] X.env = [(false, eval a X.env), (false, eval b X.env)] := by rfl) (hs2 : starEach [b] X.env = [(false, eval b X.env)] := by rfl) :
    SimI c X tg (.Call (.Name "range" p) [a, b] [] pos) (iRange2 m n) := fun Wx tk => by
  refine PI.imp (pi_range2 hg hm (pa_cons (h Wx tk) (pa_cons (h' Wx tk) pa_nil hs2) (by rw [hs, hs2])) hs hs2) fun σ H Q q => ?_
  obtain ⟨F, ss, s, q⟩ := q
  refine ⟨F, ss, s, (From.bind (U := rF c) early_I q).mono fun v H1 ⟨w, F1, ss1, em, s1, u1, f1, l1, h1⟩ => ?_⟩
  refine ⟨F1, ss1, s1, (From.bind (U := rF c) early_I h1).mono fun v' H2 ⟨w', F2, ss2, em2, s2, u2, f2, l2, h2⟩ => ?_⟩
  obtain ⟨ws, ew, k⟩ := From.lift h2
  cases w with
  | int i =>
    cases w' with
    | int j =>
      dsimp only at ew
      split at ew
      · rename_i hr
        rw [Bool.and_eq_true] at hr
        cases ew
        obtain ⟨r1, r2⟩ := rangeOk_le hr.1
        obtain ⟨r3, r4⟩ := rangeOk_le hr.2
        have ev : v = .int i := u1
        subst ev
        have ev : v' = .int j := u2
        subst ev
        exact ⟨i, j, rfl, ⟨r1, r2, r3, r4⟩, k _ F2 H2 .refl s2 wk_range⟩
      · cases ew
    | _ => cases ew
  | _ => cases ew
end
end VI

set_option Elab.async false
set_option linter.all false
set_option maxRecDepth 100000
set_option maxHeartbeats 1000000
/-! VI, part 12: for, while, list comprehensions. -/
namespace VI
open PySem L2
section
variable {c : Cn} {X : Cx} {Wx : WX} {σ σ' : L2.St} {F F' : Addr → Prop} {H H' : Hp} {ss ss' : Slots} {D : Ends} {e : Expr} {m : M W} {pos : Pos}
/-- one turn of a loop: A goes on -/
def turn (A : M Flow) (f : Flow) : M Flow := match f with
  | .nx => A
  | .cont => A
  | .brk => mret .nx
  | .ret o v => mret (.ret o v)
theorem FromS.turn {b A : M Flow} {P : L2.St → Hp → Prop} (h : FromS c (mbd b (VI.turn A)) Wx σ F H ss D) (k : ∀ σ' F' H' ss', SR c F' H' σ' ss' → Fm F H (OwnA σ ss) F' H' (OwnA σ' ss') → FromS c A Wx σ' F' H' ss' D → P σ' H') : FromS c b Wx σ F H ss { D with nx := P, ct := P, bk := D.nx } := by
  cases em : b ss with
  | none =>
    have z : mbd b (VI.turn A) ss = none := by unfold mbd; rw [em]
    exact (h.no z).elim
  | some r =>
    cases r with
    | exc k w s =>
      have z : mbd b (VI.turn A) ss = some (.exc k w s) := by unfold mbd; rw [em]
      rcases h with ⟨a, s', e, _⟩ | ⟨j, w', s', e, q⟩
      · rw [z] at e
        cases e
      · rw [z] at e
        cases e
        exact .inr ⟨k, w, s, em, q⟩
    | ok f s =>
      have z : mbd b (VI.turn A) ss = VI.turn A f s := mbd_ok em
      refine .inl ⟨f, s, em, fun σ1 F1 H1 f1 s1 l1 => ?_⟩
      cases f with
      | nx => exact k _ _ _ _ s1 f1 (h.later z f1 l1)
      | cont => exact k _ _ _ _ s1 f1 (h.later z f1 l1)
      | brk => exact (h.later z f1 l1).ret s1
      | ret o v =>
        rcases h with ⟨a', s', e', q⟩ | ⟨j, w', s', e', q⟩
        · rw [z] at e'
          cases e'
          exact q σ1 F1 H1 f1 s1 l1
        · rw [z] at e'
          cases e'
theorem turns_cons {tg : W → M Unit} {b : M Flow} {w : W} {ws : List W} : turns tg b (w :: ws) = mbd (calm (tg w)) fun _ => mbd b (VI.turn (turns tg b ws)) := by
  have e : VI.turn (turns tg b ws) = fun f => match f with
    | .nx => turns tg b ws
    | .cont => turns tg b ws
    | .brk => mret .nx
    | .ret o v => mret (.ret o v) := by
    funext f
    cases f <;> rfl
  rw [e]
  rfl
theorem while_succ {t : M Bool} {b : M Flow} {n : Nat} : sWhile t b (n + 1) = mbd t fun k => if k then mbd b (VI.turn (sWhile t b n)) else mret Flow.nx := by
  have e : VI.turn (sWhile t b n) = fun f => match f with
    | .nx => sWhile t b n
    | .cont => sWhile t b n
    | .brk => mret .nx
    | .ret o v => mret (.ret o v) := by
    funext f
    cases f <;> rfl
  rw [e]
  rfl
theorem Ln.lkA {a : Addr} (l : Ln σ ss σ' ss') (h : LkA σ' ss' a) : LkA σ ss a := by
  obtain ⟨j, w, h1, h2, h3⟩ := h
  have h4 := l.lk j w h1
  exact ⟨j, w, h4, h2, by rw [← (l.st j _ h4 rfl).1]; exact h3⟩
theorem Fm.notBusy {a : Addr} {o : HO} (f : Fm F H (OwnA σ ss) F' H' (OwnA σ' ss')) (l : Ln σ ss σ' ss') (n : ¬ Busy σ ss a) (h : H a = some o) (nt : NoTb o) : ¬ Busy σ' ss' a := fun z => by
  rcases z with z | z
  · rcases f.onew a z with z | z
    · exact n (.inl z)
    · exact z.no h nt
  · exact n (.inr (l.lkA z))
theorem Fm.notF {O O' : Addr → Prop} {a : Addr} {o : HO} (f : Fm F H O F' H' O') (n : ¬ F a) (nO : ¬ O a) (h : H a = some o) (nt : NoTb o) : ¬ F' a := fun z => by
  rcases f.fnew a z with z | z | z
  · exact n z
  · exact nO z
  · exact z.no h nt
theorem sim_for {tg iter : Expr} {body : List Stmt} {it : M (List W)} {t : Tg} {b : M Flow} (hp : PassesOwn (model X.prog X.w) X.A X.env X.xe) (hc : X.calm = true) (hi : SimI c X tg iter it) (hg : SimG c X tg t) (hb : SimB c X body b)
    (hs : ∀ x, foldedSetIterable iter X.env x = pure x := by intro _; rfl) : SimS c X (.For tg iter body [] pos) (sFor it (asg t) b) := fun Wx tk =>
  PS.imp (ps_for hp hc (hi Wx tk) hg (hb Wx tk) hs) fun D σ H q => by
    obtain ⟨F, ss, s, q⟩ := q
    refine ⟨F, ss, s, (FromS.bind (U := rI c) q).mono fun J H1 ⟨ws, F1, ss1, em, s1, u1, f1, l1, h3, hr⟩ => ?_⟩
    obtain ⟨G, Y, wk, k⟩ := u1
    refine for_it wk (fun i σ' H' => ∃ F' ss', SR c F' H' σ' ss' ∧ Fm F1 H1 (OwnA σ ss1) F' H' (OwnA σ' ss') ∧ FromS c (turns (asg t) b (ws.drop i)) Wx σ' F' H' ss' D) ⟨F1, ss1, s1, .refl, h3⟩ (fun i σ' H' hi ⟨F', ss', s', f', _⟩ => (k F' H' _ f' (s1.kp f')).1) (fun i x σ' H' H2 hi ⟨F', ss', s', f', h'⟩ y => ?_) (fun σ' H' ⟨F', ss', s', f', h'⟩ => ?_)
    · obtain ⟨e2, w, ew, r⟩ := (k F' H' _ f' (s1.kp f')).2 i x H2 hi y
      rw [List.drop_eq_getElem_cons hi, turns_cons] at h'
      have ew' : ws[i] = w := by
        rw [List.getElem?_eq_getElem hi] at ew
        exact Option.some.inj ew
      rw [ew'] at h'
      obtain ⟨s2, eg, h4⟩ := calm_G h'
      have h5 := h4.later (m' := fun _ => mbd b (VI.turn (turns (asg t) b (ws.drop (i + 1)))) s2) (ss1 := ss') rfl (e2.fm) .refl
      refine ⟨F', ss', w, s'.ext e2, r, s2, eg, fun σ3 F3 H3 f3 s3 l3 _ _ => ⟨F3, s2, s3, ?_⟩⟩
      refine FromS.turn (h5.later (m' := mbd b (VI.turn (turns (asg t) b (ws.drop (i + 1))))) rfl f3 l3) fun σ4 F4 H4 ss4 s4 f4 h6 => ?_
      exact ⟨F4, ss4, s4, f'.trans ((e2.fm.trans f3).trans f4), h6⟩
    · rw [List.drop_length] at h'
      exact h'.ret s'
theorem sim_while {T : Expr} {body : List Stmt} {t : M Bool} {b : M Flow} {n : Nat} (hp : PassesOwn (model X.prog X.w) X.A X.env X.xe) (ht : SimT c X T t) (hb : SimB c X body b) : SimS c X (.While T body [] pos) (sWhile t b n) := fun Wx tk =>
  PS.imp (ps_while hp (ht Wx tk) (hb Wx tk)) fun D σ H q => by
    refine ⟨fun m σ' H' => tS c (sWhile t b m) Wx D σ' H', ⟨n, q⟩, fun m σ' H' q => ?_⟩
    obtain ⟨F, ss, s, q⟩ := q
    cases m with
    | zero => exact (q.no rfl).elim
    | succ m =>
      rw [while_succ] at q
      refine ⟨F, ss, s, (FromS.bind (U := rB) q).mono fun k H1 ⟨k', F1, ss1, em, s1, u1, f1, l1, h3, hr⟩ => ?_⟩
      have u1 : k' = k := u1
      subst u1
      cases k' with
      | false => exact iteF (FromS.ret h3 s1)
      | true => exact iteT ⟨fun σ2 H2 => tS c (sWhile t b m) Wx D σ2 H2, fun σ2 H2 z => ⟨m, Nat.lt_succ_self m, z⟩, F1, ss1, s1, FromS.turn h3 fun σ4 F4 H4 ss4 s4 f4 h6 => ⟨F4, ss4, s4, h6⟩⟩
/-! ### comprehensions -/
theorem wipeS_out {α : Type} {j : Nat} : ∀ {os : List Nat} {ss : Slots}, j ∉ os → (VI.wipe os ss)[j]? = ss[j]?
  | [], _, _ => rfl
  | o :: os, ss, h => by
    have h1 : j ≠ o ∧ j ∉ os := by simpa using h
    show (VI.wipe os (ss.set o .no))[j]? = _
    rw [wipeS_out (α := α) h1.2, List.getElem?_set_ne (Ne.symm h1.1)]
theorem wipeS_in : ∀ {os : List Nat} {ss : Slots} {j : Nat} {t : Slot}, (VI.wipe os ss)[j]? = some t → (j ∈ os ∧ t = .no) ∨ (j ∉ os ∧ ss[j]? = some t)
  | [], _, _, _, h => .inr ⟨by simp, h⟩
  | o :: os, ss, j, t, h => by
    have h : (VI.wipe os (ss.set o .no))[j]? = some t := h
    rcases wipeS_in h with ⟨h1, h2⟩ | ⟨h1, h2⟩
    · exact .inl ⟨List.mem_cons_of_mem _ h1, h2⟩
    · rcases get_set h2 with ⟨rfl, h3⟩ | ⟨h3, h4⟩
      · exact .inl ⟨List.mem_cons_self, h3⟩
      · exact .inr ⟨by simp only [List.mem_cons, not_or]; exact ⟨h3, h1⟩, h4⟩
theorem wipeS_len : ∀ {os : List Nat} {ss : Slots}, (VI.wipe os ss).length = ss.length
  | [], _ => rfl
  | o :: os, ss => by
    show (VI.wipe os (ss.set o .no)).length = _
    rw [wipeS_len, List.length_set]
/-- own slots forgotten -/
theorem SR.wipe {os : List Nat} (s : SR c F H σ ss) (hf : os.all (freeAt ss) = true) : SR c F H (L2.wipe σ os) (VI.wipe os ss) ∧ (∀ a, OwnA (L2.wipe σ os) (VI.wipe os ss) a → OwnA σ ss a) ∧ Ln σ ss (L2.wipe σ os) (VI.wipe os ss) := by
  have sub : ∀ a, OwnA (L2.wipe σ os) (VI.wipe os ss) a → OwnA σ ss a := fun a ⟨j, t, h1, h2, h3⟩ => by
    rcases wipeS_in h1 with ⟨_, rfl⟩ | ⟨_, h1⟩
    · cases h2
    · exact ⟨j, t, h1, h2, (wipe_some h3).1⟩
  refine ⟨⟨by rw [wipe_length, wipeS_len]; exact s.len, fun j t ov h1 h2 => ?_, fun b hb => s.nf b (sub b hb), fun j k t u b h1 h2 h3 h4 h5 h6 => ?_, fun b hl hb => ?_, s.live⟩, sub, ⟨fun j t h1 h2 => ?_, fun j w h1 => ?_⟩⟩
  · rcases wipeS_in h1 with ⟨_, rfl⟩ | ⟨n, h1⟩
    · trivial
    · rw [wipe_out n] at h2
      exact s.rel j t ov h1 h2
  · rcases wipeS_in h1 with ⟨_, rfl⟩ | ⟨_, h1⟩
    · cases h3
    · rcases wipeS_in h2 with ⟨_, rfl⟩ | ⟨_, h2⟩
      · cases h4
      · exact s.inj j k t u b h1 h2 h3 h4 (wipe_some h5).1 (wipe_some h6).1
  · obtain ⟨j, w, h1, h2, h3⟩ := hl
    rcases wipeS_in h1 with ⟨_, z⟩ | ⟨_, h1⟩
    · cases z
    · exact s.lk b ⟨j, w, h1, h2, (wipe_some h3).1⟩ (sub b hb)
  · have n : j ∉ os := fun z => by
      have q := List.all_eq_true.mp hf j z
      unfold freeAt at q
      rw [h1] at q
      dsimp only at q
      rw [h2] at q
      cases q
    exact ⟨wipe_out n, t, by rw [wipeS_out (α := Unit) n]; exact h1, Nfr.refl h2⟩
  · rcases wipeS_in h1 with ⟨_, z⟩ | ⟨_, h1⟩
    · cases z
    · exact h1
/-- .. and all else as it was -/
theorem SR.unwipe {os : List Nat} (s : SR c F H (L2.wipe σ os) ss) (hn : ∀ i ∈ os, ∀ t, ss[i]? = some t → t = .no) : SR c F H σ ss ∧ (∀ a, OwnA (L2.wipe σ os) ss a ↔ OwnA σ ss a) ∧ ∀ a, LkA (L2.wipe σ os) ss a ↔ LkA σ ss a := by
  have out : ∀ {j : Nat} {t : Slot}, ss[j]? = some t → t ≠ .no → (L2.wipe σ os)[j]? = σ[j]? := fun {j t} h n => wipe_out fun z => n (hn j z t h)
  have oE : ∀ a, OwnA (L2.wipe σ os) ss a ↔ OwnA σ ss a := fun a => ⟨fun ⟨j, t, h1, h2, h3⟩ => ⟨j, t, h1, h2, by rw [← out h1 (fun z => by rw [z] at h2; cases h2)]; exact h3⟩, fun ⟨j, t, h1, h2, h3⟩ => ⟨j, t, h1, h2, by rw [out h1 (fun z => by rw [z] at h2; cases h2)]; exact h3⟩⟩
  have lE : ∀ a, LkA (L2.wipe σ os) ss a ↔ LkA σ ss a := fun a => ⟨fun ⟨j, t, h1, h2, h3⟩ => ⟨j, t, h1, h2, by rw [← out h1 (fun z => by cases z)]; exact h3⟩, fun ⟨j, t, h1, h2, h3⟩ => ⟨j, t, h1, h2, by rw [out h1 (fun z => by cases z)]; exact h3⟩⟩
  refine ⟨⟨by rw [← s.len, wipe_length], fun j t ov h1 h2 => ?_, fun b hb => s.nf b ((oE b).mpr hb), fun j k t u b h1 h2 h3 h4 h5 h6 => ?_, fun b hl hb => s.lk b ((lE b).mpr hl) ((oE b).mpr hb), s.live⟩, oE, lE⟩
  · by_cases z : t = .no
    · rw [z]
      trivial
    · exact s.rel j t ov h1 (by rw [out h1 z]; exact h2)
  · refine s.inj j k t u b h1 h2 h3 h4 ?_ ?_
    · rw [out h1 (fun z => by rw [z] at h3; cases h3)]
      exact h5
    · rw [out h2 (fun z => by rw [z] at h4; cases h4)]
      exact h6
theorem wipe_same {σ2 : L2.St} {os : List Nat} (hl : σ2.length = (L2.wipe σ os).length) (h : ∀ j, j ∉ os → σ2[j]? = (L2.wipe σ os)[j]?) : L2.wipe σ2 os = L2.wipe σ os := by
  have inn : ∀ {τ : L2.St} {j : Nat} {ov : Option V}, (L2.wipe τ os)[j]? = some ov → j ∈ os → ov = none := fun {τ j ov} h1 h2 => by
    cases ov with
    | none => rfl
    | some x => exact absurd h2 (wipe_some h1).2
  refine List.ext_getElem? fun j => ?_
  by_cases hj : j ∈ os
  · cases e : (L2.wipe σ os)[j]? with
    | none =>
      rw [List.getElem?_eq_none_iff] at e ⊢
      rw [wipe_length, hl]
      exact e
    | some ov =>
      have hlt := (List.getElem?_eq_some_iff.mp e).1
      have hlt2 : j < (L2.wipe σ2 os).length := by rw [wipe_length, hl]; exact hlt
      rw [inn e hj, List.getElem?_eq_getElem hlt2, inn (List.getElem?_eq_getElem hlt2) hj]
  · rw [wipe_out hj, h j hj]
/-- a thing that nobody knows is changed -/
theorem SR.upd (s : SR c F H σ ss) {a : Addr} {o : HO} (nF : ¬ F a) (nB : ¬ Busy σ ss a) (hm : ∃ vs, H a = some (.lst vs)) : SR c F (L2.upd H a o) σ ss ∧ Kp F F H (L2.upd H a o) := by
  have k : Kp F F H (L2.upd H a o) := ⟨fun b u h z => by
    have n : b ≠ a := fun y => by
      rw [y] at h z
      obtain ⟨vs, e⟩ := hm
      rw [h] at e
      cases e
      rcases z with z | ⟨_, z⟩ | ⟨_, _, z⟩
      · exact nF z
      · cases z
      · cases z
    rw [upd_ne n]
    exact h, fun _ h => h⟩
  have ow : ∀ {b : Addr} {w : W}, b ≠ a → OwnAt c F H b w → OwnAt c F (L2.upd H a o) b w := fun {b w} n h => h.keep k fun u e _ => by
    rw [upd_ne n]
    exact e
  refine ⟨⟨s.len, fun j t ov h1 h2 => ?_, s.nf, s.inj, s.lk, ⟨fun b hb => ?_, by obtain ⟨vs, e⟩ := hm; exact tabs_upd s.live.2 e⟩⟩, k⟩
  · have q := s.rel j t ov h1 h2
    cases t with
    | no => trivial
    | fr l w =>
      obtain ⟨v, ev, q⟩ := q
      exact ⟨v, ev, RepF.kp k _ _ q⟩
    | own l w =>
      obtain ⟨b, ev, q⟩ := q
      subst ev
      exact ⟨b, rfl, ow (fun z => by subst z; exact nB (.inl ⟨j, _, h1, rfl, h2⟩)) q⟩
    | lk w =>
      obtain ⟨v, ev, q⟩ := q
      refine ⟨v, ev, ?_⟩
      rcases q with q | ⟨b, eb, q⟩
      · exact .inl (RepF.kp k _ _ q)
      · subst eb
        subst ev
        exact .inr ⟨b, rfl, ow (fun z => by subst z; exact nB (.inr ⟨j, w, h1, q.mutW, h2⟩)) q⟩
  · obtain ⟨u, hu, nu⟩ := s.live.1 b hb
    by_cases z : b = a
    · rw [z] at hb
      exact absurd hb nF
    · exact ⟨u, by rw [upd_ne z]; exact hu, nu⟩
def SimTs (c : Cn) (X : Cx) (es : List Expr) (m : M Bool) : Prop := ∀ Wx, Takes X Wx → PTs X es (tM c m rB Wx)
theorem PTs.imp {X : Cx} {e : List Expr} {t t' : TT} (h : PTs X e t) (k : ∀ σ H Q, t' σ H Q → t σ H Q) : PTs X e t' := ⟨fun pins s σ H Q I q => h.run pins s σ H Q I (k σ H Q q)⟩
theorem simTs_nil : SimTs c X [] (mret true) := fun Wx _ => PTs.imp pts_nil fun σ H Q h => by
  obtain ⟨F, ss, s, h⟩ := h
  exact h.ret s rfl
theorem simTs_one {T : Expr} {t : M Bool} (h : SimT c X T t) : SimTs c X [T] t := fun Wx tk => pts_one (h Wx tk)
theorem From.calm {α β : Type} {m : M α} {T : Rl α β} {Q : β → Hp → Prop} (h : From c (VI.calm m) T Wx σ F H ss Q) : ∃ a ss', m ss = some (.ok a ss') ∧ ∀ (b : β) (F' : Addr → Prop) (H' : Hp), Fm F H (OwnA σ ss) F' H' (OwnA σ ss') → SR c F' H' σ ss' → Ln σ ss σ ss' → T (BZ σ ss') F' H H' a b → Q b H' := by
  cases em : m ss with
  | none =>
    have z : VI.calm m ss = none := by unfold VI.calm; rw [em]
    rcases h with ⟨f, s3, e3, q⟩ | ⟨k', v', s3, e3, q⟩ <;> rw [z] at e3 <;> cases e3
  | some r =>
    cases r with
    | exc k w s =>
      have z : VI.calm m ss = none := by unfold VI.calm; rw [em]
      rcases h with ⟨f, s3, e3, q⟩ | ⟨k', v', s3, e3, q⟩ <;> rw [z] at e3 <;> cases e3
    | ok a s =>
      rcases h with ⟨f, s3, e3, q⟩ | ⟨k', v', s3, e3, q⟩ <;> rw [calm_ok em] at e3 <;> cases e3
      exact ⟨a, s, rfl, q⟩
theorem mbd_some {α β : Type} {m : M α} {f : α → M β} {b : β} {s : Slots} (h : mbd m f ss = some (.ok b s)) : ∃ a s1, m ss = some (.ok a s1) ∧ f a s1 = some (.ok b s) := by
  unfold mbd at h
  cases em : m ss with
  | none =>
    rw [em] at h
    cases h
  | some r =>
    rw [em] at h
    cases r with
    | exc k w s => cases h
    | ok a s1 => exact ⟨a, s1, rfl, h⟩
theorem calm_some {α : Type} {m : M α} {a : α} {s : Slots} (h : VI.calm m ss = some (.ok a s)) : m ss = some (.ok a s) := by
  unfold VI.calm at h
  cases em : m ss with
  | none =>
    rw [em] at h
    cases h
  | some r =>
    rw [em] at h
    cases r with
    | exc k w s => cases h
    | ok a s1 => exact h
theorem mwipe_some {os : List Nat} {a : Unit} {s : Slots} (h : mwipe os ss = some (.ok a s)) : os.all (freeAt ss) = true ∧ s = VI.wipe os ss := by
  unfold mwipe at h
  split at h
  · rename_i e
    cases h
    exact ⟨e, rfl⟩
  · cases h
theorem wiped_no {os : List Nat} : ∀ i ∈ os, ∀ t, (VI.wipe os ss)[i]? = some t → t = .no := fun i hi t h => by
  rcases wipeS_in h with ⟨_, z⟩ | ⟨z, _⟩
  · exact z
  · exact absurd hi z
theorem comp_read {os : List Nat} {it : M (List W)} {t : Tg} {f : M Bool} {m : M W} {Wx : WX} {W0 : WX} (w0 : W0 = fun _ _ _ _ => False) (hos : ∀ j ∈ tgIx t, j ∈ os) {σ : L2.St} {H : Hp} {Q : VK} (q : tM c (eComp os it (asg t) f m) (rO c) Wx σ H Q) :
    tLc (tM c it (rI c) Wx) (tG c t) (tM c f rB W0) (tM c m (rF c) W0) os σ H Q := by
  subst w0
  obtain ⟨F, ss, s, q⟩ := q
  refine ⟨F, ss, s, (From.bind (U := rI c) early_O q).mono fun J H1 ⟨ws, F1, ss1, em, s1, u1, f1, l1, h3⟩ Dl hD => ?_⟩
  obtain ⟨G, Y, wk, k⟩ := u1
  obtain ⟨wv, ssF, en, hQ⟩ := h3.calm
  obtain ⟨_, ssw, en1, en2⟩ := mbd_some en
  obtain ⟨hfree, rfl⟩ := mwipe_some en1
  obtain ⟨vs, ssF', en3, en4⟩ := mbd_some en2
  cases en4
  obtain ⟨sw, subw, lnw⟩ := s1.wipe hfree
  have new : Ext H1 (L2.upd H1 Dl (.lst [])) := Ext.new hD
  refine lc_it wk (fun i H' => ∃ F' ss' acc vals, SR c F' H' (L2.wipe σ os) ss' ∧ Fm F1 H1 (OwnA σ ss1) F' H' (OwnA (L2.wipe σ os) ss') ∧ Ln σ ss1 (L2.wipe σ os) ss' ∧ (∀ i ∈ os, ∀ t, ss'[i]? = some t → t = .no) ∧ ¬ F' Dl ∧ ¬ Busy (L2.wipe σ os) ss' Dl ∧ H' Dl = some (.lst vals) ∧ RepFs c F' H' acc.reverse vals ∧
      compGo os (asg t) f m (ws.drop i) acc ss' = some (.ok vs ssF)) ?_ (fun i H' hi ⟨F', ss', acc, vals, p⟩ => (k F' H' _ p.2.1 (s1.kp p.2.1)).1) (fun i x H' H2 hi ⟨F', ss', acc, vals, p⟩ y => ?_) (fun H' ⟨F', ss', acc, vals, p⟩ => ?_)
  · refine ⟨F1, VI.wipe os ss1, [], [], sw.ext new, ?_, lnw, wiped_no, fun z => ?_, sw.fresh (.of hD), upd_same, rfl, en3⟩
    · exact Fm.trans new.fm (Fm.sub subw)
    · obtain ⟨o, e⟩ := s1.liv Dl z
      rw [hD] at e
      cases e
  · obtain ⟨s', f', ln', no', nF', nB', hv, rp, en'⟩ := p
    obtain ⟨e2, w, ew, r⟩ := (k F' H' _ f' (s1.kp f')).2 i x H2 hi y
    have ew' : ws[i] = w := by
      rw [List.getElem?_eq_getElem hi] at ew
      exact Option.some.inj ew
    rw [List.drop_eq_getElem_cons hi, ew'] at en'
    obtain ⟨_, ss3, g1, g2⟩ := mbd_some en'
    have g1 := calm_some g1
    obtain ⟨kb, ss4, g3, g4⟩ := mbd_some g2
    have s2 := s'.ext e2
    refine ⟨F', ss', w, s2, r, ss3, g1, fun σ3 F3 H3 f3 s3 l3 n3 t3 => ?_⟩
    have hw3 : L2.wipe σ3 os = L2.wipe σ os := wipe_same n3 fun j hj => t3 j fun z => hj (hos j z)
    refine ⟨hw3, F3, ss3, s3, .inl ⟨kb, ss4, g3, fun b F4 H4 f4 s4 l4 t4 => ?_⟩⟩
    have t4 : kb = b := t4
    subst t4
    have fAll : Fm F' H' (OwnA (L2.wipe σ os) ss') F4 H4 (OwnA σ3 ss4) := e2.fm.trans (f3.trans f4)
    have notO : ¬ OwnA (L2.wipe σ os) ss' Dl := fun z => nB' (.inl z)
    cases kb with
    | false =>
      refine iteF ?_
      have g4 : mbd (mwipe os) (fun _ => compGo os (asg t) f m (ws.drop (i + 1)) acc) ss4 = some (.ok vs ssF) := g4
      obtain ⟨_, ss5, g5, g6⟩ := mbd_some g4
      obtain ⟨fr5, rfl⟩ := mwipe_some g5
      obtain ⟨s5, sub5, ln5⟩ := s4.wipe fr5
      rw [hw3] at s5 sub5 ln5
      have fAll5 := fAll.trans (Fm.sub sub5)
      have lnA := ((l3.trans l4).trans ln5)
      exact ⟨F4, VI.wipe os ss4, acc, vals, s5, f'.trans fAll5, ln'.trans lnA, wiped_no, fAll.notF nF' notO hv (fun _ z => by cases z), fAll5.notBusy lnA nB' hv (fun _ z => by cases z), fAll.keep Dl _ hv notO (fun _ z => by cases z), RepFs.kp (s'.kp fAll) _ _ rp, g6⟩
    | true =>
      refine iteT ?_
      have g4 : mbd m (fun v => if acc.length < 100000 then mbd (mwipe os) fun _ => compGo os (asg t) f m (ws.drop (i + 1)) (v :: acc) else stuck) ss4 = some (.ok vs ssF) := g4
      obtain ⟨v, ss5, g5, g6⟩ := mbd_some g4
      split at g6
      · rename_i hlen
        obtain ⟨_, ss6, g7, g8⟩ := mbd_some g6
        obtain ⟨fr5, rfl⟩ := mwipe_some g7
        refine ⟨F4, ss4, s4, .inl ⟨v, ss5, g5, fun y F5 H5 f5 s5 l5 ry => ?_⟩⟩
        obtain ⟨s6, sub6, ln6⟩ := s5.wipe fr5
        rw [hw3] at s6 sub6 ln6
        have fA6 := fAll.trans f5
        have fB6 := fA6.trans (Fm.sub sub6)
        have lnA := (((l3.trans l4).trans l5).trans ln6)
        have hv5 := fA6.keep Dl _ hv notO (fun _ z => by cases z)
        have nF5 := fA6.notF nF' notO hv (fun _ z => by cases z)
        have nB6 := fB6.notBusy lnA nB' hv (fun _ z => by cases z)
        obtain ⟨s7, k7⟩ := s6.upd (o := .lst (vals ++ [y])) nF5 nB6 ⟨_, hv5⟩
        have rp6 : RepFs c F5 H5 (v :: acc).reverse (vals ++ [y]) := by
          rw [List.reverse_cons]
          exact (RepFs.kp (s'.kp fA6) _ _ rp).app ⟨y, [], rfl, ry, rfl⟩
        have fC := f'.trans fB6
        refine ⟨vals, hv5, ?_, F5, VI.wipe os ss5, v :: acc, vals ++ [y], s7, ⟨fun a o h n t => ?_, fun a o h nt => ?_, fC.mono, fC.fnew, fC.onew⟩, ln'.trans lnA, wiped_no, nF5, nB6, upd_same, RepFs.kp k7 _ _ rp6, g8⟩
        · rw [← rp.length, List.length_reverse]
          exact Nat.lt_of_lt_of_le hlen (sizeLine_big (Nat.le_refl _))
        · have na : a ≠ Dl := fun z => by
            rw [z, hD] at h
            cases h
          rw [upd_ne na]
          exact fC.keep a o h n t
        · have na : a ≠ Dl := fun z => by
            rw [z, hD] at h
            cases h
          rw [upd_ne na]
          exact fC.live a o h nt
      · cases g6
  · obtain ⟨s', f', ln', no', nF', nB', hv, rp, en'⟩ := p
    rw [List.drop_length] at en'
    cases en'
    obtain ⟨su, oE, lE⟩ := s'.unwipe no'
    refine hQ (.ref Dl) F' H' ⟨f'.keep, f'.live, f'.mono, f'.fnew, fun a h => f'.onew a ((oE a).mpr h)⟩ su ⟨fun i t h1 h2 => ⟨rfl, (ln'.st i t h1 h2).2⟩, ln'.lk⟩ ?_
    refine ⟨Dl, rfl, .of hD, nF', fun z => ?_, vals, hv, rp⟩
    rcases z with z | z
    · exact nB' (.inl ((oE _).mpr z))
    · exact nB' (.inr ((lE _).mpr z))
theorem sim_comp {elt tg iter : Expr} {ifs : List Expr} {scope : Scope} {own : List (Str × Nat)} {it : M (List W)} {t : Tg} {f : M Bool} (hc : X.calm = true) (hN : X.N.Nodup) (hi : SimI c X tg iter it) (ok : BlkOk X.N X.env.scope scope own) (hos : ∀ j ∈ tgIx t, j ∈ own.map (·.2))
    (hg : ∀ (s : Shared) (H : Hp) (C : Addr) (cl : List (Str × Addr)) (fp : List Addr), SimG c (X.blk s H scope (compEnvC scope cl C X.env) fp) tg t)
    (ht : ∀ (s : Shared) (H : Hp) (C : Addr) (cl : List (Str × Addr)) (fp : List Addr), SimTs c (X.blk s H scope (compEnvC scope cl C X.env) fp) ifs f)
    (he : ∀ (s : Shared) (H : Hp) (C : Addr) (cl : List (Str × Addr)) (fp : List Addr), SimE c (X.blk s H scope (compEnvC scope cl C X.env) fp) elt m)
    (hs : ∀ x, foldedSetIterable iter X.env x = pure x := by intro _; rfl) : SimO c X (.ListComp elt [⟨tg, iter, ifs, 0⟩] scope pos) (eComp (own.map (·.2)) it (asg t) f m) := fun Wx tk => by
  have tk0 : ∀ (s : Shared) (H : Hp) (C : Addr) (cl : List (Str × Addr)) (fp : List Addr), Takes (X.blk s H scope (compEnvC scope cl C X.env) fp) (fun _ _ _ _ => False) := fun s H C cl fp u s' ⟨a, B, sI, pins, σ, H', cls, d, e, I, nb, up, sky, na, os, ag, w⟩ => w
  exact PE.imp (pe_lc hc hN (hi Wx tk) ok hg (fun s H C cl fp => ht s H C cl fp _ (tk0 s H C cl fp)) (fun s H C cl fp => he s H C cl fp _ (tk0 s H C cl fp)) hs) fun σ H Q q => comp_read rfl hos q
/-- x = [..] on one line -/
theorem sim_asgC {i : Nat} {y : Str} {py spos : Pos} {elt tg iter : Expr} {ifs : List Expr} {scope : Scope} {own : List (Str × Nat)} {it : M (List W)} {t : Tg} {f : M Bool} (hc : X.calm = true) (hN : X.N.Nodup) (hi : SimI c X tg iter it) (ok : BlkOk X.N X.env.scope scope own) (hos : ∀ j ∈ tgIx t, j ∈ own.map (·.2))
    (hg : ∀ (s : Shared) (H : Hp) (C : Addr) (cl : List (Str × Addr)) (fp : List Addr), SimG c (X.blk s H scope (compEnvC scope cl C X.env) fp) tg t)
    (ht : ∀ (s : Shared) (H : Hp) (C : Addr) (cl : List (Str × Addr)) (fp : List Addr), SimTs c (X.blk s H scope (compEnvC scope cl C X.env) fp) ifs f)
    (he : ∀ (s : Shared) (H : Hp) (C : Addr) (cl : List (Str × Addr)) (fp : List Addr), SimE c (X.blk s H scope (compEnvC scope cl C X.env) fp) elt m)
    (hy : X.N[i]? = some y := by rfl) (hyl : X.env.scope.names.lookup y = some .local := by rfl) (hk : X.env.scope.kind = .function := by rfl) (hl : (py.line == pos.line) = true := by rfl)
    (ha : (scope.names.any fun (n, k) => n == y && (k == .local || k == .cell)) = false := by rfl)
    (hs : ∀ x, foldedSetIterable iter X.env x = pure x := by intro _; rfl) : SimS c X (.Assign [.Name y py] (.ListComp elt [⟨tg, iter, ifs, 0⟩] scope pos) spos) (sAsgO i (eComp (own.map (·.2)) it (asg t) f m)) := fun Wx tk => by
  have tk0 : ∀ (s : Shared) (H : Hp) (C : Addr) (cl : List (Str × Addr)) (fp : List Addr), Takes (X.blk s H scope (compEnvC scope cl C X.env) fp) (fun _ _ _ _ => False) := fun s H C cl fp u s' ⟨a, B, sI, pins, σ, H', cls, d, e, I, nb, up, sky, na, os, ag, w⟩ => w
  exact PS.imp (ps_setLc hc hN hy hyl (sw_true hk hyl hl ha) (hi Wx tk) ok hg (fun s H C cl fp => ht s H C cl fp _ (tk0 s H C cl fp)) (fun s H C cl fp => he s H C cl fp _ (tk0 s H C cl fp)) hs) fun D σ H q => comp_read rfl hos (asgO_read q)
end
end VI

set_option Elab.async false
set_option linter.all false
set_option maxRecDepth 100000
set_option maxHeartbeats 1000000
/-! VI, part 13: defs and calls. -/
namespace VI
open PySem L2 PySem.Spec PyProof.Rows
/-- a value that a def hands back; o: nobody else has it -/
def ResR (c : Cn) (o : Bool) : Rl W V := fun B F' H H' w v => if o = true ∧ isMut w = true then ∃ a, v = .ref a ∧ Fr H a ∧ ¬ F' a ∧ ¬ (B.own a ∨ B.lk a) ∧ OwnAt c F' H' a w else RepF c F' H' w v
/-- what a def of n parameters promises: its body is f -/
def spF (c : Cn) (n : Nat) (f : List Slot → FOut) : Sp := fun vs H Q E => vs.length = n ∧ ∃ (F : Addr → Prop) (as : List Slot), SR c F H (vs.map some) as ∧ (∀ w, Slot.own false w ∉ as) ∧
  ((∃ o w fin, f as = some (.ok (o, w) fin) ∧ ∀ (v : V) (F' : Addr → Prop) (H' : Hp), Fm F H (OwnA (vs.map some) as) F' H' (OwnA (vs.map some) fin) → SR c F' H' (vs.map some) fin → Ln (vs.map some) as (vs.map some) fin → ResR c o (BZ (vs.map some) fin) F' H H' w v → Q v H') ∨
    ∃ k w fin, f as = some (.exc k w fin) ∧ ∀ (cls : Value) (d : Option Addr) (F' : Addr → Prop) (H' : Hp), Fm F H (OwnA (vs.map some) as) F' H' (OwnA (vs.map some) fin) → SR c F' H' (vs.map some) fin → Ln (vs.map some) as (vs.map some) fin → ExR c F' H' k w cls d → E cls d H')
section
variable {c : Cn} {X : Cx} {Wx : WX} {σ σ' : L2.St} {F F' : Addr → Prop} {H H' : Hp} {ss ss' : Slots} {D : Ends} {e : Expr} {m : M W} {pos : Pos}
/-! ### a def's frame -/
theorem ends_len : ∀ {as : List Slot} {ss : Slots}, (ends as ss).length = as.length
  | [], _ => rfl
  | a :: as, ss => by
    unfold ends
    rw [List.length_cons, List.length_cons, ends_len]
theorem ends_get : ∀ {as : List Slot} {ss : Slots} {j : Nat} {t : Slot}, (ends as ss)[j]? = some t → ∃ a, as[j]? = some a ∧ ((free a = true ∧ t = .no) ∨ (free a = false ∧ t = (ss[j]?).getD .no))
  | [], _, _, _, h => by
    unfold ends at h
    simp at h
  | a :: as, ss, 0, t, h => by
    unfold ends at h
    have h : (if free a then Slot.no else ss.headD .no) = t := by simpa using h
    refine ⟨a, rfl, ?_⟩
    cases e : free a with
    | true =>
      rw [e, if_pos rfl] at h
      exact .inl ⟨rfl, h.symm⟩
    | false =>
      rw [e, if_neg Bool.false_ne_true] at h
      refine .inr ⟨rfl, ?_⟩
      rw [← h]
      cases ss <;> rfl
  | a :: as, ss, j + 1, t, h => by
    unfold ends at h
    rw [List.getElem?_cons_succ] at h
    obtain ⟨b, h1, h2⟩ := ends_get h
    refine ⟨b, by rw [List.getElem?_cons_succ]; exact h1, ?_⟩
    cases ss with
    | nil => exact h2
    | cons s ss => exact h2
theorem ends_at : ∀ {as : List Slot} {ss : Slots} {j : Nat} {a : Slot}, as[j]? = some a → free a = false → (ends as ss)[j]? = some ((ss[j]?).getD .no)
  | [], _, _, _, h, _ => by simp at h
  | a :: as, ss, 0, b, h, f => by
    have e : a = b := by simpa using h
    subst e
    unfold ends
    rw [f]
    cases ss <;> rfl
  | a :: as, ss, j + 1, b, h, f => by
    unfold ends
    rw [List.getElem?_cons_succ] at h ⊢
    rw [ends_at h f]
    cases ss with
    | nil => rfl
    | cons s ss => rfl
theorem app_none {α : Type} {l : List α} {n : Nat} {z x : α} {j : Nat} (h : (l ++ List.replicate n z)[j]? = some x) : l[j]? = some x ∨ (l.length ≤ j ∧ x = z) := by
  by_cases hj : j < l.length
  · rw [List.getElem?_append_left hj] at h
    exact .inl h
  · rw [List.getElem?_append_right (by omega)] at h
    obtain ⟨_, h⟩ := List.getElem?_eq_some_iff.mp h
    rw [List.getElem_replicate] at h
    exact .inr ⟨by omega, h.symm⟩
theorem app_lt {α : Type} {l : List α} {n : Nat} {z x : α} {j : Nat} (h : l[j]? = some x) : (l ++ List.replicate n z)[j]? = some x := by
  rw [List.getElem?_append_left (List.getElem?_eq_some_iff.mp h).1]
  exact h
/-- a frame begins -/
theorem SR.begin {vs : List V} {as : List Slot} {k : Nat} (s : SR c F H (vs.map some) as) : SR c F H (vs.map some ++ List.replicate k none) (as ++ List.replicate k .no) ∧ ∀ a, OwnA (vs.map some ++ List.replicate k none) (as ++ List.replicate k .no) a ↔ OwnA (vs.map some) as a := by
  have lenE := s.len
  have low : ∀ {j : Nat} {t : Slot} {ov : Option V}, (as ++ List.replicate k .no)[j]? = some t → (vs.map some ++ List.replicate k none)[j]? = some ov → t = .no ∨ (as[j]? = some t ∧ (vs.map some)[j]? = some ov) := fun {j t ov} h1 h2 => by
    rcases app_none h1 with h1 | ⟨_, h1⟩
    · have hj := (List.getElem?_eq_some_iff.mp h1).1
      rw [List.getElem?_append_left (by omega)] at h2
      exact .inr ⟨h1, h2⟩
    · exact .inl h1
  have oE : ∀ a, OwnA (vs.map some ++ List.replicate k none) (as ++ List.replicate k .no) a ↔ OwnA (vs.map some) as a := fun a => ⟨fun ⟨j, t, h1, h2, h3⟩ => by
    rcases low h1 h3 with rfl | ⟨h1, h3⟩
    · cases h2
    · exact ⟨j, t, h1, h2, h3⟩, fun ⟨j, t, h1, h2, h3⟩ => ⟨j, t, app_lt h1, h2, app_lt h3⟩⟩
  refine ⟨⟨by rw [List.length_append, List.length_append, List.length_replicate, List.length_replicate, lenE], fun j t ov h1 h2 => ?_, fun b hb => s.nf b ((oE b).mp hb), fun j l t u b h1 h2 h3 h4 h5 h6 => ?_, fun b hl hb => ?_, s.live⟩, oE⟩
  · rcases low h1 h2 with rfl | ⟨h1, h2⟩
    · trivial
    · exact s.rel j t ov h1 h2
  · rcases low h1 h5 with rfl | ⟨h1, h5⟩
    · cases h3
    · rcases low h2 h6 with rfl | ⟨h2, h6⟩
      · cases h4
      · exact s.inj j l t u b h1 h2 h3 h4 h5 h6
  · obtain ⟨j, w, h1, h2, h3⟩ := hl
    rcases low h1 h3 with z | ⟨h1, h3⟩
    · cases z
    · exact s.lk b ⟨j, w, h1, h2, h3⟩ ((oE b).mp hb)
/-- a frame ends -/
theorem SR.fin {vs : List V} {as : List Slot} {k : Nat} (s : SR c F H (vs.map some) as) (s' : SR c F' H' σ' ss') (f : Fm F H (OwnA (vs.map some ++ List.replicate k none) (as ++ List.replicate k .no)) F' H' (OwnA σ' ss')) (l : Ln (vs.map some ++ List.replicate k none) (as ++ List.replicate k .no) σ' ss') :
    SR c F' H' (vs.map some) (ends as ss') ∧ Fm F H (OwnA (vs.map some) as) F' H' (OwnA (vs.map some) (ends as ss')) ∧ Ln (vs.map some) as (vs.map some) (ends as ss') ∧
      ∀ (j : Nat) (t : Slot), (ends as ss')[j]? = some t → t = .no ∨ ∃ a, as[j]? = some a ∧ free a = false ∧ Nfr a t ∧ ss'[j]? = some t ∧ (vs.map some)[j]? = σ'[j]? := by
  obtain ⟨s0, oE⟩ := s.begin (k := k)
  have at_ : ∀ {j : Nat} {a : Slot}, as[j]? = some a → free a = false → ∃ t, ss'[j]? = some t ∧ Nfr a t ∧ (vs.map some)[j]? = σ'[j]? := fun {j a} h1 h2 => by
    obtain ⟨e1, t, e2, e3⟩ := l.st j a (app_lt h1) h2
    refine ⟨t, e2, e3, ?_⟩
    obtain ⟨ov, eo, _⟩ := s.get h1
    rw [e1, app_lt eo, eo]
  have look : ∀ (j : Nat) (t : Slot), (ends as ss')[j]? = some t → t = .no ∨ ∃ a, as[j]? = some a ∧ free a = false ∧ Nfr a t ∧ ss'[j]? = some t ∧ (vs.map some)[j]? = σ'[j]? := fun j t h => by
    obtain ⟨a, h1, h2 | h2⟩ := ends_get h
    · exact .inl h2.2
    · obtain ⟨t', e2, e3, e4⟩ := at_ h1 h2.1
      have e5 := h2.2
      rw [e2] at e5
      have e5 : t = t' := e5
      subst e5
      exact .inr ⟨a, h1, h2.1, e3, e2, e4⟩
  have sub : ∀ a, OwnA (vs.map some) (ends as ss') a → OwnA σ' ss' a := fun a ⟨j, t, h1, h2, h3⟩ => by
    rcases look j t h1 with rfl | ⟨_, _, _, _, e2, e4⟩
    · cases h2
    · exact ⟨j, t, e2, h2, by rw [← e4]; exact h3⟩
  refine ⟨⟨by rw [ends_len]; exact s.len, fun j t ov h1 h2 => ?_, fun b hb => s'.nf b (sub b hb), fun j i t u b h1 h2 h3 h4 h5 h6 => ?_, fun b hl hb => ?_, s'.live⟩, ⟨fun a o h n t => f.keep a o h (fun z => n ((oE a).mp z)) t, f.live, f.mono, fun a h => ?_, fun a h => ?_⟩, ⟨fun j a h1 h2 => ?_, fun j w h1 => ?_⟩, look⟩
  · rcases look j t h1 with rfl | ⟨_, _, _, _, e2, e4⟩
    · trivial
    · exact s'.rel j t ov e2 (by rw [← e4]; exact h2)
  · rcases look j t h1 with rfl | ⟨_, _, _, _, e2, e4⟩
    · cases h3
    · rcases look i u h2 with rfl | ⟨_, _, _, _, e5, e6⟩
      · cases h4
      · exact s'.inj j i t u b e2 e5 h3 h4 (by rw [← e4]; exact h5) (by rw [← e6]; exact h6)
  · obtain ⟨j, w, h1, h2, h3⟩ := hl
    rcases look j _ h1 with z | ⟨_, _, _, _, e2, e4⟩
    · cases z
    · exact s'.lk b ⟨j, w, e2, h2, by rw [← e4]; exact h3⟩ (sub b hb)
  · rcases f.fnew a h with z | z | z
    · exact .inl z
    · exact .inr (.inl ((oE a).mp z))
    · exact .inr (.inr z)
  · exact (f.onew a (sub a h)).imp (oE a).mp id
  · obtain ⟨t, e2, e3, e4⟩ := at_ h1 h2
    exact ⟨rfl, t, by rw [ends_at h1 h2, e2]; rfl, e3⟩
  · rcases look j _ h1 with z | ⟨a, h2, h3, h4, e2, e4⟩
    · cases z
    · have z := l.lk j w e2
      rcases app_none z with z | ⟨_, z⟩
      · exact z
      · cases z
/-- what is handed back -/
theorem ret_res {vs : List V} {as : List Slot} {k : Nat} {o : Bool} {w : W} {v : V} (own : ∀ w, Slot.own false w ∉ as) (s : SR c F H (vs.map some) as) (s' : SR c F' H' σ' ss') (f : Fm F H (OwnA (vs.map some ++ List.replicate k none) (as ++ List.replicate k .no)) F' H' (OwnA σ' ss')) (l : Ln (vs.map some ++ List.replicate k none) (as ++ List.replicate k .no) σ' ss')
    (r : ResR c o (BZ (vs.map some) (ends as ss')) F' H H' w v ∨ True) (q : RetR c o σ' ss' F' H H' w v) : ResR c o (BZ (vs.map some) (ends as ss')) F' H H' w v := by
  obtain ⟨_, _, _, look⟩ := s.fin s' f l
  unfold RetR at q
  unfold ResR
  split at q
  · rename_i y
    rw [if_pos y]
    obtain ⟨a, ev, nF, ow, q⟩ := q
    have hn : Fr H a := by
      rcases q with q | ⟨i, w', h1, h2⟩
      · exact q.1
      · rcases f.onew a ⟨i, _, h1, rfl, h2⟩ with z | z
        · exfalso
          rw [(s.begin (k := k)).2] at z
          obtain ⟨j, t, h3, h4, h5⟩ := z
          cases t with
          | own lt wt =>
            cases lt with
            | false => exact own wt (List.mem_of_getElem? h3)
            | true =>
              obtain ⟨e1, t', e2, e3⟩ := l.st j _ (app_lt h3) rfl
              rw [app_lt h5] at e1
              rcases e3 with ⟨w2, rfl⟩ | ⟨w2, rfl, m2⟩
              · have := s'.inj i j _ _ a h1 e2 rfl rfl h2 e1
                subst this
                rw [h1] at e2
                cases e2
              · have rr := s'.rel j _ _ e2 e1
                obtain ⟨v2, ev2, rr⟩ := rr
                cases ev2
                cases w2 with
                | lst ws =>
                  obtain ⟨a2, vs2, e4, hF, _⟩ := rr
                  cases e4
                  exact nF hF
                | dct ks ws =>
                  obtain ⟨a2, vs2, e4, hF, _⟩ := rr
                  cases e4
                  exact nF hF
                | _ => cases m2
          | _ => cases h4
        · exact z
    refine ⟨a, ev, hn, nF, fun z => ?_, ow⟩
    rcases z with ⟨j, t, h1, h2, h3⟩ | ⟨j, w', h1, h2, h3⟩
    · rcases look j t h1 with rfl | ⟨a', h4, h5, h6, e2, e4⟩
      · cases h2
      · cases a' with
        | own lt wt =>
          have rr := s.rel j _ _ h4 h3
          obtain ⟨b, eb, ob⟩ := rr
          cases eb
          obtain ⟨u, hu, mu, _⟩ := ob.mut
          exact hn.no hu (noTb_mut mu)
        | no => cases h5
        | fr lt wt =>
          have h6 : t = _ := h6
          subst h6
          cases h2
        | lk wt =>
          have h6 : t = _ := h6
          subst h6
          cases h2
    · rcases look j _ h1 with z | ⟨a', h4, h5, h6, e2, e4⟩
      · cases z
      · have z := l.lk j w' e2
        rcases app_none z with z | ⟨_, z⟩
        · obtain ⟨u, hu, nu⟩ := s.locked ⟨j, w', z, h2, h3⟩
          exact hn.no hu nu
        · cases z
  · rename_i y
    rw [if_neg y]
    exact q
end
/-- as FnOk of the hand layer, where no guard stands around -/
structure FnG (P : Program) (w : World) (K : PySem.W.Frag) (mg : Str → Option Value) (base : Heap) (k : Nat) (f : Addr) (fd : FuncData) (ps : List Str) (sp : Sp) : Prop where
  len : ∀ vs H Q E, sp vs H Q E → vs.length = ps.length
  run : ∀ (A : Around) (outer : List Env) (s : Shared) (H : Hp) (args : Args) (us : List Value) (vs : List V) (Q : VK) (E : XK), Room k A → A.guards = some [] → Env0 P w K mg base A outer s H → BindsTo s fd args (ps.zip us) → Vals vs us → sp vs H Q E →
    codeAny (model P w) A (.call (.ref f) args) (CR (L2.CX P w) outer P w H s Q E) s
theorem FnG.mono {P : Program} {w : World} {K : PySem.W.Frag} {mg : Str → Option Value} {base : Heap} {j k : Nat} {f : Addr} {fd : FuncData} {ps : List Str} {sp : Sp} (F : FnG P w K mg base j f fd ps sp) (h : j ≤ k) : FnG P w K mg base k f fd ps sp :=
  ⟨F.len, fun A outer s H args us vs Q E hr => F.run A outer s H args us vs Q E (hr.mono h)⟩
/-- the room of a def's body -/
structure Rm (k : Nat) (A : Around) : Prop where
  room : Room k A
  gd : A.guards = some []
section
variable {P : Program} {w : World} {K : PySem.W.Frag} {mg : Str → Option Value} {base : Heap} {c : Cn}
/-- a def's body, read -/
theorem body_read {N : List Str} {n np : Nat} {b : M Flow} {vs : List V} {H : Hp} {Q : VK} {E : XK} (hn : N.length = n) (h : spF c np (runFn n b) vs H Q E) : tS c b (fun cls d _ H => E cls d H) { nx := fun _ H' => Q .non H', rt := Q } (start N vs) H := by
  obtain ⟨hl, F, as, sr, own, h⟩ := h
  have la : as.length = vs.length := by
    rw [← sr.len, List.length_map]
  have est : start N vs = vs.map some ++ List.replicate (n - as.length) none := by
    show vs.map some ++ List.replicate (N.length - vs.length) none = _
    rw [hn, la]
  obtain ⟨s0, oE⟩ := sr.begin (k := n - as.length)
  refine ⟨F, as ++ List.replicate (n - as.length) .no, by rw [est]; exact s0, ?_⟩
  rw [est]
  cases eb : b (as ++ List.replicate (n - as.length) .no) with
  | none =>
    have z : runFn n b as = none := by
      unfold runFn
      rw [eb]
    rcases h with ⟨o, w, fin, e, _⟩ | ⟨k, w, fin, e, _⟩ <;> rw [z] at e <;> cases e
  | some r =>
    cases r with
    | exc k w s =>
      have z : runFn n b as = some (.exc k w (ends as s)) := by
        unfold runFn
        rw [eb]
      rcases h with ⟨o, w, fin, e, _⟩ | ⟨k, w, fin, e, q⟩
      · rw [z] at e
        cases e
      · rw [z] at e
        cases e
        refine .inr ⟨k, w, s, eb, fun cls d σ' F' H' f' s' l' x => ?_⟩
        obtain ⟨g1, g2, g3, _⟩ := sr.fin s' f' l'
        exact q cls d F' H' g2 g1 g3 x
    | ok fl s =>
      cases fl with
      | nx =>
        have z : runFn n b as = some (.ok (false, .non) (ends as s)) := by
          unfold runFn
          rw [eb]
        rcases h with ⟨o, w, fin, e, q⟩ | ⟨k, w, fin, e, q⟩
        · rw [z] at e
          cases e
          refine .inl ⟨.nx, s, eb, fun σ' F' H' f' s' l' => ?_⟩
          obtain ⟨g1, g2, g3, _⟩ := sr.fin s' f' l'
          refine q .non F' H' g2 g1 g3 ?_
          unfold ResR
          rw [if_neg (fun z => absurd z.1 Bool.false_ne_true)]
          exact rfl
        · rw [z] at e
          cases e
      | ret o' w' =>
        have z : runFn n b as = some (.ok (o', w') (ends as s)) := by
          unfold runFn
          rw [eb]
        rcases h with ⟨o, w, fin, e, q⟩ | ⟨k, w, fin, e, q⟩
        · rw [z] at e
          cases e
          refine .inl ⟨.ret o' w', s, eb, fun σ' F' H' f' s' l' v r => ?_⟩
          obtain ⟨g1, g2, g3, _⟩ := sr.fin s' f' l'
          exact q v F' H' g2 g1 g3 (ret_res own sr s' f' l' (.inr trivial) r)
        · rw [z] at e
          cases e
      | brk =>
        have z : runFn n b as = none := by
          unfold runFn
          rw [eb]
        rcases h with ⟨o, w, fin, e, _⟩ | ⟨k, w, fin, e, _⟩ <;> rw [z] at e <;> cases e
      | cont =>
        have z : runFn n b as = none := by
          unfold runFn
          rw [eb]
        rcases h with ⟨o, w, fin, e, _⟩ | ⟨k, w, fin, e, _⟩ <;> rw [z] at e <;> cases e
/-- a def by its body -/
theorem fn_vi {x qual : Str} {st : Stmt} {f : Addr} {fd : FuncData} {N ps : List Str} {k n np : Nat} {b : M Flow} (F : Fun K x qual st f fd) (S : FnScope N ps (defScope st)) (hn : N.length = n) (hp : ps.length = np)
    (body : ∀ (cdv : Value) (A : Around) (outer : List Env) (s : Shared) (H : Hp) (E : XK), Rm k (A.deeper (envOfC qual (defScope st) s.heap.objs.size f cdv)) → SimB c (cxOf (L2.CX P w) P w K mg base N qual (defScope st) f cdv A outer s H E) (defBody st) b) :
    FnG P w K mg base (k + 1) f fd ps (spF c np (runFn n b)) := by
  obtain ⟨oc, od, kV, doc, pm, an, cdv, ct, osl, rfl, lk, hcd⟩ := F.ex
  refine ⟨fun vs H Q E h => h.1.trans hp.symm, fun A outer s H args us vs Q E hr hg e0 hb rv h => LamX.run_ofS lk hcd S hr e0 hb rv (h.1.trans hp.symm) fun hr' => ?_⟩
  exact ⟨tS c b (fun cls d _ H => E cls d H), body cdv A outer s H E ⟨hr', hg⟩ _ (takes_of rfl rfl rfl rfl), body_read hn h⟩
end
end VI

set_option Elab.async false
set_option linter.all false
set_option maxRecDepth 100000
set_option maxHeartbeats 1000000
/-! VI, part 14: calls. -/
namespace VI
open PySem L2
section
variable {c : Cn} {X : Cx} {Wx : WX} {σ σ' : L2.St} {F F' : Addr → Prop} {H H' : Hp} {ss ss' : Slots} {D : Ends} {e : Expr} {m : M W} {pos : Pos}
/-- an argument's reading -/
def rdA (c : Cn) (Wx : WX) : Arg → TE
  | .ev m => tM c m (rF c) Wx
  | .lend i => tVar i
  | .pk i => tVar i
def rdAs (c : Cn) (Wx : WX) : List Arg → TA
  | [] => tNil
  | o :: os => tCons (rdA c Wx o) (rdAs c Wx os)
def SimA (c : Cn) (X : Cx) (e : Expr) (o : Arg) : Prop := ∀ Wx, Takes X Wx → PE X e (rdA c Wx o)
theorem rdA_mono {o : Arg} {Q Q' : VK} (h : rdA c Wx o σ H Q) (k : ∀ v H', Q v H' → Q' v H') : rdA c Wx o σ H Q' := by
  cases o with
  | ev m => exact tM.mono h k
  | pk i =>
    obtain ⟨v, e, q⟩ := h
    exact ⟨v, e, k _ _ q⟩
  | lend i =>
    obtain ⟨v, e, q⟩ := h
    exact ⟨v, e, k _ _ q⟩
theorem rdAs_mono : ∀ {os : List Arg} {H : Hp} {Q Q' : List V → Hp → Prop}, rdAs c Wx os σ H Q → (∀ v H', Q v H' → Q' v H') → rdAs c Wx os σ H Q'
  | [], _, _, _, h, k => k _ _ h
  | o :: os, _, _, _, h, k => rdA_mono h fun v H' q => rdAs_mono (os := os) q fun vs H2 q2 => k _ _ q2
/-- an argument as it stands before the call -/
def ArgR (c : Cn) (σ : L2.St) (F : Addr → Prop) (H : Hp) (ss : Slots) : Arg → Slot → V → Prop
  | .ev _, s, v => ∃ w, s = .fr false w ∧ RepF c F H w v
  | .lend i, s, v => ∃ l w, ss[i]? = some (.own l w) ∧ s = .own true w ∧ σ[i]? = some (some v)
  | .pk i, s, v => ∃ w, s = .lk w ∧ RepL c F H w v ∧ σ[i]? = some (some v) ∧ rdSlot i ss = some (.ok w ss)
def ArgsR (c : Cn) (σ : L2.St) (F : Addr → Prop) (H : Hp) (ss : Slots) : List Arg → List Slot → List V → Prop
  | [], sl, vs => sl = [] ∧ vs = []
  | a :: as, sl, vs => ∃ s v sl' vs', sl = s :: sl' ∧ vs = v :: vs' ∧ ArgR c σ F H ss a s v ∧ ArgsR c σ F H ss as sl' vs'
theorem ArgsR.len : ∀ {as : List Arg} {sl : List Slot} {vs : List V}, ArgsR c σ F H ss as sl vs → sl.length = as.length ∧ vs.length = as.length
  | [], _, _, h => by
    obtain ⟨rfl, rfl⟩ := h
    exact ⟨rfl, rfl⟩
  | _ :: _, _, _, h => by
    obtain ⟨s, v, sl', vs', rfl, rfl, _, h⟩ := h
    obtain ⟨h1, h2⟩ := h.len
    exact ⟨by rw [List.length_cons, List.length_cons, h1], by rw [List.length_cons, List.length_cons, h2]⟩
theorem ArgsR.get : ∀ {as : List Arg} {sl : List Slot} {vs : List V} {j : Nat} {s : Slot}, ArgsR c σ F H ss as sl vs → sl[j]? = some s → ∃ a v, as[j]? = some a ∧ vs[j]? = some v ∧ ArgR c σ F H ss a s v
  | [], _, _, _, _, h, e => by
    obtain ⟨rfl, rfl⟩ := h
    simp at e
  | a :: as, _, _, 0, s, h, e => by
    obtain ⟨s', v, sl', vs', rfl, rfl, r, h⟩ := h
    have e : s' = s := by simpa using e
    subst e
    exact ⟨a, v, rfl, rfl, r⟩
  | a :: as, _, _, j + 1, s, h, e => by
    obtain ⟨s', v, sl', vs', rfl, rfl, r, h⟩ := h
    rw [List.getElem?_cons_succ] at e
    obtain ⟨a', v', h1, h2, h3⟩ := ArgsR.get h e
    exact ⟨a', v', by rw [List.getElem?_cons_succ]; exact h1, by rw [List.getElem?_cons_succ]; exact h2, h3⟩
/-- slot i is read as w -/
theorem rd_some {i : Nat} {w : W} (h : rdSlot i ss = some (.ok w ss)) : ∃ t, ss[i]? = some t ∧ ((∃ l, t = .fr l w) ∨ (∃ l, t = .own l w) ∨ t = .lk w) := by
  unfold rdSlot at h
  split at h
  · rename_i l w' e
    cases h
    exact ⟨_, e, .inl ⟨l, rfl⟩⟩
  · rename_i l w' e
    cases h
    exact ⟨_, e, .inr (.inl ⟨l, rfl⟩)⟩
  · rename_i w' e
    cases h
    exact ⟨_, e, .inr (.inr rfl)⟩
  · cases h
theorem args_read {γ δ : Type} {T : Rl γ δ} (hT : Early T) {Q : δ → Hp → Prop} : ∀ (as : List Arg) {H : Hp} {F : Addr → Prop} {ss : Slots} {k : List Slot → M γ}, SR c F H σ ss → From c (mbd (args as) k) T Wx σ F H ss Q →
    rdAs c Wx as σ H fun vs H' => ∃ sl F' ss', SR c F' H' σ ss' ∧ ArgsR c σ F' H' ss' as sl vs ∧ Fm F H (OwnA σ ss) F' H' (OwnA σ ss') ∧ From c (k sl) T Wx σ F' H' ss' Q
  | [], H, F, ss, k, s, h => ⟨[], F, ss, s, ⟨rfl, rfl⟩, .refl, h⟩
  | .ev m :: r, H, F, ss, k, s, h => by
    have h2 : From c (mbd m fun w => mbd (args r) fun ws => k (.fr false w :: ws)) T Wx σ F H ss Q := by
      have e : mbd (args (.ev m :: r)) k = mbd m fun w => mbd (args r) fun ws => k (.fr false w :: ws) := by
        show mbd (mbd m fun w => mbd (args r) fun ws => mret (.fr false w :: ws)) k = _
        rw [mbd_assoc]
        congr 1
        funext w
        rw [mbd_assoc]
        rfl
      rw [← e]
      exact h
    refine ⟨F, ss, s, (From.bind (U := rF c) hT h2).mono fun v H1 ⟨w, F1, ss1, _, s1, u1, f1, l1, h3⟩ => ?_⟩
    refine rdAs_mono (args_read hT r s1 h3) fun vs H' ⟨ws, F', ss', s', u', f', h'⟩ => ?_
    exact ⟨.fr false w :: ws, F', ss', s', ⟨_, v, ws, vs, rfl, rfl, ⟨w, rfl, RepF.kp (s1.kp f') _ _ u1⟩, u'⟩, f1.trans f', h'⟩
  | .lend i :: r, H, F, ss, k, s, h => by
    have e : mbd (args (.lend i :: r)) k = mbd (rdSlot i) fun _ => mbd (args r) fun ws => mbd (addLend i ws) k := by
      show mbd (mbd (rdSlot i) fun _ => mbd (args r) fun ws => addLend i ws) k = _
      rw [mbd_assoc]
      congr 1
      funext w
      rw [mbd_assoc]
    rw [e] at h
    cases er : rdSlot i ss with
    | none =>
      have z : mbd (rdSlot i) (fun _ => mbd (args r) fun ws => mbd (addLend i ws) k) ss = none := by unfold mbd; rw [er]
      rcases h with ⟨a, s', e1, _⟩ | ⟨j, w, s', e1, _⟩ <;> rw [z] at e1 <;> cases e1
    | some t =>
      obtain ⟨w0, v, et, ev, _⟩ := rd_slot s er
      subst et
      have h2 : From c (mbd (args r) fun ws => mbd (addLend i ws) k) T Wx σ F H ss Q := by
        unfold From at h ⊢
        rw [mbd_ok er] at h
        exact h
      refine ⟨v, ev, rdAs_mono (args_read hT r s h2) fun vs H' ⟨ws, F', ss', s', u', f', h'⟩ => ?_⟩
      by_cases go : ∃ l w, ss'[i]? = some (.own l w)
      · obtain ⟨l, w, e2⟩ := go
        refine ⟨.own true w :: ws, F', ss', s', ⟨_, v, ws, vs, rfl, rfl, ⟨l, w, e2, rfl, ev⟩, u'⟩, f', ?_⟩
        have z : mbd (addLend i ws) k ss' = k (.own true w :: ws) ss' := mbd_ok (m := addLend i ws) (a := .own true w :: ws) (s := ss') (by unfold addLend; rw [e2])
        unfold From at h' ⊢
        rw [z] at h'
        exact h'
      · have z0 : addLend i ws ss' = none := by
          unfold addLend
          split
          · rename_i l w e2
            exact absurd ⟨l, w, e2⟩ go
          · rfl
        have z : mbd (addLend i ws) k ss' = none := by
          unfold mbd
          rw [z0]
        rcases h' with ⟨a, s', e1, _⟩ | ⟨j, w, s', e1, _⟩ <;> rw [z] at e1 <;> cases e1
  | .pk i :: r, H, F, ss, k, s, h => by
    have e : mbd (args (.pk i :: r)) k = mbd (rdSlot i) fun _ => mbd (args r) fun ws => mbd (rdSlot i) fun w => k (.lk w :: ws) := by
      show mbd (mbd (rdSlot i) fun _ => mbd (args r) fun ws => mbd (rdSlot i) fun w => mret (.lk w :: ws)) k = _
      rw [mbd_assoc]
      congr 1
      funext w
      rw [mbd_assoc]
      congr 1
      funext ws
      rw [mbd_assoc]
      rfl
    rw [e] at h
    cases er : rdSlot i ss with
    | none =>
      have z : mbd (rdSlot i) (fun _ => mbd (args r) fun ws => mbd (rdSlot i) fun w => k (.lk w :: ws)) ss = none := by unfold mbd; rw [er]
      rcases h with ⟨a, s', e1, _⟩ | ⟨j, w, s', e1, _⟩ <;> rw [z] at e1 <;> cases e1
    | some t =>
      obtain ⟨w0, v, et, ev, _⟩ := rd_slot s er
      subst et
      have h2 : From c (mbd (args r) fun ws => mbd (rdSlot i) fun w => k (.lk w :: ws)) T Wx σ F H ss Q := by
        unfold From at h ⊢
        rw [mbd_ok er] at h
        exact h
      refine ⟨v, ev, rdAs_mono (args_read hT r s h2) fun vs H' ⟨ws, F', ss', s', u', f', h'⟩ => ?_⟩
      cases er2 : rdSlot i ss' with
      | none =>
        have z : mbd (rdSlot i) (fun w => k (.lk w :: ws)) ss' = none := by unfold mbd; rw [er2]
        rcases h' with ⟨a, s', e1, _⟩ | ⟨j, w, s', e1, _⟩ <;> rw [z] at e1 <;> cases e1
      | some t2 =>
        obtain ⟨w, v2, et2, ev2, rl⟩ := rd_slot s' er2
        subst et2
        rw [ev] at ev2
        cases ev2
        refine ⟨.lk w :: ws, F', ss', s', ⟨_, v, ws, vs, rfl, rfl, ⟨w, rfl, rl, ev, er2⟩, u'⟩, f', ?_⟩
        unfold From at h' ⊢
        rw [mbd_ok er2] at h'
        exact h'
/-! ### what is lent -/
theorem lend_mem : ∀ {as : List Arg} {j i : Nat}, as[j]? = some (.lend i) → i ∈ lendIx as
  | [], _, _, h => by simp at h
  | a :: as, 0, i, h => by
    have e : a = .lend i := by simpa using h
    subst e
    exact List.mem_cons_self
  | a :: as, j + 1, i, h => by
    rw [List.getElem?_cons_succ] at h
    have z := lend_mem h
    cases a with
    | lend k => exact List.mem_cons_of_mem _ z
    | ev m => exact z
    | pk k => exact z
theorem pk_mem : ∀ {as : List Arg} {j i : Nat}, as[j]? = some (.pk i) → i ∈ lendsOk.pkIx as
  | [], _, _, h => by simp at h
  | a :: as, 0, i, h => by
    have e : a = .pk i := by simpa using h
    subst e
    exact List.mem_cons_self
  | a :: as, j + 1, i, h => by
    rw [List.getElem?_cons_succ] at h
    have z := pk_mem h
    cases a with
    | pk k => exact List.mem_cons_of_mem _ z
    | ev m => exact z
    | lend k => exact z
theorem not_has {i : Nat} {l : List Nat} (h : (!l.contains i) = true) : i ∉ l := fun z => by
  rw [Bool.not_eq_true', List.contains_eq_mem, decide_eq_false_iff_not] at h
  exact h z
theorem lend_inj : ∀ {as : List Arg} {j k i : Nat}, lendsOk as = true → as[j]? = some (.lend i) → as[k]? = some (.lend i) → j = k
  | [], _, _, _, _, h, _ => by simp at h
  | a :: as, 0, 0, i, _, _, _ => rfl
  | a :: as, 0, k + 1, i, ok, h, h' => by
    have e : a = .lend i := by simpa using h
    subst e
    rw [List.getElem?_cons_succ] at h'
    unfold lendsOk at ok
    rw [Bool.and_eq_true, Bool.and_eq_true] at ok
    exact absurd (lend_mem h') (not_has ok.1.1)
  | a :: as, j + 1, 0, i, ok, h, h' => by
    have e : a = .lend i := by simpa using h'
    subst e
    rw [List.getElem?_cons_succ] at h
    unfold lendsOk at ok
    rw [Bool.and_eq_true, Bool.and_eq_true] at ok
    exact absurd (lend_mem h) (not_has ok.1.1)
  | a :: as, j + 1, k + 1, i, ok, h, h' => by
    rw [List.getElem?_cons_succ] at h h'
    have ok' : lendsOk as = true := by
      cases a with
      | lend x =>
        unfold lendsOk at ok
        rw [Bool.and_eq_true] at ok
        exact ok.2
      | pk x =>
        unfold lendsOk at ok
        rw [Bool.and_eq_true] at ok
        exact ok.2
      | ev x => exact ok
    rw [lend_inj ok' h h']
theorem lend_pk : ∀ {as : List Arg} {j k i : Nat}, lendsOk as = true → as[j]? = some (.lend i) → as[k]? = some (.pk i) → False
  | [], _, _, _, _, h, _ => by simp at h
  | a :: as, 0, 0, i, _, h, h' => by
    rw [h] at h'
    cases h'
  | a :: as, 0, k + 1, i, ok, h, h' => by
    have e : a = .lend i := by simpa using h
    subst e
    rw [List.getElem?_cons_succ] at h'
    unfold lendsOk at ok
    rw [Bool.and_eq_true, Bool.and_eq_true] at ok
    exact absurd (pk_mem h') (not_has ok.1.2)
  | a :: as, j + 1, 0, i, ok, h, h' => by
    have e : a = .pk i := by simpa using h'
    subst e
    rw [List.getElem?_cons_succ] at h
    unfold lendsOk at ok
    rw [Bool.and_eq_true] at ok
    exact absurd (lend_mem h) (not_has ok.1)
  | a :: as, j + 1, k + 1, i, ok, h, h' => by
    rw [List.getElem?_cons_succ] at h h'
    have ok' : lendsOk as = true := by
      cases a with
      | lend x =>
        unfold lendsOk at ok
        rw [Bool.and_eq_true] at ok
        exact ok.2
      | pk x =>
        unfold lendsOk at ok
        rw [Bool.and_eq_true] at ok
        exact ok.2
      | ev x => exact ok
    exact lend_pk ok' h h'
/-- the callee's frame -/
theorem ArgsR.own {as : List Arg} {sl : List Slot} {vs : List V} {j : Nat} {t : Slot} (h : ArgsR c σ F H ss as sl vs) (e : sl[j]? = some t) (o : isOwn t = true) : ∃ i l w v, as[j]? = some (.lend i) ∧ t = .own true w ∧ ss[i]? = some (.own l w) ∧ vs[j]? = some v ∧ σ[i]? = some (some v) := by
  obtain ⟨a, v, h1, h2, h3⟩ := h.get e
  cases a with
  | ev m =>
    obtain ⟨w, rfl, _⟩ := h3
    cases o
  | lend i =>
    obtain ⟨l, w, h4, h5, h6⟩ := h3
    exact ⟨i, l, w, v, h1, h5, h4, h2, h6⟩
  | pk i =>
    obtain ⟨w, rfl, _⟩ := h3
    cases o
theorem map_some {vs : List V} {j : Nat} {ov : Option V} (h : (vs.map some)[j]? = some ov) : ∃ v, ov = some v ∧ vs[j]? = some v := by
  rw [List.getElem?_map] at h
  cases e : vs[j]? with
  | none =>
    rw [e] at h
    cases h
  | some v =>
    rw [e] at h
    cases h
    exact ⟨v, rfl, rfl⟩
theorem SR.callee {as : List Arg} {sl : List Slot} {vs : List V} (s : SR c F H σ ss) (h : ArgsR c σ F H ss as sl vs) (ok : lendsOk as = true) : SR c F H (vs.map some) sl ∧ (∀ w, Slot.own false w ∉ sl) ∧ ∀ a, OwnA (vs.map some) sl a → ∃ (i j : Nat) (l : Bool) (w : W), as[j]? = some (.lend i) ∧ sl[j]? = some (.own true w) ∧ ss[i]? = some (.own l w) ∧ σ[i]? = some (some (.ref a)) ∧ vs[j]? = some (.ref a) := by
  obtain ⟨len1, len2⟩ := h.len
  have own : ∀ a, OwnA (vs.map some) sl a → ∃ (i j : Nat) (l : Bool) (w : W), as[j]? = some (.lend i) ∧ sl[j]? = some (.own true w) ∧ ss[i]? = some (.own l w) ∧ σ[i]? = some (some (.ref a)) ∧ vs[j]? = some (.ref a) := fun a ⟨j, t, h1, h2, h3⟩ => by
    obtain ⟨i, l, w, v, e1, e2, e3, e4, e5⟩ := h.own h1 h2
    obtain ⟨v', e6, e7⟩ := map_some h3
    rw [e4] at e7
    cases e7
    cases e6
    subst e2
    exact ⟨i, j, l, w, e1, h1, e3, e5, e4⟩
  have sub : ∀ a, OwnA (vs.map some) sl a → OwnA σ ss a := fun a z => by
    obtain ⟨i, j, l, w, e1, e2, e3, e4, e5⟩ := own a z
    exact ⟨i, _, e3, rfl, e4⟩
  refine ⟨⟨by rw [List.length_map, len1, len2], fun j t ov h1 h2 => ?_, fun b hb => s.nf b (sub b hb), fun j k t u b h1 h2 h3 h4 h5 h6 => ?_, fun b hl hb => ?_, s.live⟩, fun w hw => ?_, own⟩
  · obtain ⟨v, e1, e2⟩ := map_some h2
    subst e1
    obtain ⟨a, v', e3, e4, r⟩ := h.get h1
    rw [e2] at e4
    cases e4
    cases a with
    | ev m =>
      obtain ⟨w, rfl, r⟩ := r
      exact ⟨v, rfl, r⟩
    | lend i =>
      obtain ⟨l, w, e5, rfl, e6⟩ := r
      obtain ⟨b, e7, ow⟩ := s.rel i _ _ e5 e6
      exact ⟨b, e7, ow⟩
    | pk i =>
      obtain ⟨w, rfl, r, _⟩ := r
      exact ⟨v, rfl, r⟩
  · obtain ⟨i1, l1, w1, v1, e1, e2, e3, e4, e5⟩ := h.own h1 h3
    obtain ⟨i2, l2, w2, v2, g1, g2, g3, g4, g5⟩ := h.own h2 h4
    obtain ⟨v, e6, e7⟩ := map_some h5
    rw [e4] at e7
    cases e7
    cases e6
    obtain ⟨v, e6, e7⟩ := map_some h6
    rw [g4] at e7
    cases e7
    cases e6
    have := s.inj i1 i2 _ _ b e3 g3 rfl rfl e5 g5
    subst this
    exact lend_inj ok e1 g1
  · obtain ⟨i, j, l, w, e1, e2, e3, e4, e5⟩ := own b hb
    obtain ⟨k, w', h1, h2, h3⟩ := hl
    obtain ⟨v, e6, e7⟩ := map_some h3
    cases e6
    obtain ⟨a, v', e8, e9, r⟩ := h.get h1
    rw [e7] at e9
    cases e9
    cases a with
    | ev m =>
      obtain ⟨w, z, r⟩ := r
      cases z
    | lend i =>
      obtain ⟨l, w, _, z, _⟩ := r
      cases z
    | pk i2 =>
      obtain ⟨w2, z, r, e10, e11⟩ := r
      cases z
      obtain ⟨t, e12, e13⟩ := rd_some e11
      rcases e13 with ⟨l', rfl⟩ | ⟨l', rfl⟩ | rfl
      · obtain ⟨v3, e14, r3⟩ := s.rel i2 _ _ e12 e10
        cases e14
        have : F b := by
          cases w' with
          | lst ws =>
            obtain ⟨a2, vs2, e4, hF, _⟩ := r3
            cases e4
            exact hF
          | dct ks ws =>
            obtain ⟨a2, vs2, e4, hF, _⟩ := r3
            cases e4
            exact hF
          | _ => cases h2
        exact s.nf b (sub b hb) this
      · have := s.inj i i2 _ _ b e3 e12 rfl rfl e4 e10
        subst this
        exact lend_pk ok e1 e8
      · exact s.lk b ⟨i2, w', e12, h2, e10⟩ (sub b hb)
  · obtain ⟨j, hj⟩ := List.mem_iff_getElem?.mp hw
    obtain ⟨i, l, w2, v, e1, e2, _⟩ := h.own hj rfl
    cases e2
theorem back_get : ∀ {as : List Arg} {fin : List Slot} {t : Slots} {k : Nat} {s : Slot}, lendsOk as = true → fin.length = as.length → (∀ (j i : Nat), as[j]? = some (.lend i) → ∃ (l : Bool) (w : W), t[i]? = some (.own l w)) → (back as fin t)[k]? = some s →
    (t[k]? = some s ∧ ∀ (j : Nat), as[j]? ≠ some (.lend k)) ∨ ∃ (j : Nat) (l : Bool) (w : W) (s' : Slot), as[j]? = some (.lend k) ∧ t[k]? = some (.own l w) ∧ fin[j]? = some s' ∧ s = back1 l s'
  | [], fin, t, k, s, _, _, _, h => .inl ⟨by unfold back at h; exact h, fun j z => by simp at z⟩
  | a :: as, [], t, k, s, _, hl, _, h => by simp at hl
  | a :: as, f0 :: fin, t, k, s, ok, hl, ht, h => by
    have hl' : fin.length = as.length := by simpa using hl
    have ok' : lendsOk as = true := by
      cases a with
      | lend x =>
        unfold lendsOk at ok
        rw [Bool.and_eq_true] at ok
        exact ok.2
      | pk x =>
        unfold lendsOk at ok
        rw [Bool.and_eq_true] at ok
        exact ok.2
      | ev x => exact ok
    have rest : (∀ i, a ≠ .lend i) → back as fin t = back (a :: as) (f0 :: fin) t := fun n => by
      cases a with
      | lend i => exact absurd rfl (n i)
      | ev m => rfl
      | pk i => rfl
    by_cases hlend : ∃ i, a = .lend i
    · obtain ⟨i, rfl⟩ := hlend
      obtain ⟨l, w, ei⟩ := ht 0 i rfl
      have h : (back as fin (match t[i]? with | some (.own l _) => t.set i (back1 l f0) | _ => t))[k]? = some s := h
      rw [ei] at h
      have h : (back as fin (t.set i (back1 l f0)))[k]? = some s := h
      have ok1 := ok
      unfold lendsOk at ok1
      rw [Bool.and_eq_true, Bool.and_eq_true] at ok1
      have ni : i ∉ lendIx as := not_has ok1.1.1
      have ht' : ∀ (j i' : Nat), as[j]? = some (.lend i') → ∃ (l' : Bool) (w' : W), (t.set i (back1 l f0))[i']? = some (.own l' w') := fun j i' e => by
        have n : i' ≠ i := fun z => by
          rw [z] at e
          exact ni (lend_mem e)
        obtain ⟨l2, w2, e2⟩ := ht (j + 1) i' e
        exact ⟨l2, w2, by rw [List.getElem?_set_ne (Ne.symm n)]; exact e2⟩
      rcases back_get ok' hl' ht' h with ⟨h1, h2⟩ | ⟨j, l2, w2, s', h1, h2, h3, h4⟩
      · rcases get_set h1 with ⟨rfl, rfl⟩ | ⟨n, h1⟩
        · exact .inr ⟨0, l, w, f0, rfl, ei, rfl, rfl⟩
        · refine .inl ⟨h1, fun j => ?_⟩
          cases j with
          | zero =>
            intro z
            have z : Arg.lend i = .lend k := by simpa using z
            cases z
            exact n rfl
          | succ j => exact h2 j
      · have n : k ≠ i := fun z => by
          rw [z] at h1
          exact ni (lend_mem h1)
        rw [List.getElem?_set_ne (Ne.symm n)] at h2
        exact .inr ⟨j + 1, l2, w2, s', h1, h2, h3, h4⟩
    · have n : ∀ i, a ≠ .lend i := fun i z => hlend ⟨i, z⟩
      rw [← rest n] at h
      rcases back_get ok' hl' (fun j i e => ht (j + 1) i e) h with ⟨h1, h2⟩ | ⟨j, l2, w2, s', h1, h2, h3, h4⟩
      · refine .inl ⟨h1, fun j => ?_⟩
        cases j with
        | zero =>
          intro z
          have z : a = .lend k := by simpa using z
          exact n k z
        | succ j => exact h2 j
      · exact .inr ⟨j + 1, l2, w2, s', h1, h2, h3, h4⟩
theorem back_len : ∀ {as : List Arg} {fin : List Slot} {t : Slots}, (back as fin t).length = t.length
  | [], fin, t => by
    unfold back
    rfl
  | a :: as, [], t => by
    cases a <;> rfl
  | .ev m :: as, f0 :: fin, t => back_len (as := as) (fin := fin) (t := t)
  | .pk i :: as, f0 :: fin, t => back_len (as := as) (fin := fin) (t := t)
  | .lend i :: as, f0 :: fin, t => by
    show (back as fin (match t[i]? with | some (.own l _) => t.set i (back1 l f0) | _ => t)).length = _
    rw [back_len]
    split
    · rw [List.length_set]
    · rfl
/-- behind the call -/
theorem SR.back {as : List Arg} {sl fin : List Slot} {vs : List V} (s : SR c F H σ ss) (h : ArgsR c σ F H ss as sl vs) (ok : lendsOk as = true) (s' : SR c F' H' (vs.map some) fin) (f : Fm F H (OwnA (vs.map some) sl) F' H' (OwnA (vs.map some) fin)) (l : Ln (vs.map some) sl (vs.map some) fin) :
    SR c F' H' σ (VI.back as fin ss) ∧ Fm F H (OwnA σ ss) F' H' (OwnA σ (VI.back as fin ss)) ∧ Ln σ ss σ (VI.back as fin ss) ∧ (∀ a, Fr H a → ¬ Busy σ (VI.back as fin ss) a) := by
  obtain ⟨sm, nown, own⟩ := s.callee h ok
  obtain ⟨len1, len2⟩ := h.len
  have lenf : fin.length = as.length := by rw [← s'.len, List.length_map, len2]
  have subm : ∀ a, OwnA (vs.map some) sl a → OwnA σ ss a := fun a z => by
    obtain ⟨i, j, l, w, e1, e2, e3, e4, e5⟩ := own a z
    exact ⟨i, _, e3, rfl, e4⟩
  have lent : ∀ (j i : Nat), as[j]? = some (.lend i) → ∃ (l : Bool) (w : W) (v : V), ss[i]? = some (.own l w) ∧ sl[j]? = some (.own true w) ∧ vs[j]? = some v ∧ σ[i]? = some (some v) := fun j i e => by
    have hj : j < sl.length := by rw [len1]; exact (List.getElem?_eq_some_iff.mp e).1
    obtain ⟨a, v, h1, h2, h3⟩ := h.get (List.getElem?_eq_getElem hj)
    rw [e] at h1
    cases h1
    obtain ⟨l, w, h4, h5, h6⟩ := h3
    exact ⟨l, w, v, h4, by rw [← h5, List.getElem?_eq_getElem hj], h2, h6⟩
  -- a slot behind the call
  have look : ∀ (k : Nat) (t : Slot), (VI.back as fin ss)[k]? = some t → (ss[k]? = some t ∧ ∀ (j : Nat), as[j]? ≠ some (.lend k)) ∨ ∃ (l : Bool) (w : W) (a : Addr) (w' : W), ss[k]? = some (.own l w) ∧ σ[k]? = some (some (.ref a)) ∧ isMut w' = true ∧ ((t = .own l w' ∧ OwnAt c F' H' a w' ∧ ¬ F' a) ∨ (t = .fr l w' ∧ RepF c F' H' w' (.ref a))) := fun k t e => by
    rcases back_get ok lenf (fun j i e => by obtain ⟨l, w, v, e1, _⟩ := lent j i e; exact ⟨l, w, e1⟩) e with h1 | ⟨j, l0, w0, s1, h1, h2, h3, h4⟩
    · exact .inl h1
    · obtain ⟨l1, w1, v, g1, g2, g3, g4⟩ := lent j k h1
      rw [h2] at g1
      cases g1
      obtain ⟨b, eb, ow⟩ := s.rel k _ _ h2 g4
      cases eb
      refine .inr ⟨l0, w0, b, ?_⟩
      obtain ⟨_, t1, e1, e2⟩ := l.st j _ g2 rfl
      rw [h3] at e1
      cases e1
      have eσ : (vs.map some)[j]? = some (some (.ref b)) := by rw [List.getElem?_map, g3]; rfl
      rcases e2 with ⟨w', rfl⟩ | ⟨w', rfl, mw⟩
      · obtain ⟨b', eb', ow'⟩ := s'.rel j _ _ h3 eσ
        cases eb'
        exact ⟨w', h2, g4, ow'.mutW, .inl ⟨h4, ow', s'.nf b ⟨j, _, h3, rfl, eσ⟩⟩⟩
      · obtain ⟨b', eb', rw'⟩ := s'.rel j _ _ h3 eσ
        cases eb'
        exact ⟨w', h2, g4, mw, .inr ⟨h4, rw'⟩⟩
  have sub : ∀ a, OwnA σ (VI.back as fin ss) a → OwnA σ ss a := fun a ⟨k, t, h1, h2, h3⟩ => by
    rcases look k t h1 with ⟨h4, _⟩ | ⟨l, w, a', w', h4, h5, _⟩
    · exact ⟨k, t, h4, h2, h3⟩
    · exact ⟨k, _, h4, rfl, h3⟩
  have subl : ∀ a, LkA σ (VI.back as fin ss) a → LkA σ ss a := fun a ⟨k, w, h1, h2, h3⟩ => by
    rcases look k _ h1 with ⟨h4, _⟩ | ⟨l, w, a', w', h4, h5, _, ⟨h6, _⟩ | ⟨h6, _⟩⟩
    · exact ⟨k, w, h4, h2, h3⟩
    · cases h6
    · cases h6
  have fm : Fm F H (OwnA σ ss) F' H' (OwnA σ (VI.back as fin ss)) := ⟨fun a o h n t => f.keep a o h (fun z => n (subm a z)) t, f.live, f.mono, fun a z => by
    rcases f.fnew a z with z | z | z
    · exact .inl z
    · exact .inr (.inl (subm a z))
    · exact .inr (.inr z), fun a z => .inl (sub a z)⟩
  have k := s.kp fm
  -- what was not lent stands
  have notm : ∀ {k : Nat} {t : Slot} {a : Addr}, ss[k]? = some t → (∀ (j : Nat), as[j]? ≠ some (.lend k)) → isOwn t = true → σ[k]? = some (some (.ref a)) → ¬ OwnA (vs.map some) sl a := fun {k t a} h1 h2 h3 h4 z => by
    obtain ⟨i, j, l, w, e1, e2, e3, e4, e5⟩ := own a z
    have := s.inj k i _ _ a h1 e3 h3 rfl h4 e4
    subst this
    exact h2 j e1
  refine ⟨⟨by rw [back_len]; exact s.len, fun i t ov h1 h2 => ?_, fun b hb => ?_, fun i j t u b h1 h2 h3 h4 h5 h6 => ?_, fun b hl hb => s.lk b (subl b hl) (sub b hb), s'.live⟩, fm, ⟨fun i t h1 h2 => ⟨rfl, ?_⟩, fun i w h1 => ?_⟩, fun a ha z => s.fresh ha (z.imp (sub a) (subl a))⟩
  · rcases look i t h1 with ⟨h3, h4⟩ | ⟨l, w, a, w', h3, h4, mw, ⟨h5, h6, _⟩ | ⟨h5, h6⟩⟩
    · have q := s.rel i t ov h3 h2
      cases t with
      | no => trivial
      | fr l w =>
        obtain ⟨v, ev, q⟩ := q
        exact ⟨v, ev, RepF.kp k _ _ q⟩
      | own l w =>
        obtain ⟨b, ev, q⟩ := q
        subst ev
        exact ⟨b, rfl, q.keep k fun o ho t => f.keep b o ho (notm h3 h4 rfl h2) t⟩
      | lk w =>
        obtain ⟨v, ev, q⟩ := q
        refine ⟨v, ev, ?_⟩
        rcases q with q | ⟨b, eb, q⟩
        · exact .inl (RepF.kp k _ _ q)
        · subst eb
          subst ev
          exact .inr ⟨b, rfl, q.keep k fun o ho t => f.keep b o ho (fun z => s.lk b ⟨i, w, h3, q.mutW, h2⟩ (subm b z)) t⟩
    · rw [h4] at h2
      cases h2
      subst h5
      exact ⟨a, rfl, h6⟩
    · rw [h4] at h2
      cases h2
      subst h5
      exact ⟨_, rfl, h6⟩
  · obtain ⟨i, t, h1, h2, h3⟩ := hb
    rcases look i t h1 with ⟨h4, h5⟩ | ⟨l, w, a, w', h4, h5, mw, ⟨h6, h7, h8⟩ | ⟨h6, h7⟩⟩
    · obtain ⟨u, hu, mu, _⟩ := s.own ⟨i, t, h4, h2, h3⟩
      exact f.notF (s.nf b ⟨i, t, h4, h2, h3⟩) (notm h4 h5 h2 h3) hu (noTb_mut mu)
    · rw [h5] at h3
      cases h3
      exact h8
    · subst h6
      cases h2
  · have old : ∀ {i : Nat} {t : Slot}, (VI.back as fin ss)[i]? = some t → isOwn t = true → ∃ t', ss[i]? = some t' ∧ isOwn t' = true := fun {i t} e o => by
      rcases look i t e with ⟨h4, h5⟩ | ⟨l, w, a, w', h4, _⟩
      · exact ⟨t, h4, o⟩
      · exact ⟨_, h4, rfl⟩
    obtain ⟨t', g1, g2⟩ := old h1 h3
    obtain ⟨u', g3, g4⟩ := old h2 h4
    exact s.inj i j t' u' b g1 g3 g2 g4 h5 h6
  · have hl : i < (VI.back as fin ss).length := by
      rw [back_len]
      exact (List.getElem?_eq_some_iff.mp h1).1
    refine ⟨_, List.getElem?_eq_getElem hl, ?_⟩
    rcases look i _ (List.getElem?_eq_getElem hl) with ⟨h4, h5⟩ | ⟨l, w, a, w', h4, h5, mw, ⟨h6, h7, h8⟩ | ⟨h6, h7⟩⟩
    · rw [h1] at h4
      rw [← Option.some.inj h4]
      exact Nfr.refl h2
    · rw [h1] at h4
      cases h4
      rw [h6]
      cases l
      · cases h2
      · exact .inl ⟨w', rfl⟩
    · rw [h1] at h4
      cases h4
      rw [h6]
      cases l
      · cases h2
      · exact .inr ⟨w', rfl, mw⟩
  · rcases look i _ h1 with ⟨h4, _⟩ | ⟨l, w, a', w', h4, h5, _, ⟨h6, _⟩ | ⟨h6, _⟩⟩
    · exact h4
    · cases h6
    · cases h6
/-! ### calls -/
inductive SimAs (c : Cn) (X : Cx) : List Expr → List Arg → Prop
  | nil : SimAs c X [] []
  | cons {e : Expr} {es : List Expr} {o : Arg} {os : List Arg} (h : SimA c X e o) (t : SimAs c X es os) (hs : starEach (e :: es) X.env = (false, eval e X.env) :: starEach es X.env := by rfl) : SimAs c X (e :: es) (o :: os)
theorem SimAs.pa {Wx : WX} (tk : Takes X Wx) : ∀ {es : List Expr} {os : List Arg}, SimAs c X es os → PA X es (rdAs c Wx os)
  | _, _, .nil => pa_nil
  | _, _, .cons h t hs => pa_cons (h Wx tk) (t.pa tk) hs
theorem sim_argE (h : SimE c X e m) : SimA c X e (.ev m) := h
theorem sim_argL (i : Nat) {x : Str} (hN : X.N[i]? = some x := by rfl) (hv : Vis X.env.scope x := by first | exact Or.inl rfl | exact Or.inr (Or.inl rfl) | exact Or.inr (Or.inr rfl)) (hd : (x == ("__debug__" : Str)) = false := by decide)
    (hcd : (x == ("__classdict__" : Str)) = false := by decide) : SimA c X (.Name x pos) (.lend i) := fun _ _ => pe_var hN hv hd hcd
theorem sim_argP (i : Nat) {x : Str} (hN : X.N[i]? = some x := by rfl) (hv : Vis X.env.scope x := by first | exact Or.inl rfl | exact Or.inr (Or.inl rfl) | exact Or.inr (Or.inr rfl)) (hd : (x == ("__debug__" : Str)) = false := by decide)
    (hcd : (x == ("__classdict__" : Str)) = false := by decide) : SimA c X (.Name x pos) (.pk i) := fun _ _ => pe_var hN hv hd hcd
section
variable {k : Nat} {f : Addr} {fd : FuncData} {ps : List Str} {sp : Sp} {E : L2.St → XK} {x : Str} {p : Pos} {es : List Expr} {t : TA}
theorem run_G {pins : List (Addr × Obj)} {s : Shared} {Q : VK} {us : List Value} {vs : List V} (F : FnG X.prog X.w X.K X.mg X.base k f fd ps sp) (hr : Rm k X.A) (hb : Binds X.K fd ps []) (hx : PassesAt (L2.CX X.prog X.w) X σ (E σ)) (I : Inv X pins σ H s) (r : Vals vs us) (h : sp vs H Q (E σ)) :
    wpAny (model X.prog X.w) X.A (call (.ref f) us) (EP X pins σ Q) X.xe s := by
  have n : us.length = ps.length := r.length.symm.trans (F.len _ _ _ _ h)
  have b := hb s us I.kIn (by rw [List.append_nil]; exact n)
  rw [List.append_nil] at b
  apply wpAny_call
  refine codeAny_mono (F.run X.A X.stack s H ⟨us, []⟩ us vs Q (E σ) hr.room hr.gd I.env0 b r h) fun r' s' hq => ?_
  match r', hq with
  | .error e, hq => exact hx pins H s e s' I hq
  | .ok (.ret u), hq => exact I.after hq
  | .ok .next, hq => exact False.elim hq
  | .ok .brk, hq => exact False.elim hq
  | .ok .cont, hq => exact False.elim hq
theorem pe_callG (F : FnG X.prog X.w X.K X.mg X.base k f fd ps sp) (hr : Rm k X.A) (hg : Gl X x) (hm : X.mg x = some (.ref f)) (hk : PySem.W.keepIn X.K (.ref f) = true) (hb : Binds X.K fd ps []) (hx : ∀ σ, PassesAt (L2.CX X.prog X.w) X σ (E σ)) (ha : PA X (e :: es) t)
    (hdb : (x == ("__debug__" : Str)) = false) (he : starEach (e :: es) X.env = (false, eval e X.env) :: starEach es X.env) (hpl : (backTo pos (starEach es X.env)).any (·.1) = false) : PE X (.Call (.Name x p) (e :: es) [] pos) (tCallS sp E t) := by
  constructor
  intro pins s σ H Q I h
  apply wpAny_Call_Name_kw
  apply ld_glob I hg hm (hd := hdb)
  exact PySem.W.callWith_K (h₀ := X.base) I.ok.mod.kin hk (thn (ha.run pos pins s σ H _ I h) fun us s1 ⟨vs, H1, I1, r, q⟩ => ⟨I1.kIn, run_G F hr hb (hx σ) I1 r q⟩) he hpl
theorem pe_callG0 (F : FnG X.prog X.w X.K X.mg X.base k f fd ps sp) (hr : Rm k X.A) (hg : Gl X x) (hm : X.mg x = some (.ref f)) (hk : PySem.W.keepIn X.K (.ref f) = true) (hb : Binds X.K fd ps []) (hx : ∀ σ, PassesAt (L2.CX X.prog X.w) X σ (E σ))
    (hdb : (x == ("__debug__" : Str)) = false) : PE X (.Call (.Name x p) [] [] pos) (tCallS sp E tNil) := by
  constructor
  intro pins s σ H Q I h
  apply wpAny_Call_Name_kw
  apply ld_glob I hg hm (hd := hdb)
  exact PySem.W.callWith_K0 I.kIn hk (run_G (us := []) F hr hb (hx σ) I .nil h)
end
/-- a def of the text that can be called here -/
structure Def (c : Cn) (X : Cx) (x : Str) (n : Nat) (g : List Slot → FOut) : Prop where
  is : ∃ k f fd ps, FnG X.prog X.w X.K X.mg X.base k f fd ps (spF c n g) ∧ Rm k X.A ∧ X.mg x = some (.ref f) ∧ PySem.W.keepIn X.K (.ref f) = true ∧ Binds X.K fd ps [] ∧ ps.length = n
/-- behind the arguments -/
def callK (ok : Bool → W → Bool) (g : List Slot → FOut) (as : List Arg) (sl : List Slot) : M W := fun ss => match g sl with
  | some (.ok (o, w) fin) => if ok o w then some (.ok w (VI.back as fin ss)) else none
  | some (.exc k w fin) => some (.exc k w (VI.back as fin ss))
  | none => none
theorem call_core {n : Nat} {g : List Slot → FOut} {as : List Arg} {sl : List Slot} {vs : List V} {Q : VK} {T : Rl W V} {o1 : Bool → W → Bool} (s : SR c F H σ ss) (h : ArgsR c σ F H ss as sl vs) (hn : vs.length = n) (ok : lendsOk as = true)
    (hT : ∀ (o : Bool) (w : W) (v : V) (F' : Addr → Prop) (H' : Hp) (B : Bz) (s2 : Slots), o1 o w = true → SR c F' H' σ s2 → (∀ a, Fr H a → ¬ Busy σ s2 a) → ResR c o B F' H H' w v → ∃ F'', (F'' = F' ∨ ∃ a, Fr H a ∧ F'' = plus F' a) ∧ SR c F'' H' σ s2 ∧ T (BZ σ s2) F'' H H' w v)
    (h2 : From c (callK o1 g as sl) T Wx σ F H ss Q) : spF c n g vs H Q (fun cls d H' => Wx cls d σ H') := by
  obtain ⟨sm, nown, own⟩ := s.callee h ok
  refine ⟨hn, F, sl, sm, nown, ?_⟩
  cases eg : g sl with
  | none =>
    have z : callK o1 g as sl ss = none := by
      unfold callK
      rw [eg]
    rcases h2 with ⟨a, s', e, _⟩ | ⟨j, w, s', e, _⟩ <;> rw [z] at e <;> cases e
  | some r =>
    cases r with
    | exc k w fin =>
      have z : callK o1 g as sl ss = some (.exc k w (VI.back as fin ss)) := by
        unfold callK
        rw [eg]
      rcases h2 with ⟨a, s', e, _⟩ | ⟨j, w, s', e, q⟩
      · rw [z] at e
        cases e
      · rw [z] at e
        cases e
        refine .inr ⟨k, w, fin, rfl, fun cls d F' H' f' s' l' x => ?_⟩
        obtain ⟨g1, g2, g3, _⟩ := s.back h ok s' f' l'
        exact q cls d F' H' g2 g1 g3 x
    | ok p fin =>
      obtain ⟨o, w⟩ := p
      cases e1 : o1 o w with
      | false =>
        have z : callK o1 g as sl ss = none := by
          unfold callK
          rw [eg]
          show (if o1 o w = true then _ else none) = none
          rw [e1]
          rfl
        rcases h2 with ⟨a, s', e, _⟩ | ⟨j, w, s', e, _⟩ <;> rw [z] at e <;> cases e
      | true =>
        have z : callK o1 g as sl ss = some (.ok w (VI.back as fin ss)) := by
          unfold callK
          rw [eg]
          show (if o1 o w = true then _ else none) = _
          rw [e1]
          rfl
        rcases h2 with ⟨a, s', e, q⟩ | ⟨j, w, s', e, _⟩
        · rw [z] at e
          cases e
          refine .inl ⟨o, w, fin, rfl, fun v F' H' f' s' l' r => ?_⟩
          obtain ⟨g1, g2, g3, g4⟩ := s.back h ok s' f' l'
          obtain ⟨F'', eF, sF, tF⟩ := hT o w v F' H' _ _ e1 g1 g4 r
          refine q v F'' H' ?_ sF g3 tF
          rcases eF with rfl | ⟨b, hb, rfl⟩
          · exact g2
          · exact g2.plusA (.inr hb)
        · rw [z] at e
          cases e
theorem SimAs.len {es : List Expr} {as : List Arg} (h : SimAs c X es as) : es.length = as.length := by
  induction h with
  | nil => rfl
  | cons _ _ _ ih => rw [List.length_cons, List.length_cons, ih]
theorem call_T {n : Nat} {g : List Slot → FOut} {as : List Arg} {Q : VK} {T : Rl W V} {o1 : Bool → W → Bool} (eT : Early T) (hn : as.length = n) (ok : lendsOk as = true)
    (hT : ∀ (o : Bool) (w : W) (v : V) (F' : Addr → Prop) (H H' : Hp) (B : Bz) (s2 : Slots), o1 o w = true → SR c F' H' σ s2 → (∀ a, Fr H a → ¬ Busy σ s2 a) → ResR c o B F' H H' w v → ∃ F'', (F'' = F' ∨ ∃ a, Fr H a ∧ F'' = plus F' a) ∧ SR c F'' H' σ s2 ∧ T (BZ σ s2) F'' H H' w v)
    (h : tM c (callM o1 g as) T Wx σ H Q) : tCallS (spF c n g) (WE Wx) (rdAs c Wx as) σ H Q := by
  obtain ⟨F, ss, s, h⟩ := h
  have h : From c (mbd (args as) (callK o1 g as)) T Wx σ F H ss Q := h
  refine rdAs_mono (args_read eT as s h) fun vs H1 ⟨sl, F1, ss1, s1, ar, f1, h1⟩ => ?_
  exact call_core s1 ar (ar.len.2.trans hn) ok (fun o w v F' H' B s2 => hT o w v F' H1 H' B s2) h1
theorem res_F {o : Bool} {w : W} {v : V} {B : Bz} (s : SR c F' H' σ ss) (nb : ∀ a, Fr H a → ¬ Busy σ ss a) (r : ResR c o B F' H H' w v) : ∃ F'', (F'' = F' ∨ ∃ a, Fr H a ∧ F'' = plus F' a) ∧ SR c F'' H' σ ss ∧ rF c (BZ σ ss) F'' H H' w v := by
  unfold ResR at r
  split at r
  · obtain ⟨a, ev, hn, nF, _, ow⟩ := r
    subst ev
    obtain ⟨u, hu, mu, _⟩ := ow.mut
    exact ⟨_, .inr ⟨a, hn, rfl⟩, s.plusA hu mu (fun z => nb a hn (.inl z)), ow.rep⟩
  · exact ⟨F', .inl rfl, s, r⟩
theorem res_O {o : Bool} {w : W} {v : V} {B : Bz} (ho : (o || !isMutW w) = true) (s : SR c F' H' σ ss) (nb : ∀ a, Fr H a → ¬ Busy σ ss a) (r : ResR c o B F' H H' w v) : ∃ F'', (F'' = F' ∨ ∃ a, Fr H a ∧ F'' = plus F' a) ∧ SR c F'' H' σ ss ∧ rO c (BZ σ ss) F'' H H' w v := by
  refine ⟨F', .inl rfl, s, ?_⟩
  unfold ResR at r
  split at r
  · rename_i y
    obtain ⟨a, ev, hn, nF, _, ow⟩ := r
    subst ev
    have nb := nb a hn
    cases w with
    | lst ws => exact ⟨a, rfl, hn, nF, nb, ow⟩
    | dct ks ws => exact ⟨a, rfl, hn, nF, nb, ow⟩
    | _ => cases y.2
  · rename_i y
    cases w with
    | lst ws =>
      cases o
      · cases ho
      · exact absurd ⟨rfl, rfl⟩ y
    | dct ks ws =>
      cases o
      · cases ho
      · exact absurd ⟨rfl, rfl⟩ y
    | _ => exact r
theorem sim_call {x : Str} {n : Nat} {g : List Slot → FOut} {p : Pos} {es : List Expr} {as : List Arg} (d : Def c X x n g) (ha : SimAs c X (e :: es) as) (hn : as.length = n := by rfl) (ok : lendsOk as = true := by rfl) (hg : Gl X x := by rfl) (hdb : (x == ("__debug__" : Str)) = false := by decide)
    (he : starEach (e :: es) X.env = (false, eval e X.env) :: starEach es X.env := by rfl) (hpl : (backTo pos (starEach es X.env)).any (·.1) = false := by rfl) : SimE c X (.Call (.Name x p) (e :: es) [] pos) (eCall g as) := fun Wx tk => by
  obtain ⟨k, f, fd, ps, F, hr, hm, hk, hb, hl⟩ := d.is
  exact PE.imp (pe_callG F hr hg hm hk hb (fun σ => passAt tk σ) (ha.pa tk) hdb he hpl) fun σ H Q q => call_T early_F hn ok (fun o w v F' H H' B s2 _ s nb r => res_F s nb r) q
theorem sim_callO {x : Str} {n : Nat} {g : List Slot → FOut} {p : Pos} {es : List Expr} {as : List Arg} (d : Def c X x n g) (ha : SimAs c X (e :: es) as) (hn : as.length = n := by rfl) (ok : lendsOk as = true := by rfl) (hg : Gl X x := by rfl) (hdb : (x == ("__debug__" : Str)) = false := by decide)
    (he : starEach (e :: es) X.env = (false, eval e X.env) :: starEach es X.env := by rfl) (hpl : (backTo pos (starEach es X.env)).any (·.1) = false := by rfl) : SimO c X (.Call (.Name x p) (e :: es) [] pos) (eCallO g as) := fun Wx tk => by
  obtain ⟨k, f, fd, ps, F, hr, hm, hk, hb, hl⟩ := d.is
  exact PE.imp (pe_callG F hr hg hm hk hb (fun σ => passAt tk σ) (ha.pa tk) hdb he hpl) fun σ H Q q => call_T early_O hn ok (fun o w v F' H H' B s2 ho s nb r => res_O ho s nb r) q
theorem sim_call0 {x : Str} {g : List Slot → FOut} {p : Pos} (d : Def c X x 0 g) (hg : Gl X x := by rfl) (hdb : (x == ("__debug__" : Str)) = false := by decide) : SimE c X (.Call (.Name x p) [] [] pos) (eCall g []) := fun Wx tk => by
  obtain ⟨k, f, fd, ps, F, hr, hm, hk, hb, hl⟩ := d.is
  exact PE.imp (pe_callG0 F hr hg hm hk hb (fun σ => passAt tk σ) hdb) fun σ H Q q => call_T (as := []) early_F rfl rfl (fun o w v F' H H' B s2 _ s nb r => res_F s nb r) q
theorem sim_callO0 {x : Str} {g : List Slot → FOut} {p : Pos} (d : Def c X x 0 g) (hg : Gl X x := by rfl) (hdb : (x == ("__debug__" : Str)) = false := by decide) : SimO c X (.Call (.Name x p) [] [] pos) (eCallO g []) := fun Wx tk => by
  obtain ⟨k, f, fd, ps, F, hr, hm, hk, hb, hl⟩ := d.is
  exact PE.imp (pe_callG0 F hr hg hm hk hb (fun σ => passAt tk σ) hdb) fun σ H Q q => call_T (as := []) early_O rfl rfl (fun o w v F' H H' B s2 ho s nb r => res_O ho s nb r) q
end
end VI

set_option Elab.async false
set_option linter.all false
set_option maxRecDepth 100000
set_option maxHeartbeats 1000000
/-! VI, part 15: a try with several clauses, some of which name the exception. -/
namespace VI
open PySem L2 PySem.Spec PyProof.Rows
/-- a clause: its class, the slot of its name, its suite's reading -/
structure Clause where
  c : Value
  i : Option Nat
  ts : Addr → Value → Option Addr → TS
/-- the name's slot is empty behind the suite -/
def goneAt (i : Nat) (D : Ends) : Ends := { nx := fun σ H => D.nx (σ.set i none) H, rt := D.rt, bk := fun σ H => D.bk (σ.set i none) H, ct := fun σ H => D.ct (σ.set i none) H }
def wMix (K : PySem.W.Frag) (Wout : WX) (D : Ends) : List Clause → WX
  | [] => Wout
  | q :: r => fun cls d σ H => ∃ hit, PySem.W.exmOne K cls q.c = some hit ∧ (hit = false → wMix K Wout D r cls d σ H) ∧ (hit = true → ∀ a, H a = none → match q.i with
    | none => q.ts a cls d D σ H
    | some i => q.ts a cls d (goneAt i D) (σ.set i (some (.ref a))) H)
inductive Clauses (X : Cx) : List ExceptHandler → List Clause → Prop
  | none : Clauses X [] []
  | plain {x : Str} {c : Value} {ts : Addr → Value → Option Addr → TS} {st : Stmt} {sts : List Stmt} {p q : Pos} {hds : List ExceptHandler} {l : List Clause} (nm : Names X x c)
      (su : ∀ a oe cls d pn, Zc cls d oe → (∃ vs, oe.data = .fields vs) → PSs (X.suite a ((a, oe) :: pn)) (st :: sts) (ts a cls d)) (r : Clauses X hds l) :
      Clauses X (.ExceptHandler (some (.Name x p)) .none (st :: sts) q :: hds) (⟨c, .none, ts⟩ :: l)
  | named {x n : Str} {c : Value} {i : Nat} {ts : Addr → Value → Option Addr → TS} {st : Stmt} {sts : List Stmt} {p q : Pos} {hds : List ExceptHandler} {l : List Clause} (nm : Names X x c) (hi : X.N[i]? = some n) (hl : X.env.kindOf n = some .local)
      (su : ∀ a oe cls d pn, Zc cls d oe → (∃ vs, oe.data = .fields vs) → PSs (X.suite a ((a, oe) :: pn)) (st :: sts) (ts a cls d)) (r : Clauses X hds l) :
      Clauses X (.ExceptHandler (some (.Name x p)) (some n) (st :: sts) q :: hds) (⟨c, some i, ts⟩ :: l)
/-- an exception that lies before the clauses -/
structure Caught (X : Cx) (pins : List (Addr × Obj)) (σ : L2.St) (H : Hp) (a : Addr) (cls : Value) (d : Option Addr) (B : Heap) (sI s : Shared) : Prop where
  inv : Inv X pins σ H sI
  low : ∀ b o, sI.heap.get? b = some o → b ∉ frs X.stack → B.get? b = some o
  up : sI.heap.UpToSlots s.heap
  fly : HandSPX.FlyingZ B (X.env :: X.outer) a (Zc cls d) s.heap
  na : H a = none
  os : s.os = sI.os
  ag : AllBare s.gens
section
variable {X : Cx} {pins : List (Addr × Obj)} {σ : L2.St} {H : Hp} {a : Addr} {cls : Value} {d : Option Addr} {B : Heap} {sI s : Shared} {D : Ends} {Wout : WX}
theorem Caught.there (C : Caught X pins σ H a cls d B sI s) (hf : X.env.frame = some X.env.locals) : ∃ oe, Zc cls d oe ∧ (∃ vs, oe.data = .fields vs) ∧ s.heap.get? a = some oe ∧ Inv (X.suite a ((a, oe) :: (X.pn ++ pins))) [] σ H s := by
  obtain ⟨oe, vs, e, z, dd⟩ := C.fly.there
  have J : Inv X pins σ H s := C.inv.landed C.low C.fly.1 C.up C.os C.ag
  have far : a ∉ frs (X.env :: X.outer) := fun hm => by
    obtain ⟨_, o, eo, no⟩ := C.fly.2.2.1.mem hm
    rw [e] at eo
    cases eo
    exact no _ dd
  have here : a ≠ X.env.locals := fun q => far (List.mem_filterMap.mpr ⟨X.env, List.mem_cons_self, by rw [hf, q]⟩)
  have out : a ∉ X.fs := fun q => by
    obtain ⟨v, hv, ev⟩ := List.mem_filterMap.mp q
    exact far (List.mem_filterMap.mpr ⟨v, List.mem_cons_of_mem _ hv, ev⟩)
  exact ⟨oe, z, ⟨vs, dd⟩, e, J.suite e dd C.na here out⟩
theorem Caught.step {s' : Shared} {h : Heap} (C : Caught X pins σ H a cls d B sI s) (fl : HandSPX.FlyingZ B (X.env :: X.outer) a (Zc cls d) h) (up : s.heap.UpToSlots h) : Caught X pins σ H a cls d B sI { s with heap := h } :=
  ⟨C.inv, C.low, C.up.trans up, fl, C.na, C.os, C.ag⟩
/-- no clause is left -/
theorem Caught.on (C : Caught X pins σ H a cls d B sI s) (hs : X.stack = X.env :: X.outer) (hf : X.env.frame = some X.env.locals) (tk : Takes X Wout) (w : Wout cls d σ H) : wpAny (model X.prog X.w) X.A (handleBy (.ref a) X.env []) (SP X pins D) X.xe s := by
  obtain ⟨_, _, _, oe, vs, T, _, _, e1, _, e2, e3, _⟩ := id C.fly
  apply wpAny_handleBy_nil
  unfold PySem.passOn
  apply wpAny_bind
  apply wpAny_field e1 e2 e3
  rw [if_neg (by simp)]
  have last : wpAny (model X.prog X.w) X.A (setFlight (.ref a) X.env.frame) (fun _ t => wpAny (model X.prog X.w) X.A (throw (.ref a) : Sem PySem.Flow) (SP X pins D) X.xe t) X.xe s := by
    rw [hf]
    exact HandSPX.setFlight_upZ C.fly fun h1 hd1 up1 => wpAny_throw (tk _ _ ⟨a, B, sI, pins, σ, H, cls, d, rfl, C.inv, C.low, C.up.trans up1, .inr (.inr (hs.symm ▸ hd1)), C.na, C.os, C.ag, w⟩)
  first
    | exact wpAny_bind last
    | exact wpAny_bind (wpAny_pure (wpAny_bind last))
/-- the end of a suite -/
theorem suite_out {f : PySem.Flow} {t : Shared} {q : Addr × Obj} (ok : X.Ok) (h : SP (X.suite a (q :: (X.pn ++ pins))) [] D f t) : SP X pins D f t := by
  cases f with
  | next => exact h.imp fun _ h => h.imp fun _ h => ⟨h.1.unsuite ok, h.2⟩
  | brk => exact h.imp fun _ h => h.imp fun _ h => ⟨h.1.unsuite ok, h.2⟩
  | cont => exact h.imp fun _ h => h.imp fun _ h => ⟨h.1.unsuite ok, h.2⟩
  | ret u => exact h.imp fun _ h => h.imp fun _ h => h.imp fun _ h => ⟨h.1.unsuite ok, h.2⟩
theorem handle_mix (ok : X.Ok) (hs : X.stack = X.env :: X.outer) (hf : X.env.frame = some X.env.locals) (hN : X.N.Nodup) (tk : Takes X Wout) {hds : List ExceptHandler} {l : List Clause} (hh : Clauses X hds l) :
    ∀ {s : Shared}, Caught X pins σ H a cls d B sI s → wMix X.K Wout D l cls d σ H → wpAny (model X.prog X.w) X.A (handleBy (.ref a) X.env hds) (SP X pins D) X.xe s := by
  -- the class that a clause names is looked up, and asked
  have ask : ∀ {x : Str} {c : Value} {np : Pos} {hit : Bool} {s : Shared} {E : Value → Shared → Prop} {Q : Bool → Shared → Prop}, Caught X pins σ H a cls d B sI s → Names X x c → PySem.W.exmOne X.K cls c = some hit → Q hit s →
      wpAny (model X.prog X.w) (X.A.mark (some (.ref a))) (eval (.Name x np) X.env) (fun v s₁ => wpAny (model X.prog X.w) (X.A.mark (some (.ref a))) (excMatches (.ref a) v) Q E s₁) E s := by
    intro x c np hit s E Q C nm eh q
    obtain ⟨oe, z, _, e, S⟩ := C.there hf
    have ty : PySem.W.Looks (model X.prog X.w) s.heap (typeOf (.ref a)) cls := fun _ _ _ _ k y => wpAny_typeOf_ref (k _ _ e) (z.1.symm ▸ y)
    have hit := (PySem.W.exm_one (M := model X.prog X.w) (C.inv.landed C.low C.fly.1 C.up C.os C.ag).kIn ty eh).here (A := X.A.mark (some (.ref a))) (E := E) q
    obtain ⟨g, db, m | ⟨m, v, nn⟩⟩ := nm
    · exact ld_glob (X := X.suite a ((a, oe) :: (X.pn ++ pins))) S g m hit db
    · exact ld_blt (X := X.suite a ((a, oe) :: (X.pn ++ pins))) S g m v hit nn db
  induction hh with
  | none =>
    intro s C w
    exact C.on hs hf tk w
  | @plain x c ts st sts p q hds l nm su r ih =>
    intro s C w
    obtain ⟨hit, eh, no, yes⟩ := w
    refine wpAny_handleBy_cons (codeAny_handlers_test (ask C nm eh ?_)) (fun y => by cases y)
    cases hit with
    | false => exact ih C (no rfl)
    | true =>
      refine codeAny_handlers_suite (HandSPX.lands_againZ C.fly fun h1 fl1 up1 => ?_)
      have C1 := C.step (s' := s) fl1 up1
      obtain ⟨oe, z, dd, e, S⟩ := C1.there hf
      exact wpAny_mono ((su a oe cls d (X.pn ++ pins) z dd).run [] _ σ H D S (yes rfl a C.na)) (fun f t ht => suite_out ok ht) fun _ _ z => z.elim
  | @named x n c i ts st sts p q hds l nm hi hl su r ih =>
    intro s C w
    obtain ⟨hit, eh, no, yes⟩ := w
    refine wpAny_handleBy_cons (codeAny_handlers_test (ask C nm eh ?_)) (fun y => by cases y)
    cases hit with
    | false => exact ih C (no rfl)
    | true =>
      refine codeAny_handlers_suite_as (HandSPX.lands_againZ C.fly fun h1 fl1 up1 => ?_)
      have C1 := C.step (s' := s) fl1 up1
      obtain ⟨oe, z, dd, e, S⟩ := C1.there hf
      refine store_ok (X := X.suite a ((a, oe) :: (X.pn ++ pins))) (v := .ref a) S hN hi (.inl hl) rfl (fun s2 S2 => ?_) (.inr hl)
      refine wpAny_mono ((su a oe cls d (X.pn ++ pins) z dd).run [] s2 _ H (goneAt i D) S2 (yes rfl a C.na)) (fun f t ht => ?_) fun _ _ z => z.elim
      have away : ∀ {σ1 : L2.St} {H1 : Hp} {P : Shared → Prop}, Inv (X.suite a ((a, oe) :: (X.pn ++ pins))) [] σ1 H1 t → (∀ t', Inv X pins (σ1.set i none) H1 t' → P t') →
          wpAny (model X.prog X.w) X.A (do bindName X.env n .none; unbindBehindTheSuite X.env n q) (fun _ t' => P t') X.xe t := fun S1 k => gone_ok (S1.unsuite ok) hN hi hl k
      cases f with
      | ret u =>
        obtain ⟨v, σ1, H1, S1, rv, y⟩ := ht
        exact away S1 fun t' J => ⟨v, _, H1, J, rv, y⟩
      | next =>
        obtain ⟨σ1, H1, S1, y⟩ := ht
        exact away S1 fun t' J => ⟨_, H1, J, y⟩
      | brk =>
        obtain ⟨σ1, H1, S1, y⟩ := ht
        exact away S1 fun t' J => ⟨_, H1, J, y⟩
      | cont =>
        obtain ⟨σ1, H1, S1, y⟩ := ht
        exact away S1 fun t' J => ⟨_, H1, J, y⟩
end
/-- try: body, except .. (as ..): .. -/
theorem ps_try_mix {X : Cx} {body : List Stmt} {hd : ExceptHandler} {hds : List ExceptHandler} {l : List Clause} {pos : Pos} {tb : WX → TS} {Wout : WX} (hs : X.stack = X.env :: X.outer) (hf : X.env.frame = some X.env.locals) (hN : X.N.Nodup) (tk : Takes X Wout)
    (hb : ∀ W pn xe, Takes (X.tr pn xe) W → PassesOwn (model X.prog X.w) X.A X.env xe → PSs (X.tr pn xe) body (tb W)) (hh : Clauses X (hd :: hds) l) : PS X (.Try body (hd :: hds) [] [] pos) (fun D σ H => tb (wMix X.K Wout D l) D σ H) := by
  constructor
  intro pins s σ H D I h
  have ok := I.ok
  have frames : X.A.frames = some (X.env :: X.outer) := ok.frames.trans (congrArg some hs)
  apply wpAny_Try_except
  have body := (hb (wMix X.K Wout D l) (X.pn ++ pins) (fun e s₁ => wpAny (model X.prog X.w) X.A (noteFrame e X.env) (fun _ s₂ => wpAny (model X.prog X.w) X.A (setFlight e none)
    (fun _ s₃ => wpAny (model X.prog X.w) X.A (handleBy e X.env (hd :: hds)) (SP X pins D) X.xe s₃) X.xe s₂) X.xe s₁) ?_ PassesOwn.looking).run [] s σ H D (I.toTry _) h
  · refine wpAny_mono body (fun f t ht => ?_) fun _ _ z => z
    cases f with
    | next =>
      obtain ⟨σ1, H1, J, y⟩ := ht
      exact wpAny_execs_nil ⟨σ1, H1, J.ofTry ok, y⟩
    | ret u =>
      obtain ⟨v, σ1, H1, J, rv, y⟩ := ht
      exact ⟨v, σ1, H1, J.ofTry ok, rv, y⟩
    | brk => exact ht.imp fun _ h => h.imp fun _ h => ⟨h.1.ofTry ok, h.2⟩
    | cont => exact ht.imp fun _ h => h.imp fun _ h => ⟨h.1.ofTry ok, h.2⟩
  · rintro u t ⟨a, B, sI, pn', σ1, H1, cls, d, rfl, J, low, up, sky, na, os, ag, w⟩
    refine Sky.land Zc.steady frames hf (show Sky B (X.env :: X.outer) a (Zc cls d) X.env.locals t.heap from hs ▸ sky) fun h1 fl1 up1 => ?_
    exact handle_mix ok hs hf hN tk hh ⟨J.ofTry ok, low, up.trans up1, fl1, na, os, ag⟩ w
end VI

set_option Elab.async false
set_option linter.all false
set_option maxRecDepth 100000
set_option maxHeartbeats 1000000
/-! VI, part 16: own exceptions are made. -/
namespace PySem
namespace VIX
open PySem.W PySem.Calls PyProof.Rows PySem.HandSPX Builtin Builtin.ObjectAttr
/-! ### the text of __init__: self.f = f -/
def iA (f : Str) (p1 p2 : Pos) : Arguments := { posonlyargs := [], args := [{ arg := "self", annotation := none, pos := p1 }, { arg := f, annotation := none, pos := p2 }], vararg := none, kwonlyargs := [], kw_defaults := [], kwarg := none, defaults := [] }
def iB (f : Str) (q1 q2 q3 q4 : Pos) : List Stmt := [.Assign [.Attribute (.Name "self" q1) f q2] (.Name f q3) q4]
def iS (f : Str) : Scope := { kind := .function, names := [(PySem.Str.ofString "self", .local), (f, .local)], isGenerator := false, isCoroutine := false, more := [] }
section
variable {prog : Program} {w : World} {A : Around} {E : Value → Shared → Prop} {R : Result → Shared → Prop} {s : Shared} {K : Frag} {C : Addr}
/-- the first store into a new exception -/
theorem first_store {B : String} {bmB : List Value} {name : Str} {tk : Tok} {v : Value} {x : Addr} {fv : Array Value} (SF : StoreFacts B bmB "object.__setattr__" "object") (X : K.In s.heap) (hx : s.heap.get? x = some { cls := .ref C, data := .fields fv }) (ov : excOver K C bmB = true) (tkr : takerIn K C name = some none)
    (hd : ∃ cd, clsIn K C = some cd ∧ cd.hasDict = true)
    (hq : ∀ h' tk' dx, (∀ b o, b ≠ x → s.heap.get? b = some o → h'.get? b = some o) → s.heap.objs.size ≤ dx → dx ≠ x → h'.get? x = some { cls := .ref C, dict := some dx, data := .fields fv } →
      h'.Ns1 dx (fun y => if y = name then some v else none) → R (.ok (.ret .none)) { s with heap := h', toks := tk' }) :
    codeAny (model prog w) A (.call (.builtin "object.__setattr__") ⟨[.ref x, .str name tk, v], []⟩) R s := by
  obtain ⟨cd, ec, hd⟩ := hd
  have far : x ≠ s.heap.objs.size := Nat.ne_of_lt (Heap.lt_size hx)
  have cls : Looks (model prog w) s.heap (classData C) cd := looks_clsIn X ec
  have at_ : InstAt s.heap x { cls := .ref C, data := .fields fv } C none := ⟨hx, rfl, rfl, trivial⟩
  refine osa_openX SF X at_ ov tkr fun b => ?_
  obtain ⟨hp, g, d, t, os⟩ := s
  obtain ⟨nm, bs, mro, ns, qn, hd', sn, sb, ab, col, del⟩ := cd
  have hd : hd' = true := hd
  subst hd
  show wpAny _ _ (storeInOwnDict (.ref x) (.ref C) (.str name tk) name v b) _ _ _
  unfold storeInOwnDict
  unfold ownDictForStores
  repeat first
    | with_reducible refine store_in_new ?_ ?_
    | with_reducible refine wpAny_loadPart_at hx ?_
    | with_reducible refine cls.at ?_
    | wp_step
  · refine ⟨_, #[], _, (Heap.get?_update_ne _ _ _ _ far.symm).trans (Heap.get?_push_at rfl rfl), rfl, fun e he => ?_, fun _ => rfl⟩
    simp at he
  · intro h' tk' hn' sb
    have hx1 : (hp.push { cls := .type "dict", data := .dict #[] }).get? x = some { cls := .ref C, data := .fields fv } := Heap.get?_push_of_some _ hx
    refine hq h' tk' hp.objs.size (fun b o nb ho => ?_) (Nat.le_refl _) far.symm ((sb.2 x far).trans (Heap.get?_update_self _ hx1 rfl)) hn'
    refine (sb.2 b (Nat.ne_of_lt (Heap.lt_size ho))).trans ?_
    exact (Heap.get?_update_ne _ _ _ _ nb).trans (Heap.get?_push_of_some _ ho)
end
/-- what the top has written of an own exception class at C, its __init__ at fI, its one field f, under the built-in B -/
structure ExcTxt (K : Frag) (B newId initId : String) (bmB : List Value) (nm f : Str) (C fI : Addr) : Prop where
  fb : ExcBaseFacts B newId initId bmB
  sf : StoreFacts B bmB "object.__setattr__" "object"
  q : excInitIn K C bmB newId = true
  ov : excOver K C bmB = true
  hd : ∃ cd, clsIn K C = some cd ∧ cd.hasDict = true
  sa : findIn K (.ref C) "__setattr__" = some (some (.builtin "object.__setattr__"))
  no : findIn K (.ref C) f = some none
  tkr : takerIn K C f = some none
  iC : findIn K (.ref C) "__init__" = some (some (.ref fI))
  tC : typeIn K (.ref fI) = some (.type "function")
  kC : keepIn K (.ref C) = true
  exC : subIn K (.ref C) (.type "BaseException") = some true
  tyC : typeIn K (.ref C) = some (.type "type")
  fn : ∃ (oc : Value) (od : Option Addr) (doc pm : Value) (an : Option Addr) (cdv ct : Value) (osl : Array (Option Value)) (p1 p2 q1 q2 q3 q4 : Pos),
    K.lookup fI = some ⟨oc, od, .func (fnOf "__init__" (nm ++ ".__init__") (iA f p1 p2) (iB f q1 q2 q3 q4) (iS f) .none .none doc pm an cdv ct), osl⟩ ∧ codeIn K cdv (nm ++ ".__init__") = true
  bnd : ∀ (q : Str) (p1 p2 q1 q2 q3 q4 : Pos) (doc pm : Value) (an : Option Addr) (cdv ct x v : Value), bindArgs (fnOf "__init__" q (iA f p1 p2) (iB f q1 q2 q3 q4) (iS f) .none .none doc pm an cdv ct) ⟨[x, v], []⟩ = pure [(PySem.Str.ofString "self", x), (f, v)]
  fs : (f == PySem.Str.ofString "self") = false
  fd : (f == ("__debug__" : Str)) = false
section
variable {prog : Program} {w : World} {A : Around} {E : Value → Shared → Prop} {R : Result → Shared → Prop} {s : Shared} {K : Frag} {C fI : Addr} {B newId initId : String} {bmB : List Value} {nm f : Str}
theorem rd_loc {M : Model} {name : Str} {scope : Scope} {L a : Addr} {cd : Value} {m : Str → Option Value} {x : Str} {pos : Pos} {v : Value} {Q : Value → Shared → Prop} (hn : s.heap.Ns L m) (hv : m x = some v) (h : Q v s)
    (hk : scope.kind = .function) (hl : (envOfC name scope L a cd).kindOf x = some .local) (hd : (x == ("__debug__" : Str)) = false) :
    wpAny M A (eval (.Name x pos) (envOfC name scope L a cd)) Q E s := wpAny_Name (wpAny_loadName_local hk hl hn hv h) hd
/-- self.f = f, self at x, just made -/
theorem init_run (T : ExcTxt K B newId initId bmB nm f C fI) {x t0 : Addr} {v : Value} (X : K.In s.heap) (lim : s.heap.NoLimit) (hx : s.heap.get? x = some (excO C t0)) (room : A.depth < recursionLimit)
    (hq : ∀ h' tk dx, (∀ b o, b ≠ x → s.heap.get? b = some o → h'.get? b = some o) → h'.get? x = some { cls := .ref C, dict := some dx, data := .fields #[.ref t0, .none, .none, .none, .bool false, .none] } → s.heap.objs.size ≤ dx → dx ≠ x →
      h'.Ns1 dx (fun y => if y = f then some v else none) → R (.ok (.ret .none)) { s with heap := h', toks := tk }) : codeAny (model prog w) A (.call (.ref fI) ⟨[.ref x, v], []⟩) R s := by
  obtain ⟨oc, od, doc, pm, an, cdv, ct, osl, p1, p2, q1, q2, q3, q4, lk, code⟩ := T.fn
  have lself : (iS f).names.lookup (PySem.Str.ofString "self") = some .local := by
    show List.lookup _ [(PySem.Str.ofString "self", NameKind.local), (f, NameKind.local)] = _
    rw [List.lookup_cons, beq_self_eq_true]
  have lf : (iS f).names.lookup f = some .local := by
    show List.lookup f [(PySem.Str.ofString "self", NameKind.local), (f, NameKind.local)] = _
    rw [List.lookup_cons, T.fs, List.lookup_cons, beq_self_eq_true]
  refine Att.call_fn (binds := [(PySem.Str.ofString "self", .ref x), (f, v)]) X lim lk code room (BindsTo.of_eq (T.bnd _ _ _ _ _ _ _ _ _ _ _ _ _ _)) ?_ (fun s₁ IC => ?_) rfl rfl rfl
  · rw [List.all_cons, List.all_cons, List.all_nil, lself, lf]
    rfl
  · obtain ⟨h1, tk1, rfl⟩ := IC.toInCall.same
    have k : ∀ b o, s.heap.get? b = some o → h1.get? b = some o := IC.toInCall.keep
    have ns := IC.toInCall.ns
    have X1 : K.In h1 := X.keeps k
    have hx1 := k _ _ hx
    have kself : (envOfC (nm ++ ".__init__") (iS f) s.heap.objs.size fI cdv).kindOf "self" = some .local := lself
    have kf : (envOfC (nm ++ ".__init__") (iS f) s.heap.objs.size fI cdv).kindOf f = some .local := lf
    show wpAny _ _ (execs _ _) _ _ _
    refine wpAny_execs_cons (plainObj_wpAny_Assign_Attribute (rd_loc (v := v) ns ?_ (rd_loc (v := .ref x) ns ?_ ?_ rfl kself (by decide)) rfl kf T.fd))
    · show bindL _ [(_, _), (_, _)] _ f = some v
      unfold bindL bindL bindL
      rw [if_pos kf]
      exact if_pos rfl
    · show bindL _ [(_, _), (_, _)] _ (PySem.Str.ofString "self") = some (.ref x)
      unfold bindL bindL bindL
      rw [if_pos kf]
      show (if PySem.Str.ofString "self" = f then some v else _) = _
      have nf : ¬ PySem.Str.ofString "self" = f := fun z => by
        have q := T.fs
        rw [← z, beq_self_eq_true] at q
        cases q
      rw [if_neg nf, if_pos kself]
      exact if_pos rfl
    · refine set_plain X1 (ox := excO C t0) (od := none) ⟨hx1, rfl, rfl, trivial⟩ T.sa ?_
      refine first_store T.sf X1 hx1 T.ov T.tkr T.hd fun h3 tk3 dx k3 dn dne hx3 hn3 => ?_
      show wpAny _ _ (execs _ _) _ _ _
      exact wpAny_execs_nil (hq h3 tk3 dx (fun b o nb e => k3 b o nb (k b o e)) hx3 (Nat.le_of_lt (Nat.lt_of_lt_of_le ns.lt dn)) dne hn3)
/-- a made exception -/
structure Made (h h' : Heap) (e C d : Addr) (f : Str) (v : Value) : Prop where
  old : ∀ b o, h.get? b = some o → h'.get? b = some o
  new : h.objs.size ≤ e
  obj : ∃ oe vs, h'.get? e = some oe ∧ (oe.cls = .ref C ∧ oe.dict = some d) ∧ oe.data = .fields vs ∧ vs[1]? = some .none
  far : h.objs.size ≤ d
  two : d ≠ e
  ns : h'.Ns1 d (fun y => if y = f then some v else none)
theorem make_run (T : ExcTxt K B newId initId bmB nm f C fI) {v : Value} (X : K.In s.heap) (lim : s.heap.NoLimit) (room : A.depth + 1 < recursionLimit)
    (hq : ∀ h' tk e d, Made s.heap h' e C d f v → R (.ok (.ret (.ref e))) { s with heap := h', toks := tk }) : codeAny (model prog w) A (.call (.ref C) ⟨[v], []⟩) R s := by
  obtain ⟨_, N, qn, bs, bm, hdct, sn, sub, ab, col, dd, k0, k1, k2, k3, k5, hC, hT⟩ := excInit_of X T.q
  obtain ⟨hp, g, dr, tk, os⟩ := s
  have up : ∀ b o, hp.get? b = some o → ((hp.push (kdv_tup [v])).push (excO C hp.objs.size)).get? b = some o := fun b o e => Heap.get?_push_of_some _ (Heap.get?_push_of_some _ e)
  have here : ((hp.push (kdv_tup [v])).push (excO C hp.objs.size)).get? (hp.objs.size + 1) = some (excO C hp.objs.size) := by heap_get
  refine call_own T.fb hT hC (looks_findIn X T.iC) (fun self => bind_fn X self T.tC) (by rw [sizeLine_eq]; exact (by decide : 1 ≤ 16777216)) ?_
  refine init_run (s := ⟨(hp.push (kdv_tup [v])).push (excO C hp.objs.size), g, dr, tk, os⟩) T (X.keeps up) (lim.keeps up) here room fun h' tk' dx k' hx dn dne hns => ?_
  have size2 : ((hp.push (kdv_tup [v])).push (excO C hp.objs.size)).objs.size = hp.objs.size + 1 + 1 := by rw [Heap.size_push, Heap.size_push]
  have dn : hp.objs.size + 1 + 1 ≤ dx := size2 ▸ dn
  exact ⟨rfl, hq h' tk' (hp.objs.size + 1) dx ⟨fun b o e => k' b o (Nat.ne_of_lt (Nat.lt_succ_of_lt (Heap.lt_size e))) (up b o e), Nat.le_succ _, ⟨_, _, hx, ⟨rfl, rfl⟩, rfl, rfl⟩, Nat.le_trans (Nat.le_trans (Nat.le_succ _) (Nat.le_succ _)) dn, dne, hns⟩⟩
end
end VIX
end PySem
namespace VI
open PySem L2 PySem.Spec PyProof.Rows
theorem relO_one {v : V} {u : Value} {f : Str} (r : RelV v u) (g : Str) : RelO (List.lookup g [(f, v)]) (if g = f then some u else none) := by
  rw [List.lookup_cons]
  by_cases e : g = f
  · rw [if_pos e, e, beq_self_eq_true]
    exact r
  · rw [if_neg e, show (g == f) = false from beq_eq_false_iff_ne.mpr e]
    trivial
section
variable {X : Cx} {C fI : Addr} {B newId initId : String} {bmB : List Value} {nm f : Str}
/-- X(e), an own exception with the field f -/
theorem pmk_fld {x : Str} {e : Expr} {te : TE} {p pos : Pos} {k : Nat} (T : PySem.VIX.ExcTxt X.K B newId initId bmB nm f C fI) (gC : X.mg x = some (.ref C)) (hr : Room k X.A) (he : PE X e te) (hg : Gl X x) (hd : (x == ("__debug__" : Str)) = false)
    (hs : starEach [e] X.env = (false, eval e X.env) :: starEach [] X.env := by rfl) (hpl : (backTo pos (starEach [] X.env)).any (·.1) = false := by rfl) :
    PMk X (.Call (.Name x p) [e] [] pos) (fun σ H Q => tCons te tNil σ H fun vs H1 => ∃ v, vs = [v] ∧ ∀ d, H1 d = none → Q (.ref C) (some d) (upd H1 d (.xd [(f, v)]))) := by
  intro pins s σ H Q I h
  refine wpAny_Call_Name_kw (ld_glob I hg gC ?_ hd)
  have ha : PA X [e] (tCons te tNil) := pa_cons he pa_nil hs
  refine PySem.W.callWith_K (h₀ := X.base) I.ok.mod.kin T.kC (thn (ha.run pos pins s σ H _ I h) fun us s1 ⟨vs, H1, I1, r1, v, ev, q⟩ => ⟨I1.kIn, ?_⟩) hs hpl
  · subst ev
    cases r1 with
    | cons rv rn =>
      cases rn
      show wpAny _ _ (call (.ref C) [_]) _ _ _
      have lim := I1.nolimit
      obtain ⟨hp, g, dr, tk, os⟩ := s1
      refine wpAny_call (PySem.VIX.make_run T I1.kIn lim (by have := hr.dp; omega) fun h' tk' a d M => ?_)
      obtain ⟨oe, fv, hoe, hz, hdat, h1⟩ := M.obj
      obtain ⟨G', g1, g2⟩ := restrict h' fun b => decide (b ≠ a)
      have keepG : ∀ b, b ≠ a → G'.get? b = h'.get? b := fun b hb => g1 b (decide_eq_true hb)
      have noG : G'.get? a = none := g2 a (by simp)
      have old : ∀ b o, hp.get? b = some o → G'.get? b = some o := fun b o q => by
        rw [keepG b (Nat.ne_of_lt (Nat.lt_of_lt_of_le (Heap.lt_size q) M.new))]
        exact M.old b o q
      have ob : ObjOk X.prog X.w (upd H1 d (.xd [(f, v)])) G' d (.xd [(f, v)]) := ⟨_, M.ns.at (fun o q => (keepG d M.two).trans q), fun g => relO_one rv g⟩
      have J : Inv X pins σ (upd H1 d (.xd [(f, v)])) ⟨G', g, dr, tk', os⟩ := I1.laid (t' := tk') old M.far ob
      refine ⟨a, oe, fv, ⟨G', g, dr, tk', os⟩, _, .ref C, some d, rfl, J, fun b o q => ?_, noG, hoe, hz, hdat, h1, ?_, rfl, I1.bare, raises_own T.exC T.tyC, q d (I1.hok.fresh M.far)⟩
      · have nb : b ≠ a := fun z => by
          have q : G'.get? b = some o := q
          rw [z, noG] at q
          cases q
        exact (keepG b nb).symm.trans q
      · rw [upd_ne (Ne.symm M.two)]
        exact I1.hok.fresh M.new
end
end VI

set_option Elab.async false
set_option linter.all false
set_option maxRecDepth 100000
set_option maxHeartbeats 1000000
/-! VI, part 17: words for the printed texts. -/
namespace VI
open PySem L2 PySem.Spec PyProof.Rows
theorem un_ok {k : Nat} {A : Around} (hr : Rm k A) : A.units + 64 < cLine := by
  have := hr.room.un
  omega
/-- a def of the text, wherever it is called -/
structure DefF (P : Program) (w : World) (c : Cn) (mg : Str → Option Value) (base : Heap) (x : Str) (n : Nat) (g : List Slot → FOut) (k : Nat) : Prop where
  is : ∃ f fd ps, FnG P w c.K mg base k f fd ps (spF c n g) ∧ mg x = some (.ref f) ∧ PySem.W.keepIn c.K (.ref f) = true ∧ Binds c.K fd ps [] ∧ ps.length = n
theorem DefF.at {X : Cx} {c : Cn} {x : Str} {n : Nat} {g : List Slot → FOut} {k j : Nat} (d : DefF X.prog X.w c X.mg X.base x n g k) (hr : Rm j X.A) (h : k ≤ j) (hK : X.K = c.K := by rfl) : Def c X x n g := by
  obtain ⟨f, fd, ps, F, hm, hk, hb, hl⟩ := d.is
  rw [← hK] at F hk hb
  exact ⟨k, f, fd, ps, F, ⟨hr.room.mono h, hr.gd⟩, hm, hk, hb, hl⟩
end VI

set_option Elab.async false
set_option linter.all false
set_option maxRecDepth 100000
set_option maxHeartbeats 1000000
/-! VI, part 18: zip, enumerate. -/
namespace VI
open PySem L2 PySem.Spec PyProof.Rows
/-- enumerate over a text -/
def Itx (z : Str) : It := ⟨fun i _ => i < z.cps.size, fun i H v H' => ∃ T c, v = .ref T ∧ H T = none ∧ H' = upd H T (.tup [.int (i : Nat), .str ⟨#[c]⟩]) ∧ z.cps[i]? = some c, fun i _ => i = z.cps.size⟩
theorem turn_enumS {P : Program} {w : World} {K : PySem.W.Frag} {elts : List Expr} {kk : Nat} {tpos : Pos} (z : Str) (t : Tok) (e it : Addr) :
    Turn P w K (.Tuple elts kk tpos) (Itx z) [e, it] e (fun i h => (∃ old, IsEnum h e it ((i : Nat) : Int) old) ∧ h.IsStrIter it (strIterType z) z t i ∧ e ≠ it) where
  mem := by simp
  obj := fun i h st b hb => by
    obtain ⟨⟨old, he⟩, ⟨o, ho, hc, hd⟩, _⟩ := st
    rcases List.mem_cons.mp hb with q | hb
    · exact ⟨_, q ▸ he, fun v q => by cases q⟩
    · rw [List.mem_singleton.mp hb]
      exact ⟨o, ho, fun v q => by rw [hd] at q; cases q⟩
  keep := fun i h h' st k => by
    obtain ⟨⟨old, he⟩, ⟨o, ho, r⟩, ne⟩ := st
    exact ⟨⟨old, k e List.mem_cons_self _ he⟩, ⟨o, k it (List.mem_cons_of_mem _ (List.mem_singleton.mpr rfl)) o ho, r⟩, ne⟩
  item := by
    intro X hP hw hK hc i pins s σ H E I hf st hg
    subst hP hw hK
    obtain ⟨⟨old, he⟩, hit, ne⟩ := st
    have hel : e < s.heap.objs.size := Heap.lt_size he
    have hil : it < s.heap.objs.size := hit.elim fun o q => Heap.lt_size q.1
    refine wpAny_pyNext_enum_itemD (Draws.text (A := X.A.in1) (I.ok.hd hc) it z t) he hit hg ne (fun q => ne (List.mem_singleton.mp q)) fun x h' tk hx ho hit' hT hsz hk => ?_
    obtain ⟨ch, u, hch, rfl⟩ := hx
    refine ⟨_, rfl, wpAny_letOwnedTupleGo_enum (s := { s with heap := h', toks := tk + 1 }) ho fun h2 he2 sb => ?_⟩
    have hT2 : h2.get? s.heap.objs.size = some { cls := .type "tuple", data := .seq #[.int i tk, .str ⟨#[ch]⟩ u] } := (sb.2 _ (Nat.ne_of_gt hel)).trans hT
    have nw : ObjOk X.prog X.w (upd H s.heap.objs.size (.tup [.int (i : Nat), .str ⟨#[ch]⟩])) h2 s.heap.objs.size (.tup [.int (i : Nat), .str ⟨#[ch]⟩]) :=
      ⟨by show 2 ≤ sizeLine; decide, [.int i tk, .str ⟨#[ch]⟩ u], .cons ⟨_, rfl⟩ (.cons ⟨_, rfl⟩ .nil), ⟨_, hT2, rfl, _, rfl⟩⟩
    have I1 : Inv X pins σ (upd H s.heap.objs.size (.tup [.int (i : Nat), .str ⟨#[ch]⟩])) { s with heap := h2, toks := tk + 1 } := I.turnedNew (ch := [e, it]) (fun b ob hb q => by
      have nb : b ≠ e ∧ b ≠ it := by simpa using hb
      exact (sb.2 b nb.1).trans (hk b ob nb.1 nb.2 q)) hf (Nat.le_refl _) nw
    refine ⟨.ref s.heap.objs.size, _, I1, rfl, ⟨_, ch, rfl, I.hok.fresh (Nat.le_refl _), rfl, hch⟩, ⟨⟨.str ⟨#[ch]⟩ u, ?_⟩, ?_, ne⟩, fun b hb => ?_⟩
    · rw [show ((i + 1 : Nat) : Int) = (i : Int) + 1 by omega]
      exact he2
    · obtain ⟨o, e1, r⟩ := hit'
      exact ⟨o, (sb.2 it (Ne.symm ne)).trans e1, r⟩
    · have lt : b < s.heap.objs.size := by
        rcases List.mem_cons.mp hb with q | hb
        · exact q ▸ hel
        · exact List.mem_singleton.mp hb ▸ hil
      rw [upd_ne (Nat.ne_of_lt lt)]
      exact (hf b hb).1
  done := by
    intro X hP hw hK hc i pins s σ H E I hf st hg
    subst hP hw hK
    obtain ⟨⟨old, he⟩, hit, ne⟩ := st
    obtain ⟨f0, f1, f2, f3, f4, f5⟩ := hf it (List.mem_cons_of_mem _ (List.mem_singleton.mpr rfl))
    have e0 : i = z.cps.size := hg
    subst e0
    exact wpAny_pyNext_enum_endD (Draws.text (A := X.A.in1) (I.ok.hd hc) it z t) he hit fun h' eb => ⟨rfl, I.turned (t' := s.toks) (fun b o hb q => eb b o hb q) f0 f1 f3 f4 f5⟩
  self := fun A i s Q E st h => by
    obtain ⟨⟨old, he⟩, _⟩ := st
    exact wpAny_pyIter_enum he h
section
variable {X : Cx} {c : Cn} {pos : Pos}
def iEnumS (te : TE) : TI := fun σ H R => te σ H fun v H1 => ∃ z, v = .str z ∧ R (Itx z) H1
theorem pi_enumS {e : Expr} {te : TE} {p tpos : Pos} {elts : List Expr} {kk : Nat} (hg : Gl X "enumerate") (hm : X.mg "enumerate" = none) (he : PE X e te) (hs : starEach [e] X.env = [(false, eval e X.env)] := by rfl) :
    PI X (.Tuple elts kk tpos) (.Call (.Name "enumerate" p) [e] [] pos) (fun σ H R => tCons te tNil σ H fun vs H1 => ∃ z, vs = [.str z] ∧ R (Itx z) H1) := by
  refine ⟨fun pins s σ H R I h => ?_⟩
  refine Call_ (ld_blt I hg hm boot_enumerate (PyProof.Rows.callWith_type1 (thn ((pa_cons he pa_nil hs).run pos pins s σ H _ I h) fun us s1 ⟨vs, H1, I1, r1, z, ez, q⟩ => ?_) hs rfl))
  subst ez
  cases r1 with
  | cons r rr =>
    cases rr
    obtain ⟨t, rfl⟩ := r
    refine call_enumerate_str fun h' he hit hsz hk => wpAny_pyIter_enum he ?_
    have I2 : Inv X pins σ H1 { s1 with heap := h' } := I1.kept (t' := s1.toks) hk
    refine ⟨s1.heap.objs.size + 1, [s1.heap.objs.size + 1, s1.heap.objs.size], _, _, H1, rfl, I2, turn_enumS z t _ _, ⟨⟨.none, he⟩, hit, Nat.succ_ne_self _⟩, fun b hb => ?_, q⟩
    have le : s1.heap.objs.size ≤ b := by
      rcases List.mem_cons.mp hb with q | hb
      · exact q ▸ Nat.le_succ _
      · exact Nat.le_of_eq (List.mem_singleton.mp hb).symm
    exact I1.fpOk le (I1.hok.fresh le)
theorem numbered_get : ∀ {xs : List W} {n : Int} {i : Nat}, (numbered n xs)[i]? = (xs[i]?).map fun x => .tup [.int (n + i), x]
  | [], n, i => by
    unfold numbered
    simp
  | x :: xs, n, 0 => by
    unfold numbered
    simp
  | x :: xs, n, i + 1 => by
    unfold numbered
    rw [List.getElem?_cons_succ, List.getElem?_cons_succ, numbered_get]
    congr 1
    funext x
    rw [show n + 1 + (i : Int) = n + ((i + 1 : Nat) : Int) by omega]
theorem numbered_len : ∀ {xs : List W} {n : Int}, (numbered n xs).length = xs.length
  | [], _ => rfl
  | x :: xs, n => by
    unfold numbered
    rw [List.length_cons, List.length_cons, numbered_len]
theorem zipped_get : ∀ {xs ys : List W} {i : Nat} {x y : W}, xs[i]? = some x → ys[i]? = some y → (zipped xs ys)[i]? = some (.tup [x, y])
  | [], _, _, _, _, h, _ => by simp at h
  | _ :: _, [], _, _, _, _, h => by simp at h
  | x :: xs, y :: ys, 0, _, _, h, h' => by
    unfold zipped
    simp at h h' ⊢
    exact ⟨h, h'⟩
  | x :: xs, y :: ys, i + 1, _, _, h, h' => by
    unfold zipped
    rw [List.getElem?_cons_succ] at h h' ⊢
    exact zipped_get h h'
theorem zipped_len : ∀ {xs ys : List W}, (zipped xs ys).length = min xs.length ys.length
  | [], _ => by
    unfold zipped
    simp
  | _ :: _, [] => by
    unfold zipped
    simp
  | x :: xs, y :: ys => by
    unfold zipped
    rw [List.length_cons, List.length_cons, List.length_cons, zipped_len]
    omega
section
variable {F F2 : Addr → Prop} {H H2 H3 : Hp}
/-- a new pair -/
theorem pair_rep {x y wx wy : W} {T : Addr} {vx vy : V} (hT : H T = none) (rx : RepF c F H wx vx) (ry : RepF c F H wy vy) : Ext H (upd H T (.tup [vx, vy])) ∧ RepF c F (upd H T (.tup [vx, vy])) (.tup [wx, wy]) (.ref T) :=
  ⟨.new hT, T, [vx, vy], rfl, .of upd_same, vx, [vy], rfl, RepF.kp (Ext.kp (.new hT)) _ _ rx, vy, [], rfl, RepF.kp (Ext.kp (.new hT)) _ _ ry, rfl⟩
theorem wk_enumL {a : Addr} {vs : List V} {xs : List W} {O : Addr → Prop} (h1 : H a = some (.lst vs)) (h2 : RepFs c F H xs vs) (h3 : F a ∨ ¬ O a) : Wk c O F H (numbered 0 xs) (Ite c.K a) := by
  refine ⟨fun H2 => SqL c.K H2 a vs, YPair (fun i => some (.int (i : Nat))) (fun i => vs[i]?), by rw [numbered_len, h2.length]; exact walk_enum, fun F2 H2 O2 f k => ⟨.inl (.inl ?_), fun i x H3 hi y => ?_⟩⟩
  · rcases h3 with h3 | h3
    · exact k.at_ a _ h1 (.inl h3)
    · exact f.keep a _ h1 h3 (fun _ z => by cases z)
  · obtain ⟨T, vx, vy, rfl, hT, rfl, ex, ey⟩ := y
    cases ex
    obtain ⟨w, ew, rw'⟩ := (RepFs.kp k _ _ h2).getV ey
    obtain ⟨e1, e2⟩ := pair_rep (x := .non) (y := .non) (wx := .int (i : Nat)) hT rfl rw'
    refine ⟨e1, _, ?_, e2⟩
    rw [numbered_get, ew]
    simp
theorem wk_enumS {l : List Nat} {O : Addr → Prop} : Wk c O F H (numbered 0 (l.map fun ch => .str [ch])) (Itx (mkS l)) := by
  refine ⟨fun _ => True, fun i H v H' => ∃ T ch, v = .ref T ∧ H T = none ∧ H' = upd H T (.tup [.int (i : Nat), .str ⟨#[ch]⟩]) ∧ (mkS l).cps[i]? = some ch, ?_, fun F2 H2 O2 f k => ⟨trivial, fun i x H3 hi y => ?_⟩⟩
  · rw [numbered_len, List.length_map]
    exact ⟨fun _ _ hi _ => hi, fun _ _ => rfl, fun _ _ _ _ _ _ y => y⟩
  · obtain ⟨T, ch, rfl, hT, rfl, ey⟩ := y
    obtain ⟨e1, e2⟩ := pair_rep (c := c) (F := F2) (x := .non) (y := .non) (wx := .int (i : Nat)) (wy := .str [ch]) (vx := .int (i : Nat)) (vy := .str ⟨#[ch]⟩) hT rfl rfl
    refine ⟨e1, _, ?_, e2⟩
    have ey : l.toArray[i]? = some ch := ey
    rw [List.getElem?_toArray] at ey
    rw [numbered_get, List.getElem?_map, ey]
    simp
theorem wk_zipL {a b : Addr} {vs us : List V} {xs ys : List W} {O : Addr → Prop} (h1 : H a = some (.lst vs)) (h2 : RepFs c F H xs vs) (h3 : F a) (g1 : H b = some (.lst us)) (g2 : RepFs c F H ys us) (g3 : F b) : Wk c O F H (zipped xs ys) (Itz c.K a b) := by
  refine ⟨fun H2 => SqL c.K H2 a vs ∧ SqL c.K H2 b us, YPair (fun i => vs[i]?) (fun i => us[i]?), walk_zip (by rw [zipped_len, h2.length, g2.length]), fun F2 H2 O2 f k => ⟨⟨.inl (.inl (k.at_ a _ h1 (.inl h3))), .inl (.inl (k.at_ b _ g1 (.inl g3)))⟩, fun i x H3 hi y => ?_⟩⟩
  obtain ⟨T, vx, vy, rfl, hT, rfl, ex, ey⟩ := y
  obtain ⟨wx, ewx, rx⟩ := (RepFs.kp k _ _ h2).getV ex
  obtain ⟨wy, ewy, ry⟩ := (RepFs.kp k _ _ g2).getV ey
  obtain ⟨e1, e2⟩ := pair_rep (x := .non) (y := .non) hT rx ry
  exact ⟨e1, _, zipped_get ewx ewy, e2⟩
theorem walk_zipT {K : PySem.W.Frag} {a b : Addr} {xs ys : List V} {n : Nat} (hn : n = min xs.length ys.length) : Walk (RZ.ItzT K a b) n (fun H => SqT K H a xs ∧ SqT K H b ys) (YPair (fun i => xs[i]?) (fun i => ys[i]?)) := by
  subst hn
  refine ⟨fun i _ hi q => ?_, fun _ q => ⟨xs, ys, q.1, q.2, by omega⟩, fun i H v H' _ q y => ?_⟩
  · have l1 : i < xs.length := by omega
    have l2 : i < ys.length := by omega
    exact ⟨xs, ys, xs[i], ys[i], q.1, q.2, by simp [l1], by simp [l2]⟩
  · obtain ⟨T, x, z, e1, e2, e3, e4, e5⟩ := y
    exact ⟨T, x, z, e1, e2, e3, e4 xs q.1, e5 ys q.2⟩
theorem wk_zipT {a b : Addr} {vs us : List V} {xs ys : List W} {O : Addr → Prop} (h1 : SqT c.K H a vs) (h2 : RepFs c F H xs vs) (g1 : SqT c.K H b us) (g2 : RepFs c F H ys us) : Wk c O F H (zipped xs ys) (RZ.ItzT c.K a b) := by
  refine ⟨fun H2 => SqT c.K H2 a vs ∧ SqT c.K H2 b us, YPair (fun i => vs[i]?) (fun i => us[i]?), walk_zipT (by rw [zipped_len, h2.length, g2.length]), fun F2 H2 O2 f k => ⟨⟨k.tup h1, k.tup g1⟩, fun i x H3 hi y => ?_⟩⟩
  obtain ⟨T, vx, vy, rfl, hT, rfl, ex, ey⟩ := y
  obtain ⟨wx, ewx, rx⟩ := (RepFs.kp k _ _ h2).getV ex
  obtain ⟨wy, ewy, ry⟩ := (RepFs.kp k _ _ g2).getV ey
  obtain ⟨e1, e2⟩ := pair_rep (x := .non) (y := .non) hT rx ry
  exact ⟨e1, _, zipped_get ewx ewy, e2⟩
end
theorem simI_zip {a b : Expr} {m n : M W} {p tpos : Pos} {elts : List Expr} {kk : Nat} (hm : X.mg "zip" = none) (ha : SimE c X a m) (hb : SimE c X b n) (hK : X.K = c.K := by rfl) (hg : Gl X "zip" := by rfl)
    (hs : starEach [a, b] X.env = (false, eval a X.env) :: starEach [b] X.env := by rfl) (hs2 : starEach [b] X.env = (false, eval b X.env) :: starEach [] X.env := by rfl) (hpl : (backTo pos (starEach [b] X.env)).any (·.1) = false := by rfl) :
    SimI c X (.Tuple elts kk tpos) (.Call (.Name "zip" p) [a, b] [] pos) (iZip m n) := fun Wx tk => by
  refine PI.imp (RZ.pi_zipA hg hm (pa_cons (ha Wx tk) (pa_cons (hb Wx tk) pa_nil hs2) hs) hs hpl) fun σ H Q q => ?_
  rw [hK]
  obtain ⟨F, ss, s, q⟩ := q
  refine ⟨F, ss, s, (From.bind (U := rF c) early_I q).mono fun v H1 ⟨w, F1, ss1, em, s1, u1, f1, l1, h1⟩ => ?_⟩
  refine ⟨F1, ss1, s1, (From.bind (U := rF c) early_I h1).mono fun v' H2 ⟨w', F2, ss2, em2, s2, u2, f2, l2, h2⟩ => ?_⟩
  obtain ⟨ws, ew, k⟩ := From.lift h2
  have u1 : RepF c F2 H2 w v := RepF.kp (s1.kp f2) _ _ u1
  unfold zipW at ew
  split at ew
  · cases ew
    obtain ⟨a, vs, rfl, hF, e1, e2⟩ := u1
    obtain ⟨b, us, rfl, hG, g1, g2⟩ := u2
    exact ⟨a, b, vs, us, rfl, .inl ⟨.inl (.inl e1), .inl (.inl g1), k _ F2 H2 .refl s2 (wk_zipL e1 e2 hF g1 g2 hG)⟩⟩
  · cases ew
    obtain ⟨a, vs, rfl, e1, e2⟩ := u1
    obtain ⟨b, us, rfl, g1, g2⟩ := u2
    exact ⟨a, b, vs, us, rfl, .inr ⟨e1, g1, k _ F2 H2 .refl s2 (wk_zipT e1 e2 g1 g2)⟩⟩
  · cases ew
theorem simI_enum {a : Expr} {m : M W} {p tpos : Pos} {elts : List Expr} {kk : Nat} (hm : X.mg "enumerate" = none) (ha : SimK c X a m) (hK : X.K = c.K := by rfl) (hg : Gl X "enumerate" := by rfl) (hs : starEach [a] X.env = [(false, eval a X.env)] := by rfl) :
    SimI c X (.Tuple elts kk tpos) (.Call (.Name "enumerate" p) [a] [] pos) (iEnum m) := fun Wx tk => by
  refine PI.imp (PI.or (pi_enum hg hm (pa_cons (ha Wx tk) pa_nil hs) hs) (pi_enumS hg hm (ha Wx tk) hs)) fun σ H Q q => ?_
  rw [hK]
  obtain ⟨F, ss, s, q⟩ := q
  have q1 := From.bind (U := rK c) early_I q
  rcases q1 with ⟨w, ss1, em, q1⟩ | ⟨k, w, ss1, em, q1⟩
  · have go : ∀ (v : V) (F1 : Addr → Prop) (H1 : Hp), Fm F H (OwnA σ ss) F1 H1 (OwnA σ ss1) → SR c F1 H1 σ ss1 → Ln σ ss σ ss1 → rK c (BZ σ ss1) F1 H H1 w v → ∃ F2 ws, enumW w = some ws ∧ rK c (BZ σ ss1) F2 H H1 w v ∧ ∀ J, Wk c (OwnA σ ss1) F2 H1 ws J → Q J H1 := fun v F1 H1 f1 s1 l1 t1 => by
      obtain ⟨w', F2, ss2, em2, s2, u2, f2, l2, h2⟩ := q1 v F1 H1 f1 s1 l1 t1
      rw [em] at em2
      cases em2
      obtain ⟨ws, ew, k⟩ := From.lift h2
      exact ⟨F2, ws, ew, u2, fun J wk => k J F2 H1 .refl s2 wk⟩
    cases w with
    | str l =>
      refine .inr ⟨F, ss, s, .inl ⟨_, ss1, em, fun v F1 H1 f1 s1 l1 t1 => ?_⟩⟩
      obtain ⟨F2, ws, ew, u, k⟩ := go v F1 H1 f1 s1 l1 t1
      cases ew
      rcases u with u | ⟨a, _, z, _⟩
      · exact ⟨_, by rw [show v = _ from u], k _ wk_enumS⟩
      · exact z.elim
    | lst xs =>
      refine .inl ⟨F, ss, s, .inl ⟨_, ss1, em, fun v F1 H1 f1 s1 l1 t1 => ?_⟩⟩
      obtain ⟨F2, ws, ew, u, k⟩ := go v F1 H1 f1 s1 l1 t1
      cases ew
      rcases u with ⟨a, vs, rfl, hF, h1, h2⟩ | ⟨a, rfl, ⟨vs, h1, h2⟩, nO⟩
      · exact ⟨a, vs, rfl, .inl (.inl h1), k _ (wk_enumL h1 h2 (.inl hF))⟩
      · exact ⟨a, vs, rfl, .inl (.inl h1), k _ (wk_enumL h1 h2 (.inr nO))⟩
    | _ =>
      refine .inl ⟨F, ss, s, .inl ⟨_, ss1, em, fun v F1 H1 f1 s1 l1 t1 => ?_⟩⟩
      obtain ⟨F2, ws, ew, u, k⟩ := go v F1 H1 f1 s1 l1 t1
      cases ew
  · exact .inl ⟨F, ss, s, .inr ⟨k, w, ss1, em, q1⟩⟩
end
end VI

set_option Elab.async false
set_option linter.all false
set_option maxRecDepth 100000
set_option maxHeartbeats 1000000
set_option exponentiation.threshold 3000
/-! VI, part 19: texts. -/
namespace VI
open PySem L2 PySem.Spec PyProof.Rows
/-! ### the signs of a number -/
def dgF : Nat → Nat → List Nat → List Nat
  | 0, _, acc => acc
  | f + 1, n, acc => if n < 10 then (48 + n) :: acc else dgF f (n / 10) ((48 + n % 10) :: acc)
theorem dgF_ok : ∀ {f n : Nat} {acc : List Nat}, n < 10 ^ f → 0 < f → dgF f n acc = TL.numL n ++ acc
  | 0, _, _, _, h => absurd h (Nat.lt_irrefl _)
  | f + 1, n, acc, h, _ => by
    unfold dgF
    by_cases c : n < 10
    · rw [if_pos c, TL.numL_lt c]
      rfl
    · rw [if_neg c, TL.numL_step (by omega)]
      have h2 : n / 10 < 10 ^ f := by
        rw [Nat.pow_succ] at h
        exact Nat.div_lt_of_lt_mul (by rw [Nat.mul_comm]; exact h)
      have f0 : 0 < f := by
        cases f with
        | zero => simp at h; omega
        | succ f => exact Nat.succ_pos f
      rw [dgF_ok h2 f0, List.append_assoc]
      rfl
def natL (n : Nat) : List Nat := dgF 570 n []
def natOk (n : Nat) : Bool := decide (n < 2 ^ 1890)
theorem natL_ok {n : Nat} (h : natOk n = true) : natL n = TL.numL n := by
  have h := of_decide_eq_true h
  have h2 : n < 10 ^ 570 := Nat.lt_of_lt_of_le h (by decide +kernel)
  unfold natL
  rw [dgF_ok h2 (by decide), List.append_nil]
theorem nat_txt {n : Nat} (h : natOk n = true) : Str.ofString (toString ((n : Nat) : Int)) = mkS (natL n) := by
  rw [natL_ok h]
  exact SX.num_S n
theorem nat_log {n : Nat} (h : natOk n = true) : ((n : Nat) : Int).natAbs.log2 < 1920 := by
  have h := of_decide_eq_true h
  show Nat.log2 n < 1920
  by_cases z : n = 0
  · rw [z]
    decide
  · rw [Nat.log2_lt z]
    exact Nat.lt_of_lt_of_le h (Nat.pow_le_pow_right (by decide) (by decide))
section
variable {X : Cx} {c : Cn} {pos : Pos}
def bStrI : List W → Option W
  | [.int i] => if 0 ≤ i && natOk i.toNat then some (.str (natL i.toNat)) else none
  | _ => none
theorem ru_strI : RuF c (fun xs H Q => ∃ i, xs = [.int i] ∧ i.natAbs.log2 < 1920 ∧ Q (.str (toString i)) H) bStrI := by
  intro F H vs ws w Q _ u e k
  unfold bStrI at e
  split at e
  · rename_i i
    obtain ⟨x, rfl, h1⟩ := rl1 u
    split at e
    · rename_i h
      rw [Bool.and_eq_true, decide_eq_true_iff] at h
      obtain ⟨h0, hn⟩ := h
      cases e
      rw [rL_int h1]
      have ei : i = ((i.toNat : Nat) : Int) := (Int.toNat_of_nonneg h0).symm
      refine ⟨i, rfl, by rw [ei]; exact nat_log hn, k _ _ (.refl _) ?_⟩
      show V.str (Str.ofString (toString i)) = V.str _
      rw [← nat_txt hn, ← ei]
    · cases e
  · cases e
def bOrd : List W → Option W
  | [.str [ch]] => some (.int ch)
  | _ => none
theorem ru_ord1 : RuF c (fun xs H Q => ∃ x, xs = [.str x] ∧ x.length = 1 ∧ Q (.int (x.cps.getD 0 0 : Nat)) H) bOrd := by
  intro F H vs ws w Q _ u e k
  unfold bOrd at e
  split at e
  · obtain ⟨x, rfl, h1⟩ := rl1 u
    cases e
    rw [rL_str h1]
    exact ⟨_, rfl, rfl, k _ _ (.refl _) rfl⟩
  · cases e
def isDig (l : List Nat) : Bool := l.all fun d => decide (48 ≤ d) && decide (d ≤ 57)
def bIntS : List W → Option W
  | [.str a] => if isDig a && !a.isEmpty && decide (a.length ≤ 640) then some (.int (NumText.digitsVal a : Nat)) else none
  | _ => none
theorem ru_intS : RuF c (fun xs H Q => ∃ a n, xs = [.str a] ∧ PySem.intText? a = some n ∧ a.length ≤ 640 ∧ Q (.int n) H) bIntS := by
  intro F H vs ws w Q _ u e k
  unfold bIntS at e
  split at e
  · obtain ⟨x, rfl, h1⟩ := rl1 u
    split at e
    · rename_i a h
      rw [Bool.and_eq_true, Bool.and_eq_true, decide_eq_true_iff] at h
      cases e
      rw [rL_str h1]
      refine ⟨mkS a, _, rfl, SX.int_S h.1.1 (fun z => ?_) (Nat.le_trans h.2 (by decide)), by rw [mkS_len]; exact h.2, k _ _ (.refl _) rfl⟩
      rw [z] at h
      exact absurd h.1.2 (by decide)
    · cases e
  · cases e
/-- int of a number, a truth value or a text -/
def bInt2 (ws : List W) : Option W := match bInt1 ws with
  | some w => some w
  | none => bIntS ws
def rInt2 : LR := fun xs H Q => ((∃ i, xs = [.int i] ∧ Q (.int i) H) ∨ ∃ k, xs = [.bl k] ∧ Q (.int (if k then 1 else 0)) H) ∨ (∃ a n, xs = [.str a] ∧ PySem.intText? a = some n ∧ a.length ≤ 640 ∧ Q (.int n) H)
theorem call_int2 : CallR X (.type "int") rInt2 := fun pins s σ H xs us Q I r h => h.elim (call_int1 pins s σ H xs us Q I r) (call_int_str pins s σ H xs us Q I r)
theorem ru_int2' : RuF c rInt2 bInt2 := by
  intro F H vs ws w Q l u e k
  unfold bInt2 at e
  split at e
  · rename_i w' e1
    cases e
    exact .inl (ru_int1 F H vs ws _ Q l u e1 k)
  · exact .inr (ru_intS F H vs ws w Q l u e k)
/-! ### methods of a text with one argument -/
def eM1 (f : List W → Option W) (m n : M W) : M W := mbd m fun x => match x with
  | .str a => mbd n fun y => lift (f [.str a, y])
  | _ => stuck
def rM1 (r : V → List V → Hp → VK → Prop) : LR := fun vs H Q => match vs with
  | [x, y] => r x [y] H Q
  | _ => False
theorem m1_read {o e : Expr} {m n : M W} {f : List W → Option W} {r : V → List V → Hp → VK → Prop} (ru : RuE c (rM1 r) f) {Wx : WX} {σ : L2.St} {H : Hp} {Q : VK} (h : tM c (eM1 f m n) (rF c) Wx σ H Q) : tM1 r (tM c m (rF c) Wx) (tM c n (rF c) Wx) σ H Q := by
  obtain ⟨F, ss, s, h⟩ := h
  refine ⟨F, ss, s, (From.bind (U := rF c) early_F h).mono fun v H1 ⟨w, F1, ss1, _, s1, u1, f1, l1, h1⟩ => ?_⟩
  cases w with
  | str a =>
    have ev : v = .str (mkS a) := u1
    refine ⟨⟨_, ev⟩, F1, ss1, s1, (From.bind (U := rF c) early_F h1).mono fun y H2 ⟨w2, F2, ss2, _, s2, u2, f2, l2, h2⟩ => ?_⟩
    obtain ⟨w', ew, k⟩ := From.lift h2
    refine ru F2 H2 [v, y] [.str a, w2] w' Q s2.liv ⟨v, [y], rfl, .inl ev, y, [], rfl, .inl u2, rfl⟩ ew (fun v' H3 e3 r3 => k v' F2 H3 e3.fm (s2.ext e3) r3) fun b H3 n3 e3 o3 => ?_
    obtain ⟨u, hu, mu, _⟩ := o3.mut
    exact k _ (plus F2 b) H3 (e3.fm.plusA (.inr (.of n3))) ((s2.ext e3).plusA hu mu fun z => s2.fresh (.of n3) (.inl z)) o3.rep
  | _ => rcases h1 with ⟨a, s', z, _⟩ | ⟨j, w, s', z, _⟩ <;> cases z
def bPart : List W → Option W
  | [.str a, .str (d :: b)] => if a.length ≤ 100000 then (match TL.par (d :: b) [] a with
    | some (p, q) => some (.tup [.str p, .str (d :: b), .str q])
    | none => some (.tup [.str a, .str [], .str []])) else none
  | _ => none
theorem mkS_ne {d : Nat} {b : List Nat} : ((mkS (d :: b)).length == 0) = false := by
  rw [mkS_len]
  rfl
theorem ru_part : RuE c (rM1 fun x xs H Q => ∃ a b, x = .str a ∧ xs = [.str b] ∧ (b.length == 0) = false ∧ a.length ≤ sizeLine ∧
      ∀ p, H p = none → Q (.ref p) (upd H p (.tup [.str (Txt.partition a b).1, .str (Txt.partition a b).2.1, .str (Txt.partition a b).2.2]))) bPart := by
  intro F H vs ws w Q _ u e k _
  unfold bPart at e
  split at e
  · rename_i a d b
    obtain ⟨x, y, rfl, h1, h2⟩ := rl2 u
    split at e
    · rename_i hl
      rw [rL_str h1, rL_str h2]
      refine ⟨mkS a, mkS (d :: b), rfl, rfl, mkS_ne, by rw [mkS_len]; exact sizeLine_big hl, fun p hp => ?_⟩
      split at e
      · rename_i p' q' ep
        cases e
        have z : Txt.partition (mkS a) (mkS (d :: b)) = (mkS p', mkS (d :: b), mkS q') := SX.partition_some (List.cons_ne_nil _ _) ep
        rw [z]
        exact k _ _ (.new hp) ⟨p, _, rfl, .of upd_same, _, _, rfl, rfl, _, _, rfl, rfl, _, _, rfl, rfl, rfl⟩
      · rename_i ep
        cases e
        have z : Txt.partition (mkS a) (mkS (d :: b)) = (mkS a, mkS [], mkS []) := SX.partition_none (List.cons_ne_nil _ _) ep
        rw [z]
        exact k _ _ (.new hp) ⟨p, _, rfl, .of upd_same, _, _, rfl, rfl, _, _, rfl, rfl, _, _, rfl, rfl, rfl⟩
    · cases e
  · cases e
theorem sim_part {o e : Expr} {m n : M W} {apos : Pos} (ho : SimE c X o m) (he : SimE c X e n) (hs : starEach [e] X.env = [(false, eval e X.env)] := by rfl) (hbase : attributeBase o "partition" X.env (eval o X.env) = eval o X.env := by rfl) (hline : (apos.endLine == pos.line) = true := by rfl) :
    SimE c X (.Call (.Attribute o "partition" apos) [e] [] pos) (eM1 bPart m n) := fun Wx tk => PE.imp (pe_partition (ho Wx tk) (he Wx tk) hs hbase hline) fun σ H Q h => m1_read (o := o) (e := e) ru_part h
/-! ### f-strings -/
def fmtW : W → Option W
  | .str s => if s.length ≤ 100000 then some (.str s) else none
  | .int i => if 0 ≤ i && natOk i.toNat then some (.str (natL i.toNat)) else none
  | _ => none
def eFmt (m : M W) : M W := mbd m fun w => lift (fmtW w)
theorem sim_fmt {e : Expr} {m : M W} (h : SimE c X e m) : SimE c X (.FormattedValue e (-1) none pos) (eFmt m) := fun Wx tk => PE.imp (pe_fmt (h Wx tk)) fun σ H Q q => by
  obtain ⟨F, ss, s, q⟩ := q
  refine ⟨F, ss, s, (From.bind (U := rF c) early_F q).mono fun v H1 ⟨w, F1, ss1, _, s1, u1, f1, l1, h1⟩ => ?_⟩
  obtain ⟨w', ew, k⟩ := From.lift h1
  cases w with
  | str l =>
    dsimp only [fmtW] at ew
    split at ew
    · rename_i hl
      cases ew
      have ev : v = .str (mkS l) := u1
      exact .inl ⟨_, ev, by rw [mkS_len]; exact sizeLine_big hl, k _ F1 H1 .refl s1 rfl⟩
    · cases ew
  | int i =>
    dsimp only [fmtW] at ew
    split at ew
    · rename_i h
      rw [Bool.and_eq_true, decide_eq_true_iff] at h
      obtain ⟨h0, hn⟩ := h
      cases ew
      have ev : v = .int i := u1
      have ei : i = ((i.toNat : Nat) : Int) := (Int.toNat_of_nonneg h0).symm
      refine .inr ⟨i, ev, by rw [ei]; exact nat_log hn, k _ F1 H1 .refl s1 ?_⟩
      show V.str (Str.ofString (toString i)) = V.str _
      rw [← nat_txt hn, ← ei]
    · cases ew
  | _ => cases ew
def eFs : List Nat → List (M W) → M W
  | acc, [] => mret (.str acc)
  | acc, m :: r => mbd m fun w => match w with
    | .str s => if acc.length + s.length ≤ 100000 then eFs (acc ++ s) r else stuck
    | _ => stuck
inductive SimJ (c : Cn) (X : Cx) : List Expr → List (M W) → Prop
  | nil : SimJ c X [] []
  | cons {e : Expr} {es : List Expr} {m : M W} {ms : List (M W)} (h : SimE c X e m) (t : SimJ c X es ms) : SimJ c X (e :: es) (m :: ms)
theorem SimJ.pj {Wx : WX} (tk : Takes X Wx) : ∀ {es : List Expr} {ms : List (M W)}, SimJ c X es ms → PJ X es (ms.map fun m => tM c m (rF c) Wx)
  | _, _, .nil => .nil
  | _, _, .cons h t => .cons (h Wx tk) (t.pj tk)
theorem fs_read {Wx : WX} {σ : L2.St} : ∀ {ms : List (M W)} {acc : List Nat} {F : Addr → Prop} {H : Hp} {ss : Slots} {Q : VK}, SR c F H σ ss → From c (eFs acc ms) (rF c) Wx σ F H ss Q →
    tJs (ms.map fun m => tM c m (rF c) Wx) (mkS acc) σ H fun out H1 => Q (.str out) H1
  | [], acc, F, H, ss, Q, s, h => h.ret s rfl
  | m :: ms, acc, F, H, ss, Q, s, h => by
    refine ⟨F, ss, s, (From.bind (U := rF c) early_F (f := fun w => match w with
      | .str s => if acc.length + s.length ≤ 100000 then eFs (acc ++ s) ms else stuck
      | _ => stuck) h).mono fun v H1 ⟨w, F1, ss1, _, s1, u1, f1, l1, h1⟩ => ?_⟩
    cases w with
    | str l =>
      dsimp only at h1
      split at h1
      · rename_i hl
        have ev : v = .str (mkS l) := u1
        have ec : mkS acc ++ mkS l = mkS (acc ++ l) := SX.S_cat acc l
        refine ⟨mkS l, ev, ?_, ?_⟩
        · rw [ec, mkS_len, List.length_append]
          exact sizeLine_big hl
        · rw [ec]
          exact fs_read s1 h1
      · rcases h1 with ⟨a, s', z, _⟩ | ⟨j, w, s', z, _⟩ <;> cases z
    | _ => rcases h1 with ⟨a, s', z, _⟩ | ⟨j, w, s', z, _⟩ <;> cases z
theorem sim_fstr {e1 e2 : Expr} {es : List Expr} {ms : List (M W)} (h : SimJ c X (e1 :: e2 :: es) ms) : SimE c X (.JoinedStr (e1 :: e2 :: es) pos) (eFs [] ms) := fun Wx tk => PE.imp (pe_joined (h.pj tk)) fun σ H Q q => by
  obtain ⟨F, ss, s, q⟩ := q
  exact fs_read s q
theorem sim_fstr1 {e : Expr} {m : M W} (h : SimE c X e m) : SimE c X (.JoinedStr [e] pos) m := fun Wx tk => pe_joined1 (h Wx tk)
/-! ### tuple, {} -/
def bTuple : List W → Option W
  | [.lst xs] => some (.tup xs)
  | [.tup xs] => some (.tup xs)
  | _ => none
theorem ru_tuple : RuE c (fun xs H Q => ∃ p ys, xs = [.ref p] ∧ ((SqL c.K H p ys ∧ ∀ l, H l = none → Q (.ref l) (upd H l (.tup ys))) ∨ (SqT c.K H p ys ∧ Q (.ref p) H))) bTuple := by
  intro F H vs ws w Q _ u e k _
  unfold bTuple at e
  split at e
  · obtain ⟨x, rfl, h1⟩ := rl1 u
    cases e
    obtain ⟨a, vs, rfl, e1, e2⟩ := rL_lst h1
    exact ⟨a, vs, rfl, .inl ⟨.of e1, fun l hl => k _ _ (.new hl) ⟨l, vs, rfl, .of upd_same, RepFs.kp (Ext.kp (.new hl)) _ _ e2⟩⟩⟩
  · obtain ⟨x, rfl, h1⟩ := rl1 u
    cases e
    obtain ⟨a, vs, rfl, e1, e2⟩ := rL_tup h1
    exact ⟨a, vs, rfl, .inr ⟨e1, k _ _ (.refl _) ⟨a, vs, rfl, e1, e2⟩⟩⟩
  · cases e
theorem sim_dict0 : SimO c X (.Dict [] [] pos) (eC (.dct [] [])) := fun Wx tk => PE.imp pe_dnewK fun σ H Q q => by
  obtain ⟨F, ss, s, q⟩ := q
  intro p hp
  refine From.retE q (Ext.new hp).fm (s.ext (.new hp)) ⟨p, rfl, .of hp, fun z => ?_, fun z => s.fresh (.of hp) z, [], ⟨⟨_, upd_same, trivial, fun _ _ z => by cases z⟩, .inl ⟨[], .inl upd_same, rfl, rfl⟩⟩, rfl⟩
  obtain ⟨o, e⟩ := s.liv p z
  rw [hp] at e
  cases e
/-! ### powers, texts repeated -/
def bPow : List W → Option W
  | [.int i, .int j] => if decide (0 ≤ j) && decide ((Builtin.Int.intBits i : Int) * j ≤ 134217728) then some (.int (i ^ j.toNat)) else none
  | _ => none
def CPowB (i j : Int) : Prop := 0 ≤ j ∧ (Builtin.Int.intBits i : Int) * j ≤ 2 ^ 27
theorem op_powB : OpR X (binaryOp .Pow) (L2.rI CPowB fun i j => .int (i ^ j.toNat)) := opI fun _ _ _ _ _ _ _ hc q => pow_int hc.1 hc.2 q
theorem ru_pow : RuF c (r2 (L2.rI CPowB fun i j => .int (i ^ j.toNat))) bPow := ru_int2 fun ws w e => by
  unfold bPow at e
  split at e
  · split at e
    · rename_i h
      rw [Bool.and_eq_true, decide_eq_true_iff, decide_eq_true_iff] at h
      cases e
      exact ⟨_, _, rfl, h, rfl⟩
    · cases e
  · cases e
def rRepS : R2 := fun x y H Q => ∃ (a : Str) (k : Int), x = .str a ∧ y = .int k ∧ 2 ≤ k ∧ 1 ≤ a.length ∧ a.length * k.toNat ≤ 100000 ∧ Q (.str ⟨(List.replicate k.toNat a.cps).foldl (· ++ ·) #[]⟩) H
theorem rep_arr {a : Array Nat} : ∀ {n : Nat} {acc : Array Nat}, ((List.replicate n a).foldl (· ++ ·) acc).toList = acc.toList ++ (List.replicate n a.toList).flatten
  | 0, acc => by simp
  | n + 1, acc => by
    rw [List.replicate_succ, List.foldl_cons, rep_arr, Array.toList_append, List.replicate_succ, List.flatten_cons, List.append_assoc]
theorem rep_len {l : List Nat} : ∀ {n : Nat}, (List.replicate n l).flatten.length = l.length * n
  | 0 => by simp
  | n + 1 => by
    rw [List.replicate_succ, List.flatten_cons, List.length_append, rep_len, Nat.mul_succ, Nat.add_comm]
theorem op_repS : OpR X (binaryOp .Mult) rRepS := by
  intro pins s σ H x y v u Q I rx ry h
  obtain ⟨a, k, rfl, rfl, h2, h1, hl, q⟩ := h
  obtain ⟨t, rfl⟩ := rx
  obtain ⟨t', rfl⟩ := ry
  have kb : k.toNat ≤ 100000 := Nat.le_trans (Nat.le_mul_of_pos_left _ h1) hl
  have ab : a.length ≤ 100000 := Nat.le_trans (Nat.le_mul_of_pos_right _ (by omega)) hl
  have fit : ¬ ((a.length : Int) > (2 ^ 63 - 1) / k) := fun z => by
    have z2 : (2 ^ 63 - 1) / k < (a.length : Int) := z
    have z3 := Int.lt_mul_of_ediv_lt (by omega : 0 < k) z2
    have z4 : (a.length : Int) * k ≤ 100000 * 100000 := by
      have e1 : (a.length : Int) ≤ 100000 := by omega
      have e2 : k ≤ 100000 := by omega
      calc (a.length : Int) * k ≤ 100000 * k := Int.mul_le_mul_of_nonneg_right e1 (by omega)
        _ ≤ 100000 * 100000 := Int.mul_le_mul_of_nonneg_left e2 (by omega)
    omega
  have nz : (k == 1 || a.length == 0) = false := by
    rw [Bool.or_eq_false_iff, beq_eq_false_iff_ne, beq_eq_false_iff_ne]
    omega
  refine PySem.P.mul_str (by rw [decide_eq_false (by omega), decide_eq_false (by omega)]; rfl) (fun _ _ => fit) (fun _ _ => ?_) ?_
  · exact decide_eq_false (Nat.not_lt.mpr (sizeLine_big hl))
  · rw [if_neg (by omega), if_neg (by rw [nz]; exact Bool.false_ne_true)]
    refine ⟨?_, .str _, H, I.tok _, ⟨_, rfl⟩, q⟩
    show Array.size _ ≤ sizeLine
    rw [← Array.length_toList, rep_arr, List.length_append, rep_len]
    have e : a.cps.toList.length * k.toNat ≤ 100000 := by
      rw [Array.length_toList]
      exact hl
    rw [show (#[] : Array Nat).toList.length = 0 from rfl, Nat.zero_add]
    exact sizeLine_big e
def bRep : List W → Option W
  | [.str s, .int k] => if decide (2 ≤ k) && decide (1 ≤ s.length) && decide (s.length * k.toNat ≤ 100000) then some (.str (List.replicate k.toNat s).flatten) else none
  | _ => none
theorem ru_rep : RuF c (r2 rRepS) bRep := by
  intro F H vs ws w Q _ u e k
  unfold bRep at e
  split at e
  · rename_i s n
    obtain ⟨x, y, rfl, h1, h2⟩ := rl2 u
    split at e
    · rename_i h
      rw [Bool.and_eq_true, Bool.and_eq_true, decide_eq_true_iff, decide_eq_true_iff, decide_eq_true_iff] at h
      cases e
      rw [rL_str h1, rL_int h2]
      refine ⟨mkS s, n, rfl, rfl, h.1.1, by rw [mkS_len]; exact h.1.2, by rw [mkS_len]; exact h.2, k _ _ (.refl _) ?_⟩
      show V.str _ = V.str _
      congr 1
      have e1 : ((List.replicate n.toNat s.toArray).foldl (· ++ ·) #[]).toList = (List.replicate n.toNat s).flatten := by
        rw [rep_arr]
        simp
      show (⟨(List.replicate n.toNat s.toArray).foldl (· ++ ·) #[]⟩ : Str) = ⟨(List.replicate n.toNat s).flatten.toArray⟩
      rw [← e1]
    · cases e
  · cases e
/-- * of numbers, of a text and a number -/
def bMulA (ws : List W) : Option W := match bMul ws with
  | some w => some w
  | none => bRep ws
def rMulA : R2 := fun x y H Q => L2.rI CMul (fun i j => .int (i * j)) x y H Q ∨ rRepS x y H Q
theorem op_mulA : OpR X (binaryOp .Mult) rMulA := op_mul.or op_repS
theorem ru_mulA : RuF c (r2 rMulA) bMulA := by
  intro F H vs ws w Q l u e k
  have two : ∀ {r : R2}, r2 r vs H Q → ∃ x y, vs = [x, y] ∧ r x y H Q := fun {r} h => by
    match vs, h with
    | [x, y], h => exact ⟨x, y, rfl, h⟩
  unfold bMulA at e
  split at e
  · rename_i w' e1
    cases e
    obtain ⟨x, y, ev, h⟩ := two (ru_mul F H vs ws _ Q l u e1 k)
    rw [ev]
    exact .inl h
  · obtain ⟨x, y, ev, h⟩ := two (ru_rep F H vs ws w Q l u e k)
    rw [ev]
    exact .inr h
end
end VI

set_option Elab.async false
set_option linter.all false
set_option maxRecDepth 100000
set_option maxHeartbeats 1000000
/-! VI, part 20: the law's end, where no guard stands around. -/
namespace VI
open PySem L2 PySem.Spec PyProof.Rows
section
variable {P : Program} {w : World} {K : PySem.W.Frag} {mg mb : Str → Option Value} {s : Shared} {H : Hp} {cs : List (Addr × Addr)} {a : Addr} {vs : List Value} {ns : List Int}
/-- only the script (at a) and the tables are tracked -/
structure Only (s : Shared) (H : Hp) (cs : List (Addr × Addr)) (a : Addr) (vs : List Value) : Prop where
  scr : s.heap.get? a = some { cls := .type "list", data := .seq vs.toArray }
  tb : ∀ p ∈ cs, s.heap.get? p.2 = some { cls := .none, data := .fields #[] } ∧ H p.2 = some (.tbl #[])
  one : ∀ b u, H b = some u → (∃ p ∈ cs, b = p.2) ∨ (b = a ∧ ∃ o xs, u = .frz o (.lst xs))
/-- what is neither is in the ground -/
theorem Only.free (O : Only s H cs a vs) {b : Addr} {o : Obj} (e : s.heap.get? b = some o) (n1 : ∀ xs n, o.data ≠ .seq xs n) (n2 : o.data ≠ .fields #[]) : H b = none := by
  cases q : H b with
  | none => rfl
  | some u =>
    exfalso
    rcases O.one b u q with ⟨p, hp, rfl⟩ | ⟨rfl, _⟩
    · have z := (O.tb p hp).1
      rw [e] at z
      cases z
      exact n2 rfl
    · have z := O.scr
      rw [e] at z
      cases z
      exact n1 _ _ rfl
theorem Only.nsp (O : Only s H cs a vs) {b : Addr} {m : Str → Option Value} (h : s.heap.Ns b m) : (hidT s.heap H).Ns b m := by
  obtain ⟨o, es, ep, e, d, r⟩ := h
  refine ⟨o, es, ep, hidT_get e (O.free e (fun xs n z => ?_) fun z => ?_), d, r⟩ <;> rw [d] at z <;> cases z
theorem Only.tab (O : Only s H cs a vs) (glob : s.heap.Ns mainGlobals mg) (code : ∀ p ∈ cs, PySem.W.CodeHd s.heap p.1 p.2)
    (main : ∃ (bm : Addr) (ob : Obj), mg "__builtins__" = some (.ref bm) ∧ bm ≠ builtinsNs ∧ s.heap.get? bm = some ob ∧ ob.cls = .type "module" ∧ ob.dict = some builtinsNs ∧ ob.data = .plain) : ∀ p ∈ cs, LamX.TabB (hidT s.heap H) mg p.1 p.2 := fun p hp => by
  have tp := (O.tb p hp).1
  have other : ∀ {b : Addr} {o : Obj}, s.heap.get? b = some o → o.data ≠ .fields #[] → b ≠ p.2 := fun {b o} e n z => by
    rw [z, tp] at e
    cases e
    exact n rfl
  constructor
  · obtain ⟨o, us, file, tf, flags, tg, inF, text, tt, e, r1, r2, r3, rest⟩ := code p hp
    refine ⟨o, us, file, tf, flags, tg, inF, text, tt, hidT_get e (O.free e (fun xs n z => ?_) fun z => ?_), r1, r2, r3, rest⟩
    · rw [r2] at z
      cases z
    · rw [r2] at z
      cases z
      simp at r3
  · obtain ⟨bm, ob, g, nb, e, c1, c2, c3⟩ := main
    refine ⟨bm, ob, g, nb, fun z => ?_, other e (fun z => by rw [c3] at z; cases z), hidT_get e (O.free e (fun xs n z => ?_) fun z => ?_), c1, c2, c3⟩
    · obtain ⟨o, es, ep, eo, d, _⟩ := glob
      rw [z, eo] at e
      cases e
      rw [d] at c3
      cases c3
    · rw [c3] at z
      cases z
    · rw [c3] at z
      cases z
  · intro z
    obtain ⟨o, es, ep, eo, d, _⟩ := glob
    rw [z, tp] at eo
    cases eo
    cases d
/-- the law is called -/
theorem Only.call {fa : Addr} {fd : FuncData} {x : Str} {k : Nat} {sp : Sp} (O : Only s H cs a vs) (ok : HOk P w H s.heap) (KX : K.In s.heap) (kt : ∀ p ∈ cs, K.lookup p.2 = none) (ka : H a ≠ none → K.lookup a = none) (glob : s.heap.Ns mainGlobals mg) (hb : s.heap.Ns builtinsNs mb)
    (hbb : ∀ x : Str, x ≠ "__name__" → mb x = bootBuiltins x) (lim : s.heap.NoLimit) (gens : s.gens = #[]) (code : ∀ p ∈ cs, PySem.W.CodeHd s.heap p.1 p.2)
    (main : ∃ (bm : Addr) (ob : Obj), mg "__builtins__" = some (.ref bm) ∧ bm ≠ builtinsNs ∧ s.heap.get? bm = some ob ∧ ob.cls = .type "module" ∧ ob.dict = some builtinsNs ∧ ob.data = .plain) (room : Room k callerA)
    (F : ∀ base : Heap, K.In base → base.Ns mainGlobals mg → (∀ p ∈ cs, LamX.TabB base mg p.1 p.2) → FnG P w K mg base k fa fd [x] sp) (bind : ∀ (s : Shared) (u : Value), BindsTo s fd ⟨[u], []⟩ [(x, u)]) (hsp : sp [.ref a] H (fun v _ => v = .bl true) fun _ _ _ => False) :
    codeAny (model P w) callerA (.call (.ref fa) ⟨[.ref a], []⟩) (fun r s' => r = .ok (.ret (.bool true)) ∧ OldK s.heap s'.heap ∧ s'.os = s.os ∧ AllBare s'.gens) s := by
  have kIn : K.In (hidT s.heap H) := fun b o e => hidT_get (KX b o e) (by
    cases q : H b with
    | none => rfl
    | some u =>
      exfalso
      rcases O.one b u q with ⟨p, hp, rfl⟩ | ⟨rfl, _⟩
      · rw [kt p hp] at e
        cases e
      · rw [ka (by rw [q]; exact fun z => by cases z)] at e
        cases e)
  have md : L2.Mod K mg (hidT s.heap H) := ⟨kIn, O.nsp glob, ⟨mb, O.nsp hb, hbb⟩, lim.elim fun mc h => ⟨mc, O.nsp h.1, h.2⟩⟩
  have e0 : Env0 P w K mg (hidT s.heap H) callerA [] s H := ⟨rfl, md, fun b o e => of_hidT e, Nat.le_of_eq (hidT_size _ _), trivial, fun b hb => absurd hb (List.not_mem_nil), ok, AllBare.of_eq gens⟩
  refine codeAny_mono ((F _ kIn (O.nsp glob) (O.tab glob code main)).run callerA [] s H ⟨[.ref a], []⟩ [.ref a] [.ref a] _ _ room rfl e0 (bind s (.ref a)) (.cons rfl .nil) hsp) fun r s' h => ?_
  match r, h with
  | .error e, h =>
    obtain ⟨_, _, _, _, _, _, _, _, _, _, _, _, z⟩ := h
    exact z.elim
  | .ok .next, h => exact False.elim h
  | .ok .brk, h => exact False.elim h
  | .ok .cont, h => exact False.elim h
  | .ok (.ret u), h =>
    obtain ⟨v, H', os, bare, un, ok', rel, q⟩ := h
    have q : v = .bl true := q
    subst q
    obtain rfl : u = Value.bool true := rel
    have tabs : ∀ p ∈ cs, ∃ more : Array Value, s'.heap.get? p.2 = some { cls := .none, data := .fields more } := fun p hp => by
      obtain ⟨more, z⟩ := un.tbls p.2 #[] (O.tb p hp).2
      exact ⟨_, ok' p.2 _ z⟩
    have same : ∀ b o, (∀ p ∈ cs, b ≠ p.2) → s.heap.get? b = some o → s'.heap.get? b = some o := fun b o n e => by
      cases q : H b with
      | none => exact un.keep b o e q (by intro z; cases z) (by simp)
      | some u =>
        rcases O.one b u q with ⟨p, hp, z⟩ | ⟨_, ob, xs, rfl⟩
        · exact absurd z (n p hp)
        · have e1 := (ok b _ q).1
          have e2 := (ok' b _ (un.frzs b ob _ q)).1
          rw [e] at e1
          cases e1
          exact e2
    refine ⟨rfl, ⟨fun b o e => ?_, fun b o e => ?_⟩, os, bare⟩
    · by_cases n : ∃ p ∈ cs, b = p.2
      · obtain ⟨p, hp, rfl⟩ := n
        obtain ⟨more, z⟩ := tabs p hp
        have t0 := (O.tb p hp).1
        rw [t0] at e
        cases e
        refine .inr (.inl ⟨((code p hp).tab t0).isCodeTable, rfl, #[], more, rfl, ?_⟩)
        rw [Array.empty_append]
        exact z
      · exact .inl (same b o (fun p hp z => n ⟨p, hp, z⟩) e)
    · by_cases n : ∃ p ∈ cs, b = p.2
      · obtain ⟨p, hp, rfl⟩ := n
        obtain ⟨more, z⟩ := tabs p hp
        exact ⟨_, z⟩
      · exact ⟨o, same b o (fun p hp z => n ⟨p, hp, z⟩) e⟩
end
/-- what is known of the law at the head's heap h -/
def LawG (l : PySem.W.OpenLaw) (w : World) (K : PySem.W.Frag) (k n : Nat) (x : Str) (mg : Str → Option Value) (fa : Addr) (h : Heap) : Prop :=
  ∃ (fd : FuncData) (cs : List (Addr × Addr)) (sp : Sp), (∀ p ∈ cs, h.get? p.2 = some { cls := .none, data := .fields #[] }) ∧ (∀ p ∈ cs, K.lookup p.2 = none) ∧ (∀ p ∈ cs, PySem.W.CodeHd h p.1 p.2) ∧ (∀ (s : Shared) (u : Value), BindsTo s fd ⟨[u], []⟩ [(x, u)]) ∧
    (∀ (H : Hp) (a : Addr) (ns : List Int), ns.length ≤ n → (∀ z ∈ ns, Builtin.Int.intBits z ≤ 1048576) → (∀ p ∈ cs, H p.2 = some (.tbl #[])) → ((∃ o, H a = some (.frz o (.lst (ns.map V.int)))) ∨ SqL K (fun _ => none) a (ns.map V.int)) → sp [.ref a] H (fun v _ => v = .bl true) fun _ _ _ => False) ∧
    ∀ base : Heap, K.In base → base.Ns mainGlobals mg → (∀ p ∈ cs, LamX.TabB base mg p.1 p.2) → FnG l.prog w K mg base k fa fd [x] sp
theorem walk_G {l : PySem.W.OpenLaw} {n k : Nat} {q : Program} {loose : List Str} {XP : (Str → Option Value) → Heap → Prop} {YP : World → Heap → Prop} {d : DefRec} {K : Params → PySem.W.Frag} {x : Str} (hn : l.most = some n) (hn2 : n ≤ sizeLine) (hdf : d.params.defaults = []) (room : Room k callerA)
    (hY : ∀ (w : World) (h : Heap), YP w h → (K w.params).In h) (F : ∀ (w : World) (mg : Str → Option Value) (fa : Addr) (h : Heap), YP w h → XP mg h → (K w.params).In h → h.Ns mainGlobals mg → mg d.name = some (.ref fa) → LawG l w (K w.params) k n x mg fa h) :
    PySem.W.WalkO q loose XP YP l.row.toRowW d [] (fun f vs => PySem.call f vs) := by
  refine Att.attach_callB hn hdf fun w s₀ s₁ mg mb fa o pm cd doc a vs ns G Y ho hd hcd hmg hobj hints hlen hbits hg => ?_
  have KX := hY w _ Y
  obtain ⟨fd, cs, sp, hT, nT, C, hb, hsp, hF⟩ := F w mg fa _ Y G.X KX G.T.g hmg
  have rv := vals_ints hints
  have far : ∀ p ∈ cs, p.2 ≠ a := fun p hp z => by
    have e := hT p hp
    rw [z, hobj] at e
    cases e
  have tabOk : ∀ p ∈ cs, ∀ H : Hp, ObjOk l.prog w H s₁.heap p.2 (.tbl #[]) := fun p hp H => hT p hp
  cases hk : (K w.params).lookup a with
  | some o =>
    have e := KX a o hk
    rw [hobj] at e
    cases e
    have sq : SqL (K w.params) (fun _ => none) a (ns.map V.int) := .inr ⟨_, vs.toArray, _, hk, rfl, rfl, rfl, by rw [List.size_toArray, hints.length]; exact Nat.le_trans hlen hn2, by simpa using rv⟩
    refine Only.call (H := fun b => if b ∈ cs.map (·.2) then some (.tbl #[]) else none) ⟨hobj, fun p hp => ⟨hT p hp, if_pos (List.mem_map.mpr ⟨p, hp, rfl⟩)⟩, fun b u z => ?_⟩ (fun b u z => ?_) KX nT (fun z => ?_) G.T.g G.T.b G.T.builtins G.T.nolimit hg C G.T.bmain room hF hb (hsp _ a ns hlen hbits (fun p hp => if_pos (List.mem_map.mpr ⟨p, hp, rfl⟩)) (.inr sq))
    · by_cases m : b ∈ cs.map (·.2)
      · obtain ⟨p, hp, e⟩ := List.mem_map.mp m
        exact .inl ⟨p, hp, e.symm⟩
      · have z := (if_neg m).symm.trans z
        cases z
    · by_cases m : b ∈ cs.map (·.2)
      · obtain ⟨p, hp, rfl⟩ := List.mem_map.mp m
        have z := (if_pos m).symm.trans z
        cases z
        exact hT p hp
      · have z := (if_neg m).symm.trans z
        cases z
    · exfalso
      refine z (if_neg fun m => ?_)
      obtain ⟨p, hp, e⟩ := List.mem_map.mp m
      exact far p hp e
  | none =>
    refine Only.call (H := fun b => if b = a then some (.frz { cls := .type "list", data := .seq vs.toArray } (.lst (ns.map V.int))) else if b ∈ cs.map (·.2) then some (.tbl #[]) else none)
      ⟨hobj, fun p hp => ⟨hT p hp, (if_neg (far p hp)).trans (if_pos (List.mem_map.mpr ⟨p, hp, rfl⟩))⟩, fun b u z => ?_⟩ (fun b u z => ?_) KX nT (fun _ => hk) G.T.g G.T.b G.T.builtins G.T.nolimit hg C G.T.bmain room hF hb
      (hsp _ a ns hlen hbits (fun p hp => (if_neg (far p hp)).trans (if_pos (List.mem_map.mpr ⟨p, hp, rfl⟩))) (.inl ⟨_, if_pos rfl⟩))
    · by_cases e : b = a
      · have z := (if_pos e).symm.trans z
        cases z
        exact .inr ⟨e, _, _, rfl⟩
      · have z := (if_neg e).symm.trans z
        by_cases m : b ∈ cs.map (·.2)
        · obtain ⟨p, hp, e⟩ := List.mem_map.mp m
          exact .inl ⟨p, hp, e.symm⟩
        · have z := (if_neg m).symm.trans z
          cases z
    · by_cases e : b = a
      · subst e
        have z := (if_pos rfl).symm.trans z
        cases z
        exact ⟨hobj, by rw [List.length_map]; exact Nat.le_trans hlen hn2, vs, _, rv, hobj⟩
      · have z := (if_neg e).symm.trans z
        by_cases m : b ∈ cs.map (·.2)
        · obtain ⟨p, hp, rfl⟩ := List.mem_map.mp m
          have z := (if_pos m).symm.trans z
          cases z
          exact hT p hp
        · have z := (if_neg m).symm.trans z
          cases z
end VI

set_option Elab.async false
set_option linter.all false
set_option maxRecDepth 100000
set_option maxHeartbeats 1000000
/-! VI, part 21: repr. -/
namespace VI
open PySem L2 PySem.Spec PyProof.Rows
mutual
def toD : W → Option PyData
  | .non => some .none
  | .bl b => some (.bool b)
  | .int i => some (.int i)
  | .str s => some (.str (mkS s))
  | .tup xs => (toDs xs).map .tuple
  | .lst xs => (toDs xs).map .list
  | _ => none
def toDs : List W → Option (List PyData)
  | [] => some []
  | x :: xs => (toD x).bind fun d => (toDs xs).map fun ds => d :: ds
end
/-- what repr shows: data without dicts, or {} -/
def reprD : W → Option PyData
  | .dct [] [] => some (.dict [])
  | w => toD w
def bRepr : List W → Option W
  | [w] => (reprD w).bind fun d => if d.showable && decide (d.shown.length ≤ 100000) && decide (d.depth ≤ 50) then some (.str d.shown.cps.toList) else none
  | _ => none
section
variable {c : Cn} {X : Cx} {pins : List (Addr × Obj)} {σ : L2.St} {H : Hp} {s : Shared} {F : Addr → Prop}
mutual
theorem reads_F (hK : X.K = c.K) (I : Inv X pins σ H s) : ∀ {w : W} {v : V} {u : Value} {d : PyData}, RepF c F H w v → RelV v u → toD w = some d → ∃ as, Reads s.heap u d as ∧ d.hasDict = false
  | .non, v, u, d, r, rv, e => by
    cases e
    rw [show v = .non from r] at rv
    obtain rfl : u = .none := rv
    exact ⟨[], .none, by simp only [PyData.hasDict]⟩
  | .bl b, v, u, d, r, rv, e => by
    cases e
    rw [show v = .bl b from r] at rv
    obtain rfl : u = .bool b := rv
    exact ⟨[], .bool b, by simp only [PyData.hasDict]⟩
  | .int i, v, u, d, r, rv, e => by
    cases e
    rw [show v = .int i from r] at rv
    obtain ⟨t, rfl⟩ := rv
    exact ⟨[], .int i t, by simp only [PyData.hasDict]⟩
  | .str l, v, u, d, r, rv, e => by
    cases e
    rw [show v = .str (mkS l) from r] at rv
    obtain ⟨t, rfl⟩ := rv
    exact ⟨[], .str _ t, by simp only [PyData.hasDict]⟩
  | .tup xs, v, u, d, r, rv, e => by
    obtain ⟨a, vs, rfl, h1, h2⟩ := r
    obtain rfl : u = Value.ref a := rv
    obtain ⟨ds, ed, e⟩ := Option.map_eq_some_iff.mp e
    subst e
    obtain ⟨its, rvs, ⟨o, ho, hc, n, hd⟩, _⟩ := I.tuple (by rw [hK]; exact h1)
    obtain ⟨as, ra, hn⟩ := reads_Fs hK I h2 rvs ed
    exact ⟨as, .tuple ho hc hd ra, by simpa only [PyData.hasDict] using hn⟩
  | .lst xs, v, u, d, r, rv, e => by
    obtain ⟨a, vs, rfl, _, h1, h2⟩ := r
    obtain rfl : u = Value.ref a := rv
    obtain ⟨ds, ed, e⟩ := Option.map_eq_some_iff.mp e
    subst e
    obtain ⟨its, rvs, ⟨o, n, ho, hc, _, hd⟩, _⟩ := I.list (.inl (.inl h1))
    obtain ⟨as, ra, hn⟩ := reads_Fs hK I h2 rvs ed
    exact ⟨a :: as, .list ho hc hd ra, by simpa only [PyData.hasDict] using hn⟩
  | .dct _ _, _, _, _, _, _, e => by cases e
  | .scr _, _, _, _, _, _, e => by cases e
  | .fn _, _, _, _, _, _, e => by cases e
  | .cls _, _, _, _, _, _, e => by cases e
theorem reads_Fs (hK : X.K = c.K) (I : Inv X pins σ H s) : ∀ {ws : List W} {vs : List V} {us : List Value} {ds : List PyData}, RepFs c F H ws vs → Vals vs us → toDs ws = some ds → ∃ as, ReadsAll s.heap us ds as ∧ PyData.hasDictAll ds = false
  | [], vs, us, ds, r, rv, e => by
    have r : vs = [] := r
    subst r
    cases rv
    cases e
    exact ⟨[], .nil, by simp only [PyData.hasDictAll]⟩
  | w :: ws, vs, us, ds, r, rv, e => by
    obtain ⟨v, vr, rfl, r1, r2⟩ := r
    cases rv with
    | cons rv rvs =>
      obtain ⟨d, ed, e⟩ := Option.bind_eq_some_iff.mp e
      obtain ⟨ds', eds, e⟩ := Option.map_eq_some_iff.mp e
      subst e
      obtain ⟨as, ra, hn⟩ := reads_F hK I r1 rv ed
      obtain ⟨bs, rb, hn2⟩ := reads_Fs hK I r2 rvs eds
      exact ⟨as ++ bs, .cons ra rb, by simp only [PyData.hasDictAll, hn, hn2, Bool.or_false]⟩
end
def rRepr (c : Cn) : LR := fun vs H Q => ∃ v w F d, vs = [v] ∧ RepL c F H w v ∧ reprD w = some d ∧ d.showable = true ∧ d.shown.length ≤ 100000 ∧ d.depth ≤ 50 ∧ Q (.str d.shown) H
theorem call_reprW (hK : X.K = c.K) (hg : X.A.guards = some []) (hu : X.A.units + 64 < cLine) : CallR X (.builtin "repr") (rRepr c) := by
  intro pins s σ H xs us Q I r h
  obtain ⟨v, w, F, d, rfl, rw', ed, hs, hl, hdp, q⟩ := h
  obtain ⟨u, rfl, ru⟩ := vals1 r
  have fin : ∀ (as : List Addr) (a : Addr), u = .ref a → Reads s.heap u d as → (d.hasDict = true → sysModules ∉ as) → wpAny (model X.prog X.w) X.A (call (.builtin "repr") [u]) (EP X pins σ Q) X.xe s := fun as a eu rd hn => by
    subst eu
    exact repr_of_reads' rd hs hn hg (by omega) (fun b o e => e) (fun h' t tk k => ⟨.str d.shown, H, I.kept (t' := tk) k, ⟨t, rfl⟩, q⟩) (sizeLine_big hl)
  have cont : ∀ {F' : Addr → Prop} (a : Addr), v = .ref a → RepF c F' H w v → toD w = some d → wpAny (model X.prog X.w) X.A (call (.builtin "repr") [u]) (EP X pins σ Q) X.xe s := fun {F'} a ev rf et => by
    obtain ⟨as, rd, hn⟩ := reads_F hK I rf ru et
    rw [ev] at ru
    obtain rfl : u = Value.ref a := ru
    exact fin as a rfl rd fun z => by
      rw [hn] at z
      cases z
  have dict0 : ∀ {F' : Addr → Prop} (a : Addr), v = .ref a → d = .dict [] → (∃ vs, DctAt H a [] vs ∧ RepFs c F' H [] vs) → wpAny (model X.prog X.w) X.A (call (.builtin "repr") [u]) (EP X pins σ Q) X.xe s := fun {F'} a ev e0 ⟨vs, da, rs⟩ => by
    rw [ev] at ru
    obtain rfl : u = Value.ref a := ru
    have it : (a == sysModules) = false ∧ ∃ o es n, s.heap.get? a = some o ∧ o.cls = .type "dict" ∧ o.data = .dict es n ∧ es.toList = [] := by
      rcases da with ⟨kvs, rd, ek, _⟩ | ⟨kvs, rd, ek, _⟩
      · cases kvs with
        | cons p r => cases ek
        | nil =>
          obtain ⟨_, hne, ws, kv, o, es, ep, e1, e2, e3, _, e5, _⟩ := rd.ok I.hok
          cases kv
          refine ⟨hne, o, es, ep, e1, e2.1, e3, ?_⟩
          cases el : es.toList with
          | nil => rfl
          | cons x y =>
            rw [el] at e5
            cases e5
      · cases kvs with
        | cons p r => cases ek
        | nil =>
          obtain ⟨_, hne, xs, pr, o, es, ep, e1, e2, e3, e4, _⟩ := rd.ok I.hok
          cases pr
          exact ⟨hne, o, es, ep, e1, e2.1, e3, e4⟩
    obtain ⟨hne, o, es, n, e1, e2, e3, e4⟩ := it
    have rd : Reads s.heap (.ref a) (.dict []) (a :: [] ++ []) := .dict (kvs := []) e1 e2 e3 (by rw [e4]; exact .nil) (by rw [e4]; exact .nil)
    subst e0
    refine fin _ a rfl rd fun _ z => ?_
    have z : sysModules ∈ [a] := z
    rw [List.mem_singleton] at z
    rw [← z, beq_self_eq_true] at hne
    cases hne
  rcases rw' with rw' | ⟨a, ev, ow⟩
  · cases w with
    | non =>
      cases ed
      rw [show v = .non from rw'] at ru
      obtain rfl : u = .none := ru
      exact PySem.P.repr_of_none ⟨.str _, H, I.tok _, ⟨_, rfl⟩, q⟩
    | bl b =>
      cases ed
      rw [show v = .bl b from rw'] at ru
      obtain rfl : u = .bool b := ru
      exact PySem.P.repr_of_bool ⟨.str _, H, I.tok _, ⟨_, rfl⟩, q⟩
    | int i =>
      cases ed
      rw [show v = .int i from rw'] at ru
      obtain ⟨t, rfl⟩ := ru
      exact PySem.P.repr_of_int (of_decide_eq_true hs) ⟨.str _, H, I.tok _, ⟨_, rfl⟩, q⟩
    | str l =>
      cases ed
      rw [show v = .str (mkS l) from rw'] at ru
      obtain ⟨t, rfl⟩ := ru
      exact PySem.P.repr_of_str ⟨.str _, H, I.tok _, ⟨_, rfl⟩, q⟩ (sizeLine_big hl)
    | tup xs =>
      obtain ⟨a, vs, ev, r⟩ := rw'
      exact cont a ev ⟨a, vs, ev, r⟩ ed
    | lst xs =>
      obtain ⟨a, vs, ev, r⟩ := rw'
      exact cont a ev ⟨a, vs, ev, r⟩ ed
    | dct ks ws =>
      obtain ⟨a, vs, ev, _, da, rs⟩ := rw'
      cases ks with
      | nil =>
        cases ws with
        | nil => exact dict0 (F' := F) a ev (Option.some.inj ed).symm ⟨vs, da, rs⟩
        | cons _ _ => cases ed
      | cons _ _ => cases ed
    | _ => cases ed
  · have rf := ow.rep
    rw [← ev] at rf
    cases w with
    | lst xs => exact cont a ev rf ed
    | dct ks ws =>
      obtain ⟨vs, ⟨_, da⟩, rs⟩ := ow
      cases ks with
      | nil =>
        cases ws with
        | nil => exact dict0 (F' := F) a ev (Option.some.inj ed).symm ⟨vs, da, rs⟩
        | cons _ _ => cases ed
      | cons _ _ => cases ed
    | _ => exact (show False from ow).elim
theorem ru_repr : RuF c (rRepr c) bRepr := by
  intro F H vs ws w Q _ u e k
  unfold bRepr at e
  split at e
  · obtain ⟨x, rfl, h1⟩ := rl1 u
    obtain ⟨d, ed, e⟩ := Option.bind_eq_some_iff.mp e
    split at e
    · rename_i h
      rw [Bool.and_eq_true, Bool.and_eq_true, decide_eq_true_iff, decide_eq_true_iff] at h
      cases e
      refine ⟨x, _, F, d, rfl, h1, ed, h.1.1, h.1.2, h.2, k _ _ (.refl _) ?_⟩
      show V.str _ = V.str ⟨d.shown.cps.toList.toArray⟩
      rw [Array.toArray_toList]
    · cases e
  · cases e
end
end VI

set_option Elab.async false
set_option linter.all false
set_option maxRecDepth 100000
set_option maxHeartbeats 1000000
/-! VI, part 22: raise; a lambda handed to a def that tells what it came to. -/
namespace VI
open PySem L2 PySem.Spec PyProof.Rows
/-! ### raise -/
/-- an own exception class without a field, k here -/
structure ExM (c : Cn) (X : Cx) (x : Str) (k : Nat) : Prop where
  is : ∃ B newId initId bmB, ExcBaseFacts B newId initId bmB ∧ PySem.W.excIn X.K (c.ca k) bmB newId = true ∧ X.mg x = some (.ref (c.ca k)) ∧ PySem.W.keepIn X.K (.ref (c.ca k)) = true ∧ Raises X (.ref (c.ca k))
  none : c.ef k = none
/-- .. with the field f -/
structure ExF (c : Cn) (X : Cx) (x : Str) (k : Nat) : Prop where
  is : ∃ nm B newId initId bmB fI kk f, PySem.VIX.ExcTxt X.K B newId initId bmB nm f (c.ca k) fI ∧ X.mg x = some (.ref (c.ca k)) ∧ Room kk X.A ∧ c.ef k = some f
section
variable {c : Cn} {X : Cx} {pos pos2 p p2 : Pos} {x : Str} {k : Nat} {a : Expr} {m : M W}
theorem sim_raiseM {t : Str} {j : Nat} (e : ExM c X x k) (hc : X.calm = true := by rfl) (hg : Gl X x := by rfl) (hd : (x == ("__debug__" : Str)) = false := by decide) : SimS c X (.Raise (some (.Call (.Name x p) [.Constant (.str t) j p2] [] pos)) none pos2) (sRaise k (eC .non)) := fun Wx tk => by
  obtain ⟨B, n, i, bm, F, q, gC, kC, r⟩ := e.is
  refine PS.imp (ps_raise hc tk (pmk_own F q gC kC r hg hd)) fun D σ H q => ?_
  obtain ⟨F, ss, s, q⟩ := q
  rcases q with ⟨f, s', z, _⟩ | ⟨k', w', s', z, q⟩
  · cases z
  · cases z
    exact q _ none σ F H .refl s .refl ⟨rfl, by rw [e.none]; trivial⟩
theorem sim_raiseF (e : ExF c X x k) (h : SimE c X a m) (hc : X.calm = true := by rfl) (hg : Gl X x := by rfl) (hd : (x == ("__debug__" : Str)) = false := by decide) (hs : starEach [a] X.env = (false, eval a X.env) :: starEach [] X.env := by rfl) (hpl : (backTo pos (starEach [] X.env)).any (·.1) = false := by rfl) :
    SimS c X (.Raise (some (.Call (.Name x p) [a] [] pos)) none pos2) (sRaise k m) := fun Wx tk => by
  obtain ⟨nm, B, n, i, bm, fI, kk, f, T, gC, hr, ef⟩ := e.is
  refine PS.imp (ps_raise hc tk (pmk_fld T gC hr (h Wx tk) hg hd hs hpl)) fun D σ H q => ?_
  obtain ⟨F, ss, s, q⟩ := q
  refine ⟨F, ss, s, (FromS.bind (U := rF c) q).mono fun v H1 ⟨w, F1, ss1, em, s1, u1, f1, l1, h3, hr⟩ => ⟨v, rfl, fun d hd => ?_⟩⟩
  rcases h3 with ⟨f, s', z, _⟩ | ⟨k', w', s', z, q⟩
  · cases z
  · cases z
    refine q _ (some d) σ F1 _ (Ext.new hd).fm (s1.ext (.new hd)) .refl ⟨rfl, ?_⟩
    rw [ef]
    exact ⟨d, v, rfl, upd_same, RepF.kp (Ext.kp (.new hd)) _ _ u1⟩
end
/-! ### a lambda, called by the def that got it -/
section
variable {X : Cx} {pins : List (Addr × Obj)} {σ : L2.St} {H : Hp} {s : Shared}
theorem pe_actG {Ng : List Str} {qg : Str} {sg : Scope} {g f c' : Addr} {cdg pm ctv : Value} {params : Arguments} {body : Expr} {scope : Scope} {k : Nat} {a : Str} {pn : List (Addr × Obj)} {xe : Value → Shared → Prop} {W : WX} {tb : XK → TE} {p1 p2 : Pos}
    (I : Inv X pins σ H s) (L : LamX.LamS X.env.scope scope) (hf : s.heap.get? f = some (PySem.W.kla_obj "<lambda>" (X.env.qual ++ "<lambda>") params body scope (cloFrom X.env.cells scope.names []) pm c' ctv)) (hfn : H f = none) (hfr : f ∉ frs X.stack)
    (hbind : bindArgs (PySem.W.kla_fn "<lambda>" (X.env.qual ++ "<lambda>") params body scope (cloFrom X.env.cells scope.names []) pm (.ref c') ctv) ⟨[], []⟩ = pure []) (tk : Takes ((cxOf C8.CX0 X.prog X.w X.K X.mg X.base Ng qg sg g cdg X.A X.stack s H C8.E0).tr pn xe) W)
    (hr : Room (k + 1) (X.A.deeper (envOfC qg sg s.heap.objs.size g cdg))) (gd : X.A.guards = some [])
    (hbody : ∀ (A : Around) (outer : List Env) (s : Shared) (H : Hp) (E : XK), Rm k (A.deeper (LamX.lamEnv X scope s.heap.objs.size f c')) → PE (LamX.lamCx X A outer s H E scope f c') body (tb E)) (hN : Ng[0]? = some a) (hv : Vis sg a) (hd : (a == ("__debug__" : Str)) = false) (hcd : (a == ("__classdict__" : Str)) = false) :
    PE ((cxOf C8.CX0 X.prog X.w X.K X.mg X.base Ng qg sg g cdg X.A X.stack s H C8.E0).tr pn xe) (.Call (.Name a p1) [] [] p2)
      (fun σZ HZ Q => σZ[0]? = some (some (.ref f)) ∧ HZ c' = some (LamX.CodeO c' (X.env.qual ++ "<lambda>")) ∧ tb (WE W σZ) σ HZ Q) := by
  constructor
  rintro pinsZ sZ σZ HZ Q IZ ⟨hs, hc, ht⟩
  apply wpAny_Call_Name_kw
  refine thn ((pe_var (pos := p1) (i := 0) hN hv hd hcd).run pinsZ sZ σZ HZ (fun v H1 => v = .ref f ∧ H1 = HZ) IZ ⟨.ref f, hs, rfl, rfl⟩) fun u s1 ⟨v, H1, I1, r1, ev, eH⟩ => ?_
  subst ev
  subst eH
  obtain rfl : u = Value.ref f := r1
  have of1 := I1.base.keep f _ hf hfn hfr (fun z => nomatch (show f ∈ ([] : List Addr) from z))
  refine PySem.W.callWith_F0 ⟨_, _, _, _, of1⟩ ?_
  obtain ⟨⟨oc, vs, t, hoc, hdc, hvc⟩, _, _⟩ := I1.hok c' _ hc
  apply wpAny_call
  refine codeAny_mono (R := CR (L2.CX X.prog X.w) (envOfC qg sg s.heap.objs.size g cdg :: X.stack) X.prog X.w H1 s1 Q (WE W σZ)) ?_ fun r s' hq => ?_
  · refine PySem.W.kla_callFunE hr.depth of1 rfl L.co L.gen rfl ⟨c', oc, vs, t, rfl, hoc, hdc, hvc⟩ ?_
    rw [show ([] : List Value) ++ [] = [] from rfl, hbind]
    refine wpAny_pure (wpAny_newFunctionEnv (fun y hy => (L.own y hy).2) (fun y hy => absurd hy (by simp)) (fun h₁ hns hsb => ⟨I1.nolimit.fresh _ hsb, ?_⟩) L.kind)
    have kp : ∀ b o, s1.heap.get? b = some o → h₁.get? b = some o := fun b o e => hsb.extBut b o (Nat.ne_of_lt (Heap.lt_size e)) (Heap.get?_push_of_some _ e)
    have J : Inv (LamX.lamCx X (X.A.deeper (envOfC qg sg s.heap.objs.size g cdg)) (envOfC qg sg s.heap.objs.size g cdg :: X.stack) s1 H1 (WE W σZ) scope f c') [] σ H1 { s1 with heap := h₁, toks := s1.toks + ([] : List (Str × Value)).length } :=
      LamX.lam_start2 I L I1.env0 hr.hd I1.base hns kp
    show codeAny _ _ (.expr body (LamX.lamEnv X scope s1.heap.objs.size f c')) _ _
    refine PySem.W.kla_codeExpr (wpAny_mono ((hbody _ _ s1 H1 (WE W σZ) ⟨hr.deeper _, gd⟩).run [] _ _ H1 Q J ht) (fun v s' hq => ?_) fun e s' hq => hq)
    obtain ⟨w', H', J', rv, q⟩ := hq
    exact ⟨w', H', J'.os, J'.bare, J'.base, J'.hok, rv, q⟩
  · match r, hq with
    | .error e, hq => exact passAt tk σZ pinsZ H1 s1 e s' I1 hq
    | .ok (.ret u), hq => exact I1.after hq
    | .ok .next, hq => exact False.elim hq
    | .ok .brk, hq => exact False.elim hq
    | .ok .cont, hq => exact False.elim hq
end
/-- what a def makes of the lambda that it gets; tl: the lambda's reading -/
def Tells (X : Cx) (Ng : List Str) (x : Str) (sg : Scope) (g : Addr) (cdg : Value) (bg : List Stmt) (a : Str) (q : Str) (TT : Addr → (XK → Hp → VK → Prop) → Hp → VK → Prop) : Prop :=
  ∀ (f c' : Addr) (s : Shared) (H : Hp) (Q : VK) (tl : XK → Hp → VK → Prop),
    (∀ (W : WX) (pn : List (Addr × Obj)) (xe : Value → Shared → Prop) (p1 p2 : Pos), Takes ((cxOf C8.CX0 X.prog X.w X.K X.mg X.base Ng x sg g cdg X.A X.stack s H C8.E0).tr pn xe) W →
      PE ((cxOf C8.CX0 X.prog X.w X.K X.mg X.base Ng x sg g cdg X.A X.stack s H C8.E0).tr pn xe) (.Call (.Name a p1) [] [] p2) (fun σZ HZ Q => σZ[0]? = some (some (.ref f)) ∧ HZ c' = some (LamX.CodeO c' q) ∧ tl (WE W σZ) HZ Q)) →
    H c' = some (LamX.CodeO c' q) → TT f tl H Q →
    ∃ t, PSs (cxOf C8.CX0 X.prog X.w X.K X.mg X.base Ng x sg g cdg X.A X.stack s H C8.E0).nox bg t ∧ t { nx := fun _ H' => Q .non H', rt := Q } (L2.start Ng [.ref f]) H
section
variable {X : Cx}
/-- x(lambda: body) -/
theorem pe_lamG {T : List (Addr × Str)} {TT : Addr → (XK → Hp → VK → Prop) → Hp → VK → Prop} {x a : Str} {g c P : Addr} {k : Nat} {pg : Arguments} {bg : List Stmt} {sg : Scope} {dV kV doc pm cdv ct oc : Value} {an od : Option Addr} {osl : Array (Option Value)} {Ng : List Str}
    {params : Arguments} {body : Expr} {scope : Scope} {t : XK → TE} {p lpos pos : Pos} (hg : Gl X x) (hm : X.mg x = some (.ref g)) (hk : PySem.W.keepIn X.K (.ref g) = true)
    (lk : X.K.lookup g = some ⟨oc, od, .func (PySem.W.fnOf x x pg bg sg dV kV doc pm an cdv ct), osl⟩) (hcg : PySem.W.codeIn X.K cdv x = true) (hb : L2.Binds X.K (PySem.W.fnOf x x pg bg sg dV kV doc pm an cdv ct) [a] []) (Sg : FnScope Ng [a] sg) (hNg : Ng[0]? = some a) (hva : Vis sg a)
    (hG : Tells X Ng x sg g cdv bg a (X.env.qual ++ "<lambda>") TT) (TB : LamX.TabB X.base X.mg c P) (hcode : X.env.code = .ref c) (hmT : (P, X.env.qual ++ "<lambda>") ∈ T) (hu : ∀ p ∈ T, p.1 = P → p.2 = X.env.qual ++ "<lambda>") (hr : Room (k + 2) X.A) (gd : X.A.guards = some []) (L : LamX.LamS X.env.scope scope)
    (hdef : defaultsOf params X.env = ([], [])) (hbind : ∀ (q : Str) (cl : List (Str × Addr)) (pm cv ctv : Value), bindArgs (PySem.W.kla_fn "<lambda>" q params body scope cl pm cv ctv) ⟨[], []⟩ = pure [])
    (hbody : ∀ (A : Around) (outer : List Env) (s : Shared) (H : Hp) (E : XK) (f c' : Addr), Rm k (A.deeper (LamX.lamEnv X scope s.heap.objs.size f c')) → PE (LamX.lamCx X A outer s H E scope f c') body (t E)) (hdb : (x == ("__debug__" : Str)) = false) (hd : (a == ("__debug__" : Str)) = false) (hcd : (a == ("__classdict__" : Str)) = false) :
    PE X (.Call (.Name x p) [.Lambda params body scope lpos] [] pos) (fun σ H Q => LamX.Tabs T H ∧ ∀ f H1, LamX.ExtN H H1 → LamX.Tabs T H1 → TT f (fun E H' Q' => t E σ H' Q') H1 Q) := by
  constructor
  rintro pins s σ H Q I ⟨hT, h⟩
  apply wpAny_Call_Name_kw
  apply ld_glob I hg hm (hd := hdb)
  refine PySem.W.callWith_K (h₀ := X.base) I.ok.mod.kin hk ?_ (by rfl) (by rfl)
  show wpAny _ _ (spliced ((false, eval (.Lambda params body scope lpos) X.env) :: backTo pos (starEach [] X.env))) _ _ s
  refine Calls.spliced_cons (LamX.lam_make2 I TB hcode hmT hu hT hdef (L.has I.ok) fun f c' pm' ctv H1 s' I1 eN T1 hf hfn hfr hco => Calls.spliced_nil ⟨I1.kIn, ?_⟩)
  apply wpAny_call
  refine codeAny_mono (R := CR C8.CX0 X.stack X.prog X.w H1 s' Q C8.E0) ?_ fun r s2 hq => ?_
  · refine LamX.run_ofS (N := Ng) (ps := [a]) (us := [.ref f]) (vs := [.ref f]) lk hcg Sg hr I1.env0 (hb s' [.ref f] I1.kIn rfl) (.cons rfl .nil) rfl fun hr' => ?_
    obtain ⟨t', ht', hq'⟩ := hG f c' s' H1 Q (fun E H' Q' => t E σ H' Q') (fun W pn xe p1 p2 tk => pe_actG I1 L hf hfn hfr (hbind _ _ _ _ _) tk hr' gd (fun A outer s H E hr2 => hbody A outer s H E f c' hr2) hNg hva hd hcd) hco (h f H1 eN T1)
    exact ⟨t', ht'.nox, hq'⟩
  · match r, hq with
    | .error e, hq => exact (show False from hq).elim
    | .ok (.ret u), hq => exact I1.after hq
    | .ok .next, hq => exact False.elim hq
    | .ok .brk, hq => exact False.elim hq
    | .ok .cont, hq => exact False.elim hq
end
end VI

set_option Elab.async false
set_option linter.all false
set_option maxRecDepth 100000
set_option maxHeartbeats 1000000
/-! VI, part 23: told(lambda: e), with clauses that tell a name, a field, a field's text. -/
namespace VI
open PySem L2 PySem.Spec PyProof.Rows
inductive HOut where
  | txt (s : List Nat) | fld (s : List Nat) | rep (s : List Nat)
/-- a clause: the class, what it hands back, its name's slot -/
structure Hd where
  k : Nat
  o : HOut
  i : Nat
def hOut : HOut → W → Option W
  | .txt s, _ => some (.str s)
  | .fld s, w => some (.tup [.str s, w])
  | .rep s, w => (bRepr [w]).map fun t => .tup [.str s, t]
def pick (sub : Nat → Nat → Option Bool) : List Hd → Nat → W → Option W
  | [], _, _ => none
  | h :: r, k, w => match sub k h.k with
    | some true => hOut h.o w
    | some false => pick sub r k w
    | none => none
def eMetS (told : List Nat) (sub : Nat → Nat → Option Bool) (hs : List Hd) (m : M W) : M W := fun ss => match m ss with
  | some (.ok w s) => some (.ok (.tup [.str told, w]) s)
  | some (.exc k w s) => (pick sub hs k w).map fun v => .ok v s
  | none => none
section
variable {c : Cn} {X : Cx} {σ : L2.St} {F F' : Addr → Prop} {H H' : Hp} {ss : Slots}
/-- all but tables stays -/
theorem SR.extN (s : SR c F H σ ss) (e : LamX.ExtN H H') (t : LamX.Tabs c.T H') : SR c F H' σ ss ∧ Fm F H (OwnA σ ss) F H' (OwnA σ ss) := by
  have f : Fm F H (OwnA σ ss) F H' (OwnA σ ss) := ⟨fun a o h _ n => e a o h n, fun a o h n => ⟨o, e a o h n, n⟩, fun _ h => h, fun _ h => .inl h, fun _ h => .inl h⟩
  have k := s.kp f
  have ow : ∀ {b : Addr} {w : W}, OwnAt c F H b w → OwnAt c F H' b w := fun {b w} h => h.keep k fun o h n => e b o h n
  refine ⟨⟨s.len, fun i t ov h1 h2 => ?_, s.nf, s.inj, s.lk, ⟨fun a h => ?_, t⟩⟩, f⟩
  · have q := s.rel i t ov h1 h2
    cases t with
    | no => trivial
    | fr l w =>
      obtain ⟨v, ev, q⟩ := q
      exact ⟨v, ev, RepF.kp k _ _ q⟩
    | own l w =>
      obtain ⟨b, ev, q⟩ := q
      exact ⟨b, ev, ow q⟩
    | lk w =>
      obtain ⟨v, ev, q⟩ := q
      exact ⟨v, ev, q.imp (RepF.kp k _ _) fun ⟨b, eb, q⟩ => ⟨b, eb, ow q⟩⟩
  · obtain ⟨o, h, n⟩ := s.live.1 a h
    exact ⟨o, e a o h n, n⟩
/-- what a clause's suite hands back, read -/
def hdTs (c : Cn) (h : Hd) : Addr → Value → Option Addr → TS := fun a cls d D σ H => match h.o with
  | .txt s => D.rt (.str (mkS s)) H
  | o => ∃ (F : Addr → Prop) (w wo : W) (f : Str) (dd : Addr) (v : V), cls = .ref (c.ca h.k) ∧ c.ef h.k = some f ∧ σ[h.i]? = some (some (.ref a)) ∧ d = some dd ∧ H dd = some (.xd [(f, v)]) ∧ RepF c F H w v ∧ hOut o w = some wo ∧ ∀ v' H', Ext H H' → RepF c F H' wo v' → D.rt v' H'
def hdCl (c : Cn) (h : Hd) : Clause := ⟨.ref (c.ca h.k), match h.o with | .txt _ => none | _ => some h.i, hdTs c h⟩
/-- what is known of the classes: which is under which, which field -/
structure SubOk (c : Cn) (sub : Nat → Nat → Option Bool) : Prop where
  is : ∀ k j b, sub k j = some b → PySem.W.exmOne c.K (.ref (c.ca k)) (.ref (c.ca j)) = some b
  same : ∀ k j, sub k j = some true → c.ef j ≠ none → c.ef k = c.ef j ∧ c.ca k = c.ca j
theorem pick_mix {sub : Nat → Nat → Option Bool} (so : SubOk c sub) {D : Ends} : ∀ {hs : List Hd} {k : Nat} {w wo : W} {cls : Value} {d : Option Addr} {σ : L2.St}, pick sub hs k w = some wo → (∀ h ∈ hs, (∃ s, h.o = .txt s) ∨ (c.ef h.k ≠ none ∧ h.i < σ.length)) → ExR c F H k w cls d →
    (∀ v H', Ext H H' → RepF c F H' wo v → D.rt v H') → wMix c.K (fun _ _ _ _ => False) D (hs.map (hdCl c)) cls d σ H
  | [], _, _, _, _, _, _, e, _, _, _ => by cases e
  | h :: hs, k, w, wo, cls, d, σ, e, hi, x, kk => by
    unfold pick at e
    obtain ⟨ec, xr⟩ := x
    cases es : sub k h.k with
    | none =>
      rw [es] at e
      cases e
    | some b =>
      rw [es] at e
      refine ⟨b, by rw [ec]; exact so.is _ _ _ es, fun hb => ?_, fun hb a ha => ?_⟩
      · subst hb
        exact pick_mix so e (fun h' m => hi h' (List.mem_cons_of_mem _ m)) ⟨ec, xr⟩ kk
      · subst hb
        have e : hOut h.o w = some wo := e
        rcases hi h List.mem_cons_self with ⟨s, eo⟩ | ⟨ef, il⟩
        · unfold hdCl
          rw [eo] at e ⊢
          cases e
          show hdTs c h a cls d D σ H
          unfold hdTs
          rw [eo]
          exact kk _ _ (.refl _) rfl
        · obtain ⟨e1, e2⟩ := so.same _ _ es ef
          cases ef' : c.ef h.k with
          | none => exact absurd ef' ef
          | some f =>
            rw [e1, ef'] at xr
            obtain ⟨dd, v, ed, hd, rv⟩ := xr
            have done : ∀ o, h.o = o → (∀ s, o ≠ .txt s) → (match (hdCl c h).i with
                | none => (hdCl c h).ts a cls d D σ H
                | some i => (hdCl c h).ts a cls d (goneAt i D) (σ.set i (some (.ref a))) H) := fun o eo no => by
              have ei : (hdCl c h).i = some h.i := by
                unfold hdCl
                rw [eo]
                cases o with
                | txt s => exact absurd rfl (no s)
                | fld s => rfl
                | rep s => rfl
              rw [ei]
              show hdTs c h a cls d (goneAt h.i D) (σ.set h.i (some (.ref a))) H
              unfold hdTs
              rw [eo] at e ⊢
              cases o with
              | txt s => exact absurd rfl (no s)
              | fld s => exact ⟨F, w, wo, f, dd, v, by rw [ec, e2], ef', List.getElem?_set_self il, ed, hd, rv, e, kk⟩
              | rep s => exact ⟨F, w, wo, f, dd, v, by rw [ec, e2], ef', List.getElem?_set_self il, ed, hd, rv, e, kk⟩
            cases eo : h.o with
            | txt s =>
              unfold hdCl
              rw [eo] at e ⊢
              cases e
              show hdTs c h a cls d D σ H
              unfold hdTs
              rw [eo]
              exact kk _ _ (.refl _) rfl
            | fld s => exact done _ eo fun s z => by cases z
            | rep s => exact done _ eo fun s z => by cases z
theorem bRepr_some {w t : W} (e : bRepr [w] = some t) : ∃ d, reprD w = some d ∧ d.showable = true ∧ d.shown.length ≤ 100000 ∧ d.depth ≤ 50 ∧ V.str d.shown = V.str (mkS d.shown.cps.toList) ∧ t = .str d.shown.cps.toList := by
  unfold bRepr at e
  obtain ⟨d, ed, e⟩ := Option.bind_eq_some_iff.mp e
  split at e
  · rename_i h
    rw [Bool.and_eq_true, Bool.and_eq_true, decide_eq_true_iff, decide_eq_true_iff] at h
    cases e
    refine ⟨d, ed, h.1.1, h.1.2, h.2, ?_, rfl⟩
    show V.str d.shown = V.str ⟨d.shown.cps.toList.toArray⟩
    rw [Array.toArray_toList]
  · cases e
/-! ### the clauses' suites -/
section
variable {p q pos p1 p2 p3 p4 p5 p6 p7 : Pos} {x n : Str} {hds : List ExceptHandler} {l : List Clause} {j k kk : Nat} {i : Nat} {f : Str}
theorem cl_txt {t : Str} {s : List Nat} (h : t = mkS s) (nm : Names X x (.ref (c.ca k))) (r : Clauses X hds l) : Clauses X (.ExceptHandler (some (.Name x p)) none [.Return (some (.Constant (.str t) j p1)) p2] q :: hds) (hdCl c ⟨k, .txt s, i⟩ :: l) :=
  .plain nm (fun a oe cls d pn _ _ => PSs.imp (pss_one (ps_ret pe_str)) fun D σ H y => by
    rw [h]
    exact y) r
/-- what reading a field asks -/
structure FldOk (c : Cn) (k : Nat) (f : Str) : Prop where
  xf : XfC c.K (c.ca k)
  no : PySem.W.findIn c.K (.ref (c.ca k)) f = some none
  ef : c.ef k = some f
theorem cl_fld {t : Str} {s : List Nat} {kt : Nat} (h : t = mkS s) (hK : X.K = c.K) (fo : FldOk c k f) (hi : X.N[i]? = some n) (hl : X.env.kindOf n = some .local) (hv : Vis X.env.scope n) (hd : (n == ("__debug__" : Str)) = false) (hcd : (n == ("__classdict__" : Str)) = false)
    (hb : ∀ a oe pn, attributeBase (.Name n p3) f (X.suite a ((a, oe) :: pn)).env (eval (.Name n p3) (X.suite a ((a, oe) :: pn)).env) = eval (.Name n p3) (X.suite a ((a, oe) :: pn)).env) (nm : Names X x (.ref (c.ca k))) (r : Clauses X hds l) :
    Clauses X (.ExceptHandler (some (.Name x p)) (some n) [.Return (some (.Tuple [.Constant (.str t) j p1, .Attribute (.Name n p3) f p4] kt p5)) p2] q :: hds) (hdCl c ⟨k, .fld s, i⟩ :: l) :=
  .named nm hi hl (fun a oe cls d pn hz hf => PSs.imp (pss_one (ps_ret (pe_tup (pa_cons pe_str (pa_cons (pe_xf (X := X) (by rw [hK]; exact fo.xf) (by rw [hK]; exact fo.no) hz hf (pe_var hi hv hd hcd) (hb a oe pn)) pa_nil))))) fun D σ H y => by
    obtain ⟨F, w, wo, f', dd, v, ec, ef, eσ, ed, hd, rv, eo, kk⟩ := y
    rw [fo.ef] at ef
    cases ef
    refine ⟨_, eσ, rfl, ec, dd, _, v, ed, hd, by simp, ⟨by show 2 ≤ sizeLine; decide, fun pp hp => ?_⟩⟩
    cases eo
    exact kk _ _ (.new hp) ⟨pp, _, rfl, .of upd_same, _, _, rfl, (by rw [h]; exact rfl), v, [], rfl, RepF.kp (Ext.kp (.new hp)) _ _ rv, rfl⟩) r
theorem cl_rep {t : Str} {s : List Nat} {kt : Nat} (h : t = mkS s) (hK : X.K = c.K) (fo : FldOk c k f) (hi : X.N[i]? = some n) (hl : X.env.kindOf n = some .local) (hv : Vis X.env.scope n) (hd : (n == ("__debug__" : Str)) = false) (hcd : (n == ("__classdict__" : Str)) = false)
    (hb : ∀ a oe pn, attributeBase (.Name n p3) f (X.suite a ((a, oe) :: pn)).env (eval (.Name n p3) (X.suite a ((a, oe) :: pn)).env) = eval (.Name n p3) (X.suite a ((a, oe) :: pn)).env) (gd : X.A.guards = some []) (hu : X.A.units + 64 < cLine) (hg : Gl X "repr") (hm : X.mg "repr" = none)
    (nm : Names X x (.ref (c.ca k))) (r : Clauses X hds l) :
    Clauses X (.ExceptHandler (some (.Name x p)) (some n) [.Return (some (.Tuple [.Constant (.str t) j p1, .Call (.Name "repr" p6) [.Attribute (.Name n p3) f p4] [] p7] kt p5)) p2] q :: hds) (hdCl c ⟨k, .rep s, i⟩ :: l) :=
  .named nm hi hl (fun a oe cls d pn hz hf => PSs.imp (pss_one (ps_ret (pe_tup (pa_cons pe_str (pa_cons (pe_callB (call_reprW (c := c) hK gd hu) hg hm boot_repr (pa_cons (pe_xf (X := X) (by rw [hK]; exact fo.xf) (by rw [hK]; exact fo.no) hz hf (pe_var hi hv hd hcd) (hb a oe pn)) pa_nil)) pa_nil))))) fun D σ H y => by
    obtain ⟨F, w, wo, f', dd, v, ec, ef, eσ, ed, hd, rv, eo, kk⟩ := y
    rw [fo.ef] at ef
    cases ef
    obtain ⟨t', et, eo⟩ := Option.map_eq_some_iff.mp eo
    obtain ⟨dt, e1, e2, e3, e4, e5, e6⟩ := bRepr_some et
    subst e6
    subst eo
    refine ⟨_, eσ, rfl, ec, dd, _, v, ed, hd, by simp, v, w, F, dt, rfl, .inl rv, e1, e2, e3, e4, ⟨by show 2 ≤ sizeLine; decide, fun pp hp => ?_⟩⟩
    exact kk _ _ (.new hp) ⟨pp, _, rfl, .of upd_same, _, _, rfl, (by rw [h]; exact rfl), _, [], rfl, e5, rfl⟩) r
end
/-! ### told(lambda: e) -/
/-- what the def makes of the lambda: a tuple of the text told and what the lambda hands back; or a clause's -/
def TTmet (c : Cn) (t : Str) (hs : List Hd) (Ng : List Str) : Addr → (XK → Hp → VK → Prop) → Hp → VK → Prop := fun f tl H Q =>
  tl (fun cls d H' => wMix c.K (fun _ _ _ _ => False) { nx := fun _ H2 => Q .non H2, rt := Q } (hs.map (hdCl c)) cls d (L2.start Ng [.ref f]) H') H fun v H' => [V.str t, v].length ≤ sizeLine ∧ ∀ p, H' p = none → Q (.ref p) (upd H' p (.tup [.str t, v]))
theorem tells_met {Ng : List Str} {x a q : Str} {sg : Scope} {g : Addr} {cdg : Value} {t : Str} {hs : List Hd} {hd : ExceptHandler} {hds : List ExceptHandler} {j kt : Nat} {p1 p2 p3 p4 p5 p6 : Pos} (hK : X.K = c.K) (hN : Ng.Nodup) (h0 : ∀ f : Addr, (L2.start Ng [V.ref f])[0]? = some (some (V.ref f)))
    (cl : ∀ s H, Clauses (cxOf C8.CX0 X.prog X.w X.K X.mg X.base Ng x sg g cdg X.A X.stack s H C8.E0).nox (hd :: hds) (hs.map (hdCl c))) :
    Tells X Ng x sg g cdg [.Try [.Return (some (.Tuple [.Constant (.str t) j p1, .Call (.Name a p2) [] [] p3] kt p4)) p5] (hd :: hds) [] [] p6] a q (TTmet c t hs Ng) := by
  intro f c' s H Q tl act hc h
  refine ⟨_, pss_one (ps_try_mix (X := (cxOf C8.CX0 X.prog X.w X.K X.mg X.base Ng x sg g cdg X.A X.stack s H C8.E0).nox) (l := hs.map (hdCl c)) (Wout := fun _ _ _ _ => False)
      (tb := fun W D σ H => σ[0]? = some (some (.ref f)) ∧ H c' = some (LamX.CodeO c' q) ∧ tl (WE W σ) H fun v H1 => [V.str t, v].length ≤ sizeLine ∧ ∀ p, H1 p = none → D.rt (.ref p) (upd H1 p (.tup [.str t, v])))
      rfl rfl hN takes0 (fun W pn xe tk _ => ?_) (cl s H)), ?_⟩
  · refine PSs.imp (pss_one (ps_ret (pe_tup (pa_cons pe_str (pa_cons (act W pn xe p2 p3 tk) pa_nil))))) fun D σ H1 y => ?_
    obtain ⟨y1, y2, y3⟩ := y
    exact ⟨y1, y2, y3⟩
  · refine ⟨h0 f, hc, ?_⟩
    have h : tl (fun cls d H' => wMix c.K (fun _ _ _ _ => False) { nx := fun _ H2 => Q .non H2, rt := Q } (hs.map (hdCl c)) cls d (L2.start Ng [.ref f]) H') H fun v H' => [V.str t, v].length ≤ sizeLine ∧ ∀ p, H' p = none → Q (.ref p) (upd H' p (.tup [.str t, v])) := h
    rw [← hK] at h
    exact h
/-- told(lambda: e), read -/
theorem met_read {told : List Nat} {sub : Nat → Nat → Option Bool} {hs : List Hd} {m : M W} {Wx : WX} {Q : VK} {Ng : List Str} (so : SubOk c sub) (hi : ∀ h ∈ hs, (∃ s, h.o = .txt s) ∨ (c.ef h.k ≠ none ∧ h.i < Ng.length)) (h : tM c (eMetS told sub hs m) (rF c) Wx σ H Q) :
    LamX.Tabs c.T H ∧ ∀ f H1, LamX.ExtN H H1 → LamX.Tabs c.T H1 → TTmet c (mkS told) hs Ng f (fun E H' Q' => tM c m (rF c) (fun cls d _ H'' => E cls d H'') σ H' Q') H1 Q := by
  obtain ⟨F, ss, s, h⟩ := h
  refine ⟨s.live.2, fun f H1 e t => ?_⟩
  obtain ⟨s1, f1⟩ := s.extN e t
  refine ⟨F, ss, s1, ?_⟩
  cases em : m ss with
  | none =>
    have z : eMetS told sub hs m ss = none := by
      unfold eMetS
      rw [em]
    rcases h with ⟨w, s', e', _⟩ | ⟨k, w, s', e', _⟩ <;> rw [z] at e' <;> cases e'
  | some r =>
    cases r with
    | ok w s' =>
      have z : eMetS told sub hs m ss = some (.ok (.tup [.str told, w]) s') := by
        unfold eMetS
        rw [em]
      rcases h with ⟨w', s'', e', q⟩ | ⟨k, w', s'', e', _⟩
      · rw [z] at e'
        cases e'
        refine .inl ⟨w, s', em, fun v F' H' f' sr l r => ⟨by show 2 ≤ sizeLine; decide, fun p hp => ?_⟩⟩
        exact q _ F' _ (f1.trans (f'.trans (Ext.new hp).fm)) (sr.ext (.new hp)) l ⟨p, _, rfl, .of upd_same, _, _, rfl, rfl, v, [], rfl, RepF.kp (Ext.kp (.new hp)) _ _ r, rfl⟩
      · rw [z] at e'
        cases e'
    | exc k w s' =>
      have z : eMetS told sub hs m ss = (pick sub hs k w).map fun v => .ok v s' := by
        unfold eMetS
        rw [em]
      cases ep : pick sub hs k w with
      | none =>
        rw [ep] at z
        rcases h with ⟨w', s'', e', _⟩ | ⟨k, w', s'', e', _⟩ <;> rw [z] at e' <;> cases e'
      | some wo =>
        rw [ep] at z
        rcases h with ⟨w', s'', e', q⟩ | ⟨k, w', s'', e', _⟩
        · rw [z] at e'
          cases e'
          refine .inr ⟨k, w, s', em, fun cls d F' H' f' sr l x => ?_⟩
          have ln : (L2.start Ng [V.ref f]).length = Ng.length ∨ (L2.start Ng [V.ref f]).length = 1 := by
            unfold L2.start
            simp
            omega
          refine pick_mix (D := { nx := fun _ H2 => Q .non H2, rt := Q }) so ep (fun h hm => (hi h hm).imp id fun ⟨e1, e2⟩ => ⟨e1, ?_⟩) x fun v H'' e'' r => q v F' H'' (f1.trans (f'.trans e''.fm)) (sr.ext e'') l r
          show h.i < (L2.start Ng [V.ref f]).length
          unfold L2.start
          simp
          omega
        · rw [z] at e'
          cases e'
theorem sim_met {told : List Nat} {sub : Nat → Nat → Option Bool} {hs : List Hd} {hd : ExceptHandler} {hds : List ExceptHandler} {m : M W} {x a : Str} {g cc P : Addr} {k j kt : Nat} {pg : Arguments} {sg : Scope} {dV kV doc pm cdv ct oc : Value} {an od : Option Addr} {osl : Array (Option Value)} {Ng : List Str}
    {params : Arguments} {body : Expr} {scope : Scope} {p lpos pos p1 p2 p3 p4 p5 p6 : Pos} (hK : X.K = c.K) (hm : X.mg x = some (.ref g)) (hk : PySem.W.keepIn X.K (.ref g) = true)
    (lk : X.K.lookup g = some ⟨oc, od, .func (PySem.W.fnOf x x pg [.Try [.Return (some (.Tuple [.Constant (.str (mkS told)) j p1, .Call (.Name a p2) [] [] p3] kt p4)) p5] (hd :: hds) [] [] p6] sg dV kV doc pm an cdv ct), osl⟩) (hcg : PySem.W.codeIn X.K cdv x = true)
    (hb : L2.Binds X.K (PySem.W.fnOf x x pg [.Try [.Return (some (.Tuple [.Constant (.str (mkS told)) j p1, .Call (.Name a p2) [] [] p3] kt p4)) p5] (hd :: hds) [] [] p6] sg dV kV doc pm an cdv ct) [a] []) (Sg : FnScope Ng [a] sg) (hNg : Ng[0]? = some a) (hva : Vis sg a)
    (cl : ∀ s H, Clauses (cxOf C8.CX0 X.prog X.w X.K X.mg X.base Ng x sg g cdv X.A X.stack s H C8.E0).nox (hd :: hds) (hs.map (hdCl c))) (so : SubOk c sub) (hi : ∀ h ∈ hs, (∃ s, h.o = .txt s) ∨ (c.ef h.k ≠ none ∧ h.i < Ng.length))
    (TB : LamX.TabB X.base X.mg cc P) (hcode : X.env.code = .ref cc) (hmT : (P, X.env.qual ++ "<lambda>") ∈ c.T) (hu : ∀ p ∈ c.T, p.1 = P → p.2 = X.env.qual ++ "<lambda>") (hr : Rm (k + 2) X.A) (L : LamX.LamS X.env.scope scope)
    (hbody : ∀ (A : Around) (outer : List Env) (s : Shared) (H : Hp) (E : XK) (f c' : Addr), Rm k (A.deeper (LamX.lamEnv X scope s.heap.objs.size f c')) → SimE c (LamX.lamCx X A outer s H E scope f c') body m) (hg : Gl X x := by rfl) (hdef : defaultsOf params X.env = ([], []) := by rfl)
    (hbind : ∀ (q : Str) (cl : List (Str × Addr)) (pm cv ctv : Value), bindArgs (PySem.W.kla_fn "<lambda>" q params body scope cl pm cv ctv) ⟨[], []⟩ = pure [] := by intros; rfl) (hdb : (x == ("__debug__" : Str)) = false := by decide) (hd1 : (a == ("__debug__" : Str)) = false := by decide) (hd2 : (a == ("__classdict__" : Str)) = false := by decide) :
    SimE c X (.Call (.Name x p) [.Lambda params body scope lpos] [] pos) (eMetS told sub hs m) := fun Wx tk => by
  have h0 : ∀ f : Addr, (L2.start Ng [V.ref f])[0]? = some (some (V.ref f)) := fun f => rfl
  refine PE.imp (pe_lamG (T := c.T) (t := fun E => tM c m (rF c) (fun cls d _ H'' => E cls d H'')) hg hm hk lk hcg hb Sg hNg hva (tells_met (c := c) (t := mkS told) hK Sg.nd h0 cl) TB hcode hmT hu hr.room hr.gd L hdef hbind (fun A outer s H E f c' hr' => hbody A outer s H E f c' hr' _ (takes_of rfl rfl rfl rfl)) hdb hd1 hd2) fun σ H Q q => met_read so hi q
end
end VI

set_option Elab.async false
set_option linter.all false
set_option maxRecDepth 100000
set_option maxHeartbeats 1000000
/-! VI, part 24: more words for the printed texts. -/
namespace VI
open PySem L2 PySem.Spec PyProof.Rows
/-- x += e: numbers, texts -/
def bAddF : List W → Option W
  | [.int i, .int j] => some (.int (i + j))
  | [.str a, .str b] => if a.length + b.length ≤ 100000 then some (.str (a ++ b)) else none
  | _ => none
def rAddF : R2 := fun x y H Q => (rI0 fun i j => .int (i + j)) x y H Q ∨ ∃ i j, x = .str i ∧ y = .str j ∧ i.length + j.length ≤ sizeLine ∧ Q (.str (i ++ j)) H
section
variable {X : Cx} {c : Cn}
theorem iop_add2 : OpR X (inplaceOp .Add) rAddF := iop_add.or iop_add_str
theorem ru_addF : RuF c (r2 rAddF) bAddF := by
  intro F H vs ws w Q _ u e k
  unfold bAddF at e
  split at e
  · obtain ⟨x, y, rfl, h1, h2⟩ := rl2 u
    cases e
    rw [rL_int h1, rL_int h2]
    exact .inl ⟨_, _, rfl, rfl, k _ _ (.refl _) rfl⟩
  · obtain ⟨x, y, rfl, h1, h2⟩ := rl2 u
    split at e
    · rename_i a b hl
      cases e
      rw [rL_str h1, rL_str h2]
      refine .inr ⟨_, _, rfl, rfl, by rw [mkS_len, mkS_len]; exact sizeLine_big hl, k _ _ (.refl _) ?_⟩
      show V.str (mkS a ++ mkS b) = V.str _
      rw [show mkS a ++ mkS b = mkS (a ++ b) from SX.S_cat a b]
    · cases e
  · cases e
def bRepL : List W → Option W
  | [.lst xs, .int k] => if decide (0 ≤ k) && decide (xs.length * k.toNat ≤ 100000) && decide (k ≤ 100000) then some (.lst (List.replicate k.toNat xs).flatten) else none
  | _ => none
theorem RepFs.rep {F : Addr → Prop} {H : Hp} {ws : List W} {vs : List V} (r : RepFs c F H ws vs) : ∀ n : Nat, RepFs c F H (List.replicate n ws).flatten (List.replicate n vs).flatten
  | 0 => rfl
  | n + 1 => by
    rw [List.replicate_succ, List.replicate_succ, List.flatten_cons, List.flatten_cons]
    exact r.app (RepFs.rep r n)
theorem ru_repL : RuO c (r2 rRep) bRepL := by
  intro F H vs ws w Q _ u e k
  unfold bRepL at e
  split at e
  · rename_i xs n
    obtain ⟨x, y, rfl, h1, h2⟩ := rl2 u
    split at e
    · rename_i h
      rw [Bool.and_eq_true, Bool.and_eq_true, decide_eq_true_iff, decide_eq_true_iff, decide_eq_true_iff] at h
      cases e
      obtain ⟨a, us, rfl, e1, e2⟩ := rL_lst h1
      rw [rL_int h2]
      refine ⟨a, n, us, rfl, rfl, e1, by omega, by omega, by rw [← e2.length]; exact sizeLine_big h.1.2, fun p hp => k p _ hp (.new hp) ⟨_, upd_same, RepFs.kp (Ext.kp (.new hp)) _ _ (e2.rep _)⟩⟩
    · cases e
  · cases e
/-- * of numbers, of a text or a list and a number -/
def bMulB (ws : List W) : Option W := match bMulA ws with
  | some w => some w
  | none => bRepL ws
def rMulB : R2 := fun x y H Q => rMulA x y H Q ∨ rRep x y H Q
theorem op_mulB : OpR X (binaryOp .Mult) rMulB := op_mulA.or op_rep
theorem ru_mulB : RuE c (r2 rMulB) bMulB := by
  intro F H vs ws w Q l u e k k'
  have two : ∀ {r : R2}, r2 r vs H Q → ∃ x y, vs = [x, y] ∧ r x y H Q := fun {r} h => by
    match vs, h with
    | [x, y], h => exact ⟨x, y, rfl, h⟩
  unfold bMulB at e
  split at e
  · rename_i w' e1
    cases e
    obtain ⟨x, y, ev, h⟩ := two (ru_mulA F H vs ws _ Q l u e1 k)
    rw [ev]
    exact .inl h
  · obtain ⟨x, y, ev, h⟩ := two (ru_repL F H vs ws w Q l u e k')
    rw [ev]
    exact .inr h
end
/-- the text of a def, where its code object is told -/
theorem fn_viC {P : Program} {w : World} {K : PySem.W.Frag} {mg : Str → Option Value} {base : Heap} {c : Cn} {x qual : Str} {st : Stmt} {f : Addr} {N ps : List Str} {k n np : Nat} {b : M Flow} {oc : Value} {od an : Option Addr} {kV doc pm cdv ct : Value} {osl : Array (Option Value)}
    (lk : K.lookup f = some ⟨oc, od, .func (PySem.W.fnOf x qual (defArgs st) (defBody st) (defScope st) .none kV doc pm an cdv ct), osl⟩) (hcd : PySem.W.codeIn K cdv qual = true) (S : FnScope N ps (defScope st)) (hn : N.length = n) (hp : ps.length = np)
    (body : ∀ (A : Around) (outer : List Env) (s : Shared) (H : Hp) (E : XK), Rm k (A.deeper (envOfC qual (defScope st) s.heap.objs.size f cdv)) → SimB c (cxOf (L2.CX P w) P w K mg base N qual (defScope st) f cdv A outer s H E) (defBody st) b) :
    FnG P w K mg base (k + 1) f (PySem.W.fnOf x qual (defArgs st) (defBody st) (defScope st) .none kV doc pm an cdv ct) ps (spF c np (runFn n b)) := by
  refine ⟨fun vs H Q E h => h.1.trans hp.symm, fun A outer s H args us vs Q E hr hg e0 hb rv h => LamX.run_ofS lk hcd S hr e0 hb rv (h.1.trans hp.symm) fun hr' => ?_⟩
  exact ⟨tS c b (fun cls d _ H => E cls d H), body A outer s H E ⟨hr', hg⟩ _ (takes_of rfl rfl rfl rfl), body_read hn h⟩
/-- an own exception class, wherever it is raised -/
structure ExMK (c : Cn) (mg : Str → Option Value) (x : Str) (k : Nat) : Prop where
  is : ∃ B newId initId bmB, ExcBaseFacts B newId initId bmB ∧ PySem.W.excIn c.K (c.ca k) bmB newId = true ∧ mg x = some (.ref (c.ca k)) ∧ PySem.W.keepIn c.K (.ref (c.ca k)) = true ∧ PySem.W.subIn c.K (.ref (c.ca k)) (.type "BaseException") = some true ∧ PySem.W.typeIn c.K (.ref (c.ca k)) = some (.type "type")
  none : c.ef k = none
structure ExFK (c : Cn) (mg : Str → Option Value) (x : Str) (k : Nat) : Prop where
  is : ∃ nm B newId initId bmB fI f, PySem.VIX.ExcTxt c.K B newId initId bmB nm f (c.ca k) fI ∧ mg x = some (.ref (c.ca k)) ∧ c.ef k = some f
theorem ExMK.at {c : Cn} {X : Cx} {x : Str} {k : Nat} (e : ExMK c X.mg x k) (hK : X.K = c.K := by rfl) : ExM c X x k := by
  obtain ⟨B, n, i, bm, h1, h2, h3, h4, h5, h6⟩ := e.is
  exact ⟨⟨B, n, i, bm, h1, by rw [hK]; exact h2, h3, by rw [hK]; exact h4, raises_own (by rw [hK]; exact h5) (by rw [hK]; exact h6)⟩, e.none⟩
theorem ExFK.at {c : Cn} {X : Cx} {x : Str} {k j : Nat} (e : ExFK c X.mg x k) (hr : Rm j X.A) (hK : X.K = c.K := by rfl) : ExF c X x k := by
  obtain ⟨nm, B, n, i, bm, fI, f, h1, h2, h3⟩ := e.is
  exact ⟨⟨nm, B, n, i, bm, fI, j, f, by rw [hK]; exact h1, h2, hr.room, h3⟩⟩
theorem un_met {k : Nat} {A : Around} {env : Env} (hr : Rm (k + 2) A) : (A.deeper env).units + 64 < cLine := by
  have := (hr.room.deeper env).un
  omega
theorem has_dict {K : PySem.W.Frag} {C : Addr} (h : PySem.W.hasDictIn K C = true) : ∃ cd, PySem.W.clsIn K C = some cd ∧ cd.hasDict = true := by
  unfold PySem.W.hasDictIn at h
  cases e : PySem.W.clsIn K C with
  | none =>
    rw [e] at h
    cases h
  | some cd =>
    rw [e] at h
    exact ⟨cd, rfl, h⟩
theorem taker_none {K : PySem.W.Frag} {C : Addr} {f : Str} (h : PySem.W.findIn K (.ref C) f = some none) : PySem.W.takerIn K C f = some none := by
  unfold PySem.W.takerIn
  rw [h]
  rfl
theorem loose_int {lv : List (Str × PySem.W.WData)} {mg : Str → Option Value} {h : Heap} {x : Str} {i : Int} (X : PySem.W.LooseAre lv mg h) (m : (x, PySem.W.WData.int i) ∈ lv) : ∃ t, mg x = some (.int i t) := by
  obtain ⟨v, e, r⟩ := X.val _ m
  cases r with
  | int i t => exact ⟨t, e⟩
/-- the law's promise, at the law's start -/
theorem law_sp {c : Cn} {f : List Slot → FOut} {H : Hp} {a : Addr} {ns : List Int} {fin : List Slot} (e : f [.fr false (.scr ns)] = some (.ok (false, .bl true) fin)) (s : (∃ o, H a = some (.frz o (.lst (ns.map V.int)))) ∨ SqL c.K (fun _ => none) a (ns.map V.int)) (t : ∀ p ∈ c.T, H p.1 = some (.tbl #[])) :
    spF c 1 f [.ref a] H (fun v _ => v = .bl true) fun _ _ _ => False := by
  refine ⟨rfl, fun _ => False, [.fr false (.scr ns)], ⟨rfl, fun i u ov h1 h2 => ?_, fun b hb z => z, fun i j u v b h1 h2 h3 => ?_, fun b hl hb => ?_, ⟨fun _ z => z.elim, fun p hp => LamX.TabS.nil (t p hp)⟩⟩, fun w hw => ?_, .inl ⟨false, .bl true, fin, e, fun v F' H' _ _ _ r => ?_⟩⟩
  · cases i with
    | zero =>
      cases h1
      cases h2
      exact ⟨_, rfl, a, rfl, s⟩
    | succ i => simp at h1
  · cases i with
    | zero =>
      cases h1
      cases h3
    | succ i => simp at h1
  · obtain ⟨i, w, h1, _⟩ := hl
    cases i with
    | zero => cases h1
    | succ i => simp at h1
  · simp at hw
  · unfold ResR at r
    rw [if_neg (fun z => absurd z.1 Bool.false_ne_true)] at r
    exact r
/-- what a code object at cc tells of its table at P -/
def CodeV (vs : Array Value) (cc P : Addr) : Prop := vs[11]? = some (.ref P) ∧ ∃ file tf flags tg inF text tt, vs.getD 11 .none = .ref P ∧ vs.getD 18 .none = .str file tf ∧ vs.getD 7 .none = .int flags tg ∧ vs.getD 9 .none = .bool inF ∧ vs.getD 10 .none = .int text tt ∧ True ∧ cc ≠ P
theorem code_hd {K : PySem.W.Frag} {h : Heap} {cc P : Addr} {dd : Option Addr} {vs : Array Value} {sl : Array (Option Value)} (X : K.In h) (l : K.lookup cc = some ⟨.type "code", dd, .fields vs, sl⟩) (v : CodeV vs cc P) : PySem.W.CodeHd h cc P := by
  obtain ⟨h1, file, tf, flags, tg, inF, text, tt, h2, h3, h4, h5, h6, _, h7⟩ := v
  exact ⟨_, vs, file, tf, flags, tg, inF, text, tt, X _ _ l, rfl, rfl, h1, h2, h3, h4, h5, h6, h7⟩
end VI

set_option Elab.async false
set_option linter.all false
set_option maxRecDepth 100000
set_option maxHeartbeats 1000000
/-! VI, part 27: split, join, count, isascii. -/
namespace VI
open PySem L2 PySem.Spec PyProof.Rows
variable {c : Cn} {X : Cx} {pos apos : Pos}
/-! ### methods of a text with no argument -/
def eM0 (f : List W → Option W) (m : M W) : M W := mbd m fun x => match x with
  | .str a => lift (f [.str a])
  | _ => stuck
def rM0 (r : V → List V → Hp → VK → Prop) : LR := fun vs H Q => match vs with
  | [x] => r x [] H Q
  | _ => False
theorem m0_read {o : Expr} {m : M W} {f : List W → Option W} {r : V → List V → Hp → VK → Prop} (ru : RuE c (rM0 r) f) {Wx : WX} {σ : L2.St} {H : Hp} {Q : VK} (h : tM c (eM0 f m) (rF c) Wx σ H Q) : tM0 r (tM c m (rF c) Wx) σ H Q := by
  obtain ⟨F, ss, s, h⟩ := h
  refine ⟨F, ss, s, (From.bind (U := rF c) early_F h).mono fun v H1 ⟨w, F1, ss1, _, s1, u1, f1, l1, h1⟩ => ?_⟩
  cases w with
  | str a =>
    have ev : v = .str (mkS a) := u1
    obtain ⟨w', ew, k⟩ := From.lift h1
    refine ⟨⟨_, ev⟩, ru F1 H1 [v] [.str a] w' Q s1.liv ⟨v, [], rfl, .inl ev, rfl⟩ ew (fun v' H3 e3 r3 => k v' F1 H3 e3.fm (s1.ext e3) r3) fun b H3 n3 e3 o3 => ?_⟩
    obtain ⟨u, hu, mu, _⟩ := o3.mut
    exact k _ (plus F1 b) H3 (e3.fm.plusA (.inr (.of n3))) ((s1.ext e3).plusA hu mu fun z => s1.fresh (.of n3) (.inl z)) o3.rep
  | _ => rcases h1 with ⟨a, s', z, _⟩ | ⟨j, w, s', z, _⟩ <;> cases z
theorem strs_rep {F : Addr → Prop} {H : Hp} : ∀ ys : List (List Nat), RepFs c F H (ys.map W.str) ((ys.map mkS).map V.str)
  | [] => rfl
  | y :: ys => ⟨_, _, rfl, rfl, strs_rep ys⟩
/-! ### split -/
def bSplit : List W → Option W
  | [.str a, .str (d :: b)] => if decide (a.length ≤ 99998) && (d :: b).all (· < 256) then some (.lst ((TL.spl (d :: b) 0 [] a).map .str)) else none
  | _ => none
theorem ru_split : RuE c (rM1 fun x xs H Q => ∃ a b, x = .str a ∧ xs = [.str b] ∧ (b.length == 0) = false ∧ a.length + 2 ≤ sizeLine ∧ rNewStrs (Txt.split a b) H Q) bSplit := by
  intro F H vs ws w Q _ u e _ k
  unfold bSplit at e
  split at e
  · rename_i a d b
    obtain ⟨x, y, rfl, h1, h2⟩ := rl2 u
    split at e
    · rename_i hl
      rw [Bool.and_eq_true, decide_eq_true_iff] at hl
      cases e
      rw [rL_str h1, rL_str h2]
      refine ⟨mkS a, mkS (d :: b), rfl, rfl, mkS_ne, by rw [mkS_len]; exact sizeLine_big (by omega), fun p hp => ?_⟩
      rw [show Txt.split (mkS a) (mkS (d :: b)) = (TL.spl (d :: b) 0 [] a).map mkS from SX.split_S (List.cons_ne_nil _ _) hl.2]
      exact k p _ hp (.new hp) ⟨_, upd_same, strs_rep _⟩
    · cases e
  · cases e
theorem sim_split {o e : Expr} {m n : M W} {apos : Pos} (ho : SimE c X o m) (he : SimE c X e n) (hs : starEach [e] X.env = [(false, eval e X.env)] := by rfl) (hbase : attributeBase o "split" X.env (eval o X.env) = eval o X.env := by rfl) (hline : (apos.endLine == pos.line) = true := by rfl) :
    SimE c X (.Call (.Attribute o "split" apos) [e] [] pos) (eM1 bSplit m n) := fun Wx tk => PE.imp (pe_split (ho Wx tk) (he Wx tk) hs hbase hline) fun σ H Q h => m1_read (o := o) (e := e) ru_split h
/-! ### join -/
def strsOf : List W → Option (List (List Nat))
  | [] => some []
  | .str s :: r => (strsOf r).map (s :: ·)
  | _ :: _ => none
theorem strs_of {F : Addr → Prop} {H : Hp} : ∀ {ws : List W} {vs : List V} {ys : List (List Nat)}, RepFs c F H ws vs → strsOf ws = some ys → vs = (ys.map mkS).map V.str
  | [], _, ys, h, e => by cases e; exact h
  | .str s :: r, vs, ys, h, e => by
    obtain ⟨v, us, rfl, h1, h2⟩ := h
    unfold strsOf at e
    cases er : strsOf r with
    | none => rw [er] at e; cases e
    | some zs =>
      rw [er] at e
      cases e
      have z := strs_of h2 er
      subst z
      have ev : v = .str (mkS s) := h1
      rw [ev]
      rfl
  | .non :: _, _, _, _, e => by cases e
  | .bl _ :: _, _, _, _, e => by cases e
  | .int _ :: _, _, _, _, e => by cases e
  | .tup _ :: _, _, _, _, e => by cases e
  | .lst _ :: _, _, _, _, e => by cases e
  | .dct _ _ :: _, _, _, _, e => by cases e
  | .scr _ :: _, _, _, _, e => by cases e
  | .fn _ :: _, _, _, _, e => by cases e
  | .cls _ :: _, _, _, _, e => by cases e
def bJoin : List W → Option W
  | [.str a, .lst ws] => (strsOf ws).bind fun ys => if (ys.map (·.length)).sum + ys.length * a.length ≤ 16777216 then some (.str (TL.joinL a ys)) else none
  | [.str a, .tup ws] => (strsOf ws).bind fun ys => if (ys.map (·.length)).sum + ys.length * a.length ≤ 16777216 then some (.str (TL.joinL a ys)) else none
  | _ => none
theorem ru_join : RuE c (rM1 fun x xs H Q => ∃ a p, ∃ ys : List Str, x = .str a ∧ xs = [.ref p] ∧ (SqL c.K H p (ys.map V.str) ∨ SqT c.K H p (ys.map V.str)) ∧
      (ys.map (·.length)).sum + ys.length * a.length ≤ 16777216 ∧ Q (.str (Txt.join a ys)) H) bJoin := by
  intro F H vs ws w Q _ u e k _
  have fin : ∀ {a : List Nat} {ys : List (List Nat)}, (if (ys.map (·.length)).sum + ys.length * a.length ≤ 16777216 then some (W.str (TL.joinL a ys)) else none) = some w →
      ((ys.map mkS).map (·.length)).sum + (ys.map mkS).length * (mkS a).length ≤ 16777216 ∧ Q (.str (Txt.join (mkS a) (ys.map mkS))) H := fun {a ys} e => by
    split at e
    · rename_i hl
      cases e
      refine ⟨by rw [show (ys.map mkS).map (·.length) = ys.map (·.length) from SX.lens ys, List.length_map, mkS_len]; exact hl, k _ _ (.refl _) ?_⟩
      exact congrArg V.str (SX.join_S a ys)
    · cases e
  unfold bJoin at e
  split at e
  · rename_i a ws
    obtain ⟨x, y, rfl, h1, h2⟩ := rl2 u
    cases es : strsOf ws with
    | none => rw [es] at e; cases e
    | some ys =>
      rw [es] at e
      obtain ⟨p, us, rfl, e1, e2⟩ := rL_lst h2
      obtain ⟨f1, f2⟩ := fin e
      refine ⟨mkS a, p, ys.map mkS, rL_str h1, rfl, .inl (.inl (.of ?_)), f1, f2⟩
      rw [← strs_of e2 es]
      exact e1
  · rename_i a ws
    obtain ⟨x, y, rfl, h1, h2⟩ := rl2 u
    cases es : strsOf ws with
    | none => rw [es] at e; cases e
    | some ys =>
      rw [es] at e
      obtain ⟨p, us, rfl, e1, e2⟩ := rL_tup h2
      obtain ⟨f1, f2⟩ := fin e
      refine ⟨mkS a, p, ys.map mkS, rL_str h1, rfl, .inr ?_, f1, f2⟩
      rw [← strs_of e2 es]
      exact e1
  · cases e
theorem sim_join {o e : Expr} {m n : M W} {apos : Pos} (hK : X.K = c.K) (ho : SimE c X o m) (he : SimE c X e n) (hs : starEach [e] X.env = [(false, eval e X.env)] := by rfl) (hbase : attributeBase o "join" X.env (eval o X.env) = eval o X.env := by rfl) (hline : (apos.endLine == pos.line) = true := by rfl) :
    SimE c X (.Call (.Attribute o "join" apos) [e] [] pos) (eM1 bJoin m n) := fun Wx tk => PE.imp (pe_join (ho Wx tk) (he Wx tk) hs hbase hline) fun σ H Q h => by rw [hK]; exact m1_read (o := o) (e := e) ru_join h
/-! ### isascii, count -/
def bAscii : List W → Option W
  | [.str a] => some (.bl (a.all (· < 128)))
  | _ => none
theorem ru_ascii : RuE c (rM0 fun x xs H Q => ∃ a, x = .str a ∧ xs = [] ∧ True ∧ Q (.bl (Txt.isascii a)) H) bAscii := by
  intro F H vs ws w Q _ u e k _
  unfold bAscii at e
  split at e
  · rename_i a
    obtain ⟨x, rfl, h1⟩ := rl1 u
    cases e
    refine ⟨mkS a, rL_str h1, rfl, trivial, k _ _ (.refl _) ?_⟩
    show V.bl _ = V.bl _
    congr 1
    unfold Txt.isascii
    rw [← Array.all_toList]
    rfl
  · cases e
theorem sim_ascii {o : Expr} {m : M W} {apos : Pos} (ho : SimE c X o m) (hbase : attributeBase o "isascii" X.env (eval o X.env) = eval o X.env := by rfl) (hline : (apos.endLine == pos.line) = true := by rfl) :
    SimE c X (.Call (.Attribute o "isascii" apos) [] [] pos) (eM0 bAscii m) := fun Wx tk => PE.imp (pe_m0 F.slot_str_isascii F.type_str_isascii mt_isascii (ho Wx tk) hbase hline) fun σ H Q h => m0_read (o := o) ru_ascii h
def bCount : List W → Option W
  | [.str a, .str b] => some (.int (Txt.count (mkS a) (mkS b)))
  | _ => none
theorem ru_count : RuE c (rM1 fun x xs H Q => ∃ a b, x = .str a ∧ xs = [.str b] ∧ Q (.int (Txt.count a b)) H) bCount := by
  intro F H vs ws w Q _ u e k _
  unfold bCount at e
  split at e
  · rename_i a b
    obtain ⟨x, y, rfl, h1, h2⟩ := rl2 u
    cases e
    rw [rL_str h1, rL_str h2]
    exact ⟨mkS a, mkS b, rfl, rfl, k _ _ (.refl _) rfl⟩
  · cases e
theorem sim_count {o e : Expr} {m n : M W} {apos : Pos} (ho : SimE c X o m) (he : SimE c X e n) (hs : starEach [e] X.env = [(false, eval e X.env)] := by rfl) (hbase : attributeBase o "count" X.env (eval o X.env) = eval o X.env := by rfl) (hline : (apos.endLine == pos.line) = true := by rfl) :
    SimE c X (.Call (.Attribute o "count" apos) [e] [] pos) (eM1 bCount m n) := fun Wx tk => PE.imp (pe_m1 F.slot_str_count F.type_str_count mt_count (ho Wx tk) (he Wx tk) hs hbase hline) fun σ H Q h => m1_read (o := o) (e := e) ru_count h
/-! ### a, b = x, y -/
def put2 (i j : Nat) : List W → M Flow
  | [v, w] => fun ss => match ss[i]?, ss[j]? with
    | some t, some u => if free t && free u then some (.ok .nx ((ss.set i (.fr false v)).set j (.fr false w))) else none
    | _, _ => none
  | _ => stuck
def sPair (i j : Nat) (m n : M W) : M Flow := mbd (exps [m, n]) (put2 i j)
theorem put2_eq {i j : Nat} {v w : W} {ss : Slots} : put2 i j [v, w] ss = (match ss[i]?, ss[j]? with
    | some t, some u => if free t && free u then some (.ok .nx ((ss.set i (.fr false v)).set j (.fr false w))) else none
    | _, _ => none) := rfl
theorem FromS.none_ {m : M Flow} {Wx : WX} {σ : L2.St} {F : Addr → Prop} {H : Hp} {ss : Slots} {D : Ends} (h : FromS c m Wx σ F H ss D) (z : m ss = none) : False := by
  rcases h with ⟨a, s, e', _⟩ | ⟨j, w, s, e', _⟩ <;> rw [z] at e' <;> cases e'
theorem sim_pair {i j : Nat} {x y : Str} {a b : Expr} {m n : M W} {px py pt : Pos} {kt k2 pt2} (hc : X.calm = true) (hN : X.N.Nodup) (hi : X.N[i]? = some x) (hj : X.N[j]? = some y) (hij : i ≠ j) (h : SimL c X [a, b] (exps [m, n]))
    (hx : X.env.scope.names.lookup x = some .local := by rfl) (hy : X.env.scope.names.lookup y = some .local := by rfl)
    (hw : swappedStores [.Tuple [.Name x px, .Name y py] kt pt] (.Tuple [a, b] k2 pt2) X.env = pure (some [x, y]) := by rfl)
    (hs : swapsWithSole [.Tuple [.Name x px, .Name y py] kt pt] (.Tuple [a, b] k2 pt2) pos.line X.env = pure false := by rfl) :
    SimS c X (.Assign [.Tuple [.Name x px, .Name y py] kt pt] (.Tuple [a, b] k2 pt2) pos) (sPair i j m n) := fun Wx tk =>
  PS.imp (ps_par hc hN hi hj hij hx hy (h Wx tk) hw hs) fun D σ H q => by
    obtain ⟨F, ss, s, q⟩ := q
    refine ⟨F, ss, s, (FromS.bind (U := rFs c) q).mono fun vs H1 ⟨ws, F1, ss1, em, s1, u1, f1, l1, h3, hr⟩ => ?_⟩
    have u1 : RepFs c F1 H1 ws vs := u1
    match ws, u1, h3, hr with
    | [v, w], ⟨v', r1, e1, rv, ⟨w', r2, e2, rw', e3⟩⟩, h3, hr =>
      cases e3
      subst e2
      subst e1
      refine ⟨v', w', rfl, ?_⟩
      cases et : ss1[i]? with
      | none => exact (h3.none_ (by rw [put2_eq, et])).elim
      | some t =>
        cases eu : ss1[j]? with
        | none => exact (h3.none_ (by rw [put2_eq, et, eu])).elim
        | some u =>
          cases ef : free t && free u with
          | false => exact (h3.none_ (by rw [put2_eq, et, eu]; dsimp only; rw [ef]; rfl)).elim
          | true =>
            have ez : put2 i j [v, w] ss1 = some (.ok .nx ((ss1.set i (.fr false v)).set j (.fr false w))) := by rw [put2_eq, et, eu]; dsimp only; rw [ef]; rfl
            rw [Bool.and_eq_true] at ef
            have h4 : FromS c (fun _ => some (.ok .nx ((ss1.set i (.fr false v)).set j (.fr false w)))) Wx σ F1 H1 ss1 _ := h3.eq ez
            obtain ⟨s2, sub⟩ := s1.put (i := i) rv
            obtain ⟨s3, sub3⟩ := s2.put (i := j) rw'
            refine h4.retE (Fm.sub fun a z => sub a (sub3 a z)) s3 ((Ln.put et ef.1).trans (.put (by rw [List.getElem?_set_ne hij]; exact eu) ef.2))
    | [], _, h3, _ => exact (h3.none_ rfl).elim
    | [_], _, h3, _ => exact (h3.none_ rfl).elim
    | _ :: _ :: _ :: _, _, h3, _ => exact (h3.none_ rfl).elim
/-! ### displays with *x -/
def lCons (m : M W) (l : M (List W)) : M (List W) := mbd m fun w => mbd l fun ws => mret (w :: ws)
def seqOf : W → Option (List W)
  | .lst xs => some xs
  | .tup xs => some xs
  | _ => none
def lStar (m : M W) (l : M (List W)) : M (List W) := mbd m fun w => mbd (lift (seqOf w)) fun xs => mbd l fun ys => mret (xs ++ ys)
def eTupG (l : M (List W)) : M W := mbd l fun ws => if ws.length ≤ 100000 then mret (.tup ws) else stuck
def eLstG (l : M (List W)) : M W := mbd l fun ws => if ws.length ≤ 100000 then mret (.lst ws) else stuck
theorem simL_consG {e : Expr} {es : List Expr} {m : M W} {l : M (List W)} (h : SimE c X e m) (t : SimL c X es l) (hs : starEach (e :: es) X.env = (false, eval e X.env) :: starEach es X.env := by rfl) : SimL c X (e :: es) (lCons m l) := fun Wx tk =>
  PA.imp (pa_cons (h Wx tk) (t Wx tk) hs) fun σ H Q q => by
    obtain ⟨F, ss, s, q⟩ := q
    have q : From c (mbd m fun w => mbd l fun ws => mret (w :: ws)) (rFs c) Wx σ F H ss Q := q
    refine ⟨F, ss, s, (From.bind (U := rF c) early_Fs q).mono fun v H1 ⟨w, F1, ss1, _, s1, u1, f1, l1, h3⟩ => ?_⟩
    refine ⟨F1, ss1, s1, (From.bind (U := rFs c) early_Fs h3).mono fun vs H2 ⟨ws, F2, ss2, _, s2, u2, f2, l2, h4⟩ => ?_⟩
    exact h4.ret s2 ⟨v, vs, rfl, RepF.kp (s1.kp f2) _ _ u1, u2⟩
theorem simL_star {e : Expr} {es : List Expr} {m : M W} {l : M (List W)} {p : Pos} (hK : X.K = c.K) (h : SimE c X e m) (t : SimL c X es l) (hs : starEach (.Starred e p :: es) X.env = (true, eval e X.env) :: starEach es X.env := by rfl) : SimL c X (.Starred e p :: es) (lStar m l) := fun Wx tk =>
  PA.imp (StX.pa_star (h Wx tk) (t Wx tk) hs) fun σ H Q q => by
    rw [hK]
    obtain ⟨F, ss, s, q⟩ := q
    have q : From c (mbd m fun w => mbd (lift (seqOf w)) fun xs => mbd l fun ys => mret (xs ++ ys)) (rFs c) Wx σ F H ss Q := q
    refine ⟨F, ss, s, (From.bind (U := rF c) early_Fs q).mono fun v H1 ⟨w, F1, ss1, _, s1, u1, f1, l1, h3⟩ => ?_⟩
    have go : ∀ {xs : List W}, seqOf w = some xs → ∀ {a : Addr} {us : List V}, v = .ref a → (SqT c.K H1 a us ∨ SqL c.K H1 a us) → RepFs c F1 H1 xs us → ∃ p xs, v = V.ref p ∧ (SqT c.K H1 p xs ∨ SqL c.K H1 p xs) ∧ (tM c l (rFs c) Wx) σ H1 fun ys H2 => Q (xs ++ ys) H2 := fun {xs} es {a us} ev sq r => by
      have z : (mbd (lift (seqOf w)) fun xs => mbd l fun ys => mret (xs ++ ys)) ss1 = (mbd l fun ys => mret (xs ++ ys)) ss1 := by
        unfold mbd lift
        rw [es]
        rfl
      have h3' : From c (mbd l fun ys => mret (xs ++ ys)) (rFs c) Wx σ F1 H1 ss1 Q := by
        unfold From at h3 ⊢
        rw [z] at h3
        exact h3
      refine ⟨a, us, ev, sq, F1, ss1, s1, (From.bind (U := rFs c) early_Fs h3').mono fun vs H2 ⟨ws, F2, ss2, _, s2, u2, f2, l2, h4⟩ => ?_⟩
      exact h4.ret s2 ((RepFs.kp (s1.kp f2) _ _ r).app u2)
    cases w with
    | lst xs =>
      obtain ⟨a, us, ev, _, h1, h2⟩ := u1
      exact go rfl ev (.inr (.inl (.of h1))) h2
    | tup xs =>
      obtain ⟨a, us, ev, h1, h2⟩ := u1
      exact go rfl ev (.inl h1) h2
    | _ => rcases h3 with ⟨a, s', z, _⟩ | ⟨j, w, s', z, _⟩ <;> cases z
theorem lim_some {g : List W → W} {ws : List W} {Wx : WX} {σ : L2.St} {F : Addr → Prop} {H : Hp} {ss : Slots} {U : Rl W V} {Q : VK} (h : From c (if ws.length ≤ 100000 then mret (g ws) else stuck) U Wx σ F H ss Q) : ws.length ≤ 100000 ∧ From c (mret (g ws)) U Wx σ F H ss Q := by
  by_cases z : ws.length ≤ 100000
  · rw [if_pos z] at h
    exact ⟨z, h⟩
  · rw [if_neg z] at h
    rcases h with ⟨a, s', z, _⟩ | ⟨j, w, s', z, _⟩ <;> cases z
theorem sim_tupG {es : List Expr} {l : M (List W)} {k : Nat} (h : SimL c X es l) : SimE c X (.Tuple es k pos) (eTupG l) := fun Wx tk =>
  PE.imp (pe_tup (h Wx tk)) fun σ H Q q => by
    obtain ⟨F, ss, s, q⟩ := q
    refine ⟨F, ss, s, (From.bind (U := rFs c) early_F q).mono fun vs H1 ⟨ws, F1, ss1, em, s1, u1, f1, l1, h3⟩ => ?_⟩
    obtain ⟨e, h3⟩ := lim_some h3
    have e2 : ws.length = vs.length := RepFs.length u1
    refine ⟨sizeLine_big (by omega), fun p hp => ?_⟩
    exact h3.retE (Ext.new hp).fm (s1.ext (.new hp)) ⟨p, vs, rfl, .of upd_same, RepFs.kp (Ext.kp (.new hp)) _ _ u1⟩
theorem sim_lstG {es : List Expr} {l : M (List W)} (h : SimL c X es l) : SimO c X (.List es pos) (eLstG l) := fun Wx tk =>
  PE.imp (pe_lst (h Wx tk)) fun σ H Q q => by
    obtain ⟨F, ss, s, q⟩ := q
    refine ⟨F, ss, s, (From.bind (U := rFs c) early_O q).mono fun vs H1 ⟨ws, F1, ss1, em, s1, u1, f1, l1, h3⟩ => ?_⟩
    obtain ⟨e, h3⟩ := lim_some h3
    have e2 : ws.length = vs.length := RepFs.length u1
    refine ⟨sizeLine_big (by omega), fun p hp => ?_⟩
    refine h3.retE (Ext.new hp).fm (s1.ext (.new hp)) ⟨p, rfl, .of hp, fun z => ?_, fun z => ?_, vs, upd_same, RepFs.kp (Ext.kp (.new hp)) _ _ u1⟩
    · obtain ⟨o, e⟩ := s1.liv p z
      rw [hp] at e
      cases e
    · exact s1.fresh (.of hp) z
end VI

set_option Elab.async false
set_option linter.all false
set_option maxRecDepth 100000
set_option maxHeartbeats 1000000
/-! VI, part 28: order of tuples, split with a limit, dict comprehensions. -/
namespace VI
open PySem L2 PySem.Spec PyProof.Rows
variable {c : Cn} {X : Cx} {pos apos : Pos}
theorem rl3 {F : Addr → Prop} {H : Hp} {a b d : W} {vs : List V} (h : RepLs c F H [a, b, d] vs) : ∃ x y z, vs = [x, y, z] ∧ RepL c F H a x ∧ RepL c F H b y ∧ RepL c F H d z := by
  obtain ⟨v, r, e, h1, h2⟩ := h
  obtain ⟨y, z, e2, h3, h4⟩ := rl2 h2
  rw [e2] at e
  exact ⟨v, y, z, e, h1, h3, h4⟩
/-! ### order of data -/
def ordOk (a b : W) : Bool := flat 40 a && flat 40 b && PySem.W.alike (pd a) (pd b) && !isNon a && decide ((pd a).depth ≤ 60)
def isSeq2 : W → W → Bool
  | .tup _, .tup _ => true
  | .lst _, .lst _ => true
  | _, _ => false
def rLtD (g : PyData → PyData → Bool) (K : PySem.W.Frag) : R2 := fun x y H Q => ∃ d e, Dp K H x d ∧ Dp K H y e ∧ PySem.W.alike d e = true ∧ d ≠ .none ∧ d.depth ≤ 60 ∧ Q (.bl (g d e)) H
theorem op_ltD (hu : X.A.units + 64 < cLine) : OpR X (compareOp .Lt) (rLtD PySem.W.dataLt X.K) := by
  intro pins s σ H x y v u Q I rx ry ⟨d, e, hd, he, al, hn, hp, q⟩
  obtain ⟨as, r1⟩ := Dp.reads I d x v hd rx
  obtain ⟨bs, r2⟩ := Dp.reads I e y u he ry
  exact PySem.W.lt_data r1 r2 al hn (by omega) ⟨.bl _, H, I, rfl, q⟩
theorem op_gtD (hu : X.A.units + 64 < cLine) : OpR X (compareOp .Gt) (rLtD (fun d e => PySem.W.dataLt e d) X.K) := by
  intro pins s σ H x y v u Q I rx ry ⟨d, e, hd, he, al, hn, hp, q⟩
  obtain ⟨as, r1⟩ := Dp.reads I d x v hd rx
  obtain ⟨bs, r2⟩ := Dp.reads I e y u he ry
  exact PySem.W.gt_data r1 r2 al hn (by omega) ⟨.bl _, H, I, rfl, q⟩
theorem op_leD (hu : X.A.units + 64 < cLine) : OpR X (compareOp .LtE) (rLtD (fun d e => !PySem.W.dataLt e d) X.K) := by
  intro pins s σ H x y v u Q I rx ry ⟨d, e, hd, he, al, hn, hp, q⟩
  obtain ⟨as, r1⟩ := Dp.reads I d x v hd rx
  obtain ⟨bs, r2⟩ := Dp.reads I e y u he ry
  exact PySem.W.le_data r1 r2 al hn (by omega) ⟨.bl _, H, I, rfl, q⟩
theorem op_geD (hu : X.A.units + 64 < cLine) : OpR X (compareOp .GtE) (rLtD (fun d e => !PySem.W.dataLt d e) X.K) := by
  intro pins s σ H x y v u Q I rx ry ⟨d, e, hd, he, al, hn, hp, q⟩
  obtain ⟨as, r1⟩ := Dp.reads I d x v hd rx
  obtain ⟨bs, r2⟩ := Dp.reads I e y u he ry
  exact PySem.W.ge_data r1 r2 al hn (by omega) ⟨.bl _, H, I, rfl, q⟩
def bOrdD (f : List W → Option W) (g : PyData → PyData → Bool) : List W → Option W
  | [a, b] => if isSeq2 a b then (if ordOk a b then some (.bl (g (pd a) (pd b))) else none) else f [a, b]
  | _ => none
theorem pd_none {w : W} (h : isNon w = false) (hf : flat 40 w = true) : pd w ≠ .none := by
  cases w <;> first | (cases h; done) | (intro z; cases z; done) | (cases hf; done)
theorem ru_ordD {f : List W → Option W} {g : PyData → PyData → Bool} {r : R2} (h : RuF c (r2 r) f) : RuF c (r2 fun x y H Q => r x y H Q ∨ rLtD g c.K x y H Q) (bOrdD f g) := by
  intro F H vs ws w Q lv u e k
  unfold bOrdD at e
  split at e
  · rename_i a b
    split at e
    · obtain ⟨x, y, rfl, h1, h2⟩ := rl2 u
      split at e
      · rename_i hf
        unfold ordOk at hf
        simp only [Bool.and_eq_true, Bool.not_eq_true', decide_eq_true_eq] at hf
        cases e
        exact .inr ⟨_, _, pd_repL hf.1.1.1.1 h1, pd_repL hf.1.1.1.2 h2, hf.1.1.2, pd_none hf.1.2 hf.1.1.1.1, hf.2, k _ _ (.refl _) rfl⟩
      · cases e
    · obtain ⟨x, y, rfl, h1, h2⟩ := rl2 u
      exact .inl (h F H _ _ w Q lv u e k)
  · cases e
def bLtD := bOrdD bLt PySem.W.dataLt
def bGtD := bOrdD bGt fun d e => PySem.W.dataLt e d
def bLeD := bOrdD bLe fun d e => !PySem.W.dataLt e d
def bGeD := bOrdD bGe fun d e => !PySem.W.dataLt d e
theorem op_lt3 (hK : X.K = c.K) (hu : X.A.units + 64 < cLine) : OpR X (compareOp .Lt) (fun x y H Q => rOrd (fun i j => decide (i < j)) (fun a b => decide (a < b)) x y H Q ∨ rLtD PySem.W.dataLt c.K x y H Q) := by
  rw [← hK]
  exact op_lt2.or (op_ltD hu)
theorem op_gt3 (hK : X.K = c.K) (hu : X.A.units + 64 < cLine) : OpR X (compareOp .Gt) (fun x y H Q => rOrd (fun i j => decide (j < i)) (fun a b => decide (b < a)) x y H Q ∨ rLtD (fun d e => PySem.W.dataLt e d) c.K x y H Q) := by
  rw [← hK]
  exact op_gt2.or (op_gtD hu)
theorem op_le3 (hK : X.K = c.K) (hu : X.A.units + 64 < cLine) : OpR X (compareOp .LtE) (fun x y H Q => rOrd (fun i j => decide (i ≤ j)) (fun a b => !decide (b < a)) x y H Q ∨ rLtD (fun d e => !PySem.W.dataLt e d) c.K x y H Q) := by
  rw [← hK]
  exact op_le2.or (op_leD hu)
theorem op_ge3 (hK : X.K = c.K) (hu : X.A.units + 64 < cLine) : OpR X (compareOp .GtE) (fun x y H Q => rOrd (fun i j => decide (j ≤ i)) (fun a b => !decide (a < b)) x y H Q ∨ rLtD (fun d e => !PySem.W.dataLt d e) c.K x y H Q) := by
  rw [← hK]
  exact op_ge2.or (op_geD hu)
theorem ru_ltD : RuF c (r2 fun x y H Q => rOrd (fun i j => decide (i < j)) (fun a b => decide (a < b)) x y H Q ∨ rLtD PySem.W.dataLt c.K x y H Q) bLtD := ru_ordD ru_lt
theorem ru_gtD : RuF c (r2 fun x y H Q => rOrd (fun i j => decide (j < i)) (fun a b => decide (b < a)) x y H Q ∨ rLtD (fun d e => PySem.W.dataLt e d) c.K x y H Q) bGtD := ru_ordD ru_gt
theorem ru_leD : RuF c (r2 fun x y H Q => rOrd (fun i j => decide (i ≤ j)) (fun a b => !decide (b < a)) x y H Q ∨ rLtD (fun d e => !PySem.W.dataLt e d) c.K x y H Q) bLeD := ru_ordD ru_le
theorem ru_geD : RuF c (r2 fun x y H Q => rOrd (fun i j => decide (j ≤ i)) (fun a b => !decide (a < b)) x y H Q ∨ rLtD (fun d e => !PySem.W.dataLt d e) c.K x y H Q) bGeD := ru_ordD ru_ge
/-! ### split with a limit -/
def bSplitM : List W → Option W
  | [.str a, .str (d :: b), .int k] => if decide (a.length ≤ 99998) && decide (-(2 ^ 63) ≤ k) && decide (k < 2 ^ 63) then some (.lst ((Txt.splitMax (mkS a) (mkS (d :: b)) k).map fun s => .str s.cps.toList)) else none
  | _ => none
def rM2 (r : V → List V → Hp → VK → Prop) : LR := fun vs H Q => match vs with
  | [x, y, z] => r x [y, z] H Q
  | _ => False
def eM2 (f : List W → Option W) (m n k : M W) : M W := mbd m fun x => match x with
  | .str a => mbd n fun y => mbd k fun z => lift (f [.str a, y, z])
  | _ => stuck
theorem m2_read {m n l : M W} {f : List W → Option W} {r : V → List V → Hp → VK → Prop} (ru : RuE c (rM2 r) f) {Wx : WX} {σ : L2.St} {H : Hp} {Q : VK} (h : tM c (eM2 f m n l) (rF c) Wx σ H Q) :
    (tBM c.K "str" r (tM c m (rF c) Wx) (tM c (exps [n, l]) (rFs c) Wx)) σ H Q := by
  obtain ⟨F, ss, s, h⟩ := h
  refine ⟨F, ss, s, (From.bind (U := rF c) early_F h).mono fun v H1 ⟨w, F1, ss1, _, s1, u1, f1, l1, h1⟩ => ?_⟩
  cases w with
  | str a =>
    have ev : v = .str (mkS a) := u1
    have h1 : From c (mbd n fun y => mbd l fun z => lift (f [.str a, y, z])) (rF c) Wx σ F1 H1 ss1 Q := h1
    refine ⟨by rw [ev]; exact rfl, F1, ss1, s1, ?_⟩
    have h1' : From c (mbd (exps [n, l]) fun ws => match ws with | [y, z] => lift (f [.str a, y, z]) | _ => stuck) (rF c) Wx σ F1 H1 ss1 Q := by
      have z : (mbd (exps [n, l]) fun ws => match ws with | [y, z] => lift (f [.str a, y, z]) | _ => (stuck : M W)) ss1 = (mbd n fun y => mbd l fun z => lift (f [.str a, y, z])) ss1 := by
        show mbd (mbd n fun w => mbd (mbd l fun w' => mbd (mret []) fun ws => mret (w' :: ws)) fun ws => mret (w :: ws)) _ ss1 = _
        unfold mbd mret
        cases n ss1 with
        | none => rfl
        | some r =>
          cases r with
          | exc => rfl
          | ok y s2 =>
            dsimp only
            cases l s2 with
            | none => rfl
            | some r => cases r <;> rfl
      unfold From at h1 ⊢
      rw [z]
      exact h1
    refine (From.bind (U := rFs c) early_F h1').mono fun ys H2 ⟨w2, F2, ss2, _, s2, u2, f2, l2, h2⟩ => ?_
    have u2 : RepFs c F2 H2 w2 ys := u2
    match w2, u2, h2 with
    | [y, z], u2, h2 =>
      obtain ⟨y', r1, rfl, ry, u3⟩ := u2
      obtain ⟨z', r2, rfl, rz, e3⟩ := u3
      have e3 : r2 = [] := e3
      subst e3
      obtain ⟨w', ew, k⟩ := From.lift h2
      refine ru F2 H2 [v, y', z'] [.str a, y, z] w' Q s2.liv ⟨v, [y', z'], rfl, .inl ev, y', [z'], rfl, .inl ry, z', [], rfl, .inl rz, rfl⟩ ew (fun v' H3 e3 r3 => k v' F2 H3 e3.fm (s2.ext e3) r3) fun b H3 n3 e3 o3 => ?_
      obtain ⟨u, hu, mu, _⟩ := o3.mut
      exact k _ (plus F2 b) H3 (e3.fm.plusA (.inr (.of n3))) ((s2.ext e3).plusA hu mu fun z => s2.fresh (.of n3) (.inl z)) o3.rep
    | [], _, h2 => rcases h2 with ⟨a, s', z, _⟩ | ⟨j, w, s', z, _⟩ <;> cases z
    | [_], _, h2 => rcases h2 with ⟨a, s', z, _⟩ | ⟨j, w, s', z, _⟩ <;> cases z
    | _ :: _ :: _ :: _, _, h2 => rcases h2 with ⟨a, s', z, _⟩ | ⟨j, w, s', z, _⟩ <;> cases z
  | _ => rcases h1 with ⟨a, s', z, _⟩ | ⟨j, w, s', z, _⟩ <;> cases z
theorem strs_repS {F : Addr → Prop} {H : Hp} : ∀ ys : List Str, RepFs c F H (ys.map fun s => W.str s.cps.toList) (ys.map V.str)
  | [] => rfl
  | y :: ys => ⟨_, _, rfl, (by show V.str y = V.str ⟨y.cps.toList.toArray⟩; rw [Array.toArray_toList]), strs_repS ys⟩
theorem ru_splitM : RuE c (rM2 fun x xs H Q => ∃ (a b : Str) (k : Int), x = .str a ∧ xs = [.str b, .int k] ∧ (b.length == 0) = false ∧ -(2 ^ 63) ≤ k ∧ k < 2 ^ 63 ∧ a.length + 2 ≤ sizeLine ∧ rNewStrs (Txt.splitMax a b k) H Q) bSplitM := by
  intro F H vs ws w Q _ u e _ kk
  unfold bSplitM at e
  split at e
  · rename_i a d b k
    obtain ⟨x, y, z, rfl, h1, h2, h3⟩ := rl3 u
    split at e
    · rename_i hl
      simp only [Bool.and_eq_true, decide_eq_true_iff] at hl
      cases e
      rw [rL_str h1, rL_str h2, rL_int h3]
      refine ⟨mkS a, mkS (d :: b), k, rfl, rfl, mkS_ne, hl.1.2, hl.2, by rw [mkS_len]; exact sizeLine_big (by omega), fun p hp => ?_⟩
      exact kk p _ hp (.new hp) ⟨_, upd_same, strs_repS _⟩
    · cases e
  · cases e
theorem sim_splitM {o e e2 : Expr} {m n l : M W} {apos : Pos} (hK : X.K = c.K) (ho : SimE c X o m) (hL : SimL c X [e, e2] (exps [n, l]))
    (hbase : attributeBase o "split" X.env (eval o X.env) = eval o X.env := by rfl)
    (hfew : ((backTo pos (starEach [e, e2] X.env)).all (fun x => !x.1) && (backToKw pos (keywordEach [] X.env)).all (fun x => x.1.isSome)
      && decide ([e, e2].length + ([] : List Keyword).length + (if ([] : List Keyword).isEmpty then 0 else 1) < 30)) = true := by rfl)
    (hline : (apos.endLine == pos.line) = true := by rfl) (hs : starEach [e, e2] X.env = (false, eval e X.env) :: starEach [e2] X.env := by rfl) (hplain : (backTo pos (starEach [e2] X.env)).any (·.1) = false := by rfl) :
    SimE c X (.Call (.Attribute o "split" apos) [e, e2] [] pos) (eM2 bSplitM m n l) := fun Wx tk =>
  PE.imp (pe_bm F.plainAttrs_str F.slot_str_split F.type_str_split mt_splitMax (ho Wx tk) (hL Wx tk) hbase hfew hline hs hplain) fun σ H Q h => by rw [hK]; exact m2_read ru_splitM h
/-! ### dict comprehensions, keys whole numbers or texts -/
def isKey : W → Bool
  | .int _ => true
  | .str _ => true
  | _ => false
def sameKey : W → W → Bool
  | .int i, .int j => i == j
  | .str a, .str b => a == b
  | _, _ => false
def putWs (k v : W) : List W → List W → List W
  | a :: ks, w :: vs => (if sameKey a k then v else w) :: putWs k v ks vs
  | _, _ => []
def putD (ks vs : List W) (k v : W) : List W × List W := if ks.any (sameKey · k) then (ks, putWs k v ks vs) else (ks ++ [k], vs ++ [v])
theorem same_ok {a k : W} {ka kk : Key} (h1 : keyW a = some ka) (h2 : keyW k = some kk) : sameKey a k = decide (ka = kk) := by
  cases a <;> first | (cases h1; done) | skip
  · cases k <;> first | (cases h2; done) | skip
    · cases h1
      cases h2
      unfold sameKey
      rename_i i j
      by_cases e : i = j
      · subst e; simp
      · simp [e]
    · cases h1
      cases h2
      simp [sameKey]
  · cases k <;> first | (cases h2; done) | skip
    · cases h1
      cases h2
      simp [sameKey]
    · cases h1
      cases h2
      unfold sameKey
      rename_i i j
      by_cases e : i = j
      · subst e; simp
      · have e2 : mkS i ≠ mkS j := fun z => e (mkS_inj.mp z)
        simp [e, e2]
theorem any_ok {k : W} {kk : Key} (h2 : keyW k = some kk) : ∀ {ks : List W} {kvs : List (Key × V)}, ks.map keyW = kvs.map (fun p => some p.1) → ks.any (sameKey · k) = kvs.any fun kv => decide (kv.1 = kk)
  | [], [], _ => rfl
  | [], _ :: _, e => by cases e
  | _ :: _, [], e => by cases e
  | a :: ks, p :: kvs, e => by
    rw [List.map_cons, List.map_cons] at e
    injection e with e1 e2
    rw [List.any_cons, List.any_cons, same_ok e1 h2, any_ok h2 e2]
theorem putWs_ok {F : Addr → Prop} {H : Hp} {k w : W} {kk : Key} {v : V} (h2 : keyW k = some kk) (rv : RepF c F H w v) : ∀ {ks vs : List W} {kvs : List (Key × V)}, ks.map keyW = kvs.map (fun p => some p.1) → RepFs c F H vs (kvs.map (·.2)) →
    RepFs c F H (putWs k w ks vs) ((kvs.map fun kv => if kv.1 = kk then (kv.1, v) else kv).map (·.2))
  | [], vs, [], _, r => by cases vs <;> exact rfl
  | [], _, _ :: _, e, _ => by cases e
  | _ :: _, _, [], e, _ => by cases e
  | a :: ks, [], p :: kvs, _, r => by cases (show (p :: kvs).map (·.2) = [] from r)
  | a :: ks, x :: vs, p :: kvs, e, r => by
    rw [List.map_cons, List.map_cons] at e
    injection e with e1 e2
    obtain ⟨y, ys, er, r1, r2⟩ := r
    rw [List.map_cons] at er
    injection er with er1 er2
    subst er1 er2
    refine ⟨_, _, rfl, ?_, putWs_ok h2 rv e2 r2⟩
    rw [same_ok e1 h2]
    dsimp only
    by_cases z : p.1 = kk
    · rw [if_pos z, if_pos (decide_eq_true z)]
      exact rv
    · rw [if_neg z, if_neg (by rw [decide_eq_false z]; exact Bool.false_ne_true)]
      exact r1
theorem keys_put {k : Key} {v : V} : ∀ {kvs : List (Key × V)}, (kvs.map fun kv => if kv.1 = k then (kv.1, v) else kv).map (fun p => some p.1) = kvs.map fun p => some p.1
  | [] => rfl
  | p :: kvs => by
    rw [List.map_cons, List.map_cons, List.map_cons, keys_put]
    split <;> rfl
theorem put_ok {F : Addr → Prop} {H : Hp} {k w : W} {kk : Key} {v : V} {ks vs : List W} {kvs : List (Key × V)} (h2 : keyW k = some kk) (rv : RepF c F H w v) (e : ks.map keyW = kvs.map (fun p => some p.1)) (r : RepFs c F H vs (kvs.map (·.2))) :
    (putD ks vs k w).1.map keyW = (putK kvs kk v).map (fun p => some p.1) ∧ RepFs c F H (putD ks vs k w).2 ((putK kvs kk v).map (·.2)) := by
  unfold putD putK
  rw [any_ok h2 e]
  split
  · exact ⟨e.trans keys_put.symm, putWs_ok h2 rv e r⟩
  · refine ⟨?_, ?_⟩
    · rw [List.map_append, List.map_append, e, List.map_cons, List.map_nil, h2]
      rfl
    · rw [List.map_append]
      exact r.app ⟨v, [], rfl, rv, rfl⟩
def dcGo (os : List Nat) (tg : W → M Unit) (ifs : M Bool) (mk mv : M W) : List W → List W → List W → M (List W × List W)
  | [], ks, vs => mret (ks, vs)
  | w :: ws, ks, vs => mbd (calm (tg w)) fun _ => mbd ifs fun b =>
    if b then mbd mk fun k => mbd mv fun v => if isKey k && decide (ks.length < 100000) then mbd (mwipe os) fun _ => dcGo os tg ifs mk mv ws (putD ks vs k v).1 (putD ks vs k v).2 else stuck
    else mbd (mwipe os) fun _ => dcGo os tg ifs mk mv ws ks vs
def eDComp (os : List Nat) (it : M (List W)) (tg : W → M Unit) (ifs : M Bool) (mk mv : M W) : M W :=
  mbd it fun ws => calm (mbd (mwipe os) fun _ => mbd (dcGo os tg ifs mk mv ws [] []) fun p => mret (.dct p.1 p.2))
theorem isKey_ok {F : Addr → Prop} {H : Hp} {k : W} {y : V} (h : isKey k = true) (r : RepF c F H k y) : ∃ kk, keyW k = some kk ∧ y = kV kk := by
  cases k <;> first | (cases h; done) | skip
  · exact ⟨_, rfl, r⟩
  · exact ⟨_, rfl, r⟩
section
variable {J : It} {n : Nat} {G : Hp → Prop} {Y : Nat → Hp → V → Hp → Prop}
theorem dc_it (w : Walk J n G Y) {g : TG} {tt : TT} {tk tv : TE} {vs : List Nat} {σ : L2.St} {H1 : Hp} {D : Addr} {Qd : Hp → Prop} (Pv : Nat → Hp → Prop) (h0 : Pv 0 (upd H1 D (.dK []))) (hG : ∀ i H, i ≤ n → Pv i H → G H)
    (hs : ∀ i x H H', i < n → Pv i H → Y i H x H' → g x (L2.wipe σ vs) H' fun σ2 H2 => L2.wipe σ2 vs = L2.wipe σ vs ∧ tt σ2 H2 fun b H3 =>
      if b = true then tk σ2 H3 fun y H4 => tv σ2 H4 fun z H5 => ∃ kvs k, y = kV k ∧ H5 D = some (.dK kvs) ∧ kvs.length < sizeLine ∧ Pv (i + 1) (upd H5 D (.dK (putK kvs k z))) else Pv (i + 1) H3) (hd : ∀ H, Pv n H → Qd H) :
    ∃ W : Nat → Nat → Hp → Prop, (∃ m, W 0 m (upd H1 D (.dK []))) ∧ ∀ i m H, W i m H →
      (J.stop i H ∧ Qd H) ∨ (J.go i H ∧ ∃ Nx : Hp → Prop, (∀ H', Nx H' → ∃ m', m' < m ∧ W (i + 1) m' H') ∧ ∀ x H', J.yld i H x H' → g x (L2.wipe σ vs) H' fun σ2 H2 => L2.wipe σ2 vs = L2.wipe σ vs ∧ tt σ2 H2 fun b H3 =>
        if b = true then tk σ2 H3 fun y H4 => tv σ2 H4 fun z H5 => ∃ kvs k, y = kV k ∧ H5 D = some (.dK kvs) ∧ kvs.length < sizeLine ∧ Nx (upd H5 D (.dK (putK kvs k z))) else Nx H3) := by
  refine ⟨fun i m H => m = n - i ∧ i ≤ n ∧ Pv i H, ⟨n, by simp, Nat.zero_le _, h0⟩, ?_⟩
  rintro i m H ⟨rfl, hi, p⟩
  have q := hG i H hi p
  by_cases hlt : i < n
  · refine .inr ⟨w.goes i H hlt q, Pv (i + 1), fun H' p' => ⟨n - (i + 1), by omega, rfl, hlt, p'⟩, fun x H' y => hs i x H H' hlt p (w.yields i H x H' hlt q y)⟩
  · have e : i = n := by omega
    subst e
    exact .inl ⟨w.stops H q, hd H p⟩
end
/-- a thing that nobody knows is changed; no table, no tuple -/
theorem SR.updG {F : Addr → Prop} {H : Hp} {σ : L2.St} {ss : Slots} (s : SR c F H σ ss) {a : Addr} {o : HO} (nF : ¬ F a) (nB : ¬ Busy σ ss a) {kvs : List (Key × V)} (hm : H a = some (.dK kvs)) : SR c F (L2.upd H a o) σ ss ∧ Kp F F H (L2.upd H a o) := by
  have k : Kp F F H (L2.upd H a o) := ⟨fun b u h z => by
    have n : b ≠ a := fun y => by
      rw [y] at h z
      rw [h] at hm
      cases hm
      rcases z with z | ⟨_, z⟩ | ⟨_, _, z⟩
      · exact nF z
      · cases z
      · cases z
    rw [upd_ne n]
    exact h, fun _ h => h⟩
  have ow : ∀ {b : Addr} {w : W}, b ≠ a → OwnAt c F H b w → OwnAt c F (L2.upd H a o) b w := fun {b w} n h => h.keep k fun u e _ => by
    rw [upd_ne n]
    exact e
  refine ⟨⟨s.len, fun j t ov h1 h2 => ?_, s.nf, s.inj, s.lk, ⟨fun b hb => ?_, tabs_keep s.live.2 fun b u e z => ?_⟩⟩, k⟩
  · have q := s.rel j t ov h1 h2
    cases t with
    | no => trivial
    | fr l w =>
      obtain ⟨v, ev, q⟩ := q
      exact ⟨v, ev, RepF.kp k _ _ q⟩
    | own l w =>
      obtain ⟨b, ev, q⟩ := q
      subst ev
      exact ⟨b, rfl, ow (fun z => by subst z; exact nB (.inl ⟨j, _, h1, rfl, h2⟩)) q⟩
    | lk w =>
      obtain ⟨v, ev, q⟩ := q
      refine ⟨v, ev, ?_⟩
      rcases q with q | ⟨b, eb, q⟩
      · exact .inl (RepF.kp k _ _ q)
      · subst eb
        subst ev
        exact .inr ⟨b, rfl, ow (fun z => by subst z; exact nB (.inr ⟨j, w, h1, q.mutW, h2⟩)) q⟩
  · obtain ⟨u, hu, nu⟩ := s.live.1 b hb
    by_cases z : b = a
    · rw [z] at hb
      exact absurd hb nF
    · exact ⟨u, by rw [upd_ne z]; exact hu, nu⟩
  · have n : b ≠ a := fun y => by
      rw [y, hm] at e
      cases e
      rcases z with ⟨_, z⟩ | ⟨_, z⟩ <;> cases z
    rw [upd_ne n]
    exact e
theorem dc_read {os : List Nat} {it : M (List W)} {t : Tg} {f : M Bool} {mk mv : M W} {Wx : WX} {W0 : WX} (w0 : W0 = fun _ _ _ _ => False) (hos : ∀ j ∈ tgIx t, j ∈ os) {σ : L2.St} {H : Hp} {Q : VK} (q : tM c (eDComp os it (asg t) f mk mv) (rO c) Wx σ H Q) :
    tDc (tM c it (rI c) Wx) (tG c t) (tM c f rB W0) (tM c mk (rF c) W0) (tM c mv (rF c) W0) os σ H Q := by
  subst w0
  obtain ⟨F, ss, s, q⟩ := q
  refine ⟨F, ss, s, (From.bind (U := rI c) early_O q).mono fun J H1 ⟨ws, F1, ss1, em, s1, u1, f1, l1, h3⟩ Dl hD => ?_⟩
  obtain ⟨G, Y, wk, k⟩ := u1
  obtain ⟨wv, ssF, en, hQ⟩ := h3.calm
  obtain ⟨_, ssw, en1, en2⟩ := mbd_some en
  obtain ⟨hfree, rfl⟩ := mwipe_some en1
  obtain ⟨pv, ssF', en3, en4⟩ := mbd_some en2
  cases en4
  obtain ⟨sw, subw, lnw⟩ := s1.wipe hfree
  have new : Ext H1 (L2.upd H1 Dl (.dK [])) := Ext.new hD
  refine dc_it wk (fun i H' => ∃ F' ss' ks vs kvs, SR c F' H' (L2.wipe σ os) ss' ∧ Fm F1 H1 (OwnA σ ss1) F' H' (OwnA (L2.wipe σ os) ss') ∧ Ln σ ss1 (L2.wipe σ os) ss' ∧ (∀ i ∈ os, ∀ t, ss'[i]? = some t → t = .no) ∧ ¬ F' Dl ∧ ¬ Busy (L2.wipe σ os) ss' Dl ∧ H' Dl = some (.dK kvs) ∧
      ks.map keyW = kvs.map (fun p => some p.1) ∧ RepFs c F' H' vs (kvs.map (·.2)) ∧ dcGo os (asg t) f mk mv (ws.drop i) ks vs ss' = some (.ok pv ssF)) ?_ (fun i H' hi ⟨F', ss', ks, vs, kvs, p⟩ => (k F' H' _ p.2.1 (s1.kp p.2.1)).1) (fun i x H' H2 hi ⟨F', ss', ks, vs, kvs, p⟩ y => ?_) (fun H' ⟨F', ss', ks, vs, kvs, p⟩ => ?_)
  · refine ⟨F1, VI.wipe os ss1, [], [], [], sw.ext new, ?_, lnw, wiped_no, fun z => ?_, sw.fresh (.of hD), upd_same, rfl, rfl, en3⟩
    · exact Fm.trans new.fm (Fm.sub subw)
    · obtain ⟨o, e⟩ := s1.liv Dl z
      rw [hD] at e
      cases e
  · obtain ⟨s', f', ln', no', nF', nB', hv, ek, rp, en'⟩ := p
    obtain ⟨e2, w, ew, r⟩ := (k F' H' _ f' (s1.kp f')).2 i x H2 hi y
    have ew' : ws[i] = w := by
      rw [List.getElem?_eq_getElem hi] at ew
      exact Option.some.inj ew
    rw [List.drop_eq_getElem_cons hi, ew'] at en'
    obtain ⟨_, ss3, g1, g2⟩ := mbd_some en'
    have g1 := calm_some g1
    obtain ⟨kb, ss4, g3, g4⟩ := mbd_some g2
    have s2 := s'.ext e2
    refine ⟨F', ss', w, s2, r, ss3, g1, fun σ3 F3 H3 f3 s3 l3 n3 t3 => ?_⟩
    have hw3 : L2.wipe σ3 os = L2.wipe σ os := wipe_same n3 fun j hj => t3 j fun z => hj (hos j z)
    refine ⟨hw3, F3, ss3, s3, .inl ⟨kb, ss4, g3, fun b F4 H4 f4 s4 l4 t4 => ?_⟩⟩
    have t4 : kb = b := t4
    subst t4
    have fAll : Fm F' H' (OwnA (L2.wipe σ os) ss') F4 H4 (OwnA σ3 ss4) := e2.fm.trans (f3.trans f4)
    have notO : ¬ OwnA (L2.wipe σ os) ss' Dl := fun z => nB' (.inl z)
    cases kb with
    | false =>
      refine iteF ?_
      have g4 : mbd (mwipe os) (fun _ => dcGo os (asg t) f mk mv (ws.drop (i + 1)) ks vs) ss4 = some (.ok pv ssF) := g4
      obtain ⟨_, ss5, g5, g6⟩ := mbd_some g4
      obtain ⟨fr5, rfl⟩ := mwipe_some g5
      obtain ⟨s5, sub5, ln5⟩ := s4.wipe fr5
      rw [hw3] at s5 sub5 ln5
      have fAll5 := fAll.trans (Fm.sub sub5)
      have lnA := ((l3.trans l4).trans ln5)
      exact ⟨F4, VI.wipe os ss4, ks, vs, kvs, s5, f'.trans fAll5, ln'.trans lnA, wiped_no, fAll.notF nF' notO hv (fun _ z => by cases z), fAll5.notBusy lnA nB' hv (fun _ z => by cases z), fAll.keep Dl _ hv notO (fun _ z => by cases z), ek, RepFs.kp (s'.kp fAll) _ _ rp, g6⟩
    | true =>
      refine iteT ?_
      have g4 : mbd mk (fun k => mbd mv fun v => if isKey k && decide (ks.length < 100000) then mbd (mwipe os) fun _ => dcGo os (asg t) f mk mv (ws.drop (i + 1)) (putD ks vs k v).1 (putD ks vs k v).2 else stuck) ss4 = some (.ok pv ssF) := g4
      obtain ⟨wk', ss5, g5, g6⟩ := mbd_some g4
      refine ⟨F4, ss4, s4, .inl ⟨wk', ss5, g5, fun y F5 H5 f5 s5 l5 ry => ?_⟩⟩
      obtain ⟨wv', ss6, g7, g8⟩ := mbd_some g6
      split at g8
      · rename_i hc
        rw [Bool.and_eq_true, decide_eq_true_iff] at hc
        obtain ⟨kk, ekk, rfl⟩ := isKey_ok hc.1 ry
        obtain ⟨_, ss7, g9, g10⟩ := mbd_some g8
        obtain ⟨fr7, rfl⟩ := mwipe_some g9
        refine ⟨F5, ss5, s5, .inl ⟨wv', ss6, g7, fun z F6 H6 f6 s6 l6 rz => ?_⟩⟩
        obtain ⟨s7, sub7, ln7⟩ := s6.wipe fr7
        rw [hw3] at s7 sub7 ln7
        have fA6 := (fAll.trans f5).trans f6
        have fB6 := fA6.trans (Fm.sub sub7)
        have lnA := ((((l3.trans l4).trans l5).trans l6).trans ln7)
        have hv5 := fA6.keep Dl _ hv notO (fun _ z => by cases z)
        have nF5 := fA6.notF nF' notO hv (fun _ z => by cases z)
        have nB6 := fB6.notBusy lnA nB' hv (fun _ z => by cases z)
        obtain ⟨s8, k8⟩ := s7.updG (o := .dK (putK kvs kk z)) nF5 nB6 hv5
        have rpO : RepFs c F6 H6 vs (kvs.map (·.2)) := RepFs.kp (s'.kp fA6) _ _ rp
        obtain ⟨pk1, pk2⟩ := put_ok (k := wk') ekk rz ek rpO
        have fC := f'.trans fB6
        have lk : ks.length = kvs.length := by
          have e3 := congrArg List.length ek
          rw [List.length_map, List.length_map] at e3
          exact e3
        refine ⟨kvs, kk, rfl, hv5, ?_, F6, VI.wipe os ss6, (putD ks vs wk' wv').1, (putD ks vs wk' wv').2, putK kvs kk z, s8, ⟨fun a o h n t => ?_, fun a o h nt => ?_, fC.mono, fC.fnew, fC.onew⟩, ln'.trans lnA, wiped_no, nF5, nB6, upd_same, pk1, RepFs.kp k8 _ _ pk2, g10⟩
        · rw [← lk]
          exact Nat.lt_of_lt_of_le hc.2 (sizeLine_big (Nat.le_refl _))
        · have na : a ≠ Dl := fun z => by
            rw [z, hD] at h
            cases h
          rw [upd_ne na]
          exact fC.keep a o h n t
        · have na : a ≠ Dl := fun z => by
            rw [z, hD] at h
            cases h
          rw [upd_ne na]
          exact fC.live a o h nt
      · cases g8
  · obtain ⟨s', f', ln', no', nF', nB', hv, ek, rp, en'⟩ := p
    rw [List.drop_length] at en'
    cases en'
    obtain ⟨su, oE, lE⟩ := s'.unwipe no'
    refine hQ (.ref Dl) F' H' ⟨f'.keep, f'.live, f'.mono, f'.fnew, fun a h => f'.onew a ((oE a).mpr h)⟩ su ⟨fun i t h1 h2 => ⟨rfl, (ln'.st i t h1 h2).2⟩, ln'.lk⟩ ?_
    refine ⟨Dl, rfl, .of hD, nF', fun z => ?_, _, ⟨⟨_, hv, True.intro, fun _ _ z => by cases z⟩, .inl ⟨kvs, .inl hv, ek, rfl⟩⟩, rp⟩
    rcases z with z | z
    · exact nB' (.inl ((oE _).mpr z))
    · exact nB' (.inr ((lE _).mpr z))
theorem sim_dcomp {kx vx tg iter : Expr} {ifs : List Expr} {scope : Scope} {own : List (Str × Nat)} {it : M (List W)} {t : Tg} {f : M Bool} {mk mv : M W} (hc : X.calm = true) (hN : X.N.Nodup) (hi : SimI c X tg iter it) (ok : BlkOk X.N X.env.scope scope own) (hos : ∀ j ∈ tgIx t, j ∈ own.map (·.2))
    (hg : ∀ (s : Shared) (H : Hp) (C : Addr) (cl : List (Str × Addr)) (fp : List Addr), SimG c (X.blk s H scope (compEnvC scope cl C X.env) fp) tg t)
    (ht : ∀ (s : Shared) (H : Hp) (C : Addr) (cl : List (Str × Addr)) (fp : List Addr), SimTs c (X.blk s H scope (compEnvC scope cl C X.env) fp) ifs f)
    (hk : ∀ (s : Shared) (H : Hp) (C : Addr) (cl : List (Str × Addr)) (fp : List Addr), SimE c (X.blk s H scope (compEnvC scope cl C X.env) fp) kx mk)
    (he : ∀ (s : Shared) (H : Hp) (C : Addr) (cl : List (Str × Addr)) (fp : List Addr), SimE c (X.blk s H scope (compEnvC scope cl C X.env) fp) vx mv)
    (hs : ∀ x, foldedSetIterable iter X.env x = pure x := by intro _; rfl) : SimO c X (.DictComp kx vx [⟨tg, iter, ifs, 0⟩] scope pos) (eDComp (own.map (·.2)) it (asg t) f mk mv) := fun Wx tk => by
  have tk0 : ∀ (s : Shared) (H : Hp) (C : Addr) (cl : List (Str × Addr)) (fp : List Addr), Takes (X.blk s H scope (compEnvC scope cl C X.env) fp) (fun _ _ _ _ => False) := fun s H C cl fp u s' ⟨a, B, sI, pins, σ, H', cls, d, e, I, nb, up, sky, na, os, ag, w⟩ => w
  exact PE.imp (pe_dc hc hN (hi Wx tk) ok hg (fun s H C cl fp => ht s H C cl fp _ (tk0 s H C cl fp)) (fun s H C cl fp => hk s H C cl fp _ (tk0 s H C cl fp)) (fun s H C cl fp => he s H C cl fp _ (tk0 s H C cl fp)) hs) fun σ H Q q => dc_read rfl hos q
/-! ### len of a dict -/
def bLenD : List W → Option W
  | [.dct ks _] => some (.int ks.length)
  | ws => bLen ws
theorem dct_len {H : Hp} {a : Addr} {ks : List W} {vs : List V} (h : DctAt H a ks vs) : (∃ kvs : List (Key × V), Rd H a (.dK kvs) ∧ kvs.length = ks.length) ∨ ∃ kvs : List (List Key × V), Rd H a (.dT kvs) ∧ kvs.length = ks.length := by
  rcases h with ⟨kvs, rd, e, _⟩ | ⟨kvs, rd, e, _⟩
  · refine .inl ⟨kvs, rd, ?_⟩
    have z := congrArg List.length e
    rw [List.length_map, List.length_map] at z
    exact z.symm
  · refine .inr ⟨kvs, rd, ?_⟩
    have z := congrArg List.length e
    rw [List.length_map, List.length_map] at z
    exact z.symm
def rLenD (K : PySem.W.Frag) : LR := fun xs H Q => (∃ x n, xs = [x] ∧ LenV K x H n ∧ Q (.int n) H) ∨ ∃ (a : Addr) (n : Nat), xs = [.ref a] ∧ ((∃ kvs : List (Key × V), Rd H a (.dK kvs) ∧ kvs.length = n) ∨ ∃ kvs : List (List Key × V), Rd H a (.dT kvs) ∧ kvs.length = n) ∧ Q (.int n) H
theorem call_lenX : CallR X (.builtin "len") (rLenD X.K) := by
  refine call_len.or ?_
  intro pins s σ H xs us Q I r h
  obtain ⟨a, n, rfl, h, q⟩ := h
  obtain ⟨u, rfl, ru⟩ := vals1 r
  obtain rfl : u = .ref a := ru
  rcases h with ⟨kvs, rd, rfl⟩ | ⟨kvs, rd, rfl⟩
  · exact d_len I rd fun t s' I' => ⟨.int kvs.length, H, I', ⟨t, rfl⟩, q⟩
  · obtain ⟨z, hd, ys, rel, dd⟩ := dt_rd I.hok rd
    have hl : kvs.length = ys.length := Paired.length rel
    refine call_len_dictH hd dd (by rw [← hl]; rw [sizeLine_eq] at z; omega) ?_
    rw [← hl]
    exact ⟨.int ((kvs.length : Nat) : Int), H, I.tok _, ⟨_, rfl⟩, q⟩
theorem ru_lenD : RuF c (rLenD c.K) bLenD := by
  intro F H vs ws w Q lv u e k
  unfold bLenD at e
  split at e
  · cases e
    obtain ⟨x, rfl, h1⟩ := rl1 u
    obtain ⟨a, us, rfl, d, r⟩ := rL_dct h1
    exact .inr ⟨a, _, rfl, dct_len d, k _ _ (.refl _) rfl⟩
  · exact .inl (ru_len F H _ _ w Q lv u e k)
/-! ### in a list, a tuple of data -/
def inWD (x : W) (ys : List W) : Bool := ys.any fun y => eqW y x
def inOk (x : W) (ys : List W) : Bool := flat 40 x && flats 39 ys && decide ((pd x).depth ≤ 60)
def rInX (n : Bool) (K : PySem.W.Frag) : R2 := fun x y H Q => ∃ d ds, Dp K H x d ∧ (Dp K H y (.list ds) ∨ Dp K H y (.tuple ds)) ∧ d.canLay0 = true ∧ PyData.canLayAll0 ds = true ∧ d.depth ≤ 60 ∧ Q (.bl (if n then !(ds.any fun z => PyData.eqv z d) else ds.any fun z => PyData.eqv z d)) H
theorem op_inX (hu : X.A.units + 64 < cLine) : OpR X (compareOp .In) (rInX false X.K) := by
  intro pins s σ H x y v u Q I rx ry ⟨d, ds, hd, he, c1, c2, hp, q⟩
  obtain ⟨as, r1⟩ := Dp.reads I d x v hd rx
  have room : X.A.units + 1 + min (PyData.depthAll ds) d.depth < cLine := by omega
  rcases he with he | he
  · obtain ⟨bs, r2⟩ := Dp.reads I _ y u he ry
    exact SeqAt.in_list_reads r2 r1 c2 c1 room ⟨.bl _, H, I, rfl, q⟩
  · obtain ⟨bs, r2⟩ := Dp.reads I _ y u he ry
    exact SeqAt.in_tuple_reads r2 r1 c2 c1 room ⟨.bl _, H, I, rfl, q⟩
theorem op_notinX (hu : X.A.units + 64 < cLine) : OpR X (compareOp .NotIn) (rInX true X.K) := by
  intro pins s σ H x y v u Q I rx ry ⟨d, ds, hd, he, c1, c2, hp, q⟩
  obtain ⟨as, r1⟩ := Dp.reads I d x v hd rx
  have room : X.A.units + 1 + min (PyData.depthAll ds) d.depth < cLine := by omega
  rcases he with he | he
  · obtain ⟨bs, r2⟩ := Dp.reads I _ y u he ry
    exact SeqAt.notIn_list_reads r2 r1 c2 c1 room ⟨.bl _, H, I, rfl, q⟩
  · obtain ⟨bs, r2⟩ := Dp.reads I _ y u he ry
    exact SeqAt.notIn_tuple_reads r2 r1 c2 c1 room ⟨.bl _, H, I, rfl, q⟩
theorem fl_tup {x : W} {ys : List W} (hi : inOk x ys = true) : flat 40 (.tup ys) = true := by
  unfold inOk at hi
  simp only [Bool.and_eq_true] at hi
  unfold flat
  exact hi.1.2
theorem fl_lst {x : W} {ys : List W} (hi : inOk x ys = true) : flat 40 (.lst ys) = true := by
  unfold inOk at hi
  simp only [Bool.and_eq_true] at hi
  unfold flat
  exact hi.1.2
theorem any_eqv {x : W} (hx : flat 40 x = true) : ∀ {ys : List W}, flats 39 ys = true → ((pds ys).any fun z => PyData.eqv z (pd x)) = inWD x ys
  | [], _ => rfl
  | y :: ys, h => by
    unfold flats at h
    rw [Bool.and_eq_true] at h
    show (PyData.eqv (pd y) (pd x) || (pds ys).any fun z => PyData.eqv z (pd x)) = (eqW y x || inWD x ys)
    rw [any_eqv hx h.2, pd_eqv 39 40 y x h.1 hx]
theorem canLays {ys : List W} (h : flats 39 ys = true) : PyData.canLayAll0 (pds ys) = true := by
  have z : flat 40 (.lst ys) = true := by unfold flat; exact h
  exact SeqAt.canLay_of_shaped (pd_shaped z)
def bInX (n : Bool) (f : List W → Option W) : List W → Option W
  | [x, .tup ys] => if sc1 x && sc1s ys then f [x, .tup ys] else if inOk x ys then some (.bl (if n then !inWD x ys else inWD x ys)) else none
  | [x, .lst ys] => if sc1 x && sc1s ys then f [x, .lst ys] else if inOk x ys then some (.bl (if n then !inWD x ys else inWD x ys)) else none
  | ws => f ws
theorem ru_inX {n : Bool} {f : List W → Option W} {r : R2} (h : RuF c (r2 r) f) (two : ∀ ws w, f ws = some w → ∃ a b, ws = [a, b]) : RuF c (r2 fun x y H Q => r x y H Q ∨ rInX n c.K x y H Q) (bInX n f) := by
  intro F H vs ws w Q lv u e k
  have old : f ws = some w → r2 (fun x y H Q => r x y H Q ∨ rInX n c.K x y H Q) vs H Q := fun e => by
    obtain ⟨a, b, rfl⟩ := two _ _ e
    obtain ⟨x, y, rfl, h1, h2⟩ := rl2 u
    exact .inl (h F H _ _ w Q lv u e k)
  have new : ∀ {x : W} {ys : List W} {v : V}, inOk x ys = true → RepL c F H x v → w = .bl (if n then !inWD x ys else inWD x ys) → ∀ y : V, (Dp c.K H y (.list (pds ys)) ∨ Dp c.K H y (.tuple (pds ys))) → rInX n c.K v y H Q := fun {x ys v} ok r1 ew y hy => by
    unfold inOk at ok
    simp only [Bool.and_eq_true, decide_eq_true_eq] at ok
    refine ⟨pd x, pds ys, pd_repL ok.1.1 r1, hy, SeqAt.canLay_of_shaped (pd_shaped ok.1.1), canLays ok.1.2, ok.2, k _ _ (.refl _) ?_⟩
    rw [any_eqv ok.1.1 ok.1.2, ew]
    rfl
  unfold bInX at e
  split at e
  · split at e
    · exact old e
    · split at e
      · rename_i hi
        cases e
        obtain ⟨x, y, rfl, h1, h2⟩ := rl2 u
        have z := fl_tup hi
        exact .inr (new hi h1 rfl y (.inr (pd_repL z h2)))
      · cases e
  · split at e
    · exact old e
    · split at e
      · rename_i hi
        cases e
        obtain ⟨x, y, rfl, h1, h2⟩ := rl2 u
        have z := fl_lst hi
        exact .inr (new hi h1 rfl y (.inl (pd_repL z h2)))
      · cases e
  · exact old e
theorem two_in : ∀ ws w, bIn ws = some w → ∃ a b, ws = [a, b] := fun ws w e => by
  unfold bIn at e
  split at e <;> first | exact ⟨_, _, rfl⟩ | cases e
theorem two_notin : ∀ ws w, bNotIn ws = some w → ∃ a b, ws = [a, b] := fun ws w e => by
  unfold bNotIn at e
  split at e <;> first | exact ⟨_, _, rfl⟩ | cases e
def bInD := bInX false bIn
def bNotInD := bInX true bNotIn
theorem op_in3 (hK : X.K = c.K) (hu : X.A.units + 64 < cLine) : OpR X (compareOp .In) (fun x y H Q => rInB c.K false x y H Q ∨ rInX false c.K x y H Q) := by
  rw [← hK]
  exact op_in2.or (op_inX hu)
theorem op_notin3 (hK : X.K = c.K) (hu : X.A.units + 64 < cLine) : OpR X (compareOp .NotIn) (fun x y H Q => rInB c.K true x y H Q ∨ rInX true c.K x y H Q) := by
  rw [← hK]
  exact op_notin2.or (op_notinX hu)
theorem ru_inD : RuF c (r2 fun x y H Q => rInB c.K false x y H Q ∨ rInX false c.K x y H Q) bInD := ru_inX ru_in two_in
theorem ru_notinD : RuF c (r2 fun x y H Q => rInB c.K true x y H Q ∨ rInX true c.K x y H Q) bNotInD := ru_inX ru_notin two_notin
end VI

set_option Elab.async false
set_option linter.all false
set_option maxRecDepth 100000
set_option maxHeartbeats 1000000
/-! VI, part 26: steps of the plain side for simp. -/
namespace VI
section
variable {α β : Type} {ss : Slots}
@[simp] theorem v_mbd {m : M α} {f : α → M β} : mbd m f ss = (match m ss with | none => none | some (.exc c w s) => some (.exc c w s) | some (.ok a s) => f a s) := rfl
@[simp] theorem v_mret {a : α} : mret a ss = some (.ok a ss) := rfl
@[simp] theorem v_lift {o : Option α} : lift o ss = o.map fun a => .ok a ss := rfl
@[simp] theorem v_eC {w : W} : eC w ss = some (.ok w ss) := rfl
@[simp] theorem v_opds0 : opds [] ss = some (.ok [] ss) := rfl
@[simp] theorem v_opdsE {m : M W} {r} : opds (.ev m :: r) ss = mbd m (fun w => mbd (opds r) fun ws => mret (w :: ws)) ss := rfl
@[simp] theorem v_opdsP {i r} : opds (.pk i :: r) ss = mbd (rdSlot i) (fun _ => mbd (opds r) fun ws => mbd (rdSlot i) fun w => mret (w :: ws)) ss := rfl
@[simp] theorem v_bi {f os} : bi f os ss = mbd (opds os) (fun ws => lift (f ws)) ss := rfl
@[simp] theorem v_exps0 : exps [] ss = some (.ok [] ss) := rfl
@[simp] theorem v_exps {m : M W} {r} : exps (m :: r) ss = mbd m (fun w => mbd (exps r) fun ws => mret (w :: ws)) ss := rfl
@[simp] theorem v_eTup {ms} : eTup ms ss = mbd (exps ms) (fun ws => mret (.tup ws)) ss := rfl
@[simp] theorem v_eLst {ms} : eLst ms ss = mbd (exps ms) (fun ws => mret (.lst ws)) ss := rfl
@[simp] theorem v_rd {i} : rdSlot i ss = (match ss[i]? with | some (.fr _ w) => some (.ok w ss) | some (.own _ w) => some (.ok w ss) | some (.lk w) => some (.ok w ss) | _ => none) := rfl
@[simp] theorem v_eVar {i} : eVar i ss = (match ss[i]? with | some (.fr _ w) => some (.ok w ss) | some (.own l w) => some (.ok w (ss.set i (.fr l w))) | _ => none) := rfl
@[simp] theorem v_tE {m} : tE m ss = mbd m (fun w => lift (truthW w)) ss := rfl
@[simp] theorem v_tB {m} : tB m ss = mbd m (fun w => lift (isBl w)) ss := rfl
@[simp] theorem v_tAnd {a b} : tAnd a b ss = mbd a (fun k => if k then b else mret false) ss := rfl
@[simp] theorem v_tOr {a b} : tOr a b ss = mbd a (fun k => if k then mret true else b) ss := rfl
@[simp] theorem v_tNot {a} : tNot a ss = mbd a (fun k => mret (!k)) ss := rfl
@[simp] theorem v_eIf {t a b} : eIf t a b ss = mbd t (fun k => if k then a else b) ss := rfl
@[simp] theorem v_sSeq {a b} : sSeq a b ss = mbd a (fun f => match f with | .nx => b | f => mret f) ss := rfl
@[simp] theorem v_sIf {t a b} : sIf t a b ss = mbd t (fun k => if k then a else b) ss := rfl
@[simp] theorem v_sRet {m} : sRet m ss = mbd m (fun w => mret (.ret false w)) ss := rfl
@[simp] theorem v_sRetO {m} : sRetO m ss = mbd m (fun w => mret (.ret true w)) ss := rfl
@[simp] theorem v_sPass : sPass ss = some (.ok .nx ss) := rfl
@[simp] theorem v_store {i s} : store i s ss = (match ss[i]? with | some t => if free t then some (.ok () (ss.set i s)) else none | none => none) := rfl
@[simp] theorem v_sAsg {i m} : sAsg i m ss = mbd m (fun w => mbd (store i (.fr false w)) fun _ => mret .nx) ss := rfl
@[simp] theorem v_sAsgO {i m} : sAsgO i m ss = mbd m (fun w => mbd (store i (ownS w)) fun _ => mret .nx) ss := rfl
@[simp] theorem v_runFn {n b as} : runFn n b as = (match b (as ++ List.replicate (n - as.length) .no) with
  | some (.ok (.ret o w) ss) => some (.ok (o, w) (ends as ss))
  | some (.ok .nx ss) => some (.ok (false, .non) (ends as ss))
  | some (.exc c w ss) => some (.exc c w (ends as ss))
  | _ => none) := rfl
@[simp] theorem v_free1 {w} : free (.fr false w) = true := rfl
@[simp] theorem v_free2 {w} : free (.own false w) = true := rfl
@[simp] theorem v_free0 : free .no = true := rfl
@[simp] theorem v_ends0 {s} : ends [] s = [] := rfl
@[simp] theorem v_ends {a as s} : ends (a :: as) s = (if free a then .no else s.headD .no) :: ends as s.tail := rfl
@[simp] theorem v_ixlt {α : Type} {xs : List α} {i : Nat} (h : i < xs.length) : ixN xs.length (i : Int) = some i := by unfold ixN; simp [h]
@[simp] theorem v_ownL {i} : ownL i ss = (match ss[i]? with | some (.own _ (.lst xs)) => some (.ok xs ss) | _ => none) := rfl
@[simp] theorem v_putL {i xs} : putL i xs ss = (match ss[i]? with | some (.own l (.lst _)) => some (.ok () (ss.set i (.own l (.lst xs)))) | _ => none) := rfl
@[simp] theorem v_addI {i j : Int} : bAdd [.int i, .int j] = some (.int (i + j)) := rfl
@[simp] theorem v_subI {i j : Int} : bSub [.int i, .int j] = some (.int (i - j)) := rfl
@[simp] theorem v_mulI {i j : Int} (h : small64 i = true ∨ small64 j = true) : bMulB [.int i, .int j] = some (.int (i * j)) := by
  unfold bMulB bMulA bMul; simp only [Bool.or_eq_true, h, if_true]
theorem v_repS {s : List Nat} {k : Int} (h : 2 ≤ k) (h1 : 1 ≤ s.length) (h2 : s.length * k.toNat ≤ 100000) : bMulB [.str s, .int k] = some (.str (List.replicate k.toNat s).flatten) := by
  unfold bMulB bMulA bMul bRep; simp [h, h1, h2]
@[simp] theorem v_small {i : Int} : small64 i = decide (i.natAbs < 18446744073709551616) := rfl
@[simp] theorem v_modI {i j : Int} (h : 0 < j) : bMod [.int i, .int j] = some (.int (i % j)) := by simp [bMod, h]
@[simp] theorem v_fdivI {i j : Int} (h : 0 < j) (h' : j < 1073741824) : bFdiv [.int i, .int j] = some (.int (i / j)) := by simp [bFdiv, h, h']
@[simp] theorem v_negI {i : Int} : bNeg [.int i] = some (.int (-i)) := rfl
@[simp] theorem v_absI {i : Int} : bAbs [.int i] = some (.int (if i < 0 then -i else i)) := rfl
@[simp] theorem v_int2I {i : Int} : bInt2 [.int i] = some (.int i) := rfl
@[simp] theorem v_int2B {b : Bool} : bInt2 [.bl b] = some (.int (if b then 1 else 0)) := rfl
@[simp] theorem v_ltI {i j : Int} : bLt [.int i, .int j] = some (.bl (decide (i < j))) := rfl
@[simp] theorem v_gtI {i j : Int} : bGt [.int i, .int j] = some (.bl (decide (j < i))) := rfl
@[simp] theorem v_leI {i j : Int} : bLe [.int i, .int j] = some (.bl (decide (i ≤ j))) := rfl
@[simp] theorem v_geI {i j : Int} : bGe [.int i, .int j] = some (.bl (decide (j ≤ i))) := rfl
@[simp] theorem v_max2 {i j : Int} : bMax2 [.int i, .int j] = some (.int (if j > i then j else i)) := rfl
@[simp] theorem v_min2 {i j : Int} : bMin2 [.int i, .int j] = some (.int (if j < i then j else i)) := rfl
@[simp] theorem v_lenL {xs : List W} : bLen [.lst xs] = some (.int xs.length) := rfl
@[simp] theorem v_lenT {xs : List W} : bLen [.tup xs] = some (.int xs.length) := rfl
@[simp] theorem v_lenS {xs : List Int} : bLen [.scr xs] = some (.int xs.length) := rfl
@[simp] theorem v_isBl {b : Bool} : isBl (.bl b) = some b := rfl
@[simp] theorem v_powI {i j : Int} (h : 0 ≤ j) (h' : (PySem.Builtin.Int.intBits i : Int) * j ≤ 134217728) : bPow [.int i, .int j] = some (.int (i ^ j.toNat)) := by simp [bPow, h, h']
@[simp] theorem v_bits10 : PySem.Builtin.Int.intBits 10 = 4 := by decide +kernel
@[simp] theorem v_bits39 : PySem.Builtin.Int.intBits 1000000000000000000000000000000000000000 = 130 := by decide +kernel
theorem v_ixS {ns : List Int} {i : Nat} (h : i < ns.length) : bIx [.scr ns, .int i] = some (.int ns[i]) := by simp [bIx, h]
theorem v_ixL {xs : List W} {i : Nat} (h : i < xs.length) : bIx [.lst xs, .int i] = some xs[i] := by simp [bIx, h]
theorem v_ixL' {xs : List W} {i : Int} (h0 : 0 ≤ i) (h : i < xs.length) : bIx [.lst xs, .int i] = some (xs[i.toNat]'(by omega)) := by
  obtain ⟨n, rfl⟩ := Int.eq_ofNat_of_zero_le h0
  exact v_ixL (by omega)
@[simp] theorem v_sSetL {i mk mv} : sSetL i mk mv ss = (mbd mv fun v => mbd (ownL i) fun _ => mbd mk fun k => mbd (ownL i) fun xs => match k with
  | .int j => match ixN xs.length j with
    | some n => mbd (putL i (xs.set n v)) fun _ => mret .nx
    | none => stuck
  | _ => stuck) ss := rfl
theorem v_sRetV {i} : sRetV i ss = (match ss[i]? with | some (.own false w) => some (.ok (.ret true w) ss) | _ => mbd (eVar i) (fun w => mret (.ret false w)) ss) := rfl
end
/-- the vat: three whole numbers -/
def isVat (w : W) : Prop := ∃ a m k, w = .lst [.int a, .int m, .int k]
/-- what comes out well, and what holds of it -/
def OutD {α : Type} (r : Option (R α)) (P : α → Slots → Prop) : Prop := match r with
  | some (.ok a s) => P a s
  | _ => False
/-- the same, not unfolded when terms are looked at -/
structure Out {α : Type} (r : Option (R α)) (P : α → Slots → Prop) : Prop where
  run : OutD r P
section
variable {α β : Type} {ss : Slots}
@[simp] theorem out_ok {a : α} {s P} : Out (some (.ok a s)) P = P a s := propext ⟨fun h => h.run, fun h => ⟨h⟩⟩
@[simp] theorem out_none {P : α → Slots → Prop} : Out none P = False := propext ⟨fun h => h.run, fun h => h.elim⟩
@[simp] theorem out_exc {c w s} {P : α → Slots → Prop} : Out (some (.exc c w s)) P = False := propext ⟨fun h => h.run, fun h => h.elim⟩
theorem out_bd {m : M α} {f : α → M β} {P} (h : Out (m ss) fun a s => Out (f a s) P) : Out (mbd m f ss) P := by
  rw [v_mbd]; revert h; cases m ss with
  | none => exact fun h => h.run.elim
  | some r => cases r with
    | ok a s => exact fun h => h.run
    | exc c w s => exact fun h => h.run.elim
theorem out_seq {a b : M Flow} {P} (h : Out (a ss) fun f s => Out ((match f with | .nx => b | f => mret f) s) P) : Out (sSeq a b ss) P := out_bd h
theorem out_asg {i m P} (h : Out (m ss) fun w s => Out (mbd (store i (.fr false w)) (fun _ => mret Flow.nx) s) P) : Out (sAsg i m ss) P := out_bd h
theorem out_asgO {i m P} (h : Out (m ss) fun w s => Out (mbd (store i (ownS w)) (fun _ => mret Flow.nx) s) P) : Out (sAsgO i m ss) P := out_bd h
theorem out_eq {r : Option (R α)} {P} (h : Out r P) : ∃ a s, r = some (.ok a s) ∧ P a s := by
  cases r with
  | none => exact h.run.elim
  | some r => cases r with
    | ok a s => exact ⟨a, s, rfl, h.run⟩
    | exc c w s => exact h.run.elim
@[simp] theorem v_args0 : args [] ss = some (.ok [] ss) := rfl
@[simp] theorem v_argsE {m : M W} {r} : args (.ev m :: r) ss = mbd m (fun w => mbd (args r) fun ws => mret (.fr false w :: ws)) ss := rfl
@[simp] theorem v_argsL {i r} : args (.lend i :: r) ss = mbd (rdSlot i) (fun _ => mbd (args r) fun ws => addLend i ws) ss := rfl
@[simp] theorem v_addLend {i ws} : addLend i ws ss = (match ss[i]? with | some (.own _ w) => some (.ok (.own true w :: ws) ss) | _ => none) := rfl
@[simp] theorem v_eCall {f as} : eCall f as ss = mbd (args as) (fun vs ss => match f vs with
  | some (.ok (o, w) fin) => some (.ok w (back as fin ss))
  | some (.exc c w fin) => some (.exc c w (back as fin ss))
  | none => none) ss := rfl
@[simp] theorem v_eCallO {f as} : eCallO f as ss = mbd (args as) (fun vs ss => match f vs with
  | some (.ok (o, w) fin) => if o || !isMutW w then some (.ok w (back as fin ss)) else none
  | some (.exc c w fin) => some (.exc c w (back as fin ss))
  | none => none) ss := rfl
@[simp] theorem v_back0 {s : Slots} : back [] s ss = ss := by cases s <;> rfl
@[simp] theorem v_backE {m : M W} {r s} {t : Slots} : back (.ev m :: r) (s :: ss) t = back r ss t := rfl
theorem v_backN {m : M W} {r} {t : Slots} : back (.ev m :: r) [] t = t := rfl
@[simp] theorem v_backL {i r l' w'} {t : Slots} : back (.lend i :: r) (.own l' w' :: ss) t = back r ss (match t[i]? with | some (.own l _) => t.set i (.own l w') | _ => t) := rfl
@[simp] theorem v_sApp {i m} : sApp i m ss = mbd (ownL i) (fun _ => mbd m fun w => mbd (ownL i) fun xs => if xs.length < 100000 then mbd (putL i (xs ++ [w])) fun _ => mret .nx else stuck) ss := rfl
@[simp] theorem v_sExpr {m} : sExpr m ss = mbd m (fun _ => mret .nx) ss := rfl
end
def evs : List Arg → Bool
  | [] => true
  | .ev _ :: r => evs r
  | _ => false
theorem back_evs : ∀ {as : List Arg} {s t : Slots}, evs as = true → back as s t = t
  | [], s, t, _ => by cases s <;> rfl
  | .ev _ :: r, [], t, h => rfl
  | .ev _ :: r, s :: ss, t, h => by rw [v_backE]; exact back_evs (as := r) h
/-- what a met call hands back -/
def metC (told : List Nat) (sub : Nat → Nat → Option Bool) (hs : List Hd) : FOut → Option W
  | some (.ok (_, w) _) => some (.tup [.str told, w])
  | some (.exc k w _) => pick sub hs k w
  | none => none
theorem met_call {told sub hs f as vs s ss w} (ha : args as ss = some (.ok vs s)) (he : evs as = true) (h : metC told sub hs (f vs) = some w) : eMetS told sub hs (eCall f as) ss = some (.ok w s) := by
  unfold eMetS
  rw [v_eCall, v_mbd, ha]
  dsimp only
  unfold metC at h
  split at h
  · cases h; simp [back_evs he]
  · dsimp only; rw [h, back_evs he]; rfl
  · cases h
/-- what a call hands back -/
def valC : FOut → Option W
  | some (.ok (_, w) _) => some w
  | _ => none
theorem val_call {f as vs s ss w} (ha : args as ss = some (.ok vs s)) (he : evs as = true) (h : valC (f vs) = some w) : eCall f as ss = some (.ok w s) := by
  rw [v_eCall, v_mbd, ha]
  dsimp only
  unfold valC at h
  split at h
  · rename_i h'; cases h; rw [h']; simp [back_evs he]
  · cases h
/-! ### the same -/
mutual
def sameW : W → W → Bool
  | .non, .non => true
  | .bl a, .bl b => a == b
  | .int a, .int b => decide (a = b)
  | .str a, .str b => decide (a = b)
  | .tup a, .tup b => sameWs a b
  | .lst a, .lst b => sameWs a b
  | .dct a b, .dct c d => sameWs a c && sameWs b d
  | .scr a, .scr b => decide (a = b)
  | _, _ => false
def sameWs : List W → List W → Bool
  | [], [] => true
  | x :: xs, y :: ys => sameW x y && sameWs xs ys
  | _, _ => false
end
mutual
theorem same_eq : ∀ {a b : W}, sameW a b = true → a = b
  | .non, .non, _ => rfl
  | .bl a, .bl b, h => by unfold sameW at h; rw [eq_of_beq h]
  | .int a, .int b, h => by unfold sameW at h; rw [of_decide_eq_true h]
  | .str a, .str b, h => by unfold sameW at h; rw [of_decide_eq_true h]
  | .tup a, .tup b, h => by unfold sameW at h; rw [sames_eq h]
  | .lst a, .lst b, h => by unfold sameW at h; rw [sames_eq h]
  | .dct a b, .dct c d, h => by unfold sameW at h; rw [Bool.and_eq_true] at h; rw [sames_eq h.1, sames_eq h.2]
  | .scr a, .scr b, h => by unfold sameW at h; rw [of_decide_eq_true h]
theorem sames_eq : ∀ {a b : List W}, sameWs a b = true → a = b
  | [], [], _ => rfl
  | x :: xs, y :: ys, h => by unfold sameWs at h; rw [Bool.and_eq_true] at h; rw [same_eq h.1, sames_eq h.2]
end
def sameO : Option W → W → Bool
  | some a, b => sameW a b
  | _, _ => false
theorem sameO_eq {a : Option W} {b : W} (h : sameO a b = true) : a = some b := by
  cases a with
  | none => cases h
  | some a => rw [same_eq h]
theorem tab1 {xs : List W} {f : W → Option W} {g : W → W} (h : (xs.all fun x => sameO (f x) (g x)) = true) {x : W} (hx : x ∈ xs) : f x = some (g x) := sameO_eq (List.all_eq_true.mp h x hx)
theorem tab2 {xs ys : List W} {f : W → W → Option W} {g : W → W → W} (h : (xs.all fun x => ys.all fun y => sameO (f x y) (g x y)) = true) {x y : W} (hx : x ∈ xs) (hy : y ∈ ys) : f x y = some (g x y) := sameO_eq (List.all_eq_true.mp (List.all_eq_true.mp h x hx) y hy)
/-- a def that hands back -/
def Gv (r : FOut) (P : Bool → W → List Slot → Prop) : Prop := match r with
  | some (.ok (o, w) fin) => P o w fin
  | _ => False
@[simp] theorem gv_ok {o w fin P} : Gv (some (.ok (o, w) fin)) P = P o w fin := rfl
theorem gv_eq {r P} (h : Gv r P) : ∃ o w fin, r = some (.ok (o, w) fin) ∧ P o w fin := by
  unfold Gv at h
  split at h
  · exact ⟨_, _, _, rfl, h⟩
  · exact h.elim
/-- a call whose answer is known -/
theorem scoop_out {f : List Slot → FOut} {m : M W} {xs : List W} {v : W} {l : Bool} {ss : Slots} {P : W → Slots → Prop}
    (H : ∀ {v : W} {xs : List W}, isVat v → 0 < xs.length → xs.length < 1000000 → ∃ o w v', w ∈ xs ∧ isVat v' ∧ f [.own true v, .fr false (.lst xs)] = some (.ok (o, w) [.own true v', .no]))
    (h0 : ss[0]? = some (.own l v)) (hv : isVat v) (hm : m ss = some (.ok (.lst xs) ss)) (hn : 0 < xs.length) (hn' : xs.length < 1000000)
    (k : ∀ w, w ∈ xs → ∀ v', isVat v' → P w (ss.set 0 (.own l v'))) : Out (eCall f [.lend 0, .ev m] ss) P := by
  obtain ⟨o, w, v', hw, hv', e⟩ := H hv hn hn'
  have z : eCall f [.lend 0, .ev m] ss = some (.ok w (ss.set 0 (.own l v'))) := by
    simp [h0, hm, e]
  rw [z]
  exact ⟨k w hw v' hv'⟩
/-- a draw: i = scoop(vat, m) -/
theorem out_draw {f : List Slot → FOut} {m : M W} {xs : List W} {v : W} {l : Bool} {ss : Slots} {P : Flow → Slots → Prop} {i : Nat} {t : Slot} {rest : M Flow}
    (H : ∀ {v : W} {xs : List W}, isVat v → 0 < xs.length → xs.length < 1000000 → ∃ o w v', w ∈ xs ∧ isVat v' ∧ f [.own true v, .fr false (.lst xs)] = some (.ok (o, w) [.own true v', .no]))
    (hv : isVat v) (h0 : ss[0]? = some (.own l v)) (hm : m ss = some (.ok (.lst xs) ss)) (hn : 0 < xs.length) (hn' : xs.length < 1000000)
    (hi : ∀ v', (ss.set 0 (.own l v'))[i]? = some t) (ht : free t = true)
    (k : ∀ w, w ∈ xs → ∀ v', isVat v' → Out (rest ((ss.set 0 (.own l v')).set i (.fr false w))) P) : Out (sSeq (sAsg i (eCall f [.lend 0, .ev m])) rest ss) P := by
  refine out_seq (out_asg (scoop_out H h0 hv hm hn hn' fun w hw v' hv' => ?_))
  simp only [v_mbd, v_store, hi, ht, v_mret, if_true, out_ok]
  exact k w hw v' hv'
theorem out_nx {a b : M Flow} {ss s : Slots} {P} (h : a ss = some (.ok .nx s)) (k : Out (b s) P) : Out (sSeq a b ss) P := by
  rw [v_sSeq, v_mbd, h]
  exact k
theorem out_app {i : Nat} {m : M W} {w : W} {xs : List W} {l : Bool} {rest : M Flow} {ss : Slots} {P} (hm : m ss = some (.ok w ss)) (h : ss[i]? = some (.own l (.lst xs))) (hn : xs.length < 100000)
    (k : Out (rest (ss.set i (.own l (.lst (xs ++ [w]))))) P) : Out (sSeq (sApp i m) rest ss) P :=
  out_nx (by simp [h, hm, hn]) k
theorem out_lst1 {i : Nat} {m : M W} {w : W} {t : Slot} {rest : M Flow} {ss : Slots} {P} (hm : m ss = some (.ok w ss)) (h : ss[i]? = some t) (ht : free t = true)
    (k : Out (rest (ss.set i (.own false (.lst [w])))) P) : Out (sSeq (sAsgO i (eLst [m])) rest ss) P :=
  out_nx (by simp [h, hm, ht, ownS]) k
theorem val_eq {r : FOut} {w : W} (h : valC r = some w) : ∃ o fin, r = some (.ok (o, w) fin) := by
  unfold valC at h
  split at h
  · cases h; exact ⟨_, _, rfl⟩
  · cases h
section
variable {ss : Slots}
@[simp] theorem v_calm {α : Type} {m : M α} : calm m ss = (match m ss with | some (.ok a s) => some (.ok a s) | _ => none) := rfl
@[simp] theorem v_turns0 {tg body} : turns tg body [] ss = some (.ok .nx ss) := rfl
@[simp] theorem v_turns {tg body w ws} : turns tg body (w :: ws) ss = mbd (calm (tg w)) (fun _ => mbd body fun f => match f with
    | .nx => turns tg body ws
    | .cont => turns tg body ws
    | .brk => mret .nx
    | .ret o v => mret (.ret o v)) ss := rfl
@[simp] theorem v_sFor {it tg body} : sFor it tg body ss = mbd it (fun ws => turns tg body ws) ss := rfl
@[simp] theorem v_iEv {m} : iEv m ss = mbd m (fun w => lift (items w)) ss := rfl
@[simp] theorem v_itemsL {xs} : items (.lst xs) = some xs := rfl
@[simp] theorem v_itemsT {xs} : items (.tup xs) = some xs := rfl
@[simp] theorem v_asg1 {i w} : asg (.one i) w = store i (.fr false w) := by unfold asg; rfl
@[simp] theorem v_truB {b} : truthW (.bl b) = some b := rfl
@[simp] theorem v_isnotB {a b : Bool} : bIsNot [.bl a, .bl b] = some (.bl (!(a == b))) := rfl
@[simp] theorem v_isB {a b : Bool} : bIs [.bl a, .bl b] = some (.bl (a == b)) := rfl
end
@[simp] theorem v_back1 {m : M W} {s t : Slots} : back [.ev m] s t = t := back_evs rfl
@[simp] theorem v_back2 {m m2 : M W} {s t : Slots} : back [.ev m, .ev m2] s t = t := back_evs rfl
@[simp] theorem v_back3 {m m2 m3 : M W} {s t : Slots} : back [.ev m, .ev m2, .ev m3] s t = t := back_evs rfl
@[simp] theorem v_back4 {m m2 m3 m4 : M W} {s t : Slots} : back [.ev m, .ev m2, .ev m3, .ev m4] s t = t := back_evs rfl
theorem out_turns {I : Slots → Prop} {tg : W → M Unit} {body : M Flow} : ∀ {ws : List W} {ss : Slots} (h : ∀ w ∈ ws, ∀ s, I s → Out (mbd (calm (tg w)) (fun _ => body) s) fun f s' => f = .nx ∧ I s') (hi : I ss), Out (turns tg body ws ss) fun f s => f = .nx ∧ I s
  | [], ss, _, hi => ⟨⟨rfl, hi⟩⟩
  | w :: ws, ss, h, hi => by
    have q := h w (List.mem_cons_self ..) ss hi
    obtain ⟨f, s, e, rfl, hs⟩ := out_eq q
    have z : turns tg body (w :: ws) ss = turns tg body ws s := by
      rw [v_turns, v_mbd]
      rw [v_mbd] at e
      cases ec : calm (tg w) ss with
      | none => rw [ec] at e; cases e
      | some r => cases r with
        | exc c w s => rw [ec] at e; cases e
        | ok a s1 => rw [ec] at e; dsimp only at e ⊢; rw [v_mbd, e]
    rw [z]
    exact out_turns (fun w' hw => h w' (List.mem_cons_of_mem _ hw)) hs
theorem out_cons {a b : M Flow} {ss : Slots} {P} (h : Out (a ss) fun f s => f = .nx ∧ Out (b s) P) : Out (sSeq a b ss) P := by
  obtain ⟨f, s, e, rfl, k⟩ := out_eq h
  exact out_nx e k
theorem out_mono {α : Type} {r : Option (R α)} {P Q : α → Slots → Prop} (h : Out r P) (k : ∀ a s, P a s → Q a s) : Out r Q := by
  obtain ⟨a, s, rfl, p⟩ := out_eq h
  exact ⟨k a s p⟩
theorem out_for {it : M (List W)} {ws : List W} {tg : W → M Unit} {body rest : M Flow} {ss s0 : Slots} {i : Nat} {P : Flow → Slots → Prop} (hm : it ss = some (.ok ws s0)) (h0 : ∃ u, free u = true ∧ s0.set i u = s0)
    (h : ∀ w ∈ ws, ∀ u, free u = true → Out (mbd (calm (tg w)) (fun _ => body) (s0.set i u)) fun f s => f = .nx ∧ ∃ u', free u' = true ∧ s = s0.set i u')
    (k : ∀ u, Out (rest (s0.set i u)) P) : Out (sSeq (sFor it tg body) rest ss) P := by
  refine out_cons ?_
  rw [v_sFor, v_mbd, hm]
  obtain ⟨u, hu, e⟩ := h0
  refine out_mono (out_turns (I := fun s => ∃ u, free u = true ∧ s = s0.set i u) (fun w hw s hs => ?_) ⟨u, hu, e.symm⟩) ?_
  · obtain ⟨u, hu, rfl⟩ := hs
    exact h w hw u hu
  · rintro f s ⟨rfl, u, -, rfl⟩
    exact ⟨rfl, k u⟩
theorem out_forI {I : Slots → Prop} {it : M (List W)} {ws : List W} {tg : W → M Unit} {body rest : M Flow} {ss s0 : Slots} {P : Flow → Slots → Prop} (hm : it ss = some (.ok ws s0)) (h0 : I s0)
    (h : ∀ w ∈ ws, ∀ s, I s → Out (mbd (calm (tg w)) (fun _ => body) s) fun f s => f = .nx ∧ I s)
    (k : ∀ s, I s → Out (rest s) P) : Out (sSeq (sFor it tg body) rest ss) P := by
  refine out_cons ?_
  rw [v_sFor, v_mbd, hm]
  refine out_mono (out_turns (I := I) h h0) ?_
  rintro f s ⟨rfl, hs⟩
  exact ⟨rfl, k s hs⟩
theorem mem_upto {w : W} : ∀ {n : Nat} {lo : Int}, w ∈ upto lo n → ∃ k : Nat, k < n ∧ w = .int (lo + k)
  | 0, lo, h => by cases h
  | n + 1, lo, h => by
    unfold upto at h
    rcases List.mem_cons.mp h with rfl | h
    · exact ⟨0, by omega, by simp⟩
    · obtain ⟨k, hk, e⟩ := mem_upto h
      exact ⟨k + 1, by omega, by rw [e]; congr 1; omega⟩
@[simp] theorem v_iRange1 {m} {ss : Slots} : iRange1 m ss = mbd m (fun w => lift (match w with
  | .int n => if rangeOk n then some (upto 0 n.toNat) else none
  | _ => none)) ss := rfl
end VI

set_option Elab.async false
set_option linter.all false
set_option maxRecDepth 100000
set_option maxHeartbeats 4000000
namespace Z
open PySem L2 VI
def top (i : Nat) : Stmt := PySem.Challenge.pw_firmwide_k04_refusals_of_pages.main.body.getD i (.Pass ⟨0, 0, 0, 0⟩)
structure Txt (mg : Str → Option Value) : Prop where
  n_abs : mg "abs" = none
  n_all : mg "all" = none
  n_bool : mg "bool" = none
  n_enumerate : mg "enumerate" = none
  n_int : mg "int" = none
  n_isinstance : mg "isinstance" = none
  n_len : mg "len" = none
  n_max : mg "max" = none
  n_min : mg "min" = none
  n_ord : mg "ord" = none
  n_range : mg "range" = none
  n_repr : mg "repr" = none
  n_str : mg "str" = none
  n_tuple : mg "tuple" = none
  n_zip : mg "zip" = none
  g_BETWEEN_PARTS : ∃ t, mg "BETWEEN_PARTS" = some (.str " : " t)
  g_BETWEEN_ROWS : ∃ t, mg "BETWEEN_ROWS" = some (.str "; " t)
  g_BRANCH : ∃ t, mg "BRANCH" = some (.str "branch" t)
  g_BUCKET : ∃ t, mg "BUCKET" = some (.str "bucket" t)
  g_CHECK_PRIME : ∃ t, mg "CHECK_PRIME" = some (.int 9973 t)
  g_DIGITS : ∃ t, mg "DIGITS" = some (.str "0123456789" t)
  g_EMPTY : ∃ t, mg "EMPTY" = some (.str "empty" t)
  g_LEAF : ∃ t, mg "LEAF" = some (.str "leaf" t)
  g_LEAST_BUCKETS : ∃ t, mg "LEAST_BUCKETS" = some (.int 2 t)
  g_LEAST_KIDS : ∃ t, mg "LEAST_KIDS" = some (.int 2 t)
  g_LETTERS : ∃ t, mg "LETTERS" = some (.str "abcdefghijklmnopqrstuvwxyz" t)
  g_MAX_COLUMNS : ∃ t, mg "MAX_COLUMNS" = some (.int 3 t)
  g_MAX_SIGNS : ∃ t, mg "MAX_SIGNS" = some (.int 8 t)
  g_MOST_BUCKETS : ∃ t, mg "MOST_BUCKETS" = some (.int 8 t)
  g_MOST_KIDS : ∃ t, mg "MOST_KIDS" = some (.int 4 t)
  g_MOST_PAGE : ∃ t, mg "MOST_PAGE" = some (.int 999 t)
  g_MOST_PAGE_ROWS : ∃ t, mg "MOST_PAGE_ROWS" = some (.int 60 t)
  g_MOST_SIGNS : ∃ t, mg "MOST_SIGNS" = some (.int 10000 t)
  g_MOST_STAMP : ∃ t, mg "MOST_STAMP" = some (.int 1000000000 t)
  g_NO_ROWS : ∃ t, mg "NO_ROWS" = some (.str "empty" t)
  g_PARTS : ∃ t, mg "PARTS" = some (.str ", " t)
  g_ROWS : ∃ t, mg "ROWS" = some (.str "; " t)
def told : List Nat := [116, 111, 108, 100]
def subT : Nat → Nat → Option Bool
  | 1, 1 => some true
  | 1, 2 => some false
  | 1, 3 => some false
  | 1, 4 => some false
  | 1, 5 => some false
  | 1, 6 => some false
  | 1, 7 => some false
  | 2, 1 => some false
  | 2, 2 => some true
  | 2, 3 => some false
  | 2, 4 => some false
  | 2, 5 => some false
  | 2, 6 => some false
  | 2, 7 => some false
  | 3, 1 => some false
  | 3, 2 => some false
  | 3, 3 => some true
  | 3, 4 => some false
  | 3, 5 => some false
  | 3, 6 => some false
  | 3, 7 => some false
  | 4, 1 => some false
  | 4, 2 => some false
  | 4, 3 => some false
  | 4, 4 => some true
  | 4, 5 => some false
  | 4, 6 => some false
  | 4, 7 => some false
  | 5, 1 => some false
  | 5, 2 => some false
  | 5, 3 => some false
  | 5, 4 => some false
  | 5, 5 => some true
  | 5, 6 => some false
  | 5, 7 => some false
  | 6, 1 => some false
  | 6, 2 => some false
  | 6, 3 => some false
  | 6, 4 => some false
  | 6, 5 => some false
  | 6, 6 => some true
  | 6, 7 => some false
  | 7, 1 => some false
  | 7, 2 => some false
  | 7, 3 => some false
  | 7, 4 => some false
  | 7, 5 => some false
  | 7, 6 => some false
  | 7, 7 => some true
  | _, _ => none
def hs_met : List Hd := [⟨1, .txt [114, 111, 119], 0⟩, ⟨2, .txt [100, 97, 116, 97, 98, 97, 115, 101], 0⟩, ⟨3, .txt [111, 112, 101, 114, 97, 116, 105, 111, 110], 0⟩, ⟨4, .txt [112, 97, 114, 115, 101], 0⟩, ⟨5, .rep [110, 117, 109, 98, 101, 114], 1⟩, ⟨6, .rep [110, 97, 109, 101], 1⟩, ⟨7, .fld [109, 97, 110, 121], 1⟩]
abbrev s_met : Stmt := top 72
theorem sc_met : FnScope ["call", "met"] ["call"] (defScope s_met) := ⟨rfl, rfl, rfl, by decide +kernel, rfl, by decide +kernel, by decide +kernel⟩
structure MetF (c : Cn) (mg : Str → Option Value) : Prop where
  is : ∃ (g : Addr) (oc : Value) (od an : Option Addr) (osl : Array (Option Value)) (kV dc pm cd ct : Value), mg "_law_met" = some (.ref g) ∧ PySem.W.keepIn c.K (.ref g) = true ∧ c.K.lookup g = some ⟨oc, od, .func (PySem.W.fnOf "_law_met" "_law_met" (defArgs s_met) (defBody s_met) (defScope s_met) .none kV dc pm an cd ct), osl⟩ ∧ PySem.W.codeIn c.K cd "_law_met" = true
  so : SubOk c subT
  rp : mg "repr" = none
  m_InvalidRow : mg "InvalidRow" = some (.ref (c.ca 1))
  m_InvalidDatabase : mg "InvalidDatabase" = some (.ref (c.ca 2))
  m_InvalidOperation : mg "InvalidOperation" = some (.ref (c.ca 3))
  m_ParseError : mg "ParseError" = some (.ref (c.ca 4))
  m_InvalidNumber : mg "InvalidNumber" = some (.ref (c.ca 5))
  m_UnknownName : mg "UnknownName" = some (.ref (c.ca 6))
  m_TooMany : mg "TooMany" = some (.ref (c.ca 7))
  f_InvalidNumber : FldOk c 5 "value"
  f_UnknownName : FldOk c 6 "name"
  f_TooMany : FldOk c 7 "limit"
theorem met {c : Cn} {X : Cx} {m : M W} {k : Nat} {body : Expr} {scope : Scope} {params : Arguments} {p lpos pos : Pos} {cc P : Addr} (hK : X.K = c.K) (M : MetF c X.mg) (TB : LamX.TabB X.base X.mg cc P) (hcode : X.env.code = .ref cc) (hmT : (P, X.env.qual ++ "<lambda>") ∈ c.T) (hu : ∀ p ∈ c.T, p.1 = P → p.2 = X.env.qual ++ "<lambda>") (hr : Rm (k + 2) X.A) (L : LamX.LamS X.env.scope scope)
    (hbody : ∀ (A : Around) (outer : List Env) (s : Shared) (H : Hp) (E : XK) (f c' : Addr), Rm k (A.deeper (LamX.lamEnv X scope s.heap.objs.size f c')) → SimE c (LamX.lamCx X A outer s H E scope f c') body m) (hdef : defaultsOf params X.env = ([], []))
    (hbind : ∀ (q : Str) (cl : List (Str × Addr)) (pm cv ctv : Value), bindArgs (PySem.W.kla_fn "<lambda>" q params body scope cl pm cv ctv) ⟨[], []⟩ = pure []) (hg : Gl X "_law_met" := by rfl) : SimE c X (.Call (.Name "_law_met" p) [.Lambda params body scope lpos] [] pos) (eMetS told subT hs_met m) := by
  obtain ⟨g, oc, od, an, osl, kV, dc, pm, cd, ct, hm, hk, lk, hc⟩ := M.is
  rw [← hK] at hk lk hc
  have hb := (fun_mk (st := s_met) lk hc hk).binds (ps := ["call"]) fun _ _ _ _ _ _ us hl => match us, hl with | [_], _ => rfl
  exact sim_met (told := told) (hs := hs_met) hK hm hk lk hc hb sc_met rfl (Or.inl rfl) (fun s H => (cl_txt rfl ⟨rfl, by decide, .inl M.m_InvalidRow⟩ (cl_txt rfl ⟨rfl, by decide, .inl M.m_InvalidDatabase⟩ (cl_txt rfl ⟨rfl, by decide, .inl M.m_InvalidOperation⟩ (cl_txt rfl ⟨rfl, by decide, .inl M.m_ParseError⟩ (cl_rep rfl hK M.f_InvalidNumber rfl rfl (Or.inl rfl) (by decide) (by decide) (fun _ _ _ => rfl) hr.gd (un_met hr) rfl M.rp ⟨rfl, by decide, .inl M.m_InvalidNumber⟩ (cl_rep rfl hK M.f_UnknownName rfl rfl (Or.inl rfl) (by decide) (by decide) (fun _ _ _ => rfl) hr.gd (un_met hr) rfl M.rp ⟨rfl, by decide, .inl M.m_UnknownName⟩ (cl_fld rfl hK M.f_TooMany rfl rfl (Or.inl rfl) (by decide) (by decide) (fun _ _ _ => rfl) ⟨rfl, by decide, .inl M.m_TooMany⟩ Clauses.none)))))))) M.so (fun h hm => by
    rcases List.mem_cons.mp hm with rfl | hm
    · exact .inl ⟨_, rfl⟩
    rcases List.mem_cons.mp hm with rfl | hm
    · exact .inl ⟨_, rfl⟩
    rcases List.mem_cons.mp hm with rfl | hm
    · exact .inl ⟨_, rfl⟩
    rcases List.mem_cons.mp hm with rfl | hm
    · exact .inl ⟨_, rfl⟩
    rcases List.mem_cons.mp hm with rfl | hm
    · exact .inr ⟨fun z => (by have q := M.f_InvalidNumber.ef; rw [z] at q; cases q), by decide⟩
    rcases List.mem_cons.mp hm with rfl | hm
    · exact .inr ⟨fun z => (by have q := M.f_UnknownName.ef; rw [z] at q; cases q), by decide⟩
    rcases List.mem_cons.mp hm with rfl | hm
    · exact .inr ⟨fun z => (by have q := M.f_TooMany.ef; rw [z] at q; cases q), by decide⟩
    cases hm) TB hcode hmT hu hr L hbody hg hdef hbind
section
variable {P : Program} {w : World} {mg : Str → Option Value} {base : Heap} {c : Cn}
abbrev s__law_bag : Stmt := top 69
def b__law_bag : M VI.Flow := (sSeq (sAsg 2 (eIf (tB (bi bLt [.pk 1, .ev (bi bLen [.pk 0])])) (bi bInt2 [.ev (bi bIx [.pk 0, .pk 1])]) (bi bAdd [.ev (bi bMulB [.ev (eC (.int 937)), .pk 1]), .ev (eC (.int 109))])))
  (sSeq (sAsg 3 (bi bMod [.ev (bi bInt2 [.ev (bi bAbs [.pk 2])]), .ev (bi bPow [.ev (bi bPow [.ev (eC (.int 10)), .ev (eC (.int 39))]), .ev (eC (.int 8))])]))
  (sSeq (sAsg 4 (bi bAdd [.ev (bi bAdd [.ev (bi bAdd [.ev (bi bMulB [.ev (bi bMod [.pk 3, .ev (eC (.int 2305843009213693951))]), .ev (eC (.int 191))]), .ev (bi bMulB [.ev (eC (.int 641)), .pk 1])]), .ev (bi bMulB [.ev (eC (.int 137)), .ev (bi bInt2 [.ev (bi bLt [.pk 2, .ev (eC (.int 0))])])])]), .ev (eC (.int 89))]))
  (sRetO (eLst [(bi bMax2 [.ev (eC (.int 0)), .ev (bi bSub [.pk 3, .ev (bi bPow [.ev (eC (.int 10)), .ev (eC (.int 16))])])]), (eVar 4), (eC (.int 0))])))))
def f__law_bag : List Slot → FOut := runFn 5 b__law_bag
theorem sc__law_bag : FnScope ["script", "turn_of", "cell", "great", "mixed"] ["script", "turn_of"] (defScope s__law_bag) := ⟨rfl, rfl, rfl, by decide +kernel, rfl, by decide +kernel, by decide +kernel⟩
theorem ok__law_bag {f : Addr} {fd : FuncData} (F : Fun c.K "_law_bag" "_law_bag" s__law_bag f fd) (T : Txt mg)  : FnG P w c.K mg base 1 f fd ["script", "turn_of"] (spF c 2 f__law_bag) :=
  have S := sc__law_bag
  fn_vi F S rfl rfl fun cdv A outer s H E hr => (simB_cons (sim_asg (sim_ifE (sim_tcmp op_lt2 ru_lt.e (sim_pk 1) (sim_ev (sim_callB call_len ru_len.e T.n_len (SimPs.cons (sim_pk 0) SimPs.nil rfl) (by decide +kernel))) rfl) (sim_callTy call_int2 ru_int2'.e T.n_int (SimPs.cons (sim_ev (sim_ix ix_seq ru_ix.e (sim_pk 0) (sim_pk 1))) SimPs.nil rfl) (by decide +kernel)) (sim_bin op_add4 ru_add (sim_ev (sim_bin op_mulB ru_mulB (sim_ev sim_int) (sim_pk 1))) (sim_ev sim_int))) S.nd)
  (simB_cons (sim_asg (sim_bin op_mod ru_mod.e (sim_ev (sim_callTy call_int2 ru_int2'.e T.n_int (SimPs.cons (sim_ev (sim_callB call_abs ru_abs.e T.n_abs (SimPs.cons (sim_pk 2) SimPs.nil rfl) (by decide +kernel))) SimPs.nil rfl) (by decide +kernel))) (sim_ev (sim_bin op_powB ru_pow.e (sim_ev (sim_bin op_powB ru_pow.e (sim_ev sim_int) (sim_ev sim_int))) (sim_ev sim_int)))) S.nd)
  (simB_cons (sim_asg (sim_bin op_add4 ru_add (sim_ev (sim_bin op_add4 ru_add (sim_ev (sim_bin op_add4 ru_add (sim_ev (sim_bin op_mulB ru_mulB (sim_ev (sim_bin op_mod ru_mod.e (sim_pk 3) (sim_ev sim_int))) (sim_ev sim_int))) (sim_ev (sim_bin op_mulB ru_mulB (sim_ev sim_int) (sim_pk 1))))) (sim_ev (sim_bin op_mulB ru_mulB (sim_ev sim_int) (sim_ev (sim_callTy call_int2 ru_int2'.e T.n_int (SimPs.cons (sim_ev (sim_cmp op_lt2 ru_lt.e (sim_pk 2) (sim_ev sim_int) rfl)) SimPs.nil rfl) (by decide +kernel))))))) (sim_ev sim_int)) S.nd)
  (simB_one (sim_retO (sim_lst (simL_cons (sim_callB (call_max2 rfl) ru_max2.e T.n_max (SimPs.cons (sim_ev sim_int) (SimPs.cons (sim_ev (sim_bin op_sub ru_sub.e (sim_pk 3) (sim_ev (sim_bin op_powB ru_pow.e (sim_ev sim_int) (sim_ev sim_int))))) SimPs.nil rfl) rfl) (by decide +kernel)) (simL_cons (sim_var 4) (simL_cons sim_int simL_nil)))))))))

abbrev s__law_pull : Stmt := top 70
def b__law_pull : M VI.Flow := (sSeq (sIf (tB (bi bGt [.ev (bi bIx [.pk 0, .ev (eC (.int 0))]), .ev (eC (.int 0))]))
  (sSeq (sAsg 2 (bi bMod [.ev (bi bInt2 [.ev (bi bIx [.pk 0, .ev (eC (.int 0))])]), .pk 1]))
  (sSeq (sSetL 0 (eC (.int 0)) (bi bFdiv [.ev (bi bIx [.pk 0, .ev (eC (.int 0))]), .pk 1]))
  (sRetV 2)))
  sPass)
  (sSeq (sSetL 0 (eC (.int 2)) (bi bAdd [.ev (bi bIx [.pk 0, .ev (eC (.int 2))]), .ev (eC (.int 1))]))
  (sSeq (sAsg 3 (bi bMod [.ev (bi bInt2 [.ev (bi bAdd [.ev (bi bIx [.pk 0, .ev (eC (.int 1))]), .ev (bi bMulB [.ev (eC (.int 10001767)), .ev (bi bIx [.pk 0, .ev (eC (.int 2))])])])]), .ev (eC (.int 2305843009213693951))]))
  (sSeq (sAsg 4 (bi bAdd [.ev (bi bMulB [.ev (bi bMod [.ev (bi bInt2 [.ev (bi bAdd [.ev (bi bMulB [.pk 3, .pk 3]), .ev (bi bMulB [.ev (eC (.int 761)), .ev (bi bIx [.pk 0, .ev (eC (.int 2))])])])]), .ev (eC (.int 2305843009213693951))]), .ev (eC (.int 8589934609))]), .pk 3]))
  (sRet (bi bMod [.ev (bi bInt2 [.ev (bi bFdiv [.pk 4, .ev (eC (.int 131072))])]), .pk 1]))))))
def f__law_pull : List Slot → FOut := runFn 5 b__law_pull
theorem sc__law_pull : FnScope ["bag", "many", "found", "one", "two"] ["bag", "many"] (defScope s__law_pull) := ⟨rfl, rfl, rfl, by decide +kernel, rfl, by decide +kernel, by decide +kernel⟩
theorem ok__law_pull {f : Addr} {fd : FuncData} (F : Fun c.K "_law_pull" "_law_pull" s__law_pull f fd) (T : Txt mg)  : FnG P w c.K mg base 1 f fd ["bag", "many"] (spF c 2 f__law_pull) :=
  have S := sc__law_pull
  fn_vi F S rfl rfl fun cdv A outer s H E hr => (simB_cons (sim_if (sim_tcmp op_gt2 ru_gt.e (sim_ev (sim_ix ix_seq ru_ix.e (sim_pk 0) (sim_ev sim_int))) (sim_ev sim_int) rfl)
  (simB_cons (sim_asg (sim_bin op_mod ru_mod.e (sim_ev (sim_callTy call_int2 ru_int2'.e T.n_int (SimPs.cons (sim_ev (sim_ix ix_seq ru_ix.e (sim_pk 0) (sim_ev sim_int))) SimPs.nil rfl) (by decide +kernel))) (sim_pk 1)) S.nd)
  (simB_cons (sim_setL 0 (sim_bin op_fdiv ru_fdiv.e (sim_ev (sim_ix ix_seq ru_ix.e (sim_pk 0) (sim_ev sim_int))) (sim_pk 1)) sim_int)
  (simB_one (sim_retV 2))))
  simB_nil)
  (simB_cons (sim_setL 0 (sim_bin op_add4 ru_add (sim_ev (sim_ix ix_seq ru_ix.e (sim_pk 0) (sim_ev sim_int))) (sim_ev sim_int)) sim_int)
  (simB_cons (sim_asg (sim_bin op_mod ru_mod.e (sim_ev (sim_callTy call_int2 ru_int2'.e T.n_int (SimPs.cons (sim_ev (sim_bin op_add4 ru_add (sim_ev (sim_ix ix_seq ru_ix.e (sim_pk 0) (sim_ev sim_int))) (sim_ev (sim_bin op_mulB ru_mulB (sim_ev sim_int) (sim_ev (sim_ix ix_seq ru_ix.e (sim_pk 0) (sim_ev sim_int))))))) SimPs.nil rfl) (by decide +kernel))) (sim_ev sim_int)) S.nd)
  (simB_cons (sim_asg (sim_bin op_add4 ru_add (sim_ev (sim_bin op_mulB ru_mulB (sim_ev (sim_bin op_mod ru_mod.e (sim_ev (sim_callTy call_int2 ru_int2'.e T.n_int (SimPs.cons (sim_ev (sim_bin op_add4 ru_add (sim_ev (sim_bin op_mulB ru_mulB (sim_pk 3) (sim_pk 3))) (sim_ev (sim_bin op_mulB ru_mulB (sim_ev sim_int) (sim_ev (sim_ix ix_seq ru_ix.e (sim_pk 0) (sim_ev sim_int))))))) SimPs.nil rfl) (by decide +kernel))) (sim_ev sim_int))) (sim_ev sim_int))) (sim_pk 3)) S.nd)
  (simB_one (sim_ret (sim_bin op_mod ru_mod.e (sim_ev (sim_callTy call_int2 ru_int2'.e T.n_int (SimPs.cons (sim_ev (sim_bin op_fdiv ru_fdiv.e (sim_pk 4) (sim_ev sim_int))) SimPs.nil rfl) (by decide +kernel))) (sim_pk 1))))))))

abbrev s__law_choose : Stmt := top 71
def b__law_choose : M VI.Flow := (sRet (bi bIx [.pk 1, .ev (eCall f__law_pull [.lend 0, .ev (bi bLen [.pk 1])])]))
def f__law_choose : List Slot → FOut := runFn 2 b__law_choose
theorem sc__law_choose : FnScope ["bag", "items"] ["bag", "items"] (defScope s__law_choose) := ⟨rfl, rfl, rfl, by decide +kernel, rfl, by decide +kernel, by decide +kernel⟩
theorem ok__law_choose {f : Addr} {fd : FuncData} (F : Fun c.K "_law_choose" "_law_choose" s__law_choose f fd) (T : Txt mg) (d__law_pull : DefF P w c mg base "_law_pull" 2 f__law_pull 1) : FnG P w c.K mg base 2 f fd ["bag", "items"] (spF c 2 f__law_choose) :=
  have S := sc__law_choose
  fn_vi F S rfl rfl fun cdv A outer s H E hr => (simB_one (sim_ret (sim_ix ix_seq ru_ix.e (sim_pk 1) (sim_ev (sim_call (d__law_pull.at hr (by decide)) (SimAs.cons (sim_argL 0) (SimAs.cons (sim_argE (sim_callB call_len ru_len.e T.n_len (SimPs.cons (sim_pk 1) SimPs.nil rfl) (by decide +kernel))) SimAs.nil)))))))

abbrev s_is_integer : Stmt := top 4
def b_is_integer : M VI.Flow := (sRet (eAnd (bi bIsT [.pk 0, .ev (eC (.cls .int))]) (eNot (bi bIsT [.pk 0, .ev (eC (.cls .bool))]))))
def f_is_integer : List Slot → FOut := runFn 1 b_is_integer
theorem sc_is_integer : FnScope ["value"] ["value"] (defScope s_is_integer) := ⟨rfl, rfl, rfl, by decide +kernel, rfl, by decide +kernel, by decide +kernel⟩
theorem ok_is_integer {f : Addr} {fd : FuncData} (F : Fun c.K "is_integer" "is_integer" s_is_integer f fd) (T : Txt mg)  : FnG P w c.K mg base 1 f fd ["value"] (spF c 1 f_is_integer) :=
  have S := sc_is_integer
  fn_vi F S rfl rfl fun cdv A outer s H E hr => (simB_one (sim_ret (sim_and (sim_callB call_isiZ ru_isT.e T.n_isinstance (SimPs.cons (sim_pk 0) (SimPs.cons (sim_ev (sim_cls (t := .int) T.n_int (by decide +kernel))) SimPs.nil rfl) rfl) (by decide +kernel)) (sim_one (sim_not (sim_callB call_isiZ ru_isT.e T.n_isinstance (SimPs.cons (sim_pk 0) (SimPs.cons (sim_ev (sim_cls (t := .bool) T.n_bool (by decide +kernel))) SimPs.nil rfl) rfl) (by decide +kernel)))))))

abbrev s_is_between : Stmt := top 5
def b_is_between : M VI.Flow := (sRet (eAnd (eCall f_is_integer [.ev (eVar 0)]) (eAnd (bi bLe [.pk 1, .pk 0]) (eOr (bi bIs [.pk 2, .ev (eC .non)]) (bi bLe [.pk 0, .pk 2])))))
def f_is_between : List Slot → FOut := runFn 3 b_is_between
theorem sc_is_between : FnScope ["value", "low", "high"] ["value", "low", "high"] (defScope s_is_between) := ⟨rfl, rfl, rfl, by decide +kernel, rfl, by decide +kernel, by decide +kernel⟩
theorem ok_is_between {f : Addr} {fd : FuncData} (F : Fun c.K "is_between" "is_between" s_is_between f fd) (T : Txt mg) (d_is_integer : DefF P w c mg base "is_integer" 1 f_is_integer 1) : FnG P w c.K mg base 2 f fd ["value", "low", "high"] (spF c 3 f_is_between) :=
  have S := sc_is_between
  fn_vi F S rfl rfl fun cdv A outer s H E hr => (simB_one (sim_ret (sim_and (sim_call (d_is_integer.at hr (by decide)) (SimAs.cons (sim_argE (sim_var 0)) SimAs.nil)) (sim_and (sim_cmp op_le2 ru_le.e (sim_pk 1) (sim_pk 0) rfl) (sim_one (sim_or (sim_cmp op_is2 ru_is.e (sim_pk 2) (sim_ev sim_non) rfl) (sim_one (sim_cmp op_le2 ru_le.e (sim_pk 0) (sim_pk 2) rfl))))))))

abbrev s_is_stamp : Stmt := top 57
def b_is_stamp : M VI.Flow := (sRetO (eCallO f_is_between [.ev (eVar 0), .ev (eC (.int 0)), .ev (eC (.int 1000000000))]))
def f_is_stamp : List Slot → FOut := runFn 1 b_is_stamp
theorem sc_is_stamp : FnScope ["value"] ["value"] (defScope s_is_stamp) := ⟨rfl, rfl, rfl, by decide +kernel, rfl, by decide +kernel, by decide +kernel⟩
theorem ok_is_stamp {f : Addr} {fd : FuncData} (F : Fun c.K "is_stamp" "is_stamp" s_is_stamp f fd) (T : Txt mg) (d_is_between : DefF P w c mg base "is_between" 3 f_is_between 2) : FnG P w c.K mg base 3 f fd ["value"] (spF c 1 f_is_stamp) :=
  have S := sc_is_stamp
  fn_vi F S rfl rfl fun cdv A outer s H E hr => (simB_one (sim_retO (sim_callO (d_is_between.at hr (by decide)) (SimAs.cons (sim_argE (sim_var 0)) (SimAs.cons (sim_argE sim_int) (SimAs.cons (sim_argE (T.g_MOST_STAMP.elim fun t h => sim_gl (w := .int 1000000000) (v := .int 1000000000) h ⟨t, rfl⟩ (fun _ _ => rfl))) SimAs.nil))))))

abbrev s_is_name : Stmt := top 6
def b_is_name : M VI.Flow := (sRet (eAnd (bi bIsT [.pk 0, .ev (eC (.cls .str))]) (eAnd (eChain bLe bLe (eC (.int 1)) (bi bLen [.pk 0]) (eC (.int 8))) (bi bAll [.ev (eComp [1] (iEv (eVar 0)) (asg (.one 1)) (mret true) (bi bIn [.pk 1, .ev (eC (.str [97, 98, 99, 100, 101, 102, 103, 104, 105, 106, 107, 108, 109, 110, 111, 112, 113, 114, 115, 116, 117, 118, 119, 120, 121, 122]))]))]))))
def f_is_name : List Slot → FOut := runFn 2 b_is_name
theorem sc_is_name : FnScope ["value", "sign"] ["value"] (defScope s_is_name) := ⟨rfl, rfl, rfl, by decide +kernel, rfl, by decide +kernel, by decide +kernel⟩
theorem ok_is_name {f : Addr} {fd : FuncData} (F : Fun c.K "is_name" "is_name" s_is_name f fd) (T : Txt mg)  : FnG P w c.K mg base 1 f fd ["value"] (spF c 1 f_is_name) :=
  have S := sc_is_name
  fn_vi F S rfl rfl fun cdv A outer s H E hr => (simB_one (sim_ret (sim_and (sim_callB call_isiZ ru_isT.e T.n_isinstance (SimPs.cons (sim_pk 0) (SimPs.cons (sim_ev (sim_cls (t := .str) T.n_str (by decide +kernel))) SimPs.nil rfl) rfl) (by decide +kernel)) (sim_and (sim_chain op_le2 op_le2 ru_le ru_le sim_int (sim_callB call_len ru_len.e T.n_len (SimPs.cons (sim_pk 0) SimPs.nil rfl) (by decide +kernel)) (T.g_MAX_SIGNS.elim fun t h => sim_gl (w := .int 8) (v := .int 8) h ⟨t, rfl⟩ (fun _ _ => rfl))) (sim_one (sim_callB (cr_all rfl) ru_all.e T.n_all (SimPs.cons (sim_ev (SimO.toE (sim_comp (own := [("sign", 1)]) rfl S.nd (simI_ev (sim_K (sim_var 0))) (blkOk_by rfl) (by decide) (fun _ _ _ _ _ => (simG_one S.nd)) (fun _ _ _ _ _ => simTs_nil) (fun _ _ _ _ _ => (sim_cmp op_in2 ru_in.e (sim_pk 1) (sim_ev (T.g_LETTERS.elim fun t h => sim_gl (w := .str [97, 98, 99, 100, 101, 102, 103, 104, 105, 106, 107, 108, 109, 110, 111, 112, 113, 114, 115, 116, 117, 118, 119, 120, 121, 122]) (v := .str (mkS [97, 98, 99, 100, 101, 102, 103, 104, 105, 106, 107, 108, 109, 110, 111, 112, 113, 114, 115, 116, 117, 118, 119, 120, 121, 122])) h ⟨t, rfl⟩ (fun _ _ => rfl))) rfl))))) SimPs.nil rfl) (by decide +kernel)))))))

abbrev s_has_table : Stmt := top 7
def b_has_table : M VI.Flow := (sRet (eAnd (bi bIsT [.pk 0, .ev (eC (.cls .tuple))]) (eAnd (eChain bLe bLe (eC (.int 1)) (bi bLen [.pk 0]) (bi bAdd [.ev (eC (.int 1)), .ev (eC (.int 3))])) (eCall f_is_name [.ev (bi bIx [.pk 0, .ev (eC (.int 0))])]))))
def f_has_table : List Slot → FOut := runFn 1 b_has_table
theorem sc_has_table : FnScope ["value"] ["value"] (defScope s_has_table) := ⟨rfl, rfl, rfl, by decide +kernel, rfl, by decide +kernel, by decide +kernel⟩
theorem ok_has_table {f : Addr} {fd : FuncData} (F : Fun c.K "has_table" "has_table" s_has_table f fd) (T : Txt mg) (d_is_name : DefF P w c mg base "is_name" 1 f_is_name 1) : FnG P w c.K mg base 2 f fd ["value"] (spF c 1 f_has_table) :=
  have S := sc_has_table
  fn_vi F S rfl rfl fun cdv A outer s H E hr => (simB_one (sim_ret (sim_and (sim_callB call_isiZ ru_isT.e T.n_isinstance (SimPs.cons (sim_pk 0) (SimPs.cons (sim_ev (sim_cls (t := .tuple) T.n_tuple (by decide +kernel))) SimPs.nil rfl) rfl) (by decide +kernel)) (sim_and (sim_chain op_le2 op_le2 ru_le ru_le sim_int (sim_callB call_len ru_len.e T.n_len (SimPs.cons (sim_pk 0) SimPs.nil rfl) (by decide +kernel)) (sim_bin op_add4 ru_add (sim_ev sim_int) (sim_ev (T.g_MAX_COLUMNS.elim fun t h => sim_gl (w := .int 3) (v := .int 3) h ⟨t, rfl⟩ (fun _ _ => rfl))))) (sim_one (sim_call (d_is_name.at hr (by decide)) (SimAs.cons (sim_argE (sim_ix ix_seq ru_ix.e (sim_pk 0) (sim_ev sim_int))) SimAs.nil)))))))

abbrev s_is_row : Stmt := top 8
def b_is_row : M VI.Flow := (sRet (eAnd (eCall f_has_table [.ev (eVar 0)]) (bi bAll [.ev (eComp [1] (iEv (bi bSlL [.pk 0, .ev (eC (.int 1))])) (asg (.one 1)) (mret true) (eCall f_is_integer [.ev (eVar 1)]))])))
def f_is_row : List Slot → FOut := runFn 2 b_is_row
theorem sc_is_row : FnScope ["value", "number"] ["value"] (defScope s_is_row) := ⟨rfl, rfl, rfl, by decide +kernel, rfl, by decide +kernel, by decide +kernel⟩
theorem ok_is_row {f : Addr} {fd : FuncData} (F : Fun c.K "is_row" "is_row" s_is_row f fd) (T : Txt mg) (d_has_table : DefF P w c mg base "has_table" 1 f_has_table 2) (d_is_integer : DefF P w c mg base "is_integer" 1 f_is_integer 1) : FnG P w c.K mg base 3 f fd ["value"] (spF c 1 f_is_row) :=
  have S := sc_is_row
  fn_vi F S rfl rfl fun cdv A outer s H E hr => (simB_one (sim_ret (sim_and (sim_call (d_has_table.at hr (by decide)) (SimAs.cons (sim_argE (sim_var 0)) SimAs.nil)) (sim_one (sim_callB (cr_all rfl) ru_all.e T.n_all (SimPs.cons (sim_ev (SimO.toE (sim_comp (own := [("number", 1)]) rfl S.nd (simI_ev (sim_K (sim_slL rfl (sim_pk 0) (sim_ev sim_int)))) (blkOk_by rfl) (by decide) (fun _ _ _ _ _ => (simG_one S.nd)) (fun _ _ _ _ _ => simTs_nil) (fun _ _ _ _ _ => (sim_call (d_is_integer.at hr (by decide)) (SimAs.cons (sim_argE (sim_var 1)) SimAs.nil)))))) SimPs.nil rfl) (by decide +kernel))))))

abbrev s_are_rising_rows : Stmt := top 56
def b_are_rising_rows : M VI.Flow := (sSeq (sIf (tOr (tNot (tE (bi bIsT [.pk 0, .ev (eC (.cls .tuple))]))) (tOr (tB (bi bGt [.ev (bi bLen [.pk 0]), .pk 1])) (tNot (tE (bi bAll [.ev (eComp [2] (iEv (eVar 0)) (asg (.one 2)) (mret true) (eCall f_is_row [.ev (eVar 2)]))])))))
  (sRet (eC (.bl false)))
  sPass)
  (sRet (bi bAll [.ev (eComp [3, 4] (iZip (eVar 0) (bi bSlL [.pk 0, .ev (eC (.int 1))])) (asg (.many [(.one 3), (.one 4)])) (mret true) (bi bLtD [.pk 3, .pk 4]))])))
def f_are_rising_rows : List Slot → FOut := runFn 5 b_are_rising_rows
theorem sc_are_rising_rows : FnScope ["value", "most", "row", "one", "other"] ["value", "most"] (defScope s_are_rising_rows) := ⟨rfl, rfl, rfl, by decide +kernel, rfl, by decide +kernel, by decide +kernel⟩
theorem ok_are_rising_rows {f : Addr} {fd : FuncData} (F : Fun c.K "are_rising_rows" "are_rising_rows" s_are_rising_rows f fd) (T : Txt mg) (d_is_row : DefF P w c mg base "is_row" 1 f_is_row 3) : FnG P w c.K mg base 4 f fd ["value", "most"] (spF c 2 f_are_rising_rows) :=
  have S := sc_are_rising_rows
  fn_vi F S rfl rfl fun cdv A outer s H E hr => (simB_cons (sim_if (simT_W (simW_or (simT_not (sim_tE rfl (sim_callB call_isiZ ru_isT.e T.n_isinstance (SimPs.cons (sim_pk 0) (SimPs.cons (sim_ev (sim_cls (t := .tuple) T.n_tuple (by decide +kernel))) SimPs.nil rfl) rfl) (by decide +kernel)))) (simW_or (sim_tcmp op_gt2 ru_gt.e (sim_ev (sim_callB call_len ru_len.e T.n_len (SimPs.cons (sim_pk 0) SimPs.nil rfl) (by decide +kernel))) (sim_pk 1) rfl) (simW_or1 (simT_not (sim_tE rfl (sim_callB (cr_all rfl) ru_all.e T.n_all (SimPs.cons (sim_ev (SimO.toE (sim_comp (own := [("row", 2)]) rfl S.nd (simI_ev (sim_K (sim_var 0))) (blkOk_by rfl) (by decide) (fun _ _ _ _ _ => (simG_one S.nd)) (fun _ _ _ _ _ => simTs_nil) (fun _ _ _ _ _ => (sim_call (d_is_row.at hr (by decide)) (SimAs.cons (sim_argE (sim_var 2)) SimAs.nil)))))) SimPs.nil rfl) (by decide +kernel))))))))
  (simB_one (sim_ret sim_bl))
  simB_nil)
  (simB_one (sim_ret (sim_callB (cr_all rfl) ru_all.e T.n_all (SimPs.cons (sim_ev (SimO.toE (sim_comp (own := [("one", 3), ("other", 4)]) rfl S.nd (simI_zip T.n_zip (sim_var 0) (sim_slL rfl (sim_pk 0) (sim_ev sim_int))) (blkOk_by rfl) (by decide) (fun _ _ _ _ _ => (simG_tup rfl rfl (simGs_cons (simG_one S.nd) (simGs_cons (simG_one S.nd) simGs_nil)))) (fun _ _ _ _ _ => simTs_nil) (fun _ _ _ _ _ => (sim_cmp (op_lt3 rfl (un_ok hr)) ru_ltD.e (sim_pk 3) (sim_pk 4) rfl))))) SimPs.nil rfl) (by decide +kernel)))))

abbrev s_are_kids : Stmt := top 58
def b_are_kids : M VI.Flow := (sSeq (sIf (tOr (tNot (tE (bi bIsT [.pk 0, .ev (eC (.cls .tuple))]))) (tNot (tB (eChain bLe bLe (eC (.int 2)) (bi bLen [.pk 0]) (eC (.int 4))))))
  (sRet (eC (.bl false)))
  sPass)
  (sSeq (sIf (tNot (tE (bi bAll [.ev (eComp [1] (iEv (eVar 0)) (asg (.one 1)) (mret true) (eCall f_is_between [.ev (eVar 1), .ev (eC (.int 0)), .ev (eC (.int 999))]))])))
  (sRet (eC (.bl false)))
  sPass)
  (sRet (bi bEq [.ev (bi bLenD [.ev (eDComp [1] (iEv (eVar 0)) (asg (.one 1)) (mret true) (eVar 1) (eC (.bl true)))]), .ev (bi bLen [.pk 0])]))))
def f_are_kids : List Slot → FOut := runFn 2 b_are_kids
theorem sc_are_kids : FnScope ["value", "kid"] ["value"] (defScope s_are_kids) := ⟨rfl, rfl, rfl, by decide +kernel, rfl, by decide +kernel, by decide +kernel⟩
theorem ok_are_kids {f : Addr} {fd : FuncData} (F : Fun c.K "are_kids" "are_kids" s_are_kids f fd) (T : Txt mg) (d_is_between : DefF P w c mg base "is_between" 3 f_is_between 2) : FnG P w c.K mg base 3 f fd ["value"] (spF c 1 f_are_kids) :=
  have S := sc_are_kids
  fn_vi F S rfl rfl fun cdv A outer s H E hr => (simB_cons (sim_if (simT_W (simW_or (simT_not (sim_tE rfl (sim_callB call_isiZ ru_isT.e T.n_isinstance (SimPs.cons (sim_pk 0) (SimPs.cons (sim_ev (sim_cls (t := .tuple) T.n_tuple (by decide +kernel))) SimPs.nil rfl) rfl) (by decide +kernel)))) (simW_or1 (simT_not (simT_chain op_le2 op_le2 ru_le ru_le (T.g_LEAST_KIDS.elim fun t h => sim_gl (w := .int 2) (v := .int 2) h ⟨t, rfl⟩ (fun _ _ => rfl)) (sim_callB call_len ru_len.e T.n_len (SimPs.cons (sim_pk 0) SimPs.nil rfl) (by decide +kernel)) (T.g_MOST_KIDS.elim fun t h => sim_gl (w := .int 4) (v := .int 4) h ⟨t, rfl⟩ (fun _ _ => rfl)))))))
  (simB_one (sim_ret sim_bl))
  simB_nil)
  (simB_cons (sim_if (simT_not (sim_tE rfl (sim_callB (cr_all rfl) ru_all.e T.n_all (SimPs.cons (sim_ev (SimO.toE (sim_comp (own := [("kid", 1)]) rfl S.nd (simI_ev (sim_K (sim_var 0))) (blkOk_by rfl) (by decide) (fun _ _ _ _ _ => (simG_one S.nd)) (fun _ _ _ _ _ => simTs_nil) (fun _ _ _ _ _ => (sim_call (d_is_between.at hr (by decide)) (SimAs.cons (sim_argE (sim_var 1)) (SimAs.cons (sim_argE sim_int) (SimAs.cons (sim_argE (T.g_MOST_PAGE.elim fun t h => sim_gl (w := .int 999) (v := .int 999) h ⟨t, rfl⟩ (fun _ _ => rfl))) SimAs.nil)))))))) SimPs.nil rfl) (by decide +kernel))))
  (simB_one (sim_ret sim_bl))
  simB_nil)
  (simB_one (sim_ret (sim_cmp (op_eqD (un_ok hr)) ru_eq.e (sim_ev (sim_callB call_lenX ru_lenD.e T.n_len (SimPs.cons (sim_ev (SimO.toE (sim_dcomp (own := [("kid", 1)]) rfl S.nd (simI_ev (sim_K (sim_var 0))) (blkOk_by rfl) (by decide) (fun _ _ _ _ _ => (simG_one S.nd)) (fun _ _ _ _ _ => simTs_nil) (fun _ _ _ _ _ => (sim_var 1)) (fun _ _ _ _ _ => sim_bl)))) SimPs.nil rfl) (by decide +kernel))) (sim_ev (sim_callB call_len ru_len.e T.n_len (SimPs.cons (sim_pk 0) SimPs.nil rfl) (by decide +kernel))) rfl)))))

abbrev s_is_page : Stmt := top 59
def b_is_page : M VI.Flow := (sSeq (sIf (tOr (tNot (tE (bi bIsT [.pk 0, .ev (eC (.cls .tuple))]))) (tOr (tNot (tB (eChain bLe bLe (eC (.int 3)) (bi bLen [.pk 0]) (eC (.int 4))))) (tNot (tE (bi bIsT [.ev (bi bIx [.pk 0, .ev (eC (.int 0))]), .ev (eC (.cls .str))])))))
  (sRet (eC (.bl false)))
  sPass)
  (sSeq (sIf (tNot (tE (eCall f_is_stamp [.ev (bi bIx [.pk 0, .ev (eC (.int 1))])])))
  (sRet (eC (.bl false)))
  sPass)
  (sSeq (sIf (tB (bi bIn [.ev (bi bIx [.pk 0, .ev (eC (.int 0))]), .ev (eTup [(eC (.str [98, 117, 99, 107, 101, 116])), (eC (.str [108, 101, 97, 102]))])]))
  (sRet (eAnd (bi bEq [.ev (bi bLen [.pk 0]), .ev (eC (.int 3))]) (eCall f_are_rising_rows [.ev (bi bIx [.pk 0, .ev (eC (.int 2))]), .ev (eC (.int 60))])))
  sPass)
  (sSeq (sIf (tOr (tB (bi bNe [.ev (bi bIx [.pk 0, .ev (eC (.int 0))]), .ev (eC (.str [98, 114, 97, 110, 99, 104]))])) (tOr (tB (bi bNe [.ev (bi bLen [.pk 0]), .ev (eC (.int 4))])) (tNot (tE (eCall f_are_kids [.ev (bi bIx [.pk 0, .ev (eC (.int 3))])])))))
  (sRet (eC (.bl false)))
  sPass)
  (sRet (eAnd (eCall f_are_rising_rows [.ev (bi bIx [.pk 0, .ev (eC (.int 2))]), .ev (eC (.int 4))]) (bi bEq [.ev (bi bLen [.ev (bi bIx [.pk 0, .ev (eC (.int 2))])]), .ev (bi bSub [.ev (bi bLen [.ev (bi bIx [.pk 0, .ev (eC (.int 3))])]), .ev (eC (.int 1))])])))))))
def f_is_page : List Slot → FOut := runFn 1 b_is_page
theorem sc_is_page : FnScope ["value"] ["value"] (defScope s_is_page) := ⟨rfl, rfl, rfl, by decide +kernel, rfl, by decide +kernel, by decide +kernel⟩
theorem ok_is_page {f : Addr} {fd : FuncData} (F : Fun c.K "is_page" "is_page" s_is_page f fd) (T : Txt mg) (d_is_stamp : DefF P w c mg base "is_stamp" 1 f_is_stamp 3) (d_are_rising_rows : DefF P w c mg base "are_rising_rows" 2 f_are_rising_rows 4) (d_are_kids : DefF P w c mg base "are_kids" 1 f_are_kids 3) : FnG P w c.K mg base 5 f fd ["value"] (spF c 1 f_is_page) :=
  have S := sc_is_page
  fn_vi F S rfl rfl fun cdv A outer s H E hr => (simB_cons (sim_if (simT_W (simW_or (simT_not (sim_tE rfl (sim_callB call_isiZ ru_isT.e T.n_isinstance (SimPs.cons (sim_pk 0) (SimPs.cons (sim_ev (sim_cls (t := .tuple) T.n_tuple (by decide +kernel))) SimPs.nil rfl) rfl) (by decide +kernel)))) (simW_or (simT_not (simT_chain op_le2 op_le2 ru_le ru_le sim_int (sim_callB call_len ru_len.e T.n_len (SimPs.cons (sim_pk 0) SimPs.nil rfl) (by decide +kernel)) sim_int)) (simW_or1 (simT_not (sim_tE rfl (sim_callB call_isiZ ru_isT.e T.n_isinstance (SimPs.cons (sim_ev (sim_ix ix_seq ru_ix.e (sim_pk 0) (sim_ev sim_int))) (SimPs.cons (sim_ev (sim_cls (t := .str) T.n_str (by decide +kernel))) SimPs.nil rfl) rfl) (by decide +kernel))))))))
  (simB_one (sim_ret sim_bl))
  simB_nil)
  (simB_cons (sim_if (simT_not (sim_tE rfl (sim_call (d_is_stamp.at hr (by decide)) (SimAs.cons (sim_argE (sim_ix ix_seq ru_ix.e (sim_pk 0) (sim_ev sim_int))) SimAs.nil))))
  (simB_one (sim_ret sim_bl))
  simB_nil)
  (simB_cons (sim_if (sim_tcmp op_in2 ru_in.e (sim_ev (sim_ix ix_seq ru_ix.e (sim_pk 0) (sim_ev sim_int))) (sim_ev (sim_tup (simL_cons (T.g_BUCKET.elim fun t h => sim_gl (w := .str [98, 117, 99, 107, 101, 116]) (v := .str (mkS [98, 117, 99, 107, 101, 116])) h ⟨t, rfl⟩ (fun _ _ => rfl)) (simL_cons (T.g_LEAF.elim fun t h => sim_gl (w := .str [108, 101, 97, 102]) (v := .str (mkS [108, 101, 97, 102])) h ⟨t, rfl⟩ (fun _ _ => rfl)) simL_nil)) rfl)) rfl)
  (simB_one (sim_ret (sim_and (sim_cmp (op_eqD (un_ok hr)) ru_eq.e (sim_ev (sim_callB call_len ru_len.e T.n_len (SimPs.cons (sim_pk 0) SimPs.nil rfl) (by decide +kernel))) (sim_ev sim_int) rfl) (sim_one (sim_call (d_are_rising_rows.at hr (by decide)) (SimAs.cons (sim_argE (sim_ix ix_seq ru_ix.e (sim_pk 0) (sim_ev sim_int))) (SimAs.cons (sim_argE (T.g_MOST_PAGE_ROWS.elim fun t h => sim_gl (w := .int 60) (v := .int 60) h ⟨t, rfl⟩ (fun _ _ => rfl))) SimAs.nil)))))))
  simB_nil)
  (simB_cons (sim_if (simT_W (simW_or (sim_tcmp (op_neD (un_ok hr)) ru_ne.e (sim_ev (sim_ix ix_seq ru_ix.e (sim_pk 0) (sim_ev sim_int))) (sim_ev (T.g_BRANCH.elim fun t h => sim_gl (w := .str [98, 114, 97, 110, 99, 104]) (v := .str (mkS [98, 114, 97, 110, 99, 104])) h ⟨t, rfl⟩ (fun _ _ => rfl))) rfl) (simW_or (sim_tcmp (op_neD (un_ok hr)) ru_ne.e (sim_ev (sim_callB call_len ru_len.e T.n_len (SimPs.cons (sim_pk 0) SimPs.nil rfl) (by decide +kernel))) (sim_ev sim_int) rfl) (simW_or1 (simT_not (sim_tE rfl (sim_call (d_are_kids.at hr (by decide)) (SimAs.cons (sim_argE (sim_ix ix_seq ru_ix.e (sim_pk 0) (sim_ev sim_int))) SimAs.nil))))))))
  (simB_one (sim_ret sim_bl))
  simB_nil)
  (simB_one (sim_ret (sim_and (sim_call (d_are_rising_rows.at hr (by decide)) (SimAs.cons (sim_argE (sim_ix ix_seq ru_ix.e (sim_pk 0) (sim_ev sim_int))) (SimAs.cons (sim_argE (T.g_MOST_KIDS.elim fun t h => sim_gl (w := .int 4) (v := .int 4) h ⟨t, rfl⟩ (fun _ _ => rfl))) SimAs.nil))) (sim_one (sim_cmp (op_eqD (un_ok hr)) ru_eq.e (sim_ev (sim_callB call_len ru_len.e T.n_len (SimPs.cons (sim_ev (sim_ix ix_seq ru_ix.e (sim_pk 0) (sim_ev sim_int))) SimPs.nil rfl) (by decide +kernel))) (sim_ev (sim_bin op_sub ru_sub.e (sim_ev (sim_callB call_len ru_len.e T.n_len (SimPs.cons (sim_ev (sim_ix ix_seq ru_ix.e (sim_pk 0) (sim_ev sim_int))) SimPs.nil rfl) (by decide +kernel))) (sim_ev sim_int))) rfl)))))))))

abbrev s_require_page : Stmt := top 61
def b_require_page : M VI.Flow := (sIf (tNot (tE (eCall f_is_page [.ev (eVar 0)])))
  (sRaise 3 (eC .non))
  sPass)
def f_require_page : List Slot → FOut := runFn 1 b_require_page
theorem sc_require_page : FnScope ["page"] ["page"] (defScope s_require_page) := ⟨rfl, rfl, rfl, by decide +kernel, rfl, by decide +kernel, by decide +kernel⟩
theorem ok_require_page {f : Addr} {fd : FuncData} (F : Fun c.K "require_page" "require_page" s_require_page f fd) (T : Txt mg) (d_is_page : DefF P w c mg base "is_page" 1 f_is_page 5)(e_InvalidOperation : ExMK c mg "InvalidOperation" 3) : FnG P w c.K mg base 6 f fd ["page"] (spF c 1 f_require_page) :=
  have S := sc_require_page
  fn_vi F S rfl rfl fun cdv A outer s H E hr => (simB_one (sim_if (simT_not (sim_tE rfl (sim_call (d_is_page.at hr (by decide)) (SimAs.cons (sim_argE (sim_var 0)) SimAs.nil))))
  (simB_one (sim_raiseM e_InvalidOperation.at))
  simB_nil))

abbrev s_kids_text : Stmt := top 46
def b_kids_text : M VI.Flow := (sRet (eM1 bJoin (eC (.str [44])) (eComp [1] (iEv (eVar 0)) (asg (.one 1)) (mret true) (bi bStrI [.pk 1]))))
def f_kids_text : List Slot → FOut := runFn 2 b_kids_text
theorem sc_kids_text : FnScope ["kids", "kid"] ["kids"] (defScope s_kids_text) := ⟨rfl, rfl, rfl, by decide +kernel, rfl, by decide +kernel, by decide +kernel⟩
theorem ok_kids_text {f : Addr} {fd : FuncData} (F : Fun c.K "kids_text" "kids_text" s_kids_text f fd) (T : Txt mg)  : FnG P w c.K mg base 1 f fd ["kids"] (spF c 1 f_kids_text) :=
  have S := sc_kids_text
  fn_vi F S rfl rfl fun cdv A outer s H E hr => (simB_one (sim_ret (sim_join rfl (sim_str rfl) (SimO.toE (sim_comp (own := [("kid", 1)]) rfl S.nd (simI_ev (sim_K (sim_var 0))) (blkOk_by rfl) (by decide) (fun _ _ _ _ _ => (simG_one S.nd)) (fun _ _ _ _ _ => simTs_nil) (fun _ _ _ _ _ => (sim_callTy call_str_int ru_strI.e T.n_str (SimPs.cons (sim_pk 1) SimPs.nil rfl) (by decide +kernel))))))))

abbrev s_terms_text : Stmt := top 24
def b_terms_text : M VI.Flow := (sRet (eFs [] [(eC (.str [40])), (eFmt (eM1 bJoin (eC (.str [44, 32])) (eComp [1] (iEv (eVar 0)) (asg (.one 1)) (mret true) (bi bStrI [.pk 1])))), (eC (.str [41]))]))
def f_terms_text : List Slot → FOut := runFn 2 b_terms_text
theorem sc_terms_text : FnScope ["terms", "term"] ["terms"] (defScope s_terms_text) := ⟨rfl, rfl, rfl, by decide +kernel, rfl, by decide +kernel, by decide +kernel⟩
theorem ok_terms_text {f : Addr} {fd : FuncData} (F : Fun c.K "terms_text" "terms_text" s_terms_text f fd) (T : Txt mg)  : FnG P w c.K mg base 1 f fd ["terms"] (spF c 1 f_terms_text) :=
  have S := sc_terms_text
  fn_vi F S rfl rfl fun cdv A outer s H E hr => (simB_one (sim_ret (sim_fstr (SimJ.cons (sim_str rfl) (SimJ.cons (sim_fmt (sim_join rfl (T.g_PARTS.elim fun t h => sim_gl (w := .str [44, 32]) (v := .str (mkS [44, 32])) h ⟨t, rfl⟩ (fun _ _ => rfl)) (SimO.toE (sim_comp (own := [("term", 1)]) rfl S.nd (simI_ev (sim_K (sim_var 0))) (blkOk_by rfl) (by decide) (fun _ _ _ _ _ => (simG_one S.nd)) (fun _ _ _ _ _ => simTs_nil) (fun _ _ _ _ _ => (sim_callTy call_str_int ru_strI.e T.n_str (SimPs.cons (sim_pk 1) SimPs.nil rfl) (by decide +kernel))))))) (SimJ.cons (sim_str rfl) SimJ.nil))))))

abbrev s_pattern_text : Stmt := top 25
def b_pattern_text : M VI.Flow := (sRet (bi bAdd [.ev (bi bIx [.pk 0, .ev (eC (.int 0))]), .ev (eCall f_terms_text [.ev (bi bSlL [.pk 0, .ev (eC (.int 1))])])]))
def f_pattern_text : List Slot → FOut := runFn 1 b_pattern_text
theorem sc_pattern_text : FnScope ["pattern"] ["pattern"] (defScope s_pattern_text) := ⟨rfl, rfl, rfl, by decide +kernel, rfl, by decide +kernel, by decide +kernel⟩
theorem ok_pattern_text {f : Addr} {fd : FuncData} (F : Fun c.K "pattern_text" "pattern_text" s_pattern_text f fd) (T : Txt mg) (d_terms_text : DefF P w c mg base "terms_text" 1 f_terms_text 1) : FnG P w c.K mg base 2 f fd ["pattern"] (spF c 1 f_pattern_text) :=
  have S := sc_pattern_text
  fn_vi F S rfl rfl fun cdv A outer s H E hr => (simB_one (sim_ret (sim_bin op_add4 ru_add (sim_ev (sim_ix ix_seq ru_ix.e (sim_pk 0) (sim_ev sim_int))) (sim_ev (sim_call (d_terms_text.at hr (by decide)) (SimAs.cons (sim_argE (sim_slL rfl (sim_pk 0) (sim_ev sim_int))) SimAs.nil))))))

abbrev s_rows_text : Stmt := top 26
def b_rows_text : M VI.Flow := (sRet (eIf (tB (bi bNe [.pk 0, .ev (eTup [])])) (eM1 bJoin (eC (.str [59, 32])) (eComp [1] (iEv (eVar 0)) (asg (.one 1)) (mret true) (eCall f_pattern_text [.ev (eVar 1)]))) (eC (.str [101, 109, 112, 116, 121]))))
def f_rows_text : List Slot → FOut := runFn 2 b_rows_text
theorem sc_rows_text : FnScope ["rows", "row"] ["rows"] (defScope s_rows_text) := ⟨rfl, rfl, rfl, by decide +kernel, rfl, by decide +kernel, by decide +kernel⟩
theorem ok_rows_text {f : Addr} {fd : FuncData} (F : Fun c.K "rows_text" "rows_text" s_rows_text f fd) (T : Txt mg) (d_pattern_text : DefF P w c mg base "pattern_text" 1 f_pattern_text 2) : FnG P w c.K mg base 3 f fd ["rows"] (spF c 1 f_rows_text) :=
  have S := sc_rows_text
  fn_vi F S rfl rfl fun cdv A outer s H E hr => (simB_one (sim_ret (sim_ifE (sim_tcmp (op_neD (un_ok hr)) ru_ne.e (sim_pk 0) (sim_ev (sim_tup simL_nil rfl)) rfl) (sim_join rfl (T.g_ROWS.elim fun t h => sim_gl (w := .str [59, 32]) (v := .str (mkS [59, 32])) h ⟨t, rfl⟩ (fun _ _ => rfl)) (SimO.toE (sim_comp (own := [("row", 1)]) rfl S.nd (simI_ev (sim_K (sim_var 0))) (blkOk_by rfl) (by decide) (fun _ _ _ _ _ => (simG_one S.nd)) (fun _ _ _ _ _ => simTs_nil) (fun _ _ _ _ _ => (sim_call (d_pattern_text.at hr (by decide)) (SimAs.cons (sim_argE (sim_var 1)) SimAs.nil)))))) (T.g_EMPTY.elim fun t h => sim_gl (w := .str [101, 109, 112, 116, 121]) (v := .str (mkS [101, 109, 112, 116, 121])) h ⟨t, rfl⟩ (fun _ _ => rfl)))))

abbrev s_body_text : Stmt := top 47
def b_body_text : M VI.Flow := (sSeq (sIf (tB (bi bEq [.ev (bi bIx [.pk 0, .ev (eC (.int 0))]), .ev (eC (.str [98, 114, 97, 110, 99, 104]))]))
  (sRet (bi bAdd [.ev (bi bAdd [.ev (eCall f_kids_text [.ev (bi bIx [.pk 0, .ev (eC (.int 3))])]), .ev (eC (.str [32, 58, 32]))]), .ev (eM1 bJoin (eC (.str [59, 32])) (eComp [1] (iEv (bi bIx [.pk 0, .ev (eC (.int 2))])) (asg (.one 1)) (mret true) (eCall f_pattern_text [.ev (eVar 1)])))]))
  sPass)
  (sRet (eCall f_rows_text [.ev (bi bIx [.pk 0, .ev (eC (.int 2))])])))
def f_body_text : List Slot → FOut := runFn 2 b_body_text
theorem sc_body_text : FnScope ["page", "row"] ["page"] (defScope s_body_text) := ⟨rfl, rfl, rfl, by decide +kernel, rfl, by decide +kernel, by decide +kernel⟩
theorem ok_body_text {f : Addr} {fd : FuncData} (F : Fun c.K "body_text" "body_text" s_body_text f fd) (T : Txt mg) (d_kids_text : DefF P w c mg base "kids_text" 1 f_kids_text 1) (d_pattern_text : DefF P w c mg base "pattern_text" 1 f_pattern_text 2) (d_rows_text : DefF P w c mg base "rows_text" 1 f_rows_text 3) : FnG P w c.K mg base 4 f fd ["page"] (spF c 1 f_body_text) :=
  have S := sc_body_text
  fn_vi F S rfl rfl fun cdv A outer s H E hr => (simB_cons (sim_if (sim_tcmp (op_eqD (un_ok hr)) ru_eq.e (sim_ev (sim_ix ix_seq ru_ix.e (sim_pk 0) (sim_ev sim_int))) (sim_ev (T.g_BRANCH.elim fun t h => sim_gl (w := .str [98, 114, 97, 110, 99, 104]) (v := .str (mkS [98, 114, 97, 110, 99, 104])) h ⟨t, rfl⟩ (fun _ _ => rfl))) rfl)
  (simB_one (sim_ret (sim_bin op_add4 ru_add (sim_ev (sim_bin op_add4 ru_add (sim_ev (sim_call (d_kids_text.at hr (by decide)) (SimAs.cons (sim_argE (sim_ix ix_seq ru_ix.e (sim_pk 0) (sim_ev sim_int))) SimAs.nil))) (sim_ev (T.g_BETWEEN_PARTS.elim fun t h => sim_gl (w := .str [32, 58, 32]) (v := .str (mkS [32, 58, 32])) h ⟨t, rfl⟩ (fun _ _ => rfl))))) (sim_ev (sim_join rfl (T.g_BETWEEN_ROWS.elim fun t h => sim_gl (w := .str [59, 32]) (v := .str (mkS [59, 32])) h ⟨t, rfl⟩ (fun _ _ => rfl)) (SimO.toE (sim_comp (own := [("row", 1)]) rfl S.nd (simI_ev (sim_K (sim_ix ix_seq ru_ix.e (sim_pk 0) (sim_ev sim_int)))) (blkOk_by rfl) (by decide) (fun _ _ _ _ _ => (simG_one S.nd)) (fun _ _ _ _ _ => simTs_nil) (fun _ _ _ _ _ => (sim_call (d_pattern_text.at hr (by decide)) (SimAs.cons (sim_argE (sim_var 1)) SimAs.nil))))))))))
  simB_nil)
  (simB_one (sim_ret (sim_call (d_rows_text.at hr (by decide)) (SimAs.cons (sim_argE (sim_ix ix_seq ru_ix.e (sim_pk 0) (sim_ev sim_int))) SimAs.nil)))))

abbrev s_check_in : Stmt := top 44
def b_check_in : M VI.Flow := (sSeq (sAsg 1 (eC (.int 0)))
  (sSeq (sFor (iEnum (eVar 0)) (asg (.many [(.one 2), (.one 3)]))
  (sAug 1 bAddF (bi bMulB [.ev (bi bAdd [.pk 2, .ev (eC (.int 1))]), .ev (bi bOrd [.pk 3])])))
  (sRet (bi bMod [.pk 1, .ev (eC (.int 9973))]))))
def f_check_in : List Slot → FOut := runFn 4 b_check_in
theorem sc_check_in : FnScope ["text", "total", "position", "sign"] ["text"] (defScope s_check_in) := ⟨rfl, rfl, rfl, by decide +kernel, rfl, by decide +kernel, by decide +kernel⟩
theorem ok_check_in {f : Addr} {fd : FuncData} (F : Fun c.K "check_in" "check_in" s_check_in f fd) (T : Txt mg)  : FnG P w c.K mg base 1 f fd ["text"] (spF c 1 f_check_in) :=
  have S := sc_check_in
  fn_vi F S rfl rfl fun cdv A outer s H E hr => (simB_cons (sim_asg sim_int S.nd)
  (simB_cons (sim_for (passes_of rfl) rfl (simI_enum T.n_enumerate (sim_K (sim_var 0))) (simG_tup rfl rfl (simGs_cons (simG_one S.nd) (simGs_cons (simG_one S.nd) simGs_nil)))
  (simB_one (sim_aug (sim_bin op_mulB ru_mulB (sim_ev (sim_bin op_add4 ru_add (sim_pk 2) (sim_ev sim_int))) (sim_ev (sim_callB call_ord ru_ord1.e T.n_ord (SimPs.cons (sim_pk 3) SimPs.nil rfl) (by decide +kernel)))) iop_add2 ru_addF S.nd)))
  (simB_one (sim_ret (sim_bin op_mod ru_mod.e (sim_pk 1) (sim_ev (T.g_CHECK_PRIME.elim fun t h => sim_gl (w := .int 9973) (v := .int 9973) h ⟨t, rfl⟩ (fun _ _ => rfl))))))))

abbrev s_text_of_page : Stmt := top 48
def b_text_of_page : M VI.Flow := (sSeq (sAsg 1 (eFs [] [(eFmt (bi bIx [.pk 0, .ev (eC (.int 0))])), (eC (.str [32])), (eFmt (bi bIx [.pk 0, .ev (eC (.int 1))])), (eC (.str [32])), (eFmt (eCall f_body_text [.ev (eVar 0)]))]))
  (sRet (eFs [] [(eFmt (eVar 1)), (eC (.str [32, 35])), (eFmt (eCall f_check_in [.ev (eVar 1)])), (eC (.str [32])), (eFmt (bi bIx [.pk 0, .ev (eC (.int 1))]))])))
def f_text_of_page : List Slot → FOut := runFn 2 b_text_of_page
theorem sc_text_of_page : FnScope ["page", "front"] ["page"] (defScope s_text_of_page) := ⟨rfl, rfl, rfl, by decide +kernel, rfl, by decide +kernel, by decide +kernel⟩
theorem ok_text_of_page {f : Addr} {fd : FuncData} (F : Fun c.K "text_of_page" "text_of_page" s_text_of_page f fd) (T : Txt mg) (d_body_text : DefF P w c mg base "body_text" 1 f_body_text 4) (d_check_in : DefF P w c mg base "check_in" 1 f_check_in 1) : FnG P w c.K mg base 5 f fd ["page"] (spF c 1 f_text_of_page) :=
  have S := sc_text_of_page
  fn_vi F S rfl rfl fun cdv A outer s H E hr => (simB_cons (sim_asg (sim_fstr (SimJ.cons (sim_fmt (sim_ix ix_seq ru_ix.e (sim_pk 0) (sim_ev sim_int))) (SimJ.cons (sim_str rfl) (SimJ.cons (sim_fmt (sim_ix ix_seq ru_ix.e (sim_pk 0) (sim_ev sim_int))) (SimJ.cons (sim_str rfl) (SimJ.cons (sim_fmt (sim_call (d_body_text.at hr (by decide)) (SimAs.cons (sim_argE (sim_var 0)) SimAs.nil))) SimJ.nil)))))) S.nd)
  (simB_one (sim_ret (sim_fstr (SimJ.cons (sim_fmt (sim_var 1)) (SimJ.cons (sim_str rfl) (SimJ.cons (sim_fmt (sim_call (d_check_in.at hr (by decide)) (SimAs.cons (sim_argE (sim_var 1)) SimAs.nil))) (SimJ.cons (sim_str rfl) (SimJ.cons (sim_fmt (sim_ix ix_seq ru_ix.e (sim_pk 0) (sim_ev sim_int))) SimJ.nil)))))))))

abbrev s_page_text : Stmt := top 63
def b_page_text : M VI.Flow := (sSeq (sExpr (eCall f_require_page [.ev (eVar 0)]))
  (sRetO (eCallO f_text_of_page [.ev (eVar 0)])))
def f_page_text : List Slot → FOut := runFn 1 b_page_text
theorem sc_page_text : FnScope ["page"] ["page"] (defScope s_page_text) := ⟨rfl, rfl, rfl, by decide +kernel, rfl, by decide +kernel, by decide +kernel⟩
theorem ok_page_text {f : Addr} {fd : FuncData} (F : Fun c.K "page_text" "page_text" s_page_text f fd) (T : Txt mg) (d_require_page : DefF P w c mg base "require_page" 1 f_require_page 6) (d_text_of_page : DefF P w c mg base "text_of_page" 1 f_text_of_page 5) : FnG P w c.K mg base 7 f fd ["page"] (spF c 1 f_page_text) :=
  have S := sc_page_text
  fn_vi F S rfl rfl fun cdv A outer s H E hr => (simB_cons (sim_expr (sim_call (d_require_page.at hr (by decide)) (SimAs.cons (sim_argE (sim_var 0)) SimAs.nil)))
  (simB_one (sim_retO (sim_callO (d_text_of_page.at hr (by decide)) (SimAs.cons (sim_argE (sim_var 0)) SimAs.nil)))))

abbrev s_is_stamp_text : Stmt := top 49
def b_is_stamp_text : M VI.Flow := (sSeq (sIf (tOr (tNot (tB (eChain bLe bLe (eC (.int 1)) (bi bLen [.pk 0]) (bi bLen [.ev (bi bStrI [.ev (eC (.int 1000000000))])])))) (tNot (tE (bi bAll [.ev (eComp [1] (iEv (eVar 0)) (asg (.one 1)) (mret true) (bi bIn [.pk 1, .ev (eC (.str [48, 49, 50, 51, 52, 53, 54, 55, 56, 57]))]))]))))
  (sRet (eC (.bl false)))
  sPass)
  (sRet (eOr (bi bEq [.ev (bi bLen [.pk 0]), .ev (eC (.int 1))]) (bi bNe [.ev (bi bIx [.pk 0, .ev (eC (.int 0))]), .ev (eC (.str [48]))]))))
def f_is_stamp_text : List Slot → FOut := runFn 2 b_is_stamp_text
theorem sc_is_stamp_text : FnScope ["text", "sign"] ["text"] (defScope s_is_stamp_text) := ⟨rfl, rfl, rfl, by decide +kernel, rfl, by decide +kernel, by decide +kernel⟩
theorem ok_is_stamp_text {f : Addr} {fd : FuncData} (F : Fun c.K "is_stamp_text" "is_stamp_text" s_is_stamp_text f fd) (T : Txt mg)  : FnG P w c.K mg base 1 f fd ["text"] (spF c 1 f_is_stamp_text) :=
  have S := sc_is_stamp_text
  fn_vi F S rfl rfl fun cdv A outer s H E hr => (simB_cons (sim_if (simT_W (simW_or (simT_not (simT_chain op_le2 op_le2 ru_le ru_le sim_int (sim_callB call_len ru_len.e T.n_len (SimPs.cons (sim_pk 0) SimPs.nil rfl) (by decide +kernel)) (sim_callB call_len ru_len.e T.n_len (SimPs.cons (sim_ev (sim_callTy call_str_int ru_strI.e T.n_str (SimPs.cons (sim_ev (T.g_MOST_STAMP.elim fun t h => sim_gl (w := .int 1000000000) (v := .int 1000000000) h ⟨t, rfl⟩ (fun _ _ => rfl))) SimPs.nil rfl) (by decide +kernel))) SimPs.nil rfl) (by decide +kernel)))) (simW_or1 (simT_not (sim_tE rfl (sim_callB (cr_all rfl) ru_all.e T.n_all (SimPs.cons (sim_ev (SimO.toE (sim_comp (own := [("sign", 1)]) rfl S.nd (simI_ev (sim_K (sim_var 0))) (blkOk_by rfl) (by decide) (fun _ _ _ _ _ => (simG_one S.nd)) (fun _ _ _ _ _ => simTs_nil) (fun _ _ _ _ _ => (sim_cmp op_in2 ru_in.e (sim_pk 1) (sim_ev (T.g_DIGITS.elim fun t h => sim_gl (w := .str [48, 49, 50, 51, 52, 53, 54, 55, 56, 57]) (v := .str (mkS [48, 49, 50, 51, 52, 53, 54, 55, 56, 57])) h ⟨t, rfl⟩ (fun _ _ => rfl))) rfl))))) SimPs.nil rfl) (by decide +kernel)))))))
  (simB_one (sim_ret sim_bl))
  simB_nil)
  (simB_one (sim_ret (sim_or (sim_cmp (op_eqD (un_ok hr)) ru_eq.e (sim_ev (sim_callB call_len ru_len.e T.n_len (SimPs.cons (sim_pk 0) SimPs.nil rfl) (by decide +kernel))) (sim_ev sim_int) rfl) (sim_one (sim_cmp (op_neD (un_ok hr)) ru_ne.e (sim_ev (sim_ix ix_seq ru_ix.e (sim_pk 0) (sim_ev sim_int))) (sim_ev (sim_str rfl)) rfl))))))

abbrev s_parts_of_text : Stmt := top 54
def b_parts_of_text : M VI.Flow := (sSeq (sAsg 1 (eM1 bSplit (eVar 0) (eC (.str [32]))))
  (sSeq (sIf (tOr (tB (bi bLt [.ev (bi bLen [.pk 1]), .ev (eC (.int 5))])) (tOr (tB (bi bNe [.ev (bi bIx [.pk 1, .ev (bi bNeg [.ev (eC (.int 1))])]), .ev (bi bIx [.pk 1, .ev (eC (.int 1))])])) (tOr (tB (bi bNe [.ev (bi bSlH [.ev (bi bIx [.pk 1, .ev (bi bNeg [.ev (eC (.int 2))])]), .ev (eC (.int 1))]), .ev (eC (.str [35]))])) (tNot (tE (eCall f_is_stamp_text [.ev (bi bIx [.pk 1, .ev (eC (.int 1))])]))))))
  (sRet (eC .non))
  sPass)
  (sRet (eTup [(bi bIx [.pk 1, .ev (eC (.int 0))]), (bi bInt2 [.ev (bi bIx [.pk 1, .ev (eC (.int 1))])]), (eM1 bJoin (eC (.str [32])) (bi bSlB [.pk 1, .ev (mInt (eC (.int 2))), .ev (bi bNeg [.ev (eC (.int 2))])]))]))))
def f_parts_of_text : List Slot → FOut := runFn 2 b_parts_of_text
theorem sc_parts_of_text : FnScope ["text", "words"] ["text"] (defScope s_parts_of_text) := ⟨rfl, rfl, rfl, by decide +kernel, rfl, by decide +kernel, by decide +kernel⟩
theorem ok_parts_of_text {f : Addr} {fd : FuncData} (F : Fun c.K "parts_of_text" "parts_of_text" s_parts_of_text f fd) (T : Txt mg) (d_is_stamp_text : DefF P w c mg base "is_stamp_text" 1 f_is_stamp_text 1) : FnG P w c.K mg base 2 f fd ["text"] (spF c 1 f_parts_of_text) :=
  have S := sc_parts_of_text
  fn_vi F S rfl rfl fun cdv A outer s H E hr => (simB_cons (sim_asg (sim_split (sim_var 0) (sim_str rfl)) S.nd)
  (simB_cons (sim_if (simT_W (simW_or (sim_tcmp op_lt2 ru_lt.e (sim_ev (sim_callB call_len ru_len.e T.n_len (SimPs.cons (sim_pk 1) SimPs.nil rfl) (by decide +kernel))) (sim_ev sim_int) rfl) (simW_or (sim_tcmp (op_neD (un_ok hr)) ru_ne.e (sim_ev (sim_ix ix_seq ru_ix.e (sim_pk 1) (sim_ev (sim_un un_neg ru_neg.e (sim_ev sim_int))))) (sim_ev (sim_ix ix_seq ru_ix.e (sim_pk 1) (sim_ev sim_int))) rfl) (simW_or (sim_tcmp (op_neD (un_ok hr)) ru_ne.e (sim_ev (sim_slH rfl (sim_ev (sim_ix ix_seq ru_ix.e (sim_pk 1) (sim_ev (sim_un un_neg ru_neg.e (sim_ev sim_int))))) (sim_ev sim_int))) (sim_ev (sim_str rfl)) rfl) (simW_or1 (simT_not (sim_tE rfl (sim_call (d_is_stamp_text.at hr (by decide)) (SimAs.cons (sim_argE (sim_ix ix_seq ru_ix.e (sim_pk 1) (sim_ev sim_int))) SimAs.nil)))))))))
  (simB_one (sim_ret sim_non))
  simB_nil)
  (simB_one (sim_ret (sim_tup (simL_cons (sim_ix ix_seq ru_ix.e (sim_pk 1) (sim_ev sim_int)) (simL_cons (sim_callTy call_int2 ru_int2'.e T.n_int (SimPs.cons (sim_ev (sim_ix ix_seq ru_ix.e (sim_pk 1) (sim_ev sim_int))) SimPs.nil rfl) (by decide +kernel)) (simL_cons (sim_join rfl (sim_str rfl) (sim_slB rfl (sim_pk 1) sim_int (sim_un un_neg ru_neg.e (sim_ev sim_int)))) simL_nil))) rfl)))))

abbrev s_integer_of : Stmt := top 50
def b_integer_of : M VI.Flow := (sSeq (sAsg 1 (eIf (tB (bi bEq [.ev (bi bSlH [.pk 0, .ev (eC (.int 1))]), .ev (eC (.str [45]))])) (bi bSlL [.pk 0, .ev (eC (.int 1))]) (eVar 0)))
  (sSeq (sIf (tOr (tNot (tB (eChain bLe bLe (eC (.int 1)) (bi bLen [.pk 1]) (eC (.int 40))))) (tNot (tE (bi bAll [.ev (eComp [2] (iEv (eVar 1)) (asg (.one 2)) (mret true) (bi bIn [.pk 2, .ev (eC (.str [48, 49, 50, 51, 52, 53, 54, 55, 56, 57]))]))]))))
  (sRet (eC .non))
  sPass)
  (sRet (eIf (tB (bi bEq [.ev (bi bStrI [.ev (bi bInt2 [.pk 0])]), .pk 0])) (bi bInt2 [.pk 0]) (eC .non)))))
def f_integer_of : List Slot → FOut := runFn 3 b_integer_of
theorem sc_integer_of : FnScope ["text", "digits", "sign"] ["text"] (defScope s_integer_of) := ⟨rfl, rfl, rfl, by decide +kernel, rfl, by decide +kernel, by decide +kernel⟩
theorem ok_integer_of {f : Addr} {fd : FuncData} (F : Fun c.K "integer_of" "integer_of" s_integer_of f fd) (T : Txt mg)  : FnG P w c.K mg base 1 f fd ["text"] (spF c 1 f_integer_of) :=
  have S := sc_integer_of
  fn_vi F S rfl rfl fun cdv A outer s H E hr => (simB_cons (sim_asg (sim_ifE (sim_tcmp (op_eqD (un_ok hr)) ru_eq.e (sim_ev (sim_slH rfl (sim_pk 0) (sim_ev sim_int))) (sim_ev (sim_str rfl)) rfl) (sim_slL rfl (sim_pk 0) (sim_ev sim_int)) (sim_var 0)) S.nd)
  (simB_cons (sim_if (simT_W (simW_or (simT_not (simT_chain op_le2 op_le2 ru_le ru_le sim_int (sim_callB call_len ru_len.e T.n_len (SimPs.cons (sim_pk 1) SimPs.nil rfl) (by decide +kernel)) sim_int)) (simW_or1 (simT_not (sim_tE rfl (sim_callB (cr_all rfl) ru_all.e T.n_all (SimPs.cons (sim_ev (SimO.toE (sim_comp (own := [("sign", 2)]) rfl S.nd (simI_ev (sim_K (sim_var 1))) (blkOk_by rfl) (by decide) (fun _ _ _ _ _ => (simG_one S.nd)) (fun _ _ _ _ _ => simTs_nil) (fun _ _ _ _ _ => (sim_cmp op_in2 ru_in.e (sim_pk 2) (sim_ev (T.g_DIGITS.elim fun t h => sim_gl (w := .str [48, 49, 50, 51, 52, 53, 54, 55, 56, 57]) (v := .str (mkS [48, 49, 50, 51, 52, 53, 54, 55, 56, 57])) h ⟨t, rfl⟩ (fun _ _ => rfl))) rfl))))) SimPs.nil rfl) (by decide +kernel)))))))
  (simB_one (sim_ret sim_non))
  simB_nil)
  (simB_one (sim_ret (sim_ifE (sim_tcmp (op_eqD (un_ok hr)) ru_eq.e (sim_ev (sim_callTy call_str_int ru_strI.e T.n_str (SimPs.cons (sim_ev (sim_callTy call_int2 ru_int2'.e T.n_int (SimPs.cons (sim_pk 0) SimPs.nil rfl) (by decide +kernel))) SimPs.nil rfl) (by decide +kernel))) (sim_pk 0) rfl) (sim_callTy call_int2 ru_int2'.e T.n_int (SimPs.cons (sim_pk 0) SimPs.nil rfl) (by decide +kernel)) sim_non)))))

abbrev s_row_of_text : Stmt := top 51
def b_row_of_text : M VI.Flow := (sSeq (sIf (tOr (tB (bi bNe [.ev (bi bSlL [.pk 0, .ev (bi bNeg [.ev (eC (.int 1))])]), .ev (eC (.str [41]))])) (tB (bi bNotInD [.ev (eC (.str [40])), .pk 0])))
  (sRet (eC .non))
  sPass)
  (sSeq (sUnp (.many [(.one 1), (.one 2)]) (eM2 bSplitM (bi bSlH [.pk 0, .ev (bi bNeg [.ev (eC (.int 1))])]) (eC (.str [40])) (eC (.int 1))))
  (sSeq (sAsg 3 (eIf (tB (bi bEq [.pk 2, .ev (eC (.str []))])) (eLst []) (eComp [4] (iEv (eM1 bSplit (eVar 2) (eC (.str [44, 32])))) (asg (.one 4)) (mret true) (eCall f_integer_of [.ev (eVar 4)]))))
  (sSeq (sAsg 5 (eTupG (lCons (eVar 1) (lStar (eVar 3) (exps [])))))
  (sRet (eIf (tAnd (tB (bi bNotInD [.ev (eC .non), .pk 3])) (tE (eCall f_is_row [.ev (eVar 5)]))) (eVar 5) (eC .non)))))))
def f_row_of_text : List Slot → FOut := runFn 6 b_row_of_text
theorem sc_row_of_text : FnScope ["text", "name", "rest", "numbers", "part", "row"] ["text"] (defScope s_row_of_text) := ⟨rfl, rfl, rfl, by decide +kernel, rfl, by decide +kernel, by decide +kernel⟩
theorem ok_row_of_text {f : Addr} {fd : FuncData} (F : Fun c.K "row_of_text" "row_of_text" s_row_of_text f fd) (T : Txt mg) (d_integer_of : DefF P w c mg base "integer_of" 1 f_integer_of 1) (d_is_row : DefF P w c mg base "is_row" 1 f_is_row 3) : FnG P w c.K mg base 4 f fd ["text"] (spF c 1 f_row_of_text) :=
  have S := sc_row_of_text
  fn_vi F S rfl rfl fun cdv A outer s H E hr => (simB_cons (sim_if (simT_W (simW_or (sim_tcmp (op_neD (un_ok hr)) ru_ne.e (sim_ev (sim_slL rfl (sim_pk 0) (sim_ev (sim_un un_neg ru_neg.e (sim_ev sim_int))))) (sim_ev (sim_str rfl)) rfl) (simW_or1 (sim_tcmp (op_notin3 rfl (un_ok hr)) ru_notinD.e (sim_ev (sim_str rfl)) (sim_pk 0) rfl))))
  (simB_one (sim_ret sim_non))
  simB_nil)
  (simB_cons (sim_unp (sim_splitM rfl (sim_slH rfl (sim_pk 0) (sim_ev (sim_un un_neg ru_neg.e (sim_ev sim_int)))) (simL_cons (sim_str rfl) (simL_cons sim_int simL_nil))) (simG_tup rfl rfl (simGs_cons (simG_one S.nd) (simGs_cons (simG_one S.nd) simGs_nil))))
  (simB_cons (sim_asg (sim_ifE (sim_tcmp (op_eqD (un_ok hr)) ru_eq.e (sim_pk 2) (sim_ev (sim_str rfl)) rfl) (SimO.toE (sim_lst simL_nil)) (SimO.toE (sim_comp (own := [("part", 4)]) rfl S.nd (simI_ev (sim_K (sim_split (sim_var 2) (sim_str rfl)))) (blkOk_by rfl) (by decide) (fun _ _ _ _ _ => (simG_one S.nd)) (fun _ _ _ _ _ => simTs_nil) (fun _ _ _ _ _ => (sim_call (d_integer_of.at hr (by decide)) (SimAs.cons (sim_argE (sim_var 4)) SimAs.nil)))))) S.nd)
  (simB_cons (sim_asg (sim_tupG (simL_consG (sim_var 1) (simL_star rfl (sim_var 3) simL_nil))) S.nd)
  (simB_one (sim_ret (sim_ifE (simT_W (simW_and (sim_tcmp (op_notin3 rfl (un_ok hr)) ru_notinD.e (sim_ev sim_non) (sim_pk 3) rfl) (simW_and1 (sim_tE rfl (sim_call (d_is_row.at hr (by decide)) (SimAs.cons (sim_argE (sim_var 5)) SimAs.nil)))))) (sim_var 5) sim_non)))))))

abbrev s_rows_of_text : Stmt := top 52
def b_rows_of_text : M VI.Flow := (sSeq (sIf (tB (bi bEq [.pk 0, .ev (eC (.str [101, 109, 112, 116, 121]))]))
  (sRet (eTup []))
  sPass)
  (sSeq (sAsgO 1 (eComp [2] (iEv (eM1 bSplit (eVar 0) (eC (.str [59, 32])))) (asg (.one 2)) (mret true) (eCall f_row_of_text [.ev (eVar 2)])))
  (sRet (eIf (tB (bi bInD [.ev (eC .non), .pk 1])) (eC .non) (bi bTuple [.pk 1])))))
def f_rows_of_text : List Slot → FOut := runFn 3 b_rows_of_text
theorem sc_rows_of_text : FnScope ["text", "found", "part"] ["text"] (defScope s_rows_of_text) := ⟨rfl, rfl, rfl, by decide +kernel, rfl, by decide +kernel, by decide +kernel⟩
theorem ok_rows_of_text {f : Addr} {fd : FuncData} (F : Fun c.K "rows_of_text" "rows_of_text" s_rows_of_text f fd) (T : Txt mg) (d_row_of_text : DefF P w c mg base "row_of_text" 1 f_row_of_text 4) : FnG P w c.K mg base 5 f fd ["text"] (spF c 1 f_rows_of_text) :=
  have S := sc_rows_of_text
  fn_vi F S rfl rfl fun cdv A outer s H E hr => (simB_cons (sim_if (sim_tcmp (op_eqD (un_ok hr)) ru_eq.e (sim_pk 0) (sim_ev (T.g_NO_ROWS.elim fun t h => sim_gl (w := .str [101, 109, 112, 116, 121]) (v := .str (mkS [101, 109, 112, 116, 121])) h ⟨t, rfl⟩ (fun _ _ => rfl))) rfl)
  (simB_one (sim_ret (sim_tup simL_nil rfl)))
  simB_nil)
  (simB_cons (sim_asgC (i := 1) (own := [("part", 2)]) rfl S.nd (simI_ev (sim_K (sim_split (sim_var 0) (T.g_BETWEEN_ROWS.elim fun t h => sim_gl (w := .str [59, 32]) (v := .str (mkS [59, 32])) h ⟨t, rfl⟩ (fun _ _ => rfl))))) (blkOk_by rfl) (by decide) (fun _ _ _ _ _ => (simG_one S.nd)) (fun _ _ _ _ _ => simTs_nil) (fun _ _ _ _ _ => (sim_call (d_row_of_text.at hr (by decide)) (SimAs.cons (sim_argE (sim_var 2)) SimAs.nil))))
  (simB_one (sim_ret (sim_ifE (sim_tcmp (op_in3 rfl (un_ok hr)) ru_inD.e (sim_ev sim_non) (sim_pk 1) rfl) sim_non (sim_callTy call_tuple_of ru_tuple T.n_tuple (SimPs.cons (sim_pk 1) SimPs.nil rfl) (by decide +kernel)))))))

abbrev s_branch_of : Stmt := top 53
def b_branch_of : M VI.Flow := (sSeq (sIf (tB (bi bNe [.ev (eM1 bCount (eVar 1) (eC (.str [32, 58, 32]))), .ev (eC (.int 1))]))
  (sRet (eC .non))
  sPass)
  (sSeq (sUnp (.many [(.one 2), (.one 3)]) (eM1 bSplit (eVar 1) (eC (.str [32, 58, 32]))))
  (sSeq (sPair 4 5 (eM1 bSplit (eVar 2) (eC (.str [44]))) (eCall f_rows_of_text [.ev (eVar 3)]))
  (sSeq (sIf (tOr (tB (bi bIs [.pk 5, .ev (eC .non)])) (tNot (tE (bi bAll [.ev (eComp [6] (iEv (eVar 4)) (asg (.one 6)) (mret true) (eCall f_is_stamp_text [.ev (eVar 6)]))]))))
  (sRet (eC .non))
  sPass)
  (sRet (eTup [(eC (.str [98, 114, 97, 110, 99, 104])), (eVar 0), (eVar 5), (bi bTuple [.ev (eComp [6] (iEv (eVar 4)) (asg (.one 6)) (mret true) (bi bInt2 [.pk 6]))])]))))))
def f_branch_of : List Slot → FOut := runFn 7 b_branch_of
theorem sc_branch_of : FnScope ["stamp", "body", "left", "right", "kids", "firsts", "kid"] ["stamp", "body"] (defScope s_branch_of) := ⟨rfl, rfl, rfl, by decide +kernel, rfl, by decide +kernel, by decide +kernel⟩
theorem ok_branch_of {f : Addr} {fd : FuncData} (F : Fun c.K "branch_of" "branch_of" s_branch_of f fd) (T : Txt mg) (d_rows_of_text : DefF P w c mg base "rows_of_text" 1 f_rows_of_text 5) (d_is_stamp_text : DefF P w c mg base "is_stamp_text" 1 f_is_stamp_text 1) : FnG P w c.K mg base 6 f fd ["stamp", "body"] (spF c 2 f_branch_of) :=
  have S := sc_branch_of
  fn_vi F S rfl rfl fun cdv A outer s H E hr => (simB_cons (sim_if (sim_tcmp (op_neD (un_ok hr)) ru_ne.e (sim_ev (sim_count (sim_var 1) (T.g_BETWEEN_PARTS.elim fun t h => sim_gl (w := .str [32, 58, 32]) (v := .str (mkS [32, 58, 32])) h ⟨t, rfl⟩ (fun _ _ => rfl)))) (sim_ev sim_int) rfl)
  (simB_one (sim_ret sim_non))
  simB_nil)
  (simB_cons (sim_unp (sim_split (sim_var 1) (T.g_BETWEEN_PARTS.elim fun t h => sim_gl (w := .str [32, 58, 32]) (v := .str (mkS [32, 58, 32])) h ⟨t, rfl⟩ (fun _ _ => rfl))) (simG_tup rfl rfl (simGs_cons (simG_one S.nd) (simGs_cons (simG_one S.nd) simGs_nil))))
  (simB_cons (sim_pair (i := 4) (j := 5) rfl S.nd rfl rfl (by decide) (simL_cons (sim_split (sim_var 2) (sim_str rfl)) (simL_cons (sim_call (d_rows_of_text.at hr (by decide)) (SimAs.cons (sim_argE (sim_var 3)) SimAs.nil)) simL_nil)))
  (simB_cons (sim_if (simT_W (simW_or (sim_tcmp op_is2 ru_is.e (sim_pk 5) (sim_ev sim_non) rfl) (simW_or1 (simT_not (sim_tE rfl (sim_callB (cr_all rfl) ru_all.e T.n_all (SimPs.cons (sim_ev (SimO.toE (sim_comp (own := [("kid", 6)]) rfl S.nd (simI_ev (sim_K (sim_var 4))) (blkOk_by rfl) (by decide) (fun _ _ _ _ _ => (simG_one S.nd)) (fun _ _ _ _ _ => simTs_nil) (fun _ _ _ _ _ => (sim_call (d_is_stamp_text.at hr (by decide)) (SimAs.cons (sim_argE (sim_var 6)) SimAs.nil)))))) SimPs.nil rfl) (by decide +kernel)))))))
  (simB_one (sim_ret sim_non))
  simB_nil)
  (simB_one (sim_ret (sim_tup (simL_cons (T.g_BRANCH.elim fun t h => sim_gl (w := .str [98, 114, 97, 110, 99, 104]) (v := .str (mkS [98, 114, 97, 110, 99, 104])) h ⟨t, rfl⟩ (fun _ _ => rfl)) (simL_cons (sim_var 0) (simL_cons (sim_var 5) (simL_cons (sim_callTy call_tuple_of ru_tuple T.n_tuple (SimPs.cons (sim_ev (SimO.toE (sim_comp (own := [("kid", 6)]) rfl S.nd (simI_ev (sim_K (sim_var 4))) (blkOk_by rfl) (by decide) (fun _ _ _ _ _ => (simG_one S.nd)) (fun _ _ _ _ _ => simTs_nil) (fun _ _ _ _ _ => (sim_callTy call_int2 ru_int2'.e T.n_int (SimPs.cons (sim_pk 6) SimPs.nil rfl) (by decide +kernel)))))) SimPs.nil rfl) (by decide +kernel)) simL_nil)))) rfl)))))))

abbrev s_page_of_text : Stmt := top 55
def b_page_of_text : M VI.Flow := (sSeq (sAsgO 1 (eCallO f_parts_of_text [.ev (eVar 0)]))
  (sSeq (sIf (tB (bi bIs [.pk 1, .ev (eC .non)]))
  (sRet (eC .non))
  sPass)
  (sSeq (sUnp (.many [(.one 2), (.one 3), (.one 4)]) (eVar 1))
  (sSeq (sAsg 5 (eC .non))
  (sSeq (sIf (tB (bi bEq [.pk 2, .ev (eC (.str [98, 114, 97, 110, 99, 104]))]))
  (sAsgO 5 (eCallO f_branch_of [.ev (eVar 3), .ev (eVar 4)]))
  (sIf (tAnd (tB (bi bIn [.pk 2, .ev (eTup [(eC (.str [98, 117, 99, 107, 101, 116])), (eC (.str [108, 101, 97, 102]))])])) (tB (bi bIsNot [.ev (eCall f_rows_of_text [.ev (eVar 4)]), .ev (eC .non)])))
  (sAsg 5 (eTup [(eVar 2), (eVar 3), (eCall f_rows_of_text [.ev (eVar 4)])]))
  sPass))
  (sRet (eIf (tAnd (tB (bi bIsNot [.pk 5, .ev (eC .non)])) (tAnd (tE (eCall f_is_page [.ev (eVar 5)])) (tB (bi bEq [.ev (eCall f_text_of_page [.ev (eVar 5)]), .pk 0])))) (eVar 5) (eC .non))))))))
def f_page_of_text : List Slot → FOut := runFn 6 b_page_of_text
theorem sc_page_of_text : FnScope ["text", "parts", "kind", "stamp", "body", "page"] ["text"] (defScope s_page_of_text) := ⟨rfl, rfl, rfl, by decide +kernel, rfl, by decide +kernel, by decide +kernel⟩
theorem ok_page_of_text {f : Addr} {fd : FuncData} (F : Fun c.K "page_of_text" "page_of_text" s_page_of_text f fd) (T : Txt mg) (d_parts_of_text : DefF P w c mg base "parts_of_text" 1 f_parts_of_text 2) (d_branch_of : DefF P w c mg base "branch_of" 2 f_branch_of 6) (d_rows_of_text : DefF P w c mg base "rows_of_text" 1 f_rows_of_text 5) (d_is_page : DefF P w c mg base "is_page" 1 f_is_page 5) (d_text_of_page : DefF P w c mg base "text_of_page" 1 f_text_of_page 5) : FnG P w c.K mg base 7 f fd ["text"] (spF c 1 f_page_of_text) :=
  have S := sc_page_of_text
  fn_vi F S rfl rfl fun cdv A outer s H E hr => (simB_cons (sim_asgO (sim_callO (d_parts_of_text.at hr (by decide)) (SimAs.cons (sim_argE (sim_var 0)) SimAs.nil)) S.nd)
  (simB_cons (sim_if (sim_tcmp op_is2 ru_is.e (sim_pk 1) (sim_ev sim_non) rfl)
  (simB_one (sim_ret sim_non))
  simB_nil)
  (simB_cons (sim_unp (sim_var 1) (simG_tup rfl rfl (simGs_cons (simG_one S.nd) (simGs_cons (simG_one S.nd) (simGs_cons (simG_one S.nd) simGs_nil)))))
  (simB_cons (sim_asg sim_non S.nd)
  (simB_cons (sim_if (sim_tcmp (op_eqD (un_ok hr)) ru_eq.e (sim_pk 2) (sim_ev (T.g_BRANCH.elim fun t h => sim_gl (w := .str [98, 114, 97, 110, 99, 104]) (v := .str (mkS [98, 114, 97, 110, 99, 104])) h ⟨t, rfl⟩ (fun _ _ => rfl))) rfl)
  (simB_one (sim_asgO (sim_callO (d_branch_of.at hr (by decide)) (SimAs.cons (sim_argE (sim_var 3)) (SimAs.cons (sim_argE (sim_var 4)) SimAs.nil))) S.nd))
  (simB_one (sim_if (simT_W (simW_and (sim_tcmp op_in2 ru_in.e (sim_pk 2) (sim_ev (sim_tup (simL_cons (T.g_BUCKET.elim fun t h => sim_gl (w := .str [98, 117, 99, 107, 101, 116]) (v := .str (mkS [98, 117, 99, 107, 101, 116])) h ⟨t, rfl⟩ (fun _ _ => rfl)) (simL_cons (T.g_LEAF.elim fun t h => sim_gl (w := .str [108, 101, 97, 102]) (v := .str (mkS [108, 101, 97, 102])) h ⟨t, rfl⟩ (fun _ _ => rfl)) simL_nil)) rfl)) rfl) (simW_and1 (sim_tcmp op_isnot2 ru_isnot.e (sim_ev (sim_call (d_rows_of_text.at hr (by decide)) (SimAs.cons (sim_argE (sim_var 4)) SimAs.nil))) (sim_ev sim_non) rfl))))
  (simB_one (sim_asg (sim_tup (simL_cons (sim_var 2) (simL_cons (sim_var 3) (simL_cons (sim_call (d_rows_of_text.at hr (by decide)) (SimAs.cons (sim_argE (sim_var 4)) SimAs.nil)) simL_nil))) rfl) S.nd))
  simB_nil)))
  (simB_one (sim_ret (sim_ifE (simT_W (simW_and (sim_tcmp op_isnot2 ru_isnot.e (sim_pk 5) (sim_ev sim_non) rfl) (simW_and (sim_tE rfl (sim_call (d_is_page.at hr (by decide)) (SimAs.cons (sim_argE (sim_var 5)) SimAs.nil))) (simW_and1 (sim_tcmp (op_eqD (un_ok hr)) ru_eq.e (sim_ev (sim_call (d_text_of_page.at hr (by decide)) (SimAs.cons (sim_argE (sim_var 5)) SimAs.nil))) (sim_pk 0) rfl))))) (sim_var 5) sim_non))))))))

abbrev s_read_page : Stmt := top 64
def b_read_page : M VI.Flow := (sSeq (sAsg 1 (eIf (tE (bi bIsT [.pk 0, .ev (eC (.cls .str))])) (eCall f_page_of_text [.ev (eVar 0)]) (eC .non)))
  (sSeq (sIf (tB (bi bIs [.pk 1, .ev (eC .non)]))
  (sRaise 4 (eC .non))
  sPass)
  (sRetV 1)))
def f_read_page : List Slot → FOut := runFn 2 b_read_page
theorem sc_read_page : FnScope ["text", "page"] ["text"] (defScope s_read_page) := ⟨rfl, rfl, rfl, by decide +kernel, rfl, by decide +kernel, by decide +kernel⟩
theorem ok_read_page {f : Addr} {fd : FuncData} (F : Fun c.K "read_page" "read_page" s_read_page f fd) (T : Txt mg) (d_page_of_text : DefF P w c mg base "page_of_text" 1 f_page_of_text 7)(e_ParseError : ExMK c mg "ParseError" 4) : FnG P w c.K mg base 8 f fd ["text"] (spF c 1 f_read_page) :=
  have S := sc_read_page
  fn_vi F S rfl rfl fun cdv A outer s H E hr => (simB_cons (sim_asg (sim_ifE (sim_tE rfl (sim_callB call_isiZ ru_isT.e T.n_isinstance (SimPs.cons (sim_pk 0) (SimPs.cons (sim_ev (sim_cls (t := .str) T.n_str (by decide +kernel))) SimPs.nil rfl) rfl) (by decide +kernel))) (sim_call (d_page_of_text.at hr (by decide)) (SimAs.cons (sim_argE (sim_var 0)) SimAs.nil)) sim_non) S.nd)
  (simB_cons (sim_if (sim_tcmp op_is2 ru_is.e (sim_pk 1) (sim_ev sim_non) rfl)
  (simB_one (sim_raiseM e_ParseError.at))
  simB_nil)
  (simB_one (sim_retV 1))))

abbrev s_is_short_text : Stmt := top 60
def b_is_short_text : M VI.Flow := (sRet (eAnd (bi bIsT [.pk 0, .ev (eC (.cls .str))]) (eAnd (bi bLe [.ev (bi bLen [.pk 0]), .ev (eC (.int 10000))]) (eM0 bAscii (eVar 0)))))
def f_is_short_text : List Slot → FOut := runFn 1 b_is_short_text
theorem sc_is_short_text : FnScope ["value"] ["value"] (defScope s_is_short_text) := ⟨rfl, rfl, rfl, by decide +kernel, rfl, by decide +kernel, by decide +kernel⟩
theorem ok_is_short_text {f : Addr} {fd : FuncData} (F : Fun c.K "is_short_text" "is_short_text" s_is_short_text f fd) (T : Txt mg)  : FnG P w c.K mg base 1 f fd ["value"] (spF c 1 f_is_short_text) :=
  have S := sc_is_short_text
  fn_vi F S rfl rfl fun cdv A outer s H E hr => (simB_one (sim_ret (sim_and (sim_callB call_isiZ ru_isT.e T.n_isinstance (SimPs.cons (sim_pk 0) (SimPs.cons (sim_ev (sim_cls (t := .str) T.n_str (by decide +kernel))) SimPs.nil rfl) rfl) (by decide +kernel)) (sim_and (sim_cmp op_le2 ru_le.e (sim_ev (sim_callB call_len ru_len.e T.n_len (SimPs.cons (sim_pk 0) SimPs.nil rfl) (by decide +kernel))) (sim_ev (T.g_MOST_SIGNS.elim fun t h => sim_gl (w := .int 10000) (v := .int 10000) h ⟨t, rfl⟩ (fun _ _ => rfl))) rfl) (sim_one (sim_ascii (sim_var 0)))))))

abbrev s_require_short_text : Stmt := top 62
def b_require_short_text : M VI.Flow := (sIf (tNot (tE (eCall f_is_short_text [.ev (eVar 0)])))
  (sRaise 4 (eC .non))
  sPass)
def f_require_short_text : List Slot → FOut := runFn 1 b_require_short_text
theorem sc_require_short_text : FnScope ["text"] ["text"] (defScope s_require_short_text) := ⟨rfl, rfl, rfl, by decide +kernel, rfl, by decide +kernel, by decide +kernel⟩
theorem ok_require_short_text {f : Addr} {fd : FuncData} (F : Fun c.K "require_short_text" "require_short_text" s_require_short_text f fd) (T : Txt mg) (d_is_short_text : DefF P w c mg base "is_short_text" 1 f_is_short_text 1)(e_ParseError : ExMK c mg "ParseError" 4) : FnG P w c.K mg base 2 f fd ["text"] (spF c 1 f_require_short_text) :=
  have S := sc_require_short_text
  fn_vi F S rfl rfl fun cdv A outer s H E hr => (simB_one (sim_if (simT_not (sim_tE rfl (sim_call (d_is_short_text.at hr (by decide)) (SimAs.cons (sim_argE (sim_var 0)) SimAs.nil))))
  (simB_one (sim_raiseM e_ParseError.at))
  simB_nil))

abbrev s_check_number : Stmt := top 65
def b_check_number : M VI.Flow := (sSeq (sExpr (eCall f_require_short_text [.ev (eVar 0)]))
  (sRet (eCall f_check_in [.ev (eVar 0)])))
def f_check_number : List Slot → FOut := runFn 1 b_check_number
theorem sc_check_number : FnScope ["text"] ["text"] (defScope s_check_number) := ⟨rfl, rfl, rfl, by decide +kernel, rfl, by decide +kernel, by decide +kernel⟩
theorem ok_check_number {f : Addr} {fd : FuncData} (F : Fun c.K "check_number" "check_number" s_check_number f fd) (T : Txt mg) (d_require_short_text : DefF P w c mg base "require_short_text" 1 f_require_short_text 2) (d_check_in : DefF P w c mg base "check_in" 1 f_check_in 1) : FnG P w c.K mg base 3 f fd ["text"] (spF c 1 f_check_number) :=
  have S := sc_check_number
  fn_vi F S rfl rfl fun cdv A outer s H E hr => (simB_cons (sim_expr (sim_call (d_require_short_text.at hr (by decide)) (SimAs.cons (sim_argE (sim_var 0)) SimAs.nil)))
  (simB_one (sim_ret (sim_call (d_check_in.at hr (by decide)) (SimAs.cons (sim_argE (sim_var 0)) SimAs.nil)))))

abbrev s_torn : Stmt := top 66
def b_torn : M VI.Flow := (sSeq (sExpr (eCall f_require_short_text [.ev (eVar 0)]))
  (sSeq (sExpr (eCall f_require_short_text [.ev (eVar 1)]))
  (sSeq (sIf (tNot (tE (eCall f_is_between [.ev (eVar 2), .ev (eC (.int 0)), .ev (bi bLen [.pk 0])])))
  (sRaise 5 (eVar 2))
  sPass)
  (sRet (bi bAdd [.ev (bi bSlH [.pk 0, .pk 2]), .ev (bi bSlL [.pk 1, .pk 2])])))))
def f_torn : List Slot → FOut := runFn 3 b_torn
theorem sc_torn : FnScope ["text", "other", "at"] ["text", "other", "at"] (defScope s_torn) := ⟨rfl, rfl, rfl, by decide +kernel, rfl, by decide +kernel, by decide +kernel⟩
theorem ok_torn {f : Addr} {fd : FuncData} (F : Fun c.K "torn" "torn" s_torn f fd) (T : Txt mg) (d_require_short_text : DefF P w c mg base "require_short_text" 1 f_require_short_text 2) (d_is_between : DefF P w c mg base "is_between" 3 f_is_between 2)(e_InvalidNumber : ExFK c mg "InvalidNumber" 5) : FnG P w c.K mg base 3 f fd ["text", "other", "at"] (spF c 3 f_torn) :=
  have S := sc_torn
  fn_vi F S rfl rfl fun cdv A outer s H E hr => (simB_cons (sim_expr (sim_call (d_require_short_text.at hr (by decide)) (SimAs.cons (sim_argE (sim_var 0)) SimAs.nil)))
  (simB_cons (sim_expr (sim_call (d_require_short_text.at hr (by decide)) (SimAs.cons (sim_argE (sim_var 1)) SimAs.nil)))
  (simB_cons (sim_if (simT_not (sim_tE rfl (sim_call (d_is_between.at hr (by decide)) (SimAs.cons (sim_argE (sim_var 2)) (SimAs.cons (sim_argE sim_int) (SimAs.cons (sim_argE (sim_callB call_len ru_len.e T.n_len (SimPs.cons (sim_pk 0) SimPs.nil rfl) (by decide +kernel))) SimAs.nil))))))
  (simB_one (sim_raiseF (e_InvalidNumber.at hr) (sim_var 2)))
  simB_nil)
  (simB_one (sim_ret (sim_bin op_add4 ru_add (sim_ev (sim_slH rfl (sim_pk 0) (sim_pk 2))) (sim_ev (sim_slL rfl (sim_pk 1) (sim_pk 2)))))))))

abbrev s_require_row : Stmt := top 19
def b_require_row : M VI.Flow := (sIf (tNot (tE (eCall f_is_row [.ev (eVar 0)])))
  (sRaise 1 (eC .non))
  sPass)
def f_require_row : List Slot → FOut := runFn 1 b_require_row
theorem sc_require_row : FnScope ["row"] ["row"] (defScope s_require_row) := ⟨rfl, rfl, rfl, by decide +kernel, rfl, by decide +kernel, by decide +kernel⟩
theorem ok_require_row {f : Addr} {fd : FuncData} (F : Fun c.K "require_row" "require_row" s_require_row f fd) (T : Txt mg) (d_is_row : DefF P w c mg base "is_row" 1 f_is_row 3)(e_InvalidRow : ExMK c mg "InvalidRow" 1) : FnG P w c.K mg base 4 f fd ["row"] (spF c 1 f_require_row) :=
  have S := sc_require_row
  fn_vi F S rfl rfl fun cdv A outer s H E hr => (simB_one (sim_if (simT_not (sim_tE rfl (sim_call (d_is_row.at hr (by decide)) (SimAs.cons (sim_argE (sim_var 0)) SimAs.nil))))
  (simB_one (sim_raiseM e_InvalidRow.at))
  simB_nil))

abbrev s_bucket_in : Stmt := top 45
def b_bucket_in : M VI.Flow := (sRet (bi bMod [.ev (eCall f_check_in [.ev (eCall f_pattern_text [.ev (eVar 0)])]), .pk 1]))
def f_bucket_in : List Slot → FOut := runFn 2 b_bucket_in
theorem sc_bucket_in : FnScope ["row", "many"] ["row", "many"] (defScope s_bucket_in) := ⟨rfl, rfl, rfl, by decide +kernel, rfl, by decide +kernel, by decide +kernel⟩
theorem ok_bucket_in {f : Addr} {fd : FuncData} (F : Fun c.K "bucket_in" "bucket_in" s_bucket_in f fd) (T : Txt mg) (d_check_in : DefF P w c mg base "check_in" 1 f_check_in 1) (d_pattern_text : DefF P w c mg base "pattern_text" 1 f_pattern_text 2) : FnG P w c.K mg base 3 f fd ["row", "many"] (spF c 2 f_bucket_in) :=
  have S := sc_bucket_in
  fn_vi F S rfl rfl fun cdv A outer s H E hr => (simB_one (sim_ret (sim_bin op_mod ru_mod.e (sim_ev (sim_call (d_check_in.at hr (by decide)) (SimAs.cons (sim_argE (sim_call (d_pattern_text.at hr (by decide)) (SimAs.cons (sim_argE (sim_var 0)) SimAs.nil))) SimAs.nil))) (sim_pk 1))))

abbrev s_bucket_of : Stmt := top 67
def b_bucket_of : M VI.Flow := (sSeq (sExpr (eCall f_require_row [.ev (eVar 0)]))
  (sSeq (sIf (tNot (tE (eCall f_is_between [.ev (eVar 1), .ev (eC (.int 2)), .ev (eC (.int 8))])))
  (sRaise 5 (eVar 1))
  sPass)
  (sRet (eCall f_bucket_in [.ev (eVar 0), .ev (eVar 1)]))))
def f_bucket_of : List Slot → FOut := runFn 2 b_bucket_of
theorem sc_bucket_of : FnScope ["row", "many"] ["row", "many"] (defScope s_bucket_of) := ⟨rfl, rfl, rfl, by decide +kernel, rfl, by decide +kernel, by decide +kernel⟩
theorem ok_bucket_of {f : Addr} {fd : FuncData} (F : Fun c.K "bucket_of" "bucket_of" s_bucket_of f fd) (T : Txt mg) (d_require_row : DefF P w c mg base "require_row" 1 f_require_row 4) (d_is_between : DefF P w c mg base "is_between" 3 f_is_between 2) (d_bucket_in : DefF P w c mg base "bucket_in" 2 f_bucket_in 3)(e_InvalidNumber : ExFK c mg "InvalidNumber" 5) : FnG P w c.K mg base 5 f fd ["row", "many"] (spF c 2 f_bucket_of) :=
  have S := sc_bucket_of
  fn_vi F S rfl rfl fun cdv A outer s H E hr => (simB_cons (sim_expr (sim_call (d_require_row.at hr (by decide)) (SimAs.cons (sim_argE (sim_var 0)) SimAs.nil)))
  (simB_cons (sim_if (simT_not (sim_tE rfl (sim_call (d_is_between.at hr (by decide)) (SimAs.cons (sim_argE (sim_var 1)) (SimAs.cons (sim_argE (T.g_LEAST_BUCKETS.elim fun t h => sim_gl (w := .int 2) (v := .int 2) h ⟨t, rfl⟩ (fun _ _ => rfl))) (SimAs.cons (sim_argE (T.g_MOST_BUCKETS.elim fun t h => sim_gl (w := .int 8) (v := .int 8) h ⟨t, rfl⟩ (fun _ _ => rfl))) SimAs.nil))))))
  (simB_one (sim_raiseF (e_InvalidNumber.at hr) (sim_var 1)))
  simB_nil)
  (simB_one (sim_ret (sim_call (d_bucket_in.at hr (by decide)) (SimAs.cons (sim_argE (sim_var 0)) (SimAs.cons (sim_argE (sim_var 1)) SimAs.nil)))))))

abbrev s__law_right : Stmt := top 73
def b__law_right : M VI.Flow := (sSeq (sAsgO 1 (eLst [(eC .non), (eC (.int 0)), (eTup []), (eC (.str [98, 117, 99, 107, 101, 116])), (eLst [(eC (.str [98, 117, 99, 107, 101, 116])), (eC (.int 0)), (eTup [])]), (eTup [(eC (.str [98, 117, 99, 107, 101, 116])), (eC (.int 0))]), (eTup [(eC (.str [98, 117, 99, 107, 101, 116])), (bi bNeg [.ev (eC (.int 1))]), (eTup [])]), (eTup [(eC (.str [98, 117, 99, 107, 101, 116])), (eC (.bl true)), (eTup [])]), (eTup [(eC (.str [98, 117, 99, 107, 101, 116])), (bi bAdd [.ev (bi bPow [.ev (eC (.int 10)), .ev (eC (.int 9))]), .ev (eC (.int 1))]), (eTup [])]), (eTup [(eC (.str [112, 97, 103, 101])), (eC (.int 0)), (eTup [])]), (eTup [(eC (.str [108, 101, 97, 102])), (eC (.int 0)), (eTup [(eTup [(eC (.str [116])), (eC (.int 2))]), (eTup [(eC (.str [116])), (eC (.int 1))])])]), (eTup [(eC (.str [108, 101, 97, 102])), (eC (.int 0)), (eTup [(eTup [(eC (.str [116])), (eC (.int 1))]), (eTup [(eC (.str [116])), (eC (.int 1))])])]), (eTup [(eC (.str [108, 101, 97, 102])), (eC (.int 0)), (eTup [(eTup [(eC (.str [116])), (eC (.bl true))])])])]))
  (sSeq (sAsg 1 (bi bAdd [.pk 1, .ev (eLst [(eTup [(eC (.str [98, 114, 97, 110, 99, 104])), (eC (.int 0)), (eTup []), (eTup [(eC (.int 1))])]), (eTup [(eC (.str [98, 114, 97, 110, 99, 104])), (eC (.int 0)), (eTup [(eTup [(eC (.str [116]))])]), (eTup [(eC (.int 1)), (eC (.int 1))])]), (eTup [(eC (.str [98, 114, 97, 110, 99, 104])), (eC (.int 0)), (eTup [(eTup [(eC (.str [116]))])]), (eTup [(eC (.int 1)), (eC (.int 2)), (eC (.int 3))])]), (eTup [(eC (.str [98, 114, 97, 110, 99, 104])), (eC (.int 0)), (eTup [(eTup [(eC (.str [116]))])]), (eTup [(eC (.int 1)), (eC (.int 1000))])]), (eTup [(eC (.str [98, 114, 97, 110, 99, 104])), (eC (.int 0)), (eTup [(eTup [(eC (.str [116]))])]), (eLst [(eC (.int 1)), (eC (.int 2))])]), (eTup [(eC (.str [108, 101, 97, 102])), (eC (.int 0)), (eTup []), (eTup [])]), (eC (.dct [] [])), (eTup [(eC (.str [108, 101, 97, 102])), (eC (.int 0)), (bi bTuple [.ev (eComp [2] (iRange1 (eC (.int 61))) (asg (.one 2)) (mret true) (eTup [(eC (.str [116])), (eVar 2)]))])])])]))
  (sSeq (sAsg 1 (eCall f__law_choose [.lend 0, .ev (eVar 1)]))
  (sSeq (sAsg 3 (eCall f__law_choose [.lend 0, .ev (eLst [(eC .non), (eC (.int 0)), (eTup []), (eLst []), (eC (.dct [] [])), (eC (.bl true)), (eTup [(eC (.str [116, 40, 41]))])])]))
  (sSeq (sAsgO 4 (eLst [(eC (.str [])), (eC (.str [98, 117, 99, 107, 101, 116, 32, 48, 32, 101, 109, 112, 116, 121, 32, 35, 57, 57, 48, 57])), (eC (.str [98, 117, 99, 107, 101, 116, 32, 48, 32, 101, 109, 112, 116, 121, 32, 35, 57, 57, 48, 56, 32, 48])), (eC (.str [98, 117, 99, 107, 101, 116, 32, 48, 48, 32, 101, 109, 112, 116, 121, 32, 35, 57, 57, 48, 57, 32, 48, 48])), (eC (.str [108, 101, 97, 102, 32, 48, 32, 101, 109, 112, 116, 121, 32, 35, 57, 57, 48, 57, 32, 48])), (eC (.str [98, 117, 99, 107, 101, 116, 32, 48, 32, 32, 35, 49, 32, 48])), (eC (.str [98, 117, 99, 107, 101, 116, 32, 48, 32, 101, 109, 112, 116, 121, 32, 35, 57, 57, 48, 57, 32, 48, 32])), (eC (.str [32, 98, 117, 99, 107, 101, 116, 32, 48, 32, 101, 109, 112, 116, 121, 32, 35, 57, 57, 48, 57, 32, 48])), (eC (.str [98, 117, 99, 107, 101, 116, 32, 48, 32, 101, 109, 112, 116, 121, 32, 35, 48, 57, 57, 48, 57, 32, 48])), (eC (.str [66, 85, 67, 75, 69, 84, 32, 48, 32, 101, 109, 112, 116, 121, 32, 35, 57, 57, 48, 57, 32, 48]))]))
  (sSeq (sAsg 4 (eCall f__law_choose [.lend 0, .ev (bi bAdd [.pk 4, .ev (eLst [(eC .non), (eC (.int 7)), (eLst []), (eTup [(eC (.str [98, 117, 99, 107, 101, 116, 32, 48, 32, 101, 109, 112, 116, 121, 32, 35, 57, 57, 48, 57, 32, 48]))])])])]))
  (sSeq (sAsg 5 (eCall f__law_choose [.lend 0, .ev (eLst [(bi bMulB [.ev (eC (.str [97])), .ev (eC (.int 10001))]), (bi bMulB [.ev (eC (.str [116, 40, 41])), .ev (eC (.int 4000))])])]))
  (sSeq (sAsg 6 (eCall f__law_choose [.lend 0, .ev (eLst [(eC .non), (eC (.int 0)), (eTup []), (eTup [(eC (.str [84]))]), (eTup [(eC (.str [116])), (eC (.bl true))]), (eTup [(eC (.str [116])), (eC (.str [120]))]), (eLst [(eC (.str [116]))]), (eC (.str [116])), (eTup [(eC (.str [116])), (eC (.int 1)), (eC (.int 2)), (eC (.int 3)), (eC (.int 4))]), (eTup [(bi bMulB [.ev (eC (.str [116])), .ev (eC (.int 9))])]), (eC (.dct [] [])), (eTup [(eC (.str [116])), (eC .non)])])]))
  (sSeq (sAsg 7 (eCall f__law_choose [.lend 0, .ev (eLst [(eC .non), (eC (.int 1)), (eC (.int 9)), (bi bNeg [.ev (eC (.int 1))]), (eC (.int 0)), (eC (.bl true)), (eC (.str [50])), (eTup [(eC (.int 2))]), (eLst []), (bi bPow [.ev (eC (.int 10)), .ev (eC (.int 30))])])]))
  (sSeq (sAsg 2 (eCall f__law_choose [.lend 0, .ev (eLst [(eC .non), (bi bNeg [.ev (eC (.int 1))]), (eC (.int 4)), (eC (.bl true)), (eC (.str [48])), (eTup [(eC (.int 0))]), (eLst []), (bi bPow [.ev (eC (.int 10)), .ev (eC (.int 30))])])]))
  (sSeq (sAsgO 8 (eLst []))
  (sSeq (sApp 8 (eMetS told subT hs_met (eCall f_page_text [.ev (eVar 1)])))
  (sSeq (sApp 8 (eMetS told subT hs_met (eCall f_read_page [.ev (eVar 4)])))
  (sSeq (sApp 8 (eMetS told subT hs_met (eCall f_check_number [.ev (eVar 3)])))
  (sSeq (sApp 8 (eMetS told subT hs_met (eCall f_check_number [.ev (eVar 5)])))
  (sSeq (sApp 8 (eMetS told subT hs_met (eCall f_torn [.ev (eVar 3), .ev (eVar 3), .ev (eVar 2)])))
  (sSeq (sApp 8 (eMetS told subT hs_met (eCall f_torn [.ev (eVar 5), .ev (eC (.str [98])), .ev (eVar 2)])))
  (sSeq (sApp 8 (eMetS told subT hs_met (eCall f_torn [.ev (eC (.str [97, 98, 99])), .ev (eVar 3), .ev (eVar 2)])))
  (sSeq (sApp 8 (eMetS told subT hs_met (eCall f_torn [.ev (eC (.str [97, 98, 99])), .ev (eVar 5), .ev (eVar 2)])))
  (sSeq (sApp 8 (eMetS told subT hs_met (eCall f_torn [.ev (eC (.str [97, 98, 99])), .ev (eC (.str [98])), .ev (eVar 2)])))
  (sSeq (sApp 8 (eMetS told subT hs_met (eCall f_bucket_of [.ev (eVar 6), .ev (eVar 7)])))
  (sSeq (sApp 8 (eMetS told subT hs_met (eCall f_bucket_of [.ev (eTup [(eC (.str [116]))]), .ev (eVar 7)])))
  (sRet (bi bEq [.pk 8, .ev (eLst [(eC (.str [111, 112, 101, 114, 97, 116, 105, 111, 110])), (eC (.str [112, 97, 114, 115, 101])), (eC (.str [112, 97, 114, 115, 101])), (eC (.str [112, 97, 114, 115, 101])), (eC (.str [112, 97, 114, 115, 101])), (eC (.str [112, 97, 114, 115, 101])), (eC (.str [112, 97, 114, 115, 101])), (eC (.str [112, 97, 114, 115, 101])), (eTup [(eC (.str [110, 117, 109, 98, 101, 114])), (bi bRepr [.pk 2])]), (eC (.str [114, 111, 119])), (eTup [(eC (.str [110, 117, 109, 98, 101, 114])), (bi bRepr [.pk 7])])])]))))))))))))))))))))))))
def f__law_right : List Slot → FOut := runFn 9 b__law_right
theorem sc__law_right : FnScope ["bag", "page", "at", "text", "line", "long", "row", "many", "told"] ["bag"] (defScope s__law_right) := ⟨rfl, rfl, rfl, by decide +kernel, rfl, by decide +kernel, by decide +kernel⟩
theorem ok__law_right {f cc PP : Addr} {oc : Value} {od an : Option Addr} {kV doc pm ct : Value} {osl : Array (Option Value)} (lk : c.K.lookup f = some ⟨oc, od, .func (PySem.W.fnOf "_law_right" "_law_right" (defArgs s__law_right) (defBody s__law_right) (defScope s__law_right) .none kV doc pm an (.ref cc) ct), osl⟩) (hcd : PySem.W.codeIn c.K (.ref cc) "_law_right" = true) (T : Txt mg) (M : MetF c mg) (TB : LamX.TabB base mg cc PP)
    (hmT : (PP, ("_law_right" : Str) ++ ".<locals>." ++ "<lambda>") ∈ c.T) (hu : ∀ p ∈ c.T, p.1 = PP → p.2 = ("_law_right" : Str) ++ ".<locals>." ++ "<lambda>") (d__law_choose : DefF P w c mg base "_law_choose" 2 f__law_choose 2) (d_page_text : DefF P w c mg base "page_text" 1 f_page_text 7) (d_read_page : DefF P w c mg base "read_page" 1 f_read_page 8) (d_check_number : DefF P w c mg base "check_number" 1 f_check_number 3) (d_torn : DefF P w c mg base "torn" 3 f_torn 3) (d_bucket_of : DefF P w c mg base "bucket_of" 2 f_bucket_of 5) : FnG P w c.K mg base 11 f (PySem.W.fnOf "_law_right" "_law_right" (defArgs s__law_right) (defBody s__law_right) (defScope s__law_right) .none kV doc pm an (.ref cc) ct) ["bag"] (spF c 1 f__law_right) :=
  have S := sc__law_right
  fn_viC lk hcd S rfl rfl fun A outer s H E hr => (simB_cons (sim_asgO (sim_lst (simL_cons sim_non (simL_cons sim_int (simL_cons (sim_tup simL_nil rfl) (simL_cons (sim_str rfl) (simL_cons (SimO.toE (sim_lst (simL_cons (sim_str rfl) (simL_cons sim_int (simL_cons (sim_tup simL_nil rfl) simL_nil))))) (simL_cons (sim_tup (simL_cons (sim_str rfl) (simL_cons sim_int simL_nil)) rfl) (simL_cons (sim_tup (simL_cons (sim_str rfl) (simL_cons (sim_un un_neg ru_neg.e (sim_ev sim_int)) (simL_cons (sim_tup simL_nil rfl) simL_nil))) rfl) (simL_cons (sim_tup (simL_cons (sim_str rfl) (simL_cons sim_bl (simL_cons (sim_tup simL_nil rfl) simL_nil))) rfl) (simL_cons (sim_tup (simL_cons (sim_str rfl) (simL_cons (sim_bin op_add4 ru_add (sim_ev (sim_bin op_powB ru_pow.e (sim_ev sim_int) (sim_ev sim_int))) (sim_ev sim_int)) (simL_cons (sim_tup simL_nil rfl) simL_nil))) rfl) (simL_cons (sim_tup (simL_cons (sim_str rfl) (simL_cons sim_int (simL_cons (sim_tup simL_nil rfl) simL_nil))) rfl) (simL_cons (sim_tup (simL_cons (sim_str rfl) (simL_cons sim_int (simL_cons (sim_tup (simL_cons (sim_tup (simL_cons (sim_str rfl) (simL_cons sim_int simL_nil)) rfl) (simL_cons (sim_tup (simL_cons (sim_str rfl) (simL_cons sim_int simL_nil)) rfl) simL_nil)) rfl) simL_nil))) rfl) (simL_cons (sim_tup (simL_cons (sim_str rfl) (simL_cons sim_int (simL_cons (sim_tup (simL_cons (sim_tup (simL_cons (sim_str rfl) (simL_cons sim_int simL_nil)) rfl) (simL_cons (sim_tup (simL_cons (sim_str rfl) (simL_cons sim_int simL_nil)) rfl) simL_nil)) rfl) simL_nil))) rfl) (simL_cons (sim_tup (simL_cons (sim_str rfl) (simL_cons sim_int (simL_cons (sim_tup (simL_cons (sim_tup (simL_cons (sim_str rfl) (simL_cons sim_bl simL_nil)) rfl) simL_nil) rfl) simL_nil))) rfl) simL_nil)))))))))))))) S.nd)
  (simB_cons (sim_asg (sim_bin op_add4 ru_add (sim_pk 1) (sim_ev (SimO.toE (sim_lst (simL_cons (sim_tup (simL_cons (sim_str rfl) (simL_cons sim_int (simL_cons (sim_tup simL_nil rfl) (simL_cons (sim_tup (simL_cons sim_int simL_nil) rfl) simL_nil)))) rfl) (simL_cons (sim_tup (simL_cons (sim_str rfl) (simL_cons sim_int (simL_cons (sim_tup (simL_cons (sim_tup (simL_cons (sim_str rfl) simL_nil) rfl) simL_nil) rfl) (simL_cons (sim_tup (simL_cons sim_int (simL_cons sim_int simL_nil)) rfl) simL_nil)))) rfl) (simL_cons (sim_tup (simL_cons (sim_str rfl) (simL_cons sim_int (simL_cons (sim_tup (simL_cons (sim_tup (simL_cons (sim_str rfl) simL_nil) rfl) simL_nil) rfl) (simL_cons (sim_tup (simL_cons sim_int (simL_cons sim_int (simL_cons sim_int simL_nil))) rfl) simL_nil)))) rfl) (simL_cons (sim_tup (simL_cons (sim_str rfl) (simL_cons sim_int (simL_cons (sim_tup (simL_cons (sim_tup (simL_cons (sim_str rfl) simL_nil) rfl) simL_nil) rfl) (simL_cons (sim_tup (simL_cons sim_int (simL_cons sim_int simL_nil)) rfl) simL_nil)))) rfl) (simL_cons (sim_tup (simL_cons (sim_str rfl) (simL_cons sim_int (simL_cons (sim_tup (simL_cons (sim_tup (simL_cons (sim_str rfl) simL_nil) rfl) simL_nil) rfl) (simL_cons (SimO.toE (sim_lst (simL_cons sim_int (simL_cons sim_int simL_nil)))) simL_nil)))) rfl) (simL_cons (sim_tup (simL_cons (sim_str rfl) (simL_cons sim_int (simL_cons (sim_tup simL_nil rfl) (simL_cons (sim_tup simL_nil rfl) simL_nil)))) rfl) (simL_cons (SimO.toE sim_dict0) (simL_cons (sim_tup (simL_cons (sim_str rfl) (simL_cons sim_int (simL_cons (sim_callTy call_tuple_of ru_tuple T.n_tuple (SimPs.cons (sim_ev (SimO.toE (sim_comp (own := [("at", 2)]) rfl S.nd (simI_range1 T.n_range sim_int) (blkOk_by rfl) (by decide) (fun _ _ _ _ _ => (simG_one S.nd)) (fun _ _ _ _ _ => simTs_nil) (fun _ _ _ _ _ => (sim_tup (simL_cons (sim_str rfl) (simL_cons (sim_var 2) simL_nil)) rfl))))) SimPs.nil rfl) (by decide +kernel)) simL_nil))) rfl) simL_nil)))))))))))) S.nd)
  (simB_cons (sim_asg (sim_call (d__law_choose.at hr (by decide)) (SimAs.cons (sim_argL 0) (SimAs.cons (sim_argE (sim_var 1)) SimAs.nil))) S.nd)
  (simB_cons (sim_asg (sim_call (d__law_choose.at hr (by decide)) (SimAs.cons (sim_argL 0) (SimAs.cons (sim_argE (SimO.toE (sim_lst (simL_cons sim_non (simL_cons sim_int (simL_cons (sim_tup simL_nil rfl) (simL_cons (SimO.toE (sim_lst simL_nil)) (simL_cons (SimO.toE sim_dict0) (simL_cons sim_bl (simL_cons (sim_tup (simL_cons (sim_str rfl) simL_nil) rfl) simL_nil)))))))))) SimAs.nil))) S.nd)
  (simB_cons (sim_asgO (sim_lst (simL_cons (sim_str rfl) (simL_cons (sim_str rfl) (simL_cons (sim_str rfl) (simL_cons (sim_str rfl) (simL_cons (sim_str rfl) (simL_cons (sim_str rfl) (simL_cons (sim_str rfl) (simL_cons (sim_str rfl) (simL_cons (sim_str rfl) (simL_cons (sim_str rfl) simL_nil))))))))))) S.nd)
  (simB_cons (sim_asg (sim_call (d__law_choose.at hr (by decide)) (SimAs.cons (sim_argL 0) (SimAs.cons (sim_argE (sim_bin op_add4 ru_add (sim_pk 4) (sim_ev (SimO.toE (sim_lst (simL_cons sim_non (simL_cons sim_int (simL_cons (SimO.toE (sim_lst simL_nil)) (simL_cons (sim_tup (simL_cons (sim_str rfl) simL_nil) rfl) simL_nil))))))))) SimAs.nil))) S.nd)
  (simB_cons (sim_asg (sim_call (d__law_choose.at hr (by decide)) (SimAs.cons (sim_argL 0) (SimAs.cons (sim_argE (SimO.toE (sim_lst (simL_cons (sim_bin op_mulB ru_mulB (sim_ev (sim_str rfl)) (sim_ev sim_int)) (simL_cons (sim_bin op_mulB ru_mulB (sim_ev (sim_str rfl)) (sim_ev sim_int)) simL_nil))))) SimAs.nil))) S.nd)
  (simB_cons (sim_asg (sim_call (d__law_choose.at hr (by decide)) (SimAs.cons (sim_argL 0) (SimAs.cons (sim_argE (SimO.toE (sim_lst (simL_cons sim_non (simL_cons sim_int (simL_cons (sim_tup simL_nil rfl) (simL_cons (sim_tup (simL_cons (sim_str rfl) simL_nil) rfl) (simL_cons (sim_tup (simL_cons (sim_str rfl) (simL_cons sim_bl simL_nil)) rfl) (simL_cons (sim_tup (simL_cons (sim_str rfl) (simL_cons (sim_str rfl) simL_nil)) rfl) (simL_cons (SimO.toE (sim_lst (simL_cons (sim_str rfl) simL_nil))) (simL_cons (sim_str rfl) (simL_cons (sim_tup (simL_cons (sim_str rfl) (simL_cons sim_int (simL_cons sim_int (simL_cons sim_int (simL_cons sim_int simL_nil))))) rfl) (simL_cons (sim_tup (simL_cons (sim_bin op_mulB ru_mulB (sim_ev (sim_str rfl)) (sim_ev sim_int)) simL_nil) rfl) (simL_cons (SimO.toE sim_dict0) (simL_cons (sim_tup (simL_cons (sim_str rfl) (simL_cons sim_non simL_nil)) rfl) simL_nil))))))))))))))) SimAs.nil))) S.nd)
  (simB_cons (sim_asg (sim_call (d__law_choose.at hr (by decide)) (SimAs.cons (sim_argL 0) (SimAs.cons (sim_argE (SimO.toE (sim_lst (simL_cons sim_non (simL_cons sim_int (simL_cons sim_int (simL_cons (sim_un un_neg ru_neg.e (sim_ev sim_int)) (simL_cons sim_int (simL_cons sim_bl (simL_cons (sim_str rfl) (simL_cons (sim_tup (simL_cons sim_int simL_nil) rfl) (simL_cons (SimO.toE (sim_lst simL_nil)) (simL_cons (sim_bin op_powB ru_pow.e (sim_ev sim_int) (sim_ev sim_int)) simL_nil))))))))))))) SimAs.nil))) S.nd)
  (simB_cons (sim_asg (sim_call (d__law_choose.at hr (by decide)) (SimAs.cons (sim_argL 0) (SimAs.cons (sim_argE (SimO.toE (sim_lst (simL_cons sim_non (simL_cons (sim_un un_neg ru_neg.e (sim_ev sim_int)) (simL_cons sim_int (simL_cons sim_bl (simL_cons (sim_str rfl) (simL_cons (sim_tup (simL_cons sim_int simL_nil) rfl) (simL_cons (SimO.toE (sim_lst simL_nil)) (simL_cons (sim_bin op_powB ru_pow.e (sim_ev sim_int) (sim_ev sim_int)) simL_nil))))))))))) SimAs.nil))) S.nd)
  (simB_cons (sim_asgO (sim_lst simL_nil) S.nd)
  (simB_cons (sim_app 8 (met rfl M TB rfl hmT hu hr (LamX.lamS_by rfl) (fun A outer s H E f c' hr => (sim_call (d_page_text.at hr (by decide)) (SimAs.cons (sim_argE (sim_var 1)) SimAs.nil))) rfl (by intros; rfl)))
  (simB_cons (sim_app 8 (met rfl M TB rfl hmT hu hr (LamX.lamS_by rfl) (fun A outer s H E f c' hr => (sim_call (d_read_page.at hr (by decide)) (SimAs.cons (sim_argE (sim_var 4)) SimAs.nil))) rfl (by intros; rfl)))
  (simB_cons (sim_app 8 (met rfl M TB rfl hmT hu hr (LamX.lamS_by rfl) (fun A outer s H E f c' hr => (sim_call (d_check_number.at hr (by decide)) (SimAs.cons (sim_argE (sim_var 3)) SimAs.nil))) rfl (by intros; rfl)))
  (simB_cons (sim_app 8 (met rfl M TB rfl hmT hu hr (LamX.lamS_by rfl) (fun A outer s H E f c' hr => (sim_call (d_check_number.at hr (by decide)) (SimAs.cons (sim_argE (sim_var 5)) SimAs.nil))) rfl (by intros; rfl)))
  (simB_cons (sim_app 8 (met rfl M TB rfl hmT hu hr (LamX.lamS_by rfl) (fun A outer s H E f c' hr => (sim_call (d_torn.at hr (by decide)) (SimAs.cons (sim_argE (sim_var 3)) (SimAs.cons (sim_argE (sim_var 3)) (SimAs.cons (sim_argE (sim_var 2)) SimAs.nil))))) rfl (by intros; rfl)))
  (simB_cons (sim_app 8 (met rfl M TB rfl hmT hu hr (LamX.lamS_by rfl) (fun A outer s H E f c' hr => (sim_call (d_torn.at hr (by decide)) (SimAs.cons (sim_argE (sim_var 5)) (SimAs.cons (sim_argE (sim_str rfl)) (SimAs.cons (sim_argE (sim_var 2)) SimAs.nil))))) rfl (by intros; rfl)))
  (simB_cons (sim_app 8 (met rfl M TB rfl hmT hu hr (LamX.lamS_by rfl) (fun A outer s H E f c' hr => (sim_call (d_torn.at hr (by decide)) (SimAs.cons (sim_argE (sim_str rfl)) (SimAs.cons (sim_argE (sim_var 3)) (SimAs.cons (sim_argE (sim_var 2)) SimAs.nil))))) rfl (by intros; rfl)))
  (simB_cons (sim_app 8 (met rfl M TB rfl hmT hu hr (LamX.lamS_by rfl) (fun A outer s H E f c' hr => (sim_call (d_torn.at hr (by decide)) (SimAs.cons (sim_argE (sim_str rfl)) (SimAs.cons (sim_argE (sim_var 5)) (SimAs.cons (sim_argE (sim_var 2)) SimAs.nil))))) rfl (by intros; rfl)))
  (simB_cons (sim_app 8 (met rfl M TB rfl hmT hu hr (LamX.lamS_by rfl) (fun A outer s H E f c' hr => (sim_call (d_torn.at hr (by decide)) (SimAs.cons (sim_argE (sim_str rfl)) (SimAs.cons (sim_argE (sim_str rfl)) (SimAs.cons (sim_argE (sim_var 2)) SimAs.nil))))) rfl (by intros; rfl)))
  (simB_cons (sim_app 8 (met rfl M TB rfl hmT hu hr (LamX.lamS_by rfl) (fun A outer s H E f c' hr => (sim_call (d_bucket_of.at hr (by decide)) (SimAs.cons (sim_argE (sim_var 6)) (SimAs.cons (sim_argE (sim_var 7)) SimAs.nil)))) rfl (by intros; rfl)))
  (simB_cons (sim_app 8 (met rfl M TB rfl hmT hu hr (LamX.lamS_by rfl) (fun A outer s H E f c' hr => (sim_call (d_bucket_of.at hr (by decide)) (SimAs.cons (sim_argE (sim_tup (simL_cons (sim_str rfl) simL_nil) rfl)) (SimAs.cons (sim_argE (sim_var 7)) SimAs.nil)))) rfl (by intros; rfl)))
  (simB_one (sim_ret (sim_cmp (op_eqD (un_ok hr)) ru_eq.e (sim_pk 8) (sim_ev (SimO.toE (sim_lst (simL_cons (sim_str rfl) (simL_cons (sim_str rfl) (simL_cons (sim_str rfl) (simL_cons (sim_str rfl) (simL_cons (sim_str rfl) (simL_cons (sim_str rfl) (simL_cons (sim_str rfl) (simL_cons (sim_str rfl) (simL_cons (sim_tup (simL_cons (sim_str rfl) (simL_cons (sim_callB (call_reprW (c := c) rfl hr.gd (un_ok hr)) ru_repr.e T.n_repr (SimPs.cons (sim_pk 2) SimPs.nil rfl) (by decide +kernel)) simL_nil)) rfl) (simL_cons (sim_str rfl) (simL_cons (sim_tup (simL_cons (sim_str rfl) (simL_cons (sim_callB (call_reprW (c := c) rfl hr.gd (un_ok hr)) ru_repr.e T.n_repr (SimPs.cons (sim_pk 7) SimPs.nil rfl) (by decide +kernel)) simL_nil)) rfl) simL_nil)))))))))))))) rfl)))))))))))))))))))))))))

abbrev s_law : Stmt := top 74
def b_law : M VI.Flow := (sSeq (sFor (iRange1 (bi bMax2 [.ev (eC (.int 1)), .ev (bi bMin2 [.ev (eC (.int 4)), .ev (bi bLen [.pk 0])])])) (asg (.one 1))
  (sSeq (sAsgO 2 (eCallO f__law_bag [.ev (eVar 0), .ev (eVar 1)]))
  (sIf (tOr (tNot (tE (eCall f__law_right [.lend 2]))) (tNot (tE (eCall f__law_right [.lend 2]))))
  (sRet (eC (.bl false)))
  sPass)))
  (sSeq (sAsg 3 (bi bTuple [.ev (eComp [4] (iRange1 (eC (.int 61))) (asg (.one 4)) (mret true) (eTup [(eC (.str [116])), (eVar 4)]))]))
  (sSeq (sFor (iEv (eTup [(eC (.int 13)), (eC (.int 14)), (eC (.int 40)), (eC (.int 59)), (eC (.int 60))])) (asg (.one 5))
  (sSeq (sAsg 6 (eTup [(bi bIx [.ev (eLst [(eC (.str [98, 117, 99, 107, 101, 116])), (eC (.str [108, 101, 97, 102]))]), .ev (bi bMod [.pk 5, .ev (eC (.int 2))])]), (eVar 5), (bi bSlL [.pk 3, .ev (bi bSub [.ev (eC (.int 61)), .pk 5])])]))
  (sIf (tB (bi bNe [.ev (eCall f_read_page [.ev (eCall f_page_text [.ev (eVar 6)])]), .pk 6]))
  (sRet (eC (.bl false)))
  sPass)))
  (sSeq (sIf (tB (bi bNe [.ev (eComp [7] (iEv (eTup [(eC (.str [98, 117, 99, 107, 101, 116])), (eC (.str [108, 101, 97, 102]))])) (asg (.one 7)) (mret true) (eMetS told subT hs_met (eCall f_page_text [.ev (eTup [(eVar 7), (eC (.int 5)), (eVar 3)])]))), .ev (bi bMulB [.ev (eLst [(eC (.str [111, 112, 101, 114, 97, 116, 105, 111, 110]))]), .ev (eC (.int 2))])]))
  (sRet (eC (.bl false)))
  sPass)
  (sSeq (sAsgO 8 (eLst [(eCall f_torn [.ev (eC (.str [97, 98, 99])), .ev (eC (.str [98])), .ev (eC (.int 3))]), (eCall f_torn [.ev (eC (.str [97, 98, 99])), .ev (eC (.str [120, 121, 122, 117, 118])), .ev (eC (.int 0))]), (eCall f_torn [.ev (eC (.str [])), .ev (eC (.str [97, 98])), .ev (eC (.int 0))]), (eCall f_check_number [.ev (eC (.str []))]), (bi bLt [.ev (eCall f_check_number [.ev (bi bMulB [.ev (eC (.str [97])), .ev (eC (.int 10000))])]), .ev (eC (.int 9973))])]))
  (sRet (eAnd (bi bEq [.pk 8, .ev (eLst [(eC (.str [97, 98, 99])), (eC (.str [120, 121, 122, 117, 118])), (eC (.str [97, 98])), (eC (.int 0)), (eC (.bl true))])]) (bi bEq [.ev (eCall f_read_page [.ev (eC (.str [98, 117, 99, 107, 101, 116, 32, 48, 32, 101, 109, 112, 116, 121, 32, 35, 57, 57, 48, 57, 32, 48]))]), .ev (eTup [(eC (.str [98, 117, 99, 107, 101, 116])), (eC (.int 0)), (eTup [])])]))))))))
def f_law : List Slot → FOut := runFn 9 b_law
theorem sc_law : FnScope ["script", "spot", "bag", "rows", "at", "many", "page", "word", "told"] ["script"] (defScope s_law) := ⟨rfl, rfl, rfl, by decide +kernel, rfl, by decide +kernel, by decide +kernel⟩
theorem ok_law {f cc PP : Addr} {oc : Value} {od an : Option Addr} {kV doc pm ct : Value} {osl : Array (Option Value)} (lk : c.K.lookup f = some ⟨oc, od, .func (PySem.W.fnOf "law" "law" (defArgs s_law) (defBody s_law) (defScope s_law) .none kV doc pm an (.ref cc) ct), osl⟩) (hcd : PySem.W.codeIn c.K (.ref cc) "law" = true) (T : Txt mg) (M : MetF c mg) (TB : LamX.TabB base mg cc PP)
    (hmT : (PP, ("law" : Str) ++ ".<locals>." ++ "<lambda>") ∈ c.T) (hu : ∀ p ∈ c.T, p.1 = PP → p.2 = ("law" : Str) ++ ".<locals>." ++ "<lambda>") (d__law_bag : DefF P w c mg base "_law_bag" 2 f__law_bag 1) (d__law_right : DefF P w c mg base "_law_right" 1 f__law_right 11) (d_read_page : DefF P w c mg base "read_page" 1 f_read_page 8) (d_page_text : DefF P w c mg base "page_text" 1 f_page_text 7) (d_check_number : DefF P w c mg base "check_number" 1 f_check_number 3) (d_torn : DefF P w c mg base "torn" 3 f_torn 3) : FnG P w c.K mg base 14 f (PySem.W.fnOf "law" "law" (defArgs s_law) (defBody s_law) (defScope s_law) .none kV doc pm an (.ref cc) ct) ["script"] (spF c 1 f_law) :=
  have S := sc_law
  fn_viC lk hcd S rfl rfl fun A outer s H E hr => (simB_cons (sim_for (passes_of rfl) rfl (simI_range1 T.n_range (sim_callB (call_max2 rfl) ru_max2.e T.n_max (SimPs.cons (sim_ev sim_int) (SimPs.cons (sim_ev (sim_callB (call_min2 rfl) ru_min2.e T.n_min (SimPs.cons (sim_ev sim_int) (SimPs.cons (sim_ev (sim_callB call_len ru_len.e T.n_len (SimPs.cons (sim_pk 0) SimPs.nil rfl) (by decide +kernel))) SimPs.nil rfl) rfl) (by decide +kernel))) SimPs.nil rfl) rfl) (by decide +kernel))) (simG_one S.nd)
  (simB_cons (sim_asgO (sim_callO (d__law_bag.at hr (by decide)) (SimAs.cons (sim_argE (sim_var 0)) (SimAs.cons (sim_argE (sim_var 1)) SimAs.nil))) S.nd)
  (simB_one (sim_if (simT_W (simW_or (simT_not (sim_tE rfl (sim_call (d__law_right.at hr (by decide)) (SimAs.cons (sim_argL 2) SimAs.nil)))) (simW_or1 (simT_not (sim_tE rfl (sim_call (d__law_right.at hr (by decide)) (SimAs.cons (sim_argL 2) SimAs.nil)))))))
  (simB_one (sim_ret sim_bl))
  simB_nil))))
  (simB_cons (sim_asg (sim_callTy call_tuple_of ru_tuple T.n_tuple (SimPs.cons (sim_ev (SimO.toE (sim_comp (own := [("at", 4)]) rfl S.nd (simI_range1 T.n_range sim_int) (blkOk_by rfl) (by decide) (fun _ _ _ _ _ => (simG_one S.nd)) (fun _ _ _ _ _ => simTs_nil) (fun _ _ _ _ _ => (sim_tup (simL_cons (sim_str rfl) (simL_cons (sim_var 4) simL_nil)) rfl))))) SimPs.nil rfl) (by decide +kernel)) S.nd)
  (simB_cons (sim_for (passes_of rfl) rfl (simI_ev (sim_K (sim_tup (simL_cons sim_int (simL_cons sim_int (simL_cons sim_int (simL_cons sim_int (simL_cons sim_int simL_nil))))) rfl))) (simG_one S.nd)
  (simB_cons (sim_asg (sim_tup (simL_cons (sim_ix ix_seq ru_ix.e (sim_ev (SimO.toE (sim_lst (simL_cons (sim_str rfl) (simL_cons (sim_str rfl) simL_nil))))) (sim_ev (sim_bin op_mod ru_mod.e (sim_pk 5) (sim_ev sim_int)))) (simL_cons (sim_var 5) (simL_cons (sim_slL rfl (sim_pk 3) (sim_ev (sim_bin op_sub ru_sub.e (sim_ev sim_int) (sim_pk 5)))) simL_nil))) rfl) S.nd)
  (simB_one (sim_if (sim_tcmp (op_neD (un_ok hr)) ru_ne.e (sim_ev (sim_call (d_read_page.at hr (by decide)) (SimAs.cons (sim_argE (sim_call (d_page_text.at hr (by decide)) (SimAs.cons (sim_argE (sim_var 6)) SimAs.nil))) SimAs.nil))) (sim_pk 6) rfl)
  (simB_one (sim_ret sim_bl))
  simB_nil))))
  (simB_cons (sim_if (sim_tcmp (op_neD (un_ok hr)) ru_ne.e (sim_ev (SimO.toE (sim_comp (own := [("word", 7)]) rfl S.nd (simI_ev (sim_K (sim_tup (simL_cons (sim_str rfl) (simL_cons (sim_str rfl) simL_nil)) rfl))) (blkOk_by rfl) (by decide) (fun _ _ _ _ _ => (simG_one S.nd)) (fun _ _ _ _ _ => simTs_nil) (fun _ _ _ _ _ => (met rfl M TB rfl hmT hu hr (LamX.lamS_by rfl) (fun A outer s H E f c' hr => (sim_call (d_page_text.at hr (by decide)) (SimAs.cons (sim_argE (sim_tup (simL_cons (sim_var 7) (simL_cons sim_int (simL_cons (sim_var 3) simL_nil))) rfl)) SimAs.nil))) rfl (by intros; rfl)))))) (sim_ev (sim_bin op_mulB ru_mulB (sim_ev (SimO.toE (sim_lst (simL_cons (sim_str rfl) simL_nil)))) (sim_ev sim_int))) rfl)
  (simB_one (sim_ret sim_bl))
  simB_nil)
  (simB_cons (sim_asgO (sim_lst (simL_cons (sim_call (d_torn.at hr (by decide)) (SimAs.cons (sim_argE (sim_str rfl)) (SimAs.cons (sim_argE (sim_str rfl)) (SimAs.cons (sim_argE sim_int) SimAs.nil)))) (simL_cons (sim_call (d_torn.at hr (by decide)) (SimAs.cons (sim_argE (sim_str rfl)) (SimAs.cons (sim_argE (sim_str rfl)) (SimAs.cons (sim_argE sim_int) SimAs.nil)))) (simL_cons (sim_call (d_torn.at hr (by decide)) (SimAs.cons (sim_argE (sim_str rfl)) (SimAs.cons (sim_argE (sim_str rfl)) (SimAs.cons (sim_argE sim_int) SimAs.nil)))) (simL_cons (sim_call (d_check_number.at hr (by decide)) (SimAs.cons (sim_argE (sim_str rfl)) SimAs.nil)) (simL_cons (sim_cmp op_lt2 ru_lt.e (sim_ev (sim_call (d_check_number.at hr (by decide)) (SimAs.cons (sim_argE (sim_bin op_mulB ru_mulB (sim_ev (sim_str rfl)) (sim_ev sim_int))) SimAs.nil))) (sim_ev sim_int) rfl) simL_nil)))))) S.nd)
  (simB_one (sim_ret (sim_and (sim_cmp (op_eqD (un_ok hr)) ru_eq.e (sim_pk 8) (sim_ev (SimO.toE (sim_lst (simL_cons (sim_str rfl) (simL_cons (sim_str rfl) (simL_cons (sim_str rfl) (simL_cons sim_int (simL_cons sim_bl simL_nil)))))))) rfl) (sim_one (sim_cmp (op_eqD (un_ok hr)) ru_eq.e (sim_ev (sim_call (d_read_page.at hr (by decide)) (SimAs.cons (sim_argE (sim_str rfl)) SimAs.nil))) (sim_ev (sim_tup (simL_cons (sim_str rfl) (simL_cons sim_int (simL_cons (sim_tup simL_nil rfl) simL_nil))) rfl)) rfl))))))))))

end
end Z
namespace Z
section
open VI
theorem vat_ok (ns : List Int) (i : Nat) (h : i < 1000) : ∃ w fin, isVat w ∧ f__law_bag [.fr false (.scr ns), .fr false (.int i)] = some (.ok (true, w) fin) := by
  have z : Gv (f__law_bag [.fr false (.scr ns), .fr false (.int i)]) fun o w fin => o = true ∧ isVat w := by
    by_cases hl : i < ns.length
    · simp [f__law_bag, b__law_bag, hl, v_ixS hl]; exact ⟨_, _, _, rfl⟩
    · simp [f__law_bag, b__law_bag, hl]; exact ⟨_, _, _, rfl⟩
  obtain ⟨_, w, fin, e, rfl, h⟩ := gv_eq z
  exact ⟨w, fin, h, e⟩
theorem dip_ok {v : W} {t : Int} (hv : isVat v) (h0 : 0 < t) (h : t < 1000000) : ∃ (f : Int) (v' : W), isVat v' ∧ 0 ≤ f ∧ f < t ∧ f__law_pull [.own true v, .fr false (.int t)] = some (.ok (false, .int f) [.own true v', .no]) := by
  have z : Gv (f__law_pull [.own true v, .fr false (.int t)]) fun o w fin => o = false ∧ ∃ f v', w = .int f ∧ fin = [.own true v', .no] ∧ isVat v' ∧ 0 ≤ f ∧ f < t := by
    obtain ⟨a, m, k, rfl⟩ := hv
    by_cases ha : 0 < a
    · simp [f__law_pull, b__law_pull, ha, bIx, ixN, h0, v_fdivI h0 (by omega : t < 1073741824), v_sRetV, free]
      exact ⟨⟨_, _, _, rfl⟩, Int.emod_nonneg _ (by omega), Int.emod_lt_of_pos _ h0⟩
    · have e : (m + 10001767 * (k + 1)) % 2305843009213693951 < 2305843009213693951 := Int.emod_lt_of_pos _ (by decide)
      have e' : 0 ≤ (m + 10001767 * (k + 1)) % 2305843009213693951 := Int.emod_nonneg _ (by decide)
      have e2 : ((m + 10001767 * (k + 1)) % 2305843009213693951).natAbs < 18446744073709551616 := by omega
      simp [f__law_pull, b__law_pull, ha, bIx, ixN, h0, e2, free]
      exact ⟨⟨_, _, _, rfl⟩, Int.emod_nonneg _ (by omega), Int.emod_lt_of_pos _ h0⟩
  obtain ⟨_, _, _, e, rfl, f, v', rfl, rfl, h1, h2, h3⟩ := gv_eq z
  exact ⟨f, v', h1, h2, h3, e⟩
theorem scoop_ok {v : W} {xs : List W} (hv : isVat v) (h0 : 0 < xs.length) (h : xs.length < 1000000) : ∃ o w v', w ∈ xs ∧ isVat v' ∧ f__law_choose [.own true v, .fr false (.lst xs)] = some (.ok (o, w) [.own true v', .no]) := by
  obtain ⟨f, v', h1, h2, h3, e⟩ := dip_ok (t := xs.length) hv (by omega) (by omega)
  have z := v_ixL' h2 h3
  refine ⟨false, xs[f.toNat]'(by omega), v', List.getElem_mem _, h1, ?_⟩
  simp [f__law_choose, b__law_choose, e, z, free]
def La : List Nat := (List.replicate (Int.toNat 10001) [97]).flatten
def Lb : List Nat := (List.replicate (Int.toNat 4000) [116, 40, 41]).flatten
def Lc : List Nat := (List.replicate (Int.toNat 10000) [97]).flatten
theorem la : bMulB [.str [97], .int 10001] = some (.str La) := v_repS (by decide) (by decide) (by decide)
theorem lb : bMulB [.str [116, 40, 41], .int 4000] = some (.str Lb) := v_repS (by decide) (by decide) (by decide)
theorem lc : bMulB [.str [97], .int 10000] = some (.str Lc) := v_repS (by decide) (by decide) (by decide)
theorem la_len : La.length = 10001 := by simp [La]
theorem lb_len : Lb.length = 12000 := by simp [Lb]
theorem lc_len : Lc.length = 10000 := by simp [Lc]
theorem lc_all : ∀ x ∈ Lc, x = 97 := by simp [Lc]
def isLong (w : W) : Prop := ∃ s : List Nat, w = .str s ∧ 10000 < s.length ∧ s.length ≤ 100000
theorem long_of {w : W} (h : w ∈ [W.str La, W.str Lb]) : isLong w := by
  simp only [List.mem_cons, List.not_mem_nil, or_false] at h
  rcases h with rfl | rfl
  · exact ⟨La, rfl, by rw [la_len]; decide, by rw [la_len]; decide⟩
  · exact ⟨Lb, rfl, by rw [lb_len]; decide, by rw [lb_len]; decide⟩
@[simp] theorem v_eAnd {a b : M W} {ss : Slots} : eAnd a b ss = mbd a (fun w => match w with | .bl true => b | .bl false => mret (.bl false) | _ => stuck) ss := rfl
theorem long_no {w : W} (h : isLong w) : f_require_short_text [.fr false w] = some (.exc 4 .non [.no]) := by
  obtain ⟨s, rfl, h1, h2⟩ := h
  have e1 : bLen [.str s] = some (.int s.length) := by unfold bLen; simp [h2]
  have e3 : f_is_short_text [.fr false (.str s)] = some (.ok (false, .bl false) [.no]) := by
    have e4 : ¬ ((s.length : Int) ≤ 10000) := by omega
    simp [f_is_short_text, b_is_short_text, bIsT, isT, e1, free, e4]
  simp [f_require_short_text, b_require_short_text, e3, free, sRaise]
def paW : W := .str [112, 97, 114, 115, 101]
def opW : W := .str [111, 112, 101, 114, 97, 116, 105, 111, 110]
def roW : W := .str [114, 111, 119]
def due (n : W) : W := .tup [.str [110, 117, 109, 98, 101, 114], (bRepr [n]).getD .non]
theorem long1 {w : W} (h : isLong w) : metC told subT hs_met (f_check_number [.fr false w]) = some paW := by
  simp [f_check_number, b_check_number, long_no h, free, metC, pick, subT, hs_met, hOut, paW]
theorem long2 {w a b : W} (h : isLong w) : metC told subT hs_met (f_torn [.fr false w, .fr false a, .fr false b]) = some paW := by
  simp [f_torn, b_torn, long_no h, free, metC, pick, subT, hs_met, hOut, paW]
theorem abc_ok : f_require_short_text [.fr false (.str [97, 98, 99])] = some (.ok (false, .non) [.no]) := by kernel_rfl
theorem long3 {w b : W} (h : isLong w) : metC told subT hs_met (f_torn [.fr false (.str [97, 98, 99]), .fr false w, .fr false b]) = some paW := by
  simp [f_torn, b_torn, abc_ok, long_no h, free, metC, pick, subT, hs_met, hOut, paW]

def Lpage0 : List W := [.non, .int 0, .tup [], .str [98, 117, 99, 107, 101, 116], .lst [.str [98, 117, 99, 107, 101, 116], .int 0, .tup []], .tup [.str [98, 117, 99, 107, 101, 116], .int 0], .tup [.str [98, 117, 99, 107, 101, 116], .int (-1), .tup []], .tup [.str [98, 117, 99, 107, 101, 116], .bl true, .tup []], .tup [.str [98, 117, 99, 107, 101, 116], .int 1000000001, .tup []], .tup [.str [112, 97, 103, 101], .int 0, .tup []], .tup [.str [108, 101, 97, 102], .int 0, .tup [.tup [.str [116], .int 2], .tup [.str [116], .int 1]]], .tup [.str [108, 101, 97, 102], .int 0, .tup [.tup [.str [116], .int 1], .tup [.str [116], .int 1]]], .tup [.str [108, 101, 97, 102], .int 0, .tup [.tup [.str [116], .bl true]]]]
def Lpage : List W := [.non, .int 0, .tup [], .str [98, 117, 99, 107, 101, 116], .lst [.str [98, 117, 99, 107, 101, 116], .int 0, .tup []], .tup [.str [98, 117, 99, 107, 101, 116], .int 0], .tup [.str [98, 117, 99, 107, 101, 116], .int (-1), .tup []], .tup [.str [98, 117, 99, 107, 101, 116], .bl true, .tup []], .tup [.str [98, 117, 99, 107, 101, 116], .int 1000000001, .tup []], .tup [.str [112, 97, 103, 101], .int 0, .tup []], .tup [.str [108, 101, 97, 102], .int 0, .tup [.tup [.str [116], .int 2], .tup [.str [116], .int 1]]], .tup [.str [108, 101, 97, 102], .int 0, .tup [.tup [.str [116], .int 1], .tup [.str [116], .int 1]]], .tup [.str [108, 101, 97, 102], .int 0, .tup [.tup [.str [116], .bl true]]], .tup [.str [98, 114, 97, 110, 99, 104], .int 0, .tup [], .tup [.int 1]], .tup [.str [98, 114, 97, 110, 99, 104], .int 0, .tup [.tup [.str [116]]], .tup [.int 1, .int 1]], .tup [.str [98, 114, 97, 110, 99, 104], .int 0, .tup [.tup [.str [116]]], .tup [.int 1, .int 2, .int 3]], .tup [.str [98, 114, 97, 110, 99, 104], .int 0, .tup [.tup [.str [116]]], .tup [.int 1, .int 1000]], .tup [.str [98, 114, 97, 110, 99, 104], .int 0, .tup [.tup [.str [116]]], .lst [.int 1, .int 2]], .tup [.str [108, 101, 97, 102], .int 0, .tup [], .tup []], .dct [] [], .tup [.str [108, 101, 97, 102], .int 0, .tup [.tup [.str [116], .int 0], .tup [.str [116], .int 1], .tup [.str [116], .int 2], .tup [.str [116], .int 3], .tup [.str [116], .int 4], .tup [.str [116], .int 5], .tup [.str [116], .int 6], .tup [.str [116], .int 7], .tup [.str [116], .int 8], .tup [.str [116], .int 9], .tup [.str [116], .int 10], .tup [.str [116], .int 11], .tup [.str [116], .int 12], .tup [.str [116], .int 13], .tup [.str [116], .int 14], .tup [.str [116], .int 15], .tup [.str [116], .int 16], .tup [.str [116], .int 17], .tup [.str [116], .int 18], .tup [.str [116], .int 19], .tup [.str [116], .int 20], .tup [.str [116], .int 21], .tup [.str [116], .int 22], .tup [.str [116], .int 23], .tup [.str [116], .int 24], .tup [.str [116], .int 25], .tup [.str [116], .int 26], .tup [.str [116], .int 27], .tup [.str [116], .int 28], .tup [.str [116], .int 29], .tup [.str [116], .int 30], .tup [.str [116], .int 31], .tup [.str [116], .int 32], .tup [.str [116], .int 33], .tup [.str [116], .int 34], .tup [.str [116], .int 35], .tup [.str [116], .int 36], .tup [.str [116], .int 37], .tup [.str [116], .int 38], .tup [.str [116], .int 39], .tup [.str [116], .int 40], .tup [.str [116], .int 41], .tup [.str [116], .int 42], .tup [.str [116], .int 43], .tup [.str [116], .int 44], .tup [.str [116], .int 45], .tup [.str [116], .int 46], .tup [.str [116], .int 47], .tup [.str [116], .int 48], .tup [.str [116], .int 49], .tup [.str [116], .int 50], .tup [.str [116], .int 51], .tup [.str [116], .int 52], .tup [.str [116], .int 53], .tup [.str [116], .int 54], .tup [.str [116], .int 55], .tup [.str [116], .int 56], .tup [.str [116], .int 57], .tup [.str [116], .int 58], .tup [.str [116], .int 59], .tup [.str [116], .int 60]]]]
def Ltext : List W := [.non, .int 0, .tup [], .lst [], .dct [] [], .bl true, .tup [.str [116, 40, 41]]]
def Lline0 : List W := [.str [], .str [98, 117, 99, 107, 101, 116, 32, 48, 32, 101, 109, 112, 116, 121, 32, 35, 57, 57, 48, 57], .str [98, 117, 99, 107, 101, 116, 32, 48, 32, 101, 109, 112, 116, 121, 32, 35, 57, 57, 48, 56, 32, 48], .str [98, 117, 99, 107, 101, 116, 32, 48, 48, 32, 101, 109, 112, 116, 121, 32, 35, 57, 57, 48, 57, 32, 48, 48], .str [108, 101, 97, 102, 32, 48, 32, 101, 109, 112, 116, 121, 32, 35, 57, 57, 48, 57, 32, 48], .str [98, 117, 99, 107, 101, 116, 32, 48, 32, 32, 35, 49, 32, 48], .str [98, 117, 99, 107, 101, 116, 32, 48, 32, 101, 109, 112, 116, 121, 32, 35, 57, 57, 48, 57, 32, 48, 32], .str [32, 98, 117, 99, 107, 101, 116, 32, 48, 32, 101, 109, 112, 116, 121, 32, 35, 57, 57, 48, 57, 32, 48], .str [98, 117, 99, 107, 101, 116, 32, 48, 32, 101, 109, 112, 116, 121, 32, 35, 48, 57, 57, 48, 57, 32, 48], .str [66, 85, 67, 75, 69, 84, 32, 48, 32, 101, 109, 112, 116, 121, 32, 35, 57, 57, 48, 57, 32, 48]]
def Lline : List W := [.str [], .str [98, 117, 99, 107, 101, 116, 32, 48, 32, 101, 109, 112, 116, 121, 32, 35, 57, 57, 48, 57], .str [98, 117, 99, 107, 101, 116, 32, 48, 32, 101, 109, 112, 116, 121, 32, 35, 57, 57, 48, 56, 32, 48], .str [98, 117, 99, 107, 101, 116, 32, 48, 48, 32, 101, 109, 112, 116, 121, 32, 35, 57, 57, 48, 57, 32, 48, 48], .str [108, 101, 97, 102, 32, 48, 32, 101, 109, 112, 116, 121, 32, 35, 57, 57, 48, 57, 32, 48], .str [98, 117, 99, 107, 101, 116, 32, 48, 32, 32, 35, 49, 32, 48], .str [98, 117, 99, 107, 101, 116, 32, 48, 32, 101, 109, 112, 116, 121, 32, 35, 57, 57, 48, 57, 32, 48, 32], .str [32, 98, 117, 99, 107, 101, 116, 32, 48, 32, 101, 109, 112, 116, 121, 32, 35, 57, 57, 48, 57, 32, 48], .str [98, 117, 99, 107, 101, 116, 32, 48, 32, 101, 109, 112, 116, 121, 32, 35, 48, 57, 57, 48, 57, 32, 48], .str [66, 85, 67, 75, 69, 84, 32, 48, 32, 101, 109, 112, 116, 121, 32, 35, 57, 57, 48, 57, 32, 48], .non, .int 7, .lst [], .tup [.str [98, 117, 99, 107, 101, 116, 32, 48, 32, 101, 109, 112, 116, 121, 32, 35, 57, 57, 48, 57, 32, 48]]]
def Lrow : List W := [.non, .int 0, .tup [], .tup [.str [84]], .tup [.str [116], .bl true], .tup [.str [116], .str [120]], .lst [.str [116]], .str [116], .tup [.str [116], .int 1, .int 2, .int 3, .int 4], .tup [.str [116, 116, 116, 116, 116, 116, 116, 116, 116]], .dct [] [], .tup [.str [116], .non]]
def Lmany : List W := [.non, .int 1, .int 9, .int (-1), .int 0, .bl true, .str [50], .tup [.int 2], .lst [], .int 1000000000000000000000000000000]
def Lat : List W := [.non, .int (-1), .int 4, .bl true, .str [48], .tup [.int 0], .lst [], .int 1000000000000000000000000000000]
def Lrows : W := .tup [.tup [.str [116], .int 0], .tup [.str [116], .int 1], .tup [.str [116], .int 2], .tup [.str [116], .int 3], .tup [.str [116], .int 4], .tup [.str [116], .int 5], .tup [.str [116], .int 6], .tup [.str [116], .int 7], .tup [.str [116], .int 8], .tup [.str [116], .int 9], .tup [.str [116], .int 10], .tup [.str [116], .int 11], .tup [.str [116], .int 12], .tup [.str [116], .int 13], .tup [.str [116], .int 14], .tup [.str [116], .int 15], .tup [.str [116], .int 16], .tup [.str [116], .int 17], .tup [.str [116], .int 18], .tup [.str [116], .int 19], .tup [.str [116], .int 20], .tup [.str [116], .int 21], .tup [.str [116], .int 22], .tup [.str [116], .int 23], .tup [.str [116], .int 24], .tup [.str [116], .int 25], .tup [.str [116], .int 26], .tup [.str [116], .int 27], .tup [.str [116], .int 28], .tup [.str [116], .int 29], .tup [.str [116], .int 30], .tup [.str [116], .int 31], .tup [.str [116], .int 32], .tup [.str [116], .int 33], .tup [.str [116], .int 34], .tup [.str [116], .int 35], .tup [.str [116], .int 36], .tup [.str [116], .int 37], .tup [.str [116], .int 38], .tup [.str [116], .int 39], .tup [.str [116], .int 40], .tup [.str [116], .int 41], .tup [.str [116], .int 42], .tup [.str [116], .int 43], .tup [.str [116], .int 44], .tup [.str [116], .int 45], .tup [.str [116], .int 46], .tup [.str [116], .int 47], .tup [.str [116], .int 48], .tup [.str [116], .int 49], .tup [.str [116], .int 50], .tup [.str [116], .int 51], .tup [.str [116], .int 52], .tup [.str [116], .int 53], .tup [.str [116], .int 54], .tup [.str [116], .int 55], .tup [.str [116], .int 56], .tup [.str [116], .int 57], .tup [.str [116], .int 58], .tup [.str [116], .int 59], .tup [.str [116], .int 60]]
def Pg13 : W := .tup [.str [108, 101, 97, 102], .int 13, .tup [.tup [.str [116], .int 48], .tup [.str [116], .int 49], .tup [.str [116], .int 50], .tup [.str [116], .int 51], .tup [.str [116], .int 52], .tup [.str [116], .int 53], .tup [.str [116], .int 54], .tup [.str [116], .int 55], .tup [.str [116], .int 56], .tup [.str [116], .int 57], .tup [.str [116], .int 58], .tup [.str [116], .int 59], .tup [.str [116], .int 60]]]
def Tx13 : W := .str [108, 101, 97, 102, 32, 49, 51, 32, 116, 40, 52, 56, 41, 59, 32, 116, 40, 52, 57, 41, 59, 32, 116, 40, 53, 48, 41, 59, 32, 116, 40, 53, 49, 41, 59, 32, 116, 40, 53, 50, 41, 59, 32, 116, 40, 53, 51, 41, 59, 32, 116, 40, 53, 52, 41, 59, 32, 116, 40, 53, 53, 41, 59, 32, 116, 40, 53, 54, 41, 59, 32, 116, 40, 53, 55, 41, 59, 32, 116, 40, 53, 56, 41, 59, 32, 116, 40, 53, 57, 41, 59, 32, 116, 40, 54, 48, 41, 32, 35, 55, 52, 54, 54, 32, 49, 51]
theorem pt13 : valC (f_page_text [.fr false Pg13]) = some Tx13 := sameO_eq (by decide +kernel)
theorem tp13 : valC (f_read_page [.fr false Tx13]) = some Pg13 := sameO_eq (by decide +kernel)
theorem pp13 : bNe [Pg13, Pg13] = some (.bl false) := sameO_eq (by decide +kernel)
def Pg14 : W := .tup [.str [98, 117, 99, 107, 101, 116], .int 14, .tup [.tup [.str [116], .int 47], .tup [.str [116], .int 48], .tup [.str [116], .int 49], .tup [.str [116], .int 50], .tup [.str [116], .int 51], .tup [.str [116], .int 52], .tup [.str [116], .int 53], .tup [.str [116], .int 54], .tup [.str [116], .int 55], .tup [.str [116], .int 56], .tup [.str [116], .int 57], .tup [.str [116], .int 58], .tup [.str [116], .int 59], .tup [.str [116], .int 60]]]
def Tx14 : W := .str [98, 117, 99, 107, 101, 116, 32, 49, 52, 32, 116, 40, 52, 55, 41, 59, 32, 116, 40, 52, 56, 41, 59, 32, 116, 40, 52, 57, 41, 59, 32, 116, 40, 53, 48, 41, 59, 32, 116, 40, 53, 49, 41, 59, 32, 116, 40, 53, 50, 41, 59, 32, 116, 40, 53, 51, 41, 59, 32, 116, 40, 53, 52, 41, 59, 32, 116, 40, 53, 53, 41, 59, 32, 116, 40, 53, 54, 41, 59, 32, 116, 40, 53, 55, 41, 59, 32, 116, 40, 53, 56, 41, 59, 32, 116, 40, 53, 57, 41, 59, 32, 116, 40, 54, 48, 41, 32, 35, 57, 55, 51, 53, 32, 49, 52]
theorem pt14 : valC (f_page_text [.fr false Pg14]) = some Tx14 := sameO_eq (by decide +kernel)
theorem tp14 : valC (f_read_page [.fr false Tx14]) = some Pg14 := sameO_eq (by decide +kernel)
theorem pp14 : bNe [Pg14, Pg14] = some (.bl false) := sameO_eq (by decide +kernel)
def Pg40 : W := .tup [.str [98, 117, 99, 107, 101, 116], .int 40, .tup [.tup [.str [116], .int 21], .tup [.str [116], .int 22], .tup [.str [116], .int 23], .tup [.str [116], .int 24], .tup [.str [116], .int 25], .tup [.str [116], .int 26], .tup [.str [116], .int 27], .tup [.str [116], .int 28], .tup [.str [116], .int 29], .tup [.str [116], .int 30], .tup [.str [116], .int 31], .tup [.str [116], .int 32], .tup [.str [116], .int 33], .tup [.str [116], .int 34], .tup [.str [116], .int 35], .tup [.str [116], .int 36], .tup [.str [116], .int 37], .tup [.str [116], .int 38], .tup [.str [116], .int 39], .tup [.str [116], .int 40], .tup [.str [116], .int 41], .tup [.str [116], .int 42], .tup [.str [116], .int 43], .tup [.str [116], .int 44], .tup [.str [116], .int 45], .tup [.str [116], .int 46], .tup [.str [116], .int 47], .tup [.str [116], .int 48], .tup [.str [116], .int 49], .tup [.str [116], .int 50], .tup [.str [116], .int 51], .tup [.str [116], .int 52], .tup [.str [116], .int 53], .tup [.str [116], .int 54], .tup [.str [116], .int 55], .tup [.str [116], .int 56], .tup [.str [116], .int 57], .tup [.str [116], .int 58], .tup [.str [116], .int 59], .tup [.str [116], .int 60]]]
def Tx40 : W := .str [98, 117, 99, 107, 101, 116, 32, 52, 48, 32, 116, 40, 50, 49, 41, 59, 32, 116, 40, 50, 50, 41, 59, 32, 116, 40, 50, 51, 41, 59, 32, 116, 40, 50, 52, 41, 59, 32, 116, 40, 50, 53, 41, 59, 32, 116, 40, 50, 54, 41, 59, 32, 116, 40, 50, 55, 41, 59, 32, 116, 40, 50, 56, 41, 59, 32, 116, 40, 50, 57, 41, 59, 32, 116, 40, 51, 48, 41, 59, 32, 116, 40, 51, 49, 41, 59, 32, 116, 40, 51, 50, 41, 59, 32, 116, 40, 51, 51, 41, 59, 32, 116, 40, 51, 52, 41, 59, 32, 116, 40, 51, 53, 41, 59, 32, 116, 40, 51, 54, 41, 59, 32, 116, 40, 51, 55, 41, 59, 32, 116, 40, 51, 56, 41, 59, 32, 116, 40, 51, 57, 41, 59, 32, 116, 40, 52, 48, 41, 59, 32, 116, 40, 52, 49, 41, 59, 32, 116, 40, 52, 50, 41, 59, 32, 116, 40, 52, 51, 41, 59, 32, 116, 40, 52, 52, 41, 59, 32, 116, 40, 52, 53, 41, 59, 32, 116, 40, 52, 54, 41, 59, 32, 116, 40, 52, 55, 41, 59, 32, 116, 40, 52, 56, 41, 59, 32, 116, 40, 52, 57, 41, 59, 32, 116, 40, 53, 48, 41, 59, 32, 116, 40, 53, 49, 41, 59, 32, 116, 40, 53, 50, 41, 59, 32, 116, 40, 53, 51, 41, 59, 32, 116, 40, 53, 52, 41, 59, 32, 116, 40, 53, 53, 41, 59, 32, 116, 40, 53, 54, 41, 59, 32, 116, 40, 53, 55, 41, 59, 32, 116, 40, 53, 56, 41, 59, 32, 116, 40, 53, 57, 41, 59, 32, 116, 40, 54, 48, 41, 32, 35, 57, 55, 52, 52, 32, 52, 48]
theorem pt40 : valC (f_page_text [.fr false Pg40]) = some Tx40 := sameO_eq (by decide +kernel)
theorem tp40 : valC (f_read_page [.fr false Tx40]) = some Pg40 := sameO_eq (by decide +kernel)
theorem pp40 : bNe [Pg40, Pg40] = some (.bl false) := sameO_eq (by decide +kernel)
def Pg59 : W := .tup [.str [108, 101, 97, 102], .int 59, .tup [.tup [.str [116], .int 2], .tup [.str [116], .int 3], .tup [.str [116], .int 4], .tup [.str [116], .int 5], .tup [.str [116], .int 6], .tup [.str [116], .int 7], .tup [.str [116], .int 8], .tup [.str [116], .int 9], .tup [.str [116], .int 10], .tup [.str [116], .int 11], .tup [.str [116], .int 12], .tup [.str [116], .int 13], .tup [.str [116], .int 14], .tup [.str [116], .int 15], .tup [.str [116], .int 16], .tup [.str [116], .int 17], .tup [.str [116], .int 18], .tup [.str [116], .int 19], .tup [.str [116], .int 20], .tup [.str [116], .int 21], .tup [.str [116], .int 22], .tup [.str [116], .int 23], .tup [.str [116], .int 24], .tup [.str [116], .int 25], .tup [.str [116], .int 26], .tup [.str [116], .int 27], .tup [.str [116], .int 28], .tup [.str [116], .int 29], .tup [.str [116], .int 30], .tup [.str [116], .int 31], .tup [.str [116], .int 32], .tup [.str [116], .int 33], .tup [.str [116], .int 34], .tup [.str [116], .int 35], .tup [.str [116], .int 36], .tup [.str [116], .int 37], .tup [.str [116], .int 38], .tup [.str [116], .int 39], .tup [.str [116], .int 40], .tup [.str [116], .int 41], .tup [.str [116], .int 42], .tup [.str [116], .int 43], .tup [.str [116], .int 44], .tup [.str [116], .int 45], .tup [.str [116], .int 46], .tup [.str [116], .int 47], .tup [.str [116], .int 48], .tup [.str [116], .int 49], .tup [.str [116], .int 50], .tup [.str [116], .int 51], .tup [.str [116], .int 52], .tup [.str [116], .int 53], .tup [.str [116], .int 54], .tup [.str [116], .int 55], .tup [.str [116], .int 56], .tup [.str [116], .int 57], .tup [.str [116], .int 58], .tup [.str [116], .int 59], .tup [.str [116], .int 60]]]
def Tx59 : W := .str [108, 101, 97, 102, 32, 53, 57, 32, 116, 40, 50, 41, 59, 32, 116, 40, 51, 41, 59, 32, 116, 40, 52, 41, 59, 32, 116, 40, 53, 41, 59, 32, 116, 40, 54, 41, 59, 32, 116, 40, 55, 41, 59, 32, 116, 40, 56, 41, 59, 32, 116, 40, 57, 41, 59, 32, 116, 40, 49, 48, 41, 59, 32, 116, 40, 49, 49, 41, 59, 32, 116, 40, 49, 50, 41, 59, 32, 116, 40, 49, 51, 41, 59, 32, 116, 40, 49, 52, 41, 59, 32, 116, 40, 49, 53, 41, 59, 32, 116, 40, 49, 54, 41, 59, 32, 116, 40, 49, 55, 41, 59, 32, 116, 40, 49, 56, 41, 59, 32, 116, 40, 49, 57, 41, 59, 32, 116, 40, 50, 48, 41, 59, 32, 116, 40, 50, 49, 41, 59, 32, 116, 40, 50, 50, 41, 59, 32, 116, 40, 50, 51, 41, 59, 32, 116, 40, 50, 52, 41, 59, 32, 116, 40, 50, 53, 41, 59, 32, 116, 40, 50, 54, 41, 59, 32, 116, 40, 50, 55, 41, 59, 32, 116, 40, 50, 56, 41, 59, 32, 116, 40, 50, 57, 41, 59, 32, 116, 40, 51, 48, 41, 59, 32, 116, 40, 51, 49, 41, 59, 32, 116, 40, 51, 50, 41, 59, 32, 116, 40, 51, 51, 41, 59, 32, 116, 40, 51, 52, 41, 59, 32, 116, 40, 51, 53, 41, 59, 32, 116, 40, 51, 54, 41, 59, 32, 116, 40, 51, 55, 41, 59, 32, 116, 40, 51, 56, 41, 59, 32, 116, 40, 51, 57, 41, 59, 32, 116, 40, 52, 48, 41, 59, 32, 116, 40, 52, 49, 41, 59, 32, 116, 40, 52, 50, 41, 59, 32, 116, 40, 52, 51, 41, 59, 32, 116, 40, 52, 52, 41, 59, 32, 116, 40, 52, 53, 41, 59, 32, 116, 40, 52, 54, 41, 59, 32, 116, 40, 52, 55, 41, 59, 32, 116, 40, 52, 56, 41, 59, 32, 116, 40, 52, 57, 41, 59, 32, 116, 40, 53, 48, 41, 59, 32, 116, 40, 53, 49, 41, 59, 32, 116, 40, 53, 50, 41, 59, 32, 116, 40, 53, 51, 41, 59, 32, 116, 40, 53, 52, 41, 59, 32, 116, 40, 53, 53, 41, 59, 32, 116, 40, 53, 54, 41, 59, 32, 116, 40, 53, 55, 41, 59, 32, 116, 40, 53, 56, 41, 59, 32, 116, 40, 53, 57, 41, 59, 32, 116, 40, 54, 48, 41, 32, 35, 52, 57, 53, 54, 32, 53, 57]
theorem pt59 : valC (f_page_text [.fr false Pg59]) = some Tx59 := sameO_eq (by decide +kernel)
theorem tp59 : valC (f_read_page [.fr false Tx59]) = some Pg59 := sameO_eq (by decide +kernel)
theorem pp59 : bNe [Pg59, Pg59] = some (.bl false) := sameO_eq (by decide +kernel)
def Pg60 : W := .tup [.str [98, 117, 99, 107, 101, 116], .int 60, .tup [.tup [.str [116], .int 1], .tup [.str [116], .int 2], .tup [.str [116], .int 3], .tup [.str [116], .int 4], .tup [.str [116], .int 5], .tup [.str [116], .int 6], .tup [.str [116], .int 7], .tup [.str [116], .int 8], .tup [.str [116], .int 9], .tup [.str [116], .int 10], .tup [.str [116], .int 11], .tup [.str [116], .int 12], .tup [.str [116], .int 13], .tup [.str [116], .int 14], .tup [.str [116], .int 15], .tup [.str [116], .int 16], .tup [.str [116], .int 17], .tup [.str [116], .int 18], .tup [.str [116], .int 19], .tup [.str [116], .int 20], .tup [.str [116], .int 21], .tup [.str [116], .int 22], .tup [.str [116], .int 23], .tup [.str [116], .int 24], .tup [.str [116], .int 25], .tup [.str [116], .int 26], .tup [.str [116], .int 27], .tup [.str [116], .int 28], .tup [.str [116], .int 29], .tup [.str [116], .int 30], .tup [.str [116], .int 31], .tup [.str [116], .int 32], .tup [.str [116], .int 33], .tup [.str [116], .int 34], .tup [.str [116], .int 35], .tup [.str [116], .int 36], .tup [.str [116], .int 37], .tup [.str [116], .int 38], .tup [.str [116], .int 39], .tup [.str [116], .int 40], .tup [.str [116], .int 41], .tup [.str [116], .int 42], .tup [.str [116], .int 43], .tup [.str [116], .int 44], .tup [.str [116], .int 45], .tup [.str [116], .int 46], .tup [.str [116], .int 47], .tup [.str [116], .int 48], .tup [.str [116], .int 49], .tup [.str [116], .int 50], .tup [.str [116], .int 51], .tup [.str [116], .int 52], .tup [.str [116], .int 53], .tup [.str [116], .int 54], .tup [.str [116], .int 55], .tup [.str [116], .int 56], .tup [.str [116], .int 57], .tup [.str [116], .int 58], .tup [.str [116], .int 59], .tup [.str [116], .int 60]]]
def Tx60 : W := .str [98, 117, 99, 107, 101, 116, 32, 54, 48, 32, 116, 40, 49, 41, 59, 32, 116, 40, 50, 41, 59, 32, 116, 40, 51, 41, 59, 32, 116, 40, 52, 41, 59, 32, 116, 40, 53, 41, 59, 32, 116, 40, 54, 41, 59, 32, 116, 40, 55, 41, 59, 32, 116, 40, 56, 41, 59, 32, 116, 40, 57, 41, 59, 32, 116, 40, 49, 48, 41, 59, 32, 116, 40, 49, 49, 41, 59, 32, 116, 40, 49, 50, 41, 59, 32, 116, 40, 49, 51, 41, 59, 32, 116, 40, 49, 52, 41, 59, 32, 116, 40, 49, 53, 41, 59, 32, 116, 40, 49, 54, 41, 59, 32, 116, 40, 49, 55, 41, 59, 32, 116, 40, 49, 56, 41, 59, 32, 116, 40, 49, 57, 41, 59, 32, 116, 40, 50, 48, 41, 59, 32, 116, 40, 50, 49, 41, 59, 32, 116, 40, 50, 50, 41, 59, 32, 116, 40, 50, 51, 41, 59, 32, 116, 40, 50, 52, 41, 59, 32, 116, 40, 50, 53, 41, 59, 32, 116, 40, 50, 54, 41, 59, 32, 116, 40, 50, 55, 41, 59, 32, 116, 40, 50, 56, 41, 59, 32, 116, 40, 50, 57, 41, 59, 32, 116, 40, 51, 48, 41, 59, 32, 116, 40, 51, 49, 41, 59, 32, 116, 40, 51, 50, 41, 59, 32, 116, 40, 51, 51, 41, 59, 32, 116, 40, 51, 52, 41, 59, 32, 116, 40, 51, 53, 41, 59, 32, 116, 40, 51, 54, 41, 59, 32, 116, 40, 51, 55, 41, 59, 32, 116, 40, 51, 56, 41, 59, 32, 116, 40, 51, 57, 41, 59, 32, 116, 40, 52, 48, 41, 59, 32, 116, 40, 52, 49, 41, 59, 32, 116, 40, 52, 50, 41, 59, 32, 116, 40, 52, 51, 41, 59, 32, 116, 40, 52, 52, 41, 59, 32, 116, 40, 52, 53, 41, 59, 32, 116, 40, 52, 54, 41, 59, 32, 116, 40, 52, 55, 41, 59, 32, 116, 40, 52, 56, 41, 59, 32, 116, 40, 52, 57, 41, 59, 32, 116, 40, 53, 48, 41, 59, 32, 116, 40, 53, 49, 41, 59, 32, 116, 40, 53, 50, 41, 59, 32, 116, 40, 53, 51, 41, 59, 32, 116, 40, 53, 52, 41, 59, 32, 116, 40, 53, 53, 41, 59, 32, 116, 40, 53, 54, 41, 59, 32, 116, 40, 53, 55, 41, 59, 32, 116, 40, 53, 56, 41, 59, 32, 116, 40, 53, 57, 41, 59, 32, 116, 40, 54, 48, 41, 32, 35, 50, 50, 48, 53, 32, 54, 48]
theorem pt60 : valC (f_page_text [.fr false Pg60]) = some Tx60 := sameO_eq (by decide +kernel)
theorem tp60 : valC (f_read_page [.fr false Tx60]) = some Pg60 := sameO_eq (by decide +kernel)
theorem pp60 : bNe [Pg60, Pg60] = some (.bl false) := sameO_eq (by decide +kernel)
theorem right_ok {v : W} (hv : isVat v) : Out (b__law_right [.own true v, .no, .no, .no, .no, .no, .no, .no, .no]) fun f s => f = .ret false (.bl true) ∧ ∃ v', isVat v' ∧ s.head? = some (.own true v') := by
  unfold b__law_right
  refine out_nx (s := [.own true v, .own false (.lst Lpage0), .no, .no, .no, .no, .no, .no, .no]) (by kernel_rfl) ?_
  refine out_nx (s := [.own true v, .fr false (.lst Lpage), .no, .no, .no, .no, .no, .no, .no]) (by kernel_rfl) ?_
  refine out_draw (xs := Lpage) scoop_ok hv rfl rfl (by decide) (by decide) (fun _ => rfl) rfl fun p hp v1 hv1 => ?_
  refine out_draw (xs := Ltext) scoop_ok hv1 rfl (by kernel_rfl) (by decide) (by decide) (fun _ => rfl) rfl fun x hx v2 hv2 => ?_
  refine out_nx (s := [.own true v2, .fr false p, .no, .fr false x, .own false (.lst Lline0), .no, .no, .no, .no]) (by kernel_rfl) ?_
  refine out_draw (xs := Lline) scoop_ok hv2 rfl (by kernel_rfl) (by decide) (by decide) (fun _ => rfl) rfl fun l hl v3 hv3 => ?_
  refine out_draw (xs := [.str La, .str Lb]) scoop_ok hv3 rfl (by simp [la, lb]) (by simp) (by simp) (fun _ => rfl) rfl fun g hg v4 hv4 => ?_
  refine out_draw (xs := Lrow) scoop_ok hv4 rfl (by kernel_rfl) (by decide) (by decide) (fun _ => rfl) rfl fun r hr v5 hv5 => ?_
  refine out_draw (xs := Lmany) scoop_ok hv5 rfl (by kernel_rfl) (by decide) (by decide) (fun _ => rfl) rfl fun m hm v6 hv6 => ?_
  refine out_draw (xs := Lat) scoop_ok hv6 rfl (by kernel_rfl) (by decide) (by decide) (fun _ => rfl) rfl fun t ht v7 hv7 => ?_
  refine out_nx (s := [.own true v7, .fr false p, .fr false t, .fr false x, .fr false l, .fr false g, .fr false r, .fr false m, .own false (.lst [])]) (by kernel_rfl) ?_
  have hg := long_of hg
  have e1 := tab1 (f := fun p => metC told subT hs_met (f_page_text [.fr false p])) (g := fun _ => opW) (by decide +kernel) hp
  have e2 := tab1 (f := fun p => metC told subT hs_met (f_read_page [.fr false p])) (g := fun _ => paW) (by decide +kernel) hl
  have e3 := tab1 (f := fun p => metC told subT hs_met (f_check_number [.fr false p])) (g := fun _ => paW) (by decide +kernel) hx
  have e4 := long1 hg
  have e5 := tab2 (f := fun x t => metC told subT hs_met (f_torn [.fr false x, .fr false x, .fr false t])) (g := fun _ _ => paW) (by decide +kernel) hx ht
  have e6 := long2 (a := .str [98]) (b := t) hg
  have e7 := tab2 (f := fun x t => metC told subT hs_met (f_torn [.fr false (.str [97, 98, 99]), .fr false x, .fr false t])) (g := fun _ _ => paW) (by decide +kernel) hx ht
  have e8 := long3 (b := t) hg
  have e9 := tab1 (f := fun t => metC told subT hs_met (f_torn [.fr false (.str [97, 98, 99]), .fr false (.str [98]), .fr false t])) (g := fun t => due t) (by decide +kernel) ht
  have e10 := tab2 (f := fun r m => metC told subT hs_met (f_bucket_of [.fr false r, .fr false m])) (g := fun _ _ => roW) (by decide +kernel) hr hm
  have e11 := tab1 (f := fun m => metC told subT hs_met (f_bucket_of [.fr false (.tup [.str [116]]), .fr false m])) (g := fun m => due m) (by decide +kernel) hm
  refine out_app (met_call (by simp) rfl e1) rfl (by simp) ?_
  refine out_app (met_call (by simp) rfl e2) rfl (by simp) ?_
  refine out_app (met_call (by simp) rfl e3) rfl (by simp) ?_
  refine out_app (met_call (by simp) rfl e4) rfl (by simp) ?_
  refine out_app (met_call (by simp) rfl e5) rfl (by simp) ?_
  refine out_app (met_call (by simp) rfl e6) rfl (by simp) ?_
  refine out_app (met_call (by simp) rfl e7) rfl (by simp) ?_
  refine out_app (met_call (by simp) rfl e8) rfl (by simp) ?_
  refine out_app (met_call (by simp) rfl e9) rfl (by simp) ?_
  refine out_app (met_call (by simp) rfl e10) rfl (by simp) ?_
  refine out_app (met_call (by simp) rfl e11) rfl (by simp) ?_
  obtain ⟨r1, r2, er1, er2, eb⟩ : ∃ r1 r2, bRepr [t] = some r1 ∧ bRepr [m] = some r2 ∧ bEq [.lst [opW, paW, paW, paW, paW, paW, paW, paW, due t, roW, due m], .lst [opW, paW, paW, paW, paW, paW, paW, paW, .tup [.str [110, 117, 109, 98, 101, 114], r1], roW, .tup [.str [110, 117, 109, 98, 101, 114], r2]]] = some (.bl true) := by
    have z := tab2 (f := fun t m => (bRepr [t]).bind fun r1 => (bRepr [m]).bind fun r2 => bEq [.lst [opW, paW, paW, paW, paW, paW, paW, paW, due t, roW, due m], .lst [opW, paW, paW, paW, paW, paW, paW, paW, .tup [.str [110, 117, 109, 98, 101, 114], r1], roW, .tup [.str [110, 117, 109, 98, 101, 114], r2]]]) (g := fun _ _ => .bl true) (by decide +kernel) ht hm
    cases h : bRepr [t] with
    | none => rw [h] at z; cases z
    | some r1 =>
      cases h2 : bRepr [m] with
      | none => rw [h, h2] at z; cases z
      | some r2 => rw [h, h2] at z; exact ⟨r1, r2, rfl, rfl, z⟩
  clear e1 e2 e3 e4 e5 e6 e7 e8 e9 e10 e11
  unfold opW paW roW at *
  simp [er1, er2, eb]
  exact hv7

theorem num_mem {w : W} : ∀ {xs : List W} {n : Int}, w ∈ numbered n xs → ∃ k x, x ∈ xs ∧ n ≤ k ∧ k < n + xs.length ∧ w = .tup [.int k, x]
  | [], n, h => by cases h
  | x :: xs, n, h => by
    unfold numbered at h
    rcases List.mem_cons.mp h with rfl | h
    · exact ⟨n, x, List.mem_cons_self .., by omega, by simp; omega, rfl⟩
    · obtain ⟨k, y, h1, h2, h3, rfl⟩ := num_mem h
      exact ⟨k, y, List.mem_cons_of_mem _ h1, by omega, by simp only [List.length_cons]; push_cast; omega, rfl⟩
theorem check_ok {s : List Nat} (h : s.length ≤ 100000) : ∃ o n fin, f_check_in [.fr false (.str s)] = some (.ok (o, .int n) fin) ∧ 0 ≤ n ∧ n < 9973 := by
  have z : Out (b_check_in [.fr false (.str s), .no, .no, .no]) fun f _ => ∃ n : Int, f = .ret false (.int n) ∧ 0 ≤ n ∧ n < 9973 := by
    unfold b_check_in
    refine out_nx (by simp; exact rfl) ?_
    refine out_forI (I := fun s' => ∃ (t : Int) (u u' : Slot), free u = true ∧ free u' = true ∧ s' = [.fr false (.str s), .fr false (.int t), u, u']) (ws := numbered 0 (s.map fun c => .str [c])) (s0 := [.fr false (.str s), .fr false (.int 0), .no, .no]) (by simp [iEnum, enumW]) ⟨0, .no, .no, rfl, rfl, rfl⟩ (fun w hw s' hs => ?_) (fun s' hs => ?_)
    · obtain ⟨t, u, u', h1, h2, rfl⟩ := hs
      obtain ⟨k, x, hx, h3, h4, rfl⟩ := num_mem hw
      obtain ⟨c, hc, rfl⟩ := List.mem_map.mp hx
      rw [List.length_map] at h4
      have e : (k + 1).natAbs < 18446744073709551616 := by omega
      simp [asg, asgs, h1, h2, sAug, bOrd, e, bAddF]
      exact ⟨_, .fr false (.int k), rfl, .fr false (.str [c]), rfl, rfl, rfl, rfl⟩
    · obtain ⟨t, u, u', h1, h2, rfl⟩ := hs
      simp
      exact ⟨Int.emod_nonneg _ (by decide), Int.emod_lt_of_pos _ (by decide)⟩
  obtain ⟨f, s', e, n, rfl, h1, h2⟩ := out_eq z
  refine ⟨false, n, ends [.fr false (.str s)] s', ?_, h1, h2⟩
  unfold f_check_in runFn
  simp only [List.cons_append, List.nil_append, List.length_cons, List.length_nil, List.replicate]
  erw [e]
theorem lc_check : ∃ o n fin, f_check_number [.fr false (.str Lc)] = some (.ok (o, .int n) fin) ∧ n < 9973 := by
  obtain ⟨o, n, fin, e, h1, h2⟩ := check_ok (s := Lc) (by rw [lc_len]; decide)
  have e1 : bLen [.str Lc] = some (.int 10000) := by unfold bLen; simp [lc_len]
  have e0 : bAscii [.str Lc] = some (.bl true) := by
    show some (W.bl (Lc.all (· < 128))) = _
    rw [show Lc.all (· < 128) = true from List.all_eq_true.mpr fun x hx => by rw [lc_all x hx]; rfl]
  have e3 : f_is_short_text [.fr false (.str Lc)] = some (.ok (false, .bl true) [.no]) := by
    simp [f_is_short_text, b_is_short_text, bIsT, isT, e1, free, eM0, e0]
  refine ⟨false, n, [.no], ?_, h2⟩
  simp [f_check_number, b_check_number, f_require_short_text, b_require_short_text, e3, e, free]
theorem right_fn {v : W} (hv : isVat v) : ∃ v', isVat v' ∧ f__law_right [.own true v] = some (.ok (false, .bl true) [.own true v']) := by
  obtain ⟨f, s, e, rfl, v', h1, h2⟩ := out_eq (right_ok hv)
  refine ⟨v', h1, ?_⟩
  unfold f__law_right runFn
  simp only [List.cons_append, List.nil_append, List.length_cons, List.length_nil, List.replicate]
  erw [e]
  cases s with
  | nil => cases h2
  | cons a s => simp only [List.head?_cons, Option.some.injEq] at h2; subst h2; rfl
theorem out_last {m : M Flow} {ss s : Slots} {f : Flow} {P : Flow → Slots → Prop} (h : m ss = some (.ok f s)) (k : P f s) : Out (m ss) P := by
  rw [h]
  exact ⟨k⟩
theorem t1 : valC (f_torn [.fr false (.str [97, 98, 99]), .fr false (.str [98]), .fr false (.int 3)]) = some (.str [97, 98, 99]) := sameO_eq (by decide +kernel)
theorem t2 : valC (f_torn [.fr false (.str [97, 98, 99]), .fr false (.str [120, 121, 122, 117, 118]), .fr false (.int 0)]) = some (.str [120, 121, 122, 117, 118]) := sameO_eq (by decide +kernel)
theorem t3 : valC (f_torn [.fr false (.str []), .fr false (.str [97, 98]), .fr false (.int 0)]) = some (.str [97, 98]) := sameO_eq (by decide +kernel)
theorem t4 : valC (f_check_number [.fr false (.str [])]) = some (.int 0) := sameO_eq (by decide +kernel)
theorem turn_nx {tg : W → M Unit} {body : M Flow} {w : W} {ws : List W} {ss s s' : Slots} (h1 : tg w ss = some (.ok () s)) (h2 : body s = some (.ok .nx s')) : turns tg body (w :: ws) ss = turns tg body ws s' := by
  rw [v_turns, v_mbd, v_calm, h1]
  dsimp only
  rw [v_mbd, h2]
theorem seq_nx {a b : M Flow} {ss s : Slots} (h1 : a ss = some (.ok .nx s)) : sSeq a b ss = b s := by
  rw [v_sSeq, v_mbd, h1]
theorem page_turn {p t : W} (h1 : valC (f_page_text [.fr false p]) = some t) (h2 : valC (f_read_page [.fr false t]) = some p) (h3 : bNe [p, p] = some (.bl false)) (a u u' r b : Slot) :
    (sIf (tB (bi bNe [.ev (eCall f_read_page [.ev (eCall f_page_text [.ev (eVar 6)])]), .pk 6])) (sRet (eC (.bl false))) sPass) [a, u, u', r, .no, b, .fr false p, .no, .no] = some (.ok .nx [a, u, u', r, .no, b, .fr false p, .no, .no]) := by
  obtain ⟨_, _, e1⟩ := val_eq h1
  obtain ⟨_, _, e2⟩ := val_eq h2
  simp [e1, e2, h3]
theorem e_cons {m : M W} {w : W} {r : List (M W)} {ws : List W} {ss : Slots} (h1 : m ss = some (.ok w ss)) (h2 : exps r ss = some (.ok ws ss)) : exps (m :: r) ss = some (.ok (w :: ws) ss) := by
  rw [v_exps, v_mbd, h1]
  dsimp only
  rw [v_mbd, h2]
  rfl
theorem e_lst {ms : List (M W)} {ws : List W} {ss : Slots} (h : exps ms ss = some (.ok ws ss)) : eLst ms ss = some (.ok (.lst ws) ss) := by
  rw [v_eLst, v_mbd, h]
  rfl
theorem e_asgO {i : Nat} {m : M W} {w : W} {t : Slot} {ss : Slots} (h : m ss = some (.ok w ss)) (hi : ss[i]? = some t) (ht : free t = true) : sAsgO i m ss = some (.ok .nx (ss.set i (ownS w))) := by
  rw [v_sAsgO, v_mbd, h]
  dsimp only
  rw [v_mbd, v_store, hi]
  dsimp only
  rw [if_pos ht]
  rfl
theorem e_bi2 {f : List W → Option W} {m n : M W} {a b w : W} {ss : Slots} (h1 : m ss = some (.ok a ss)) (h2 : n ss = some (.ok b ss)) (h : f [a, b] = some w) : bi f [.ev m, .ev n] ss = some (.ok w ss) := by
  rw [v_bi, v_mbd, v_opdsE, v_mbd, h1]
  dsimp only
  rw [v_mbd, v_opdsE, v_mbd, h2]
  show lift (f [a, b]) ss = _
  rw [v_lift, h]
  rfl
theorem e_args1 {m : M W} {w : W} {ss : Slots} (h : m ss = some (.ok w ss)) : args [.ev m] ss = some (.ok [.fr false w] ss) := by
  rw [v_argsE, v_mbd, h]
  rfl
theorem l1 (a u u' : Slot) :  (sAsg 3 (bi bTuple [.ev (eComp [4] (iRange1 (eC (.int 61))) (asg (.one 4)) (mret true) (eTup [(eC (.str [116])), (eVar 4)]))])) [a, u, u', .no, .no, .no, .no, .no, .no] = some (.ok .nx [a, u, u', .fr false Lrows, .no, .no, .no, .no, .no]) := by kernel_rfl
theorem l2_13 (a u u' : Slot) :  (sAsg 6 (eTup [(bi bIx [.ev (eLst [(eC (.str [98, 117, 99, 107, 101, 116])), (eC (.str [108, 101, 97, 102]))]), .ev (bi bMod [.pk 5, .ev (eC (.int 2))])]), (eVar 5), (bi bSlL [.pk 3, .ev (bi bSub [.ev (eC (.int 61)), .pk 5])])])) [a, u, u', .fr false Lrows, .no, .fr false (.int 13), .no, .no, .no] = some (.ok .nx [a, u, u', .fr false Lrows, .no, .fr false (.int 13), .fr false Pg13, .no, .no]) := by kernel_rfl
theorem l2_14 (a u u' : Slot) :  (sAsg 6 (eTup [(bi bIx [.ev (eLst [(eC (.str [98, 117, 99, 107, 101, 116])), (eC (.str [108, 101, 97, 102]))]), .ev (bi bMod [.pk 5, .ev (eC (.int 2))])]), (eVar 5), (bi bSlL [.pk 3, .ev (bi bSub [.ev (eC (.int 61)), .pk 5])])])) [a, u, u', .fr false Lrows, .no, .fr false (.int 14), .fr false Pg13, .no, .no] = some (.ok .nx [a, u, u', .fr false Lrows, .no, .fr false (.int 14), .fr false Pg14, .no, .no]) := by kernel_rfl
theorem l2_40 (a u u' : Slot) :  (sAsg 6 (eTup [(bi bIx [.ev (eLst [(eC (.str [98, 117, 99, 107, 101, 116])), (eC (.str [108, 101, 97, 102]))]), .ev (bi bMod [.pk 5, .ev (eC (.int 2))])]), (eVar 5), (bi bSlL [.pk 3, .ev (bi bSub [.ev (eC (.int 61)), .pk 5])])])) [a, u, u', .fr false Lrows, .no, .fr false (.int 40), .fr false Pg14, .no, .no] = some (.ok .nx [a, u, u', .fr false Lrows, .no, .fr false (.int 40), .fr false Pg40, .no, .no]) := by kernel_rfl
theorem l2_59 (a u u' : Slot) :  (sAsg 6 (eTup [(bi bIx [.ev (eLst [(eC (.str [98, 117, 99, 107, 101, 116])), (eC (.str [108, 101, 97, 102]))]), .ev (bi bMod [.pk 5, .ev (eC (.int 2))])]), (eVar 5), (bi bSlL [.pk 3, .ev (bi bSub [.ev (eC (.int 61)), .pk 5])])])) [a, u, u', .fr false Lrows, .no, .fr false (.int 59), .fr false Pg40, .no, .no] = some (.ok .nx [a, u, u', .fr false Lrows, .no, .fr false (.int 59), .fr false Pg59, .no, .no]) := by kernel_rfl
theorem l2_60 (a u u' : Slot) :  (sAsg 6 (eTup [(bi bIx [.ev (eLst [(eC (.str [98, 117, 99, 107, 101, 116])), (eC (.str [108, 101, 97, 102]))]), .ev (bi bMod [.pk 5, .ev (eC (.int 2))])]), (eVar 5), (bi bSlL [.pk 3, .ev (bi bSub [.ev (eC (.int 61)), .pk 5])])])) [a, u, u', .fr false Lrows, .no, .fr false (.int 60), .fr false Pg59, .no, .no] = some (.ok .nx [a, u, u', .fr false Lrows, .no, .fr false (.int 60), .fr false Pg60, .no, .no]) := by kernel_rfl
theorem l3 (a u u' : Slot) :  (sIf (tB (bi bNe [.ev (eComp [7] (iEv (eTup [(eC (.str [98, 117, 99, 107, 101, 116])), (eC (.str [108, 101, 97, 102]))])) (asg (.one 7)) (mret true) (eMetS told subT hs_met (eCall f_page_text [.ev (eTup [(eVar 7), (eC (.int 5)), (eVar 3)])]))), .ev (bi bMulB [.ev (eLst [(eC (.str [111, 112, 101, 114, 97, 116, 105, 111, 110]))]), .ev (eC (.int 2))])]))
  (sRet (eC (.bl false)))
  sPass) [a, u, u', .fr false Lrows, .no, .fr false (.int 60), .fr false Pg60, .no, .no] = some (.ok .nx [a, u, u', .fr false Lrows, .no, .fr false (.int 60), .fr false Pg60, .no, .no]) := by kernel_rfl
theorem l4 (a u u' : Slot) :  (sRet (eAnd (bi bEq [.pk 8, .ev (eLst [(eC (.str [97, 98, 99])), (eC (.str [120, 121, 122, 117, 118])), (eC (.str [97, 98])), (eC (.int 0)), (eC (.bl true))])]) (bi bEq [.ev (eCall f_read_page [.ev (eC (.str [98, 117, 99, 107, 101, 116, 32, 48, 32, 101, 109, 112, 116, 121, 32, 35, 57, 57, 48, 57, 32, 48]))]), .ev (eTup [(eC (.str [98, 117, 99, 107, 101, 116])), (eC (.int 0)), (eTup [])])]))) [a, u, u', .fr false Lrows, .no, .fr false (.int 60), .fr false Pg60, .no, .own false (.lst [.str [97, 98, 99], .str [120, 121, 122, 117, 118], .str [97, 98], .int 0, .bl true])] = some (.ok (.ret false (.bl true)) [a, u, u', .fr false Lrows, .no, .fr false (.int 60), .fr false Pg60, .no, .own false (.lst [.str [97, 98, 99], .str [120, 121, 122, 117, 118], .str [97, 98], .int 0, .bl true])]) := by kernel_rfl
theorem pure_law (ns : List Int) (h63 : ns.length ≤ 63) : ∃ fin, f_law [.fr false (.scr ns)] = some (.ok (false, .bl true) fin) := by
  have z : Out (b_law [.fr false (.scr ns), .no, .no, .no, .no, .no, .no, .no, .no]) fun f s => f = .ret false (.bl true) := by
    unfold b_law
    have hr : rangeOk (if (if (ns.length : Int) < 4 then (ns.length : Int) else 4) > 1 then (if (ns.length : Int) < 4 then (ns.length : Int) else 4) else 1) = true := by
      unfold rangeOk
      rw [Bool.and_eq_true, decide_eq_true_iff, decide_eq_true_iff]
      constructor <;> split <;> split <;> omega
    refine out_forI (I := fun s => ∃ u u', free u = true ∧ free u' = true ∧ s = [.fr false (.scr ns), u, u', .no, .no, .no, .no, .no, .no]) (ws := upto 0 (if (if (ns.length : Int) < 4 then (ns.length : Int) else 4) > 1 then (if (ns.length : Int) < 4 then (ns.length : Int) else 4) else 1).toNat) (by simp only [v_iRange1, v_mbd, v_bi, v_opdsE, v_opds0, v_mret, v_eC, v_lenS, v_lift, v_rd, v_opdsP, List.getElem?_cons_zero, Option.map_some, v_min2, v_max2, hr, if_true]) ⟨.no, .no, rfl, rfl, rfl⟩ (fun w hw s hs => ?_) (fun s hs => ?_)
    · obtain ⟨u, u', h1, h2, rfl⟩ := hs
      obtain ⟨k, hk, rfl⟩ := mem_upto hw
      have hk' : k < 1000 := by
        revert hk
        split <;> split <;> omega
      obtain ⟨v, fin, hv, e⟩ := vat_ok ns k hk'
      obtain ⟨v1, hv1, e1⟩ := right_fn hv
      obtain ⟨v2, hv2, e2⟩ := right_fn hv1
      obtain ⟨_, _, _, rfl⟩ := hv
      simp [h1, h2, e, e1, e2, ownS]
    · obtain ⟨u, u', h1, h2, rfl⟩ := hs
      refine out_nx (l1 _ _ _) ?_
      refine out_nx (s := [.fr false (.scr ns), u, u', .fr false Lrows, .no, .fr false (.int 60), .fr false Pg60, .no, .no]) (by
        rw [v_sFor, v_mbd, show iEv (eTup [(eC (.int 13)), (eC (.int 14)), (eC (.int 40)), (eC (.int 59)), (eC (.int 60))]) [.fr false (.scr ns), u, u', .fr false Lrows, .no, .no, .no, .no, .no] = some (.ok [.int 13, .int 14, .int 40, .int 59, .int 60] [.fr false (.scr ns), u, u', .fr false Lrows, .no, .no, .no, .no, .no]) by rfl]
        dsimp only
        rw [turn_nx (s := [.fr false (.scr ns), u, u', .fr false Lrows, .no, .fr false (.int 13), .no, .no, .no]) (s' := [.fr false (.scr ns), u, u', .fr false Lrows, .no, .fr false (.int 13), .fr false Pg13, .no, .no]) (by rfl) ((seq_nx (l2_13 _ _ _)).trans (page_turn pt13 tp13 pp13 _ _ _ _ _))]
        rw [turn_nx (s := [.fr false (.scr ns), u, u', .fr false Lrows, .no, .fr false (.int 14), .fr false Pg13, .no, .no]) (s' := [.fr false (.scr ns), u, u', .fr false Lrows, .no, .fr false (.int 14), .fr false Pg14, .no, .no]) (by rfl) ((seq_nx (l2_14 _ _ _)).trans (page_turn pt14 tp14 pp14 _ _ _ _ _))]
        rw [turn_nx (s := [.fr false (.scr ns), u, u', .fr false Lrows, .no, .fr false (.int 40), .fr false Pg14, .no, .no]) (s' := [.fr false (.scr ns), u, u', .fr false Lrows, .no, .fr false (.int 40), .fr false Pg40, .no, .no]) (by rfl) ((seq_nx (l2_40 _ _ _)).trans (page_turn pt40 tp40 pp40 _ _ _ _ _))]
        rw [turn_nx (s := [.fr false (.scr ns), u, u', .fr false Lrows, .no, .fr false (.int 59), .fr false Pg40, .no, .no]) (s' := [.fr false (.scr ns), u, u', .fr false Lrows, .no, .fr false (.int 59), .fr false Pg59, .no, .no]) (by rfl) ((seq_nx (l2_59 _ _ _)).trans (page_turn pt59 tp59 pp59 _ _ _ _ _))]
        rw [turn_nx (s := [.fr false (.scr ns), u, u', .fr false Lrows, .no, .fr false (.int 60), .fr false Pg59, .no, .no]) (s' := [.fr false (.scr ns), u, u', .fr false Lrows, .no, .fr false (.int 60), .fr false Pg60, .no, .no]) (by rfl) ((seq_nx (l2_60 _ _ _)).trans (page_turn pt60 tp60 pp60 _ _ _ _ _))]
        rfl) ?_
      refine out_nx (l3 _ _ _) ?_
      obtain ⟨_, n, _, a5, a6⟩ := lc_check
      have a7 : bLt [.int n, .int 9973] = some (.bl true) := by rw [v_ltI, decide_eq_true a6]
      have a8 : valC (f_check_number [.fr false (.str Lc)]) = some (.int n) := by rw [a5]; rfl
      refine out_nx (e_asgO (e_lst (e_cons (val_call rfl rfl t1) (e_cons (val_call rfl rfl t2) (e_cons (val_call rfl rfl t3) (e_cons (val_call rfl rfl t4) (e_cons (e_bi2 (val_call (e_args1 (e_bi2 rfl rfl lc)) rfl a8) rfl a7) rfl)))))) rfl rfl) ?_
      exact out_last (l4 _ _ _) rfl
  obtain ⟨f, s, e, rfl⟩ := out_eq z
  refine ⟨ends [.fr false (.scr ns)] s, ?_⟩
  unfold f_law runFn
  simp only [List.cons_append, List.nil_append, List.length_cons, List.length_nil, List.replicate]
  erw [e]
end
end Z
namespace Z
open PySem L2 VI
theorem all_mk {l : PySem.W.OpenLaw} {w : World} {K : PySem.W.Frag} {h : Heap} {mg : Str → Option Value} {fa : Addr} (KX : K.In h) (G : h.Ns mainGlobals mg) (hfa : mg "law" = some (.ref fa))
    {fA__law_bag : Addr} {od__law_bag an__law_bag : Option Addr} {sl__law_bag : Array (Option Value)} {oc__law_bag kV__law_bag dc__law_bag pm__law_bag ct__law_bag : Value}
    {cd__law_bag : Value}
    (a__law_bag : PySem.W.nsIn K mainGlobals "_law_bag" = some (some (.ref fA__law_bag)))
    (l__law_bag : K.lookup fA__law_bag = some ⟨oc__law_bag, od__law_bag, .func (PySem.W.fnOf "_law_bag" "_law_bag" (defArgs s__law_bag) (defBody s__law_bag) (defScope s__law_bag) .none kV__law_bag dc__law_bag pm__law_bag an__law_bag cd__law_bag ct__law_bag), sl__law_bag⟩)
    (c__law_bag : PySem.W.codeIn K cd__law_bag "_law_bag" = true)
    (k__law_bag : PySem.W.keepIn K (.ref fA__law_bag) = true)
    {fA__law_pull : Addr} {od__law_pull an__law_pull : Option Addr} {sl__law_pull : Array (Option Value)} {oc__law_pull kV__law_pull dc__law_pull pm__law_pull ct__law_pull : Value}
    {cd__law_pull : Value}
    (a__law_pull : PySem.W.nsIn K mainGlobals "_law_pull" = some (some (.ref fA__law_pull)))
    (l__law_pull : K.lookup fA__law_pull = some ⟨oc__law_pull, od__law_pull, .func (PySem.W.fnOf "_law_pull" "_law_pull" (defArgs s__law_pull) (defBody s__law_pull) (defScope s__law_pull) .none kV__law_pull dc__law_pull pm__law_pull an__law_pull cd__law_pull ct__law_pull), sl__law_pull⟩)
    (c__law_pull : PySem.W.codeIn K cd__law_pull "_law_pull" = true)
    (k__law_pull : PySem.W.keepIn K (.ref fA__law_pull) = true)
    {fA__law_choose : Addr} {od__law_choose an__law_choose : Option Addr} {sl__law_choose : Array (Option Value)} {oc__law_choose kV__law_choose dc__law_choose pm__law_choose ct__law_choose : Value}
    {cd__law_choose : Value}
    (a__law_choose : PySem.W.nsIn K mainGlobals "_law_choose" = some (some (.ref fA__law_choose)))
    (l__law_choose : K.lookup fA__law_choose = some ⟨oc__law_choose, od__law_choose, .func (PySem.W.fnOf "_law_choose" "_law_choose" (defArgs s__law_choose) (defBody s__law_choose) (defScope s__law_choose) .none kV__law_choose dc__law_choose pm__law_choose an__law_choose cd__law_choose ct__law_choose), sl__law_choose⟩)
    (c__law_choose : PySem.W.codeIn K cd__law_choose "_law_choose" = true)
    (k__law_choose : PySem.W.keepIn K (.ref fA__law_choose) = true)
    {fA_is_integer : Addr} {od_is_integer an_is_integer : Option Addr} {sl_is_integer : Array (Option Value)} {oc_is_integer kV_is_integer dc_is_integer pm_is_integer ct_is_integer : Value}
    {cd_is_integer : Value}
    (a_is_integer : PySem.W.nsIn K mainGlobals "is_integer" = some (some (.ref fA_is_integer)))
    (l_is_integer : K.lookup fA_is_integer = some ⟨oc_is_integer, od_is_integer, .func (PySem.W.fnOf "is_integer" "is_integer" (defArgs s_is_integer) (defBody s_is_integer) (defScope s_is_integer) .none kV_is_integer dc_is_integer pm_is_integer an_is_integer cd_is_integer ct_is_integer), sl_is_integer⟩)
    (c_is_integer : PySem.W.codeIn K cd_is_integer "is_integer" = true)
    (k_is_integer : PySem.W.keepIn K (.ref fA_is_integer) = true)
    {fA_is_between : Addr} {od_is_between an_is_between : Option Addr} {sl_is_between : Array (Option Value)} {oc_is_between kV_is_between dc_is_between pm_is_between ct_is_between : Value}
    {cd_is_between : Value}
    (a_is_between : PySem.W.nsIn K mainGlobals "is_between" = some (some (.ref fA_is_between)))
    (l_is_between : K.lookup fA_is_between = some ⟨oc_is_between, od_is_between, .func (PySem.W.fnOf "is_between" "is_between" (defArgs s_is_between) (defBody s_is_between) (defScope s_is_between) .none kV_is_between dc_is_between pm_is_between an_is_between cd_is_between ct_is_between), sl_is_between⟩)
    (c_is_between : PySem.W.codeIn K cd_is_between "is_between" = true)
    (k_is_between : PySem.W.keepIn K (.ref fA_is_between) = true)
    {fA_is_stamp : Addr} {od_is_stamp an_is_stamp : Option Addr} {sl_is_stamp : Array (Option Value)} {oc_is_stamp kV_is_stamp dc_is_stamp pm_is_stamp ct_is_stamp : Value}
    {cd_is_stamp : Value}
    (a_is_stamp : PySem.W.nsIn K mainGlobals "is_stamp" = some (some (.ref fA_is_stamp)))
    (l_is_stamp : K.lookup fA_is_stamp = some ⟨oc_is_stamp, od_is_stamp, .func (PySem.W.fnOf "is_stamp" "is_stamp" (defArgs s_is_stamp) (defBody s_is_stamp) (defScope s_is_stamp) .none kV_is_stamp dc_is_stamp pm_is_stamp an_is_stamp cd_is_stamp ct_is_stamp), sl_is_stamp⟩)
    (c_is_stamp : PySem.W.codeIn K cd_is_stamp "is_stamp" = true)
    (k_is_stamp : PySem.W.keepIn K (.ref fA_is_stamp) = true)
    {fA_is_name : Addr} {od_is_name an_is_name : Option Addr} {sl_is_name : Array (Option Value)} {oc_is_name kV_is_name dc_is_name pm_is_name ct_is_name : Value}
    {cd_is_name : Value}
    (a_is_name : PySem.W.nsIn K mainGlobals "is_name" = some (some (.ref fA_is_name)))
    (l_is_name : K.lookup fA_is_name = some ⟨oc_is_name, od_is_name, .func (PySem.W.fnOf "is_name" "is_name" (defArgs s_is_name) (defBody s_is_name) (defScope s_is_name) .none kV_is_name dc_is_name pm_is_name an_is_name cd_is_name ct_is_name), sl_is_name⟩)
    (c_is_name : PySem.W.codeIn K cd_is_name "is_name" = true)
    (k_is_name : PySem.W.keepIn K (.ref fA_is_name) = true)
    {fA_has_table : Addr} {od_has_table an_has_table : Option Addr} {sl_has_table : Array (Option Value)} {oc_has_table kV_has_table dc_has_table pm_has_table ct_has_table : Value}
    {cd_has_table : Value}
    (a_has_table : PySem.W.nsIn K mainGlobals "has_table" = some (some (.ref fA_has_table)))
    (l_has_table : K.lookup fA_has_table = some ⟨oc_has_table, od_has_table, .func (PySem.W.fnOf "has_table" "has_table" (defArgs s_has_table) (defBody s_has_table) (defScope s_has_table) .none kV_has_table dc_has_table pm_has_table an_has_table cd_has_table ct_has_table), sl_has_table⟩)
    (c_has_table : PySem.W.codeIn K cd_has_table "has_table" = true)
    (k_has_table : PySem.W.keepIn K (.ref fA_has_table) = true)
    {fA_is_row : Addr} {od_is_row an_is_row : Option Addr} {sl_is_row : Array (Option Value)} {oc_is_row kV_is_row dc_is_row pm_is_row ct_is_row : Value}
    {cd_is_row : Value}
    (a_is_row : PySem.W.nsIn K mainGlobals "is_row" = some (some (.ref fA_is_row)))
    (l_is_row : K.lookup fA_is_row = some ⟨oc_is_row, od_is_row, .func (PySem.W.fnOf "is_row" "is_row" (defArgs s_is_row) (defBody s_is_row) (defScope s_is_row) .none kV_is_row dc_is_row pm_is_row an_is_row cd_is_row ct_is_row), sl_is_row⟩)
    (c_is_row : PySem.W.codeIn K cd_is_row "is_row" = true)
    (k_is_row : PySem.W.keepIn K (.ref fA_is_row) = true)
    {fA_are_rising_rows : Addr} {od_are_rising_rows an_are_rising_rows : Option Addr} {sl_are_rising_rows : Array (Option Value)} {oc_are_rising_rows kV_are_rising_rows dc_are_rising_rows pm_are_rising_rows ct_are_rising_rows : Value}
    {cd_are_rising_rows : Value}
    (a_are_rising_rows : PySem.W.nsIn K mainGlobals "are_rising_rows" = some (some (.ref fA_are_rising_rows)))
    (l_are_rising_rows : K.lookup fA_are_rising_rows = some ⟨oc_are_rising_rows, od_are_rising_rows, .func (PySem.W.fnOf "are_rising_rows" "are_rising_rows" (defArgs s_are_rising_rows) (defBody s_are_rising_rows) (defScope s_are_rising_rows) .none kV_are_rising_rows dc_are_rising_rows pm_are_rising_rows an_are_rising_rows cd_are_rising_rows ct_are_rising_rows), sl_are_rising_rows⟩)
    (c_are_rising_rows : PySem.W.codeIn K cd_are_rising_rows "are_rising_rows" = true)
    (k_are_rising_rows : PySem.W.keepIn K (.ref fA_are_rising_rows) = true)
    {fA_are_kids : Addr} {od_are_kids an_are_kids : Option Addr} {sl_are_kids : Array (Option Value)} {oc_are_kids kV_are_kids dc_are_kids pm_are_kids ct_are_kids : Value}
    {cd_are_kids : Value}
    (a_are_kids : PySem.W.nsIn K mainGlobals "are_kids" = some (some (.ref fA_are_kids)))
    (l_are_kids : K.lookup fA_are_kids = some ⟨oc_are_kids, od_are_kids, .func (PySem.W.fnOf "are_kids" "are_kids" (defArgs s_are_kids) (defBody s_are_kids) (defScope s_are_kids) .none kV_are_kids dc_are_kids pm_are_kids an_are_kids cd_are_kids ct_are_kids), sl_are_kids⟩)
    (c_are_kids : PySem.W.codeIn K cd_are_kids "are_kids" = true)
    (k_are_kids : PySem.W.keepIn K (.ref fA_are_kids) = true)
    {fA_is_page : Addr} {od_is_page an_is_page : Option Addr} {sl_is_page : Array (Option Value)} {oc_is_page kV_is_page dc_is_page pm_is_page ct_is_page : Value}
    {cd_is_page : Value}
    (a_is_page : PySem.W.nsIn K mainGlobals "is_page" = some (some (.ref fA_is_page)))
    (l_is_page : K.lookup fA_is_page = some ⟨oc_is_page, od_is_page, .func (PySem.W.fnOf "is_page" "is_page" (defArgs s_is_page) (defBody s_is_page) (defScope s_is_page) .none kV_is_page dc_is_page pm_is_page an_is_page cd_is_page ct_is_page), sl_is_page⟩)
    (c_is_page : PySem.W.codeIn K cd_is_page "is_page" = true)
    (k_is_page : PySem.W.keepIn K (.ref fA_is_page) = true)
    {fA_require_page : Addr} {od_require_page an_require_page : Option Addr} {sl_require_page : Array (Option Value)} {oc_require_page kV_require_page dc_require_page pm_require_page ct_require_page : Value}
    {cd_require_page : Value}
    (a_require_page : PySem.W.nsIn K mainGlobals "require_page" = some (some (.ref fA_require_page)))
    (l_require_page : K.lookup fA_require_page = some ⟨oc_require_page, od_require_page, .func (PySem.W.fnOf "require_page" "require_page" (defArgs s_require_page) (defBody s_require_page) (defScope s_require_page) .none kV_require_page dc_require_page pm_require_page an_require_page cd_require_page ct_require_page), sl_require_page⟩)
    (c_require_page : PySem.W.codeIn K cd_require_page "require_page" = true)
    (k_require_page : PySem.W.keepIn K (.ref fA_require_page) = true)
    {fA_kids_text : Addr} {od_kids_text an_kids_text : Option Addr} {sl_kids_text : Array (Option Value)} {oc_kids_text kV_kids_text dc_kids_text pm_kids_text ct_kids_text : Value}
    {cd_kids_text : Value}
    (a_kids_text : PySem.W.nsIn K mainGlobals "kids_text" = some (some (.ref fA_kids_text)))
    (l_kids_text : K.lookup fA_kids_text = some ⟨oc_kids_text, od_kids_text, .func (PySem.W.fnOf "kids_text" "kids_text" (defArgs s_kids_text) (defBody s_kids_text) (defScope s_kids_text) .none kV_kids_text dc_kids_text pm_kids_text an_kids_text cd_kids_text ct_kids_text), sl_kids_text⟩)
    (c_kids_text : PySem.W.codeIn K cd_kids_text "kids_text" = true)
    (k_kids_text : PySem.W.keepIn K (.ref fA_kids_text) = true)
    {fA_terms_text : Addr} {od_terms_text an_terms_text : Option Addr} {sl_terms_text : Array (Option Value)} {oc_terms_text kV_terms_text dc_terms_text pm_terms_text ct_terms_text : Value}
    {cd_terms_text : Value}
    (a_terms_text : PySem.W.nsIn K mainGlobals "terms_text" = some (some (.ref fA_terms_text)))
    (l_terms_text : K.lookup fA_terms_text = some ⟨oc_terms_text, od_terms_text, .func (PySem.W.fnOf "terms_text" "terms_text" (defArgs s_terms_text) (defBody s_terms_text) (defScope s_terms_text) .none kV_terms_text dc_terms_text pm_terms_text an_terms_text cd_terms_text ct_terms_text), sl_terms_text⟩)
    (c_terms_text : PySem.W.codeIn K cd_terms_text "terms_text" = true)
    (k_terms_text : PySem.W.keepIn K (.ref fA_terms_text) = true)
    {fA_pattern_text : Addr} {od_pattern_text an_pattern_text : Option Addr} {sl_pattern_text : Array (Option Value)} {oc_pattern_text kV_pattern_text dc_pattern_text pm_pattern_text ct_pattern_text : Value}
    {cd_pattern_text : Value}
    (a_pattern_text : PySem.W.nsIn K mainGlobals "pattern_text" = some (some (.ref fA_pattern_text)))
    (l_pattern_text : K.lookup fA_pattern_text = some ⟨oc_pattern_text, od_pattern_text, .func (PySem.W.fnOf "pattern_text" "pattern_text" (defArgs s_pattern_text) (defBody s_pattern_text) (defScope s_pattern_text) .none kV_pattern_text dc_pattern_text pm_pattern_text an_pattern_text cd_pattern_text ct_pattern_text), sl_pattern_text⟩)
    (c_pattern_text : PySem.W.codeIn K cd_pattern_text "pattern_text" = true)
    (k_pattern_text : PySem.W.keepIn K (.ref fA_pattern_text) = true)
    {fA_rows_text : Addr} {od_rows_text an_rows_text : Option Addr} {sl_rows_text : Array (Option Value)} {oc_rows_text kV_rows_text dc_rows_text pm_rows_text ct_rows_text : Value}
    {cd_rows_text : Value}
    (a_rows_text : PySem.W.nsIn K mainGlobals "rows_text" = some (some (.ref fA_rows_text)))
    (l_rows_text : K.lookup fA_rows_text = some ⟨oc_rows_text, od_rows_text, .func (PySem.W.fnOf "rows_text" "rows_text" (defArgs s_rows_text) (defBody s_rows_text) (defScope s_rows_text) .none kV_rows_text dc_rows_text pm_rows_text an_rows_text cd_rows_text ct_rows_text), sl_rows_text⟩)
    (c_rows_text : PySem.W.codeIn K cd_rows_text "rows_text" = true)
    (k_rows_text : PySem.W.keepIn K (.ref fA_rows_text) = true)
    {fA_body_text : Addr} {od_body_text an_body_text : Option Addr} {sl_body_text : Array (Option Value)} {oc_body_text kV_body_text dc_body_text pm_body_text ct_body_text : Value}
    {cd_body_text : Value}
    (a_body_text : PySem.W.nsIn K mainGlobals "body_text" = some (some (.ref fA_body_text)))
    (l_body_text : K.lookup fA_body_text = some ⟨oc_body_text, od_body_text, .func (PySem.W.fnOf "body_text" "body_text" (defArgs s_body_text) (defBody s_body_text) (defScope s_body_text) .none kV_body_text dc_body_text pm_body_text an_body_text cd_body_text ct_body_text), sl_body_text⟩)
    (c_body_text : PySem.W.codeIn K cd_body_text "body_text" = true)
    (k_body_text : PySem.W.keepIn K (.ref fA_body_text) = true)
    {fA_check_in : Addr} {od_check_in an_check_in : Option Addr} {sl_check_in : Array (Option Value)} {oc_check_in kV_check_in dc_check_in pm_check_in ct_check_in : Value}
    {cd_check_in : Value}
    (a_check_in : PySem.W.nsIn K mainGlobals "check_in" = some (some (.ref fA_check_in)))
    (l_check_in : K.lookup fA_check_in = some ⟨oc_check_in, od_check_in, .func (PySem.W.fnOf "check_in" "check_in" (defArgs s_check_in) (defBody s_check_in) (defScope s_check_in) .none kV_check_in dc_check_in pm_check_in an_check_in cd_check_in ct_check_in), sl_check_in⟩)
    (c_check_in : PySem.W.codeIn K cd_check_in "check_in" = true)
    (k_check_in : PySem.W.keepIn K (.ref fA_check_in) = true)
    {fA_text_of_page : Addr} {od_text_of_page an_text_of_page : Option Addr} {sl_text_of_page : Array (Option Value)} {oc_text_of_page kV_text_of_page dc_text_of_page pm_text_of_page ct_text_of_page : Value}
    {cd_text_of_page : Value}
    (a_text_of_page : PySem.W.nsIn K mainGlobals "text_of_page" = some (some (.ref fA_text_of_page)))
    (l_text_of_page : K.lookup fA_text_of_page = some ⟨oc_text_of_page, od_text_of_page, .func (PySem.W.fnOf "text_of_page" "text_of_page" (defArgs s_text_of_page) (defBody s_text_of_page) (defScope s_text_of_page) .none kV_text_of_page dc_text_of_page pm_text_of_page an_text_of_page cd_text_of_page ct_text_of_page), sl_text_of_page⟩)
    (c_text_of_page : PySem.W.codeIn K cd_text_of_page "text_of_page" = true)
    (k_text_of_page : PySem.W.keepIn K (.ref fA_text_of_page) = true)
    {fA_page_text : Addr} {od_page_text an_page_text : Option Addr} {sl_page_text : Array (Option Value)} {oc_page_text kV_page_text dc_page_text pm_page_text ct_page_text : Value}
    {cd_page_text : Value}
    (a_page_text : PySem.W.nsIn K mainGlobals "page_text" = some (some (.ref fA_page_text)))
    (l_page_text : K.lookup fA_page_text = some ⟨oc_page_text, od_page_text, .func (PySem.W.fnOf "page_text" "page_text" (defArgs s_page_text) (defBody s_page_text) (defScope s_page_text) .none kV_page_text dc_page_text pm_page_text an_page_text cd_page_text ct_page_text), sl_page_text⟩)
    (c_page_text : PySem.W.codeIn K cd_page_text "page_text" = true)
    (k_page_text : PySem.W.keepIn K (.ref fA_page_text) = true)
    {fA_is_stamp_text : Addr} {od_is_stamp_text an_is_stamp_text : Option Addr} {sl_is_stamp_text : Array (Option Value)} {oc_is_stamp_text kV_is_stamp_text dc_is_stamp_text pm_is_stamp_text ct_is_stamp_text : Value}
    {cd_is_stamp_text : Value}
    (a_is_stamp_text : PySem.W.nsIn K mainGlobals "is_stamp_text" = some (some (.ref fA_is_stamp_text)))
    (l_is_stamp_text : K.lookup fA_is_stamp_text = some ⟨oc_is_stamp_text, od_is_stamp_text, .func (PySem.W.fnOf "is_stamp_text" "is_stamp_text" (defArgs s_is_stamp_text) (defBody s_is_stamp_text) (defScope s_is_stamp_text) .none kV_is_stamp_text dc_is_stamp_text pm_is_stamp_text an_is_stamp_text cd_is_stamp_text ct_is_stamp_text), sl_is_stamp_text⟩)
    (c_is_stamp_text : PySem.W.codeIn K cd_is_stamp_text "is_stamp_text" = true)
    (k_is_stamp_text : PySem.W.keepIn K (.ref fA_is_stamp_text) = true)
    {fA_parts_of_text : Addr} {od_parts_of_text an_parts_of_text : Option Addr} {sl_parts_of_text : Array (Option Value)} {oc_parts_of_text kV_parts_of_text dc_parts_of_text pm_parts_of_text ct_parts_of_text : Value}
    {cd_parts_of_text : Value}
    (a_parts_of_text : PySem.W.nsIn K mainGlobals "parts_of_text" = some (some (.ref fA_parts_of_text)))
    (l_parts_of_text : K.lookup fA_parts_of_text = some ⟨oc_parts_of_text, od_parts_of_text, .func (PySem.W.fnOf "parts_of_text" "parts_of_text" (defArgs s_parts_of_text) (defBody s_parts_of_text) (defScope s_parts_of_text) .none kV_parts_of_text dc_parts_of_text pm_parts_of_text an_parts_of_text cd_parts_of_text ct_parts_of_text), sl_parts_of_text⟩)
    (c_parts_of_text : PySem.W.codeIn K cd_parts_of_text "parts_of_text" = true)
    (k_parts_of_text : PySem.W.keepIn K (.ref fA_parts_of_text) = true)
    {fA_integer_of : Addr} {od_integer_of an_integer_of : Option Addr} {sl_integer_of : Array (Option Value)} {oc_integer_of kV_integer_of dc_integer_of pm_integer_of ct_integer_of : Value}
    {cd_integer_of : Value}
    (a_integer_of : PySem.W.nsIn K mainGlobals "integer_of" = some (some (.ref fA_integer_of)))
    (l_integer_of : K.lookup fA_integer_of = some ⟨oc_integer_of, od_integer_of, .func (PySem.W.fnOf "integer_of" "integer_of" (defArgs s_integer_of) (defBody s_integer_of) (defScope s_integer_of) .none kV_integer_of dc_integer_of pm_integer_of an_integer_of cd_integer_of ct_integer_of), sl_integer_of⟩)
    (c_integer_of : PySem.W.codeIn K cd_integer_of "integer_of" = true)
    (k_integer_of : PySem.W.keepIn K (.ref fA_integer_of) = true)
    {fA_row_of_text : Addr} {od_row_of_text an_row_of_text : Option Addr} {sl_row_of_text : Array (Option Value)} {oc_row_of_text kV_row_of_text dc_row_of_text pm_row_of_text ct_row_of_text : Value}
    {cd_row_of_text : Value}
    (a_row_of_text : PySem.W.nsIn K mainGlobals "row_of_text" = some (some (.ref fA_row_of_text)))
    (l_row_of_text : K.lookup fA_row_of_text = some ⟨oc_row_of_text, od_row_of_text, .func (PySem.W.fnOf "row_of_text" "row_of_text" (defArgs s_row_of_text) (defBody s_row_of_text) (defScope s_row_of_text) .none kV_row_of_text dc_row_of_text pm_row_of_text an_row_of_text cd_row_of_text ct_row_of_text), sl_row_of_text⟩)
    (c_row_of_text : PySem.W.codeIn K cd_row_of_text "row_of_text" = true)
    (k_row_of_text : PySem.W.keepIn K (.ref fA_row_of_text) = true)
    {fA_rows_of_text : Addr} {od_rows_of_text an_rows_of_text : Option Addr} {sl_rows_of_text : Array (Option Value)} {oc_rows_of_text kV_rows_of_text dc_rows_of_text pm_rows_of_text ct_rows_of_text : Value}
    {cd_rows_of_text : Value}
    (a_rows_of_text : PySem.W.nsIn K mainGlobals "rows_of_text" = some (some (.ref fA_rows_of_text)))
    (l_rows_of_text : K.lookup fA_rows_of_text = some ⟨oc_rows_of_text, od_rows_of_text, .func (PySem.W.fnOf "rows_of_text" "rows_of_text" (defArgs s_rows_of_text) (defBody s_rows_of_text) (defScope s_rows_of_text) .none kV_rows_of_text dc_rows_of_text pm_rows_of_text an_rows_of_text cd_rows_of_text ct_rows_of_text), sl_rows_of_text⟩)
    (c_rows_of_text : PySem.W.codeIn K cd_rows_of_text "rows_of_text" = true)
    (k_rows_of_text : PySem.W.keepIn K (.ref fA_rows_of_text) = true)
    {fA_branch_of : Addr} {od_branch_of an_branch_of : Option Addr} {sl_branch_of : Array (Option Value)} {oc_branch_of kV_branch_of dc_branch_of pm_branch_of ct_branch_of : Value}
    {cd_branch_of : Value}
    (a_branch_of : PySem.W.nsIn K mainGlobals "branch_of" = some (some (.ref fA_branch_of)))
    (l_branch_of : K.lookup fA_branch_of = some ⟨oc_branch_of, od_branch_of, .func (PySem.W.fnOf "branch_of" "branch_of" (defArgs s_branch_of) (defBody s_branch_of) (defScope s_branch_of) .none kV_branch_of dc_branch_of pm_branch_of an_branch_of cd_branch_of ct_branch_of), sl_branch_of⟩)
    (c_branch_of : PySem.W.codeIn K cd_branch_of "branch_of" = true)
    (k_branch_of : PySem.W.keepIn K (.ref fA_branch_of) = true)
    {fA_page_of_text : Addr} {od_page_of_text an_page_of_text : Option Addr} {sl_page_of_text : Array (Option Value)} {oc_page_of_text kV_page_of_text dc_page_of_text pm_page_of_text ct_page_of_text : Value}
    {cd_page_of_text : Value}
    (a_page_of_text : PySem.W.nsIn K mainGlobals "page_of_text" = some (some (.ref fA_page_of_text)))
    (l_page_of_text : K.lookup fA_page_of_text = some ⟨oc_page_of_text, od_page_of_text, .func (PySem.W.fnOf "page_of_text" "page_of_text" (defArgs s_page_of_text) (defBody s_page_of_text) (defScope s_page_of_text) .none kV_page_of_text dc_page_of_text pm_page_of_text an_page_of_text cd_page_of_text ct_page_of_text), sl_page_of_text⟩)
    (c_page_of_text : PySem.W.codeIn K cd_page_of_text "page_of_text" = true)
    (k_page_of_text : PySem.W.keepIn K (.ref fA_page_of_text) = true)
    {fA_read_page : Addr} {od_read_page an_read_page : Option Addr} {sl_read_page : Array (Option Value)} {oc_read_page kV_read_page dc_read_page pm_read_page ct_read_page : Value}
    {cd_read_page : Value}
    (a_read_page : PySem.W.nsIn K mainGlobals "read_page" = some (some (.ref fA_read_page)))
    (l_read_page : K.lookup fA_read_page = some ⟨oc_read_page, od_read_page, .func (PySem.W.fnOf "read_page" "read_page" (defArgs s_read_page) (defBody s_read_page) (defScope s_read_page) .none kV_read_page dc_read_page pm_read_page an_read_page cd_read_page ct_read_page), sl_read_page⟩)
    (c_read_page : PySem.W.codeIn K cd_read_page "read_page" = true)
    (k_read_page : PySem.W.keepIn K (.ref fA_read_page) = true)
    {fA_is_short_text : Addr} {od_is_short_text an_is_short_text : Option Addr} {sl_is_short_text : Array (Option Value)} {oc_is_short_text kV_is_short_text dc_is_short_text pm_is_short_text ct_is_short_text : Value}
    {cd_is_short_text : Value}
    (a_is_short_text : PySem.W.nsIn K mainGlobals "is_short_text" = some (some (.ref fA_is_short_text)))
    (l_is_short_text : K.lookup fA_is_short_text = some ⟨oc_is_short_text, od_is_short_text, .func (PySem.W.fnOf "is_short_text" "is_short_text" (defArgs s_is_short_text) (defBody s_is_short_text) (defScope s_is_short_text) .none kV_is_short_text dc_is_short_text pm_is_short_text an_is_short_text cd_is_short_text ct_is_short_text), sl_is_short_text⟩)
    (c_is_short_text : PySem.W.codeIn K cd_is_short_text "is_short_text" = true)
    (k_is_short_text : PySem.W.keepIn K (.ref fA_is_short_text) = true)
    {fA_require_short_text : Addr} {od_require_short_text an_require_short_text : Option Addr} {sl_require_short_text : Array (Option Value)} {oc_require_short_text kV_require_short_text dc_require_short_text pm_require_short_text ct_require_short_text : Value}
    {cd_require_short_text : Value}
    (a_require_short_text : PySem.W.nsIn K mainGlobals "require_short_text" = some (some (.ref fA_require_short_text)))
    (l_require_short_text : K.lookup fA_require_short_text = some ⟨oc_require_short_text, od_require_short_text, .func (PySem.W.fnOf "require_short_text" "require_short_text" (defArgs s_require_short_text) (defBody s_require_short_text) (defScope s_require_short_text) .none kV_require_short_text dc_require_short_text pm_require_short_text an_require_short_text cd_require_short_text ct_require_short_text), sl_require_short_text⟩)
    (c_require_short_text : PySem.W.codeIn K cd_require_short_text "require_short_text" = true)
    (k_require_short_text : PySem.W.keepIn K (.ref fA_require_short_text) = true)
    {fA_check_number : Addr} {od_check_number an_check_number : Option Addr} {sl_check_number : Array (Option Value)} {oc_check_number kV_check_number dc_check_number pm_check_number ct_check_number : Value}
    {cd_check_number : Value}
    (a_check_number : PySem.W.nsIn K mainGlobals "check_number" = some (some (.ref fA_check_number)))
    (l_check_number : K.lookup fA_check_number = some ⟨oc_check_number, od_check_number, .func (PySem.W.fnOf "check_number" "check_number" (defArgs s_check_number) (defBody s_check_number) (defScope s_check_number) .none kV_check_number dc_check_number pm_check_number an_check_number cd_check_number ct_check_number), sl_check_number⟩)
    (c_check_number : PySem.W.codeIn K cd_check_number "check_number" = true)
    (k_check_number : PySem.W.keepIn K (.ref fA_check_number) = true)
    {fA_torn : Addr} {od_torn an_torn : Option Addr} {sl_torn : Array (Option Value)} {oc_torn kV_torn dc_torn pm_torn ct_torn : Value}
    {cd_torn : Value}
    (a_torn : PySem.W.nsIn K mainGlobals "torn" = some (some (.ref fA_torn)))
    (l_torn : K.lookup fA_torn = some ⟨oc_torn, od_torn, .func (PySem.W.fnOf "torn" "torn" (defArgs s_torn) (defBody s_torn) (defScope s_torn) .none kV_torn dc_torn pm_torn an_torn cd_torn ct_torn), sl_torn⟩)
    (c_torn : PySem.W.codeIn K cd_torn "torn" = true)
    (k_torn : PySem.W.keepIn K (.ref fA_torn) = true)
    {fA_require_row : Addr} {od_require_row an_require_row : Option Addr} {sl_require_row : Array (Option Value)} {oc_require_row kV_require_row dc_require_row pm_require_row ct_require_row : Value}
    {cd_require_row : Value}
    (a_require_row : PySem.W.nsIn K mainGlobals "require_row" = some (some (.ref fA_require_row)))
    (l_require_row : K.lookup fA_require_row = some ⟨oc_require_row, od_require_row, .func (PySem.W.fnOf "require_row" "require_row" (defArgs s_require_row) (defBody s_require_row) (defScope s_require_row) .none kV_require_row dc_require_row pm_require_row an_require_row cd_require_row ct_require_row), sl_require_row⟩)
    (c_require_row : PySem.W.codeIn K cd_require_row "require_row" = true)
    (k_require_row : PySem.W.keepIn K (.ref fA_require_row) = true)
    {fA_bucket_in : Addr} {od_bucket_in an_bucket_in : Option Addr} {sl_bucket_in : Array (Option Value)} {oc_bucket_in kV_bucket_in dc_bucket_in pm_bucket_in ct_bucket_in : Value}
    {cd_bucket_in : Value}
    (a_bucket_in : PySem.W.nsIn K mainGlobals "bucket_in" = some (some (.ref fA_bucket_in)))
    (l_bucket_in : K.lookup fA_bucket_in = some ⟨oc_bucket_in, od_bucket_in, .func (PySem.W.fnOf "bucket_in" "bucket_in" (defArgs s_bucket_in) (defBody s_bucket_in) (defScope s_bucket_in) .none kV_bucket_in dc_bucket_in pm_bucket_in an_bucket_in cd_bucket_in ct_bucket_in), sl_bucket_in⟩)
    (c_bucket_in : PySem.W.codeIn K cd_bucket_in "bucket_in" = true)
    (k_bucket_in : PySem.W.keepIn K (.ref fA_bucket_in) = true)
    {fA_bucket_of : Addr} {od_bucket_of an_bucket_of : Option Addr} {sl_bucket_of : Array (Option Value)} {oc_bucket_of kV_bucket_of dc_bucket_of pm_bucket_of ct_bucket_of : Value}
    {cd_bucket_of : Value}
    (a_bucket_of : PySem.W.nsIn K mainGlobals "bucket_of" = some (some (.ref fA_bucket_of)))
    (l_bucket_of : K.lookup fA_bucket_of = some ⟨oc_bucket_of, od_bucket_of, .func (PySem.W.fnOf "bucket_of" "bucket_of" (defArgs s_bucket_of) (defBody s_bucket_of) (defScope s_bucket_of) .none kV_bucket_of dc_bucket_of pm_bucket_of an_bucket_of cd_bucket_of ct_bucket_of), sl_bucket_of⟩)
    (c_bucket_of : PySem.W.codeIn K cd_bucket_of "bucket_of" = true)
    (k_bucket_of : PySem.W.keepIn K (.ref fA_bucket_of) = true)
    {fA__law_right : Addr} {od__law_right an__law_right : Option Addr} {sl__law_right : Array (Option Value)} {oc__law_right kV__law_right dc__law_right pm__law_right ct__law_right : Value}
    {cc__law_right PP__law_right : Addr}
    (a__law_right : PySem.W.nsIn K mainGlobals "_law_right" = some (some (.ref fA__law_right)))
    (l__law_right : K.lookup fA__law_right = some ⟨oc__law_right, od__law_right, .func (PySem.W.fnOf "_law_right" "_law_right" (defArgs s__law_right) (defBody s__law_right) (defScope s__law_right) .none kV__law_right dc__law_right pm__law_right an__law_right (.ref cc__law_right) ct__law_right), sl__law_right⟩)
    (c__law_right : PySem.W.codeIn K (.ref cc__law_right) "_law_right" = true)
    (k__law_right : PySem.W.keepIn K (.ref fA__law_right) = true)
    {dd__law_right : Option Addr} {vs__law_right : Array Value} {slc__law_right : Array (Option Value)}
    (lc__law_right : K.lookup cc__law_right = some ⟨.type "code", dd__law_right, .fields vs__law_right, slc__law_right⟩)
    (h__law_right : CodeV vs__law_right cc__law_right PP__law_right)
    (nt__law_right : K.lookup PP__law_right = none)
    (tb__law_right : h.get? PP__law_right = some { cls := .none, data := .fields #[] })
    {fA_law : Addr} {od_law an_law : Option Addr} {sl_law : Array (Option Value)} {oc_law kV_law dc_law pm_law ct_law : Value}
    {cc_law PP_law : Addr}
    (a_law : PySem.W.nsIn K mainGlobals "law" = some (some (.ref fA_law)))
    (l_law : K.lookup fA_law = some ⟨oc_law, od_law, .func (PySem.W.fnOf "law" "law" (defArgs s_law) (defBody s_law) (defScope s_law) .none kV_law dc_law pm_law an_law (.ref cc_law) ct_law), sl_law⟩)
    (c_law : PySem.W.codeIn K (.ref cc_law) "law" = true)
    (k_law : PySem.W.keepIn K (.ref fA_law) = true)
    {dd_law : Option Addr} {vs_law : Array Value} {slc_law : Array (Option Value)}
    (lc_law : K.lookup cc_law = some ⟨.type "code", dd_law, .fields vs_law, slc_law⟩)
    (h_law : CodeV vs_law cc_law PP_law)
    (nt_law : K.lookup PP_law = none)
    (tb_law : h.get? PP_law = some { cls := .none, data := .fields #[] })
    {fA__law_met : Addr} {od__law_met an__law_met : Option Addr} {sl__law_met : Array (Option Value)} {oc__law_met kV__law_met dc__law_met pm__law_met ct__law_met : Value}
    {cd__law_met : Value}
    (a__law_met : PySem.W.nsIn K mainGlobals "_law_met" = some (some (.ref fA__law_met)))
    (l__law_met : K.lookup fA__law_met = some ⟨oc__law_met, od__law_met, .func (PySem.W.fnOf "_law_met" "_law_met" (defArgs s_met) (defBody s_met) (defScope s_met) .none kV__law_met dc__law_met pm__law_met an__law_met cd__law_met ct__law_met), sl__law_met⟩)
    (c__law_met : PySem.W.codeIn K cd__law_met "_law_met" = true)
    (k__law_met : PySem.W.keepIn K (.ref fA__law_met) = true)
    (z_abs : PySem.W.nsIn K mainGlobals "abs" = some none)
    (z_all : PySem.W.nsIn K mainGlobals "all" = some none)
    (z_bool : PySem.W.nsIn K mainGlobals "bool" = some none)
    (z_enumerate : PySem.W.nsIn K mainGlobals "enumerate" = some none)
    (z_int : PySem.W.nsIn K mainGlobals "int" = some none)
    (z_isinstance : PySem.W.nsIn K mainGlobals "isinstance" = some none)
    (z_len : PySem.W.nsIn K mainGlobals "len" = some none)
    (z_max : PySem.W.nsIn K mainGlobals "max" = some none)
    (z_min : PySem.W.nsIn K mainGlobals "min" = some none)
    (z_ord : PySem.W.nsIn K mainGlobals "ord" = some none)
    (z_range : PySem.W.nsIn K mainGlobals "range" = some none)
    (z_repr : PySem.W.nsIn K mainGlobals "repr" = some none)
    (z_str : PySem.W.nsIn K mainGlobals "str" = some none)
    (z_tuple : PySem.W.nsIn K mainGlobals "tuple" = some none)
    (z_zip : PySem.W.nsIn K mainGlobals "zip" = some none)
    {t_BETWEEN_PARTS : Tok}
    (g_BETWEEN_PARTS : PySem.W.nsIn K mainGlobals "BETWEEN_PARTS" = some (some (.str " : " t_BETWEEN_PARTS)))
    {t_BETWEEN_ROWS : Tok}
    (g_BETWEEN_ROWS : PySem.W.nsIn K mainGlobals "BETWEEN_ROWS" = some (some (.str "; " t_BETWEEN_ROWS)))
    {t_BRANCH : Tok}
    (g_BRANCH : PySem.W.nsIn K mainGlobals "BRANCH" = some (some (.str "branch" t_BRANCH)))
    {t_BUCKET : Tok}
    (g_BUCKET : PySem.W.nsIn K mainGlobals "BUCKET" = some (some (.str "bucket" t_BUCKET)))
    {t_CHECK_PRIME : Tok}
    (g_CHECK_PRIME : PySem.W.nsIn K mainGlobals "CHECK_PRIME" = some (some (.int 9973 t_CHECK_PRIME)))
    {t_DIGITS : Tok}
    (g_DIGITS : PySem.W.nsIn K mainGlobals "DIGITS" = some (some (.str "0123456789" t_DIGITS)))
    {t_EMPTY : Tok}
    (g_EMPTY : PySem.W.nsIn K mainGlobals "EMPTY" = some (some (.str "empty" t_EMPTY)))
    {t_LEAF : Tok}
    (g_LEAF : PySem.W.nsIn K mainGlobals "LEAF" = some (some (.str "leaf" t_LEAF)))
    {t_LEAST_BUCKETS : Tok}
    (g_LEAST_BUCKETS : PySem.W.nsIn K mainGlobals "LEAST_BUCKETS" = some (some (.int 2 t_LEAST_BUCKETS)))
    {t_LEAST_KIDS : Tok}
    (g_LEAST_KIDS : PySem.W.nsIn K mainGlobals "LEAST_KIDS" = some (some (.int 2 t_LEAST_KIDS)))
    {t_LETTERS : Tok}
    (g_LETTERS : PySem.W.nsIn K mainGlobals "LETTERS" = some (some (.str "abcdefghijklmnopqrstuvwxyz" t_LETTERS)))
    {t_MAX_COLUMNS : Tok}
    (g_MAX_COLUMNS : PySem.W.nsIn K mainGlobals "MAX_COLUMNS" = some (some (.int 3 t_MAX_COLUMNS)))
    {t_MAX_SIGNS : Tok}
    (g_MAX_SIGNS : PySem.W.nsIn K mainGlobals "MAX_SIGNS" = some (some (.int 8 t_MAX_SIGNS)))
    {t_MOST_BUCKETS : Tok}
    (g_MOST_BUCKETS : PySem.W.nsIn K mainGlobals "MOST_BUCKETS" = some (some (.int 8 t_MOST_BUCKETS)))
    {t_MOST_KIDS : Tok}
    (g_MOST_KIDS : PySem.W.nsIn K mainGlobals "MOST_KIDS" = some (some (.int 4 t_MOST_KIDS)))
    {t_MOST_PAGE : Tok}
    (g_MOST_PAGE : PySem.W.nsIn K mainGlobals "MOST_PAGE" = some (some (.int 999 t_MOST_PAGE)))
    {t_MOST_PAGE_ROWS : Tok}
    (g_MOST_PAGE_ROWS : PySem.W.nsIn K mainGlobals "MOST_PAGE_ROWS" = some (some (.int 60 t_MOST_PAGE_ROWS)))
    {t_MOST_SIGNS : Tok}
    (g_MOST_SIGNS : PySem.W.nsIn K mainGlobals "MOST_SIGNS" = some (some (.int 10000 t_MOST_SIGNS)))
    (g_MOST_STAMP : ∃ t, mg "MOST_STAMP" = some (.int 1000000000 t))
    {t_NO_ROWS : Tok}
    (g_NO_ROWS : PySem.W.nsIn K mainGlobals "NO_ROWS" = some (some (.str "empty" t_NO_ROWS)))
    {t_PARTS : Tok}
    (g_PARTS : PySem.W.nsIn K mainGlobals "PARTS" = some (some (.str ", " t_PARTS)))
    {t_ROWS : Tok}
    (g_ROWS : PySem.W.nsIn K mainGlobals "ROWS" = some (some (.str "; " t_ROWS)))
    {C_InvalidRow : Addr}
    (aC_InvalidRow : PySem.W.nsIn K mainGlobals "InvalidRow" = some (some (.ref C_InvalidRow)))
    (kC_InvalidRow : PySem.W.keepIn K (.ref C_InvalidRow) = true)
    (eC_InvalidRow : PySem.W.subIn K (.ref C_InvalidRow) (.type "BaseException") = some true)
    (tC_InvalidRow : PySem.W.typeIn K (.ref C_InvalidRow) = some (.type "type"))
    (q_InvalidRow : PySem.W.excIn K C_InvalidRow [.type "ValueError", .type "Exception", .type "BaseException", .type "object"] "ValueError.__new__" = true)
    {C_InvalidDatabase : Addr}
    (aC_InvalidDatabase : PySem.W.nsIn K mainGlobals "InvalidDatabase" = some (some (.ref C_InvalidDatabase)))
    (kC_InvalidDatabase : PySem.W.keepIn K (.ref C_InvalidDatabase) = true)
    (eC_InvalidDatabase : PySem.W.subIn K (.ref C_InvalidDatabase) (.type "BaseException") = some true)
    (tC_InvalidDatabase : PySem.W.typeIn K (.ref C_InvalidDatabase) = some (.type "type"))
    {C_InvalidOperation : Addr}
    (aC_InvalidOperation : PySem.W.nsIn K mainGlobals "InvalidOperation" = some (some (.ref C_InvalidOperation)))
    (kC_InvalidOperation : PySem.W.keepIn K (.ref C_InvalidOperation) = true)
    (eC_InvalidOperation : PySem.W.subIn K (.ref C_InvalidOperation) (.type "BaseException") = some true)
    (tC_InvalidOperation : PySem.W.typeIn K (.ref C_InvalidOperation) = some (.type "type"))
    (q_InvalidOperation : PySem.W.excIn K C_InvalidOperation [.type "ValueError", .type "Exception", .type "BaseException", .type "object"] "ValueError.__new__" = true)
    {C_ParseError : Addr}
    (aC_ParseError : PySem.W.nsIn K mainGlobals "ParseError" = some (some (.ref C_ParseError)))
    (kC_ParseError : PySem.W.keepIn K (.ref C_ParseError) = true)
    (eC_ParseError : PySem.W.subIn K (.ref C_ParseError) (.type "BaseException") = some true)
    (tC_ParseError : PySem.W.typeIn K (.ref C_ParseError) = some (.type "type"))
    (q_ParseError : PySem.W.excIn K C_ParseError [.type "ValueError", .type "Exception", .type "BaseException", .type "object"] "ValueError.__new__" = true)
    {C_InvalidNumber : Addr}
    (aC_InvalidNumber : PySem.W.nsIn K mainGlobals "InvalidNumber" = some (some (.ref C_InvalidNumber)))
    (kC_InvalidNumber : PySem.W.keepIn K (.ref C_InvalidNumber) = true)
    (eC_InvalidNumber : PySem.W.subIn K (.ref C_InvalidNumber) (.type "BaseException") = some true)
    (tC_InvalidNumber : PySem.W.typeIn K (.ref C_InvalidNumber) = some (.type "type"))
    {I_InvalidNumber : Addr} {odI_InvalidNumber anI_InvalidNumber : Option Addr} {slI_InvalidNumber : Array (Option Value)} {ocI_InvalidNumber dcI_InvalidNumber pmI_InvalidNumber cdI_InvalidNumber ctI_InvalidNumber : Value}
    (qi_InvalidNumber : PySem.W.excInitIn K C_InvalidNumber [.type "IndexError", .type "LookupError", .type "Exception", .type "BaseException", .type "object"] "IndexError.__new__" = true)
    (ov_InvalidNumber : PySem.W.excOver K C_InvalidNumber [.type "IndexError", .type "LookupError", .type "Exception", .type "BaseException", .type "object"] = true)
    (hd_InvalidNumber : PySem.W.hasDictIn K C_InvalidNumber = true)
    (sa_InvalidNumber : PySem.W.findIn K (.ref C_InvalidNumber) "__setattr__" = some (some (.builtin "object.__setattr__")))
    (ga_InvalidNumber : PySem.W.findIn K (.ref C_InvalidNumber) "__getattribute__" = some (some (.builtin "BaseException.__getattribute__")))
    (gg_InvalidNumber : PySem.W.findIn K (.ref C_InvalidNumber) "__getattr__" = some none)
    (no_InvalidNumber : PySem.W.findIn K (.ref C_InvalidNumber) "value" = some none)
    (iC_InvalidNumber : PySem.W.findIn K (.ref C_InvalidNumber) "__init__" = some (some (.ref I_InvalidNumber)))
    (tI_InvalidNumber : PySem.W.typeIn K (.ref I_InvalidNumber) = some (.type "function"))
    (lI_InvalidNumber : K.lookup I_InvalidNumber = some ⟨ocI_InvalidNumber, odI_InvalidNumber, .func (PySem.W.fnOf "__init__" "InvalidNumber.__init__" (PySem.VIX.iA "value" ⟨28, 17, 28, 21⟩ ⟨28, 23, 28, 28⟩) (PySem.VIX.iB "value" ⟨29, 8, 29, 12⟩ ⟨29, 8, 29, 18⟩ ⟨29, 21, 29, 26⟩ ⟨29, 8, 29, 26⟩) (PySem.VIX.iS "value") .none .none dcI_InvalidNumber pmI_InvalidNumber anI_InvalidNumber cdI_InvalidNumber ctI_InvalidNumber), slI_InvalidNumber⟩)
    (cI_InvalidNumber : PySem.W.codeIn K cdI_InvalidNumber "InvalidNumber.__init__" = true)
    {C_UnknownName : Addr}
    (aC_UnknownName : PySem.W.nsIn K mainGlobals "UnknownName" = some (some (.ref C_UnknownName)))
    (kC_UnknownName : PySem.W.keepIn K (.ref C_UnknownName) = true)
    (eC_UnknownName : PySem.W.subIn K (.ref C_UnknownName) (.type "BaseException") = some true)
    (tC_UnknownName : PySem.W.typeIn K (.ref C_UnknownName) = some (.type "type"))
    (hd_UnknownName : PySem.W.hasDictIn K C_UnknownName = true)
    (ga_UnknownName : PySem.W.findIn K (.ref C_UnknownName) "__getattribute__" = some (some (.builtin "BaseException.__getattribute__")))
    (gg_UnknownName : PySem.W.findIn K (.ref C_UnknownName) "__getattr__" = some none)
    (no_UnknownName : PySem.W.findIn K (.ref C_UnknownName) "name" = some none)
    {C_TooMany : Addr}
    (aC_TooMany : PySem.W.nsIn K mainGlobals "TooMany" = some (some (.ref C_TooMany)))
    (kC_TooMany : PySem.W.keepIn K (.ref C_TooMany) = true)
    (eC_TooMany : PySem.W.subIn K (.ref C_TooMany) (.type "BaseException") = some true)
    (tC_TooMany : PySem.W.typeIn K (.ref C_TooMany) = some (.type "type"))
    (hd_TooMany : PySem.W.hasDictIn K C_TooMany = true)
    (ga_TooMany : PySem.W.findIn K (.ref C_TooMany) "__getattribute__" = some (some (.builtin "BaseException.__getattribute__")))
    (gg_TooMany : PySem.W.findIn K (.ref C_TooMany) "__getattr__" = some none)
    (no_TooMany : PySem.W.findIn K (.ref C_TooMany) "limit" = some none)
    (x_InvalidRow_InvalidRow : PySem.W.exmOne K (.ref C_InvalidRow) (.ref C_InvalidRow) = some true)
    (x_InvalidRow_InvalidDatabase : PySem.W.exmOne K (.ref C_InvalidRow) (.ref C_InvalidDatabase) = some false)
    (x_InvalidRow_InvalidOperation : PySem.W.exmOne K (.ref C_InvalidRow) (.ref C_InvalidOperation) = some false)
    (x_InvalidRow_ParseError : PySem.W.exmOne K (.ref C_InvalidRow) (.ref C_ParseError) = some false)
    (x_InvalidRow_InvalidNumber : PySem.W.exmOne K (.ref C_InvalidRow) (.ref C_InvalidNumber) = some false)
    (x_InvalidRow_UnknownName : PySem.W.exmOne K (.ref C_InvalidRow) (.ref C_UnknownName) = some false)
    (x_InvalidRow_TooMany : PySem.W.exmOne K (.ref C_InvalidRow) (.ref C_TooMany) = some false)
    (x_InvalidDatabase_InvalidRow : PySem.W.exmOne K (.ref C_InvalidDatabase) (.ref C_InvalidRow) = some false)
    (x_InvalidDatabase_InvalidDatabase : PySem.W.exmOne K (.ref C_InvalidDatabase) (.ref C_InvalidDatabase) = some true)
    (x_InvalidDatabase_InvalidOperation : PySem.W.exmOne K (.ref C_InvalidDatabase) (.ref C_InvalidOperation) = some false)
    (x_InvalidDatabase_ParseError : PySem.W.exmOne K (.ref C_InvalidDatabase) (.ref C_ParseError) = some false)
    (x_InvalidDatabase_InvalidNumber : PySem.W.exmOne K (.ref C_InvalidDatabase) (.ref C_InvalidNumber) = some false)
    (x_InvalidDatabase_UnknownName : PySem.W.exmOne K (.ref C_InvalidDatabase) (.ref C_UnknownName) = some false)
    (x_InvalidDatabase_TooMany : PySem.W.exmOne K (.ref C_InvalidDatabase) (.ref C_TooMany) = some false)
    (x_InvalidOperation_InvalidRow : PySem.W.exmOne K (.ref C_InvalidOperation) (.ref C_InvalidRow) = some false)
    (x_InvalidOperation_InvalidDatabase : PySem.W.exmOne K (.ref C_InvalidOperation) (.ref C_InvalidDatabase) = some false)
    (x_InvalidOperation_InvalidOperation : PySem.W.exmOne K (.ref C_InvalidOperation) (.ref C_InvalidOperation) = some true)
    (x_InvalidOperation_ParseError : PySem.W.exmOne K (.ref C_InvalidOperation) (.ref C_ParseError) = some false)
    (x_InvalidOperation_InvalidNumber : PySem.W.exmOne K (.ref C_InvalidOperation) (.ref C_InvalidNumber) = some false)
    (x_InvalidOperation_UnknownName : PySem.W.exmOne K (.ref C_InvalidOperation) (.ref C_UnknownName) = some false)
    (x_InvalidOperation_TooMany : PySem.W.exmOne K (.ref C_InvalidOperation) (.ref C_TooMany) = some false)
    (x_ParseError_InvalidRow : PySem.W.exmOne K (.ref C_ParseError) (.ref C_InvalidRow) = some false)
    (x_ParseError_InvalidDatabase : PySem.W.exmOne K (.ref C_ParseError) (.ref C_InvalidDatabase) = some false)
    (x_ParseError_InvalidOperation : PySem.W.exmOne K (.ref C_ParseError) (.ref C_InvalidOperation) = some false)
    (x_ParseError_ParseError : PySem.W.exmOne K (.ref C_ParseError) (.ref C_ParseError) = some true)
    (x_ParseError_InvalidNumber : PySem.W.exmOne K (.ref C_ParseError) (.ref C_InvalidNumber) = some false)
    (x_ParseError_UnknownName : PySem.W.exmOne K (.ref C_ParseError) (.ref C_UnknownName) = some false)
    (x_ParseError_TooMany : PySem.W.exmOne K (.ref C_ParseError) (.ref C_TooMany) = some false)
    (x_InvalidNumber_InvalidRow : PySem.W.exmOne K (.ref C_InvalidNumber) (.ref C_InvalidRow) = some false)
    (x_InvalidNumber_InvalidDatabase : PySem.W.exmOne K (.ref C_InvalidNumber) (.ref C_InvalidDatabase) = some false)
    (x_InvalidNumber_InvalidOperation : PySem.W.exmOne K (.ref C_InvalidNumber) (.ref C_InvalidOperation) = some false)
    (x_InvalidNumber_ParseError : PySem.W.exmOne K (.ref C_InvalidNumber) (.ref C_ParseError) = some false)
    (x_InvalidNumber_InvalidNumber : PySem.W.exmOne K (.ref C_InvalidNumber) (.ref C_InvalidNumber) = some true)
    (x_InvalidNumber_UnknownName : PySem.W.exmOne K (.ref C_InvalidNumber) (.ref C_UnknownName) = some false)
    (x_InvalidNumber_TooMany : PySem.W.exmOne K (.ref C_InvalidNumber) (.ref C_TooMany) = some false)
    (x_UnknownName_InvalidRow : PySem.W.exmOne K (.ref C_UnknownName) (.ref C_InvalidRow) = some false)
    (x_UnknownName_InvalidDatabase : PySem.W.exmOne K (.ref C_UnknownName) (.ref C_InvalidDatabase) = some false)
    (x_UnknownName_InvalidOperation : PySem.W.exmOne K (.ref C_UnknownName) (.ref C_InvalidOperation) = some false)
    (x_UnknownName_ParseError : PySem.W.exmOne K (.ref C_UnknownName) (.ref C_ParseError) = some false)
    (x_UnknownName_InvalidNumber : PySem.W.exmOne K (.ref C_UnknownName) (.ref C_InvalidNumber) = some false)
    (x_UnknownName_UnknownName : PySem.W.exmOne K (.ref C_UnknownName) (.ref C_UnknownName) = some true)
    (x_UnknownName_TooMany : PySem.W.exmOne K (.ref C_UnknownName) (.ref C_TooMany) = some false)
    (x_TooMany_InvalidRow : PySem.W.exmOne K (.ref C_TooMany) (.ref C_InvalidRow) = some false)
    (x_TooMany_InvalidDatabase : PySem.W.exmOne K (.ref C_TooMany) (.ref C_InvalidDatabase) = some false)
    (x_TooMany_InvalidOperation : PySem.W.exmOne K (.ref C_TooMany) (.ref C_InvalidOperation) = some false)
    (x_TooMany_ParseError : PySem.W.exmOne K (.ref C_TooMany) (.ref C_ParseError) = some false)
    (x_TooMany_InvalidNumber : PySem.W.exmOne K (.ref C_TooMany) (.ref C_InvalidNumber) = some false)
    (x_TooMany_UnknownName : PySem.W.exmOne K (.ref C_TooMany) (.ref C_UnknownName) = some false)
    (x_TooMany_TooMany : PySem.W.exmOne K (.ref C_TooMany) (.ref C_TooMany) = some true)
    (ne__law_right_law : PP__law_right ≠ PP_law) : LawG l w K 14 63 "script" mg fa h := by
  have e := hfa.symm.trans (PySem.W.mg_of KX G a_law)
  cases e
  let c : Cn := ⟨K, fun _ => 0, fun k => match k with | 1 => C_InvalidRow | 2 => C_InvalidDatabase | 3 => C_InvalidOperation | 4 => C_ParseError | 5 => C_InvalidNumber | 6 => C_UnknownName | 7 => C_TooMany | _ => 0, fun k => match k with | 5 => some "value" | 6 => some "name" | 7 => some "limit" | _ => none, [(PP__law_right, (("_law_right" : Str) ++ ".<locals>." ++ "<lambda>")), (PP_law, (("law" : Str) ++ ".<locals>." ++ "<lambda>"))]⟩
  have T : Txt mg := {
    n_abs := PySem.W.mg_none_of KX G z_abs
    n_all := PySem.W.mg_none_of KX G z_all
    n_bool := PySem.W.mg_none_of KX G z_bool
    n_enumerate := PySem.W.mg_none_of KX G z_enumerate
    n_int := PySem.W.mg_none_of KX G z_int
    n_isinstance := PySem.W.mg_none_of KX G z_isinstance
    n_len := PySem.W.mg_none_of KX G z_len
    n_max := PySem.W.mg_none_of KX G z_max
    n_min := PySem.W.mg_none_of KX G z_min
    n_ord := PySem.W.mg_none_of KX G z_ord
    n_range := PySem.W.mg_none_of KX G z_range
    n_repr := PySem.W.mg_none_of KX G z_repr
    n_str := PySem.W.mg_none_of KX G z_str
    n_tuple := PySem.W.mg_none_of KX G z_tuple
    n_zip := PySem.W.mg_none_of KX G z_zip
    g_BETWEEN_PARTS := ⟨_, PySem.W.mg_of KX G g_BETWEEN_PARTS⟩
    g_BETWEEN_ROWS := ⟨_, PySem.W.mg_of KX G g_BETWEEN_ROWS⟩
    g_BRANCH := ⟨_, PySem.W.mg_of KX G g_BRANCH⟩
    g_BUCKET := ⟨_, PySem.W.mg_of KX G g_BUCKET⟩
    g_CHECK_PRIME := ⟨_, PySem.W.mg_of KX G g_CHECK_PRIME⟩
    g_DIGITS := ⟨_, PySem.W.mg_of KX G g_DIGITS⟩
    g_EMPTY := ⟨_, PySem.W.mg_of KX G g_EMPTY⟩
    g_LEAF := ⟨_, PySem.W.mg_of KX G g_LEAF⟩
    g_LEAST_BUCKETS := ⟨_, PySem.W.mg_of KX G g_LEAST_BUCKETS⟩
    g_LEAST_KIDS := ⟨_, PySem.W.mg_of KX G g_LEAST_KIDS⟩
    g_LETTERS := ⟨_, PySem.W.mg_of KX G g_LETTERS⟩
    g_MAX_COLUMNS := ⟨_, PySem.W.mg_of KX G g_MAX_COLUMNS⟩
    g_MAX_SIGNS := ⟨_, PySem.W.mg_of KX G g_MAX_SIGNS⟩
    g_MOST_BUCKETS := ⟨_, PySem.W.mg_of KX G g_MOST_BUCKETS⟩
    g_MOST_KIDS := ⟨_, PySem.W.mg_of KX G g_MOST_KIDS⟩
    g_MOST_PAGE := ⟨_, PySem.W.mg_of KX G g_MOST_PAGE⟩
    g_MOST_PAGE_ROWS := ⟨_, PySem.W.mg_of KX G g_MOST_PAGE_ROWS⟩
    g_MOST_SIGNS := ⟨_, PySem.W.mg_of KX G g_MOST_SIGNS⟩
    g_MOST_STAMP := g_MOST_STAMP
    g_NO_ROWS := ⟨_, PySem.W.mg_of KX G g_NO_ROWS⟩
    g_PARTS := ⟨_, PySem.W.mg_of KX G g_PARTS⟩
    g_ROWS := ⟨_, PySem.W.mg_of KX G g_ROWS⟩
  }
  have e_InvalidRow : ExMK c mg "InvalidRow" 1 := ⟨⟨_, _, _, _, PySem.F.excBase_ValueError, q_InvalidRow, PySem.W.mg_of KX G aC_InvalidRow, kC_InvalidRow, eC_InvalidRow, tC_InvalidRow⟩, rfl⟩
  have e_InvalidOperation : ExMK c mg "InvalidOperation" 3 := ⟨⟨_, _, _, _, PySem.F.excBase_ValueError, q_InvalidOperation, PySem.W.mg_of KX G aC_InvalidOperation, kC_InvalidOperation, eC_InvalidOperation, tC_InvalidOperation⟩, rfl⟩
  have e_ParseError : ExMK c mg "ParseError" 4 := ⟨⟨_, _, _, _, PySem.F.excBase_ValueError, q_ParseError, PySem.W.mg_of KX G aC_ParseError, kC_ParseError, eC_ParseError, tC_ParseError⟩, rfl⟩
  have tx_InvalidNumber : PySem.VIX.ExcTxt K "IndexError" "IndexError.__new__" "IndexError.__init__" [.type "IndexError", .type "LookupError", .type "Exception", .type "BaseException", .type "object"] "InvalidNumber" "value" C_InvalidNumber I_InvalidNumber :=
    { fb := PySem.F.excBase_IndexError, sf := PySem.F.store_IndexError, q := qi_InvalidNumber, ov := ov_InvalidNumber, hd := has_dict hd_InvalidNumber, sa := sa_InvalidNumber, no := no_InvalidNumber, tkr := taker_none no_InvalidNumber, iC := iC_InvalidNumber, tC := tI_InvalidNumber, kC := kC_InvalidNumber, exC := eC_InvalidNumber, tyC := tC_InvalidNumber, fn := ⟨_, _, _, _, _, _, _, _, _, _, _, _, _, _, lI_InvalidNumber, cI_InvalidNumber⟩, bnd := fun _ _ _ _ _ _ _ _ _ _ _ _ _ _ => by first | rfl | with_unfolding_all rfl, fs := by decide, fd := by decide }
  have e_InvalidNumber : ExFK c mg "InvalidNumber" 5 := ⟨⟨_, _, _, _, _, _, _, tx_InvalidNumber, PySem.W.mg_of KX G aC_InvalidNumber, rfl⟩⟩
  have fo_InvalidNumber : FldOk c 5 "value" := ⟨⟨ga_InvalidNumber, gg_InvalidNumber, eC_InvalidNumber, hd_InvalidNumber⟩, no_InvalidNumber, rfl⟩
  have fo_UnknownName : FldOk c 6 "name" := ⟨⟨ga_UnknownName, gg_UnknownName, eC_UnknownName, hd_UnknownName⟩, no_UnknownName, rfl⟩
  have fo_TooMany : FldOk c 7 "limit" := ⟨⟨ga_TooMany, gg_TooMany, eC_TooMany, hd_TooMany⟩, no_TooMany, rfl⟩
  have so : SubOk c subT := by
    refine ⟨fun k j b h => ?_, fun k j h n => ?_⟩
    · unfold subT at h
      split at h
      · cases h; exact x_InvalidRow_InvalidRow
      · cases h; exact x_InvalidRow_InvalidDatabase
      · cases h; exact x_InvalidRow_InvalidOperation
      · cases h; exact x_InvalidRow_ParseError
      · cases h; exact x_InvalidRow_InvalidNumber
      · cases h; exact x_InvalidRow_UnknownName
      · cases h; exact x_InvalidRow_TooMany
      · cases h; exact x_InvalidDatabase_InvalidRow
      · cases h; exact x_InvalidDatabase_InvalidDatabase
      · cases h; exact x_InvalidDatabase_InvalidOperation
      · cases h; exact x_InvalidDatabase_ParseError
      · cases h; exact x_InvalidDatabase_InvalidNumber
      · cases h; exact x_InvalidDatabase_UnknownName
      · cases h; exact x_InvalidDatabase_TooMany
      · cases h; exact x_InvalidOperation_InvalidRow
      · cases h; exact x_InvalidOperation_InvalidDatabase
      · cases h; exact x_InvalidOperation_InvalidOperation
      · cases h; exact x_InvalidOperation_ParseError
      · cases h; exact x_InvalidOperation_InvalidNumber
      · cases h; exact x_InvalidOperation_UnknownName
      · cases h; exact x_InvalidOperation_TooMany
      · cases h; exact x_ParseError_InvalidRow
      · cases h; exact x_ParseError_InvalidDatabase
      · cases h; exact x_ParseError_InvalidOperation
      · cases h; exact x_ParseError_ParseError
      · cases h; exact x_ParseError_InvalidNumber
      · cases h; exact x_ParseError_UnknownName
      · cases h; exact x_ParseError_TooMany
      · cases h; exact x_InvalidNumber_InvalidRow
      · cases h; exact x_InvalidNumber_InvalidDatabase
      · cases h; exact x_InvalidNumber_InvalidOperation
      · cases h; exact x_InvalidNumber_ParseError
      · cases h; exact x_InvalidNumber_InvalidNumber
      · cases h; exact x_InvalidNumber_UnknownName
      · cases h; exact x_InvalidNumber_TooMany
      · cases h; exact x_UnknownName_InvalidRow
      · cases h; exact x_UnknownName_InvalidDatabase
      · cases h; exact x_UnknownName_InvalidOperation
      · cases h; exact x_UnknownName_ParseError
      · cases h; exact x_UnknownName_InvalidNumber
      · cases h; exact x_UnknownName_UnknownName
      · cases h; exact x_UnknownName_TooMany
      · cases h; exact x_TooMany_InvalidRow
      · cases h; exact x_TooMany_InvalidDatabase
      · cases h; exact x_TooMany_InvalidOperation
      · cases h; exact x_TooMany_ParseError
      · cases h; exact x_TooMany_InvalidNumber
      · cases h; exact x_TooMany_UnknownName
      · cases h; exact x_TooMany_TooMany
      · cases h
    · unfold subT at h
      split at h
      · exact ⟨rfl, rfl⟩
      · cases h
      · cases h
      · cases h
      · cases h
      · cases h
      · cases h
      · cases h
      · exact ⟨rfl, rfl⟩
      · cases h
      · cases h
      · cases h
      · cases h
      · cases h
      · cases h
      · cases h
      · exact ⟨rfl, rfl⟩
      · cases h
      · cases h
      · cases h
      · cases h
      · cases h
      · cases h
      · cases h
      · exact ⟨rfl, rfl⟩
      · cases h
      · cases h
      · cases h
      · cases h
      · cases h
      · cases h
      · cases h
      · exact ⟨rfl, rfl⟩
      · cases h
      · cases h
      · cases h
      · cases h
      · cases h
      · cases h
      · cases h
      · exact ⟨rfl, rfl⟩
      · cases h
      · cases h
      · cases h
      · cases h
      · cases h
      · cases h
      · cases h
      · exact ⟨rfl, rfl⟩
      · cases h
  have M : MetF c mg := { is := ⟨fA__law_met, _, _, _, _, _, _, _, _, _, PySem.W.mg_of KX G a__law_met, k__law_met, l__law_met, c__law_met⟩, so := so, rp := PySem.W.mg_none_of KX G z_repr, m_InvalidRow := PySem.W.mg_of KX G aC_InvalidRow, m_InvalidDatabase := PySem.W.mg_of KX G aC_InvalidDatabase, m_InvalidOperation := PySem.W.mg_of KX G aC_InvalidOperation, m_ParseError := PySem.W.mg_of KX G aC_ParseError, m_InvalidNumber := PySem.W.mg_of KX G aC_InvalidNumber, m_UnknownName := PySem.W.mg_of KX G aC_UnknownName, m_TooMany := PySem.W.mg_of KX G aC_TooMany, f_InvalidNumber := fo_InvalidNumber, f_UnknownName := fo_UnknownName, f_TooMany := fo_TooMany }
  refine ⟨PySem.W.fnOf "law" "law" (defArgs s_law) (defBody s_law) (defScope s_law) .none kV_law dc_law pm_law an_law (.ref cc_law) ct_law, [(cc__law_right, PP__law_right), (cc_law, PP_law)], spF c 1 f_law, ?hT, ?nT, ?cT, fun s v => .of_eq rfl, fun H a ns h63 _ tabs scr => ?sp, fun base hb hns TB => ?fn⟩
  case hT => intro p hp; simp only [List.mem_cons, List.not_mem_nil, or_false] at hp; rcases hp with rfl | rfl; exact tb__law_right; exact tb_law
  case nT => intro p hp; simp only [List.mem_cons, List.not_mem_nil, or_false] at hp; rcases hp with rfl | rfl; exact nt__law_right; exact nt_law
  case cT => intro p hp; simp only [List.mem_cons, List.not_mem_nil, or_false] at hp; rcases hp with rfl | rfl; exact code_hd KX lc__law_right h__law_right; exact code_hd KX lc_law h_law
  case sp =>
    obtain ⟨fin, e⟩ := pure_law ns h63
    exact law_sp (c := c) e scr (fun p hp => by simp only [c, List.mem_cons, List.not_mem_nil, or_false] at hp; rcases hp with rfl | rfl; exact tabs (cc__law_right, PP__law_right) (by simp); exact tabs (cc_law, PP_law) (by simp))
  case fn =>
    have F__law_bag := fun_mk (st := s__law_bag) l__law_bag c__law_bag k__law_bag
    have g__law_bag := ok__law_bag (P := l.prog) (w := w) (mg := mg) (base := base) (c := c) F__law_bag T 
    have d__law_bag : DefF l.prog w c mg base "_law_bag" 2 f__law_bag 1 := ⟨fA__law_bag, _, _, g__law_bag, PySem.W.mg_of KX G a__law_bag, k__law_bag, F__law_bag.binds (ps := ["script", "turn_of"]) fun _ _ _ _ _ _ us hl => match us, hl with | [_, _], _ => rfl, rfl⟩
    have F__law_pull := fun_mk (st := s__law_pull) l__law_pull c__law_pull k__law_pull
    have g__law_pull := ok__law_pull (P := l.prog) (w := w) (mg := mg) (base := base) (c := c) F__law_pull T 
    have d__law_pull : DefF l.prog w c mg base "_law_pull" 2 f__law_pull 1 := ⟨fA__law_pull, _, _, g__law_pull, PySem.W.mg_of KX G a__law_pull, k__law_pull, F__law_pull.binds (ps := ["bag", "many"]) fun _ _ _ _ _ _ us hl => match us, hl with | [_, _], _ => rfl, rfl⟩
    have F__law_choose := fun_mk (st := s__law_choose) l__law_choose c__law_choose k__law_choose
    have g__law_choose := ok__law_choose (P := l.prog) (w := w) (mg := mg) (base := base) (c := c) F__law_choose T d__law_pull
    have d__law_choose : DefF l.prog w c mg base "_law_choose" 2 f__law_choose 2 := ⟨fA__law_choose, _, _, g__law_choose, PySem.W.mg_of KX G a__law_choose, k__law_choose, F__law_choose.binds (ps := ["bag", "items"]) fun _ _ _ _ _ _ us hl => match us, hl with | [_, _], _ => rfl, rfl⟩
    have F_is_integer := fun_mk (st := s_is_integer) l_is_integer c_is_integer k_is_integer
    have g_is_integer := ok_is_integer (P := l.prog) (w := w) (mg := mg) (base := base) (c := c) F_is_integer T 
    have d_is_integer : DefF l.prog w c mg base "is_integer" 1 f_is_integer 1 := ⟨fA_is_integer, _, _, g_is_integer, PySem.W.mg_of KX G a_is_integer, k_is_integer, F_is_integer.binds (ps := ["value"]) fun _ _ _ _ _ _ us hl => match us, hl with | [_], _ => rfl, rfl⟩
    have F_is_between := fun_mk (st := s_is_between) l_is_between c_is_between k_is_between
    have g_is_between := ok_is_between (P := l.prog) (w := w) (mg := mg) (base := base) (c := c) F_is_between T d_is_integer
    have d_is_between : DefF l.prog w c mg base "is_between" 3 f_is_between 2 := ⟨fA_is_between, _, _, g_is_between, PySem.W.mg_of KX G a_is_between, k_is_between, F_is_between.binds (ps := ["value", "low", "high"]) fun _ _ _ _ _ _ us hl => match us, hl with | [_, _, _], _ => rfl, rfl⟩
    have F_is_stamp := fun_mk (st := s_is_stamp) l_is_stamp c_is_stamp k_is_stamp
    have g_is_stamp := ok_is_stamp (P := l.prog) (w := w) (mg := mg) (base := base) (c := c) F_is_stamp T d_is_between
    have d_is_stamp : DefF l.prog w c mg base "is_stamp" 1 f_is_stamp 3 := ⟨fA_is_stamp, _, _, g_is_stamp, PySem.W.mg_of KX G a_is_stamp, k_is_stamp, F_is_stamp.binds (ps := ["value"]) fun _ _ _ _ _ _ us hl => match us, hl with | [_], _ => rfl, rfl⟩
    have F_is_name := fun_mk (st := s_is_name) l_is_name c_is_name k_is_name
    have g_is_name := ok_is_name (P := l.prog) (w := w) (mg := mg) (base := base) (c := c) F_is_name T 
    have d_is_name : DefF l.prog w c mg base "is_name" 1 f_is_name 1 := ⟨fA_is_name, _, _, g_is_name, PySem.W.mg_of KX G a_is_name, k_is_name, F_is_name.binds (ps := ["value"]) fun _ _ _ _ _ _ us hl => match us, hl with | [_], _ => rfl, rfl⟩
    have F_has_table := fun_mk (st := s_has_table) l_has_table c_has_table k_has_table
    have g_has_table := ok_has_table (P := l.prog) (w := w) (mg := mg) (base := base) (c := c) F_has_table T d_is_name
    have d_has_table : DefF l.prog w c mg base "has_table" 1 f_has_table 2 := ⟨fA_has_table, _, _, g_has_table, PySem.W.mg_of KX G a_has_table, k_has_table, F_has_table.binds (ps := ["value"]) fun _ _ _ _ _ _ us hl => match us, hl with | [_], _ => rfl, rfl⟩
    have F_is_row := fun_mk (st := s_is_row) l_is_row c_is_row k_is_row
    have g_is_row := ok_is_row (P := l.prog) (w := w) (mg := mg) (base := base) (c := c) F_is_row T d_has_table d_is_integer
    have d_is_row : DefF l.prog w c mg base "is_row" 1 f_is_row 3 := ⟨fA_is_row, _, _, g_is_row, PySem.W.mg_of KX G a_is_row, k_is_row, F_is_row.binds (ps := ["value"]) fun _ _ _ _ _ _ us hl => match us, hl with | [_], _ => rfl, rfl⟩
    have F_are_rising_rows := fun_mk (st := s_are_rising_rows) l_are_rising_rows c_are_rising_rows k_are_rising_rows
    have g_are_rising_rows := ok_are_rising_rows (P := l.prog) (w := w) (mg := mg) (base := base) (c := c) F_are_rising_rows T d_is_row
    have d_are_rising_rows : DefF l.prog w c mg base "are_rising_rows" 2 f_are_rising_rows 4 := ⟨fA_are_rising_rows, _, _, g_are_rising_rows, PySem.W.mg_of KX G a_are_rising_rows, k_are_rising_rows, F_are_rising_rows.binds (ps := ["value", "most"]) fun _ _ _ _ _ _ us hl => match us, hl with | [_, _], _ => rfl, rfl⟩
    have F_are_kids := fun_mk (st := s_are_kids) l_are_kids c_are_kids k_are_kids
    have g_are_kids := ok_are_kids (P := l.prog) (w := w) (mg := mg) (base := base) (c := c) F_are_kids T d_is_between
    have d_are_kids : DefF l.prog w c mg base "are_kids" 1 f_are_kids 3 := ⟨fA_are_kids, _, _, g_are_kids, PySem.W.mg_of KX G a_are_kids, k_are_kids, F_are_kids.binds (ps := ["value"]) fun _ _ _ _ _ _ us hl => match us, hl with | [_], _ => rfl, rfl⟩
    have F_is_page := fun_mk (st := s_is_page) l_is_page c_is_page k_is_page
    have g_is_page := ok_is_page (P := l.prog) (w := w) (mg := mg) (base := base) (c := c) F_is_page T d_is_stamp d_are_rising_rows d_are_kids
    have d_is_page : DefF l.prog w c mg base "is_page" 1 f_is_page 5 := ⟨fA_is_page, _, _, g_is_page, PySem.W.mg_of KX G a_is_page, k_is_page, F_is_page.binds (ps := ["value"]) fun _ _ _ _ _ _ us hl => match us, hl with | [_], _ => rfl, rfl⟩
    have F_require_page := fun_mk (st := s_require_page) l_require_page c_require_page k_require_page
    have g_require_page := ok_require_page (P := l.prog) (w := w) (mg := mg) (base := base) (c := c) F_require_page T d_is_page e_InvalidOperation
    have d_require_page : DefF l.prog w c mg base "require_page" 1 f_require_page 6 := ⟨fA_require_page, _, _, g_require_page, PySem.W.mg_of KX G a_require_page, k_require_page, F_require_page.binds (ps := ["page"]) fun _ _ _ _ _ _ us hl => match us, hl with | [_], _ => rfl, rfl⟩
    have F_kids_text := fun_mk (st := s_kids_text) l_kids_text c_kids_text k_kids_text
    have g_kids_text := ok_kids_text (P := l.prog) (w := w) (mg := mg) (base := base) (c := c) F_kids_text T 
    have d_kids_text : DefF l.prog w c mg base "kids_text" 1 f_kids_text 1 := ⟨fA_kids_text, _, _, g_kids_text, PySem.W.mg_of KX G a_kids_text, k_kids_text, F_kids_text.binds (ps := ["kids"]) fun _ _ _ _ _ _ us hl => match us, hl with | [_], _ => rfl, rfl⟩
    have F_terms_text := fun_mk (st := s_terms_text) l_terms_text c_terms_text k_terms_text
    have g_terms_text := ok_terms_text (P := l.prog) (w := w) (mg := mg) (base := base) (c := c) F_terms_text T 
    have d_terms_text : DefF l.prog w c mg base "terms_text" 1 f_terms_text 1 := ⟨fA_terms_text, _, _, g_terms_text, PySem.W.mg_of KX G a_terms_text, k_terms_text, F_terms_text.binds (ps := ["terms"]) fun _ _ _ _ _ _ us hl => match us, hl with | [_], _ => rfl, rfl⟩
    have F_pattern_text := fun_mk (st := s_pattern_text) l_pattern_text c_pattern_text k_pattern_text
    have g_pattern_text := ok_pattern_text (P := l.prog) (w := w) (mg := mg) (base := base) (c := c) F_pattern_text T d_terms_text
    have d_pattern_text : DefF l.prog w c mg base "pattern_text" 1 f_pattern_text 2 := ⟨fA_pattern_text, _, _, g_pattern_text, PySem.W.mg_of KX G a_pattern_text, k_pattern_text, F_pattern_text.binds (ps := ["pattern"]) fun _ _ _ _ _ _ us hl => match us, hl with | [_], _ => rfl, rfl⟩
    have F_rows_text := fun_mk (st := s_rows_text) l_rows_text c_rows_text k_rows_text
    have g_rows_text := ok_rows_text (P := l.prog) (w := w) (mg := mg) (base := base) (c := c) F_rows_text T d_pattern_text
    have d_rows_text : DefF l.prog w c mg base "rows_text" 1 f_rows_text 3 := ⟨fA_rows_text, _, _, g_rows_text, PySem.W.mg_of KX G a_rows_text, k_rows_text, F_rows_text.binds (ps := ["rows"]) fun _ _ _ _ _ _ us hl => match us, hl with | [_], _ => rfl, rfl⟩
    have F_body_text := fun_mk (st := s_body_text) l_body_text c_body_text k_body_text
    have g_body_text := ok_body_text (P := l.prog) (w := w) (mg := mg) (base := base) (c := c) F_body_text T d_kids_text d_pattern_text d_rows_text
    have d_body_text : DefF l.prog w c mg base "body_text" 1 f_body_text 4 := ⟨fA_body_text, _, _, g_body_text, PySem.W.mg_of KX G a_body_text, k_body_text, F_body_text.binds (ps := ["page"]) fun _ _ _ _ _ _ us hl => match us, hl with | [_], _ => rfl, rfl⟩
    have F_check_in := fun_mk (st := s_check_in) l_check_in c_check_in k_check_in
    have g_check_in := ok_check_in (P := l.prog) (w := w) (mg := mg) (base := base) (c := c) F_check_in T 
    have d_check_in : DefF l.prog w c mg base "check_in" 1 f_check_in 1 := ⟨fA_check_in, _, _, g_check_in, PySem.W.mg_of KX G a_check_in, k_check_in, F_check_in.binds (ps := ["text"]) fun _ _ _ _ _ _ us hl => match us, hl with | [_], _ => rfl, rfl⟩
    have F_text_of_page := fun_mk (st := s_text_of_page) l_text_of_page c_text_of_page k_text_of_page
    have g_text_of_page := ok_text_of_page (P := l.prog) (w := w) (mg := mg) (base := base) (c := c) F_text_of_page T d_body_text d_check_in
    have d_text_of_page : DefF l.prog w c mg base "text_of_page" 1 f_text_of_page 5 := ⟨fA_text_of_page, _, _, g_text_of_page, PySem.W.mg_of KX G a_text_of_page, k_text_of_page, F_text_of_page.binds (ps := ["page"]) fun _ _ _ _ _ _ us hl => match us, hl with | [_], _ => rfl, rfl⟩
    have F_page_text := fun_mk (st := s_page_text) l_page_text c_page_text k_page_text
    have g_page_text := ok_page_text (P := l.prog) (w := w) (mg := mg) (base := base) (c := c) F_page_text T d_require_page d_text_of_page
    have d_page_text : DefF l.prog w c mg base "page_text" 1 f_page_text 7 := ⟨fA_page_text, _, _, g_page_text, PySem.W.mg_of KX G a_page_text, k_page_text, F_page_text.binds (ps := ["page"]) fun _ _ _ _ _ _ us hl => match us, hl with | [_], _ => rfl, rfl⟩
    have F_is_stamp_text := fun_mk (st := s_is_stamp_text) l_is_stamp_text c_is_stamp_text k_is_stamp_text
    have g_is_stamp_text := ok_is_stamp_text (P := l.prog) (w := w) (mg := mg) (base := base) (c := c) F_is_stamp_text T 
    have d_is_stamp_text : DefF l.prog w c mg base "is_stamp_text" 1 f_is_stamp_text 1 := ⟨fA_is_stamp_text, _, _, g_is_stamp_text, PySem.W.mg_of KX G a_is_stamp_text, k_is_stamp_text, F_is_stamp_text.binds (ps := ["text"]) fun _ _ _ _ _ _ us hl => match us, hl with | [_], _ => rfl, rfl⟩
    have F_parts_of_text := fun_mk (st := s_parts_of_text) l_parts_of_text c_parts_of_text k_parts_of_text
    have g_parts_of_text := ok_parts_of_text (P := l.prog) (w := w) (mg := mg) (base := base) (c := c) F_parts_of_text T d_is_stamp_text
    have d_parts_of_text : DefF l.prog w c mg base "parts_of_text" 1 f_parts_of_text 2 := ⟨fA_parts_of_text, _, _, g_parts_of_text, PySem.W.mg_of KX G a_parts_of_text, k_parts_of_text, F_parts_of_text.binds (ps := ["text"]) fun _ _ _ _ _ _ us hl => match us, hl with | [_], _ => rfl, rfl⟩
    have F_integer_of := fun_mk (st := s_integer_of) l_integer_of c_integer_of k_integer_of
    have g_integer_of := ok_integer_of (P := l.prog) (w := w) (mg := mg) (base := base) (c := c) F_integer_of T 
    have d_integer_of : DefF l.prog w c mg base "integer_of" 1 f_integer_of 1 := ⟨fA_integer_of, _, _, g_integer_of, PySem.W.mg_of KX G a_integer_of, k_integer_of, F_integer_of.binds (ps := ["text"]) fun _ _ _ _ _ _ us hl => match us, hl with | [_], _ => rfl, rfl⟩
    have F_row_of_text := fun_mk (st := s_row_of_text) l_row_of_text c_row_of_text k_row_of_text
    have g_row_of_text := ok_row_of_text (P := l.prog) (w := w) (mg := mg) (base := base) (c := c) F_row_of_text T d_integer_of d_is_row
    have d_row_of_text : DefF l.prog w c mg base "row_of_text" 1 f_row_of_text 4 := ⟨fA_row_of_text, _, _, g_row_of_text, PySem.W.mg_of KX G a_row_of_text, k_row_of_text, F_row_of_text.binds (ps := ["text"]) fun _ _ _ _ _ _ us hl => match us, hl with | [_], _ => rfl, rfl⟩
    have F_rows_of_text := fun_mk (st := s_rows_of_text) l_rows_of_text c_rows_of_text k_rows_of_text
    have g_rows_of_text := ok_rows_of_text (P := l.prog) (w := w) (mg := mg) (base := base) (c := c) F_rows_of_text T d_row_of_text
    have d_rows_of_text : DefF l.prog w c mg base "rows_of_text" 1 f_rows_of_text 5 := ⟨fA_rows_of_text, _, _, g_rows_of_text, PySem.W.mg_of KX G a_rows_of_text, k_rows_of_text, F_rows_of_text.binds (ps := ["text"]) fun _ _ _ _ _ _ us hl => match us, hl with | [_], _ => rfl, rfl⟩
    have F_branch_of := fun_mk (st := s_branch_of) l_branch_of c_branch_of k_branch_of
    have g_branch_of := ok_branch_of (P := l.prog) (w := w) (mg := mg) (base := base) (c := c) F_branch_of T d_rows_of_text d_is_stamp_text
    have d_branch_of : DefF l.prog w c mg base "branch_of" 2 f_branch_of 6 := ⟨fA_branch_of, _, _, g_branch_of, PySem.W.mg_of KX G a_branch_of, k_branch_of, F_branch_of.binds (ps := ["stamp", "body"]) fun _ _ _ _ _ _ us hl => match us, hl with | [_, _], _ => rfl, rfl⟩
    have F_page_of_text := fun_mk (st := s_page_of_text) l_page_of_text c_page_of_text k_page_of_text
    have g_page_of_text := ok_page_of_text (P := l.prog) (w := w) (mg := mg) (base := base) (c := c) F_page_of_text T d_parts_of_text d_branch_of d_rows_of_text d_is_page d_text_of_page
    have d_page_of_text : DefF l.prog w c mg base "page_of_text" 1 f_page_of_text 7 := ⟨fA_page_of_text, _, _, g_page_of_text, PySem.W.mg_of KX G a_page_of_text, k_page_of_text, F_page_of_text.binds (ps := ["text"]) fun _ _ _ _ _ _ us hl => match us, hl with | [_], _ => rfl, rfl⟩
    have F_read_page := fun_mk (st := s_read_page) l_read_page c_read_page k_read_page
    have g_read_page := ok_read_page (P := l.prog) (w := w) (mg := mg) (base := base) (c := c) F_read_page T d_page_of_text e_ParseError
    have d_read_page : DefF l.prog w c mg base "read_page" 1 f_read_page 8 := ⟨fA_read_page, _, _, g_read_page, PySem.W.mg_of KX G a_read_page, k_read_page, F_read_page.binds (ps := ["text"]) fun _ _ _ _ _ _ us hl => match us, hl with | [_], _ => rfl, rfl⟩
    have F_is_short_text := fun_mk (st := s_is_short_text) l_is_short_text c_is_short_text k_is_short_text
    have g_is_short_text := ok_is_short_text (P := l.prog) (w := w) (mg := mg) (base := base) (c := c) F_is_short_text T 
    have d_is_short_text : DefF l.prog w c mg base "is_short_text" 1 f_is_short_text 1 := ⟨fA_is_short_text, _, _, g_is_short_text, PySem.W.mg_of KX G a_is_short_text, k_is_short_text, F_is_short_text.binds (ps := ["value"]) fun _ _ _ _ _ _ us hl => match us, hl with | [_], _ => rfl, rfl⟩
    have F_require_short_text := fun_mk (st := s_require_short_text) l_require_short_text c_require_short_text k_require_short_text
    have g_require_short_text := ok_require_short_text (P := l.prog) (w := w) (mg := mg) (base := base) (c := c) F_require_short_text T d_is_short_text e_ParseError
    have d_require_short_text : DefF l.prog w c mg base "require_short_text" 1 f_require_short_text 2 := ⟨fA_require_short_text, _, _, g_require_short_text, PySem.W.mg_of KX G a_require_short_text, k_require_short_text, F_require_short_text.binds (ps := ["text"]) fun _ _ _ _ _ _ us hl => match us, hl with | [_], _ => rfl, rfl⟩
    have F_check_number := fun_mk (st := s_check_number) l_check_number c_check_number k_check_number
    have g_check_number := ok_check_number (P := l.prog) (w := w) (mg := mg) (base := base) (c := c) F_check_number T d_require_short_text d_check_in
    have d_check_number : DefF l.prog w c mg base "check_number" 1 f_check_number 3 := ⟨fA_check_number, _, _, g_check_number, PySem.W.mg_of KX G a_check_number, k_check_number, F_check_number.binds (ps := ["text"]) fun _ _ _ _ _ _ us hl => match us, hl with | [_], _ => rfl, rfl⟩
    have F_torn := fun_mk (st := s_torn) l_torn c_torn k_torn
    have g_torn := ok_torn (P := l.prog) (w := w) (mg := mg) (base := base) (c := c) F_torn T d_require_short_text d_is_between e_InvalidNumber
    have d_torn : DefF l.prog w c mg base "torn" 3 f_torn 3 := ⟨fA_torn, _, _, g_torn, PySem.W.mg_of KX G a_torn, k_torn, F_torn.binds (ps := ["text", "other", "at"]) fun _ _ _ _ _ _ us hl => match us, hl with | [_, _, _], _ => rfl, rfl⟩
    have F_require_row := fun_mk (st := s_require_row) l_require_row c_require_row k_require_row
    have g_require_row := ok_require_row (P := l.prog) (w := w) (mg := mg) (base := base) (c := c) F_require_row T d_is_row e_InvalidRow
    have d_require_row : DefF l.prog w c mg base "require_row" 1 f_require_row 4 := ⟨fA_require_row, _, _, g_require_row, PySem.W.mg_of KX G a_require_row, k_require_row, F_require_row.binds (ps := ["row"]) fun _ _ _ _ _ _ us hl => match us, hl with | [_], _ => rfl, rfl⟩
    have F_bucket_in := fun_mk (st := s_bucket_in) l_bucket_in c_bucket_in k_bucket_in
    have g_bucket_in := ok_bucket_in (P := l.prog) (w := w) (mg := mg) (base := base) (c := c) F_bucket_in T d_check_in d_pattern_text
    have d_bucket_in : DefF l.prog w c mg base "bucket_in" 2 f_bucket_in 3 := ⟨fA_bucket_in, _, _, g_bucket_in, PySem.W.mg_of KX G a_bucket_in, k_bucket_in, F_bucket_in.binds (ps := ["row", "many"]) fun _ _ _ _ _ _ us hl => match us, hl with | [_, _], _ => rfl, rfl⟩
    have F_bucket_of := fun_mk (st := s_bucket_of) l_bucket_of c_bucket_of k_bucket_of
    have g_bucket_of := ok_bucket_of (P := l.prog) (w := w) (mg := mg) (base := base) (c := c) F_bucket_of T d_require_row d_is_between d_bucket_in e_InvalidNumber
    have d_bucket_of : DefF l.prog w c mg base "bucket_of" 2 f_bucket_of 5 := ⟨fA_bucket_of, _, _, g_bucket_of, PySem.W.mg_of KX G a_bucket_of, k_bucket_of, F_bucket_of.binds (ps := ["row", "many"]) fun _ _ _ _ _ _ us hl => match us, hl with | [_, _], _ => rfl, rfl⟩
    have g__law_right := ok__law_right (P := l.prog) (w := w) (mg := mg) (base := base) (c := c) (PP := PP__law_right) l__law_right c__law_right T M (TB (cc__law_right, PP__law_right) (by simp)) (by simp [c]) (by intro p hp e; simp only [c, List.mem_cons, List.not_mem_nil, or_false] at hp; rcases hp with rfl | rfl; rfl; exact absurd e.symm ne__law_right_law) d__law_choose d_page_text d_read_page d_check_number d_torn d_bucket_of
    have d__law_right : DefF l.prog w c mg base "_law_right" 1 f__law_right 11 := ⟨fA__law_right, _, _, g__law_right, PySem.W.mg_of KX G a__law_right, k__law_right, (fun_mk (st := s__law_right) l__law_right c__law_right k__law_right).binds (ps := ["bag"]) fun _ _ _ _ _ _ us hl => match us, hl with | [_], _ => rfl, rfl⟩
    have g_law := ok_law (P := l.prog) (w := w) (mg := mg) (base := base) (c := c) (PP := PP_law) l_law c_law T M (TB (cc_law, PP_law) (by simp)) (by simp [c]) (by intro p hp e; simp only [c, List.mem_cons, List.not_mem_nil, or_false] at hp; rcases hp with rfl | rfl; exact absurd e ne__law_right_law; rfl) d__law_bag d__law_right d_read_page d_page_text d_check_number d_torn
    have d_law : DefF l.prog w c mg base "law" 1 f_law 14 := ⟨fa, _, _, g_law, PySem.W.mg_of KX G a_law, k_law, (fun_mk (st := s_law) l_law c_law k_law).binds (ps := ["script"]) fun _ _ _ _ _ _ us hl => match us, hl with | [_], _ => rfl, rfl⟩
    exact g_law
end Z

open PySem PySem.W PyProof.Rows VI in
set_option maxRecDepth 100000 in
set_option maxHeartbeats 0 in
theorem PySem.Challenge.cw_firmwide_k04_refusals_of_pages_holds : PySem.Challenge.rw_firmwide_k04_refusals_of_pages.Holds := by
  w_on; o_law; k_head; (case hw => w_witness2)
  k_fill
  refine VI.walk_G (l := PySem.Challenge.rw_firmwide_k04_refusals_of_pages) (n := 63) (k := 14) (x := "script") rfl (by decide) rfl ⟨rfl, by decide, by decide⟩ (fun w h Y => PySem.W.km_in_of Y) ?F
  case F =>
    intro w mg fa h Y XP KX G hmg
    have tb := PySem.W.km_tabs_of Y
    refine' Z.all_mk KX G hmg ?a__law_bag ?l__law_bag ?c__law_bag ?k__law_bag ?a__law_pull ?l__law_pull ?c__law_pull ?k__law_pull ?a__law_choose ?l__law_choose ?c__law_choose ?k__law_choose ?a_is_integer ?l_is_integer ?c_is_integer ?k_is_integer ?a_is_between ?l_is_between ?c_is_between ?k_is_between ?a_is_stamp ?l_is_stamp ?c_is_stamp ?k_is_stamp ?a_is_name ?l_is_name ?c_is_name ?k_is_name ?a_has_table ?l_has_table ?c_has_table ?k_has_table ?a_is_row ?l_is_row ?c_is_row ?k_is_row ?a_are_rising_rows ?l_are_rising_rows ?c_are_rising_rows ?k_are_rising_rows ?a_are_kids ?l_are_kids ?c_are_kids ?k_are_kids ?a_is_page ?l_is_page ?c_is_page ?k_is_page ?a_require_page ?l_require_page ?c_require_page ?k_require_page ?a_kids_text ?l_kids_text ?c_kids_text ?k_kids_text ?a_terms_text ?l_terms_text ?c_terms_text ?k_terms_text ?a_pattern_text ?l_pattern_text ?c_pattern_text ?k_pattern_text ?a_rows_text ?l_rows_text ?c_rows_text ?k_rows_text ?a_body_text ?l_body_text ?c_body_text ?k_body_text ?a_check_in ?l_check_in ?c_check_in ?k_check_in ?a_text_of_page ?l_text_of_page ?c_text_of_page ?k_text_of_page ?a_page_text ?l_page_text ?c_page_text ?k_page_text ?a_is_stamp_text ?l_is_stamp_text ?c_is_stamp_text ?k_is_stamp_text ?a_parts_of_text ?l_parts_of_text ?c_parts_of_text ?k_parts_of_text ?a_integer_of ?l_integer_of ?c_integer_of ?k_integer_of ?a_row_of_text ?l_row_of_text ?c_row_of_text ?k_row_of_text ?a_rows_of_text ?l_rows_of_text ?c_rows_of_text ?k_rows_of_text ?a_branch_of ?l_branch_of ?c_branch_of ?k_branch_of ?a_page_of_text ?l_page_of_text ?c_page_of_text ?k_page_of_text ?a_read_page ?l_read_page ?c_read_page ?k_read_page ?a_is_short_text ?l_is_short_text ?c_is_short_text ?k_is_short_text ?a_require_short_text ?l_require_short_text ?c_require_short_text ?k_require_short_text ?a_check_number ?l_check_number ?c_check_number ?k_check_number ?a_torn ?l_torn ?c_torn ?k_torn ?a_require_row ?l_require_row ?c_require_row ?k_require_row ?a_bucket_in ?l_bucket_in ?c_bucket_in ?k_bucket_in ?a_bucket_of ?l_bucket_of ?c_bucket_of ?k_bucket_of ?a__law_right ?l__law_right ?c__law_right ?k__law_right ?lc__law_right ?h__law_right ?nt__law_right ?tb__law_right ?a_law ?l_law ?c_law ?k_law ?lc_law ?h_law ?nt_law ?tb_law ?a__law_met ?l__law_met ?c__law_met ?k__law_met ?z_abs ?z_all ?z_bool ?z_enumerate ?z_int ?z_isinstance ?z_len ?z_max ?z_min ?z_ord ?z_range ?z_repr ?z_str ?z_tuple ?z_zip ?g_BETWEEN_PARTS ?g_BETWEEN_ROWS ?g_BRANCH ?g_BUCKET ?g_CHECK_PRIME ?g_DIGITS ?g_EMPTY ?g_LEAF ?g_LEAST_BUCKETS ?g_LEAST_KIDS ?g_LETTERS ?g_MAX_COLUMNS ?g_MAX_SIGNS ?g_MOST_BUCKETS ?g_MOST_KIDS ?g_MOST_PAGE ?g_MOST_PAGE_ROWS ?g_MOST_SIGNS ?g_MOST_STAMP ?g_NO_ROWS ?g_PARTS ?g_ROWS ?aC_InvalidRow ?kC_InvalidRow ?eC_InvalidRow ?tC_InvalidRow ?q_InvalidRow ?aC_InvalidDatabase ?kC_InvalidDatabase ?eC_InvalidDatabase ?tC_InvalidDatabase ?aC_InvalidOperation ?kC_InvalidOperation ?eC_InvalidOperation ?tC_InvalidOperation ?q_InvalidOperation ?aC_ParseError ?kC_ParseError ?eC_ParseError ?tC_ParseError ?q_ParseError ?aC_InvalidNumber ?kC_InvalidNumber ?eC_InvalidNumber ?tC_InvalidNumber ?qi_InvalidNumber ?ov_InvalidNumber ?hd_InvalidNumber ?sa_InvalidNumber ?ga_InvalidNumber ?gg_InvalidNumber ?no_InvalidNumber ?iC_InvalidNumber ?tI_InvalidNumber ?lI_InvalidNumber ?cI_InvalidNumber ?aC_UnknownName ?kC_UnknownName ?eC_UnknownName ?tC_UnknownName ?hd_UnknownName ?ga_UnknownName ?gg_UnknownName ?no_UnknownName ?aC_TooMany ?kC_TooMany ?eC_TooMany ?tC_TooMany ?hd_TooMany ?ga_TooMany ?gg_TooMany ?no_TooMany ?x_InvalidRow_InvalidRow ?x_InvalidRow_InvalidDatabase ?x_InvalidRow_InvalidOperation ?x_InvalidRow_ParseError ?x_InvalidRow_InvalidNumber ?x_InvalidRow_UnknownName ?x_InvalidRow_TooMany ?x_InvalidDatabase_InvalidRow ?x_InvalidDatabase_InvalidDatabase ?x_InvalidDatabase_InvalidOperation ?x_InvalidDatabase_ParseError ?x_InvalidDatabase_InvalidNumber ?x_InvalidDatabase_UnknownName ?x_InvalidDatabase_TooMany ?x_InvalidOperation_InvalidRow ?x_InvalidOperation_InvalidDatabase ?x_InvalidOperation_InvalidOperation ?x_InvalidOperation_ParseError ?x_InvalidOperation_InvalidNumber ?x_InvalidOperation_UnknownName ?x_InvalidOperation_TooMany ?x_ParseError_InvalidRow ?x_ParseError_InvalidDatabase ?x_ParseError_InvalidOperation ?x_ParseError_ParseError ?x_ParseError_InvalidNumber ?x_ParseError_UnknownName ?x_ParseError_TooMany ?x_InvalidNumber_InvalidRow ?x_InvalidNumber_InvalidDatabase ?x_InvalidNumber_InvalidOperation ?x_InvalidNumber_ParseError ?x_InvalidNumber_InvalidNumber ?x_InvalidNumber_UnknownName ?x_InvalidNumber_TooMany ?x_UnknownName_InvalidRow ?x_UnknownName_InvalidDatabase ?x_UnknownName_InvalidOperation ?x_UnknownName_ParseError ?x_UnknownName_InvalidNumber ?x_UnknownName_UnknownName ?x_UnknownName_TooMany ?x_TooMany_InvalidRow ?x_TooMany_InvalidDatabase ?x_TooMany_InvalidOperation ?x_TooMany_ParseError ?x_TooMany_InvalidNumber ?x_TooMany_UnknownName ?x_TooMany_TooMany ?ne__law_right_law
    (case a__law_bag => k_is)
    (case l__law_bag => k_is)
    (case c__law_bag => k_is)
    (case k__law_bag => k_is)
    (case a__law_pull => k_is)
    (case l__law_pull => k_is)
    (case c__law_pull => k_is)
    (case k__law_pull => k_is)
    (case a__law_choose => k_is)
    (case l__law_choose => k_is)
    (case c__law_choose => k_is)
    (case k__law_choose => k_is)
    (case a_is_integer => k_is)
    (case l_is_integer => k_is)
    (case c_is_integer => k_is)
    (case k_is_integer => k_is)
    (case a_is_between => k_is)
    (case l_is_between => k_is)
    (case c_is_between => k_is)
    (case k_is_between => k_is)
    (case a_is_stamp => k_is)
    (case l_is_stamp => k_is)
    (case c_is_stamp => k_is)
    (case k_is_stamp => k_is)
    (case a_is_name => k_is)
    (case l_is_name => k_is)
    (case c_is_name => k_is)
    (case k_is_name => k_is)
    (case a_has_table => k_is)
    (case l_has_table => k_is)
    (case c_has_table => k_is)
    (case k_has_table => k_is)
    (case a_is_row => k_is)
    (case l_is_row => k_is)
    (case c_is_row => k_is)
    (case k_is_row => k_is)
    (case a_are_rising_rows => k_is)
    (case l_are_rising_rows => k_is)
    (case c_are_rising_rows => k_is)
    (case k_are_rising_rows => k_is)
    (case a_are_kids => k_is)
    (case l_are_kids => k_is)
    (case c_are_kids => k_is)
    (case k_are_kids => k_is)
    (case a_is_page => k_is)
    (case l_is_page => k_is)
    (case c_is_page => k_is)
    (case k_is_page => k_is)
    (case a_require_page => k_is)
    (case l_require_page => k_is)
    (case c_require_page => k_is)
    (case k_require_page => k_is)
    (case a_kids_text => k_is)
    (case l_kids_text => k_is)
    (case c_kids_text => k_is)
    (case k_kids_text => k_is)
    (case a_terms_text => k_is)
    (case l_terms_text => k_is)
    (case c_terms_text => k_is)
    (case k_terms_text => k_is)
    (case a_pattern_text => k_is)
    (case l_pattern_text => k_is)
    (case c_pattern_text => k_is)
    (case k_pattern_text => k_is)
    (case a_rows_text => k_is)
    (case l_rows_text => k_is)
    (case c_rows_text => k_is)
    (case k_rows_text => k_is)
    (case a_body_text => k_is)
    (case l_body_text => k_is)
    (case c_body_text => k_is)
    (case k_body_text => k_is)
    (case a_check_in => k_is)
    (case l_check_in => k_is)
    (case c_check_in => k_is)
    (case k_check_in => k_is)
    (case a_text_of_page => k_is)
    (case l_text_of_page => k_is)
    (case c_text_of_page => k_is)
    (case k_text_of_page => k_is)
    (case a_page_text => k_is)
    (case l_page_text => k_is)
    (case c_page_text => k_is)
    (case k_page_text => k_is)
    (case a_is_stamp_text => k_is)
    (case l_is_stamp_text => k_is)
    (case c_is_stamp_text => k_is)
    (case k_is_stamp_text => k_is)
    (case a_parts_of_text => k_is)
    (case l_parts_of_text => k_is)
    (case c_parts_of_text => k_is)
    (case k_parts_of_text => k_is)
    (case a_integer_of => k_is)
    (case l_integer_of => k_is)
    (case c_integer_of => k_is)
    (case k_integer_of => k_is)
    (case a_row_of_text => k_is)
    (case l_row_of_text => k_is)
    (case c_row_of_text => k_is)
    (case k_row_of_text => k_is)
    (case a_rows_of_text => k_is)
    (case l_rows_of_text => k_is)
    (case c_rows_of_text => k_is)
    (case k_rows_of_text => k_is)
    (case a_branch_of => k_is)
    (case l_branch_of => k_is)
    (case c_branch_of => k_is)
    (case k_branch_of => k_is)
    (case a_page_of_text => k_is)
    (case l_page_of_text => k_is)
    (case c_page_of_text => k_is)
    (case k_page_of_text => k_is)
    (case a_read_page => k_is)
    (case l_read_page => k_is)
    (case c_read_page => k_is)
    (case k_read_page => k_is)
    (case a_is_short_text => k_is)
    (case l_is_short_text => k_is)
    (case c_is_short_text => k_is)
    (case k_is_short_text => k_is)
    (case a_require_short_text => k_is)
    (case l_require_short_text => k_is)
    (case c_require_short_text => k_is)
    (case k_require_short_text => k_is)
    (case a_check_number => k_is)
    (case l_check_number => k_is)
    (case c_check_number => k_is)
    (case k_check_number => k_is)
    (case a_torn => k_is)
    (case l_torn => k_is)
    (case c_torn => k_is)
    (case k_torn => k_is)
    (case a_require_row => k_is)
    (case l_require_row => k_is)
    (case c_require_row => k_is)
    (case k_require_row => k_is)
    (case a_bucket_in => k_is)
    (case l_bucket_in => k_is)
    (case c_bucket_in => k_is)
    (case k_bucket_in => k_is)
    (case a_bucket_of => k_is)
    (case l_bucket_of => k_is)
    (case c_bucket_of => k_is)
    (case k_bucket_of => k_is)
    (case a__law_right => k_is)
    (case l__law_right => k_is)
    (case c__law_right => k_is)
    (case k__law_right => k_is)
    (case lc__law_right => k_is)
    (case h__law_right => exact ⟨rfl, _, _, _, _, _, _, _, rfl, rfl, rfl, rfl, rfl, trivial, by decide⟩)
    (case nt__law_right => kernel_rfl)
    (case tb__law_right => exact tb _ (by simp))
    (case a_law => k_is)
    (case l_law => k_is)
    (case c_law => k_is)
    (case k_law => k_is)
    (case lc_law => k_is)
    (case h_law => exact ⟨rfl, _, _, _, _, _, _, _, rfl, rfl, rfl, rfl, rfl, trivial, by decide⟩)
    (case nt_law => kernel_rfl)
    (case tb_law => exact tb _ (by simp))
    (case a__law_met => k_is)
    (case l__law_met => k_is)
    (case c__law_met => k_is)
    (case k__law_met => k_is)
    (case z_abs => k_is)
    (case z_all => k_is)
    (case z_bool => k_is)
    (case z_enumerate => k_is)
    (case z_int => k_is)
    (case z_isinstance => k_is)
    (case z_len => k_is)
    (case z_max => k_is)
    (case z_min => k_is)
    (case z_ord => k_is)
    (case z_range => k_is)
    (case z_repr => k_is)
    (case z_str => k_is)
    (case z_tuple => k_is)
    (case z_zip => k_is)
    (case g_BETWEEN_PARTS => k_is)
    (case g_BETWEEN_ROWS => k_is)
    (case g_BRANCH => k_is)
    (case g_BUCKET => k_is)
    (case g_CHECK_PRIME => k_is)
    (case g_DIGITS => k_is)
    (case g_EMPTY => k_is)
    (case g_LEAF => k_is)
    (case g_LEAST_BUCKETS => k_is)
    (case g_LEAST_KIDS => k_is)
    (case g_LETTERS => k_is)
    (case g_MAX_COLUMNS => k_is)
    (case g_MAX_SIGNS => k_is)
    (case g_MOST_BUCKETS => k_is)
    (case g_MOST_KIDS => k_is)
    (case g_MOST_PAGE => k_is)
    (case g_MOST_PAGE_ROWS => k_is)
    (case g_MOST_SIGNS => k_is)
    (case g_MOST_STAMP => exact loose_int XP.2 (by simp))
    (case g_NO_ROWS => k_is)
    (case g_PARTS => k_is)
    (case g_ROWS => k_is)
    (case aC_InvalidRow => k_is)
    (case kC_InvalidRow => k_is)
    (case eC_InvalidRow => k_is)
    (case tC_InvalidRow => k_is)
    (case q_InvalidRow => k_exc)
    (case aC_InvalidDatabase => k_is)
    (case kC_InvalidDatabase => k_is)
    (case eC_InvalidDatabase => k_is)
    (case tC_InvalidDatabase => k_is)
    (case aC_InvalidOperation => k_is)
    (case kC_InvalidOperation => k_is)
    (case eC_InvalidOperation => k_is)
    (case tC_InvalidOperation => k_is)
    (case q_InvalidOperation => k_exc)
    (case aC_ParseError => k_is)
    (case kC_ParseError => k_is)
    (case eC_ParseError => k_is)
    (case tC_ParseError => k_is)
    (case q_ParseError => k_exc)
    (case aC_InvalidNumber => k_is)
    (case kC_InvalidNumber => k_is)
    (case eC_InvalidNumber => k_is)
    (case tC_InvalidNumber => k_is)
    (case qi_InvalidNumber => kernel_rfl)
    (case ov_InvalidNumber => kernel_rfl)
    (case hd_InvalidNumber => k_is)
    (case sa_InvalidNumber => k_is)
    (case ga_InvalidNumber => k_is)
    (case gg_InvalidNumber => k_is)
    (case no_InvalidNumber => k_is)
    (case iC_InvalidNumber => k_is)
    (case tI_InvalidNumber => k_is)
    (case lI_InvalidNumber => k_is)
    (case cI_InvalidNumber => k_is)
    (case aC_UnknownName => k_is)
    (case kC_UnknownName => k_is)
    (case eC_UnknownName => k_is)
    (case tC_UnknownName => k_is)
    (case hd_UnknownName => k_is)
    (case ga_UnknownName => k_is)
    (case gg_UnknownName => k_is)
    (case no_UnknownName => k_is)
    (case aC_TooMany => k_is)
    (case kC_TooMany => k_is)
    (case eC_TooMany => k_is)
    (case tC_TooMany => k_is)
    (case hd_TooMany => k_is)
    (case ga_TooMany => k_is)
    (case gg_TooMany => k_is)
    (case no_TooMany => k_is)
    (case x_InvalidRow_InvalidRow => kernel_rfl)
    (case x_InvalidRow_InvalidDatabase => kernel_rfl)
    (case x_InvalidRow_InvalidOperation => kernel_rfl)
    (case x_InvalidRow_ParseError => kernel_rfl)
    (case x_InvalidRow_InvalidNumber => kernel_rfl)
    (case x_InvalidRow_UnknownName => kernel_rfl)
    (case x_InvalidRow_TooMany => kernel_rfl)
    (case x_InvalidDatabase_InvalidRow => kernel_rfl)
    (case x_InvalidDatabase_InvalidDatabase => kernel_rfl)
    (case x_InvalidDatabase_InvalidOperation => kernel_rfl)
    (case x_InvalidDatabase_ParseError => kernel_rfl)
    (case x_InvalidDatabase_InvalidNumber => kernel_rfl)
    (case x_InvalidDatabase_UnknownName => kernel_rfl)
    (case x_InvalidDatabase_TooMany => kernel_rfl)
    (case x_InvalidOperation_InvalidRow => kernel_rfl)
    (case x_InvalidOperation_InvalidDatabase => kernel_rfl)
    (case x_InvalidOperation_InvalidOperation => kernel_rfl)
    (case x_InvalidOperation_ParseError => kernel_rfl)
    (case x_InvalidOperation_InvalidNumber => kernel_rfl)
    (case x_InvalidOperation_UnknownName => kernel_rfl)
    (case x_InvalidOperation_TooMany => kernel_rfl)
    (case x_ParseError_InvalidRow => kernel_rfl)
    (case x_ParseError_InvalidDatabase => kernel_rfl)
    (case x_ParseError_InvalidOperation => kernel_rfl)
    (case x_ParseError_ParseError => kernel_rfl)
    (case x_ParseError_InvalidNumber => kernel_rfl)
    (case x_ParseError_UnknownName => kernel_rfl)
    (case x_ParseError_TooMany => kernel_rfl)
    (case x_InvalidNumber_InvalidRow => kernel_rfl)
    (case x_InvalidNumber_InvalidDatabase => kernel_rfl)
    (case x_InvalidNumber_InvalidOperation => kernel_rfl)
    (case x_InvalidNumber_ParseError => kernel_rfl)
    (case x_InvalidNumber_InvalidNumber => kernel_rfl)
    (case x_InvalidNumber_UnknownName => kernel_rfl)
    (case x_InvalidNumber_TooMany => kernel_rfl)
    (case x_UnknownName_InvalidRow => kernel_rfl)
    (case x_UnknownName_InvalidDatabase => kernel_rfl)
    (case x_UnknownName_InvalidOperation => kernel_rfl)
    (case x_UnknownName_ParseError => kernel_rfl)
    (case x_UnknownName_InvalidNumber => kernel_rfl)
    (case x_UnknownName_UnknownName => kernel_rfl)
    (case x_UnknownName_TooMany => kernel_rfl)
    (case x_TooMany_InvalidRow => kernel_rfl)
    (case x_TooMany_InvalidDatabase => kernel_rfl)
    (case x_TooMany_InvalidOperation => kernel_rfl)
    (case x_TooMany_ParseError => kernel_rfl)
    (case x_TooMany_InvalidNumber => kernel_rfl)
    (case x_TooMany_UnknownName => kernel_rfl)
    (case x_TooMany_TooMany => kernel_rfl)
    (case ne__law_right_law => decide)
