import PyProof.Rows.All
import Wide.All
import OpenK.AllK
import Wide.FinOn
import HandS.ForMost
import HandS.ForExc
import HandS.TryMany
import HandS.ExcField
import HandS.IsInst
import HandS.Lambda
import HandS.Walk
import HandS.Zip
import HandS.Wide
import HandS.Style
import HandS.Deep
import HandS.TupAny
import KE.KExcInit
import KE.GoesMore
import HandS.FStr
import HandS.Codes
import HandS.EndTab
import HandS.HeadWalk
import PyProof.ReprRoads
import PySem.Challenge.RW_firmwide_k56_refusals_of_frames
set_option linter.all false
/-! VI, part 1: the data that a program computes with, and its steps as plain Lean functions. -/
namespace VI
/-- data: lists and dicts as trees; scr: the law's script; fn: a def of the text -/
inductive Ty where
  | int | bool | str | tuple | list | dict
inductive W where
  | non | bl (b : Bool) | int (i : Int) | str (s : List Nat)
  | tup (xs : List W) | lst (xs : List W) | dct (ks vs : List W)
  | scr (ns : List Int) | fn (i : Nat) | cls (t : Ty)
  deriving Inhabited
/-- a slot of a frame: unset; seen by others (never changed again); own (changed in place); locked (read only, not handed on).
    l: lent by a caller, the name is not bound anew -/
inductive Slot where
  | no | fr (l : Bool) (w : W) | own (l : Bool) (w : W) | lk (w : W)
  deriving Inhabited
abbrev Slots := List Slot
inductive R (α : Type) where
  | ok (a : α) (ss : Slots) | exc (c : Nat) (w : W) (ss : Slots)
abbrev M (α : Type) := Slots → Option (R α)
def mret {α : Type} (a : α) : M α := fun ss => some (.ok a ss)
def mbd {α β : Type} (m : M α) (f : α → M β) : M β := fun ss =>
  match m ss with
  | none => none
  | some (.exc c w s) => some (.exc c w s)
  | some (.ok a s) => f a s
def stuck {α : Type} : M α := fun _ => none
def lift {α : Type} (o : Option α) : M α := fun ss => o.map fun a => .ok a ss
/-- no exception may come out -/
def calm {α : Type} (m : M α) : M α := fun ss => match m ss with
  | some (.ok a s) => some (.ok a s)
  | _ => none

/-! ### == -/
def b2i (b : Bool) : Int := if b then 1 else 0
mutual
def eqW : W → W → Bool
  | .non, .non => true
  | .bl a, .bl b => a == b
  | .bl a, .int j => b2i a == j
  | .int i, .bl b => i == b2i b
  | .int i, .int j => i == j
  | .str a, .str b => a == b
  | .tup xs, .tup ys => eqWs xs ys
  | .lst xs, .lst ys => eqWs xs ys
  | _, _ => false
def eqWs : List W → List W → Bool
  | [], [] => true
  | x :: xs, y :: ys => eqW x y && eqWs xs ys
  | _, _ => false
end
/-- a text without odd signs -/
def okS : List Nat → Bool
  | [] => true
  | c :: r => decide (c < 1114112) && okS r
mutual
/-- data that == tells apart by its parts, n deep: no dict, no script, no def within -/
def flat : Nat → W → Bool
  | _, .non => true
  | _, .bl _ => true
  | _, .int _ => true
  | _, .str s => okS s
  | 0, .tup _ => false
  | 0, .lst _ => false
  | n + 1, .tup xs => flats n xs
  | n + 1, .lst xs => flats n xs
  | _, _ => false
def flats : Nat → List W → Bool
  | _, [] => true
  | n, x :: xs => flat n x && flats n xs
end
/-- without parts -/
def sc1 : W → Bool
  | .non => true
  | .bl _ => true
  | .int _ => true
  | .str _ => true
  | _ => false
def sc1s : List W → Bool
  | [] => true
  | x :: xs => sc1 x && sc1s xs
def bEq : List W → Option W
  | [a, b] => if flat 40 a && flat 40 b then some (.bl (eqW a b)) else none
  | _ => none
def bNe : List W → Option W
  | [a, b] => if flat 40 a && flat 40 b then some (.bl (!eqW a b)) else none
  | _ => none

/-! ### numbers, texts -/
def bAdd : List W → Option W
  | [.int i, .int j] => some (.int (i + j))
  | [.str a, .str b] => if a.length + b.length ≤ 100000 then some (.str (a ++ b)) else none
  | [.lst a, .lst b] => if a.length + b.length ≤ 100000 then some (.lst (a ++ b)) else none
  | [.tup a, .tup b] => if a.length + b.length ≤ 100000 then some (.tup (a ++ b)) else none
  | _ => none
def bSub : List W → Option W
  | [.int i, .int j] => some (.int (i - j))
  | _ => none
def small64 (i : Int) : Bool := decide (i.natAbs < 18446744073709551616)
def bMul : List W → Option W
  | [.int i, .int j] => if small64 i || small64 j then some (.int (i * j)) else none
  | _ => none
def bFdiv : List W → Option W
  | [.int i, .int j] => if 0 < j ∧ j < 1073741824 then some (.int (i / j)) else none
  | _ => none
def bMod : List W → Option W
  | [.int i, .int j] => if 0 < j then some (.int (i % j)) else none
  | _ => none
def bNeg : List W → Option W
  | [.int i] => some (.int (-i))
  | _ => none
def ltL : List Nat → List Nat → Bool
  | [], [] => false
  | [], _ :: _ => true
  | _ :: _, [] => false
  | a :: x, b :: y => if a < b then true else if b < a then false else ltL x y
def bLt : List W → Option W
  | [.int i, .int j] => some (.bl (decide (i < j)))
  | [.str a, .str b] => some (.bl (ltL a b))
  | _ => none
def bLe : List W → Option W
  | [.int i, .int j] => some (.bl (decide (i ≤ j)))
  | [.str a, .str b] => some (.bl (!ltL b a))
  | _ => none
def bGt : List W → Option W
  | [.int i, .int j] => some (.bl (decide (j < i)))
  | [.str a, .str b] => some (.bl (ltL b a))
  | _ => none
def bGe : List W → Option W
  | [.int i, .int j] => some (.bl (decide (j ≤ i)))
  | [.str a, .str b] => some (.bl (!ltL a b))
  | _ => none
def isNon : W → Bool
  | .non => true
  | _ => false
def bIs : List W → Option W
  | [w, .non] => some (.bl (isNon w))
  | [.bl a, .bl b] => some (.bl (a == b))
  | _ => none
def bIsNot : List W → Option W
  | [w, .non] => some (.bl (!isNon w))
  | [.bl a, .bl b] => some (.bl (!(a == b)))
  | _ => none
/-- isinstance -/
def isT : Ty → W → Option Bool
  | _, .fn _ => none
  | _, .scr _ => none
  | _, .cls _ => none
  | .int, .int _ => some true
  | .int, .bl _ => some true
  | .bool, .bl _ => some true
  | .str, .str _ => some true
  | .tuple, .tup _ => some true
  | .list, .lst _ => some true
  | .dict, .dct _ _ => some true
  | _, _ => some false
def bIsT : List W → Option W
  | [w, .cls t] => (isT t w).map .bl
  | _ => none
def bLen : List W → Option W
  | [.str s] => if s.length ≤ 100000 then some (.int s.length) else none
  | [.tup xs] => some (.int xs.length)
  | [.lst xs] => some (.int xs.length)
  | [.scr ns] => some (.int ns.length)
  | _ => none
def bAbs : List W → Option W
  | [.int i] => some (.int (if i < 0 then -i else i))
  | _ => none
def bMax2 : List W → Option W
  | [.int i, .int j] => some (.int (if j > i then j else i))
  | _ => none
def bMin2 : List W → Option W
  | [.int i, .int j] => some (.int (if j < i then j else i))
  | _ => none
def bInt1 : List W → Option W
  | [.int i] => some (.int i)
  | [.bl b] => some (.int (if b then 1 else 0))
  | _ => none
/-- all of a list of truth values -/
def blsOf : List W → Option (List Bool)
  | [] => some []
  | .bl b :: r => (blsOf r).map (b :: ·)
  | _ :: _ => none
def bAll : List W → Option W
  | [.lst xs] => (blsOf xs).map fun bs => .bl (bs.all id)
  | _ => none
def bAny : List W → Option W
  | [.lst xs] => (blsOf xs).map fun bs => .bl (bs.any id)
  | _ => none
/-- x in xs, xs a tuple or a list of data -/
def inWs (x : W) : List W → Bool
  | [] => false
  | y :: ys => if eqW y x then true else inWs x ys
def inL (c : Nat) : List Nat → Bool
  | [] => false
  | d :: r => if c == d then true else inL c r
def bIn : List W → Option W
  | [x, .tup ys] => if sc1 x && sc1s ys then some (.bl (inWs x ys)) else none
  | [x, .lst ys] => if sc1 x && sc1s ys then some (.bl (inWs x ys)) else none
  | [.str [c], .str z] => some (.bl (inL c z))
  | _ => none
def bNotIn : List W → Option W
  | [x, .tup ys] => if sc1 x && sc1s ys then some (.bl (!inWs x ys)) else none
  | [x, .lst ys] => if sc1 x && sc1s ys then some (.bl (!inWs x ys)) else none
  | [.str [c], .str z] => some (.bl (!inL c z))
  | _ => none
/-- place i among n -/
def ixN (n : Nat) (i : Int) : Option Nat := if 0 ≤ i then (if i < n then some i.toNat else none) else if -(n : Int) ≤ i then some (i + n).toNat else none
def bIx : List W → Option W
  | [.tup xs, .int i] => (ixN xs.length i).bind fun j => xs[j]?
  | [.lst xs, .int i] => (ixN xs.length i).bind fun j => xs[j]?
  | [.scr ns, .int i] => (ixN ns.length i).bind fun j => ns[j]?.map .int
  | [.str s, .int i] => if s.length ≤ 100000 then (ixN s.length i).bind fun j => s[j]?.map fun c => .str [c] else none
  | _ => none
/-- a slice's bound as a place among n (d where it is left out) -/
def sIx (n d : Nat) : Option Int → Nat
  | none => d
  | some v => if v < 0 then (v + (n : Int)).toNat else min v.toNat n
def cut {α : Type} (xs : List α) (lo hi : Option Int) : List α := (xs.drop (sIx xs.length 0 lo)).take (sIx xs.length xs.length hi - sIx xs.length 0 lo)
def cutW (lo hi : Option Int) : W → Option W
  | .tup xs => some (.tup (cut xs lo hi))
  | .lst xs => some (.lst (cut xs lo hi))
  | .str s => if s.length ≤ 100000 then some (.str (cut s lo hi)) else none
  | _ => none
def bSl0 : List W → Option W
  | [w] => cutW none none w
  | _ => none
def bSlL : List W → Option W
  | [w, .int i] => cutW (some i) none w
  | _ => none
def bSlH : List W → Option W
  | [w, .int j] => cutW none (some j) w
  | _ => none
def bSlB : List W → Option W
  | [w, .int i, .int j] => cutW (some i) (some j) w
  | _ => none
def truthW : W → Option Bool
  | .non => some false
  | .bl b => some b
  | .int i => some (i != 0)
  | .str s => if s.length ≤ 100000 then some (!s.isEmpty) else none
  | .tup xs => some (!xs.isEmpty)
  | .lst xs => some (!xs.isEmpty)
  | _ => none

/-! ### expressions -/
def eC (w : W) : M W := mret w
def eVar (i : Nat) : M W := fun ss => match ss[i]? with
  | some (.fr _ w) => some (.ok w ss)
  | some (.own l w) => some (.ok w (ss.set i (.fr l w)))
  | _ => none
def rdSlot (i : Nat) : M W := fun ss => match ss[i]? with
  | some (.fr _ w) => some (.ok w ss)
  | some (.own _ w) => some (.ok w ss)
  | some (.lk w) => some (.ok w ss)
  | _ => none
/-- an operand: an expression, or a name that is only read -/
inductive Opd where
  | ev (m : M W) | pk (i : Nat)
def opds : List Opd → M (List W)
  | [] => mret []
  | .ev m :: r => mbd m fun w => mbd (opds r) fun ws => mret (w :: ws)
  | .pk i :: r => mbd (rdSlot i) fun _ => mbd (opds r) fun ws => mbd (rdSlot i) fun w => mret (w :: ws)
def bi (f : List W → Option W) (os : List Opd) : M W := mbd (opds os) fun ws => lift (f ws)
def exps : List (M W) → M (List W)
  | [] => mret []
  | m :: r => mbd m fun w => mbd (exps r) fun ws => mret (w :: ws)
def eTup (ms : List (M W)) : M W := mbd (exps ms) fun ws => mret (.tup ws)
def eLst (ms : List (M W)) : M W := mbd (exps ms) fun ws => mret (.lst ws)
/-- a whole number is wanted -/
def mInt (m : M W) : M W := mbd m fun w => match w with | .int i => mret (.int i) | _ => stuck
/-! tests -/
def tE (m : M W) : M Bool := mbd m fun w => lift (truthW w)
/-- a test that is a truth value for sure -/
def tB (m : M W) : M Bool := mbd m fun w => lift (match w with | .bl b => some b | _ => none)
def tAnd (a b : M Bool) : M Bool := mbd a fun k => if k then b else mret false
def tOr (a b : M Bool) : M Bool := mbd a fun k => if k then mret true else b
def tNot (a : M Bool) : M Bool := mbd a fun k => mret (!k)
def isBl (w : W) : Option Bool := match w with | .bl b => some b | _ => none
def eAnd (a b : M W) : M W := mbd a fun w => match w with | .bl true => b | .bl false => mret (.bl false) | _ => stuck
def eOr (a b : M W) : M W := mbd a fun w => match w with | .bl true => mret (.bl true) | .bl false => b | _ => stuck
def eNot (a : M W) : M W := mbd a fun w => match w with | .bl k => mret (.bl !k) | _ => stuck
def eIf (t : M Bool) (a b : M W) : M W := mbd t fun k => if k then a else b
/-- a op b op' c -/
def eChain (f g : List W → Option W) (a b c : M W) : M W := mbd a fun x => mbd b fun y => mbd (lift ((f [x, y]).bind isBl)) fun k =>
  if k then mbd c fun z => lift (g [y, z]) else mret (.bl false)

/-! ### statements -/
inductive Flow where
  | nx | brk | cont | ret (o : Bool) (w : W)
def free : Slot → Bool
  | .fr true _ => false
  | .own true _ => false
  | .lk _ => false
  | _ => true
def store (i : Nat) (s : Slot) : M Unit := fun ss => match ss[i]? with
  | some t => if free t then some (.ok () (ss.set i s)) else none
  | none => none
/-- a value that was just made, or one without parts -/
def ownS (w : W) : Slot := match w with
  | .lst _ => .own false w
  | .dct _ _ => .own false w
  | _ => .fr false w
def sPass : M Flow := mret .nx
def sAsg (i : Nat) (m : M W) : M Flow := mbd m fun w => mbd (store i (.fr false w)) fun _ => mret .nx
def sAsgO (i : Nat) (m : M W) : M Flow := mbd m fun w => mbd (store i (ownS w)) fun _ => mret .nx
def sSeq (a b : M Flow) : M Flow := mbd a fun f => match f with | .nx => b | f => mret f
def sIf (t : M Bool) (a b : M Flow) : M Flow := mbd t fun k => if k then a else b
def sRet (m : M W) : M Flow := mbd m fun w => mret (.ret false w)
def sRetO (m : M W) : M Flow := mbd m fun w => mret (.ret true w)
def sExpr (m : M W) : M Flow := mbd m fun _ => mret .nx
def sBrk : M Flow := mret .brk
def sCont : M Flow := mret .cont
def sRaise (c : Nat) (m : M W) : M Flow := mbd m fun w ss => some (.exc c w ss)
/-- targets of an assignment from a tuple -/
inductive Tg where
  | one (i : Nat) | many (ts : List Tg)
mutual
def asg : Tg → W → M Unit
  | .one i, w => store i (.fr false w)
  | .many ts, .tup ws => asgs ts ws
  | .many _, _ => stuck
def asgs : List Tg → List W → M Unit
  | [], [] => mret ()
  | t :: ts, w :: ws => mbd (asg t w) fun _ => asgs ts ws
  | _, _ => stuck
end
def tgIx : Tg → List Nat
  | .one i => [i]
  | .many ts => tgIxs ts
where tgIxs : List Tg → List Nat
  | [] => []
  | t :: ts => tgIx t ++ tgIxs ts
def sUnp (t : Tg) (m : M W) : M Flow := mbd m fun w => mbd (calm (asg t w)) fun _ => mret .nx
/-- x op= e, numbers and texts -/
def sAug (i : Nat) (f : List W → Option W) (m : M W) : M Flow := fun ss => match ss[i]? with
  | some (.fr false x) => (mbd m fun y => mbd (lift (f [x, y])) fun z => mbd (store i (.fr false z)) fun _ => mret .nx) ss
  | _ => none
/-- x.append(e), x a list of one's own -/
def ownL (i : Nat) : M (List W) := fun ss => match ss[i]? with
  | some (.own _ (.lst xs)) => some (.ok xs ss)
  | _ => none
def putL (i : Nat) (xs : List W) : M Unit := fun ss => match ss[i]? with
  | some (.own l (.lst _)) => some (.ok () (ss.set i (.own l (.lst xs))))
  | _ => none
def sApp (i : Nat) (m : M W) : M Flow := mbd (ownL i) fun _ => mbd m fun w => mbd (ownL i) fun xs => if xs.length < 100000 then mbd (putL i (xs ++ [w])) fun _ => mret .nx else stuck
/-- x.extend(e) -/
def sExt (i : Nat) (m : M W) : M Flow := mbd (ownL i) fun _ => mbd m fun w => mbd (ownL i) fun xs => match w with
  | .lst ys => if xs.length + ys.length ≤ 100000 then mbd (putL i (xs ++ ys)) fun _ => mret .nx else stuck
  | _ => stuck
/-- x[k] = e, x a list of one's own -/
def sSetL (i : Nat) (mk mv : M W) : M Flow := mbd mv fun v => mbd (ownL i) fun _ => mbd mk fun k => mbd (ownL i) fun xs => match k with
  | .int j => match ixN xs.length j with
    | some n => mbd (putL i (xs.set n v)) fun _ => mret .nx
    | none => stuck
  | _ => stuck
/-- return x -/
def sRetV (i : Nat) : M Flow := fun ss => match ss[i]? with
  | some (.own false w) => some (.ok (.ret true w) ss)
  | _ => mbd (eVar i) (fun w => mret (.ret false w)) ss

/-! ### loops -/
/-- a name's own thing is locked meanwhile -/
def lockd {α : Type} (i : Nat) (m : M α) : M α := fun ss => match ss[i]? with
  | some (.own l w) => match m (ss.set i (.lk w)) with
    | none => none
    | some (.ok a s) => some (.ok a (s.set i (.own l w)))
    | some (.exc k v s) => some (.exc k v (s.set i (.own l w)))
  | _ => m ss
/-- a name that nobody changes meanwhile -/
def eLk (i : Nat) : M W := fun ss => match ss[i]? with
  | some (.fr _ w) => some (.ok w ss)
  | some (.lk w) => some (.ok w ss)
  | _ => none
def turns (tg : W → M Unit) (body : M Flow) : List W → M Flow
  | [] => mret .nx
  | w :: ws => mbd (calm (tg w)) fun _ => mbd body fun f => match f with
    | .nx => turns tg body ws
    | .cont => turns tg body ws
    | .brk => mret .nx
    | .ret o v => mret (.ret o v)
/-- what a for walks -/
def items : W → Option (List W)
  | .tup xs => some xs
  | .lst xs => some xs
  | .str s => some (s.map fun c => .str [c])
  | .scr ns => some (ns.map .int)
  | _ => none
def upto (lo : Int) : Nat → List W
  | 0 => []
  | n + 1 => .int lo :: upto (lo + 1) n
def rangeOk (i : Int) : Bool := decide (-4611686018427387904 ≤ i) && decide (i < 4611686018427387904)
def iRange1 (m : M W) : M (List W) := mbd m fun w => lift (match w with
  | .int n => if rangeOk n then some (upto 0 n.toNat) else none
  | _ => none)
def iRange2 (a b : M W) : M (List W) := mbd a fun x => mbd b fun y => lift (match x, y with
  | .int i, .int j => if rangeOk i && rangeOk j then some (upto i (j - i).toNat) else none
  | _, _ => none)
def iEv (m : M W) : M (List W) := mbd m fun w => lift (items w)
def numbered : Int → List W → List W
  | _, [] => []
  | n, x :: xs => .tup [.int n, x] :: numbered (n + 1) xs
def enumW : W → Option (List W)
  | .lst xs => some (numbered 0 xs)
  | .str s => some (numbered 0 (s.map fun c => .str [c]))
  | _ => none
def iEnum (m : M W) : M (List W) := mbd m fun w => lift (enumW w)
def zipped : List W → List W → List W
  | x :: xs, y :: ys => .tup [x, y] :: zipped xs ys
  | _, _ => []
def zipW : W → W → Option (List W)
  | .lst xs, .lst ys => some (zipped xs ys)
  | .tup xs, .tup ys => some (zipped xs ys)
  | _, _ => none
def iZip (a b : M W) : M (List W) := mbd a fun x => mbd b fun y => lift (zipW x y)
def sFor (it : M (List W)) (tg : W → M Unit) (body : M Flow) : M Flow := mbd it fun ws => turns tg body ws
def sWhile (t : M Bool) (body : M Flow) : Nat → M Flow
  | 0 => stuck
  | n + 1 => mbd t fun k => if k then (mbd body fun f => match f with
      | .nx => sWhile t body n
      | .cont => sWhile t body n
      | .brk => mret .nx
      | .ret o v => mret (.ret o v)) else mret .nx
/-! comprehensions: os, their own slots -/
def wipe (os : List Nat) (ss : Slots) : Slots := os.foldl (fun s i => s.set i .no) ss
def freeAt (ss : Slots) (i : Nat) : Bool := match ss[i]? with
  | some s => free s
  | none => false
def mwipe (os : List Nat) : M Unit := fun ss => if os.all (freeAt ss) then some (.ok () (wipe os ss)) else none
def compGo (os : List Nat) (tg : W → M Unit) (ifs : M Bool) (elt : M W) : List W → List W → M (List W)
  | [], acc => mret acc.reverse
  | w :: ws, acc => mbd (calm (tg w)) fun _ => mbd ifs fun k =>
    if k then mbd elt fun v => if acc.length < 100000 then mbd (mwipe os) fun _ => compGo os tg ifs elt ws (v :: acc) else stuck
    else mbd (mwipe os) fun _ => compGo os tg ifs elt ws acc
def eComp (os : List Nat) (it : M (List W)) (tg : W → M Unit) (ifs : M Bool) (elt : M W) : M W :=
  mbd it fun ws => calm (mbd (mwipe os) fun _ => mbd (compGo os tg ifs elt ws []) fun vs => mret (.lst vs))

/-! ### calls -/
inductive Arg where
  | ev (m : M W) | lend (i : Nat) | pk (i : Nat)
def addLend (i : Nat) (ws : List Slot) : M (List Slot) := fun ss => match ss[i]? with
  | some (.own _ w) => some (.ok (.own true w :: ws) ss)
  | _ => none
def args : List Arg → M (List Slot)
  | [] => mret []
  | .ev m :: r => mbd m fun w => mbd (args r) fun ws => mret (.fr false w :: ws)
  | .lend i :: r => mbd (rdSlot i) fun _ => mbd (args r) fun ws => addLend i ws
  | .pk i :: r => mbd (rdSlot i) fun _ => mbd (args r) fun ws => mbd (rdSlot i) fun w => mret (.lk w :: ws)
/-- lent things come back -/
def back1 (l : Bool) : Slot → Slot
  | .own _ w => .own l w
  | .fr _ w => .fr l w
  | s => s
def back : List Arg → List Slot → Slots → Slots
  | .lend i :: r, s :: ss, t => back r ss (match t[i]? with | some (.own l _) => t.set i (back1 l s) | _ => t)
  | _ :: r, _ :: ss, t => back r ss t
  | _, _, t => t
/-- what a def hands back: own or not, the value, the parameters' slots -/
abbrev FOut := Option (R (Bool × W))
def ends : List Slot → Slots → List Slot
  | [], _ => []
  | a :: as, ss => (if free a then .no else ss.headD .no) :: ends as ss.tail
def runFn (n : Nat) (body : M Flow) (as : List Slot) : FOut := match body (as ++ List.replicate (n - as.length) .no) with
  | some (.ok (.ret o w) ss) => some (.ok (o, w) (ends as ss))
  | some (.ok .nx ss) => some (.ok (false, .non) (ends as ss))
  | some (.exc c w ss) => some (.exc c w (ends as ss))
  | _ => none
def callM (ok : Bool → W → Bool) (f : List Slot → FOut) (as : List Arg) : M W := mbd (args as) fun vs ss => match f vs with
  | some (.ok (o, w) fin) => if ok o w then some (.ok w (back as fin ss)) else none
  | some (.exc c w fin) => some (.exc c w (back as fin ss))
  | none => none
def eCall (f : List Slot → FOut) (as : List Arg) : M W := callM (fun _ _ => true) f as
def isMutW : W → Bool
  | .lst _ => true
  | .dct _ _ => true
  | _ => false
/-- .. where a value of one's own is wanted -/
def eCallO (f : List Slot → FOut) (as : List Arg) : M W := callM (fun o w => o || !isMutW w) f as
def lendIx : List Arg → List Nat
  | [] => []
  | .lend i :: r => i :: lendIx r
  | _ :: r => lendIx r
def lendsOk : List Arg → Bool
  | [] => true
  | .lend i :: r => !(lendIx r).contains i && !(pkIx r).contains i && lendsOk r
  | .pk i :: r => !(lendIx r).contains i && lendsOk r
  | _ :: r => lendsOk r
where pkIx : List Arg → List Nat
  | [] => []
  | .pk i :: r => i :: pkIx r
  | _ :: r => pkIx r
/-- told(lambda: e) -/
def eMet (hd : Nat → W → Option W) (m : M W) : M W := fun ss => match m ss with
  | some (.ok w s) => some (.ok (.tup [.str [116, 111, 108, 100], w]) s)
  | some (.exc c w s) => (hd c w).map fun v => .ok v s
  | none => none
end VI

set_option Elab.async false
set_option linter.all false
set_option maxRecDepth 100000
set_option maxHeartbeats 1000000
/-! VI, part 2: how data lies in the heap; what a step keeps. -/
namespace VI
open PySem L2
/-- a text by its signs -/
def mkS (l : List Nat) : Str := ⟨l.toArray⟩
/-- the text at hand: what the top has written, where its defs and its exceptions' classes stand, the one field of each -/
structure Cn where
  K : PySem.W.Frag
  fa : Nat → Addr
  ca : Nat → Addr
  ef : Nat → Option Str
  T : List (Addr × Str)
def keyW : W → Option Key
  | .int i => some (.inl i)
  | .str s => some (.inr (mkS s))
  | _ => none
def keysW : List W → Option (List Key)
  | [] => some []
  | w :: ws => match keyW w, keysW ws with
    | some k, some ks => some (k :: ks)
    | _, _ => none
def keyT : W → Option (List Key)
  | .tup ws => keysW ws
  | _ => none
def tyN : Ty → String
  | .int => "int"
  | .bool => "bool"
  | .str => "str"
  | .tuple => "tuple"
  | .list => "list"
  | .dict => "dict"
/-- a dict of the keys ks and the values vs at a -/
def DctAt (H : Hp) (a : Addr) (ks : List W) (vs : List V) : Prop :=
  (∃ kvs : List (Key × V), Rd H a (.dK kvs) ∧ ks.map keyW = kvs.map (fun p => some p.1) ∧ vs = kvs.map (·.2)) ∨
    ∃ kvs : List (List Key × V), Rd H a (.dT kvs) ∧ ks.map keyT = kvs.map (fun p => some p.1) ∧ vs = kvs.map (·.2)
section
variable (c : Cn) (F : Addr → Prop) (H : Hp)
mutual
/-- v is w, all of it within F (what nobody changes any more) or unchangeable -/
def RepF : W → V → Prop
  | .non, v => v = .non
  | .bl b, v => v = .bl b
  | .int i, v => v = .int i
  | .str s, v => v = .str (mkS s)
  | .tup ws, v => ∃ a vs, v = .ref a ∧ SqT c.K H a vs ∧ RepFs ws vs
  | .lst ws, v => ∃ a vs, v = .ref a ∧ F a ∧ H a = some (.lst vs) ∧ RepFs ws vs
  | .dct ks ws, v => ∃ a vs, v = .ref a ∧ F a ∧ DctAt H a ks vs ∧ RepFs ws vs
  | .scr ns, v => ∃ a, v = .ref a ∧ ((∃ o, H a = some (.frz o (.lst (ns.map V.int)))) ∨ SqL c.K (fun _ => none) a (ns.map V.int))
  | .fn i, v => v = .ref (c.fa i)
  | .cls t, v => v = .ty (tyN t)
def RepFs : List W → List V → Prop
  | [], vs => vs = []
  | w :: ws, vs => ∃ v r, vs = v :: r ∧ RepF w v ∧ RepFs ws r
end
/-- a list or a dict at a that may still change, its parts within F -/
def OwnAt (a : Addr) : W → Prop
  | .lst ws => ∃ vs, H a = some (.lst vs) ∧ RepFs c F H ws vs
  | .dct ks ws => ∃ vs, ((∃ u, H a = some u ∧ Mut (some u) ∧ ∀ o w', u ≠ .frz o w') ∧ DctAt H a ks vs) ∧ RepFs c F H ws vs
  | _ => False
end
/-- what holds of a changed heap: what cannot change, and what lies in F, is as it was -/
structure Kp (F F' : Addr → Prop) (H H' : Hp) : Prop where
  at_ : ∀ a o, H a = some o → (F a ∨ (∃ xs, o = .tup xs) ∨ (∃ ob u, o = .frz ob u)) → H' a = some o
  mono : ∀ a, F a → F' a
section
variable {c : Cn} {F F' F'' : Addr → Prop} {H H' H'' : Hp}
theorem Kp.refl : Kp F F H H := ⟨fun _ _ h _ => h, fun _ h => h⟩
theorem Kp.rd (k : Kp F F' H H') {a : Addr} {xs : List V} (h : Rd H a (.tup xs)) : Rd H' a (.tup xs) := by
  rcases h with h | ⟨o, h⟩
  · exact .inl (k.at_ a _ h (.inr (.inl ⟨_, rfl⟩)))
  · exact .inr ⟨o, k.at_ a _ h (.inr (.inr ⟨_, _, rfl⟩))⟩
theorem Kp.rdF (k : Kp F F' H H') {a : Addr} {u : HO} (hF : F a) (h : Rd H a u) : Rd H' a u := by
  rcases h with h | ⟨o, h⟩
  · exact .inl (k.at_ a _ h (.inl hF))
  · exact .inr ⟨o, k.at_ a _ h (.inl hF)⟩
theorem Kp.tup (k : Kp F F' H H') {K : PySem.W.Frag} {a : Addr} {xs : List V} (h : SqT K H a xs) : SqT K H' a xs := by
  rcases h with h | h
  · exact .inl (k.rd h)
  · exact .inr h
theorem Kp.dct (k : Kp F F' H H') {a : Addr} {ks : List W} {vs : List V} (hF : F a) (h : DctAt H a ks vs) : DctAt H' a ks vs := by
  rcases h with ⟨kvs, h, e⟩ | ⟨kvs, h, e⟩
  · exact .inl ⟨kvs, k.rdF hF h, e⟩
  · exact .inr ⟨kvs, k.rdF hF h, e⟩
mutual
theorem RepF.kp (k : Kp F F' H H') : ∀ (w : W) (v : V), RepF c F H w v → RepF c F' H' w v
  | .non, _, h => h
  | .bl _, _, h => h
  | .int _, _, h => h
  | .str _, _, h => h
  | .fn _, _, h => h
  | .cls _, _, h => h
  | .tup ws, v, h => by
    obtain ⟨a, vs, e, h1, h2⟩ := h
    exact ⟨a, vs, e, k.tup h1, RepFs.kp k ws vs h2⟩
  | .lst ws, v, h => by
    obtain ⟨a, vs, e, hF, h1, h2⟩ := h
    exact ⟨a, vs, e, k.mono a hF, k.at_ a _ h1 (.inl hF), RepFs.kp k ws vs h2⟩
  | .dct ks ws, v, h => by
    obtain ⟨a, vs, e, hF, h1, h2⟩ := h
    exact ⟨a, vs, e, k.mono a hF, k.dct hF h1, RepFs.kp k ws vs h2⟩
  | .scr ns, v, h => by
    obtain ⟨a, e, h1⟩ := h
    rcases h1 with ⟨o, h1⟩ | h1
    · exact ⟨a, e, .inl ⟨o, k.at_ a _ h1 (.inr (.inr ⟨_, _, rfl⟩))⟩⟩
    · exact ⟨a, e, .inr h1⟩
theorem RepFs.kp (k : Kp F F' H H') : ∀ (ws : List W) (vs : List V), RepFs c F H ws vs → RepFs c F' H' ws vs
  | [], _, h => h
  | w :: ws, _, h => by
    obtain ⟨v, r, e, h1, h2⟩ := h
    exact ⟨v, r, e, RepF.kp k w v h1, RepFs.kp k ws r h2⟩
end
theorem RepFs.length : ∀ {ws : List W} {vs : List V}, RepFs c F H ws vs → ws.length = vs.length
  | [], _, h => by
    have e : _ = [] := h
    rw [e]
    rfl
  | _ :: _, _, h => by
    obtain ⟨v, r, e, _, h2⟩ := h
    rw [e, List.length_cons, List.length_cons, RepFs.length h2]
theorem RepFs.app : ∀ {ws ws' : List W} {vs vs' : List V}, RepFs c F H ws vs → RepFs c F H ws' vs' → RepFs c F H (ws ++ ws') (vs ++ vs')
  | [], _, _, _, h, h' => by
    have e : _ = [] := h
    rw [e]
    exact h'
  | _ :: _, _, _, _, h, h' => by
    obtain ⟨v, r, e, h1, h2⟩ := h
    rw [e]
    exact ⟨v, r ++ _, rfl, h1, RepFs.app h2 h'⟩
theorem RepFs.get : ∀ {ws : List W} {vs : List V} {i : Nat} {w : W}, RepFs c F H ws vs → ws[i]? = some w → ∃ v, vs[i]? = some v ∧ RepF c F H w v
  | [], _, _, _, _, h => by simp at h
  | _ :: _, _, 0, w, h, e => by
    obtain ⟨v, r, rfl, h1, _⟩ := h
    simp at e
    subst e
    exact ⟨v, rfl, h1⟩
  | _ :: _, _, i + 1, w, h, e => by
    obtain ⟨v, r, rfl, _, h2⟩ := h
    obtain ⟨u, e1, e2⟩ := RepFs.get (i := i) (w := w) h2 (by simpa using e)
    exact ⟨u, by simpa using e1, e2⟩
theorem RepFs.getV : ∀ {ws : List W} {vs : List V} {i : Nat} {v : V}, RepFs c F H ws vs → vs[i]? = some v → ∃ w, ws[i]? = some w ∧ RepF c F H w v
  | [], _, _, _, h, e => by
    have e' : _ = [] := h
    rw [e'] at e
    simp at e
  | w :: _, _, 0, v, h, e => by
    obtain ⟨u, r, rfl, h1, _⟩ := h
    simp at e
    subst e
    exact ⟨w, rfl, h1⟩
  | _ :: _, _, i + 1, v, h, e => by
    obtain ⟨u, r, rfl, _, h2⟩ := h
    obtain ⟨w, e1, e2⟩ := RepFs.getV (i := i) (v := v) h2 (by simpa using e)
    exact ⟨w, by simpa using e1, e2⟩
theorem RepFs.set : ∀ {ws : List W} {vs : List V} {i : Nat} {w : W} {v : V}, RepFs c F H ws vs → RepF c F H w v → RepFs c F H (ws.set i w) (vs.set i v)
  | [], _, _, _, _, h, _ => by
    have e : _ = [] := h
    rw [e]
    exact rfl
  | _ :: _, _, 0, _, _, h, h' => by
    obtain ⟨v, r, rfl, _, h2⟩ := h
    exact ⟨_, r, rfl, h', h2⟩
  | _ :: _, _, i + 1, _, _, h, h' => by
    obtain ⟨v, r, rfl, h1, h2⟩ := h
    exact ⟨v, _, rfl, h1, RepFs.set (i := i) h2 h'⟩
theorem RepF.mono (h : ∀ a, F a → F' a) {w : W} {v : V} (r : RepF c F H w v) : RepF c F' H w v := RepF.kp ⟨fun _ _ e _ => e, h⟩ w v r
theorem RepFs.mono (h : ∀ a, F a → F' a) {w : List W} {v : List V} (r : RepFs c F H w v) : RepFs c F' H w v := RepFs.kp ⟨fun _ _ e _ => e, h⟩ w v r

/-! ### slots -/
/-- v is w, or w lies at v and may change -/
def RepL (c : Cn) (F : Addr → Prop) (H : Hp) (w : W) (v : V) : Prop := RepF c F H w v ∨ ∃ a, v = .ref a ∧ OwnAt c F H a w
def SlotR (c : Cn) (F : Addr → Prop) (H : Hp) : Slot → Option V → Prop
  | .no, _ => True
  | .fr _ w, ov => ∃ v, ov = some v ∧ RepF c F H w v
  | .own _ w, ov => ∃ a, ov = some (.ref a) ∧ OwnAt c F H a w
  | .lk w, ov => ∃ v, ov = some v ∧ RepL c F H w v
def isOwn : Slot → Bool
  | .own _ _ => true
  | _ => false
/-- what the slots own -/
def OwnA (σ : L2.St) (ss : Slots) (a : Addr) : Prop := ∃ (i : Nat) (s : Slot), ss[i]? = some s ∧ isOwn s = true ∧ σ[i]? = some (some (V.ref a))
abbrev isMut : W → Bool := isMutW
/-- lists and dicts that are locked -/
def LkA (σ : L2.St) (ss : Slots) (a : Addr) : Prop := ∃ (i : Nat) (w : W), ss[i]? = some (.lk w) ∧ isMut w = true ∧ σ[i]? = some (some (V.ref a))
def Busy (σ : L2.St) (ss : Slots) (a : Addr) : Prop := OwnA σ ss a ∨ LkA σ ss a
/-- no table of code objects -/
def NoTb (o : HO) : Prop := ∀ ps, o ≠ .tbl ps
theorem noTb_mut {u : HO} (m : Mut (some u)) : NoTb u := fun ps z => by
  rw [z] at m
  exact m
theorem tabs_keep {T : List (Addr × Str)} {H H' : Hp} (t : LamX.Tabs T H) (e : ∀ b u, H b = some u → ((∃ ps, u = .tbl ps) ∨ ∃ φ, u = .ext φ) → H' b = some u) : LamX.Tabs T H' := fun p hp => by
  obtain ⟨ps, h1, h2, h3⟩ := t p hp
  refine ⟨ps, e _ _ h1 (.inl ⟨ps, rfl⟩), h2, fun pos cv hc => ?_⟩
  obtain ⟨c, e1, e2⟩ := h3 pos cv hc
  exact ⟨c, e1, e _ _ e2 (.inr ⟨_, rfl⟩)⟩
theorem tabs_upd {T : List (Addr × Str)} {H : Hp} {a : Addr} {o : HO} {vs : List V} (t : LamX.Tabs T H) (h : H a = some (.lst vs)) : LamX.Tabs T (upd H a o) := tabs_keep t fun b u e z => by
  have n : b ≠ a := fun y => by
    rw [y, h] at e
    cases e
    rcases z with ⟨_, z⟩ | ⟨_, z⟩ <;> cases z
  rw [upd_ne n]
  exact e
structure SR (c : Cn) (F : Addr → Prop) (H : Hp) (σ : L2.St) (ss : Slots) : Prop where
  len : σ.length = ss.length
  rel : ∀ (i : Nat) (s : Slot) (ov : Option V), ss[i]? = some s → σ[i]? = some ov → SlotR c F H s ov
  nf : ∀ a, OwnA σ ss a → ¬ F a
  inj : ∀ (i j : Nat) (s t : Slot) (a : Addr), ss[i]? = some s → ss[j]? = some t → isOwn s = true → isOwn t = true → σ[i]? = some (some (V.ref a)) → σ[j]? = some (some (V.ref a)) → i = j
  lk : ∀ a, LkA σ ss a → ¬ OwnA σ ss a
  live : (∀ a, F a → ∃ o, H a = some o ∧ NoTb o) ∧ LamX.Tabs c.T H
/-- nothing stands at a, or a table -/
def Fr (H : Hp) (a : Addr) : Prop := ∀ o, H a = some o → ∃ ps, o = .tbl ps
theorem Fr.of {H : Hp} {a : Addr} (h : H a = none) : Fr H a := fun o e => by
  rw [h] at e
  cases e
theorem Fr.no {H : Hp} {a : Addr} {o : HO} (f : Fr H a) (h : H a = some o) (n : NoTb o) : False := by
  obtain ⟨ps, e⟩ := f o h
  exact n ps e
/-- from one moment to a later one -/
structure Fm (F : Addr → Prop) (H : Hp) (O : Addr → Prop) (F' : Addr → Prop) (H' : Hp) (O' : Addr → Prop) : Prop where
  keep : ∀ a o, H a = some o → ¬ O a → NoTb o → H' a = some o
  live : ∀ a o, H a = some o → NoTb o → ∃ o', H' a = some o' ∧ NoTb o'
  mono : ∀ a, F a → F' a
  fnew : ∀ a, F' a → F a ∨ O a ∨ Fr H a
  onew : ∀ a, O' a → O a ∨ Fr H a
theorem Fm.refl {O : Addr → Prop} : Fm F H O F H O := ⟨fun _ _ h _ _ => h, fun _ o h n => ⟨o, h, n⟩, fun _ h => h, fun _ h => .inl h, fun _ h => .inl h⟩
theorem Fm.gone {O O' : Addr → Prop} (f : Fm F H O F' H' O') {a : Addr} (h : Fr H' a) : Fr H a := fun o e => by
  by_cases t : ∃ ps, o = .tbl ps
  · exact t
  · obtain ⟨o', q, n⟩ := f.live a o e fun ps z => t ⟨ps, z⟩
    exact (h.no q n).elim
theorem Fm.trans {O O' O'' : Addr → Prop} (f : Fm F H O F' H' O') (g : Fm F' H' O' F'' H'' O'') : Fm F H O F'' H'' O'' where
  keep := fun a o h n t => g.keep a o (f.keep a o h n t) (fun z => by
    rcases f.onew a z with z | z
    · exact n z
    · exact z.no h t) t
  live := fun a o h n => by
    obtain ⟨o', q, n'⟩ := f.live a o h n
    exact g.live a o' q n'
  mono := fun a h => g.mono a (f.mono a h)
  fnew := fun a h => by
    rcases g.fnew a h with z | z | z
    · exact f.fnew a z
    · rcases f.onew a z with z | z
      · exact .inr (.inl z)
      · exact .inr (.inr z)
    · exact .inr (.inr (f.gone z))
  onew := fun a h => by
    rcases g.onew a h with z | z
    · exact f.onew a z
    · exact .inr (f.gone z)
/-- what is owned is a list or a dict -/
theorem OwnAt.mut {a : Addr} {w : W} (h : OwnAt c F H a w) : ∃ u, H a = some u ∧ Mut (some u) ∧ (∀ xs, u ≠ .tup xs) ∧ ∀ o w', u ≠ .frz o w' := by
  cases w with
  | lst ws =>
    obtain ⟨vs, e, _⟩ := h
    exact ⟨_, e, True.intro, (fun xs z => by cases z), (fun o w' z => by cases z)⟩
  | dct ks ws =>
    obtain ⟨vs, ⟨⟨u, e, m, n⟩, _⟩, _⟩ := h
    exact ⟨u, e, m, (fun xs z => by rw [z] at m; exact m), n⟩
  | _ => exact h.elim
theorem SR.own {σ : L2.St} {ss : Slots} (s : SR c F H σ ss) {a : Addr} (h : OwnA σ ss a) : ∃ u, H a = some u ∧ Mut (some u) ∧ (∀ xs, u ≠ .tup xs) ∧ ∀ o w', u ≠ .frz o w' := by
  obtain ⟨i, t, h1, h2, h3⟩ := h
  have r := s.rel i t _ h1 h3
  cases t with
  | own l w =>
    obtain ⟨b, e, q⟩ := r
    cases e
    exact q.mut
  | _ => cases h2
/-- what is locked stands -/
theorem SR.locked {σ : L2.St} {ss : Slots} (s : SR c F H σ ss) {a : Addr} (h : LkA σ ss a) : ∃ u, H a = some u ∧ NoTb u := by
  obtain ⟨i, w, h1, h2, h3⟩ := h
  have r := s.rel i _ _ h1 h3
  obtain ⟨v, e, q⟩ := r
  cases e
  rcases q with q | ⟨b, e, q⟩
  · cases w with
    | lst ws =>
      obtain ⟨b, vs, e, _, e1, _⟩ := q
      cases e
      exact ⟨_, e1, fun _ z => by cases z⟩
    | dct ks ws =>
      obtain ⟨b, vs, e, _, e1, _⟩ := q
      cases e
      rcases e1 with ⟨kvs, e1 | ⟨o, e1⟩, _⟩ | ⟨kvs, e1 | ⟨o, e1⟩, _⟩ <;> exact ⟨_, e1, fun _ z => by cases z⟩
    | _ => cases h2
  · cases e
    obtain ⟨u, e, m, _⟩ := q.mut
    exact ⟨u, e, noTb_mut m⟩
/-- a new place is not busy -/
theorem SR.fresh {σ : L2.St} {ss : Slots} (s : SR c F H σ ss) {a : Addr} (h : Fr H a) : ¬ Busy σ ss a := fun z => by
  rcases z with z | z
  · obtain ⟨u, e, m, _⟩ := s.own z
    exact h.no e (noTb_mut m)
  · obtain ⟨u, e, n⟩ := s.locked z
    exact h.no e n
theorem SR.liv {σ : L2.St} {ss : Slots} (s : SR c F H σ ss) : ∀ a, F a → ∃ o, H a = some o := fun a h => by
  obtain ⟨o, e, _⟩ := s.live.1 a h
  exact ⟨o, e⟩
/-- what a step keeps -/
theorem SR.kp {σ : L2.St} {ss : Slots} {O' : Addr → Prop} (s : SR c F H σ ss) (f : Fm F H (OwnA σ ss) F' H' O') : Kp F F' H H' :=
  ⟨fun a o h z => f.keep a o h (fun ow => by
    obtain ⟨u, e, _, n1, n2⟩ := s.own ow
    rw [h] at e
    cases e
    rcases z with z | ⟨xs, z⟩ | ⟨ob, w', z⟩
    · exact s.nf a ow z
    · exact n1 xs z
    · exact n2 ob w' z) (by
    rcases z with z | ⟨xs, z⟩ | ⟨ob, w', z⟩
    · obtain ⟨o', e, n⟩ := s.live.1 a z
      rw [h] at e
      cases e
      exact n
    · intro ps y
      rw [z] at y
      cases y
    · intro ps y
      rw [z] at y
      cases y), f.mono⟩
end
end VI

set_option Elab.async false
set_option linter.all false
set_option maxRecDepth 100000
set_option maxHeartbeats 1000000
/-! VI, part 3: what a step of the machine is to a step of ours; expressions. -/
namespace VI
open PySem L2
/-- an exception of the kind k, its field w -/
def ExR (c : Cn) (F : Addr → Prop) (H : Hp) (k : Nat) (w : W) (cls : Value) (d : Option Addr) : Prop :=
  cls = .ref (c.ca k) ∧ match c.ef k with
    | none => True
    | some f => ∃ (dd : Addr) (v : V), d = some dd ∧ H dd = some (.xd [(f, v)]) ∧ RepF c F H w v
/-- a name that is not bound anew: what it may turn into -/
def Nfr : Slot → Slot → Prop
  | .lk w, s' => s' = .lk w
  | .fr _ w, s' => s' = .fr true w
  | .own _ _, s' => (∃ w', s' = .own true w') ∨ ∃ w', s' = .fr true w' ∧ isMut w' = true
  | .no, _ => True
theorem Nfr.refl {s : Slot} (h : free s = false) : Nfr s s := by
  cases s with
  | no => trivial
  | lk w => exact rfl
  | fr l w =>
    cases l
    · cases h
    · exact rfl
  | own l w =>
    cases l
    · cases h
    · exact .inl ⟨w, rfl⟩
theorem Nfr.frees {s s' : Slot} (h : Nfr s s') (f : free s = false) : free s' = false := by
  cases s with
  | no => cases f
  | lk w =>
    have h : s' = _ := h
    rw [h]
    rfl
  | fr l w =>
    have h : s' = _ := h
    rw [h]
    rfl
  | own l w =>
    rcases h with ⟨w', h⟩ | ⟨w', h, _⟩ <;> rw [h] <;> rfl
theorem Nfr.trans {s s' s'' : Slot} (f : free s = false) (a : Nfr s s') (b : Nfr s' s'') : Nfr s s'' := by
  cases s with
  | no => cases f
  | lk w =>
    have a : s' = _ := a
    subst a
    exact b
  | fr l w =>
    have a : s' = _ := a
    subst a
    exact b
  | own l w =>
    rcases a with ⟨w', h⟩ | ⟨w', h, m⟩
    · subst h
      exact b
    · subst h
      have b : s'' = _ := b
      subst b
      exact .inr ⟨w', rfl, m⟩
/-- lent and locked names stay as they are; no others are locked -/
structure Ln (σ : L2.St) (ss : Slots) (σ' : L2.St) (ss' : Slots) : Prop where
  st : ∀ (i : Nat) (s : Slot), ss[i]? = some s → free s = false → σ'[i]? = σ[i]? ∧ ∃ s' : Slot, ss'[i]? = some s' ∧ Nfr s s'
  lk : ∀ (i : Nat) (w : W), ss'[i]? = some (.lk w) → ss[i]? = some (.lk w)
theorem Ln.refl {σ : L2.St} {ss : Slots} : Ln σ ss σ ss := ⟨fun _ s h f => ⟨rfl, s, h, Nfr.refl f⟩, fun _ _ h => h⟩
theorem Ln.trans {σ σ' σ'' : L2.St} {ss ss' ss'' : Slots} (a : Ln σ ss σ' ss') (b : Ln σ' ss' σ'' ss'') : Ln σ ss σ'' ss'' := ⟨fun i s h f => by
  obtain ⟨e1, s1, h1, f1⟩ := a.st i s h f
  obtain ⟨e2, s2, h2, f2⟩ := b.st i s1 h1 (f1.frees f)
  exact ⟨e2.trans e1, s2, h2, f1.trans f f2⟩, fun i w h => a.lk i w (b.lk i w h)⟩
/-- what is busy: owned, locked -/
structure Bz where
  own : Addr → Prop
  lk : Addr → Prop
def BZ (σ : L2.St) (ss : Slots) : Bz := ⟨OwnA σ ss, LkA σ ss⟩
/-- how a value of ours (β: the machine's) is told -/
abbrev Rl (α β : Type) := Bz → (Addr → Prop) → Hp → Hp → α → β → Prop
/-- m, begun at the slots ss, comes to what Q wishes; Wx: of its exceptions -/
def From {α β : Type} (c : Cn) (m : M α) (T : Rl α β) (Wx : WX) (σ : L2.St) (F : Addr → Prop) (H : Hp) (ss : Slots) (Q : β → Hp → Prop) : Prop :=
  (∃ a ss', m ss = some (.ok a ss') ∧ ∀ (b : β) (F' : Addr → Prop) (H' : Hp), Fm F H (OwnA σ ss) F' H' (OwnA σ ss') → SR c F' H' σ ss' → Ln σ ss σ ss' → T (BZ σ ss') F' H H' a b → Q b H') ∨
    ∃ k w ss', m ss = some (.exc k w ss') ∧ ∀ (cls : Value) (d : Option Addr) (F' : Addr → Prop) (H' : Hp), Fm F H (OwnA σ ss) F' H' (OwnA σ ss') → SR c F' H' σ ss' → Ln σ ss σ ss' → ExR c F' H' k w cls d → Wx cls d σ H'
def tM {α β : Type} (c : Cn) (m : M α) (T : Rl α β) (Wx : WX) : L2.St → Hp → (β → Hp → Prop) → Prop := fun σ H Q => ∃ F ss, SR c F H σ ss ∧ From c m T Wx σ F H ss Q
/-- told of an earlier heap too -/
def Early {α β : Type} (T : Rl α β) : Prop := ∀ O F H H1 H' a b, (∀ x, Fr H1 x → Fr H x) → T O F H1 H' a b → T O F H H' a b
section
variable {α β γ δ : Type} {c : Cn} {Wx : WX} {σ : L2.St} {F F' : Addr → Prop} {H H' : Hp} {ss ss' : Slots}
theorem From.mono {m : M α} {T : Rl α β} {Q Q' : β → Hp → Prop} (h : From c m T Wx σ F H ss Q) (k : ∀ b H', Q b H' → Q' b H') : From c m T Wx σ F H ss Q' := by
  rcases h with ⟨a, s, e, q⟩ | ⟨j, w, s, e, q⟩
  · exact .inl ⟨a, s, e, fun b F' H' h1 h2 h3 h4 => k _ _ (q b F' H' h1 h2 h3 h4)⟩
  · exact .inr ⟨j, w, s, e, q⟩
theorem tM.mono {m : M α} {T : Rl α β} {Q Q' : β → Hp → Prop} (h : tM c m T Wx σ H Q) (k : ∀ b H', Q b H' → Q' b H') : tM c m T Wx σ H Q' := by
  obtain ⟨F, ss, s, h⟩ := h
  exact ⟨F, ss, s, h.mono k⟩
theorem From.bind {m : M α} {f : α → M γ} {T : Rl γ δ} {U : Rl α β} {Q : δ → Hp → Prop} (hT : Early T) (h : From c (mbd m f) T Wx σ F H ss Q) :
    From c m U Wx σ F H ss fun b H1 => ∃ a F1 ss1, m ss = some (.ok a ss1) ∧ SR c F1 H1 σ ss1 ∧ U (BZ σ ss1) F1 H H1 a b ∧ Fm F H (OwnA σ ss) F1 H1 (OwnA σ ss1) ∧ Ln σ ss σ ss1 ∧ From c (f a) T Wx σ F1 H1 ss1 Q := by
  cases em : m ss with
  | none =>
    have z : mbd m f ss = none := by unfold mbd; rw [em]
    rcases h with ⟨a, s, e, _⟩ | ⟨j, w, s, e, _⟩ <;> rw [z] at e <;> cases e
  | some r =>
    cases r with
    | exc k w s =>
      have z : mbd m f ss = some (.exc k w s) := by unfold mbd; rw [em]
      rcases h with ⟨a, s', e, _⟩ | ⟨j, w', s', e, q⟩
      · rw [z] at e
        cases e
      · rw [z] at e
        cases e
        exact .inr ⟨k, w, s, em, q⟩
    | ok a s =>
      have z : mbd m f ss = f a s := by unfold mbd; rw [em]
      refine .inl ⟨a, s, em, fun b F1 H1 f1 s1 l1 t1 => ⟨a, F1, s, rfl, s1, t1, f1, l1, ?_⟩⟩
      rcases h with ⟨a', s', e, q⟩ | ⟨j, w', s', e, q⟩
      · rw [z] at e
        exact .inl ⟨a', s', e, fun b' F2 H2 f2 s2 l2 t2 => q b' F2 H2 (f1.trans f2) s2 (l1.trans l2) (hT _ _ _ _ _ _ _ (fun x hx => f1.gone hx) t2)⟩
      · rw [z] at e
        exact .inr ⟨j, w', s', e, fun cls d F2 H2 f2 s2 l2 x => q cls d F2 H2 (f1.trans f2) s2 (l1.trans l2) x⟩
theorem From.ret {a : α} {T : Rl α β} {Q : β → Hp → Prop} {b : β} (h : From c (mret a) T Wx σ F H ss Q) (s : SR c F H σ ss) (t : T (BZ σ ss) F H H a b) : Q b H := by
  rcases h with ⟨a', s', e, q⟩ | ⟨j, w', s', e, q⟩
  · cases e
    exact q b F H .refl s .refl t
  · cases e
theorem From.retE {a : α} {T : Rl α β} {Q : β → Hp → Prop} (h : From c (mret a) T Wx σ F H ss Q) {b : β} {F' : Addr → Prop} {H' : Hp} (f : Fm F H (OwnA σ ss) F' H' (OwnA σ ss)) (s : SR c F' H' σ ss) (t : T (BZ σ ss) F' H H' a b) : Q b H' := by
  rcases h with ⟨a', s', e, q⟩ | ⟨j, w', s', e, q⟩
  · cases e
    exact q b F' H' f s .refl t
  · cases e
theorem From.lift {o : Option α} {T : Rl α β} {Q : β → Hp → Prop} (h : From c (lift o) T Wx σ F H ss Q) : ∃ a, o = some a ∧ ∀ (b : β) (F' : Addr → Prop) (H' : Hp), Fm F H (OwnA σ ss) F' H' (OwnA σ ss) → SR c F' H' σ ss → T (BZ σ ss) F' H H' a b → Q b H' := by
  cases o with
  | none => rcases h with ⟨a', s', e, q⟩ | ⟨j, w', s', e, q⟩ <;> cases e
  | some a =>
    rcases h with ⟨a', s', e, q⟩ | ⟨j, w', s', e, q⟩
    · cases e
      exact ⟨a, rfl, fun b F' H' f s t => q b F' H' f s .refl t⟩
    · cases e
end

/-! ### what is told of values -/
def rF (c : Cn) : Rl W V := fun _ F' _ H' w v => RepF c F' H' w v
def rFs (c : Cn) : Rl (List W) (List V) := fun _ F' _ H' ws vs => RepFs c F' H' ws vs
def rB : Rl Bool Bool := fun _ _ _ _ a b => a = b
/-- just made: nobody else has it -/
def rO (c : Cn) : Rl W V := fun O F' H H' w v => match w with
  | .lst _ => ∃ a, v = .ref a ∧ Fr H a ∧ ¬ F' a ∧ ¬ (O.own a ∨ O.lk a) ∧ OwnAt c F' H' a w
  | .dct _ _ => ∃ a, v = .ref a ∧ Fr H a ∧ ¬ F' a ∧ ¬ (O.own a ∨ O.lk a) ∧ OwnAt c F' H' a w
  | _ => RepF c F' H' w v
theorem early_F {c : Cn} : Early (rF c) := fun _ _ _ _ _ _ _ _ h => h
theorem early_Fs {c : Cn} : Early (rFs c) := fun _ _ _ _ _ _ _ _ h => h
theorem early_B : Early rB := fun _ _ _ _ _ _ _ _ h => h
theorem early_O {c : Cn} : Early (rO c) := fun O F H H1 H' w v k h => by
  cases w with
  | lst ws =>
    obtain ⟨a, e, n, r⟩ := h
    exact ⟨a, e, k a n, r⟩
  | dct ks ws =>
    obtain ⟨a, e, n, r⟩ := h
    exact ⟨a, e, k a n, r⟩
  | _ => exact h

def SimE (c : Cn) (X : Cx) (e : Expr) (m : M W) : Prop := ∀ Wx, Takes X Wx → PE X e (tM c m (rF c) Wx)
def SimO (c : Cn) (X : Cx) (e : Expr) (m : M W) : Prop := ∀ Wx, Takes X Wx → PE X e (tM c m (rO c) Wx)
def SimT (c : Cn) (X : Cx) (e : Expr) (m : M Bool) : Prop := ∀ Wx, Takes X Wx → PT X e (tM c m rB Wx)
def SimW (c : Cn) (X : Cx) (e : Expr) (m : M Bool) : Prop := ∀ Wx, Takes X Wx → PW X e (tM c m rB Wx)
def SimL (c : Cn) (X : Cx) (es : List Expr) (m : M (List W)) : Prop := ∀ Wx, Takes X Wx → PA X es (tM c m (rFs c) Wx)
/-- weaker wishes -/
theorem PE.imp {X : Cx} {e : Expr} {t t' : TE} (h : PE X e t) (k : ∀ σ H Q, t' σ H Q → t σ H Q) : PE X e t' := ⟨fun pins s σ H Q I q => h.run pins s σ H Q I (k σ H Q q)⟩
theorem PT.imp {X : Cx} {e : Expr} {t t' : TT} (h : PT X e t) (k : ∀ σ H Q, t' σ H Q → t σ H Q) : PT X e t' := ⟨fun pins s σ H Q I q => h.run pins s σ H Q I (k σ H Q q)⟩
theorem PW.imp {X : Cx} {e : Expr} {t t' : TT} (h : PW X e t) (k : ∀ σ H Q, t' σ H Q → t σ H Q) : PW X e t' := ⟨fun wh pins s σ H Q I q => h.run wh pins s σ H Q I (k σ H Q q)⟩
theorem PA.imp {X : Cx} {e : List Expr} {t t' : TA} (h : PA X e t) (k : ∀ σ H Q, t' σ H Q → t σ H Q) : PA X e t' := ⟨fun pos pins s σ H Q I q => h.run pos pins s σ H Q I (k σ H Q q)⟩

/-! ### a heap that has grown -/
def Ext (H H' : Hp) : Prop := ∀ a o, H a = some o → H' a = some o
theorem Ext.refl (H : Hp) : Ext H H := fun _ _ h => h
theorem Ext.new {H : Hp} {p : Addr} {o : HO} (h : H p = none) : Ext H (upd H p o) := fun a u e => by
  rw [upd_ne (ne_of_none e h)]
  exact e
theorem Ext.trans {H H1 H2 : Hp} (a : Ext H H1) (b : Ext H1 H2) : Ext H H2 := fun x o h => b x o (a x o h)
section
variable {c : Cn} {σ : L2.St} {F F' : Addr → Prop} {H H' : Hp} {ss : Slots} {O : Addr → Prop}
theorem Ext.fm (e : Ext H H') : Fm F H O F H' O := ⟨fun a o h _ _ => e a o h, fun a o h n => ⟨o, e a o h, n⟩, fun _ h => h, fun _ h => .inl h, fun _ h => .inl h⟩
theorem Ext.kp (e : Ext H H') : Kp F F H H' := ⟨fun a o h _ => e a o h, fun _ h => h⟩
theorem OwnAt.ext {a : Addr} {w : W} (h : OwnAt c F H a w) (e : Ext H H') : OwnAt c F H' a w := by
  cases w with
  | lst ws =>
    obtain ⟨vs, h1, h2⟩ := h
    exact ⟨vs, e _ _ h1, RepFs.kp e.kp _ _ h2⟩
  | dct ks ws =>
    obtain ⟨vs, ⟨⟨u, h1, m, n⟩, h3⟩, h2⟩ := h
    refine ⟨vs, ⟨⟨u, e _ _ h1, m, n⟩, ?_⟩, RepFs.kp e.kp _ _ h2⟩
    rcases h3 with ⟨kvs, h3, r⟩ | ⟨kvs, h3, r⟩
    · refine .inl ⟨kvs, ?_, r⟩
      rcases h3 with h3 | ⟨o, h3⟩
      · exact .inl (e _ _ h3)
      · exact .inr ⟨o, e _ _ h3⟩
    · refine .inr ⟨kvs, ?_, r⟩
      rcases h3 with h3 | ⟨o, h3⟩
      · exact .inl (e _ _ h3)
      · exact .inr ⟨o, e _ _ h3⟩
  | _ => exact h.elim
theorem OwnAt.mono {a : Addr} {w : W} (h : OwnAt c F H a w) (k : ∀ a, F a → F' a) : OwnAt c F' H a w := by
  cases w with
  | lst ws =>
    obtain ⟨vs, h1, h2⟩ := h
    exact ⟨vs, h1, h2.mono k⟩
  | dct ks ws =>
    obtain ⟨vs, h1, h2⟩ := h
    exact ⟨vs, h1, h2.mono k⟩
  | _ => exact h.elim
theorem SlotR.ext {s : Slot} {ov : Option V} (h : SlotR c F H s ov) (e : Ext H H') : SlotR c F H' s ov := by
  cases s with
  | no => exact h
  | fr l w =>
    obtain ⟨v, h1, h2⟩ := h
    exact ⟨v, h1, RepF.kp e.kp _ _ h2⟩
  | own l w =>
    obtain ⟨a, h1, h2⟩ := h
    exact ⟨a, h1, h2.ext e⟩
  | lk w =>
    obtain ⟨v, h1, h2⟩ := h
    rcases h2 with h2 | ⟨a, h3, h2⟩
    · exact ⟨v, h1, .inl (RepF.kp e.kp _ _ h2)⟩
    · exact ⟨v, h1, .inr ⟨a, h3, h2.ext e⟩⟩
theorem SR.ext (s : SR c F H σ ss) (e : Ext H H') : SR c F H' σ ss :=
  ⟨s.len, fun i t ov h1 h2 => (s.rel i t ov h1 h2).ext e, s.nf, s.inj, s.lk, ⟨fun a h => by
    obtain ⟨o, q, n⟩ := s.live.1 a h
    exact ⟨o, e a o q, n⟩, s.live.2.ext e⟩⟩
theorem SlotR.mono {s : Slot} {ov : Option V} (h : SlotR c F H s ov) (k : ∀ a, F a → F' a) : SlotR c F' H s ov := by
  cases s with
  | no => exact h
  | fr l w =>
    obtain ⟨v, h1, h2⟩ := h
    exact ⟨v, h1, h2.mono k⟩
  | own l w =>
    obtain ⟨a, h1, h2⟩ := h
    exact ⟨a, h1, h2.mono k⟩
  | lk w =>
    obtain ⟨v, h1, h2⟩ := h
    rcases h2 with h2 | ⟨a, h3, h2⟩
    · exact ⟨v, h1, .inl (h2.mono k)⟩
    · exact ⟨v, h1, .inr ⟨a, h3, h2.mono k⟩⟩
/-- F and the one place a -/
def plus (F : Addr → Prop) (a : Addr) : Addr → Prop := fun b => F b ∨ b = a
theorem SR.plusA (s : SR c F H σ ss) {a : Addr} {o : HO} (h : H a = some o) (m : Mut (some o)) (n : ¬ OwnA σ ss a) : SR c (plus F a) H σ ss :=
  ⟨s.len, fun i t ov h1 h2 => (s.rel i t ov h1 h2).mono fun _ h => .inl h, fun b hb z => by
    rcases z with z | z
    · exact s.nf b hb z
    · rw [z] at hb
      exact n hb, s.inj, s.lk, ⟨fun b z => by
    rcases z with z | z
    · exact s.live.1 b z
    · rw [z]
      exact ⟨o, h, noTb_mut m⟩, s.live.2⟩⟩
theorem Fm.plusA {O' : Addr → Prop} {H0 : Hp} {F0 : Addr → Prop} (f : Fm F0 H0 O F H O') {a : Addr} (n : O a ∨ Fr H0 a) : Fm F0 H0 O (plus F a) H O' :=
  ⟨f.keep, f.live, fun b h => .inl (f.mono b h), fun b h => by
    rcases h with h | h
    · exact f.fnew b h
    · rw [h]
      exact .inr n, f.onew⟩
theorem OwnAt.mutW {a : Addr} {w : W} (h : OwnAt c F H a w) : isMut w = true := by
  cases w with
  | lst ws => rfl
  | dct ks ws => rfl
  | _ => exact (show False from h).elim
theorem OwnAt.rep {a : Addr} {w : W} (h : OwnAt c F H a w) : RepF c (VI.plus F a) H w (.ref a) := by
  cases w with
  | lst ws =>
    obtain ⟨vs, h1, h2⟩ := h
    exact ⟨a, vs, rfl, .inr rfl, h1, h2.mono fun _ h => .inl h⟩
  | dct ks ws =>
    obtain ⟨vs, ⟨_, h1⟩, h2⟩ := h
    exact ⟨a, vs, rfl, .inr rfl, h1, h2.mono fun _ h => .inl h⟩
  | _ => exact h.elim
end
/-- what was just made is handed on -/
theorem SimO.toE {c : Cn} {X : Cx} {e : Expr} {m : M W} (h : SimO c X e m) : SimE c X e m := fun Wx tk => PE.imp (h Wx tk) fun σ H Q q => by
  obtain ⟨F, ss, s, q⟩ := q
  refine ⟨F, ss, s, ?_⟩
  rcases q with ⟨w, s', em, q⟩ | ⟨j, w', s', em, q⟩
  · refine .inl ⟨w, s', em, fun v F' H' f s1 l t => ?_⟩
    have go : (∃ a, v = .ref a ∧ Fr H a ∧ ¬ F' a ∧ ¬ Busy σ s' a ∧ OwnAt c F' H' a w) → Q v H' := fun ⟨a, ev, n, nF, nO, ow⟩ => by
      subst ev
      obtain ⟨u, hu, mu, _⟩ := ow.mut
      exact q _ (plus F' a) H' (f.plusA (.inr n)) (s1.plusA hu mu fun z => nO (.inl z)) l ow.rep
    cases w with
    | lst ws => exact go t
    | dct ks ws => exact go t
    | _ => exact q v F' H' f s1 l t
  · exact .inr ⟨j, w', s', em, q⟩
end VI

set_option Elab.async false
set_option linter.all false
set_option maxRecDepth 100000
set_option maxHeartbeats 1000000
/-! VI, part 4: operands, built-in operations by rules over data. -/
namespace VI
open PySem L2
theorem mbd_assoc {α β γ : Type} (m : M α) (f : α → M β) (g : β → M γ) : mbd (mbd m f) g = mbd m fun a => mbd (f a) g := by
  funext ss
  unfold mbd
  cases m ss with
  | none => rfl
  | some r => cases r <;> rfl
theorem mbd_ok {α β : Type} {m : M α} {f : α → M β} {ss s : Slots} {a : α} (h : m ss = some (.ok a s)) : mbd m f ss = f a s := by
  unfold mbd
  rw [h]
theorem mbd_ret {α β : Type} (a : α) (f : α → M β) : mbd (mret a) f = f a := rfl
section
variable {c : Cn} {σ : L2.St} {F F' : Addr → Prop} {H H' : Hp} {ss : Slots}
theorem SR.get (s : SR c F H σ ss) {i : Nat} {t : Slot} (h : ss[i]? = some t) : ∃ ov, σ[i]? = some ov ∧ SlotR c F H t ov := by
  have hl : i < σ.length := by
    rw [s.len]
    exact (List.getElem?_eq_some_iff.mp h).1
  exact ⟨_, List.getElem?_eq_getElem hl, s.rel i t _ h (List.getElem?_eq_getElem hl)⟩
theorem RepF.toL {w : W} {v : V} (h : RepF c F H w v) : RepL c F H w v := .inl h
theorem rd_slot {i : Nat} {r : R W} (s : SR c F H σ ss) (h : rdSlot i ss = some r) : ∃ w v, r = .ok w ss ∧ σ[i]? = some (some v) ∧ RepL c F H w v := by
  unfold rdSlot at h
  cases e : ss[i]? with
  | none =>
    rw [e] at h
    cases h
  | some t =>
    rw [e] at h
    obtain ⟨ov, e1, r1⟩ := s.get e
    cases t with
    | no => cases h
    | fr l w =>
      cases h
      obtain ⟨v, ev, q⟩ := r1
      exact ⟨w, v, rfl, by rw [e1, ev], .inl q⟩
    | own l w =>
      cases h
      obtain ⟨a, ev, q⟩ := r1
      exact ⟨w, .ref a, rfl, by rw [e1, ev], .inr ⟨a, rfl, q⟩⟩
    | lk w =>
      cases h
      obtain ⟨v, ev, q⟩ := r1
      exact ⟨w, v, rfl, by rw [e1, ev], q⟩
def RepLs (c : Cn) (F : Addr → Prop) (H : Hp) : List W → List V → Prop
  | [], vs => vs = []
  | w :: ws, vs => ∃ v r, vs = v :: r ∧ RepL c F H w v ∧ RepLs c F H ws r
/-- an operand's reading -/
def rdO (c : Cn) (Wx : WX) : Opd → TE
  | .ev m => tM c m (rF c) Wx
  | .pk i => tVar i
def rdOs (c : Cn) (Wx : WX) : List Opd → TA
  | [] => tNil
  | o :: os => tCons (rdO c Wx o) (rdOs c Wx os)
def SimP (c : Cn) (X : Cx) (e : Expr) (o : Opd) : Prop := ∀ Wx, Takes X Wx → PE X e (rdO c Wx o)
theorem rdO_mono {Wx : WX} {o : Opd} {Q Q' : VK} (h : rdO c Wx o σ H Q) (k : ∀ v H', Q v H' → Q' v H') : rdO c Wx o σ H Q' := by
  cases o with
  | ev m => exact tM.mono h k
  | pk i =>
    obtain ⟨v, e, q⟩ := h
    exact ⟨v, e, k _ _ q⟩
theorem rdOs_mono {Wx : WX} : ∀ {os : List Opd} {H : Hp} {Q Q' : List V → Hp → Prop}, rdOs c Wx os σ H Q → (∀ v H', Q v H' → Q' v H') → rdOs c Wx os σ H Q'
  | [], _, _, _, h, k => k _ _ h
  | o :: os, _, _, _, h, k => rdO_mono h fun v H' q => rdOs_mono (os := os) q fun vs H2 q2 => k _ _ q2
theorem opds_read {γ δ : Type} {Wx : WX} {T : Rl γ δ} (hT : Early T) {Q : δ → Hp → Prop} : ∀ (os : List Opd) {H : Hp} {F : Addr → Prop} {ss : Slots} {k : List W → M γ}, SR c F H σ ss → From c (mbd (opds os) k) T Wx σ F H ss Q →
    rdOs c Wx os σ H fun vs H' => ∃ ws F' ss', SR c F' H' σ ss' ∧ RepLs c F' H' ws vs ∧ Fm F H (OwnA σ ss) F' H' (OwnA σ ss') ∧ From c (k ws) T Wx σ F' H' ss' Q
  | [], H, F, ss, k, s, h => ⟨[], F, ss, s, rfl, .refl, h⟩
  | .ev m :: r, H, F, ss, k, s, h => by
    have h2 : From c (mbd m fun w => mbd (opds r) fun ws => k (w :: ws)) T Wx σ F H ss Q := by
      have e : mbd (opds (.ev m :: r)) k = mbd m fun w => mbd (opds r) fun ws => k (w :: ws) := by
        show mbd (mbd m fun w => mbd (opds r) fun ws => mret (w :: ws)) k = _
        rw [mbd_assoc]
        congr 1
        funext w
        rw [mbd_assoc]
        rfl
      rw [← e]
      exact h
    refine ⟨F, ss, s, (From.bind (U := rF c) hT h2).mono fun v H1 ⟨w, F1, ss1, _, s1, u1, f1, l1, h3⟩ => ?_⟩
    refine rdOs_mono (opds_read hT r s1 h3) fun vs H' ⟨ws, F', ss', s', u', f', h'⟩ => ?_
    exact ⟨w :: ws, F', ss', s', ⟨v, vs, rfl, .inl (RepF.kp (s1.kp f') _ _ u1), u'⟩, f1.trans f', h'⟩
  | .pk i :: r, H, F, ss, k, s, h => by
    have e : mbd (opds (.pk i :: r)) k = mbd (rdSlot i) fun _ => mbd (opds r) fun ws => mbd (rdSlot i) fun w => k (w :: ws) := by
      show mbd (mbd (rdSlot i) fun _ => mbd (opds r) fun ws => mbd (rdSlot i) fun w => mret (w :: ws)) k = _
      rw [mbd_assoc]
      congr 1
      funext w
      rw [mbd_assoc]
      congr 1
      funext ws
      rw [mbd_assoc]
      rfl
    rw [e] at h
    cases er : rdSlot i ss with
    | none =>
      have z : mbd (rdSlot i) (fun _ => mbd (opds r) fun ws => mbd (rdSlot i) fun w => k (w :: ws)) ss = none := by unfold mbd; rw [er]
      rcases h with ⟨a, s', e1, _⟩ | ⟨j, w, s', e1, _⟩ <;> rw [z] at e1 <;> cases e1
    | some t =>
      obtain ⟨w0, v, et, ev, _⟩ := rd_slot s er
      subst et
      have h2 : From c (mbd (opds r) fun ws => mbd (rdSlot i) fun w => k (w :: ws)) T Wx σ F H ss Q := by
        have z : mbd (rdSlot i) (fun _ => mbd (opds r) fun ws => mbd (rdSlot i) fun w => k (w :: ws)) ss = mbd (opds r) (fun ws => mbd (rdSlot i) fun w => k (w :: ws)) ss := by
          rw [mbd_ok er]
        unfold From at h ⊢
        rw [z] at h
        exact h
      refine ⟨v, ev, rdOs_mono (opds_read hT r s h2) fun vs H' ⟨ws, F', ss', s', u', f', h'⟩ => ?_⟩
      cases er2 : rdSlot i ss' with
      | none =>
        have z : mbd (rdSlot i) (fun w => k (w :: ws)) ss' = none := by unfold mbd; rw [er2]
        rcases h' with ⟨a, s', e1, _⟩ | ⟨j, w, s', e1, _⟩ <;> rw [z] at e1 <;> cases e1
      | some t2 =>
        obtain ⟨w, v2, et2, ev2, rl⟩ := rd_slot s' er2
        subst et2
        rw [ev] at ev2
        cases ev2
        refine ⟨w :: ws, F', ss', s', ⟨v, vs, rfl, rl, u'⟩, f', ?_⟩
        have z : mbd (rdSlot i) (fun w => k (w :: ws)) ss' = k (w :: ws) ss' := mbd_ok er2
        unfold From at h' ⊢
        rw [z] at h'
        exact h'
end
/-! ### rules over data -/
abbrev LR := List V → Hp → VK → Prop
/-- a rule r of the machine's values serves f: a value that is known, or new things -/
def RuF (c : Cn) (r : LR) (f : List W → Option W) : Prop := ∀ (F : Addr → Prop) (H : Hp) (vs : List V) (ws : List W) (w : W) (Q : VK), (∀ a, F a → ∃ o, H a = some o) → RepLs c F H ws vs → f ws = some w →
  (∀ v H', Ext H H' → RepF c F H' w v → Q v H') → r vs H Q
def RuO (c : Cn) (r : LR) (f : List W → Option W) : Prop := ∀ (F : Addr → Prop) (H : Hp) (vs : List V) (ws : List W) (w : W) (Q : VK), (∀ a, F a → ∃ o, H a = some o) → RepLs c F H ws vs → f ws = some w →
  (∀ a H', H a = none → Ext H H' → OwnAt c F H' a w → Q (.ref a) H') → r vs H Q
def RuE (c : Cn) (r : LR) (f : List W → Option W) : Prop := ∀ (F : Addr → Prop) (H : Hp) (vs : List V) (ws : List W) (w : W) (Q : VK), (∀ a, F a → ∃ o, H a = some o) → RepLs c F H ws vs → f ws = some w →
  (∀ v H', Ext H H' → RepF c F H' w v → Q v H') → (∀ a H', H a = none → Ext H H' → OwnAt c F H' a w → Q (.ref a) H') → r vs H Q
theorem RuF.e {c : Cn} {r : LR} {f : List W → Option W} (h : RuF c r f) : RuE c r f := fun F H vs ws w Q l u e k _ => h F H vs ws w Q l u e k
theorem RuO.e {c : Cn} {r : LR} {f : List W → Option W} (h : RuO c r f) : RuE c r f := fun F H vs ws w Q l u e _ k => h F H vs ws w Q l u e k
section
variable {c : Cn} {X : Cx} {f : List W → Option W} {os : List Opd} {Wx : WX} {σ : L2.St} {H : Hp} {Q : VK}
/-- an operation by a rule, read -/
theorem bi_read {r : LR} (ru : RuE c r f) (h : tM c (bi f os) (rF c) Wx σ H Q) : rdOs c Wx os σ H fun vs H' => r vs H' Q := by
  obtain ⟨F, ss, s, h⟩ := h
  refine rdOs_mono (opds_read early_F os s h) fun vs H' ⟨ws, F', ss', s', u', f', h'⟩ => ?_
  obtain ⟨w, ew, k⟩ := From.lift h'
  refine ru F' H' vs ws w Q s'.liv u' ew (fun v H2 e r => k v F' H2 e.fm (s'.ext e) r) fun a H2 n e o => ?_
  obtain ⟨u, hu, mu, _⟩ := o.mut
  have nO : ¬ OwnA σ ss' a := fun z => by
    obtain ⟨u', hu', _⟩ := s'.own z
    rw [n] at hu'
    cases hu'
  exact k _ (plus F' a) H2 (e.fm.plusA (.inr (.of n))) ((s'.ext e).plusA hu mu nO) o.rep
theorem bi_readO {r : LR} (ru : RuO c r f) (h : tM c (bi f os) (rO c) Wx σ H Q) : rdOs c Wx os σ H fun vs H' => r vs H' Q := by
  obtain ⟨F, ss, s, h⟩ := h
  refine rdOs_mono (opds_read early_O os s h) fun vs H' ⟨ws, F', ss', s', u', f', h'⟩ => ?_
  obtain ⟨w, ew, k⟩ := From.lift h'
  refine ru F' H' vs ws w Q s'.liv u' ew fun a H2 n e o => ?_
  have nO := s'.fresh (.of n)
  have nF : ¬ F' a := fun z => by
    obtain ⟨u', hu'⟩ := s'.liv a z
    rw [n] at hu'
    cases hu'
  refine k _ F' H2 e.fm (s'.ext e) ?_
  cases w with
  | lst ws => exact ⟨a, rfl, .of n, nF, nO, o⟩
  | dct ks ws => exact ⟨a, rfl, .of n, nF, nO, o⟩
  | _ => exact (show False from o).elim
end
/-! the forms -/
def r1 (r : V → Hp → VK → Prop) : LR := fun vs H Q => match vs with
  | [x] => r x H Q
  | _ => False
def r2 (r : R2) : LR := fun vs H Q => match vs with
  | [x, y] => r x y H Q
  | _ => False
section
variable {c : Cn} {X : Cx} {f : List W → Option W} {o p : Opd} {a b : Expr} {pos : Pos}
theorem sim_ev {m : M W} (h : SimE c X a m) : SimP c X a (.ev m) := h
theorem sim_pk (i : Nat) {x : Str} (hN : X.N[i]? = some x := by rfl) (hv : Vis X.env.scope x := by first | exact Or.inl rfl | exact Or.inr (Or.inl rfl) | exact Or.inr (Or.inr rfl)) (hd : (x == ("__debug__" : Str)) = false := by decide)
    (hcd : (x == ("__classdict__" : Str)) = false := by decide) : SimP c X (.Name x pos) (.pk i) := fun _ _ => pe_var hN hv hd hcd
theorem sim_bin {op : Operator} {r : R2} (ho : OpR X (binaryOp op) r) (ru : RuE c (r2 r) f) (ha : SimP c X a o) (hb : SimP c X b p) : SimE c X (.BinOp a op b pos) (bi f [o, p]) := fun Wx tk =>
  PE.imp (pe_op ho (ha Wx tk) (hb Wx tk)) fun σ H Q h => bi_read ru h
theorem sim_binO {op : Operator} {r : R2} (ho : OpR X (binaryOp op) r) (ru : RuO c (r2 r) f) (ha : SimP c X a o) (hb : SimP c X b p) : SimO c X (.BinOp a op b pos) (bi f [o, p]) := fun Wx tk =>
  PE.imp (pe_op ho (ha Wx tk) (hb Wx tk)) fun σ H Q h => bi_readO ru h
theorem sim_un {op : UnaryOp} {r : V → Hp → VK → Prop} (ho : UnR X (unaryOp op) r) (ru : RuE c (r1 r) f) (ha : SimP c X a o) : SimE c X (.UnaryOp op a pos) (bi f [o]) := fun Wx tk =>
  PE.imp (pe_un ho (ha Wx tk)) fun σ H Q h => bi_read ru h
theorem sim_cmp {op : CmpOp} {r : R2} (ho : OpR X (compareOp op) r) (ru : RuE c (r2 r) f) (ha : SimP c X a o) (hb : SimP c X b p) (hm : behindInMarks op b = false) : SimE c X (.Compare a [op] [b] pos) (bi f [o, p]) := fun Wx tk =>
  PE.imp (pe_cmpR ho (ha Wx tk) (hb Wx tk) hm) fun σ H Q h => bi_read ru h
/-- a comparison as a test -/
theorem tB_read {m : M W} {Wx : WX} {σ : L2.St} {H : Hp} {Q : Bool → Hp → Prop} (h : tM c (tB m) rB Wx σ H Q) : tM c m (rF c) Wx σ H fun x H' => ∃ k, x = .bl k ∧ Q k H' := by
  obtain ⟨F, ss, s, h⟩ := h
  refine ⟨F, ss, s, (From.bind (U := rF c) early_B h).mono fun v H1 ⟨w, F1, ss1, _, s1, u1, f1, l1, h3⟩ => ?_⟩
  obtain ⟨k, ek, q⟩ := From.lift h3
  cases w with
  | bl b =>
    cases ek
    have e : v = .bl k := u1
    subst e
    exact ⟨k, rfl, q k F1 H1 .refl s1 rfl⟩
  | _ => cases ek
theorem sim_tcmp {op : CmpOp} {r : R2} (ho : OpR X (compareOp op) r) (ru : RuE c (r2 r) f) (ha : SimP c X a o) (hb : SimP c X b p) (hm : behindInMarks op b = false) : SimT c X (.Compare a [op] [b] pos) (tB (bi f [o, p])) := fun Wx tk =>
  PT.imp (pt_cmpR ho (ha Wx tk) (hb Wx tk) hm) fun σ H Q h => bi_read (Q := fun x H' => ∃ k, x = .bl k ∧ Q k H') ru (tB_read h)
/-- an expression that gives a truth value, as a test -/
theorem sim_tB {m : M W} (h : SimE c X a m) (he : ∀ whole, isTrue a X.env whole = (do let v ← whole; standAt a.pos; holding [v] (truthy v)) := by intro _; rfl) : SimT c X a (tB m) := fun Wx tk =>
  PT.imp (pt_val (h Wx tk) he) fun σ H Q q => tB_read q
/-! ### calls of built-ins -/
inductive SimPs (c : Cn) (X : Cx) : List Expr → List Opd → Prop
  | nil : SimPs c X [] []
  | cons {e : Expr} {es : List Expr} {o : Opd} {os : List Opd} (h : SimP c X e o) (t : SimPs c X es os) (hs : starEach (e :: es) X.env = (false, eval e X.env) :: starEach es X.env) : SimPs c X (e :: es) (o :: os)
theorem SimPs.pa {Wx : WX} (tk : Takes X Wx) : ∀ {es : List Expr} {os : List Opd}, SimPs c X es os → PA X es (rdOs c Wx os)
  | _, _, .nil => pa_nil
  | _, _, .cons h t hs => pa_cons (h Wx tk) (t.pa tk) hs
theorem sim_callB {id : String} {r : LR} {x : Str} {p : Pos} {e : Expr} {es : List Expr} {os : List Opd} (hc : CallR X (.builtin id) r) (ru : RuE c r f) (hm : X.mg x = none) (ha : SimPs c X (e :: es) os) (hv : bootBuiltins x = some (.builtin id)) (hg : Gl X x := by rfl)
    (hn : x ≠ "__name__" := by decide) (hdb : (x == ("__debug__" : Str)) = false := by decide)
    (he : starEach (e :: es) X.env = (false, eval e X.env) :: starEach es X.env := by rfl) (hpl : (backTo pos (starEach es X.env)).any (·.1) = false := by rfl) : SimE c X (.Call (.Name x p) (e :: es) [] pos) (bi f os) := fun Wx tk =>
  PE.imp (pe_callB hc hg hm hv (ha.pa tk) hn hdb he hpl) fun σ H Q h => bi_read ru h
theorem sim_callBO {id : String} {r : LR} {x : Str} {p : Pos} {e : Expr} {es : List Expr} {os : List Opd} (hc : CallR X (.builtin id) r) (ru : RuO c r f) (hm : X.mg x = none) (ha : SimPs c X (e :: es) os) (hv : bootBuiltins x = some (.builtin id)) (hg : Gl X x := by rfl)
    (hn : x ≠ "__name__" := by decide) (hdb : (x == ("__debug__" : Str)) = false := by decide)
    (he : starEach (e :: es) X.env = (false, eval e X.env) :: starEach es X.env := by rfl) (hpl : (backTo pos (starEach es X.env)).any (·.1) = false := by rfl) : SimO c X (.Call (.Name x p) (e :: es) [] pos) (bi f os) := fun Wx tk =>
  PE.imp (pe_callB hc hg hm hv (ha.pa tk) hn hdb he hpl) fun σ H Q h => bi_readO ru h
theorem sim_callTy {T : String} {r : LR} {x : Str} {p : Pos} {e : Expr} {es : List Expr} {os : List Opd} (hc : CallR X (.type T) r) (ru : RuE c r f) (hm : X.mg x = none) (ha : SimPs c X (e :: es) os) (hv : bootBuiltins x = some (.type T)) (hg : Gl X x := by rfl)
    (hn : x ≠ "__name__" := by decide) (hdb : (x == ("__debug__" : Str)) = false := by decide)
    (he : starEach (e :: es) X.env = (false, eval e X.env) :: starEach es X.env := by rfl) (hpl : (backTo pos (starEach es X.env)).any (·.1) = false := by rfl) : SimE c X (.Call (.Name x p) (e :: es) [] pos) (bi f os) := fun Wx tk =>
  PE.imp (pe_callTy hc hg hm hv (ha.pa tk) hn hdb he hpl) fun σ H Q h => bi_read ru h
theorem sim_callTyO {T : String} {r : LR} {x : Str} {p : Pos} {e : Expr} {es : List Expr} {os : List Opd} (hc : CallR X (.type T) r) (ru : RuO c r f) (hm : X.mg x = none) (ha : SimPs c X (e :: es) os) (hv : bootBuiltins x = some (.type T)) (hg : Gl X x := by rfl)
    (hn : x ≠ "__name__" := by decide) (hdb : (x == ("__debug__" : Str)) = false := by decide)
    (he : starEach (e :: es) X.env = (false, eval e X.env) :: starEach es X.env := by rfl) (hpl : (backTo pos (starEach es X.env)).any (·.1) = false := by rfl) : SimO c X (.Call (.Name x p) (e :: es) [] pos) (bi f os) := fun Wx tk =>
  PE.imp (pe_callTy hc hg hm hv (ha.pa tk) hn hdb he hpl) fun σ H Q h => bi_readO ru h
/-- o[i] -/
theorem sim_ix {r : R2} (hr : IxR X r) (ru : RuE c (r2 r) f) (ha : SimP c X a o) (hb : SimP c X b p) (hs : PlainIx b := by exact fun _ _ => rfl) : SimE c X (.Subscript a b pos) (bi f [o, p]) := fun Wx tk =>
  PE.imp (pe_ix hr (ha Wx tk) (hb Wx tk) hs) fun σ H Q h => bi_read ru h
end
end VI

set_option Elab.async false
set_option linter.all false
set_option maxRecDepth 100000
set_option maxHeartbeats 1000000
/-! VI, part 5: the rules for the built-in operations. -/
namespace VI
open PySem L2
section
variable {c : Cn} {F : Addr → Prop} {H : Hp}
theorem rl0 {vs : List V} (h : RepLs c F H [] vs) : vs = [] := h
theorem rl1 {a : W} {vs : List V} (h : RepLs c F H [a] vs) : ∃ x, vs = [x] ∧ RepL c F H a x := by
  obtain ⟨v, r, e, h1, h2⟩ := h
  have e2 : r = [] := h2
  rw [e2] at e
  exact ⟨v, e, h1⟩
theorem rl2 {a b : W} {vs : List V} (h : RepLs c F H [a, b] vs) : ∃ x y, vs = [x, y] ∧ RepL c F H a x ∧ RepL c F H b y := by
  obtain ⟨v, r, e, h1, h2⟩ := h
  obtain ⟨y, e2, h3⟩ := rl1 h2
  rw [e2] at e
  exact ⟨v, y, e, h1, h3⟩
theorem rL_non {v : V} (h : RepL c F H .non v) : v = .non := by
  rcases h with h | ⟨a, _, h⟩
  · exact h
  · exact (show False from h).elim
theorem rL_bl {b : Bool} {v : V} (h : RepL c F H (.bl b) v) : v = .bl b := by
  rcases h with h | ⟨a, _, h⟩
  · exact h
  · exact (show False from h).elim
theorem rL_int {b : Int} {v : V} (h : RepL c F H (.int b) v) : v = .int b := by
  rcases h with h | ⟨a, _, h⟩
  · exact h
  · exact (show False from h).elim
theorem rL_str {b : List Nat} {v : V} (h : RepL c F H (.str b) v) : v = .str (mkS b) := by
  rcases h with h | ⟨a, _, h⟩
  · exact h
  · exact (show False from h).elim
theorem rL_cls {b : Ty} {v : V} (h : RepL c F H (.cls b) v) : v = .ty (tyN b) := by
  rcases h with h | ⟨a, _, h⟩
  · exact h
  · exact (show False from h).elim
theorem rL_tup {ws : List W} {v : V} (h : RepL c F H (.tup ws) v) : ∃ a vs, v = .ref a ∧ SqT c.K H a vs ∧ RepFs c F H ws vs := by
  rcases h with h | ⟨a, _, h⟩
  · exact h
  · exact (show False from h).elim
theorem rL_lst {ws : List W} {v : V} (h : RepL c F H (.lst ws) v) : ∃ a vs, v = .ref a ∧ H a = some (.lst vs) ∧ RepFs c F H ws vs := by
  rcases h with h | ⟨a, e, h⟩
  · obtain ⟨a, vs, e, _, h1, h2⟩ := h
    exact ⟨a, vs, e, h1, h2⟩
  · obtain ⟨vs, h1, h2⟩ := h
    exact ⟨a, vs, e, h1, h2⟩
theorem rL_dct {ks ws : List W} {v : V} (h : RepL c F H (.dct ks ws) v) : ∃ a vs, v = .ref a ∧ DctAt H a ks vs ∧ RepFs c F H ws vs := by
  rcases h with h | ⟨a, e, h⟩
  · obtain ⟨a, vs, e, _, h1, h2⟩ := h
    exact ⟨a, vs, e, h1, h2⟩
  · obtain ⟨vs, ⟨_, h1⟩, h2⟩ := h
    exact ⟨a, vs, e, h1, h2⟩
theorem scr_sq {K : PySem.W.Frag} {a : Addr} {xs : List V} (h : (∃ o, H a = some (.frz o (.lst xs))) ∨ SqL K (fun _ => none) a xs) : SqL K H a xs := by
  rcases h with ⟨o, h⟩ | (h | ⟨o, h⟩) | h
  · exact .inl (.inr ⟨o, h⟩)
  · cases h
  · cases h
  · exact .inr h
theorem rL_scr {ns : List Int} {v : V} (h : RepL c F H (.scr ns) v) : ∃ a, v = .ref a ∧ SqL c.K H a (ns.map V.int) := by
  rcases h with h | ⟨a, _, h⟩
  · obtain ⟨a, e, h⟩ := h
    exact ⟨a, e, scr_sq h⟩
  · exact (show False from h).elim
theorem mkS_list (l : List Nat) : (mkS l).cps.toList = l := by simp [mkS]
theorem mkS_len (l : List Nat) : (mkS l).length = l.length := by simp [mkS, Str.length]
theorem mkS_app (a b : List Nat) : mkS a ++ mkS b = mkS (a ++ b) := by
  show (⟨_⟩ : Str) = ⟨_⟩
  congr 1
  simp [mkS]
theorem mkS_inj {a b : List Nat} : mkS a = mkS b ↔ a = b := by
  constructor
  · intro h
    have := congrArg (fun x : Str => x.cps.toList) h
    simpa [mkS_list] using this
  · intro h
    rw [h]
theorem sizeLine_big {n : Nat} (h : n ≤ 100000) : n ≤ sizeLine := Nat.le_trans h (by rw [sizeLine_eq]; decide)
end
variable {c : Cn}
/-! ### numbers -/
def rAdd4 (K : PySem.W.Frag) : R2 := fun x y H Q => (∃ i j, x = .int i ∧ y = .int j ∧ Q (.int (i + j)) H) ∨ (∃ i j, x = .str i ∧ y = .str j ∧ i.length + j.length ≤ sizeLine ∧ Q (.str (i ++ j)) H) ∨ rCat x y H Q ∨ rCatA K x y H Q
theorem op_add4 {X : Cx} : OpR X (binaryOp .Add) (rAdd4 X.K) := op_add.or (op_add_str.or (op_cat.or op_catA))
theorem ru_add : RuE c (r2 (rAdd4 c.K)) bAdd := by
  intro F H vs ws w Q _ u e k ko
  unfold bAdd at e
  split at e
  · obtain ⟨x, y, rfl, h1, h2⟩ := rl2 u
    cases e
    rw [rL_int h1, rL_int h2]
    exact .inl ⟨_, _, rfl, rfl, k _ _ (.refl _) rfl⟩
  · obtain ⟨x, y, rfl, h1, h2⟩ := rl2 u
    split at e
    · cases e
      rename_i hl
      rw [rL_str h1, rL_str h2]
      refine .inr (.inl ⟨_, _, rfl, rfl, ?_, k _ _ (.refl _) ?_⟩)
      · rw [mkS_len, mkS_len]
        exact sizeLine_big hl
      · rw [mkS_app]
        exact rfl
    · cases e
  · obtain ⟨x, y, rfl, h1, h2⟩ := rl2 u
    split at e
    · cases e
      rename_i hl
      obtain ⟨a, va, rfl, e1, q1⟩ := rL_lst h1
      obtain ⟨b, vb, rfl, e2, q2⟩ := rL_lst h2
      refine .inr (.inr (.inl ⟨a, b, va, vb, rfl, rfl, e1, e2, ?_, fun p hp => ko p _ hp (.new hp) ?_⟩))
      · rw [← q1.length, ← q2.length]
        exact sizeLine_big hl
      · exact ⟨_, upd_same, RepFs.kp (Ext.kp (.new hp)) _ _ (q1.app q2)⟩
    · cases e
  · obtain ⟨x, y, rfl, h1, h2⟩ := rl2 u
    split at e
    · cases e
      rename_i hl
      obtain ⟨a, va, rfl, e1, q1⟩ := rL_tup h1
      obtain ⟨b, vb, rfl, e2, q2⟩ := rL_tup h2
      refine .inr (.inr (.inr ⟨a, b, va, vb, rfl, rfl, e1, e2, ?_, fun z => ?_, fun _ z => ?_, fun _ => ?_⟩))
      · rw [← q1.length, ← q2.length]
        exact sizeLine_big hl
      · subst z
        have e0 : _ = [] := List.eq_nil_of_length_eq_zero q1.length
        rw [e0] at k
        exact k _ _ (.refl _) ⟨b, vb, rfl, e2, q2⟩
      · subst z
        have e0 : _ = [] := List.eq_nil_of_length_eq_zero q2.length
        rw [e0, List.append_nil] at k
        exact k _ _ (.refl _) ⟨a, va, rfl, e1, q1⟩
      · exact fun n p hp => k _ _ (.new hp) ⟨p, va ++ vb, rfl, .of upd_same, RepFs.kp (Ext.kp (.new hp)) _ _ (q1.app q2)⟩
    · cases e
  · cases e
/-- lists, just made -/
def bCat : List W → Option W
  | [.lst a, .lst b] => if a.length + b.length ≤ 100000 then some (.lst (a ++ b)) else none
  | _ => none
theorem ru_cat : RuO c (r2 rCat) bCat := by
  intro F H vs ws w Q _ u e ko
  unfold bCat at e
  split at e
  · obtain ⟨x, y, rfl, h1, h2⟩ := rl2 u
    split at e
    · cases e
      rename_i hl
      obtain ⟨a, va, rfl, e1, q1⟩ := rL_lst h1
      obtain ⟨b, vb, rfl, e2, q2⟩ := rL_lst h2
      refine ⟨a, b, va, vb, rfl, rfl, e1, e2, ?_, fun p hp => ko p _ hp (.new hp) ?_⟩
      · rw [← q1.length, ← q2.length]
        exact sizeLine_big hl
      · exact ⟨_, upd_same, RepFs.kp (Ext.kp (.new hp)) _ _ (q1.app q2)⟩
    · cases e
  · cases e
theorem ru_int2 {C : Int → Int → Prop} {g : Int → Int → Int} {f : List W → Option W} (hf : ∀ ws w, f ws = some w → ∃ i j, ws = [.int i, .int j] ∧ C i j ∧ w = .int (g i j)) : RuF c (r2 (rI C fun i j => .int (g i j))) f := by
  intro F H vs ws w Q _ u e k
  obtain ⟨i, j, rfl, hc, rfl⟩ := hf ws w e
  obtain ⟨x, y, rfl, h1, h2⟩ := rl2 u
  rw [rL_int h1, rL_int h2]
  exact ⟨_, _, rfl, rfl, hc, k _ _ (.refl _) rfl⟩
theorem ru_sub : RuF c (r2 (rI0 fun i j => .int (i - j))) bSub := by
  intro F H vs ws w Q _ u e k
  unfold bSub at e
  split at e
  · obtain ⟨x, y, rfl, h1, h2⟩ := rl2 u
    cases e
    rw [rL_int h1, rL_int h2]
    exact ⟨_, _, rfl, rfl, k _ _ (.refl _) rfl⟩
  · cases e
theorem small64_ok {i : Int} (h : small64 i = true) : -(2 ^ 64) < i ∧ i < 2 ^ 64 := by
  unfold small64 at h
  have h := of_decide_eq_true h
  omega
theorem ru_mul : RuF c (r2 (rI CMul fun i j => .int (i * j))) bMul := ru_int2 fun ws w e => by
  unfold bMul at e
  split at e
  · split at e
    · cases e
      rename_i h
      rw [Bool.or_eq_true] at h
      exact ⟨_, _, rfl, h.imp small64_ok small64_ok, rfl⟩
    · cases e
  · cases e
theorem ru_fdiv : RuF c (r2 (rI CDiv fun i j => .int (i / j))) bFdiv := ru_int2 fun ws w e => by
  unfold bFdiv at e
  split at e
  · split at e
    · cases e
      rename_i h
      exact ⟨_, _, rfl, h, rfl⟩
    · cases e
  · cases e
theorem ru_mod : RuF c (r2 (rI (fun _ j => 0 < j) fun i j => .int (i % j))) bMod := ru_int2 fun ws w e => by
  unfold bMod at e
  split at e
  · split at e
    · cases e
      rename_i h
      exact ⟨_, _, rfl, h, rfl⟩
    · cases e
  · cases e
theorem ru_neg : RuF c (r1 (rU fun i => .int (-i))) bNeg := by
  intro F H vs ws w Q _ u e k
  unfold bNeg at e
  split at e
  · obtain ⟨x, rfl, h1⟩ := rl1 u
    cases e
    rw [rL_int h1]
    exact ⟨_, rfl, k _ _ (.refl _) rfl⟩
  · cases e
/-! ### order -/
theorem ltL_ok : ∀ a b : List Nat, ltL a b = decide (a < b)
  | [], [] => by simp [ltL]
  | [], _ :: _ => by simp [ltL]
  | _ :: _, [] => by simp [ltL]
  | a :: x, b :: y => by
    unfold ltL
    rw [ltL_ok x y]
    by_cases h : a < b
    · simp [h, List.cons_lt_cons_iff]
    · by_cases h2 : b < a
      · have h3 : a ≠ b := by omega
        simp [h, h2, h3, List.cons_lt_cons_iff]
      · have h3 : a = b := by omega
        subst h3
        simp [List.cons_lt_cons_iff]
def rOrd (g : Int → Int → Bool) (h : List Nat → List Nat → Bool) : R2 := fun x y H Q => (∃ i j, x = .int i ∧ y = .int j ∧ Q (.bl (g i j)) H) ∨ (∃ i j, x = .str i ∧ y = .str j ∧ Q (.bl (h i.cps.toList j.cps.toList)) H)
theorem ru_ord {g : Int → Int → Bool} {h h' : List Nat → List Nat → Bool} {f : List W → Option W} (hh : ∀ a b, h a b = h' a b)
    (hf : ∀ ws w, f ws = some w → (∃ i j, ws = [.int i, .int j] ∧ w = .bl (g i j)) ∨ ∃ a b, ws = [.str a, .str b] ∧ w = .bl (h' a b)) : RuF c (r2 (rOrd g h)) f := by
  intro F H vs ws w Q _ u e k
  rcases hf ws w e with ⟨i, j, rfl, rfl⟩ | ⟨i, j, rfl, rfl⟩
  · obtain ⟨x, y, rfl, h1, h2⟩ := rl2 u
    rw [rL_int h1, rL_int h2]
    exact .inl ⟨_, _, rfl, rfl, k _ _ (.refl _) rfl⟩
  · obtain ⟨x, y, rfl, h1, h2⟩ := rl2 u
    rw [rL_str h1, rL_str h2]
    refine .inr ⟨_, _, rfl, rfl, k _ _ (.refl _) ?_⟩
    rw [mkS_list, mkS_list, hh]
    exact rfl
theorem op_lt2 {X : Cx} : OpR X (compareOp .Lt) (rOrd (fun i j => decide (i < j)) fun a b => decide (a < b)) := op_lt.or op_lt_str
theorem op_le2 {X : Cx} : OpR X (compareOp .LtE) (rOrd (fun i j => decide (i ≤ j)) fun a b => !decide (b < a)) := op_le.or op_le_str
theorem op_gt2 {X : Cx} : OpR X (compareOp .Gt) (rOrd (fun i j => decide (j < i)) fun a b => decide (b < a)) := op_gt.or op_gt_str
theorem op_ge2 {X : Cx} : OpR X (compareOp .GtE) (rOrd (fun i j => decide (j ≤ i)) fun a b => !decide (a < b)) := op_ge.or op_ge_str
theorem ru_lt : RuF c (r2 (rOrd (fun i j => decide (i < j)) fun a b => decide (a < b))) bLt := ru_ord (h' := ltL) (fun a b => (ltL_ok a b).symm) fun ws w e => by
  unfold bLt at e
  split at e
  · cases e
    exact .inl ⟨_, _, rfl, rfl⟩
  · cases e
    exact .inr ⟨_, _, rfl, rfl⟩
  · cases e
theorem ru_le : RuF c (r2 (rOrd (fun i j => decide (i ≤ j)) fun a b => !decide (b < a))) bLe := ru_ord (h' := fun a b => !ltL b a) (fun a b => by rw [ltL_ok b a]) fun ws w e => by
  unfold bLe at e
  split at e
  · cases e
    exact .inl ⟨_, _, rfl, rfl⟩
  · cases e
    exact .inr ⟨_, _, rfl, rfl⟩
  · cases e
theorem ru_gt : RuF c (r2 (rOrd (fun i j => decide (j < i)) fun a b => decide (b < a))) bGt := ru_ord (h' := fun a b => ltL b a) (fun a b => by rw [ltL_ok b a]) fun ws w e => by
  unfold bGt at e
  split at e
  · cases e
    exact .inl ⟨_, _, rfl, rfl⟩
  · cases e
    exact .inr ⟨_, _, rfl, rfl⟩
  · cases e
theorem ru_ge : RuF c (r2 (rOrd (fun i j => decide (j ≤ i)) fun a b => !decide (a < b))) bGe := ru_ord (h' := fun a b => !ltL a b) (fun a b => by rw [ltL_ok a b]) fun ws w e => by
  unfold bGe at e
  split at e
  · cases e
    exact .inl ⟨_, _, rfl, rfl⟩
  · cases e
    exact .inr ⟨_, _, rfl, rfl⟩
  · cases e
/-! ### is -/
def rIs2 (n : Bool) : R2 := fun x y H Q => (y = .non ∧ Q (.bl (if n then !decide (x = .non) else decide (x = .non))) H) ∨ ∃ a b : Bool, x = .bl a ∧ y = .bl b ∧ Q (.bl (if n then !decide (a = b) else decide (a = b))) H
theorem op_is2 {X : Cx} : OpR X (compareOp .Is) (rIs2 false) := op_isN.or op_isBl
theorem op_isnot2 {X : Cx} : OpR X (compareOp .IsNot) (rIs2 true) := op_notN.or op_notBl
theorem rL_isnon {F : Addr → Prop} {H : Hp} {w : W} {v : V} (h : RepL c F H w v) : decide (v = .non) = isNon w := by
  have go : ∀ v' : V, v = v' → decide (v' = .non) = isNon w → decide (v = .non) = isNon w := fun v' e q => by
    rw [e]
    exact q
  cases w with
  | non => exact go _ (rL_non h) rfl
  | bl b => exact go _ (rL_bl h) rfl
  | int b => exact go _ (rL_int h) rfl
  | str b => exact go _ (rL_str h) rfl
  | cls b => exact go _ (rL_cls h) rfl
  | tup b =>
    obtain ⟨_, _, e, _⟩ := rL_tup h
    exact go _ e rfl
  | lst b =>
    obtain ⟨_, _, e, _⟩ := rL_lst h
    exact go _ e rfl
  | dct b d =>
    obtain ⟨_, _, e, _⟩ := rL_dct h
    exact go _ e rfl
  | scr b =>
    obtain ⟨_, e, _⟩ := rL_scr h
    exact go _ e rfl
  | fn i =>
    rcases h with h | ⟨a, _, h⟩
    · exact go _ h rfl
    · exact (show False from h).elim
theorem ru_is : RuF c (r2 (rIs2 false)) bIs := by
  intro F H vs ws w Q _ u e k
  unfold bIs at e
  split at e
  · obtain ⟨x, y, rfl, h1, h2⟩ := rl2 u
    cases e
    rw [rL_non h2]
    refine .inl ⟨rfl, k _ _ (.refl _) ?_⟩
    exact congrArg V.bl (rL_isnon h1)
  · obtain ⟨x, y, rfl, h1, h2⟩ := rl2 u
    cases e
    rw [rL_bl h1, rL_bl h2]
    refine .inr ⟨_, _, rfl, rfl, k _ _ (.refl _) ?_⟩
    exact congrArg V.bl (Bool.beq_eq_decide_eq _ _).symm
  · cases e
theorem ru_isnot : RuF c (r2 (rIs2 true)) bIsNot := by
  intro F H vs ws w Q _ u e k
  unfold bIsNot at e
  split at e
  · obtain ⟨x, y, rfl, h1, h2⟩ := rl2 u
    cases e
    rw [rL_non h2]
    refine .inl ⟨rfl, k _ _ (.refl _) ?_⟩
    exact congrArg V.bl (congrArg not (rL_isnon h1))
  · obtain ⟨x, y, rfl, h1, h2⟩ := rl2 u
    cases e
    rw [rL_bl h1, rL_bl h2]
    refine .inr ⟨_, _, rfl, rfl, k _ _ (.refl _) ?_⟩
    exact congrArg V.bl (congrArg not (Bool.beq_eq_decide_eq _ _).symm)
  · cases e
/-! ### ==, != -/
mutual
def pd : W → PyData
  | .bl b => .bool b
  | .int i => .int i
  | .str s => .str (mkS s)
  | .tup ws => .tuple (pds ws)
  | .lst ws => .list (pds ws)
  | _ => .none
def pds : List W → List PyData
  | [] => []
  | w :: ws => pd w :: pds ws
end
theorem strOk_mk : ∀ {s : List Nat}, okS s = true → PyData.strOk (mkS s) = true := fun {s} h => by
  unfold PyData.strOk mkS
  rw [List.all_toArray]
  induction s with
  | nil => rfl
  | cons a r ih =>
    unfold okS at h
    rw [Bool.and_eq_true] at h
    rw [List.all_cons, Bool.and_eq_true]
    exact ⟨by simpa using h.1, ih h.2⟩
mutual
theorem pd_lay : ∀ (n : Nat) (w : W), flat n w = true → (pd w).canLay0 = true ∧ (pd w).depth ≤ n
  | n, .non, _ => ⟨rfl, Nat.zero_le _⟩
  | n, .bl _, _ => ⟨rfl, Nat.zero_le _⟩
  | n, .int _, _ => ⟨rfl, Nat.zero_le _⟩
  | n, .str s, h => ⟨strOk_mk (by cases n <;> exact h), Nat.zero_le _⟩
  | 0, .tup _, h => by cases h
  | 0, .lst _, h => by cases h
  | n + 1, .tup ws, h => by
    obtain ⟨h1, h2⟩ := pds_lay n ws h
    exact ⟨h1, Nat.succ_le_succ h2⟩
  | n + 1, .lst ws, h => by
    obtain ⟨h1, h2⟩ := pds_lay n ws h
    exact ⟨h1, Nat.succ_le_succ h2⟩
  | 0, .dct _ _, h => by cases h
  | 0, .scr _, h => by cases h
  | 0, .fn _, h => by cases h
  | 0, .cls _, h => by cases h
  | _ + 1, .dct _ _, h => by cases h
  | _ + 1, .scr _, h => by cases h
  | _ + 1, .fn _, h => by cases h
  | _ + 1, .cls _, h => by cases h
theorem pds_lay : ∀ (n : Nat) (ws : List W), flats n ws = true → PyData.canLayAll0 (pds ws) = true ∧ PyData.depthAll (pds ws) ≤ n
  | _, [], _ => ⟨rfl, Nat.zero_le _⟩
  | n, w :: ws, h => by
    unfold flats at h
    rw [Bool.and_eq_true] at h
    obtain ⟨h1, h2⟩ := pd_lay n w h.1
    obtain ⟨h3, h4⟩ := pds_lay n ws h.2
    refine ⟨?_, ?_⟩
    · show (PyData.canLay0 (pd w) && PyData.canLayAll0 (pds ws)) = true
      rw [h1, h3]
      rfl
    · show max (PyData.depth (pd w)) (PyData.depthAll (pds ws)) ≤ n
      omega
end
theorem pd_shaped {w : W} (h : flat 40 w = true) : SeqAt.shaped (pd w) = true := by
  obtain ⟨h1, h2⟩ := pd_lay 40 w h
  unfold SeqAt.shaped
  rw [h1, decide_eq_true (by omega)]
  rfl
mutual
theorem pd_rep {F : Addr → Prop} {H : Hp} : ∀ (n : Nat) (w : W) (v : V), flat n w = true → RepF c F H w v → Dp c.K H v (pd w)
  | n, .non, _, _, r => by
    have e : _ = V.non := r
    rw [e]
    exact .non
  | n, .bl _, _, _, r => by
    have e : _ = V.bl _ := r
    rw [e]
    exact .bl _
  | n, .int _, _, _, r => by
    have e : _ = V.int _ := r
    rw [e]
    exact .int _
  | n, .str s, _, _, r => by
    have e : _ = V.str _ := r
    rw [e]
    exact .str _
  | 0, .tup _, _, h, _ => by cases h
  | 0, .lst _, _, h, _ => by cases h
  | n + 1, .tup ws, _, h, r => by
    obtain ⟨a, vs, e, h1, h2⟩ := r
    rw [e]
    exact .tup h1 (pds_rep n ws vs h h2)
  | n + 1, .lst ws, _, h, r => by
    obtain ⟨a, vs, e, _, h1, h2⟩ := r
    rw [e]
    exact .lst (.of h1) (pds_rep n ws vs h h2)
  | 0, .dct _ _, _, h, _ => by cases h
  | 0, .scr _, _, h, _ => by cases h
  | 0, .fn _, _, h, _ => by cases h
  | 0, .cls _, _, h, _ => by cases h
  | _ + 1, .dct _ _, _, h, _ => by cases h
  | _ + 1, .scr _, _, h, _ => by cases h
  | _ + 1, .fn _, _, h, _ => by cases h
  | _ + 1, .cls _, _, h, _ => by cases h
theorem pds_rep {F : Addr → Prop} {H : Hp} : ∀ (n : Nat) (ws : List W) (vs : List V), flats n ws = true → RepFs c F H ws vs → DpAll c.K H vs (pds ws)
  | _, [], _, _, r => by
    have e : _ = [] := r
    rw [e]
    exact .nil
  | n, w :: ws, _, h, r => by
    unfold flats at h
    rw [Bool.and_eq_true] at h
    obtain ⟨v, vs, e, r1, r2⟩ := r
    rw [e]
    exact .cons (pd_rep n w v h.1 r1) (pds_rep n ws vs h.2 r2)
end
theorem pd_repL {F : Addr → Prop} {H : Hp} {w : W} {v : V} (h : flat 40 w = true) (r : RepL c F H w v) : Dp c.K H v (pd w) := by
  rcases r with r | ⟨a, e, r⟩
  · exact pd_rep 40 w v h r
  · cases w with
    | lst ws =>
      obtain ⟨vs, h1, h2⟩ := r
      rw [e]
      exact .lst (.of h1) (pds_rep 39 ws vs h h2)
    | dct ks ws => cases h
    | _ => exact (show False from r).elim
mutual
theorem pd_eqv : ∀ (n m : Nat) (a b : W), flat n a = true → flat m b = true → PyData.eqv (pd a) (pd b) = eqW a b := by
  intro n m a b ha hb
  cases a <;> cases b
  all_goals first
    | (cases n <;> cases ha; done)
    | (cases m <;> cases hb; done)
    | rfl
    | skip
  · show (mkS _ == mkS _) = _
    unfold eqW
    rw [Bool.eq_iff_iff]
    simp [mkS_inj]
  · cases n with
    | zero => cases ha
    | succ n =>
      cases m with
      | zero => cases hb
      | succ m => exact pds_eqv n m _ _ ha hb
  · cases n with
    | zero => cases ha
    | succ n =>
      cases m with
      | zero => cases hb
      | succ m => exact pds_eqv n m _ _ ha hb
theorem pds_eqv : ∀ (n m : Nat) (a b : List W), flats n a = true → flats m b = true → PyData.eqvAll (pds a) (pds b) = eqWs a b
  | _, _, [], [], _, _ => rfl
  | _, _, [], _ :: _, _, _ => rfl
  | _, _, _ :: _, [], _, _ => rfl
  | n, m, x :: xs, y :: ys, ha, hb => by
    unfold flats at ha hb
    rw [Bool.and_eq_true] at ha hb
    show (PyData.eqv (pd x) (pd y) && PyData.eqvAll (pds xs) (pds ys)) = (eqW x y && eqWs xs ys)
    rw [pd_eqv n m x y ha.1 hb.1, pds_eqv n m xs ys ha.2 hb.2]
end
theorem ru_eq : RuF c (r2 (rEqD c.K)) bEq := by
  intro F H vs ws w Q _ u e k
  unfold bEq at e
  split at e
  · obtain ⟨x, y, rfl, h1, h2⟩ := rl2 u
    split at e
    · rename_i hf
      rw [Bool.and_eq_true] at hf
      cases e
      refine ⟨_, _, pd_repL hf.1 h1, pd_repL hf.2 h2, pd_shaped hf.1, pd_shaped hf.2, k _ _ (.refl _) ?_⟩
      rw [pd_eqv 40 40 _ _ hf.1 hf.2]
      exact rfl
    · cases e
  · cases e
theorem ru_ne : RuF c (r2 (rNeD c.K)) bNe := by
  intro F H vs ws w Q _ u e k
  unfold bNe at e
  split at e
  · obtain ⟨x, y, rfl, h1, h2⟩ := rl2 u
    split at e
    · rename_i hf
      rw [Bool.and_eq_true] at hf
      cases e
      refine ⟨_, _, pd_repL hf.1 h1, pd_repL hf.2 h2, pd_shaped hf.1, pd_shaped hf.2, k _ _ (.refl _) ?_⟩
      rw [pd_eqv 40 40 _ _ hf.1 hf.2]
      exact rfl
    · cases e
  · cases e
end VI

set_option Elab.async false
set_option linter.all false
set_option maxRecDepth 100000
set_option maxHeartbeats 1000000
/-! VI, part 6: in, isinstance, len, items, slices, tuple and list. -/
namespace VI
open PySem L2
variable {c : Cn}
/-! ### in -/
theorem fl_of {F : Addr → Prop} {H : Hp} {w : W} {v : V} (h : sc1 w = true) (r : RepL c F H w v) : flatV v = true := by
  cases w with
  | non => rw [rL_non r]; rfl
  | bl b => rw [rL_bl r]; rfl
  | int b => rw [rL_int r]; rfl
  | str b => rw [rL_str r]; rfl
  | _ => cases h
theorem fls_of {F : Addr → Prop} {H : Hp} : ∀ {ws : List W} {vs : List V}, sc1s ws = true → RepFs c F H ws vs → vs.all flatV = true
  | [], _, _, r => by
    have e : _ = [] := r
    rw [e]
    rfl
  | w :: ws, _, h, r => by
    unfold sc1s at h
    rw [Bool.and_eq_true] at h
    obtain ⟨v, vs, e, r1, r2⟩ := r
    rw [e, List.all_cons, fl_of h.1 (.inl r1), fls_of h.2 r2]
    rfl
theorem b2i_eq (a : Bool) (b : Int) : (b2i a == b) = ((if a then 1 else 0) == b) := by cases a <;> rfl
theorem eqV_of {F : Addr → Prop} {H : Hp} {w u : W} {v x : V} (h : sc1 w = true) (h' : sc1 u = true) (r : RepL c F H w v) (r' : RepL c F H u x) : eqV v x = eqW w u := by
  cases w with
  | non =>
    rw [rL_non r]
    cases u with
    | non => rw [rL_non r']; rfl
    | bl b => rw [rL_bl r']; rfl
    | int b => rw [rL_int r']; rfl
    | str b => rw [rL_str r']; rfl
    | _ => cases h'
  | bl a =>
    rw [rL_bl r]
    cases u with
    | non => rw [rL_non r']; rfl
    | bl b => rw [rL_bl r']; rfl
    | int b => rw [rL_int r']; cases a <;> rfl
    | str b => rw [rL_str r']; rfl
    | _ => cases h'
  | int a =>
    rw [rL_int r]
    cases u with
    | non => rw [rL_non r']; rfl
    | bl b => rw [rL_bl r']; cases b <;> rfl
    | int b => rw [rL_int r']; rfl
    | str b => rw [rL_str r']; rfl
    | _ => cases h'
  | str a =>
    rw [rL_str r]
    cases u with
    | non => rw [rL_non r']; rfl
    | bl b => rw [rL_bl r']; rfl
    | int b => rw [rL_int r']; rfl
    | str b =>
      rw [rL_str r']
      show (mkS _ == mkS _) = (a == b)
      rw [Bool.eq_iff_iff]
      simp [mkS_inj]
    | _ => cases h'
  | _ => cases h
theorem inV_of {F : Addr → Prop} {H : Hp} {w : W} {v : V} (h : sc1 w = true) (r : RepL c F H w v) : ∀ {ws : List W} {vs : List V}, sc1s ws = true → RepFs c F H ws vs → inV v vs = inWs w ws
  | [], _, _, r' => by
    have e : _ = [] := r'
    rw [e]
    rfl
  | u :: ws, _, h', r' => by
    unfold sc1s at h'
    rw [Bool.and_eq_true] at h'
    obtain ⟨x, vs, e, r1, r2⟩ := r'
    rw [e]
    unfold inWs
    show (eqV x v || inV v vs) = _
    rw [eqV_of h'.1 h (.inl r1) r, inV_of h r h'.2 r2]
    cases eqW u w <;> rfl
theorem inL_of (x : Nat) : ∀ l : List Nat, inL x l = decide (x ∈ l)
  | [] => by simp [inL]
  | a :: r => by
    unfold inL
    rw [inL_of x r]
    by_cases h : x = a
    · simp [h]
    · simp [h]
def rInB (K : PySem.W.Frag) (n : Bool) : R2 := fun x y H Q => rIn K n x y H Q ∨ ∃ (ch : Nat) (z : Str), x = .str ⟨#[ch]⟩ ∧ y = .str z ∧ Q (.bl (if n then !decide (ch ∈ z.cps.toList) else decide (ch ∈ z.cps.toList))) H
theorem op_in2 {X : Cx} : OpR X (compareOp .In) (rInB X.K false) := op_in_seq.or op_in_sign
theorem op_notin2 {X : Cx} : OpR X (compareOp .NotIn) (rInB X.K true) := op_notIn_seq.or op_notIn_sign
theorem mkS_one (a : Nat) : mkS [a] = ⟨#[a]⟩ := rfl
theorem ru_inG (n : Bool) {f : List W → Option W} (hf : ∀ ws w, f ws = some w → (∃ x ys, (ws = [x, .tup ys] ∨ ws = [x, .lst ys]) ∧ sc1 x = true ∧ sc1s ys = true ∧ w = .bl (if n then !inWs x ys else inWs x ys)) ∨
    ∃ a z, ws = [.str [a], .str z] ∧ w = .bl (if n then !inL a z else inL a z)) : RuF c (r2 (rInB c.K n)) f := by
  intro F H vs ws w Q _ u e k
  rcases hf ws w e with ⟨x, ys, ew, h1, h2, rfl⟩ | ⟨a, z, rfl, rfl⟩
  · rcases ew with rfl | rfl
    · obtain ⟨v, y, rfl, q1, q2⟩ := rl2 u
      obtain ⟨p, zs, rfl, e1, e2⟩ := rL_tup q2
      refine .inl ⟨p, zs, rfl, .inr e1, fl_of h1 q1, fls_of h2 e2, k _ _ (.refl _) ?_⟩
      rw [inV_of h1 q1 h2 e2]
      exact rfl
    · obtain ⟨v, y, rfl, q1, q2⟩ := rl2 u
      obtain ⟨p, zs, rfl, e1, e2⟩ := rL_lst q2
      refine .inl ⟨p, zs, rfl, .inl (.of e1), fl_of h1 q1, fls_of h2 e2, k _ _ (.refl _) ?_⟩
      rw [inV_of h1 q1 h2 e2]
      exact rfl
  · obtain ⟨v, y, rfl, q1, q2⟩ := rl2 u
    rw [rL_str q1, rL_str q2]
    refine .inr ⟨a, _, rfl, rfl, k _ _ (.refl _) ?_⟩
    rw [mkS_list, ← inL_of]
    exact rfl
theorem ru_in : RuF c (r2 (rInB c.K false)) bIn := ru_inG false fun ws w e => by
  unfold bIn at e
  split at e
  · split at e
    · rename_i h
      rw [Bool.and_eq_true] at h
      cases e
      exact .inl ⟨_, _, .inl rfl, h.1, h.2, rfl⟩
    · cases e
  · split at e
    · rename_i h
      rw [Bool.and_eq_true] at h
      cases e
      exact .inl ⟨_, _, .inr rfl, h.1, h.2, rfl⟩
    · cases e
  · cases e
    exact .inr ⟨_, _, rfl, rfl⟩
  · cases e
theorem ru_notin : RuF c (r2 (rInB c.K true)) bNotIn := ru_inG true fun ws w e => by
  unfold bNotIn at e
  split at e
  · split at e
    · rename_i h
      rw [Bool.and_eq_true] at h
      cases e
      exact .inl ⟨_, _, .inl rfl, h.1, h.2, rfl⟩
    · cases e
  · split at e
    · rename_i h
      rw [Bool.and_eq_true] at h
      cases e
      exact .inl ⟨_, _, .inr rfl, h.1, h.2, rfl⟩
    · cases e
  · cases e
    exact .inr ⟨_, _, rfl, rfl⟩
  · cases e

/-! ### isinstance -/
/-- the built-in class of w -/
def kindN : W → Option String
  | .non => some "NoneType"
  | .bl _ => some "bool"
  | .int _ => some "int"
  | .str _ => some "str"
  | .tup _ => some "tuple"
  | .lst _ => some "list"
  | .dct _ _ => some "dict"
  | _ => none
/-- .. or a dict with tuple keys that is walked just now -/
def TyZ (K : PySem.W.Frag) (H : Hp) (v : V) (t : Value) : Prop := TyX K H v t ∨ ∃ a o kvs, v = .ref a ∧ H a = some (.frz o (.dT kvs)) ∧ t = .type "dict"
theorem tyx_of {F : Addr → Prop} {H : Hp} {w : W} {v : V} {n : String} (h : kindN w = some n) (r : RepL c F H w v) : TyZ c.K H v (.type n) := by
  cases w with
  | non => cases h; rw [rL_non r]; exact .inl <| .base .non
  | bl b => cases h; rw [rL_bl r]; exact .inl <| .base (.bl _)
  | int b => cases h; rw [rL_int r]; exact .inl <| .base (.int _)
  | str b => cases h; rw [rL_str r]; exact .inl <| .base (.str _)
  | tup b =>
    cases h
    obtain ⟨a, vs, e, h1, _⟩ := rL_tup r
    rw [e]
    rcases h1 with (h1 | ⟨o, h1⟩) | ⟨o, _, _, h1, h2, _⟩
    · exact .inl <| .base (.tup h1)
    · exact .inl <| .fTuple h1
    · exact .inl <| .kTuple h1 h2
  | lst b =>
    cases h
    obtain ⟨a, vs, e, h1, _⟩ := rL_lst r
    rw [e]
    exact .inl <| .base (.lst h1)
  | dct ks b =>
    cases h
    obtain ⟨a, vs, e, h1, _⟩ := rL_dct r
    rw [e]
    rcases h1 with ⟨kvs, h1 | ⟨o, h1⟩, _⟩ | ⟨kvs, h1 | ⟨o, h1⟩, _⟩
    · exact .inl <| .base (.dK h1)
    · exact .inl <| .fDict h1
    · exact .inl <| .base (.dT h1)
    · exact .inr ⟨a, o, kvs, rfl, h1, rfl⟩
  | _ => cases h
def rIsiZ (K : PySem.W.Frag) : LR := fun xs H Q => ∃ (x d : V) (t u : Value) (b : Bool), xs = [x, d] ∧ ClsV d u ∧ TyZ K H x t ∧ PySem.W.kitOne K t u = some b ∧ Q (.bl b) H
theorem call_isiZ {X : Cx} : CallR X (.builtin "isinstance") (rIsiZ X.K) := by
  intro pins s σ H xs us Q I r h
  obtain ⟨x, d, t, u, b, rfl, k, ty | ⟨a, o, kvs, rfl, hd, rfl⟩, e, q⟩ := h
  · exact call_isi pins s σ H _ us Q I r ⟨x, d, t, u, b, rfl, k, ty, e, q⟩
  · obtain ⟨u1, u2, rfl, r1, r2⟩ := vals2 r
    have e2 := k.eq r2
    subst e2
    cases (show u1 = Value.ref a from r1)
    have ok := I.hok a _ hd
    obtain ⟨h1, _, _, _, _, o', _, _, h2, h3, _⟩ := ok
    have z : PySem.W.KitX X.K (.ref a) (.type "dict") _ := PySem.W.kitx_dict
    exact PySem.W.kia_one z I.kIn ⟨o', h2, h3.1⟩ e (fun z => nomatch z) fun tk => ⟨.bl b, H, I.tok tk, rfl, q⟩
theorem kit_all (w : W) (t : Ty) (b : Bool) (h : isT t w = some b) : ∃ n, kindN w = some n ∧ kitB n (tyN t) = some b := by
  cases w <;> cases t <;> first
    | (cases h; done)
    | (cases h; exact ⟨_, rfl, by decide +kernel⟩)
theorem ru_isT : RuF c (rIsiZ c.K) bIsT := by
  intro F H vs ws w Q _ u e k
  unfold bIsT at e
  split at e
  · obtain ⟨x, y, rfl, h1, h2⟩ := rl2 u
    rename_i w1 t
    cases eb : isT t w1 with
    | none =>
      rw [eb] at e
      cases e
    | some b =>
      rw [eb] at e
      cases e
      obtain ⟨n, e1, e2⟩ := kit_all _ _ _ eb
      rw [rL_cls h2]
      exact ⟨_, _, _, _, b, rfl, .ty _, tyx_of e1 h1, kit_ty e2, k _ _ (.refl _) rfl⟩
  · cases e

/-! ### len, and other calls -/
theorem ru_len : RuF c (fun xs H Q => ∃ x n, xs = [x] ∧ LenV c.K x H n ∧ Q (.int n) H) bLen := by
  intro F H vs ws w Q _ u e k
  unfold bLen at e
  split at e
  · obtain ⟨x, rfl, h1⟩ := rl1 u
    split at e
    · rename_i hl
      cases e
      rw [rL_str h1]
      refine ⟨_, _, rfl, ⟨?_, rfl⟩, k _ _ (.refl _) ?_⟩
      · rw [mkS_len]
        exact sizeLine_big hl
      · rw [mkS_len]
        exact rfl
    · cases e
  · obtain ⟨x, rfl, h1⟩ := rl1 u
    cases e
    obtain ⟨a, vs, rfl, e1, e2⟩ := rL_tup h1
    exact ⟨_, _, rfl, .inr ⟨_, e1, e2.length⟩, k _ _ (.refl _) rfl⟩
  · obtain ⟨x, rfl, h1⟩ := rl1 u
    cases e
    obtain ⟨a, vs, rfl, e1, e2⟩ := rL_lst h1
    exact ⟨_, _, rfl, .inl ⟨_, .of e1, e2.length⟩, k _ _ (.refl _) rfl⟩
  · obtain ⟨x, rfl, h1⟩ := rl1 u
    cases e
    obtain ⟨a, rfl, e1⟩ := rL_scr h1
    exact ⟨_, _, rfl, .inl ⟨_, e1, (List.length_map ..).symm⟩, k _ _ (.refl _) rfl⟩
  · cases e
theorem ru_abs : RuF c (fun xs H Q => ∃ i, xs = [.int i] ∧ Q (.int (if i < 0 then -i else i)) H) bAbs := by
  intro F H vs ws w Q _ u e k
  unfold bAbs at e
  split at e
  · obtain ⟨x, rfl, h1⟩ := rl1 u
    cases e
    rw [rL_int h1]
    exact ⟨_, rfl, k _ _ (.refl _) rfl⟩
  · cases e
theorem ru_max2 : RuF c (fun xs H Q => ∃ i j, xs = [.int i, .int j] ∧ Q (.int (if j > i then j else i)) H) bMax2 := by
  intro F H vs ws w Q _ u e k
  unfold bMax2 at e
  split at e
  · obtain ⟨x, y, rfl, h1, h2⟩ := rl2 u
    cases e
    rw [rL_int h1, rL_int h2]
    exact ⟨_, _, rfl, k _ _ (.refl _) rfl⟩
  · cases e
theorem ru_min2 : RuF c (fun xs H Q => ∃ i j, xs = [.int i, .int j] ∧ Q (.int (if j < i then j else i)) H) bMin2 := by
  intro F H vs ws w Q _ u e k
  unfold bMin2 at e
  split at e
  · obtain ⟨x, y, rfl, h1, h2⟩ := rl2 u
    cases e
    rw [rL_int h1, rL_int h2]
    exact ⟨_, _, rfl, k _ _ (.refl _) rfl⟩
  · cases e
theorem ru_int1 : RuF c (fun xs H Q => (∃ i, xs = [.int i] ∧ Q (.int i) H) ∨ ∃ k, xs = [.bl k] ∧ Q (.int (if k then 1 else 0)) H) bInt1 := by
  intro F H vs ws w Q _ u e k
  unfold bInt1 at e
  split at e
  · obtain ⟨x, rfl, h1⟩ := rl1 u
    cases e
    rw [rL_int h1]
    exact .inl ⟨_, rfl, k _ _ (.refl _) rfl⟩
  · obtain ⟨x, rfl, h1⟩ := rl1 u
    cases e
    rw [rL_bl h1]
    exact .inr ⟨_, rfl, k _ _ (.refl _) rfl⟩
  · cases e
theorem bls_rep {F : Addr → Prop} {H : Hp} : ∀ {ws : List W} {vs : List V} {bs : List Bool}, blsOf ws = some bs → RepFs c F H ws vs → vs = bs.map V.bl
  | [], _, _, h, r => by
    cases h
    exact r
  | w :: ws, _, bs, h, r => by
    obtain ⟨v, vs, e, r1, r2⟩ := r
    cases w with
    | bl b =>
      cases eb : blsOf ws with
      | none =>
        simp [blsOf, eb] at h
      | some bs' =>
        simp [blsOf, eb] at h
        subst h
        have e1 : v = .bl b := r1
        rw [e, e1, bls_rep eb r2]
        rfl
    | _ => simp [blsOf] at h
theorem ru_all : RuF c (rAll c.K) bAll := by
  intro F H vs ws w Q _ u e k
  unfold bAll at e
  split at e
  · obtain ⟨x, rfl, h1⟩ := rl1 u
    rename_i xs
    cases eb : blsOf xs with
    | none =>
      rw [eb] at e
      cases e
    | some bs =>
      rw [eb] at e
      cases e
      obtain ⟨a, vs, rfl, e1, e2⟩ := rL_lst h1
      rw [bls_rep eb e2] at e1
      exact ⟨_, bs, rfl, .of e1, k _ _ (.refl _) rfl⟩
  · cases e
theorem ru_any : RuF c (rAny c.K) bAny := by
  intro F H vs ws w Q _ u e k
  unfold bAny at e
  split at e
  · obtain ⟨x, rfl, h1⟩ := rl1 u
    rename_i xs
    cases eb : blsOf xs with
    | none =>
      rw [eb] at e
      cases e
    | some bs =>
      rw [eb] at e
      cases e
      obtain ⟨a, vs, rfl, e1, e2⟩ := rL_lst h1
      rw [bls_rep eb e2] at e1
      exact ⟨_, bs, rfl, .of e1, k _ _ (.refl _) rfl⟩
  · cases e
/-! ### items -/
theorem ix_of {α β : Type} {P : α → β → Prop} {xs : List α} {ys : List β} (hl : xs.length = ys.length) (hg : ∀ (i : Nat) (x : α), xs[i]? = some x → ∃ y, ys[i]? = some y ∧ P x y) {i : Int} {x : α} (h : ((ixN xs.length i).bind fun j => xs[j]?) = some x) : ∃ y, atI ys i = some y ∧ P x y := by
  unfold atI
  show ∃ y, ((L2.ixN ys.length i).bind fun j => ys[j]?) = some y ∧ P x y
  rw [← hl]
  have e : L2.ixN xs.length i = VI.ixN xs.length i := rfl
  rw [e]
  cases en : VI.ixN xs.length i with
  | none =>
    rw [en] at h
    cases h
  | some j =>
    rw [en] at h
    exact hg j x h
theorem ru_ix : RuF c (r2 (rIx c.K)) bIx := by
  intro F H vs ws w Q _ u e k
  unfold bIx at e
  split at e
  · obtain ⟨x, y, rfl, h1, h2⟩ := rl2 u
    rw [rL_int h2]
    obtain ⟨a, vs, rfl, e1, e2⟩ := rL_tup h1
    obtain ⟨v, ev, r⟩ := ix_of e2.length (fun i x => e2.get) e
    exact .inr (.inl ⟨a, vs, _, v, rfl, rfl, e1, ev, k _ _ (.refl _) r⟩)
  · obtain ⟨x, y, rfl, h1, h2⟩ := rl2 u
    rw [rL_int h2]
    obtain ⟨a, vs, rfl, e1, e2⟩ := rL_lst h1
    obtain ⟨v, ev, r⟩ := ix_of e2.length (fun i x => e2.get) e
    exact .inl ⟨a, vs, _, v, rfl, rfl, .of e1, ev, k _ _ (.refl _) r⟩
  · obtain ⟨x, y, rfl, h1, h2⟩ := rl2 u
    rw [rL_int h2]
    obtain ⟨a, rfl, e1⟩ := rL_scr h1
    rename_i ns i
    have h : ((ixN (ns.map W.int).length i).bind fun j => (ns.map W.int)[j]?) = some w := by
      rw [List.length_map]
      rw [← e]
      congr 1
      funext j
      rw [List.getElem?_map]
    obtain ⟨v, ev, r⟩ := ix_of (P := fun w v => RepF c F H w v) (ys := ns.map V.int) (by simp) (fun j x hx => by
      rw [List.getElem?_map] at hx
      cases en : ns[j]? with
      | none =>
        rw [en] at hx
        cases hx
      | some n =>
        rw [en] at hx
        cases hx
        exact ⟨.int n, by rw [List.getElem?_map, en]; rfl, rfl⟩) h
    exact .inl ⟨a, _, _, v, rfl, rfl, e1, ev, k _ _ (.refl _) r⟩
  · obtain ⟨x, y, rfl, h1, h2⟩ := rl2 u
    split at e
    · rename_i hl
      rw [rL_int h2, rL_str h1]
      rename_i s i
      cases en : ixN s.length i with
      | none =>
        rw [en] at e
        cases e
      | some j =>
        rw [en] at e
        have e' : (s[j]?.map fun c => W.str [c]) = some w := e
        cases es : s[j]? with
        | none =>
          rw [es] at e'
          cases e'
        | some ch =>
          rw [es] at e'
          cases e'
          refine .inr (.inr ⟨_, _, ch, rfl, rfl, ?_, ?_, k _ _ (.refl _) rfl⟩)
          · rw [mkS_len]
            exact sizeLine_big hl
          · rw [mkS_list]
            unfold atI
            have e2 : L2.ixN s.length i = VI.ixN s.length i := rfl
            rw [e2, en]
            exact es
    · cases e
  · cases e
/-! ### truth -/
theorem tru_of {F : Addr → Prop} {H : Hp} {w : W} {v : V} {b : Bool} (h : truthW w = some b) (r : RepL c F H w v) : TruV c.K v H b := by
  cases w with
  | non => cases h; rw [rL_non r]; exact rfl
  | bl x => cases h; rw [rL_bl r]; exact rfl
  | int x => cases h; rw [rL_int r]; exact rfl
  | str s =>
    have h : (if s.length ≤ 100000 then some (!s.isEmpty) else none) = some b := h
    split at h
    · rename_i hl
      cases h
      rw [rL_str r]
      refine ⟨by rw [mkS_len]; exact sizeLine_big hl, ?_⟩
      rw [mkS_len]
      cases s with
      | nil => rfl
      | cons a t =>
        show true = (((a :: t).length : Int) != 0)
        symm
        rw [bne_iff_ne, List.length_cons]
        omega
    · cases h
  | tup ws =>
    cases h
    obtain ⟨a, vs, e, e1, e2⟩ := rL_tup r
    rw [e]
    refine .inr (.inl ⟨vs, e1, ?_⟩)
    have := e2.length
    cases ws <;> cases vs <;> first | rfl | (simp at this)
  | lst ws =>
    cases h
    obtain ⟨a, vs, e, e1, e2⟩ := rL_lst r
    rw [e]
    refine .inl ⟨vs, .of e1, ?_⟩
    have := e2.length
    cases ws <;> cases vs <;> first | rfl | (simp at this)
  | _ => cases h
/-- any value as a test -/
theorem sim_tE {X : Cx} {a : Expr} {m : M W} (hK : X.K = c.K) (h : SimE c X a m) (he : ∀ whole, isTrue a X.env whole = (do let v ← whole; standAt a.pos; holding [v] (truthy v)) := by intro _; rfl) : SimT c X a (tE m) := fun Wx tk =>
  PT.imp (pt_truth (h Wx tk) he) fun σ H Q q => by
    obtain ⟨F, ss, s, q⟩ := q
    refine ⟨F, ss, s, (From.bind (U := rF c) early_B q).mono fun v H1 ⟨w, F1, ss1, _, s1, u1, f1, l1, h3⟩ => ?_⟩
    obtain ⟨k, ek, q⟩ := From.lift h3
    exact ⟨k, by rw [hK]; exact tru_of ek (.inl u1), q k F1 H1 .refl s1 rfl⟩
end VI

set_option Elab.async false
set_option linter.all false
set_option maxRecDepth 100000
set_option maxHeartbeats 1000000
/-! VI, part 7: the forms of expressions. -/
namespace VI
open PySem L2
variable {c : Cn} {X : Cx}
theorem tM_ret {w : W} {v : V} {Wx : WX} {σ : L2.St} {H : Hp} {Q : VK} (h : tM c (mret w) (rF c) Wx σ H Q) (r : ∀ F H, RepF c F H w v) : Q v H := by
  obtain ⟨F, ss, s, h⟩ := h
  exact h.ret s (r F H)
theorem sim_int {i : Int} {j : Nat} {pos : Pos} : SimE c X (.Constant (.int i) j pos) (eC (.int i)) := fun Wx _ => PE.imp pe_int fun σ H Q h => tM_ret h fun _ _ => rfl
theorem sim_bl {i : Bool} {j : Nat} {pos : Pos} : SimE c X (.Constant (.bool i) j pos) (eC (.bl i)) := fun Wx _ => PE.imp pe_bl fun σ H Q h => tM_ret h fun _ _ => rfl
theorem sim_non {j : Nat} {pos : Pos} : SimE c X (.Constant .none j pos) (eC .non) := fun Wx _ => PE.imp pe_non fun σ H Q h => tM_ret h fun _ _ => rfl
theorem sim_str {x : Str} {l : List Nat} {j : Nat} {pos : Pos} (h : x = mkS l) : SimE c X (.Constant (.str x) j pos) (eC (.str l)) := fun Wx _ => PE.imp pe_str fun σ H Q q => tM_ret q fun _ _ => by
  rw [h]
  exact rfl
/-- a built-in class as a value -/
theorem sim_cls {x : Str} {t : Ty} {pos : Pos} (hm : X.mg x = none) (hv : bootBuiltins x = some (.type (tyN t))) (hg : Gl X x := by rfl) (hn : x ≠ "__name__" := by decide) (hd : (x == ("__debug__" : Str)) = false := by decide) : SimE c X (.Name x pos) (eC (.cls t)) := fun Wx _ =>
  PE.imp (pe_bltn (v := .ty (tyN t)) hg hm hv rfl hn hd) fun σ H Q h => tM_ret h fun _ _ => rfl
/-- a constant of the module without parts -/
theorem sim_gl {x : Str} {w : W} {v : V} {u : Value} {pos : Pos} (hm : X.mg x = some u) (r : RelV v u) (rep : ∀ F H, RepF c F H w v) (hg : Gl X x := by rfl) (hd : (x == ("__debug__" : Str)) = false := by decide) : SimE c X (.Name x pos) (eC w) := fun Wx _ =>
  PE.imp (pe_glob hg hm r hd) fun σ H Q h => tM_ret h rep
section
variable {σ : L2.St} {F : Addr → Prop} {H : Hp} {ss : Slots}
theorem get_set {α : Type} {ss : List α} {i j : Nat} {s t : α} (h : (ss.set i s)[j]? = some t) : (j = i ∧ t = s) ∨ (j ≠ i ∧ ss[j]? = some t) := by
  by_cases e : j = i
  · subst e
    have hl : j < ss.length := by
      have := (List.getElem?_eq_some_iff.mp h).1
      simpa using this
    rw [List.getElem?_set_self hl] at h
    cases h
    exact .inl ⟨rfl, rfl⟩
  · rw [List.getElem?_set_ne (Ne.symm e)] at h
    exact .inr ⟨e, h⟩
/-- a name's own thing is shown to others -/
theorem SR.freeze (s : SR c F H σ ss) {i : Nat} {l : Bool} {w : W} (h : ss[i]? = some (.own l w)) : ∃ a, σ[i]? = some (some (.ref a)) ∧ SR c (plus F a) H σ (ss.set i (.fr l w)) ∧
    Fm F H (OwnA σ ss) (plus F a) H (OwnA σ (ss.set i (.fr l w))) ∧ RepF c (plus F a) H w (.ref a) := by
  obtain ⟨ov, e1, a, e2, ow⟩ := s.get h
  subst e2
  have hO : OwnA σ ss a := ⟨i, _, h, rfl, e1⟩
  have sub : ∀ b, OwnA σ (ss.set i (.fr l w)) b → OwnA σ ss b := fun b ⟨j, t, h1, h2, h3⟩ => by
    rcases get_set h1 with ⟨rfl, rfl⟩ | ⟨_, h1⟩
    · cases h2
    · exact ⟨j, t, h1, h2, h3⟩
  have nA : ¬ OwnA σ (ss.set i (.fr l w)) a := fun ⟨j, t, h1, h2, h3⟩ => by
    rcases get_set h1 with ⟨rfl, rfl⟩ | ⟨n, h1⟩
    · cases h2
    · exact n (s.inj j i t _ a h1 h h2 rfl h3 e1)
  have rp := ow.rep
  refine ⟨a, e1, ⟨by rw [List.length_set]; exact s.len, fun j t ov h1 h2 => ?_, fun b hb z => ?_, fun j k t u b h1 h2 h3 h4 h5 h6 => ?_, fun b hl hb => ?_, ⟨fun b z => ?_, s.live.2⟩⟩, ⟨fun _ _ h _ _ => h, fun b o h n => ⟨o, h, n⟩, fun _ h => .inl h, fun b z => ?_, fun b hb => .inl (sub b hb)⟩, rp⟩
  · rcases get_set h1 with ⟨rfl, rfl⟩ | ⟨_, h1⟩
    · rw [e1] at h2
      cases h2
      exact ⟨_, rfl, rp⟩
    · exact (s.rel j t ov h1 h2).mono fun _ h => .inl h
  · rcases z with z | z
    · exact s.nf b (sub b hb) z
    · rw [z] at hb
      exact nA hb
  · rcases get_set h1 with ⟨rfl, rfl⟩ | ⟨_, h1⟩
    · cases h3
    · rcases get_set h2 with ⟨rfl, rfl⟩ | ⟨_, h2⟩
      · cases h4
      · exact s.inj j k t u b h1 h2 h3 h4 h5 h6
  · obtain ⟨j, w', h1, h2, h3⟩ := hl
    rcases get_set h1 with ⟨rfl, z⟩ | ⟨_, h1⟩
    · cases z
    · exact s.lk b ⟨j, w', h1, h2, h3⟩ (sub b hb)
  · rcases z with z | z
    · exact s.live.1 b z
    · obtain ⟨u, hu, mu, _⟩ := ow.mut
      exact ⟨u, by rw [z]; exact hu, noTb_mut mu⟩
  · rcases z with z | z
    · exact .inl z
    · exact .inr (.inl (by rw [z]; exact hO))
theorem Ln.freeze {i : Nat} {l : Bool} {w : W} (s : SR c F H σ ss) (h : ss[i]? = some (.own l w)) : Ln σ ss σ (ss.set i (.fr l w)) := ⟨fun j t h1 f => by
  refine ⟨rfl, ?_⟩
  by_cases e : j = i
  · subst e
    rw [h] at h1
    cases h1
    have hl := (List.getElem?_eq_some_iff.mp h).1
    refine ⟨.fr l w, List.getElem?_set_self hl, ?_⟩
    cases l
    · cases f
    · obtain ⟨ov, _, a, _, ow⟩ := s.get h
      exact .inr ⟨w, rfl, ow.mutW⟩
  · exact ⟨t, by rw [List.getElem?_set_ne (Ne.symm e)]; exact h1, Nfr.refl f⟩, fun j u h1 => by
  rcases get_set h1 with ⟨_, z⟩ | ⟨_, h1⟩
  · cases z
  · exact h1⟩
end
/-- a name -/
theorem sim_var (i : Nat) {x : Str} {pos : Pos} (hN : X.N[i]? = some x := by rfl) (hv : Vis X.env.scope x := by first | exact Or.inl rfl | exact Or.inr (Or.inl rfl) | exact Or.inr (Or.inr rfl)) (hd : (x == ("__debug__" : Str)) = false := by decide)
    (hcd : (x == ("__classdict__" : Str)) = false := by decide) : SimE c X (.Name x pos) (eVar i) := fun Wx _ => PE.imp (pe_var hN hv hd hcd) fun σ H Q h => by
  obtain ⟨F, ss, s, h⟩ := h
  unfold From eVar at h
  cases e : ss[i]? with
  | none =>
    rw [e] at h
    rcases h with ⟨a, s', z, _⟩ | ⟨j, w, s', z, _⟩ <;> cases z
  | some t =>
    rw [e] at h
    cases t with
    | no => rcases h with ⟨a, s', z, _⟩ | ⟨j, w, s', z, _⟩ <;> cases z
    | lk w => rcases h with ⟨a, s', z, _⟩ | ⟨j, w, s', z, _⟩ <;> cases z
    | fr l w =>
      obtain ⟨ov, e1, v, e2, r⟩ := s.get e
      subst e2
      rcases h with ⟨a, s', z, q⟩ | ⟨j, w', s', z, _⟩
      · cases z
        exact ⟨v, e1, q v F H .refl s .refl r⟩
      · cases z
    | own l w =>
      obtain ⟨a, e1, s1, f1, r⟩ := s.freeze e
      rcases h with ⟨a', s', z, q⟩ | ⟨j, w', s', z, _⟩
      · cases z
        exact ⟨.ref a, e1, q _ _ H f1 s1 (.freeze s e) r⟩
      · cases z
/-! ### displays -/
theorem simL_nil : SimL c X [] (exps []) := fun Wx _ => PA.imp pa_nil fun σ H Q h => by
  obtain ⟨F, ss, s, h⟩ := h
  exact h.ret s rfl
theorem simL_cons {e : Expr} {es : List Expr} {m : M W} {ms : List (M W)} (h : SimE c X e m) (t : SimL c X es (exps ms)) (hs : starEach (e :: es) X.env = (false, eval e X.env) :: starEach es X.env := by rfl) : SimL c X (e :: es) (exps (m :: ms)) := fun Wx tk =>
  PA.imp (pa_cons (h Wx tk) (t Wx tk) hs) fun σ H Q q => by
    obtain ⟨F, ss, s, q⟩ := q
    have q : From c (mbd m fun w => mbd (exps ms) fun ws => mret (w :: ws)) (rFs c) Wx σ F H ss Q := q
    refine ⟨F, ss, s, (From.bind (U := rF c) early_Fs q).mono fun v H1 ⟨w, F1, ss1, _, s1, u1, f1, l1, h3⟩ => ?_⟩
    refine ⟨F1, ss1, s1, (From.bind (U := rFs c) early_Fs h3).mono fun vs H2 ⟨ws, F2, ss2, _, s2, u2, f2, l2, h4⟩ => ?_⟩
    exact h4.ret s2 ⟨v, vs, rfl, RepF.kp (s1.kp f2) _ _ u1, u2⟩
theorem exps_len : ∀ {ms : List (M W)} {ss ss' : Slots} {ws : List W}, exps ms ss = some (.ok ws ss') → ws.length = ms.length
  | [], _, _, _, h => by
    cases h
    rfl
  | m :: ms, ss, ss', ws, h => by
    have h : mbd m (fun w => mbd (exps ms) fun ws => mret (w :: ws)) ss = some (.ok ws ss') := h
    unfold mbd at h
    cases em : m ss with
    | none =>
      rw [em] at h
      cases h
    | some r =>
      rw [em] at h
      cases r with
      | exc k w s => cases h
      | ok w s =>
        dsimp only at h
        cases en : exps ms s with
        | none =>
          rw [en] at h
          cases h
        | some r =>
          rw [en] at h
          cases r with
          | exc k w s => cases h
          | ok ws2 s2 =>
            cases h
            rw [List.length_cons, List.length_cons, exps_len en]
theorem sim_tup {es : List Expr} {ms : List (M W)} {k : Nat} {pos : Pos} (h : SimL c X es (exps ms)) (hK : X.K = c.K) (hl : ms.length ≤ 1000 := by decide) : SimE c X (.Tuple es k pos) (eTup ms) := fun Wx tk =>
  PE.imp (pe_tup (h Wx tk)) fun σ H Q q => by
    obtain ⟨F, ss, s, q⟩ := q
    refine ⟨F, ss, s, (From.bind (U := rFs c) early_F q).mono fun vs H1 ⟨ws, F1, ss1, em, s1, u1, f1, l1, h3⟩ => ⟨?_, fun p hp => ?_⟩⟩
    · have e := exps_len em
      have e2 : ws.length = vs.length := u1.length
      exact sizeLine_big (by omega)
    · exact h3.retE (Ext.new hp).fm (s1.ext (.new hp)) ⟨p, vs, rfl, .of upd_same, RepFs.kp (Ext.kp (.new hp)) _ _ u1⟩
theorem sim_lst {es : List Expr} {ms : List (M W)} {pos : Pos} (h : SimL c X es (exps ms)) (hl : ms.length ≤ 1000 := by decide) : SimO c X (.List es pos) (eLst ms) := fun Wx tk =>
  PE.imp (pe_lst (h Wx tk)) fun σ H Q q => by
    obtain ⟨F, ss, s, q⟩ := q
    refine ⟨F, ss, s, (From.bind (U := rFs c) early_O q).mono fun vs H1 ⟨ws, F1, ss1, em, s1, u1, f1, l1, h3⟩ => ⟨?_, fun p hp => ?_⟩⟩
    · have e := exps_len em
      have e2 : ws.length = vs.length := u1.length
      exact sizeLine_big (by omega)
    · refine h3.retE (Ext.new hp).fm (s1.ext (.new hp)) ⟨p, rfl, .of hp, fun z => ?_, fun z => ?_, vs, upd_same, RepFs.kp (Ext.kp (.new hp)) _ _ u1⟩
      · obtain ⟨o, e⟩ := s1.liv p z
        rw [hp] at e
        cases e
      · exact s1.fresh (.of hp) z
/-! ### and, or, not, if -/
section
variable {a b : Expr} {rest : List Expr} {pos : Pos} {m n : M W} {t u : M Bool}
theorem sim_one {op : BoolOp} (h : SimE c X a m) : SimE c X (.BoolOp op [a] pos) m := fun Wx tk => pe_one (h Wx tk)
theorem sim_and (ha : SimE c X a m) (hb : SimE c X (.BoolOp .And (b :: rest) pos) n) : SimE c X (.BoolOp .And (a :: b :: rest) pos) (eAnd m n) := fun Wx tk =>
  PE.imp (pe_and (ha Wx tk) (hb Wx tk)) fun σ H Q q => by
    obtain ⟨F, ss, s, q⟩ := q
    refine ⟨F, ss, s, (From.bind (U := rF c) early_F q).mono fun v H1 ⟨w, F1, ss1, em, s1, u1, f1, l1, h3⟩ => ?_⟩
    cases w with
    | bl k =>
      have e : v = .bl k := u1
      refine ⟨k, e, ?_⟩
      cases k with
      | true => exact iteT ⟨F1, ss1, s1, h3⟩
      | false => exact iteF (h3.ret s1 rfl)
    | _ => rcases h3 with ⟨a, s', z, _⟩ | ⟨j, w, s', z, _⟩ <;> cases z
theorem sim_or (ha : SimE c X a m) (hb : SimE c X (.BoolOp .Or (b :: rest) pos) n) : SimE c X (.BoolOp .Or (a :: b :: rest) pos) (eOr m n) := fun Wx tk =>
  PE.imp (pe_or (ha Wx tk) (hb Wx tk)) fun σ H Q q => by
    obtain ⟨F, ss, s, q⟩ := q
    refine ⟨F, ss, s, (From.bind (U := rF c) early_F q).mono fun v H1 ⟨w, F1, ss1, em, s1, u1, f1, l1, h3⟩ => ?_⟩
    cases w with
    | bl k =>
      have e : v = .bl k := u1
      refine ⟨k, e, ?_⟩
      cases k with
      | true => exact iteT (h3.ret s1 rfl)
      | false => exact iteF ⟨F1, ss1, s1, h3⟩
    | _ => rcases h3 with ⟨a, s', z, _⟩ | ⟨j, w, s', z, _⟩ <;> cases z
theorem sim_not (ha : SimE c X a m) : SimE c X (.UnaryOp .Not a pos) (eNot m) := fun Wx tk =>
  PE.imp (pe_not (ha Wx tk)) fun σ H Q q => by
    obtain ⟨F, ss, s, q⟩ := q
    refine ⟨F, ss, s, (From.bind (U := rF c) early_F q).mono fun v H1 ⟨w, F1, ss1, em, s1, u1, f1, l1, h3⟩ => ?_⟩
    cases w with
    | bl k => exact ⟨k, u1, h3.ret s1 rfl⟩
    | _ => rcases h3 with ⟨a, s', z, _⟩ | ⟨j, w, s', z, _⟩ <;> cases z
theorem simW_and1 (h : SimT c X a t) : SimW c X (.BoolOp .And [a] pos) t := fun Wx tk => pw_and1 (h Wx tk)
theorem simW_or1 (h : SimT c X a t) : SimW c X (.BoolOp .Or [a] pos) t := fun Wx tk => pw_or1 (h Wx tk)
theorem simW_and (ha : SimT c X a t) (hb : SimW c X (.BoolOp .And (b :: rest) pos) u) : SimW c X (.BoolOp .And (a :: b :: rest) pos) (tAnd t u) := fun Wx tk =>
  PW.imp (pw_and (ha Wx tk) (hb Wx tk)) fun σ H Q q => by
    obtain ⟨F, ss, s, q⟩ := q
    refine ⟨F, ss, s, (From.bind (U := rB) early_B q).mono fun k H1 ⟨k', F1, ss1, em, s1, u1, f1, l1, h3⟩ => ?_⟩
    have u1 : k' = k := u1
    subst u1
    cases k' with
    | true => exact iteT ⟨F1, ss1, s1, h3⟩
    | false => exact iteF (h3.ret s1 rfl)
theorem simW_or (ha : SimT c X a t) (hb : SimW c X (.BoolOp .Or (b :: rest) pos) u) : SimW c X (.BoolOp .Or (a :: b :: rest) pos) (tOr t u) := fun Wx tk =>
  PW.imp (pw_or (ha Wx tk) (hb Wx tk)) fun σ H Q q => by
    obtain ⟨F, ss, s, q⟩ := q
    refine ⟨F, ss, s, (From.bind (U := rB) early_B q).mono fun k H1 ⟨k', F1, ss1, em, s1, u1, f1, l1, h3⟩ => ?_⟩
    have u1 : k' = k := u1
    subst u1
    cases k' with
    | true => exact iteT (h3.ret s1 rfl)
    | false => exact iteF ⟨F1, ss1, s1, h3⟩
theorem simT_W (h : SimW c X a t) : SimT c X a t := fun Wx tk => (h Wx tk).pt
theorem simT_not (h : SimT c X a t) : SimT c X (.UnaryOp .Not a pos) (tNot t) := fun Wx tk =>
  PT.imp (pt_not (h Wx tk)) fun σ H Q q => by
    obtain ⟨F, ss, s, q⟩ := q
    refine ⟨F, ss, s, (From.bind (U := rB) early_B q).mono fun k H1 ⟨k', F1, ss1, em, s1, u1, f1, l1, h3⟩ => ?_⟩
    have u1 : k' = k := u1
    subst u1
    exact h3.ret s1 rfl
theorem sim_ifE {T : Expr} (ht : SimT c X T t) (ha : SimE c X a m) (hb : SimE c X b n) : SimE c X (.IfExp T a b pos) (eIf t m n) := fun Wx tk =>
  PE.imp (pe_ifExp (ht Wx tk) (ha Wx tk) (hb Wx tk)) fun σ H Q q => by
    obtain ⟨F, ss, s, q⟩ := q
    refine ⟨F, ss, s, (From.bind (U := rB) early_F q).mono fun k H1 ⟨k', F1, ss1, em, s1, u1, f1, l1, h3⟩ => ?_⟩
    have u1 : k' = k := u1
    subst u1
    cases k' with
    | true => exact iteT ⟨F1, ss1, s1, h3⟩
    | false => exact iteF ⟨F1, ss1, s1, h3⟩
end
/-! ### a op b op' c -/
section
variable {a b d : Expr} {pos : Pos} {m n l : M W} {f g : List W → Option W} {r r' : R2}
theorem chain_read {Wx : WX} {σ : L2.St} {H : Hp} {Q : VK} (ru : RuF c (r2 r) f) (ru' : RuF c (r2 r') g) (h : tM c (eChain f g m n l) (rF c) Wx σ H Q) : tChain r r' (tM c m (rF c) Wx) (tM c n (rF c) Wx) (tM c l (rF c) Wx) σ H Q := by
  obtain ⟨F, ss, s, h⟩ := h
  refine ⟨F, ss, s, (From.bind (U := rF c) early_F h).mono fun x H1 ⟨wx, F1, ss1, _, s1, u1, f1, l1, h1⟩ => ?_⟩
  refine ⟨F1, ss1, s1, (From.bind (U := rF c) early_F h1).mono fun y H2 ⟨wy, F2, ss2, _, s2, u2, f2, l2, h2⟩ => ?_⟩
  cases ef : f [wx, wy] with
  | none =>
    exfalso
    have z : mbd (lift ((f [wx, wy]).bind isBl)) (fun k => if k then mbd l fun z => lift (g [wy, z]) else mret (.bl false)) ss2 = none := by rw [ef]; rfl
    rcases h2 with ⟨a, s', e, _⟩ | ⟨j, w, s', e, _⟩ <;> rw [z] at e <;> cases e
  | some w =>
    refine ru F2 H2 [x, y] [wx, wy] w _ s2.liv ⟨x, [y], rfl, .inl (RepF.kp (s1.kp f2) _ _ u1), y, [], rfl, .inl u2, rfl⟩ ef fun v H3 e3 q3 => ?_
    cases w with
    | bl k =>
      have ev : v = .bl k := q3
      refine ⟨k, ev, ?_⟩
      have s3 := s2.ext e3
      cases k with
      | false =>
        refine iteF ?_
        have z : From c (mret (.bl false)) (rF c) Wx σ F2 H2 ss2 Q := by
          have e : mbd (lift ((f [wx, wy]).bind isBl)) (fun k => if k then mbd l fun z => lift (g [wy, z]) else mret (.bl false)) ss2 = mret (.bl false) ss2 := by rw [ef]; rfl
          unfold From at h2 ⊢
          rw [e] at h2
          exact h2
        exact z.retE e3.fm s3 rfl
      | true =>
        refine iteT ?_
        have z : From c (mbd l fun z => lift (g [wy, z])) (rF c) Wx σ F2 H2 ss2 Q := by
          have e : mbd (lift ((f [wx, wy]).bind isBl)) (fun k => if k then mbd l fun z => lift (g [wy, z]) else mret (.bl false)) ss2 = mbd l (fun z => lift (g [wy, z])) ss2 := by rw [ef]; rfl
          unfold From at h2 ⊢
          rw [e] at h2
          exact h2
        have z3 : From c (mbd l fun z => lift (g [wy, z])) (rF c) Wx σ F2 H3 ss2 Q := by
          rcases z with ⟨a, s', e, q⟩ | ⟨j, w, s', e, q⟩
          · exact .inl ⟨a, s', e, fun b' F' H' fm sr ln t => q b' F' H' (e3.fm.trans fm) sr ln t⟩
          · exact .inr ⟨j, w, s', e, fun cls dd F' H' fm sr ln t => q cls dd F' H' (e3.fm.trans fm) sr ln t⟩
        refine ⟨F2, ss2, s3, (From.bind (U := rF c) early_F z3).mono fun zv H4 ⟨wz, F4, ss4, _, s4, u4, f4, l4, h4⟩ => ?_⟩
        obtain ⟨w', ew, q⟩ := From.lift h4
        exact ru' F4 H4 [y, zv] [wy, wz] w' Q s4.liv ⟨y, [zv], rfl, .inl (RepF.kp (s3.kp f4) _ _ (RepF.kp e3.kp _ _ u2)), zv, [], rfl, .inl u4, rfl⟩ ew fun v H5 e5 q5 => q v F4 H5 e5.fm (s4.ext e5) q5
    | _ =>
      exfalso
      have z : mbd (lift ((f [wx, wy]).bind isBl)) (fun k => if k then mbd l fun z => lift (g [wy, z]) else mret (.bl false)) ss2 = none := by rw [ef]; rfl
      rcases h2 with ⟨a, s', e, _⟩ | ⟨j, w, s', e, _⟩ <;> rw [z] at e <;> cases e
theorem sim_chain {op op' : CmpOp} (ho : OpR X (compareOp op) r) (ho' : OpR X (compareOp op') r') (ru : RuF c (r2 r) f) (ru' : RuF c (r2 r') g) (ha : SimE c X a m) (hb : SimE c X b n) (hd : SimE c X d l)
    (hm : lastMarks [op, op'] [b, d] = false := by with_unfolding_all rfl) : SimE c X (.Compare a [op, op'] [b, d] pos) (eChain f g m n l) := fun Wx tk =>
  PE.imp (pe_chain ho ho' (ha Wx tk) (hb Wx tk) (hd Wx tk) hm) fun σ H Q h => chain_read ru ru' h
theorem simT_chain {op op' : CmpOp} (ho : OpR X (compareOp op) r) (ho' : OpR X (compareOp op') r') (ru : RuF c (r2 r) f) (ru' : RuF c (r2 r') g) (ha : SimE c X a m) (hb : SimE c X b n) (hd : SimE c X d l)
    (hm : lastMarks [op, op'] [b, d] = false := by with_unfolding_all rfl) : SimT c X (.Compare a [op, op'] [b, d] pos) (tB (eChain f g m n l)) := fun Wx tk =>
  PT.imp (pt_chain ho ho' (ha Wx tk) (hb Wx tk) (hd Wx tk) hm) fun σ H Q h => chain_read (Q := fun x H' => ∃ k, x = .bl k ∧ Q k H') ru ru' (tB_read h)
end
/-! ### slices -/
def rCut (K : PySem.W.Frag) : V → Option Int → Option Int → Hp → VK → Prop := fun x lo hi H Q => rSlL K x lo hi H Q ∨ rSlA K x lo hi H Q ∨ rSlS x lo hi H Q
theorem sl_cut : SlR X (rCut X.K) := sl_list.or (sl_tupA.or sl_str)
theorem RepFs.cut {F : Addr → Prop} {H : Hp} {ws : List W} {vs : List V} (h : RepFs c F H ws vs) (lo hi : Option Int) : RepFs c F H (VI.cut ws lo hi) (cutV vs lo hi) := by
  have dr : ∀ (n : Nat) {ws : List W} {vs : List V}, RepFs c F H ws vs → RepFs c F H (ws.drop n) (vs.drop n) := by
    intro n
    induction n with
    | zero => intro ws vs h; exact h
    | succ n ih =>
      intro ws vs h
      cases ws with
      | nil =>
        have e : vs = [] := h
        rw [e]
        exact rfl
      | cons w ws =>
        obtain ⟨v, r, e, _, h2⟩ := h
        rw [e]
        exact ih h2
  have tk : ∀ (n : Nat) {ws : List W} {vs : List V}, RepFs c F H ws vs → RepFs c F H (ws.take n) (vs.take n) := by
    intro n
    induction n with
    | zero => intro ws vs h; exact rfl
    | succ n ih =>
      intro ws vs h
      cases ws with
      | nil =>
        have e : vs = [] := h
        rw [e]
        exact rfl
      | cons w ws =>
        obtain ⟨v, r, e, h1, h2⟩ := h
        rw [e]
        exact ⟨v, _, rfl, h1, ih h2⟩
  unfold VI.cut cutV
  rw [h.length]
  exact tk _ (dr _ h)
theorem cut_whole {α : Type} (xs : List α) (lo hi : Option Int) (h : VI.sIx xs.length 0 lo = 0 ∧ VI.sIx xs.length xs.length hi = xs.length) : VI.cut xs lo hi = xs := by
  unfold VI.cut
  rw [h.1, h.2]
  simp
theorem ru_cut {F : Addr → Prop} {H : Hp} {x : V} {w w' : W} {lo hi : Option Int} {Q : VK} (u : RepL c F H w x) (e : cutW lo hi w = some w') (k : ∀ v H', Ext H H' → RepF c F H' w' v → Q v H')
    (ko : ∀ a H', H a = none → Ext H H' → OwnAt c F H' a w' → Q (.ref a) H') : rCut c.K x lo hi H Q := by
  unfold cutW at e
  split at e
  · obtain ⟨a, vs, rfl, e1, e2⟩ := rL_tup u
    cases e
    rename_i ws
    refine .inr (.inl ⟨a, vs, rfl, e1, fun z => ?_, fun _ p hp => ?_⟩)
    · have z' : VI.sIx ws.length 0 lo = 0 ∧ VI.sIx ws.length ws.length hi = ws.length := by rw [e2.length]; exact z
      refine k _ _ (.refl _) ⟨a, vs, rfl, e1, ?_⟩
      rw [cut_whole _ _ _ z']
      exact e2
    · exact k _ _ (.new hp) ⟨p, _, rfl, .of upd_same, RepFs.kp (Ext.kp (.new hp)) _ _ (e2.cut lo hi)⟩
  · obtain ⟨a, vs, rfl, e1, e2⟩ := rL_lst u
    cases e
    exact .inl ⟨a, vs, rfl, .of e1, fun p hp => ko p _ hp (.new hp) ⟨_, upd_same, RepFs.kp (Ext.kp (.new hp)) _ _ (e2.cut lo hi)⟩⟩
  · split at e
    · rename_i s hl
      cases e
      rw [rL_str u]
      refine .inr (.inr ⟨_, rfl, by rw [mkS_len]; exact sizeLine_big hl, k _ _ (.refl _) ?_⟩)
      show V.str (cutS (mkS s) lo hi) = .str (mkS (VI.cut s lo hi))
      unfold cutS
      rw [mkS_list, mkS_len]
      rfl
    · cases e
  · cases e
/-- an int, for a slice's part -/
def intV (Q : Int → Hp → Prop) : VK := fun v H => ∃ i, v = .int i ∧ Q i H
def rSl0 (K : PySem.W.Frag) : LR := r1 fun x H Q => rCut K x none none H Q
def rSlLo (K : PySem.W.Frag) : LR := r2 fun x y H Q => ∃ i, y = .int i ∧ rCut K x (some i) none H Q
def rSlHi (K : PySem.W.Frag) : LR := r2 fun x y H Q => ∃ i, y = .int i ∧ rCut K x none (some i) H Q
def rSlB (K : PySem.W.Frag) : LR := fun vs H Q => match vs with
  | [x, y, z] => ∃ i, y = .int i ∧ ∃ j, z = .int j ∧ rCut K x (some i) (some j) H Q
  | _ => False
theorem ru_sl0 : RuE c (rSl0 c.K) bSl0 := by
  intro F H vs ws w Q _ u e k ko
  unfold bSl0 at e
  split at e
  · obtain ⟨x, rfl, h1⟩ := rl1 u
    exact ru_cut h1 e k ko
  · cases e
theorem ru_slL : RuE c (rSlLo c.K) bSlL := by
  intro F H vs ws w Q _ u e k ko
  unfold bSlL at e
  split at e
  · obtain ⟨x, y, rfl, h1, h2⟩ := rl2 u
    exact ⟨_, rL_int h2, ru_cut h1 e k ko⟩
  · cases e
theorem ru_slH : RuE c (rSlHi c.K) bSlH := by
  intro F H vs ws w Q _ u e k ko
  unfold bSlH at e
  split at e
  · obtain ⟨x, y, rfl, h1, h2⟩ := rl2 u
    exact ⟨_, rL_int h2, ru_cut h1 e k ko⟩
  · cases e
theorem ru_slB : RuE c (rSlB c.K) bSlB := by
  intro F H vs ws w Q _ u e k ko
  unfold bSlB at e
  split at e
  · obtain ⟨x, r, rfl, h1, h3⟩ := u
    obtain ⟨y, z, rfl, h2, h4⟩ := rl2 h3
    exact ⟨_, rL_int h2, _, rL_int h4, ru_cut h1 e k ko⟩
  · cases e
section
variable {e lo hi : Expr} {o p q : Opd} {pos p2 : Pos}
theorem sim_sl0 (hK : X.K = c.K) (he : SimP c X e o) : SimE c X (.Subscript e (.Slice none none none p2) pos) (bi bSl0 [o]) := fun Wx tk =>
  PE.imp (pe_slice sl_cut (he Wx tk) po_none po_none) fun σ H Q h => by
    rw [hK]
    exact bi_read ru_sl0 h
theorem sim_slL (hK : X.K = c.K) (he : SimP c X e o) (hl : SimP c X lo p) : SimE c X (.Subscript e (.Slice (some lo) none none p2) pos) (bi bSlL [o, p]) := fun Wx tk =>
  PE.imp (pe_slice sl_cut (he Wx tk) (po_some (hl Wx tk)) po_none) fun σ H Q h => by
    rw [hK]
    exact bi_read ru_slL h
theorem sim_slH (hK : X.K = c.K) (he : SimP c X e o) (hl : SimP c X hi p) : SimE c X (.Subscript e (.Slice none (some hi) none p2) pos) (bi bSlH [o, p]) := fun Wx tk =>
  PE.imp (pe_slice sl_cut (he Wx tk) po_none (po_some (hl Wx tk))) fun σ H Q h => by
    rw [hK]
    exact bi_read ru_slH h
theorem int_read {m : M W} {Wx : WX} {σ : L2.St} {H : Hp} {Q : VK} (h : tM c (mInt m) (rF c) Wx σ H Q) : tM c m (rF c) Wx σ H fun y H2 => ∃ i, y = .int i ∧ Q (.int i) H2 := by
  obtain ⟨F, ss, s, h⟩ := h
  refine ⟨F, ss, s, (From.bind (U := rF c) early_F h).mono fun v H1 ⟨w, F1, ss1, em, s1, u1, f1, l1, h3⟩ => ?_⟩
  cases w with
  | int i => exact ⟨i, u1, h3.ret s1 rfl⟩
  | _ => rcases h3 with ⟨a, s', z, _⟩ | ⟨j, w, s', z, _⟩ <;> cases z
theorem sim_slB {m n : M W} (hK : X.K = c.K) (he : SimP c X e o) (hl : SimE c X lo m) (hh : SimE c X hi n) : SimE c X (.Subscript e (.Slice (some lo) (some hi) none p2) pos) (bi bSlB [o, .ev (mInt m), .ev n]) := fun Wx tk =>
  PE.imp (pe_slice sl_cut (he Wx tk) (po_some (hl Wx tk)) (po_some (hh Wx tk))) fun σ H Q h => by
    rw [hK]
    have z := bi_read ru_slB h
    refine rdO_mono z fun x H1 z1 => ?_
    refine tM.mono (int_read z1) fun y H2 ⟨i, ei, z2⟩ => ⟨i, ei, ?_⟩
    refine tM.mono z2 fun z H3 ⟨i', e1, j, e2, q⟩ => ⟨j, e2, ?_⟩
    cases e1
    exact q
end
end VI

set_option Elab.async false
set_option linter.all false
set_option maxRecDepth 100000
set_option maxHeartbeats 1000000
/-! VI, part 8: statements. -/
namespace VI
open PySem L2
/-- owned and not lent -/
def Mine (σ : L2.St) (ss : Slots) (a : Addr) : Prop := ∃ (i : Nat) (w : W), ss[i]? = some (.own false w) ∧ σ[i]? = some (some (V.ref a))
/-- how a value that is handed back is told: o, nobody else has it -/
def RetR (c : Cn) (o : Bool) (σ : L2.St) (ss : Slots) (F' : Addr → Prop) (H H' : Hp) (w : W) (v : V) : Prop :=
  if o = true ∧ isMut w = true then ∃ a, v = .ref a ∧ ¬ F' a ∧ OwnAt c F' H' a w ∧ ((Fr H a ∧ ¬ Busy σ ss a) ∨ Mine σ ss a) else RepF c F' H' w v
theorem RetR.early {c : Cn} {o : Bool} {σ : L2.St} {ss : Slots} {F' : Addr → Prop} {H H1 H' : Hp} {w : W} {v : V} (h : RetR c o σ ss F' H1 H' w v) (k : ∀ x, Fr H1 x → Fr H x) : RetR c o σ ss F' H H' w v := by
  unfold RetR at h ⊢
  split at h
  · rename_i z
    rw [if_pos z]
    obtain ⟨a, e, n, ow, q⟩ := h
    exact ⟨a, e, n, ow, q.imp (fun ⟨z, y⟩ => ⟨k a z, y⟩) id⟩
  · rename_i z
    rw [if_neg z]
    exact h
def FlowR (c : Cn) (D : Ends) (H : Hp) (f : Flow) (σ' : L2.St) (ss' : Slots) (F' : Addr → Prop) (H' : Hp) : Prop := match f with
  | .nx => D.nx σ' H'
  | .brk => D.bk σ' H'
  | .cont => D.ct σ' H'
  | .ret o w => ∀ v, RetR c o σ' ss' F' H H' w v → D.rt v H'
def FromS (c : Cn) (m : M Flow) (Wx : WX) (σ : L2.St) (F : Addr → Prop) (H : Hp) (ss : Slots) (D : Ends) : Prop :=
  (∃ f ss', m ss = some (.ok f ss') ∧ ∀ (σ' : L2.St) (F' : Addr → Prop) (H' : Hp), Fm F H (OwnA σ ss) F' H' (OwnA σ' ss') → SR c F' H' σ' ss' → Ln σ ss σ' ss' → FlowR c D H f σ' ss' F' H') ∨
    ∃ k w ss', m ss = some (.exc k w ss') ∧ ∀ (cls : Value) (d : Option Addr) (σ' : L2.St) (F' : Addr → Prop) (H' : Hp), Fm F H (OwnA σ ss) F' H' (OwnA σ' ss') → SR c F' H' σ' ss' → Ln σ ss σ' ss' → ExR c F' H' k w cls d → Wx cls d σ' H'
def tS (c : Cn) (m : M Flow) (Wx : WX) : TS := fun D σ H => ∃ F ss, SR c F H σ ss ∧ FromS c m Wx σ F H ss D
def SimS (c : Cn) (X : Cx) (st : Stmt) (m : M Flow) : Prop := ∀ Wx, Takes X Wx → PS X st (tS c m Wx)
def SimB (c : Cn) (X : Cx) (sts : List Stmt) (m : M Flow) : Prop := ∀ Wx, Takes X Wx → PSs X sts (tS c m Wx)
theorem PS.imp {X : Cx} {e : Stmt} {t t' : TS} (h : PS X e t) (k : ∀ D σ H, t' D σ H → t D σ H) : PS X e t' := ⟨fun pins s σ H D I q => h.run pins s σ H D I (k D σ H q)⟩
theorem PSs.imp {X : Cx} {e : List Stmt} {t t' : TS} (h : PSs X e t) (k : ∀ D σ H, t' D σ H → t D σ H) : PSs X e t' := ⟨fun pins s σ H D I q => h.run pins s σ H D I (k D σ H q)⟩
section
variable {c : Cn} {X : Cx} {Wx : WX} {σ : L2.St} {F : Addr → Prop} {H : Hp} {ss : Slots} {D : Ends}
theorem FromS.eq {m n : M Flow} (e : m ss = n ss) (h : FromS c m Wx σ F H ss D) : FromS c n Wx σ F H ss D := by
  unfold FromS at h ⊢
  rw [← e]
  exact h
/-- on from a later moment -/
theorem FromS.later {m m' : M Flow} {σ1 : L2.St} {ss1 : Slots} {F1 : Addr → Prop} {H1 : Hp} (h : FromS c m Wx σ F H ss D) (e : m ss = m' ss1) (f : Fm F H (OwnA σ ss) F1 H1 (OwnA σ1 ss1)) (l : Ln σ ss σ1 ss1) : FromS c m' Wx σ1 F1 H1 ss1 D := by
  unfold FromS at h ⊢
  rw [e] at h
  rcases h with ⟨a, s', e', q⟩ | ⟨j, w', s', e', q⟩
  · refine .inl ⟨a, s', e', fun σ' F' H' f' s' l' => ?_⟩
    have z := q σ' F' H' (f.trans f') s' (l.trans l')
    cases a with
    | ret o w => exact fun v r => z v (r.early fun x hx => f.gone hx)
    | _ => exact z
  · exact .inr ⟨j, w', s', e', fun cls d σ' F' H' f' s' l' x => q cls d σ' F' H' (f.trans f') s' (l.trans l') x⟩
/-- an expression first -/
theorem FromS.bind {α β : Type} {m : M α} {f : α → M Flow} {U : Rl α β} (h : FromS c (mbd m f) Wx σ F H ss D) :
    From c m U Wx σ F H ss fun b H1 => ∃ a F1 ss1, m ss = some (.ok a ss1) ∧ SR c F1 H1 σ ss1 ∧ U (BZ σ ss1) F1 H H1 a b ∧ Fm F H (OwnA σ ss) F1 H1 (OwnA σ ss1) ∧ Ln σ ss σ ss1 ∧ FromS c (f a) Wx σ F1 H1 ss1 D ∧ FromS c (fun _ => f a ss1) Wx σ F H ss D := by
  cases em : m ss with
  | none =>
    have z : mbd m f ss = none := by unfold mbd; rw [em]
    rcases h with ⟨a, s, e, _⟩ | ⟨j, w, s, e, _⟩ <;> rw [z] at e <;> cases e
  | some r =>
    cases r with
    | exc k w s =>
      have z : mbd m f ss = some (.exc k w s) := by unfold mbd; rw [em]
      rcases h with ⟨a, s', e, _⟩ | ⟨j, w', s', e, q⟩
      · rw [z] at e
        cases e
      · rw [z] at e
        cases e
        exact .inr ⟨k, w, s, em, fun cls d F' H' h1 h2 h3 h4 => q cls d σ F' H' h1 h2 h3 h4⟩
    | ok a s => exact .inl ⟨a, s, em, fun b F1 H1 f1 s1 l1 t1 => ⟨a, F1, s, rfl, s1, t1, f1, l1, h.later (mbd_ok em) f1 l1, h.eq (mbd_ok em)⟩⟩
theorem FromS.ret {f : Flow} (h : FromS c (mret f) Wx σ F H ss D) (s : SR c F H σ ss) : FlowR c D H f σ ss F H := by
  rcases h with ⟨a, s', e, q⟩ | ⟨j, w', s', e, q⟩
  · cases e
    exact q σ F H .refl s .refl
  · cases e
theorem FromS.retE {f : Flow} {σ' : L2.St} {ss' : Slots} {F' : Addr → Prop} {H' : Hp} (h : FromS c (fun _ => some (.ok f ss')) Wx σ F H ss D) (fm : Fm F H (OwnA σ ss) F' H' (OwnA σ' ss')) (s : SR c F' H' σ' ss') (l : Ln σ ss σ' ss') : FlowR c D H f σ' ss' F' H' := by
  rcases h with ⟨a, s', e, q⟩ | ⟨j, w', s', e, q⟩
  · cases e
    exact q σ' F' H' fm s l
  · cases e
/-! ### blocks -/
theorem simB_nil : SimB c X [] sPass := fun Wx _ => PSs.imp pss_nil fun D σ H h => by
  obtain ⟨F, ss, s, h⟩ := h
  exact h.ret s
theorem sim_pass {pos : Pos} : SimS c X (.Pass pos) sPass := fun Wx _ => PS.imp ps_pass fun D σ H h => by
  obtain ⟨F, ss, s, h⟩ := h
  exact h.ret s
theorem sim_brk {pos : Pos} : SimS c X (.Break pos) sBrk := fun Wx _ => PS.imp ps_break fun D σ H h => by
  obtain ⟨F, ss, s, h⟩ := h
  exact h.ret s
theorem sim_cont {pos : Pos} : SimS c X (.Continue pos) sCont := fun Wx _ => PS.imp ps_continue fun D σ H h => by
  obtain ⟨F, ss, s, h⟩ := h
  exact h.ret s
/-- never reached -/
theorem sim_stuck {st : Stmt} : SimS c X st stuck := fun Wx _ => PS.imp ps_never fun D σ H h => by
  obtain ⟨F, ss, s, h⟩ := h
  rcases h with ⟨a, s', e, q⟩ | ⟨j, w', s', e, q⟩ <;> cases e
theorem simB_stuck {st : List Stmt} : SimB c X st stuck := fun Wx _ => PSs.imp pss_never fun D σ H h => by
  obtain ⟨F, ss, s, h⟩ := h
  rcases h with ⟨a, s', e, q⟩ | ⟨j, w', s', e, q⟩ <;> cases e
theorem FromS.seq {a b : M Flow} (h : FromS c (sSeq a b) Wx σ F H ss D) : FromS c a Wx σ F H ss { D with nx := tS c b Wx D } := by
  cases em : a ss with
  | none =>
    have z : sSeq a b ss = none := by unfold sSeq mbd; rw [em]
    rcases h with ⟨a, s, e, _⟩ | ⟨j, w, s, e, _⟩ <;> rw [z] at e <;> cases e
  | some r =>
    cases r with
    | exc k w s =>
      have z : sSeq a b ss = some (.exc k w s) := by unfold sSeq mbd; rw [em]
      rcases h with ⟨a, s', e, _⟩ | ⟨j, w', s', e, q⟩
      · rw [z] at e
        cases e
      · rw [z] at e
        cases e
        exact .inr ⟨k, w, s, em, q⟩
    | ok f s =>
      have z : sSeq a b ss = (match f with | .nx => b | f => mret f) s := mbd_ok em
      refine .inl ⟨f, s, em, fun σ1 F1 H1 f1 s1 l1 => ?_⟩
      have go : ∀ g : Flow, sSeq a b ss = some (.ok g s) → FlowR c D H g σ1 s F1 H1 := fun g e => by
        rcases h with ⟨a', s', e', q⟩ | ⟨j, w', s', e', q⟩
        · rw [e] at e'
          cases e'
          exact q σ1 F1 H1 f1 s1 l1
        · rw [e] at e'
          cases e'
      cases f with
      | nx => exact ⟨F1, s, s1, h.later z f1 l1⟩
      | brk => exact go .brk z
      | cont => exact go .cont z
      | ret o w => exact go (.ret o w) z
theorem simB_cons {st : Stmt} {sts : List Stmt} {a b : M Flow} (h : SimS c X st a) (t : SimB c X sts b) : SimB c X (st :: sts) (sSeq a b) := fun Wx tk =>
  PSs.imp (pss_cons (h Wx tk) (t Wx tk)) fun D σ H q => by
    obtain ⟨F, ss, s, q⟩ := q
    exact ⟨F, ss, s, q.seq⟩
/-! ### names are bound -/
theorem FromS.store {i : Nat} {t t' : Slot} (h : FromS c (mbd (VI.store i t') fun _ => mret Flow.nx) Wx σ F H ss D) (e : ss[i]? = some t) : free t = true ∧ FromS c (fun _ => some (.ok .nx (ss.set i t'))) Wx σ F H ss D := by
  cases ef : free t with
  | false =>
    have z : (mbd (VI.store i t') fun _ => mret Flow.nx) ss = none := by
      unfold mbd VI.store
      rw [e]
      dsimp only
      rw [ef]
      rfl
    rcases h with ⟨a, s, e', _⟩ | ⟨j, w, s, e', _⟩ <;> rw [z] at e' <;> cases e'
  | true =>
    refine ⟨rfl, h.eq ?_⟩
    unfold mbd VI.store
    rw [e]
    dsimp only
    rw [ef]
    rfl
theorem store_there {i : Nat} {t' : Slot} (h : FromS c (mbd (VI.store i t') fun _ => mret Flow.nx) Wx σ F H ss D) : ∃ t, ss[i]? = some t := by
  cases e : ss[i]? with
  | some t => exact ⟨t, rfl⟩
  | none =>
    have z : (mbd (VI.store i t') fun _ => mret Flow.nx) ss = none := by
      unfold mbd VI.store
      rw [e]
    rcases h with ⟨a, s, e', _⟩ | ⟨j, w, s, e', _⟩ <;> rw [z] at e' <;> cases e'
/-- slot i gets a value that others see -/
theorem SR.put (s : SR c F H σ ss) {i : Nat} {w : W} {v : V} (r : RepF c F H w v) : SR c F H (σ.set i (some v)) (ss.set i (.fr false w)) ∧ ∀ a, OwnA (σ.set i (some v)) (ss.set i (.fr false w)) a → OwnA σ ss a := by
  have sub : ∀ a, OwnA (σ.set i (some v)) (ss.set i (.fr false w)) a → OwnA σ ss a := fun a ⟨j, t, h1, h2, h3⟩ => by
    rcases get_set h1 with ⟨rfl, rfl⟩ | ⟨n, h1⟩
    · cases h2
    · rcases get_set h3 with ⟨z, _⟩ | ⟨_, h3⟩
      · exact absurd z n
      · exact ⟨j, t, h1, h2, h3⟩
  refine ⟨⟨by rw [List.length_set, List.length_set]; exact s.len, fun j t ov h1 h2 => ?_, fun b hb z => s.nf b (sub b hb) z, fun j k t u b h1 h2 h3 h4 h5 h6 => ?_, fun b hl hb => ?_, s.live⟩, sub⟩
  · rcases get_set h1 with ⟨rfl, rfl⟩ | ⟨n, h1⟩
    · rcases get_set h2 with ⟨_, rfl⟩ | ⟨n, _⟩
      · exact ⟨v, rfl, r⟩
      · exact absurd rfl n
    · rcases get_set h2 with ⟨z, _⟩ | ⟨_, h2⟩
      · exact absurd z n
      · exact s.rel j t ov h1 h2
  · rcases get_set h1 with ⟨rfl, rfl⟩ | ⟨n, h1⟩
    · cases h3
    · rcases get_set h2 with ⟨rfl, rfl⟩ | ⟨n2, h2⟩
      · cases h4
      · rcases get_set h5 with ⟨z, _⟩ | ⟨_, h5⟩
        · exact absurd z n
        · rcases get_set h6 with ⟨z, _⟩ | ⟨_, h6⟩
          · exact absurd z n2
          · exact s.inj j k t u b h1 h2 h3 h4 h5 h6
  · obtain ⟨j, w', h1, h2, h3⟩ := hl
    rcases get_set h1 with ⟨rfl, z⟩ | ⟨n, h1⟩
    · cases z
    · rcases get_set h3 with ⟨z, _⟩ | ⟨_, h3⟩
      · exact absurd z n
      · exact s.lk b ⟨j, w', h1, h2, h3⟩ (sub b hb)
/-- slot i gets a thing that nobody else has -/
theorem SR.putO (s : SR c F H σ ss) {i : Nat} {w : W} {a : Addr} (r : OwnAt c F H a w) (nF : ¬ F a) (nB : ¬ Busy σ ss a) : SR c F H (σ.set i (some (.ref a))) (ss.set i (.own false w)) ∧ ∀ b, OwnA (σ.set i (some (.ref a))) (ss.set i (.own false w)) b → OwnA σ ss b ∨ b = a := by
  have sub : ∀ b, OwnA (σ.set i (some (.ref a))) (ss.set i (.own false w)) b → OwnA σ ss b ∨ b = a := fun b ⟨j, t, h1, h2, h3⟩ => by
    rcases get_set h3 with ⟨_, z⟩ | ⟨n, h3⟩
    · cases z
      exact .inr rfl
    · rcases get_set h1 with ⟨z, _⟩ | ⟨_, h1⟩
      · exact absurd z n
      · exact .inl ⟨j, t, h1, h2, h3⟩
  refine ⟨⟨by rw [List.length_set, List.length_set]; exact s.len, fun j t ov h1 h2 => ?_, fun b hb z => ?_, fun j k t u b h1 h2 h3 h4 h5 h6 => ?_, fun b hl hb => ?_, s.live⟩, sub⟩
  · rcases get_set h1 with ⟨rfl, rfl⟩ | ⟨n, h1⟩
    · rcases get_set h2 with ⟨_, rfl⟩ | ⟨n, _⟩
      · exact ⟨a, rfl, r⟩
      · exact absurd rfl n
    · rcases get_set h2 with ⟨z, _⟩ | ⟨_, h2⟩
      · exact absurd z n
      · exact s.rel j t ov h1 h2
  · rcases sub b hb with h | h
    · exact s.nf b h z
    · rw [h] at z
      exact nF z
  · rcases get_set h5 with ⟨e1, z1⟩ | ⟨n, h5⟩
    · rcases get_set h6 with ⟨e2, _⟩ | ⟨n2, h6⟩
      · rw [e1, e2]
      · cases z1
        rcases get_set h2 with ⟨z, _⟩ | ⟨_, h2⟩
        · exact absurd z n2
        · exact absurd (.inl ⟨k, u, h2, h4, h6⟩) nB
    · rcases get_set h1 with ⟨z, _⟩ | ⟨_, h1⟩
      · exact absurd z n
      · rcases get_set h6 with ⟨e2, z2⟩ | ⟨n2, h6⟩
        · cases z2
          exact absurd (.inl ⟨j, t, h1, h3, h5⟩) nB
        · rcases get_set h2 with ⟨z, _⟩ | ⟨_, h2⟩
          · exact absurd z n2
          · exact s.inj j k t u b h1 h2 h3 h4 h5 h6
  · obtain ⟨j, w', h1, h2, h3⟩ := hl
    rcases get_set h1 with ⟨_, z⟩ | ⟨n, h1⟩
    · cases z
    · rcases get_set h3 with ⟨z, _⟩ | ⟨_, h3⟩
      · exact absurd z n
      · rcases sub b hb with h | h
        · exact s.lk b ⟨j, w', h1, h2, h3⟩ h
        · rw [h] at h3
          exact nB (.inr ⟨j, w', h1, h2, h3⟩)
theorem Ln.put {i : Nat} {t t' : Slot} {v : Option V} (e : ss[i]? = some t) (f : free t = true) (n : ∀ w, t' ≠ .lk w := by exact fun w z => by cases z) : Ln σ ss (σ.set i v) (ss.set i t') := ⟨fun j u h1 hf => by
  by_cases z : j = i
  · subst z
    rw [e] at h1
    cases h1
    rw [f] at hf
    cases hf
  · exact ⟨List.getElem?_set_ne (Ne.symm z), u, by rw [List.getElem?_set_ne (Ne.symm z)]; exact h1, Nfr.refl hf⟩, fun j w h => by
  rcases get_set h with ⟨_, z⟩ | ⟨_, h⟩
  · exact absurd z.symm (n w)
  · exact h⟩
theorem Fm.sub {O O' : Addr → Prop} (h : ∀ a, O' a → O a) : Fm F H O F H O' := ⟨fun _ _ h _ _ => h, fun _ o h n => ⟨o, h, n⟩, fun _ h => h, fun _ h => .inl h, fun a z => .inl (h a z)⟩
theorem Fm.more {O O1 O' F' : Addr → Prop} {H' : Hp} {a : Addr} (f : Fm F H O F' H' O1) (sub : ∀ b, O' b → O1 b ∨ b = a) (n : Fr H a) : Fm F H O F' H' O' :=
  ⟨f.keep, f.live, f.mono, f.fnew, fun b hb => by
    rcases sub b hb with h | h
    · exact f.onew b h
    · rw [h]
      exact .inr n⟩
theorem sim_asg {i : Nat} {x : Str} {e : Expr} {m : M W} {pos pos' : Pos} (he : SimE c X e m) (hN : X.N.Nodup) (hi : X.N[i]? = some x := by rfl) (hx : Loc X.env.scope x := by first | exact Or.inl rfl | exact Or.inr rfl) (hs : swapsWith e (some (.Name x pos')) pos.line X.env = pure false := by rfl)
    (hf : X.fn x = true ∨ X.env.scope.names.lookup x = some .local := by first | exact .inl rfl | exact .inr rfl) : SimS c X (.Assign [.Name x pos'] e pos) (sAsg i m) := fun Wx tk =>
  PS.imp (ps_set hN hi hx (he Wx tk) hs hf) fun D σ H q => by
    obtain ⟨F, ss, s, q⟩ := q
    refine ⟨F, ss, s, (FromS.bind (U := rF c) q).mono fun v H1 ⟨w, F1, ss1, em, s1, u1, f1, l1, h3, hr⟩ => ?_⟩
    obtain ⟨t, e⟩ := store_there h3
    obtain ⟨ft, h4⟩ := h3.store e
    obtain ⟨s2, sub⟩ := s1.put (i := i) u1
    exact h4.retE (Fm.sub sub) s2 (.put e ft)
theorem sim_asgO {i : Nat} {x : Str} {e : Expr} {m : M W} {pos pos' : Pos} (he : SimO c X e m) (hN : X.N.Nodup) (hi : X.N[i]? = some x := by rfl) (hx : Loc X.env.scope x := by first | exact Or.inl rfl | exact Or.inr rfl) (hs : swapsWith e (some (.Name x pos')) pos.line X.env = pure false := by rfl)
    (hf : X.fn x = true ∨ X.env.scope.names.lookup x = some .local := by first | exact .inl rfl | exact .inr rfl) : SimS c X (.Assign [.Name x pos'] e pos) (sAsgO i m) := fun Wx tk =>
  PS.imp (ps_set hN hi hx (he Wx tk) hs hf) fun D σ H q => by
    obtain ⟨F, ss, s, q⟩ := q
    refine ⟨F, ss, s, (FromS.bind (U := rO c) q).mono fun v H1 ⟨w, F1, ss1, em, s1, u1, f1, l1, h3, hr⟩ => ?_⟩
    obtain ⟨t, e⟩ := store_there h3
    obtain ⟨ft, h4⟩ := h3.store e
    have go : (∃ a, v = .ref a ∧ Fr H a ∧ ¬ F1 a ∧ ¬ Busy σ ss1 a ∧ OwnAt c F1 H1 a w) → ownS w = .own false w → D.nx (σ.set i (some v)) H1 := fun ⟨a, ev, n, nF, nB, ow⟩ eo => by
      subst ev
      obtain ⟨s2, sub⟩ := s1.putO (i := i) ow nF nB
      have em : (mbd (VI.store i (ownS w)) fun _ => mret Flow.nx) ss1 = some (.ok .nx (ss1.set i (.own false w))) := by
        rw [← eo]
        unfold mbd VI.store
        rw [e]
        dsimp only
        rw [ft]
        rfl
      have h5 : FromS c (fun _ => some (.ok .nx (ss1.set i (.own false w)))) Wx σ F H ss D := hr.eq em
      exact h5.retE (f1.more sub n) s2 (l1.trans (.put e ft))
    have gf : RepF c F1 H1 w v → ownS w = .fr false w → D.nx (σ.set i (some v)) H1 := fun r eo => by
      rw [eo] at h4
      obtain ⟨s2, sub⟩ := s1.put (i := i) r
      exact h4.retE (Fm.sub sub) s2 (.put e ft)
    cases w with
    | lst ws => exact go u1 rfl
    | dct ks ws => exact go u1 rfl
    | _ => exact gf u1 rfl
theorem simB_one {st : Stmt} {a : M Flow} (h : SimS c X st a) : SimB c X [st] a := fun Wx tk => pss_one (h Wx tk)
end
end VI

set_option Elab.async false
set_option linter.all false
set_option maxRecDepth 100000
set_option maxHeartbeats 1000000
/-! VI, part 9: more statements: what is dropped, handed back, tested, changed in place. -/
namespace VI
open PySem L2
section
variable {c : Cn} {X : Cx} {Wx : WX} {σ : L2.St} {F : Addr → Prop} {H : Hp} {ss : Slots} {D : Ends} {e : Expr} {m : M W} {pos : Pos}
theorem sim_expr (he : SimE c X e m) (hs : swapsWith e none pos.line X.env = pure false := by rfl) : SimS c X (.Expr e pos) (sExpr m) := fun Wx tk =>
  PS.imp (ps_expr (he Wx tk) hs) fun D σ H q => by
    obtain ⟨F, ss, s, q⟩ := q
    exact ⟨F, ss, s, (FromS.bind (U := rF c) q).mono fun v H1 ⟨w, F1, ss1, em, s1, u1, f1, l1, h3, hr⟩ => h3.ret s1⟩
theorem sim_ret (he : SimE c X e m) : SimS c X (.Return (some e) pos) (sRet m) := fun Wx tk =>
  PS.imp (ps_ret (he Wx tk)) fun D σ H q => by
    obtain ⟨F, ss, s, q⟩ := q
    refine ⟨F, ss, s, (FromS.bind (U := rF c) q).mono fun v H1 ⟨w, F1, ss1, em, s1, u1, f1, l1, h3, hr⟩ => h3.ret s1 v ?_⟩
    unfold RetR
    rw [if_neg (fun z => absurd z.1 Bool.false_ne_true)]
    exact u1
theorem sim_retO (he : SimO c X e m) : SimS c X (.Return (some e) pos) (sRetO m) := fun Wx tk =>
  PS.imp (ps_ret (he Wx tk)) fun D σ H q => by
    obtain ⟨F, ss, s, q⟩ := q
    refine ⟨F, ss, s, (FromS.bind (U := rO c) q).mono fun v H1 ⟨w, F1, ss1, em, s1, u1, f1, l1, h3, hr⟩ => ?_⟩
    have z : FlowR c D H (.ret true w) σ ss1 F1 H1 := FromS.retE (hr.eq rfl) f1 s1 l1
    refine z v ?_
    unfold RetR
    cases w with
    | lst ws =>
      obtain ⟨a, ev, n, nF, nB, ow⟩ := u1
      rw [if_pos ⟨rfl, rfl⟩]
      exact ⟨a, ev, nF, ow, .inl ⟨n, nB⟩⟩
    | dct ks ws =>
      obtain ⟨a, ev, n, nF, nB, ow⟩ := u1
      rw [if_pos ⟨rfl, rfl⟩]
      exact ⟨a, ev, nF, ow, .inl ⟨n, nB⟩⟩
    | _ =>
      rw [if_neg (fun z => absurd z.2 Bool.false_ne_true)]
      exact u1
/-- return x -/
theorem sim_retV (i : Nat) {x : Str} {p : Pos} (hN : X.N[i]? = some x := by rfl) (hv : Vis X.env.scope x := by first | exact Or.inl rfl | exact Or.inr (Or.inl rfl) | exact Or.inr (Or.inr rfl)) (hd : (x == ("__debug__" : Str)) = false := by decide)
    (hcd : (x == ("__classdict__" : Str)) = false := by decide) : SimS c X (.Return (some (.Name x p)) pos) (sRetV i) := fun Wx tk =>
  PS.imp (ps_ret (pe_var (i := i) hN hv hd hcd)) fun D σ H q => by
    obtain ⟨F, ss, s, q⟩ := q
    have old : sRetV i ss = mbd (eVar i) (fun w => mret (.ret false w)) ss → tRet (tVar i) D σ H := fun ez => by
      have q2 := q.eq ez
      have q3 := (FromS.bind (U := rF c) q2)
      unfold From eVar at q3
      cases e : ss[i]? with
      | none =>
        rw [e] at q3
        rcases q3 with ⟨a, s', z, _⟩ | ⟨j, w, s', z, _⟩ <;> cases z
      | some t =>
        rw [e] at q3
        cases t with
        | no => rcases q3 with ⟨a, s', z, _⟩ | ⟨j, w, s', z, _⟩ <;> cases z
        | lk w => rcases q3 with ⟨a, s', z, _⟩ | ⟨j, w, s', z, _⟩ <;> cases z
        | fr l w =>
          obtain ⟨ov, e1, v, e2, r⟩ := s.get e
          subst e2
          rcases q3 with ⟨a, s', z, qq⟩ | ⟨j, w', s', z, _⟩
          · cases z
            obtain ⟨w', F1, ss1, _, s1, u1, f1, l1, h3, hr⟩ := qq v F H .refl s .refl r
            refine ⟨v, e1, h3.ret s1 v ?_⟩
            unfold RetR
            rw [if_neg (fun z => absurd z.1 Bool.false_ne_true)]
            exact u1
          · cases z
        | own l w =>
          obtain ⟨a, e1, s1, f1, r⟩ := s.freeze e
          rcases q3 with ⟨a', s', z, qq⟩ | ⟨j, w', s', z, _⟩
          · cases z
            obtain ⟨w', F1, ss1, _, s1, u1, f1, l1, h3, hr⟩ := qq _ _ H f1 s1 (.freeze s e) r
            refine ⟨.ref a, e1, h3.ret s1 _ ?_⟩
            unfold RetR
            rw [if_neg (fun z => absurd z.1 Bool.false_ne_true)]
            exact u1
          · cases z
    cases e : ss[i]? with
    | none => exact old (by unfold sRetV; rw [e])
    | some t =>
      cases t with
      | own l w =>
        cases l with
        | true => exact old (by unfold sRetV; rw [e])
        | false =>
          obtain ⟨ov, e1, a, e2, ow⟩ := s.get e
          subst e2
          have z : FlowR c D H (.ret true w) σ ss F H := FromS.retE (q.eq (n := fun _ => some (.ok (.ret true w) ss)) (by unfold sRetV; rw [e])) .refl s .refl
          refine ⟨.ref a, e1, z _ ?_⟩
          unfold RetR
          rw [if_pos ⟨rfl, ow.mutW⟩]
          exact ⟨a, rfl, s.nf a ⟨i, _, e, rfl, e1⟩, ow, .inr ⟨i, w, e, e1⟩⟩
      | _ => exact old (by unfold sRetV; rw [e])
theorem sim_retN : SimS c X (.Return none pos) (sRet (eC .non)) := fun Wx tk =>
  PS.imp ps_retN fun D σ H q => by
    obtain ⟨F, ss, s, q⟩ := q
    have z : FlowR c D H (.ret false .non) σ ss F H := FromS.retE (q.eq (n := fun _ => some (.ok (.ret false .non) ss)) rfl) .refl s .refl
    refine z .non ?_
    unfold RetR
    rw [if_neg (fun z => absurd z.1 Bool.false_ne_true)]
    exact rfl
theorem sim_if {T : Expr} {A B : List Stmt} {t : M Bool} {a b : M Flow} (ht : SimT c X T t) (ha : SimB c X A a) (hb : SimB c X B b) : SimS c X (.If T A B pos) (sIf t a b) := fun Wx tk =>
  PS.imp (ps_if (ht Wx tk) (ha Wx tk) (hb Wx tk)) fun D σ H q => by
    obtain ⟨F, ss, s, q⟩ := q
    refine ⟨F, ss, s, (FromS.bind (U := rB) q).mono fun k H1 ⟨k', F1, ss1, em, s1, u1, f1, l1, h3, hr⟩ => ?_⟩
    have u1 : k' = k := u1
    subst u1
    cases k' with
    | true => exact iteT ⟨F1, ss1, s1, h3⟩
    | false => exact iteF ⟨F1, ss1, s1, h3⟩
/-! ### targets -/
def FromG (c : Cn) (os : List Nat) (m : M Unit) (σ : L2.St) (F : Addr → Prop) (H : Hp) (ss : Slots) (Q : L2.St → Hp → Prop) : Prop :=
  ∃ ss', m ss = some (.ok () ss') ∧ ∀ (σ' : L2.St) (F' : Addr → Prop) (H' : Hp), Fm F H (OwnA σ ss) F' H' (OwnA σ' ss') → SR c F' H' σ' ss' → Ln σ ss σ' ss' → σ'.length = σ.length → (∀ j, j ∉ os → σ'[j]? = σ[j]?) → Q σ' H'
def tG (c : Cn) (t : Tg) : TG := fun v σ H Q => ∃ F ss w, SR c F H σ ss ∧ RepF c F H w v ∧ FromG c (tgIx t) (asg t w) σ F H ss Q
def tGs (c : Cn) (t : List Tg) : TGs := fun vs σ H Q => ∃ F ss ws, SR c F H σ ss ∧ RepFs c F H ws vs ∧ FromG c (tgIx (.many t)) (asgs t ws) σ F H ss Q
def SimG (c : Cn) (X : Cx) (tg : Expr) (t : Tg) : Prop := PG X tg (tG c t)
def SimGs (c : Cn) (X : Cx) (tgs : List Expr) (t : List Tg) : Prop := PGs X tgs (tGs c t)
theorem PG.imp {X : Cx} {e : Expr} {t t' : TG} (h : PG X e t) (k : ∀ v σ H Q, t' v σ H Q → t v σ H Q) : PG X e t' := ⟨fun pins s σ H v u Q I r q => h.run pins s σ H v u Q I r (k v σ H Q q)⟩
theorem PGs.imp {X : Cx} {e : List Expr} {t t' : TGs} (h : PGs X e t) (k : ∀ v σ H Q, t' v σ H Q → t v σ H Q) : PGs X e t' := ⟨fun pins s σ H v u Q I r q => h.run pins s σ H v u Q I r (k v σ H Q q)⟩
theorem simG_one {i : Nat} {x : Str} (hN : X.N.Nodup) (hi : X.N[i]? = some x := by rfl) (hx : Loc X.env.scope x := by first | exact Or.inl rfl | exact Or.inr rfl)
    (hf : X.fn x = true ∨ X.env.scope.names.lookup x = some .local := by first | exact .inl rfl | exact .inr rfl) : SimG c X (.Name x pos) (.one i) :=
  PG.imp (pg_name hN hi hx hf) fun v σ H Q h => by
    obtain ⟨F, ss, w, s, r, ss', e, q⟩ := h
    have e : VI.store i (.fr false w) ss = some (.ok () ss') := e
    unfold VI.store at e
    cases et : ss[i]? with
    | none =>
      rw [et] at e
      cases e
    | some t =>
      rw [et] at e
      dsimp only at e
      cases ef : free t with
      | false =>
        rw [ef] at e
        cases e
      | true =>
        rw [ef] at e
        cases e
        obtain ⟨s2, sub⟩ := s.put (i := i) r
        exact q _ F H (Fm.sub sub) s2 (.put et ef) (by rw [List.length_set]) fun j hj => List.getElem?_set_ne fun z => hj (by rw [z]; exact List.mem_singleton.mpr rfl)
theorem simGs_nil : SimGs c X [] [] := PGs.imp pgs_nil fun vs σ H Q h => by
  obtain ⟨F, ss, ws, s, r, ss', e, q⟩ := h
  cases ws with
  | nil =>
    cases e
    exact ⟨r, q σ F H .refl s .refl rfl fun _ _ => rfl⟩
  | cons w ws => cases e
theorem FromG.bind {Q : L2.St → Hp → Prop} {m : M Unit} {n : M Unit} {os os1 os2 : List Nat} (h : FromG c os (mbd m fun _ => n) σ F H ss Q) (hos : os = os1 ++ os2) : FromG c os1 m σ F H ss fun σ1 H1 => ∃ F1 ss1, SR c F1 H1 σ1 ss1 ∧ Fm F H (OwnA σ ss) F1 H1 (OwnA σ1 ss1) ∧ FromG c os2 n σ1 F1 H1 ss1 Q := by
  obtain ⟨ss', e, q⟩ := h
  cases em : m ss with
  | none =>
    unfold mbd at e
    rw [em] at e
    cases e
  | some r =>
    cases r with
    | exc k w s =>
      unfold mbd at e
      rw [em] at e
      cases e
    | ok a s =>
      rw [mbd_ok em] at e
      subst hos
      exact ⟨s, em, fun σ1 F1 H1 f1 s1 l1 n1 t1 => ⟨F1, s, s1, f1, ss', e, fun σ2 F2 H2 f2 s2 l2 n2 t2 => q σ2 F2 H2 (f1.trans f2) s2 (l1.trans l2) (n2.trans n1) fun j hj => by
        rw [List.mem_append] at hj
        exact (t2 j fun z => hj (.inr z)).trans (t1 j fun z => hj (.inl z))⟩⟩
theorem simGs_cons {a : Expr} {as : List Expr} {t : Tg} {ts : List Tg} (h : SimG c X a t) (k : SimGs c X as ts) (hs : (assignEach (a :: as) X.env).map (·.2) = assign a X.env :: (assignEach as X.env).map (·.2) := by rfl) : SimGs c X (a :: as) (t :: ts) :=
  PGs.imp (pgs_cons h k hs) fun vs σ H Q q => by
    obtain ⟨F, ss, ws, s, r, q⟩ := q
    cases ws with
    | nil =>
      obtain ⟨ss', e, _⟩ := q
      cases e
    | cons w ws =>
      obtain ⟨v, vr, e, r1, r2⟩ := r
      have q : FromG c (tgIx t ++ tgIx (.many ts)) (mbd (asg t w) fun _ => asgs ts ws) σ F H ss Q := q
      refine ⟨v, vr, e, F, ss, w, s, r1, ?_⟩
      obtain ⟨ss', e', q'⟩ := q.bind rfl
      refine ⟨ss', e', fun σ1 F1 H1 f1 s1 l1 n1 t1 => ?_⟩
      obtain ⟨F2, ss2, s2, f2, q2⟩ := q' σ1 F1 H1 f1 s1 l1 n1 t1
      exact ⟨F2, ss2, ws, s2, RepFs.kp (s.kp f2) _ _ r2, q2⟩
theorem simG_tup {es : List Expr} {k : Nat} {ts : List Tg} (hc : X.calm = true) (hK : X.K = c.K) (h : SimGs c X es ts) (hn : (assignEach es X.env).length = ts.length := by rfl) (hst : (assignEach es X.env).findIdx? (·.1) = none := by rfl) : SimG c X (.Tuple es k pos) (.many ts) :=
  PG.imp (pg_tup (n := ts.length) hc h hn hst) fun v σ H Q q => by
    obtain ⟨F, ss, w, s, r, q⟩ := q
    cases w with
    | tup ws =>
      obtain ⟨a, vs, e, e1, e2⟩ := r
      refine ⟨a, vs, e, by rw [hK]; exact e1, ?_, F, ss, ws, s, e2, q⟩
      rw [← e2.length]
      obtain ⟨ss', e', _⟩ := q
      have len : ∀ (ts : List Tg) (ws : List W) (ss ss' : Slots), asgs ts ws ss = some (.ok () ss') → ws.length = ts.length := by
        intro ts
        induction ts with
        | nil =>
          intro ws ss ss' h
          cases ws with
          | nil => rfl
          | cons w ws => cases h
        | cons t ts ih =>
          intro ws ss ss' h
          cases ws with
          | nil => cases h
          | cons w ws =>
            have h : mbd (asg t w) (fun _ => asgs ts ws) ss = some (.ok () ss') := h
            unfold mbd at h
            cases em : asg t w ss with
            | none =>
              rw [em] at h
              cases h
            | some r =>
              rw [em] at h
              cases r with
              | exc k w s => cases h
              | ok a s => rw [List.length_cons, List.length_cons, ih ws s ss' h]
      exact len ts ws ss ss' e'
    | _ =>
      obtain ⟨ss', e', _⟩ := q
      cases e'
theorem calm_ok {α : Type} {m : M α} {a : α} {s : Slots} (h : m ss = some (.ok a s)) : calm m ss = some (.ok a s) := by
  unfold calm
  rw [h]
/-- targets first -/
theorem calm_G {g : M Unit} {n : M Flow} (h : FromS c (mbd (calm g) fun _ => n) Wx σ F H ss D) : ∃ ss', g ss = some (.ok () ss') ∧ FromS c (fun _ => n ss') Wx σ F H ss D := by
  cases et : g ss with
  | none =>
    have z : mbd (calm g) (fun _ => n) ss = none := by unfold mbd calm; rw [et]
    rcases h with ⟨a, s, e, _⟩ | ⟨j, w, s, e, _⟩ <;> rw [z] at e <;> cases e
  | some r =>
    cases r with
    | exc k w' s' =>
      have z : mbd (calm g) (fun _ => n) ss = none := by unfold mbd calm; rw [et]
      rcases h with ⟨a, s, e, _⟩ | ⟨j, w, s, e, _⟩ <;> rw [z] at e <;> cases e
    | ok a s' => exact ⟨s', rfl, h.eq (mbd_ok (calm_ok et))⟩
/-- a, b = e -/
theorem sim_unp {tg : Expr} {t : Tg} (he : SimE c X e m) (hg : SimG c X tg t) (hs : swapsWithSole [tg] e pos.line X.env = pure false := by rfl) (hw : swappedStores [tg] e X.env = pure none := by rfl)
    (h1 : (assignEach [tg] X.env).map (·.2) = [assign tg X.env] := by rfl) : SimS c X (.Assign [tg] e pos) (sUnp t m) := fun Wx tk =>
  PS.imp (ps_asg (he Wx tk) hg hs hw h1) fun D σ H q => by
    obtain ⟨F, ss, s, q⟩ := q
    refine ⟨F, ss, s, (FromS.bind (U := rF c) q).mono fun v H1 ⟨w, F1, ss1, em, s1, u1, f1, l1, h3, hr⟩ => ⟨F1, ss1, w, s1, u1, ?_⟩⟩
    obtain ⟨s', e', h4⟩ := calm_G h3
    exact ⟨s', e', fun σ' F' H' f' sr' l' _ _ => FromS.retE (h4.eq (n := fun _ => some (.ok .nx s')) rfl) f' sr' l'⟩
end
end VI

set_option Elab.async false
set_option linter.all false
set_option maxRecDepth 100000
set_option maxHeartbeats 1000000
/-! VI, part 10: lists changed in place; x op= e. -/
namespace VI
open PySem L2
section
variable {c : Cn} {X : Cx} {Wx : WX} {σ : L2.St} {F : Addr → Prop} {H : Hp} {ss : Slots} {D : Ends} {e : Expr} {m : M W} {pos : Pos}
theorem own_L {i : Nat} {r : R (List W)} (s : SR c F H σ ss) (h : ownL i ss = some r) : ∃ l xs a vs, r = .ok xs ss ∧ ss[i]? = some (.own l (.lst xs)) ∧ σ[i]? = some (some (.ref a)) ∧ H a = some (.lst vs) ∧ RepFs c F H xs vs := by
  unfold ownL at h
  cases e : ss[i]? with
  | none =>
    rw [e] at h
    cases h
  | some t =>
    rw [e] at h
    cases t with
    | own l w =>
      cases w with
      | lst xs =>
        cases h
        obtain ⟨ov, e1, a, e2, vs, e3, r⟩ := s.get e
        subst e2
        exact ⟨l, xs, a, vs, rfl, rfl, e1, e3, r⟩
      | _ => cases h
    | _ => cases h
/-- a list of one's own at a is changed -/
theorem SR.write (s : SR c F H σ ss) {i : Nat} {l : Bool} {xs ys : List W} {a : Addr} {vs us : List V} (e : ss[i]? = some (.own l (.lst xs))) (e1 : σ[i]? = some (some (.ref a))) (e2 : H a = some (.lst vs)) (r : RepFs c F H ys us) :
    SR c F (upd H a (.lst us)) σ (ss.set i (.own l (.lst ys))) ∧ Fm F H (OwnA σ ss) F (upd H a (.lst us)) (OwnA σ (ss.set i (.own l (.lst ys)))) ∧ Ln σ ss σ (ss.set i (.own l (.lst ys))) := by
  have hO : OwnA σ ss a := ⟨i, _, e, rfl, e1⟩
  have hl := (List.getElem?_eq_some_iff.mp e).1
  have f : Fm F H (OwnA σ ss) F (upd H a (.lst us)) (OwnA σ ss) := ⟨fun b o h n _ => by
      have nb : b ≠ a := fun z => by
        rw [z] at n
        exact n hO
      rw [upd_ne nb]
      exact h, fun b o h n => by
      by_cases z : b = a
      · rw [z]
        exact ⟨_, upd_same, fun _ z => by cases z⟩
      · exact ⟨o, by rw [upd_ne z]; exact h, n⟩, fun _ h => h, fun _ h => .inl h, fun _ h => .inl h⟩
  have k := s.kp f
  have same : ∀ b, OwnA σ (ss.set i (.own l (.lst ys))) b → OwnA σ ss b := fun b ⟨j, t, h1, h2, h3⟩ => by
    rcases get_set h1 with ⟨rfl, _⟩ | ⟨_, h1⟩
    · exact ⟨_, _, e, rfl, h3⟩
    · exact ⟨j, t, h1, h2, h3⟩
  have other : ∀ {b : Addr} {w : W}, OwnAt c F H b w → b ≠ a → OwnAt c F (upd H a (.lst us)) b w := fun {b w} h n => by
    cases w with
    | lst ws =>
      obtain ⟨zs, h1, h2⟩ := h
      exact ⟨zs, by rw [upd_ne n]; exact h1, RepFs.kp k _ _ h2⟩
    | dct ks ws =>
      obtain ⟨zs, ⟨h0, h1⟩, h2⟩ := h
      have h1' : DctAt (upd H a (.lst us)) b ks zs := by
        rcases h1 with ⟨kvs, h1, r⟩ | ⟨kvs, h1, r⟩
        · refine .inl ⟨kvs, ?_, r⟩
          unfold Rd
          rw [upd_ne n]
          exact h1
        · refine .inr ⟨kvs, ?_, r⟩
          unfold Rd
          rw [upd_ne n]
          exact h1
      exact ⟨zs, ⟨by rw [upd_ne n]; exact h0, h1'⟩, RepFs.kp k _ _ h2⟩
    | _ => exact (show False from h).elim
  refine ⟨⟨by rw [List.length_set]; exact s.len, fun j t ov h1 h2 => ?_, fun b hb => s.nf b (same b hb), fun j n t u b h1 h2 h3 h4 h5 h6 => ?_, fun b hl hb => ?_, ⟨fun b hb => ?_, tabs_upd s.live.2 e2⟩⟩, ⟨f.keep, f.live, f.mono, f.fnew, fun b hb => .inl (same b hb)⟩, ⟨fun j t h1 hf => ⟨rfl, ?_⟩, fun j w h1 => ?_⟩⟩
  · rcases get_set h1 with ⟨rfl, rfl⟩ | ⟨n, h1⟩
    · rw [e1] at h2
      cases h2
      exact ⟨a, rfl, us, upd_same, RepFs.kp k _ _ r⟩
    · have q := s.rel j t ov h1 h2
      cases t with
      | no => trivial
      | fr l' w =>
        obtain ⟨v, ev, q⟩ := q
        exact ⟨v, ev, RepF.kp k _ _ q⟩
      | own l' w =>
        obtain ⟨b, ev, q⟩ := q
        subst ev
        exact ⟨b, rfl, other q fun z => by
          rw [z] at h2
          exact n (s.inj j i _ _ a h1 e rfl rfl h2 e1)⟩
      | lk w =>
        obtain ⟨v, ev, q⟩ := q
        refine ⟨v, ev, ?_⟩
        rcases q with q | ⟨b, eb, q⟩
        · exact .inl (RepF.kp k _ _ q)
        · refine .inr ⟨b, eb, other q fun z => ?_⟩
          rw [ev, eb, z] at h2
          exact s.lk a ⟨j, w, h1, q.mutW, h2⟩ hO
  · have fix : ∀ {j : Nat} {t : Slot}, (ss.set i (.own l (.lst ys)))[j]? = some t → isOwn t = true → ∃ t', ss[j]? = some t' ∧ isOwn t' = true := fun {j t} h1 h3 => by
      rcases get_set h1 with ⟨rfl, _⟩ | ⟨_, h1⟩
      · exact ⟨_, e, rfl⟩
      · exact ⟨t, h1, h3⟩
    obtain ⟨t', g1, g2⟩ := fix h1 h3
    obtain ⟨u', g3, g4⟩ := fix h2 h4
    exact s.inj j n t' u' b g1 g3 g2 g4 h5 h6
  · obtain ⟨j, w, h1, h2, h3⟩ := hl
    rcases get_set h1 with ⟨_, z⟩ | ⟨_, h1⟩
    · cases z
    · exact s.lk b ⟨j, w, h1, h2, h3⟩ (same b hb)
  · obtain ⟨o, ho, no⟩ := s.live.1 b hb
    have nb : b ≠ a := fun z => by
      rw [z] at hb
      exact s.nf a hO hb
    exact ⟨o, by rw [upd_ne nb]; exact ho, no⟩
  · by_cases z : j = i
    · subst z
      rw [e] at h1
      cases h1
      refine ⟨_, List.getElem?_set_self hl, ?_⟩
      cases l
      · cases hf
      · exact .inl ⟨_, rfl⟩
    · exact ⟨t, by rw [List.getElem?_set_ne (Ne.symm z)]; exact h1, Nfr.refl hf⟩
  · rcases get_set h1 with ⟨_, z⟩ | ⟨_, h1⟩
    · cases z
    · exact h1
theorem putL_ok {i : Nat} {l : Bool} {xs ys : List W} (e : ss[i]? = some (.own l (.lst xs))) : putL i ys ss = some (.ok () (ss.set i (.own l (.lst ys)))) := by
  unfold putL
  rw [e]
theorem own_first {i : Nat} {f : List W → M Flow} (h : FromS c (mbd (ownL i) f) Wx σ F H ss D) (s : SR c F H σ ss) : ∃ l xs a vs, ss[i]? = some (.own l (.lst xs)) ∧ σ[i]? = some (some (.ref a)) ∧ H a = some (.lst vs) ∧ RepFs c F H xs vs ∧ FromS c (f xs) Wx σ F H ss D := by
  cases eo : ownL i ss with
  | none =>
    have z : mbd (ownL i) f ss = none := by unfold mbd; rw [eo]
    rcases h with ⟨a, s, e, _⟩ | ⟨j, w, s, e, _⟩ <;> rw [z] at e <;> cases e
  | some r =>
    obtain ⟨l, xs, a, vs, er, e1, e2, e3, q⟩ := own_L s eo
    subst er
    exact ⟨l, xs, a, vs, e1, e2, e3, q, h.eq (mbd_ok eo)⟩
theorem FromS.no {m : M Flow} (h : FromS c m Wx σ F H ss D) (e : m ss = none) : False := by
  rcases h with ⟨a, s, e', _⟩ | ⟨j, w, s, e', _⟩ <;> rw [e] at e' <;> cases e'
/-- x.append(e) -/
theorem sim_app (i : Nat) {x : Str} {p apos cpos : Pos} (he : SimE c X e m) (hN : X.N[i]? = some x := by rfl) (hv : Vis X.env.scope x := by first | exact Or.inl rfl | exact Or.inr (Or.inl rfl) | exact Or.inr (Or.inr rfl)) (hd : (x == ("__debug__" : Str)) = false := by decide)
    (hcd : (x == ("__classdict__" : Str)) = false := by decide) (hbase : attributeBase (.Name x p) "append" X.env (eval (.Name x p) X.env) = eval (.Name x p) X.env := by rfl)
    (hfew : ((backTo cpos (starEach [e] X.env)).all (fun x => !x.1) && (backToKw cpos (keywordEach [] X.env)).all (fun x => x.1.isSome)
      && decide ([e].length + ([] : List Keyword).length + (if ([] : List Keyword).isEmpty then 0 else 1) < 30)) = true := by rfl)
    (hline : (apos.endLine == cpos.line) = true := by rfl) (hs : starEach [e] X.env = (false, eval e X.env) :: starEach [] X.env := by rfl)
    (hsw : swapsWith (.Call (.Attribute (.Name x p) "append" apos) [e] [] cpos) none pos.line X.env = pure false := by rfl) : SimS c X (.Expr (.Call (.Attribute (.Name x p) "append" apos) [e] [] cpos) pos) (sApp i m) := fun Wx tk =>
  PS.imp (ps_expr (pe_bm PySem.F.plainAttrs_list PySem.F.slot_list_append PySem.F.type_list_append mt_append (pe_var (i := i) hN hv hd hcd) (pa_cons (he Wx tk) pa_nil hs) hbase hfew hline hs rfl) hsw) fun D σ H q => by
    obtain ⟨F, ss, s, q⟩ := q
    obtain ⟨l0, xs0, a, vs0, e1, e2, e3, r0, q1⟩ := own_first q s
    refine ⟨.ref a, e2, .inl ⟨rfl, vs0, .of e3⟩, F, ss, s, (FromS.bind (U := rF c) q1).mono fun v H1 ⟨w, F1, ss1, em, s1, u1, f1, l1, h3, hr⟩ => ?_⟩
    obtain ⟨l, xs, b, vs, e4, e5, e6, r1, q2⟩ := own_first h3 s1
    rw [e2] at e5
    cases e5
    split at q2
    · rename_i hlen
      have r2 : RepFs c F1 H1 (xs ++ [w]) (vs ++ [v]) := r1.app ⟨v, [], rfl, u1, rfl⟩
      obtain ⟨s2, f2, l2⟩ := s1.write e4 e2 e6 r2
      refine ⟨a, vs, v, rfl, rfl, e6, ?_, ?_⟩
      · rw [← r1.length]
        exact Nat.lt_of_lt_of_le hlen (sizeLine_big (Nat.le_refl _))
      · exact FromS.retE (q2.eq (n := fun _ => some (.ok .nx (ss1.set i (.own l (.lst (xs ++ [w])))))) (mbd_ok (putL_ok e4))) f2 s2 l2
    · exact (q2.no rfl).elim
/-- x.extend(e), e a list -/
theorem sim_ext (i : Nat) {x : Str} {p apos cpos : Pos} (he : SimE c X e m) (hN : X.N[i]? = some x := by rfl) (hv : Vis X.env.scope x := by first | exact Or.inl rfl | exact Or.inr (Or.inl rfl) | exact Or.inr (Or.inr rfl)) (hd : (x == ("__debug__" : Str)) = false := by decide)
    (hcd : (x == ("__classdict__" : Str)) = false := by decide) (hbase : attributeBase (.Name x p) "extend" X.env (eval (.Name x p) X.env) = eval (.Name x p) X.env := by rfl)
    (hfew : ((backTo cpos (starEach [e] X.env)).all (fun x => !x.1) && (backToKw cpos (keywordEach [] X.env)).all (fun x => x.1.isSome)
      && decide ([e].length + ([] : List Keyword).length + (if ([] : List Keyword).isEmpty then 0 else 1) < 30)) = true := by rfl)
    (hline : (apos.endLine == cpos.line) = true := by rfl) (hs : starEach [e] X.env = (false, eval e X.env) :: starEach [] X.env := by rfl)
    (hsw : swapsWith (.Call (.Attribute (.Name x p) "extend" apos) [e] [] cpos) none pos.line X.env = pure false := by rfl) : SimS c X (.Expr (.Call (.Attribute (.Name x p) "extend" apos) [e] [] cpos) pos) (sExt i m) := fun Wx tk =>
  PS.imp (ps_expr (pe_bm PySem.F.plainAttrs_list PySem.F.slot_list_extend PySem.F.type_list_extend mt_extend (pe_var (i := i) hN hv hd hcd) (pa_cons (he Wx tk) pa_nil hs) hbase hfew hline hs rfl) hsw) fun D σ H q => by
    obtain ⟨F, ss, s, q⟩ := q
    obtain ⟨l0, xs0, a, vs0, e1, e2, e3, r0, q1⟩ := own_first q s
    refine ⟨.ref a, e2, .inl ⟨rfl, vs0, .of e3⟩, F, ss, s, (FromS.bind (U := rF c) q1).mono fun v H1 ⟨w, F1, ss1, em, s1, u1, f1, l1, h3, hr⟩ => ?_⟩
    obtain ⟨l, xs, b, vs, e4, e5, e6, r1, q2⟩ := own_first h3 s1
    rw [e2] at e5
    cases e5
    cases w with
    | lst ys =>
      obtain ⟨b, us, eb, _, e7, r3⟩ := u1
      subst eb
      dsimp only at q2
      split at q2
      · rename_i hlen
        have r2 : RepFs c F1 H1 (xs ++ ys) (vs ++ us) := r1.app r3
        obtain ⟨s2, f2, l2⟩ := s1.write e4 e2 e6 r2
        refine ⟨a, b, vs, us, rfl, rfl, e6, e7, ?_, ?_⟩
        · rw [← r1.length, ← r3.length]
          exact sizeLine_big hlen
        · exact FromS.retE (q2.eq (n := fun _ => some (.ok .nx (ss1.set i (.own l (.lst (xs ++ ys)))))) (mbd_ok (putL_ok e4))) f2 s2 l2
      · exact (q2.no rfl).elim
    | _ => exact (q2.no rfl).elim
/-- x[k] = e, x a list -/
theorem sim_setL (i : Nat) {x : Str} {p spos : Pos} {k : Expr} {mk : M W} (he : SimE c X e m) (hk : SimE c X k mk) (hN : X.N[i]? = some x := by rfl) (hv : Vis X.env.scope x := by first | exact Or.inl rfl | exact Or.inr (Or.inl rfl) | exact Or.inr (Or.inr rfl)) (hd : (x == ("__debug__" : Str)) = false := by decide)
    (hcd : (x == ("__classdict__" : Str)) = false := by decide)
    (ha : ∀ v, assign (.Subscript (.Name x p) k spos) X.env v = (do
      let ov ← holding [v] (eval (.Name x p) X.env)
      let iv ← holding [v, ov] (eval k X.env)
      standAt spos
      holding [v, ov, iv] (setItem ov iv v)
      release [v, ov, iv] []) := by intro _; rfl)
    (hs : swapsWithSole [.Subscript (.Name x p) k spos] e pos.line X.env = pure false := by rfl) (hw : swappedStores [.Subscript (.Name x p) k spos] e X.env = pure none := by rfl)
    (h1 : (assignEach [.Subscript (.Name x p) k spos] X.env).map (·.2) = [assign (.Subscript (.Name x p) k spos) X.env] := by rfl) : SimS c X (.Assign [.Subscript (.Name x p) k spos] e pos) (sSetL i mk m) := fun Wx tk =>
  PS.imp (ps_asg (he Wx tk) (pg_sub (pe_var (i := i) hN hv hd hcd) (hk Wx tk) set_list ha) hs hw h1) fun D σ H q => by
    obtain ⟨F, ss, s, q⟩ := q
    refine ⟨F, ss, s, (FromS.bind (U := rF c) q).mono fun v H1 ⟨w, F1, ss1, em, s1, u1, f1, l1, h3, hr⟩ => ?_⟩
    obtain ⟨l0, xs0, a, vs0, e1, e2, e3, r0, q1⟩ := own_first h3 s1
    refine ⟨.ref a, e2, F1, ss1, s1, (FromS.bind (U := rF c) q1).mono fun kv H2 ⟨wk, F2, ss2, em2, s2, u2, f2, l2, h4, hr2⟩ => ?_⟩
    obtain ⟨l, xs, b, vs, e4, e5, e6, r1, q2⟩ := own_first h4 s2
    rw [e2] at e5
    cases e5
    cases wk with
    | int j =>
      dsimp only at q2
      split at q2
      · rename_i n en
        have u1' : RepF c F2 H2 w v := RepF.kp (s1.kp f2) _ _ u1
        obtain ⟨s3, f3, l3⟩ := s2.write e4 e2 e6 (r1.set (i := n) u1')
        refine ⟨a, vs, j, n, rfl, u2, e6, ?_, ?_⟩
        · rw [← r1.length]
          exact en
        · exact FromS.retE (q2.eq (n := fun _ => some (.ok .nx (ss2.set i (.own l (.lst (xs.set n w)))))) (mbd_ok (putL_ok e4))) f3 s3 l3
      · exact (q2.no rfl).elim
    | _ => exact (q2.no rfl).elim
/-- x op= e -/
theorem sim_aug {i : Nat} {x : Str} {op : Operator} {r : R2} {f : List W → Option W} {pos' : Pos} (he : SimE c X e m) (ho : OpR X (inplaceOp op) r) (ru : RuF c (r2 r) f) (hN : X.N.Nodup) (hi : X.N[i]? = some x := by rfl) (hx : Loc X.env.scope x := by first | exact Or.inl rfl | exact Or.inr rfl)
    (hf : X.fn x = true ∨ X.env.scope.names.lookup x = some .local := by first | exact .inl rfl | exact .inr rfl) : SimS c X (.AugAssign (.Name x pos') op e pos) (sAug i f m) := fun Wx tk =>
  PS.imp (ps_aug hN hi hx (he Wx tk) ho hf) fun D σ H q => by
    obtain ⟨F, ss, s, q⟩ := q
    cases e0 : ss[i]? with
    | none => exact (q.no (by unfold sAug; rw [e0])).elim
    | some t =>
      cases t with
      | fr l w =>
        cases l with
        | true => exact (q.no (by unfold sAug; rw [e0])).elim
        | false =>
          have q : FromS c (mbd m fun y => mbd (lift (f [w, y])) fun z => mbd (VI.store i (.fr false z)) fun _ => mret .nx) Wx σ F H ss D := q.eq (by unfold sAug; rw [e0])
          obtain ⟨ov, e1, v, e2, rv⟩ := s.get e0
          subst e2
          refine ⟨v, e1, F, ss, s, (FromS.bind (U := rF c) q).mono fun y H1 ⟨wy, F1, ss1, em, s1, u1, f1, l1, h3, hr⟩ => ?_⟩
          cases ef : f [w, wy] with
          | none => exact (h3.no (by unfold mbd lift; rw [ef]; rfl)).elim
          | some z =>
            have h4 : FromS c (mbd (VI.store i (.fr false z)) fun _ => mret .nx) Wx σ F1 H1 ss1 D := h3.eq (mbd_ok (m := lift (f [w, wy])) (a := z) (by unfold lift; rw [ef]; rfl))
            obtain ⟨t, et⟩ := store_there h4
            obtain ⟨ft, h5⟩ := h4.store et
            refine ru F1 H1 [v, y] [w, wy] z _ s1.liv ⟨v, [y], rfl, .inl (RepF.kp (s.kp f1) _ _ rv), y, [], rfl, .inl u1, rfl⟩ ef fun zv H2 e2 r2 => ?_
            obtain ⟨s2, sub⟩ := (s1.ext e2).put (i := i) r2
            exact h5.retE (e2.fm.trans (Fm.sub sub)) s2 (.put et ft)
      | _ => exact (q.no (by unfold sAug; rw [e0])).elim
end
end VI

set_option Elab.async false
set_option linter.all false
set_option maxRecDepth 100000
set_option maxHeartbeats 1000000
/-! VI, part 11: locks, iterators, loops. -/
namespace VI
open PySem L2
section
variable {c : Cn} {X : Cx} {Wx : WX} {σ σ' : L2.St} {F F' : Addr → Prop} {H H' : Hp} {ss ss' : Slots} {D : Ends} {e : Expr} {m : M W} {pos : Pos}
/-! ### locks -/
theorem SR.lock (s : SR c F H σ ss) {i : Nat} {l : Bool} {w : W} (e : ss[i]? = some (.own l w)) : ∃ a, σ[i]? = some (some (.ref a)) ∧ OwnAt c F H a w ∧ ¬ F a ∧ ¬ OwnA σ (ss.set i (.lk w)) a ∧ ¬ LkA σ ss a ∧ SR c F H σ (ss.set i (.lk w)) ∧ ∀ b, OwnA σ (ss.set i (.lk w)) b → OwnA σ ss b := by
  obtain ⟨ov, e1, a, e2, ow⟩ := s.get e
  subst e2
  have hO : OwnA σ ss a := ⟨i, _, e, rfl, e1⟩
  have sub : ∀ b, OwnA σ (ss.set i (.lk w)) b → OwnA σ ss b := fun b ⟨j, t, h1, h2, h3⟩ => by
    rcases get_set h1 with ⟨rfl, rfl⟩ | ⟨_, h1⟩
    · cases h2
    · exact ⟨j, t, h1, h2, h3⟩
  have nA : ¬ OwnA σ (ss.set i (.lk w)) a := fun ⟨j, t, h1, h2, h3⟩ => by
    rcases get_set h1 with ⟨rfl, rfl⟩ | ⟨n, h1⟩
    · cases h2
    · exact n (s.inj j i t _ a h1 e h2 rfl h3 e1)
  refine ⟨a, e1, ow, s.nf a hO, nA, fun z => s.lk a z hO, ⟨by rw [List.length_set]; exact s.len, fun j t ov h1 h2 => ?_, fun b hb => s.nf b (sub b hb), fun j k t u b h1 h2 h3 h4 h5 h6 => ?_, fun b hl hb => ?_, s.live⟩, sub⟩
  · rcases get_set h1 with ⟨rfl, rfl⟩ | ⟨_, h1⟩
    · rw [e1] at h2
      cases h2
      exact ⟨_, rfl, .inr ⟨a, rfl, ow⟩⟩
    · exact s.rel j t ov h1 h2
  · rcases get_set h1 with ⟨rfl, rfl⟩ | ⟨_, h1⟩
    · cases h3
    · rcases get_set h2 with ⟨rfl, rfl⟩ | ⟨_, h2⟩
      · cases h4
      · exact s.inj j k t u b h1 h2 h3 h4 h5 h6
  · obtain ⟨j, w', h1, h2, h3⟩ := hl
    rcases get_set h1 with ⟨rfl, z⟩ | ⟨n, h1⟩
    · rw [e1] at h3
      cases h3
      exact nA hb
    · exact s.lk b ⟨j, w', h1, h2, h3⟩ (sub b hb)
theorem OwnAt.keep {a : Addr} {w : W} (h : OwnAt c F H a w) (k : Kp F F' H H') (e : ∀ o, H a = some o → NoTb o → H' a = some o) : OwnAt c F' H' a w := by
  cases w with
  | lst ws =>
    obtain ⟨vs, h1, h2⟩ := h
    exact ⟨vs, e _ h1 (fun _ z => by cases z), RepFs.kp k _ _ h2⟩
  | dct ks ws =>
    obtain ⟨vs, ⟨⟨u, h1, m, n⟩, h3⟩, h2⟩ := h
    refine ⟨vs, ⟨⟨u, e _ h1 (noTb_mut m), m, n⟩, ?_⟩, RepFs.kp k _ _ h2⟩
    rcases h3 with ⟨kvs, h3 | ⟨o, h3⟩, r⟩ | ⟨kvs, h3 | ⟨o, h3⟩, r⟩
    · exact .inl ⟨kvs, .inl (e _ h3 (fun _ z => by cases z)), r⟩
    · exact .inl ⟨kvs, .inr ⟨o, e _ h3 (fun _ z => by cases z)⟩, r⟩
    · exact .inr ⟨kvs, .inl (e _ h3 (fun _ z => by cases z)), r⟩
    · exact .inr ⟨kvs, .inr ⟨o, e _ h3 (fun _ z => by cases z)⟩, r⟩
  | _ => exact h.elim
/-- the lock is taken away -/
theorem SR.unlock (s : SR c F H σ ss) {i : Nat} {l : Bool} {w : W} (e : ss[i]? = some (.own l w)) (s' : SR c F' H' σ' ss') (f : Fm F H (OwnA σ (ss.set i (.lk w))) F' H' (OwnA σ' ss')) (ln : Ln σ (ss.set i (.lk w)) σ' ss') :
    SR c F' H' σ' (ss'.set i (.own l w)) ∧ Fm F H (OwnA σ ss) F' H' (OwnA σ' (ss'.set i (.own l w))) ∧ Ln σ ss σ' (ss'.set i (.own l w)) := by
  obtain ⟨a, e1, ow, nF, nO, nL, sl, sub⟩ := s.lock e
  have hl := (List.getElem?_eq_some_iff.mp e).1
  have el : (ss.set i (.lk w))[i]? = some (.lk w) := List.getElem?_set_self hl
  obtain ⟨eσ, t, et, nt⟩ := ln.st i _ el rfl
  have et : ss'[i]? = some (.lk w) := by
    rw [et]
    exact congrArg some nt
  have hl' := (List.getElem?_eq_some_iff.mp et).1
  rw [e1] at eσ
  obtain ⟨u, hu, mu, _⟩ := ow.mut
  have ow' : OwnAt c F' H' a w := ow.keep (sl.kp f) fun o h t => f.keep a o h nO t
  have nF' : ¬ F' a := fun z => by
    rcases f.fnew a z with z | z | z
    · exact nF z
    · exact nO z
    · exact z.no hu (noTb_mut mu)
  have nO' : ¬ OwnA σ' ss' a := fun z => by
    rcases f.onew a z with z | z
    · exact nO z
    · exact z.no hu (noTb_mut mu)
  have sub' : ∀ b, OwnA σ' (ss'.set i (.own l w)) b → OwnA σ' ss' b ∨ b = a := fun b ⟨j, t, h1, h2, h3⟩ => by
    rcases get_set h1 with ⟨rfl, rfl⟩ | ⟨_, h1⟩
    · rw [eσ] at h3
      cases h3
      exact .inr rfl
    · exact .inl ⟨j, t, h1, h2, h3⟩
  have old : ∀ b, LkA σ' (ss'.set i (.own l w)) b → LkA σ ss b ∧ LkA σ' ss' b := fun b ⟨j, w', h1, h2, h3⟩ => by
    rcases get_set h1 with ⟨_, z⟩ | ⟨n, h1⟩
    · cases z
    · have h4 := ln.lk j w' h1
      have e4 := (ln.st j _ h4 rfl).1
      rcases get_set h4 with ⟨z, _⟩ | ⟨_, h4⟩
      · exact absurd z n
      · exact ⟨⟨j, w', h4, h2, by rw [← e4]; exact h3⟩, ⟨j, w', h1, h2, h3⟩⟩
  refine ⟨⟨by rw [List.length_set]; exact s'.len, fun j t ov h1 h2 => ?_, fun b hb => ?_, fun j k t u b h1 h2 h3 h4 h5 h6 => ?_, fun b hl hb => ?_, s'.live⟩, ⟨fun b o h n t => f.keep b o h (fun z => n (sub b z)) t, f.live, f.mono, fun b h => ?_, fun b h => ?_⟩, ⟨fun j t h1 hf => ?_, fun j w' h1 => ?_⟩⟩
  · rcases get_set h1 with ⟨rfl, rfl⟩ | ⟨_, h1⟩
    · rw [eσ] at h2
      cases h2
      exact ⟨a, rfl, ow'⟩
    · exact s'.rel j t ov h1 h2
  · rcases sub' b hb with h | rfl
    · exact s'.nf b h
    · exact nF'
  · rcases get_set h1 with ⟨z1, _⟩ | ⟨n1, g1⟩
    · rcases get_set h2 with ⟨z2, _⟩ | ⟨n2, g2⟩
      · rw [z1, z2]
      · rw [z1, eσ] at h5
        cases h5
        exact absurd ⟨k, u, g2, h4, h6⟩ nO'
    · rcases get_set h2 with ⟨z2, _⟩ | ⟨n2, g2⟩
      · rw [z2, eσ] at h6
        cases h6
        exact absurd ⟨j, t, g1, h3, h5⟩ nO'
      · exact s'.inj j k t u b g1 g2 h3 h4 h5 h6
  · obtain ⟨o1, o2⟩ := old b hl
    rcases sub' b hb with h | rfl
    · exact s'.lk b o2 h
    · exact nL o1
  · rcases f.fnew b h with h | h | h
    · exact .inl h
    · exact .inr (.inl (sub b h))
    · exact .inr (.inr h)
  · rcases sub' b h with h | rfl
    · exact (f.onew b h).imp (sub b) id
    · exact .inl ⟨i, _, e, rfl, e1⟩
  · by_cases z : j = i
    · subst z
      rw [e] at h1
      cases h1
      exact ⟨eσ.trans e1.symm, _, List.getElem?_set_self hl', Nfr.refl hf⟩
    · obtain ⟨e5, t', e6, n6⟩ := ln.st j t (by rw [List.getElem?_set_ne (Ne.symm z)]; exact h1) hf
      exact ⟨e5, t', by rw [List.getElem?_set_ne (Ne.symm z)]; exact e6, n6⟩
  · rcases get_set h1 with ⟨_, z⟩ | ⟨n, h1⟩
    · cases z
    · have h4 := ln.lk j w' h1
      rcases get_set h4 with ⟨z, _⟩ | ⟨_, h4⟩
      · exact absurd z n
      · exact h4
theorem lockd_own {α : Type} {m : M α} {i : Nat} {l : Bool} {w : W} (e : ss[i]? = some (.own l w)) : lockd i m ss = match m (ss.set i (.lk w)) with
    | none => none
    | some (.ok a s) => some (.ok a (s.set i (.own l w)))
    | some (.exc k v s) => some (.exc k v (s.set i (.own l w))) := by
  unfold lockd
  rw [e] <;> rfl
theorem lockd_not {α : Type} {m : M α} {i : Nat} (h : ∀ l w, ss[i]? ≠ some (.own l w)) : lockd i m ss = m ss := by
  unfold lockd
  split
  · rename_i l w e
    exact absurd e (h l w)
  · rfl
/-- lists and dicts that are busy behind the lock are busy within it -/
theorem busy_unlock {i : Nat} {l : Bool} {w : W} {a : Addr} (ew : ss'[i]? = some (.lk w)) (m : isMut w = true) (h : Busy σ (ss'.set i (.own l w)) a) : Busy σ ss' a := by
  rcases h with ⟨j, t, h1, h2, h3⟩ | ⟨j, w', h1, h2, h3⟩
  · rcases get_set h1 with ⟨rfl, rfl⟩ | ⟨_, h1⟩
    · exact .inr ⟨j, w, ew, m, h3⟩
    · exact .inl ⟨j, t, h1, h2, h3⟩
  · rcases get_set h1 with ⟨_, z⟩ | ⟨_, h1⟩
    · cases z
    · exact .inr ⟨j, w', h1, h2, h3⟩
theorem FromS.lockd {m : M Flow} {i : Nat} (s : SR c F H σ ss) (h : FromS c (VI.lockd i m) Wx σ F H ss D) : ∃ sl, SR c F H σ sl ∧ FromS c m Wx σ F H sl D := by
  by_cases own : ∃ l w, ss[i]? = some (.own l w)
  · obtain ⟨l, w, e⟩ := own
    obtain ⟨a, e1, ow, nF, nO, nL, sl, sub⟩ := s.lock e
    refine ⟨_, sl, ?_⟩
    have hl := (List.getElem?_eq_some_iff.mp e).1
    have ez := lockd_own (m := m) e
    cases em : m (ss.set i (.lk w)) with
    | none =>
      rw [em] at ez
      exact (h.no ez).elim
    | some r =>
      rw [em] at ez
      cases r with
      | exc k v s2 =>
        rcases h with ⟨f, s3, e3, q⟩ | ⟨k', v', s3, e3, q⟩
        · rw [ez] at e3
          cases e3
        · rw [ez] at e3
          cases e3
          refine .inr ⟨k, v, s2, em, fun cls d σ' F' H' f' sr' l' x => ?_⟩
          obtain ⟨g1, g2, g3⟩ := s.unlock e sr' f' l'
          exact q cls d σ' F' H' g2 g1 g3 x
      | ok fl s2 =>
        rcases h with ⟨f, s3, e3, q⟩ | ⟨k', v', s3, e3, q⟩
        · rw [ez] at e3
          cases e3
          refine .inl ⟨fl, s2, em, fun σ' F' H' f' sr' l' => ?_⟩
          obtain ⟨g1, g2, g3⟩ := s.unlock e sr' f' l'
          have z := q σ' F' H' g2 g1 g3
          cases fl with
          | nx => exact z
          | brk => exact z
          | cont => exact z
          | ret o w' =>
            refine fun v r => z v ?_
            have el : (ss.set i (.lk w))[i]? = some (.lk w) := List.getElem?_set_self hl
            obtain ⟨eσ, t, et, nt⟩ := l'.st i _ el rfl
            have et : s2[i]? = some (.lk w) := by
              rw [et]
              exact congrArg some nt
            unfold RetR at r ⊢
            split at r
            · rename_i y
              rw [if_pos y]
              obtain ⟨b, e5, n5, o5, q5⟩ := r
              refine ⟨b, e5, n5, o5, ?_⟩
              rcases q5 with ⟨q5, q6⟩ | ⟨j, w6, q5, q6⟩
              · exact .inl ⟨q5, fun y => q6 (busy_unlock et ow.mutW y)⟩
              · refine .inr ⟨j, w6, ?_, q6⟩
                rw [List.getElem?_set_ne fun y => ?_]
                · exact q5
                · rw [← y, et] at q5
                  cases q5
            · rename_i y
              rw [if_neg y]
              exact r
        · rw [ez] at e3
          cases e3
  · exact ⟨ss, s, h.eq (lockd_not fun l w z => own ⟨l, w, z⟩)⟩
theorem sim_lock {st : Stmt} {m : M Flow} (i : Nat) (h : SimS c X st m) : SimS c X st (VI.lockd i m) := fun Wx tk => PS.imp (h Wx tk) fun D σ H q => by
  obtain ⟨F, ss, s, q⟩ := q
  obtain ⟨sl, s1, q1⟩ := q.lockd s
  exact ⟨F, sl, s1, q1⟩
/-- how a value is told behind the lock -/
def Lks {α β : Type} (T : Rl α β) : Prop := ∀ (B B' : Bz) F H H' a b, (∀ x, B.own x ∨ B.lk x → B'.own x ∨ B'.lk x) → T B' F H H' a b → T B F H H' a b
theorem lks_F : Lks (rF c) := fun _ _ _ _ _ _ _ _ h => h
theorem lks_B : Lks rB := fun _ _ _ _ _ _ _ _ h => h
theorem lks_O : Lks (rO c) := fun B B' F H H' w v k h => by
  cases w with
  | lst ws =>
    obtain ⟨a, e, n, nF, nB, r⟩ := h
    exact ⟨a, e, n, nF, fun z => nB (k a z), r⟩
  | dct ks ws =>
    obtain ⟨a, e, n, nF, nB, r⟩ := h
    exact ⟨a, e, n, nF, fun z => nB (k a z), r⟩
  | _ => exact h
theorem From.lockd {α β : Type} {m : M α} {T : Rl α β} {Q : β → Hp → Prop} {i : Nat} (hT : Lks T) (s : SR c F H σ ss) (h : From c (VI.lockd i m) T Wx σ F H ss Q) : ∃ sl, SR c F H σ sl ∧ From c m T Wx σ F H sl Q := by
  by_cases own : ∃ l w, ss[i]? = some (.own l w)
  · obtain ⟨l, w, e⟩ := own
    obtain ⟨a, e1, ow, nF, nO, nL, sl, sub⟩ := s.lock e
    refine ⟨_, sl, ?_⟩
    have hl := (List.getElem?_eq_some_iff.mp e).1
    have ez := lockd_own (m := m) e
    cases em : m (ss.set i (.lk w)) with
    | none =>
      rw [em] at ez
      rcases h with ⟨f, s3, e3, q⟩ | ⟨k', v', s3, e3, q⟩ <;> rw [ez] at e3 <;> cases e3
    | some r =>
      rw [em] at ez
      cases r with
      | exc k v s2 =>
        rcases h with ⟨f, s3, e3, q⟩ | ⟨k', v', s3, e3, q⟩
        · rw [ez] at e3
          cases e3
        · rw [ez] at e3
          cases e3
          refine .inr ⟨k, v, s2, em, fun cls d F' H' f' sr' l' x => ?_⟩
          obtain ⟨g1, g2, g3⟩ := s.unlock e sr' f' l'
          exact q cls d F' H' g2 g1 g3 x
      | ok a2 s2 =>
        rcases h with ⟨f, s3, e3, q⟩ | ⟨k', v', s3, e3, q⟩
        · rw [ez] at e3
          cases e3
          refine .inl ⟨a2, s2, em, fun b F' H' f' sr' l' t => ?_⟩
          obtain ⟨g1, g2, g3⟩ := s.unlock e sr' f' l'
          have el : (ss.set i (.lk w))[i]? = some (.lk w) := List.getElem?_set_self hl
          obtain ⟨eσ, t', et, nt⟩ := l'.st i _ el rfl
          have et : s2[i]? = some (.lk w) := by
            rw [et]
            exact congrArg some nt
          exact q b F' H' g2 g1 g3 (hT (BZ σ (s2.set i (.own l w))) (BZ σ s2) _ _ _ _ _ (fun x y => (busy_unlock (l := l) et ow.mutW y : Busy σ s2 x)) t)
        · rw [ez] at e3
          cases e3
  · refine ⟨ss, s, ?_⟩
    have z := lockd_not (m := m) (i := i) (ss := ss) fun l w z => own ⟨l, w, z⟩
    unfold From at h ⊢
    rw [z] at h
    exact h
theorem sim_lockE (i : Nat) (h : SimE c X e m) : SimE c X e (VI.lockd i m) := fun Wx tk => PE.imp (h Wx tk) fun σ H Q q => by
  obtain ⟨F, ss, s, q⟩ := q
  obtain ⟨sl, s1, q1⟩ := q.lockd lks_F s
  exact ⟨F, sl, s1, q1⟩
theorem sim_lockO (i : Nat) (h : SimO c X e m) : SimO c X e (VI.lockd i m) := fun Wx tk => PE.imp (h Wx tk) fun σ H Q q => by
  obtain ⟨F, ss, s, q⟩ := q
  obtain ⟨sl, s1, q1⟩ := q.lockd lks_O s
  exact ⟨F, sl, s1, q1⟩
/-! ### what nobody changes -/
def rK (c : Cn) : Rl W V := fun B F' _ H' w v => RepF c F' H' w v ∨ ∃ a, v = .ref a ∧ OwnAt c F' H' a w ∧ ¬ B.own a
theorem early_K {c : Cn} : Early (rK c) := fun _ _ _ _ _ _ _ _ h => h
def SimK (c : Cn) (X : Cx) (e : Expr) (m : M W) : Prop := ∀ Wx, Takes X Wx → PE X e (tM c m (rK c) Wx)
theorem tM_T {α β : Type} {m : M α} {T T' : Rl α β} {Q : β → Hp → Prop} (h : tM c m T' Wx σ H Q) (k : ∀ B F H H' a b, T B F H H' a b → T' B F H H' a b) : tM c m T Wx σ H Q := by
  obtain ⟨F, ss, s, q⟩ := h
  refine ⟨F, ss, s, ?_⟩
  rcases q with ⟨a, s', e, q⟩ | q
  · exact .inl ⟨a, s', e, fun b F' H' h1 h2 h3 h4 => q b F' H' h1 h2 h3 (k _ _ _ _ _ _ h4)⟩
  · exact .inr q
theorem sim_K (h : SimE c X e m) : SimK c X e m := fun Wx tk => PE.imp (h Wx tk) fun σ H Q q => tM_T q fun _ _ _ _ _ _ z => .inl z
theorem sim_lk (i : Nat) {x : Str} (hN : X.N[i]? = some x := by rfl) (hv : Vis X.env.scope x := by first | exact Or.inl rfl | exact Or.inr (Or.inl rfl) | exact Or.inr (Or.inr rfl)) (hd : (x == ("__debug__" : Str)) = false := by decide)
    (hcd : (x == ("__classdict__" : Str)) = false := by decide) : SimK c X (.Name x pos) (eLk i) := fun Wx _ => PE.imp (pe_var hN hv hd hcd) fun σ H Q h => by
  obtain ⟨F, ss, s, h⟩ := h
  unfold From eLk at h
  cases e : ss[i]? with
  | none =>
    rw [e] at h
    rcases h with ⟨a, s', z, _⟩ | ⟨j, w, s', z, _⟩ <;> cases z
  | some t =>
    rw [e] at h
    cases t with
    | no => rcases h with ⟨a, s', z, _⟩ | ⟨j, w, s', z, _⟩ <;> cases z
    | own l w => rcases h with ⟨a, s', z, _⟩ | ⟨j, w, s', z, _⟩ <;> cases z
    | fr l w =>
      obtain ⟨ov, e1, v, e2, r⟩ := s.get e
      subst e2
      rcases h with ⟨a, s', z, q⟩ | ⟨j, w', s', z, _⟩
      · cases z
        exact ⟨v, e1, q v F H .refl s .refl (.inl r)⟩
      · cases z
    | lk w =>
      obtain ⟨ov, e1, v, e2, r⟩ := s.get e
      subst e2
      rcases h with ⟨a, s', z, q⟩ | ⟨j, w', s', z, _⟩
      · cases z
        refine ⟨v, e1, q v F H .refl s .refl ?_⟩
        rcases r with r | ⟨a, ev, ow⟩
        · exact .inl r
        · subst ev
          exact .inr ⟨a, rfl, ow, fun z => s.lk a ⟨i, w, e, ow.mutW, e1⟩ z⟩
      · cases z
/-! ### what a loop walks -/
/-- J walks ws, from now on -/
def Wk (c : Cn) (O F : Addr → Prop) (H : Hp) (ws : List W) (J : It) : Prop := ∃ (G : Hp → Prop) (Y : Nat → Hp → V → Hp → Prop), Walk J ws.length G Y ∧
  ∀ (F2 : Addr → Prop) (H2 : Hp) (O2 : Addr → Prop), Fm F H O F2 H2 O2 → Kp F F2 H H2 → G H2 ∧ ∀ (i : Nat) (x : V) (H3 : Hp), i < ws.length → Y i H2 x H3 → Ext H2 H3 ∧ ∃ w, ws[i]? = some w ∧ RepF c F2 H3 w x
def rI (c : Cn) : Rl (List W) It := fun B F' _ H' ws J => Wk c B.own F' H' ws J
theorem early_I {c : Cn} : Early (rI c) := fun _ _ _ _ _ _ _ _ h => h
def SimI (c : Cn) (X : Cx) (tg iter : Expr) (it : M (List W)) : Prop := ∀ Wx, Takes X Wx → PI X tg iter (tM c it (rI c) Wx)
theorem PI.imp {X : Cx} {tg e : Expr} {t t' : TI} (h : PI X tg e t) (k : ∀ σ H Q, t' σ H Q → t σ H Q) : PI X tg e t' := ⟨fun pins s σ H Q I q => h.run pins s σ H Q I (k σ H Q q)⟩
theorem PI.or {X : Cx} {tg e : Expr} {t t' : TI} (h : PI X tg e t) (h' : PI X tg e t') : PI X tg e (fun σ H Q => t σ H Q ∨ t' σ H Q) := ⟨fun pins s σ H Q I q => q.elim (h.run pins s σ H Q I) (h'.run pins s σ H Q I)⟩
theorem iter_read {ws : List W} {Q : It → Hp → Prop} (h : From c (lift (items (.lst ws))) (rI c) Wx σ F H ss Q) (s : SR c F H σ ss) {J : It} (k : Wk c (OwnA σ ss) F H ws J) : Q J H := by
  obtain ⟨a, e, q⟩ := From.lift h
  cases e
  exact q J F H .refl s k
def WkOf (c : Cn) (O F : Addr → Prop) (H : Hp) (v : V) (ws : List W) : W → Prop
  | .tup _ => ∃ a, v = .ref a ∧ (∃ xs, SqT c.K H a xs) ∧ Wk c O F H ws (Itt c.K a)
  | .str _ => ∃ z, v = .str z ∧ Wk c O F H ws (Its z)
  | _ => ∃ a, v = .ref a ∧ (∃ xs, SqL c.K H a xs) ∧ Wk c O F H ws (Itl c.K a)
theorem wk_lst {a : Addr} {vs : List V} {xs : List W} {O : Addr → Prop} (h1 : H a = some (.lst vs)) (h2 : RepFs c F H xs vs) (h3 : F a ∨ ¬ O a) : Wk c O F H xs (Itl c.K a) := by
  refine ⟨fun H2 => SqL c.K H2 a vs, YAt vs, by rw [h2.length]; exact walk_list, fun F2 H2 O2 f k => ⟨.inl (.inl ?_), fun i x H3 hi y => ?_⟩⟩
  · rcases h3 with h3 | h3
    · exact k.at_ a _ h1 (.inl h3)
    · exact f.keep a _ h1 h3 (fun _ z => by cases z)
  · obtain ⟨rfl, y⟩ := y
    exact ⟨.refl _, (RepFs.kp k _ _ h2).getV y⟩
theorem wk_tup {a : Addr} {vs : List V} {xs : List W} {O : Addr → Prop} (h1 : SqT c.K H a vs) (h2 : RepFs c F H xs vs) : Wk c O F H xs (Itt c.K a) := by
  refine ⟨fun H2 => SqT c.K H2 a vs, YAt vs, by rw [h2.length]; exact walk_tup, fun F2 H2 O2 f k => ⟨k.tup h1, fun i x H3 hi y => ?_⟩⟩
  obtain ⟨rfl, y⟩ := y
  exact ⟨.refl _, (RepFs.kp k _ _ h2).getV y⟩
theorem wk_scr {a : Addr} {ns : List Int} {O : Addr → Prop} (r : (∃ o, H a = some (.frz o (.lst (ns.map V.int)))) ∨ SqL c.K (fun _ => none) a (ns.map V.int)) : SqL c.K H a (ns.map V.int) ∧ Wk c O F H (ns.map .int) (Itl c.K a) := by
  have any : ∀ F2 H2, Kp F F2 H H2 → SqL c.K H2 a (ns.map V.int) := fun F2 H2 k => by
    rcases r with ⟨o, r⟩ | r
    · exact .inl (.inr ⟨o, k.at_ a _ r (.inr (.inr ⟨_, _, rfl⟩))⟩)
    · rcases r with (r | ⟨o, r⟩) | r
      · cases r
      · cases r
      · exact .inr r
  refine ⟨any F H .refl, fun H2 => SqL c.K H2 a (ns.map V.int), YAt (ns.map V.int), ?_, fun F2 H2 O2 f k => ⟨any F2 H2 k, fun i x H3 hi y => ?_⟩⟩
  · rw [show (ns.map W.int).length = (ns.map V.int).length by rw [List.length_map, List.length_map]]
    exact walk_list
  · obtain ⟨rfl, y⟩ := y
    refine ⟨.refl _, ?_⟩
    rw [List.getElem?_map] at y
    cases en : ns[i]? with
    | none =>
      rw [en] at y
      cases y
    | some n =>
      rw [en] at y
      cases y
      exact ⟨.int n, by rw [List.getElem?_map, en]; rfl, rfl⟩
/-- a list, a tuple or a text that is walked -/
theorem wk_seq {w : W} {v : V} {ws : List W} {O : Addr → Prop} (e : items w = some ws) (r : RepF c F H w v ∨ ∃ a, v = .ref a ∧ OwnAt c F H a w ∧ ¬ O a) : WkOf c O F H v ws w := by
  cases w with
  | lst xs =>
    cases e
    rcases r with ⟨a, vs, ev, hF, h1, h2⟩ | ⟨a, ev, ⟨vs, h1, h2⟩, nO⟩
    · exact ⟨a, ev, ⟨vs, .inl (.inl h1)⟩, wk_lst h1 h2 (.inl hF)⟩
    · exact ⟨a, ev, ⟨vs, .inl (.inl h1)⟩, wk_lst h1 h2 (.inr nO)⟩
  | tup xs =>
    cases e
    rcases r with ⟨a, vs, ev, h1, h2⟩ | ⟨a, ev, z, _⟩
    · exact ⟨a, ev, ⟨vs, h1⟩, wk_tup h1 h2⟩
    · exact z.elim
  | str l =>
    cases e
    rcases r with r | ⟨a, ev, z, _⟩
    · refine ⟨_, r, fun _ => True, _, by rw [List.length_map]; exact walk_str (z := mkS l), fun F2 H2 O2 f k => ⟨trivial, fun i x H3 hi y => ?_⟩⟩
      obtain ⟨rfl, ch, e1, e2⟩ := y
      refine ⟨.refl _, .str [ch], ?_, e2⟩
      rw [List.getElem?_map]
      have e1 : l.toArray[i]? = some ch := e1
      rw [List.getElem?_toArray] at e1
      rw [e1]
      rfl
    · exact z.elim
  | scr ns =>
    cases e
    rcases r with ⟨a, ev, r⟩ | ⟨a, ev, z, _⟩
    · obtain ⟨h1, h2⟩ := wk_scr (O := O) (F := F) r
      exact ⟨a, ev, ⟨_, h1⟩, h2⟩
    · exact z.elim
  | _ => cases e
theorem simI_ev {tg : Expr} (h : SimK c X e m) (hK : X.K = c.K := by rfl) : SimI c X tg e (iEv m) := fun Wx tk => by
  refine PI.imp (PI.or (pi_list (h Wx tk)) (PI.or (pi_tup (h Wx tk)) (pi_str (h Wx tk)))) fun σ H Q q => ?_
  rw [hK]
  obtain ⟨F, ss, s, q⟩ := q
  have q1 := From.bind (U := rK c) early_I q
  rcases q1 with ⟨w, ss1, em, q1⟩ | ⟨k, w, ss1, em, q1⟩
  · have go : ∀ (v : V) (F1 : Addr → Prop) (H1 : Hp), Fm F H (OwnA σ ss) F1 H1 (OwnA σ ss1) → SR c F1 H1 σ ss1 → Ln σ ss σ ss1 → rK c (BZ σ ss1) F1 H H1 w v → ∃ F2 ws, WkOf c (OwnA σ ss1) F2 H1 v ws w ∧ ∀ J, Wk c (OwnA σ ss1) F2 H1 ws J → Q J H1 := fun v F1 H1 f1 s1 l1 t1 => by
      obtain ⟨w', F2, ss2, em2, s2, u2, f2, l2, h2⟩ := q1 v F1 H1 f1 s1 l1 t1
      rw [em] at em2
      cases em2
      obtain ⟨ws, ew, k⟩ := From.lift h2
      exact ⟨F2, ws, wk_seq ew u2, fun J wk => k J F2 H1 .refl s2 wk⟩
    cases w with
    | tup xs =>
      refine .inr (.inl ⟨F, ss, s, .inl ⟨_, ss1, em, fun v F1 H1 f1 s1 l1 t1 => ?_⟩⟩)
      obtain ⟨F2, ws, ⟨a, ev, ex, wk⟩, k⟩ := go v F1 H1 f1 s1 l1 t1
      exact ⟨a, ev, ex, k _ wk⟩
    | str l =>
      refine .inr (.inr ⟨F, ss, s, .inl ⟨_, ss1, em, fun v F1 H1 f1 s1 l1 t1 => ?_⟩⟩)
      obtain ⟨F2, ws, ⟨a, ev, wk⟩, k⟩ := go v F1 H1 f1 s1 l1 t1
      exact ⟨a, ev, k _ wk⟩
    | _ =>
      refine .inl ⟨F, ss, s, .inl ⟨_, ss1, em, fun v F1 H1 f1 s1 l1 t1 => ?_⟩⟩
      obtain ⟨F2, ws, ⟨a, ev, ex, wk⟩, k⟩ := go v F1 H1 f1 s1 l1 t1
      exact ⟨a, ev, ex, k _ wk⟩
  · exact .inl ⟨F, ss, s, .inr ⟨k, w, ss1, em, q1⟩⟩
theorem upto_get : ∀ {n : Nat} {lo : Int} {i : Nat}, i < n → (upto lo n)[i]? = some (.int (lo + i))
  | n + 1, lo, 0, _ => by
    unfold upto
    simp
  | n + 1, lo, i + 1, h => by
    unfold upto
    rw [List.getElem?_cons_succ, upto_get (by omega)]
    congr 2
    omega
theorem upto_len : ∀ {n : Nat} {lo : Int}, (upto lo n).length = n
  | 0, _ => rfl
  | n + 1, lo => by
    unfold upto
    rw [List.length_cons, upto_len]
theorem wk_range {lo : Int} {n : Nat} {O : Addr → Prop} : Wk c O F H (upto lo n) (Itr lo n) := by
  refine ⟨fun _ => True, YFn fun i => .int (lo + i), by rw [upto_len]; exact walk_range, fun F2 H2 O2 f k => ⟨trivial, fun i x H3 hi y => ?_⟩⟩
  obtain ⟨rfl, rfl⟩ := y
  rw [upto_len] at hi
  exact ⟨.refl _, _, upto_get hi, rfl⟩
theorem rangeOk_le {i : Int} (h : rangeOk i = true) : -(2 ^ 62) ≤ i ∧ i < 2 ^ 62 := by
  unfold rangeOk at h
  rw [Bool.and_eq_true, decide_eq_true_iff, decide_eq_true_iff] at h
  obtain ⟨a, b⟩ := h
  constructor <;> omega
theorem simI_range1 {tg : Expr} {p : Pos} {a : Expr} {m : M W} (hm : X.mg "range" = none) (h : SimE c X a m) (hg : Gl X "range" := by rfl) (hs : starEach [a] X.env = [(false, eval a X.env)] := by rfl) : SimI c X tg (.Call (.Name "range" p) [a] [] pos) (iRange1 m) := fun Wx tk => by
  refine PI.imp (pi_range1 hg hm (pa_cons (h Wx tk) pa_nil hs) hs) fun σ H Q q => ?_
  obtain ⟨F, ss, s, q⟩ := q
  refine ⟨F, ss, s, (From.bind (U := rF c) early_I q).mono fun v H1 ⟨w, F1, ss1, em, s1, u1, f1, l1, h1⟩ => ?_⟩
  obtain ⟨ws, ew, k⟩ := From.lift h1
  cases w with
  | int n =>
    dsimp only at ew
    split at ew
    · rename_i hr
      cases ew
      obtain ⟨r1, r2⟩ := rangeOk_le hr
      have ev : v = .int n := u1
      subst ev
      exact ⟨n, rfl, r1, r2, k _ F1 H1 .refl s1 wk_range⟩
    · cases ew
  | _ => cases ew
theorem simI_range2 {tg : Expr} {p : Pos} {a b : Expr} {m n : M W} (hm : X.mg "range" = none) (h : SimE c X a m) (h' : SimE c X b n) (hg : Gl X "range" := by rfl) (hs : starEach [a, b] X.env = [(false, eval a X.env), (false, eval b X.env)] := by rfl) (hs2 : starEach [b] X.env = [(false, eval b X.env)] := by rfl) :
    SimI c X tg (.Call (.Name "range" p) [a, b] [] pos) (iRange2 m n) := fun Wx tk => by
  refine PI.imp (pi_range2 hg hm (pa_cons (h Wx tk) (pa_cons (h' Wx tk) pa_nil hs2) (by rw [hs, hs2])) hs hs2) fun σ H Q q => ?_
  obtain ⟨F, ss, s, q⟩ := q
  refine ⟨F, ss, s, (From.bind (U := rF c) early_I q).mono fun v H1 ⟨w, F1, ss1, em, s1, u1, f1, l1, h1⟩ => ?_⟩
  refine ⟨F1, ss1, s1, (From.bind (U := rF c) early_I h1).mono fun v' H2 ⟨w', F2, ss2, em2, s2, u2, f2, l2, h2⟩ => ?_⟩
  obtain ⟨ws, ew, k⟩ := From.lift h2
  cases w with
  | int i =>
    cases w' with
    | int j =>
      dsimp only at ew
      split at ew
      · rename_i hr
        rw [Bool.and_eq_true] at hr
        cases ew
        obtain ⟨r1, r2⟩ := rangeOk_le hr.1
        obtain ⟨r3, r4⟩ := rangeOk_le hr.2
        have ev : v = .int i := u1
        subst ev
        have ev : v' = .int j := u2
        subst ev
        exact ⟨i, j, rfl, ⟨r1, r2, r3, r4⟩, k _ F2 H2 .refl s2 wk_range⟩
      · cases ew
    | _ => cases ew
  | _ => cases ew
end
end VI

set_option Elab.async false
set_option linter.all false
set_option maxRecDepth 100000
set_option maxHeartbeats 1000000
/-! VI, part 12: for, while, list comprehensions. -/
namespace VI
open PySem L2
section
variable {c : Cn} {X : Cx} {Wx : WX} {σ σ' : L2.St} {F F' : Addr → Prop} {H H' : Hp} {ss ss' : Slots} {D : Ends} {e : Expr} {m : M W} {pos : Pos}
/-- one turn of a loop: A goes on -/
def turn (A : M Flow) (f : Flow) : M Flow := match f with
  | .nx => A
  | .cont => A
  | .brk => mret .nx
  | .ret o v => mret (.ret o v)
theorem FromS.turn {b A : M Flow} {P : L2.St → Hp → Prop} (h : FromS c (mbd b (VI.turn A)) Wx σ F H ss D) (k : ∀ σ' F' H' ss', SR c F' H' σ' ss' → Fm F H (OwnA σ ss) F' H' (OwnA σ' ss') → FromS c A Wx σ' F' H' ss' D → P σ' H') : FromS c b Wx σ F H ss { D with nx := P, ct := P, bk := D.nx } := by
  cases em : b ss with
  | none =>
    have z : mbd b (VI.turn A) ss = none := by unfold mbd; rw [em]
    exact (h.no z).elim
  | some r =>
    cases r with
    | exc k w s =>
      have z : mbd b (VI.turn A) ss = some (.exc k w s) := by unfold mbd; rw [em]
      rcases h with ⟨a, s', e, _⟩ | ⟨j, w', s', e, q⟩
      · rw [z] at e
        cases e
      · rw [z] at e
        cases e
        exact .inr ⟨k, w, s, em, q⟩
    | ok f s =>
      have z : mbd b (VI.turn A) ss = VI.turn A f s := mbd_ok em
      refine .inl ⟨f, s, em, fun σ1 F1 H1 f1 s1 l1 => ?_⟩
      cases f with
      | nx => exact k _ _ _ _ s1 f1 (h.later z f1 l1)
      | cont => exact k _ _ _ _ s1 f1 (h.later z f1 l1)
      | brk => exact (h.later z f1 l1).ret s1
      | ret o v =>
        rcases h with ⟨a', s', e', q⟩ | ⟨j, w', s', e', q⟩
        · rw [z] at e'
          cases e'
          exact q σ1 F1 H1 f1 s1 l1
        · rw [z] at e'
          cases e'
theorem turns_cons {tg : W → M Unit} {b : M Flow} {w : W} {ws : List W} : turns tg b (w :: ws) = mbd (calm (tg w)) fun _ => mbd b (VI.turn (turns tg b ws)) := by
  have e : VI.turn (turns tg b ws) = fun f => match f with
    | .nx => turns tg b ws
    | .cont => turns tg b ws
    | .brk => mret .nx
    | .ret o v => mret (.ret o v) := by
    funext f
    cases f <;> rfl
  rw [e]
  rfl
theorem while_succ {t : M Bool} {b : M Flow} {n : Nat} : sWhile t b (n + 1) = mbd t fun k => if k then mbd b (VI.turn (sWhile t b n)) else mret Flow.nx := by
  have e : VI.turn (sWhile t b n) = fun f => match f with
    | .nx => sWhile t b n
    | .cont => sWhile t b n
    | .brk => mret .nx
    | .ret o v => mret (.ret o v) := by
    funext f
    cases f <;> rfl
  rw [e]
  rfl
theorem Ln.lkA {a : Addr} (l : Ln σ ss σ' ss') (h : LkA σ' ss' a) : LkA σ ss a := by
  obtain ⟨j, w, h1, h2, h3⟩ := h
  have h4 := l.lk j w h1
  exact ⟨j, w, h4, h2, by rw [← (l.st j _ h4 rfl).1]; exact h3⟩
theorem Fm.notBusy {a : Addr} {o : HO} (f : Fm F H (OwnA σ ss) F' H' (OwnA σ' ss')) (l : Ln σ ss σ' ss') (n : ¬ Busy σ ss a) (h : H a = some o) (nt : NoTb o) : ¬ Busy σ' ss' a := fun z => by
  rcases z with z | z
  · rcases f.onew a z with z | z
    · exact n (.inl z)
    · exact z.no h nt
  · exact n (.inr (l.lkA z))
theorem Fm.notF {O O' : Addr → Prop} {a : Addr} {o : HO} (f : Fm F H O F' H' O') (n : ¬ F a) (nO : ¬ O a) (h : H a = some o) (nt : NoTb o) : ¬ F' a := fun z => by
  rcases f.fnew a z with z | z | z
  · exact n z
  · exact nO z
  · exact z.no h nt
theorem sim_for {tg iter : Expr} {body : List Stmt} {it : M (List W)} {t : Tg} {b : M Flow} (hp : PassesOwn (model X.prog X.w) X.A X.env X.xe) (hc : X.calm = true) (hi : SimI c X tg iter it) (hg : SimG c X tg t) (hb : SimB c X body b)
    (hs : ∀ x, foldedSetIterable iter X.env x = pure x := by intro _; rfl) : SimS c X (.For tg iter body [] pos) (sFor it (asg t) b) := fun Wx tk =>
  PS.imp (ps_for hp hc (hi Wx tk) hg (hb Wx tk) hs) fun D σ H q => by
    obtain ⟨F, ss, s, q⟩ := q
    refine ⟨F, ss, s, (FromS.bind (U := rI c) q).mono fun J H1 ⟨ws, F1, ss1, em, s1, u1, f1, l1, h3, hr⟩ => ?_⟩
    obtain ⟨G, Y, wk, k⟩ := u1
    refine for_it wk (fun i σ' H' => ∃ F' ss', SR c F' H' σ' ss' ∧ Fm F1 H1 (OwnA σ ss1) F' H' (OwnA σ' ss') ∧ FromS c (turns (asg t) b (ws.drop i)) Wx σ' F' H' ss' D) ⟨F1, ss1, s1, .refl, h3⟩ (fun i σ' H' hi ⟨F', ss', s', f', _⟩ => (k F' H' _ f' (s1.kp f')).1) (fun i x σ' H' H2 hi ⟨F', ss', s', f', h'⟩ y => ?_) (fun σ' H' ⟨F', ss', s', f', h'⟩ => ?_)
    · obtain ⟨e2, w, ew, r⟩ := (k F' H' _ f' (s1.kp f')).2 i x H2 hi y
      rw [List.drop_eq_getElem_cons hi, turns_cons] at h'
      have ew' : ws[i] = w := by
        rw [List.getElem?_eq_getElem hi] at ew
        exact Option.some.inj ew
      rw [ew'] at h'
      obtain ⟨s2, eg, h4⟩ := calm_G h'
      have h5 := h4.later (m' := fun _ => mbd b (VI.turn (turns (asg t) b (ws.drop (i + 1)))) s2) (ss1 := ss') rfl (e2.fm) .refl
      refine ⟨F', ss', w, s'.ext e2, r, s2, eg, fun σ3 F3 H3 f3 s3 l3 _ _ => ⟨F3, s2, s3, ?_⟩⟩
      refine FromS.turn (h5.later (m' := mbd b (VI.turn (turns (asg t) b (ws.drop (i + 1))))) rfl f3 l3) fun σ4 F4 H4 ss4 s4 f4 h6 => ?_
      exact ⟨F4, ss4, s4, f'.trans ((e2.fm.trans f3).trans f4), h6⟩
    · rw [List.drop_length] at h'
      exact h'.ret s'
theorem sim_while {T : Expr} {body : List Stmt} {t : M Bool} {b : M Flow} {n : Nat} (hp : PassesOwn (model X.prog X.w) X.A X.env X.xe) (ht : SimT c X T t) (hb : SimB c X body b) : SimS c X (.While T body [] pos) (sWhile t b n) := fun Wx tk =>
  PS.imp (ps_while hp (ht Wx tk) (hb Wx tk)) fun D σ H q => by
    refine ⟨fun m σ' H' => tS c (sWhile t b m) Wx D σ' H', ⟨n, q⟩, fun m σ' H' q => ?_⟩
    obtain ⟨F, ss, s, q⟩ := q
    cases m with
    | zero => exact (q.no rfl).elim
    | succ m =>
      rw [while_succ] at q
      refine ⟨F, ss, s, (FromS.bind (U := rB) q).mono fun k H1 ⟨k', F1, ss1, em, s1, u1, f1, l1, h3, hr⟩ => ?_⟩
      have u1 : k' = k := u1
      subst u1
      cases k' with
      | false => exact iteF (FromS.ret h3 s1)
      | true => exact iteT ⟨fun σ2 H2 => tS c (sWhile t b m) Wx D σ2 H2, fun σ2 H2 z => ⟨m, Nat.lt_succ_self m, z⟩, F1, ss1, s1, FromS.turn h3 fun σ4 F4 H4 ss4 s4 f4 h6 => ⟨F4, ss4, s4, h6⟩⟩
/-! ### comprehensions -/
theorem wipeS_out {α : Type} {j : Nat} : ∀ {os : List Nat} {ss : Slots}, j ∉ os → (VI.wipe os ss)[j]? = ss[j]?
  | [], _, _ => rfl
  | o :: os, ss, h => by
    have h1 : j ≠ o ∧ j ∉ os := by simpa using h
    show (VI.wipe os (ss.set o .no))[j]? = _
    rw [wipeS_out (α := α) h1.2, List.getElem?_set_ne (Ne.symm h1.1)]
theorem wipeS_in : ∀ {os : List Nat} {ss : Slots} {j : Nat} {t : Slot}, (VI.wipe os ss)[j]? = some t → (j ∈ os ∧ t = .no) ∨ (j ∉ os ∧ ss[j]? = some t)
  | [], _, _, _, h => .inr ⟨by simp, h⟩
  | o :: os, ss, j, t, h => by
    have h : (VI.wipe os (ss.set o .no))[j]? = some t := h
    rcases wipeS_in h with ⟨h1, h2⟩ | ⟨h1, h2⟩
    · exact .inl ⟨List.mem_cons_of_mem _ h1, h2⟩
    · rcases get_set h2 with ⟨rfl, h3⟩ | ⟨h3, h4⟩
      · exact .inl ⟨List.mem_cons_self, h3⟩
      · exact .inr ⟨by simp only [List.mem_cons, not_or]; exact ⟨h3, h1⟩, h4⟩
theorem wipeS_len : ∀ {os : List Nat} {ss : Slots}, (VI.wipe os ss).length = ss.length
  | [], _ => rfl
  | o :: os, ss => by
    show (VI.wipe os (ss.set o .no)).length = _
    rw [wipeS_len, List.length_set]
/-- own slots forgotten -/
theorem SR.wipe {os : List Nat} (s : SR c F H σ ss) (hf : os.all (freeAt ss) = true) : SR c F H (L2.wipe σ os) (VI.wipe os ss) ∧ (∀ a, OwnA (L2.wipe σ os) (VI.wipe os ss) a → OwnA σ ss a) ∧ Ln σ ss (L2.wipe σ os) (VI.wipe os ss) := by
  have sub : ∀ a, OwnA (L2.wipe σ os) (VI.wipe os ss) a → OwnA σ ss a := fun a ⟨j, t, h1, h2, h3⟩ => by
    rcases wipeS_in h1 with ⟨_, rfl⟩ | ⟨_, h1⟩
    · cases h2
    · exact ⟨j, t, h1, h2, (wipe_some h3).1⟩
  refine ⟨⟨by rw [wipe_length, wipeS_len]; exact s.len, fun j t ov h1 h2 => ?_, fun b hb => s.nf b (sub b hb), fun j k t u b h1 h2 h3 h4 h5 h6 => ?_, fun b hl hb => ?_, s.live⟩, sub, ⟨fun j t h1 h2 => ?_, fun j w h1 => ?_⟩⟩
  · rcases wipeS_in h1 with ⟨_, rfl⟩ | ⟨n, h1⟩
    · trivial
    · rw [wipe_out n] at h2
      exact s.rel j t ov h1 h2
  · rcases wipeS_in h1 with ⟨_, rfl⟩ | ⟨_, h1⟩
    · cases h3
    · rcases wipeS_in h2 with ⟨_, rfl⟩ | ⟨_, h2⟩
      · cases h4
      · exact s.inj j k t u b h1 h2 h3 h4 (wipe_some h5).1 (wipe_some h6).1
  · obtain ⟨j, w, h1, h2, h3⟩ := hl
    rcases wipeS_in h1 with ⟨_, z⟩ | ⟨_, h1⟩
    · cases z
    · exact s.lk b ⟨j, w, h1, h2, (wipe_some h3).1⟩ (sub b hb)
  · have n : j ∉ os := fun z => by
      have q := List.all_eq_true.mp hf j z
      unfold freeAt at q
      rw [h1] at q
      dsimp only at q
      rw [h2] at q
      cases q
    exact ⟨wipe_out n, t, by rw [wipeS_out (α := Unit) n]; exact h1, Nfr.refl h2⟩
  · rcases wipeS_in h1 with ⟨_, z⟩ | ⟨_, h1⟩
    · cases z
    · exact h1
/-- .. and all else as it was -/
theorem SR.unwipe {os : List Nat} (s : SR c F H (L2.wipe σ os) ss) (hn : ∀ i ∈ os, ∀ t, ss[i]? = some t → t = .no) : SR c F H σ ss ∧ (∀ a, OwnA (L2.wipe σ os) ss a ↔ OwnA σ ss a) ∧ ∀ a, LkA (L2.wipe σ os) ss a ↔ LkA σ ss a := by
  have out : ∀ {j : Nat} {t : Slot}, ss[j]? = some t → t ≠ .no → (L2.wipe σ os)[j]? = σ[j]? := fun {j t} h n => wipe_out fun z => n (hn j z t h)
  have oE : ∀ a, OwnA (L2.wipe σ os) ss a ↔ OwnA σ ss a := fun a => ⟨fun ⟨j, t, h1, h2, h3⟩ => ⟨j, t, h1, h2, by rw [← out h1 (fun z => by rw [z] at h2; cases h2)]; exact h3⟩, fun ⟨j, t, h1, h2, h3⟩ => ⟨j, t, h1, h2, by rw [out h1 (fun z => by rw [z] at h2; cases h2)]; exact h3⟩⟩
  have lE : ∀ a, LkA (L2.wipe σ os) ss a ↔ LkA σ ss a := fun a => ⟨fun ⟨j, t, h1, h2, h3⟩ => ⟨j, t, h1, h2, by rw [← out h1 (fun z => by cases z)]; exact h3⟩, fun ⟨j, t, h1, h2, h3⟩ => ⟨j, t, h1, h2, by rw [out h1 (fun z => by cases z)]; exact h3⟩⟩
  refine ⟨⟨by rw [← s.len, wipe_length], fun j t ov h1 h2 => ?_, fun b hb => s.nf b ((oE b).mpr hb), fun j k t u b h1 h2 h3 h4 h5 h6 => ?_, fun b hl hb => s.lk b ((lE b).mpr hl) ((oE b).mpr hb), s.live⟩, oE, lE⟩
  · by_cases z : t = .no
    · rw [z]
      trivial
    · exact s.rel j t ov h1 (by rw [out h1 z]; exact h2)
  · refine s.inj j k t u b h1 h2 h3 h4 ?_ ?_
    · rw [out h1 (fun z => by rw [z] at h3; cases h3)]
      exact h5
    · rw [out h2 (fun z => by rw [z] at h4; cases h4)]
      exact h6
theorem wipe_same {σ2 : L2.St} {os : List Nat} (hl : σ2.length = (L2.wipe σ os).length) (h : ∀ j, j ∉ os → σ2[j]? = (L2.wipe σ os)[j]?) : L2.wipe σ2 os = L2.wipe σ os := by
  have inn : ∀ {τ : L2.St} {j : Nat} {ov : Option V}, (L2.wipe τ os)[j]? = some ov → j ∈ os → ov = none := fun {τ j ov} h1 h2 => by
    cases ov with
    | none => rfl
    | some x => exact absurd h2 (wipe_some h1).2
  refine List.ext_getElem? fun j => ?_
  by_cases hj : j ∈ os
  · cases e : (L2.wipe σ os)[j]? with
    | none =>
      rw [List.getElem?_eq_none_iff] at e ⊢
      rw [wipe_length, hl]
      exact e
    | some ov =>
      have hlt := (List.getElem?_eq_some_iff.mp e).1
      have hlt2 : j < (L2.wipe σ2 os).length := by rw [wipe_length, hl]; exact hlt
      rw [inn e hj, List.getElem?_eq_getElem hlt2, inn (List.getElem?_eq_getElem hlt2) hj]
  · rw [wipe_out hj, h j hj]
/-- a thing that nobody knows is changed -/
theorem SR.upd (s : SR c F H σ ss) {a : Addr} {o : HO} (nF : ¬ F a) (nB : ¬ Busy σ ss a) (hm : ∃ vs, H a = some (.lst vs)) : SR c F (L2.upd H a o) σ ss ∧ Kp F F H (L2.upd H a o) := by
  have k : Kp F F H (L2.upd H a o) := ⟨fun b u h z => by
    have n : b ≠ a := fun y => by
      rw [y] at h z
      obtain ⟨vs, e⟩ := hm
      rw [h] at e
      cases e
      rcases z with z | ⟨_, z⟩ | ⟨_, _, z⟩
      · exact nF z
      · cases z
      · cases z
    rw [upd_ne n]
    exact h, fun _ h => h⟩
  have ow : ∀ {b : Addr} {w : W}, b ≠ a → OwnAt c F H b w → OwnAt c F (L2.upd H a o) b w := fun {b w} n h => h.keep k fun u e _ => by
    rw [upd_ne n]
    exact e
  refine ⟨⟨s.len, fun j t ov h1 h2 => ?_, s.nf, s.inj, s.lk, ⟨fun b hb => ?_, by obtain ⟨vs, e⟩ := hm; exact tabs_upd s.live.2 e⟩⟩, k⟩
  · have q := s.rel j t ov h1 h2
    cases t with
    | no => trivial
    | fr l w =>
      obtain ⟨v, ev, q⟩ := q
      exact ⟨v, ev, RepF.kp k _ _ q⟩
    | own l w =>
      obtain ⟨b, ev, q⟩ := q
      subst ev
      exact ⟨b, rfl, ow (fun z => by subst z; exact nB (.inl ⟨j, _, h1, rfl, h2⟩)) q⟩
    | lk w =>
      obtain ⟨v, ev, q⟩ := q
      refine ⟨v, ev, ?_⟩
      rcases q with q | ⟨b, eb, q⟩
      · exact .inl (RepF.kp k _ _ q)
      · subst eb
        subst ev
        exact .inr ⟨b, rfl, ow (fun z => by subst z; exact nB (.inr ⟨j, w, h1, q.mutW, h2⟩)) q⟩
  · obtain ⟨u, hu, nu⟩ := s.live.1 b hb
    by_cases z : b = a
    · rw [z] at hb
      exact absurd hb nF
    · exact ⟨u, by rw [upd_ne z]; exact hu, nu⟩
def SimTs (c : Cn) (X : Cx) (es : List Expr) (m : M Bool) : Prop := ∀ Wx, Takes X Wx → PTs X es (tM c m rB Wx)
theorem PTs.imp {X : Cx} {e : List Expr} {t t' : TT} (h : PTs X e t) (k : ∀ σ H Q, t' σ H Q → t σ H Q) : PTs X e t' := ⟨fun pins s σ H Q I q => h.run pins s σ H Q I (k σ H Q q)⟩
theorem simTs_nil : SimTs c X [] (mret true) := fun Wx _ => PTs.imp pts_nil fun σ H Q h => by
  obtain ⟨F, ss, s, h⟩ := h
  exact h.ret s rfl
theorem simTs_one {T : Expr} {t : M Bool} (h : SimT c X T t) : SimTs c X [T] t := fun Wx tk => pts_one (h Wx tk)
theorem From.calm {α β : Type} {m : M α} {T : Rl α β} {Q : β → Hp → Prop} (h : From c (VI.calm m) T Wx σ F H ss Q) : ∃ a ss', m ss = some (.ok a ss') ∧ ∀ (b : β) (F' : Addr → Prop) (H' : Hp), Fm F H (OwnA σ ss) F' H' (OwnA σ ss') → SR c F' H' σ ss' → Ln σ ss σ ss' → T (BZ σ ss') F' H H' a b → Q b H' := by
  cases em : m ss with
  | none =>
    have z : VI.calm m ss = none := by unfold VI.calm; rw [em]
    rcases h with ⟨f, s3, e3, q⟩ | ⟨k', v', s3, e3, q⟩ <;> rw [z] at e3 <;> cases e3
  | some r =>
    cases r with
    | exc k w s =>
      have z : VI.calm m ss = none := by unfold VI.calm; rw [em]
      rcases h with ⟨f, s3, e3, q⟩ | ⟨k', v', s3, e3, q⟩ <;> rw [z] at e3 <;> cases e3
    | ok a s =>
      rcases h with ⟨f, s3, e3, q⟩ | ⟨k', v', s3, e3, q⟩ <;> rw [calm_ok em] at e3 <;> cases e3
      exact ⟨a, s, rfl, q⟩
theorem mbd_some {α β : Type} {m : M α} {f : α → M β} {b : β} {s : Slots} (h : mbd m f ss = some (.ok b s)) : ∃ a s1, m ss = some (.ok a s1) ∧ f a s1 = some (.ok b s) := by
  unfold mbd at h
  cases em : m ss with
  | none =>
    rw [em] at h
    cases h
  | some r =>
    rw [em] at h
    cases r with
    | exc k w s => cases h
    | ok a s1 => exact ⟨a, s1, rfl, h⟩
theorem calm_some {α : Type} {m : M α} {a : α} {s : Slots} (h : VI.calm m ss = some (.ok a s)) : m ss = some (.ok a s) := by
  unfold VI.calm at h
  cases em : m ss with
  | none =>
    rw [em] at h
    cases h
  | some r =>
    rw [em] at h
    cases r with
    | exc k w s => cases h
    | ok a s1 => exact h
theorem mwipe_some {os : List Nat} {a : Unit} {s : Slots} (h : mwipe os ss = some (.ok a s)) : os.all (freeAt ss) = true ∧ s = VI.wipe os ss := by
  unfold mwipe at h
  split at h
  · rename_i e
    cases h
    exact ⟨e, rfl⟩
  · cases h
theorem wiped_no {os : List Nat} : ∀ i ∈ os, ∀ t, (VI.wipe os ss)[i]? = some t → t = .no := fun i hi t h => by
  rcases wipeS_in h with ⟨_, z⟩ | ⟨z, _⟩
  · exact z
  · exact absurd hi z
theorem sim_comp {elt tg iter : Expr} {ifs : List Expr} {scope : Scope} {own : List (Str × Nat)} {it : M (List W)} {t : Tg} {f : M Bool} (hc : X.calm = true) (hN : X.N.Nodup) (hi : SimI c X tg iter it) (ok : BlkOk X.N X.env.scope scope own) (hos : ∀ j ∈ tgIx t, j ∈ own.map (·.2))
    (hg : ∀ (s : Shared) (H : Hp) (C : Addr) (cl : List (Str × Addr)) (fp : List Addr), SimG c (X.blk s H scope (compEnvC scope cl C X.env) fp) tg t)
    (ht : ∀ (s : Shared) (H : Hp) (C : Addr) (cl : List (Str × Addr)) (fp : List Addr), SimTs c (X.blk s H scope (compEnvC scope cl C X.env) fp) ifs f)
    (he : ∀ (s : Shared) (H : Hp) (C : Addr) (cl : List (Str × Addr)) (fp : List Addr), SimE c (X.blk s H scope (compEnvC scope cl C X.env) fp) elt m)
    (hs : ∀ x, foldedSetIterable iter X.env x = pure x := by intro _; rfl) : SimO c X (.ListComp elt [⟨tg, iter, ifs, 0⟩] scope pos) (eComp (own.map (·.2)) it (asg t) f m) := fun Wx tk => by
  have tk0 : ∀ (s : Shared) (H : Hp) (C : Addr) (cl : List (Str × Addr)) (fp : List Addr), Takes (X.blk s H scope (compEnvC scope cl C X.env) fp) (fun _ _ _ _ => False) := fun s H C cl fp u s' ⟨a, B, sI, pins, σ, H', cls, d, e, I, nb, up, sky, na, os, ag, w⟩ => w
  refine PE.imp (pe_lc hc hN (hi Wx tk) ok hg (fun s H C cl fp => ht s H C cl fp _ (tk0 s H C cl fp)) (fun s H C cl fp => he s H C cl fp _ (tk0 s H C cl fp)) hs) fun σ H Q q => ?_
  generalize hos' : own.map (·.2) = os at *
  obtain ⟨F, ss, s, q⟩ := q
  refine ⟨F, ss, s, (From.bind (U := rI c) early_O q).mono fun J H1 ⟨ws, F1, ss1, em, s1, u1, f1, l1, h3⟩ Dl hD => ?_⟩
  obtain ⟨G, Y, wk, k⟩ := u1
  obtain ⟨wv, ssF, en, hQ⟩ := h3.calm
  obtain ⟨_, ssw, en1, en2⟩ := mbd_some en
  obtain ⟨hfree, rfl⟩ := mwipe_some en1
  obtain ⟨vs, ssF', en3, en4⟩ := mbd_some en2
  cases en4
  obtain ⟨sw, subw, lnw⟩ := s1.wipe hfree
  have new : Ext H1 (L2.upd H1 Dl (.lst [])) := Ext.new hD
  refine lc_it wk (fun i H' => ∃ F' ss' acc vals, SR c F' H' (L2.wipe σ os) ss' ∧ Fm F1 H1 (OwnA σ ss1) F' H' (OwnA (L2.wipe σ os) ss') ∧ Ln σ ss1 (L2.wipe σ os) ss' ∧ (∀ i ∈ os, ∀ t, ss'[i]? = some t → t = .no) ∧ ¬ F' Dl ∧ ¬ Busy (L2.wipe σ os) ss' Dl ∧ H' Dl = some (.lst vals) ∧ RepFs c F' H' acc.reverse vals ∧
      compGo os (asg t) f m (ws.drop i) acc ss' = some (.ok vs ssF)) ?_ (fun i H' hi ⟨F', ss', acc, vals, p⟩ => (k F' H' _ p.2.1 (s1.kp p.2.1)).1) (fun i x H' H2 hi ⟨F', ss', acc, vals, p⟩ y => ?_) (fun H' ⟨F', ss', acc, vals, p⟩ => ?_)
  · refine ⟨F1, VI.wipe os ss1, [], [], sw.ext new, ?_, lnw, wiped_no, fun z => ?_, sw.fresh (.of hD), upd_same, rfl, en3⟩
    · exact Fm.trans new.fm (Fm.sub subw)
    · obtain ⟨o, e⟩ := s1.liv Dl z
      rw [hD] at e
      cases e
  · obtain ⟨s', f', ln', no', nF', nB', hv, rp, en'⟩ := p
    obtain ⟨e2, w, ew, r⟩ := (k F' H' _ f' (s1.kp f')).2 i x H2 hi y
    have ew' : ws[i] = w := by
      rw [List.getElem?_eq_getElem hi] at ew
      exact Option.some.inj ew
    rw [List.drop_eq_getElem_cons hi, ew'] at en'
    obtain ⟨_, ss3, g1, g2⟩ := mbd_some en'
    have g1 := calm_some g1
    obtain ⟨kb, ss4, g3, g4⟩ := mbd_some g2
    have s2 := s'.ext e2
    refine ⟨F', ss', w, s2, r, ss3, g1, fun σ3 F3 H3 f3 s3 l3 n3 t3 => ?_⟩
    have hw3 : L2.wipe σ3 os = L2.wipe σ os := wipe_same n3 fun j hj => t3 j fun z => hj (hos j z)
    refine ⟨hw3, F3, ss3, s3, .inl ⟨kb, ss4, g3, fun b F4 H4 f4 s4 l4 t4 => ?_⟩⟩
    have t4 : kb = b := t4
    subst t4
    have fAll : Fm F' H' (OwnA (L2.wipe σ os) ss') F4 H4 (OwnA σ3 ss4) := e2.fm.trans (f3.trans f4)
    have notO : ¬ OwnA (L2.wipe σ os) ss' Dl := fun z => nB' (.inl z)
    cases kb with
    | false =>
      refine iteF ?_
      have g4 : mbd (mwipe os) (fun _ => compGo os (asg t) f m (ws.drop (i + 1)) acc) ss4 = some (.ok vs ssF) := g4
      obtain ⟨_, ss5, g5, g6⟩ := mbd_some g4
      obtain ⟨fr5, rfl⟩ := mwipe_some g5
      obtain ⟨s5, sub5, ln5⟩ := s4.wipe fr5
      rw [hw3] at s5 sub5 ln5
      have fAll5 := fAll.trans (Fm.sub sub5)
      have lnA := ((l3.trans l4).trans ln5)
      exact ⟨F4, VI.wipe os ss4, acc, vals, s5, f'.trans fAll5, ln'.trans lnA, wiped_no, fAll.notF nF' notO hv (fun _ z => by cases z), fAll5.notBusy lnA nB' hv (fun _ z => by cases z), fAll.keep Dl _ hv notO (fun _ z => by cases z), RepFs.kp (s'.kp fAll) _ _ rp, g6⟩
    | true =>
      refine iteT ?_
      have g4 : mbd m (fun v => if acc.length < 100000 then mbd (mwipe os) fun _ => compGo os (asg t) f m (ws.drop (i + 1)) (v :: acc) else stuck) ss4 = some (.ok vs ssF) := g4
      obtain ⟨v, ss5, g5, g6⟩ := mbd_some g4
      split at g6
      · rename_i hlen
        obtain ⟨_, ss6, g7, g8⟩ := mbd_some g6
        obtain ⟨fr5, rfl⟩ := mwipe_some g7
        refine ⟨F4, ss4, s4, .inl ⟨v, ss5, g5, fun y F5 H5 f5 s5 l5 ry => ?_⟩⟩
        obtain ⟨s6, sub6, ln6⟩ := s5.wipe fr5
        rw [hw3] at s6 sub6 ln6
        have fA6 := fAll.trans f5
        have fB6 := fA6.trans (Fm.sub sub6)
        have lnA := (((l3.trans l4).trans l5).trans ln6)
        have hv5 := fA6.keep Dl _ hv notO (fun _ z => by cases z)
        have nF5 := fA6.notF nF' notO hv (fun _ z => by cases z)
        have nB6 := fB6.notBusy lnA nB' hv (fun _ z => by cases z)
        obtain ⟨s7, k7⟩ := s6.upd (o := .lst (vals ++ [y])) nF5 nB6 ⟨_, hv5⟩
        have rp6 : RepFs c F5 H5 (v :: acc).reverse (vals ++ [y]) := by
          rw [List.reverse_cons]
          exact (RepFs.kp (s'.kp fA6) _ _ rp).app ⟨y, [], rfl, ry, rfl⟩
        have fC := f'.trans fB6
        refine ⟨vals, hv5, ?_, F5, VI.wipe os ss5, v :: acc, vals ++ [y], s7, ⟨fun a o h n t => ?_, fun a o h nt => ?_, fC.mono, fC.fnew, fC.onew⟩, ln'.trans lnA, wiped_no, nF5, nB6, upd_same, RepFs.kp k7 _ _ rp6, g8⟩
        · rw [← rp.length, List.length_reverse]
          exact Nat.lt_of_lt_of_le hlen (sizeLine_big (Nat.le_refl _))
        · have na : a ≠ Dl := fun z => by
            rw [z, hD] at h
            cases h
          rw [upd_ne na]
          exact fC.keep a o h n t
        · have na : a ≠ Dl := fun z => by
            rw [z, hD] at h
            cases h
          rw [upd_ne na]
          exact fC.live a o h nt
      · cases g6
  · obtain ⟨s', f', ln', no', nF', nB', hv, rp, en'⟩ := p
    rw [List.drop_length] at en'
    cases en'
    obtain ⟨su, oE, lE⟩ := s'.unwipe no'
    refine hQ (.ref Dl) F' H' ⟨f'.keep, f'.live, f'.mono, f'.fnew, fun a h => f'.onew a ((oE a).mpr h)⟩ su ⟨fun i t h1 h2 => ⟨rfl, (ln'.st i t h1 h2).2⟩, ln'.lk⟩ ?_
    refine ⟨Dl, rfl, .of hD, nF', fun z => ?_, vals, hv, rp⟩
    rcases z with z | z
    · exact nB' (.inl ((oE _).mpr z))
    · exact nB' (.inr ((lE _).mpr z))
end
end VI

set_option Elab.async false
set_option linter.all false
set_option maxRecDepth 100000
set_option maxHeartbeats 1000000
/-! VI, part 13: defs and calls. -/
namespace VI
open PySem L2 PySem.Spec PyProof.Rows
/-- a value that a def hands back; o: nobody else has it -/
def ResR (c : Cn) (o : Bool) : Rl W V := fun B F' H H' w v => if o = true ∧ isMut w = true then ∃ a, v = .ref a ∧ Fr H a ∧ ¬ F' a ∧ ¬ (B.own a ∨ B.lk a) ∧ OwnAt c F' H' a w else RepF c F' H' w v
/-- what a def of n parameters promises: its body is f -/
def spF (c : Cn) (n : Nat) (f : List Slot → FOut) : Sp := fun vs H Q E => vs.length = n ∧ ∃ (F : Addr → Prop) (as : List Slot), SR c F H (vs.map some) as ∧ (∀ w, Slot.own false w ∉ as) ∧
  ((∃ o w fin, f as = some (.ok (o, w) fin) ∧ ∀ (v : V) (F' : Addr → Prop) (H' : Hp), Fm F H (OwnA (vs.map some) as) F' H' (OwnA (vs.map some) fin) → SR c F' H' (vs.map some) fin → Ln (vs.map some) as (vs.map some) fin → ResR c o (BZ (vs.map some) fin) F' H H' w v → Q v H') ∨
    ∃ k w fin, f as = some (.exc k w fin) ∧ ∀ (cls : Value) (d : Option Addr) (F' : Addr → Prop) (H' : Hp), Fm F H (OwnA (vs.map some) as) F' H' (OwnA (vs.map some) fin) → SR c F' H' (vs.map some) fin → Ln (vs.map some) as (vs.map some) fin → ExR c F' H' k w cls d → E cls d H')
section
variable {c : Cn} {X : Cx} {Wx : WX} {σ σ' : L2.St} {F F' : Addr → Prop} {H H' : Hp} {ss ss' : Slots} {D : Ends} {e : Expr} {m : M W} {pos : Pos}
/-! ### a def's frame -/
theorem ends_len : ∀ {as : List Slot} {ss : Slots}, (ends as ss).length = as.length
  | [], _ => rfl
  | a :: as, ss => by
    unfold ends
    rw [List.length_cons, List.length_cons, ends_len]
theorem ends_get : ∀ {as : List Slot} {ss : Slots} {j : Nat} {t : Slot}, (ends as ss)[j]? = some t → ∃ a, as[j]? = some a ∧ ((free a = true ∧ t = .no) ∨ (free a = false ∧ t = (ss[j]?).getD .no))
  | [], _, _, _, h => by
    unfold ends at h
    simp at h
  | a :: as, ss, 0, t, h => by
    unfold ends at h
    have h : (if free a then Slot.no else ss.headD .no) = t := by simpa using h
    refine ⟨a, rfl, ?_⟩
    cases e : free a with
    | true =>
      rw [e, if_pos rfl] at h
      exact .inl ⟨rfl, h.symm⟩
    | false =>
      rw [e, if_neg Bool.false_ne_true] at h
      refine .inr ⟨rfl, ?_⟩
      rw [← h]
      cases ss <;> rfl
  | a :: as, ss, j + 1, t, h => by
    unfold ends at h
    rw [List.getElem?_cons_succ] at h
    obtain ⟨b, h1, h2⟩ := ends_get h
    refine ⟨b, by rw [List.getElem?_cons_succ]; exact h1, ?_⟩
    cases ss with
    | nil => exact h2
    | cons s ss => exact h2
theorem ends_at : ∀ {as : List Slot} {ss : Slots} {j : Nat} {a : Slot}, as[j]? = some a → free a = false → (ends as ss)[j]? = some ((ss[j]?).getD .no)
  | [], _, _, _, h, _ => by simp at h
  | a :: as, ss, 0, b, h, f => by
    have e : a = b := by simpa using h
    subst e
    unfold ends
    rw [f]
    cases ss <;> rfl
  | a :: as, ss, j + 1, b, h, f => by
    unfold ends
    rw [List.getElem?_cons_succ] at h ⊢
    rw [ends_at h f]
    cases ss with
    | nil => rfl
    | cons s ss => rfl
theorem app_none {α : Type} {l : List α} {n : Nat} {z x : α} {j : Nat} (h : (l ++ List.replicate n z)[j]? = some x) : l[j]? = some x ∨ (l.length ≤ j ∧ x = z) := by
  by_cases hj : j < l.length
  · rw [List.getElem?_append_left hj] at h
    exact .inl h
  · rw [List.getElem?_append_right (by omega)] at h
    obtain ⟨_, h⟩ := List.getElem?_eq_some_iff.mp h
    rw [List.getElem_replicate] at h
    exact .inr ⟨by omega, h.symm⟩
theorem app_lt {α : Type} {l : List α} {n : Nat} {z x : α} {j : Nat} (h : l[j]? = some x) : (l ++ List.replicate n z)[j]? = some x := by
  rw [List.getElem?_append_left (List.getElem?_eq_some_iff.mp h).1]
  exact h
/-- a frame begins -/
theorem SR.begin {vs : List V} {as : List Slot} {k : Nat} (s : SR c F H (vs.map some) as) : SR c F H (vs.map some ++ List.replicate k none) (as ++ List.replicate k .no) ∧ ∀ a, OwnA (vs.map some ++ List.replicate k none) (as ++ List.replicate k .no) a ↔ OwnA (vs.map some) as a := by
  have lenE := s.len
  have low : ∀ {j : Nat} {t : Slot} {ov : Option V}, (as ++ List.replicate k .no)[j]? = some t → (vs.map some ++ List.replicate k none)[j]? = some ov → t = .no ∨ (as[j]? = some t ∧ (vs.map some)[j]? = some ov) := fun {j t ov} h1 h2 => by
    rcases app_none h1 with h1 | ⟨_, h1⟩
    · have hj := (List.getElem?_eq_some_iff.mp h1).1
      rw [List.getElem?_append_left (by omega)] at h2
      exact .inr ⟨h1, h2⟩
    · exact .inl h1
  have oE : ∀ a, OwnA (vs.map some ++ List.replicate k none) (as ++ List.replicate k .no) a ↔ OwnA (vs.map some) as a := fun a => ⟨fun ⟨j, t, h1, h2, h3⟩ => by
    rcases low h1 h3 with rfl | ⟨h1, h3⟩
    · cases h2
    · exact ⟨j, t, h1, h2, h3⟩, fun ⟨j, t, h1, h2, h3⟩ => ⟨j, t, app_lt h1, h2, app_lt h3⟩⟩
  refine ⟨⟨by rw [List.length_append, List.length_append, List.length_replicate, List.length_replicate, lenE], fun j t ov h1 h2 => ?_, fun b hb => s.nf b ((oE b).mp hb), fun j l t u b h1 h2 h3 h4 h5 h6 => ?_, fun b hl hb => ?_, s.live⟩, oE⟩
  · rcases low h1 h2 with rfl | ⟨h1, h2⟩
    · trivial
    · exact s.rel j t ov h1 h2
  · rcases low h1 h5 with rfl | ⟨h1, h5⟩
    · cases h3
    · rcases low h2 h6 with rfl | ⟨h2, h6⟩
      · cases h4
      · exact s.inj j l t u b h1 h2 h3 h4 h5 h6
  · obtain ⟨j, w, h1, h2, h3⟩ := hl
    rcases low h1 h3 with z | ⟨h1, h3⟩
    · cases z
    · exact s.lk b ⟨j, w, h1, h2, h3⟩ ((oE b).mp hb)
/-- a frame ends -/
theorem SR.fin {vs : List V} {as : List Slot} {k : Nat} (s : SR c F H (vs.map some) as) (s' : SR c F' H' σ' ss') (f : Fm F H (OwnA (vs.map some ++ List.replicate k none) (as ++ List.replicate k .no)) F' H' (OwnA σ' ss')) (l : Ln (vs.map some ++ List.replicate k none) (as ++ List.replicate k .no) σ' ss') :
    SR c F' H' (vs.map some) (ends as ss') ∧ Fm F H (OwnA (vs.map some) as) F' H' (OwnA (vs.map some) (ends as ss')) ∧ Ln (vs.map some) as (vs.map some) (ends as ss') ∧
      ∀ (j : Nat) (t : Slot), (ends as ss')[j]? = some t → t = .no ∨ ∃ a, as[j]? = some a ∧ free a = false ∧ Nfr a t ∧ ss'[j]? = some t ∧ (vs.map some)[j]? = σ'[j]? := by
  obtain ⟨s0, oE⟩ := s.begin (k := k)
  have at_ : ∀ {j : Nat} {a : Slot}, as[j]? = some a → free a = false → ∃ t, ss'[j]? = some t ∧ Nfr a t ∧ (vs.map some)[j]? = σ'[j]? := fun {j a} h1 h2 => by
    obtain ⟨e1, t, e2, e3⟩ := l.st j a (app_lt h1) h2
    refine ⟨t, e2, e3, ?_⟩
    obtain ⟨ov, eo, _⟩ := s.get h1
    rw [e1, app_lt eo, eo]
  have look : ∀ (j : Nat) (t : Slot), (ends as ss')[j]? = some t → t = .no ∨ ∃ a, as[j]? = some a ∧ free a = false ∧ Nfr a t ∧ ss'[j]? = some t ∧ (vs.map some)[j]? = σ'[j]? := fun j t h => by
    obtain ⟨a, h1, h2 | h2⟩ := ends_get h
    · exact .inl h2.2
    · obtain ⟨t', e2, e3, e4⟩ := at_ h1 h2.1
      have e5 := h2.2
      rw [e2] at e5
      have e5 : t = t' := e5
      subst e5
      exact .inr ⟨a, h1, h2.1, e3, e2, e4⟩
  have sub : ∀ a, OwnA (vs.map some) (ends as ss') a → OwnA σ' ss' a := fun a ⟨j, t, h1, h2, h3⟩ => by
    rcases look j t h1 with rfl | ⟨_, _, _, _, e2, e4⟩
    · cases h2
    · exact ⟨j, t, e2, h2, by rw [← e4]; exact h3⟩
  refine ⟨⟨by rw [ends_len]; exact s.len, fun j t ov h1 h2 => ?_, fun b hb => s'.nf b (sub b hb), fun j i t u b h1 h2 h3 h4 h5 h6 => ?_, fun b hl hb => ?_, s'.live⟩, ⟨fun a o h n t => f.keep a o h (fun z => n ((oE a).mp z)) t, f.live, f.mono, fun a h => ?_, fun a h => ?_⟩, ⟨fun j a h1 h2 => ?_, fun j w h1 => ?_⟩, look⟩
  · rcases look j t h1 with rfl | ⟨_, _, _, _, e2, e4⟩
    · trivial
    · exact s'.rel j t ov e2 (by rw [← e4]; exact h2)
  · rcases look j t h1 with rfl | ⟨_, _, _, _, e2, e4⟩
    · cases h3
    · rcases look i u h2 with rfl | ⟨_, _, _, _, e5, e6⟩
      · cases h4
      · exact s'.inj j i t u b e2 e5 h3 h4 (by rw [← e4]; exact h5) (by rw [← e6]; exact h6)
  · obtain ⟨j, w, h1, h2, h3⟩ := hl
    rcases look j _ h1 with z | ⟨_, _, _, _, e2, e4⟩
    · cases z
    · exact s'.lk b ⟨j, w, e2, h2, by rw [← e4]; exact h3⟩ (sub b hb)
  · rcases f.fnew a h with z | z | z
    · exact .inl z
    · exact .inr (.inl ((oE a).mp z))
    · exact .inr (.inr z)
  · exact (f.onew a (sub a h)).imp (oE a).mp id
  · obtain ⟨t, e2, e3, e4⟩ := at_ h1 h2
    exact ⟨rfl, t, by rw [ends_at h1 h2, e2]; rfl, e3⟩
  · rcases look j _ h1 with z | ⟨a, h2, h3, h4, e2, e4⟩
    · cases z
    · have z := l.lk j w e2
      rcases app_none z with z | ⟨_, z⟩
      · exact z
      · cases z
/-- what is handed back -/
theorem ret_res {vs : List V} {as : List Slot} {k : Nat} {o : Bool} {w : W} {v : V} (own : ∀ w, Slot.own false w ∉ as) (s : SR c F H (vs.map some) as) (s' : SR c F' H' σ' ss') (f : Fm F H (OwnA (vs.map some ++ List.replicate k none) (as ++ List.replicate k .no)) F' H' (OwnA σ' ss')) (l : Ln (vs.map some ++ List.replicate k none) (as ++ List.replicate k .no) σ' ss')
    (r : ResR c o (BZ (vs.map some) (ends as ss')) F' H H' w v ∨ True) (q : RetR c o σ' ss' F' H H' w v) : ResR c o (BZ (vs.map some) (ends as ss')) F' H H' w v := by
  obtain ⟨_, _, _, look⟩ := s.fin s' f l
  unfold RetR at q
  unfold ResR
  split at q
  · rename_i y
    rw [if_pos y]
    obtain ⟨a, ev, nF, ow, q⟩ := q
    have hn : Fr H a := by
      rcases q with q | ⟨i, w', h1, h2⟩
      · exact q.1
      · rcases f.onew a ⟨i, _, h1, rfl, h2⟩ with z | z
        · exfalso
          rw [(s.begin (k := k)).2] at z
          obtain ⟨j, t, h3, h4, h5⟩ := z
          cases t with
          | own lt wt =>
            cases lt with
            | false => exact own wt (List.mem_of_getElem? h3)
            | true =>
              obtain ⟨e1, t', e2, e3⟩ := l.st j _ (app_lt h3) rfl
              rw [app_lt h5] at e1
              rcases e3 with ⟨w2, rfl⟩ | ⟨w2, rfl, m2⟩
              · have := s'.inj i j _ _ a h1 e2 rfl rfl h2 e1
                subst this
                rw [h1] at e2
                cases e2
              · have rr := s'.rel j _ _ e2 e1
                obtain ⟨v2, ev2, rr⟩ := rr
                cases ev2
                cases w2 with
                | lst ws =>
                  obtain ⟨a2, vs2, e4, hF, _⟩ := rr
                  cases e4
                  exact nF hF
                | dct ks ws =>
                  obtain ⟨a2, vs2, e4, hF, _⟩ := rr
                  cases e4
                  exact nF hF
                | _ => cases m2
          | _ => cases h4
        · exact z
    refine ⟨a, ev, hn, nF, fun z => ?_, ow⟩
    rcases z with ⟨j, t, h1, h2, h3⟩ | ⟨j, w', h1, h2, h3⟩
    · rcases look j t h1 with rfl | ⟨a', h4, h5, h6, e2, e4⟩
      · cases h2
      · cases a' with
        | own lt wt =>
          have rr := s.rel j _ _ h4 h3
          obtain ⟨b, eb, ob⟩ := rr
          cases eb
          obtain ⟨u, hu, mu, _⟩ := ob.mut
          exact hn.no hu (noTb_mut mu)
        | no => cases h5
        | fr lt wt =>
          have h6 : t = _ := h6
          subst h6
          cases h2
        | lk wt =>
          have h6 : t = _ := h6
          subst h6
          cases h2
    · rcases look j _ h1 with z | ⟨a', h4, h5, h6, e2, e4⟩
      · cases z
      · have z := l.lk j w' e2
        rcases app_none z with z | ⟨_, z⟩
        · obtain ⟨u, hu, nu⟩ := s.locked ⟨j, w', z, h2, h3⟩
          exact hn.no hu nu
        · cases z
  · rename_i y
    rw [if_neg y]
    exact q
end
/-- as FnOk of the hand layer, where no guard stands around -/
structure FnG (P : Program) (w : World) (K : PySem.W.Frag) (mg : Str → Option Value) (base : Heap) (k : Nat) (f : Addr) (fd : FuncData) (ps : List Str) (sp : Sp) : Prop where
  len : ∀ vs H Q E, sp vs H Q E → vs.length = ps.length
  run : ∀ (A : Around) (outer : List Env) (s : Shared) (H : Hp) (args : Args) (us : List Value) (vs : List V) (Q : VK) (E : XK), Room k A → A.guards = some [] → Env0 P w K mg base A outer s H → BindsTo s fd args (ps.zip us) → Vals vs us → sp vs H Q E →
    codeAny (model P w) A (.call (.ref f) args) (CR (L2.CX P w) outer P w H s Q E) s
theorem FnG.mono {P : Program} {w : World} {K : PySem.W.Frag} {mg : Str → Option Value} {base : Heap} {j k : Nat} {f : Addr} {fd : FuncData} {ps : List Str} {sp : Sp} (F : FnG P w K mg base j f fd ps sp) (h : j ≤ k) : FnG P w K mg base k f fd ps sp :=
  ⟨F.len, fun A outer s H args us vs Q E hr => F.run A outer s H args us vs Q E (hr.mono h)⟩
/-- the room of a def's body -/
structure Rm (k : Nat) (A : Around) : Prop where
  room : Room k A
  gd : A.guards = some []
section
variable {P : Program} {w : World} {K : PySem.W.Frag} {mg : Str → Option Value} {base : Heap} {c : Cn}
/-- a def's body, read -/
theorem body_read {N : List Str} {n np : Nat} {b : M Flow} {vs : List V} {H : Hp} {Q : VK} {E : XK} (hn : N.length = n) (h : spF c np (runFn n b) vs H Q E) : tS c b (fun cls d _ H => E cls d H) { nx := fun _ H' => Q .non H', rt := Q } (start N vs) H := by
  obtain ⟨hl, F, as, sr, own, h⟩ := h
  have la : as.length = vs.length := by
    rw [← sr.len, List.length_map]
  have est : start N vs = vs.map some ++ List.replicate (n - as.length) none := by
    show vs.map some ++ List.replicate (N.length - vs.length) none = _
    rw [hn, la]
  obtain ⟨s0, oE⟩ := sr.begin (k := n - as.length)
  refine ⟨F, as ++ List.replicate (n - as.length) .no, by rw [est]; exact s0, ?_⟩
  rw [est]
  cases eb : b (as ++ List.replicate (n - as.length) .no) with
  | none =>
    have z : runFn n b as = none := by
      unfold runFn
      rw [eb]
    rcases h with ⟨o, w, fin, e, _⟩ | ⟨k, w, fin, e, _⟩ <;> rw [z] at e <;> cases e
  | some r =>
    cases r with
    | exc k w s =>
      have z : runFn n b as = some (.exc k w (ends as s)) := by
        unfold runFn
        rw [eb]
      rcases h with ⟨o, w, fin, e, _⟩ | ⟨k, w, fin, e, q⟩
      · rw [z] at e
        cases e
      · rw [z] at e
        cases e
        refine .inr ⟨k, w, s, eb, fun cls d σ' F' H' f' s' l' x => ?_⟩
        obtain ⟨g1, g2, g3, _⟩ := sr.fin s' f' l'
        exact q cls d F' H' g2 g1 g3 x
    | ok fl s =>
      cases fl with
      | nx =>
        have z : runFn n b as = some (.ok (false, .non) (ends as s)) := by
          unfold runFn
          rw [eb]
        rcases h with ⟨o, w, fin, e, q⟩ | ⟨k, w, fin, e, q⟩
        · rw [z] at e
          cases e
          refine .inl ⟨.nx, s, eb, fun σ' F' H' f' s' l' => ?_⟩
          obtain ⟨g1, g2, g3, _⟩ := sr.fin s' f' l'
          refine q .non F' H' g2 g1 g3 ?_
          unfold ResR
          rw [if_neg (fun z => absurd z.1 Bool.false_ne_true)]
          exact rfl
        · rw [z] at e
          cases e
      | ret o' w' =>
        have z : runFn n b as = some (.ok (o', w') (ends as s)) := by
          unfold runFn
          rw [eb]
        rcases h with ⟨o, w, fin, e, q⟩ | ⟨k, w, fin, e, q⟩
        · rw [z] at e
          cases e
          refine .inl ⟨.ret o' w', s, eb, fun σ' F' H' f' s' l' v r => ?_⟩
          obtain ⟨g1, g2, g3, _⟩ := sr.fin s' f' l'
          exact q v F' H' g2 g1 g3 (ret_res own sr s' f' l' (.inr trivial) r)
        · rw [z] at e
          cases e
      | brk =>
        have z : runFn n b as = none := by
          unfold runFn
          rw [eb]
        rcases h with ⟨o, w, fin, e, _⟩ | ⟨k, w, fin, e, _⟩ <;> rw [z] at e <;> cases e
      | cont =>
        have z : runFn n b as = none := by
          unfold runFn
          rw [eb]
        rcases h with ⟨o, w, fin, e, _⟩ | ⟨k, w, fin, e, _⟩ <;> rw [z] at e <;> cases e
/-- a def by its body -/
theorem fn_vi {x qual : Str} {st : Stmt} {f : Addr} {fd : FuncData} {N ps : List Str} {k n np : Nat} {b : M Flow} (F : Fun K x qual st f fd) (S : FnScope N ps (defScope st)) (hn : N.length = n) (hp : ps.length = np)
    (body : ∀ (cdv : Value) (A : Around) (outer : List Env) (s : Shared) (H : Hp) (E : XK), Rm k (A.deeper (envOfC qual (defScope st) s.heap.objs.size f cdv)) → SimB c (cxOf (L2.CX P w) P w K mg base N qual (defScope st) f cdv A outer s H E) (defBody st) b) :
    FnG P w K mg base (k + 1) f fd ps (spF c np (runFn n b)) := by
  obtain ⟨oc, od, kV, doc, pm, an, cdv, ct, osl, rfl, lk, hcd⟩ := F.ex
  refine ⟨fun vs H Q E h => h.1.trans hp.symm, fun A outer s H args us vs Q E hr hg e0 hb rv h => LamX.run_ofS lk hcd S hr e0 hb rv (h.1.trans hp.symm) fun hr' => ?_⟩
  exact ⟨tS c b (fun cls d _ H => E cls d H), body cdv A outer s H E ⟨hr', hg⟩ _ (takes_of rfl rfl rfl rfl), body_read hn h⟩
end
end VI

set_option Elab.async false
set_option linter.all false
set_option maxRecDepth 100000
set_option maxHeartbeats 1000000
/-! VI, part 14: calls. -/
namespace VI
open PySem L2
section
variable {c : Cn} {X : Cx} {Wx : WX} {σ σ' : L2.St} {F F' : Addr → Prop} {H H' : Hp} {ss ss' : Slots} {D : Ends} {e : Expr} {m : M W} {pos : Pos}
/-- an argument's reading -/
def rdA (c : Cn) (Wx : WX) : Arg → TE
  | .ev m => tM c m (rF c) Wx
  | .lend i => tVar i
  | .pk i => tVar i
def rdAs (c : Cn) (Wx : WX) : List Arg → TA
  | [] => tNil
  | o :: os => tCons (rdA c Wx o) (rdAs c Wx os)
def SimA (c : Cn) (X : Cx) (e : Expr) (o : Arg) : Prop := ∀ Wx, Takes X Wx → PE X e (rdA c Wx o)
theorem rdA_mono {o : Arg} {Q Q' : VK} (h : rdA c Wx o σ H Q) (k : ∀ v H', Q v H' → Q' v H') : rdA c Wx o σ H Q' := by
  cases o with
  | ev m => exact tM.mono h k
  | pk i =>
    obtain ⟨v, e, q⟩ := h
    exact ⟨v, e, k _ _ q⟩
  | lend i =>
    obtain ⟨v, e, q⟩ := h
    exact ⟨v, e, k _ _ q⟩
theorem rdAs_mono : ∀ {os : List Arg} {H : Hp} {Q Q' : List V → Hp → Prop}, rdAs c Wx os σ H Q → (∀ v H', Q v H' → Q' v H') → rdAs c Wx os σ H Q'
  | [], _, _, _, h, k => k _ _ h
  | o :: os, _, _, _, h, k => rdA_mono h fun v H' q => rdAs_mono (os := os) q fun vs H2 q2 => k _ _ q2
/-- an argument as it stands before the call -/
def ArgR (c : Cn) (σ : L2.St) (F : Addr → Prop) (H : Hp) (ss : Slots) : Arg → Slot → V → Prop
  | .ev _, s, v => ∃ w, s = .fr false w ∧ RepF c F H w v
  | .lend i, s, v => ∃ l w, ss[i]? = some (.own l w) ∧ s = .own true w ∧ σ[i]? = some (some v)
  | .pk i, s, v => ∃ w, s = .lk w ∧ RepL c F H w v ∧ σ[i]? = some (some v) ∧ rdSlot i ss = some (.ok w ss)
def ArgsR (c : Cn) (σ : L2.St) (F : Addr → Prop) (H : Hp) (ss : Slots) : List Arg → List Slot → List V → Prop
  | [], sl, vs => sl = [] ∧ vs = []
  | a :: as, sl, vs => ∃ s v sl' vs', sl = s :: sl' ∧ vs = v :: vs' ∧ ArgR c σ F H ss a s v ∧ ArgsR c σ F H ss as sl' vs'
theorem ArgsR.len : ∀ {as : List Arg} {sl : List Slot} {vs : List V}, ArgsR c σ F H ss as sl vs → sl.length = as.length ∧ vs.length = as.length
  | [], _, _, h => by
    obtain ⟨rfl, rfl⟩ := h
    exact ⟨rfl, rfl⟩
  | _ :: _, _, _, h => by
    obtain ⟨s, v, sl', vs', rfl, rfl, _, h⟩ := h
    obtain ⟨h1, h2⟩ := h.len
    exact ⟨by rw [List.length_cons, List.length_cons, h1], by rw [List.length_cons, List.length_cons, h2]⟩
theorem ArgsR.get : ∀ {as : List Arg} {sl : List Slot} {vs : List V} {j : Nat} {s : Slot}, ArgsR c σ F H ss as sl vs → sl[j]? = some s → ∃ a v, as[j]? = some a ∧ vs[j]? = some v ∧ ArgR c σ F H ss a s v
  | [], _, _, _, _, h, e => by
    obtain ⟨rfl, rfl⟩ := h
    simp at e
  | a :: as, _, _, 0, s, h, e => by
    obtain ⟨s', v, sl', vs', rfl, rfl, r, h⟩ := h
    have e : s' = s := by simpa using e
    subst e
    exact ⟨a, v, rfl, rfl, r⟩
  | a :: as, _, _, j + 1, s, h, e => by
    obtain ⟨s', v, sl', vs', rfl, rfl, r, h⟩ := h
    rw [List.getElem?_cons_succ] at e
    obtain ⟨a', v', h1, h2, h3⟩ := ArgsR.get h e
    exact ⟨a', v', by rw [List.getElem?_cons_succ]; exact h1, by rw [List.getElem?_cons_succ]; exact h2, h3⟩
/-- slot i is read as w -/
theorem rd_some {i : Nat} {w : W} (h : rdSlot i ss = some (.ok w ss)) : ∃ t, ss[i]? = some t ∧ ((∃ l, t = .fr l w) ∨ (∃ l, t = .own l w) ∨ t = .lk w) := by
  unfold rdSlot at h
  split at h
  · rename_i l w' e
    cases h
    exact ⟨_, e, .inl ⟨l, rfl⟩⟩
  · rename_i l w' e
    cases h
    exact ⟨_, e, .inr (.inl ⟨l, rfl⟩)⟩
  · rename_i w' e
    cases h
    exact ⟨_, e, .inr (.inr rfl)⟩
  · cases h
theorem args_read {γ δ : Type} {T : Rl γ δ} (hT : Early T) {Q : δ → Hp → Prop} : ∀ (as : List Arg) {H : Hp} {F : Addr → Prop} {ss : Slots} {k : List Slot → M γ}, SR c F H σ ss → From c (mbd (args as) k) T Wx σ F H ss Q →
    rdAs c Wx as σ H fun vs H' => ∃ sl F' ss', SR c F' H' σ ss' ∧ ArgsR c σ F' H' ss' as sl vs ∧ Fm F H (OwnA σ ss) F' H' (OwnA σ ss') ∧ From c (k sl) T Wx σ F' H' ss' Q
  | [], H, F, ss, k, s, h => ⟨[], F, ss, s, ⟨rfl, rfl⟩, .refl, h⟩
  | .ev m :: r, H, F, ss, k, s, h => by
    have h2 : From c (mbd m fun w => mbd (args r) fun ws => k (.fr false w :: ws)) T Wx σ F H ss Q := by
      have e : mbd (args (.ev m :: r)) k = mbd m fun w => mbd (args r) fun ws => k (.fr false w :: ws) := by
        show mbd (mbd m fun w => mbd (args r) fun ws => mret (.fr false w :: ws)) k = _
        rw [mbd_assoc]
        congr 1
        funext w
        rw [mbd_assoc]
        rfl
      rw [← e]
      exact h
    refine ⟨F, ss, s, (From.bind (U := rF c) hT h2).mono fun v H1 ⟨w, F1, ss1, _, s1, u1, f1, l1, h3⟩ => ?_⟩
    refine rdAs_mono (args_read hT r s1 h3) fun vs H' ⟨ws, F', ss', s', u', f', h'⟩ => ?_
    exact ⟨.fr false w :: ws, F', ss', s', ⟨_, v, ws, vs, rfl, rfl, ⟨w, rfl, RepF.kp (s1.kp f') _ _ u1⟩, u'⟩, f1.trans f', h'⟩
  | .lend i :: r, H, F, ss, k, s, h => by
    have e : mbd (args (.lend i :: r)) k = mbd (rdSlot i) fun _ => mbd (args r) fun ws => mbd (addLend i ws) k := by
      show mbd (mbd (rdSlot i) fun _ => mbd (args r) fun ws => addLend i ws) k = _
      rw [mbd_assoc]
      congr 1
      funext w
      rw [mbd_assoc]
    rw [e] at h
    cases er : rdSlot i ss with
    | none =>
      have z : mbd (rdSlot i) (fun _ => mbd (args r) fun ws => mbd (addLend i ws) k) ss = none := by unfold mbd; rw [er]
      rcases h with ⟨a, s', e1, _⟩ | ⟨j, w, s', e1, _⟩ <;> rw [z] at e1 <;> cases e1
    | some t =>
      obtain ⟨w0, v, et, ev, _⟩ := rd_slot s er
      subst et
      have h2 : From c (mbd (args r) fun ws => mbd (addLend i ws) k) T Wx σ F H ss Q := by
        unfold From at h ⊢
        rw [mbd_ok er] at h
        exact h
      refine ⟨v, ev, rdAs_mono (args_read hT r s h2) fun vs H' ⟨ws, F', ss', s', u', f', h'⟩ => ?_⟩
      by_cases go : ∃ l w, ss'[i]? = some (.own l w)
      · obtain ⟨l, w, e2⟩ := go
        refine ⟨.own true w :: ws, F', ss', s', ⟨_, v, ws, vs, rfl, rfl, ⟨l, w, e2, rfl, ev⟩, u'⟩, f', ?_⟩
        have z : mbd (addLend i ws) k ss' = k (.own true w :: ws) ss' := mbd_ok (m := addLend i ws) (a := .own true w :: ws) (s := ss') (by unfold addLend; rw [e2])
        unfold From at h' ⊢
        rw [z] at h'
        exact h'
      · have z0 : addLend i ws ss' = none := by
          unfold addLend
          split
          · rename_i l w e2
            exact absurd ⟨l, w, e2⟩ go
          · rfl
        have z : mbd (addLend i ws) k ss' = none := by
          unfold mbd
          rw [z0]
        rcases h' with ⟨a, s', e1, _⟩ | ⟨j, w, s', e1, _⟩ <;> rw [z] at e1 <;> cases e1
  | .pk i :: r, H, F, ss, k, s, h => by
    have e : mbd (args (.pk i :: r)) k = mbd (rdSlot i) fun _ => mbd (args r) fun ws => mbd (rdSlot i) fun w => k (.lk w :: ws) := by
      show mbd (mbd (rdSlot i) fun _ => mbd (args r) fun ws => mbd (rdSlot i) fun w => mret (.lk w :: ws)) k = _
      rw [mbd_assoc]
      congr 1
      funext w
      rw [mbd_assoc]
      congr 1
      funext ws
      rw [mbd_assoc]
      rfl
    rw [e] at h
    cases er : rdSlot i ss with
    | none =>
      have z : mbd (rdSlot i) (fun _ => mbd (args r) fun ws => mbd (rdSlot i) fun w => k (.lk w :: ws)) ss = none := by unfold mbd; rw [er]
      rcases h with ⟨a, s', e1, _⟩ | ⟨j, w, s', e1, _⟩ <;> rw [z] at e1 <;> cases e1
    | some t =>
      obtain ⟨w0, v, et, ev, _⟩ := rd_slot s er
      subst et
      have h2 : From c (mbd (args r) fun ws => mbd (rdSlot i) fun w => k (.lk w :: ws)) T Wx σ F H ss Q := by
        unfold From at h ⊢
        rw [mbd_ok er] at h
        exact h
      refine ⟨v, ev, rdAs_mono (args_read hT r s h2) fun vs H' ⟨ws, F', ss', s', u', f', h'⟩ => ?_⟩
      cases er2 : rdSlot i ss' with
      | none =>
        have z : mbd (rdSlot i) (fun w => k (.lk w :: ws)) ss' = none := by unfold mbd; rw [er2]
        rcases h' with ⟨a, s', e1, _⟩ | ⟨j, w, s', e1, _⟩ <;> rw [z] at e1 <;> cases e1
      | some t2 =>
        obtain ⟨w, v2, et2, ev2, rl⟩ := rd_slot s' er2
        subst et2
        rw [ev] at ev2
        cases ev2
        refine ⟨.lk w :: ws, F', ss', s', ⟨_, v, ws, vs, rfl, rfl, ⟨w, rfl, rl, ev, er2⟩, u'⟩, f', ?_⟩
        unfold From at h' ⊢
        rw [mbd_ok er2] at h'
        exact h'
/-! ### what is lent -/
theorem lend_mem : ∀ {as : List Arg} {j i : Nat}, as[j]? = some (.lend i) → i ∈ lendIx as
  | [], _, _, h => by simp at h
  | a :: as, 0, i, h => by
    have e : a = .lend i := by simpa using h
    subst e
    exact List.mem_cons_self
  | a :: as, j + 1, i, h => by
    rw [List.getElem?_cons_succ] at h
    have z := lend_mem h
    cases a with
    | lend k => exact List.mem_cons_of_mem _ z
    | ev m => exact z
    | pk k => exact z
theorem pk_mem : ∀ {as : List Arg} {j i : Nat}, as[j]? = some (.pk i) → i ∈ lendsOk.pkIx as
  | [], _, _, h => by simp at h
  | a :: as, 0, i, h => by
    have e : a = .pk i := by simpa using h
    subst e
    exact List.mem_cons_self
  | a :: as, j + 1, i, h => by
    rw [List.getElem?_cons_succ] at h
    have z := pk_mem h
    cases a with
    | pk k => exact List.mem_cons_of_mem _ z
    | ev m => exact z
    | lend k => exact z
theorem not_has {i : Nat} {l : List Nat} (h : (!l.contains i) = true) : i ∉ l := fun z => by
  rw [Bool.not_eq_true', List.contains_eq_mem, decide_eq_false_iff_not] at h
  exact h z
theorem lend_inj : ∀ {as : List Arg} {j k i : Nat}, lendsOk as = true → as[j]? = some (.lend i) → as[k]? = some (.lend i) → j = k
  | [], _, _, _, _, h, _ => by simp at h
  | a :: as, 0, 0, i, _, _, _ => rfl
  | a :: as, 0, k + 1, i, ok, h, h' => by
    have e : a = .lend i := by simpa using h
    subst e
    rw [List.getElem?_cons_succ] at h'
    unfold lendsOk at ok
    rw [Bool.and_eq_true, Bool.and_eq_true] at ok
    exact absurd (lend_mem h') (not_has ok.1.1)
  | a :: as, j + 1, 0, i, ok, h, h' => by
    have e : a = .lend i := by simpa using h'
    subst e
    rw [List.getElem?_cons_succ] at h
    unfold lendsOk at ok
    rw [Bool.and_eq_true, Bool.and_eq_true] at ok
    exact absurd (lend_mem h) (not_has ok.1.1)
  | a :: as, j + 1, k + 1, i, ok, h, h' => by
    rw [List.getElem?_cons_succ] at h h'
    have ok' : lendsOk as = true := by
      cases a with
      | lend x =>
        unfold lendsOk at ok
        rw [Bool.and_eq_true] at ok
        exact ok.2
      | pk x =>
        unfold lendsOk at ok
        rw [Bool.and_eq_true] at ok
        exact ok.2
      | ev x => exact ok
    rw [lend_inj ok' h h']
theorem lend_pk : ∀ {as : List Arg} {j k i : Nat}, lendsOk as = true → as[j]? = some (.lend i) → as[k]? = some (.pk i) → False
  | [], _, _, _, _, h, _ => by simp at h
  | a :: as, 0, 0, i, _, h, h' => by
    rw [h] at h'
    cases h'
  | a :: as, 0, k + 1, i, ok, h, h' => by
    have e : a = .lend i := by simpa using h
    subst e
    rw [List.getElem?_cons_succ] at h'
    unfold lendsOk at ok
    rw [Bool.and_eq_true, Bool.and_eq_true] at ok
    exact absurd (pk_mem h') (not_has ok.1.2)
  | a :: as, j + 1, 0, i, ok, h, h' => by
    have e : a = .pk i := by simpa using h'
    subst e
    rw [List.getElem?_cons_succ] at h
    unfold lendsOk at ok
    rw [Bool.and_eq_true] at ok
    exact absurd (lend_mem h) (not_has ok.1)
  | a :: as, j + 1, k + 1, i, ok, h, h' => by
    rw [List.getElem?_cons_succ] at h h'
    have ok' : lendsOk as = true := by
      cases a with
      | lend x =>
        unfold lendsOk at ok
        rw [Bool.and_eq_true] at ok
        exact ok.2
      | pk x =>
        unfold lendsOk at ok
        rw [Bool.and_eq_true] at ok
        exact ok.2
      | ev x => exact ok
    exact lend_pk ok' h h'
/-- the callee's frame -/
theorem ArgsR.own {as : List Arg} {sl : List Slot} {vs : List V} {j : Nat} {t : Slot} (h : ArgsR c σ F H ss as sl vs) (e : sl[j]? = some t) (o : isOwn t = true) : ∃ i l w v, as[j]? = some (.lend i) ∧ t = .own true w ∧ ss[i]? = some (.own l w) ∧ vs[j]? = some v ∧ σ[i]? = some (some v) := by
  obtain ⟨a, v, h1, h2, h3⟩ := h.get e
  cases a with
  | ev m =>
    obtain ⟨w, rfl, _⟩ := h3
    cases o
  | lend i =>
    obtain ⟨l, w, h4, h5, h6⟩ := h3
    exact ⟨i, l, w, v, h1, h5, h4, h2, h6⟩
  | pk i =>
    obtain ⟨w, rfl, _⟩ := h3
    cases o
theorem map_some {vs : List V} {j : Nat} {ov : Option V} (h : (vs.map some)[j]? = some ov) : ∃ v, ov = some v ∧ vs[j]? = some v := by
  rw [List.getElem?_map] at h
  cases e : vs[j]? with
  | none =>
    rw [e] at h
    cases h
  | some v =>
    rw [e] at h
    cases h
    exact ⟨v, rfl, rfl⟩
theorem SR.callee {as : List Arg} {sl : List Slot} {vs : List V} (s : SR c F H σ ss) (h : ArgsR c σ F H ss as sl vs) (ok : lendsOk as = true) : SR c F H (vs.map some) sl ∧ (∀ w, Slot.own false w ∉ sl) ∧ ∀ a, OwnA (vs.map some) sl a → ∃ (i j : Nat) (l : Bool) (w : W), as[j]? = some (.lend i) ∧ sl[j]? = some (.own true w) ∧ ss[i]? = some (.own l w) ∧ σ[i]? = some (some (.ref a)) ∧ vs[j]? = some (.ref a) := by
  obtain ⟨len1, len2⟩ := h.len
  have own : ∀ a, OwnA (vs.map some) sl a → ∃ (i j : Nat) (l : Bool) (w : W), as[j]? = some (.lend i) ∧ sl[j]? = some (.own true w) ∧ ss[i]? = some (.own l w) ∧ σ[i]? = some (some (.ref a)) ∧ vs[j]? = some (.ref a) := fun a ⟨j, t, h1, h2, h3⟩ => by
    obtain ⟨i, l, w, v, e1, e2, e3, e4, e5⟩ := h.own h1 h2
    obtain ⟨v', e6, e7⟩ := map_some h3
    rw [e4] at e7
    cases e7
    cases e6
    subst e2
    exact ⟨i, j, l, w, e1, h1, e3, e5, e4⟩
  have sub : ∀ a, OwnA (vs.map some) sl a → OwnA σ ss a := fun a z => by
    obtain ⟨i, j, l, w, e1, e2, e3, e4, e5⟩ := own a z
    exact ⟨i, _, e3, rfl, e4⟩
  refine ⟨⟨by rw [List.length_map, len1, len2], fun j t ov h1 h2 => ?_, fun b hb => s.nf b (sub b hb), fun j k t u b h1 h2 h3 h4 h5 h6 => ?_, fun b hl hb => ?_, s.live⟩, fun w hw => ?_, own⟩
  · obtain ⟨v, e1, e2⟩ := map_some h2
    subst e1
    obtain ⟨a, v', e3, e4, r⟩ := h.get h1
    rw [e2] at e4
    cases e4
    cases a with
    | ev m =>
      obtain ⟨w, rfl, r⟩ := r
      exact ⟨v, rfl, r⟩
    | lend i =>
      obtain ⟨l, w, e5, rfl, e6⟩ := r
      obtain ⟨b, e7, ow⟩ := s.rel i _ _ e5 e6
      exact ⟨b, e7, ow⟩
    | pk i =>
      obtain ⟨w, rfl, r, _⟩ := r
      exact ⟨v, rfl, r⟩
  · obtain ⟨i1, l1, w1, v1, e1, e2, e3, e4, e5⟩ := h.own h1 h3
    obtain ⟨i2, l2, w2, v2, g1, g2, g3, g4, g5⟩ := h.own h2 h4
    obtain ⟨v, e6, e7⟩ := map_some h5
    rw [e4] at e7
    cases e7
    cases e6
    obtain ⟨v, e6, e7⟩ := map_some h6
    rw [g4] at e7
    cases e7
    cases e6
    have := s.inj i1 i2 _ _ b e3 g3 rfl rfl e5 g5
    subst this
    exact lend_inj ok e1 g1
  · obtain ⟨i, j, l, w, e1, e2, e3, e4, e5⟩ := own b hb
    obtain ⟨k, w', h1, h2, h3⟩ := hl
    obtain ⟨v, e6, e7⟩ := map_some h3
    cases e6
    obtain ⟨a, v', e8, e9, r⟩ := h.get h1
    rw [e7] at e9
    cases e9
    cases a with
    | ev m =>
      obtain ⟨w, z, r⟩ := r
      cases z
    | lend i =>
      obtain ⟨l, w, _, z, _⟩ := r
      cases z
    | pk i2 =>
      obtain ⟨w2, z, r, e10, e11⟩ := r
      cases z
      obtain ⟨t, e12, e13⟩ := rd_some e11
      rcases e13 with ⟨l', rfl⟩ | ⟨l', rfl⟩ | rfl
      · obtain ⟨v3, e14, r3⟩ := s.rel i2 _ _ e12 e10
        cases e14
        have : F b := by
          cases w' with
          | lst ws =>
            obtain ⟨a2, vs2, e4, hF, _⟩ := r3
            cases e4
            exact hF
          | dct ks ws =>
            obtain ⟨a2, vs2, e4, hF, _⟩ := r3
            cases e4
            exact hF
          | _ => cases h2
        exact s.nf b (sub b hb) this
      · have := s.inj i i2 _ _ b e3 e12 rfl rfl e4 e10
        subst this
        exact lend_pk ok e1 e8
      · exact s.lk b ⟨i2, w', e12, h2, e10⟩ (sub b hb)
  · obtain ⟨j, hj⟩ := List.mem_iff_getElem?.mp hw
    obtain ⟨i, l, w2, v, e1, e2, _⟩ := h.own hj rfl
    cases e2
theorem back_get : ∀ {as : List Arg} {fin : List Slot} {t : Slots} {k : Nat} {s : Slot}, lendsOk as = true → fin.length = as.length → (∀ (j i : Nat), as[j]? = some (.lend i) → ∃ (l : Bool) (w : W), t[i]? = some (.own l w)) → (back as fin t)[k]? = some s →
    (t[k]? = some s ∧ ∀ (j : Nat), as[j]? ≠ some (.lend k)) ∨ ∃ (j : Nat) (l : Bool) (w : W) (s' : Slot), as[j]? = some (.lend k) ∧ t[k]? = some (.own l w) ∧ fin[j]? = some s' ∧ s = back1 l s'
  | [], fin, t, k, s, _, _, _, h => .inl ⟨by unfold back at h; exact h, fun j z => by simp at z⟩
  | a :: as, [], t, k, s, _, hl, _, h => by simp at hl
  | a :: as, f0 :: fin, t, k, s, ok, hl, ht, h => by
    have hl' : fin.length = as.length := by simpa using hl
    have ok' : lendsOk as = true := by
      cases a with
      | lend x =>
        unfold lendsOk at ok
        rw [Bool.and_eq_true] at ok
        exact ok.2
      | pk x =>
        unfold lendsOk at ok
        rw [Bool.and_eq_true] at ok
        exact ok.2
      | ev x => exact ok
    have rest : (∀ i, a ≠ .lend i) → back as fin t = back (a :: as) (f0 :: fin) t := fun n => by
      cases a with
      | lend i => exact absurd rfl (n i)
      | ev m => rfl
      | pk i => rfl
    by_cases hlend : ∃ i, a = .lend i
    · obtain ⟨i, rfl⟩ := hlend
      obtain ⟨l, w, ei⟩ := ht 0 i rfl
      have h : (back as fin (match t[i]? with | some (.own l _) => t.set i (back1 l f0) | _ => t))[k]? = some s := h
      rw [ei] at h
      have h : (back as fin (t.set i (back1 l f0)))[k]? = some s := h
      have ok1 := ok
      unfold lendsOk at ok1
      rw [Bool.and_eq_true, Bool.and_eq_true] at ok1
      have ni : i ∉ lendIx as := not_has ok1.1.1
      have ht' : ∀ (j i' : Nat), as[j]? = some (.lend i') → ∃ (l' : Bool) (w' : W), (t.set i (back1 l f0))[i']? = some (.own l' w') := fun j i' e => by
        have n : i' ≠ i := fun z => by
          rw [z] at e
          exact ni (lend_mem e)
        obtain ⟨l2, w2, e2⟩ := ht (j + 1) i' e
        exact ⟨l2, w2, by rw [List.getElem?_set_ne (Ne.symm n)]; exact e2⟩
      rcases back_get ok' hl' ht' h with ⟨h1, h2⟩ | ⟨j, l2, w2, s', h1, h2, h3, h4⟩
      · rcases get_set h1 with ⟨rfl, rfl⟩ | ⟨n, h1⟩
        · exact .inr ⟨0, l, w, f0, rfl, ei, rfl, rfl⟩
        · refine .inl ⟨h1, fun j => ?_⟩
          cases j with
          | zero =>
            intro z
            have z : Arg.lend i = .lend k := by simpa using z
            cases z
            exact n rfl
          | succ j => exact h2 j
      · have n : k ≠ i := fun z => by
          rw [z] at h1
          exact ni (lend_mem h1)
        rw [List.getElem?_set_ne (Ne.symm n)] at h2
        exact .inr ⟨j + 1, l2, w2, s', h1, h2, h3, h4⟩
    · have n : ∀ i, a ≠ .lend i := fun i z => hlend ⟨i, z⟩
      rw [← rest n] at h
      rcases back_get ok' hl' (fun j i e => ht (j + 1) i e) h with ⟨h1, h2⟩ | ⟨j, l2, w2, s', h1, h2, h3, h4⟩
      · refine .inl ⟨h1, fun j => ?_⟩
        cases j with
        | zero =>
          intro z
          have z : a = .lend k := by simpa using z
          exact n k z
        | succ j => exact h2 j
      · exact .inr ⟨j + 1, l2, w2, s', h1, h2, h3, h4⟩
theorem back_len : ∀ {as : List Arg} {fin : List Slot} {t : Slots}, (back as fin t).length = t.length
  | [], fin, t => by
    unfold back
    rfl
  | a :: as, [], t => by
    cases a <;> rfl
  | .ev m :: as, f0 :: fin, t => back_len (as := as) (fin := fin) (t := t)
  | .pk i :: as, f0 :: fin, t => back_len (as := as) (fin := fin) (t := t)
  | .lend i :: as, f0 :: fin, t => by
    show (back as fin (match t[i]? with | some (.own l _) => t.set i (back1 l f0) | _ => t)).length = _
    rw [back_len]
    split
    · rw [List.length_set]
    · rfl
/-- behind the call -/
theorem SR.back {as : List Arg} {sl fin : List Slot} {vs : List V} (s : SR c F H σ ss) (h : ArgsR c σ F H ss as sl vs) (ok : lendsOk as = true) (s' : SR c F' H' (vs.map some) fin) (f : Fm F H (OwnA (vs.map some) sl) F' H' (OwnA (vs.map some) fin)) (l : Ln (vs.map some) sl (vs.map some) fin) :
    SR c F' H' σ (VI.back as fin ss) ∧ Fm F H (OwnA σ ss) F' H' (OwnA σ (VI.back as fin ss)) ∧ Ln σ ss σ (VI.back as fin ss) ∧ (∀ a, Fr H a → ¬ Busy σ (VI.back as fin ss) a) := by
  obtain ⟨sm, nown, own⟩ := s.callee h ok
  obtain ⟨len1, len2⟩ := h.len
  have lenf : fin.length = as.length := by rw [← s'.len, List.length_map, len2]
  have subm : ∀ a, OwnA (vs.map some) sl a → OwnA σ ss a := fun a z => by
    obtain ⟨i, j, l, w, e1, e2, e3, e4, e5⟩ := own a z
    exact ⟨i, _, e3, rfl, e4⟩
  have lent : ∀ (j i : Nat), as[j]? = some (.lend i) → ∃ (l : Bool) (w : W) (v : V), ss[i]? = some (.own l w) ∧ sl[j]? = some (.own true w) ∧ vs[j]? = some v ∧ σ[i]? = some (some v) := fun j i e => by
    have hj : j < sl.length := by rw [len1]; exact (List.getElem?_eq_some_iff.mp e).1
    obtain ⟨a, v, h1, h2, h3⟩ := h.get (List.getElem?_eq_getElem hj)
    rw [e] at h1
    cases h1
    obtain ⟨l, w, h4, h5, h6⟩ := h3
    exact ⟨l, w, v, h4, by rw [← h5, List.getElem?_eq_getElem hj], h2, h6⟩
  -- a slot behind the call
  have look : ∀ (k : Nat) (t : Slot), (VI.back as fin ss)[k]? = some t → (ss[k]? = some t ∧ ∀ (j : Nat), as[j]? ≠ some (.lend k)) ∨ ∃ (l : Bool) (w : W) (a : Addr) (w' : W), ss[k]? = some (.own l w) ∧ σ[k]? = some (some (.ref a)) ∧ isMut w' = true ∧ ((t = .own l w' ∧ OwnAt c F' H' a w' ∧ ¬ F' a) ∨ (t = .fr l w' ∧ RepF c F' H' w' (.ref a))) := fun k t e => by
    rcases back_get ok lenf (fun j i e => by obtain ⟨l, w, v, e1, _⟩ := lent j i e; exact ⟨l, w, e1⟩) e with h1 | ⟨j, l0, w0, s1, h1, h2, h3, h4⟩
    · exact .inl h1
    · obtain ⟨l1, w1, v, g1, g2, g3, g4⟩ := lent j k h1
      rw [h2] at g1
      cases g1
      obtain ⟨b, eb, ow⟩ := s.rel k _ _ h2 g4
      cases eb
      refine .inr ⟨l0, w0, b, ?_⟩
      obtain ⟨_, t1, e1, e2⟩ := l.st j _ g2 rfl
      rw [h3] at e1
      cases e1
      have eσ : (vs.map some)[j]? = some (some (.ref b)) := by rw [List.getElem?_map, g3]; rfl
      rcases e2 with ⟨w', rfl⟩ | ⟨w', rfl, mw⟩
      · obtain ⟨b', eb', ow'⟩ := s'.rel j _ _ h3 eσ
        cases eb'
        exact ⟨w', h2, g4, ow'.mutW, .inl ⟨h4, ow', s'.nf b ⟨j, _, h3, rfl, eσ⟩⟩⟩
      · obtain ⟨b', eb', rw'⟩ := s'.rel j _ _ h3 eσ
        cases eb'
        exact ⟨w', h2, g4, mw, .inr ⟨h4, rw'⟩⟩
  have sub : ∀ a, OwnA σ (VI.back as fin ss) a → OwnA σ ss a := fun a ⟨k, t, h1, h2, h3⟩ => by
    rcases look k t h1 with ⟨h4, _⟩ | ⟨l, w, a', w', h4, h5, _⟩
    · exact ⟨k, t, h4, h2, h3⟩
    · exact ⟨k, _, h4, rfl, h3⟩
  have subl : ∀ a, LkA σ (VI.back as fin ss) a → LkA σ ss a := fun a ⟨k, w, h1, h2, h3⟩ => by
    rcases look k _ h1 with ⟨h4, _⟩ | ⟨l, w, a', w', h4, h5, _, ⟨h6, _⟩ | ⟨h6, _⟩⟩
    · exact ⟨k, w, h4, h2, h3⟩
    · cases h6
    · cases h6
  have fm : Fm F H (OwnA σ ss) F' H' (OwnA σ (VI.back as fin ss)) := ⟨fun a o h n t => f.keep a o h (fun z => n (subm a z)) t, f.live, f.mono, fun a z => by
    rcases f.fnew a z with z | z | z
    · exact .inl z
    · exact .inr (.inl (subm a z))
    · exact .inr (.inr z), fun a z => .inl (sub a z)⟩
  have k := s.kp fm
  -- what was not lent stands
  have notm : ∀ {k : Nat} {t : Slot} {a : Addr}, ss[k]? = some t → (∀ (j : Nat), as[j]? ≠ some (.lend k)) → isOwn t = true → σ[k]? = some (some (.ref a)) → ¬ OwnA (vs.map some) sl a := fun {k t a} h1 h2 h3 h4 z => by
    obtain ⟨i, j, l, w, e1, e2, e3, e4, e5⟩ := own a z
    have := s.inj k i _ _ a h1 e3 h3 rfl h4 e4
    subst this
    exact h2 j e1
  refine ⟨⟨by rw [back_len]; exact s.len, fun i t ov h1 h2 => ?_, fun b hb => ?_, fun i j t u b h1 h2 h3 h4 h5 h6 => ?_, fun b hl hb => s.lk b (subl b hl) (sub b hb), s'.live⟩, fm, ⟨fun i t h1 h2 => ⟨rfl, ?_⟩, fun i w h1 => ?_⟩, fun a ha z => s.fresh ha (z.imp (sub a) (subl a))⟩
  · rcases look i t h1 with ⟨h3, h4⟩ | ⟨l, w, a, w', h3, h4, mw, ⟨h5, h6, _⟩ | ⟨h5, h6⟩⟩
    · have q := s.rel i t ov h3 h2
      cases t with
      | no => trivial
      | fr l w =>
        obtain ⟨v, ev, q⟩ := q
        exact ⟨v, ev, RepF.kp k _ _ q⟩
      | own l w =>
        obtain ⟨b, ev, q⟩ := q
        subst ev
        exact ⟨b, rfl, q.keep k fun o ho t => f.keep b o ho (notm h3 h4 rfl h2) t⟩
      | lk w =>
        obtain ⟨v, ev, q⟩ := q
        refine ⟨v, ev, ?_⟩
        rcases q with q | ⟨b, eb, q⟩
        · exact .inl (RepF.kp k _ _ q)
        · subst eb
          subst ev
          exact .inr ⟨b, rfl, q.keep k fun o ho t => f.keep b o ho (fun z => s.lk b ⟨i, w, h3, q.mutW, h2⟩ (subm b z)) t⟩
    · rw [h4] at h2
      cases h2
      subst h5
      exact ⟨a, rfl, h6⟩
    · rw [h4] at h2
      cases h2
      subst h5
      exact ⟨_, rfl, h6⟩
  · obtain ⟨i, t, h1, h2, h3⟩ := hb
    rcases look i t h1 with ⟨h4, h5⟩ | ⟨l, w, a, w', h4, h5, mw, ⟨h6, h7, h8⟩ | ⟨h6, h7⟩⟩
    · obtain ⟨u, hu, mu, _⟩ := s.own ⟨i, t, h4, h2, h3⟩
      exact f.notF (s.nf b ⟨i, t, h4, h2, h3⟩) (notm h4 h5 h2 h3) hu (noTb_mut mu)
    · rw [h5] at h3
      cases h3
      exact h8
    · subst h6
      cases h2
  · have old : ∀ {i : Nat} {t : Slot}, (VI.back as fin ss)[i]? = some t → isOwn t = true → ∃ t', ss[i]? = some t' ∧ isOwn t' = true := fun {i t} e o => by
      rcases look i t e with ⟨h4, h5⟩ | ⟨l, w, a, w', h4, _⟩
      · exact ⟨t, h4, o⟩
      · exact ⟨_, h4, rfl⟩
    obtain ⟨t', g1, g2⟩ := old h1 h3
    obtain ⟨u', g3, g4⟩ := old h2 h4
    exact s.inj i j t' u' b g1 g3 g2 g4 h5 h6
  · have hl : i < (VI.back as fin ss).length := by
      rw [back_len]
      exact (List.getElem?_eq_some_iff.mp h1).1
    refine ⟨_, List.getElem?_eq_getElem hl, ?_⟩
    rcases look i _ (List.getElem?_eq_getElem hl) with ⟨h4, h5⟩ | ⟨l, w, a, w', h4, h5, mw, ⟨h6, h7, h8⟩ | ⟨h6, h7⟩⟩
    · rw [h1] at h4
      rw [← Option.some.inj h4]
      exact Nfr.refl h2
    · rw [h1] at h4
      cases h4
      rw [h6]
      cases l
      · cases h2
      · exact .inl ⟨w', rfl⟩
    · rw [h1] at h4
      cases h4
      rw [h6]
      cases l
      · cases h2
      · exact .inr ⟨w', rfl, mw⟩
  · rcases look i _ h1 with ⟨h4, _⟩ | ⟨l, w, a', w', h4, h5, _, ⟨h6, _⟩ | ⟨h6, _⟩⟩
    · exact h4
    · cases h6
    · cases h6
/-! ### calls -/
inductive SimAs (c : Cn) (X : Cx) : List Expr → List Arg → Prop
  | nil : SimAs c X [] []
  | cons {e : Expr} {es : List Expr} {o : Arg} {os : List Arg} (h : SimA c X e o) (t : SimAs c X es os) (hs : starEach (e :: es) X.env = (false, eval e X.env) :: starEach es X.env := by rfl) : SimAs c X (e :: es) (o :: os)
theorem SimAs.pa {Wx : WX} (tk : Takes X Wx) : ∀ {es : List Expr} {os : List Arg}, SimAs c X es os → PA X es (rdAs c Wx os)
  | _, _, .nil => pa_nil
  | _, _, .cons h t hs => pa_cons (h Wx tk) (t.pa tk) hs
theorem sim_argE (h : SimE c X e m) : SimA c X e (.ev m) := h
theorem sim_argL (i : Nat) {x : Str} (hN : X.N[i]? = some x := by rfl) (hv : Vis X.env.scope x := by first | exact Or.inl rfl | exact Or.inr (Or.inl rfl) | exact Or.inr (Or.inr rfl)) (hd : (x == ("__debug__" : Str)) = false := by decide)
    (hcd : (x == ("__classdict__" : Str)) = false := by decide) : SimA c X (.Name x pos) (.lend i) := fun _ _ => pe_var hN hv hd hcd
theorem sim_argP (i : Nat) {x : Str} (hN : X.N[i]? = some x := by rfl) (hv : Vis X.env.scope x := by first | exact Or.inl rfl | exact Or.inr (Or.inl rfl) | exact Or.inr (Or.inr rfl)) (hd : (x == ("__debug__" : Str)) = false := by decide)
    (hcd : (x == ("__classdict__" : Str)) = false := by decide) : SimA c X (.Name x pos) (.pk i) := fun _ _ => pe_var hN hv hd hcd
section
variable {k : Nat} {f : Addr} {fd : FuncData} {ps : List Str} {sp : Sp} {E : L2.St → XK} {x : Str} {p : Pos} {es : List Expr} {t : TA}
theorem run_G {pins : List (Addr × Obj)} {s : Shared} {Q : VK} {us : List Value} {vs : List V} (F : FnG X.prog X.w X.K X.mg X.base k f fd ps sp) (hr : Rm k X.A) (hb : Binds X.K fd ps []) (hx : PassesAt (L2.CX X.prog X.w) X σ (E σ)) (I : Inv X pins σ H s) (r : Vals vs us) (h : sp vs H Q (E σ)) :
    wpAny (model X.prog X.w) X.A (call (.ref f) us) (EP X pins σ Q) X.xe s := by
  have n : us.length = ps.length := r.length.symm.trans (F.len _ _ _ _ h)
  have b := hb s us I.kIn (by rw [List.append_nil]; exact n)
  rw [List.append_nil] at b
  apply wpAny_call
  refine codeAny_mono (F.run X.A X.stack s H ⟨us, []⟩ us vs Q (E σ) hr.room hr.gd I.env0 b r h) fun r' s' hq => ?_
  match r', hq with
  | .error e, hq => exact hx pins H s e s' I hq
  | .ok (.ret u), hq => exact I.after hq
  | .ok .next, hq => exact False.elim hq
  | .ok .brk, hq => exact False.elim hq
  | .ok .cont, hq => exact False.elim hq
theorem pe_callG (F : FnG X.prog X.w X.K X.mg X.base k f fd ps sp) (hr : Rm k X.A) (hg : Gl X x) (hm : X.mg x = some (.ref f)) (hk : PySem.W.keepIn X.K (.ref f) = true) (hb : Binds X.K fd ps []) (hx : ∀ σ, PassesAt (L2.CX X.prog X.w) X σ (E σ)) (ha : PA X (e :: es) t)
    (hdb : (x == ("__debug__" : Str)) = false) (he : starEach (e :: es) X.env = (false, eval e X.env) :: starEach es X.env) (hpl : (backTo pos (starEach es X.env)).any (·.1) = false) : PE X (.Call (.Name x p) (e :: es) [] pos) (tCallS sp E t) := by
  constructor
  intro pins s σ H Q I h
  apply wpAny_Call_Name_kw
  apply ld_glob I hg hm (hd := hdb)
  exact PySem.W.callWith_K (h₀ := X.base) I.ok.mod.kin hk (thn (ha.run pos pins s σ H _ I h) fun us s1 ⟨vs, H1, I1, r, q⟩ => ⟨I1.kIn, run_G F hr hb (hx σ) I1 r q⟩) he hpl
theorem pe_callG0 (F : FnG X.prog X.w X.K X.mg X.base k f fd ps sp) (hr : Rm k X.A) (hg : Gl X x) (hm : X.mg x = some (.ref f)) (hk : PySem.W.keepIn X.K (.ref f) = true) (hb : Binds X.K fd ps []) (hx : ∀ σ, PassesAt (L2.CX X.prog X.w) X σ (E σ))
    (hdb : (x == ("__debug__" : Str)) = false) : PE X (.Call (.Name x p) [] [] pos) (tCallS sp E tNil) := by
  constructor
  intro pins s σ H Q I h
  apply wpAny_Call_Name_kw
  apply ld_glob I hg hm (hd := hdb)
  exact PySem.W.callWith_K0 I.kIn hk (run_G (us := []) F hr hb (hx σ) I .nil h)
end
/-- a def of the text that can be called here -/
structure Def (c : Cn) (X : Cx) (x : Str) (n : Nat) (g : List Slot → FOut) : Prop where
  is : ∃ k f fd ps, FnG X.prog X.w X.K X.mg X.base k f fd ps (spF c n g) ∧ Rm k X.A ∧ X.mg x = some (.ref f) ∧ PySem.W.keepIn X.K (.ref f) = true ∧ Binds X.K fd ps [] ∧ ps.length = n
/-- behind the arguments -/
def callK (ok : Bool → W → Bool) (g : List Slot → FOut) (as : List Arg) (sl : List Slot) : M W := fun ss => match g sl with
  | some (.ok (o, w) fin) => if ok o w then some (.ok w (VI.back as fin ss)) else none
  | some (.exc k w fin) => some (.exc k w (VI.back as fin ss))
  | none => none
theorem call_core {n : Nat} {g : List Slot → FOut} {as : List Arg} {sl : List Slot} {vs : List V} {Q : VK} {T : Rl W V} {o1 : Bool → W → Bool} (s : SR c F H σ ss) (h : ArgsR c σ F H ss as sl vs) (hn : vs.length = n) (ok : lendsOk as = true)
    (hT : ∀ (o : Bool) (w : W) (v : V) (F' : Addr → Prop) (H' : Hp) (B : Bz) (s2 : Slots), o1 o w = true → SR c F' H' σ s2 → (∀ a, Fr H a → ¬ Busy σ s2 a) → ResR c o B F' H H' w v → ∃ F'', (F'' = F' ∨ ∃ a, Fr H a ∧ F'' = plus F' a) ∧ SR c F'' H' σ s2 ∧ T (BZ σ s2) F'' H H' w v)
    (h2 : From c (callK o1 g as sl) T Wx σ F H ss Q) : spF c n g vs H Q (fun cls d H' => Wx cls d σ H') := by
  obtain ⟨sm, nown, own⟩ := s.callee h ok
  refine ⟨hn, F, sl, sm, nown, ?_⟩
  cases eg : g sl with
  | none =>
    have z : callK o1 g as sl ss = none := by
      unfold callK
      rw [eg]
    rcases h2 with ⟨a, s', e, _⟩ | ⟨j, w, s', e, _⟩ <;> rw [z] at e <;> cases e
  | some r =>
    cases r with
    | exc k w fin =>
      have z : callK o1 g as sl ss = some (.exc k w (VI.back as fin ss)) := by
        unfold callK
        rw [eg]
      rcases h2 with ⟨a, s', e, _⟩ | ⟨j, w, s', e, q⟩
      · rw [z] at e
        cases e
      · rw [z] at e
        cases e
        refine .inr ⟨k, w, fin, rfl, fun cls d F' H' f' s' l' x => ?_⟩
        obtain ⟨g1, g2, g3, _⟩ := s.back h ok s' f' l'
        exact q cls d F' H' g2 g1 g3 x
    | ok p fin =>
      obtain ⟨o, w⟩ := p
      cases e1 : o1 o w with
      | false =>
        have z : callK o1 g as sl ss = none := by
          unfold callK
          rw [eg]
          show (if o1 o w = true then _ else none) = none
          rw [e1]
          rfl
        rcases h2 with ⟨a, s', e, _⟩ | ⟨j, w, s', e, _⟩ <;> rw [z] at e <;> cases e
      | true =>
        have z : callK o1 g as sl ss = some (.ok w (VI.back as fin ss)) := by
          unfold callK
          rw [eg]
          show (if o1 o w = true then _ else none) = _
          rw [e1]
          rfl
        rcases h2 with ⟨a, s', e, q⟩ | ⟨j, w, s', e, _⟩
        · rw [z] at e
          cases e
          refine .inl ⟨o, w, fin, rfl, fun v F' H' f' s' l' r => ?_⟩
          obtain ⟨g1, g2, g3, g4⟩ := s.back h ok s' f' l'
          obtain ⟨F'', eF, sF, tF⟩ := hT o w v F' H' _ _ e1 g1 g4 r
          refine q v F'' H' ?_ sF g3 tF
          rcases eF with rfl | ⟨b, hb, rfl⟩
          · exact g2
          · exact g2.plusA (.inr hb)
        · rw [z] at e
          cases e
theorem SimAs.len {es : List Expr} {as : List Arg} (h : SimAs c X es as) : es.length = as.length := by
  induction h with
  | nil => rfl
  | cons _ _ _ ih => rw [List.length_cons, List.length_cons, ih]
theorem call_T {n : Nat} {g : List Slot → FOut} {as : List Arg} {Q : VK} {T : Rl W V} {o1 : Bool → W → Bool} (eT : Early T) (hn : as.length = n) (ok : lendsOk as = true)
    (hT : ∀ (o : Bool) (w : W) (v : V) (F' : Addr → Prop) (H H' : Hp) (B : Bz) (s2 : Slots), o1 o w = true → SR c F' H' σ s2 → (∀ a, Fr H a → ¬ Busy σ s2 a) → ResR c o B F' H H' w v → ∃ F'', (F'' = F' ∨ ∃ a, Fr H a ∧ F'' = plus F' a) ∧ SR c F'' H' σ s2 ∧ T (BZ σ s2) F'' H H' w v)
    (h : tM c (callM o1 g as) T Wx σ H Q) : tCallS (spF c n g) (WE Wx) (rdAs c Wx as) σ H Q := by
  obtain ⟨F, ss, s, h⟩ := h
  have h : From c (mbd (args as) (callK o1 g as)) T Wx σ F H ss Q := h
  refine rdAs_mono (args_read eT as s h) fun vs H1 ⟨sl, F1, ss1, s1, ar, f1, h1⟩ => ?_
  exact call_core s1 ar (ar.len.2.trans hn) ok (fun o w v F' H' B s2 => hT o w v F' H1 H' B s2) h1
theorem res_F {o : Bool} {w : W} {v : V} {B : Bz} (s : SR c F' H' σ ss) (nb : ∀ a, Fr H a → ¬ Busy σ ss a) (r : ResR c o B F' H H' w v) : ∃ F'', (F'' = F' ∨ ∃ a, Fr H a ∧ F'' = plus F' a) ∧ SR c F'' H' σ ss ∧ rF c (BZ σ ss) F'' H H' w v := by
  unfold ResR at r
  split at r
  · obtain ⟨a, ev, hn, nF, _, ow⟩ := r
    subst ev
    obtain ⟨u, hu, mu, _⟩ := ow.mut
    exact ⟨_, .inr ⟨a, hn, rfl⟩, s.plusA hu mu (fun z => nb a hn (.inl z)), ow.rep⟩
  · exact ⟨F', .inl rfl, s, r⟩
theorem res_O {o : Bool} {w : W} {v : V} {B : Bz} (ho : (o || !isMutW w) = true) (s : SR c F' H' σ ss) (nb : ∀ a, Fr H a → ¬ Busy σ ss a) (r : ResR c o B F' H H' w v) : ∃ F'', (F'' = F' ∨ ∃ a, Fr H a ∧ F'' = plus F' a) ∧ SR c F'' H' σ ss ∧ rO c (BZ σ ss) F'' H H' w v := by
  refine ⟨F', .inl rfl, s, ?_⟩
  unfold ResR at r
  split at r
  · rename_i y
    obtain ⟨a, ev, hn, nF, _, ow⟩ := r
    subst ev
    have nb := nb a hn
    cases w with
    | lst ws => exact ⟨a, rfl, hn, nF, nb, ow⟩
    | dct ks ws => exact ⟨a, rfl, hn, nF, nb, ow⟩
    | _ => cases y.2
  · rename_i y
    cases w with
    | lst ws =>
      cases o
      · cases ho
      · exact absurd ⟨rfl, rfl⟩ y
    | dct ks ws =>
      cases o
      · cases ho
      · exact absurd ⟨rfl, rfl⟩ y
    | _ => exact r
theorem sim_call {x : Str} {n : Nat} {g : List Slot → FOut} {p : Pos} {es : List Expr} {as : List Arg} (d : Def c X x n g) (ha : SimAs c X (e :: es) as) (hn : as.length = n := by rfl) (ok : lendsOk as = true := by rfl) (hg : Gl X x := by rfl) (hdb : (x == ("__debug__" : Str)) = false := by decide)
    (he : starEach (e :: es) X.env = (false, eval e X.env) :: starEach es X.env := by rfl) (hpl : (backTo pos (starEach es X.env)).any (·.1) = false := by rfl) : SimE c X (.Call (.Name x p) (e :: es) [] pos) (eCall g as) := fun Wx tk => by
  obtain ⟨k, f, fd, ps, F, hr, hm, hk, hb, hl⟩ := d.is
  exact PE.imp (pe_callG F hr hg hm hk hb (fun σ => passAt tk σ) (ha.pa tk) hdb he hpl) fun σ H Q q => call_T early_F hn ok (fun o w v F' H H' B s2 _ s nb r => res_F s nb r) q
theorem sim_callO {x : Str} {n : Nat} {g : List Slot → FOut} {p : Pos} {es : List Expr} {as : List Arg} (d : Def c X x n g) (ha : SimAs c X (e :: es) as) (hn : as.length = n := by rfl) (ok : lendsOk as = true := by rfl) (hg : Gl X x := by rfl) (hdb : (x == ("__debug__" : Str)) = false := by decide)
    (he : starEach (e :: es) X.env = (false, eval e X.env) :: starEach es X.env := by rfl) (hpl : (backTo pos (starEach es X.env)).any (·.1) = false := by rfl) : SimO c X (.Call (.Name x p) (e :: es) [] pos) (eCallO g as) := fun Wx tk => by
  obtain ⟨k, f, fd, ps, F, hr, hm, hk, hb, hl⟩ := d.is
  exact PE.imp (pe_callG F hr hg hm hk hb (fun σ => passAt tk σ) (ha.pa tk) hdb he hpl) fun σ H Q q => call_T early_O hn ok (fun o w v F' H H' B s2 ho s nb r => res_O ho s nb r) q
theorem sim_call0 {x : Str} {g : List Slot → FOut} {p : Pos} (d : Def c X x 0 g) (hg : Gl X x := by rfl) (hdb : (x == ("__debug__" : Str)) = false := by decide) : SimE c X (.Call (.Name x p) [] [] pos) (eCall g []) := fun Wx tk => by
  obtain ⟨k, f, fd, ps, F, hr, hm, hk, hb, hl⟩ := d.is
  exact PE.imp (pe_callG0 F hr hg hm hk hb (fun σ => passAt tk σ) hdb) fun σ H Q q => call_T (as := []) early_F rfl rfl (fun o w v F' H H' B s2 _ s nb r => res_F s nb r) q
theorem sim_callO0 {x : Str} {g : List Slot → FOut} {p : Pos} (d : Def c X x 0 g) (hg : Gl X x := by rfl) (hdb : (x == ("__debug__" : Str)) = false := by decide) : SimO c X (.Call (.Name x p) [] [] pos) (eCallO g []) := fun Wx tk => by
  obtain ⟨k, f, fd, ps, F, hr, hm, hk, hb, hl⟩ := d.is
  exact PE.imp (pe_callG0 F hr hg hm hk hb (fun σ => passAt tk σ) hdb) fun σ H Q q => call_T (as := []) early_O rfl rfl (fun o w v F' H H' B s2 ho s nb r => res_O ho s nb r) q
end
end VI

set_option Elab.async false
set_option linter.all false
set_option maxRecDepth 100000
set_option maxHeartbeats 1000000
/-! VI, part 15: a try with several clauses, some of which name the exception. -/
namespace VI
open PySem L2 PySem.Spec PyProof.Rows
/-- a clause: its class, the slot of its name, its suite's reading -/
structure Clause where
  c : Value
  i : Option Nat
  ts : Addr → Value → Option Addr → TS
/-- the name's slot is empty behind the suite -/
def goneAt (i : Nat) (D : Ends) : Ends := { nx := fun σ H => D.nx (σ.set i none) H, rt := D.rt, bk := fun σ H => D.bk (σ.set i none) H, ct := fun σ H => D.ct (σ.set i none) H }
def wMix (K : PySem.W.Frag) (Wout : WX) (D : Ends) : List Clause → WX
  | [] => Wout
  | q :: r => fun cls d σ H => ∃ hit, PySem.W.exmOne K cls q.c = some hit ∧ (hit = false → wMix K Wout D r cls d σ H) ∧ (hit = true → ∀ a, H a = none → match q.i with
    | none => q.ts a cls d D σ H
    | some i => q.ts a cls d (goneAt i D) (σ.set i (some (.ref a))) H)
inductive Clauses (X : Cx) : List ExceptHandler → List Clause → Prop
  | none : Clauses X [] []
  | plain {x : Str} {c : Value} {ts : Addr → Value → Option Addr → TS} {st : Stmt} {sts : List Stmt} {p q : Pos} {hds : List ExceptHandler} {l : List Clause} (nm : Names X x c)
      (su : ∀ a oe cls d pn, Zc cls d oe → (∃ vs, oe.data = .fields vs) → PSs (X.suite a ((a, oe) :: pn)) (st :: sts) (ts a cls d)) (r : Clauses X hds l) :
      Clauses X (.ExceptHandler (some (.Name x p)) .none (st :: sts) q :: hds) (⟨c, .none, ts⟩ :: l)
  | named {x n : Str} {c : Value} {i : Nat} {ts : Addr → Value → Option Addr → TS} {st : Stmt} {sts : List Stmt} {p q : Pos} {hds : List ExceptHandler} {l : List Clause} (nm : Names X x c) (hi : X.N[i]? = some n) (hl : X.env.kindOf n = some .local)
      (su : ∀ a oe cls d pn, Zc cls d oe → (∃ vs, oe.data = .fields vs) → PSs (X.suite a ((a, oe) :: pn)) (st :: sts) (ts a cls d)) (r : Clauses X hds l) :
      Clauses X (.ExceptHandler (some (.Name x p)) (some n) (st :: sts) q :: hds) (⟨c, some i, ts⟩ :: l)
/-- an exception that lies before the clauses -/
structure Caught (X : Cx) (pins : List (Addr × Obj)) (σ : L2.St) (H : Hp) (a : Addr) (cls : Value) (d : Option Addr) (B : Heap) (sI s : Shared) : Prop where
  inv : Inv X pins σ H sI
  low : ∀ b o, sI.heap.get? b = some o → b ∉ frs X.stack → B.get? b = some o
  up : sI.heap.UpToSlots s.heap
  fly : HandSPX.FlyingZ B (X.env :: X.outer) a (Zc cls d) s.heap
  na : H a = none
  os : s.os = sI.os
  ag : AllBare s.gens
section
variable {X : Cx} {pins : List (Addr × Obj)} {σ : L2.St} {H : Hp} {a : Addr} {cls : Value} {d : Option Addr} {B : Heap} {sI s : Shared} {D : Ends} {Wout : WX}
theorem Caught.there (C : Caught X pins σ H a cls d B sI s) (hf : X.env.frame = some X.env.locals) : ∃ oe, Zc cls d oe ∧ (∃ vs, oe.data = .fields vs) ∧ s.heap.get? a = some oe ∧ Inv (X.suite a ((a, oe) :: (X.pn ++ pins))) [] σ H s := by
  obtain ⟨oe, vs, e, z, dd⟩ := C.fly.there
  have J : Inv X pins σ H s := C.inv.landed C.low C.fly.1 C.up C.os C.ag
  have far : a ∉ frs (X.env :: X.outer) := fun hm => by
    obtain ⟨_, o, eo, no⟩ := C.fly.2.2.1.mem hm
    rw [e] at eo
    cases eo
    exact no _ dd
  have here : a ≠ X.env.locals := fun q => far (List.mem_filterMap.mpr ⟨X.env, List.mem_cons_self, by rw [hf, q]⟩)
  have out : a ∉ X.fs := fun q => by
    obtain ⟨v, hv, ev⟩ := List.mem_filterMap.mp q
    exact far (List.mem_filterMap.mpr ⟨v, List.mem_cons_of_mem _ hv, ev⟩)
  exact ⟨oe, z, ⟨vs, dd⟩, e, J.suite e dd C.na here out⟩
theorem Caught.step {s' : Shared} {h : Heap} (C : Caught X pins σ H a cls d B sI s) (fl : HandSPX.FlyingZ B (X.env :: X.outer) a (Zc cls d) h) (up : s.heap.UpToSlots h) : Caught X pins σ H a cls d B sI { s with heap := h } :=
  ⟨C.inv, C.low, C.up.trans up, fl, C.na, C.os, C.ag⟩
/-- no clause is left -/
theorem Caught.on (C : Caught X pins σ H a cls d B sI s) (hs : X.stack = X.env :: X.outer) (hf : X.env.frame = some X.env.locals) (tk : Takes X Wout) (w : Wout cls d σ H) : wpAny (model X.prog X.w) X.A (handleBy (.ref a) X.env []) (SP X pins D) X.xe s := by
  obtain ⟨_, _, _, oe, vs, T, _, _, e1, _, e2, e3, _⟩ := id C.fly
  apply wpAny_handleBy_nil
  unfold PySem.passOn
  apply wpAny_bind
  apply wpAny_field e1 e2 e3
  rw [if_neg (by simp)]
  have last : wpAny (model X.prog X.w) X.A (setFlight (.ref a) X.env.frame) (fun _ t => wpAny (model X.prog X.w) X.A (throw (.ref a) : Sem PySem.Flow) (SP X pins D) X.xe t) X.xe s := by
    rw [hf]
    exact HandSPX.setFlight_upZ C.fly fun h1 hd1 up1 => wpAny_throw (tk _ _ ⟨a, B, sI, pins, σ, H, cls, d, rfl, C.inv, C.low, C.up.trans up1, .inr (.inr (hs.symm ▸ hd1)), C.na, C.os, C.ag, w⟩)
  first
    | exact wpAny_bind last
    | exact wpAny_bind (wpAny_pure (wpAny_bind last))
/-- the end of a suite -/
theorem suite_out {f : PySem.Flow} {t : Shared} {q : Addr × Obj} (ok : X.Ok) (h : SP (X.suite a (q :: (X.pn ++ pins))) [] D f t) : SP X pins D f t := by
  cases f with
  | next => exact h.imp fun _ h => h.imp fun _ h => ⟨h.1.unsuite ok, h.2⟩
  | brk => exact h.imp fun _ h => h.imp fun _ h => ⟨h.1.unsuite ok, h.2⟩
  | cont => exact h.imp fun _ h => h.imp fun _ h => ⟨h.1.unsuite ok, h.2⟩
  | ret u => exact h.imp fun _ h => h.imp fun _ h => h.imp fun _ h => ⟨h.1.unsuite ok, h.2⟩
theorem handle_mix (ok : X.Ok) (hs : X.stack = X.env :: X.outer) (hf : X.env.frame = some X.env.locals) (hN : X.N.Nodup) (tk : Takes X Wout) {hds : List ExceptHandler} {l : List Clause} (hh : Clauses X hds l) :
    ∀ {s : Shared}, Caught X pins σ H a cls d B sI s → wMix X.K Wout D l cls d σ H → wpAny (model X.prog X.w) X.A (handleBy (.ref a) X.env hds) (SP X pins D) X.xe s := by
  -- the class that a clause names is looked up, and asked
  have ask : ∀ {x : Str} {c : Value} {np : Pos} {hit : Bool} {s : Shared} {E : Value → Shared → Prop} {Q : Bool → Shared → Prop}, Caught X pins σ H a cls d B sI s → Names X x c → PySem.W.exmOne X.K cls c = some hit → Q hit s →
      wpAny (model X.prog X.w) (X.A.mark (some (.ref a))) (eval (.Name x np) X.env) (fun v s₁ => wpAny (model X.prog X.w) (X.A.mark (some (.ref a))) (excMatches (.ref a) v) Q E s₁) E s := by
    intro x c np hit s E Q C nm eh q
    obtain ⟨oe, z, _, e, S⟩ := C.there hf
    have ty : PySem.W.Looks (model X.prog X.w) s.heap (typeOf (.ref a)) cls := fun _ _ _ _ k y => wpAny_typeOf_ref (k _ _ e) (z.1.symm ▸ y)
    have hit := (PySem.W.exm_one (M := model X.prog X.w) (C.inv.landed C.low C.fly.1 C.up C.os C.ag).kIn ty eh).here (A := X.A.mark (some (.ref a))) (E := E) q
    obtain ⟨g, db, m | ⟨m, v, nn⟩⟩ := nm
    · exact ld_glob (X := X.suite a ((a, oe) :: (X.pn ++ pins))) S g m hit db
    · exact ld_blt (X := X.suite a ((a, oe) :: (X.pn ++ pins))) S g m v hit nn db
  induction hh with
  | none =>
    intro s C w
    exact C.on hs hf tk w
  | @plain x c ts st sts p q hds l nm su r ih =>
    intro s C w
    obtain ⟨hit, eh, no, yes⟩ := w
    refine wpAny_handleBy_cons (codeAny_handlers_test (ask C nm eh ?_)) (fun y => by cases y)
    cases hit with
    | false => exact ih C (no rfl)
    | true =>
      refine codeAny_handlers_suite (HandSPX.lands_againZ C.fly fun h1 fl1 up1 => ?_)
      have C1 := C.step (s' := s) fl1 up1
      obtain ⟨oe, z, dd, e, S⟩ := C1.there hf
      exact wpAny_mono ((su a oe cls d (X.pn ++ pins) z dd).run [] _ σ H D S (yes rfl a C.na)) (fun f t ht => suite_out ok ht) fun _ _ z => z.elim
  | @named x n c i ts st sts p q hds l nm hi hl su r ih =>
    intro s C w
    obtain ⟨hit, eh, no, yes⟩ := w
    refine wpAny_handleBy_cons (codeAny_handlers_test (ask C nm eh ?_)) (fun y => by cases y)
    cases hit with
    | false => exact ih C (no rfl)
    | true =>
      refine codeAny_handlers_suite_as (HandSPX.lands_againZ C.fly fun h1 fl1 up1 => ?_)
      have C1 := C.step (s' := s) fl1 up1
      obtain ⟨oe, z, dd, e, S⟩ := C1.there hf
      refine store_ok (X := X.suite a ((a, oe) :: (X.pn ++ pins))) (v := .ref a) S hN hi (.inl hl) rfl (fun s2 S2 => ?_) (.inr hl)
      refine wpAny_mono ((su a oe cls d (X.pn ++ pins) z dd).run [] s2 _ H (goneAt i D) S2 (yes rfl a C.na)) (fun f t ht => ?_) fun _ _ z => z.elim
      have away : ∀ {σ1 : L2.St} {H1 : Hp} {P : Shared → Prop}, Inv (X.suite a ((a, oe) :: (X.pn ++ pins))) [] σ1 H1 t → (∀ t', Inv X pins (σ1.set i none) H1 t' → P t') →
          wpAny (model X.prog X.w) X.A (do bindName X.env n .none; unbindBehindTheSuite X.env n q) (fun _ t' => P t') X.xe t := fun S1 k => gone_ok (S1.unsuite ok) hN hi hl k
      cases f with
      | ret u =>
        obtain ⟨v, σ1, H1, S1, rv, y⟩ := ht
        exact away S1 fun t' J => ⟨v, _, H1, J, rv, y⟩
      | next =>
        obtain ⟨σ1, H1, S1, y⟩ := ht
        exact away S1 fun t' J => ⟨_, H1, J, y⟩
      | brk =>
        obtain ⟨σ1, H1, S1, y⟩ := ht
        exact away S1 fun t' J => ⟨_, H1, J, y⟩
      | cont =>
        obtain ⟨σ1, H1, S1, y⟩ := ht
        exact away S1 fun t' J => ⟨_, H1, J, y⟩
end
/-- try: body, except .. (as ..): .. -/
theorem ps_try_mix {X : Cx} {body : List Stmt} {hd : ExceptHandler} {hds : List ExceptHandler} {l : List Clause} {pos : Pos} {tb : WX → TS} {Wout : WX} (hs : X.stack = X.env :: X.outer) (hf : X.env.frame = some X.env.locals) (hN : X.N.Nodup) (tk : Takes X Wout)
    (hb : ∀ W pn xe, Takes (X.tr pn xe) W → PassesOwn (model X.prog X.w) X.A X.env xe → PSs (X.tr pn xe) body (tb W)) (hh : Clauses X (hd :: hds) l) : PS X (.Try body (hd :: hds) [] [] pos) (fun D σ H => tb (wMix X.K Wout D l) D σ H) := by
  constructor
  intro pins s σ H D I h
  have ok := I.ok
  have frames : X.A.frames = some (X.env :: X.outer) := ok.frames.trans (congrArg some hs)
  apply wpAny_Try_except
  have body := (hb (wMix X.K Wout D l) (X.pn ++ pins) (fun e s₁ => wpAny (model X.prog X.w) X.A (noteFrame e X.env) (fun _ s₂ => wpAny (model X.prog X.w) X.A (setFlight e none)
    (fun _ s₃ => wpAny (model X.prog X.w) X.A (handleBy e X.env (hd :: hds)) (SP X pins D) X.xe s₃) X.xe s₂) X.xe s₁) ?_ PassesOwn.looking).run [] s σ H D (I.toTry _) h
  · refine wpAny_mono body (fun f t ht => ?_) fun _ _ z => z
    cases f with
    | next =>
      obtain ⟨σ1, H1, J, y⟩ := ht
      exact wpAny_execs_nil ⟨σ1, H1, J.ofTry ok, y⟩
    | ret u =>
      obtain ⟨v, σ1, H1, J, rv, y⟩ := ht
      exact ⟨v, σ1, H1, J.ofTry ok, rv, y⟩
    | brk => exact ht.imp fun _ h => h.imp fun _ h => ⟨h.1.ofTry ok, h.2⟩
    | cont => exact ht.imp fun _ h => h.imp fun _ h => ⟨h.1.ofTry ok, h.2⟩
  · rintro u t ⟨a, B, sI, pn', σ1, H1, cls, d, rfl, J, low, up, sky, na, os, ag, w⟩
    refine Sky.land Zc.steady frames hf (show Sky B (X.env :: X.outer) a (Zc cls d) X.env.locals t.heap from hs ▸ sky) fun h1 fl1 up1 => ?_
    exact handle_mix ok hs hf hN tk hh ⟨J.ofTry ok, low, up.trans up1, fl1, na, os, ag⟩ w
end VI

set_option Elab.async false
set_option linter.all false
set_option maxRecDepth 100000
set_option maxHeartbeats 1000000
/-! VI, part 16: own exceptions are made. -/
namespace PySem
namespace VIX
open PySem.W PySem.Calls PyProof.Rows PySem.HandSPX Builtin Builtin.ObjectAttr
/-! ### the text of __init__: self.f = f -/
def iA (f : Str) (p1 p2 : Pos) : Arguments := { posonlyargs := [], args := [{ arg := "self", annotation := none, pos := p1 }, { arg := f, annotation := none, pos := p2 }], vararg := none, kwonlyargs := [], kw_defaults := [], kwarg := none, defaults := [] }
def iB (f : Str) (q1 q2 q3 q4 : Pos) : List Stmt := [.Assign [.Attribute (.Name "self" q1) f q2] (.Name f q3) q4]
def iS (f : Str) : Scope := { kind := .function, names := [(PySem.Str.ofString "self", .local), (f, .local)], isGenerator := false, isCoroutine := false, more := [] }
section
variable {prog : Program} {w : World} {A : Around} {E : Value → Shared → Prop} {R : Result → Shared → Prop} {s : Shared} {K : Frag} {C : Addr}
/-- the first store into a new exception -/
theorem first_store {B : String} {bmB : List Value} {name : Str} {tk : Tok} {v : Value} {x : Addr} {fv : Array Value} (SF : StoreFacts B bmB "object.__setattr__" "object") (X : K.In s.heap) (hx : s.heap.get? x = some { cls := .ref C, data := .fields fv }) (ov : excOver K C bmB = true) (tkr : takerIn K C name = some none)
    (hd : ∃ cd, clsIn K C = some cd ∧ cd.hasDict = true)
    (hq : ∀ h' tk' dx, (∀ b o, b ≠ x → s.heap.get? b = some o → h'.get? b = some o) → s.heap.objs.size ≤ dx → dx ≠ x → h'.get? x = some { cls := .ref C, dict := some dx, data := .fields fv } →
      h'.Ns1 dx (fun y => if y = name then some v else none) → R (.ok (.ret .none)) { s with heap := h', toks := tk' }) :
    codeAny (model prog w) A (.call (.builtin "object.__setattr__") ⟨[.ref x, .str name tk, v], []⟩) R s := by
  obtain ⟨cd, ec, hd⟩ := hd
  have far : x ≠ s.heap.objs.size := Nat.ne_of_lt (Heap.lt_size hx)
  have cls : Looks (model prog w) s.heap (classData C) cd := looks_clsIn X ec
  have at_ : InstAt s.heap x { cls := .ref C, data := .fields fv } C none := ⟨hx, rfl, rfl, trivial⟩
  refine osa_openX SF X at_ ov tkr fun b => ?_
  obtain ⟨hp, g, d, t, os⟩ := s
  obtain ⟨nm, bs, mro, ns, qn, hd', sn, sb, ab, col, del⟩ := cd
  have hd : hd' = true := hd
  subst hd
  show wpAny _ _ (storeInOwnDict (.ref x) (.ref C) (.str name tk) name v b) _ _ _
  unfold storeInOwnDict
  unfold ownDictForStores
  repeat first
    | with_reducible refine store_in_new ?_ ?_
    | with_reducible refine wpAny_loadPart_at hx ?_
    | with_reducible refine cls.at ?_
    | wp_step
  · refine ⟨_, #[], _, (Heap.get?_update_ne _ _ _ _ far.symm).trans (Heap.get?_push_at rfl rfl), rfl, fun e he => ?_, fun _ => rfl⟩
    simp at he
  · intro h' tk' hn' sb
    have hx1 : (hp.push { cls := .type "dict", data := .dict #[] }).get? x = some { cls := .ref C, data := .fields fv } := Heap.get?_push_of_some _ hx
    refine hq h' tk' hp.objs.size (fun b o nb ho => ?_) (Nat.le_refl _) far.symm ((sb.2 x far).trans (Heap.get?_update_self _ hx1 rfl)) hn'
    refine (sb.2 b (Nat.ne_of_lt (Heap.lt_size ho))).trans ?_
    exact (Heap.get?_update_ne _ _ _ _ nb).trans (Heap.get?_push_of_some _ ho)
end
/-- what the top has written of an own exception class at C, its __init__ at fI, its one field f, under the built-in B -/
structure ExcTxt (K : Frag) (B newId initId : String) (bmB : List Value) (nm f : Str) (C fI : Addr) : Prop where
  fb : ExcBaseFacts B newId initId bmB
  sf : StoreFacts B bmB "object.__setattr__" "object"
  q : excInitIn K C bmB newId = true
  ov : excOver K C bmB = true
  hd : ∃ cd, clsIn K C = some cd ∧ cd.hasDict = true
  sa : findIn K (.ref C) "__setattr__" = some (some (.builtin "object.__setattr__"))
  no : findIn K (.ref C) f = some none
  tkr : takerIn K C f = some none
  iC : findIn K (.ref C) "__init__" = some (some (.ref fI))
  tC : typeIn K (.ref fI) = some (.type "function")
  kC : keepIn K (.ref C) = true
  exC : subIn K (.ref C) (.type "BaseException") = some true
  tyC : typeIn K (.ref C) = some (.type "type")
  fn : ∃ (oc : Value) (od : Option Addr) (doc pm : Value) (an : Option Addr) (cdv ct : Value) (osl : Array (Option Value)) (p1 p2 q1 q2 q3 q4 : Pos),
    K.lookup fI = some ⟨oc, od, .func (fnOf "__init__" (nm ++ ".__init__") (iA f p1 p2) (iB f q1 q2 q3 q4) (iS f) .none .none doc pm an cdv ct), osl⟩ ∧ codeIn K cdv (nm ++ ".__init__") = true
  bnd : ∀ (q : Str) (p1 p2 q1 q2 q3 q4 : Pos) (doc pm : Value) (an : Option Addr) (cdv ct x v : Value), bindArgs (fnOf "__init__" q (iA f p1 p2) (iB f q1 q2 q3 q4) (iS f) .none .none doc pm an cdv ct) ⟨[x, v], []⟩ = pure [(PySem.Str.ofString "self", x), (f, v)]
  fs : (f == PySem.Str.ofString "self") = false
  fd : (f == ("__debug__" : Str)) = false
section
variable {prog : Program} {w : World} {A : Around} {E : Value → Shared → Prop} {R : Result → Shared → Prop} {s : Shared} {K : Frag} {C fI : Addr} {B newId initId : String} {bmB : List Value} {nm f : Str}
theorem rd_loc {M : Model} {name : Str} {scope : Scope} {L a : Addr} {cd : Value} {m : Str → Option Value} {x : Str} {pos : Pos} {v : Value} {Q : Value → Shared → Prop} (hn : s.heap.Ns L m) (hv : m x = some v) (h : Q v s)
    (hk : scope.kind = .function) (hl : (envOfC name scope L a cd).kindOf x = some .local) (hd : (x == ("__debug__" : Str)) = false) :
    wpAny M A (eval (.Name x pos) (envOfC name scope L a cd)) Q E s := wpAny_Name (wpAny_loadName_local hk hl hn hv h) hd
/-- self.f = f, self at x, just made -/
theorem init_run (T : ExcTxt K B newId initId bmB nm f C fI) {x t0 : Addr} {v : Value} (X : K.In s.heap) (lim : s.heap.NoLimit) (hx : s.heap.get? x = some (excO C t0)) (room : A.depth < recursionLimit)
    (hq : ∀ h' tk dx, (∀ b o, b ≠ x → s.heap.get? b = some o → h'.get? b = some o) → h'.get? x = some { cls := .ref C, dict := some dx, data := .fields #[.ref t0, .none, .none, .none, .bool false, .none] } → s.heap.objs.size ≤ dx → dx ≠ x →
      h'.Ns1 dx (fun y => if y = f then some v else none) → R (.ok (.ret .none)) { s with heap := h', toks := tk }) : codeAny (model prog w) A (.call (.ref fI) ⟨[.ref x, v], []⟩) R s := by
  obtain ⟨oc, od, doc, pm, an, cdv, ct, osl, p1, p2, q1, q2, q3, q4, lk, code⟩ := T.fn
  have lself : (iS f).names.lookup (PySem.Str.ofString "self") = some .local := by
    show List.lookup _ [(PySem.Str.ofString "self", NameKind.local), (f, NameKind.local)] = _
    rw [List.lookup_cons, beq_self_eq_true]
  have lf : (iS f).names.lookup f = some .local := by
    show List.lookup f [(PySem.Str.ofString "self", NameKind.local), (f, NameKind.local)] = _
    rw [List.lookup_cons, T.fs, List.lookup_cons, beq_self_eq_true]
  refine Att.call_fn (binds := [(PySem.Str.ofString "self", .ref x), (f, v)]) X lim lk code room (BindsTo.of_eq (T.bnd _ _ _ _ _ _ _ _ _ _ _ _ _ _)) ?_ (fun s₁ IC => ?_) rfl rfl rfl
  · rw [List.all_cons, List.all_cons, List.all_nil, lself, lf]
    rfl
  · obtain ⟨h1, tk1, rfl⟩ := IC.toInCall.same
    have k : ∀ b o, s.heap.get? b = some o → h1.get? b = some o := IC.toInCall.keep
    have ns := IC.toInCall.ns
    have X1 : K.In h1 := X.keeps k
    have hx1 := k _ _ hx
    have kself : (envOfC (nm ++ ".__init__") (iS f) s.heap.objs.size fI cdv).kindOf "self" = some .local := lself
    have kf : (envOfC (nm ++ ".__init__") (iS f) s.heap.objs.size fI cdv).kindOf f = some .local := lf
    show wpAny _ _ (execs _ _) _ _ _
    refine wpAny_execs_cons (plainObj_wpAny_Assign_Attribute (rd_loc (v := v) ns ?_ (rd_loc (v := .ref x) ns ?_ ?_ rfl kself (by decide)) rfl kf T.fd))
    · show bindL _ [(_, _), (_, _)] _ f = some v
      unfold bindL bindL bindL
      rw [if_pos kf]
      exact if_pos rfl
    · show bindL _ [(_, _), (_, _)] _ (PySem.Str.ofString "self") = some (.ref x)
      unfold bindL bindL bindL
      rw [if_pos kf]
      show (if PySem.Str.ofString "self" = f then some v else _) = _
      have nf : ¬ PySem.Str.ofString "self" = f := fun z => by
        have q := T.fs
        rw [← z, beq_self_eq_true] at q
        cases q
      rw [if_neg nf, if_pos kself]
      exact if_pos rfl
    · refine set_plain X1 (ox := excO C t0) (od := none) ⟨hx1, rfl, rfl, trivial⟩ T.sa ?_
      refine first_store T.sf X1 hx1 T.ov T.tkr T.hd fun h3 tk3 dx k3 dn dne hx3 hn3 => ?_
      show wpAny _ _ (execs _ _) _ _ _
      exact wpAny_execs_nil (hq h3 tk3 dx (fun b o nb e => k3 b o nb (k b o e)) hx3 (Nat.le_of_lt (Nat.lt_of_lt_of_le ns.lt dn)) dne hn3)
/-- a made exception -/
structure Made (h h' : Heap) (e C d : Addr) (f : Str) (v : Value) : Prop where
  old : ∀ b o, h.get? b = some o → h'.get? b = some o
  new : h.objs.size ≤ e
  obj : ∃ oe vs, h'.get? e = some oe ∧ (oe.cls = .ref C ∧ oe.dict = some d) ∧ oe.data = .fields vs ∧ vs[1]? = some .none
  far : h.objs.size ≤ d
  two : d ≠ e
  ns : h'.Ns1 d (fun y => if y = f then some v else none)
theorem make_run (T : ExcTxt K B newId initId bmB nm f C fI) {v : Value} (X : K.In s.heap) (lim : s.heap.NoLimit) (room : A.depth + 1 < recursionLimit)
    (hq : ∀ h' tk e d, Made s.heap h' e C d f v → R (.ok (.ret (.ref e))) { s with heap := h', toks := tk }) : codeAny (model prog w) A (.call (.ref C) ⟨[v], []⟩) R s := by
  obtain ⟨_, N, qn, bs, bm, hdct, sn, sub, ab, col, dd, k0, k1, k2, k3, k5, hC, hT⟩ := excInit_of X T.q
  obtain ⟨hp, g, dr, tk, os⟩ := s
  have up : ∀ b o, hp.get? b = some o → ((hp.push (kdv_tup [v])).push (excO C hp.objs.size)).get? b = some o := fun b o e => Heap.get?_push_of_some _ (Heap.get?_push_of_some _ e)
  have here : ((hp.push (kdv_tup [v])).push (excO C hp.objs.size)).get? (hp.objs.size + 1) = some (excO C hp.objs.size) := by heap_get
  refine call_own T.fb hT hC (looks_findIn X T.iC) (fun self => bind_fn X self T.tC) (by rw [sizeLine_eq]; exact (by decide : 1 ≤ 16777216)) ?_
  refine init_run (s := ⟨(hp.push (kdv_tup [v])).push (excO C hp.objs.size), g, dr, tk, os⟩) T (X.keeps up) (lim.keeps up) here room fun h' tk' dx k' hx dn dne hns => ?_
  have size2 : ((hp.push (kdv_tup [v])).push (excO C hp.objs.size)).objs.size = hp.objs.size + 1 + 1 := by rw [Heap.size_push, Heap.size_push]
  have dn : hp.objs.size + 1 + 1 ≤ dx := size2 ▸ dn
  exact ⟨rfl, hq h' tk' (hp.objs.size + 1) dx ⟨fun b o e => k' b o (Nat.ne_of_lt (Nat.lt_succ_of_lt (Heap.lt_size e))) (up b o e), Nat.le_succ _, ⟨_, _, hx, ⟨rfl, rfl⟩, rfl, rfl⟩, Nat.le_trans (Nat.le_trans (Nat.le_succ _) (Nat.le_succ _)) dn, dne, hns⟩⟩
end
end VIX
end PySem
namespace VI
open PySem L2 PySem.Spec PyProof.Rows
theorem relO_one {v : V} {u : Value} {f : Str} (r : RelV v u) (g : Str) : RelO (List.lookup g [(f, v)]) (if g = f then some u else none) := by
  rw [List.lookup_cons]
  by_cases e : g = f
  · rw [if_pos e, e, beq_self_eq_true]
    exact r
  · rw [if_neg e, show (g == f) = false from beq_eq_false_iff_ne.mpr e]
    trivial
section
variable {X : Cx} {C fI : Addr} {B newId initId : String} {bmB : List Value} {nm f : Str}
/-- X(e), an own exception with the field f -/
theorem pmk_fld {x : Str} {e : Expr} {te : TE} {p pos : Pos} {k : Nat} (T : PySem.VIX.ExcTxt X.K B newId initId bmB nm f C fI) (gC : X.mg x = some (.ref C)) (hr : Room k X.A) (he : PE X e te) (hg : Gl X x) (hd : (x == ("__debug__" : Str)) = false)
    (hs : starEach [e] X.env = (false, eval e X.env) :: starEach [] X.env := by rfl) (hpl : (backTo pos (starEach [] X.env)).any (·.1) = false := by rfl) :
    PMk X (.Call (.Name x p) [e] [] pos) (fun σ H Q => tCons te tNil σ H fun vs H1 => ∃ v, vs = [v] ∧ ∀ d, H1 d = none → Q (.ref C) (some d) (upd H1 d (.xd [(f, v)]))) := by
  intro pins s σ H Q I h
  refine wpAny_Call_Name_kw (ld_glob I hg gC ?_ hd)
  have ha : PA X [e] (tCons te tNil) := pa_cons he pa_nil hs
  refine PySem.W.callWith_K (h₀ := X.base) I.ok.mod.kin T.kC (thn (ha.run pos pins s σ H _ I h) fun us s1 ⟨vs, H1, I1, r1, v, ev, q⟩ => ⟨I1.kIn, ?_⟩) hs hpl
  · subst ev
    cases r1 with
    | cons rv rn =>
      cases rn
      show wpAny _ _ (call (.ref C) [_]) _ _ _
      have lim := I1.nolimit
      obtain ⟨hp, g, dr, tk, os⟩ := s1
      refine wpAny_call (PySem.VIX.make_run T I1.kIn lim (by have := hr.dp; omega) fun h' tk' a d M => ?_)
      obtain ⟨oe, fv, hoe, hz, hdat, h1⟩ := M.obj
      obtain ⟨G', g1, g2⟩ := restrict h' fun b => decide (b ≠ a)
      have keepG : ∀ b, b ≠ a → G'.get? b = h'.get? b := fun b hb => g1 b (decide_eq_true hb)
      have noG : G'.get? a = none := g2 a (by simp)
      have old : ∀ b o, hp.get? b = some o → G'.get? b = some o := fun b o q => by
        rw [keepG b (Nat.ne_of_lt (Nat.lt_of_lt_of_le (Heap.lt_size q) M.new))]
        exact M.old b o q
      have ob : ObjOk X.prog X.w (upd H1 d (.xd [(f, v)])) G' d (.xd [(f, v)]) := ⟨_, M.ns.at (fun o q => (keepG d M.two).trans q), fun g => relO_one rv g⟩
      have J : Inv X pins σ (upd H1 d (.xd [(f, v)])) ⟨G', g, dr, tk', os⟩ := I1.laid (t' := tk') old M.far ob
      refine ⟨a, oe, fv, ⟨G', g, dr, tk', os⟩, _, .ref C, some d, rfl, J, fun b o q => ?_, noG, hoe, hz, hdat, h1, ?_, rfl, I1.bare, raises_own T.exC T.tyC, q d (I1.hok.fresh M.far)⟩
      · have nb : b ≠ a := fun z => by
          have q : G'.get? b = some o := q
          rw [z, noG] at q
          cases q
        exact (keepG b nb).symm.trans q
      · rw [upd_ne (Ne.symm M.two)]
        exact I1.hok.fresh M.new
end
end VI

set_option Elab.async false
set_option linter.all false
set_option maxRecDepth 100000
set_option maxHeartbeats 1000000
/-! VI, part 17: words for the printed texts. -/
namespace VI
open PySem L2 PySem.Spec PyProof.Rows
theorem un_ok {k : Nat} {A : Around} (hr : Rm k A) : A.units + 64 < cLine := by
  have := hr.room.un
  omega
/-- a def of the text, wherever it is called -/
structure DefF (P : Program) (w : World) (c : Cn) (mg : Str → Option Value) (base : Heap) (x : Str) (n : Nat) (g : List Slot → FOut) (k : Nat) : Prop where
  is : ∃ f fd ps, FnG P w c.K mg base k f fd ps (spF c n g) ∧ mg x = some (.ref f) ∧ PySem.W.keepIn c.K (.ref f) = true ∧ Binds c.K fd ps [] ∧ ps.length = n
theorem DefF.at {X : Cx} {c : Cn} {x : Str} {n : Nat} {g : List Slot → FOut} {k j : Nat} (d : DefF X.prog X.w c X.mg X.base x n g k) (hr : Rm j X.A) (h : k ≤ j) (hK : X.K = c.K := by rfl) : Def c X x n g := by
  obtain ⟨f, fd, ps, F, hm, hk, hb, hl⟩ := d.is
  rw [← hK] at F hk hb
  exact ⟨k, f, fd, ps, F, ⟨hr.room.mono h, hr.gd⟩, hm, hk, hb, hl⟩
end VI

set_option Elab.async false
set_option linter.all false
set_option maxRecDepth 100000
set_option maxHeartbeats 1000000
/-! VI, part 18: zip, enumerate. -/
namespace VI
open PySem L2 PySem.Spec PyProof.Rows
/-- enumerate over a text -/
def Itx (z : Str) : It := ⟨fun i _ => i < z.cps.size, fun i H v H' => ∃ T c, v = .ref T ∧ H T = none ∧ H' = upd H T (.tup [.int (i : Nat), .str ⟨#[c]⟩]) ∧ z.cps[i]? = some c, fun i _ => i = z.cps.size⟩
theorem turn_enumS {P : Program} {w : World} {K : PySem.W.Frag} {elts : List Expr} {kk : Nat} {tpos : Pos} (z : Str) (t : Tok) (e it : Addr) :
    Turn P w K (.Tuple elts kk tpos) (Itx z) [e, it] e (fun i h => (∃ old, IsEnum h e it ((i : Nat) : Int) old) ∧ h.IsStrIter it (strIterType z) z t i ∧ e ≠ it) where
  mem := by simp
  obj := fun i h st b hb => by
    obtain ⟨⟨old, he⟩, ⟨o, ho, hc, hd⟩, _⟩ := st
    rcases List.mem_cons.mp hb with q | hb
    · exact ⟨_, q ▸ he, fun v q => by cases q⟩
    · rw [List.mem_singleton.mp hb]
      exact ⟨o, ho, fun v q => by rw [hd] at q; cases q⟩
  keep := fun i h h' st k => by
    obtain ⟨⟨old, he⟩, ⟨o, ho, r⟩, ne⟩ := st
    exact ⟨⟨old, k e List.mem_cons_self _ he⟩, ⟨o, k it (List.mem_cons_of_mem _ (List.mem_singleton.mpr rfl)) o ho, r⟩, ne⟩
  item := by
    intro X hP hw hK hc i pins s σ H E I hf st hg
    subst hP hw hK
    obtain ⟨⟨old, he⟩, hit, ne⟩ := st
    have hel : e < s.heap.objs.size := Heap.lt_size he
    have hil : it < s.heap.objs.size := hit.elim fun o q => Heap.lt_size q.1
    refine wpAny_pyNext_enum_itemD (Draws.text (A := X.A.in1) (I.ok.hd hc) it z t) he hit hg ne (fun q => ne (List.mem_singleton.mp q)) fun x h' tk hx ho hit' hT hsz hk => ?_
    obtain ⟨ch, u, hch, rfl⟩ := hx
    refine ⟨_, rfl, wpAny_letOwnedTupleGo_enum (s := { s with heap := h', toks := tk + 1 }) ho fun h2 he2 sb => ?_⟩
    have hT2 : h2.get? s.heap.objs.size = some { cls := .type "tuple", data := .seq #[.int i tk, .str ⟨#[ch]⟩ u] } := (sb.2 _ (Nat.ne_of_gt hel)).trans hT
    have nw : ObjOk X.prog X.w (upd H s.heap.objs.size (.tup [.int (i : Nat), .str ⟨#[ch]⟩])) h2 s.heap.objs.size (.tup [.int (i : Nat), .str ⟨#[ch]⟩]) :=
      ⟨by show 2 ≤ sizeLine; decide, [.int i tk, .str ⟨#[ch]⟩ u], .cons ⟨_, rfl⟩ (.cons ⟨_, rfl⟩ .nil), ⟨_, hT2, rfl, _, rfl⟩⟩
    have I1 : Inv X pins σ (upd H s.heap.objs.size (.tup [.int (i : Nat), .str ⟨#[ch]⟩])) { s with heap := h2, toks := tk + 1 } := I.turnedNew (ch := [e, it]) (fun b ob hb q => by
      have nb : b ≠ e ∧ b ≠ it := by simpa using hb
      exact (sb.2 b nb.1).trans (hk b ob nb.1 nb.2 q)) hf (Nat.le_refl _) nw
    refine ⟨.ref s.heap.objs.size, _, I1, rfl, ⟨_, ch, rfl, I.hok.fresh (Nat.le_refl _), rfl, hch⟩, ⟨⟨.str ⟨#[ch]⟩ u, ?_⟩, ?_, ne⟩, fun b hb => ?_⟩
    · rw [show ((i + 1 : Nat) : Int) = (i : Int) + 1 by omega]
      exact he2
    · obtain ⟨o, e1, r⟩ := hit'
      exact ⟨o, (sb.2 it (Ne.symm ne)).trans e1, r⟩
    · have lt : b < s.heap.objs.size := by
        rcases List.mem_cons.mp hb with q | hb
        · exact q ▸ hel
        · exact List.mem_singleton.mp hb ▸ hil
      rw [upd_ne (Nat.ne_of_lt lt)]
      exact (hf b hb).1
  done := by
    intro X hP hw hK hc i pins s σ H E I hf st hg
    subst hP hw hK
    obtain ⟨⟨old, he⟩, hit, ne⟩ := st
    obtain ⟨f0, f1, f2, f3, f4, f5⟩ := hf it (List.mem_cons_of_mem _ (List.mem_singleton.mpr rfl))
    have e0 : i = z.cps.size := hg
    subst e0
    exact wpAny_pyNext_enum_endD (Draws.text (A := X.A.in1) (I.ok.hd hc) it z t) he hit fun h' eb => ⟨rfl, I.turned (t' := s.toks) (fun b o hb q => eb b o hb q) f0 f1 f3 f4 f5⟩
  self := fun A i s Q E st h => by
    obtain ⟨⟨old, he⟩, _⟩ := st
    exact wpAny_pyIter_enum he h
section
variable {X : Cx} {c : Cn} {pos : Pos}
def iEnumS (te : TE) : TI := fun σ H R => te σ H fun v H1 => ∃ z, v = .str z ∧ R (Itx z) H1
theorem pi_enumS {e : Expr} {te : TE} {p tpos : Pos} {elts : List Expr} {kk : Nat} (hg : Gl X "enumerate") (hm : X.mg "enumerate" = none) (he : PE X e te) (hs : starEach [e] X.env = [(false, eval e X.env)] := by rfl) :
    PI X (.Tuple elts kk tpos) (.Call (.Name "enumerate" p) [e] [] pos) (fun σ H R => tCons te tNil σ H fun vs H1 => ∃ z, vs = [.str z] ∧ R (Itx z) H1) := by
  refine ⟨fun pins s σ H R I h => ?_⟩
  refine Call_ (ld_blt I hg hm boot_enumerate (PyProof.Rows.callWith_type1 (thn ((pa_cons he pa_nil hs).run pos pins s σ H _ I h) fun us s1 ⟨vs, H1, I1, r1, z, ez, q⟩ => ?_) hs rfl))
  subst ez
  cases r1 with
  | cons r rr =>
    cases rr
    obtain ⟨t, rfl⟩ := r
    refine call_enumerate_str fun h' he hit hsz hk => wpAny_pyIter_enum he ?_
    have I2 : Inv X pins σ H1 { s1 with heap := h' } := I1.kept (t' := s1.toks) hk
    refine ⟨s1.heap.objs.size + 1, [s1.heap.objs.size + 1, s1.heap.objs.size], _, _, H1, rfl, I2, turn_enumS z t _ _, ⟨⟨.none, he⟩, hit, Nat.succ_ne_self _⟩, fun b hb => ?_, q⟩
    have le : s1.heap.objs.size ≤ b := by
      rcases List.mem_cons.mp hb with q | hb
      · exact q ▸ Nat.le_succ _
      · exact Nat.le_of_eq (List.mem_singleton.mp hb).symm
    exact I1.fpOk le (I1.hok.fresh le)
theorem numbered_get : ∀ {xs : List W} {n : Int} {i : Nat}, (numbered n xs)[i]? = (xs[i]?).map fun x => .tup [.int (n + i), x]
  | [], n, i => by
    unfold numbered
    simp
  | x :: xs, n, 0 => by
    unfold numbered
    simp
  | x :: xs, n, i + 1 => by
    unfold numbered
    rw [List.getElem?_cons_succ, List.getElem?_cons_succ, numbered_get]
    congr 1
    funext x
    rw [show n + 1 + (i : Int) = n + ((i + 1 : Nat) : Int) by omega]
theorem numbered_len : ∀ {xs : List W} {n : Int}, (numbered n xs).length = xs.length
  | [], _ => rfl
  | x :: xs, n => by
    unfold numbered
    rw [List.length_cons, List.length_cons, numbered_len]
theorem zipped_get : ∀ {xs ys : List W} {i : Nat} {x y : W}, xs[i]? = some x → ys[i]? = some y → (zipped xs ys)[i]? = some (.tup [x, y])
  | [], _, _, _, _, h, _ => by simp at h
  | _ :: _, [], _, _, _, _, h => by simp at h
  | x :: xs, y :: ys, 0, _, _, h, h' => by
    unfold zipped
    simp at h h' ⊢
    exact ⟨h, h'⟩
  | x :: xs, y :: ys, i + 1, _, _, h, h' => by
    unfold zipped
    rw [List.getElem?_cons_succ] at h h' ⊢
    exact zipped_get h h'
theorem zipped_len : ∀ {xs ys : List W}, (zipped xs ys).length = min xs.length ys.length
  | [], _ => by
    unfold zipped
    simp
  | _ :: _, [] => by
    unfold zipped
    simp
  | x :: xs, y :: ys => by
    unfold zipped
    rw [List.length_cons, List.length_cons, List.length_cons, zipped_len]
    omega
section
variable {F F2 : Addr → Prop} {H H2 H3 : Hp}
/-- a new pair -/
theorem pair_rep {x y wx wy : W} {T : Addr} {vx vy : V} (hT : H T = none) (rx : RepF c F H wx vx) (ry : RepF c F H wy vy) : Ext H (upd H T (.tup [vx, vy])) ∧ RepF c F (upd H T (.tup [vx, vy])) (.tup [wx, wy]) (.ref T) :=
  ⟨.new hT, T, [vx, vy], rfl, .of upd_same, vx, [vy], rfl, RepF.kp (Ext.kp (.new hT)) _ _ rx, vy, [], rfl, RepF.kp (Ext.kp (.new hT)) _ _ ry, rfl⟩
theorem wk_enumL {a : Addr} {vs : List V} {xs : List W} {O : Addr → Prop} (h1 : H a = some (.lst vs)) (h2 : RepFs c F H xs vs) (h3 : F a ∨ ¬ O a) : Wk c O F H (numbered 0 xs) (Ite c.K a) := by
  refine ⟨fun H2 => SqL c.K H2 a vs, YPair (fun i => some (.int (i : Nat))) (fun i => vs[i]?), by rw [numbered_len, h2.length]; exact walk_enum, fun F2 H2 O2 f k => ⟨.inl (.inl ?_), fun i x H3 hi y => ?_⟩⟩
  · rcases h3 with h3 | h3
    · exact k.at_ a _ h1 (.inl h3)
    · exact f.keep a _ h1 h3 (fun _ z => by cases z)
  · obtain ⟨T, vx, vy, rfl, hT, rfl, ex, ey⟩ := y
    cases ex
    obtain ⟨w, ew, rw'⟩ := (RepFs.kp k _ _ h2).getV ey
    obtain ⟨e1, e2⟩ := pair_rep (x := .non) (y := .non) (wx := .int (i : Nat)) hT rfl rw'
    refine ⟨e1, _, ?_, e2⟩
    rw [numbered_get, ew]
    simp
theorem wk_enumS {l : List Nat} {O : Addr → Prop} : Wk c O F H (numbered 0 (l.map fun ch => .str [ch])) (Itx (mkS l)) := by
  refine ⟨fun _ => True, fun i H v H' => ∃ T ch, v = .ref T ∧ H T = none ∧ H' = upd H T (.tup [.int (i : Nat), .str ⟨#[ch]⟩]) ∧ (mkS l).cps[i]? = some ch, ?_, fun F2 H2 O2 f k => ⟨trivial, fun i x H3 hi y => ?_⟩⟩
  · rw [numbered_len, List.length_map]
    exact ⟨fun _ _ hi _ => hi, fun _ _ => rfl, fun _ _ _ _ _ _ y => y⟩
  · obtain ⟨T, ch, rfl, hT, rfl, ey⟩ := y
    obtain ⟨e1, e2⟩ := pair_rep (c := c) (F := F2) (x := .non) (y := .non) (wx := .int (i : Nat)) (wy := .str [ch]) (vx := .int (i : Nat)) (vy := .str ⟨#[ch]⟩) hT rfl rfl
    refine ⟨e1, _, ?_, e2⟩
    have ey : l.toArray[i]? = some ch := ey
    rw [List.getElem?_toArray] at ey
    rw [numbered_get, List.getElem?_map, ey]
    simp
theorem wk_zipL {a b : Addr} {vs us : List V} {xs ys : List W} {O : Addr → Prop} (h1 : H a = some (.lst vs)) (h2 : RepFs c F H xs vs) (h3 : F a) (g1 : H b = some (.lst us)) (g2 : RepFs c F H ys us) (g3 : F b) : Wk c O F H (zipped xs ys) (Itz c.K a b) := by
  refine ⟨fun H2 => SqL c.K H2 a vs ∧ SqL c.K H2 b us, YPair (fun i => vs[i]?) (fun i => us[i]?), walk_zip (by rw [zipped_len, h2.length, g2.length]), fun F2 H2 O2 f k => ⟨⟨.inl (.inl (k.at_ a _ h1 (.inl h3))), .inl (.inl (k.at_ b _ g1 (.inl g3)))⟩, fun i x H3 hi y => ?_⟩⟩
  obtain ⟨T, vx, vy, rfl, hT, rfl, ex, ey⟩ := y
  obtain ⟨wx, ewx, rx⟩ := (RepFs.kp k _ _ h2).getV ex
  obtain ⟨wy, ewy, ry⟩ := (RepFs.kp k _ _ g2).getV ey
  obtain ⟨e1, e2⟩ := pair_rep (x := .non) (y := .non) hT rx ry
  exact ⟨e1, _, zipped_get ewx ewy, e2⟩
theorem walk_zipT {K : PySem.W.Frag} {a b : Addr} {xs ys : List V} {n : Nat} (hn : n = min xs.length ys.length) : Walk (RZ.ItzT K a b) n (fun H => SqT K H a xs ∧ SqT K H b ys) (YPair (fun i => xs[i]?) (fun i => ys[i]?)) := by
  subst hn
  refine ⟨fun i _ hi q => ?_, fun _ q => ⟨xs, ys, q.1, q.2, by omega⟩, fun i H v H' _ q y => ?_⟩
  · have l1 : i < xs.length := by omega
    have l2 : i < ys.length := by omega
    exact ⟨xs, ys, xs[i], ys[i], q.1, q.2, by simp [l1], by simp [l2]⟩
  · obtain ⟨T, x, z, e1, e2, e3, e4, e5⟩ := y
    exact ⟨T, x, z, e1, e2, e3, e4 xs q.1, e5 ys q.2⟩
theorem wk_zipT {a b : Addr} {vs us : List V} {xs ys : List W} {O : Addr → Prop} (h1 : SqT c.K H a vs) (h2 : RepFs c F H xs vs) (g1 : SqT c.K H b us) (g2 : RepFs c F H ys us) : Wk c O F H (zipped xs ys) (RZ.ItzT c.K a b) := by
  refine ⟨fun H2 => SqT c.K H2 a vs ∧ SqT c.K H2 b us, YPair (fun i => vs[i]?) (fun i => us[i]?), walk_zipT (by rw [zipped_len, h2.length, g2.length]), fun F2 H2 O2 f k => ⟨⟨k.tup h1, k.tup g1⟩, fun i x H3 hi y => ?_⟩⟩
  obtain ⟨T, vx, vy, rfl, hT, rfl, ex, ey⟩ := y
  obtain ⟨wx, ewx, rx⟩ := (RepFs.kp k _ _ h2).getV ex
  obtain ⟨wy, ewy, ry⟩ := (RepFs.kp k _ _ g2).getV ey
  obtain ⟨e1, e2⟩ := pair_rep (x := .non) (y := .non) hT rx ry
  exact ⟨e1, _, zipped_get ewx ewy, e2⟩
end
theorem simI_zip {a b : Expr} {m n : M W} {p tpos : Pos} {elts : List Expr} {kk : Nat} (hm : X.mg "zip" = none) (ha : SimE c X a m) (hb : SimE c X b n) (hK : X.K = c.K := by rfl) (hg : Gl X "zip" := by rfl)
    (hs : starEach [a, b] X.env = (false, eval a X.env) :: starEach [b] X.env := by rfl) (hs2 : starEach [b] X.env = (false, eval b X.env) :: starEach [] X.env := by rfl) (hpl : (backTo pos (starEach [b] X.env)).any (·.1) = false := by rfl) :
    SimI c X (.Tuple elts kk tpos) (.Call (.Name "zip" p) [a, b] [] pos) (iZip m n) := fun Wx tk => by
  refine PI.imp (RZ.pi_zipA hg hm (pa_cons (ha Wx tk) (pa_cons (hb Wx tk) pa_nil hs2) hs) hs hpl) fun σ H Q q => ?_
  rw [hK]
  obtain ⟨F, ss, s, q⟩ := q
  refine ⟨F, ss, s, (From.bind (U := rF c) early_I q).mono fun v H1 ⟨w, F1, ss1, em, s1, u1, f1, l1, h1⟩ => ?_⟩
  refine ⟨F1, ss1, s1, (From.bind (U := rF c) early_I h1).mono fun v' H2 ⟨w', F2, ss2, em2, s2, u2, f2, l2, h2⟩ => ?_⟩
  obtain ⟨ws, ew, k⟩ := From.lift h2
  have u1 : RepF c F2 H2 w v := RepF.kp (s1.kp f2) _ _ u1
  unfold zipW at ew
  split at ew
  · cases ew
    obtain ⟨a, vs, rfl, hF, e1, e2⟩ := u1
    obtain ⟨b, us, rfl, hG, g1, g2⟩ := u2
    exact ⟨a, b, vs, us, rfl, .inl ⟨.inl (.inl e1), .inl (.inl g1), k _ F2 H2 .refl s2 (wk_zipL e1 e2 hF g1 g2 hG)⟩⟩
  · cases ew
    obtain ⟨a, vs, rfl, e1, e2⟩ := u1
    obtain ⟨b, us, rfl, g1, g2⟩ := u2
    exact ⟨a, b, vs, us, rfl, .inr ⟨e1, g1, k _ F2 H2 .refl s2 (wk_zipT e1 e2 g1 g2)⟩⟩
  · cases ew
theorem simI_enum {a : Expr} {m : M W} {p tpos : Pos} {elts : List Expr} {kk : Nat} (hm : X.mg "enumerate" = none) (ha : SimK c X a m) (hK : X.K = c.K := by rfl) (hg : Gl X "enumerate" := by rfl) (hs : starEach [a] X.env = [(false, eval a X.env)] := by rfl) :
    SimI c X (.Tuple elts kk tpos) (.Call (.Name "enumerate" p) [a] [] pos) (iEnum m) := fun Wx tk => by
  refine PI.imp (PI.or (pi_enum hg hm (pa_cons (ha Wx tk) pa_nil hs) hs) (pi_enumS hg hm (ha Wx tk) hs)) fun σ H Q q => ?_
  rw [hK]
  obtain ⟨F, ss, s, q⟩ := q
  have q1 := From.bind (U := rK c) early_I q
  rcases q1 with ⟨w, ss1, em, q1⟩ | ⟨k, w, ss1, em, q1⟩
  · have go : ∀ (v : V) (F1 : Addr → Prop) (H1 : Hp), Fm F H (OwnA σ ss) F1 H1 (OwnA σ ss1) → SR c F1 H1 σ ss1 → Ln σ ss σ ss1 → rK c (BZ σ ss1) F1 H H1 w v → ∃ F2 ws, enumW w = some ws ∧ rK c (BZ σ ss1) F2 H H1 w v ∧ ∀ J, Wk c (OwnA σ ss1) F2 H1 ws J → Q J H1 := fun v F1 H1 f1 s1 l1 t1 => by
      obtain ⟨w', F2, ss2, em2, s2, u2, f2, l2, h2⟩ := q1 v F1 H1 f1 s1 l1 t1
      rw [em] at em2
      cases em2
      obtain ⟨ws, ew, k⟩ := From.lift h2
      exact ⟨F2, ws, ew, u2, fun J wk => k J F2 H1 .refl s2 wk⟩
    cases w with
    | str l =>
      refine .inr ⟨F, ss, s, .inl ⟨_, ss1, em, fun v F1 H1 f1 s1 l1 t1 => ?_⟩⟩
      obtain ⟨F2, ws, ew, u, k⟩ := go v F1 H1 f1 s1 l1 t1
      cases ew
      rcases u with u | ⟨a, _, z, _⟩
      · exact ⟨_, by rw [show v = _ from u], k _ wk_enumS⟩
      · exact z.elim
    | lst xs =>
      refine .inl ⟨F, ss, s, .inl ⟨_, ss1, em, fun v F1 H1 f1 s1 l1 t1 => ?_⟩⟩
      obtain ⟨F2, ws, ew, u, k⟩ := go v F1 H1 f1 s1 l1 t1
      cases ew
      rcases u with ⟨a, vs, rfl, hF, h1, h2⟩ | ⟨a, rfl, ⟨vs, h1, h2⟩, nO⟩
      · exact ⟨a, vs, rfl, .inl (.inl h1), k _ (wk_enumL h1 h2 (.inl hF))⟩
      · exact ⟨a, vs, rfl, .inl (.inl h1), k _ (wk_enumL h1 h2 (.inr nO))⟩
    | _ =>
      refine .inl ⟨F, ss, s, .inl ⟨_, ss1, em, fun v F1 H1 f1 s1 l1 t1 => ?_⟩⟩
      obtain ⟨F2, ws, ew, u, k⟩ := go v F1 H1 f1 s1 l1 t1
      cases ew
  · exact .inl ⟨F, ss, s, .inr ⟨k, w, ss1, em, q1⟩⟩
end
end VI

set_option Elab.async false
set_option linter.all false
set_option maxRecDepth 100000
set_option maxHeartbeats 1000000
set_option exponentiation.threshold 3000
/-! VI, part 19: texts. -/
namespace VI
open PySem L2 PySem.Spec PyProof.Rows
/-! ### the signs of a number -/
def dgF : Nat → Nat → List Nat → List Nat
  | 0, _, acc => acc
  | f + 1, n, acc => if n < 10 then (48 + n) :: acc else dgF f (n / 10) ((48 + n % 10) :: acc)
theorem dgF_ok : ∀ {f n : Nat} {acc : List Nat}, n < 10 ^ f → 0 < f → dgF f n acc = TL.numL n ++ acc
  | 0, _, _, _, h => absurd h (Nat.lt_irrefl _)
  | f + 1, n, acc, h, _ => by
    unfold dgF
    by_cases c : n < 10
    · rw [if_pos c, TL.numL_lt c]
      rfl
    · rw [if_neg c, TL.numL_step (by omega)]
      have h2 : n / 10 < 10 ^ f := by
        rw [Nat.pow_succ] at h
        exact Nat.div_lt_of_lt_mul (by rw [Nat.mul_comm]; exact h)
      have f0 : 0 < f := by
        cases f with
        | zero => simp at h; omega
        | succ f => exact Nat.succ_pos f
      rw [dgF_ok h2 f0, List.append_assoc]
      rfl
def natL (n : Nat) : List Nat := dgF 570 n []
def natOk (n : Nat) : Bool := decide (n < 2 ^ 1890)
theorem natL_ok {n : Nat} (h : natOk n = true) : natL n = TL.numL n := by
  have h := of_decide_eq_true h
  have h2 : n < 10 ^ 570 := Nat.lt_of_lt_of_le h (by decide +kernel)
  unfold natL
  rw [dgF_ok h2 (by decide), List.append_nil]
theorem nat_txt {n : Nat} (h : natOk n = true) : Str.ofString (toString ((n : Nat) : Int)) = mkS (natL n) := by
  rw [natL_ok h]
  exact SX.num_S n
theorem nat_log {n : Nat} (h : natOk n = true) : ((n : Nat) : Int).natAbs.log2 < 1920 := by
  have h := of_decide_eq_true h
  show Nat.log2 n < 1920
  by_cases z : n = 0
  · rw [z]
    decide
  · rw [Nat.log2_lt z]
    exact Nat.lt_of_lt_of_le h (Nat.pow_le_pow_right (by decide) (by decide))
section
variable {X : Cx} {c : Cn} {pos : Pos}
def bStrI : List W → Option W
  | [.int i] => if 0 ≤ i && natOk i.toNat then some (.str (natL i.toNat)) else none
  | _ => none
theorem ru_strI : RuF c (fun xs H Q => ∃ i, xs = [.int i] ∧ i.natAbs.log2 < 1920 ∧ Q (.str (toString i)) H) bStrI := by
  intro F H vs ws w Q _ u e k
  unfold bStrI at e
  split at e
  · rename_i i
    obtain ⟨x, rfl, h1⟩ := rl1 u
    split at e
    · rename_i h
      rw [Bool.and_eq_true, decide_eq_true_iff] at h
      obtain ⟨h0, hn⟩ := h
      cases e
      rw [rL_int h1]
      have ei : i = ((i.toNat : Nat) : Int) := (Int.toNat_of_nonneg h0).symm
      refine ⟨i, rfl, by rw [ei]; exact nat_log hn, k _ _ (.refl _) ?_⟩
      show V.str (Str.ofString (toString i)) = V.str _
      rw [← nat_txt hn, ← ei]
    · cases e
  · cases e
def bOrd : List W → Option W
  | [.str [ch]] => some (.int ch)
  | _ => none
theorem ru_ord1 : RuF c (fun xs H Q => ∃ x, xs = [.str x] ∧ x.length = 1 ∧ Q (.int (x.cps.getD 0 0 : Nat)) H) bOrd := by
  intro F H vs ws w Q _ u e k
  unfold bOrd at e
  split at e
  · obtain ⟨x, rfl, h1⟩ := rl1 u
    cases e
    rw [rL_str h1]
    exact ⟨_, rfl, rfl, k _ _ (.refl _) rfl⟩
  · cases e
def isDig (l : List Nat) : Bool := l.all fun d => decide (48 ≤ d) && decide (d ≤ 57)
def bIntS : List W → Option W
  | [.str a] => if isDig a && !a.isEmpty && decide (a.length ≤ 640) then some (.int (NumText.digitsVal a : Nat)) else none
  | _ => none
theorem ru_intS : RuF c (fun xs H Q => ∃ a n, xs = [.str a] ∧ PySem.intText? a = some n ∧ a.length ≤ 640 ∧ Q (.int n) H) bIntS := by
  intro F H vs ws w Q _ u e k
  unfold bIntS at e
  split at e
  · obtain ⟨x, rfl, h1⟩ := rl1 u
    split at e
    · rename_i a h
      rw [Bool.and_eq_true, Bool.and_eq_true, decide_eq_true_iff] at h
      cases e
      rw [rL_str h1]
      refine ⟨mkS a, _, rfl, SX.int_S h.1.1 (fun z => ?_) (Nat.le_trans h.2 (by decide)), by rw [mkS_len]; exact h.2, k _ _ (.refl _) rfl⟩
      rw [z] at h
      exact absurd h.1.2 (by decide)
    · cases e
  · cases e
/-- int of a number, a truth value or a text -/
def bInt2 (ws : List W) : Option W := match bInt1 ws with
  | some w => some w
  | none => bIntS ws
def rInt2 : LR := fun xs H Q => ((∃ i, xs = [.int i] ∧ Q (.int i) H) ∨ ∃ k, xs = [.bl k] ∧ Q (.int (if k then 1 else 0)) H) ∨ (∃ a n, xs = [.str a] ∧ PySem.intText? a = some n ∧ a.length ≤ 640 ∧ Q (.int n) H)
theorem call_int2 : CallR X (.type "int") rInt2 := fun pins s σ H xs us Q I r h => h.elim (call_int1 pins s σ H xs us Q I r) (call_int_str pins s σ H xs us Q I r)
theorem ru_int2' : RuF c rInt2 bInt2 := by
  intro F H vs ws w Q l u e k
  unfold bInt2 at e
  split at e
  · rename_i w' e1
    cases e
    exact .inl (ru_int1 F H vs ws _ Q l u e1 k)
  · exact .inr (ru_intS F H vs ws w Q l u e k)
/-! ### methods of a text with one argument -/
def eM1 (f : List W → Option W) (m n : M W) : M W := mbd m fun x => match x with
  | .str a => mbd n fun y => lift (f [.str a, y])
  | _ => stuck
def rM1 (r : V → List V → Hp → VK → Prop) : LR := fun vs H Q => match vs with
  | [x, y] => r x [y] H Q
  | _ => False
theorem m1_read {o e : Expr} {m n : M W} {f : List W → Option W} {r : V → List V → Hp → VK → Prop} (ru : RuE c (rM1 r) f) {Wx : WX} {σ : L2.St} {H : Hp} {Q : VK} (h : tM c (eM1 f m n) (rF c) Wx σ H Q) : tM1 r (tM c m (rF c) Wx) (tM c n (rF c) Wx) σ H Q := by
  obtain ⟨F, ss, s, h⟩ := h
  refine ⟨F, ss, s, (From.bind (U := rF c) early_F h).mono fun v H1 ⟨w, F1, ss1, _, s1, u1, f1, l1, h1⟩ => ?_⟩
  cases w with
  | str a =>
    have ev : v = .str (mkS a) := u1
    refine ⟨⟨_, ev⟩, F1, ss1, s1, (From.bind (U := rF c) early_F h1).mono fun y H2 ⟨w2, F2, ss2, _, s2, u2, f2, l2, h2⟩ => ?_⟩
    obtain ⟨w', ew, k⟩ := From.lift h2
    refine ru F2 H2 [v, y] [.str a, w2] w' Q s2.liv ⟨v, [y], rfl, .inl ev, y, [], rfl, .inl u2, rfl⟩ ew (fun v' H3 e3 r3 => k v' F2 H3 e3.fm (s2.ext e3) r3) fun b H3 n3 e3 o3 => ?_
    obtain ⟨u, hu, mu, _⟩ := o3.mut
    exact k _ (plus F2 b) H3 (e3.fm.plusA (.inr (.of n3))) ((s2.ext e3).plusA hu mu fun z => s2.fresh (.of n3) (.inl z)) o3.rep
  | _ => rcases h1 with ⟨a, s', z, _⟩ | ⟨j, w, s', z, _⟩ <;> cases z
def bPart : List W → Option W
  | [.str a, .str (d :: b)] => if a.length ≤ 100000 then (match TL.par (d :: b) [] a with
    | some (p, q) => some (.tup [.str p, .str (d :: b), .str q])
    | none => some (.tup [.str a, .str [], .str []])) else none
  | _ => none
theorem mkS_ne {d : Nat} {b : List Nat} : ((mkS (d :: b)).length == 0) = false := by
  rw [mkS_len]
  rfl
theorem ru_part : RuE c (rM1 fun x xs H Q => ∃ a b, x = .str a ∧ xs = [.str b] ∧ (b.length == 0) = false ∧ a.length ≤ sizeLine ∧
      ∀ p, H p = none → Q (.ref p) (upd H p (.tup [.str (Txt.partition a b).1, .str (Txt.partition a b).2.1, .str (Txt.partition a b).2.2]))) bPart := by
  intro F H vs ws w Q _ u e k _
  unfold bPart at e
  split at e
  · rename_i a d b
    obtain ⟨x, y, rfl, h1, h2⟩ := rl2 u
    split at e
    · rename_i hl
      rw [rL_str h1, rL_str h2]
      refine ⟨mkS a, mkS (d :: b), rfl, rfl, mkS_ne, by rw [mkS_len]; exact sizeLine_big hl, fun p hp => ?_⟩
      split at e
      · rename_i p' q' ep
        cases e
        have z : Txt.partition (mkS a) (mkS (d :: b)) = (mkS p', mkS (d :: b), mkS q') := SX.partition_some (List.cons_ne_nil _ _) ep
        rw [z]
        exact k _ _ (.new hp) ⟨p, _, rfl, .of upd_same, _, _, rfl, rfl, _, _, rfl, rfl, _, _, rfl, rfl, rfl⟩
      · rename_i ep
        cases e
        have z : Txt.partition (mkS a) (mkS (d :: b)) = (mkS a, mkS [], mkS []) := SX.partition_none (List.cons_ne_nil _ _) ep
        rw [z]
        exact k _ _ (.new hp) ⟨p, _, rfl, .of upd_same, _, _, rfl, rfl, _, _, rfl, rfl, _, _, rfl, rfl, rfl⟩
    · cases e
  · cases e
theorem sim_part {o e : Expr} {m n : M W} {apos : Pos} (ho : SimE c X o m) (he : SimE c X e n) (hs : starEach [e] X.env = [(false, eval e X.env)] := by rfl) (hbase : attributeBase o "partition" X.env (eval o X.env) = eval o X.env := by rfl) (hline : (apos.endLine == pos.line) = true := by rfl) :
    SimE c X (.Call (.Attribute o "partition" apos) [e] [] pos) (eM1 bPart m n) := fun Wx tk => PE.imp (pe_partition (ho Wx tk) (he Wx tk) hs hbase hline) fun σ H Q h => m1_read (o := o) (e := e) ru_part h
/-! ### f-strings -/
def fmtW : W → Option W
  | .str s => if s.length ≤ 100000 then some (.str s) else none
  | .int i => if 0 ≤ i && natOk i.toNat then some (.str (natL i.toNat)) else none
  | _ => none
def eFmt (m : M W) : M W := mbd m fun w => lift (fmtW w)
theorem sim_fmt {e : Expr} {m : M W} (h : SimE c X e m) : SimE c X (.FormattedValue e (-1) none pos) (eFmt m) := fun Wx tk => PE.imp (pe_fmt (h Wx tk)) fun σ H Q q => by
  obtain ⟨F, ss, s, q⟩ := q
  refine ⟨F, ss, s, (From.bind (U := rF c) early_F q).mono fun v H1 ⟨w, F1, ss1, _, s1, u1, f1, l1, h1⟩ => ?_⟩
  obtain ⟨w', ew, k⟩ := From.lift h1
  cases w with
  | str l =>
    dsimp only [fmtW] at ew
    split at ew
    · rename_i hl
      cases ew
      have ev : v = .str (mkS l) := u1
      exact .inl ⟨_, ev, by rw [mkS_len]; exact sizeLine_big hl, k _ F1 H1 .refl s1 rfl⟩
    · cases ew
  | int i =>
    dsimp only [fmtW] at ew
    split at ew
    · rename_i h
      rw [Bool.and_eq_true, decide_eq_true_iff] at h
      obtain ⟨h0, hn⟩ := h
      cases ew
      have ev : v = .int i := u1
      have ei : i = ((i.toNat : Nat) : Int) := (Int.toNat_of_nonneg h0).symm
      refine .inr ⟨i, ev, by rw [ei]; exact nat_log hn, k _ F1 H1 .refl s1 ?_⟩
      show V.str (Str.ofString (toString i)) = V.str _
      rw [← nat_txt hn, ← ei]
    · cases ew
  | _ => cases ew
def eFs : List Nat → List (M W) → M W
  | acc, [] => mret (.str acc)
  | acc, m :: r => mbd m fun w => match w with
    | .str s => if acc.length + s.length ≤ 100000 then eFs (acc ++ s) r else stuck
    | _ => stuck
inductive SimJ (c : Cn) (X : Cx) : List Expr → List (M W) → Prop
  | nil : SimJ c X [] []
  | cons {e : Expr} {es : List Expr} {m : M W} {ms : List (M W)} (h : SimE c X e m) (t : SimJ c X es ms) : SimJ c X (e :: es) (m :: ms)
theorem SimJ.pj {Wx : WX} (tk : Takes X Wx) : ∀ {es : List Expr} {ms : List (M W)}, SimJ c X es ms → PJ X es (ms.map fun m => tM c m (rF c) Wx)
  | _, _, .nil => .nil
  | _, _, .cons h t => .cons (h Wx tk) (t.pj tk)
theorem fs_read {Wx : WX} {σ : L2.St} : ∀ {ms : List (M W)} {acc : List Nat} {F : Addr → Prop} {H : Hp} {ss : Slots} {Q : VK}, SR c F H σ ss → From c (eFs acc ms) (rF c) Wx σ F H ss Q →
    tJs (ms.map fun m => tM c m (rF c) Wx) (mkS acc) σ H fun out H1 => Q (.str out) H1
  | [], acc, F, H, ss, Q, s, h => h.ret s rfl
  | m :: ms, acc, F, H, ss, Q, s, h => by
    refine ⟨F, ss, s, (From.bind (U := rF c) early_F (f := fun w => match w with
      | .str s => if acc.length + s.length ≤ 100000 then eFs (acc ++ s) ms else stuck
      | _ => stuck) h).mono fun v H1 ⟨w, F1, ss1, _, s1, u1, f1, l1, h1⟩ => ?_⟩
    cases w with
    | str l =>
      dsimp only at h1
      split at h1
      · rename_i hl
        have ev : v = .str (mkS l) := u1
        have ec : mkS acc ++ mkS l = mkS (acc ++ l) := SX.S_cat acc l
        refine ⟨mkS l, ev, ?_, ?_⟩
        · rw [ec, mkS_len, List.length_append]
          exact sizeLine_big hl
        · rw [ec]
          exact fs_read s1 h1
      · rcases h1 with ⟨a, s', z, _⟩ | ⟨j, w, s', z, _⟩ <;> cases z
    | _ => rcases h1 with ⟨a, s', z, _⟩ | ⟨j, w, s', z, _⟩ <;> cases z
theorem sim_fstr {e1 e2 : Expr} {es : List Expr} {ms : List (M W)} (h : SimJ c X (e1 :: e2 :: es) ms) : SimE c X (.JoinedStr (e1 :: e2 :: es) pos) (eFs [] ms) := fun Wx tk => PE.imp (pe_joined (h.pj tk)) fun σ H Q q => by
  obtain ⟨F, ss, s, q⟩ := q
  exact fs_read s q
theorem sim_fstr1 {e : Expr} {m : M W} (h : SimE c X e m) : SimE c X (.JoinedStr [e] pos) m := fun Wx tk => pe_joined1 (h Wx tk)
/-! ### tuple, {} -/
def bTuple : List W → Option W
  | [.lst xs] => some (.tup xs)
  | [.tup xs] => some (.tup xs)
  | _ => none
theorem ru_tuple : RuE c (fun xs H Q => ∃ p ys, xs = [.ref p] ∧ ((SqL c.K H p ys ∧ ∀ l, H l = none → Q (.ref l) (upd H l (.tup ys))) ∨ (SqT c.K H p ys ∧ Q (.ref p) H))) bTuple := by
  intro F H vs ws w Q _ u e k _
  unfold bTuple at e
  split at e
  · obtain ⟨x, rfl, h1⟩ := rl1 u
    cases e
    obtain ⟨a, vs, rfl, e1, e2⟩ := rL_lst h1
    exact ⟨a, vs, rfl, .inl ⟨.of e1, fun l hl => k _ _ (.new hl) ⟨l, vs, rfl, .of upd_same, RepFs.kp (Ext.kp (.new hl)) _ _ e2⟩⟩⟩
  · obtain ⟨x, rfl, h1⟩ := rl1 u
    cases e
    obtain ⟨a, vs, rfl, e1, e2⟩ := rL_tup h1
    exact ⟨a, vs, rfl, .inr ⟨e1, k _ _ (.refl _) ⟨a, vs, rfl, e1, e2⟩⟩⟩
  · cases e
theorem sim_dict0 : SimO c X (.Dict [] [] pos) (eC (.dct [] [])) := fun Wx tk => PE.imp pe_dnewK fun σ H Q q => by
  obtain ⟨F, ss, s, q⟩ := q
  intro p hp
  refine From.retE q (Ext.new hp).fm (s.ext (.new hp)) ⟨p, rfl, .of hp, fun z => ?_, fun z => s.fresh (.of hp) z, [], ⟨⟨_, upd_same, trivial, fun _ _ z => by cases z⟩, .inl ⟨[], .inl upd_same, rfl, rfl⟩⟩, rfl⟩
  obtain ⟨o, e⟩ := s.liv p z
  rw [hp] at e
  cases e
/-! ### powers, texts repeated -/
def bPow : List W → Option W
  | [.int i, .int j] => if decide (0 ≤ j) && decide ((Builtin.Int.intBits i : Int) * j ≤ 134217728) then some (.int (i ^ j.toNat)) else none
  | _ => none
def CPowB (i j : Int) : Prop := 0 ≤ j ∧ (Builtin.Int.intBits i : Int) * j ≤ 2 ^ 27
theorem op_powB : OpR X (binaryOp .Pow) (L2.rI CPowB fun i j => .int (i ^ j.toNat)) := opI fun _ _ _ _ _ _ _ hc q => pow_int hc.1 hc.2 q
theorem ru_pow : RuF c (r2 (L2.rI CPowB fun i j => .int (i ^ j.toNat))) bPow := ru_int2 fun ws w e => by
  unfold bPow at e
  split at e
  · split at e
    · rename_i h
      rw [Bool.and_eq_true, decide_eq_true_iff, decide_eq_true_iff] at h
      cases e
      exact ⟨_, _, rfl, h, rfl⟩
    · cases e
  · cases e
def rRepS : R2 := fun x y H Q => ∃ (a : Str) (k : Int), x = .str a ∧ y = .int k ∧ 2 ≤ k ∧ 1 ≤ a.length ∧ a.length * k.toNat ≤ 100000 ∧ Q (.str ⟨(List.replicate k.toNat a.cps).foldl (· ++ ·) #[]⟩) H
theorem rep_arr {a : Array Nat} : ∀ {n : Nat} {acc : Array Nat}, ((List.replicate n a).foldl (· ++ ·) acc).toList = acc.toList ++ (List.replicate n a.toList).flatten
  | 0, acc => by simp
  | n + 1, acc => by
    rw [List.replicate_succ, List.foldl_cons, rep_arr, Array.toList_append, List.replicate_succ, List.flatten_cons, List.append_assoc]
theorem rep_len {l : List Nat} : ∀ {n : Nat}, (List.replicate n l).flatten.length = l.length * n
  | 0 => by simp
  | n + 1 => by
    rw [List.replicate_succ, List.flatten_cons, List.length_append, rep_len, Nat.mul_succ, Nat.add_comm]
theorem op_repS : OpR X (binaryOp .Mult) rRepS := by
  intro pins s σ H x y v u Q I rx ry h
  obtain ⟨a, k, rfl, rfl, h2, h1, hl, q⟩ := h
  obtain ⟨t, rfl⟩ := rx
  obtain ⟨t', rfl⟩ := ry
  have kb : k.toNat ≤ 100000 := Nat.le_trans (Nat.le_mul_of_pos_left _ h1) hl
  have ab : a.length ≤ 100000 := Nat.le_trans (Nat.le_mul_of_pos_right _ (by omega)) hl
  have fit : ¬ ((a.length : Int) > (2 ^ 63 - 1) / k) := fun z => by
    have z2 : (2 ^ 63 - 1) / k < (a.length : Int) := z
    have z3 := Int.lt_mul_of_ediv_lt (by omega : 0 < k) z2
    have z4 : (a.length : Int) * k ≤ 100000 * 100000 := by
      have e1 : (a.length : Int) ≤ 100000 := by omega
      have e2 : k ≤ 100000 := by omega
      calc (a.length : Int) * k ≤ 100000 * k := Int.mul_le_mul_of_nonneg_right e1 (by omega)
        _ ≤ 100000 * 100000 := Int.mul_le_mul_of_nonneg_left e2 (by omega)
    omega
  have nz : (k == 1 || a.length == 0) = false := by
    rw [Bool.or_eq_false_iff, beq_eq_false_iff_ne, beq_eq_false_iff_ne]
    omega
  refine PySem.P.mul_str (by rw [decide_eq_false (by omega), decide_eq_false (by omega)]; rfl) (fun _ _ => fit) (fun _ _ => ?_) ?_
  · exact decide_eq_false (Nat.not_lt.mpr (sizeLine_big hl))
  · rw [if_neg (by omega), if_neg (by rw [nz]; exact Bool.false_ne_true)]
    refine ⟨?_, .str _, H, I.tok _, ⟨_, rfl⟩, q⟩
    show Array.size _ ≤ sizeLine
    rw [← Array.length_toList, rep_arr, List.length_append, rep_len]
    have e : a.cps.toList.length * k.toNat ≤ 100000 := by
      rw [Array.length_toList]
      exact hl
    rw [show (#[] : Array Nat).toList.length = 0 from rfl, Nat.zero_add]
    exact sizeLine_big e
def bRep : List W → Option W
  | [.str s, .int k] => if decide (2 ≤ k) && decide (1 ≤ s.length) && decide (s.length * k.toNat ≤ 100000) then some (.str (List.replicate k.toNat s).flatten) else none
  | _ => none
theorem ru_rep : RuF c (r2 rRepS) bRep := by
  intro F H vs ws w Q _ u e k
  unfold bRep at e
  split at e
  · rename_i s n
    obtain ⟨x, y, rfl, h1, h2⟩ := rl2 u
    split at e
    · rename_i h
      rw [Bool.and_eq_true, Bool.and_eq_true, decide_eq_true_iff, decide_eq_true_iff, decide_eq_true_iff] at h
      cases e
      rw [rL_str h1, rL_int h2]
      refine ⟨mkS s, n, rfl, rfl, h.1.1, by rw [mkS_len]; exact h.1.2, by rw [mkS_len]; exact h.2, k _ _ (.refl _) ?_⟩
      show V.str _ = V.str _
      congr 1
      have e1 : ((List.replicate n.toNat s.toArray).foldl (· ++ ·) #[]).toList = (List.replicate n.toNat s).flatten := by
        rw [rep_arr]
        simp
      show (⟨(List.replicate n.toNat s.toArray).foldl (· ++ ·) #[]⟩ : Str) = ⟨(List.replicate n.toNat s).flatten.toArray⟩
      rw [← e1]
    · cases e
  · cases e
/-- * of numbers, of a text and a number -/
def bMulA (ws : List W) : Option W := match bMul ws with
  | some w => some w
  | none => bRep ws
def rMulA : R2 := fun x y H Q => L2.rI CMul (fun i j => .int (i * j)) x y H Q ∨ rRepS x y H Q
theorem op_mulA : OpR X (binaryOp .Mult) rMulA := op_mul.or op_repS
theorem ru_mulA : RuF c (r2 rMulA) bMulA := by
  intro F H vs ws w Q l u e k
  have two : ∀ {r : R2}, r2 r vs H Q → ∃ x y, vs = [x, y] ∧ r x y H Q := fun {r} h => by
    match vs, h with
    | [x, y], h => exact ⟨x, y, rfl, h⟩
  unfold bMulA at e
  split at e
  · rename_i w' e1
    cases e
    obtain ⟨x, y, ev, h⟩ := two (ru_mul F H vs ws _ Q l u e1 k)
    rw [ev]
    exact .inl h
  · obtain ⟨x, y, ev, h⟩ := two (ru_rep F H vs ws w Q l u e k)
    rw [ev]
    exact .inr h
end
end VI

set_option Elab.async false
set_option linter.all false
set_option maxRecDepth 100000
set_option maxHeartbeats 1000000
/-! VI, part 20: the law's end, where no guard stands around. -/
namespace VI
open PySem L2 PySem.Spec PyProof.Rows
section
variable {P : Program} {w : World} {K : PySem.W.Frag} {mg mb : Str → Option Value} {s : Shared} {H : Hp} {cs : List (Addr × Addr)} {a : Addr} {vs : List Value} {ns : List Int}
/-- only the script (at a) and the tables are tracked -/
structure Only (s : Shared) (H : Hp) (cs : List (Addr × Addr)) (a : Addr) (vs : List Value) : Prop where
  scr : s.heap.get? a = some { cls := .type "list", data := .seq vs.toArray }
  tb : ∀ p ∈ cs, s.heap.get? p.2 = some { cls := .none, data := .fields #[] } ∧ H p.2 = some (.tbl #[])
  one : ∀ b u, H b = some u → (∃ p ∈ cs, b = p.2) ∨ (b = a ∧ ∃ o xs, u = .frz o (.lst xs))
/-- what is neither is in the ground -/
theorem Only.free (O : Only s H cs a vs) {b : Addr} {o : Obj} (e : s.heap.get? b = some o) (n1 : ∀ xs n, o.data ≠ .seq xs n) (n2 : o.data ≠ .fields #[]) : H b = none := by
  cases q : H b with
  | none => rfl
  | some u =>
    exfalso
    rcases O.one b u q with ⟨p, hp, rfl⟩ | ⟨rfl, _⟩
    · have z := (O.tb p hp).1
      rw [e] at z
      cases z
      exact n2 rfl
    · have z := O.scr
      rw [e] at z
      cases z
      exact n1 _ _ rfl
theorem Only.nsp (O : Only s H cs a vs) {b : Addr} {m : Str → Option Value} (h : s.heap.Ns b m) : (hidT s.heap H).Ns b m := by
  obtain ⟨o, es, ep, e, d, r⟩ := h
  refine ⟨o, es, ep, hidT_get e (O.free e (fun xs n z => ?_) fun z => ?_), d, r⟩ <;> rw [d] at z <;> cases z
theorem Only.tab (O : Only s H cs a vs) (glob : s.heap.Ns mainGlobals mg) (code : ∀ p ∈ cs, PySem.W.CodeHd s.heap p.1 p.2)
    (main : ∃ (bm : Addr) (ob : Obj), mg "__builtins__" = some (.ref bm) ∧ bm ≠ builtinsNs ∧ s.heap.get? bm = some ob ∧ ob.cls = .type "module" ∧ ob.dict = some builtinsNs ∧ ob.data = .plain) : ∀ p ∈ cs, LamX.TabB (hidT s.heap H) mg p.1 p.2 := fun p hp => by
  have tp := (O.tb p hp).1
  have other : ∀ {b : Addr} {o : Obj}, s.heap.get? b = some o → o.data ≠ .fields #[] → b ≠ p.2 := fun {b o} e n z => by
    rw [z, tp] at e
    cases e
    exact n rfl
  constructor
  · obtain ⟨o, us, file, tf, flags, tg, inF, text, tt, e, r1, r2, r3, rest⟩ := code p hp
    refine ⟨o, us, file, tf, flags, tg, inF, text, tt, hidT_get e (O.free e (fun xs n z => ?_) fun z => ?_), r1, r2, r3, rest⟩
    · rw [r2] at z
      cases z
    · rw [r2] at z
      cases z
      simp at r3
  · obtain ⟨bm, ob, g, nb, e, c1, c2, c3⟩ := main
    refine ⟨bm, ob, g, nb, fun z => ?_, other e (fun z => by rw [c3] at z; cases z), hidT_get e (O.free e (fun xs n z => ?_) fun z => ?_), c1, c2, c3⟩
    · obtain ⟨o, es, ep, eo, d, _⟩ := glob
      rw [z, eo] at e
      cases e
      rw [d] at c3
      cases c3
    · rw [c3] at z
      cases z
    · rw [c3] at z
      cases z
  · intro z
    obtain ⟨o, es, ep, eo, d, _⟩ := glob
    rw [z, tp] at eo
    cases eo
    cases d
/-- the law is called -/
theorem Only.call {fa : Addr} {fd : FuncData} {x : Str} {k : Nat} {sp : Sp} (O : Only s H cs a vs) (ok : HOk P w H s.heap) (KX : K.In s.heap) (kt : ∀ p ∈ cs, K.lookup p.2 = none) (ka : H a ≠ none → K.lookup a = none) (glob : s.heap.Ns mainGlobals mg) (hb : s.heap.Ns builtinsNs mb)
    (hbb : ∀ x : Str, x ≠ "__name__" → mb x = bootBuiltins x) (lim : s.heap.NoLimit) (gens : s.gens = #[]) (code : ∀ p ∈ cs, PySem.W.CodeHd s.heap p.1 p.2)
    (main : ∃ (bm : Addr) (ob : Obj), mg "__builtins__" = some (.ref bm) ∧ bm ≠ builtinsNs ∧ s.heap.get? bm = some ob ∧ ob.cls = .type "module" ∧ ob.dict = some builtinsNs ∧ ob.data = .plain) (room : Room k callerA)
    (F : ∀ base : Heap, K.In base → base.Ns mainGlobals mg → (∀ p ∈ cs, LamX.TabB base mg p.1 p.2) → FnG P w K mg base k fa fd [x] sp) (bind : ∀ (s : Shared) (u : Value), BindsTo s fd ⟨[u], []⟩ [(x, u)]) (hsp : sp [.ref a] H (fun v _ => v = .bl true) fun _ _ _ => False) :
    codeAny (model P w) callerA (.call (.ref fa) ⟨[.ref a], []⟩) (fun r s' => r = .ok (.ret (.bool true)) ∧ OldK s.heap s'.heap ∧ s'.os = s.os ∧ AllBare s'.gens) s := by
  have kIn : K.In (hidT s.heap H) := fun b o e => hidT_get (KX b o e) (by
    cases q : H b with
    | none => rfl
    | some u =>
      exfalso
      rcases O.one b u q with ⟨p, hp, rfl⟩ | ⟨rfl, _⟩
      · rw [kt p hp] at e
        cases e
      · rw [ka (by rw [q]; exact fun z => by cases z)] at e
        cases e)
  have md : L2.Mod K mg (hidT s.heap H) := ⟨kIn, O.nsp glob, ⟨mb, O.nsp hb, hbb⟩, lim.elim fun mc h => ⟨mc, O.nsp h.1, h.2⟩⟩
  have e0 : Env0 P w K mg (hidT s.heap H) callerA [] s H := ⟨rfl, md, fun b o e => of_hidT e, Nat.le_of_eq (hidT_size _ _), trivial, fun b hb => absurd hb (List.not_mem_nil), ok, AllBare.of_eq gens⟩
  refine codeAny_mono ((F _ kIn (O.nsp glob) (O.tab glob code main)).run callerA [] s H ⟨[.ref a], []⟩ [.ref a] [.ref a] _ _ room rfl e0 (bind s (.ref a)) (.cons rfl .nil) hsp) fun r s' h => ?_
  match r, h with
  | .error e, h =>
    obtain ⟨_, _, _, _, _, _, _, _, _, _, _, _, z⟩ := h
    exact z.elim
  | .ok .next, h => exact False.elim h
  | .ok .brk, h => exact False.elim h
  | .ok .cont, h => exact False.elim h
  | .ok (.ret u), h =>
    obtain ⟨v, H', os, bare, un, ok', rel, q⟩ := h
    have q : v = .bl true := q
    subst q
    obtain rfl : u = Value.bool true := rel
    have tabs : ∀ p ∈ cs, ∃ more : Array Value, s'.heap.get? p.2 = some { cls := .none, data := .fields more } := fun p hp => by
      obtain ⟨more, z⟩ := un.tbls p.2 #[] (O.tb p hp).2
      exact ⟨_, ok' p.2 _ z⟩
    have same : ∀ b o, (∀ p ∈ cs, b ≠ p.2) → s.heap.get? b = some o → s'.heap.get? b = some o := fun b o n e => by
      cases q : H b with
      | none => exact un.keep b o e q (by intro z; cases z) (by simp)
      | some u =>
        rcases O.one b u q with ⟨p, hp, z⟩ | ⟨_, ob, xs, rfl⟩
        · exact absurd z (n p hp)
        · have e1 := (ok b _ q).1
          have e2 := (ok' b _ (un.frzs b ob _ q)).1
          rw [e] at e1
          cases e1
          exact e2
    refine ⟨rfl, ⟨fun b o e => ?_, fun b o e => ?_⟩, os, bare⟩
    · by_cases n : ∃ p ∈ cs, b = p.2
      · obtain ⟨p, hp, rfl⟩ := n
        obtain ⟨more, z⟩ := tabs p hp
        have t0 := (O.tb p hp).1
        rw [t0] at e
        cases e
        refine .inr (.inl ⟨((code p hp).tab t0).isCodeTable, rfl, #[], more, rfl, ?_⟩)
        rw [Array.empty_append]
        exact z
      · exact .inl (same b o (fun p hp z => n ⟨p, hp, z⟩) e)
    · by_cases n : ∃ p ∈ cs, b = p.2
      · obtain ⟨p, hp, rfl⟩ := n
        obtain ⟨more, z⟩ := tabs p hp
        exact ⟨_, z⟩
      · exact ⟨o, same b o (fun p hp z => n ⟨p, hp, z⟩) e⟩
end
/-- what is known of the law at the head's heap h -/
def LawG (l : PySem.W.OpenLaw) (w : World) (K : PySem.W.Frag) (k n : Nat) (x : Str) (mg : Str → Option Value) (fa : Addr) (h : Heap) : Prop :=
  ∃ (fd : FuncData) (cs : List (Addr × Addr)) (sp : Sp), (∀ p ∈ cs, h.get? p.2 = some { cls := .none, data := .fields #[] }) ∧ (∀ p ∈ cs, K.lookup p.2 = none) ∧ (∀ p ∈ cs, PySem.W.CodeHd h p.1 p.2) ∧ (∀ (s : Shared) (u : Value), BindsTo s fd ⟨[u], []⟩ [(x, u)]) ∧
    (∀ (H : Hp) (a : Addr) (ns : List Int), ns.length ≤ n → (∀ z ∈ ns, Builtin.Int.intBits z ≤ 1048576) → (∀ p ∈ cs, H p.2 = some (.tbl #[])) → ((∃ o, H a = some (.frz o (.lst (ns.map V.int)))) ∨ SqL K (fun _ => none) a (ns.map V.int)) → sp [.ref a] H (fun v _ => v = .bl true) fun _ _ _ => False) ∧
    ∀ base : Heap, K.In base → base.Ns mainGlobals mg → (∀ p ∈ cs, LamX.TabB base mg p.1 p.2) → FnG l.prog w K mg base k fa fd [x] sp
theorem walk_G {l : PySem.W.OpenLaw} {n k : Nat} {q : Program} {loose : List Str} {XP : (Str → Option Value) → Heap → Prop} {YP : World → Heap → Prop} {d : DefRec} {K : Params → PySem.W.Frag} {x : Str} (hn : l.most = some n) (hn2 : n ≤ sizeLine) (hdf : d.params.defaults = []) (room : Room k callerA)
    (hY : ∀ (w : World) (h : Heap), YP w h → (K w.params).In h) (F : ∀ (w : World) (mg : Str → Option Value) (fa : Addr) (h : Heap), YP w h → XP mg h → (K w.params).In h → h.Ns mainGlobals mg → mg d.name = some (.ref fa) → LawG l w (K w.params) k n x mg fa h) :
    PySem.W.WalkO q loose XP YP l.row.toRowW d [] (fun f vs => PySem.call f vs) := by
  refine Att.attach_callB hn hdf fun w s₀ s₁ mg mb fa o pm cd doc a vs ns G Y ho hd hcd hmg hobj hints hlen hbits hg => ?_
  have KX := hY w _ Y
  obtain ⟨fd, cs, sp, hT, nT, C, hb, hsp, hF⟩ := F w mg fa _ Y G.X KX G.T.g hmg
  have rv := vals_ints hints
  have far : ∀ p ∈ cs, p.2 ≠ a := fun p hp z => by
    have e := hT p hp
    rw [z, hobj] at e
    cases e
  have tabOk : ∀ p ∈ cs, ∀ H : Hp, ObjOk l.prog w H s₁.heap p.2 (.tbl #[]) := fun p hp H => hT p hp
  cases hk : (K w.params).lookup a with
  | some o =>
    have e := KX a o hk
    rw [hobj] at e
    cases e
    have sq : SqL (K w.params) (fun _ => none) a (ns.map V.int) := .inr ⟨_, vs.toArray, _, hk, rfl, rfl, rfl, by rw [List.size_toArray, hints.length]; exact Nat.le_trans hlen hn2, by simpa using rv⟩
    refine Only.call (H := fun b => if b ∈ cs.map (·.2) then some (.tbl #[]) else none) ⟨hobj, fun p hp => ⟨hT p hp, if_pos (List.mem_map.mpr ⟨p, hp, rfl⟩)⟩, fun b u z => ?_⟩ (fun b u z => ?_) KX nT (fun z => ?_) G.T.g G.T.b G.T.builtins G.T.nolimit hg C G.T.bmain room hF hb (hsp _ a ns hlen hbits (fun p hp => if_pos (List.mem_map.mpr ⟨p, hp, rfl⟩)) (.inr sq))
    · by_cases m : b ∈ cs.map (·.2)
      · obtain ⟨p, hp, e⟩ := List.mem_map.mp m
        exact .inl ⟨p, hp, e.symm⟩
      · have z := (if_neg m).symm.trans z
        cases z
    · by_cases m : b ∈ cs.map (·.2)
      · obtain ⟨p, hp, rfl⟩ := List.mem_map.mp m
        have z := (if_pos m).symm.trans z
        cases z
        exact hT p hp
      · have z := (if_neg m).symm.trans z
        cases z
    · exfalso
      refine z (if_neg fun m => ?_)
      obtain ⟨p, hp, e⟩ := List.mem_map.mp m
      exact far p hp e
  | none =>
    refine Only.call (H := fun b => if b = a then some (.frz { cls := .type "list", data := .seq vs.toArray } (.lst (ns.map V.int))) else if b ∈ cs.map (·.2) then some (.tbl #[]) else none)
      ⟨hobj, fun p hp => ⟨hT p hp, (if_neg (far p hp)).trans (if_pos (List.mem_map.mpr ⟨p, hp, rfl⟩))⟩, fun b u z => ?_⟩ (fun b u z => ?_) KX nT (fun _ => hk) G.T.g G.T.b G.T.builtins G.T.nolimit hg C G.T.bmain room hF hb
      (hsp _ a ns hlen hbits (fun p hp => (if_neg (far p hp)).trans (if_pos (List.mem_map.mpr ⟨p, hp, rfl⟩))) (.inl ⟨_, if_pos rfl⟩))
    · by_cases e : b = a
      · have z := (if_pos e).symm.trans z
        cases z
        exact .inr ⟨e, _, _, rfl⟩
      · have z := (if_neg e).symm.trans z
        by_cases m : b ∈ cs.map (·.2)
        · obtain ⟨p, hp, e⟩ := List.mem_map.mp m
          exact .inl ⟨p, hp, e.symm⟩
        · have z := (if_neg m).symm.trans z
          cases z
    · by_cases e : b = a
      · subst e
        have z := (if_pos rfl).symm.trans z
        cases z
        exact ⟨hobj, by rw [List.length_map]; exact Nat.le_trans hlen hn2, vs, _, rv, hobj⟩
      · have z := (if_neg e).symm.trans z
        by_cases m : b ∈ cs.map (·.2)
        · obtain ⟨p, hp, rfl⟩ := List.mem_map.mp m
          have z := (if_pos m).symm.trans z
          cases z
          exact hT p hp
        · have z := (if_neg m).symm.trans z
          cases z
end VI

set_option Elab.async false
set_option linter.all false
set_option maxRecDepth 100000
set_option maxHeartbeats 1000000
/-! VI, part 21: repr. -/
namespace VI
open PySem L2 PySem.Spec PyProof.Rows
mutual
def toD : W → Option PyData
  | .non => some .none
  | .bl b => some (.bool b)
  | .int i => some (.int i)
  | .str s => some (.str (mkS s))
  | .tup xs => (toDs xs).map .tuple
  | .lst xs => (toDs xs).map .list
  | _ => none
def toDs : List W → Option (List PyData)
  | [] => some []
  | x :: xs => (toD x).bind fun d => (toDs xs).map fun ds => d :: ds
end
/-- what repr shows: data without dicts, or {} -/
def reprD : W → Option PyData
  | .dct [] [] => some (.dict [])
  | w => toD w
def bRepr : List W → Option W
  | [w] => (reprD w).bind fun d => if d.showable && decide (d.shown.length ≤ 100000) && decide (d.depth ≤ 50) then some (.str d.shown.cps.toList) else none
  | _ => none
section
variable {c : Cn} {X : Cx} {pins : List (Addr × Obj)} {σ : L2.St} {H : Hp} {s : Shared} {F : Addr → Prop}
mutual
theorem reads_F (hK : X.K = c.K) (I : Inv X pins σ H s) : ∀ {w : W} {v : V} {u : Value} {d : PyData}, RepF c F H w v → RelV v u → toD w = some d → ∃ as, Reads s.heap u d as ∧ d.hasDict = false
  | .non, v, u, d, r, rv, e => by
    cases e
    rw [show v = .non from r] at rv
    obtain rfl : u = .none := rv
    exact ⟨[], .none, by simp only [PyData.hasDict]⟩
  | .bl b, v, u, d, r, rv, e => by
    cases e
    rw [show v = .bl b from r] at rv
    obtain rfl : u = .bool b := rv
    exact ⟨[], .bool b, by simp only [PyData.hasDict]⟩
  | .int i, v, u, d, r, rv, e => by
    cases e
    rw [show v = .int i from r] at rv
    obtain ⟨t, rfl⟩ := rv
    exact ⟨[], .int i t, by simp only [PyData.hasDict]⟩
  | .str l, v, u, d, r, rv, e => by
    cases e
    rw [show v = .str (mkS l) from r] at rv
    obtain ⟨t, rfl⟩ := rv
    exact ⟨[], .str _ t, by simp only [PyData.hasDict]⟩
  | .tup xs, v, u, d, r, rv, e => by
    obtain ⟨a, vs, rfl, h1, h2⟩ := r
    obtain rfl : u = Value.ref a := rv
    obtain ⟨ds, ed, e⟩ := Option.map_eq_some_iff.mp e
    subst e
    obtain ⟨its, rvs, ⟨o, ho, hc, n, hd⟩, _⟩ := I.tuple (by rw [hK]; exact h1)
    obtain ⟨as, ra, hn⟩ := reads_Fs hK I h2 rvs ed
    exact ⟨as, .tuple ho hc hd ra, by simpa only [PyData.hasDict] using hn⟩
  | .lst xs, v, u, d, r, rv, e => by
    obtain ⟨a, vs, rfl, _, h1, h2⟩ := r
    obtain rfl : u = Value.ref a := rv
    obtain ⟨ds, ed, e⟩ := Option.map_eq_some_iff.mp e
    subst e
    obtain ⟨its, rvs, ⟨o, n, ho, hc, _, hd⟩, _⟩ := I.list (.inl (.inl h1))
    obtain ⟨as, ra, hn⟩ := reads_Fs hK I h2 rvs ed
    exact ⟨a :: as, .list ho hc hd ra, by simpa only [PyData.hasDict] using hn⟩
  | .dct _ _, _, _, _, _, _, e => by cases e
  | .scr _, _, _, _, _, _, e => by cases e
  | .fn _, _, _, _, _, _, e => by cases e
  | .cls _, _, _, _, _, _, e => by cases e
theorem reads_Fs (hK : X.K = c.K) (I : Inv X pins σ H s) : ∀ {ws : List W} {vs : List V} {us : List Value} {ds : List PyData}, RepFs c F H ws vs → Vals vs us → toDs ws = some ds → ∃ as, ReadsAll s.heap us ds as ∧ PyData.hasDictAll ds = false
  | [], vs, us, ds, r, rv, e => by
    have r : vs = [] := r
    subst r
    cases rv
    cases e
    exact ⟨[], .nil, by simp only [PyData.hasDictAll]⟩
  | w :: ws, vs, us, ds, r, rv, e => by
    obtain ⟨v, vr, rfl, r1, r2⟩ := r
    cases rv with
    | cons rv rvs =>
      obtain ⟨d, ed, e⟩ := Option.bind_eq_some_iff.mp e
      obtain ⟨ds', eds, e⟩ := Option.map_eq_some_iff.mp e
      subst e
      obtain ⟨as, ra, hn⟩ := reads_F hK I r1 rv ed
      obtain ⟨bs, rb, hn2⟩ := reads_Fs hK I r2 rvs eds
      exact ⟨as ++ bs, .cons ra rb, by simp only [PyData.hasDictAll, hn, hn2, Bool.or_false]⟩
end
def rRepr (c : Cn) : LR := fun vs H Q => ∃ v w F d, vs = [v] ∧ RepL c F H w v ∧ reprD w = some d ∧ d.showable = true ∧ d.shown.length ≤ 100000 ∧ d.depth ≤ 50 ∧ Q (.str d.shown) H
theorem call_reprW (hK : X.K = c.K) (hg : X.A.guards = some []) (hu : X.A.units + 64 < cLine) : CallR X (.builtin "repr") (rRepr c) := by
  intro pins s σ H xs us Q I r h
  obtain ⟨v, w, F, d, rfl, rw', ed, hs, hl, hdp, q⟩ := h
  obtain ⟨u, rfl, ru⟩ := vals1 r
  have fin : ∀ (as : List Addr) (a : Addr), u = .ref a → Reads s.heap u d as → (d.hasDict = true → sysModules ∉ as) → wpAny (model X.prog X.w) X.A (call (.builtin "repr") [u]) (EP X pins σ Q) X.xe s := fun as a eu rd hn => by
    subst eu
    exact repr_of_reads' rd hs hn hg (by omega) (fun b o e => e) (fun h' t tk k => ⟨.str d.shown, H, I.kept (t' := tk) k, ⟨t, rfl⟩, q⟩) (sizeLine_big hl)
  have cont : ∀ {F' : Addr → Prop} (a : Addr), v = .ref a → RepF c F' H w v → toD w = some d → wpAny (model X.prog X.w) X.A (call (.builtin "repr") [u]) (EP X pins σ Q) X.xe s := fun {F'} a ev rf et => by
    obtain ⟨as, rd, hn⟩ := reads_F hK I rf ru et
    rw [ev] at ru
    obtain rfl : u = Value.ref a := ru
    exact fin as a rfl rd fun z => by
      rw [hn] at z
      cases z
  have dict0 : ∀ {F' : Addr → Prop} (a : Addr), v = .ref a → d = .dict [] → (∃ vs, DctAt H a [] vs ∧ RepFs c F' H [] vs) → wpAny (model X.prog X.w) X.A (call (.builtin "repr") [u]) (EP X pins σ Q) X.xe s := fun {F'} a ev e0 ⟨vs, da, rs⟩ => by
    rw [ev] at ru
    obtain rfl : u = Value.ref a := ru
    have it : (a == sysModules) = false ∧ ∃ o es n, s.heap.get? a = some o ∧ o.cls = .type "dict" ∧ o.data = .dict es n ∧ es.toList = [] := by
      rcases da with ⟨kvs, rd, ek, _⟩ | ⟨kvs, rd, ek, _⟩
      · cases kvs with
        | cons p r => cases ek
        | nil =>
          obtain ⟨_, hne, ws, kv, o, es, ep, e1, e2, e3, _, e5, _⟩ := rd.ok I.hok
          cases kv
          refine ⟨hne, o, es, ep, e1, e2.1, e3, ?_⟩
          cases el : es.toList with
          | nil => rfl
          | cons x y =>
            rw [el] at e5
            cases e5
      · cases kvs with
        | cons p r => cases ek
        | nil =>
          obtain ⟨_, hne, xs, pr, o, es, ep, e1, e2, e3, e4, _⟩ := rd.ok I.hok
          cases pr
          exact ⟨hne, o, es, ep, e1, e2.1, e3, e4⟩
    obtain ⟨hne, o, es, n, e1, e2, e3, e4⟩ := it
    have rd : Reads s.heap (.ref a) (.dict []) (a :: [] ++ []) := .dict (kvs := []) e1 e2 e3 (by rw [e4]; exact .nil) (by rw [e4]; exact .nil)
    subst e0
    refine fin _ a rfl rd fun _ z => ?_
    have z : sysModules ∈ [a] := z
    rw [List.mem_singleton] at z
    rw [← z, beq_self_eq_true] at hne
    cases hne
  rcases rw' with rw' | ⟨a, ev, ow⟩
  · cases w with
    | non =>
      cases ed
      rw [show v = .non from rw'] at ru
      obtain rfl : u = .none := ru
      exact PySem.P.repr_of_none ⟨.str _, H, I.tok _, ⟨_, rfl⟩, q⟩
    | bl b =>
      cases ed
      rw [show v = .bl b from rw'] at ru
      obtain rfl : u = .bool b := ru
      exact PySem.P.repr_of_bool ⟨.str _, H, I.tok _, ⟨_, rfl⟩, q⟩
    | int i =>
      cases ed
      rw [show v = .int i from rw'] at ru
      obtain ⟨t, rfl⟩ := ru
      exact PySem.P.repr_of_int (of_decide_eq_true hs) ⟨.str _, H, I.tok _, ⟨_, rfl⟩, q⟩
    | str l =>
      cases ed
      rw [show v = .str (mkS l) from rw'] at ru
      obtain ⟨t, rfl⟩ := ru
      exact PySem.P.repr_of_str ⟨.str _, H, I.tok _, ⟨_, rfl⟩, q⟩ (sizeLine_big hl)
    | tup xs =>
      obtain ⟨a, vs, ev, r⟩ := rw'
      exact cont a ev ⟨a, vs, ev, r⟩ ed
    | lst xs =>
      obtain ⟨a, vs, ev, r⟩ := rw'
      exact cont a ev ⟨a, vs, ev, r⟩ ed
    | dct ks ws =>
      obtain ⟨a, vs, ev, _, da, rs⟩ := rw'
      cases ks with
      | nil =>
        cases ws with
        | nil => exact dict0 (F' := F) a ev (Option.some.inj ed).symm ⟨vs, da, rs⟩
        | cons _ _ => cases ed
      | cons _ _ => cases ed
    | _ => cases ed
  · have rf := ow.rep
    rw [← ev] at rf
    cases w with
    | lst xs => exact cont a ev rf ed
    | dct ks ws =>
      obtain ⟨vs, ⟨_, da⟩, rs⟩ := ow
      cases ks with
      | nil =>
        cases ws with
        | nil => exact dict0 (F' := F) a ev (Option.some.inj ed).symm ⟨vs, da, rs⟩
        | cons _ _ => cases ed
      | cons _ _ => cases ed
    | _ => exact (show False from ow).elim
theorem ru_repr : RuF c (rRepr c) bRepr := by
  intro F H vs ws w Q _ u e k
  unfold bRepr at e
  split at e
  · obtain ⟨x, rfl, h1⟩ := rl1 u
    obtain ⟨d, ed, e⟩ := Option.bind_eq_some_iff.mp e
    split at e
    · rename_i h
      rw [Bool.and_eq_true, Bool.and_eq_true, decide_eq_true_iff, decide_eq_true_iff] at h
      cases e
      refine ⟨x, _, F, d, rfl, h1, ed, h.1.1, h.1.2, h.2, k _ _ (.refl _) ?_⟩
      show V.str _ = V.str ⟨d.shown.cps.toList.toArray⟩
      rw [Array.toArray_toList]
    · cases e
  · cases e
end
end VI

set_option Elab.async false
set_option linter.all false
set_option maxRecDepth 100000
set_option maxHeartbeats 1000000
/-! VI, part 22: raise; a lambda handed to a def that tells what it came to. -/
namespace VI
open PySem L2 PySem.Spec PyProof.Rows
/-! ### raise -/
/-- an own exception class without a field, k here -/
structure ExM (c : Cn) (X : Cx) (x : Str) (k : Nat) : Prop where
  is : ∃ B newId initId bmB, ExcBaseFacts B newId initId bmB ∧ PySem.W.excIn X.K (c.ca k) bmB newId = true ∧ X.mg x = some (.ref (c.ca k)) ∧ PySem.W.keepIn X.K (.ref (c.ca k)) = true ∧ Raises X (.ref (c.ca k))
  none : c.ef k = none
/-- .. with the field f -/
structure ExF (c : Cn) (X : Cx) (x : Str) (k : Nat) : Prop where
  is : ∃ nm B newId initId bmB fI kk f, PySem.VIX.ExcTxt X.K B newId initId bmB nm f (c.ca k) fI ∧ X.mg x = some (.ref (c.ca k)) ∧ Room kk X.A ∧ c.ef k = some f
section
variable {c : Cn} {X : Cx} {pos pos2 p p2 : Pos} {x : Str} {k : Nat} {a : Expr} {m : M W}
theorem sim_raiseM {t : Str} {j : Nat} (e : ExM c X x k) (hc : X.calm = true := by rfl) (hg : Gl X x := by rfl) (hd : (x == ("__debug__" : Str)) = false := by decide) : SimS c X (.Raise (some (.Call (.Name x p) [.Constant (.str t) j p2] [] pos)) none pos2) (sRaise k (eC .non)) := fun Wx tk => by
  obtain ⟨B, n, i, bm, F, q, gC, kC, r⟩ := e.is
  refine PS.imp (ps_raise hc tk (pmk_own F q gC kC r hg hd)) fun D σ H q => ?_
  obtain ⟨F, ss, s, q⟩ := q
  rcases q with ⟨f, s', z, _⟩ | ⟨k', w', s', z, q⟩
  · cases z
  · cases z
    exact q _ none σ F H .refl s .refl ⟨rfl, by rw [e.none]; trivial⟩
theorem sim_raiseF (e : ExF c X x k) (h : SimE c X a m) (hc : X.calm = true := by rfl) (hg : Gl X x := by rfl) (hd : (x == ("__debug__" : Str)) = false := by decide) (hs : starEach [a] X.env = (false, eval a X.env) :: starEach [] X.env := by rfl) (hpl : (backTo pos (starEach [] X.env)).any (·.1) = false := by rfl) :
    SimS c X (.Raise (some (.Call (.Name x p) [a] [] pos)) none pos2) (sRaise k m) := fun Wx tk => by
  obtain ⟨nm, B, n, i, bm, fI, kk, f, T, gC, hr, ef⟩ := e.is
  refine PS.imp (ps_raise hc tk (pmk_fld T gC hr (h Wx tk) hg hd hs hpl)) fun D σ H q => ?_
  obtain ⟨F, ss, s, q⟩ := q
  refine ⟨F, ss, s, (FromS.bind (U := rF c) q).mono fun v H1 ⟨w, F1, ss1, em, s1, u1, f1, l1, h3, hr⟩ => ⟨v, rfl, fun d hd => ?_⟩⟩
  rcases h3 with ⟨f, s', z, _⟩ | ⟨k', w', s', z, q⟩
  · cases z
  · cases z
    refine q _ (some d) σ F1 _ (Ext.new hd).fm (s1.ext (.new hd)) .refl ⟨rfl, ?_⟩
    rw [ef]
    exact ⟨d, v, rfl, upd_same, RepF.kp (Ext.kp (.new hd)) _ _ u1⟩
end
/-! ### a lambda, called by the def that got it -/
section
variable {X : Cx} {pins : List (Addr × Obj)} {σ : L2.St} {H : Hp} {s : Shared}
theorem pe_actG {Ng : List Str} {qg : Str} {sg : Scope} {g f c' : Addr} {cdg pm ctv : Value} {params : Arguments} {body : Expr} {scope : Scope} {k : Nat} {a : Str} {pn : List (Addr × Obj)} {xe : Value → Shared → Prop} {W : WX} {tb : XK → TE} {p1 p2 : Pos}
    (I : Inv X pins σ H s) (L : LamX.LamS X.env.scope scope) (hf : s.heap.get? f = some (PySem.W.kla_obj "<lambda>" (X.env.qual ++ "<lambda>") params body scope (cloFrom X.env.cells scope.names []) pm c' ctv)) (hfn : H f = none) (hfr : f ∉ frs X.stack)
    (hbind : bindArgs (PySem.W.kla_fn "<lambda>" (X.env.qual ++ "<lambda>") params body scope (cloFrom X.env.cells scope.names []) pm (.ref c') ctv) ⟨[], []⟩ = pure []) (tk : Takes ((cxOf C8.CX0 X.prog X.w X.K X.mg X.base Ng qg sg g cdg X.A X.stack s H C8.E0).tr pn xe) W)
    (hr : Room (k + 1) (X.A.deeper (envOfC qg sg s.heap.objs.size g cdg))) (gd : X.A.guards = some [])
    (hbody : ∀ (A : Around) (outer : List Env) (s : Shared) (H : Hp) (E : XK), Rm k (A.deeper (LamX.lamEnv X scope s.heap.objs.size f c')) → PE (LamX.lamCx X A outer s H E scope f c') body (tb E)) (hN : Ng[0]? = some a) (hv : Vis sg a) (hd : (a == ("__debug__" : Str)) = false) (hcd : (a == ("__classdict__" : Str)) = false) :
    PE ((cxOf C8.CX0 X.prog X.w X.K X.mg X.base Ng qg sg g cdg X.A X.stack s H C8.E0).tr pn xe) (.Call (.Name a p1) [] [] p2)
      (fun σZ HZ Q => σZ[0]? = some (some (.ref f)) ∧ HZ c' = some (LamX.CodeO c' (X.env.qual ++ "<lambda>")) ∧ tb (WE W σZ) σ HZ Q) := by
  constructor
  rintro pinsZ sZ σZ HZ Q IZ ⟨hs, hc, ht⟩
  apply wpAny_Call_Name_kw
  refine thn ((pe_var (pos := p1) (i := 0) hN hv hd hcd).run pinsZ sZ σZ HZ (fun v H1 => v = .ref f ∧ H1 = HZ) IZ ⟨.ref f, hs, rfl, rfl⟩) fun u s1 ⟨v, H1, I1, r1, ev, eH⟩ => ?_
  subst ev
  subst eH
  obtain rfl : u = Value.ref f := r1
  have of1 := I1.base.keep f _ hf hfn hfr (fun z => nomatch (show f ∈ ([] : List Addr) from z))
  refine PySem.W.callWith_F0 ⟨_, _, _, _, of1⟩ ?_
  obtain ⟨⟨oc, vs, t, hoc, hdc, hvc⟩, _, _⟩ := I1.hok c' _ hc
  apply wpAny_call
  refine codeAny_mono (R := CR (L2.CX X.prog X.w) (envOfC qg sg s.heap.objs.size g cdg :: X.stack) X.prog X.w H1 s1 Q (WE W σZ)) ?_ fun r s' hq => ?_
  · refine PySem.W.kla_callFunE hr.depth of1 rfl L.co L.gen rfl ⟨c', oc, vs, t, rfl, hoc, hdc, hvc⟩ ?_
    rw [show ([] : List Value) ++ [] = [] from rfl, hbind]
    refine wpAny_pure (wpAny_newFunctionEnv (fun y hy => (L.own y hy).2) (fun y hy => absurd hy (by simp)) (fun h₁ hns hsb => ⟨I1.nolimit.fresh _ hsb, ?_⟩) L.kind)
    have kp : ∀ b o, s1.heap.get? b = some o → h₁.get? b = some o := fun b o e => hsb.extBut b o (Nat.ne_of_lt (Heap.lt_size e)) (Heap.get?_push_of_some _ e)
    have J : Inv (LamX.lamCx X (X.A.deeper (envOfC qg sg s.heap.objs.size g cdg)) (envOfC qg sg s.heap.objs.size g cdg :: X.stack) s1 H1 (WE W σZ) scope f c') [] σ H1 { s1 with heap := h₁, toks := s1.toks + ([] : List (Str × Value)).length } :=
      LamX.lam_start2 I L I1.env0 hr.hd I1.base hns kp
    show codeAny _ _ (.expr body (LamX.lamEnv X scope s1.heap.objs.size f c')) _ _
    refine PySem.W.kla_codeExpr (wpAny_mono ((hbody _ _ s1 H1 (WE W σZ) ⟨hr.deeper _, gd⟩).run [] _ _ H1 Q J ht) (fun v s' hq => ?_) fun e s' hq => hq)
    obtain ⟨w', H', J', rv, q⟩ := hq
    exact ⟨w', H', J'.os, J'.bare, J'.base, J'.hok, rv, q⟩
  · match r, hq with
    | .error e, hq => exact passAt tk σZ pinsZ H1 s1 e s' I1 hq
    | .ok (.ret u), hq => exact I1.after hq
    | .ok .next, hq => exact False.elim hq
    | .ok .brk, hq => exact False.elim hq
    | .ok .cont, hq => exact False.elim hq
end
/-- what a def makes of the lambda that it gets; tl: the lambda's reading -/
def Tells (X : Cx) (Ng : List Str) (x : Str) (sg : Scope) (g : Addr) (cdg : Value) (bg : List Stmt) (a : Str) (q : Str) (TT : Addr → (XK → Hp → VK → Prop) → Hp → VK → Prop) : Prop :=
  ∀ (f c' : Addr) (s : Shared) (H : Hp) (Q : VK) (tl : XK → Hp → VK → Prop),
    (∀ (W : WX) (pn : List (Addr × Obj)) (xe : Value → Shared → Prop) (p1 p2 : Pos), Takes ((cxOf C8.CX0 X.prog X.w X.K X.mg X.base Ng x sg g cdg X.A X.stack s H C8.E0).tr pn xe) W →
      PE ((cxOf C8.CX0 X.prog X.w X.K X.mg X.base Ng x sg g cdg X.A X.stack s H C8.E0).tr pn xe) (.Call (.Name a p1) [] [] p2) (fun σZ HZ Q => σZ[0]? = some (some (.ref f)) ∧ HZ c' = some (LamX.CodeO c' q) ∧ tl (WE W σZ) HZ Q)) →
    H c' = some (LamX.CodeO c' q) → TT f tl H Q →
    ∃ t, PSs (cxOf C8.CX0 X.prog X.w X.K X.mg X.base Ng x sg g cdg X.A X.stack s H C8.E0).nox bg t ∧ t { nx := fun _ H' => Q .non H', rt := Q } (L2.start Ng [.ref f]) H
section
variable {X : Cx}
/-- x(lambda: body) -/
theorem pe_lamG {T : List (Addr × Str)} {TT : Addr → (XK → Hp → VK → Prop) → Hp → VK → Prop} {x a : Str} {g c P : Addr} {k : Nat} {pg : Arguments} {bg : List Stmt} {sg : Scope} {dV kV doc pm cdv ct oc : Value} {an od : Option Addr} {osl : Array (Option Value)} {Ng : List Str}
    {params : Arguments} {body : Expr} {scope : Scope} {t : XK → TE} {p lpos pos : Pos} (hg : Gl X x) (hm : X.mg x = some (.ref g)) (hk : PySem.W.keepIn X.K (.ref g) = true)
    (lk : X.K.lookup g = some ⟨oc, od, .func (PySem.W.fnOf x x pg bg sg dV kV doc pm an cdv ct), osl⟩) (hcg : PySem.W.codeIn X.K cdv x = true) (hb : L2.Binds X.K (PySem.W.fnOf x x pg bg sg dV kV doc pm an cdv ct) [a] []) (Sg : FnScope Ng [a] sg) (hNg : Ng[0]? = some a) (hva : Vis sg a)
    (hG : Tells X Ng x sg g cdv bg a (X.env.qual ++ "<lambda>") TT) (TB : LamX.TabB X.base X.mg c P) (hcode : X.env.code = .ref c) (hmT : (P, X.env.qual ++ "<lambda>") ∈ T) (hu : ∀ p ∈ T, p.1 = P → p.2 = X.env.qual ++ "<lambda>") (hr : Room (k + 2) X.A) (gd : X.A.guards = some []) (L : LamX.LamS X.env.scope scope)
    (hdef : defaultsOf params X.env = ([], [])) (hbind : ∀ (q : Str) (cl : List (Str × Addr)) (pm cv ctv : Value), bindArgs (PySem.W.kla_fn "<lambda>" q params body scope cl pm cv ctv) ⟨[], []⟩ = pure [])
    (hbody : ∀ (A : Around) (outer : List Env) (s : Shared) (H : Hp) (E : XK) (f c' : Addr), Rm k (A.deeper (LamX.lamEnv X scope s.heap.objs.size f c')) → PE (LamX.lamCx X A outer s H E scope f c') body (t E)) (hdb : (x == ("__debug__" : Str)) = false) (hd : (a == ("__debug__" : Str)) = false) (hcd : (a == ("__classdict__" : Str)) = false) :
    PE X (.Call (.Name x p) [.Lambda params body scope lpos] [] pos) (fun σ H Q => LamX.Tabs T H ∧ ∀ f H1, LamX.ExtN H H1 → LamX.Tabs T H1 → TT f (fun E H' Q' => t E σ H' Q') H1 Q) := by
  constructor
  rintro pins s σ H Q I ⟨hT, h⟩
  apply wpAny_Call_Name_kw
  apply ld_glob I hg hm (hd := hdb)
  refine PySem.W.callWith_K (h₀ := X.base) I.ok.mod.kin hk ?_ (by rfl) (by rfl)
  show wpAny _ _ (spliced ((false, eval (.Lambda params body scope lpos) X.env) :: backTo pos (starEach [] X.env))) _ _ s
  refine Calls.spliced_cons (LamX.lam_make2 I TB hcode hmT hu hT hdef (L.has I.ok) fun f c' pm' ctv H1 s' I1 eN T1 hf hfn hfr hco => Calls.spliced_nil ⟨I1.kIn, ?_⟩)
  apply wpAny_call
  refine codeAny_mono (R := CR C8.CX0 X.stack X.prog X.w H1 s' Q C8.E0) ?_ fun r s2 hq => ?_
  · refine LamX.run_ofS (N := Ng) (ps := [a]) (us := [.ref f]) (vs := [.ref f]) lk hcg Sg hr I1.env0 (hb s' [.ref f] I1.kIn rfl) (.cons rfl .nil) rfl fun hr' => ?_
    obtain ⟨t', ht', hq'⟩ := hG f c' s' H1 Q (fun E H' Q' => t E σ H' Q') (fun W pn xe p1 p2 tk => pe_actG I1 L hf hfn hfr (hbind _ _ _ _ _) tk hr' gd (fun A outer s H E hr2 => hbody A outer s H E f c' hr2) hNg hva hd hcd) hco (h f H1 eN T1)
    exact ⟨t', ht'.nox, hq'⟩
  · match r, hq with
    | .error e, hq => exact (show False from hq).elim
    | .ok (.ret u), hq => exact I1.after hq
    | .ok .next, hq => exact False.elim hq
    | .ok .brk, hq => exact False.elim hq
    | .ok .cont, hq => exact False.elim hq
end
end VI

set_option Elab.async false
set_option linter.all false
set_option maxRecDepth 100000
set_option maxHeartbeats 1000000
/-! VI, part 23: told(lambda: e), with clauses that tell a name, a field, a field's text. -/
namespace VI
open PySem L2 PySem.Spec PyProof.Rows
inductive HOut where
  | txt (s : List Nat) | fld (s : List Nat) | rep (s : List Nat)
/-- a clause: the class, what it hands back, its name's slot -/
structure Hd where
  k : Nat
  o : HOut
  i : Nat
def hOut : HOut → W → Option W
  | .txt s, _ => some (.str s)
  | .fld s, w => some (.tup [.str s, w])
  | .rep s, w => (bRepr [w]).map fun t => .tup [.str s, t]
def pick (sub : Nat → Nat → Option Bool) : List Hd → Nat → W → Option W
  | [], _, _ => none
  | h :: r, k, w => match sub k h.k with
    | some true => hOut h.o w
    | some false => pick sub r k w
    | none => none
def eMetS (told : List Nat) (sub : Nat → Nat → Option Bool) (hs : List Hd) (m : M W) : M W := fun ss => match m ss with
  | some (.ok w s) => some (.ok (.tup [.str told, w]) s)
  | some (.exc k w s) => (pick sub hs k w).map fun v => .ok v s
  | none => none
section
variable {c : Cn} {X : Cx} {σ : L2.St} {F F' : Addr → Prop} {H H' : Hp} {ss : Slots}
/-- all but tables stays -/
theorem SR.extN (s : SR c F H σ ss) (e : LamX.ExtN H H') (t : LamX.Tabs c.T H') : SR c F H' σ ss ∧ Fm F H (OwnA σ ss) F H' (OwnA σ ss) := by
  have f : Fm F H (OwnA σ ss) F H' (OwnA σ ss) := ⟨fun a o h _ n => e a o h n, fun a o h n => ⟨o, e a o h n, n⟩, fun _ h => h, fun _ h => .inl h, fun _ h => .inl h⟩
  have k := s.kp f
  have ow : ∀ {b : Addr} {w : W}, OwnAt c F H b w → OwnAt c F H' b w := fun {b w} h => h.keep k fun o h n => e b o h n
  refine ⟨⟨s.len, fun i t ov h1 h2 => ?_, s.nf, s.inj, s.lk, ⟨fun a h => ?_, t⟩⟩, f⟩
  · have q := s.rel i t ov h1 h2
    cases t with
    | no => trivial
    | fr l w =>
      obtain ⟨v, ev, q⟩ := q
      exact ⟨v, ev, RepF.kp k _ _ q⟩
    | own l w =>
      obtain ⟨b, ev, q⟩ := q
      exact ⟨b, ev, ow q⟩
    | lk w =>
      obtain ⟨v, ev, q⟩ := q
      exact ⟨v, ev, q.imp (RepF.kp k _ _) fun ⟨b, eb, q⟩ => ⟨b, eb, ow q⟩⟩
  · obtain ⟨o, h, n⟩ := s.live.1 a h
    exact ⟨o, e a o h n, n⟩
/-- what a clause's suite hands back, read -/
def hdTs (c : Cn) (h : Hd) : Addr → Value → Option Addr → TS := fun a cls d D σ H => match h.o with
  | .txt s => D.rt (.str (mkS s)) H
  | o => ∃ (F : Addr → Prop) (w wo : W) (f : Str) (dd : Addr) (v : V), cls = .ref (c.ca h.k) ∧ c.ef h.k = some f ∧ σ[h.i]? = some (some (.ref a)) ∧ d = some dd ∧ H dd = some (.xd [(f, v)]) ∧ RepF c F H w v ∧ hOut o w = some wo ∧ ∀ v' H', Ext H H' → RepF c F H' wo v' → D.rt v' H'
def hdCl (c : Cn) (h : Hd) : Clause := ⟨.ref (c.ca h.k), match h.o with | .txt _ => none | _ => some h.i, hdTs c h⟩
/-- what is known of the classes: which is under which, which field -/
structure SubOk (c : Cn) (sub : Nat → Nat → Option Bool) : Prop where
  is : ∀ k j b, sub k j = some b → PySem.W.exmOne c.K (.ref (c.ca k)) (.ref (c.ca j)) = some b
  same : ∀ k j, sub k j = some true → c.ef j ≠ none → c.ef k = c.ef j ∧ c.ca k = c.ca j
theorem pick_mix {sub : Nat → Nat → Option Bool} (so : SubOk c sub) {D : Ends} : ∀ {hs : List Hd} {k : Nat} {w wo : W} {cls : Value} {d : Option Addr} {σ : L2.St}, pick sub hs k w = some wo → (∀ h ∈ hs, (∃ s, h.o = .txt s) ∨ (c.ef h.k ≠ none ∧ h.i < σ.length)) → ExR c F H k w cls d →
    (∀ v H', Ext H H' → RepF c F H' wo v → D.rt v H') → wMix c.K (fun _ _ _ _ => False) D (hs.map (hdCl c)) cls d σ H
  | [], _, _, _, _, _, _, e, _, _, _ => by cases e
  | h :: hs, k, w, wo, cls, d, σ, e, hi, x, kk => by
    unfold pick at e
    obtain ⟨ec, xr⟩ := x
    cases es : sub k h.k with
    | none =>
      rw [es] at e
      cases e
    | some b =>
      rw [es] at e
      refine ⟨b, by rw [ec]; exact so.is _ _ _ es, fun hb => ?_, fun hb a ha => ?_⟩
      · subst hb
        exact pick_mix so e (fun h' m => hi h' (List.mem_cons_of_mem _ m)) ⟨ec, xr⟩ kk
      · subst hb
        have e : hOut h.o w = some wo := e
        rcases hi h List.mem_cons_self with ⟨s, eo⟩ | ⟨ef, il⟩
        · unfold hdCl
          rw [eo] at e ⊢
          cases e
          show hdTs c h a cls d D σ H
          unfold hdTs
          rw [eo]
          exact kk _ _ (.refl _) rfl
        · obtain ⟨e1, e2⟩ := so.same _ _ es ef
          cases ef' : c.ef h.k with
          | none => exact absurd ef' ef
          | some f =>
            rw [e1, ef'] at xr
            obtain ⟨dd, v, ed, hd, rv⟩ := xr
            have done : ∀ o, h.o = o → (∀ s, o ≠ .txt s) → (match (hdCl c h).i with
                | none => (hdCl c h).ts a cls d D σ H
                | some i => (hdCl c h).ts a cls d (goneAt i D) (σ.set i (some (.ref a))) H) := fun o eo no => by
              have ei : (hdCl c h).i = some h.i := by
                unfold hdCl
                rw [eo]
                cases o with
                | txt s => exact absurd rfl (no s)
                | fld s => rfl
                | rep s => rfl
              rw [ei]
              show hdTs c h a cls d (goneAt h.i D) (σ.set h.i (some (.ref a))) H
              unfold hdTs
              rw [eo] at e ⊢
              cases o with
              | txt s => exact absurd rfl (no s)
              | fld s => exact ⟨F, w, wo, f, dd, v, by rw [ec, e2], ef', List.getElem?_set_self il, ed, hd, rv, e, kk⟩
              | rep s => exact ⟨F, w, wo, f, dd, v, by rw [ec, e2], ef', List.getElem?_set_self il, ed, hd, rv, e, kk⟩
            cases eo : h.o with
            | txt s =>
              unfold hdCl
              rw [eo] at e ⊢
              cases e
              show hdTs c h a cls d D σ H
              unfold hdTs
              rw [eo]
              exact kk _ _ (.refl _) rfl
            | fld s => exact done _ eo fun s z => by cases z
            | rep s => exact done _ eo fun s z => by cases z
theorem bRepr_some {w t : W} (e : bRepr [w] = some t) : ∃ d, reprD w = some d ∧ d.showable = true ∧ d.shown.length ≤ 100000 ∧ d.depth ≤ 50 ∧ V.str d.shown = V.str (mkS d.shown.cps.toList) ∧ t = .str d.shown.cps.toList := by
  unfold bRepr at e
  obtain ⟨d, ed, e⟩ := Option.bind_eq_some_iff.mp e
  split at e
  · rename_i h
    rw [Bool.and_eq_true, Bool.and_eq_true, decide_eq_true_iff, decide_eq_true_iff] at h
    cases e
    refine ⟨d, ed, h.1.1, h.1.2, h.2, ?_, rfl⟩
    show V.str d.shown = V.str ⟨d.shown.cps.toList.toArray⟩
    rw [Array.toArray_toList]
  · cases e
/-! ### the clauses' suites -/
section
variable {p q pos p1 p2 p3 p4 p5 p6 p7 : Pos} {x n : Str} {hds : List ExceptHandler} {l : List Clause} {j k kk : Nat} {i : Nat} {f : Str}
theorem cl_txt {t : Str} {s : List Nat} (h : t = mkS s) (nm : Names X x (.ref (c.ca k))) (r : Clauses X hds l) : Clauses X (.ExceptHandler (some (.Name x p)) none [.Return (some (.Constant (.str t) j p1)) p2] q :: hds) (hdCl c ⟨k, .txt s, i⟩ :: l) :=
  .plain nm (fun a oe cls d pn _ _ => PSs.imp (pss_one (ps_ret pe_str)) fun D σ H y => by
    rw [h]
    exact y) r
/-- what reading a field asks -/
structure FldOk (c : Cn) (k : Nat) (f : Str) : Prop where
  xf : XfC c.K (c.ca k)
  no : PySem.W.findIn c.K (.ref (c.ca k)) f = some none
  ef : c.ef k = some f
theorem cl_fld {t : Str} {s : List Nat} {kt : Nat} (h : t = mkS s) (hK : X.K = c.K) (fo : FldOk c k f) (hi : X.N[i]? = some n) (hl : X.env.kindOf n = some .local) (hv : Vis X.env.scope n) (hd : (n == ("__debug__" : Str)) = false) (hcd : (n == ("__classdict__" : Str)) = false)
    (hb : ∀ a oe pn, attributeBase (.Name n p3) f (X.suite a ((a, oe) :: pn)).env (eval (.Name n p3) (X.suite a ((a, oe) :: pn)).env) = eval (.Name n p3) (X.suite a ((a, oe) :: pn)).env) (nm : Names X x (.ref (c.ca k))) (r : Clauses X hds l) :
    Clauses X (.ExceptHandler (some (.Name x p)) (some n) [.Return (some (.Tuple [.Constant (.str t) j p1, .Attribute (.Name n p3) f p4] kt p5)) p2] q :: hds) (hdCl c ⟨k, .fld s, i⟩ :: l) :=
  .named nm hi hl (fun a oe cls d pn hz hf => PSs.imp (pss_one (ps_ret (pe_tup (pa_cons pe_str (pa_cons (pe_xf (X := X) (by rw [hK]; exact fo.xf) (by rw [hK]; exact fo.no) hz hf (pe_var hi hv hd hcd) (hb a oe pn)) pa_nil))))) fun D σ H y => by
    obtain ⟨F, w, wo, f', dd, v, ec, ef, eσ, ed, hd, rv, eo, kk⟩ := y
    rw [fo.ef] at ef
    cases ef
    refine ⟨_, eσ, rfl, ec, dd, _, v, ed, hd, by simp, ⟨by show 2 ≤ sizeLine; decide, fun pp hp => ?_⟩⟩
    cases eo
    exact kk _ _ (.new hp) ⟨pp, _, rfl, .of upd_same, _, _, rfl, (by rw [h]; exact rfl), v, [], rfl, RepF.kp (Ext.kp (.new hp)) _ _ rv, rfl⟩) r
theorem cl_rep {t : Str} {s : List Nat} {kt : Nat} (h : t = mkS s) (hK : X.K = c.K) (fo : FldOk c k f) (hi : X.N[i]? = some n) (hl : X.env.kindOf n = some .local) (hv : Vis X.env.scope n) (hd : (n == ("__debug__" : Str)) = false) (hcd : (n == ("__classdict__" : Str)) = false)
    (hb : ∀ a oe pn, attributeBase (.Name n p3) f (X.suite a ((a, oe) :: pn)).env (eval (.Name n p3) (X.suite a ((a, oe) :: pn)).env) = eval (.Name n p3) (X.suite a ((a, oe) :: pn)).env) (gd : X.A.guards = some []) (hu : X.A.units + 64 < cLine) (hg : Gl X "repr") (hm : X.mg "repr" = none)
    (nm : Names X x (.ref (c.ca k))) (r : Clauses X hds l) :
    Clauses X (.ExceptHandler (some (.Name x p)) (some n) [.Return (some (.Tuple [.Constant (.str t) j p1, .Call (.Name "repr" p6) [.Attribute (.Name n p3) f p4] [] p7] kt p5)) p2] q :: hds) (hdCl c ⟨k, .rep s, i⟩ :: l) :=
  .named nm hi hl (fun a oe cls d pn hz hf => PSs.imp (pss_one (ps_ret (pe_tup (pa_cons pe_str (pa_cons (pe_callB (call_reprW (c := c) hK gd hu) hg hm boot_repr (pa_cons (pe_xf (X := X) (by rw [hK]; exact fo.xf) (by rw [hK]; exact fo.no) hz hf (pe_var hi hv hd hcd) (hb a oe pn)) pa_nil)) pa_nil))))) fun D σ H y => by
    obtain ⟨F, w, wo, f', dd, v, ec, ef, eσ, ed, hd, rv, eo, kk⟩ := y
    rw [fo.ef] at ef
    cases ef
    obtain ⟨t', et, eo⟩ := Option.map_eq_some_iff.mp eo
    obtain ⟨dt, e1, e2, e3, e4, e5, e6⟩ := bRepr_some et
    subst e6
    subst eo
    refine ⟨_, eσ, rfl, ec, dd, _, v, ed, hd, by simp, v, w, F, dt, rfl, .inl rv, e1, e2, e3, e4, ⟨by show 2 ≤ sizeLine; decide, fun pp hp => ?_⟩⟩
    exact kk _ _ (.new hp) ⟨pp, _, rfl, .of upd_same, _, _, rfl, (by rw [h]; exact rfl), _, [], rfl, e5, rfl⟩) r
end
/-! ### told(lambda: e) -/
/-- what the def makes of the lambda: a tuple of the text told and what the lambda hands back; or a clause's -/
def TTmet (c : Cn) (t : Str) (hs : List Hd) (Ng : List Str) : Addr → (XK → Hp → VK → Prop) → Hp → VK → Prop := fun f tl H Q =>
  tl (fun cls d H' => wMix c.K (fun _ _ _ _ => False) { nx := fun _ H2 => Q .non H2, rt := Q } (hs.map (hdCl c)) cls d (L2.start Ng [.ref f]) H') H fun v H' => [V.str t, v].length ≤ sizeLine ∧ ∀ p, H' p = none → Q (.ref p) (upd H' p (.tup [.str t, v]))
theorem tells_met {Ng : List Str} {x a q : Str} {sg : Scope} {g : Addr} {cdg : Value} {t : Str} {hs : List Hd} {hd : ExceptHandler} {hds : List ExceptHandler} {j kt : Nat} {p1 p2 p3 p4 p5 p6 : Pos} (hK : X.K = c.K) (hN : Ng.Nodup) (h0 : ∀ f : Addr, (L2.start Ng [V.ref f])[0]? = some (some (V.ref f)))
    (cl : ∀ s H, Clauses (cxOf C8.CX0 X.prog X.w X.K X.mg X.base Ng x sg g cdg X.A X.stack s H C8.E0).nox (hd :: hds) (hs.map (hdCl c))) :
    Tells X Ng x sg g cdg [.Try [.Return (some (.Tuple [.Constant (.str t) j p1, .Call (.Name a p2) [] [] p3] kt p4)) p5] (hd :: hds) [] [] p6] a q (TTmet c t hs Ng) := by
  intro f c' s H Q tl act hc h
  refine ⟨_, pss_one (ps_try_mix (X := (cxOf C8.CX0 X.prog X.w X.K X.mg X.base Ng x sg g cdg X.A X.stack s H C8.E0).nox) (l := hs.map (hdCl c)) (Wout := fun _ _ _ _ => False)
      (tb := fun W D σ H => σ[0]? = some (some (.ref f)) ∧ H c' = some (LamX.CodeO c' q) ∧ tl (WE W σ) H fun v H1 => [V.str t, v].length ≤ sizeLine ∧ ∀ p, H1 p = none → D.rt (.ref p) (upd H1 p (.tup [.str t, v])))
      rfl rfl hN takes0 (fun W pn xe tk _ => ?_) (cl s H)), ?_⟩
  · refine PSs.imp (pss_one (ps_ret (pe_tup (pa_cons pe_str (pa_cons (act W pn xe p2 p3 tk) pa_nil))))) fun D σ H1 y => ?_
    obtain ⟨y1, y2, y3⟩ := y
    exact ⟨y1, y2, y3⟩
  · refine ⟨h0 f, hc, ?_⟩
    have h : tl (fun cls d H' => wMix c.K (fun _ _ _ _ => False) { nx := fun _ H2 => Q .non H2, rt := Q } (hs.map (hdCl c)) cls d (L2.start Ng [.ref f]) H') H fun v H' => [V.str t, v].length ≤ sizeLine ∧ ∀ p, H' p = none → Q (.ref p) (upd H' p (.tup [.str t, v])) := h
    rw [← hK] at h
    exact h
/-- told(lambda: e), read -/
theorem met_read {told : List Nat} {sub : Nat → Nat → Option Bool} {hs : List Hd} {m : M W} {Wx : WX} {Q : VK} {Ng : List Str} (so : SubOk c sub) (hi : ∀ h ∈ hs, (∃ s, h.o = .txt s) ∨ (c.ef h.k ≠ none ∧ h.i < Ng.length)) (h : tM c (eMetS told sub hs m) (rF c) Wx σ H Q) :
    LamX.Tabs c.T H ∧ ∀ f H1, LamX.ExtN H H1 → LamX.Tabs c.T H1 → TTmet c (mkS told) hs Ng f (fun E H' Q' => tM c m (rF c) (fun cls d _ H'' => E cls d H'') σ H' Q') H1 Q := by
  obtain ⟨F, ss, s, h⟩ := h
  refine ⟨s.live.2, fun f H1 e t => ?_⟩
  obtain ⟨s1, f1⟩ := s.extN e t
  refine ⟨F, ss, s1, ?_⟩
  cases em : m ss with
  | none =>
    have z : eMetS told sub hs m ss = none := by
      unfold eMetS
      rw [em]
    rcases h with ⟨w, s', e', _⟩ | ⟨k, w, s', e', _⟩ <;> rw [z] at e' <;> cases e'
  | some r =>
    cases r with
    | ok w s' =>
      have z : eMetS told sub hs m ss = some (.ok (.tup [.str told, w]) s') := by
        unfold eMetS
        rw [em]
      rcases h with ⟨w', s'', e', q⟩ | ⟨k, w', s'', e', _⟩
      · rw [z] at e'
        cases e'
        refine .inl ⟨w, s', em, fun v F' H' f' sr l r => ⟨by show 2 ≤ sizeLine; decide, fun p hp => ?_⟩⟩
        exact q _ F' _ (f1.trans (f'.trans (Ext.new hp).fm)) (sr.ext (.new hp)) l ⟨p, _, rfl, .of upd_same, _, _, rfl, rfl, v, [], rfl, RepF.kp (Ext.kp (.new hp)) _ _ r, rfl⟩
      · rw [z] at e'
        cases e'
    | exc k w s' =>
      have z : eMetS told sub hs m ss = (pick sub hs k w).map fun v => .ok v s' := by
        unfold eMetS
        rw [em]
      cases ep : pick sub hs k w with
      | none =>
        rw [ep] at z
        rcases h with ⟨w', s'', e', _⟩ | ⟨k, w', s'', e', _⟩ <;> rw [z] at e' <;> cases e'
      | some wo =>
        rw [ep] at z
        rcases h with ⟨w', s'', e', q⟩ | ⟨k, w', s'', e', _⟩
        · rw [z] at e'
          cases e'
          refine .inr ⟨k, w, s', em, fun cls d F' H' f' sr l x => ?_⟩
          have ln : (L2.start Ng [V.ref f]).length = Ng.length ∨ (L2.start Ng [V.ref f]).length = 1 := by
            unfold L2.start
            simp
            omega
          refine pick_mix (D := { nx := fun _ H2 => Q .non H2, rt := Q }) so ep (fun h hm => (hi h hm).imp id fun ⟨e1, e2⟩ => ⟨e1, ?_⟩) x fun v H'' e'' r => q v F' H'' (f1.trans (f'.trans e''.fm)) (sr.ext e'') l r
          show h.i < (L2.start Ng [V.ref f]).length
          unfold L2.start
          simp
          omega
        · rw [z] at e'
          cases e'
theorem sim_met {told : List Nat} {sub : Nat → Nat → Option Bool} {hs : List Hd} {hd : ExceptHandler} {hds : List ExceptHandler} {m : M W} {x a : Str} {g cc P : Addr} {k j kt : Nat} {pg : Arguments} {sg : Scope} {dV kV doc pm cdv ct oc : Value} {an od : Option Addr} {osl : Array (Option Value)} {Ng : List Str}
    {params : Arguments} {body : Expr} {scope : Scope} {p lpos pos p1 p2 p3 p4 p5 p6 : Pos} (hK : X.K = c.K) (hm : X.mg x = some (.ref g)) (hk : PySem.W.keepIn X.K (.ref g) = true)
    (lk : X.K.lookup g = some ⟨oc, od, .func (PySem.W.fnOf x x pg [.Try [.Return (some (.Tuple [.Constant (.str (mkS told)) j p1, .Call (.Name a p2) [] [] p3] kt p4)) p5] (hd :: hds) [] [] p6] sg dV kV doc pm an cdv ct), osl⟩) (hcg : PySem.W.codeIn X.K cdv x = true)
    (hb : L2.Binds X.K (PySem.W.fnOf x x pg [.Try [.Return (some (.Tuple [.Constant (.str (mkS told)) j p1, .Call (.Name a p2) [] [] p3] kt p4)) p5] (hd :: hds) [] [] p6] sg dV kV doc pm an cdv ct) [a] []) (Sg : FnScope Ng [a] sg) (hNg : Ng[0]? = some a) (hva : Vis sg a)
    (cl : ∀ s H, Clauses (cxOf C8.CX0 X.prog X.w X.K X.mg X.base Ng x sg g cdv X.A X.stack s H C8.E0).nox (hd :: hds) (hs.map (hdCl c))) (so : SubOk c sub) (hi : ∀ h ∈ hs, (∃ s, h.o = .txt s) ∨ (c.ef h.k ≠ none ∧ h.i < Ng.length))
    (TB : LamX.TabB X.base X.mg cc P) (hcode : X.env.code = .ref cc) (hmT : (P, X.env.qual ++ "<lambda>") ∈ c.T) (hu : ∀ p ∈ c.T, p.1 = P → p.2 = X.env.qual ++ "<lambda>") (hr : Rm (k + 2) X.A) (L : LamX.LamS X.env.scope scope)
    (hbody : ∀ (A : Around) (outer : List Env) (s : Shared) (H : Hp) (E : XK) (f c' : Addr), Rm k (A.deeper (LamX.lamEnv X scope s.heap.objs.size f c')) → SimE c (LamX.lamCx X A outer s H E scope f c') body m) (hg : Gl X x := by rfl) (hdef : defaultsOf params X.env = ([], []) := by rfl)
    (hbind : ∀ (q : Str) (cl : List (Str × Addr)) (pm cv ctv : Value), bindArgs (PySem.W.kla_fn "<lambda>" q params body scope cl pm cv ctv) ⟨[], []⟩ = pure [] := by intros; rfl) (hdb : (x == ("__debug__" : Str)) = false := by decide) (hd1 : (a == ("__debug__" : Str)) = false := by decide) (hd2 : (a == ("__classdict__" : Str)) = false := by decide) :
    SimE c X (.Call (.Name x p) [.Lambda params body scope lpos] [] pos) (eMetS told sub hs m) := fun Wx tk => by
  have h0 : ∀ f : Addr, (L2.start Ng [V.ref f])[0]? = some (some (V.ref f)) := fun f => rfl
  refine PE.imp (pe_lamG (T := c.T) (t := fun E => tM c m (rF c) (fun cls d _ H'' => E cls d H'')) hg hm hk lk hcg hb Sg hNg hva (tells_met (c := c) (t := mkS told) hK Sg.nd h0 cl) TB hcode hmT hu hr.room hr.gd L hdef hbind (fun A outer s H E f c' hr' => hbody A outer s H E f c' hr' _ (takes_of rfl rfl rfl rfl)) hdb hd1 hd2) fun σ H Q q => met_read so hi q
end
end VI

set_option Elab.async false
set_option linter.all false
set_option maxRecDepth 100000
set_option maxHeartbeats 1000000
/-! VI, part 24: more words for the printed texts. -/
namespace VI
open PySem L2 PySem.Spec PyProof.Rows
/-- x += e: numbers, texts -/
def bAddF : List W → Option W
  | [.int i, .int j] => some (.int (i + j))
  | [.str a, .str b] => if a.length + b.length ≤ 100000 then some (.str (a ++ b)) else none
  | _ => none
def rAddF : R2 := fun x y H Q => (rI0 fun i j => .int (i + j)) x y H Q ∨ ∃ i j, x = .str i ∧ y = .str j ∧ i.length + j.length ≤ sizeLine ∧ Q (.str (i ++ j)) H
section
variable {X : Cx} {c : Cn}
theorem iop_add2 : OpR X (inplaceOp .Add) rAddF := iop_add.or iop_add_str
theorem ru_addF : RuF c (r2 rAddF) bAddF := by
  intro F H vs ws w Q _ u e k
  unfold bAddF at e
  split at e
  · obtain ⟨x, y, rfl, h1, h2⟩ := rl2 u
    cases e
    rw [rL_int h1, rL_int h2]
    exact .inl ⟨_, _, rfl, rfl, k _ _ (.refl _) rfl⟩
  · obtain ⟨x, y, rfl, h1, h2⟩ := rl2 u
    split at e
    · rename_i a b hl
      cases e
      rw [rL_str h1, rL_str h2]
      refine .inr ⟨_, _, rfl, rfl, by rw [mkS_len, mkS_len]; exact sizeLine_big hl, k _ _ (.refl _) ?_⟩
      show V.str (mkS a ++ mkS b) = V.str _
      rw [show mkS a ++ mkS b = mkS (a ++ b) from SX.S_cat a b]
    · cases e
  · cases e
def bRepL : List W → Option W
  | [.lst xs, .int k] => if decide (0 ≤ k) && decide (xs.length * k.toNat ≤ 100000) && decide (k ≤ 100000) then some (.lst (List.replicate k.toNat xs).flatten) else none
  | _ => none
theorem RepFs.rep {F : Addr → Prop} {H : Hp} {ws : List W} {vs : List V} (r : RepFs c F H ws vs) : ∀ n : Nat, RepFs c F H (List.replicate n ws).flatten (List.replicate n vs).flatten
  | 0 => rfl
  | n + 1 => by
    rw [List.replicate_succ, List.replicate_succ, List.flatten_cons, List.flatten_cons]
    exact r.app (RepFs.rep r n)
theorem ru_repL : RuO c (r2 rRep) bRepL := by
  intro F H vs ws w Q _ u e k
  unfold bRepL at e
  split at e
  · rename_i xs n
    obtain ⟨x, y, rfl, h1, h2⟩ := rl2 u
    split at e
    · rename_i h
      rw [Bool.and_eq_true, Bool.and_eq_true, decide_eq_true_iff, decide_eq_true_iff, decide_eq_true_iff] at h
      cases e
      obtain ⟨a, us, rfl, e1, e2⟩ := rL_lst h1
      rw [rL_int h2]
      refine ⟨a, n, us, rfl, rfl, e1, by omega, by omega, by rw [← e2.length]; exact sizeLine_big h.1.2, fun p hp => k p _ hp (.new hp) ⟨_, upd_same, RepFs.kp (Ext.kp (.new hp)) _ _ (e2.rep _)⟩⟩
    · cases e
  · cases e
/-- * of numbers, of a text or a list and a number -/
def bMulB (ws : List W) : Option W := match bMulA ws with
  | some w => some w
  | none => bRepL ws
def rMulB : R2 := fun x y H Q => rMulA x y H Q ∨ rRep x y H Q
theorem op_mulB : OpR X (binaryOp .Mult) rMulB := op_mulA.or op_rep
theorem ru_mulB : RuE c (r2 rMulB) bMulB := by
  intro F H vs ws w Q l u e k k'
  have two : ∀ {r : R2}, r2 r vs H Q → ∃ x y, vs = [x, y] ∧ r x y H Q := fun {r} h => by
    match vs, h with
    | [x, y], h => exact ⟨x, y, rfl, h⟩
  unfold bMulB at e
  split at e
  · rename_i w' e1
    cases e
    obtain ⟨x, y, ev, h⟩ := two (ru_mulA F H vs ws _ Q l u e1 k)
    rw [ev]
    exact .inl h
  · obtain ⟨x, y, ev, h⟩ := two (ru_repL F H vs ws w Q l u e k')
    rw [ev]
    exact .inr h
end
/-- the text of a def, where its code object is told -/
theorem fn_viC {P : Program} {w : World} {K : PySem.W.Frag} {mg : Str → Option Value} {base : Heap} {c : Cn} {x qual : Str} {st : Stmt} {f : Addr} {N ps : List Str} {k n np : Nat} {b : M Flow} {oc : Value} {od an : Option Addr} {kV doc pm cdv ct : Value} {osl : Array (Option Value)}
    (lk : K.lookup f = some ⟨oc, od, .func (PySem.W.fnOf x qual (defArgs st) (defBody st) (defScope st) .none kV doc pm an cdv ct), osl⟩) (hcd : PySem.W.codeIn K cdv qual = true) (S : FnScope N ps (defScope st)) (hn : N.length = n) (hp : ps.length = np)
    (body : ∀ (A : Around) (outer : List Env) (s : Shared) (H : Hp) (E : XK), Rm k (A.deeper (envOfC qual (defScope st) s.heap.objs.size f cdv)) → SimB c (cxOf (L2.CX P w) P w K mg base N qual (defScope st) f cdv A outer s H E) (defBody st) b) :
    FnG P w K mg base (k + 1) f (PySem.W.fnOf x qual (defArgs st) (defBody st) (defScope st) .none kV doc pm an cdv ct) ps (spF c np (runFn n b)) := by
  refine ⟨fun vs H Q E h => h.1.trans hp.symm, fun A outer s H args us vs Q E hr hg e0 hb rv h => LamX.run_ofS lk hcd S hr e0 hb rv (h.1.trans hp.symm) fun hr' => ?_⟩
  exact ⟨tS c b (fun cls d _ H => E cls d H), body A outer s H E ⟨hr', hg⟩ _ (takes_of rfl rfl rfl rfl), body_read hn h⟩
/-- an own exception class, wherever it is raised -/
structure ExMK (c : Cn) (mg : Str → Option Value) (x : Str) (k : Nat) : Prop where
  is : ∃ B newId initId bmB, ExcBaseFacts B newId initId bmB ∧ PySem.W.excIn c.K (c.ca k) bmB newId = true ∧ mg x = some (.ref (c.ca k)) ∧ PySem.W.keepIn c.K (.ref (c.ca k)) = true ∧ PySem.W.subIn c.K (.ref (c.ca k)) (.type "BaseException") = some true ∧ PySem.W.typeIn c.K (.ref (c.ca k)) = some (.type "type")
  none : c.ef k = none
structure ExFK (c : Cn) (mg : Str → Option Value) (x : Str) (k : Nat) : Prop where
  is : ∃ nm B newId initId bmB fI f, PySem.VIX.ExcTxt c.K B newId initId bmB nm f (c.ca k) fI ∧ mg x = some (.ref (c.ca k)) ∧ c.ef k = some f
theorem ExMK.at {c : Cn} {X : Cx} {x : Str} {k : Nat} (e : ExMK c X.mg x k) (hK : X.K = c.K := by rfl) : ExM c X x k := by
  obtain ⟨B, n, i, bm, h1, h2, h3, h4, h5, h6⟩ := e.is
  exact ⟨⟨B, n, i, bm, h1, by rw [hK]; exact h2, h3, by rw [hK]; exact h4, raises_own (by rw [hK]; exact h5) (by rw [hK]; exact h6)⟩, e.none⟩
theorem ExFK.at {c : Cn} {X : Cx} {x : Str} {k j : Nat} (e : ExFK c X.mg x k) (hr : Rm j X.A) (hK : X.K = c.K := by rfl) : ExF c X x k := by
  obtain ⟨nm, B, n, i, bm, fI, f, h1, h2, h3⟩ := e.is
  exact ⟨⟨nm, B, n, i, bm, fI, j, f, by rw [hK]; exact h1, h2, hr.room, h3⟩⟩
theorem un_met {k : Nat} {A : Around} {env : Env} (hr : Rm (k + 2) A) : (A.deeper env).units + 64 < cLine := by
  have := (hr.room.deeper env).un
  omega
theorem has_dict {K : PySem.W.Frag} {C : Addr} (h : PySem.W.hasDictIn K C = true) : ∃ cd, PySem.W.clsIn K C = some cd ∧ cd.hasDict = true := by
  unfold PySem.W.hasDictIn at h
  cases e : PySem.W.clsIn K C with
  | none =>
    rw [e] at h
    cases h
  | some cd =>
    rw [e] at h
    exact ⟨cd, rfl, h⟩
theorem taker_none {K : PySem.W.Frag} {C : Addr} {f : Str} (h : PySem.W.findIn K (.ref C) f = some none) : PySem.W.takerIn K C f = some none := by
  unfold PySem.W.takerIn
  rw [h]
  rfl
theorem loose_int {lv : List (Str × PySem.W.WData)} {mg : Str → Option Value} {h : Heap} {x : Str} {i : Int} (X : PySem.W.LooseAre lv mg h) (m : (x, PySem.W.WData.int i) ∈ lv) : ∃ t, mg x = some (.int i t) := by
  obtain ⟨v, e, r⟩ := X.val _ m
  cases r with
  | int i t => exact ⟨t, e⟩
/-- the law's promise, at the law's start -/
theorem law_sp {c : Cn} {f : List Slot → FOut} {H : Hp} {a : Addr} {ns : List Int} {fin : List Slot} (e : f [.fr false (.scr ns)] = some (.ok (false, .bl true) fin)) (s : (∃ o, H a = some (.frz o (.lst (ns.map V.int)))) ∨ SqL c.K (fun _ => none) a (ns.map V.int)) (t : ∀ p ∈ c.T, H p.1 = some (.tbl #[])) :
    spF c 1 f [.ref a] H (fun v _ => v = .bl true) fun _ _ _ => False := by
  refine ⟨rfl, fun _ => False, [.fr false (.scr ns)], ⟨rfl, fun i u ov h1 h2 => ?_, fun b hb z => z, fun i j u v b h1 h2 h3 => ?_, fun b hl hb => ?_, ⟨fun _ z => z.elim, fun p hp => LamX.TabS.nil (t p hp)⟩⟩, fun w hw => ?_, .inl ⟨false, .bl true, fin, e, fun v F' H' _ _ _ r => ?_⟩⟩
  · cases i with
    | zero =>
      cases h1
      cases h2
      exact ⟨_, rfl, a, rfl, s⟩
    | succ i => simp at h1
  · cases i with
    | zero =>
      cases h1
      cases h3
    | succ i => simp at h1
  · obtain ⟨i, w, h1, _⟩ := hl
    cases i with
    | zero => cases h1
    | succ i => simp at h1
  · simp at hw
  · unfold ResR at r
    rw [if_neg (fun z => absurd z.1 Bool.false_ne_true)] at r
    exact r
/-- what a code object at cc tells of its table at P -/
def CodeV (vs : Array Value) (cc P : Addr) : Prop := vs[11]? = some (.ref P) ∧ ∃ file tf flags tg inF text tt, vs.getD 11 .none = .ref P ∧ vs.getD 18 .none = .str file tf ∧ vs.getD 7 .none = .int flags tg ∧ vs.getD 9 .none = .bool inF ∧ vs.getD 10 .none = .int text tt ∧ True ∧ cc ≠ P
theorem code_hd {K : PySem.W.Frag} {h : Heap} {cc P : Addr} {dd : Option Addr} {vs : Array Value} {sl : Array (Option Value)} (X : K.In h) (l : K.lookup cc = some ⟨.type "code", dd, .fields vs, sl⟩) (v : CodeV vs cc P) : PySem.W.CodeHd h cc P := by
  obtain ⟨h1, file, tf, flags, tg, inF, text, tt, h2, h3, h4, h5, h6, _, h7⟩ := v
  exact ⟨_, vs, file, tf, flags, tg, inF, text, tt, X _ _ l, rfl, rfl, h1, h2, h3, h4, h5, h6, h7⟩
end VI

set_option Elab.async false
set_option linter.all false
set_option maxRecDepth 100000
set_option maxHeartbeats 1000000
/-! VI, part 26: steps of the plain side for simp. -/
namespace VI
section
variable {α β : Type} {ss : Slots}
@[simp] theorem v_mbd {m : M α} {f : α → M β} : mbd m f ss = (match m ss with | none => none | some (.exc c w s) => some (.exc c w s) | some (.ok a s) => f a s) := rfl
@[simp] theorem v_mret {a : α} : mret a ss = some (.ok a ss) := rfl
@[simp] theorem v_lift {o : Option α} : lift o ss = o.map fun a => .ok a ss := rfl
@[simp] theorem v_eC {w : W} : eC w ss = some (.ok w ss) := rfl
@[simp] theorem v_opds0 : opds [] ss = some (.ok [] ss) := rfl
@[simp] theorem v_opdsE {m : M W} {r} : opds (.ev m :: r) ss = mbd m (fun w => mbd (opds r) fun ws => mret (w :: ws)) ss := rfl
@[simp] theorem v_opdsP {i r} : opds (.pk i :: r) ss = mbd (rdSlot i) (fun _ => mbd (opds r) fun ws => mbd (rdSlot i) fun w => mret (w :: ws)) ss := rfl
@[simp] theorem v_bi {f os} : bi f os ss = mbd (opds os) (fun ws => lift (f ws)) ss := rfl
@[simp] theorem v_exps0 : exps [] ss = some (.ok [] ss) := rfl
@[simp] theorem v_exps {m : M W} {r} : exps (m :: r) ss = mbd m (fun w => mbd (exps r) fun ws => mret (w :: ws)) ss := rfl
@[simp] theorem v_eTup {ms} : eTup ms ss = mbd (exps ms) (fun ws => mret (.tup ws)) ss := rfl
@[simp] theorem v_eLst {ms} : eLst ms ss = mbd (exps ms) (fun ws => mret (.lst ws)) ss := rfl
@[simp] theorem v_rd {i} : rdSlot i ss = (match ss[i]? with | some (.fr _ w) => some (.ok w ss) | some (.own _ w) => some (.ok w ss) | some (.lk w) => some (.ok w ss) | _ => none) := rfl
@[simp] theorem v_eVar {i} : eVar i ss = (match ss[i]? with | some (.fr _ w) => some (.ok w ss) | some (.own l w) => some (.ok w (ss.set i (.fr l w))) | _ => none) := rfl
@[simp] theorem v_tE {m} : tE m ss = mbd m (fun w => lift (truthW w)) ss := rfl
@[simp] theorem v_tB {m} : tB m ss = mbd m (fun w => lift (isBl w)) ss := rfl
@[simp] theorem v_tAnd {a b} : tAnd a b ss = mbd a (fun k => if k then b else mret false) ss := rfl
@[simp] theorem v_tOr {a b} : tOr a b ss = mbd a (fun k => if k then mret true else b) ss := rfl
@[simp] theorem v_tNot {a} : tNot a ss = mbd a (fun k => mret (!k)) ss := rfl
@[simp] theorem v_eIf {t a b} : eIf t a b ss = mbd t (fun k => if k then a else b) ss := rfl
@[simp] theorem v_sSeq {a b} : sSeq a b ss = mbd a (fun f => match f with | .nx => b | f => mret f) ss := rfl
@[simp] theorem v_sIf {t a b} : sIf t a b ss = mbd t (fun k => if k then a else b) ss := rfl
@[simp] theorem v_sRet {m} : sRet m ss = mbd m (fun w => mret (.ret false w)) ss := rfl
@[simp] theorem v_sRetO {m} : sRetO m ss = mbd m (fun w => mret (.ret true w)) ss := rfl
@[simp] theorem v_sPass : sPass ss = some (.ok .nx ss) := rfl
@[simp] theorem v_store {i s} : store i s ss = (match ss[i]? with | some t => if free t then some (.ok () (ss.set i s)) else none | none => none) := rfl
@[simp] theorem v_sAsg {i m} : sAsg i m ss = mbd m (fun w => mbd (store i (.fr false w)) fun _ => mret .nx) ss := rfl
@[simp] theorem v_sAsgO {i m} : sAsgO i m ss = mbd m (fun w => mbd (store i (ownS w)) fun _ => mret .nx) ss := rfl
@[simp] theorem v_runFn {n b as} : runFn n b as = (match b (as ++ List.replicate (n - as.length) .no) with
  | some (.ok (.ret o w) ss) => some (.ok (o, w) (ends as ss))
  | some (.ok .nx ss) => some (.ok (false, .non) (ends as ss))
  | some (.exc c w ss) => some (.exc c w (ends as ss))
  | _ => none) := rfl
@[simp] theorem v_free1 {w} : free (.fr false w) = true := rfl
@[simp] theorem v_free2 {w} : free (.own false w) = true := rfl
@[simp] theorem v_free0 : free .no = true := rfl
@[simp] theorem v_ends0 {s} : ends [] s = [] := rfl
@[simp] theorem v_ends {a as s} : ends (a :: as) s = (if free a then .no else s.headD .no) :: ends as s.tail := rfl
@[simp] theorem v_ixlt {α : Type} {xs : List α} {i : Nat} (h : i < xs.length) : ixN xs.length (i : Int) = some i := by unfold ixN; simp [h]
@[simp] theorem v_ownL {i} : ownL i ss = (match ss[i]? with | some (.own _ (.lst xs)) => some (.ok xs ss) | _ => none) := rfl
@[simp] theorem v_putL {i xs} : putL i xs ss = (match ss[i]? with | some (.own l (.lst _)) => some (.ok () (ss.set i (.own l (.lst xs)))) | _ => none) := rfl
@[simp] theorem v_addI {i j : Int} : bAdd [.int i, .int j] = some (.int (i + j)) := rfl
@[simp] theorem v_subI {i j : Int} : bSub [.int i, .int j] = some (.int (i - j)) := rfl
@[simp] theorem v_mulI {i j : Int} (h : small64 i = true ∨ small64 j = true) : bMulB [.int i, .int j] = some (.int (i * j)) := by
  unfold bMulB bMulA bMul; simp only [Bool.or_eq_true, h, if_true]
theorem v_repS {s : List Nat} {k : Int} (h : 2 ≤ k) (h1 : 1 ≤ s.length) (h2 : s.length * k.toNat ≤ 100000) : bMulB [.str s, .int k] = some (.str (List.replicate k.toNat s).flatten) := by
  unfold bMulB bMulA bMul bRep; simp [h, h1, h2]
@[simp] theorem v_small {i : Int} : small64 i = decide (i.natAbs < 18446744073709551616) := rfl
@[simp] theorem v_modI {i j : Int} (h : 0 < j) : bMod [.int i, .int j] = some (.int (i % j)) := by simp [bMod, h]
@[simp] theorem v_fdivI {i j : Int} (h : 0 < j) (h' : j < 1073741824) : bFdiv [.int i, .int j] = some (.int (i / j)) := by simp [bFdiv, h, h']
@[simp] theorem v_negI {i : Int} : bNeg [.int i] = some (.int (-i)) := rfl
@[simp] theorem v_absI {i : Int} : bAbs [.int i] = some (.int (if i < 0 then -i else i)) := rfl
@[simp] theorem v_int2I {i : Int} : bInt2 [.int i] = some (.int i) := rfl
@[simp] theorem v_int2B {b : Bool} : bInt2 [.bl b] = some (.int (if b then 1 else 0)) := rfl
@[simp] theorem v_ltI {i j : Int} : bLt [.int i, .int j] = some (.bl (decide (i < j))) := rfl
@[simp] theorem v_gtI {i j : Int} : bGt [.int i, .int j] = some (.bl (decide (j < i))) := rfl
@[simp] theorem v_leI {i j : Int} : bLe [.int i, .int j] = some (.bl (decide (i ≤ j))) := rfl
@[simp] theorem v_geI {i j : Int} : bGe [.int i, .int j] = some (.bl (decide (j ≤ i))) := rfl
@[simp] theorem v_max2 {i j : Int} : bMax2 [.int i, .int j] = some (.int (if j > i then j else i)) := rfl
@[simp] theorem v_min2 {i j : Int} : bMin2 [.int i, .int j] = some (.int (if j < i then j else i)) := rfl
@[simp] theorem v_lenL {xs : List W} : bLen [.lst xs] = some (.int xs.length) := rfl
@[simp] theorem v_lenT {xs : List W} : bLen [.tup xs] = some (.int xs.length) := rfl
@[simp] theorem v_lenS {xs : List Int} : bLen [.scr xs] = some (.int xs.length) := rfl
@[simp] theorem v_isBl {b : Bool} : isBl (.bl b) = some b := rfl
@[simp] theorem v_powI {i j : Int} (h : 0 ≤ j) (h' : (PySem.Builtin.Int.intBits i : Int) * j ≤ 134217728) : bPow [.int i, .int j] = some (.int (i ^ j.toNat)) := by simp [bPow, h, h']
@[simp] theorem v_bits10 : PySem.Builtin.Int.intBits 10 = 4 := by decide +kernel
@[simp] theorem v_bits39 : PySem.Builtin.Int.intBits 1000000000000000000000000000000000000000 = 130 := by decide +kernel
theorem v_ixS {ns : List Int} {i : Nat} (h : i < ns.length) : bIx [.scr ns, .int i] = some (.int ns[i]) := by simp [bIx, h]
theorem v_ixL {xs : List W} {i : Nat} (h : i < xs.length) : bIx [.lst xs, .int i] = some xs[i] := by simp [bIx, h]
theorem v_ixL' {xs : List W} {i : Int} (h0 : 0 ≤ i) (h : i < xs.length) : bIx [.lst xs, .int i] = some (xs[i.toNat]'(by omega)) := by
  obtain ⟨n, rfl⟩ := Int.eq_ofNat_of_zero_le h0
  exact v_ixL (by omega)
@[simp] theorem v_sSetL {i mk mv} : sSetL i mk mv ss = (mbd mv fun v => mbd (ownL i) fun _ => mbd mk fun k => mbd (ownL i) fun xs => match k with
  | .int j => match ixN xs.length j with
    | some n => mbd (putL i (xs.set n v)) fun _ => mret .nx
    | none => stuck
  | _ => stuck) ss := rfl
theorem v_sRetV {i} : sRetV i ss = (match ss[i]? with | some (.own false w) => some (.ok (.ret true w) ss) | _ => mbd (eVar i) (fun w => mret (.ret false w)) ss) := rfl
end
/-- the vat: three whole numbers -/
def isVat (w : W) : Prop := ∃ a m k, w = .lst [.int a, .int m, .int k]
/-- what comes out well, and what holds of it -/
def Out {α : Type} (r : Option (R α)) (P : α → Slots → Prop) : Prop := match r with
  | some (.ok a s) => P a s
  | _ => False
section
variable {α β : Type} {ss : Slots}
@[simp] theorem out_ok {a : α} {s P} : Out (some (.ok a s)) P = P a s := rfl
theorem out_bd {m : M α} {f : α → M β} {P} (h : Out (m ss) fun a s => Out (f a s) P) : Out (mbd m f ss) P := by
  rw [v_mbd]; revert h; cases m ss with
  | none => exact id
  | some r => cases r with
    | ok a s => exact id
    | exc c w s => exact id
theorem out_seq {a b : M Flow} {P} (h : Out (a ss) fun f s => Out ((match f with | .nx => b | f => mret f) s) P) : Out (sSeq a b ss) P := out_bd h
theorem out_asg {i m P} (h : Out (m ss) fun w s => Out (mbd (store i (.fr false w)) (fun _ => mret Flow.nx) s) P) : Out (sAsg i m ss) P := out_bd h
theorem out_asgO {i m P} (h : Out (m ss) fun w s => Out (mbd (store i (ownS w)) (fun _ => mret Flow.nx) s) P) : Out (sAsgO i m ss) P := out_bd h
theorem out_eq {r : Option (R α)} {P} (h : Out r P) : ∃ a s, r = some (.ok a s) ∧ P a s := by
  cases r with
  | none => exact h.elim
  | some r => cases r with
    | ok a s => exact ⟨a, s, rfl, h⟩
    | exc c w s => exact h.elim
@[simp] theorem v_args0 : args [] ss = some (.ok [] ss) := rfl
@[simp] theorem v_argsE {m : M W} {r} : args (.ev m :: r) ss = mbd m (fun w => mbd (args r) fun ws => mret (.fr false w :: ws)) ss := rfl
@[simp] theorem v_argsL {i r} : args (.lend i :: r) ss = mbd (rdSlot i) (fun _ => mbd (args r) fun ws => addLend i ws) ss := rfl
@[simp] theorem v_addLend {i ws} : addLend i ws ss = (match ss[i]? with | some (.own _ w) => some (.ok (.own true w :: ws) ss) | _ => none) := rfl
@[simp] theorem v_eCall {f as} : eCall f as ss = mbd (args as) (fun vs ss => match f vs with
  | some (.ok (o, w) fin) => some (.ok w (back as fin ss))
  | some (.exc c w fin) => some (.exc c w (back as fin ss))
  | none => none) ss := rfl
@[simp] theorem v_eCallO {f as} : eCallO f as ss = mbd (args as) (fun vs ss => match f vs with
  | some (.ok (o, w) fin) => if o || !isMutW w then some (.ok w (back as fin ss)) else none
  | some (.exc c w fin) => some (.exc c w (back as fin ss))
  | none => none) ss := rfl
@[simp] theorem v_back0 {s : Slots} : back [] s ss = ss := by cases s <;> rfl
@[simp] theorem v_backE {m : M W} {r s} {t : Slots} : back (.ev m :: r) (s :: ss) t = back r ss t := rfl
theorem v_backN {m : M W} {r} {t : Slots} : back (.ev m :: r) [] t = t := rfl
@[simp] theorem v_backL {i r l' w'} {t : Slots} : back (.lend i :: r) (.own l' w' :: ss) t = back r ss (match t[i]? with | some (.own l _) => t.set i (.own l w') | _ => t) := rfl
@[simp] theorem v_sApp {i m} : sApp i m ss = mbd (ownL i) (fun _ => mbd m fun w => mbd (ownL i) fun xs => if xs.length < 100000 then mbd (putL i (xs ++ [w])) fun _ => mret .nx else stuck) ss := rfl
@[simp] theorem v_sExpr {m} : sExpr m ss = mbd m (fun _ => mret .nx) ss := rfl
end
def evs : List Arg → Bool
  | [] => true
  | .ev _ :: r => evs r
  | _ => false
theorem back_evs : ∀ {as : List Arg} {s t : Slots}, evs as = true → back as s t = t
  | [], s, t, _ => by cases s <;> rfl
  | .ev _ :: r, [], t, h => rfl
  | .ev _ :: r, s :: ss, t, h => by rw [v_backE]; exact back_evs (as := r) h
/-- what a met call hands back -/
def metC (told : List Nat) (sub : Nat → Nat → Option Bool) (hs : List Hd) : FOut → Option W
  | some (.ok (_, w) _) => some (.tup [.str told, w])
  | some (.exc k w _) => pick sub hs k w
  | none => none
theorem met_call {told sub hs f as vs s ss w} (ha : args as ss = some (.ok vs s)) (he : evs as = true) (h : metC told sub hs (f vs) = some w) : eMetS told sub hs (eCall f as) ss = some (.ok w s) := by
  unfold eMetS
  rw [v_eCall, v_mbd, ha]
  dsimp only
  unfold metC at h
  split at h
  · cases h; simp [back_evs he]
  · dsimp only; rw [h, back_evs he]; rfl
  · cases h
/-- what a call hands back -/
def valC : FOut → Option W
  | some (.ok (_, w) _) => some w
  | _ => none
theorem val_call {f as vs s ss w} (ha : args as ss = some (.ok vs s)) (he : evs as = true) (h : valC (f vs) = some w) : eCall f as ss = some (.ok w s) := by
  rw [v_eCall, v_mbd, ha]
  dsimp only
  unfold valC at h
  split at h
  · rename_i h'; cases h; rw [h']; simp [back_evs he]
  · cases h
/-! ### the same -/
mutual
def sameW : W → W → Bool
  | .non, .non => true
  | .bl a, .bl b => a == b
  | .int a, .int b => decide (a = b)
  | .str a, .str b => decide (a = b)
  | .tup a, .tup b => sameWs a b
  | .lst a, .lst b => sameWs a b
  | .dct a b, .dct c d => sameWs a c && sameWs b d
  | .scr a, .scr b => decide (a = b)
  | _, _ => false
def sameWs : List W → List W → Bool
  | [], [] => true
  | x :: xs, y :: ys => sameW x y && sameWs xs ys
  | _, _ => false
end
mutual
theorem same_eq : ∀ {a b : W}, sameW a b = true → a = b
  | .non, .non, _ => rfl
  | .bl a, .bl b, h => by unfold sameW at h; rw [eq_of_beq h]
  | .int a, .int b, h => by unfold sameW at h; rw [of_decide_eq_true h]
  | .str a, .str b, h => by unfold sameW at h; rw [of_decide_eq_true h]
  | .tup a, .tup b, h => by unfold sameW at h; rw [sames_eq h]
  | .lst a, .lst b, h => by unfold sameW at h; rw [sames_eq h]
  | .dct a b, .dct c d, h => by unfold sameW at h; rw [Bool.and_eq_true] at h; rw [sames_eq h.1, sames_eq h.2]
  | .scr a, .scr b, h => by unfold sameW at h; rw [of_decide_eq_true h]
theorem sames_eq : ∀ {a b : List W}, sameWs a b = true → a = b
  | [], [], _ => rfl
  | x :: xs, y :: ys, h => by unfold sameWs at h; rw [Bool.and_eq_true] at h; rw [same_eq h.1, sames_eq h.2]
end
def sameO : Option W → W → Bool
  | some a, b => sameW a b
  | _, _ => false
theorem sameO_eq {a : Option W} {b : W} (h : sameO a b = true) : a = some b := by
  cases a with
  | none => cases h
  | some a => rw [same_eq h]
theorem tab1 {xs : List W} {f : W → Option W} {g : W → W} (h : (xs.all fun x => sameO (f x) (g x)) = true) {x : W} (hx : x ∈ xs) : f x = some (g x) := sameO_eq (List.all_eq_true.mp h x hx)
theorem tab2 {xs ys : List W} {f : W → W → Option W} {g : W → W → W} (h : (xs.all fun x => ys.all fun y => sameO (f x y) (g x y)) = true) {x y : W} (hx : x ∈ xs) (hy : y ∈ ys) : f x y = some (g x y) := sameO_eq (List.all_eq_true.mp (List.all_eq_true.mp h x hx) y hy)
/-- a def that hands back -/
def Gv (r : FOut) (P : Bool → W → List Slot → Prop) : Prop := match r with
  | some (.ok (o, w) fin) => P o w fin
  | _ => False
@[simp] theorem gv_ok {o w fin P} : Gv (some (.ok (o, w) fin)) P = P o w fin := rfl
theorem gv_eq {r P} (h : Gv r P) : ∃ o w fin, r = some (.ok (o, w) fin) ∧ P o w fin := by
  unfold Gv at h
  split at h
  · exact ⟨_, _, _, rfl, h⟩
  · exact h.elim
/-- a call whose answer is known -/
theorem scoop_out {f : List Slot → FOut} {m : M W} {xs : List W} {v : W} {l : Bool} {ss : Slots} {P : W → Slots → Prop}
    (H : ∀ {v : W} {xs : List W}, isVat v → 0 < xs.length → xs.length < 1000000 → ∃ o w v', w ∈ xs ∧ isVat v' ∧ f [.own true v, .fr false (.lst xs)] = some (.ok (o, w) [.own true v', .no]))
    (h0 : ss[0]? = some (.own l v)) (hv : isVat v) (hm : m ss = some (.ok (.lst xs) ss)) (hn : 0 < xs.length) (hn' : xs.length < 1000000)
    (k : ∀ w, w ∈ xs → ∀ v', isVat v' → P w (ss.set 0 (.own l v'))) : Out (eCall f [.lend 0, .ev m] ss) P := by
  obtain ⟨o, w, v', hw, hv', e⟩ := H hv hn hn'
  have z : eCall f [.lend 0, .ev m] ss = some (.ok w (ss.set 0 (.own l v'))) := by
    simp [h0, hm, e]
  rw [z]
  exact k w hw v' hv'
/-- a draw: i = scoop(vat, m) -/
theorem out_draw {f : List Slot → FOut} {m : M W} {xs : List W} {v : W} {l : Bool} {ss : Slots} {P : Flow → Slots → Prop} {i : Nat} {t : Slot} {rest : M Flow}
    (H : ∀ {v : W} {xs : List W}, isVat v → 0 < xs.length → xs.length < 1000000 → ∃ o w v', w ∈ xs ∧ isVat v' ∧ f [.own true v, .fr false (.lst xs)] = some (.ok (o, w) [.own true v', .no]))
    (hv : isVat v) (h0 : ss[0]? = some (.own l v)) (hm : m ss = some (.ok (.lst xs) ss)) (hn : 0 < xs.length) (hn' : xs.length < 1000000)
    (hi : ∀ v', (ss.set 0 (.own l v'))[i]? = some t) (ht : free t = true)
    (k : ∀ w, w ∈ xs → ∀ v', isVat v' → Out (rest ((ss.set 0 (.own l v')).set i (.fr false w))) P) : Out (sSeq (sAsg i (eCall f [.lend 0, .ev m])) rest ss) P := by
  refine out_seq (out_asg (scoop_out H h0 hv hm hn hn' fun w hw v' hv' => ?_))
  simp only [v_mbd, v_store, hi, ht, v_mret, if_true, out_ok]
  exact k w hw v' hv'
theorem out_nx {a b : M Flow} {ss s : Slots} {P} (h : a ss = some (.ok .nx s)) (k : Out (b s) P) : Out (sSeq a b ss) P := by
  rw [v_sSeq, v_mbd, h]
  exact k
theorem out_app {i : Nat} {m : M W} {w : W} {xs : List W} {l : Bool} {rest : M Flow} {ss : Slots} {P} (hm : m ss = some (.ok w ss)) (h : ss[i]? = some (.own l (.lst xs))) (hn : xs.length < 100000)
    (k : Out (rest (ss.set i (.own l (.lst (xs ++ [w]))))) P) : Out (sSeq (sApp i m) rest ss) P :=
  out_nx (by simp [h, hm, hn]) k
theorem out_lst1 {i : Nat} {m : M W} {w : W} {t : Slot} {rest : M Flow} {ss : Slots} {P} (hm : m ss = some (.ok w ss)) (h : ss[i]? = some t) (ht : free t = true)
    (k : Out (rest (ss.set i (.own false (.lst [w])))) P) : Out (sSeq (sAsgO i (eLst [m])) rest ss) P :=
  out_nx (by simp [h, hm, ht, ownS]) k
theorem val_eq {r : FOut} {w : W} (h : valC r = some w) : ∃ o fin, r = some (.ok (o, w) fin) := by
  unfold valC at h
  split at h
  · cases h; exact ⟨_, _, rfl⟩
  · cases h
section
variable {ss : Slots}
@[simp] theorem v_calm {α : Type} {m : M α} : calm m ss = (match m ss with | some (.ok a s) => some (.ok a s) | _ => none) := rfl
@[simp] theorem v_turns0 {tg body} : turns tg body [] ss = some (.ok .nx ss) := rfl
@[simp] theorem v_turns {tg body w ws} : turns tg body (w :: ws) ss = mbd (calm (tg w)) (fun _ => mbd body fun f => match f with
    | .nx => turns tg body ws
    | .cont => turns tg body ws
    | .brk => mret .nx
    | .ret o v => mret (.ret o v)) ss := rfl
@[simp] theorem v_sFor {it tg body} : sFor it tg body ss = mbd it (fun ws => turns tg body ws) ss := rfl
@[simp] theorem v_iEv {m} : iEv m ss = mbd m (fun w => lift (items w)) ss := rfl
@[simp] theorem v_itemsL {xs} : items (.lst xs) = some xs := rfl
@[simp] theorem v_itemsT {xs} : items (.tup xs) = some xs := rfl
@[simp] theorem v_asg1 {i w} : asg (.one i) w = store i (.fr false w) := by unfold asg; rfl
@[simp] theorem v_truB {b} : truthW (.bl b) = some b := rfl
@[simp] theorem v_isnotB {a b : Bool} : bIsNot [.bl a, .bl b] = some (.bl (!(a == b))) := rfl
@[simp] theorem v_isB {a b : Bool} : bIs [.bl a, .bl b] = some (.bl (a == b)) := rfl
end
@[simp] theorem v_back1 {m : M W} {s t : Slots} : back [.ev m] s t = t := back_evs rfl
@[simp] theorem v_back2 {m m2 : M W} {s t : Slots} : back [.ev m, .ev m2] s t = t := back_evs rfl
@[simp] theorem v_back3 {m m2 m3 : M W} {s t : Slots} : back [.ev m, .ev m2, .ev m3] s t = t := back_evs rfl
@[simp] theorem v_back4 {m m2 m3 m4 : M W} {s t : Slots} : back [.ev m, .ev m2, .ev m3, .ev m4] s t = t := back_evs rfl
theorem out_turns {I : Slots → Prop} {tg : W → M Unit} {body : M Flow} : ∀ {ws : List W} {ss : Slots} (h : ∀ w ∈ ws, ∀ s, I s → Out (mbd (calm (tg w)) (fun _ => body) s) fun f s' => f = .nx ∧ I s') (hi : I ss), Out (turns tg body ws ss) fun f s => f = .nx ∧ I s
  | [], ss, _, hi => ⟨rfl, hi⟩
  | w :: ws, ss, h, hi => by
    have q := h w (List.mem_cons_self ..) ss hi
    obtain ⟨f, s, e, rfl, hs⟩ := out_eq q
    have z : turns tg body (w :: ws) ss = turns tg body ws s := by
      rw [v_turns, v_mbd]
      rw [v_mbd] at e
      cases ec : calm (tg w) ss with
      | none => rw [ec] at e; cases e
      | some r => cases r with
        | exc c w s => rw [ec] at e; cases e
        | ok a s1 => rw [ec] at e; dsimp only at e ⊢; rw [v_mbd, e]
    rw [z]
    exact out_turns (fun w' hw => h w' (List.mem_cons_of_mem _ hw)) hs
theorem out_cons {a b : M Flow} {ss : Slots} {P} (h : Out (a ss) fun f s => f = .nx ∧ Out (b s) P) : Out (sSeq a b ss) P := by
  obtain ⟨f, s, e, rfl, k⟩ := out_eq h
  exact out_nx e k
theorem out_mono {α : Type} {r : Option (R α)} {P Q : α → Slots → Prop} (h : Out r P) (k : ∀ a s, P a s → Q a s) : Out r Q := by
  obtain ⟨a, s, rfl, p⟩ := out_eq h
  exact k a s p
theorem out_for {it : M (List W)} {ws : List W} {tg : W → M Unit} {body rest : M Flow} {ss s0 : Slots} {i : Nat} {P : Flow → Slots → Prop} (hm : it ss = some (.ok ws s0)) (h0 : ∃ u, free u = true ∧ s0.set i u = s0)
    (h : ∀ w ∈ ws, ∀ u, free u = true → Out (mbd (calm (tg w)) (fun _ => body) (s0.set i u)) fun f s => f = .nx ∧ ∃ u', free u' = true ∧ s = s0.set i u')
    (k : ∀ u, Out (rest (s0.set i u)) P) : Out (sSeq (sFor it tg body) rest ss) P := by
  refine out_cons ?_
  rw [v_sFor, v_mbd, hm]
  obtain ⟨u, hu, e⟩ := h0
  refine out_mono (out_turns (I := fun s => ∃ u, free u = true ∧ s = s0.set i u) (fun w hw s hs => ?_) ⟨u, hu, e.symm⟩) ?_
  · obtain ⟨u, hu, rfl⟩ := hs
    exact h w hw u hu
  · rintro f s ⟨rfl, u, -, rfl⟩
    exact ⟨rfl, k u⟩
theorem out_forI {I : Slots → Prop} {it : M (List W)} {ws : List W} {tg : W → M Unit} {body rest : M Flow} {ss s0 : Slots} {P : Flow → Slots → Prop} (hm : it ss = some (.ok ws s0)) (h0 : I s0)
    (h : ∀ w ∈ ws, ∀ s, I s → Out (mbd (calm (tg w)) (fun _ => body) s) fun f s => f = .nx ∧ I s)
    (k : ∀ s, I s → Out (rest s) P) : Out (sSeq (sFor it tg body) rest ss) P := by
  refine out_cons ?_
  rw [v_sFor, v_mbd, hm]
  refine out_mono (out_turns (I := I) h h0) ?_
  rintro f s ⟨rfl, hs⟩
  exact ⟨rfl, k s hs⟩
theorem mem_upto {w : W} : ∀ {n : Nat} {lo : Int}, w ∈ upto lo n → ∃ k : Nat, k < n ∧ w = .int (lo + k)
  | 0, lo, h => by cases h
  | n + 1, lo, h => by
    unfold upto at h
    rcases List.mem_cons.mp h with rfl | h
    · exact ⟨0, by omega, by simp⟩
    · obtain ⟨k, hk, e⟩ := mem_upto h
      exact ⟨k + 1, by omega, by rw [e]; congr 1; omega⟩
@[simp] theorem v_iRange1 {m} {ss : Slots} : iRange1 m ss = mbd m (fun w => lift (match w with
  | .int n => if rangeOk n then some (upto 0 n.toNat) else none
  | _ => none)) ss := rfl
end VI

set_option Elab.async false
set_option linter.all false
set_option maxRecDepth 100000
set_option maxHeartbeats 4000000
namespace Z
open PySem L2 VI
def top (i : Nat) : Stmt := PySem.Challenge.pw_firmwide_k56_refusals_of_frames.main.body.getD i (.Pass ⟨0, 0, 0, 0⟩)
structure Txt (mg : Str → Option Value) : Prop where
  n_abs : mg "abs" = none
  n_all : mg "all" = none
  n_bool : mg "bool" = none
  n_enumerate : mg "enumerate" = none
  n_int : mg "int" = none
  n_isinstance : mg "isinstance" = none
  n_len : mg "len" = none
  n_max : mg "max" = none
  n_min : mg "min" = none
  n_ord : mg "ord" = none
  n_range : mg "range" = none
  n_repr : mg "repr" = none
  n_str : mg "str" = none
  n_tuple : mg "tuple" = none
  n_zip : mg "zip" = none
  g_BETWEEN : ∃ t, mg "BETWEEN" = some (.str ":" t)
  g_CHECKED : ∃ t, mg "CHECKED" = some (.str "#" t)
  g_CHECK_PRIME : ∃ t, mg "CHECK_PRIME" = some (.int 9973 t)
  g_END : ∃ t, mg "END" = some (.str "\n" t)
  g_FIGURES : ∃ t, mg "FIGURES" = some (.str "0123456789" t)
  g_FIRST_SIGN : ∃ t, mg "FIRST_SIGN" = some (.str " " t)
  g_LAST_SIGN : ∃ t, mg "LAST_SIGN" = some (.str "~" t)
  g_MOST_FRAME : ∃ t, mg "MOST_FRAME" = some (.int 1000000000 t)
  g_MOST_PAYLOAD : ∃ t, mg "MOST_PAYLOAD" = some (.int 300 t)
def told : List Nat := [116, 111, 108, 100]
def subT : Nat → Nat → Option Bool
  | 1, 1 => some true
  | 1, 3 => some false
  | 1, 4 => some false
  | 1, 2 => some false
  | 2, 1 => some false
  | 2, 3 => some false
  | 2, 4 => some false
  | 2, 2 => some true
  | 3, 1 => some false
  | 3, 3 => some true
  | 3, 4 => some false
  | 3, 2 => some false
  | 4, 1 => some false
  | 4, 3 => some false
  | 4, 4 => some true
  | 4, 2 => some false
  | _, _ => none
def hs_met : List Hd := [⟨1, .txt [111, 112, 101, 114, 97, 116, 105, 111, 110], 0⟩, ⟨3, .rep [110, 117, 109, 98, 101, 114], 1⟩, ⟨4, .fld [109, 97, 110, 121], 1⟩, ⟨2, .txt [112, 97, 114, 115, 101], 0⟩]
abbrev s_met : Stmt := top 45
theorem sc_met : FnScope ["call", "error"] ["call"] (defScope s_met) := ⟨rfl, rfl, rfl, by decide +kernel, rfl, by decide +kernel, by decide +kernel⟩
structure MetF (c : Cn) (mg : Str → Option Value) : Prop where
  is : ∃ (g : Addr) (oc : Value) (od an : Option Addr) (osl : Array (Option Value)) (kV dc pm cd ct : Value), mg "_law_met" = some (.ref g) ∧ PySem.W.keepIn c.K (.ref g) = true ∧ c.K.lookup g = some ⟨oc, od, .func (PySem.W.fnOf "_law_met" "_law_met" (defArgs s_met) (defBody s_met) (defScope s_met) .none kV dc pm an cd ct), osl⟩ ∧ PySem.W.codeIn c.K cd "_law_met" = true
  so : SubOk c subT
  rp : mg "repr" = none
  m_InvalidOperation : mg "InvalidOperation" = some (.ref (c.ca 1))
  m_InvalidNumber : mg "InvalidNumber" = some (.ref (c.ca 3))
  m_TooMany : mg "TooMany" = some (.ref (c.ca 4))
  m_ParseError : mg "ParseError" = some (.ref (c.ca 2))
  f_InvalidNumber : FldOk c 3 "value"
  f_TooMany : FldOk c 4 "limit"
theorem met {c : Cn} {X : Cx} {m : M W} {k : Nat} {body : Expr} {scope : Scope} {params : Arguments} {p lpos pos : Pos} {cc P : Addr} (hK : X.K = c.K) (M : MetF c X.mg) (TB : LamX.TabB X.base X.mg cc P) (hcode : X.env.code = .ref cc) (hmT : (P, X.env.qual ++ "<lambda>") ∈ c.T) (hu : ∀ p ∈ c.T, p.1 = P → p.2 = X.env.qual ++ "<lambda>") (hr : Rm (k + 2) X.A) (L : LamX.LamS X.env.scope scope)
    (hbody : ∀ (A : Around) (outer : List Env) (s : Shared) (H : Hp) (E : XK) (f c' : Addr), Rm k (A.deeper (LamX.lamEnv X scope s.heap.objs.size f c')) → SimE c (LamX.lamCx X A outer s H E scope f c') body m) (hdef : defaultsOf params X.env = ([], []))
    (hbind : ∀ (q : Str) (cl : List (Str × Addr)) (pm cv ctv : Value), bindArgs (PySem.W.kla_fn "<lambda>" q params body scope cl pm cv ctv) ⟨[], []⟩ = pure []) (hg : Gl X "_law_met" := by rfl) : SimE c X (.Call (.Name "_law_met" p) [.Lambda params body scope lpos] [] pos) (eMetS told subT hs_met m) := by
  obtain ⟨g, oc, od, an, osl, kV, dc, pm, cd, ct, hm, hk, lk, hc⟩ := M.is
  rw [← hK] at hk lk hc
  have hb := (fun_mk (st := s_met) lk hc hk).binds (ps := ["call"]) fun _ _ _ _ _ _ us hl => match us, hl with | [_], _ => rfl
  exact sim_met (told := told) (hs := hs_met) hK hm hk lk hc hb sc_met rfl (Or.inl rfl) (fun s H => (cl_txt rfl ⟨rfl, by decide, .inl M.m_InvalidOperation⟩ (cl_rep rfl hK M.f_InvalidNumber rfl rfl (Or.inl rfl) (by decide) (by decide) (fun _ _ _ => rfl) hr.gd (un_met hr) rfl M.rp ⟨rfl, by decide, .inl M.m_InvalidNumber⟩ (cl_fld rfl hK M.f_TooMany rfl rfl (Or.inl rfl) (by decide) (by decide) (fun _ _ _ => rfl) ⟨rfl, by decide, .inl M.m_TooMany⟩ (cl_txt rfl ⟨rfl, by decide, .inl M.m_ParseError⟩ Clauses.none))))) M.so (fun h hm => by
    rcases List.mem_cons.mp hm with rfl | hm
    · exact .inl ⟨_, rfl⟩
    rcases List.mem_cons.mp hm with rfl | hm
    · exact .inr ⟨fun z => (by have q := M.f_InvalidNumber.ef; rw [z] at q; cases q), by decide⟩
    rcases List.mem_cons.mp hm with rfl | hm
    · exact .inr ⟨fun z => (by have q := M.f_TooMany.ef; rw [z] at q; cases q), by decide⟩
    rcases List.mem_cons.mp hm with rfl | hm
    · exact .inl ⟨_, rfl⟩
    cases hm) TB hcode hmT hu hr L hbody hg hdef hbind
section
variable {P : Program} {w : World} {mg : Str → Option Value} {base : Heap} {c : Cn}
abbrev s__law_vat : Stmt := top 42
def b__law_vat : M VI.Flow := (sSeq (sAsg 2 (eIf (tB (bi bLt [.pk 1, .ev (bi bLen [.pk 0])])) (bi bInt2 [.ev (bi bIx [.pk 0, .pk 1])]) (bi bAdd [.ev (bi bMulB [.ev (eC (.int 887)), .pk 1]), .ev (eC (.int 83))])))
  (sSeq (sAsg 3 (bi bMod [.ev (bi bInt2 [.ev (bi bAbs [.pk 2])]), .ev (bi bPow [.ev (bi bPow [.ev (eC (.int 10)), .ev (eC (.int 39))]), .ev (eC (.int 8))])]))
  (sSeq (sAsg 4 (bi bAdd [.ev (bi bAdd [.ev (bi bAdd [.ev (bi bMulB [.ev (bi bMod [.ev (bi bInt2 [.pk 3]), .ev (eC (.int 2305843009213693907))]), .ev (eC (.int 157))]), .ev (bi bMulB [.ev (eC (.int 1181)), .pk 1])]), .ev (bi bMulB [.ev (eC (.int 83)), .ev (bi bInt2 [.ev (bi bLt [.pk 2, .ev (eC (.int 0))])])])]), .ev (eC (.int 53))]))
  (sRetO (eLst [(bi bMax2 [.ev (eC (.int 0)), .ev (bi bSub [.pk 3, .ev (bi bPow [.ev (eC (.int 10)), .ev (eC (.int 16))])])]), (eVar 4), (eC (.int 0))])))))
def f__law_vat : List Slot → FOut := runFn 5 b__law_vat
theorem sc__law_vat : FnScope ["script", "spot", "cell", "great", "mixed"] ["script", "spot"] (defScope s__law_vat) := ⟨rfl, rfl, rfl, by decide +kernel, rfl, by decide +kernel, by decide +kernel⟩
theorem ok__law_vat {f : Addr} {fd : FuncData} (F : Fun c.K "_law_vat" "_law_vat" s__law_vat f fd) (T : Txt mg)  : FnG P w c.K mg base 1 f fd ["script", "spot"] (spF c 2 f__law_vat) :=
  have S := sc__law_vat
  fn_vi F S rfl rfl fun cdv A outer s H E hr => (simB_cons (sim_asg (sim_ifE (sim_tcmp op_lt2 ru_lt.e (sim_pk 1) (sim_ev (sim_callB call_len ru_len.e T.n_len (SimPs.cons (sim_pk 0) SimPs.nil rfl) (by decide +kernel))) rfl) (sim_callTy call_int2 ru_int2'.e T.n_int (SimPs.cons (sim_ev (sim_ix ix_seq ru_ix.e (sim_pk 0) (sim_pk 1))) SimPs.nil rfl) (by decide +kernel)) (sim_bin op_add4 ru_add (sim_ev (sim_bin op_mulB ru_mulB (sim_ev sim_int) (sim_pk 1))) (sim_ev sim_int))) S.nd)
  (simB_cons (sim_asg (sim_bin op_mod ru_mod.e (sim_ev (sim_callTy call_int2 ru_int2'.e T.n_int (SimPs.cons (sim_ev (sim_callB call_abs ru_abs.e T.n_abs (SimPs.cons (sim_pk 2) SimPs.nil rfl) (by decide +kernel))) SimPs.nil rfl) (by decide +kernel))) (sim_ev (sim_bin op_powB ru_pow.e (sim_ev (sim_bin op_powB ru_pow.e (sim_ev sim_int) (sim_ev sim_int))) (sim_ev sim_int)))) S.nd)
  (simB_cons (sim_asg (sim_bin op_add4 ru_add (sim_ev (sim_bin op_add4 ru_add (sim_ev (sim_bin op_add4 ru_add (sim_ev (sim_bin op_mulB ru_mulB (sim_ev (sim_bin op_mod ru_mod.e (sim_ev (sim_callTy call_int2 ru_int2'.e T.n_int (SimPs.cons (sim_pk 3) SimPs.nil rfl) (by decide +kernel))) (sim_ev sim_int))) (sim_ev sim_int))) (sim_ev (sim_bin op_mulB ru_mulB (sim_ev sim_int) (sim_pk 1))))) (sim_ev (sim_bin op_mulB ru_mulB (sim_ev sim_int) (sim_ev (sim_callTy call_int2 ru_int2'.e T.n_int (SimPs.cons (sim_ev (sim_cmp op_lt2 ru_lt.e (sim_pk 2) (sim_ev sim_int) rfl)) SimPs.nil rfl) (by decide +kernel))))))) (sim_ev sim_int)) S.nd)
  (simB_one (sim_retO (sim_lst (simL_cons (sim_callB (call_max2 rfl) ru_max2.e T.n_max (SimPs.cons (sim_ev sim_int) (SimPs.cons (sim_ev (sim_bin op_sub ru_sub.e (sim_pk 3) (sim_ev (sim_bin op_powB ru_pow.e (sim_ev sim_int) (sim_ev sim_int))))) SimPs.nil rfl) rfl) (by decide +kernel)) (simL_cons (sim_var 4) (simL_cons sim_int simL_nil)))))))))

abbrev s__law_dip : Stmt := top 43
def b__law_dip : M VI.Flow := (sSeq (sIf (tB (bi bGt [.ev (bi bIx [.pk 0, .ev (eC (.int 0))]), .ev (eC (.int 0))]))
  (sSeq (sAsg 2 (bi bMod [.ev (bi bInt2 [.ev (bi bIx [.pk 0, .ev (eC (.int 0))])]), .pk 1]))
  (sSeq (sSetL 0 (eC (.int 0)) (bi bFdiv [.ev (bi bIx [.pk 0, .ev (eC (.int 0))]), .pk 1]))
  (sRetV 2)))
  sPass)
  (sSeq (sSetL 0 (eC (.int 2)) (bi bAdd [.ev (bi bIx [.pk 0, .ev (eC (.int 2))]), .ev (eC (.int 1))]))
  (sSeq (sAsg 3 (bi bMod [.ev (bi bInt2 [.ev (bi bAdd [.ev (bi bIx [.pk 0, .ev (eC (.int 1))]), .ev (bi bMulB [.ev (eC (.int 32452843)), .ev (bi bIx [.pk 0, .ev (eC (.int 2))])])])]), .ev (eC (.int 2305843009213693951))]))
  (sSeq (sAsg 4 (bi bAdd [.ev (bi bMulB [.ev (bi bMod [.ev (bi bInt2 [.ev (bi bAdd [.ev (bi bMulB [.pk 3, .pk 3]), .ev (bi bMulB [.ev (eC (.int 367)), .ev (bi bIx [.pk 0, .ev (eC (.int 2))])])])]), .ev (eC (.int 2305843009213693921))]), .ev (eC (.int 49979693))]), .pk 3]))
  (sRet (bi bMod [.ev (bi bInt2 [.ev (bi bFdiv [.pk 4, .ev (eC (.int 65701))])]), .pk 1]))))))
def f__law_dip : List Slot → FOut := runFn 5 b__law_dip
theorem sc__law_dip : FnScope ["vat", "total", "found", "one", "two"] ["vat", "total"] (defScope s__law_dip) := ⟨rfl, rfl, rfl, by decide +kernel, rfl, by decide +kernel, by decide +kernel⟩
theorem ok__law_dip {f : Addr} {fd : FuncData} (F : Fun c.K "_law_dip" "_law_dip" s__law_dip f fd) (T : Txt mg)  : FnG P w c.K mg base 1 f fd ["vat", "total"] (spF c 2 f__law_dip) :=
  have S := sc__law_dip
  fn_vi F S rfl rfl fun cdv A outer s H E hr => (simB_cons (sim_if (sim_tcmp op_gt2 ru_gt.e (sim_ev (sim_ix ix_seq ru_ix.e (sim_pk 0) (sim_ev sim_int))) (sim_ev sim_int) rfl)
  (simB_cons (sim_asg (sim_bin op_mod ru_mod.e (sim_ev (sim_callTy call_int2 ru_int2'.e T.n_int (SimPs.cons (sim_ev (sim_ix ix_seq ru_ix.e (sim_pk 0) (sim_ev sim_int))) SimPs.nil rfl) (by decide +kernel))) (sim_pk 1)) S.nd)
  (simB_cons (sim_setL 0 (sim_bin op_fdiv ru_fdiv.e (sim_ev (sim_ix ix_seq ru_ix.e (sim_pk 0) (sim_ev sim_int))) (sim_pk 1)) sim_int)
  (simB_one (sim_retV 2))))
  simB_nil)
  (simB_cons (sim_setL 0 (sim_bin op_add4 ru_add (sim_ev (sim_ix ix_seq ru_ix.e (sim_pk 0) (sim_ev sim_int))) (sim_ev sim_int)) sim_int)
  (simB_cons (sim_asg (sim_bin op_mod ru_mod.e (sim_ev (sim_callTy call_int2 ru_int2'.e T.n_int (SimPs.cons (sim_ev (sim_bin op_add4 ru_add (sim_ev (sim_ix ix_seq ru_ix.e (sim_pk 0) (sim_ev sim_int))) (sim_ev (sim_bin op_mulB ru_mulB (sim_ev sim_int) (sim_ev (sim_ix ix_seq ru_ix.e (sim_pk 0) (sim_ev sim_int))))))) SimPs.nil rfl) (by decide +kernel))) (sim_ev sim_int)) S.nd)
  (simB_cons (sim_asg (sim_bin op_add4 ru_add (sim_ev (sim_bin op_mulB ru_mulB (sim_ev (sim_bin op_mod ru_mod.e (sim_ev (sim_callTy call_int2 ru_int2'.e T.n_int (SimPs.cons (sim_ev (sim_bin op_add4 ru_add (sim_ev (sim_bin op_mulB ru_mulB (sim_pk 3) (sim_pk 3))) (sim_ev (sim_bin op_mulB ru_mulB (sim_ev sim_int) (sim_ev (sim_ix ix_seq ru_ix.e (sim_pk 0) (sim_ev sim_int))))))) SimPs.nil rfl) (by decide +kernel))) (sim_ev sim_int))) (sim_ev sim_int))) (sim_pk 3)) S.nd)
  (simB_one (sim_ret (sim_bin op_mod ru_mod.e (sim_ev (sim_callTy call_int2 ru_int2'.e T.n_int (SimPs.cons (sim_ev (sim_bin op_fdiv ru_fdiv.e (sim_pk 4) (sim_ev sim_int))) SimPs.nil rfl) (by decide +kernel))) (sim_pk 1))))))))

abbrev s__law_scoop : Stmt := top 44
def b__law_scoop : M VI.Flow := (sRet (bi bIx [.pk 1, .ev (eCall f__law_dip [.lend 0, .ev (bi bLen [.pk 1])])]))
def f__law_scoop : List Slot → FOut := runFn 2 b__law_scoop
theorem sc__law_scoop : FnScope ["vat", "items"] ["vat", "items"] (defScope s__law_scoop) := ⟨rfl, rfl, rfl, by decide +kernel, rfl, by decide +kernel, by decide +kernel⟩
theorem ok__law_scoop {f : Addr} {fd : FuncData} (F : Fun c.K "_law_scoop" "_law_scoop" s__law_scoop f fd) (T : Txt mg) (d__law_dip : DefF P w c mg base "_law_dip" 2 f__law_dip 1) : FnG P w c.K mg base 2 f fd ["vat", "items"] (spF c 2 f__law_scoop) :=
  have S := sc__law_scoop
  fn_vi F S rfl rfl fun cdv A outer s H E hr => (simB_one (sim_ret (sim_ix ix_seq ru_ix.e (sim_pk 1) (sim_ev (sim_call (d__law_dip.at hr (by decide)) (SimAs.cons (sim_argL 0) (SimAs.cons (sim_argE (sim_callB call_len ru_len.e T.n_len (SimPs.cons (sim_pk 1) SimPs.nil rfl) (by decide +kernel))) SimAs.nil)))))))

abbrev s_is_integer : Stmt := top 1
def b_is_integer : M VI.Flow := (sRet (eAnd (bi bIsT [.pk 0, .ev (eC (.cls .int))]) (eNot (bi bIsT [.pk 0, .ev (eC (.cls .bool))]))))
def f_is_integer : List Slot → FOut := runFn 1 b_is_integer
theorem sc_is_integer : FnScope ["value"] ["value"] (defScope s_is_integer) := ⟨rfl, rfl, rfl, by decide +kernel, rfl, by decide +kernel, by decide +kernel⟩
theorem ok_is_integer {f : Addr} {fd : FuncData} (F : Fun c.K "is_integer" "is_integer" s_is_integer f fd) (T : Txt mg)  : FnG P w c.K mg base 1 f fd ["value"] (spF c 1 f_is_integer) :=
  have S := sc_is_integer
  fn_vi F S rfl rfl fun cdv A outer s H E hr => (simB_one (sim_ret (sim_and (sim_callB call_isiZ ru_isT.e T.n_isinstance (SimPs.cons (sim_pk 0) (SimPs.cons (sim_ev (sim_cls (t := .int) T.n_int (by decide +kernel))) SimPs.nil rfl) rfl) (by decide +kernel)) (sim_one (sim_not (sim_callB call_isiZ ru_isT.e T.n_isinstance (SimPs.cons (sim_pk 0) (SimPs.cons (sim_ev (sim_cls (t := .bool) T.n_bool (by decide +kernel))) SimPs.nil rfl) rfl) (by decide +kernel)))))))

abbrev s_is_between : Stmt := top 2
def b_is_between : M VI.Flow := (sRet (eAnd (eCall f_is_integer [.ev (eVar 0)]) (eAnd (bi bLe [.pk 1, .pk 0]) (eOr (bi bIs [.pk 2, .ev (eC .non)]) (bi bLe [.pk 0, .pk 2])))))
def f_is_between : List Slot → FOut := runFn 3 b_is_between
theorem sc_is_between : FnScope ["value", "low", "high"] ["value", "low", "high"] (defScope s_is_between) := ⟨rfl, rfl, rfl, by decide +kernel, rfl, by decide +kernel, by decide +kernel⟩
theorem ok_is_between {f : Addr} {fd : FuncData} (F : Fun c.K "is_between" "is_between" s_is_between f fd) (T : Txt mg) (d_is_integer : DefF P w c mg base "is_integer" 1 f_is_integer 1) : FnG P w c.K mg base 2 f fd ["value", "low", "high"] (spF c 3 f_is_between) :=
  have S := sc_is_between
  fn_vi F S rfl rfl fun cdv A outer s H E hr => (simB_one (sim_ret (sim_and (sim_call (d_is_integer.at hr (by decide)) (SimAs.cons (sim_argE (sim_var 0)) SimAs.nil)) (sim_and (sim_cmp op_le2 ru_le.e (sim_pk 1) (sim_pk 0) rfl) (sim_one (sim_or (sim_cmp op_is2 ru_is.e (sim_pk 2) (sim_ev sim_non) rfl) (sim_one (sim_cmp op_le2 ru_le.e (sim_pk 0) (sim_pk 2) rfl))))))))

abbrev s_is_payload_text : Stmt := top 21
def b_is_payload_text : M VI.Flow := (sSeq (sIf (tOr (tNot (tE (bi bIsT [.pk 0, .ev (eC (.cls .str))]))) (tB (bi bGt [.ev (bi bLen [.pk 0]), .ev (eC (.int 300))])))
  (sRet (eC (.bl false)))
  sPass)
  (sRet (bi bAll [.ev (eComp [1] (iEv (eVar 0)) (asg (.one 1)) (mret true) (eChain bLe bLe (eC (.str [32])) (eVar 1) (eC (.str [126]))))])))
def f_is_payload_text : List Slot → FOut := runFn 2 b_is_payload_text
theorem sc_is_payload_text : FnScope ["value", "sign"] ["value"] (defScope s_is_payload_text) := ⟨rfl, rfl, rfl, by decide +kernel, rfl, by decide +kernel, by decide +kernel⟩
theorem ok_is_payload_text {f : Addr} {fd : FuncData} (F : Fun c.K "is_payload_text" "is_payload_text" s_is_payload_text f fd) (T : Txt mg)  : FnG P w c.K mg base 1 f fd ["value"] (spF c 1 f_is_payload_text) :=
  have S := sc_is_payload_text
  fn_vi F S rfl rfl fun cdv A outer s H E hr => (simB_cons (sim_if (simT_W (simW_or (simT_not (sim_tE rfl (sim_callB call_isiZ ru_isT.e T.n_isinstance (SimPs.cons (sim_pk 0) (SimPs.cons (sim_ev (sim_cls (t := .str) T.n_str (by decide +kernel))) SimPs.nil rfl) rfl) (by decide +kernel)))) (simW_or1 (sim_tcmp op_gt2 ru_gt.e (sim_ev (sim_callB call_len ru_len.e T.n_len (SimPs.cons (sim_pk 0) SimPs.nil rfl) (by decide +kernel))) (sim_ev (T.g_MOST_PAYLOAD.elim fun t h => sim_gl (w := .int 300) (v := .int 300) h ⟨t, rfl⟩ (fun _ _ => rfl))) rfl))))
  (simB_one (sim_ret sim_bl))
  simB_nil)
  (simB_one (sim_ret (sim_callB (cr_all rfl) ru_all.e T.n_all (SimPs.cons (sim_ev (sim_comp (own := [("sign", 1)]) rfl S.nd (simI_ev (sim_K (sim_var 0))) (blkOk_by rfl) (by decide) (fun _ _ _ _ _ => (simG_one S.nd)) (fun _ _ _ _ _ => simTs_nil) (fun _ _ _ _ _ => (sim_chain op_le2 op_le2 ru_le ru_le (T.g_FIRST_SIGN.elim fun t h => sim_gl (w := .str [32]) (v := .str (mkS [32])) h ⟨t, rfl⟩ (fun _ _ => rfl)) (sim_var 1) (T.g_LAST_SIGN.elim fun t h => sim_gl (w := .str [126]) (v := .str (mkS [126])) h ⟨t, rfl⟩ (fun _ _ => rfl))))).toE) SimPs.nil rfl) (by decide +kernel)))))

abbrev s_require_payload : Stmt := top 31
def b_require_payload : M VI.Flow := (sIf (tNot (tE (eCall f_is_payload_text [.ev (eVar 0)])))
  (sRaise 1 (eC .non))
  sPass)
def f_require_payload : List Slot → FOut := runFn 1 b_require_payload
theorem sc_require_payload : FnScope ["payload"] ["payload"] (defScope s_require_payload) := ⟨rfl, rfl, rfl, by decide +kernel, rfl, by decide +kernel, by decide +kernel⟩
theorem ok_require_payload {f : Addr} {fd : FuncData} (F : Fun c.K "require_payload" "require_payload" s_require_payload f fd) (T : Txt mg) (d_is_payload_text : DefF P w c mg base "is_payload_text" 1 f_is_payload_text 1)(e_InvalidOperation : ExMK c mg "InvalidOperation" 1) : FnG P w c.K mg base 2 f fd ["payload"] (spF c 1 f_require_payload) :=
  have S := sc_require_payload
  fn_vi F S rfl rfl fun cdv A outer s H E hr => (simB_one (sim_if (simT_not (sim_tE rfl (sim_call (d_is_payload_text.at hr (by decide)) (SimAs.cons (sim_argE (sim_var 0)) SimAs.nil))))
  (simB_one (sim_raiseM e_InvalidOperation.at))
  simB_nil))

abbrev s_check_in : Stmt := top 11
def b_check_in : M VI.Flow := (sSeq (sAsg 1 (eC (.int 0)))
  (sSeq (sFor (iEnum (eVar 0)) (asg (.many [(.one 2), (.one 3)]))
  (sAug 1 bAddF (bi bMulB [.ev (bi bAdd [.pk 2, .ev (eC (.int 1))]), .ev (bi bOrd [.pk 3])])))
  (sRet (bi bMod [.pk 1, .ev (eC (.int 9973))]))))
def f_check_in : List Slot → FOut := runFn 4 b_check_in
theorem sc_check_in : FnScope ["text", "total", "position", "sign"] ["text"] (defScope s_check_in) := ⟨rfl, rfl, rfl, by decide +kernel, rfl, by decide +kernel, by decide +kernel⟩
theorem ok_check_in {f : Addr} {fd : FuncData} (F : Fun c.K "check_in" "check_in" s_check_in f fd) (T : Txt mg)  : FnG P w c.K mg base 1 f fd ["text"] (spF c 1 f_check_in) :=
  have S := sc_check_in
  fn_vi F S rfl rfl fun cdv A outer s H E hr => (simB_cons (sim_asg sim_int S.nd)
  (simB_cons (sim_for (passes_of rfl) rfl (simI_enum T.n_enumerate (sim_K (sim_var 0))) (simG_tup rfl rfl (simGs_cons (simG_one S.nd) (simGs_cons (simG_one S.nd) simGs_nil)))
  (simB_one (sim_aug (sim_bin op_mulB ru_mulB (sim_ev (sim_bin op_add4 ru_add (sim_pk 2) (sim_ev sim_int))) (sim_ev (sim_callB call_ord ru_ord1.e T.n_ord (SimPs.cons (sim_pk 3) SimPs.nil rfl) (by decide +kernel)))) iop_add2 ru_addF S.nd)))
  (simB_one (sim_ret (sim_bin op_mod ru_mod.e (sim_pk 1) (sim_ev (T.g_CHECK_PRIME.elim fun t h => sim_gl (w := .int 9973) (v := .int 9973) h ⟨t, rfl⟩ (fun _ _ => rfl))))))))

abbrev s_line_of : Stmt := top 22
def b_line_of : M VI.Flow := (sSeq (sAsg 2 (eFs [] [(eFmt (eVar 0)), (eFmt (eC (.str [58]))), (eFmt (bi bLen [.pk 1])), (eFmt (eC (.str [58]))), (eFmt (eVar 1))]))
  (sRet (eFs [] [(eFmt (eVar 2)), (eFmt (eC (.str [35]))), (eFmt (eCall f_check_in [.ev (eVar 2)]))])))
def f_line_of : List Slot → FOut := runFn 3 b_line_of
theorem sc_line_of : FnScope ["number", "payload", "front"] ["number", "payload"] (defScope s_line_of) := ⟨rfl, rfl, rfl, by decide +kernel, rfl, by decide +kernel, by decide +kernel⟩
theorem ok_line_of {f : Addr} {fd : FuncData} (F : Fun c.K "line_of" "line_of" s_line_of f fd) (T : Txt mg) (d_check_in : DefF P w c mg base "check_in" 1 f_check_in 1) : FnG P w c.K mg base 2 f fd ["number", "payload"] (spF c 2 f_line_of) :=
  have S := sc_line_of
  fn_vi F S rfl rfl fun cdv A outer s H E hr => (simB_cons (sim_asg (sim_fstr (SimJ.cons (sim_fmt (sim_var 0)) (SimJ.cons (sim_fmt (T.g_BETWEEN.elim fun t h => sim_gl (w := .str [58]) (v := .str (mkS [58])) h ⟨t, rfl⟩ (fun _ _ => rfl))) (SimJ.cons (sim_fmt (sim_callB call_len ru_len.e T.n_len (SimPs.cons (sim_pk 1) SimPs.nil rfl) (by decide +kernel))) (SimJ.cons (sim_fmt (T.g_BETWEEN.elim fun t h => sim_gl (w := .str [58]) (v := .str (mkS [58])) h ⟨t, rfl⟩ (fun _ _ => rfl))) (SimJ.cons (sim_fmt (sim_var 1)) SimJ.nil)))))) S.nd)
  (simB_one (sim_ret (sim_fstr (SimJ.cons (sim_fmt (sim_var 2)) (SimJ.cons (sim_fmt (T.g_CHECKED.elim fun t h => sim_gl (w := .str [35]) (v := .str (mkS [35])) h ⟨t, rfl⟩ (fun _ _ => rfl))) (SimJ.cons (sim_fmt (sim_call (d_check_in.at hr (by decide)) (SimAs.cons (sim_argE (sim_var 2)) SimAs.nil))) SimJ.nil)))))))

abbrev s_frame_of : Stmt := top 33
def b_frame_of : M VI.Flow := (sSeq (sIf (tNot (tE (eCall f_is_between [.ev (eVar 0), .ev (eC (.int 0)), .ev (eC (.int 1000000000))])))
  (sRaise 3 (eVar 0))
  sPass)
  (sSeq (sExpr (eCall f_require_payload [.ev (eVar 1)]))
  (sRet (bi bAdd [.ev (eCall f_line_of [.ev (eVar 0), .ev (eVar 1)]), .ev (eC (.str [10]))]))))
def f_frame_of : List Slot → FOut := runFn 2 b_frame_of
theorem sc_frame_of : FnScope ["number", "payload"] ["number", "payload"] (defScope s_frame_of) := ⟨rfl, rfl, rfl, by decide +kernel, rfl, by decide +kernel, by decide +kernel⟩
theorem ok_frame_of {f : Addr} {fd : FuncData} (F : Fun c.K "frame_of" "frame_of" s_frame_of f fd) (T : Txt mg) (d_is_between : DefF P w c mg base "is_between" 3 f_is_between 2) (d_require_payload : DefF P w c mg base "require_payload" 1 f_require_payload 2) (d_line_of : DefF P w c mg base "line_of" 2 f_line_of 2)(e_InvalidNumber : ExFK c mg "InvalidNumber" 3) : FnG P w c.K mg base 3 f fd ["number", "payload"] (spF c 2 f_frame_of) :=
  have S := sc_frame_of
  fn_vi F S rfl rfl fun cdv A outer s H E hr => (simB_cons (sim_if (simT_not (sim_tE rfl (sim_call (d_is_between.at hr (by decide)) (SimAs.cons (sim_argE (sim_var 0)) (SimAs.cons (sim_argE sim_int) (SimAs.cons (sim_argE (T.g_MOST_FRAME.elim fun t h => sim_gl (w := .int 1000000000) (v := .int 1000000000) h ⟨t, rfl⟩ (fun _ _ => rfl))) SimAs.nil))))))
  (simB_one (sim_raiseF (e_InvalidNumber.at hr) (sim_var 0)))
  simB_nil)
  (simB_cons (sim_expr (sim_call (d_require_payload.at hr (by decide)) (SimAs.cons (sim_argE (sim_var 1)) SimAs.nil)))
  (simB_one (sim_ret (sim_bin op_add4 ru_add (sim_ev (sim_call (d_line_of.at hr (by decide)) (SimAs.cons (sim_argE (sim_var 0)) (SimAs.cons (sim_argE (sim_var 1)) SimAs.nil)))) (sim_ev (T.g_END.elim fun t h => sim_gl (w := .str [10]) (v := .str (mkS [10])) h ⟨t, rfl⟩ (fun _ _ => rfl))))))))

abbrev s_figures_ahead : Stmt := top 23
def b_figures_ahead : M VI.Flow := (sSeq (sUnp (.many [(.one 1), (.one 2), (.one 3)]) (eM1 bPart (eVar 0) (eC (.str [58]))))
  (sSeq (sIf (tOr (tB (bi bEq [.pk 2, .ev (eC (.str []))])) (tNot (tB (eChain bLe bLe (eC (.int 1)) (bi bLen [.pk 1]) (bi bLen [.ev (bi bStrI [.ev (eC (.int 1000000000))])])))))
  (sRet (eC .non))
  sPass)
  (sSeq (sIf (tOr (tNot (tE (bi bAll [.ev (eComp [4] (iEv (eVar 1)) (asg (.one 4)) (mret true) (bi bIn [.pk 4, .ev (eC (.str [48, 49, 50, 51, 52, 53, 54, 55, 56, 57]))]))]))) (tB (bi bNe [.ev (bi bStrI [.ev (bi bInt2 [.pk 1])]), .pk 1])))
  (sRet (eC .non))
  sPass)
  (sRet (eTup [(bi bInt2 [.pk 1]), (eVar 3)])))))
def f_figures_ahead : List Slot → FOut := runFn 5 b_figures_ahead
theorem sc_figures_ahead : FnScope ["text", "figures", "colon", "rest", "sign"] ["text"] (defScope s_figures_ahead) := ⟨rfl, rfl, rfl, by decide +kernel, rfl, by decide +kernel, by decide +kernel⟩
theorem ok_figures_ahead {f : Addr} {fd : FuncData} (F : Fun c.K "figures_ahead" "figures_ahead" s_figures_ahead f fd) (T : Txt mg)  : FnG P w c.K mg base 1 f fd ["text"] (spF c 1 f_figures_ahead) :=
  have S := sc_figures_ahead
  fn_vi F S rfl rfl fun cdv A outer s H E hr => (simB_cons (sim_unp (sim_part (sim_var 0) (T.g_BETWEEN.elim fun t h => sim_gl (w := .str [58]) (v := .str (mkS [58])) h ⟨t, rfl⟩ (fun _ _ => rfl))) (simG_tup rfl rfl (simGs_cons (simG_one S.nd) (simGs_cons (simG_one S.nd) (simGs_cons (simG_one S.nd) simGs_nil)))))
  (simB_cons (sim_if (simT_W (simW_or (sim_tcmp (op_eqD (un_ok hr)) ru_eq.e (sim_pk 2) (sim_ev (sim_str rfl)) rfl) (simW_or1 (simT_not (simT_chain op_le2 op_le2 ru_le ru_le sim_int (sim_callB call_len ru_len.e T.n_len (SimPs.cons (sim_pk 1) SimPs.nil rfl) (by decide +kernel)) (sim_callB call_len ru_len.e T.n_len (SimPs.cons (sim_ev (sim_callTy call_str_int ru_strI.e T.n_str (SimPs.cons (sim_ev (T.g_MOST_FRAME.elim fun t h => sim_gl (w := .int 1000000000) (v := .int 1000000000) h ⟨t, rfl⟩ (fun _ _ => rfl))) SimPs.nil rfl) (by decide +kernel))) SimPs.nil rfl) (by decide +kernel)))))))
  (simB_one (sim_ret sim_non))
  simB_nil)
  (simB_cons (sim_if (simT_W (simW_or (simT_not (sim_tE rfl (sim_callB (cr_all rfl) ru_all.e T.n_all (SimPs.cons (sim_ev (sim_comp (own := [("sign", 4)]) rfl S.nd (simI_ev (sim_K (sim_var 1))) (blkOk_by rfl) (by decide) (fun _ _ _ _ _ => (simG_one S.nd)) (fun _ _ _ _ _ => simTs_nil) (fun _ _ _ _ _ => (sim_cmp op_in2 ru_in.e (sim_pk 4) (sim_ev (T.g_FIGURES.elim fun t h => sim_gl (w := .str [48, 49, 50, 51, 52, 53, 54, 55, 56, 57]) (v := .str (mkS [48, 49, 50, 51, 52, 53, 54, 55, 56, 57])) h ⟨t, rfl⟩ (fun _ _ => rfl))) rfl))).toE) SimPs.nil rfl) (by decide +kernel)))) (simW_or1 (sim_tcmp (op_neD (un_ok hr)) ru_ne.e (sim_ev (sim_callTy call_str_int ru_strI.e T.n_str (SimPs.cons (sim_ev (sim_callTy call_int2 ru_int2'.e T.n_int (SimPs.cons (sim_pk 1) SimPs.nil rfl) (by decide +kernel))) SimPs.nil rfl) (by decide +kernel))) (sim_pk 1) rfl))))
  (simB_one (sim_ret sim_non))
  simB_nil)
  (simB_one (sim_ret (sim_tup (simL_cons (sim_callTy call_int2 ru_int2'.e T.n_int (SimPs.cons (sim_pk 1) SimPs.nil rfl) (by decide +kernel)) (simL_cons (sim_var 3) simL_nil)) rfl))))))

abbrev s_pair_of_line : Stmt := top 24
def b_pair_of_line : M VI.Flow := (sSeq (sAsgO 1 (eCallO f_figures_ahead [.ev (eVar 0)]))
  (sSeq (sAsg 2 (eIf (tB (bi bIsNot [.pk 1, .ev (eC .non)])) (eCall f_figures_ahead [.ev (bi bIx [.pk 1, .ev (eC (.int 1))])]) (eC .non)))
  (sSeq (sIf (tOr (tB (bi bIs [.pk 2, .ev (eC .non)])) (tB (bi bGt [.ev (bi bIx [.pk 1, .ev (eC (.int 0))]), .ev (eC (.int 1000000000))])))
  (sRet (eC .non))
  sPass)
  (sSeq (sAsg 3 (bi bSlH [.ev (bi bIx [.pk 2, .ev (eC (.int 1))]), .ev (bi bIx [.pk 2, .ev (eC (.int 0))])]))
  (sSeq (sIf (tOr (tNot (tE (eCall f_is_payload_text [.ev (eVar 3)]))) (tB (bi bNe [.ev (eCall f_line_of [.ev (bi bIx [.pk 1, .ev (eC (.int 0))]), .ev (eVar 3)]), .pk 0])))
  (sRet (eC .non))
  sPass)
  (sRet (eTup [(bi bIx [.pk 1, .ev (eC (.int 0))]), (eVar 3)])))))))
def f_pair_of_line : List Slot → FOut := runFn 4 b_pair_of_line
theorem sc_pair_of_line : FnScope ["line", "first", "second", "payload"] ["line"] (defScope s_pair_of_line) := ⟨rfl, rfl, rfl, by decide +kernel, rfl, by decide +kernel, by decide +kernel⟩
theorem ok_pair_of_line {f : Addr} {fd : FuncData} (F : Fun c.K "pair_of_line" "pair_of_line" s_pair_of_line f fd) (T : Txt mg) (d_figures_ahead : DefF P w c mg base "figures_ahead" 1 f_figures_ahead 1) (d_is_payload_text : DefF P w c mg base "is_payload_text" 1 f_is_payload_text 1) (d_line_of : DefF P w c mg base "line_of" 2 f_line_of 2) : FnG P w c.K mg base 3 f fd ["line"] (spF c 1 f_pair_of_line) :=
  have S := sc_pair_of_line
  fn_vi F S rfl rfl fun cdv A outer s H E hr => (simB_cons (sim_asgO (sim_callO (d_figures_ahead.at hr (by decide)) (SimAs.cons (sim_argE (sim_var 0)) SimAs.nil)) S.nd)
  (simB_cons (sim_asg (sim_ifE (sim_tcmp op_isnot2 ru_isnot.e (sim_pk 1) (sim_ev sim_non) rfl) (sim_call (d_figures_ahead.at hr (by decide)) (SimAs.cons (sim_argE (sim_ix ix_seq ru_ix.e (sim_pk 1) (sim_ev sim_int))) SimAs.nil)) sim_non) S.nd)
  (simB_cons (sim_if (simT_W (simW_or (sim_tcmp op_is2 ru_is.e (sim_pk 2) (sim_ev sim_non) rfl) (simW_or1 (sim_tcmp op_gt2 ru_gt.e (sim_ev (sim_ix ix_seq ru_ix.e (sim_pk 1) (sim_ev sim_int))) (sim_ev (T.g_MOST_FRAME.elim fun t h => sim_gl (w := .int 1000000000) (v := .int 1000000000) h ⟨t, rfl⟩ (fun _ _ => rfl))) rfl))))
  (simB_one (sim_ret sim_non))
  simB_nil)
  (simB_cons (sim_asg (sim_slH rfl (sim_ev (sim_ix ix_seq ru_ix.e (sim_pk 2) (sim_ev sim_int))) (sim_ev (sim_ix ix_seq ru_ix.e (sim_pk 2) (sim_ev sim_int)))) S.nd)
  (simB_cons (sim_if (simT_W (simW_or (simT_not (sim_tE rfl (sim_call (d_is_payload_text.at hr (by decide)) (SimAs.cons (sim_argE (sim_var 3)) SimAs.nil)))) (simW_or1 (sim_tcmp (op_neD (un_ok hr)) ru_ne.e (sim_ev (sim_call (d_line_of.at hr (by decide)) (SimAs.cons (sim_argE (sim_ix ix_seq ru_ix.e (sim_pk 1) (sim_ev sim_int))) (SimAs.cons (sim_argE (sim_var 3)) SimAs.nil)))) (sim_pk 0) rfl))))
  (simB_one (sim_ret sim_non))
  simB_nil)
  (simB_one (sim_ret (sim_tup (simL_cons (sim_ix ix_seq ru_ix.e (sim_pk 1) (sim_ev sim_int)) (simL_cons (sim_var 3) simL_nil)) rfl))))))))

abbrev s_read_line : Stmt := top 34
def b_read_line : M VI.Flow := (sSeq (sAsg 1 (eIf (tAnd (tE (bi bIsT [.pk 0, .ev (eC (.cls .str))])) (tB (bi bNotIn [.ev (eC (.str [10])), .pk 0]))) (eCall f_pair_of_line [.ev (eVar 0)]) (eC .non)))
  (sSeq (sIf (tB (bi bIs [.pk 1, .ev (eC .non)]))
  (sRaise 2 (eC .non))
  sPass)
  (sRetV 1)))
def f_read_line : List Slot → FOut := runFn 2 b_read_line
theorem sc_read_line : FnScope ["line", "pair"] ["line"] (defScope s_read_line) := ⟨rfl, rfl, rfl, by decide +kernel, rfl, by decide +kernel, by decide +kernel⟩
theorem ok_read_line {f : Addr} {fd : FuncData} (F : Fun c.K "read_line" "read_line" s_read_line f fd) (T : Txt mg) (d_pair_of_line : DefF P w c mg base "pair_of_line" 1 f_pair_of_line 3)(e_ParseError : ExMK c mg "ParseError" 2) : FnG P w c.K mg base 4 f fd ["line"] (spF c 1 f_read_line) :=
  have S := sc_read_line
  fn_vi F S rfl rfl fun cdv A outer s H E hr => (simB_cons (sim_asg (sim_ifE (simT_W (simW_and (sim_tE rfl (sim_callB call_isiZ ru_isT.e T.n_isinstance (SimPs.cons (sim_pk 0) (SimPs.cons (sim_ev (sim_cls (t := .str) T.n_str (by decide +kernel))) SimPs.nil rfl) rfl) (by decide +kernel))) (simW_and1 (sim_tcmp op_notin2 ru_notin.e (sim_ev (T.g_END.elim fun t h => sim_gl (w := .str [10]) (v := .str (mkS [10])) h ⟨t, rfl⟩ (fun _ _ => rfl))) (sim_pk 0) rfl)))) (sim_call (d_pair_of_line.at hr (by decide)) (SimAs.cons (sim_argE (sim_var 0)) SimAs.nil)) sim_non) S.nd)
  (simB_cons (sim_if (sim_tcmp op_is2 ru_is.e (sim_pk 1) (sim_ev sim_non) rfl)
  (simB_one (sim_raiseM e_ParseError.at))
  simB_nil)
  (simB_one (sim_retV 1))))

abbrev s_are_numbered : Stmt := top 25
def b_are_numbered : M VI.Flow := (sSeq (sIf (tNot (tE (bi bIsT [.pk 0, .ev (eC (.cls .tuple))])))
  (sRet (eC (.bl false)))
  sPass)
  (sSeq (sFor (iEv (eVar 0)) (asg (.one 3))
  (sSeq (sIf (tOr (tNot (tE (bi bIsT [.pk 3, .ev (eC (.cls .tuple))]))) (tOr (tB (bi bNe [.ev (bi bLen [.pk 3]), .ev (eC (.int 2))])) (tNot (tE (eCall f_is_between [.ev (bi bIx [.pk 3, .ev (eC (.int 0))]), .ev (eVar 1), .ev (eVar 2)])))))
  (sRet (eC (.bl false)))
  sPass)
  (sIf (tNot (tE (eCall f_is_payload_text [.ev (bi bIx [.pk 3, .ev (eC (.int 1))])])))
  (sRet (eC (.bl false)))
  sPass)))
  (sRet (bi bAll [.ev (eComp [4, 5] (iZip (eVar 0) (bi bSlL [.pk 0, .ev (eC (.int 1))])) (asg (.many [(.one 4), (.one 5)])) (mret true) (bi bLt [.ev (bi bIx [.pk 4, .ev (eC (.int 0))]), .ev (bi bIx [.pk 5, .ev (eC (.int 0))])]))]))))
def f_are_numbered : List Slot → FOut := runFn 6 b_are_numbered
theorem sc_are_numbered : FnScope ["value", "low", "high", "pair", "one", "other"] ["value", "low", "high"] (defScope s_are_numbered) := ⟨rfl, rfl, rfl, by decide +kernel, rfl, by decide +kernel, by decide +kernel⟩
theorem ok_are_numbered {f : Addr} {fd : FuncData} (F : Fun c.K "are_numbered" "are_numbered" s_are_numbered f fd) (T : Txt mg) (d_is_between : DefF P w c mg base "is_between" 3 f_is_between 2) (d_is_payload_text : DefF P w c mg base "is_payload_text" 1 f_is_payload_text 1) : FnG P w c.K mg base 3 f fd ["value", "low", "high"] (spF c 3 f_are_numbered) :=
  have S := sc_are_numbered
  fn_vi F S rfl rfl fun cdv A outer s H E hr => (simB_cons (sim_if (simT_not (sim_tE rfl (sim_callB call_isiZ ru_isT.e T.n_isinstance (SimPs.cons (sim_pk 0) (SimPs.cons (sim_ev (sim_cls (t := .tuple) T.n_tuple (by decide +kernel))) SimPs.nil rfl) rfl) (by decide +kernel))))
  (simB_one (sim_ret sim_bl))
  simB_nil)
  (simB_cons (sim_for (passes_of rfl) rfl (simI_ev (sim_K (sim_var 0))) (simG_one S.nd)
  (simB_cons (sim_if (simT_W (simW_or (simT_not (sim_tE rfl (sim_callB call_isiZ ru_isT.e T.n_isinstance (SimPs.cons (sim_pk 3) (SimPs.cons (sim_ev (sim_cls (t := .tuple) T.n_tuple (by decide +kernel))) SimPs.nil rfl) rfl) (by decide +kernel)))) (simW_or (sim_tcmp (op_neD (un_ok hr)) ru_ne.e (sim_ev (sim_callB call_len ru_len.e T.n_len (SimPs.cons (sim_pk 3) SimPs.nil rfl) (by decide +kernel))) (sim_ev sim_int) rfl) (simW_or1 (simT_not (sim_tE rfl (sim_call (d_is_between.at hr (by decide)) (SimAs.cons (sim_argE (sim_ix ix_seq ru_ix.e (sim_pk 3) (sim_ev sim_int))) (SimAs.cons (sim_argE (sim_var 1)) (SimAs.cons (sim_argE (sim_var 2)) SimAs.nil))))))))))
  (simB_one (sim_ret sim_bl))
  simB_nil)
  (simB_one (sim_if (simT_not (sim_tE rfl (sim_call (d_is_payload_text.at hr (by decide)) (SimAs.cons (sim_argE (sim_ix ix_seq ru_ix.e (sim_pk 3) (sim_ev sim_int))) SimAs.nil))))
  (simB_one (sim_ret sim_bl))
  simB_nil))))
  (simB_one (sim_ret (sim_callB (cr_all rfl) ru_all.e T.n_all (SimPs.cons (sim_ev (sim_comp (own := [("one", 4), ("other", 5)]) rfl S.nd (simI_zip T.n_zip (sim_var 0) (sim_slL rfl (sim_pk 0) (sim_ev sim_int))) (blkOk_by rfl) (by decide) (fun _ _ _ _ _ => (simG_tup rfl rfl (simGs_cons (simG_one S.nd) (simGs_cons (simG_one S.nd) simGs_nil)))) (fun _ _ _ _ _ => simTs_nil) (fun _ _ _ _ _ => (sim_cmp op_lt2 ru_lt.e (sim_ev (sim_ix ix_seq ru_ix.e (sim_pk 4) (sim_ev sim_int))) (sim_ev (sim_ix ix_seq ru_ix.e (sim_pk 5) (sim_ev sim_int))) rfl))).toE) SimPs.nil rfl) (by decide +kernel))))))

abbrev s_is_giving_end : Stmt := top 26
def b_is_giving_end : M VI.Flow := (sSeq (sIf (tOr (tNot (tE (bi bIsT [.pk 0, .ev (eC (.cls .tuple))]))) (tOr (tB (bi bNe [.ev (bi bLen [.pk 0]), .ev (eC (.int 2))])) (tNot (tE (eCall f_is_between [.ev (bi bIx [.pk 0, .ev (eC (.int 0))]), .ev (eC (.int 0)), .ev (eC (.int 1000000000))])))))
  (sRet (eC (.bl false)))
  sPass)
  (sRetO (eCallO f_are_numbered [.ev (bi bIx [.pk 0, .ev (eC (.int 1))]), .ev (eC (.int 0)), .ev (bi bSub [.ev (bi bIx [.pk 0, .ev (eC (.int 0))]), .ev (eC (.int 1))])])))
def f_is_giving_end : List Slot → FOut := runFn 1 b_is_giving_end
theorem sc_is_giving_end : FnScope ["value"] ["value"] (defScope s_is_giving_end) := ⟨rfl, rfl, rfl, by decide +kernel, rfl, by decide +kernel, by decide +kernel⟩
theorem ok_is_giving_end {f : Addr} {fd : FuncData} (F : Fun c.K "is_giving_end" "is_giving_end" s_is_giving_end f fd) (T : Txt mg) (d_is_between : DefF P w c mg base "is_between" 3 f_is_between 2) (d_are_numbered : DefF P w c mg base "are_numbered" 3 f_are_numbered 3) : FnG P w c.K mg base 4 f fd ["value"] (spF c 1 f_is_giving_end) :=
  have S := sc_is_giving_end
  fn_vi F S rfl rfl fun cdv A outer s H E hr => (simB_cons (sim_if (simT_W (simW_or (simT_not (sim_tE rfl (sim_callB call_isiZ ru_isT.e T.n_isinstance (SimPs.cons (sim_pk 0) (SimPs.cons (sim_ev (sim_cls (t := .tuple) T.n_tuple (by decide +kernel))) SimPs.nil rfl) rfl) (by decide +kernel)))) (simW_or (sim_tcmp (op_neD (un_ok hr)) ru_ne.e (sim_ev (sim_callB call_len ru_len.e T.n_len (SimPs.cons (sim_pk 0) SimPs.nil rfl) (by decide +kernel))) (sim_ev sim_int) rfl) (simW_or1 (simT_not (sim_tE rfl (sim_call (d_is_between.at hr (by decide)) (SimAs.cons (sim_argE (sim_ix ix_seq ru_ix.e (sim_pk 0) (sim_ev sim_int))) (SimAs.cons (sim_argE sim_int) (SimAs.cons (sim_argE (T.g_MOST_FRAME.elim fun t h => sim_gl (w := .int 1000000000) (v := .int 1000000000) h ⟨t, rfl⟩ (fun _ _ => rfl))) SimAs.nil))))))))))
  (simB_one (sim_ret sim_bl))
  simB_nil)
  (simB_one (sim_retO (sim_callO (d_are_numbered.at hr (by decide)) (SimAs.cons (sim_argE (sim_ix ix_seq ru_ix.e (sim_pk 0) (sim_ev sim_int))) (SimAs.cons (sim_argE sim_int) (SimAs.cons (sim_argE (sim_bin op_sub ru_sub.e (sim_ev (sim_ix ix_seq ru_ix.e (sim_pk 0) (sim_ev sim_int))) (sim_ev sim_int))) SimAs.nil)))))))

abbrev s_require_giving : Stmt := top 30
def b_require_giving : M VI.Flow := (sIf (tNot (tE (eCall f_is_giving_end [.ev (eVar 0)])))
  (sRaise 1 (eC .non))
  sPass)
def f_require_giving : List Slot → FOut := runFn 1 b_require_giving
theorem sc_require_giving : FnScope ["end"] ["end"] (defScope s_require_giving) := ⟨rfl, rfl, rfl, by decide +kernel, rfl, by decide +kernel, by decide +kernel⟩
theorem ok_require_giving {f : Addr} {fd : FuncData} (F : Fun c.K "require_giving" "require_giving" s_require_giving f fd) (T : Txt mg) (d_is_giving_end : DefF P w c mg base "is_giving_end" 1 f_is_giving_end 4)(e_InvalidOperation : ExMK c mg "InvalidOperation" 1) : FnG P w c.K mg base 5 f fd ["end"] (spF c 1 f_require_giving) :=
  have S := sc_require_giving
  fn_vi F S rfl rfl fun cdv A outer s H E hr => (simB_one (sim_if (simT_not (sim_tE rfl (sim_call (d_is_giving_end.at hr (by decide)) (SimAs.cons (sim_argE (sim_var 0)) SimAs.nil))))
  (simB_one (sim_raiseM e_InvalidOperation.at))
  simB_nil))

abbrev s_give : Stmt := top 36
def b_give : M VI.Flow := (sSeq (sExpr (eCall f_require_giving [.ev (eVar 0)]))
  (sSeq (sExpr (eCall f_require_payload [.ev (eVar 1)]))
  (sSeq (sUnp (.many [(.one 2), (.one 3)]) (eVar 0))
  (sSeq (sIf (tB (bi bEq [.pk 2, .ev (eC (.int 1000000000))]))
  (sRaise 4 (eC (.int 1000000000)))
  sPass)
  stuck))))
def f_give : List Slot → FOut := runFn 4 b_give
theorem sc_give : FnScope ["end", "payload", "number", "waiting"] ["end", "payload"] (defScope s_give) := ⟨rfl, rfl, rfl, by decide +kernel, rfl, by decide +kernel, by decide +kernel⟩
theorem ok_give {f : Addr} {fd : FuncData} (F : Fun c.K "give" "give" s_give f fd) (T : Txt mg) (d_require_giving : DefF P w c mg base "require_giving" 1 f_require_giving 5) (d_require_payload : DefF P w c mg base "require_payload" 1 f_require_payload 2) (d_line_of : DefF P w c mg base "line_of" 2 f_line_of 2)(e_TooMany : ExFK c mg "TooMany" 4) : FnG P w c.K mg base 6 f fd ["end", "payload"] (spF c 2 f_give) :=
  have S := sc_give
  fn_vi F S rfl rfl fun cdv A outer s H E hr => (simB_cons (sim_expr (sim_call (d_require_giving.at hr (by decide)) (SimAs.cons (sim_argE (sim_var 0)) SimAs.nil)))
  (simB_cons (sim_expr (sim_call (d_require_payload.at hr (by decide)) (SimAs.cons (sim_argE (sim_var 1)) SimAs.nil)))
  (simB_cons (sim_unp (sim_var 0) (simG_tup rfl rfl (simGs_cons (simG_one S.nd) (simGs_cons (simG_one S.nd) simGs_nil))))
  (simB_cons (sim_if (sim_tcmp (op_eqD (un_ok hr)) ru_eq.e (sim_pk 2) (sim_ev (T.g_MOST_FRAME.elim fun t h => sim_gl (w := .int 1000000000) (v := .int 1000000000) h ⟨t, rfl⟩ (fun _ _ => rfl))) rfl)
  (simB_one (sim_raiseF (e_TooMany.at hr) (T.g_MOST_FRAME.elim fun t h => sim_gl (w := .int 1000000000) (v := .int 1000000000) h ⟨t, rfl⟩ (fun _ _ => rfl))))
  simB_nil)
  (simB_one sim_stuck)))))

abbrev s_waiting_frames : Stmt := top 37
def b_waiting_frames : M VI.Flow := (sSeq (sExpr (eCall f_require_giving [.ev (eVar 0)]))
  stuck)
def f_waiting_frames : List Slot → FOut := runFn 3 b_waiting_frames
theorem sc_waiting_frames : FnScope ["end", "number", "payload"] ["end"] (defScope s_waiting_frames) := ⟨rfl, rfl, rfl, by decide +kernel, rfl, by decide +kernel, by decide +kernel⟩
theorem ok_waiting_frames {f : Addr} {fd : FuncData} (F : Fun c.K "waiting_frames" "waiting_frames" s_waiting_frames f fd) (T : Txt mg) (d_require_giving : DefF P w c mg base "require_giving" 1 f_require_giving 5) : FnG P w c.K mg base 6 f fd ["end"] (spF c 1 f_waiting_frames) :=
  have S := sc_waiting_frames
  fn_vi F S rfl rfl fun cdv A outer s H E hr => (simB_cons (sim_expr (sim_call (d_require_giving.at hr (by decide)) (SimAs.cons (sim_argE (sim_var 0)) SimAs.nil)))
  (simB_one sim_stuck))

abbrev s_told : Stmt := top 38
def b_told : M VI.Flow := (sSeq (sExpr (eCall f_require_giving [.ev (eVar 0)]))
  (sSeq (sIf (tNot (tE (eCall f_is_between [.ev (eVar 1), .ev (eC (.int 0)), .ev (bi bIx [.pk 0, .ev (eC (.int 0))])])))
  (sRaise 3 (eVar 1))
  sPass)
  (sRet (eTup [(bi bIx [.pk 0, .ev (eC (.int 0))]), (bi bTuple [.ev (eComp [2] (iEv (bi bIx [.pk 0, .ev (eC (.int 1))])) (asg (.one 2)) (tB (bi bGe [.ev (bi bIx [.pk 2, .ev (eC (.int 0))]), .pk 1])) (eVar 2))])]))))
def f_told : List Slot → FOut := runFn 3 b_told
theorem sc_told : FnScope ["end", "number", "pair"] ["end", "number"] (defScope s_told) := ⟨rfl, rfl, rfl, by decide +kernel, rfl, by decide +kernel, by decide +kernel⟩
theorem ok_told {f : Addr} {fd : FuncData} (F : Fun c.K "told" "told" s_told f fd) (T : Txt mg) (d_require_giving : DefF P w c mg base "require_giving" 1 f_require_giving 5) (d_is_between : DefF P w c mg base "is_between" 3 f_is_between 2)(e_InvalidNumber : ExFK c mg "InvalidNumber" 3) : FnG P w c.K mg base 6 f fd ["end", "number"] (spF c 2 f_told) :=
  have S := sc_told
  fn_vi F S rfl rfl fun cdv A outer s H E hr => (simB_cons (sim_expr (sim_call (d_require_giving.at hr (by decide)) (SimAs.cons (sim_argE (sim_var 0)) SimAs.nil)))
  (simB_cons (sim_if (simT_not (sim_tE rfl (sim_call (d_is_between.at hr (by decide)) (SimAs.cons (sim_argE (sim_var 1)) (SimAs.cons (sim_argE sim_int) (SimAs.cons (sim_argE (sim_ix ix_seq ru_ix.e (sim_pk 0) (sim_ev sim_int))) SimAs.nil))))))
  (simB_one (sim_raiseF (e_InvalidNumber.at hr) (sim_var 1)))
  simB_nil)
  (simB_one (sim_ret (sim_tup (simL_cons (sim_ix ix_seq ru_ix.e (sim_pk 0) (sim_ev sim_int)) (simL_cons (sim_callTy call_tuple_of ru_tuple T.n_tuple (SimPs.cons (sim_ev (sim_comp (own := [("pair", 2)]) rfl S.nd (simI_ev (sim_K (sim_ix ix_seq ru_ix.e (sim_pk 0) (sim_ev sim_int)))) (blkOk_by rfl) (by decide) (fun _ _ _ _ _ => (simG_one S.nd)) (fun _ _ _ _ _ => (simTs_one (sim_tcmp op_ge2 ru_ge.e (sim_ev (sim_ix ix_seq ru_ix.e (sim_pk 2) (sim_ev sim_int))) (sim_pk 1) rfl))) (fun _ _ _ _ _ => (sim_var 2))).toE) SimPs.nil rfl) (by decide +kernel)) simL_nil)) rfl)))))

abbrev s_is_taking_end : Stmt := top 27
def b_is_taking_end : M VI.Flow := (sSeq (sIf (tOr (tNot (tE (bi bIsT [.pk 0, .ev (eC (.cls .tuple))]))) (tOr (tB (bi bNe [.ev (bi bLen [.pk 0]), .ev (eC (.int 3))])) (tNot (tE (eCall f_is_between [.ev (bi bIx [.pk 0, .ev (eC (.int 0))]), .ev (eC (.int 0)), .ev (bi bAdd [.ev (eC (.int 1000000000)), .ev (eC (.int 1))])])))))
  (sRet (eC (.bl false)))
  sPass)
  (sSeq (sIf (tOr (tNot (tE (bi bIsT [.ev (bi bIx [.pk 0, .ev (eC (.int 2))]), .ev (eC (.cls .str))]))) (tB (bi bIn [.ev (eC (.str [10])), .ev (bi bIx [.pk 0, .ev (eC (.int 2))])])))
  (sRet (eC (.bl false)))
  sPass)
  (sRetO (eCallO f_are_numbered [.ev (bi bIx [.pk 0, .ev (eC (.int 1))]), .ev (bi bAdd [.ev (bi bIx [.pk 0, .ev (eC (.int 0))]), .ev (eC (.int 1))]), .ev (eC (.int 1000000000))]))))
def f_is_taking_end : List Slot → FOut := runFn 1 b_is_taking_end
theorem sc_is_taking_end : FnScope ["value"] ["value"] (defScope s_is_taking_end) := ⟨rfl, rfl, rfl, by decide +kernel, rfl, by decide +kernel, by decide +kernel⟩
theorem ok_is_taking_end {f : Addr} {fd : FuncData} (F : Fun c.K "is_taking_end" "is_taking_end" s_is_taking_end f fd) (T : Txt mg) (d_is_between : DefF P w c mg base "is_between" 3 f_is_between 2) (d_are_numbered : DefF P w c mg base "are_numbered" 3 f_are_numbered 3) : FnG P w c.K mg base 4 f fd ["value"] (spF c 1 f_is_taking_end) :=
  have S := sc_is_taking_end
  fn_vi F S rfl rfl fun cdv A outer s H E hr => (simB_cons (sim_if (simT_W (simW_or (simT_not (sim_tE rfl (sim_callB call_isiZ ru_isT.e T.n_isinstance (SimPs.cons (sim_pk 0) (SimPs.cons (sim_ev (sim_cls (t := .tuple) T.n_tuple (by decide +kernel))) SimPs.nil rfl) rfl) (by decide +kernel)))) (simW_or (sim_tcmp (op_neD (un_ok hr)) ru_ne.e (sim_ev (sim_callB call_len ru_len.e T.n_len (SimPs.cons (sim_pk 0) SimPs.nil rfl) (by decide +kernel))) (sim_ev sim_int) rfl) (simW_or1 (simT_not (sim_tE rfl (sim_call (d_is_between.at hr (by decide)) (SimAs.cons (sim_argE (sim_ix ix_seq ru_ix.e (sim_pk 0) (sim_ev sim_int))) (SimAs.cons (sim_argE sim_int) (SimAs.cons (sim_argE (sim_bin op_add4 ru_add (sim_ev (T.g_MOST_FRAME.elim fun t h => sim_gl (w := .int 1000000000) (v := .int 1000000000) h ⟨t, rfl⟩ (fun _ _ => rfl))) (sim_ev sim_int))) SimAs.nil))))))))))
  (simB_one (sim_ret sim_bl))
  simB_nil)
  (simB_cons (sim_if (simT_W (simW_or (simT_not (sim_tE rfl (sim_callB call_isiZ ru_isT.e T.n_isinstance (SimPs.cons (sim_ev (sim_ix ix_seq ru_ix.e (sim_pk 0) (sim_ev sim_int))) (SimPs.cons (sim_ev (sim_cls (t := .str) T.n_str (by decide +kernel))) SimPs.nil rfl) rfl) (by decide +kernel)))) (simW_or1 (sim_tcmp op_in2 ru_in.e (sim_ev (T.g_END.elim fun t h => sim_gl (w := .str [10]) (v := .str (mkS [10])) h ⟨t, rfl⟩ (fun _ _ => rfl))) (sim_ev (sim_ix ix_seq ru_ix.e (sim_pk 0) (sim_ev sim_int))) rfl))))
  (simB_one (sim_ret sim_bl))
  simB_nil)
  (simB_one (sim_retO (sim_callO (d_are_numbered.at hr (by decide)) (SimAs.cons (sim_argE (sim_ix ix_seq ru_ix.e (sim_pk 0) (sim_ev sim_int))) (SimAs.cons (sim_argE (sim_bin op_add4 ru_add (sim_ev (sim_ix ix_seq ru_ix.e (sim_pk 0) (sim_ev sim_int))) (sim_ev sim_int))) (SimAs.cons (sim_argE (T.g_MOST_FRAME.elim fun t h => sim_gl (w := .int 1000000000) (v := .int 1000000000) h ⟨t, rfl⟩ (fun _ _ => rfl))) SimAs.nil))))))))

abbrev s_line_taken : Stmt := top 28
def b_line_taken : M VI.Flow := (sSeq (sAsgO 3 (eCallO f_pair_of_line [.ev (eVar 2)]))
  (sSeq (sIf (tOr (tB (bi bIs [.pk 3, .ev (eC .non)])) (tOr (tB (bi bLt [.ev (bi bIx [.pk 3, .ev (eC (.int 0))]), .pk 0])) (tB (bi bIn [.ev (bi bIx [.pk 3, .ev (eC (.int 0))]), .pk 1]))))
  (sRet (eTup [(eVar 0), (eVar 1), (eLst [])]))
  sPass)
  (sSeq stuck
  (sSeq (sWhile (tB (bi bIn [.pk 0, .pk 4]))
  (sSeq (sApp 5 (bi bIx [.pk 4, .pk 0]))
  (sSeq stuck
  (sAug 0 bAddF (eC (.int 1))))) 1000)
  (sRet (eTup [(eVar 0), (eVar 4), (eVar 5)]))))))
def f_line_taken : List Slot → FOut := runFn 8 b_line_taken
theorem sc_line_taken : FnScope ["wanted", "held", "line", "pair", "more", "told", "number", "payload"] ["wanted", "held", "line"] (defScope s_line_taken) := ⟨rfl, rfl, rfl, by decide +kernel, rfl, by decide +kernel, by decide +kernel⟩
theorem ok_line_taken {f : Addr} {fd : FuncData} (F : Fun c.K "line_taken" "line_taken" s_line_taken f fd) (T : Txt mg) (d_pair_of_line : DefF P w c mg base "pair_of_line" 1 f_pair_of_line 3) : FnG P w c.K mg base 4 f fd ["wanted", "held", "line"] (spF c 3 f_line_taken) :=
  have S := sc_line_taken
  fn_vi F S rfl rfl fun cdv A outer s H E hr => (simB_cons (sim_asgO (sim_callO (d_pair_of_line.at hr (by decide)) (SimAs.cons (sim_argE (sim_var 2)) SimAs.nil)) S.nd)
  (simB_cons (sim_if (simT_W (simW_or (sim_tcmp op_is2 ru_is.e (sim_pk 3) (sim_ev sim_non) rfl) (simW_or (sim_tcmp op_lt2 ru_lt.e (sim_ev (sim_ix ix_seq ru_ix.e (sim_pk 3) (sim_ev sim_int))) (sim_pk 0) rfl) (simW_or1 (sim_tcmp op_in2 ru_in.e (sim_ev (sim_ix ix_seq ru_ix.e (sim_pk 3) (sim_ev sim_int))) (sim_pk 1) rfl)))))
  (simB_one (sim_ret (sim_tup (simL_cons (sim_var 0) (simL_cons (sim_var 1) (simL_cons (sim_lst simL_nil).toE simL_nil))) rfl)))
  simB_nil)
  (simB_cons sim_stuck
  (simB_cons (sim_while (passes_of rfl) (sim_tcmp op_in2 ru_in.e (sim_pk 0) (sim_pk 4) rfl)
  (simB_cons (sim_app 5 (sim_ix ix_seq ru_ix.e (sim_pk 4) (sim_pk 0)))
  (simB_cons sim_stuck
  (simB_one (sim_aug sim_int iop_add2 ru_addF S.nd)))))
  (simB_one (sim_ret (sim_tup (simL_cons (sim_var 0) (simL_cons (sim_var 4) (simL_cons (sim_var 5) simL_nil))) rfl)))))))

abbrev s_signs_taken : Stmt := top 29
def b_signs_taken : M VI.Flow := (sSeq (sUnp (.many [(.one 2), (.one 3), (.one 4)]) (eVar 0))
  (sSeq stuck
  (sSeq stuck
  (sSeq (sFor (iEv (bi bSlH [.pk 9, .ev (bi bNeg [.ev (eC (.int 1))])])) (asg (.one 10))
  (sSeq (sUnp (.many [(.one 2), (.one 5), (.one 11)]) (eCall f_line_taken [.ev (eVar 2), .ev (eVar 5), .ev (eVar 10)]))
  (sExt 6 (eVar 11))))
  stuck))))
def f_signs_taken : List Slot → FOut := runFn 12 b_signs_taken
theorem sc_signs_taken : FnScope ["end", "signs", "wanted", "pairs", "rest", "held", "found", "number", "payload", "lines", "line", "told"] ["end", "signs"] (defScope s_signs_taken) := ⟨rfl, rfl, rfl, by decide +kernel, rfl, by decide +kernel, by decide +kernel⟩
theorem ok_signs_taken {f : Addr} {fd : FuncData} (F : Fun c.K "signs_taken" "signs_taken" s_signs_taken f fd) (T : Txt mg) (d_line_taken : DefF P w c mg base "line_taken" 3 f_line_taken 4) : FnG P w c.K mg base 5 f fd ["end", "signs"] (spF c 2 f_signs_taken) :=
  have S := sc_signs_taken
  fn_vi F S rfl rfl fun cdv A outer s H E hr => (simB_cons (sim_unp (sim_var 0) (simG_tup rfl rfl (simGs_cons (simG_one S.nd) (simGs_cons (simG_one S.nd) (simGs_cons (simG_one S.nd) simGs_nil)))))
  (simB_cons sim_stuck
  (simB_cons sim_stuck
  (simB_cons (sim_for (passes_of rfl) rfl (simI_ev (sim_K (sim_slH rfl (sim_pk 9) (sim_ev (sim_un un_neg ru_neg.e (sim_ev sim_int)))))) (simG_one S.nd)
  (simB_cons (sim_unp (sim_call (d_line_taken.at hr (by decide)) (SimAs.cons (sim_argE (sim_var 2)) (SimAs.cons (sim_argE (sim_var 5)) (SimAs.cons (sim_argE (sim_var 10)) SimAs.nil)))) (simG_tup rfl rfl (simGs_cons (simG_one S.nd) (simGs_cons (simG_one S.nd) (simGs_cons (simG_one S.nd) simGs_nil)))))
  (simB_one (sim_ext 6 (sim_var 11)))))
  (simB_one sim_stuck)))))

abbrev s_take : Stmt := top 40
def b_take : M VI.Flow := (sSeq (sIf (tNot (tE (eCall f_is_taking_end [.ev (eVar 0)])))
  (sRaise 1 (eC .non))
  sPass)
  (sSeq (sIf (tNot (tE (bi bIsT [.pk 1, .ev (eC (.cls .str))])))
  (sRaise 2 (eC .non))
  sPass)
  (sSeq (sUnp (.many [(.one 2), (.one 3)]) (eCall f_signs_taken [.ev (eVar 0), .ev (eVar 1)]))
  (sRet (eTup [(eVar 2), (bi bTuple [.pk 3])])))))
def f_take : List Slot → FOut := runFn 4 b_take
theorem sc_take : FnScope ["end", "signs", "behind", "found"] ["end", "signs"] (defScope s_take) := ⟨rfl, rfl, rfl, by decide +kernel, rfl, by decide +kernel, by decide +kernel⟩
theorem ok_take {f : Addr} {fd : FuncData} (F : Fun c.K "take" "take" s_take f fd) (T : Txt mg) (d_is_taking_end : DefF P w c mg base "is_taking_end" 1 f_is_taking_end 4) (d_signs_taken : DefF P w c mg base "signs_taken" 2 f_signs_taken 5)(e_InvalidOperation : ExMK c mg "InvalidOperation" 1) (e_ParseError : ExMK c mg "ParseError" 2) : FnG P w c.K mg base 6 f fd ["end", "signs"] (spF c 2 f_take) :=
  have S := sc_take
  fn_vi F S rfl rfl fun cdv A outer s H E hr => (simB_cons (sim_if (simT_not (sim_tE rfl (sim_call (d_is_taking_end.at hr (by decide)) (SimAs.cons (sim_argE (sim_var 0)) SimAs.nil))))
  (simB_one (sim_raiseM e_InvalidOperation.at))
  simB_nil)
  (simB_cons (sim_if (simT_not (sim_tE rfl (sim_callB call_isiZ ru_isT.e T.n_isinstance (SimPs.cons (sim_pk 1) (SimPs.cons (sim_ev (sim_cls (t := .str) T.n_str (by decide +kernel))) SimPs.nil rfl) rfl) (by decide +kernel))))
  (simB_one (sim_raiseM e_ParseError.at))
  simB_nil)
  (simB_cons (sim_unp (sim_call (d_signs_taken.at hr (by decide)) (SimAs.cons (sim_argE (sim_var 0)) (SimAs.cons (sim_argE (sim_var 1)) SimAs.nil))) (simG_tup rfl rfl (simGs_cons (simG_one S.nd) (simGs_cons (simG_one S.nd) simGs_nil))))
  (simB_one (sim_ret (sim_tup (simL_cons (sim_var 2) (simL_cons (sim_callTy call_tuple_of ru_tuple T.n_tuple (SimPs.cons (sim_pk 3) SimPs.nil rfl) (by decide +kernel)) simL_nil)) rfl))))))

abbrev s_is_payload : Stmt := top 32
def b_is_payload : M VI.Flow := (sRetO (eCallO f_is_payload_text [.ev (eVar 0)]))
def f_is_payload : List Slot → FOut := runFn 1 b_is_payload
theorem sc_is_payload : FnScope ["value"] ["value"] (defScope s_is_payload) := ⟨rfl, rfl, rfl, by decide +kernel, rfl, by decide +kernel, by decide +kernel⟩
theorem ok_is_payload {f : Addr} {fd : FuncData} (F : Fun c.K "is_payload" "is_payload" s_is_payload f fd) (T : Txt mg) (d_is_payload_text : DefF P w c mg base "is_payload_text" 1 f_is_payload_text 1) : FnG P w c.K mg base 2 f fd ["value"] (spF c 1 f_is_payload) :=
  have S := sc_is_payload
  fn_vi F S rfl rfl fun cdv A outer s H E hr => (simB_one (sim_retO (sim_callO (d_is_payload_text.at hr (by decide)) (SimAs.cons (sim_argE (sim_var 0)) SimAs.nil))))

abbrev s_is_taking : Stmt := top 39
def b_is_taking : M VI.Flow := (sRetO (eCallO f_is_taking_end [.ev (eVar 0)]))
def f_is_taking : List Slot → FOut := runFn 1 b_is_taking
theorem sc_is_taking : FnScope ["value"] ["value"] (defScope s_is_taking) := ⟨rfl, rfl, rfl, by decide +kernel, rfl, by decide +kernel, by decide +kernel⟩
theorem ok_is_taking {f : Addr} {fd : FuncData} (F : Fun c.K "is_taking" "is_taking" s_is_taking f fd) (T : Txt mg) (d_is_taking_end : DefF P w c mg base "is_taking_end" 1 f_is_taking_end 4) : FnG P w c.K mg base 5 f fd ["value"] (spF c 1 f_is_taking) :=
  have S := sc_is_taking
  fn_vi F S rfl rfl fun cdv A outer s H E hr => (simB_one (sim_retO (sim_callO (d_is_taking_end.at hr (by decide)) (SimAs.cons (sim_argE (sim_var 0)) SimAs.nil))))

abbrev s_is_giving : Stmt := top 35
def b_is_giving : M VI.Flow := (sRetO (eCallO f_is_giving_end [.ev (eVar 0)]))
def f_is_giving : List Slot → FOut := runFn 1 b_is_giving
theorem sc_is_giving : FnScope ["value"] ["value"] (defScope s_is_giving) := ⟨rfl, rfl, rfl, by decide +kernel, rfl, by decide +kernel, by decide +kernel⟩
theorem ok_is_giving {f : Addr} {fd : FuncData} (F : Fun c.K "is_giving" "is_giving" s_is_giving f fd) (T : Txt mg) (d_is_giving_end : DefF P w c mg base "is_giving_end" 1 f_is_giving_end 4) : FnG P w c.K mg base 5 f fd ["value"] (spF c 1 f_is_giving) :=
  have S := sc_is_giving
  fn_vi F S rfl rfl fun cdv A outer s H E hr => (simB_one (sim_retO (sim_callO (d_is_giving_end.at hr (by decide)) (SimAs.cons (sim_argE (sim_var 0)) SimAs.nil))))

abbrev s__law_right : Stmt := top 46
def b__law_right : M VI.Flow := (sSeq (sAsg 1 (eCall f__law_scoop [.lend 0, .ev (eLst [(eC .non), (bi bNeg [.ev (eC (.int 1))]), (eC (.bl true)), (eC (.str [48])), (eTup [(eC (.int 0))]), (eLst []), (eC (.dct [] [])), (bi bAdd [.ev (bi bPow [.ev (eC (.int 10)), .ev (eC (.int 9))]), .ev (eC (.int 1))]), (bi bPow [.ev (eC (.int 10)), .ev (eC (.int 30))])])]))
  (sSeq (sAsg 2 (eCall f__law_scoop [.lend 0, .ev (eLst [(eC .non), (eC (.int 0)), (eC (.str [97, 10, 98])), (eC (.str [9])), (bi bMulB [.ev (eC (.str [120])), .ev (eC (.int 301))]), (eLst [(eC (.str [97]))]), (eTup []), (eC (.dct [] [])), (eC (.str [10])), (eC (.bl true))])]))
  (sSeq (sAsgO 3 (eLst [(eC (.str [])), (eC (.str [48, 58, 49, 58, 97])), (eC (.str [48, 58, 49, 58, 97, 35, 49])), (eC (.str [48, 48, 58, 48, 58, 35, 48])), (eC (.str [48, 58, 50, 58, 97, 35, 49, 54, 49, 57])), (eC (.str [48, 58, 50, 58, 97, 98, 35, 49, 54, 49, 57, 10])), (eC (.str [48, 58, 50, 58, 97, 98, 35, 48, 49, 54, 49, 57])), (eC .non), (eC (.int 0)), (eLst [])]))
  (sSeq (sAsg 3 (bi bAdd [.pk 3, .ev (eLst [(eC (.str [49, 48, 48, 48, 48, 48, 48, 48, 48, 49, 58, 48, 58, 35, 48])), (eC (.str [48, 58, 50, 58, 97, 98, 35, 49, 54, 49, 57, 32])), (eC (.str [32, 48, 58, 50, 58, 97, 98, 35, 49, 54, 49, 57])), (eC (.str [43, 48, 58, 50, 58, 97, 98, 35, 49, 54, 49, 57])), (eC (.str [48, 58, 48, 50, 58, 97, 98, 35, 49, 54, 49, 57]))])]))
  (sSeq (sAsg 3 (eCall f__law_scoop [.lend 0, .ev (eVar 3)]))
  (sSeq (sAsgO 4 (eLst [(eC .non), (eC (.int 0)), (eTup []), (eTup [(eC (.int 0))]), (eLst [(eC (.int 0)), (eTup [])]), (eTup [(eC (.int 0)), (eLst [])]), (eTup [(bi bNeg [.ev (eC (.int 1))]), (eTup [])]), (eTup [(eC (.bl true)), (eTup [])]), (eTup [(eC (.int 1)), (eTup [(eTup [(eC (.int 1)), (eC (.str [97]))])])]), (eTup [(eC (.int 1)), (eTup [(eTup [(eC (.int 0)), (eC (.int 1))])])])]))
  (sSeq (sAsg 4 (bi bAdd [.pk 4, .ev (eLst [(eTup [(eC (.int 2)), (eTup [(eTup [(eC (.int 1)), (eC (.str [97]))]), (eTup [(eC (.int 0)), (eC (.str [98]))])])]), (eTup [(eC (.int 1)), (eTup [(eTup [(eC (.int 0)), (eC (.str [97]))]), (eTup [(eC (.int 0)), (eC (.str [97]))])])]), (eTup [(bi bAdd [.ev (bi bPow [.ev (eC (.int 10)), .ev (eC (.int 9))]), .ev (eC (.int 1))]), (eTup [])]), (eTup [(eC (.int 1)), (eTup [(eTup [(eC (.int 0))])])])])]))
  (sSeq (sAsg 4 (eCall f__law_scoop [.lend 0, .ev (bi bAdd [.pk 4, .ev (eLst [(eTup [(eC (.int 1)), (eTup [(eTup [(eC (.bl true)), (eC (.str [97]))])])]), (eC (.dct [] [])), (eTup [(eC (.int 0)), (eTup []), (eC (.str []))])])])]))
  (sSeq (sAsgO 5 (eLst [(eC .non), (eC (.int 0)), (eTup []), (eTup [(eC (.int 0)), (eTup [])]), (eLst [(eC (.int 0)), (eTup []), (eC (.str []))]), (eTup [(eC (.int 0)), (eLst []), (eC (.str []))]), (eTup [(eC (.int 0)), (eTup []), (eC (.str [97, 10]))]), (eTup [(bi bNeg [.ev (eC (.int 1))]), (eTup []), (eC (.str []))]), (eTup [(eC (.int 0)), (eTup [(eTup [(eC (.int 0)), (eC (.str [97]))])]), (eC (.str []))])]))
  (sSeq (sAsg 5 (bi bAdd [.pk 5, .ev (eLst [(eTup [(eC (.int 0)), (eTup []), (eC .non)]), (eTup [(eC (.int 0)), (eTup [(eTup [(eC (.int 1)), (eC (.str [10]))])]), (eC (.str []))]), (eTup [(eC (.bl true)), (eTup []), (eC (.str []))]), (eTup [(eC (.int 0)), (eTup [(eTup [(eC (.int 1)), (eC (.str [97])), (eC (.int 0))])]), (eC (.str []))]), (eC (.dct [] []))])]))
  (sSeq (sAsg 5 (bi bAdd [.pk 5, .ev (eLst [(eTup [(eC (.int 0)), (eTup [(eTup [(bi bAdd [.ev (bi bPow [.ev (eC (.int 10)), .ev (eC (.int 9))]), .ev (eC (.int 1))]), (eC (.str [97]))])]), (eC (.str []))]), (eTup [(eC (.int 0)), (eTup [(eTup [(eC (.int 2)), (eC (.str [97]))]), (eTup [(eC (.int 1)), (eC (.str [98]))])]), (eC (.str []))])])]))
  (sSeq (sAsg 5 (eCall f__law_scoop [.lend 0, .ev (eVar 5)]))
  (sSeq (sAsg 6 (eCall f__law_scoop [.lend 0, .ev (eLst [(eC .non), (eC (.int 0)), (eLst []), (eTup [(eC (.str [97]))]), (eC (.dct [] []))])]))
  (sSeq (sAsg 7 (eTup [(eC (.int 2)), (eTup [(eTup [(eC (.int 1)), (eC (.str [97]))])])]))
  (sSeq (sAsgO 8 (eLst [(eMetS told subT hs_met (eCall f_frame_of [.ev (eVar 1), .ev (eVar 2)]))]))
  (sSeq (sApp 8 (eMetS told subT hs_met (eCall f_frame_of [.ev (eC (.int 3)), .ev (eVar 2)])))
  (sSeq (sApp 8 (eMetS told subT hs_met (eCall f_read_line [.ev (eVar 3)])))
  (sSeq (sApp 8 (eMetS told subT hs_met (eCall f_give [.ev (eVar 4), .ev (eVar 2)])))
  (sSeq (sApp 8 (eMetS told subT hs_met (eCall f_give [.ev (eVar 7), .ev (eVar 2)])))
  (sSeq (sApp 8 (eMetS told subT hs_met (eCall f_waiting_frames [.ev (eVar 4)])))
  (sSeq (sApp 8 (eMetS told subT hs_met (eCall f_told [.ev (eVar 4), .ev (eVar 1)])))
  (sSeq (sApp 8 (eMetS told subT hs_met (eCall f_told [.ev (eVar 7), .ev (eVar 1)])))
  (sSeq (sApp 8 (eMetS told subT hs_met (eCall f_take [.ev (eVar 5), .ev (eVar 6)])))
  (sSeq (sApp 8 (eMetS told subT hs_met (eCall f_take [.ev (eTup [(eC (.int 0)), (eTup []), (eC (.str []))]), .ev (eVar 6)])))
  (sSeq (sAsg 9 (bi bAdd [.ev (eLst [(eTup [(eC (.str [110, 117, 109, 98, 101, 114])), (bi bRepr [.pk 1])]), (eC (.str [111, 112, 101, 114, 97, 116, 105, 111, 110])), (eC (.str [112, 97, 114, 115, 101]))]), .ev (bi bMulB [.ev (eLst [(eC (.str [111, 112, 101, 114, 97, 116, 105, 111, 110]))]), .ev (eC (.int 4))])]))
  (sSeq (sIf (tB (bi bNe [.pk 8, .ev (bi bAdd [.pk 9, .ev (eLst [(eTup [(eC (.str [110, 117, 109, 98, 101, 114])), (bi bRepr [.pk 1])]), (eC (.str [111, 112, 101, 114, 97, 116, 105, 111, 110])), (eC (.str [112, 97, 114, 115, 101]))])])]))
  (sRet (eC (.bl false)))
  sPass)
  (sSeq (sAsgO 10 (eLst [(eCall f_is_payload [.ev (eVar 2)]), (eCall f_is_giving [.ev (eVar 4)]), (eCall f_is_taking [.ev (eVar 5)]), (eCall f_is_payload [.ev (eC (.str []))]), (eCall f_is_payload [.ev (bi bMulB [.ev (eC (.str [120])), .ev (eC (.int 300))])])]))
  (sSeq (sIf (tB (bi bNe [.ev (bi bAdd [.pk 10, .ev (eLst [(eCall f_is_giving [.ev (eVar 7)]), (eCall f_is_taking [.ev (eTup [(eC (.int 1)), (eTup [(eTup [(eC (.int 3)), (eC (.str []))])]), (eC (.str [48, 58]))])])])]), .ev (eLst [(eC (.bl false)), (eC (.bl false)), (eC (.bl false)), (eC (.bl true)), (eC (.bl true)), (eC (.bl true)), (eC (.bl true))])]))
  (sRet (eC (.bl false)))
  sPass)
  (sSeq (sFor (iEv (eLst [(eVar 1), (eVar 3), (eVar 6), (eC (.dct [] [])), (eLst [(eLst [])]), (eTup [(eTup []), (eTup [])]), (eTup [(eC (.dct [] [])), (eTup [])]), (eTup [(eC (.int 0)), (eC (.dct [] []))]), (eTup [(eC (.int 0)), (eC (.dct [] [])), (eC (.str []))]), (eTup [(eC (.dct [] [])), (eTup []), (eC (.str []))])])) (asg (.one 11))
  (sSeq (sIf (tOr (tB (bi bIsNot [.ev (eCall f_is_giving [.ev (eVar 11)]), .ev (eC (.bl false))])) (tB (bi bIsNot [.ev (eCall f_is_taking [.ev (eVar 11)]), .ev (eC (.bl false))])))
  (sRet (eC (.bl false)))
  sPass)
  (sIf (tAnd (tNot (tE (bi bIsT [.pk 11, .ev (eC (.cls .str))]))) (tB (bi bIsNot [.ev (eCall f_is_payload [.ev (eVar 11)]), .ev (eC (.bl false))])))
  (sRet (eC (.bl false)))
  sPass)))
  (sRet (eC (.bl true))))))))))))))))))))))))))))))))
def f__law_right : List Slot → FOut := runFn 12 b__law_right
theorem sc__law_right : FnScope ["vat", "number", "payload", "line", "giving", "taking", "signs", "good", "found", "due", "judged", "value"] ["vat"] (defScope s__law_right) := ⟨rfl, rfl, rfl, by decide +kernel, rfl, by decide +kernel, by decide +kernel⟩
theorem ok__law_right {f cc PP : Addr} {oc : Value} {od an : Option Addr} {kV doc pm ct : Value} {osl : Array (Option Value)} (lk : c.K.lookup f = some ⟨oc, od, .func (PySem.W.fnOf "_law_right" "_law_right" (defArgs s__law_right) (defBody s__law_right) (defScope s__law_right) .none kV doc pm an (.ref cc) ct), osl⟩) (hcd : PySem.W.codeIn c.K (.ref cc) "_law_right" = true) (T : Txt mg) (M : MetF c mg) (TB : LamX.TabB base mg cc PP)
    (hmT : (PP, ("_law_right" : Str) ++ ".<locals>." ++ "<lambda>") ∈ c.T) (hu : ∀ p ∈ c.T, p.1 = PP → p.2 = ("_law_right" : Str) ++ ".<locals>." ++ "<lambda>") (d__law_scoop : DefF P w c mg base "_law_scoop" 2 f__law_scoop 2) (d_frame_of : DefF P w c mg base "frame_of" 2 f_frame_of 3) (d_read_line : DefF P w c mg base "read_line" 1 f_read_line 4) (d_give : DefF P w c mg base "give" 2 f_give 6) (d_waiting_frames : DefF P w c mg base "waiting_frames" 1 f_waiting_frames 6) (d_told : DefF P w c mg base "told" 2 f_told 6) (d_take : DefF P w c mg base "take" 2 f_take 6) (d_is_payload : DefF P w c mg base "is_payload" 1 f_is_payload 2) (d_is_taking : DefF P w c mg base "is_taking" 1 f_is_taking 5) (d_is_giving : DefF P w c mg base "is_giving" 1 f_is_giving 5) : FnG P w c.K mg base 9 f (PySem.W.fnOf "_law_right" "_law_right" (defArgs s__law_right) (defBody s__law_right) (defScope s__law_right) .none kV doc pm an (.ref cc) ct) ["vat"] (spF c 1 f__law_right) :=
  have S := sc__law_right
  fn_viC lk hcd S rfl rfl fun A outer s H E hr => (simB_cons (sim_asg (sim_call (d__law_scoop.at hr (by decide)) (SimAs.cons (sim_argL 0) (SimAs.cons (sim_argE (sim_lst (simL_cons sim_non (simL_cons (sim_un un_neg ru_neg.e (sim_ev sim_int)) (simL_cons sim_bl (simL_cons (sim_str rfl) (simL_cons (sim_tup (simL_cons sim_int simL_nil) rfl) (simL_cons (sim_lst simL_nil).toE (simL_cons sim_dict0.toE (simL_cons (sim_bin op_add4 ru_add (sim_ev (sim_bin op_powB ru_pow.e (sim_ev sim_int) (sim_ev sim_int))) (sim_ev sim_int)) (simL_cons (sim_bin op_powB ru_pow.e (sim_ev sim_int) (sim_ev sim_int)) simL_nil)))))))))).toE) SimAs.nil))) S.nd)
  (simB_cons (sim_asg (sim_call (d__law_scoop.at hr (by decide)) (SimAs.cons (sim_argL 0) (SimAs.cons (sim_argE (sim_lst (simL_cons sim_non (simL_cons sim_int (simL_cons (sim_str rfl) (simL_cons (sim_str rfl) (simL_cons (sim_bin op_mulB ru_mulB (sim_ev (sim_str rfl)) (sim_ev sim_int)) (simL_cons (sim_lst (simL_cons (sim_str rfl) simL_nil)).toE (simL_cons (sim_tup simL_nil rfl) (simL_cons sim_dict0.toE (simL_cons (sim_str rfl) (simL_cons sim_bl simL_nil))))))))))).toE) SimAs.nil))) S.nd)
  (simB_cons (sim_asgO (sim_lst (simL_cons (sim_str rfl) (simL_cons (sim_str rfl) (simL_cons (sim_str rfl) (simL_cons (sim_str rfl) (simL_cons (sim_str rfl) (simL_cons (sim_str rfl) (simL_cons (sim_str rfl) (simL_cons sim_non (simL_cons sim_int (simL_cons (sim_lst simL_nil).toE simL_nil))))))))))) S.nd)
  (simB_cons (sim_asg (sim_bin op_add4 ru_add (sim_pk 3) (sim_ev (sim_lst (simL_cons (sim_str rfl) (simL_cons (sim_str rfl) (simL_cons (sim_str rfl) (simL_cons (sim_str rfl) (simL_cons (sim_str rfl) simL_nil)))))).toE)) S.nd)
  (simB_cons (sim_asg (sim_call (d__law_scoop.at hr (by decide)) (SimAs.cons (sim_argL 0) (SimAs.cons (sim_argE (sim_var 3)) SimAs.nil))) S.nd)
  (simB_cons (sim_asgO (sim_lst (simL_cons sim_non (simL_cons sim_int (simL_cons (sim_tup simL_nil rfl) (simL_cons (sim_tup (simL_cons sim_int simL_nil) rfl) (simL_cons (sim_lst (simL_cons sim_int (simL_cons (sim_tup simL_nil rfl) simL_nil))).toE (simL_cons (sim_tup (simL_cons sim_int (simL_cons (sim_lst simL_nil).toE simL_nil)) rfl) (simL_cons (sim_tup (simL_cons (sim_un un_neg ru_neg.e (sim_ev sim_int)) (simL_cons (sim_tup simL_nil rfl) simL_nil)) rfl) (simL_cons (sim_tup (simL_cons sim_bl (simL_cons (sim_tup simL_nil rfl) simL_nil)) rfl) (simL_cons (sim_tup (simL_cons sim_int (simL_cons (sim_tup (simL_cons (sim_tup (simL_cons sim_int (simL_cons (sim_str rfl) simL_nil)) rfl) simL_nil) rfl) simL_nil)) rfl) (simL_cons (sim_tup (simL_cons sim_int (simL_cons (sim_tup (simL_cons (sim_tup (simL_cons sim_int (simL_cons sim_int simL_nil)) rfl) simL_nil) rfl) simL_nil)) rfl) simL_nil))))))))))) S.nd)
  (simB_cons (sim_asg (sim_bin op_add4 ru_add (sim_pk 4) (sim_ev (sim_lst (simL_cons (sim_tup (simL_cons sim_int (simL_cons (sim_tup (simL_cons (sim_tup (simL_cons sim_int (simL_cons (sim_str rfl) simL_nil)) rfl) (simL_cons (sim_tup (simL_cons sim_int (simL_cons (sim_str rfl) simL_nil)) rfl) simL_nil)) rfl) simL_nil)) rfl) (simL_cons (sim_tup (simL_cons sim_int (simL_cons (sim_tup (simL_cons (sim_tup (simL_cons sim_int (simL_cons (sim_str rfl) simL_nil)) rfl) (simL_cons (sim_tup (simL_cons sim_int (simL_cons (sim_str rfl) simL_nil)) rfl) simL_nil)) rfl) simL_nil)) rfl) (simL_cons (sim_tup (simL_cons (sim_bin op_add4 ru_add (sim_ev (sim_bin op_powB ru_pow.e (sim_ev sim_int) (sim_ev sim_int))) (sim_ev sim_int)) (simL_cons (sim_tup simL_nil rfl) simL_nil)) rfl) (simL_cons (sim_tup (simL_cons sim_int (simL_cons (sim_tup (simL_cons (sim_tup (simL_cons sim_int simL_nil) rfl) simL_nil) rfl) simL_nil)) rfl) simL_nil))))).toE)) S.nd)
  (simB_cons (sim_asg (sim_call (d__law_scoop.at hr (by decide)) (SimAs.cons (sim_argL 0) (SimAs.cons (sim_argE (sim_bin op_add4 ru_add (sim_pk 4) (sim_ev (sim_lst (simL_cons (sim_tup (simL_cons sim_int (simL_cons (sim_tup (simL_cons (sim_tup (simL_cons sim_bl (simL_cons (sim_str rfl) simL_nil)) rfl) simL_nil) rfl) simL_nil)) rfl) (simL_cons sim_dict0.toE (simL_cons (sim_tup (simL_cons sim_int (simL_cons (sim_tup simL_nil rfl) (simL_cons (sim_str rfl) simL_nil))) rfl) simL_nil)))).toE))) SimAs.nil))) S.nd)
  (simB_cons (sim_asgO (sim_lst (simL_cons sim_non (simL_cons sim_int (simL_cons (sim_tup simL_nil rfl) (simL_cons (sim_tup (simL_cons sim_int (simL_cons (sim_tup simL_nil rfl) simL_nil)) rfl) (simL_cons (sim_lst (simL_cons sim_int (simL_cons (sim_tup simL_nil rfl) (simL_cons (sim_str rfl) simL_nil)))).toE (simL_cons (sim_tup (simL_cons sim_int (simL_cons (sim_lst simL_nil).toE (simL_cons (sim_str rfl) simL_nil))) rfl) (simL_cons (sim_tup (simL_cons sim_int (simL_cons (sim_tup simL_nil rfl) (simL_cons (sim_str rfl) simL_nil))) rfl) (simL_cons (sim_tup (simL_cons (sim_un un_neg ru_neg.e (sim_ev sim_int)) (simL_cons (sim_tup simL_nil rfl) (simL_cons (sim_str rfl) simL_nil))) rfl) (simL_cons (sim_tup (simL_cons sim_int (simL_cons (sim_tup (simL_cons (sim_tup (simL_cons sim_int (simL_cons (sim_str rfl) simL_nil)) rfl) simL_nil) rfl) (simL_cons (sim_str rfl) simL_nil))) rfl) simL_nil)))))))))) S.nd)
  (simB_cons (sim_asg (sim_bin op_add4 ru_add (sim_pk 5) (sim_ev (sim_lst (simL_cons (sim_tup (simL_cons sim_int (simL_cons (sim_tup simL_nil rfl) (simL_cons sim_non simL_nil))) rfl) (simL_cons (sim_tup (simL_cons sim_int (simL_cons (sim_tup (simL_cons (sim_tup (simL_cons sim_int (simL_cons (sim_str rfl) simL_nil)) rfl) simL_nil) rfl) (simL_cons (sim_str rfl) simL_nil))) rfl) (simL_cons (sim_tup (simL_cons sim_bl (simL_cons (sim_tup simL_nil rfl) (simL_cons (sim_str rfl) simL_nil))) rfl) (simL_cons (sim_tup (simL_cons sim_int (simL_cons (sim_tup (simL_cons (sim_tup (simL_cons sim_int (simL_cons (sim_str rfl) (simL_cons sim_int simL_nil))) rfl) simL_nil) rfl) (simL_cons (sim_str rfl) simL_nil))) rfl) (simL_cons sim_dict0.toE simL_nil)))))).toE)) S.nd)
  (simB_cons (sim_asg (sim_bin op_add4 ru_add (sim_pk 5) (sim_ev (sim_lst (simL_cons (sim_tup (simL_cons sim_int (simL_cons (sim_tup (simL_cons (sim_tup (simL_cons (sim_bin op_add4 ru_add (sim_ev (sim_bin op_powB ru_pow.e (sim_ev sim_int) (sim_ev sim_int))) (sim_ev sim_int)) (simL_cons (sim_str rfl) simL_nil)) rfl) simL_nil) rfl) (simL_cons (sim_str rfl) simL_nil))) rfl) (simL_cons (sim_tup (simL_cons sim_int (simL_cons (sim_tup (simL_cons (sim_tup (simL_cons sim_int (simL_cons (sim_str rfl) simL_nil)) rfl) (simL_cons (sim_tup (simL_cons sim_int (simL_cons (sim_str rfl) simL_nil)) rfl) simL_nil)) rfl) (simL_cons (sim_str rfl) simL_nil))) rfl) simL_nil))).toE)) S.nd)
  (simB_cons (sim_asg (sim_call (d__law_scoop.at hr (by decide)) (SimAs.cons (sim_argL 0) (SimAs.cons (sim_argE (sim_var 5)) SimAs.nil))) S.nd)
  (simB_cons (sim_asg (sim_call (d__law_scoop.at hr (by decide)) (SimAs.cons (sim_argL 0) (SimAs.cons (sim_argE (sim_lst (simL_cons sim_non (simL_cons sim_int (simL_cons (sim_lst simL_nil).toE (simL_cons (sim_tup (simL_cons (sim_str rfl) simL_nil) rfl) (simL_cons sim_dict0.toE simL_nil)))))).toE) SimAs.nil))) S.nd)
  (simB_cons (sim_asg (sim_tup (simL_cons sim_int (simL_cons (sim_tup (simL_cons (sim_tup (simL_cons sim_int (simL_cons (sim_str rfl) simL_nil)) rfl) simL_nil) rfl) simL_nil)) rfl) S.nd)
  (simB_cons (sim_asgO (sim_lst (simL_cons (met rfl M TB rfl hmT hu hr (LamX.lamS_by rfl) (fun A outer s H E f c' hr => (sim_call (d_frame_of.at hr (by decide)) (SimAs.cons (sim_argE (sim_var 1)) (SimAs.cons (sim_argE (sim_var 2)) SimAs.nil)))) rfl (by intros; rfl)) simL_nil)) S.nd)
  (simB_cons (sim_app 8 (met rfl M TB rfl hmT hu hr (LamX.lamS_by rfl) (fun A outer s H E f c' hr => (sim_call (d_frame_of.at hr (by decide)) (SimAs.cons (sim_argE sim_int) (SimAs.cons (sim_argE (sim_var 2)) SimAs.nil)))) rfl (by intros; rfl)))
  (simB_cons (sim_app 8 (met rfl M TB rfl hmT hu hr (LamX.lamS_by rfl) (fun A outer s H E f c' hr => (sim_call (d_read_line.at hr (by decide)) (SimAs.cons (sim_argE (sim_var 3)) SimAs.nil))) rfl (by intros; rfl)))
  (simB_cons (sim_app 8 (met rfl M TB rfl hmT hu hr (LamX.lamS_by rfl) (fun A outer s H E f c' hr => (sim_call (d_give.at hr (by decide)) (SimAs.cons (sim_argE (sim_var 4)) (SimAs.cons (sim_argE (sim_var 2)) SimAs.nil)))) rfl (by intros; rfl)))
  (simB_cons (sim_app 8 (met rfl M TB rfl hmT hu hr (LamX.lamS_by rfl) (fun A outer s H E f c' hr => (sim_call (d_give.at hr (by decide)) (SimAs.cons (sim_argE (sim_var 7)) (SimAs.cons (sim_argE (sim_var 2)) SimAs.nil)))) rfl (by intros; rfl)))
  (simB_cons (sim_app 8 (met rfl M TB rfl hmT hu hr (LamX.lamS_by rfl) (fun A outer s H E f c' hr => (sim_call (d_waiting_frames.at hr (by decide)) (SimAs.cons (sim_argE (sim_var 4)) SimAs.nil))) rfl (by intros; rfl)))
  (simB_cons (sim_app 8 (met rfl M TB rfl hmT hu hr (LamX.lamS_by rfl) (fun A outer s H E f c' hr => (sim_call (d_told.at hr (by decide)) (SimAs.cons (sim_argE (sim_var 4)) (SimAs.cons (sim_argE (sim_var 1)) SimAs.nil)))) rfl (by intros; rfl)))
  (simB_cons (sim_app 8 (met rfl M TB rfl hmT hu hr (LamX.lamS_by rfl) (fun A outer s H E f c' hr => (sim_call (d_told.at hr (by decide)) (SimAs.cons (sim_argE (sim_var 7)) (SimAs.cons (sim_argE (sim_var 1)) SimAs.nil)))) rfl (by intros; rfl)))
  (simB_cons (sim_app 8 (met rfl M TB rfl hmT hu hr (LamX.lamS_by rfl) (fun A outer s H E f c' hr => (sim_call (d_take.at hr (by decide)) (SimAs.cons (sim_argE (sim_var 5)) (SimAs.cons (sim_argE (sim_var 6)) SimAs.nil)))) rfl (by intros; rfl)))
  (simB_cons (sim_app 8 (met rfl M TB rfl hmT hu hr (LamX.lamS_by rfl) (fun A outer s H E f c' hr => (sim_call (d_take.at hr (by decide)) (SimAs.cons (sim_argE (sim_tup (simL_cons sim_int (simL_cons (sim_tup simL_nil rfl) (simL_cons (sim_str rfl) simL_nil))) rfl)) (SimAs.cons (sim_argE (sim_var 6)) SimAs.nil)))) rfl (by intros; rfl)))
  (simB_cons (sim_asg (sim_bin op_add4 ru_add (sim_ev (sim_lst (simL_cons (sim_tup (simL_cons (sim_str rfl) (simL_cons (sim_callB (call_reprW (c := c) rfl hr.gd (un_ok hr)) ru_repr.e T.n_repr (SimPs.cons (sim_pk 1) SimPs.nil rfl) (by decide +kernel)) simL_nil)) rfl) (simL_cons (sim_str rfl) (simL_cons (sim_str rfl) simL_nil)))).toE) (sim_ev (sim_bin op_mulB ru_mulB (sim_ev (sim_lst (simL_cons (sim_str rfl) simL_nil)).toE) (sim_ev sim_int)))) S.nd)
  (simB_cons (sim_if (sim_tcmp (op_neD (un_ok hr)) ru_ne.e (sim_pk 8) (sim_ev (sim_bin op_add4 ru_add (sim_pk 9) (sim_ev (sim_lst (simL_cons (sim_tup (simL_cons (sim_str rfl) (simL_cons (sim_callB (call_reprW (c := c) rfl hr.gd (un_ok hr)) ru_repr.e T.n_repr (SimPs.cons (sim_pk 1) SimPs.nil rfl) (by decide +kernel)) simL_nil)) rfl) (simL_cons (sim_str rfl) (simL_cons (sim_str rfl) simL_nil)))).toE))) rfl)
  (simB_one (sim_ret sim_bl))
  simB_nil)
  (simB_cons (sim_asgO (sim_lst (simL_cons (sim_call (d_is_payload.at hr (by decide)) (SimAs.cons (sim_argE (sim_var 2)) SimAs.nil)) (simL_cons (sim_call (d_is_giving.at hr (by decide)) (SimAs.cons (sim_argE (sim_var 4)) SimAs.nil)) (simL_cons (sim_call (d_is_taking.at hr (by decide)) (SimAs.cons (sim_argE (sim_var 5)) SimAs.nil)) (simL_cons (sim_call (d_is_payload.at hr (by decide)) (SimAs.cons (sim_argE (sim_str rfl)) SimAs.nil)) (simL_cons (sim_call (d_is_payload.at hr (by decide)) (SimAs.cons (sim_argE (sim_bin op_mulB ru_mulB (sim_ev (sim_str rfl)) (sim_ev sim_int))) SimAs.nil)) simL_nil)))))) S.nd)
  (simB_cons (sim_if (sim_tcmp (op_neD (un_ok hr)) ru_ne.e (sim_ev (sim_bin op_add4 ru_add (sim_pk 10) (sim_ev (sim_lst (simL_cons (sim_call (d_is_giving.at hr (by decide)) (SimAs.cons (sim_argE (sim_var 7)) SimAs.nil)) (simL_cons (sim_call (d_is_taking.at hr (by decide)) (SimAs.cons (sim_argE (sim_tup (simL_cons sim_int (simL_cons (sim_tup (simL_cons (sim_tup (simL_cons sim_int (simL_cons (sim_str rfl) simL_nil)) rfl) simL_nil) rfl) (simL_cons (sim_str rfl) simL_nil))) rfl)) SimAs.nil)) simL_nil))).toE))) (sim_ev (sim_lst (simL_cons sim_bl (simL_cons sim_bl (simL_cons sim_bl (simL_cons sim_bl (simL_cons sim_bl (simL_cons sim_bl (simL_cons sim_bl simL_nil)))))))).toE) rfl)
  (simB_one (sim_ret sim_bl))
  simB_nil)
  (simB_cons (sim_for (passes_of rfl) rfl (simI_ev (sim_K (sim_lst (simL_cons (sim_var 1) (simL_cons (sim_var 3) (simL_cons (sim_var 6) (simL_cons sim_dict0.toE (simL_cons (sim_lst (simL_cons (sim_lst simL_nil).toE simL_nil)).toE (simL_cons (sim_tup (simL_cons (sim_tup simL_nil rfl) (simL_cons (sim_tup simL_nil rfl) simL_nil)) rfl) (simL_cons (sim_tup (simL_cons sim_dict0.toE (simL_cons (sim_tup simL_nil rfl) simL_nil)) rfl) (simL_cons (sim_tup (simL_cons sim_int (simL_cons sim_dict0.toE simL_nil)) rfl) (simL_cons (sim_tup (simL_cons sim_int (simL_cons sim_dict0.toE (simL_cons (sim_str rfl) simL_nil))) rfl) (simL_cons (sim_tup (simL_cons sim_dict0.toE (simL_cons (sim_tup simL_nil rfl) (simL_cons (sim_str rfl) simL_nil))) rfl) simL_nil))))))))))).toE)) (simG_one S.nd)
  (simB_cons (sim_if (simT_W (simW_or (sim_tcmp op_isnot2 ru_isnot.e (sim_ev (sim_call (d_is_giving.at hr (by decide)) (SimAs.cons (sim_argE (sim_var 11)) SimAs.nil))) (sim_ev sim_bl) rfl) (simW_or1 (sim_tcmp op_isnot2 ru_isnot.e (sim_ev (sim_call (d_is_taking.at hr (by decide)) (SimAs.cons (sim_argE (sim_var 11)) SimAs.nil))) (sim_ev sim_bl) rfl))))
  (simB_one (sim_ret sim_bl))
  simB_nil)
  (simB_one (sim_if (simT_W (simW_and (simT_not (sim_tE rfl (sim_callB call_isiZ ru_isT.e T.n_isinstance (SimPs.cons (sim_pk 11) (SimPs.cons (sim_ev (sim_cls (t := .str) T.n_str (by decide +kernel))) SimPs.nil rfl) rfl) (by decide +kernel)))) (simW_and1 (sim_tcmp op_isnot2 ru_isnot.e (sim_ev (sim_call (d_is_payload.at hr (by decide)) (SimAs.cons (sim_argE (sim_var 11)) SimAs.nil))) (sim_ev sim_bl) rfl))))
  (simB_one (sim_ret sim_bl))
  simB_nil))))
  (simB_one (sim_ret sim_bl)))))))))))))))))))))))))))))))

abbrev s_law : Stmt := top 47
def b_law : M VI.Flow := (sSeq (sFor (iRange1 (bi bMax2 [.ev (eC (.int 1)), .ev (bi bMin2 [.ev (eC (.int 4)), .ev (bi bLen [.pk 0])])])) (asg (.one 1))
  (sSeq (sAsgO 2 (eCallO f__law_vat [.ev (eVar 0), .ev (eVar 1)]))
  (sIf (tOr (tNot (tE (eCall f__law_right [.lend 2]))) (tNot (tE (eCall f__law_right [.lend 2]))))
  (sRet (eC (.bl false)))
  sPass)))
  (sSeq (sAsg 3 (eTup [(bi bPow [.ev (eC (.int 10)), .ev (eC (.int 9))]), (eTup [(eTup [(bi bSub [.ev (bi bPow [.ev (eC (.int 10)), .ev (eC (.int 9))]), .ev (eC (.int 1))]), (eC (.str [122]))])])]))
  (sSeq (sAsgO 4 (eLst [(eMetS told subT hs_met (eCall f_give [.ev (eVar 3), .ev (eC (.str [97]))]))]))
  (sSeq (sApp 4 (eMetS told subT hs_met (eCall f_give [.ev (eVar 3), .ev (eC .non)])))
  (sSeq (sApp 4 (eMetS told subT hs_met (eCall f_told [.ev (eVar 3), .ev (bi bPow [.ev (eC (.int 10)), .ev (eC (.int 9))])])))
  (sRet (bi bEq [.pk 4, .ev (eLst [(eTup [(eC (.str [109, 97, 110, 121])), (bi bPow [.ev (eC (.int 10)), .ev (eC (.int 9))])]), (eC (.str [111, 112, 101, 114, 97, 116, 105, 111, 110])), (eTup [(eC (.str [116, 111, 108, 100])), (eTup [(bi bPow [.ev (eC (.int 10)), .ev (eC (.int 9))]), (eTup [])])])])])))))))
def f_law : List Slot → FOut := runFn 5 b_law
theorem sc_law : FnScope ["script", "spot", "vat", "last", "found"] ["script"] (defScope s_law) := ⟨rfl, rfl, rfl, by decide +kernel, rfl, by decide +kernel, by decide +kernel⟩
theorem ok_law {f cc PP : Addr} {oc : Value} {od an : Option Addr} {kV doc pm ct : Value} {osl : Array (Option Value)} (lk : c.K.lookup f = some ⟨oc, od, .func (PySem.W.fnOf "law" "law" (defArgs s_law) (defBody s_law) (defScope s_law) .none kV doc pm an (.ref cc) ct), osl⟩) (hcd : PySem.W.codeIn c.K (.ref cc) "law" = true) (T : Txt mg) (M : MetF c mg) (TB : LamX.TabB base mg cc PP)
    (hmT : (PP, ("law" : Str) ++ ".<locals>." ++ "<lambda>") ∈ c.T) (hu : ∀ p ∈ c.T, p.1 = PP → p.2 = ("law" : Str) ++ ".<locals>." ++ "<lambda>") (d__law_vat : DefF P w c mg base "_law_vat" 2 f__law_vat 1) (d__law_right : DefF P w c mg base "_law_right" 1 f__law_right 9) (d_give : DefF P w c mg base "give" 2 f_give 6) (d_told : DefF P w c mg base "told" 2 f_told 6) : FnG P w c.K mg base 12 f (PySem.W.fnOf "law" "law" (defArgs s_law) (defBody s_law) (defScope s_law) .none kV doc pm an (.ref cc) ct) ["script"] (spF c 1 f_law) :=
  have S := sc_law
  fn_viC lk hcd S rfl rfl fun A outer s H E hr => (simB_cons (sim_for (passes_of rfl) rfl (simI_range1 T.n_range (sim_callB (call_max2 rfl) ru_max2.e T.n_max (SimPs.cons (sim_ev sim_int) (SimPs.cons (sim_ev (sim_callB (call_min2 rfl) ru_min2.e T.n_min (SimPs.cons (sim_ev sim_int) (SimPs.cons (sim_ev (sim_callB call_len ru_len.e T.n_len (SimPs.cons (sim_pk 0) SimPs.nil rfl) (by decide +kernel))) SimPs.nil rfl) rfl) (by decide +kernel))) SimPs.nil rfl) rfl) (by decide +kernel))) (simG_one S.nd)
  (simB_cons (sim_asgO (sim_callO (d__law_vat.at hr (by decide)) (SimAs.cons (sim_argE (sim_var 0)) (SimAs.cons (sim_argE (sim_var 1)) SimAs.nil))) S.nd)
  (simB_one (sim_if (simT_W (simW_or (simT_not (sim_tE rfl (sim_call (d__law_right.at hr (by decide)) (SimAs.cons (sim_argL 2) SimAs.nil)))) (simW_or1 (simT_not (sim_tE rfl (sim_call (d__law_right.at hr (by decide)) (SimAs.cons (sim_argL 2) SimAs.nil)))))))
  (simB_one (sim_ret sim_bl))
  simB_nil))))
  (simB_cons (sim_asg (sim_tup (simL_cons (sim_bin op_powB ru_pow.e (sim_ev sim_int) (sim_ev sim_int)) (simL_cons (sim_tup (simL_cons (sim_tup (simL_cons (sim_bin op_sub ru_sub.e (sim_ev (sim_bin op_powB ru_pow.e (sim_ev sim_int) (sim_ev sim_int))) (sim_ev sim_int)) (simL_cons (sim_str rfl) simL_nil)) rfl) simL_nil) rfl) simL_nil)) rfl) S.nd)
  (simB_cons (sim_asgO (sim_lst (simL_cons (met rfl M TB rfl hmT hu hr (LamX.lamS_by rfl) (fun A outer s H E f c' hr => (sim_call (d_give.at hr (by decide)) (SimAs.cons (sim_argE (sim_var 3)) (SimAs.cons (sim_argE (sim_str rfl)) SimAs.nil)))) rfl (by intros; rfl)) simL_nil)) S.nd)
  (simB_cons (sim_app 4 (met rfl M TB rfl hmT hu hr (LamX.lamS_by rfl) (fun A outer s H E f c' hr => (sim_call (d_give.at hr (by decide)) (SimAs.cons (sim_argE (sim_var 3)) (SimAs.cons (sim_argE sim_non) SimAs.nil)))) rfl (by intros; rfl)))
  (simB_cons (sim_app 4 (met rfl M TB rfl hmT hu hr (LamX.lamS_by rfl) (fun A outer s H E f c' hr => (sim_call (d_told.at hr (by decide)) (SimAs.cons (sim_argE (sim_var 3)) (SimAs.cons (sim_argE (sim_bin op_powB ru_pow.e (sim_ev sim_int) (sim_ev sim_int))) SimAs.nil)))) rfl (by intros; rfl)))
  (simB_one (sim_ret (sim_cmp (op_eqD (un_ok hr)) ru_eq.e (sim_pk 4) (sim_ev (sim_lst (simL_cons (sim_tup (simL_cons (sim_str rfl) (simL_cons (sim_bin op_powB ru_pow.e (sim_ev sim_int) (sim_ev sim_int)) simL_nil)) rfl) (simL_cons (sim_str rfl) (simL_cons (sim_tup (simL_cons (sim_str rfl) (simL_cons (sim_tup (simL_cons (sim_bin op_powB ru_pow.e (sim_ev sim_int) (sim_ev sim_int)) (simL_cons (sim_tup simL_nil rfl) simL_nil)) rfl) simL_nil)) rfl) simL_nil)))).toE) rfl))))))))

end
end Z
namespace Z
section
open VI
theorem vat_ok (ns : List Int) (i : Nat) (h : i < 1000) : ∃ w fin, isVat w ∧ f__law_vat [.fr false (.scr ns), .fr false (.int i)] = some (.ok (true, w) fin) := by
  have z : Gv (f__law_vat [.fr false (.scr ns), .fr false (.int i)]) fun o w fin => o = true ∧ isVat w := by
    by_cases hl : i < ns.length
    · simp [f__law_vat, b__law_vat, hl, v_ixS hl]; exact ⟨_, _, _, rfl⟩
    · simp [f__law_vat, b__law_vat, hl]; exact ⟨_, _, _, rfl⟩
  obtain ⟨_, w, fin, e, rfl, h⟩ := gv_eq z
  exact ⟨w, fin, h, e⟩
theorem dip_ok {v : W} {t : Int} (hv : isVat v) (h0 : 0 < t) (h : t < 1000000) : ∃ (f : Int) (v' : W), isVat v' ∧ 0 ≤ f ∧ f < t ∧ f__law_dip [.own true v, .fr false (.int t)] = some (.ok (false, .int f) [.own true v', .no]) := by
  have z : Gv (f__law_dip [.own true v, .fr false (.int t)]) fun o w fin => o = false ∧ ∃ f v', w = .int f ∧ fin = [.own true v', .no] ∧ isVat v' ∧ 0 ≤ f ∧ f < t := by
    obtain ⟨a, m, k, rfl⟩ := hv
    by_cases ha : 0 < a
    · simp [f__law_dip, b__law_dip, ha, bIx, ixN, h0, v_fdivI h0 (by omega : t < 1073741824), v_sRetV, free]
      exact ⟨⟨_, _, _, rfl⟩, Int.emod_nonneg _ (by omega), Int.emod_lt_of_pos _ h0⟩
    · have e : (m + 32452843 * (k + 1)) % 2305843009213693951 < 2305843009213693951 := Int.emod_lt_of_pos _ (by decide)
      have e' : 0 ≤ (m + 32452843 * (k + 1)) % 2305843009213693951 := Int.emod_nonneg _ (by decide)
      have e2 : ((m + 32452843 * (k + 1)) % 2305843009213693951).natAbs < 18446744073709551616 := by omega
      simp [f__law_dip, b__law_dip, ha, bIx, ixN, h0, e2, free]
      exact ⟨⟨_, _, _, rfl⟩, Int.emod_nonneg _ (by omega), Int.emod_lt_of_pos _ h0⟩
  obtain ⟨_, _, _, e, rfl, f, v', rfl, rfl, h1, h2, h3⟩ := gv_eq z
  exact ⟨f, v', h1, h2, h3, e⟩
theorem scoop_ok {v : W} {xs : List W} (hv : isVat v) (h0 : 0 < xs.length) (h : xs.length < 1000000) : ∃ o w v', w ∈ xs ∧ isVat v' ∧ f__law_scoop [.own true v, .fr false (.lst xs)] = some (.ok (o, w) [.own true v', .no]) := by
  obtain ⟨f, v', h1, h2, h3, e⟩ := dip_ok (t := xs.length) hv (by omega) (by omega)
  have z := v_ixL' h2 h3
  refine ⟨false, xs[f.toNat]'(by omega), v', List.getElem_mem _, h1, ?_⟩
  simp [f__law_scoop, b__law_scoop, e, z, free]
theorem x301 : bMulB [.str [120], .int 301] = some (.str (List.replicate 301 120)) := by
  rw [v_repS (by decide) (by decide) (by decide)]; simp
def x3 : List Nat := List.replicate 300 120
theorem x300 : bMulB [.str [120], .int 300] = some (.str x3) := by
  rw [v_repS (by decide) (by decide) (by decide)]; rfl
def due (n : W) : W := .tup [.str [110, 117, 109, 98, 101, 114], (bRepr [n]).getD .non]
def opW : W := .str [111, 112, 101, 114, 97, 116, 105, 111, 110]
def paW : W := .str [112, 97, 114, 115, 101]
def good : W := .tup [.int 2, .tup [.tup [.int 1, .str [97]]]]
def mt (f : List Slot → FOut) (as : List W) : Option W := metC told subT hs_met (f (as.map (.fr false)))
def okA (w : W) : Prop := (∃ o fin, f_is_giving [.fr false w] = some (.ok (o, .bl false) fin)) ∧ (∃ o fin, f_is_taking [.fr false w] = some (.ok (o, .bl false) fin)) ∧ ∃ b, bIsT [w, .cls .str] = some (.bl b) ∧ (b = false → ∃ o fin, f_is_payload [.fr false w] = some (.ok (o, .bl false) fin))
def checkA (w : W) : Bool := sameO (valC (f_is_giving [.fr false w])) (.bl false) && sameO (valC (f_is_taking [.fr false w])) (.bl false) && (match bIsT [w, .cls .str] with
  | some (.bl true) => true
  | some (.bl false) => sameO (valC (f_is_payload [.fr false w])) (.bl false)
  | _ => false)
theorem okA_of {w : W} (h : checkA w = true) : okA w := by
  unfold checkA at h
  rw [Bool.and_eq_true, Bool.and_eq_true] at h
  refine ⟨val_eq (sameO_eq h.1.1), val_eq (sameO_eq h.1.2), ?_⟩
  have q := h.2
  split at q
  · rename_i e; exact ⟨true, e, fun c => by cases c⟩
  · rename_i e; exact ⟨false, e, fun _ => val_eq (sameO_eq q)⟩
  · cases q
theorem okAs {ws : List W} (h : ws.all checkA = true) {w : W} (hw : w ∈ ws) : okA w := okA_of (List.all_eq_true.mp h w hw)
theorem right_ok {v : W} (hv : isVat v) : Out (b__law_right [.own true v, .no, .no, .no, .no, .no, .no, .no, .no, .no, .no, .no]) fun f s => f = .ret false (.bl true) ∧ ∃ v', isVat v' ∧ s.head? = some (.own true v') := by
  unfold b__law_right
  refine out_draw scoop_ok hv rfl (by simp; exact rfl) (by decide) (by decide) (fun _ => rfl) rfl fun n hn v1 hv1 => ?_
  refine out_draw scoop_ok hv1 rfl (by simp [x301]; exact rfl) (by decide) (by decide) (fun _ => rfl) rfl fun p hp v2 hv2 => ?_
  refine out_nx (by simp; exact rfl) ?_
  refine out_nx (by simp; exact rfl) ?_
  refine out_draw scoop_ok hv2 rfl (by simp; exact rfl) (by decide) (by decide) (fun _ => rfl) rfl fun y hy v3 hv3 => ?_
  refine out_nx (by simp; exact rfl) ?_
  refine out_nx (by simp; exact rfl) ?_
  refine out_draw scoop_ok hv3 rfl (by simp; exact rfl) (by decide) (by decide) (fun _ => rfl) rfl fun g hg v4 hv4 => ?_
  refine out_nx (by simp; exact rfl) ?_
  refine out_nx (by simp; exact rfl) ?_
  refine out_nx (by simp; exact rfl) ?_
  refine out_draw scoop_ok hv4 rfl (by simp; exact rfl) (by decide) (by decide) (fun _ => rfl) rfl fun t ht v5 hv5 => ?_
  refine out_draw scoop_ok hv5 rfl (by simp; exact rfl) (by decide) (by decide) (fun _ => rfl) rfl fun z hz v6 hv6 => ?_
  refine out_nx (by simp; exact rfl) ?_
  have e1 := tab2 (f := fun n p => metC told subT hs_met (f_frame_of [.fr false n, .fr false p])) (g := fun n _ => due n) (by decide +kernel) hn hp
  have e2 := tab1 (f := fun p => metC told subT hs_met (f_frame_of [.fr false (.int 3), .fr false p])) (g := fun _ => opW) (by decide +kernel) hp
  have e3 := tab1 (f := fun y => metC told subT hs_met (f_read_line [.fr false y])) (g := fun _ => paW) (by decide +kernel) hy
  have e4 := tab2 (f := fun g p => metC told subT hs_met (f_give [.fr false g, .fr false p])) (g := fun _ _ => opW) (by decide +kernel) hg hp
  have e5 := tab1 (f := fun p => metC told subT hs_met (f_give [.fr false good, .fr false p])) (g := fun _ => opW) (by decide +kernel) hp
  have e6 := tab1 (f := fun g => metC told subT hs_met (f_waiting_frames [.fr false g])) (g := fun _ => opW) (by decide +kernel) hg
  have e7 := tab2 (f := fun g n => metC told subT hs_met (f_told [.fr false g, .fr false n])) (g := fun _ _ => opW) (by decide +kernel) hg hn
  have e8 := tab1 (f := fun n => metC told subT hs_met (f_told [.fr false good, .fr false n])) (g := fun n => due n) (by decide +kernel) hn
  have e9 := tab2 (f := fun t z => metC told subT hs_met (f_take [.fr false t, .fr false z])) (g := fun _ _ => opW) (by decide +kernel) ht hz
  have e10 := tab1 (f := fun z => metC told subT hs_met (f_take [.fr false (.tup [.int 0, .tup [], .str []]), .fr false z])) (g := fun _ => paW) (by decide +kernel) hz
  refine out_lst1 (met_call (by simp) rfl e1) rfl rfl ?_
  refine out_app (met_call (by simp) rfl e2) rfl (by simp) ?_
  refine out_app (met_call (by simp) rfl e3) rfl (by simp) ?_
  refine out_app (met_call (by simp) rfl e4) rfl (by simp) ?_
  refine out_app (met_call (by simp [good]) rfl e5) rfl (by simp) ?_
  refine out_app (met_call (by simp) rfl e6) rfl (by simp) ?_
  refine out_app (met_call (by simp) rfl e7) rfl (by simp) ?_
  refine out_app (met_call (by simp [good]) rfl e8) rfl (by simp) ?_
  refine out_app (met_call (by simp) rfl e9) rfl (by simp) ?_
  refine out_app (met_call (by simp) rfl e10) rfl (by simp) ?_
  obtain ⟨r, er, eb⟩ : ∃ r, bRepr [n] = some r ∧ bNe [.lst [due n, opW, paW, opW, opW, opW, opW, due n, opW, paW], .lst [.tup [.str [110, 117, 109, 98, 101, 114], r], opW, paW, opW, opW, opW, opW, .tup [.str [110, 117, 109, 98, 101, 114], r], opW, paW]] = some (.bl false) := by
    have z := tab1 (f := fun n => (bRepr [n]).bind fun r => bNe [.lst [due n, opW, paW, opW, opW, opW, opW, due n, opW, paW], .lst [.tup [.str [110, 117, 109, 98, 101, 114], r], opW, paW, opW, opW, opW, opW, .tup [.str [110, 117, 109, 98, 101, 114], r], opW, paW]]) (g := fun _ => .bl false) (by decide +kernel) hn
    cases h : bRepr [n] with
    | none => rw [h] at z; cases z
    | some r => rw [h] at z; exact ⟨r, rfl, z⟩
  have rl : bMulB [.lst [opW], .int 4] = some (.lst [opW, opW, opW, opW]) := by rfl
  refine out_nx (by simp [er]; unfold opW at rl; simp [rl, bAdd]; exact rfl) ?_
  refine out_nx (s := _) (by simp [er, bAdd]; unfold opW paW at *; simp [eb]; exact rfl) ?_
  obtain ⟨_, _, j1⟩ := val_eq (tab1 (f := fun x => valC (f_is_payload [.fr false x])) (g := fun _ => .bl false) (by decide +kernel) hp)
  obtain ⟨_, _, j2⟩ := val_eq (tab1 (f := fun x => valC (f_is_giving [.fr false x])) (g := fun _ => .bl false) (by decide +kernel) hg)
  obtain ⟨_, _, j3⟩ := val_eq (tab1 (f := fun x => valC (f_is_taking [.fr false x])) (g := fun _ => .bl false) (by decide +kernel) ht)
  obtain ⟨_, _, j4⟩ := val_eq (show valC (f_is_payload [.fr false (.str [])]) = some (.bl true) from sameO_eq (by decide +kernel))
  obtain ⟨_, _, j5⟩ := val_eq (show valC (f_is_payload [.fr false (.str x3)]) = some (.bl true) from sameO_eq (by decide +kernel))
  obtain ⟨_, _, j6⟩ := val_eq (show valC (f_is_giving [.fr false (.tup [.int 2, .tup [.tup [.int 1, .str [97]]]])]) = some (.bl true) from sameO_eq (by decide +kernel))
  obtain ⟨_, _, j7⟩ := val_eq (show valC (f_is_taking [.fr false (.tup [.int 1, .tup [.tup [.int 3, .str []]], .str [48, 58]])]) = some (.bl true) from sameO_eq (by decide +kernel))
  have an := okAs (by decide +kernel) hn
  have ay := okAs (by decide +kernel) hy
  have az := okAs (by decide +kernel) hz
  have q10 : bNe [.lst [.bl false, .bl false, .bl false, .bl true, .bl true, .bl true, .bl true], .lst [.bl false, .bl false, .bl false, .bl true, .bl true, .bl true, .bl true]] = some (.bl false) := by rfl
  clear hn hp hy hg ht hz
  refine out_nx (by simp [x300, j1, j2, j3, j4, j5]; exact rfl) ?_
  refine out_nx (by simp [ownS, j6, j7, bAdd, q10]; exact rfl) ?_
  refine out_for (i := 11) (by simp; exact ⟨rfl, rfl⟩) ⟨.no, rfl, rfl⟩ (fun w hw u hu => ?_) (fun u => ?_)
  · have a : okA w := by
      simp only [List.mem_cons, List.not_mem_nil, or_false] at hw
      rcases hw with rfl | rfl | rfl | rfl | rfl | rfl | rfl | rfl | rfl | rfl
      · exact an
      · exact ay
      · exact az
      all_goals exact okA_of (by decide +kernel)
    obtain ⟨⟨_, _, a1⟩, ⟨_, _, a2⟩, b, a3, a4⟩ := a
    cases b with
    | true =>
      simp [hu, a1, a2, a3]
    | false =>
      obtain ⟨_, _, a5⟩ := a4 rfl
      simp [hu, a1, a2, a3, a5]
  · simp
    exact hv6
theorem right_fn {v : W} (hv : isVat v) : ∃ v', isVat v' ∧ f__law_right [.own true v] = some (.ok (false, .bl true) [.own true v']) := by
  obtain ⟨f, s, e, rfl, v', h1, h2⟩ := out_eq (right_ok hv)
  refine ⟨v', h1, ?_⟩
  unfold f__law_right runFn
  simp only [List.cons_append, List.nil_append, List.length_cons, List.length_nil, List.replicate]
  erw [e]
  cases s with
  | nil => cases h2
  | cons a s => simp only [List.head?_cons, Option.some.injEq] at h2; subst h2; rfl
def last : W := .tup [.int 1000000000, .tup [.tup [.int 999999999, .str [122]]]]
theorem c1 : metC told subT hs_met (f_give [.fr false last, .fr false (.str [97])]) = some (.tup [.str [109, 97, 110, 121], .int 1000000000]) := sameO_eq (by decide +kernel)
theorem c2 : metC told subT hs_met (f_give [.fr false last, .fr false .non]) = some opW := sameO_eq (by decide +kernel)
theorem c3 : metC told subT hs_met (f_told [.fr false last, .fr false (.int 1000000000)]) = some (.tup [.str [116, 111, 108, 100], .tup [.int 1000000000, .tup []]]) := sameO_eq (by decide +kernel)
theorem c4 : bEq [.lst [.tup [.str [109, 97, 110, 121], .int 1000000000], opW, .tup [.str [116, 111, 108, 100], .tup [.int 1000000000, .tup []]]], .lst [.tup [.str [109, 97, 110, 121], .int 1000000000], .str [111, 112, 101, 114, 97, 116, 105, 111, 110], .tup [.str [116, 111, 108, 100], .tup [.int 1000000000, .tup []]]]] = some (.bl true) := sameO_eq (by decide +kernel)
theorem pure_law (ns : List Int) (h63 : ns.length ≤ 63) : ∃ fin, f_law [.fr false (.scr ns)] = some (.ok (false, .bl true) fin) := by
  have z : Out (b_law [.fr false (.scr ns), .no, .no, .no, .no]) fun f s => f = .ret false (.bl true) := by
    unfold b_law
    have hr : rangeOk (if (if (ns.length : Int) < 4 then (ns.length : Int) else 4) > 1 then (if (ns.length : Int) < 4 then (ns.length : Int) else 4) else 1) = true := by
      unfold rangeOk
      rw [Bool.and_eq_true, decide_eq_true_iff, decide_eq_true_iff]
      constructor <;> split <;> split <;> omega
    refine out_forI (I := fun s => ∃ u u', free u = true ∧ free u' = true ∧ s = [.fr false (.scr ns), u, u', .no, .no]) (ws := upto 0 (if (if (ns.length : Int) < 4 then (ns.length : Int) else 4) > 1 then (if (ns.length : Int) < 4 then (ns.length : Int) else 4) else 1).toNat) (by simp only [v_iRange1, v_mbd, v_bi, v_opdsE, v_opds0, v_mret, v_eC, v_lenS, v_lift, v_rd, v_opdsP, List.getElem?_cons_zero, Option.map_some, v_min2, v_max2, hr, if_true]) ⟨.no, .no, rfl, rfl, rfl⟩ (fun w hw s hs => ?_) (fun s hs => ?_)
    · obtain ⟨u, u', h1, h2, rfl⟩ := hs
      obtain ⟨k, hk, rfl⟩ := mem_upto hw
      have hk' : k < 1000 := by
        revert hk
        split <;> split <;> omega
      obtain ⟨v, fin, hv, e⟩ := vat_ok ns k hk'
      obtain ⟨v1, hv1, e1⟩ := right_fn hv
      obtain ⟨v2, hv2, e2⟩ := right_fn hv1
      obtain ⟨_, _, _, rfl⟩ := hv
      simp [h1, h2, e, e1, e2, ownS]
    · obtain ⟨u, u', h1, h2, rfl⟩ := hs
      refine out_nx (by simp; exact rfl) ?_
      refine out_lst1 (met_call (by simp [last]) rfl c1) rfl rfl ?_
      refine out_app (met_call (by simp [last]) rfl c2) rfl (by simp) ?_
      refine out_app (met_call (by simp [last]) rfl c3) rfl (by simp) ?_
      simp [c4]
  obtain ⟨f, s, e, rfl⟩ := out_eq z
  refine ⟨ends [.fr false (.scr ns)] s, ?_⟩
  unfold f_law runFn
  simp only [List.cons_append, List.nil_append, List.length_cons, List.length_nil, List.replicate]
  erw [e]
end
end Z
namespace Z
open PySem L2 VI
theorem all_mk {l : PySem.W.OpenLaw} {w : World} {K : PySem.W.Frag} {h : Heap} {mg : Str → Option Value} {fa : Addr} (KX : K.In h) (G : h.Ns mainGlobals mg) (hfa : mg "law" = some (.ref fa))
    {fA__law_vat : Addr} {od__law_vat an__law_vat : Option Addr} {sl__law_vat : Array (Option Value)} {oc__law_vat kV__law_vat dc__law_vat pm__law_vat ct__law_vat : Value}
    {cd__law_vat : Value}
    (a__law_vat : PySem.W.nsIn K mainGlobals "_law_vat" = some (some (.ref fA__law_vat)))
    (l__law_vat : K.lookup fA__law_vat = some ⟨oc__law_vat, od__law_vat, .func (PySem.W.fnOf "_law_vat" "_law_vat" (defArgs s__law_vat) (defBody s__law_vat) (defScope s__law_vat) .none kV__law_vat dc__law_vat pm__law_vat an__law_vat cd__law_vat ct__law_vat), sl__law_vat⟩)
    (c__law_vat : PySem.W.codeIn K cd__law_vat "_law_vat" = true)
    (k__law_vat : PySem.W.keepIn K (.ref fA__law_vat) = true)
    {fA__law_dip : Addr} {od__law_dip an__law_dip : Option Addr} {sl__law_dip : Array (Option Value)} {oc__law_dip kV__law_dip dc__law_dip pm__law_dip ct__law_dip : Value}
    {cd__law_dip : Value}
    (a__law_dip : PySem.W.nsIn K mainGlobals "_law_dip" = some (some (.ref fA__law_dip)))
    (l__law_dip : K.lookup fA__law_dip = some ⟨oc__law_dip, od__law_dip, .func (PySem.W.fnOf "_law_dip" "_law_dip" (defArgs s__law_dip) (defBody s__law_dip) (defScope s__law_dip) .none kV__law_dip dc__law_dip pm__law_dip an__law_dip cd__law_dip ct__law_dip), sl__law_dip⟩)
    (c__law_dip : PySem.W.codeIn K cd__law_dip "_law_dip" = true)
    (k__law_dip : PySem.W.keepIn K (.ref fA__law_dip) = true)
    {fA__law_scoop : Addr} {od__law_scoop an__law_scoop : Option Addr} {sl__law_scoop : Array (Option Value)} {oc__law_scoop kV__law_scoop dc__law_scoop pm__law_scoop ct__law_scoop : Value}
    {cd__law_scoop : Value}
    (a__law_scoop : PySem.W.nsIn K mainGlobals "_law_scoop" = some (some (.ref fA__law_scoop)))
    (l__law_scoop : K.lookup fA__law_scoop = some ⟨oc__law_scoop, od__law_scoop, .func (PySem.W.fnOf "_law_scoop" "_law_scoop" (defArgs s__law_scoop) (defBody s__law_scoop) (defScope s__law_scoop) .none kV__law_scoop dc__law_scoop pm__law_scoop an__law_scoop cd__law_scoop ct__law_scoop), sl__law_scoop⟩)
    (c__law_scoop : PySem.W.codeIn K cd__law_scoop "_law_scoop" = true)
    (k__law_scoop : PySem.W.keepIn K (.ref fA__law_scoop) = true)
    {fA_is_integer : Addr} {od_is_integer an_is_integer : Option Addr} {sl_is_integer : Array (Option Value)} {oc_is_integer kV_is_integer dc_is_integer pm_is_integer ct_is_integer : Value}
    {cd_is_integer : Value}
    (a_is_integer : PySem.W.nsIn K mainGlobals "is_integer" = some (some (.ref fA_is_integer)))
    (l_is_integer : K.lookup fA_is_integer = some ⟨oc_is_integer, od_is_integer, .func (PySem.W.fnOf "is_integer" "is_integer" (defArgs s_is_integer) (defBody s_is_integer) (defScope s_is_integer) .none kV_is_integer dc_is_integer pm_is_integer an_is_integer cd_is_integer ct_is_integer), sl_is_integer⟩)
    (c_is_integer : PySem.W.codeIn K cd_is_integer "is_integer" = true)
    (k_is_integer : PySem.W.keepIn K (.ref fA_is_integer) = true)
    {fA_is_between : Addr} {od_is_between an_is_between : Option Addr} {sl_is_between : Array (Option Value)} {oc_is_between kV_is_between dc_is_between pm_is_between ct_is_between : Value}
    {cd_is_between : Value}
    (a_is_between : PySem.W.nsIn K mainGlobals "is_between" = some (some (.ref fA_is_between)))
    (l_is_between : K.lookup fA_is_between = some ⟨oc_is_between, od_is_between, .func (PySem.W.fnOf "is_between" "is_between" (defArgs s_is_between) (defBody s_is_between) (defScope s_is_between) .none kV_is_between dc_is_between pm_is_between an_is_between cd_is_between ct_is_between), sl_is_between⟩)
    (c_is_between : PySem.W.codeIn K cd_is_between "is_between" = true)
    (k_is_between : PySem.W.keepIn K (.ref fA_is_between) = true)
    {fA_is_payload_text : Addr} {od_is_payload_text an_is_payload_text : Option Addr} {sl_is_payload_text : Array (Option Value)} {oc_is_payload_text kV_is_payload_text dc_is_payload_text pm_is_payload_text ct_is_payload_text : Value}
    {cd_is_payload_text : Value}
    (a_is_payload_text : PySem.W.nsIn K mainGlobals "is_payload_text" = some (some (.ref fA_is_payload_text)))
    (l_is_payload_text : K.lookup fA_is_payload_text = some ⟨oc_is_payload_text, od_is_payload_text, .func (PySem.W.fnOf "is_payload_text" "is_payload_text" (defArgs s_is_payload_text) (defBody s_is_payload_text) (defScope s_is_payload_text) .none kV_is_payload_text dc_is_payload_text pm_is_payload_text an_is_payload_text cd_is_payload_text ct_is_payload_text), sl_is_payload_text⟩)
    (c_is_payload_text : PySem.W.codeIn K cd_is_payload_text "is_payload_text" = true)
    (k_is_payload_text : PySem.W.keepIn K (.ref fA_is_payload_text) = true)
    {fA_require_payload : Addr} {od_require_payload an_require_payload : Option Addr} {sl_require_payload : Array (Option Value)} {oc_require_payload kV_require_payload dc_require_payload pm_require_payload ct_require_payload : Value}
    {cd_require_payload : Value}
    (a_require_payload : PySem.W.nsIn K mainGlobals "require_payload" = some (some (.ref fA_require_payload)))
    (l_require_payload : K.lookup fA_require_payload = some ⟨oc_require_payload, od_require_payload, .func (PySem.W.fnOf "require_payload" "require_payload" (defArgs s_require_payload) (defBody s_require_payload) (defScope s_require_payload) .none kV_require_payload dc_require_payload pm_require_payload an_require_payload cd_require_payload ct_require_payload), sl_require_payload⟩)
    (c_require_payload : PySem.W.codeIn K cd_require_payload "require_payload" = true)
    (k_require_payload : PySem.W.keepIn K (.ref fA_require_payload) = true)
    {fA_check_in : Addr} {od_check_in an_check_in : Option Addr} {sl_check_in : Array (Option Value)} {oc_check_in kV_check_in dc_check_in pm_check_in ct_check_in : Value}
    {cd_check_in : Value}
    (a_check_in : PySem.W.nsIn K mainGlobals "check_in" = some (some (.ref fA_check_in)))
    (l_check_in : K.lookup fA_check_in = some ⟨oc_check_in, od_check_in, .func (PySem.W.fnOf "check_in" "check_in" (defArgs s_check_in) (defBody s_check_in) (defScope s_check_in) .none kV_check_in dc_check_in pm_check_in an_check_in cd_check_in ct_check_in), sl_check_in⟩)
    (c_check_in : PySem.W.codeIn K cd_check_in "check_in" = true)
    (k_check_in : PySem.W.keepIn K (.ref fA_check_in) = true)
    {fA_line_of : Addr} {od_line_of an_line_of : Option Addr} {sl_line_of : Array (Option Value)} {oc_line_of kV_line_of dc_line_of pm_line_of ct_line_of : Value}
    {cd_line_of : Value}
    (a_line_of : PySem.W.nsIn K mainGlobals "line_of" = some (some (.ref fA_line_of)))
    (l_line_of : K.lookup fA_line_of = some ⟨oc_line_of, od_line_of, .func (PySem.W.fnOf "line_of" "line_of" (defArgs s_line_of) (defBody s_line_of) (defScope s_line_of) .none kV_line_of dc_line_of pm_line_of an_line_of cd_line_of ct_line_of), sl_line_of⟩)
    (c_line_of : PySem.W.codeIn K cd_line_of "line_of" = true)
    (k_line_of : PySem.W.keepIn K (.ref fA_line_of) = true)
    {fA_frame_of : Addr} {od_frame_of an_frame_of : Option Addr} {sl_frame_of : Array (Option Value)} {oc_frame_of kV_frame_of dc_frame_of pm_frame_of ct_frame_of : Value}
    {cd_frame_of : Value}
    (a_frame_of : PySem.W.nsIn K mainGlobals "frame_of" = some (some (.ref fA_frame_of)))
    (l_frame_of : K.lookup fA_frame_of = some ⟨oc_frame_of, od_frame_of, .func (PySem.W.fnOf "frame_of" "frame_of" (defArgs s_frame_of) (defBody s_frame_of) (defScope s_frame_of) .none kV_frame_of dc_frame_of pm_frame_of an_frame_of cd_frame_of ct_frame_of), sl_frame_of⟩)
    (c_frame_of : PySem.W.codeIn K cd_frame_of "frame_of" = true)
    (k_frame_of : PySem.W.keepIn K (.ref fA_frame_of) = true)
    {fA_figures_ahead : Addr} {od_figures_ahead an_figures_ahead : Option Addr} {sl_figures_ahead : Array (Option Value)} {oc_figures_ahead kV_figures_ahead dc_figures_ahead pm_figures_ahead ct_figures_ahead : Value}
    {cd_figures_ahead : Value}
    (a_figures_ahead : PySem.W.nsIn K mainGlobals "figures_ahead" = some (some (.ref fA_figures_ahead)))
    (l_figures_ahead : K.lookup fA_figures_ahead = some ⟨oc_figures_ahead, od_figures_ahead, .func (PySem.W.fnOf "figures_ahead" "figures_ahead" (defArgs s_figures_ahead) (defBody s_figures_ahead) (defScope s_figures_ahead) .none kV_figures_ahead dc_figures_ahead pm_figures_ahead an_figures_ahead cd_figures_ahead ct_figures_ahead), sl_figures_ahead⟩)
    (c_figures_ahead : PySem.W.codeIn K cd_figures_ahead "figures_ahead" = true)
    (k_figures_ahead : PySem.W.keepIn K (.ref fA_figures_ahead) = true)
    {fA_pair_of_line : Addr} {od_pair_of_line an_pair_of_line : Option Addr} {sl_pair_of_line : Array (Option Value)} {oc_pair_of_line kV_pair_of_line dc_pair_of_line pm_pair_of_line ct_pair_of_line : Value}
    {cd_pair_of_line : Value}
    (a_pair_of_line : PySem.W.nsIn K mainGlobals "pair_of_line" = some (some (.ref fA_pair_of_line)))
    (l_pair_of_line : K.lookup fA_pair_of_line = some ⟨oc_pair_of_line, od_pair_of_line, .func (PySem.W.fnOf "pair_of_line" "pair_of_line" (defArgs s_pair_of_line) (defBody s_pair_of_line) (defScope s_pair_of_line) .none kV_pair_of_line dc_pair_of_line pm_pair_of_line an_pair_of_line cd_pair_of_line ct_pair_of_line), sl_pair_of_line⟩)
    (c_pair_of_line : PySem.W.codeIn K cd_pair_of_line "pair_of_line" = true)
    (k_pair_of_line : PySem.W.keepIn K (.ref fA_pair_of_line) = true)
    {fA_read_line : Addr} {od_read_line an_read_line : Option Addr} {sl_read_line : Array (Option Value)} {oc_read_line kV_read_line dc_read_line pm_read_line ct_read_line : Value}
    {cd_read_line : Value}
    (a_read_line : PySem.W.nsIn K mainGlobals "read_line" = some (some (.ref fA_read_line)))
    (l_read_line : K.lookup fA_read_line = some ⟨oc_read_line, od_read_line, .func (PySem.W.fnOf "read_line" "read_line" (defArgs s_read_line) (defBody s_read_line) (defScope s_read_line) .none kV_read_line dc_read_line pm_read_line an_read_line cd_read_line ct_read_line), sl_read_line⟩)
    (c_read_line : PySem.W.codeIn K cd_read_line "read_line" = true)
    (k_read_line : PySem.W.keepIn K (.ref fA_read_line) = true)
    {fA_are_numbered : Addr} {od_are_numbered an_are_numbered : Option Addr} {sl_are_numbered : Array (Option Value)} {oc_are_numbered kV_are_numbered dc_are_numbered pm_are_numbered ct_are_numbered : Value}
    {cd_are_numbered : Value}
    (a_are_numbered : PySem.W.nsIn K mainGlobals "are_numbered" = some (some (.ref fA_are_numbered)))
    (l_are_numbered : K.lookup fA_are_numbered = some ⟨oc_are_numbered, od_are_numbered, .func (PySem.W.fnOf "are_numbered" "are_numbered" (defArgs s_are_numbered) (defBody s_are_numbered) (defScope s_are_numbered) .none kV_are_numbered dc_are_numbered pm_are_numbered an_are_numbered cd_are_numbered ct_are_numbered), sl_are_numbered⟩)
    (c_are_numbered : PySem.W.codeIn K cd_are_numbered "are_numbered" = true)
    (k_are_numbered : PySem.W.keepIn K (.ref fA_are_numbered) = true)
    {fA_is_giving_end : Addr} {od_is_giving_end an_is_giving_end : Option Addr} {sl_is_giving_end : Array (Option Value)} {oc_is_giving_end kV_is_giving_end dc_is_giving_end pm_is_giving_end ct_is_giving_end : Value}
    {cd_is_giving_end : Value}
    (a_is_giving_end : PySem.W.nsIn K mainGlobals "is_giving_end" = some (some (.ref fA_is_giving_end)))
    (l_is_giving_end : K.lookup fA_is_giving_end = some ⟨oc_is_giving_end, od_is_giving_end, .func (PySem.W.fnOf "is_giving_end" "is_giving_end" (defArgs s_is_giving_end) (defBody s_is_giving_end) (defScope s_is_giving_end) .none kV_is_giving_end dc_is_giving_end pm_is_giving_end an_is_giving_end cd_is_giving_end ct_is_giving_end), sl_is_giving_end⟩)
    (c_is_giving_end : PySem.W.codeIn K cd_is_giving_end "is_giving_end" = true)
    (k_is_giving_end : PySem.W.keepIn K (.ref fA_is_giving_end) = true)
    {fA_require_giving : Addr} {od_require_giving an_require_giving : Option Addr} {sl_require_giving : Array (Option Value)} {oc_require_giving kV_require_giving dc_require_giving pm_require_giving ct_require_giving : Value}
    {cd_require_giving : Value}
    (a_require_giving : PySem.W.nsIn K mainGlobals "require_giving" = some (some (.ref fA_require_giving)))
    (l_require_giving : K.lookup fA_require_giving = some ⟨oc_require_giving, od_require_giving, .func (PySem.W.fnOf "require_giving" "require_giving" (defArgs s_require_giving) (defBody s_require_giving) (defScope s_require_giving) .none kV_require_giving dc_require_giving pm_require_giving an_require_giving cd_require_giving ct_require_giving), sl_require_giving⟩)
    (c_require_giving : PySem.W.codeIn K cd_require_giving "require_giving" = true)
    (k_require_giving : PySem.W.keepIn K (.ref fA_require_giving) = true)
    {fA_give : Addr} {od_give an_give : Option Addr} {sl_give : Array (Option Value)} {oc_give kV_give dc_give pm_give ct_give : Value}
    {cd_give : Value}
    (a_give : PySem.W.nsIn K mainGlobals "give" = some (some (.ref fA_give)))
    (l_give : K.lookup fA_give = some ⟨oc_give, od_give, .func (PySem.W.fnOf "give" "give" (defArgs s_give) (defBody s_give) (defScope s_give) .none kV_give dc_give pm_give an_give cd_give ct_give), sl_give⟩)
    (c_give : PySem.W.codeIn K cd_give "give" = true)
    (k_give : PySem.W.keepIn K (.ref fA_give) = true)
    {fA_waiting_frames : Addr} {od_waiting_frames an_waiting_frames : Option Addr} {sl_waiting_frames : Array (Option Value)} {oc_waiting_frames kV_waiting_frames dc_waiting_frames pm_waiting_frames ct_waiting_frames : Value}
    {cd_waiting_frames : Value}
    (a_waiting_frames : PySem.W.nsIn K mainGlobals "waiting_frames" = some (some (.ref fA_waiting_frames)))
    (l_waiting_frames : K.lookup fA_waiting_frames = some ⟨oc_waiting_frames, od_waiting_frames, .func (PySem.W.fnOf "waiting_frames" "waiting_frames" (defArgs s_waiting_frames) (defBody s_waiting_frames) (defScope s_waiting_frames) .none kV_waiting_frames dc_waiting_frames pm_waiting_frames an_waiting_frames cd_waiting_frames ct_waiting_frames), sl_waiting_frames⟩)
    (c_waiting_frames : PySem.W.codeIn K cd_waiting_frames "waiting_frames" = true)
    (k_waiting_frames : PySem.W.keepIn K (.ref fA_waiting_frames) = true)
    {fA_told : Addr} {od_told an_told : Option Addr} {sl_told : Array (Option Value)} {oc_told kV_told dc_told pm_told ct_told : Value}
    {cd_told : Value}
    (a_told : PySem.W.nsIn K mainGlobals "told" = some (some (.ref fA_told)))
    (l_told : K.lookup fA_told = some ⟨oc_told, od_told, .func (PySem.W.fnOf "told" "told" (defArgs s_told) (defBody s_told) (defScope s_told) .none kV_told dc_told pm_told an_told cd_told ct_told), sl_told⟩)
    (c_told : PySem.W.codeIn K cd_told "told" = true)
    (k_told : PySem.W.keepIn K (.ref fA_told) = true)
    {fA_is_taking_end : Addr} {od_is_taking_end an_is_taking_end : Option Addr} {sl_is_taking_end : Array (Option Value)} {oc_is_taking_end kV_is_taking_end dc_is_taking_end pm_is_taking_end ct_is_taking_end : Value}
    {cd_is_taking_end : Value}
    (a_is_taking_end : PySem.W.nsIn K mainGlobals "is_taking_end" = some (some (.ref fA_is_taking_end)))
    (l_is_taking_end : K.lookup fA_is_taking_end = some ⟨oc_is_taking_end, od_is_taking_end, .func (PySem.W.fnOf "is_taking_end" "is_taking_end" (defArgs s_is_taking_end) (defBody s_is_taking_end) (defScope s_is_taking_end) .none kV_is_taking_end dc_is_taking_end pm_is_taking_end an_is_taking_end cd_is_taking_end ct_is_taking_end), sl_is_taking_end⟩)
    (c_is_taking_end : PySem.W.codeIn K cd_is_taking_end "is_taking_end" = true)
    (k_is_taking_end : PySem.W.keepIn K (.ref fA_is_taking_end) = true)
    {fA_line_taken : Addr} {od_line_taken an_line_taken : Option Addr} {sl_line_taken : Array (Option Value)} {oc_line_taken kV_line_taken dc_line_taken pm_line_taken ct_line_taken : Value}
    {cd_line_taken : Value}
    (a_line_taken : PySem.W.nsIn K mainGlobals "line_taken" = some (some (.ref fA_line_taken)))
    (l_line_taken : K.lookup fA_line_taken = some ⟨oc_line_taken, od_line_taken, .func (PySem.W.fnOf "line_taken" "line_taken" (defArgs s_line_taken) (defBody s_line_taken) (defScope s_line_taken) .none kV_line_taken dc_line_taken pm_line_taken an_line_taken cd_line_taken ct_line_taken), sl_line_taken⟩)
    (c_line_taken : PySem.W.codeIn K cd_line_taken "line_taken" = true)
    (k_line_taken : PySem.W.keepIn K (.ref fA_line_taken) = true)
    {fA_signs_taken : Addr} {od_signs_taken an_signs_taken : Option Addr} {sl_signs_taken : Array (Option Value)} {oc_signs_taken kV_signs_taken dc_signs_taken pm_signs_taken ct_signs_taken : Value}
    {cd_signs_taken : Value}
    (a_signs_taken : PySem.W.nsIn K mainGlobals "signs_taken" = some (some (.ref fA_signs_taken)))
    (l_signs_taken : K.lookup fA_signs_taken = some ⟨oc_signs_taken, od_signs_taken, .func (PySem.W.fnOf "signs_taken" "signs_taken" (defArgs s_signs_taken) (defBody s_signs_taken) (defScope s_signs_taken) .none kV_signs_taken dc_signs_taken pm_signs_taken an_signs_taken cd_signs_taken ct_signs_taken), sl_signs_taken⟩)
    (c_signs_taken : PySem.W.codeIn K cd_signs_taken "signs_taken" = true)
    (k_signs_taken : PySem.W.keepIn K (.ref fA_signs_taken) = true)
    {fA_take : Addr} {od_take an_take : Option Addr} {sl_take : Array (Option Value)} {oc_take kV_take dc_take pm_take ct_take : Value}
    {cd_take : Value}
    (a_take : PySem.W.nsIn K mainGlobals "take" = some (some (.ref fA_take)))
    (l_take : K.lookup fA_take = some ⟨oc_take, od_take, .func (PySem.W.fnOf "take" "take" (defArgs s_take) (defBody s_take) (defScope s_take) .none kV_take dc_take pm_take an_take cd_take ct_take), sl_take⟩)
    (c_take : PySem.W.codeIn K cd_take "take" = true)
    (k_take : PySem.W.keepIn K (.ref fA_take) = true)
    {fA_is_payload : Addr} {od_is_payload an_is_payload : Option Addr} {sl_is_payload : Array (Option Value)} {oc_is_payload kV_is_payload dc_is_payload pm_is_payload ct_is_payload : Value}
    {cd_is_payload : Value}
    (a_is_payload : PySem.W.nsIn K mainGlobals "is_payload" = some (some (.ref fA_is_payload)))
    (l_is_payload : K.lookup fA_is_payload = some ⟨oc_is_payload, od_is_payload, .func (PySem.W.fnOf "is_payload" "is_payload" (defArgs s_is_payload) (defBody s_is_payload) (defScope s_is_payload) .none kV_is_payload dc_is_payload pm_is_payload an_is_payload cd_is_payload ct_is_payload), sl_is_payload⟩)
    (c_is_payload : PySem.W.codeIn K cd_is_payload "is_payload" = true)
    (k_is_payload : PySem.W.keepIn K (.ref fA_is_payload) = true)
    {fA_is_taking : Addr} {od_is_taking an_is_taking : Option Addr} {sl_is_taking : Array (Option Value)} {oc_is_taking kV_is_taking dc_is_taking pm_is_taking ct_is_taking : Value}
    {cd_is_taking : Value}
    (a_is_taking : PySem.W.nsIn K mainGlobals "is_taking" = some (some (.ref fA_is_taking)))
    (l_is_taking : K.lookup fA_is_taking = some ⟨oc_is_taking, od_is_taking, .func (PySem.W.fnOf "is_taking" "is_taking" (defArgs s_is_taking) (defBody s_is_taking) (defScope s_is_taking) .none kV_is_taking dc_is_taking pm_is_taking an_is_taking cd_is_taking ct_is_taking), sl_is_taking⟩)
    (c_is_taking : PySem.W.codeIn K cd_is_taking "is_taking" = true)
    (k_is_taking : PySem.W.keepIn K (.ref fA_is_taking) = true)
    {fA_is_giving : Addr} {od_is_giving an_is_giving : Option Addr} {sl_is_giving : Array (Option Value)} {oc_is_giving kV_is_giving dc_is_giving pm_is_giving ct_is_giving : Value}
    {cd_is_giving : Value}
    (a_is_giving : PySem.W.nsIn K mainGlobals "is_giving" = some (some (.ref fA_is_giving)))
    (l_is_giving : K.lookup fA_is_giving = some ⟨oc_is_giving, od_is_giving, .func (PySem.W.fnOf "is_giving" "is_giving" (defArgs s_is_giving) (defBody s_is_giving) (defScope s_is_giving) .none kV_is_giving dc_is_giving pm_is_giving an_is_giving cd_is_giving ct_is_giving), sl_is_giving⟩)
    (c_is_giving : PySem.W.codeIn K cd_is_giving "is_giving" = true)
    (k_is_giving : PySem.W.keepIn K (.ref fA_is_giving) = true)
    {fA__law_right : Addr} {od__law_right an__law_right : Option Addr} {sl__law_right : Array (Option Value)} {oc__law_right kV__law_right dc__law_right pm__law_right ct__law_right : Value}
    {cc__law_right PP__law_right : Addr}
    (a__law_right : PySem.W.nsIn K mainGlobals "_law_right" = some (some (.ref fA__law_right)))
    (l__law_right : K.lookup fA__law_right = some ⟨oc__law_right, od__law_right, .func (PySem.W.fnOf "_law_right" "_law_right" (defArgs s__law_right) (defBody s__law_right) (defScope s__law_right) .none kV__law_right dc__law_right pm__law_right an__law_right (.ref cc__law_right) ct__law_right), sl__law_right⟩)
    (c__law_right : PySem.W.codeIn K (.ref cc__law_right) "_law_right" = true)
    (k__law_right : PySem.W.keepIn K (.ref fA__law_right) = true)
    {dd__law_right : Option Addr} {vs__law_right : Array Value} {slc__law_right : Array (Option Value)}
    (lc__law_right : K.lookup cc__law_right = some ⟨.type "code", dd__law_right, .fields vs__law_right, slc__law_right⟩)
    (h__law_right : CodeV vs__law_right cc__law_right PP__law_right)
    (nt__law_right : K.lookup PP__law_right = none)
    (tb__law_right : h.get? PP__law_right = some { cls := .none, data := .fields #[] })
    {fA_law : Addr} {od_law an_law : Option Addr} {sl_law : Array (Option Value)} {oc_law kV_law dc_law pm_law ct_law : Value}
    {cc_law PP_law : Addr}
    (a_law : PySem.W.nsIn K mainGlobals "law" = some (some (.ref fA_law)))
    (l_law : K.lookup fA_law = some ⟨oc_law, od_law, .func (PySem.W.fnOf "law" "law" (defArgs s_law) (defBody s_law) (defScope s_law) .none kV_law dc_law pm_law an_law (.ref cc_law) ct_law), sl_law⟩)
    (c_law : PySem.W.codeIn K (.ref cc_law) "law" = true)
    (k_law : PySem.W.keepIn K (.ref fA_law) = true)
    {dd_law : Option Addr} {vs_law : Array Value} {slc_law : Array (Option Value)}
    (lc_law : K.lookup cc_law = some ⟨.type "code", dd_law, .fields vs_law, slc_law⟩)
    (h_law : CodeV vs_law cc_law PP_law)
    (nt_law : K.lookup PP_law = none)
    (tb_law : h.get? PP_law = some { cls := .none, data := .fields #[] })
    {fA__law_met : Addr} {od__law_met an__law_met : Option Addr} {sl__law_met : Array (Option Value)} {oc__law_met kV__law_met dc__law_met pm__law_met ct__law_met : Value}
    {cd__law_met : Value}
    (a__law_met : PySem.W.nsIn K mainGlobals "_law_met" = some (some (.ref fA__law_met)))
    (l__law_met : K.lookup fA__law_met = some ⟨oc__law_met, od__law_met, .func (PySem.W.fnOf "_law_met" "_law_met" (defArgs s_met) (defBody s_met) (defScope s_met) .none kV__law_met dc__law_met pm__law_met an__law_met cd__law_met ct__law_met), sl__law_met⟩)
    (c__law_met : PySem.W.codeIn K cd__law_met "_law_met" = true)
    (k__law_met : PySem.W.keepIn K (.ref fA__law_met) = true)
    (z_abs : PySem.W.nsIn K mainGlobals "abs" = some none)
    (z_all : PySem.W.nsIn K mainGlobals "all" = some none)
    (z_bool : PySem.W.nsIn K mainGlobals "bool" = some none)
    (z_enumerate : PySem.W.nsIn K mainGlobals "enumerate" = some none)
    (z_int : PySem.W.nsIn K mainGlobals "int" = some none)
    (z_isinstance : PySem.W.nsIn K mainGlobals "isinstance" = some none)
    (z_len : PySem.W.nsIn K mainGlobals "len" = some none)
    (z_max : PySem.W.nsIn K mainGlobals "max" = some none)
    (z_min : PySem.W.nsIn K mainGlobals "min" = some none)
    (z_ord : PySem.W.nsIn K mainGlobals "ord" = some none)
    (z_range : PySem.W.nsIn K mainGlobals "range" = some none)
    (z_repr : PySem.W.nsIn K mainGlobals "repr" = some none)
    (z_str : PySem.W.nsIn K mainGlobals "str" = some none)
    (z_tuple : PySem.W.nsIn K mainGlobals "tuple" = some none)
    (z_zip : PySem.W.nsIn K mainGlobals "zip" = some none)
    {t_BETWEEN : Tok}
    (g_BETWEEN : PySem.W.nsIn K mainGlobals "BETWEEN" = some (some (.str ":" t_BETWEEN)))
    {t_CHECKED : Tok}
    (g_CHECKED : PySem.W.nsIn K mainGlobals "CHECKED" = some (some (.str "#" t_CHECKED)))
    {t_CHECK_PRIME : Tok}
    (g_CHECK_PRIME : PySem.W.nsIn K mainGlobals "CHECK_PRIME" = some (some (.int 9973 t_CHECK_PRIME)))
    {t_END : Tok}
    (g_END : PySem.W.nsIn K mainGlobals "END" = some (some (.str "\n" t_END)))
    {t_FIGURES : Tok}
    (g_FIGURES : PySem.W.nsIn K mainGlobals "FIGURES" = some (some (.str "0123456789" t_FIGURES)))
    {t_FIRST_SIGN : Tok}
    (g_FIRST_SIGN : PySem.W.nsIn K mainGlobals "FIRST_SIGN" = some (some (.str " " t_FIRST_SIGN)))
    {t_LAST_SIGN : Tok}
    (g_LAST_SIGN : PySem.W.nsIn K mainGlobals "LAST_SIGN" = some (some (.str "~" t_LAST_SIGN)))
    (g_MOST_FRAME : ∃ t, mg "MOST_FRAME" = some (.int 1000000000 t))
    {t_MOST_PAYLOAD : Tok}
    (g_MOST_PAYLOAD : PySem.W.nsIn K mainGlobals "MOST_PAYLOAD" = some (some (.int 300 t_MOST_PAYLOAD)))
    {C_InvalidOperation : Addr}
    (aC_InvalidOperation : PySem.W.nsIn K mainGlobals "InvalidOperation" = some (some (.ref C_InvalidOperation)))
    (kC_InvalidOperation : PySem.W.keepIn K (.ref C_InvalidOperation) = true)
    (eC_InvalidOperation : PySem.W.subIn K (.ref C_InvalidOperation) (.type "BaseException") = some true)
    (tC_InvalidOperation : PySem.W.typeIn K (.ref C_InvalidOperation) = some (.type "type"))
    (q_InvalidOperation : PySem.W.excIn K C_InvalidOperation [.type "ValueError", .type "Exception", .type "BaseException", .type "object"] "ValueError.__new__" = true)
    {C_ParseError : Addr}
    (aC_ParseError : PySem.W.nsIn K mainGlobals "ParseError" = some (some (.ref C_ParseError)))
    (kC_ParseError : PySem.W.keepIn K (.ref C_ParseError) = true)
    (eC_ParseError : PySem.W.subIn K (.ref C_ParseError) (.type "BaseException") = some true)
    (tC_ParseError : PySem.W.typeIn K (.ref C_ParseError) = some (.type "type"))
    (q_ParseError : PySem.W.excIn K C_ParseError [.type "ValueError", .type "Exception", .type "BaseException", .type "object"] "ValueError.__new__" = true)
    {C_InvalidNumber : Addr}
    (aC_InvalidNumber : PySem.W.nsIn K mainGlobals "InvalidNumber" = some (some (.ref C_InvalidNumber)))
    (kC_InvalidNumber : PySem.W.keepIn K (.ref C_InvalidNumber) = true)
    (eC_InvalidNumber : PySem.W.subIn K (.ref C_InvalidNumber) (.type "BaseException") = some true)
    (tC_InvalidNumber : PySem.W.typeIn K (.ref C_InvalidNumber) = some (.type "type"))
    {I_InvalidNumber : Addr} {odI_InvalidNumber anI_InvalidNumber : Option Addr} {slI_InvalidNumber : Array (Option Value)} {ocI_InvalidNumber dcI_InvalidNumber pmI_InvalidNumber cdI_InvalidNumber ctI_InvalidNumber : Value}
    (qi_InvalidNumber : PySem.W.excInitIn K C_InvalidNumber [.type "IndexError", .type "LookupError", .type "Exception", .type "BaseException", .type "object"] "IndexError.__new__" = true)
    (ov_InvalidNumber : PySem.W.excOver K C_InvalidNumber [.type "IndexError", .type "LookupError", .type "Exception", .type "BaseException", .type "object"] = true)
    (hd_InvalidNumber : PySem.W.hasDictIn K C_InvalidNumber = true)
    (sa_InvalidNumber : PySem.W.findIn K (.ref C_InvalidNumber) "__setattr__" = some (some (.builtin "object.__setattr__")))
    (ga_InvalidNumber : PySem.W.findIn K (.ref C_InvalidNumber) "__getattribute__" = some (some (.builtin "BaseException.__getattribute__")))
    (gg_InvalidNumber : PySem.W.findIn K (.ref C_InvalidNumber) "__getattr__" = some none)
    (no_InvalidNumber : PySem.W.findIn K (.ref C_InvalidNumber) "value" = some none)
    (iC_InvalidNumber : PySem.W.findIn K (.ref C_InvalidNumber) "__init__" = some (some (.ref I_InvalidNumber)))
    (tI_InvalidNumber : PySem.W.typeIn K (.ref I_InvalidNumber) = some (.type "function"))
    (lI_InvalidNumber : K.lookup I_InvalidNumber = some ⟨ocI_InvalidNumber, odI_InvalidNumber, .func (PySem.W.fnOf "__init__" "InvalidNumber.__init__" (PySem.VIX.iA "value" ⟨15, 17, 15, 21⟩ ⟨15, 23, 15, 28⟩) (PySem.VIX.iB "value" ⟨16, 8, 16, 12⟩ ⟨16, 8, 16, 18⟩ ⟨16, 21, 16, 26⟩ ⟨16, 8, 16, 26⟩) (PySem.VIX.iS "value") .none .none dcI_InvalidNumber pmI_InvalidNumber anI_InvalidNumber cdI_InvalidNumber ctI_InvalidNumber), slI_InvalidNumber⟩)
    (cI_InvalidNumber : PySem.W.codeIn K cdI_InvalidNumber "InvalidNumber.__init__" = true)
    {C_TooMany : Addr}
    (aC_TooMany : PySem.W.nsIn K mainGlobals "TooMany" = some (some (.ref C_TooMany)))
    (kC_TooMany : PySem.W.keepIn K (.ref C_TooMany) = true)
    (eC_TooMany : PySem.W.subIn K (.ref C_TooMany) (.type "BaseException") = some true)
    (tC_TooMany : PySem.W.typeIn K (.ref C_TooMany) = some (.type "type"))
    {I_TooMany : Addr} {odI_TooMany anI_TooMany : Option Addr} {slI_TooMany : Array (Option Value)} {ocI_TooMany dcI_TooMany pmI_TooMany cdI_TooMany ctI_TooMany : Value}
    (qi_TooMany : PySem.W.excInitIn K C_TooMany [.type "OverflowError", .type "ArithmeticError", .type "Exception", .type "BaseException", .type "object"] "OverflowError.__new__" = true)
    (ov_TooMany : PySem.W.excOver K C_TooMany [.type "OverflowError", .type "ArithmeticError", .type "Exception", .type "BaseException", .type "object"] = true)
    (hd_TooMany : PySem.W.hasDictIn K C_TooMany = true)
    (sa_TooMany : PySem.W.findIn K (.ref C_TooMany) "__setattr__" = some (some (.builtin "object.__setattr__")))
    (ga_TooMany : PySem.W.findIn K (.ref C_TooMany) "__getattribute__" = some (some (.builtin "BaseException.__getattribute__")))
    (gg_TooMany : PySem.W.findIn K (.ref C_TooMany) "__getattr__" = some none)
    (no_TooMany : PySem.W.findIn K (.ref C_TooMany) "limit" = some none)
    (iC_TooMany : PySem.W.findIn K (.ref C_TooMany) "__init__" = some (some (.ref I_TooMany)))
    (tI_TooMany : PySem.W.typeIn K (.ref I_TooMany) = some (.type "function"))
    (lI_TooMany : K.lookup I_TooMany = some ⟨ocI_TooMany, odI_TooMany, .func (PySem.W.fnOf "__init__" "TooMany.__init__" (PySem.VIX.iA "limit" ⟨19, 17, 19, 21⟩ ⟨19, 23, 19, 28⟩) (PySem.VIX.iB "limit" ⟨20, 8, 20, 12⟩ ⟨20, 8, 20, 18⟩ ⟨20, 21, 20, 26⟩ ⟨20, 8, 20, 26⟩) (PySem.VIX.iS "limit") .none .none dcI_TooMany pmI_TooMany anI_TooMany cdI_TooMany ctI_TooMany), slI_TooMany⟩)
    (cI_TooMany : PySem.W.codeIn K cdI_TooMany "TooMany.__init__" = true)
    (x_InvalidOperation_InvalidOperation : PySem.W.exmOne K (.ref C_InvalidOperation) (.ref C_InvalidOperation) = some true)
    (x_InvalidOperation_InvalidNumber : PySem.W.exmOne K (.ref C_InvalidOperation) (.ref C_InvalidNumber) = some false)
    (x_InvalidOperation_TooMany : PySem.W.exmOne K (.ref C_InvalidOperation) (.ref C_TooMany) = some false)
    (x_InvalidOperation_ParseError : PySem.W.exmOne K (.ref C_InvalidOperation) (.ref C_ParseError) = some false)
    (x_ParseError_InvalidOperation : PySem.W.exmOne K (.ref C_ParseError) (.ref C_InvalidOperation) = some false)
    (x_ParseError_InvalidNumber : PySem.W.exmOne K (.ref C_ParseError) (.ref C_InvalidNumber) = some false)
    (x_ParseError_TooMany : PySem.W.exmOne K (.ref C_ParseError) (.ref C_TooMany) = some false)
    (x_ParseError_ParseError : PySem.W.exmOne K (.ref C_ParseError) (.ref C_ParseError) = some true)
    (x_InvalidNumber_InvalidOperation : PySem.W.exmOne K (.ref C_InvalidNumber) (.ref C_InvalidOperation) = some false)
    (x_InvalidNumber_InvalidNumber : PySem.W.exmOne K (.ref C_InvalidNumber) (.ref C_InvalidNumber) = some true)
    (x_InvalidNumber_TooMany : PySem.W.exmOne K (.ref C_InvalidNumber) (.ref C_TooMany) = some false)
    (x_InvalidNumber_ParseError : PySem.W.exmOne K (.ref C_InvalidNumber) (.ref C_ParseError) = some false)
    (x_TooMany_InvalidOperation : PySem.W.exmOne K (.ref C_TooMany) (.ref C_InvalidOperation) = some false)
    (x_TooMany_InvalidNumber : PySem.W.exmOne K (.ref C_TooMany) (.ref C_InvalidNumber) = some false)
    (x_TooMany_TooMany : PySem.W.exmOne K (.ref C_TooMany) (.ref C_TooMany) = some true)
    (x_TooMany_ParseError : PySem.W.exmOne K (.ref C_TooMany) (.ref C_ParseError) = some false)
    (ne__law_right_law : PP__law_right ≠ PP_law) : LawG l w K 12 63 "script" mg fa h := by
  have e := hfa.symm.trans (PySem.W.mg_of KX G a_law)
  cases e
  let c : Cn := ⟨K, fun _ => 0, fun k => match k with | 1 => C_InvalidOperation | 2 => C_ParseError | 3 => C_InvalidNumber | 4 => C_TooMany | _ => 0, fun k => match k with | 3 => some "value" | 4 => some "limit" | _ => none, [(PP__law_right, (("_law_right" : Str) ++ ".<locals>." ++ "<lambda>")), (PP_law, (("law" : Str) ++ ".<locals>." ++ "<lambda>"))]⟩
  have T : Txt mg := {
    n_abs := PySem.W.mg_none_of KX G z_abs
    n_all := PySem.W.mg_none_of KX G z_all
    n_bool := PySem.W.mg_none_of KX G z_bool
    n_enumerate := PySem.W.mg_none_of KX G z_enumerate
    n_int := PySem.W.mg_none_of KX G z_int
    n_isinstance := PySem.W.mg_none_of KX G z_isinstance
    n_len := PySem.W.mg_none_of KX G z_len
    n_max := PySem.W.mg_none_of KX G z_max
    n_min := PySem.W.mg_none_of KX G z_min
    n_ord := PySem.W.mg_none_of KX G z_ord
    n_range := PySem.W.mg_none_of KX G z_range
    n_repr := PySem.W.mg_none_of KX G z_repr
    n_str := PySem.W.mg_none_of KX G z_str
    n_tuple := PySem.W.mg_none_of KX G z_tuple
    n_zip := PySem.W.mg_none_of KX G z_zip
    g_BETWEEN := ⟨_, PySem.W.mg_of KX G g_BETWEEN⟩
    g_CHECKED := ⟨_, PySem.W.mg_of KX G g_CHECKED⟩
    g_CHECK_PRIME := ⟨_, PySem.W.mg_of KX G g_CHECK_PRIME⟩
    g_END := ⟨_, PySem.W.mg_of KX G g_END⟩
    g_FIGURES := ⟨_, PySem.W.mg_of KX G g_FIGURES⟩
    g_FIRST_SIGN := ⟨_, PySem.W.mg_of KX G g_FIRST_SIGN⟩
    g_LAST_SIGN := ⟨_, PySem.W.mg_of KX G g_LAST_SIGN⟩
    g_MOST_FRAME := g_MOST_FRAME
    g_MOST_PAYLOAD := ⟨_, PySem.W.mg_of KX G g_MOST_PAYLOAD⟩
  }
  have e_InvalidOperation : ExMK c mg "InvalidOperation" 1 := ⟨⟨_, _, _, _, PySem.F.excBase_ValueError, q_InvalidOperation, PySem.W.mg_of KX G aC_InvalidOperation, kC_InvalidOperation, eC_InvalidOperation, tC_InvalidOperation⟩, rfl⟩
  have e_ParseError : ExMK c mg "ParseError" 2 := ⟨⟨_, _, _, _, PySem.F.excBase_ValueError, q_ParseError, PySem.W.mg_of KX G aC_ParseError, kC_ParseError, eC_ParseError, tC_ParseError⟩, rfl⟩
  have tx_InvalidNumber : PySem.VIX.ExcTxt K "IndexError" "IndexError.__new__" "IndexError.__init__" [.type "IndexError", .type "LookupError", .type "Exception", .type "BaseException", .type "object"] "InvalidNumber" "value" C_InvalidNumber I_InvalidNumber :=
    { fb := PySem.F.excBase_IndexError, sf := PySem.F.store_IndexError, q := qi_InvalidNumber, ov := ov_InvalidNumber, hd := has_dict hd_InvalidNumber, sa := sa_InvalidNumber, no := no_InvalidNumber, tkr := taker_none no_InvalidNumber, iC := iC_InvalidNumber, tC := tI_InvalidNumber, kC := kC_InvalidNumber, exC := eC_InvalidNumber, tyC := tC_InvalidNumber, fn := ⟨_, _, _, _, _, _, _, _, _, _, _, _, _, _, lI_InvalidNumber, cI_InvalidNumber⟩, bnd := fun _ _ _ _ _ _ _ _ _ _ _ _ _ _ => by first | rfl | with_unfolding_all rfl, fs := by decide, fd := by decide }
  have e_InvalidNumber : ExFK c mg "InvalidNumber" 3 := ⟨⟨_, _, _, _, _, _, _, tx_InvalidNumber, PySem.W.mg_of KX G aC_InvalidNumber, rfl⟩⟩
  have fo_InvalidNumber : FldOk c 3 "value" := ⟨⟨ga_InvalidNumber, gg_InvalidNumber, eC_InvalidNumber, hd_InvalidNumber⟩, no_InvalidNumber, rfl⟩
  have tx_TooMany : PySem.VIX.ExcTxt K "OverflowError" "OverflowError.__new__" "OverflowError.__init__" [.type "OverflowError", .type "ArithmeticError", .type "Exception", .type "BaseException", .type "object"] "TooMany" "limit" C_TooMany I_TooMany :=
    { fb := PySem.F.excBase_OverflowError, sf := PySem.F.store_OverflowError, q := qi_TooMany, ov := ov_TooMany, hd := has_dict hd_TooMany, sa := sa_TooMany, no := no_TooMany, tkr := taker_none no_TooMany, iC := iC_TooMany, tC := tI_TooMany, kC := kC_TooMany, exC := eC_TooMany, tyC := tC_TooMany, fn := ⟨_, _, _, _, _, _, _, _, _, _, _, _, _, _, lI_TooMany, cI_TooMany⟩, bnd := fun _ _ _ _ _ _ _ _ _ _ _ _ _ _ => by first | rfl | with_unfolding_all rfl, fs := by decide, fd := by decide }
  have e_TooMany : ExFK c mg "TooMany" 4 := ⟨⟨_, _, _, _, _, _, _, tx_TooMany, PySem.W.mg_of KX G aC_TooMany, rfl⟩⟩
  have fo_TooMany : FldOk c 4 "limit" := ⟨⟨ga_TooMany, gg_TooMany, eC_TooMany, hd_TooMany⟩, no_TooMany, rfl⟩
  have so : SubOk c subT := by
    refine ⟨fun k j b h => ?_, fun k j h n => ?_⟩
    · unfold subT at h
      split at h
      · cases h; exact x_InvalidOperation_InvalidOperation
      · cases h; exact x_InvalidOperation_InvalidNumber
      · cases h; exact x_InvalidOperation_TooMany
      · cases h; exact x_InvalidOperation_ParseError
      · cases h; exact x_ParseError_InvalidOperation
      · cases h; exact x_ParseError_InvalidNumber
      · cases h; exact x_ParseError_TooMany
      · cases h; exact x_ParseError_ParseError
      · cases h; exact x_InvalidNumber_InvalidOperation
      · cases h; exact x_InvalidNumber_InvalidNumber
      · cases h; exact x_InvalidNumber_TooMany
      · cases h; exact x_InvalidNumber_ParseError
      · cases h; exact x_TooMany_InvalidOperation
      · cases h; exact x_TooMany_InvalidNumber
      · cases h; exact x_TooMany_TooMany
      · cases h; exact x_TooMany_ParseError
      · cases h
    · unfold subT at h
      split at h
      · exact ⟨rfl, rfl⟩
      · cases h
      · cases h
      · cases h
      · cases h
      · cases h
      · cases h
      · exact ⟨rfl, rfl⟩
      · cases h
      · exact ⟨rfl, rfl⟩
      · cases h
      · cases h
      · cases h
      · cases h
      · exact ⟨rfl, rfl⟩
      · cases h
      · cases h
  have M : MetF c mg := { is := ⟨fA__law_met, _, _, _, _, _, _, _, _, _, PySem.W.mg_of KX G a__law_met, k__law_met, l__law_met, c__law_met⟩, so := so, rp := PySem.W.mg_none_of KX G z_repr, m_InvalidOperation := PySem.W.mg_of KX G aC_InvalidOperation, m_InvalidNumber := PySem.W.mg_of KX G aC_InvalidNumber, m_TooMany := PySem.W.mg_of KX G aC_TooMany, m_ParseError := PySem.W.mg_of KX G aC_ParseError, f_InvalidNumber := fo_InvalidNumber, f_TooMany := fo_TooMany }
  refine ⟨PySem.W.fnOf "law" "law" (defArgs s_law) (defBody s_law) (defScope s_law) .none kV_law dc_law pm_law an_law (.ref cc_law) ct_law, [(cc__law_right, PP__law_right), (cc_law, PP_law)], spF c 1 f_law, ?hT, ?nT, ?cT, fun s v => .of_eq rfl, fun H a ns h63 _ tabs scr => ?sp, fun base hb hns TB => ?fn⟩
  case hT => intro p hp; simp only [List.mem_cons, List.not_mem_nil, or_false] at hp; rcases hp with rfl | rfl; exact tb__law_right; exact tb_law
  case nT => intro p hp; simp only [List.mem_cons, List.not_mem_nil, or_false] at hp; rcases hp with rfl | rfl; exact nt__law_right; exact nt_law
  case cT => intro p hp; simp only [List.mem_cons, List.not_mem_nil, or_false] at hp; rcases hp with rfl | rfl; exact code_hd KX lc__law_right h__law_right; exact code_hd KX lc_law h_law
  case sp =>
    obtain ⟨fin, e⟩ := pure_law ns h63
    exact law_sp (c := c) e scr (fun p hp => by simp only [c, List.mem_cons, List.not_mem_nil, or_false] at hp; rcases hp with rfl | rfl; exact tabs (cc__law_right, PP__law_right) (by simp); exact tabs (cc_law, PP_law) (by simp))
  case fn =>
    have F__law_vat := fun_mk (st := s__law_vat) l__law_vat c__law_vat k__law_vat
    have g__law_vat := ok__law_vat (P := l.prog) (w := w) (mg := mg) (base := base) (c := c) F__law_vat T 
    have d__law_vat : DefF l.prog w c mg base "_law_vat" 2 f__law_vat 1 := ⟨fA__law_vat, _, _, g__law_vat, PySem.W.mg_of KX G a__law_vat, k__law_vat, F__law_vat.binds (ps := ["script", "spot"]) fun _ _ _ _ _ _ us hl => match us, hl with | [_, _], _ => rfl, rfl⟩
    have F__law_dip := fun_mk (st := s__law_dip) l__law_dip c__law_dip k__law_dip
    have g__law_dip := ok__law_dip (P := l.prog) (w := w) (mg := mg) (base := base) (c := c) F__law_dip T 
    have d__law_dip : DefF l.prog w c mg base "_law_dip" 2 f__law_dip 1 := ⟨fA__law_dip, _, _, g__law_dip, PySem.W.mg_of KX G a__law_dip, k__law_dip, F__law_dip.binds (ps := ["vat", "total"]) fun _ _ _ _ _ _ us hl => match us, hl with | [_, _], _ => rfl, rfl⟩
    have F__law_scoop := fun_mk (st := s__law_scoop) l__law_scoop c__law_scoop k__law_scoop
    have g__law_scoop := ok__law_scoop (P := l.prog) (w := w) (mg := mg) (base := base) (c := c) F__law_scoop T d__law_dip
    have d__law_scoop : DefF l.prog w c mg base "_law_scoop" 2 f__law_scoop 2 := ⟨fA__law_scoop, _, _, g__law_scoop, PySem.W.mg_of KX G a__law_scoop, k__law_scoop, F__law_scoop.binds (ps := ["vat", "items"]) fun _ _ _ _ _ _ us hl => match us, hl with | [_, _], _ => rfl, rfl⟩
    have F_is_integer := fun_mk (st := s_is_integer) l_is_integer c_is_integer k_is_integer
    have g_is_integer := ok_is_integer (P := l.prog) (w := w) (mg := mg) (base := base) (c := c) F_is_integer T 
    have d_is_integer : DefF l.prog w c mg base "is_integer" 1 f_is_integer 1 := ⟨fA_is_integer, _, _, g_is_integer, PySem.W.mg_of KX G a_is_integer, k_is_integer, F_is_integer.binds (ps := ["value"]) fun _ _ _ _ _ _ us hl => match us, hl with | [_], _ => rfl, rfl⟩
    have F_is_between := fun_mk (st := s_is_between) l_is_between c_is_between k_is_between
    have g_is_between := ok_is_between (P := l.prog) (w := w) (mg := mg) (base := base) (c := c) F_is_between T d_is_integer
    have d_is_between : DefF l.prog w c mg base "is_between" 3 f_is_between 2 := ⟨fA_is_between, _, _, g_is_between, PySem.W.mg_of KX G a_is_between, k_is_between, F_is_between.binds (ps := ["value", "low", "high"]) fun _ _ _ _ _ _ us hl => match us, hl with | [_, _, _], _ => rfl, rfl⟩
    have F_is_payload_text := fun_mk (st := s_is_payload_text) l_is_payload_text c_is_payload_text k_is_payload_text
    have g_is_payload_text := ok_is_payload_text (P := l.prog) (w := w) (mg := mg) (base := base) (c := c) F_is_payload_text T 
    have d_is_payload_text : DefF l.prog w c mg base "is_payload_text" 1 f_is_payload_text 1 := ⟨fA_is_payload_text, _, _, g_is_payload_text, PySem.W.mg_of KX G a_is_payload_text, k_is_payload_text, F_is_payload_text.binds (ps := ["value"]) fun _ _ _ _ _ _ us hl => match us, hl with | [_], _ => rfl, rfl⟩
    have F_require_payload := fun_mk (st := s_require_payload) l_require_payload c_require_payload k_require_payload
    have g_require_payload := ok_require_payload (P := l.prog) (w := w) (mg := mg) (base := base) (c := c) F_require_payload T d_is_payload_text e_InvalidOperation
    have d_require_payload : DefF l.prog w c mg base "require_payload" 1 f_require_payload 2 := ⟨fA_require_payload, _, _, g_require_payload, PySem.W.mg_of KX G a_require_payload, k_require_payload, F_require_payload.binds (ps := ["payload"]) fun _ _ _ _ _ _ us hl => match us, hl with | [_], _ => rfl, rfl⟩
    have F_check_in := fun_mk (st := s_check_in) l_check_in c_check_in k_check_in
    have g_check_in := ok_check_in (P := l.prog) (w := w) (mg := mg) (base := base) (c := c) F_check_in T 
    have d_check_in : DefF l.prog w c mg base "check_in" 1 f_check_in 1 := ⟨fA_check_in, _, _, g_check_in, PySem.W.mg_of KX G a_check_in, k_check_in, F_check_in.binds (ps := ["text"]) fun _ _ _ _ _ _ us hl => match us, hl with | [_], _ => rfl, rfl⟩
    have F_line_of := fun_mk (st := s_line_of) l_line_of c_line_of k_line_of
    have g_line_of := ok_line_of (P := l.prog) (w := w) (mg := mg) (base := base) (c := c) F_line_of T d_check_in
    have d_line_of : DefF l.prog w c mg base "line_of" 2 f_line_of 2 := ⟨fA_line_of, _, _, g_line_of, PySem.W.mg_of KX G a_line_of, k_line_of, F_line_of.binds (ps := ["number", "payload"]) fun _ _ _ _ _ _ us hl => match us, hl with | [_, _], _ => rfl, rfl⟩
    have F_frame_of := fun_mk (st := s_frame_of) l_frame_of c_frame_of k_frame_of
    have g_frame_of := ok_frame_of (P := l.prog) (w := w) (mg := mg) (base := base) (c := c) F_frame_of T d_is_between d_require_payload d_line_of e_InvalidNumber
    have d_frame_of : DefF l.prog w c mg base "frame_of" 2 f_frame_of 3 := ⟨fA_frame_of, _, _, g_frame_of, PySem.W.mg_of KX G a_frame_of, k_frame_of, F_frame_of.binds (ps := ["number", "payload"]) fun _ _ _ _ _ _ us hl => match us, hl with | [_, _], _ => rfl, rfl⟩
    have F_figures_ahead := fun_mk (st := s_figures_ahead) l_figures_ahead c_figures_ahead k_figures_ahead
    have g_figures_ahead := ok_figures_ahead (P := l.prog) (w := w) (mg := mg) (base := base) (c := c) F_figures_ahead T 
    have d_figures_ahead : DefF l.prog w c mg base "figures_ahead" 1 f_figures_ahead 1 := ⟨fA_figures_ahead, _, _, g_figures_ahead, PySem.W.mg_of KX G a_figures_ahead, k_figures_ahead, F_figures_ahead.binds (ps := ["text"]) fun _ _ _ _ _ _ us hl => match us, hl with | [_], _ => rfl, rfl⟩
    have F_pair_of_line := fun_mk (st := s_pair_of_line) l_pair_of_line c_pair_of_line k_pair_of_line
    have g_pair_of_line := ok_pair_of_line (P := l.prog) (w := w) (mg := mg) (base := base) (c := c) F_pair_of_line T d_figures_ahead d_is_payload_text d_line_of
    have d_pair_of_line : DefF l.prog w c mg base "pair_of_line" 1 f_pair_of_line 3 := ⟨fA_pair_of_line, _, _, g_pair_of_line, PySem.W.mg_of KX G a_pair_of_line, k_pair_of_line, F_pair_of_line.binds (ps := ["line"]) fun _ _ _ _ _ _ us hl => match us, hl with | [_], _ => rfl, rfl⟩
    have F_read_line := fun_mk (st := s_read_line) l_read_line c_read_line k_read_line
    have g_read_line := ok_read_line (P := l.prog) (w := w) (mg := mg) (base := base) (c := c) F_read_line T d_pair_of_line e_ParseError
    have d_read_line : DefF l.prog w c mg base "read_line" 1 f_read_line 4 := ⟨fA_read_line, _, _, g_read_line, PySem.W.mg_of KX G a_read_line, k_read_line, F_read_line.binds (ps := ["line"]) fun _ _ _ _ _ _ us hl => match us, hl with | [_], _ => rfl, rfl⟩
    have F_are_numbered := fun_mk (st := s_are_numbered) l_are_numbered c_are_numbered k_are_numbered
    have g_are_numbered := ok_are_numbered (P := l.prog) (w := w) (mg := mg) (base := base) (c := c) F_are_numbered T d_is_between d_is_payload_text
    have d_are_numbered : DefF l.prog w c mg base "are_numbered" 3 f_are_numbered 3 := ⟨fA_are_numbered, _, _, g_are_numbered, PySem.W.mg_of KX G a_are_numbered, k_are_numbered, F_are_numbered.binds (ps := ["value", "low", "high"]) fun _ _ _ _ _ _ us hl => match us, hl with | [_, _, _], _ => rfl, rfl⟩
    have F_is_giving_end := fun_mk (st := s_is_giving_end) l_is_giving_end c_is_giving_end k_is_giving_end
    have g_is_giving_end := ok_is_giving_end (P := l.prog) (w := w) (mg := mg) (base := base) (c := c) F_is_giving_end T d_is_between d_are_numbered
    have d_is_giving_end : DefF l.prog w c mg base "is_giving_end" 1 f_is_giving_end 4 := ⟨fA_is_giving_end, _, _, g_is_giving_end, PySem.W.mg_of KX G a_is_giving_end, k_is_giving_end, F_is_giving_end.binds (ps := ["value"]) fun _ _ _ _ _ _ us hl => match us, hl with | [_], _ => rfl, rfl⟩
    have F_require_giving := fun_mk (st := s_require_giving) l_require_giving c_require_giving k_require_giving
    have g_require_giving := ok_require_giving (P := l.prog) (w := w) (mg := mg) (base := base) (c := c) F_require_giving T d_is_giving_end e_InvalidOperation
    have d_require_giving : DefF l.prog w c mg base "require_giving" 1 f_require_giving 5 := ⟨fA_require_giving, _, _, g_require_giving, PySem.W.mg_of KX G a_require_giving, k_require_giving, F_require_giving.binds (ps := ["end"]) fun _ _ _ _ _ _ us hl => match us, hl with | [_], _ => rfl, rfl⟩
    have F_give := fun_mk (st := s_give) l_give c_give k_give
    have g_give := ok_give (P := l.prog) (w := w) (mg := mg) (base := base) (c := c) F_give T d_require_giving d_require_payload d_line_of e_TooMany
    have d_give : DefF l.prog w c mg base "give" 2 f_give 6 := ⟨fA_give, _, _, g_give, PySem.W.mg_of KX G a_give, k_give, F_give.binds (ps := ["end", "payload"]) fun _ _ _ _ _ _ us hl => match us, hl with | [_, _], _ => rfl, rfl⟩
    have F_waiting_frames := fun_mk (st := s_waiting_frames) l_waiting_frames c_waiting_frames k_waiting_frames
    have g_waiting_frames := ok_waiting_frames (P := l.prog) (w := w) (mg := mg) (base := base) (c := c) F_waiting_frames T d_require_giving
    have d_waiting_frames : DefF l.prog w c mg base "waiting_frames" 1 f_waiting_frames 6 := ⟨fA_waiting_frames, _, _, g_waiting_frames, PySem.W.mg_of KX G a_waiting_frames, k_waiting_frames, F_waiting_frames.binds (ps := ["end"]) fun _ _ _ _ _ _ us hl => match us, hl with | [_], _ => rfl, rfl⟩
    have F_told := fun_mk (st := s_told) l_told c_told k_told
    have g_told := ok_told (P := l.prog) (w := w) (mg := mg) (base := base) (c := c) F_told T d_require_giving d_is_between e_InvalidNumber
    have d_told : DefF l.prog w c mg base "told" 2 f_told 6 := ⟨fA_told, _, _, g_told, PySem.W.mg_of KX G a_told, k_told, F_told.binds (ps := ["end", "number"]) fun _ _ _ _ _ _ us hl => match us, hl with | [_, _], _ => rfl, rfl⟩
    have F_is_taking_end := fun_mk (st := s_is_taking_end) l_is_taking_end c_is_taking_end k_is_taking_end
    have g_is_taking_end := ok_is_taking_end (P := l.prog) (w := w) (mg := mg) (base := base) (c := c) F_is_taking_end T d_is_between d_are_numbered
    have d_is_taking_end : DefF l.prog w c mg base "is_taking_end" 1 f_is_taking_end 4 := ⟨fA_is_taking_end, _, _, g_is_taking_end, PySem.W.mg_of KX G a_is_taking_end, k_is_taking_end, F_is_taking_end.binds (ps := ["value"]) fun _ _ _ _ _ _ us hl => match us, hl with | [_], _ => rfl, rfl⟩
    have F_line_taken := fun_mk (st := s_line_taken) l_line_taken c_line_taken k_line_taken
    have g_line_taken := ok_line_taken (P := l.prog) (w := w) (mg := mg) (base := base) (c := c) F_line_taken T d_pair_of_line
    have d_line_taken : DefF l.prog w c mg base "line_taken" 3 f_line_taken 4 := ⟨fA_line_taken, _, _, g_line_taken, PySem.W.mg_of KX G a_line_taken, k_line_taken, F_line_taken.binds (ps := ["wanted", "held", "line"]) fun _ _ _ _ _ _ us hl => match us, hl with | [_, _, _], _ => rfl, rfl⟩
    have F_signs_taken := fun_mk (st := s_signs_taken) l_signs_taken c_signs_taken k_signs_taken
    have g_signs_taken := ok_signs_taken (P := l.prog) (w := w) (mg := mg) (base := base) (c := c) F_signs_taken T d_line_taken
    have d_signs_taken : DefF l.prog w c mg base "signs_taken" 2 f_signs_taken 5 := ⟨fA_signs_taken, _, _, g_signs_taken, PySem.W.mg_of KX G a_signs_taken, k_signs_taken, F_signs_taken.binds (ps := ["end", "signs"]) fun _ _ _ _ _ _ us hl => match us, hl with | [_, _], _ => rfl, rfl⟩
    have F_take := fun_mk (st := s_take) l_take c_take k_take
    have g_take := ok_take (P := l.prog) (w := w) (mg := mg) (base := base) (c := c) F_take T d_is_taking_end d_signs_taken e_InvalidOperation e_ParseError
    have d_take : DefF l.prog w c mg base "take" 2 f_take 6 := ⟨fA_take, _, _, g_take, PySem.W.mg_of KX G a_take, k_take, F_take.binds (ps := ["end", "signs"]) fun _ _ _ _ _ _ us hl => match us, hl with | [_, _], _ => rfl, rfl⟩
    have F_is_payload := fun_mk (st := s_is_payload) l_is_payload c_is_payload k_is_payload
    have g_is_payload := ok_is_payload (P := l.prog) (w := w) (mg := mg) (base := base) (c := c) F_is_payload T d_is_payload_text
    have d_is_payload : DefF l.prog w c mg base "is_payload" 1 f_is_payload 2 := ⟨fA_is_payload, _, _, g_is_payload, PySem.W.mg_of KX G a_is_payload, k_is_payload, F_is_payload.binds (ps := ["value"]) fun _ _ _ _ _ _ us hl => match us, hl with | [_], _ => rfl, rfl⟩
    have F_is_taking := fun_mk (st := s_is_taking) l_is_taking c_is_taking k_is_taking
    have g_is_taking := ok_is_taking (P := l.prog) (w := w) (mg := mg) (base := base) (c := c) F_is_taking T d_is_taking_end
    have d_is_taking : DefF l.prog w c mg base "is_taking" 1 f_is_taking 5 := ⟨fA_is_taking, _, _, g_is_taking, PySem.W.mg_of KX G a_is_taking, k_is_taking, F_is_taking.binds (ps := ["value"]) fun _ _ _ _ _ _ us hl => match us, hl with | [_], _ => rfl, rfl⟩
    have F_is_giving := fun_mk (st := s_is_giving) l_is_giving c_is_giving k_is_giving
    have g_is_giving := ok_is_giving (P := l.prog) (w := w) (mg := mg) (base := base) (c := c) F_is_giving T d_is_giving_end
    have d_is_giving : DefF l.prog w c mg base "is_giving" 1 f_is_giving 5 := ⟨fA_is_giving, _, _, g_is_giving, PySem.W.mg_of KX G a_is_giving, k_is_giving, F_is_giving.binds (ps := ["value"]) fun _ _ _ _ _ _ us hl => match us, hl with | [_], _ => rfl, rfl⟩
    have g__law_right := ok__law_right (P := l.prog) (w := w) (mg := mg) (base := base) (c := c) (PP := PP__law_right) l__law_right c__law_right T M (TB (cc__law_right, PP__law_right) (by simp)) (by simp [c]) (by intro p hp e; simp only [c, List.mem_cons, List.not_mem_nil, or_false] at hp; rcases hp with rfl | rfl; rfl; exact absurd e.symm ne__law_right_law) d__law_scoop d_frame_of d_read_line d_give d_waiting_frames d_told d_take d_is_payload d_is_taking d_is_giving
    have d__law_right : DefF l.prog w c mg base "_law_right" 1 f__law_right 9 := ⟨fA__law_right, _, _, g__law_right, PySem.W.mg_of KX G a__law_right, k__law_right, (fun_mk (st := s__law_right) l__law_right c__law_right k__law_right).binds (ps := ["vat"]) fun _ _ _ _ _ _ us hl => match us, hl with | [_], _ => rfl, rfl⟩
    have g_law := ok_law (P := l.prog) (w := w) (mg := mg) (base := base) (c := c) (PP := PP_law) l_law c_law T M (TB (cc_law, PP_law) (by simp)) (by simp [c]) (by intro p hp e; simp only [c, List.mem_cons, List.not_mem_nil, or_false] at hp; rcases hp with rfl | rfl; exact absurd e ne__law_right_law; rfl) d__law_vat d__law_right d_give d_told
    have d_law : DefF l.prog w c mg base "law" 1 f_law 12 := ⟨fa, _, _, g_law, PySem.W.mg_of KX G a_law, k_law, (fun_mk (st := s_law) l_law c_law k_law).binds (ps := ["script"]) fun _ _ _ _ _ _ us hl => match us, hl with | [_], _ => rfl, rfl⟩
    exact g_law
end Z

open PySem PySem.W PyProof.Rows VI in
set_option maxRecDepth 100000 in
set_option maxHeartbeats 0 in
theorem PySem.Challenge.cw_firmwide_k56_refusals_of_frames_holds : PySem.Challenge.rw_firmwide_k56_refusals_of_frames.Holds := by
  w_on; o_law; k_head; (case hw => w_witness2)
  k_fill
  refine VI.walk_G (l := PySem.Challenge.rw_firmwide_k56_refusals_of_frames) (n := 63) (k := 12) (x := "script") rfl (by decide) rfl ⟨rfl, by decide, by decide⟩ (fun w h Y => PySem.W.km_in_of Y) ?F
  case F =>
    intro w mg fa h Y XP KX G hmg
    have tb := PySem.W.km_tabs_of Y
    refine' Z.all_mk KX G hmg ?a__law_vat ?l__law_vat ?c__law_vat ?k__law_vat ?a__law_dip ?l__law_dip ?c__law_dip ?k__law_dip ?a__law_scoop ?l__law_scoop ?c__law_scoop ?k__law_scoop ?a_is_integer ?l_is_integer ?c_is_integer ?k_is_integer ?a_is_between ?l_is_between ?c_is_between ?k_is_between ?a_is_payload_text ?l_is_payload_text ?c_is_payload_text ?k_is_payload_text ?a_require_payload ?l_require_payload ?c_require_payload ?k_require_payload ?a_check_in ?l_check_in ?c_check_in ?k_check_in ?a_line_of ?l_line_of ?c_line_of ?k_line_of ?a_frame_of ?l_frame_of ?c_frame_of ?k_frame_of ?a_figures_ahead ?l_figures_ahead ?c_figures_ahead ?k_figures_ahead ?a_pair_of_line ?l_pair_of_line ?c_pair_of_line ?k_pair_of_line ?a_read_line ?l_read_line ?c_read_line ?k_read_line ?a_are_numbered ?l_are_numbered ?c_are_numbered ?k_are_numbered ?a_is_giving_end ?l_is_giving_end ?c_is_giving_end ?k_is_giving_end ?a_require_giving ?l_require_giving ?c_require_giving ?k_require_giving ?a_give ?l_give ?c_give ?k_give ?a_waiting_frames ?l_waiting_frames ?c_waiting_frames ?k_waiting_frames ?a_told ?l_told ?c_told ?k_told ?a_is_taking_end ?l_is_taking_end ?c_is_taking_end ?k_is_taking_end ?a_line_taken ?l_line_taken ?c_line_taken ?k_line_taken ?a_signs_taken ?l_signs_taken ?c_signs_taken ?k_signs_taken ?a_take ?l_take ?c_take ?k_take ?a_is_payload ?l_is_payload ?c_is_payload ?k_is_payload ?a_is_taking ?l_is_taking ?c_is_taking ?k_is_taking ?a_is_giving ?l_is_giving ?c_is_giving ?k_is_giving ?a__law_right ?l__law_right ?c__law_right ?k__law_right ?lc__law_right ?h__law_right ?nt__law_right ?tb__law_right ?a_law ?l_law ?c_law ?k_law ?lc_law ?h_law ?nt_law ?tb_law ?a__law_met ?l__law_met ?c__law_met ?k__law_met ?z_abs ?z_all ?z_bool ?z_enumerate ?z_int ?z_isinstance ?z_len ?z_max ?z_min ?z_ord ?z_range ?z_repr ?z_str ?z_tuple ?z_zip ?g_BETWEEN ?g_CHECKED ?g_CHECK_PRIME ?g_END ?g_FIGURES ?g_FIRST_SIGN ?g_LAST_SIGN ?g_MOST_FRAME ?g_MOST_PAYLOAD ?aC_InvalidOperation ?kC_InvalidOperation ?eC_InvalidOperation ?tC_InvalidOperation ?q_InvalidOperation ?aC_ParseError ?kC_ParseError ?eC_ParseError ?tC_ParseError ?q_ParseError ?aC_InvalidNumber ?kC_InvalidNumber ?eC_InvalidNumber ?tC_InvalidNumber ?qi_InvalidNumber ?ov_InvalidNumber ?hd_InvalidNumber ?sa_InvalidNumber ?ga_InvalidNumber ?gg_InvalidNumber ?no_InvalidNumber ?iC_InvalidNumber ?tI_InvalidNumber ?lI_InvalidNumber ?cI_InvalidNumber ?aC_TooMany ?kC_TooMany ?eC_TooMany ?tC_TooMany ?qi_TooMany ?ov_TooMany ?hd_TooMany ?sa_TooMany ?ga_TooMany ?gg_TooMany ?no_TooMany ?iC_TooMany ?tI_TooMany ?lI_TooMany ?cI_TooMany ?x_InvalidOperation_InvalidOperation ?x_InvalidOperation_InvalidNumber ?x_InvalidOperation_TooMany ?x_InvalidOperation_ParseError ?x_ParseError_InvalidOperation ?x_ParseError_InvalidNumber ?x_ParseError_TooMany ?x_ParseError_ParseError ?x_InvalidNumber_InvalidOperation ?x_InvalidNumber_InvalidNumber ?x_InvalidNumber_TooMany ?x_InvalidNumber_ParseError ?x_TooMany_InvalidOperation ?x_TooMany_InvalidNumber ?x_TooMany_TooMany ?x_TooMany_ParseError ?ne__law_right_law
    (case a__law_vat => k_is)
    (case l__law_vat => k_is)
    (case c__law_vat => k_is)
    (case k__law_vat => k_is)
    (case a__law_dip => k_is)
    (case l__law_dip => k_is)
    (case c__law_dip => k_is)
    (case k__law_dip => k_is)
    (case a__law_scoop => k_is)
    (case l__law_scoop => k_is)
    (case c__law_scoop => k_is)
    (case k__law_scoop => k_is)
    (case a_is_integer => k_is)
    (case l_is_integer => k_is)
    (case c_is_integer => k_is)
    (case k_is_integer => k_is)
    (case a_is_between => k_is)
    (case l_is_between => k_is)
    (case c_is_between => k_is)
    (case k_is_between => k_is)
    (case a_is_payload_text => k_is)
    (case l_is_payload_text => k_is)
    (case c_is_payload_text => k_is)
    (case k_is_payload_text => k_is)
    (case a_require_payload => k_is)
    (case l_require_payload => k_is)
    (case c_require_payload => k_is)
    (case k_require_payload => k_is)
    (case a_check_in => k_is)
    (case l_check_in => k_is)
    (case c_check_in => k_is)
    (case k_check_in => k_is)
    (case a_line_of => k_is)
    (case l_line_of => k_is)
    (case c_line_of => k_is)
    (case k_line_of => k_is)
    (case a_frame_of => k_is)
    (case l_frame_of => k_is)
    (case c_frame_of => k_is)
    (case k_frame_of => k_is)
    (case a_figures_ahead => k_is)
    (case l_figures_ahead => k_is)
    (case c_figures_ahead => k_is)
    (case k_figures_ahead => k_is)
    (case a_pair_of_line => k_is)
    (case l_pair_of_line => k_is)
    (case c_pair_of_line => k_is)
    (case k_pair_of_line => k_is)
    (case a_read_line => k_is)
    (case l_read_line => k_is)
    (case c_read_line => k_is)
    (case k_read_line => k_is)
    (case a_are_numbered => k_is)
    (case l_are_numbered => k_is)
    (case c_are_numbered => k_is)
    (case k_are_numbered => k_is)
    (case a_is_giving_end => k_is)
    (case l_is_giving_end => k_is)
    (case c_is_giving_end => k_is)
    (case k_is_giving_end => k_is)
    (case a_require_giving => k_is)
    (case l_require_giving => k_is)
    (case c_require_giving => k_is)
    (case k_require_giving => k_is)
    (case a_give => k_is)
    (case l_give => k_is)
    (case c_give => k_is)
    (case k_give => k_is)
    (case a_waiting_frames => k_is)
    (case l_waiting_frames => k_is)
    (case c_waiting_frames => k_is)
    (case k_waiting_frames => k_is)
    (case a_told => k_is)
    (case l_told => k_is)
    (case c_told => k_is)
    (case k_told => k_is)
    (case a_is_taking_end => k_is)
    (case l_is_taking_end => k_is)
    (case c_is_taking_end => k_is)
    (case k_is_taking_end => k_is)
    (case a_line_taken => k_is)
    (case l_line_taken => k_is)
    (case c_line_taken => k_is)
    (case k_line_taken => k_is)
    (case a_signs_taken => k_is)
    (case l_signs_taken => k_is)
    (case c_signs_taken => k_is)
    (case k_signs_taken => k_is)
    (case a_take => k_is)
    (case l_take => k_is)
    (case c_take => k_is)
    (case k_take => k_is)
    (case a_is_payload => k_is)
    (case l_is_payload => k_is)
    (case c_is_payload => k_is)
    (case k_is_payload => k_is)
    (case a_is_taking => k_is)
    (case l_is_taking => k_is)
    (case c_is_taking => k_is)
    (case k_is_taking => k_is)
    (case a_is_giving => k_is)
    (case l_is_giving => k_is)
    (case c_is_giving => k_is)
    (case k_is_giving => k_is)
    (case a__law_right => k_is)
    (case l__law_right => k_is)
    (case c__law_right => k_is)
    (case k__law_right => k_is)
    (case lc__law_right => k_is)
    (case h__law_right => exact ⟨rfl, _, _, _, _, _, _, _, rfl, rfl, rfl, rfl, rfl, trivial, by decide⟩)
    (case nt__law_right => kernel_rfl)
    (case tb__law_right => exact tb _ (by simp))
    (case a_law => k_is)
    (case l_law => k_is)
    (case c_law => k_is)
    (case k_law => k_is)
    (case lc_law => k_is)
    (case h_law => exact ⟨rfl, _, _, _, _, _, _, _, rfl, rfl, rfl, rfl, rfl, trivial, by decide⟩)
    (case nt_law => kernel_rfl)
    (case tb_law => exact tb _ (by simp))
    (case a__law_met => k_is)
    (case l__law_met => k_is)
    (case c__law_met => k_is)
    (case k__law_met => k_is)
    (case z_abs => k_is)
    (case z_all => k_is)
    (case z_bool => k_is)
    (case z_enumerate => k_is)
    (case z_int => k_is)
    (case z_isinstance => k_is)
    (case z_len => k_is)
    (case z_max => k_is)
    (case z_min => k_is)
    (case z_ord => k_is)
    (case z_range => k_is)
    (case z_repr => k_is)
    (case z_str => k_is)
    (case z_tuple => k_is)
    (case z_zip => k_is)
    (case g_BETWEEN => k_is)
    (case g_CHECKED => k_is)
    (case g_CHECK_PRIME => k_is)
    (case g_END => k_is)
    (case g_FIGURES => k_is)
    (case g_FIRST_SIGN => k_is)
    (case g_LAST_SIGN => k_is)
    (case g_MOST_FRAME => exact loose_int XP.2 (by simp))
    (case g_MOST_PAYLOAD => k_is)
    (case aC_InvalidOperation => k_is)
    (case kC_InvalidOperation => k_is)
    (case eC_InvalidOperation => k_is)
    (case tC_InvalidOperation => k_is)
    (case q_InvalidOperation => k_exc)
    (case aC_ParseError => k_is)
    (case kC_ParseError => k_is)
    (case eC_ParseError => k_is)
    (case tC_ParseError => k_is)
    (case q_ParseError => k_exc)
    (case aC_InvalidNumber => k_is)
    (case kC_InvalidNumber => k_is)
    (case eC_InvalidNumber => k_is)
    (case tC_InvalidNumber => k_is)
    (case qi_InvalidNumber => kernel_rfl)
    (case ov_InvalidNumber => kernel_rfl)
    (case hd_InvalidNumber => k_is)
    (case sa_InvalidNumber => k_is)
    (case ga_InvalidNumber => k_is)
    (case gg_InvalidNumber => k_is)
    (case no_InvalidNumber => k_is)
    (case iC_InvalidNumber => k_is)
    (case tI_InvalidNumber => k_is)
    (case lI_InvalidNumber => k_is)
    (case cI_InvalidNumber => k_is)
    (case aC_TooMany => k_is)
    (case kC_TooMany => k_is)
    (case eC_TooMany => k_is)
    (case tC_TooMany => k_is)
    (case qi_TooMany => kernel_rfl)
    (case ov_TooMany => kernel_rfl)
    (case hd_TooMany => k_is)
    (case sa_TooMany => k_is)
    (case ga_TooMany => k_is)
    (case gg_TooMany => k_is)
    (case no_TooMany => k_is)
    (case iC_TooMany => k_is)
    (case tI_TooMany => k_is)
    (case lI_TooMany => k_is)
    (case cI_TooMany => k_is)
    (case x_InvalidOperation_InvalidOperation => kernel_rfl)
    (case x_InvalidOperation_InvalidNumber => kernel_rfl)
    (case x_InvalidOperation_TooMany => kernel_rfl)
    (case x_InvalidOperation_ParseError => kernel_rfl)
    (case x_ParseError_InvalidOperation => kernel_rfl)
    (case x_ParseError_InvalidNumber => kernel_rfl)
    (case x_ParseError_TooMany => kernel_rfl)
    (case x_ParseError_ParseError => kernel_rfl)
    (case x_InvalidNumber_InvalidOperation => kernel_rfl)
    (case x_InvalidNumber_InvalidNumber => kernel_rfl)
    (case x_InvalidNumber_TooMany => kernel_rfl)
    (case x_InvalidNumber_ParseError => kernel_rfl)
    (case x_TooMany_InvalidOperation => kernel_rfl)
    (case x_TooMany_InvalidNumber => kernel_rfl)
    (case x_TooMany_TooMany => kernel_rfl)
    (case x_TooMany_ParseError => kernel_rfl)
    (case ne__law_right_law => decide)
