import PyProof.Rows.All
import Wide.All
import OpenK.AllK
import Wide.FinOn
import KE.KStateDown
import Lean
import HandS.Comp
import HandS.ForMost
import HandS.Exc
import HandS.WordsExc
import HandS.TryOnly
import HandS.ExcOwn
import HandS.StrMore
import HandS.Flow
import HandS.TupAny
import HandS.Deep
import HandS.Wide
import HandS.IsInst
import HandS.Codes
import HandS.Defaults
import HandS.Ends
import HandS.HeadEnd
import HandS.HeadHook1
import HandS.HeadHook2
import HandS.More
import HandS.Words
import HandS.Head0
import HandS.Head1
import HandS.Head2
import PySem.Challenge.RW_stormwoods_k01_words_and_fractions
set_option Elab.async false
set_option linter.all false
set_option maxRecDepth 100000
set_option maxHeartbeats 0
namespace M2
/-! ### values: trees; lists, dicts, instances stand in the heap; kl: a list that is only read (the script, a list of the module) -/
inductive W where
  | non | bl (b : Bool) | int (i : Int) | str (l : List Nat) | tup (l : List W) | ref (n : Nat) | kl (l : List W)
  deriving Inhabited
mutual
def decW : (a b : W) → Decidable (a = b)
  | .non, .non => isTrue rfl
  | .bl a, .bl b => if h : a = b then isTrue (h ▸ rfl) else isFalse (fun e => h (W.bl.inj e))
  | .int a, .int b => if h : a = b then isTrue (h ▸ rfl) else isFalse (fun e => h (W.int.inj e))
  | .str a, .str b => if h : a = b then isTrue (h ▸ rfl) else isFalse (fun e => h (W.str.inj e))
  | .ref a, .ref b => if h : a = b then isTrue (h ▸ rfl) else isFalse (fun e => h (W.ref.inj e))
  | .tup a, .tup b => match decWs a b with
    | isTrue h => isTrue (h ▸ rfl)
    | isFalse h => isFalse (fun e => h (W.tup.inj e))
  | .kl a, .kl b => match decWs a b with
    | isTrue h => isTrue (h ▸ rfl)
    | isFalse h => isFalse (fun e => h (W.kl.inj e))
  | .non, .bl _ | .non, .int _ | .non, .str _ | .non, .tup _ | .non, .ref _ | .non, .kl _ => isFalse (fun e => nomatch e)
  | .bl _, .non | .bl _, .int _ | .bl _, .str _ | .bl _, .tup _ | .bl _, .ref _ | .bl _, .kl _ => isFalse (fun e => nomatch e)
  | .int _, .non | .int _, .bl _ | .int _, .str _ | .int _, .tup _ | .int _, .ref _ | .int _, .kl _ => isFalse (fun e => nomatch e)
  | .str _, .non | .str _, .bl _ | .str _, .int _ | .str _, .tup _ | .str _, .ref _ | .str _, .kl _ => isFalse (fun e => nomatch e)
  | .tup _, .non | .tup _, .bl _ | .tup _, .int _ | .tup _, .str _ | .tup _, .ref _ | .tup _, .kl _ => isFalse (fun e => nomatch e)
  | .ref _, .non | .ref _, .bl _ | .ref _, .int _ | .ref _, .str _ | .ref _, .tup _ | .ref _, .kl _ => isFalse (fun e => nomatch e)
  | .kl _, .non | .kl _, .bl _ | .kl _, .int _ | .kl _, .str _ | .kl _, .tup _ | .kl _, .ref _ => isFalse (fun e => nomatch e)
def decWs : (a b : List W) → Decidable (a = b)
  | [], [] => isTrue rfl
  | [], _ :: _ => isFalse (fun e => nomatch e)
  | _ :: _, [] => isFalse (fun e => nomatch e)
  | x :: l, y :: m => match decW x y with
    | isTrue h => (match decWs l m with
      | isTrue g => isTrue (h ▸ g ▸ rfl)
      | isFalse g => isFalse (fun e => g (List.cons.inj e).2))
    | isFalse h => isFalse (fun e => h (List.cons.inj e).1)
end
instance : DecidableEq W := decW
/-- what stands in the heap: a list; a dict; a dict that is walked; an instance -/
inductive O where
  | lst (l : List W) | dct (l : List (W × W)) | lk (l : List (W × W)) | ins (c : Nat) (fs : List (Nat × W))
  deriving DecidableEq, Inhabited
abbrev Hm := List O
abbrev Env := List (Option W)
/-- the end of an expression: a value; an error of a class of the program with its arguments; nothing is told -/
inductive R (A : Type) where
  | ok (a : A) (h : Hm) | exc (c : Nat) (ws : List W) (h : Hm) | bad
  deriving Inhabited
/-- the end of a statement -/
inductive RS where
  | nx (s : Env) (h : Hm) | rt (w : W) (h : Hm) | bk (s : Env) (h : Hm) | ct (s : Env) (h : Hm) | exc (c : Nat) (ws : List W) (h : Hm) (s : Env) | bad
  deriving Inhabited
/-! ### syntax without places -/
inductive Bop where | add | sub | mul | fdiv | mod | pow deriving DecidableEq, Repr
inductive Cop where | eq | ne | lt | le | gt | ge | isN | notN | mem | nmem deriving DecidableEq, Repr
inductive Ty where | int | str | bool | list | tuple | dict | cls (c : Nat) deriving DecidableEq, Repr
/-- built-in functions of values -/
inductive B1 where | len | abs | int | str | max2 | min2 deriving DecidableEq, Repr
/-- built-in functions of a row of items -/
inductive BL where | len | tuple | list | all | any | sum | max | min | sorted | dict deriving DecidableEq, Repr
/-- methods of built-in types -/
inductive Mt where | append | extend | pop | popAt | index | get1 | get2 | dpop | split | strip | join | replace deriving DecidableEq, Repr
/-- what is walked: a row, range(a), range(a, b), enumerate(a), zip(a, b) -/
inductive It where | seq | rng1 | rng2 | enm | zip deriving DecidableEq, Repr
inductive E where
  | var (i : Nat) | non | bl (b : Bool) | int (i : Int) | str (l : List Nat) | glo (i : Nat)
  | bin (o : Bop) (a b : E) | neg (a : E) | not (a : E) | cmp (o : Cop) (a b : E) | cmp2 (o p : Cop) (a b c : E)
  | and (a b : E) | or (a b : E) | ite (c a b : E)
  | tup (es : List E) | lst (es : List E) | dct (es : List E)
  | sub (a i : E) | slc (a : E) (kl : Bool) (lo : E) (ku : Bool) (hi : E) | call (f : Nat) (es : List E)
  | b1 (b : B1) (es : List E) | bl1 (b : BL) (a : E) | isi (a : E) (ts : List Ty) | met (m : Mt) (a : E) (es : List E)
  | lc (own : List Nat) (k : Bool) (t : List Nat) (elt : E) (it : It) (a b c : E)
  | dc (own : List Nat) (k : Bool) (t : List Nat) (key val : E) (it : It) (a b c : E)
  | fld (a : E) (f : Nat) | make (c : Nat) (es : List E) | mcall (m : Nat) (a : E) (es : List E)
  deriving Inhabited
inductive T where
  | var (i : Nat) | tup (ts : List Nat) | sub (o i : E) | fld (o : E) (f : Nat)
  deriving Inhabited
inductive S where
  | asg (t : T) (e : E) | par (ts : List Nat) (es : List E) | aug (i : Nat) (o : Bop) (e : E) | exp (e : E) | ret (e : E)
  | ite (c : E) (a b : List S) | for (k : Bool) (t : List Nat) (it : It) (a b : E) (body : List S) | whl (c : E) (body : List S)
  | rse (c : Nat) (es : List E) | brk | cnt | pass
  deriving Inhabited
/-- a def: how many parameters, how many names, its body -/
structure Fn where
  np : Nat
  ns : Nat
  body : List S
  deriving Inhabited
/-! ### heaps -/
/-- the most items -/
def line : Nat := 16777216
def asL (h : Hm) (r : Nat) : Option (List W) := match h[r]? with
  | some (.lst l) => some l
  | _ => none
def asD (h : Hm) (r : Nat) : Option (List (W × W)) := match h[r]? with
  | some (.dct l) => some l
  | some (.lk l) => some l
  | _ => none
/-- the items of a list or a tuple -/
def itemsOf (h : Hm) : W → Option (List W)
  | .ref r => asL h r
  | .tup l => some l
  | .kl l => some l
  | _ => none
mutual
/-- no object from n on is named -/
def W.cl (n : Nat) : W → Bool
  | .ref r => decide (r < n)
  | .tup l => clAll n l
  | .kl l => clAll n l
  | _ => true
def clAll (n : Nat) : List W → Bool
  | [] => true
  | x :: l => x.cl n && clAll n l
end
def O.cl (n : Nat) : O → Bool
  | .lst l => clAll n l
  | .dct l => clAll n (l.map (·.1)) && clAll n (l.map (·.2))
  | .lk l => clAll n (l.map (·.1)) && clAll n (l.map (·.2))
  | .ins _ fs => clAll n (fs.map (·.2))
def Hm.cl (n : Nat) (h : Hm) : Bool := h.all (O.cl n)
/-- what stood at a call stands again, without what the call made and let go -/
def baseOk (h0 h : Hm) : Bool := decide (h.take h0.length = h0) || (decide (h0.length ≤ h.length) && Hm.cl h0.length (h.take h0.length))
def gc (h0 : Hm) (w : W) (h : Hm) : R W :=
  if baseOk h0 h then
    (match w with
    | .ref r => if r < h0.length then .ok (.ref r) (h.take h0.length) else (match h[r]? with
      | some (.lst l) => if clAll h0.length l then .ok (.ref h0.length) (h.take h0.length ++ [.lst l]) else .ok (.ref r) h
      | some (.dct l) => if (O.dct l).cl h0.length then .ok (.ref h0.length) (h.take h0.length ++ [.dct l]) else .ok (.ref r) h
      | _ => .ok (.ref r) h)
    | w => if w.cl h0.length then .ok w (h.take h0.length) else .ok w h)
  else .ok w h
def gcx (h0 : Hm) (c : Nat) (ws : List W) (h : Hm) : R W :=
  if baseOk h0 h && clAll h0.length ws then .exc c ws (h.take h0.length) else .exc c ws h
/-! ### equality, order -/
mutual
/-- == of trees (True is 1) -/
def eqW : W → W → Bool
  | .non, .non => true
  | .bl a, .bl b => a == b
  | .bl a, .int j => (if a then 1 else 0) == j
  | .int i, .bl b => i == (if b then 1 else 0)
  | .int i, .int j => i == j
  | .str x, .str y => x == y
  | .tup a, .tup b => eqWs a b
  | _, _ => false
def eqWs : List W → List W → Bool
  | [], [] => true
  | x :: l, y :: m => eqW x y && eqWs l m
  | _, _ => false
end
mutual
/-- a tree without objects, no deeper than so much -/
def W.flat (n : Nat) : W → Bool
  | .ref _ => false
  | .kl _ => false
  | .tup l => (match n with | 0 => false | n + 1 => flatAll n l)
  | _ => true
def flatAll (n : Nat) : List W → Bool
  | [] => true
  | x :: l => x.flat n && flatAll n l
end
/-- pair by pair; where the lengths differ: false, if the first ones can be told -/
def allEq (f : W → W → Option Bool) : List W → List W → Option Bool
  | [], [] => some true
  | x :: l, y :: m => (match f x y, allEq f l m with
    | some a, some b => some (a && b)
    | _, _ => none)
  | _, _ => some false
/-- == of values with lists within, so deep -/
def eqH (h : Hm) : Nat → W → W → Option Bool
  | 0, _, _ => none
  | n + 1, .tup l, .tup m => allEq (eqH h n) l m
  | n + 1, .ref i, .ref j => (match asL h i, asL h j with
    | some l, some m => if l.length = m.length then allEq (eqH h n) l m else some false
    | _, _ => none)
  | _ + 1, .kl _, _ => none
  | _ + 1, _, .kl _ => none
  | _ + 1, .ref i, _ => if (asL h i).isSome then some false else none
  | _ + 1, _, .ref j => if (asL h j).isSome then some false else none
  | _ + 1, a, b => some (eqW a b)
/-- == -/
def eqV (h : Hm) (a b : W) : Option Bool := eqH h 60 a b
def anyEq (f : W → Option Bool) : List W → Option Bool
  | [] => some false
  | y :: l => (match f y, anyEq f l with
    | some a, some b => some (a || b)
    | _, _ => none)
def ltL : List Nat → List Nat → Bool
  | [], [] => false
  | [], _ :: _ => true
  | _ :: _, [] => false
  | x :: l, y :: m => if x = y then ltL l m else decide (x < y)
/-! ### dicts -/
/-- a key: no object within -/
def W.key (w : W) : Bool := w.flat 8
def getD (k : W) : List (W × W) → Option W
  | [] => none
  | (a, v) :: l => if eqW a k then some v else getD k l
def putD (k v : W) : List (W × W) → List (W × W)
  | [] => [(k, v)]
  | (a, u) :: l => if eqW a k then (a, v) :: l else (a, u) :: putD k v l
def delD (k : W) : List (W × W) → List (W × W)
  | [] => []
  | (a, u) :: l => if eqW a k then l else (a, u) :: delD k l
/-! ### texts -/
def dropIn (cs : List Nat) : List Nat → List Nat
  | [] => []
  | c :: l => if cs.contains c then dropIn cs l else c :: l
def stripIn (cs l : List Nat) : List Nat := (dropIn cs (dropIn cs l).reverse).reverse
/-- a text cut at each sign c; acc: the part so far -/
def splitAt1 (c : Nat) (acc : List Nat) : List Nat → List (List Nat)
  | [] => [acc]
  | x :: l => if x = c then acc :: splitAt1 c [] l else splitAt1 c (acc ++ [x]) l
def joinS (sep : List Nat) : List (List Nat) → List Nat
  | [] => []
  | [x] => x
  | x :: y :: l => x ++ sep ++ joinS sep (y :: l)
def strsOf : List W → Option (List (List Nat))
  | [] => some []
  | .str x :: l => (match strsOf l with
    | some r => some (x :: r)
    | none => none)
  | _ :: _ => none
def intsOf : List W → Option (List Int)
  | [] => some []
  | .int x :: l => (match intsOf l with
    | some r => some (x :: r)
    | none => none)
  | _ :: _ => none
def blsOf : List W → Option (List Bool)
  | [] => some []
  | .bl x :: l => (match blsOf l with
    | some r => some (x :: r)
    | none => none)
  | _ :: _ => none
/-! ### places -/
/-- the place that an index of any sign means among n -/
def place (n : Nat) (i : Int) : Option Nat := if 0 ≤ i then (if i < n then some i.toNat else none) else if -(n : Int) ≤ i then some (i + n).toNat else none
def clip (n d : Nat) : Option Int → Nat
  | none => d
  | some v => if v < 0 then (v + (n : Int)).toNat else min v.toNat n
def cut {A : Type} (l : List A) (lo hi : Option Int) : List A := (l.drop (clip l.length 0 lo)).take (clip l.length l.length hi - clip l.length 0 lo)
/-! ### operations -/
def bitsOk (i : Int) (k : Nat) : Bool := decide (i.natAbs.log2 < k)
def alloc (o : O) (h : Hm) : R W := .ok (.ref h.length) (h ++ [o])
def small62 (i : Int) : Bool := decide (-(2 ^ 62) ≤ i ∧ i < 2 ^ 62)
def binop : Bop → W → W → Hm → R W
  | .add, .int i, .int j, h => .ok (.int (i + j)) h
  | .add, .str x, .str y, h => if x.length + y.length ≤ line then .ok (.str (x ++ y)) h else .bad
  | .add, .tup x, .tup y, h => if x.length + y.length ≤ line then .ok (.tup (x ++ y)) h else .bad
  | .add, .ref i, .ref j, h => (match h[i]?, h[j]? with
    | some (.lst x), some (.lst y) => if x.length + y.length ≤ line then alloc (.lst (x ++ y)) h else .bad
    | _, _ => .bad)
  | .sub, .int i, .int j, h => .ok (.int (i - j)) h
  | .mul, .int i, .int j, h => if i.natAbs.log2 + j.natAbs.log2 < 1000000 then .ok (.int (i * j)) h else .bad
  | .mul, .ref i, .int k, h => (match h[i]? with
    | some (.lst x) => if -(2 ^ 63) ≤ k ∧ k < 2 ^ 63 ∧ x.length * k.toNat ≤ line then alloc (.lst (List.replicate k.toNat x).flatten) h else .bad
    | _ => .bad)
  | .fdiv, .int i, .int j, h => if 0 < j ∧ j.natAbs.log2 < 9000 then .ok (.int (i / j)) h else .bad
  | .mod, .int i, .int j, h => if 0 < j then .ok (.int (i % j)) h else .bad
  | .pow, .int i, .int j, h => if 0 ≤ j ∧ j ≤ 1000000 ∧ i.natAbs < 2 ^ 64 then .ok (.int (i ^ j.toNat)) h else .bad
  | _, _, _, _ => .bad
/-- a truth for R -/
def rb (o : Option Bool) (h : Hm) : R W := match o with
  | some b => .ok (.bl b) h
  | none => .bad
def rnb (o : Option Bool) (h : Hm) : R W := match o with
  | some b => .ok (.bl (!b)) h
  | none => .bad
/-- x in y -/
def memV (h : Hm) (x y : W) : Option Bool := match y with
  | .tup l => anyEq (fun a => eqV h a x) l
  | .kl l => anyEq (fun a => eqV h a x) l
  | .str l => (match x with
    | .str [c] => some (l.contains c)
    | _ => none)
  | .ref r => (match h[r]? with
    | some (.lst l) => anyEq (fun a => eqV h a x) l
    | _ => none)
  | _ => none
def cmpop : Cop → W → W → Hm → R W
  | .eq, x, y, h => rb (eqV h x y) h
  | .ne, x, y, h => rnb (eqV h x y) h
  | .lt, .int i, .int j, h => .ok (.bl (decide (i < j))) h
  | .le, .int i, .int j, h => .ok (.bl (decide (i ≤ j))) h
  | .gt, .int i, .int j, h => .ok (.bl (decide (j < i))) h
  | .ge, .int i, .int j, h => .ok (.bl (decide (j ≤ i))) h
  | .lt, .str x, .str y, h => .ok (.bl (ltL x y)) h
  | .le, .str x, .str y, h => .ok (.bl (!ltL y x)) h
  | .gt, .str x, .str y, h => .ok (.bl (ltL y x)) h
  | .ge, .str x, .str y, h => .ok (.bl (!ltL x y)) h
  | .isN, x, .non, h => .ok (.bl (decide (x = .non))) h
  | .notN, x, .non, h => .ok (.bl (!decide (x = .non))) h
  | .mem, x, y, h => rb (memV h x y) h
  | .nmem, x, y, h => rnb (memV h x y) h
  | _, _, _, _ => .bad
def truth (h : Hm) : W → Option Bool
  | .non => some false
  | .bl b => some b
  | .int i => some (i != 0)
  | .str l => if l.length ≤ line then some (!l.isEmpty) else none
  | .tup l => some (!l.isEmpty)
  | .kl l => some (!l.isEmpty)
  | .ref r => (match h[r]? with
    | some (.lst l) => some (!l.isEmpty)
    | some (.dct l) => some (!l.isEmpty)
    | _ => none)
def getItem (a i : W) (h : Hm) : R W := match a, i with
  | .tup l, .int k => (match place l.length k with
    | some j => (match l[j]? with | some w => .ok w h | none => .bad)
    | none => .bad)
  | .kl l, .int k => (match place l.length k with
    | some j => (match l[j]? with | some w => .ok w h | none => .bad)
    | none => .bad)
  | .str l, .int k => if l.length ≤ line then (match place l.length k with
    | some j => (match l[j]? with | some c => .ok (.str [c]) h | none => .bad)
    | none => .bad) else .bad
  | .ref r, i => (match h[r]? with
    | some (.lst l) => (match i with
      | .int k => (match place l.length k with
        | some j => (match l[j]? with | some w => .ok w h | none => .bad)
        | none => .bad)
      | _ => .bad)
    | _ => .bad)
  | _, _ => .bad
/-- a part of a slice -/
def intPart (w : W) (h : Hm) : R (Option Int) := match w with
  | .int i => .ok (some i) h
  | _ => .bad
def getSlice (a : W) (l u : Option Int) (h : Hm) : R W := match a with
  | .tup x => .ok (.tup (cut x l u)) h
  | .kl x => alloc (.lst (cut x l u)) h
  | .str x => if x.length ≤ line then .ok (.str (cut x l u)) h else .bad
  | .ref r => (match asL h r with
    | some x => alloc (.lst (cut x l u)) h
    | none => .bad)
  | _ => .bad
/-- a[i] = w -/
def setItem (a i w : W) (h : Hm) : Option Hm := match a with
  | .ref r => (match h[r]? with
    | some (.lst l) => (match i with
      | .int k => (match place l.length k with
        | some j => some (h.set r (.lst (l.set j w)))
        | none => none)
      | _ => none)
    | _ => none)
  | _ => none
def getF (f : Nat) : List (Nat × W) → Option W
  | [] => none
  | (g, v) :: l => if g = f then some v else getF f l
def putF (f : Nat) (v : W) : List (Nat × W) → List (Nat × W)
  | [] => [(f, v)]
  | (g, u) :: l => if g = f then (g, v) :: l else (g, u) :: putF f v l
def getFld (a : W) (f : Nat) (h : Hm) : R W := match a with
  | .ref r => (match h[r]? with
    | some (.ins _ fs) => (match getF f fs with | some w => .ok w h | none => .bad)
    | _ => .bad)
  | _ => .bad
def setFld (a : W) (f : Nat) (w : W) (h : Hm) : Option Hm := match a with
  | .ref r => (match h[r]? with
    | some (.ins c fs) => if fs.length < 1000 then some (h.set r (.ins c (putF f w fs))) else none
    | _ => none)
  | _ => none
/-- a value's kind -/
inductive Kd where | non | bool | int | str | tuple | list | dict deriving DecidableEq, Repr
def kd (h : Hm) : W → Option Kd
  | .non => some .non
  | .bl _ => some .bool
  | .int _ => some .int
  | .str _ => some .str
  | .tup _ => some .tuple
  | .kl _ => some .list
  | .ref r => (match h[r]? with
    | some (.lst _) => some .list
    | some (.dct _) => some .dict
    | _ => none)
def isK : Kd → Ty → Bool
  | .bool, .bool => true
  | .bool, .int => true
  | .int, .int => true
  | .str, .str => true
  | .tuple, .tuple => true
  | .list, .list => true
  | .dict, .dict => true
  | _, _ => false
def b1u : B1 → W → Hm → R W
  | .len, .str l, h => if l.length ≤ line then .ok (.int l.length) h else .bad
  | .len, .tup l, h => .ok (.int l.length) h
  | .len, .kl l, h => .ok (.int l.length) h
  | .len, .ref r, h => (match h[r]? with
    | some (.lst l) => .ok (.int l.length) h
    | _ => .bad)
  | .abs, .int i, h => .ok (.int (if i < 0 then -i else i)) h
  | .int, .int i, h => .ok (.int i) h
  | _, _, _ => .bad
def b1b : B1 → W → W → Hm → R W
  | .max2, .int i, .int j, h => .ok (.int (if j > i then j else i)) h
  | .min2, .int i, .int j, h => .ok (.int (if j < i then j else i)) h
  | _, _, _, _ => .bad
def b1op (b : B1) (ws : List W) (h : Hm) : R W := match ws with
  | [x] => b1u b x h
  | [x, y] => b1b b x y h
  | _ => .bad
/-- a built-in function of a row, given raw -/
def blop : BL → List W → Hm → R W
  | .len, l, h => .ok (.int l.length) h
  | .tuple, l, h => .ok (.tup l) h
  | .list, l, h => alloc (.lst l) h
  | .all, l, h => (match blsOf l with | some r => .ok (.bl (r.all id)) h | none => .bad)
  | .any, l, h => (match blsOf l with | some r => .ok (.bl (r.any id)) h | none => .bad)
  | .sum, l, h => (match intsOf l with | some r => .ok (.int r.sum) h | none => .bad)
  | _, _, _ => .bad
def met1 : Mt → W → W → Hm → R W
  | .append, .ref r, w, h => (match h[r]? with
    | some (.lst l) => if l.length < line then .ok .non (h.set r (.lst (l ++ [w]))) else .bad
    | _ => .bad)
  | .split, .str l, .str [c], h => if l.length + 2 ≤ line ∧ c < 256 then alloc (.lst ((splitAt1 c [] l).map .str)) h else .bad
  | .strip, .str l, .str cs, h => if l.length ≤ line then .ok (.str (stripIn cs l)) h else .bad
  | _, _, _, _ => .bad
/-- sep.join(row) -/
def joinop (sep : W) (l : List W) (h : Hm) : R W := match sep, strsOf l with
  | .str s, some r => if (r.map List.length).sum + r.length * s.length ≤ line then .ok (.str (joinS s r)) h else .bad
  | _, _ => .bad
/-! ### walks -/
/-- what is walked: the items, the lists that must stand as they are, the heap (a dict locked), the dict to be unlocked -/
structure Src where
  its : List W
  gs : List (Nat × List W)
  h : Hm
  un : Option Nat
def upto (lo : Int) (n : Nat) : List W := (List.range n).map fun i => .int (lo + (i : Nat))
def numbered : Nat → List W → List W
  | _, [] => []
  | i, x :: l => .tup [.int i, x] :: numbered (i + 1) l
def zipped : List W → List W → List W
  | x :: l, y :: m => .tup [x, y] :: zipped l m
  | _, _ => []
def src : It → W → W → Hm → Option Src
  | .seq, .tup l, _, h => some ⟨l, [], h, none⟩
  | .seq, .kl l, _, h => some ⟨l, [], h, none⟩
  | .seq, .str l, _, h => some ⟨l.map fun c => .str [c], [], h, none⟩
  | .seq, .ref r, _, h => (match h[r]? with
    | some (.lst l) => some ⟨l, [(r, l)], h, none⟩
    | _ => none)
  | .rng1, .int n, _, h => if small62 n then some ⟨upto 0 n.toNat, [], h, none⟩ else none
  | .rng2, .int a, .int b, h => if small62 a && small62 b then some ⟨upto a (b - a).toNat, [], h, none⟩ else none
  | _, _, _, _ => none
def okG (g : List (Nat × List W)) (h : Hm) : Bool := g.all fun p => decide (asL h p.1 = some p.2)
def unlock (un : Option Nat) (h : Hm) : Hm := match un with
  | none => h
  | some r => (match h[r]? with
    | some (.lk l) => h.set r (.dct l)
    | _ => h)
def setAll : List Nat → List W → Env → Option Env
  | [], [], s => some s
  | i :: t, w :: l, s => setAll t l (s.set i (some w))
  | _, _, _ => none
/-- the walk's name, or names -/
def setT (k : Bool) (t : List Nat) (w : W) (s : Env) : Option Env := if k then (match w with
    | .tup l => setAll t l s
    | _ => none) else setAll t [w] s
/-! ### the interpreter -/
structure Ctx where
  call : Nat → List W → Hm → R W
  /-- the module's constants -/
  con : Nat → Option W
  /-- a class's method, its __init__ -/
  mth : Nat → Nat → Option Nat
  ini : Nat → Option Nat
  /-- the most turns of a while -/
  most : Nat
/-- a comprehension's turns -/
def compGo {A : Type} (f : W → Hm → R (Option A)) (g : List (Nat × List W)) : List W → List A → Hm → R (List A)
  | [], acc, h => if okG g h then .ok acc h else .bad
  | x :: l, acc, h => if okG g h then (match f x h with
      | .ok (some a) h' => compGo f g l (acc ++ [a]) h'
      | .ok none h' => compGo f g l acc h'
      | .exc .. => .bad
      | .bad => .bad) else .bad
def compEnd {A : Type} (un : Option Nat) (r : R (List A)) : R (List A) := match r with
  | .ok l h => if l.length ≤ line then .ok l (unlock un h) else .bad
  | r => r
/-- an expression's meanings: its value, the row that it gives (raw), its truth -/
abbrev DV := Env → Hm → R W
abbrev DL := Env → Hm → R (List W)
abbrev DT := Env → Hm → R Bool
structure Den where
  v : DV
  l : DL
  t : DT
/-- an own row of a slice -/
def partD (k : Bool) (v : DV) (s : Env) (h : Hm) : R (Option Int) := match k with
  | true => (match v s h with
    | .ok w h1 => intPart w h1
    | .exc c ws h1 => .exc c ws h1
    | .bad => .bad)
  | false => .ok none h
/-- the receiver fits the method -/
def isRecv (m : Mt) (x : W) (h : Hm) : Bool := match m, x with
  | .split, .str _ => true
  | .strip, .str _ => true
  | .join, .str _ => true
  | .append, .ref r => (asL h r).isSome
  | _, _ => false
def recv (m : Mt) (x : W) (h : Hm) (r : R W) : R W := if isRecv m x h then r else .bad
def R.cast {A B : Type} : R A → R B
  | .exc c ws h => .exc c ws h
  | _ => .bad
/-- the next part, with the value of the one ahead -/
def R.then {A B : Type} (r : R A) (k : A → Hm → R B) : R B := match r with
  | .ok a h => k a h
  | .exc c ws h => .exc c ws h
  | .bad => .bad
def rowOf (w : W) (h : Hm) : R (List W) := match itemsOf h w with
  | some l => .ok l h
  | none => .bad
def truthOf (w : W) (h : Hm) : R Bool := match truth h w with
  | some b => .ok b h
  | none => .bad
def mkV (v : DV) : Den := ⟨v, fun s h => (v s h).then rowOf, fun s h => (v s h).then truthOf⟩
def short (l : List W) (h : Hm) : R (List W) := if l.length ≤ line then .ok l h else .bad
def newL (l : List W) (h : Hm) : R W := alloc (.lst l) h
def mkL (l : DL) : Den := ⟨fun s h => (l s h).then newL, l, fun s h => ((l s h).then newL).then truthOf⟩
def notV (b : Bool) (h : Hm) : R W := .ok (.bl (!b)) h
def notB (b : Bool) (h : Hm) : R Bool := .ok (!b) h
def boolB (b : Bool) (h : Hm) : R W := .ok (.bl b) h
def negV (w : W) (h : Hm) : R W := match w with
  | .int i => .ok (.int (-i)) h
  | _ => .bad
def tupV (ws : List W) (h : Hm) : R W := if ws.length ≤ line then .ok (.tup ws) h else .bad
def dctV (ws : List W) (h : Hm) : R W := match ws with
  | [] => alloc (.dct []) h
  | [.str k, v] => alloc (.dct [(.str k, v)]) h
  | _ => .bad
def isiV (ts : List Ty) (w : W) (h : Hm) : R W := match kd h w with
  | some k => if ts.length ≤ line then .ok (.bl (ts.any (isK k))) h else .bad
  | none => .bad
/-- behind a chain's first comparison -/
def chainV (p : Cop) (y : W) (c : Hm → R W) (w : W) (h : Hm) : R W := match w with
  | .bl true => (c h).then fun z h4 => cmpop p y z h4
  | .bl false => .ok (.bl false) h
  | _ => .bad
def andV (b : Hm → R W) (x : W) (h : Hm) : R W := match truth h x with
  | some true => b h
  | some false => .ok x h
  | none => .bad
def orV (b : Hm → R W) (x : W) (h : Hm) : R W := match truth h x with
  | some true => .ok x h
  | some false => b h
  | none => .bad
def iteB {A : Type} (a b : Hm → R A) (c : Bool) (h : Hm) : R A := match c with
  | true => a h
  | false => b h
def conV (C : Ctx) (i : Nat) (h : Hm) : R W := match C.con i with
  | some w => .ok w h
  | none => .bad
def varV (i : Nat) (s : Env) (h : Hm) : R W := match s[i]? with
  | some (some w) => .ok w h
  | _ => .bad
/-- a comprehension's turn -/
def compTurn (k : Bool) (t : List Nat) (c : DT) (elt : DV) (s : Env) (w : W) (h : Hm) : R (Option W) := match setT k t w s with
  | some s' => (match c s' h with
    | .ok true h' => (match elt s' h' with
      | .ok v h'' => .ok (some v) h''
      | .exc c ws h'' => .exc c ws h''
      | .bad => .bad)
    | .ok false h' => .ok none h'
    | .exc c ws h' => .exc c ws h'
    | .bad => .bad)
  | none => .bad
def srcV (it : It) (x y : W) (h : Hm) : R Src := match src it x y h with
  | some q => .ok q q.h
  | none => .bad
def compRun {A : Type} (f : W → Hm → R (Option A)) (q : Src) (h : Hm) : R (List A) := compEnd q.un (compGo f q.gs q.its [] h)
/-- a dict comprehension's turn gives a key and a value -/
def dcTurn (k : Bool) (t : List Nat) (c : DT) (key val : DV) (s : Env) (w : W) (h : Hm) : R (Option (W × W)) := match setT k t w s with
  | some s' => (match c s' h with
    | .ok true h' => (match key s' h' with
      | .ok a h'' => (match val s' h'' with
        | .ok v h3 => if a.key then .ok (some (a, v)) h3 else .bad
        | .exc c ws h3 => .exc c ws h3
        | .bad => .bad)
      | .exc c ws h'' => .exc c ws h''
      | .bad => .bad)
    | .ok false h' => .ok none h'
    | .exc c ws h' => .exc c ws h'
    | .bad => .bad)
  | none => .bad
def putAll : List (W × W) → List (W × W) → List (W × W)
  | [], acc => acc
  | (k, v) :: l, acc => putAll l (putD k v acc)
def newD (l : List (W × W)) (h : Hm) : R W := alloc (.dct (putAll l [])) h
def madeV (r : Nat) (w : W) (h : Hm) : R W := match w with
  | .non => .ok (.ref r) h
  | _ => .bad
def makeV (C : Ctx) (c : Nat) (ws : List W) (h : Hm) : R W := match C.ini c with
  | some f => (C.call f (.ref h.length :: ws) (h ++ [.ins c []])).then (madeV h.length)
  | none => .bad
/-- the method of an instance -/
def mthOf (C : Ctx) (m : Nat) (w : W) (h : Hm) : Option Nat := match w with
  | .ref r => (match h[r]? with
    | some (.ins c _) => C.mth c m
    | _ => none)
  | _ => none
def mcallV (C : Ctx) (m : Nat) (es : Hm → R (List W)) (x : W) (h : Hm) : R W := match mthOf C m x h with
  | some f => (es h).then fun ws h2 => C.call f (x :: ws) h2
  | none => .bad
section
variable (C : Ctx)
mutual
def den : E → Den
  | .var i => mkV (varV i)
  | .non => mkV fun _ h => .ok .non h
  | .bl b => mkV fun _ h => .ok (.bl b) h
  | .int i => mkV fun _ h => .ok (.int i) h
  | .str l => mkV fun _ h => .ok (.str l) h
  | .glo i => mkV fun _ h => conV C i h
  | .bin o a b => mkV fun s h => ((den a).v s h).then fun x h1 => ((den b).v s h1).then fun y h2 => binop o x y h2
  | .neg a => mkV fun s h => ((den a).v s h).then negV
  | .not a => ⟨fun s h => (((den a).v s h).then truthOf).then notV, fun _ _ => .bad, fun s h => ((den a).t s h).then notB⟩
  | .cmp o a b => mkV fun s h => ((den a).v s h).then fun x h1 => ((den b).v s h1).then fun y h2 => cmpop o x y h2
  | .cmp2 o p a b c => mkV fun s h => ((den a).v s h).then fun x h1 => ((den b).v s h1).then fun y h2 => (cmpop o x y h2).then (chainV p y ((den c).v s))
  | .and a b => ⟨fun s h => ((den a).v s h).then (andV ((den b).v s)), fun _ _ => .bad, fun s h => ((den a).t s h).then (iteB ((den b).t s) (fun h1 => .ok false h1))⟩
  | .or a b => ⟨fun s h => ((den a).v s h).then (orV ((den b).v s)), fun _ _ => .bad, fun s h => ((den a).t s h).then (iteB (fun h1 => .ok true h1) ((den b).t s))⟩
  | .ite c a b => mkV fun s h => ((den c).t s h).then (iteB ((den a).v s) ((den b).v s))
  | .tup es => mkV fun s h => (denL es s h).then tupV
  | .lst es => mkL fun s h => (denL es s h).then short
  | .dct es => mkV fun s h => (denL es s h).then dctV
  | .sub a i => mkV fun s h => ((den a).v s h).then fun x h1 => ((den i).v s h1).then fun y h2 => getItem x y h2
  | .slc a kl lo ku hi => mkV fun s h => ((den a).v s h).then fun x h1 => (partD kl (den lo).v s h1).then fun y h2 => (partD ku (den hi).v s h2).then fun z h3 => getSlice x y z h3
  | .call f es => mkV fun s h => (denL es s h).then (C.call f)
  | .b1 b es => mkV fun s h => (denL es s h).then (b1op b)
  | .bl1 b a => mkV fun s h => ((den a).l s h).then (blop b)
  | .isi a ts => mkV fun s h => ((den a).v s h).then (isiV ts)
  | .met .join a [e] => mkV fun s h => ((den a).v s h).then fun x h1 => recv .join x h1 (((den e).l s h1).then (joinop x))
  | .met m a [e] => mkV fun s h => ((den a).v s h).then fun x h1 => recv m x h1 (((den e).v s h1).then (met1 m x))
  | .met _ _ _ => mkV fun _ _ => .bad
  | .lc _ k t elt it a b c => mkL fun s h => ((den a).v s h).then fun x h1 => ((den b).v s h1).then fun y h2 => (srcV it x y h2).then (compRun (compTurn k t (den c).t (den elt).v s))
  | .dc _ k t key val it a b c => mkV fun s h => ((den a).v s h).then fun x h1 => ((den b).v s h1).then fun y h2 => ((srcV it x y h2).then (compRun (dcTurn k t (den c).t (den key).v (den val).v s))).then newD
  | .fld a f => mkV fun s h => ((den a).v s h).then fun x h1 => getFld x f h1
  | .make c es => mkV fun s h => (denL es s h).then (makeV C c)
  | .mcall m a es => mkV fun s h => ((den a).v s h).then (mcallV C m (denL es s))
def denL : List E → Env → Hm → R (List W)
  | [], _, h => .ok [] h
  | e :: es, s, h => ((den e).v s h).then fun x h1 => (denL es s h1).then fun ws h2 => .ok (x :: ws) h2
end
def evE (s : Env) (e : E) (h : Hm) : R W := (den C e).v s h
def evL (s : Env) (e : E) (h : Hm) : R (List W) := (den C e).l s h
def evT (s : Env) (e : E) (h : Hm) : R Bool := (den C e).t s h
def evEs (s : Env) (es : List E) (h : Hm) : R (List W) := denL C es s h
/-! ### statements -/
def RS.ofR {A : Type} (r : R A) (s : Env) (k : A → Hm → RS) : RS := match r with
  | .ok a h => k a h
  | .exc c ws h => .exc c ws h s
  | .bad => .bad
def nxO (s : Env) (o : Option Hm) : RS := match o with
  | some h => .nx s h
  | none => .bad
def nxE (h : Hm) (o : Option Env) : RS := match o with
  | some s => .nx s h
  | none => .bad
/-- a store -/
def asg (s : Env) (t : T) (w : W) (h : Hm) : RS := match t with
  | .var i => .nx (s.set i (some w)) h
  | .tup ts => nxE h (setT true ts w s)
  | .sub o i => RS.ofR (evE C s o h) s fun x h1 => RS.ofR (evE C s i h1) s fun y h2 => nxO s (setItem x y w h2)
  | .fld o f => RS.ofR (evE C s o h) s fun x h1 => nxO s (setFld x f w h1)
def RS.seq (r : RS) (k : Env → Hm → RS) : RS := match r with
  | .nx s h => k s h
  | r => r
/-- a for's turns -/
def forGo (f : W → Env → Hm → RS) (g : List (Nat × List W)) : List W → Env → Hm → RS
  | [], s, h => if okG g h then .nx s h else .bad
  | x :: l, s, h => if okG g h then (match f x s h with
      | .nx s' h' => forGo f g l s' h'
      | .ct s' h' => forGo f g l s' h'
      | .bk s' h' => .nx s' h'
      | r => r) else .bad
/-- a for's end: the dict is unlocked -/
def forEnd (un : Option Nat) (r : RS) : RS := match r with
  | .nx s h => .nx s (unlock un h)
  | .rt w h => .rt w (unlock un h)
  | .exc c ws h s => .exc c ws (unlock un h) s
  | _ => .bad
def forRun (f : W → Env → Hm → RS) (s : Env) (q : Src) (h : Hm) : RS := forEnd q.un (forGo f q.gs q.its s h)
/-- a while's turns, at most so many -/
def whlGo (c : Env → Hm → R Bool) (f : Env → Hm → RS) : Nat → Env → Hm → RS
  | 0, _, _ => .bad
  | n + 1, s, h => match c s h with
    | .ok true h1 => (match f s h1 with
      | .nx s' h' => whlGo c f n s' h'
      | .ct s' h' => whlGo c f n s' h'
      | .bk s' h' => .nx s' h'
      | r => r)
    | .ok false h1 => .nx s h1
    | .exc c ws h1 => .exc c ws h1 s
    | .bad => .bad
def forTurn (k : Bool) (t : List Nat) (b : Env → Hm → RS) (w : W) (s : Env) (h : Hm) : RS := match setT k t w s with
  | some s' => b s' h
  | none => .bad
mutual
def evS : S → Env → Hm → RS
  | .asg t e, s, h => RS.ofR (evE C s e h) s fun w h1 => asg C s t w h1
  | .par ts es, s, h => RS.ofR (evEs C s es h) s fun ws h1 => nxE h1 (setAll ts ws s)
  | .aug i o e, s, h => RS.ofR (varV i s h) s fun x h0 => RS.ofR (evE C s e h0) s fun y h1 => RS.ofR (binop o x y h1) s fun z h2 => .nx (s.set i (some z)) h2
  | .exp e, s, h => RS.ofR (evE C s e h) s fun _ h1 => .nx s h1
  | .ret e, s, h => RS.ofR (evE C s e h) s fun w h1 => .rt w h1
  | .ite c a b, s, h => RS.ofR (evT C s c h) s fun d h1 => match d with
    | true => evSs a s h1
    | false => evSs b s h1
  | .for k t it a b body, s, h => RS.ofR (evE C s a h) s fun x h1 => RS.ofR (evE C s b h1) s fun y h2 => RS.ofR (srcV it x y h2) s (forRun (forTurn k t (evSs body)) s)
  | .whl c body, s, h => whlGo (fun s h => evT C s c h) (evSs body) C.most s h
  | .rse c es, s, h => RS.ofR (evEs C s es h) s fun ws h1 => .exc c ws h1 s
  | .brk, s, h => .bk s h
  | .cnt, s, h => .ct s h
  | .pass, s, h => .nx s h
def evSs : List S → Env → Hm → RS
  | [], s, h => .nx s h
  | x :: l, s, h => (evS x s h).seq (evSs l)
end
end
/-! ### defs -/
structure Prog where
  fns : Nat → Option Fn
  con : Nat → Option W
  mth : Nat → Nat → Option Nat
  ini : Nat → Option Nat
  most : Nat
/-- a body's end, as the caller sees it -/
def back (h0 : Hm) : RS → R W
  | .nx _ h => gc h0 .non h
  | .rt w h => gc h0 w h
  | .exc c ws h _ => gcx h0 c ws h
  | _ => .bad
def start (f : Fn) (ws : List W) : Env := ws.map some ++ List.replicate (f.ns - ws.length) none
def callFn (C : Ctx) (f : Fn) (ws : List W) (h : Hm) : R W := if ws.length = f.np then back h (evSs C f.body (start f ws) h) else .bad
def run (D : Prog) : Nat → Nat → List W → Hm → R W
  | 0, _, _, _ => .bad
  | n + 1, f, ws, h => match D.fns f with
    | some d => callFn ⟨run D n, D.con, D.mth, D.ini, D.most⟩ d ws h
    | none => .bad
def ctx (D : Prog) (n : Nat) : Ctx := ⟨run D n, D.con, D.mth, D.ini, D.most⟩
end M2

namespace M2
open PySem (Expr Stmt Str Scope NameKind Pos Const)
/-! ### from the model's syntax -/
/-- the def's names by slot; the top's defs, constants, classes; fields, methods -/
structure CS where
  N : List Str
  fns : List (Str × Nat)
  con : List (Str × Nat)
  cls : List (Str × Nat)
  fld : List (Str × Nat)
  mth : List (Str × Nat)
def ixOf (x : Str) : List Str → Option Nat
  | [] => none
  | y :: l => if y = x then some 0 else (match ixOf x l with
    | some i => some (i + 1)
    | none => none)
def allO {A B : Type} (f : A → Option B) : List A → Option (List B)
  | [] => some []
  | x :: l => (match f x with
    | some y => (match allO f l with
      | some r => some (y :: r)
      | none => none)
    | none => none)
def opt2 {A B C : Type} (a : Option A) (b : Option B) (k : A → B → C) : Option C := match a, b with
  | some x, some y => some (k x y)
  | _, _ => none
def bopOf : PySem.Operator → Option Bop
  | .Add => some .add
  | .Sub => some .sub
  | .Mult => some .mul
  | .FloorDiv => some .fdiv
  | .Mod => some .mod
  | .Pow => some .pow
  | _ => none
def copOf : PySem.CmpOp → Option Cop
  | .Eq => some .eq
  | .NotEq => some .ne
  | .Lt => some .lt
  | .LtE => some .le
  | .Gt => some .gt
  | .GtE => some .ge
  | .Is => some .isN
  | .IsNot => some .notN
  | .In => some .mem
  | .NotIn => some .nmem
/-- is, is not: of None alone -/
def copFit (o : Cop) (b : Expr) : Bool := match o with
  | .isN => (match b with | .Constant .none _ _ => true | _ => false)
  | .notN => (match b with | .Constant .none _ _ => true | _ => false)
  | _ => true
def isVar (sc : Scope) (x : Str) : Bool := !(x == ("__debug__" : Str)) && !(x == ("__classdict__" : Str)) && (match sc.names.lookup x with
  | some .local => true
  | some .cell => true
  | some .free => true
  | _ => false)
/-- a name that may be stored in a def -/
def isLoc (sc : Scope) (x : Str) : Bool := match sc.names.lookup x with
  | some .local => true
  | some .cell => true
  | _ => false
def isGl (sc : Scope) (x : Str) : Bool := decide (sc.names.lookup x = some .globalImplicit)
def sInt : Str := "int"
def sStr : Str := "str"
def sBool : Str := "bool"
def sList : Str := "list"
def sTuple : Str := "tuple"
def sDict : Str := "dict"
def tyOf (c : CS) (sc : Scope) : Expr → Option Ty
  | .Name x _ => if isGl sc x then (if x = sInt then some .int else if x = sStr then some .str else if x = sBool then some .bool else if x = sList then some .list else if x = sTuple then some .tuple else if x = sDict then some .dict else none) else none
  | _ => none
def isIsi (x : Str) : Bool := decide (x = "isinstance")
def b1Of (x : Str) (n : Nat) : Option B1 :=
  if x = "len" then (if n = 1 then some .len else none) else if x = "abs" then (if n = 1 then some .abs else none) else if x = sInt then (if n = 1 then some .int else none)
  else if x = "max" then (if n = 2 then some .max2 else none) else if x = "min" then (if n = 2 then some .min2 else none) else none
def blOf (x : Str) (raw : Bool) : Option BL :=
  if x = sTuple then some .tuple else if x = sList then some .list else if raw = true then (if x = "all" then some .all else if x = "any" then some .any else if x = "sum" then some .sum else if x = "len" then some .len else none) else none
def rawForm : Expr → Bool
  | .List .. => true
  | .ListComp .. => true
  | _ => false
def mtOf (m : Str) : Option Mt := if m = "append" then some .append else if m = "split" then some .split else if m = "strip" then some .strip else if m = "join" then some .join else none
/-- the base of an attribute: no call of super() -/
def abOk : Expr → Bool
  | .Call _ [] [] _ => false
  | _ => true
def plainTest : Expr → Bool
  | .IfExp .. => false
  | _ => true
def nameIx (c : CS) : Expr → Option Nat
  | .Name x _ => ixOf x c.N
  | _ => none
def nameLoc (sc : Scope) : Expr → Bool
  | .Name x _ => isLoc sc x
  | _ => false
def tgtOf (c : CS) : Expr → Option (Bool × List Nat)
  | .Name x _ => (ixOf x c.N).map fun i => (false, [i])
  | .Tuple es _ _ => (allO (nameIx c) es).map fun t => (true, t)
  | _ => none
/-- a block's own names, with their slots -/
def ownOf (c : CS) (scope : Scope) : List (Str × Nat) := scope.names.filterMap fun y => match y.2 with
  | .local => (ixOf y.1 c.N).map fun i => (y.1, i)
  | .cell => (ixOf y.1 c.N).map fun i => (y.1, i)
  | _ => none
def locTgt (sc : Scope) : Expr → Bool
  | .Name x _ => isLoc sc x
  | .Tuple es _ _ => es.all (nameLoc sc)
  | _ => false
section
variable (c : CS)
/-- what is walked -/
def cIt (f : Expr → Option E) (sc : Scope) (e : Expr) : Option (It × E × E) := match e with
  | .Call (.Name x _) [a] [] _ => if isGl sc x ∧ x = "range" then (f a).map fun a => (.rng1, a, .non) else (f e).map fun a => (.seq, a, .non)
  | .Call (.Name x _) [a, b] [] _ => if isGl sc x ∧ x = "range" then opt2 (f a) (f b) fun a b => (.rng2, a, b) else (f e).map fun a => (.seq, a, .non)
  | _ => (f e).map fun a => (.seq, a, .non)
def lits : Const → Option E
  | .none => some .non
  | .bool b => some (.bl b)
  | .int i => some (.int i)
  | .str s => some (.str s.cps.toList)
  | _ => none
def optE (f : Expr → Option E) : Option Expr → Option (Bool × E)
  | none => some (false, .non)
  | some e => (f e).map fun d => (true, d)
def interl : List E → List E → List E
  | k :: l, v :: m => k :: v :: interl l m
  | _, _ => []
def cE : Nat → Scope → Expr → Option E
  | 0, _, _ => none
  | n + 1, sc, e => match e with
    | .Constant k _ _ => lits k
    | .Name x _ => if isVar sc x then (ixOf x c.N).map .var else if isGl sc x then (c.con.lookup x).map .glo else none
    | .BinOp a o b _ => (match bopOf o with
      | some o => opt2 (cE n sc a) (cE n sc b) (.bin o)
      | none => none)
    | .UnaryOp .USub a _ => (cE n sc a).map .neg
    | .UnaryOp .Not a _ => if plainTest a then (cE n sc a).map .not else none
    | .Compare a [o] [b] _ => (match copOf o with
      | some o => if copFit o b then opt2 (cE n sc a) (cE n sc b) (.cmp o) else none
      | none => none)
    | .Compare a [o, p] [b, d] _ => (match copOf o, copOf p, cE n sc a, cE n sc b, cE n sc d with
      | some o, some p, some a, some b, some d => some (.cmp2 o p a b d)
      | _, _, _, _, _ => none)
    | .BoolOp o (a :: b :: r) p => (match r with
      | [] => if plainTest a ∧ plainTest b then opt2 (cE n sc a) (cE n sc b) (match o with | .And => .and | .Or => .or) else none
      | d :: r => if plainTest a then opt2 (cE n sc a) (cE n sc (.BoolOp o (b :: d :: r) p)) (match o with | .And => .and | .Or => .or) else none)
    | .IfExp t a b _ => if plainTest t then (match cE n sc t, cE n sc a, cE n sc b with
      | some t, some a, some b => some (.ite t a b)
      | _, _, _ => none) else none
    | .Tuple es _ _ => (allO (cE n sc) es).map .tup
    | .List es _ => (allO (cE n sc) es).map .lst
    | .Dict [] [] _ => some (.dct [])
    | .Dict [some k] [v] _ => opt2 (cE n sc k) (cE n sc v) fun k v => .dct [k, v]
    | .Subscript a (.Slice lo hi none _) _ => (match cE n sc a, optE (cE n sc) lo, optE (cE n sc) hi with
      | some a, some lo, some hi => some (.slc a lo.1 lo.2 hi.1 hi.2)
      | _, _, _ => none)
    | .Subscript a i _ => opt2 (cE n sc a) (cE n sc i) .sub
    | .ListComp elt [⟨tg, iter, ifs, 0⟩] scope _ => (match tgtOf c tg, cE n scope elt, (match ifs with
        | [] => some (E.bl true)
        | [t] => if plainTest t then cE n scope t else none
        | _ => none) with
      | some (k, t), some elt, some d => if L2.blkC c.N sc scope (ownOf c scope) = true ∧ ((ownOf c scope).all fun p => t.contains p.2) = true ∧ (t.all fun i => ((ownOf c scope).map (·.2)).contains i) = true ∧ locTgt scope tg = true then (match cIt (cE n sc) sc iter with
        | some (it, a, b) => some (.lc ((ownOf c scope).map (·.2)) k t elt it a b d)
        | none => none) else none
      | _, _, _ => none)
    | .Call (.Name x _) args [] _ => if isGl sc x then (match c.fns.lookup x with
        | some f => (allO (cE n sc) args).map (.call f)
        | none => if isIsi x then (match args with
              | [a, .Tuple ts _ _] => opt2 (cE n sc a) (allO (tyOf c sc) ts) .isi
              | [a, t] => opt2 (cE n sc a) (tyOf c sc t) fun a t => .isi a [t]
              | _ => none)
            else (match args with
              | [a] => (match blOf x (rawForm a) with
                | some b => (cE n sc a).map (.bl1 b)
                | none => (match b1Of x 1 with
                  | some b => (cE n sc a).map fun a => .b1 b [a]
                  | none => none))
              | [a, d] => (match b1Of x 2 with
                | some b => opt2 (cE n sc a) (cE n sc d) fun a d => .b1 b [a, d]
                | none => none)
              | _ => none))
      else none
    | .Call (.Attribute o m ap) [a] [] p => if abOk o ∧ ap.endLine = p.line then (match mtOf m with
        | some m => opt2 (cE n sc o) (cE n sc a) fun o a => .met m o [a]
        | none => none) else none
    | _ => none
def isComp : Expr → Bool
  | .ListComp .. => true
  | .SetComp .. => true
  | .DictComp .. => true
  | _ => false
/-- not a row of targets and a row of values -/
def noPair : Expr → Expr → Bool
  | .Tuple .., .Tuple .. => false
  | .List .., .Tuple .. => false
  | _, _ => true
def notStar : Expr → Bool
  | .Starred .. => false
  | _ => true
/-- two stores from the right -/
def parOk (sc : Scope) (x : Str) (px : Pos) (y : Str) (py : Pos) (a b : Expr) : Bool :=
  decide (sc.names.lookup x = some .local) && decide (sc.names.lookup y = some .local) && (px.line == py.line) && !(x == y) && notStar a && notStar b && !([a, b].all (PySem.foldedForSure 8)) && !([a, b].all (PySem.constantsAlone 8))
/-- two names and two values -/
def pairOf (t v : Expr) : Option (Str × Pos × Str × Pos × Expr × Expr) := match t, v with
  | .Tuple [.Name x px, .Name y py] _ _, .Tuple [a, b] _ _ => some (x, px, y, py, a, b)
  | _, _ => none
/-- a store's target -/
def cT (f : Expr → Option E) (sc : Scope) : Expr → Option T
  | .Name x _ => if isLoc sc x then (ixOf x c.N).map .var else none
  | .Tuple es _ _ => if es.all (nameLoc sc) = true then (allO (nameIx c) es).map .tup else none
  | .Subscript o i _ => (match i with
    | .Slice .. => none
    | _ => opt2 (f o) (f i) .sub)
  | _ => none
def cS : Nat → Scope → Stmt → Option S
  | 0, _, _ => none
  | n + 1, sc, s => match s with
    | .Assign [t] v _ => (match pairOf t v with
      | some (x, px, y, py, a, b) => if parOk sc x px y py a b = true then (match ixOf x c.N, ixOf y c.N, cE c n sc a, cE c n sc b with
        | some i, some j, some a, some b => some (.par [i, j] [a, b])
        | _, _, _, _ => none) else none
      | none => if isComp v = false ∧ noPair t v = true then opt2 (cT c (cE c n sc) sc t) (cE c n sc v) .asg else none)
    | .Expr v _ => if isComp v = false then (cE c n sc v).map .exp else none
    | .Return (some v) _ => (cE c n sc v).map .ret
    | .Return none _ => some (.ret .non)
    | .If t a b _ => if plainTest t then (match cE c n sc t, allO (cS n sc) a, allO (cS n sc) b with
      | some t, some a, some b => some (.ite t a b)
      | _, _, _ => none) else none
    | .For t i b [] _ => if locTgt sc t then (match tgtOf c t, allO (cS n sc) b with
      | some (k, t), some b => (match cIt (cE c n sc) sc i with
        | some (it, x, y) => some (.for k t it x y b)
        | none => none)
      | _, _ => none) else none
    | .While t b [] _ => if plainTest t then opt2 (cE c n sc t) (allO (cS n sc) b) .whl else none
    | .Pass _ => some .pass
    | .Break _ => some .brk
    | .Continue _ => some .cnt
    | _ => none
end
/-! ### a def -/
/-- the names of the comprehensions' blocks -/
def addN (l : List Str) (x : Str) : List Str := if l.contains x then l else l ++ [x]
section
mutual
def blkE : Nat → Expr → List Str
  | 0, _ => []
  | n + 1, e => match e with
    | .BoolOp _ es _ => blkEs n es
    | .BinOp a _ b _ => blkE n a ++ blkE n b
    | .UnaryOp _ a _ => blkE n a
    | .IfExp a b d _ => blkE n a ++ blkE n b ++ blkE n d
    | .Compare a _ bs _ => blkE n a ++ blkEs n bs
    | .Call f as _ _ => blkE n f ++ blkEs n as
    | .Attribute a _ _ => blkE n a
    | .Subscript a i _ => blkE n a ++ blkE n i
    | .List es _ => blkEs n es
    | .Tuple es _ _ => blkEs n es
    | .Starred e _ => blkE n e
    | .Dict ks vs _ => blkEs n (ks.filterMap id) ++ blkEs n vs
    | .Slice lo hi _ _ => blkEs n (lo.toList ++ hi.toList)
    | .ListComp elt gs scope _ => (scope.names.filterMap fun y => if y.1 == (".0" : Str) then none else match y.2 with
        | .local => some y.1
        | .cell => some y.1
        | _ => none) ++ blkE n elt ++ blkEs n (gs.flatMap fun g => g.iter :: g.ifs)
    | .DictComp k v gs scope _ => (scope.names.filterMap fun y => if y.1 == (".0" : Str) then none else match y.2 with
        | .local => some y.1
        | .cell => some y.1
        | _ => none) ++ blkE n k ++ blkE n v ++ blkEs n (gs.flatMap fun g => g.iter :: g.ifs)
    | _ => []
def blkEs : Nat → List Expr → List Str
  | 0, _ => []
  | n + 1, es => es.flatMap (blkE n)
end
def blkS : Nat → Stmt → List Str
  | 0, _ => []
  | n + 1, s => match s with
    | .Assign ts v _ => blkEs n (v :: ts)
    | .AugAssign t _ v _ => blkEs n [t, v]
    | .Expr v _ => blkE n v
    | .Return (some v) _ => blkE n v
    | .If t a b _ => blkE n t ++ (a ++ b).flatMap (blkS n)
    | .For t i b _ _ => blkEs n [t, i] ++ b.flatMap (blkS n)
    | .While t b _ _ => blkE n t ++ b.flatMap (blkS n)
    | .Raise (some e) _ _ => blkE n e
    | .Try b hs _ _ _ => b.flatMap (blkS n) ++ hs.flatMap fun h => match h with
      | .ExceptHandler _ _ b _ => b.flatMap (blkS n)
    | _ => []
end
/-- a def's names by slot: its parameters, its other names, those of its comprehensions -/
def namesOf (ps : List Str) (sc : Scope) (body : List Stmt) : List Str :=
  (body.flatMap (blkS 60)).foldl addN ((sc.names.filterMap fun y => match y.2 with
    | .local => some y.1
    | .cell => some y.1
    | _ => none).foldl addN ps)
structure Top where
  fns : List (Str × Nat)
  con : List (Str × Nat)
  cls : List (Str × Nat)
  fld : List (Str × Nat)
  mth : List (Str × Nat)
def Top.cs (t : Top) (N : List Str) : CS := ⟨N, t.fns, t.con, t.cls, t.fld, t.mth⟩
def plainArgs (a : PySem.Arguments) : Bool := a.posonlyargs.isEmpty && a.vararg.isNone && a.kwonlyargs.isEmpty && a.kwarg.isNone && a.defaults.isEmpty
def psOf (a : PySem.Arguments) : List Str := a.args.map (·.arg)
def cFn (t : Top) (a : PySem.Arguments) (body : List Stmt) (sc : Scope) : Option Fn :=
  if plainArgs a then (allO (cS (t.cs (namesOf (psOf a) sc body)) 60 sc) body).map fun b => ⟨(psOf a).length, (namesOf (psOf a) sc body).length, b⟩ else none
end M2

namespace M2
open PySem PySem.Spec PyProof.Rows L2
abbrev Sg := L2.St
/-! ### what stands behind the trees -/
/-- a list that is only read -/
def FzL (K : PySem.W.Frag) (H : Hp) (a : Addr) (xs : List V) : Prop :=
  (∃ o, H a = some (.frz o (.lst xs))) ∨
    ∃ (o : Obj) (its : Array Value) (n : Nat), K.lookup a = some o ∧ o.cls = .type "list" ∧ o.dict = none ∧ o.data = .seq its n ∧ its.size ≤ sizeLine ∧ Vals xs its.toList
theorem FzL.sq {K : PySem.W.Frag} {H : Hp} {a : Addr} {xs : List V} (h : FzL K H a xs) : SqL K H a xs := by
  rcases h with ⟨o, h⟩ | h
  · exact .inl (.inr ⟨o, h⟩)
  · exact .inr h
mutual
inductive RW (K : PySem.W.Frag) (p : List Addr) (H : Hp) : W → V → Prop
  | non : RW K p H .non .non
  | bl (b : Bool) : RW K p H (.bl b) (.bl b)
  | int (i : Int) : RW K p H (.int i) (.int i)
  | str (l : List Nat) : RW K p H (.str l) (.str ⟨l.toArray⟩)
  | tup {l : List W} {a : Addr} {vs : List V} : SqT K H a vs → RWs K p H l vs → RW K p H (.tup l) (.ref a)
  | ref {n : Nat} {a : Addr} : p[n]? = some a → RW K p H (.ref n) (.ref a)
  | kl {l : List W} {a : Addr} {vs : List V} : FzL K H a vs → RWs K p H l vs → RW K p H (.kl l) (.ref a)
inductive RWs (K : PySem.W.Frag) (p : List Addr) (H : Hp) : List W → List V → Prop
  | nil : RWs K p H [] []
  | cons {x : W} {l : List W} {v : V} {vs : List V} : RW K p H x v → RWs K p H l vs → RWs K p H (x :: l) (v :: vs)
end
/-- tuples and read lists stay -/
structure Kp (K : PySem.W.Frag) (H H' : Hp) : Prop where
  tup : ∀ a vs, SqT K H a vs → SqT K H' a vs
  fz : ∀ a vs, FzL K H a vs → FzL K H' a vs
theorem Kp.refl {K : PySem.W.Frag} {H : Hp} : Kp K H H := ⟨fun _ _ h => h, fun _ _ h => h⟩
theorem Kp.trans {K : PySem.W.Frag} {H H1 H2 : Hp} (a : Kp K H H1) (b : Kp K H1 H2) : Kp K H H2 := ⟨fun _ _ h => b.tup _ _ (a.tup _ _ h), fun _ _ h => b.fz _ _ (a.fz _ _ h)⟩
theorem Kp.new {K : PySem.W.Frag} {H : Hp} {p : Addr} {o : HO} (hp : H p = none) : Kp K H (upd H p o) := by
  refine ⟨fun a vs h => ?_, fun a vs h => ?_⟩
  · rcases h with (h | ⟨ob, h⟩) | h
    · exact .inl (.inl (by rw [upd_ne (ne_of_none h hp)]; exact h))
    · exact .inl (.inr ⟨ob, by rw [upd_ne (ne_of_none h hp)]; exact h⟩)
    · exact .inr h
  · rcases h with ⟨ob, h⟩ | h
    · exact .inl ⟨ob, by rw [upd_ne (ne_of_none h hp)]; exact h⟩
    · exact .inr h
/-- what may be written is neither -/
theorem Kp.write {K : PySem.W.Frag} {H : Hp} {p : Addr} {o : HO} (mu : Mut (H p)) : Kp K H (upd H p o) := by
  have ne : ∀ a u, H a = some u → ¬ Mut (some u) → a ≠ p := fun a u q nm z => by subst z; rw [q] at mu; exact nm mu
  refine ⟨fun a vs h => ?_, fun a vs h => ?_⟩
  · rcases h with (h | ⟨ob, h⟩) | h
    · exact .inl (.inl (by rw [upd_ne (ne a _ h fun z => z)]; exact h))
    · exact .inl (.inr ⟨ob, by rw [upd_ne (ne a _ h fun z => z)]; exact h⟩)
    · exact .inr h
  · rcases h with ⟨ob, h⟩ | h
    · exact .inl ⟨ob, by rw [upd_ne (ne a _ h fun z => z)]; exact h⟩
    · exact .inr h
/-- from one state to a later one: the objects' places are more, tuples and read lists stay, what is not an object of the trees stays -/
structure Xt (K : PySem.W.Frag) (p : List Addr) (H : Hp) (p' : List Addr) (H' : Hp) : Prop where
  pre : p <+: p'
  kp : Kp K H H'
  fr : ∀ a u, H a = some u → a ∉ p → H' a = some u
  new : ∀ a, a ∈ p' → a ∉ p → H a = none
theorem Xt.refl {K : PySem.W.Frag} {p : List Addr} {H : Hp} : Xt K p H p H := ⟨List.prefix_refl p, Kp.refl, fun _ _ h _ => h, fun _ a b => absurd a b⟩
theorem Xt.trans {K : PySem.W.Frag} {p p1 p2 : List Addr} {H H1 H2 : Hp} (a : Xt K p H p1 H1) (b : Xt K p1 H1 p2 H2) : Xt K p H p2 H2 := by
  have out : ∀ c u, H c = some u → c ∉ p → c ∉ p1 := fun c u e n z => by rw [a.new c z n] at e; cases e
  refine ⟨a.pre.trans b.pre, a.kp.trans b.kp, fun c u e n => b.fr c u (a.fr c u e n) (out c u e n), fun c z n => ?_⟩
  by_cases h1 : c ∈ p1
  · exact a.new c h1 n
  · have h2 := b.new c z h1
    cases q : H c with
    | none => rfl
    | some u => rw [a.fr c u q n] at h2; cases h2
theorem Xt.beside {K : PySem.W.Frag} {p : List Addr} {H : Hp} {a : Addr} {o : HO} (ha : H a = none) : Xt K p H p (upd H a o) :=
  ⟨List.prefix_refl p, Kp.new ha, fun c u e _ => by rw [upd_ne (ne_of_none e ha)]; exact e, fun _ x y => absurd x y⟩
theorem Xt.laid {K : PySem.W.Frag} {p : List Addr} {H : Hp} {a : Addr} {o : HO} (ha : H a = none) : Xt K p H (p ++ [a]) (upd H a o) := by
  refine ⟨List.prefix_append p [a], Kp.new ha, fun c u e _ => by rw [upd_ne (ne_of_none e ha)]; exact e, fun c x y => ?_⟩
  rcases List.mem_append.mp x with x | x
  · exact absurd x y
  · have : c = a := by simpa using x
    rw [this]; exact ha
theorem Xt.write {K : PySem.W.Frag} {p : List Addr} {H : Hp} {a : Addr} {o : HO} (hp : a ∈ p) (mu : Mut (H a)) : Xt K p H p (upd H a o) :=
  ⟨List.prefix_refl p, Kp.write mu, fun c u e n => by rw [upd_ne (show c ≠ a from fun z => n (by rw [z]; exact hp))]; exact e, fun _ x y => absurd x y⟩
/-- an own thing beside the trees is written -/
theorem Xt.back {K : PySem.W.Frag} {p p' : List Addr} {H H' : Hp} {a : Addr} {o : HO} (ha : H a = none) (x : Xt K p H p' H') (n : a ∉ p') (mu : Mut (H' a)) : Xt K p H p' (upd H' a o) :=
  ⟨x.pre, x.kp.trans (Kp.write mu), fun c u e m => by rw [upd_ne (ne_of_none e ha)]; exact x.fr c u e m, x.new⟩
section
variable {K : PySem.W.Frag} {p p' : List Addr} {H H' : Hp}
mutual
theorem RW.mono (hp : p <+: p') (k : Kp K H H') : ∀ {w : W} {v : V}, RW K p H w v → RW K p' H' w v
  | _, _, .non => .non
  | _, _, .bl b => .bl b
  | _, _, .int i => .int i
  | _, _, .str l => .str l
  | _, _, .tup h r => .tup (k.tup _ _ h) (RWs.mono hp k r)
  | _, _, .ref h => .ref (by
      obtain ⟨t, rfl⟩ := hp
      rw [List.getElem?_append_left (List.getElem?_eq_some_iff.mp h).1]
      exact h)
  | _, _, .kl h r => .kl (k.fz _ _ h) (RWs.mono hp k r)
theorem RWs.mono (hp : p <+: p') (k : Kp K H H') : ∀ {l : List W} {vs : List V}, RWs K p H l vs → RWs K p' H' l vs
  | _, _, .nil => .nil
  | _, _, .cons a r => .cons (RW.mono hp k a) (RWs.mono hp k r)
end
theorem RWs.length : ∀ {l : List W} {vs : List V}, RWs K p H l vs → l.length = vs.length
  | _, _, .nil => rfl
  | _, _, .cons _ r => congrArg (· + 1) r.length
theorem RWs.get : ∀ {l : List W} {vs : List V} {i : Nat} {w : W}, RWs K p H l vs → l[i]? = some w → ∃ v, vs[i]? = some v ∧ RW K p H w v
  | _, _, i, _, .nil, e => by simp at e
  | _, _, 0, _, .cons a _, e => by simp at e; subst e; exact ⟨_, rfl, a⟩
  | _, _, i + 1, w, .cons _ r, e => by
    obtain ⟨v, h1, h2⟩ := RWs.get (i := i) (w := w) r (by simpa using e)
    exact ⟨v, by simpa using h1, h2⟩
theorem RWs.append : ∀ {l m : List W} {vs us : List V}, RWs K p H l vs → RWs K p H m us → RWs K p H (l ++ m) (vs ++ us)
  | _, _, _, _, .nil, s => s
  | _, _, _, _, .cons a r, s => .cons a (RWs.append r s)
theorem RWs.set : ∀ {l : List W} {vs : List V} (i : Nat) {w : W} {v : V}, RWs K p H l vs → RW K p H w v → RWs K p H (l.set i w) (vs.set i v)
  | _, _, _, _, _, .nil, _ => .nil
  | _, _, 0, _, _, .cons _ r, a => .cons a r
  | _, _, i + 1, _, _, .cons b r, a => .cons b (RWs.set i r a)
theorem RWs.take : ∀ {l : List W} {vs : List V} (n : Nat), RWs K p H l vs → RWs K p H (l.take n) (vs.take n)
  | _, _, 0, _ => .nil
  | _, _, _ + 1, .nil => .nil
  | _, _, n + 1, .cons a r => .cons a (RWs.take n r)
theorem RWs.drop : ∀ {l : List W} {vs : List V} (n : Nat), RWs K p H l vs → RWs K p H (l.drop n) (vs.drop n)
  | _, _, 0, r => r
  | _, _, _ + 1, .nil => .nil
  | _, _, n + 1, .cons _ r => RWs.drop n r
theorem RWs.rep {l : List W} {vs : List V} (h : RWs K p H l vs) : ∀ k : Nat, RWs K p H (List.replicate k l).flatten (List.replicate k vs).flatten
  | 0 => .nil
  | k + 1 => by
    rw [List.replicate_succ, List.replicate_succ, List.flatten_cons, List.flatten_cons]
    exact h.append (RWs.rep h k)
theorem RWs.ints : ∀ {l : List W} {vs : List V} {ns : List Int}, RWs K p H l vs → intsOf l = some ns → vs = ns.map V.int
  | _, _, _, .nil, e => by cases e; rfl
  | _, _, _, .cons (x := x) (l := l) a r, e => by
    cases a with
    | int i =>
      simp only [intsOf] at e
      cases q : intsOf l with
      | none => rw [q] at e; cases e
      | some m => rw [q] at e; cases e; rw [RWs.ints r q]; rfl
    | _ => simp [intsOf] at e
theorem RWs.bls : ∀ {l : List W} {vs : List V} {ns : List Bool}, RWs K p H l vs → blsOf l = some ns → vs = ns.map V.bl
  | _, _, _, .nil, e => by cases e; rfl
  | _, _, _, .cons (x := x) (l := l) a r, e => by
    cases a with
    | bl i =>
      simp only [blsOf] at e
      cases q : blsOf l with
      | none => rw [q] at e; cases e
      | some m => rw [q] at e; cases e; rw [RWs.bls r q]; rfl
    | _ => simp [blsOf] at e
theorem RWs.strs : ∀ {l : List W} {vs : List V} {ns : List (List Nat)}, RWs K p H l vs → strsOf l = some ns → vs = (ns.map fun x => (⟨x.toArray⟩ : Str)).map V.str
  | _, _, _, .nil, e => by cases e; rfl
  | _, _, _, .cons (x := x) (l := l) a r, e => by
    cases a with
    | str i =>
      simp only [strsOf] at e
      cases q : strsOf l with
      | none => rw [q] at e; cases e
      | some m => rw [q] at e; cases e; rw [RWs.strs r q]; rfl
    | _ => simp [strsOf] at e
end
/-! ### the heap -/
/-- a dict's entries: keys ints and texts -/
def keyV : W → Option Key
  | .int i => some (.inl i)
  | .str l => some (.inr ⟨l.toArray⟩)
  | _ => none
inductive RD (K : PySem.W.Frag) (p : List Addr) (H : Hp) : List (W × W) → List (Key × V) → Prop
  | nil : RD K p H [] []
  | cons {k w : W} {l : List (W × W)} {x : Key} {v : V} {kvs : List (Key × V)} : keyV k = some x → RW K p H w v → RD K p H l kvs → RD K p H ((k, w) :: l) ((x, v) :: kvs)
/-- an instance's fields: nm tells their names -/
inductive RF (nm : Nat → Str) (K : PySem.W.Frag) (p : List Addr) (H : Hp) : List (Nat × W) → List (Str × V) → Prop
  | nil : RF nm K p H [] []
  | cons {f : Nat} {w : W} {l : List (Nat × W)} {v : V} {fs : List (Str × V)} : RW K p H w v → RF nm K p H l fs → RF nm K p H ((f, w) :: l) ((nm f, v) :: fs)
theorem RD.mono {K : PySem.W.Frag} {p p' : List Addr} {H H' : Hp} (hp : p <+: p') (k : Kp K H H') : ∀ {l : List (W × W)} {kvs : List (Key × V)}, RD K p H l kvs → RD K p' H' l kvs
  | _, _, .nil => .nil
  | _, _, .cons e a r => .cons e (a.mono hp k) (RD.mono hp k r)
theorem RF.mono {nm : Nat → Str} {K : PySem.W.Frag} {p p' : List Addr} {H H' : Hp} (hp : p <+: p') (k : Kp K H H') : ∀ {l : List (Nat × W)} {fs : List (Str × V)}, RF nm K p H l fs → RF nm K p' H' l fs
  | _, _, .nil => .nil
  | _, _, .cons a r => .cons (a.mono hp k) (RF.mono hp k r)
/-- what the names of the text stand for: classes, fields -/
structure Nm where
  cls : Nat → Addr
  fld : Nat → Str
  xf : Nat → List Str
def RO (nm : Nm) (K : PySem.W.Frag) (p : List Addr) (H : Hp) (o : O) (a : Addr) : Prop := match o with
  | .lst l => ∃ vs, H a = some (.lst vs) ∧ RWs K p H l vs
  | .dct l => ∃ kvs, H a = some (.dK kvs) ∧ RD K p H l kvs
  | .lk l => ∃ ob kvs, H a = some (.frz ob (.dK kvs)) ∧ RD K p H l kvs
  | .ins c fs => ∃ dx vs, H a = some (.ins (nm.cls c) dx vs) ∧ RF nm.fld K p H fs vs
structure Sim (nm : Nm) (K : PySem.W.Frag) (p : List Addr) (h : Hm) (H : Hp) : Prop where
  len : p.length = h.length
  nd : p.Nodup
  at_ : ∀ (i : Nat) (o : O) (a : Addr), h[i]? = some o → p[i]? = some a → RO nm K p H o a
structure Er (K : PySem.W.Frag) (p : List Addr) (H : Hp) (s : Env) (t : Sg) : Prop where
  len : s.length = t.length
  at_ : ∀ (i : Nat) (w : W), s[i]? = some (some w) → ∃ v, t[i]? = some (some v) ∧ RW K p H w v
section
variable {nm : Nm} {K : PySem.W.Frag} {p p' : List Addr} {H H' : Hp} {h h' : Hm} {s : Env} {t : Sg}
theorem Er.mono (e : Er K p H s t) (x : Xt K p H p' H') : Er K p' H' s t := ⟨e.len, fun i w q => let ⟨v, a, b⟩ := e.at_ i w q; ⟨v, a, b.mono x.pre x.kp⟩⟩
theorem RW.to {w : W} {v : V} (r : RW K p H w v) (x : Xt K p H p' H') : RW K p' H' w v := r.mono x.pre x.kp
theorem RWs.to {w : List W} {v : List V} (r : RWs K p H w v) (x : Xt K p H p' H') : RWs K p' H' w v := r.mono x.pre x.kp
theorem Er.set (e : Er K p H s t) {w : W} {v : V} (r : RW K p H w v) (i : Nat) : Er K p H (s.set i (some w)) (t.set i (some v)) := by
  refine ⟨by simpa using e.len, fun j u q => ?_⟩
  by_cases hj : i = j
  · subst hj
    by_cases hi : i < s.length
    · rw [List.getElem?_set_self hi] at q
      cases q
      exact ⟨v, by rw [List.getElem?_set_self (by rw [← e.len]; exact hi)], r⟩
    · rw [List.getElem?_eq_none (by simpa using hi)] at q; cases q
  · rw [List.getElem?_set_ne hj] at q
    obtain ⟨x, a, b⟩ := e.at_ j u q
    exact ⟨x, by rw [List.getElem?_set_ne hj]; exact a, b⟩
/-- each object is there -/
theorem Sim.get (x : Sim nm K p h H) {i : Nat} {o : O} (e : h[i]? = some o) : ∃ a, p[i]? = some a ∧ RO nm K p H o a := by
  have hi : i < p.length := by rw [x.len]; exact (List.getElem?_eq_some_iff.mp e).1
  exact ⟨p[i], List.getElem?_eq_getElem hi, x.at_ i o _ e (List.getElem?_eq_getElem hi)⟩
theorem RO.some {o : O} {a : Addr} (r : RO nm K p H o a) : ∃ u, H a = some u := by
  cases o with
  | lst l => obtain ⟨_, e, _⟩ := r; exact ⟨_, e⟩
  | dct l => obtain ⟨_, e, _⟩ := r; exact ⟨_, e⟩
  | lk l => obtain ⟨_, _, e, _⟩ := r; exact ⟨_, e⟩
  | ins c fs => obtain ⟨_, _, e, _⟩ := r; exact ⟨_, e⟩
theorem Sim.mem (x : Sim nm K p h H) {a : Addr} (ha : a ∈ p) : ∃ u, H a = some u := by
  obtain ⟨i, hi, e⟩ := List.getElem_of_mem ha
  have hh : i < h.length := by rw [← x.len]; exact hi
  exact (x.at_ i _ a (List.getElem?_eq_getElem hh) (by rw [List.getElem?_eq_getElem hi, e])).some
theorem RO.mono {o : O} {a : Addr} (hp : p <+: p') (k : Kp K H H') (ha : H' a = H a) (r : RO nm K p H o a) : RO nm K p' H' o a := by
  cases o with
  | lst l => obtain ⟨_, e, q⟩ := r; exact ⟨_, ha.trans e, q.mono hp k⟩
  | dct l => obtain ⟨_, e, q⟩ := r; exact ⟨_, ha.trans e, q.mono hp k⟩
  | lk l => obtain ⟨_, _, e, q⟩ := r; exact ⟨_, _, ha.trans e, q.mono hp k⟩
  | ins c fs => obtain ⟨_, _, e, q⟩ := r; exact ⟨_, _, ha.trans e, q.mono hp k⟩
/-- something is laid beside -/
theorem Sim.beside (x : Sim nm K p h H) {a : Addr} {u : HO} (ha : H a = none) : Sim nm K p h (upd H a u) := by
  refine ⟨x.len, x.nd, fun i o b e q => (x.at_ i o b e q).mono (List.prefix_refl p) (Kp.new ha) ?_⟩
  obtain ⟨v, hv⟩ := (x.at_ i o b e q).some
  exact upd_ne (ne_of_none hv ha)
/-- an object is laid -/
theorem Sim.laid (x : Sim nm K p h H) {a : Addr} {u : HO} {o : O} (ha : H a = none) (r : RO nm K (p ++ [a]) (upd H a u) o a) : Sim nm K (p ++ [a]) (h ++ [o]) (upd H a u) := by
  have na : a ∉ p := fun z => by obtain ⟨v, hv⟩ := x.mem z; rw [ha] at hv; cases hv
  refine ⟨by simp [x.len], List.nodup_append.mpr ⟨x.nd, by simp, fun c hc b hb => ?_⟩, fun i o' b e q => ?_⟩
  · have : b = a := by simpa using hb
    subst this
    rintro rfl
    exact na hc
  · by_cases hi : i < p.length
    · rw [List.getElem?_append_left hi] at q
      rw [List.getElem?_append_left (by rw [← x.len]; exact hi)] at e
      obtain ⟨v, hv⟩ := (x.at_ i o' b e q).some
      exact (x.at_ i o' b e q).mono (List.prefix_append p [a]) (Kp.new ha) (upd_ne (ne_of_none hv ha))
    · have hlt := (List.getElem?_eq_some_iff.mp e).1
      have hi2 : i = p.length := by
        rw [List.length_append, List.length_singleton] at hlt
        have := x.len
        omega
      subst hi2
      rw [List.getElem?_append_right (Nat.le_refl _), Nat.sub_self] at q
      rw [List.getElem?_append_right (by rw [x.len]; exact Nat.le_refl _), x.len, Nat.sub_self] at e
      cases q
      cases e
      exact r
theorem nodup_inj {l : List Addr} (hn : l.Nodup) {i j : Nat} {a : Addr} (h1 : l[i]? = some a) (h2 : l[j]? = some a) : i = j := by
  obtain ⟨a1, e1⟩ := List.getElem?_eq_some_iff.mp h1
  obtain ⟨a2, e2⟩ := List.getElem?_eq_some_iff.mp h2
  exact (List.getElem_inj hn).mp (e1.trans e2.symm)
/-- an object is written -/
theorem Sim.write (x : Sim nm K p h H) {r : Nat} {a : Addr} {u : HO} {o : O} (hr : p[r]? = some a) (mu : Mut (H a)) (n : RO nm K p (upd H a u) o a) : Sim nm K p (h.set r o) (upd H a u) := by
  refine ⟨by simp [x.len], x.nd, fun i o' b e q => ?_⟩
  by_cases hi : r = i
  · subst hi
    rw [hr] at q
    cases q
    have hlt : r < h.length := by rw [← x.len]; exact (List.getElem?_eq_some_iff.mp hr).1
    rw [List.getElem?_set_self hlt] at e
    cases e
    exact n
  · rw [List.getElem?_set_ne hi] at e
    refine (x.at_ i o' b e q).mono (List.prefix_refl p) (Kp.write mu) (upd_ne fun z => ?_)
    subst z
    exact hi (nodup_inj x.nd hr q)
end
end M2

namespace M2
open PySem PySem.Spec PyProof.Rows L2
/-! ### what an end says of the model -/
/-- a raised error: its class, its own dict -/
def XR (nm : Nm) (K : PySem.W.Frag) (p : List Addr) (H : Hp) (c : Nat) (ws : List W) (d : Option Addr) : Prop :=
  ∃ vs, RWs K p H ws vs ∧ (match ws with
    | [] => d = none
    | _ => ∃ dd, d = some dd ∧ H dd = some (.xd ((nm.xf c).zip vs)))
/-- the ends of a value of any kind, related by G -/
def Ok {A B : Type} (nm : Nm) (K : PySem.W.Frag) (Ek : XK) (G : List Addr → Hp → A → B → Prop) (p : List Addr) (H : Hp) (r : R A) (Q : B → Hp → Prop) : Prop := match r with
  | .ok a h' => ∀ p' H' b, Xt K p H p' H' → Sim nm K p' h' H' → G p' H' a b → Q b H'
  | .exc c ws h' => ∀ p' H' d, Xt K p H p' H' → Sim nm K p' h' H' → XR nm K p' H' c ws d → Ek (.ref (nm.cls c)) d H'
  | .bad => False
section
variable {A B A' B' : Type} {nm : Nm} {K : PySem.W.Frag} {Ek : XK} {G : List Addr → Hp → A → B → Prop} {G' : List Addr → Hp → A' → B' → Prop} {p p1 : List Addr} {H H1 : Hp}
theorem Ok.from {r : R A} {Q : B → Hp → Prop} (x : Xt K p H p1 H1) (h : Ok nm K Ek G p H r Q) : Ok nm K Ek G p1 H1 r Q := by
  cases r with
  | ok a h' => exact fun p' H' b x' s' g => h p' H' b (x.trans x') s' g
  | exc c ws h' => exact fun p' H' d x' s' g => h p' H' d (x.trans x') s' g
  | bad => exact h
/-- one part, then the next -/
theorem Ok.then {r : R A} {k : A → Hm → R A'} {Q : B' → Hp → Prop} {Q' : B → Hp → Prop} (h : Ok nm K Ek G' p H (r.then k) Q)
    (hk : ∀ a h1 p1 H1 b, r = .ok a h1 → Xt K p H p1 H1 → Sim nm K p1 h1 H1 → G p1 H1 a b → Ok nm K Ek G' p1 H1 (k a h1) Q → Q' b H1) : Ok nm K Ek G p H r Q' := by
  cases r with
  | ok a h' => exact fun p' H' b x' s' g => hk a h' p' H' b rfl x' s' g (Ok.from x' h)
  | exc c ws h' => exact h
  | bad => exact h
end
abbrev GV (K : PySem.W.Frag) : List Addr → Hp → W → V → Prop := fun p H w v => RW K p H w v
abbrev GL (K : PySem.W.Frag) : List Addr → Hp → List W → List V → Prop := fun p H w v => RWs K p H w v
abbrev GB : List Addr → Hp → Bool → Bool → Prop := fun _ _ a b => a = b
/-- a raw row: a list or a tuple with these items, wherever it stands -/
abbrev GR (K : PySem.W.Frag) : List Addr → Hp → List W → V → Prop := fun p H w v => ∃ a vs, v = .ref a ∧ (SqL K H a vs ∨ SqT K H a vs) ∧ RWs K p H w vs
section
variable (nm : Nm) (K : PySem.W.Frag) (Ek : XK)
def tV (ev : DV) : TE := fun σ H Q => ∃ p s h, Sim nm K p h H ∧ Er K p H s σ ∧ Ok nm K Ek (GV K) p H (ev s h) Q
def tR (ev : DL) : TE := fun σ H Q => ∃ p s h, Sim nm K p h H ∧ Er K p H s σ ∧ Ok nm K Ek (GR K) p H (ev s h) Q
def tB (ev : DT) : TT := fun σ H Q => ∃ p s h, Sim nm K p h H ∧ Er K p H s σ ∧ Ok nm K Ek GB p H (ev s h) Q
def tLs (ev : DL) : TA := fun σ H Q => ∃ p s h, Sim nm K p h H ∧ Er K p H s σ ∧ Ok nm K Ek (GL K) p H (ev s h) Q
/-- an operator by trees -/
def rOp (f : W → W → Hm → R W) : R2 := fun x y H Q => ∃ p h a b, Sim nm K p h H ∧ RW K p H a x ∧ RW K p H b y ∧ Ok nm K Ek (GV K) p H (f a b h) Q
/-- a function of a row of values -/
def rFn (f : List W → Hm → R W) : List V → Hp → VK → Prop := fun xs H Q => ∃ p h ws, Sim nm K p h H ∧ RWs K p H ws xs ∧ Ok nm K Ek (GV K) p H (f ws h) Q
end
theorem PEi {X : L2.Cx} {e : Expr} {t t' : TE} (h : PE X e t) (i : ∀ σ H Q, t' σ H Q → t σ H Q) : PE X e t' := ⟨fun pins s σ H Q I q => h.run pins s σ H Q I (i σ H Q q)⟩
theorem PTi {X : L2.Cx} {e : Expr} {t t' : TT} (h : PT X e t) (i : ∀ σ H Q, t' σ H Q → t σ H Q) : PT X e t' := ⟨fun pins s σ H Q I q => h.run pins s σ H Q I (i σ H Q q)⟩
theorem PAi {X : L2.Cx} {es : List Expr} {t t' : TA} (h : PA X es t) (i : ∀ σ H Q, t' σ H Q → t σ H Q) : PA X es t' := ⟨fun pos pins s σ H Q I q => h.run pos pins s σ H Q I (i σ H Q q)⟩
theorem PSi {X : L2.Cx} {e : Stmt} {t t' : TS} (h : PS X e t) (i : ∀ D σ H, t' D σ H → t D σ H) : PS X e t' := ⟨fun pins s σ H D I q => h.run pins s σ H D I (i D σ H q)⟩
theorem PSsi {X : L2.Cx} {e : List Stmt} {t t' : TS} (h : PSs X e t) (i : ∀ D σ H, t' D σ H → t D σ H) : PSs X e t' := ⟨fun pins s σ H D I q => h.run pins s σ H D I (i D σ H q)⟩
section
variable {nm : Nm} {X : L2.Cx} {Ek : XK}
/-! ### two values, an operator -/
theorem tOp_of {da db : DV} {f : W → W → Hm → R W} {σ : Sg} {H : Hp} {Q : VK} (h : tV nm X.K Ek (fun s h => (da s h).then fun x h1 => (db s h1).then fun y h2 => f x y h2) σ H Q) :
    tOp (rOp nm X.K Ek f) (tV nm X.K Ek da) (tV nm X.K Ek db) σ H Q := by
  obtain ⟨p, s, h, si, er, ok⟩ := h
  refine ⟨p, s, h, si, er, ok.then fun w h1 p1 H1 x _ x1 s1 r1 ok1 => ⟨p1, s, h1, s1, er.mono x1, ok1.then fun w2 h2 p2 H2 y _ x2 s2 r2 ok2 => ⟨p2, h2, w, w2, s2, r1.to x2, r2, ok2⟩⟩⟩
theorem e_bin {op : Operator} {a b : Expr} {pos : Pos} {da db : DV} {f : W → W → Hm → R W} (ho : OpR X (binaryOp op) (rOp nm X.K Ek f)) (ha : PE X a (tV nm X.K Ek da)) (hb : PE X b (tV nm X.K Ek db)) :
    PE X (.BinOp a op b pos) (tV nm X.K Ek fun s h => (da s h).then fun x h1 => (db s h1).then fun y h2 => f x y h2) := PEi (pe_op ho ha hb) fun _ _ _ => tOp_of
theorem e_cmp {op : CmpOp} {a b : Expr} {pos : Pos} {da db : DV} {f : W → W → Hm → R W} (ho : OpR X (compareOp op) (rOp nm X.K Ek f)) (ha : PE X a (tV nm X.K Ek da)) (hb : PE X b (tV nm X.K Ek db)) (hm : behindInMarks op b = false) :
    PE X (.Compare a [op] [b] pos) (tV nm X.K Ek fun s h => (da s h).then fun x h1 => (db s h1).then fun y h2 => f x y h2) := PEi (pe_cmpR ho ha hb hm) fun _ _ _ => tOp_of
theorem e_sub {a b : Expr} {pos : Pos} {da db : DV} {f : W → W → Hm → R W} (ho : IxR X (rOp nm X.K Ek f)) (ha : PE X a (tV nm X.K Ek da)) (hb : PE X b (tV nm X.K Ek db)) (hs : PlainIx b) :
    PE X (.Subscript a b pos) (tV nm X.K Ek fun s h => (da s h).then fun x h1 => (db s h1).then fun y h2 => f x y h2) := PEi (pe_ix ho ha hb hs) fun _ _ _ => tOp_of
theorem e_cmp2 {op op' : CmpOp} {a b c : Expr} {pos : Pos} {da db dc : DV} {f : W → W → Hm → R W} {o' : Cop} (ho : OpR X (compareOp op) (rOp nm X.K Ek f)) (ho' : OpR X (compareOp op') (rOp nm X.K Ek (cmpop o')))
    (ha : PE X a (tV nm X.K Ek da)) (hb : PE X b (tV nm X.K Ek db)) (hc : PE X c (tV nm X.K Ek dc)) (hm : lastMarks [op, op'] [b, c] = false) :
    PE X (.Compare a [op, op'] [b, c] pos) (tV nm X.K Ek fun s h => (da s h).then fun x h1 => (db s h1).then fun y h2 => (f x y h2).then (chainV o' y (dc s))) := by
  refine PEi (pe_chain ho ho' ha hb hc hm) fun σ H Q ⟨p, s, h, si, er, ok⟩ => ?_
  refine ⟨p, s, h, si, er, ok.then fun w h1 p1 H1 x _ x1 s1 r1 ok1 => ⟨p1, s, h1, s1, er.mono x1, ok1.then fun w2 h2 p2 H2 y _ x2 s2 r2 ok2 => ?_⟩⟩
  refine ⟨p2, h2, w, w2, s2, r1.to x2, r2, ok2.then fun w3 h3 p3 H3 z _ x3 s3 r3 ok3 => ?_⟩
  cases r3 with
  | bl k =>
    refine ⟨k, rfl, ?_⟩
    cases k with
    | true =>
      rw [if_pos rfl]
      exact ⟨p3, s, h3, s3, ((er.mono x1).mono x2).mono x3, ok3.then fun w4 h4 p4 H4 u _ x4 s4 r4 ok4 => ⟨p4, h4, w2, w4, s4, (r2.to x3).to x4, r4, ok4⟩⟩
    | false =>
      rw [if_neg Bool.false_ne_true]
      exact ok3 p3 H3 _ Xt.refl s3 (.bl false)
  | _ => exact ok3.elim
/-! ### constants, names -/
theorem e_con {e : Expr} {v : V} {w : W} (h : PE X e (tC v)) (r : ∀ p H, RW X.K p H w v) : PE X e (tV nm X.K Ek fun _ h => .ok w h) :=
  PEi h fun _ H _ ⟨p, _, _, si, _, ok⟩ => ok p H v Xt.refl si (r p H)
theorem e_var {i : Nat} {x : Str} {pos : Pos} (hN : X.N[i]? = some x) (hv : Vis X.env.scope x) (hd : (x == ("__debug__" : Str)) = false) (hcd : (x == ("__classdict__" : Str)) = false) : PE X (.Name x pos) (tV nm X.K Ek (varV i)) := by
  refine PEi (pe_var hN hv hd hcd) fun σ H Q ⟨p, s, h, si, er, ok⟩ => ?_
  unfold varV at ok
  cases e : s[i]? with
  | none => rw [e] at ok; exact ok.elim
  | some o =>
    cases o with
    | none => rw [e] at ok; exact ok.elim
    | some w =>
      rw [e] at ok
      obtain ⟨v, a, b⟩ := er.at_ i w e
      exact ⟨v, a, ok p H v Xt.refl si b⟩
/-! ### rows of values -/
theorem a_nil : PA X [] (tLs nm X.K Ek fun _ h => .ok [] h) := PAi pa_nil fun _ H _ ⟨p, _, _, si, _, ok⟩ => ok p H [] Xt.refl si .nil
theorem a_cons {e : Expr} {es : List Expr} {da : DV} {db : DL} (ha : PE X e (tV nm X.K Ek da)) (hb : PA X es (tLs nm X.K Ek db)) (hs : starEach (e :: es) X.env = (false, eval e X.env) :: starEach es X.env) :
    PA X (e :: es) (tLs nm X.K Ek fun s h => (da s h).then fun x h1 => (db s h1).then fun ws h2 => .ok (x :: ws) h2) := by
  refine PAi (pa_cons ha hb hs) fun σ H Q ⟨p, s, h, si, er, ok⟩ => ?_
  refine ⟨p, s, h, si, er, ok.then fun w h1 p1 H1 x _ x1 s1 r1 ok1 => ⟨p1, s, h1, s1, er.mono x1, ok1.then fun w2 h2 p2 H2 y _ x2 s2 r2 ok2 => ?_⟩⟩
  exact ok2 p2 H2 _ Xt.refl s2 (.cons (r1.to x2) r2)
/-! ### tests, and, or, not, if -/
theorem TruV_of {p : List Addr} {h : Hm} {H : Hp} {w : W} {v : V} {b : Bool} (si : Sim nm X.K p h H) (r : RW X.K p H w v) (e : truth h w = some b) : TruV X.K v H b := by
  cases r with
  | non => cases e; rfl
  | bl b => cases e; rfl
  | int i => cases e; rfl
  | str l =>
    simp only [truth] at e
    split at e
    · rename_i hl
      cases e
      refine ⟨by show (⟨l.toArray⟩ : Str).length ≤ sizeLine; simpa [Str.length, sizeLine_eq, line] using hl, ?_⟩
      show (!l.isEmpty) = (((⟨l.toArray⟩ : Str).length : Int) != 0)
      cases l with
      | nil => rfl
      | cons c l =>
        have : ((((⟨(c :: l).toArray⟩ : Str).length : Nat) : Int) != 0) = true := by simp [Str.length]; omega
        rw [this]; rfl
    · cases e
  | tup h q => cases e; exact .inr (.inl ⟨_, h, by cases q <;> rfl⟩)
  | kl h q => cases e; exact .inl ⟨_, h.sq, by cases q <;> rfl⟩
  | ref hr =>
    simp only [truth] at e
    split at e
    · rename_i l q
      cases e
      obtain ⟨a, e1, vs, e2, q2⟩ := si.get q
      rw [hr] at e1; cases e1
      exact .inl ⟨vs, SqL.of e2, by cases q2 <;> rfl⟩
    · rename_i l q
      cases e
      obtain ⟨a, e1, vs, e2, q2⟩ := si.get q
      rw [hr] at e1; cases e1
      exact .inr (.inr ⟨vs, e2, by cases q2 <;> rfl⟩)
    · cases e
end
end M2

namespace M2
open PySem PySem.Spec PyProof.Rows L2
theorem line_eq : line = sizeLine := by rw [sizeLine_eq]; rfl
abbrev st (l : List Nat) : Str := ⟨l.toArray⟩
theorem st_len (l : List Nat) : (st l).length = l.length := by simp [Str.length]
theorem st_tl (l : List Nat) : (st l).cps.toList = l := by simp
theorem st_app (a b : List Nat) : st a ++ st b = st (a ++ b) := by
  show Str.append (st a) (st b) = st (a ++ b)
  simp [Str.append]
theorem st_inj {a b : List Nat} (h : st a = st b) : a = b := by
  have := congrArg (fun x : Str => x.cps.toList) h
  simpa using this
theorem st_of (z : Str) : st z.cps.toList = z := by cases z; simp
section
variable {nm : Nm} {X : L2.Cx} {Ek : XK} {K : PySem.W.Frag} {p : List Addr} {H : Hp} {h : Hm}
theorem Sim.lst (si : Sim nm K p h H) {r : Nat} {a : Addr} {l : List W} (hr : p[r]? = some a) (e : h[r]? = some (.lst l)) : ∃ vs, H a = some (.lst vs) ∧ RWs K p H l vs := by
  obtain ⟨b, e1, q⟩ := si.get e
  rw [hr] at e1; cases e1
  exact q
theorem asL_lst {r : Nat} {l : List W} (e : asL h r = some l) : h[r]? = some (.lst l) := by
  unfold asL at e
  split at e
  · rename_i m q; cases e; exact q
  · cases e
/-- a new list -/
theorem new_lst {l : List W} {vs : List V} {Q : VK} (si : Sim nm K p h H) (q : RWs K p H l vs) (ok : Ok nm K Ek (GV K) p H (alloc (.lst l) h) Q) : ∀ a, H a = none → Q (.ref a) (upd H a (.lst vs)) := fun a ha =>
  ok (p ++ [a]) _ _ (Xt.laid ha) (si.laid ha ⟨vs, upd_same, q.to (Xt.laid ha)⟩) (.ref (by rw [← si.len]; simp))
theorem new_tup {l : List W} {vs : List V} {Q : VK} (si : Sim nm K p h H) (q : RWs K p H l vs) (ok : Ok nm K Ek (GV K) p H (.ok (.tup l) h) Q) : ∀ a, H a = none → Q (.ref a) (upd H a (.tup vs)) := fun a ha =>
  ok p _ _ (Xt.beside ha) (si.beside ha) (.tup (SqT.of upd_same) (q.to (Xt.beside ha)))
theorem opr_add : OpR X (binaryOp .Add) (rOp nm X.K Ek (binop .add)) := by
  rintro pins s σ H x y v u Q I rv ru ⟨p, h, a, b, si, ra, rb, ok⟩
  cases ra with
  | int i =>
    cases rb with
    | int j => exact op_add pins s σ H _ _ v u Q I rv ru ⟨i, j, rfl, rfl, ok p H _ Xt.refl si (.int _)⟩
    | _ => exact ok.elim
  | str l =>
    cases rb with
    | str m =>
      simp only [binop] at ok
      split at ok
      · rename_i hl
        refine op_add_str pins s σ H _ _ v u Q I rv ru ⟨_, _, rfl, rfl, by rw [st_len, st_len, ← line_eq]; exact hl, ?_⟩
        rw [st_app]
        exact ok p H _ Xt.refl si (.str _)
      · exact ok.elim
    | _ => exact ok.elim
  | tup hl ql =>
    cases rb with
    | tup hm qm =>
      simp only [binop] at ok
      split at ok
      · rename_i hz
        refine op_catA pins s σ H _ _ v u Q I rv ru ⟨_, _, _, _, rfl, rfl, hl, hm, by rw [← ql.length, ← qm.length, ← line_eq]; exact hz, fun e => ?_, fun _ e => ?_, fun _ _ => new_tup si (ql.append qm) ok⟩
        · subst e
          cases ql
          exact ok p H _ Xt.refl si (.tup hm qm)
        · subst e
          cases qm
          refine ok p H _ Xt.refl si (.tup hl ?_)
          rw [List.append_nil]
          exact ql
      · exact ok.elim
    | _ => exact ok.elim
  | ref hr =>
    cases rb with
    | ref hq =>
      simp only [binop] at ok
      split at ok
      · rename_i l m e1 e2
        split at ok
        · rename_i hz
          obtain ⟨vs, h1, q1⟩ := si.lst hr e1
          obtain ⟨us, h2, q2⟩ := si.lst hq e2
          exact op_cat pins s σ H _ _ v u Q I rv ru ⟨_, _, _, _, rfl, rfl, h1, h2, by rw [← q1.length, ← q2.length, ← line_eq]; exact hz, new_lst si (q1.append q2) ok⟩
        · exact ok.elim
      · exact ok.elim
    | _ => exact ok.elim
  | _ => exact ok.elim
theorem opr_sub : OpR X (binaryOp .Sub) (rOp nm X.K Ek (binop .sub)) := by
  rintro pins s σ H x y v u Q I rv ru ⟨p, h, a, b, si, ra, rb, ok⟩
  cases ra with
  | int i =>
    cases rb with
    | int j => exact op_sub pins s σ H _ _ v u Q I rv ru ⟨i, j, rfl, rfl, ok p H _ Xt.refl si (.int _)⟩
    | _ => exact ok.elim
  | _ => exact ok.elim
theorem opr_mul : OpR X (binaryOp .Mult) (rOp nm X.K Ek (binop .mul)) := by
  rintro pins s σ H x y v u Q I rv ru ⟨p, h, a, b, si, ra, rb, ok⟩
  cases ra with
  | int i =>
    cases rb with
    | int j =>
      simp only [binop] at ok
      split at ok
      · rename_i hz
        exact op_mulW pins s σ H _ _ v u Q I rv ru ⟨i, j, rfl, rfl, hz, ok p H _ Xt.refl si (.int _)⟩
      · exact ok.elim
    | _ => exact ok.elim
  | ref hr =>
    cases rb with
    | int k =>
      simp only [binop] at ok
      split at ok
      · rename_i l e1
        split at ok
        · rename_i hz
          obtain ⟨vs, h1, q1⟩ := si.lst hr e1
          exact op_rep pins s σ H _ _ v u Q I rv ru ⟨_, k, vs, rfl, rfl, h1, hz.1, hz.2.1, by rw [← q1.length, ← line_eq]; exact hz.2.2, new_lst si (q1.rep _) ok⟩
        · exact ok.elim
      · exact ok.elim
    | _ => exact ok.elim
  | _ => exact ok.elim
theorem opr_fdiv : OpR X (binaryOp .FloorDiv) (rOp nm X.K Ek (binop .fdiv)) := by
  rintro pins s σ H x y v u Q I rv ru ⟨p, h, a, b, si, ra, rb, ok⟩
  cases ra with
  | int i =>
    cases rb with
    | int j =>
      simp only [binop] at ok
      split at ok
      · rename_i hz
        exact op_fdivW pins s σ H _ _ v u Q I rv ru ⟨i, j, rfl, rfl, hz, ok p H _ Xt.refl si (.int _)⟩
      · exact ok.elim
    | _ => exact ok.elim
  | _ => exact ok.elim
theorem opr_mod : OpR X (binaryOp .Mod) (rOp nm X.K Ek (binop .mod)) := by
  rintro pins s σ H x y v u Q I rv ru ⟨p, h, a, b, si, ra, rb, ok⟩
  cases ra with
  | int i =>
    cases rb with
    | int j =>
      simp only [binop] at ok
      split at ok
      · rename_i hz
        exact op_mod pins s σ H _ _ v u Q I rv ru ⟨i, j, rfl, rfl, hz, ok p H _ Xt.refl si (.int _)⟩
      · exact ok.elim
    | _ => exact ok.elim
  | _ => exact ok.elim
theorem opr_pow : OpR X (binaryOp .Pow) (rOp nm X.K Ek (binop .pow)) := by
  rintro pins s σ H x y v u Q I rv ru ⟨p, h, a, b, si, ra, rb, ok⟩
  cases ra with
  | int i =>
    cases rb with
    | int j =>
      simp only [binop] at ok
      split at ok
      · rename_i hz
        exact op_pow pins s σ H _ _ v u Q I rv ru ⟨i, j, rfl, rfl, hz, ok p H _ Xt.refl si (.int _)⟩
      · exact ok.elim
    | _ => exact ok.elim
  | _ => exact ok.elim
theorem opr_bin {o : PySem.Operator} {b : Bop} (e : bopOf o = some b) : OpR X (binaryOp o) (rOp nm X.K Ek (binop b)) := by
  cases o <;> first
    | (cases e; first | exact opr_add | exact opr_sub | exact opr_mul | exact opr_fdiv | exact opr_mod | exact opr_pow)
    | cases e
end
/-! ### == -/
def pairAt (f : W → W → Option Bool) (l m : List W) (j : Nat) : Bool := match l[j]?, m[j]? with
  | some x, some y => (f x y).getD false
  | _, _ => false
theorem allEq_some (f : W → W → Option Bool) : ∀ (l m : List W) (b : Bool), allEq f l m = some b →
    (∀ (j : Nat) x y, l[j]? = some x → m[j]? = some y → ∃ c, f x y = some c) ∧ ((List.range (min l.length m.length)).all (pairAt f l m) && l.length == m.length) = b
  | [], [], b, e => by cases e; exact ⟨fun j x y h => by simp at h, rfl⟩
  | [], _ :: m, b, e => by cases e; exact ⟨fun j x y h => by simp at h, by simp⟩
  | _ :: l, [], b, e => by cases e; exact ⟨fun j x y h g => by simp at g, by simp⟩
  | x :: l, y :: m, b, e => by
    simp only [allEq] at e
    cases q1 : f x y with
    | none => rw [q1] at e; simp at e
    | some c =>
      cases q2 : allEq f l m with
      | none => rw [q1, q2] at e; simp at e
      | some d =>
        rw [q1, q2] at e
        have e' : (c && d) = b := Option.some.inj e
        obtain ⟨h1, h2⟩ := allEq_some f l m d q2
        refine ⟨fun j u v hu hv => ?_, ?_⟩
        · cases j with
          | zero => simp at hu hv; subst hu hv; exact ⟨c, q1⟩
          | succ j => exact h1 j u v (by simpa using hu) (by simpa using hv)
        · have hm : min (x :: l).length (y :: m).length = min l.length m.length + 1 := by simp only [List.length_cons]; omega
          rw [hm, List.range_succ_eq_map, List.all_cons, List.all_map]
          have p0 : pairAt f (x :: l) (y :: m) 0 = c := by simp [pairAt, q1]
          have ps : (pairAt f (x :: l) (y :: m) ∘ Nat.succ) = pairAt f l m := by funext j; simp [pairAt, Function.comp]
          have pl : ((x :: l).length == (y :: m).length) = (l.length == m.length) := by simp
          rw [p0, ps, pl, Bool.and_assoc, h2, e']
section
variable {nm : Nm} {X : L2.Cx} {pins : List (Addr × Obj)} {σ : Sg} {p : List Addr} {H : Hp} {h : Hm} {s : Shared}
theorem RWs.pair {K : PySem.W.Frag} {l m : List W} {vs : List V} (a : RWs K p H l vs) (b : RWs K p H m vs) (j : Nat) {x y : W} (h1 : l[j]? = some x) (h2 : m[j]? = some y) : ∃ v, RW K p H x v ∧ RW K p H y v := by
  obtain ⟨v, e1, r1⟩ := a.get h1
  obtain ⟨u, e2, r2⟩ := b.get h2
  rw [e1] at e2; cases e2
  exact ⟨v, r1, r2⟩
theorem tup_lst (I : Inv X pins σ H s) {a : Addr} {vs us : List V} (h1 : SqT X.K H a vs) (h2 : H a = some (.lst us)) : False := by
  obtain ⟨its, _, ⟨o, e, c, _⟩, _⟩ := I.tuple h1
  obtain ⟨its', n, _, e', _⟩ := I.lst h2
  rw [e] at e'; cases e'
  exact absurd c (by simp)
/-- two trees of one thing are equal -/
theorem eq_same (I : Inv X pins σ H s) (si : Sim nm X.K p h H) (n : Nat) : ∀ (a b : W) (v : V) (c : Bool), RW X.K p H a v → RW X.K p H b v → eqH h n a b = some c → c = true := by
  induction n with
  | zero => intro a b v c _ _ e; simp [eqH] at e
  | succ n ih =>
    intro a b v c ra rb e
    have go : ∀ (l m : List W) (vs : List V), RWs X.K p H l vs → RWs X.K p H m vs → allEq (eqH h n) l m = some c → c = true := fun l m vs r1 r2 q => by
      obtain ⟨h1, h2⟩ := allEq_some _ _ _ _ q
      rw [← h2]
      have hl : l.length = m.length := r1.length.trans r2.length.symm
      rw [hl]
      simp only [Nat.min_self, beq_self_eq_true, Bool.and_true, List.all_eq_true, List.mem_range]
      intro j hj
      have e1 : l[j]? = some (l[j]'(by rw [hl]; exact hj)) := List.getElem?_eq_getElem _
      have e2 : m[j]? = some m[j] := List.getElem?_eq_getElem _
      obtain ⟨u, x1, x2⟩ := r1.pair r2 j e1 e2
      obtain ⟨d, hd⟩ := h1 j _ _ e1 e2
      have := ih _ _ u d x1 x2 hd
      simp [pairAt, e1, e2, hd, this]
    cases ra with
    | non => cases rb; simp [eqH, eqW] at e; exact e
    | bl x => cases rb; simp [eqH, eqW] at e; exact e
    | int x => cases rb; simp [eqH, eqW] at e; exact e
    | str l =>
      generalize hz : (⟨l.toArray⟩ : Str) = z at rb
      cases rb with
      | str m =>
        have := st_inj hz
        subst this
        simp [eqH, eqW] at e
        exact e
    | tup hl ql =>
      cases rb with
      | tup hm qm =>
        have := I.tuple_inj hl hm
        subst this
        simp only [eqH] at e
        exact go _ _ _ ql qm e
      | ref hq =>
        simp only [eqH] at e
        split at e
        · rename_i hs
          obtain ⟨l', hl'⟩ := Option.isSome_iff_exists.mp hs
          obtain ⟨us, h1, _⟩ := si.lst hq (asL_lst hl')
          exact (tup_lst I hl h1).elim
        · cases e
      | kl hm qm => simp [eqH] at e
    | ref hr =>
      cases rb with
      | tup hm qm =>
        simp only [eqH] at e
        split at e
        · rename_i hs
          obtain ⟨l', hl'⟩ := Option.isSome_iff_exists.mp hs
          obtain ⟨us, h1, _⟩ := si.lst hr (asL_lst hl')
          exact (tup_lst I hm h1).elim
        · cases e
      | ref hq =>
        have := nodup_inj si.nd hr hq
        subst this
        simp only [eqH] at e
        split at e
        · rename_i l m e1 e2
          rw [e1] at e2; cases e2
          rw [if_pos rfl] at e
          obtain ⟨us, _, h2⟩ := si.lst hr (asL_lst e1)
          exact go _ _ _ h2 h2 e
        · cases e
      | kl hm qm => simp [eqH] at e
    | kl hl ql => cases b <;> simp [eqH] at e
/-- what stands at a value, outside -/
inductive Shp (h : Hm) (s : Shared) : W → Value → Prop
  | non : Shp h s .non .none
  | bl (b : Bool) : Shp h s (.bl b) (.bool b)
  | int (i : Int) (t : Tok) : Shp h s (.int i) (.int i t)
  | str (l : List Nat) (t : Tok) : Shp h s (.str l) (.str (st l) t)
  | tup {l : List W} {a : Addr} {its : Array Value} : s.heap.IsTuple a its → Shp h s (.tup l) (.ref a)
  | lst {n : Nat} {a : Addr} {its : Array Value} {l : List W} : s.heap.IsList a its → asL h n = some l → Shp h s (.ref n) (.ref a)
theorem st_eqb (a b : List Nat) : (st a == st b) = (a == b) := by
  by_cases e : a = b
  · subst e; simp
  · have : st a ≠ st b := fun z => e (st_inj z)
    rw [beq_eq_false_iff_ne.mpr this, beq_eq_false_iff_ne.mpr e]
def isT : W → Bool
  | .tup _ => true
  | _ => false
def isR : W → Bool
  | .ref _ => true
  | _ => false
theorem eq_mixed {A : Around} {n : Nat} {a b : W} {v u : Value} {c : Bool} (sa : Shp h s a v) (sb : Shp h s b u) (nt : isT a = true → isT b = true → False) (nl : isR a = true → isR b = true → False) (e : eqH h (n + 1) a b = some c) (hu : A.units < cLine) :
    SeqAt.RcAt A s v u c ∧ SeqAt.EqAt A s v u c ∧ SeqAt.RcNeAt A s v u (!c) := by
  cases sa with
  | non =>
    cases sb with
    | non => simp only [eqH, eqW, Option.some.injEq] at e; subst e; exact ⟨SeqAt.RcAt.none_none, SeqAt.EqAt.same _, SeqAt.RcNeAt.none_none⟩
    | bl y => simp only [eqH, eqW, Option.some.injEq] at e; subst e; exact ⟨SeqAt.RcAt.none_bool _, SeqAt.EqAt.none_bool _, SeqAt.RcNeAt.none_bool _⟩
    | int y u => simp only [eqH, eqW, Option.some.injEq] at e; subst e; exact ⟨SeqAt.RcAt.none_int _ _, SeqAt.EqAt.none_int _ _, SeqAt.RcNeAt.none_int _ _⟩
    | str y u => simp [eqH, eqW] at e; subst e; exact ⟨SeqAt.RcAt.none_str _ _, SeqAt.EqAt.none_str _ _, SeqAt.RcNeAt.none_str _ _⟩
    | tup g2 => simp [eqH, eqW] at e; subst e; exact ⟨SeqAt.RcAt.none_tuple g2 hu, SeqAt.EqAt.none_tuple g2 hu, SeqAt.RcNeAt.none_tuple g2 hu⟩
    | lst g2 e2 => simp [eqH, eqW, e2] at e; subst e; exact ⟨SeqAt.RcAt.none_list g2 hu, SeqAt.EqAt.none_list g2 hu, SeqAt.RcNeAt.none_list g2 hu⟩
  | bl x =>
    cases sb with
    | non => simp only [eqH, eqW, Option.some.injEq] at e; subst e; exact ⟨SeqAt.RcAt.bool_none _, SeqAt.EqAt.bool_none _, SeqAt.RcNeAt.bool_none _⟩
    | bl y => simp only [eqH, eqW, Option.some.injEq] at e; subst e; exact ⟨SeqAt.RcAt.bool_bool _ _, SeqAt.EqAt.bool_bool _ _, SeqAt.RcNeAt.bool_bool _ _⟩
    | int y u => simp only [eqH, eqW, Option.some.injEq] at e; subst e; exact ⟨SeqAt.RcAt.bool_int _ _ _, SeqAt.EqAt.bool_int _ _ _, SeqAt.RcNeAt.bool_int _ _ _⟩
    | str y u => simp [eqH, eqW] at e; subst e; exact ⟨SeqAt.RcAt.bool_str _ _ _, SeqAt.EqAt.bool_str _ _ _, SeqAt.RcNeAt.bool_str _ _ _⟩
    | tup g2 => simp [eqH, eqW] at e; subst e; exact ⟨SeqAt.RcAt.bool_tuple _ g2 hu, SeqAt.EqAt.bool_tuple _ g2 hu, SeqAt.RcNeAt.bool_tuple _ g2 hu⟩
    | lst g2 e2 => simp [eqH, eqW, e2] at e; subst e; exact ⟨SeqAt.RcAt.bool_list _ g2 hu, SeqAt.EqAt.bool_list _ g2 hu, SeqAt.RcNeAt.bool_list _ g2 hu⟩
  | int x t =>
    cases sb with
    | non => simp only [eqH, eqW, Option.some.injEq] at e; subst e; exact ⟨SeqAt.RcAt.int_none _ _, SeqAt.EqAt.int_none _ _, SeqAt.RcNeAt.int_none _ _⟩
    | bl y => simp only [eqH, eqW, Option.some.injEq] at e; subst e; exact ⟨SeqAt.RcAt.int_bool _ _ _, SeqAt.EqAt.int_bool _ _ _, SeqAt.RcNeAt.int_bool _ _ _⟩
    | int y u => simp only [eqH, eqW, Option.some.injEq] at e; subst e; exact ⟨SeqAt.RcAt.int_int _ _ _ _, SeqAt.EqAt.int_int _ _ _ _, SeqAt.RcNeAt.int_int _ _ _ _⟩
    | str y u => simp [eqH, eqW] at e; subst e; exact ⟨SeqAt.RcAt.int_str _ _ _ _, SeqAt.EqAt.int_str _ _ _ _, SeqAt.RcNeAt.int_str _ _ _ _⟩
    | tup g2 => simp [eqH, eqW] at e; subst e; exact ⟨SeqAt.RcAt.int_tuple _ _ g2 hu, SeqAt.EqAt.int_tuple _ _ g2 hu, SeqAt.RcNeAt.int_tuple _ _ g2 hu⟩
    | lst g2 e2 => simp [eqH, eqW, e2] at e; subst e; exact ⟨SeqAt.RcAt.int_list _ _ g2 hu, SeqAt.EqAt.int_list _ _ g2 hu, SeqAt.RcNeAt.int_list _ _ g2 hu⟩
  | str x t =>
    cases sb with
    | non => simp [eqH, eqW] at e; subst e; exact ⟨SeqAt.RcAt.str_none _ _, SeqAt.EqAt.str_none _ _, SeqAt.RcNeAt.str_none _ _⟩
    | bl y => simp [eqH, eqW] at e; subst e; exact ⟨SeqAt.RcAt.str_bool _ _ _, SeqAt.EqAt.str_bool _ _ _, SeqAt.RcNeAt.str_bool _ _ _⟩
    | int y u => simp [eqH, eqW] at e; subst e; exact ⟨SeqAt.RcAt.str_int _ _ _ _, SeqAt.EqAt.str_int _ _ _ _, SeqAt.RcNeAt.str_int _ _ _ _⟩
    | str y u => simp only [eqH, eqW, Option.some.injEq] at e; subst e; rw [← st_eqb]; exact ⟨SeqAt.RcAt.str_str _ _ _ _, SeqAt.EqAt.str_str _ _ _ _, SeqAt.RcNeAt.str_str _ _ _ _⟩
    | tup g2 => simp [eqH, eqW] at e; subst e; exact ⟨SeqAt.RcAt.str_tuple _ _ g2 hu, SeqAt.EqAt.str_tuple _ _ g2 hu, SeqAt.RcNeAt.str_tuple _ _ g2 hu⟩
    | lst g2 e2 => simp [eqH, eqW, e2] at e; subst e; exact ⟨SeqAt.RcAt.str_list _ _ g2 hu, SeqAt.EqAt.str_list _ _ g2 hu, SeqAt.RcNeAt.str_list _ _ g2 hu⟩
  | tup g =>
    cases sb with
    | non => simp [eqH, eqW] at e; subst e; exact ⟨SeqAt.RcAt.tuple_none g hu, SeqAt.EqAt.tuple_none g hu, SeqAt.RcNeAt.tuple_none g hu⟩
    | bl y => simp [eqH, eqW] at e; subst e; exact ⟨SeqAt.RcAt.tuple_bool _ g hu, SeqAt.EqAt.tuple_bool _ g hu, SeqAt.RcNeAt.tuple_bool _ g hu⟩
    | int y u => simp [eqH, eqW] at e; subst e; exact ⟨SeqAt.RcAt.tuple_int _ _ g hu, SeqAt.EqAt.tuple_int _ _ g hu, SeqAt.RcNeAt.tuple_int _ _ g hu⟩
    | str y u => simp [eqH, eqW] at e; subst e; exact ⟨SeqAt.RcAt.tuple_str _ _ g hu, SeqAt.EqAt.tuple_str _ _ g hu, SeqAt.RcNeAt.tuple_str _ _ g hu⟩
    | tup g2 => exact (nt rfl rfl).elim
    | lst g2 e2 => simp [eqH, e2] at e; subst e; exact ⟨SeqAt.RcAt.tuple_list g g2 hu, SeqAt.EqAt.tuple_list g g2 hu, SeqAt.RcNeAt.tuple_list g g2 hu⟩
  | lst g e1 =>
    cases sb with
    | non => simp [eqH, eqW, e1] at e; subst e; exact ⟨SeqAt.RcAt.list_none g hu, SeqAt.EqAt.list_none g hu, SeqAt.RcNeAt.list_none g hu⟩
    | bl y => simp [eqH, eqW, e1] at e; subst e; exact ⟨SeqAt.RcAt.list_bool _ g hu, SeqAt.EqAt.list_bool _ g hu, SeqAt.RcNeAt.list_bool _ g hu⟩
    | int y u => simp [eqH, eqW, e1] at e; subst e; exact ⟨SeqAt.RcAt.list_int _ _ g hu, SeqAt.EqAt.list_int _ _ g hu, SeqAt.RcNeAt.list_int _ _ g hu⟩
    | str y u => simp [eqH, eqW, e1] at e; subst e; exact ⟨SeqAt.RcAt.list_str _ _ g hu, SeqAt.EqAt.list_str _ _ g hu, SeqAt.RcNeAt.list_str _ _ g hu⟩
    | tup g2 => simp [eqH, e1] at e; subst e; exact ⟨SeqAt.RcAt.list_tuple g g2 hu, SeqAt.EqAt.list_tuple g g2 hu, SeqAt.RcNeAt.list_tuple g g2 hu⟩
    | lst g2 e2 => exact (nl rfl rfl).elim
/-- the outside of what == looks at -/
theorem shp_of (I : Inv X pins σ H s) (si : Sim nm X.K p h H) {a : W} {x : V} {v : Value} (ra : RW X.K p H a x) (rv : RelV x v) (hk : ∀ l, a ≠ .kl l) (hr : ∀ n, a = .ref n → ∃ l, asL h n = some l) : Shp h s a v := by
  cases ra with
  | non => cases rv; exact .non
  | bl b => cases rv; exact .bl b
  | int i => obtain ⟨t, rfl⟩ := rv; exact .int i t
  | str l => obtain ⟨t, rfl⟩ := rv; exact .str l t
  | tup hl ql => cases rv; obtain ⟨its, _, g, _⟩ := I.tuple hl; exact .tup g
  | ref q =>
    cases rv
    obtain ⟨l, hl⟩ := hr _ rfl
    obtain ⟨vs, h1, _⟩ := si.lst q (asL_lst hl)
    obtain ⟨its, _, g, _⟩ := I.list (SqL.of h1)
    exact .lst g.isList hl
  | kl hl ql => exact (hk _ rfl).elim
theorem eqH_kl {n : Nat} {a b : W} {c : Bool} (e : eqH h (n + 1) a b = some c) : (∀ l, a ≠ .kl l) ∧ ∀ l, b ≠ .kl l := by
  refine ⟨fun l z => ?_, fun l z => ?_⟩
  · subst z; cases b <;> simp [eqH] at e
  · subst z; cases a <;> simp [eqH] at e
theorem eqH_ref {n : Nat} {a b : W} {c : Bool} (e : eqH h (n + 1) a b = some c) : (∀ i, a = .ref i → ∃ l, asL h i = some l) ∧ ∀ i, b = .ref i → ∃ l, asL h i = some l := by
  refine ⟨fun i z => ?_, fun i z => ?_⟩
  · subst z
    cases b with
    | ref j =>
      simp only [eqH] at e
      split at e
      · rename_i l m e1 e2; exact ⟨l, e1⟩
      · cases e
    | kl l => simp [eqH] at e
    | _ =>
      simp only [eqH] at e
      split at e
      · rename_i hs; exact Option.isSome_iff_exists.mp hs
      · cases e
  · subst z
    cases a with
    | ref j =>
      simp only [eqH] at e
      split at e
      · rename_i l m e1 e2; exact ⟨m, e2⟩
      · cases e
    | kl l => simp [eqH] at e
    | _ =>
      simp only [eqH] at e
      split at e
      · rename_i hs; exact Option.isSome_iff_exists.mp hs
      · cases e
/-- == as an operator, and within -/
theorem eq_at (I : Inv X pins σ H s) (si : Sim nm X.K p h H) (n : Nat) : ∀ (A : Around) (a b : W) (x y : V) (v u : Value) (c : Bool), RW X.K p H a x → RW X.K p H b y → RelV x v → RelV y u → eqH h n a b = some c → A.units + n < cLine →
    SeqAt.RcAt A s v u c ∧ SeqAt.EqAt A s v u c ∧ SeqAt.RcNeAt A s v u (!c) := by
  induction n with
  | zero => intro A a b x y v u c _ _ _ _ e _; simp [eqH] at e
  | succ n ih =>
    intro A a b x y v u c ra rb rv ru e hu
    have hu0 : A.units < cLine := by omega
    have hu1 : A.in1.units + n < cLine := by show A.units + 1 + n < cLine; omega
    have sa := shp_of I si ra rv (eqH_kl e).1 (eqH_ref e).1
    have sb := shp_of I si rb ru (eqH_kl e).2 (eqH_ref e).2
    -- the pairs
    have items : ∀ (l m : List W) (vs us : List V) (i1 i2 : List Value), RWs X.K p H l vs → RWs X.K p H m us → Vals vs i1 → Vals us i2 → (∀ (j : Nat) x y, l[j]? = some x → m[j]? = some y → ∃ c, eqH h n x y = some c) →
        ∀ j (h1 : j < i1.toArray.size) (h2 : j < i2.toArray.size), SeqAt.EqAt A.in1 s i1.toArray[j] i2.toArray[j] (pairAt (eqH h n) l m j) := fun l m vs us i1 i2 r1 r2 t1 t2 hd j h1 h2 => by
      have z1 : j < l.length := by rw [r1.length, t1.length]; simpa using h1
      have z2 : j < m.length := by rw [r2.length, t2.length]; simpa using h2
      have e1 : l[j]? = some l[j] := List.getElem?_eq_getElem z1
      have e2 : m[j]? = some m[j] := List.getElem?_eq_getElem z2
      obtain ⟨x1, g1, q1⟩ := r1.get e1
      obtain ⟨x2, g2, q2⟩ := r2.get e2
      obtain ⟨u1, k1, w1⟩ := t1.get g1
      obtain ⟨u2, k2, w2⟩ := t2.get g2
      obtain ⟨d, hd⟩ := hd j _ _ e1 e2
      have f1 : i1.toArray[j] = u1 := by
        have := (List.getElem?_eq_some_iff.mp k1).2
        simpa using this
      have f2 : i2.toArray[j] = u2 := by
        have := (List.getElem?_eq_some_iff.mp k2).2
        simpa using this
      have pa : pairAt (eqH h n) l m j = d := by simp [pairAt, e1, e2, hd]
      rw [f1, f2, pa]
      exact (ih A.in1 _ _ _ _ _ _ d q1 q2 w1 w2 hd hu1).2.1
    by_cases both : isT a = true ∧ isT b = true
    · cases ra with
      | tup hl ql =>
        cases rb with
        | tup hm qm =>
          have e0 := e
          simp only [eqH] at e
          obtain ⟨d1, d2⟩ := allEq_some _ _ _ _ e
          cases rv
          cases ru
          rename_i l a1 vs m a2 us
          obtain ⟨i1, t1, g1, _⟩ := I.tuple hl
          obtain ⟨i2, t2, g2, _⟩ := I.tuple hm
          have n1 : i1.toArray.size = l.length := by rw [ql.length, t1.length]; simp
          have n2 : i2.toArray.size = m.length := by rw [qm.length, t2.length]; simp
          have R : SeqAt.RcAt A s (.ref a1) (.ref a2) c ∧ SeqAt.RcNeAt A s (.ref a1) (.ref a2) (!c) := by
            rw [← d2, ← n1, ← n2]
            exact ⟨SeqAt.RcAt.tuples g1 g2 hu0 (items _ _ _ _ _ _ ql qm t1 t2 d1), SeqAt.RcNeAt.tuples g1 g2 hu0 (items _ _ _ _ _ _ ql qm t1 t2 d1)⟩
          refine ⟨R.1, ?_, R.2⟩
          by_cases hne : a1 = a2
          · subst hne
            have := eq_same I si (n + 1) _ _ _ c (.tup hl ql) (.tup hm qm) e0
            subst this
            exact SeqAt.EqAt.same _
          · exact SeqAt.EqAt.of_refs hne R.1
        | _ => exact nomatch both.2
      | _ => exact nomatch both.1
    · by_cases refs : isR a = true ∧ isR b = true
      · cases ra with
        | ref hr =>
          cases rb with
          | ref hq =>
            have e0 := e
            simp only [eqH] at e
            split at e
            · rename_i l m e1 e2
              cases rv
              cases ru
              rename_i i a1 j a2 _ _
              obtain ⟨vs, x1, ql⟩ := si.lst hr (asL_lst e1)
              obtain ⟨us, x2, qm⟩ := si.lst hq (asL_lst e2)
              obtain ⟨i1, t1, g1, _⟩ := I.list (SqL.of x1)
              obtain ⟨i2, t2, g2, _⟩ := I.list (SqL.of x2)
              have n1 : i1.toArray.size = l.length := by rw [ql.length, t1.length]; simp
              have n2 : i2.toArray.size = m.length := by rw [qm.length, t2.length]; simp
              have R : SeqAt.RcAt A s (.ref a1) (.ref a2) c ∧ SeqAt.RcNeAt A s (.ref a1) (.ref a2) (!c) := by
                split at e
                · rename_i hlen
                  obtain ⟨d1, d2⟩ := allEq_some _ _ _ _ e
                  rw [← hlen] at d2
                  simp only [Nat.min_self, beq_self_eq_true, Bool.and_true] at d2
                  rw [← d2, ← n1]
                  exact ⟨SeqAt.RcAt.lists g1.isList g2.isList (by rw [n1, n2, hlen]) hu0 (items _ _ _ _ _ _ ql qm t1 t2 d1), SeqAt.RcNeAt.lists g1.isList g2.isList (by rw [n1, n2, hlen]) hu0 (items _ _ _ _ _ _ ql qm t1 t2 d1)⟩
                · rename_i hlen
                  cases e
                  exact ⟨SeqAt.RcAt.lists_lengths g1.isList g2.isList (by rw [n1, n2]; simpa using hlen) hu0, SeqAt.RcNeAt.lists_lengths g1.isList g2.isList (by rw [n1, n2]; simpa using hlen) hu0⟩
              refine ⟨R.1, ?_, R.2⟩
              by_cases hne : a1 = a2
              · subst hne
                have := eq_same I si (n + 1) _ _ _ c (.ref hr) (.ref hq) e0
                subst this
                exact SeqAt.EqAt.same _
              · exact SeqAt.EqAt.of_refs hne R.1
            · cases e
          | _ => exact nomatch refs.2
        | _ => exact nomatch refs.1
      · exact eq_mixed sa sb (fun z1 z2 => both ⟨z1, z2⟩) (fun z1 z2 => refs ⟨z1, z2⟩) e hu0
end
end M2

namespace M2
open PySem PySem.Spec PyProof.Rows L2
section
variable {nm : Nm} {X : L2.Cx} {Ek : XK}
theorem okB {p : List Addr} {H : Hp} {h : Hm} {b : Bool} {Q : VK} (si : Sim nm X.K p h H) (ok : Ok nm X.K Ek (GV X.K) p H (.ok (.bl b) h) Q) : Q (.bl b) H := ok p H _ Xt.refl si (.bl b)
theorem opr_eq (hu : X.A.units + 70 < cLine) : OpR X (compareOp .Eq) (rOp nm X.K Ek (cmpop .eq)) := by
  rintro pins s σ H x y v u Q I rv ru ⟨p, h, a, b, si, ra, rb, ok⟩
  simp only [cmpop, M2.rb] at ok
  split at ok
  · rename_i c e
    exact (eq_at I si 60 X.A a b x y v u c ra rb rv ru e (by omega)).1 _ _ _ _ ⟨.bl c, H, I, rfl, okB si ok⟩
  · exact ok.elim
theorem opr_ne (hu : X.A.units + 70 < cLine) : OpR X (compareOp .NotEq) (rOp nm X.K Ek (cmpop .ne)) := by
  rintro pins s σ H x y v u Q I rv ru ⟨p, h, a, b, si, ra, rb, ok⟩
  simp only [cmpop, M2.rnb] at ok
  split at ok
  · rename_i c e
    exact (eq_at I si 60 X.A a b x y v u c ra rb rv ru e (by omega)).2.2 _ _ _ _ ⟨.bl (!c), H, I, rfl, okB si ok⟩
  · exact ok.elim
/-! ### trees tell values apart -/
section
variable {pins : List (Addr × Obj)} {σ : Sg} {s : Shared} {p : List Addr} {H : Hp} {h : Hm}
theorem K_none (I : Inv X pins σ H s) {a : Addr} {o : Obj} (e : X.K.lookup a = some o) : H a = none := (I.bs a o (I.ok.mod.kin a o e)).2
theorem ro_notTup {K : PySem.W.Frag} {o : O} {a : Addr} (r : RO nm K p H o a) : ∃ u, H a = some u ∧ (∀ xs, u ≠ .tup xs) ∧ (∀ ob xs, u ≠ .frz ob (.tup xs)) ∧ (∀ ob xs, u ≠ .frz ob (.lst xs)) := by
  cases o with
  | lst l => obtain ⟨_, e, _⟩ := r; exact ⟨_, e, (fun _ z => nomatch z), (fun _ _ z => nomatch z), (fun _ _ z => nomatch z)⟩
  | dct l => obtain ⟨_, e, _⟩ := r; exact ⟨_, e, (fun _ z => nomatch z), (fun _ _ z => nomatch z), (fun _ _ z => nomatch z)⟩
  | lk l => obtain ⟨_, _, e, _⟩ := r; exact ⟨_, e, (fun _ z => nomatch z), (fun _ _ z => nomatch z), (fun _ _ z => nomatch z)⟩
  | ins c fs => obtain ⟨_, _, e, _⟩ := r; exact ⟨_, e, (fun _ z => nomatch z), (fun _ _ z => nomatch z), (fun _ _ z => nomatch z)⟩
theorem no_tup_ref (I : Inv X pins σ H s) (si : Sim nm X.K p h H) {n : Nat} {a : Addr} {vs : List V} (hr : p[n]? = some a) (ht : SqT X.K H a vs) : False := by
  have hn : n < h.length := by rw [← si.len]; exact (List.getElem?_eq_some_iff.mp hr).1
  obtain ⟨u, e, n1, n2, _⟩ := ro_notTup (si.at_ n _ a (List.getElem?_eq_getElem hn) hr)
  rcases ht with (z | ⟨o, z⟩) | ⟨o, its, m, z, _⟩
  · rw [e] at z; exact n1 _ (Option.some.inj z)
  · rw [e] at z; exact n2 _ _ (Option.some.inj z)
  · rw [K_none I z] at e; cases e
theorem no_kl_ref (I : Inv X pins σ H s) (si : Sim nm X.K p h H) {n : Nat} {a : Addr} {vs : List V} (hr : p[n]? = some a) (ht : FzL X.K H a vs) : False := by
  have hn : n < h.length := by rw [← si.len]; exact (List.getElem?_eq_some_iff.mp hr).1
  obtain ⟨u, e, _, _, n3⟩ := ro_notTup (si.at_ n _ a (List.getElem?_eq_getElem hn) hr)
  rcases ht with ⟨o, z⟩ | ⟨o, its, m, z, _⟩
  · rw [e] at z; exact n3 _ _ (Option.some.inj z)
  · rw [K_none I z] at e; cases e
theorem no_tup_kl (I : Inv X pins σ H s) {a : Addr} {vs us : List V} (h1 : SqT X.K H a vs) (h2 : FzL X.K H a us) : False := by
  rcases h1 with (z | ⟨o, z⟩) | ⟨o, its, m, z, c1, _⟩
  · rcases h2 with ⟨o', y⟩ | ⟨o', its', m', y, _⟩
    · rw [z] at y; exact nomatch (Option.some.inj y)
    · rw [K_none I y] at z; cases z
  · rcases h2 with ⟨o', y⟩ | ⟨o', its', m', y, _⟩
    · rw [z] at y
      have := Option.some.inj y
      injection this with _ q
      exact nomatch q
    · rw [K_none I y] at z; cases z
  · rcases h2 with ⟨o', y⟩ | ⟨o', its', m', y, c2, _⟩
    · rw [K_none I z] at y; cases y
    · rw [z] at y
      have := Option.some.inj y
      subst this
      rw [c1] at c2
      exact absurd c2 (by simp)
mutual
theorem RW.inj (I : Inv X pins σ H s) (si : Sim nm X.K p h H) : ∀ {a b : W} {v : V}, RW X.K p H a v → RW X.K p H b v → a = b
  | _, _, _, .non, rb => by cases rb; rfl
  | _, _, _, .bl x, rb => by cases rb; rfl
  | _, _, _, .int x, rb => by cases rb; rfl
  | _, b, _, .str l, rb => by
    generalize hz : (⟨l.toArray⟩ : Str) = z at rb
    cases rb with
    | str m => rw [st_inj hz]
  | _, b, _, .tup hl ql, rb => by
    cases rb with
    | tup hm qm =>
      have := I.tuple_inj hl hm
      subst this
      rw [RWs.inj I si ql qm]
    | ref hq => exact (no_tup_ref I si hq hl).elim
    | kl hm qm => exact (no_tup_kl I hl hm).elim
  | _, b, _, .ref hr, rb => by
    cases rb with
    | tup hm qm => exact (no_tup_ref I si hr hm).elim
    | ref hq => rw [nodup_inj si.nd hr hq]
    | kl hm qm => exact (no_kl_ref I si hr hm).elim
  | _, b, _, .kl hl ql, rb => by
    cases rb with
    | tup hm qm => exact (no_tup_kl I hm hl).elim
    | ref hq => exact (no_kl_ref I si hq hl).elim
    | kl hm qm =>
      have := I.list_inj hl.sq hm.sq
      subst this
      rw [RWs.inj I si ql qm]
theorem RWs.inj (I : Inv X pins σ H s) (si : Sim nm X.K p h H) : ∀ {a b : List W} {v : List V}, RWs X.K p H a v → RWs X.K p H b v → a = b
  | _, _, _, .nil, rb => by cases rb; rfl
  | _, _, _, .cons r rs, rb => by
    cases rb with
    | cons q qs => rw [RW.inj I si r q, RWs.inj I si rs qs]
end
end
/-! ### in -/
theorem anyEq_some (f : W → Option Bool) : ∀ (l : List W) (b : Bool), anyEq f l = some b → (∀ (j : Nat) x, l[j]? = some x → ∃ c, f x = some c) ∧ b = l.any fun x => (f x).getD false
  | [], b, e => by cases e; exact ⟨fun j x h => by simp at h, rfl⟩
  | x :: l, b, e => by
    simp only [anyEq] at e
    cases q1 : f x with
    | none => rw [q1] at e; simp at e
    | some c =>
      cases q2 : anyEq f l with
      | none => rw [q1, q2] at e; simp at e
      | some d =>
        rw [q1, q2] at e
        have e' : (c || d) = b := Option.some.inj e
        obtain ⟨h1, h2⟩ := anyEq_some f l d q2
        refine ⟨fun j u hu => ?_, ?_⟩
        · cases j with
          | zero => simp at hu; subst hu; exact ⟨c, q1⟩
          | succ j => exact h1 j u (by simpa using hu)
        · rw [← e', h2, List.any_cons, q1]; rfl
/-- x in the items of a list or tuple -/
theorem in_items {pins : List (Addr × Obj)} {σ : Sg} {s : Shared} {p : List Addr} {H : Hp} {h : Hm} (I : Inv X pins σ H s) (si : Sim nm X.K p h H) (hu : X.A.units + 70 < cLine) {a : W} {x : V} {v : Value} (ra : RW X.K p H a x) (rv : RelV x v)
    {l : List W} {vs : List V} {its : List Value} (ql : RWs X.K p H l vs) (t : Vals vs its) {b : Bool} (e : anyEq (fun y => eqV h y a) l = some b) :
    ∃ f : Value → Bool, (∀ y, y ∈ its.toArray → SeqAt.EqAt X.A.in1 s y v (f y)) ∧ its.toArray.any f = b := by
  obtain ⟨h1, h2⟩ := anyEq_some _ _ _ e
  let f : Value → Bool := fun y => @decide (∃ (j : Nat) (w : W), l[j]? = some w ∧ its[j]? = some y ∧ (eqV h w a).getD false = true) (Classical.propDecidable _)
  have ix : ∀ j w, l[j]? = some w → ∃ y u, its[j]? = some y ∧ RelV u y ∧ RW X.K p H w u := fun j w ej => by
    obtain ⟨u, g, q⟩ := ql.get ej
    obtain ⟨y, g2, q2⟩ := t.get g
    exact ⟨y, u, g2, q2, q⟩
  have back : ∀ j y, its[j]? = some y → ∃ w u, l[j]? = some w ∧ RelV u y ∧ RW X.K p H w u := fun j y ej => by
    have hj : j < l.length := by rw [ql.length, t.length]; exact (List.getElem?_eq_some_iff.mp ej).1
    obtain ⟨y', u, g, q1, q2⟩ := ix j l[j] (List.getElem?_eq_getElem hj)
    rw [ej] at g; cases g
    exact ⟨l[j], u, List.getElem?_eq_getElem hj, q1, q2⟩
  have fval : ∀ j w y, l[j]? = some w → its[j]? = some y → f y = (eqV h w a).getD false := fun j w y e1 e2 => by
    obtain ⟨w', u, g, q1, q2⟩ := back j y e2
    rw [e1] at g; cases g
    cases hc : (eqV h w a).getD false with
    | true => exact @decide_eq_true _ (Classical.propDecidable _) ⟨j, w, e1, e2, hc⟩
    | false =>
      refine @decide_eq_false _ (Classical.propDecidable _) fun ⟨i, w2, k1, k2, k3⟩ => ?_
      obtain ⟨w3, u3, g3, r1, r2⟩ := back i y k2
      rw [k1] at g3; cases g3
      have : u3 = u := r1.inj q1
      subst this
      rw [RW.inj I si r2 q2, hc] at k3
      cases k3
  refine ⟨f, fun y hy => ?_, ?_⟩
  · have hy' : y ∈ its := by simpa using hy
    obtain ⟨j, hj, ej⟩ := List.getElem_of_mem hy'
    have e2 : its[j]? = some y := by rw [List.getElem?_eq_getElem hj, ej]
    obtain ⟨w, u, g, q1, q2⟩ := back j y e2
    obtain ⟨c, hc⟩ := h1 j w g
    rw [fval j w y g e2, hc]
    exact (eq_at I si 60 X.A.in1 w a u x y v c q2 ra q1 rv hc (by show X.A.units + 1 + 60 < cLine; omega)).2.1
  · have h2' : b = its.any f := by
      rw [h2]
      apply Bool.eq_iff_iff.mpr
      simp only [List.any_eq_true]
      constructor
      · rintro ⟨w, hw, hc⟩
        obtain ⟨j, hj, ej⟩ := List.getElem_of_mem hw
        have e1 : l[j]? = some w := by rw [List.getElem?_eq_getElem hj, ej]
        obtain ⟨y, u, g, _, _⟩ := ix j w e1
        exact ⟨y, List.mem_of_getElem? g, by rw [fval j w y e1 g]; exact hc⟩
      · rintro ⟨y, hy, hc⟩
        obtain ⟨j, hj, ej⟩ := List.getElem_of_mem hy
        have e2 : its[j]? = some y := by rw [List.getElem?_eq_getElem hj, ej]
        obtain ⟨w, u, g, _, _⟩ := back j y e2
        exact ⟨w, List.mem_of_getElem? g, by rw [← fval j w y g e2]; exact hc⟩
    rw [h2']
    simp
/-- x in y, x not in y -/
theorem in_any {pins : List (Addr × Obj)} {σ : Sg} {s : Shared} {p : List Addr} {H : Hp} {h : Hm} (I : Inv X pins σ H s) (si : Sim nm X.K p h H) (hu : X.A.units + 70 < cLine) {a b : W} {x y : V} {v u : Value} (ra : RW X.K p H a x) (rb : RW X.K p H b y) (rv : RelV x v) (ru : RelV y u)
    {c : Bool} (e : memV h a b = some c) : (∀ Q : VK, Q (.bl c) H → wpAny (model X.prog X.w) X.A (compareOp .In v u) (EP X pins σ Q) X.xe s) ∧ (∀ Q : VK, Q (.bl (!c)) H → wpAny (model X.prog X.w) X.A (compareOp .NotIn v u) (EP X pins σ Q) X.xe s) := by
  cases rb with
  | tup hl ql =>
    cases ru
    obtain ⟨its, t, g, _⟩ := I.tuple hl
    obtain ⟨f, f1, f2⟩ := in_items I si hu ra rv ql t e
    exact ⟨fun Q q => SeqAt.in_tupleAt f g f1 ⟨.bl c, H, I, by rw [f2]; rfl, q⟩, fun Q q => SeqAt.notIn_tupleAt f g f1 ⟨.bl (!c), H, I, by rw [f2]; rfl, q⟩⟩
  | kl hl ql =>
    cases ru
    obtain ⟨its, t, g, _⟩ := I.list hl.sq
    obtain ⟨f, f1, f2⟩ := in_items I si hu ra rv ql t e
    exact ⟨fun Q q => SeqAt.in_listAt f g.isList f1 ⟨.bl c, H, I, by rw [f2]; rfl, q⟩, fun Q q => SeqAt.notIn_listAt f g.isList f1 ⟨.bl (!c), H, I, by rw [f2]; rfl, q⟩⟩
  | str l =>
    simp only [memV] at e
    split at e
    · rename_i ch
      cases e
      cases ra
      have hd : decide (ch ∈ (st l).cps.toList) = l.contains ch := by
        rw [st_tl]
        apply Bool.eq_iff_iff.mpr
        simp
      exact ⟨fun Q q => op_in_sign pins s σ H _ _ v u Q I rv ru ⟨ch, _, rfl, rfl, by rw [hd]; exact q⟩, fun Q q => op_notIn_sign pins s σ H _ _ v u Q I rv ru ⟨ch, _, rfl, rfl, by rw [hd]; exact q⟩⟩
    · cases e
  | ref hr =>
    cases ru
    simp only [memV] at e
    split at e
    · rename_i l q
      obtain ⟨vs, h1, ql⟩ := si.lst hr q
      obtain ⟨its, t, g, _⟩ := I.list (SqL.of h1)
      obtain ⟨f, f1, f2⟩ := in_items I si hu ra rv ql t e
      exact ⟨fun Q q => SeqAt.in_listAt f g.isList f1 ⟨.bl c, H, I, by rw [f2]; rfl, q⟩, fun Q q => SeqAt.notIn_listAt f g.isList f1 ⟨.bl (!c), H, I, by rw [f2]; rfl, q⟩⟩
    · cases e
  | _ => cases e
theorem opr_in (hu : X.A.units + 70 < cLine) : OpR X (compareOp .In) (rOp nm X.K Ek (cmpop .mem)) := by
  rintro pins s σ H x y v u Q I rv ru ⟨p, h, a, b, si, ra, rb, ok⟩
  simp only [cmpop, M2.rb] at ok
  split at ok
  · rename_i c e
    exact (in_any I si hu ra rb rv ru e).1 Q (okB si ok)
  · exact ok.elim
theorem opr_notIn (hu : X.A.units + 70 < cLine) : OpR X (compareOp .NotIn) (rOp nm X.K Ek (cmpop .nmem)) := by
  rintro pins s σ H x y v u Q I rv ru ⟨p, h, a, b, si, ra, rb, ok⟩
  simp only [cmpop, M2.rnb] at ok
  split at ok
  · rename_i c e
    exact (in_any I si hu ra rb rv ru e).2 Q (okB si ok)
  · exact ok.elim
/-! ### order -/
theorem lt_cps : ∀ a b : List Nat, decide (a < b) = ltL a b
  | [], [] => by simp [ltL]
  | [], _ :: _ => by simp [ltL]
  | _ :: _, [] => by simp [ltL]
  | x :: l, y :: m => by
    have ih := lt_cps l m
    simp only [ltL]
    by_cases e : x = y
    · subst e
      rw [if_pos rfl, ← ih]
      simp [List.cons_lt_cons_iff]
    · rw [if_neg e]
      simp [List.cons_lt_cons_iff, e]
theorem opr_lt : OpR X (compareOp .Lt) (rOp nm X.K Ek (cmpop .lt)) := by
  rintro pins s σ H x y v u Q I rv ru ⟨p, h, a, b, si, ra, rb, ok⟩
  cases ra with
  | int i =>
    cases rb with
    | int j => exact op_lt pins s σ H _ _ v u Q I rv ru ⟨i, j, rfl, rfl, okB si ok⟩
    | _ => exact ok.elim
  | str l =>
    cases rb with
    | str m => exact op_lt_str pins s σ H _ _ v u Q I rv ru ⟨_, _, rfl, rfl, by rw [st_tl, st_tl, lt_cps]; exact okB si ok⟩
    | _ => exact ok.elim
  | _ => exact ok.elim
theorem opr_le : OpR X (compareOp .LtE) (rOp nm X.K Ek (cmpop .le)) := by
  rintro pins s σ H x y v u Q I rv ru ⟨p, h, a, b, si, ra, rb, ok⟩
  cases ra with
  | int i =>
    cases rb with
    | int j => exact op_le pins s σ H _ _ v u Q I rv ru ⟨i, j, rfl, rfl, okB si ok⟩
    | _ => exact ok.elim
  | str l =>
    cases rb with
    | str m => exact op_le_str pins s σ H _ _ v u Q I rv ru ⟨_, _, rfl, rfl, by rw [st_tl, st_tl, lt_cps]; exact okB si ok⟩
    | _ => exact ok.elim
  | _ => exact ok.elim
theorem opr_gt : OpR X (compareOp .Gt) (rOp nm X.K Ek (cmpop .gt)) := by
  rintro pins s σ H x y v u Q I rv ru ⟨p, h, a, b, si, ra, rb, ok⟩
  cases ra with
  | int i =>
    cases rb with
    | int j => exact op_gt pins s σ H _ _ v u Q I rv ru ⟨i, j, rfl, rfl, okB si ok⟩
    | _ => exact ok.elim
  | str l =>
    cases rb with
    | str m => exact op_gt_str pins s σ H _ _ v u Q I rv ru ⟨_, _, rfl, rfl, by rw [st_tl, st_tl, lt_cps]; exact okB si ok⟩
    | _ => exact ok.elim
  | _ => exact ok.elim
theorem opr_ge : OpR X (compareOp .GtE) (rOp nm X.K Ek (cmpop .ge)) := by
  rintro pins s σ H x y v u Q I rv ru ⟨p, h, a, b, si, ra, rb, ok⟩
  cases ra with
  | int i =>
    cases rb with
    | int j => exact op_ge pins s σ H _ _ v u Q I rv ru ⟨i, j, rfl, rfl, okB si ok⟩
    | _ => exact ok.elim
  | str l =>
    cases rb with
    | str m => exact op_ge_str pins s σ H _ _ v u Q I rv ru ⟨_, _, rfl, rfl, by rw [st_tl, st_tl, lt_cps]; exact okB si ok⟩
    | _ => exact ok.elim
  | _ => exact ok.elim
theorem RW.non_iff {K : PySem.W.Frag} {p : List Addr} {H : Hp} {w : W} {v : V} (r : RW K p H w v) : decide (v = .non) = decide (w = .non) := by
  cases r <;> rfl
theorem opr_isN : OpR X (compareOp .Is) (rOp nm X.K Ek (cmpop .isN)) := by
  rintro pins s σ H x y v u Q I rv ru ⟨p, h, a, b, si, ra, rb, ok⟩
  cases rb with
  | non => exact op_isN pins s σ H _ _ v u Q I rv ru ⟨rfl, by rw [ra.non_iff]; cases a <;> exact okB si ok⟩
  | _ => cases a <;> exact ok.elim
theorem opr_notN : OpR X (compareOp .IsNot) (rOp nm X.K Ek (cmpop .notN)) := by
  rintro pins s σ H x y v u Q I rv ru ⟨p, h, a, b, si, ra, rb, ok⟩
  cases rb with
  | non => exact op_notN pins s σ H _ _ v u Q I rv ru ⟨rfl, by rw [ra.non_iff]; cases a <;> exact okB si ok⟩
  | _ => cases a <;> exact ok.elim
end
end M2

namespace M2
open PySem PySem.Spec PyProof.Rows L2
section
variable {nm : Nm} {X : L2.Cx} {Ek : XK}
/-! ### a[i] -/
theorem place_ix {n : Nat} {k : Int} {j : Nat} (e : place n k = some j) : ixN n k = some j := by
  unfold place at e
  unfold ixN
  exact e
theorem at_of {α : Type} {xs : List α} {k : Int} {j : Nat} {v : α} {n : Nat} (hn : n = xs.length) (e : place n k = some j) (g : xs[j]? = some v) : atI xs k = some v := by
  subst hn
  unfold atI
  rw [place_ix e]
  exact g
theorem ixr : IxR X (rOp nm X.K Ek getItem) := by
  rintro value slice pins s σ H x y v u Q I rv ru ⟨p, h, a, b, si, ra, rb, ok⟩ hs
  cases ra with
  | tup hl ql =>
    cases rb with
    | int k =>
      simp only [getItem] at ok
      split at ok
      · rename_i j e
        split at ok
        · rename_i w e2
          obtain ⟨z, g, q⟩ := ql.get e2
          exact ix_tup value slice pins s σ H _ _ v u Q I rv ru ⟨_, _, k, z, rfl, rfl, hl, at_of ql.length e g, ok p H z Xt.refl si q⟩ hs
        · exact ok.elim
      · exact ok.elim
    | _ => exact ok.elim
  | kl hl ql =>
    cases rb with
    | int k =>
      simp only [getItem] at ok
      split at ok
      · rename_i j e
        split at ok
        · rename_i w e2
          obtain ⟨z, g, q⟩ := ql.get e2
          exact ix_list value slice pins s σ H _ _ v u Q I rv ru ⟨_, _, k, z, rfl, rfl, hl.sq, at_of ql.length e g, ok p H z Xt.refl si q⟩ hs
        · exact ok.elim
      · exact ok.elim
    | _ => exact ok.elim
  | str l =>
    cases rb with
    | int k =>
      simp only [getItem] at ok
      split at ok
      · rename_i hl
        split at ok
        · rename_i j e
          split at ok
          · rename_i c e2
            exact ix_str value slice pins s σ H _ _ v u Q I rv ru ⟨_, k, c, rfl, rfl, by rw [st_len, ← line_eq]; exact hl, at_of (by rw [st_tl]) e (by rw [st_tl]; exact e2), ok p H _ Xt.refl si (.str [c])⟩ hs
          · exact ok.elim
        · exact ok.elim
      · exact ok.elim
    | _ => exact ok.elim
  | ref hr =>
    simp only [getItem] at ok
    split at ok
    · rename_i l e0
      obtain ⟨vs, h1, ql⟩ := si.lst hr e0
      cases rb with
      | int k =>
        simp only at ok
        split at ok
        · rename_i j e
          split at ok
          · rename_i w e2
            obtain ⟨z, g, q⟩ := ql.get e2
            exact ix_list value slice pins s σ H _ _ v u Q I rv ru ⟨_, _, k, z, rfl, rfl, SqL.of h1, at_of ql.length e g, ok p H z Xt.refl si q⟩ hs
          · exact ok.elim
        · exact ok.elim
      | _ => exact ok.elim
    · exact ok.elim
  | _ => cases b <;> exact ok.elim
/-! ### slices -/
theorem clip_eq (n d : Nat) (o : Option Int) : clip n d o = HT.sIx n d o := by cases o <;> rfl
theorem RWs.cut {K : PySem.W.Frag} {p : List Addr} {H : Hp} {l : List W} {vs : List V} (q : RWs K p H l vs) (lo hi : Option Int) : RWs K p H (cut l lo hi) (cutV vs lo hi) := by
  unfold M2.cut cutV
  rw [clip_eq, clip_eq, q.length]
  exact (q.drop _).take _
theorem cut_all {A : Type} {l : List A} {lo hi : Option Int} (h1 : clip l.length 0 lo = 0) (h2 : clip l.length l.length hi = l.length) : cut l lo hi = l := by
  unfold cut
  rw [h1, h2]
  simp
/-- what a slice gives, by trees -/
def rSl (nm : Nm) (K : PySem.W.Frag) (Ek : XK) : V → Option Int → Option Int → Hp → VK → Prop := fun x lo hi H Q => ∃ p h a, Sim nm K p h H ∧ RW K p H a x ∧ Ok nm K Ek (GV K) p H (getSlice a lo hi h) Q
theorem slr : SlR X (rSl nm X.K Ek) := by
  rintro pins s σ H x v vl vu lo hi sl Q I rx hs pl pu ⟨p, h, a, si, ra, ok⟩
  simp only [getSlice] at ok
  cases ra with
  | tup hl ql =>
    refine sl_tupA pins s σ H _ v vl vu lo hi sl Q I rx hs pl pu ⟨_, _, rfl, hl, fun hw => ?_, fun _ => new_tup si (ql.cut lo hi) ok⟩
    simp only at ok
    rw [cut_all (by rw [clip_eq, ql.length]; exact hw.1) (by rw [clip_eq, ql.length]; exact hw.2)] at ok
    exact ok p H _ Xt.refl si (.tup hl ql)
  | kl hl ql => exact sl_list pins s σ H _ v vl vu lo hi sl Q I rx hs pl pu ⟨_, _, rfl, hl.sq, new_lst si (ql.cut lo hi) ok⟩
  | str z =>
    simp only at ok
    split at ok
    · rename_i hz
      refine sl_str pins s σ H _ v vl vu lo hi sl Q I rx hs pl pu ⟨_, rfl, by rw [st_len, ← line_eq]; exact hz, ?_⟩
      have : cutS (st z) lo hi = st (cut z lo hi) := by
        unfold cutS cut
        rw [st_tl, st_len, clip_eq, clip_eq]
      rw [this]
      exact ok p H _ Xt.refl si (.str _)
    · exact ok.elim
  | ref hr =>
    simp only at ok
    split at ok
    · rename_i z e
      obtain ⟨vs, h1, q⟩ := si.lst hr (asL_lst e)
      exact sl_list pins s σ H _ v vl vu lo hi sl Q I rx hs pl pu ⟨_, _, rfl, SqL.of h1, new_lst si (q.cut lo hi) ok⟩
    · exact ok.elim
  | _ => exact ok.elim
/-! ### builtins of values -/
theorem RWs.one {K : PySem.W.Frag} {p : List Addr} {H : Hp} {w : W} {xs : List V} (r : RWs K p H [w] xs) : ∃ x, xs = [x] ∧ RW K p H w x := by
  cases r with
  | cons a b => cases b; exact ⟨_, rfl, a⟩
theorem RWs.two {K : PySem.W.Frag} {p : List Addr} {H : Hp} {w u : W} {xs : List V} (r : RWs K p H [w, u] xs) : ∃ x y, xs = [x, y] ∧ RW K p H w x ∧ RW K p H u y := by
  cases r with
  | cons a b =>
    cases b with
    | cons c d => cases d; exact ⟨_, _, rfl, a, c⟩
theorem cl_len : CallR X (.builtin "len") (rFn nm X.K Ek (b1op .len)) := by
  rintro pins s σ H xs us Q I rs ⟨p, h, ws, si, rw', ok⟩
  match ws, rw', ok with
  | [], _, ok => exact ok.elim
  | [w], rw', ok =>
    obtain ⟨x, rfl, r⟩ := rw'.one
    cases r with
    | str l =>
      simp only [b1op, b1u] at ok
      split at ok
      · rename_i hl
        exact call_len_str pins s σ H _ us Q I rs ⟨_, rfl, by rw [st_len, ← line_eq]; exact hl, by rw [st_len]; exact ok p H _ Xt.refl si (.int _)⟩
      · exact ok.elim
    | tup hl ql => exact call_len_seq pins s σ H _ us Q I rs ⟨_, _, rfl, .inr hl, by rw [← ql.length]; exact ok p H _ Xt.refl si (.int _)⟩
    | kl hl ql => exact call_len_seq pins s σ H _ us Q I rs ⟨_, _, rfl, .inl hl.sq, by rw [← ql.length]; exact ok p H _ Xt.refl si (.int _)⟩
    | ref hr =>
      simp only [b1op, b1u] at ok
      split at ok
      · rename_i l e
        obtain ⟨vs, h1, ql⟩ := si.lst hr e
        exact call_len_seq pins s σ H _ us Q I rs ⟨_, _, rfl, .inl (SqL.of h1), by rw [← ql.length]; exact ok p H _ Xt.refl si (.int _)⟩
      · exact ok.elim
    | _ => exact ok.elim
  | [w, u], _, ok => cases w <;> cases u <;> exact ok.elim
  | _ :: _ :: _ :: _, _, ok => exact ok.elim
theorem cl_abs : CallR X (.builtin "abs") (rFn nm X.K Ek (b1op .abs)) := by
  rintro pins s σ H xs us Q I rs ⟨p, h, ws, si, rw', ok⟩
  match ws, rw', ok with
  | [], _, ok => exact ok.elim
  | [w], rw', ok =>
    obtain ⟨x, rfl, r⟩ := rw'.one
    cases r with
    | int i => exact call_abs pins s σ H _ us Q I rs ⟨i, rfl, ok p H _ Xt.refl si (.int _)⟩
    | _ => exact ok.elim
  | [w, u], _, ok => cases w <;> cases u <;> exact ok.elim
  | _ :: _ :: _ :: _, _, ok => exact ok.elim
theorem cl_int : CallR X (.type "int") (rFn nm X.K Ek (b1op .int)) := by
  rintro pins s σ H xs us Q I rs ⟨p, h, ws, si, rw', ok⟩
  match ws, rw', ok with
  | [], _, ok => exact ok.elim
  | [w], rw', ok =>
    obtain ⟨x, rfl, r⟩ := rw'.one
    cases r with
    | int i => exact call_int1 pins s σ H _ us Q I rs (.inl ⟨i, rfl, ok p H _ Xt.refl si (.int _)⟩)
    | _ => exact ok.elim
  | [w, u], _, ok => cases w <;> cases u <;> exact ok.elim
  | _ :: _ :: _ :: _, _, ok => exact ok.elim
theorem cl_max2 (hc : X.calm = true) : CallR X (.builtin "max") (rFn nm X.K Ek (b1op .max2)) := by
  rintro pins s σ H xs us Q I rs ⟨p, h, ws, si, rw', ok⟩
  match ws, rw', ok with
  | [], _, ok => exact ok.elim
  | [w], _, ok => cases w <;> exact ok.elim
  | [w, u], rw', ok =>
    obtain ⟨x, y, rfl, r, q⟩ := rw'.two
    cases r with
    | int i =>
      cases q with
      | int j => exact call_max2 hc pins s σ H _ us Q I rs ⟨i, j, rfl, ok p H _ Xt.refl si (.int _)⟩
      | _ => exact ok.elim
    | _ => exact ok.elim
  | _ :: _ :: _ :: _, _, ok => exact ok.elim
theorem cl_min2 (hc : X.calm = true) : CallR X (.builtin "min") (rFn nm X.K Ek (b1op .min2)) := by
  rintro pins s σ H xs us Q I rs ⟨p, h, ws, si, rw', ok⟩
  match ws, rw', ok with
  | [], _, ok => exact ok.elim
  | [w], _, ok => cases w <;> exact ok.elim
  | [w, u], rw', ok =>
    obtain ⟨x, y, rfl, r, q⟩ := rw'.two
    cases r with
    | int i =>
      cases q with
      | int j => exact call_min2 hc pins s σ H _ us Q I rs ⟨i, j, rfl, ok p H _ Xt.refl si (.int _)⟩
      | _ => exact ok.elim
    | _ => exact ok.elim
  | _ :: _ :: _ :: _, _, ok => exact ok.elim
/-! ### builtins of rows -/
def rRow (nm : Nm) (K : PySem.W.Frag) (Ek : XK) (f : List W → Hm → R W) : List V → Hp → VK → Prop := fun xs H Q => ∃ p h ws a vs, Sim nm K p h H ∧ xs = [.ref a] ∧ (SqL K H a vs ∨ SqT K H a vs) ∧ RWs K p H ws vs ∧ Ok nm K Ek (GV K) p H (f ws h) Q
theorem cr_len : CallR X (.builtin "len") (rRow nm X.K Ek (blop .len)) := by
  rintro pins s σ H xs us Q I rs ⟨p, h, ws, a, vs, si, rfl, hq, q, ok⟩
  exact call_len_seq pins s σ H _ us Q I rs ⟨a, vs, rfl, hq, by rw [← q.length]; exact ok p H _ Xt.refl si (.int _)⟩
theorem cr_tuple : CallR X (.type "tuple") (rRow nm X.K Ek (blop .tuple)) := by
  rintro pins s σ H xs us Q I rs ⟨p, h, ws, a, vs, si, rfl, hq, q, ok⟩
  refine call_tuple_of pins s σ H _ us Q I rs ⟨a, vs, rfl, ?_⟩
  rcases hq with hq | hq
  · exact .inl ⟨hq, new_tup si q ok⟩
  · exact .inr ⟨hq, ok p H _ Xt.refl si (.tup hq q)⟩
theorem cr_list : CallR X (.type "list") (rRow nm X.K Ek (blop .list)) := by
  rintro pins s σ H xs us Q I rs ⟨p, h, ws, a, vs, si, rfl, hq, q, ok⟩
  exact call_list_of pins s σ H _ us Q I rs ⟨a, vs, rfl, hq, new_lst si q ok⟩
end
end M2

namespace M2
open PySem PySem.Spec PyProof.Rows L2
section
variable {nm : Nm} {X : L2.Cx} {Ek : XK}
/-! ### rows of truths, of ints -/
/-- a row that stands as a list -/
def rRowL (nm : Nm) (K : PySem.W.Frag) (Ek : XK) (f : List W → Hm → R W) : List V → Hp → VK → Prop := fun xs H Q => ∃ p h ws a vs, Sim nm K p h H ∧ xs = [.ref a] ∧ SqL K H a vs ∧ RWs K p H ws vs ∧ Ok nm K Ek (GV K) p H (f ws h) Q
theorem cr_allL (hc : X.calm = true) : CallR X (.builtin "all") (rRowL nm X.K Ek (blop .all)) := by
  rintro pins s σ H xs us Q I rs ⟨p, h, ws, a, vs, si, rfl, hq, q, ok⟩
  simp only [blop] at ok
  split at ok
  · rename_i bs e
    have := q.bls e
    subst this
    exact cr_all hc pins s σ H _ us Q I rs ⟨a, bs, rfl, hq, ok p H _ Xt.refl si (.bl _)⟩
  · exact ok.elim
theorem cr_anyL (hc : X.calm = true) : CallR X (.builtin "any") (rRowL nm X.K Ek (blop .any)) := by
  rintro pins s σ H xs us Q I rs ⟨p, h, ws, a, vs, si, rfl, hq, q, ok⟩
  simp only [blop] at ok
  split at ok
  · rename_i bs e
    have := q.bls e
    subst this
    exact cr_any hc pins s σ H _ us Q I rs ⟨a, bs, rfl, hq, ok p H _ Xt.refl si (.bl _)⟩
  · exact ok.elim
theorem cr_sumL (hc : X.calm = true) : CallR X (.builtin "sum") (rRowL nm X.K Ek (blop .sum)) := by
  rintro pins s σ H xs us Q I rs ⟨p, h, ws, a, vs, si, rfl, hq, q, ok⟩
  simp only [blop] at ok
  split at ok
  · rename_i bs e
    have := q.ints e
    subst this
    exact cr_sum hc pins s σ H _ us Q I rs ⟨a, bs, rfl, hq, ok p H _ Xt.refl si (.int _)⟩
  · exact ok.elim
/-! ### methods -/
/-- a method of one argument -/
def rM1 (nm : Nm) (K : PySem.W.Frag) (Ek : XK) (f : W → W → Hm → R W) : V → List V → Hp → VK → Prop := fun x xs H Q => ∃ p h a b y, Sim nm K p h H ∧ xs = [y] ∧ RW K p H a x ∧ RW K p H b y ∧ Ok nm K Ek (GV K) p H (f a b h) Q
theorem mut_lst {H : Hp} {a : Addr} {vs : List V} (e : H a = some (.lst vs)) : Mut (H a) := by rw [e]; exact trivial
theorem mr_append : MtM X "list.append" (rM1 nm X.K Ek (met1 .append)) := by
  rintro pins s σ H x xs v us Q I rx rs ⟨p, h, a, b, y, si, rfl, ra, rb, ok⟩
  cases ra with
  | ref hr =>
    simp only [met1] at ok
    split at ok
    · rename_i l e
      split at ok
      · rename_i hl
        obtain ⟨vs, h1, q⟩ := si.lst hr e
        have x2 : Xt X.K p H p (upd H _ (.lst (vs ++ [y]))) := Xt.write (List.mem_of_getElem? hr) (mut_lst h1)
        refine mt_append pins s σ H _ _ v us Q I rx rs ⟨_, vs, y, rfl, rfl, h1, by rw [← q.length, ← line_eq]; exact hl, ?_⟩
        exact ok p _ _ x2 (si.write hr (mut_lst h1) ⟨_, upd_same, (q.to x2).append (.cons (rb.to x2) .nil)⟩) .non
      · exact ok.elim
    · exact ok.elim
  | _ => cases b <;> exact ok.elim
theorem drop_eq (cs : List Nat) : ∀ l : List Nat, dropIn cs l = l.drop (l.takeWhile cs.contains).length
  | [] => rfl
  | c :: l => by
    unfold dropIn
    cases h : cs.contains c with
    | true => rw [if_pos rfl, List.takeWhile_cons, h, if_pos rfl, List.length_cons, List.drop_succ_cons]; exact drop_eq cs l
    | false => rw [if_neg Bool.false_ne_true, List.takeWhile_cons, h, if_neg Bool.false_ne_true]; rfl
theorem strip_eq (l cs : List Nat) : Txt.stripChars (st l) (st cs) = st (stripIn cs l) := by
  unfold Txt.stripChars
  rw [stripBy_eq]
  have g : (st cs).cps.contains = cs.contains := by funext c; simp
  rw [g]
  unfold stripIn
  have e1 : stripLo cs.contains true (st l) = (l.takeWhile cs.contains).length := by simp [stripLo]
  have e2 : ∀ lo, stripHi cs.contains true (st l) lo = l.length - ((l.drop lo).reverse.takeWhile cs.contains).length := fun lo => by simp [stripHi, Str.length]
  rw [e1, e2]
  generalize hlo : (l.takeWhile cs.contains).length = lo
  have d1 : dropIn cs l = l.drop lo := by rw [drop_eq, hlo]
  rw [d1, drop_eq cs (l.drop lo).reverse]
  generalize hk : ((l.drop lo).reverse.takeWhile cs.contains).length = k
  rw [List.drop_reverse, List.reverse_reverse]
  have : (Builtin.Str.strSub (st l) lo (l.length - k)) = st ((l.drop lo).take ((l.drop lo).length - k)) := by
    have t := StrLaws.strSub_toList (st l) lo (l.length - k)
    rw [← st_of (Builtin.Str.strSub (st l) lo (l.length - k)), t, st_tl, List.length_drop]
    congr 2
    omega
  exact this
theorem mr_strip : MtR X "str.strip" (rM1 nm X.K Ek (met1 .strip)) := by
  rintro pins s σ H x xs v us Q I rx rs ⟨p, h, a, b, y, si, rfl, ra, rb, ok⟩
  cases ra with
  | str l =>
    cases rb with
    | str cs =>
      simp only [met1] at ok
      split at ok
      · rename_i hl
        exact mt_stripChars pins s σ H _ _ v us Q I rx rs ⟨_, _, rfl, rfl, by rw [st_len, ← line_eq]; exact hl, by rw [strip_eq]; exact ok p H _ Xt.refl si (.str _)⟩
      · exact ok.elim
    | _ => exact ok.elim
  | _ => cases b <;> exact ok.elim
theorem spl_one (c : Nat) : ∀ (l acc : List Nat), TL.spl [c] 0 acc l = splitAt1 c acc l
  | [], acc => rfl
  | x :: l, acc => by
    unfold splitAt1
    by_cases h : x = c
    · rw [if_pos h]
      rw [TL.spl_hit (by subst h; simp [TL.pre])]
      simp only [List.length_singleton]
      rw [spl_one c l []]
    · rw [if_neg h, TL.spl_miss (by simp [TL.pre, h]), spl_one c l]
theorem RWs.ofStrs {K : PySem.W.Frag} {p : List Addr} {H : Hp} : ∀ (l : List (List Nat)), RWs K p H (l.map .str) ((l.map st).map V.str)
  | [] => .nil
  | x :: l => .cons (.str x) (RWs.ofStrs l)
theorem map_st_tl : ∀ l : List Str, (l.map fun z => z.cps.toList).map st = l
  | [] => rfl
  | z :: l => by rw [List.map_cons, List.map_cons, map_st_tl l, st_of]
theorem mr_split : MtR X "str.split" (rM1 nm X.K Ek (met1 .split)) := by
  rintro pins s σ H x xs v us Q I rx rs ⟨p, h, a, b, y, si, rfl, ra, rb, ok⟩
  cases ra with
  | str l =>
    cases rb with
    | str cs =>
      match cs, ok, rs with
      | [c], ok, rs =>
        simp only [met1] at ok
        split at ok
        · rename_i hl
          have e : Txt.split (st l) (st [c]) = (splitAt1 c [] l).map st := by
            have z := TL.split_spl (st l) (st [c]) (by simp [TL.tl]) (TL.kind_ok (by simp [hl.2]))
            have z2 : (Txt.split (st l) (st [c])).map (fun z => z.cps.toList) = splitAt1 c [] l := by
              rw [← spl_one]
              simpa [TL.tl] using z
            rw [← z2, map_st_tl]
          refine mt_split pins s σ H _ _ v us Q I rx rs ⟨_, _, rfl, rfl, by simp [Str.length], by rw [st_len, ← line_eq]; exact hl.1, ?_⟩
          rw [e]
          exact new_lst si (RWs.ofStrs _) ok
        · exact ok.elim
      | [], ok, _ => exact ok.elim
      | _ :: _ :: _, ok, _ => exact ok.elim
    | _ => exact ok.elim
  | _ => cases b <;> exact ok.elim
def rMR (nm : Nm) (K : PySem.W.Frag) (Ek : XK) (f : W → List W → Hm → R W) : V → List V → Hp → VK → Prop := fun x xs H Q => ∃ p h a ws b vs, Sim nm K p h H ∧ xs = [.ref b] ∧ (SqL K H b vs ∨ SqT K H b vs) ∧ RW K p H a x ∧ RWs K p H ws vs ∧ Ok nm K Ek (GV K) p H (f a ws h) Q
theorem join_st (s : List Nat) : ∀ l : List (List Nat), TL.joinL s l = joinS s l
  | [] => rfl
  | [x] => rfl
  | x :: y :: l => by
    show x ++ (s ++ TL.joinL s (y :: l)) = x ++ s ++ joinS s (y :: l)
    rw [join_st s (y :: l), List.append_assoc]
theorem mr_join : MtR X "str.join" (rMR nm X.K Ek joinop) := by
  rintro pins s σ H x xs v us Q I rx rs ⟨p, h, a, ws, b, vs, si, rfl, hq, ra, q, ok⟩
  cases ra with
  | str l =>
    simp only [joinop] at ok
    split at ok
    · rename_i s' r e1 e2
      cases e1
      split at ok
      · rename_i hz
        have := q.strs e2
        subst this
        refine mt_join pins s σ H _ _ v us Q I rx rs ⟨_, b, r.map st, rfl, rfl, hq, ?_, ?_⟩
        · have : (r.map st).map (·.length) = r.map List.length := by
            rw [List.map_map]
            exact List.map_congr_left fun z _ => st_len z
          rw [this, List.length_map, st_len]
          exact hz
        · have : Txt.join (st l) (r.map st) = st (joinS l r) := by
            rw [TL.join_eq, ← st_of (Str.join (st l) (r.map st))]
            congr 1
            have z := TL.tl_join (st l) (r.map st)
            have m : (r.map st).map TL.tl = r := by
              rw [List.map_map]
              conv => rhs; rw [← List.map_id r]
              exact List.map_congr_left fun z _ => by simp [TL.tl]
            rw [m] at z
            have z2 : (Str.join (st l) (r.map st)).cps.toList = TL.joinL l r := by simpa [TL.tl] using z
            rw [z2, join_st]
          rw [this]
          exact ok p H _ Xt.refl si (.str _)
      · exact ok.elim
    · exact ok.elim
  | _ => exact ok.elim
/-! ### isinstance -/
def kdN : Kd → String
  | .non => "NoneType"
  | .bool => "bool"
  | .int => "int"
  | .str => "str"
  | .tuple => "tuple"
  | .list => "list"
  | .dict => "dict"
def tyN : Ty → String
  | .bool => "bool"
  | .int => "int"
  | .str => "str"
  | .tuple => "tuple"
  | .list => "list"
  | .dict => "dict"
  | .cls _ => "?"
def bt : Ty → Bool
  | .cls _ => false
  | _ => true
theorem kit_of2 (K : PySem.W.Frag) (k : Kd) (t : Ty) (ht : bt t = true) : PySem.W.kitOne K (.type (kdN k)) (.type (tyN t)) = some (isK k t) := by
  apply kit_ty
  cases t with
  | cls c => cases ht
  | _ => cases k <;> decide +kernel
theorem kit_any (K : PySem.W.Frag) (k : Kd) : ∀ (ts : List Ty), (∀ t ∈ ts, bt t = true) → PySem.W.kitAny K (.type (kdN k)) (ts.map fun t => .type (tyN t)) = some (ts.any (isK k))
  | [], _ => rfl
  | t :: ts, hb => by
    refine kitAny_cons (kit_of2 K k t (hb t (by simp))) (fun e => ?_) fun e => by simp [e]
    rw [kit_any K k ts fun t ht => hb t (by simp [ht])]
    simp [e]
theorem kd_ty {p : List Addr} {h : Hm} {H : Hp} {w : W} {v : V} {k : Kd} (si : Sim nm X.K p h H) (r : RW X.K p H w v) (e : kd h w = some k) : TyX X.K H v (.type (kdN k)) := by
  cases r with
  | non => cases e; exact .base .non
  | bl b => cases e; exact .base (.bl b)
  | int i => cases e; exact .base (.int i)
  | str l => cases e; exact .base (.str _)
  | tup hl ql =>
    cases e
    rcases hl with (hl | ⟨o, hl⟩) | ⟨o, its, n, hk, hc, _⟩
    · exact .base (.tup hl)
    · exact .fTuple hl
    · exact .kTuple hk hc
  | kl hl ql =>
    cases e
    rcases hl with ⟨o, hl⟩ | ⟨o, its, n, hk, hc, _⟩
    · exact .base (.frz hl)
    · exact .kList hk hc
  | ref hr =>
    simp only [kd] at e
    split at e
    · rename_i l q
      cases e
      obtain ⟨vs, h1, _⟩ := si.lst hr q
      exact .base (.lst h1)
    · rename_i l q
      cases e
      obtain ⟨a, e1, vs, e2, q2⟩ := si.get q
      rw [hr] at e1; cases e1
      exact .base (.dK e2)
    · cases e
theorem clsVs : ∀ ts : List Ty, Paired ClsV (ts.map fun t => V.ty (tyN t)) (ts.map fun t => Value.type (tyN t))
  | [] => .nil
  | t :: ts => .cons (.ty _) (clsVs ts)
end
end M2

namespace M2
open PySem PySem.Spec PyProof.Rows L2
/-! ### what an expression's meanings are worth -/
abbrev GRw (K : PySem.W.Frag) (b : Bool) : List Addr → Hp → List W → V → Prop := fun p H w v => ∃ a vs, v = .ref a ∧ (SqL K H a vs ∨ (b = false ∧ SqT K H a vs)) ∧ RWs K p H w vs
def tRw (nm : Nm) (K : PySem.W.Frag) (Ek : XK) (b : Bool) (ev : DL) : TE := fun σ H Q => ∃ p s h, Sim nm K p h H ∧ Er K p H s σ ∧ Ok nm K Ek (GRw K b) p H (ev s h) Q
def isBool : Expr → Bool
  | .BoolOp .. => true
  | _ => false
structure EOk (nm : Nm) (Ek : XK) (X : L2.Cx) (e : Expr) (d : Den) : Prop where
  v : PE X e (tV nm X.K Ek d.v)
  l : PE X e (tRw nm X.K Ek (rawForm e) d.l)
  t : plainTest e = true → PT X e (M2.tB nm X.K Ek d.t)
  w : isBool e = true → PW X e (M2.tB nm X.K Ek d.t)
section
variable {nm : Nm} {X : L2.Cx} {Ek : XK}
theorem then_assoc {A B C : Type} {r : R A} {f : A → Hm → R B} {g : B → Hm → R C} : (r.then f).then g = r.then fun a h => (f a h).then g := by cases r <;> rfl
theorem l_bad {e : Expr} {b : Bool} : PE X e (tRw nm X.K Ek b fun _ _ => .bad) := ⟨fun _ _ _ _ _ _ ⟨_, _, _, _, _, ok⟩ => ok.elim⟩
theorem row_of {p : List Addr} {H : Hp} {h : Hm} {w : W} {v : V} {l : List W} (si : Sim nm X.K p h H) (r : RW X.K p H w v) (e : itemsOf h w = some l) : GRw X.K false p H l v := by
  cases r with
  | tup hl ql => cases e; exact ⟨_, _, rfl, .inr ⟨rfl, hl⟩, ql⟩
  | kl hl ql => cases e; exact ⟨_, _, rfl, .inl hl.sq, ql⟩
  | ref hr =>
    obtain ⟨vs, h1, q⟩ := si.lst hr (asL_lst e)
    exact ⟨_, _, rfl, .inl (SqL.of h1), q⟩
  | _ => cases e
/-- a value's row -/
theorem l_of {e : Expr} {v : DV} (hv : PE X e (tV nm X.K Ek v)) : PE X e (tRw nm X.K Ek false fun s h => (v s h).then rowOf) := by
  refine PEi hv fun σ H Q ⟨p, s, h, si, er, ok⟩ => ⟨p, s, h, si, er, ok.then fun w h1 p1 H1 x _ x1 s1 r1 ok1 => ?_⟩
  unfold rowOf at ok1
  split at ok1
  · rename_i l e1
    exact ok1 p1 H1 x Xt.refl s1 (row_of s1 r1 e1)
  · exact ok1.elim
def SoleTest (X : L2.Cx) (e : Expr) : Prop := ∀ whole, isTrue e X.env whole = (do let v ← whole; standAt e.pos; holding [v] (truthy v))
theorem t_of {e : Expr} {v : DV} (hv : PE X e (tV nm X.K Ek v)) (ht : SoleTest X e) : PT X e (M2.tB nm X.K Ek fun s h => (v s h).then truthOf) := by
  refine PTi (pt_truth hv ht) fun σ H Q ⟨p, s, h, si, er, ok⟩ => ⟨p, s, h, si, er, ok.then fun w h1 p1 H1 x _ x1 s1 r1 ok1 => ?_⟩
  unfold truthOf at ok1
  split at ok1
  · rename_i b e1
    exact ⟨b, TruV_of s1 r1 e1, ok1 p1 H1 b Xt.refl s1 rfl⟩
  · exact ok1.elim
theorem mkV_ok {e : Expr} {v : DV} (hv : PE X e (tV nm X.K Ek v)) (ht : SoleTest X e) (hr : rawForm e = false) (hb : isBool e = false) : EOk nm Ek X e (mkV v) :=
  ⟨hv, by rw [hr]; exact l_of hv, fun _ => t_of hv ht, fun z => by rw [hb] at z; cases z⟩
/-! ### comparisons as tests -/
theorem then_ok {A B : Type} {r : R A} {k : A → Hm → R B} {b : B} {h' : Hm} (e : r.then k = .ok b h') : ∃ a h1, r = .ok a h1 ∧ k a h1 = .ok b h' := by
  cases r with
  | ok a h => exact ⟨a, h, rfl, e⟩
  | _ => cases e
theorem rb_bl {o : Option Bool} {h h' : Hm} {w : W} (e : M2.rb o h = .ok w h') : ∃ k, w = .bl k := by
  cases o with
  | none => cases e
  | some b => cases e; exact ⟨b, rfl⟩
theorem rnb_bl {o : Option Bool} {h h' : Hm} {w : W} (e : M2.rnb o h = .ok w h') : ∃ k, w = .bl k := by
  cases o with
  | none => cases e
  | some b => cases e; exact ⟨_, rfl⟩
theorem cmpop_bl {o : Cop} {x y w : W} {h h' : Hm} (e : cmpop o x y h = .ok w h') : ∃ k, w = .bl k := by
  cases o with
  | eq => exact rb_bl e
  | ne => exact rnb_bl e
  | mem => exact rb_bl e
  | nmem => exact rnb_bl e
  | _ => cases x <;> cases y <;> first
    | (cases e; exact ⟨_, rfl⟩)
    | cases e
/-- a value that is a truth, as a test -/
theorem test_of {v : DV} {σ : Sg} {H : Hp} {Q : Bool → Hp → Prop} (hb : ∀ s h w h', v s h = .ok w h' → ∃ k, w = .bl k) (h : M2.tB nm X.K Ek (fun s h => (v s h).then truthOf) σ H Q) : tV nm X.K Ek v σ H (fun x H' => ∃ k, x = .bl k ∧ Q k H') := by
  obtain ⟨p, s, h, si, er, ok⟩ := h
  refine ⟨p, s, h, si, er, ok.then fun w h1 p1 H1 x ev x1 s1 r1 ok1 => ?_⟩
  obtain ⟨k, rfl⟩ := hb _ _ _ _ ev
  cases r1
  exact ⟨k, rfl, ok1 p1 H1 k Xt.refl s1 rfl⟩
theorem e_cmpT {op : CmpOp} {a b : Expr} {pos : Pos} {da db : DV} {o : Cop} (ho : OpR X (compareOp op) (rOp nm X.K Ek (cmpop o))) (ha : PE X a (tV nm X.K Ek da)) (hb : PE X b (tV nm X.K Ek db)) (hm : behindInMarks op b = false) :
    EOk nm Ek X (.Compare a [op] [b] pos) (mkV fun s h => (da s h).then fun x h1 => (db s h1).then fun y h2 => cmpop o x y h2) := by
  refine ⟨e_cmp ho ha hb hm, l_of (e_cmp ho ha hb hm), fun _ => ?_, fun z => nomatch z⟩
  refine PTi (pt_cmpR ho ha hb hm) fun σ H Q h => tOp_of (test_of (fun s h w h' e => ?_) h)
  obtain ⟨_, _, _, e1⟩ := then_ok e
  obtain ⟨_, _, _, e2⟩ := then_ok e1
  exact cmpop_bl e2
theorem chainV_bl {p : Cop} {y : W} {c : Hm → R W} {w : W} {h h' : Hm} {z : W} (e : chainV p y c w h = .ok z h') : ∃ k, z = .bl k := by
  unfold chainV at e
  split at e
  · obtain ⟨_, _, _, e1⟩ := then_ok e
    exact cmpop_bl e1
  · cases e; exact ⟨_, rfl⟩
  · cases e
theorem chain_imp {f : W → W → Hm → R W} {o' : Cop} {da db dc : DV} : ∀ σ H Q, tV nm X.K Ek (fun s h => (da s h).then fun x h1 => (db s h1).then fun y h2 => (f x y h2).then (chainV o' y (dc s))) σ H Q →
    tChain (rOp nm X.K Ek f) (rOp nm X.K Ek (cmpop o')) (tV nm X.K Ek da) (tV nm X.K Ek db) (tV nm X.K Ek dc) σ H Q := by
  rintro σ H Q ⟨p, s, h, si, er, ok⟩
  refine ⟨p, s, h, si, er, ok.then fun w h1 p1 H1 x _ x1 s1 r1 ok1 => ⟨p1, s, h1, s1, er.mono x1, ok1.then fun w2 h2 p2 H2 y _ x2 s2 r2 ok2 => ?_⟩⟩
  refine ⟨p2, h2, w, w2, s2, r1.to x2, r2, ok2.then fun w3 h3 p3 H3 z _ x3 s3 r3 ok3 => ?_⟩
  cases r3 with
  | bl k =>
    refine ⟨k, rfl, ?_⟩
    cases k with
    | true =>
      rw [if_pos rfl]
      exact ⟨p3, s, h3, s3, ((er.mono x1).mono x2).mono x3, ok3.then fun w4 h4 p4 H4 u _ x4 s4 r4 ok4 => ⟨p4, h4, w2, w4, s4, (r2.to x3).to x4, r4, ok4⟩⟩
    | false =>
      rw [if_neg Bool.false_ne_true]
      exact ok3 p3 H3 _ Xt.refl s3 (.bl false)
  | _ => exact ok3.elim
theorem e_cmp2T {op op' : CmpOp} {a b c : Expr} {pos : Pos} {da db dc : DV} {o o' : Cop} (ho : OpR X (compareOp op) (rOp nm X.K Ek (cmpop o))) (ho' : OpR X (compareOp op') (rOp nm X.K Ek (cmpop o')))
    (ha : PE X a (tV nm X.K Ek da)) (hb : PE X b (tV nm X.K Ek db)) (hc : PE X c (tV nm X.K Ek dc)) (hm : lastMarks [op, op'] [b, c] = false) :
    EOk nm Ek X (.Compare a [op, op'] [b, c] pos) (mkV fun s h => (da s h).then fun x h1 => (db s h1).then fun y h2 => (cmpop o x y h2).then (chainV o' y (dc s))) := by
  have hv : PE X (.Compare a [op, op'] [b, c] pos) (tV nm X.K Ek fun s h => (da s h).then fun x h1 => (db s h1).then fun y h2 => (cmpop o x y h2).then (chainV o' y (dc s))) := PEi (pe_chain ho ho' ha hb hc hm) chain_imp
  refine ⟨hv, l_of hv, fun _ => ?_, fun z => nomatch z⟩
  refine PTi (pt_chain ho ho' ha hb hc hm) fun σ H Q h => chain_imp _ _ _ (test_of (fun s h w h' e => ?_) h)
  obtain ⟨_, _, _, e1⟩ := then_ok e
  obtain ⟨_, _, _, e2⟩ := then_ok e1
  obtain ⟨_, _, _, e3⟩ := then_ok e2
  exact chainV_bl e3
/-! ### not, and, or, if -/
theorem e_not {a : Expr} {pos : Pos} {d : Den} (ha : EOk nm Ek X a d) (hp : plainTest a = true) : EOk nm Ek X (.UnaryOp .Not a pos) ⟨fun s h => ((d.v s h).then truthOf).then notV, fun _ _ => .bad, fun s h => (d.t s h).then notB⟩ := by
  refine ⟨PEi (pe_notT ha.v) fun σ H Q ⟨p, s, h, si, er, ok⟩ => ?_, l_bad, fun _ => PTi (pt_not (ha.t hp)) fun σ H Q ⟨p, s, h, si, er, ok⟩ => ?_, fun z => nomatch z⟩
  · simp only [then_assoc] at ok
    refine ⟨p, s, h, si, er, ok.then fun w h1 p1 H1 x _ x1 s1 r1 ok1 => ?_⟩
    unfold truthOf at ok1
    split at ok1
    · rename_i b e1
      exact ⟨b, TruV_of s1 r1 e1, ok1 p1 H1 _ Xt.refl s1 (.bl _)⟩
    · exact ok1.elim
  · refine ⟨p, s, h, si, er, ok.then fun b h1 p1 H1 c _ x1 s1 r1 ok1 => ?_⟩
    cases (show b = c from r1)
    exact ok1 p1 H1 _ Xt.refl s1 rfl
theorem and_imp {d e : Den} : ∀ σ H Q, tV nm X.K Ek (fun s h => (d.v s h).then (andV (e.v s))) σ H Q → tAndT X.K (tV nm X.K Ek d.v) (tV nm X.K Ek e.v) σ H Q := by
  rintro σ H Q ⟨p, s, h, si, er, ok⟩
  refine ⟨p, s, h, si, er, ok.then fun w h1 p1 H1 x _ x1 s1 r1 ok1 => ?_⟩
  unfold andV at ok1
  split at ok1
  · rename_i e1
    exact ⟨true, TruV_of s1 r1 e1, by rw [if_pos rfl]; exact ⟨p1, s, h1, s1, er.mono x1, ok1⟩⟩
  · rename_i e1
    exact ⟨false, TruV_of s1 r1 e1, by rw [if_neg Bool.false_ne_true]; exact ok1 p1 H1 x Xt.refl s1 r1⟩
  · exact ok1.elim
theorem or_imp {d e : Den} : ∀ σ H Q, tV nm X.K Ek (fun s h => (d.v s h).then (orV (e.v s))) σ H Q → tOrT X.K (tV nm X.K Ek d.v) (tV nm X.K Ek e.v) σ H Q := by
  rintro σ H Q ⟨p, s, h, si, er, ok⟩
  refine ⟨p, s, h, si, er, ok.then fun w h1 p1 H1 x _ x1 s1 r1 ok1 => ?_⟩
  unfold orV at ok1
  split at ok1
  · rename_i e1
    exact ⟨true, TruV_of s1 r1 e1, by rw [if_pos rfl]; exact ok1 p1 H1 x Xt.refl s1 r1⟩
  · rename_i e1
    exact ⟨false, TruV_of s1 r1 e1, by rw [if_neg Bool.false_ne_true]; exact ⟨p1, s, h1, s1, er.mono x1, ok1⟩⟩
  · exact ok1.elim
theorem tand_imp {d e : Den} : ∀ σ H Q, M2.tB nm X.K Ek (fun s h => (d.t s h).then (iteB (e.t s) (fun h1 => .ok false h1))) σ H Q → tAnd (M2.tB nm X.K Ek d.t) (M2.tB nm X.K Ek e.t) σ H Q := by
  rintro σ H Q ⟨p, s, h, si, er, ok⟩
  refine ⟨p, s, h, si, er, ok.then fun b h1 p1 H1 c _ x1 s1 r1 ok1 => ?_⟩
  cases (show b = c from r1)
  cases b with
  | true => rw [if_pos rfl]; exact ⟨p1, s, h1, s1, er.mono x1, ok1⟩
  | false => rw [if_neg Bool.false_ne_true]; exact ok1 p1 H1 _ Xt.refl s1 rfl
theorem tor_imp {d e : Den} : ∀ σ H Q, M2.tB nm X.K Ek (fun s h => (d.t s h).then (iteB (fun h1 => .ok true h1) (e.t s))) σ H Q → tOr (M2.tB nm X.K Ek d.t) (M2.tB nm X.K Ek e.t) σ H Q := by
  rintro σ H Q ⟨p, s, h, si, er, ok⟩
  refine ⟨p, s, h, si, er, ok.then fun b h1 p1 H1 c _ x1 s1 r1 ok1 => ?_⟩
  cases (show b = c from r1)
  cases b with
  | true => rw [if_pos rfl]; exact ok1 p1 H1 _ Xt.refl s1 rfl
  | false => rw [if_neg Bool.false_ne_true]; exact ⟨p1, s, h1, s1, er.mono x1, ok1⟩
def dAnd (d e : Den) : Den := ⟨fun s h => (d.v s h).then (andV (e.v s)), fun _ _ => .bad, fun s h => (d.t s h).then (iteB (e.t s) (fun h1 => .ok false h1))⟩
def dOr (d e : Den) : Den := ⟨fun s h => (d.v s h).then (orV (e.v s)), fun _ _ => .bad, fun s h => (d.t s h).then (iteB (fun h1 => .ok true h1) (e.t s))⟩
theorem e_and2 {a b : Expr} {pos : Pos} {d e : Den} (ha : EOk nm Ek X a d) (hb : EOk nm Ek X b e) (h1 : plainTest a = true) (h2 : plainTest b = true) : EOk nm Ek X (.BoolOp .And [a, b] pos) (dAnd d e) := by
  have hw : PW X (.BoolOp .And [a, b] pos) (M2.tB nm X.K Ek (dAnd d e).t) := ⟨fun wh pins s σ H Q I h => (pw_and (ha.t h1) (pw_and1 (hb.t h2))).run wh pins s σ H Q I (tand_imp _ _ _ h)⟩
  exact ⟨PEi (pe_andT ha.v (pe_one hb.v)) and_imp, l_bad, fun _ => hw.pt, fun _ => hw⟩
theorem e_or2 {a b : Expr} {pos : Pos} {d e : Den} (ha : EOk nm Ek X a d) (hb : EOk nm Ek X b e) (h1 : plainTest a = true) (h2 : plainTest b = true) : EOk nm Ek X (.BoolOp .Or [a, b] pos) (dOr d e) := by
  have hw : PW X (.BoolOp .Or [a, b] pos) (M2.tB nm X.K Ek (dOr d e).t) := ⟨fun wh pins s σ H Q I h => (pw_or (ha.t h1) (pw_or1 (hb.t h2))).run wh pins s σ H Q I (tor_imp _ _ _ h)⟩
  exact ⟨PEi (pe_orT ha.v (pe_one hb.v)) or_imp, l_bad, fun _ => hw.pt, fun _ => hw⟩
theorem e_and3 {a b : Expr} {r : List Expr} {pos : Pos} {d e : Den} (ha : EOk nm Ek X a d) (hb : EOk nm Ek X (.BoolOp .And (b :: r) pos) e) (h1 : plainTest a = true) : EOk nm Ek X (.BoolOp .And (a :: b :: r) pos) (dAnd d e) := by
  have hw : PW X (.BoolOp .And (a :: b :: r) pos) (M2.tB nm X.K Ek (dAnd d e).t) := ⟨fun wh pins s σ H Q I h => (pw_and (ha.t h1) (hb.w rfl)).run wh pins s σ H Q I (tand_imp _ _ _ h)⟩
  exact ⟨PEi (pe_andT ha.v hb.v) and_imp, l_bad, fun _ => hw.pt, fun _ => hw⟩
theorem e_or3 {a b : Expr} {r : List Expr} {pos : Pos} {d e : Den} (ha : EOk nm Ek X a d) (hb : EOk nm Ek X (.BoolOp .Or (b :: r) pos) e) (h1 : plainTest a = true) : EOk nm Ek X (.BoolOp .Or (a :: b :: r) pos) (dOr d e) := by
  have hw : PW X (.BoolOp .Or (a :: b :: r) pos) (M2.tB nm X.K Ek (dOr d e).t) := ⟨fun wh pins s σ H Q I h => (pw_or (ha.t h1) (hb.w rfl)).run wh pins s σ H Q I (tor_imp _ _ _ h)⟩
  exact ⟨PEi (pe_orT ha.v hb.v) or_imp, l_bad, fun _ => hw.pt, fun _ => hw⟩
theorem e_ite {c a b : Expr} {pos : Pos} {dc da db : Den} (hc : EOk nm Ek X c dc) (ha : EOk nm Ek X a da) (hb : EOk nm Ek X b db) (hp : plainTest c = true) : EOk nm Ek X (.IfExp c a b pos) (mkV fun s h => (dc.t s h).then (iteB (da.v s) (db.v s))) := by
  have hv : PE X (.IfExp c a b pos) (tV nm X.K Ek fun s h => (dc.t s h).then (iteB (da.v s) (db.v s))) := by
    refine PEi (pe_ifExp (hc.t hp) ha.v hb.v) fun σ H Q ⟨p, s, h, si, er, ok⟩ => ?_
    refine ⟨p, s, h, si, er, ok.then fun b h1 p1 H1 c _ x1 s1 r1 ok1 => ?_⟩
    cases (show b = c from r1)
    cases b with
    | true => rw [if_pos rfl]; exact ⟨p1, s, h1, s1, er.mono x1, ok1⟩
    | false => rw [if_neg Bool.false_ne_true]; exact ⟨p1, s, h1, s1, er.mono x1, ok1⟩
  exact ⟨hv, l_of hv, nofun, nofun⟩
/-! ### displays -/
theorem e_tup {es : List Expr} {k : Nat} {pos : Pos} {d : DL} (h : PA X es (tLs nm X.K Ek d)) : EOk nm Ek X (.Tuple es k pos) (mkV fun s h => (d s h).then tupV) := by
  refine mkV_ok (PEi (pe_tup h) fun σ H Q ⟨p, s, h, si, er, ok⟩ => ?_) (fun _ => rfl) rfl rfl
  refine ⟨p, s, h, si, er, ok.then fun ws h1 p1 H1 vs _ x1 s1 r1 ok1 => ?_⟩
  unfold tupV at ok1
  split at ok1
  · rename_i hz
    exact ⟨by rw [← (show RWs X.K p1 H1 ws vs from r1).length, ← line_eq]; exact hz, new_tup s1 r1 ok1⟩
  · exact ok1.elim
theorem e_lst {es : List Expr} {pos : Pos} {d : DL} (h : PA X es (tLs nm X.K Ek d)) : EOk nm Ek X (.List es pos) (mkL fun s h => (d s h).then short) := by
  have hv : PE X (.List es pos) (tV nm X.K Ek fun s h => ((d s h).then short).then newL) := by
    refine PEi (pe_lst h) fun σ H Q ⟨p, s, h, si, er, ok⟩ => ?_
    simp only [then_assoc] at ok
    refine ⟨p, s, h, si, er, ok.then fun ws h1 p1 H1 vs _ x1 s1 r1 ok1 => ?_⟩
    unfold short at ok1
    split at ok1
    · rename_i hz
      exact ⟨by rw [← (show RWs X.K p1 H1 ws vs from r1).length, ← line_eq]; exact hz, new_lst s1 r1 ok1⟩
    · exact ok1.elim
  refine ⟨hv, ?_, fun _ => t_of hv fun _ => rfl, fun z => nomatch z⟩
  refine PEi (pe_lst h) fun σ H Q ⟨p, s, h, si, er, ok⟩ => ?_
  refine ⟨p, s, h, si, er, Ok.then ok fun ws h1 p1 H1 vs _ x1 s1 r1 ok1 => ?_⟩
  unfold short at ok1
  split at ok1
  · rename_i hz
    refine ⟨by rw [← (show RWs X.K p1 H1 ws vs from r1).length, ← line_eq]; exact hz, fun a ha => ?_⟩
    exact ok1 p1 _ (.ref a) (Xt.beside ha) (s1.beside ha) ⟨a, vs, rfl, .inl (SqL.of upd_same), (show RWs X.K p1 H1 ws vs from r1).to (Xt.beside ha)⟩
  · exact ok1.elim
theorem e_dct0 {pos : Pos} : EOk nm Ek X (.Dict [] [] pos) (mkV fun _ h => (R.ok [] h).then dctV) := by
  refine mkV_ok (PEi pe_dnewK fun σ H Q ⟨p, s, h, si, er, ok⟩ => ?_) (fun _ => rfl) rfl rfl
  exact fun a ha => ok (p ++ [a]) _ _ (Xt.laid ha) (si.laid ha ⟨[], upd_same, .nil⟩) (.ref (by rw [← si.len]; simp))
/-- one part, the rest told from an earlier state -/
theorem Ok.thenO {A B A' B' : Type} {K : PySem.W.Frag} {G : List Addr → Hp → A → B → Prop} {G' : List Addr → Hp → A' → B' → Prop} {p p0 : List Addr} {H H0 : Hp} {r : R A} {k : A → Hm → R A'} {Q : B' → Hp → Prop} {Q' : B → Hp → Prop} (x0 : Xt K p H p0 H0) (h : Ok nm K Ek G' p H (r.then k) Q)
    (hk : ∀ a h1 p1 H1 b, r = .ok a h1 → Xt K p0 H0 p1 H1 → Sim nm K p1 h1 H1 → G p1 H1 a b → Ok nm K Ek G' p H (k a h1) Q → Q' b H1) : Ok nm K Ek G p0 H0 r Q' := by
  cases r with
  | ok a h' => exact fun p' H' b x' s' g => hk a h' p' H' b rfl x' s' g h
  | exc c ws h' => exact fun p' H' d x' s' g => h p' H' d (x0.trans x') s' g
  | bad => exact h
/-- an own thing beside is taken among the objects -/
theorem Sim.adopt {K : PySem.W.Frag} {p : List Addr} {h : Hm} {H : Hp} (x : Sim nm K p h H) {a : Addr} {u : HO} {o : O} (na : a ∉ p) (mu : Mut (H a)) (r : RO nm K (p ++ [a]) (upd H a u) o a) : Sim nm K (p ++ [a]) (h ++ [o]) (upd H a u) := by
  refine ⟨by simp [x.len], List.nodup_append.mpr ⟨x.nd, by simp, fun c hc b hb => ?_⟩, fun i o' b e q => ?_⟩
  · have : b = a := by simpa using hb
    subst this
    rintro rfl
    exact na hc
  · by_cases hi : i < p.length
    · rw [List.getElem?_append_left hi] at q
      rw [List.getElem?_append_left (by rw [← x.len]; exact hi)] at e
      exact (x.at_ i o' b e q).mono (List.prefix_append p [a]) (Kp.write mu) (upd_ne fun z => na (z ▸ List.mem_of_getElem? q))
    · have hlt := (List.getElem?_eq_some_iff.mp e).1
      have hi2 : i = p.length := by
        rw [List.length_append, List.length_singleton] at hlt
        have := x.len
        omega
      subst hi2
      rw [List.getElem?_append_right (Nat.le_refl _), Nat.sub_self] at q
      rw [List.getElem?_append_right (by rw [x.len]; exact Nat.le_refl _), x.len, Nat.sub_self] at e
      cases q
      cases e
      exact r
/-- a thing laid beside ahead of the rest, taken among the objects at the end -/
theorem Xt.adopt {K : PySem.W.Frag} {p p2 : List Addr} {H H2 : Hp} {a : Addr} {u : HO} (ha : H a = none) (x : Xt K p H p2 H2) (mu : Mut (H2 a)) : Xt K p H (p2 ++ [a]) (upd H2 a u) := by
  refine ⟨x.pre.trans (List.prefix_append _ _), x.kp.trans (Kp.write mu), fun c v e n => ?_, fun c z n => ?_⟩
  · rw [upd_ne (ne_of_none e ha)]; exact x.fr c v e n
  · rcases List.mem_append.mp z with z | z
    · exact x.new c z n
    · have : c = a := by simpa using z
      rw [this]; exact ha
/-- what stands beside stands on -/
theorem Xt.stay {K : PySem.W.Frag} {p p1 : List Addr} {H H1 : Hp} (x : Xt K p H p1 H1) {a : Addr} {u : HO} (e : H a = some u) (n : a ∉ p) : H1 a = some u ∧ a ∉ p1 :=
  ⟨x.fr a u e n, fun z => by rw [x.new a z n] at e; cases e⟩
theorem e_dct1 {k v : Expr} {pos : Pos} {dk dv : DV} (hk : PE X k (tV nm X.K Ek dk)) (hv : PE X v (tV nm X.K Ek dv)) :
    EOk nm Ek X (.Dict [some k] [v] pos) (mkV fun s h => ((dk s h).then fun x h1 => ((dv s h1).then fun y h2 => (R.ok [] h2).then fun ws h3 => .ok (y :: ws) h3).then fun ws h2 => .ok (x :: ws) h2).then dctV) := by
  refine mkV_ok (PEi (pe_disp (pps_cons hk hv pps_nil) rfl rfl (by simp) (by simp)) fun σ H Q ⟨p, s, h, si, er, ok⟩ => ?_) (fun _ => rfl) rfl rfl
  intro a ha
  simp only [then_assoc] at ok
  have x0 : Xt X.K p H p (upd H a (.dK [])) := Xt.beside ha
  have np : a ∉ p := fun z => by obtain ⟨v, hv⟩ := si.mem z; rw [ha] at hv; cases hv
  refine ⟨p, s, h, si.beside ha, er.mono x0, Ok.thenO x0 ok fun w h1 p1 H1 x _ x1 s1 r1 ok1 => ⟨p1, s, h1, s1, (er.mono x0).mono x1, Ok.thenO (x0.trans x1) ok1 fun w2 h2 p2 H2 y _ x2 s2 r2 ok2 => ?_⟩⟩
  have r1' := (show RW X.K p1 H1 w x from r1).to x2
  obtain ⟨a1, np1⟩ := x1.stay (upd_same (o := HO.dK [])) np
  obtain ⟨a2, np2⟩ := x2.stay a1 np1
  cases r1' with
  | str l =>
    refine ⟨a2, [(.inr (st l), y)], rfl, by simp, ?_⟩
    have mu : Mut (H2 a) := by rw [a2]; exact trivial
    have xx : Xt X.K p H (p2 ++ [a]) (upd H2 a (.dK (mergeK [] [(.inr (st l), y)]))) := Xt.adopt ha ((x0.trans x1).trans x2) mu
    have kp : Kp X.K H2 (upd H2 a (.dK (mergeK [] [(.inr (st l), y)]))) := Kp.write mu
    refine ok2 (p2 ++ [a]) _ _ xx (s2.adopt np2 mu ⟨_, upd_same, ?_⟩) (.ref (by rw [← s2.len]; simp))
    exact .cons rfl (r2.mono (List.prefix_append _ _) kp) .nil
  | _ => exact ok2.elim
end
end M2

namespace M2
open PySem PySem.Spec PyProof.Rows L2
abbrev NoE : XK := fun _ _ _ => False
/-- a called def -/
abbrev spM (nm : Nm) (K : PySem.W.Frag) (f : List W → Hm → R W) : Sp := fun vs H Q E => rFn nm K E f vs H Q
def CallOk (nm : Nm) (C : Ctx) (X : L2.Cx) (x : Str) (i : Nat) : Prop := ∃ k f fd ps, FnOk X.prog X.w X.K X.mg X.base (CX X.prog X.w) k f fd ps (spM nm X.K (C.call i)) ∧ Room k X.A ∧ X.mg x = some (.ref f) ∧ PySem.W.keepIn X.K (.ref f) = true ∧ Binds X.K fd ps [] ∧ (x == ("__debug__" : Str)) = false
def bnames : List Str := ["len", "abs", "int", "str", "bool", "list", "tuple", "dict", "max", "min", "sum", "any", "all", "isinstance", "range"]
/-- what a text's names stand for, in the context of a body -/
structure GOk (nm : Nm) (Ek : XK) (c : CS) (C : Ctx) (X : L2.Cx) (sc : Scope) : Prop where
  calm : X.calm = true
  N : X.N = c.N
  nd : X.N.Nodup
  un : X.A.units + 70 < cLine
  vis : ∀ x, isVar sc x = true → Vis X.env.scope x
  loc : ∀ x, isLoc sc x = true → Loc X.env.scope x ∧ (X.fn x = true ∨ X.env.scope.names.lookup x = some .local)
  gl : ∀ x, isGl sc x = true → Gl X x
  cf : ∀ x, sc.names.lookup x = some .cell ∨ sc.names.lookup x = some .free → X.env.scope.names.lookup x = some .cell ∨ X.env.scope.names.lookup x = some .free
  fns : ∀ x i, c.fns.lookup x = some i → CallOk nm C X x i
  pass : Passes (CX X.prog X.w) X Ek
  con : ∀ x i w, c.con.lookup x = some i → C.con i = some w → ∃ v u, X.mg x = some u ∧ RelV v u ∧ (x == ("__debug__" : Str)) = false ∧ ∀ p H, RW X.K p H w v
  blt : ∀ x, bnames.contains x = true → X.mg x = none
section
variable {nm : Nm} {X : L2.Cx} {Ek : XK} {c : CS} {C : Ctx} {sc : Scope}
/-! ### a block -/
theorem relS_free {sc : Scope} : ∀ {names : List (Str × NameKind)} {x : Str}, names.lookup x = some .free →
    (names.map fun (n, k) => if (k == NameKind.free && sc.kind == .function && sc.names.lookup n == some .cell) then (n, NameKind.cell) else (n, k)).lookup x = some .free ∨
      (names.map fun (n, k) => if (k == NameKind.free && sc.kind == .function && sc.names.lookup n == some .cell) then (n, NameKind.cell) else (n, k)).lookup x = some .cell
  | [], _, h => by simp at h
  | (n, k) :: r, x, h => by
    have ih := @relS_free sc r x
    show List.lookup x ((if (k == NameKind.free && sc.kind == .function && sc.names.lookup n == some .cell) = true then (n, NameKind.cell) else (n, k)) :: (r.map _)) = _ ∨ List.lookup x ((if (k == NameKind.free && sc.kind == .function && sc.names.lookup n == some .cell) = true then (n, NameKind.cell) else (n, k)) :: (r.map _)) = _
    cases hx : x == n with
    | true =>
      simp only [List.lookup_cons, hx] at h
      cases h
      by_cases hc : (NameKind.free == NameKind.free && sc.kind == .function && sc.names.lookup n == some .cell) = true
      · rw [if_pos hc]; right; simp only [List.lookup_cons, hx]
      · rw [if_neg hc]; left; simp only [List.lookup_cons, hx]
    | false =>
      simp only [List.lookup_cons, hx] at h
      have ih := ih h
      by_cases hc : (k == NameKind.free && sc.kind == .function && sc.names.lookup n == some .cell) = true
      · rw [if_pos hc]; simp only [List.lookup_cons, hx]; exact ih
      · rw [if_neg hc]; simp only [List.lookup_cons, hx]; exact ih
theorem GOk.blk (g : GOk nm Ek c C X sc) (scope : Scope) (s : Shared) (H : Hp) (A : Addr) (cl : List (Str × Addr)) (fp : List Addr) : GOk nm NoE c C (X.blk s H scope (compEnvC scope cl A X.env) fp) scope := by
  have esc : (compEnvC scope cl A X.env).scope = relS scope X.env.scope := rfl
  have keep : ∀ {x : Str} {k : NameKind}, k ≠ .free → scope.names.lookup x = some k → (compEnvC scope cl A X.env).scope.names.lookup x = some k := fun hk e => lookup_relS_keep hk e
  have free : ∀ {x : Str}, scope.names.lookup x = some .free → (compEnvC scope cl A X.env).scope.names.lookup x = some .free ∨ (compEnvC scope cl A X.env).scope.names.lookup x = some .cell := fun e => relS_free e
  refine ⟨g.calm, g.N, g.nd, g.un, fun x hx => ?_, fun x hx => ?_, fun x hx => ?_, fun x hx => ?_, fun x i hl => ?_, fun pins σ H1 s1 e s2 I cx => ?_, g.con, g.blt⟩
  · unfold isVar at hx
    simp only [Bool.and_eq_true] at hx
    have hx := hx.2
    split at hx
    · rename_i e; exact .inl (keep (by decide) e)
    · rename_i e; exact .inr (.inl (keep (by decide) e))
    · rename_i e; exact (free e).elim (fun k => .inr (.inr k)) (fun k => .inr (.inl k))
    · cases hx
  · unfold isLoc at hx
    split at hx
    · rename_i e; exact ⟨.inl (keep (by decide) e), .inr (keep (by decide) e)⟩
    · rename_i e; exact ⟨.inr (keep (by decide) e), .inl (by show (scope.names.lookup x == some .cell) = true; rw [e]; rfl)⟩
    · cases hx
  · unfold isGl at hx
    have hx := of_decide_eq_true hx
    exact keep (by decide) hx
  · rcases hx with e | e
    · exact .inl (keep (by decide) e)
    · exact (free e).elim .inr .inl
  · exact g.fns x i hl
  · obtain ⟨_, _, _, _, _, _, _, _, _, _, _, _, z⟩ := cx
    exact z
theorem GOk.bok (g : GOk nm Ek c C X sc) {scope : Scope} {own : List (Str × Nat)} (h : L2.blkC c.N sc scope own = true) : BlkOk X.N X.env.scope scope own := by
  have b : BlkOk c.N sc scope own := blkOk_by h
  rw [g.N]
  exact ⟨b.kind, b.uniq, b.ix, fun y hy e => g.cf _ (b.free y hy e), b.own⟩
/-! ### argument rows -/
def Stars (es : List Expr) : Prop := ∀ e ∈ es, notStar e = true
theorem star1 {e : Expr} (h : notStar e = true) (es : List Expr) (env : PySem.Env) : starEach (e :: es) env = (false, eval e env) :: starEach es env := by
  cases e <;> first
    | rfl
    | cases h
theorem stars_pl (pos : Pos) (env : PySem.Env) : ∀ es : List Expr, Stars es → (backTo pos (starEach es env)).any (·.1) = false
  | [], _ => rfl
  | e :: es, h => by
    rw [star1 (h e (by simp))]
    show (false || (backTo pos (starEach es env)).any (·.1)) = false
    rw [stars_pl pos env es fun x hx => h x (by simp [hx])]
    rfl
/-! ### calls -/
theorem e_call (g : GOk nm Ek c C X sc) {x : Str} {i : Nat} {p pos : Pos} {es : List Expr} {d : DL} (hx : isGl sc x = true) (hl : c.fns.lookup x = some i) (ha : PA X es (tLs nm X.K Ek d)) (hs : Stars es) (h0 : es = [] → d = fun _ h => .ok [] h) :
    EOk nm Ek X (.Call (.Name x p) es [] pos) (mkV fun s h => (d s h).then (C.call i)) := by
  obtain ⟨k, f, fd, ps, F, hr, hm, hk, hb, hd⟩ := g.fns x i hl
  refine mkV_ok ?_ (fun _ => rfl) rfl rfl
  cases es with
  | nil =>
    refine PEi (pe_call0 F hr (g.gl x hx) hm hk hb .nil g.pass hd) fun σ H Q ⟨p, s, h, si, er, ok⟩ => ?_
    rw [h0 rfl] at ok
    exact ⟨p, h, [], si, .nil, ok⟩
  | cons e es =>
    refine PEi (pe_call F hr (g.gl x hx) hm hk hb .nil g.pass ha hd (star1 (hs e (by simp)) es _) (stars_pl _ _ es fun y hy => hs y (by simp [hy]))) fun σ H Q ⟨p, s, h, si, er, ok⟩ => ?_
    refine ⟨p, s, h, si, er, ok.then fun ws h1 p1 H1 vs _ x1 s1 r1 ok1 => ?_⟩
    rw [List.append_nil]
    exact ⟨p1, h1, ws, s1, r1, ok1⟩
/-! ### builtins -/
theorem boot_max' : bootBuiltins "max" = some (.builtin "max") := by decide +kernel
theorem boot_min' : bootBuiltins "min" = some (.builtin "min") := by decide +kernel
theorem boot_abs' : bootBuiltins "abs" = some (.builtin "abs") := by decide +kernel
theorem boot_len' : bootBuiltins "len" = some (.builtin "len") := by decide +kernel
theorem boot_sum' : bootBuiltins "sum" = some (.builtin "sum") := by decide +kernel
theorem boot_any' : bootBuiltins "any" = some (.builtin "any") := by decide +kernel
theorem boot_all' : bootBuiltins "all" = some (.builtin "all") := by decide +kernel
theorem boot_isi' : bootBuiltins "isinstance" = some (.builtin "isinstance") := by decide +kernel
theorem boot_ty' (t : Ty) (h : bt t = true) : bootBuiltins (Str.ofString (tyN t)) = some (.type (tyN t)) := by
  cases t with
  | cls c => cases h
  | _ => decide +kernel
theorem fn_imp {f : List W → Hm → R W} {d : DL} : ∀ σ H Q, tV nm X.K Ek (fun s h => (d s h).then f) σ H Q → tCB (rFn nm X.K Ek f) (tLs nm X.K Ek d) σ H Q := by
  rintro σ H Q ⟨p, s, h, si, er, ok⟩
  exact ⟨p, s, h, si, er, ok.then fun ws h1 p1 H1 vs _ x1 s1 r1 ok1 => ⟨p1, h1, ws, s1, r1, ok1⟩⟩
/-- a built-in function of written values -/
theorem e_b1 (g : GOk nm Ek c C X sc) {x : Str} {b : B1} {p pos : Pos} {e : Expr} {es : List Expr} {d : DL} (hx : isGl sc x = true) (hb : b1Of x (e :: es).length = some b) (ha : PA X (e :: es) (tLs nm X.K Ek d)) (hs : Stars (e :: es)) :
    EOk nm Ek X (.Call (.Name x p) (e :: es) [] pos) (mkV fun s h => (d s h).then (b1op b)) := by
  refine mkV_ok (PEi ?_ fn_imp) (fun _ => rfl) rfl rfl
  have s1 := star1 (hs e (by simp)) es X.env
  have s2 := stars_pl pos X.env es fun y hy => hs y (by simp [hy])
  have fin : ∀ {id : String}, CallR X (.builtin id) (rFn nm X.K Ek (b1op b)) → bootBuiltins x = some (.builtin id) → X.mg x = none → x ≠ "__name__" → (x == ("__debug__" : Str)) = false → PE X (.Call (.Name x p) (e :: es) [] pos) (tCB (rFn nm X.K Ek (b1op b)) (tLs nm X.K Ek d)) :=
    fun cr bb m n1 n2 => pe_callB cr (g.gl x hx) m bb ha n1 n2 s1 s2
  unfold b1Of at hb
  split at hb
  · rename_i e1; subst e1; split at hb
    · cases hb; exact fin cl_len boot_len' (g.blt _ (by decide)) (by decide) (by decide)
    · cases hb
  · split at hb
    · rename_i e1; subst e1; split at hb
      · cases hb; exact fin cl_abs boot_abs' (g.blt _ (by decide)) (by decide) (by decide)
      · cases hb
    · split at hb
      · rename_i e1; subst e1; split at hb
        · cases hb; exact pe_callTy cl_int (g.gl _ hx) (g.blt _ (by decide)) (boot_ty' .int rfl) ha (by decide) (by decide) s1 s2
        · cases hb
      · split at hb
        · rename_i e1; subst e1; split at hb
          · cases hb; exact fin (cl_max2 g.calm) boot_max' (g.blt _ (by decide)) (by decide) (by decide)
          · cases hb
        · split at hb
          · rename_i e1; subst e1; split at hb
            · cases hb; exact fin (cl_min2 g.calm) boot_min' (g.blt _ (by decide)) (by decide) (by decide)
            · cases hb
          · cases hb
/-- a row, alone among the arguments -/
theorem a_row {e : Expr} {b : Bool} {d : DL} (h : PE X e (tRw nm X.K Ek b d)) (hs : notStar e = true) : PA X [e] (tCons (tRw nm X.K Ek b d) tNil) := pa_cons h pa_nil (star1 hs [] _)
theorem row_imp {f : List W → Hm → R W} {d : DL} {b : Bool} : ∀ σ H Q, tV nm X.K Ek (fun s h => (d s h).then f) σ H Q → tCB (rRow nm X.K Ek f) (tCons (tRw nm X.K Ek b d) tNil) σ H Q := by
  rintro σ H Q ⟨p, s, h, si, er, ok⟩
  refine ⟨p, s, h, si, er, ok.then fun ws h1 p1 H1 v _ x1 s1 r1 ok1 => ?_⟩
  obtain ⟨a, vs, rfl, hq, q⟩ := r1
  exact ⟨p1, h1, ws, a, vs, s1, rfl, hq.imp id And.right, q, ok1⟩
theorem rowL_imp {f : List W → Hm → R W} {d : DL} : ∀ σ H Q, tV nm X.K Ek (fun s h => (d s h).then f) σ H Q → tCB (rRowL nm X.K Ek f) (tCons (tRw nm X.K Ek true d) tNil) σ H Q := by
  rintro σ H Q ⟨p, s, h, si, er, ok⟩
  refine ⟨p, s, h, si, er, ok.then fun ws h1 p1 H1 v _ x1 s1 r1 ok1 => ?_⟩
  obtain ⟨a, vs, rfl, hq, q⟩ := r1
  exact ⟨p1, h1, ws, a, vs, s1, rfl, hq.elim id (fun z => nomatch z.1), q, ok1⟩
theorem e_bl (g : GOk nm Ek c C X sc) {x : Str} {b : BL} {p pos : Pos} {e : Expr} {d : DL} (hx : isGl sc x = true) (hb : blOf x (rawForm e) = some b) (ha : PE X e (tRw nm X.K Ek (rawForm e) d)) (hs : notStar e = true) :
    EOk nm Ek X (.Call (.Name x p) [e] [] pos) (mkV fun s h => (d s h).then (blop b)) := by
  refine mkV_ok ?_ (fun _ => rfl) rfl rfl
  have s1 := star1 hs [] X.env
  have s2 : (backTo pos (starEach [] X.env)).any (·.1) = false := rfl
  unfold blOf at hb
  split at hb
  · rename_i e1; subst e1; cases hb
    exact PEi (pe_callTy cr_tuple (g.gl _ hx) (g.blt _ (by decide)) (boot_ty' .tuple rfl) (a_row ha hs) (by decide) (by decide) s1 s2) row_imp
  · split at hb
    · rename_i e1; subst e1; cases hb
      exact PEi (pe_callTy cr_list (g.gl _ hx) (g.blt _ (by decide)) (boot_ty' .list rfl) (a_row ha hs) (by decide) (by decide) s1 s2) row_imp
    · split at hb
      · rename_i hr
        rw [hr] at ha
        split at hb
        · rename_i e1; subst e1; cases hb
          exact PEi (pe_callB (cr_allL g.calm) (g.gl _ hx) (g.blt _ (by decide)) boot_all' (a_row ha hs) (by decide) (by decide) s1 s2) rowL_imp
        · split at hb
          · rename_i e1; subst e1; cases hb
            exact PEi (pe_callB (cr_anyL g.calm) (g.gl _ hx) (g.blt _ (by decide)) boot_any' (a_row ha hs) (by decide) (by decide) s1 s2) rowL_imp
          · split at hb
            · rename_i e1; subst e1; cases hb
              exact PEi (pe_callB (cr_sumL g.calm) (g.gl _ hx) (g.blt _ (by decide)) boot_sum' (a_row ha hs) (by decide) (by decide) s1 s2) rowL_imp
            · split at hb
              · rename_i e1; subst e1; cases hb
                exact PEi (pe_callB cr_len (g.gl _ hx) (g.blt _ (by decide)) boot_len' (a_row ha hs) (by decide) (by decide) s1 s2) row_imp
              · cases hb
      · cases hb
end
end M2

namespace M2
open PySem PySem.Spec PyProof.Rows L2
section
variable {nm : Nm} {X : L2.Cx} {Ek : XK} {c : CS} {C : Ctx} {sc : Scope}
/-! ### isinstance -/
theorem ty_name (g : GOk nm Ek c C X sc) {e : Expr} {t : Ty} (h : tyOf c sc e = some t) : bt t = true ∧ ∃ x p, e = .Name x p ∧ PE X e (tC (.ty (tyN t))) ∧ notStar e = true := by
  unfold tyOf at h
  split at h
  · rename_i x p
    split at h
    · rename_i hx
      have key : ∀ t : Ty, bt t = true → x = Str.ofString (tyN t) → X.mg x = none → x ≠ "__name__" → (x == ("__debug__" : Str)) = false → PE X (.Name x p) (tC (.ty (tyN t))) := fun t ht e m n1 n2 =>
        pe_bltn (g.gl x hx) m (by rw [e]; exact boot_ty' t ht) rfl n1 n2
      split at h
      · rename_i e1; cases h; exact ⟨rfl, x, p, rfl, key .int rfl e1 (by subst e1; exact g.blt _ (by decide)) (by subst e1; decide) (by subst e1; decide), rfl⟩
      · split at h
        · rename_i e1; cases h; exact ⟨rfl, x, p, rfl, key .str rfl e1 (by subst e1; exact g.blt _ (by decide)) (by subst e1; decide) (by subst e1; decide), rfl⟩
        · split at h
          · rename_i e1; cases h; exact ⟨rfl, x, p, rfl, key .bool rfl e1 (by subst e1; exact g.blt _ (by decide)) (by subst e1; decide) (by subst e1; decide), rfl⟩
          · split at h
            · rename_i e1; cases h; exact ⟨rfl, x, p, rfl, key .list rfl e1 (by subst e1; exact g.blt _ (by decide)) (by subst e1; decide) (by subst e1; decide), rfl⟩
            · split at h
              · rename_i e1; cases h; exact ⟨rfl, x, p, rfl, key .tuple rfl e1 (by subst e1; exact g.blt _ (by decide)) (by subst e1; decide) (by subst e1; decide), rfl⟩
              · split at h
                · rename_i e1; cases h; exact ⟨rfl, x, p, rfl, key .dict rfl e1 (by subst e1; exact g.blt _ (by decide)) (by subst e1; decide) (by subst e1; decide), rfl⟩
                · cases h
    · cases h
  · cases h
/-- the classes, one after another -/
def tTys (ts : List Ty) : TA := fun _ H Q => Q (ts.map fun t => V.ty (tyN t)) H
theorem a_tys (g : GOk nm Ek c C X sc) : ∀ {es : List Expr} {ts : List Ty}, allO (tyOf c sc) es = some ts → PA X es (tTys ts) ∧ Stars es ∧ ∀ t ∈ ts, bt t = true
  | [], ts, h => by cases h; exact ⟨pa_nil, (fun _ z => nomatch z), fun _ z => nomatch z⟩
  | e :: es, ts, h => by
    simp only [allO] at h
    split at h
    · rename_i t h1
      split at h
      · rename_i r h2
        cases h
        obtain ⟨hb, x, p, he, pe, st⟩ := ty_name g h1
        obtain ⟨pa, ss, bb⟩ := a_tys g h2
        refine ⟨PAi (pa_cons pe pa (star1 st es _)) fun σ H Q q => q, fun y hy => ?_, fun y hy => ?_⟩
        · rcases List.mem_cons.mp hy with rfl | hy
          · exact st
          · exact ss y hy
        · rcases List.mem_cons.mp hy with rfl | hy
          · exact hb
          · exact bb y hy
      · cases h
    · cases h
theorem e_isi1 (g : GOk nm Ek c C X sc) {p pos : Pos} {a t : Expr} {d : DV} {ty : Ty} (hx : isGl sc "isinstance" = true) (ha : PE X a (tV nm X.K Ek d)) (hs : notStar a = true) (ht : tyOf c sc t = some ty) :
    EOk nm Ek X (.Call (.Name "isinstance" p) [a, t] [] pos) (mkV fun s h => (d s h).then (isiV [ty])) := by
  obtain ⟨hb, x, p', he, pe, st⟩ := ty_name g ht
  refine mkV_ok (PEi (pe_callB call_isi (g.gl _ hx) (g.blt _ (by decide)) boot_isi' (pa_cons ha (pa_cons pe pa_nil (star1 st [] _)) (star1 hs [t] _)) (by decide) (by decide) (star1 hs [t] _) (stars_pl _ _ [t] fun y hy => by simp at hy; subst hy; exact st)) ?_) (fun _ => rfl) rfl rfl
  rintro σ H Q ⟨p, s, h, si, er, ok⟩
  refine ⟨p, s, h, si, er, ok.then fun w h1 p1 H1 v _ x1 s1 r1 ok1 => ?_⟩
  unfold isiV at ok1
  split at ok1
  · rename_i k e
    rw [if_pos (by rw [line_eq, sizeLine_eq]; exact (by decide : 1 ≤ 16777216))] at ok1
    refine ⟨v, _, _, _, _, rfl, .ty (tyN ty), kd_ty s1 r1 e, kit_of2 X.K k ty hb, ?_⟩
    have := okB s1 ok1
    simpa using this
  · exact ok1.elim
theorem e_isiT (g : GOk nm Ek c C X sc) {p pos p2 : Pos} {k2 : Nat} {a : Expr} {ts : List Expr} {d : DV} {tys : List Ty} (hx : isGl sc "isinstance" = true) (ha : PE X a (tV nm X.K Ek d)) (hs : notStar a = true) (ht : allO (tyOf c sc) ts = some tys) :
    EOk nm Ek X (.Call (.Name "isinstance" p) [a, .Tuple ts k2 p2] [] pos) (mkV fun s h => (d s h).then (isiV tys)) := by
  obtain ⟨pa, ss, bb⟩ := a_tys g ht
  refine mkV_ok (PEi (pe_callB call_isiT (g.gl _ hx) (g.blt _ (by decide)) boot_isi' (pa_cons ha (pa_cons (pe_tup pa) pa_nil (star1 rfl [] _)) (star1 hs _ _)) (by decide) (by decide) (star1 hs _ _) (stars_pl _ _ [_] fun y hy => by simp at hy; subst hy; rfl)) ?_) (fun _ => rfl) rfl rfl
  rintro σ H Q ⟨p, s, h, si, er, ok⟩
  refine ⟨p, s, h, si, er, ok.then fun w h1 p1 H1 v _ x1 s1 r1 ok1 => ?_⟩
  unfold isiV at ok1
  split at ok1
  · rename_i k e
    split at ok1
    · rename_i hz
      refine ⟨by rw [List.length_map, ← line_eq]; exact hz, fun tp htp => ?_⟩
      have xb : Xt X.K p1 H1 p1 (upd H1 tp (.tup (tys.map fun t => V.ty (tyN t)))) := Xt.beside htp
      exact ⟨v, tp, _, _, _, _, rfl, upd_same, clsVs tys, kd_ty (s1.beside htp) (r1.to xb) e, kit_any X.K k tys bb, ok1 p1 _ _ xb (s1.beside htp) (.bl _)⟩
    · exact ok1.elim
  · exact ok1.elim
/-! ### slices -/
def tPO (nm : Nm) (K : PySem.W.Frag) (Ek : XK) (d : Env → Hm → R (Option Int)) : TO := fun σ H Q => ∃ p s h, Sim nm K p h H ∧ Er K p H s σ ∧ Ok nm K Ek (fun _ _ (a b : Option Int) => a = b) p H (d s h) Q
theorem o_none {v : DV} : PO X none (tPO nm X.K Ek (partD false v)) := ⟨fun pins s σ H Q I ⟨p, _, h, si, _, ok⟩ => po_none.run pins s σ H Q I (ok p H none Xt.refl si rfl)⟩
theorem o_some {e : Expr} {v : DV} (hv : PE X e (tV nm X.K Ek v)) : PO X (some e) (tPO nm X.K Ek (partD true v)) := by
  refine ⟨fun pins s σ H Q I ⟨p, s', h, si, er, ok⟩ => (po_some hv).run pins s σ H Q I ⟨p, s', h, si, er, ?_⟩⟩
  unfold partD at ok
  simp only at ok
  cases hr : v s' h with
  | ok w h1 =>
    rw [hr] at ok
    intro p' H' b x' s1 r1
    cases r1 with
    | int i => exact ⟨i, rfl, ok p' H' (some i) x' s1 rfl⟩
    | _ => exact ok.elim
  | exc k ws h1 => rw [hr] at ok; exact ok
  | bad => rw [hr] at ok; exact ok
theorem e_slc {a : Expr} {lo hi : Option Expr} {p2 pos : Pos} {da : DV} {dl dh : Env → Hm → R (Option Int)} (ha : PE X a (tV nm X.K Ek da)) (hl : PO X lo (tPO nm X.K Ek dl)) (hh : PO X hi (tPO nm X.K Ek dh)) :
    EOk nm Ek X (.Subscript a (.Slice lo hi none p2) pos) (mkV fun s h => (da s h).then fun x h1 => (dl s h1).then fun y h2 => (dh s h2).then fun z h3 => getSlice x y z h3) := by
  refine mkV_ok (PEi (pe_slice (slr (nm := nm) (Ek := Ek)) ha hl hh) ?_) (fun _ => rfl) rfl rfl
  rintro σ H Q ⟨p, s, h, si, er, ok⟩
  refine ⟨p, s, h, si, er, ok.then fun w h1 p1 H1 v _ x1 s1 r1 ok1 => ⟨p1, s, h1, s1, er.mono x1, ok1.then fun l h2 p2 H2 l' _ x2 s2 r2 ok2 => ⟨p2, s, h2, s2, (er.mono x1).mono x2, ok2.then fun u h3 p3 H3 u' _ x3 s3 r3 ok3 => ?_⟩⟩⟩
  cases r2
  cases r3
  exact ⟨p3, h3, w, s3, (r1.to x2).to x3, ok3⟩
/-! ### methods -/
theorem recv_str {p : List Addr} {H : Hp} {h : Hm} {w : W} {v : V} {m : Mt} (hm : m = .split ∨ m = .strip ∨ m = .join) (r : RW X.K p H w v) (e : isRecv m w h = true) : tyV X.K "str" v H := by
  rcases hm with rfl | rfl | rfl <;> cases r <;> first
    | exact rfl
    | cases e
theorem e_m1 {o e : Expr} {id : String} {T : String} {m : Mt} {name : Str} {apos cpos : Pos} {da de : DV} (pa : PlainAttrs T) (slot : Slot T name id) (hty : typeOf (.builtin id) = pure (.type "method_descriptor")) (hm : MtR X id (rM1 nm X.K Ek (met1 m)))
    (ty : ∀ p H h w v, Sim nm X.K p h H → RW X.K p H w v → isRecv m w h = true → tyV X.K T v H) (ho : PE X o (tV nm X.K Ek da)) (he : PE X e (tV nm X.K Ek de)) (hb : abOk o = true) (hs : notStar e = true) (hl : apos.endLine = cpos.line) :
    EOk nm Ek X (.Call (.Attribute o name apos) [e] [] cpos) (mkV fun s h => (da s h).then fun x h1 => recv m x h1 ((de s h1).then (met1 m x))) := by
  have hbase : attributeBase o name X.env (eval o X.env) = eval o X.env := by
    cases o <;> first
      | rfl
      | skip
    rename_i f as ks p
    cases f <;> first
      | rfl
      | skip
    cases as <;> first
      | rfl
      | skip
    cases ks <;> first
      | rfl
      | cases hb
  have hst := star1 hs [] X.env
  refine mkV_ok (PEi (pe_bm pa slot hty hm ho (pa_cons he pa_nil hst) hbase (by rw [hst]; rfl) (by rw [hl]; simp) hst rfl) ?_) (fun _ => rfl) rfl rfl
  rintro σ H Q ⟨p, s, h, si, er, ok⟩
  refine ⟨p, s, h, si, er, ok.then fun w h1 p1 H1 v _ x1 s1 r1 ok1 => ?_⟩
  unfold recv at ok1
  split at ok1
  · rename_i hr
    refine ⟨ty _ _ _ _ _ s1 r1 hr, p1, s, h1, s1, er.mono x1, ok1.then fun w2 h2 p2 H2 y _ x2 s2 r2 ok2 => ?_⟩
    exact ⟨p2, h2, w, w2, y, s2, rfl, r1.to x2, r2, ok2⟩
  · exact ok1.elim
theorem e_join {o e : Expr} {apos cpos : Pos} {da : DV} {de : DL} {b : Bool} (ho : PE X o (tV nm X.K Ek da)) (he : PE X e (tRw nm X.K Ek b de)) (hb : abOk o = true) (hs : notStar e = true) (hl : apos.endLine = cpos.line) :
    EOk nm Ek X (.Call (.Attribute o "join" apos) [e] [] cpos) (mkV fun s h => (da s h).then fun x h1 => recv .join x h1 ((de s h1).then (joinop x))) := by
  have hbase : attributeBase o "join" X.env (eval o X.env) = eval o X.env := by
    cases o <;> first
      | rfl
      | skip
    rename_i f as ks p
    cases f <;> first
      | rfl
      | skip
    cases as <;> first
      | rfl
      | skip
    cases ks <;> first
      | rfl
      | cases hb
  have hst := star1 hs [] X.env
  refine mkV_ok (PEi (pe_bm F.plainAttrs_str F.slot_str_join F.type_str_join (mr_join (nm := nm) (Ek := Ek)) ho (pa_cons he pa_nil hst) hbase (by rw [hst]; rfl) (by rw [hl]; simp) hst rfl) ?_) (fun _ => rfl) rfl rfl
  rintro σ H Q ⟨p, s, h, si, er, ok⟩
  refine ⟨p, s, h, si, er, ok.then fun w h1 p1 H1 v _ x1 s1 r1 ok1 => ?_⟩
  unfold recv at ok1
  split at ok1
  · rename_i hr
    refine ⟨recv_str (.inr (.inr rfl)) r1 hr, p1, s, h1, s1, er.mono x1, ok1.then fun ws h2 p2 H2 y _ x2 s2 r2 ok2 => ?_⟩
    obtain ⟨a, vs, rfl, hq, q⟩ := r2
    exact ⟨p2, h2, w, ws, a, vs, s2, rfl, hq.imp id And.right, r1.to x2, q, ok2⟩
  · exact ok1.elim
end
end M2

namespace M2
open PySem PySem.Spec PyProof.Rows L2
section
variable {nm : Nm} {X : L2.Cx} {Ek : XK} {c : CS} {C : Ctx} {sc : Scope}
/-! ### what is walked -/
/-- the iterator J gives the items of q -/
structure Wk (nm : Nm) (K : PySem.W.Frag) (p : List Addr) (H : Hp) (q : Src) (J : L2.It) : Prop where
  go : ∀ i p' H' h', Xt K p H p' H' → Sim nm K p' h' H' → okG q.gs h' = true → i < q.its.length → J.go i H'
  stop : ∀ i p' H' h', Xt K p H p' H' → Sim nm K p' h' H' → okG q.gs h' = true → q.its.length ≤ i → J.stop i H'
  yld : ∀ i p' H' h' x H'' w, Xt K p H p' H' → Sim nm K p' h' H' → okG q.gs h' = true → q.its[i]? = some w → J.yld i H' x H'' → Xt K p' H' p' H'' ∧ Sim nm K p' h' H'' ∧ RW K p' H'' w x
def tI (nm : Nm) (K : PySem.W.Frag) (Ek : XK) (it : M2.It) (da db : DV) : TI := fun σ H R => ∃ p s h, Sim nm K p h H ∧ Er K p H s σ ∧ Ok nm K Ek (Wk nm K) p H ((da s h).then fun x h1 => (db s h1).then fun y h2 => srcV it x y h2) R
theorem wk_itl {K : PySem.W.Frag} {p : List Addr} {H : Hp} {h : Hm} {a : Addr} {l : List W} {vs : List V} (hl : FzL K H a vs) (ql : RWs K p H l vs) : Wk nm K p H ⟨l, [], h, none⟩ (Itl K a) where
  go := fun i p' H' h' x s _ hi => by
    have h1 := (x.kp.fz _ _ hl).sq
    have : i < vs.length := by rw [← ql.length]; exact hi
    exact ⟨vs, vs[i], h1, List.getElem?_eq_getElem this⟩
  stop := fun i p' H' h' x s _ hi => ⟨vs, (x.kp.fz _ _ hl).sq, by rw [← ql.length]; exact hi⟩
  yld := fun i p' H' h' y H'' w x s _ e yl => by
    obtain ⟨rfl, y2⟩ := yl
    obtain ⟨v, g, r⟩ := ql.get e
    have := y2 vs (x.kp.fz _ _ hl).sq
    rw [g] at this
    cases this
    exact ⟨Xt.refl, s, r.to x⟩
theorem wk_itt {K : PySem.W.Frag} {p : List Addr} {H : Hp} {h : Hm} {a : Addr} {l : List W} {vs : List V} (hl : SqT K H a vs) (ql : RWs K p H l vs) : Wk nm K p H ⟨l, [], h, none⟩ (Itt K a) where
  go := fun i p' H' h' x s _ hi => by
    have : i < vs.length := by rw [← ql.length]; exact hi
    exact ⟨vs, vs[i], x.kp.tup _ _ hl, List.getElem?_eq_getElem this⟩
  stop := fun i p' H' h' x s _ hi => ⟨vs, x.kp.tup _ _ hl, by rw [← ql.length]; exact hi⟩
  yld := fun i p' H' h' y H'' w x s _ e yl => by
    obtain ⟨rfl, y2⟩ := yl
    obtain ⟨v, g, r⟩ := ql.get e
    have := y2 vs (x.kp.tup _ _ hl)
    rw [g] at this
    cases this
    exact ⟨Xt.refl, s, r.to x⟩
theorem wk_ref {K : PySem.W.Frag} {p : List Addr} {H : Hp} {h : Hm} {a : Addr} {r : Nat} {l : List W} (hr : p[r]? = some a) : Wk nm K p H ⟨l, [(r, l)], h, none⟩ (Itl K a) := by
  have key : ∀ p' H' h', Xt K p H p' H' → Sim nm K p' h' H' → okG [(r, l)] h' = true → ∃ vs, SqL K H' a vs ∧ RWs K p' H' l vs := fun p' H' h' x s g => by
    simp only [okG, List.all_cons, List.all_nil, Bool.and_true, decide_eq_true_eq] at g
    have hr' : p'[r]? = some a := by
      obtain ⟨t, rfl⟩ := x.pre
      rw [List.getElem?_append_left (List.getElem?_eq_some_iff.mp hr).1]
      exact hr
    obtain ⟨vs, h1, q⟩ := s.lst hr' (asL_lst g)
    exact ⟨vs, SqL.of h1, q⟩
  refine ⟨fun i p' H' h' x s g hi => ?_, fun i p' H' h' x s g hi => ?_, fun i p' H' h' y H'' w x s g e yl => ?_⟩
  · obtain ⟨vs, h1, q⟩ := key _ _ _ x s g
    have : i < vs.length := by rw [← q.length]; exact hi
    exact ⟨vs, vs[i], h1, List.getElem?_eq_getElem this⟩
  · obtain ⟨vs, h1, q⟩ := key _ _ _ x s g
    exact ⟨vs, h1, by rw [← q.length]; exact hi⟩
  · obtain ⟨rfl, y2⟩ := yl
    obtain ⟨vs, h1, q⟩ := key _ _ _ x s g
    obtain ⟨v, g2, r2⟩ := q.get e
    have := y2 vs h1
    rw [g2] at this
    cases this
    exact ⟨Xt.refl, s, r2⟩
theorem upto_get (lo : Int) (n i : Nat) (w : W) (e : (upto lo n)[i]? = some w) : w = .int (lo + (i : Nat)) := by
  unfold upto at e
  rw [List.getElem?_map] at e
  cases q : (List.range n)[i]? with
  | none => rw [q] at e; cases e
  | some j =>
    rw [q] at e
    cases e
    obtain ⟨hj, ej⟩ := List.getElem?_eq_some_iff.mp q
    rw [List.getElem_range] at ej
    rw [ej]
theorem wk_rng {K : PySem.W.Frag} {p : List Addr} {H : Hp} {h : Hm} (lo : Int) (n : Nat) : Wk nm K p H ⟨upto lo n, [], h, none⟩ (Itr lo n) where
  go := fun i p' H' h' x s _ hi => by
    show i < n
    simpa [upto] using hi
  stop := fun i p' H' h' x s _ hi => by
    show n ≤ i
    simpa [upto] using hi
  yld := fun i p' H' h' y H'' w x s _ e yl => by
    obtain ⟨rfl, rfl⟩ := yl
    rw [upto_get lo n i w e]
    exact ⟨Xt.refl, s, .int _⟩
theorem wk_str {K : PySem.W.Frag} {p : List Addr} {H : Hp} {h : Hm} (l : List Nat) : Wk nm K p H ⟨l.map fun c => .str [c], [], h, none⟩ (Its (st l)) where
  go := fun i p' H' h' x s _ hi => by
    simp at hi
    show i < (st l).length
    rw [st_len]; exact hi
  stop := fun i p' H' h' x s _ hi => by
    simp at hi
    show (st l).length ≤ i
    rw [st_len]; exact hi
  yld := fun i p' H' h' y H'' w x s _ e yl => by
    obtain ⟨rfl, ch, hc, rfl⟩ := yl
    rw [List.getElem?_map] at e
    have : l[i]? = some ch := by simpa using hc
    rw [this] at e
    cases e
    exact ⟨Xt.refl, s, .str [ch]⟩
theorem i_seq {tg e : Expr} {da db : DV} (hda : ∀ s h, db s h = .ok .non h) (ha : PE X e (tV nm X.K Ek da)) : PI X tg e (tI nm X.K Ek .seq da db) := by
  refine ⟨fun pins s σ H RR I ⟨p, s', h, si, er, ok⟩ => ?_⟩
  cases hr : da s' h with
  | bad => rw [hr] at ok; exact ok.elim
  | exc k ws h1 =>
    rw [hr] at ok
    exact (pi_list ha).run pins s σ H RR I ⟨p, s', h, si, er, by rw [hr]; exact ok⟩
  | ok w h1 =>
    rw [hr] at ok
    have ok : Ok nm X.K Ek (Wk nm X.K) p H (srcV .seq w .non h1) RR := by
      have : (R.ok w h1).then (fun x h1 => (db s' h1).then fun y h2 => srcV .seq x y h2) = srcV .seq w .non h1 := by
        show (db s' h1).then _ = _
        rw [hda]; rfl
      rw [this] at ok; exact ok
    have key : ∀ q, src .seq w .non h1 = some q → q.h = h1 → ∀ (J : L2.It) p' H', Xt X.K p H p' H' → Sim nm X.K p' h1 H' → Wk nm X.K p' H' q J → RR J H' := fun q e e2 J p' H' x sm wk => by
      unfold srcV at ok
      rw [e] at ok
      exact ok p' H' J x (by rw [e2]; exact sm) wk
    cases w with
    | tup l =>
      refine (pi_tup ha).run pins s σ H RR I ⟨p, s', h, si, er, ?_⟩
      rw [hr]
      intro p' H' b x sm r
      cases r with
      | tup hl ql => exact ⟨_, rfl, ⟨_, hl⟩, key _ rfl rfl _ p' H' x sm (wk_itt hl ql)⟩
    | kl l =>
      refine (pi_list ha).run pins s σ H RR I ⟨p, s', h, si, er, ?_⟩
      rw [hr]
      intro p' H' b x sm r
      cases r with
      | kl hl ql => exact ⟨_, rfl, ⟨_, hl.sq⟩, key _ rfl rfl _ p' H' x sm (wk_itl hl ql)⟩
    | str l =>
      refine (pi_str ha).run pins s σ H RR I ⟨p, s', h, si, er, ?_⟩
      rw [hr]
      intro p' H' b x sm r
      cases r with
      | str l => exact ⟨_, rfl, key _ rfl rfl _ p' H' x sm (wk_str l)⟩
    | ref r =>
      refine (pi_list ha).run pins s σ H RR I ⟨p, s', h, si, er, ?_⟩
      rw [hr]
      intro p' H' b x sm rr
      cases rr with
      | ref hr2 =>
        unfold srcV at ok
        cases e : h1[r]? with
        | none => simp only [src, e] at ok; exact ok.elim
        | some o =>
          cases o with
          | lst l =>
            obtain ⟨vs, e1, q1⟩ := sm.lst hr2 e
            exact ⟨_, rfl, ⟨vs, SqL.of e1⟩, key ⟨l, [(r, l)], h1, none⟩ (by simp only [src, e]) rfl _ p' H' x sm (wk_ref hr2)⟩
          | _ => simp only [src, e] at ok; exact ok.elim
    | _ => exact ok.elim
theorem small_of {n : Int} (h : small62 n = true) : -(2 ^ 62) ≤ n ∧ n < 2 ^ 62 := of_decide_eq_true h
theorem i_rng1 (g : GOk nm Ek c C X sc) {tg a : Expr} {p pos : Pos} {da db : DV} (hdb : ∀ s h, db s h = .ok .non h) (hx : isGl sc "range" = true) (ha : PE X a (tV nm X.K Ek da)) (hs : notStar a = true) : PI X tg (.Call (.Name "range" p) [a] [] pos) (tI nm X.K Ek .rng1 da db) := by
  refine ⟨fun pins s σ H RR I ⟨p, s', h, si, er, ok⟩ => ?_⟩
  refine (pi_range1 (g.gl _ hx) (g.blt _ (by decide)) (pa_cons ha pa_nil (star1 hs [] _)) (star1 hs [] _)).run pins s σ H RR I ⟨p, s', h, si, er, ok.then fun w h1 p1 H1 x _ x1 s1 r1 ok1 => ?_⟩
  rw [hdb] at ok1
  cases r1 with
  | int n =>
    have ok1 : Ok nm X.K Ek (Wk nm X.K) p1 H1 (srcV .rng1 (.int n) .non h1) RR := ok1
    simp only [srcV, src] at ok1
    by_cases hn : small62 n = true
    · rw [if_pos hn] at ok1
      exact ⟨n, rfl, (small_of hn).1, (small_of hn).2, ok1 p1 H1 _ Xt.refl s1 (wk_rng 0 n.toNat)⟩
    · rw [if_neg hn] at ok1; exact ok1.elim
  | _ => exact ok1.elim
theorem i_rng2 (g : GOk nm Ek c C X sc) {tg a b : Expr} {p pos : Pos} {da db : DV} (hx : isGl sc "range" = true) (ha : PE X a (tV nm X.K Ek da)) (hb : PE X b (tV nm X.K Ek db)) (hs : notStar a = true) (hs2 : notStar b = true) :
    PI X tg (.Call (.Name "range" p) [a, b] [] pos) (tI nm X.K Ek .rng2 da db) := by
  refine ⟨fun pins s σ H RR I ⟨p, s', h, si, er, ok⟩ => ?_⟩
  refine (pi_range2 (g.gl _ hx) (g.blt _ (by decide)) (pa_cons ha (pa_cons hb pa_nil (star1 hs2 [] _)) (star1 hs [b] _)) (by rw [star1 hs, star1 hs2]; rfl) (by rw [star1 hs2]; rfl)).run pins s σ H RR I ⟨p, s', h, si, er, ok.then fun w h1 p1 H1 x _ x1 s1 r1 ok1 => ⟨p1, s', h1, s1, er.mono x1, ok1.then fun w2 h2 p2 H2 y _ x2 s2 r2 ok2 => ?_⟩⟩
  cases r1 with
  | int i =>
    cases r2 with
    | int j =>
      simp only [srcV, src] at ok2
      by_cases hn : (small62 i && small62 j) = true
      · rw [if_pos hn] at ok2
        simp only [Bool.and_eq_true] at hn
        exact ⟨i, j, rfl, ⟨(small_of hn.1).1, (small_of hn.1).2, (small_of hn.2).1, (small_of hn.2).2⟩, ok2 p2 H2 _ Xt.refl s2 (wk_rng i (j - i).toNat)⟩
      · rw [if_neg hn] at ok2; exact ok2.elim
    | _ => exact ok2.elim
  | _ => cases w2 <;> exact ok2.elim
/-! ### targets -/
/-- a state told but for some slots -/
structure ErX (K : PySem.W.Frag) (p : List Addr) (H : Hp) (A : Nat → Prop) (s : M2.Env) (t : Sg) : Prop where
  len : s.length = t.length
  at_ : ∀ (i : Nat) (w : W), ¬ A i → s[i]? = some (some w) → ∃ v, t[i]? = some (some v) ∧ RW K p H w v
theorem ErX.set {K : PySem.W.Frag} {p : List Addr} {H : Hp} {A : Nat → Prop} {s : M2.Env} {t : Sg} (e : ErX K p H A s t) {w : W} {v : V} (r : RW K p H w v) (i : Nat) : ErX K p H (fun j => A j ∧ j ≠ i) (s.set i (some w)) (t.set i (some v)) := by
  refine ⟨by simpa using e.len, fun j u na q => ?_⟩
  by_cases hj : i = j
  · subst hj
    by_cases hi : i < s.length
    · rw [List.getElem?_set_self hi] at q
      cases q
      exact ⟨v, by rw [List.getElem?_set_self (by rw [← e.len]; exact hi)], r⟩
    · rw [List.getElem?_eq_none (by simpa using hi)] at q; cases q
  · rw [List.getElem?_set_ne hj] at q
    obtain ⟨x, a, b⟩ := e.at_ j u (fun z => na ⟨z, fun k => hj k.symm⟩) q
    exact ⟨x, by rw [List.getElem?_set_ne hj]; exact a, b⟩
theorem ErX.imp {K : PySem.W.Frag} {p : List Addr} {H : Hp} {A B : Nat → Prop} {s : M2.Env} {t : Sg} (e : ErX K p H A s t) (h : ∀ i, A i → B i) : ErX K p H B s t := ⟨e.len, fun i w n q => e.at_ i w (fun z => n (h i z)) q⟩
theorem ErX.er {K : PySem.W.Frag} {p : List Addr} {H : Hp} {A : Nat → Prop} {s : M2.Env} {t : Sg} (e : ErX K p H A s t) (h : ∀ i, ¬ A i) : Er K p H s t := ⟨e.len, fun i w q => e.at_ i w (h i) q⟩
theorem wipe_get : ∀ (vs : List Nat) (σ : Sg) (j : Nat), (wipe σ vs)[j]? = if j ∈ vs ∧ j < σ.length then some none else σ[j]?
  | [], σ, j => by simp [wipe]
  | v :: vs, σ, j => by
    show ((wipe σ vs).set v none)[j]? = _
    by_cases h : v = j
    · subst h
      by_cases hl : v < σ.length
      · rw [List.getElem?_set_self (by rw [wipe_length]; exact hl), if_pos ⟨by simp, hl⟩]
      · rw [List.getElem?_eq_none (by simpa [wipe_length] using hl), if_neg (fun z => hl z.2), List.getElem?_eq_none (by simpa using hl)]
    · rw [List.getElem?_set_ne h, wipe_get vs σ j]
      by_cases hj : j ∈ vs ∧ j < σ.length
      · rw [if_pos hj, if_pos ⟨by simp [hj.1], hj.2⟩]
      · rw [if_neg hj, if_neg (fun z => hj ⟨by simpa [Ne.symm h] using z.1, z.2⟩)]
theorem wipe_set {vs : List Nat} {τ : Sg} {i : Nat} {x : Option V} (h : i ∈ vs) : wipe (τ.set i x) vs = wipe τ vs := by
  apply List.ext_getElem?
  intro j
  rw [wipe_get, wipe_get, List.length_set]
  by_cases hj : j ∈ vs ∧ j < τ.length
  · rw [if_pos hj, if_pos hj]
  · rw [if_neg hj, if_neg hj]
    by_cases e : i = j
    · subst e
      have : ¬ i < τ.length := fun z => hj ⟨h, z⟩
      rw [List.getElem?_eq_none (by simpa using this), List.getElem?_eq_none (by simpa using this)]
    · rw [List.getElem?_set_ne e]
theorem wipe_wipe (vs : List Nat) (σ : Sg) : wipe (wipe σ vs) vs = wipe σ vs := by
  apply List.ext_getElem?
  intro j
  rw [wipe_get vs (wipe σ vs) j, wipe_length]
  by_cases hj : j ∈ vs ∧ j < σ.length
  · rw [if_pos hj, wipe_get vs σ j, if_pos hj]
  · rw [if_neg hj]
theorem Er.wiped {K : PySem.W.Frag} {p : List Addr} {H : Hp} {s : M2.Env} {t : Sg} (e : Er K p H s t) (vs : List Nat) : ErX K p H (fun i => i ∈ vs) s (wipe t vs) := by
  refine ⟨by rw [wipe_length]; exact e.len, fun i w n q => ?_⟩
  obtain ⟨v, a, b⟩ := e.at_ i w q
  exact ⟨v, by rw [wipe_get, if_neg (fun z => n z.1)]; exact a, b⟩
def gNs : List Nat → TGs
  | [] => gNil
  | i :: t => gCons (gName i) (gNs t)
def gK (K : PySem.W.Frag) (k : Bool) (t : List Nat) : TG := match k, t with
  | true, t => gTup K t.length (gNs t)
  | false, [i] => gName i
  | false, _ => fun _ _ _ _ => False
theorem gNs_ok {K : PySem.W.Frag} {p : List Addr} {H : Hp} {Q : Sg → Hp → Prop} : ∀ {t : List Nat} {l : List W} {vs : List V} {s s' : M2.Env} {τ : Sg} {A : Nat → Prop}, RWs K p H l vs → setAll t l s = some s' → ErX K p H A s τ →
    (∀ τ', ErX K p H (fun j => A j ∧ j ∉ t) s' τ' → (∀ own, (∀ i ∈ t, i ∈ own) → wipe τ' own = wipe τ own) → Q τ' H) → gNs t vs τ H Q
  | [], [], _, s, s', τ, A, .nil, e, er, h => by
    cases e
    exact ⟨rfl, h τ (er.imp fun i a => ⟨a, by simp⟩) fun _ _ => rfl⟩
  | i :: t, w :: l, _, s, s', τ, A, .cons r rs, e, er, h => by
    refine ⟨_, _, rfl, ?_⟩
    refine gNs_ok rs e (er.set r i) fun τ' er' hw => h τ' (er'.imp fun j z => ⟨z.1.1, ?_⟩) fun own ho => ?_
    · simp only [List.mem_cons, not_or]; exact ⟨z.1.2, z.2⟩
    · rw [hw own fun j hj => ho j (by simp [hj]), wipe_set (ho i (by simp))]
  | [], _ :: _, _, _, _, _, _, .cons _ _, e, _, _ => by cases e
  | _ :: _, [], _, _, _, _, _, .nil, e, _, _ => by cases e
theorem setAll_len : ∀ {t : List Nat} {l : List W} {s s' : M2.Env}, setAll t l s = some s' → l.length = t.length
  | [], [], _, _, _ => rfl
  | _ :: t, _ :: l, _, _, e => congrArg (· + 1) (setAll_len (t := t) (l := l) e)
  | [], _ :: _, _, _, e => by cases e
  | _ :: _, [], _, _, e => by cases e
theorem gK_ok {K : PySem.W.Frag} {p : List Addr} {H : Hp} {Q : Sg → Hp → Prop} {k : Bool} {t : List Nat} {w : W} {v : V} {s s' : M2.Env} {τ : Sg} {A : Nat → Prop} (r : RW K p H w v) (e : setT k t w s = some s') (er : ErX K p H A s τ)
    (h : ∀ τ', ErX K p H (fun j => A j ∧ j ∉ t) s' τ' → (∀ own, (∀ i ∈ t, i ∈ own) → wipe τ' own = wipe τ own) → Q τ' H) : gK K k t v τ H Q := by
  unfold setT at e
  cases k with
  | true =>
    rw [if_pos rfl] at e
    split at e
    · cases r with
      | tup hl ql => exact ⟨_, _, rfl, hl, by rw [← ql.length, setAll_len e], gNs_ok ql e er h⟩
    · cases e
  | false =>
    rw [if_neg Bool.false_ne_true] at e
    match t, e, h with
    | [i], e, h =>
      cases e
      exact h _ ((er.set r i).imp fun j z => ⟨z.1, by simpa using z.2⟩) fun own ho => wipe_set (ho i (by simp))
    | [], e, _ => cases e
    | _ :: _ :: _, e, _ => cases e
theorem ixOf_get {x : Str} : ∀ {N : List Str} {i : Nat}, ixOf x N = some i → N[i]? = some x
  | [], _, h => by cases h
  | y :: N, i, h => by
    simp only [ixOf] at h
    split at h
    · rename_i e; cases h; rw [e]; rfl
    · split at h
      · rename_i j e; cases h; simpa using ixOf_get e
      · cases h
theorem g_name (g : GOk nm Ek c C X sc) {x : Str} {p : Pos} {i : Nat} (hl : isLoc sc x = true) (hi : ixOf x c.N = some i) : PG X (.Name x p) (gName i) :=
  pg_name g.nd (by rw [g.N]; exact ixOf_get hi) (g.loc x hl).1 (g.loc x hl).2
theorem gs_ok (g : GOk nm Ek c C X sc) : ∀ {es : List Expr} {t : List Nat}, es.all (nameLoc sc) = true → allO (nameIx c) es = some t → PGs X es (gNs t) ∧ (assignEach es X.env).length = t.length ∧ (assignEach es X.env).findIdx? (·.1) = none
  | [], t, _, h => by cases h; exact ⟨pgs_nil, rfl, rfl⟩
  | e :: es, t, hl, h => by
    simp only [List.all_cons, Bool.and_eq_true] at hl
    simp only [allO] at h
    split at h
    · rename_i i h1
      split at h
      · rename_i r h2
        cases h
        cases e with
        | Name x p =>
          obtain ⟨h3, h4, h5⟩ := gs_ok g hl.2 h2
          refine ⟨pgs_cons (g_name g hl.1 h1) h3, ?_, ?_⟩
          · show (assignEach es X.env).length + 1 = r.length + 1
            rw [h4]
          · show List.findIdx? (·.1) ((false, assign (.Name x p) X.env) :: assignEach es X.env) = none
            rw [List.findIdx?_cons]
            simp [h5]
        | _ => cases h1
      · cases h
    · cases h
/-- a for's or a comprehension's target -/
theorem tgt_ok (g : GOk nm Ek c C X sc) {e : Expr} {k : Bool} {t : List Nat} (hl : locTgt sc e = true) (h : tgtOf c e = some (k, t)) : PG X e (gK X.K k t) := by
  cases e with
  | Name x p =>
    simp only [tgtOf] at h
    cases q : ixOf x c.N with
    | none => rw [q] at h; cases h
    | some i =>
      rw [q] at h
      cases h
      exact g_name g hl q
  | Tuple es k2 p =>
    simp only [tgtOf] at h
    cases q : allO (nameIx c) es with
    | none => rw [q] at h; cases h
    | some r =>
      rw [q] at h
      cases h
      obtain ⟨h1, h2, h3⟩ := gs_ok g hl q
      exact pg_tup g.calm h1 h2 h3
  | _ => cases h
end
end M2

namespace M2
open PySem PySem.Spec PyProof.Rows L2
section
variable {nm : Nm} {X : L2.Cx} {Ek : XK} {c : CS} {C : Ctx} {sc : Scope}
/-! ### a comprehension's turns -/
theorem upd_self {H : Hp} {a : Addr} {u : HO} (e : H a = some u) : upd H a u = H := by
  funext b
  by_cases h : b = a
  · rw [h, upd_same, e]
  · rw [upd_ne h]
theorem go_len {A : Type} {f : W → Hm → M2.R (Option A)} {g : List (Nat × List W)} : ∀ {l : List W} {acc r : List A} {h h' : Hm}, compGo f g l acc h = .ok r h' → acc.length ≤ r.length
  | [], acc, r, h, h', e => by
    simp only [compGo] at e
    split at e
    · cases e; exact Nat.le_refl _
    · cases e
  | x :: l, acc, r, h, h', e => by
    simp only [compGo] at e
    split at e
    · split at e
      · exact Nat.le_trans (by simp) (go_len e)
      · exact go_len e
      · cases e
      · cases e
    · cases e
theorem go_exc {A : Type} {f : W → Hm → M2.R (Option A)} {g : List (Nat × List W)} : ∀ {l : List W} {acc : List A} {h h' : Hm} {c : Nat} {ws : List W}, compGo f g l acc h ≠ .exc c ws h'
  | [], acc, h, h', c, ws, e => by
    simp only [compGo] at e
    split at e <;> cases e
  | x :: l, acc, h, h', c, ws, e => by
    simp only [compGo] at e
    split at e
    · split at e
      · exact go_exc e
      · exact go_exc e
      · cases e
      · cases e
    · cases e
theorem go_short {A B B' : Type} {K : PySem.W.Frag} {G : List Addr → Hp → B → B' → Prop} {p : List Addr} {H : Hp} {f : W → Hm → M2.R (Option A)} {g : List (Nat × List W)} {l : List W} {acc : List A} {h : Hm} {kk : List A → Hm → M2.R B} {Q : B' → Hp → Prop}
    (ok : Ok nm K Ek G p H ((compEnd none (compGo f g l acc h)).then kk) Q) : acc.length ≤ line := by
  cases e : compGo f g l acc h with
  | ok r h' =>
    rw [e] at ok
    simp only [compEnd] at ok
    by_cases hz : r.length ≤ line
    · exact Nat.le_trans (go_len e) hz
    · rw [if_neg hz] at ok; exact ok.elim
  | exc c ws h' => exact absurd e go_exc
  | bad => rw [e] at ok; exact ok.elim
/-- the loop of a comprehension: D the new list, beside the trees; kk what comes behind -/
theorem lc_loop {σ : Sg} {s : M2.Env} {p1 : List Addr} {h1 : Hm} {H1 : Hp} {q : Src} {J : L2.It} {k : Bool} {t own : List Nat} {dc : DT} {de : DV} {B : Type} {GG : List Addr → Hp → B → V → Prop} {kk : List W → Hm → R B} {Q : VK} {D : Addr}
    (hun : q.un = none) (ho : ∀ i ∈ own, i ∈ t) (ho2 : ∀ i ∈ t, i ∈ own) (si : Sim nm X.K p1 h1 H1) (er : Er X.K p1 H1 s σ) (wk : Wk nm X.K p1 H1 q J) (hD : H1 D = none)
    (ok : Ok nm X.K Ek GG p1 H1 ((compRun (compTurn k t dc de s) q h1).then kk) Q)
    (fin : ∀ p' h' H' l vs, Xt X.K p1 H1 p' H' → Sim nm X.K p' h' H' → D ∉ p' → H' D = some (.lst vs) → RWs X.K p' H' l vs → Ok nm X.K Ek GG p1 H1 (kk l h') Q → Q (.ref D) H') :
    ∃ W : Nat → Nat → Hp → Prop, (∃ m, W 0 m (upd H1 D (.lst []))) ∧ ∀ i m H, W i m H →
      (J.stop i H ∧ Q (.ref D) H) ∨ (J.go i H ∧ ∃ Nx : Hp → Prop, (∀ H', Nx H' → ∃ m', m' < m ∧ W (i + 1) m' H') ∧ ∀ x H', J.yld i H x H' → gK X.K k t x (wipe σ own) H' fun σ2 H2 => wipe σ2 own = wipe σ own ∧ M2.tB nm X.K NoE dc σ2 H2 fun b H3 =>
        if b = true then tV nm X.K NoE de σ2 H3 fun y H4 => ∃ acc, H4 D = some (.lst acc) ∧ acc.length < sizeLine ∧ Nx (upd H4 D (.lst (acc ++ [y]))) else Nx H3) := by
  have e0 : compRun (compTurn k t dc de s) q h1 = compEnd none (compGo (compTurn k t dc de s) q.gs q.its [] h1) := by unfold compRun; rw [hun]
  rw [e0] at ok
  let Pv : Nat → Hp → Prop := fun i H => ∃ p' h' acc vs, Xt X.K p1 H1 p' H ∧ Sim nm X.K p' h' H ∧ D ∉ p' ∧ H D = some (.lst vs) ∧ RWs X.K p' H acc vs ∧ vs.length ≤ i ∧
    Ok nm X.K Ek GG p1 H1 ((compEnd none (compGo (compTurn k t dc de s) q.gs (q.its.drop i) acc h')).then kk) Q
  have np : D ∉ p1 := fun z => by obtain ⟨v, hv⟩ := si.mem z; rw [hD] at hv; cases hv
  have xb : Xt X.K p1 H1 p1 (upd H1 D (.lst [])) := Xt.beside hD
  refine ⟨fun i m H => m = q.its.length - i ∧ i ≤ q.its.length ∧ Pv i H, ⟨q.its.length, by simp, Nat.zero_le _, p1, h1, [], [], xb, si.beside hD, np, upd_same, .nil, Nat.le_refl _, ok⟩, ?_⟩
  rintro i m H ⟨rfl, hi, p', h', acc, vs, x, sm, nd, hd, ra, hv, ok⟩
  by_cases hlt : i < q.its.length
  · -- a turn
    have hdr : q.its.drop i = q.its[i] :: q.its.drop (i + 1) := List.drop_eq_getElem_cons hlt
    rw [hdr] at ok
    simp only [compGo] at ok
    cases hg : okG q.gs h' with
    | false => rw [hg] at ok; exact ok.elim
    | true =>
      rw [hg, if_pos rfl] at ok
      refine .inr ⟨wk.go i p' H h' x sm hg hlt, Pv (i + 1), fun H' p => ⟨q.its.length - (i + 1), by omega, rfl, hlt, p⟩, fun y H' yl => ?_⟩
      obtain ⟨x2, s2, r2⟩ := wk.yld i p' H h' y H' q.its[i] x sm hg (List.getElem?_eq_getElem hlt) yl
      have xx := x.trans x2
      obtain ⟨hd2, nd2⟩ := x2.stay hd nd
      unfold compTurn at ok
      cases hs : setT k t q.its[i] s with
      | none => rw [hs] at ok; exact ok.elim
      | some s' =>
        rw [hs] at ok
        simp only at ok
        refine gK_ok r2 hs ((er.mono xx).wiped own) fun τ et hw => ⟨(hw own ho2).trans (wipe_wipe _ _), ?_⟩
        have er' : Er X.K p' H' s' τ := et.er fun j z => z.2 (ho j z.1)
        refine ⟨p', s', h', s2, er', ?_⟩
        cases hc : dc s' h' with
        | bad => rw [hc] at ok; exact ok.elim
        | exc c ws h3 => rw [hc] at ok; exact ok.elim
        | ok b h3 =>
          rw [hc] at ok
          intro p3 H3 b' x3 s3 eb
          cases (show b = b' from eb)
          obtain ⟨hd3, nd3⟩ := x3.stay hd2 nd2
          cases b with
          | false =>
            rw [if_neg Bool.false_ne_true]
            exact ⟨p3, h3, acc, vs, xx.trans x3, s3, nd3, hd3, ra.to (x2.trans x3), Nat.le_succ_of_le hv, ok⟩
          | true =>
            rw [if_pos rfl]
            simp only at ok
            refine ⟨p3, s', h3, s3, er'.mono x3, ?_⟩
            cases hv2 : de s' h3 with
            | bad => rw [hv2] at ok; exact ok.elim
            | exc c ws h4 => rw [hv2] at ok; exact ok.elim
            | ok w h4 =>
              rw [hv2] at ok
              intro p4 H4 y4 x4 s4 r4
              obtain ⟨hd4, nd4⟩ := x4.stay hd3 nd3
              have mu : Mut (H4 D) := by rw [hd4]; exact trivial
              have rr : RWs X.K p4 H4 (acc ++ [w]) (vs ++ [y4]) := (ra.to ((x2.trans x3).trans x4)).append (.cons r4 .nil)
              have xw : Xt X.K p1 H1 p4 (upd H4 D (.lst (vs ++ [y4]))) := Xt.back hD ((xx.trans x3).trans x4) nd4 mu
              have kp : Kp X.K H4 (upd H4 D (.lst (vs ++ [y4]))) := Kp.write mu
              have lz := go_short ok
              rw [rr.length, List.length_append, List.length_singleton, line_eq] at lz
              refine ⟨vs, hd4, lz, p4, h4, acc ++ [w], vs ++ [y4], xw, ?_, nd4, upd_same, rr.mono (List.prefix_refl _) kp, by rw [List.length_append, List.length_singleton]; omega, ok⟩
              refine ⟨s4.len, s4.nd, fun j o b e1 e2 => (s4.at_ j o b e1 e2).mono (List.prefix_refl _) kp (upd_ne fun z => nd4 (z ▸ List.mem_of_getElem? e2))⟩
  · have e : i = q.its.length := by omega
    subst e
    rw [List.drop_length] at ok
    simp only [compGo] at ok
    cases hg : okG q.gs h' with
    | false => rw [hg] at ok; exact ok.elim
    | true =>
      rw [hg, if_pos rfl] at ok
      refine .inl ⟨wk.stop _ p' H h' x sm hg (Nat.le_refl _), ?_⟩
      simp only [compEnd] at ok
      by_cases hz : acc.length ≤ line
      · rw [if_pos hz] at ok
        exact fin p' h' H acc vs x sm nd hd ra ok
      · rw [if_neg hz] at ok; exact ok.elim
end
end M2

namespace M2
open PySem PySem.Spec PyProof.Rows L2
section
variable {nm : Nm} {X : L2.Cx} {Ek : XK} {c : CS} {C : Ctx} {sc : Scope}
theorem src_un {it : M2.It} {x y : W} {h : Hm} {q : Src} (e : src it x y h = some q) : q.un = none ∧ q.h = h := by
  unfold src at e
  repeat' split at e
  all_goals first
    | (cases e; exact ⟨rfl, rfl⟩)
    | cases e
theorem srcV_un {it : M2.It} {x y : W} {h h' : Hm} {q : Src} (e : srcV it x y h = .ok q h') : q.un = none ∧ q.h = h' := by
  unfold srcV at e
  split at e
  · rename_i q' e2
    cases e
    exact ⟨(src_un e2).1, rfl⟩
  · cases e
theorem e_lc (g : GOk nm Ek c C X sc) {elt tg iter : Expr} {ifs : List Expr} {scope : Scope} {pos : Pos} {k : Bool} {t : List Nat} {it : M2.It} {da db : DV} {dc : DT} {de : DV}
    (hblk : L2.blkC c.N sc scope (ownOf c scope) = true) (ho : ((ownOf c scope).all fun p => t.contains p.2) = true) (ho2 : (t.all fun i => ((ownOf c scope).map (·.2)).contains i) = true) (hl : locTgt scope tg = true) (htg : tgtOf c tg = some (k, t))
    (hi : PI X tg iter (tI nm X.K Ek it da db)) (hs : ∀ x, foldedSetIterable iter X.env x = pure x)
    (ht : ∀ (s : Shared) (H : Hp) (A : Addr) (cl : List (Str × Addr)) (fp : List Addr), PTs (X.blk s H scope (compEnvC scope cl A X.env) fp) ifs (M2.tB nm X.K NoE dc))
    (he : ∀ (s : Shared) (H : Hp) (A : Addr) (cl : List (Str × Addr)) (fp : List Addr), PE (X.blk s H scope (compEnvC scope cl A X.env) fp) elt (tV nm X.K NoE de)) :
    EOk nm Ek X (.ListComp elt [⟨tg, iter, ifs, 0⟩] scope pos) (mkL fun s h => (da s h).then fun x h1 => (db s h1).then fun y h2 => (srcV it x y h2).then (compRun (compTurn k t dc de s))) := by
  have o1 : ∀ i ∈ (ownOf c scope).map (·.2), i ∈ t := fun i hi => by
    obtain ⟨p, hp, rfl⟩ := List.mem_map.mp hi
    simp only [List.all_eq_true] at ho
    simpa using ho p hp
  have o2 : ∀ i ∈ t, i ∈ (ownOf c scope).map (·.2) := fun i hi => by
    simp only [List.all_eq_true] at ho2
    have := ho2 i hi
    simpa using this
  have base := pe_lc (pos := pos) g.calm g.nd hi (g.bok hblk) (fun s H A cl fp => show PG _ tg (gK X.K k t) from tgt_ok (g.blk scope s H A cl fp) hl htg) ht he hs
  have un : ∀ {s h q h1}, ((da s h).then fun x h1 => (db s h1).then fun y h2 => srcV it x y h2) = .ok q h1 → q.un = none := fun e => by
    obtain ⟨_, _, _, e1⟩ := then_ok e
    obtain ⟨_, _, _, e2⟩ := then_ok e1
    exact (srcV_un e2).1
  have hv : PE X (.ListComp elt [⟨tg, iter, ifs, 0⟩] scope pos) (tV nm X.K Ek fun s h => ((da s h).then fun x h1 => (db s h1).then fun y h2 => (srcV it x y h2).then (compRun (compTurn k t dc de s))).then newL) := by
    refine PEi base ?_
    rintro σ H Q ⟨p, s, h, si, er, ok⟩
    have ok : Ok nm X.K Ek (GV X.K) p H (((da s h).then fun x h1 => (db s h1).then fun y h2 => srcV it x y h2).then fun q h3 => (compRun (compTurn k t dc de s) q h3).then newL) Q := by
      simp only [then_assoc] at ok ⊢
      exact ok
    refine ⟨p, s, h, si, er, Ok.then ok fun q h1 p1 H1 J e x1 s1 wk ok1 D hD => ?_⟩
    refine lc_loop (un e) o1 o2 s1 (er.mono x1) wk hD ok1 fun p' h' H' l vs x sm nd hd q okk => ?_
    have mu : Mut (H' D) := by rw [hd]; exact trivial
    have xx : Xt X.K p1 H1 (p' ++ [D]) (upd H' D (.lst vs)) := Xt.adopt hD x mu
    have sm2 : Sim nm X.K (p' ++ [D]) (h' ++ [.lst l]) (upd H' D (.lst vs)) := sm.adopt nd mu ⟨vs, upd_same, q.mono (List.prefix_append _ _) (Kp.write mu)⟩
    rw [upd_self hd] at xx sm2
    exact okk _ _ _ xx sm2 (.ref (by rw [← sm.len]; simp))
  refine ⟨hv, ?_, fun _ => t_of hv fun _ => rfl, fun z => nomatch z⟩
  refine PEi base ?_
  rintro σ H Q ⟨p, s, h, si, er, ok⟩
  have ok : Ok nm X.K Ek (GRw X.K true) p H (((da s h).then fun x h1 => (db s h1).then fun y h2 => srcV it x y h2).then fun q h3 => (compRun (compTurn k t dc de s) q h3).then fun l h4 => .ok l h4) Q := by
    have e : (((da s h).then fun x h1 => (db s h1).then fun y h2 => srcV it x y h2).then fun q h3 => (compRun (compTurn k t dc de s) q h3).then fun l h4 => .ok l h4) = (mkL fun s h => (da s h).then fun x h1 => (db s h1).then fun y h2 => (srcV it x y h2).then (compRun (compTurn k t dc de s))).l s h := by
      simp only [then_assoc, mkL]
      have e2 : ∀ (q : Src) (h3 : Hm), ((compRun (compTurn k t dc de s) q h3).then fun l h4 => .ok l h4) = compRun (compTurn k t dc de s) q h3 := fun q h3 => by
        cases compRun (compTurn k t dc de s) q h3 <;> rfl
      simp only [e2]
    rw [e]
    exact ok
  refine ⟨p, s, h, si, er, Ok.then ok fun q h1 p1 H1 J e x1 s1 wk ok1 D hD => ?_⟩
  exact lc_loop (un e) o1 o2 s1 (er.mono x1) wk hD ok1 fun p' h' H' l vs x sm nd hd q okk => okk p' H' (.ref D) x sm ⟨D, vs, rfl, .inl (SqL.of hd), q⟩
/-! ### the rules of a text's expressions -/
theorem allO_star {f : Expr → Option E} (hf : ∀ e d, f e = some d → notStar e = true) : ∀ {es : List Expr} {ds : List E}, allO f es = some ds → Stars es
  | [], _, _ => fun _ z => nomatch z
  | e :: es, ds, h => by
    simp only [allO] at h
    split at h
    · rename_i d h1
      split at h
      · rename_i r h2
        intro y hy
        rcases List.mem_cons.mp hy with rfl | hy
        · exact hf _ _ h1
        · exact allO_star hf h2 y hy
      · cases h
    · cases h
theorem a_all {f : Expr → Option E} (hf : ∀ e d, f e = some d → notStar e = true) (hv : ∀ e d, f e = some d → PE X e (tV nm X.K Ek (den C d).v)) : ∀ {es : List Expr} {ds : List E}, allO f es = some ds → PA X es (tLs nm X.K Ek (denL C ds))
  | [], ds, h => by
    cases h
    show PA X [] (tLs nm X.K Ek (denL C []))
    have : denL C [] = fun _ h => M2.R.ok [] h := by funext s h; rw [denL]
    rw [this]
    exact a_nil
  | e :: es, ds, h => by
    simp only [allO] at h
    split at h
    · rename_i d h1
      split at h
      · rename_i r h2
        cases h
        have : denL C (d :: r) = fun s h => ((den C d).v s h).then fun x h1 => (denL C r s h1).then fun ws h2 => .ok (x :: ws) h2 := by funext s h; rw [denL]
        rw [this]
        exact a_cons (hv e d h1) (a_all hf hv h2) (star1 (hf e d h1) es _)
      · cases h
    · cases h
theorem opt2_some {A B D : Type} {a : Option A} {b : Option B} {k : A → B → D} {d : D} (h : opt2 a b k = some d) : ∃ x y, a = some x ∧ b = some y ∧ d = k x y := by
  cases a with
  | none => cases h
  | some x =>
    cases b with
    | none => cases h
    | some y => cases h; exact ⟨x, y, rfl, rfl, rfl⟩
theorem map_some {A B : Type} {a : Option A} {f : A → B} {d : B} (h : a.map f = some d) : ∃ x, a = some x ∧ d = f x := by
  cases a with
  | none => cases h
  | some x => cases h; exact ⟨x, rfl, rfl⟩
end
end M2

namespace M2
open PySem PySem.Spec PyProof.Rows L2
section
variable {nm : Nm} {C : Ctx} {c : CS}
theorem cop_ok {X : L2.Cx} {Ek : XK} {sc : Scope} (g : GOk nm Ek c C X sc) {o : PySem.CmpOp} {p : Cop} (h : copOf o = some p) : OpR X (compareOp o) (rOp nm X.K Ek (cmpop p)) := by
  cases o <;> cases h <;> first
    | exact opr_eq g.un
    | exact opr_ne g.un
    | exact opr_lt
    | exact opr_le
    | exact opr_gt
    | exact opr_ge
    | exact opr_isN
    | exact opr_notN
    | exact opr_in g.un
    | exact opr_notIn g.un
theorem star_of {n : Nat} {sc : Scope} {e : Expr} {d : E} (h : cE c n sc e = some d) : notStar e = true := by
  cases n with
  | zero => cases h
  | succ n =>
    cases e <;> first
      | rfl
      | cases h
/-- a compiled form is no set -/
theorem notSet_of {n : Nat} {sc : Scope} {e : Expr} {d : E} (h : cE c n sc e = some d) : ∀ es k p, e ≠ .Set es k p := by
  cases n with
  | zero => cases h
  | succ n =>
    rintro es k p rfl
    cases h
theorem nomarks {n : Nat} {sc : Scope} {e : Expr} {d : E} (h : cE c n sc e = some d) (op : CmpOp) : behindInMarks op e = false := by
  have := notSet_of h
  cases e <;> first
    | rfl
    | exact absurd rfl (this _ _ _)
theorem nofold {n : Nat} {sc : Scope} {e : Expr} {d : E} (h : cE c n sc e = some d) (env : PySem.Env) (x : Value) : foldedSetIterable e env x = pure x := by
  have := notSet_of h
  cases e <;> first
    | rfl
    | exact absurd rfl (this _ _ _)
theorem plainIx_of {n : Nat} {sc : Scope} {e : Expr} {d : E} (h : cE c n sc e = some d) : PlainIx e := by
  intro o i
  cases n with
  | zero => cases h
  | succ n =>
    cases e <;> first
      | rfl
      | cases h
theorem den_cmp {C : Ctx} {o : Cop} {a b : E} : den C (.cmp o a b) = mkV fun s h => ((den C a).v s h).then fun x h1 => ((den C b).v s h1).then fun y h2 => cmpop o x y h2 := by rw [den]
theorem lits_ok {X : L2.Cx} {Ek : XK} {k : Const} {j : Nat} {p : Pos} {d : E} (h : lits k = some d) : EOk nm Ek X (.Constant k j p) (den C d) := by
  cases k <;> simp only [lits] at h <;> cases h
  · rw [den]; exact mkV_ok (e_con pe_non fun _ _ => .non) (fun _ => rfl) rfl rfl
  · rw [den]; exact mkV_ok (e_con pe_bl fun _ _ => .bl _) (fun _ => rfl) rfl rfl
  · rw [den]; exact mkV_ok (e_con pe_int fun _ _ => .int _) (fun _ => rfl) rfl rfl
  · rename_i z
    rw [den]
    refine mkV_ok (e_con pe_str fun _ _ => ?_) (fun _ => rfl) rfl rfl
    have := RW.str (K := X.K) (p := []) (H := fun _ => none) z.cps.toList
    have e : (⟨z.cps.toList.toArray⟩ : Str) = z := by cases z; simp
    rw [← e]
    exact RW.str z.cps.toList
theorem it_ok {X : L2.Cx} {Ek : XK} {sc : Scope} (g : GOk nm Ek c C X sc) {n : Nat} (ih : ∀ {e d}, cE c n sc e = some d → EOk nm Ek X e (den C d)) {tg iter : Expr} {it : M2.It} {a b : E} (h : cIt (cE c n sc) sc iter = some (it, a, b)) :
    PI X tg iter (tI nm X.K Ek it (den C a).v (den C b).v) ∧ ∀ x, foldedSetIterable iter X.env x = pure x := by
  have nn : ∀ s h, (den C .non).v s h = .ok .non h := fun s h => by rw [den]; rfl
  have seq : ∀ {e : Expr}, (cE c n sc e).map (fun a => (M2.It.seq, a, E.non)) = some (it, a, b) → PI X tg e (tI nm X.K Ek it (den C a).v (den C b).v) ∧ ∀ x, foldedSetIterable e X.env x = pure x := fun h => by
    obtain ⟨d, h1, h2⟩ := map_some h
    cases h2
    exact ⟨i_seq nn (ih h1).v, nofold h1 _⟩
  unfold cIt at h
  split at h
  · rename_i x p e1 pos
    split at h
    · rename_i hx
      obtain ⟨hx, rfl⟩ := hx
      obtain ⟨d, h1, h2⟩ := map_some h
      cases h2
      exact ⟨i_rng1 g nn hx (ih h1).v (star_of h1), fun _ => rfl⟩
    · exact seq h
  · rename_i x p e1 e2 pos
    split at h
    · rename_i hx
      obtain ⟨hx, rfl⟩ := hx
      obtain ⟨d1, d2, h1, h2, h3⟩ := opt2_some h
      cases h3
      exact ⟨i_rng2 g hx (ih h1).v (ih h2).v (star_of h1) (star_of h2), fun _ => rfl⟩
    · exact seq h
  · exact seq h
theorem cE_ok : ∀ (n : Nat) {X : L2.Cx} {Ek : XK} {sc : Scope}, GOk nm Ek c C X sc → ∀ {e : Expr} {d : E}, cE c n sc e = some d → EOk nm Ek X e (den C d)
  | 0, _, _, _, _, _, _, h => by cases h
  | n + 1, X, Ek, sc, g, e, d, h => by
    have ih : ∀ {e d}, cE c n sc e = some d → EOk nm Ek X e (den C d) := fun h => cE_ok n g h
    have ihL : ∀ {es ds}, allO (cE c n sc) es = some ds → PA X es (tLs nm X.K Ek (denL C ds)) ∧ Stars es := fun h => ⟨a_all (fun _ _ => star_of) (fun _ _ h => (ih h).v) h, allO_star (fun _ _ => star_of) h⟩
    have one : ∀ {e d}, cE c n sc e = some d → PA X [e] (tLs nm X.K Ek (denL C [d])) ∧ Stars [e] := fun {e d} h => ihL (es := [e]) (ds := [d]) (by simp only [allO, h])
    cases e with
    | Constant k j p => simp only [cE] at h; exact lits_ok h
    | Name x p =>
      simp only [cE] at h
      split at h
      · rename_i hv
        obtain ⟨i, h1, rfl⟩ := map_some h
        rw [den]
        have hv' := hv
        unfold isVar at hv'
        simp only [Bool.and_eq_true, Bool.not_eq_true'] at hv'
        exact mkV_ok (e_var (by rw [g.N]; exact ixOf_get h1) (g.vis x hv) hv'.1.1 hv'.1.2) (fun _ => rfl) rfl rfl
      · split at h
        · rename_i hg
          obtain ⟨i, h1, rfl⟩ := map_some h
          rw [den]
          cases hc : C.con i with
          | none =>
            refine mkV_ok ⟨fun _ _ _ _ _ _ ⟨_, _, _, _, _, ok⟩ => ?_⟩ (fun _ => rfl) rfl rfl
            simp only [conV, hc] at ok
            exact ok.elim
          | some w =>
            obtain ⟨v, u, m, r, db, rw'⟩ := g.con x i w h1 hc
            have : (fun (_ : M2.Env) h => conV C i h) = fun _ h => .ok w h := by funext s h; simp only [conV, hc]
            rw [this]
            exact mkV_ok (e_con (pe_glob (g.gl x hg) m r db) rw') (fun _ => rfl) rfl rfl
        · cases h
    | BinOp a o b p =>
      simp only [cE] at h
      split at h
      · rename_i o' ho
        obtain ⟨x, y, h1, h2, rfl⟩ := opt2_some h
        rw [den]
        exact mkV_ok (e_bin (opr_bin ho) (ih h1).v (ih h2).v) (fun _ => rfl) rfl rfl
      · cases h
    | UnaryOp o a p =>
      cases o with
      | USub =>
        simp only [cE] at h
        obtain ⟨x, h1, rfl⟩ := map_some h
        rw [den]
        refine mkV_ok (PEi (pe_un un_neg (ih h1).v) ?_) (fun _ => rfl) rfl rfl
        rintro σ H Q ⟨p, s, h, si, er, ok⟩
        refine ⟨p, s, h, si, er, ok.then fun w h1 p1 H1 v _ x1 s1 r1 ok1 => ?_⟩
        cases r1 with
        | int i => exact ⟨i, rfl, ok1 p1 H1 _ Xt.refl s1 (.int _)⟩
        | _ => exact ok1.elim
      | Not =>
        simp only [cE] at h
        split at h
        · rename_i hp
          obtain ⟨x, h1, rfl⟩ := map_some h
          rw [den]
          exact e_not (ih h1) hp
        · cases h
      | _ => simp only [cE] at h; cases h
    | Compare a ops bs p =>
      match ops, bs, h with
      | [o], [b], h =>
        simp only [cE] at h
        split at h
        · rename_i o' ho
          split at h
          · obtain ⟨x, y, h1, h2, rfl⟩ := opt2_some h
            rw [den]
            exact e_cmpT (cop_ok g ho) (ih h1).v (ih h2).v (nomarks h2 o)
          · cases h
        · cases h
      | [o, q], [b, d'], h =>
        simp only [cE] at h
        split at h
        · rename_i o1 o2 x y z ho hq h1 h2 h3
          cases h
          rw [den]
          exact e_cmp2T (cop_ok g ho) (cop_ok g hq) (ih h1).v (ih h2).v (ih h3).v (nomarks h3 q)
        · cases h
      | [], _, h => simp only [cE] at h; cases h
      | _ :: _ :: _ :: _, _, h => simp only [cE] at h; cases h
      | [_], [], h => simp only [cE] at h; cases h
      | [_], _ :: _ :: _, h => simp only [cE] at h; cases h
      | [_, _], [], h => simp only [cE] at h; cases h
      | [_, _], [_], h => simp only [cE] at h; cases h
      | [_, _], _ :: _ :: _ :: _, h => simp only [cE] at h; cases h
    | BoolOp o es p =>
      match es, h with
      | [a, b], h =>
        simp only [cE] at h
        split at h
        · rename_i hp
          obtain ⟨x, y, h1, h2, rfl⟩ := opt2_some h
          cases o with
          | And => rw [den]; exact e_and2 (ih h1) (ih h2) hp.1 hp.2
          | Or => rw [den]; exact e_or2 (ih h1) (ih h2) hp.1 hp.2
        · cases h
      | a :: b :: q :: r, h =>
        simp only [cE] at h
        split at h
        · rename_i hp
          obtain ⟨x, y, h1, h2, rfl⟩ := opt2_some h
          cases o with
          | And => rw [den]; exact e_and3 (ih h1) (ih h2) hp
          | Or => rw [den]; exact e_or3 (ih h1) (ih h2) hp
        · cases h
      | [], h => simp only [cE] at h; cases h
      | [_], h => simp only [cE] at h; cases h
    | IfExp t a b p =>
      simp only [cE] at h
      split at h
      · rename_i hp
        split at h
        · rename_i x y z h1 h2 h3
          cases h
          rw [den]
          exact e_ite (ih h1) (ih h2) (ih h3) hp
        · cases h
      · cases h
    | Tuple es k p =>
      simp only [cE] at h
      obtain ⟨ds, h1, rfl⟩ := map_some h
      rw [den]
      exact e_tup (ihL h1).1
    | List es p =>
      simp only [cE] at h
      obtain ⟨ds, h1, rfl⟩ := map_some h
      rw [den]
      exact e_lst (ihL h1).1
    | Dict ks vs p =>
      match ks, vs, h with
      | [], [], h =>
        simp only [cE] at h
        cases h
        rw [den]
        have : denL C [] = fun (_ : M2.Env) h => M2.R.ok [] h := by funext s h; rw [denL]
        rw [this]
        exact e_dct0
      | [some k], [v], h =>
        simp only [cE] at h
        obtain ⟨x, y, h1, h2, rfl⟩ := opt2_some h
        rw [den]
        have e1 : denL C [] = fun (_ : M2.Env) h => M2.R.ok [] h := by funext s h; rw [denL]
        have e2 : denL C [y] = fun s h => ((den C y).v s h).then fun x h1 => (M2.R.ok [] h1).then fun ws h2 => .ok (x :: ws) h2 := by funext s h; rw [denL, e1]
        have e3 : denL C [x, y] = fun s h => ((den C x).v s h).then fun x h1 => (((den C y).v s h1).then fun x h1 => (M2.R.ok [] h1).then fun ws h2 => .ok (x :: ws) h2).then fun ws h2 => .ok (x :: ws) h2 := by funext s h; rw [denL, e2]
        rw [e3]
        exact e_dct1 (ih h1).v (ih h2).v
      | [], _ :: _, h => simp only [cE] at h; cases h
      | [some _], [], h => simp only [cE] at h; cases h
      | [some _], _ :: _ :: _, h => simp only [cE] at h; cases h
      | [none], _, h => simp only [cE] at h; cases h
      | _ :: _ :: _, _, h => simp only [cE] at h; cases h
    | Subscript a i p =>
      have plain : opt2 (cE c n sc a) (cE c n sc i) E.sub = some d → EOk nm Ek X (.Subscript a i p) (den C d) := fun h => by
        obtain ⟨x, y, h1, h2, rfl⟩ := opt2_some h
        rw [den]
        exact mkV_ok (e_sub ixr (ih h1).v (ih h2).v (plainIx_of h2)) (fun _ => rfl) rfl rfl
      have po : ∀ {o : Option Expr} {q : Bool × E}, optE (cE c n sc) o = some q → PO X o (tPO nm X.K Ek (partD q.1 (den C q.2).v)) := fun {o q} h => by
        cases o with
        | none => cases h; exact o_none
        | some e =>
          obtain ⟨x, h1, rfl⟩ := map_some h
          exact o_some (ih h1).v
      cases i with
      | Slice lo hi st p2 =>
        cases st with
        | none =>
          simp only [cE] at h
          split at h
          · rename_i x y z h1 h2 h3
            cases h
            rw [den]
            exact e_slc (ih h1).v (po h2) (po h3)
          · cases h
        | some st => simp only [cE] at h; exact plain h
      | _ => simp only [cE] at h; exact plain h
    | ListComp elt gs scope p =>
      cases gs with
      | nil => simp only [cE] at h; cases h
      | cons q gs =>
        obtain ⟨tg, iter, ifs, as⟩ := q
        cases gs with
        | cons _ _ => simp only [cE] at h; cases h
        | nil =>
          cases as with
          | negSucc m => simp only [cE] at h; cases h
          | ofNat m =>
            cases m with
            | succ m => simp only [cE] at h; cases h
            | zero =>
              have h : cE c (n + 1) sc (.ListComp elt [⟨tg, iter, ifs, 0⟩] scope p) = some d := h
              show EOk nm Ek X (.ListComp elt [⟨tg, iter, ifs, 0⟩] scope p) (den C d)
              simp only [cE] at h
              split at h
              · rename_i k t x y h1 h2 h3
                split at h
                · rename_i hk
                  split at h
                  · rename_i it a b h4
                    cases h
                    rw [den]
                    obtain ⟨hi, hf⟩ := it_ok g (tg := tg) ih h4
                    refine e_lc g hk.1 hk.2.1 hk.2.2.1 hk.2.2.2 h1 hi hf (fun s H A cl fp => ?_) fun s H A cl fp => (cE_ok n (g.blk scope s H A cl fp) h2).v
                    match ifs, h3 with
                    | [], h3 =>
                      cases h3
                      refine ⟨fun pins s σ H Q I ⟨p, s', h, si, er, ok⟩ => pts_nil.run pins s σ H Q I ?_⟩
                      rw [den] at ok
                      exact ok p H true Xt.refl si rfl
                    | [te], h3 =>
                      simp only at h3
                      split at h3
                      · rename_i hp
                        exact pts_one ((cE_ok n (g.blk scope s H A cl fp) h3).t hp)
                      · cases h3
                    | _ :: _ :: _, h3 => cases h3
                  · cases h
                · cases h
              · cases h
    | Call f es ks p =>
      cases ks with
      | cons _ _ => cases f <;> (try cases es with | nil => skip | cons _ es => cases es) <;> simp only [cE] at h <;> cases h
      | nil =>
        cases f with
        | Name x xp =>
          simp only [cE] at h
          split at h
          · rename_i hx
            split at h
            · rename_i i hf
              obtain ⟨ds, h1, rfl⟩ := map_some h
              rw [den]
              refine e_call g hx hf (ihL h1).1 (ihL h1).2 fun e0 => ?_
              subst e0
              cases h1
              funext s h
              rw [denL]
            · split at h
              · rename_i hi
                have hi : x = "isinstance" := of_decide_eq_true hi
                subst hi
                split at h
                · rename_i a ts k2 p2
                  obtain ⟨x, y, h1, h2, rfl⟩ := opt2_some h
                  rw [den]
                  exact e_isiT g hx (ih h1).v (star_of h1) h2
                · rename_i a t _
                  obtain ⟨x, y, h1, h2, rfl⟩ := opt2_some h
                  rw [den]
                  exact e_isi1 g hx (ih h1).v (star_of h1) h2
                · cases h
              · split at h
                · rename_i a
                  split at h
                  · rename_i b hb
                    obtain ⟨x, h1, rfl⟩ := map_some h
                    rw [den]
                    exact e_bl g hx hb (ih h1).l (star_of h1)
                  · split at h
                    · rename_i b hb
                      obtain ⟨x, h1, rfl⟩ := map_some h
                      rw [den]
                      exact e_b1 g hx hb (one h1).1 (one h1).2
                    · cases h
                · rename_i a e2
                  split at h
                  · rename_i b hb
                    obtain ⟨x, y, h1, h2, rfl⟩ := opt2_some h
                    rw [den]
                    have := ihL (es := [a, e2]) (ds := [x, y]) (by simp only [allO, h1, h2])
                    exact e_b1 g hx hb this.1 this.2
                  · cases h
                · cases h
          · cases h
        | Attribute o m ap =>
          match es, h with
          | [a], h =>
            simp only [cE] at h
            split at h
            · rename_i hk
              split at h
              · rename_i mt hm
                obtain ⟨x, y, h1, h2, rfl⟩ := opt2_some h
                unfold mtOf at hm
                have dm : ∀ m, m ≠ .join → den C (.met m x [y]) = mkV fun s h => ((den C x).v s h).then fun x h1 => recv m x h1 (((den C y).v s h1).then (met1 m x)) := fun m hm => by
                  cases m <;> first
                    | exact absurd rfl hm
                    | simp [den]
                split at hm
                · rename_i e1; subst e1; cases hm
                  rw [dm _ (by decide)]
                  refine e_m1 F.plainAttrs_list F.slot_list_append F.type_list_append mr_append (fun p H h w v si r e => ?_) (ih h1).v (ih h2).v hk.1 (star_of h2) hk.2
                  cases r with
                  | ref hr =>
                    simp only [isRecv] at e
                    cases q : asL h _ with
                    | none => rw [q] at e; cases e
                    | some l =>
                      obtain ⟨vs, e1, _⟩ := si.lst hr (asL_lst q)
                      exact .inl ⟨rfl, vs, SqL.of e1⟩
                  | _ => cases e
                · split at hm
                  · rename_i e1; subst e1; cases hm
                    rw [dm _ (by decide)]
                    exact e_m1 F.plainAttrs_str F.slot_str_split F.type_str_split mr_split (fun p H h w v si r e => recv_str (.inl rfl) r e) (ih h1).v (ih h2).v hk.1 (star_of h2) hk.2
                  · split at hm
                    · rename_i e1; subst e1; cases hm
                      rw [dm _ (by decide)]
                      exact e_m1 F.plainAttrs_str F.slot_str_strip F.type_str_strip mr_strip (fun p H h w v si r e => recv_str (.inr (.inl rfl)) r e) (ih h1).v (ih h2).v hk.1 (star_of h2) hk.2
                    · split at hm
                      · rename_i e1; subst e1; cases hm
                        have dj : den C (.met .join x [y]) = mkV fun s h => ((den C x).v s h).then fun x h1 => recv .join x h1 (((den C y).l s h1).then (joinop x)) := by simp [den]
                        rw [dj]
                        exact e_join (ih h1).v (ih h2).l hk.1 (star_of h2) hk.2
                      · cases hm
              · cases h
            · cases h
          | [], h => simp only [cE] at h; cases h
          | _ :: _ :: _, h => simp only [cE] at h; cases h
        | _ => simp only [cE] at h; cases h
    | _ => simp only [cE] at h; cases h
end
end M2

namespace M2
open PySem PySem.Spec PyProof.Rows L2
/-! ### statements -/
/-- the ends of a statement -/
def OkS (nm : Nm) (K : PySem.W.Frag) (Ek : XK) (p : List Addr) (H : Hp) (r : RS) (D : Ends) : Prop := match r with
  | .nx s h' => ∀ p' H' σ', Xt K p H p' H' → Sim nm K p' h' H' → Er K p' H' s σ' → D.nx σ' H'
  | .rt w h' => ∀ p' H' v, Xt K p H p' H' → Sim nm K p' h' H' → RW K p' H' w v → D.rt v H'
  | .bk s h' => ∀ p' H' σ', Xt K p H p' H' → Sim nm K p' h' H' → Er K p' H' s σ' → D.bk σ' H'
  | .ct s h' => ∀ p' H' σ', Xt K p H p' H' → Sim nm K p' h' H' → Er K p' H' s σ' → D.ct σ' H'
  | .exc c ws h' _ => ∀ p' H' d, Xt K p H p' H' → Sim nm K p' h' H' → XR nm K p' H' c ws d → Ek (.ref (nm.cls c)) d H'
  | .bad => False
def tS (nm : Nm) (K : PySem.W.Frag) (Ek : XK) (ev : M2.Env → Hm → RS) : TS := fun D σ H => ∃ p s h, Sim nm K p h H ∧ Er K p H s σ ∧ OkS nm K Ek p H (ev s h) D
section
variable {nm : Nm} {Ek : XK} {K : PySem.W.Frag} {p p1 : List Addr} {H H1 : Hp} {D D' : Ends}
theorem OkS.from {r : RS} (x : Xt K p H p1 H1) (h : OkS nm K Ek p H r D) : OkS nm K Ek p1 H1 r D := by
  cases r with
  | nx s h' => exact fun p' H' b x' s' g => h p' H' b (x.trans x') s' g
  | rt w h' => exact fun p' H' b x' s' g => h p' H' b (x.trans x') s' g
  | bk s h' => exact fun p' H' b x' s' g => h p' H' b (x.trans x') s' g
  | ct s h' => exact fun p' H' b x' s' g => h p' H' b (x.trans x') s' g
  | exc c ws h' s => exact fun p' H' d x' s' g => h p' H' d (x.trans x') s' g
  | bad => exact h
/-- a part of a statement, then the rest -/
theorem OkS.of {A B : Type} {G : List Addr → Hp → A → B → Prop} {r : M2.R A} {s : M2.Env} {k : A → Hm → RS} {Q' : B → Hp → Prop} (h : OkS nm K Ek p H (RS.ofR r s k) D)
    (hk : ∀ a h1 p1 H1 b, r = .ok a h1 → Xt K p H p1 H1 → Sim nm K p1 h1 H1 → G p1 H1 a b → OkS nm K Ek p1 H1 (k a h1) D → Q' b H1) : Ok nm K Ek G p H r Q' := by
  cases r with
  | ok a h' => exact fun p' H' b x' s' g => hk a h' p' H' b rfl x' s' g (OkS.from x' h)
  | exc c ws h' => exact h
  | bad => exact h
/-- one statement, then the rest -/
theorem OkS.seq {r : RS} {k : M2.Env → Hm → RS} (h : OkS nm K Ek p H (r.seq k) D) (hn : ∀ s h1 p1 H1 σ1, Xt K p H p1 H1 → Sim nm K p1 h1 H1 → Er K p1 H1 s σ1 → OkS nm K Ek p1 H1 (k s h1) D → D'.nx σ1 H1) (e1 : D'.rt = D.rt) (e2 : D'.bk = D.bk) (e3 : D'.ct = D.ct) : OkS nm K Ek p H r D' := by
  cases r with
  | nx s h' => exact fun p' H' b x' s' g => hn s h' p' H' b x' s' g (OkS.from x' h)
  | rt w h' => exact fun p' H' b x' s' g => by rw [e1]; exact h p' H' b x' s' g
  | bk s h' => exact fun p' H' b x' s' g => by rw [e2]; exact h p' H' b x' s' g
  | ct s h' => exact fun p' H' b x' s' g => by rw [e3]; exact h p' H' b x' s' g
  | exc c ws h' s => exact h
  | bad => exact h
end
structure SOk (nm : Nm) (Ek : XK) (c : CS) (C : Ctx) (X : L2.Cx) (sc : Scope) : Prop where
  g : GOk nm Ek c C X sc
  own : PassesOwn (model X.prog X.w) X.A X.env X.xe
  scope : X.env.scope = sc
  fn : ∀ x, X.fn x = true
  kind : X.env.scope.kind = .function
section
variable {nm : Nm} {X : L2.Cx} {Ek : XK} {c : CS} {C : Ctx} {sc : Scope}
theorem PGi {X : L2.Cx} {e : Expr} {t t' : TG} (h : PG X e t) (i : ∀ v σ H Q, t' v σ H Q → t v σ H Q) : PG X e t' := ⟨fun pins s σ H v u Q I r q => h.run pins s σ H v u Q I r (i v σ H Q q)⟩
/-! ### stores -/
/-- a target's store, by trees -/
def tgA (nm : Nm) (K : PySem.W.Frag) (Ek : XK) (st : W → M2.Env → Hm → RS) : TG := fun v σ H Q => ∃ p s h w, Sim nm K p h H ∧ Er K p H s σ ∧ RW K p H w v ∧ OkS nm K Ek p H (st w s h) { nx := Q, rt := fun _ _ => False }
theorem s_asg {t : Expr} {e : Expr} {pos : Pos} {d : DV} {st : W → M2.Env → Hm → RS} (he : PE X e (tV nm X.K Ek d)) (ht : PG X t (tgA nm X.K Ek st)) (hst : ∀ w s h, (∃ s' h', st w s h = .nx s' h') ∨ st w s h = .bad ∨ ∃ c ws h' s', st w s h = .exc c ws h' s') (hs : swapsWithSole [t] e pos.line X.env = pure false) (hw : swappedStores [t] e X.env = pure none) (h1 : (assignEach [t] X.env).map (·.2) = [assign t X.env]) :
    PS X (.Assign [t] e pos) (tS nm X.K Ek fun s h => RS.ofR (d s h) s fun w h1 => st w s h1) := by
  refine PSi (ps_asg he ht hs hw h1) ?_
  rintro D σ H ⟨p, s, h, si, er, ok⟩
  refine ⟨p, s, h, si, er, ok.of fun w h1 p1 H1 v _ x1 s1 r1 ok1 => ⟨p1, s, h1, w, s1, er.mono x1, r1, ?_⟩⟩
  rcases hst w s h1 with ⟨s', h', e⟩ | e | ⟨c, ws, h', s', e⟩
  · rw [e] at ok1 ⊢; exact ok1
  · rw [e] at ok1; exact ok1.elim
  · rw [e] at ok1 ⊢; exact ok1
theorem tg_var (g : GOk nm Ek c C X sc) {x : Str} {p : Pos} {i : Nat} (hl : isLoc sc x = true) (hi : ixOf x c.N = some i) : PG X (.Name x p) (tgA nm X.K Ek fun w s h => .nx (s.set i (some w)) h) := by
  refine PGi (g_name g hl hi) ?_
  rintro v σ H Q ⟨p, s, h, w, si, er, r, ok⟩
  exact ok p H _ Xt.refl si (er.set r i)
theorem tg_tup (g : GOk nm Ek c C X sc) {es : List Expr} {k : Nat} {p : Pos} {ts : List Nat} (hl : es.all (nameLoc sc) = true) (hi : allO (nameIx c) es = some ts) : PG X (.Tuple es k p) (tgA nm X.K Ek fun w s h => nxE h (setT true ts w s)) := by
  obtain ⟨h1, h2, h3⟩ := gs_ok g hl hi
  refine PGi (pg_tup g.calm h1 h2 h3) ?_
  rintro v σ H Q ⟨p, s, h, w, si, er, r, ok⟩
  cases e : setT true ts w s with
  | none => simp only [nxE, e] at ok; exact ok.elim
  | some s' =>
    simp only [nxE, e] at ok
    have er0 : ErX X.K p H (fun _ => False) s σ := ⟨er.len, fun i w _ q => er.at_ i w q⟩
    exact gK_ok (k := true) r e er0 fun τ et _ => ok p H τ Xt.refl si (et.er fun i z => z.1)
theorem atI_place {n : Nat} {k : Int} {j : Nat} (e : place n k = some j) : seqIndex? k n = some j := (ixN_seq (place_ix e)).1
/-- a list's item is written -/
def rSet (nm : Nm) (K : PySem.W.Frag) : TSet := fun o i v H Q => ∃ p h a b w h', Sim nm K p h H ∧ RW K p H a o ∧ RW K p H b i ∧ RW K p H w v ∧ setItem a b w h = some h' ∧ ∀ H', Xt K p H p H' → Sim nm K p h' H' → Q H'
theorem set_tree : PSet X (rSet nm X.K) := by
  rintro pins s σ H o i v ov iv u Q I ro ri rv ⟨p, h, a, b, w, h', si, ra, rb, rw', e, q⟩
  cases ra with
  | ref hr =>
    simp only [setItem] at e
    split at e
    · rename_i l e1
      cases rb with
      | int k =>
        simp only at e
        split at e
        · rename_i j e2
          cases e
          obtain ⟨vs, h1, ql⟩ := si.lst hr e1
          have x2 : Xt X.K p H p (upd H _ (.lst (vs.set j v))) := Xt.write (List.mem_of_getElem? hr) (mut_lst h1)
          refine set_list pins s σ H _ _ v ov iv u Q I ro ri rv ⟨_, vs, k, j, rfl, rfl, h1, by rw [← ql.length]; exact place_ix e2, ?_⟩
          exact q _ x2 (si.write hr (mut_lst h1) ⟨_, upd_same, (ql.to x2).set j (rw'.to x2)⟩)
        · cases e
      | _ => cases e
    · cases e
  | _ => cases e
theorem tg_sub {o i : Expr} {p : Pos} {eo ei : E} (ho : PE X o (tV nm X.K Ek (den C eo).v)) (hi : PE X i (tV nm X.K Ek (den C ei).v)) (ha : ∀ v, assign (.Subscript o i p) X.env v = (do
      let ov ← holding [v] (eval o X.env)
      let iv ← holding [v, ov] (eval i X.env)
      standAt p
      holding [v, ov, iv] (PySem.setItem ov iv v)
      release [v, ov, iv] [])) : PG X (.Subscript o i p) (tgA nm X.K Ek fun w s h => M2.asg C s (.sub eo ei) w h) := by
  refine PGi (pg_sub ho hi (set_tree (nm := nm)) ha) ?_
  rintro v σ H Q ⟨p, s, h, w, si, er, r, ok⟩
  simp only [M2.asg] at ok
  refine ⟨p, s, h, si, er, ok.of fun a h1 p1 H1 x _ x1 s1 r1 ok1 => ⟨p1, s, h1, s1, er.mono x1, ok1.of fun b h2 p2 H2 y _ x2 s2 r2 ok2 => ?_⟩⟩
  cases e : setItem a b w h2 with
  | none => simp only [nxO, e] at ok2; exact ok2.elim
  | some h' =>
    simp only [nxO, e] at ok2
    exact ⟨p2, h2, a, b, w, h', s2, r1.to x2, r2, (r.to x1).to x2, e, fun H' x3 s3 => ok2 p2 H' σ x3 s3 (((er.mono x1).mono x2).mono x3)⟩
end
end M2

namespace M2
open PySem PySem.Spec PyProof.Rows L2
section
variable {nm : Nm} {X : L2.Cx} {Ek : XK} {c : CS} {C : Ctx} {sc : Scope}
/-! ### small statements -/
theorem s_exp {e : Expr} {pos : Pos} {d : DV} (he : PE X e (tV nm X.K Ek d)) (hs : swapsWith e none pos.line X.env = pure false) : PS X (.Expr e pos) (tS nm X.K Ek fun s h => RS.ofR (d s h) s fun _ h1 => .nx s h1) := by
  refine PSi (ps_expr he hs) ?_
  rintro D σ H ⟨p, s, h, si, er, ok⟩
  exact ⟨p, s, h, si, er, ok.of fun w h1 p1 H1 v _ x1 s1 r1 ok1 => ok1 p1 H1 σ Xt.refl s1 (er.mono x1)⟩
theorem s_ret {e : Expr} {pos : Pos} {d : DV} (he : PE X e (tV nm X.K Ek d)) : PS X (.Return (some e) pos) (tS nm X.K Ek fun s h => RS.ofR (d s h) s fun w h1 => .rt w h1) := by
  refine PSi (ps_ret he) ?_
  rintro D σ H ⟨p, s, h, si, er, ok⟩
  exact ⟨p, s, h, si, er, ok.of fun w h1 p1 H1 v _ x1 s1 r1 ok1 => ok1 p1 H1 v Xt.refl s1 r1⟩
theorem s_retN {pos : Pos} : PS X (.Return none pos) (tS nm X.K Ek fun s h => .rt .non h) := by
  refine PSi ps_retN ?_
  rintro D σ H ⟨p, s, h, si, er, ok⟩
  exact ok p H .non Xt.refl si .non
theorem s_if {e : Expr} {a b : List Stmt} {pos : Pos} {d : DT} {fa fb : M2.Env → Hm → RS} (he : PT X e (M2.tB nm X.K Ek d)) (ha : PSs X a (tS nm X.K Ek fa)) (hb : PSs X b (tS nm X.K Ek fb)) :
    PS X (.If e a b pos) (tS nm X.K Ek fun s h => RS.ofR (d s h) s fun q h1 => match q with
      | true => fa s h1
      | false => fb s h1) := by
  refine PSi (ps_if he ha hb) ?_
  rintro D σ H ⟨p, s, h, si, er, ok⟩
  refine ⟨p, s, h, si, er, ok.of fun q h1 p1 H1 q' _ x1 s1 r1 ok1 => ?_⟩
  cases (show q = q' from r1)
  cases q with
  | true => rw [if_pos rfl]; exact ⟨p1, s, h1, s1, er.mono x1, ok1⟩
  | false => rw [if_neg Bool.false_ne_true]; exact ⟨p1, s, h1, s1, er.mono x1, ok1⟩
theorem ss_nil : PSs X [] (tS nm X.K Ek fun s h => .nx s h) := by
  refine PSsi pss_nil ?_
  rintro D σ H ⟨p, s, h, si, er, ok⟩
  exact ok p H σ Xt.refl si er
theorem ss_cons {st : Stmt} {rest : List Stmt} {f k : M2.Env → Hm → RS} (h1 : PS X st (tS nm X.K Ek f)) (h2 : PSs X rest (tS nm X.K Ek k)) : PSs X (st :: rest) (tS nm X.K Ek fun s h => (f s h).seq k) := by
  refine PSsi (pss_cons h1 h2) ?_
  rintro D σ H ⟨p, s, h, si, er, ok⟩
  exact ⟨p, s, h, si, er, ok.seq (fun s1 h1 p1 H1 σ1 x1 sm er1 ok1 => ⟨p1, s1, h1, sm, er1, ok1⟩) rfl rfl rfl⟩
theorem sw_par {env : PySem.Env} {x y : Str} {px py pt pt2 : Pos} {kt k2 : Nat} {a b : Expr} (hk : env.scope.kind = .function) (hX : env.scope.names.lookup x = some .local) (hY : env.scope.names.lookup y = some .local) (hl : (px.line == py.line) = true) (hne : ¬ x = y) (na : notStar a = true) (nb : notStar b = true)
    (nf : ([a, b].all (foldedForSure 8)) = false) (nc : ([a, b].all (constantsAlone 8)) = false) : swappedStores [.Tuple [.Name x px, .Name y py] kt pt] (.Tuple [a, b] k2 pt2) env = pure (some [x, y]) := by
  have hb : env.blockKind = .function := by unfold Env.blockKind; rw [hk]; rfl
  have kx : env.kindOf x = some .local := hX
  have ky : env.kindOf y = some .local := hY
  have key : ∀ e : Expr, notStar e = true → (match e with | .Starred .. => true | _ => false) = false := fun e h => by
    cases e <;> first
      | rfl
      | (simp [notStar] at h)
  have st : ([a, b].any fun | .Starred .. => true | _ => false) = false := by
    rw [List.any_cons, List.any_cons, List.any_nil, key a na, key b nb]; rfl
  have dd : ([x, y].eraseDups.length != [x, y].length) = false := by
    have : [x, y].eraseDups = [x, y] := by simp [List.eraseDups_cons, hne, Ne.symm hne]
    rw [this]; simp
  have h2 : (py.line == px.line) = true := by simpa using (by simpa using hl : px.line = py.line).symm
  unfold swappedStores
  simp only [hb, List.filterMap_cons, List.filterMap_nil, kx, ky, List.head?_cons, Option.map_some, Option.getD_some, Expr.pos, beq_self_eq_true, Bool.and_self, if_true, h2, nf, nc, List.length_cons, List.length_nil, st]
  have dd' : (0 + 1 + 1 != 0 + 1 + 1 || [x, y].eraseDups.length != 0 + 1 + 1) = false := dd
  rw [if_neg (by decide)]
  refine Eq.trans (if_neg fun z => Bool.false_ne_true (st.symm.trans z)) ?_
  rw [dd', if_neg Bool.false_ne_true, if_neg Bool.false_ne_true, if_neg Bool.false_ne_true]
theorem s_par (g : SOk nm Ek c C X sc) {x y : Str} {px py pt pt2 pos : Pos} {kt k2 : Nat} {a b : Expr} {i j : Nat} {da db : DV} (hp : parOk sc x px y py a b = true) (hi : ixOf x c.N = some i) (hj : ixOf y c.N = some j) (ha : PE X a (tV nm X.K Ek da)) (hb : PE X b (tV nm X.K Ek db)) :
    PS X (.Assign [.Tuple [.Name x px, .Name y py] kt pt] (.Tuple [a, b] k2 pt2) pos) (tS nm X.K Ek fun s h => RS.ofR ((da s h).then fun v h1 => (db s h1).then fun w h2 => .ok [v, w] h2) s fun ws h1 => nxE h1 (setAll [i, j] ws s)) := by
  unfold parOk at hp
  simp only [Bool.and_eq_true, decide_eq_true_eq, Bool.not_eq_true', beq_eq_false_iff_ne] at hp
  obtain ⟨⟨⟨⟨⟨⟨⟨hx, hy⟩, hl⟩, hne⟩, na⟩, nb⟩, nf⟩, nc⟩ := hp
  have hij : i ≠ j := fun e => by
    subst e
    have h1 := ixOf_get hi
    rw [ixOf_get hj] at h1
    exact hne (Option.some.inj h1).symm
  have hX : X.env.scope.names.lookup x = some .local := by rw [g.scope]; exact hx
  have hY : X.env.scope.names.lookup y = some .local := by rw [g.scope]; exact hy
  have hw : swappedStores [.Tuple [.Name x px, .Name y py] kt pt] (.Tuple [a, b] k2 pt2) X.env = pure (some [x, y]) := sw_par g.kind hX hY (by simpa using hl) hne na nb nf nc
  refine PSi (ps_par g.g.calm g.g.nd (by rw [g.g.N]; exact ixOf_get hi) (by rw [g.g.N]; exact ixOf_get hj) hij hX hY (pa_cons ha (pa_cons hb pa_nil (star1 nb [] _)) (star1 na [b] _)) hw rfl) ?_
  rintro D σ H ⟨p, s, h, si, er, ok⟩
  have ok := ok.of (G := fun p H (w : List W) (v : List V) => RWs X.K p H w v) (Q' := fun vs H1 => ∃ v w, vs = [v, w] ∧ D.nx ((σ.set i (some v)).set j (some w)) H1) fun ws h1 p1 H1 vs e x1 s1 r1 ok1 => by
    obtain ⟨w1, h2, e1, e2⟩ := then_ok e
    obtain ⟨w2, h3, e3, e4⟩ := then_ok e2
    cases e4
    obtain ⟨v1, v2, rfl, q1, q2⟩ := RWs.two r1
    exact ⟨v1, v2, rfl, ok1 p1 H1 _ Xt.refl s1 (((er.mono x1).set q1 i).set q2 j)⟩
  refine ⟨p, s, h, si, er, ok.then fun w h1 p1 H1 v _ x1 s1 r1 ok1 => ⟨p1, s, h1, s1, er.mono x1, ok1.then fun w2 h2 p2 H2 v2 _ x2 s2 r2 ok2 => ?_⟩⟩
  exact ok2 p2 H2 [v, v2] Xt.refl s2 (.cons (r1.to x2) (.cons r2 .nil))
/-! ### loops -/
theorem for_loop {σ : Sg} {s : M2.Env} {p1 : List Addr} {h1 : Hm} {H1 : Hp} {q : Src} {J : L2.It} {k : Bool} {t : List Nat} {b : M2.Env → Hm → RS} {D : Ends}
    (hun : q.un = none) (si : Sim nm X.K p1 h1 H1) (er : Er X.K p1 H1 s σ) (wk : Wk nm X.K p1 H1 q J) (ok : OkS nm X.K Ek p1 H1 (forRun (forTurn k t b) s q h1) D) :
    ∃ W : Nat → Nat → Sg → Hp → Prop, (∃ m, W 0 m σ H1) ∧ ∀ i m σ H, W i m σ H →
      (J.stop i H ∧ D.nx σ H) ∨ (J.go i H ∧ ∃ N : Sg → Hp → Prop, (∀ σ' H', N σ' H' → ∃ m', m' < m ∧ W (i + 1) m' σ' H') ∧ ∀ x H', J.yld i H x H' → gK X.K k t x σ H' fun σ2 H2 => tS nm X.K Ek b { D with nx := N, ct := N, bk := D.nx } σ2 H2) := by
  have e0 : forRun (forTurn k t b) s q h1 = forEnd none (forGo (forTurn k t b) q.gs q.its s h1) := by unfold forRun; rw [hun]
  rw [e0] at ok
  let Pv : Nat → Sg → Hp → Prop := fun i σ H => ∃ p' h' s', Xt X.K p1 H1 p' H ∧ Sim nm X.K p' h' H ∧ Er X.K p' H s' σ ∧ OkS nm X.K Ek p1 H1 (forEnd none (forGo (forTurn k t b) q.gs (q.its.drop i) s' h')) D
  refine ⟨fun i m σ H => m = q.its.length - i ∧ i ≤ q.its.length ∧ Pv i σ H, ⟨q.its.length, by simp, Nat.zero_le _, p1, h1, s, Xt.refl, si, er, ok⟩, ?_⟩
  rintro i m σ H ⟨rfl, hi, p', h', s', x, sm, er, ok⟩
  by_cases hlt : i < q.its.length
  · have hdr : q.its.drop i = q.its[i] :: q.its.drop (i + 1) := List.drop_eq_getElem_cons hlt
    rw [hdr] at ok
    simp only [forGo] at ok
    cases hg : okG q.gs h' with
    | false => rw [hg] at ok; exact ok.elim
    | true =>
      rw [hg, if_pos rfl] at ok
      refine .inr ⟨wk.go i p' H h' x sm hg hlt, Pv (i + 1), fun σ' H' p => ⟨q.its.length - (i + 1), by omega, rfl, hlt, p⟩, fun y H' yl => ?_⟩
      obtain ⟨x2, s2, r2⟩ := wk.yld i p' H h' y H' q.its[i] x sm hg (List.getElem?_eq_getElem hlt) yl
      unfold forTurn at ok
      cases hs : setT k t q.its[i] s' with
      | none => rw [hs] at ok; exact ok.elim
      | some s3 =>
        rw [hs] at ok
        simp only at ok
        have er0 : ErX X.K p' H' (fun _ => False) s' σ := ⟨er.len, fun i w _ q => (er.mono x2).at_ i w q⟩
        refine gK_ok r2 hs er0 fun τ et _ => ⟨p', s3, h', s2, et.er fun i z => z.1, ?_⟩
        have xx := x.trans x2
        cases hb : b s3 h' with
        | nx s4 h4 =>
          rw [hb] at ok
          exact fun p4 H4 σ4 x4 sm4 er4 => ⟨p4, h4, s4, xx.trans x4, sm4, er4, ok⟩
        | ct s4 h4 =>
          rw [hb] at ok
          exact fun p4 H4 σ4 x4 sm4 er4 => ⟨p4, h4, s4, xx.trans x4, sm4, er4, ok⟩
        | bk s4 h4 =>
          rw [hb] at ok
          exact fun p4 H4 σ4 x4 sm4 er4 => ok p4 H4 σ4 (xx.trans x4) sm4 er4
        | rt w h4 =>
          rw [hb] at ok
          exact fun p4 H4 v x4 sm4 r4 => ok p4 H4 v (xx.trans x4) sm4 r4
        | exc c ws h4 s4 =>
          rw [hb] at ok
          exact fun p4 H4 d x4 sm4 r4 => ok p4 H4 d (xx.trans x4) sm4 r4
        | bad => rw [hb] at ok; exact ok.elim
  · have e : i = q.its.length := by omega
    subst e
    rw [List.drop_length] at ok
    simp only [forGo] at ok
    cases hg : okG q.gs h' with
    | false => rw [hg] at ok; exact ok.elim
    | true =>
      rw [hg, if_pos rfl] at ok
      exact .inl ⟨wk.stop _ p' H h' x sm hg (Nat.le_refl _), ok p' H σ x sm er⟩
theorem s_for (g : SOk nm Ek c C X sc) {tg iter : Expr} {body : List Stmt} {pos : Pos} {k : Bool} {t : List Nat} {it : M2.It} {da db : DV} {b : M2.Env → Hm → RS} (hl : locTgt sc tg = true) (htg : tgtOf c tg = some (k, t))
    (hi : PI X tg iter (tI nm X.K Ek it da db)) (hs : ∀ x, foldedSetIterable iter X.env x = pure x) (hb : PSs X body (tS nm X.K Ek b)) :
    PS X (.For tg iter body [] pos) (tS nm X.K Ek fun s h => RS.ofR (da s h) s fun x h1 => RS.ofR (db s h1) s fun y h2 => RS.ofR (srcV it x y h2) s (forRun (forTurn k t b) s)) := by
  refine PSi (ps_for g.own g.g.calm hi (tgt_ok g.g hl htg) hb hs) ?_
  rintro D σ H ⟨p, s, h, si, er, ok⟩
  have ok : OkS nm X.K Ek p H (RS.ofR ((da s h).then fun x h1 => (db s h1).then fun y h2 => srcV it x y h2) s (forRun (forTurn k t b) s)) D := by
    have e : RS.ofR ((da s h).then fun x h1 => (db s h1).then fun y h2 => srcV it x y h2) s (forRun (forTurn k t b) s) = RS.ofR (da s h) s fun x h1 => RS.ofR (db s h1) s fun y h2 => RS.ofR (srcV it x y h2) s (forRun (forTurn k t b) s) := by
      cases da s h with
      | ok x h1 =>
        show RS.ofR ((db s h1).then _) s _ = RS.ofR (db s h1) s _
        cases db s h1 <;> rfl
      | _ => rfl
    rw [e]; exact ok
  refine ⟨p, s, h, si, er, ok.of fun q h1 p1 H1 J e x1 s1 wk ok1 => ?_⟩
  obtain ⟨_, _, _, e1⟩ := then_ok e
  obtain ⟨_, _, _, e2⟩ := then_ok e1
  exact for_loop (srcV_un e2).1 s1 (er.mono x1) wk ok1
theorem s_whl (g : SOk nm Ek c C X sc) {e : Expr} {body : List Stmt} {pos : Pos} {d : DT} {b : M2.Env → Hm → RS} {n : Nat} (he : PT X e (M2.tB nm X.K Ek d)) (hb : PSs X body (tS nm X.K Ek b)) :
    PS X (.While e body [] pos) (tS nm X.K Ek fun s h => whlGo d b n s h) := by
  refine PSi (ps_while g.own he hb) ?_
  rintro D σ H ⟨p, s, h, si, er, ok⟩
  refine ⟨fun m σ' H' => ∃ p' h' s', Xt X.K p H p' H' ∧ Sim nm X.K p' h' H' ∧ Er X.K p' H' s' σ' ∧ OkS nm X.K Ek p H (whlGo d b m s' h') D, ⟨n, p, h, s, Xt.refl, si, er, ok⟩, ?_⟩
  rintro m σ' H' ⟨p', h', s', x, sm, er', ok⟩
  cases m with
  | zero => exact ok.elim
  | succ m =>
    simp only [whlGo] at ok
    refine ⟨p', s', h', sm, er', ?_⟩
    cases hd : d s' h' with
    | bad => rw [hd] at ok; exact ok.elim
    | exc c ws h3 =>
      rw [hd] at ok
      exact fun p4 H4 d4 x4 sm4 r4 => ok p4 H4 d4 (x.trans x4) sm4 r4
    | ok q h3 =>
      rw [hd] at ok
      intro p3 H3 q' x3 s3 eq
      cases (show q = q' from eq)
      cases q with
      | false =>
        rw [if_neg Bool.false_ne_true]
        exact ok p3 H3 σ' (x.trans x3) s3 (er'.mono x3)
      | true =>
        rw [if_pos rfl]
        simp only at ok
        refine ⟨fun σ4 H4 => ∃ p' h' s', Xt X.K p H p' H4 ∧ Sim nm X.K p' h' H4 ∧ Er X.K p' H4 s' σ4 ∧ OkS nm X.K Ek p H (whlGo d b m s' h') D, fun σ4 H4 z => ⟨m, Nat.lt_succ_self _, z⟩, p3, s', h3, s3, er'.mono x3, ?_⟩
        have xx := x.trans x3
        cases hb2 : b s' h3 with
        | nx s4 h4 =>
          rw [hb2] at ok
          exact fun p4 H4 σ4 x4 sm4 er4 => ⟨p4, h4, s4, xx.trans x4, sm4, er4, ok⟩
        | ct s4 h4 =>
          rw [hb2] at ok
          exact fun p4 H4 σ4 x4 sm4 er4 => ⟨p4, h4, s4, xx.trans x4, sm4, er4, ok⟩
        | bk s4 h4 =>
          rw [hb2] at ok
          exact fun p4 H4 σ4 x4 sm4 er4 => ok p4 H4 σ4 (xx.trans x4) sm4 er4
        | rt w h4 =>
          rw [hb2] at ok
          exact fun p4 H4 v x4 sm4 r4 => ok p4 H4 v (xx.trans x4) sm4 r4
        | exc c ws h4 s4 =>
          rw [hb2] at ok
          exact fun p4 H4 d x4 sm4 r4 => ok p4 H4 d (xx.trans x4) sm4 r4
        | bad => rw [hb2] at ok; exact ok.elim
end
end M2

namespace M2
open PySem PySem.Spec PyProof.Rows L2
section
variable {nm : Nm} {X : L2.Cx} {Ek : XK} {c : CS} {C : Ctx} {sc : Scope}
theorem noswap {e : Expr} (h : isComp e = false) (t : Option Expr) (l : Nat) (env : PySem.Env) : swapsWith e t l env = pure false := by
  cases e <;> first
    | rfl
    | (simp [isComp] at h)
theorem pair_of {t v : Expr} {x y : Str} {px py : Pos} {a b : Expr} (h : pairOf t v = some (x, px, y, py, a, b)) : ∃ k p k2 p2, t = .Tuple [.Name x px, .Name y py] k p ∧ v = .Tuple [a, b] k2 p2 := by
  unfold pairOf at h
  split at h
  · cases h; exact ⟨_, _, _, _, rfl, rfl⟩
  · cases h
theorem nosw {t v : Expr} (h : noPair t v = true) (ht : (∃ x p, t = .Name x p) ∨ (∃ es k p, t = .Tuple es k p) ∨ ∃ o i p, t = .Subscript o i p) (env : PySem.Env) : swappedStores [t] v env = pure none := by
  rcases ht with ⟨x, p, rfl⟩ | ⟨es, k, p, rfl⟩ | ⟨o, i, p, rfl⟩
  · rfl
  · cases v <;> first
      | rfl
      | (simp [noPair] at h)
  · rfl
theorem cT_ok (g : GOk nm Ek c C X sc) {n : Nat} {t : Expr} {d : T} (h : cT c (cE c n sc) sc t = some d) :
    PG X t (tgA nm X.K Ek fun w s h => M2.asg C s d w h) ∧ ((∃ x p, t = .Name x p) ∨ (∃ es k p, t = .Tuple es k p) ∨ ∃ o i p, t = .Subscript o i p) := by
  cases t with
  | Name x p =>
    simp only [cT] at h
    split at h
    · rename_i hl
      obtain ⟨i, h1, rfl⟩ := map_some h
      exact ⟨tg_var g hl h1, .inl ⟨x, p, rfl⟩⟩
    · cases h
  | Tuple es k p =>
    simp only [cT] at h
    split at h
    · rename_i hl
      obtain ⟨ts, h1, rfl⟩ := map_some h
      exact ⟨tg_tup g hl h1, .inr (.inl ⟨es, k, p, rfl⟩)⟩
    · cases h
  | Subscript o i p =>
    refine ⟨?_, .inr (.inr ⟨o, i, p, rfl⟩)⟩
    cases i with
    | Slice => simp only [cT] at h; cases h
    | _ =>
      simp only [cT] at h
      obtain ⟨x, y, h1, h2, rfl⟩ := opt2_some h
      exact tg_sub (cE_ok n g h1).v (cE_ok n g h2).v (fun _ => rfl)
  | _ => simp only [cT] at h; cases h
theorem asg_ends (d : T) (w : W) (s : M2.Env) (h : Hm) : (∃ s' h', M2.asg C s d w h = .nx s' h') ∨ M2.asg C s d w h = .bad ∨ ∃ c ws h' s', M2.asg C s d w h = .exc c ws h' s' := by
  have key : ∀ {A : Type} (r : M2.R A) (k : A → Hm → RS), (∀ a h, (∃ s' h', k a h = .nx s' h') ∨ k a h = .bad ∨ ∃ c ws h' s', k a h = .exc c ws h' s') → (∃ s' h', RS.ofR r s k = .nx s' h') ∨ RS.ofR r s k = .bad ∨ ∃ c ws h' s', RS.ofR r s k = .exc c ws h' s' := fun r k hk => by
    cases r with
    | ok a h => exact hk a h
    | exc c ws h => exact .inr (.inr ⟨_, _, _, _, rfl⟩)
    | bad => exact .inr (.inl rfl)
  cases d with
  | var i => exact .inl ⟨_, _, rfl⟩
  | tup ts =>
    simp only [M2.asg]
    cases setT true ts w s with
    | none => exact .inr (.inl rfl)
    | some s' => exact .inl ⟨_, _, rfl⟩
  | sub o i =>
    refine key _ _ fun x h1 => key _ _ fun y h2 => ?_
    cases setItem x y w h2 with
    | none => exact .inr (.inl rfl)
    | some h' => exact .inl ⟨_, _, rfl⟩
  | fld o f =>
    refine key _ _ fun x h1 => ?_
    cases setFld x f w h1 with
    | none => exact .inr (.inl rfl)
    | some h' => exact .inl ⟨_, _, rfl⟩
theorem ss_all {f : Stmt → Option S} (hf : ∀ st s, f st = some s → PS X st (tS nm X.K Ek (evS C s))) : ∀ {b : List Stmt} {bs : List S}, allO f b = some bs → PSs X b (tS nm X.K Ek (evSs C bs))
  | [], _, h => by
    cases h
    have : evSs C [] = fun s h => RS.nx s h := by funext s h; rw [evSs]
    rw [this]
    exact ss_nil
  | st :: b, bs, h => by
    simp only [allO] at h
    split at h
    · rename_i s h1
      split at h
      · rename_i r h2
        cases h
        have : evSs C (s :: r) = fun e h => (evS C s e h).seq (evSs C r) := by funext e h; rw [evSs]
        rw [this]
        exact ss_cons (hf st s h1) (ss_all hf h2)
      · cases h
    · cases h
theorem cS_ok (g : SOk nm Ek c C X sc) : ∀ (n : Nat) {st : Stmt} {s : S}, cS c n sc st = some s → PS X st (tS nm X.K Ek (evS C s))
  | 0, _, _, h => by cases h
  | n + 1, st, s, h => by
    have ih : ∀ {st s}, cS c n sc st = some s → PS X st (tS nm X.K Ek (evS C s)) := fun h => cS_ok g n h
    have ihL : ∀ {b bs}, allO (cS c n sc) b = some bs → PSs X b (tS nm X.K Ek (evSs C bs)) := fun h => ss_all (fun _ _ => ih) h
    have ie : ∀ {e d}, cE c n sc e = some d → EOk nm Ek X e (den C d) := fun h => cE_ok n g.g h
    cases st with
    | Assign ts v p =>
      cases ts with
      | nil => simp only [cS] at h; cases h
      | cons t ts =>
        cases ts with
        | cons _ _ => simp only [cS] at h; cases h
        | nil =>
          simp only [cS] at h
          split at h
          · rename_i x px y py a b hp
            obtain ⟨k, q, k2, q2, rfl, rfl⟩ := pair_of hp
            split at h
            · rename_i hk
              split at h
              · rename_i i j da db h1 h2 h3 h4
                cases h
                have : evS C (.par [i, j] [da, db]) = fun s h => RS.ofR (((den C da).v s h).then fun v h1 => ((den C db).v s h1).then fun w h2 => .ok [v, w] h2) s fun ws h1 => nxE h1 (setAll [i, j] ws s) := by
                  funext s h
                  rw [evS]
                  congr 1
                  simp only [evEs, denL, then_assoc]
                  rfl
                rw [this]
                exact s_par g hk h1 h2 (ie h3).v (ie h4).v
              · cases h
            · cases h
          · split at h
            · rename_i hk
              obtain ⟨d, e, h1, h2, rfl⟩ := opt2_some h
              have : evS C (.asg d e) = fun s h => RS.ofR ((den C e).v s h) s fun w h1 => M2.asg C s d w h1 := by funext s h; rw [evS]; rfl
              rw [this]
              obtain ⟨pg, sh⟩ := cT_ok g.g h1
              refine s_asg (st := fun w s h => M2.asg C s d w h) (ie h2).v pg (fun w s h => asg_ends d w s h) (noswap hk.1 _ _ _) (nosw hk.2 sh _) ?_
              rcases sh with ⟨x, p, rfl⟩ | ⟨es, k, p, rfl⟩ | ⟨o, i, p, rfl⟩ <;> rfl
            · cases h
    | Expr e p =>
      simp only [cS] at h
      split at h
      · rename_i hk
        obtain ⟨d, h1, rfl⟩ := map_some h
        have : evS C (.exp d) = fun s h => RS.ofR ((den C d).v s h) s fun _ h1 => .nx s h1 := by funext s h; rw [evS]; rfl
        rw [this]
        exact s_exp (ie h1).v (noswap hk _ _ _)
      · cases h
    | Return e p =>
      cases e with
      | none =>
        simp only [cS] at h
        cases h
        have : evS C (.ret .non) = fun s h => RS.rt .non h := by funext s h; rw [evS]; simp only [evE, den]; rfl
        rw [this]
        exact s_retN
      | some e =>
        simp only [cS] at h
        obtain ⟨d, h1, rfl⟩ := map_some h
        have : evS C (.ret d) = fun s h => RS.ofR ((den C d).v s h) s fun w h1 => .rt w h1 := by funext s h; rw [evS]; rfl
        rw [this]
        exact s_ret (ie h1).v
    | If t a b p =>
      simp only [cS] at h
      split at h
      · rename_i hp
        split at h
        · rename_i d x y h1 h2 h3
          cases h
          have : evS C (.ite d x y) = fun s h => RS.ofR ((den C d).t s h) s fun q h1 => match q with
              | true => evSs C x s h1
              | false => evSs C y s h1 := by funext s h; rw [evS]; rfl
          rw [this]
          exact s_if ((ie h1).t hp) (ihL h2) (ihL h3)
        · cases h
      · cases h
    | For t i b o p =>
      cases o with
      | cons _ _ => simp only [cS] at h; cases h
      | nil =>
        simp only [cS] at h
        split at h
        · rename_i hl
          split at h
          · rename_i k t' bs h1 h2
            split at h
            · rename_i it x y h3
              cases h
              obtain ⟨hi, hf⟩ := it_ok g.g (tg := t) ie h3
              have : evS C (.for k t' it x y bs) = fun s h => RS.ofR ((den C x).v s h) s fun u h1 => RS.ofR ((den C y).v s h1) s fun w h2 => RS.ofR (srcV it u w h2) s (forRun (forTurn k t' (evSs C bs)) s) := by funext s h; rw [evS]; rfl
              rw [this]
              exact s_for g hl h1 hi hf (ihL h2)
            · cases h
          · cases h
        · cases h
    | While t b o p =>
      cases o with
      | cons _ _ => simp only [cS] at h; cases h
      | nil =>
        simp only [cS] at h
        split at h
        · rename_i hp
          obtain ⟨d, bs, h1, h2, rfl⟩ := opt2_some h
          have : evS C (.whl d bs) = fun s h => whlGo ((den C d).t) (evSs C bs) C.most s h := by funext s h; rw [evS]; rfl
          rw [this]
          exact s_whl g ((ie h1).t hp) (ihL h2)
        · cases h
    | Pass p =>
      simp only [cS] at h
      cases h
      have : evS C .pass = fun s h => RS.nx s h := by funext s h; rw [evS]
      rw [this]
      refine PSi ps_pass ?_
      rintro D σ H ⟨p, s, h, si, er, ok⟩
      exact ok p H σ Xt.refl si er
    | Break p =>
      simp only [cS] at h
      cases h
      have : evS C .brk = fun s h => RS.bk s h := by funext s h; rw [evS]
      rw [this]
      refine PSi ps_break ?_
      rintro D σ H ⟨p, s, h, si, er, ok⟩
      exact ok p H σ Xt.refl si er
    | Continue p =>
      simp only [cS] at h
      cases h
      have : evS C .cnt = fun s h => RS.ct s h := by funext s h; rw [evS]
      rw [this]
      refine PSi ps_continue ?_
      rintro D σ H ⟨p, s, h, si, er, ok⟩
      exact ok p H σ Xt.refl si er
    | _ => simp only [cS] at h; cases h
end
end M2

namespace M2
open PySem PySem.Spec PyProof.Rows L2
/-! ### binding -/
theorem look_zip {us : List Value} : ∀ {ps : List Str}, us.length = ps.length → ∀ x ∈ ps, ((ps.zip us).lookup x).isNone = false := by
  intro ps hl x hx
  induction ps generalizing us with
  | nil => cases hx
  | cons y ps ih =>
    cases us with
    | nil => cases hl
    | cons u us =>
      rw [List.zip_cons_cons, List.lookup_cons]
      cases e : x == y with
      | true => rfl
      | false =>
        rcases List.mem_cons.mp hx with rfl | hx
        · simp at e
        · exact ih (by simpa using hl) hx
theorem zip_back : ∀ {ps : List Str} {us : List Value}, us.length = ps.length → ps.Nodup → ps.filterMap (fun n => ((ps.zip us).lookup n).map (n, ·)) = ps.zip us
  | [], [], _, _ => rfl
  | y :: ps, u :: us, hl, hn => by
    have hn' := List.nodup_cons.mp hn
    rw [List.zip_cons_cons, List.filterMap_cons, List.lookup_cons, beq_self_eq_true]
    show (y, u) :: _ = _
    congr 1
    have key : ∀ qs : List Str, (∀ x ∈ qs, x ∈ ps) → ∀ l : List (Str × Value), qs.filterMap (fun n => (List.lookup n ((y, u) :: l)).map (n, ·)) = qs.filterMap fun n => (l.lookup n).map (n, ·) := fun qs => by
      induction qs with
      | nil => exact fun _ _ => rfl
      | cons x qs ih =>
        intro hq l
        have : (x == y) = false := by
          rw [beq_eq_false_iff_ne]
          rintro rfl
          exact hn'.1 (hq x (by simp))
        rw [List.filterMap_cons, List.filterMap_cons, List.lookup_cons, this, ih (fun z hz => hq z (by simp [hz]))]
    rw [key ps (fun _ h => h)]
    exact zip_back (ps := ps) (us := us) (by simpa using hl) hn'.2
  | [], _ :: _, hl, _ => by cases hl
  | _ :: _, [], hl, _ => by cases hl
theorem bind_plain {fd : FuncData} (hp : plainArgs fd.params = true) (hd : fd.defaults = .none) (hn : (psOf fd.params).Nodup) (us : List Value) (hl : us.length = (psOf fd.params).length) : bindArgs fd ⟨us, []⟩ = pure ((psOf fd.params).zip us) := by
  unfold bindArgs
  generalize fd.params = pr at *
  obtain ⟨po, ar, va, ko, kd, kw, de⟩ := pr
  unfold plainArgs at hp
  simp only [Bool.and_eq_true, List.isEmpty_iff, Option.isNone_iff_eq_none] at hp
  obtain ⟨⟨⟨⟨h1, h2⟩, h3⟩, h4⟩, h5⟩ := hp
  subst h1 h2 h3 h4 h5
  have hl' : us.length = (ar.map (·.arg)).length := hl
  have hn' : (ar.map (·.arg)).Nodup := hn
  have hm : ((ar.map (·.arg)).filter fun n => (((ar.map (·.arg)).zip us).lookup n).isNone) = [] := by
    rw [List.filter_eq_nil_iff]
    intro x hx
    rw [look_zip hl' x hx]
    exact Bool.false_ne_true
  have hz := zip_back hl' hn'
  have hs : seqItems? .none = (pure none : Sem _) := rfl
  have hng : ¬ us.length > (ar.map (·.arg)).length := by omega
  simp only [hd, hs, psOf, List.map_nil, List.nil_append, List.append_nil, List.forIn_nil, pure_bind, Option.getD_none, List.drop_nil, List.length_nil, Nat.sub_zero, List.take_length, hm, List.drop_length, List.zip_nil_right, List.isEmpty_nil, Bool.not_true, hz]
  have hg : (decide (us.length > (ar.map (·.arg)).length) && (none : Option Arg).isNone) = false := by
    simp
    simpa using Nat.le_of_eq hl'
  rw [hg, if_neg Bool.false_ne_true, if_neg Bool.false_ne_true, if_neg Bool.false_ne_true]
/-! ### what a call made is let go -/
section
variable {nm : Nm} {K : PySem.W.Frag} {p p' : List Addr} {H H' : Hp} {h0 h' : Hm} {Ek : XK}
mutual
theorem RW.clOf : ∀ {w : W} {v : V}, RW K p H w v → w.cl p.length = true
  | _, _, .non => rfl
  | _, _, .bl _ => rfl
  | _, _, .int _ => rfl
  | _, _, .str _ => rfl
  | _, _, .tup _ q => by rw [W.cl]; exact RWs.clOf q
  | _, _, .ref h => by rw [W.cl]; exact decide_eq_true (List.getElem?_eq_some_iff.mp h).1
  | _, _, .kl _ q => by rw [W.cl]; exact RWs.clOf q
theorem RWs.clOf : ∀ {l : List W} {vs : List V}, RWs K p H l vs → clAll p.length l = true
  | _, _, .nil => rfl
  | _, _, .cons a q => by rw [clAll, RW.clOf a, RWs.clOf q]; rfl
end
mutual
theorem RW.shrink (hp : p <+: p') : ∀ {w : W} {v : V}, RW K p' H w v → w.cl p.length = true → RW K p H w v
  | _, _, .non, _ => .non
  | _, _, .bl b, _ => .bl b
  | _, _, .int i, _ => .int i
  | _, _, .str l, _ => .str l
  | _, _, .tup h q, c => .tup h (RWs.shrink hp q (by rw [W.cl] at c; exact c))
  | _, _, .ref h, c => .ref (by
      rw [W.cl] at c
      have c := of_decide_eq_true c
      obtain ⟨t, rfl⟩ := hp
      rw [List.getElem?_append_left c] at h
      exact h)
  | _, _, .kl h q, c => .kl h (RWs.shrink hp q (by rw [W.cl] at c; exact c))
theorem RWs.shrink (hp : p <+: p') : ∀ {l : List W} {vs : List V}, RWs K p' H l vs → clAll p.length l = true → RWs K p H l vs
  | _, _, .nil, _ => .nil
  | _, _, .cons a q, c => by
    rw [clAll, Bool.and_eq_true] at c
    exact .cons (RW.shrink hp a c.1) (RWs.shrink hp q c.2)
end
theorem keyV_cl {k : W} {x : Key} (n : Nat) (e : keyV k = some x) : k.cl n = true := by
  cases k <;> first
    | rfl
    | (simp [keyV] at e)
theorem RD.clOf : ∀ {l : List (W × W)} {kvs : List (Key × V)}, RD K p H l kvs → clAll p.length (l.map (·.1)) = true ∧ clAll p.length (l.map (·.2)) = true
  | _, _, .nil => ⟨rfl, rfl⟩
  | _, _, .cons e a q => by
    obtain ⟨h1, h2⟩ := RD.clOf q
    refine ⟨?_, ?_⟩
    · rw [List.map_cons, clAll, h1, keyV_cl _ e]; rfl
    · rw [List.map_cons, clAll, h2, RW.clOf a]; rfl
theorem RD.shrink (hp : p <+: p') : ∀ {l : List (W × W)} {kvs : List (Key × V)}, RD K p' H l kvs → clAll p.length (l.map (·.2)) = true → RD K p H l kvs
  | _, _, .nil, _ => .nil
  | _, _, .cons e a q, c => by
    rw [List.map_cons, clAll, Bool.and_eq_true] at c
    exact .cons e (a.shrink hp c.1) (RD.shrink hp q c.2)
theorem RF.clOf {n : Nat → Str} : ∀ {l : List (Nat × W)} {fs : List (Str × V)}, RF n K p H l fs → clAll p.length (l.map (·.2)) = true
  | _, _, .nil => rfl
  | _, _, .cons a q => by rw [List.map_cons, clAll, RF.clOf q, RW.clOf a]; rfl
theorem RF.shrink {n : Nat → Str} (hp : p <+: p') : ∀ {l : List (Nat × W)} {fs : List (Str × V)}, RF n K p' H l fs → clAll p.length (l.map (·.2)) = true → RF n K p H l fs
  | _, _, .nil, _ => .nil
  | _, _, .cons a q, c => by
    rw [List.map_cons, clAll, Bool.and_eq_true] at c
    exact .cons (a.shrink hp c.1) (RF.shrink hp q c.2)
theorem RO.clOf {o : O} {a : Addr} (r : RO nm K p H o a) : o.cl p.length = true := by
  cases o with
  | lst l => obtain ⟨_, _, q⟩ := r; exact q.clOf
  | dct l => obtain ⟨_, _, q⟩ := r; obtain ⟨h1, h2⟩ := q.clOf; show (clAll _ _ && clAll _ _) = true; rw [h1, h2]; rfl
  | lk l => obtain ⟨_, _, _, q⟩ := r; obtain ⟨h1, h2⟩ := q.clOf; show (clAll _ _ && clAll _ _) = true; rw [h1, h2]; rfl
  | ins c fs => obtain ⟨_, _, _, q⟩ := r; exact q.clOf
theorem RO.shrink (hp : p <+: p') {o : O} {a : Addr} (r : RO nm K p' H o a) (c : o.cl p.length = true) : RO nm K p H o a := by
  cases o with
  | lst l => obtain ⟨_, e, q⟩ := r; exact ⟨_, e, q.shrink hp c⟩
  | dct l =>
    obtain ⟨_, e, q⟩ := r
    have c : (clAll p.length (l.map (·.1)) && clAll p.length (l.map (·.2))) = true := c
    exact ⟨_, e, q.shrink hp (Bool.and_eq_true _ _ ▸ c).2⟩
  | lk l =>
    obtain ⟨_, _, e, q⟩ := r
    have c : (clAll p.length (l.map (·.1)) && clAll p.length (l.map (·.2))) = true := c
    exact ⟨_, _, e, q.shrink hp (Bool.and_eq_true _ _ ▸ c).2⟩
  | ins c' fs => obtain ⟨_, _, e, q⟩ := r; exact ⟨_, _, e, q.shrink hp c⟩
theorem Xt.base (x : Xt K p H p' H') : Xt K p H p H' := ⟨List.prefix_refl p, x.kp, x.fr, fun _ a b => absurd a b⟩
theorem Sim.shrink (si0 : Sim nm K p h0 H) (x : Xt K p H p' H') (sm : Sim nm K p' h' H') (b : baseOk h0 h' = true) : Sim nm K p (h'.take h0.length) H' := by
  have hle : p.length ≤ p'.length := x.pre.length_le
  refine ⟨?_, si0.nd, fun i o a e q => ?_⟩
  · rw [List.length_take, ← sm.len, ← si0.len]; omega
  · have hi : i < p.length := (List.getElem?_eq_some_iff.mp q).1
    have e1 : h'[i]? = some o := by
      rw [List.getElem?_take_of_lt (by rw [← si0.len]; exact hi)] at e
      exact e
    have q1 : p'[i]? = some a := by
      obtain ⟨t, rfl⟩ := x.pre
      rw [List.getElem?_append_left hi]; exact q
    refine (sm.at_ i o a e1 q1).shrink x.pre ?_
    unfold baseOk at b
    rw [Bool.or_eq_true] at b
    rcases b with b | b
    · have b := of_decide_eq_true b
      rw [b] at e
      exact (si0.at_ i o a e q).clOf
    · rw [Bool.and_eq_true] at b
      have b2 := b.2
      unfold Hm.cl at b2
      rw [List.all_eq_true] at b2
      have := b2 o (List.mem_of_getElem? e)
      rw [← si0.len] at this
      exact this
theorem Sim.add (x : Sim nm K p h0 H) {a : Addr} {o : O} (na : a ∉ p) (r : RO nm K (p ++ [a]) H o a) : Sim nm K (p ++ [a]) (h0 ++ [o]) H := by
  refine ⟨by simp [x.len], List.nodup_append.mpr ⟨x.nd, by simp, fun c hc b hb => ?_⟩, fun i o' b e q => ?_⟩
  · have : b = a := by simpa using hb
    subst this
    rintro rfl
    exact na hc
  · by_cases hi : i < p.length
    · rw [List.getElem?_append_left hi] at q
      rw [List.getElem?_append_left (by rw [← x.len]; exact hi)] at e
      exact (x.at_ i o' b e q).mono (List.prefix_append p [a]) Kp.refl rfl
    · have hlt := (List.getElem?_eq_some_iff.mp e).1
      have hi2 : i = p.length := by
        rw [List.length_append, List.length_singleton] at hlt
        have := x.len
        omega
      subst hi2
      rw [List.getElem?_append_right (Nat.le_refl _), Nat.sub_self] at q
      rw [List.getElem?_append_right (by rw [x.len]; exact Nat.le_refl _), x.len, Nat.sub_self] at e
      cases q
      cases e
      exact r
theorem gc_ok {w : W} {v : V} {Q : VK} (si0 : Sim nm K p h0 H) (x : Xt K p H p' H') (sm : Sim nm K p' h' H') (r : RW K p' H' w v) (ok : Ok nm K Ek (GV K) p H (gc h0 w h') Q) : Q v H' := by
  have plain : Ok nm K Ek (GV K) p H (M2.R.ok w h') Q → Q v H' := fun ok => ok p' H' v x sm r
  unfold gc at ok
  cases hb : baseOk h0 h' with
  | false => rw [hb, if_neg Bool.false_ne_true] at ok; exact plain ok
  | true =>
    rw [hb, if_pos rfl] at ok
    have s2 := si0.shrink x sm hb
    have small : ∀ c : w.cl h0.length = true, Ok nm K Ek (GV K) p H (M2.R.ok w (h'.take h0.length)) Q → Q v H' := fun c ok => ok p H' v x.base s2 (r.shrink x.pre (by rw [si0.len]; exact c))
    have val : Ok nm K Ek (GV K) p H (if w.cl h0.length then M2.R.ok w (h'.take h0.length) else .ok w h') Q → Q v H' := fun ok => by
      by_cases c : w.cl h0.length = true
      · rw [if_pos c] at ok; exact small c ok
      · rw [if_neg c] at ok; exact plain ok
    cases r with
    | ref hr =>
      rename_i r a
      simp only at ok
      by_cases hlt : r < h0.length
      · rw [if_pos hlt] at ok
        exact small (by rw [W.cl]; exact decide_eq_true hlt) ok
      · rw [if_neg hlt] at ok
        have na : a ∉ p := fun z => by
          obtain ⟨j, hj, ej⟩ := List.getElem_of_mem z
          have : p'[j]? = some a := by
            obtain ⟨t, rfl⟩ := x.pre
            rw [List.getElem?_append_left hj, List.getElem?_eq_getElem hj, ej]
          have := nodup_inj sm.nd this hr
          rw [← si0.len] at hlt
          omega
        have one : ∀ o : O, h'[r]? = some o → o.cl h0.length = true → Ok nm K Ek (GV K) p H (M2.R.ok (.ref h0.length) (h'.take h0.length ++ [o])) Q → Q (.ref a) H' := fun o e c ok => by
          have ro := sm.at_ r o a e hr
          have xx : Xt K p H (p ++ [a]) H' := ⟨List.prefix_append _ _, x.kp, x.fr, fun b hb n => by
            rcases List.mem_append.mp hb with hb | hb
            · exact absurd hb n
            · have : b = a := by simpa using hb
              rw [this]
              exact x.new a (List.mem_of_getElem? hr) na⟩
          have ro2 : RO nm K p H' o a := ro.shrink x.pre (by rw [si0.len]; exact c)
          refine ok (p ++ [a]) H' (.ref a) xx (s2.add na (ro2.mono (List.prefix_append _ _) Kp.refl rfl)) (.ref ?_)
          rw [← si0.len]; simp
        cases e : h'[r]? with
        | none => rw [e] at ok; exact plain ok
        | some o =>
          rw [e] at ok
          cases o with
          | lst l =>
            simp only at ok
            by_cases c : clAll h0.length l = true
            · rw [if_pos c] at ok; exact one _ e c ok
            · rw [if_neg c] at ok; exact plain ok
          | dct l =>
            simp only at ok
            by_cases c : (O.dct l).cl h0.length = true
            · rw [if_pos c] at ok; exact one _ e c ok
            · rw [if_neg c] at ok; exact plain ok
          | _ => exact plain ok
    | _ => exact val ok
theorem gcx_ok {c : Nat} {ws : List W} {d : Option Addr} {Q : VK} (si0 : Sim nm K p h0 H) (x : Xt K p H p' H') (sm : Sim nm K p' h' H') (r : XR nm K p' H' c ws d) (ok : Ok nm K Ek (GV K) p H (gcx h0 c ws h') Q) : Ek (.ref (nm.cls c)) d H' := by
  unfold gcx at ok
  cases hb : (baseOk h0 h' && clAll h0.length ws) with
  | false => rw [hb, if_neg Bool.false_ne_true] at ok; exact ok p' H' d x sm r
  | true =>
    rw [hb, if_pos rfl] at ok
    rw [Bool.and_eq_true] at hb
    obtain ⟨vs, q, z⟩ := r
    exact ok p H' d x.base (si0.shrink x sm hb.1) ⟨vs, q.shrink x.pre (by rw [si0.len]; exact hb.2), z⟩
theorem back_ok {r : RS} {Q : VK} (si0 : Sim nm K p h0 H) (ok : Ok nm K Ek (GV K) p H (back h0 r) Q) : OkS nm K Ek p H r { nx := fun _ H' => Q .non H', rt := Q } := by
  cases r with
  | nx s h => exact fun p' H' σ' x sm er => gc_ok si0 x sm .non ok
  | rt w h => exact fun p' H' v x sm r => gc_ok si0 x sm r ok
  | exc c ws h s => exact fun p' H' d x sm r => gcx_ok si0 x sm r ok
  | _ => exact ok.elim
end
/-! ### a text's defs -/
/-- a def of the text and its compiled form -/
def DefOk (K : PySem.W.Frag) (mg : Str → Option Value) (t : Top) (D : Prog) (x : Str) (i : Nat) : Prop :=
  ∃ (fn : Fn) (qual : Str) (params : Arguments) (body : List Stmt) (scope : Scope) (f : Addr) (fd : FuncData), D.fns i = some fn ∧ FunD K x qual params body scope [] [] f fd ∧ mg x = some (.ref f) ∧ cFn t params body scope = some fn ∧
    C8.scC (namesOf (psOf params) scope body) (psOf params) scope = true ∧ (x == ("__debug__" : Str)) = false
structure POk (nm : Nm) (K : PySem.W.Frag) (mg : Str → Option Value) (t : Top) (D : Prog) : Prop where
  fns : ∀ x i, t.fns.lookup x = some i → DefOk K mg t D x i
  con : ∀ x i w, t.con.lookup x = some i → D.con i = some w → ∃ v u, mg x = some u ∧ RelV v u ∧ (x == ("__debug__" : Str)) = false ∧ ∀ p H, RW K p H w v
  blt : ∀ x, bnames.contains x = true → mg x = none
theorem start_er {K : PySem.W.Frag} {p : List Addr} {H : Hp} {ws : List W} {vs : List V} {N : List Str} {f : Fn} (q : RWs K p H ws vs) (hn : f.ns = N.length) : Er K p H (M2.start f ws) (L2.start N vs) := by
  unfold M2.start L2.start
  refine ⟨by simp [q.length, hn], fun i w e => ?_⟩
  by_cases hi : i < ws.length
  · rw [List.getElem?_append_left (by simpa using hi), List.getElem?_map] at e
    have e1 : ws[i]? = some w := by
      rw [List.getElem?_eq_getElem hi] at e ⊢
      simpa using e
    obtain ⟨v, g, r⟩ := q.get e1
    refine ⟨v, ?_, r⟩
    rw [List.getElem?_append_left (by rw [List.length_map, ← q.length]; exact hi), List.getElem?_map, g]
    rfl
  · rw [List.getElem?_append_right (by simpa using hi)] at e
    rw [List.getElem?_replicate] at e
    split at e <;> cases e
/-- what a callee needs of a def -/
def FnAt (nm : Nm) (P : Program) (w : World) (K : PySem.W.Frag) (mg : Str → Option Value) (base : Heap) (D : Prog) (n : Nat) (x : Str) (i : Nat) : Prop :=
  ∃ (f : Addr) (fd : FuncData) (ps : List Str), FnOk P w K mg base (CX P w) n f fd ps (spM nm K (run D n i)) ∧ mg x = some (.ref f) ∧ PySem.W.keepIn K (.ref f) = true ∧ Binds K fd ps [] ∧ (x == ("__debug__" : Str)) = false
theorem ps_nodup {params : Arguments} {body : List Stmt} {scope : Scope} (hs : C8.scC (namesOf (psOf params) scope body) (psOf params) scope = true) : (psOf params).Nodup := by
  have S := C8.fnScope_by hs
  rw [← S.pre]
  exact S.nd.sublist (List.take_sublist _ _)
theorem plain_of {t : Top} {params : Arguments} {body : List Stmt} {scope : Scope} {fn : Fn} (hc : cFn t params body scope = some fn) : plainArgs params = true := by
  unfold cFn at hc
  split at hc
  · assumption
  · cases hc
theorem fn_ok1 {nm : Nm} {P : Program} {w : World} {K : PySem.W.Frag} {mg : Str → Option Value} {base : Heap} {t : Top} {D : Prog} (ok : POk nm K mg t D) {n : Nat} (ih : ∀ x i, t.fns.lookup x = some i → FnAt nm P w K mg base D n x i) {x qual : Str} {i : Nat} {params : Arguments} {body : List Stmt} {scope : Scope} {f : Addr} {fd : FuncData} {fn : Fn}
    (hf : D.fns i = some fn) (F : FunD K x qual params body scope [] [] f fd) (hc : cFn t params body scope = some fn) (hs : C8.scC (namesOf (psOf params) scope body) (psOf params) scope = true) : FnOk P w K mg base (CX P w) (n + 1) f fd (psOf params) (spM nm K (run D (n + 1) i)) := by
      have S := C8.fnScope_by hs
      unfold cFn at hc
      split at hc
      case isFalse => cases hc
      rename_i hpl
      obtain ⟨b, hb, rfl⟩ := map_some hc
      have rn : ∀ ws h, run D (n + 1) i ws h = callFn ⟨run D n, D.con, D.mth, D.ini, D.most⟩ ⟨(psOf params).length, (namesOf (psOf params) scope body).length, b⟩ ws h := fun ws h => by
        rw [run, hf]
      refine F.ok S (fun vs H Q E h => ?_) fun cdv A outer s H vs Q E hr h => ?_
      · obtain ⟨p, h, ws, si, q, z⟩ := h
        rw [rn, callFn] at z
        by_cases hl : ws.length = (psOf params).length
        · rw [← q.length]; exact hl
        · rw [if_neg hl] at z; exact z.elim
      · obtain ⟨p, h, ws, si, q, z⟩ := h
        rw [rn, callFn] at z
        by_cases hl : ws.length = (psOf params).length
        · rw [if_pos hl] at z
          generalize hX : cxOf (CX P w) P w K mg base (namesOf (psOf params) scope body) qual scope f cdv A outer s H E = X
          have eK : X.K = K := by rw [← hX]; rfl
          have eA : X.A = A.deeper (envOfC qual scope s.heap.objs.size f cdv) := by rw [← hX]; rfl
          have esc : X.env.scope = scope := by rw [← hX]; rfl
          have efn : ∀ x, X.fn x = true := fun x => by rw [← hX]; rfl
          have tk : Takes X fun cls d _ H => E cls d H := takes_of (by rw [← hX]; rfl) (by rw [← hX]; rfl) (by rw [← hX]; rfl) (by rw [← hX]; rfl)
          have g : GOk nm E (t.cs (namesOf (psOf params) scope body)) ⟨run D n, D.con, D.mth, D.ini, D.most⟩ X scope := by
            refine ⟨by rw [← hX]; rfl, by rw [← hX]; rfl, by rw [← hX]; exact S.nd, by rw [eA]; have := hr.un; omega, fun y hy => ?_, fun y hy => ?_, fun y hy => ?_, fun y hy => ?_, fun y j hj => ?_, ?_, fun y j u h1 h2 => ?_, fun y hy => ?_⟩
            · unfold isVar at hy
              simp only [Bool.and_eq_true] at hy
              have hy := hy.2
              rw [esc]
              split at hy
              · rename_i e; exact .inl e
              · rename_i e; exact .inr (.inl e)
              · rename_i e; exact .inr (.inr e)
              · cases hy
            · refine ⟨?_, .inl (efn y)⟩
              unfold isLoc at hy
              rw [esc]
              split at hy
              · rename_i e; exact .inl e
              · rename_i e; exact .inr e
              · cases hy
            · unfold isGl at hy
              show X.env.scope.names.lookup y = _
              rw [esc]
              exact of_decide_eq_true hy
            · rw [esc]; exact hy
            · obtain ⟨f', fd', ps', F', m', k', b', d'⟩ := ih y j hj
              refine ⟨n, f', fd', ps', ?_, by rw [eA]; exact hr, ?_, ?_, ?_, d'⟩
              · rw [← hX]; exact F'
              · rw [← hX]; exact m'
              · rw [← hX]; exact k'
              · rw [← hX]; exact b'
            · exact passes_call tk fun _ _ _ _ h => h
            · obtain ⟨v, u', m, r, d, z⟩ := ok.con y j u h1 h2
              refine ⟨v, u', ?_, r, d, ?_⟩
              · rw [← hX]; exact m
              · rw [eK]; exact z
            · rw [← hX]; exact ok.blt y hy
          have so : SOk nm E (t.cs (namesOf (psOf params) scope body)) ⟨run D n, D.con, D.mth, D.ini, D.most⟩ X scope := by
            refine ⟨g, ?_, esc, efn, by rw [esc]; exact S.kind⟩
            exact passes_of (by rw [← hX]; rfl)
          have pss : PSs X body (tS nm X.K E (evSs ⟨run D n, D.con, D.mth, D.ini, D.most⟩ b)) := ss_all (fun _ _ h => cS_ok so 60 h) hb
          refine ⟨_, pss, p, M2.start ⟨(psOf params).length, (namesOf (psOf params) scope body).length, b⟩ ws, h, by rw [eK]; exact si, by rw [eK]; exact start_er (N := namesOf (psOf params) scope body) q rfl, ?_⟩
          rw [eK]
          exact back_ok si z
        · rw [if_neg hl] at z; exact z.elim
theorem fn_ok {nm : Nm} {P : Program} {w : World} {K : PySem.W.Frag} {mg : Str → Option Value} {base : Heap} {t : Top} {D : Prog} (ok : POk nm K mg t D) : ∀ (n : Nat) (x : Str) (i : Nat), t.fns.lookup x = some i → FnAt nm P w K mg base D n x i
  | n, x, i, hx => by
    obtain ⟨fn, qual, params, body, scope, f, fd, hf, F, hm, hc, hs, hd⟩ := ok.fns x i hx
    have bnd : Binds K fd (psOf params) [] := F.bindsN fun kV doc pm an cdv ct us hl => bind_plain (fd := PySem.W.fnOf x qual params body scope .none kV doc pm an cdv ct) (plain_of hc) rfl (ps_nodup hs) us hl
    refine ⟨f, fd, psOf params, ?_, hm, F.kp, bnd, hd⟩
    cases n with
    | zero =>
      exact ⟨fun vs H Q E h => by obtain ⟨_, _, _, _, _, z⟩ := h; exact z.elim, fun _ _ _ _ _ _ _ _ _ _ _ _ _ h => by obtain ⟨_, _, _, _, _, z⟩ := h; exact z.elim⟩
    | succ n => exact fn_ok1 ok (fun x i h => fn_ok ok n x i h) hf F hc hs
end M2

namespace M2
open PySem PySem.Spec PyProof.Rows L2
/-! ### constants of the module -/
mutual
/-- the value u, as K holds it, is this tree -/
def conW (K : PySem.W.Frag) : Nat → Value → W → Bool
  | 0, _, _ => false
  | _ + 1, .none, .non => true
  | _ + 1, .bool b, .bl c => b == c
  | _ + 1, .int i _, .int j => i == j
  | _ + 1, .str x _, .str l => x.cps.toList == l
  | n + 1, .ref a, .tup l => (match K.lookup a with
    | some ⟨.type c, _, .seq its _, _⟩ => decide (c = "tuple") && (decide (its.size ≤ sizeLine) && conWs K n its.toList l)
    | _ => false)
  | n + 1, .ref a, .kl l => (match K.lookup a with
    | some ⟨.type c, none, .seq its _, _⟩ => decide (c = "list") && (decide (its.size ≤ sizeLine) && conWs K n its.toList l)
    | _ => false)
  | _ + 1, _, _ => false
def conWs (K : PySem.W.Frag) : Nat → List Value → List W → Bool
  | 0, _, _ => false
  | _ + 1, [], [] => true
  | n + 1, u :: us, w :: l => conW K n u w && conWs K n us l
  | _ + 1, _, _ => false
end
theorem st_str (x : Str) : (⟨x.cps.toList.toArray⟩ : Str) = x := by cases x; simp
mutual
theorem conW_ok {K : PySem.W.Frag} : ∀ (n : Nat) {u : Value} {w : W}, conW K n u w = true → ∃ v, RelV v u ∧ ∀ p H, RW K p H w v
  | 0, _, _, h => by simp [conW] at h
  | n + 1, u, w, h => by
    cases w with
    | non =>
      cases u with
      | none => exact ⟨.non, rfl, fun _ _ => .non⟩
      | _ => simp [conW] at h
    | bl c =>
      cases u with
      | bool b =>
        have e : b = c := by simpa [conW] using h
        subst e
        exact ⟨.bl b, rfl, fun _ _ => .bl b⟩
      | _ => simp [conW] at h
    | int j =>
      cases u with
      | int i t =>
        have e : i = j := by simpa [conW] using h
        subst e
        exact ⟨.int i, ⟨t, rfl⟩, fun _ _ => .int i⟩
      | _ => simp [conW] at h
    | str l =>
      cases u with
      | str x t =>
        have e : x.cps.toList = l := by simpa [conW] using h
        subst e
        exact ⟨.str x, ⟨t, rfl⟩, fun p H => by
          have := RW.str (K := K) (p := p) (H := H) x.cps.toList
          rw [st_str] at this
          exact this⟩
      | _ => simp [conW] at h
    | tup l =>
      cases u with
      | ref a =>
        simp only [conW] at h
        split at h
        · rename_i c d its k sl q
          simp only [Bool.and_eq_true, decide_eq_true_eq] at h
          obtain ⟨rfl, hz, hc⟩ := h
          obtain ⟨vs, r1, r2⟩ := conWs_ok n hc
          exact ⟨.ref a, rfl, fun p H => .tup (.inr ⟨_, its, k, q, rfl, rfl, hz, r1⟩) (r2 p H)⟩
        · cases h
      | _ => simp [conW] at h
    | kl l =>
      cases u with
      | ref a =>
        simp only [conW] at h
        split at h
        · rename_i c its k sl q
          simp only [Bool.and_eq_true, decide_eq_true_eq] at h
          obtain ⟨rfl, hz, hc⟩ := h
          obtain ⟨vs, r1, r2⟩ := conWs_ok n hc
          exact ⟨.ref a, rfl, fun p H => .kl (.inr ⟨_, its, k, q, rfl, rfl, rfl, hz, r1⟩) (r2 p H)⟩
        · cases h
      | _ => simp [conW] at h
    | ref r => cases u <;> simp [conW] at h
theorem conWs_ok {K : PySem.W.Frag} : ∀ (n : Nat) {us : List Value} {l : List W}, conWs K n us l = true → ∃ vs, Vals vs us ∧ ∀ p H, RWs K p H l vs
  | 0, _, _, h => by simp [conWs] at h
  | n + 1, us, l, h => by
    cases us with
    | nil =>
      cases l with
      | nil => exact ⟨[], .nil, fun _ _ => .nil⟩
      | cons _ _ => simp [conWs] at h
    | cons u us =>
      cases l with
      | nil => simp [conWs] at h
      | cons w l =>
        simp only [conWs, Bool.and_eq_true] at h
        obtain ⟨v, r1, r2⟩ := conW_ok n h.1
        obtain ⟨vs, q1, q2⟩ := conWs_ok n h.2
        exact ⟨v :: vs, .cons r1 q1, fun p H => .cons (r2 p H) (q2 p H)⟩
end
def conF (K : PySem.W.Frag) (x : Str) (w : W) : Bool := match PySem.W.nsIn K mainGlobals x with
  | some (some u) => conW K 100 u w
  | _ => false
/-! ### what is asked of the top -/
abbrev DS := Str × Arguments × List Stmt × Scope
def dOf (d : DS) : He.DefD := ⟨(d.1, none), d.1, d.1, d.2.1, d.2.2.1, d.2.2.2, [], []⟩
def dsOf (l : List Stmt) : List DS := l.flatMap fun s => match s with
  | .FunctionDef n a b _ _ _ sc _ _ _ => [(n, a, b, sc)]
  | _ => []
def faOf (ds : List DS) : List He.Fa := ds.map (fun d => He.Fa.glo d.1) ++ bnames.map fun s => He.Fa.free s
/-- the names at the top that are bound, but the law's -/
def topNames (l : List Stmt) : List Str := ((l.flatMap fun s => match s with
  | .FunctionDef n .. => [n]
  | .ClassDef n .. => [n]
  | .Assign [.Name n _] _ _ => [n]
  | _ => []).filter fun n => !(n == ("law" : Str)) && !(n == ("__name__" : Str))).eraseDups
abbrev AlM : Type := He.AlD × Bool
def seenM (ds : List DS) (cs : List (Str × W)) (K : PySem.W.Frag) : AlM := (He.obsD (faOf ds) (ds.map dOf) K, cs.all fun q => conF K q.1 q.2)
def wantM (ds : List DS) : AlM := (He.valD (ds.map dOf), true)
def seenG (n : Nat) (ds : List DS) (cs : List (Str × W)) (g : Addr → Option Obj) : AlM := seenM ds cs (He.frG g (He.asD g n))
def TellsM (ds : List DS) (cs : List (Str × W)) (K : PySem.W.Frag) : Prop := seenM ds cs K = wantM ds
def lookM (n : Nat) (ds : List DS) (cs : List (Str × W)) : PySem.W.Hook where
  α := AlM
  obs := fun s => seenG n ds cs s.heap.get?
  val := fun _ => wantM ds
  says := fun _ h => ∃ K : PySem.W.Frag, K.In h ∧ TellsM ds cs K
  of := fun _ _ e => ⟨_, He.frG_in, e⟩
  keeps := fun _ _ _ z k => by
    obtain ⟨K, hK, c⟩ := z
    exact ⟨K, PySem.W.Frag.In.keeps hK k, c⟩
theorem seenG_eq {n : Nat} {ds : List DS} {cs : List (Str × W)} {g : Addr → Option Obj} {s : Shared} (h : ∀ a, g a = s.heap.get? a) : seenG n ds cs g = (lookM n ds cs).obs s := by
  have : g = s.heap.get? := funext h
  subst this
  rfl
/-! ### the text's facts -/
def idx {A : Type} : Nat → List (Str × A) → List (Str × Nat)
  | _, [] => []
  | n, q :: l => (q.1, n) :: idx (n + 1) l
theorem idx_get {A : Type} : ∀ {l : List (Str × A)} {n i : Nat} {x : Str}, (idx n l).lookup x = some i → ∃ j q, i = n + j ∧ l[j]? = some q ∧ q.1 = x
  | [], n, i, x, h => by cases h
  | q :: l, n, i, x, h => by
    simp only [idx, List.lookup_cons] at h
    cases e : x == q.1 with
    | true =>
      rw [e] at h
      cases h
      exact ⟨0, q, rfl, rfl, by simpa using (by simpa using e : x = q.1).symm⟩
    | false =>
      rw [e] at h
      obtain ⟨j, q', h1, h2, h3⟩ := idx_get h
      exact ⟨j + 1, q', by omega, by simpa using h2, h3⟩
/-- the names' numbers -/
def mkTop (ds : List DS) (cs : List (Str × W)) : Top := ⟨idx 0 ds, idx 0 cs, [], [], []⟩
/-- the compiled program: bs the bodies -/
def mkProg (bs : List Fn) (cs : List (Str × W)) (most : Nat) : Prog := ⟨fun i => bs[i]?, fun i => (cs[i]?).map (·.2), fun _ _ => none, fun _ => none, most⟩
def fitD (t : Top) (d : DS) (b : Fn) : Prop := cFn t d.2.1 d.2.2.1 d.2.2.2 = some b
/-- the bodies are the text's -/
def fits (t : Top) (ds : List DS) (bs : List Fn) : Prop := ds.map (fun d => cFn t d.2.1 d.2.2.1 d.2.2.2) = bs.map some
def sound (ds : List DS) : Bool := ds.all fun d => C8.scC (namesOf (psOf d.2.1) d.2.2.2 d.2.2.1) (psOf d.2.1) d.2.2.2 && !(d.1 == ("__debug__" : Str))
def soundC (cs : List (Str × W)) : Bool := cs.all fun q => !(q.1 == ("__debug__" : Str))
theorem pok {nm : Nm} {K : PySem.W.Frag} {h : Heap} {mg : Str → Option Value} {ds : List DS} {cs : List (Str × W)} {bs : List Fn} {most : Nat} (X : K.In h) (G : h.Ns mainGlobals mg) (c : TellsM ds cs K) (hf : fits (mkTop ds cs) ds bs) (hs : sound ds = true) (hs2 : soundC cs = true) :
    POk nm K mg (mkTop ds cs) (mkProg bs cs most) := by
  have cd : He.SaysD (faOf ds) (ds.map dOf) K := congrArg (fun z : AlM => z.1) c
  have cc : (cs.all fun q => conF K q.1 q.2) = true := congrArg (fun z : AlM => z.2) c
  refine ⟨fun x i hx => ?_, fun x i w hx hw => ?_, fun x hx => ?_⟩
  · obtain ⟨j, d, rfl, hj, rfl⟩ := idx_get hx
    rw [Nat.zero_add]
    have e1 : (ds.map dOf)[j]? = some (dOf d) := by rw [List.getElem?_map, hj]; rfl
    obtain ⟨fd, F⟩ := cd.def_ j e1
    have e2 : (faOf ds)[j]? = some (.glo d.1) := by
      have hlt : j < ds.length := (List.getElem?_eq_some_iff.mp hj).1
      unfold faOf
      rw [List.getElem?_append_left (by simpa using hlt), List.getElem?_map, hj]; rfl
    have m := He.glo_ok X G (cd.fact j e2)
    unfold sound at hs
    rw [List.all_eq_true] at hs
    have hs1 := hs d (List.mem_of_getElem? hj)
    rw [Bool.and_eq_true, Bool.not_eq_true'] at hs1
    have e3 : (ds.map fun d => cFn (mkTop ds cs) d.2.1 d.2.2.1 d.2.2.2)[j]? = (bs.map some)[j]? := by rw [hf]
    rw [List.getElem?_map, List.getElem?_map, hj] at e3
    cases hb : bs[j]? with
    | none => rw [hb] at e3; cases e3
    | some b =>
      rw [hb] at e3
      have e3 : cFn (mkTop ds cs) d.2.1 d.2.2.1 d.2.2.2 = some b := Option.some.inj e3
      exact ⟨b, d.1, d.2.1, d.2.2.1, d.2.2.2, _, fd, hb, F, m, e3, hs1.1, hs1.2⟩
  · obtain ⟨j, q, rfl, hj, rfl⟩ := idx_get hx
    have hw : (cs[0 + j]?).map (·.2) = some w := hw
    rw [Nat.zero_add, hj] at hw
    cases hw
    rw [List.all_eq_true] at cc
    have c1 := cc q (List.mem_of_getElem? hj)
    unfold soundC at hs2
    rw [List.all_eq_true] at hs2
    have c2 := hs2 q (List.mem_of_getElem? hj)
    rw [Bool.not_eq_true'] at c2
    unfold conF at c1
    split at c1
    · rename_i u e
      obtain ⟨v, r1, r2⟩ := conW_ok 100 c1
      exact ⟨v, u, PySem.W.mg_of X G e, r1, c2, r2⟩
    · cases c1
  · have hx : x ∈ bnames := by simpa using hx
    obtain ⟨j, hj, ej⟩ := List.getElem_of_mem hx
    have e2 : (faOf ds)[ds.length + j]? = some (.free x) := by
      unfold faOf
      rw [List.getElem?_append_right (by simp)]
      simp only [List.length_map, Nat.add_sub_cancel_left]
      rw [List.getElem?_map, List.getElem?_eq_getElem hj, ej]; rfl
    exact He.free_ok X G (cd.fact _ e2)
/-! ### the law -/
/-- the law's def: its binding, its promise -/
theorem law_fn {nm : Nm} {P : Program} {w : World} {K : PySem.W.Frag} {h : Heap} {mg : Str → Option Value} {ds : List DS} {cs : List (Str × W)} {bs : List Fn} {most n : Nat} {f : Addr} (X : K.In h) (G : h.Ns mainGlobals mg) (c : TellsM ds cs K) (hf : fits (mkTop ds cs) ds bs) (hs : sound ds = true) (hs2 : soundC cs = true)
    {i : Nat} {d : DS} {b : Fn} (hd : ds[i]? = some d) (hb : bs[i]? = some b) (hp : psOf d.2.1 = [("script" : Str)]) (hm : mg d.1 = some (.ref f)) :
    ∃ fd : FuncData, (∀ (s : Shared) (v : Value), BindsTo s fd ⟨[v], []⟩ [("script", v)]) ∧ ∀ base : Heap, K.In base → base.Ns mainGlobals mg → FnOk P w K mg base (CX P w) (n + 1) f fd ["script"] (spM nm K (run (mkProg bs cs most) (n + 1) i)) := by
  have ok : POk nm K mg (mkTop ds cs) (mkProg bs cs most) := pok X G c hf hs hs2
  have cd : He.SaysD (faOf ds) (ds.map dOf) K := congrArg (fun z : AlM => z.1) c
  have e1 : (ds.map dOf)[i]? = some (dOf d) := by rw [List.getElem?_map, hd]; rfl
  obtain ⟨fd, F⟩ := cd.def_ i e1
  have e2 : (faOf ds)[i]? = some (.glo d.1) := by
    have hlt : i < ds.length := (List.getElem?_eq_some_iff.mp hd).1
    unfold faOf
    rw [List.getElem?_append_left (by simpa using hlt), List.getElem?_map, hd]; rfl
  have m := He.glo_ok X G (cd.fact i e2)
  rw [hm] at m
  have ef : f = He.ga K d.1 := by injection (Option.some.inj m)
  subst ef
  have e3 : (ds.map fun d => cFn (mkTop ds cs) d.2.1 d.2.2.1 d.2.2.2)[i]? = (bs.map some)[i]? := by rw [hf]
  rw [List.getElem?_map, List.getElem?_map, hd, hb] at e3
  have e3 : cFn (mkTop ds cs) d.2.1 d.2.2.1 d.2.2.2 = some b := Option.some.inj e3
  unfold sound at hs
  rw [List.all_eq_true] at hs
  have hs1 := hs d (List.mem_of_getElem? hd)
  rw [Bool.and_eq_true] at hs1
  have FB := F.bindsA (ps := psOf d.2.1) fun kV doc pm an cdv ct us hl => bind_plain (fd := PySem.W.fnOf d.1 d.1 d.2.1 d.2.2.1 d.2.2.2 .none kV doc pm an cdv ct) (plain_of e3) rfl (ps_nodup hs1.1) us hl
  refine ⟨fd, fun s v => ?_, fun base _ _ => ?_⟩
  · have := FB s [v] (by rw [hp]; rfl)
    rw [hp] at this
    exact this
  · have := fn_ok1 (P := P) (w := w) (base := base) ok (n := n) (fun x i h => fn_ok ok n x i h) (i := i) hb F e3 hs1.1
    rw [← hp]
    exact this
/-- an exception behind a call, in some world -/
def CXw (P : Program) : CXT := fun outer H s E u s' => ∃ w, CX P w outer H s E u s'
theorem FnOk.any {P : Program} {w : World} {K : PySem.W.Frag} {mg : Str → Option Value} {base : Heap} {k : Nat} {f : Addr} {fd : FuncData} {ps : List Str} {sp : Sp} (F : FnOk P w K mg base (CX P w) k f fd ps sp) : FnOk P w K mg base (CXw P) k f fd ps sp := by
  refine ⟨F.len, fun A outer s H args us vs Q E hr he hb hv hs => codeAny_mono (F.run A outer s H args us vs Q E hr he hb hv hs) fun r s' q => ?_⟩
  cases r with
  | error e => exact ⟨w, q⟩
  | ok fl => cases fl <;> exact q
/-- the law's promise -/
theorem law_says {nm : Nm} {K : PySem.W.Frag} {D : Prog} {n i : Nat} {H : Hp} {a : Addr} {ns : List Int} (h : ∃ hm, run D n i [.kl (ns.map .int)] [] = .ok (.bl true) hm) (hO : Only H) (hS : SqL K H a (ns.map V.int)) :
    spM nm K (run D n i) [.ref a] H (fun v _ => v = .bl true) fun _ _ _ => False := by
  obtain ⟨hm, e⟩ := h
  have fz : FzL K H a (ns.map V.int) := by
    rcases hS with (h1 | ⟨o, h1⟩) | h1
    · rcases hO a with z | ⟨o, xs, z⟩
      · rw [z] at h1; cases h1
      · rw [z] at h1
        exact nomatch (Option.some.inj h1)
    · exact .inl ⟨o, h1⟩
    · exact .inr h1
  have q : ∀ ns : List Int, RWs K [] H (ns.map W.int) (ns.map V.int) := fun ns => by
    induction ns with
    | nil => exact .nil
    | cons i ns ih => exact .cons (.int i) ih
  refine ⟨[], [], [.kl (ns.map .int)], ⟨rfl, List.nodup_nil, fun i o a e => by simp at e⟩, .cons (.kl fz (q ns)) .nil, ?_⟩
  rw [e]
  exact fun p' H' v x s r => by cases r; rfl
end M2

namespace M2
namespace K01
def letters : List Nat := [97, 98, 99, 100, 101, 102, 103, 104, 105, 106, 107, 108, 109, 110, 111, 112, 113, 114, 115, 116, 117, 118, 119, 120, 121, 122]
def wordText : List Nat := [102, 111, 114, 101, 115, 116, 32, 107, 105, 110, 100, 32, 115, 116, 97, 110, 100, 32, 110, 101, 97, 114, 32, 103, 97, 112, 32, 115, 116, 111, 114, 109, 115, 32, 98, 101, 101, 116, 108, 101, 115, 32, 121, 97, 114, 100, 32, 100, 117, 101, 32, 102, 105, 114, 109, 32, 101, 110, 100]
def wordList : List (List Nat) := [[102, 111, 114, 101, 115, 116], [107, 105, 110, 100], [115, 116, 97, 110, 100], [110, 101, 97, 114], [103, 97, 112], [115, 116, 111, 114, 109, 115], [98, 101, 101, 116, 108, 101, 115], [121, 97, 114, 100], [100, 117, 101], [102, 105, 114, 109], [101, 110, 100]]
def b_is_number : Fn := ⟨1, 1, [.ret (.and (.isi (.var 0) [.int]) (.not (.isi (.var 0) [.bool])))]⟩
def b_is_label : Fn := ⟨1, 1, [.ret (.and (.isi (.var 0) [.str]) (.and (.cmp2 .le .le (.int 1) (.b1 .len [(.var 0)]) (.glo 2)) (.cmp .eq (.met .strip (.var 0) [(.glo 1)]) (.str []))))]⟩
def b_is_name : Fn := ⟨1, 1, [.ret (.and (.call 1 [(.var 0)]) (.cmp .nmem (.var 0) (.glo 0)))]⟩
def b_common_divisor : Fn := ⟨2, 2, [.whl (.cmp .gt (.var 1) (.int 0)) [.par [0, 1] [(.var 1), (.bin .mod (.var 0) (.var 1))]],
  .ret (.var 0)]⟩
def b_is_fraction : Fn := ⟨1, 1, [.ite (.or (.not (.isi (.var 0) [.tuple])) (.or (.cmp .ne (.b1 .len [(.var 0)]) (.int 2)) (.or (.not (.call 0 [(.sub (.var 0) (.int 0))])) (.not (.call 0 [(.sub (.var 0) (.int 1))]))))) [.ret (.bl false)] [],
  .ret (.and (.cmp .gt (.sub (.var 0) (.int 1)) (.int 0)) (.cmp .eq (.call 3 [(.b1 .abs [(.sub (.var 0) (.int 0))]), (.sub (.var 0) (.int 1))]) (.int 1)))]⟩
def b__law_pot : Fn := ⟨1, 2, [.ret (.lst [(.lc [1] false [1] (.b1 .abs [(.var 1)]) .seq (.slc (.var 0) false .non true (.int 63)) .non (.bl true)), (.int 0), (.int 20011), (.int 0)])]⟩
def b__law_draw : Fn := ⟨2, 4, [.ite (.cmp .lt (.var 1) (.int 2)) [.ret (.int 0)] [],
  .ite (.cmp .gt (.sub (.var 0) (.int 3)) (.int 0)) [.asg (.var 2) (.bin .mod (.b1 .int [(.sub (.var 0) (.int 3))]) (.var 1)),
  .asg (.sub (.var 0) (.int 3)) (.bin .fdiv (.sub (.var 0) (.int 3)) (.var 1)),
  .ret (.var 2)] [],
  .asg (.var 3) (.int 0),
  .ite (.cmp .lt (.sub (.var 0) (.int 1)) (.b1 .len [(.sub (.var 0) (.int 0))])) [.asg (.var 3) (.sub (.sub (.var 0) (.int 0)) (.sub (.var 0) (.int 1))),
  .asg (.sub (.var 0) (.int 1)) (.bin .add (.sub (.var 0) (.int 1)) (.int 1)),
  .ite (.cmp .ge (.var 3) (.bin .pow (.int 10) (.int 18))) [.asg (.sub (.var 0) (.int 3)) (.bin .fdiv (.var 3) (.var 1)),
  .ret (.bin .mod (.b1 .int [(.var 3)]) (.var 1))] []] [],
  .asg (.sub (.var 0) (.int 2)) (.bin .mod (.b1 .int [(.bin .add (.bin .add (.bin .mul (.sub (.var 0) (.int 2)) (.int 48271)) (.var 3)) (.int 12345))]) (.int 2147483647)),
  .ret (.bin .mod (.b1 .int [(.bin .add (.bin .fdiv (.bin .mul (.sub (.var 0) (.int 2)) (.sub (.var 0) (.int 2))) (.int 64)) (.bin .fdiv (.sub (.var 0) (.int 2)) (.int 7)))]) (.var 1))]⟩
def b__law_pick : Fn := ⟨2, 2, [.ret (.sub (.var 1) (.call 6 [(.var 0), (.b1 .len [(.var 1)])]))]⟩
def b__law_same : Fn := ⟨2, 3, [.ite (.or (.isi (.var 1) [.tuple]) (.isi (.var 1) [.list])) [.ite (.or (.cmp .ne (.isi (.var 1) [.tuple]) (.isi (.var 0) [.tuple])) (.cmp .ne (.isi (.var 1) [.list]) (.isi (.var 0) [.list]))) [.ret (.bl false)] [],
  .ite (.cmp .ne (.b1 .len [(.var 0)]) (.b1 .len [(.var 1)])) [.ret (.bl false)] [],
  .ret (.cmp .eq (.lc [2] false [2] (.var 2) .rng1 (.b1 .len [(.var 1)]) .non (.not (.call 8 [(.sub (.var 0) (.var 2)), (.sub (.var 1) (.var 2))]))) (.lst []))] [],
  .ite (.cmp .isN (.var 1) .non) [.ret (.cmp .isN (.var 0) .non)] [],
  .ite (.isi (.var 1) [.str]) [.ret (.and (.isi (.var 0) [.str]) (.cmp .eq (.var 0) (.var 1)))] [],
  .ret (.and (.isi (.var 0) [.int]) (.and (.cmp .eq (.isi (.var 0) [.bool]) (.isi (.var 1) [.bool])) (.cmp .eq (.var 0) (.var 1))))]⟩
def b__law_is_number : Fn := ⟨1, 1, [.ret (.and (.isi (.var 0) [.int]) (.not (.isi (.var 0) [.bool])))]⟩
def b__law_words : Fn := ⟨0, 0, [.ret (.met .split (.str wordText) [(.str [32])])]⟩
def b__law_word : Fn := ⟨1, 3, [.ite (.cmp .eq (.call 6 [(.var 0), (.int 6)]) (.int 0)) [.ret (.call 7 [(.var 0), (.call 10 [])])] [],
  .asg (.var 1) (.call 7 [(.var 0), (.lst [(.int 1), (.int 2), (.int 3), (.int 5), (.int 8)])]),
  .ret (.met .join (.str []) [(.lc [2] false [2] (.call 7 [(.var 0), (.str letters)]) .rng1 (.var 1) .non (.bl true))])]⟩
def b__law_is_label : Fn := ⟨1, 2, [.ite (.or (.not (.isi (.var 0) [.str])) (.not (.cmp2 .le .le (.int 1) (.b1 .len [(.var 0)]) (.int 8)))) [.ret (.bl false)] [],
  .ret (.cmp .eq (.bl1 .len (.lc [1] false [1] (.var 1) .seq (.var 0) .non (.cmp .mem (.var 1) (.str letters)))) (.b1 .len [(.var 0)]))]⟩
def b__law_is_name : Fn := ⟨1, 1, [.ret (.and (.call 12 [(.var 0)]) (.cmp .nmem (.var 0) (.call 10 [])))]⟩
def b__law_shares_none : Fn := ⟨2, 2, [.ite (.cmp .lt (.var 1) (.int 1)) [.ret (.bl false)] [],
  .asg (.var 0) (.b1 .abs [(.var 0)]),
  .whl (.cmp .gt (.var 0) (.int 0)) [.par [0, 1] [(.bin .mod (.b1 .int [(.var 1)]) (.var 0)), (.var 0)]],
  .ret (.cmp .eq (.var 1) (.int 1))]⟩
def b_law : Fn := ⟨1, 15, [.asg (.var 1) (.call 5 [(.var 0)]),
  .ite (.not (.call 8 [(.glo 0), (.bl1 .tuple (.call 10 []))])) [.ret (.bl false)] [],
  .for false [2] .rng1 (.int 8) .non [.asg (.var 3) (.call 11 [(.var 1)]),
  .asg (.var 4) (.call 6 [(.var 1), (.bin .add (.b1 .len [(.var 3)]) (.int 1))]),
  .asg (.var 5) (.bin .add (.bin .add (.slc (.var 3) false .non true (.var 4)) (.call 7 [(.var 1), (.lst [(.str []), (.str []), (.str [97]), (.str [65]), (.str [49]), (.str [32]), (.str [115]), (.str [122, 122])])])) (.slc (.var 3) true (.var 4) false .non)),
  .asg (.var 6) (.lst [(.call 12 [(.var 5)]), (.call 13 [(.var 5)]), (.bl false), (.bl false)]),
  .ite (.not (.call 8 [(.lst [(.call 1 [(.var 5)]), (.call 2 [(.var 5)]), (.call 0 [(.var 5)]), (.call 4 [(.var 5)])]), (.var 6)])) [.ret (.bl false)] [],
  .asg (.var 7) (.call 7 [(.var 1), (.lst [(.int 3), (.int 12), (.int 60), (.bin .pow (.int 10) (.int 38))])]),
  .par [8, 9] [(.bin .sub (.call 6 [(.var 1), (.bin .mul (.int 2) (.var 7))]) (.var 7)), (.bin .sub (.call 6 [(.var 1), (.bin .add (.var 7) (.int 2))]) (.int 1))],
  .asg (.var 10) (.call 7 [(.var 1), (.lst [(.tup [(.var 8), (.var 9)]), (.tup [(.int 0), (.var 9)]), (.tup [(.int 6), (.int 4)]), (.tup [(.bl true), (.int 1)]), (.tup [(.int 1), (.bl true)]), (.lst [(.int 1), (.int 2)]), (.tup [(.int 1)]), (.tup [(.int 1), (.int 2), (.int 3)]), (.tup [(.str [49]), (.int 2)])])]),
  .asg (.var 11) (.and (.isi (.var 10) [.tuple]) (.and (.cmp .eq (.b1 .len [(.var 10)]) (.int 2)) (.and (.call 9 [(.sub (.var 10) (.int 0))]) (.call 9 [(.sub (.var 10) (.int 1))])))),
  .ite (.not (.call 8 [(.call 4 [(.var 10)]), (.and (.var 11) (.call 14 [(.sub (.var 10) (.int 0)), (.sub (.var 10) (.int 1))]))])) [.ret (.bl false)] []],
  .asg (.var 12) (.bin .sub (.call 6 [(.var 1), (.bin .pow (.int 10) (.int 39))]) (.bin .mul (.int 5) (.bin .pow (.int 10) (.int 38)))),
  .asg (.var 13) (.lst [.non, (.bl true), (.bl false), (.tup []), (.lst [(.var 5)]), (.dct []), (.tup [(.str [97])]), (.dct [(.str [97]), (.int 1)])]),
  .for false [14] .seq (.var 13) .non [.ite (.not (.call 8 [(.lst [(.call 1 [(.var 14)]), (.call 2 [(.var 14)]), (.call 0 [(.var 14)]), (.call 4 [(.var 14)])]), (.bin .mul (.lst [(.bl false)]) (.int 4))])) [.ret (.bl false)] []],
  .ret (.call 8 [(.lst [(.call 0 [(.var 12)]), (.call 1 [(.var 12)]), (.call 4 [(.tup [(.var 12), (.int 1)])]), (.call 4 [(.var 12)])]), (.lst [(.bl true), (.bl false), (.bl true), (.bl false)])])]⟩
def bodies : List Fn := [b_is_number, b_is_label, b_is_name, b_common_divisor, b_is_fraction, b__law_pot, b__law_draw, b__law_pick, b__law_same, b__law_is_number, b__law_words, b__law_word, b__law_is_label, b__law_is_name, b__law_shares_none, b_law]
def cons : List W := [.tup (wordList.map .str), .str letters, .int 8]
abbrev D : Prog := ⟨fun i => bodies[i]?, fun i => cons[i]?, fun _ _ => none, fun _ => none, 10 ^ 100⟩
end K01
end M2

namespace M2
/-! ### steps -/
section
variable {A B : Type}
@[simp] theorem then_okk (a : A) (h : Hm) (k : A → Hm → R B) : (R.ok a h).then k = k a h := id rfl
@[simp] theorem then_badk (k : A → Hm → R B) : (R.bad : R A).then k = .bad := id rfl
@[simp] theorem ofR_ok (a : A) (h : Hm) (s : Env) (k : A → Hm → RS) : RS.ofR (R.ok a h) s k = k a h := id rfl
@[simp] theorem seq_nx (s : Env) (h : Hm) (k : Env → Hm → RS) : (RS.nx s h).seq k = k s h := id rfl
@[simp] theorem seq_rt (w : W) (h : Hm) (k : Env → Hm → RS) : (RS.rt w h).seq k = .rt w h := id rfl
@[simp] theorem iteB_t (a b : Hm → R A) (h : Hm) : iteB a b true h = a h := id rfl
@[simp] theorem iteB_f (a b : Hm → R A) (h : Hm) : iteB a b false h = b h := id rfl
@[simp] theorem truth_bl (h : Hm) (b : Bool) : truth h (.bl b) = some b := id rfl
@[simp] theorem truthOf_bl (h : Hm) (b : Bool) : truthOf (.bl b) h = .ok b h := id rfl
@[simp] theorem andV_t (b : Hm → R W) (h : Hm) : andV b (.bl true) h = b h := id rfl
@[simp] theorem andV_f (b : Hm → R W) (h : Hm) : andV b (.bl false) h = .ok (.bl false) h := id rfl
@[simp] theorem orV_t (b : Hm → R W) (h : Hm) : orV b (.bl true) h = .ok (.bl true) h := id rfl
@[simp] theorem orV_f (b : Hm → R W) (h : Hm) : orV b (.bl false) h = b h := id rfl
@[simp] theorem notV_ok (b : Bool) (h : Hm) : notV b h = .ok (.bl (!b)) h := id rfl
@[simp] theorem notB_ok (b : Bool) (h : Hm) : notB b h = .ok (!b) h := id rfl
theorem andV_b (b : Hm → R W) (x : Bool) (h : Hm) : andV b (.bl x) h = if x then b h else .ok (.bl false) h := by cases x <;> rfl
theorem iteB_b (a b : Hm → R A) (x : Bool) (h : Hm) : iteB a b x h = if x then a h else b h := by cases x <;> rfl
@[simp] theorem mkV_v (v : DV) : (mkV v).v = v := id rfl
@[simp] theorem mkV_t (v : DV) : (mkV v).t = fun s h => (v s h).then truthOf := id rfl
@[simp] theorem mkV_l (v : DV) : (mkV v).l = fun s h => (v s h).then rowOf := id rfl
@[simp] theorem mkL_v (l : DL) : (mkL l).v = fun s h => (l s h).then newL := id rfl
@[simp] theorem mkL_l (l : DL) : (mkL l).l = l := id rfl
end
@[simp] theorem var_some {i : Nat} {s : Env} {h : Hm} {w : W} (e : s[i]? = some (some w)) : varV i s h = .ok w h := by unfold varV; rw [e]
@[simp] theorem c_lt (i j : Int) (h : Hm) : cmpop .lt (.int i) (.int j) h = .ok (.bl (decide (i < j))) h := id rfl
@[simp] theorem c_le (i j : Int) (h : Hm) : cmpop .le (.int i) (.int j) h = .ok (.bl (decide (i ≤ j))) h := id rfl
@[simp] theorem c_gt (i j : Int) (h : Hm) : cmpop .gt (.int i) (.int j) h = .ok (.bl (decide (j < i))) h := id rfl
@[simp] theorem c_ge (i j : Int) (h : Hm) : cmpop .ge (.int i) (.int j) h = .ok (.bl (decide (j ≤ i))) h := id rfl
@[simp] theorem c_eq (x y : W) (h : Hm) : cmpop .eq x y h = rb (eqV h x y) h := id rfl
@[simp] theorem c_ne (x y : W) (h : Hm) : cmpop .ne x y h = rnb (eqV h x y) h := id rfl
@[simp] theorem c_mem (x y : W) (h : Hm) : cmpop .mem x y h = rb (memV h x y) h := id rfl
@[simp] theorem c_nmem (x y : W) (h : Hm) : cmpop .nmem x y h = rnb (memV h x y) h := id rfl
@[simp] theorem rb_ok (b : Bool) (h : Hm) : rb (some b) h = .ok (.bl b) h := id rfl
@[simp] theorem rnb_ok (b : Bool) (h : Hm) : rnb (some b) h = .ok (.bl (!b)) h := id rfl
@[simp] theorem eqV_int (h : Hm) (i j : Int) : eqV h (.int i) (.int j) = some (i == j) := id rfl
@[simp] theorem eqV_str (h : Hm) (i j : List Nat) : eqV h (.str i) (.str j) = some (i == j) := id rfl
@[simp] theorem eqV_bl (h : Hm) (i j : Bool) : eqV h (.bl i) (.bl j) = some (i == j) := id rfl
@[simp] theorem b_add (i j : Int) (h : Hm) : binop .add (.int i) (.int j) h = .ok (.int (i + j)) h := id rfl
@[simp] theorem b_sub (i j : Int) (h : Hm) : binop .sub (.int i) (.int j) h = .ok (.int (i - j)) h := id rfl
theorem b_mod {i j : Int} {h : Hm} (hj : 0 < j) : binop .mod (.int i) (.int j) h = .ok (.int (i % j)) h := by show (if 0 < j then _ else _) = _; rw [if_pos hj]
theorem b_fdiv {i j : Int} {h : Hm} (hj : 0 < j) (hl : j.natAbs.log2 < 9000) : binop .fdiv (.int i) (.int j) h = .ok (.int (i / j)) h := by show (if 0 < j ∧ _ then _ else _) = _; rw [if_pos ⟨hj, hl⟩]
theorem b_mul {i j : Int} {h : Hm} (hl : i.natAbs.log2 + j.natAbs.log2 < 1000000) : binop .mul (.int i) (.int j) h = .ok (.int (i * j)) h := by show (if _ then _ else _) = _; rw [if_pos hl]
theorem b_pow {i j : Int} {h : Hm} (h1 : 0 ≤ j) (h2 : j ≤ 1000000) (h3 : i.natAbs < 2 ^ 64) : binop .pow (.int i) (.int j) h = .ok (.int (i ^ j.toNat)) h := by show (if _ then _ else _) = _; rw [if_pos ⟨h1, h2, h3⟩]
@[simp] theorem b1_int (i : Int) (h : Hm) : b1op .int [.int i] h = .ok (.int i) h := id rfl
@[simp] theorem b1_abs (i : Int) (h : Hm) : b1op .abs [.int i] h = .ok (.int (if i < 0 then -i else i)) h := id rfl
/-- a while's turns, by what its test and its body do -/
theorem whl_pair {c : Env → Hm → R Bool} {f : Env → Hm → RS} {h : Hm} {S : Int → Int → Env} {fa fb : Int → Int → Int} (meas : Int → Int → Nat) (ok go : Int → Int → Prop) (hg : ∀ a b, Decidable (go a b))
    (hc : ∀ a b, ok a b → c (S a b) h = .ok (decide (go a b)) h) (hf : ∀ a b, ok a b → go a b → f (S a b) h = .nx (S (fa a b) (fb a b)) h ∧ ok (fa a b) (fb a b) ∧ meas (fa a b) (fb a b) < meas a b) (P : Int → Int → Env → Prop)
    (hp : ∀ a b, ok a b → ¬ go a b → P a b (S a b)) (hs : ∀ a b s, ok a b → go a b → P (fa a b) (fb a b) s → P a b s) : ∀ (m : Nat) (a b : Int), ok a b → meas a b < m → ∃ s, whlGo c f m (S a b) h = .nx s h ∧ P a b s
  | 0, _, _, _, hm => by omega
  | m + 1, a, b, o, hm => by
    rw [whlGo, hc a b o]
    by_cases h0 : go a b
    · obtain ⟨h1, h2, h3⟩ := hf a b o h0
      simp only [decide_eq_true h0, h1]
      obtain ⟨s, e, p⟩ := whl_pair meas ok go hg hc hf P hp hs m (fa a b) (fb a b) h2 (by omega)
      exact ⟨s, e, hs a b s o h0 p⟩
    · simp only [decide_eq_false h0]
      exact ⟨_, rfl, hp a b o h0⟩
@[simp] theorem evSs_nil (C : Ctx) (s : Env) (h : Hm) : evSs C [] s h = .nx s h := by rw [evSs]
theorem evSs_nx {C : Ctx} {x : S} {l : List S} {s s' : Env} {h h' : Hm} (e : evS C x s h = .nx s' h') : evSs C (x :: l) s h = evSs C l s' h' := by rw [evSs, e]; rfl
theorem evSs_rt {C : Ctx} {x : S} {l : List S} {s : Env} {h h' : Hm} {w : W} (e : evS C x s h = .rt w h') : evSs C (x :: l) s h = .rt w h' := by rw [evSs, e]; rfl
theorem gc_same {h0 h : Hm} (w : W) (e : h.length = h0.length) : gc h0 w h = .ok w h := by
  unfold gc
  have t : h.take h0.length = h := List.take_of_length_le (Nat.le_of_eq e)
  rw [t]
  split
  · cases w with
    | ref r =>
      simp only
      split
      · rfl
      · rename_i hr
        have : h[r]? = none := List.getElem?_eq_none (by omega)
        rw [this]
    | _ => simp
  · rfl
@[simp] theorem gc_self (h : Hm) (w : W) : gc h w h = .ok w h := gc_same w rfl
/-- what a call only laid is let go -/
theorem gc_new {h0 h : Hm} (w : W) (e : h.take h0.length = h0) (c : w.cl h0.length = true) : gc h0 w h = .ok w h0 := by
  unfold gc
  have b : baseOk h0 h = true := by unfold baseOk; rw [decide_eq_true e]; rfl
  rw [b, if_pos rfl]
  cases w with
  | ref r =>
    simp only
    rw [W.cl] at c
    rw [if_pos (of_decide_eq_true c), e]
  | _ => simp only [c, if_true, e]
@[simp] theorem gc_app (h t : Hm) (b : Bool) : gc h (.bl b) (h ++ t) = .ok (.bl b) h := gc_new _ (by simp) rfl
@[simp] theorem back_rt (h0 h : Hm) (w : W) : back h0 (.rt w h) = gc h0 w h := id rfl
@[simp] theorem back_nx (h0 h : Hm) (s : Env) : back h0 (.nx s h) = gc h0 .non h := id rfl
theorem isi_of {ts : List Ty} {w : W} {h : Hm} {k : Kd} (e : kd h w = some k) (hl : ts.length ≤ line) : isiV ts w h = .ok (.bl (ts.any (isK k))) h := by unfold isiV; rw [e]; simp [hl]
@[simp] theorem isi_1 {t : Ty} {w : W} {h : Hm} {k : Kd} (e : kd h w = some k) : isiV [t] w h = .ok (.bl (isK k t)) h := by rw [isi_of e (by simp [line])]; simp
/-- a comprehension whose turns leave the heap -/
theorem comp_go {A : Type} {f : W → Hm → R (Option A)} {h : Hm} {g : W → Option A} : ∀ {its : List W} {acc : List A}, (∀ x ∈ its, f x h = .ok (g x) h) → compGo f [] its acc h = .ok (acc ++ its.filterMap g) h
  | [], acc, _ => by simp [compGo, okG]
  | x :: l, acc, hf => by
    have h1 := hf x (by simp)
    have ih := fun acc => comp_go (f := f) (h := h) (g := g) (its := l) (acc := acc) fun y hy => hf y (by simp [hy])
    rw [compGo]
    have : okG [] h = true := rfl
    rw [this, if_pos rfl, h1]
    cases e : g x with
    | none => simp only; rw [ih, List.filterMap_cons, e]
    | some a => simp only; rw [ih, List.filterMap_cons, e]; simp
theorem comp_run {f : W → Hm → R (Option W)} {h : Hm} {g : W → Option W} {its : List W} (hf : ∀ x ∈ its, f x h = .ok (g x) h) (hl : its.length ≤ line) : compRun f ⟨its, [], h, none⟩ h = .ok (its.filterMap g) h := by
  unfold compRun
  simp only
  rw [comp_go hf]
  have : ([] ++ its.filterMap g).length ≤ line := Nat.le_trans (by simpa using List.length_filterMap_le g its) hl
  simp only [compEnd]
  rw [if_pos this]
  rfl
theorem small_m {m : Nat} (hm : m ≤ 1000) : small62 (m : Int) = true := by unfold small62; exact decide_eq_true (by omega)
theorem src_rng1 {m : Nat} {w : W} {h : Hm} (e : small62 (m : Int) = true) : src .rng1 (.int m) w h = some ⟨upto 0 m, [], h, none⟩ := by
  unfold src
  simp only
  rw [e]
  rfl
theorem srcV_of {it : It} {x w : W} {h : Hm} {q : Src} (e : src it x w h = some q) : srcV it x w h = .ok q q.h := by
  unfold srcV
  rw [e]
theorem src_rng0 {m : Nat} {w : W} {h : Hm} (e : small62 (m : Int) = true) : srcV .rng1 (.int m) w h = .ok ⟨upto 0 m, [], h, none⟩ h := srcV_of (src_rng1 e)
theorem src_rng {m : Nat} {w : W} {h : Hm} (hm : m ≤ 1000) : srcV .rng1 (.int m) w h = .ok ⟨upto 0 m, [], h, none⟩ h := src_rng0 (small_m hm)
theorem short_nil (h : Hm) : short [] h = .ok [] h := by
  unfold short
  exact if_pos (Nat.zero_le _)
theorem le_line {m : Nat} (h : m ≤ 1000) : m ≤ line := Nat.le_trans h (by decide +kernel)
theorem eq_refs {h : Hm} {i j : Nat} {l m : List W} (e1 : asL h i = some l) (e2 : asL h j = some m) : eqV h (.ref i) (.ref j) = if l.length = m.length then allEq (eqH h 59) l m else some false := by
  unfold eqV
  rw [eqH, e1, e2]
namespace K01
/-! a call, unfolded -/
theorem run_at {n i : Nat} {f : Fn} {ws : List W} {h : Hm} (e : bodies[i]? = some f) (hl : ws.length = f.np) : run D (n + 1) i ws h = back h (evSs (ctx D n) f.body (start f ws) h) := by
  rw [run]
  show (match bodies[i]? with | some d => callFn _ d ws h | none => .bad) = _
  rw [e]
  show callFn (ctx D n) f ws h = _
  rw [callFn, if_pos hl]
@[simp] theorem ctx_call (n : Nat) : (ctx D n).call = run D n := id rfl
@[simp] theorem con0 (n : Nat) (h : Hm) : conV (ctx D n) 0 h = .ok (.tup (wordList.map .str)) h := id rfl
@[simp] theorem con1 (n : Nat) (h : Hm) : conV (ctx D n) 1 h = .ok (.str letters) h := id rfl
@[simp] theorem con2 (n : Nat) (h : Hm) : conV (ctx D n) 2 h = .ok (.int 8) h := id rfl
def isNum : W → Bool
  | .int _ => true
  | _ => false
theorem kd_num {h : Hm} {w : W} {k : Kd} (e : kd h w = some k) : (isK k .int && !isK k .bool) = isNum w := by
  cases w with
  | ref r =>
    unfold kd at e
    simp only at e
    split at e <;> cases e <;> rfl
  | _ => cases e <;> rfl
theorem is_number {n : Nat} {w : W} {h : Hm} {k : Kd} (e : kd h w = some k) : run D (n + 1) 0 [w] h = .ok (.bl (isNum w)) h := by
  rw [run_at (f := b_is_number) rfl rfl, ← kd_num e]
  simp [b_is_number, evSs, evS, evE, den, start, varV, e, andV_b]
  cases isK k .int <;> simp
theorem law_is_number {n : Nat} {w : W} {h : Hm} {k : Kd} (e : kd h w = some k) : run D (n + 1) 9 [w] h = .ok (.bl (isNum w)) h := by
  rw [run_at (f := b__law_is_number) rfl rfl, ← kd_num e]
  simp [b__law_is_number, evSs, evS, evE, den, start, varV, e, andV_b]
  cases isK k .int <;> simp
/-! ### common divisors -/
theorem gcd_step {a b : Int} (ha : 0 ≤ a) (hb : 0 < b) : Int.gcd b (a % b) = Int.gcd a b := by
  obtain ⟨x, rfl⟩ := Int.eq_ofNat_of_zero_le ha
  obtain ⟨y, rfl⟩ := Int.eq_ofNat_of_zero_le (Int.le_of_lt hb)
  rw [← Int.natCast_emod]
  show Nat.gcd y (x % y) = Nat.gcd x y
  rw [Nat.gcd_comm, ← Nat.gcd_rec, Nat.gcd_comm]
theorem common_divisor {n : Nat} {a b : Int} {h : Hm} (ha : 0 ≤ a) (hb : 0 ≤ b) (hs : b.toNat < 10 ^ 100) : run D (n + 1) 3 [.int a, .int b] h = .ok (.int (Int.gcd a b)) h := by
  rw [run_at (f := b_common_divisor) rfl rfl]
  have key := whl_pair (c := fun s h => evT (ctx D n) s (.cmp .gt (.var 1) (.int 0)) h) (f := evSs (ctx D n) [.par [0, 1] [(.var 1), (.bin .mod (.var 0) (.var 1))]]) (h := h) (S := fun a b => [some (.int a), some (.int b)])
    (fa := fun a b => b) (fb := fun a b => a % b) (fun a b => b.toNat) (fun a b => 0 ≤ a ∧ 0 ≤ b) (fun a b => 0 < b) (fun _ _ => inferInstance)
    (fun a b _ => by simp [evT, den, varV])
    (fun a b o g => by
      have h1 := Int.emod_lt_of_pos a g
      have h2 := Int.emod_nonneg a (show b ≠ 0 by omega)
      refine ⟨?_, ⟨by omega, h2⟩, by show (a % b).toNat < b.toNat; omega⟩
      simp [evSs, evS, evEs, den, denL, varV, b_mod g, setAll, nxE])
    (fun a b s => s = [some (.int (Int.gcd a b)), some (.int 0)])
    (fun a b o g => by
      have : b = 0 := by omega
      subst this
      simp [Int.gcd_zero_right, Int.natAbs_of_nonneg o.1])
    (fun a b s o g e => by
      rw [e]
      simp [gcd_step o.1 g])
    (10 ^ 100) a b ⟨ha, hb⟩ hs
  obtain ⟨s, e, rfl⟩ := key
  have e2 : evS (ctx D n) (.whl (.cmp .gt (.var 1) (.int 0)) [.par [0, 1] [(.var 1), (.bin .mod (.var 0) (.var 1))]]) [some (.int a), some (.int b)] h = .nx [some (.int (Int.gcd a b)), some (.int 0)] h := by
    rw [evS]; exact e
  show back h (evSs _ [_, _] [some (.int a), some (.int b)] h) = _
  rw [evSs_nx e2]
  simp [evSs, evS, evE, den, varV]
theorem shares_none {n : Nat} {a b : Int} {h : Hm} (hs : a.natAbs < 10 ^ 100) : run D (n + 1) 14 [.int a, .int b] h = .ok (.bl (decide (1 ≤ b) && (Int.gcd a b == 1))) h := by
  rw [run_at (f := b__law_shares_none) rfl rfl]
  by_cases hb : b < 1
  · have : decide (1 ≤ b) = false := decide_eq_false (by omega)
    simp [b__law_shares_none, evSs, evS, evT, evE, den, start, varV, hb, this]
  · have key := whl_pair (c := fun s h => evT (ctx D n) s (.cmp .gt (.var 0) (.int 0)) h) (f := evSs (ctx D n) [.par [0, 1] [(.bin .mod (.b1 .int [(.var 1)]) (.var 0)), (.var 0)]]) (h := h) (S := fun a b => [some (.int a), some (.int b)])
      (fa := fun a b => b % a) (fb := fun a b => a) (fun a b => a.toNat) (fun a b => 0 ≤ a ∧ 0 ≤ b) (fun a b => 0 < a) (fun _ _ => inferInstance)
      (fun a b _ => by simp [evT, den, varV])
      (fun a b o g => by
        have h1 := Int.emod_lt_of_pos b g
        have h2 := Int.emod_nonneg b (show a ≠ 0 by omega)
        refine ⟨?_, ⟨h2, by omega⟩, by show (b % a).toNat < a.toNat; omega⟩
        simp [evSs, evS, evEs, den, denL, varV, b_mod g, setAll, nxE])
      (fun a b s => s = [some (.int 0), some (.int (Int.gcd a b))])
      (fun a b o g => by
        have : a = 0 := by omega
        subst this
        simp [Int.gcd_zero_left, Int.natAbs_of_nonneg o.2])
      (fun a b s o g e => by
        rw [e]
        have := gcd_step o.2 g
        rw [Int.gcd_comm] at this
        rw [Int.gcd_comm b a] at this
        simp [this])
      (10 ^ 100) (a.natAbs : Int) b ⟨by omega, by omega⟩ (by simpa using hs)
    obtain ⟨s, e, rfl⟩ := key
    have e2 : evS (ctx D n) (.whl (.cmp .gt (.var 0) (.int 0)) [.par [0, 1] [(.bin .mod (.b1 .int [(.var 1)]) (.var 0)), (.var 0)]]) [some (.int (a.natAbs : Int)), some (.int b)] h = .nx [some (.int 0), some (.int (Int.gcd (a.natAbs : Int) b))] h := by
      rw [evS]; exact e
    have ea : (if a < 0 then -a else a) = (a.natAbs : Int) := by split <;> omega
    have e3 : evSs (ctx D n) b__law_shares_none.body [some (.int a), some (.int b)] h = evSs (ctx D n) [.whl (.cmp .gt (.var 0) (.int 0)) [.par [0, 1] [(.bin .mod (.b1 .int [(.var 1)]) (.var 0)), (.var 0)]], .ret (.cmp .eq (.var 1) (.int 1))] [some (.int (a.natAbs : Int)), some (.int b)] h := by
      show evSs (ctx D n) [_, _, _, _] _ _ = _
      rw [evSs_nx (s' := [some (.int a), some (.int b)]) (h' := h) (by simp [evS, evT, den, varV, hb])]
      rw [evSs_nx (s' := [some (.int (a.natAbs : Int)), some (.int b)]) (h' := h) (by simp [evS, evE, den, denL, varV, asg, ea])]
    show back h (evSs _ _ [some (.int a), some (.int b)] h) = _
    rw [e3, evSs_nx e2]
    have hb1 : decide (1 ≤ b) = true := decide_eq_true (by omega)
    simp [evSs, evS, evE, den, varV, hb1]
    have : Int.gcd (a.natAbs : Int) b = Int.gcd a b := by simp [Int.gcd]
    rw [this]
    apply Bool.eq_iff_iff.mpr
    simp only [beq_iff_eq]
    omega
/-! ### labels -/
def okSigns (l : List Nat) : Bool := l.all letters.contains
def isLab : W → Bool
  | .str l => decide (1 ≤ l.length) && (decide (l.length ≤ 8) && okSigns l)
  | _ => false
theorem dropIn_nil {cs : List Nat} : ∀ {l : List Nat}, dropIn cs l = [] ↔ l.all cs.contains = true
  | [] => by simp [dropIn]
  | c :: l => by
    unfold dropIn
    cases h : cs.contains c with
    | true => have h' : c ∈ cs := by simpa using h
              rw [if_pos rfl, dropIn_nil]; simp [h']
    | false => have h' : ¬ c ∈ cs := by simpa using h
               rw [if_neg Bool.false_ne_true]; simp [h']
theorem dropIn_all {cs l : List Nat} (h : l.all cs.contains = true) : dropIn cs l = [] := dropIn_nil.mpr h
theorem dropIn_suf {cs : List Nat} : ∀ (l : List Nat), ∃ t, l = t ++ dropIn cs l ∧ t.all cs.contains = true
  | [] => ⟨[], rfl, rfl⟩
  | c :: l => by
    unfold dropIn
    cases h : cs.contains c with
    | true =>
      rw [if_pos rfl]
      obtain ⟨t, e, a⟩ := dropIn_suf l
      exact ⟨c :: t, by rw [List.cons_append, ← e], by rw [List.all_cons, h, a]; rfl⟩
    | false => rw [if_neg Bool.false_ne_true]; exact ⟨[], rfl, rfl⟩
theorem strip_nil {l : List Nat} : (stripIn letters l).isEmpty = okSigns l := by
  unfold stripIn okSigns
  apply Bool.eq_iff_iff.mpr
  rw [List.isEmpty_iff, List.reverse_eq_nil_iff, dropIn_nil, List.all_reverse]
  constructor
  · intro h
    obtain ⟨t, e, a⟩ := dropIn_suf (cs := letters) l
    rw [e, List.all_append, a, h]; rfl
  · intro h
    rw [dropIn_all h]; rfl
theorem is_label {n : Nat} {w : W} {h : Hm} {k : Kd} (e : kd h w = some k) (hl : ∀ l, w = .str l → l.length ≤ line) : run D (n + 1) 1 [w] h = .ok (.bl (isLab w)) h := by
  rw [run_at (f := b_is_label) rfl rfl]
  cases w with
  | str l =>
    have hz := hl l rfl
    cases e
    simp [b_is_label, evSs, evS, evE, den, denL, start, varV, isi_1 (show kd h (.str l) = some .str from rfl), isK, b1op, b1u, hz]
    by_cases h1 : 1 ≤ l.length
    · by_cases h2 : l.length ≤ 8
      · have h2' : (l.length : Int) ≤ 8 := by omega
        have h1' : (1 : Int) ≤ l.length := by omega
        simp [chainV, h1', h2', recv, isRecv, met1, hz, isLab, h1, h2]
        exact strip_nil
      · have h2' : ¬ (l.length : Int) ≤ 8 := by omega
        have h1' : (1 : Int) ≤ l.length := by omega
        simp [chainV, h1', h2', isLab, h2]
    · have h1' : ¬ (1 : Int) ≤ l.length := by omega
      simp [chainV, h1', isLab, h1]
  | ref r =>
    have : isK k .str = false := by
      unfold kd at e
      simp only at e
      split at e <;> cases e <;> rfl
    simp [b_is_label, evSs, evS, evE, den, denL, start, varV, isi_1 e, this, isLab]
  | _ =>
    have : isK k .str = false := by cases e; rfl
    simp [b_is_label, evSs, evS, evE, den, denL, start, varV, isi_1 e, this, isLab]
def sel (w : W) : Option W := match w with
  | .str [c] => if letters.contains c then some (.str [c]) else none
  | _ => none
theorem filt_len {l : List Nat} : ((l.map fun c => W.str [c]).filterMap sel).length = (l.filter letters.contains).length := by
  induction l with
  | nil => rfl
  | cons c l ih =>
    rw [List.map_cons, List.filterMap_cons, List.filter_cons]
    cases h : letters.contains c with
    | true =>
      have : sel (.str [c]) = some (.str [c]) := by simp only [sel, h, if_true]
      rw [this, if_pos rfl]
      simp only [List.length_cons, ih]
    | false =>
      have : sel (.str [c]) = none := by simp only [sel, h]; rfl
      rw [this, if_neg Bool.false_ne_true]
      exact ih
theorem filt_all {l : List Nat} : ((l.filter letters.contains).length == l.length) = okSigns l := by
  unfold okSigns
  apply Bool.eq_iff_iff.mpr
  rw [beq_iff_eq, List.length_filter_eq_length_iff, List.all_eq_true]
theorem law_is_label {n : Nat} {w : W} {h : Hm} {k : Kd} (e : kd h w = some k) (hl : ∀ l, w = .str l → l.length ≤ line) : run D (n + 1) 12 [w] h = .ok (.bl (isLab w)) h := by
  rw [run_at (f := b__law_is_label) rfl rfl]
  have other : isK k .str = false → isLab w = false → back h (evSs (ctx D n) b__law_is_label.body (start b__law_is_label [w]) h) = .ok (.bl (isLab w)) h := fun h1 h2 => by
    simp [b__law_is_label, evSs, evS, evE, evT, den, denL, start, varV, isi_1 e, h1, h2]
  cases w with
  | str l =>
    have hz := hl l rfl
    cases e
    by_cases h1 : 1 ≤ l.length
    · by_cases h2 : l.length ≤ 8
      · have h2' : (l.length : Int) ≤ 8 := by omega
        have h1' : (1 : Int) ≤ l.length := by omega
        have cr : compRun (compTurn false [1] (fun s h => ((varV 1 s h).then fun x h1 => M2.rb (memV h1 x (.str letters)) h1).then truthOf) (varV 1) [some (.str l), none]) ⟨l.map fun c => .str [c], [], h, none⟩ h = .ok _ h :=
          comp_run (g := sel) (fun x hx => by
            obtain ⟨c, _, rfl⟩ := List.mem_map.mp hx
            simp only [compTurn, setT, setAll, varV]
            have : memV h (.str [c]) (.str letters) = some (letters.contains c) := rfl
            cases hc : letters.contains c with
            | true =>
              have hs : sel (.str [c]) = some (.str [c]) := by simp only [sel, hc, if_true]
              rw [hc] at this
              simp [this, hs, -rb_ok, M2.rb]
            | false =>
              have hs : sel (.str [c]) = none := by simp only [sel, hc]; rfl
              rw [hc] at this
              simp [this, hs, -rb_ok, M2.rb]) (by simpa using hz)
        have e1 : evS (ctx D n) (.ite (.or (.not (.isi (.var 0) [.str])) (.not (.cmp2 .le .le (.int 1) (.b1 .len [(.var 0)]) (.int 8)))) [.ret (.bl false)] []) [some (.str l), none] h = .nx [some (.str l), none] h := by
          simp [evSs, evS, evE, evT, den, denL, varV, isi_1 (show kd h (.str l) = some .str from rfl), isK, b1op, b1u, hz, chainV, h1', h2']
        show back h (evSs _ [_, _] [some (.str l), none] h) = _
        rw [evSs_nx e1]
        simp [evSs, evS, evE, den, denL, srcV, src, cr, blop, b1op, b1u, hz]
        rw [← List.filterMap_map, filt_len]
        have hi : ((((l.filter letters.contains).length : Int)) == (l.length : Int)) = ((l.filter letters.contains).length == l.length) := by
          apply Bool.eq_iff_iff.mpr
          simp only [beq_iff_eq]
          omega
        rw [hi, filt_all]
        simp [isLab, h1, h2]
      · have h2' : ¬ (l.length : Int) ≤ 8 := by omega
        have h1' : (1 : Int) ≤ l.length := by omega
        simp [b__law_is_label, evSs, evS, evE, evT, den, denL, start, varV, isi_1 (show kd h (.str l) = some .str from rfl), isK, b1op, b1u, hz, chainV, h1', h2', isLab, h2]
    · have h1' : ¬ (1 : Int) ≤ l.length := by omega
      simp [b__law_is_label, evSs, evS, evE, evT, den, denL, start, varV, isi_1 (show kd h (.str l) = some .str from rfl), isK, b1op, b1u, hz, chainV, h1', isLab, h1]
  | ref r =>
    refine other ?_ rfl
    unfold kd at e
    simp only at e
    split at e <;> cases e <;> rfl
  | _ => exact other (by cases e; rfl) rfl
/-! ### words, names -/
theorem law_words {n : Nat} {h : Hm} : run D (n + 1) 10 [] h = .ok (.ref h.length) (h ++ [.lst (wordList.map .str)]) := by
  rw [run_at (f := b__law_words) rfl rfl]
  have hs : splitAt1 32 [] wordText = wordList := by decide +kernel
  have hz : wordText.length + 2 ≤ line := by decide +kernel
  have e : evSs (ctx D n) b__law_words.body (start b__law_words []) h = .rt (.ref h.length) (h ++ [.lst (wordList.map .str)]) := by
    simp [b__law_words, evSs, evS, evE, den, recv, isRecv, met1, alloc, hs]
    have : wordText.length + 2 ≤ line ∧ 32 < 256 := ⟨hz, by decide⟩
    simp [this]
  rw [e, back_rt]
  unfold gc
  have b : baseOk h (h ++ [.lst (wordList.map .str)]) = true := by
    unfold baseOk
    have : (h ++ [O.lst (wordList.map .str)]).take h.length = h := by simp
    rw [decide_eq_true this]; rfl
  have c : clAll h.length (wordList.map .str) = true := by
    have : ∀ (m : Nat) (l : List (List Nat)), clAll m (l.map .str) = true := fun m l => by
      induction l with
      | nil => rfl
      | cons x l ih => rw [List.map_cons, clAll, ih]; rfl
    exact this _ _
  rw [b, if_pos rfl]
  simp [c]
theorem any_str {h : Hm} {x : List Nat} : ∀ {l : List (List Nat)}, anyEq (fun a => eqV h a (.str x)) (l.map .str) = some (l.contains x)
  | [] => rfl
  | y :: l => by
    rw [List.map_cons, anyEq, any_str]
    simp only [eqV_str, List.contains_cons]
    rw [Bool.beq_comm]
def isName (w : W) : Bool := isLab w && (match w with
  | .str l => !wordList.contains l
  | _ => false)
theorem lab_str {w : W} (h : isLab w = true) : ∃ l, w = .str l := by
  cases w <;> first
    | exact ⟨_, rfl⟩
    | cases h
theorem is_name {n : Nat} {w : W} {h : Hm} {k : Kd} (e : kd h w = some k) (hl : ∀ l, w = .str l → l.length ≤ line) : run D (n + 2) 2 [w] h = .ok (.bl (isName w)) h := by
  rw [run_at (f := b_is_name) rfl rfl]
  cases hb : isLab w with
  | true =>
    obtain ⟨l, rfl⟩ := lab_str hb
    have hm : memV h (.str l) (.tup (wordList.map .str)) = some (wordList.contains l) := any_str
    simp [b_is_name, evSs, evS, evE, den, denL, start, varV, is_label e hl, hb, hm, isName, -List.contains_eq_mem]
  | false => simp [b_is_name, evSs, evS, evE, den, denL, start, varV, is_label e hl, hb, isName]
theorem law_is_name {n : Nat} {w : W} {h : Hm} {k : Kd} (e : kd h w = some k) (hl : ∀ l, w = .str l → l.length ≤ line) : run D (n + 2) 13 [w] h = .ok (.bl (isName w)) h := by
  rw [run_at (f := b__law_is_name) rfl rfl]
  cases hb : isLab w with
  | true =>
    obtain ⟨l, rfl⟩ := lab_str hb
    have hm : memV (h ++ [.lst (wordList.map .str)]) (.str l) (.ref h.length) = some (wordList.contains l) := by
      unfold memV
      simp only [List.getElem?_append_right (Nat.le_refl _), Nat.sub_self, List.getElem?_cons_zero]
      exact any_str
    simp [b__law_is_name, evSs, evS, evE, den, denL, start, varV, law_is_label e hl, hb, law_words, hm, isName, -List.contains_eq_mem]
  | false => simp [b__law_is_name, evSs, evS, evE, den, denL, start, varV, law_is_label e hl, hb, isName]
/-! ### fractions -/
def isFrac : W → Bool
  | .tup [.int a, .int b] => decide (0 < b) && (Int.gcd a b == 1)
  | _ => false
theorem is_fraction {n : Nat} {w : W} {h : Hm} {k : Kd} (e : kd h w = some k) (hs : ∀ l, w = .tup l → ∀ x ∈ l, (∃ k, kd h x = some k) ∧ ∀ i, x = .int i → i.natAbs < 10 ^ 100) : run D (n + 2) 4 [w] h = .ok (.bl (isFrac w)) h := by
  rw [run_at (f := b_is_fraction) rfl rfl]
  have other : isK k .tuple = false → isFrac w = false → back h (evSs (ctx D (n + 1)) b_is_fraction.body (start b_is_fraction [w]) h) = .ok (.bl (isFrac w)) h := fun h1 h2 => by
    simp [b_is_fraction, evSs, evS, evE, evT, den, denL, start, varV, isi_1 e, h1, h2]
  cases w with
  | tup l =>
    have hi := isi_1 (t := .tuple) (show kd h (.tup l) = some .tuple from rfl)
    match l, hs, hi with
    | [x, y], hs, hi =>
      obtain ⟨⟨kx, ex⟩, bx⟩ := hs _ rfl x (by simp)
      obtain ⟨⟨ky, ey⟩, by'⟩ := hs _ rfl y (by simp)
      have g0 : getItem (.tup [x, y]) (.int 0) h = .ok x h := rfl
      have g1 : getItem (.tup [x, y]) (.int 1) h = .ok y h := rfl
      have hl : b1op .len [.tup [x, y]] h = .ok (.int 2) h := rfl
      cases hx : isNum x with
      | false =>
        have : isFrac (.tup [x, y]) = false := by cases x <;> first | rfl | cases hx
        simp [b_is_fraction, evSs, evS, evE, evT, den, denL, start, varV, hi, isK, hl, g0, is_number ex, hx, this]
      | true =>
        cases hy : isNum y with
        | false =>
          have : isFrac (.tup [x, y]) = false := by cases x <;> cases y <;> first | rfl | cases hy | cases hx
          simp [b_is_fraction, evSs, evS, evE, evT, den, denL, start, varV, hi, isK, hl, g0, g1, is_number ex, is_number ey, hx, hy, this]
        | true =>
          cases x <;> first | cases hx | skip
          rename_i a
          cases y <;> first | cases hy | skip
          rename_i b
          have e1 : (if a < 0 then -a else a) = (a.natAbs : Int) := by split <;> omega
          have n1 : ∀ h : Hm, run D (n + 1) 0 [.int a] h = .ok (.bl true) h := fun h => is_number (k := .int) rfl
          have n2 : ∀ h : Hm, run D (n + 1) 0 [.int b] h = .ok (.bl true) h := fun h => is_number (k := .int) rfl
          by_cases hb : 0 < b
          · have hc : run D (n + 1) 3 [.int (a.natAbs : Int), .int b] h = .ok (.int (Int.gcd (a.natAbs : Int) b)) h := common_divisor (by omega) (by omega) (by have := by' b rfl; omega)
            have hg : Int.gcd (a.natAbs : Int) b = Int.gcd a b := by simp [Int.gcd]
            simp [b_is_fraction, evSs, evS, evE, evT, den, denL, start, varV, hi, isK, hl, g0, g1, n1, n2, hb, e1, hc, hg, isFrac]
            apply Bool.eq_iff_iff.mpr
            simp only [beq_iff_eq]
            omega
          · simp [b_is_fraction, evSs, evS, evE, evT, den, denL, start, varV, hi, isK, hl, g0, g1, n1, n2, hb, isFrac]
    | [], hs, hi =>
      have hl : b1op .len [.tup []] h = .ok (.int 0) h := rfl
      simp [b_is_fraction, evSs, evS, evE, evT, den, denL, start, varV, hi, isK, hl, isFrac]
    | [x], hs, hi =>
      have hl : b1op .len [.tup [x]] h = .ok (.int 1) h := rfl
      simp [b_is_fraction, evSs, evS, evE, evT, den, denL, start, varV, hi, isK, hl, isFrac]
    | x :: y :: z :: l, hs, hi =>
      have hl : b1op .len [.tup (x :: y :: z :: l)] h = .ok (.int ((l.length + 3 : Nat) : Int)) h := rfl
      have hne : ((l.length : Int) + 3 == 2) = false := by
        rw [beq_eq_false_iff_ne]; omega
      have hf : isFrac (.tup (x :: y :: z :: l)) = false := by unfold isFrac; split <;> simp_all
      simp [b_is_fraction, evSs, evS, evE, evT, den, denL, start, varV, hi, isK, hl, hne, hf]
  | ref r =>
    refine other ?_ rfl
    unfold kd at e
    simp only at e
    split at e <;> cases e <;> rfl
  | _ => exact other (by cases e; rfl) rfl
/-! ### the same -/
theorem same_bl {n : Nat} {a b : Bool} {h : Hm} : run D (n + 1) 8 [.bl a, .bl b] h = .ok (.bl (a == b)) h := by
  rw [run_at (f := b__law_same) rfl rfl]
  have hi : ∀ t, isiV [t] (.bl a) h = .ok (.bl (isK .bool t)) h := fun t => isi_1 rfl
  have hj : ∀ t, isiV [t] (.bl b) h = .ok (.bl (isK .bool t)) h := fun t => isi_1 rfl
  have hn : cmpop .isN (.bl b) .non h = .ok (.bl false) h := rfl
  simp [b__law_same, evSs, evS, evE, evT, den, denL, start, varV, hi, hj, isK, hn]
theorem same_str {n : Nat} {a b : List Nat} {h : Hm} : run D (n + 1) 8 [.str a, .str b] h = .ok (.bl (a == b)) h := by
  rw [run_at (f := b__law_same) rfl rfl]
  have hi : ∀ t, isiV [t] (.str a) h = .ok (.bl (isK .str t)) h := fun t => isi_1 rfl
  have hj : ∀ t, isiV [t] (.str b) h = .ok (.bl (isK .str t)) h := fun t => isi_1 rfl
  have hn : cmpop .isN (.str b) .non h = .ok (.bl false) h := rfl
  simp [b__law_same, evSs, evS, evE, evT, den, denL, start, varV, hi, hj, isK, hn]
def miss (b : Nat → Bool) (w : W) : Option W := match w with
  | .int i => if b i.toNat then none else some (.int i)
  | _ => none
theorem miss_nil {b : Nat → Bool} {m : Nat} : ((upto 0 m).filterMap (miss b)).length = 0 ↔ ∀ k, k < m → b k = true := by
  unfold upto
  rw [List.length_eq_zero_iff, List.filterMap_eq_nil_iff]
  constructor
  · intro h k hk
    have := h (.int (0 + (k : Nat))) (List.mem_map.mpr ⟨k, by simpa using hk, rfl⟩)
    simp only [miss] at this
    split at this
    · rename_i e
      simpa using e
    · cases this
  · intro h w hw
    obtain ⟨k, hk, rfl⟩ := List.mem_map.mp hw
    have e := h k (by simpa using hk)
    have : ((0 : Int) + (k : Nat)).toNat = k := by omega
    simp only [miss, this, e, if_true]
end K01
end M2

namespace M2
namespace K01
theorem same_seq {n m : Nat} {f d : W} {h : Hm} {x y : Nat → W} {b : Nat → Bool} {k : Kd} (hk : k = .tuple ∨ k = .list) (e1 : kd h f = some k) (e2 : kd h d = some k) (l1 : b1op .len [f] h = .ok (.int m) h) (l2 : b1op .len [d] h = .ok (.int m) h) (hm : m ≤ 1000)
    (g1 : ∀ i : Nat, i < m → getItem f (.int i) h = .ok (x i) h) (g2 : ∀ i : Nat, i < m → getItem d (.int i) h = .ok (y i) h) (hs : ∀ i, i < m → run D (n + 1) 8 [x i, y i] h = .ok (.bl (b i)) h) :
    run D (n + 2) 8 [f, d] h = .ok (.bl (decide (∀ i, i < m → b i = true))) h := by
  rw [run_at (f := b__law_same) rfl rfl]
  have hi : ∀ t, isiV [t] f h = .ok (.bl (isK k t)) h := fun t => isi_1 e1
  have hj : ∀ t, isiV [t] d h = .ok (.bl (isK k t)) h := fun t => isi_1 e2
  have ht : (isK k .tuple || isK k .list) = true := by rcases hk with rfl | rfl <;> rfl
  have cr : compRun (compTurn false [2] (fun s h1 => (((varV 0 s h1).then fun x h1 => (varV 2 s h1).then fun y h2 => getItem x y h2).then fun x h1 => (((varV 1 s h1).then fun x h1 => (varV 2 s h1).then fun y h2 => getItem x y h2).then fun x h1 => R.ok [x] h1).then fun ws h2 => R.ok (x :: ws) h2).then (run D (n + 1) 8) |>.then truthOf |>.then notB)
      (varV 2) [some f, some d, none]) ⟨upto 0 m, [], h, none⟩ h = .ok ((upto 0 m).filterMap (miss b)) h := by
    refine comp_run (fun w hw => ?_) (by rw [upto, List.length_map, List.length_range]; exact le_line hm)
    obtain ⟨i, hi, rfl⟩ := List.mem_map.mp hw
    have hi : i < m := by simpa using hi
    have ei : ((0 : Int) + (i : Nat)) = (i : Int) := by omega
    rw [ei]
    have a1 := g1 i hi
    have a2 := g2 i hi
    have a3 := hs i hi
    cases hb : b i with
    | true => simp [compTurn, setT, setAll, varV, a1, a2, a3, hb, miss]
    | false => simp [compTurn, setT, setAll, varV, a1, a2, a3, hb, miss]
  have e3 : evS (ctx D (n + 1)) (.ite (.or (.cmp .ne (.isi (.var 1) [.tuple]) (.isi (.var 0) [.tuple])) (.cmp .ne (.isi (.var 1) [.list]) (.isi (.var 0) [.list]))) [.ret (.bl false)] []) [some f, some d, none] h = .nx [some f, some d, none] h := by
    simp [evSs, evS, evE, evT, den, varV, hi, hj]
  have e4 : evS (ctx D (n + 1)) (.ite (.cmp .ne (.b1 .len [(.var 0)]) (.b1 .len [(.var 1)])) [.ret (.bl false)] []) [some f, some d, none] h = .nx [some f, some d, none] h := by
    simp [evSs, evS, evE, evT, den, denL, varV, l1, l2]
  have e5 : evS (ctx D (n + 1)) (.ret (.cmp .eq (.lc [2] false [2] (.var 2) .rng1 (.b1 .len [(.var 1)]) .non (.not (.call 8 [(.sub (.var 0) (.var 2)), (.sub (.var 1) (.var 2))]))) (.lst []))) [some f, some d, none] h = .rt (.bl (decide (∀ i, i < m → b i = true))) (h ++ ([.lst ((upto 0 m).filterMap (miss b))] ++ [.lst []])) := by
    simp [evS, evE, den, denL, l2, src_rng hm, -truthOf_bl]
    rw [cr]
    simp only [then_okk, newL, alloc, short_nil, List.append_assoc, List.length_append, List.length_singleton]
    have a1 : asL (h ++ ([O.lst ((upto 0 m).filterMap (miss b))] ++ [O.lst []])) h.length = some ((upto 0 m).filterMap (miss b)) := by simp [asL]
    have a2 : asL (h ++ ([O.lst ((upto 0 m).filterMap (miss b))] ++ [O.lst []])) (h.length + 1) = some [] := by
      unfold asL
      rw [List.getElem?_append_right (by omega)]
      have : h.length + 1 - h.length = 1 := by omega
      rw [this]; rfl
    rw [eq_refs a1 a2]
    by_cases hz : ((upto 0 m).filterMap (miss b)).length = 0
    · have hn := List.length_eq_zero_iff.mp hz
      have := miss_nil.mp hz
      rw [hn]
      simp [allEq]
      exact this
    · have : ¬ ∀ k, k < m → b k = true := fun z => hz (miss_nil.mpr z)
      rw [if_neg (by simpa using hz)]
      simp [this]
  show back h (evSs _ (_ :: _) [some f, some d, none] h) = _
  rw [evSs, evS]
  have et : evT (ctx D (n + 1)) [some f, some d, none] (.or (.isi (.var 1) [.tuple]) (.isi (.var 1) [.list])) h = .ok true h := by
    simp [evT, den, varV, hj]
    rcases hk with rfl | rfl <;> simp [isK, hj]
  rw [et]
  simp only [ofR_ok]
  rw [evSs_nx e3, evSs_nx e4, evSs_rt e5]
  simp
end K01
end M2

namespace M2
namespace K01
def dr0 : S := .ite (.cmp .lt (.var 1) (.int 2)) [.ret (.int 0)] []
def dr1 : S := .ite (.cmp .gt (.sub (.var 0) (.int 3)) (.int 0)) [.asg (.var 2) (.bin .mod (.b1 .int [(.sub (.var 0) (.int 3))]) (.var 1)),
  .asg (.sub (.var 0) (.int 3)) (.bin .fdiv (.sub (.var 0) (.int 3)) (.var 1)),
  .ret (.var 2)] []
def dr2 : S := .asg (.var 3) (.int 0)
def dr3 : S := .ite (.cmp .lt (.sub (.var 0) (.int 1)) (.b1 .len [(.sub (.var 0) (.int 0))])) [.asg (.var 3) (.sub (.sub (.var 0) (.int 0)) (.sub (.var 0) (.int 1))),
  .asg (.sub (.var 0) (.int 1)) (.bin .add (.sub (.var 0) (.int 1)) (.int 1)),
  .ite (.cmp .ge (.var 3) (.bin .pow (.int 10) (.int 18))) [.asg (.sub (.var 0) (.int 3)) (.bin .fdiv (.var 3) (.var 1)),
  .ret (.bin .mod (.b1 .int [(.var 3)]) (.var 1))] []] []
def dr4 : S := .asg (.sub (.var 0) (.int 2)) (.bin .mod (.b1 .int [(.bin .add (.bin .add (.bin .mul (.sub (.var 0) (.int 2)) (.int 48271)) (.var 3)) (.int 12345))]) (.int 2147483647))
def dr5 : S := .ret (.bin .mod (.b1 .int [(.bin .add (.bin .fdiv (.bin .mul (.sub (.var 0) (.int 2)) (.sub (.var 0) (.int 2))) (.int 64)) (.bin .fdiv (.sub (.var 0) (.int 2)) (.int 7)))]) (.var 1))
theorem drall : b__law_draw.body = [dr0, dr1, dr2, dr3, dr4, dr5] := rfl
def wd0 : S := .ite (.cmp .eq (.call 6 [(.var 0), (.int 6)]) (.int 0)) [.ret (.call 7 [(.var 0), (.call 10 [])])] []
def wd1 : S := .asg (.var 1) (.call 7 [(.var 0), (.lst [(.int 1), (.int 2), (.int 3), (.int 5), (.int 8)])])
def wd2 : S := .ret (.met .join (.str []) [(.lc [2] false [2] (.call 7 [(.var 0), (.str letters)]) .rng1 (.var 1) .non (.bl true))])
theorem wdall : b__law_word.body = [wd0, wd1, wd2] := rfl
/-! ### the pot: object 2 of the heap, its cells object 1 -/
def hp (h : Hm) (i a b : Int) : Hm := h.set 2 (.lst [.ref 1, .int i, .int a, .int b])
structure Base (h : Hm) (cells : List Int) : Prop where
  two : 2 < h.length
  cell : h[1]? = some (.lst (cells.map .int))
section
variable {h : Hm} {cells : List Int} {i a b : Int}
theorem hp_at (B : Base h cells) : (hp h i a b)[2]? = some (.lst [.ref 1, .int i, .int a, .int b]) := by unfold hp; rw [List.getElem?_set_self B.two]
theorem hp_1 (B : Base h cells) : (hp h i a b)[1]? = some (.lst (cells.map .int)) := by unfold hp; rw [List.getElem?_set_ne (by decide), B.cell]
theorem hp_len : (hp h i a b).length = h.length := by unfold hp; rw [List.length_set]
theorem g_ref {h : Hm} {r : Nat} {l : List W} {k : Int} {j : Nat} {w : W} (e : h[r]? = some (.lst l)) (p : place l.length k = some j) (g : l[j]? = some w) : getItem (.ref r) (.int k) h = .ok w h := by
  unfold getItem
  simp only [e, p, g]
theorem s_ref {h : Hm} {r : Nat} {l : List W} {k : Int} {j : Nat} {w : W} (e : h[r]? = some (.lst l)) (p : place l.length k = some j) : setItem (.ref r) (.int k) w h = some (h.set r (.lst (l.set j w))) := by
  unfold setItem
  simp only [e, p]
theorem g0 (B : Base h cells) : getItem (.ref 2) (.int 0) (hp h i a b) = .ok (.ref 1) (hp h i a b) := g_ref (hp_at B) (j := 0) rfl rfl
theorem g1 (B : Base h cells) : getItem (.ref 2) (.int 1) (hp h i a b) = .ok (.int i) (hp h i a b) := g_ref (hp_at B) (j := 1) rfl rfl
theorem g2 (B : Base h cells) : getItem (.ref 2) (.int 2) (hp h i a b) = .ok (.int a) (hp h i a b) := g_ref (hp_at B) (j := 2) rfl rfl
theorem g3 (B : Base h cells) : getItem (.ref 2) (.int 3) (hp h i a b) = .ok (.int b) (hp h i a b) := g_ref (hp_at B) (j := 3) rfl rfl
theorem s1 (B : Base h cells) (x : Int) : setItem (.ref 2) (.int 1) (.int x) (hp h i a b) = some (hp h x a b) := by
  rw [s_ref (hp_at B) (j := 1) rfl]; unfold hp; rw [List.set_set]; rfl
theorem s2 (B : Base h cells) (x : Int) : setItem (.ref 2) (.int 2) (.int x) (hp h i a b) = some (hp h i x b) := by
  rw [s_ref (hp_at B) (j := 2) rfl]; unfold hp; rw [List.set_set]; rfl
theorem s3 (B : Base h cells) (x : Int) : setItem (.ref 2) (.int 3) (.int x) (hp h i a b) = some (hp h i a x) := by
  rw [s_ref (hp_at B) (j := 3) rfl]; unfold hp; rw [List.set_set]; rfl
theorem place_nn {n : Nat} {k : Int} (h0 : 0 ≤ k) (h1 : k < n) : place n k = some k.toNat := by
  unfold place
  rw [if_pos h0, if_pos h1]
theorem gcell (B : Base h cells) (h0 : 0 ≤ i) (h1 : i < cells.length) : ∃ c, getItem (.ref 1) (.int i) (hp h i a b) = .ok (.int c) (hp h i a b) := by
  have hlt : i.toNat < cells.length := by omega
  refine ⟨cells[i.toNat], g_ref (hp_1 B) (j := i.toNat) (place_nn h0 (by simpa using h1)) ?_⟩
  rw [List.getElem?_map, List.getElem?_eq_getElem hlt]; rfl
theorem lcell (B : Base h cells) : b1op .len [.ref 1] (hp h i a b) = .ok (.int cells.length) (hp h i a b) := by
  unfold b1op b1u
  simp only [hp_1 B]
  simp
end
theorem lg {a : Int} (h0 : 0 ≤ a) (h1 : a < 2147483647) : a.natAbs.log2 < 40 := by
  by_cases hz : a.natAbs = 0
  · rw [hz]; decide
  · rw [Nat.log2_lt hz]; omega
/-- what a draw leaves -/
structure Left (h : Hm) (cells : List Int) (i a : Int) : Prop where
  base : Base h cells
  i0 : 0 ≤ i
  a0 : 0 ≤ a
  a1 : a < 2147483647
theorem draw_tail {C : Ctx} {h : Hm} {cells : List Int} {i a b m cell : Int} {x2 : Option W} (L : Left h cells i a) (hm : 2 ≤ m) (hl : m.natAbs.log2 < 9000) :
    ∃ v a', evSs C [dr4, dr5]
      [some (.ref 2), some (.int m), x2, some (.int cell)] (hp h i a b) = .rt (.int v) (hp h i a' b) ∧ 0 ≤ v ∧ v < m ∧ 0 ≤ a' ∧ a' < 2147483647 := by
  have B := L.base
  have k1 : a.natAbs.log2 + (48271 : Int).natAbs.log2 < 1000000 := by
    have h1 := lg L.a0 L.a1
    have h2 : (48271 : Int).natAbs.log2 < 40 := by decide
    omega
  refine ⟨((((a * 48271 + cell + 12345) % 2147483647) * ((a * 48271 + cell + 12345) % 2147483647)) / 64 + ((a * 48271 + cell + 12345) % 2147483647) / 7) % m, (a * 48271 + cell + 12345) % 2147483647, ?_, Int.emod_nonneg _ (by omega), Int.emod_lt_of_pos _ (by omega), Int.emod_nonneg _ (by omega), Int.emod_lt_of_pos _ (by omega)⟩
  generalize hx : (a * 48271 + cell + 12345) % 2147483647 = x
  have x0 : 0 ≤ x := by rw [← hx]; exact Int.emod_nonneg _ (by omega)
  have x1 : x < 2147483647 := by rw [← hx]; exact Int.emod_lt_of_pos _ (by omega)
  have k2 : x.natAbs.log2 + x.natAbs.log2 < 1000000 := by have := lg x0 x1; omega
  have e1 : evS C dr4 [some (.ref 2), some (.int m), x2, some (.int cell)] (hp h i a b) = .nx [some (.ref 2), some (.int m), x2, some (.int cell)] (hp h i x b) := by
    simp only [dr4, evS, evE, den, denL, mkV_v, varV, List.getElem?_cons_zero, List.getElem?_cons_succ, then_okk, ofR_ok, g2 B, b_mul k1, b_add, b1_int, b_mod (show (0 : Int) < 2147483647 by decide), asg, hx, s2 B, nxO]
  rw [evSs_nx e1]
  simp only [dr5, evSs, evS, evE, den, denL, mkV_v, varV, List.getElem?_cons_zero, List.getElem?_cons_succ, then_okk, ofR_ok, seq_rt, g2 B, b_mul k2, b_add, b1_int, b_fdiv (show (0 : Int) < 64 by decide) (by decide), b_fdiv (show (0 : Int) < 7 by decide) (by decide), b_mod (show (0 : Int) < m by omega)]
theorem draw {n : Nat} {h : Hm} {cells : List Int} {i a b m : Int} (L : Left h cells i a) (hl : m.natAbs.log2 < 9000) :
    ∃ v i' a' b', run D (n + 1) 6 [.ref 2, .int m] (hp h i a b) = .ok (.int v) (hp h i' a' b') ∧ Left h cells i' a' ∧ 0 ≤ v ∧ (1 ≤ m → v < m) := by
  have B := L.base
  have fin : ∀ {v i' a' b' : Int}, evSs (ctx D n) [dr0, dr1, dr2, dr3, dr4, dr5] [some (.ref 2), some (.int m), none, none] (hp h i a b) = .rt (.int v) (hp h i' a' b') → run D (n + 1) 6 [.ref 2, .int m] (hp h i a b) = .ok (.int v) (hp h i' a' b') := fun e => by
    rw [run_at (f := b__law_draw) rfl rfl]
    rw [drall]
    show back _ (evSs (ctx D n) _ [some (.ref 2), some (.int m), none, none] _) = _
    rw [e, back_rt, gc_same _ (by rw [hp_len, hp_len])]
  by_cases hm : m < 2
  · refine ⟨0, i, a, b, fin ?_, L, Int.le_refl _, fun _ => by omega⟩
    refine evSs_rt ?_
    simp [dr0, evS, evSs, evE, evT, den, varV, hm]
  · have e1 : evS (ctx D n) dr0 [some (.ref 2), some (.int m), none, none] (hp h i a b) = .nx [some (.ref 2), some (.int m), none, none] (hp h i a b) := by
      simp [dr0, evS, evSs, evE, evT, den, varV, hm]
    by_cases hb : 0 < b
    · refine ⟨b % m, i, a, b / m, fin ?_, L, Int.emod_nonneg _ (by omega), fun _ => Int.emod_lt_of_pos _ (by omega)⟩
      rw [evSs_nx e1]
      refine evSs_rt ?_
      simp [dr1, evS, evSs, evE, evT, den, denL, varV, g3 B, hb, b_mod (show (0 : Int) < m by omega), b_fdiv (show (0 : Int) < m by omega) hl, asg, s3 B, nxO]
    · have e2 : evS (ctx D n) dr1 [some (.ref 2), some (.int m), none, none] (hp h i a b) = .nx [some (.ref 2), some (.int m), none, none] (hp h i a b) := by
        simp [dr1, evS, evSs, evE, evT, den, denL, varV, g3 B, hb]
      have e3 : ∀ h', evS (ctx D n) dr2 [some (.ref 2), some (.int m), none, none] h' = .nx [some (.ref 2), some (.int m), none, some (.int 0)] h' := fun h' => by
        simp [dr2, evS, evE, den, asg]
      by_cases hi : i < cells.length
      · obtain ⟨c, hc⟩ := gcell (a := a) (b := b) B L.i0 hi
        by_cases hbig : c ≥ 10 ^ 18
        · refine ⟨c % m, i + 1, a, c / m, fin ?_, ⟨B, by have := L.i0; omega, L.a0, L.a1⟩, Int.emod_nonneg _ (by omega), fun _ => Int.emod_lt_of_pos _ (by omega)⟩
          rw [evSs_nx e1, evSs_nx e2, evSs_nx (e3 _)]
          have hd : (1000000000000000000 : Int) ≤ c := by omega
          refine evSs_rt ?_
          simp [dr3, evS, evSs, evE, evT, den, denL, varV, g0 B, g1 B, lcell B, hi, hc, s1 B, s3 B, asg, nxO, b_pow (show (0 : Int) ≤ 18 by decide) (by decide) (show (10 : Int).natAbs < 2 ^ 64 by decide), hd, b_mod (show (0 : Int) < m by omega), b_fdiv (show (0 : Int) < m by omega) hl]
        · obtain ⟨v, a', e5, v0, v1, a0, a1⟩ := draw_tail (C := ctx D n) (h := h) (i := i + 1) (a := a) (b := b) (m := m) (cell := c) (x2 := none) ⟨B, by have := L.i0; omega, L.a0, L.a1⟩ (by omega) hl
          refine ⟨v, i + 1, a', b, fin ?_, ⟨B, by have := L.i0; omega, a0, a1⟩, v0, fun _ => v1⟩
          rw [evSs_nx e1, evSs_nx e2, evSs_nx (e3 _)]
          rw [evSs_nx (s' := [some (.ref 2), some (.int m), none, some (.int c)]) (h' := hp h (i + 1) a b) ?_]
          · exact e5
          · have hd : ¬ (1000000000000000000 : Int) ≤ c := by omega
            simp [dr3, evS, evSs, evE, evT, den, denL, varV, g0 B, g1 B, lcell B, hi, hc, s1 B, s3 B, asg, nxO, b_pow (show (0 : Int) ≤ 18 by decide) (by decide) (show (10 : Int).natAbs < 2 ^ 64 by decide), hd]
      · obtain ⟨v, a', e5, v0, v1, a0, a1⟩ := draw_tail (C := ctx D n) (h := h) (i := i) (a := a) (b := b) (m := m) (cell := 0) (x2 := none) L (by omega) hl
        refine ⟨v, i, a', b, fin ?_, ⟨B, L.i0, a0, a1⟩, v0, fun _ => v1⟩
        rw [evSs_nx e1, evSs_nx e2, evSs_nx (e3 _)]
        rw [evSs_nx (s' := [some (.ref 2), some (.int m), none, some (.int 0)]) (h' := hp h i a b) ?_]
        · exact e5
        · simp [dr3, evS, evSs, evE, evT, den, denL, varV, g0 B, g1 B, lcell B, hi]
end K01
end M2

namespace M2
namespace K01
section
variable {h : Hm} {cells : List Int} {i a b : Int}
theorem hp_app {t : Hm} (h2 : 2 < h.length) : hp (h ++ t) i a b = hp h i a b ++ t := by
  unfold hp
  rw [List.set_append, if_pos h2]
theorem Base.app (B : Base h cells) (t : Hm) : Base (h ++ t) cells := ⟨by rw [List.length_append]; have := B.two; omega, by rw [List.getElem?_append_left (by have := B.two; omega)]; exact B.cell⟩
theorem Left.app (L : Left h cells i a) (t : Hm) : Left (h ++ t) cells i a := ⟨L.base.app t, L.i0, L.a0, L.a1⟩
theorem lgn {n : Nat} (hn : n ≤ 1000) : ((n : Int)).natAbs.log2 < 9000 := by
  rw [Int.natAbs_natCast]
  by_cases hz : n = 0
  · rw [hz]; decide
  · have : n.log2 < 10 := by rw [Nat.log2_lt hz]; omega
    omega
theorem pick_ref {n r : Nat} {l : List W} (L : Left h cells i a) (hr : h[r]? = some (.lst l)) (h2 : r ≠ 2) (h0 : 0 < l.length) (h1 : l.length ≤ 1000) :
    ∃ w i' a' b', run D (n + 2) 7 [.ref 2, .ref r] (hp h i a b) = .ok w (hp h i' a' b') ∧ Left h cells i' a' ∧ w ∈ l := by
  obtain ⟨v, i', a', b', e, L', v0, v1⟩ := draw (n := n) (b := b) (m := (l.length : Int)) L (lgn h1)
  have v1 := v1 (by omega)
  have at_ : ∀ i a b, (hp h i a b)[r]? = some (.lst l) := fun i a b => by unfold hp; rw [List.getElem?_set_ne (Ne.symm h2), hr]
  have hlt : v.toNat < l.length := by omega
  refine ⟨l[v.toNat], i', a', b', ?_, L', List.getElem_mem _⟩
  rw [run_at (f := b__law_pick) rfl rfl]
  have g : getItem (.ref r) (.int v) (hp h i' a' b') = .ok l[v.toNat] (hp h i' a' b') := g_ref (at_ _ _ _) (place_nn v0 v1) (List.getElem?_eq_getElem hlt)
  have ln : b1op .len [.ref r] (hp h i a b) = .ok (.int l.length) (hp h i a b) := by
    unfold b1op b1u
    simp only [at_]
  simp [b__law_pick, evSs, evS, evE, den, denL, start, varV, ln, e, g]
  exact gc_same _ (by rw [hp_len, hp_len])
theorem pick_str {n : Nat} {l : List Nat} (L : Left h cells i a) (h0 : 0 < l.length) (h1 : l.length ≤ 1000) :
    ∃ c i' a' b', run D (n + 2) 7 [.ref 2, .str l] (hp h i a b) = .ok (.str [c]) (hp h i' a' b') ∧ Left h cells i' a' ∧ c ∈ l := by
  obtain ⟨v, i', a', b', e, L', v0, v1⟩ := draw (n := n) (b := b) (m := (l.length : Int)) L (lgn h1)
  have v1 := v1 (by omega)
  have hlt : v.toNat < l.length := by omega
  refine ⟨l[v.toNat], i', a', b', ?_, L', List.getElem_mem _⟩
  rw [run_at (f := b__law_pick) rfl rfl]
  have g : getItem (.str l) (.int v) (hp h i' a' b') = .ok (.str [l[v.toNat]]) (hp h i' a' b') := by
    unfold getItem
    simp only [if_pos (le_line h1), place_nn v0 v1, List.getElem?_eq_getElem hlt]
  have ln : b1op .len [.str l] (hp h i a b) = .ok (.int l.length) (hp h i a b) := by
    unfold b1op b1u
    simp only [if_pos (le_line h1)]
  simp [b__law_pick, evSs, evS, evE, den, denL, start, varV, ln, e, g]
  exact gc_same _ (by rw [hp_len, hp_len])
/-- behind a call: the pot, and perhaps what was laid -/
theorem gc_pot {w : W} {i' a' b' : Int} {t : Hm} (h2 : 2 < h.length) (hw : ∀ r, w ≠ .ref r) : ∃ t', gc (hp h i a b) w (hp h i' a' b' ++ t) = .ok w (hp (h ++ t') i' a' b') := by
  have tk : (hp h i' a' b' ++ t).take (hp h i a b).length = hp h i' a' b' := by
    rw [hp_len, ← hp_len (h := h) (i := i') (a := a') (b := b')]
    simp
  unfold gc
  cases hb : baseOk (hp h i a b) (hp h i' a' b' ++ t) with
  | false => exact ⟨t, by rw [if_neg Bool.false_ne_true, hp_app h2]⟩
  | true =>
    rw [if_pos rfl]
    have val : ∃ t', (if w.cl (hp h i a b).length then R.ok w ((hp h i' a' b' ++ t).take (hp h i a b).length) else .ok w (hp h i' a' b' ++ t)) = .ok w (hp (h ++ t') i' a' b') := by
      by_cases c : w.cl (hp h i a b).length = true
      · exact ⟨[], by rw [if_pos c, tk, List.append_nil]⟩
      · exact ⟨t, by rw [if_neg c, hp_app h2]⟩
    cases w with
    | ref r => exact absurd rfl (hw r)
    | _ => exact val
/-! ### a word -/
theorem picks {n : Nat} {s : Env} (hs : s[0]? = some (some (.ref 2))) : ∀ (m k : Nat) (acc : List (List Nat)) (i a b : Int), Left h cells i a →
    ∃ (r : List (List Nat)) (i' a' b' : Int), compGo (compTurn false [2] (fun _ h => (R.ok (.bl true) h).then truthOf) (fun s h => ((varV 0 s h).then fun x h1 => R.ok [x, .str letters] h1).then (run D (n + 2) 7)) s) [] ((List.range' k m).map fun j => .int (0 + (j : Nat))) (acc.map .str) (hp h i a b) = .ok (r.map .str) (hp h i' a' b') ∧
      Left h cells i' a' ∧ r.length = acc.length + m ∧ ((∀ x ∈ acc, x.length = 1) → ∀ x ∈ r, x.length = 1)
  | 0, k, acc, i, a, b, L => ⟨acc, i, a, b, rfl, L, rfl, fun h => h⟩
  | m + 1, k, acc, i, a, b, L => by
    obtain ⟨c, i1, a1, b1, e, L1, _⟩ := pick_str (n := n) (b := b) (l := letters) L (by decide) (by decide)
    obtain ⟨r, i2, a2, b2, e2, L2, hl, hx⟩ := picks (n := n) hs m (k + 1) (acc ++ [[c]]) i1 a1 b1 L1
    refine ⟨r, i2, a2, b2, ?_, L2, by rw [hl, List.length_append, List.length_singleton]; omega, fun ha => hx fun x hx => ?_⟩
    · rw [List.range'_succ, List.map_cons, compGo]
      have ok : okG [] (hp h i a b) = true := rfl
      rw [ok, if_pos rfl]
      have hv : varV 0 (s.set 2 (some (.int (0 + (k : Nat))))) (hp h i a b) = .ok (.ref 2) (hp h i a b) := by
        unfold varV
        rw [List.getElem?_set_ne (by decide), hs]
      have ht : compTurn false [2] (fun _ h => (R.ok (.bl true) h).then truthOf) (fun s h => ((varV 0 s h).then fun x h1 => R.ok [x, .str letters] h1).then (run D (n + 2) 7)) s (.int (0 + (k : Nat))) (hp h i a b) = .ok (some (.str [c])) (hp h i1 a1 b1) := by
        unfold compTurn
        simp only [setT, setAll, Bool.false_eq_true, if_false, then_okk, truthOf_bl, hv, e]
      rw [ht]
      simp only
      rw [show acc.map W.str ++ [W.str [c]] = (acc ++ [[c]]).map .str by simp]
      exact e2
    · rcases List.mem_append.mp hx with hx | hx
      · exact ha x hx
      · have : x = [c] := by simpa using hx
        rw [this]; rfl
theorem strs_map : ∀ r : List (List Nat), strsOf (r.map .str) = some r
  | [] => rfl
  | x :: r => by rw [List.map_cons, strsOf, strs_map r]
theorem join_len : ∀ r : List (List Nat), (∀ x ∈ r, x.length = 1) → (joinS [] r).length = r.length ∧ (r.map List.length).sum = r.length
  | [], _ => ⟨rfl, rfl⟩
  | [x], h => ⟨h x (by simp), by have := h x (by simp); simp [this]⟩
  | x :: y :: r, h => by
    obtain ⟨h1, h2⟩ := join_len (y :: r) fun z hz => h z (by simp [hz])
    have hx := h x (by simp)
    refine ⟨?_, ?_⟩
    · rw [joinS, List.append_nil, List.length_append, h1, hx, List.length_cons (a := x)]; omega
    · rw [List.map_cons, List.sum_cons, h2, hx, List.length_cons (a := x)]; omega
theorem word {n : Nat} (L : Left h cells i a) : ∃ l i' a' b' t, run D (n + 3) 11 [.ref 2] (hp h i a b) = .ok (.str l) (hp (h ++ t) i' a' b') ∧ Left (h ++ t) cells i' a' ∧ l.length ≤ 8 := by
  have B := L.base
  have h2 := B.two
  obtain ⟨v, i1, a1, b1, e1, L1, v0, v1⟩ := draw (n := n + 1) (b := b) (m := 6) L (by decide)
  have fin : ∀ {l : List Nat} {i' a' b' : Int} {t : Hm}, evSs (ctx D (n + 2)) [wd0, wd1, wd2] [some (.ref 2), none, none] (hp h i a b) = .rt (.str l) (hp h i' a' b' ++ t) → l.length ≤ 8 → Left h cells i' a' →
      ∃ l i' a' b' t, run D (n + 3) 11 [.ref 2] (hp h i a b) = .ok (.str l) (hp (h ++ t) i' a' b') ∧ Left (h ++ t) cells i' a' ∧ l.length ≤ 8 := fun {l i' a' b' t} e hl L' => by
    obtain ⟨t', e'⟩ := gc_pot (h := h) (i := i) (a := a) (b := b) (w := .str l) (i' := i') (a' := a') (b' := b') (t := t) h2 (fun _ z => nomatch z)
    refine ⟨l, i', a', b', t', ?_, L'.app t', hl⟩
    rw [run_at (f := b__law_word) rfl rfl, wdall]
    show back _ (evSs (ctx D (n + 2)) _ [some (.ref 2), none, none] _) = _
    rw [e, back_rt, e']
  by_cases hv : v = 0
  · subst hv
    have hw : ∀ h : Hm, run D (n + 2) 10 [] h = .ok (.ref h.length) (h ++ [.lst (wordList.map .str)]) := fun h => law_words
    have hlen : (hp h i1 a1 b1).length = h.length := hp_len
    have at_ : (h ++ [O.lst (wordList.map .str)])[h.length]? = some (.lst (wordList.map .str)) := by simp
    obtain ⟨w, i2, a2, b2, e2, L2, hw2⟩ := pick_ref (n := n) (b := b1) (L1.app [O.lst (wordList.map .str)]) at_ (by omega) (by decide) (by decide)
    obtain ⟨l, hl, rfl⟩ := List.mem_map.mp hw2
    have hz : l.length ≤ 8 := by
      have : ∀ l ∈ wordList, l.length ≤ 8 := by decide
      exact this l hl
    refine fin (l := l) (i' := i2) (a' := a2) (b' := b2) (t := [O.lst (wordList.map .str)]) ?_ hz ⟨B, L2.i0, L2.a0, L2.a1⟩
    refine evSs_rt ?_
    rw [hp_app h2] at e2
    rw [hp_app h2] at e2
    simp [wd0, evS, evSs, evE, evT, den, denL, varV, e1, hw, hlen, e2]
  · have hv' : (v == 0) = false := by rw [beq_eq_false_iff_ne]; exact hv
    have s0 : evS (ctx D (n + 2)) wd0 [some (.ref 2), none, none] (hp h i a b) = .nx [some (.ref 2), none, none] (hp h i1 a1 b1) := by
      simp [wd0, evS, evSs, evE, evT, den, denL, varV, e1, hv']
    have at_ : (h ++ [O.lst [.int 1, .int 2, .int 3, .int 5, .int 8]])[h.length]? = some (.lst [.int 1, .int 2, .int 3, .int 5, .int 8]) := by simp
    obtain ⟨w, i2, a2, b2, e2, L2, hw2⟩ := pick_ref (n := n) (b := b1) (L1.app [O.lst [.int 1, .int 2, .int 3, .int 5, .int 8]]) at_ (by omega) (by decide) (by decide)
    have hm : ∃ m : Nat, w = .int m ∧ m ≤ 8 := by
      simp at hw2
      rcases hw2 with rfl | rfl | rfl | rfl | rfl
      · exact ⟨1, rfl, by decide⟩
      · exact ⟨2, rfl, by decide⟩
      · exact ⟨3, rfl, by decide⟩
      · exact ⟨5, rfl, by decide⟩
      · exact ⟨8, rfl, by decide⟩
    obtain ⟨m, rfl, hm⟩ := hm
    have hlen : (hp h i1 a1 b1).length = h.length := hp_len
    rw [hp_app h2] at e2
    have s1 : evS (ctx D (n + 2)) wd1 [some (.ref 2), none, none] (hp h i1 a1 b1) = .nx [some (.ref 2), some (.int m), none] (hp (h ++ [O.lst [.int 1, .int 2, .int 3, .int 5, .int 8]]) i2 a2 b2) := by
      have sh : ∀ h : Hm, short [.int 1, .int 2, .int 3, .int 5, .int 8] h = .ok [.int 1, .int 2, .int 3, .int 5, .int 8] h := fun h => by
        unfold short
        exact if_pos (le_line (by decide))
      simp [wd1, evS, evE, den, denL, varV, sh, newL, alloc, hlen, e2, asg]
    obtain ⟨r, i3, a3, b3, e3, L3, hr, hx⟩ := picks (n := n) (s := [some (.ref 2), some (.int m), none]) rfl m 0 [] i2 a2 b2 L2
    have hx := hx (fun _ z => nomatch z)
    obtain ⟨j1, j2⟩ := join_len r hx
    have hr : r.length = m := by simpa using hr
    have s2 : evS (ctx D (n + 2)) wd2 [some (.ref 2), some (.int m), none] (hp (h ++ [O.lst [.int 1, .int 2, .int 3, .int 5, .int 8]]) i2 a2 b2) = .rt (.str (joinS [] r)) (hp (h ++ [O.lst [.int 1, .int 2, .int 3, .int 5, .int 8]]) i3 a3 b3) := by
      have cr : compRun (compTurn false [2] (fun _ h => (R.ok (.bl true) h).then truthOf) (fun s h => ((varV 0 s h).then fun x h1 => R.ok [x, .str letters] h1).then (run D (n + 2) 7)) [some (.ref 2), some (.int m), none]) ⟨upto 0 m, [], hp (h ++ [O.lst [.int 1, .int 2, .int 3, .int 5, .int 8]]) i2 a2 b2, none⟩ (hp (h ++ [O.lst [.int 1, .int 2, .int 3, .int 5, .int 8]]) i2 a2 b2) = .ok (r.map .str) (hp (h ++ [O.lst [.int 1, .int 2, .int 3, .int 5, .int 8]]) i3 a3 b3) := by
        unfold compRun
        simp only
        have e4 := e3
        rw [List.map_nil, ← List.range_eq_range'] at e4
        unfold upto
        rw [e4]
        simp only [compEnd]
        rw [if_pos (by rw [List.length_map, hr]; exact le_line (by omega))]
        rfl
      have jn : ∀ h : Hm, joinop (.str []) (r.map .str) h = .ok (.str (joinS [] r)) h := fun h => by
        unfold joinop
        rw [strs_map]
        simp only
        rw [if_pos (by rw [j2, List.length_nil, Nat.mul_zero, Nat.add_zero, hr]; exact le_line (by omega))]
      simp only [wd2, evS, evE, den, denL, mkV_v, mkL_l, mkV_t, varV, List.getElem?_cons_succ, List.getElem?_cons_zero, then_okk, ctx_call, src_rng (show m ≤ 1000 by omega)]
      have cr2 := cr
      simp only [varV, then_okk] at cr2
      rw [cr2]
      simp only [then_okk, recv, isRecv, if_true, jn, ofR_ok]
    refine fin (l := joinS [] r) (i' := i3) (a' := a3) (b' := b3) (t := [O.lst [.int 1, .int 2, .int 3, .int 5, .int 8]]) ?_ (by rw [j1]; omega) ⟨B, L3.i0, L3.a0, L3.a1⟩
    rw [evSs_nx s0, evSs_nx s1]
    rw [hp_app h2] at s2
    rw [← hp_app h2] at s2
    refine evSs_rt ?_
    rw [s2, hp_app h2]
end
end K01
end M2

namespace M2
/-! ### variables -/
theorem var_eq {i : Nat} {s : Env} {w : W} {h : Hm} (hl : i < s.length) : varV i (s.set i (some w)) h = .ok w h := by
  unfold varV
  rw [List.getElem?_set_self hl]
theorem var_ne {i j : Nat} {s : Env} {x : Option W} {h : Hm} (hn : j ≠ i) : varV i (s.set j x) h = varV i s h := by
  unfold varV
  rw [List.getElem?_set_ne hn]
theorem comp_goG {A : Type} {f : W → Hm → R (Option A)} {h : Hm} {gs : List (Nat × List W)} {g : W → Option A} (ok : okG gs h = true) : ∀ {its : List W} {acc : List A}, (∀ x ∈ its, f x h = .ok (g x) h) → compGo f gs its acc h = .ok (acc ++ its.filterMap g) h
  | [], acc, _ => by simp [compGo, ok]
  | x :: l, acc, hf => by
    have h1 := hf x (by simp)
    have ih := fun acc => comp_goG (f := f) (h := h) (g := g) ok (its := l) (acc := acc) fun y hy => hf y (by simp [hy])
    rw [compGo, ok, if_pos rfl, h1]
    cases e : g x with
    | none => simp only; rw [ih, List.filterMap_cons, e]
    | some a => simp only; rw [ih, List.filterMap_cons, e]; simp
namespace K01
def t0 : S := .asg (.var 3) (.call 11 [(.var 1)])
def t1 : S := .asg (.var 4) (.call 6 [(.var 1), (.bin .add (.b1 .len [(.var 3)]) (.int 1))])
def t2 : S := .asg (.var 5) (.bin .add (.bin .add (.slc (.var 3) false .non true (.var 4)) (.call 7 [(.var 1), (.lst [(.str []), (.str []), (.str [97]), (.str [65]), (.str [49]), (.str [32]), (.str [115]), (.str [122, 122])])])) (.slc (.var 3) true (.var 4) false .non))
def t3 : S := .asg (.var 6) (.lst [(.call 12 [(.var 5)]), (.call 13 [(.var 5)]), (.bl false), (.bl false)])
def t4 : S := .ite (.not (.call 8 [(.lst [(.call 1 [(.var 5)]), (.call 2 [(.var 5)]), (.call 0 [(.var 5)]), (.call 4 [(.var 5)])]), (.var 6)])) [.ret (.bl false)] []
def t5 : S := .asg (.var 7) (.call 7 [(.var 1), (.lst [(.int 3), (.int 12), (.int 60), (.bin .pow (.int 10) (.int 38))])])
def t6 : S := .par [8, 9] [(.bin .sub (.call 6 [(.var 1), (.bin .mul (.int 2) (.var 7))]) (.var 7)), (.bin .sub (.call 6 [(.var 1), (.bin .add (.var 7) (.int 2))]) (.int 1))]
def t7 : S := .asg (.var 10) (.call 7 [(.var 1), (.lst [(.tup [(.var 8), (.var 9)]), (.tup [(.int 0), (.var 9)]), (.tup [(.int 6), (.int 4)]), (.tup [(.bl true), (.int 1)]), (.tup [(.int 1), (.bl true)]), (.lst [(.int 1), (.int 2)]), (.tup [(.int 1)]), (.tup [(.int 1), (.int 2), (.int 3)]), (.tup [(.str [49]), (.int 2)])])])
def t8 : S := .asg (.var 11) (.and (.isi (.var 10) [.tuple]) (.and (.cmp .eq (.b1 .len [(.var 10)]) (.int 2)) (.and (.call 9 [(.sub (.var 10) (.int 0))]) (.call 9 [(.sub (.var 10) (.int 1))]))))
def t9 : S := .ite (.not (.call 8 [(.call 4 [(.var 10)]), (.and (.var 11) (.call 14 [(.sub (.var 10) (.int 0)), (.sub (.var 10) (.int 1))]))])) [.ret (.bl false)] []
def u0 : S := .ite (.not (.call 8 [(.lst [(.call 1 [(.var 14)]), (.call 2 [(.var 14)]), (.call 0 [(.var 14)]), (.call 4 [(.var 14)])]), (.bin .mul (.lst [(.bl false)]) (.int 4))])) [.ret (.bl false)] []
def w0 : S := .asg (.var 1) (.call 5 [(.var 0)])
def w1 : S := .ite (.not (.call 8 [(.glo 0), (.bl1 .tuple (.call 10 []))])) [.ret (.bl false)] []
def w2 : S := .for false [2] .rng1 (.int 8) .non [t0, t1, t2, t3, t4, t5, t6, t7, t8, t9]
def w3 : S := .asg (.var 12) (.bin .sub (.call 6 [(.var 1), (.bin .pow (.int 10) (.int 39))]) (.bin .mul (.int 5) (.bin .pow (.int 10) (.int 38))))
def w4 : S := .asg (.var 13) (.lst [.non, (.bl true), (.bl false), (.tup []), (.lst [(.var 5)]), (.dct []), (.tup [(.str [97])]), (.dct [(.str [97]), (.int 1)])])
def w5 : S := .for false [14] .seq (.var 13) .non [u0]
def w6 : S := .ret (.call 8 [(.lst [(.call 0 [(.var 12)]), (.call 1 [(.var 12)]), (.call 4 [(.tup [(.var 12), (.int 1)])]), (.call 4 [(.var 12)])]), (.lst [(.bl true), (.bl false), (.bl true), (.bl false)])])
theorem wall : b_law.body = [w0, w1, w2, w3, w4, w5, w6] := rfl
/-! ### the pot is made -/
def po0 : S := .ret (.lst [(.lc [1] false [1] (.b1 .abs [(.var 1)]) .seq (.slc (.var 0) false .non true (.int 63)) .non (.bl true)), (.int 0), (.int 20011), (.int 0)])
theorem poall : b__law_pot.body = [po0] := rfl
def absI (x : Int) : Int := if x < 0 then -x else x
def slice63 (ns : List Int) : List Int := cut ns none (some 63)
theorem cut_map {ns : List Int} : cut (ns.map W.int) none (some 63) = (slice63 ns).map .int := by
  unfold slice63 cut
  rw [List.length_map, List.map_take, List.map_drop]
theorem slice_len {ns : List Int} : (slice63 ns).length ≤ 63 := by
  unfold slice63 cut
  rw [List.length_take]
  have : clip ns.length ns.length (some 63) ≤ 63 := by
    unfold clip
    simp
    omega
  omega
def heap0 (ns : List Int) : Hm := [.lst ((slice63 ns).map .int), .lst (((slice63 ns).map absI).map .int), .lst [.ref 1, .int 0, .int 20011, .int 0]]
theorem abs_map {l : List Int} : (l.map W.int).filterMap (fun w => match w with | .int x => some (W.int (absI x)) | _ => none) = (l.map absI).map .int := by
  induction l with
  | nil => rfl
  | cons x l ih => simp only [List.map_cons, List.filterMap_cons, ih]
theorem pot {n : Nat} {ns : List Int} : run D (n + 1) 5 [.kl (ns.map .int)] [] = .ok (.ref 2) (heap0 ns) := by
  rw [run_at (f := b__law_pot) rfl rfl]
  have sl : getSlice (.kl (ns.map .int)) none (some 63) [] = .ok (.ref 0) [.lst ((slice63 ns).map .int)] := by
    unfold getSlice
    simp only [cut_map, alloc]
    rfl
  have sv : srcV .seq (.ref 0) .non [.lst ((slice63 ns).map .int)] = .ok ⟨(slice63 ns).map .int, [(0, (slice63 ns).map .int)], [.lst ((slice63 ns).map .int)], none⟩ [.lst ((slice63 ns).map .int)] := rfl
  have og : okG [(0, (slice63 ns).map .int)] [.lst ((slice63 ns).map .int)] = true := by simp [okG, asL]
  have cr : compRun (compTurn false [1] (fun _ h => (R.ok (.bl true) h).then truthOf) (fun s h => ((varV 1 s h).then fun x h1 => R.ok [x] h1).then (b1op .abs)) [some (.kl (ns.map .int)), none]) ⟨(slice63 ns).map .int, [(0, (slice63 ns).map .int)], [.lst ((slice63 ns).map .int)], none⟩ [.lst ((slice63 ns).map .int)] = .ok (((slice63 ns).map absI).map .int) [.lst ((slice63 ns).map .int)] := by
    unfold compRun
    simp only
    rw [comp_goG og (g := fun w => match w with | .int x => some (W.int (absI x)) | _ => none) fun w hw => ?_]
    · rw [abs_map]
      simp only [compEnd, List.nil_append]
      rw [if_pos (by rw [List.length_map, List.length_map]; exact le_line (by have := slice_len (ns := ns); omega))]
      rfl
    · obtain ⟨x, _, rfl⟩ := List.mem_map.mp hw
      have hv : ∀ h : Hm, varV 1 ([some (.kl (ns.map W.int)), none].set 1 (some (.int x))) h = .ok (.int x) h := fun h => rfl
      simp only [compTurn, setT, setAll, Bool.false_eq_true, if_false, then_okk, truthOf_bl, hv, b1_abs, absI]
  have e : evS (ctx D n) po0 [some (.kl (ns.map .int)), none] [] = .rt (.ref 2) (heap0 ns) := by
    have v0 : varV 0 [some (.kl (ns.map W.int)), none] [] = .ok (.kl (ns.map .int)) [] := rfl
    have sh : ∀ (x : W) (h : Hm), short [x, .int 0, .int 20011, .int 0] h = .ok [x, .int 0, .int 20011, .int 0] h := fun x h => by
      unfold short
      exact if_pos (le_line (by simp))
    simp only [po0, evS, evE, den, denL, mkV_v, mkL_v, mkV_t, then_okk, v0, partD, intPart, sl, sv]
    have cr2 := cr
    simp only [then_okk] at cr2
    rw [cr2]
    simp only [then_okk, newL, alloc, sh, ofR_ok]
    rfl
  rw [poall]
  show back [] (evSs _ [po0] [some (.kl (ns.map .int)), none] []) = _
  rw [evSs_rt e, back_rt]
  rfl
/-! ### the same, for rows that are one -/
theorem same_lst {n i j : Nat} {h : Hm} {l : List Bool} (hi : h[i]? = some (.lst (l.map .bl))) (hj : h[j]? = some (.lst (l.map .bl))) (hl : l.length ≤ 1000) : run D (n + 2) 8 [.ref i, .ref j] h = .ok (.bl true) h := by
  have ln : ∀ r, h[r]? = some (.lst (l.map .bl)) → b1op .len [.ref r] h = .ok (.int l.length) h := fun r e => by
    unfold b1op b1u
    simp only [e]
    simp
  have kd_ : ∀ r, h[r]? = some (.lst (l.map .bl)) → kd h (.ref r) = some .list := fun r e => by
    unfold kd
    simp only [e]
  have gt : ∀ r, h[r]? = some (.lst (l.map .bl)) → ∀ k : Nat, k < l.length → getItem (.ref r) (.int k) h = .ok (.bl (l.getD k false)) h := fun r e k hk => by
    refine g_ref e (j := k) (by rw [place_nn (by omega) (by simpa using hk)]; simp) ?_
    rw [List.getElem?_map, List.getElem?_eq_getElem hk]
    simp [hk]
  rw [same_seq (m := l.length) (x := fun k => .bl (l.getD k false)) (y := fun k => .bl (l.getD k false)) (b := fun k => true) (.inr rfl) (kd_ i hi) (kd_ j hj) (ln i hi) (ln j hj) hl (gt i hi) (gt j hj) fun k hk => by rw [same_bl]; simp]
  simp
theorem same_tup {n : Nat} {h : Hm} {l : List (List Nat)} (hl : l.length ≤ 1000) : run D (n + 2) 8 [.tup (l.map .str), .tup (l.map .str)] h = .ok (.bl true) h := by
  have ln : b1op .len [.tup (l.map .str)] h = .ok (.int l.length) h := by
    unfold b1op b1u
    simp
  have gt : ∀ k : Nat, k < l.length → getItem (.tup (l.map .str)) (.int k) h = .ok (.str (l.getD k [])) h := fun k hk => by
    unfold getItem
    simp only [List.length_map]
    rw [place_nn (by omega) (by omega)]
    simp [hk]
  rw [same_seq (m := l.length) (x := fun k => .str (l.getD k [])) (y := fun k => .str (l.getD k [])) (b := fun k => true) (.inl rfl) rfl rfl ln ln hl gt gt fun k hk => by rw [same_str]; simp]
  simp
end K01
end M2

namespace M2
namespace K01
abbrev Var (i : Nat) (s : Env) (w : W) : Prop := ∀ h, varV i s h = .ok w h
theorem Var.ne {i j : Nat} {s : Env} {w : W} {x : Option W} (v : Var i s w) (hn : j ≠ i) : Var i (s.set j x) w := fun h => by rw [var_ne hn]; exact v h
theorem Var.eq {i : Nat} {s : Env} {w : W} (hl : i < s.length) : Var i (s.set i (some w)) w := fun h => var_eq hl
structure Good (s : Env) : Prop where
  len : s.length = 15
  pot : Var 1 s (.ref 2)
theorem Good.set {s : Env} (g : Good s) {i : Nat} {x : Option W} (hi : i ≠ 1) : Good (s.set i x) := ⟨by rw [List.length_set]; exact g.len, g.pot.ne hi⟩
theorem Good.lt {s : Env} (g : Good s) {i : Nat} (hi : i < 15) : i < s.length := by rw [g.len]; exact hi
section
variable {h : Hm} {cells : List Int} {i a b : Int} {s : Env} {n : Nat} {rest : List S}
theorem newL_hp {ws : List W} (h2 : 2 < h.length) : newL ws (hp h i a b) = .ok (.ref h.length) (hp (h ++ [.lst ws]) i a b) := by
  unfold newL alloc
  rw [hp_len, hp_app h2]
theorem alloc_hp {o : O} (h2 : 2 < h.length) : alloc o (hp h i a b) = .ok (.ref h.length) (hp (h ++ [o]) i a b) := by
  unfold alloc
  rw [hp_len, hp_app h2]
theorem short_lit {ws : List W} {h : Hm} (hl : ws.length ≤ 1000) : short ws h = .ok ws h := by
  unfold short
  exact if_pos (le_line hl)
theorem tup_lit {ws : List W} {h : Hm} (hl : ws.length ≤ 1000) : tupV ws h = .ok (.tup ws) h := by
  unfold tupV
  exact if_pos (le_line hl)
theorem hp_get {r : Nat} {o : O} (hr : r ≠ 2) (e : h[r]? = some o) : (hp h i a b)[r]? = some o := by
  unfold hp
  rw [List.getElem?_set_ne (Ne.symm hr), e]
theorem last_get {o : O} : (h ++ [o])[h.length]? = some o := by simp
/-! ### a text -/
theorem cut_len {A : Type} {l : List A} {x y : Option Int} : (cut l x y).length ≤ l.length := by
  unfold cut
  rw [List.length_take, List.length_drop]
  omega
theorem str_add {x y : List Nat} {h : Hm} (hl : x.length + y.length ≤ 1000) : binop .add (.str x) (.str y) h = .ok (.str (x ++ y)) h := by
  show (if _ then _ else _) = _
  rw [if_pos (le_line hl)]
theorem str_slc {x : List Nat} {l u : Option Int} {h : Hm} (hl : x.length ≤ 1000) : getSlice (.str x) l u h = .ok (.str (cut x l u)) h := by
  unfold getSlice
  simp only
  rw [if_pos (le_line hl)]
theorem b1_len_str {x : List Nat} {h : Hm} (hl : x.length ≤ 1000) : b1op .len [.str x] h = .ok (.int x.length) h := by
  unfold b1op b1u
  simp only
  rw [if_pos (le_line hl)]
theorem partA (g : Good s) (L : Left h cells i a) : ∃ s' h' i' a' b' l, evSs (ctx D (n + 5)) (t0 :: t1 :: t2 :: rest) s (hp h i a b) = evSs (ctx D (n + 5)) rest s' (hp h' i' a' b') ∧ Left h' cells i' a' ∧ Good s' ∧ Var 5 s' (.str l) ∧ l.length ≤ 20 := by
  obtain ⟨l1, i1, a1, b1, p1, e1, L1, z1⟩ := word (n := n + 2) (b := b) L
  have q0 : evS (ctx D (n + 5)) t0 s (hp h i a b) = .nx (s.set 3 (some (.str l1))) (hp (h ++ p1) i1 a1 b1) := by
    simp only [t0, evS, evE, den, denL, mkV_v, then_okk, g.pot _, ctx_call]
    rw [show run D (n + 5) 11 [.ref 2] (hp h i a b) = _ from e1]
    simp only [ofR_ok, asg]
  have g1 : Good (s.set 3 (some (.str l1))) := g.set (by decide)
  have v3 : Var 3 (s.set 3 (some (.str l1))) (.str l1) := Var.eq (g.lt (by decide))
  generalize s.set 3 (some (.str l1)) = s1 at q0 g1 v3
  generalize h ++ p1 = h1 at q0 L1
  obtain ⟨v, i2, a2, b2, e2, L2, v0, vm⟩ := draw (n := n + 4) (b := b1) (m := ((l1.length + 1 : Nat) : Int)) L1 (lgn (by omega))
  have q1 : evS (ctx D (n + 5)) t1 s1 (hp h1 i1 a1 b1) = .nx (s1.set 4 (some (.int v))) (hp h1 i2 a2 b2) := by
    simp only [t1, evS, evE, den, denL, mkV_v, then_okk, g1.pot _, v3 _, b1_len_str (show l1.length ≤ 1000 by omega), b_add, ctx_call]
    rw [show run D (n + 5) 6 [.ref 2, .int ((l1.length : Int) + 1)] (hp h1 i1 a1 b1) = _ from e2]
    simp only [ofR_ok, asg]
  have g2 : Good (s1.set 4 (some (.int v))) := g1.set (by decide)
  have v3' : Var 3 (s1.set 4 (some (.int v))) (.str l1) := v3.ne (by decide)
  have v4 : Var 4 (s1.set 4 (some (.int v))) (.int v) := Var.eq (g1.lt (by decide))
  generalize s1.set 4 (some (.int v)) = s2 at q1 g2 v3' v4
  have B2 := L2.base
  have h2 := B2.two
  obtain ⟨w, i3, a3, b3, e3, L3, hw⟩ := pick_ref (n := n + 3) (b := b2) (L2.app [O.lst [.str [], .str [], .str [97], .str [65], .str [49], .str [32], .str [115], .str [122, 122]]]) last_get (by omega) (by simp) (by simp)
  have hz : ∃ z : List Nat, w = .str z ∧ z.length ≤ 2 := by
    simp at hw
    rcases hw with rfl | rfl | rfl | rfl | rfl | rfl | rfl <;> exact ⟨_, rfl, by decide⟩
  obtain ⟨z, rfl, hz⟩ := hz
  have c1 := cut_len (l := l1) (x := none) (y := some v)
  have c2 := cut_len (l := l1) (x := some v) (y := none)
  have q2 : evS (ctx D (n + 5)) t2 s2 (hp h1 i2 a2 b2) = .nx (s2.set 5 (some (.str (cut l1 none (some v) ++ z ++ cut l1 (some v) none)))) (hp (h1 ++ [O.lst [.str [], .str [], .str [97], .str [65], .str [49], .str [32], .str [115], .str [122, 122]]]) i3 a3 b3) := by
    simp only [t2, evS, evE, den, denL, mkV_v, mkL_v, then_okk, g2.pot _, v3' _, v4 _, partD, intPart, str_slc (show l1.length ≤ 1000 by omega), short_lit (show ([W.str [], .str [], .str [97], .str [65], .str [49], .str [32], .str [115], .str [122, 122]] : List W).length ≤ 1000 by simp), newL_hp h2, ctx_call]
    rw [show run D (n + 5) 7 [.ref 2, .ref h1.length] (hp (h1 ++ [O.lst [.str [], .str [], .str [97], .str [65], .str [49], .str [32], .str [115], .str [122, 122]]]) i2 a2 b2) = _ from e3]
    simp only [then_okk]
    rw [str_add (by omega)]
    simp only [then_okk]
    rw [str_add (by rw [List.length_append]; omega)]
    simp only [ofR_ok, asg]
  refine ⟨_, _, i3, a3, b3, cut l1 none (some v) ++ z ++ cut l1 (some v) none, ?_, L3, g2.set (by decide), Var.eq (g2.lt (by decide)), by rw [List.length_append, List.length_append]; omega⟩
  rw [evSs_nx q0, evSs_nx q1, evSs_nx q2]
/-! ### the text's four answers -/
theorem kd_str (h : Hm) (l : List Nat) : kd h (.str l) = some .str := rfl
theorem ans_list {w : W} {h : Hm} {k : Kd} (e : kd h w = some k) (hl : ∀ l, w = .str l → l.length ≤ line) (hs : ∀ l, w = .tup l → ∀ x ∈ l, (∃ k, kd h x = some k) ∧ ∀ i, x = .int i → i.natAbs < 10 ^ 100) :
    run D (n + 5) 1 [w] h = .ok (.bl (isLab w)) h ∧ run D (n + 5) 2 [w] h = .ok (.bl (isName w)) h ∧ run D (n + 5) 0 [w] h = .ok (.bl (isNum w)) h ∧ run D (n + 5) 4 [w] h = .ok (.bl (isFrac w)) h :=
  ⟨is_label (n := n + 4) e hl, is_name (n := n + 3) e hl, is_number (n := n + 4) e, is_fraction (n := n + 3) e hs⟩
theorem partB {l : List Nat} (g : Good s) (L : Left h cells i a) (v5 : Var 5 s (.str l)) (hl : l.length ≤ 20) : ∃ s' h', evSs (ctx D (n + 5)) (t3 :: t4 :: rest) s (hp h i a b) = evSs (ctx D (n + 5)) rest s' (hp h' i a b) ∧ Left h' cells i a ∧ Good s' ∧ Var 5 s' (.str l) := by
  have B := L.base
  have h2 := B.two
  have hz : ∀ l', W.str l = .str l' → l'.length ≤ line := fun l' e => by cases e; exact le_line (by omega)
  have hs : ∀ (h : Hm) l', W.str l = .tup l' → ∀ x ∈ l', (∃ k, kd h x = some k) ∧ ∀ i, x = .int i → i.natAbs < 10 ^ 100 := fun h l' e => nomatch e
  have r12 : ∀ h : Hm, run D (n + 5) 12 [.str l] h = .ok (.bl (isLab (.str l))) h := fun h => law_is_label (n := n + 4) (kd_str h l) hz
  have r13 : ∀ h : Hm, run D (n + 5) 13 [.str l] h = .ok (.bl (isName (.str l))) h := fun h => law_is_name (n := n + 3) (kd_str h l) hz
  have r1 : ∀ h : Hm, run D (n + 5) 1 [.str l] h = .ok (.bl (isLab (.str l))) h := fun h => (ans_list (n := n) (kd_str h l) hz (hs h)).1
  have r2 : ∀ h : Hm, run D (n + 5) 2 [.str l] h = .ok (.bl (isName (.str l))) h := fun h => (ans_list (n := n) (kd_str h l) hz (hs h)).2.1
  have r0 : ∀ h : Hm, run D (n + 5) 0 [.str l] h = .ok (.bl false) h := fun h => (ans_list (n := n) (kd_str h l) hz (hs h)).2.2.1
  have r4 : ∀ h : Hm, run D (n + 5) 4 [.str l] h = .ok (.bl false) h := fun h => (ans_list (n := n) (kd_str h l) hz (hs h)).2.2.2
  have q3 : evS (ctx D (n + 5)) t3 s (hp h i a b) = .nx (s.set 6 (some (.ref h.length))) (hp (h ++ [.lst [.bl (isLab (.str l)), .bl (isName (.str l)), .bl false, .bl false]]) i a b) := by
    simp only [t3, evS, evE, den, denL, mkV_v, mkL_v, then_okk, v5 _, ctx_call, r12, r13, short_lit (show ([W.bl (isLab (.str l)), .bl (isName (.str l)), .bl false, .bl false] : List W).length ≤ 1000 by simp), newL_hp h2, ofR_ok, asg]
  have v6 : Var 6 (s.set 6 (some (.ref h.length))) (.ref h.length) := Var.eq (g.lt (by decide))
  have v5' : Var 5 (s.set 6 (some (.ref h.length))) (.str l) := v5.ne (by decide)
  have L1 := L.app [O.lst [.bl (isLab (.str l)), .bl (isName (.str l)), .bl false, .bl false]]
  have h3 := L1.base.two
  have sm : run D (n + 5) 8 [.ref (h ++ [O.lst [.bl (isLab (.str l)), .bl (isName (.str l)), .bl false, .bl false]]).length, .ref h.length] (hp (h ++ [O.lst [.bl (isLab (.str l)), .bl (isName (.str l)), .bl false, .bl false]] ++ [O.lst [.bl (isLab (.str l)), .bl (isName (.str l)), .bl false, .bl false]]) i a b) = .ok (.bl true) (hp (h ++ [O.lst [.bl (isLab (.str l)), .bl (isName (.str l)), .bl false, .bl false]] ++ [O.lst [.bl (isLab (.str l)), .bl (isName (.str l)), .bl false, .bl false]]) i a b) :=
    same_lst (n := n + 3) (l := [isLab (.str l), isName (.str l), false, false]) (hp_get (by rw [List.length_append]; omega) last_get) (hp_get (by omega) (by rw [List.getElem?_append_left (by simp)]; exact last_get)) (by simp)
  have q4 : evS (ctx D (n + 5)) t4 (s.set 6 (some (.ref h.length))) (hp (h ++ [.lst [.bl (isLab (.str l)), .bl (isName (.str l)), .bl false, .bl false]]) i a b) = .nx (s.set 6 (some (.ref h.length))) (hp (h ++ [.lst [.bl (isLab (.str l)), .bl (isName (.str l)), .bl false, .bl false]] ++ [.lst [.bl (isLab (.str l)), .bl (isName (.str l)), .bl false, .bl false]]) i a b) := by
    simp only [t4, evS, evT, den, denL, mkV_v, mkL_v, mkV_t, then_okk, v5' _, v6 _, ctx_call, r0, r1, r2, r4, short_lit (show ([W.bl (isLab (.str l)), .bl (isName (.str l)), .bl false, .bl false] : List W).length ≤ 1000 by simp), newL_hp h3]
    rw [sm]
    simp only [then_okk, truthOf_bl, notB_ok, ofR_ok, Bool.not_true, evSs_nil]
  exact ⟨_, _, by rw [evSs_nx q3, evSs_nx q4], L1.app [O.lst [.bl (isLab (.str l)), .bl (isName (.str l)), .bl false, .bl false]], g.set (by decide), v5'⟩
end
end K01
end M2

namespace M2
namespace K01
section
variable {h : Hm} {cells : List Int} {i a b : Int} {s : Env} {n : Nat} {rest : List S}
/-! ### a pair -/
/-- what is_fraction is asked: a tuple of small scalars, or a list -/
def PairOk (h : Hm) (w : W) : Prop := (∃ l, w = .tup l ∧ ∀ x ∈ l, (∃ k, ∀ h, kd h x = some k) ∧ ∀ i, x = .int i → i.natAbs < 10 ^ 100) ∨ ∃ r l, w = .ref r ∧ r ≠ 2 ∧ h[r]? = some (.lst l)
def Sc (x : W) : Prop := (∃ k, ∀ h, kd h x = some k) ∧ ∀ i, x = .int i → i.natAbs < 10 ^ 100
theorem Sc.int {i : Int} (hi : i.natAbs < 10 ^ 100) : Sc (.int i) := ⟨⟨.int, fun _ => rfl⟩, fun j e => by cases e; exact hi⟩
theorem Sc.bl {b : Bool} : Sc (.bl b) := ⟨⟨.bool, fun _ => rfl⟩, fun j e => nomatch e⟩
theorem Sc.str {l : List Nat} : Sc (.str l) := ⟨⟨.str, fun _ => rfl⟩, fun j e => nomatch e⟩
theorem lg_big {m : Int} (h : m.natAbs < 10 ^ 100) : m.natAbs.log2 < 9000 := by
  by_cases hz : m.natAbs = 0
  · rw [hz]; decide
  · rw [Nat.log2_lt hz]
    have h1 : (10 : Nat) ^ 100 ≤ 16 ^ 100 := Nat.pow_le_pow_left (by decide) 100
    have h2 : (16 : Nat) ^ 100 = 2 ^ (4 * 100) := by rw [Nat.pow_mul]
    have h3 : 2 ^ (4 * 100) ≤ 2 ^ 9000 := Nat.pow_le_pow_right (by decide) (by decide)
    rw [h2] at h1
    exact Nat.lt_of_lt_of_le h (Nat.le_trans h1 h3)
theorem pow38 (h : Hm) : binop .pow (.int 10) (.int 38) h = .ok (.int (10 ^ 38)) h := b_pow (by decide) (by decide) (by decide)
theorem pow39 (h : Hm) : binop .pow (.int 10) (.int 39) h = .ok (.int (10 ^ 39)) h := b_pow (by decide) (by decide) (by decide)
theorem mul_ok {i j : Int} {h : Hm} (h1 : i.natAbs < 10 ^ 100) (h2 : j.natAbs < 10 ^ 100) : binop .mul (.int i) (.int j) h = .ok (.int (i * j)) h := b_mul (by have := lg_big h1; have := lg_big h2; omega)
abbrev wides : List W := [.int 3, .int 12, .int 60, .int (10 ^ 38)]
abbrev pairs (x y : Int) (r : Nat) : List W := [.tup [.int x, .int y], .tup [.int 0, .int y], .tup [.int 6, .int 4], .tup [.bl true, .int 1], .tup [.int 1, .bl true], .ref r, .tup [.int 1], .tup [.int 1, .int 2, .int 3], .tup [.str [49], .int 2]]
theorem partC {l : List Nat} (g : Good s) (L : Left h cells i a) (v5 : Var 5 s (.str l)) : ∃ s' h' i' a' b' w, evSs (ctx D (n + 5)) (t5 :: t6 :: t7 :: rest) s (hp h i a b) = evSs (ctx D (n + 5)) rest s' (hp h' i' a' b') ∧ Left h' cells i' a' ∧ Good s' ∧ Var 5 s' (.str l) ∧ Var 10 s' w ∧ PairOk h' w := by
  have h2 := L.base.two
  obtain ⟨w, i1, a1, b1, e1, L1, hw⟩ := pick_ref (n := n + 3) (b := b) (L.app [O.lst wides]) last_get (by omega) (by simp) (by simp)
  have hm : ∃ m : Int, w = .int m ∧ 0 < m ∧ m ≤ 10 ^ 38 := by
    simp only [List.mem_cons, List.not_mem_nil, or_false] at hw
    rcases hw with rfl | rfl | rfl | rfl
    · exact ⟨3, rfl, by decide, by decide⟩
    · exact ⟨12, rfl, by decide, by decide⟩
    · exact ⟨60, rfl, by decide, by decide⟩
    · exact ⟨10 ^ 38, rfl, by decide, by decide⟩
  obtain ⟨m, rfl, m0, m1⟩ := hm
  have q5 : evS (ctx D (n + 5)) t5 s (hp h i a b) = .nx (s.set 7 (some (.int m))) (hp (h ++ [O.lst wides]) i1 a1 b1) := by
    simp only [t5, evS, evE, den, denL, mkV_v, mkL_v, then_okk, g.pot _, pow38, short_lit (show wides.length ≤ 1000 by simp), newL_hp h2, ctx_call]
    rw [show run D (n + 5) 7 [.ref 2, .ref h.length] (hp (h ++ [O.lst wides]) i a b) = _ from e1]
    simp only [ofR_ok, asg]
  have g1 : Good (s.set 7 (some (.int m))) := g.set (by decide)
  have v7 : Var 7 (s.set 7 (some (.int m))) (.int m) := Var.eq (g.lt (by decide))
  have v5 : Var 5 (s.set 7 (some (.int m))) (.str l) := v5.ne (by decide)
  generalize s.set 7 (some (.int m)) = s1 at q5 g1 v7 v5
  generalize h ++ [O.lst wides] = h1 at q5 L1
  have p38 : (10 : Int) ^ 38 = 100000000000000000000000000000000000000 := by decide
  have p100 : (10 : Nat) ^ 100 = 10000000000000000000000000000000000000000000000000000000000000000000000000000000000000000000000000000 := by decide
  rw [p38] at m1
  obtain ⟨x, i2, a2, b2, e2, L2, x0, x1⟩ := draw (n := n + 4) (b := b1) (m := 2 * m) L1 (lg_big (by omega))
  obtain ⟨y, i3, a3, b3, e3, L3, y0, y1⟩ := draw (n := n + 4) (b := b2) (m := m + 2) L2 (lg_big (by omega))
  have x1 := x1 (by omega)
  have y1 := y1 (by omega)
  have q6 : evS (ctx D (n + 5)) t6 s1 (hp h1 i1 a1 b1) = .nx ((s1.set 8 (some (.int (x - m)))).set 9 (some (.int (y - 1)))) (hp h1 i3 a3 b3) := by
    simp only [t6, evS, evEs, denL, den, mkV_v, then_okk, g1.pot _, v7 _, mul_ok (show (2 : Int).natAbs < 10 ^ 100 by decide) (show m.natAbs < 10 ^ 100 by omega), b_add, ctx_call]
    rw [show run D (n + 5) 6 [.ref 2, .int (2 * m)] (hp h1 i1 a1 b1) = _ from e2]
    simp only [then_okk, g1.pot _, v7 _, b_sub, b_add]
    rw [show run D (n + 5) 6 [.ref 2, .int (m + 2)] (hp h1 i2 a2 b2) = _ from e3]
    simp only [then_okk, b_sub, ofR_ok, setAll, nxE]
  have g2 : Good ((s1.set 8 (some (.int (x - m)))).set 9 (some (.int (y - 1)))) := (g1.set (by decide)).set (by decide)
  have v8 : Var 8 ((s1.set 8 (some (.int (x - m)))).set 9 (some (.int (y - 1)))) (.int (x - m)) := (Var.eq (g1.lt (by decide))).ne (by decide)
  have v9 : Var 9 ((s1.set 8 (some (.int (x - m)))).set 9 (some (.int (y - 1)))) (.int (y - 1)) := Var.eq (by rw [List.length_set]; exact g1.lt (by decide))
  have v5 : Var 5 ((s1.set 8 (some (.int (x - m)))).set 9 (some (.int (y - 1)))) (.str l) := (v5.ne (by decide)).ne (by decide)
  generalize (s1.set 8 (some (.int (x - m)))).set 9 (some (.int (y - 1))) = s2 at q6 g2 v8 v9 v5
  have h3 := L3.base.two
  obtain ⟨w, i4, a4, b4, e4, L4, hw⟩ := pick_ref (n := n + 3) (b := b3) ((L3.app [O.lst [.int 1, .int 2]]).app [O.lst (pairs (x - m) (y - 1) h1.length)]) last_get (by rw [List.length_append]; omega) (by simp) (by simp)
  have q7 : evS (ctx D (n + 5)) t7 s2 (hp h1 i3 a3 b3) = .nx (s2.set 10 (some w)) (hp (h1 ++ [O.lst [.int 1, .int 2]] ++ [O.lst (pairs (x - m) (y - 1) h1.length)]) i4 a4 b4) := by
    have tl : ∀ (ws : List W) (h : Hm), ws.length ≤ 3 → tupV ws h = .ok (.tup ws) h := fun ws h hl => tup_lit (by omega)
    simp only [t7, evS, evE, den, denL, mkV_v, mkL_v, then_okk, g2.pot _, v8 _, v9 _, tup_lit (show ([W.int (x - m), .int (y - 1)] : List W).length ≤ 1000 by simp), tup_lit (show ([W.int 0, .int (y - 1)] : List W).length ≤ 1000 by simp), tup_lit (show ([W.int 6, .int 4] : List W).length ≤ 1000 by simp), tup_lit (show ([W.bl true, .int 1] : List W).length ≤ 1000 by simp),
      tup_lit (show ([W.int 1, .bl true] : List W).length ≤ 1000 by simp), tup_lit (show ([W.int 1] : List W).length ≤ 1000 by simp), tup_lit (show ([W.int 1, .int 2, .int 3] : List W).length ≤ 1000 by simp), tup_lit (show ([W.str [49], .int 2] : List W).length ≤ 1000 by simp),
      short_lit (show ([W.int 1, .int 2] : List W).length ≤ 1000 by simp), newL_hp h3, short_lit (show (pairs (x - m) (y - 1) h1.length).length ≤ 1000 by simp), newL_hp (L3.app [O.lst [.int 1, .int 2]]).base.two, ctx_call]
    rw [show run D (n + 5) 7 [.ref 2, .ref (h1 ++ [O.lst [.int 1, .int 2]]).length] (hp (h1 ++ [O.lst [.int 1, .int 2]] ++ [O.lst (pairs (x - m) (y - 1) h1.length)]) i3 a3 b3) = _ from e4]
    simp only [ofR_ok, asg]
  have hk : PairOk (h1 ++ [O.lst [.int 1, .int 2]] ++ [O.lst (pairs (x - m) (y - 1) h1.length)]) w := by
    have two : ∀ {u v : W} {h : Hm}, Sc u → Sc v → PairOk h (.tup [u, v]) := fun hu hv => .inl ⟨_, rfl, fun z hz => by
      simp only [List.mem_cons, List.not_mem_nil, or_false] at hz
      rcases hz with rfl | rfl
      · exact hu
      · exact hv⟩
    have sx : Sc (.int (x - m)) := Sc.int (by omega)
    have sy : Sc (.int (y - 1)) := Sc.int (by omega)
    have s0 : ∀ k : Int, k.natAbs < 10 → Sc (.int k) := fun k hk => Sc.int (by omega)
    simp only [pairs, List.mem_cons, List.not_mem_nil, or_false] at hw
    rcases hw with rfl | rfl | rfl | rfl | rfl | rfl | rfl | rfl | rfl
    · exact two sx sy
    · exact two (s0 0 (by decide)) sy
    · exact two (s0 6 (by decide)) (s0 4 (by decide))
    · exact two Sc.bl (s0 1 (by decide))
    · exact two (s0 1 (by decide)) Sc.bl
    · refine .inr ⟨h1.length, [.int 1, .int 2], rfl, by omega, ?_⟩
      rw [List.getElem?_append_left (by simp)]
      exact last_get
    · refine .inl ⟨_, rfl, fun z hz => ?_⟩
      simp only [List.mem_cons, List.not_mem_nil, or_false] at hz
      subst hz
      exact s0 1 (by decide)
    · refine .inl ⟨_, rfl, fun z hz => ?_⟩
      simp only [List.mem_cons, List.not_mem_nil, or_false] at hz
      rcases hz with rfl | rfl | rfl
      · exact s0 1 (by decide)
      · exact s0 2 (by decide)
      · exact s0 3 (by decide)
    · exact two Sc.str (s0 2 (by decide))
  refine ⟨_, _, i4, a4, b4, w, by rw [evSs_nx q5, evSs_nx q6, evSs_nx q7], L4, g2.set (by decide), v5.ne (by decide), Var.eq (g2.lt (by decide)), hk⟩
end
end K01
end M2

namespace M2
namespace K01
section
variable {h : Hm} {cells : List Int} {i a b : Int} {s : Env} {n : Nat} {rest : List S}
def isPair : W → Bool
  | .tup [x, y] => isNum x && isNum y
  | _ => false
theorem frac_not {w : W} (h : isPair w = false) : isFrac w = false := by
  unfold isFrac
  split
  · simp [isPair, isNum] at h
  · rfl
theorem kd_pair {w : W} (p : PairOk h w) : ∃ k, kd (hp h i a b) w = some k ∧ (isK k .tuple = true ↔ ∃ l, w = .tup l) := by
  rcases p with ⟨l, rfl, _⟩ | ⟨r, l, rfl, hr, e⟩
  · exact ⟨.tuple, rfl, fun _ => ⟨l, rfl⟩, fun _ => rfl⟩
  · refine ⟨.list, by unfold kd; simp only [hp_get hr e], fun z => by simp [isK] at z, fun ⟨l, z⟩ => nomatch z⟩
theorem evalGood {w : W} (v10 : Var 10 s w) (p : PairOk h w) : evE (ctx D (n + 5)) s (.and (.isi (.var 10) [.tuple]) (.and (.cmp .eq (.b1 .len [(.var 10)]) (.int 2)) (.and (.call 9 [(.sub (.var 10) (.int 0))]) (.call 9 [(.sub (.var 10) (.int 1))])))) (hp h i a b) = .ok (.bl (isPair w)) (hp h i a b) := by
  obtain ⟨k, ek, hk⟩ := kd_pair (i := i) (a := a) (b := b) p
  rcases p with ⟨l, rfl, hx⟩ | ⟨r, l, rfl, hr, e⟩
  · have ht : isiV [.tuple] (.tup l) (hp h i a b) = .ok (.bl true) (hp h i a b) := by rw [isi_1 ek, hk.mpr ⟨l, rfl⟩]
    have ln : b1op .len [.tup l] (hp h i a b) = .ok (.int l.length) (hp h i a b) := by unfold b1op b1u; rfl
    match l, hx, ht, ln with
    | [x, y], hx, ht, ln =>
      obtain ⟨⟨kx, ex⟩, _⟩ := hx x (by simp)
      obtain ⟨⟨ky, ey⟩, _⟩ := hx y (by simp)
      have g0 : getItem (.tup [x, y]) (.int 0) (hp h i a b) = .ok x (hp h i a b) := rfl
      have g1 : getItem (.tup [x, y]) (.int 1) (hp h i a b) = .ok y (hp h i a b) := rfl
      have n1 : run D (n + 5) 9 [x] (hp h i a b) = .ok (.bl (isNum x)) (hp h i a b) := law_is_number (n := n + 4) (ex _)
      have n2 : run D (n + 5) 9 [y] (hp h i a b) = .ok (.bl (isNum y)) (hp h i a b) := law_is_number (n := n + 4) (ey _)
      simp [evE, den, denL, v10 _, ht, ln, g0, g1, n1, n2, andV_b, isPair]
      cases isNum x <;> simp
    | [], hx, ht, ln => simp [evE, den, denL, v10 _, ht, ln, isPair]
    | [x], hx, ht, ln => simp [evE, den, denL, v10 _, ht, ln, isPair]
    | x :: y :: z :: l, hx, ht, ln =>
      have hne : ((l.length : Int) + 1 + 1 + 1 == 2) = false := by rw [beq_eq_false_iff_ne]; omega
      simp [evE, den, denL, v10 _, ht, ln, isPair, hne]
  · have ht : isiV [.tuple] (.ref r) (hp h i a b) = .ok (.bl false) (hp h i a b) := by
      rw [isi_1 ek]
      cases hq : isK k .tuple with
      | true => obtain ⟨_, z⟩ := hk.mp hq; exact nomatch z
      | false => rfl
    simp [evE, den, denL, v10 _, ht, isPair]
theorem partD {l : List Nat} {w : W} (g : Good s) (L : Left h cells i a) (v5 : Var 5 s (.str l)) (v10 : Var 10 s w) (p : PairOk h w) : ∃ s', evSs (ctx D (n + 5)) (t8 :: t9 :: rest) s (hp h i a b) = evSs (ctx D (n + 5)) rest s' (hp h i a b) ∧ Good s' ∧ Var 5 s' (.str l) := by
  have q8 : evS (ctx D (n + 5)) t8 s (hp h i a b) = .nx (s.set 11 (some (.bl (isPair w)))) (hp h i a b) := by
    simp only [t8, evS]
    rw [evalGood v10 p]
    rfl
  have g1 : Good (s.set 11 (some (.bl (isPair w)))) := g.set (by decide)
  have v11 : Var 11 (s.set 11 (some (.bl (isPair w)))) (.bl (isPair w)) := Var.eq (g.lt (by decide))
  have v10' : Var 10 (s.set 11 (some (.bl (isPair w)))) w := v10.ne (by decide)
  obtain ⟨k, ek, hk⟩ := kd_pair (i := i) (a := a) (b := b) p
  have hs : ∀ l, w = .tup l → ∀ x ∈ l, (∃ k, kd (hp h i a b) x = some k) ∧ ∀ i, x = .int i → i.natAbs < 10 ^ 100 := fun l e x hx => by
    rcases p with ⟨l', e', hp'⟩ | ⟨r, l', e', _⟩
    · rw [e] at e'
      cases e'
      obtain ⟨⟨k, ek⟩, hb⟩ := hp' x hx
      exact ⟨⟨k, ek _⟩, hb⟩
    · rw [e] at e'; cases e'
  have f4 : run D (n + 5) 4 [w] (hp h i a b) = .ok (.bl (isFrac w)) (hp h i a b) := is_fraction (n := n + 3) ek hs
  have sb : ∀ x y : Bool, run D (n + 5) 8 [.bl x, .bl y] (hp h i a b) = .ok (.bl (x == y)) (hp h i a b) := fun x y => same_bl (n := n + 4)
  have q9 : evS (ctx D (n + 5)) t9 (s.set 11 (some (.bl (isPair w)))) (hp h i a b) = .nx (s.set 11 (some (.bl (isPair w)))) (hp h i a b) := by
    cases hg : isPair w with
    | false =>
      rw [hg] at v10' v11
      simp [t9, evS, evT, den, denL, v10' _, v11 _, f4, frac_not hg, sb]
    | true =>
      have : ∃ x y : Int, w = .tup [.int x, .int y] := by
        unfold isPair at hg
        split at hg
        · rename_i x y
          cases x <;> cases y <;> first
            | exact ⟨_, _, rfl⟩
            | (simp [isNum] at hg)
        · cases hg
      obtain ⟨x, y, rfl⟩ := this
      have hx := (hs _ rfl (.int x) (by simp)).2 x rfl
      have g0 : getItem (.tup [.int x, .int y]) (.int 0) (hp h i a b) = .ok (.int x) (hp h i a b) := rfl
      have g1 : getItem (.tup [.int x, .int y]) (.int 1) (hp h i a b) = .ok (.int y) (hp h i a b) := rfl
      have sn : run D (n + 5) 14 [.int x, .int y] (hp h i a b) = .ok (.bl (decide (1 ≤ y) && (Int.gcd x y == 1))) (hp h i a b) := shares_none (n := n + 4) hx
      have ef : isFrac (.tup [.int x, .int y]) = (decide (1 ≤ y) && (Int.gcd x y == 1)) := rfl
      rw [hg] at v10' v11
      simp [t9, evS, evT, den, denL, v10' _, v11 _, f4, sb, g0, g1, sn, ef]
  exact ⟨_, by rw [evSs_nx q8, evSs_nx q9], g1, v5.ne (by decide)⟩
/-! ### the turns -/
theorem turn (g : Good s) (L : Left h cells i a) : ∃ s' h' i' a' b' l, evSs (ctx D (n + 5)) [t0, t1, t2, t3, t4, t5, t6, t7, t8, t9] s (hp h i a b) = .nx s' (hp h' i' a' b') ∧ Left h' cells i' a' ∧ Good s' ∧ Var 5 s' (.str l) ∧ l.length ≤ 20 := by
  obtain ⟨s1, h1, i1, a1, b1, l, e1, L1, g1, v1, z⟩ := partA (n := n) (b := b) (rest := [t3, t4, t5, t6, t7, t8, t9]) g L
  obtain ⟨s2, h2, e2, L2, g2, v2⟩ := partB (n := n) (b := b1) (rest := [t5, t6, t7, t8, t9]) g1 L1 v1 z
  obtain ⟨s3, h3, i3, a3, b3, w, e3, L3, g3, v3, v10, p⟩ := partC (n := n) (b := b1) (rest := [t8, t9]) g2 L2 v2
  obtain ⟨s4, e4, g4, v4⟩ := partD (n := n) (b := b3) (rest := []) g3 L3 v3 v10 p
  exact ⟨s4, h3, i3, a3, b3, l, by rw [e1, e2, e3, e4, evSs_nil], L3, g4, v4, z⟩
theorem turns : ∀ (its : List W) {s : Env} {h : Hm} {i a b : Int} (g : Good s) (L : Left h cells i a) (x : (∃ l, Var 5 s (.str l) ∧ l.length ≤ 20) ∨ its ≠ []), ∃ s' h' i' a' b' l, forGo (forTurn false [2] (evSs (ctx D (n + 5)) [t0, t1, t2, t3, t4, t5, t6, t7, t8, t9])) [] its s (hp h i a b) = .nx s' (hp h' i' a' b') ∧ Left h' cells i' a' ∧ Good s' ∧ Var 5 s' (.str l) ∧ l.length ≤ 20
  | [], s, h, i, a, b, g, L, x => by
    rcases x with ⟨l, v, z⟩ | x
    · exact ⟨s, h, i, a, b, l, rfl, L, g, v, z⟩
    · exact absurd rfl x
  | w :: its, s, h, i, a, b, g, L, _ => by
    obtain ⟨s1, h1, i1, a1, b1, l, e1, L1, g1, v1, z⟩ := turn (n := n) (b := b) (g.set (i := 2) (x := some w) (by decide)) L
    obtain ⟨s2, h2, i2, a2, b2, l2, e2, r⟩ := turns its (b := b1) g1 L1 (.inl ⟨l, v1, z⟩)
    refine ⟨s2, h2, i2, a2, b2, l2, ?_, r⟩
    rw [forGo]
    have ok : okG [] (hp h i a b) = true := rfl
    rw [ok, if_pos rfl]
    have ft : forTurn false [2] (evSs (ctx D (n + 5)) [t0, t1, t2, t3, t4, t5, t6, t7, t8, t9]) w s (hp h i a b) = .nx s1 (hp h1 i1 a1 b1) := by
      unfold forTurn
      simp only [setT, setAll, Bool.false_eq_true, if_false]
      exact e1
    rw [ft]
    exact e2
theorem loop8 (g : Good s) (L : Left h cells i a) : ∃ s' h' i' a' b' l, evSs (ctx D (n + 5)) (w2 :: rest) s (hp h i a b) = evSs (ctx D (n + 5)) rest s' (hp h' i' a' b') ∧ Left h' cells i' a' ∧ Good s' ∧ Var 5 s' (.str l) ∧ l.length ≤ 20 := by
  obtain ⟨s', h', i', a', b', l, e, r⟩ := turns (n := n) (b := b) (upto 0 8) g L (.inr (by simp [upto]))
  refine ⟨s', h', i', a', b', l, ?_, r⟩
  have q : evS (ctx D (n + 5)) w2 s (hp h i a b) = .nx s' (hp h' i' a' b') := by
    simp only [w2, evS, evE, den, mkV_v, ofR_ok]
    rw [show srcV .rng1 (.int 8) .non (hp h i a b) = _ from src_rng (m := 8) (by decide)]
    simp only [ofR_ok, forRun, e, forEnd, unlock]
  rw [evSs_nx q]
end
end K01
end M2

namespace M2
namespace K01
section
variable {h : Hm} {cells : List Int} {i a b : Int} {s : Env} {n : Nat} {rest : List S}
abbrev f4s : List W := [.bl false, .bl false, .bl false, .bl false]
theorem rep4 {r : Nat} (h2 : 2 < h.length) (hr : r ≠ 2) (e : h[r]? = some (.lst [.bl false])) : binop .mul (.ref r) (.int 4) (hp h i a b) = .ok (.ref h.length) (hp (h ++ [.lst f4s]) i a b) := by
  have e' := hp_get (i := i) (a := a) (b := b) hr e
  have h1 : (-(2 : Int) ^ 63 ≤ 4 ∧ (4 : Int) < 2 ^ 63 ∧ ([W.bl false] : List W).length * (4 : Int).toNat ≤ line) := ⟨by decide, by decide, le_line (by decide)⟩
  show (match (hp h i a b)[r]? with
    | some (.lst x) => if -(2 : Int) ^ 63 ≤ 4 ∧ (4 : Int) < 2 ^ 63 ∧ x.length * (4 : Int).toNat ≤ line then alloc (.lst (List.replicate (4 : Int).toNat x).flatten) (hp h i a b) else .bad
    | _ => .bad) = _
  rw [e']
  simp only
  rw [if_pos h1, alloc_hp h2]
  rfl
/-- a thing that is none of them -/
structure Dull (h : Hm) (w : W) : Prop where
  kd : ∃ k, ∀ i a b t, M2.kd (hp (h ++ t) i a b) w = some k
  str : ∀ l, w ≠ .str l
  lab : isLab w = false
  name : isName w = false
  num : isNum w = false
  frac : isFrac w = false
  tup : ∀ l, w = .tup l → ∀ x ∈ l, Sc x
theorem step5 {w : W} (g : Good s) (L : Left h cells i a) (v14 : Var 14 s w) (d : Dull h w) : evS (ctx D (n + 5)) u0 s (hp h i a b) = .nx s (hp (h ++ ([O.lst f4s] ++ ([O.lst [.bl false]] ++ [O.lst f4s]))) i a b) := by
  have h2 := L.base.two
  obtain ⟨k, hk⟩ := d.kd
  have ek : kd (hp h i a b) w = some k := by have := hk i a b []; rw [List.append_nil] at this; exact this
  obtain ⟨r1, r2, r0, r4⟩ := ans_list (n := n) ek (fun l e => absurd e (d.str l)) fun l e x hx => by
    obtain ⟨⟨k, e⟩, b⟩ := d.tup l e x hx
    exact ⟨⟨k, e _⟩, b⟩
  rw [d.lab] at r1
  rw [d.name] at r2
  rw [d.num] at r0
  rw [d.frac] at r4
  have L1 := L.app [O.lst f4s]
  have L2 := L1.app [O.lst [.bl false]]
  have e1 : (h ++ [O.lst f4s] ++ [O.lst [W.bl false]])[(h ++ [O.lst f4s]).length]? = some (.lst [.bl false]) := last_get
  have sm : run D (n + 5) 8 [.ref h.length, .ref (h ++ [O.lst f4s] ++ [O.lst [W.bl false]]).length] (hp (h ++ [O.lst f4s] ++ [O.lst [W.bl false]] ++ [O.lst f4s]) i a b) = .ok (.bl true) (hp (h ++ [O.lst f4s] ++ [O.lst [W.bl false]] ++ [O.lst f4s]) i a b) :=
    same_lst (n := n + 3) (l := [false, false, false, false]) (hp_get (by omega) (by rw [List.getElem?_append_left (by simp), List.getElem?_append_left (by simp)]; exact last_get)) (hp_get (by rw [List.length_append, List.length_append]; omega) last_get) (by simp)
  simp only [u0, evS, evT, den, denL, mkV_v, mkL_v, mkV_t, then_okk, v14 _, ctx_call, r0, r1, r2, r4, short_lit (show f4s.length ≤ 1000 by simp), newL_hp h2, short_lit (show ([W.bl false] : List W).length ≤ 1000 by simp), newL_hp L1.base.two, rep4 L2.base.two (show (h ++ [O.lst f4s]).length ≠ 2 by rw [List.length_append]; omega) e1]
  rw [sm]
  simp only [then_okk, truthOf_bl, notB_ok, ofR_ok, Bool.not_true, evSs_nil, List.append_assoc]
theorem things_go {r : Nat} {things : List W} (hr2 : r ≠ 2) : ∀ (its : List W) {s : Env} {h : Hm} (g : Good s) (L : Left h cells i a) (v12 : ∃ x, Var 12 s (.int x) ∧ x.natAbs < 10 ^ 100) (hr : h[r]? = some (.lst things)) (hd : ∀ w ∈ its, Dull h w),
    ∃ s' h', forGo (forTurn false [14] (evSs (ctx D (n + 5)) [u0])) [(r, things)] its s (hp h i a b) = .nx s' (hp h' i a b) ∧ Left h' cells i a ∧ Good s' ∧ ∃ x, Var 12 s' (.int x) ∧ x.natAbs < 10 ^ 100
  | [], s, h, g, L, v12, hr, _ => by
    have ok : okG [(r, things)] (hp h i a b) = true := by simp [okG, asL, hp_get hr2 hr]
    exact ⟨s, h, by rw [forGo, ok, if_pos rfl], L, g, v12⟩
  | w :: its, s, h, g, L, v12, hr, hd => by
    have ok : okG [(r, things)] (hp h i a b) = true := by simp [okG, asL, hp_get hr2 hr]
    have g1 := g.set (i := 14) (x := some w) (by decide)
    have v14 : Var 14 (s.set 14 (some w)) w := Var.eq (g.lt (by decide))
    have e1 := step5 (n := n) (b := b) g1 L v14 (hd w (by simp))
    obtain ⟨x, vx, hx⟩ := v12
    obtain ⟨s', h', e2, r'⟩ := things_go hr2 its (s := s.set 14 (some w)) (h := h ++ ([O.lst f4s] ++ ([O.lst [.bl false]] ++ [O.lst f4s]))) g1 (L.app _) ⟨x, vx.ne (by decide), hx⟩ (by rw [List.getElem?_append_left (List.getElem?_eq_some_iff.mp hr).1]; exact hr) fun w' hw' => by
      have d := hd w' (by simp [hw'])
      obtain ⟨k, hk⟩ := d.kd
      exact ⟨⟨k, fun i a b t => by rw [List.append_assoc]; exact hk i a b _⟩, d.str, d.lab, d.name, d.num, d.frac, d.tup⟩
    refine ⟨s', h', ?_, r'⟩
    rw [forGo, ok, if_pos rfl]
    have ft : forTurn false [14] (evSs (ctx D (n + 5)) [u0]) w s (hp h i a b) = .nx (s.set 14 (some w)) (hp (h ++ ([O.lst f4s] ++ ([O.lst [.bl false]] ++ [O.lst f4s]))) i a b) := by
      unfold forTurn
      simp only [setT, setAll, Bool.false_eq_true, if_false]
      rw [evSs_nx e1, evSs_nil]
    rw [ft]
    exact e2
theorem finish {l : List Nat} (g : Good s) (L : Left h cells i a) (v5 : Var 5 s (.str l)) : ∃ hm, evSs (ctx D (n + 5)) [w3, w4, w5, w6] s (hp h i a b) = .rt (.bl true) hm := by
  have p38 : (10 : Int) ^ 38 = 100000000000000000000000000000000000000 := by decide
  have p39 : (10 : Int) ^ 39 = 1000000000000000000000000000000000000000 := by decide
  have p100 : (10 : Nat) ^ 100 = 10000000000000000000000000000000000000000000000000000000000000000000000000000000000000000000000000000 := by decide
  obtain ⟨x, i1, a1, b1, e1, L1, x0, x1⟩ := draw (n := n + 4) (b := b) (m := 10 ^ 39) L (lg_big (by rw [p39, p100]; decide))
  have x1 := x1 (by rw [p39]; decide)
  rw [p39] at x1
  have q3 : evS (ctx D (n + 5)) w3 s (hp h i a b) = .nx (s.set 12 (some (.int (x - 5 * 10 ^ 38)))) (hp h i1 a1 b1) := by
    simp only [w3, evS, evE, den, denL, mkV_v, then_okk, g.pot _, pow39, pow38, ctx_call]
    rw [show run D (n + 5) 6 [.ref 2, .int (10 ^ 39)] (hp h i a b) = _ from e1]
    simp only [then_okk, mul_ok (show (5 : Int).natAbs < 10 ^ 100 by rw [p100]; decide) (show ((10 : Int) ^ 38).natAbs < 10 ^ 100 by rw [p38, p100]; decide), b_sub, ofR_ok, asg]
  have g1 : Good (s.set 12 (some (.int (x - 5 * 10 ^ 38)))) := g.set (by decide)
  have v12 : Var 12 (s.set 12 (some (.int (x - 5 * 10 ^ 38)))) (.int (x - 5 * 10 ^ 38)) := Var.eq (g.lt (by decide))
  have v5 : Var 5 (s.set 12 (some (.int (x - 5 * 10 ^ 38)))) (.str l) := v5.ne (by decide)
  generalize s.set 12 (some (.int (x - 5 * 10 ^ 38))) = s1 at q3 g1 v12 v5
  have hx : (x - 5 * 10 ^ 38).natAbs < 10 ^ 100 := by rw [p38, p100]; omega
  generalize x - 5 * 10 ^ 38 = y at v12 hx
  have h2 := L1.base.two
  generalize hh3 : h ++ [O.lst [.str l]] ++ [O.dct []] ++ [O.dct [(.str [97], .int 1)]] = h3
  generalize hth : ([.non, .bl true, .bl false, .tup [], .ref h.length, .ref (h ++ [O.lst [.str l]]).length, .tup [.str [97]], .ref (h ++ [O.lst [.str l]] ++ [O.dct []]).length] : List W) = things
  have L2 := (L1.app [O.lst [.str l]]).app [O.dct []]
  have L3 : Left h3 cells i1 a1 := by rw [← hh3]; exact L2.app _
  have q4 : evS (ctx D (n + 5)) w4 s1 (hp h i1 a1 b1) = .nx (s1.set 13 (some (.ref h3.length))) (hp (h3 ++ [O.lst things]) i1 a1 b1) := by
    have d0 : ∀ h : Hm, dctV [] h = alloc (.dct []) h := fun _ => rfl
    have d1 : ∀ h : Hm, dctV [.str [97], .int 1] h = alloc (.dct [(.str [97], .int 1)]) h := fun _ => rfl
    have t0 : ∀ h : Hm, tupV [] h = .ok (.tup []) h := fun h => tup_lit (by simp)
    simp only [w4, evS, evE, den, denL, mkV_v, mkL_v, then_okk, v5 _, t0, tup_lit (show ([W.str [97]] : List W).length ≤ 1000 by simp), short_lit (show ([W.str l] : List W).length ≤ 1000 by simp), newL_hp h2, d0, d1, alloc_hp (L1.app [O.lst [.str l]]).base.two, alloc_hp L2.base.two, hh3, hth]
    rw [short_lit (by rw [← hth]; simp)]
    simp only [then_okk, newL_hp L3.base.two, ofR_ok, asg]
  have g2 : Good (s1.set 13 (some (.ref h3.length))) := g1.set (by decide)
  have v13 : Var 13 (s1.set 13 (some (.ref h3.length))) (.ref h3.length) := Var.eq (g1.lt (by decide))
  have v12 : Var 12 (s1.set 13 (some (.ref h3.length))) (.int y) := v12.ne (by decide)
  generalize s1.set 13 (some (.ref h3.length)) = s2 at q4 g2 v13 v12
  have h33 := L3.base.two
  have hl3 : h3.length = h.length + 3 := by rw [← hh3]; simp
  have at1 : ∀ r o, r < h3.length → r ≠ 2 → h3[r]? = some o → ∀ i a b t, (hp (h3 ++ [O.lst things] ++ t) i a b)[r]? = some o := fun r o hr h2' e i a b t => hp_get h2' (by rw [List.append_assoc, List.getElem?_append_left hr]; exact e)
  have a0 : h3[h.length]? = some (.lst [.str l]) := by rw [← hh3]; simp
  have a1' : h3[h.length + 1]? = some (.dct []) := by
    rw [← hh3, List.append_assoc, List.append_assoc, List.getElem?_append_right (by omega)]
    have : h.length + 1 - h.length = 1 := by omega
    rw [this]; rfl
  have a2' : h3[h.length + 2]? = some (.dct [(.str [97], .int 1)]) := by
    rw [← hh3, List.append_assoc, List.append_assoc, List.getElem?_append_right (by omega)]
    have : h.length + 2 - h.length = 2 := by omega
    rw [this]; rfl
  have dull : ∀ w ∈ things, Dull (h3 ++ [O.lst things]) w := by
    intro w hw
    have l1 : (h ++ [O.lst [W.str l]]).length = h.length + 1 := by simp
    have l2 : (h ++ [O.lst [W.str l]] ++ [O.dct []]).length = h.length + 2 := by simp
    rw [l1, l2] at hth
    have dref : ∀ r, (∃ k, ∀ i a b t, M2.kd (hp (h3 ++ [O.lst things] ++ t) i a b) (.ref r) = some k) → Dull (h3 ++ [O.lst things]) (.ref r) := fun r hk => ⟨hk, nofun, rfl, rfl, rfl, rfl, nofun⟩
    rw [← hth] at hw
    simp only [List.mem_cons, List.not_mem_nil, or_false] at hw
    rcases hw with rfl | rfl | rfl | rfl | rfl | rfl | rfl | rfl
    · exact ⟨⟨.non, fun _ _ _ _ => rfl⟩, nofun, rfl, rfl, rfl, rfl, nofun⟩
    · exact ⟨⟨.bool, fun _ _ _ _ => rfl⟩, nofun, rfl, rfl, rfl, rfl, nofun⟩
    · exact ⟨⟨.bool, fun _ _ _ _ => rfl⟩, nofun, rfl, rfl, rfl, rfl, nofun⟩
    · exact ⟨⟨.tuple, fun _ _ _ _ => rfl⟩, nofun, rfl, rfl, rfl, rfl, fun l e x hx => by cases e; cases hx⟩
    · exact dref _ ⟨.list, fun i a b t => by unfold M2.kd; simp only [at1 _ _ (by omega) (by omega) a0 i a b t]⟩
    · exact dref _ ⟨.dict, fun i a b t => by unfold M2.kd; simp only [at1 _ _ (by omega) (by omega) a1' i a b t]⟩
    · exact ⟨⟨.tuple, fun _ _ _ _ => rfl⟩, nofun, rfl, rfl, rfl, rfl, fun l e x hx => by
        cases e
        simp only [List.mem_cons, List.not_mem_nil, or_false] at hx
        subst hx
        exact Sc.str⟩
    · exact dref _ ⟨.dict, fun i a b t => by unfold M2.kd; simp only [at1 _ _ (by omega) (by omega) a2' i a b t]⟩
  obtain ⟨s3, h4, e5, L5, g5, z, v12, hz⟩ := things_go (n := n) (b := b1) (r := h3.length) (things := things) (by omega) things g2 (L3.app [O.lst things]) ⟨y, v12, hx⟩ last_get dull
  have q5 : evS (ctx D (n + 5)) w5 s2 (hp (h3 ++ [O.lst things]) i1 a1 b1) = .nx s3 (hp h4 i1 a1 b1) := by
    have sv : srcV .seq (.ref h3.length) .non (hp (h3 ++ [O.lst things]) i1 a1 b1) = .ok ⟨things, [(h3.length, things)], hp (h3 ++ [O.lst things]) i1 a1 b1, none⟩ (hp (h3 ++ [O.lst things]) i1 a1 b1) := srcV_of (by
      unfold src
      simp only [hp_get (show h3.length ≠ 2 by omega) last_get])
    simp only [w5, evS, evE, den, mkV_v, ofR_ok, v13 _, sv, forRun, e5, forEnd, unlock]
  have h5 := L5.base.two
  have kz : ∀ h : Hm, kd h (.int z) = some .int := fun _ => rfl
  have kt : ∀ h : Hm, kd h (.tup [.int z, .int 1]) = some .tuple := fun _ => rfl
  obtain ⟨r1, _, r0, r4⟩ := ans_list (n := n) (kz (hp h4 i1 a1 b1)) (fun l e => nomatch e) fun l e => nomatch e
  have r4t : run D (n + 5) 4 [.tup [.int z, .int 1]] (hp h4 i1 a1 b1) = .ok (.bl true) (hp h4 i1 a1 b1) := by
    have := is_fraction (n := n + 3) (kt (hp h4 i1 a1 b1)) fun l e x hx => by
      cases e
      simp only [List.mem_cons, List.not_mem_nil, or_false] at hx
      rcases hx with rfl | rfl
      · exact ⟨⟨.int, rfl⟩, fun j e => by cases e; exact hz⟩
      · exact ⟨⟨.int, rfl⟩, fun j e => by cases e; rw [p100]; decide⟩
    have e : isFrac (.tup [.int z, .int 1]) = true := by simp [isFrac]
    rw [e] at this
    exact this
  have sm : run D (n + 5) 8 [.ref h4.length, .ref (h4 ++ [O.lst [.bl true, .bl false, .bl true, .bl false]]).length] (hp (h4 ++ [O.lst [.bl true, .bl false, .bl true, .bl false]] ++ [O.lst [.bl true, .bl false, .bl true, .bl false]]) i1 a1 b1) = .ok (.bl true) (hp (h4 ++ [O.lst [.bl true, .bl false, .bl true, .bl false]] ++ [O.lst [.bl true, .bl false, .bl true, .bl false]]) i1 a1 b1) :=
    same_lst (n := n + 3) (l := [true, false, true, false]) (hp_get (by omega) (by rw [List.getElem?_append_left (by simp)]; exact last_get)) (hp_get (by rw [List.length_append]; omega) last_get) (by simp)
  have q6 : ∃ hm, evS (ctx D (n + 5)) w6 s3 (hp h4 i1 a1 b1) = .rt (.bl true) hm := by
    refine ⟨hp (h4 ++ [O.lst [.bl true, .bl false, .bl true, .bl false]] ++ [O.lst [.bl true, .bl false, .bl true, .bl false]]) i1 a1 b1, ?_⟩
    simp only [w6, evS, evE, den, denL, mkV_v, mkL_v, then_okk, v12 _, ctx_call, r0, r1, r4, r4t, isNum, isLab, isFrac, tup_lit (show ([W.int z, .int 1] : List W).length ≤ 1000 by simp), short_lit (show ([W.bl true, .bl false, .bl true, .bl false] : List W).length ≤ 1000 by simp), newL_hp h5, newL_hp (L5.app [O.lst [.bl true, .bl false, .bl true, .bl false]]).base.two]
    rw [sm]
    rfl
  obtain ⟨hm, q6⟩ := q6
  exact ⟨hm, by rw [evSs_nx q3, evSs_nx q4, evSs_nx q5, evSs_rt q6]⟩
end
theorem law_true (ns : List Int) : ∃ hm, run D 60 15 [.kl (ns.map .int)] [] = .ok (.bl true) hm := by
  have B0 : Base (heap0 ns) ((slice63 ns).map absI) := ⟨by show 2 < 3; decide, rfl⟩
  have L0 : Left (heap0 ns) ((slice63 ns).map absI) 0 20011 := ⟨B0, by decide, by decide, by decide⟩
  rw [show run D 60 15 [.kl (ns.map .int)] [] = _ from run_at (n := 59) (f := b_law) rfl rfl, wall]
  have fin : ∀ {h : Hm}, evSs (ctx D (54 + 5)) [w0, w1, w2, w3, w4, w5, w6] (start b_law [.kl (ns.map W.int)]) [] = .rt (.bl true) h → ∃ hm, back [] (evSs (ctx D 59) [w0, w1, w2, w3, w4, w5, w6] (start b_law [.kl (ns.map W.int)]) []) = .ok (.bl true) hm := fun {h} e => by
    have e : evSs (ctx D 59) [w0, w1, w2, w3, w4, w5, w6] (start b_law [.kl (ns.map W.int)]) [] = .rt (.bl true) h := e
    rw [e, back_rt]
    unfold gc
    split
    · exact ⟨_, rfl⟩
    · exact ⟨_, rfl⟩
  have v0 : Var 0 (start b_law [.kl (ns.map W.int)]) (.kl (ns.map .int)) := fun _ => rfl
  have ls : (start b_law [.kl (ns.map W.int)]).length = 15 := rfl
  generalize start b_law [.kl (ns.map W.int)] = s at v0 ls fin
  have q0 : evS (ctx D (54 + 5)) w0 s [] = .nx (s.set 1 (some (.ref 2))) (heap0 ns) := by
    simp only [w0, evS, evE, den, denL, mkV_v, then_okk, v0 _, ctx_call]
    rw [show run D (54 + 5) 5 [.kl (ns.map .int)] [] = _ from pot (n := 58)]
    simp only [ofR_ok, asg]
  have g1 : Good (s.set 1 (some (.ref 2))) := ⟨by rw [List.length_set]; exact ls, Var.eq (by omega)⟩
  generalize s.set 1 (some (.ref 2)) = s1 at q0 g1
  have q1 : evS (ctx D (54 + 5)) w1 s1 (heap0 ns) = .nx s1 (hp (heap0 ns ++ [O.lst (wordList.map .str)]) 0 20011 0) := by
    have lw : run D (54 + 5) 10 [] (heap0 ns) = .ok (.ref (heap0 ns).length) (heap0 ns ++ [O.lst (wordList.map .str)]) := law_words (n := 58)
    have rw_ : rowOf (.ref (heap0 ns).length) (heap0 ns ++ [O.lst (wordList.map .str)]) = .ok (wordList.map .str) (heap0 ns ++ [O.lst (wordList.map .str)]) := rfl
    have bt : ∀ h : Hm, blop .tuple (wordList.map .str) h = .ok (.tup (wordList.map .str)) h := fun _ => rfl
    have st : ∀ h : Hm, run D (54 + 5) 8 [.tup (wordList.map .str), .tup (wordList.map .str)] h = .ok (.bl true) h := fun h => same_tup (n := 57) (by decide)
    simp only [w1, evS, evT, den, denL, mkV_v, mkV_l, mkV_t, then_okk, con0, ctx_call, lw, rw_, bt, st, truthOf_bl, notB_ok, ofR_ok, Bool.not_true, evSs_nil]
    rfl
  obtain ⟨s2, h2, i2, a2, b2, l, e2, L2, g2, v5, _⟩ := loop8 (n := 54) (b := 0) (rest := [w3, w4, w5, w6]) g1 (L0.app [O.lst (wordList.map .str)])
  obtain ⟨hm, e3⟩ := finish (n := 54) (b := b2) g2 L2 v5
  exact fin (h := hm) (by rw [evSs_nx q0, evSs_nx q1, e2, e3])
end K01
end M2

namespace M2
namespace K01
open PySem PySem.Spec PyProof.Rows L2
abbrev P : Program := PySem.Challenge.pw_stormwoods_k01_words_and_fractions
abbrev Ro : PySem.W.OpenRow := PySem.W.OpenLaw.row PySem.Challenge.rw_stormwoods_k01_words_and_fractions
def ds : List DS := dsOf P.main.body
def cs : List (Str × W) := [("WORDS", .tup (wordList.map .str)), ("LETTERS", .str letters), ("LONGEST", .int 8)]
abbrev hk : PySem.W.Hook := lookM 5 ds cs
def ob (s : PySem.W.SharedT) : AlM := seenG 5 ds cs (HandSHeadRun.getT s)
theorem ob_eq (s : PySem.W.SharedT) : ob s = hk.obs s.abs := seenG_eq (HandSHeadRun.getT_eq s)
def names : List Str := topNames P.main.body
theorem runs (w : World) : HandSHeadRun.RunEq Ro (PySem.W.view Ro.prog [20]) hk ob 4000 names w := by
  intro os
  kernel_rfl
theorem fit : fits (mkTop ds cs) ds bodies := by
  unfold fits
  kernel_rfl
theorem facts {nm : Nm} {w : World} {K : PySem.W.Frag} {h : Heap} {mg : Str → Option Value} {f : Addr} (X : K.In h) (G : h.Ns mainGlobals mg) (hfa : mg ("law" : Str) = some (.ref f)) (c : TellsM ds cs K) :
    ∃ fd : FuncData, (∀ (s : Shared) (v : Value), BindsTo s fd ⟨[v], []⟩ [("script", v)]) ∧ ∀ base : Heap, K.In base → base.Ns mainGlobals mg → FnOk P w K mg base (CXw P) 60 f fd ["script"] (spM nm K (run D 60 15)) := by
  have eD : mkProg bodies cs (10 ^ 100) = D := by
    unfold mkProg
    congr 1
    funext i
    show (cs[i]?).map (·.2) = cons[i]?
    rw [← List.getElem?_map]
    rfl
  have hd : ∃ d, ds[15]? = some d ∧ psOf d.2.1 = [("script" : Str)] ∧ d.1 = ("law" : Str) := by
    refine ⟨(ds[15]?).getD ("", ⟨[], [], none, [], [], none, []⟩, [], (ds[0]!).2.2.2), ?_, ?_, ?_⟩ <;> kernel_rfl
  obtain ⟨d, h1, h2, h3⟩ := hd
  obtain ⟨fd, b, F⟩ := law_fn (nm := nm) (P := P) (w := w) (n := 59) (most := 10 ^ 100) X G c fit (by kernel_rfl) (by kernel_rfl) h1 (b := b_law) rfl h2 (by rw [h3]; exact hfa)
  rw [eD] at F
  exact ⟨fd, b, fun base x y => FnOk.any (F base x y)⟩
end K01
end M2
open PySem PySem.W PySem.Calls PyProof.Rows
theorem PySem.Challenge.cw_stormwoods_k01_words_and_fractions_holds : PySem.Challenge.rw_stormwoods_k01_words_and_fractions.Holds := by
  w_on; o_law
  refine HandSHeadRun.head_any (r := OpenLaw.row PySem.Challenge.rw_stormwoods_k01_words_and_fractions) (q := view (OpenLaw.row PySem.Challenge.rw_stormwoods_k01_words_and_fractions).prog [20]) (H := M2.K01.hk) (ob := M2.K01.ob) (M := 4000) (loose := M2.K01.names) (d := HandSHeadRun.topDef (OpenLaw.row PySem.Challenge.rw_stormwoods_k01_words_and_fractions).prog 20) (kwd := []) M2.K01.ob_eq
    (by kernel_rfl) (fun s => by kernel_rfl) M2.K01.runs (by kernel_rfl) (by kernel_rfl) (by kernel_rfl) (by rfl) (by first | assumption | decide +kernel) (by decide +kernel) ⟨rfl, rfl, rfl, rfl, rfl, by decide +kernel⟩ ?hw ?hc
  case hw => w_witness2
  case hc =>
    refine L2.walk_ofE (l := PySem.Challenge.rw_stormwoods_k01_words_and_fractions) (n := 63) (k := 60) (x := "script") (CX := M2.CXw M2.K01.P) rfl (by decide) (by kernel_rfl) ⟨rfl, by decide, by decide⟩ ?F (fun _ _ _ _ z => by obtain ⟨_, _, _, _, _, _, _, _, _, _, _, _, _, z⟩ := z; exact z)
    intro w mg fa h Y G hmg0
    obtain ⟨K, KX, c⟩ := Y
    have hmg : mg ("law" : PySem.Str) = some (.ref fa) := by
      have e : (HandSHeadRun.topDef (OpenLaw.row PySem.Challenge.rw_stormwoods_k01_words_and_fractions).prog 20).name = ("law" : PySem.Str) := by kernel_rfl
      rw [← e]
      exact hmg0
    obtain ⟨fd, hb, hF⟩ := M2.K01.facts (nm := ⟨fun _ => 0, fun _ => "", fun _ => []⟩) (w := w) KX G hmg c
    exact ⟨K, fd, _, KX, hb, fun H a ns hl hO hS => M2.law_says (M2.K01.law_true ns) hO hS, hF⟩
