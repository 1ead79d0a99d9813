import PyProof.Rows.All
import Wide.All
import OpenK.AllK
import Wide.FinOn
import KE.KStateDown
import Lean
import HandS.Comp
import HandS.ForMost
import HandS.Exc
import HandS.WordsExc
import HandS.TryOnly
import HandS.ExcOwn
import HandS.StrMore
import HandS.Flow
import HandS.TupAny
import HandS.Deep
import HandS.Wide
import HandS.IsInst
import HandS.DictComp
import KE.KeyNested
import PyProof.Rows.SeqMore
import PyProof.ListMulRoad
import PyProof.AutoListH
import HandS.TupLen
import HandS.WordsDict
import HandS.Text
import HandS.Codes
import HandS.RaiseMore
import KE.IntTextLaws
import HandS.SortRule
import HandS.ExcValue
import HandS.OwnEq
import HandS.Iter
import HandS.Star
import HandS.More
import HandS.NoneIn
import HandS.Small
import HandS.Defaults
import HandS.Ends
import HandS.HeadEnd
import HandS.HeadHook1
import HandS.HeadHook2
import HandS.HeadHook3
import HandS.Words
import HandS.Head0
import HandS.Head1
import HandS.Head2
import PySem.Challenge.RW_stormwoods_k05_whole_texts_of_forests
set_option Elab.async false
set_option linter.all false
set_option maxRecDepth 100000
set_option maxHeartbeats 0
namespace M2
/-! ### values: trees; lists, dicts, instances stand in the heap; kl: a list that is only read (the script, a list of the module) -/
inductive W where
  | non | bl (b : Bool) | int (i : Int) | str (l : List Nat) | tup (l : List W) | ref (n : Nat) | kl (l : List W)
  deriving Inhabited
mutual
def decW : (a b : W) → Decidable (a = b)
  | .non, .non => isTrue rfl
  | .bl a, .bl b => if h : a = b then isTrue (h ▸ rfl) else isFalse (fun e => h (W.bl.inj e))
  | .int a, .int b => if h : a = b then isTrue (h ▸ rfl) else isFalse (fun e => h (W.int.inj e))
  | .str a, .str b => if h : a = b then isTrue (h ▸ rfl) else isFalse (fun e => h (W.str.inj e))
  | .ref a, .ref b => if h : a = b then isTrue (h ▸ rfl) else isFalse (fun e => h (W.ref.inj e))
  | .tup a, .tup b => match decWs a b with
    | isTrue h => isTrue (h ▸ rfl)
    | isFalse h => isFalse (fun e => h (W.tup.inj e))
  | .kl a, .kl b => match decWs a b with
    | isTrue h => isTrue (h ▸ rfl)
    | isFalse h => isFalse (fun e => h (W.kl.inj e))
  | .non, .bl _ | .non, .int _ | .non, .str _ | .non, .tup _ | .non, .ref _ | .non, .kl _ => isFalse (fun e => nomatch e)
  | .bl _, .non | .bl _, .int _ | .bl _, .str _ | .bl _, .tup _ | .bl _, .ref _ | .bl _, .kl _ => isFalse (fun e => nomatch e)
  | .int _, .non | .int _, .bl _ | .int _, .str _ | .int _, .tup _ | .int _, .ref _ | .int _, .kl _ => isFalse (fun e => nomatch e)
  | .str _, .non | .str _, .bl _ | .str _, .int _ | .str _, .tup _ | .str _, .ref _ | .str _, .kl _ => isFalse (fun e => nomatch e)
  | .tup _, .non | .tup _, .bl _ | .tup _, .int _ | .tup _, .str _ | .tup _, .ref _ | .tup _, .kl _ => isFalse (fun e => nomatch e)
  | .ref _, .non | .ref _, .bl _ | .ref _, .int _ | .ref _, .str _ | .ref _, .tup _ | .ref _, .kl _ => isFalse (fun e => nomatch e)
  | .kl _, .non | .kl _, .bl _ | .kl _, .int _ | .kl _, .str _ | .kl _, .tup _ | .kl _, .ref _ => isFalse (fun e => nomatch e)
def decWs : (a b : List W) → Decidable (a = b)
  | [], [] => isTrue rfl
  | [], _ :: _ => isFalse (fun e => nomatch e)
  | _ :: _, [] => isFalse (fun e => nomatch e)
  | x :: l, y :: m => match decW x y with
    | isTrue h => (match decWs l m with
      | isTrue g => isTrue (h ▸ g ▸ rfl)
      | isFalse g => isFalse (fun e => g (List.cons.inj e).2))
    | isFalse h => isFalse (fun e => h (List.cons.inj e).1)
end
instance : DecidableEq W := decW
/-- what stands in the heap: a list; a dict with ints and texts as keys; such a dict that is walked; an instance; a dict with tuples as keys -/
inductive O where
  | lst (l : List W) | dct (l : List (W × W)) | lk (l : List (W × W)) | ins (c : Nat) (fs : List (Nat × W)) | dn (l : List (W × W))
  deriving DecidableEq, Inhabited
abbrev Hm := List O
abbrev Env := List (Option W)
/-- the end of an expression: a value; an error of a class of the program with its arguments; nothing is told -/
inductive R (A : Type) where
  | ok (a : A) (h : Hm) | exc (c : Nat) (ws : List W) (h : Hm) | bad
  deriving Inhabited
/-- the end of a statement -/
inductive RS where
  | nx (s : Env) (h : Hm) | rt (w : W) (h : Hm) | bk (s : Env) (h : Hm) | ct (s : Env) (h : Hm) | exc (c : Nat) (ws : List W) (h : Hm) (s : Env) | bad
  deriving Inhabited
/-! ### syntax without places -/
inductive Bop where | add | sub | mul | fdiv | mod | pow | iadd deriving DecidableEq, Repr
inductive Cop where | eq | ne | lt | le | gt | ge | isN | notN | mem | nmem deriving DecidableEq, Repr
inductive Ty where | int | str | bool | list | tuple | dict | cls (c : Nat) deriving DecidableEq, Repr
/-- built-in functions of values -/
inductive B1 where | len | abs | int | str | max2 | min2 deriving DecidableEq, Repr
/-- built-in functions of a row of items -/
inductive BL where | len | tuple | list | all | any | sum | max | min | sorted | dict deriving DecidableEq, Repr
/-- methods of built-in types -/
inductive Mt where | append | extend | pop | popAt | index | get1 | get2 | dpop | split | strip | join | replace deriving DecidableEq, Repr
/-- what is walked: a row, range(a), range(a, b), enumerate(a), zip(a, b) -/
inductive It where | seq | rng1 | rng2 | enm | zip deriving DecidableEq, Repr
inductive E where
  | var (i : Nat) | non | bl (b : Bool) | int (i : Int) | str (l : List Nat) | glo (i : Nat)
  | bin (o : Bop) (a b : E) | neg (a : E) | not (a : E) | cmp (o : Cop) (a b : E) | cmp2 (o p : Cop) (a b c : E)
  | and (a b : E) | or (a b : E) | ite (c a b : E)
  | tup (es : List E) | lst (es : List E) | dct (es : List E)
  | sub (a i : E) | slc (a : E) (kl : Bool) (lo : E) (ku : Bool) (hi : E) | call (f : Nat) (es : List E)
  | b1 (b : B1) (es : List E) | bl1 (b : BL) (a : E) | isi (a : E) (ts : List Ty) | met (m : Mt) (a : E) (es : List E)
  | lc (own : List Nat) (k : Bool) (t : List Nat) (elt : E) (it : It) (a b c : E)
  | dc (own : List Nat) (k : Bool) (t : List Nat) (key val : E) (it : It) (a b c : E)
  | fld (a : E) (f : Nat) | make (c : Nat) (es : List E) | mcall (m : Nat) (a : E) (es : List E)
  | gd (i : Nat) (a : E) | lss (es : List E) (a : E) | new (a : E)
  deriving Inhabited
inductive T where
  | var (i : Nat) | tup (ts : List Nat) | sub (o i : E) | fld (o : E) (f : Nat)
  deriving Inhabited
inductive S where
  | asg (t : T) (e : E) | par (ts : List Nat) (es : List E) | aug (i : Nat) (o : Bop) (e : E) | exp (e : E) | ret (e : E)
  | ite (c : E) (a b : List S) | for (k : Bool) (t : List Nat) (it : It) (a b : E) (body : List S) | whl (c : E) (body : List S)
  | rse (c : Nat) (es : List E) | brk | cnt | pass | nev
  deriving Inhabited
/-- a def: how many parameters, how many names, its body; whether lists that it gives are frozen -/
structure Fn where
  np : Nat
  ns : Nat
  body : List S
  fz : Bool := true
  deriving Inhabited
/-! ### heaps -/
/-- the most items -/
def line : Nat := 16777216
def asL (h : Hm) (r : Nat) : Option (List W) := match h[r]? with
  | some (.lst l) => some l
  | _ => none
def asD (h : Hm) (r : Nat) : Option (List (W × W)) := match h[r]? with
  | some (.dct l) => some l
  | some (.lk l) => some l
  | _ => none
/-- the items of a list -/
def lsO (h : Hm) : W → Option (List W)
  | .ref r => asL h r
  | .kl l => some l
  | _ => none
/-- the items of a list or a tuple -/
def itemsOf (h : Hm) : W → Option (List W)
  | .ref r => asL h r
  | .tup l => some l
  | .kl l => some l
  | _ => none
mutual
/-- no object from n on is named -/
def W.cl (n : Nat) : W → Bool
  | .ref r => decide (r < n)
  | .tup l => clAll n l
  | .kl l => clAll n l
  | _ => true
def clAll (n : Nat) : List W → Bool
  | [] => true
  | x :: l => x.cl n && clAll n l
end
def O.cl (n : Nat) : O → Bool
  | .lst l => clAll n l
  | .dct l => clAll n (l.map (·.1)) && clAll n (l.map (·.2))
  | .lk l => clAll n (l.map (·.1)) && clAll n (l.map (·.2))
  | .ins _ fs => clAll n (fs.map (·.2))
  | .dn l => clAll n (l.map (·.1)) && clAll n (l.map (·.2))
def Hm.cl (n : Nat) (h : Hm) : Bool := h.all (O.cl n)
/-- what stood at a call stands again, without what the call made and let go -/
def baseOk (h0 h : Hm) : Bool := decide (h.take h0.length = h0) || (decide (h0.length ≤ h.length) && Hm.cl h0.length (h.take h0.length))
mutual
/-- a tree with its references told anew -/
def mapR (f : Nat → Option W) : W → Option W
  | .ref r => f r
  | .tup l => (mapRs f l).map .tup
  | .kl l => (mapRs f l).map .kl
  | .non => some .non
  | .bl b => some (.bl b)
  | .int i => some (.int i)
  | .str l => some (.str l)
def mapRs (f : Nat → Option W) : List W → Option (List W)
  | [] => some []
  | x :: l => (match mapR f x, mapRs f l with
    | some y, some r => some (y :: r)
    | _, _ => none)
end
/-- a new list is frozen, so deep -/
def fzR (n : Nat) (h : Hm) : Nat → Nat → Option W
  | 0, r => if r < n then some (.ref r) else none
  | k + 1, r => if r < n then some (.ref r) else (match h[r]? with
    | some (.lst l) => (mapRs (fzR n h k) l).map .kl
    | _ => none)
def fzW (n : Nat) (h : Hm) (w : W) : Option W := mapR (fzR n h 8) w
def fzF (n : Nat) (h : Hm) : List (Nat × W) → Option (List (Nat × W))
  | [] => some []
  | (f, w) :: l => (match fzW n h w, fzF n h l with
    | some u, some r => some ((f, u) :: r)
    | _, _ => none)
/-- a new instance at r, its lists frozen, alone behind h0 -/
def gcI (h0 : Hm) (r : Nat) (h : Hm) : R W :=
  if baseOk h0 h && decide (h0.length ≤ r) then (match h[r]? with
    | some (.ins c fs) => (match fzF h0.length h fs with
      | some gs => .ok (.ref h0.length) (h.take h0.length ++ [.ins c gs])
      | none => .ok (.ref r) h)
    | _ => .ok (.ref r) h)
  else .ok (.ref r) h
/-- what a call only laid is let go, without freezing -/
def gc0 (h0 : Hm) (w : W) (h : Hm) : R W :=
  if baseOk h0 h then
    (match w with
    | .ref r => if r < h0.length then .ok (.ref r) (h.take h0.length) else (match h[r]? with
      | some (.lst l) => if clAll h0.length l then .ok (.ref h0.length) (h.take h0.length ++ [.lst l]) else .ok (.ref r) h
      | some (.dct l) => if (O.dct l).cl h0.length then .ok (.ref h0.length) (h.take h0.length ++ [.dct l]) else .ok (.ref r) h
      | _ => .ok (.ref r) h)
    | w => if w.cl h0.length then .ok w (h.take h0.length) else .ok w h)
  else .ok w h
def isIns (h : Hm) : W → Option Nat
  | .ref r => (match h[r]? with
    | some (.ins _ _) => some r
    | _ => none)
  | _ => none
def gc (fz : Bool) (h0 : Hm) (w : W) (h : Hm) : R W := match fz with
  | false => gc0 h0 w h
  | true => if baseOk h0 h then (match fzW h0.length h w with
    | some w' => .ok w' (h.take h0.length)
    | none => (match isIns h w with
      | some r => gcI h0 r h
      | none => gc0 h0 w h))
    else .ok w h
def gcx (h0 : Hm) (c : Nat) (ws : List W) (h : Hm) : R W :=
  if baseOk h0 h && clAll h0.length ws then .exc c ws (h.take h0.length) else .exc c ws h
/-! ### equality, order -/
mutual
/-- == of trees (True is 1) -/
def eqW : W → W → Bool
  | .non, .non => true
  | .bl a, .bl b => a == b
  | .bl a, .int j => (if a then 1 else 0) == j
  | .int i, .bl b => i == (if b then 1 else 0)
  | .int i, .int j => i == j
  | .str x, .str y => x == y
  | .tup a, .tup b => eqWs a b
  | _, _ => false
def eqWs : List W → List W → Bool
  | [], [] => true
  | x :: l, y :: m => eqW x y && eqWs l m
  | _, _ => false
end
mutual
/-- a tree without objects, no deeper than so much -/
def W.flat (n : Nat) : W → Bool
  | .ref _ => false
  | .kl _ => false
  | .tup l => (match n with | 0 => false | n + 1 => flatAll n l)
  | _ => true
def flatAll (n : Nat) : List W → Bool
  | [] => true
  | x :: l => x.flat n && flatAll n l
end
/-- pair by pair; where the lengths differ: false, if the first ones can be told -/
def allEq (f : W → W → Option Bool) : List W → List W → Option Bool
  | [], [] => some true
  | x :: l, y :: m => (match f x y, allEq f l m with
    | some a, some b => some (a && b)
    | _, _ => none)
  | _, _ => some false
def isLs : W → Bool
  | .ref _ => true
  | .kl _ => true
  | _ => false
/-- == of values with lists within, so deep -/
def eqH (h : Hm) : Nat → W → W → Option Bool
  | 0, _, _ => none
  | n + 1, .tup l, .tup m => allEq (eqH h n) l m
  | n + 1, a, b => (match isLs a, isLs b with
    | true, true => (match lsO h a, lsO h b with
      | some l, some m => if l.length = m.length then allEq (eqH h n) l m else some false
      | _, _ => none)
    | true, false => if (lsO h a).isSome then some false else none
    | false, true => if (lsO h b).isSome then some false else none
    | false, false => some (eqW a b))
/-- == -/
def eqV (h : Hm) (a b : W) : Option Bool := eqH h 60 a b
def anyEq (f : W → Option Bool) : List W → Option Bool
  | [] => some false
  | y :: l => (match f y, anyEq f l with
    | some a, some b => some (a || b)
    | _, _ => none)
def ltL : List Nat → List Nat → Bool
  | [], [] => false
  | [], _ :: _ => true
  | _ :: _, [] => false
  | x :: l, y :: m => if x = y then ltL l m else decide (x < y)
/-! ### dicts -/
/-- a key: no object within -/
def W.key (w : W) : Bool := w.flat 8
/-- an int or a text -/
def W.plain : W → Bool
  | .int _ => true
  | .str _ => true
  | _ => false
def W.isTup : W → Bool
  | .tup _ => true
  | _ => false
def getD (k : W) : List (W × W) → Option W
  | [] => none
  | (a, v) :: l => if eqW a k then some v else getD k l
def putD (k v : W) : List (W × W) → List (W × W)
  | [] => [(k, v)]
  | (a, u) :: l => if eqW a k then (a, v) :: l else (a, u) :: putD k v l
def delD (k : W) : List (W × W) → List (W × W)
  | [] => []
  | (a, u) :: l => if eqW a k then l else (a, u) :: delD k l
/-! ### texts -/
def dropIn (cs : List Nat) : List Nat → List Nat
  | [] => []
  | c :: l => if cs.contains c then dropIn cs l else c :: l
def stripIn (cs l : List Nat) : List Nat := (dropIn cs (dropIn cs l).reverse).reverse
/-- a text cut at each sign c; acc: the part so far -/
def splitAt1 (c : Nat) (acc : List Nat) : List Nat → List (List Nat)
  | [] => [acc]
  | x :: l => if x = c then acc :: splitAt1 c [] l else splitAt1 c (acc ++ [x]) l
def joinS (sep : List Nat) : List (List Nat) → List Nat
  | [] => []
  | [x] => x
  | x :: y :: l => x ++ sep ++ joinS sep (y :: l)
def strsOf : List W → Option (List (List Nat))
  | [] => some []
  | .str x :: l => (match strsOf l with
    | some r => some (x :: r)
    | none => none)
  | _ :: _ => none
def intsOf : List W → Option (List Int)
  | [] => some []
  | .int x :: l => (match intsOf l with
    | some r => some (x :: r)
    | none => none)
  | _ :: _ => none
def blsOf : List W → Option (List Bool)
  | [] => some []
  | .bl x :: l => (match blsOf l with
    | some r => some (x :: r)
    | none => none)
  | _ :: _ => none
/-! ### places -/
/-- the place that an index of any sign means among n -/
def place (n : Nat) (i : Int) : Option Nat := if 0 ≤ i then (if i < n then some i.toNat else none) else if -(n : Int) ≤ i then some (i + n).toNat else none
def clip (n d : Nat) : Option Int → Nat
  | none => d
  | some v => if v < 0 then (v + (n : Int)).toNat else min v.toNat n
def cut {A : Type} (l : List A) (lo hi : Option Int) : List A := (l.drop (clip l.length 0 lo)).take (clip l.length l.length hi - clip l.length 0 lo)
/-! ### operations -/
def bitsOk (i : Int) (k : Nat) : Bool := decide (i.natAbs.log2 < k)
def alloc (o : O) (h : Hm) : R W := .ok (.ref h.length) (h ++ [o])
def small62 (i : Int) : Bool := decide (-(2 ^ 62) ≤ i ∧ i < 2 ^ 62)
def binop : Bop → W → W → Hm → R W
  | .add, .int i, .int j, h => .ok (.int (i + j)) h
  | .add, .str x, .str y, h => if x.length + y.length ≤ line then .ok (.str (x ++ y)) h else .bad
  | .add, .tup x, .tup y, h => if x.length + y.length ≤ line then .ok (.tup (x ++ y)) h else .bad
  | .add, x, y, h => (match lsO h x, lsO h y with
    | some l, some m => if l.length + m.length ≤ line then .ok (.kl (l ++ m)) h else .bad
    | _, _ => .bad)
  | .sub, .int i, .int j, h => .ok (.int (i - j)) h
  | .iadd, .int i, .int j, h => .ok (.int (i + j)) h
  | .mul, .int i, .int j, h => if i.natAbs.log2 + j.natAbs.log2 < 1000000 then .ok (.int (i * j)) h else .bad
  | .mul, x, .int k, h => (match lsO h x with
    | some l => if -(2 ^ 63) ≤ k ∧ k < 2 ^ 63 ∧ l.length * k.toNat ≤ line then .ok (.kl (List.replicate k.toNat l).flatten) h else .bad
    | none => .bad)
  | .fdiv, .int i, .int j, h => if 0 < j ∧ j.natAbs.log2 < 9000 then .ok (.int (i / j)) h else .bad
  | .mod, .int i, .int j, h => if 0 < j then .ok (.int (i % j)) h else .bad
  | .pow, .int i, .int j, h => if 0 ≤ j ∧ j ≤ 1000000 ∧ i.natAbs < 2 ^ 64 then .ok (.int (i ^ j.toNat)) h else .bad
  | _, _, _, _ => .bad
/-- a truth for R -/
def rb (o : Option Bool) (h : Hm) : R W := match o with
  | some b => .ok (.bl b) h
  | none => .bad
def rnb (o : Option Bool) (h : Hm) : R W := match o with
  | some b => .ok (.bl (!b)) h
  | none => .bad
/-- x in y -/
def memV (h : Hm) (x y : W) : Option Bool := match y with
  | .tup l => anyEq (fun a => eqV h a x) l
  | .kl l => anyEq (fun a => eqV h a x) l
  | .str l => (match x with
    | .str [c] => some (l.contains c)
    | _ => none)
  | .ref r => (match h[r]? with
    | some (.lst l) => anyEq (fun a => eqV h a x) l
    | _ => none)
  | _ => none
def cmpop : Cop → W → W → Hm → R W
  | .eq, x, y, h => rb (eqV h x y) h
  | .ne, x, y, h => rnb (eqV h x y) h
  | .lt, .int i, .int j, h => .ok (.bl (decide (i < j))) h
  | .le, .int i, .int j, h => .ok (.bl (decide (i ≤ j))) h
  | .gt, .int i, .int j, h => .ok (.bl (decide (j < i))) h
  | .ge, .int i, .int j, h => .ok (.bl (decide (j ≤ i))) h
  | .lt, .str x, .str y, h => .ok (.bl (ltL x y)) h
  | .le, .str x, .str y, h => .ok (.bl (!ltL y x)) h
  | .gt, .str x, .str y, h => .ok (.bl (ltL y x)) h
  | .ge, .str x, .str y, h => .ok (.bl (!ltL x y)) h
  | .isN, x, .non, h => .ok (.bl (decide (x = .non))) h
  | .notN, x, .non, h => .ok (.bl (!decide (x = .non))) h
  | .mem, x, y, h => rb (memV h x y) h
  | .nmem, x, y, h => rnb (memV h x y) h
  | _, _, _, _ => .bad
def truth (h : Hm) : W → Option Bool
  | .non => some false
  | .bl b => some b
  | .int i => some (i != 0)
  | .str l => if l.length ≤ line then some (!l.isEmpty) else none
  | .tup l => some (!l.isEmpty)
  | .kl l => some (!l.isEmpty)
  | .ref r => (match h[r]? with
    | some (.lst l) => some (!l.isEmpty)
    | some (.dct l) => some (!l.isEmpty)
    | _ => none)
def getItem (a i : W) (h : Hm) : R W := match a, i with
  | .tup l, .int k => (match place l.length k with
    | some j => (match l[j]? with | some w => .ok w h | none => .bad)
    | none => .bad)
  | .kl l, .int k => (match place l.length k with
    | some j => (match l[j]? with | some w => .ok w h | none => .bad)
    | none => .bad)
  | .str l, .int k => if l.length ≤ line then (match place l.length k with
    | some j => (match l[j]? with | some c => .ok (.str [c]) h | none => .bad)
    | none => .bad) else .bad
  | .ref r, i => (match h[r]? with
    | some (.lst l) => (match i with
      | .int k => (match place l.length k with
        | some j => (match l[j]? with | some w => .ok w h | none => .bad)
        | none => .bad)
      | _ => .bad)
    | some (.dct l) => if i.plain = true then (match getD i l with | some w => .ok w h | none => .bad) else .bad
    | _ => .bad)
  | _, _ => .bad
/-- a part of a slice -/
def intPart (w : W) (h : Hm) : R (Option Int) := match w with
  | .int i => .ok (some i) h
  | _ => .bad
def getSlice (a : W) (l u : Option Int) (h : Hm) : R W := match a with
  | .tup x => .ok (.tup (cut x l u)) h
  | .kl x => .ok (.kl (cut x l u)) h
  | .str x => if x.length ≤ line then .ok (.str (cut x l u)) h else .bad
  | .ref r => (match asL h r with
    | some x => .ok (.kl (cut x l u)) h
    | none => .bad)
  | _ => .bad
/-- a[i] = w -/
def setItem (a i w : W) (h : Hm) : Option Hm := match a with
  | .ref r => (match h[r]? with
    | some (.lst l) => (match i with
      | .int k => (match place l.length k with
        | some j => some (h.set r (.lst (l.set j w)))
        | none => none)
      | _ => none)
    | some (.dct l) => if i.plain = true ∧ l.length < line then some (h.set r (.dct (putD i w l))) else none
    | _ => none)
  | _ => none
def getF (f : Nat) : List (Nat × W) → Option W
  | [] => none
  | (g, v) :: l => if g = f then some v else getF f l
def putF (f : Nat) (v : W) : List (Nat × W) → List (Nat × W)
  | [] => [(f, v)]
  | (g, u) :: l => if g = f then (g, v) :: l else (g, u) :: putF f v l
/-- na: of which names no class has anything -/
def getFld (na : Nat → Nat → Bool) (a : W) (f : Nat) (h : Hm) : R W := match a with
  | .ref r => (match h[r]? with
    | some (.ins c fs) => if na c f = true then (match getF f fs with | some w => .ok w h | none => .bad) else .bad
    | _ => .bad)
  | _ => .bad
def setFld (na : Nat → Nat → Bool) (a : W) (f : Nat) (w : W) (h : Hm) : Option Hm := match a with
  | .ref r => (match h[r]? with
    | some (.ins c fs) => if na c f = true ∧ fs.length < 1000 then some (h.set r (.ins c (putF f w fs))) else none
    | _ => none)
  | _ => none
/-- a value's kind -/
inductive Kd where | non | bool | int | str | tuple | list | dict | ins (c : Nat) deriving DecidableEq, Repr
def kd (h : Hm) : W → Option Kd
  | .non => some .non
  | .bl _ => some .bool
  | .int _ => some .int
  | .str _ => some .str
  | .tup _ => some .tuple
  | .kl _ => some .list
  | .ref r => (match h[r]? with
    | some (.lst _) => some .list
    | some (.dct _) => some .dict
    | some (.ins c _) => some (.ins c)
    | _ => none)
def isK : Kd → Ty → Bool
  | .bool, .bool => true
  | .bool, .int => true
  | .int, .int => true
  | .str, .str => true
  | .tuple, .tuple => true
  | .list, .list => true
  | .dict, .dict => true
  | .ins c, .cls d => c == d
  | _, _ => false
/-- a number's digits; the number that digits write -/
def natDec (n : Nat) : List Nat := (Nat.toDigits 10 n).map Char.toNat
def decNat (l : List Nat) : Nat := l.foldl (fun a c => a * 10 + (c - 48)) 0
def allDig (l : List Nat) : Bool := l.all fun c => decide (48 ≤ c) && decide (c ≤ 57)
def b1u : B1 → W → Hm → R W
  | .len, .str l, h => if l.length ≤ line then .ok (.int l.length) h else .bad
  | .len, .tup l, h => .ok (.int l.length) h
  | .len, .kl l, h => .ok (.int l.length) h
  | .len, .ref r, h => (match h[r]? with
    | some (.lst l) => .ok (.int l.length) h
    | some (.dct l) => .ok (.int l.length) h
    | some (.dn l) => .ok (.int l.length) h
    | _ => .bad)
  | .abs, .int i, h => .ok (.int (if i < 0 then -i else i)) h
  | .int, .int i, h => .ok (.int i) h
  | .int, .str l, h => if (allDig l && (!l.isEmpty && decide (l.length ≤ 640))) = true then .ok (.int (decNat l)) h else .bad
  | .str, .str l, h => .ok (.str l) h
  | .str, .int i, h => if 0 ≤ i ∧ i.natAbs.log2 < 1900 then .ok (.str (natDec i.natAbs)) h else .bad
  | _, _, _ => .bad
def b1b : B1 → W → W → Hm → R W
  | .max2, .int i, .int j, h => .ok (.int (if j > i then j else i)) h
  | .min2, .int i, .int j, h => .ok (.int (if j < i then j else i)) h
  | _, _, _, _ => .bad
def b1op (b : B1) (ws : List W) (h : Hm) : R W := match ws with
  | [x] => b1u b x h
  | [x, y] => b1b b x y h
  | _ => .bad
/-- pairs of ints, in their order -/
def prsOf : List W → Option (List (Int × Int))
  | [] => some []
  | .tup [.int i, .int j] :: l => (match prsOf l with
    | some r => some ((i, j) :: r)
    | none => none)
  | _ => none
def ltPr (a b : Int × Int) : Bool := if a.1 = b.1 then decide (a.2 < b.2) else decide (a.1 < b.1)
def insPr (x : Int × Int) : List (Int × Int) → List (Int × Int)
  | [] => [x]
  | y :: l => if ltPr y x then y :: insPr x l else x :: y :: l
def sortPr : List (Int × Int) → List (Int × Int)
  | [] => []
  | x :: l => insPr x (sortPr l)
def prW (a : Int × Int) : W := .tup [.int a.1, .int a.2]
/-- a built-in function of a row, given raw -/
def blop : BL → List W → Hm → R W
  | .len, l, h => .ok (.int l.length) h
  | .tuple, l, h => .ok (.tup l) h
  | .list, l, h => .ok (.kl l) h
  | .all, l, h => (match blsOf l with | some r => .ok (.bl (r.all id)) h | none => .bad)
  | .any, l, h => (match blsOf l with | some r => .ok (.bl (r.any id)) h | none => .bad)
  | .sum, l, h => (match intsOf l with | some r => .ok (.int r.sum) h | none => .bad)
  | .sorted, l, h => (match prsOf l with | some r => .ok (.kl ((sortPr r).map prW)) h | none => .bad)
  | _, _, _ => .bad
def met1 : Mt → W → W → Hm → R W
  | .append, .ref r, w, h => (match h[r]? with
    | some (.lst l) => if l.length < line then .ok .non (h.set r (.lst (l ++ [w]))) else .bad
    | _ => .bad)
  | .extend, .ref r, y, h => (match h[r]?, lsO h y with
    | some (.lst l), some m => if l.length + m.length ≤ line then .ok .non (h.set r (.lst (l ++ m))) else .bad
    | _, _ => .bad)
  | .popAt, .ref r, .int k, h => (match h[r]? with
    | some (.lst l) => (match place l.length k with
      | some j => (match l[j]? with
        | some y => .ok y (h.set r (.lst (l.eraseIdx j)))
        | none => .bad)
      | none => .bad)
    | _ => .bad)
  | .split, .str l, .str [c], h => if l.length + 2 ≤ line ∧ c < 256 then .ok (.kl ((splitAt1 c [] l).map .str)) h else .bad
  | .strip, .str l, .str cs, h => if l.length ≤ line then .ok (.str (stripIn cs l)) h else .bad
  | _, _, _, _ => .bad
/-- sep.join(row) -/
def joinop (sep : W) (l : List W) (h : Hm) : R W := match sep, strsOf l with
  | .str s, some r => if (r.map List.length).sum + r.length * s.length ≤ line then .ok (.str (joinS s r)) h else .bad
  | _, _ => .bad
/-! ### walks -/
/-- what is walked: the items, the lists that must stand as they are, the heap (a dict locked), the dict to be unlocked -/
structure Src where
  its : List W
  gs : List (Nat × List W)
  h : Hm
  un : Option Nat
def upto (lo : Int) (n : Nat) : List W := (List.range n).map fun i => .int (lo + (i : Nat))
def numbered : Nat → List W → List W
  | _, [] => []
  | i, x :: l => .tup [.int i, x] :: numbered (i + 1) l
def zipped : List W → List W → List W
  | x :: l, y :: m => .tup [x, y] :: zipped l m
  | _, _ => []
def src : It → W → W → Hm → Option Src
  | .seq, .tup l, _, h => some ⟨l, [], h, none⟩
  | .seq, .kl l, _, h => some ⟨l, [], h, none⟩
  | .seq, .str l, _, h => some ⟨l.map fun c => .str [c], [], h, none⟩
  | .seq, .ref r, _, h => (match h[r]? with
    | some (.lst l) => some ⟨l, [(r, l)], h, none⟩
    | _ => none)
  | .enm, .kl l, _, h => some ⟨numbered 0 l, [], h, none⟩
  | .enm, .ref r, _, h => (match h[r]? with
    | some (.lst l) => some ⟨numbered 0 l, [(r, l)], h, none⟩
    | _ => none)
  | .rng1, .int n, _, h => if small62 n then some ⟨upto 0 n.toNat, [], h, none⟩ else none
  | .rng2, .int a, .int b, h => if small62 a && small62 b then some ⟨upto a (b - a).toNat, [], h, none⟩ else none
  | _, _, _, _ => none
def okG (g : List (Nat × List W)) (h : Hm) : Bool := g.all fun p => decide (asL h p.1 = some p.2)
def unlock (un : Option Nat) (h : Hm) : Hm := match un with
  | none => h
  | some r => (match h[r]? with
    | some (.lk l) => h.set r (.dct l)
    | _ => h)
def setAll : List Nat → List W → Env → Option Env
  | [], [], s => some s
  | i :: t, w :: l, s => setAll t l (s.set i (some w))
  | _, _, _ => none
/-- the walk's name, or names -/
def setT (k : Bool) (t : List Nat) (w : W) (s : Env) : Option Env := if k then (match w with
    | .tup l => setAll t l s
    | _ => none) else setAll t [w] s
/-! ### the interpreter -/
structure Ctx where
  call : Nat → List W → Hm → R W
  /-- the module's constants -/
  con : Nat → Option W
  /-- a class's method, its __init__ -/
  mth : Nat → Nat → Option Nat
  ini : Nat → Option Nat
  /-- no class of it has a name; its __eq__ -/
  na : Nat → Nat → Bool
  eqm : Nat → Option Nat
  /-- the classes whose instances' lists are frozen -/
  fzc : Nat → Bool
  /-- the most turns of a while -/
  most : Nat
/-- a comprehension's turns -/
def compGo {A : Type} (f : W → Hm → R (Option A)) (g : List (Nat × List W)) : List W → List A → Hm → R (List A)
  | [], acc, h => if okG g h then .ok acc h else .bad
  | x :: l, acc, h => if okG g h then (match f x h with
      | .ok (some a) h' => compGo f g l (acc ++ [a]) h'
      | .ok none h' => compGo f g l acc h'
      | .exc .. => .bad
      | .bad => .bad) else .bad
def compEnd {A : Type} (un : Option Nat) (r : R (List A)) : R (List A) := match r with
  | .ok l h => if l.length ≤ line then .ok l (unlock un h) else .bad
  | r => r
/-- an expression's meanings: its value, the row that it gives (raw), its truth -/
abbrev DV := Env → Hm → R W
abbrev DL := Env → Hm → R (List W)
abbrev DT := Env → Hm → R Bool
structure Den where
  v : DV
  l : DL
  t : DT
/-- an own row of a slice -/
def partD (k : Bool) (v : DV) (s : Env) (h : Hm) : R (Option Int) := match k with
  | true => (match v s h with
    | .ok w h1 => intPart w h1
    | .exc c ws h1 => .exc c ws h1
    | .bad => .bad)
  | false => .ok none h
/-- the receiver fits the method -/
def isRecv (m : Mt) (x : W) (h : Hm) : Bool := match m, x with
  | .split, .str _ => true
  | .strip, .str _ => true
  | .join, .str _ => true
  | .append, .ref r => (asL h r).isSome
  | .popAt, .ref r => (asL h r).isSome
  | .extend, .ref r => (asL h r).isSome
  | _, _ => false
def recv (m : Mt) (x : W) (h : Hm) (r : R W) : R W := if isRecv m x h then r else .bad
def R.cast {A B : Type} : R A → R B
  | .exc c ws h => .exc c ws h
  | _ => .bad
/-- the next part, with the value of the one ahead -/
def R.thenN {A B : Type} (r : R A) (k : A → Hm → R B) : R B := match r with
  | .ok a h => k a h
  | _ => .bad
def R.then {A B : Type} (r : R A) (k : A → Hm → R B) : R B := match r with
  | .ok a h => k a h
  | .exc c ws h => .exc c ws h
  | .bad => .bad
def rowOf (w : W) (h : Hm) : R (List W) := match itemsOf h w with
  | some l => .ok l h
  | none => .bad
def truthOf (w : W) (h : Hm) : R Bool := match truth h w with
  | some b => .ok b h
  | none => .bad
def mkV (v : DV) : Den := ⟨v, fun s h => (v s h).then rowOf, fun s h => (v s h).then truthOf⟩
def short (l : List W) (h : Hm) : R (List W) := if l.length ≤ line then .ok l h else .bad
def newL (l : List W) (h : Hm) : R W := alloc (.lst l) h
def klV (l : List W) (h : Hm) : R W := .ok (.kl l) h
def mkL (l : DL) : Den := ⟨fun s h => (l s h).then klV, l, fun s h => ((l s h).then klV).then truthOf⟩
/-- a list that may be written -/
def thaw (w : W) (h : Hm) : R W := match w with
  | .kl l => newL l h
  | _ => .bad
def newD' (d : Den) : Den := mkV fun s h => (d.v s h).then thaw
def notV (b : Bool) (h : Hm) : R W := .ok (.bl (!b)) h
def notB (b : Bool) (h : Hm) : R Bool := .ok (!b) h
def boolB (b : Bool) (h : Hm) : R W := .ok (.bl b) h
def negV (w : W) (h : Hm) : R W := match w with
  | .int i => .ok (.int (-i)) h
  | _ => .bad
def tupV (ws : List W) (h : Hm) : R W := if ws.length ≤ line then .ok (.tup ws) h else .bad
def dctV (ws : List W) (h : Hm) : R W := match ws with
  | [] => alloc (.dct []) h
  | [.str k, v] => alloc (.dct [(.str k, v)]) h
  | _ => .bad
/-- an instance is told by its class -/
def kdC (C : Ctx) : Kd → Bool
  | .ins c => (C.ini c).isSome
  | _ => true
def isiV (C : Ctx) (ts : List Ty) (w : W) (h : Hm) : R W := match kd h w with
  | some k => if ts.length ≤ line ∧ kdC C k = true then .ok (.bl (ts.any (isK k))) h else .bad
  | none => .bad
/-- the own == of a value -/
def eqOf (C : Ctx) (w : W) (h : Hm) : Option Nat := match w with
  | .ref r => (match h[r]? with
    | some (.ins c _) => C.eqm c
    | _ => none)
  | _ => none
def isB (w : W) (h : Hm) : R W := match w with
  | .bl b => .ok (.bl b) h
  | _ => .bad
def notE (w : W) (h : Hm) : R W := match w with
  | .bl b => .ok (.bl (!b)) h
  | _ => .bad
/-- a comparison, by the own == where there is one -/
def cmpC (C : Ctx) (o : Cop) (x y : W) (h : Hm) : R W := match eqOf C x h with
  | some f => (match kd h y with
    | some k => if kdC C k = true then (match o with
      | .eq => (C.call f [x, y] h).then isB
      | .ne => (C.call f [x, y] h).then notE
      | _ => .bad) else .bad
    | none => .bad)
  | none => cmpop o x y h
/-- behind a chain's first comparison -/
def chainV (p : Cop) (y : W) (c : Hm → R W) (w : W) (h : Hm) : R W := match w with
  | .bl true => (c h).then fun z h4 => cmpop p y z h4
  | .bl false => .ok (.bl false) h
  | _ => .bad
def andV (b : Hm → R W) (x : W) (h : Hm) : R W := match truth h x with
  | some true => b h
  | some false => .ok x h
  | none => .bad
def orV (b : Hm → R W) (x : W) (h : Hm) : R W := match truth h x with
  | some true => .ok x h
  | some false => b h
  | none => .bad
def iteB {A : Type} (a b : Hm → R A) (c : Bool) (h : Hm) : R A := match c with
  | true => a h
  | false => b h
/-- a constant that stands for a dict of the module with texts as keys -/
def isDct : W → Bool
  | .tup [.ref 0, .tup _] => true
  | _ => false
def conV (C : Ctx) (i : Nat) (h : Hm) : R W := match C.con i with
  | some w => if isDct w = true then .bad else .ok w h
  | none => .bad
/-- what such a dict has for a key -/
def dctGet (z : List Nat) : List W → Option W
  | .tup [.str x, v] :: l => if x = z then some v else dctGet z l
  | _ => none
def dctL : Option W → Option (List W)
  | some (.tup [.ref 0, .tup l]) => some l
  | _ => none
def gdV (l : List W) (w : W) (h : Hm) : R W := match w with
  | .str z => (match dctGet z l with
    | some v => .ok v h
    | none => .bad)
  | _ => .bad
def varV (i : Nat) (s : Env) (h : Hm) : R W := match s[i]? with
  | some (some w) => .ok w h
  | _ => .bad
/-- a comprehension's turn -/
def compTurn (k : Bool) (t : List Nat) (c : DT) (elt : DV) (s : Env) (w : W) (h : Hm) : R (Option W) := match setT k t w s with
  | some s' => (match c s' h with
    | .ok true h' => (match elt s' h' with
      | .ok v h'' => .ok (some v) h''
      | .exc c ws h'' => .exc c ws h''
      | .bad => .bad)
    | .ok false h' => .ok none h'
    | .exc c ws h' => .exc c ws h'
    | .bad => .bad)
  | none => .bad
def srcV (it : It) (x y : W) (h : Hm) : R Src := match src it x y h with
  | some q => .ok q q.h
  | none => .bad
def compRun {A : Type} (f : W → Hm → R (Option A)) (q : Src) (h : Hm) : R (List A) := compEnd q.un (compGo f q.gs q.its [] h)
/-- a dict comprehension's turn gives a key and a value -/
def dcTurn (k : Bool) (t : List Nat) (c : DT) (key val : DV) (s : Env) (w : W) (h : Hm) : R (Option (W × W)) := match setT k t w s with
  | some s' => (match c s' h with
    | .ok true h' => (match key s' h' with
      | .ok a h'' => (match val s' h'' with
        | .ok v h3 => if a.key then .ok (some (a, v)) h3 else .bad
        | .exc c ws h3 => .exc c ws h3
        | .bad => .bad)
      | .exc c ws h'' => .exc c ws h''
      | .bad => .bad)
    | .ok false h' => .ok none h'
    | .exc c ws h' => .exc c ws h'
    | .bad => .bad)
  | none => .bad
def putAll : List (W × W) → List (W × W) → List (W × W)
  | [], acc => acc
  | (k, v) :: l, acc => putAll l (putD k v acc)
def newD (l : List (W × W)) (h : Hm) : R W :=
  if (l.all fun p => p.1.plain) = true then alloc (.dct (putAll l [])) h else if (l.all fun p => p.1.isTup) = true then alloc (.dn (putAll l [])) h else .bad
def madeV (fz : Bool) (h0 : Hm) (w : W) (h : Hm) : R W := match w with
  | .non => (match fz with
    | true => gcI h0 h0.length h
    | false => .ok (.ref h0.length) h)
  | _ => .bad
def makeV (C : Ctx) (c : Nat) (ws : List W) (h : Hm) : R W := match C.ini c with
  | some f => (C.call f (.ref h.length :: ws) (h ++ [.ins c []])).then (madeV (C.fzc c) h)
  | none => .bad
/-- the method of an instance -/
def mthOf (C : Ctx) (m : Nat) (w : W) (h : Hm) : Option Nat := match w with
  | .ref r => (match h[r]? with
    | some (.ins c fs) => if fs.all (fun q => C.na c q.1) = true then C.mth c m else none
    | _ => none)
  | _ => none
def mcallV (C : Ctx) (m : Nat) (es : Hm → R (List W)) (x : W) (h : Hm) : R W := match mthOf C m x h with
  | some f => (es h).then fun ws h2 => C.call f (x :: ws) h2
  | none => .bad
section
variable (C : Ctx)
mutual
def den : E → Den
  | .var i => mkV (varV i)
  | .non => mkV fun _ h => .ok .non h
  | .bl b => mkV fun _ h => .ok (.bl b) h
  | .int i => mkV fun _ h => .ok (.int i) h
  | .str l => mkV fun _ h => .ok (.str l) h
  | .glo i => mkV fun _ h => conV C i h
  | .bin o a b => mkV fun s h => ((den a).v s h).then fun x h1 => ((den b).v s h1).then fun y h2 => binop o x y h2
  | .neg a => mkV fun s h => ((den a).v s h).then negV
  | .not a => ⟨fun s h => (((den a).v s h).then truthOf).then notV, fun _ _ => .bad, fun s h => ((den a).t s h).then notB⟩
  | .cmp o a b => mkV fun s h => ((den a).v s h).then fun x h1 => ((den b).v s h1).then fun y h2 => cmpC C o x y h2
  | .cmp2 o p a b c => mkV fun s h => ((den a).v s h).then fun x h1 => ((den b).v s h1).then fun y h2 => (cmpop o x y h2).then (chainV p y ((den c).v s))
  | .and a b => ⟨fun s h => ((den a).v s h).then (andV ((den b).v s)), fun _ _ => .bad, fun s h => ((den a).t s h).then (iteB ((den b).t s) (fun h1 => .ok false h1))⟩
  | .or a b => ⟨fun s h => ((den a).v s h).then (orV ((den b).v s)), fun _ _ => .bad, fun s h => ((den a).t s h).then (iteB (fun h1 => .ok true h1) ((den b).t s))⟩
  | .ite c a b => mkV fun s h => ((den c).t s h).then (iteB ((den a).v s) ((den b).v s))
  | .tup es => mkV fun s h => (denL es s h).then tupV
  | .lst es => mkL fun s h => (denL es s h).then short
  | .dct es => mkV fun s h => (denL es s h).then dctV
  | .sub a i => mkV fun s h => ((den a).v s h).then fun x h1 => ((den i).v s h1).then fun y h2 => getItem x y h2
  | .slc a kl lo ku hi => mkV fun s h => ((den a).v s h).then fun x h1 => (partD kl (den lo).v s h1).then fun y h2 => (partD ku (den hi).v s h2).then fun z h3 => getSlice x y z h3
  | .call f es => mkV fun s h => (denL es s h).then (C.call f)
  | .b1 b es => mkV fun s h => (denL es s h).then (b1op b)
  | .bl1 b a => mkV fun s h => ((den a).l s h).then (blop b)
  | .isi a ts => mkV fun s h => ((den a).v s h).then (isiV C ts)
  | .met .join a [e] => mkV fun s h => ((den a).v s h).then fun x h1 => recv .join x h1 (((den e).l s h1).then (joinop x))
  | .met m a [e] => mkV fun s h => ((den a).v s h).then fun x h1 => recv m x h1 (((den e).v s h1).then (met1 m x))
  | .met _ _ _ => mkV fun _ _ => .bad
  | .lc _ k t elt it a b c => mkL fun s h => ((den a).v s h).then fun x h1 => ((den b).v s h1).then fun y h2 => (srcV it x y h2).then (compRun (compTurn k t (den c).t (den elt).v s))
  | .dc _ k t key val it a b c => mkV fun s h => ((den a).v s h).then fun x h1 => ((den b).v s h1).then fun y h2 => ((srcV it x y h2).then (compRun (dcTurn k t (den c).t (den key).v (den val).v s))).then newD
  | .fld a f => mkV fun s h => ((den a).v s h).then fun x h1 => getFld C.na x f h1
  | .make c es => mkV fun s h => (denL es s h).then (makeV C c)
  | .mcall m a es => mkV fun s h => ((den a).v s h).thenN (mcallV C m (denL es s))
  | .gd i a => mkV fun s h => match dctL (C.con i) with
    | some l => ((den a).v s h).then (gdV l)
    | none => .bad
  | .new a => newD' (den a)
  | .lss es a => mkL fun s h => (denL es s h).then fun ws h1 => (((den a).v s h1).then rowOf).then fun l h2 => short (ws ++ l) h2
def denL : List E → Env → Hm → R (List W)
  | [], _, h => .ok [] h
  | e :: es, s, h => ((den e).v s h).then fun x h1 => (denL es s h1).then fun ws h2 => .ok (x :: ws) h2
end
def evE (s : Env) (e : E) (h : Hm) : R W := (den C e).v s h
def evL (s : Env) (e : E) (h : Hm) : R (List W) := (den C e).l s h
def evT (s : Env) (e : E) (h : Hm) : R Bool := (den C e).t s h
def evEs (s : Env) (es : List E) (h : Hm) : R (List W) := denL C es s h
/-! ### statements -/
def RS.ofR {A : Type} (r : R A) (s : Env) (k : A → Hm → RS) : RS := match r with
  | .ok a h => k a h
  | .exc c ws h => .exc c ws h s
  | .bad => .bad
def nxO (s : Env) (o : Option Hm) : RS := match o with
  | some h => .nx s h
  | none => .bad
def nxE (h : Hm) (o : Option Env) : RS := match o with
  | some s => .nx s h
  | none => .bad
/-- names for the items of a tuple or a list -/
def setU (ts : List Nat) (w : W) (s : Env) (h : Hm) : Option Env := match w with
  | .tup l => setAll ts l s
  | .kl l => setAll ts l s
  | .ref r => (match h[r]? with
    | some (.lst l) => setAll ts l s
    | _ => none)
  | _ => none
/-- a store -/
def asg (s : Env) (t : T) (w : W) (h : Hm) : RS := match t with
  | .var i => .nx (s.set i (some w)) h
  | .tup ts => nxE h (setU ts w s h)
  | .sub o i => RS.ofR (evE C s o h) s fun x h1 => RS.ofR (evE C s i h1) s fun y h2 => nxO s (setItem x y w h2)
  | .fld o f => RS.ofR (evE C s o h) s fun x h1 => nxO s (setFld C.na x f w h1)
def RS.seq (r : RS) (k : Env → Hm → RS) : RS := match r with
  | .nx s h => k s h
  | r => r
/-- a for's turns -/
def forGo (f : W → Env → Hm → RS) (g : List (Nat × List W)) : List W → Env → Hm → RS
  | [], s, h => if okG g h then .nx s h else .bad
  | x :: l, s, h => if okG g h then (match f x s h with
      | .nx s' h' => forGo f g l s' h'
      | .ct s' h' => forGo f g l s' h'
      | .bk s' h' => .nx s' h'
      | r => r) else .bad
/-- a for's end: the dict is unlocked -/
def forEnd (un : Option Nat) (r : RS) : RS := match r with
  | .nx s h => .nx s (unlock un h)
  | .rt w h => .rt w (unlock un h)
  | .exc c ws h s => .exc c ws (unlock un h) s
  | _ => .bad
def forRun (f : W → Env → Hm → RS) (s : Env) (q : Src) (h : Hm) : RS := forEnd q.un (forGo f q.gs q.its s h)
/-- a while's turns, at most so many -/
def whlGo (c : Env → Hm → R Bool) (f : Env → Hm → RS) : Nat → Env → Hm → RS
  | 0, _, _ => .bad
  | n + 1, s, h => match c s h with
    | .ok true h1 => (match f s h1 with
      | .nx s' h' => whlGo c f n s' h'
      | .ct s' h' => whlGo c f n s' h'
      | .bk s' h' => .nx s' h'
      | r => r)
    | .ok false h1 => .nx s h1
    | .exc c ws h1 => .exc c ws h1 s
    | .bad => .bad
def forTurn (k : Bool) (t : List Nat) (b : Env → Hm → RS) (w : W) (s : Env) (h : Hm) : RS := match setT k t w s with
  | some s' => b s' h
  | none => .bad
mutual
def evS : S → Env → Hm → RS
  | .asg t e, s, h => RS.ofR (evE C s e h) s fun w h1 => asg C s t w h1
  | .par ts es, s, h => RS.ofR (evEs C s es h) s fun ws h1 => nxE h1 (setAll ts ws s)
  | .aug i o e, s, h => RS.ofR (varV i s h) s fun x h0 => RS.ofR (evE C s e h0) s fun y h1 => RS.ofR (binop o x y h1) s fun z h2 => .nx (s.set i (some z)) h2
  | .exp e, s, h => RS.ofR (evE C s e h) s fun _ h1 => .nx s h1
  | .ret e, s, h => RS.ofR (evE C s e h) s fun w h1 => .rt w h1
  | .ite c a b, s, h => RS.ofR (evT C s c h) s fun d h1 => match d with
    | true => evSs a s h1
    | false => evSs b s h1
  | .for k t it a b body, s, h => RS.ofR (evE C s a h) s fun x h1 => RS.ofR (evE C s b h1) s fun y h2 => RS.ofR (srcV it x y h2) s (forRun (forTurn k t (evSs body)) s)
  | .whl c body, s, h => whlGo (fun s h => evT C s c h) (evSs body) C.most s h
  | .rse c es, s, h => RS.ofR (evEs C s es h) s fun ws h1 => .exc c ws h1 s
  | .brk, s, h => .bk s h
  | .cnt, s, h => .ct s h
  | .pass, s, h => .nx s h
  | .nev, _, _ => .bad
def evSs : List S → Env → Hm → RS
  | [], s, h => .nx s h
  | x :: l, s, h => (evS x s h).seq (evSs l)
end
end
/-! ### defs -/
structure Prog where
  fns : Nat → Option Fn
  con : Nat → Option W
  mth : Nat → Nat → Option Nat
  ini : Nat → Option Nat
  na : Nat → Nat → Bool
  eqm : Nat → Option Nat
  fzc : Nat → Bool
  most : Nat
def mkCtx (D : Prog) (call : Nat → List W → Hm → R W) : Ctx := ⟨call, D.con, D.mth, D.ini, D.na, D.eqm, D.fzc, D.most⟩
/-- a body's end, as the caller sees it -/
def back (fz : Bool) (h0 : Hm) : RS → R W
  | .nx _ h => gc fz h0 .non h
  | .rt w h => gc fz h0 w h
  | .exc c ws h _ => gcx h0 c ws h
  | _ => .bad
def start (f : Fn) (ws : List W) : Env := ws.map some ++ List.replicate (f.ns - ws.length) none
def callFn (C : Ctx) (f : Fn) (ws : List W) (h : Hm) : R W := if ws.length = f.np then back f.fz h (evSs C f.body (start f ws) h) else .bad
def run (D : Prog) : Nat → Nat → List W → Hm → R W
  | 0, _, _, _ => .bad
  | n + 1, f, ws, h => match D.fns f with
    | some d => callFn (mkCtx D (run D n)) d ws h
    | none => .bad
def ctx (D : Prog) (n : Nat) : Ctx := mkCtx D (run D n)
end M2

namespace M2
open PySem (Expr Stmt Str Scope NameKind Pos Const)
/-! ### from the model's syntax -/
/-- the def's names by slot; the top's defs, constants, classes; fields, methods -/
structure CS where
  N : List Str
  fns : List (Str × Nat)
  con : List (Str × Nat)
  cls : List (Str × Nat)
  fld : List (Str × Nat)
  mth : List (Str × Nat)
  cod : List Str
  /-- the names, those with lists within, the fields that hold lists that are written; whether all lists of the def are -/
  mv : List Str := []
  dv : List Str := []
  mf : List Str := []
  mu : Bool := false
def ixOf (x : Str) : List Str → Option Nat
  | [] => none
  | y :: l => if y = x then some 0 else (match ixOf x l with
    | some i => some (i + 1)
    | none => none)
def allO {A B : Type} (f : A → Option B) : List A → Option (List B)
  | [] => some []
  | x :: l => (match f x with
    | some y => (match allO f l with
      | some r => some (y :: r)
      | none => none)
    | none => none)
def opt2 {A B C : Type} (a : Option A) (b : Option B) (k : A → B → C) : Option C := match a, b with
  | some x, some y => some (k x y)
  | _, _ => none
def bopOf : PySem.Operator → Option Bop
  | .Add => some .add
  | .Sub => some .sub
  | .Mult => some .mul
  | .FloorDiv => some .fdiv
  | .Mod => some .mod
  | .Pow => some .pow
  | _ => none
def copOf : PySem.CmpOp → Option Cop
  | .Eq => some .eq
  | .NotEq => some .ne
  | .Lt => some .lt
  | .LtE => some .le
  | .Gt => some .gt
  | .GtE => some .ge
  | .Is => some .isN
  | .IsNot => some .notN
  | .In => some .mem
  | .NotIn => some .nmem
/-- is, is not: of None alone -/
def copFit (o : Cop) (b : Expr) : Bool := match o with
  | .isN => (match b with | .Constant .none _ _ => true | _ => false)
  | .notN => (match b with | .Constant .none _ _ => true | _ => false)
  | _ => true
def isVar (sc : Scope) (x : Str) : Bool := !(x == ("__debug__" : Str)) && !(x == ("__classdict__" : Str)) && (match sc.names.lookup x with
  | some .local => true
  | some .cell => true
  | some .free => true
  | _ => false)
/-- a name that may be stored in a def -/
def isLoc (sc : Scope) (x : Str) : Bool := match sc.names.lookup x with
  | some .local => true
  | some .cell => true
  | _ => false
def isGl (sc : Scope) (x : Str) : Bool := decide (sc.names.lookup x = some .globalImplicit)
def sInt : Str := "int"
def sStr : Str := "str"
def sBool : Str := "bool"
def sList : Str := "list"
def sTuple : Str := "tuple"
def sDict : Str := "dict"
def tyOf (c : CS) (sc : Scope) : Expr → Option Ty
  | .Name x _ => if isGl sc x then (if x = sInt then some .int else if x = sStr then some .str else if x = sBool then some .bool else if x = sList then some .list else if x = sTuple then some .tuple else if x = sDict then some .dict else (c.cls.lookup x).map .cls) else none
  | _ => none
def isIsi (x : Str) : Bool := decide (x = "isinstance")
def b1Of (x : Str) (n : Nat) : Option B1 :=
  if x = "len" then (if n = 1 then some .len else none) else if x = "abs" then (if n = 1 then some .abs else none) else if x = sInt then (if n = 1 then some .int else none) else if x = sStr then (if n = 1 then some .str else none)
  else if x = "max" then (if n = 2 then some .max2 else none) else if x = "min" then (if n = 2 then some .min2 else none) else none
def blOf (x : Str) (raw : Bool) : Option BL :=
  if x = sTuple then some .tuple else if x = sList then some .list else if x = "sorted" then some .sorted else if raw = true then (if x = "all" then some .all else if x = "any" then some .any else if x = "sum" then some .sum else if x = "len" then some .len else none) else none
def rawForm : Expr → Bool
  | .List .. => true
  | .ListComp .. => true
  | _ => false
def mtOf (m : Str) : Option Mt := if m = "append" then some .append else if m = "pop" then some .popAt else if m = "extend" then some .extend else if m = "split" then some .split else if m = "strip" then some .strip else if m = "join" then some .join else none
/-- the base of an attribute: no call of super() -/
def abOk : Expr → Bool
  | .Call _ [] [] _ => false
  | _ => true
def plainTest : Expr → Bool
  | .IfExp .. => false
  | _ => true
def nameIx (c : CS) : Expr → Option Nat
  | .Name x _ => ixOf x c.N
  | _ => none
def nameLoc (sc : Scope) : Expr → Bool
  | .Name x _ => isLoc sc x
  | _ => false
def tgtOf (c : CS) : Expr → Option (Bool × List Nat)
  | .Name x _ => (ixOf x c.N).map fun i => (false, [i])
  | .Tuple es _ _ => (allO (nameIx c) es).map fun t => (true, t)
  | _ => none
/-- a block's own names, with their slots -/
def ownOf (c : CS) (scope : Scope) : List (Str × Nat) := scope.names.filterMap fun y => match y.2 with
  | .local => (ixOf y.1 c.N).map fun i => (y.1, i)
  | .cell => (ixOf y.1 c.N).map fun i => (y.1, i)
  | _ => none
def locTgt (sc : Scope) : Expr → Bool
  | .Name x _ => isLoc sc x
  | .Tuple es _ _ => es.all (nameLoc sc)
  | _ => false
/-- a starred part as the last one -/
def starLast (es : List Expr) : Option (List Expr × Expr) := match es.reverse with
  | .Starred a _ :: r => some (r.reverse, a)
  | _ => none
/-- a name of the module that is a dict -/
def isCod (c : CS) (sc : Scope) : Expr → Option Nat
  | .Name x _ => if isGl sc x = true ∧ c.cod.contains x = true then c.con.lookup x else none
  | _ => none
section
variable (c : CS)
/-- what is walked -/
def isTuple : Expr → Bool
  | .Tuple .. => true
  | _ => false
def cIt (f : Expr → Option E) (sc : Scope) (tg e : Expr) : Option (It × E × E) := match e with
  | .Call (.Name x _) [a] [] _ => if isGl sc x ∧ x = "range" then (f a).map fun a => (.rng1, a, .non) else if isGl sc x ∧ x = "enumerate" ∧ isTuple tg = true then (f a).map fun a => (.enm, a, .non) else (f e).map fun a => (.seq, a, .non)
  | .Call (.Name x _) [a, b] [] _ => if isGl sc x ∧ x = "range" then opt2 (f a) (f b) fun a b => (.rng2, a, b) else (f e).map fun a => (.seq, a, .non)
  | _ => (f e).map fun a => (.seq, a, .non)
def lits : Const → Option E
  | .none => some .non
  | .bool b => some (.bl b)
  | .int i => some (.int i)
  | .str s => some (.str s.cps.toList)
  | _ => none
def optE (f : Expr → Option E) : Option Expr → Option (Bool × E)
  | none => some (false, .non)
  | some e => (f e).map fun d => (true, d)
def interl : List E → List E → List E
  | k :: l, v :: m => k :: v :: interl l m
  | _, _ => []
def wrapN (b : Bool) (d : E) : E := if b = true then .new d else d
def mutRoot (l : List Str) : Expr → Bool
  | .Name x _ => l.contains x
  | .Subscript a _ _ => mutRoot l a
  | _ => false
def cE : Nat → Bool → Scope → Expr → Option E
  | 0, _, _, _ => none
  | n + 1, nb, sc, e => match e with
    | .Constant k _ _ => lits k
    | .Name x _ => if isVar sc x then (ixOf x c.N).map .var else if isGl sc x then (c.con.lookup x).map .glo else none
    | .BinOp a o b _ => (match bopOf o with
      | some o => opt2 (cE n false sc a) (cE n false sc b) fun x y => wrapN (nb && decide (o = .add)) (.bin o x y)
      | none => none)
    | .UnaryOp .USub a _ => (cE n false sc a).map .neg
    | .UnaryOp .Not a _ => if plainTest a then (cE n false sc a).map .not else none
    | .Compare a [o] [b] _ => (match copOf o with
      | some o => if copFit o b then opt2 (cE n false sc a) (cE n false sc b) (.cmp o) else none
      | none => none)
    | .Compare a [o, p] [b, d] _ => (match copOf o, copOf p, cE n false sc a, cE n false sc b, cE n false sc d with
      | some o, some p, some a, some b, some d => some (.cmp2 o p a b d)
      | _, _, _, _, _ => none)
    | .BoolOp o (a :: b :: r) p => (match r with
      | [] => if plainTest a ∧ plainTest b then opt2 (cE n false sc a) (cE n false sc b) (match o with | .And => .and | .Or => .or) else none
      | d :: r => if plainTest a then opt2 (cE n false sc a) (cE n false sc (.BoolOp o (b :: d :: r) p)) (match o with | .And => .and | .Or => .or) else none)
    | .IfExp t a b _ => if plainTest t then (match cE n false sc t, cE n nb sc a, cE n nb sc b with
      | some t, some a, some b => some (.ite t a b)
      | _, _, _ => none) else none
    | .Tuple es _ _ => (allO (cE n nb sc) es).map .tup
    | .List es _ => (match starLast es with
      | some (fs, a) => opt2 (allO (cE n nb sc) fs) (cE n false sc a) fun x y => wrapN nb (.lss x y)
      | none => (allO (cE n nb sc) es).map fun x => wrapN nb (.lst x))
    | .Dict [] [] _ => some (.dct [])
    | .Dict [some k] [v] _ => opt2 (cE n false sc k) (cE n false sc v) fun k v => .dct [k, v]
    | .Subscript a (.Slice lo hi none _) _ => (match cE n false sc a, optE (cE n false sc) lo, optE (cE n false sc) hi with
      | some a, some lo, some hi => some (.slc a lo.1 lo.2 hi.1 hi.2)
      | _, _, _ => none)
    | .Subscript a i _ => (match isCod c sc a with
      | some k => (cE n false sc i).map (.gd k)
      | none => opt2 (cE n false sc a) (cE n false sc i) .sub)
    | .ListComp elt [⟨tg, iter, ifs, 0⟩] scope _ => (match tgtOf c tg, cE n nb scope elt, (match ifs with
        | [] => some (E.bl true)
        | [t] => if plainTest t then cE n false scope t else none
        | _ => none) with
      | some (k, t), some elt, some d => if L2.blkC c.N sc scope (ownOf c scope) = true ∧ ((ownOf c scope).all fun p => t.contains p.2) = true ∧ (t.all fun i => ((ownOf c scope).map (·.2)).contains i) = true ∧ locTgt scope tg = true then (match cIt (cE n false sc) sc tg iter with
        | some (it, a, b) => some (wrapN nb (.lc ((ownOf c scope).map (·.2)) k t elt it a b d))
        | none => none) else none
      | _, _, _ => none)
    | .DictComp key val [⟨tg, iter, ifs, 0⟩] scope _ => (match tgtOf c tg, cE n false scope key, cE n false scope val, (match ifs with
        | [] => some (E.bl true)
        | [t] => if plainTest t then cE n false scope t else none
        | _ => none) with
      | some (k, t), some key, some val, some d => if L2.blkC c.N sc scope (ownOf c scope) = true ∧ ((ownOf c scope).all fun p => t.contains p.2) = true ∧ (t.all fun i => ((ownOf c scope).map (·.2)).contains i) = true ∧ locTgt scope tg = true then (match cIt (cE n false sc) sc tg iter with
        | some (it, a, b) => some (.dc ((ownOf c scope).map (·.2)) k t key val it a b d)
        | none => none) else none
      | _, _, _, _ => none)
    | .Attribute a f _ => if abOk a = true then (match c.fld.lookup f with
        | some f => (cE n false sc a).map fun a => .fld a f
        | none => none) else none
    | .Call (.Name x _) args [] _ => if isGl sc x then (match c.fns.lookup x with
        | some f => (allO (cE n false sc) args).map (.call f)
        | none => (match c.cls.lookup x with
         | some k => (allO (cE n false sc) args).map (.make k)
         | none => if isIsi x then (match args with
              | [a, .Tuple ts _ _] => opt2 (cE n false sc a) (allO (tyOf c sc) ts) .isi
              | [a, t] => opt2 (cE n false sc a) (tyOf c sc t) fun a t => .isi a [t]
              | _ => none)
            else (match args with
              | [a] => (match blOf x (rawForm a) with
                | some b => (cE n false sc a).map fun d => wrapN (nb && decide (b = .list)) (.bl1 b d)
                | none => (match b1Of x 1 with
                  | some b => (cE n false sc a).map fun a => .b1 b [a]
                  | none => none))
              | [a, d] => (match b1Of x 2 with
                | some b => opt2 (cE n false sc a) (cE n false sc d) fun a d => .b1 b [a, d]
                | none => none)
              | _ => none)))
      else none
    | .Call (.Attribute o m ap) es [] p => if abOk o = true ∧ ap.endLine = p.line then (match c.mth.lookup m with
      | some j => if es.length < 29 then opt2 (cE n false sc o) (allO (cE n false sc) es) (.mcall j) else none
      | none => (match es with
        | [a] => (match mtOf m with
          | some m => opt2 (cE n false sc o) (cE n (mutRoot c.dv o) sc a) fun o a => .met m o [a]
          | none => none)
        | _ => none)) else none
    | _ => none
def isComp : Expr → Bool
  | .ListComp .. => true
  | .SetComp .. => true
  | .DictComp .. => true
  | _ => false
def isLc : Expr → Bool
  | .ListComp .. => true
  | .DictComp .. => true
  | _ => false
/-- not a row of targets and a row of values -/
def noPair : Expr → Expr → Bool
  | .Tuple .., .Tuple .. => false
  | .List .., .Tuple .. => false
  | _, _ => true
def notStar : Expr → Bool
  | .Starred .. => false
  | _ => true
/-- two stores from the right -/
def parOk (sc : Scope) (x : Str) (px : Pos) (y : Str) (py : Pos) (a b : Expr) : Bool :=
  decide (sc.names.lookup x = some .local) && decide (sc.names.lookup y = some .local) && (px.line == py.line) && !(x == y) && notStar a && notStar b && !([a, b].all (PySem.foldedForSure 8)) && !([a, b].all (PySem.constantsAlone 8))
/-- two names and two values -/
def pairOf (t v : Expr) : Option (Str × Pos × Str × Pos × Expr × Expr) := match t, v with
  | .Tuple [.Name x px, .Name y py] _ _, .Tuple [a, b] _ _ => some (x, px, y, py, a, b)
  | _, _ => none
/-- a store's target -/
def cT (f : Expr → Option E) (sc : Scope) : Expr → Option T
  | .Name x _ => if isLoc sc x then (ixOf x c.N).map .var else none
  | .Tuple es _ _ => if es.all (nameLoc sc) = true then (allO (nameIx c) es).map .tup else none
  | .Subscript o i _ => (match i with
    | .Slice .. => none
    | _ => opt2 (f o) (f i) .sub)
  | .Attribute o x _ => (match c.fld.lookup x with
    | some k => (f o).map fun o => .fld o k
    | none => none)
  | _ => none
/-- o.f += n -/
def augOf (sc : Scope) : Expr → PySem.Operator → Expr → Option S
  | .Attribute (.Name x _) f _, .Add, .Constant (.int j) _ _ => if isVar sc x then (match ixOf x c.N, c.fld.lookup f with
    | some i, some k => some (.asg (.fld (.var i) k) (.bin .iadd (.fld (.var i) k) (.int j)))
    | _, _ => none) else none
  | _, _, _ => none
/-- a store's value: whether its lists may be written -/
def tgtNew : Expr → Bool
  | .Name x _ => c.mu || c.mv.contains x
  | .Attribute _ f _ => c.mu || c.mf.contains f
  | .Subscript a _ _ => c.mu || mutRoot c.dv a
  | _ => c.mu
def cS : Nat → Scope → Stmt → Option S
  | 0, _, _ => none
  | n + 1, sc, s => match s with
    | .Assign [t] v _ => (match pairOf t v with
      | some (x, px, y, py, a, b) => if parOk sc x px y py a b = true then (match ixOf x c.N, ixOf y c.N, cE c n (c.mu || c.mv.contains x) sc a, cE c n (c.mu || c.mv.contains y) sc b with
        | some i, some j, some a, some b => some (.par [i, j] [a, b])
        | _, _, _, _ => none) else none
      | none => if (isComp v = false ∨ isLc v = true) ∧ noPair t v = true then opt2 (cT c (cE c n false sc) sc t) (cE c n (tgtNew c t) sc v) .asg else none)
    | .Expr v _ => if isComp v = false then (cE c n false sc v).map .exp else none
    | .Return (some v) _ => (cE c n c.mu sc v).map .ret
    | .Return none _ => some (.ret .non)
    | .If t a b _ => if plainTest t then (match cE c n false sc t, allO (cS n sc) a, allO (cS n sc) b with
      | some t, some a, some b => some (.ite t a b)
      | _, _, _ => none) else none
    | .For t0 i b [] _ => if locTgt sc t0 then (match tgtOf c t0, allO (cS n sc) b with
      | some (k, t), some b => (match cIt (cE c n false sc) sc t0 i with
        | some (it, x, y) => some (.for k t it x y b)
        | none => none)
      | _, _ => none) else none
    | .While t b [] _ => if plainTest t then opt2 (cE c n false sc t) (allO (cS n sc) b) .whl else none
    | .Pass _ => some .pass
    | .Break _ => some .brk
    | .Continue _ => some .cnt
    | .Raise .. => some .nev
    | .AugAssign t o v _ => augOf c sc t o v
    | _ => none
end
/-! ### a def -/
/-- the names of the comprehensions' blocks -/
def addN (l : List Str) (x : Str) : List Str := if l.contains x then l else l ++ [x]
section
mutual
def blkE : Nat → Expr → List Str
  | 0, _ => []
  | n + 1, e => match e with
    | .BoolOp _ es _ => blkEs n es
    | .BinOp a _ b _ => blkE n a ++ blkE n b
    | .UnaryOp _ a _ => blkE n a
    | .IfExp a b d _ => blkE n a ++ blkE n b ++ blkE n d
    | .Compare a _ bs _ => blkE n a ++ blkEs n bs
    | .Call f as _ _ => blkE n f ++ blkEs n as
    | .Attribute a _ _ => blkE n a
    | .Subscript a i _ => blkE n a ++ blkE n i
    | .List es _ => blkEs n es
    | .Tuple es _ _ => blkEs n es
    | .Starred e _ => blkE n e
    | .Dict ks vs _ => blkEs n (ks.filterMap id) ++ blkEs n vs
    | .Slice lo hi _ _ => blkEs n (lo.toList ++ hi.toList)
    | .ListComp elt gs scope _ => (scope.names.filterMap fun y => if y.1 == (".0" : Str) then none else match y.2 with
        | .local => some y.1
        | .cell => some y.1
        | _ => none) ++ blkE n elt ++ blkEs n (gs.flatMap fun g => g.iter :: g.ifs)
    | .DictComp k v gs scope _ => (scope.names.filterMap fun y => if y.1 == (".0" : Str) then none else match y.2 with
        | .local => some y.1
        | .cell => some y.1
        | _ => none) ++ blkE n k ++ blkE n v ++ blkEs n (gs.flatMap fun g => g.iter :: g.ifs)
    | _ => []
def blkEs : Nat → List Expr → List Str
  | 0, _ => []
  | n + 1, es => es.flatMap (blkE n)
end
def blkS : Nat → Stmt → List Str
  | 0, _ => []
  | n + 1, s => match s with
    | .Assign ts v _ => blkEs n (v :: ts)
    | .AugAssign t _ v _ => blkEs n [t, v]
    | .Expr v _ => blkE n v
    | .Return (some v) _ => blkE n v
    | .If t a b _ => blkE n t ++ (a ++ b).flatMap (blkS n)
    | .For t i b _ _ => blkEs n [t, i] ++ b.flatMap (blkS n)
    | .While t b _ _ => blkE n t ++ b.flatMap (blkS n)
    | .Raise (some e) _ _ => blkE n e
    | .Try b hs _ _ _ => b.flatMap (blkS n) ++ hs.flatMap fun h => match h with
      | .ExceptHandler _ _ b _ => b.flatMap (blkS n)
    | _ => []
end
/-- a def's names by slot: its parameters, its other names, those of its comprehensions -/
def namesOf (ps : List Str) (sc : Scope) (body : List Stmt) : List Str :=
  (body.flatMap (blkS 60)).foldl addN ((sc.names.filterMap fun y => match y.2 with
    | .local => some y.1
    | .cell => some y.1
    | _ => none).foldl addN ps)
/-! what a def writes -/
def mutMeths : List Str := ["append", "extend", "pop", "insert", "remove", "sort", "reverse", "clear", "update", "add", "discard", "setdefault", "popitem"]
def mark1 : Expr → List (Bool × Str)
  | .Name x _ => [(false, x), (true, x)]
  | .Subscript a _ _ => mark1 a
  | _ => []
def mark0 : Expr → List (Bool × Str)
  | .Name x _ => [(false, x)]
  | .Subscript a _ _ => mark1 a
  | _ => []
mutual
def muE : Nat → Expr → List (Bool × Str)
  | 0, _ => []
  | n + 1, e => match e with
    | .BoolOp _ es _ => muEs n es
    | .BinOp a _ b _ => muE n a ++ muE n b
    | .UnaryOp _ a _ => muE n a
    | .IfExp a b d _ => muE n a ++ (muE n b ++ muE n d)
    | .Compare a _ bs _ => muE n a ++ muEs n bs
    | .Call f as _ _ => (match f with
      | .Attribute o m _ => (if mutMeths.contains m then mark0 o else []) ++ muE n o
      | _ => []) ++ muEs n as
    | .Attribute a _ _ => muE n a
    | .Subscript a i _ => muE n a ++ muE n i
    | .List es _ => muEs n es
    | .Tuple es _ _ => muEs n es
    | .ListComp elt gs _ _ => muE n elt ++ muEs n (gs.flatMap fun g => g.iter :: g.ifs)
    | _ => []
def muEs : Nat → List Expr → List (Bool × Str)
  | 0, _ => []
  | n + 1, es => es.flatMap (muE n)
end
def muT : Expr → List (Bool × Str)
  | .Subscript a _ _ => mark0 a
  | _ => []
def muS : Nat → Stmt → List (Bool × Str)
  | 0, _ => []
  | n + 1, s => match s with
    | .Assign ts v _ => ts.flatMap muT ++ muE n v
    | .AugAssign t _ v _ => muT t ++ muE n v
    | .Delete ts _ => ts.flatMap muT
    | .Expr v _ => muE n v
    | .Return (some v) _ => muE n v
    | .If t a b _ => muE n t ++ (a ++ b).flatMap (muS n)
    | .For _ i b _ _ => muE n i ++ b.flatMap (muS n)
    | .While t b _ _ => muE n t ++ b.flatMap (muS n)
    | .Try b hs _ _ _ => b.flatMap (muS n) ++ hs.flatMap fun h => match h with
      | .ExceptHandler _ _ b _ => b.flatMap (muS n)
    | _ => []
structure Top where
  fns : List (Str × Nat)
  con : List (Str × Nat)
  cls : List (Str × Nat)
  fld : List (Str × Nat)
  mth : List (Str × Nat)
  cod : List Str
  mv : List Str := []
  mf : List Str := []
  mu : List Str := []
def Top.cs (t : Top) (N : List Str) (mu : Bool) (body : List Stmt) : CS := ⟨N, t.fns, t.con, t.cls, t.fld, t.mth, t.cod, t.mv ++ (body.flatMap (muS 60)).map (·.2), ((body.flatMap (muS 60)).filter (·.1)).map (·.2), t.mf, mu⟩
def plainArgs (a : PySem.Arguments) : Bool := a.posonlyargs.isEmpty && a.vararg.isNone && a.kwonlyargs.isEmpty && a.kwarg.isNone && a.defaults.isEmpty
def psOf (a : PySem.Arguments) : List Str := a.args.map (·.arg)
def cFn (t : Top) (mu : Bool) (a : PySem.Arguments) (body : List Stmt) (sc : Scope) : Option Fn :=
  if plainArgs a then (allO (cS (t.cs (namesOf (psOf a) sc body) mu body) 60 sc) body).map fun b => ⟨(psOf a).length, (namesOf (psOf a) sc body).length, b, !mu⟩ else none
end M2

namespace M2
/-! ### the order of pairs -/
theorem ltPr_or {a b : Int × Int} (h : ltPr b a = false) (g : ltPr a b = false) : a = b := by
  obtain ⟨x, y⟩ := a
  obtain ⟨z, u⟩ := b
  simp only [ltPr] at h g
  by_cases e : x = z
  · subst e
    simp at h g
    have : y = u := by omega
    rw [this]
  · rw [if_neg (fun t => e t.symm)] at h
    rw [if_neg e] at g
    simp at h g
    omega
theorem ltPr_le {a b c : Int × Int} (h : ltPr b a = false) (g : ltPr c b = false) : ltPr c a = false := by
  obtain ⟨x, y⟩ := a
  obtain ⟨z, u⟩ := b
  obtain ⟨r, t⟩ := c
  simp only [ltPr] at h g ⊢
  by_cases e1 : z = x <;> by_cases e2 : r = z <;> by_cases e3 : r = x <;> simp_all <;> omega
theorem ltPr_as {a b : Int × Int} (h : ltPr a b = true) : ltPr b a = false := by
  obtain ⟨x, y⟩ := a
  obtain ⟨z, u⟩ := b
  simp only [ltPr] at h ⊢
  by_cases e1 : x = z
  · subst e1; simp_all; omega
  · rw [if_neg e1] at h
    rw [if_neg (fun t => e1 t.symm)]
    simp at h ⊢
    omega
abbrev SrtP (l : List (Int × Int)) : Prop := l.Pairwise fun a b => ltPr b a = false
theorem insPr_perm (x : Int × Int) : ∀ l : List (Int × Int), (insPr x l).Perm (x :: l)
  | [] => List.Perm.refl _
  | y :: l => by
    unfold insPr
    split
    · exact ((insPr_perm x l).cons y).trans (List.Perm.swap x y l)
    · exact List.Perm.refl _
theorem sortPr_perm : ∀ l : List (Int × Int), (sortPr l).Perm l
  | [] => List.Perm.refl _
  | x :: l => (insPr_perm x (sortPr l)).trans ((sortPr_perm l).cons x)
theorem insPr_srt (x : Int × Int) : ∀ {l : List (Int × Int)}, SrtP l → SrtP (insPr x l)
  | [], _ => List.pairwise_singleton _ _
  | y :: l, h => by
    have h1 := List.pairwise_cons.mp h
    unfold insPr
    cases e : ltPr y x with
    | true =>
      rw [if_pos rfl]
      refine List.pairwise_cons.mpr ⟨fun z hz => ?_, insPr_srt x h1.2⟩
      rcases List.mem_cons.mp ((insPr_perm x l).mem_iff.mp hz) with rfl | hz
      · exact ltPr_as e
      · exact h1.1 z hz
    | false =>
      rw [if_neg Bool.false_ne_true]
      refine List.pairwise_cons.mpr ⟨fun z hz => ?_, h⟩
      rcases List.mem_cons.mp hz with rfl | hz
      · exact e
      · exact ltPr_le e (h1.1 z hz)
theorem sortPr_srt : ∀ l : List (Int × Int), SrtP (sortPr l)
  | [] => List.Pairwise.nil
  | x :: l => insPr_srt x (sortPr_srt l)
theorem srtP_uniq : ∀ {l m : List (Int × Int)}, l.Perm m → SrtP l → SrtP m → l = m
  | [], m, p, _, _ => (List.nil_perm.mp p).symm
  | x :: l, m, p, h, g => by
    cases m with
    | nil => exact absurd p.length_eq (by simp)
    | cons y m =>
      have h1 := List.pairwise_cons.mp h
      have g1 := List.pairwise_cons.mp g
      have e : x = y := by
        rcases List.mem_cons.mp (p.mem_iff.mp (List.mem_cons_self ..)) with e | hx
        · exact e
        · rcases List.mem_cons.mp (p.mem_iff.mpr (List.mem_cons_self ..)) with e | hy
          · exact e.symm
          · exact ltPr_or (h1.1 y hy) (g1.1 x hx)
      subst e
      rw [srtP_uniq p.cons_inv h1.2 g1.2]
end M2

namespace M2
open PySem PySem.Spec PyProof.Rows L2
abbrev Sg := L2.St
/-! ### what stands behind the trees -/
/-- a list that is only read -/
def FzL (K : PySem.W.Frag) (H : Hp) (a : Addr) (xs : List V) : Prop :=
  (∃ o, H a = some (.frz o (.lst xs))) ∨
    ∃ (o : Obj) (its : Array Value) (n : Nat), K.lookup a = some o ∧ o.cls = .type "list" ∧ o.dict = none ∧ o.data = .seq its n ∧ its.size ≤ sizeLine ∧ Vals xs its.toList
theorem FzL.sq {K : PySem.W.Frag} {H : Hp} {a : Addr} {xs : List V} (h : FzL K H a xs) : SqL K H a xs := by
  rcases h with ⟨o, h⟩ | h
  · exact .inl (.inr ⟨o, h⟩)
  · exact .inr h
mutual
inductive RW (K : PySem.W.Frag) (p : List Addr) (H : Hp) : W → V → Prop
  | non : RW K p H .non .non
  | bl (b : Bool) : RW K p H (.bl b) (.bl b)
  | int (i : Int) : RW K p H (.int i) (.int i)
  | str (l : List Nat) : RW K p H (.str l) (.str ⟨l.toArray⟩)
  | tup {l : List W} {a : Addr} {vs : List V} : SqT K H a vs → RWs K p H l vs → RW K p H (.tup l) (.ref a)
  | ref {n : Nat} {a : Addr} : p[n]? = some a → RW K p H (.ref n) (.ref a)
  | kl {l : List W} {a : Addr} {vs : List V} : FzL K H a vs → RWs K p H l vs → RW K p H (.kl l) (.ref a)
inductive RWs (K : PySem.W.Frag) (p : List Addr) (H : Hp) : List W → List V → Prop
  | nil : RWs K p H [] []
  | cons {x : W} {l : List W} {v : V} {vs : List V} : RW K p H x v → RWs K p H l vs → RWs K p H (x :: l) (v :: vs)
end
/-- tuples and read lists stay -/
structure Kp (K : PySem.W.Frag) (H H' : Hp) : Prop where
  tup : ∀ a vs, SqT K H a vs → SqT K H' a vs
  fz : ∀ a vs, FzL K H a vs → FzL K H' a vs
theorem Kp.refl {K : PySem.W.Frag} {H : Hp} : Kp K H H := ⟨fun _ _ h => h, fun _ _ h => h⟩
theorem Kp.trans {K : PySem.W.Frag} {H H1 H2 : Hp} (a : Kp K H H1) (b : Kp K H1 H2) : Kp K H H2 := ⟨fun _ _ h => b.tup _ _ (a.tup _ _ h), fun _ _ h => b.fz _ _ (a.fz _ _ h)⟩
theorem Kp.new {K : PySem.W.Frag} {H : Hp} {p : Addr} {o : HO} (hp : H p = none) : Kp K H (upd H p o) := by
  refine ⟨fun a vs h => ?_, fun a vs h => ?_⟩
  · rcases h with (h | ⟨ob, h⟩) | h
    · exact .inl (.inl (by rw [upd_ne (ne_of_none h hp)]; exact h))
    · exact .inl (.inr ⟨ob, by rw [upd_ne (ne_of_none h hp)]; exact h⟩)
    · exact .inr h
  · rcases h with ⟨ob, h⟩ | h
    · exact .inl ⟨ob, by rw [upd_ne (ne_of_none h hp)]; exact h⟩
    · exact .inr h
/-- what may be written is neither -/
theorem Kp.write {K : PySem.W.Frag} {H : Hp} {p : Addr} {o : HO} (mu : Mut (H p)) : Kp K H (upd H p o) := by
  have ne : ∀ a u, H a = some u → ¬ Mut (some u) → a ≠ p := fun a u q nm z => by subst z; rw [q] at mu; exact nm mu
  refine ⟨fun a vs h => ?_, fun a vs h => ?_⟩
  · rcases h with (h | ⟨ob, h⟩) | h
    · exact .inl (.inl (by rw [upd_ne (ne a _ h fun z => z)]; exact h))
    · exact .inl (.inr ⟨ob, by rw [upd_ne (ne a _ h fun z => z)]; exact h⟩)
    · exact .inr h
  · rcases h with ⟨ob, h⟩ | h
    · exact .inl ⟨ob, by rw [upd_ne (ne a _ h fun z => z)]; exact h⟩
    · exact .inr h
/-- from one state to a later one: the objects' places are more, tuples and read lists stay, what is not an object of the trees stays -/
structure Xt (K : PySem.W.Frag) (p : List Addr) (H : Hp) (p' : List Addr) (H' : Hp) : Prop where
  pre : p <+: p'
  kp : Kp K H H'
  fr : ∀ a u, H a = some u → a ∉ p → H' a = some u
  new : ∀ a, a ∈ p' → a ∉ p → H a = none
theorem Xt.refl {K : PySem.W.Frag} {p : List Addr} {H : Hp} : Xt K p H p H := ⟨List.prefix_refl p, Kp.refl, fun _ _ h _ => h, fun _ a b => absurd a b⟩
theorem Xt.trans {K : PySem.W.Frag} {p p1 p2 : List Addr} {H H1 H2 : Hp} (a : Xt K p H p1 H1) (b : Xt K p1 H1 p2 H2) : Xt K p H p2 H2 := by
  have out : ∀ c u, H c = some u → c ∉ p → c ∉ p1 := fun c u e n z => by rw [a.new c z n] at e; cases e
  refine ⟨a.pre.trans b.pre, a.kp.trans b.kp, fun c u e n => b.fr c u (a.fr c u e n) (out c u e n), fun c z n => ?_⟩
  by_cases h1 : c ∈ p1
  · exact a.new c h1 n
  · have h2 := b.new c z h1
    cases q : H c with
    | none => rfl
    | some u => rw [a.fr c u q n] at h2; cases h2
theorem Xt.beside {K : PySem.W.Frag} {p : List Addr} {H : Hp} {a : Addr} {o : HO} (ha : H a = none) : Xt K p H p (upd H a o) :=
  ⟨List.prefix_refl p, Kp.new ha, fun c u e _ => by rw [upd_ne (ne_of_none e ha)]; exact e, fun _ x y => absurd x y⟩
theorem Xt.laid {K : PySem.W.Frag} {p : List Addr} {H : Hp} {a : Addr} {o : HO} (ha : H a = none) : Xt K p H (p ++ [a]) (upd H a o) := by
  refine ⟨List.prefix_append p [a], Kp.new ha, fun c u e _ => by rw [upd_ne (ne_of_none e ha)]; exact e, fun c x y => ?_⟩
  rcases List.mem_append.mp x with x | x
  · exact absurd x y
  · have : c = a := by simpa using x
    rw [this]; exact ha
theorem Xt.write {K : PySem.W.Frag} {p : List Addr} {H : Hp} {a : Addr} {o : HO} (hp : a ∈ p) (mu : Mut (H a)) : Xt K p H p (upd H a o) :=
  ⟨List.prefix_refl p, Kp.write mu, fun c u e n => by rw [upd_ne (show c ≠ a from fun z => n (by rw [z]; exact hp))]; exact e, fun _ x y => absurd x y⟩
/-- an own thing beside the trees is written -/
theorem Xt.back {K : PySem.W.Frag} {p p' : List Addr} {H H' : Hp} {a : Addr} {o : HO} (ha : H a = none) (x : Xt K p H p' H') (n : a ∉ p') (mu : Mut (H' a)) : Xt K p H p' (upd H' a o) :=
  ⟨x.pre, x.kp.trans (Kp.write mu), fun c u e m => by rw [upd_ne (ne_of_none e ha)]; exact x.fr c u e m, x.new⟩
section
variable {K : PySem.W.Frag} {p p' : List Addr} {H H' : Hp}
mutual
theorem RW.mono (hp : p <+: p') (k : Kp K H H') : ∀ {w : W} {v : V}, RW K p H w v → RW K p' H' w v
  | _, _, .non => .non
  | _, _, .bl b => .bl b
  | _, _, .int i => .int i
  | _, _, .str l => .str l
  | _, _, .tup h r => .tup (k.tup _ _ h) (RWs.mono hp k r)
  | _, _, .ref h => .ref (by
      obtain ⟨t, rfl⟩ := hp
      rw [List.getElem?_append_left (List.getElem?_eq_some_iff.mp h).1]
      exact h)
  | _, _, .kl h r => .kl (k.fz _ _ h) (RWs.mono hp k r)
theorem RWs.mono (hp : p <+: p') (k : Kp K H H') : ∀ {l : List W} {vs : List V}, RWs K p H l vs → RWs K p' H' l vs
  | _, _, .nil => .nil
  | _, _, .cons a r => .cons (RW.mono hp k a) (RWs.mono hp k r)
end
theorem RWs.length : ∀ {l : List W} {vs : List V}, RWs K p H l vs → l.length = vs.length
  | _, _, .nil => rfl
  | _, _, .cons _ r => congrArg (· + 1) r.length
theorem RWs.get : ∀ {l : List W} {vs : List V} {i : Nat} {w : W}, RWs K p H l vs → l[i]? = some w → ∃ v, vs[i]? = some v ∧ RW K p H w v
  | _, _, i, _, .nil, e => by simp at e
  | _, _, 0, _, .cons a _, e => by simp at e; subst e; exact ⟨_, rfl, a⟩
  | _, _, i + 1, w, .cons _ r, e => by
    obtain ⟨v, h1, h2⟩ := RWs.get (i := i) (w := w) r (by simpa using e)
    exact ⟨v, by simpa using h1, h2⟩
theorem RWs.append : ∀ {l m : List W} {vs us : List V}, RWs K p H l vs → RWs K p H m us → RWs K p H (l ++ m) (vs ++ us)
  | _, _, _, _, .nil, s => s
  | _, _, _, _, .cons a r, s => .cons a (RWs.append r s)
theorem RWs.set : ∀ {l : List W} {vs : List V} (i : Nat) {w : W} {v : V}, RWs K p H l vs → RW K p H w v → RWs K p H (l.set i w) (vs.set i v)
  | _, _, _, _, _, .nil, _ => .nil
  | _, _, 0, _, _, .cons _ r, a => .cons a r
  | _, _, i + 1, _, _, .cons b r, a => .cons b (RWs.set i r a)
theorem RWs.take : ∀ {l : List W} {vs : List V} (n : Nat), RWs K p H l vs → RWs K p H (l.take n) (vs.take n)
  | _, _, 0, _ => .nil
  | _, _, _ + 1, .nil => .nil
  | _, _, n + 1, .cons a r => .cons a (RWs.take n r)
theorem RWs.drop : ∀ {l : List W} {vs : List V} (n : Nat), RWs K p H l vs → RWs K p H (l.drop n) (vs.drop n)
  | _, _, 0, r => r
  | _, _, _ + 1, .nil => .nil
  | _, _, n + 1, .cons _ r => RWs.drop n r
theorem RWs.rep {l : List W} {vs : List V} (h : RWs K p H l vs) : ∀ k : Nat, RWs K p H (List.replicate k l).flatten (List.replicate k vs).flatten
  | 0 => .nil
  | k + 1 => by
    rw [List.replicate_succ, List.replicate_succ, List.flatten_cons, List.flatten_cons]
    exact h.append (RWs.rep h k)
theorem RWs.ints : ∀ {l : List W} {vs : List V} {ns : List Int}, RWs K p H l vs → intsOf l = some ns → vs = ns.map V.int
  | _, _, _, .nil, e => by cases e; rfl
  | _, _, _, .cons (x := x) (l := l) a r, e => by
    cases a with
    | int i =>
      simp only [intsOf] at e
      cases q : intsOf l with
      | none => rw [q] at e; cases e
      | some m => rw [q] at e; cases e; rw [RWs.ints r q]; rfl
    | _ => simp [intsOf] at e
theorem RWs.bls : ∀ {l : List W} {vs : List V} {ns : List Bool}, RWs K p H l vs → blsOf l = some ns → vs = ns.map V.bl
  | _, _, _, .nil, e => by cases e; rfl
  | _, _, _, .cons (x := x) (l := l) a r, e => by
    cases a with
    | bl i =>
      simp only [blsOf] at e
      cases q : blsOf l with
      | none => rw [q] at e; cases e
      | some m => rw [q] at e; cases e; rw [RWs.bls r q]; rfl
    | _ => simp [blsOf] at e
theorem RWs.strs : ∀ {l : List W} {vs : List V} {ns : List (List Nat)}, RWs K p H l vs → strsOf l = some ns → vs = (ns.map fun x => (⟨x.toArray⟩ : Str)).map V.str
  | _, _, _, .nil, e => by cases e; rfl
  | _, _, _, .cons (x := x) (l := l) a r, e => by
    cases a with
    | str i =>
      simp only [strsOf] at e
      cases q : strsOf l with
      | none => rw [q] at e; cases e
      | some m => rw [q] at e; cases e; rw [RWs.strs r q]; rfl
    | _ => simp [strsOf] at e
end
/-! ### the heap -/
/-- a dict's entries: keys ints and texts -/
def keyV : W → Option Key
  | .int i => some (.inl i)
  | .str l => some (.inr ⟨l.toArray⟩)
  | _ => none
inductive RD (K : PySem.W.Frag) (p : List Addr) (H : Hp) : List (W × W) → List (Key × V) → Prop
  | nil : RD K p H [] []
  | cons {k w : W} {l : List (W × W)} {x : Key} {v : V} {kvs : List (Key × V)} : keyV k = some x → x ∉ kvs.map (·.1) → RW K p H w v → RD K p H l kvs → RD K p H ((k, w) :: l) ((x, v) :: kvs)
/-- an instance's fields: nm tells their names -/
inductive RF (nm : Nat → Str) (K : PySem.W.Frag) (p : List Addr) (H : Hp) : List (Nat × W) → List (Str × V) → Prop
  | nil : RF nm K p H [] []
  | cons {f : Nat} {w : W} {l : List (Nat × W)} {v : V} {fs : List (Str × V)} : RW K p H w v → RF nm K p H l fs → RF nm K p H ((f, w) :: l) ((nm f, v) :: fs)
theorem RD.mono {K : PySem.W.Frag} {p p' : List Addr} {H H' : Hp} (hp : p <+: p') (k : Kp K H H') : ∀ {l : List (W × W)} {kvs : List (Key × V)}, RD K p H l kvs → RD K p' H' l kvs
  | _, _, .nil => .nil
  | _, _, .cons e n a r => .cons e n (a.mono hp k) (RD.mono hp k r)
theorem RF.mono {nm : Nat → Str} {K : PySem.W.Frag} {p p' : List Addr} {H H' : Hp} (hp : p <+: p') (k : Kp K H H') : ∀ {l : List (Nat × W)} {fs : List (Str × V)}, RF nm K p H l fs → RF nm K p' H' l fs
  | _, _, .nil => .nil
  | _, _, .cons a r => .cons (a.mono hp k) (RF.mono hp k r)
/-! a dict's entries, its keys tuples -/
mutual
def nk : W → NestedKey
  | .non => .none
  | .bl b => .num (if b = true then 1 else 0)
  | .int i => .num i
  | .str l => .text ⟨l.toArray⟩
  | .tup l => .tup (nks l)
  | .ref _ => .none
  | .kl _ => .none
def nks : List W → List NestedKey
  | [] => []
  | x :: l => nk x :: nks l
end
inductive RN (K : PySem.W.Frag) (p : List Addr) (H : Hp) : List (W × W) → List (NestedKey × Addr × Value) → Prop
  | nil : RN K p H [] []
  | cons {k w : W} {l : List (W × W)} {a : Addr} {v : V} {u : Value} {xs : List (NestedKey × Addr × Value)} : k.key = true → RW K p H k (.ref a) → RW K p H w v → RelV v u → RN K p H l xs → RN K p H ((k, w) :: l) ((nk k, a, u) :: xs)
theorem RN.mono {K : PySem.W.Frag} {p p' : List Addr} {H H' : Hp} (hp : p <+: p') (k : Kp K H H') : ∀ {l : List (W × W)} {xs : List (NestedKey × Addr × Value)}, RN K p H l xs → RN K p' H' l xs
  | _, _, .nil => .nil
  | _, _, .cons e a b r q => .cons e (a.mono hp k) (b.mono hp k) r (RN.mono hp k q)
def entN (w : World) (x : NestedKey × Addr × Value) : DictEntry := ⟨x.1.hash w, .ref x.2.1, x.2.2⟩
/-- the dict's object, as it stands -/
structure DN (w : World) (o : Obj) (xs : List (NestedKey × Addr × Value)) : Prop where
  ex : o.ExactDict
  dat : ∃ es ep, o.data = .dict es ep ∧ es.toList = xs.map (entN w)
  nd : (xs.map (·.1)).Nodup
abbrev ndO (a : Addr) (o : Obj) : HO := .ext fun h => h.get? a = some o
/-- what the names of the text stand for: classes, fields; the world -/
structure Nm where
  wd : World
  cls : Nat → Addr
  fld : Nat → Str
  xf : Nat → List Str
def RO (nm : Nm) (K : PySem.W.Frag) (p : List Addr) (H : Hp) (o : O) (a : Addr) : Prop := match o with
  | .lst l => ∃ vs, H a = some (.lst vs) ∧ RWs K p H l vs
  | .dct l => ∃ kvs, H a = some (.dK kvs) ∧ RD K p H l kvs
  | .lk l => ∃ ob kvs, H a = some (.frz ob (.dK kvs)) ∧ RD K p H l kvs
  | .ins c fs => ∃ dx vs, H a = some (.ins (nm.cls c) dx vs) ∧ RF nm.fld K p H fs vs
  | .dn l => ∃ o xs, H a = some (ndO a o) ∧ (a == sysModules) = false ∧ l.length ≤ sizeLine ∧ DN nm.wd o xs ∧ RN K p H l xs
structure Sim (nm : Nm) (K : PySem.W.Frag) (p : List Addr) (h : Hm) (H : Hp) : Prop where
  len : p.length = h.length
  nd : p.Nodup
  at_ : ∀ (i : Nat) (o : O) (a : Addr), h[i]? = some o → p[i]? = some a → RO nm K p H o a
structure Er (K : PySem.W.Frag) (p : List Addr) (H : Hp) (s : Env) (t : Sg) : Prop where
  len : s.length = t.length
  at_ : ∀ (i : Nat) (w : W), s[i]? = some (some w) → ∃ v, t[i]? = some (some v) ∧ RW K p H w v
section
variable {nm : Nm} {K : PySem.W.Frag} {p p' : List Addr} {H H' : Hp} {h h' : Hm} {s : Env} {t : Sg}
theorem Er.mono (e : Er K p H s t) (x : Xt K p H p' H') : Er K p' H' s t := ⟨e.len, fun i w q => let ⟨v, a, b⟩ := e.at_ i w q; ⟨v, a, b.mono x.pre x.kp⟩⟩
theorem RW.to {w : W} {v : V} (r : RW K p H w v) (x : Xt K p H p' H') : RW K p' H' w v := r.mono x.pre x.kp
theorem RWs.to {w : List W} {v : List V} (r : RWs K p H w v) (x : Xt K p H p' H') : RWs K p' H' w v := r.mono x.pre x.kp
theorem Er.set (e : Er K p H s t) {w : W} {v : V} (r : RW K p H w v) (i : Nat) : Er K p H (s.set i (some w)) (t.set i (some v)) := by
  refine ⟨by simpa using e.len, fun j u q => ?_⟩
  by_cases hj : i = j
  · subst hj
    by_cases hi : i < s.length
    · rw [List.getElem?_set_self hi] at q
      cases q
      exact ⟨v, by rw [List.getElem?_set_self (by rw [← e.len]; exact hi)], r⟩
    · rw [List.getElem?_eq_none (by simpa using hi)] at q; cases q
  · rw [List.getElem?_set_ne hj] at q
    obtain ⟨x, a, b⟩ := e.at_ j u q
    exact ⟨x, by rw [List.getElem?_set_ne hj]; exact a, b⟩
/-- each object is there -/
theorem Sim.get (x : Sim nm K p h H) {i : Nat} {o : O} (e : h[i]? = some o) : ∃ a, p[i]? = some a ∧ RO nm K p H o a := by
  have hi : i < p.length := by rw [x.len]; exact (List.getElem?_eq_some_iff.mp e).1
  exact ⟨p[i], List.getElem?_eq_getElem hi, x.at_ i o _ e (List.getElem?_eq_getElem hi)⟩
theorem RO.some {o : O} {a : Addr} (r : RO nm K p H o a) : ∃ u, H a = some u := by
  cases o with
  | lst l => obtain ⟨_, e, _⟩ := r; exact ⟨_, e⟩
  | dct l => obtain ⟨_, e, _⟩ := r; exact ⟨_, e⟩
  | lk l => obtain ⟨_, _, e, _⟩ := r; exact ⟨_, e⟩
  | ins c fs => obtain ⟨_, _, e, _⟩ := r; exact ⟨_, e⟩
  | dn l => obtain ⟨_, _, e, _⟩ := r; exact ⟨_, e⟩
theorem Sim.mem (x : Sim nm K p h H) {a : Addr} (ha : a ∈ p) : ∃ u, H a = some u := by
  obtain ⟨i, hi, e⟩ := List.getElem_of_mem ha
  have hh : i < h.length := by rw [← x.len]; exact hi
  exact (x.at_ i _ a (List.getElem?_eq_getElem hh) (by rw [List.getElem?_eq_getElem hi, e])).some
theorem RO.mono {o : O} {a : Addr} (hp : p <+: p') (k : Kp K H H') (ha : H' a = H a) (r : RO nm K p H o a) : RO nm K p' H' o a := by
  cases o with
  | lst l => obtain ⟨_, e, q⟩ := r; exact ⟨_, ha.trans e, q.mono hp k⟩
  | dct l => obtain ⟨_, e, q⟩ := r; exact ⟨_, ha.trans e, q.mono hp k⟩
  | lk l => obtain ⟨_, _, e, q⟩ := r; exact ⟨_, _, ha.trans e, q.mono hp k⟩
  | ins c fs => obtain ⟨_, _, e, q⟩ := r; exact ⟨_, _, ha.trans e, q.mono hp k⟩
  | dn l => obtain ⟨_, _, e, h1, h2, h3, q⟩ := r; exact ⟨_, _, ha.trans e, h1, h2, h3, q.mono hp k⟩
/-- something is laid beside -/
theorem Sim.beside (x : Sim nm K p h H) {a : Addr} {u : HO} (ha : H a = none) : Sim nm K p h (upd H a u) := by
  refine ⟨x.len, x.nd, fun i o b e q => (x.at_ i o b e q).mono (List.prefix_refl p) (Kp.new ha) ?_⟩
  obtain ⟨v, hv⟩ := (x.at_ i o b e q).some
  exact upd_ne (ne_of_none hv ha)
/-- an object is laid -/
theorem Sim.laid (x : Sim nm K p h H) {a : Addr} {u : HO} {o : O} (ha : H a = none) (r : RO nm K (p ++ [a]) (upd H a u) o a) : Sim nm K (p ++ [a]) (h ++ [o]) (upd H a u) := by
  have na : a ∉ p := fun z => by obtain ⟨v, hv⟩ := x.mem z; rw [ha] at hv; cases hv
  refine ⟨by simp [x.len], List.nodup_append.mpr ⟨x.nd, by simp, fun c hc b hb => ?_⟩, fun i o' b e q => ?_⟩
  · have : b = a := by simpa using hb
    subst this
    rintro rfl
    exact na hc
  · by_cases hi : i < p.length
    · rw [List.getElem?_append_left hi] at q
      rw [List.getElem?_append_left (by rw [← x.len]; exact hi)] at e
      obtain ⟨v, hv⟩ := (x.at_ i o' b e q).some
      exact (x.at_ i o' b e q).mono (List.prefix_append p [a]) (Kp.new ha) (upd_ne (ne_of_none hv ha))
    · have hlt := (List.getElem?_eq_some_iff.mp e).1
      have hi2 : i = p.length := by
        rw [List.length_append, List.length_singleton] at hlt
        have := x.len
        omega
      subst hi2
      rw [List.getElem?_append_right (Nat.le_refl _), Nat.sub_self] at q
      rw [List.getElem?_append_right (by rw [x.len]; exact Nat.le_refl _), x.len, Nat.sub_self] at e
      cases q
      cases e
      exact r
theorem nodup_inj {l : List Addr} (hn : l.Nodup) {i j : Nat} {a : Addr} (h1 : l[i]? = some a) (h2 : l[j]? = some a) : i = j := by
  obtain ⟨a1, e1⟩ := List.getElem?_eq_some_iff.mp h1
  obtain ⟨a2, e2⟩ := List.getElem?_eq_some_iff.mp h2
  exact (List.getElem_inj hn).mp (e1.trans e2.symm)
/-- an object is written -/
theorem Sim.write (x : Sim nm K p h H) {r : Nat} {a : Addr} {u : HO} {o : O} (hr : p[r]? = some a) (mu : Mut (H a)) (n : RO nm K p (upd H a u) o a) : Sim nm K p (h.set r o) (upd H a u) := by
  refine ⟨by simp [x.len], x.nd, fun i o' b e q => ?_⟩
  by_cases hi : r = i
  · subst hi
    rw [hr] at q
    cases q
    have hlt : r < h.length := by rw [← x.len]; exact (List.getElem?_eq_some_iff.mp hr).1
    rw [List.getElem?_set_self hlt] at e
    cases e
    exact n
  · rw [List.getElem?_set_ne hi] at e
    refine (x.at_ i o' b e q).mono (List.prefix_refl p) (Kp.write mu) (upd_ne fun z => ?_)
    subst z
    exact hi (nodup_inj x.nd hr q)
end
end M2

namespace M2
open PySem PySem.Spec PyProof.Rows L2
/-! ### lists are frozen: a step of the abstract heap alone -/
/-- some things are known from now on -/
def Lkd (as : List Addr) (H H' : Hp) : Prop := (∀ b ∈ as, ∃ u o, H b = some u ∧ H' b = some (.frz o u)) ∧ ∀ b, b ∉ as → H' b = H b
/-- Q, behind a freeze -/
def LkP (Q : Hp → Prop) (H : Hp) : Prop := ∃ as : List Addr, as.Nodup ∧ (∀ a ∈ as, ∃ u, H a = some u ∧ Mut (some u)) ∧ ∀ H', Lkd as H H' → Q H'
theorem LkP.of {Q : Hp → Prop} {H : Hp} (h : Q H) : LkP Q H := ⟨[], .nil, (fun _ z => nomatch z), fun H' l => by
  have : H' = H := funext fun b => l.2 b (by simp)
  rw [this]; exact h⟩
theorem LkP.one {Q : Hp → Prop} {H : Hp} {a : Addr} {u : HO} (e : H a = some u) (mu : Mut (some u)) (h : ∀ o, Q (upd H a (.frz o u))) : LkP Q H := by
  refine ⟨[a], by simp, fun b hb => ?_, fun H' l => ?_⟩
  · have : b = a := by simpa using hb
    subst this
    exact ⟨u, e, mu⟩
  · obtain ⟨v, o, e1, e2⟩ := l.1 a (by simp)
    rw [e] at e1
    cases e1
    have : H' = upd H a (.frz o u) := funext fun b => by
      by_cases hb : b = a
      · rw [hb, upd_same, e2]
      · rw [upd_ne hb]; exact l.2 b (by simpa using hb)
    rw [this]
    exact h o
section
variable {X : L2.Cx} {pins : List (Addr × Obj)} {σ : Sg} {s : Shared}
theorem Inv.lockAll : ∀ {as : List Addr} {H : Hp}, Inv X pins σ H s → as.Nodup → (∀ a ∈ as, ∃ u, H a = some u ∧ Mut (some u)) → ∃ H', Lkd as H H' ∧ Inv X pins σ H' s
  | [], H, I, _, _ => ⟨H, ⟨(fun _ z => nomatch z), fun _ _ => rfl⟩, I⟩
  | a :: as, H, I, nd, hm => by
    have nd' := List.nodup_cons.mp nd
    obtain ⟨u, e, mu⟩ := hm a (by simp)
    obtain ⟨o, I1⟩ := I.lock e mu
    have ne : ∀ b ∈ as, b ≠ a := fun b hb z => nd'.1 (z ▸ hb)
    obtain ⟨H', l, I2⟩ := Inv.lockAll (as := as) I1 nd'.2 fun b hb => by
      obtain ⟨v, e1, m1⟩ := hm b (by simp [hb])
      exact ⟨v, by rw [upd_ne (ne b hb)]; exact e1, m1⟩
    refine ⟨H', ⟨fun b hb => ?_, fun b hb => ?_⟩, I2⟩
    · rcases List.mem_cons.mp hb with rfl | hb
      · exact ⟨u, o, e, by rw [l.2 b nd'.1, upd_same]⟩
      · obtain ⟨v, o', e1, e2⟩ := l.1 b hb
        rw [upd_ne (ne b hb)] at e1
        exact ⟨v, o', e1, e2⟩
    · simp only [List.mem_cons, not_or] at hb
      rw [l.2 b hb.2, upd_ne hb.1]
theorem LkP.run {Q : Hp → Prop} {H : Hp} (I : Inv X pins σ H s) (h : LkP Q H) : ∃ H', Inv X pins σ H' s ∧ Q H' := by
  obtain ⟨as, nd, hm, k⟩ := h
  obtain ⟨H', l, I'⟩ := Inv.lockAll I nd hm
  exact ⟨H', I', k H' l⟩
def LkV (Q : VK) : VK := fun v H => LkP (Q v) H
theorem ep_lock {Q : VK} {u : Value} {s' : Shared} (h : EP X pins σ (LkV Q) u s') : EP X pins σ Q u s' := by
  obtain ⟨v, H', I, r, q⟩ := h
  obtain ⟨H2, I2, q2⟩ := q.run I
  exact ⟨v, H2, I2, r, q2⟩
theorem sp_lock {D : Ends} {f : Flow} {s' : Shared} (h : SP X pins { D with nx := fun σ' H' => LkP (D.nx σ') H', rt := LkV D.rt } f s') : SP X pins D f s' := by
  cases f with
  | next =>
    obtain ⟨σ', H', I, q⟩ := h
    obtain ⟨H2, I2, q2⟩ := q.run I
    exact ⟨σ', H2, I2, q2⟩
  | brk => exact h
  | cont => exact h
  | ret u =>
    obtain ⟨v, σ', H', I, r, q⟩ := h
    obtain ⟨H2, I2, q2⟩ := q.run I
    exact ⟨v, σ', H2, I2, r, q2⟩
theorem pe_frz {e : Expr} {t : TE} (h : PE X e t) : PE X e (fun σ H Q => t σ H (LkV Q)) := ⟨fun pins s σ H Q I q => thn (h.run pins s σ H _ I q) fun _ _ z => ep_lock z⟩
theorem ps_frz {e : Stmt} {t : TS} (h : PS X e t) : PS X e (fun D σ H => t { D with nx := fun σ' H' => LkP (D.nx σ') H', rt := LkV D.rt } σ H) := ⟨fun pins s σ H D I q => thn (h.run pins s σ H _ I q) fun _ _ z => sp_lock z⟩
theorem pss_frz {e : List Stmt} {t : TS} (h : PSs X e t) : PSs X e (fun D σ H => t { D with nx := fun σ' H' => LkP (D.nx σ') H', rt := LkV D.rt } σ H) := ⟨fun pins s σ H D I q => thn (h.run pins s σ H _ I q) fun _ _ z => sp_lock z⟩
end
section
variable {nm : Nm} {K : PySem.W.Frag} {p : List Addr} {H : Hp} {h : Hm}
/-- a new list, frozen at once, is beside the trees -/
theorem Xt.frozen {a : Addr} {o : Obj} {u : HO} (ha : H a = none) : Xt K p H p (upd (upd H a u) a (.frz o u)) := by
  rw [upd_upd]; exact Xt.beside ha
end
end M2

namespace M2
open PySem PySem.Spec PyProof.Rows L2
/-! ### what an end says of the model -/
/-- a raised error: its class, its own dict -/
def XR (nm : Nm) (K : PySem.W.Frag) (p : List Addr) (H : Hp) (c : Nat) (ws : List W) (d : Option Addr) : Prop :=
  ∃ vs, RWs K p H ws vs ∧ (match ws with
    | [] => d = none
    | _ => ∃ dd, d = some dd ∧ H dd = some (.xd ((nm.xf c).zip vs)))
/-- the ends of a value of any kind, related by G -/
def Ok {A B : Type} (nm : Nm) (K : PySem.W.Frag) (Ek : XK) (G : List Addr → Hp → A → B → Prop) (p : List Addr) (H : Hp) (r : R A) (Q : B → Hp → Prop) : Prop := match r with
  | .ok a h' => ∀ p' H' b, Xt K p H p' H' → Sim nm K p' h' H' → G p' H' a b → Q b H'
  | .exc c ws h' => ∀ p' H' d, Xt K p H p' H' → Sim nm K p' h' H' → XR nm K p' H' c ws d → Ek (.ref (nm.cls c)) d H'
  | .bad => False
section
variable {A B A' B' : Type} {nm : Nm} {K : PySem.W.Frag} {Ek : XK} {G : List Addr → Hp → A → B → Prop} {G' : List Addr → Hp → A' → B' → Prop} {p p1 : List Addr} {H H1 : Hp}
theorem Ok.from {r : R A} {Q : B → Hp → Prop} (x : Xt K p H p1 H1) (h : Ok nm K Ek G p H r Q) : Ok nm K Ek G p1 H1 r Q := by
  cases r with
  | ok a h' => exact fun p' H' b x' s' g => h p' H' b (x.trans x') s' g
  | exc c ws h' => exact fun p' H' d x' s' g => h p' H' d (x.trans x') s' g
  | bad => exact h
/-- one part, then the next -/
theorem Ok.then {r : R A} {k : A → Hm → R A'} {Q : B' → Hp → Prop} {Q' : B → Hp → Prop} (h : Ok nm K Ek G' p H (r.then k) Q)
    (hk : ∀ a h1 p1 H1 b, r = .ok a h1 → Xt K p H p1 H1 → Sim nm K p1 h1 H1 → G p1 H1 a b → Ok nm K Ek G' p1 H1 (k a h1) Q → Q' b H1) : Ok nm K Ek G p H r Q' := by
  cases r with
  | ok a h' => exact fun p' H' b x' s' g => hk a h' p' H' b rfl x' s' g (Ok.from x' h)
  | exc c ws h' => exact h
  | bad => exact h
end
abbrev GV (K : PySem.W.Frag) : List Addr → Hp → W → V → Prop := fun p H w v => RW K p H w v
abbrev GL (K : PySem.W.Frag) : List Addr → Hp → List W → List V → Prop := fun p H w v => RWs K p H w v
abbrev GB : List Addr → Hp → Bool → Bool → Prop := fun _ _ a b => a = b
/-- a raw row: a list or a tuple with these items, wherever it stands -/
abbrev GR (K : PySem.W.Frag) : List Addr → Hp → List W → V → Prop := fun p H w v => ∃ a vs, v = .ref a ∧ (SqL K H a vs ∨ SqT K H a vs) ∧ RWs K p H w vs
section
variable (nm : Nm) (K : PySem.W.Frag) (Ek : XK)
def tV (ev : DV) : TE := fun σ H Q => ∃ p s h, Sim nm K p h H ∧ Er K p H s σ ∧ Ok nm K Ek (GV K) p H (ev s h) Q
def tR (ev : DL) : TE := fun σ H Q => ∃ p s h, Sim nm K p h H ∧ Er K p H s σ ∧ Ok nm K Ek (GR K) p H (ev s h) Q
def tB (ev : DT) : TT := fun σ H Q => ∃ p s h, Sim nm K p h H ∧ Er K p H s σ ∧ Ok nm K Ek GB p H (ev s h) Q
def tLs (ev : DL) : TA := fun σ H Q => ∃ p s h, Sim nm K p h H ∧ Er K p H s σ ∧ Ok nm K Ek (GL K) p H (ev s h) Q
/-- an operator by trees -/
def rOp (f : W → W → Hm → R W) : R2 := fun x y H Q => ∃ p h a b, Sim nm K p h H ∧ RW K p H a x ∧ RW K p H b y ∧ Ok nm K Ek (GV K) p H (f a b h) Q
/-- a function of a row of values -/
def rFn (f : List W → Hm → R W) : List V → Hp → VK → Prop := fun xs H Q => ∃ p h ws, Sim nm K p h H ∧ RWs K p H ws xs ∧ Ok nm K Ek (GV K) p H (f ws h) Q
end
theorem PEi {X : L2.Cx} {e : Expr} {t t' : TE} (h : PE X e t) (i : ∀ σ H Q, t' σ H Q → t σ H Q) : PE X e t' := ⟨fun pins s σ H Q I q => h.run pins s σ H Q I (i σ H Q q)⟩
theorem PTi {X : L2.Cx} {e : Expr} {t t' : TT} (h : PT X e t) (i : ∀ σ H Q, t' σ H Q → t σ H Q) : PT X e t' := ⟨fun pins s σ H Q I q => h.run pins s σ H Q I (i σ H Q q)⟩
theorem PAi {X : L2.Cx} {es : List Expr} {t t' : TA} (h : PA X es t) (i : ∀ σ H Q, t' σ H Q → t σ H Q) : PA X es t' := ⟨fun pos pins s σ H Q I q => h.run pos pins s σ H Q I (i σ H Q q)⟩
theorem PSi {X : L2.Cx} {e : Stmt} {t t' : TS} (h : PS X e t) (i : ∀ D σ H, t' D σ H → t D σ H) : PS X e t' := ⟨fun pins s σ H D I q => h.run pins s σ H D I (i D σ H q)⟩
theorem PSsi {X : L2.Cx} {e : List Stmt} {t t' : TS} (h : PSs X e t) (i : ∀ D σ H, t' D σ H → t D σ H) : PSs X e t' := ⟨fun pins s σ H D I q => h.run pins s σ H D I (i D σ H q)⟩
section
variable {nm : Nm} {X : L2.Cx} {Ek : XK}
/-! ### two values, an operator -/
theorem tOp_of {da db : DV} {f : W → W → Hm → R W} {σ : Sg} {H : Hp} {Q : VK} (h : tV nm X.K Ek (fun s h => (da s h).then fun x h1 => (db s h1).then fun y h2 => f x y h2) σ H Q) :
    tOp (rOp nm X.K Ek f) (tV nm X.K Ek da) (tV nm X.K Ek db) σ H Q := by
  obtain ⟨p, s, h, si, er, ok⟩ := h
  refine ⟨p, s, h, si, er, ok.then fun w h1 p1 H1 x _ x1 s1 r1 ok1 => ⟨p1, s, h1, s1, er.mono x1, ok1.then fun w2 h2 p2 H2 y _ x2 s2 r2 ok2 => ⟨p2, h2, w, w2, s2, r1.to x2, r2, ok2⟩⟩⟩
theorem e_bin {op : Operator} {a b : Expr} {pos : Pos} {da db : DV} {f : W → W → Hm → R W} (ho : OpR X (binaryOp op) (rOp nm X.K Ek f)) (ha : PE X a (tV nm X.K Ek da)) (hb : PE X b (tV nm X.K Ek db)) :
    PE X (.BinOp a op b pos) (tV nm X.K Ek fun s h => (da s h).then fun x h1 => (db s h1).then fun y h2 => f x y h2) := PEi (pe_op ho ha hb) fun _ _ _ => tOp_of
theorem e_cmp {op : CmpOp} {a b : Expr} {pos : Pos} {da db : DV} {f : W → W → Hm → R W} (ho : OpR X (compareOp op) (rOp nm X.K Ek f)) (ha : PE X a (tV nm X.K Ek da)) (hb : PE X b (tV nm X.K Ek db)) (hm : behindInMarks op b = false) :
    PE X (.Compare a [op] [b] pos) (tV nm X.K Ek fun s h => (da s h).then fun x h1 => (db s h1).then fun y h2 => f x y h2) := PEi (pe_cmpR ho ha hb hm) fun _ _ _ => tOp_of
theorem e_sub {a b : Expr} {pos : Pos} {da db : DV} {f : W → W → Hm → R W} (ho : IxR X (rOp nm X.K Ek f)) (ha : PE X a (tV nm X.K Ek da)) (hb : PE X b (tV nm X.K Ek db)) (hs : PlainIx b) :
    PE X (.Subscript a b pos) (tV nm X.K Ek fun s h => (da s h).then fun x h1 => (db s h1).then fun y h2 => f x y h2) := PEi (pe_ix ho ha hb hs) fun _ _ _ => tOp_of
theorem e_cmp2 {op op' : CmpOp} {a b c : Expr} {pos : Pos} {da db dc : DV} {f : W → W → Hm → R W} {o' : Cop} (ho : OpR X (compareOp op) (rOp nm X.K Ek f)) (ho' : OpR X (compareOp op') (rOp nm X.K Ek (cmpop o')))
    (ha : PE X a (tV nm X.K Ek da)) (hb : PE X b (tV nm X.K Ek db)) (hc : PE X c (tV nm X.K Ek dc)) (hm : lastMarks [op, op'] [b, c] = false) :
    PE X (.Compare a [op, op'] [b, c] pos) (tV nm X.K Ek fun s h => (da s h).then fun x h1 => (db s h1).then fun y h2 => (f x y h2).then (chainV o' y (dc s))) := by
  refine PEi (pe_chain ho ho' ha hb hc hm) fun σ H Q ⟨p, s, h, si, er, ok⟩ => ?_
  refine ⟨p, s, h, si, er, ok.then fun w h1 p1 H1 x _ x1 s1 r1 ok1 => ⟨p1, s, h1, s1, er.mono x1, ok1.then fun w2 h2 p2 H2 y _ x2 s2 r2 ok2 => ?_⟩⟩
  refine ⟨p2, h2, w, w2, s2, r1.to x2, r2, ok2.then fun w3 h3 p3 H3 z _ x3 s3 r3 ok3 => ?_⟩
  cases r3 with
  | bl k =>
    refine ⟨k, rfl, ?_⟩
    cases k with
    | true =>
      rw [if_pos rfl]
      exact ⟨p3, s, h3, s3, ((er.mono x1).mono x2).mono x3, ok3.then fun w4 h4 p4 H4 u _ x4 s4 r4 ok4 => ⟨p4, h4, w2, w4, s4, (r2.to x3).to x4, r4, ok4⟩⟩
    | false =>
      rw [if_neg Bool.false_ne_true]
      exact ok3 p3 H3 _ Xt.refl s3 (.bl false)
  | _ => exact ok3.elim
/-! ### constants, names -/
theorem e_con {e : Expr} {v : V} {w : W} (h : PE X e (tC v)) (r : ∀ p H, RW X.K p H w v) : PE X e (tV nm X.K Ek fun _ h => .ok w h) :=
  PEi h fun _ H _ ⟨p, _, _, si, _, ok⟩ => ok p H v Xt.refl si (r p H)
theorem e_var {i : Nat} {x : Str} {pos : Pos} (hN : X.N[i]? = some x) (hv : Vis X.env.scope x) (hd : (x == ("__debug__" : Str)) = false) (hcd : (x == ("__classdict__" : Str)) = false) : PE X (.Name x pos) (tV nm X.K Ek (varV i)) := by
  refine PEi (pe_var hN hv hd hcd) fun σ H Q ⟨p, s, h, si, er, ok⟩ => ?_
  unfold varV at ok
  cases e : s[i]? with
  | none => rw [e] at ok; exact ok.elim
  | some o =>
    cases o with
    | none => rw [e] at ok; exact ok.elim
    | some w =>
      rw [e] at ok
      obtain ⟨v, a, b⟩ := er.at_ i w e
      exact ⟨v, a, ok p H v Xt.refl si b⟩
/-! ### rows of values -/
theorem a_nil : PA X [] (tLs nm X.K Ek fun _ h => .ok [] h) := PAi pa_nil fun _ H _ ⟨p, _, _, si, _, ok⟩ => ok p H [] Xt.refl si .nil
theorem a_cons {e : Expr} {es : List Expr} {da : DV} {db : DL} (ha : PE X e (tV nm X.K Ek da)) (hb : PA X es (tLs nm X.K Ek db)) (hs : starEach (e :: es) X.env = (false, eval e X.env) :: starEach es X.env) :
    PA X (e :: es) (tLs nm X.K Ek fun s h => (da s h).then fun x h1 => (db s h1).then fun ws h2 => .ok (x :: ws) h2) := by
  refine PAi (pa_cons ha hb hs) fun σ H Q ⟨p, s, h, si, er, ok⟩ => ?_
  refine ⟨p, s, h, si, er, ok.then fun w h1 p1 H1 x _ x1 s1 r1 ok1 => ⟨p1, s, h1, s1, er.mono x1, ok1.then fun w2 h2 p2 H2 y _ x2 s2 r2 ok2 => ?_⟩⟩
  exact ok2 p2 H2 _ Xt.refl s2 (.cons (r1.to x2) r2)
/-! ### tests, and, or, not, if -/
theorem TruV_of {p : List Addr} {h : Hm} {H : Hp} {w : W} {v : V} {b : Bool} (si : Sim nm X.K p h H) (r : RW X.K p H w v) (e : truth h w = some b) : TruV X.K v H b := by
  cases r with
  | non => cases e; rfl
  | bl b => cases e; rfl
  | int i => cases e; rfl
  | str l =>
    simp only [truth] at e
    split at e
    · rename_i hl
      cases e
      refine ⟨by show (⟨l.toArray⟩ : Str).length ≤ sizeLine; simpa [Str.length, sizeLine_eq, line] using hl, ?_⟩
      show (!l.isEmpty) = (((⟨l.toArray⟩ : Str).length : Int) != 0)
      cases l with
      | nil => rfl
      | cons c l =>
        have : ((((⟨(c :: l).toArray⟩ : Str).length : Nat) : Int) != 0) = true := by simp [Str.length]; omega
        rw [this]; rfl
    · cases e
  | tup h q => cases e; exact .inr (.inl ⟨_, h, by cases q <;> rfl⟩)
  | kl h q => cases e; exact .inl ⟨_, h.sq, by cases q <;> rfl⟩
  | ref hr =>
    simp only [truth] at e
    split at e
    · rename_i l q
      cases e
      obtain ⟨a, e1, vs, e2, q2⟩ := si.get q
      rw [hr] at e1; cases e1
      exact .inl ⟨vs, SqL.of e2, by cases q2 <;> rfl⟩
    · rename_i l q
      cases e
      obtain ⟨a, e1, vs, e2, q2⟩ := si.get q
      rw [hr] at e1; cases e1
      exact .inr (.inr ⟨vs, e2, by cases q2 <;> rfl⟩)
    · cases e
end
end M2

namespace M2
open PySem PySem.Spec PyProof.Rows L2
/-! ### lists whatever slots they have -/
theorem w_mul (l : Addr) (items : Array Value) (n : Nat) (dd : Option Addr) (sl : Array (Option Value)) (x : Int) (u : Tok) (c0 : ¬(!Builtin.List.listFitsIndex x) = true) (c1 : ¬items.size * x.toNat > (2 ^ 63 - 1) / 8) (c2 : ¬Builtin.List.listTooLong (items.size * x.toNat) = true) :
    Meets (Builtin.«list.__mul__» ⟨[.ref l, .int x u], []⟩) (fun _ G s => s.heap.get? l = some { cls := .type "list", dict := dd, data := .seq items n, slots := sl } ∧ G (.ok (.ret (Value.ref s.heap.objs.size))) { s with heap := s.heap.push { cls := Value.type "list", data := Data.seq (List.foldl (fun y z => y ++ z) #[] (List.replicate (if items.isEmpty = true then 0 else x.toNat) items)) }, toks := s.toks }) :=
  .of_wp fun prog w A G s h => by
    obtain ⟨hp, g, d, tk, os⟩ := s
    obtain ⟨e, h⟩ := h
    have z := AutoListH.joined_fits c2
    wp_walk using AutoSeq1.wpAny_loadPart' e
    refine wpAny_ite_false (decide_eq_false (Nat.not_lt.mpr z)) ?_
    wp_walk using AutoSeq1.wpAny_loadPart' e
    exact ⟨_, rfl, h⟩
theorem w_rmul (k : Int) (t : Tok) (l : Addr) (items : Array Value) (n : Nat) (dd : Option Addr) (sl : Array (Option Value)) :
    Meets (Builtin.«int.__rmul__» ⟨[.int k t, .ref l], []⟩) (fun _ G s => s.heap.get? l = some { cls := .type "list", dict := dd, data := .seq items n, slots := sl } ∧ G (.ok (.ret Value.notImplemented)) s) :=
  .of_wp fun prog w A G s h => by
    obtain ⟨hp, g, d, tk, os⟩ := s
    obtain ⟨e, h⟩ := h
    wp_walk using AutoSeq1.wpAny_loadPart' e
    exact ⟨_, rfl, h⟩
theorem w_extend (l : Addr) (items : Array Value) (n : Nat) (b : Addr) (items2 : Array Value) (n2 : Nat) (dd : Option Addr) (sl : Array (Option Value)) (c0 : ¬(!items.isEmpty && Builtin.List.listTooLong (items.size + items2.size)) = true) (c1 : items.size ≤ sizeLine) (c2 : items.size + items2.size ≤ sizeLine + 1) :
    Meets (Builtin.«list.extend» ⟨[.ref l, .ref b], []⟩) (fun _ G s => s.heap.get? l = some { cls := .type "list", dict := none, data := .seq items n, slots := #[] } ∧ s.heap.get? b = some { cls := .type "list", dict := dd, data := .seq items2 n2, slots := sl } ∧ G (.ok (.ret Value.none)) { s with heap := s.heap.update l (Obj.mapSeq fun y => y ++ items2), toks := s.toks }) :=
  .of_wp fun prog w A G s h => by
    obtain ⟨hp, g, d, tk, os⟩ := s
    obtain ⟨e1, e2, h⟩ := h
    have f1 := AutoSeq1.idx_int
    have f2 := AutoSeq1.sub_tuple_tuple
    have f3 := AutoSeq1.sub_list_list
    have f4 := AutoSeq1.sub_tuple_list
    have f5 := AutoSeq1.sub_list_tuple
    have z : (items ++ items2).size ≤ sizeLine + 1 := by rw [Array.size_append]; exact c2
    wp_walk using (wpAny_updateSeq e1 rfl (hz := c1) (_hz' := z)), AutoSeq1.wpAny_loadPart' e1, AutoSeq1.wpAny_loadPart' e2
    exact ⟨_, rfl, h⟩
end M2

namespace M2
open PySem PySem.Spec PyProof.Rows L2
theorem line_eq : line = sizeLine := by rw [sizeLine_eq]; rfl
abbrev st (l : List Nat) : Str := ⟨l.toArray⟩
theorem st_len (l : List Nat) : (st l).length = l.length := by simp [Str.length]
theorem st_tl (l : List Nat) : (st l).cps.toList = l := by simp
theorem st_app (a b : List Nat) : st a ++ st b = st (a ++ b) := by
  show Str.append (st a) (st b) = st (a ++ b)
  simp [Str.append]
theorem st_inj {a b : List Nat} (h : st a = st b) : a = b := by
  have := congrArg (fun x : Str => x.cps.toList) h
  simpa using this
theorem st_of (z : Str) : st z.cps.toList = z := by cases z; simp
section
variable {nm : Nm} {X : L2.Cx} {Ek : XK} {K : PySem.W.Frag} {p : List Addr} {H : Hp} {h : Hm}
theorem Sim.lst (si : Sim nm K p h H) {r : Nat} {a : Addr} {l : List W} (hr : p[r]? = some a) (e : h[r]? = some (.lst l)) : ∃ vs, H a = some (.lst vs) ∧ RWs K p H l vs := by
  obtain ⟨b, e1, q⟩ := si.get e
  rw [hr] at e1; cases e1
  exact q
theorem asL_lst {r : Nat} {l : List W} (e : asL h r = some l) : h[r]? = some (.lst l) := by
  unfold asL at e
  split at e
  · rename_i m q; cases e; exact q
  · cases e
/-- a new list -/
theorem new_lst {l : List W} {vs : List V} {Q : VK} (si : Sim nm K p h H) (q : RWs K p H l vs) (ok : Ok nm K Ek (GV K) p H (alloc (.lst l) h) Q) : ∀ a, H a = none → Q (.ref a) (upd H a (.lst vs)) := fun a ha =>
  ok (p ++ [a]) _ _ (Xt.laid ha) (si.laid ha ⟨vs, upd_same, q.to (Xt.laid ha)⟩) (.ref (by rw [← si.len]; simp))
theorem new_tup {l : List W} {vs : List V} {Q : VK} (si : Sim nm K p h H) (q : RWs K p H l vs) (ok : Ok nm K Ek (GV K) p H (.ok (.tup l) h) Q) : ∀ a, H a = none → Q (.ref a) (upd H a (.tup vs)) := fun a ha =>
  ok p _ _ (Xt.beside ha) (si.beside ha) (.tup (SqT.of upd_same) (q.to (Xt.beside ha)))
/-- a new list, frozen at once -/
theorem new_kl {l : List W} {vs : List V} {Q : VK} (si : Sim nm K p h H) (q : RWs K p H l vs) (ok : Ok nm K Ek (GV K) p H (.ok (.kl l) h) Q) : ∀ a, H a = none → LkV Q (.ref a) (upd H a (.lst vs)) := fun a ha => by
  refine LkP.one upd_same trivial fun o => ?_
  rw [upd_upd]
  exact ok p _ _ (Xt.beside ha) (si.beside ha) (.kl (.inl ⟨o, upd_same⟩) (q.to (Xt.beside ha)))
theorem opr_frz {f : Value → Value → Sem Value} {r : R2} (h : OpR X f r) : OpR X f (fun x y H Q => r x y H (LkV Q)) := fun pins s σ H x y v u Q I rx ry q => thn (h pins s σ H x y v u _ I rx ry q) fun _ _ z => ep_lock z
theorem opr_or {f : Value → Value → Sem Value} {r r' : R2} (h : OpR X f r) (h' : OpR X f r') : OpR X f (fun x y H Q => r x y H Q ∨ r' x y H Q) := fun pins s σ H x y v u Q I rx ry q => q.elim (h pins s σ H x y v u _ I rx ry) (h' pins s σ H x y v u _ I rx ry)
theorem lsO_sq {w : W} {v : V} {l : List W} (si : Sim nm K p h H) (r : RW K p H w v) (e : lsO h w = some l) : ∃ a vs, v = .ref a ∧ SqL K H a vs ∧ RWs K p H l vs := by
  cases r with
  | ref hr => obtain ⟨vs, h1, q⟩ := si.lst hr (asL_lst e); exact ⟨_, vs, rfl, SqL.of h1, q⟩
  | kl hl ql => cases e; exact ⟨_, _, rfl, hl.sq, ql⟩
  | _ => cases e
/-- a list's object, as it stands -/
theorem lsO_ob {pins : List (Addr × Obj)} {σ : Sg} {s : Shared} {w : W} {v : V} {l : List W} (I : Inv X pins σ H s) (si : Sim nm X.K p h H) (r : RW X.K p H w v) (e : lsO h w = some l) :
    ∃ a vs its n dd sl, v = .ref a ∧ RWs X.K p H l vs ∧ Vals vs its ∧ its.length ≤ sizeLine ∧ s.heap.get? a = some { cls := .type "list", dict := dd, data := .seq its.toArray n, slots := sl } := by
  obtain ⟨a, vs, rfl, sq, q⟩ := lsO_sq si r e
  obtain ⟨its, t, ⟨⟨cl, dd, da, sl⟩, n, ho, hc, hd, hs⟩, hz⟩ := I.list sq
  simp only at hc hd hs
  subst hc hs
  exact ⟨a, vs, its, n, dd, sl, rfl, q, t, by rw [← t.length]; exact hz, ho⟩
/-- two lists behind one another -/
def rCatX (nm : Nm) (K : PySem.W.Frag) : R2 := fun x y H Q => ∃ p h a b, Sim nm K p h H ∧ RW K p H a x ∧ RW K p H b y ∧ ∃ l m, lsO h a = some l ∧ lsO h b = some m ∧ l.length + m.length ≤ line ∧ ∀ vs us d, RWs K p H l vs → RWs K p H m us → H d = none → Q (.ref d) (upd H d (.lst (vs ++ us)))
theorem op_catX : OpR X (binaryOp .Add) (rCatX nm X.K) := by
  rintro pins s σ H x y v u Q I rv ru ⟨p, h, wa, wb, si, ra, rb, l, m, e1, e2, hz, q⟩
  obtain ⟨a, vs, its, n, d1, sl1, rfl, q1, t1, z1, o1⟩ := lsO_ob I si ra e1
  obtain ⟨b, us, its2, n2, d2, sl2, rfl, q2, t2, z2, o2⟩ := lsO_ob I si rb e2
  cases rv
  cases ru
  have hlen : its.length + its2.length ≤ sizeLine := by rw [← t1.length, ← t2.length, ← q1.length, ← q2.length, ← line_eq]; exact hz
  refine concat_meets ⟨_, o1, rfl⟩ ⟨_, o2, rfl⟩ noFill_list_add seq_list_add PySem.F.slot_list_add PySem.F.entry_list_add (PySem.F.args_list_add_2 _ _) (list_addW a b its.toArray its2.toArray n n2 d1 d2 sl1 sl2 (by simpa using hlen)) ⟨o1, o2, ?_⟩
  have both : its.toArray ++ its2.toArray = (its ++ its2).toArray := by simp
  rw [both]
  exact ⟨.ref _, _, I.lnew (t' := s.toks) (t1.append t2) (by rw [(t1.append t2).length, List.length_append]; exact hlen), rfl, q vs us _ q1 q2 I.fresh⟩
/-- a list so many times -/
def rRepX (nm : Nm) (K : PySem.W.Frag) : R2 := fun x y H Q => ∃ p h a k, Sim nm K p h H ∧ RW K p H a x ∧ y = .int k ∧ ∃ l, lsO h a = some l ∧ (-(2 ^ 63) ≤ k ∧ k < 2 ^ 63 ∧ l.length * k.toNat ≤ line) ∧ ∀ vs d, RWs K p H l vs → H d = none → Q (.ref d) (upd H d (.lst (List.replicate k.toNat vs).flatten))
theorem op_repX : OpR X (binaryOp .Mult) (rRepX nm X.K) := by
  rintro pins s σ H x y v u Q I rv ru ⟨p, h, wa, k, si, ra, rfl, l, e1, ⟨h1, h2, h3⟩, q⟩
  obtain ⟨a, vs, its, n, dd, sl, rfl, q1, t1, z1, e⟩ := lsO_ob I si ra e1
  cases rv
  obtain ⟨tk, rfl⟩ := ru
  have hn : its.toArray.size * k.toNat ≤ sizeLine := by rw [List.size_toArray, ← t1.length, ← q1.length, ← line_eq]; exact h3
  have c1 : ¬ its.toArray.size * k.toNat > (2 ^ 63 - 1) / 8 := by
    have big : (sizeLine : Nat) ≤ (2 ^ 63 - 1) / 8 := by decide
    omega
  have c2 : ¬ (!Builtin.List.listFitsIndex k) = true := fun z => by rw [fitsIndex_both h1 h2] at z; exact Bool.false_ne_true z
  have c3 : ¬ Builtin.List.listTooLong (its.toArray.size * k.toNat) = true := fun z => by rw [notLongL hn] at z; exact Bool.false_ne_true z
  have all : List.foldl (fun a b => a ++ b) #[] (List.replicate (if its.toArray.isEmpty = true then 0 else k.toNat) its.toArray) = (List.replicate k.toNat its).flatten.toArray := by
    have go : ∀ m : Nat, List.foldl (fun a b => a ++ b) #[] (List.replicate m its.toArray) = (List.replicate m its).flatten.toArray := fun m => (foldl_rep its m []).trans (by rw [List.nil_append])
    rw [go]
    cases its with
    | nil => simp
    | cons y r => rw [if_neg (by simp)]
  refine wpAny_binaryOp_repeat_ref (T := "list") (U := "int") (by decide) ⟨_, e, rfl⟩ (fun s1 => typeIs_int s1 k tk) noFill_list_mul F.fills_int_mul F.slot_int_rmul repeat_list F.slot_int_index.lookup
    (call_meets F.slot_int_rmul (typeIs_int s k tk) F.entry_int_rmul (F.args_int_rmul_2 _ _) (w_rmul k tk a its.toArray n dd sl) ⟨e, rfl, ⟨_, e, rfl⟩, call_meets F.slot_list_mul ⟨_, e, rfl⟩ F.entry_list_mul (F.args_list_mul_2 _ _) (w_mul a its.toArray n dd sl k tk c2 c1 c3) ⟨e, ?_⟩⟩)
  rw [all]
  refine ⟨.ref _, _, I.lnew (t' := s.toks) (t1.rep k.toNat) ?_, rfl, q vs _ q1 I.fresh⟩
  rw [PyProof.Rows.lm_len_rep_flat, Nat.mul_comm, t1.length]
  simpa using hn
theorem opr_add : OpR X (binaryOp .Add) (rOp nm X.K Ek (binop .add)) := by
  rintro pins s σ H x y v u Q I rv ru ⟨p, h, a, b, si, ra, rb, ok⟩
  cases ra with
  | int i =>
    cases rb with
    | int j => exact op_add pins s σ H _ _ v u Q I rv ru ⟨i, j, rfl, rfl, ok p H _ Xt.refl si (.int _)⟩
    | _ => exact ok.elim
  | str l =>
    cases rb with
    | str m =>
      simp only [binop] at ok
      split at ok
      · rename_i hl
        refine op_add_str pins s σ H _ _ v u Q I rv ru ⟨_, _, rfl, rfl, by rw [st_len, st_len, ← line_eq]; exact hl, ?_⟩
        rw [st_app]
        exact ok p H _ Xt.refl si (.str _)
      · exact ok.elim
    | _ => exact ok.elim
  | tup hl ql =>
    cases rb with
    | tup hm qm =>
      simp only [binop] at ok
      split at ok
      · rename_i hz
        refine op_catA pins s σ H _ _ v u Q I rv ru ⟨_, _, _, _, rfl, rfl, hl, hm, by rw [← ql.length, ← qm.length, ← line_eq]; exact hz, fun e => ?_, fun _ e => ?_, fun _ _ => new_tup si (ql.append qm) ok⟩
        · subst e
          cases ql
          exact ok p H _ Xt.refl si (.tup hm qm)
        · subst e
          cases qm
          refine ok p H _ Xt.refl si (.tup hl ?_)
          rw [List.append_nil]
          exact ql
      · exact ok.elim
    | _ => exact ok.elim
  | ref hr =>
    refine opr_frz op_catX pins s σ H _ _ v u Q I rv ru ⟨p, h, _, b, si, .ref hr, rb, ?_⟩
    simp only [binop] at ok
    split at ok
    · rename_i l m e1 e2
      split at ok
      · rename_i hz
        exact ⟨l, m, e1, e2, hz, fun q1 q2 a b c => new_kl si (b.append c) ok a⟩
      · exact ok.elim
    · exact ok.elim
  | kl hl ql =>
    refine opr_frz op_catX pins s σ H _ _ v u Q I rv ru ⟨p, h, _, b, si, .kl hl ql, rb, ?_⟩
    simp only [binop] at ok
    split at ok
    · rename_i l m e1 e2
      split at ok
      · rename_i hz
        exact ⟨l, m, e1, e2, hz, fun q1 q2 a b c => new_kl si (b.append c) ok a⟩
      · exact ok.elim
    · exact ok.elim
  | _ => exact ok.elim
/-- a new list of two, to be written -/
theorem opr_addN : OpR X (binaryOp .Add) (rOp nm X.K Ek fun x y h => (binop .add x y h).then thaw) := by
  rintro pins s σ H x y v u Q I rv ru ⟨p, h, a, b, si, ra, rb, ok⟩
  have go : ∀ {l m : List W}, lsO h a = some l → lsO h b = some m → Ok nm X.K Ek (GV X.K) p H ((if l.length + m.length ≤ line then (.ok (.kl (l ++ m)) h : M2.R W) else .bad).then thaw) Q → wpAny (model X.prog X.w) X.A (binaryOp .Add v u) (EP X pins σ Q) X.xe s := fun {l m} e1 e2 ok => by
    split at ok
    · rename_i hz
      exact op_catX pins s σ H _ _ v u Q I rv ru ⟨p, h, a, b, si, ra, rb, l, m, e1, e2, hz, fun q1 q2 d c1 c2 => new_lst si (c1.append c2) ok d⟩
    · exact ok.elim
  have no : Ok nm X.K Ek (GV X.K) p H ((match lsO h a, lsO h b with
    | some l, some m => if l.length + m.length ≤ line then (.ok (.kl (l ++ m)) h : M2.R W) else .bad
    | _, _ => .bad).then thaw) Q → wpAny (model X.prog X.w) X.A (binaryOp .Add v u) (EP X pins σ Q) X.xe s := fun ok => by
    split at ok
    · rename_i l m e1 e2; exact go e1 e2 ok
    · exact ok.elim
  cases ra with
  | int i => cases rb <;> exact ok.elim
  | str l =>
    cases rb with
    | str m =>
      simp only [binop] at ok
      split at ok <;> exact ok.elim
    | _ => exact ok.elim
  | tup hl ql =>
    cases rb with
    | tup hm qm =>
      simp only [binop] at ok
      split at ok <;> exact ok.elim
    | _ => exact ok.elim
  | ref hr => exact no ok
  | kl hl ql => exact no ok
  | _ => exact ok.elim
theorem opr_sub : OpR X (binaryOp .Sub) (rOp nm X.K Ek (binop .sub)) := by
  rintro pins s σ H x y v u Q I rv ru ⟨p, h, a, b, si, ra, rb, ok⟩
  cases ra with
  | int i =>
    cases rb with
    | int j => exact op_sub pins s σ H _ _ v u Q I rv ru ⟨i, j, rfl, rfl, ok p H _ Xt.refl si (.int _)⟩
    | _ => exact ok.elim
  | _ => exact ok.elim
theorem opr_mul : OpR X (binaryOp .Mult) (rOp nm X.K Ek (binop .mul)) := by
  rintro pins s σ H x y v u Q I rv ru ⟨p, h, a, b, si, ra, rb, ok⟩
  cases ra with
  | int i =>
    cases rb with
    | int j =>
      simp only [binop] at ok
      split at ok
      · rename_i hz
        exact op_mulW pins s σ H _ _ v u Q I rv ru ⟨i, j, rfl, rfl, hz, ok p H _ Xt.refl si (.int _)⟩
      · exact ok.elim
    | _ => exact ok.elim
  | ref hr =>
    cases rb with
    | int k =>
      simp only [binop] at ok
      split at ok
      · rename_i l e1
        split at ok
        · rename_i hz
          exact opr_frz op_repX pins s σ H _ _ v u Q I rv ru ⟨p, h, _, k, si, .ref hr, rfl, l, e1, hz, fun vs d q1 hd => new_kl si (q1.rep _) ok d hd⟩
        · exact ok.elim
      · exact ok.elim
    | _ => exact ok.elim
  | kl hl ql =>
    cases rb with
    | int k =>
      simp only [binop] at ok
      split at ok
      · rename_i l e1
        split at ok
        · rename_i hz
          exact opr_frz op_repX pins s σ H _ _ v u Q I rv ru ⟨p, h, _, k, si, .kl hl ql, rfl, l, e1, hz, fun vs d q1 hd => new_kl si (q1.rep _) ok d hd⟩
        · exact ok.elim
      · exact ok.elim
    | _ => exact ok.elim
  | _ => cases rb <;> exact ok.elim
theorem opr_fdiv : OpR X (binaryOp .FloorDiv) (rOp nm X.K Ek (binop .fdiv)) := by
  rintro pins s σ H x y v u Q I rv ru ⟨p, h, a, b, si, ra, rb, ok⟩
  cases ra with
  | int i =>
    cases rb with
    | int j =>
      simp only [binop] at ok
      split at ok
      · rename_i hz
        exact op_fdivW pins s σ H _ _ v u Q I rv ru ⟨i, j, rfl, rfl, hz, ok p H _ Xt.refl si (.int _)⟩
      · exact ok.elim
    | _ => exact ok.elim
  | _ => exact ok.elim
theorem opr_mod : OpR X (binaryOp .Mod) (rOp nm X.K Ek (binop .mod)) := by
  rintro pins s σ H x y v u Q I rv ru ⟨p, h, a, b, si, ra, rb, ok⟩
  cases ra with
  | int i =>
    cases rb with
    | int j =>
      simp only [binop] at ok
      split at ok
      · rename_i hz
        exact op_mod pins s σ H _ _ v u Q I rv ru ⟨i, j, rfl, rfl, hz, ok p H _ Xt.refl si (.int _)⟩
      · exact ok.elim
    | _ => exact ok.elim
  | _ => exact ok.elim
theorem opr_pow : OpR X (binaryOp .Pow) (rOp nm X.K Ek (binop .pow)) := by
  rintro pins s σ H x y v u Q I rv ru ⟨p, h, a, b, si, ra, rb, ok⟩
  cases ra with
  | int i =>
    cases rb with
    | int j =>
      simp only [binop] at ok
      split at ok
      · rename_i hz
        exact op_pow pins s σ H _ _ v u Q I rv ru ⟨i, j, rfl, rfl, hz, ok p H _ Xt.refl si (.int _)⟩
      · exact ok.elim
    | _ => exact ok.elim
  | _ => exact ok.elim
theorem opr_bin {o : PySem.Operator} {b : Bop} (e : bopOf o = some b) : OpR X (binaryOp o) (rOp nm X.K Ek (binop b)) := by
  cases o <;> first
    | (cases e; first | exact opr_add | exact opr_sub | exact opr_mul | exact opr_fdiv | exact opr_mod | exact opr_pow)
    | cases e
end
/-! ### == -/
def pairAt (f : W → W → Option Bool) (l m : List W) (j : Nat) : Bool := match l[j]?, m[j]? with
  | some x, some y => (f x y).getD false
  | _, _ => false
theorem allEq_some (f : W → W → Option Bool) : ∀ (l m : List W) (b : Bool), allEq f l m = some b →
    (∀ (j : Nat) x y, l[j]? = some x → m[j]? = some y → ∃ c, f x y = some c) ∧ ((List.range (min l.length m.length)).all (pairAt f l m) && l.length == m.length) = b
  | [], [], b, e => by cases e; exact ⟨fun j x y h => by simp at h, rfl⟩
  | [], _ :: m, b, e => by cases e; exact ⟨fun j x y h => by simp at h, by simp⟩
  | _ :: l, [], b, e => by cases e; exact ⟨fun j x y h g => by simp at g, by simp⟩
  | x :: l, y :: m, b, e => by
    simp only [allEq] at e
    cases q1 : f x y with
    | none => rw [q1] at e; simp at e
    | some c =>
      cases q2 : allEq f l m with
      | none => rw [q1, q2] at e; simp at e
      | some d =>
        rw [q1, q2] at e
        have e' : (c && d) = b := Option.some.inj e
        obtain ⟨h1, h2⟩ := allEq_some f l m d q2
        refine ⟨fun j u v hu hv => ?_, ?_⟩
        · cases j with
          | zero => simp at hu hv; subst hu hv; exact ⟨c, q1⟩
          | succ j => exact h1 j u v (by simpa using hu) (by simpa using hv)
        · have hm : min (x :: l).length (y :: m).length = min l.length m.length + 1 := by simp only [List.length_cons]; omega
          rw [hm, List.range_succ_eq_map, List.all_cons, List.all_map]
          have p0 : pairAt f (x :: l) (y :: m) 0 = c := by simp [pairAt, q1]
          have ps : (pairAt f (x :: l) (y :: m) ∘ Nat.succ) = pairAt f l m := by funext j; simp [pairAt, Function.comp]
          have pl : ((x :: l).length == (y :: m).length) = (l.length == m.length) := by simp
          rw [p0, ps, pl, Bool.and_assoc, h2, e']
section
variable {nm : Nm} {X : L2.Cx} {pins : List (Addr × Obj)} {σ : Sg} {p : List Addr} {H : Hp} {h : Hm} {s : Shared}
theorem RWs.pair {K : PySem.W.Frag} {l m : List W} {vs : List V} (a : RWs K p H l vs) (b : RWs K p H m vs) (j : Nat) {x y : W} (h1 : l[j]? = some x) (h2 : m[j]? = some y) : ∃ v, RW K p H x v ∧ RW K p H y v := by
  obtain ⟨v, e1, r1⟩ := a.get h1
  obtain ⟨u, e2, r2⟩ := b.get h2
  rw [e1] at e2; cases e2
  exact ⟨v, r1, r2⟩
theorem tup_lst (I : Inv X pins σ H s) {a : Addr} {vs us : List V} (h1 : SqT X.K H a vs) (h2 : H a = some (.lst us)) : False := by
  obtain ⟨its, _, ⟨o, e, c, _⟩, _⟩ := I.tuple h1
  obtain ⟨its', n, _, e', _⟩ := I.lst h2
  rw [e] at e'; cases e'
  exact absurd c (by simp)
theorem eqH_tt {n : Nat} {l m : List W} : eqH h (n + 1) (.tup l) (.tup m) = allEq (eqH h n) l m := rfl
theorem eqH_ls {n : Nat} {a b : W} (ha : isLs a = true) (hb : isLs b = true) : eqH h (n + 1) a b = match lsO h a, lsO h b with
    | some l, some m => if l.length = m.length then allEq (eqH h n) l m else some false
    | _, _ => none := by
  cases a <;> first
    | exact absurd (show false = true from ha) Bool.false_ne_true
    | (cases b <;> first
      | exact absurd (show false = true from hb) Bool.false_ne_true
      | rfl)
theorem eqH_r {n : Nat} {a b : W} {l : List W} {c : Bool} (hb : isLs b = true) (ha : isLs a = false) (e : lsO h b = some l) (q : eqH h (n + 1) a b = some c) : c = false := by
  have : eqH h (n + 1) a b = if (lsO h b).isSome then some false else none := by
    cases b <;> first
      | exact absurd (show false = true from hb) Bool.false_ne_true
      | (cases a <;> first
        | exact absurd (show true = false from ha) (by decide)
        | rfl)
  rw [this, e] at q
  exact (Option.some.inj q).symm
theorem eqH_l {n : Nat} {a b : W} {l : List W} {c : Bool} (ha : isLs a = true) (hb : isLs b = false) (e : lsO h a = some l) (q : eqH h (n + 1) a b = some c) : c = false := by
  have : eqH h (n + 1) a b = if (lsO h a).isSome then some false else none := by
    cases a <;> first
      | exact absurd (show false = true from ha) Bool.false_ne_true
      | (cases b <;> first
        | exact absurd (show true = false from hb) (by decide)
        | rfl)
  rw [this, e] at q
  exact (Option.some.inj q).symm
theorem eqH_sm {n : Nat} {a b : W} {c : Bool} (q : eqH h (n + 1) a b = some c) : (isLs a = true → ∃ l, lsO h a = some l) ∧ (isLs b = true → ∃ l, lsO h b = some l) := by
  cases ha : isLs a <;> cases hb : isLs b
  · exact ⟨(fun z => nomatch z), fun z => nomatch z⟩
  · refine ⟨(fun z => nomatch z), fun _ => ?_⟩
    have : eqH h (n + 1) a b = if (lsO h b).isSome then some false else none := by
      cases b <;> first
        | exact absurd (show false = true from hb) Bool.false_ne_true
        | (cases a <;> first
          | exact absurd (show true = false from ha) (by decide)
          | rfl)
    rw [this] at q
    split at q
    · rename_i z; exact Option.isSome_iff_exists.mp z
    · cases q
  · refine ⟨fun _ => ?_, fun z => nomatch z⟩
    have : eqH h (n + 1) a b = if (lsO h a).isSome then some false else none := by
      cases a <;> first
        | exact absurd (show false = true from ha) Bool.false_ne_true
        | (cases b <;> first
          | exact absurd (show true = false from hb) (by decide)
          | rfl)
    rw [this] at q
    split at q
    · rename_i z; exact Option.isSome_iff_exists.mp z
    · cases q
  · rw [eqH_ls ha hb] at q
    split at q
    · rename_i l m e1 e2; exact ⟨fun _ => ⟨l, e1⟩, fun _ => ⟨m, e2⟩⟩
    · cases q
theorem tup_sql (I : Inv X pins σ H s) {a : Addr} {vs us : List V} (h1 : SqT X.K H a vs) (h2 : SqL X.K H a us) : False := by
  obtain ⟨its, _, ⟨o, e, c, _⟩, _⟩ := I.tuple h1
  obtain ⟨its', _, ⟨o', n, e', c', _⟩, _⟩ := I.list h2
  rw [e] at e'; cases e'
  rw [c] at c'
  exact absurd c' (by simp)
/-- two trees of one thing are equal -/
theorem eq_same (I : Inv X pins σ H s) (si : Sim nm X.K p h H) (n : Nat) : ∀ (a b : W) (v : V) (c : Bool), RW X.K p H a v → RW X.K p H b v → eqH h n a b = some c → c = true := by
  induction n with
  | zero => intro a b v c _ _ e; simp [eqH] at e
  | succ n ih =>
    intro a b v c ra rb e
    have go : ∀ (l m : List W) (vs : List V), RWs X.K p H l vs → RWs X.K p H m vs → allEq (eqH h n) l m = some c → c = true := fun l m vs r1 r2 q => by
      obtain ⟨h1, h2⟩ := allEq_some _ _ _ _ q
      rw [← h2]
      have hl : l.length = m.length := r1.length.trans r2.length.symm
      rw [hl]
      simp only [Nat.min_self, beq_self_eq_true, Bool.and_true, List.all_eq_true, List.mem_range]
      intro j hj
      have e1 : l[j]? = some l[j] := List.getElem?_eq_getElem (by omega)
      have e2 : m[j]? = some m[j] := List.getElem?_eq_getElem hj
      obtain ⟨d, hd⟩ := h1 j _ _ e1 e2
      obtain ⟨u, x1, x2⟩ := RWs.pair r1 r2 j e1 e2
      have := ih _ _ _ _ x1 x2 hd
      simp [pairAt, e1, e2, hd, this]
    cases ha : isLs a with
    | true =>
      obtain ⟨l, el⟩ := (eqH_sm e).1 ha
      obtain ⟨ad, vs, rfl, sq, ql⟩ := lsO_sq si ra el
      cases hb : isLs b with
      | true =>
        obtain ⟨m, em⟩ := (eqH_sm e).2 hb
        obtain ⟨ad2, us, ev, sq2, qm⟩ := lsO_sq si rb em
        cases ev
        have := I.list_inj sq sq2
        subst this
        rw [eqH_ls ha hb, el, em] at e
        simp only at e
        rw [if_pos (ql.length.trans qm.length.symm)] at e
        exact go _ _ _ ql qm e
      | false =>
        cases rb with
        | tup hm qm => exact (tup_sql I hm sq).elim
        | ref _ => cases hb
        | kl _ _ => cases hb
    | false =>
      cases hb : isLs b with
      | true =>
        obtain ⟨m, em⟩ := (eqH_sm e).2 hb
        obtain ⟨ad, vs, rfl, sq, qm⟩ := lsO_sq si rb em
        cases ra with
        | tup hm ql => exact (tup_sql I hm sq).elim
        | ref _ => cases ha
        | kl _ _ => cases ha
      | false =>
        cases ra with
        | non => cases rb; simp [eqH, eqW, isLs] at e; exact e
        | bl x => cases rb; simp [eqH, eqW, isLs] at e; exact e
        | int x => cases rb; simp [eqH, eqW, isLs] at e; exact e
        | str l =>
          generalize hz : (⟨l.toArray⟩ : Str) = z at rb
          cases rb with
          | str m =>
            have := st_inj hz
            subst this
            simp [eqH, eqW, isLs] at e
            exact e
        | tup hl ql =>
          cases rb with
          | tup hm qm =>
            have := I.tuple_inj hl hm
            subst this
            rw [eqH_tt] at e
            exact go _ _ _ ql qm e
          | ref _ => cases hb
          | kl _ _ => cases hb
        | ref _ => cases ha
        | kl _ _ => cases ha
/-- what stands at a value, outside -/
inductive Shp (h : Hm) (s : Shared) : W → Value → Prop
  | non : Shp h s .non .none
  | bl (b : Bool) : Shp h s (.bl b) (.bool b)
  | int (i : Int) (t : Tok) : Shp h s (.int i) (.int i t)
  | str (l : List Nat) (t : Tok) : Shp h s (.str l) (.str (st l) t)
  | tup {l : List W} {a : Addr} {its : Array Value} : s.heap.IsTuple a its → Shp h s (.tup l) (.ref a)
  | lst {w : W} {a : Addr} {its : Array Value} {l : List W} : s.heap.IsList a its → lsO h w = some l → isLs w = true → Shp h s w (.ref a)
theorem st_eqb (a b : List Nat) : (st a == st b) = (a == b) := by
  by_cases e : a = b
  · subst e; simp
  · have : st a ≠ st b := fun z => e (st_inj z)
    rw [beq_eq_false_iff_ne.mpr this, beq_eq_false_iff_ne.mpr e]
def isT : W → Bool
  | .tup _ => true
  | _ => false
theorem eq_mixed {A : Around} {n : Nat} {a b : W} {v u : Value} {c : Bool} (sa : Shp h s a v) (sb : Shp h s b u) (nt : isT a = true → isT b = true → False) (nl : isLs a = true → isLs b = true → False) (e : eqH h (n + 1) a b = some c) (hu : A.units < cLine) :
    SeqAt.RcAt A s v u c ∧ SeqAt.EqAt A s v u c ∧ SeqAt.RcNeAt A s v u (!c) := by
  cases sa with
  | non =>
    cases sb with
    | non => simp only [eqH, eqW, isLs, Option.some.injEq] at e; subst e; exact ⟨SeqAt.RcAt.none_none, SeqAt.EqAt.same _, SeqAt.RcNeAt.none_none⟩
    | bl y => simp only [eqH, eqW, isLs, Option.some.injEq] at e; subst e; exact ⟨SeqAt.RcAt.none_bool _, SeqAt.EqAt.none_bool _, SeqAt.RcNeAt.none_bool _⟩
    | int y u => simp only [eqH, eqW, isLs, Option.some.injEq] at e; subst e; exact ⟨SeqAt.RcAt.none_int _ _, SeqAt.EqAt.none_int _ _, SeqAt.RcNeAt.none_int _ _⟩
    | str y u => simp [eqH, eqW, isLs] at e; subst e; exact ⟨SeqAt.RcAt.none_str _ _, SeqAt.EqAt.none_str _ _, SeqAt.RcNeAt.none_str _ _⟩
    | tup g2 => simp [eqH, eqW, isLs] at e; subst e; exact ⟨SeqAt.RcAt.none_tuple g2 hu, SeqAt.EqAt.none_tuple g2 hu, SeqAt.RcNeAt.none_tuple g2 hu⟩
    | lst g2 e2 hb => obtain rfl := eqH_r hb rfl e2 e; exact ⟨SeqAt.RcAt.none_list g2 hu, SeqAt.EqAt.none_list g2 hu, SeqAt.RcNeAt.none_list g2 hu⟩
  | bl x =>
    cases sb with
    | non => simp only [eqH, eqW, isLs, Option.some.injEq] at e; subst e; exact ⟨SeqAt.RcAt.bool_none _, SeqAt.EqAt.bool_none _, SeqAt.RcNeAt.bool_none _⟩
    | bl y => simp only [eqH, eqW, isLs, Option.some.injEq] at e; subst e; exact ⟨SeqAt.RcAt.bool_bool _ _, SeqAt.EqAt.bool_bool _ _, SeqAt.RcNeAt.bool_bool _ _⟩
    | int y u => simp only [eqH, eqW, isLs, Option.some.injEq] at e; subst e; exact ⟨SeqAt.RcAt.bool_int _ _ _, SeqAt.EqAt.bool_int _ _ _, SeqAt.RcNeAt.bool_int _ _ _⟩
    | str y u => simp [eqH, eqW, isLs] at e; subst e; exact ⟨SeqAt.RcAt.bool_str _ _ _, SeqAt.EqAt.bool_str _ _ _, SeqAt.RcNeAt.bool_str _ _ _⟩
    | tup g2 => simp [eqH, eqW, isLs] at e; subst e; exact ⟨SeqAt.RcAt.bool_tuple _ g2 hu, SeqAt.EqAt.bool_tuple _ g2 hu, SeqAt.RcNeAt.bool_tuple _ g2 hu⟩
    | lst g2 e2 hb => obtain rfl := eqH_r hb rfl e2 e; exact ⟨SeqAt.RcAt.bool_list _ g2 hu, SeqAt.EqAt.bool_list _ g2 hu, SeqAt.RcNeAt.bool_list _ g2 hu⟩
  | int x t =>
    cases sb with
    | non => simp only [eqH, eqW, isLs, Option.some.injEq] at e; subst e; exact ⟨SeqAt.RcAt.int_none _ _, SeqAt.EqAt.int_none _ _, SeqAt.RcNeAt.int_none _ _⟩
    | bl y => simp only [eqH, eqW, isLs, Option.some.injEq] at e; subst e; exact ⟨SeqAt.RcAt.int_bool _ _ _, SeqAt.EqAt.int_bool _ _ _, SeqAt.RcNeAt.int_bool _ _ _⟩
    | int y u => simp only [eqH, eqW, isLs, Option.some.injEq] at e; subst e; exact ⟨SeqAt.RcAt.int_int _ _ _ _, SeqAt.EqAt.int_int _ _ _ _, SeqAt.RcNeAt.int_int _ _ _ _⟩
    | str y u => simp [eqH, eqW, isLs] at e; subst e; exact ⟨SeqAt.RcAt.int_str _ _ _ _, SeqAt.EqAt.int_str _ _ _ _, SeqAt.RcNeAt.int_str _ _ _ _⟩
    | tup g2 => simp [eqH, eqW, isLs] at e; subst e; exact ⟨SeqAt.RcAt.int_tuple _ _ g2 hu, SeqAt.EqAt.int_tuple _ _ g2 hu, SeqAt.RcNeAt.int_tuple _ _ g2 hu⟩
    | lst g2 e2 hb => obtain rfl := eqH_r hb rfl e2 e; exact ⟨SeqAt.RcAt.int_list _ _ g2 hu, SeqAt.EqAt.int_list _ _ g2 hu, SeqAt.RcNeAt.int_list _ _ g2 hu⟩
  | str x t =>
    cases sb with
    | non => simp [eqH, eqW, isLs] at e; subst e; exact ⟨SeqAt.RcAt.str_none _ _, SeqAt.EqAt.str_none _ _, SeqAt.RcNeAt.str_none _ _⟩
    | bl y => simp [eqH, eqW, isLs] at e; subst e; exact ⟨SeqAt.RcAt.str_bool _ _ _, SeqAt.EqAt.str_bool _ _ _, SeqAt.RcNeAt.str_bool _ _ _⟩
    | int y u => simp [eqH, eqW, isLs] at e; subst e; exact ⟨SeqAt.RcAt.str_int _ _ _ _, SeqAt.EqAt.str_int _ _ _ _, SeqAt.RcNeAt.str_int _ _ _ _⟩
    | str y u => simp only [eqH, eqW, isLs, Option.some.injEq] at e; subst e; rw [← st_eqb]; exact ⟨SeqAt.RcAt.str_str _ _ _ _, SeqAt.EqAt.str_str _ _ _ _, SeqAt.RcNeAt.str_str _ _ _ _⟩
    | tup g2 => simp [eqH, eqW, isLs] at e; subst e; exact ⟨SeqAt.RcAt.str_tuple _ _ g2 hu, SeqAt.EqAt.str_tuple _ _ g2 hu, SeqAt.RcNeAt.str_tuple _ _ g2 hu⟩
    | lst g2 e2 hb => obtain rfl := eqH_r hb rfl e2 e; exact ⟨SeqAt.RcAt.str_list _ _ g2 hu, SeqAt.EqAt.str_list _ _ g2 hu, SeqAt.RcNeAt.str_list _ _ g2 hu⟩
  | tup g =>
    cases sb with
    | non => simp [eqH, eqW, isLs] at e; subst e; exact ⟨SeqAt.RcAt.tuple_none g hu, SeqAt.EqAt.tuple_none g hu, SeqAt.RcNeAt.tuple_none g hu⟩
    | bl y => simp [eqH, eqW, isLs] at e; subst e; exact ⟨SeqAt.RcAt.tuple_bool _ g hu, SeqAt.EqAt.tuple_bool _ g hu, SeqAt.RcNeAt.tuple_bool _ g hu⟩
    | int y u => simp [eqH, eqW, isLs] at e; subst e; exact ⟨SeqAt.RcAt.tuple_int _ _ g hu, SeqAt.EqAt.tuple_int _ _ g hu, SeqAt.RcNeAt.tuple_int _ _ g hu⟩
    | str y u => simp [eqH, eqW, isLs] at e; subst e; exact ⟨SeqAt.RcAt.tuple_str _ _ g hu, SeqAt.EqAt.tuple_str _ _ g hu, SeqAt.RcNeAt.tuple_str _ _ g hu⟩
    | tup g2 => exact (nt rfl rfl).elim
    | lst g2 e2 hb => obtain rfl := eqH_r hb rfl e2 e; exact ⟨SeqAt.RcAt.tuple_list g g2 hu, SeqAt.EqAt.tuple_list g g2 hu, SeqAt.RcNeAt.tuple_list g g2 hu⟩
  | lst g e1 ha =>
    cases sb with
    | non => obtain rfl := eqH_l ha rfl e1 e; exact ⟨SeqAt.RcAt.list_none g hu, SeqAt.EqAt.list_none g hu, SeqAt.RcNeAt.list_none g hu⟩
    | bl y => obtain rfl := eqH_l ha rfl e1 e; exact ⟨SeqAt.RcAt.list_bool _ g hu, SeqAt.EqAt.list_bool _ g hu, SeqAt.RcNeAt.list_bool _ g hu⟩
    | int y u => obtain rfl := eqH_l ha rfl e1 e; exact ⟨SeqAt.RcAt.list_int _ _ g hu, SeqAt.EqAt.list_int _ _ g hu, SeqAt.RcNeAt.list_int _ _ g hu⟩
    | str y u => obtain rfl := eqH_l ha rfl e1 e; exact ⟨SeqAt.RcAt.list_str _ _ g hu, SeqAt.EqAt.list_str _ _ g hu, SeqAt.RcNeAt.list_str _ _ g hu⟩
    | tup g2 => obtain rfl := eqH_l ha rfl e1 e; exact ⟨SeqAt.RcAt.list_tuple g g2 hu, SeqAt.EqAt.list_tuple g g2 hu, SeqAt.RcNeAt.list_tuple g g2 hu⟩
    | lst g2 e2 hb => exact (nl ha hb).elim
/-- the outside of what == looks at -/
theorem shp_of (I : Inv X pins σ H s) (si : Sim nm X.K p h H) {a : W} {x : V} {v : Value} (ra : RW X.K p H a x) (rv : RelV x v) (hr : isLs a = true → ∃ l, lsO h a = some l) : Shp h s a v := by
  have ls : isLs a = true → Shp h s a v := fun z => by
    obtain ⟨l, e⟩ := hr z
    obtain ⟨ad, vs, rfl, sq, q⟩ := lsO_sq si ra e
    cases rv
    obtain ⟨its, _, g, _⟩ := I.list sq
    exact .lst g.isList e z
  cases ra with
  | non => cases rv; exact .non
  | bl b => cases rv; exact .bl b
  | int i => obtain ⟨t, rfl⟩ := rv; exact .int i t
  | str l => obtain ⟨t, rfl⟩ := rv; exact .str l t
  | tup hl ql => cases rv; obtain ⟨its, _, g, _⟩ := I.tuple hl; exact .tup g
  | ref q => exact ls rfl
  | kl hl ql => exact ls rfl
/-- == as an operator, and within -/
theorem eq_at (I : Inv X pins σ H s) (si : Sim nm X.K p h H) (n : Nat) : ∀ (A : Around) (a b : W) (x y : V) (v u : Value) (c : Bool), RW X.K p H a x → RW X.K p H b y → RelV x v → RelV y u → eqH h n a b = some c → A.units + n < cLine →
    SeqAt.RcAt A s v u c ∧ SeqAt.EqAt A s v u c ∧ SeqAt.RcNeAt A s v u (!c) := by
  induction n with
  | zero => intro A a b x y v u c _ _ _ _ e _; simp [eqH] at e
  | succ n ih =>
    intro A a b x y v u c ra rb rv ru e hu
    have hu0 : A.units < cLine := by omega
    have hu1 : A.in1.units + n < cLine := by show A.units + 1 + n < cLine; omega
    have sa := shp_of I si ra rv (eqH_sm e).1
    have sb := shp_of I si rb ru (eqH_sm e).2
    -- the pairs
    have items : ∀ (l m : List W) (vs us : List V) (i1 i2 : List Value), RWs X.K p H l vs → RWs X.K p H m us → Vals vs i1 → Vals us i2 → (∀ (j : Nat) x y, l[j]? = some x → m[j]? = some y → ∃ c, eqH h n x y = some c) →
        ∀ j (h1 : j < i1.toArray.size) (h2 : j < i2.toArray.size), SeqAt.EqAt A.in1 s i1.toArray[j] i2.toArray[j] (pairAt (eqH h n) l m j) := fun l m vs us i1 i2 r1 r2 t1 t2 hd j h1 h2 => by
      have z1 : j < l.length := by rw [r1.length, t1.length]; simpa using h1
      have z2 : j < m.length := by rw [r2.length, t2.length]; simpa using h2
      have e1 : l[j]? = some l[j] := List.getElem?_eq_getElem z1
      have e2 : m[j]? = some m[j] := List.getElem?_eq_getElem z2
      obtain ⟨x1, g1, q1⟩ := r1.get e1
      obtain ⟨x2, g2, q2⟩ := r2.get e2
      obtain ⟨u1, k1, w1⟩ := t1.get g1
      obtain ⟨u2, k2, w2⟩ := t2.get g2
      obtain ⟨d, hd⟩ := hd j _ _ e1 e2
      have f1 : i1.toArray[j] = u1 := by
        have := (List.getElem?_eq_some_iff.mp k1).2
        simpa using this
      have f2 : i2.toArray[j] = u2 := by
        have := (List.getElem?_eq_some_iff.mp k2).2
        simpa using this
      have pa : pairAt (eqH h n) l m j = d := by simp [pairAt, e1, e2, hd]
      rw [f1, f2, pa]
      exact (ih A.in1 _ _ _ _ _ _ d q1 q2 w1 w2 hd hu1).2.1
    by_cases both : isT a = true ∧ isT b = true
    · cases ra with
      | tup hl ql =>
        cases rb with
        | tup hm qm =>
          have e0 := e
          simp only [eqH] at e
          obtain ⟨d1, d2⟩ := allEq_some _ _ _ _ e
          cases rv
          cases ru
          rename_i l a1 vs m a2 us
          obtain ⟨i1, t1, g1, _⟩ := I.tuple hl
          obtain ⟨i2, t2, g2, _⟩ := I.tuple hm
          have n1 : i1.toArray.size = l.length := by rw [ql.length, t1.length]; simp
          have n2 : i2.toArray.size = m.length := by rw [qm.length, t2.length]; simp
          have R : SeqAt.RcAt A s (.ref a1) (.ref a2) c ∧ SeqAt.RcNeAt A s (.ref a1) (.ref a2) (!c) := by
            rw [← d2, ← n1, ← n2]
            exact ⟨SeqAt.RcAt.tuples g1 g2 hu0 (items _ _ _ _ _ _ ql qm t1 t2 d1), SeqAt.RcNeAt.tuples g1 g2 hu0 (items _ _ _ _ _ _ ql qm t1 t2 d1)⟩
          refine ⟨R.1, ?_, R.2⟩
          by_cases hne : a1 = a2
          · subst hne
            have := eq_same I si (n + 1) _ _ _ c (.tup hl ql) (.tup hm qm) e0
            subst this
            exact SeqAt.EqAt.same _
          · exact SeqAt.EqAt.of_refs hne R.1
        | _ => exact nomatch both.2
      | _ => exact nomatch both.1
    · by_cases refs : isLs a = true ∧ isLs b = true
      · have e0 := e
        rw [eqH_ls refs.1 refs.2] at e
        split at e
        · rename_i l m e1 e2
          obtain ⟨a1, vs, rfl, x1, ql⟩ := lsO_sq si ra e1
          obtain ⟨a2, us, rfl, x2, qm⟩ := lsO_sq si rb e2
          cases rv
          cases ru
          obtain ⟨i1, t1, g1, _⟩ := I.list x1
          obtain ⟨i2, t2, g2, _⟩ := I.list x2
          have n1 : i1.toArray.size = l.length := by rw [ql.length, t1.length]; simp
          have n2 : i2.toArray.size = m.length := by rw [qm.length, t2.length]; simp
          have R : SeqAt.RcAt A s (.ref a1) (.ref a2) c ∧ SeqAt.RcNeAt A s (.ref a1) (.ref a2) (!c) := by
            split at e
            · rename_i hlen
              obtain ⟨d1, d2⟩ := allEq_some _ _ _ _ e
              rw [← hlen] at d2
              simp only [Nat.min_self, beq_self_eq_true, Bool.and_true] at d2
              rw [← d2, ← n1]
              exact ⟨SeqAt.RcAt.lists g1.isList g2.isList (by rw [n1, n2, hlen]) hu0 (items _ _ _ _ _ _ ql qm t1 t2 d1), SeqAt.RcNeAt.lists g1.isList g2.isList (by rw [n1, n2, hlen]) hu0 (items _ _ _ _ _ _ ql qm t1 t2 d1)⟩
            · rename_i hlen
              cases e
              exact ⟨SeqAt.RcAt.lists_lengths g1.isList g2.isList (by rw [n1, n2]; simpa using hlen) hu0, SeqAt.RcNeAt.lists_lengths g1.isList g2.isList (by rw [n1, n2]; simpa using hlen) hu0⟩
          refine ⟨R.1, ?_, R.2⟩
          by_cases hne : a1 = a2
          · subst hne
            have := eq_same I si (n + 1) _ _ _ c ra rb e0
            subst this
            exact SeqAt.EqAt.same _
          · exact SeqAt.EqAt.of_refs hne R.1
        · cases e
      · exact eq_mixed sa sb (fun z1 z2 => both ⟨z1, z2⟩) (fun z1 z2 => refs ⟨z1, z2⟩) e hu0
end
end M2

namespace M2
open PySem PySem.Spec PyProof.Rows L2
section
variable {nm : Nm} {X : L2.Cx} {Ek : XK}
theorem okB {p : List Addr} {H : Hp} {h : Hm} {b : Bool} {Q : VK} (si : Sim nm X.K p h H) (ok : Ok nm X.K Ek (GV X.K) p H (.ok (.bl b) h) Q) : Q (.bl b) H := ok p H _ Xt.refl si (.bl b)
theorem opr_eq (hu : X.A.units + 70 < cLine) : OpR X (compareOp .Eq) (rOp nm X.K Ek (cmpop .eq)) := by
  rintro pins s σ H x y v u Q I rv ru ⟨p, h, a, b, si, ra, rb, ok⟩
  simp only [cmpop, M2.rb] at ok
  split at ok
  · rename_i c e
    exact (eq_at I si 60 X.A a b x y v u c ra rb rv ru e (by omega)).1 _ _ _ _ ⟨.bl c, H, I, rfl, okB si ok⟩
  · exact ok.elim
theorem opr_ne (hu : X.A.units + 70 < cLine) : OpR X (compareOp .NotEq) (rOp nm X.K Ek (cmpop .ne)) := by
  rintro pins s σ H x y v u Q I rv ru ⟨p, h, a, b, si, ra, rb, ok⟩
  simp only [cmpop, M2.rnb] at ok
  split at ok
  · rename_i c e
    exact (eq_at I si 60 X.A a b x y v u c ra rb rv ru e (by omega)).2.2 _ _ _ _ ⟨.bl (!c), H, I, rfl, okB si ok⟩
  · exact ok.elim
/-! ### trees tell values apart -/
section
variable {pins : List (Addr × Obj)} {σ : Sg} {s : Shared} {p : List Addr} {H : Hp} {h : Hm}
theorem K_none (I : Inv X pins σ H s) {a : Addr} {o : Obj} (e : X.K.lookup a = some o) : H a = none := (I.bs a o (I.ok.mod.kin a o e)).2
theorem ro_notTup {K : PySem.W.Frag} {o : O} {a : Addr} (r : RO nm K p H o a) : ∃ u, H a = some u ∧ (∀ xs, u ≠ .tup xs) ∧ (∀ ob xs, u ≠ .frz ob (.tup xs)) ∧ (∀ ob xs, u ≠ .frz ob (.lst xs)) := by
  cases o with
  | lst l => obtain ⟨_, e, _⟩ := r; exact ⟨_, e, (fun _ z => nomatch z), (fun _ _ z => nomatch z), (fun _ _ z => nomatch z)⟩
  | dct l => obtain ⟨_, e, _⟩ := r; exact ⟨_, e, (fun _ z => nomatch z), (fun _ _ z => nomatch z), (fun _ _ z => nomatch z)⟩
  | lk l => obtain ⟨_, _, e, _⟩ := r; exact ⟨_, e, (fun _ z => nomatch z), (fun _ _ z => nomatch z), (fun _ _ z => nomatch z)⟩
  | ins c fs => obtain ⟨_, _, e, _⟩ := r; exact ⟨_, e, (fun _ z => nomatch z), (fun _ _ z => nomatch z), (fun _ _ z => nomatch z)⟩
  | dn l => obtain ⟨_, _, e, _⟩ := r; exact ⟨_, e, (fun _ z => nomatch z), (fun _ _ z => nomatch z), (fun _ _ z => nomatch z)⟩
theorem no_tup_ref (I : Inv X pins σ H s) (si : Sim nm X.K p h H) {n : Nat} {a : Addr} {vs : List V} (hr : p[n]? = some a) (ht : SqT X.K H a vs) : False := by
  have hn : n < h.length := by rw [← si.len]; exact (List.getElem?_eq_some_iff.mp hr).1
  obtain ⟨u, e, n1, n2, _⟩ := ro_notTup (si.at_ n _ a (List.getElem?_eq_getElem hn) hr)
  rcases ht with (z | ⟨o, z⟩) | ⟨o, its, m, z, _⟩
  · rw [e] at z; exact n1 _ (Option.some.inj z)
  · rw [e] at z; exact n2 _ _ (Option.some.inj z)
  · rw [K_none I z] at e; cases e
theorem no_kl_ref (I : Inv X pins σ H s) (si : Sim nm X.K p h H) {n : Nat} {a : Addr} {vs : List V} (hr : p[n]? = some a) (ht : FzL X.K H a vs) : False := by
  have hn : n < h.length := by rw [← si.len]; exact (List.getElem?_eq_some_iff.mp hr).1
  obtain ⟨u, e, _, _, n3⟩ := ro_notTup (si.at_ n _ a (List.getElem?_eq_getElem hn) hr)
  rcases ht with ⟨o, z⟩ | ⟨o, its, m, z, _⟩
  · rw [e] at z; exact n3 _ _ (Option.some.inj z)
  · rw [K_none I z] at e; cases e
theorem no_tup_kl (I : Inv X pins σ H s) {a : Addr} {vs us : List V} (h1 : SqT X.K H a vs) (h2 : FzL X.K H a us) : False := by
  rcases h1 with (z | ⟨o, z⟩) | ⟨o, its, m, z, c1, _⟩
  · rcases h2 with ⟨o', y⟩ | ⟨o', its', m', y, _⟩
    · rw [z] at y; exact nomatch (Option.some.inj y)
    · rw [K_none I y] at z; cases z
  · rcases h2 with ⟨o', y⟩ | ⟨o', its', m', y, _⟩
    · rw [z] at y
      have := Option.some.inj y
      injection this with _ q
      exact nomatch q
    · rw [K_none I y] at z; cases z
  · rcases h2 with ⟨o', y⟩ | ⟨o', its', m', y, c2, _⟩
    · rw [K_none I z] at y; cases y
    · rw [z] at y
      have := Option.some.inj y
      subst this
      rw [c1] at c2
      exact absurd c2 (by simp)
mutual
theorem RW.inj (I : Inv X pins σ H s) (si : Sim nm X.K p h H) : ∀ {a b : W} {v : V}, RW X.K p H a v → RW X.K p H b v → a = b
  | _, _, _, .non, rb => by cases rb; rfl
  | _, _, _, .bl x, rb => by cases rb; rfl
  | _, _, _, .int x, rb => by cases rb; rfl
  | _, b, _, .str l, rb => by
    generalize hz : (⟨l.toArray⟩ : Str) = z at rb
    cases rb with
    | str m => rw [st_inj hz]
  | _, b, _, .tup hl ql, rb => by
    cases rb with
    | tup hm qm =>
      have := I.tuple_inj hl hm
      subst this
      rw [RWs.inj I si ql qm]
    | ref hq => exact (no_tup_ref I si hq hl).elim
    | kl hm qm => exact (no_tup_kl I hl hm).elim
  | _, b, _, .ref hr, rb => by
    cases rb with
    | tup hm qm => exact (no_tup_ref I si hr hm).elim
    | ref hq => rw [nodup_inj si.nd hr hq]
    | kl hm qm => exact (no_kl_ref I si hr hm).elim
  | _, b, _, .kl hl ql, rb => by
    cases rb with
    | tup hm qm => exact (no_tup_kl I hm hl).elim
    | ref hq => exact (no_kl_ref I si hq hl).elim
    | kl hm qm =>
      have := I.list_inj hl.sq hm.sq
      subst this
      rw [RWs.inj I si ql qm]
theorem RWs.inj (I : Inv X pins σ H s) (si : Sim nm X.K p h H) : ∀ {a b : List W} {v : List V}, RWs X.K p H a v → RWs X.K p H b v → a = b
  | _, _, _, .nil, rb => by cases rb; rfl
  | _, _, _, .cons r rs, rb => by
    cases rb with
    | cons q qs => rw [RW.inj I si r q, RWs.inj I si rs qs]
end
end
/-! ### in -/
theorem anyEq_some (f : W → Option Bool) : ∀ (l : List W) (b : Bool), anyEq f l = some b → (∀ (j : Nat) x, l[j]? = some x → ∃ c, f x = some c) ∧ b = l.any fun x => (f x).getD false
  | [], b, e => by cases e; exact ⟨fun j x h => by simp at h, rfl⟩
  | x :: l, b, e => by
    simp only [anyEq] at e
    cases q1 : f x with
    | none => rw [q1] at e; simp at e
    | some c =>
      cases q2 : anyEq f l with
      | none => rw [q1, q2] at e; simp at e
      | some d =>
        rw [q1, q2] at e
        have e' : (c || d) = b := Option.some.inj e
        obtain ⟨h1, h2⟩ := anyEq_some f l d q2
        refine ⟨fun j u hu => ?_, ?_⟩
        · cases j with
          | zero => simp at hu; subst hu; exact ⟨c, q1⟩
          | succ j => exact h1 j u (by simpa using hu)
        · rw [← e', h2, List.any_cons, q1]; rfl
/-- x in the items of a list or tuple -/
theorem in_items {pins : List (Addr × Obj)} {σ : Sg} {s : Shared} {p : List Addr} {H : Hp} {h : Hm} (I : Inv X pins σ H s) (si : Sim nm X.K p h H) (hu : X.A.units + 70 < cLine) {a : W} {x : V} {v : Value} (ra : RW X.K p H a x) (rv : RelV x v)
    {l : List W} {vs : List V} {its : List Value} (ql : RWs X.K p H l vs) (t : Vals vs its) {b : Bool} (e : anyEq (fun y => eqV h y a) l = some b) :
    ∃ f : Value → Bool, (∀ y, y ∈ its.toArray → SeqAt.EqAt X.A.in1 s y v (f y)) ∧ its.toArray.any f = b := by
  obtain ⟨h1, h2⟩ := anyEq_some _ _ _ e
  let f : Value → Bool := fun y => @decide (∃ (j : Nat) (w : W), l[j]? = some w ∧ its[j]? = some y ∧ (eqV h w a).getD false = true) (Classical.propDecidable _)
  have ix : ∀ j w, l[j]? = some w → ∃ y u, its[j]? = some y ∧ RelV u y ∧ RW X.K p H w u := fun j w ej => by
    obtain ⟨u, g, q⟩ := ql.get ej
    obtain ⟨y, g2, q2⟩ := t.get g
    exact ⟨y, u, g2, q2, q⟩
  have back : ∀ j y, its[j]? = some y → ∃ w u, l[j]? = some w ∧ RelV u y ∧ RW X.K p H w u := fun j y ej => by
    have hj : j < l.length := by rw [ql.length, t.length]; exact (List.getElem?_eq_some_iff.mp ej).1
    obtain ⟨y', u, g, q1, q2⟩ := ix j l[j] (List.getElem?_eq_getElem hj)
    rw [ej] at g; cases g
    exact ⟨l[j], u, List.getElem?_eq_getElem hj, q1, q2⟩
  have fval : ∀ j w y, l[j]? = some w → its[j]? = some y → f y = (eqV h w a).getD false := fun j w y e1 e2 => by
    obtain ⟨w', u, g, q1, q2⟩ := back j y e2
    rw [e1] at g; cases g
    cases hc : (eqV h w a).getD false with
    | true => exact @decide_eq_true _ (Classical.propDecidable _) ⟨j, w, e1, e2, hc⟩
    | false =>
      refine @decide_eq_false _ (Classical.propDecidable _) fun ⟨i, w2, k1, k2, k3⟩ => ?_
      obtain ⟨w3, u3, g3, r1, r2⟩ := back i y k2
      rw [k1] at g3; cases g3
      have : u3 = u := r1.inj q1
      subst this
      rw [RW.inj I si r2 q2, hc] at k3
      cases k3
  refine ⟨f, fun y hy => ?_, ?_⟩
  · have hy' : y ∈ its := by simpa using hy
    obtain ⟨j, hj, ej⟩ := List.getElem_of_mem hy'
    have e2 : its[j]? = some y := by rw [List.getElem?_eq_getElem hj, ej]
    obtain ⟨w, u, g, q1, q2⟩ := back j y e2
    obtain ⟨c, hc⟩ := h1 j w g
    rw [fval j w y g e2, hc]
    exact (eq_at I si 60 X.A.in1 w a u x y v c q2 ra q1 rv hc (by show X.A.units + 1 + 60 < cLine; omega)).2.1
  · have h2' : b = its.any f := by
      rw [h2]
      apply Bool.eq_iff_iff.mpr
      simp only [List.any_eq_true]
      constructor
      · rintro ⟨w, hw, hc⟩
        obtain ⟨j, hj, ej⟩ := List.getElem_of_mem hw
        have e1 : l[j]? = some w := by rw [List.getElem?_eq_getElem hj, ej]
        obtain ⟨y, u, g, _, _⟩ := ix j w e1
        exact ⟨y, List.mem_of_getElem? g, by rw [fval j w y e1 g]; exact hc⟩
      · rintro ⟨y, hy, hc⟩
        obtain ⟨j, hj, ej⟩ := List.getElem_of_mem hy
        have e2 : its[j]? = some y := by rw [List.getElem?_eq_getElem hj, ej]
        obtain ⟨w, u, g, _, _⟩ := back j y e2
        exact ⟨w, List.mem_of_getElem? g, by rw [← fval j w y g e2]; exact hc⟩
    rw [h2']
    simp
/-- x in y, x not in y -/
theorem in_any {pins : List (Addr × Obj)} {σ : Sg} {s : Shared} {p : List Addr} {H : Hp} {h : Hm} (I : Inv X pins σ H s) (si : Sim nm X.K p h H) (hu : X.A.units + 70 < cLine) {a b : W} {x y : V} {v u : Value} (ra : RW X.K p H a x) (rb : RW X.K p H b y) (rv : RelV x v) (ru : RelV y u)
    {c : Bool} (e : memV h a b = some c) : (∀ Q : VK, Q (.bl c) H → wpAny (model X.prog X.w) X.A (compareOp .In v u) (EP X pins σ Q) X.xe s) ∧ (∀ Q : VK, Q (.bl (!c)) H → wpAny (model X.prog X.w) X.A (compareOp .NotIn v u) (EP X pins σ Q) X.xe s) := by
  cases rb with
  | tup hl ql =>
    cases ru
    obtain ⟨its, t, g, _⟩ := I.tuple hl
    obtain ⟨f, f1, f2⟩ := in_items I si hu ra rv ql t e
    exact ⟨fun Q q => SeqAt.in_tupleAt f g f1 ⟨.bl c, H, I, by rw [f2]; rfl, q⟩, fun Q q => SeqAt.notIn_tupleAt f g f1 ⟨.bl (!c), H, I, by rw [f2]; rfl, q⟩⟩
  | kl hl ql =>
    cases ru
    obtain ⟨its, t, g, _⟩ := I.list hl.sq
    obtain ⟨f, f1, f2⟩ := in_items I si hu ra rv ql t e
    exact ⟨fun Q q => SeqAt.in_listAt f g.isList f1 ⟨.bl c, H, I, by rw [f2]; rfl, q⟩, fun Q q => SeqAt.notIn_listAt f g.isList f1 ⟨.bl (!c), H, I, by rw [f2]; rfl, q⟩⟩
  | str l =>
    simp only [memV] at e
    split at e
    · rename_i ch
      cases e
      cases ra
      have hd : decide (ch ∈ (st l).cps.toList) = l.contains ch := by
        rw [st_tl]
        apply Bool.eq_iff_iff.mpr
        simp
      exact ⟨fun Q q => op_in_sign pins s σ H _ _ v u Q I rv ru ⟨ch, _, rfl, rfl, by rw [hd]; exact q⟩, fun Q q => op_notIn_sign pins s σ H _ _ v u Q I rv ru ⟨ch, _, rfl, rfl, by rw [hd]; exact q⟩⟩
    · cases e
  | ref hr =>
    cases ru
    simp only [memV] at e
    split at e
    · rename_i l q
      obtain ⟨vs, h1, ql⟩ := si.lst hr q
      obtain ⟨its, t, g, _⟩ := I.list (SqL.of h1)
      obtain ⟨f, f1, f2⟩ := in_items I si hu ra rv ql t e
      exact ⟨fun Q q => SeqAt.in_listAt f g.isList f1 ⟨.bl c, H, I, by rw [f2]; rfl, q⟩, fun Q q => SeqAt.notIn_listAt f g.isList f1 ⟨.bl (!c), H, I, by rw [f2]; rfl, q⟩⟩
    · cases e
  | _ => cases e
theorem opr_in (hu : X.A.units + 70 < cLine) : OpR X (compareOp .In) (rOp nm X.K Ek (cmpop .mem)) := by
  rintro pins s σ H x y v u Q I rv ru ⟨p, h, a, b, si, ra, rb, ok⟩
  simp only [cmpop, M2.rb] at ok
  split at ok
  · rename_i c e
    exact (in_any I si hu ra rb rv ru e).1 Q (okB si ok)
  · exact ok.elim
theorem opr_notIn (hu : X.A.units + 70 < cLine) : OpR X (compareOp .NotIn) (rOp nm X.K Ek (cmpop .nmem)) := by
  rintro pins s σ H x y v u Q I rv ru ⟨p, h, a, b, si, ra, rb, ok⟩
  simp only [cmpop, M2.rnb] at ok
  split at ok
  · rename_i c e
    exact (in_any I si hu ra rb rv ru e).2 Q (okB si ok)
  · exact ok.elim
/-! ### order -/
theorem lt_cps : ∀ a b : List Nat, decide (a < b) = ltL a b
  | [], [] => by simp [ltL]
  | [], _ :: _ => by simp [ltL]
  | _ :: _, [] => by simp [ltL]
  | x :: l, y :: m => by
    have ih := lt_cps l m
    simp only [ltL]
    by_cases e : x = y
    · subst e
      rw [if_pos rfl, ← ih]
      simp [List.cons_lt_cons_iff]
    · rw [if_neg e]
      simp [List.cons_lt_cons_iff, e]
theorem opr_lt : OpR X (compareOp .Lt) (rOp nm X.K Ek (cmpop .lt)) := by
  rintro pins s σ H x y v u Q I rv ru ⟨p, h, a, b, si, ra, rb, ok⟩
  cases ra with
  | int i =>
    cases rb with
    | int j => exact op_lt pins s σ H _ _ v u Q I rv ru ⟨i, j, rfl, rfl, okB si ok⟩
    | _ => exact ok.elim
  | str l =>
    cases rb with
    | str m => exact op_lt_str pins s σ H _ _ v u Q I rv ru ⟨_, _, rfl, rfl, by rw [st_tl, st_tl, lt_cps]; exact okB si ok⟩
    | _ => exact ok.elim
  | _ => exact ok.elim
theorem opr_le : OpR X (compareOp .LtE) (rOp nm X.K Ek (cmpop .le)) := by
  rintro pins s σ H x y v u Q I rv ru ⟨p, h, a, b, si, ra, rb, ok⟩
  cases ra with
  | int i =>
    cases rb with
    | int j => exact op_le pins s σ H _ _ v u Q I rv ru ⟨i, j, rfl, rfl, okB si ok⟩
    | _ => exact ok.elim
  | str l =>
    cases rb with
    | str m => exact op_le_str pins s σ H _ _ v u Q I rv ru ⟨_, _, rfl, rfl, by rw [st_tl, st_tl, lt_cps]; exact okB si ok⟩
    | _ => exact ok.elim
  | _ => exact ok.elim
theorem opr_gt : OpR X (compareOp .Gt) (rOp nm X.K Ek (cmpop .gt)) := by
  rintro pins s σ H x y v u Q I rv ru ⟨p, h, a, b, si, ra, rb, ok⟩
  cases ra with
  | int i =>
    cases rb with
    | int j => exact op_gt pins s σ H _ _ v u Q I rv ru ⟨i, j, rfl, rfl, okB si ok⟩
    | _ => exact ok.elim
  | str l =>
    cases rb with
    | str m => exact op_gt_str pins s σ H _ _ v u Q I rv ru ⟨_, _, rfl, rfl, by rw [st_tl, st_tl, lt_cps]; exact okB si ok⟩
    | _ => exact ok.elim
  | _ => exact ok.elim
theorem opr_ge : OpR X (compareOp .GtE) (rOp nm X.K Ek (cmpop .ge)) := by
  rintro pins s σ H x y v u Q I rv ru ⟨p, h, a, b, si, ra, rb, ok⟩
  cases ra with
  | int i =>
    cases rb with
    | int j => exact op_ge pins s σ H _ _ v u Q I rv ru ⟨i, j, rfl, rfl, okB si ok⟩
    | _ => exact ok.elim
  | str l =>
    cases rb with
    | str m => exact op_ge_str pins s σ H _ _ v u Q I rv ru ⟨_, _, rfl, rfl, by rw [st_tl, st_tl, lt_cps]; exact okB si ok⟩
    | _ => exact ok.elim
  | _ => exact ok.elim
theorem RW.non_iff {K : PySem.W.Frag} {p : List Addr} {H : Hp} {w : W} {v : V} (r : RW K p H w v) : decide (v = .non) = decide (w = .non) := by
  cases r <;> rfl
theorem opr_isN : OpR X (compareOp .Is) (rOp nm X.K Ek (cmpop .isN)) := by
  rintro pins s σ H x y v u Q I rv ru ⟨p, h, a, b, si, ra, rb, ok⟩
  cases rb with
  | non => exact op_isN pins s σ H _ _ v u Q I rv ru ⟨rfl, by rw [ra.non_iff]; cases a <;> exact okB si ok⟩
  | _ => cases a <;> exact ok.elim
theorem opr_notN : OpR X (compareOp .IsNot) (rOp nm X.K Ek (cmpop .notN)) := by
  rintro pins s σ H x y v u Q I rv ru ⟨p, h, a, b, si, ra, rb, ok⟩
  cases rb with
  | non => exact op_notN pins s σ H _ _ v u Q I rv ru ⟨rfl, by rw [ra.non_iff]; cases a <;> exact okB si ok⟩
  | _ => cases a <;> exact ok.elim
end
end M2

namespace M2
open PySem PySem.Spec PyProof.Rows L2
/-! ### trees as keys -/
section
variable {X : L2.Cx} {pins : List (Addr × Obj)} {σ : Sg} {p : List Addr} {H : Hp} {s : Shared}
mutual
theorem nested_of (I : Inv X pins σ H s) : ∀ {w : W} {v : V} {u : Value} {n : Nat}, RW X.K p H w v → RelV v u → w.flat n = true → NestedIs s.heap (nk w) u ∧ (nk w).depth ≤ n
  | _, _, u, n, .non, r, _ => by
    cases (show u = Value.none from r)
    exact ⟨.none, Nat.zero_le _⟩
  | _, _, u, n, .bl b, r, _ => by
    cases (show u = Value.bool b from r)
    exact ⟨.bool rfl, Nat.zero_le _⟩
  | _, _, u, n, .int i, r, _ => by
    obtain ⟨t, rfl⟩ := (show ∃ t, u = Value.int i t from r)
    exact ⟨.int _ _, Nat.zero_le _⟩
  | _, _, u, n, .str l, r, _ => by
    obtain ⟨t, rfl⟩ := (show ∃ t, u = Value.str ⟨l.toArray⟩ t from r)
    exact ⟨.text _ _, Nat.zero_le _⟩
  | _, _, u, 0, .tup h q, r, f => by simp [W.flat] at f
  | _, _, u, n + 1, .tup (l := l) (a := a) h q, r, f => by
    cases (show u = Value.ref a from r)
    obtain ⟨its, rv, ⟨o, ho, hc, m, hd⟩, _⟩ := I.tuple h
    rw [W.flat] at f
    obtain ⟨h1, h2⟩ := nested_all I q rv f
    refine ⟨.tup ho hc hd (by simpa using h1), ?_⟩
    show (NestedKey.tup (nks l)).depth ≤ n + 1
    rw [NestedKey.depth]
    omega
  | _, _, u, n, .ref _, r, f => by cases n <;> simp [W.flat] at f
  | _, _, u, n, .kl _ _, r, f => by cases n <;> simp [W.flat] at f
theorem nested_all (I : Inv X pins σ H s) : ∀ {l : List W} {vs : List V} {us : List Value} {n : Nat}, RWs X.K p H l vs → Vals vs us → flatAll n l = true → NestedAll s.heap (nks l) us ∧ NestedKey.depthAll (nks l) ≤ n
  | _, _, _, n, .nil, .nil, _ => ⟨.nil, Nat.zero_le _⟩
  | _, _, _, n, .cons (x := x) (l := l) a q, .cons r t, f => by
    rw [flatAll] at f
    simp only [Bool.and_eq_true] at f
    obtain ⟨h1, h2⟩ := nested_of I a r f.1
    obtain ⟨h3, h4⟩ := nested_all I q t f.2
    refine ⟨.cons h1 h3, ?_⟩
    show (NestedKey.depthAll (nk x :: nks l)) ≤ n
    rw [NestedKey.depthAll]
    omega
end
end
theorem beq_dec {a b : Int} : (a == b) = decide (a = b) := rfl
mutual
theorem eqW_nk : ∀ (a b : W) (n m : Nat), a.flat n = true → b.flat m = true → eqW a b = (nk a).beq (nk b)
  | .ref _, _, n, _, h, _ => by cases n <;> simp [W.flat] at h
  | .kl _, _, n, _, h, _ => by cases n <;> simp [W.flat] at h
  | .non, .ref _, _, n, _, h | .bl _, .ref _, _, n, _, h | .int _, .ref _, _, n, _, h | .str _, .ref _, _, n, _, h | .tup _, .ref _, _, n, _, h => by cases n <;> simp [W.flat] at h
  | .non, .kl _, _, n, _, h | .bl _, .kl _, _, n, _, h | .int _, .kl _, _, n, _, h | .str _, .kl _, _, n, _, h | .tup _, .kl _, _, n, _, h => by cases n <;> simp [W.flat] at h
  | .non, .non, _, _, _, _ => by simp [eqW, nk, NestedKey.beq]
  | .non, .bl _, _, _, _, _ | .non, .int _, _, _, _, _ | .non, .str _, _, _, _, _ | .non, .tup _, _, _, _, _ => by simp [eqW, nk, NestedKey.beq]
  | .bl a, .bl b, _, _, _, _ => by cases a <;> cases b <;> simp [eqW, nk, NestedKey.beq]
  | .bl a, .int j, _, _, _, _ => by cases a <;> simp [eqW, nk, NestedKey.beq, beq_dec]
  | .bl _, .non, _, _, _, _ | .bl _, .str _, _, _, _, _ | .bl _, .tup _, _, _, _, _ => by simp [eqW, nk, NestedKey.beq]
  | .int i, .bl b, _, _, _, _ => by cases b <;> simp [eqW, nk, NestedKey.beq, beq_dec]
  | .int i, .int j, _, _, _, _ => by simp [eqW, nk, NestedKey.beq, beq_dec]
  | .int _, .non, _, _, _, _ | .int _, .str _, _, _, _, _ | .int _, .tup _, _, _, _, _ => by simp [eqW, nk, NestedKey.beq]
  | .str x, .str y, _, _, _, _ => by
    simp only [eqW, nk, NestedKey.beq]
    by_cases e : x = y
    · subst e; simp
    · have : ¬ st x = st y := fun z => e (st_inj z)
      rw [beq_eq_false_iff_ne.mpr e, decide_eq_false this]
  | .str _, .non, _, _, _, _ | .str _, .bl _, _, _, _, _ | .str _, .int _, _, _, _, _ | .str _, .tup _, _, _, _, _ => by simp [eqW, nk, NestedKey.beq]
  | .tup a, .tup b, n, m, h, g => by
    cases n with
    | zero => simp [W.flat] at h
    | succ n =>
      cases m with
      | zero => simp [W.flat] at g
      | succ m =>
        rw [W.flat] at h g
        simp only [eqW, nk, NestedKey.beq]
        exact eqWs_nk a b n m h g
  | .tup _, .non, _, _, _, _ | .tup _, .bl _, _, _, _, _ | .tup _, .int _, _, _, _, _ | .tup _, .str _, _, _, _, _ => by simp [eqW, nk, NestedKey.beq]
theorem eqWs_nk : ∀ (a b : List W) (n m : Nat), flatAll n a = true → flatAll m b = true → eqWs a b = NestedKey.beqAll (nks a) (nks b)
  | [], [], _, _, _, _ => by simp [eqWs, nks, NestedKey.beqAll]
  | [], _ :: _, _, _, _, _ => by simp [eqWs, nks, NestedKey.beqAll]
  | _ :: _, [], _, _, _, _ => by simp [eqWs, nks, NestedKey.beqAll]
  | x :: a, y :: b, n, m, h, g => by
    rw [flatAll] at h g
    simp only [Bool.and_eq_true] at h g
    simp only [eqWs, nks, NestedKey.beqAll]
    rw [eqW_nk x y n m h.1 g.1, eqWs_nk a b n m h.2 g.2]
end
theorem eqW_iff {a b : W} (h : a.key = true) (g : b.key = true) : eqW a b = true ↔ nk a = nk b := by
  rw [eqW_nk a b 8 8 h g]
  exact ⟨NestedKey.eq_of_beq _ _, fun e => by rw [e]; exact NestedKey.beq_self _⟩
theorem stored_cons {x : NestedKey × Addr × Value} {xs : List (NestedKey × Addr × Value)} {k : NestedKey} {a : Addr} {v : Value} (hn : x.1 ∉ xs.map (·.1)) :
    storedH (x :: xs) k a v = if x.1 = k then (x.1, x.2.1, v) :: xs else x :: storedH xs k a v := by
  by_cases h : x.1 = k
  · rw [if_pos h]
    have : atKey (x :: xs) k = some x.2 := by simp [atKey, List.find?_cons, h]
    rw [storedH_old this, List.map_cons, map_putAt_of_not_mem _ _ _ (by rw [← h]; exact hn), putAt, if_pos h]
  · rw [if_neg h]
    have e : atKey (x :: xs) k = atKey xs k := by simp [atKey, List.find?_cons, h]
    cases q : atKey xs k with
    | none => rw [storedH_new (by rw [e, q]), storedH_new q]; rfl
    | some y => rw [storedH_old (by rw [e, q]), storedH_old q, List.map_cons, putAt, if_neg h]
theorem RN.put {K : PySem.W.Frag} {p : List Addr} {H : Hp} {k w : W} {a : Addr} {v : V} {u : Value} (hk : k.key = true) (rk : RW K p H k (.ref a)) (rw' : RW K p H w v) (ru : RelV v u) : ∀ {l : List (W × W)} {xs : List (NestedKey × Addr × Value)}, RN K p H l xs → (xs.map (·.1)).Nodup → RN K p H (putD k w l) (storedH xs (nk k) a u)
  | _, _, .nil, _ => by
    rw [storedH_new (by rfl)]
    exact .cons hk rk rw' ru .nil
  | _, _, .cons (k := k2) (w := w2) (l := l) h1 h2 h3 h4 q, nd => by
    rw [List.map_cons, List.nodup_cons] at nd
    rw [stored_cons nd.1]
    unfold putD
    by_cases e : nk k2 = nk k
    · rw [if_pos ((eqW_iff h1 hk).mpr e), if_pos e]
      exact .cons h1 h2 rw' ru q
    · rw [if_neg (fun z => e ((eqW_iff h1 hk).mp z)), if_neg e]
      exact .cons h1 h2 h3 h4 (RN.put hk rk rw' ru q nd.2)
theorem RN.length {K : PySem.W.Frag} {p : List Addr} {H : Hp} : ∀ {l : List (W × W)} {xs : List (NestedKey × Addr × Value)}, RN K p H l xs → l.length = xs.length
  | _, _, .nil => rfl
  | _, _, .cons _ _ _ _ q => congrArg (· + 1) q.length
/-! ### ints and texts as keys -/
theorem keyV_plain {k : W} (h : k.plain = true) : ∃ x, keyV k = some x := by
  cases k <;> first
    | exact ⟨_, rfl⟩
    | cases h
theorem keyV_kV {K : PySem.W.Frag} {p : List Addr} {H : Hp} {k : W} {x : Key} {v : V} (e : keyV k = some x) (r : RW K p H k v) : v = kV x := by
  cases r <;> cases e <;> rfl
theorem keyV_iff {a b : W} {x y : Key} (h : keyV a = some x) (g : keyV b = some y) : eqW a b = true ↔ x = y := by
  cases a <;> cases h <;> cases b <;> cases g <;> simp [eqW]
theorem putK_cons {q : Key × V} {kvs : List (Key × V)} {k : Key} {v : V} (hn : q.1 ∉ kvs.map (·.1)) : putK (q :: kvs) k v = if q.1 = k then (q.1, v) :: kvs else q :: putK kvs k v := by
  by_cases h : q.1 = k
  · rw [if_pos h]
    unfold putK
    rw [if_pos (by simp [h]), List.map_cons, if_pos h]
    congr 1
    conv => rhs; rw [← List.map_id kvs]
    refine List.map_congr_left fun z hz => ?_
    rw [if_neg fun e => hn (by rw [h, ← e]; exact List.mem_map.mpr ⟨z, hz, rfl⟩)]
    rfl
  · rw [if_neg h]
    unfold putK
    rw [List.any_cons, decide_eq_false h, Bool.false_or]
    split
    · rw [List.map_cons, if_neg h]
    · rfl
theorem putK_keys {k : Key} {v : V} {x : Key} : ∀ {kvs : List (Key × V)}, x ∈ (putK kvs k v).map (·.1) → x = k ∨ x ∈ kvs.map (·.1) := fun {kvs} h => by
  unfold putK at h
  split at h
  · right
    rw [List.map_map] at h
    obtain ⟨z, hz, e⟩ := List.mem_map.mp h
    refine List.mem_map.mpr ⟨z, hz, ?_⟩
    rw [← e]
    simp only [Function.comp]
    split <;> rfl
  · rw [List.map_append] at h
    rcases List.mem_append.mp h with h | h
    · exact .inr h
    · exact .inl (by simpa using h)
theorem RD.put {K : PySem.W.Frag} {p : List Addr} {H : Hp} {k w : W} {x : Key} {v : V} (hk : keyV k = some x) (r : RW K p H w v) : ∀ {l : List (W × W)} {kvs : List (Key × V)}, RD K p H l kvs → RD K p H (putD k w l) (putK kvs x v)
  | _, _, .nil => .cons hk (by simp) r .nil
  | _, _, .cons (k := k2) (x := y) h1 n h2 q => by
    rw [putK_cons n]
    unfold putD
    by_cases e : y = x
    · rw [if_pos ((keyV_iff h1 hk).mpr e), if_pos e]
      exact .cons h1 n r q
    · rw [if_neg (fun z => e ((keyV_iff h1 hk).mp z)), if_neg e]
      refine .cons h1 (fun z => ?_) h2 (RD.put hk r q)
      rcases putK_keys z with z | z
      · exact e z
      · exact n z
theorem RD.get {K : PySem.W.Frag} {p : List Addr} {H : Hp} {k w : W} {x : Key} (hk : keyV k = some x) : ∀ {l : List (W × W)} {kvs : List (Key × V)}, RD K p H l kvs → getD k l = some w → ∃ v, valV kvs x = some v ∧ RW K p H w v
  | _, _, .nil, e => by cases e
  | _, _, .cons (k := k2) (x := y) (v := v) h1 n h2 q, e => by
    unfold getD at e
    by_cases z : y = x
    · rw [if_pos ((keyV_iff h1 hk).mpr z)] at e
      cases e
      exact ⟨v, valV_pos z, h2⟩
    · rw [if_neg (fun t => z ((keyV_iff h1 hk).mp t))] at e
      obtain ⟨v', h3, h4⟩ := RD.get hk q e
      exact ⟨v', by rw [valV_neg z]; exact h3, h4⟩
theorem RD.length {K : PySem.W.Frag} {p : List Addr} {H : Hp} : ∀ {l : List (W × W)} {kvs : List (Key × V)}, RD K p H l kvs → l.length = kvs.length
  | _, _, .nil => rfl
  | _, _, .cons _ _ _ q => congrArg (· + 1) q.length
theorem putD_len (k w : W) : ∀ l : List (W × W), (putD k w l).length ≤ l.length + 1
  | [] => by simp [putD]
  | (a, u) :: l => by
    unfold putD
    split
    · simp
    · have := putD_len k w l
      simp only [List.length_cons]
      omega
section
variable {X : L2.Cx} {pins : List (Addr × Obj)} {σ : Sg} {p : List Addr} {H : Hp} {s : Shared} {wd : World}
theorem RN.is (I : Inv X pins σ H s) : ∀ {l : List (W × W)} {xs : List (NestedKey × Addr × Value)}, RN X.K p H l xs → ∀ x ∈ xs, (nestedKind X.prog X.w).is s.heap x.1 x.2.1
  | _, _, .nil, _, h => nomatch h
  | _, _, .cons h1 h2 _ _ q, x, h => by
    rcases List.mem_cons.mp h with rfl | h
    · exact nested_of (n := 8) I h2 rfl h1
    · exact RN.is I q x h
/-- the dict in the heap -/
theorem dn_heap (I : Inv X pins σ H s) (e : wd = X.w) {a : Addr} {o : Obj} {xs : List (NestedKey × Addr × Value)} {l : List (W × W)} (hd : H a = some (ndO a o)) (d : DN wd o xs) (rn : RN X.K p H l xs) : s.heap.DictOfH (nestedKind X.prog X.w) a xs := by
  subst e
  obtain ⟨es, ep, h1, h2⟩ := d.dat
  exact ⟨o, es, ep, (I.hok a _ hd).1, d.ex, h1, h2, rn.is I, d.nd⟩
theorem ndO_ok {P : Program} {w : World} {H : Hp} {h : Heap} {a : Addr} {o : Obj} (e : h.get? a = some o) : ObjOk P w H h a (ndO a o) := ⟨e, ⟨o, e⟩, fun _ _ q k => k _ q⟩
/-- an entry is put -/
theorem dn_set {D : Addr} {o : Obj} {xs : List (NestedKey × Addr × Value)} {l : List (W × W)} {k : W} {a : Addr} {r : Value} {E : Value → Shared → Prop} {Q : Unit → Shared → Prop} (I : Inv X pins σ H s) (e : wd = X.w) (hu : X.A.units + 8 < cLine) (hd : H D = some (ndO D o)) (d : DN wd o xs) (rn : RN X.K p H l xs) (hl : l.length ≤ sizeLine)
    (hk : k.key = true) (rk : RW X.K p H k (.ref a)) (h : ∀ o' s', Inv X pins σ (upd H D (ndO D o')) s' → DN wd o' (storedH xs (nk k) a r) → Q () s') : wpAny (model X.prog X.w) X.A (dictSet D (.ref a) r) Q E s := by
  refine wpAny_dictSet_heap (knd := nestedKind X.prog X.w) hu (nested_of (n := 8) I rk rfl hk) (dn_heap I e hd d rn) (fun h' dd sb => ?_) (by rw [← rn.length]; exact hl)
  obtain ⟨o', es, ep, ho, hex, hdat, hes, _, hn⟩ := dd
  refine h o' _ (d_write I (by rw [hd]; exact True.intro) sb ⟨o', ho⟩ (ndO_ok ho)) ⟨hex, ⟨es, ep, hdat, ?_⟩, hn⟩
  rw [hes, e]
  rfl
end
end M2

namespace M2
open PySem PySem.Spec PyProof.Rows L2
section
variable {nm : Nm} {X : L2.Cx} {Ek : XK}
/-! ### a[i] -/
theorem place_ix {n : Nat} {k : Int} {j : Nat} (e : place n k = some j) : ixN n k = some j := by
  unfold place at e
  unfold ixN
  exact e
theorem at_of {α : Type} {xs : List α} {k : Int} {j : Nat} {v : α} {n : Nat} (hn : n = xs.length) (e : place n k = some j) (g : xs[j]? = some v) : atI xs k = some v := by
  subst hn
  unfold atI
  rw [place_ix e]
  exact g
theorem dict_tail {prog : Program} {w : World} {A : Around} {E : Value → Shared → Prop} {s : Shared} {value slice : Expr} {o i : Value} {Q : Value → Shared → Prop} (ty : s.TypeIs o "dict") (hs : subscripted slice false o i = operate [o, i] (PySem.getItem o i))
    (h : wpAny (model prog w) A (PySem.getItem o i) Q E s) : wpAny (model prog w) A (subscriptTail value slice o i) Q E s := by
  unfold subscriptTail
  refine wpAny_bind ?_
  rw [getitemInPython_of_ne ty.not_modules]
  refine wpAny_bind (wpAny_specialOf ty slot_dict_getitem.lookup ?_)
  have rest : wpAny (model prog w) A (subscripted slice false o i) (fun r t => wpAny (model prog w) A (letTemporaryGo value o r >>= fun _ => pure r) Q E t) E s := by
    rw [hs]
    exact wpAny_operating (wpAny_mono h (fun r t q => wpAny_bind (wpAny_letTemporaryGo (wpAny_pure q))) fun _ _ x => x)
  first
    | exact wpAny_pure (wpAny_bind rest)
    | exact wpAny_bind (wpAny_pure (wpAny_bind rest))
    | exact wpAny_bind rest
theorem ixr (un : X.A.units + 70 < cLine) : IxR X (rOp nm X.K Ek getItem) := by
  rintro value slice pins s σ H x y v u Q I rv ru ⟨p, h, a, b, si, ra, rb, ok⟩ hs
  cases ra with
  | tup hl ql =>
    cases rb with
    | int k =>
      simp only [getItem] at ok
      split at ok
      · rename_i j e
        split at ok
        · rename_i w e2
          obtain ⟨z, g, q⟩ := ql.get e2
          exact ix_tup value slice pins s σ H _ _ v u Q I rv ru ⟨_, _, k, z, rfl, rfl, hl, at_of ql.length e g, ok p H z Xt.refl si q⟩ hs
        · exact ok.elim
      · exact ok.elim
    | _ => exact ok.elim
  | kl hl ql =>
    cases rb with
    | int k =>
      simp only [getItem] at ok
      split at ok
      · rename_i j e
        split at ok
        · rename_i w e2
          obtain ⟨z, g, q⟩ := ql.get e2
          exact ix_list value slice pins s σ H _ _ v u Q I rv ru ⟨_, _, k, z, rfl, rfl, hl.sq, at_of ql.length e g, ok p H z Xt.refl si q⟩ hs
        · exact ok.elim
      · exact ok.elim
    | _ => exact ok.elim
  | str l =>
    cases rb with
    | int k =>
      simp only [getItem] at ok
      split at ok
      · rename_i hl
        split at ok
        · rename_i j e
          split at ok
          · rename_i c e2
            exact ix_str value slice pins s σ H _ _ v u Q I rv ru ⟨_, k, c, rfl, rfl, by rw [st_len, ← line_eq]; exact hl, at_of (by rw [st_tl]) e (by rw [st_tl]; exact e2), ok p H _ Xt.refl si (.str [c])⟩ hs
          · exact ok.elim
        · exact ok.elim
      · exact ok.elim
    | _ => exact ok.elim
  | ref hr =>
    simp only [getItem] at ok
    split at ok
    · rename_i l e0
      obtain ⟨vs, h1, ql⟩ := si.lst hr e0
      cases rb with
      | int k =>
        simp only at ok
        split at ok
        · rename_i j e
          split at ok
          · rename_i w e2
            obtain ⟨z, g, q⟩ := ql.get e2
            exact ix_list value slice pins s σ H _ _ v u Q I rv ru ⟨_, _, k, z, rfl, rfl, SqL.of h1, at_of ql.length e g, ok p H z Xt.refl si q⟩ hs
          · exact ok.elim
        · exact ok.elim
      | _ => exact ok.elim
    · rename_i l e0
      obtain ⟨a', e1, kvs, e2, rd⟩ := si.get e0
      rw [hr] at e1; cases e1
      by_cases hb : b.plain = true
      · rw [if_pos hb] at ok
        obtain ⟨x, hx⟩ := keyV_plain hb
        cases q : getD b l with
        | none => rw [q] at ok; exact ok.elim
        | some w =>
          rw [q] at ok
          obtain ⟨z, h1, h2⟩ := rd.get hx q
          have ey := keyV_kV hx rb
          subst ey
          have rv' : v = Value.ref _ := rv
          subst rv'
          have dg : DGet H _ (kV x) (some z) := .inl ⟨kvs, x, .inl e2, rfl, h1.symm⟩
          refine dict_tail (dict_typeIs I dg) hs (d_getItem (by omega) I dg ru fun w' s' I' r' => ?_)
          exact ⟨z, H, I', r', ok p H z Xt.refl si h2⟩
      · rw [if_neg hb] at ok; exact ok.elim
    · exact ok.elim
  | _ => cases b <;> exact ok.elim
/-! ### slices -/
theorem clip_eq (n d : Nat) (o : Option Int) : clip n d o = HT.sIx n d o := by cases o <;> rfl
theorem RWs.cut {K : PySem.W.Frag} {p : List Addr} {H : Hp} {l : List W} {vs : List V} (q : RWs K p H l vs) (lo hi : Option Int) : RWs K p H (cut l lo hi) (cutV vs lo hi) := by
  unfold M2.cut cutV
  rw [clip_eq, clip_eq, q.length]
  exact (q.drop _).take _
theorem cut_all {A : Type} {l : List A} {lo hi : Option Int} (h1 : clip l.length 0 lo = 0) (h2 : clip l.length l.length hi = l.length) : cut l lo hi = l := by
  unfold cut
  rw [h1, h2]
  simp
/-- what a slice gives, by trees -/
def rSl (nm : Nm) (K : PySem.W.Frag) (Ek : XK) : V → Option Int → Option Int → Hp → VK → Prop := fun x lo hi H Q => ∃ p h a, Sim nm K p h H ∧ RW K p H a x ∧ Ok nm K Ek (GV K) p H (getSlice a lo hi h) Q
theorem slr_frz {r : V → Option Int → Option Int → Hp → VK → Prop} (h : SlR X r) : SlR X (fun x lo hi H Q => r x lo hi H (LkV Q)) := fun pins s σ H x v vl vu lo hi sl Q I rx hs pl pu q => by
  obtain ⟨T, id, h1, h2, h3⟩ := h pins s σ H x v vl vu lo hi sl _ I rx hs pl pu q
  exact ⟨T, id, h1, h2, thn h3 fun _ _ z => ep_lock z⟩
theorem call_frz {f : Value} {r : List V → Hp → VK → Prop} (h : CallR X f r) : CallR X f (fun xs H Q => r xs H (LkV Q)) := fun pins s σ H xs us Q I rs q => thn (h pins s σ H xs us _ I rs q) fun _ _ z => ep_lock z
theorem mtr_frz {id : String} {r : V → List V → Hp → VK → Prop} (h : MtR X id r) : MtR X id (fun x xs H Q => r x xs H (LkV Q)) := fun pins s σ H x xs v us Q I rx rs q => thn (h pins s σ H x xs v us _ I rx rs q) fun _ _ z => ep_lock z
theorem slr : SlR X (rSl nm X.K Ek) := by
  rintro pins s σ H x v vl vu lo hi sl Q I rx hs pl pu ⟨p, h, a, si, ra, ok⟩
  simp only [getSlice] at ok
  cases ra with
  | tup hl ql =>
    refine sl_tupA pins s σ H _ v vl vu lo hi sl Q I rx hs pl pu ⟨_, _, rfl, hl, fun hw => ?_, fun _ => new_tup si (ql.cut lo hi) ok⟩
    simp only at ok
    rw [cut_all (by rw [clip_eq, ql.length]; exact hw.1) (by rw [clip_eq, ql.length]; exact hw.2)] at ok
    exact ok p H _ Xt.refl si (.tup hl ql)
  | kl hl ql => exact slr_frz sl_list pins s σ H _ v vl vu lo hi sl Q I rx hs pl pu ⟨_, _, rfl, hl.sq, new_kl si (ql.cut lo hi) ok⟩
  | str z =>
    simp only at ok
    split at ok
    · rename_i hz
      refine sl_str pins s σ H _ v vl vu lo hi sl Q I rx hs pl pu ⟨_, rfl, by rw [st_len, ← line_eq]; exact hz, ?_⟩
      have : cutS (st z) lo hi = st (cut z lo hi) := by
        unfold cutS cut
        rw [st_tl, st_len, clip_eq, clip_eq]
      rw [this]
      exact ok p H _ Xt.refl si (.str _)
    · exact ok.elim
  | ref hr =>
    simp only at ok
    split at ok
    · rename_i z e
      obtain ⟨vs, h1, q⟩ := si.lst hr (asL_lst e)
      exact slr_frz sl_list pins s σ H _ v vl vu lo hi sl Q I rx hs pl pu ⟨_, _, rfl, SqL.of h1, new_kl si (q.cut lo hi) ok⟩
    · exact ok.elim
  | _ => exact ok.elim
/-! ### builtins of values -/
theorem RWs.one {K : PySem.W.Frag} {p : List Addr} {H : Hp} {w : W} {xs : List V} (r : RWs K p H [w] xs) : ∃ x, xs = [x] ∧ RW K p H w x := by
  cases r with
  | cons a b => cases b; exact ⟨_, rfl, a⟩
theorem RWs.two {K : PySem.W.Frag} {p : List Addr} {H : Hp} {w u : W} {xs : List V} (r : RWs K p H [w, u] xs) : ∃ x y, xs = [x, y] ∧ RW K p H w x ∧ RW K p H u y := by
  cases r with
  | cons a b =>
    cases b with
    | cons c d => cases d; exact ⟨_, _, rfl, a, c⟩
theorem cl_len (hw : nm.wd = X.w) : CallR X (.builtin "len") (rFn nm X.K Ek (b1op .len)) := by
  rintro pins s σ H xs us Q I rs ⟨p, h, ws, si, rw', ok⟩
  match ws, rw', ok with
  | [], _, ok => exact ok.elim
  | [w], rw', ok =>
    obtain ⟨x, rfl, r⟩ := rw'.one
    cases r with
    | str l =>
      simp only [b1op, b1u] at ok
      split at ok
      · rename_i hl
        exact call_len_str pins s σ H _ us Q I rs ⟨_, rfl, by rw [st_len, ← line_eq]; exact hl, by rw [st_len]; exact ok p H _ Xt.refl si (.int _)⟩
      · exact ok.elim
    | tup hl ql => exact call_len_seq pins s σ H _ us Q I rs ⟨_, _, rfl, .inr hl, by rw [← ql.length]; exact ok p H _ Xt.refl si (.int _)⟩
    | kl hl ql => exact call_len_seq pins s σ H _ us Q I rs ⟨_, _, rfl, .inl hl.sq, by rw [← ql.length]; exact ok p H _ Xt.refl si (.int _)⟩
    | ref hr =>
      simp only [b1op, b1u] at ok
      split at ok
      · rename_i l e
        obtain ⟨vs, h1, ql⟩ := si.lst hr e
        exact call_len_seq pins s σ H _ us Q I rs ⟨_, _, rfl, .inl (SqL.of h1), by rw [← ql.length]; exact ok p H _ Xt.refl si (.int _)⟩
      · rename_i l e
        obtain ⟨a', e1, kvs, e2, rd⟩ := si.get e
        rw [hr] at e1; cases e1
        exact call_lenD pins s σ H _ us Q I rs ⟨_, kvs, rfl, e2, by rw [← rd.length]; exact ok p H _ Xt.refl si (.int _)⟩
      · rename_i l e
        obtain ⟨a', e1, o, xs, e2, sy, hz, dn, rn⟩ := si.get e
        rw [hr] at e1; cases e1
        obtain ⟨u, rfl, ru⟩ := vals1 rs
        obtain rfl : u = Value.ref _ := ru
        have hl : xs.length ≤ sizeLine := by rw [← rn.length]; exact hz
        refine call_len_dictH (knd := nestedKind X.prog X.w) sy (dn_heap I hw e2 dn rn) (by rw [sizeLine_eq] at hl; omega) ?_
        rw [← rn.length]
        exact ⟨.int ((l.length : Nat) : Int), H, I.tok _, ⟨_, rfl⟩, ok p H _ Xt.refl si (.int _)⟩
      · exact ok.elim
    | _ => exact ok.elim
  | [w, u], _, ok => cases w <;> cases u <;> exact ok.elim
  | _ :: _ :: _ :: _, _, ok => exact ok.elim
theorem cl_abs : CallR X (.builtin "abs") (rFn nm X.K Ek (b1op .abs)) := by
  rintro pins s σ H xs us Q I rs ⟨p, h, ws, si, rw', ok⟩
  match ws, rw', ok with
  | [], _, ok => exact ok.elim
  | [w], rw', ok =>
    obtain ⟨x, rfl, r⟩ := rw'.one
    cases r with
    | int i => exact call_abs pins s σ H _ us Q I rs ⟨i, rfl, ok p H _ Xt.refl si (.int _)⟩
    | _ => exact ok.elim
  | [w, u], _, ok => cases w <;> cases u <;> exact ok.elim
  | _ :: _ :: _ :: _, _, ok => exact ok.elim
theorem cl_int : CallR X (.type "int") (rFn nm X.K Ek (b1op .int)) := by
  rintro pins s σ H xs us Q I rs ⟨p, h, ws, si, rw', ok⟩
  match ws, rw', ok with
  | [], _, ok => exact ok.elim
  | [w], rw', ok =>
    obtain ⟨x, rfl, r⟩ := rw'.one
    cases r with
    | int i => exact call_int1 pins s σ H _ us Q I rs (.inl ⟨i, rfl, ok p H _ Xt.refl si (.int _)⟩)
    | str l =>
      simp only [b1op, b1u] at ok
      split at ok
      · rename_i hl
        simp only [Bool.and_eq_true, Bool.not_eq_true', decide_eq_true_eq] at hl
        have hd : NumText.AllDigits (st l).cps.toList := fun c hc => by
          rw [st_tl] at hc
          have := hl.1
          unfold allDig at this
          rw [List.all_eq_true] at this
          simpa using this c hc
        have hn : (st l).cps.toList ≠ [] := by
          rw [st_tl]
          intro z
          rw [z] at hl
          exact absurd hl.2.1 (by simp)
        have e := intText_digits hd hn (by rw [st_len]; omega)
        refine call_int_str pins s σ H _ us Q I rs ⟨st l, ((decNat l : Nat) : Int), rfl, ?_, by rw [st_len]; exact hl.2.2, ok p H _ Xt.refl si (.int _)⟩
        rw [e, st_tl]
        rfl
      · exact ok.elim
    | _ => exact ok.elim
  | [w, u], _, ok => cases w <;> cases u <;> exact ok.elim
  | _ :: _ :: _ :: _, _, ok => exact ok.elim
theorem cl_str : CallR X (.type "str") (rFn nm X.K Ek (b1op .str)) := by
  rintro pins s σ H xs us Q I rs ⟨p, h, ws, si, rw', ok⟩
  match ws, rw', ok with
  | [], _, ok => exact ok.elim
  | [w], rw', ok =>
    obtain ⟨x, rfl, r⟩ := rw'.one
    cases r with
    | str l => exact SkE.call_str_str pins s σ H _ us Q I rs ⟨_, rfl, ok p H _ Xt.refl si (.str _)⟩
    | int i =>
      simp only [b1op, b1u] at ok
      split at ok
      · rename_i hl
        refine call_str_int pins s σ H _ us Q I rs ⟨i, rfl, by omega, ?_⟩
        obtain ⟨n, rfl⟩ := Int.eq_ofNat_of_zero_le hl.1
        rw [SX.num_S n]
        exact ok p H _ Xt.refl si (.str _)
      · exact ok.elim
    | _ => exact ok.elim
  | [w, u], _, ok => cases w <;> cases u <;> exact ok.elim
  | _ :: _ :: _ :: _, _, ok => exact ok.elim
theorem cl_max2 (hc : X.calm = true) : CallR X (.builtin "max") (rFn nm X.K Ek (b1op .max2)) := by
  rintro pins s σ H xs us Q I rs ⟨p, h, ws, si, rw', ok⟩
  match ws, rw', ok with
  | [], _, ok => exact ok.elim
  | [w], _, ok => cases w <;> exact ok.elim
  | [w, u], rw', ok =>
    obtain ⟨x, y, rfl, r, q⟩ := rw'.two
    cases r with
    | int i =>
      cases q with
      | int j => exact call_max2 hc pins s σ H _ us Q I rs ⟨i, j, rfl, ok p H _ Xt.refl si (.int _)⟩
      | _ => exact ok.elim
    | _ => exact ok.elim
  | _ :: _ :: _ :: _, _, ok => exact ok.elim
theorem cl_min2 (hc : X.calm = true) : CallR X (.builtin "min") (rFn nm X.K Ek (b1op .min2)) := by
  rintro pins s σ H xs us Q I rs ⟨p, h, ws, si, rw', ok⟩
  match ws, rw', ok with
  | [], _, ok => exact ok.elim
  | [w], _, ok => cases w <;> exact ok.elim
  | [w, u], rw', ok =>
    obtain ⟨x, y, rfl, r, q⟩ := rw'.two
    cases r with
    | int i =>
      cases q with
      | int j => exact call_min2 hc pins s σ H _ us Q I rs ⟨i, j, rfl, ok p H _ Xt.refl si (.int _)⟩
      | _ => exact ok.elim
    | _ => exact ok.elim
  | _ :: _ :: _ :: _, _, ok => exact ok.elim
/-! ### builtins of rows -/
def rRow (nm : Nm) (K : PySem.W.Frag) (Ek : XK) (f : List W → Hm → R W) : List V → Hp → VK → Prop := fun xs H Q => ∃ p h ws a vs, Sim nm K p h H ∧ xs = [.ref a] ∧ (SqL K H a vs ∨ SqT K H a vs) ∧ RWs K p H ws vs ∧ Ok nm K Ek (GV K) p H (f ws h) Q
theorem cr_len : CallR X (.builtin "len") (rRow nm X.K Ek (blop .len)) := by
  rintro pins s σ H xs us Q I rs ⟨p, h, ws, a, vs, si, rfl, hq, q, ok⟩
  exact call_len_seq pins s σ H _ us Q I rs ⟨a, vs, rfl, hq, by rw [← q.length]; exact ok p H _ Xt.refl si (.int _)⟩
theorem cr_tuple : CallR X (.type "tuple") (rRow nm X.K Ek (blop .tuple)) := by
  rintro pins s σ H xs us Q I rs ⟨p, h, ws, a, vs, si, rfl, hq, q, ok⟩
  refine call_tuple_of pins s σ H _ us Q I rs ⟨a, vs, rfl, ?_⟩
  rcases hq with hq | hq
  · exact .inl ⟨hq, new_tup si q ok⟩
  · exact .inr ⟨hq, ok p H _ Xt.refl si (.tup hq q)⟩
theorem cr_list : CallR X (.type "list") (rRow nm X.K Ek (blop .list)) := by
  rintro pins s σ H xs us Q I rs ⟨p, h, ws, a, vs, si, rfl, hq, q, ok⟩
  exact call_frz call_list_of pins s σ H _ us Q I rs ⟨a, vs, rfl, hq, new_kl si q ok⟩
/-- list(row), to be written -/
theorem cr_listN : CallR X (.type "list") (rRow nm X.K Ek newL) := by
  rintro pins s σ H xs us Q I rs ⟨p, h, ws, a, vs, si, rfl, hq, q, ok⟩
  exact call_list_of pins s σ H _ us Q I rs ⟨a, vs, rfl, hq, new_lst si q ok⟩
end
end M2

namespace M2
open PySem PySem.Spec PyProof.Rows L2
/-! ### sorted(row), a row of pairs of ints -/
section
variable {prog : Program} {w : World} {A : Around} {E : Value → Shared → Prop} {s : Shared}
theorem sorted_row {a : Addr} {ty : String} {ob : Obj} {items : List Value} {n : Nat} {k : Value → Int × Int} {Q : Value → Shared → Prop} (hT : ty = "list" ∨ ty = "tuple") (ho : s.heap.get? a = some ob) (hc : ob.cls = .type ty) (hd : ob.data = .seq items.toArray n) (hz : items.length ≤ sizeLine)
    (hp : ∀ v ∈ items, Srt.IsPair s.heap v (k v).1 (k v).2)
    (h : ∀ (h' : Heap) (d : Addr) (out : List Value), SrtO.Srtd (fun v u => SrtO.lexB (k v) (k u)) out → out.Perm items → (∀ b o, s.heap.get? b = some o → h'.get? b = some o) → s.heap.get? d = none → (∃ n, h'.get? d = some (seqObj "list" out.toArray n)) → Q (.ref d) { s with heap := h' }) :
    wpAny (model prog w) A (call (.builtin "sorted") [.ref a]) Q E s := by
  refine Calls.call_function_entry kind_sorted plain_sorted entry_sorted (args_sorted1 _) (?_ : wpAny _ _ (Builtin.«sorted» _) _ _ _)
  unfold Builtin.«sorted»
  refine wpAny_bind (m := checkCount "sorted" 1 1 _) (wpAny_pure (?_ : wpAny _ _ _ _ _ _))
  refine wpAny_bind (wpAny_collect_seq a hT ho hc hd (fun h1 keep => ?_) (by simpa using hz))
  refine wpAny_bind (wpAny_newList ?_ (by simpa using hz))
  have hoL : (h1.push (seqObj "list" items.toArray 0)).get? h1.objs.size = some (seqObj "list" items.toArray 0) := Heap.get?_push_size _ rfl
  have kp : ∀ b o, s.heap.get? b = some o → b ≠ h1.objs.size ∧ (h1.push (seqObj "list" items.toArray 0)).get? b = some o := fun b o q => ⟨Nat.ne_of_lt (Heap.lt_size (keep b o q)), Heap.get?_push_of_some _ (keep b o q)⟩
  have e1 : items.toArray.toList = items := by simp
  rw [e1]
  show wpAny _ _ _ _ _ { s with heap := h1.push (seqObj "list" items.toArray 0) }
  refine wpAny_bind (wpAny_holding (wpAny_call_entry slot_list_sort ⟨_, hoL, rfl⟩ entry_list_sort (SrtO.list_sort_ord (SrtO.swo_lex k) hoL hz (fun h2 => ?_) fun out hs hb => ⟨_, rfl, ?_⟩) (args_list_sort _)))
  · refine SrtO.pairs_sortableO (s := { s with heap := h1.push (seqObj "list" items.toArray 0) }) (by omega) (fun v hv => (hp v hv).keeps fun b o e _ => (kp b o e).2) fun o e => ?_
    have e' : some o = some (seqObj "list" items.toArray 0) := e.symm.trans hoL
    cases e'
    exact fun c => absurd (Value.type.inj c) (by decide)
  · refine wpAny_pure ⟨_, rfl, h _ h1.objs.size out hs hb.perm (fun b o e => ?_) ?_ ?_⟩
    · obtain ⟨ne, g⟩ := kp b o e
      exact (sortedHeap_old ne (Heap.lt_size g)).trans g
    · cases q : s.heap.get? h1.objs.size with
      | none => rfl
      | some o => exact absurd (Heap.lt_size (keep _ _ q)) (Nat.lt_irrefl _)
    · exact sortedHeap_at hoL
end
/-! ### the order of pairs -/
theorem ltPr_lex (a b : Int × Int) : ltPr a b = SrtO.lexB a b := rfl
def bkv : Value → V
  | .ref a => .ref a
  | _ => .non
section
variable {nm : Nm} {X : L2.Cx} {Ek : XK} {pins : List (Addr × Obj)} {σ : Sg} {p : List Addr} {H : Hp} {s : Shared}
/-- a pair as the model's sort reads it -/
theorem pair_of_rw (I : Inv X pins σ H s) {i j : Int} {v : V} {u : Value} (r : RW X.K p H (.tup [.int i, .int j]) v) (rv : RelV v u) : Srt.IsPair s.heap u i j := by
  cases r with
  | tup h q =>
    cases rv
    obtain ⟨its, t, ⟨o, ho, hc, n, hd⟩, _⟩ := I.tuple h
    cases q with
    | cons a q =>
      cases q with
      | cons b q =>
        cases q
        cases a
        cases b
        obtain ⟨u1, u2, rfl, ⟨t1, rfl⟩, ⟨t2, rfl⟩⟩ := vals2 t
        exact ⟨_, o, t1, t2, n, rfl, ho, hc, hd⟩
theorem prs_rw (I : Inv X pins σ H s) : ∀ {l : List W} {ps : List (Int × Int)} {vs : List V} {us : List Value}, prsOf l = some ps → RWs X.K p H l vs → Vals vs us → (∃ k : Value → Int × Int, us.map k = ps ∧ (∀ u ∈ us, Srt.IsPair s.heap u (k u).1 (k u).2)) ∧ ∀ u ∈ us, ∃ (a : Addr) (i j : Int), u = .ref a ∧ RW X.K p H (.tup [.int i, .int j]) (.ref a)
  := fun {l ps vs us} e q t => by
  have inj : ∀ {u : Value} {i j x y : Int}, Srt.IsPair s.heap u i j → Srt.IsPair s.heap u x y → i = x ∧ j = y := fun h g => by
    obtain ⟨a, o, t, u, n, e, ho, _, hd⟩ := h
    obtain ⟨a', o', t', u', n', e', ho', _, hd'⟩ := g
    rw [e] at e'
    cases e'
    rw [ho] at ho'
    cases ho'
    rw [hd] at hd'
    cases hd'
    exact ⟨rfl, rfl⟩
  have base : ∀ {l : List W} {ps : List (Int × Int)} {vs : List V} {us : List Value}, prsOf l = some ps → RWs X.K p H l vs → Vals vs us → Paired (fun (u : Value) (q : Int × Int) => Srt.IsPair s.heap u q.1 q.2 ∧ ∃ a, u = .ref a ∧ RW X.K p H (.tup [.int q.1, .int q.2]) (.ref a)) us ps := fun {l} => by
    induction l with
    | nil =>
      intro ps vs us e q t
      cases q
      cases t
      cases e
      exact .nil
    | cons w l ih =>
      intro ps vs us e q t
      cases q with
      | cons a q =>
        cases t with
        | cons r t =>
          unfold prsOf at e
          split at e
          · rename_i hh
            cases hh
          · rename_i i j l' hh
            cases hh
            split at e
            · rename_i r' e2
              cases e
              refine .cons ⟨pair_of_rw I a r, ?_⟩ (ih e2 q t)
              cases a with
              | tup h1 h2 => cases r; exact ⟨_, rfl, .tup h1 h2⟩
            · cases e
          · cases e
  have pr := base e q t
  let k : Value → Int × Int := fun u => @dite _ (∃ q : Int × Int, Srt.IsPair s.heap u q.1 q.2) (Classical.propDecidable _) (fun h => h.choose) fun _ => (0, 0)
  have ks : ∀ u i j, Srt.IsPair s.heap u i j → k u = (i, j) := fun u i j h => by
    have ex : ∃ q : Int × Int, Srt.IsPair s.heap u q.1 q.2 := ⟨(i, j), h⟩
    have : k u = ex.choose := dif_pos ex
    rw [this]
    obtain ⟨a, b⟩ := inj ex.choose_spec h
    exact Prod.ext a b
  have all : ∀ {us : List Value} {ps : List (Int × Int)}, Paired (fun (u : Value) (q : Int × Int) => Srt.IsPair s.heap u q.1 q.2 ∧ ∃ a, u = .ref a ∧ RW X.K p H (.tup [.int q.1, .int q.2]) (.ref a)) us ps → (us.map k = ps ∧ ∀ u ∈ us, Srt.IsPair s.heap u (k u).1 (k u).2) ∧ ∀ u ∈ us, ∃ (a : Addr) (i j : Int), u = .ref a ∧ RW X.K p H (.tup [.int i, .int j]) (.ref a) := fun pr => by
    induction pr with
    | nil => exact ⟨⟨rfl, fun _ h => nomatch h⟩, fun _ h => nomatch h⟩
    | @cons u q us ps h t ih =>
      obtain ⟨⟨e1, e2⟩, e3⟩ := ih
      have ek := ks u q.1 q.2 h.1
      refine ⟨⟨by rw [List.map_cons, ek, e1], fun z hz => ?_⟩, fun z hz => ?_⟩
      · rcases List.mem_cons.mp hz with rfl | hz
        · rw [ek]; exact h.1
        · exact e2 z hz
      · rcases List.mem_cons.mp hz with rfl | hz
        · obtain ⟨a, e, r⟩ := h.2
          exact ⟨a, _, _, e, r⟩
        · exact e3 z hz
  exact ⟨⟨k, (all pr).1⟩, (all pr).2⟩
theorem cr_sortedR : CallR X (.builtin "sorted") (rRow nm X.K Ek (blop .sorted)) := by
  rintro pins s σ H xs us Q I rs ⟨p, h, ws, a, vs, si, rfl, hq, q, ok⟩
  simp only [blop] at ok
  split at ok
  · rename_i ps e
    obtain ⟨u, rfl, ru⟩ := vals1 rs
    obtain rfl : u = Value.ref a := ru
    have seq : ∃ (ty : String) (ob : Obj) (its : List Value) (n : Nat), (ty = "list" ∨ ty = "tuple") ∧ s.heap.get? a = some ob ∧ ob.cls = .type ty ∧ ob.data = .seq its.toArray n ∧ Vals vs its ∧ its.length ≤ sizeLine := by
      rcases hq with hq | hq
      · obtain ⟨its, t, pl, hz⟩ := I.list hq
        obtain ⟨o, ho, hc, n, hd⟩ := pl.isList
        exact ⟨_, o, its, n, .inl rfl, ho, hc, hd, t, by rw [← t.length]; exact hz⟩
      · obtain ⟨its, t, ⟨o, ho, hc, n, hd⟩, hz⟩ := I.tuple hq
        exact ⟨_, o, its, n, .inr rfl, ho, hc, hd, t, by rw [← t.length]; exact hz⟩
    obtain ⟨ty, ob, its, n, hT, ho, hc, hd, t, hz⟩ := seq
    obtain ⟨⟨k, k1, k2⟩, k3⟩ := prs_rw I e q t
    refine sorted_row hT ho hc hd hz k2 fun h' d out o1 o2 kp hn ⟨m, hm⟩ => ?_
    have om : out.map k = sortPr ps := by
      refine srtP_uniq ((o2.map k).trans (by rw [k1]; exact (sortPr_perm ps).symm)) ?_ (sortPr_srt ps)
      exact List.pairwise_map.mpr o1
    have hnH : H d = none := by
      cases z : H d with
      | none => rfl
      | some u =>
        have hz2 : ∃ o, s.heap.get? d = some o := by
          have := I.hok d u z
          cases u with
          | lst xs => obtain ⟨_, _, _, _, e⟩ := this; exact ⟨_, e⟩
          | tup xs => obtain ⟨_, _, _, o, e, _⟩ := this; exact ⟨o, e⟩
          | dK kvs => obtain ⟨_, _, _, _, o, _, _, e, _⟩ := this; exact ⟨o, e⟩
          | dT kvs => obtain ⟨_, _, _, _, o, _, _, e, _⟩ := this; exact ⟨o, e⟩
          | set S n => obtain ⟨o, _, _, _, e, _⟩ := this; exact ⟨o, e⟩
          | ins C dx fs => obtain ⟨_, _, _, e, _⟩ := this; exact ⟨_, e⟩
          | own y => obtain ⟨o, e⟩ := this; exact ⟨o, e⟩
          | xd fs => obtain ⟨_, ⟨o, _, _, e, _⟩, _⟩ := this; exact ⟨o, e⟩
          | rng lo hi => obtain ⟨_, _, _, e⟩ := this; exact ⟨_, e⟩
          | frz ob u => obtain ⟨e, _⟩ := this; exact ⟨_, e⟩
          | tbl ps => exact ⟨_, this⟩
          | met f x => exact ⟨_, this⟩
          | ext φ => obtain ⟨_, ⟨o, e⟩, _⟩ := this; exact ⟨o, e⟩
        obtain ⟨o, e⟩ := hz2
        rw [hn] at e
        cases e
    have rel : ∀ {out : List Value}, (∀ u ∈ out, u ∈ its) → RWs X.K p H ((out.map k).map prW) (out.map bkv) ∧ Vals (out.map bkv) out := fun {out} => by
      induction out with
      | nil => exact fun _ => ⟨.nil, .nil⟩
      | cons u out ih =>
        intro hm
        obtain ⟨i1, i2⟩ := ih fun z hz => hm z (List.mem_cons_of_mem _ hz)
        have hu := hm u (List.mem_cons_self ..)
        obtain ⟨b, i, j, eu, r⟩ := k3 u hu
        have ek : k u = (i, j) := by
          have h1 := k2 u hu
          have h2 := pair_of_rw I r (show RelV (.ref b) u from eu)
          obtain ⟨a1, o1, t1, u1, n1, e1, ho1, _, hd1⟩ := h1
          obtain ⟨a2, o2, t2, u2, n2, e2, ho2, _, hd2⟩ := h2
          rw [e1] at e2
          cases e2
          rw [ho1] at ho2
          cases ho2
          rw [hd1] at hd2
          have e3 := hd2
          injection e3 with e3 _
          have e4 : [Value.int (k u).1 t1, Value.int (k u).2 u1] = [Value.int i t2, Value.int j u2] := by simpa using e3
          injection e4 with e5 e6
          injection e6 with e6 _
          injection e5 with e5 _
          injection e6 with e6 _
          exact Prod.ext e5 e6
        subst eu
        refine ⟨.cons ?_ i1, .cons rfl i2⟩
        show RW X.K p H (prW (k _)) (.ref b)
        rw [ek]
        exact r
    obtain ⟨r1, r2⟩ := rel (out := out) fun u hu => o2.mem_iff.mp hu
    rw [om] at r1
    have len : (out.map bkv).length ≤ sizeLine := by rw [List.length_map, o2.length_eq]; exact hz
    have I2 : Inv X pins σ (upd H d (.lst (out.map bkv))) { s with heap := h' } := I.laidN (t' := s.toks) kp hn hnH ⟨len, out, m, r2, hm⟩
    exact ep_lock ⟨.ref d, _, I2, rfl, new_kl si r1 ok d hnH⟩
  · exact ok.elim
end
end M2

namespace M2
open PySem PySem.Spec PyProof.Rows L2
section
variable {nm : Nm} {X : L2.Cx} {Ek : XK}
/-! ### rows of truths, of ints -/
/-- a row that stands as a list -/
def rRowL (nm : Nm) (K : PySem.W.Frag) (Ek : XK) (f : List W → Hm → R W) : List V → Hp → VK → Prop := fun xs H Q => ∃ p h ws a vs, Sim nm K p h H ∧ xs = [.ref a] ∧ SqL K H a vs ∧ RWs K p H ws vs ∧ Ok nm K Ek (GV K) p H (f ws h) Q
theorem cr_allL (hc : X.calm = true) : CallR X (.builtin "all") (rRowL nm X.K Ek (blop .all)) := by
  rintro pins s σ H xs us Q I rs ⟨p, h, ws, a, vs, si, rfl, hq, q, ok⟩
  simp only [blop] at ok
  split at ok
  · rename_i bs e
    have := q.bls e
    subst this
    exact cr_all hc pins s σ H _ us Q I rs ⟨a, bs, rfl, hq, ok p H _ Xt.refl si (.bl _)⟩
  · exact ok.elim
theorem cr_anyL (hc : X.calm = true) : CallR X (.builtin "any") (rRowL nm X.K Ek (blop .any)) := by
  rintro pins s σ H xs us Q I rs ⟨p, h, ws, a, vs, si, rfl, hq, q, ok⟩
  simp only [blop] at ok
  split at ok
  · rename_i bs e
    have := q.bls e
    subst this
    exact cr_any hc pins s σ H _ us Q I rs ⟨a, bs, rfl, hq, ok p H _ Xt.refl si (.bl _)⟩
  · exact ok.elim
theorem cr_sumL (hc : X.calm = true) : CallR X (.builtin "sum") (rRowL nm X.K Ek (blop .sum)) := by
  rintro pins s σ H xs us Q I rs ⟨p, h, ws, a, vs, si, rfl, hq, q, ok⟩
  simp only [blop] at ok
  split at ok
  · rename_i bs e
    have := q.ints e
    subst this
    exact cr_sum hc pins s σ H _ us Q I rs ⟨a, bs, rfl, hq, ok p H _ Xt.refl si (.int _)⟩
  · exact ok.elim
/-! ### methods -/
/-- a method of one argument -/
def rM1 (nm : Nm) (K : PySem.W.Frag) (Ek : XK) (f : W → W → Hm → R W) : V → List V → Hp → VK → Prop := fun x xs H Q => ∃ p h a b y, Sim nm K p h H ∧ xs = [y] ∧ RW K p H a x ∧ RW K p H b y ∧ Ok nm K Ek (GV K) p H (f a b h) Q
theorem mut_lst {H : Hp} {a : Addr} {vs : List V} (e : H a = some (.lst vs)) : Mut (H a) := by rw [e]; exact trivial
theorem mr_append : MtM X "list.append" (rM1 nm X.K Ek (met1 .append)) := by
  rintro pins s σ H x xs v us Q I rx rs ⟨p, h, a, b, y, si, rfl, ra, rb, ok⟩
  cases ra with
  | ref hr =>
    simp only [met1] at ok
    split at ok
    · rename_i l e
      split at ok
      · rename_i hl
        obtain ⟨vs, h1, q⟩ := si.lst hr e
        have x2 : Xt X.K p H p (upd H _ (.lst (vs ++ [y]))) := Xt.write (List.mem_of_getElem? hr) (mut_lst h1)
        refine mt_append pins s σ H _ _ v us Q I rx rs ⟨_, vs, y, rfl, rfl, h1, by rw [← q.length, ← line_eq]; exact hl, ?_⟩
        exact ok p _ _ x2 (si.write hr (mut_lst h1) ⟨_, upd_same, (q.to x2).append (.cons (rb.to x2) .nil)⟩) .non
      · exact ok.elim
    · exact ok.elim
  | _ => cases b <;> exact ok.elim
theorem mr_extend : MtM X "list.extend" (rM1 nm X.K Ek (met1 .extend)) := by
  rintro pins s σ H x xs v us Q I rx rs ⟨p, h, a, b, y, si, rfl, ra, rb, ok⟩
  cases ra with
  | ref hr =>
    simp only [met1] at ok
    split at ok
    · rename_i l m e1 e2
      split at ok
      · rename_i hl
        obtain ⟨vs, h1, q⟩ := si.lst hr e1
        obtain ⟨hz, its, n, t, ho⟩ := I.hok _ _ h1
        obtain ⟨b', us', its2, n2, dd, sl, rfl, q2, t2, z2, o2⟩ := lsO_ob I si rb e2
        obtain ⟨u, rfl, ru⟩ := vals1 rs
        obtain rfl : v = Value.ref _ := rx
        obtain rfl : u = Value.ref _ := ru
        have both : its.length + its2.length ≤ sizeLine := by rw [← t.length, ← t2.length, ← q.length, ← q2.length, ← line_eq]; exact hl
        have door : ¬ (!its.toArray.isEmpty && Builtin.List.listTooLong (its.toArray.size + its2.toArray.size)) = true := fun z => by
          rw [notLongL (show its.toArray.size + its2.toArray.size ≤ sizeLine by simpa using both), Bool.and_false] at z
          exact Bool.false_ne_true z
        have x2 : Xt X.K p H p (upd H _ (.lst (vs ++ us'))) := Xt.write (List.mem_of_getElem? hr) (mut_lst h1)
        refine call_meets F.slot_list_extend ⟨_, ho, rfl⟩ F.entry_list_extend (F.args_list_extend_2 _ _) (w_extend _ its.toArray n b' its2.toArray n2 dd sl door (by have := t.length; simp; omega) (by simp; omega)) ⟨ho, o2, ?_⟩
        refine ⟨.non, _, I.lset (its' := its ++ its2) h1 ho (by simp) (t.append t2) (by rw [List.length_append, t.length, t2.length]; exact both), rfl, ?_⟩
        exact ok p _ _ x2 (si.write hr (mut_lst h1) ⟨_, upd_same, (q.to x2).append (q2.to x2)⟩) .non
      · exact ok.elim
    · exact ok.elim
  | _ => cases b <;> exact ok.elim
theorem RWs.eraseIdx {K : PySem.W.Frag} {p : List Addr} {H : Hp} : ∀ {l : List W} {vs : List V} (i : Nat), RWs K p H l vs → RWs K p H (l.eraseIdx i) (vs.eraseIdx i)
  | _, _, _, .nil => .nil
  | _, _, 0, .cons _ r => r
  | _, _, i + 1, .cons a r => .cons a (RWs.eraseIdx i r)
theorem mr_popAt : MtM X "list.pop" (rM1 nm X.K Ek (met1 .popAt)) := by
  rintro pins s σ H x xs v us Q I rx rs ⟨p, h, a, b, y, si, rfl, ra, rb, ok⟩
  cases ra with
  | ref hr =>
    cases rb with
    | int k =>
      simp only [met1] at ok
      split at ok
      · rename_i l e
        split at ok
        · rename_i j ej
          split at ok
          · rename_i w ew
            obtain ⟨vs, h1, q⟩ := si.lst hr e
            obtain ⟨z, g, qz⟩ := q.get ew
            obtain ⟨k1, k2, k3, k4⟩ := ixN_seq (place_ix ej)
            obtain ⟨_, _, _, _, hz⟩ := I.lst h1
            have hl := q.length
            have hn := line63
            have x2 : Xt X.K p H p (upd H _ (.lst (vs.eraseIdx j))) := Xt.write (List.mem_of_getElem? hr) (mut_lst h1)
            refine mt_popAt pins s σ H _ _ v us Q I rx rs ⟨_, vs, k, j, z, rfl, rfl, h1, by omega, by omega, by rw [← hl]; exact k1, g, ?_⟩
            exact ok p _ _ x2 (si.write hr (mut_lst h1) ⟨_, upd_same, (q.to x2).eraseIdx j⟩) (qz.to x2)
          · exact ok.elim
        · exact ok.elim
      · exact ok.elim
    | _ => exact ok.elim
  | _ => cases b <;> exact ok.elim
theorem drop_eq (cs : List Nat) : ∀ l : List Nat, dropIn cs l = l.drop (l.takeWhile cs.contains).length
  | [] => rfl
  | c :: l => by
    unfold dropIn
    cases h : cs.contains c with
    | true => rw [if_pos rfl, List.takeWhile_cons, h, if_pos rfl, List.length_cons, List.drop_succ_cons]; exact drop_eq cs l
    | false => rw [if_neg Bool.false_ne_true, List.takeWhile_cons, h, if_neg Bool.false_ne_true]; rfl
theorem strip_eq (l cs : List Nat) : Txt.stripChars (st l) (st cs) = st (stripIn cs l) := by
  unfold Txt.stripChars
  rw [stripBy_eq]
  have g : (st cs).cps.contains = cs.contains := by funext c; simp
  rw [g]
  unfold stripIn
  have e1 : stripLo cs.contains true (st l) = (l.takeWhile cs.contains).length := by simp [stripLo]
  have e2 : ∀ lo, stripHi cs.contains true (st l) lo = l.length - ((l.drop lo).reverse.takeWhile cs.contains).length := fun lo => by simp [stripHi, Str.length]
  rw [e1, e2]
  generalize hlo : (l.takeWhile cs.contains).length = lo
  have d1 : dropIn cs l = l.drop lo := by rw [drop_eq, hlo]
  rw [d1, drop_eq cs (l.drop lo).reverse]
  generalize hk : ((l.drop lo).reverse.takeWhile cs.contains).length = k
  rw [List.drop_reverse, List.reverse_reverse]
  have : (Builtin.Str.strSub (st l) lo (l.length - k)) = st ((l.drop lo).take ((l.drop lo).length - k)) := by
    have t := StrLaws.strSub_toList (st l) lo (l.length - k)
    rw [← st_of (Builtin.Str.strSub (st l) lo (l.length - k)), t, st_tl, List.length_drop]
    congr 2
    omega
  exact this
theorem mr_strip : MtR X "str.strip" (rM1 nm X.K Ek (met1 .strip)) := by
  rintro pins s σ H x xs v us Q I rx rs ⟨p, h, a, b, y, si, rfl, ra, rb, ok⟩
  cases ra with
  | str l =>
    cases rb with
    | str cs =>
      simp only [met1] at ok
      split at ok
      · rename_i hl
        exact mt_stripChars pins s σ H _ _ v us Q I rx rs ⟨_, _, rfl, rfl, by rw [st_len, ← line_eq]; exact hl, by rw [strip_eq]; exact ok p H _ Xt.refl si (.str _)⟩
      · exact ok.elim
    | _ => exact ok.elim
  | _ => cases b <;> exact ok.elim
theorem spl_one (c : Nat) : ∀ (l acc : List Nat), TL.spl [c] 0 acc l = splitAt1 c acc l
  | [], acc => rfl
  | x :: l, acc => by
    unfold splitAt1
    by_cases h : x = c
    · rw [if_pos h]
      rw [TL.spl_hit (by subst h; simp [TL.pre])]
      simp only [List.length_singleton]
      rw [spl_one c l []]
    · rw [if_neg h, TL.spl_miss (by simp [TL.pre, h]), spl_one c l]
theorem RWs.ofStrs {K : PySem.W.Frag} {p : List Addr} {H : Hp} : ∀ (l : List (List Nat)), RWs K p H (l.map .str) ((l.map st).map V.str)
  | [] => .nil
  | x :: l => .cons (.str x) (RWs.ofStrs l)
theorem map_st_tl : ∀ l : List Str, (l.map fun z => z.cps.toList).map st = l
  | [] => rfl
  | z :: l => by rw [List.map_cons, List.map_cons, map_st_tl l, st_of]
theorem mr_split : MtR X "str.split" (rM1 nm X.K Ek (met1 .split)) := by
  rintro pins s σ H x xs v us Q I rx rs ⟨p, h, a, b, y, si, rfl, ra, rb, ok⟩
  cases ra with
  | str l =>
    cases rb with
    | str cs =>
      match cs, ok, rs with
      | [c], ok, rs =>
        simp only [met1] at ok
        split at ok
        · rename_i hl
          have e : Txt.split (st l) (st [c]) = (splitAt1 c [] l).map st := by
            have z := TL.split_spl (st l) (st [c]) (by simp [TL.tl]) (TL.kind_ok (by simp [hl.2]))
            have z2 : (Txt.split (st l) (st [c])).map (fun z => z.cps.toList) = splitAt1 c [] l := by
              rw [← spl_one]
              simpa [TL.tl] using z
            rw [← z2, map_st_tl]
          refine mtr_frz mt_split pins s σ H _ _ v us Q I rx rs ⟨_, _, rfl, rfl, by simp [Str.length], by rw [st_len, ← line_eq]; exact hl.1, ?_⟩
          rw [e]
          exact new_kl si (RWs.ofStrs _) ok
        · exact ok.elim
      | [], ok, _ => exact ok.elim
      | _ :: _ :: _, ok, _ => exact ok.elim
    | _ => exact ok.elim
  | _ => cases b <;> exact ok.elim
def rMR (nm : Nm) (K : PySem.W.Frag) (Ek : XK) (f : W → List W → Hm → R W) : V → List V → Hp → VK → Prop := fun x xs H Q => ∃ p h a ws b vs, Sim nm K p h H ∧ xs = [.ref b] ∧ (SqL K H b vs ∨ SqT K H b vs) ∧ RW K p H a x ∧ RWs K p H ws vs ∧ Ok nm K Ek (GV K) p H (f a ws h) Q
theorem join_st (s : List Nat) : ∀ l : List (List Nat), TL.joinL s l = joinS s l
  | [] => rfl
  | [x] => rfl
  | x :: y :: l => by
    show x ++ (s ++ TL.joinL s (y :: l)) = x ++ s ++ joinS s (y :: l)
    rw [join_st s (y :: l), List.append_assoc]
theorem mr_join : MtR X "str.join" (rMR nm X.K Ek joinop) := by
  rintro pins s σ H x xs v us Q I rx rs ⟨p, h, a, ws, b, vs, si, rfl, hq, ra, q, ok⟩
  cases ra with
  | str l =>
    simp only [joinop] at ok
    split at ok
    · rename_i s' r e1 e2
      cases e1
      split at ok
      · rename_i hz
        have := q.strs e2
        subst this
        refine mt_join pins s σ H _ _ v us Q I rx rs ⟨_, b, r.map st, rfl, rfl, hq, ?_, ?_⟩
        · have : (r.map st).map (·.length) = r.map List.length := by
            rw [List.map_map]
            exact List.map_congr_left fun z _ => st_len z
          rw [this, List.length_map, st_len]
          exact hz
        · have : Txt.join (st l) (r.map st) = st (joinS l r) := by
            rw [TL.join_eq, ← st_of (Str.join (st l) (r.map st))]
            congr 1
            have z := TL.tl_join (st l) (r.map st)
            have m : (r.map st).map TL.tl = r := by
              rw [List.map_map]
              conv => rhs; rw [← List.map_id r]
              exact List.map_congr_left fun z _ => by simp [TL.tl]
            rw [m] at z
            have z2 : (Str.join (st l) (r.map st)).cps.toList = TL.joinL l r := by simpa [TL.tl] using z
            rw [z2, join_st]
          rw [this]
          exact ok p H _ Xt.refl si (.str _)
      · exact ok.elim
    · exact ok.elim
  | _ => exact ok.elim
/-! ### isinstance -/
def kdN : Kd → String
  | .non => "NoneType"
  | .bool => "bool"
  | .int => "int"
  | .str => "str"
  | .tuple => "tuple"
  | .list => "list"
  | .dict => "dict"
  | .ins _ => "?"
def tyN : Ty → String
  | .bool => "bool"
  | .int => "int"
  | .str => "str"
  | .tuple => "tuple"
  | .list => "list"
  | .dict => "dict"
  | .cls _ => "?"
/-- a value's type, a class: as the model has them -/
def kdU (cl : Nat → Addr) : Kd → Value
  | .ins c => .ref (cl c)
  | k => .type (kdN k)
def tyU (cl : Nat → Addr) : Ty → Value
  | .cls c => .ref (cl c)
  | t => .type (tyN t)
def tyW (cl : Nat → Addr) : Ty → V
  | .cls c => .ref (cl c)
  | t => .ty (tyN t)
def bt : Ty → Bool
  | .cls _ => false
  | _ => true
def bk : Kd → Bool
  | .ins _ => false
  | _ => true
theorem kit_of2 (K : PySem.W.Frag) (cl : Nat → Addr) (k : Kd) (t : Ty) (hk : bk k = true) (ht : bt t = true) : PySem.W.kitOne K (kdU cl k) (tyU cl t) = some (isK k t) := by
  have key : PySem.W.kitOne K (.type (kdN k)) (.type (tyN t)) = some (isK k t) := by
    apply kit_ty
    cases t with
    | cls c => cases ht
    | _ => cases k with
      | ins c => cases hk
      | _ => decide +kernel
  have e1 : kdU cl k = .type (kdN k) := by cases k <;> first | rfl | cases hk
  have e2 : tyU cl t = .type (tyN t) := by cases t <;> first | rfl | cases ht
  rw [e1, e2]
  exact key
theorem kit_any (K : PySem.W.Frag) (cl : Nat → Addr) (k : Kd) : ∀ (ts : List Ty), (∀ t ∈ ts, PySem.W.kitOne K (kdU cl k) (tyU cl t) = some (isK k t)) → PySem.W.kitAny K (kdU cl k) (ts.map (tyU cl)) = some (ts.any (isK k))
  | [], _ => rfl
  | t :: ts, hb => by
    refine kitAny_cons (hb t (by simp)) (fun e => ?_) fun e => by simp [e]
    rw [kit_any K cl k ts fun t ht => hb t (by simp [ht])]
    simp [e]
/-- what isinstance asks of the class of an instance -/
structure InsOk (K : PySem.W.Frag) (C : Addr) : Prop where
  cl : Cls K C
  ha : PySem.W.findIn K (.ref C) "__class__" = some (some (.builtin "object.__class__"))
  hn : PySem.W.specialIn K (.builtin "object.__class__") "__get__" = some (some (.builtin "getset_descriptor.__get__"))
  ht : PySem.W.takesIn K (.builtin "object.__class__") = some true
  hm : PySem.W.mroIn K C (.type "object") = some true
theorem kd_ty {p : List Addr} {h : Hm} {H : Hp} {w : W} {v : V} {k : Kd} (si : Sim nm X.K p h H) (r : RW X.K p H w v) (e : kd h w = some k) (hi : ∀ c, k = .ins c → InsOk X.K (nm.cls c)) : TyX X.K H v (kdU nm.cls k) := by
  cases r with
  | non => cases e; exact .base .non
  | bl b => cases e; exact .base (.bl b)
  | int i => cases e; exact .base (.int i)
  | str l => cases e; exact .base (.str _)
  | tup hl ql =>
    cases e
    rcases hl with (hl | ⟨o, hl⟩) | ⟨o, its, n, hk, hc, _⟩
    · exact .base (.tup hl)
    · exact .fTuple hl
    · exact .kTuple hk hc
  | kl hl ql =>
    cases e
    rcases hl with ⟨o, hl⟩ | ⟨o, its, n, hk, hc, _⟩
    · exact .base (.frz hl)
    · exact .kList hk hc
  | ref hr =>
    simp only [kd] at e
    split at e
    · rename_i l q
      cases e
      obtain ⟨vs, h1, _⟩ := si.lst hr q
      exact .base (.lst h1)
    · rename_i l q
      cases e
      obtain ⟨a, e1, vs, e2, q2⟩ := si.get q
      rw [hr] at e1; cases e1
      exact .base (.dK e2)
    · rename_i c fs q
      cases e
      obtain ⟨a, e1, dx, vs, e2, q2⟩ := si.get q
      rw [hr] at e1; cases e1
      have i := hi c rfl
      exact .base (.ins e2 i.cl i.ha i.hn i.ht i.hm)
    · cases e
theorem clsVs (cl : Nat → Addr) : ∀ ts : List Ty, Paired ClsV (ts.map (tyW cl)) (ts.map (tyU cl))
  | [] => .nil
  | t :: ts => .cons (by cases t <;> first | exact .ty _ | exact .own _) (clsVs cl ts)
end
end M2

namespace M2
open PySem PySem.Spec PyProof.Rows L2
/-! ### what an expression's meanings are worth -/
abbrev GRw (K : PySem.W.Frag) (b : Bool) : List Addr → Hp → List W → V → Prop := fun p H w v => ∃ a vs, v = .ref a ∧ (SqL K H a vs ∨ (b = false ∧ SqT K H a vs)) ∧ RWs K p H w vs
def tRw (nm : Nm) (K : PySem.W.Frag) (Ek : XK) (b : Bool) (ev : DL) : TE := fun σ H Q => ∃ p s h, Sim nm K p h H ∧ Er K p H s σ ∧ Ok nm K Ek (GRw K b) p H (ev s h) Q
def isBool : Expr → Bool
  | .BoolOp .. => true
  | _ => false
structure EOk (nm : Nm) (Ek : XK) (X : L2.Cx) (e : Expr) (d : Den) : Prop where
  v : PE X e (tV nm X.K Ek d.v)
  l : PE X e (tRw nm X.K Ek (rawForm e) d.l)
  t : plainTest e = true → PT X e (M2.tB nm X.K Ek d.t)
  w : isBool e = true → PW X e (M2.tB nm X.K Ek d.t)
section
variable {nm : Nm} {X : L2.Cx} {Ek : XK}
theorem then_assoc {A B C : Type} {r : R A} {f : A → Hm → R B} {g : B → Hm → R C} : (r.then f).then g = r.then fun a h => (f a h).then g := by cases r <;> rfl
theorem l_bad {e : Expr} {b : Bool} : PE X e (tRw nm X.K Ek b fun _ _ => .bad) := ⟨fun _ _ _ _ _ _ ⟨_, _, _, _, _, ok⟩ => ok.elim⟩
theorem row_of {p : List Addr} {H : Hp} {h : Hm} {w : W} {v : V} {l : List W} (si : Sim nm X.K p h H) (r : RW X.K p H w v) (e : itemsOf h w = some l) : GRw X.K false p H l v := by
  cases r with
  | tup hl ql => cases e; exact ⟨_, _, rfl, .inr ⟨rfl, hl⟩, ql⟩
  | kl hl ql => cases e; exact ⟨_, _, rfl, .inl hl.sq, ql⟩
  | ref hr =>
    obtain ⟨vs, h1, q⟩ := si.lst hr (asL_lst e)
    exact ⟨_, _, rfl, .inl (SqL.of h1), q⟩
  | _ => cases e
/-- a value's row -/
theorem l_of {e : Expr} {v : DV} (hv : PE X e (tV nm X.K Ek v)) : PE X e (tRw nm X.K Ek false fun s h => (v s h).then rowOf) := by
  refine PEi hv fun σ H Q ⟨p, s, h, si, er, ok⟩ => ⟨p, s, h, si, er, ok.then fun w h1 p1 H1 x _ x1 s1 r1 ok1 => ?_⟩
  unfold rowOf at ok1
  split at ok1
  · rename_i l e1
    exact ok1 p1 H1 x Xt.refl s1 (row_of s1 r1 e1)
  · exact ok1.elim
def SoleTest (X : L2.Cx) (e : Expr) : Prop := ∀ whole, isTrue e X.env whole = (do let v ← whole; standAt e.pos; holding [v] (truthy v))
theorem t_of {e : Expr} {v : DV} (hv : PE X e (tV nm X.K Ek v)) (ht : SoleTest X e) : PT X e (M2.tB nm X.K Ek fun s h => (v s h).then truthOf) := by
  refine PTi (pt_truth hv ht) fun σ H Q ⟨p, s, h, si, er, ok⟩ => ⟨p, s, h, si, er, ok.then fun w h1 p1 H1 x _ x1 s1 r1 ok1 => ?_⟩
  unfold truthOf at ok1
  split at ok1
  · rename_i b e1
    exact ⟨b, TruV_of s1 r1 e1, ok1 p1 H1 b Xt.refl s1 rfl⟩
  · exact ok1.elim
theorem mkV_ok {e : Expr} {v : DV} (hv : PE X e (tV nm X.K Ek v)) (ht : SoleTest X e) (hr : rawForm e = false) (hb : isBool e = false) : EOk nm Ek X e (mkV v) :=
  ⟨hv, by rw [hr]; exact l_of hv, fun _ => t_of hv ht, fun z => by rw [hb] at z; cases z⟩
/-! ### comparisons as tests -/
theorem then_ok {A B : Type} {r : R A} {k : A → Hm → R B} {b : B} {h' : Hm} (e : r.then k = .ok b h') : ∃ a h1, r = .ok a h1 ∧ k a h1 = .ok b h' := by
  cases r with
  | ok a h => exact ⟨a, h, rfl, e⟩
  | _ => cases e
theorem rb_bl {o : Option Bool} {h h' : Hm} {w : W} (e : M2.rb o h = .ok w h') : ∃ k, w = .bl k := by
  cases o with
  | none => cases e
  | some b => cases e; exact ⟨b, rfl⟩
theorem rnb_bl {o : Option Bool} {h h' : Hm} {w : W} (e : M2.rnb o h = .ok w h') : ∃ k, w = .bl k := by
  cases o with
  | none => cases e
  | some b => cases e; exact ⟨_, rfl⟩
theorem cmpop_bl {o : Cop} {x y w : W} {h h' : Hm} (e : cmpop o x y h = .ok w h') : ∃ k, w = .bl k := by
  cases o with
  | eq => exact rb_bl e
  | ne => exact rnb_bl e
  | mem => exact rb_bl e
  | nmem => exact rnb_bl e
  | _ => cases x <;> cases y <;> first
    | (cases e; exact ⟨_, rfl⟩)
    | cases e
/-- a value that is a truth, as a test -/
theorem test_of {v : DV} {σ : Sg} {H : Hp} {Q : Bool → Hp → Prop} (hb : ∀ s h w h', v s h = .ok w h' → ∃ k, w = .bl k) (h : M2.tB nm X.K Ek (fun s h => (v s h).then truthOf) σ H Q) : tV nm X.K Ek v σ H (fun x H' => ∃ k, x = .bl k ∧ Q k H') := by
  obtain ⟨p, s, h, si, er, ok⟩ := h
  refine ⟨p, s, h, si, er, ok.then fun w h1 p1 H1 x ev x1 s1 r1 ok1 => ?_⟩
  obtain ⟨k, rfl⟩ := hb _ _ _ _ ev
  cases r1
  exact ⟨k, rfl, ok1 p1 H1 k Xt.refl s1 rfl⟩
theorem e_cmpT {op : CmpOp} {a b : Expr} {pos : Pos} {da db : DV} {o : Cop} (ho : OpR X (compareOp op) (rOp nm X.K Ek (cmpop o))) (ha : PE X a (tV nm X.K Ek da)) (hb : PE X b (tV nm X.K Ek db)) (hm : behindInMarks op b = false) :
    EOk nm Ek X (.Compare a [op] [b] pos) (mkV fun s h => (da s h).then fun x h1 => (db s h1).then fun y h2 => cmpop o x y h2) := by
  refine ⟨e_cmp ho ha hb hm, l_of (e_cmp ho ha hb hm), fun _ => ?_, fun z => nomatch z⟩
  refine PTi (pt_cmpR ho ha hb hm) fun σ H Q h => tOp_of (test_of (fun s h w h' e => ?_) h)
  obtain ⟨_, _, _, e1⟩ := then_ok e
  obtain ⟨_, _, _, e2⟩ := then_ok e1
  exact cmpop_bl e2
theorem chainV_bl {p : Cop} {y : W} {c : Hm → R W} {w : W} {h h' : Hm} {z : W} (e : chainV p y c w h = .ok z h') : ∃ k, z = .bl k := by
  unfold chainV at e
  split at e
  · obtain ⟨_, _, _, e1⟩ := then_ok e
    exact cmpop_bl e1
  · cases e; exact ⟨_, rfl⟩
  · cases e
theorem chain_imp {f : W → W → Hm → R W} {o' : Cop} {da db dc : DV} : ∀ σ H Q, tV nm X.K Ek (fun s h => (da s h).then fun x h1 => (db s h1).then fun y h2 => (f x y h2).then (chainV o' y (dc s))) σ H Q →
    tChain (rOp nm X.K Ek f) (rOp nm X.K Ek (cmpop o')) (tV nm X.K Ek da) (tV nm X.K Ek db) (tV nm X.K Ek dc) σ H Q := by
  rintro σ H Q ⟨p, s, h, si, er, ok⟩
  refine ⟨p, s, h, si, er, ok.then fun w h1 p1 H1 x _ x1 s1 r1 ok1 => ⟨p1, s, h1, s1, er.mono x1, ok1.then fun w2 h2 p2 H2 y _ x2 s2 r2 ok2 => ?_⟩⟩
  refine ⟨p2, h2, w, w2, s2, r1.to x2, r2, ok2.then fun w3 h3 p3 H3 z _ x3 s3 r3 ok3 => ?_⟩
  cases r3 with
  | bl k =>
    refine ⟨k, rfl, ?_⟩
    cases k with
    | true =>
      rw [if_pos rfl]
      exact ⟨p3, s, h3, s3, ((er.mono x1).mono x2).mono x3, ok3.then fun w4 h4 p4 H4 u _ x4 s4 r4 ok4 => ⟨p4, h4, w2, w4, s4, (r2.to x3).to x4, r4, ok4⟩⟩
    | false =>
      rw [if_neg Bool.false_ne_true]
      exact ok3 p3 H3 _ Xt.refl s3 (.bl false)
  | _ => exact ok3.elim
theorem e_cmp2T {op op' : CmpOp} {a b c : Expr} {pos : Pos} {da db dc : DV} {o o' : Cop} (ho : OpR X (compareOp op) (rOp nm X.K Ek (cmpop o))) (ho' : OpR X (compareOp op') (rOp nm X.K Ek (cmpop o')))
    (ha : PE X a (tV nm X.K Ek da)) (hb : PE X b (tV nm X.K Ek db)) (hc : PE X c (tV nm X.K Ek dc)) (hm : lastMarks [op, op'] [b, c] = false) :
    EOk nm Ek X (.Compare a [op, op'] [b, c] pos) (mkV fun s h => (da s h).then fun x h1 => (db s h1).then fun y h2 => (cmpop o x y h2).then (chainV o' y (dc s))) := by
  have hv : PE X (.Compare a [op, op'] [b, c] pos) (tV nm X.K Ek fun s h => (da s h).then fun x h1 => (db s h1).then fun y h2 => (cmpop o x y h2).then (chainV o' y (dc s))) := PEi (pe_chain ho ho' ha hb hc hm) chain_imp
  refine ⟨hv, l_of hv, fun _ => ?_, fun z => nomatch z⟩
  refine PTi (pt_chain ho ho' ha hb hc hm) fun σ H Q h => chain_imp _ _ _ (test_of (fun s h w h' e => ?_) h)
  obtain ⟨_, _, _, e1⟩ := then_ok e
  obtain ⟨_, _, _, e2⟩ := then_ok e1
  obtain ⟨_, _, _, e3⟩ := then_ok e2
  exact chainV_bl e3
/-! ### not, and, or, if -/
theorem e_not {a : Expr} {pos : Pos} {d : Den} (ha : EOk nm Ek X a d) (hp : plainTest a = true) : EOk nm Ek X (.UnaryOp .Not a pos) ⟨fun s h => ((d.v s h).then truthOf).then notV, fun _ _ => .bad, fun s h => (d.t s h).then notB⟩ := by
  refine ⟨PEi (pe_notT ha.v) fun σ H Q ⟨p, s, h, si, er, ok⟩ => ?_, l_bad, fun _ => PTi (pt_not (ha.t hp)) fun σ H Q ⟨p, s, h, si, er, ok⟩ => ?_, fun z => nomatch z⟩
  · simp only [then_assoc] at ok
    refine ⟨p, s, h, si, er, ok.then fun w h1 p1 H1 x _ x1 s1 r1 ok1 => ?_⟩
    unfold truthOf at ok1
    split at ok1
    · rename_i b e1
      exact ⟨b, TruV_of s1 r1 e1, ok1 p1 H1 _ Xt.refl s1 (.bl _)⟩
    · exact ok1.elim
  · refine ⟨p, s, h, si, er, ok.then fun b h1 p1 H1 c _ x1 s1 r1 ok1 => ?_⟩
    cases (show b = c from r1)
    exact ok1 p1 H1 _ Xt.refl s1 rfl
theorem and_imp {d e : Den} : ∀ σ H Q, tV nm X.K Ek (fun s h => (d.v s h).then (andV (e.v s))) σ H Q → tAndT X.K (tV nm X.K Ek d.v) (tV nm X.K Ek e.v) σ H Q := by
  rintro σ H Q ⟨p, s, h, si, er, ok⟩
  refine ⟨p, s, h, si, er, ok.then fun w h1 p1 H1 x _ x1 s1 r1 ok1 => ?_⟩
  unfold andV at ok1
  split at ok1
  · rename_i e1
    exact ⟨true, TruV_of s1 r1 e1, by rw [if_pos rfl]; exact ⟨p1, s, h1, s1, er.mono x1, ok1⟩⟩
  · rename_i e1
    exact ⟨false, TruV_of s1 r1 e1, by rw [if_neg Bool.false_ne_true]; exact ok1 p1 H1 x Xt.refl s1 r1⟩
  · exact ok1.elim
theorem or_imp {d e : Den} : ∀ σ H Q, tV nm X.K Ek (fun s h => (d.v s h).then (orV (e.v s))) σ H Q → tOrT X.K (tV nm X.K Ek d.v) (tV nm X.K Ek e.v) σ H Q := by
  rintro σ H Q ⟨p, s, h, si, er, ok⟩
  refine ⟨p, s, h, si, er, ok.then fun w h1 p1 H1 x _ x1 s1 r1 ok1 => ?_⟩
  unfold orV at ok1
  split at ok1
  · rename_i e1
    exact ⟨true, TruV_of s1 r1 e1, by rw [if_pos rfl]; exact ok1 p1 H1 x Xt.refl s1 r1⟩
  · rename_i e1
    exact ⟨false, TruV_of s1 r1 e1, by rw [if_neg Bool.false_ne_true]; exact ⟨p1, s, h1, s1, er.mono x1, ok1⟩⟩
  · exact ok1.elim
theorem tand_imp {d e : Den} : ∀ σ H Q, M2.tB nm X.K Ek (fun s h => (d.t s h).then (iteB (e.t s) (fun h1 => .ok false h1))) σ H Q → tAnd (M2.tB nm X.K Ek d.t) (M2.tB nm X.K Ek e.t) σ H Q := by
  rintro σ H Q ⟨p, s, h, si, er, ok⟩
  refine ⟨p, s, h, si, er, ok.then fun b h1 p1 H1 c _ x1 s1 r1 ok1 => ?_⟩
  cases (show b = c from r1)
  cases b with
  | true => rw [if_pos rfl]; exact ⟨p1, s, h1, s1, er.mono x1, ok1⟩
  | false => rw [if_neg Bool.false_ne_true]; exact ok1 p1 H1 _ Xt.refl s1 rfl
theorem tor_imp {d e : Den} : ∀ σ H Q, M2.tB nm X.K Ek (fun s h => (d.t s h).then (iteB (fun h1 => .ok true h1) (e.t s))) σ H Q → tOr (M2.tB nm X.K Ek d.t) (M2.tB nm X.K Ek e.t) σ H Q := by
  rintro σ H Q ⟨p, s, h, si, er, ok⟩
  refine ⟨p, s, h, si, er, ok.then fun b h1 p1 H1 c _ x1 s1 r1 ok1 => ?_⟩
  cases (show b = c from r1)
  cases b with
  | true => rw [if_pos rfl]; exact ok1 p1 H1 _ Xt.refl s1 rfl
  | false => rw [if_neg Bool.false_ne_true]; exact ⟨p1, s, h1, s1, er.mono x1, ok1⟩
def dAnd (d e : Den) : Den := ⟨fun s h => (d.v s h).then (andV (e.v s)), fun _ _ => .bad, fun s h => (d.t s h).then (iteB (e.t s) (fun h1 => .ok false h1))⟩
def dOr (d e : Den) : Den := ⟨fun s h => (d.v s h).then (orV (e.v s)), fun _ _ => .bad, fun s h => (d.t s h).then (iteB (fun h1 => .ok true h1) (e.t s))⟩
theorem e_and2 {a b : Expr} {pos : Pos} {d e : Den} (ha : EOk nm Ek X a d) (hb : EOk nm Ek X b e) (h1 : plainTest a = true) (h2 : plainTest b = true) : EOk nm Ek X (.BoolOp .And [a, b] pos) (dAnd d e) := by
  have hw : PW X (.BoolOp .And [a, b] pos) (M2.tB nm X.K Ek (dAnd d e).t) := ⟨fun wh pins s σ H Q I h => (pw_and (ha.t h1) (pw_and1 (hb.t h2))).run wh pins s σ H Q I (tand_imp _ _ _ h)⟩
  exact ⟨PEi (pe_andT ha.v (pe_one hb.v)) and_imp, l_bad, fun _ => hw.pt, fun _ => hw⟩
theorem e_or2 {a b : Expr} {pos : Pos} {d e : Den} (ha : EOk nm Ek X a d) (hb : EOk nm Ek X b e) (h1 : plainTest a = true) (h2 : plainTest b = true) : EOk nm Ek X (.BoolOp .Or [a, b] pos) (dOr d e) := by
  have hw : PW X (.BoolOp .Or [a, b] pos) (M2.tB nm X.K Ek (dOr d e).t) := ⟨fun wh pins s σ H Q I h => (pw_or (ha.t h1) (pw_or1 (hb.t h2))).run wh pins s σ H Q I (tor_imp _ _ _ h)⟩
  exact ⟨PEi (pe_orT ha.v (pe_one hb.v)) or_imp, l_bad, fun _ => hw.pt, fun _ => hw⟩
theorem e_and3 {a b : Expr} {r : List Expr} {pos : Pos} {d e : Den} (ha : EOk nm Ek X a d) (hb : EOk nm Ek X (.BoolOp .And (b :: r) pos) e) (h1 : plainTest a = true) : EOk nm Ek X (.BoolOp .And (a :: b :: r) pos) (dAnd d e) := by
  have hw : PW X (.BoolOp .And (a :: b :: r) pos) (M2.tB nm X.K Ek (dAnd d e).t) := ⟨fun wh pins s σ H Q I h => (pw_and (ha.t h1) (hb.w rfl)).run wh pins s σ H Q I (tand_imp _ _ _ h)⟩
  exact ⟨PEi (pe_andT ha.v hb.v) and_imp, l_bad, fun _ => hw.pt, fun _ => hw⟩
theorem e_or3 {a b : Expr} {r : List Expr} {pos : Pos} {d e : Den} (ha : EOk nm Ek X a d) (hb : EOk nm Ek X (.BoolOp .Or (b :: r) pos) e) (h1 : plainTest a = true) : EOk nm Ek X (.BoolOp .Or (a :: b :: r) pos) (dOr d e) := by
  have hw : PW X (.BoolOp .Or (a :: b :: r) pos) (M2.tB nm X.K Ek (dOr d e).t) := ⟨fun wh pins s σ H Q I h => (pw_or (ha.t h1) (hb.w rfl)).run wh pins s σ H Q I (tor_imp _ _ _ h)⟩
  exact ⟨PEi (pe_orT ha.v hb.v) or_imp, l_bad, fun _ => hw.pt, fun _ => hw⟩
theorem e_ite {c a b : Expr} {pos : Pos} {dc da db : Den} (hc : EOk nm Ek X c dc) (ha : EOk nm Ek X a da) (hb : EOk nm Ek X b db) (hp : plainTest c = true) : EOk nm Ek X (.IfExp c a b pos) (mkV fun s h => (dc.t s h).then (iteB (da.v s) (db.v s))) := by
  have hv : PE X (.IfExp c a b pos) (tV nm X.K Ek fun s h => (dc.t s h).then (iteB (da.v s) (db.v s))) := by
    refine PEi (pe_ifExp (hc.t hp) ha.v hb.v) fun σ H Q ⟨p, s, h, si, er, ok⟩ => ?_
    refine ⟨p, s, h, si, er, ok.then fun b h1 p1 H1 c _ x1 s1 r1 ok1 => ?_⟩
    cases (show b = c from r1)
    cases b with
    | true => rw [if_pos rfl]; exact ⟨p1, s, h1, s1, er.mono x1, ok1⟩
    | false => rw [if_neg Bool.false_ne_true]; exact ⟨p1, s, h1, s1, er.mono x1, ok1⟩
  exact ⟨hv, l_of hv, nofun, nofun⟩
/-! ### displays -/
theorem e_tup {es : List Expr} {k : Nat} {pos : Pos} {d : DL} (h : PA X es (tLs nm X.K Ek d)) : EOk nm Ek X (.Tuple es k pos) (mkV fun s h => (d s h).then tupV) := by
  refine mkV_ok (PEi (pe_tup h) fun σ H Q ⟨p, s, h, si, er, ok⟩ => ?_) (fun _ => rfl) rfl rfl
  refine ⟨p, s, h, si, er, ok.then fun ws h1 p1 H1 vs _ x1 s1 r1 ok1 => ?_⟩
  unfold tupV at ok1
  split at ok1
  · rename_i hz
    exact ⟨by rw [← (show RWs X.K p1 H1 ws vs from r1).length, ← line_eq]; exact hz, new_tup s1 r1 ok1⟩
  · exact ok1.elim
/-- a list that may be written -/
theorem new_ok {e : Expr} {d : Den} (h : PE X e (tV nm X.K Ek fun s h => (d.v s h).then thaw)) (ht : SoleTest X e) (hb : isBool e = false) : EOk nm Ek X e (newD' d) := by
  refine ⟨h, ?_, fun _ => t_of h ht, fun z => by rw [hb] at z; cases z⟩
  cases hr : rawForm e with
  | false => exact l_of h
  | true =>
    refine PEi h fun σ H Q ⟨p, s, h, si, er, ok⟩ => ⟨p, s, h, si, er, Ok.then ok fun w h1 p1 H1 x ew x1 s1 r1 ok1 => ?_⟩
    obtain ⟨l, h2, _, e2⟩ := then_ok ew
    unfold thaw at e2
    split at e2
    · cases e2
      unfold rowOf at ok1
      split at ok1
      · rename_i m em
        cases r1 with
        | ref hr =>
          obtain ⟨vs, g1, q⟩ := s1.lst hr (asL_lst em)
          exact ok1 p1 H1 _ Xt.refl s1 ⟨_, vs, rfl, .inl (SqL.of g1), q⟩
      · exact ok1.elim
    · cases e2
theorem thaw_kl {A : Type} (r : R A) (f : A → Hm → R (List W)) : ((r.then f).then klV).then thaw = (r.then f).then newL := by cases r <;> first | rfl | (rename_i a h; show ((f a h).then klV).then thaw = (f a h).then newL; cases f a h <;> rfl)
theorem lst_new {es : List Expr} {pos : Pos} {d : DL} (h : PA X es (tLs nm X.K Ek d)) : PE X (.List es pos) (tV nm X.K Ek fun s h => ((d s h).then short).then newL) := by
  refine PEi (pe_lst h) fun σ H Q ⟨p, s, h, si, er, ok⟩ => ?_
  simp only [then_assoc] at ok
  refine ⟨p, s, h, si, er, ok.then fun ws h1 p1 H1 vs _ x1 s1 r1 ok1 => ?_⟩
  unfold short at ok1
  split at ok1
  · rename_i hz
    exact ⟨by rw [← (show RWs X.K p1 H1 ws vs from r1).length, ← line_eq]; exact hz, new_lst s1 r1 ok1⟩
  · exact ok1.elim
theorem e_lst {es : List Expr} {pos : Pos} {d : DL} (h : PA X es (tLs nm X.K Ek d)) : EOk nm Ek X (.List es pos) (mkL fun s h => (d s h).then short) := by
  have hv : PE X (.List es pos) (tV nm X.K Ek fun s h => ((d s h).then short).then klV) := by
    refine PEi (pe_frz (pe_lst h)) fun σ H Q ⟨p, s, h, si, er, ok⟩ => ?_
    simp only [then_assoc] at ok
    refine ⟨p, s, h, si, er, ok.then fun ws h1 p1 H1 vs _ x1 s1 r1 ok1 => ?_⟩
    unfold short at ok1
    split at ok1
    · rename_i hz
      exact ⟨by rw [← (show RWs X.K p1 H1 ws vs from r1).length, ← line_eq]; exact hz, new_kl s1 r1 ok1⟩
    · exact ok1.elim
  refine ⟨hv, ?_, fun _ => t_of hv fun _ => rfl, fun z => nomatch z⟩
  refine PEi (pe_lst h) fun σ H Q ⟨p, s, h, si, er, ok⟩ => ?_
  refine ⟨p, s, h, si, er, Ok.then ok fun ws h1 p1 H1 vs _ x1 s1 r1 ok1 => ?_⟩
  unfold short at ok1
  split at ok1
  · rename_i hz
    refine ⟨by rw [← (show RWs X.K p1 H1 ws vs from r1).length, ← line_eq]; exact hz, fun a ha => ?_⟩
    exact ok1 p1 _ (.ref a) (Xt.beside ha) (s1.beside ha) ⟨a, vs, rfl, .inl (SqL.of upd_same), (show RWs X.K p1 H1 ws vs from r1).to (Xt.beside ha)⟩
  · exact ok1.elim
theorem e_dct0 {pos : Pos} : EOk nm Ek X (.Dict [] [] pos) (mkV fun _ h => (R.ok [] h).then dctV) := by
  refine mkV_ok (PEi pe_dnewK fun σ H Q ⟨p, s, h, si, er, ok⟩ => ?_) (fun _ => rfl) rfl rfl
  exact fun a ha => ok (p ++ [a]) _ _ (Xt.laid ha) (si.laid ha ⟨[], upd_same, .nil⟩) (.ref (by rw [← si.len]; simp))
/-- one part, the rest told from an earlier state -/
theorem Ok.thenO {A B A' B' : Type} {K : PySem.W.Frag} {G : List Addr → Hp → A → B → Prop} {G' : List Addr → Hp → A' → B' → Prop} {p p0 : List Addr} {H H0 : Hp} {r : R A} {k : A → Hm → R A'} {Q : B' → Hp → Prop} {Q' : B → Hp → Prop} (x0 : Xt K p H p0 H0) (h : Ok nm K Ek G' p H (r.then k) Q)
    (hk : ∀ a h1 p1 H1 b, r = .ok a h1 → Xt K p0 H0 p1 H1 → Sim nm K p1 h1 H1 → G p1 H1 a b → Ok nm K Ek G' p H (k a h1) Q → Q' b H1) : Ok nm K Ek G p0 H0 r Q' := by
  cases r with
  | ok a h' => exact fun p' H' b x' s' g => hk a h' p' H' b rfl x' s' g h
  | exc c ws h' => exact fun p' H' d x' s' g => h p' H' d (x0.trans x') s' g
  | bad => exact h
/-- an own thing beside is taken among the objects -/
theorem Sim.adopt {K : PySem.W.Frag} {p : List Addr} {h : Hm} {H : Hp} (x : Sim nm K p h H) {a : Addr} {u : HO} {o : O} (na : a ∉ p) (mu : Mut (H a)) (r : RO nm K (p ++ [a]) (upd H a u) o a) : Sim nm K (p ++ [a]) (h ++ [o]) (upd H a u) := by
  refine ⟨by simp [x.len], List.nodup_append.mpr ⟨x.nd, by simp, fun c hc b hb => ?_⟩, fun i o' b e q => ?_⟩
  · have : b = a := by simpa using hb
    subst this
    rintro rfl
    exact na hc
  · by_cases hi : i < p.length
    · rw [List.getElem?_append_left hi] at q
      rw [List.getElem?_append_left (by rw [← x.len]; exact hi)] at e
      exact (x.at_ i o' b e q).mono (List.prefix_append p [a]) (Kp.write mu) (upd_ne fun z => na (z ▸ List.mem_of_getElem? q))
    · have hlt := (List.getElem?_eq_some_iff.mp e).1
      have hi2 : i = p.length := by
        rw [List.length_append, List.length_singleton] at hlt
        have := x.len
        omega
      subst hi2
      rw [List.getElem?_append_right (Nat.le_refl _), Nat.sub_self] at q
      rw [List.getElem?_append_right (by rw [x.len]; exact Nat.le_refl _), x.len, Nat.sub_self] at e
      cases q
      cases e
      exact r
/-- a thing laid beside ahead of the rest, taken among the objects at the end -/
theorem Xt.adopt {K : PySem.W.Frag} {p p2 : List Addr} {H H2 : Hp} {a : Addr} {u : HO} (ha : H a = none) (x : Xt K p H p2 H2) (mu : Mut (H2 a)) : Xt K p H (p2 ++ [a]) (upd H2 a u) := by
  refine ⟨x.pre.trans (List.prefix_append _ _), x.kp.trans (Kp.write mu), fun c v e n => ?_, fun c z n => ?_⟩
  · rw [upd_ne (ne_of_none e ha)]; exact x.fr c v e n
  · rcases List.mem_append.mp z with z | z
    · exact x.new c z n
    · have : c = a := by simpa using z
      rw [this]; exact ha
/-- what stands beside stands on -/
theorem Xt.stay {K : PySem.W.Frag} {p p1 : List Addr} {H H1 : Hp} (x : Xt K p H p1 H1) {a : Addr} {u : HO} (e : H a = some u) (n : a ∉ p) : H1 a = some u ∧ a ∉ p1 :=
  ⟨x.fr a u e n, fun z => by rw [x.new a z n] at e; cases e⟩
theorem e_dct1 {k v : Expr} {pos : Pos} {dk dv : DV} (hk : PE X k (tV nm X.K Ek dk)) (hv : PE X v (tV nm X.K Ek dv)) :
    EOk nm Ek X (.Dict [some k] [v] pos) (mkV fun s h => ((dk s h).then fun x h1 => ((dv s h1).then fun y h2 => (R.ok [] h2).then fun ws h3 => .ok (y :: ws) h3).then fun ws h2 => .ok (x :: ws) h2).then dctV) := by
  refine mkV_ok (PEi (pe_disp (pps_cons hk hv pps_nil) rfl rfl (by simp) (by simp)) fun σ H Q ⟨p, s, h, si, er, ok⟩ => ?_) (fun _ => rfl) rfl rfl
  intro a ha
  simp only [then_assoc] at ok
  have x0 : Xt X.K p H p (upd H a (.dK [])) := Xt.beside ha
  have np : a ∉ p := fun z => by obtain ⟨v, hv⟩ := si.mem z; rw [ha] at hv; cases hv
  refine ⟨p, s, h, si.beside ha, er.mono x0, Ok.thenO x0 ok fun w h1 p1 H1 x _ x1 s1 r1 ok1 => ⟨p1, s, h1, s1, (er.mono x0).mono x1, Ok.thenO (x0.trans x1) ok1 fun w2 h2 p2 H2 y _ x2 s2 r2 ok2 => ?_⟩⟩
  have r1' := (show RW X.K p1 H1 w x from r1).to x2
  obtain ⟨a1, np1⟩ := x1.stay (upd_same (o := HO.dK [])) np
  obtain ⟨a2, np2⟩ := x2.stay a1 np1
  cases r1' with
  | str l =>
    refine ⟨a2, [(.inr (st l), y)], rfl, by simp, ?_⟩
    have mu : Mut (H2 a) := by rw [a2]; exact trivial
    have xx : Xt X.K p H (p2 ++ [a]) (upd H2 a (.dK (mergeK [] [(.inr (st l), y)]))) := Xt.adopt ha ((x0.trans x1).trans x2) mu
    have kp : Kp X.K H2 (upd H2 a (.dK (mergeK [] [(.inr (st l), y)]))) := Kp.write mu
    refine ok2 (p2 ++ [a]) _ _ xx (s2.adopt np2 mu ⟨_, upd_same, ?_⟩) (.ref (by rw [← s2.len]; simp))
    exact .cons rfl (by simp) (r2.mono (List.prefix_append _ _) kp) .nil
  | _ => exact ok2.elim
end
end M2

namespace M2
open PySem PySem.Spec PyProof.Rows L2
abbrev NoE : XK := fun _ _ _ => False
/-- a called def -/
abbrev spM (nm : Nm) (K : PySem.W.Frag) (f : List W → Hm → R W) : Sp := fun vs H Q E => rFn nm K E f vs H Q
def CallOk (nm : Nm) (C : Ctx) (X : L2.Cx) (x : Str) (i : Nat) : Prop := ∃ k f fd ps, FnOk X.prog X.w X.K X.mg X.base (CX X.prog X.w) k f fd ps (spM nm X.K (C.call i)) ∧ Room k X.A ∧ X.mg x = some (.ref f) ∧ PySem.W.keepIn X.K (.ref f) = true ∧ Binds X.K fd ps [] ∧ (x == ("__debug__" : Str)) = false
def bnames : List Str := ["len", "abs", "int", "str", "bool", "list", "tuple", "dict", "max", "min", "sum", "any", "all", "isinstance", "range", "enumerate", "sorted"]
/-- a class that is known -/
def tyC (C : Ctx) : Ty → Bool
  | .cls c => (C.ini c).isSome
  | _ => true
/-- what a text's classes are -/
structure ClOk (nm : Nm) (c : CS) (C : Ctx) (X : L2.Cx) : Prop where
  inj : ∀ f g, nm.fld f = nm.fld g → f = g
  na : ∀ k f, C.na k f = true → Cls X.K (nm.cls k) ∧ NoAttr X.K (nm.cls k) (nm.fld f)
  fld : ∀ x f, c.fld.lookup x = some f → nm.fld f = x
  mkr : ∀ x k, c.cls.lookup x = some k → ∃ i n f fd ps, C.ini k = some i ∧ Mk X.K (nm.cls k) f ∧ FnOk X.prog X.w X.K X.mg X.base (CX X.prog X.w) n f fd ps (spM nm X.K (C.call i)) ∧ Room (n + 1) X.A ∧ X.mg x = some (.ref (nm.cls k)) ∧ Binds X.K fd ps [] ∧ (x == ("__debug__" : Str)) = false
  mt : ∀ m j k i, c.mth.lookup m = some j → C.mth k j = some i → ∃ n f fd ps, Cls X.K (nm.cls k) ∧ Meth X.K (nm.cls k) m f ∧ FnOk X.prog X.w X.K X.mg X.base (CX X.prog X.w) n f fd ps (spM nm X.K (C.call i)) ∧ Room n X.A ∧ Binds X.K fd ps []
  ins : ∀ k, (C.ini k).isSome = true → InsOk X.K (nm.cls k)
  kit : ∀ k t, kdC C k = true → tyC C t = true → PySem.W.kitOne X.K (kdU nm.cls k) (tyU nm.cls t) = some (isK k t)
  eqs : ∀ k i, C.eqm k = some i → ∃ n f fd ps, Cls X.K (nm.cls k) ∧ PySem.W.findIn X.K (.ref (nm.cls k)) "__eq__" = some (some (.ref f)) ∧ PySem.W.isFn X.K (.ref f) = true ∧ PySem.W.findIn X.K (.ref (nm.cls k)) "__ne__" = some (some (.builtin "object.__ne__")) ∧ PySem.W.mroIn X.K (nm.cls k) (.type "object") = some true ∧ (∀ j, kdC C j = true → PySem.W.notFirst X.K (nm.cls k) (kdU nm.cls j) = true) ∧
    FnOk X.prog X.w X.K X.mg X.base (CX X.prog X.w) n f fd ps (spM nm X.K (C.call i)) ∧ Room (n + 1) X.A ∧ Binds X.K fd ps []
/-- what a text's names stand for, in the context of a body -/
structure GOk (nm : Nm) (Ek : XK) (c : CS) (C : Ctx) (X : L2.Cx) (sc : Scope) : Prop where
  calm : X.calm = true
  N : X.N = c.N
  nd : X.N.Nodup
  un : X.A.units + 70 < cLine
  vis : ∀ x, isVar sc x = true → Vis X.env.scope x
  loc : ∀ x, isLoc sc x = true → Loc X.env.scope x ∧ (X.fn x = true ∨ X.env.scope.names.lookup x = some .local)
  gl : ∀ x, isGl sc x = true → Gl X x
  cf : ∀ x, sc.names.lookup x = some .cell ∨ sc.names.lookup x = some .free → X.env.scope.names.lookup x = some .cell ∨ X.env.scope.names.lookup x = some .free
  fns : ∀ x i, c.fns.lookup x = some i → CallOk nm C X x i
  pass : Passes (CX X.prog X.w) X Ek
  con : ∀ x i w, c.con.lookup x = some i → C.con i = some w → isDct w = false → ∃ v u, X.mg x = some u ∧ RelV v u ∧ (x == ("__debug__" : Str)) = false ∧ ∀ p H, RW X.K p H w v
  cod : ∀ x i l, c.con.lookup x = some i → C.con i = some (.tup [.ref 0, .tup l]) → ∃ a, X.mg x = some (.ref a) ∧ (x == ("__debug__" : Str)) = false ∧ ∀ z w, dctGet z l = some w → ∃ v, KDct X.K X.w a (st z) v ∧ ∀ p H, RW X.K p H w v
  wd : nm.wd = X.w
  blt : ∀ x, bnames.contains x = true → X.mg x = none
  cl : ClOk nm c C X
section
variable {nm : Nm} {X : L2.Cx} {Ek : XK} {c : CS} {C : Ctx} {sc : Scope}
/-! ### a block -/
theorem relS_free {sc : Scope} : ∀ {names : List (Str × NameKind)} {x : Str}, names.lookup x = some .free →
    (names.map fun (n, k) => if (k == NameKind.free && sc.kind == .function && sc.names.lookup n == some .cell) then (n, NameKind.cell) else (n, k)).lookup x = some .free ∨
      (names.map fun (n, k) => if (k == NameKind.free && sc.kind == .function && sc.names.lookup n == some .cell) then (n, NameKind.cell) else (n, k)).lookup x = some .cell
  | [], _, h => by simp at h
  | (n, k) :: r, x, h => by
    have ih := @relS_free sc r x
    show List.lookup x ((if (k == NameKind.free && sc.kind == .function && sc.names.lookup n == some .cell) = true then (n, NameKind.cell) else (n, k)) :: (r.map _)) = _ ∨ List.lookup x ((if (k == NameKind.free && sc.kind == .function && sc.names.lookup n == some .cell) = true then (n, NameKind.cell) else (n, k)) :: (r.map _)) = _
    cases hx : x == n with
    | true =>
      simp only [List.lookup_cons, hx] at h
      cases h
      by_cases hc : (NameKind.free == NameKind.free && sc.kind == .function && sc.names.lookup n == some .cell) = true
      · rw [if_pos hc]; right; simp only [List.lookup_cons, hx]
      · rw [if_neg hc]; left; simp only [List.lookup_cons, hx]
    | false =>
      simp only [List.lookup_cons, hx] at h
      have ih := ih h
      by_cases hc : (k == NameKind.free && sc.kind == .function && sc.names.lookup n == some .cell) = true
      · rw [if_pos hc]; simp only [List.lookup_cons, hx]; exact ih
      · rw [if_neg hc]; simp only [List.lookup_cons, hx]; exact ih
theorem GOk.blk (g : GOk nm Ek c C X sc) (scope : Scope) (s : Shared) (H : Hp) (A : Addr) (cl : List (Str × Addr)) (fp : List Addr) : GOk nm NoE c C (X.blk s H scope (compEnvC scope cl A X.env) fp) scope := by
  have esc : (compEnvC scope cl A X.env).scope = relS scope X.env.scope := rfl
  have keep : ∀ {x : Str} {k : NameKind}, k ≠ .free → scope.names.lookup x = some k → (compEnvC scope cl A X.env).scope.names.lookup x = some k := fun hk e => lookup_relS_keep hk e
  have free : ∀ {x : Str}, scope.names.lookup x = some .free → (compEnvC scope cl A X.env).scope.names.lookup x = some .free ∨ (compEnvC scope cl A X.env).scope.names.lookup x = some .cell := fun e => relS_free e
  refine ⟨g.calm, g.N, g.nd, g.un, fun x hx => ?_, fun x hx => ?_, fun x hx => ?_, fun x hx => ?_, fun x i hl => ?_, fun pins σ H1 s1 e s2 I cx => ?_, g.con, g.cod, g.wd, g.blt, ⟨g.cl.inj, g.cl.na, g.cl.fld, g.cl.mkr, g.cl.mt, g.cl.ins, g.cl.kit, g.cl.eqs⟩⟩
  · unfold isVar at hx
    simp only [Bool.and_eq_true] at hx
    have hx := hx.2
    split at hx
    · rename_i e; exact .inl (keep (by decide) e)
    · rename_i e; exact .inr (.inl (keep (by decide) e))
    · rename_i e; exact (free e).elim (fun k => .inr (.inr k)) (fun k => .inr (.inl k))
    · cases hx
  · unfold isLoc at hx
    split at hx
    · rename_i e; exact ⟨.inl (keep (by decide) e), .inr (keep (by decide) e)⟩
    · rename_i e; exact ⟨.inr (keep (by decide) e), .inl (by show (scope.names.lookup x == some .cell) = true; rw [e]; rfl)⟩
    · cases hx
  · unfold isGl at hx
    have hx := of_decide_eq_true hx
    exact keep (by decide) hx
  · rcases hx with e | e
    · exact .inl (keep (by decide) e)
    · exact (free e).elim .inr .inl
  · exact g.fns x i hl
  · obtain ⟨_, _, _, _, _, _, _, _, _, _, _, _, z⟩ := cx
    exact z
theorem GOk.bok (g : GOk nm Ek c C X sc) {scope : Scope} {own : List (Str × Nat)} (h : L2.blkC c.N sc scope own = true) : BlkOk X.N X.env.scope scope own := by
  have b : BlkOk c.N sc scope own := blkOk_by h
  rw [g.N]
  exact ⟨b.kind, b.uniq, b.ix, fun y hy e => g.cf _ (b.free y hy e), b.own⟩
/-! ### argument rows -/
def Stars (es : List Expr) : Prop := ∀ e ∈ es, notStar e = true
theorem star1 {e : Expr} (h : notStar e = true) (es : List Expr) (env : PySem.Env) : starEach (e :: es) env = (false, eval e env) :: starEach es env := by
  cases e <;> first
    | rfl
    | cases h
theorem stars_pl (pos : Pos) (env : PySem.Env) : ∀ es : List Expr, Stars es → (backTo pos (starEach es env)).any (·.1) = false
  | [], _ => rfl
  | e :: es, h => by
    rw [star1 (h e (by simp))]
    show (false || (backTo pos (starEach es env)).any (·.1)) = false
    rw [stars_pl pos env es fun x hx => h x (by simp [hx])]
    rfl
/-! ### calls -/
theorem e_call (g : GOk nm Ek c C X sc) {x : Str} {i : Nat} {p pos : Pos} {es : List Expr} {d : DL} (hx : isGl sc x = true) (hl : c.fns.lookup x = some i) (ha : PA X es (tLs nm X.K Ek d)) (hs : Stars es) (h0 : es = [] → d = fun _ h => .ok [] h) :
    EOk nm Ek X (.Call (.Name x p) es [] pos) (mkV fun s h => (d s h).then (C.call i)) := by
  obtain ⟨k, f, fd, ps, F, hr, hm, hk, hb, hd⟩ := g.fns x i hl
  refine mkV_ok ?_ (fun _ => rfl) rfl rfl
  cases es with
  | nil =>
    refine PEi (pe_call0 F hr (g.gl x hx) hm hk hb .nil g.pass hd) fun σ H Q ⟨p, s, h, si, er, ok⟩ => ?_
    rw [h0 rfl] at ok
    exact ⟨p, h, [], si, .nil, ok⟩
  | cons e es =>
    refine PEi (pe_call F hr (g.gl x hx) hm hk hb .nil g.pass ha hd (star1 (hs e (by simp)) es _) (stars_pl _ _ es fun y hy => hs y (by simp [hy]))) fun σ H Q ⟨p, s, h, si, er, ok⟩ => ?_
    refine ⟨p, s, h, si, er, ok.then fun ws h1 p1 H1 vs _ x1 s1 r1 ok1 => ?_⟩
    rw [List.append_nil]
    exact ⟨p1, h1, ws, s1, r1, ok1⟩
/-! ### builtins -/
theorem boot_max' : bootBuiltins "max" = some (.builtin "max") := by decide +kernel
theorem boot_min' : bootBuiltins "min" = some (.builtin "min") := by decide +kernel
theorem boot_abs' : bootBuiltins "abs" = some (.builtin "abs") := by decide +kernel
theorem boot_len' : bootBuiltins "len" = some (.builtin "len") := by decide +kernel
theorem boot_sum' : bootBuiltins "sum" = some (.builtin "sum") := by decide +kernel
theorem boot_any' : bootBuiltins "any" = some (.builtin "any") := by decide +kernel
theorem boot_all' : bootBuiltins "all" = some (.builtin "all") := by decide +kernel
theorem boot_sorted' : bootBuiltins "sorted" = some (.builtin "sorted") := by decide +kernel
theorem boot_isi' : bootBuiltins "isinstance" = some (.builtin "isinstance") := by decide +kernel
theorem boot_ty' (t : Ty) (h : bt t = true) : bootBuiltins (Str.ofString (tyN t)) = some (.type (tyN t)) := by
  cases t with
  | cls c => cases h
  | _ => decide +kernel
theorem fn_imp {f : List W → Hm → R W} {d : DL} : ∀ σ H Q, tV nm X.K Ek (fun s h => (d s h).then f) σ H Q → tCB (rFn nm X.K Ek f) (tLs nm X.K Ek d) σ H Q := by
  rintro σ H Q ⟨p, s, h, si, er, ok⟩
  exact ⟨p, s, h, si, er, ok.then fun ws h1 p1 H1 vs _ x1 s1 r1 ok1 => ⟨p1, h1, ws, s1, r1, ok1⟩⟩
/-- a built-in function of written values -/
theorem e_b1 (g : GOk nm Ek c C X sc) {x : Str} {b : B1} {p pos : Pos} {e : Expr} {es : List Expr} {d : DL} (hx : isGl sc x = true) (hb : b1Of x (e :: es).length = some b) (ha : PA X (e :: es) (tLs nm X.K Ek d)) (hs : Stars (e :: es)) :
    EOk nm Ek X (.Call (.Name x p) (e :: es) [] pos) (mkV fun s h => (d s h).then (b1op b)) := by
  refine mkV_ok (PEi ?_ fn_imp) (fun _ => rfl) rfl rfl
  have s1 := star1 (hs e (by simp)) es X.env
  have s2 := stars_pl pos X.env es fun y hy => hs y (by simp [hy])
  have fin : ∀ {id : String}, CallR X (.builtin id) (rFn nm X.K Ek (b1op b)) → bootBuiltins x = some (.builtin id) → X.mg x = none → x ≠ "__name__" → (x == ("__debug__" : Str)) = false → PE X (.Call (.Name x p) (e :: es) [] pos) (tCB (rFn nm X.K Ek (b1op b)) (tLs nm X.K Ek d)) :=
    fun cr bb m n1 n2 => pe_callB cr (g.gl x hx) m bb ha n1 n2 s1 s2
  unfold b1Of at hb
  split at hb
  · rename_i e1; subst e1; split at hb
    · cases hb; exact fin (cl_len g.wd) boot_len' (g.blt _ (by decide)) (by decide) (by decide)
    · cases hb
  · split at hb
    · rename_i e1; subst e1; split at hb
      · cases hb; exact fin cl_abs boot_abs' (g.blt _ (by decide)) (by decide) (by decide)
      · cases hb
    · split at hb
      · rename_i e1; subst e1; split at hb
        · cases hb; exact pe_callTy cl_int (g.gl _ hx) (g.blt _ (by decide)) (boot_ty' .int rfl) ha (by decide) (by decide) s1 s2
        · cases hb
      · split at hb
        · rename_i e1; subst e1; split at hb
          · cases hb; exact pe_callTy cl_str (g.gl _ hx) (g.blt _ (by decide)) (boot_ty' .str rfl) ha (by decide) (by decide) s1 s2
          · cases hb
        · split at hb
          · rename_i e1; subst e1; split at hb
            · cases hb; exact fin (cl_max2 g.calm) boot_max' (g.blt _ (by decide)) (by decide) (by decide)
            · cases hb
          · split at hb
            · rename_i e1; subst e1; split at hb
              · cases hb; exact fin (cl_min2 g.calm) boot_min' (g.blt _ (by decide)) (by decide) (by decide)
              · cases hb
            · cases hb
/-- a row, alone among the arguments -/
theorem a_row {e : Expr} {b : Bool} {d : DL} (h : PE X e (tRw nm X.K Ek b d)) (hs : notStar e = true) : PA X [e] (tCons (tRw nm X.K Ek b d) tNil) := pa_cons h pa_nil (star1 hs [] _)
theorem row_imp {f : List W → Hm → R W} {d : DL} {b : Bool} : ∀ σ H Q, tV nm X.K Ek (fun s h => (d s h).then f) σ H Q → tCB (rRow nm X.K Ek f) (tCons (tRw nm X.K Ek b d) tNil) σ H Q := by
  rintro σ H Q ⟨p, s, h, si, er, ok⟩
  refine ⟨p, s, h, si, er, ok.then fun ws h1 p1 H1 v _ x1 s1 r1 ok1 => ?_⟩
  obtain ⟨a, vs, rfl, hq, q⟩ := r1
  exact ⟨p1, h1, ws, a, vs, s1, rfl, hq.imp id And.right, q, ok1⟩
theorem rowL_imp {f : List W → Hm → R W} {d : DL} : ∀ σ H Q, tV nm X.K Ek (fun s h => (d s h).then f) σ H Q → tCB (rRowL nm X.K Ek f) (tCons (tRw nm X.K Ek true d) tNil) σ H Q := by
  rintro σ H Q ⟨p, s, h, si, er, ok⟩
  refine ⟨p, s, h, si, er, ok.then fun ws h1 p1 H1 v _ x1 s1 r1 ok1 => ?_⟩
  obtain ⟨a, vs, rfl, hq, q⟩ := r1
  exact ⟨p1, h1, ws, a, vs, s1, rfl, hq.elim id (fun z => nomatch z.1), q, ok1⟩
theorem e_bl (g : GOk nm Ek c C X sc) {x : Str} {b : BL} {p pos : Pos} {e : Expr} {d : DL} (hx : isGl sc x = true) (hb : blOf x (rawForm e) = some b) (ha : PE X e (tRw nm X.K Ek (rawForm e) d)) (hs : notStar e = true) :
    EOk nm Ek X (.Call (.Name x p) [e] [] pos) (mkV fun s h => (d s h).then (blop b)) := by
  refine mkV_ok ?_ (fun _ => rfl) rfl rfl
  have s1 := star1 hs [] X.env
  have s2 : (backTo pos (starEach [] X.env)).any (·.1) = false := rfl
  unfold blOf at hb
  split at hb
  · rename_i e1; subst e1; cases hb
    exact PEi (pe_callTy cr_tuple (g.gl _ hx) (g.blt _ (by decide)) (boot_ty' .tuple rfl) (a_row ha hs) (by decide) (by decide) s1 s2) row_imp
  · split at hb
    · rename_i e1; subst e1; cases hb
      exact PEi (pe_callTy cr_list (g.gl _ hx) (g.blt _ (by decide)) (boot_ty' .list rfl) (a_row ha hs) (by decide) (by decide) s1 s2) row_imp
    · split at hb
      rename_i e1; subst e1; cases hb
      exact PEi (pe_callB cr_sortedR (g.gl _ hx) (g.blt _ (by decide)) boot_sorted' (a_row ha hs) (by decide) (by decide) s1 s2) row_imp
      split at hb
      · rename_i hr
        rw [hr] at ha
        split at hb
        · rename_i e1; subst e1; cases hb
          exact PEi (pe_callB (cr_allL g.calm) (g.gl _ hx) (g.blt _ (by decide)) boot_all' (a_row ha hs) (by decide) (by decide) s1 s2) rowL_imp
        · split at hb
          · rename_i e1; subst e1; cases hb
            exact PEi (pe_callB (cr_anyL g.calm) (g.gl _ hx) (g.blt _ (by decide)) boot_any' (a_row ha hs) (by decide) (by decide) s1 s2) rowL_imp
          · split at hb
            · rename_i e1; subst e1; cases hb
              exact PEi (pe_callB (cr_sumL g.calm) (g.gl _ hx) (g.blt _ (by decide)) boot_sum' (a_row ha hs) (by decide) (by decide) s1 s2) rowL_imp
            · split at hb
              · rename_i e1; subst e1; cases hb
                exact PEi (pe_callB cr_len (g.gl _ hx) (g.blt _ (by decide)) boot_len' (a_row ha hs) (by decide) (by decide) s1 s2) row_imp
              · cases hb
      · cases hb
theorem e_listN (g : GOk nm Ek c C X sc) {x : Str} {p pos : Pos} {e : Expr} {d : DL} (hx : isGl sc x = true) (hb : blOf x (rawForm e) = some .list) (ha : PE X e (tRw nm X.K Ek (rawForm e) d)) (hs : notStar e = true) :
    PE X (.Call (.Name x p) [e] [] pos) (tV nm X.K Ek fun s h => (d s h).then newL) := by
  have s1 := star1 hs [] X.env
  have s2 : (backTo pos (starEach [] X.env)).any (·.1) = false := rfl
  unfold blOf at hb
  split at hb
  · cases hb
  · split at hb
    · rename_i e1; subst e1
      exact PEi (pe_callTy cr_listN (g.gl _ hx) (g.blt _ (by decide)) (boot_ty' .list rfl) (a_row ha hs) (by decide) (by decide) s1 s2) row_imp
    · split at hb
      · cases hb
      · split at hb
        · split at hb
          · cases hb
          · split at hb
            · cases hb
            · split at hb
              · cases hb
              · split at hb <;> cases hb
        · cases hb
end
end M2

namespace M2
open PySem PySem.Spec PyProof.Rows L2
section
variable {nm : Nm} {X : L2.Cx} {Ek : XK} {c : CS} {C : Ctx} {sc : Scope}
/-! ### isinstance -/
theorem ty_name (g : GOk nm Ek c C X sc) {e : Expr} {t : Ty} (h : tyOf c sc e = some t) : tyC C t = true ∧ ∃ x p, e = .Name x p ∧ PE X e (tC (tyW nm.cls t)) ∧ notStar e = true := by
  unfold tyOf at h
  split at h
  · rename_i x p
    split at h
    · rename_i hx
      have key : ∀ t : Ty, bt t = true → x = Str.ofString (tyN t) → X.mg x = none → x ≠ "__name__" → (x == ("__debug__" : Str)) = false → PE X (.Name x p) (tC (tyW nm.cls t)) := fun t ht e m n1 n2 => by
        have ev : tyW nm.cls t = .ty (tyN t) := by cases t <;> first | rfl | cases ht
        rw [ev]
        exact pe_bltn (g.gl x hx) m (by rw [e]; exact boot_ty' t ht) rfl n1 n2
      split at h
      · rename_i e1; cases h; exact ⟨rfl, x, p, rfl, key .int rfl e1 (by subst e1; exact g.blt _ (by decide)) (by subst e1; decide) (by subst e1; decide), rfl⟩
      · split at h
        · rename_i e1; cases h; exact ⟨rfl, x, p, rfl, key .str rfl e1 (by subst e1; exact g.blt _ (by decide)) (by subst e1; decide) (by subst e1; decide), rfl⟩
        · split at h
          · rename_i e1; cases h; exact ⟨rfl, x, p, rfl, key .bool rfl e1 (by subst e1; exact g.blt _ (by decide)) (by subst e1; decide) (by subst e1; decide), rfl⟩
          · split at h
            · rename_i e1; cases h; exact ⟨rfl, x, p, rfl, key .list rfl e1 (by subst e1; exact g.blt _ (by decide)) (by subst e1; decide) (by subst e1; decide), rfl⟩
            · split at h
              · rename_i e1; cases h; exact ⟨rfl, x, p, rfl, key .tuple rfl e1 (by subst e1; exact g.blt _ (by decide)) (by subst e1; decide) (by subst e1; decide), rfl⟩
              · split at h
                · rename_i e1; cases h; exact ⟨rfl, x, p, rfl, key .dict rfl e1 (by subst e1; exact g.blt _ (by decide)) (by subst e1; decide) (by subst e1; decide), rfl⟩
                · cases q : c.cls.lookup x with
                  | none => rw [q] at h; cases h
                  | some k =>
                    rw [q] at h
                    cases h
                    obtain ⟨i, n, f, fd, ps, hi, M, F, hr, hm, hb, hd⟩ := g.cl.mkr x k q
                    exact ⟨by show (C.ini k).isSome = true; rw [hi]; rfl, x, p, rfl, pe_glob (v := V.ref (nm.cls k)) (g.gl x hx) hm rfl hd, rfl⟩
    · cases h
  · cases h
/-- the classes, one after another -/
def tTys (cl : Nat → Addr) (ts : List Ty) : TA := fun _ H Q => Q (ts.map (tyW cl)) H
theorem a_tys (g : GOk nm Ek c C X sc) : ∀ {es : List Expr} {ts : List Ty}, allO (tyOf c sc) es = some ts → PA X es (tTys nm.cls ts) ∧ Stars es ∧ ∀ t ∈ ts, tyC C t = true
  | [], ts, h => by cases h; exact ⟨pa_nil, (fun _ z => nomatch z), fun _ z => nomatch z⟩
  | e :: es, ts, h => by
    simp only [allO] at h
    split at h
    · rename_i t h1
      split at h
      · rename_i r h2
        cases h
        obtain ⟨hb, x, p, he, pe, st⟩ := ty_name g h1
        obtain ⟨pa, ss, bb⟩ := a_tys g h2
        refine ⟨PAi (pa_cons pe pa (star1 st es _)) fun σ H Q q => q, fun y hy => ?_, fun y hy => ?_⟩
        · rcases List.mem_cons.mp hy with rfl | hy
          · exact st
          · exact ss y hy
        · rcases List.mem_cons.mp hy with rfl | hy
          · exact hb
          · exact bb y hy
      · cases h
    · cases h
theorem ins_of (g : GOk nm Ek c C X sc) {k : Kd} (h : kdC C k = true) : ∀ d, k = .ins d → InsOk X.K (nm.cls d) := fun d e => by
  subst e
  exact g.cl.ins d h
theorem e_isi1 (g : GOk nm Ek c C X sc) {p pos : Pos} {a t : Expr} {d : DV} {ty : Ty} (hx : isGl sc "isinstance" = true) (ha : PE X a (tV nm X.K Ek d)) (hs : notStar a = true) (ht : tyOf c sc t = some ty) :
    EOk nm Ek X (.Call (.Name "isinstance" p) [a, t] [] pos) (mkV fun s h => (d s h).then (isiV C [ty])) := by
  obtain ⟨hb, x, p', he, pe, st⟩ := ty_name g ht
  refine mkV_ok (PEi (pe_callB call_isi (g.gl _ hx) (g.blt _ (by decide)) boot_isi' (pa_cons ha (pa_cons pe pa_nil (star1 st [] _)) (star1 hs [t] _)) (by decide) (by decide) (star1 hs [t] _) (stars_pl _ _ [t] fun y hy => by simp at hy; subst hy; exact st)) ?_) (fun _ => rfl) rfl rfl
  rintro σ H Q ⟨p, s, h, si, er, ok⟩
  refine ⟨p, s, h, si, er, ok.then fun w h1 p1 H1 v _ x1 s1 r1 ok1 => ?_⟩
  unfold isiV at ok1
  split at ok1
  · rename_i k e
    split at ok1
    · rename_i hz
      have cv : ClsV (tyW nm.cls ty) (tyU nm.cls ty) := by cases ty <;> first | exact .ty _ | exact .own _
      refine ⟨v, _, _, _, _, rfl, cv, kd_ty s1 r1 e (ins_of g hz.2), g.cl.kit k ty hz.2 hb, ?_⟩
      have := okB s1 ok1
      simpa using this
    · exact ok1.elim
  · exact ok1.elim
theorem e_isiT (g : GOk nm Ek c C X sc) {p pos p2 : Pos} {k2 : Nat} {a : Expr} {ts : List Expr} {d : DV} {tys : List Ty} (hx : isGl sc "isinstance" = true) (ha : PE X a (tV nm X.K Ek d)) (hs : notStar a = true) (ht : allO (tyOf c sc) ts = some tys) :
    EOk nm Ek X (.Call (.Name "isinstance" p) [a, .Tuple ts k2 p2] [] pos) (mkV fun s h => (d s h).then (isiV C tys)) := by
  obtain ⟨pa, ss, bb⟩ := a_tys g ht
  refine mkV_ok (PEi (pe_callB call_isiT (g.gl _ hx) (g.blt _ (by decide)) boot_isi' (pa_cons ha (pa_cons (pe_tup pa) pa_nil (star1 rfl [] _)) (star1 hs _ _)) (by decide) (by decide) (star1 hs _ _) (stars_pl _ _ [_] fun y hy => by simp at hy; subst hy; rfl)) ?_) (fun _ => rfl) rfl rfl
  rintro σ H Q ⟨p, s, h, si, er, ok⟩
  refine ⟨p, s, h, si, er, ok.then fun w h1 p1 H1 v _ x1 s1 r1 ok1 => ?_⟩
  unfold isiV at ok1
  split at ok1
  · rename_i k e
    split at ok1
    · rename_i hz
      refine ⟨by rw [List.length_map, ← line_eq]; exact hz.1, fun tp htp => ?_⟩
      have xb : Xt X.K p1 H1 p1 (upd H1 tp (.tup (tys.map (tyW nm.cls)))) := Xt.beside htp
      exact ⟨v, tp, _, _, _, _, rfl, upd_same, clsVs nm.cls tys, kd_ty (s1.beside htp) (r1.to xb) e (ins_of g hz.2), kit_any X.K nm.cls k tys fun t ht => g.cl.kit k t hz.2 (bb t ht), ok1 p1 _ _ xb (s1.beside htp) (.bl _)⟩
    · exact ok1.elim
  · exact ok1.elim
/-! ### slices -/
def tPO (nm : Nm) (K : PySem.W.Frag) (Ek : XK) (d : Env → Hm → R (Option Int)) : TO := fun σ H Q => ∃ p s h, Sim nm K p h H ∧ Er K p H s σ ∧ Ok nm K Ek (fun _ _ (a b : Option Int) => a = b) p H (d s h) Q
theorem o_none {v : DV} : PO X none (tPO nm X.K Ek (partD false v)) := ⟨fun pins s σ H Q I ⟨p, _, h, si, _, ok⟩ => po_none.run pins s σ H Q I (ok p H none Xt.refl si rfl)⟩
theorem o_some {e : Expr} {v : DV} (hv : PE X e (tV nm X.K Ek v)) : PO X (some e) (tPO nm X.K Ek (partD true v)) := by
  refine ⟨fun pins s σ H Q I ⟨p, s', h, si, er, ok⟩ => (po_some hv).run pins s σ H Q I ⟨p, s', h, si, er, ?_⟩⟩
  unfold partD at ok
  simp only at ok
  cases hr : v s' h with
  | ok w h1 =>
    rw [hr] at ok
    intro p' H' b x' s1 r1
    cases r1 with
    | int i => exact ⟨i, rfl, ok p' H' (some i) x' s1 rfl⟩
    | _ => exact ok.elim
  | exc k ws h1 => rw [hr] at ok; exact ok
  | bad => rw [hr] at ok; exact ok
theorem e_slc {a : Expr} {lo hi : Option Expr} {p2 pos : Pos} {da : DV} {dl dh : Env → Hm → R (Option Int)} (ha : PE X a (tV nm X.K Ek da)) (hl : PO X lo (tPO nm X.K Ek dl)) (hh : PO X hi (tPO nm X.K Ek dh)) :
    EOk nm Ek X (.Subscript a (.Slice lo hi none p2) pos) (mkV fun s h => (da s h).then fun x h1 => (dl s h1).then fun y h2 => (dh s h2).then fun z h3 => getSlice x y z h3) := by
  refine mkV_ok (PEi (pe_slice (slr (nm := nm) (Ek := Ek)) ha hl hh) ?_) (fun _ => rfl) rfl rfl
  rintro σ H Q ⟨p, s, h, si, er, ok⟩
  refine ⟨p, s, h, si, er, ok.then fun w h1 p1 H1 v _ x1 s1 r1 ok1 => ⟨p1, s, h1, s1, er.mono x1, ok1.then fun l h2 p2 H2 l' _ x2 s2 r2 ok2 => ⟨p2, s, h2, s2, (er.mono x1).mono x2, ok2.then fun u h3 p3 H3 u' _ x3 s3 r3 ok3 => ?_⟩⟩⟩
  cases r2
  cases r3
  exact ⟨p3, h3, w, s3, (r1.to x2).to x3, ok3⟩
/-! ### methods -/
theorem recv_str {p : List Addr} {H : Hp} {h : Hm} {w : W} {v : V} {m : Mt} (hm : m = .split ∨ m = .strip ∨ m = .join) (r : RW X.K p H w v) (e : isRecv m w h = true) : tyV X.K "str" v H := by
  rcases hm with rfl | rfl | rfl <;> cases r <;> first
    | exact rfl
    | cases e
theorem e_m1 {o e : Expr} {id : String} {T : String} {m : Mt} {name : Str} {apos cpos : Pos} {da de : DV} (pa : PlainAttrs T) (slot : Slot T name id) (hty : typeOf (.builtin id) = pure (.type "method_descriptor")) (hm : MtR X id (rM1 nm X.K Ek (met1 m)))
    (ty : ∀ p H h w v, Sim nm X.K p h H → RW X.K p H w v → isRecv m w h = true → tyV X.K T v H) (ho : PE X o (tV nm X.K Ek da)) (he : PE X e (tV nm X.K Ek de)) (hb : abOk o = true) (hs : notStar e = true) (hl : apos.endLine = cpos.line) :
    EOk nm Ek X (.Call (.Attribute o name apos) [e] [] cpos) (mkV fun s h => (da s h).then fun x h1 => recv m x h1 ((de s h1).then (met1 m x))) := by
  have hbase : attributeBase o name X.env (eval o X.env) = eval o X.env := by
    cases o <;> first
      | rfl
      | skip
    rename_i f as ks p
    cases f <;> first
      | rfl
      | skip
    cases as <;> first
      | rfl
      | skip
    cases ks <;> first
      | rfl
      | cases hb
  have hst := star1 hs [] X.env
  refine mkV_ok (PEi (pe_bm pa slot hty hm ho (pa_cons he pa_nil hst) hbase (by rw [hst]; rfl) (by rw [hl]; simp) hst rfl) ?_) (fun _ => rfl) rfl rfl
  rintro σ H Q ⟨p, s, h, si, er, ok⟩
  refine ⟨p, s, h, si, er, ok.then fun w h1 p1 H1 v _ x1 s1 r1 ok1 => ?_⟩
  unfold recv at ok1
  split at ok1
  · rename_i hr
    refine ⟨ty _ _ _ _ _ s1 r1 hr, p1, s, h1, s1, er.mono x1, ok1.then fun w2 h2 p2 H2 y _ x2 s2 r2 ok2 => ?_⟩
    exact ⟨p2, h2, w, w2, y, s2, rfl, r1.to x2, r2, ok2⟩
  · exact ok1.elim
theorem e_join {o e : Expr} {apos cpos : Pos} {da : DV} {de : DL} {b : Bool} (ho : PE X o (tV nm X.K Ek da)) (he : PE X e (tRw nm X.K Ek b de)) (hb : abOk o = true) (hs : notStar e = true) (hl : apos.endLine = cpos.line) :
    EOk nm Ek X (.Call (.Attribute o "join" apos) [e] [] cpos) (mkV fun s h => (da s h).then fun x h1 => recv .join x h1 ((de s h1).then (joinop x))) := by
  have hbase : attributeBase o "join" X.env (eval o X.env) = eval o X.env := by
    cases o <;> first
      | rfl
      | skip
    rename_i f as ks p
    cases f <;> first
      | rfl
      | skip
    cases as <;> first
      | rfl
      | skip
    cases ks <;> first
      | rfl
      | cases hb
  have hst := star1 hs [] X.env
  refine mkV_ok (PEi (pe_bm F.plainAttrs_str F.slot_str_join F.type_str_join (mr_join (nm := nm) (Ek := Ek)) ho (pa_cons he pa_nil hst) hbase (by rw [hst]; rfl) (by rw [hl]; simp) hst rfl) ?_) (fun _ => rfl) rfl rfl
  rintro σ H Q ⟨p, s, h, si, er, ok⟩
  refine ⟨p, s, h, si, er, ok.then fun w h1 p1 H1 v _ x1 s1 r1 ok1 => ?_⟩
  unfold recv at ok1
  split at ok1
  · rename_i hr
    refine ⟨recv_str (.inr (.inr rfl)) r1 hr, p1, s, h1, s1, er.mono x1, ok1.then fun ws h2 p2 H2 y _ x2 s2 r2 ok2 => ?_⟩
    obtain ⟨a, vs, rfl, hq, q⟩ := r2
    exact ⟨p2, h2, w, ws, a, vs, s2, rfl, hq.imp id And.right, r1.to x2, q, ok2⟩
  · exact ok1.elim
end
end M2

namespace M2
open PySem PySem.Spec PyProof.Rows L2
/-! ### what a call made is let go -/
section
variable {nm : Nm} {K : PySem.W.Frag} {p p' : List Addr} {H H' : Hp} {h0 h' : Hm} {Ek : XK}
mutual
theorem RW.clOf : ∀ {w : W} {v : V}, RW K p H w v → w.cl p.length = true
  | _, _, .non => rfl
  | _, _, .bl _ => rfl
  | _, _, .int _ => rfl
  | _, _, .str _ => rfl
  | _, _, .tup _ q => by rw [W.cl]; exact RWs.clOf q
  | _, _, .ref h => by rw [W.cl]; exact decide_eq_true (List.getElem?_eq_some_iff.mp h).1
  | _, _, .kl _ q => by rw [W.cl]; exact RWs.clOf q
theorem RWs.clOf : ∀ {l : List W} {vs : List V}, RWs K p H l vs → clAll p.length l = true
  | _, _, .nil => rfl
  | _, _, .cons a q => by rw [clAll, RW.clOf a, RWs.clOf q]; rfl
end
mutual
theorem RW.shrink (hp : p <+: p') : ∀ {w : W} {v : V}, RW K p' H w v → w.cl p.length = true → RW K p H w v
  | _, _, .non, _ => .non
  | _, _, .bl b, _ => .bl b
  | _, _, .int i, _ => .int i
  | _, _, .str l, _ => .str l
  | _, _, .tup h q, c => .tup h (RWs.shrink hp q (by rw [W.cl] at c; exact c))
  | _, _, .ref h, c => .ref (by
      rw [W.cl] at c
      have c := of_decide_eq_true c
      obtain ⟨t, rfl⟩ := hp
      rw [List.getElem?_append_left c] at h
      exact h)
  | _, _, .kl h q, c => .kl h (RWs.shrink hp q (by rw [W.cl] at c; exact c))
theorem RWs.shrink (hp : p <+: p') : ∀ {l : List W} {vs : List V}, RWs K p' H l vs → clAll p.length l = true → RWs K p H l vs
  | _, _, .nil, _ => .nil
  | _, _, .cons a q, c => by
    rw [clAll, Bool.and_eq_true] at c
    exact .cons (RW.shrink hp a c.1) (RWs.shrink hp q c.2)
end
theorem keyV_cl {k : W} {x : Key} (n : Nat) (e : keyV k = some x) : k.cl n = true := by
  cases k <;> first
    | rfl
    | (simp [keyV] at e)
theorem RD.clOf : ∀ {l : List (W × W)} {kvs : List (Key × V)}, RD K p H l kvs → clAll p.length (l.map (·.1)) = true ∧ clAll p.length (l.map (·.2)) = true
  | _, _, .nil => ⟨rfl, rfl⟩
  | _, _, .cons e _ a q => by
    obtain ⟨h1, h2⟩ := RD.clOf q
    refine ⟨?_, ?_⟩
    · rw [List.map_cons, clAll, h1, keyV_cl _ e]; rfl
    · rw [List.map_cons, clAll, h2, RW.clOf a]; rfl
theorem RD.shrink (hp : p <+: p') : ∀ {l : List (W × W)} {kvs : List (Key × V)}, RD K p' H l kvs → clAll p.length (l.map (·.2)) = true → RD K p H l kvs
  | _, _, .nil, _ => .nil
  | _, _, .cons e n a q, c => by
    rw [List.map_cons, clAll, Bool.and_eq_true] at c
    exact .cons e n (a.shrink hp c.1) (RD.shrink hp q c.2)
theorem RN.clOf : ∀ {l : List (W × W)} {xs : List (NestedKey × Addr × Value)}, RN K p H l xs → clAll p.length (l.map (·.1)) = true ∧ clAll p.length (l.map (·.2)) = true
  | _, _, .nil => ⟨rfl, rfl⟩
  | _, _, .cons _ a b _ q => by
    obtain ⟨h1, h2⟩ := RN.clOf q
    refine ⟨?_, ?_⟩
    · rw [List.map_cons, clAll, h1, RW.clOf a]; rfl
    · rw [List.map_cons, clAll, h2, RW.clOf b]; rfl
theorem RN.shrink (hp : p <+: p') : ∀ {l : List (W × W)} {xs : List (NestedKey × Addr × Value)}, RN K p' H l xs → clAll p.length (l.map (·.1)) = true → clAll p.length (l.map (·.2)) = true → RN K p H l xs
  | _, _, .nil, _, _ => .nil
  | _, _, .cons e a b r q, c, d => by
    rw [List.map_cons, clAll, Bool.and_eq_true] at c d
    exact .cons e (a.shrink hp c.1) (b.shrink hp d.1) r (RN.shrink hp q c.2 d.2)
theorem RF.clOf {n : Nat → Str} : ∀ {l : List (Nat × W)} {fs : List (Str × V)}, RF n K p H l fs → clAll p.length (l.map (·.2)) = true
  | _, _, .nil => rfl
  | _, _, .cons a q => by rw [List.map_cons, clAll, RF.clOf q, RW.clOf a]; rfl
theorem RF.shrink {n : Nat → Str} (hp : p <+: p') : ∀ {l : List (Nat × W)} {fs : List (Str × V)}, RF n K p' H l fs → clAll p.length (l.map (·.2)) = true → RF n K p H l fs
  | _, _, .nil, _ => .nil
  | _, _, .cons a q, c => by
    rw [List.map_cons, clAll, Bool.and_eq_true] at c
    exact .cons (a.shrink hp c.1) (RF.shrink hp q c.2)
theorem RO.clOf {o : O} {a : Addr} (r : RO nm K p H o a) : o.cl p.length = true := by
  cases o with
  | lst l => obtain ⟨_, _, q⟩ := r; exact q.clOf
  | dct l => obtain ⟨_, _, q⟩ := r; obtain ⟨h1, h2⟩ := q.clOf; show (clAll _ _ && clAll _ _) = true; rw [h1, h2]; rfl
  | lk l => obtain ⟨_, _, _, q⟩ := r; obtain ⟨h1, h2⟩ := q.clOf; show (clAll _ _ && clAll _ _) = true; rw [h1, h2]; rfl
  | ins c fs => obtain ⟨_, _, _, q⟩ := r; exact q.clOf
  | dn l => obtain ⟨_, _, _, _, _, _, q⟩ := r; obtain ⟨h1, h2⟩ := q.clOf; show (clAll _ _ && clAll _ _) = true; rw [h1, h2]; rfl
theorem RO.shrink (hp : p <+: p') {o : O} {a : Addr} (r : RO nm K p' H o a) (c : o.cl p.length = true) : RO nm K p H o a := by
  cases o with
  | lst l => obtain ⟨_, e, q⟩ := r; exact ⟨_, e, q.shrink hp c⟩
  | dct l =>
    obtain ⟨_, e, q⟩ := r
    have c : (clAll p.length (l.map (·.1)) && clAll p.length (l.map (·.2))) = true := c
    exact ⟨_, e, q.shrink hp (Bool.and_eq_true _ _ ▸ c).2⟩
  | lk l =>
    obtain ⟨_, _, e, q⟩ := r
    have c : (clAll p.length (l.map (·.1)) && clAll p.length (l.map (·.2))) = true := c
    exact ⟨_, _, e, q.shrink hp (Bool.and_eq_true _ _ ▸ c).2⟩
  | ins c' fs => obtain ⟨_, _, e, q⟩ := r; exact ⟨_, _, e, q.shrink hp c⟩
  | dn l =>
    obtain ⟨_, _, e, h1, h2, h3, q⟩ := r
    have c : (clAll p.length (l.map (·.1)) && clAll p.length (l.map (·.2))) = true := c
    have c := Bool.and_eq_true _ _ ▸ c
    exact ⟨_, _, e, h1, h2, h3, q.shrink hp c.1 c.2⟩
theorem Xt.base (x : Xt K p H p' H') : Xt K p H p H' := ⟨List.prefix_refl p, x.kp, x.fr, fun _ a b => absurd a b⟩
theorem Sim.shrink (si0 : Sim nm K p h0 H) (x : Xt K p H p' H') (sm : Sim nm K p' h' H') (b : baseOk h0 h' = true) : Sim nm K p (h'.take h0.length) H' := by
  have hle : p.length ≤ p'.length := x.pre.length_le
  refine ⟨?_, si0.nd, fun i o a e q => ?_⟩
  · rw [List.length_take, ← sm.len, ← si0.len]; omega
  · have hi : i < p.length := (List.getElem?_eq_some_iff.mp q).1
    have e1 : h'[i]? = some o := by
      rw [List.getElem?_take_of_lt (by rw [← si0.len]; exact hi)] at e
      exact e
    have q1 : p'[i]? = some a := by
      obtain ⟨t, rfl⟩ := x.pre
      rw [List.getElem?_append_left hi]; exact q
    refine (sm.at_ i o a e1 q1).shrink x.pre ?_
    unfold baseOk at b
    rw [Bool.or_eq_true] at b
    rcases b with b | b
    · have b := of_decide_eq_true b
      rw [b] at e
      exact (si0.at_ i o a e q).clOf
    · rw [Bool.and_eq_true] at b
      have b2 := b.2
      unfold Hm.cl at b2
      rw [List.all_eq_true] at b2
      have := b2 o (List.mem_of_getElem? e)
      rw [← si0.len] at this
      exact this
theorem Sim.add (x : Sim nm K p h0 H) {a : Addr} {o : O} (na : a ∉ p) (r : RO nm K (p ++ [a]) H o a) : Sim nm K (p ++ [a]) (h0 ++ [o]) H := by
  refine ⟨by simp [x.len], List.nodup_append.mpr ⟨x.nd, by simp, fun c hc b hb => ?_⟩, fun i o' b e q => ?_⟩
  · have : b = a := by simpa using hb
    subst this
    rintro rfl
    exact na hc
  · by_cases hi : i < p.length
    · rw [List.getElem?_append_left hi] at q
      rw [List.getElem?_append_left (by rw [← x.len]; exact hi)] at e
      exact (x.at_ i o' b e q).mono (List.prefix_append p [a]) Kp.refl rfl
    · have hlt := (List.getElem?_eq_some_iff.mp e).1
      have hi2 : i = p.length := by
        rw [List.length_append, List.length_singleton] at hlt
        have := x.len
        omega
      subst hi2
      rw [List.getElem?_append_right (Nat.le_refl _), Nat.sub_self] at q
      rw [List.getElem?_append_right (by rw [x.len]; exact Nat.le_refl _), x.len, Nat.sub_self] at e
      cases q
      cases e
      exact r
theorem gc0_ok {w : W} {v : V} {Q : VK} (si0 : Sim nm K p h0 H) (x : Xt K p H p' H') (sm : Sim nm K p' h' H') (r : RW K p' H' w v) (ok : Ok nm K Ek (GV K) p H (gc0 h0 w h') Q) : Q v H' := by
  have plain : Ok nm K Ek (GV K) p H (M2.R.ok w h') Q → Q v H' := fun ok => ok p' H' v x sm r
  unfold gc0 at ok
  cases hb : baseOk h0 h' with
  | false => rw [hb, if_neg Bool.false_ne_true] at ok; exact plain ok
  | true =>
    rw [hb, if_pos rfl] at ok
    have s2 := si0.shrink x sm hb
    have small : ∀ c : w.cl h0.length = true, Ok nm K Ek (GV K) p H (M2.R.ok w (h'.take h0.length)) Q → Q v H' := fun c ok => ok p H' v x.base s2 (r.shrink x.pre (by rw [si0.len]; exact c))
    have val : Ok nm K Ek (GV K) p H (if w.cl h0.length then M2.R.ok w (h'.take h0.length) else .ok w h') Q → Q v H' := fun ok => by
      by_cases c : w.cl h0.length = true
      · rw [if_pos c] at ok; exact small c ok
      · rw [if_neg c] at ok; exact plain ok
    cases r with
    | ref hr =>
      rename_i r a
      simp only at ok
      by_cases hlt : r < h0.length
      · rw [if_pos hlt] at ok
        exact small (by rw [W.cl]; exact decide_eq_true hlt) ok
      · rw [if_neg hlt] at ok
        have na : a ∉ p := fun z => by
          obtain ⟨j, hj, ej⟩ := List.getElem_of_mem z
          have : p'[j]? = some a := by
            obtain ⟨t, rfl⟩ := x.pre
            rw [List.getElem?_append_left hj, List.getElem?_eq_getElem hj, ej]
          have := nodup_inj sm.nd this hr
          rw [← si0.len] at hlt
          omega
        have one : ∀ o : O, h'[r]? = some o → o.cl h0.length = true → Ok nm K Ek (GV K) p H (M2.R.ok (.ref h0.length) (h'.take h0.length ++ [o])) Q → Q (.ref a) H' := fun o e c ok => by
          have ro := sm.at_ r o a e hr
          have xx : Xt K p H (p ++ [a]) H' := ⟨List.prefix_append _ _, x.kp, x.fr, fun b hb n => by
            rcases List.mem_append.mp hb with hb | hb
            · exact absurd hb n
            · have : b = a := by simpa using hb
              rw [this]
              exact x.new a (List.mem_of_getElem? hr) na⟩
          have ro2 : RO nm K p H' o a := ro.shrink x.pre (by rw [si0.len]; exact c)
          refine ok (p ++ [a]) H' (.ref a) xx (s2.add na (ro2.mono (List.prefix_append _ _) Kp.refl rfl)) (.ref ?_)
          rw [← si0.len]; simp
        cases e : h'[r]? with
        | none => rw [e] at ok; exact plain ok
        | some o =>
          rw [e] at ok
          cases o with
          | lst l =>
            simp only at ok
            by_cases c : clAll h0.length l = true
            · rw [if_pos c] at ok; exact one _ e c ok
            · rw [if_neg c] at ok; exact plain ok
          | dct l =>
            simp only at ok
            by_cases c : (O.dct l).cl h0.length = true
            · rw [if_pos c] at ok; exact one _ e c ok
            · rw [if_neg c] at ok; exact plain ok
          | _ => exact plain ok
    | _ => exact val ok
/-! ### lists are frozen where a call ends -/
def isLstO : O → Bool
  | .lst _ => true
  | _ => false
/-- the places of the new lists -/
def newLs (n : Nat) (h : Hm) (p : List Addr) : List Addr := (((p.zip h).drop n).filter fun q => isLstO q.2).map (·.1)
theorem newLs_nd {n : Nat} {h : Hm} {p : List Addr} (hl : p.length = h.length) (nd : p.Nodup) : (newLs n h p).Nodup := by
  have e : (p.zip h).map (·.1) = p := by
    rw [← List.unzip_fst, List.unzip_zip hl]
  have s : (newLs n h p).Sublist ((p.zip h).map (·.1)) := (List.filter_sublist.trans (List.drop_sublist n _)).map _
  rw [e] at s
  exact nd.sublist s
theorem newLs_mem {n : Nat} {h : Hm} {p : List Addr} {a : Addr} : a ∈ newLs n h p ↔ ∃ i l, n ≤ i ∧ p[i]? = some a ∧ h[i]? = some (.lst l) := by
  unfold newLs
  rw [List.mem_map]
  constructor
  · rintro ⟨⟨b, o⟩, hb, rfl⟩
    rw [List.mem_filter] at hb
    obtain ⟨hb, ho⟩ := hb
    obtain ⟨i, hi, e⟩ := List.getElem_of_mem hb
    have e1 : ((p.zip h).drop n)[i]? = some (b, o) := by rw [List.getElem?_eq_getElem hi, e]
    rw [List.getElem?_drop, List.getElem?_zip_eq_some] at e1
    cases o with
    | lst l => exact ⟨n + i, l, Nat.le_add_right _ _, e1.1, e1.2⟩
    | _ => cases ho
  · rintro ⟨i, l, hi, e1, e2⟩
    refine ⟨(a, .lst l), List.mem_filter.mpr ⟨?_, rfl⟩, rfl⟩
    have : ((p.zip h).drop n)[i - n]? = some (a, .lst l) := by
      rw [List.getElem?_drop, List.getElem?_zip_eq_some]
      have : n + (i - n) = i := by omega
      rw [this]
      exact ⟨e1, e2⟩
    exact List.mem_of_getElem? this
theorem Lkd.kp {as : List Addr} {H1 H2 : Hp} (l : Lkd as H1 H2) (hm : ∀ a ∈ as, ∃ u, H1 a = some u ∧ Mut (some u)) : Kp K H1 H2 := by
  have ne : ∀ a u, H1 a = some u → ¬ Mut (some u) → H2 a = some u := fun a u q nm => by
    rw [l.2 a fun z => ?_]
    · exact q
    · obtain ⟨v, e, mu⟩ := hm a z
      rw [q] at e
      cases e
      exact nm mu
  refine ⟨fun a vs h => ?_, fun a vs h => ?_⟩
  · rcases h with (h | ⟨ob, h⟩) | h
    · exact .inl (.inl (ne a _ h fun z => z))
    · exact .inl (.inr ⟨ob, ne a _ h fun z => z⟩)
    · exact .inr h
  · rcases h with ⟨ob, h⟩ | h
    · exact .inl ⟨ob, ne a _ h fun z => z⟩
    · exact .inr h
section
variable {H2 : Hp} {f : Nat → Option W}
mutual
theorem mapR_ok (k : Kp K H' H2) (hf : ∀ r a w', p'[r]? = some a → f r = some w' → RW K p H2 w' (.ref a)) : ∀ {w w' : W} {v : V}, RW K p' H' w v → mapR f w = some w' → RW K p H2 w' v
  | _, _, _, .non, e => by cases e; exact .non
  | _, _, _, .bl b, e => by cases e; exact .bl b
  | _, _, _, .int b, e => by cases e; exact .int b
  | _, _, _, .str b, e => by cases e; exact .str b
  | _, _, _, .tup (l := l) h q, e => by
    simp only [mapR] at e
    cases z : mapRs f l with
    | none => rw [z] at e; cases e
    | some m => rw [z] at e; cases e; exact .tup (k.tup _ _ h) (mapRs_ok k hf q z)
  | _, _, _, .kl (l := l) h q, e => by
    simp only [mapR] at e
    cases z : mapRs f l with
    | none => rw [z] at e; cases e
    | some m => rw [z] at e; cases e; exact .kl (k.fz _ _ h) (mapRs_ok k hf q z)
  | _, _, _, .ref h, e => by
    simp only [mapR] at e
    exact hf _ _ _ h e
theorem mapRs_ok (k : Kp K H' H2) (hf : ∀ r a w', p'[r]? = some a → f r = some w' → RW K p H2 w' (.ref a)) : ∀ {l l' : List W} {vs : List V}, RWs K p' H' l vs → mapRs f l = some l' → RWs K p H2 l' vs
  | _, _, _, .nil, e => by cases e; exact .nil
  | _, _, _, .cons (x := x) (l := l) a q, e => by
    simp only [mapRs] at e
    cases z : mapR f x with
    | none => rw [z] at e; simp at e
    | some y =>
      cases z2 : mapRs f l with
      | none => rw [z, z2] at e; simp at e
      | some m =>
        rw [z, z2] at e
        cases e
        exact .cons (mapR_ok k hf a z) (mapRs_ok k hf q z2)
end
theorem fzR_ok (hp : p <+: p') (sm : Sim nm K p' h' H') (l : Lkd (newLs p.length h' p') H' H2) (k : Kp K H' H2) : ∀ (m r : Nat) (a : Addr) (w' : W), p'[r]? = some a → fzR p.length h' m r = some w' → RW K p H2 w' (.ref a)
  | m, r, a, w', e, q => by
    have low : r < p.length → RW K p H2 (.ref r) (.ref a) := fun hlt => .ref (by
      obtain ⟨t, rfl⟩ := hp
      rw [List.getElem?_append_left hlt] at e
      exact e)
    cases m with
    | zero =>
      simp only [fzR] at q
      split at q
      · rename_i hlt; cases q; exact low hlt
      · cases q
    | succ m =>
      simp only [fzR] at q
      split at q
      · rename_i hlt; cases q; exact low hlt
      · rename_i hge
        split at q
        · rename_i ls eo
          obtain ⟨vs, h1, rs⟩ := sm.lst e eo
          cases z : mapRs (fzR p.length h' m) ls with
          | none => rw [z] at q; cases q
          | some ls' =>
            rw [z] at q
            cases q
            obtain ⟨u, o, e1, e2⟩ := l.1 a (newLs_mem.mpr ⟨r, ls, by omega, e, eo⟩)
            rw [h1] at e1
            cases e1
            exact .kl (.inl ⟨o, e2⟩) (mapRs_ok k (fun r2 a2 w2 => fzR_ok hp sm l k m r2 a2 w2) rs z)
        · cases q
theorem fzW_ok (hp : p <+: p') (sm : Sim nm K p' h' H') (l : Lkd (newLs p.length h' p') H' H2) (k : Kp K H' H2) {w w' : W} {v : V} (r : RW K p' H' w v) (e : fzW p.length h' w = some w') : RW K p H2 w' v := mapR_ok k (fun r2 a2 w2 => fzR_ok hp sm l k 8 r2 a2 w2) r e
theorem fzF_ok {n : Nat → Str} (hp : p <+: p') (sm : Sim nm K p' h' H') (l : Lkd (newLs p.length h' p') H' H2) (k : Kp K H' H2) : ∀ {fs gs : List (Nat × W)} {vs : List (Str × V)}, RF n K p' H' fs vs → fzF p.length h' fs = some gs → RF n K p H2 gs vs
  | _, _, _, .nil, e => by cases e; exact .nil
  | _, _, _, .cons (w := w) (l := fs) a q, e => by
    simp only [fzF] at e
    cases z : fzW p.length h' w with
    | none => rw [z] at e; simp at e
    | some y =>
      cases z2 : fzF p.length h' fs with
      | none => rw [z, z2] at e; simp at e
      | some m =>
        rw [z, z2] at e
        cases e
        exact .cons (fzW_ok hp sm l k a z) (fzF_ok hp sm l k q z2)
end
/-- what a freeze at a call's end leaves -/
theorem frozen (si0 : Sim nm K p h0 H) (x : Xt K p H p' H') (sm : Sim nm K p' h' H') (hb : baseOk h0 h' = true) {Q : Hp → Prop} (go : ∀ H2, Lkd (newLs p.length h' p') H' H2 → Kp K H' H2 → Xt K p H p H2 → Sim nm K p (h'.take h0.length) H2 → Q H2) : LkP Q H' := by
  have hm : ∀ a ∈ newLs p.length h' p', ∃ u, H' a = some u ∧ Mut (some u) := fun a ha => by
    obtain ⟨i, l, _, e1, e2⟩ := newLs_mem.mp ha
    obtain ⟨vs, h1, _⟩ := sm.lst e1 e2
    exact ⟨_, h1, trivial⟩
  refine ⟨newLs p.length h' p', newLs_nd sm.len sm.nd, hm, fun H2 l => ?_⟩
  have kp : Kp K H' H2 := l.kp hm
  have out : ∀ b, b ∈ p → b ∉ newLs p.length h' p' := fun b hb hn => by
    obtain ⟨i, ls, hi, e1, _⟩ := newLs_mem.mp hn
    obtain ⟨j, hj, ej⟩ := List.getElem_of_mem hb
    have e2 : p'[j]? = some b := by
      obtain ⟨t, rfl⟩ := x.pre
      rw [List.getElem?_append_left hj, List.getElem?_eq_getElem hj, ej]
    have := nodup_inj sm.nd e1 e2
    omega
  have xx : Xt K p H p H2 := by
    refine ⟨List.prefix_refl p, x.kp.trans kp, fun b u e n => ?_, fun b c d => absurd c d⟩
    rw [l.2 b fun hn => ?_]
    · exact x.fr b u e n
    · obtain ⟨i, ls, hi, e1, _⟩ := newLs_mem.mp hn
      have := x.new b (List.mem_of_getElem? e1) n
      rw [this] at e
      cases e
  have s2 := si0.shrink x sm hb
  refine go H2 l kp xx ⟨s2.len, s2.nd, fun i o a e q => (s2.at_ i o a e q).mono (List.prefix_refl p) kp (l.2 a (out a (List.mem_of_getElem? q)))⟩
/-- a new instance, its lists frozen -/
theorem gcI_ok {r : Nat} {a : Addr} {Q : VK} (si0 : Sim nm K p h0 H) (x : Xt K p H p' H') (sm : Sim nm K p' h' H') (hr : p'[r]? = some a) (ok : Ok nm K Ek (GV K) p H (gcI h0 r h') Q) : LkV Q (.ref a) H' := by
  have plain : Ok nm K Ek (GV K) p H (M2.R.ok (.ref r) h') Q → LkV Q (.ref a) H' := fun ok => LkP.of (ok p' H' (.ref a) x sm (.ref hr))
  unfold gcI at ok
  cases hb : (baseOk h0 h' && decide (h0.length ≤ r)) with
  | false => rw [hb, if_neg Bool.false_ne_true] at ok; exact plain ok
  | true =>
    rw [hb, if_pos rfl] at ok
    rw [Bool.and_eq_true] at hb
    obtain ⟨hb, hge⟩ := hb
    have hge := of_decide_eq_true hge
    cases e : h'[r]? with
    | none => rw [e] at ok; exact plain ok
    | some o =>
      rw [e] at ok
      cases o with
      | ins c fs =>
        simp only at ok
        cases ef : fzF h0.length h' fs with
        | none => rw [ef] at ok; exact plain ok
        | some gs =>
          rw [ef] at ok
          simp only at ok
          refine frozen si0 x sm hb fun H2 l kp xx s2 => ?_
          obtain ⟨dx, vs, e2, rf⟩ := sm.at_ r _ a e hr
          have na : a ∉ p := fun z => by
            obtain ⟨j, hj, ej⟩ := List.getElem_of_mem z
            have : p'[j]? = some a := by
              obtain ⟨t, rfl⟩ := x.pre
              rw [List.getElem?_append_left hj, List.getElem?_eq_getElem hj, ej]
            have := nodup_inj sm.nd this hr
            rw [← si0.len] at hge
            omega
          have nl : a ∉ newLs p.length h' p' := fun z => by
            obtain ⟨i, ls, _, e3, e4⟩ := newLs_mem.mp z
            have := nodup_inj sm.nd e3 hr
            subst this
            rw [e] at e4
            cases e4
          rw [← si0.len] at ef
          have rf2 := fzF_ok x.pre sm l kp rf ef
          have ro : RO nm K (p ++ [a]) H2 (.ins c gs) a := ⟨dx, vs, by rw [l.2 a nl]; exact e2, rf2.mono (List.prefix_append _ _) Kp.refl⟩
          have xa : Xt K p H (p ++ [a]) H2 := ⟨List.prefix_append _ _, xx.kp, xx.fr, fun b hb' n => by
            rcases List.mem_append.mp hb' with hb' | hb'
            · exact absurd hb' n
            · have : b = a := by simpa using hb'
              rw [this]
              exact x.new a (List.mem_of_getElem? hr) na⟩
          refine ok (p ++ [a]) H2 (.ref a) xa (s2.add na ro) (.ref ?_)
          rw [← si0.len]; simp
      | _ => exact plain ok
theorem gc_ok {fz : Bool} {w : W} {v : V} {Q : VK} (si0 : Sim nm K p h0 H) (x : Xt K p H p' H') (sm : Sim nm K p' h' H') (r : RW K p' H' w v) (ok : Ok nm K Ek (GV K) p H (gc fz h0 w h') Q) : LkV Q v H' := by
  cases fz with
  | false => exact LkP.of (gc0_ok si0 x sm r ok)
  | true =>
    simp only [gc] at ok
    cases hb : baseOk h0 h' with
    | false => rw [hb, if_neg Bool.false_ne_true] at ok; exact LkP.of (ok p' H' v x sm r)
    | true =>
      rw [hb, if_pos rfl] at ok
      cases ef : fzW h0.length h' w with
      | some w' =>
        rw [ef] at ok
        simp only at ok
        refine frozen si0 x sm hb fun H2 l kp xx s2 => ?_
        rw [← si0.len] at ef
        exact ok p H2 v xx s2 (fzW_ok x.pre sm l kp r ef)
      | none =>
        rw [ef] at ok
        simp only at ok
        cases ei : isIns h' w with
        | none => rw [ei] at ok; exact LkP.of (gc0_ok si0 x sm r ok)
        | some rr =>
          rw [ei] at ok
          cases r with
          | ref hr =>
            simp only [isIns] at ei
            split at ei
            · cases ei; exact gcI_ok si0 x sm hr ok
            · cases ei
          | _ => cases ei
theorem gcx_ok {c : Nat} {ws : List W} {d : Option Addr} {Q : VK} (si0 : Sim nm K p h0 H) (x : Xt K p H p' H') (sm : Sim nm K p' h' H') (r : XR nm K p' H' c ws d) (ok : Ok nm K Ek (GV K) p H (gcx h0 c ws h') Q) : Ek (.ref (nm.cls c)) d H' := by
  unfold gcx at ok
  cases hb : (baseOk h0 h' && clAll h0.length ws) with
  | false => rw [hb, if_neg Bool.false_ne_true] at ok; exact ok p' H' d x sm r
  | true =>
    rw [hb, if_pos rfl] at ok
    rw [Bool.and_eq_true] at hb
    obtain ⟨vs, q, z⟩ := r
    exact ok p H' d x.base (si0.shrink x sm hb.1) ⟨vs, q.shrink x.pre (by rw [si0.len]; exact hb.2), z⟩
end
end M2

namespace M2
open PySem PySem.Spec PyProof.Rows L2
section
variable {nm : Nm} {X : L2.Cx} {Ek : XK} {c : CS} {C : Ctx} {sc : Scope}
/-! ### instances -/
theorem RF.get {nf : Nat → Str} {K : PySem.W.Frag} {p : List Addr} {H : Hp} (inj : ∀ f g, nf f = nf g → f = g) {f : Nat} {w : W} : ∀ {fs : List (Nat × W)} {vs : List (Str × V)}, RF nf K p H fs vs → getF f fs = some w → ∃ v, vs.lookup (nf f) = some v ∧ RW K p H w v
  | _, _, .nil, e => by cases e
  | _, _, .cons (f := g) (v := v) r q, e => by
    simp only [getF] at e
    by_cases hg : g = f
    · rw [if_pos hg] at e
      cases e
      subst hg
      exact ⟨v, by simp [List.lookup_cons], r⟩
    · rw [if_neg hg] at e
      obtain ⟨v', h1, h2⟩ := RF.get inj q e
      refine ⟨v', ?_, h2⟩
      rw [List.lookup_cons]
      have : (nf f == nf g) = false := by
        rw [beq_eq_false_iff_ne]
        exact fun z => hg (inj _ _ z).symm
      rw [this]
      exact h1
theorem RF.put {nf : Nat → Str} {K : PySem.W.Frag} {p : List Addr} {H : Hp} (inj : ∀ f g, nf f = nf g → f = g) (f : Nat) {w : W} {v : V} (a : RW K p H w v) : ∀ {fs : List (Nat × W)} {vs : List (Str × V)}, RF nf K p H fs vs → RF nf K p H (M2.putF f w fs) (L2.putF (nf f) v vs)
  | _, _, .nil => .cons a .nil
  | _, _, .cons (f := g) r q => by
    by_cases hg : g = f
    · subst hg
      simp only [M2.putF, L2.putF, if_pos]
      exact .cons a q
    · simp only [M2.putF, L2.putF, if_neg hg, if_neg (fun z => hg (inj _ _ z))]
      exact .cons r (RF.put inj f a q)
theorem RF.length {nf : Nat → Str} {K : PySem.W.Frag} {p : List Addr} {H : Hp} : ∀ {fs : List (Nat × W)} {vs : List (Str × V)}, RF nf K p H fs vs → fs.length = vs.length
  | _, _, .nil => rfl
  | _, _, .cons _ q => congrArg (· + 1) q.length
theorem RF.not {nf : Nat → Str} {K : PySem.W.Frag} {p : List Addr} {H : Hp} {x : Str} : ∀ {fs : List (Nat × W)} {vs : List (Str × V)}, RF nf K p H fs vs → (∀ q ∈ fs, nf q.1 ≠ x) → vs.lookup x = none
  | _, _, .nil, _ => rfl
  | _, _, .cons (f := g) r q, h => by
    rw [List.lookup_cons]
    have : (x == nf g) = false := by
      rw [beq_eq_false_iff_ne]
      exact fun z => h _ (List.mem_cons_self ..) z.symm
    rw [this]
    exact RF.not q fun y hy => h y (List.mem_cons_of_mem _ hy)
theorem ab_base {o : Expr} {env : PySem.Env} (hb : abOk o = true) (f : Str) : attributeBase o f env (eval o env) = eval o env := by
  cases o <;> first
    | rfl
    | skip
  rename_i g as ks p
  cases g <;> first
    | rfl
    | skip
  cases as <;> first
    | rfl
    | skip
  cases ks <;> first
    | rfl
    | cases hb
theorem e_fld (g : GOk nm Ek c C X sc) {a : Expr} {x : Str} {f : Nat} {pos : Pos} {d : DV} (ha : PE X a (tV nm X.K Ek d)) (hb : abOk a = true) (hf : c.fld.lookup x = some f) :
    EOk nm Ek X (.Attribute a x pos) (mkV fun s h => (d s h).then fun y h1 => getFld C.na y f h1) := by
  have ef := g.cl.fld x f hf
  refine mkV_ok (PEi (pe_fld (f := x) ha (ab_base hb x)) ?_) (fun _ => rfl) rfl rfl
  rintro σ H Q ⟨p, s, h, si, er, ok⟩
  refine ⟨p, s, h, si, er, ok.then fun w h1 p1 H1 v _ x1 s1 r1 ok1 => ?_⟩
  cases r1 with
  | ref hr =>
    simp only [getFld] at ok1
    split at ok1
    · rename_i k fs q
      split at ok1
      · rename_i hn
        obtain ⟨a', e1, dx, vs, e2, rf⟩ := s1.get q
        rw [hr] at e1; cases e1
        obtain ⟨cl, na⟩ := g.cl.na k f hn
        cases q2 : getF f fs with
        | none => rw [q2] at ok1; exact ok1.elim
        | some u =>
          rw [q2] at ok1
          obtain ⟨v, l, rv⟩ := rf.get g.cl.inj q2
          rw [ef] at l na
          exact ⟨_, _, dx, vs, v, rfl, e2, cl, na, l, ok1 p1 H1 v Xt.refl s1 rv⟩
      · exact ok1.elim
    · exact ok1.elim
  | _ => exact ok1.elim
/-! ### C(..) -/
theorem Ok.made {K : PySem.W.Frag} {p q0 : List Addr} {h : Hm} {H Hq : Hp} {Ek : XK} {r : R W} {fz : Bool} {Q : VK} {x : Addr} (si0 : Sim nm K p h H) (x0 : Xt K p H q0 Hq) (hx : q0[h.length]? = some x) (ok : Ok nm K Ek (GV K) p H (r.then (madeV fz h)) Q) : Ok nm K Ek (GV K) q0 Hq r (fun v H2 => v = .non ∧ LkV Q (.ref x) H2) := by
  refine Ok.thenO x0 ok fun w h1 p1 H1 v _ x1 s1 r1 ok1 => ?_
  cases r1 with
  | non =>
    have hr1 : p1[h.length]? = some x := by
      obtain ⟨t, rfl⟩ := x1.pre
      rw [List.getElem?_append_left (List.getElem?_eq_some_iff.mp hx).1]
      exact hx
    refine ⟨rfl, ?_⟩
    cases fz with
    | true => exact gcI_ok si0 (x0.trans x1) s1 hr1 ok1
    | false => exact LkP.of (ok1 p1 H1 (.ref x) (x0.trans x1) s1 (.ref hr1))
  | _ => exact ok1.elim
theorem make_in {K : PySem.W.Frag} {p : List Addr} {h : Hm} {H : Hp} {Ek : XK} {k i : Nat} {ws : List W} {vs : List V} {Q : VK} (si : Sim nm K p h H) (rs : RWs K p H ws vs) (hi : C.ini k = some i) (ok : Ok nm K Ek (GV K) p H (makeV C k ws h) Q) :
    ∀ x dx, H x = none → H dx = none → dx ≠ x → spM nm K (C.call i) (.ref x :: (vs ++ [])) (upd (upd H dx (.own x)) x (.ins (nm.cls k) dx [])) (fun v H2 => v = .non ∧ LkV Q (.ref x) H2) Ek := by
  intro x dx hx hd ne
  have s1 : Sim nm K p h (upd H dx (.own x)) := si.beside hd
  have hx1 : upd H dx (.own x) x = none := by rw [upd_ne (Ne.symm ne)]; exact hx
  have s2 : Sim nm K (p ++ [x]) (h ++ [.ins k []]) (upd (upd H dx (.own x)) x (.ins (nm.cls k) dx [])) := s1.laid hx1 ⟨dx, [], upd_same, .nil⟩
  have xx : Xt K p H (p ++ [x]) (upd (upd H dx (.own x)) x (.ins (nm.cls k) dx [])) := (Xt.beside hd).trans (Xt.laid hx1)
  have hr : (p ++ [x])[h.length]? = some x := by rw [← si.len]; simp
  unfold makeV at ok
  rw [hi] at ok
  rw [List.append_nil]
  exact ⟨p ++ [x], h ++ [.ins k []], .ref h.length :: ws, s2, .cons (.ref hr) (rs.to xx), Ok.made si xx hr ok⟩
theorem e_make (g : GOk nm Ek c C X sc) {x : Str} {k : Nat} {p pos : Pos} {es : List Expr} {d : DL} (hx : isGl sc x = true) (hl : c.cls.lookup x = some k) (ha : PA X es (tLs nm X.K Ek d)) (hs : Stars es) (h0 : es = [] → d = fun _ h => .ok [] h) :
    EOk nm Ek X (.Call (.Name x p) es [] pos) (mkV fun s h => (d s h).then (makeV C k)) := by
  obtain ⟨i, n, f, fd, ps, hi, M, F, hr, hm, hb, hd⟩ := g.cl.mkr x k hl
  refine mkV_ok ?_ (fun _ => rfl) rfl rfl
  cases es with
  | nil =>
    refine PEi (pe_frz (pe_make0 M F hr (g.gl x hx) hm hb .nil g.pass hd)) fun σ H Q ⟨p, s, h, si, er, ok⟩ => ?_
    rw [h0 rfl] at ok
    exact make_in si .nil hi ok
  | cons e es =>
    refine PEi (pe_frz (pe_make M F hr (g.gl x hx) hm hb .nil g.pass ha hd (star1 (hs e (by simp)) es _) (stars_pl _ _ es fun y hy => hs y (by simp [hy])))) fun σ H Q ⟨p, s, h, si, er, ok⟩ => ?_
    exact ⟨p, s, h, si, er, ok.then fun ws h1 p1 H1 vs _ x1 s1 r1 ok1 => make_in s1 r1 hi ok1⟩
/-! ### o.m(..) -/
theorem Ok.thenN {A B A' B' : Type} {nm : Nm} {K : PySem.W.Frag} {Ek : XK} {G : List Addr → Hp → A → B → Prop} {G' : List Addr → Hp → A' → B' → Prop} {p : List Addr} {H : Hp} {r : R A} {k : A → Hm → R A'} {Q : B' → Hp → Prop} {Q' : B → Hp → Prop} (h : Ok nm K Ek G' p H (r.thenN k) Q)
    (hk : ∀ a h1 p1 H1 b, r = .ok a h1 → Xt K p H p1 H1 → Sim nm K p1 h1 H1 → G p1 H1 a b → Ok nm K Ek G' p1 H1 (k a h1) Q → Q' b H1) : Ok nm K Ek G p H r Q' := by
  cases r with
  | ok a h' => exact fun p' H' b x' s' g => hk a h' p' H' b rfl x' s' g (Ok.from x' h)
  | exc c ws h' => exact h.elim
  | bad => exact h.elim
theorem mth_in {m : Str} {j i : Nat} {w : W} {h : Hm} (e : mthOf C j w h = some i) : ∃ r k fs, w = .ref r ∧ h[r]? = some (.ins k fs) ∧ C.mth k j = some i ∧ ∀ q ∈ fs, C.na k q.1 = true := by
  cases w with
  | ref r =>
    simp only [mthOf] at e
    split at e
    · rename_i k fs q
      split at e
      · rename_i hn
        rw [List.all_eq_true] at hn
        exact ⟨r, k, fs, rfl, q, e, hn⟩
      · cases e
    · cases e
  | _ => cases e
theorem stars_all {env : PySem.Env} (pos : Pos) : ∀ {es : List Expr}, Stars es → (backTo pos (starEach es env)).all (fun x => !x.1) = true
  | [], _ => rfl
  | e :: es, h => by
    rw [star1 (h e (by simp))]
    show (true && (backTo pos (starEach es env)).all (fun x => !x.1)) = true
    rw [stars_all pos fun x hx => h x (by simp [hx])]
    rfl
theorem mcall_arm {o : Expr} {m : Str} {apos pos : Pos} {es : List Expr} {env : PySem.Env} (hb : abOk o = true) (hs : Stars es) (hn : es.length < 29) (hp : apos.endLine = pos.line) : eval (.Call (.Attribute o m apos) es [] pos) env = (do
      let ov ← eval o env
      standAt apos.atName
      let (f, first) ← holding [ov] (getMethod ov m (do return (← importBound o env).getD true))
      callWith pos f first (backTo pos (starEach es env)) (backToKw pos (keywordEach [] env))) := by
  have hform : methodCallForm (es.length + ([] : List Keyword).length) (backTo pos (starEach es env)) (backToKw pos (keywordEach [] env)) = true := by
    unfold methodCallForm
    rw [stars_all pos hs]
    have : es.length + ([] : List Keyword).length + (if (backToKw pos (keywordEach [] env)).isEmpty = true then 0 else 1) < 30 := by
      show es.length + 0 + (if ((backToKw pos (keywordEach [] env)).isEmpty = true) then 0 else 1) < 30
      split <;> omega
    simp only [this, decide_true, Bool.and_true]
    rfl
  have hpos : methodCallPos true o env apos pos = pure pos := by unfold methodCallPos; simp [hp]
  rw [arm_eval_Call, ab_base hb]
  congr 1
  funext ov
  congr 1
  funext u
  unfold methodCall
  rw [hform]
  unfold calleeOf
  simp only [hpos, pure_bind]
  rfl
theorem e_mcall (g : GOk nm Ek c C X sc) {o : Expr} {m : Str} {j : Nat} {apos pos : Pos} {es : List Expr} {da : DV} {d : DL} (ho : PE X o (tV nm X.K Ek da)) (hb : abOk o = true) (hl : c.mth.lookup m = some j) (ha : PA X es (tLs nm X.K Ek d)) (hs : Stars es) (h0 : es = [] → d = fun _ h => .ok [] h) (hp : apos.endLine = pos.line) (hn : es.length < 29) :
    EOk nm Ek X (.Call (.Attribute o m apos) es [] pos) (mkV fun s h => (da s h).thenN (mcallV C j (d s))) := by
  refine mkV_ok ⟨fun pins s σ H Q I ⟨p, s', h, si, er, ok⟩ => ?_⟩ (fun _ => rfl) rfl rfl
  have ok : Ok nm X.K Ek (GV X.K) p H ((da s' h).thenN (mcallV C j (d s'))) Q := ok
  cases hr : da s' h with
  | exc c ws h1 => rw [hr] at ok; exact ok.elim
  | bad => rw [hr] at ok; exact ok.elim
  | ok w h1 =>
    have ok' := ok
    rw [hr] at ok'
    simp only [R.thenN, mcallV] at ok'
    cases hm : mthOf C j w h1 with
    | none => rw [hm] at ok'; exact ok'.elim
    | some i =>
      obtain ⟨r, k, fs, rfl, hk, hi, hn⟩ := mth_in (m := m) hm
      obtain ⟨n, f, fd, ps, cl, M, F, rm, bd⟩ := g.cl.mt m j k i hl hi
      have inn : ∀ (t : TA), (∀ p1 h1 H1 Q', Sim nm X.K p1 h1 H1 → Er X.K p1 H1 s' σ → Ok nm X.K Ek (GL X.K) p1 H1 (d s' h1) Q' → t σ H1 Q') → tMeth (nm.cls k) m (spM nm X.K (C.call i)) [] Ek (tV nm X.K Ek da) t σ H Q := fun t ht => by
        refine ⟨p, s', h, si, er, ok.thenN fun w' h1' p1 H1 v e1 x1 s1 r1 ok1 => ?_⟩
        rw [hr] at e1
        cases e1
        cases r1 with
        | ref hr1 =>
          obtain ⟨a', e1, dx, vs, e2, rf⟩ := s1.get hk
          rw [hr1] at e1; cases e1
          refine ⟨_, dx, vs, rfl, e2, rf.not fun q hq z => ?_, ?_⟩
          · have := (g.cl.na k q.1 (hn q hq)).2
            rw [z] at this
            have := M.at_.symm.trans this
            cases this
          · simp only [mcallV, hm] at ok1
            refine ht p1 h1 H1 _ s1 (er.mono x1) (ok1.then fun ws h2 p2 H2 us _ x2 s2 r2 ok2 => ?_)
            rw [List.append_nil]
            exact ⟨p2, h2, .ref r :: ws, s2, .cons (RW.to (.ref hr1) x2) r2, ok2⟩
      cases es with
      | nil =>
        refine (pe_meth0 ho cl M F rm bd .nil g.pass (mcall_arm hb hs hn hp)).run pins s σ H Q I (inn _ fun p1 h1 H1 Q' s1 e1 ok1 => ?_)
        rw [h0 rfl] at ok1
        exact ok1 p1 H1 [] Xt.refl s1 .nil
      | cons e es =>
        exact (pe_meth ho cl M F rm bd .nil g.pass ha (star1 (hs e (by simp)) es _) (stars_pl _ _ es fun y hy => hs y (by simp [hy])) (mcall_arm hb hs hn hp)).run pins s σ H Q I (inn _ fun p1 h1 H1 Q' s1 e1 ok1 => ⟨p1, s', h1, s1, e1, ok1⟩)
end
end M2

namespace M2
open PySem PySem.Spec PyProof.Rows L2
/-! ### x != y where the class has an own == alone -/
section
variable {prog : Program} {w : World} {A : Around} {E : Value → Shared → Prop} {s : Shared} {K : PySem.W.Frag} {x C f : Addr} {ox : Obj} {od : Option Obj} {b : Value}
theorem ne_bound {M : Model} {A : Around} {E : Value → Shared → Prop} {args : List Value} {Q : Option Value → Shared → Prop} (kin : K.In s.heap) (J : PySem.W.InstAt s.heap x ox C od) (hs : PySem.W.findIn K (.ref C) "__ne__" = some (some (.builtin "object.__ne__")))
    (h : wpAny M A (call (.builtin "object.__ne__") (.ref x :: args)) (fun v => Q (some v)) E s) : wpAny M A (callSpecialIfBound? (.ref x) "__ne__" args) Q E s := by
  simp only [callSpecialIfBound?, bindSpecialIfBound?]
  refine wpAny_holding (wpAny_bind (wpAny_bind (wpAny_bind (J.type.here ((PySem.W.looks_findIn kin hs).here (?_ : wpAny _ _ _ _ _ _))))))
  refine wpAny_bind (wpAny_askSetting (wpAny_ite ?_ ))
  have rest : wpAny M A (call (.builtin "object.__ne__") ([.ref x] ++ args) >>= fun v => pure (some v)) Q E s := wpAny_bind (wpAny_mono h (fun v t q => wpAny_pure q) fun _ _ q => q)
  split
  · exact wpAny_bind (wpAny_of_eq (F.cmp_object.ne.bind _) (wpAny_pure (by exact rest)))
  · exact wpAny_tryCatch (wpAny_bind (wpAny_of_eq (F.cmp_object.ne.bind _) (wpAny_pure (by exact rest))))
theorem ne_entry {Q : Fin → Shared → Prop} (un : A.units < cLine) (kin : K.In s.heap) (J : PySem.W.InstAt s.heap x ox C od) (hs : PySem.W.findIn K (.ref C) "__eq__" = some (some (.ref f))) (hf : PySem.W.isFn K (.ref f) = true)
    (h : wpAny (model prog w) A (call (.ref f) [.ref x, b]) (fun v t => ∃ r, v = .bool r ∧ Q (.done (.ret (.bool (!r)))) t) E s) : wpAny (model prog w) A (Builtin.«object.__ne__» ⟨[.ref x, b], []⟩) Q E s := by
  unfold Builtin.«object.__ne__»
  repeat (first
    | with_reducible refine wpAny_cRoomFor un ?_
    | (refine wpAny_bind (m := callSpecialIfBound? (.ref x) (Str.ofString "__eq__") [b])
        (PySem.W.ifBound_K kin J hs hf (wpAny_mono h (fun v t q => by
          obtain ⟨r, rfl, q⟩ := q
          repeat (first | exact q | exact wpAny_pure q | exact wpAny_truthy_bool q | (refine wpAny_bind (m := truthy (.bool _)) (wpAny_truthy_bool ?_)) | wp_step)) fun _ _ q => q)))
    | wp_step)
theorem ne_K {h0 : Heap} {L : Addr} {m : Str → Option Value} {tb : Value} {Q : Value → Shared → Prop} (un : A.units + 1 < cLine) (fr : Fr h0 L s.heap m) (kin0 : K.In h0) (J : PySem.W.InstAt s.heap x ox C od) (lb : PySem.W.Looks (model prog w) s.heap (typeOf b) tb) (nf : PySem.W.notFirst K C tb = true)
    (hn : PySem.W.findIn K (.ref C) "__ne__" = some (some (.builtin "object.__ne__"))) (hm : PySem.W.mroIn K C (.type "object") = some true) (hs : PySem.W.findIn K (.ref C) "__eq__" = some (some (.ref f))) (hf : PySem.W.isFn K (.ref f) = true)
    (h : wpAny (model prog w) A.in1 (call (.ref f) [.ref x, b]) (fun v t => ∃ r, v = .bool r ∧ Q (.bool (!r)) t) E s) : wpAny (model prog w) A (richCompare .NotEq (.ref x) b) Q E s := by
  have kin := kin0.keeps fr.keep
  have one : wpAny (model prog w) A (tryCompare (.ref x) "__ne__" b) (fun r t => ∃ v, r = some v ∧ Q v t) E s := by
    unfold tryCompare
    refine wpAny_bind (ne_bound kin J hn (wpAny_call (codeAny_call_builtin F.cmp_object.ne.plain F.cmpEntry_ne (PySem.W.check_slot F.cmpKind_ne F.cmpSplit_ne (J.type.andThen (PySem.W.looks_mroIn kin hm)) (F.cmpArgs_ne _ _)
      (ne_entry (A := A.in1) un kin J hs hf (wpAny_mono h (fun v t q => ?_) fun _ _ q => q))))))
    obtain ⟨r, rfl, q⟩ := q
    first
      | exact ⟨r, rfl, wpAny_pure ⟨_, rfl, q⟩⟩
      | exact ⟨r, rfl, wpAny_pure (wpAny_pure ⟨_, rfl, q⟩)⟩
      | exact ⟨r, rfl, ⟨_, rfl, q⟩⟩
  unfold richCompare
  simp only [cmpInfo_NotEq, oneThing_ref]
  refine wpAny_holding (wpAny_bind (wpAny_cRoomFor (Nat.lt_of_succ_lt un) (?_ : wpAny _ _ _ _ _ _)))
  refine wpAny_bind (J.type.here (wpAny_bind (lb.here (?_ : wpAny _ _ _ _ _ _))))
  have fin : wpAny (model prog w) A (tryCompare (.ref x) "__ne__" b) (fun r t => ∃ v, r = some v ∧ Q v t) E s := one
  split
  · rename_i q
    have e : PySem.W.subIn K tb (.ref C) = some false := by
      rcases Bool.or_eq_true_iff.mp nf with z | z
      · rw [beq_iff_eq.mp z] at q; simp at q
      · exact beq_iff_eq.mp z
    refine wpAny_bind ((PySem.W.looks_subIn kin e).here (?_ : wpAny _ _ _ _ _ _))
    simp only [Bool.false_eq_true, if_false]
    refine wpAny_bind (wpAny_mono fin (fun r t z => ?_) fun _ _ z => z)
    obtain ⟨v, rfl, q2⟩ := z
    exact wpAny_pure q2
  · refine wpAny_bind (wpAny_pure (?_ : wpAny _ _ _ _ _ _))
    simp only [Bool.false_eq_true, if_false]
    refine wpAny_bind (wpAny_mono fin (fun r t z => ?_) fun _ _ z => z)
    obtain ⟨v, rfl, q2⟩ := z
    exact wpAny_pure q2
end
section
variable {nm : Nm} {X : L2.Cx} {Ek : XK} {c : CS} {C : Ctx} {sc : Scope}
/-- the own == is called -/
theorem own_call (g : GOk nm Ek c C X sc) {pins : List (Addr × Obj)} {σ : Sg} {H : Hp} {s : Shared} (I : Inv X pins σ H s) {A : Around} {n : Nat} {f : Addr} {fd : FuncData} {ps : List Str} {sp : Sp} (F : FnOk X.prog X.w X.K X.mg X.base (CX X.prog X.w) n f fd ps sp) (hb : Binds X.K fd ps []) (rm : Room n A) (fr : A.frames = X.A.frames)
    {a : Addr} {y : V} {u : Value} (ry : RelV y u) {Q : Bool → Hp → Prop} (ok : sp [.ref a, y] H (fun v H' => ∃ b, v = .bl b ∧ Q b H') Ek) :
    wpAny (model X.prog X.w) A (call (.ref f) [.ref a, u]) (fun v t => ∃ b H', v = .bool b ∧ Inv X pins σ H' t ∧ Q b H') X.xe s := by
  have e0 : Env0 X.prog X.w X.K X.mg X.base A X.stack s H := by
    have e := I.env0
    exact ⟨by rw [fr]; exact e.frames, e.mod, e.bs, e.bsz, e.funs, e.frf, e.hok, e.bare⟩
  have hl := F.len _ _ _ _ ok
  have r2 : Vals [V.ref a, y] [Value.ref a, u] := .cons rfl (.cons ry .nil)
  have bd : BindsTo s fd ⟨[.ref a, u], []⟩ (ps.zip [.ref a, u]) := by
    have := hb s [.ref a, u] I.kIn (by simpa using hl)
    simpa using this
  refine wpAny_call (codeAny_mono (F.run A X.stack s H ⟨[.ref a, u], []⟩ [.ref a, u] [.ref a, y] _ Ek rm e0 bd r2 ok) fun r t hq => ?_)
  cases r with
  | error e => exact g.pass pins σ H s e t I hq
  | ok fl =>
    cases fl with
    | ret w =>
      obtain ⟨z, H', I', rz, b, ez, q⟩ := I.after hq
      subst ez
      cases rz
      exact ⟨b, H', rfl, I', q⟩
    | next => exact hq.elim
    | brk => exact hq.elim
    | cont => exact hq.elim
theorem eq_of {x : W} {h : Hm} {i : Nat} (e : eqOf C x h = some i) : ∃ r k fs, x = .ref r ∧ h[r]? = some (.ins k fs) ∧ C.eqm k = some i := by
  cases x with
  | ref r =>
    simp only [eqOf] at e
    split at e
    · rename_i k fs q
      exact ⟨r, k, fs, rfl, q, e⟩
    · cases e
  | _ => cases e
theorem cmpC_bl {o : Cop} {x y w : W} {h h' : Hm} (e : cmpC C o x y h = .ok w h') : ∃ k, w = .bl k := by
  unfold cmpC at e
  split at e
  · split at e
    · split at e
      · split at e
        · obtain ⟨a, h1, _, e2⟩ := then_ok e
          unfold isB at e2
          split at e2 <;> cases e2
          exact ⟨_, rfl⟩
        · obtain ⟨a, h1, _, e2⟩ := then_ok e
          unfold notE at e2
          split at e2 <;> cases e2
          exact ⟨_, rfl⟩
        · cases e
      · cases e
    · cases e
  · exact cmpop_bl e
theorem opr_C (g : GOk nm Ek c C X sc) {op : CmpOp} {o : Cop} (ho : copOf op = some o) (base : OpR X (compareOp op) (rOp nm X.K Ek (cmpop o))) : OpR X (compareOp op) (rOp nm X.K Ek (cmpC C o)) := by
  rintro pins s σ H x y v u Q I rv ru ⟨p, h, a, b, si, ra, rb, ok⟩
  unfold cmpC at ok
  cases e : eqOf C a h with
  | none =>
    rw [e] at ok
    exact base pins s σ H x y v u Q I rv ru ⟨p, h, a, b, si, ra, rb, ok⟩
  | some i =>
    rw [e] at ok
    obtain ⟨r, k, fs, rfl, hr, hk⟩ := eq_of e
    obtain ⟨n, f, fd, ps, cl, he, hf, hne, hm, nf, F, rm, bd⟩ := g.cl.eqs k i hk
    cases kb : kd h b with
    | none => rw [kb] at ok; exact ok.elim
    | some j =>
      rw [kb] at ok
      simp only at ok
      by_cases hj : kdC C j = true
      · rw [if_pos hj] at ok
        cases ra with
        | ref hra =>
          rename_i x0
          obtain ⟨a', e1, dx, vs, e2, rf⟩ := si.get hr
          rw [hra] at e1; cases e1
          cases rv
          obtain ⟨mA, J, _⟩ := ins_get I.hok e2
          obtain ⟨od, J, _⟩ := J.look
          obtain ⟨mm, hF⟩ := I.fr
          obtain ⟨P, Z, pz, _⟩ := kit_of I ru (kd_ty si rb kb (ins_of g hj))
          have lb := Z.ty (model X.prog X.w) s.heap I.kIn pz
          have un : X.A.units + 1 < cLine := by have := g.un; omega
          cases op <;> cases ho <;> first
            | exact ok.elim
            | skip
          · -- ==
            have sp : spM nm X.K (C.call i) [.ref x0, y] H (fun v H' => ∃ b, v = .bl b ∧ Q (.bl b) H') Ek := by
              refine ⟨p, h, [.ref r, b], si, .cons (.ref hra) (.cons rb .nil), ok.then fun w h1 p1 H1 v _ x1 s1 r1 ok1 => ?_⟩
              cases r1 with
              | bl t => exact ⟨t, rfl, okB s1 ok1⟩
              | _ => exact ok1.elim
            refine PySem.W.cmp_K (op := .Eq) (Nat.lt_of_succ_lt un) hF I.ok.mod.kin J lb (nf j hj) he hf (wpAny_mono (own_call g I F bd (rm.mono (Nat.le_succ n)) rfl ru sp) (fun v t q => ?_) fun _ _ q => q)
            obtain ⟨t, H', rfl, I', q⟩ := q
            exact ⟨.bl t, H', I', rfl, q⟩
          · -- !=
            have sp : spM nm X.K (C.call i) [.ref x0, y] H (fun v H' => ∃ b, v = .bl b ∧ Q (.bl (!b)) H') Ek := by
              refine ⟨p, h, [.ref r, b], si, .cons (.ref hra) (.cons rb .nil), ok.then fun w h1 p1 H1 v _ x1 s1 r1 ok1 => ?_⟩
              cases r1 with
              | bl t => exact ⟨t, rfl, okB s1 ok1⟩
              | _ => exact ok1.elim
            refine ne_K un hF I.ok.mod.kin J lb (nf j hj) hne hm he hf (wpAny_mono (own_call g I F bd rm.in1 rfl ru sp) (fun v t q => ?_) fun _ _ q => q)
            obtain ⟨t, H', rfl, I', q⟩ := q
            exact ⟨t, rfl, ⟨.bl (!t), H', I', rfl, q⟩⟩
      · rw [if_neg hj] at ok; exact ok.elim
theorem e_cmpCT (g : GOk nm Ek c C X sc) {op : CmpOp} {a b : Expr} {pos : Pos} {da db : DV} {o : Cop} (ho : copOf op = some o) (base : OpR X (compareOp op) (rOp nm X.K Ek (cmpop o))) (ha : PE X a (tV nm X.K Ek da)) (hb : PE X b (tV nm X.K Ek db)) (hm : behindInMarks op b = false) :
    EOk nm Ek X (.Compare a [op] [b] pos) (mkV fun s h => (da s h).then fun x h1 => (db s h1).then fun y h2 => cmpC C o x y h2) := by
  have hc := opr_C g ho base
  refine ⟨e_cmp hc ha hb hm, l_of (e_cmp hc ha hb hm), fun _ => ?_, fun z => nomatch z⟩
  refine PTi (pt_cmpR hc ha hb hm) fun σ H Q h => tOp_of (test_of (fun s h w h' e => ?_) h)
  obtain ⟨_, _, _, e1⟩ := then_ok e
  obtain ⟨_, _, _, e2⟩ := then_ok e1
  exact cmpC_bl e2
end
end M2

namespace M2
open PySem PySem.Spec PyProof.Rows L2
section
variable {nm : Nm} {X : L2.Cx} {Ek : XK} {c : CS} {C : Ctx} {sc : Scope}
/-! ### what is walked -/
/-- the iterator J gives the items of q -/
structure Wk (nm : Nm) (K : PySem.W.Frag) (p : List Addr) (H : Hp) (q : Src) (J : L2.It) : Prop where
  go : ∀ i p' H' h', Xt K p H p' H' → Sim nm K p' h' H' → okG q.gs h' = true → i < q.its.length → J.go i H'
  stop : ∀ i p' H' h', Xt K p H p' H' → Sim nm K p' h' H' → okG q.gs h' = true → q.its.length ≤ i → J.stop i H'
  yld : ∀ i p' H' h' x H'' w, Xt K p H p' H' → Sim nm K p' h' H' → okG q.gs h' = true → q.its[i]? = some w → J.yld i H' x H'' → Xt K p' H' p' H'' ∧ Sim nm K p' h' H'' ∧ RW K p' H'' w x
def tI (nm : Nm) (K : PySem.W.Frag) (Ek : XK) (it : M2.It) (da db : DV) : TI := fun σ H R => ∃ p s h, Sim nm K p h H ∧ Er K p H s σ ∧ Ok nm K Ek (Wk nm K) p H ((da s h).then fun x h1 => (db s h1).then fun y h2 => srcV it x y h2) R
theorem wk_itl {K : PySem.W.Frag} {p : List Addr} {H : Hp} {h : Hm} {a : Addr} {l : List W} {vs : List V} (hl : FzL K H a vs) (ql : RWs K p H l vs) : Wk nm K p H ⟨l, [], h, none⟩ (Itl K a) where
  go := fun i p' H' h' x s _ hi => by
    have h1 := (x.kp.fz _ _ hl).sq
    have : i < vs.length := by rw [← ql.length]; exact hi
    exact ⟨vs, vs[i], h1, List.getElem?_eq_getElem this⟩
  stop := fun i p' H' h' x s _ hi => ⟨vs, (x.kp.fz _ _ hl).sq, by rw [← ql.length]; exact hi⟩
  yld := fun i p' H' h' y H'' w x s _ e yl => by
    obtain ⟨rfl, y2⟩ := yl
    obtain ⟨v, g, r⟩ := ql.get e
    have := y2 vs (x.kp.fz _ _ hl).sq
    rw [g] at this
    cases this
    exact ⟨Xt.refl, s, r.to x⟩
theorem wk_itt {K : PySem.W.Frag} {p : List Addr} {H : Hp} {h : Hm} {a : Addr} {l : List W} {vs : List V} (hl : SqT K H a vs) (ql : RWs K p H l vs) : Wk nm K p H ⟨l, [], h, none⟩ (Itt K a) where
  go := fun i p' H' h' x s _ hi => by
    have : i < vs.length := by rw [← ql.length]; exact hi
    exact ⟨vs, vs[i], x.kp.tup _ _ hl, List.getElem?_eq_getElem this⟩
  stop := fun i p' H' h' x s _ hi => ⟨vs, x.kp.tup _ _ hl, by rw [← ql.length]; exact hi⟩
  yld := fun i p' H' h' y H'' w x s _ e yl => by
    obtain ⟨rfl, y2⟩ := yl
    obtain ⟨v, g, r⟩ := ql.get e
    have := y2 vs (x.kp.tup _ _ hl)
    rw [g] at this
    cases this
    exact ⟨Xt.refl, s, r.to x⟩
theorem wk_ref {K : PySem.W.Frag} {p : List Addr} {H : Hp} {h : Hm} {a : Addr} {r : Nat} {l : List W} (hr : p[r]? = some a) : Wk nm K p H ⟨l, [(r, l)], h, none⟩ (Itl K a) := by
  have key : ∀ p' H' h', Xt K p H p' H' → Sim nm K p' h' H' → okG [(r, l)] h' = true → ∃ vs, SqL K H' a vs ∧ RWs K p' H' l vs := fun p' H' h' x s g => by
    simp only [okG, List.all_cons, List.all_nil, Bool.and_true, decide_eq_true_eq] at g
    have hr' : p'[r]? = some a := by
      obtain ⟨t, rfl⟩ := x.pre
      rw [List.getElem?_append_left (List.getElem?_eq_some_iff.mp hr).1]
      exact hr
    obtain ⟨vs, h1, q⟩ := s.lst hr' (asL_lst g)
    exact ⟨vs, SqL.of h1, q⟩
  refine ⟨fun i p' H' h' x s g hi => ?_, fun i p' H' h' x s g hi => ?_, fun i p' H' h' y H'' w x s g e yl => ?_⟩
  · obtain ⟨vs, h1, q⟩ := key _ _ _ x s g
    have : i < vs.length := by rw [← q.length]; exact hi
    exact ⟨vs, vs[i], h1, List.getElem?_eq_getElem this⟩
  · obtain ⟨vs, h1, q⟩ := key _ _ _ x s g
    exact ⟨vs, h1, by rw [← q.length]; exact hi⟩
  · obtain ⟨rfl, y2⟩ := yl
    obtain ⟨vs, h1, q⟩ := key _ _ _ x s g
    obtain ⟨v, g2, r2⟩ := q.get e
    have := y2 vs h1
    rw [g2] at this
    cases this
    exact ⟨Xt.refl, s, r2⟩
theorem upto_get (lo : Int) (n i : Nat) (w : W) (e : (upto lo n)[i]? = some w) : w = .int (lo + (i : Nat)) := by
  unfold upto at e
  rw [List.getElem?_map] at e
  cases q : (List.range n)[i]? with
  | none => rw [q] at e; cases e
  | some j =>
    rw [q] at e
    cases e
    obtain ⟨hj, ej⟩ := List.getElem?_eq_some_iff.mp q
    rw [List.getElem_range] at ej
    rw [ej]
theorem wk_rng {K : PySem.W.Frag} {p : List Addr} {H : Hp} {h : Hm} (lo : Int) (n : Nat) : Wk nm K p H ⟨upto lo n, [], h, none⟩ (Itr lo n) where
  go := fun i p' H' h' x s _ hi => by
    show i < n
    simpa [upto] using hi
  stop := fun i p' H' h' x s _ hi => by
    show n ≤ i
    simpa [upto] using hi
  yld := fun i p' H' h' y H'' w x s _ e yl => by
    obtain ⟨rfl, rfl⟩ := yl
    rw [upto_get lo n i w e]
    exact ⟨Xt.refl, s, .int _⟩
theorem wk_str {K : PySem.W.Frag} {p : List Addr} {H : Hp} {h : Hm} (l : List Nat) : Wk nm K p H ⟨l.map fun c => .str [c], [], h, none⟩ (Its (st l)) where
  go := fun i p' H' h' x s _ hi => by
    simp at hi
    show i < (st l).length
    rw [st_len]; exact hi
  stop := fun i p' H' h' x s _ hi => by
    simp at hi
    show (st l).length ≤ i
    rw [st_len]; exact hi
  yld := fun i p' H' h' y H'' w x s _ e yl => by
    obtain ⟨rfl, ch, hc, rfl⟩ := yl
    rw [List.getElem?_map] at e
    have : l[i]? = some ch := by simpa using hc
    rw [this] at e
    cases e
    exact ⟨Xt.refl, s, .str [ch]⟩
theorem i_seq {tg e : Expr} {da db : DV} (hda : ∀ s h, db s h = .ok .non h) (ha : PE X e (tV nm X.K Ek da)) : PI X tg e (tI nm X.K Ek .seq da db) := by
  refine ⟨fun pins s σ H RR I ⟨p, s', h, si, er, ok⟩ => ?_⟩
  cases hr : da s' h with
  | bad => rw [hr] at ok; exact ok.elim
  | exc k ws h1 =>
    rw [hr] at ok
    exact (pi_list ha).run pins s σ H RR I ⟨p, s', h, si, er, by rw [hr]; exact ok⟩
  | ok w h1 =>
    rw [hr] at ok
    have ok : Ok nm X.K Ek (Wk nm X.K) p H (srcV .seq w .non h1) RR := by
      have : (R.ok w h1).then (fun x h1 => (db s' h1).then fun y h2 => srcV .seq x y h2) = srcV .seq w .non h1 := by
        show (db s' h1).then _ = _
        rw [hda]; rfl
      rw [this] at ok; exact ok
    have key : ∀ q, src .seq w .non h1 = some q → q.h = h1 → ∀ (J : L2.It) p' H', Xt X.K p H p' H' → Sim nm X.K p' h1 H' → Wk nm X.K p' H' q J → RR J H' := fun q e e2 J p' H' x sm wk => by
      unfold srcV at ok
      rw [e] at ok
      exact ok p' H' J x (by rw [e2]; exact sm) wk
    cases w with
    | tup l =>
      refine (pi_tup ha).run pins s σ H RR I ⟨p, s', h, si, er, ?_⟩
      rw [hr]
      intro p' H' b x sm r
      cases r with
      | tup hl ql => exact ⟨_, rfl, ⟨_, hl⟩, key _ rfl rfl _ p' H' x sm (wk_itt hl ql)⟩
    | kl l =>
      refine (pi_list ha).run pins s σ H RR I ⟨p, s', h, si, er, ?_⟩
      rw [hr]
      intro p' H' b x sm r
      cases r with
      | kl hl ql => exact ⟨_, rfl, ⟨_, hl.sq⟩, key _ rfl rfl _ p' H' x sm (wk_itl hl ql)⟩
    | str l =>
      refine (pi_str ha).run pins s σ H RR I ⟨p, s', h, si, er, ?_⟩
      rw [hr]
      intro p' H' b x sm r
      cases r with
      | str l => exact ⟨_, rfl, key _ rfl rfl _ p' H' x sm (wk_str l)⟩
    | ref r =>
      refine (pi_list ha).run pins s σ H RR I ⟨p, s', h, si, er, ?_⟩
      rw [hr]
      intro p' H' b x sm rr
      cases rr with
      | ref hr2 =>
        unfold srcV at ok
        cases e : h1[r]? with
        | none => simp only [src, e] at ok; exact ok.elim
        | some o =>
          cases o with
          | lst l =>
            obtain ⟨vs, e1, q1⟩ := sm.lst hr2 e
            exact ⟨_, rfl, ⟨vs, SqL.of e1⟩, key ⟨l, [(r, l)], h1, none⟩ (by simp only [src, e]) rfl _ p' H' x sm (wk_ref hr2)⟩
          | _ => simp only [src, e] at ok; exact ok.elim
    | _ => exact ok.elim
theorem numbered_get : ∀ (l : List W) (k i : Nat) (w : W), (numbered k l)[i]? = some w → ∃ x, l[i]? = some x ∧ w = .tup [.int ((k + i : Nat) : Int), x]
  | [], _, _, _, h => by simp [numbered] at h
  | x :: l, k, 0, w, h => by
    simp [numbered] at h
    exact ⟨x, rfl, by rw [← h]; rfl⟩
  | x :: l, k, i + 1, w, h => by
    rw [numbered, List.getElem?_cons_succ] at h
    obtain ⟨y, h1, h2⟩ := numbered_get l (k + 1) i w h
    refine ⟨y, by simpa using h1, ?_⟩
    rw [h2]
    have : k + 1 + i = k + (i + 1) := by omega
    rw [this]
theorem numbered_len : ∀ (l : List W) (k : Nat), (numbered k l).length = l.length
  | [], _ => rfl
  | _ :: l, k => by rw [numbered, List.length_cons, numbered_len l, List.length_cons]
theorem wk_enmK {K : PySem.W.Frag} {p : List Addr} {H : Hp} {h : Hm} {a : Addr} {l : List W} {vs : List V} (hl : FzL K H a vs) (ql : RWs K p H l vs) : Wk nm K p H ⟨numbered 0 l, [], h, none⟩ (Ite K a) := by
  refine ⟨fun i p' H' h' x s g hi => ?_, fun i p' H' h' x s g hi => ?_, fun i p' H' h' y H'' w x s g e yl => ?_⟩
  · have : i < vs.length := by rw [← ql.length, ← numbered_len l 0]; exact hi
    exact ⟨vs, vs[i], (x.kp.fz _ _ hl).sq, List.getElem?_eq_getElem this⟩
  · exact ⟨vs, (x.kp.fz _ _ hl).sq, by rw [← ql.length, ← numbered_len l 0]; exact hi⟩
  · obtain ⟨T, z, rfl, hT, rfl, y2⟩ := yl
    obtain ⟨u, e1, rfl⟩ := numbered_get l 0 i w e
    obtain ⟨v, g2, r2⟩ := ql.get e1
    have e3 := y2 vs (x.kp.fz _ _ hl).sq
    rw [g2] at e3
    cases e3
    refine ⟨Xt.beside hT, s.beside hT, .tup (SqT.of upd_same) (.cons ?_ (.cons ((r2.to x).to (Xt.beside hT)) .nil))⟩
    rw [Nat.zero_add]
    exact .int _
theorem wk_enm {K : PySem.W.Frag} {p : List Addr} {H : Hp} {h : Hm} {a : Addr} {r : Nat} {l : List W} (hr : p[r]? = some a) : Wk nm K p H ⟨numbered 0 l, [(r, l)], h, none⟩ (Ite K a) := by
  have key : ∀ p' H' h', Xt K p H p' H' → Sim nm K p' h' H' → okG [(r, l)] h' = true → ∃ vs, SqL K H' a vs ∧ RWs K p' H' l vs := fun p' H' h' x s g => by
    simp only [okG, List.all_cons, List.all_nil, Bool.and_true, decide_eq_true_eq] at g
    have hr' : p'[r]? = some a := by
      obtain ⟨t, rfl⟩ := x.pre
      rw [List.getElem?_append_left (List.getElem?_eq_some_iff.mp hr).1]
      exact hr
    obtain ⟨vs, h1, q⟩ := s.lst hr' (asL_lst g)
    exact ⟨vs, SqL.of h1, q⟩
  refine ⟨fun i p' H' h' x s g hi => ?_, fun i p' H' h' x s g hi => ?_, fun i p' H' h' y H'' w x s g e yl => ?_⟩
  · obtain ⟨vs, h1, q⟩ := key _ _ _ x s g
    have : i < vs.length := by rw [← q.length, ← numbered_len l 0]; exact hi
    exact ⟨vs, vs[i], h1, List.getElem?_eq_getElem this⟩
  · obtain ⟨vs, h1, q⟩ := key _ _ _ x s g
    exact ⟨vs, h1, by rw [← q.length, ← numbered_len l 0]; exact hi⟩
  · obtain ⟨T, z, rfl, hT, rfl, y2⟩ := yl
    obtain ⟨vs, h1, q⟩ := key _ _ _ x s g
    obtain ⟨u, e1, rfl⟩ := numbered_get l 0 i w e
    obtain ⟨v, g2, r2⟩ := q.get e1
    have e3 := y2 vs h1
    rw [g2] at e3
    cases e3
    refine ⟨Xt.beside hT, s.beside hT, .tup (SqT.of upd_same) (.cons ?_ (.cons (r2.to (Xt.beside hT)) .nil))⟩
    rw [Nat.zero_add]
    exact .int _
theorem i_enm (g : GOk nm Ek c C X sc) {elts : List Expr} {kk : Nat} {tpos p pos : Pos} {a : Expr} {da db : DV} (hdb : ∀ s h, db s h = .ok .non h) (hx : isGl sc "enumerate" = true) (ha : PE X a (tV nm X.K Ek da)) (hs : notStar a = true) : PI X (.Tuple elts kk tpos) (.Call (.Name "enumerate" p) [a] [] pos) (tI nm X.K Ek .enm da db) := by
  refine ⟨fun pins s σ H RR I ⟨p, s', h, si, er, ok⟩ => ?_⟩
  refine (pi_enum (g.gl _ hx) (g.blt _ (by decide)) (pa_cons ha pa_nil (star1 hs [] _)) (star1 hs [] _)).run pins s σ H RR I ⟨p, s', h, si, er, ok.then fun w h1 p1 H1 x _ x1 s1 r1 ok1 => ?_⟩
  rw [hdb] at ok1
  have ok1 : Ok nm X.K Ek (Wk nm X.K) p1 H1 (srcV .enm w .non h1) RR := ok1
  cases r1 with
  | @ref n0 a0 hr =>
    cases q : h1[n0]? with
    | none => simp only [srcV, src, q] at ok1; exact ok1.elim
    | some o =>
      cases o with
      | lst l =>
        simp only [srcV, src, q] at ok1
        obtain ⟨vs, e1, q1⟩ := s1.lst hr q
        exact ⟨_, vs, rfl, SqL.of e1, ok1 p1 H1 _ Xt.refl s1 (wk_enm hr)⟩
      | _ => simp only [srcV, src, q] at ok1; exact ok1.elim
  | kl hl ql =>
    simp only [srcV, src] at ok1
    exact ⟨_, _, rfl, hl.sq, ok1 p1 H1 _ Xt.refl s1 (wk_enmK hl ql)⟩
  | _ => simp only [srcV, src] at ok1; exact ok1.elim
theorem small_of {n : Int} (h : small62 n = true) : -(2 ^ 62) ≤ n ∧ n < 2 ^ 62 := of_decide_eq_true h
theorem i_rng1 (g : GOk nm Ek c C X sc) {tg a : Expr} {p pos : Pos} {da db : DV} (hdb : ∀ s h, db s h = .ok .non h) (hx : isGl sc "range" = true) (ha : PE X a (tV nm X.K Ek da)) (hs : notStar a = true) : PI X tg (.Call (.Name "range" p) [a] [] pos) (tI nm X.K Ek .rng1 da db) := by
  refine ⟨fun pins s σ H RR I ⟨p, s', h, si, er, ok⟩ => ?_⟩
  refine (pi_range1 (g.gl _ hx) (g.blt _ (by decide)) (pa_cons ha pa_nil (star1 hs [] _)) (star1 hs [] _)).run pins s σ H RR I ⟨p, s', h, si, er, ok.then fun w h1 p1 H1 x _ x1 s1 r1 ok1 => ?_⟩
  rw [hdb] at ok1
  cases r1 with
  | int n =>
    have ok1 : Ok nm X.K Ek (Wk nm X.K) p1 H1 (srcV .rng1 (.int n) .non h1) RR := ok1
    simp only [srcV, src] at ok1
    by_cases hn : small62 n = true
    · rw [if_pos hn] at ok1
      exact ⟨n, rfl, (small_of hn).1, (small_of hn).2, ok1 p1 H1 _ Xt.refl s1 (wk_rng 0 n.toNat)⟩
    · rw [if_neg hn] at ok1; exact ok1.elim
  | _ => exact ok1.elim
theorem i_rng2 (g : GOk nm Ek c C X sc) {tg a b : Expr} {p pos : Pos} {da db : DV} (hx : isGl sc "range" = true) (ha : PE X a (tV nm X.K Ek da)) (hb : PE X b (tV nm X.K Ek db)) (hs : notStar a = true) (hs2 : notStar b = true) :
    PI X tg (.Call (.Name "range" p) [a, b] [] pos) (tI nm X.K Ek .rng2 da db) := by
  refine ⟨fun pins s σ H RR I ⟨p, s', h, si, er, ok⟩ => ?_⟩
  refine (pi_range2 (g.gl _ hx) (g.blt _ (by decide)) (pa_cons ha (pa_cons hb pa_nil (star1 hs2 [] _)) (star1 hs [b] _)) (by rw [star1 hs, star1 hs2]; rfl) (by rw [star1 hs2]; rfl)).run pins s σ H RR I ⟨p, s', h, si, er, ok.then fun w h1 p1 H1 x _ x1 s1 r1 ok1 => ⟨p1, s', h1, s1, er.mono x1, ok1.then fun w2 h2 p2 H2 y _ x2 s2 r2 ok2 => ?_⟩⟩
  cases r1 with
  | int i =>
    cases r2 with
    | int j =>
      simp only [srcV, src] at ok2
      by_cases hn : (small62 i && small62 j) = true
      · rw [if_pos hn] at ok2
        simp only [Bool.and_eq_true] at hn
        exact ⟨i, j, rfl, ⟨(small_of hn.1).1, (small_of hn.1).2, (small_of hn.2).1, (small_of hn.2).2⟩, ok2 p2 H2 _ Xt.refl s2 (wk_rng i (j - i).toNat)⟩
      · rw [if_neg hn] at ok2; exact ok2.elim
    | _ => exact ok2.elim
  | _ => cases w2 <;> exact ok2.elim
/-! ### targets -/
/-- a state told but for some slots -/
structure ErX (K : PySem.W.Frag) (p : List Addr) (H : Hp) (A : Nat → Prop) (s : M2.Env) (t : Sg) : Prop where
  len : s.length = t.length
  at_ : ∀ (i : Nat) (w : W), ¬ A i → s[i]? = some (some w) → ∃ v, t[i]? = some (some v) ∧ RW K p H w v
theorem ErX.set {K : PySem.W.Frag} {p : List Addr} {H : Hp} {A : Nat → Prop} {s : M2.Env} {t : Sg} (e : ErX K p H A s t) {w : W} {v : V} (r : RW K p H w v) (i : Nat) : ErX K p H (fun j => A j ∧ j ≠ i) (s.set i (some w)) (t.set i (some v)) := by
  refine ⟨by simpa using e.len, fun j u na q => ?_⟩
  by_cases hj : i = j
  · subst hj
    by_cases hi : i < s.length
    · rw [List.getElem?_set_self hi] at q
      cases q
      exact ⟨v, by rw [List.getElem?_set_self (by rw [← e.len]; exact hi)], r⟩
    · rw [List.getElem?_eq_none (by simpa using hi)] at q; cases q
  · rw [List.getElem?_set_ne hj] at q
    obtain ⟨x, a, b⟩ := e.at_ j u (fun z => na ⟨z, fun k => hj k.symm⟩) q
    exact ⟨x, by rw [List.getElem?_set_ne hj]; exact a, b⟩
theorem ErX.imp {K : PySem.W.Frag} {p : List Addr} {H : Hp} {A B : Nat → Prop} {s : M2.Env} {t : Sg} (e : ErX K p H A s t) (h : ∀ i, A i → B i) : ErX K p H B s t := ⟨e.len, fun i w n q => e.at_ i w (fun z => n (h i z)) q⟩
theorem ErX.er {K : PySem.W.Frag} {p : List Addr} {H : Hp} {A : Nat → Prop} {s : M2.Env} {t : Sg} (e : ErX K p H A s t) (h : ∀ i, ¬ A i) : Er K p H s t := ⟨e.len, fun i w q => e.at_ i w (h i) q⟩
theorem wipe_get : ∀ (vs : List Nat) (σ : Sg) (j : Nat), (wipe σ vs)[j]? = if j ∈ vs ∧ j < σ.length then some none else σ[j]?
  | [], σ, j => by simp [wipe]
  | v :: vs, σ, j => by
    show ((wipe σ vs).set v none)[j]? = _
    by_cases h : v = j
    · subst h
      by_cases hl : v < σ.length
      · rw [List.getElem?_set_self (by rw [wipe_length]; exact hl), if_pos ⟨by simp, hl⟩]
      · rw [List.getElem?_eq_none (by simpa [wipe_length] using hl), if_neg (fun z => hl z.2), List.getElem?_eq_none (by simpa using hl)]
    · rw [List.getElem?_set_ne h, wipe_get vs σ j]
      by_cases hj : j ∈ vs ∧ j < σ.length
      · rw [if_pos hj, if_pos ⟨by simp [hj.1], hj.2⟩]
      · rw [if_neg hj, if_neg (fun z => hj ⟨by simpa [Ne.symm h] using z.1, z.2⟩)]
theorem wipe_set {vs : List Nat} {τ : Sg} {i : Nat} {x : Option V} (h : i ∈ vs) : wipe (τ.set i x) vs = wipe τ vs := by
  apply List.ext_getElem?
  intro j
  rw [wipe_get, wipe_get, List.length_set]
  by_cases hj : j ∈ vs ∧ j < τ.length
  · rw [if_pos hj, if_pos hj]
  · rw [if_neg hj, if_neg hj]
    by_cases e : i = j
    · subst e
      have : ¬ i < τ.length := fun z => hj ⟨h, z⟩
      rw [List.getElem?_eq_none (by simpa using this), List.getElem?_eq_none (by simpa using this)]
    · rw [List.getElem?_set_ne e]
theorem wipe_wipe (vs : List Nat) (σ : Sg) : wipe (wipe σ vs) vs = wipe σ vs := by
  apply List.ext_getElem?
  intro j
  rw [wipe_get vs (wipe σ vs) j, wipe_length]
  by_cases hj : j ∈ vs ∧ j < σ.length
  · rw [if_pos hj, wipe_get vs σ j, if_pos hj]
  · rw [if_neg hj]
theorem Er.wiped {K : PySem.W.Frag} {p : List Addr} {H : Hp} {s : M2.Env} {t : Sg} (e : Er K p H s t) (vs : List Nat) : ErX K p H (fun i => i ∈ vs) s (wipe t vs) := by
  refine ⟨by rw [wipe_length]; exact e.len, fun i w n q => ?_⟩
  obtain ⟨v, a, b⟩ := e.at_ i w q
  exact ⟨v, by rw [wipe_get, if_neg (fun z => n z.1)]; exact a, b⟩
def gNs : List Nat → TGs
  | [] => gNil
  | i :: t => gCons (gName i) (gNs t)
def gK (K : PySem.W.Frag) (k : Bool) (t : List Nat) : TG := match k, t with
  | true, t => gTup K t.length (gNs t)
  | false, [i] => gName i
  | false, _ => fun _ _ _ _ => False
theorem gNs_ok {K : PySem.W.Frag} {p : List Addr} {H : Hp} {Q : Sg → Hp → Prop} : ∀ {t : List Nat} {l : List W} {vs : List V} {s s' : M2.Env} {τ : Sg} {A : Nat → Prop}, RWs K p H l vs → setAll t l s = some s' → ErX K p H A s τ →
    (∀ τ', ErX K p H (fun j => A j ∧ j ∉ t) s' τ' → (∀ own, (∀ i ∈ t, i ∈ own) → wipe τ' own = wipe τ own) → Q τ' H) → gNs t vs τ H Q
  | [], [], _, s, s', τ, A, .nil, e, er, h => by
    cases e
    exact ⟨rfl, h τ (er.imp fun i a => ⟨a, by simp⟩) fun _ _ => rfl⟩
  | i :: t, w :: l, _, s, s', τ, A, .cons r rs, e, er, h => by
    refine ⟨_, _, rfl, ?_⟩
    refine gNs_ok rs e (er.set r i) fun τ' er' hw => h τ' (er'.imp fun j z => ⟨z.1.1, ?_⟩) fun own ho => ?_
    · simp only [List.mem_cons, not_or]; exact ⟨z.1.2, z.2⟩
    · rw [hw own fun j hj => ho j (by simp [hj]), wipe_set (ho i (by simp))]
  | [], _ :: _, _, _, _, _, _, .cons _ _, e, _, _ => by cases e
  | _ :: _, [], _, _, _, _, _, .nil, e, _, _ => by cases e
theorem setAll_len : ∀ {t : List Nat} {l : List W} {s s' : M2.Env}, setAll t l s = some s' → l.length = t.length
  | [], [], _, _, _ => rfl
  | _ :: t, _ :: l, _, _, e => congrArg (· + 1) (setAll_len (t := t) (l := l) e)
  | [], _ :: _, _, _, e => by cases e
  | _ :: _, [], _, _, e => by cases e
theorem gK_ok {K : PySem.W.Frag} {p : List Addr} {H : Hp} {Q : Sg → Hp → Prop} {k : Bool} {t : List Nat} {w : W} {v : V} {s s' : M2.Env} {τ : Sg} {A : Nat → Prop} (r : RW K p H w v) (e : setT k t w s = some s') (er : ErX K p H A s τ)
    (h : ∀ τ', ErX K p H (fun j => A j ∧ j ∉ t) s' τ' → (∀ own, (∀ i ∈ t, i ∈ own) → wipe τ' own = wipe τ own) → Q τ' H) : gK K k t v τ H Q := by
  unfold setT at e
  cases k with
  | true =>
    rw [if_pos rfl] at e
    split at e
    · cases r with
      | tup hl ql => exact ⟨_, _, rfl, hl, by rw [← ql.length, setAll_len e], gNs_ok ql e er h⟩
    · cases e
  | false =>
    rw [if_neg Bool.false_ne_true] at e
    match t, e, h with
    | [i], e, h =>
      cases e
      exact h _ ((er.set r i).imp fun j z => ⟨z.1, by simpa using z.2⟩) fun own ho => wipe_set (ho i (by simp))
    | [], e, _ => cases e
    | _ :: _ :: _, e, _ => cases e
theorem ixOf_get {x : Str} : ∀ {N : List Str} {i : Nat}, ixOf x N = some i → N[i]? = some x
  | [], _, h => by cases h
  | y :: N, i, h => by
    simp only [ixOf] at h
    split at h
    · rename_i e; cases h; rw [e]; rfl
    · split at h
      · rename_i j e; cases h; simpa using ixOf_get e
      · cases h
theorem g_name (g : GOk nm Ek c C X sc) {x : Str} {p : Pos} {i : Nat} (hl : isLoc sc x = true) (hi : ixOf x c.N = some i) : PG X (.Name x p) (gName i) :=
  pg_name g.nd (by rw [g.N]; exact ixOf_get hi) (g.loc x hl).1 (g.loc x hl).2
theorem gs_ok (g : GOk nm Ek c C X sc) : ∀ {es : List Expr} {t : List Nat}, es.all (nameLoc sc) = true → allO (nameIx c) es = some t → PGs X es (gNs t) ∧ (assignEach es X.env).length = t.length ∧ (assignEach es X.env).findIdx? (·.1) = none
  | [], t, _, h => by cases h; exact ⟨pgs_nil, rfl, rfl⟩
  | e :: es, t, hl, h => by
    simp only [List.all_cons, Bool.and_eq_true] at hl
    simp only [allO] at h
    split at h
    · rename_i i h1
      split at h
      · rename_i r h2
        cases h
        cases e with
        | Name x p =>
          obtain ⟨h3, h4, h5⟩ := gs_ok g hl.2 h2
          refine ⟨pgs_cons (g_name g hl.1 h1) h3, ?_, ?_⟩
          · show (assignEach es X.env).length + 1 = r.length + 1
            rw [h4]
          · show List.findIdx? (·.1) ((false, assign (.Name x p) X.env) :: assignEach es X.env) = none
            rw [List.findIdx?_cons]
            simp [h5]
        | _ => cases h1
      · cases h
    · cases h
/-- a for's or a comprehension's target -/
theorem tgt_ok (g : GOk nm Ek c C X sc) {e : Expr} {k : Bool} {t : List Nat} (hl : locTgt sc e = true) (h : tgtOf c e = some (k, t)) : PG X e (gK X.K k t) := by
  cases e with
  | Name x p =>
    simp only [tgtOf] at h
    cases q : ixOf x c.N with
    | none => rw [q] at h; cases h
    | some i =>
      rw [q] at h
      cases h
      exact g_name g hl q
  | Tuple es k2 p =>
    simp only [tgtOf] at h
    cases q : allO (nameIx c) es with
    | none => rw [q] at h; cases h
    | some r =>
      rw [q] at h
      cases h
      obtain ⟨h1, h2, h3⟩ := gs_ok g hl q
      exact pg_tup g.calm h1 h2 h3
  | _ => cases h
end
end M2

namespace M2
open PySem PySem.Spec PyProof.Rows L2
section
variable {nm : Nm} {X : L2.Cx} {Ek : XK} {c : CS} {C : Ctx} {sc : Scope}
/-! ### a comprehension's turns -/
theorem upd_self {H : Hp} {a : Addr} {u : HO} (e : H a = some u) : upd H a u = H := by
  funext b
  by_cases h : b = a
  · rw [h, upd_same, e]
  · rw [upd_ne h]
theorem go_len {A : Type} {f : W → Hm → M2.R (Option A)} {g : List (Nat × List W)} : ∀ {l : List W} {acc r : List A} {h h' : Hm}, compGo f g l acc h = .ok r h' → acc.length ≤ r.length
  | [], acc, r, h, h', e => by
    simp only [compGo] at e
    split at e
    · cases e; exact Nat.le_refl _
    · cases e
  | x :: l, acc, r, h, h', e => by
    simp only [compGo] at e
    split at e
    · split at e
      · exact Nat.le_trans (by simp) (go_len e)
      · exact go_len e
      · cases e
      · cases e
    · cases e
theorem go_exc {A : Type} {f : W → Hm → M2.R (Option A)} {g : List (Nat × List W)} : ∀ {l : List W} {acc : List A} {h h' : Hm} {c : Nat} {ws : List W}, compGo f g l acc h ≠ .exc c ws h'
  | [], acc, h, h', c, ws, e => by
    simp only [compGo] at e
    split at e <;> cases e
  | x :: l, acc, h, h', c, ws, e => by
    simp only [compGo] at e
    split at e
    · split at e
      · exact go_exc e
      · exact go_exc e
      · cases e
      · cases e
    · cases e
theorem go_short {A B B' : Type} {K : PySem.W.Frag} {G : List Addr → Hp → B → B' → Prop} {p : List Addr} {H : Hp} {f : W → Hm → M2.R (Option A)} {g : List (Nat × List W)} {l : List W} {acc : List A} {h : Hm} {kk : List A → Hm → M2.R B} {Q : B' → Hp → Prop}
    (ok : Ok nm K Ek G p H ((compEnd none (compGo f g l acc h)).then kk) Q) : acc.length ≤ line := by
  cases e : compGo f g l acc h with
  | ok r h' =>
    rw [e] at ok
    simp only [compEnd] at ok
    by_cases hz : r.length ≤ line
    · exact Nat.le_trans (go_len e) hz
    · rw [if_neg hz] at ok; exact ok.elim
  | exc c ws h' => exact absurd e go_exc
  | bad => rw [e] at ok; exact ok.elim
/-- the loop of a comprehension: D the new list, beside the trees; kk what comes behind -/
theorem lc_loop {σ : Sg} {s : M2.Env} {p1 : List Addr} {h1 : Hm} {H1 : Hp} {q : Src} {J : L2.It} {k : Bool} {t own : List Nat} {dc : DT} {de : DV} {B : Type} {GG : List Addr → Hp → B → V → Prop} {kk : List W → Hm → R B} {Q Q' : VK} {D : Addr}
    (hun : q.un = none) (ho : ∀ i ∈ own, i ∈ t) (ho2 : ∀ i ∈ t, i ∈ own) (si : Sim nm X.K p1 h1 H1) (er : Er X.K p1 H1 s σ) (wk : Wk nm X.K p1 H1 q J) (hD : H1 D = none)
    (ok : Ok nm X.K Ek GG p1 H1 ((compRun (compTurn k t dc de s) q h1).then kk) Q)
    (fin : ∀ p' h' H' l vs, Xt X.K p1 H1 p' H' → Sim nm X.K p' h' H' → D ∉ p' → H' D = some (.lst vs) → RWs X.K p' H' l vs → Ok nm X.K Ek GG p1 H1 (kk l h') Q → Q' (.ref D) H') :
    ∃ W : Nat → Nat → Hp → Prop, (∃ m, W 0 m (upd H1 D (.lst []))) ∧ ∀ i m H, W i m H →
      (J.stop i H ∧ Q' (.ref D) H) ∨ (J.go i H ∧ ∃ Nx : Hp → Prop, (∀ H', Nx H' → ∃ m', m' < m ∧ W (i + 1) m' H') ∧ ∀ x H', J.yld i H x H' → gK X.K k t x (wipe σ own) H' fun σ2 H2 => wipe σ2 own = wipe σ own ∧ M2.tB nm X.K NoE dc σ2 H2 fun b H3 =>
        if b = true then tV nm X.K NoE de σ2 H3 fun y H4 => ∃ acc, H4 D = some (.lst acc) ∧ acc.length < sizeLine ∧ Nx (upd H4 D (.lst (acc ++ [y]))) else Nx H3) := by
  have e0 : compRun (compTurn k t dc de s) q h1 = compEnd none (compGo (compTurn k t dc de s) q.gs q.its [] h1) := by unfold compRun; rw [hun]
  rw [e0] at ok
  let Pv : Nat → Hp → Prop := fun i H => ∃ p' h' acc vs, Xt X.K p1 H1 p' H ∧ Sim nm X.K p' h' H ∧ D ∉ p' ∧ H D = some (.lst vs) ∧ RWs X.K p' H acc vs ∧ vs.length ≤ i ∧
    Ok nm X.K Ek GG p1 H1 ((compEnd none (compGo (compTurn k t dc de s) q.gs (q.its.drop i) acc h')).then kk) Q
  have np : D ∉ p1 := fun z => by obtain ⟨v, hv⟩ := si.mem z; rw [hD] at hv; cases hv
  have xb : Xt X.K p1 H1 p1 (upd H1 D (.lst [])) := Xt.beside hD
  refine ⟨fun i m H => m = q.its.length - i ∧ i ≤ q.its.length ∧ Pv i H, ⟨q.its.length, by simp, Nat.zero_le _, p1, h1, [], [], xb, si.beside hD, np, upd_same, .nil, Nat.le_refl _, ok⟩, ?_⟩
  rintro i m H ⟨rfl, hi, p', h', acc, vs, x, sm, nd, hd, ra, hv, ok⟩
  by_cases hlt : i < q.its.length
  · -- a turn
    have hdr : q.its.drop i = q.its[i] :: q.its.drop (i + 1) := List.drop_eq_getElem_cons hlt
    rw [hdr] at ok
    simp only [compGo] at ok
    cases hg : okG q.gs h' with
    | false => rw [hg] at ok; exact ok.elim
    | true =>
      rw [hg, if_pos rfl] at ok
      refine .inr ⟨wk.go i p' H h' x sm hg hlt, Pv (i + 1), fun H' p => ⟨q.its.length - (i + 1), by omega, rfl, hlt, p⟩, fun y H' yl => ?_⟩
      obtain ⟨x2, s2, r2⟩ := wk.yld i p' H h' y H' q.its[i] x sm hg (List.getElem?_eq_getElem hlt) yl
      have xx := x.trans x2
      obtain ⟨hd2, nd2⟩ := x2.stay hd nd
      unfold compTurn at ok
      cases hs : setT k t q.its[i] s with
      | none => rw [hs] at ok; exact ok.elim
      | some s' =>
        rw [hs] at ok
        simp only at ok
        refine gK_ok r2 hs ((er.mono xx).wiped own) fun τ et hw => ⟨(hw own ho2).trans (wipe_wipe _ _), ?_⟩
        have er' : Er X.K p' H' s' τ := et.er fun j z => z.2 (ho j z.1)
        refine ⟨p', s', h', s2, er', ?_⟩
        cases hc : dc s' h' with
        | bad => rw [hc] at ok; exact ok.elim
        | exc c ws h3 => rw [hc] at ok; exact ok.elim
        | ok b h3 =>
          rw [hc] at ok
          intro p3 H3 b' x3 s3 eb
          cases (show b = b' from eb)
          obtain ⟨hd3, nd3⟩ := x3.stay hd2 nd2
          cases b with
          | false =>
            rw [if_neg Bool.false_ne_true]
            exact ⟨p3, h3, acc, vs, xx.trans x3, s3, nd3, hd3, ra.to (x2.trans x3), Nat.le_succ_of_le hv, ok⟩
          | true =>
            rw [if_pos rfl]
            simp only at ok
            refine ⟨p3, s', h3, s3, er'.mono x3, ?_⟩
            cases hv2 : de s' h3 with
            | bad => rw [hv2] at ok; exact ok.elim
            | exc c ws h4 => rw [hv2] at ok; exact ok.elim
            | ok w h4 =>
              rw [hv2] at ok
              intro p4 H4 y4 x4 s4 r4
              obtain ⟨hd4, nd4⟩ := x4.stay hd3 nd3
              have mu : Mut (H4 D) := by rw [hd4]; exact trivial
              have rr : RWs X.K p4 H4 (acc ++ [w]) (vs ++ [y4]) := (ra.to ((x2.trans x3).trans x4)).append (.cons r4 .nil)
              have xw : Xt X.K p1 H1 p4 (upd H4 D (.lst (vs ++ [y4]))) := Xt.back hD ((xx.trans x3).trans x4) nd4 mu
              have kp : Kp X.K H4 (upd H4 D (.lst (vs ++ [y4]))) := Kp.write mu
              have lz := go_short ok
              rw [rr.length, List.length_append, List.length_singleton, line_eq] at lz
              refine ⟨vs, hd4, lz, p4, h4, acc ++ [w], vs ++ [y4], xw, ?_, nd4, upd_same, rr.mono (List.prefix_refl _) kp, by rw [List.length_append, List.length_singleton]; omega, ok⟩
              refine ⟨s4.len, s4.nd, fun j o b e1 e2 => (s4.at_ j o b e1 e2).mono (List.prefix_refl _) kp (upd_ne fun z => nd4 (z ▸ List.mem_of_getElem? e2))⟩
  · have e : i = q.its.length := by omega
    subst e
    rw [List.drop_length] at ok
    simp only [compGo] at ok
    cases hg : okG q.gs h' with
    | false => rw [hg] at ok; exact ok.elim
    | true =>
      rw [hg, if_pos rfl] at ok
      refine .inl ⟨wk.stop _ p' H h' x sm hg (Nat.le_refl _), ?_⟩
      simp only [compEnd] at ok
      by_cases hz : acc.length ≤ line
      · rw [if_pos hz] at ok
        exact fin p' h' H acc vs x sm nd hd ra ok
      · rw [if_neg hz] at ok; exact ok.elim
end
end M2

namespace M2
open PySem PySem.Spec PyProof.Rows L2
section
variable {nm : Nm} {X : L2.Cx} {Ek : XK} {c : CS} {C : Ctx} {sc : Scope}
theorem src_un {it : M2.It} {x y : W} {h : Hm} {q : Src} (e : src it x y h = some q) : q.un = none ∧ q.h = h := by
  unfold src at e
  repeat' split at e
  all_goals first
    | (cases e; exact ⟨rfl, rfl⟩)
    | cases e
theorem srcV_un {it : M2.It} {x y : W} {h h' : Hm} {q : Src} (e : srcV it x y h = .ok q h') : q.un = none ∧ q.h = h' := by
  unfold srcV at e
  split at e
  · rename_i q' e2
    cases e
    exact ⟨(src_un e2).1, rfl⟩
  · cases e
/-- a comprehension's reading, from its meaning -/
theorem lc_impN {own : List Nat} {k : Bool} {t : List Nat} {it : M2.It} {da db : DV} {dc : DT} {de : DV} (o1 : ∀ i ∈ own, i ∈ t) (o2 : ∀ i ∈ t, i ∈ own) : ∀ σ H Q,
    tV nm X.K Ek (fun s h => ((da s h).then fun x h1 => (db s h1).then fun y h2 => (srcV it x y h2).then (compRun (compTurn k t dc de s))).then newL) σ H Q → tLc (tI nm X.K Ek it da db) (gK X.K k t) (M2.tB nm X.K NoE dc) (tV nm X.K NoE de) own σ H Q := by
  have un : ∀ {s h q h1}, ((da s h).then fun x h1 => (db s h1).then fun y h2 => srcV it x y h2) = .ok q h1 → q.un = none := fun e => by
    obtain ⟨_, _, _, e1⟩ := then_ok e
    obtain ⟨_, _, _, e2⟩ := then_ok e1
    exact (srcV_un e2).1
  rintro σ H Q ⟨p, s, h, si, er, ok⟩
  have ok : Ok nm X.K Ek (GV X.K) p H (((da s h).then fun x h1 => (db s h1).then fun y h2 => srcV it x y h2).then fun q h3 => (compRun (compTurn k t dc de s) q h3).then newL) Q := by
    simp only [then_assoc] at ok ⊢
    exact ok
  refine ⟨p, s, h, si, er, Ok.then ok fun q h1 p1 H1 J e x1 s1 wk ok1 D hD => ?_⟩
  refine lc_loop (un e) o1 o2 s1 (er.mono x1) wk hD ok1 fun p' h' H' l vs x sm nd hd q okk => ?_
  have mu : Mut (H' D) := by rw [hd]; exact trivial
  have xx : Xt X.K p1 H1 (p' ++ [D]) (upd H' D (.lst vs)) := Xt.adopt hD x mu
  have sm2 : Sim nm X.K (p' ++ [D]) (h' ++ [.lst l]) (upd H' D (.lst vs)) := sm.adopt nd mu ⟨vs, upd_same, q.mono (List.prefix_append _ _) (Kp.write mu)⟩
  rw [upd_self hd] at xx sm2
  exact okk _ _ _ xx sm2 (.ref (by rw [← sm.len]; simp))
/-- .. frozen -/
theorem lc_imp {own : List Nat} {k : Bool} {t : List Nat} {it : M2.It} {da db : DV} {dc : DT} {de : DV} (o1 : ∀ i ∈ own, i ∈ t) (o2 : ∀ i ∈ t, i ∈ own) : ∀ σ H Q,
    tV nm X.K Ek (mkL fun s h => (da s h).then fun x h1 => (db s h1).then fun y h2 => (srcV it x y h2).then (compRun (compTurn k t dc de s))).v σ H Q → tLc (tI nm X.K Ek it da db) (gK X.K k t) (M2.tB nm X.K NoE dc) (tV nm X.K NoE de) own σ H (LkV Q) := by
  have un : ∀ {s h q h1}, ((da s h).then fun x h1 => (db s h1).then fun y h2 => srcV it x y h2) = .ok q h1 → q.un = none := fun e => by
    obtain ⟨_, _, _, e1⟩ := then_ok e
    obtain ⟨_, _, _, e2⟩ := then_ok e1
    exact (srcV_un e2).1
  rintro σ H Q ⟨p, s, h, si, er, ok⟩
  have ok : Ok nm X.K Ek (GV X.K) p H (((da s h).then fun x h1 => (db s h1).then fun y h2 => srcV it x y h2).then fun q h3 => (compRun (compTurn k t dc de s) q h3).then klV) Q := by
    simp only [mkL, then_assoc] at ok ⊢
    exact ok
  refine ⟨p, s, h, si, er, Ok.then ok fun q h1 p1 H1 J e x1 s1 wk ok1 D hD => ?_⟩
  refine lc_loop (un e) o1 o2 s1 (er.mono x1) wk hD ok1 fun p' h' H' l vs x sm nd hd q okk => ?_
  have mu : Mut (H' D) := by rw [hd]; exact trivial
  refine LkP.one hd trivial fun o => ?_
  have kp : Kp X.K H' (upd H' D (.frz o (.lst vs))) := Kp.write mu
  have xx : Xt X.K p1 H1 p' (upd H' D (.frz o (.lst vs))) := Xt.back hD x nd mu
  have sm2 : Sim nm X.K p' h' (upd H' D (.frz o (.lst vs))) := ⟨sm.len, sm.nd, fun i o' b e1 e2 => (sm.at_ i o' b e1 e2).mono (List.prefix_refl _) kp (upd_ne fun z => nd (z ▸ List.mem_of_getElem? e2))⟩
  exact okk _ _ _ xx sm2 (.kl (.inl ⟨o, upd_same⟩) (q.mono (List.prefix_refl _) kp))
theorem lc_impL {own : List Nat} {k : Bool} {t : List Nat} {it : M2.It} {da db : DV} {dc : DT} {de : DV} (o1 : ∀ i ∈ own, i ∈ t) (o2 : ∀ i ∈ t, i ∈ own) : ∀ σ H Q,
    tRw nm X.K Ek true (mkL fun s h => (da s h).then fun x h1 => (db s h1).then fun y h2 => (srcV it x y h2).then (compRun (compTurn k t dc de s))).l σ H Q → tLc (tI nm X.K Ek it da db) (gK X.K k t) (M2.tB nm X.K NoE dc) (tV nm X.K NoE de) own σ H Q := by
  have un : ∀ {s h q h1}, ((da s h).then fun x h1 => (db s h1).then fun y h2 => srcV it x y h2) = .ok q h1 → q.un = none := fun e => by
    obtain ⟨_, _, _, e1⟩ := then_ok e
    obtain ⟨_, _, _, e2⟩ := then_ok e1
    exact (srcV_un e2).1
  rintro σ H Q ⟨p, s, h, si, er, ok⟩
  have ok : Ok nm X.K Ek (GRw X.K true) p H (((da s h).then fun x h1 => (db s h1).then fun y h2 => srcV it x y h2).then fun q h3 => (compRun (compTurn k t dc de s) q h3).then fun l h4 => .ok l h4) Q := by
    have e : (((da s h).then fun x h1 => (db s h1).then fun y h2 => srcV it x y h2).then fun q h3 => (compRun (compTurn k t dc de s) q h3).then fun l h4 => .ok l h4) = (mkL fun s h => (da s h).then fun x h1 => (db s h1).then fun y h2 => (srcV it x y h2).then (compRun (compTurn k t dc de s))).l s h := by
      simp only [then_assoc, mkL]
      have e2 : ∀ (q : Src) (h3 : Hm), ((compRun (compTurn k t dc de s) q h3).then fun l h4 => .ok l h4) = compRun (compTurn k t dc de s) q h3 := fun q h3 => by
        cases compRun (compTurn k t dc de s) q h3 <;> rfl
      simp only [e2]
    rw [e]
    exact ok
  refine ⟨p, s, h, si, er, Ok.then ok fun q h1 p1 H1 J e x1 s1 wk ok1 D hD => ?_⟩
  exact lc_loop (un e) o1 o2 s1 (er.mono x1) wk hD ok1 fun p' h' H' l vs x sm nd hd q okk => okk p' H' (.ref D) x sm ⟨D, vs, rfl, .inl (SqL.of hd), q⟩
/-- what a comprehension's parts are worth -/
structure LcP (nm : Nm) (Ek : XK) (X : L2.Cx) (c : CS) (sc : Scope) (elt tg iter : Expr) (ifs : List Expr) (scope : Scope) (k : Bool) (t : List Nat) (it : M2.It) (da db : DV) (dc : DT) (de : DV) : Prop where
  blk : L2.blkC c.N sc scope (ownOf c scope) = true
  o1 : ∀ i ∈ (ownOf c scope).map (·.2), i ∈ t
  o2 : ∀ i ∈ t, i ∈ (ownOf c scope).map (·.2)
  loc : locTgt scope tg = true
  tgt : tgtOf c tg = some (k, t)
  it : PI X tg iter (tI nm X.K Ek it da db)
  fold : ∀ x, foldedSetIterable iter X.env x = pure x
  ifs : ∀ (s : Shared) (H : Hp) (A : Addr) (cl : List (Str × Addr)) (fp : List Addr), PTs (X.blk s H scope (compEnvC scope cl A X.env) fp) ifs (M2.tB nm X.K NoE dc)
  elt : ∀ (s : Shared) (H : Hp) (A : Addr) (cl : List (Str × Addr)) (fp : List Addr), PE (X.blk s H scope (compEnvC scope cl A X.env) fp) elt (tV nm X.K NoE de)
theorem e_lc (g : GOk nm Ek c C X sc) {elt tg iter : Expr} {ifs : List Expr} {scope : Scope} {pos : Pos} {k : Bool} {t : List Nat} {it : M2.It} {da db : DV} {dc : DT} {de : DV} (P : LcP nm Ek X c sc elt tg iter ifs scope k t it da db dc de) :
    EOk nm Ek X (.ListComp elt [⟨tg, iter, ifs, 0⟩] scope pos) (mkL fun s h => (da s h).then fun x h1 => (db s h1).then fun y h2 => (srcV it x y h2).then (compRun (compTurn k t dc de s))) := by
  have base := pe_lc (pos := pos) g.calm g.nd P.it (g.bok P.blk) (fun s H A cl fp => show PG _ tg (gK X.K k t) from tgt_ok (g.blk scope s H A cl fp) P.loc P.tgt) P.ifs P.elt P.fold
  have hv := PEi (pe_frz base) (lc_imp (nm := nm) (Ek := Ek) P.o1 P.o2)
  exact ⟨hv, PEi base (lc_impL P.o1 P.o2), fun _ => t_of hv fun _ => rfl, fun z => nomatch z⟩
theorem lc_new (g : GOk nm Ek c C X sc) {elt tg iter : Expr} {ifs : List Expr} {scope : Scope} {pos : Pos} {k : Bool} {t : List Nat} {it : M2.It} {da db : DV} {dc : DT} {de : DV} (P : LcP nm Ek X c sc elt tg iter ifs scope k t it da db dc de) :
    PE X (.ListComp elt [⟨tg, iter, ifs, 0⟩] scope pos) (tV nm X.K Ek fun s h => ((da s h).then fun x h1 => (db s h1).then fun y h2 => (srcV it x y h2).then (compRun (compTurn k t dc de s))).then newL) := by
  have base := pe_lc (pos := pos) g.calm g.nd P.it (g.bok P.blk) (fun s H A cl fp => show PG _ tg (gK X.K k t) from tgt_ok (g.blk scope s H A cl fp) P.loc P.tgt) P.ifs P.elt P.fold
  exact PEi base (lc_impN (nm := nm) (Ek := Ek) P.o1 P.o2)
/-- name = [..] on one line -/
theorem s_lc (g : GOk nm Ek c C X sc) {elt tg iter : Expr} {ifs : List Expr} {scope : Scope} {pos spos py : Pos} {k : Bool} {t : List Nat} {it : M2.It} {da db : DV} {dc : DT} {de : DV} (P : LcP nm Ek X c sc elt tg iter ifs scope k t it da db dc de) {y : Str} {i : Nat}
    (hi : ixOf y c.N = some i) (hy : X.env.scope.names.lookup y = some .local) (hsw : swapsWith (.ListComp elt [⟨tg, iter, ifs, 0⟩] scope pos) (some (.Name y py)) spos.line X.env = pure true) :
    PS X (.Assign [.Name y py] (.ListComp elt [⟨tg, iter, ifs, 0⟩] scope pos) spos) (tAsg (tLc (tI nm X.K Ek it da db) (gK X.K k t) (M2.tB nm X.K NoE dc) (tV nm X.K NoE de) ((ownOf c scope).map (·.2))) (gName i)) :=
  ps_setLc g.calm g.nd (by rw [g.N]; exact ixOf_get hi) hy hsw P.it (g.bok P.blk) (fun s H A cl fp => show PG _ tg (gK X.K k t) from tgt_ok (g.blk scope s H A cl fp) P.loc P.tgt) P.ifs P.elt P.fold
/-! ### the rules of a text's expressions -/
theorem allO_star {f : Expr → Option E} (hf : ∀ e d, f e = some d → notStar e = true) : ∀ {es : List Expr} {ds : List E}, allO f es = some ds → Stars es
  | [], _, _ => fun _ z => nomatch z
  | e :: es, ds, h => by
    simp only [allO] at h
    split at h
    · rename_i d h1
      split at h
      · rename_i r h2
        intro y hy
        rcases List.mem_cons.mp hy with rfl | hy
        · exact hf _ _ h1
        · exact allO_star hf h2 y hy
      · cases h
    · cases h
theorem a_all {f : Expr → Option E} (hf : ∀ e d, f e = some d → notStar e = true) (hv : ∀ e d, f e = some d → PE X e (tV nm X.K Ek (den C d).v)) : ∀ {es : List Expr} {ds : List E}, allO f es = some ds → PA X es (tLs nm X.K Ek (denL C ds))
  | [], ds, h => by
    cases h
    show PA X [] (tLs nm X.K Ek (denL C []))
    have : denL C [] = fun _ h => M2.R.ok [] h := by funext s h; rw [denL]
    rw [this]
    exact a_nil
  | e :: es, ds, h => by
    simp only [allO] at h
    split at h
    · rename_i d h1
      split at h
      · rename_i r h2
        cases h
        have : denL C (d :: r) = fun s h => ((den C d).v s h).then fun x h1 => (denL C r s h1).then fun ws h2 => .ok (x :: ws) h2 := by funext s h; rw [denL]
        rw [this]
        exact a_cons (hv e d h1) (a_all hf hv h2) (star1 (hf e d h1) es _)
      · cases h
    · cases h
theorem opt2_some {A B D : Type} {a : Option A} {b : Option B} {k : A → B → D} {d : D} (h : opt2 a b k = some d) : ∃ x y, a = some x ∧ b = some y ∧ d = k x y := by
  cases a with
  | none => cases h
  | some x =>
    cases b with
    | none => cases h
    | some y => cases h; exact ⟨x, y, rfl, rfl, rfl⟩
theorem map_some {A B : Type} {a : Option A} {f : A → B} {d : B} (h : a.map f = some d) : ∃ x, a = some x ∧ d = f x := by
  cases a with
  | none => cases h
  | some x => cases h; exact ⟨x, rfl, rfl⟩
end
end M2

namespace M2
open PySem PySem.Spec PyProof.Rows L2
/-! ### dict comprehensions, whatever the kind of the keys -/
/-- a kind of dicts: what is told of a new one, how an entry is put -/
structure DKind (X : L2.Cx) (o0 : Addr → HO) (Pt : Addr → V → V → Hp → (Hp → Prop) → Prop) : Prop where
  new : ∀ (P : Program) (w : World) (H : Hp) (h : Heap), sysModules < h.objs.size → ObjOk P w H (h.push { cls := .type "dict", data := .dict #[] }) h.objs.size (o0 h.objs.size)
  set : ∀ (Y : L2.Cx), Y.prog = X.prog → Y.w = X.w → Y.K = X.K → Y.A = X.A → ∀ (pins : List (Addr × Obj)) (σ : Sg) (H : Hp) (s : Shared) (y z : V) (u r : Value) (D : Addr) (Nx : Hp → Prop) (E : Value → Shared → Prop) (Q : Unit → Shared → Prop),
    Inv Y pins σ H s → RelV y u → RelV z r → Pt D y z H Nx → (∀ H' s', Inv Y pins σ H' s' → Nx H' → Q () s') → wpAny (model Y.prog Y.w) Y.A (dictSet D u r) Q E s
section
variable {X : L2.Cx}
/-- what is asked of {k: v for target in iter if ..} -/
def tDg (o0 : Addr → HO) (Pt : Addr → V → V → Hp → (Hp → Prop) → Prop) (wi : TI) (g : TG) (tt : TT) (tk tv : TE) (own : List Nat) : TE := fun σ H Q => wi σ H fun J H1 => ∀ D, H1 D = none → D ≠ sysModules →
  ∃ W : Nat → Nat → Hp → Prop, (∃ m, W 0 m (upd H1 D (o0 D))) ∧ ∀ i m H', W i m H' → (J.stop i H' ∧ Q (.ref D) H') ∨
    (J.go i H' ∧ ∃ Nx : Hp → Prop, (∀ H2, Nx H2 → ∃ m', m' < m ∧ W (i + 1) m' H2) ∧ ∀ x H2, J.yld i H' x H2 → g x (wipe σ own) H2 fun τ H3 => wipe τ own = wipe σ own ∧ tt τ H3 fun b H4 =>
      if b = true then tk τ H4 fun y H5 => tv τ H5 fun z H6 => Pt D y z H6 Nx else Nx H4)
/-- the block of such a comprehension, run -/
theorem dg_core {o0 : Addr → HO} {Pt : Addr → V → V → Hp → (Hp → Prop) → Prop} (dk : DKind X o0 Pt) {pins : List (Addr × Obj)} {s0 : Shared} {σ : Sg} {H0 : Hp} {Q : VK} {kx vx tg iter : Expr} {ifs : List Expr} {scope : Scope} {own : List (Str × Nat)} {pos pos' : Pos} {wi : TI} {g : TG} {tt : TT} {tk tv : TE}
    {use : Option (Value → Sem Unit)} {Qf : Value → Shared → Prop} (calm : X.calm = true) (nd : X.N.Nodup) (I0 : Inv X pins σ H0 s0) (hi : PI X tg iter wi) (ok : BlkOk X.N X.env.scope scope own)
    (hg : ∀ (a : Shared) (B : Hp) (C : Addr) (cl : List (Str × Addr)) (fp : List Addr), PG (X.blk a B scope (compEnvC scope cl C X.env) fp) tg g)
    (ht : ∀ (a : Shared) (B : Hp) (C : Addr) (cl : List (Str × Addr)) (fp : List Addr), PTs (X.blk a B scope (compEnvC scope cl C X.env) fp) ifs tt)
    (hk : ∀ (a : Shared) (B : Hp) (C : Addr) (cl : List (Str × Addr)) (fp : List Addr), PE (X.blk a B scope (compEnvC scope cl C X.env) fp) kx tk)
    (hv : ∀ (a : Shared) (B : Hp) (C : Addr) (cl : List (Str × Addr)) (fp : List Addr), PE (X.blk a B scope (compEnvC scope cl C X.env) fp) vx tv) (hf : ∀ x, foldedSetIterable iter X.env x = pure x)
    (asked : tDg o0 Pt wi g tt tk tv (own.map (·.2)) σ H0 Q)
    (after : ∀ D C s' m H', Inv X pins σ H' s' → Q (.ref D) H' → s'.heap.Ns C m → FpOk X pins H' C → compPost (model X.prog X.w) X.A X.xe use Qf (.ref D) C (.ok .next) s') :
    wpAny (model X.prog X.w) X.A (comprehension (.DictComp kx vx [⟨tg, iter, ifs, 0⟩] scope pos) scope X.env pos' newDict false (eval iter X.env) use) Qf X.xe s0 := by
  have cells : ∀ y ∈ scope.names, y.2 = .free → ∃ c, X.env.cells.lookup y.1 = some c := fun y hy e => (ok.free y hy e).elim (fun z => I0.ok.has _ (.inl z)) (fun z => I0.ok.has _ (.inr z))
  have first := hi.run pins s0 σ H0 _ I0 asked
  refine wpAny_comprehension_free (use := use) rfl hf (closure_ok cells) ok.kind (fun y hy e => by rw [ok.uniq y hy, e]) (thn first fun xv s1 gx => thn gx fun itv s2 got => ?_)
  obtain ⟨it, fp, tn, J, H2, rfl, I2, T, begun, apart, rest⟩ := got
  refine wpAny_newObj_type (newEnv_comp (?_ : codeAny _ _ _ _ _))
  generalize eD : s2.heap.objs.size = D
  obtain ⟨W, ⟨m0, w0⟩, turn⟩ := rest D (I2.hok.fresh (Nat.le_of_eq eD)) (by rw [← eD]; exact Nat.ne_of_gt I2.big)
  generalize e3 : ({ s2 with heap := s2.heap.push { cls := .type "dict", data := .dict #[] } } : Shared) = s3
  have hp3 : s3.heap = s2.heap.push { cls := .type "dict", data := .dict #[] } := by rw [← e3]
  have I3 : Inv X pins σ (upd H2 D (o0 D)) s3 := by
    rw [← e3]
    refine I2.laid (t' := s2.toks) (fun b o e => Heap.get?_push_of_some _ e) (Nat.le_of_eq eD) (?_ : ObjOk _ _ _ _ _ _)
    rw [← eD]
    exact dk.new _ _ _ s2.heap I2.big
  have low : ∀ b ∈ fp, b < s2.heap.objs.size := fun b hb => let ⟨_, e, _⟩ := T.obj _ _ begun b hb; Heap.lt_size e
  have apart3 : ∀ b ∈ fp, FpOk X pins (upd H2 D (o0 D)) b ∧ b < s3.heap.objs.size := fun b hb =>
    ⟨⟨by rw [upd_ne (by rw [← eD]; exact Nat.ne_of_lt (low b hb))]; exact (apart b hb).1, (apart b hb).2⟩, by rw [hp3, Heap.size_push]; exact Nat.lt_succ_of_lt (low b hb)⟩
  have begun3 : tn 0 s3.heap := T.keep _ _ _ begun fun b _ o e => by rw [hp3]; exact (Heap.get?_push_of_some _ e)
  have I4 := block_start I3 ok nd apart3
  generalize eH : upd H2 D (o0 D) = H3 at I3 I4 w0 apart3
  generalize ec : cellsFrom (s3.heap.objs.size + 1) scope.names (cloFrom X.env.cells scope.names []) = cl at I4
  have pg := hg s3 H3 s3.heap.objs.size cl fp
  have pt := ht s3 H3 s3.heap.objs.size cl fp
  have pk := hk s3 H3 s3.heap.objs.size cl fp
  have pv := hv s3 H3 s3.heap.objs.size cl fp
  subst ec
  show codeAny _ _ (.compStart (.DictComp kx vx [⟨tg, iter, ifs, 0⟩] scope pos) 0 (.ref it) (.ref D) (compEnvC scope (cellsFrom (s3.heap.objs.size + 1) scope.names (cloFrom X.env.cells scope.names [])) s3.heap.objs.size X.env)) (compPost _ X.A X.xe use Qf (.ref D) s3.heap.objs.size) { s3 with heap := pushCells (s3.heap.push { cls := .type "dict", data := .dict #[] }) scope.names }
  generalize ece : compEnvC scope (cellsFrom (s3.heap.objs.size + 1) scope.names (cloFrom X.env.cells scope.names [])) s3.heap.objs.size X.env = ce at I4 pg pt pk pv ⊢
  have locE : ce.locals = s3.heap.objs.size := by rw [← ece]; rfl
  generalize e4 : ({ s3 with heap := pushCells (s3.heap.push { cls := .type "dict", data := .dict #[] }) scope.names } : Shared) = s4 at I4 ⊢
  have begun4 : tn 0 s4.heap := T.keep _ _ _ begun3 fun b _ o e => by rw [← e4]; exact (pushCells_keeps _ _ _ _ (Heap.get?_push_of_some _ e))
  -- the iterator's own things stay apart in the block
  have own_fp : ∀ {τ : Sg} {B : Hp} {t : Shared}, Inv (X.blk s3 H3 scope ce fp) [] τ B t → (∀ b ∈ fp, B b = none) → ∀ b ∈ fp, FpOk (X.blk s3 H3 scope ce fp) [] B b := fun {τ B t} J' none' b hb =>
    ⟨none' b hb, (J'.ok.exf b hb).1, J'.ok.exfs b hb, .inl hb, fun x c e => (J'.ok.exf b hb).2 x c e, fun q hq => by cases (show q ∈ ([] : List (Addr × Obj)) from hq)⟩
  have loop : codeAny (model X.prog X.w) X.A (.compLoop (.DictComp kx vx [⟨tg, iter, ifs, 0⟩] scope pos) 0 (.ref it) (.ref D) ce) (compPost (model X.prog X.w) X.A X.xe use Qf (.ref D) s3.heap.objs.size) s4 := by
    refine compLoop_anyD (fun n t => ∃ i B, Inv (X.blk s3 H3 scope ce fp) [] (wipe σ (own.map (·.2))) B t ∧ tn i t.heap ∧ (∀ b ∈ fp, B b = none) ∧ W i n B) ?_ m0 ⟨0, H3, I4, begun4, fun b hb => (apart3 b hb).1.1, w0⟩
    rintro n t5 ⟨i, B5, I5, run5, no5, w5⟩
    rcases turn i n B5 w5 with ⟨stop, fin⟩ | ⟨go, Nx, next, step⟩
    · have last := T.done (X.blk s3 H3 scope ce fp) rfl rfl rfl calm i [] t5 _ B5 (fun _ _ => False) I5 (own_fp I5 no5) run5 stop
      refine thnF last fun r t6 ⟨er, I6⟩ => ?_
      subst er
      have back : Inv X pins σ B5 t6 := I3.call' (ch := fp) I6.os I6.base I6.hok I6.bare fun b hb => let z := (apart3 b hb).1.2; ⟨z.2.2.1, z.1, z.2.2.2.1, z.2.2.2.2⟩
      have gone : B5 s3.heap.objs.size = none := by
        have z : B5 ce.locals = none := I6.free
        rw [locE] at z
        exact z
      obtain ⟨mm, names, _⟩ := I6.loc
      have names : t6.heap.Ns ce.locals mm := names
      rw [locE] at names
      exact after D s3.heap.objs.size t6 mm B5 back fin names (I3.fpOk (Nat.le_refl _) gone)
    · have item := T.item (X.blk s3 H3 scope ce fp) rfl rfl rfl calm i [] t5 _ B5 (fun _ _ => False) I5 (own_fp I5 no5) run5 go
      refine thnF item fun r t6 ⟨u, er, more⟩ => ?_
      subst er
      refine thnF more fun _ t7 ⟨x, B7, I7, rx, yl, run7, no7⟩ => ?_
      have P7 := I7.pinned (own_fp I7 no7) (T.obj _ _ run7)
      refine thnF (pg.run _ t7 _ B7 x u _ P7 rx (step x B7 yl)) fun _ t8 ⟨τ, B8, I8, same, q8⟩ => ?_
      have close : ∀ {t : Shared} {B : Hp}, Inv (X.blk s3 H3 scope ce fp) ([] ++ pinsAt fp t7.heap) τ B t → Nx B → ∃ m, m < n ∧ ∃ i B, Inv (X.blk s3 H3 scope ce fp) [] (wipe σ (own.map (·.2))) B t ∧ tn i t.heap ∧ (∀ b ∈ fp, B b = none) ∧ W i m B := fun {t B} I' nx => by
        obtain ⟨m', less, w'⟩ := next B nx
        have pinned : ∀ b ∈ fp, ∀ o, t7.heap.get? b = some o → t.heap.get? b = some o ∧ B b = none := fun b hb o e =>
          ⟨(I'.pin (b, o) (List.mem_append_right _ (List.mem_append_right _ (mem_pinsAt hb e)))).1, (I'.pin (b, o) (List.mem_append_right _ (List.mem_append_right _ (mem_pinsAt hb e)))).2.1⟩
        have len' : (wipe σ (own.map (·.2))).length = τ.length := by rw [← same, wipe_length]
        have I9 : Inv (X.blk s3 H3 scope ce fp) [] (wipe σ (own.map (·.2))) B t := (I'.unpinned (pins := [])).weak len' fun j v e => by rw [← same] at e; exact (wipe_some e).1
        exact ⟨m', less, i + 1, B, I9, T.keep _ _ _ run7 fun b hb o e => (pinned b hb o e).1, fun b hb => let ⟨o, e, _⟩ := T.obj _ _ run7 b hb; (pinned b hb o e).2, w'⟩
      refine thnF (pt.run _ t8 τ B8 _ I8 q8) fun b t9 ⟨B9, I9, q9⟩ => ?_
      cases b with
      | false =>
        rw [if_neg Bool.false_ne_true] at q9
        exact close I9 q9
      | true =>
        rw [if_pos rfl] at q9
        refine thnF (pk.run _ t9 τ B9 _ I9 q9) fun ku t10 ⟨y, B10, I10, ry, q10⟩ => ?_
        refine thnF (pv.run _ t10 τ B10 _ I10 q10) fun vu t11 ⟨z, B11, I11, rz, put⟩ => ?_
        exact dk.set (X.blk s3 H3 scope ce fp) rfl rfl rfl rfl _ _ _ _ y z _ _ D Nx _ _ I11 ry rz put fun B12 t12 I12 nx => close I12 nx
  exact codeAny_compStart_dict loop (T.self X.A 0 _ _ _ begun4 loop)
/-- as a value -/
theorem pe_dg {o0 : Addr → HO} {Pt : Addr → V → V → Hp → (Hp → Prop) → Prop} (dk : DKind X o0 Pt) {kx vx tg iter : Expr} {ifs : List Expr} {scope : Scope} {own : List (Str × Nat)} {pos : Pos} {wi : TI} {g : TG} {tt : TT} {tk tv : TE} (calm : X.calm = true) (nd : X.N.Nodup) (hi : PI X tg iter wi) (ok : BlkOk X.N X.env.scope scope own)
    (hg : ∀ (a : Shared) (B : Hp) (C : Addr) (cl : List (Str × Addr)) (fp : List Addr), PG (X.blk a B scope (compEnvC scope cl C X.env) fp) tg g)
    (ht : ∀ (a : Shared) (B : Hp) (C : Addr) (cl : List (Str × Addr)) (fp : List Addr), PTs (X.blk a B scope (compEnvC scope cl C X.env) fp) ifs tt)
    (hk : ∀ (a : Shared) (B : Hp) (C : Addr) (cl : List (Str × Addr)) (fp : List Addr), PE (X.blk a B scope (compEnvC scope cl C X.env) fp) kx tk)
    (hv : ∀ (a : Shared) (B : Hp) (C : Addr) (cl : List (Str × Addr)) (fp : List Addr), PE (X.blk a B scope (compEnvC scope cl C X.env) fp) vx tv) (hf : ∀ x, foldedSetIterable iter X.env x = pure x) :
    PE X (.DictComp kx vx [⟨tg, iter, ifs, 0⟩] scope pos) (tDg o0 Pt wi g tt tk tv (own.map (·.2))) := by
  refine ⟨fun pins s σ H Q I asked => ?_⟩
  rw [arm_eval_DictComp]
  refine dg_core dk calm nd I hi ok hg ht hk hv hf asked fun D C t m B I' q names fp => ⟨m, names, fun hh sb => ?_⟩
  have I9 : Inv X pins σ B { t with heap := hh } := I'.turned (t' := t.toks) (fun b o hb e => (sb.2 b hb).trans e) fp.1 fp.2.1 fp.2.2.2.1 fp.2.2.2.2.1 fp.2.2.2.2.2
  exact ⟨.ref D, B, I9, rfl, q⟩
/-- name = {..}, by the road of a comprehension that is used at once -/
theorem ps_dg {o0 : Addr → HO} {Pt : Addr → V → V → Hp → (Hp → Prop) → Prop} (dk : DKind X o0 Pt) {i : Nat} {y : Str} {py : Pos} {kx vx tg iter : Expr} {ifs : List Expr} {scope : Scope} {own : List (Str × Nat)} {pos spos : Pos} {wi : TI} {g : TG} {tt : TT} {tk tv : TE} (calm : X.calm = true) (nd : X.N.Nodup) (hN : X.N[i]? = some y) (loc : X.env.scope.names.lookup y = some .local)
    (sw : swapsWith (.DictComp kx vx [⟨tg, iter, ifs, 0⟩] scope pos) (some (.Name y py)) spos.line X.env = pure true) (hi : PI X tg iter wi) (ok : BlkOk X.N X.env.scope scope own)
    (hg : ∀ (a : Shared) (B : Hp) (C : Addr) (cl : List (Str × Addr)) (fp : List Addr), PG (X.blk a B scope (compEnvC scope cl C X.env) fp) tg g)
    (ht : ∀ (a : Shared) (B : Hp) (C : Addr) (cl : List (Str × Addr)) (fp : List Addr), PTs (X.blk a B scope (compEnvC scope cl C X.env) fp) ifs tt)
    (hk : ∀ (a : Shared) (B : Hp) (C : Addr) (cl : List (Str × Addr)) (fp : List Addr), PE (X.blk a B scope (compEnvC scope cl C X.env) fp) kx tk)
    (hv : ∀ (a : Shared) (B : Hp) (C : Addr) (cl : List (Str × Addr)) (fp : List Addr), PE (X.blk a B scope (compEnvC scope cl C X.env) fp) vx tv) (hf : ∀ x, foldedSetIterable iter X.env x = pure x) :
    PS X (.Assign [.Name y py] (.DictComp kx vx [⟨tg, iter, ifs, 0⟩] scope pos) spos) (tAsg (tDg o0 Pt wi g tt tk tv (own.map (·.2))) (gName i)) := by
  refine ⟨fun pins s σ H D I asked => ?_⟩
  rw [exec_Assign_Name_used _ _ _ _ sw]
  have asked : tDg o0 Pt wi g tt tk tv (own.map (·.2)) σ H (fun x B => gName i x σ B D.nx) := asked
  refine wpAny_bind (wpAny_standAt (wpAny_bind (?_ : wpAny _ X.A (do let _ ← comprehension (.DictComp kx vx [⟨tg, iter, ifs, 0⟩] scope pos) scope X.env (firstIterPos [⟨tg, iter, ifs, 0⟩] pos) newDict false (eval iter X.env) (some (assign (.Name y py) X.env))) _ _ s)))
  refine wpAny_bind (thn (dg_core (Qf := fun _ t => SP X pins D .next t) dk calm nd I hi ok hg ht hk hv hf asked fun L C t m B I' q names fp => ?_) fun _ t hq => wpAny_pure (wpAny_pure hq))
  show wpAny _ _ (assign (.Name y py) X.env (.ref L)) _ _ t
  refine wpAny_assign_Name (store_ok2 (v := V.ref L) I' nd hN (.inl loc) rfl (fun t2 I2 ⟨a, sb, place⟩ => ?_) (.inr loc))
  have other : C ≠ a := place.elim (fun z => by rw [z]; exact fp.2.1) fun z e => fp.2.2.2.2.1 y a z e.symm
  refine ⟨m, names.sameBut sb other, fun h3 sb3 => ?_⟩
  have I9 : Inv X pins (σ.set i (some (V.ref L))) B { t2 with heap := h3 } := I2.turned (t' := t2.toks) (fun b o hb e => (sb3.2 b hb).trans e) fp.1 fp.2.1 fp.2.2.2.1 fp.2.2.2.2.1 fp.2.2.2.2.2
  exact ⟨_, B, I9, q⟩
end
end M2

namespace M2
open PySem PySem.Spec PyProof.Rows L2
/-! ### dict comprehensions, by trees -/
theorem putAll_app : ∀ (l : List (W × W)) (k v : W) (acc : List (W × W)), putAll (l ++ [(k, v)]) acc = putD k v (putAll l acc)
  | [], _, _, _ => rfl
  | (a, b) :: l, k, v, acc => by
    rw [List.cons_append, putAll, putAll]
    exact putAll_app l k v (putD a b acc)
theorem putAll_len : ∀ (l acc : List (W × W)), (putAll l acc).length ≤ l.length + acc.length
  | [], acc => by simp [putAll]
  | (a, b) :: l, acc => by
    have h1 := putAll_len l (putD a b acc)
    have h2 := putD_len a b acc
    rw [putAll]
    simp only [List.length_cons]
    omega
theorem go_pre {A : Type} {f : W → Hm → M2.R (Option A)} {g : List (Nat × List W)} : ∀ {l : List W} {acc r : List A} {h h' : Hm}, compGo f g l acc h = .ok r h' → ∃ t, r = acc ++ t
  | [], acc, r, h, h', e => by
    simp only [compGo] at e
    split at e
    · cases e; exact ⟨[], by simp⟩
    · cases e
  | x :: l, acc, r, h, h', e => by
    simp only [compGo] at e
    split at e
    · split at e
      · obtain ⟨t, rfl⟩ := go_pre e
        exact ⟨_, List.append_assoc _ _ _⟩
      · exact go_pre e
      · cases e
      · cases e
    · cases e
/-- a kind of dicts, by trees -/
structure TKind (nm : Nm) (K : PySem.W.Frag) (o0 : Addr → HO) (Pt : Addr → V → V → Hp → (Hp → Prop) → Prop) (fit : W → Bool) (mk : List (W × W) → O) : Prop where
  init : ∀ p H D, D ≠ sysModules → RO nm K p (upd H D (o0 D)) (mk []) D
  mu : ∀ p H l D, RO nm K p H (mk l) D → Mut (H D)
  put : ∀ p H l D k w y z Nx, RO nm K p H (mk l) D → fit k = true → k.key = true → RW K p H k y → RW K p H w z → l.length < sizeLine → (∀ u, RO nm K p (upd H D u) (mk (putD k w l)) D → Nx (upd H D u)) → Pt D y z H Nx
section
variable {nm : Nm} {X : L2.Cx} {Ek : XK} {c : CS} {C : Ctx} {sc : Scope}
/-- keys ints and texts -/
def ptK (D : Addr) (y z : V) (H : Hp) (Nx : Hp → Prop) : Prop := ∃ kvs k, y = kV k ∧ H D = some (.dK kvs) ∧ kvs.length < sizeLine ∧ Nx (upd H D (.dK (putK kvs k z)))
theorem dkindK : DKind X (fun _ => .dK []) ptK where
  new := fun P w H h hb => dk_empty h hb
  set := fun Y _ _ _ _ pins σ H s y z u r D Nx E Q I ry rz ⟨kvs, k, ey, hD, hz, nx⟩ hq => by
    subst ey
    exact d_dictSet I hD hz ry rz fun s' I' => hq _ s' I' nx
theorem tkindK {K : PySem.W.Frag} : TKind nm K (fun _ => .dK []) ptK W.plain .dct where
  init := fun p H D _ => ⟨[], upd_same, .nil⟩
  mu := fun p H l D ⟨kvs, e, _⟩ => by rw [e]; exact True.intro
  put := fun p H l D k w y z Nx ⟨kvs, e, rd⟩ hf _ rk rw' hl h => by
    obtain ⟨x, hx⟩ := keyV_plain hf
    have kp : Kp K H (upd H D (.dK (putK kvs x z))) := Kp.write (by rw [e]; exact True.intro)
    exact ⟨kvs, x, keyV_kV hx rk, e, by rw [← rd.length]; exact hl, h _ ⟨_, upd_same, (rd.put hx rw').mono (List.prefix_refl _) kp⟩⟩
/-- keys tuples -/
def newObj : Obj := { cls := .type "dict", data := .dict #[] }
def ptN (wd : World) (K : PySem.W.Frag) (D : Addr) (y z : V) (H : Hp) (Nx : Hp → Prop) : Prop := ∃ p o xs l k a, H D = some (ndO D o) ∧ DN wd o xs ∧ RN K p H l xs ∧ l.length ≤ sizeLine ∧ W.key k = true ∧ y = .ref a ∧ RW K p H k (.ref a) ∧
  ∀ o' r, RelV z r → DN wd o' (storedH xs (nk k) a r) → Nx (upd H D (ndO D o'))
theorem dkindN (hw : nm.wd = X.w) (un : X.A.units + 70 < cLine) : DKind X (fun D => ndO D newObj) (ptN nm.wd X.K) where
  new := fun P w H h hb => ndO_ok (Heap.get?_push_size h rfl)
  set := fun Y _ e2 e3 e4 pins σ H s y z u r D Nx E Q I ry rz ⟨p, o, xs, l, k, a, hD, dn, rn, hl, hk, ey, rk, nx⟩ hq => by
    subst ey
    cases (show u = Value.ref a from ry)
    rw [← e3] at rn rk
    exact dn_set I (hw.trans e2.symm) (by rw [e4]; omega) hD dn rn hl hk rk fun o' s' I' d' => hq _ s' I' (nx o' r rz d')
theorem isTup_ref {K : PySem.W.Frag} {p : List Addr} {H : Hp} {k : W} {y : V} (h : k.isTup = true) (r : RW K p H k y) : ∃ a, y = .ref a := by
  cases r with
  | tup h1 h2 => exact ⟨_, rfl⟩
  | _ => cases h
theorem RN.len_put {K : PySem.W.Frag} {p : List Addr} {H : Hp} {l : List (W × W)} {xs : List (NestedKey × Addr × Value)} (r : RN K p H l xs) (k w : W) (h : l.length < sizeLine) : (putD k w l).length ≤ sizeLine := by
  have := putD_len k w l
  omega
theorem tkindN {K : PySem.W.Frag} : TKind nm K (fun D => ndO D newObj) (ptN nm.wd K) W.isTup .dn where
  init := fun p H D hs => ⟨newObj, [], upd_same, beq_eq_false_iff_ne.mpr hs, Nat.zero_le _, ⟨⟨rfl, rfl, rfl⟩, ⟨#[], 0, rfl, rfl⟩, List.nodup_nil⟩, .nil⟩
  mu := fun p H l D ⟨o, xs, e, _⟩ => by rw [e]; exact True.intro
  put := fun p H l D k w y z Nx ⟨o, xs, e, sy, hz, dn, rn⟩ hf hk rk rw' hl h => by
    obtain ⟨a, rfl⟩ := isTup_ref hf rk
    refine ⟨p, o, xs, l, k, a, e, dn, rn, hz, hk, rfl, rk, fun o' r rz d' => ?_⟩
    have kp : Kp K H (upd H D (ndO D o')) := Kp.write (by rw [e]; exact True.intro)
    exact h _ ⟨o', _, upd_same, sy, rn.len_put k w hl, d', (RN.put hk rk rw' rz rn dn.nd).mono (List.prefix_refl _) kp⟩
/-- the loop: D the new dict, beside the trees; kk what comes behind -/
theorem dc_loop {o0 : Addr → HO} {Pt : Addr → V → V → Hp → (Hp → Prop) → Prop} {fit : W → Bool} {mk : List (W × W) → O} (tk : TKind nm X.K o0 Pt fit mk) {σ : Sg} {s : M2.Env} {p1 : List Addr} {h1 : Hm} {H1 : Hp} {q : Src} {J : L2.It} {k : Bool} {t own : List Nat} {dc : DT} {de dv : DV} {B : Type} {GG : List Addr → Hp → B → V → Prop} {kk : List (W × W) → Hm → R B} {Q : VK} {D : Addr}
    (hun : q.un = none) (ho : ∀ i ∈ own, i ∈ t) (ho2 : ∀ i ∈ t, i ∈ own) (si : Sim nm X.K p1 h1 H1) (er : Er X.K p1 H1 s σ) (wk : Wk nm X.K p1 H1 q J) (hD : H1 D = none) (hsys : D ≠ sysModules)
    (allFit : ∀ r h', compRun (dcTurn k t dc de dv s) q h1 = .ok r h' → ∀ x ∈ r, fit x.1 = true)
    (ok : Ok nm X.K Ek GG p1 H1 ((compRun (dcTurn k t dc de dv s) q h1).then kk) Q)
    (fin : ∀ p' h' H' l, Xt X.K p1 H1 p' H' → Sim nm X.K p' h' H' → D ∉ p' → RO nm X.K p' H' (mk (putAll l [])) D → compRun (dcTurn k t dc de dv s) q h1 = .ok l h' → Ok nm X.K Ek GG p1 H1 (kk l h') Q → Q (.ref D) H') :
    ∃ W : Nat → Nat → Hp → Prop, (∃ m, W 0 m (upd H1 D (o0 D))) ∧ ∀ i m H, W i m H →
      (J.stop i H ∧ Q (.ref D) H) ∨ (J.go i H ∧ ∃ Nx : Hp → Prop, (∀ H', Nx H' → ∃ m', m' < m ∧ W (i + 1) m' H') ∧ ∀ x H', J.yld i H x H' → gK X.K k t x (wipe σ own) H' fun σ2 H2 => wipe σ2 own = wipe σ own ∧ M2.tB nm X.K NoE dc σ2 H2 fun b H3 =>
        if b = true then tV nm X.K NoE de σ2 H3 fun y H4 => tV nm X.K NoE dv σ2 H4 fun z H5 => Pt D y z H5 Nx else Nx H3) := by
  have e0 : compRun (dcTurn k t dc de dv s) q h1 = compEnd none (compGo (dcTurn k t dc de dv s) q.gs q.its [] h1) := by unfold compRun; rw [hun]
  -- the whole run ends
  have whole : ∃ r0 hr, compGo (dcTurn k t dc de dv s) q.gs q.its [] h1 = .ok r0 hr ∧ r0.length ≤ line := by
    rw [e0] at ok
    cases e : compGo (dcTurn k t dc de dv s) q.gs q.its [] h1 with
    | ok r h' =>
      rw [e] at ok
      simp only [compEnd] at ok
      by_cases hz : r.length ≤ line
      · exact ⟨r, h', rfl, hz⟩
      · rw [if_neg hz] at ok; exact ok.elim
    | exc c ws h' => exact absurd e go_exc
    | bad => rw [e] at ok; exact ok.elim
  obtain ⟨r0, hr, eGo, hz0⟩ := whole
  have eRun : compRun (dcTurn k t dc de dv s) q h1 = .ok r0 hr := by
    rw [e0, eGo]
    simp only [compEnd, if_pos hz0]
    rfl
  have fit0 := allFit r0 hr eRun
  let Pv : Nat → Hp → Prop := fun i H => ∃ p' h' acc, Xt X.K p1 H1 p' H ∧ Sim nm X.K p' h' H ∧ D ∉ p' ∧ RO nm X.K p' H (mk (putAll acc [])) D ∧ acc.length ≤ i ∧
    compGo (dcTurn k t dc de dv s) q.gs (q.its.drop i) acc h' = .ok r0 hr
  have np : D ∉ p1 := fun z => by obtain ⟨v, hv⟩ := si.mem z; rw [hD] at hv; cases hv
  have xb : Xt X.K p1 H1 p1 (upd H1 D (o0 D)) := Xt.beside hD
  have some_ : ∀ {p' H l}, RO nm X.K p' H (mk l) D → ∃ u, H D = some u := fun r => r.some
  refine ⟨fun i m H => m = q.its.length - i ∧ i ≤ q.its.length ∧ Pv i H, ⟨q.its.length, by simp, Nat.zero_le _, p1, h1, [], xb, si.beside hD, np, tk.init p1 H1 D hsys, Nat.le_refl _, eGo⟩, ?_⟩
  rintro i m H ⟨rfl, hi, p', h', acc, x, sm, nd, ro, hv, run⟩
  by_cases hlt : i < q.its.length
  · have hdr : q.its.drop i = q.its[i] :: q.its.drop (i + 1) := List.drop_eq_getElem_cons hlt
    rw [hdr] at run
    simp only [compGo] at run
    cases hg : okG q.gs h' with
    | false => rw [hg] at run; cases run
    | true =>
      rw [hg, if_pos rfl] at run
      refine .inr ⟨wk.go i p' H h' x sm hg hlt, Pv (i + 1), fun H' p => ⟨q.its.length - (i + 1), by omega, rfl, hlt, p⟩, fun y H' yl => ?_⟩
      obtain ⟨x2, s2, r2⟩ := wk.yld i p' H h' y H' q.its[i] x sm hg (List.getElem?_eq_getElem hlt) yl
      have xx := x.trans x2
      obtain ⟨u0, hd⟩ := some_ ro
      obtain ⟨hd2, nd2⟩ := x2.stay hd nd
      have ro2 : RO nm X.K p' H' (mk (putAll acc [])) D := ro.mono x2.pre x2.kp (hd2.trans hd.symm)
      unfold dcTurn at run
      cases hs : setT k t q.its[i] s with
      | none => rw [hs] at run; cases run
      | some s' =>
        rw [hs] at run
        simp only at run
        refine gK_ok r2 hs ((er.mono xx).wiped own) fun τ et hw => ⟨(hw own ho2).trans (wipe_wipe _ _), ?_⟩
        have er' : Er X.K p' H' s' τ := et.er fun j z => z.2 (ho j z.1)
        refine ⟨p', s', h', s2, er', ?_⟩
        cases hc : dc s' h' with
        | bad => rw [hc] at run; cases run
        | exc c ws h3 => rw [hc] at run; cases run
        | ok b h3 =>
          rw [hc] at run
          intro p3 H3 b' x3 s3 eb
          cases (show b = b' from eb)
          obtain ⟨hd3, nd3⟩ := x3.stay hd2 nd2
          have ro3 : RO nm X.K p3 H3 (mk (putAll acc [])) D := ro2.mono x3.pre x3.kp (hd3.trans hd2.symm)
          cases b with
          | false =>
            rw [if_neg Bool.false_ne_true]
            exact ⟨p3, h3, acc, xx.trans x3, s3, nd3, ro3, Nat.le_succ_of_le hv, run⟩
          | true =>
            rw [if_pos rfl]
            simp only at run
            refine ⟨p3, s', h3, s3, er'.mono x3, ?_⟩
            cases he : de s' h3 with
            | bad => rw [he] at run; cases run
            | exc c ws h4 => rw [he] at run; cases run
            | ok a h4 =>
              rw [he] at run
              simp only at run
              intro p4 H4 y4 x4 s4 r4
              obtain ⟨hd4, nd4⟩ := x4.stay hd3 nd3
              have ro4 : RO nm X.K p4 H4 (mk (putAll acc [])) D := ro3.mono x4.pre x4.kp (hd4.trans hd3.symm)
              refine ⟨p4, s', h4, s4, (er'.mono x3).mono x4, ?_⟩
              cases hv2 : dv s' h4 with
              | bad => rw [hv2] at run; cases run
              | exc c ws h5 => rw [hv2] at run; cases run
              | ok w h5 =>
                rw [hv2] at run
                simp only at run
                intro p5 H5 z5 x5 s5 r5
                obtain ⟨hd5, nd5⟩ := x5.stay hd4 nd4
                have ro5 : RO nm X.K p5 H5 (mk (putAll acc [])) D := ro4.mono x5.pre x5.kp (hd5.trans hd4.symm)
                by_cases hk : a.key = true
                · rw [if_pos hk] at run
                  simp only at run
                  obtain ⟨tl, et⟩ := go_pre run
                  have la : acc.length < sizeLine := by
                    have := hz0
                    rw [et, List.length_append, List.length_append, List.length_singleton, line_eq] at this
                    omega
                  have lp : (putAll acc []).length < sizeLine := Nat.lt_of_le_of_lt (by simpa using putAll_len acc []) la
                  have fa : fit a = true := fit0 (a, w) (by rw [et]; simp)
                  refine tk.put p5 H5 _ D a w y4 z5 _ ro5 fa hk (RW.to r4 x5) r5 lp fun u ro6 => ?_
                  have mu := tk.mu _ _ _ _ ro5
                  have kp : Kp X.K H5 (upd H5 D u) := Kp.write mu
                  have xw : Xt X.K p1 H1 p5 (upd H5 D u) := Xt.back hD (((xx.trans x3).trans x4).trans x5) nd5 mu
                  refine ⟨p5, h5, acc ++ [(a, w)], xw, ?_, nd5, by rw [putAll_app]; exact ro6, by rw [List.length_append, List.length_singleton]; omega, run⟩
                  exact ⟨s5.len, s5.nd, fun j o b e1 e2 => (s5.at_ j o b e1 e2).mono (List.prefix_refl _) kp (upd_ne fun z => nd5 (z ▸ List.mem_of_getElem? e2))⟩
                · rw [if_neg hk] at run; cases run
  · have e : i = q.its.length := by omega
    subst e
    rw [List.drop_length] at run
    simp only [compGo] at run
    cases hg : okG q.gs h' with
    | false => rw [hg] at run; cases run
    | true =>
      rw [hg, if_pos rfl] at run
      cases run
      refine .inl ⟨wk.stop _ p' H hr x sm hg (Nat.le_refl _), ?_⟩
      rw [eRun] at ok
      exact fin p' hr H r0 x sm nd ro eRun ok
/-- what is asked, from the meaning -/
theorem dc_imp {o0 : Addr → HO} {Pt : Addr → V → V → Hp → (Hp → Prop) → Prop} {fit : W → Bool} {mk : List (W × W) → O} (tk : TKind nm X.K o0 Pt fit mk) {own : List Nat} {k : Bool} {t : List Nat} {it : M2.It} {da db : DV} {dc : DT} {de dv : DV} (o1 : ∀ i ∈ own, i ∈ t) (o2 : ∀ i ∈ t, i ∈ own) {σ : Sg} {H : Hp} {Q : VK} {p : List Addr} {s : M2.Env} {h : Hm}
    (si : Sim nm X.K p h H) (er : Er X.K p H s σ)
    (good : ∀ q h1 r h', ((da s h).then fun x h1 => (db s h1).then fun y h2 => srcV it x y h2) = .ok q h1 → compRun (dcTurn k t dc de dv s) q h1 = .ok r h' → (∀ x ∈ r, fit x.1 = true) ∧ newD r h' = alloc (mk (putAll r [])) h')
    (ok : Ok nm X.K Ek (GV X.K) p H (((da s h).then fun x h1 => (db s h1).then fun y h2 => srcV it x y h2).then fun q h3 => (compRun (dcTurn k t dc de dv s) q h3).then newD) Q) :
    tDg o0 Pt (tI nm X.K Ek it da db) (gK X.K k t) (M2.tB nm X.K NoE dc) (tV nm X.K NoE de) (tV nm X.K NoE dv) own σ H Q := by
  have un : ∀ {q h1}, ((da s h).then fun x h1 => (db s h1).then fun y h2 => srcV it x y h2) = .ok q h1 → q.un = none := fun e => by
    obtain ⟨_, _, _, e1⟩ := then_ok e
    obtain ⟨_, _, _, e2⟩ := then_ok e1
    exact (srcV_un e2).1
  refine ⟨p, s, h, si, er, Ok.then ok fun q h1 p1 H1 J e x1 s1 wk ok1 D hD hsys => ?_⟩
  refine dc_loop tk (un e) o1 o2 s1 (er.mono x1) wk hD hsys (fun r h' e2 => (good q h1 r h' e e2).1) ok1 fun p' h' H' l x sm nd ro e2 okk => ?_
  rw [(good q h1 l h' e e2).2] at okk
  have mu := tk.mu _ _ _ _ ro
  obtain ⟨u, hd⟩ := ro.some
  have xx : Xt X.K p1 H1 (p' ++ [D]) (upd H' D u) := Xt.adopt hD x mu
  have sm2 : Sim nm X.K (p' ++ [D]) (h' ++ [mk (putAll l [])]) (upd H' D u) := sm.adopt nd mu (ro.mono (List.prefix_append _ _) (Kp.write mu) (by rw [upd_same, hd]))
  rw [upd_self hd] at xx sm2
  exact okk _ _ _ xx sm2 (.ref (by rw [← sm.len]; simp))
end
end M2

namespace M2
open PySem PySem.Spec PyProof.Rows L2
section
variable {nm : Nm} {X : L2.Cx} {Ek : XK} {c : CS} {C : Ctx} {sc : Scope}
def vDc (k : Bool) (t : List Nat) (it : M2.It) (da db : DV) (dc : DT) (de dv : DV) : DV := fun s h => (da s h).then fun x h1 => (db s h1).then fun y h2 => ((srcV it x y h2).then (compRun (dcTurn k t dc de dv s))).then newD
/-- what a dict comprehension's parts are worth -/
structure DcP (nm : Nm) (Ek : XK) (X : L2.Cx) (c : CS) (sc : Scope) (key val tg iter : Expr) (ifs : List Expr) (scope : Scope) (k : Bool) (t : List Nat) (it : M2.It) (da db : DV) (dc : DT) (de dv : DV) : Prop where
  blk : L2.blkC c.N sc scope (ownOf c scope) = true
  o1 : ∀ i ∈ (ownOf c scope).map (·.2), i ∈ t
  o2 : ∀ i ∈ t, i ∈ (ownOf c scope).map (·.2)
  loc : locTgt scope tg = true
  tgt : tgtOf c tg = some (k, t)
  it : PI X tg iter (tI nm X.K Ek it da db)
  fold : ∀ x, foldedSetIterable iter X.env x = pure x
  ifs : ∀ (s : Shared) (H : Hp) (A : Addr) (cl : List (Str × Addr)) (fp : List Addr), PTs (X.blk s H scope (compEnvC scope cl A X.env) fp) ifs (M2.tB nm X.K NoE dc)
  key : ∀ (s : Shared) (H : Hp) (A : Addr) (cl : List (Str × Addr)) (fp : List Addr), PE (X.blk s H scope (compEnvC scope cl A X.env) fp) key (tV nm X.K NoE de)
  val : ∀ (s : Shared) (H : Hp) (A : Addr) (cl : List (Str × Addr)) (fp : List Addr), PE (X.blk s H scope (compEnvC scope cl A X.env) fp) val (tV nm X.K NoE dv)
theorem dc_alt {own : List Nat} {k : Bool} {t : List Nat} {it : M2.It} {da db : DV} {dc : DT} {de dv : DV} (o1 : ∀ i ∈ own, i ∈ t) (o2 : ∀ i ∈ t, i ∈ own) {σ : Sg} {H : Hp} {Q : VK} (h : tV nm X.K Ek (vDc k t it da db dc de dv) σ H Q) :
    tDg (fun _ => .dK []) ptK (tI nm X.K Ek it da db) (gK X.K k t) (M2.tB nm X.K NoE dc) (tV nm X.K NoE de) (tV nm X.K NoE dv) own σ H Q ∨
    tDg (fun D => ndO D newObj) (ptN nm.wd X.K) (tI nm X.K Ek it da db) (gK X.K k t) (M2.tB nm X.K NoE dc) (tV nm X.K NoE de) (tV nm X.K NoE dv) own σ H Q := by
  obtain ⟨p, s, h, si, er, ok⟩ := h
  have ok : Ok nm X.K Ek (GV X.K) p H (((da s h).then fun x h1 => (db s h1).then fun y h2 => srcV it x y h2).then fun q h3 => (compRun (dcTurn k t dc de dv s) q h3).then newD) Q := by
    simp only [vDc, then_assoc] at ok ⊢
    exact ok
  by_cases hp : ∃ q h1 r h', ((da s h).then fun x h1 => (db s h1).then fun y h2 => srcV it x y h2) = .ok q h1 ∧ compRun (dcTurn k t dc de dv s) q h1 = .ok r h' ∧ (r.all fun p => p.1.plain) = false
  · obtain ⟨q, h1, r, h', e1, e2, e3⟩ := hp
    by_cases ht : (r.all fun p => p.1.isTup) = true
    · refine .inr (dc_imp tkindN o1 o2 si er (fun q' h1' r' h'' f1 f2 => ?_) ok)
      rw [e1] at f1
      cases f1
      rw [e2] at f2
      cases f2
      refine ⟨fun x hx => List.all_eq_true.mp ht x hx, ?_⟩
      unfold newD
      rw [e3, if_neg Bool.false_ne_true, if_pos ht]
    · have ok' := ok
      rw [e1] at ok'
      have ok' : Ok nm X.K Ek (GV X.K) p H ((compRun (dcTurn k t dc de dv s) q h1).then newD) Q := ok'
      rw [e2] at ok'
      have ok' : Ok nm X.K Ek (GV X.K) p H (newD r h') Q := ok'
      unfold newD at ok'
      rw [e3, if_neg Bool.false_ne_true, if_neg ht] at ok'
      exact ok'.elim
  · refine .inl (dc_imp tkindK o1 o2 si er (fun q h1 r h' e1 e2 => ?_) ok)
    have e3 : (r.all fun p => p.1.plain) = true := by
      cases z : (r.all fun p => p.1.plain) with
      | true => rfl
      | false => exact absurd ⟨q, h1, r, h', e1, e2, z⟩ hp
    refine ⟨fun x hx => List.all_eq_true.mp e3 x hx, ?_⟩
    unfold newD
    rw [if_pos e3]
theorem e_dc (g : GOk nm Ek c C X sc) {key val tg iter : Expr} {ifs : List Expr} {scope : Scope} {pos : Pos} {k : Bool} {t : List Nat} {it : M2.It} {da db : DV} {dc : DT} {de dv : DV} (P : DcP nm Ek X c sc key val tg iter ifs scope k t it da db dc de dv) :
    EOk nm Ek X (.DictComp key val [⟨tg, iter, ifs, 0⟩] scope pos) (mkV (vDc k t it da db dc de dv)) := by
  have gt := fun (s : Shared) (H : Hp) (A : Addr) (cl : List (Str × Addr)) (fp : List Addr) => (show PG (X.blk s H scope (compEnvC scope cl A X.env) fp) tg (gK X.K k t) from tgt_ok (g.blk scope s H A cl fp) P.loc P.tgt)
  have b1 := pe_dg (pos := pos) (dkindK (X := X)) g.calm g.nd P.it (g.bok P.blk) gt P.ifs P.key P.val P.fold
  have b2 := pe_dg (pos := pos) (dkindN (nm := nm) (X := X) g.wd g.un) g.calm g.nd P.it (g.bok P.blk) gt P.ifs P.key P.val P.fold
  refine mkV_ok ⟨fun pins s σ H Q I h => ?_⟩ (fun _ => rfl) rfl rfl
  rcases dc_alt P.o1 P.o2 h with z | z
  · exact b1.run pins s σ H Q I z
  · exact b2.run pins s σ H Q I z
/-- name = {..} on one line -/
theorem s_dc (g : GOk nm Ek c C X sc) {key val tg iter : Expr} {ifs : List Expr} {scope : Scope} {pos spos py : Pos} {k : Bool} {t : List Nat} {it : M2.It} {da db : DV} {dc : DT} {de dv : DV} (P : DcP nm Ek X c sc key val tg iter ifs scope k t it da db dc de dv) {y : Str} {i : Nat}
    (hi : ixOf y c.N = some i) (hy : X.env.scope.names.lookup y = some .local) (hsw : swapsWith (.DictComp key val [⟨tg, iter, ifs, 0⟩] scope pos) (some (.Name y py)) spos.line X.env = pure true) :
    PS X (.Assign [.Name y py] (.DictComp key val [⟨tg, iter, ifs, 0⟩] scope pos) spos) (fun D σ H => tV nm X.K Ek (vDc k t it da db dc de dv) σ H fun x H1 => gName i x σ H1 D.nx) := by
  have gt := fun (s : Shared) (H : Hp) (A : Addr) (cl : List (Str × Addr)) (fp : List Addr) => (show PG (X.blk s H scope (compEnvC scope cl A X.env) fp) tg (gK X.K k t) from tgt_ok (g.blk scope s H A cl fp) P.loc P.tgt)
  have hN : X.N[i]? = some y := by rw [g.N]; exact ixOf_get hi
  have b1 := ps_dg (dkindK (X := X)) g.calm g.nd hN hy hsw P.it (g.bok P.blk) gt P.ifs P.key P.val P.fold
  have b2 := ps_dg (dkindN (nm := nm) (X := X) g.wd g.un) g.calm g.nd hN hy hsw P.it (g.bok P.blk) gt P.ifs P.key P.val P.fold
  refine ⟨fun pins s σ H D I h => ?_⟩
  rcases dc_alt P.o1 P.o2 h with z | z
  · exact b1.run pins s σ H D I z
  · exact b2.run pins s σ H D I z
end
end M2

namespace M2
open PySem PySem.Spec PyProof.Rows L2
section
variable {nm : Nm} {C : Ctx} {c : CS}
theorem cop_ok {X : L2.Cx} {Ek : XK} {sc : Scope} (g : GOk nm Ek c C X sc) {o : PySem.CmpOp} {p : Cop} (h : copOf o = some p) : OpR X (compareOp o) (rOp nm X.K Ek (cmpop p)) := by
  cases o <;> cases h <;> first
    | exact opr_eq g.un
    | exact opr_ne g.un
    | exact opr_lt
    | exact opr_le
    | exact opr_gt
    | exact opr_ge
    | exact opr_isN
    | exact opr_notN
    | exact opr_in g.un
    | exact opr_notIn g.un
theorem star_of {n : Nat} {nb : Bool} {sc : Scope} {e : Expr} {d : E} (h : cE c n nb sc e = some d) : notStar e = true := by
  cases n with
  | zero => cases h
  | succ n =>
    cases e <;> first
      | rfl
      | cases h
/-- a compiled form is no set -/
theorem notSet_of {n : Nat} {nb : Bool} {sc : Scope} {e : Expr} {d : E} (h : cE c n nb sc e = some d) : ∀ es k p, e ≠ .Set es k p := by
  cases n with
  | zero => cases h
  | succ n =>
    rintro es k p rfl
    cases h
theorem nomarks {n : Nat} {nb : Bool} {sc : Scope} {e : Expr} {d : E} (h : cE c n nb sc e = some d) (op : CmpOp) : behindInMarks op e = false := by
  have := notSet_of h
  cases e <;> first
    | rfl
    | exact absurd rfl (this _ _ _)
theorem nofold {n : Nat} {nb : Bool} {sc : Scope} {e : Expr} {d : E} (h : cE c n nb sc e = some d) (env : PySem.Env) (x : Value) : foldedSetIterable e env x = pure x := by
  have := notSet_of h
  cases e <;> first
    | rfl
    | exact absurd rfl (this _ _ _)
theorem plainIx_of {n : Nat} {nb : Bool} {sc : Scope} {e : Expr} {d : E} (h : cE c n nb sc e = some d) : PlainIx e := by
  intro o i
  cases n with
  | zero => cases h
  | succ n =>
    cases e <;> first
      | rfl
      | cases h
theorem lits_ok {X : L2.Cx} {Ek : XK} {k : Const} {j : Nat} {p : Pos} {d : E} (h : lits k = some d) : EOk nm Ek X (.Constant k j p) (den C d) := by
  cases k <;> simp only [lits] at h <;> cases h
  · rw [den]; exact mkV_ok (e_con pe_non fun _ _ => .non) (fun _ => rfl) rfl rfl
  · rw [den]; exact mkV_ok (e_con pe_bl fun _ _ => .bl _) (fun _ => rfl) rfl rfl
  · rw [den]; exact mkV_ok (e_con pe_int fun _ _ => .int _) (fun _ => rfl) rfl rfl
  · rename_i z
    rw [den]
    refine mkV_ok (e_con pe_str fun _ _ => ?_) (fun _ => rfl) rfl rfl
    have := RW.str (K := X.K) (p := []) (H := fun _ => none) z.cps.toList
    have e : (⟨z.cps.toList.toArray⟩ : Str) = z := by cases z; simp
    rw [← e]
    exact RW.str z.cps.toList
theorem it_ok {X : L2.Cx} {Ek : XK} {sc : Scope} (g : GOk nm Ek c C X sc) {n : Nat} (ih : ∀ {nb e d}, cE c n nb sc e = some d → EOk nm Ek X e (den C d)) {tg iter : Expr} {it : M2.It} {a b : E} (h : cIt (cE c n false sc) sc tg iter = some (it, a, b)) :
    PI X tg iter (tI nm X.K Ek it (den C a).v (den C b).v) ∧ ∀ x, foldedSetIterable iter X.env x = pure x := by
  have nn : ∀ s h, (den C .non).v s h = .ok .non h := fun s h => by rw [den]; rfl
  have seq : ∀ {e : Expr}, (cE c n false sc e).map (fun a => (M2.It.seq, a, E.non)) = some (it, a, b) → PI X tg e (tI nm X.K Ek it (den C a).v (den C b).v) ∧ ∀ x, foldedSetIterable e X.env x = pure x := fun h => by
    obtain ⟨d, h1, h2⟩ := map_some h
    cases h2
    exact ⟨i_seq nn (ih h1).v, nofold h1 _⟩
  unfold cIt at h
  split at h
  · rename_i x p e1 pos
    split at h
    · rename_i hx
      obtain ⟨hx, rfl⟩ := hx
      obtain ⟨d, h1, h2⟩ := map_some h
      cases h2
      exact ⟨i_rng1 g nn hx (ih h1).v (star_of h1), fun _ => rfl⟩
    · split at h
      · rename_i hx
        obtain ⟨hx, rfl, ht⟩ := hx
        obtain ⟨d, h1, h2⟩ := map_some h
        cases h2
        cases tg <;> first
          | exact ⟨i_enm g nn hx (ih h1).v (star_of h1), fun _ => rfl⟩
          | cases ht
      · exact seq h
  · rename_i x p e1 e2 pos
    split at h
    · rename_i hx
      obtain ⟨hx, rfl⟩ := hx
      obtain ⟨d1, d2, h1, h2, h3⟩ := opt2_some h
      cases h3
      exact ⟨i_rng2 g hx (ih h1).v (ih h2).v (star_of h1) (star_of h2), fun _ => rfl⟩
    · exact seq h
  · exact seq h
theorem lc_parts {n : Nat} (ihn : ∀ {X : L2.Cx} {Ek : XK} {sc : Scope}, GOk nm Ek c C X sc → ∀ {nb : Bool} {e : Expr} {d : E}, cE c n nb sc e = some d → EOk nm Ek X e (den C d)) {X : L2.Cx} {Ek : XK} {sc : Scope} (g : GOk nm Ek c C X sc) {nb : Bool} {elt : Expr} {gs : List Comprehension} {scope : Scope} {p : Pos} {d : E} (h : cE c (n + 1) nb sc (.ListComp elt gs scope p) = some d) :
    ∃ tg iter ifs k t it a b x y, gs = [⟨tg, iter, ifs, 0⟩] ∧ d = wrapN nb (.lc ((ownOf c scope).map (·.2)) k t x it a b y) ∧ LcP nm Ek X c sc elt tg iter ifs scope k t it (den C a).v (den C b).v (den C y).t (den C x).v := by
  have ih : ∀ {nb e d}, cE c n nb sc e = some d → EOk nm Ek X e (den C d) := fun h => ihn g h
  cases gs with
  | nil => simp only [cE] at h; cases h
  | cons q gs =>
    obtain ⟨tg, iter, ifs, as⟩ := q
    cases gs with
    | cons _ _ => simp only [cE] at h; cases h
    | nil =>
      cases as with
      | negSucc m => simp only [cE] at h; cases h
      | ofNat m =>
        cases m with
        | succ m => simp only [cE] at h; cases h
        | zero =>
          have h : cE c (n + 1) nb sc (.ListComp elt [⟨tg, iter, ifs, 0⟩] scope p) = some d := h
          simp only [cE] at h
          split at h
          · rename_i k t x y h1 h2 h3
            split at h
            · rename_i hk
              split at h
              · rename_i it a b h4
                cases h
                obtain ⟨hi, hf⟩ := it_ok g (tg := tg) ih h4
                refine ⟨tg, iter, ifs, k, t, it, a, b, x, y, rfl, rfl, hk.1, fun i hi => ?_, fun i hi => ?_, hk.2.2.2, h1, hi, hf, fun s H A cl fp => ?_, fun s H A cl fp => (ihn (g.blk scope s H A cl fp) h2).v⟩
                · obtain ⟨p, hp, rfl⟩ := List.mem_map.mp hi
                  have ho := hk.2.1
                  simp only [List.all_eq_true] at ho
                  simpa using ho p hp
                · have ho2 := hk.2.2.1
                  simp only [List.all_eq_true] at ho2
                  have := ho2 i hi
                  simpa using this
                · match ifs, h3 with
                  | [], h3 =>
                    cases h3
                    refine ⟨fun pins s σ H Q I ⟨p, s', h, si, er, ok⟩ => pts_nil.run pins s σ H Q I ?_⟩
                    rw [den] at ok
                    exact ok p H true Xt.refl si rfl
                  | [te], h3 =>
                    simp only at h3
                    split at h3
                    · rename_i hp
                      exact pts_one ((ihn (g.blk scope s H A cl fp) h3).t hp)
                    · cases h3
                  | _ :: _ :: _, h3 => cases h3
              · cases h
            · cases h
          · cases h
theorem dc_parts {n : Nat} (ihn : ∀ {X : L2.Cx} {Ek : XK} {sc : Scope}, GOk nm Ek c C X sc → ∀ {nb : Bool} {e : Expr} {d : E}, cE c n nb sc e = some d → EOk nm Ek X e (den C d)) {X : L2.Cx} {Ek : XK} {sc : Scope} (g : GOk nm Ek c C X sc) {nb : Bool} {key val : Expr} {gs : List Comprehension} {scope : Scope} {p : Pos} {d : E} (h : cE c (n + 1) nb sc (.DictComp key val gs scope p) = some d) :
    ∃ tg iter ifs k t it a b x z y, gs = [⟨tg, iter, ifs, 0⟩] ∧ d = .dc ((ownOf c scope).map (·.2)) k t x z it a b y ∧ DcP nm Ek X c sc key val tg iter ifs scope k t it (den C a).v (den C b).v (den C y).t (den C x).v (den C z).v := by
  have ih : ∀ {nb e d}, cE c n nb sc e = some d → EOk nm Ek X e (den C d) := fun h => ihn g h
  cases gs with
  | nil => simp only [cE] at h; cases h
  | cons q gs =>
    obtain ⟨tg, iter, ifs, as⟩ := q
    cases gs with
    | cons _ _ => simp only [cE] at h; cases h
    | nil =>
      cases as with
      | negSucc m => simp only [cE] at h; cases h
      | ofNat m =>
        cases m with
        | succ m => simp only [cE] at h; cases h
        | zero =>
          have h : cE c (n + 1) nb sc (.DictComp key val [⟨tg, iter, ifs, 0⟩] scope p) = some d := h
          simp only [cE] at h
          split at h
          · rename_i k t x z y h1 h2 h2' h3
            split at h
            · rename_i hk
              split at h
              · rename_i it a b h4
                cases h
                obtain ⟨hi, hf⟩ := it_ok g (tg := tg) ih h4
                refine ⟨tg, iter, ifs, k, t, it, a, b, x, z, y, rfl, rfl, hk.1, fun i hi => ?_, fun i hi => ?_, hk.2.2.2, h1, hi, hf, fun s H A cl fp => ?_, fun s H A cl fp => (ihn (g.blk scope s H A cl fp) h2).v, fun s H A cl fp => (ihn (g.blk scope s H A cl fp) h2').v⟩
                · obtain ⟨p, hp, rfl⟩ := List.mem_map.mp hi
                  have ho := hk.2.1
                  simp only [List.all_eq_true] at ho
                  simpa using ho p hp
                · have ho2 := hk.2.2.1
                  simp only [List.all_eq_true] at ho2
                  have := ho2 i hi
                  simpa using this
                · match ifs, h3 with
                  | [], h3 =>
                    cases h3
                    refine ⟨fun pins s σ H Q I ⟨p, s', h, si, er, ok⟩ => pts_nil.run pins s σ H Q I ?_⟩
                    rw [den] at ok
                    exact ok p H true Xt.refl si rfl
                  | [te], h3 =>
                    simp only at h3
                    split at h3
                    · rename_i hp
                      exact pts_one ((ihn (g.blk scope s H A cl fp) h3).t hp)
                    · cases h3
                  | _ :: _ :: _, h3 => cases h3
              · cases h
            · cases h
          · cases h
theorem den_dc {C : Ctx} {own : List Nat} {k : Bool} {t : List Nat} {x z : E} {it : M2.It} {a b y : E} : den C (.dc own k t x z it a b y) = mkV (vDc k t it (den C a).v (den C b).v (den C y).t (den C x).v (den C z).v) := by rw [den]; rfl
/-! ### a starred part as the last one -/
theorem starLast_of {es fs : List Expr} {a : Expr} (h : starLast es = some (fs, a)) : ∃ q, es = fs ++ [.Starred a q] := by
  unfold starLast at h
  split at h
  · rename_i b q r e
    cases h
    refine ⟨q, ?_⟩
    have := congrArg List.reverse e
    rw [List.reverse_reverse, List.reverse_cons] at this
    exact this
  · cases h
theorem a_star {X : L2.Cx} {Ek : XK} {n : Nat} {nb : Bool} {sc : Scope} {a : Expr} {dv : DV} {q : Pos} (ha : PE X a (tV nm X.K Ek dv)) (ih : ∀ {e d}, cE c n nb sc e = some d → PE X e (tV nm X.K Ek (den C d).v)) : ∀ {fs : List Expr} {ds : List E}, allO (cE c n nb sc) fs = some ds →
    PA X (fs ++ [.Starred a q]) (tLs nm X.K Ek fun s h => (denL C ds s h).then fun ws h1 => ((dv s h1).then rowOf).then fun l h2 => .ok (ws ++ l) h2)
  | [], ds, h => by
    cases h
    refine PAi (StX.pa_star ha pa_nil) ?_
    rintro σ H Q ⟨p, s, h, si, er, ok⟩
    have e : ((denL C [] s h).then fun ws h1 => ((dv s h1).then rowOf).then fun l h2 => M2.R.ok (ws ++ l) h2) = (dv s h).then fun w h1 => (rowOf w h1).then fun l h2 => .ok l h2 := by
      rw [denL]
      show ((dv s h).then rowOf).then _ = _
      rw [then_assoc]
      rfl
    simp only at ok
    rw [e] at ok
    refine ⟨p, s, h, si, er, ok.then fun w h1 p1 H1 v _ x1 s1 r1 ok1 => ?_⟩
    unfold rowOf at ok1
    split at ok1
    · rename_i l e1
      obtain ⟨a, vs, rfl, hq, ql⟩ := row_of s1 r1 e1
      refine ⟨a, vs, rfl, hq.elim .inr fun z => .inl z.2, ?_⟩
      exact ok1 p1 H1 (vs ++ []) Xt.refl s1 (by rw [List.append_nil]; exact ql)
    · exact ok1.elim
  | e :: fs, ds, h => by
    simp only [allO] at h
    split at h
    · rename_i d h1
      split at h
      · rename_i r h2
        cases h
        have hc := a_cons (ih h1) (a_star ha ih h2) (star1 (star_of h1) (fs ++ [.Starred a q]) X.env)
        have e : (fun (s : M2.Env) (h : Hm) => (denL C (d :: r) s h).then fun ws h1 => ((dv s h1).then rowOf).then fun l h2 => M2.R.ok (ws ++ l) h2) = fun s h => ((den C d).v s h).then fun x h1 => ((denL C r s h1).then fun ws h1 => ((dv s h1).then rowOf).then fun l h2 => M2.R.ok (ws ++ l) h2).then fun ws h2 => .ok (x :: ws) h2 := by
          funext s h
          rw [denL]
          simp only [then_assoc]
          rfl
        rw [e]
        exact hc
      · cases h
    · cases h
/-! ### a dict of the module -/
theorem dctL_of {o : Option W} {l : List W} (h : dctL o = some l) : o = some (.tup [.ref 0, .tup l]) := by
  unfold dctL at h
  split at h
  · cases h; rfl
  · cases h
theorem e_gd {X : L2.Cx} {Ek : XK} {sc : Scope} (g : GOk nm Ek c C X sc) {a b : Expr} {pos : Pos} {i : Nat} {db : DV} (hi : isCod c sc a = some i) (hb : PE X b (tV nm X.K Ek db)) (hs : PlainIx b) : PE X (.Subscript a b pos) (tV nm X.K Ek fun s h => match dctL (C.con i) with
    | some l => (db s h).then (gdV l)
    | none => .bad) := by
  unfold isCod at hi
  split at hi
  · rename_i x p
    split at hi
    · rename_i hx
      cases hc : dctL (C.con i) with
      | none =>
        simp only
        exact ⟨fun _ _ _ _ _ _ ⟨_, _, _, _, _, ok⟩ => ok.elim⟩
      | some l =>
        simp only
        obtain ⟨ad, m, dbg, D⟩ := g.cod x i l hi (dctL_of hc)
        refine PEi (pe_ix ix_kdict (pe_glob (v := V.ref ad) (g.gl x hx.1) m rfl dbg) hb hs) ?_
        rintro σ H Q ⟨p, s, h, si, er, ok⟩
        refine ⟨p, s, h, si, er, ok.then fun w h1 p1 H1 y _ x1 s1 r1 ok1 => ?_⟩
        cases r1 with
        | str z =>
          simp only [gdV] at ok1
          cases e : dctGet z l with
          | none => rw [e] at ok1; exact ok1.elim
          | some v =>
            rw [e] at ok1
            obtain ⟨u, kd, rw'⟩ := D z v e
            exact ⟨ad, st z, u, rfl, rfl, kd, ok1 p1 H1 u Xt.refl s1 (rw' p1 H1)⟩
        | _ => exact ok1.elim
    · cases hi
  · cases hi
theorem cE_ok : ∀ (n : Nat) {X : L2.Cx} {Ek : XK} {sc : Scope}, GOk nm Ek c C X sc → ∀ {nb : Bool} {e : Expr} {d : E}, cE c n nb sc e = some d → EOk nm Ek X e (den C d)
  | 0, _, _, _, _, _, _, _, h => by cases h
  | n + 1, X, Ek, sc, g, nb, e, d, h => by
    have ih : ∀ {nb e d}, cE c n nb sc e = some d → EOk nm Ek X e (den C d) := fun h => cE_ok n g h
    have ihL : ∀ {nb es ds}, allO (cE c n nb sc) es = some ds → PA X es (tLs nm X.K Ek (denL C ds)) ∧ Stars es := fun h => ⟨a_all (fun _ _ => star_of) (fun _ _ h => (ih h).v) h, allO_star (fun _ _ => star_of) h⟩
    have one : ∀ {nb e d}, cE c n nb sc e = some d → PA X [e] (tLs nm X.K Ek (denL C [d])) ∧ Stars [e] := fun {nb e d} h => ihL (nb := nb) (es := [e]) (ds := [d]) (by simp only [allO, h])
    cases e with
    | Constant k j p => simp only [cE] at h; exact lits_ok h
    | Name x p =>
      simp only [cE] at h
      split at h
      · rename_i hv
        obtain ⟨i, h1, rfl⟩ := map_some h
        rw [den]
        have hv' := hv
        unfold isVar at hv'
        simp only [Bool.and_eq_true, Bool.not_eq_true'] at hv'
        exact mkV_ok (e_var (by rw [g.N]; exact ixOf_get h1) (g.vis x hv) hv'.1.1 hv'.1.2) (fun _ => rfl) rfl rfl
      · split at h
        · rename_i hg
          obtain ⟨i, h1, rfl⟩ := map_some h
          rw [den]
          cases hc : C.con i with
          | none =>
            refine mkV_ok ⟨fun _ _ _ _ _ _ ⟨_, _, _, _, _, ok⟩ => ?_⟩ (fun _ => rfl) rfl rfl
            simp only [conV, hc] at ok
            exact ok.elim
          | some w =>
            cases hd : isDct w with
            | true =>
              refine mkV_ok ⟨fun _ _ _ _ _ _ ⟨_, _, _, _, _, ok⟩ => ?_⟩ (fun _ => rfl) rfl rfl
              simp only [conV, hc, hd, if_true] at ok
              exact ok.elim
            | false =>
              obtain ⟨v, u, m, r, db, rw'⟩ := g.con x i w h1 hc hd
              have : (fun (_ : M2.Env) h => conV C i h) = fun _ h => .ok w h := by funext s h; simp only [conV, hc, hd]; rfl
              rw [this]
              exact mkV_ok (e_con (pe_glob (g.gl x hg) m r db) rw') (fun _ => rfl) rfl rfl
        · cases h
    | BinOp a o b p =>
      simp only [cE] at h
      split at h
      · rename_i o' ho
        obtain ⟨x, y, h1, h2, rfl⟩ := opt2_some h
        unfold wrapN
        split
        · rename_i hnb
          simp only [Bool.and_eq_true, decide_eq_true_eq] at hnb
          obtain ⟨_, rfl⟩ := hnb
          rw [den]
          refine new_ok ?_ (fun _ => rfl) rfl
          rw [den]
          simp only [mkV, then_assoc]
          have ha : o = .Add := by cases o <;> first | rfl | cases ho
          subst ha
          exact e_bin opr_addN (ih h1).v (ih h2).v
        · rw [den]
          exact mkV_ok (e_bin (opr_bin ho) (ih h1).v (ih h2).v) (fun _ => rfl) rfl rfl
      · cases h
    | UnaryOp o a p =>
      cases o with
      | USub =>
        simp only [cE] at h
        obtain ⟨x, h1, rfl⟩ := map_some h
        rw [den]
        refine mkV_ok (PEi (pe_un un_neg (ih h1).v) ?_) (fun _ => rfl) rfl rfl
        rintro σ H Q ⟨p, s, h, si, er, ok⟩
        refine ⟨p, s, h, si, er, ok.then fun w h1 p1 H1 v _ x1 s1 r1 ok1 => ?_⟩
        cases r1 with
        | int i => exact ⟨i, rfl, ok1 p1 H1 _ Xt.refl s1 (.int _)⟩
        | _ => exact ok1.elim
      | Not =>
        simp only [cE] at h
        split at h
        · rename_i hp
          obtain ⟨x, h1, rfl⟩ := map_some h
          rw [den]
          exact e_not (ih h1) hp
        · cases h
      | _ => simp only [cE] at h; cases h
    | Compare a ops bs p =>
      match ops, bs, h with
      | [o], [b], h =>
        simp only [cE] at h
        split at h
        · rename_i o' ho
          split at h
          · obtain ⟨x, y, h1, h2, rfl⟩ := opt2_some h
            rw [den]
            exact e_cmpCT g ho (cop_ok g ho) (ih h1).v (ih h2).v (nomarks h2 o)
          · cases h
        · cases h
      | [o, q], [b, d'], h =>
        simp only [cE] at h
        split at h
        · rename_i o1 o2 x y z ho hq h1 h2 h3
          cases h
          rw [den]
          exact e_cmp2T (cop_ok g ho) (cop_ok g hq) (ih h1).v (ih h2).v (ih h3).v (nomarks h3 q)
        · cases h
      | [], _, h => simp only [cE] at h; cases h
      | _ :: _ :: _ :: _, _, h => simp only [cE] at h; cases h
      | [_], [], h => simp only [cE] at h; cases h
      | [_], _ :: _ :: _, h => simp only [cE] at h; cases h
      | [_, _], [], h => simp only [cE] at h; cases h
      | [_, _], [_], h => simp only [cE] at h; cases h
      | [_, _], _ :: _ :: _ :: _, h => simp only [cE] at h; cases h
    | BoolOp o es p =>
      match es, h with
      | [a, b], h =>
        simp only [cE] at h
        split at h
        · rename_i hp
          obtain ⟨x, y, h1, h2, rfl⟩ := opt2_some h
          cases o with
          | And => rw [den]; exact e_and2 (ih h1) (ih h2) hp.1 hp.2
          | Or => rw [den]; exact e_or2 (ih h1) (ih h2) hp.1 hp.2
        · cases h
      | a :: b :: q :: r, h =>
        simp only [cE] at h
        split at h
        · rename_i hp
          obtain ⟨x, y, h1, h2, rfl⟩ := opt2_some h
          cases o with
          | And => rw [den]; exact e_and3 (ih h1) (ih h2) hp
          | Or => rw [den]; exact e_or3 (ih h1) (ih h2) hp
        · cases h
      | [], h => simp only [cE] at h; cases h
      | [_], h => simp only [cE] at h; cases h
    | IfExp t a b p =>
      simp only [cE] at h
      split at h
      · rename_i hp
        split at h
        · rename_i x y z h1 h2 h3
          cases h
          rw [den]
          exact e_ite (ih h1) (ih h2) (ih h3) hp
        · cases h
      · cases h
    | Tuple es k p =>
      simp only [cE] at h
      obtain ⟨ds, h1, rfl⟩ := map_some h
      rw [den]
      exact e_tup (ihL h1).1
    | List es p =>
      simp only [cE] at h
      split at h
      · rename_i fs a hst
        obtain ⟨q, rfl⟩ := starLast_of hst
        obtain ⟨ds, d', h1, h2, rfl⟩ := opt2_some h
        have e : (fun (s : M2.Env) (h : Hm) => (denL C ds s h).then fun ws h1 => (((den C d').v s h1).then rowOf).then fun l h2 => short (ws ++ l) h2) = fun s h => ((denL C ds s h).then fun ws h1 => (((den C d').v s h1).then rowOf).then fun l h2 => M2.R.ok (ws ++ l) h2).then short := by
          funext s h
          simp only [then_assoc]
          rfl
        have pa := a_star (q := q) (ih h2).v (fun h => (ih h).v) h1
        unfold wrapN
        split
        · rw [den]
          refine new_ok ?_ (fun _ => rfl) rfl
          rw [den, e]
          simp only [mkL, thaw_kl]
          exact lst_new pa
        · rw [den, e]
          exact e_lst pa
      · obtain ⟨ds, h1, rfl⟩ := map_some h
        unfold wrapN
        split
        · rw [den]
          refine new_ok ?_ (fun _ => rfl) rfl
          rw [den]
          simp only [mkL, thaw_kl]
          exact lst_new (ihL h1).1
        · rw [den]
          exact e_lst (ihL h1).1
    | Dict ks vs p =>
      match ks, vs, h with
      | [], [], h =>
        simp only [cE] at h
        cases h
        rw [den]
        have : denL C [] = fun (_ : M2.Env) h => M2.R.ok [] h := by funext s h; rw [denL]
        rw [this]
        exact e_dct0
      | [some k], [v], h =>
        simp only [cE] at h
        obtain ⟨x, y, h1, h2, rfl⟩ := opt2_some h
        rw [den]
        have e1 : denL C [] = fun (_ : M2.Env) h => M2.R.ok [] h := by funext s h; rw [denL]
        have e2 : denL C [y] = fun s h => ((den C y).v s h).then fun x h1 => (M2.R.ok [] h1).then fun ws h2 => .ok (x :: ws) h2 := by funext s h; rw [denL, e1]
        have e3 : denL C [x, y] = fun s h => ((den C x).v s h).then fun x h1 => (((den C y).v s h1).then fun x h1 => (M2.R.ok [] h1).then fun ws h2 => .ok (x :: ws) h2).then fun ws h2 => .ok (x :: ws) h2 := by funext s h; rw [denL, e2]
        rw [e3]
        exact e_dct1 (ih h1).v (ih h2).v
      | [], _ :: _, h => simp only [cE] at h; cases h
      | [some _], [], h => simp only [cE] at h; cases h
      | [some _], _ :: _ :: _, h => simp only [cE] at h; cases h
      | [none], _, h => simp only [cE] at h; cases h
      | _ :: _ :: _, _, h => simp only [cE] at h; cases h
    | Subscript a i p =>
      have plain : opt2 (cE c n false sc a) (cE c n false sc i) E.sub = some d → EOk nm Ek X (.Subscript a i p) (den C d) := fun h => by
        obtain ⟨x, y, h1, h2, rfl⟩ := opt2_some h
        rw [den]
        exact mkV_ok (e_sub (ixr g.un) (ih h1).v (ih h2).v (plainIx_of h2)) (fun _ => rfl) rfl rfl
      have gen : (match isCod c sc a with
          | some k => (cE c n false sc i).map (E.gd k)
          | none => opt2 (cE c n false sc a) (cE c n false sc i) E.sub) = some d → EOk nm Ek X (.Subscript a i p) (den C d) := fun h => by
        split at h
        · rename_i k hk
          obtain ⟨y, h1, rfl⟩ := map_some h
          rw [den]
          exact mkV_ok (e_gd g hk (ih h1).v (plainIx_of h1)) (fun _ => rfl) rfl rfl
        · exact plain h
      have po : ∀ {o : Option Expr} {q : Bool × E}, optE (cE c n false sc) o = some q → PO X o (tPO nm X.K Ek (partD q.1 (den C q.2).v)) := fun {o q} h => by
        cases o with
        | none => cases h; exact o_none
        | some e =>
          obtain ⟨x, h1, rfl⟩ := map_some h
          exact o_some (ih h1).v
      cases i with
      | Slice lo hi st p2 =>
        cases st with
        | none =>
          simp only [cE] at h
          split at h
          · rename_i x y z h1 h2 h3
            cases h
            rw [den]
            exact e_slc (ih h1).v (po h2) (po h3)
          · cases h
        | some st => simp only [cE] at h; exact gen h
      | _ => simp only [cE] at h; exact gen h
    | ListComp elt gs scope p =>
      obtain ⟨tg, iter, ifs, k, t, it, a, b, x, y, rfl, rfl, P⟩ := lc_parts (fun {_ _ _} g {_ _ _} h => cE_ok n g h) g h
      unfold wrapN
      split
      · rw [den]
        refine new_ok ?_ (fun _ => rfl) rfl
        rw [den]
        simp only [mkL, thaw_kl]
        exact lc_new g P
      · rw [den]
        exact e_lc g P
    | DictComp key val gs scope p =>
      obtain ⟨tg, iter, ifs, k, t, it, a, b, x, z, y, rfl, rfl, P⟩ := dc_parts (fun {_ _ _} g {_ _ _} h => cE_ok n g h) g h
      rw [den_dc]
      exact e_dc g P
    | Attribute a x p =>
      simp only [cE] at h
      split at h
      · rename_i hb
        split at h
        · rename_i f hf
          obtain ⟨y, h1, rfl⟩ := map_some h
          rw [den]
          exact e_fld g (ih h1).v hb hf
        · cases h
      · cases h
    | Call f es ks p =>
      cases ks with
      | cons _ _ => cases f <;> (try cases es with | nil => skip | cons _ es => cases es) <;> simp only [cE] at h <;> cases h
      | nil =>
        cases f with
        | Name x xp =>
          simp only [cE] at h
          split at h
          · rename_i hx
            split at h
            · rename_i i hf
              obtain ⟨ds, h1, rfl⟩ := map_some h
              rw [den]
              refine e_call g hx hf (ihL h1).1 (ihL h1).2 fun e0 => ?_
              subst e0
              cases h1
              funext s h
              rw [denL]
            · split at h
              · rename_i k hk
                obtain ⟨ds, h1, rfl⟩ := map_some h
                rw [den]
                refine e_make g hx hk (ihL h1).1 (ihL h1).2 fun e0 => ?_
                subst e0
                cases h1
                funext s h
                rw [denL]
              split at h
              · rename_i hi
                have hi : x = "isinstance" := of_decide_eq_true hi
                subst hi
                split at h
                · rename_i a ts k2 p2
                  obtain ⟨x, y, h1, h2, rfl⟩ := opt2_some h
                  rw [den]
                  exact e_isiT g hx (ih h1).v (star_of h1) h2
                · rename_i a t _
                  obtain ⟨x, y, h1, h2, rfl⟩ := opt2_some h
                  rw [den]
                  exact e_isi1 g hx (ih h1).v (star_of h1) h2
                · cases h
              · split at h
                · rename_i a
                  split at h
                  · rename_i b hb
                    obtain ⟨x, h1, rfl⟩ := map_some h
                    unfold wrapN
                    split
                    · rename_i hnb
                      simp only [Bool.and_eq_true, decide_eq_true_eq] at hnb
                      obtain ⟨_, rfl⟩ := hnb
                      rw [den]
                      refine new_ok ?_ (fun _ => rfl) rfl
                      have : (fun (s : M2.Env) (h : Hm) => ((den C (.bl1 .list x)).v s h).then thaw) = fun s h => ((den C x).l s h).then newL := by
                        funext s h
                        rw [den]
                        simp only [mkV, then_assoc]
                        rfl
                      rw [this]
                      exact e_listN g hx hb (ih h1).l (star_of h1)
                    · rw [den]
                      exact e_bl g hx hb (ih h1).l (star_of h1)
                  · split at h
                    · rename_i b hb
                      obtain ⟨x, h1, rfl⟩ := map_some h
                      rw [den]
                      exact e_b1 g hx hb (one h1).1 (one h1).2
                    · cases h
                · rename_i a e2
                  split at h
                  · rename_i b hb
                    obtain ⟨x, y, h1, h2, rfl⟩ := opt2_some h
                    rw [den]
                    have := ihL (nb := false) (es := [a, e2]) (ds := [x, y]) (by simp only [allO, h1, h2])
                    exact e_b1 g hx hb this.1 this.2
                  · cases h
                · cases h
          · cases h
        | Attribute o m ap =>
          simp only [cE] at h
          split at h
          case isFalse => cases h
          rename_i hk
          split at h
          · rename_i j hj
            split at h
            · rename_i hn
              obtain ⟨x, y, h1, h2, rfl⟩ := opt2_some h
              rw [den]
              refine e_mcall g (ih h1).v hk.1 hj (ihL h2).1 (ihL h2).2 (fun e0 => ?_) hk.2 hn
              subst e0
              cases h2
              funext s h
              rw [denL]
            · cases h
          · split at h
            · rename_i a
              split at h
              · rename_i mt hm
                obtain ⟨x, y, h1, h2, rfl⟩ := opt2_some h
                unfold mtOf at hm
                have dm : ∀ m, m ≠ .join → den C (.met m x [y]) = mkV fun s h => ((den C x).v s h).then fun x h1 => recv m x h1 (((den C y).v s h1).then (met1 m x)) := fun m hm => by
                  cases m <;> first
                    | exact absurd rfl hm
                    | simp [den]
                split at hm
                · rename_i e1; subst e1; cases hm
                  rw [dm _ (by decide)]
                  refine e_m1 F.plainAttrs_list F.slot_list_append F.type_list_append mr_append (fun p H h w v si r e => ?_) (ih h1).v (ih h2).v hk.1 (star_of h2) hk.2
                  cases r with
                  | ref hr =>
                    simp only [isRecv] at e
                    cases q : asL h _ with
                    | none => rw [q] at e; cases e
                    | some l =>
                      obtain ⟨vs, e1, _⟩ := si.lst hr (asL_lst q)
                      exact .inl ⟨rfl, vs, SqL.of e1⟩
                  | _ => cases e
                · split at hm
                  · rename_i e1; subst e1; cases hm
                    rw [dm _ (by decide)]
                    refine e_m1 F.plainAttrs_list F.slot_list_pop F.type_list_pop mr_popAt (fun p H h w v si r e => ?_) (ih h1).v (ih h2).v hk.1 (star_of h2) hk.2
                    cases r with
                    | ref hr =>
                      simp only [isRecv] at e
                      cases q : asL h _ with
                      | none => rw [q] at e; cases e
                      | some l =>
                        obtain ⟨vs, e1, _⟩ := si.lst hr (asL_lst q)
                        exact .inl ⟨rfl, vs, SqL.of e1⟩
                    | _ => cases e
                  · split at hm
                    rename_i e1; subst e1; cases hm
                    rw [dm _ (by decide)]
                    refine e_m1 F.plainAttrs_list F.slot_list_extend F.type_list_extend mr_extend (fun p H h w v si r e => ?_) (ih h1).v (ih h2).v hk.1 (star_of h2) hk.2
                    cases r with
                    | ref hr =>
                      simp only [isRecv] at e
                      cases q : asL h _ with
                      | none => rw [q] at e; cases e
                      | some l =>
                        obtain ⟨vs, e1, _⟩ := si.lst hr (asL_lst q)
                        exact .inl ⟨rfl, vs, SqL.of e1⟩
                    | _ => cases e
                    split at hm
                    · rename_i e1; subst e1; cases hm
                      rw [dm _ (by decide)]
                      exact e_m1 F.plainAttrs_str F.slot_str_split F.type_str_split mr_split (fun p H h w v si r e => recv_str (.inl rfl) r e) (ih h1).v (ih h2).v hk.1 (star_of h2) hk.2
                    · split at hm
                      · rename_i e1; subst e1; cases hm
                        rw [dm _ (by decide)]
                        exact e_m1 F.plainAttrs_str F.slot_str_strip F.type_str_strip mr_strip (fun p H h w v si r e => recv_str (.inr (.inl rfl)) r e) (ih h1).v (ih h2).v hk.1 (star_of h2) hk.2
                      · split at hm
                        · rename_i e1; subst e1; cases hm
                          have dj : den C (.met .join x [y]) = mkV fun s h => ((den C x).v s h).then fun x h1 => recv .join x h1 (((den C y).l s h1).then (joinop x)) := by simp [den]
                          rw [dj]
                          exact e_join (ih h1).v (ih h2).l hk.1 (star_of h2) hk.2
                        · cases hm
              · cases h
            · cases h
        | _ => simp only [cE] at h; cases h
    | _ => simp only [cE] at h; cases h
end
end M2

namespace M2
open PySem PySem.Spec PyProof.Rows L2
/-! ### statements -/
/-- the ends of a statement -/
def OkS (nm : Nm) (K : PySem.W.Frag) (Ek : XK) (p : List Addr) (H : Hp) (r : RS) (D : Ends) : Prop := match r with
  | .nx s h' => ∀ p' H' σ', Xt K p H p' H' → Sim nm K p' h' H' → Er K p' H' s σ' → D.nx σ' H'
  | .rt w h' => ∀ p' H' v, Xt K p H p' H' → Sim nm K p' h' H' → RW K p' H' w v → D.rt v H'
  | .bk s h' => ∀ p' H' σ', Xt K p H p' H' → Sim nm K p' h' H' → Er K p' H' s σ' → D.bk σ' H'
  | .ct s h' => ∀ p' H' σ', Xt K p H p' H' → Sim nm K p' h' H' → Er K p' H' s σ' → D.ct σ' H'
  | .exc c ws h' _ => ∀ p' H' d, Xt K p H p' H' → Sim nm K p' h' H' → XR nm K p' H' c ws d → Ek (.ref (nm.cls c)) d H'
  | .bad => False
def tS (nm : Nm) (K : PySem.W.Frag) (Ek : XK) (ev : M2.Env → Hm → RS) : TS := fun D σ H => ∃ p s h, Sim nm K p h H ∧ Er K p H s σ ∧ OkS nm K Ek p H (ev s h) D
section
variable {nm : Nm} {Ek : XK} {K : PySem.W.Frag} {p p1 : List Addr} {H H1 : Hp} {D D' : Ends}
theorem OkS.from {r : RS} (x : Xt K p H p1 H1) (h : OkS nm K Ek p H r D) : OkS nm K Ek p1 H1 r D := by
  cases r with
  | nx s h' => exact fun p' H' b x' s' g => h p' H' b (x.trans x') s' g
  | rt w h' => exact fun p' H' b x' s' g => h p' H' b (x.trans x') s' g
  | bk s h' => exact fun p' H' b x' s' g => h p' H' b (x.trans x') s' g
  | ct s h' => exact fun p' H' b x' s' g => h p' H' b (x.trans x') s' g
  | exc c ws h' s => exact fun p' H' d x' s' g => h p' H' d (x.trans x') s' g
  | bad => exact h
/-- a part of a statement, then the rest -/
theorem OkS.of {A B : Type} {G : List Addr → Hp → A → B → Prop} {r : M2.R A} {s : M2.Env} {k : A → Hm → RS} {Q' : B → Hp → Prop} (h : OkS nm K Ek p H (RS.ofR r s k) D)
    (hk : ∀ a h1 p1 H1 b, r = .ok a h1 → Xt K p H p1 H1 → Sim nm K p1 h1 H1 → G p1 H1 a b → OkS nm K Ek p1 H1 (k a h1) D → Q' b H1) : Ok nm K Ek G p H r Q' := by
  cases r with
  | ok a h' => exact fun p' H' b x' s' g => hk a h' p' H' b rfl x' s' g (OkS.from x' h)
  | exc c ws h' => exact h
  | bad => exact h
/-- one statement, then the rest -/
theorem OkS.seq {r : RS} {k : M2.Env → Hm → RS} (h : OkS nm K Ek p H (r.seq k) D) (hn : ∀ s h1 p1 H1 σ1, Xt K p H p1 H1 → Sim nm K p1 h1 H1 → Er K p1 H1 s σ1 → OkS nm K Ek p1 H1 (k s h1) D → D'.nx σ1 H1) (e1 : D'.rt = D.rt) (e2 : D'.bk = D.bk) (e3 : D'.ct = D.ct) : OkS nm K Ek p H r D' := by
  cases r with
  | nx s h' => exact fun p' H' b x' s' g => hn s h' p' H' b x' s' g (OkS.from x' h)
  | rt w h' => exact fun p' H' b x' s' g => by rw [e1]; exact h p' H' b x' s' g
  | bk s h' => exact fun p' H' b x' s' g => by rw [e2]; exact h p' H' b x' s' g
  | ct s h' => exact fun p' H' b x' s' g => by rw [e3]; exact h p' H' b x' s' g
  | exc c ws h' s => exact h
  | bad => exact h
end
structure SOk (nm : Nm) (Ek : XK) (c : CS) (C : Ctx) (X : L2.Cx) (sc : Scope) : Prop where
  g : GOk nm Ek c C X sc
  own : PassesOwn (model X.prog X.w) X.A X.env X.xe
  scope : X.env.scope = sc
  fn : ∀ x, X.fn x = true
  kind : X.env.scope.kind = .function
section
variable {nm : Nm} {X : L2.Cx} {Ek : XK} {c : CS} {C : Ctx} {sc : Scope}
theorem PGi {X : L2.Cx} {e : Expr} {t t' : TG} (h : PG X e t) (i : ∀ v σ H Q, t' v σ H Q → t v σ H Q) : PG X e t' := ⟨fun pins s σ H v u Q I r q => h.run pins s σ H v u Q I r (i v σ H Q q)⟩
/-! ### stores -/
/-- a target's store, by trees -/
def tgA (nm : Nm) (K : PySem.W.Frag) (Ek : XK) (st : W → M2.Env → Hm → RS) : TG := fun v σ H Q => ∃ p s h w, Sim nm K p h H ∧ Er K p H s σ ∧ RW K p H w v ∧ OkS nm K Ek p H (st w s h) { nx := Q, rt := fun _ _ => False }
theorem s_asg {t : Expr} {e : Expr} {pos : Pos} {d : DV} {st : W → M2.Env → Hm → RS} (he : PE X e (tV nm X.K Ek d)) (ht : PG X t (tgA nm X.K Ek st)) (hst : ∀ w s h, (∃ s' h', st w s h = .nx s' h') ∨ st w s h = .bad ∨ ∃ c ws h' s', st w s h = .exc c ws h' s') (hs : swapsWithSole [t] e pos.line X.env = pure false) (hw : swappedStores [t] e X.env = pure none) (h1 : (assignEach [t] X.env).map (·.2) = [assign t X.env]) :
    PS X (.Assign [t] e pos) (tS nm X.K Ek fun s h => RS.ofR (d s h) s fun w h1 => st w s h1) := by
  refine PSi (ps_asg he ht hs hw h1) ?_
  rintro D σ H ⟨p, s, h, si, er, ok⟩
  refine ⟨p, s, h, si, er, ok.of fun w h1 p1 H1 v _ x1 s1 r1 ok1 => ⟨p1, s, h1, w, s1, er.mono x1, r1, ?_⟩⟩
  rcases hst w s h1 with ⟨s', h', e⟩ | e | ⟨c, ws, h', s', e⟩
  · rw [e] at ok1 ⊢; exact ok1
  · rw [e] at ok1; exact ok1.elim
  · rw [e] at ok1 ⊢; exact ok1
theorem tg_var (g : GOk nm Ek c C X sc) {x : Str} {p : Pos} {i : Nat} (hl : isLoc sc x = true) (hi : ixOf x c.N = some i) : PG X (.Name x p) (tgA nm X.K Ek fun w s h => .nx (s.set i (some w)) h) := by
  refine PGi (g_name g hl hi) ?_
  rintro v σ H Q ⟨p, s, h, w, si, er, r, ok⟩
  exact ok p H _ Xt.refl si (er.set r i)
theorem PGor {X : L2.Cx} {e : Expr} {t t' : TG} (h : PG X e t) (h' : PG X e t') : PG X e (fun v σ H Q => t v σ H Q ∨ t' v σ H Q) := ⟨fun pins s σ H v u Q I r q => q.elim (h.run pins s σ H v u Q I r) (h'.run pins s σ H v u Q I r)⟩
theorem tg_tup (g : GOk nm Ek c C X sc) {es : List Expr} {k : Nat} {p : Pos} {ts : List Nat} (hl : es.all (nameLoc sc) = true) (hi : allO (nameIx c) es = some ts) : PG X (.Tuple es k p) (tgA nm X.K Ek fun w s h => nxE h (setU ts w s h)) := by
  obtain ⟨h1, h2, h3⟩ := gs_ok g hl hi
  refine PGi (PGor (pg_tup g.calm h1 h2 h3) (pg_unl g.calm h1 h2 h3)) ?_
  rintro v σ H Q ⟨p, s, h, w, si, er, r, ok⟩
  cases e : setU ts w s h with
  | none => simp only [nxE, e] at ok; exact ok.elim
  | some s' =>
    simp only [nxE, e] at ok
    have er0 : ErX X.K p H (fun _ => False) s σ := ⟨er.len, fun i w _ q => er.at_ i w q⟩
    unfold setU at e
    cases r with
    | tup hl ql => exact .inl (gK_ok (k := true) (w := .tup _) (.tup hl ql) (by unfold setT; exact e) er0 fun τ et _ => ok p H τ Xt.refl si (et.er fun i z => z.1))
    | kl hl ql => exact .inr ⟨_, _, rfl, hl.sq, by rw [← ql.length, setAll_len e], gNs_ok ql e er0 fun τ et _ => ok p H τ Xt.refl si (et.er fun i z => z.1)⟩
    | ref hr =>
      simp only at e
      split at e
      · rename_i l e1
        obtain ⟨vs, g1, ql⟩ := si.lst hr e1
        exact .inr ⟨_, vs, rfl, SqL.of g1, by rw [← ql.length, setAll_len e], gNs_ok ql e er0 fun τ et _ => ok p H τ Xt.refl si (et.er fun i z => z.1)⟩
      · cases e
    | _ => cases e
theorem atI_place {n : Nat} {k : Int} {j : Nat} (e : place n k = some j) : seqIndex? k n = some j := (ixN_seq (place_ix e)).1
/-- a list's item is written -/
def rSet (nm : Nm) (K : PySem.W.Frag) : TSet := fun o i v H Q => ∃ p h a b w h', Sim nm K p h H ∧ RW K p H a o ∧ RW K p H b i ∧ RW K p H w v ∧ setItem a b w h = some h' ∧ ∀ H', Xt K p H p H' → Sim nm K p h' H' → Q H'
theorem mut_dk {H : Hp} {a : Addr} {vs : List (Key × V)} (e : H a = some (.dK vs)) : Mut (H a) := by rw [e]; exact trivial
theorem set_tree (un : X.A.units + 70 < cLine) : PSet X (rSet nm X.K) := by
  rintro pins s σ H o i v ov iv u Q I ro ri rv ⟨p, h, a, b, w, h', si, ra, rb, rw', e, q⟩
  cases ra with
  | ref hr =>
    simp only [setItem] at e
    split at e
    · rename_i l e1
      cases rb with
      | int k =>
        simp only at e
        split at e
        · rename_i j e2
          cases e
          obtain ⟨vs, h1, ql⟩ := si.lst hr e1
          have x2 : Xt X.K p H p (upd H _ (.lst (vs.set j v))) := Xt.write (List.mem_of_getElem? hr) (mut_lst h1)
          refine set_list pins s σ H _ _ v ov iv u Q I ro ri rv ⟨_, vs, k, j, rfl, rfl, h1, by rw [← ql.length]; exact place_ix e2, ?_⟩
          exact q _ x2 (si.write hr (mut_lst h1) ⟨_, upd_same, (ql.to x2).set j (rw'.to x2)⟩)
        · cases e
      | _ => cases e
    · rename_i l e1
      split at e
      · rename_i hp
        cases e
        obtain ⟨a', e0, kvs, e2, rd⟩ := si.get e1
        rw [hr] at e0; cases e0
        obtain ⟨x, hx⟩ := keyV_plain hp.1
        have ei := keyV_kV hx rb
        have x2 : Xt X.K p H p (upd H _ (.dK (putK kvs x v))) := Xt.write (List.mem_of_getElem? hr) (mut_dk e2)
        refine set_dict (by omega) pins s σ H _ _ v ov iv u Q I ro ri rv ⟨_, _, rfl, .inl ⟨kvs, x, e2, ei, by rw [← rd.length, ← line_eq]; exact hp.2, rfl⟩, ?_⟩
        exact q _ x2 (si.write hr (mut_dk e2) ⟨_, upd_same, RD.put hx (rw'.to x2) (rd.mono x2.pre x2.kp)⟩)
      · cases e
    · cases e
  | _ => cases e
theorem tg_sub (un : X.A.units + 70 < cLine) {o i : Expr} {p : Pos} {eo ei : E} (ho : PE X o (tV nm X.K Ek (den C eo).v)) (hi : PE X i (tV nm X.K Ek (den C ei).v)) (ha : ∀ v, assign (.Subscript o i p) X.env v = (do
      let ov ← holding [v] (eval o X.env)
      let iv ← holding [v, ov] (eval i X.env)
      standAt p
      holding [v, ov, iv] (PySem.setItem ov iv v)
      release [v, ov, iv] [])) : PG X (.Subscript o i p) (tgA nm X.K Ek fun w s h => M2.asg C s (.sub eo ei) w h) := by
  refine PGi (pg_sub ho hi (set_tree (nm := nm) un) ha) ?_
  rintro v σ H Q ⟨p, s, h, w, si, er, r, ok⟩
  simp only [M2.asg] at ok
  refine ⟨p, s, h, si, er, ok.of fun a h1 p1 H1 x _ x1 s1 r1 ok1 => ⟨p1, s, h1, s1, er.mono x1, ok1.of fun b h2 p2 H2 y _ x2 s2 r2 ok2 => ?_⟩⟩
  cases e : setItem a b w h2 with
  | none => simp only [nxO, e] at ok2; exact ok2.elim
  | some h' =>
    simp only [nxO, e] at ok2
    exact ⟨p2, h2, a, b, w, h', s2, r1.to x2, r2, (r.to x1).to x2, e, fun H' x3 s3 => ok2 p2 H' σ x3 s3 (((er.mono x1).mono x2).mono x3)⟩
theorem pg_att {o : Expr} {x : Str} {p : Pos} {to : TE} (ho : PE X o to) :
    PG X (.Attribute o x p) (fun v σ H Q => to σ H fun y H1 => ∃ a C dx fs, y = .ref a ∧ H1 a = some (.ins C dx fs) ∧ Cls X.K C ∧ NoAttr X.K C x ∧ fs.length < 1000 ∧ Q σ (upd H1 a (.ins C dx (L2.putF x v fs)))) := by
  refine ⟨fun pins s σ H v u Q I r h => ?_⟩
  have ha : assign (.Attribute o x p) X.env u = (do
      let ov ← holding [u] (eval o X.env)
      standAt p.atName
      holding [u, ov] (setAttr ov x u)
      release [u, ov] []) := by rfl
  rw [ha]
  refine wpAny_bind (wpAny_holding (thn (ho.run pins s σ H _ I h) fun ov s1 ⟨y, H1, I1, r1, a, C, dx, fs, ey, ea, cl, na, hl, q1⟩ => ?_))
  subst ey
  obtain rfl : ov = Value.ref a := r1
  refine wpAny_bind (wpAny_standAt (wpAny_bind (wpAny_holding (setattr_ok I1 ea cl na hl r fun s3 I3 => ?_))))
  exact wpAny_release ⟨σ, _, I3, q1⟩
theorem mut_ins {H : Hp} {a C dx : Addr} {fs : List (Str × V)} (h : H a = some (.ins C dx fs)) : Mut (H a) := by rw [h]; exact True.intro
theorem tg_fld (g : GOk nm Ek c C X sc) {o : Expr} {x : Str} {p : Pos} {f : Nat} {eo : E} (ho : PE X o (tV nm X.K Ek (den C eo).v)) (hf : c.fld.lookup x = some f) : PG X (.Attribute o x p) (tgA nm X.K Ek fun w s h => M2.asg C s (.fld eo f) w h) := by
  have ef := g.cl.fld x f hf
  refine PGi (pg_att ho) ?_
  rintro v σ H Q ⟨p, s, h, w, si, er, r, ok⟩
  simp only [M2.asg] at ok
  refine ⟨p, s, h, si, er, ok.of fun a h1 p1 H1 y _ x1 s1 r1 ok1 => ?_⟩
  cases r1 with
  | ref hr =>
    simp only [setFld] at ok1
    split at ok1
    · rename_i k fs e
      by_cases hn : C.na k f = true ∧ fs.length < 1000
      · rw [if_pos hn] at ok1
        obtain ⟨a', e1, dx, vs, e2, rf⟩ := s1.get e
        rw [hr] at e1; cases e1
        obtain ⟨cl, na⟩ := g.cl.na k f hn.1
        have xw : Xt X.K p1 H1 p1 (upd H1 _ (.ins (nm.cls k) dx (L2.putF x v vs))) := Xt.write (List.mem_of_getElem? hr) (mut_ins e2)
        have put := RF.put g.cl.inj f (r.to x1) rf
        rw [ef] at na put
        exact ⟨_, _, dx, vs, rfl, e2, cl, na, by rw [← rf.length]; exact hn.2, ok1 p1 _ _ xw (s1.write hr (mut_ins e2) ⟨dx, _, upd_same, put.mono (List.prefix_refl _) xw.kp⟩) ((er.mono x1).mono xw)⟩
      · rw [if_neg hn] at ok1; exact ok1.elim
    · exact ok1.elim
  | _ => exact ok1.elim
/-! ### o.f += n -/
theorem s_faug (g : GOk nm Ek c C X sc) {o : Expr} {f : Str} {i k : Nat} {p2 pos p3 : Pos} {kk : Nat} {j : Int} (ho : PE X o (tV nm X.K Ek (varV i))) (hf : c.fld.lookup f = some k) :
    PS X (.AugAssign (.Attribute o f p2) .Add (.Constant (.int j) kk p3) pos) (tS nm X.K Ek (evS C (.asg (.fld (.var i) k) (.bin .iadd (.fld (.var i) k) (.int j))))) := by
  have ef := g.cl.fld f k hf
  have hc : PE X (.Constant (.int j) kk p3) (tV nm X.K Ek fun _ h => .ok (.int j) h) := e_con pe_int fun _ _ => .int _
  refine PSi (ps_fldaug ho hc in_add) ?_
  rintro D σ H ⟨p, s, h, si, er, ok⟩
  have key : evS C (.asg (.fld (.var i) k) (.bin .iadd (.fld (.var i) k) (.int j))) s h = RS.ofR (((varV i s h).then fun x h1 => getFld C.na x k h1).then fun y h2 => binop .iadd y (.int j) h2) s fun w h3 => RS.ofR (varV i s h3) s fun x h4 => nxO s (setFld C.na x k w h4) := by
    rw [evS]
    simp only [evE, M2.asg, den, mkV]
    rfl
  rw [key] at ok
  have hvar : (∃ y, ∀ h, varV i s h = .ok y h) ∨ ∀ h, varV i s h = .bad := by
    unfold varV
    cases e : s[i]? with
    | none => exact .inr fun _ => rfl
    | some q =>
      cases q with
      | none => exact .inr fun _ => rfl
      | some y => exact .inl ⟨y, fun _ => rfl⟩
  rcases hvar with ⟨y, hy⟩ | hb
  · rw [hy h] at ok
    refine ⟨p, s, h, si, er, ?_⟩
    rw [hy h]
    intro p1 H1 v x1 s1 r1
    have ok := OkS.from x1 ok
    cases r1 with
    | @ref r a hr =>
      simp only [M2.R.then, getFld] at ok
      cases e : h[r]? with
      | none => rw [e] at ok; exact ok.elim
      | some ob =>
        rw [e] at ok
        cases ob with
        | ins kc fs =>
          simp only at ok
          by_cases hn : C.na kc k = true
          · rw [if_pos hn] at ok
            cases eg : getF k fs with
            | none => rw [eg] at ok; exact ok.elim
            | some w =>
              rw [eg] at ok
              cases w with
              | int q =>
                simp only [binop, RS.ofR, hy, setFld, e] at ok
                by_cases hz : C.na kc k = true ∧ fs.length < 1000
                · rw [if_pos hz] at ok
                  obtain ⟨a', e1, dx, vs, e2, rf⟩ := s1.get e
                  rw [hr] at e1; cases e1
                  obtain ⟨cl, na⟩ := g.cl.na kc k hn
                  obtain ⟨v', lk, rv⟩ := RF.get g.cl.inj rf eg
                  cases rv
                  rw [ef] at na lk
                  refine ⟨_, _, dx, vs, .int q, rfl, e2, cl, na, lk, p1, s, h, s1, er.mono x1, ?_⟩
                  intro p2 H2 y2 x2 s2 r2
                  cases r2
                  obtain ⟨a2, e3, dx2, vs2, e4, rf2⟩ := s2.get e
                  have hr2 : p2[r]? = some a := by
                    obtain ⟨t, ht⟩ := x2.pre
                    rw [← ht, List.getElem?_append_left (List.getElem?_eq_some_iff.mp hr).1]
                    exact hr
                  rw [hr2] at e3
                  cases e3
                  refine ⟨q, j, rfl, rfl, dx2, vs2, e4, by rw [← rf2.length]; exact hz.2, ?_⟩
                  have xw : Xt X.K p2 H2 p2 (upd H2 _ (.ins (nm.cls kc) dx2 (L2.putF f (.int (q + j)) vs2))) := Xt.write (List.mem_of_getElem? hr2) (mut_ins e4)
                  have put := RF.put (w := .int (q + j)) (v := .int (q + j)) g.cl.inj k (.int _) rf2
                  rw [ef] at put
                  exact ok p2 _ σ (x2.trans xw) (s2.write hr2 (mut_ins e4) ⟨dx2, _, upd_same, put.mono (List.prefix_refl _) xw.kp⟩) (((er.mono x1).mono x2).mono xw)
                · rw [if_neg hz] at ok; exact ok.elim
              | _ => exact ok.elim
          · rw [if_neg hn] at ok; exact ok.elim
        | _ => exact ok.elim
    | _ => exact ok.elim
  · rw [hb h] at ok
    exact ok.elim
end
end M2

namespace M2
open PySem PySem.Spec PyProof.Rows L2
section
variable {nm : Nm} {X : L2.Cx} {Ek : XK} {c : CS} {C : Ctx} {sc : Scope}
/-! ### small statements -/
theorem s_exp {e : Expr} {pos : Pos} {d : DV} (he : PE X e (tV nm X.K Ek d)) (hs : swapsWith e none pos.line X.env = pure false) : PS X (.Expr e pos) (tS nm X.K Ek fun s h => RS.ofR (d s h) s fun _ h1 => .nx s h1) := by
  refine PSi (ps_expr he hs) ?_
  rintro D σ H ⟨p, s, h, si, er, ok⟩
  exact ⟨p, s, h, si, er, ok.of fun w h1 p1 H1 v _ x1 s1 r1 ok1 => ok1 p1 H1 σ Xt.refl s1 (er.mono x1)⟩
theorem s_ret {e : Expr} {pos : Pos} {d : DV} (he : PE X e (tV nm X.K Ek d)) : PS X (.Return (some e) pos) (tS nm X.K Ek fun s h => RS.ofR (d s h) s fun w h1 => .rt w h1) := by
  refine PSi (ps_ret he) ?_
  rintro D σ H ⟨p, s, h, si, er, ok⟩
  exact ⟨p, s, h, si, er, ok.of fun w h1 p1 H1 v _ x1 s1 r1 ok1 => ok1 p1 H1 v Xt.refl s1 r1⟩
theorem s_retN {pos : Pos} : PS X (.Return none pos) (tS nm X.K Ek fun s h => .rt .non h) := by
  refine PSi ps_retN ?_
  rintro D σ H ⟨p, s, h, si, er, ok⟩
  exact ok p H .non Xt.refl si .non
theorem s_if {e : Expr} {a b : List Stmt} {pos : Pos} {d : DT} {fa fb : M2.Env → Hm → RS} (he : PT X e (M2.tB nm X.K Ek d)) (ha : PSs X a (tS nm X.K Ek fa)) (hb : PSs X b (tS nm X.K Ek fb)) :
    PS X (.If e a b pos) (tS nm X.K Ek fun s h => RS.ofR (d s h) s fun q h1 => match q with
      | true => fa s h1
      | false => fb s h1) := by
  refine PSi (ps_if he ha hb) ?_
  rintro D σ H ⟨p, s, h, si, er, ok⟩
  refine ⟨p, s, h, si, er, ok.of fun q h1 p1 H1 q' _ x1 s1 r1 ok1 => ?_⟩
  cases (show q = q' from r1)
  cases q with
  | true => rw [if_pos rfl]; exact ⟨p1, s, h1, s1, er.mono x1, ok1⟩
  | false => rw [if_neg Bool.false_ne_true]; exact ⟨p1, s, h1, s1, er.mono x1, ok1⟩
theorem ss_nil : PSs X [] (tS nm X.K Ek fun s h => .nx s h) := by
  refine PSsi pss_nil ?_
  rintro D σ H ⟨p, s, h, si, er, ok⟩
  exact ok p H σ Xt.refl si er
theorem ss_cons {st : Stmt} {rest : List Stmt} {f k : M2.Env → Hm → RS} (h1 : PS X st (tS nm X.K Ek f)) (h2 : PSs X rest (tS nm X.K Ek k)) : PSs X (st :: rest) (tS nm X.K Ek fun s h => (f s h).seq k) := by
  refine PSsi (pss_cons h1 h2) ?_
  rintro D σ H ⟨p, s, h, si, er, ok⟩
  exact ⟨p, s, h, si, er, ok.seq (fun s1 h1 p1 H1 σ1 x1 sm er1 ok1 => ⟨p1, s1, h1, sm, er1, ok1⟩) rfl rfl rfl⟩
theorem sw_par {env : PySem.Env} {x y : Str} {px py pt pt2 : Pos} {kt k2 : Nat} {a b : Expr} (hk : env.scope.kind = .function) (hX : env.scope.names.lookup x = some .local) (hY : env.scope.names.lookup y = some .local) (hl : (px.line == py.line) = true) (hne : ¬ x = y) (na : notStar a = true) (nb : notStar b = true)
    (nf : ([a, b].all (foldedForSure 8)) = false) (nc : ([a, b].all (constantsAlone 8)) = false) : swappedStores [.Tuple [.Name x px, .Name y py] kt pt] (.Tuple [a, b] k2 pt2) env = pure (some [x, y]) := by
  have hb : env.blockKind = .function := by unfold Env.blockKind; rw [hk]; rfl
  have kx : env.kindOf x = some .local := hX
  have ky : env.kindOf y = some .local := hY
  have key : ∀ e : Expr, notStar e = true → (match e with | .Starred .. => true | _ => false) = false := fun e h => by
    cases e <;> first
      | rfl
      | (simp [notStar] at h)
  have st : ([a, b].any fun | .Starred .. => true | _ => false) = false := by
    rw [List.any_cons, List.any_cons, List.any_nil, key a na, key b nb]; rfl
  have dd : ([x, y].eraseDups.length != [x, y].length) = false := by
    have : [x, y].eraseDups = [x, y] := by simp [List.eraseDups_cons, hne, Ne.symm hne]
    rw [this]; simp
  have h2 : (py.line == px.line) = true := by simpa using (by simpa using hl : px.line = py.line).symm
  unfold swappedStores
  simp only [hb, List.filterMap_cons, List.filterMap_nil, kx, ky, List.head?_cons, Option.map_some, Option.getD_some, Expr.pos, beq_self_eq_true, Bool.and_self, if_true, h2, nf, nc, List.length_cons, List.length_nil, st]
  have dd' : (0 + 1 + 1 != 0 + 1 + 1 || [x, y].eraseDups.length != 0 + 1 + 1) = false := dd
  rw [if_neg (by decide)]
  refine Eq.trans (if_neg fun z => Bool.false_ne_true (st.symm.trans z)) ?_
  rw [dd', if_neg Bool.false_ne_true, if_neg Bool.false_ne_true, if_neg Bool.false_ne_true]
theorem s_par (g : SOk nm Ek c C X sc) {x y : Str} {px py pt pt2 pos : Pos} {kt k2 : Nat} {a b : Expr} {i j : Nat} {da db : DV} (hp : parOk sc x px y py a b = true) (hi : ixOf x c.N = some i) (hj : ixOf y c.N = some j) (ha : PE X a (tV nm X.K Ek da)) (hb : PE X b (tV nm X.K Ek db)) :
    PS X (.Assign [.Tuple [.Name x px, .Name y py] kt pt] (.Tuple [a, b] k2 pt2) pos) (tS nm X.K Ek fun s h => RS.ofR ((da s h).then fun v h1 => (db s h1).then fun w h2 => .ok [v, w] h2) s fun ws h1 => nxE h1 (setAll [i, j] ws s)) := by
  unfold parOk at hp
  simp only [Bool.and_eq_true, decide_eq_true_eq, Bool.not_eq_true', beq_eq_false_iff_ne] at hp
  obtain ⟨⟨⟨⟨⟨⟨⟨hx, hy⟩, hl⟩, hne⟩, na⟩, nb⟩, nf⟩, nc⟩ := hp
  have hij : i ≠ j := fun e => by
    subst e
    have h1 := ixOf_get hi
    rw [ixOf_get hj] at h1
    exact hne (Option.some.inj h1).symm
  have hX : X.env.scope.names.lookup x = some .local := by rw [g.scope]; exact hx
  have hY : X.env.scope.names.lookup y = some .local := by rw [g.scope]; exact hy
  have hw : swappedStores [.Tuple [.Name x px, .Name y py] kt pt] (.Tuple [a, b] k2 pt2) X.env = pure (some [x, y]) := sw_par g.kind hX hY (by simpa using hl) hne na nb nf nc
  refine PSi (ps_par g.g.calm g.g.nd (by rw [g.g.N]; exact ixOf_get hi) (by rw [g.g.N]; exact ixOf_get hj) hij hX hY (pa_cons ha (pa_cons hb pa_nil (star1 nb [] _)) (star1 na [b] _)) hw rfl) ?_
  rintro D σ H ⟨p, s, h, si, er, ok⟩
  have ok := ok.of (G := fun p H (w : List W) (v : List V) => RWs X.K p H w v) (Q' := fun vs H1 => ∃ v w, vs = [v, w] ∧ D.nx ((σ.set i (some v)).set j (some w)) H1) fun ws h1 p1 H1 vs e x1 s1 r1 ok1 => by
    obtain ⟨w1, h2, e1, e2⟩ := then_ok e
    obtain ⟨w2, h3, e3, e4⟩ := then_ok e2
    cases e4
    obtain ⟨v1, v2, rfl, q1, q2⟩ := RWs.two r1
    exact ⟨v1, v2, rfl, ok1 p1 H1 _ Xt.refl s1 (((er.mono x1).set q1 i).set q2 j)⟩
  refine ⟨p, s, h, si, er, ok.then fun w h1 p1 H1 v _ x1 s1 r1 ok1 => ⟨p1, s, h1, s1, er.mono x1, ok1.then fun w2 h2 p2 H2 v2 _ x2 s2 r2 ok2 => ?_⟩⟩
  exact ok2 p2 H2 [v, v2] Xt.refl s2 (.cons (r1.to x2) (.cons r2 .nil))
/-! ### loops -/
theorem for_loop {σ : Sg} {s : M2.Env} {p1 : List Addr} {h1 : Hm} {H1 : Hp} {q : Src} {J : L2.It} {k : Bool} {t : List Nat} {b : M2.Env → Hm → RS} {D : Ends}
    (hun : q.un = none) (si : Sim nm X.K p1 h1 H1) (er : Er X.K p1 H1 s σ) (wk : Wk nm X.K p1 H1 q J) (ok : OkS nm X.K Ek p1 H1 (forRun (forTurn k t b) s q h1) D) :
    ∃ W : Nat → Nat → Sg → Hp → Prop, (∃ m, W 0 m σ H1) ∧ ∀ i m σ H, W i m σ H →
      (J.stop i H ∧ D.nx σ H) ∨ (J.go i H ∧ ∃ N : Sg → Hp → Prop, (∀ σ' H', N σ' H' → ∃ m', m' < m ∧ W (i + 1) m' σ' H') ∧ ∀ x H', J.yld i H x H' → gK X.K k t x σ H' fun σ2 H2 => tS nm X.K Ek b { D with nx := N, ct := N, bk := D.nx } σ2 H2) := by
  have e0 : forRun (forTurn k t b) s q h1 = forEnd none (forGo (forTurn k t b) q.gs q.its s h1) := by unfold forRun; rw [hun]
  rw [e0] at ok
  let Pv : Nat → Sg → Hp → Prop := fun i σ H => ∃ p' h' s', Xt X.K p1 H1 p' H ∧ Sim nm X.K p' h' H ∧ Er X.K p' H s' σ ∧ OkS nm X.K Ek p1 H1 (forEnd none (forGo (forTurn k t b) q.gs (q.its.drop i) s' h')) D
  refine ⟨fun i m σ H => m = q.its.length - i ∧ i ≤ q.its.length ∧ Pv i σ H, ⟨q.its.length, by simp, Nat.zero_le _, p1, h1, s, Xt.refl, si, er, ok⟩, ?_⟩
  rintro i m σ H ⟨rfl, hi, p', h', s', x, sm, er, ok⟩
  by_cases hlt : i < q.its.length
  · have hdr : q.its.drop i = q.its[i] :: q.its.drop (i + 1) := List.drop_eq_getElem_cons hlt
    rw [hdr] at ok
    simp only [forGo] at ok
    cases hg : okG q.gs h' with
    | false => rw [hg] at ok; exact ok.elim
    | true =>
      rw [hg, if_pos rfl] at ok
      refine .inr ⟨wk.go i p' H h' x sm hg hlt, Pv (i + 1), fun σ' H' p => ⟨q.its.length - (i + 1), by omega, rfl, hlt, p⟩, fun y H' yl => ?_⟩
      obtain ⟨x2, s2, r2⟩ := wk.yld i p' H h' y H' q.its[i] x sm hg (List.getElem?_eq_getElem hlt) yl
      unfold forTurn at ok
      cases hs : setT k t q.its[i] s' with
      | none => rw [hs] at ok; exact ok.elim
      | some s3 =>
        rw [hs] at ok
        simp only at ok
        have er0 : ErX X.K p' H' (fun _ => False) s' σ := ⟨er.len, fun i w _ q => (er.mono x2).at_ i w q⟩
        refine gK_ok r2 hs er0 fun τ et _ => ⟨p', s3, h', s2, et.er fun i z => z.1, ?_⟩
        have xx := x.trans x2
        cases hb : b s3 h' with
        | nx s4 h4 =>
          rw [hb] at ok
          exact fun p4 H4 σ4 x4 sm4 er4 => ⟨p4, h4, s4, xx.trans x4, sm4, er4, ok⟩
        | ct s4 h4 =>
          rw [hb] at ok
          exact fun p4 H4 σ4 x4 sm4 er4 => ⟨p4, h4, s4, xx.trans x4, sm4, er4, ok⟩
        | bk s4 h4 =>
          rw [hb] at ok
          exact fun p4 H4 σ4 x4 sm4 er4 => ok p4 H4 σ4 (xx.trans x4) sm4 er4
        | rt w h4 =>
          rw [hb] at ok
          exact fun p4 H4 v x4 sm4 r4 => ok p4 H4 v (xx.trans x4) sm4 r4
        | exc c ws h4 s4 =>
          rw [hb] at ok
          exact fun p4 H4 d x4 sm4 r4 => ok p4 H4 d (xx.trans x4) sm4 r4
        | bad => rw [hb] at ok; exact ok.elim
  · have e : i = q.its.length := by omega
    subst e
    rw [List.drop_length] at ok
    simp only [forGo] at ok
    cases hg : okG q.gs h' with
    | false => rw [hg] at ok; exact ok.elim
    | true =>
      rw [hg, if_pos rfl] at ok
      exact .inl ⟨wk.stop _ p' H h' x sm hg (Nat.le_refl _), ok p' H σ x sm er⟩
theorem s_for (g : SOk nm Ek c C X sc) {tg iter : Expr} {body : List Stmt} {pos : Pos} {k : Bool} {t : List Nat} {it : M2.It} {da db : DV} {b : M2.Env → Hm → RS} (hl : locTgt sc tg = true) (htg : tgtOf c tg = some (k, t))
    (hi : PI X tg iter (tI nm X.K Ek it da db)) (hs : ∀ x, foldedSetIterable iter X.env x = pure x) (hb : PSs X body (tS nm X.K Ek b)) :
    PS X (.For tg iter body [] pos) (tS nm X.K Ek fun s h => RS.ofR (da s h) s fun x h1 => RS.ofR (db s h1) s fun y h2 => RS.ofR (srcV it x y h2) s (forRun (forTurn k t b) s)) := by
  refine PSi (ps_for g.own g.g.calm hi (tgt_ok g.g hl htg) hb hs) ?_
  rintro D σ H ⟨p, s, h, si, er, ok⟩
  have ok : OkS nm X.K Ek p H (RS.ofR ((da s h).then fun x h1 => (db s h1).then fun y h2 => srcV it x y h2) s (forRun (forTurn k t b) s)) D := by
    have e : RS.ofR ((da s h).then fun x h1 => (db s h1).then fun y h2 => srcV it x y h2) s (forRun (forTurn k t b) s) = RS.ofR (da s h) s fun x h1 => RS.ofR (db s h1) s fun y h2 => RS.ofR (srcV it x y h2) s (forRun (forTurn k t b) s) := by
      cases da s h with
      | ok x h1 =>
        show RS.ofR ((db s h1).then _) s _ = RS.ofR (db s h1) s _
        cases db s h1 <;> rfl
      | _ => rfl
    rw [e]; exact ok
  refine ⟨p, s, h, si, er, ok.of fun q h1 p1 H1 J e x1 s1 wk ok1 => ?_⟩
  obtain ⟨_, _, _, e1⟩ := then_ok e
  obtain ⟨_, _, _, e2⟩ := then_ok e1
  exact for_loop (srcV_un e2).1 s1 (er.mono x1) wk ok1
theorem s_whl (g : SOk nm Ek c C X sc) {e : Expr} {body : List Stmt} {pos : Pos} {d : DT} {b : M2.Env → Hm → RS} {n : Nat} (he : PT X e (M2.tB nm X.K Ek d)) (hb : PSs X body (tS nm X.K Ek b)) :
    PS X (.While e body [] pos) (tS nm X.K Ek fun s h => whlGo d b n s h) := by
  refine PSi (ps_while g.own he hb) ?_
  rintro D σ H ⟨p, s, h, si, er, ok⟩
  refine ⟨fun m σ' H' => ∃ p' h' s', Xt X.K p H p' H' ∧ Sim nm X.K p' h' H' ∧ Er X.K p' H' s' σ' ∧ OkS nm X.K Ek p H (whlGo d b m s' h') D, ⟨n, p, h, s, Xt.refl, si, er, ok⟩, ?_⟩
  rintro m σ' H' ⟨p', h', s', x, sm, er', ok⟩
  cases m with
  | zero => exact ok.elim
  | succ m =>
    simp only [whlGo] at ok
    refine ⟨p', s', h', sm, er', ?_⟩
    cases hd : d s' h' with
    | bad => rw [hd] at ok; exact ok.elim
    | exc c ws h3 =>
      rw [hd] at ok
      exact fun p4 H4 d4 x4 sm4 r4 => ok p4 H4 d4 (x.trans x4) sm4 r4
    | ok q h3 =>
      rw [hd] at ok
      intro p3 H3 q' x3 s3 eq
      cases (show q = q' from eq)
      cases q with
      | false =>
        rw [if_neg Bool.false_ne_true]
        exact ok p3 H3 σ' (x.trans x3) s3 (er'.mono x3)
      | true =>
        rw [if_pos rfl]
        simp only at ok
        refine ⟨fun σ4 H4 => ∃ p' h' s', Xt X.K p H p' H4 ∧ Sim nm X.K p' h' H4 ∧ Er X.K p' H4 s' σ4 ∧ OkS nm X.K Ek p H (whlGo d b m s' h') D, fun σ4 H4 z => ⟨m, Nat.lt_succ_self _, z⟩, p3, s', h3, s3, er'.mono x3, ?_⟩
        have xx := x.trans x3
        cases hb2 : b s' h3 with
        | nx s4 h4 =>
          rw [hb2] at ok
          exact fun p4 H4 σ4 x4 sm4 er4 => ⟨p4, h4, s4, xx.trans x4, sm4, er4, ok⟩
        | ct s4 h4 =>
          rw [hb2] at ok
          exact fun p4 H4 σ4 x4 sm4 er4 => ⟨p4, h4, s4, xx.trans x4, sm4, er4, ok⟩
        | bk s4 h4 =>
          rw [hb2] at ok
          exact fun p4 H4 σ4 x4 sm4 er4 => ok p4 H4 σ4 (xx.trans x4) sm4 er4
        | rt w h4 =>
          rw [hb2] at ok
          exact fun p4 H4 v x4 sm4 r4 => ok p4 H4 v (xx.trans x4) sm4 r4
        | exc c ws h4 s4 =>
          rw [hb2] at ok
          exact fun p4 H4 d x4 sm4 r4 => ok p4 H4 d (xx.trans x4) sm4 r4
        | bad => rw [hb2] at ok; exact ok.elim
end
end M2

namespace M2
open PySem PySem.Spec PyProof.Rows L2
section
variable {nm : Nm} {X : L2.Cx} {Ek : XK} {c : CS} {C : Ctx} {sc : Scope}
theorem noswap {e : Expr} (h : isComp e = false) (t : Option Expr) (l : Nat) (env : PySem.Env) : swapsWith e t l env = pure false := by
  cases e <;> first
    | rfl
    | (simp [isComp] at h)
theorem pair_of {t v : Expr} {x y : Str} {px py : Pos} {a b : Expr} (h : pairOf t v = some (x, px, y, py, a, b)) : ∃ k p k2 p2, t = .Tuple [.Name x px, .Name y py] k p ∧ v = .Tuple [a, b] k2 p2 := by
  unfold pairOf at h
  split at h
  · cases h; exact ⟨_, _, _, _, rfl, rfl⟩
  · cases h
theorem nosw {t v : Expr} (h : noPair t v = true) (ht : (∃ x p, t = .Name x p) ∨ (∃ es k p, t = .Tuple es k p) ∨ (∃ o i p, t = .Subscript o i p) ∨ ∃ o x p, t = .Attribute o x p) (env : PySem.Env) : swappedStores [t] v env = pure none := by
  rcases ht with ⟨x, p, rfl⟩ | ⟨es, k, p, rfl⟩ | ⟨o, i, p, rfl⟩ | ⟨o, i, p, rfl⟩
  · rfl
  · cases v <;> first
      | rfl
      | (simp [noPair] at h)
  · rfl
  · rfl
theorem cT_ok (g : GOk nm Ek c C X sc) {n : Nat} {t : Expr} {d : T} (h : cT c (cE c n false sc) sc t = some d) :
    PG X t (tgA nm X.K Ek fun w s h => M2.asg C s d w h) ∧ ((∃ x p, t = .Name x p) ∨ (∃ es k p, t = .Tuple es k p) ∨ (∃ o i p, t = .Subscript o i p) ∨ ∃ o x p, t = .Attribute o x p) := by
  cases t with
  | Name x p =>
    simp only [cT] at h
    split at h
    · rename_i hl
      obtain ⟨i, h1, rfl⟩ := map_some h
      exact ⟨tg_var g hl h1, .inl ⟨x, p, rfl⟩⟩
    · cases h
  | Tuple es k p =>
    simp only [cT] at h
    split at h
    · rename_i hl
      obtain ⟨ts, h1, rfl⟩ := map_some h
      exact ⟨tg_tup g hl h1, .inr (.inl ⟨es, k, p, rfl⟩)⟩
    · cases h
  | Subscript o i p =>
    refine ⟨?_, .inr (.inr (.inl ⟨o, i, p, rfl⟩))⟩
    cases i with
    | Slice => simp only [cT] at h; cases h
    | _ =>
      simp only [cT] at h
      obtain ⟨x, y, h1, h2, rfl⟩ := opt2_some h
      exact tg_sub g.un (cE_ok n g h1).v (cE_ok n g h2).v (fun _ => rfl)
  | Attribute o x p =>
    simp only [cT] at h
    split at h
    · rename_i k hk
      obtain ⟨y, h1, rfl⟩ := map_some h
      exact ⟨tg_fld g (cE_ok n g h1).v hk, .inr (.inr (.inr ⟨o, x, p, rfl⟩))⟩
    · cases h
  | _ => simp only [cT] at h; cases h
theorem asg_ends (d : T) (w : W) (s : M2.Env) (h : Hm) : (∃ s' h', M2.asg C s d w h = .nx s' h') ∨ M2.asg C s d w h = .bad ∨ ∃ c ws h' s', M2.asg C s d w h = .exc c ws h' s' := by
  have key : ∀ {A : Type} (r : M2.R A) (k : A → Hm → RS), (∀ a h, (∃ s' h', k a h = .nx s' h') ∨ k a h = .bad ∨ ∃ c ws h' s', k a h = .exc c ws h' s') → (∃ s' h', RS.ofR r s k = .nx s' h') ∨ RS.ofR r s k = .bad ∨ ∃ c ws h' s', RS.ofR r s k = .exc c ws h' s' := fun r k hk => by
    cases r with
    | ok a h => exact hk a h
    | exc c ws h => exact .inr (.inr ⟨_, _, _, _, rfl⟩)
    | bad => exact .inr (.inl rfl)
  cases d with
  | var i => exact .inl ⟨_, _, rfl⟩
  | tup ts =>
    simp only [M2.asg]
    cases setU ts w s h with
    | none => exact .inr (.inl rfl)
    | some s' => exact .inl ⟨_, _, rfl⟩
  | sub o i =>
    refine key _ _ fun x h1 => key _ _ fun y h2 => ?_
    cases setItem x y w h2 with
    | none => exact .inr (.inl rfl)
    | some h' => exact .inl ⟨_, _, rfl⟩
  | fld o f =>
    refine key _ _ fun x h1 => ?_
    cases setFld C.na x f w h1 with
    | none => exact .inr (.inl rfl)
    | some h' => exact .inl ⟨_, _, rfl⟩
theorem ss_all {f : Stmt → Option S} (hf : ∀ st s, f st = some s → PS X st (tS nm X.K Ek (evS C s))) : ∀ {b : List Stmt} {bs : List S}, allO f b = some bs → PSs X b (tS nm X.K Ek (evSs C bs))
  | [], _, h => by
    cases h
    have : evSs C [] = fun s h => RS.nx s h := by funext s h; rw [evSs]
    rw [this]
    exact ss_nil
  | st :: b, bs, h => by
    simp only [allO] at h
    split at h
    · rename_i s h1
      split at h
      · rename_i r h2
        cases h
        have : evSs C (s :: r) = fun e h => (evS C s e h).seq (evSs C r) := by funext e h; rw [evSs]
        rw [this]
        exact ss_cons (hf st s h1) (ss_all hf h2)
      · cases h
    · cases h
theorem cS_ok (g : SOk nm Ek c C X sc) : ∀ (n : Nat) {st : Stmt} {s : S}, cS c n sc st = some s → PS X st (tS nm X.K Ek (evS C s))
  | 0, _, _, h => by cases h
  | n + 1, st, s, h => by
    have ih : ∀ {st s}, cS c n sc st = some s → PS X st (tS nm X.K Ek (evS C s)) := fun h => cS_ok g n h
    have ihL : ∀ {b bs}, allO (cS c n sc) b = some bs → PSs X b (tS nm X.K Ek (evSs C bs)) := fun h => ss_all (fun _ _ => ih) h
    have ie : ∀ {nb e d}, cE c n nb sc e = some d → EOk nm Ek X e (den C d) := fun h => cE_ok n g.g h
    cases st with
    | Assign ts v p =>
      cases ts with
      | nil => simp only [cS] at h; cases h
      | cons t ts =>
        cases ts with
        | cons _ _ => simp only [cS] at h; cases h
        | nil =>
          simp only [cS] at h
          split at h
          · rename_i x px y py a b hp
            obtain ⟨k, q, k2, q2, rfl, rfl⟩ := pair_of hp
            split at h
            · rename_i hk
              split at h
              · rename_i i j da db h1 h2 h3 h4
                cases h
                have : evS C (.par [i, j] [da, db]) = fun s h => RS.ofR (((den C da).v s h).then fun v h1 => ((den C db).v s h1).then fun w h2 => .ok [v, w] h2) s fun ws h1 => nxE h1 (setAll [i, j] ws s) := by
                  funext s h
                  rw [evS]
                  congr 1
                  simp only [evEs, denL, then_assoc]
                  rfl
                rw [this]
                exact s_par g hk h1 h2 (ie h3).v (ie h4).v
              · cases h
            · cases h
          · split at h
            · rename_i hk
              obtain ⟨d, e, h1, h2, rfl⟩ := opt2_some h
              have ev : evS C (.asg d e) = fun s h => RS.ofR ((den C e).v s h) s fun w h1 => M2.asg C s d w h1 := by funext s h; rw [evS]; rfl
              rw [ev]
              obtain ⟨pg, sh⟩ := cT_ok g.g h1
              have plain : swapsWith v (some t) p.line X.env = pure false → PS X (.Assign [t] v p) (tS nm X.K Ek fun s h => RS.ofR ((den C e).v s h) s fun w h1 => M2.asg C s d w h1) := fun hs => by
                refine s_asg (st := fun w s h => M2.asg C s d w h) (ie h2).v pg (fun w s h => asg_ends d w s h) hs (nosw hk.2 sh _) ?_
                rcases sh with ⟨x, p, rfl⟩ | ⟨es, k, p, rfl⟩ | ⟨o, i, p, rfl⟩ | ⟨o, i, p, rfl⟩ <;> rfl
              rcases hk.1 with hc | hc
              · exact plain (noswap hc _ _ _)
              · cases v with
                | ListComp elt gs scope vp =>
                  rcases sh with ⟨x, px, rfl⟩ | ⟨es, k, px, rfl⟩ | ⟨o, i, px, rfl⟩ | ⟨o, i, px, rfl⟩
                  · have hsw : swapsWith (.ListComp elt gs scope vp) (some (.Name x px)) p.line X.env = pure (X.env.blockKind == .function && X.env.kindOf x == some .local && px.line == vp.line && !(scope.names.any fun (n, k) => n == x && (k == .local || k == .cell))) := rfl
                    cases hb : (X.env.blockKind == .function && X.env.kindOf x == some .local && px.line == vp.line && !(scope.names.any fun (n, k) => n == x && (k == .local || k == .cell))) with
                    | false => rw [hb] at hsw; exact plain hsw
                    | true =>
                      rw [hb] at hsw
                      simp only [Bool.and_eq_true] at hb
                      have hy : X.env.scope.names.lookup x = some .local := by
                        have h3 : X.env.kindOf x = some .local := by simpa using hb.1.1.2
                        exact h3
                      simp only [cT] at h1
                      split at h1
                      · obtain ⟨i, hi, rfl⟩ := map_some h1
                        cases n with
                        | zero => cases h2
                        | succ n =>
                          obtain ⟨tg, iter, ifs, k, t, it, a, b, xx, yy, rfl, rfl, P⟩ := lc_parts (fun {_ _ _} g {_ _ _} h => cE_ok n g h) g.g h2
                          unfold wrapN
                          split
                          · refine PSi (s_lc g.g P hi hy hsw) ?_
                            rintro D σ H ⟨q, s, h, si, er, ok⟩
                            refine lc_impN (nm := nm) (Ek := Ek) P.o1 P.o2 σ H _ ⟨q, s, h, si, er, ?_⟩
                            rw [den] at ok
                            have ok : OkS nm X.K Ek q H (RS.ofR (((den C (.lc ((ownOf c scope).map (·.2)) k t xx it a b yy)).v s h).then thaw) s fun w h1 => M2.asg C s (.var i) w h1) D := ok
                            rw [den] at ok
                            simp only [mkL, thaw_kl] at ok
                            exact ok.of fun w h1 p1 H1 v _ x1 s1 r1 ok1 => ok1 p1 H1 _ Xt.refl s1 ((er.mono x1).set r1 i)
                          · refine PSi (ps_frz (s_lc g.g P hi hy hsw)) ?_
                            rintro D σ H ⟨q, s, h, si, er, ok⟩
                            refine lc_imp (nm := nm) (Ek := Ek) P.o1 P.o2 σ H (fun v H' => D.nx (σ.set i (some v)) H') ⟨q, s, h, si, er, ?_⟩
                            rw [den] at ok
                            exact ok.of fun w h1 p1 H1 v _ x1 s1 r1 ok1 => ok1 p1 H1 _ Xt.refl s1 ((er.mono x1).set r1 i)
                      · cases h1
                  · exact plain rfl
                  · exact plain rfl
                  · exact plain rfl
                | DictComp key val gs scope vp =>
                  rcases sh with ⟨x, px, rfl⟩ | ⟨es, k, px, rfl⟩ | ⟨o, i, px, rfl⟩ | ⟨o, i, px, rfl⟩
                  · have hsw : swapsWith (.DictComp key val gs scope vp) (some (.Name x px)) p.line X.env = pure (X.env.blockKind == .function && X.env.kindOf x == some .local && px.line == vp.line && !(scope.names.any fun (n, k) => n == x && (k == .local || k == .cell))) := rfl
                    cases hb : (X.env.blockKind == .function && X.env.kindOf x == some .local && px.line == vp.line && !(scope.names.any fun (n, k) => n == x && (k == .local || k == .cell))) with
                    | false => rw [hb] at hsw; exact plain hsw
                    | true =>
                      rw [hb] at hsw
                      simp only [Bool.and_eq_true] at hb
                      have hy : X.env.scope.names.lookup x = some .local := by
                        have h3 : X.env.kindOf x = some .local := by simpa using hb.1.1.2
                        exact h3
                      simp only [cT] at h1
                      split at h1
                      · obtain ⟨i, hi, rfl⟩ := map_some h1
                        cases n with
                        | zero => cases h2
                        | succ n =>
                          obtain ⟨tg, iter, ifs, k, t, it, a, b, xx, zz, yy, rfl, rfl, P⟩ := dc_parts (fun {_ _ _} g {_ _ _} h => cE_ok n g h) g.g h2
                          refine PSi (s_dc g.g P hi hy hsw) ?_
                          rintro D σ H ⟨q, s, h, si, er, ok⟩
                          refine ⟨q, s, h, si, er, ?_⟩
                          rw [den_dc] at ok
                          exact ok.of fun w h1 p1 H1 v _ x1 s1 r1 ok1 => ok1 p1 H1 _ Xt.refl s1 ((er.mono x1).set r1 i)
                      · cases h1
                  · exact plain rfl
                  · exact plain rfl
                  · exact plain rfl
                | _ => simp [isLc] at hc
            · cases h
    | Expr e p =>
      simp only [cS] at h
      split at h
      · rename_i hk
        obtain ⟨d, h1, rfl⟩ := map_some h
        have : evS C (.exp d) = fun s h => RS.ofR ((den C d).v s h) s fun _ h1 => .nx s h1 := by funext s h; rw [evS]; rfl
        rw [this]
        exact s_exp (ie h1).v (noswap hk _ _ _)
      · cases h
    | Return e p =>
      cases e with
      | none =>
        simp only [cS] at h
        cases h
        have : evS C (.ret .non) = fun s h => RS.rt .non h := by funext s h; rw [evS]; simp only [evE, den]; rfl
        rw [this]
        exact s_retN
      | some e =>
        simp only [cS] at h
        obtain ⟨d, h1, rfl⟩ := map_some h
        have : evS C (.ret d) = fun s h => RS.ofR ((den C d).v s h) s fun w h1 => .rt w h1 := by funext s h; rw [evS]; rfl
        rw [this]
        exact s_ret (ie h1).v
    | If t a b p =>
      simp only [cS] at h
      split at h
      · rename_i hp
        split at h
        · rename_i d x y h1 h2 h3
          cases h
          have : evS C (.ite d x y) = fun s h => RS.ofR ((den C d).t s h) s fun q h1 => match q with
              | true => evSs C x s h1
              | false => evSs C y s h1 := by funext s h; rw [evS]; rfl
          rw [this]
          exact s_if ((ie h1).t hp) (ihL h2) (ihL h3)
        · cases h
      · cases h
    | For t i b o p =>
      cases o with
      | cons _ _ => simp only [cS] at h; cases h
      | nil =>
        simp only [cS] at h
        split at h
        · rename_i hl
          split at h
          · rename_i k t' bs h1 h2
            split at h
            · rename_i it x y h3
              cases h
              obtain ⟨hi, hf⟩ := it_ok g.g (tg := t) ie h3
              have : evS C (.for k t' it x y bs) = fun s h => RS.ofR ((den C x).v s h) s fun u h1 => RS.ofR ((den C y).v s h1) s fun w h2 => RS.ofR (srcV it u w h2) s (forRun (forTurn k t' (evSs C bs)) s) := by funext s h; rw [evS]; rfl
              rw [this]
              exact s_for g hl h1 hi hf (ihL h2)
            · cases h
          · cases h
        · cases h
    | While t b o p =>
      cases o with
      | cons _ _ => simp only [cS] at h; cases h
      | nil =>
        simp only [cS] at h
        split at h
        · rename_i hp
          obtain ⟨d, bs, h1, h2, rfl⟩ := opt2_some h
          have : evS C (.whl d bs) = fun s h => whlGo ((den C d).t) (evSs C bs) C.most s h := by funext s h; rw [evS]; rfl
          rw [this]
          exact s_whl g ((ie h1).t hp) (ihL h2)
        · cases h
    | Pass p =>
      simp only [cS] at h
      cases h
      have : evS C .pass = fun s h => RS.nx s h := by funext s h; rw [evS]
      rw [this]
      refine PSi ps_pass ?_
      rintro D σ H ⟨p, s, h, si, er, ok⟩
      exact ok p H σ Xt.refl si er
    | Break p =>
      simp only [cS] at h
      cases h
      have : evS C .brk = fun s h => RS.bk s h := by funext s h; rw [evS]
      rw [this]
      refine PSi ps_break ?_
      rintro D σ H ⟨p, s, h, si, er, ok⟩
      exact ok p H σ Xt.refl si er
    | Continue p =>
      simp only [cS] at h
      cases h
      have : evS C .cnt = fun s h => RS.ct s h := by funext s h; rw [evS]
      rw [this]
      refine PSi ps_continue ?_
      rintro D σ H ⟨p, s, h, si, er, ok⟩
      exact ok p H σ Xt.refl si er
    | Raise e f p =>
      simp only [cS] at h
      cases h
      have : evS C .nev = fun _ _ => RS.bad := by funext s h; rw [evS]
      rw [this]
      exact ⟨fun pins s σ H D I ⟨_, _, _, _, _, z⟩ => z.elim⟩
    | AugAssign t o v p =>
      simp only [cS] at h
      unfold augOf at h
      split at h
      · rename_i x q1 f q2 j kk q3
        split at h
        · rename_i hv
          split at h
          · rename_i i k hi hf
            cases h
            have hn : cE c (0 + 1) false sc (.Name x q1) = some (.var i) := by
              simp only [cE, hv, if_true, hi]
              rfl
            have := (cE_ok (0 + 1) g.g hn).v
            rw [den] at this
            exact s_faug g.g this hf
          · cases h
        · cases h
      · cases h
    | _ => simp only [cS] at h; cases h
end
end M2

namespace M2
open PySem PySem.Spec PyProof.Rows L2
/-! ### binding -/
theorem look_zip {us : List Value} : ∀ {ps : List Str}, us.length = ps.length → ∀ x ∈ ps, ((ps.zip us).lookup x).isNone = false := by
  intro ps hl x hx
  induction ps generalizing us with
  | nil => cases hx
  | cons y ps ih =>
    cases us with
    | nil => cases hl
    | cons u us =>
      rw [List.zip_cons_cons, List.lookup_cons]
      cases e : x == y with
      | true => rfl
      | false =>
        rcases List.mem_cons.mp hx with rfl | hx
        · simp at e
        · exact ih (by simpa using hl) hx
theorem zip_back : ∀ {ps : List Str} {us : List Value}, us.length = ps.length → ps.Nodup → ps.filterMap (fun n => ((ps.zip us).lookup n).map (n, ·)) = ps.zip us
  | [], [], _, _ => rfl
  | y :: ps, u :: us, hl, hn => by
    have hn' := List.nodup_cons.mp hn
    rw [List.zip_cons_cons, List.filterMap_cons, List.lookup_cons, beq_self_eq_true]
    show (y, u) :: _ = _
    congr 1
    have key : ∀ qs : List Str, (∀ x ∈ qs, x ∈ ps) → ∀ l : List (Str × Value), qs.filterMap (fun n => (List.lookup n ((y, u) :: l)).map (n, ·)) = qs.filterMap fun n => (l.lookup n).map (n, ·) := fun qs => by
      induction qs with
      | nil => exact fun _ _ => rfl
      | cons x qs ih =>
        intro hq l
        have : (x == y) = false := by
          rw [beq_eq_false_iff_ne]
          rintro rfl
          exact hn'.1 (hq x (by simp))
        rw [List.filterMap_cons, List.filterMap_cons, List.lookup_cons, this, ih (fun z hz => hq z (by simp [hz]))]
    rw [key ps (fun _ h => h)]
    exact zip_back (ps := ps) (us := us) (by simpa using hl) hn'.2
  | [], _ :: _, hl, _ => by cases hl
  | _ :: _, [], hl, _ => by cases hl
theorem bind_plain {fd : FuncData} (hp : plainArgs fd.params = true) (hd : fd.defaults = .none) (hn : (psOf fd.params).Nodup) (us : List Value) (hl : us.length = (psOf fd.params).length) : bindArgs fd ⟨us, []⟩ = pure ((psOf fd.params).zip us) := by
  unfold bindArgs
  generalize fd.params = pr at *
  obtain ⟨po, ar, va, ko, kd, kw, de⟩ := pr
  unfold plainArgs at hp
  simp only [Bool.and_eq_true, List.isEmpty_iff, Option.isNone_iff_eq_none] at hp
  obtain ⟨⟨⟨⟨h1, h2⟩, h3⟩, h4⟩, h5⟩ := hp
  subst h1 h2 h3 h4 h5
  have hl' : us.length = (ar.map (·.arg)).length := hl
  have hn' : (ar.map (·.arg)).Nodup := hn
  have hm : ((ar.map (·.arg)).filter fun n => (((ar.map (·.arg)).zip us).lookup n).isNone) = [] := by
    rw [List.filter_eq_nil_iff]
    intro x hx
    rw [look_zip hl' x hx]
    exact Bool.false_ne_true
  have hz := zip_back hl' hn'
  have hs : seqItems? .none = (pure none : Sem _) := rfl
  have hng : ¬ us.length > (ar.map (·.arg)).length := by omega
  simp only [hd, hs, psOf, List.map_nil, List.nil_append, List.append_nil, List.forIn_nil, pure_bind, Option.getD_none, List.drop_nil, List.length_nil, Nat.sub_zero, List.take_length, hm, List.drop_length, List.zip_nil_right, List.isEmpty_nil, Bool.not_true, hz]
  have hg : (decide (us.length > (ar.map (·.arg)).length) && (none : Option Arg).isNone) = false := by
    simp
    simpa using Nat.le_of_eq hl'
  rw [hg, if_neg Bool.false_ne_true, if_neg Bool.false_ne_true, if_neg Bool.false_ne_true]
/-! ### a call's end -/
section
variable {nm : Nm} {K : PySem.W.Frag} {p p' : List Addr} {H H' : Hp} {h0 h' : Hm} {Ek : XK}
theorem back_ok {fz : Bool} {r : RS} {Q : VK} (si0 : Sim nm K p h0 H) (ok : Ok nm K Ek (GV K) p H (back fz h0 r) Q) : OkS nm K Ek p H r { nx := fun _ H' => LkP (Q .non) H', rt := LkV Q } := by
  cases r with
  | nx s h => exact fun p' H' σ' x sm er => gc_ok si0 x sm .non ok
  | rt w h => exact fun p' H' v x sm r => gc_ok si0 x sm r ok
  | exc c ws h s => exact fun p' H' d x sm r => gcx_ok si0 x sm r ok
  | _ => exact ok.elim
end
/-! ### a text's defs -/
/-- a def of the text and its compiled form -/
def DefOk (K : PySem.W.Frag) (t : Top) (D : Prog) (i : Nat) (f : Addr) : Prop :=
  ∃ (x : Str) (mu : Bool) (fn : Fn) (qual : Str) (params : Arguments) (body : List Stmt) (scope : Scope) (fd : FuncData), D.fns i = some fn ∧ FunD K x qual params body scope [] [] f fd ∧ cFn t mu params body scope = some fn ∧
    C8.scC (namesOf (psOf params) scope body) (psOf params) scope = true
structure POk (nm : Nm) (K : PySem.W.Frag) (mg : Str → Option Value) (t : Top) (D : Prog) : Prop where
  fns : ∀ x i, t.fns.lookup x = some i → ∃ f, DefOk K t D i f ∧ mg x = some (.ref f) ∧ (x == ("__debug__" : Str)) = false
  con : ∀ x i w, t.con.lookup x = some i → D.con i = some w → isDct w = false → ∃ v u, mg x = some u ∧ RelV v u ∧ (x == ("__debug__" : Str)) = false ∧ ∀ p H, RW K p H w v
  cod : ∀ x i l, t.con.lookup x = some i → D.con i = some (.tup [.ref 0, .tup l]) → ∃ a, mg x = some (.ref a) ∧ (x == ("__debug__" : Str)) = false ∧ ∀ z w, dctGet z l = some w → ∃ v, KDct K nm.wd a (st z) v ∧ ∀ p H, RW K p H w v
  blt : ∀ x, bnames.contains x = true → mg x = none
  inj : ∀ f g, nm.fld f = nm.fld g → f = g
  na : ∀ k f, D.na k f = true → Cls K (nm.cls k) ∧ NoAttr K (nm.cls k) (nm.fld f)
  fld : ∀ x f, t.fld.lookup x = some f → nm.fld f = x
  mkr : ∀ x k, t.cls.lookup x = some k → ∃ i f, D.ini k = some i ∧ Mk K (nm.cls k) f ∧ DefOk K t D i f ∧ mg x = some (.ref (nm.cls k)) ∧ (x == ("__debug__" : Str)) = false
  mt : ∀ m j k i, t.mth.lookup m = some j → D.mth k j = some i → ∃ f, Cls K (nm.cls k) ∧ Meth K (nm.cls k) m f ∧ DefOk K t D i f
  ins : ∀ k, (D.ini k).isSome = true → InsOk K (nm.cls k)
  kit : ∀ k t, kdC (mkCtx D fun _ _ _ => .bad) k = true → tyC (mkCtx D fun _ _ _ => .bad) t = true → PySem.W.kitOne K (kdU nm.cls k) (tyU nm.cls t) = some (isK k t)
  eqs : ∀ k i, D.eqm k = some i → ∃ f, Cls K (nm.cls k) ∧ PySem.W.findIn K (.ref (nm.cls k)) "__eq__" = some (some (.ref f)) ∧ PySem.W.isFn K (.ref f) = true ∧ PySem.W.findIn K (.ref (nm.cls k)) "__ne__" = some (some (.builtin "object.__ne__")) ∧ PySem.W.mroIn K (nm.cls k) (.type "object") = some true ∧
    (∀ j, kdC (mkCtx D fun _ _ _ => .bad) j = true → PySem.W.notFirst K (nm.cls k) (kdU nm.cls j) = true) ∧ DefOk K t D i f
theorem start_er {K : PySem.W.Frag} {p : List Addr} {H : Hp} {ws : List W} {vs : List V} {N : List Str} {f : Fn} (q : RWs K p H ws vs) (hn : f.ns = N.length) : Er K p H (M2.start f ws) (L2.start N vs) := by
  unfold M2.start L2.start
  refine ⟨by simp [q.length, hn], fun i w e => ?_⟩
  by_cases hi : i < ws.length
  · rw [List.getElem?_append_left (by simpa using hi), List.getElem?_map] at e
    have e1 : ws[i]? = some w := by
      rw [List.getElem?_eq_getElem hi] at e ⊢
      simpa using e
    obtain ⟨v, g, r⟩ := q.get e1
    refine ⟨v, ?_, r⟩
    rw [List.getElem?_append_left (by rw [List.length_map, ← q.length]; exact hi), List.getElem?_map, g]
    rfl
  · rw [List.getElem?_append_right (by simpa using hi)] at e
    rw [List.getElem?_replicate] at e
    split at e <;> cases e
/-- what a callee needs of a def -/
def FnAt (nm : Nm) (P : Program) (w : World) (K : PySem.W.Frag) (mg : Str → Option Value) (base : Heap) (D : Prog) (n : Nat) (i : Nat) (f : Addr) : Prop :=
  ∃ (fd : FuncData) (ps : List Str), FnOk P w K mg base (CX P w) (2 * n) f fd ps (spM nm K (run D n i)) ∧ PySem.W.keepIn K (.ref f) = true ∧ Binds K fd ps []
theorem ps_nodup {params : Arguments} {body : List Stmt} {scope : Scope} (hs : C8.scC (namesOf (psOf params) scope body) (psOf params) scope = true) : (psOf params).Nodup := by
  have S := C8.fnScope_by hs
  rw [← S.pre]
  exact S.nd.sublist (List.take_sublist _ _)
theorem plain_of {t : Top} {mu : Bool} {params : Arguments} {body : List Stmt} {scope : Scope} {fn : Fn} (hc : cFn t mu params body scope = some fn) : plainArgs params = true := by
  unfold cFn at hc
  split at hc
  · assumption
  · cases hc
theorem fn_ok1 {nm : Nm} {P : Program} {w : World} {K : PySem.W.Frag} {mg : Str → Option Value} {base : Heap} {t : Top} {D : Prog} (ok : POk nm K mg t D) (hwd : nm.wd = w) {n : Nat} (ih : ∀ i f, DefOk K t D i f → FnAt nm P w K mg base D n i f) {x qual : Str} {i : Nat} {mu : Bool} {params : Arguments} {body : List Stmt} {scope : Scope} {f : Addr} {fd : FuncData} {fn : Fn}
    (hf : D.fns i = some fn) (F : FunD K x qual params body scope [] [] f fd) (hc : cFn t mu params body scope = some fn) (hs : C8.scC (namesOf (psOf params) scope body) (psOf params) scope = true) : FnOk P w K mg base (CX P w) (2 * n + 2) f fd (psOf params) (spM nm K (run D (n + 1) i)) := by
      have S := C8.fnScope_by hs
      unfold cFn at hc
      split at hc
      case isFalse => cases hc
      rename_i hpl
      obtain ⟨b, hb, rfl⟩ := map_some hc
      have rn : ∀ ws h, run D (n + 1) i ws h = callFn (mkCtx D (run D n)) ⟨(psOf params).length, (namesOf (psOf params) scope body).length, b, !mu⟩ ws h := fun ws h => by
        rw [run, hf]
      refine F.ok S (fun vs H Q E h => ?_) fun cdv A outer s H vs Q E hr h => ?_
      · obtain ⟨p, h, ws, si, q, z⟩ := h
        rw [rn, callFn] at z
        by_cases hl : ws.length = (psOf params).length
        · rw [← q.length]; exact hl
        · rw [if_neg hl] at z; exact z.elim
      · obtain ⟨p, h, ws, si, q, z⟩ := h
        rw [rn, callFn] at z
        by_cases hl : ws.length = (psOf params).length
        · rw [if_pos hl] at z
          generalize hX : cxOf (CX P w) P w K mg base (namesOf (psOf params) scope body) qual scope f cdv A outer s H E = X
          have eK : X.K = K := by rw [← hX]; rfl
          have eA : X.A = A.deeper (envOfC qual scope s.heap.objs.size f cdv) := by rw [← hX]; rfl
          have esc : X.env.scope = scope := by rw [← hX]; rfl
          have efn : ∀ x, X.fn x = true := fun x => by rw [← hX]; rfl
          have tk : Takes X fun cls d _ H => E cls d H := takes_of (by rw [← hX]; rfl) (by rw [← hX]; rfl) (by rw [← hX]; rfl) (by rw [← hX]; rfl)
          have g : GOk nm E (t.cs (namesOf (psOf params) scope body) mu body) (mkCtx D (run D n)) X scope := by
            refine ⟨by rw [← hX]; rfl, by rw [← hX]; rfl, by rw [← hX]; exact S.nd, by rw [eA]; have := hr.un; omega, fun y hy => ?_, fun y hy => ?_, fun y hy => ?_, fun y hy => ?_, fun y j hj => ?_, ?_, fun y j u h1 h2 h3 => ?_, fun y j l h1 h2 => ?_, by rw [← hX]; exact hwd, fun y hy => ?_, ⟨ok.inj, ?_, ok.fld, ?_, ?_, ?_, ?_, ?_⟩⟩
            · unfold isVar at hy
              simp only [Bool.and_eq_true] at hy
              have hy := hy.2
              rw [esc]
              split at hy
              · rename_i e; exact .inl e
              · rename_i e; exact .inr (.inl e)
              · rename_i e; exact .inr (.inr e)
              · cases hy
            · refine ⟨?_, .inl (efn y)⟩
              unfold isLoc at hy
              rw [esc]
              split at hy
              · rename_i e; exact .inl e
              · rename_i e; exact .inr e
              · cases hy
            · unfold isGl at hy
              show X.env.scope.names.lookup y = _
              rw [esc]
              exact of_decide_eq_true hy
            · rw [esc]; exact hy
            · obtain ⟨f', df, m', d'⟩ := ok.fns y j hj
              obtain ⟨fd', ps', F', k', b'⟩ := ih j f' df
              refine ⟨2 * n, f', fd', ps', ?_, by rw [eA]; exact hr.mono (by omega), ?_, ?_, ?_, d'⟩
              · rw [← hX]; exact F'
              · rw [← hX]; exact m'
              · rw [← hX]; exact k'
              · rw [← hX]; exact b'
            · exact passes_call tk fun _ _ _ _ h => h
            · obtain ⟨v, u', m, r, d, z⟩ := ok.con y j u h1 h2 h3
              refine ⟨v, u', ?_, r, d, ?_⟩
              · rw [← hX]; exact m
              · rw [eK]; exact z
            · obtain ⟨a, m, d, z⟩ := ok.cod y j l h1 h2
              refine ⟨a, ?_, d, ?_⟩
              · rw [← hX]; exact m
              · have ew : X.w = nm.wd := by rw [← hX]; exact hwd.symm
                rw [eK, ew]; exact z
            · rw [← hX]; exact ok.blt y hy
            · rw [eK]; exact ok.na
            · intro y k hy
              obtain ⟨i', f', hi, M, df, m', d'⟩ := ok.mkr y k hy
              obtain ⟨fd', ps', F', k', b'⟩ := ih i' f' df
              refine ⟨i', 2 * n, f', fd', ps', hi, by rw [eK]; exact M, ?_, by rw [eA]; exact hr, ?_, ?_, d'⟩
              · rw [← hX]; exact F'
              · rw [← hX]; exact m'
              · rw [← hX]; exact b'
            · intro m j k i' hm hi
              obtain ⟨f', cl, M, df⟩ := ok.mt m j k i' hm hi
              obtain ⟨fd', ps', F', k', b'⟩ := ih i' f' df
              refine ⟨2 * n, f', fd', ps', by rw [eK]; exact cl, by rw [eK]; exact M, ?_, by rw [eA]; exact hr.mono (by omega), ?_⟩
              · rw [← hX]; exact F'
              · rw [← hX]; exact b'
            · rw [eK]; exact ok.ins
            · rw [eK]; exact fun k t h1 h2 => ok.kit k t h1 h2
            · intro k i' hi
              obtain ⟨f', cl, e1, e2, e3, e4, e5, df⟩ := ok.eqs k i' hi
              obtain ⟨fd', ps', F', k', b'⟩ := ih i' f' df
              refine ⟨2 * n, f', fd', ps', by rw [eK]; exact cl, by rw [eK]; exact e1, by rw [eK]; exact e2, by rw [eK]; exact e3, by rw [eK]; exact e4, by rw [eK]; exact fun j h => e5 j h, ?_, by rw [eA]; exact hr, ?_⟩
              · rw [← hX]; exact F'
              · rw [← hX]; exact b'
          have so : SOk nm E (t.cs (namesOf (psOf params) scope body) mu body) (mkCtx D (run D n)) X scope := by
            refine ⟨g, ?_, esc, efn, by rw [esc]; exact S.kind⟩
            exact passes_of (by rw [← hX]; rfl)
          have pss : PSs X body (tS nm X.K E (evSs (mkCtx D (run D n)) b)) := ss_all (fun _ _ h => cS_ok so 60 h) hb
          refine ⟨_, pss_frz pss, p, M2.start ⟨(psOf params).length, (namesOf (psOf params) scope body).length, b, !mu⟩ ws, h, by rw [eK]; exact si, by rw [eK]; exact start_er (N := namesOf (psOf params) scope body) q rfl, ?_⟩
          rw [eK]
          exact back_ok si z
        · rw [if_neg hl] at z; exact z.elim
theorem fn_ok {nm : Nm} {P : Program} {w : World} {K : PySem.W.Frag} {mg : Str → Option Value} {base : Heap} {t : Top} {D : Prog} (ok : POk nm K mg t D) (hwd : nm.wd = w) : ∀ (n : Nat) (i : Nat) (f : Addr), DefOk K t D i f → FnAt nm P w K mg base D n i f
  | n, i, f, hx => by
    obtain ⟨x, mu, fn, qual, params, body, scope, fd, hf, F, hc, hs⟩ := hx
    have bnd : Binds K fd (psOf params) [] := F.bindsN fun kV doc pm an cdv ct us hl => bind_plain (fd := PySem.W.fnOf x qual params body scope .none kV doc pm an cdv ct) (plain_of hc) rfl (ps_nodup hs) us hl
    refine ⟨fd, psOf params, ?_, F.kp, bnd⟩
    cases n with
    | zero =>
      exact ⟨fun vs H Q E h => by obtain ⟨_, _, _, _, _, z⟩ := h; exact z.elim, fun _ _ _ _ _ _ _ _ _ _ _ _ _ h => by obtain ⟨_, _, _, _, _, z⟩ := h; exact z.elim⟩
    | succ n => exact fn_ok1 ok hwd (fun i f h => fn_ok ok hwd n i f h) hf F hc hs
end M2

namespace M2
open PySem PySem.Spec PyProof.Rows L2
/-! ### constants of the module -/
mutual
/-- the value u, as K holds it, is this tree -/
def conW (K : PySem.W.Frag) : Nat → Value → W → Bool
  | 0, _, _ => false
  | _ + 1, .none, .non => true
  | _ + 1, .bool b, .bl c => b == c
  | _ + 1, .int i _, .int j => i == j
  | _ + 1, .str x _, .str l => x.cps.toList == l
  | n + 1, .ref a, .tup l => (match K.lookup a with
    | some ⟨.type c, _, .seq its _, _⟩ => decide (c = "tuple") && (decide (its.size ≤ sizeLine) && conWs K n its.toList l)
    | _ => false)
  | n + 1, .ref a, .kl l => (match K.lookup a with
    | some ⟨.type c, none, .seq its _, _⟩ => decide (c = "list") && (decide (its.size ≤ sizeLine) && conWs K n its.toList l)
    | _ => false)
  | _ + 1, _, _ => false
def conWs (K : PySem.W.Frag) : Nat → List Value → List W → Bool
  | 0, _, _ => false
  | _ + 1, [], [] => true
  | n + 1, u :: us, w :: l => conW K n u w && conWs K n us l
  | _ + 1, _, _ => false
end
theorem st_str (x : Str) : (⟨x.cps.toList.toArray⟩ : Str) = x := by cases x; simp
mutual
theorem conW_ok {K : PySem.W.Frag} : ∀ (n : Nat) {u : Value} {w : W}, conW K n u w = true → ∃ v, RelV v u ∧ ∀ p H, RW K p H w v
  | 0, _, _, h => by simp [conW] at h
  | n + 1, u, w, h => by
    cases w with
    | non =>
      cases u with
      | none => exact ⟨.non, rfl, fun _ _ => .non⟩
      | _ => simp [conW] at h
    | bl c =>
      cases u with
      | bool b =>
        have e : b = c := by simpa [conW] using h
        subst e
        exact ⟨.bl b, rfl, fun _ _ => .bl b⟩
      | _ => simp [conW] at h
    | int j =>
      cases u with
      | int i t =>
        have e : i = j := by simpa [conW] using h
        subst e
        exact ⟨.int i, ⟨t, rfl⟩, fun _ _ => .int i⟩
      | _ => simp [conW] at h
    | str l =>
      cases u with
      | str x t =>
        have e : x.cps.toList = l := by simpa [conW] using h
        subst e
        exact ⟨.str x, ⟨t, rfl⟩, fun p H => by
          have := RW.str (K := K) (p := p) (H := H) x.cps.toList
          rw [st_str] at this
          exact this⟩
      | _ => simp [conW] at h
    | tup l =>
      cases u with
      | ref a =>
        simp only [conW] at h
        split at h
        · rename_i c d its k sl q
          simp only [Bool.and_eq_true, decide_eq_true_eq] at h
          obtain ⟨rfl, hz, hc⟩ := h
          obtain ⟨vs, r1, r2⟩ := conWs_ok n hc
          exact ⟨.ref a, rfl, fun p H => .tup (.inr ⟨_, its, k, q, rfl, rfl, hz, r1⟩) (r2 p H)⟩
        · cases h
      | _ => simp [conW] at h
    | kl l =>
      cases u with
      | ref a =>
        simp only [conW] at h
        split at h
        · rename_i c its k sl q
          simp only [Bool.and_eq_true, decide_eq_true_eq] at h
          obtain ⟨rfl, hz, hc⟩ := h
          obtain ⟨vs, r1, r2⟩ := conWs_ok n hc
          exact ⟨.ref a, rfl, fun p H => .kl (.inr ⟨_, its, k, q, rfl, rfl, rfl, hz, r1⟩) (r2 p H)⟩
        · cases h
      | _ => simp [conW] at h
    | ref r => cases u <;> simp [conW] at h
theorem conWs_ok {K : PySem.W.Frag} : ∀ (n : Nat) {us : List Value} {l : List W}, conWs K n us l = true → ∃ vs, Vals vs us ∧ ∀ p H, RWs K p H l vs
  | 0, _, _, h => by simp [conWs] at h
  | n + 1, us, l, h => by
    cases us with
    | nil =>
      cases l with
      | nil => exact ⟨[], .nil, fun _ _ => .nil⟩
      | cons _ _ => simp [conWs] at h
    | cons u us =>
      cases l with
      | nil => simp [conWs] at h
      | cons w l =>
        simp only [conWs, Bool.and_eq_true] at h
        obtain ⟨v, r1, r2⟩ := conW_ok n h.1
        obtain ⟨vs, q1, q2⟩ := conWs_ok n h.2
        exact ⟨v :: vs, .cons r1 q1, fun p H => .cons (r2 p H) (q2 p H)⟩
end
/-- a dict of the module: its entries -/
def entW (K : PySem.W.Frag) (a : Addr) : List W → Bool
  | [] => true
  | .tup [.str z, v] :: l => (match PySem.W.nsIn K a (st z) with
    | some (some u) => conW K 100 u v && entW K a l
    | _ => false)
  | _ => false
def dctF (K : PySem.W.Frag) (u : Value) (w : W) : Bool := match u, w with
  | .ref a, .tup [.ref 0, .tup l] => entW K a l
  | _, _ => false
def conF (K : PySem.W.Frag) (x : Str) (w : W) : Bool := match PySem.W.nsIn K mainGlobals x with
  | some (some u) => if isDct w = true then dctF K u w else conW K 100 u w
  | _ => false
theorem entW_ok {K : PySem.W.Frag} {a : Addr} : ∀ {l : List W}, entW K a l = true → ∀ z w, dctGet z l = some w → ∃ u v, PySem.W.nsIn K a (st z) = some (some u) ∧ RelV v u ∧ ∀ p H, RW K p H w v
  | [], _, z, w, e => by cases e
  | q :: l, h, z, w, e => by
    unfold entW at h
    split at h
    · rename_i hh; cases hh
    · rename_i y v l' hh
      cases hh
      split at h
      · rename_i u hu
        rw [Bool.and_eq_true] at h
        simp only [dctGet] at e
        by_cases hz : y = z
        · rw [if_pos hz] at e
          cases e
          subst hz
          obtain ⟨x, r1, r2⟩ := conW_ok 100 h.1
          exact ⟨u, x, hu, r1, r2⟩
        · rw [if_neg hz] at e
          exact entW_ok h.2 z w e
      · cases h
    · cases h
/-- the keys of a dict of the module -/
def keysW : List W → List Str
  | .tup [.str z, _] :: l => st z :: keysW l
  | _ => []
def dicO (K : PySem.W.Frag) (cs : List (Str × W)) : List (Option (List (Option (Str × Int)))) := cs.filterMap fun q => match q.2 with
  | .tup [.ref 0, .tup _] => some (match PySem.W.nsIn K mainGlobals q.1 with
    | some (some (.ref a)) => He.dicW K a
    | _ => none)
  | _ => none
def dicV (P : Params) (cs : List (Str × W)) : List (Option (List (Option (Str × Int)))) := cs.filterMap fun q => match q.2 with
  | .tup [.ref 0, .tup l] => some (some (He.keysIn P (keysW l)))
  | _ => none
theorem dic_at {K : PySem.W.Frag} {P : Params} : ∀ {cs : List (Str × W)}, dicO K cs = dicV P cs → ∀ {x : Str} {l : List W}, (x, W.tup [.ref 0, .tup l]) ∈ cs → ∃ a, PySem.W.nsIn K mainGlobals x = some (some (.ref a)) ∧ He.dicW K a = some (He.keysIn P (keysW l))
  | [], _, _, _, z => nomatch z
  | q :: cs, e, x, l, z => by
    unfold dicO dicV at e
    simp only [List.filterMap_cons] at e
    split at e
    · rename_i h1
      split at e
      · rename_i h2
        rcases List.mem_cons.mp z with z | z
        · subst z; cases h1
        · exact dic_at e z
      · rename_i v h2
        split at h1
        · cases h1
        · rename_i hn
          split at h2
          · rename_i l' hl; exact absurd hl (hn _)
          · cases h2
    · rename_i v h1
      split at e
      · rename_i h2
        split at h2
        · cases h2
        · rename_i hn
          split at h1
          · rename_i l' hl; exact absurd hl (hn _)
          · cases h1
      · rename_i v2 h2
        injection e with e1 e2
        rcases List.mem_cons.mp z with z | z
        · subst z
          simp only at h1 h2
          cases h1
          cases h2
          split at e1
          · rename_i a ha
            exact ⟨a, ha, e1⟩
          · cases e1
        · exact dic_at e2 z
/-! ### what is asked of the top -/
abbrev DS := (Str × Option Str) × Arguments × List Stmt × Scope
def dOf (d : DS) : He.DefD := match d.1.2 with
  | none => ⟨d.1, d.1.1, d.1.1, d.2.1, d.2.2.1, d.2.2.2, [], []⟩
  | some m => ⟨d.1, m, d.1.1 ++ "." ++ m, d.2.1, d.2.2.1, d.2.2.2, [], []⟩
/-- the defs of the top and of its classes without a base -/
def dsOf (l : List Stmt) : List DS := l.flatMap fun s => match s with
  | .FunctionDef n a b _ _ _ sc _ _ _ => [((n, none), a, b, sc)]
  | .ClassDef c [] _ body .. => body.flatMap fun s => match s with
    | .FunctionDef n a b _ _ _ sc _ _ _ => [((c, some n), a, b, sc)]
    | _ => []
  | _ => []
/-- a text's classes: their names, the names of methods and fields; the defs of __init__, of each method; which fields a class may have -/
structure KT where
  cls : List Str := []
  mths : List Str := []
  flds : List Str := []
  ini : List Nat := []
  mth : List (List (Option Nat)) := []
  na : List (List Bool) := []
  eqm : List (Option Nat) := []
  fzc : List Bool := []
  mv : List Str := []
  mf : List Str := []
  mu : List Str := []
def KT.c (T : KT) (k : Nat) : Str := T.cls.getD k ""
def KT.m (T : KT) (j : Nat) : Str := T.mths.getD j ""
def KT.f (T : KT) (f : Nat) : Str := T.flds.getD f ⟨#[1000000 + f]⟩
def KT.mthF (T : KT) (k j : Nat) : Option Nat := match T.mth[k]? with
  | some l => (match l[j]? with
    | some o => o
    | none => none)
  | none => none
def KT.naF (T : KT) (k f : Nat) : Bool := match T.na[k]? with
  | some l => l.getD f false
  | none => false
def KT.eqF (T : KT) (k : Nat) : Option Nat := match T.eqm[k]? with
  | some o => o
  | none => none
def KT.fa (T : KT) : List He.Fa := (List.range T.cls.length).flatMap fun k => [.glo (T.c k), .cls (T.c k), .mkr (T.c k)] ++ (((List.range T.mths.length).filter fun j => (T.mthF k j).isSome).map fun j => .meth (T.c k) (T.m j)) ++
  (((List.range T.flds.length).filter fun f => T.naF k f).map fun f => .noat (T.c k) (T.f f))
def faOf (ds : List DS) (T : KT) : List He.Fa := ((ds.filter fun d => d.1.2.isNone).map fun d => He.Fa.glo d.1.1) ++ bnames.map (fun s => He.Fa.free s) ++ T.fa
/-- the names at the top that are bound, but the law's -/
def topNames (l : List Stmt) : List Str := ((l.flatMap fun s => match s with
  | .FunctionDef n .. => [n]
  | .ClassDef n .. => [n]
  | .Assign [.Name n _] _ _ => [n]
  | _ => []).filter fun n => !(n == ("law" : Str)) && !(n == ("__name__" : Str))).eraseDups
abbrev AlM : Type := He.AlD × Bool × List (Option (List (Option (Str × Int))))
/-! ### what is asked of the classes beside -/
def bKds : List Kd := [.non, .bool, .int, .str, .tuple, .list, .dict]
def bTys : List Ty := [.int, .str, .bool, .list, .tuple, .dict]
def KT.kds (T : KT) : List Kd := bKds ++ (List.range T.cls.length).map .ins
def KT.tys (T : KT) : List Ty := bTys ++ (List.range T.cls.length).map .cls
def KT.cl (T : KT) (K : PySem.W.Frag) (k : Nat) : Addr := He.ga K (T.c k)
def insB (K : PySem.W.Frag) (C : Addr) : Bool := PySem.W.findIn K (.ref C) "__class__" == some (some (.builtin "object.__class__")) && (PySem.W.specialIn K (.builtin "object.__class__") "__get__" == some (some (.builtin "getset_descriptor.__get__")) &&
  (PySem.W.takesIn K (.builtin "object.__class__") == some true && PySem.W.mroIn K C (.type "object") == some true))
def eqB (T : KT) (K : PySem.W.Frag) (k : Nat) : Bool := match T.eqF k with
  | none => true
  | some _ => PySem.W.findIn K (.ref (T.cl K k)) "__eq__" == some (some (.ref (He.ma K (T.cl K k) "__eq__"))) && (PySem.W.isFn K (.ref (He.ma K (T.cl K k) "__eq__")) &&
    (PySem.W.findIn K (.ref (T.cl K k)) "__ne__" == some (some (.builtin "object.__ne__")) && T.kds.all fun j => PySem.W.notFirst K (T.cl K k) (kdU (T.cl K) j)))
def KT.seen (T : KT) (K : PySem.W.Frag) : Bool := ((List.range T.cls.length).all fun k => insB K (T.cl K k) && eqB T K k) && (T.kds.all fun j => T.tys.all fun t => PySem.W.kitOne K (kdU (T.cl K) j) (tyU (T.cl K) t) == some (isK j t))
def seenM (ds : List DS) (T : KT) (cs : List (Str × W)) (K : PySem.W.Frag) : AlM := (He.obsD (faOf ds T) (ds.map dOf) K, (cs.all fun q => conF K q.1 q.2) && T.seen K, dicO K cs)
def wantM (ds : List DS) (cs : List (Str × W)) (w : World) : AlM := (He.valD (ds.map dOf), true, dicV w.params cs)
def seenG (n : Nat) (ds : List DS) (T : KT) (cs : List (Str × W)) (g : Addr → Option Obj) : AlM := seenM ds T cs (He.frG g (He.asD g n))
def TellsM (ds : List DS) (T : KT) (cs : List (Str × W)) (w : World) (K : PySem.W.Frag) : Prop := seenM ds T cs K = wantM ds cs w
def lookM (n : Nat) (ds : List DS) (T : KT) (cs : List (Str × W)) : PySem.W.Hook where
  α := AlM
  obs := fun s => seenG n ds T cs s.heap.get?
  val := fun w => wantM ds cs w
  says := fun w h => ∃ K : PySem.W.Frag, K.In h ∧ TellsM ds T cs w K
  of := fun _ _ e => ⟨_, He.frG_in, e⟩
  keeps := fun _ _ _ z k => by
    obtain ⟨K, hK, c⟩ := z
    exact ⟨K, PySem.W.Frag.In.keeps hK k, c⟩
theorem seenG_eq {n : Nat} {ds : List DS} {T : KT} {cs : List (Str × W)} {g : Addr → Option Obj} {s : Shared} (h : ∀ a, g a = s.heap.get? a) : seenG n ds T cs g = (lookM n ds T cs).obs s := by
  have : g = s.heap.get? := funext h
  subst this
  rfl
/-! ### the text's facts -/
def idx {A : Type} : Nat → List (Str × A) → List (Str × Nat)
  | _, [] => []
  | n, q :: l => (q.1, n) :: idx (n + 1) l
theorem idx_get {A : Type} : ∀ {l : List (Str × A)} {n i : Nat} {x : Str}, (idx n l).lookup x = some i → ∃ j q, i = n + j ∧ l[j]? = some q ∧ q.1 = x
  | [], n, i, x, h => by cases h
  | q :: l, n, i, x, h => by
    simp only [idx, List.lookup_cons] at h
    cases e : x == q.1 with
    | true =>
      rw [e] at h
      cases h
      exact ⟨0, q, rfl, rfl, by simpa using (by simpa using e : x = q.1).symm⟩
    | false =>
      rw [e] at h
      obtain ⟨j, q', h1, h2, h3⟩ := idx_get h
      exact ⟨j + 1, q', by omega, by simpa using h2, h3⟩
/-- the names' numbers -/
def glos : Nat → List DS → List (Str × Nat)
  | _, [] => []
  | n, d :: l => match d.1.2 with
    | none => (d.1.1, n) :: glos (n + 1) l
    | some _ => glos (n + 1) l
theorem glos_get : ∀ {l : List DS} {n i : Nat} {x : Str}, (glos n l).lookup x = some i → ∃ j d, i = n + j ∧ l[j]? = some d ∧ d.1 = (x, none)
  | [], n, i, x, h => by cases h
  | d :: l, n, i, x, h => by
    obtain ⟨⟨y, o⟩, r⟩ := d
    cases o with
    | none =>
      simp only [glos, List.lookup_cons] at h
      cases e : x == y with
      | true =>
        rw [e] at h
        cases h
        refine ⟨0, _, rfl, rfl, ?_⟩
        have : x = y := by simpa using e
        rw [this]
      | false =>
        rw [e] at h
        obtain ⟨j, q', h1, h2, h3⟩ := glos_get h
        exact ⟨j + 1, q', by omega, by simpa using h2, h3⟩
    | some m =>
      simp only [glos] at h
      obtain ⟨j, q', h1, h2, h3⟩ := glos_get h
      exact ⟨j + 1, q', by omega, by simpa using h2, h3⟩
def nums (l : List Str) : List (Str × Nat) := idx 0 (l.map fun x => (x, ()))
def mkTop (ds : List DS) (T : KT) (cs : List (Str × W)) : Top := ⟨glos 0 ds, idx 0 cs, nums T.cls, nums T.flds, nums T.mths, (cs.filter fun q => isDct q.2).map (·.1), T.mv, T.mf, T.mu⟩
def keyD (d : DS) : Str := match d.1.2 with
  | none => d.1.1
  | some m => m
/-- the compiled program: bs the bodies -/
def mkProg (bs : List Fn) (T : KT) (cs : List (Str × W)) (most : Nat) : Prog := ⟨fun i => bs[i]?, fun i => (cs[i]?).map (·.2), T.mthF, fun k => T.ini[k]?, T.naF, T.eqF, fun k => T.fzc.getD k true, most⟩
/-- the bodies are the text's -/
def fits (t : Top) (ds : List DS) (bs : List Fn) : Prop := ds.map (fun d => cFn t (t.mu.contains (keyD d)) d.2.1 d.2.2.1 d.2.2.2) = bs.map some
def sound (ds : List DS) : Bool := ds.all fun d => C8.scC (namesOf (psOf d.2.1) d.2.2.2 d.2.2.1) (psOf d.2.1) d.2.2.2 && !(d.1.1 == ("__debug__" : Str))
def soundC (cs : List (Str × W)) : Bool := cs.all fun q => !(q.1 == ("__debug__" : Str))
def KT.ok (T : KT) (ds : List DS) : Bool :=
  decide (T.ini.length = T.cls.length) && (decide T.flds.Nodup && ((T.flds.all fun x => x.cps.all fun c => decide (c < 1000000)) && (((List.range T.cls.length).all fun k => !(T.c k == ("__debug__" : Str)) && decide (((T.ini[k]?).bind fun i => (ds[i]?).map (·.1)) = some (T.c k, some ("__init__" : Str)))) &&
    (decide (T.mth.length ≤ T.cls.length) && ((T.mth.all fun l => decide (l.length ≤ T.mths.length)) && (((List.range T.cls.length).all fun k => (List.range T.mths.length).all fun j => match T.mthF k j with
      | some i => decide ((ds[i]?).map (·.1) = some (T.c k, some (T.m j)))
      | none => true) && (decide (T.na.length ≤ T.cls.length) && ((T.na.all fun l => decide (l.length ≤ T.flds.length)) && (decide (T.eqm.length ≤ T.cls.length) && (List.range T.cls.length).all fun k => match T.eqF k with
      | some i => decide ((ds[i]?).map (·.1) = some (T.c k, some ("__eq__" : Str)))
      | none => true)))))))))
def nmOf (w : World) (K : PySem.W.Frag) (T : KT) : Nm := ⟨w, fun k => He.ga K (T.c k), T.f, fun _ => []⟩
theorem fact_mem {fa : List He.Fa} {fn : List He.DefD} {K : PySem.W.Frag} (c : He.SaysD fa fn K) {f : He.Fa} (h : f ∈ fa) : f.ok K = true := by
  obtain ⟨i, hi, e⟩ := List.getElem_of_mem h
  exact c.fact i (by rw [List.getElem?_eq_getElem hi, e])
theorem def_at {w : World} {K : PySem.W.Frag} {h : Heap} {ds : List DS} {T : KT} {cs : List (Str × W)} {bs : List Fn} {most : Nat} (c : TellsM ds T cs w K) (hf : fits (mkTop ds T cs) ds bs) (hs : sound ds = true) {j : Nat} {d : DS} (hj : ds[j]? = some d) :
    DefOk K (mkTop ds T cs) (mkProg bs T cs most) j (He.fAd K d.1) := by
  have cd : He.SaysD (faOf ds T) (ds.map dOf) K := congrArg (fun z : AlM => z.1) c
  have e1 : (ds.map dOf)[j]? = some (dOf d) := by rw [List.getElem?_map, hj]; rfl
  obtain ⟨fd, F⟩ := cd.def_ j e1
  unfold sound at hs
  rw [List.all_eq_true] at hs
  have hs1 := hs d (List.mem_of_getElem? hj)
  rw [Bool.and_eq_true, Bool.not_eq_true'] at hs1
  have e3 : (ds.map fun d => cFn (mkTop ds T cs) ((mkTop ds T cs).mu.contains (keyD d)) d.2.1 d.2.2.1 d.2.2.2)[j]? = (bs.map some)[j]? := by rw [hf]
  rw [List.getElem?_map, List.getElem?_map, hj] at e3
  cases hb : bs[j]? with
  | none => rw [hb] at e3; cases e3
  | some b =>
    rw [hb] at e3
    have e3 : cFn (mkTop ds T cs) ((mkTop ds T cs).mu.contains (keyD d)) d.2.1 d.2.2.1 d.2.2.2 = some b := Option.some.inj e3
    obtain ⟨⟨x, o⟩, pa, bo, sc⟩ := d
    cases o with
    | none => exact ⟨_, _, b, _, pa, bo, sc, fd, hb, F, e3, hs1.1⟩
    | some m => exact ⟨_, _, b, _, pa, bo, sc, fd, hb, F, e3, hs1.1⟩
theorem nums_get {l : List Str} {x : Str} {i : Nat} (h : (nums l).lookup x = some i) : l[i]? = some x := by
  obtain ⟨j, q, rfl, hj, rfl⟩ := idx_get h
  rw [List.getElem?_map] at hj
  rw [Nat.zero_add]
  cases e : l[j]? with
  | none => rw [e] at hj; cases hj
  | some y => rw [e] at hj; cases hj; rfl
theorem getD_of {l : List Str} {i : Nat} {x d : Str} (h : l[i]? = some x) : l.getD i d = x := by rw [List.getD_eq_getElem?_getD, h]; rfl
theorem fldN_inj {T : KT} (h1 : T.flds.Nodup) (h2 : (T.flds.all fun x => x.cps.all fun c => decide (c < 1000000)) = true) : ∀ f g, T.f f = T.f g → f = g := by
  have big : ∀ f g, f < T.flds.length → ¬ g < T.flds.length → T.f f ≠ T.f g := fun f g hf hg e => by
    have e1 : T.f f = T.flds[f] := getD_of (List.getElem?_eq_getElem hf)
    have e2 : T.f g = ⟨#[1000000 + g]⟩ := by unfold KT.f; rw [List.getD_eq_getElem?_getD, List.getElem?_eq_none (by omega)]; rfl
    rw [e1, e2] at e
    rw [List.all_eq_true] at h2
    have h3 := h2 _ (List.getElem_mem hf)
    rw [e] at h3
    simp at h3
    omega
  intro f g e
  by_cases hf : f < T.flds.length
  · by_cases hg : g < T.flds.length
    · have e1 : T.f f = T.flds[f] := getD_of (List.getElem?_eq_getElem hf)
      have e2 : T.f g = T.flds[g] := getD_of (List.getElem?_eq_getElem hg)
      rw [e1, e2] at e
      exact (List.getElem_inj h1).mp e
    · exact absurd e (big f g hf hg)
  · by_cases hg : g < T.flds.length
    · exact absurd e.symm (big g f hg hf)
    · have e1 : T.f f = ⟨#[1000000 + f]⟩ := by unfold KT.f; rw [List.getD_eq_getElem?_getD, List.getElem?_eq_none (by omega)]; rfl
      have e2 : T.f g = ⟨#[1000000 + g]⟩ := by unfold KT.f; rw [List.getD_eq_getElem?_getD, List.getElem?_eq_none (by omega)]; rfl
      rw [e1, e2] at e
      have : (#[1000000 + f] : Array Nat) = #[1000000 + g] := congrArg Str.cps e
      simp at this
      exact this
theorem kds_mem {T : KT} {cs : List (Str × W)} {bs : List Fn} {most : Nat} (h1 : T.ini.length = T.cls.length) {j : Kd} (h : kdC (mkCtx (mkProg bs T cs most) fun _ _ _ => .bad) j = true) : j ∈ T.kds := by
  unfold KT.kds
  cases j with
  | ins k =>
    have h : (T.ini[k]?).isSome = true := h
    refine List.mem_append_right _ (List.mem_map.mpr ⟨k, List.mem_range.mpr ?_, rfl⟩)
    rw [← h1]
    by_cases z : k < T.ini.length
    · exact z
    · rw [List.getElem?_eq_none (by omega)] at h; cases h
  | _ => exact List.mem_append_left _ (by unfold bKds; simp)
theorem tys_mem {T : KT} {cs : List (Str × W)} {bs : List Fn} {most : Nat} (h1 : T.ini.length = T.cls.length) {j : Ty} (h : tyC (mkCtx (mkProg bs T cs most) fun _ _ _ => .bad) j = true) : j ∈ T.tys := by
  unfold KT.tys
  cases j with
  | cls k =>
    have h : (T.ini[k]?).isSome = true := h
    refine List.mem_append_right _ (List.mem_map.mpr ⟨k, List.mem_range.mpr ?_, rfl⟩)
    rw [← h1]
    by_cases z : k < T.ini.length
    · exact z
    · rw [List.getElem?_eq_none (by omega)] at h; cases h
  | _ => exact List.mem_append_left _ (by unfold bTys; simp)
theorem pok {w : World} {K : PySem.W.Frag} {h : Heap} {mg : Str → Option Value} {ds : List DS} {T : KT} {cs : List (Str × W)} {bs : List Fn} {most : Nat} (X : K.In h) (G : h.Ns mainGlobals mg) (c : TellsM ds T cs w K) (hf : fits (mkTop ds T cs) ds bs) (hs : sound ds = true) (hs2 : soundC cs = true) (hT : T.ok ds = true) :
    POk (nmOf w K T) K mg (mkTop ds T cs) (mkProg bs T cs most) := by
  have cd : He.SaysD (faOf ds T) (ds.map dOf) K := congrArg (fun z : AlM => z.1) c
  have c2 : ((cs.all fun q => conF K q.1 q.2) && T.seen K) = true := congrArg (fun z : AlM => z.2.1) c
  have c3 : dicO K cs = dicV w.params cs := congrArg (fun z : AlM => z.2.2) c
  rw [Bool.and_eq_true] at c2
  obtain ⟨cc, se⟩ := c2
  unfold KT.seen at se
  rw [Bool.and_eq_true, List.all_eq_true, List.all_eq_true] at se
  obtain ⟨se1, se2⟩ := se
  unfold KT.ok at hT
  simp only [Bool.and_eq_true, decide_eq_true_eq] at hT
  obtain ⟨t1, t2, t3, t4, t5, t6, t7, t8, t9, ta, tb⟩ := hT
  rw [List.all_eq_true] at t4 t6 t7 t9 tb
  have inK : ∀ k, k < T.cls.length → ∀ f, f ∈ ([.glo (T.c k), .cls (T.c k), .mkr (T.c k)] ++ (((List.range T.mths.length).filter fun j => (T.mthF k j).isSome).map fun j => He.Fa.meth (T.c k) (T.m j)) ++
      (((List.range T.flds.length).filter fun f => T.naF k f).map fun f => He.Fa.noat (T.c k) (T.f f))) → f.ok K = true := fun k hk f hm => by
    refine fact_mem cd (List.mem_append_right _ ?_)
    exact List.mem_flatMap.mpr ⟨k, List.mem_range.mpr hk, hm⟩
  refine ⟨fun x i hx => ?_, fun x i w hx hw hnd => ?_, fun x i l hx hw => ?_, fun x hx => ?_, fldN_inj t2 t3, fun k f hk => ?_, fun x f hx => ?_, fun x k hx => ?_, fun m j k i hm hi => ?_, fun k hk => ?_, fun j t hj ht => ?_, fun k i hi => ?_⟩
  · obtain ⟨j, d, rfl, hj, hd⟩ := glos_get hx
    rw [Nat.zero_add]
    refine ⟨_, def_at (h := h) c hf hs hj, ?_, ?_⟩
    · rw [hd]
      refine He.glo_ok X G (fact_mem cd (List.mem_append_left _ (List.mem_append_left _ (List.mem_map.mpr ⟨d, List.mem_filter.mpr ⟨List.mem_of_getElem? hj, by rw [hd]; rfl⟩, by rw [hd]⟩))))
    · unfold sound at hs
      rw [List.all_eq_true] at hs
      have hs1 := hs d (List.mem_of_getElem? hj)
      rw [Bool.and_eq_true, Bool.not_eq_true', hd] at hs1
      exact hs1.2
  · obtain ⟨j, q, rfl, hj, rfl⟩ := idx_get hx
    have hw : (cs[0 + j]?).map (·.2) = some w := hw
    rw [Nat.zero_add, hj] at hw
    cases hw
    rw [List.all_eq_true] at cc
    have c1 := cc q (List.mem_of_getElem? hj)
    unfold soundC at hs2
    rw [List.all_eq_true] at hs2
    have c2 := hs2 q (List.mem_of_getElem? hj)
    rw [Bool.not_eq_true'] at c2
    unfold conF at c1
    split at c1
    · rename_i u e
      have hnd : isDct q.2 = false := hnd
      rw [if_neg (by rw [hnd]; exact Bool.false_ne_true)] at c1
      obtain ⟨v, r1, r2⟩ := conW_ok 100 c1
      exact ⟨v, u, PySem.W.mg_of X G e, r1, c2, r2⟩
    · cases c1
  · obtain ⟨j, q, rfl, hj, rfl⟩ := idx_get hx
    have hw : (cs[0 + j]?).map (·.2) = some (.tup [.ref 0, .tup l]) := hw
    rw [Nat.zero_add, hj] at hw
    have hw := Option.some.inj hw
    rw [List.all_eq_true] at cc
    have c1 := cc q (List.mem_of_getElem? hj)
    unfold soundC at hs2
    rw [List.all_eq_true] at hs2
    have c2 := hs2 q (List.mem_of_getElem? hj)
    rw [Bool.not_eq_true'] at c2
    obtain ⟨a, ha, hd⟩ := dic_at c3 (x := q.1) (l := l) (by rw [← hw]; exact List.mem_of_getElem? hj)
    obtain ⟨es, n, kd⟩ := He.dicW_ok hd
    unfold conF at c1
    rw [ha] at c1
    have hdc : isDct q.2 = true := by rw [show q.2 = _ from hw]; rfl
    simp only [hdc, if_true] at c1
    rw [show q.2 = _ from hw] at c1
    have c1 : entW K a l = true := c1
    refine ⟨a, PySem.W.mg_of X G ha, c2, fun z w' e => ?_⟩
    obtain ⟨u, v, h1, h2, h3⟩ := entW_ok c1 z w' e
    exact ⟨v, ⟨es, n, u, kd.at_, kd.lit, h1, h2⟩, h3⟩
  · have hx : x ∈ bnames := by simpa using hx
    exact He.free_ok X G (fact_mem cd (List.mem_append_left _ (List.mem_append_right _ (List.mem_map.mpr ⟨x, hx, rfl⟩))))
  · have hk : T.naF k f = true := hk
    have q := hk
    unfold KT.naF at q
    split at q
    · rename_i l e
      have k1 : k < T.cls.length := Nat.lt_of_lt_of_le (List.getElem?_eq_some_iff.mp e).1 t8
      have f1 : f < T.flds.length := by
        have := of_decide_eq_true (t9 l (List.mem_of_getElem? e))
        by_cases z : f < l.length
        · omega
        · rw [List.getD_eq_getElem?_getD, List.getElem?_eq_none (by omega)] at q; cases q
      exact ⟨He.cls_ok (inK k k1 _ (by simp)), He.noat_ok (inK k k1 _ (List.mem_append_right _ (List.mem_map.mpr ⟨f, List.mem_filter.mpr ⟨List.mem_range.mpr f1, hk⟩, rfl⟩)))⟩
    · cases q
  · exact getD_of (nums_get hx)
  · have e := nums_get hx
    have k1 : k < T.cls.length := (List.getElem?_eq_some_iff.mp e).1
    have ex : T.c k = x := getD_of e
    have t := t4 k (List.mem_range.mpr k1)
    simp only [Bool.and_eq_true, decide_eq_true_eq, Bool.not_eq_true'] at t
    cases q : T.ini[k]? with
    | none => rw [q] at t; exact nomatch t.2
    | some i =>
      rw [q] at t
      have t2 : (ds[i]?).map (·.1) = some (T.c k, some ("__init__" : Str)) := t.2
      cases q2 : ds[i]? with
      | none => rw [q2] at t2; cases t2
      | some d =>
        rw [q2] at t2
        have t2 : d.1 = (T.c k, some ("__init__" : Str)) := Option.some.inj t2
        refine ⟨i, _, q, He.mkr_ok (inK k k1 _ (by simp)), ?_, ?_, ?_⟩
        · have := def_at (h := h) (most := most) c hf hs q2
          rw [t2] at this
          exact this
        · rw [← ex]
          exact He.glo_ok X G (inK k k1 _ (by simp))
        · rw [← ex]; exact t.1
  · have ej := nums_get hm
    have j1 : j < T.mths.length := (List.getElem?_eq_some_iff.mp ej).1
    have em : T.m j = m := getD_of ej
    have hi : T.mthF k j = some i := hi
    have k1 : k < T.cls.length := by
      have q := hi
      unfold KT.mthF at q
      split at q
      · rename_i l e
        exact Nat.lt_of_lt_of_le (List.getElem?_eq_some_iff.mp e).1 t5
      · cases q
    have t := t7 k (List.mem_range.mpr k1)
    rw [List.all_eq_true] at t
    have t := t j (List.mem_range.mpr j1)
    rw [hi] at t
    have t := of_decide_eq_true t
    cases q2 : ds[i]? with
    | none => rw [q2] at t; cases t
    | some d =>
      rw [q2] at t
      have t2 : d.1 = (T.c k, some (T.m j)) := Option.some.inj t
      refine ⟨He.ma K (He.ga K (T.c k)) m, He.cls_ok (inK k k1 _ (by simp)), ?_, ?_⟩
      · rw [← em]
        exact He.meth_ok (inK k k1 _ (List.mem_append_left _ (List.mem_append_right _ (List.mem_map.mpr ⟨j, List.mem_filter.mpr ⟨List.mem_range.mpr j1, by rw [hi]; rfl⟩, rfl⟩))))
      · have := def_at (h := h) (most := most) c hf hs q2
        rw [t2, em] at this
        exact this
  · have hk : (T.ini[k]?).isSome = true := hk
    have k1 : k < T.cls.length := by
      rw [← t1]
      by_cases z : k < T.ini.length
      · exact z
      · rw [List.getElem?_eq_none (by omega)] at hk; cases hk
    have e := se1 k (List.mem_range.mpr k1)
    rw [Bool.and_eq_true] at e
    have e := e.1
    unfold insB at e
    simp only [Bool.and_eq_true, beq_iff_eq] at e
    exact ⟨He.cls_ok (inK k k1 _ (by simp)), e.1, e.2.1, e.2.2.1, e.2.2.2⟩
  · have e := se2 j (kds_mem t1 hj)
    rw [List.all_eq_true] at e
    exact beq_iff_eq.mp (e t (tys_mem t1 ht))
  · have hi : T.eqF k = some i := hi
    have k1 : k < T.cls.length := by
      have q := hi
      unfold KT.eqF at q
      split at q
      · rename_i o e
        exact Nat.lt_of_lt_of_le (List.getElem?_eq_some_iff.mp e).1 ta
      · cases q
    have e := se1 k (List.mem_range.mpr k1)
    rw [Bool.and_eq_true] at e
    obtain ⟨e0, e⟩ := e
    unfold insB at e0
    simp only [Bool.and_eq_true, beq_iff_eq] at e0
    unfold eqB at e
    rw [hi] at e
    simp only [Bool.and_eq_true, beq_iff_eq, List.all_eq_true] at e
    have t := tb k (List.mem_range.mpr k1)
    rw [hi] at t
    have t := of_decide_eq_true t
    cases q2 : ds[i]? with
    | none => rw [q2] at t; cases t
    | some d =>
      rw [q2] at t
      have t2 : d.1 = (T.c k, some ("__eq__" : Str)) := Option.some.inj t
      refine ⟨He.ma K (T.cl K k) "__eq__", He.cls_ok (inK k k1 _ (by simp)), e.1, e.2.1, e.2.2.1, e0.2.2.2, fun j hj => e.2.2.2 j (kds_mem t1 hj), ?_⟩
      have := def_at (h := h) (most := most) c hf hs q2
      rw [t2] at this
      exact this
/-! ### the law -/
/-- the law's def: its binding, its promise -/
theorem law_fn {P : Program} {w : World} {K : PySem.W.Frag} {h : Heap} {mg : Str → Option Value} {ds : List DS} {T : KT} {cs : List (Str × W)} {bs : List Fn} {most n : Nat} {f : Addr} (X : K.In h) (G : h.Ns mainGlobals mg) (c : TellsM ds T cs w K) (hf : fits (mkTop ds T cs) ds bs) (hs : sound ds = true) (hs2 : soundC cs = true) (hT : T.ok ds = true)
    {i : Nat} {d : DS} {b : Fn} {x : Str} (hd : ds[i]? = some d) (hb : bs[i]? = some b) (hp : psOf d.2.1 = [("script" : Str)]) (hx : d.1 = (x, none)) (hm : mg x = some (.ref f)) :
    ∃ fd : FuncData, (∀ (s : Shared) (v : Value), BindsTo s fd ⟨[v], []⟩ [("script", v)]) ∧ ∀ base : Heap, K.In base → base.Ns mainGlobals mg → FnOk P w K mg base (CX P w) (2 * n + 2) f fd ["script"] (spM (nmOf w K T) K (run (mkProg bs T cs most) (n + 1) i)) := by
  have ok : POk (nmOf w K T) K mg (mkTop ds T cs) (mkProg bs T cs most) := pok X G c hf hs hs2 hT
  have cd : He.SaysD (faOf ds T) (ds.map dOf) K := congrArg (fun z : AlM => z.1) c
  obtain ⟨⟨x', o⟩, pa, bo, sc⟩ := d
  cases hx
  have e1 : (ds.map dOf)[i]? = some (dOf ((x, none), pa, bo, sc)) := by rw [List.getElem?_map, hd]; rfl
  obtain ⟨fd, F⟩ := cd.def_ i e1
  have m := He.glo_ok X G (fact_mem cd (List.mem_append_left _ (List.mem_append_left _ (List.mem_map.mpr ⟨_, List.mem_filter.mpr ⟨List.mem_of_getElem? hd, rfl⟩, rfl⟩))))
  rw [hm] at m
  have ef : f = He.ga K x := by injection (Option.some.inj m)
  subst ef
  have e3 : (ds.map fun d => cFn (mkTop ds T cs) ((mkTop ds T cs).mu.contains (keyD d)) d.2.1 d.2.2.1 d.2.2.2)[i]? = (bs.map some)[i]? := by rw [hf]
  rw [List.getElem?_map, List.getElem?_map, hd, hb] at e3
  have e3 : cFn (mkTop ds T cs) ((mkTop ds T cs).mu.contains (keyD ((x, none), pa, bo, sc))) pa bo sc = some b := Option.some.inj e3
  unfold sound at hs
  rw [List.all_eq_true] at hs
  have hs1 := hs _ (List.mem_of_getElem? hd)
  rw [Bool.and_eq_true] at hs1
  have FB := F.bindsA (ps := psOf pa) fun kV doc pm an cdv ct us hl => bind_plain (fd := PySem.W.fnOf x x pa bo sc .none kV doc pm an cdv ct) (plain_of e3) rfl (ps_nodup hs1.1) us hl
  refine ⟨fd, fun s v => ?_, fun base _ _ => ?_⟩
  · have := FB s [v] (by rw [hp]; rfl)
    rw [hp] at this
    exact this
  · have := fn_ok1 (P := P) (w := w) (base := base) ok rfl (n := n) (fun i f h => fn_ok ok rfl n i f h) (i := i) hb F e3 hs1.1
    rw [← hp]
    exact this
/-- an exception behind a call, in some world -/
def CXw (P : Program) : CXT := fun outer H s E u s' => ∃ w, CX P w outer H s E u s'
theorem FnOk.any {P : Program} {w : World} {K : PySem.W.Frag} {mg : Str → Option Value} {base : Heap} {k : Nat} {f : Addr} {fd : FuncData} {ps : List Str} {sp : Sp} (F : FnOk P w K mg base (CX P w) k f fd ps sp) : FnOk P w K mg base (CXw P) k f fd ps sp := by
  refine ⟨F.len, fun A outer s H args us vs Q E hr he hb hv hs => codeAny_mono (F.run A outer s H args us vs Q E hr he hb hv hs) fun r s' q => ?_⟩
  cases r with
  | error e => exact ⟨w, q⟩
  | ok fl => cases fl <;> exact q
/-- the law's promise -/
theorem law_says {nm : Nm} {K : PySem.W.Frag} {D : Prog} {n i : Nat} {H : Hp} {a : Addr} {ns : List Int} (h : ∃ hm, run D n i [.kl (ns.map .int)] [] = .ok (.bl true) hm) (hO : Only H) (hS : SqL K H a (ns.map V.int)) :
    spM nm K (run D n i) [.ref a] H (fun v _ => v = .bl true) fun _ _ _ => False := by
  obtain ⟨hm, e⟩ := h
  have fz : FzL K H a (ns.map V.int) := by
    rcases hS with (h1 | ⟨o, h1⟩) | h1
    · rcases hO a with z | ⟨o, xs, z⟩
      · rw [z] at h1; cases h1
      · rw [z] at h1
        exact nomatch (Option.some.inj h1)
    · exact .inl ⟨o, h1⟩
    · exact .inr h1
  have q : ∀ ns : List Int, RWs K [] H (ns.map W.int) (ns.map V.int) := fun ns => by
    induction ns with
    | nil => exact .nil
    | cons i ns ih => exact .cons (.int i) ih
  refine ⟨[], [], [.kl (ns.map .int)], ⟨rfl, List.nodup_nil, fun i o a e => by simp at e⟩, .cons (.kl fz (q ns)) .nil, ?_⟩
  rw [e]
  exact fun p' H' v x s r => by cases r; rfl
end M2

namespace M2
def letters : List Nat := [97, 98, 99, 100, 101, 102, 103, 104, 105, 106, 107, 108, 109, 110, 111, 112, 113, 114, 115, 116, 117, 118, 119, 120, 121, 122]
def wordText : List Nat := [102, 111, 114, 101, 115, 116, 32, 107, 105, 110, 100, 32, 115, 116, 97, 110, 100, 32, 110, 101, 97, 114, 32, 103, 97, 112, 32, 115, 116, 111, 114, 109, 115, 32, 98, 101, 101, 116, 108, 101, 115, 32, 121, 97, 114, 100, 32, 100, 117, 101, 32, 102, 105, 114, 109, 32, 101, 110, 100]
def wordList : List (List Nat) := [[102, 111, 114, 101, 115, 116], [107, 105, 110, 100], [115, 116, 97, 110, 100], [110, 101, 97, 114], [103, 97, 112], [115, 116, 111, 114, 109, 115], [98, 101, 101, 116, 108, 101, 115], [121, 97, 114, 100], [100, 117, 101], [102, 105, 114, 109], [101, 110, 100]]
/-- the numbers of a text's names -/
structure Ix where
  is_number : Nat := 0
  is_within : Nat := 0
  is_listed : Nat := 0
  is_label : Nat := 0
  is_name : Nat := 0
  is_table : Nat := 0
  is_kind : Nat := 0
  oldest_in : Nat := 0
  has_twice : Nat := 0
  are_kinds : Nat := 0
  are_stands : Nat := 0
  are_near : Nat := 0
  is_weather : Nat := 0
  is_yard : Nat := 0
  Forest_init : Nat := 0
  Forest_keep_rows : Nat := 0
  Forest_eq : Nat := 0
  with_due : Nat := 0
  with_yard : Nat := 0
  with_weather : Nat := 0
  l_pot : Nat := 0
  l_draw : Nat := 0
  l_pick : Nat := 0
  l_mixed : Nat := 0
  l_same : Nat := 0
  l_words : Nat := 0
  l_word : Nat := 0
  l_is_label : Nat := 0
  l_is_name : Nat := 0
  l_names : Nat := 0
  l_table : Nat := 0
  l_kind : Nat := 0
  l_pairs : Nat := 0
  l_spec : Nat := 0
  l_made : Nat := 0
  l_oldest : Nat := 0
  l_parts : Nat := 0
  l_due_parts : Nat := 0
  g_WORDS : Nat := 0
  g_LETTERS : Nat := 0
  g_LONGEST : Nat := 0
  g_OLDEST : Nat := 0
  g_MOST_TIMBER : Nat := 0
  g_MOST_KINDS : Nat := 0
  g_MOST_STANDS : Nat := 0
  g_MOST_WEATHER : Nat := 0
  g_MOST_LID : Nat := 0
  g_MOST_DUE : Nat := 0
  c_Forest : Nat := 0
  m_init : Nat := 0
  m_keep_rows : Nat := 0
  m_eq : Nat := 0
  f_kinds : Nat := 0
  f_stands : Nat := 0
  f_near : Nat := 0
  f_gap : Nat := 0
  f_weather : Nat := 0
  f_yard : Nat := 0
  f_due : Nat := 0
  f_oldest : Nat := 0
  f_rows : Nat := 0
  f_beside : Nat := 0
  f_carriers : Nat := 0
  line_of : Nat := 0
  kind_lines : Nat := 0
  forest_lines : Nat := 0
  forest_text : Nat := 0
  number_in : Nat := 0
  numbers_in : Nat := 0
  Reader_init : Nat := 0
  Reader_takes : Nat := 0
  Reader_takes_kind : Nat := 0
  Reader_takes_table : Nat := 0
  Reader_takes_stand : Nat := 0
  Reader_takes_near : Nat := 0
  Reader_takes_last : Nat := 0
  Reader_finished : Nat := 0
  read_forest : Nat := 0
  l_lines : Nat := 0
  l_text_of : Nat := 0
  g_DIGITS : Nat := 0
  g_MOST_DIGITS : Nat := 0
  g_HEADS : Nat := 0
  g_SIZES : Nat := 0
  c_Reader : Nat := 0
  m_takes : Nat := 0
  m_takes_kind : Nat := 0
  m_takes_table : Nat := 0
  m_takes_stand : Nat := 0
  m_takes_near : Nat := 0
  m_takes_last : Nat := 0
  m_finished : Nat := 0
  f_stage : Nat := 0
  f_table : Nat := 0
  f_facts : Nat := 0
/-! the bodies that laws share, by such numbers -/
def B.is_number (I : Ix) : Fn := ⟨1, 1, [.ret (.and (.isi (.var 0) [.int]) (.not (.isi (.var 0) [.bool])))], true⟩

def B.is_within (I : Ix) : Fn := ⟨3, 3, [.ret (.and (.call I.is_number [(.var 0)]) (.cmp2 .le .le (.var 1) (.var 0) (.var 2)))], true⟩

def B.is_listed (I : Ix) : Fn := ⟨1, 1, [.ret (.isi (.var 0) [.list, .tuple])], true⟩

def B.is_label (I : Ix) : Fn := ⟨1, 1, [.ret (.and (.isi (.var 0) [.str]) (.and (.cmp2 .le .le (.int 1) (.b1 .len [(.var 0)]) (.glo I.g_LONGEST)) (.cmp .eq (.met .strip (.var 0) [(.glo I.g_LETTERS)]) (.str []))))], true⟩

def B.is_name (I : Ix) : Fn := ⟨1, 1, [.ret (.and (.call I.is_label [(.var 0)]) (.cmp .nmem (.var 0) (.glo I.g_WORDS)))], true⟩

def B.is_table (I : Ix) : Fn := ⟨2, 3, [.ite (.or (.not (.isi (.var 0) [.tuple])) (.cmp .ne (.b1 .len [(.var 0)]) (.bin .add (.var 1) (.int 1)))) [.ret (.bl false)] [],
  .ret (.bl1 .all (.lc [2] false [2] (.call I.is_within [(.var 2), (.int 0), (.glo I.g_MOST_TIMBER)]) .seq (.var 0) .non (.bl true)))], true⟩

def B.is_kind (I : Ix) : Fn := ⟨2, 2, [.ite (.or (.not (.isi (.var 0) [.tuple])) (.or (.cmp .ne (.b1 .len [(.var 0)]) (.int 6)) (.not (.call I.is_name [(.sub (.var 0) (.int 0))])))) [.ret (.bl false)] [],
  .ite (.or (.not (.call I.is_table [(.sub (.var 0) (.int 1)), (.var 1)])) (.not (.call I.is_table [(.sub (.var 0) (.int 2)), (.var 1)]))) [.ret (.bl false)] [],
  .ret (.and (.call I.is_within [(.sub (.var 0) (.int 3)), (.int 1), (.var 1)]) (.and (.call I.is_within [(.sub (.var 0) (.int 4)), (.int 1), (.var 1)]) (.isi (.sub (.var 0) (.int 5)) [.bool])))], true⟩

def B.oldest_in (I : Ix) : Fn := ⟨1, 2, [.asg (.var 1) (.sub (.var 0) (.int 0)),
  .ite (.or (.not (.isi (.var 1) [.tuple])) (.or (.cmp .ne (.b1 .len [(.var 1)]) (.int 6)) (.not (.isi (.sub (.var 1) (.int 1)) [.tuple])))) [.ret .non] [],
  .ret (.ite (.cmp2 .le .le (.int 1) (.bin .sub (.b1 .len [(.sub (.var 1) (.int 1))]) (.int 1)) (.glo I.g_OLDEST)) (.bin .sub (.b1 .len [(.sub (.var 1) (.int 1))]) (.int 1)) .non)], true⟩

def B.has_twice (I : Ix) : Fn := ⟨1, 2, [.ret (.cmp .lt (.b1 .len [(.dc [1] false [1] (.var 1) (.bl true) .seq (.var 0) .non (.bl true))]) (.b1 .len [(.var 0)]))], true⟩

def B.are_kinds (I : Ix) : Fn := ⟨1, 3, [.ite (.or (.not (.call I.is_listed [(.var 0)])) (.not (.cmp2 .le .le (.int 1) (.b1 .len [(.var 0)]) (.glo I.g_MOST_KINDS)))) [.ret (.bl false)] [],
  .asg (.var 1) (.call I.oldest_in [(.var 0)]),
  .ite (.or (.cmp .isN (.var 1) .non) (.not (.bl1 .all (.lc [2] false [2] (.call I.is_kind [(.var 2), (.var 1)]) .seq (.var 0) .non (.bl true))))) [.ret (.bl false)] [],
  .ret (.not (.call I.has_twice [(.lc [2] false [2] (.sub (.var 2) (.int 0)) .seq (.var 0) .non (.bl true))]))], true⟩

def B.are_stands (I : Ix) : Fn := ⟨3, 4, [.ite (.or (.not (.call I.is_listed [(.var 0)])) (.not (.cmp2 .le .le (.int 1) (.b1 .len [(.var 0)]) (.glo I.g_MOST_STANDS)))) [.ret (.bl false)] [],
  .for false [3] .seq (.var 0) .non [.ite (.or (.not (.isi (.var 3) [.tuple])) (.or (.cmp .ne (.b1 .len [(.var 3)]) (.int 3)) (.not (.call I.is_name [(.sub (.var 3) (.int 0))])))) [.ret (.bl false)] [],
  .ite (.or (.not (.isi (.sub (.var 3) (.int 1)) [.str])) (.or (.cmp .nmem (.sub (.var 3) (.int 1)) (.var 1)) (.not (.call I.is_within [(.sub (.var 3) (.int 2)), (.int 0), (.var 2)])))) [.ret (.bl false)] []],
  .ret (.not (.call I.has_twice [(.lc [3] false [3] (.sub (.var 3) (.int 0)) .seq (.var 0) .non (.bl true))]))], true⟩

def B.are_near (I : Ix) : Fn := ⟨2, 3, [.ite (.not (.call I.is_listed [(.var 0)])) [.ret (.bl false)] [],
  .for false [2] .seq (.var 0) .non [.ite (.or (.not (.isi (.var 2) [.tuple])) (.or (.cmp .ne (.b1 .len [(.var 2)]) (.int 2)) (.not (.call I.is_within [(.sub (.var 2) (.int 1)), (.int 1), (.bin .sub (.var 1) (.int 1))])))) [.ret (.bl false)] [],
  .ite (.not (.call I.is_within [(.sub (.var 2) (.int 0)), (.int 0), (.bin .sub (.sub (.var 2) (.int 1)) (.int 1))])) [.ret (.bl false)] []],
  .ret (.not (.call I.has_twice [(.var 0)]))], true⟩

def B.is_weather (I : Ix) : Fn := ⟨1, 2, [.ite (.or (.not (.isi (.var 0) [.tuple])) (.cmp .ne (.b1 .len [(.var 0)]) (.int 3))) [.ret (.bl false)] [],
  .ret (.bl1 .all (.lc [1] false [1] (.call I.is_within [(.var 1), (.int 0), (.glo I.g_MOST_WEATHER)]) .seq (.var 0) .non (.bl true)))], true⟩

def B.is_yard (I : Ix) : Fn := ⟨1, 1, [.ite (.or (.not (.isi (.var 0) [.tuple])) (.or (.cmp .ne (.b1 .len [(.var 0)]) (.int 2)) (.not (.call I.is_within [(.sub (.var 0) (.int 0)), (.int 0), (.glo I.g_MOST_LID)])))) [.ret (.bl false)] [],
  .ret (.call I.is_within [(.sub (.var 0) (.int 1)), (.int 0), (.sub (.var 0) (.int 0))])], true⟩

def B.Forest_init (I : Ix) : Fn := ⟨8, 10, [.ite (.not (.call I.are_kinds [(.var 1)])) [.nev] [],
  .asg (.var 8) (.call I.oldest_in [(.var 1)]),
  .ite (.not (.call I.are_stands [(.var 2), (.lc [9] false [9] (.sub (.var 9) (.int 0)) .seq (.var 1) .non (.bl true)), (.var 8)])) [.nev] [],
  .ite (.not (.call I.are_near [(.var 3), (.b1 .len [(.var 2)])])) [.nev] [],
  .ite (.not (.call I.is_within [(.var 4), (.int 0), (.var 8)])) [.nev] [],
  .ite (.not (.call I.is_weather [(.var 5)])) [.nev] [],
  .ite (.not (.call I.is_yard [(.var 6)])) [.nev] [],
  .ite (.not (.call I.is_within [(.var 7), (.int 0), (.glo I.g_MOST_DUE)])) [.nev] [],
  .asg (.fld (.var 0) I.f_kinds) (.bl1 .tuple (.var 1)),
  .asg (.fld (.var 0) I.f_stands) (.bl1 .tuple (.var 2)),
  .asg (.fld (.var 0) I.f_near) (.bl1 .tuple (.bl1 .sorted (.var 3))),
  .asg (.fld (.var 0) I.f_gap) (.var 4),
  .asg (.fld (.var 0) I.f_weather) (.var 5),
  .asg (.fld (.var 0) I.f_yard) (.var 6),
  .asg (.fld (.var 0) I.f_due) (.var 7),
  .asg (.fld (.var 0) I.f_oldest) (.var 8),
  .exp (.mcall I.m_keep_rows (.var 0) [])], true⟩

def B.Forest_keep_rows (I : Ix) : Fn := ⟨1, 8, [.asg (.var 2) (.dc [1] false [1] (.sub (.var 1) (.int 0)) (.var 1) .seq (.fld (.var 0) I.f_kinds) .non (.bl true)),
  .asg (.fld (.var 0) I.f_rows) (.lc [7] false [7] (.sub (.var 2) (.sub (.var 7) (.int 1))) .seq (.fld (.var 0) I.f_stands) .non (.bl true)),
  .asg (.fld (.var 0) I.f_beside) (.new (.lc [7] false [7] (.new (.lst [])) .seq (.fld (.var 0) I.f_stands) .non (.bl true))),
  .for true [3, 4] .seq (.fld (.var 0) I.f_near) .non [.exp (.met .append (.sub (.fld (.var 0) I.f_beside) (.var 3)) [(.var 4)]),
  .exp (.met .append (.sub (.fld (.var 0) I.f_beside) (.var 4)) [(.var 3)])],
  .asg (.fld (.var 0) I.f_carriers) (.new (.lst [])),
  .for true [5, 1] .enm (.fld (.var 0) I.f_rows) .non [.asg (.var 6) (.lc [4] false [4] (.var 4) .seq (.sub (.fld (.var 0) I.f_beside) (.var 5)) .non (.cmp .eq (.sub (.sub (.fld (.var 0) I.f_rows) (.var 4)) (.int 0)) (.sub (.var 1) (.int 0)))),
  .exp (.met .append (.fld (.var 0) I.f_carriers) [(.and (.cmp .gt (.sub (.fld (.var 0) I.f_weather) (.int 2)) (.int 0)) (.and (.sub (.var 1) (.int 5)) (.cmp .gt (.b1 .len [(.var 6)]) (.int 0))))])]], true⟩

def B.Forest_eq (I : Ix) : Fn := ⟨2, 2, [.ite (.not (.isi (.var 1) [(.cls I.c_Forest)])) [.ret (.bl false)] [],
  .ite (.or (.cmp .ne (.fld (.var 0) I.f_kinds) (.fld (.var 1) I.f_kinds)) (.or (.cmp .ne (.fld (.var 0) I.f_stands) (.fld (.var 1) I.f_stands)) (.cmp .ne (.fld (.var 0) I.f_near) (.fld (.var 1) I.f_near)))) [.ret (.bl false)] [],
  .ite (.or (.cmp .ne (.fld (.var 0) I.f_gap) (.fld (.var 1) I.f_gap)) (.cmp .ne (.fld (.var 0) I.f_weather) (.fld (.var 1) I.f_weather))) [.ret (.bl false)] [],
  .ret (.and (.cmp .eq (.fld (.var 0) I.f_yard) (.fld (.var 1) I.f_yard)) (.cmp .eq (.fld (.var 0) I.f_due) (.fld (.var 1) I.f_due)))], true⟩

def B.l_pot (I : Ix) : Fn := ⟨1, 2, [.ret (.new (.lst [(.new (.lc [1] false [1] (.b1 .abs [(.var 1)]) .seq (.slc (.var 0) false .non true (.int 63)) .non (.bl true))), (.int 0), (.int 20011), (.int 0)]))], false⟩

def B.l_draw (I : Ix) : Fn := ⟨2, 4, [.ite (.cmp .lt (.var 1) (.int 2)) [.ret (.int 0)] [],
  .ite (.cmp .gt (.sub (.var 0) (.int 3)) (.int 0)) [.asg (.var 2) (.bin .mod (.b1 .int [(.sub (.var 0) (.int 3))]) (.var 1)),
  .asg (.sub (.var 0) (.int 3)) (.bin .fdiv (.sub (.var 0) (.int 3)) (.var 1)),
  .ret (.var 2)] [],
  .asg (.var 3) (.int 0),
  .ite (.cmp .lt (.sub (.var 0) (.int 1)) (.b1 .len [(.sub (.var 0) (.int 0))])) [.asg (.var 3) (.sub (.sub (.var 0) (.int 0)) (.sub (.var 0) (.int 1))),
  .asg (.sub (.var 0) (.int 1)) (.bin .add (.sub (.var 0) (.int 1)) (.int 1)),
  .ite (.cmp .ge (.var 3) (.bin .pow (.int 10) (.int 18))) [.asg (.sub (.var 0) (.int 3)) (.bin .fdiv (.var 3) (.var 1)),
  .ret (.bin .mod (.b1 .int [(.var 3)]) (.var 1))] []] [],
  .asg (.sub (.var 0) (.int 2)) (.bin .mod (.b1 .int [(.bin .add (.bin .add (.bin .mul (.sub (.var 0) (.int 2)) (.int 48271)) (.var 3)) (.int 12345))]) (.int 2147483647)),
  .ret (.bin .mod (.b1 .int [(.bin .add (.bin .fdiv (.bin .mul (.sub (.var 0) (.int 2)) (.sub (.var 0) (.int 2))) (.int 64)) (.bin .fdiv (.sub (.var 0) (.int 2)) (.int 7)))]) (.var 1))], true⟩

def B.l_pick (I : Ix) : Fn := ⟨2, 2, [.ret (.sub (.var 1) (.call I.l_draw [(.var 0), (.b1 .len [(.var 1)])]))], true⟩

def B.l_same (I : Ix) : Fn := ⟨2, 3, [.ite (.or (.isi (.var 1) [.tuple]) (.isi (.var 1) [.list])) [.ite (.or (.cmp .ne (.isi (.var 1) [.tuple]) (.isi (.var 0) [.tuple])) (.cmp .ne (.isi (.var 1) [.list]) (.isi (.var 0) [.list]))) [.ret (.bl false)] [],
  .ite (.cmp .ne (.b1 .len [(.var 0)]) (.b1 .len [(.var 1)])) [.ret (.bl false)] [],
  .ret (.cmp .eq (.lc [2] false [2] (.var 2) .rng1 (.b1 .len [(.var 1)]) .non (.not (.call I.l_same [(.sub (.var 0) (.var 2)), (.sub (.var 1) (.var 2))]))) (.lst []))] [],
  .ite (.cmp .isN (.var 1) .non) [.ret (.cmp .isN (.var 0) .non)] [],
  .ite (.isi (.var 1) [.str]) [.ret (.and (.isi (.var 0) [.str]) (.cmp .eq (.var 0) (.var 1)))] [],
  .ret (.and (.isi (.var 0) [.int]) (.and (.cmp .eq (.isi (.var 0) [.bool]) (.isi (.var 1) [.bool])) (.cmp .eq (.var 0) (.var 1))))], true⟩

def B.l_words (I : Ix) : Fn := ⟨0, 0, [.ret (.met .split (.str wordText) [(.str [32])])], true⟩

def B.l_word (I : Ix) : Fn := ⟨1, 3, [.ite (.cmp .eq (.call I.l_draw [(.var 0), (.int 6)]) (.int 0)) [.ret (.call I.l_pick [(.var 0), (.call I.l_words [])])] [],
  .asg (.var 1) (.call I.l_pick [(.var 0), (.lst [(.int 1), (.int 2), (.int 3), (.int 5), (.int 8)])]),
  .ret (.met .join (.str []) [(.lc [2] false [2] (.call I.l_pick [(.var 0), (.str letters)]) .rng1 (.var 1) .non (.bl true))])], true⟩

def B.l_is_label (I : Ix) : Fn := ⟨1, 2, [.ite (.or (.not (.isi (.var 0) [.str])) (.not (.cmp2 .le .le (.int 1) (.b1 .len [(.var 0)]) (.int 8)))) [.ret (.bl false)] [],
  .ret (.cmp .eq (.bl1 .len (.lc [1] false [1] (.var 1) .seq (.var 0) .non (.cmp .mem (.var 1) (.str letters)))) (.b1 .len [(.var 0)]))], true⟩

def B.l_is_name (I : Ix) : Fn := ⟨1, 1, [.ret (.and (.call I.l_is_label [(.var 0)]) (.cmp .nmem (.var 0) (.call I.l_words [])))], true⟩

def B.l_names (I : Ix) : Fn := ⟨3, 9, [.asg (.var 3) (.new (.lst [])),
  .for false [4] .rng1 (.var 1) .non [.asg (.var 5) (.slc (.call I.l_word [(.var 0)]) false .non true (.int 7)),
  .asg (.var 6) (.lc [7] false [7] (.bin .add (.var 5) (.var 7)) .seq (.str letters) .non (.bl true)),
  .exp (.met .append (.var 3) [(.sub (.lc [8] false [8] (.var 8) .seq (.var 6) .non (.and (.cmp .nmem (.var 8) (.bin .add (.var 2) (.var 3))) (.call I.l_is_name [(.var 8)]))) (.int 0))])],
  .ret (.var 3)], true⟩

def B.l_table (I : Ix) : Fn := ⟨3, 5, [.asg (.var 3) (.call I.l_draw [(.var 0), (.int 3)]),
  .ite (.cmp .eq (.var 3) (.int 0)) [.ret (.bl1 .tuple (.lc [4] false [4] (.call I.l_draw [(.var 0), (.bin .add (.var 2) (.int 1))]) .rng1 (.bin .add (.var 1) (.int 1)) .non (.bl true)))] [],
  .ret (.bl1 .tuple (.lc [4] false [4] (.b1 .min2 [(.int 99), (.bin .mul (.var 4) (.bin .add (.int 1) (.call I.l_draw [(.var 0), (.int 3)])))]) .rng1 (.bin .add (.var 1) (.int 1)) .non (.bl true)))], true⟩

def B.l_kind (I : Ix) : Fn := ⟨4, 8, [.par [4, 5] [(.bin .add (.int 1) (.call I.l_draw [(.var 0), (.var 2)])), (.bin .add (.int 1) (.call I.l_draw [(.var 0), (.var 2)]))],
  .par [6, 7] [(.call I.l_table [(.var 0), (.var 2), (.var 3)]), (.call I.l_table [(.var 0), (.var 2), (.var 3)])],
  .ret (.tup [(.var 1), (.var 6), (.var 7), (.var 4), (.var 5), (.cmp .eq (.call I.l_draw [(.var 0), (.int 2)]) (.int 0))])], true⟩

def B.l_pairs (I : Ix) : Fn := ⟨1, 4, [.asg (.var 1) (.lst []),
  .for false [2] .rng1 (.var 0) .non [.asg (.var 1) (.bin .add (.var 1) (.lc [3] false [3] (.tup [(.var 3), (.var 2)]) .rng1 (.var 2) .non (.bl true)))],
  .ret (.var 1)], true⟩

def B.l_spec (I : Ix) : Fn := ⟨2, 13, [.asg (.var 2) (.bin .add (.int 1) (.call I.l_draw [(.var 0), (.sub (.var 1) (.int 1))])),
  .asg (.var 3) (.call I.l_names [(.var 0), (.bin .add (.int 1) (.call I.l_draw [(.var 0), (.int 3)])), (.lst [])]),
  .asg (.var 4) (.lc [11] false [11] (.call I.l_kind [(.var 0), (.var 11), (.var 2), (.sub (.var 1) (.int 2))]) .seq (.var 3) .non (.bl true)),
  .asg (.var 5) (.call I.l_names [(.var 0), (.bin .add (.int 1) (.call I.l_draw [(.var 0), (.sub (.var 1) (.int 0))])), (.lst [])]),
  .asg (.var 6) (.lc [11] false [11] (.tup [(.var 11), (.call I.l_pick [(.var 0), (.var 3)]), (.call I.l_draw [(.var 0), (.bin .add (.var 2) (.int 1))])]) .seq (.var 5) .non (.bl true)),
  .asg (.var 7) (.lc [12] false [12] (.var 12) .seq (.call I.l_pairs [(.b1 .len [(.var 5)])]) .non (.cmp .eq (.call I.l_draw [(.var 0), (.int 2)]) (.int 0))),
  .asg (.var 8) (.tup [(.call I.l_draw [(.var 0), (.bin .add (.sub (.var 1) (.int 3)) (.int 1))]), (.call I.l_draw [(.var 0), (.bin .add (.sub (.var 1) (.int 4)) (.int 1))]), (.call I.l_draw [(.var 0), (.bin .add (.sub (.var 1) (.int 5)) (.int 1))])]),
  .asg (.var 9) (.call I.l_draw [(.var 0), (.bin .add (.sub (.var 1) (.int 6)) (.int 1))]),
  .asg (.var 10) (.tup [(.var 9), (.call I.l_draw [(.var 0), (.bin .add (.var 9) (.int 1))])]),
  .ret (.lst [(.var 4), (.var 6), (.var 7), (.call I.l_draw [(.var 0), (.bin .add (.var 2) (.int 1))]), (.var 8), (.var 10), (.call I.l_draw [(.var 0), (.bin .add (.sub (.var 1) (.int 7)) (.int 1))])])], true⟩

def B.l_made (I : Ix) : Fn := ⟨1, 1, [.ret (.make I.c_Forest [(.bl1 .list (.sub (.var 0) (.int 0))), (.bl1 .list (.sub (.var 0) (.int 1))), (.bl1 .tuple (.sub (.var 0) (.int 2))), (.sub (.var 0) (.int 3)), (.sub (.var 0) (.int 4)), (.sub (.var 0) (.int 5)), (.sub (.var 0) (.int 6))])], true⟩

def B.with_due (I : Ix) : Fn := ⟨2, 2, [.ret (.make I.c_Forest [(.fld (.var 0) I.f_kinds), (.fld (.var 0) I.f_stands), (.fld (.var 0) I.f_near), (.fld (.var 0) I.f_gap), (.fld (.var 0) I.f_weather), (.fld (.var 0) I.f_yard), (.var 1)])], true⟩

def B.with_yard (I : Ix) : Fn := ⟨3, 3, [.ret (.make I.c_Forest [(.fld (.var 0) I.f_kinds), (.fld (.var 0) I.f_stands), (.fld (.var 0) I.f_near), (.fld (.var 0) I.f_gap), (.fld (.var 0) I.f_weather), (.tup [(.var 1), (.var 2)]), (.fld (.var 0) I.f_due)])], true⟩

def B.with_weather (I : Ix) : Fn := ⟨4, 5, [.asg (.var 4) (.tup [(.var 1), (.var 2), (.var 3)]),
  .ret (.make I.c_Forest [(.fld (.var 0) I.f_kinds), (.fld (.var 0) I.f_stands), (.fld (.var 0) I.f_near), (.fld (.var 0) I.f_gap), (.var 4), (.fld (.var 0) I.f_yard), (.fld (.var 0) I.f_due)])], true⟩

/-! bodies of the texts of forests -/
def B.line_of (I : Ix) : Fn := ⟨1, 2, [.ret (.met .join (.str [32]) [(.lc [1] false [1] (.b1 .str [(.var 1)]) .seq (.var 0) .non (.bl true))])], true⟩

def B.kind_lines (I : Ix) : Fn := ⟨1, 7, [.asg (.tup [1, 2, 3, 4, 5, 6]) (.var 0),
  .ret (.lst [(.call I.line_of [(.lst [(.str [107, 105, 110, 100]), (.var 1), (.var 4), (.var 5), (.ite (.var 6) (.str [98, 101, 101, 116, 108, 101, 115]) (.str [102, 105, 114, 109]))])]), (.call I.line_of [(.var 2)]), (.call I.line_of [(.var 3)])])], true⟩

def B.forest_lines (I : Ix) : Fn := ⟨1, 5, [.asg (.var 1) (.new (.lst [])),
  .for false [2] .seq (.fld (.var 0) I.f_kinds) .non [.exp (.met .extend (.var 1) [(.call I.kind_lines [(.var 2)])])],
  .for false [3] .seq (.fld (.var 0) I.f_stands) .non [.exp (.met .append (.var 1) [(.call I.line_of [(.lss [(.str [115, 116, 97, 110, 100])] (.var 3))])])],
  .for false [4] .seq (.fld (.var 0) I.f_near) .non [.exp (.met .append (.var 1) [(.call I.line_of [(.lss [(.str [110, 101, 97, 114])] (.var 4))])])],
  .exp (.met .append (.var 1) [(.call I.line_of [(.lst [(.str [103, 97, 112]), (.fld (.var 0) I.f_gap)])])]),
  .exp (.met .append (.var 1) [(.call I.line_of [(.lss [(.str [115, 116, 111, 114, 109, 115])] (.fld (.var 0) I.f_weather))])]),
  .exp (.met .append (.var 1) [(.call I.line_of [(.lss [(.str [121, 97, 114, 100])] (.fld (.var 0) I.f_yard))])]),
  .ret (.bin .add (.var 1) (.lst [(.call I.line_of [(.lst [(.str [100, 117, 101]), (.fld (.var 0) I.f_due)])]), (.str [101, 110, 100])]))], true⟩

def B.forest_text (I : Ix) : Fn := ⟨1, 2, [.ret (.met .join (.str []) [(.lc [1] false [1] (.bin .add (.var 1) (.str [10])) .seq (.call I.forest_lines [(.var 0)]) .non (.bl true))])], true⟩

def B.number_in (I : Ix) : Fn := ⟨1, 1, [.ite (.or (.not (.cmp2 .le .le (.int 1) (.b1 .len [(.var 0)]) (.glo I.g_MOST_DIGITS))) (.cmp .ne (.met .strip (.var 0) [(.glo I.g_DIGITS)]) (.str []))) [.ret .non] [],
  .ret (.ite (.and (.cmp .eq (.sub (.var 0) (.int 0)) (.str [48])) (.cmp .ne (.var 0) (.str [48]))) .non (.b1 .int [(.var 0)]))], true⟩

def B.numbers_in (I : Ix) : Fn := ⟨1, 3, [.asg (.var 1) (.lc [2] false [2] (.call I.number_in [(.var 2)]) .seq (.var 0) .non (.bl true)),
  .ret (.ite (.cmp .mem .non (.var 1)) .non (.bl1 .tuple (.var 1)))], true⟩

def B.Reader_init (I : Ix) : Fn := ⟨1, 1, [.asg (.fld (.var 0) I.f_stage) (.int 0),
  .asg (.fld (.var 0) I.f_table) .non,
  .asg (.fld (.var 0) I.f_kinds) (.new (.lst [])),
  .asg (.fld (.var 0) I.f_stands) (.new (.lst [])),
  .asg (.fld (.var 0) I.f_near) (.new (.lst [])),
  .asg (.fld (.var 0) I.f_facts) (.dct [])], true⟩

def B.Reader_takes (I : Ix) : Fn := ⟨2, 2, [.ite (.cmp .notN (.fld (.var 0) I.f_table) .non) [.ret (.mcall I.m_takes_table (.var 0) [(.var 1)])] [],
  .ite (.and (.cmp .eq (.sub (.var 1) (.int 0)) (.str [107, 105, 110, 100])) (.cmp .eq (.fld (.var 0) I.f_stage) (.int 0))) [.ret (.mcall I.m_takes_kind (.var 0) [(.var 1)])] [],
  .ite (.and (.cmp .eq (.sub (.var 1) (.int 0)) (.str [115, 116, 97, 110, 100])) (.cmp .lt (.fld (.var 0) I.f_stage) (.int 2))) [.ret (.mcall I.m_takes_stand (.var 0) [(.var 1)])] [],
  .ite (.and (.cmp .eq (.sub (.var 1) (.int 0)) (.str [110, 101, 97, 114])) (.cmp .lt (.fld (.var 0) I.f_stage) (.int 3))) [.ret (.mcall I.m_takes_near (.var 0) [(.var 1)])] [],
  .ret (.mcall I.m_takes_last (.var 0) [(.var 1)])], true⟩

def B.Reader_takes_kind (I : Ix) : Fn := ⟨2, 3, [.ite (.or (.cmp .ne (.b1 .len [(.var 1)]) (.int 5)) (.or (.not (.call I.is_name [(.sub (.var 1) (.int 1))])) (.cmp .nmem (.sub (.var 1) (.int 4)) (.tup [(.str [98, 101, 101, 116, 108, 101, 115]), (.str [102, 105, 114, 109])])))) [.ret (.bl false)] [],
  .asg (.var 2) (.call I.numbers_in [(.slc (.var 1) true (.int 2) true (.int 4))]),
  .ite (.cmp .isN (.var 2) .non) [.ret (.bl false)] [],
  .asg (.fld (.var 0) I.f_table) (.new (.lst [(.sub (.var 1) (.int 1)), (.var 2), (.cmp .eq (.sub (.var 1) (.int 4)) (.str [98, 101, 101, 116, 108, 101, 115]))])),
  .ret (.bl true)], true⟩

def B.Reader_takes_table (I : Ix) : Fn := ⟨2, 8, [.asg (.var 2) (.call I.numbers_in [(.var 1)]),
  .ite (.cmp .isN (.var 2) .non) [.ret (.bl false)] [],
  .exp (.met .append (.fld (.var 0) I.f_table) [(.var 2)]),
  .ite (.cmp .eq (.b1 .len [(.fld (.var 0) I.f_table)]) (.int 5)) [.asg (.tup [3, 4, 5, 6, 7]) (.fld (.var 0) I.f_table),
  .exp (.met .append (.fld (.var 0) I.f_kinds) [(.tup [(.var 3), (.var 6), (.var 7), (.sub (.var 4) (.int 0)), (.sub (.var 4) (.int 1)), (.var 5)])]),
  .asg (.fld (.var 0) I.f_table) .non] [],
  .ret (.bl true)], true⟩

def B.Reader_takes_stand (I : Ix) : Fn := ⟨2, 3, [.ite (.or (.cmp .eq (.b1 .len [(.fld (.var 0) I.f_kinds)]) (.int 0)) (.or (.cmp .ne (.b1 .len [(.var 1)]) (.int 4)) (.or (.not (.call I.is_name [(.sub (.var 1) (.int 1))])) (.not (.call I.is_name [(.sub (.var 1) (.int 2))]))))) [.ret (.bl false)] [],
  .asg (.var 2) (.call I.numbers_in [(.slc (.var 1) true (.int 3) false .non)]),
  .ite (.cmp .isN (.var 2) .non) [.ret (.bl false)] [],
  .asg (.fld (.var 0) I.f_stage) (.int 1),
  .exp (.met .append (.fld (.var 0) I.f_stands) [(.tup [(.sub (.var 1) (.int 1)), (.sub (.var 1) (.int 2)), (.sub (.var 2) (.int 0))])]),
  .ret (.bl true)], true⟩

def B.Reader_takes_near (I : Ix) : Fn := ⟨2, 3, [.asg (.var 2) (.call I.numbers_in [(.slc (.var 1) true (.int 1) false .non)]),
  .ite (.or (.cmp .eq (.b1 .len [(.fld (.var 0) I.f_stands)]) (.int 0)) (.or (.cmp .ne (.b1 .len [(.var 1)]) (.int 3)) (.cmp .isN (.var 2) .non))) [.ret (.bl false)] [],
  .asg (.fld (.var 0) I.f_stage) (.int 2),
  .exp (.met .append (.fld (.var 0) I.f_near) [(.var 2)]),
  .ret (.bl true)], true⟩

def B.Reader_takes_last (I : Ix) : Fn := ⟨2, 4, [.ite (.or (.cmp .eq (.b1 .len [(.fld (.var 0) I.f_stands)]) (.int 0)) (.cmp .eq (.fld (.var 0) I.f_stage) (.int 8))) [.ret (.bl false)] [],
  .asg (.fld (.var 0) I.f_stage) (.b1 .max2 [(.fld (.var 0) I.f_stage), (.int 3)]),
  .ite (.cmp .eq (.fld (.var 0) I.f_stage) (.int 7)) [.asg (.fld (.var 0) I.f_stage) (.int 8),
  .ret (.cmp .eq (.var 1) (.lst [(.str [101, 110, 100])]))] [],
  .asg (.var 2) (.sub (.glo I.g_HEADS) (.bin .sub (.fld (.var 0) I.f_stage) (.int 3))),
  .asg (.var 3) (.call I.numbers_in [(.slc (.var 1) true (.int 1) false .non)]),
  .ite (.or (.cmp .ne (.sub (.var 1) (.int 0)) (.var 2)) (.or (.cmp .ne (.b1 .len [(.var 1)]) (.bin .add (.gd I.g_SIZES (.var 2)) (.int 1))) (.cmp .isN (.var 3) .non))) [.ret (.bl false)] [],
  .asg (.sub (.fld (.var 0) I.f_facts) (.var 2)) (.var 3),
  .asg (.fld (.var 0) I.f_stage) (.bin .iadd (.fld (.var 0) I.f_stage) (.int 1)),
  .ret (.bl true)], true⟩

def B.Reader_finished (I : Ix) : Fn := ⟨1, 3, [.asg (.var 1) (.fld (.var 0) I.f_facts),
  .asg (.var 2) (.sub (.sub (.var 1) (.str [103, 97, 112])) (.int 0)),
  .ret (.make I.c_Forest [(.fld (.var 0) I.f_kinds), (.fld (.var 0) I.f_stands), (.fld (.var 0) I.f_near), (.var 2), (.sub (.var 1) (.str [115, 116, 111, 114, 109, 115])), (.sub (.var 1) (.str [121, 97, 114, 100])), (.sub (.sub (.var 1) (.str [100, 117, 101])) (.int 0))])], true⟩

def B.read_forest (I : Ix) : Fn := ⟨1, 6, [.ite (.not (.isi (.var 0) [.str])) [.nev] [],
  .asg (.var 1) (.met .split (.var 0) [(.str [10])]),
  .asg (.var 2) (.make I.c_Reader []),
  .for true [3, 4] .enm (.var 1) .non [.ite (.cmp .eq (.var 3) (.bin .sub (.b1 .len [(.var 1)]) (.int 1))) [.ite (.cmp .ne (.var 4) (.str [])) [.nev] []] [.asg (.var 5) (.met .split (.var 4) [(.str [32])]),
  .ite (.cmp .mem (.str []) (.var 5)) [.nev] [],
  .ite (.not (.mcall I.m_takes (.var 2) [(.var 5)])) [.nev] []]],
  .ite (.cmp .ne (.fld (.var 2) I.f_stage) (.int 8)) [.nev] [],
  .ret (.mcall I.m_finished (.var 2) [])], true⟩

def B.l_lines (I : Ix) : Fn := ⟨1, 7, [.asg (.var 1) (.new (.lst [])),
  .for false [2] .seq (.sub (.var 0) (.int 0)) .non [.exp (.met .append (.var 1) [(.met .join (.str [32]) [(.lst [(.str [107, 105, 110, 100]), (.sub (.var 2) (.int 0)), (.b1 .str [(.sub (.var 2) (.int 3))]), (.b1 .str [(.sub (.var 2) (.int 4))]), (.ite (.sub (.var 2) (.int 5)) (.str [98, 101, 101, 116, 108, 101, 115]) (.str [102, 105, 114, 109]))])])]),
  .asg (.var 1) (.new (.bin .add (.var 1) (.lc [5] false [5] (.met .join (.str [32]) [(.lc [6] false [6] (.b1 .str [(.var 6)]) .seq (.var 5) .non (.bl true))]) .seq (.slc (.var 2) true (.int 1) true (.int 3)) .non (.bl true))))],
  .for false [3] .seq (.sub (.var 0) (.int 1)) .non [.exp (.met .append (.var 1) [(.bin .add (.bin .add (.bin .add (.bin .add (.bin .add (.str [115, 116, 97, 110, 100, 32]) (.sub (.var 3) (.int 0))) (.str [32])) (.sub (.var 3) (.int 1))) (.str [32])) (.b1 .str [(.sub (.var 3) (.int 2))]))])],
  .for false [4] .seq (.bl1 .sorted (.sub (.var 0) (.int 2))) .non [.exp (.met .append (.var 1) [(.bin .add (.bin .add (.bin .add (.str [110, 101, 97, 114, 32]) (.b1 .str [(.sub (.var 4) (.int 0))])) (.str [32])) (.b1 .str [(.sub (.var 4) (.int 1))]))])],
  .exp (.met .append (.var 1) [(.bin .add (.str [103, 97, 112, 32]) (.b1 .str [(.sub (.var 0) (.int 3))]))]),
  .exp (.met .append (.var 1) [(.bin .add (.str [115, 116, 111, 114, 109, 115, 32]) (.met .join (.str [32]) [(.lc [6] false [6] (.b1 .str [(.var 6)]) .seq (.sub (.var 0) (.int 4)) .non (.bl true))]))]),
  .ret (.bin .add (.var 1) (.lst [(.bin .add (.bin .add (.bin .add (.str [121, 97, 114, 100, 32]) (.b1 .str [(.sub (.sub (.var 0) (.int 5)) (.int 0))])) (.str [32])) (.b1 .str [(.sub (.sub (.var 0) (.int 5)) (.int 1))])), (.bin .add (.str [100, 117, 101, 32]) (.b1 .str [(.sub (.var 0) (.int 6))])), (.str [101, 110, 100])]))], true⟩

def B.l_text_of (I : Ix) : Fn := ⟨1, 2, [.ret (.met .join (.str []) [(.lc [1] false [1] (.bin .add (.var 1) (.str [10])) .seq (.call I.l_lines [(.var 0)]) .non (.bl true))])], true⟩

end M2

namespace M2
/-! ### steps -/
section
variable {A B : Type}
@[simp] theorem then_okk (a : A) (h : Hm) (k : A → Hm → R B) : (R.ok a h).then k = k a h := id rfl
@[simp] theorem then_badk (k : A → Hm → R B) : (R.bad : R A).then k = .bad := id rfl
@[simp] theorem ofR_ok (a : A) (h : Hm) (s : Env) (k : A → Hm → RS) : RS.ofR (R.ok a h) s k = k a h := id rfl
@[simp] theorem seq_nx (s : Env) (h : Hm) (k : Env → Hm → RS) : (RS.nx s h).seq k = k s h := id rfl
@[simp] theorem seq_rt (w : W) (h : Hm) (k : Env → Hm → RS) : (RS.rt w h).seq k = .rt w h := id rfl
@[simp] theorem iteB_t (a b : Hm → R A) (h : Hm) : iteB a b true h = a h := id rfl
@[simp] theorem iteB_f (a b : Hm → R A) (h : Hm) : iteB a b false h = b h := id rfl
@[simp] theorem truth_bl (h : Hm) (b : Bool) : truth h (.bl b) = some b := id rfl
@[simp] theorem truthOf_bl (h : Hm) (b : Bool) : truthOf (.bl b) h = .ok b h := id rfl
@[simp] theorem andV_t (b : Hm → R W) (h : Hm) : andV b (.bl true) h = b h := id rfl
@[simp] theorem andV_f (b : Hm → R W) (h : Hm) : andV b (.bl false) h = .ok (.bl false) h := id rfl
@[simp] theorem orV_t (b : Hm → R W) (h : Hm) : orV b (.bl true) h = .ok (.bl true) h := id rfl
@[simp] theorem orV_f (b : Hm → R W) (h : Hm) : orV b (.bl false) h = b h := id rfl
@[simp] theorem notV_ok (b : Bool) (h : Hm) : notV b h = .ok (.bl (!b)) h := id rfl
@[simp] theorem notB_ok (b : Bool) (h : Hm) : notB b h = .ok (!b) h := id rfl
theorem andV_b (b : Hm → R W) (x : Bool) (h : Hm) : andV b (.bl x) h = if x then b h else .ok (.bl false) h := by cases x <;> rfl
theorem iteB_b (a b : Hm → R A) (x : Bool) (h : Hm) : iteB a b x h = if x then a h else b h := by cases x <;> rfl
@[simp] theorem mkV_v (v : DV) : (mkV v).v = v := id rfl
@[simp] theorem mkV_t (v : DV) : (mkV v).t = fun s h => (v s h).then truthOf := id rfl
@[simp] theorem mkV_l (v : DV) : (mkV v).l = fun s h => (v s h).then rowOf := id rfl
@[simp] theorem mkL_v (l : DL) : (mkL l).v = fun s h => (l s h).then klV := id rfl
@[simp] theorem klV_ok (l : List W) (h : Hm) : klV l h = .ok (.kl l) h := id rfl
@[simp] theorem thaw_ok (l : List W) (h : Hm) : thaw (.kl l) h = .ok (.ref h.length) (h ++ [.lst l]) := id rfl
@[simp] theorem mkL_l (l : DL) : (mkL l).l = l := id rfl
end
@[simp] theorem var_some {i : Nat} {s : Env} {h : Hm} {w : W} (e : s[i]? = some (some w)) : varV i s h = .ok w h := by unfold varV; rw [e]
@[simp] theorem c_lt (i j : Int) (h : Hm) : cmpop .lt (.int i) (.int j) h = .ok (.bl (decide (i < j))) h := id rfl
@[simp] theorem c_le (i j : Int) (h : Hm) : cmpop .le (.int i) (.int j) h = .ok (.bl (decide (i ≤ j))) h := id rfl
@[simp] theorem c_gt (i j : Int) (h : Hm) : cmpop .gt (.int i) (.int j) h = .ok (.bl (decide (j < i))) h := id rfl
@[simp] theorem c_ge (i j : Int) (h : Hm) : cmpop .ge (.int i) (.int j) h = .ok (.bl (decide (j ≤ i))) h := id rfl
@[simp] theorem c_eq (x y : W) (h : Hm) : cmpop .eq x y h = rb (eqV h x y) h := id rfl
@[simp] theorem c_ne (x y : W) (h : Hm) : cmpop .ne x y h = rnb (eqV h x y) h := id rfl
@[simp] theorem c_mem (x y : W) (h : Hm) : cmpop .mem x y h = rb (memV h x y) h := id rfl
@[simp] theorem c_nmem (x y : W) (h : Hm) : cmpop .nmem x y h = rnb (memV h x y) h := id rfl
@[simp] theorem rb_ok (b : Bool) (h : Hm) : rb (some b) h = .ok (.bl b) h := id rfl
@[simp] theorem rnb_ok (b : Bool) (h : Hm) : rnb (some b) h = .ok (.bl (!b)) h := id rfl
@[simp] theorem eqV_int (h : Hm) (i j : Int) : eqV h (.int i) (.int j) = some (i == j) := id rfl
@[simp] theorem eqV_str (h : Hm) (i j : List Nat) : eqV h (.str i) (.str j) = some (i == j) := id rfl
@[simp] theorem eqV_bl (h : Hm) (i j : Bool) : eqV h (.bl i) (.bl j) = some (i == j) := id rfl
@[simp] theorem b_add (i j : Int) (h : Hm) : binop .add (.int i) (.int j) h = .ok (.int (i + j)) h := id rfl
@[simp] theorem b_sub (i j : Int) (h : Hm) : binop .sub (.int i) (.int j) h = .ok (.int (i - j)) h := id rfl
theorem b_mod {i j : Int} {h : Hm} (hj : 0 < j) : binop .mod (.int i) (.int j) h = .ok (.int (i % j)) h := by show (if 0 < j then _ else _) = _; rw [if_pos hj]
theorem b_fdiv {i j : Int} {h : Hm} (hj : 0 < j) (hl : j.natAbs.log2 < 9000) : binop .fdiv (.int i) (.int j) h = .ok (.int (i / j)) h := by show (if 0 < j ∧ _ then _ else _) = _; rw [if_pos ⟨hj, hl⟩]
theorem b_mul {i j : Int} {h : Hm} (hl : i.natAbs.log2 + j.natAbs.log2 < 1000000) : binop .mul (.int i) (.int j) h = .ok (.int (i * j)) h := by show (if _ then _ else _) = _; rw [if_pos hl]
theorem b_pow {i j : Int} {h : Hm} (h1 : 0 ≤ j) (h2 : j ≤ 1000000) (h3 : i.natAbs < 2 ^ 64) : binop .pow (.int i) (.int j) h = .ok (.int (i ^ j.toNat)) h := by show (if _ then _ else _) = _; rw [if_pos ⟨h1, h2, h3⟩]
@[simp] theorem b1_int (i : Int) (h : Hm) : b1op .int [.int i] h = .ok (.int i) h := id rfl
@[simp] theorem b1_abs (i : Int) (h : Hm) : b1op .abs [.int i] h = .ok (.int (if i < 0 then -i else i)) h := id rfl
/-- a while's turns, by what its test and its body do -/
theorem whl_pair {c : Env → Hm → R Bool} {f : Env → Hm → RS} {h : Hm} {S : Int → Int → Env} {fa fb : Int → Int → Int} (meas : Int → Int → Nat) (ok go : Int → Int → Prop) (hg : ∀ a b, Decidable (go a b))
    (hc : ∀ a b, ok a b → c (S a b) h = .ok (decide (go a b)) h) (hf : ∀ a b, ok a b → go a b → f (S a b) h = .nx (S (fa a b) (fb a b)) h ∧ ok (fa a b) (fb a b) ∧ meas (fa a b) (fb a b) < meas a b) (P : Int → Int → Env → Prop)
    (hp : ∀ a b, ok a b → ¬ go a b → P a b (S a b)) (hs : ∀ a b s, ok a b → go a b → P (fa a b) (fb a b) s → P a b s) : ∀ (m : Nat) (a b : Int), ok a b → meas a b < m → ∃ s, whlGo c f m (S a b) h = .nx s h ∧ P a b s
  | 0, _, _, _, hm => by omega
  | m + 1, a, b, o, hm => by
    rw [whlGo, hc a b o]
    by_cases h0 : go a b
    · obtain ⟨h1, h2, h3⟩ := hf a b o h0
      simp only [decide_eq_true h0, h1]
      obtain ⟨s, e, p⟩ := whl_pair meas ok go hg hc hf P hp hs m (fa a b) (fb a b) h2 (by omega)
      exact ⟨s, e, hs a b s o h0 p⟩
    · simp only [decide_eq_false h0]
      exact ⟨_, rfl, hp a b o h0⟩
@[simp] theorem evSs_nil (C : Ctx) (s : Env) (h : Hm) : evSs C [] s h = .nx s h := by rw [evSs]
theorem evSs_nx {C : Ctx} {x : S} {l : List S} {s s' : Env} {h h' : Hm} (e : evS C x s h = .nx s' h') : evSs C (x :: l) s h = evSs C l s' h' := by rw [evSs, e]; rfl
theorem evSs_rt {C : Ctx} {x : S} {l : List S} {s : Env} {h h' : Hm} {w : W} (e : evS C x s h = .rt w h') : evSs C (x :: l) s h = .rt w h' := by rw [evSs, e]; rfl
/-! ### what a call gives back -/
mutual
/-- no object of the heap is named -/
def W.pu : W → Bool
  | .ref _ => false
  | .tup l => puAll l
  | .kl l => puAll l
  | _ => true
def puAll : List W → Bool
  | [] => true
  | x :: l => x.pu && puAll l
end
theorem puAll_of : ∀ {l : List W}, (∀ x ∈ l, x.pu = true) → puAll l = true
  | [], _ => rfl
  | x :: l, h => by rw [puAll, h x (by simp), puAll_of fun y hy => h y (by simp [hy])]; rfl
theorem puAll_mem : ∀ {l : List W}, puAll l = true → ∀ x ∈ l, x.pu = true
  | [], _, _, z => nomatch z
  | y :: l, h, x, z => by
    rw [puAll, Bool.and_eq_true] at h
    rcases List.mem_cons.mp z with rfl | z
    · exact h.1
    · exact puAll_mem h.2 x z
mutual
theorem mapR_pu (f : Nat → Option W) : ∀ {w : W}, w.pu = true → mapR f w = some w
  | .non, _ => rfl
  | .bl _, _ => rfl
  | .int _, _ => rfl
  | .str _, _ => rfl
  | .tup l, h => by rw [W.pu] at h; rw [mapR, mapRs_pu f h]; rfl
  | .kl l, h => by rw [W.pu] at h; rw [mapR, mapRs_pu f h]; rfl
  | .ref _, h => by simp [W.pu] at h
theorem mapRs_pu (f : Nat → Option W) : ∀ {l : List W}, puAll l = true → mapRs f l = some l
  | [], _ => rfl
  | x :: l, h => by rw [puAll, Bool.and_eq_true] at h; rw [mapRs, mapR_pu f h.1, mapRs_pu f h.2]
end
mutual
theorem mapR_id {f : Nat → Option W} (hf : ∀ r w, f r = some w → w = .ref r) : ∀ {w w' : W}, mapR f w = some w' → w' = w
  | .non, _, e => by cases e; rfl
  | .bl _, _, e => by cases e; rfl
  | .int _, _, e => by cases e; rfl
  | .str _, _, e => by cases e; rfl
  | .tup l, w', e => by
    simp only [mapR] at e
    cases z : mapRs f l with
    | none => rw [z] at e; cases e
    | some m => rw [z] at e; cases e; rw [mapRs_id hf z]
  | .kl l, w', e => by
    simp only [mapR] at e
    cases z : mapRs f l with
    | none => rw [z] at e; cases e
    | some m => rw [z] at e; cases e; rw [mapRs_id hf z]
  | .ref r, w', e => hf r w' e
theorem mapRs_id {f : Nat → Option W} (hf : ∀ r w, f r = some w → w = .ref r) : ∀ {l l' : List W}, mapRs f l = some l' → l' = l
  | [], _, e => by cases e; rfl
  | x :: l, l', e => by
    simp only [mapRs] at e
    cases z : mapR f x with
    | none => rw [z] at e; simp at e
    | some y =>
      cases z2 : mapRs f l with
      | none => rw [z, z2] at e; simp at e
      | some m => rw [z, z2] at e; cases e; rw [mapR_id hf z, mapRs_id hf z2]
end
mutual
theorem W.cl_pu (n : Nat) : ∀ {w : W}, w.pu = true → w.cl n = true
  | .non, _ => rfl
  | .bl _, _ => rfl
  | .int _, _ => rfl
  | .str _, _ => rfl
  | .tup l, h => by rw [W.pu] at h; rw [W.cl]; exact clAll_pu n h
  | .kl l, h => by rw [W.pu] at h; rw [W.cl]; exact clAll_pu n h
  | .ref _, h => by simp [W.pu] at h
theorem clAll_pu (n : Nat) : ∀ {l : List W}, puAll l = true → clAll n l = true
  | [], _ => rfl
  | x :: l, h => by rw [puAll, Bool.and_eq_true] at h; rw [clAll, W.cl_pu n h.1, clAll_pu n h.2]; rfl
end
theorem fzR_top {n : Nat} {h : Hm} (e : h.length ≤ n) : ∀ (k r : Nat) (w : W), fzR n h k r = some w → w = .ref r
  | 0, r, w, q => by
    simp only [fzR] at q
    split at q <;> cases q
    rfl
  | k + 1, r, w, q => by
    simp only [fzR] at q
    split at q
    · cases q; rfl
    · rename_i hr
      rw [List.getElem?_eq_none (by omega)] at q
      cases q
/-- the heap has as many objects as ahead -/
theorem gc_same {h0 h : Hm} {fz : Bool} (w : W) (e : h.length = h0.length) : gc fz h0 w h = .ok w h := by
  have t : h.take h0.length = h := List.take_of_length_le (Nat.le_of_eq e)
  have g0 : gc0 h0 w h = .ok w h := by
    unfold gc0
    rw [t]
    split
    · cases w with
      | ref r =>
        simp only
        split
        · rfl
        · rw [List.getElem?_eq_none (by omega)]
      | _ => simp
    · rfl
  cases fz with
  | false => exact g0
  | true =>
    simp only [gc]
    split
    · rw [t]
      cases q : fzW h0.length h w with
      | some w' => rw [mapR_id (fun r u z => fzR_top (Nat.le_of_eq e) 8 r u z) q]
      | none =>
        simp only
        cases q2 : isIns h w with
        | none => exact g0
        | some r =>
          simp only
          have hr : ∃ o, h[r]? = some o ∧ w = .ref r := by
            unfold isIns at q2
            split at q2
            · split at q2
              · rename_i a b e; cases q2; exact ⟨_, e, rfl⟩
              · cases q2
            · cases q2
          obtain ⟨o, e1, rfl⟩ := hr
          have hlt := (List.getElem?_eq_some_iff.mp e1).1
          unfold gcI
          rw [decide_eq_false (by omega), Bool.and_false, if_neg Bool.false_ne_true]
    · rfl
@[simp] theorem gc_self (fz : Bool) (h : Hm) (w : W) : gc fz h w h = .ok w h := gc_same w rfl
/-- what a call only laid is let go -/
theorem gc_new {h0 h : Hm} {fz : Bool} (w : W) (b : baseOk h0 h = true) (c : w.pu = true) : gc fz h0 w h = .ok w (h.take h0.length) := by
  cases fz with
  | true =>
    simp only [gc]
    rw [b, if_pos rfl]
    show (match mapR _ w with
      | some w' => R.ok w' (h.take h0.length)
      | none => _) = _
    rw [mapR_pu _ c]
  | false =>
    show gc0 h0 w h = _
    unfold gc0
    rw [b, if_pos rfl]
    have := W.cl_pu h0.length c
    cases w with
    | ref r => simp [W.pu] at c
    | _ => simp only [this, if_true]
theorem baseOk_app (h t : Hm) : baseOk h (h ++ t) = true := by unfold baseOk; rw [decide_eq_true (by simp)]; rfl
theorem gc_app {fz : Bool} (h t : Hm) {w : W} (c : w.pu = true) : gc fz h w (h ++ t) = .ok w h := by rw [gc_new w (baseOk_app h t) c, List.take_left']; rfl
@[simp] theorem gc_appb (fz : Bool) (h t : Hm) (b : Bool) : gc fz h (.bl b) (h ++ t) = .ok (.bl b) h := gc_app h t rfl
/-- a list that was built is given -/
theorem gc_lst {h0 h : Hm} {r : Nat} {l : List W} (b : baseOk h0 h = true) (hr : h[r]? = some (.lst l)) (hge : h0.length ≤ r) (c : puAll l = true) : gc true h0 (.ref r) h = .ok (.kl l) (h.take h0.length) := by
  simp only [gc]
  rw [b, if_pos rfl]
  have : fzW h0.length h (.ref r) = some (.kl l) := by
    show fzR h0.length h 8 r = _
    simp only [fzR, if_neg (show ¬ r < h0.length by omega), hr]
    rw [mapRs_pu _ c]
    rfl
  rw [this]
theorem gc_one {h : Hm} {l : List W} (c : puAll l = true) : gc true h (.ref h.length) (h ++ [.lst l]) = .ok (.kl l) h := by
  rw [gc_lst (l := l) (baseOk_app h _) (by simp) (Nat.le_refl _) c, List.take_left']; rfl
@[simp] theorem back_rt (fz : Bool) (h0 h : Hm) (w : W) : back fz h0 (.rt w h) = gc fz h0 w h := id rfl
@[simp] theorem back_nx (fz : Bool) (h0 h : Hm) (s : Env) : back fz h0 (.nx s h) = gc fz h0 .non h := id rfl
theorem isi_of {C : Ctx} {ts : List Ty} {w : W} {h : Hm} {k : Kd} (e : kd h w = some k) (hk : kdC C k = true) (hl : ts.length ≤ line) : isiV C ts w h = .ok (.bl (ts.any (isK k))) h := by unfold isiV; rw [e]; simp [hl, hk]
theorem isi_1 {C : Ctx} {t : Ty} {w : W} {h : Hm} {k : Kd} (e : kd h w = some k) (hk : kdC C k = true) : isiV C [t] w h = .ok (.bl (isK k t)) h := by rw [isi_of e hk (by simp [line])]; simp
@[simp] theorem isi_int (C : Ctx) (t : Ty) (i : Int) (h : Hm) : isiV C [t] (.int i) h = .ok (.bl (isK .int t)) h := isi_1 rfl rfl
@[simp] theorem isi_bl (C : Ctx) (t : Ty) (i : Bool) (h : Hm) : isiV C [t] (.bl i) h = .ok (.bl (isK .bool t)) h := isi_1 rfl rfl
@[simp] theorem isi_str (C : Ctx) (t : Ty) (i : List Nat) (h : Hm) : isiV C [t] (.str i) h = .ok (.bl (isK .str t)) h := isi_1 rfl rfl
@[simp] theorem isi_tup (C : Ctx) (t : Ty) (i : List W) (h : Hm) : isiV C [t] (.tup i) h = .ok (.bl (isK .tuple t)) h := isi_1 rfl rfl
@[simp] theorem isi_non (C : Ctx) (t : Ty) (h : Hm) : isiV C [t] .non h = .ok (.bl (isK .non t)) h := isi_1 rfl rfl
theorem isi_lst {C : Ctx} {t : Ty} {r : Nat} {l : List W} {h : Hm} (e : h[r]? = some (.lst l)) : isiV C [t] (.ref r) h = .ok (.bl (isK .list t)) h := isi_1 (by unfold kd; simp only [e]) rfl
/-- a comprehension whose turns leave the heap -/
theorem comp_go {A : Type} {f : W → Hm → R (Option A)} {h : Hm} {g : W → Option A} : ∀ {its : List W} {acc : List A}, (∀ x ∈ its, f x h = .ok (g x) h) → compGo f [] its acc h = .ok (acc ++ its.filterMap g) h
  | [], acc, _ => by simp [compGo, okG]
  | x :: l, acc, hf => by
    have h1 := hf x (by simp)
    have ih := fun acc => comp_go (f := f) (h := h) (g := g) (its := l) (acc := acc) fun y hy => hf y (by simp [hy])
    rw [compGo]
    have : okG [] h = true := rfl
    rw [this, if_pos rfl, h1]
    cases e : g x with
    | none => simp only; rw [ih, List.filterMap_cons, e]
    | some a => simp only; rw [ih, List.filterMap_cons, e]; simp
theorem comp_run {f : W → Hm → R (Option W)} {h : Hm} {g : W → Option W} {its : List W} (hf : ∀ x ∈ its, f x h = .ok (g x) h) (hl : its.length ≤ line) : compRun f ⟨its, [], h, none⟩ h = .ok (its.filterMap g) h := by
  unfold compRun
  simp only
  rw [comp_go hf]
  have : ([] ++ its.filterMap g).length ≤ line := Nat.le_trans (by simpa using List.length_filterMap_le g its) hl
  simp only [compEnd]
  rw [if_pos this]
  rfl
theorem small_m {m : Nat} (hm : m ≤ 1000) : small62 (m : Int) = true := by unfold small62; exact decide_eq_true (by omega)
theorem src_rng1 {m : Nat} {w : W} {h : Hm} (e : small62 (m : Int) = true) : src .rng1 (.int m) w h = some ⟨upto 0 m, [], h, none⟩ := by
  unfold src
  simp only
  rw [e]
  rfl
theorem srcV_of {it : It} {x w : W} {h : Hm} {q : Src} (e : src it x w h = some q) : srcV it x w h = .ok q q.h := by
  unfold srcV
  rw [e]
theorem src_rng0 {m : Nat} {w : W} {h : Hm} (e : small62 (m : Int) = true) : srcV .rng1 (.int m) w h = .ok ⟨upto 0 m, [], h, none⟩ h := srcV_of (src_rng1 e)
theorem src_rng {m : Nat} {w : W} {h : Hm} (hm : m ≤ 1000) : srcV .rng1 (.int m) w h = .ok ⟨upto 0 m, [], h, none⟩ h := src_rng0 (small_m hm)
theorem short_nil (h : Hm) : short [] h = .ok [] h := by
  unfold short
  exact if_pos (Nat.zero_le _)
theorem le_line {m : Nat} (h : m ≤ 1000) : m ≤ line := Nat.le_trans h (by decide +kernel)
theorem last_get {h : Hm} {o : O} : (h ++ [o])[h.length]? = some o := by simp
theorem app_get {h t : Hm} {r : Nat} {o : O} (e : h[r]? = some o) : (h ++ t)[r]? = some o := by rw [List.getElem?_append_left (List.getElem?_eq_some_iff.mp e).1]; exact e
theorem lt_get {h : Hm} {r : Nat} {o : O} (e : h[r]? = some o) : r < h.length := (List.getElem?_eq_some_iff.mp e).1
theorem short_lit {ws : List W} {h : Hm} (hl : ws.length ≤ 1000) : short ws h = .ok ws h := by unfold short; exact if_pos (le_line hl)
theorem tup_lit {ws : List W} {h : Hm} (hl : ws.length ≤ 1000) : tupV ws h = .ok (.tup ws) h := by unfold tupV; exact if_pos (le_line hl)
@[simp] theorem newL_ok (ws : List W) (h : Hm) : newL ws h = .ok (.ref h.length) (h ++ [.lst ws]) := rfl
@[simp] theorem alloc_ok (o : O) (h : Hm) : alloc o h = .ok (.ref h.length) (h ++ [o]) := rfl
theorem var_eq {i : Nat} {s : Env} {w : W} {h : Hm} (hl : i < s.length) : varV i (s.set i (some w)) h = .ok w h := by unfold varV; rw [List.getElem?_set_self hl]
theorem var_ne {i j : Nat} {s : Env} {x : Option W} {h : Hm} (hn : j ≠ i) : varV i (s.set j x) h = varV i s h := by unfold varV; rw [List.getElem?_set_ne hn]
/-! a call, unfolded -/
theorem run_at {D : Prog} {k i : Nat} {f : Fn} {ws : List W} {h : Hm} (hk : 1 ≤ k) (e : D.fns i = some f) (hl : ws.length = f.np) : ∃ n, k = n + 1 ∧ run D k i ws h = back f.fz h (evSs (ctx D n) f.body (start f ws) h) := by
  obtain ⟨n, rfl⟩ : ∃ n, k = n + 1 := ⟨k - 1, by omega⟩
  refine ⟨n, rfl, ?_⟩
  rw [run]
  simp only [e]
  show callFn (ctx D n) f ws h = _
  rw [callFn, if_pos hl]
@[simp] theorem ctx_call (D : Prog) (n : Nat) : (ctx D n).call = run D n := id rfl
@[simp] theorem ctx_na (D : Prog) (n : Nat) : (ctx D n).na = D.na := id rfl
@[simp] theorem ctx_ini (D : Prog) (n : Nat) : (ctx D n).ini = D.ini := id rfl
@[simp] theorem ctx_mth (D : Prog) (n : Nat) : (ctx D n).mth = D.mth := id rfl
@[simp] theorem ctx_eqm (D : Prog) (n : Nat) : (ctx D n).eqm = D.eqm := id rfl
theorem con_ok {D : Prog} {n i : Nat} {w : W} {h : Hm} (e : D.con i = some w) (hd : isDct w = false := by rfl) : conV (ctx D n) i h = .ok w h := by
  unfold conV
  show (match D.con i with | some w => if isDct w = true then R.bad else .ok w h | none => .bad) = _
  rw [e]
  simp only [hd]
  rfl
theorem kdC_of {C : Ctx} {k : Kd} (h : ∀ c, k ≠ .ins c) : kdC C k = true := by cases k <;> first | rfl | exact absurd rfl (h _)
/-- comparisons with no own == -/
theorem cmpC_of {C : Ctx} {o : Cop} {x y : W} {h : Hm} (e : eqOf C x h = none) : cmpC C o x y h = cmpop o x y h := by unfold cmpC; rw [e]
theorem eqOf_nr {C : Ctx} {x : W} {h : Hm} (e : ∀ r, x ≠ .ref r) : eqOf C x h = none := by cases x <;> first | rfl | exact absurd rfl (e _)
theorem eqOf_lst {C : Ctx} {r : Nat} {l : List W} {h : Hm} (e : h[r]? = some (.lst l)) : eqOf C (.ref r) h = none := by unfold eqOf; simp only [e]
@[simp] theorem cmpC_int (C : Ctx) (o : Cop) (i : Int) (y : W) (h : Hm) : cmpC C o (.int i) y h = cmpop o (.int i) y h := cmpC_of rfl
@[simp] theorem cmpC_str (C : Ctx) (o : Cop) (i : List Nat) (y : W) (h : Hm) : cmpC C o (.str i) y h = cmpop o (.str i) y h := cmpC_of rfl
@[simp] theorem cmpC_bo (C : Ctx) (o : Cop) (i : Bool) (y : W) (h : Hm) : cmpC C o (.bl i) y h = cmpop o (.bl i) y h := cmpC_of rfl
@[simp] theorem cmpC_tup (C : Ctx) (o : Cop) (i : List W) (y : W) (h : Hm) : cmpC C o (.tup i) y h = cmpop o (.tup i) y h := cmpC_of rfl
@[simp] theorem cmpC_non (C : Ctx) (o : Cop) (y : W) (h : Hm) : cmpC C o .non y h = cmpop o .non y h := cmpC_of rfl
@[simp] theorem isN_non (h : Hm) : cmpop .isN .non .non h = .ok (.bl true) h := by unfold cmpop; simp
@[simp] theorem ctx_fzc (D : Prog) (n : Nat) : (ctx D n).fzc = D.fzc := id rfl
@[simp] theorem ctx_con (D : Prog) (n : Nat) : (ctx D n).con = D.con := id rfl
/-! ### the pot: object 1 of the heap, its cells object 0 -/
def potO (i a b : Int) : O := .lst [.ref 0, .int i, .int a, .int b]
structure PotI (h : Hm) : Prop where
  cell : ∃ cells : List Int, h[0]? = some (.lst (cells.map .int))
  pot : ∃ i a b, h[1]? = some (potO i a b) ∧ 0 ≤ i ∧ 0 ≤ a ∧ a < 2147483647
  cl : Hm.cl h.length h = true
/-- draws: the pot alone is another -/
def Dr (h h' : Hm) : Prop := h' = h ∨ ∃ i a b, 0 ≤ i ∧ 0 ≤ a ∧ a < 2147483647 ∧ h' = h.set 1 (potO i a b)
theorem Dr.refl (h : Hm) : Dr h h := .inl rfl
theorem Dr.trans {a b c : Hm} (x : Dr a b) (y : Dr b c) : Dr a c := by
  rcases y with rfl | ⟨i, m, n, h1, h2, h3, rfl⟩
  · exact x
  · rcases x with rfl | ⟨i', m', n', _, _, _, rfl⟩
    · exact .inr ⟨i, m, n, h1, h2, h3, rfl⟩
    · exact .inr ⟨i, m, n, h1, h2, h3, by rw [List.set_set]⟩
theorem Dr.len {h h' : Hm} (x : Dr h h') : h'.length = h.length := by
  rcases x with rfl | ⟨_, _, _, _, _, _, rfl⟩
  · rfl
  · rw [List.length_set]
theorem PotI.two {h : Hm} (p : PotI h) : 2 ≤ h.length := by
  obtain ⟨i, a, b, e, _⟩ := p.pot
  exact (List.getElem?_eq_some_iff.mp e).1
theorem Dr.get {h h' : Hm} (x : Dr h h') {r : Nat} {o : O} (n : r ≠ 1) (e : h[r]? = some o) : h'[r]? = some o := by
  rcases x with rfl | ⟨_, _, _, _, _, _, rfl⟩
  · exact e
  · rw [List.getElem?_set_ne (Ne.symm n)]; exact e
theorem cl_set {n : Nat} {h : Hm} {r : Nat} {o : O} (hc : Hm.cl n h = true) (ho : o.cl n = true) : Hm.cl n (h.set r o) = true := by
  unfold Hm.cl at hc ⊢
  rw [List.all_eq_true] at hc ⊢
  intro x hx
  rcases List.mem_or_eq_of_mem_set hx with hx | rfl
  · exact hc x hx
  · exact ho
theorem potO_cl {n : Nat} (hn : 0 < n) (i a b : Int) : (potO i a b).cl n = true := by
  show clAll n [.ref 0, .int i, .int a, .int b] = true
  simp [clAll, W.cl, hn]
theorem Dr.pot {h h' : Hm} (p : PotI h) (x : Dr h h') : PotI h' := by
  rcases x with rfl | ⟨i, a, b, h1, h2, h3, rfl⟩
  · exact p
  · have := p.two
    obtain ⟨c, e⟩ := p.cell
    exact ⟨⟨c, by rw [List.getElem?_set_ne (by decide)]; exact e⟩, ⟨i, a, b, by rw [List.getElem?_set_self (by omega)], h1, h2, h3⟩, by rw [List.length_set]; exact cl_set p.cl (potO_cl (by omega) _ _ _)⟩
/-- something laid behind stays behind -/
theorem Dr.app {h h' : Hm} (p : 2 ≤ h.length) (t : Hm) (x : Dr h h') : Dr (h ++ t) (h' ++ t) := by
  rcases x with rfl | ⟨i, a, b, h1, h2, h3, rfl⟩
  · exact .inl rfl
  · exact .inr ⟨i, a, b, h1, h2, h3, by rw [List.set_append_left _ _ (by omega)]⟩
theorem Dr.of_app {h t h' : Hm} (p : 2 ≤ h.length) (x : Dr (h ++ t) h') : ∃ h1, h' = h1 ++ t ∧ Dr h h1 := by
  rcases x with rfl | ⟨i, a, b, h1, h2, h3, rfl⟩
  · exact ⟨h, rfl, .inl rfl⟩
  · exact ⟨h.set 1 (potO i a b), by rw [List.set_append_left _ _ (by omega)], .inr ⟨i, a, b, h1, h2, h3, rfl⟩⟩
mutual
theorem mono_cl {n m : Nat} (hnm : n ≤ m) : ∀ {w : W}, w.cl n = true → w.cl m = true
  | .non, _ => rfl
  | .bl _, _ => rfl
  | .int _, _ => rfl
  | .str _, _ => rfl
  | .tup l, h => by rw [W.cl] at h ⊢; exact mono_clAll hnm h
  | .kl l, h => by rw [W.cl] at h ⊢; exact mono_clAll hnm h
  | .ref r, h => by rw [W.cl] at h ⊢; have := of_decide_eq_true h; exact decide_eq_true (by omega)
theorem mono_clAll {n m : Nat} (hnm : n ≤ m) : ∀ {l : List W}, clAll n l = true → clAll m l = true
  | [], _ => rfl
  | x :: l, h => by rw [clAll, Bool.and_eq_true] at h ⊢; exact ⟨mono_cl hnm h.1, mono_clAll hnm h.2⟩
end
theorem mono_clO {n m : Nat} (hnm : n ≤ m) : ∀ {o : O}, o.cl n = true → o.cl m = true
  | .lst l, h => mono_clAll hnm h
  | .dct l, h => by
    have h : (clAll n (l.map (·.1)) && clAll n (l.map (·.2))) = true := h
    show (clAll m (l.map (·.1)) && clAll m (l.map (·.2))) = true
    rw [Bool.and_eq_true] at h ⊢
    exact ⟨mono_clAll hnm h.1, mono_clAll hnm h.2⟩
  | .lk l, h => by
    have h : (clAll n (l.map (·.1)) && clAll n (l.map (·.2))) = true := h
    show (clAll m (l.map (·.1)) && clAll m (l.map (·.2))) = true
    rw [Bool.and_eq_true] at h ⊢
    exact ⟨mono_clAll hnm h.1, mono_clAll hnm h.2⟩
  | .ins _ fs, h => mono_clAll (l := fs.map fun q : Nat × W => q.2) hnm h
  | .dn l, h => by
    have h : (clAll n (l.map (·.1)) && clAll n (l.map (·.2))) = true := h
    show (clAll m (l.map (·.1)) && clAll m (l.map (·.2))) = true
    rw [Bool.and_eq_true] at h ⊢
    exact ⟨mono_clAll hnm h.1, mono_clAll hnm h.2⟩
theorem mono_clH {n m : Nat} (hnm : n ≤ m) {h : Hm} (c : Hm.cl n h = true) : Hm.cl m h = true := by
  unfold Hm.cl at c ⊢
  rw [List.all_eq_true] at c ⊢
  exact fun o ho => mono_clO hnm (c o ho)
theorem PotI.app {h : Hm} (p : PotI h) {t : Hm} (c : Hm.cl (h ++ t).length t = true) : PotI (h ++ t) := by
  obtain ⟨q, e⟩ := p.cell
  obtain ⟨i, a, b, e2, z⟩ := p.pot
  refine ⟨⟨q, app_get e⟩, ⟨i, a, b, app_get e2, z⟩, ?_⟩
  have c1 := mono_clH (m := (h ++ t).length) (by simp) p.cl
  unfold Hm.cl at c c1 ⊢
  rw [List.all_append, c, c1]
  rfl
theorem PotI.lst {h : Hm} (p : PotI h) {l : List W} (c : puAll l = true) : PotI (h ++ [.lst l]) := p.app (by
  unfold Hm.cl
  simp only [List.all_cons, List.all_nil, Bool.and_true]
  exact clAll_pu _ c)
/-- where a call has drawn, and laid something behind -/
theorem base_dr {h h1 t : Hm} (p : PotI h) (x : Dr h h1) : baseOk h (h1 ++ t) = true := by
  have e : (h1 ++ t).take h.length = h1 := by rw [← x.len, List.take_left']; rfl
  unfold baseOk
  rw [e]
  have c := (x.pot p).cl
  rw [x.len] at c
  rw [c, Bool.and_true, Bool.or_eq_true]
  exact .inr (decide_eq_true (by have := x.len; simp; omega))
theorem gc_dr {h h1 : Hm} {fz : Bool} (p : PotI h) (x : Dr h h1) (t : Hm) {w : W} (c : w.pu = true) : gc fz h w (h1 ++ t) = .ok w h1 := by
  rw [gc_new w (base_dr p x) c, ← x.len, List.take_left']
  rfl
theorem gc_drl {h h1 : Hm} (p : PotI h) (x : Dr h h1) {l : List W} (c : puAll l = true) : gc true h (.ref h.length) (h1 ++ [.lst l]) = .ok (.kl l) h1 := by
  rw [gc_lst (l := l) (base_dr p x) (by rw [← x.len]; simp) (Nat.le_refl _) c, ← x.len, List.take_left']
  rfl
end M2

namespace M2
def dr0 : S := .ite (.cmp .lt (.var 1) (.int 2)) [.ret (.int 0)] []
def dr1 : S := .ite (.cmp .gt (.sub (.var 0) (.int 3)) (.int 0)) [.asg (.var 2) (.bin .mod (.b1 .int [(.sub (.var 0) (.int 3))]) (.var 1)),
  .asg (.sub (.var 0) (.int 3)) (.bin .fdiv (.sub (.var 0) (.int 3)) (.var 1)),
  .ret (.var 2)] []
def dr2 : S := .asg (.var 3) (.int 0)
def dr3 : S := .ite (.cmp .lt (.sub (.var 0) (.int 1)) (.b1 .len [(.sub (.var 0) (.int 0))])) [.asg (.var 3) (.sub (.sub (.var 0) (.int 0)) (.sub (.var 0) (.int 1))),
  .asg (.sub (.var 0) (.int 1)) (.bin .add (.sub (.var 0) (.int 1)) (.int 1)),
  .ite (.cmp .ge (.var 3) (.bin .pow (.int 10) (.int 18))) [.asg (.sub (.var 0) (.int 3)) (.bin .fdiv (.var 3) (.var 1)),
  .ret (.bin .mod (.b1 .int [(.var 3)]) (.var 1))] []] []
def dr4 : S := .asg (.sub (.var 0) (.int 2)) (.bin .mod (.b1 .int [(.bin .add (.bin .add (.bin .mul (.sub (.var 0) (.int 2)) (.int 48271)) (.var 3)) (.int 12345))]) (.int 2147483647))
def dr5 : S := .ret (.bin .mod (.b1 .int [(.bin .add (.bin .fdiv (.bin .mul (.sub (.var 0) (.int 2)) (.sub (.var 0) (.int 2))) (.int 64)) (.bin .fdiv (.sub (.var 0) (.int 2)) (.int 7)))]) (.var 1))
theorem drall (I : Ix) : (B.l_draw I).body = [dr0, dr1, dr2, dr3, dr4, dr5] := rfl
/-! ### the pot: object 2 of the heap, its cells object 1 -/
def hp (h : Hm) (i a b : Int) : Hm := h.set 1 (.lst [.ref 0, .int i, .int a, .int b])
structure Base (h : Hm) (cells : List Int) : Prop where
  two : 1 < h.length
  cell : h[0]? = some (.lst (cells.map .int))
section
variable {h : Hm} {cells : List Int} {i a b : Int}
theorem hp_at (B : Base h cells) : (hp h i a b)[1]? = some (.lst [.ref 0, .int i, .int a, .int b]) := by unfold hp; rw [List.getElem?_set_self B.two]
theorem hp_1 (B : Base h cells) : (hp h i a b)[0]? = some (.lst (cells.map .int)) := by unfold hp; rw [List.getElem?_set_ne (by decide), B.cell]
theorem hp_len : (hp h i a b).length = h.length := by unfold hp; rw [List.length_set]
theorem g_ref {h : Hm} {r : Nat} {l : List W} {k : Int} {j : Nat} {w : W} (e : h[r]? = some (.lst l)) (p : place l.length k = some j) (g : l[j]? = some w) : getItem (.ref r) (.int k) h = .ok w h := by
  unfold getItem
  simp only [e, p, g]
theorem s_ref {h : Hm} {r : Nat} {l : List W} {k : Int} {j : Nat} {w : W} (e : h[r]? = some (.lst l)) (p : place l.length k = some j) : setItem (.ref r) (.int k) w h = some (h.set r (.lst (l.set j w))) := by
  unfold setItem
  simp only [e, p]
theorem g0 (B : Base h cells) : getItem (.ref 1) (.int 0) (hp h i a b) = .ok (.ref 0) (hp h i a b) := g_ref (hp_at B) (j := 0) rfl rfl
theorem g1 (B : Base h cells) : getItem (.ref 1) (.int 1) (hp h i a b) = .ok (.int i) (hp h i a b) := g_ref (hp_at B) (j := 1) rfl rfl
theorem g2 (B : Base h cells) : getItem (.ref 1) (.int 2) (hp h i a b) = .ok (.int a) (hp h i a b) := g_ref (hp_at B) (j := 2) rfl rfl
theorem g3 (B : Base h cells) : getItem (.ref 1) (.int 3) (hp h i a b) = .ok (.int b) (hp h i a b) := g_ref (hp_at B) (j := 3) rfl rfl
theorem s1 (B : Base h cells) (x : Int) : setItem (.ref 1) (.int 1) (.int x) (hp h i a b) = some (hp h x a b) := by
  rw [s_ref (hp_at B) (j := 1) rfl]; unfold hp; rw [List.set_set]; rfl
theorem s2 (B : Base h cells) (x : Int) : setItem (.ref 1) (.int 2) (.int x) (hp h i a b) = some (hp h i x b) := by
  rw [s_ref (hp_at B) (j := 2) rfl]; unfold hp; rw [List.set_set]; rfl
theorem s3 (B : Base h cells) (x : Int) : setItem (.ref 1) (.int 3) (.int x) (hp h i a b) = some (hp h i a x) := by
  rw [s_ref (hp_at B) (j := 3) rfl]; unfold hp; rw [List.set_set]; rfl
theorem place_nn {n : Nat} {k : Int} (h0 : 0 ≤ k) (h1 : k < n) : place n k = some k.toNat := by
  unfold place
  rw [if_pos h0, if_pos h1]
theorem gcell (B : Base h cells) (h0 : 0 ≤ i) (h1 : i < cells.length) : ∃ c, getItem (.ref 0) (.int i) (hp h i a b) = .ok (.int c) (hp h i a b) := by
  have hlt : i.toNat < cells.length := by omega
  refine ⟨cells[i.toNat], g_ref (hp_1 B) (j := i.toNat) (place_nn h0 (by simpa using h1)) ?_⟩
  rw [List.getElem?_map, List.getElem?_eq_getElem hlt]; rfl
theorem lcell (B : Base h cells) : b1op .len [.ref 0] (hp h i a b) = .ok (.int cells.length) (hp h i a b) := by
  unfold b1op b1u
  simp only [hp_1 B]
  simp
end
theorem lg {a : Int} (h0 : 0 ≤ a) (h1 : a < 2147483647) : a.natAbs.log2 < 40 := by
  by_cases hz : a.natAbs = 0
  · rw [hz]; decide
  · rw [Nat.log2_lt hz]; omega
/-- what a draw leaves -/
structure Left (h : Hm) (cells : List Int) (i a : Int) : Prop where
  base : Base h cells
  i0 : 0 ≤ i
  a0 : 0 ≤ a
  a1 : a < 2147483647
theorem draw_tail {C : Ctx} {h : Hm} {cells : List Int} {i a b m cell : Int} {x2 : Option W} (L : Left h cells i a) (hm : 2 ≤ m) (hl : m.natAbs.log2 < 9000) :
    ∃ v a', evSs C [dr4, dr5]
      [some (.ref 1), some (.int m), x2, some (.int cell)] (hp h i a b) = .rt (.int v) (hp h i a' b) ∧ 0 ≤ v ∧ v < m ∧ 0 ≤ a' ∧ a' < 2147483647 := by
  have B := L.base
  have k1 : a.natAbs.log2 + (48271 : Int).natAbs.log2 < 1000000 := by
    have h1 := lg L.a0 L.a1
    have h2 : (48271 : Int).natAbs.log2 < 40 := by decide
    omega
  refine ⟨((((a * 48271 + cell + 12345) % 2147483647) * ((a * 48271 + cell + 12345) % 2147483647)) / 64 + ((a * 48271 + cell + 12345) % 2147483647) / 7) % m, (a * 48271 + cell + 12345) % 2147483647, ?_, Int.emod_nonneg _ (by omega), Int.emod_lt_of_pos _ (by omega), Int.emod_nonneg _ (by omega), Int.emod_lt_of_pos _ (by omega)⟩
  generalize hx : (a * 48271 + cell + 12345) % 2147483647 = x
  have x0 : 0 ≤ x := by rw [← hx]; exact Int.emod_nonneg _ (by omega)
  have x1 : x < 2147483647 := by rw [← hx]; exact Int.emod_lt_of_pos _ (by omega)
  have k2 : x.natAbs.log2 + x.natAbs.log2 < 1000000 := by have := lg x0 x1; omega
  have e1 : evS C dr4 [some (.ref 1), some (.int m), x2, some (.int cell)] (hp h i a b) = .nx [some (.ref 1), some (.int m), x2, some (.int cell)] (hp h i x b) := by
    simp only [dr4, evS, evE, den, denL, mkV_v, varV, List.getElem?_cons_zero, List.getElem?_cons_succ, then_okk, ofR_ok, g2 B, b_mul k1, b_add, b1_int, b_mod (show (0 : Int) < 2147483647 by decide), asg, hx, s2 B, nxO]
  rw [evSs_nx e1]
  simp only [dr5, evSs, evS, evE, den, denL, mkV_v, varV, List.getElem?_cons_zero, List.getElem?_cons_succ, then_okk, ofR_ok, seq_rt, g2 B, b_mul k2, b_add, b1_int, b_fdiv (show (0 : Int) < 64 by decide) (by decide), b_fdiv (show (0 : Int) < 7 by decide) (by decide), b_mod (show (0 : Int) < m by omega)]
structure HasP (D : Prog) (I : Ix) : Prop where
  pot : D.fns I.l_pot = some (B.l_pot I)
  draw : D.fns I.l_draw = some (B.l_draw I)
  pick : D.fns I.l_pick = some (B.l_pick I)
theorem draw0 {D : Prog} {I : Ix} (P : HasP D I) {k : Nat} (hk : 1 ≤ k) {h : Hm} {cells : List Int} {i a b m : Int} (L : Left h cells i a) (hl : m.natAbs.log2 < 9000) :
    ∃ v i' a' b', run D k I.l_draw [.ref 1, .int m] (hp h i a b) = .ok (.int v) (hp h i' a' b') ∧ Left h cells i' a' ∧ 0 ≤ v ∧ (1 ≤ m → v < m) := by
  have B := L.base
  obtain ⟨n, rfl, hrun⟩ := run_at (ws := [.ref 1, .int m]) (h := hp h i a b) hk P.draw rfl
  have fin : ∀ {v i' a' b' : Int}, evSs (ctx D n) [dr0, dr1, dr2, dr3, dr4, dr5] [some (.ref 1), some (.int m), none, none] (hp h i a b) = .rt (.int v) (hp h i' a' b') → run D (n + 1) I.l_draw [.ref 1, .int m] (hp h i a b) = .ok (.int v) (hp h i' a' b') := fun e => by
    rw [hrun]
    rw [drall]
    show back _ _ (evSs (ctx D n) _ [some (.ref 1), some (.int m), none, none] _) = _
    rw [e, back_rt, gc_same _ (by rw [hp_len, hp_len])]
  by_cases hm : m < 2
  · refine ⟨0, i, a, b, fin ?_, L, Int.le_refl _, fun _ => by omega⟩
    refine evSs_rt ?_
    simp [dr0, evS, evSs, evE, evT, den, varV, hm]
  · have e1 : evS (ctx D n) dr0 [some (.ref 1), some (.int m), none, none] (hp h i a b) = .nx [some (.ref 1), some (.int m), none, none] (hp h i a b) := by
      simp [dr0, evS, evSs, evE, evT, den, varV, hm]
    by_cases hb : 0 < b
    · refine ⟨b % m, i, a, b / m, fin ?_, L, Int.emod_nonneg _ (by omega), fun _ => Int.emod_lt_of_pos _ (by omega)⟩
      rw [evSs_nx e1]
      refine evSs_rt ?_
      simp [dr1, evS, evSs, evE, evT, den, denL, varV, g3 B, hb, b_mod (show (0 : Int) < m by omega), b_fdiv (show (0 : Int) < m by omega) hl, asg, s3 B, nxO]
    · have e2 : evS (ctx D n) dr1 [some (.ref 1), some (.int m), none, none] (hp h i a b) = .nx [some (.ref 1), some (.int m), none, none] (hp h i a b) := by
        simp [dr1, evS, evSs, evE, evT, den, denL, varV, g3 B, hb]
      have e3 : ∀ h', evS (ctx D n) dr2 [some (.ref 1), some (.int m), none, none] h' = .nx [some (.ref 1), some (.int m), none, some (.int 0)] h' := fun h' => by
        simp [dr2, evS, evE, den, asg]
      by_cases hi : i < cells.length
      · obtain ⟨c, hc⟩ := gcell (a := a) (b := b) B L.i0 hi
        by_cases hbig : c ≥ 10 ^ 18
        · refine ⟨c % m, i + 1, a, c / m, fin ?_, ⟨B, by have := L.i0; omega, L.a0, L.a1⟩, Int.emod_nonneg _ (by omega), fun _ => Int.emod_lt_of_pos _ (by omega)⟩
          rw [evSs_nx e1, evSs_nx e2, evSs_nx (e3 _)]
          have hd : (1000000000000000000 : Int) ≤ c := by omega
          refine evSs_rt ?_
          simp [dr3, evS, evSs, evE, evT, den, denL, varV, g0 B, g1 B, lcell B, hi, hc, s1 B, s3 B, asg, nxO, b_pow (show (0 : Int) ≤ 18 by decide) (by decide) (show (10 : Int).natAbs < 2 ^ 64 by decide), hd, b_mod (show (0 : Int) < m by omega), b_fdiv (show (0 : Int) < m by omega) hl]
        · obtain ⟨v, a', e5, v0, v1, a0, a1⟩ := draw_tail (C := ctx D n) (h := h) (i := i + 1) (a := a) (b := b) (m := m) (cell := c) (x2 := none) ⟨B, by have := L.i0; omega, L.a0, L.a1⟩ (by omega) hl
          refine ⟨v, i + 1, a', b, fin ?_, ⟨B, by have := L.i0; omega, a0, a1⟩, v0, fun _ => v1⟩
          rw [evSs_nx e1, evSs_nx e2, evSs_nx (e3 _)]
          rw [evSs_nx (s' := [some (.ref 1), some (.int m), none, some (.int c)]) (h' := hp h (i + 1) a b) ?_]
          · exact e5
          · have hd : ¬ (1000000000000000000 : Int) ≤ c := by omega
            simp [dr3, evS, evSs, evE, evT, den, denL, varV, g0 B, g1 B, lcell B, hi, hc, s1 B, s3 B, asg, nxO, b_pow (show (0 : Int) ≤ 18 by decide) (by decide) (show (10 : Int).natAbs < 2 ^ 64 by decide), hd]
      · obtain ⟨v, a', e5, v0, v1, a0, a1⟩ := draw_tail (C := ctx D n) (h := h) (i := i) (a := a) (b := b) (m := m) (cell := 0) (x2 := none) L (by omega) hl
        refine ⟨v, i, a', b, fin ?_, ⟨B, L.i0, a0, a1⟩, v0, fun _ => v1⟩
        rw [evSs_nx e1, evSs_nx e2, evSs_nx (e3 _)]
        rw [evSs_nx (s' := [some (.ref 1), some (.int m), none, some (.int 0)]) (h' := hp h i a b) ?_]
        · exact e5
        · simp [dr3, evS, evSs, evE, evT, den, denL, varV, g0 B, g1 B, lcell B, hi]
theorem hp_self {h : Hm} {i a b : Int} (e : h[1]? = some (.lst [.ref 0, .int i, .int a, .int b])) : hp h i a b = h := by
  unfold hp
  apply List.ext_getElem?
  intro j
  by_cases hj : 1 = j
  · subst hj
    rw [List.getElem?_set_self (lt_get e), e]
  · rw [List.getElem?_set_ne hj]
theorem Left.of {h : Hm} {cells : List Int} {i a b : Int} (L : Left h cells i a) : Dr h (hp h i a b) := .inr ⟨i, a, b, L.i0, L.a0, L.a1, rfl⟩
theorem lgn {n : Nat} (hn : n ≤ 100000) : ((n : Int)).natAbs.log2 < 9000 := by
  rw [Int.natAbs_natCast]
  by_cases hz : n = 0
  · rw [hz]; decide
  · have : n.log2 < 20 := by rw [Nat.log2_lt hz]; omega
    omega
theorem lgz {m : Int} (h0 : 0 ≤ m) (h1 : m ≤ 100000) : m.natAbs.log2 < 9000 := by
  obtain ⟨n, rfl⟩ := Int.eq_ofNat_of_zero_le h0
  exact lgn (by omega)
section
variable {D : Prog} {I : Ix} {k : Nat} {h : Hm}
theorem draw (P : HasP D I) (hk : 1 ≤ k) (hp : PotI h) {m : Int} (h0 : 0 ≤ m) (h1 : m ≤ 100000) :
    ∃ v h', run D k I.l_draw [.ref 1, .int m] h = .ok (.int v) h' ∧ Dr h h' ∧ 0 ≤ v ∧ (1 ≤ m → v < m) := by
  obtain ⟨⟨cells, e1⟩, ⟨i, a, b, e2, i0, a0, a1⟩, _⟩ := id hp
  have e2 : h[1]? = some (.lst [.ref 0, .int i, .int a, .int b]) := e2
  have L : Left h cells i a := ⟨⟨lt_get e2, e1⟩, i0, a0, a1⟩
  obtain ⟨v, i', a', b', e, L', v0, v1⟩ := draw0 P hk (b := b) (m := m) L (lgz h0 h1)
  rw [hp_self e2] at e
  exact ⟨v, _, e, L'.of, v0, v1⟩
/-- a row that does not stand in the heap -/
theorem pick (P : HasP D I) (hk : 2 ≤ k) (hp : PotI h) {w : W} {l : List W} (hw : w = .kl l ∨ w = .tup l) (h0 : 0 < l.length) (h1 : l.length ≤ 1000) :
    ∃ x h', run D k I.l_pick [.ref 1, w] h = .ok x h' ∧ Dr h h' ∧ x ∈ l := by
  obtain ⟨n, rfl, hrun⟩ := run_at (ws := [.ref 1, w]) (h := h) (show 1 ≤ k by omega) P.pick rfl
  obtain ⟨v, h', e, N, v0, v1⟩ := draw (k := n) P (by omega) hp (m := (l.length : Int)) (by omega) (by omega)
  have v1 := v1 (by omega)
  have hlt : v.toNat < l.length := by omega
  refine ⟨l[v.toNat], h', ?_, N, List.getElem_mem _⟩
  rw [hrun]
  rcases hw with rfl | rfl
  · have g : getItem (.kl l) (.int v) h' = .ok l[v.toNat] h' := by
      unfold getItem
      simp only [place_nn v0 v1, List.getElem?_eq_getElem hlt]
    have ln : b1op .len [.kl l] h = .ok (.int l.length) h := rfl
    simp [B.l_pick, evSs, evS, evE, den, denL, start, varV, ln, e, g]
    exact gc_same _ N.len
  · have g : getItem (.tup l) (.int v) h' = .ok l[v.toNat] h' := by
      unfold getItem
      simp only [place_nn v0 v1, List.getElem?_eq_getElem hlt]
    have ln : b1op .len [.tup l] h = .ok (.int l.length) h := rfl
    simp [B.l_pick, evSs, evS, evE, den, denL, start, varV, ln, e, g]
    exact gc_same _ N.len
theorem pick_str (P : HasP D I) (hk : 2 ≤ k) (hp : PotI h) {l : List Nat} (h0 : 0 < l.length) (h1 : l.length ≤ 1000) :
    ∃ c h', run D k I.l_pick [.ref 1, .str l] h = .ok (.str [c]) h' ∧ Dr h h' ∧ c ∈ l := by
  obtain ⟨n, rfl, hrun⟩ := run_at (ws := [.ref 1, .str l]) (h := h) (show 1 ≤ k by omega) P.pick rfl
  obtain ⟨v, h', e, N, v0, v1⟩ := draw (k := n) P (by omega) hp (m := (l.length : Int)) (by omega) (by omega)
  have v1 := v1 (by omega)
  have hlt : v.toNat < l.length := by omega
  refine ⟨l[v.toNat], h', ?_, N, List.getElem_mem _⟩
  have g : getItem (.str l) (.int v) h' = .ok (.str [l[v.toNat]]) h' := by
    unfold getItem
    simp only [if_pos (le_line h1), place_nn v0 v1, List.getElem?_eq_getElem hlt]
  have ln : b1op .len [.str l] h = .ok (.int l.length) h := by
    unfold b1op b1u
    simp only [if_pos (le_line h1)]
  rw [hrun]
  simp [B.l_pick, evSs, evS, evE, den, denL, start, varV, ln, e, g]
  exact gc_same _ N.len
/-- a row drawn turn by turn -/
theorem draw_go {A : Type} {f : W → Hm → R (Option A)} {Q : A → Prop} (hf : ∀ w h, PotI h → ∃ a h', f w h = .ok (some a) h' ∧ Dr h h' ∧ Q a) : ∀ (its : List W) (acc : List A) (h : Hm), PotI h → ∃ r h', compGo f [] its acc h = .ok (acc ++ r) h' ∧ Dr h h' ∧ r.length = its.length ∧ ∀ a ∈ r, Q a
  | [], acc, h, p => ⟨[], h, by rw [compGo, List.append_nil]; rfl, Dr.refl h, rfl, fun _ z => nomatch z⟩
  | x :: its, acc, h, p => by
    obtain ⟨a, h1, e1, N1, q1⟩ := hf x h p
    obtain ⟨r, h2, e2, N2, l2, q2⟩ := draw_go hf its (acc ++ [a]) h1 (N1.pot p)
    refine ⟨a :: r, h2, ?_, N1.trans N2, by simp [l2], fun z hz => ?_⟩
    · rw [compGo]
      have ok : okG [] h = true := rfl
      rw [ok, if_pos rfl, e1]
      simp only
      rw [e2, List.append_assoc]
      rfl
    · rcases List.mem_cons.mp hz with rfl | hz
      · exact q1
      · exact q2 z hz
inductive All2 {A B : Type} (Q : A → B → Prop) : List A → List B → Prop
  | nil : All2 Q [] []
  | cons {a : A} {b : B} {l : List A} {m : List B} : Q a b → All2 Q l m → All2 Q (a :: l) (b :: m)
/-- some of a row, kept or left by draws -/
theorem draw_some {A : Type} {f : W → Hm → R (Option A)} {Q : W → A → Prop} : ∀ (its : List W) (acc : List A) (h : Hm), (∀ w ∈ its, ∀ h, PotI h → ∃ o h', f w h = .ok o h' ∧ Dr h h' ∧ ∀ a, o = some a → Q w a) → PotI h → ∃ (r : List A) (ws : List W) (h' : Hm), compGo f [] its acc h = .ok (acc ++ r) h' ∧ Dr h h' ∧ All2 Q ws r ∧ ws.Sublist its
  | [], acc, h, _, p => ⟨[], [], h, by rw [compGo, List.append_nil]; rfl, Dr.refl h, .nil, .slnil⟩
  | x :: its, acc, h, hf, p => by
    obtain ⟨o, h1, e1, N1, q1⟩ := hf x (by simp) h p
    have ok : okG [] h = true := rfl
    cases o with
    | none =>
      obtain ⟨r, ws, h2, e2, N2, l2, q2⟩ := draw_some its acc h1 (fun w hw => hf w (by simp [hw])) (N1.pot p)
      exact ⟨r, ws, h2, by rw [compGo, ok, if_pos rfl, e1]; exact e2, N1.trans N2, l2, q2.cons x⟩
    | some a =>
      obtain ⟨r, ws, h2, e2, N2, l2, q2⟩ := draw_some its (acc ++ [a]) h1 (fun w hw => hf w (by simp [hw])) (N1.pot p)
      exact ⟨a :: r, x :: ws, h2, by rw [compGo, ok, if_pos rfl, e1]; simp only; rw [e2, List.append_assoc]; rfl, N1.trans N2, .cons (q1 a rfl) l2, q2.cons₂ x⟩
end
end M2

namespace M2
structure HasW (D : Prog) (I : Ix) : Prop where
  is_number : D.fns I.is_number = some (B.is_number I)
  is_within : D.fns I.is_within = some (B.is_within I)
  is_listed : D.fns I.is_listed = some (B.is_listed I)
  is_label : D.fns I.is_label = some (B.is_label I)
  is_name : D.fns I.is_name = some (B.is_name I)
  words : D.con I.g_WORDS = some (.tup (wordList.map .str))
  letters : D.con I.g_LETTERS = some (.str letters)
  longest : D.con I.g_LONGEST = some (.int 8)
structure HasN (D : Prog) (I : Ix) : Prop where
  words : D.fns I.l_words = some (B.l_words I)
  word : D.fns I.l_word = some (B.l_word I)
  is_label : D.fns I.l_is_label = some (B.l_is_label I)
  is_name : D.fns I.l_is_name = some (B.l_is_name I)
  names : D.fns I.l_names = some (B.l_names I)
/-- a value of a kind that is told, no instance -/
def Kn (h : Hm) (w : W) : Prop := ∃ k, kd h w = some k ∧ ∀ c, k ≠ .ins c
def isNum : W → Bool
  | .int _ => true
  | _ => false
theorem kd_num {h : Hm} {w : W} {k : Kd} (e : kd h w = some k) : (isK k .int && !isK k .bool) = isNum w := by
  cases w with
  | ref r =>
    unfold kd at e
    simp only at e
    split at e <;> cases e <;> rfl
  | _ => cases e <;> rfl
def isWi (w : W) (lo hi : Int) : Bool := match w with
  | .int i => decide (lo ≤ i) && decide (i ≤ hi)
  | _ => false
section
variable {D : Prog} {I : Ix} {k : Nat} {h : Hm}
theorem is_number (P : HasW D I) (hk : 1 ≤ k) {w : W} (kn : Kn h w) : run D k I.is_number [w] h = .ok (.bl (isNum w)) h := by
  obtain ⟨q, e, hc⟩ := kn
  obtain ⟨n, rfl, hr⟩ := run_at (ws := [w]) (h := h) hk P.is_number rfl
  rw [hr, ← kd_num e]
  have hi : ∀ t, isiV (ctx D n) [t] w h = .ok (.bl (isK q t)) h := fun t => isi_1 e (kdC_of hc)
  simp [B.is_number, evSs, evS, evE, den, start, varV, hi, andV_b]
  cases isK q .int <;> simp
theorem is_within (P : HasW D I) (hk : 2 ≤ k) {w : W} (kn : Kn h w) (lo hi : Int) : run D k I.is_within [w, .int lo, .int hi] h = .ok (.bl (isWi w lo hi)) h := by
  obtain ⟨n, rfl, hr⟩ := run_at (ws := [w, .int lo, .int hi]) (h := h) (show 1 ≤ k by omega) P.is_within rfl
  rw [hr]
  have e := is_number (k := n) P (by omega) kn
  cases w with
  | int i =>
    have e : run D n I.is_number [.int i] h = .ok (.bl true) h := e
    simp [B.is_within, evSs, evS, evE, den, denL, start, varV, e, isWi]
    by_cases h1 : lo ≤ i
    · simp [chainV, h1]
    · simp [chainV, h1]
  | _ =>
    have e := e
    simp only [isNum] at e
    simp [B.is_within, evSs, evS, evE, den, denL, start, varV, e, isWi]
theorem is_listed (P : HasW D I) (hk : 1 ≤ k) {w : W} {q : Kd} (e : kd h w = some q) (hc : ∀ c, q ≠ .ins c) : run D k I.is_listed [w] h = .ok (.bl (isK q .list || isK q .tuple)) h := by
  obtain ⟨n, rfl, hr⟩ := run_at (ws := [w]) (h := h) hk P.is_listed rfl
  rw [hr]
  have hi : isiV (ctx D n) [.list, .tuple] w h = _ := isi_of (ts := [.list, .tuple]) e (kdC_of hc) (by simp [line])
  simp [B.is_listed, evSs, evS, evE, den, start, varV, hi]
/-! ### labels -/
def okSigns (l : List Nat) : Bool := l.all letters.contains
def isLab : W → Bool
  | .str l => decide (1 ≤ l.length) && (decide (l.length ≤ 8) && okSigns l)
  | _ => false
theorem dropIn_nil {cs : List Nat} : ∀ {l : List Nat}, dropIn cs l = [] ↔ l.all cs.contains = true
  | [] => by simp [dropIn]
  | c :: l => by
    unfold dropIn
    cases h : cs.contains c with
    | true => have h' : c ∈ cs := by simpa using h
              rw [if_pos rfl, dropIn_nil]; simp [h']
    | false => have h' : ¬ c ∈ cs := by simpa using h
               rw [if_neg Bool.false_ne_true]; simp [h']
theorem dropIn_suf {cs : List Nat} : ∀ (l : List Nat), ∃ t, l = t ++ dropIn cs l ∧ t.all cs.contains = true
  | [] => ⟨[], rfl, rfl⟩
  | c :: l => by
    unfold dropIn
    cases h : cs.contains c with
    | true =>
      rw [if_pos rfl]
      obtain ⟨t, e, a⟩ := dropIn_suf l
      exact ⟨c :: t, by rw [List.cons_append, ← e], by rw [List.all_cons, h, a]; rfl⟩
    | false => rw [if_neg Bool.false_ne_true]; exact ⟨[], rfl, rfl⟩
theorem strip_nil {l : List Nat} : (stripIn letters l).isEmpty = okSigns l := by
  unfold stripIn okSigns
  apply Bool.eq_iff_iff.mpr
  rw [List.isEmpty_iff, List.reverse_eq_nil_iff, dropIn_nil, List.all_reverse]
  constructor
  · intro h
    obtain ⟨t, e, a⟩ := dropIn_suf (cs := letters) l
    rw [e, List.all_append, a, h]; rfl
  · intro h
    rw [dropIn_nil.mpr h]; rfl
theorem is_label (P : HasW D I) (hk : 1 ≤ k) {w : W} (kn : Kn h w) (hl : ∀ l, w = .str l → l.length ≤ line) : run D k I.is_label [w] h = .ok (.bl (isLab w)) h := by
  obtain ⟨n, rfl, hr⟩ := run_at (ws := [w]) (h := h) hk P.is_label rfl
  rw [hr]
  have c1 : conV (ctx D n) I.g_LETTERS h = .ok (.str letters) h := con_ok P.letters
  have c2 : conV (ctx D n) I.g_LONGEST h = .ok (.int 8) h := con_ok P.longest
  obtain ⟨q, e, hc⟩ := kn
  cases w with
  | str l =>
    have hz := hl l rfl
    simp [B.is_label, evSs, evS, evE, den, denL, start, varV, isK, b1op, b1u, hz, c1, c2]
    by_cases h1 : 1 ≤ l.length
    · by_cases h2 : l.length ≤ 8
      · have h2' : (l.length : Int) ≤ 8 := by omega
        have h1' : (1 : Int) ≤ l.length := by omega
        simp [chainV, h1', h2', recv, isRecv, met1, hz, isLab, h1, h2, c1, c2]
        exact strip_nil
      · have h2' : ¬ (l.length : Int) ≤ 8 := by omega
        have h1' : (1 : Int) ≤ l.length := by omega
        simp [chainV, h1', h2', isLab, h2, c1, c2]
    · have h1' : ¬ (1 : Int) ≤ l.length := by omega
      simp [chainV, h1', isLab, h1, c1, c2]
  | ref r =>
    have : isK q .str = false := by
      unfold kd at e
      simp only at e
      split at e <;> cases e <;> rfl
    have hi : isiV (ctx D n) [.str] (.ref r) h = .ok (.bl (isK q .str)) h := isi_1 e (kdC_of hc)
    simp [B.is_label, evSs, evS, evE, den, denL, start, varV, hi, this, isLab]
  | kl r =>
    have hi : isiV (ctx D n) [.str] (.kl r) h = .ok (.bl (isK .list .str)) h := isi_1 rfl rfl
    simp [B.is_label, evSs, evS, evE, den, denL, start, varV, hi, isK, isLab]
  | _ =>
    simp [B.is_label, evSs, evS, evE, den, denL, start, varV, isK, isLab]
def sel (w : W) : Option W := match w with
  | .str [c] => if letters.contains c then some (.str [c]) else none
  | _ => none
theorem filt_len {l : List Nat} : ((l.map fun c => W.str [c]).filterMap sel).length = (l.filter letters.contains).length := by
  induction l with
  | nil => rfl
  | cons c l ih =>
    rw [List.map_cons, List.filterMap_cons, List.filter_cons]
    cases h : letters.contains c with
    | true =>
      have : sel (.str [c]) = some (.str [c]) := by simp only [sel, h, if_true]
      rw [this, if_pos rfl]
      simp only [List.length_cons, ih]
    | false =>
      have : sel (.str [c]) = none := by simp only [sel, h]; rfl
      rw [this, if_neg Bool.false_ne_true]
      exact ih
theorem filt_all {l : List Nat} : ((l.filter letters.contains).length == l.length) = okSigns l := by
  unfold okSigns
  apply Bool.eq_iff_iff.mpr
  rw [beq_iff_eq, List.length_filter_eq_length_iff, List.all_eq_true]
/-- the law's own look at a text -/
theorem law_is_label (P : HasN D I) (hk : 1 ≤ k) {l : List Nat} (hz : l.length ≤ 1000) : run D k I.l_is_label [.str l] h = .ok (.bl (isLab (.str l))) h := by
  obtain ⟨n, rfl, hr⟩ := run_at (ws := [.str l]) (h := h) hk P.is_label rfl
  rw [hr]
  have hz := le_line hz
  by_cases h1 : 1 ≤ l.length
  · by_cases h2 : l.length ≤ 8
    · have h2' : (l.length : Int) ≤ 8 := by omega
      have h1' : (1 : Int) ≤ l.length := by omega
      have cr : compRun (compTurn false [1] (fun s h => ((varV 1 s h).then fun x h1 => cmpC (ctx D n) .mem x (.str letters) h1).then truthOf) (varV 1) [some (.str l), none]) ⟨l.map fun c => .str [c], [], h, none⟩ h = .ok _ h :=
        comp_run (g := sel) (fun x hx => by
          obtain ⟨c, _, rfl⟩ := List.mem_map.mp hx
          simp only [compTurn, setT, setAll, varV]
          have : memV h (.str [c]) (.str letters) = some (letters.contains c) := rfl
          cases hc : letters.contains c with
          | true =>
            have hs : sel (.str [c]) = some (.str [c]) := by simp only [sel, hc, if_true]
            rw [hc] at this
            simp [this, hs, -rb_ok, M2.rb]
          | false =>
            have hs : sel (.str [c]) = none := by simp only [sel, hc]; rfl
            rw [hc] at this
            simp [this, hs, -rb_ok, M2.rb]) (by simpa using hz)
      have e1 : evS (ctx D n) (.ite (.or (.not (.isi (.var 0) [.str])) (.not (.cmp2 .le .le (.int 1) (.b1 .len [(.var 0)]) (.int 8)))) [.ret (.bl false)] []) [some (.str l), none] h = .nx [some (.str l), none] h := by
        simp [evSs, evS, evE, evT, den, denL, varV, isK, b1op, b1u, hz, chainV, h1', h2']
      show back _ h (evSs _ [_, _] [some (.str l), none] h) = _
      rw [evSs_nx e1]
      simp [evSs, evS, evE, den, denL, srcV, src, cr, blop, b1op, b1u, hz]
      rw [← List.filterMap_map, filt_len]
      have hi : ((((l.filter letters.contains).length : Int)) == (l.length : Int)) = ((l.filter letters.contains).length == l.length) := by
        apply Bool.eq_iff_iff.mpr
        simp only [beq_iff_eq]
        omega
      rw [hi, filt_all]
      simp [isLab, h1, h2]
    · have h2' : ¬ (l.length : Int) ≤ 8 := by omega
      have h1' : (1 : Int) ≤ l.length := by omega
      simp [B.l_is_label, evSs, evS, evE, evT, den, denL, start, varV, isK, b1op, b1u, hz, chainV, h1', h2', isLab, h2]
  · have h1' : ¬ (1 : Int) ≤ l.length := by omega
    simp [B.l_is_label, evSs, evS, evE, evT, den, denL, start, varV, isK, b1op, b1u, hz, chainV, h1', isLab, h1]
/-! ### words, names -/
theorem clStrs (m : Nat) (l : List (List Nat)) : clAll m (l.map .str) = true := by
  induction l with
  | nil => rfl
  | cons x l ih => rw [List.map_cons, clAll, ih]; rfl
theorem law_words (P : HasN D I) (hk : 1 ≤ k) : run D k I.l_words [] h = .ok (.kl (wordList.map .str)) h := by
  obtain ⟨n, rfl, hr⟩ := run_at (ws := []) (h := h) hk P.words rfl
  rw [hr]
  have hs : splitAt1 32 [] wordText = wordList := by decide +kernel
  have hz : wordText.length + 2 ≤ line ∧ 32 < 256 := ⟨by decide +kernel, by decide⟩
  have e : evSs (ctx D n) (B.l_words I).body (start (B.l_words I) []) h = .rt (.kl (wordList.map .str)) h := by
    simp [B.l_words, evSs, evS, evE, den, recv, isRecv, met1, hs, hz]
  rw [e, back_rt, gc_self]
theorem any_str {h : Hm} {x : List Nat} : ∀ {l : List (List Nat)}, anyEq (fun a => eqV h a (.str x)) (l.map .str) = some (l.contains x)
  | [] => rfl
  | y :: l => by
    rw [List.map_cons, anyEq, any_str]
    simp only [eqV_str, List.contains_cons]
    rw [Bool.beq_comm]
def isName (w : W) : Bool := isLab w && (match w with
  | .str l => !wordList.contains l
  | _ => false)
theorem lab_str {w : W} (h : isLab w = true) : ∃ l, w = .str l := by
  cases w <;> first
    | exact ⟨_, rfl⟩
    | cases h
theorem is_name (P : HasW D I) (hk : 2 ≤ k) {w : W} (kn : Kn h w) (hl : ∀ l, w = .str l → l.length ≤ line) : run D k I.is_name [w] h = .ok (.bl (isName w)) h := by
  obtain ⟨n, rfl, hr⟩ := run_at (ws := [w]) (h := h) (show 1 ≤ k by omega) P.is_name rfl
  rw [hr]
  have c1 : conV (ctx D n) I.g_WORDS h = _ := con_ok P.words
  have e1 := is_label (k := n) P (by omega) kn hl
  cases hb : isLab w with
  | true =>
    obtain ⟨l, rfl⟩ := lab_str hb
    have hm : memV h (.str l) (.tup (wordList.map .str)) = some (wordList.contains l) := any_str
    simp [B.is_name, evSs, evS, evE, den, denL, start, varV, e1, hb, hm, isName, c1, -List.contains_eq_mem]
  | false => simp [B.is_name, evSs, evS, evE, den, denL, start, varV, e1, hb, isName]
theorem law_is_labelW (P : HasN D I) (hk : 1 ≤ k) {w : W} (kn : Kn h w) (hl : ∀ l, w = .str l → l.length ≤ 1000) : run D k I.l_is_label [w] h = .ok (.bl (isLab w)) h := by
  obtain ⟨n, rfl, hr⟩ := run_at (ws := [w]) (h := h) hk P.is_label rfl
  obtain ⟨q, e, hc⟩ := kn
  cases w with
  | str l => exact law_is_label P hk (hl l rfl)
  | _ =>
    rw [hr]
    have hs : isK q .str = false := by
      unfold kd at e
      simp only at e
      first
        | (cases e; rfl)
        | (split at e <;> cases e <;> rfl)
    have hi := isi_1 (C := ctx D n) (t := .str) e (kdC_of hc)
    rw [hs] at hi
    simp [B.l_is_label, evSs, evS, evE, evT, den, denL, start, varV, hi, isLab]
theorem law_is_name (P : HasN D I) (hk : 2 ≤ k) {w : W} (kn : Kn h w) (hl : ∀ l, w = .str l → l.length ≤ 1000) : run D k I.l_is_name [w] h = .ok (.bl (isName w)) h := by
  obtain ⟨n, rfl, hr⟩ := run_at (ws := [w]) (h := h) (show 1 ≤ k by omega) P.is_name rfl
  rw [hr]
  have e1 := law_is_labelW (k := n) (h := h) P (by omega) kn hl
  have e2 := law_words (k := n) (h := h) P (by omega)
  cases hb : isLab w with
  | true =>
    obtain ⟨l, rfl⟩ := lab_str hb
    have hm : memV h (.str l) (.kl (wordList.map .str)) = some (wordList.contains l) := any_str
    simp [B.l_is_name, evSs, evS, evE, den, denL, start, varV, e1, hb, e2, hm, isName, -List.contains_eq_mem]
  | false => simp [B.l_is_name, evSs, evS, evE, den, denL, start, varV, e1, hb, isName]
/-! ### a word -/
theorem strs_map : ∀ r : List (List Nat), strsOf (r.map .str) = some r
  | [] => rfl
  | x :: r => by rw [List.map_cons, strsOf, strs_map r]
theorem join_len : ∀ r : List (List Nat), (∀ x ∈ r, x.length = 1) → (joinS [] r).length = r.length ∧ (r.map List.length).sum = r.length
  | [], _ => ⟨rfl, rfl⟩
  | [x], h => ⟨h x (by simp), by have := h x (by simp); simp [this]⟩
  | x :: y :: r, h => by
    obtain ⟨h1, h2⟩ := join_len (y :: r) fun z hz => h z (by simp [hz])
    have hx := h x (by simp)
    refine ⟨?_, ?_⟩
    · rw [joinS, List.append_nil, List.length_append, h1, hx, List.length_cons (a := x)]; omega
    · rw [List.map_cons, List.sum_cons, h2, hx, List.length_cons (a := x)]; omega
theorem join_mem {s : List Nat} {c : Nat} : ∀ {r : List (List Nat)}, c ∈ joinS [] r → ∃ x ∈ r, c ∈ x
  | [x], h => ⟨x, by simp, h⟩
  | x :: y :: r, h => by
    rw [joinS, List.append_nil] at h
    rcases List.mem_append.mp h with h | h
    · exact ⟨x, by simp, h⟩
    · obtain ⟨z, h1, h2⟩ := join_mem (s := s) h
      exact ⟨z, by simp [h1], h2⟩
/-- rows of single signs -/
theorem rows_of {cs : List Nat} : ∀ {r : List W}, (∀ a ∈ r, ∃ c, a = W.str [c] ∧ c ∈ cs) → ∃ rr : List (List Nat), r = rr.map .str ∧ (∀ x ∈ rr, x.length = 1) ∧ ∀ x ∈ rr, ∀ c ∈ x, c ∈ cs
  | [], _ => ⟨[], rfl, (fun _ z => nomatch z), fun _ z => nomatch z⟩
  | a :: r, h => by
    obtain ⟨c, rfl, hc⟩ := h a (by simp)
    obtain ⟨rr, e, h1, h2⟩ := rows_of (r := r) fun a ha => h a (by simp [ha])
    refine ⟨[c] :: rr, by rw [e]; rfl, fun x hx => ?_, fun x hx d hd => ?_⟩
    · rcases List.mem_cons.mp hx with rfl | hx
      · rfl
      · exact h1 x hx
    · rcases List.mem_cons.mp hx with rfl | hx
      · have : d = c := by simpa using hd
        rw [this]; exact hc
      · exact h2 x hx d hd
/-- a drawn word: one to eight small letters -/
theorem word (P : HasP D I) (N : HasN D I) (hk : 3 ≤ k) (p : PotI h) : ∃ l h', run D k I.l_word [.ref 1] h = .ok (.str l) h' ∧ Dr h h' ∧ 1 ≤ l.length ∧ l.length ≤ 8 ∧ okSigns l = true := by
  obtain ⟨n, rfl, hr⟩ := run_at (ws := [.ref 1]) (h := h) (show 1 ≤ k by omega) N.word rfl
  have fin : ∀ {l : List Nat} {h2 : Hm}, evSs (ctx D n) (B.l_word I).body (start (B.l_word I) [.ref 1]) h = .rt (.str l) h2 → Dr h h2 → run D (n + 1) I.l_word [.ref 1] h = .ok (.str l) h2 := fun {l h2} e x => by rw [hr, e, back_rt, gc_same _ x.len]
  obtain ⟨v, h1, e1, N1, v0, v1⟩ := draw (k := n) P (by omega) p (m := 6) (by omega) (by omega)
  by_cases hv : v = 0
  · have e2 := law_words (k := n) (h := h1) N (by omega)
    obtain ⟨w, h3, e3, N3, hw⟩ := pick (k := n) P (by omega) (N1.pot p) (w := .kl (wordList.map .str)) (.inl rfl) (by decide) (by decide)
    obtain ⟨l, hl, rfl⟩ := List.mem_map.mp hw
    have good : ∀ l ∈ wordList, 1 ≤ l.length ∧ l.length ≤ 8 ∧ okSigns l = true := by decide +kernel
    subst hv
    have ev : evSs (ctx D n) (B.l_word I).body (start (B.l_word I) [.ref 1]) h = .rt (.str l) h3 := by
      simp [B.l_word, evSs, evS, evE, evT, den, denL, start, varV, e1, e2, e3]
    exact ⟨l, h3, fin ev (N1.trans N3), N1.trans N3, good l hl⟩
  · have hv' : (v == 0) = false := by rw [beq_eq_false_iff_ne]; exact hv
    obtain ⟨w, h3, e3, N3, hw⟩ := pick (k := n) P (by omega) (N1.pot p) (w := .kl [.int 1, .int 2, .int 3, .int 5, .int 8]) (.inl rfl) (by decide) (by decide)
    have hm : ∃ m : Nat, w = .int m ∧ 1 ≤ m ∧ m ≤ 8 := by
      simp at hw
      rcases hw with rfl | rfl | rfl | rfl | rfl
      · exact ⟨1, rfl, by decide, by decide⟩
      · exact ⟨2, rfl, by decide, by decide⟩
      · exact ⟨3, rfl, by decide, by decide⟩
      · exact ⟨5, rfl, by decide, by decide⟩
      · exact ⟨8, rfl, by decide, by decide⟩
    obtain ⟨m, rfl, m1, m8⟩ := hm
    obtain ⟨r, h4, e4, N4, l4, q4⟩ := draw_go (Q := fun w => ∃ c, w = W.str [c] ∧ c ∈ letters)
      (f := compTurn false [2] (fun _ h => (R.ok (.bl true) h).then truthOf) (fun s h => ((varV 0 s h).then fun x h1 => R.ok [x, .str letters] h1).then (run D n I.l_pick)) [some (.ref 1), some (.int m), none])
      (fun w h p => by
        obtain ⟨c, h', e, N, hc⟩ := pick_str (k := n) P (by omega) p (l := letters) (by decide) (by decide)
        exact ⟨.str [c], h', by simp [compTurn, setT, setAll, varV, e], N, c, rfl, hc⟩) (upto 0 m) [] h3 (N3.pot (N1.pot p))
    obtain ⟨rr, rfl, hx1, hx2⟩ := rows_of q4
    obtain ⟨j1, j2⟩ := join_len rr hx1
    have hl : rr.length = m := by simpa [upto] using l4
    have cr : compRun (compTurn false [2] (fun _ h => (R.ok (.bl true) h).then truthOf) (fun s h => ((varV 0 s h).then fun x h1 => R.ok [x, .str letters] h1).then (run D n I.l_pick)) [some (.ref 1), some (.int m), none]) ⟨upto 0 m, [], h3, none⟩ h3 = .ok (rr.map .str) h4 := by
      unfold compRun
      rw [e4]
      simp only [compEnd, List.nil_append]
      rw [if_pos (by rw [List.length_map, hl]; exact le_line (by omega))]
      rfl
    have jn : joinop (.str []) (rr.map .str) h4 = .ok (.str (joinS [] rr)) h4 := by
      unfold joinop
      rw [strs_map]
      simp only
      rw [if_pos (by rw [j2, List.length_nil, Nat.mul_zero, Nat.add_zero, hl]; exact le_line (by omega))]
    have ev : evSs (ctx D n) (B.l_word I).body (start (B.l_word I) [.ref 1]) h = .rt (.str (joinS [] rr)) h4 := by
      have s0 : evS (ctx D n) (.ite (.cmp .eq (.call I.l_draw [(.var 0), (.int 6)]) (.int 0)) [.ret (.call I.l_pick [(.var 0), (.call I.l_words [])])] []) [some (.ref 1), none, none] h = .nx [some (.ref 1), none, none] h1 := by
        simp [evSs, evS, evE, evT, den, denL, varV, e1, hv']
      have s1 : evS (ctx D n) (.asg (.var 1) (.call I.l_pick [(.var 0), (.lst [(.int 1), (.int 2), (.int 3), (.int 5), (.int 8)])])) [some (.ref 1), none, none] h1 = .nx [some (.ref 1), some (.int m), none] h3 := by
        have sh := short_lit (ws := [.int 1, .int 2, .int 3, .int 5, .int 8]) (h := h1) (by simp)
        simp [evS, evE, den, denL, varV, sh, e3, M2.asg]
      have s2 : evS (ctx D n) (.ret (.met .join (.str []) [(.lc [2] false [2] (.call I.l_pick [(.var 0), (.str letters)]) .rng1 (.var 1) .non (.bl true))])) [some (.ref 1), some (.int m), none] h3 = .rt (.str (joinS [] rr)) h4 := by
        simp only [evS, evE, den, denL, mkV_v, mkL_l, mkV_t, varV, List.getElem?_cons_succ, List.getElem?_cons_zero, then_okk, ctx_call, src_rng (show m ≤ 1000 by omega)]
        have cr2 := cr
        simp only [varV, then_okk] at cr2
        rw [cr2]
        simp only [then_okk, recv, isRecv, if_true, jn, ofR_ok]
      show evSs _ [_, _, _] [some (.ref 1), none, none] h = _
      rw [evSs_nx s0, evSs_nx s1, evSs_rt s2]
    have N := N1.trans (N3.trans N4)
    refine ⟨joinS [] rr, h4, fin ev N, N, by rw [j1, hl]; exact m1, by rw [j1, hl]; exact m8, ?_⟩
    unfold okSigns
    rw [List.all_eq_true]
    intro c hc
    obtain ⟨x, h1, h2⟩ := join_mem (s := []) hc
    simpa using hx2 x h1 c h2
end
end M2

namespace M2
theorem pigeon {A : Type} [DecidableEq A] : ∀ {l m : List A}, l.Nodup → (∀ x ∈ l, x ∈ m) → l.length ≤ m.length
  | [], _, _, _ => Nat.zero_le _
  | x :: l, m, n, h => by
    have n' := List.nodup_cons.mp n
    have hx := h x (by simp)
    have := pigeon (m := m.erase x) n'.2 fun y hy => by
      have ne : y ≠ x := fun e => n'.1 (e ▸ hy)
      exact (List.mem_erase_of_ne ne).mpr (h y (by simp [hy]))
    rw [List.length_erase_of_mem hx] at this
    have : 0 < m.length := List.length_pos_of_mem hx
    simp only [List.length_cons]
    omega
/-- a comprehension whose turns may lay objects -/
theorem comp_goI {A : Type} {f : W → Hm → R (Option A)} {gs : List (Nat × List W)} {g : W → Option A} (J : Hm → Prop) (hg : ∀ h, J h → okG gs h = true) : ∀ (its : List W) (acc : List A) (h : Hm), (∀ x ∈ its, ∀ h, J h → ∃ h', f x h = .ok (g x) h' ∧ J h') → J h →
    ∃ h', compGo f gs its acc h = .ok (acc ++ its.filterMap g) h' ∧ J h'
  | [], acc, h, _, j => ⟨h, by rw [compGo, hg h j, if_pos rfl]; simp, j⟩
  | x :: its, acc, h, hf, j => by
    obtain ⟨h1, e1, j1⟩ := hf x (by simp) h j
    rw [compGo, hg h j, if_pos rfl, e1, List.filterMap_cons]
    have ih := fun acc => comp_goI (f := f) J hg its acc h1 (fun y hy => hf y (by simp [hy])) j1
    cases g x with
    | none => exact ih acc
    | some a =>
      obtain ⟨h2, e2, j2⟩ := ih (acc ++ [a])
      refine ⟨h2, ?_, j2⟩
      simp only
      rw [e2]
      simp
/-- a for whose turns keep J -/
theorem for_go {f : W → Env → Hm → RS} {gs : List (Nat × List W)} (J : List W → Env → Hm → Prop) (hg : ∀ l s h, J l s h → okG gs h = true) (hf : ∀ x l s h, J (x :: l) s h → ∃ s' h', f x s h = .nx s' h' ∧ J l s' h') : ∀ (its : List W) (s : Env) (h : Hm), J its s h → ∃ s' h', forGo f gs its s h = .nx s' h' ∧ J [] s' h'
  | [], s, h, j => ⟨s, h, by rw [forGo, hg _ _ _ j, if_pos rfl], j⟩
  | x :: its, s, h, j => by
    obtain ⟨s1, h1, e1, j1⟩ := hf x its s h j
    obtain ⟨s2, h2, e2, j2⟩ := for_go J hg hf its s1 h1 j1
    refine ⟨s2, h2, ?_, j2⟩
    rw [forGo, hg _ _ _ j, if_pos rfl, e1]
    exact e2
theorem okG_one {r : Nat} {l : List W} {h : Hm} (e : h[r]? = some (.lst l)) : okG [(r, l)] h = true := by simp [okG, asL, e]
theorem srcV_ref {r : Nat} {l : List W} {h : Hm} (e : h[r]? = some (.lst l)) : srcV .seq (.ref r) .non h = .ok ⟨l, [(r, l)], h, none⟩ h := srcV_of (by unfold src; simp only [e])
theorem compRun_of {A : Type} {f : W → Hm → R (Option A)} {its : List W} {gs : List (Nat × List W)} {h h0 h' : Hm} {r : List A} (e : compGo f gs its [] h = .ok r h') (hl : r.length ≤ 1000) : compRun f ⟨its, gs, h0, none⟩ h = .ok r h' := by
  unfold compRun
  simp only [e, compEnd]
  rw [if_pos (le_line hl)]
  rfl
theorem m_append {r : Nat} {l : List W} {w : W} {h : Hm} (e : h[r]? = some (.lst l)) (hl : l.length ≤ 1000) : met1 .append (.ref r) w h = .ok .non (h.set r (.lst (l ++ [w]))) := by
  unfold met1
  simp only [e]
  rw [if_pos (Nat.lt_of_le_of_lt hl (by decide +kernel))]
theorem recv_app {r : Nat} {l : List W} {h : Hm} {x : R W} (e : h[r]? = some (.lst l)) : recv .append (.ref r) h x = x := by
  unfold recv isRecv asL
  simp [e]
theorem g_set {h : Hm} {r : Nat} {o o' : O} (e : h[r]? = some o) : (h.set r o')[r]? = some o' := by rw [List.getElem?_set_self (lt_get e)]
theorem upto_len (a : Int) (n : Nat) : (upto a n).length = n := by simp [upto]
section
variable {D : Prog} {I : Ix} {k : Nat} {h : Hm}
/-- what is asked of names -/
structure NamesOk (tk ns : List (List Nat)) : Prop where
  nd : (tk ++ ns).Nodup
  name : ∀ x ∈ ns, isName (.str x) = true
theorem cut7 {l : List Nat} (h : l.length ≤ 8) : cut l none (some 7) = l.take 7 := by
  unfold cut clip
  simp
def cand (w : List Nat) (no : List (List Nat)) (x : W) : Option W := match x with
  | .str z => if no.contains z = false ∧ isName (.str z) = true then some (.str z) else none
  | _ => none
theorem cand_str {w z : List Nat} {no : List (List Nat)} : cand w no (.str z) = if no.contains z = false ∧ isName (.str z) = true then some (.str z) else none := rfl
theorem cand_get {w : List Nat} (h7 : w.length ≤ 7) (hw : okSigns w = true) {no : List (List Nat)} (hn : no.length ≤ 14) : ∃ nm rest, (letters.map fun c => W.str (w ++ [c])).filterMap (cand w no) = .str nm :: rest ∧ nm ∉ no ∧ isName (.str nm) = true := by
  have ex : ∃ c ∈ letters, no.contains (w ++ [c]) = false ∧ isName (.str (w ++ [c])) = true := by
    refine Classical.byContradiction fun z => ?_
    have all : ∀ c ∈ letters, w ++ [c] ∈ no ++ wordList := fun c hc => by
      by_cases h1 : (w ++ [c]) ∈ no
      · exact List.mem_append_left _ h1
      · by_cases h2 : w ++ [c] ∈ wordList
        · exact List.mem_append_right _ h2
        · refine absurd ⟨c, hc, by simpa using h1, ?_⟩ z
          unfold isName isLab
          have ok : okSigns (w ++ [c]) = true := by
            unfold okSigns at hw ⊢
            rw [List.all_append, hw]
            simpa using hc
          simp only [List.length_append, List.length_singleton, ok]
          have e1 : decide (1 ≤ w.length + 1) = true := decide_eq_true (by omega)
          have e2 : decide (w.length + 1 ≤ 8) = true := decide_eq_true (by omega)
          rw [e1, e2]
          simpa using h2
    have nd : (letters.map fun c => w ++ [c]).Nodup := by
      rw [List.nodup_iff_pairwise_ne, List.pairwise_map]
      have : letters.Nodup := by decide +kernel
      rw [List.nodup_iff_pairwise_ne] at this
      exact this.imp fun hne e => hne (by simpa using e)
    have := pigeon nd (m := no ++ wordList) fun x hx => by
      obtain ⟨c, hc, rfl⟩ := List.mem_map.mp hx
      exact all c hc
    rw [List.length_map, List.length_append] at this
    have e1 : letters.length = 26 := by decide +kernel
    have e2 : wordList.length = 11 := by decide +kernel
    omega
  obtain ⟨c, hc, h1, h2⟩ := ex
  have ne : (letters.map fun c => W.str (w ++ [c])).filterMap (cand w no) ≠ [] := fun z => by
    rw [List.filterMap_eq_nil_iff] at z
    have := z _ (List.mem_map.mpr ⟨c, hc, rfl⟩)
    rw [cand_str, if_pos ⟨h1, h2⟩] at this
    cases this
  cases q : (letters.map fun c => W.str (w ++ [c])).filterMap (cand w no) with
  | nil => exact absurd q ne
  | cons y rest =>
    have hy : y ∈ (letters.map fun c => W.str (w ++ [c])).filterMap (cand w no) := by rw [q]; simp
    obtain ⟨x, hx, e⟩ := List.mem_filterMap.mp hy
    obtain ⟨d, hd, rfl⟩ := List.mem_map.mp hx
    rw [cand_str] at e
    by_cases hh : no.contains (w ++ [d]) = false ∧ isName (.str (w ++ [d])) = true
    · rw [if_pos hh] at e
      cases e
      exact ⟨_, rest, rfl, by simpa using hh.1, hh.2⟩
    · rw [if_neg hh] at e; cases e
theorem any_strs {h : Hm} {x : List Nat} {l : List (List Nat)} : anyEq (fun a => eqV h a (.str x)) (l.map .str) = some (l.contains x) := any_str
theorem pu_strs : ∀ l : List (List Nat), puAll (l.map .str) = true
  | [] => rfl
  | x :: l => by rw [List.map_cons, puAll, pu_strs l]; rfl
theorem add_kl {x y : W} {u v : List W} {h : Hm} (e1 : lsO h x = some u) (e2 : lsO h y = some v) (hl : u.length + v.length ≤ 1000) : binop .add x y h = .ok (.kl (u ++ v)) h := by
  have key : binop .add x y h = (match lsO h x, lsO h y with
        | some l, some m => if l.length + m.length ≤ line then R.ok (.kl (l ++ m)) h else .bad
        | _, _ => .bad) := by
    cases x with
    | ref r => rfl
    | kl l => rfl
    | _ => exact nomatch (show none = some u from e1)
  rw [key, e1, e2]
  simp only
  rw [if_pos (le_line hl)]
theorem lsO_ref {h : Hm} {r : Nat} {l : List W} (e : h[r]? = some (.lst l)) : lsO h (.ref r) = some l := by
  show asL h r = some l
  unfold asL
  rw [e]
/-- one turn -/
theorem names_turn (P : HasP D I) (N : HasN D I) (hk : 3 ≤ k) {tk acc : List (List Nat)} {m x4 : W} {x5 x6 x7 x8 : Option W} (p : PotI h) (hl : tk.length + acc.length ≤ 14) :
    ∃ nm a5 a6 h1, evSs (ctx D k) [.asg (.var 5) (.slc (.call I.l_word [(.var 0)]) false .non true (.int 7)),
      .asg (.var 6) (.lc [7] false [7] (.bin .add (.var 5) (.var 7)) .seq (.str letters) .non (.bl true)),
      .exp (.met .append (.var 3) [(.sub (.lc [8] false [8] (.var 8) .seq (.var 6) .non (.and (.cmp .nmem (.var 8) (.bin .add (.var 2) (.var 3))) (.call I.l_is_name [(.var 8)]))) (.int 0))])]
      [some (.ref 1), some m, some (.kl (tk.map .str)), some (.ref h.length), some x4, x5, x6, x7, x8] (h ++ [.lst (acc.map .str)]) = .nx [some (.ref 1), some m, some (.kl (tk.map .str)), some (.ref h.length), some x4, a5, a6, x7, x8] (h1 ++ [.lst ((acc ++ [nm]).map .str)]) ∧
      Dr h h1 ∧ nm ∉ tk ++ acc ∧ isName (.str nm) = true := by
  obtain ⟨w, h', e1, N1, w1, w8, ws⟩ := word (k := k) P N (by omega) (p.lst (pu_strs acc))
  obtain ⟨h1, rfl, Nd⟩ := N1.of_app p.two
  have hw7 : (cut w none (some 7)).length ≤ 7 := by rw [cut7 w8, List.length_take]; omega
  have hs7 : okSigns (cut w none (some 7)) = true := by
    rw [cut7 w8]
    unfold okSigns at ws ⊢
    rw [List.all_eq_true] at ws ⊢
    exact fun c hc => ws c (List.mem_of_mem_take hc)
  generalize hw : cut w none (some 7) = w7 at hw7 hs7
  generalize hh : h1 ++ [O.lst (acc.map .str)] = h2 at e1
  have hacc : h2[h.length]? = some (.lst (acc.map .str)) := by rw [← hh, ← Nd.len]; simp
  have s0 : evS (ctx D k) (.asg (.var 5) (.slc (.call I.l_word [(.var 0)]) false .non true (.int 7))) [some (.ref 1), some m, some (.kl (tk.map .str)), some (.ref h.length), some x4, x5, x6, x7, x8] (h ++ [.lst (acc.map .str)]) = .nx [some (.ref 1), some m, some (.kl (tk.map .str)), some (.ref h.length), some x4, some (.str w7), x6, x7, x8] h2 := by
    have g : getSlice (.str w) none (some 7) h2 = .ok (.str w7) h2 := by
      unfold getSlice
      simp only [if_pos (le_line (show w.length ≤ 1000 by omega)), hw]
    simp [evS, evE, den, denL, varV, e1, partD, intPart, g, M2.asg]
  let ls : List W := letters.map fun c => W.str (w7 ++ [c])
  have s1 : evS (ctx D k) (.asg (.var 6) (.lc [7] false [7] (.bin .add (.var 5) (.var 7)) .seq (.str letters) .non (.bl true))) [some (.ref 1), some m, some (.kl (tk.map .str)), some (.ref h.length), some x4, some (.str w7), x6, x7, x8] h2 = .nx [some (.ref 1), some m, some (.kl (tk.map .str)), some (.ref h.length), some x4, some (.str w7), some (.kl ls), x7, x8] h2 := by
    have cr : compRun (compTurn false [7] (fun _ h => R.ok true h) (fun s h => (varV 5 s h).then fun x h1 => (varV 7 s h1).then fun y h2 => binop .add x y h2) [some (.ref 1), some m, some (.kl (tk.map .str)), some (.ref h.length), some x4, some (.str w7), x6, x7, x8]) ⟨letters.map fun c => .str [c], [], h2, none⟩ h2 = .ok _ h2 :=
      comp_run (g := fun x => match x with | .str z => some (.str (w7 ++ z)) | _ => none) (fun x hx => by
        obtain ⟨c, _, rfl⟩ := List.mem_map.mp hx
        have b : binop .add (.str w7) (.str [c]) h2 = .ok (.str (w7 ++ [c])) h2 := by
          show (if w7.length + [c].length ≤ line then _ else _) = _
          rw [if_pos (le_line (by simp; omega))]
        simp [compTurn, setT, setAll, varV, b]) (by rw [List.length_map]; exact le_line (by decide))
    have el : (letters.map fun c => W.str [c]).filterMap (fun x => match x with | .str z => some (W.str (w7 ++ z)) | _ => none) = ls := by
      rw [List.filterMap_map]
      show List.filterMap (fun c => some (W.str (w7 ++ [c]))) letters = _
      rw [List.filterMap_eq_map']
    rw [el] at cr
    simp [evS, evE, den, denL, srcV, src, cr, M2.asg]
  obtain ⟨nm, rest, eq, hn, hnm⟩ := cand_get hw7 hs7 (no := tk ++ acc) (by rw [List.length_append]; exact hl)
  have ad : binop .add (.kl (tk.map .str)) (.ref h.length) h2 = .ok (.kl ((tk ++ acc).map .str)) h2 := by
    rw [add_kl (u := tk.map .str) (v := acc.map .str) rfl (lsO_ref hacc) (by simp; omega), List.map_append]
  have cr2 : compRun (compTurn false [8] (fun s h => ((((varV 8 s h).then fun x h1 => ((varV 2 s h1).then fun x h1 => (varV 3 s h1).then fun y h2 => binop .add x y h2).then fun y h2 => cmpC (ctx D k) .nmem x y h2).then truthOf).then (iteB (fun h => ((((varV 8 s h).then fun x h1 => R.ok [x] h1).then (run D k I.l_is_name)).then truthOf)) (fun h1 => .ok false h1)))) (varV 8) [some (.ref 1), some m, some (.kl (tk.map .str)), some (.ref h.length), some x4, some (.str w7), some (.kl ls), x7, x8]) ⟨ls, [], h2, none⟩ h2 = .ok _ h2 :=
    comp_run (g := cand w7 (tk ++ acc)) (fun x hx => by
      obtain ⟨c, hc, rfl⟩ := List.mem_map.mp hx
      have mm : memV h2 (.str (w7 ++ [c])) (.kl ((tk ++ acc).map .str)) = some ((tk ++ acc).contains (w7 ++ [c])) := any_str
      have nmv := law_is_name (k := k) (h := h2) (w := .str (w7 ++ [c])) N (by omega) ⟨.str, rfl, nofun⟩ (fun l e => by cases e; simp; omega)
      cases hc1 : (tk ++ acc).contains (w7 ++ [c]) with
      | true =>
        rw [hc1] at mm
        have ec : cand w7 (tk ++ acc) (.str (w7 ++ [c])) = none := by
          rw [cand_str, if_neg (fun z => by rw [hc1] at z; exact nomatch z.1)]
        simp [compTurn, setT, setAll, varV, ad, mm, ec, -rb_ok, -rnb_ok, rnb, -List.map_append, -List.contains_eq_mem]
      | false =>
        rw [hc1] at mm
        cases hn1 : isName (.str (w7 ++ [c])) with
        | true =>
          rw [hn1] at nmv
          have ec : cand w7 (tk ++ acc) (.str (w7 ++ [c])) = some (.str (w7 ++ [c])) := by
            rw [cand_str, if_pos ⟨hc1, hn1⟩]
          simp [compTurn, setT, setAll, varV, ad, mm, ec, nmv, -rb_ok, -rnb_ok, rnb, -List.map_append, -List.contains_eq_mem]
        | false =>
          rw [hn1] at nmv
          have ec : cand w7 (tk ++ acc) (.str (w7 ++ [c])) = none := by
            rw [cand_str, if_neg (fun z => by rw [hn1] at z; exact nomatch z.2)]
          simp [compTurn, setT, setAll, varV, ad, mm, ec, nmv, -rb_ok, -rnb_ok, rnb, -List.map_append, -List.contains_eq_mem]) (by simp only [ls, List.length_map]; exact le_line (by decide))
  rw [eq] at cr2
  have s2 : evS (ctx D k) (.exp (.met .append (.var 3) [(.sub (.lc [8] false [8] (.var 8) .seq (.var 6) .non (.and (.cmp .nmem (.var 8) (.bin .add (.var 2) (.var 3))) (.call I.l_is_name [(.var 8)]))) (.int 0))])) [some (.ref 1), some m, some (.kl (tk.map .str)), some (.ref h.length), some x4, some (.str w7), some (.kl ls), x7, x8] h2 =
      .nx [some (.ref 1), some m, some (.kl (tk.map .str)), some (.ref h.length), some x4, some (.str w7), some (.kl ls), x7, x8] (h2.set h.length (.lst ((acc ++ [nm]).map .str))) := by
    have g0 : getItem (.kl (.str nm :: rest)) (.int 0) h2 = .ok (.str nm) h2 := by
      unfold getItem
      simp only [place_nn (Int.le_refl 0) (show (0 : Int) < ((W.str nm :: rest).length : Nat) by simp), Int.toNat_zero, List.getElem?_cons_zero]
    have ap := m_append (w := .str nm) hacc (by rw [List.length_map]; omega)
    have sv : srcV .seq (.kl ls) .non h2 = .ok ⟨ls, [], h2, none⟩ h2 := rfl
    simp [evS, evE, den, denL, recv_app hacc, sv, cr2, g0, ap]
  refine ⟨nm, some (.str w7), some (.kl ls), h1, ?_, Nd, hn, hnm⟩
  rw [evSs_nx s0, evSs_nx s1, evSs_nx s2, evSs_nil, ← hh, ← Nd.len, List.set_append_right _ _ (Nat.le_refl _), Nat.sub_self]
  rfl
end
end M2

namespace M2
structure HasS (D : Prog) (I : Ix) : Prop where
  table : D.fns I.l_table = some (B.l_table I)
  kind : D.fns I.l_kind = some (B.l_kind I)
  pairs : D.fns I.l_pairs = some (B.l_pairs I)
  spec : D.fns I.l_spec = some (B.l_spec I)
section
variable {D : Prog} {I : Ix} {k : Nat} {h : Hm}
theorem set_at {h : Hm} {r q : Nat} {o o' : O} (e : h[r]? = some o) (n : r ≠ q) : (h.set q o')[r]? = some o := by rw [List.getElem?_set_ne (Ne.symm n)]; exact e
/-- names that are not taken -/
theorem names (P : HasP D I) (N : HasN D I) (hk : 4 ≤ k) {tk : List (List Nat)} {m : Nat} (p : PotI h) (nd0 : tk.Nodup) (hl : tk.length + m ≤ 14) :
    ∃ ns h', run D k I.l_names [.ref 1, .int m, .kl (tk.map .str)] h = .ok (.kl (ns.map .str)) h' ∧ Dr h h' ∧ ns.length = m ∧ NamesOk tk ns := by
  obtain ⟨n, rfl, hr⟩ := run_at (ws := [.ref 1, .int m, .kl (tk.map .str)]) (h := h) (show 1 ≤ k by omega) N.names rfl
  let s0 : Env := [some (.ref 1), some (.int m), some (.kl (tk.map .str)), none, none, none, none, none, none]
  have q0 : evS (ctx D n) (.asg (.var 3) (.new (.lst []))) s0 h = .nx [some (.ref 1), some (.int m), some (.kl (tk.map .str)), some (.ref h.length), none, none, none, none, none] (h ++ [.lst []]) := by
    simp [s0, evS, evE, den, denL, newD', short_nil, M2.asg]
  let J : List W → Env → Hm → Prop := fun rest s h' => ∃ acc x4 x5 x6 x7 x8 h1, s = [some (.ref 1), some (.int m), some (.kl (tk.map .str)), some (.ref h.length), x4, x5, x6, x7, x8] ∧ h' = h1 ++ [.lst (acc.map .str)] ∧ Dr h h1 ∧ acc.length + rest.length = m ∧ NamesOk tk acc
  obtain ⟨s1, _, e1, acc, x4, x5, x6, x7, x8, h1, rfl, rfl, N1, l1, ok1⟩ := for_go (gs := []) (f := forTurn false [4] (evSs (ctx D n) [.asg (.var 5) (.slc (.call I.l_word [(.var 0)]) false .non true (.int 7)),
      .asg (.var 6) (.lc [7] false [7] (.bin .add (.var 5) (.var 7)) .seq (.str letters) .non (.bl true)),
      .exp (.met .append (.var 3) [(.sub (.lc [8] false [8] (.var 8) .seq (.var 6) .non (.and (.cmp .nmem (.var 8) (.bin .add (.var 2) (.var 3))) (.call I.l_is_name [(.var 8)]))) (.int 0))])])) J (fun _ _ _ _ => rfl)
    (fun x l s hh j => by
      obtain ⟨acc, x4, x5, x6, x7, x8, h1, rfl, rfl, N1, l1, ok1⟩ := j
      simp only [List.length_cons] at l1
      obtain ⟨nm, a5, a6, h2, e, N2, hn, hnm⟩ := names_turn (k := n) (m := .int m) (x4 := x) (x5 := x5) (x6 := x6) (x7 := x7) (x8 := x8) (tk := tk) (acc := acc) P N (by omega) (N1.pot p) (by omega)
      rw [N1.len] at e
      refine ⟨_, _, ?_, acc ++ [nm], some x, a5, a6, x7, x8, h2, rfl, rfl, N1.trans N2, by simp; omega, ?_, fun y hy => ?_⟩
      · unfold forTurn
        simp only [setT, setAll, Bool.false_eq_true, if_false]
        exact e
      · rw [← List.append_assoc, List.nodup_append]
        refine ⟨ok1.nd, by simp, fun a ha b hb => ?_⟩
        have : b = nm := by simpa using hb
        rw [this]
        rintro rfl
        exact hn ha
      · rcases List.mem_append.mp hy with hy | hy
        · exact ok1.name y hy
        · have : y = nm := by simpa using hy
          rw [this]; exact hnm)
    (upto 0 m) _ (h ++ [.lst []]) ⟨[], none, none, none, none, none, h, rfl, rfl, Dr.refl h, by simp [upto_len], ⟨by simpa using nd0, fun _ z => nomatch z⟩⟩
  have q1 : evS (ctx D n) (.for false [4] .rng1 (.var 1) .non [.asg (.var 5) (.slc (.call I.l_word [(.var 0)]) false .non true (.int 7)),
      .asg (.var 6) (.lc [7] false [7] (.bin .add (.var 5) (.var 7)) .seq (.str letters) .non (.bl true)),
      .exp (.met .append (.var 3) [(.sub (.lc [8] false [8] (.var 8) .seq (.var 6) .non (.and (.cmp .nmem (.var 8) (.bin .add (.var 2) (.var 3))) (.call I.l_is_name [(.var 8)]))) (.int 0))])]) [some (.ref 1), some (.int m), some (.kl (tk.map .str)), some (.ref h.length), none, none, none, none, none] (h ++ [.lst []]) = .nx [some (.ref 1), some (.int m), some (.kl (tk.map .str)), some (.ref h.length), x4, x5, x6, x7, x8] (h1 ++ [.lst (acc.map .str)]) := by
    rw [evS]
    simp only [evE, den, mkV_v, var_some (show ([some (.ref 1), some (.int m), some (.kl (tk.map .str)), some (.ref h.length), none, none, none, none, none] : Env)[1]? = some (some (.int m)) from rfl), ofR_ok, src_rng (show m ≤ 1000 by omega), forRun, e1]
    rfl
  refine ⟨acc, h1, ?_, N1, by simpa using l1, ok1⟩
  rw [hr]
  show back _ h (evSs _ [_, _, _] s0 h) = _
  rw [evSs_nx q0, evSs_nx q1]
  have := gc_drl p N1 (pu_strs acc)
  simp [evSs, evS, evE, den, B.l_names, this]
/-- numbers within bounds -/
def InB (lo hi : Int) (l : List Int) : Prop := ∀ x ∈ l, lo ≤ x ∧ x ≤ hi
theorem ints_of {lo hi : Int} : ∀ {r : List W}, (∀ a ∈ r, ∃ x, a = W.int x ∧ lo ≤ x ∧ x ≤ hi) → ∃ l : List Int, r = l.map .int ∧ InB lo hi l
  | [], _ => ⟨[], rfl, fun _ z => nomatch z⟩
  | a :: r, h => by
    obtain ⟨x, rfl, hx⟩ := h a (by simp)
    obtain ⟨l, e, hl⟩ := ints_of (r := r) fun b hb => h b (by simp [hb])
    refine ⟨x :: l, by rw [e]; rfl, fun y hy => ?_⟩
    rcases List.mem_cons.mp hy with rfl | hy
    · exact hx
    · exact hl y hy
theorem pu_ints : ∀ l : List Int, puAll (l.map .int) = true
  | [] => rfl
  | x :: l => by rw [List.map_cons, puAll, pu_ints l]; rfl
/-- a row drawn turn by turn over given items -/
theorem draw_each {A : Type} {f : W → Hm → R (Option A)} {Q : A → Prop} : ∀ (its : List W) (acc : List A) (h : Hm), (∀ w ∈ its, ∀ h, PotI h → ∃ a h', f w h = .ok (some a) h' ∧ Dr h h' ∧ Q a) → PotI h → ∃ r h', compGo f [] its acc h = .ok (acc ++ r) h' ∧ Dr h h' ∧ r.length = its.length ∧ ∀ a ∈ r, Q a
  | [], acc, h, _, p => ⟨[], h, by rw [compGo, List.append_nil]; rfl, Dr.refl h, rfl, fun _ z => nomatch z⟩
  | x :: its, acc, h, hf, p => by
    obtain ⟨a, h1, e1, N1, q1⟩ := hf x (by simp) h p
    obtain ⟨r, h2, e2, N2, l2, q2⟩ := draw_each its (acc ++ [a]) h1 (fun w hw => hf w (by simp [hw])) (N1.pot p)
    refine ⟨a :: r, h2, ?_, N1.trans N2, by simp [l2], fun z hz => ?_⟩
    · rw [compGo]
      have ok : okG [] h = true := rfl
      rw [ok, if_pos rfl, e1]
      simp only
      rw [e2, List.append_assoc]
      rfl
    · rcases List.mem_cons.mp hz with rfl | hz
      · exact q1
      · exact q2 z hz
theorem table (P : HasP D I) (S : HasS D I) (hk : 2 ≤ k) (p : PotI h) {o most : Int} (o0 : 0 ≤ o) (o6 : o ≤ 100) (m0 : 0 ≤ most) (m99 : most ≤ 99) :
    ∃ l h', run D k I.l_table [.ref 1, .int o, .int most] h = .ok (.tup (l.map .int)) h' ∧ Dr h h' ∧ (l.length : Int) = o + 1 ∧ InB 0 99 l := by
  obtain ⟨n, rfl, hr⟩ := run_at (ws := [.ref 1, .int o, .int most]) (h := h) (show 1 ≤ k by omega) S.table rfl
  obtain ⟨v, h1, e1, N1, v0, v1⟩ := draw (k := n) P (by omega) p (m := 3) (by omega) (by omega)
  obtain ⟨c, hc⟩ := Int.eq_ofNat_of_zero_le (show 0 ≤ o + 1 by omega)
  have fin : ∀ {l : List Int} {h2 : Hm}, evSs (ctx D n) (B.l_table I).body (start (B.l_table I) [.ref 1, .int o, .int most]) h = .rt (.tup (l.map .int)) h2 → Dr h h2 → (l.length : Int) = o + 1 → InB 0 99 l → ∃ l h', run D (n + 1) I.l_table [.ref 1, .int o, .int most] h = .ok (.tup (l.map .int)) h' ∧ Dr h h' ∧ (l.length : Int) = o + 1 ∧ InB 0 99 l := fun {l h2} e x a b => ⟨l, h2, by rw [hr, e, back_rt, gc_same _ x.len], x, a, b⟩
  have s0 : evS (ctx D n) (.asg (.var 3) (.call I.l_draw [(.var 0), (.int 3)])) [some (.ref 1), some (.int o), some (.int most), none, none] h = .nx [some (.ref 1), some (.int o), some (.int most), some (.int v), none] h1 := by
    simp [evS, evE, den, denL, e1, M2.asg]
  have row : ∀ {f : W → Hm → R (Option W)}, (∀ w ∈ upto 0 c, ∀ h, PotI h → ∃ a h', f w h = .ok (some a) h' ∧ Dr h h' ∧ ∃ x, a = W.int x ∧ 0 ≤ x ∧ x ≤ 99) → ∃ l h', compRun f ⟨upto 0 c, [], h1, none⟩ h1 = .ok (l.map .int) h' ∧ Dr h1 h' ∧ (l.length : Int) = o + 1 ∧ InB 0 99 l := fun {f} hf => by
    obtain ⟨r, h', e, N, hl, q⟩ := draw_each (Q := fun a => ∃ x, a = W.int x ∧ 0 ≤ x ∧ x ≤ 99) (upto 0 c) [] h1 hf (N1.pot p)
    obtain ⟨l, rfl, hb⟩ := ints_of q
    rw [upto_len, List.length_map] at hl
    rw [List.nil_append] at e
    exact ⟨l, h', compRun_of e (by rw [List.length_map]; omega), N, by omega, hb⟩
  by_cases hv : v = 0
  · obtain ⟨l, h2, e2, N2, l2, b2⟩ := row (f := compTurn false [4] (fun _ h => R.ok true h) (fun s h => (((varV 0 s h).then fun x h1 => (((varV 2 s h1).then fun x h1 => binop .add x (.int 1) h1).then fun x h1 => R.ok [x] h1).then fun ws h2 => R.ok (x :: ws) h2).then (run D n I.l_draw))) [some (.ref 1), some (.int o), some (.int most), some (.int v), none]) (fun w hw h p => by
      obtain ⟨x, h', e, N, x0, x1⟩ := draw (k := n) P (by omega) p (m := most + 1) (by omega) (by omega)
      exact ⟨.int x, h', by simp [compTurn, setT, setAll, e], N, x, rfl, x0, by have := x1 (by omega); omega⟩)
    refine fin (l := l) (h2 := h2) ?_ (N1.trans N2) l2 b2
    subst hv
    show evSs _ [_, _, _] [some (.ref 1), some (.int o), some (.int most), none, none] h = _
    rw [evSs_nx s0]
    refine evSs_rt ?_
    simp [evSs, evS, evE, evT, den, denL, hc, src_rng (show c ≤ 1000 by omega), e2, blop]
  · have hv' : (v == 0) = false := by rw [beq_eq_false_iff_ne]; exact hv
    obtain ⟨l, h2, e2, N2, l2, b2⟩ := row (f := compTurn false [4] (fun _ h => R.ok true h) (fun s h => (((((varV 4 s h).then fun x h1 => (((((varV 0 s h1).then fun x h1 => R.ok [x, .int 3] h1)).then (run D n I.l_draw)).then fun y h2 => binop .add (.int 1) y h2).then fun y h2 => binop .mul x y h2).then fun x h1 => R.ok [x] h1).then fun ws h2 => R.ok (.int 99 :: ws) h2).then (b1op .min2))) [some (.ref 1), some (.int o), some (.int most), some (.int v), none]) (fun w hw h p => by
      obtain ⟨i, hi, rfl⟩ := List.mem_map.mp hw
      have hi : i < c := by simpa using hi
      obtain ⟨x, h', e, N, x0, x1⟩ := draw (k := n) P (by omega) p (m := 3) (by omega) (by omega)
      have x1 := x1 (by omega)
      have bm : binop .mul (.int (0 + (i : Nat))) (.int (1 + x)) h' = .ok (.int ((0 + (i : Nat)) * (1 + x))) h' := b_mul (by
        have h1 := lgz (m := 0 + (i : Nat)) (by omega) (by omega)
        have h2 := lgz (m := 1 + x) (by omega) (by omega)
        omega)
      have pr : 0 ≤ (0 + (i : Nat) : Int) * (1 + x) := Int.mul_nonneg (by omega) (by omega)
      have bo : b1op .min2 [.int 99, .int ((0 + (i : Nat)) * (1 + x))] h' = .ok (.int (if ((0 + (i : Nat)) * (1 + x) : Int) < 99 then (0 + (i : Nat)) * (1 + x) else 99)) h' := rfl
      refine ⟨.int (if ((0 + (i : Nat)) * (1 + x) : Int) < 99 then (0 + (i : Nat)) * (1 + x) else 99), h', ?_, N, _, rfl, ?_, ?_⟩
      · have v4 : ∀ h : Hm, varV 4 ([some (.ref 1), some (.int o), some (.int most), some (.int v), some (.int (0 + (i : Nat)))] : Env) h = .ok (.int (0 + (i : Nat))) h := fun _ => rfl
        have v0 : ∀ h : Hm, varV 0 ([some (.ref 1), some (.int o), some (.int most), some (.int v), some (.int (0 + (i : Nat)))] : Env) h = .ok (.ref 1) h := fun _ => rfl
        have st : setAll [4] [.int (0 + (i : Nat))] ([some (.ref 1), some (.int o), some (.int most), some (.int v), none] : Env) = some [some (.ref 1), some (.int o), some (.int most), some (.int v), some (.int (0 + (i : Nat)))] := rfl
        simp only [compTurn, setT, Bool.false_eq_true, if_false, st, v4, v0, then_okk, e, b_add, bm, bo]
      · split <;> omega
      · split <;> omega)
    refine fin (l := l) (h2 := h2) ?_ (N1.trans N2) l2 b2
    have s1 : evS (ctx D n) (.ite (.cmp .eq (.var 3) (.int 0)) [.ret (.bl1 .tuple (.lc [4] false [4] (.call I.l_draw [(.var 0), (.bin .add (.var 2) (.int 1))]) .rng1 (.bin .add (.var 1) (.int 1)) .non (.bl true)))] []) [some (.ref 1), some (.int o), some (.int most), some (.int v), none] h1 = .nx [some (.ref 1), some (.int o), some (.int most), some (.int v), none] h1 := by
      simp [evSs, evS, evE, evT, den, denL, hv']
    show evSs _ [_, _, _] [some (.ref 1), some (.int o), some (.int most), none, none] h = _
    rw [evSs_nx s0, evSs_nx s1]
    refine evSs_rt ?_
    simp [evSs, evS, evE, evT, den, denL, hc, src_rng (show c ≤ 1000 by omega), e2, blop]
/-- a kind's parts -/
structure Kin where
  name : List Nat
  timber : List Int
  windfall : List Int
  ripe : Int
  weak : Int
  firm : Bool
def Kin.w (x : Kin) : W := .tup [.str x.name, .tup (x.timber.map .int), .tup (x.windfall.map .int), .int x.ripe, .int x.weak, .bl x.firm]
structure Kin.Ok (o : Int) (x : Kin) : Prop where
  timber : (x.timber.length : Int) = o + 1 ∧ InB 0 99 x.timber
  windfall : (x.windfall.length : Int) = o + 1 ∧ InB 0 99 x.windfall
  ripe : 1 ≤ x.ripe ∧ x.ripe ≤ o
  weak : 1 ≤ x.weak ∧ x.weak ≤ o
theorem kind (P : HasP D I) (S : HasS D I) (hk : 3 ≤ k) (p : PotI h) {o most : Int} {name : List Nat} (o0 : 1 ≤ o) (o6 : o ≤ 100) (m0 : 0 ≤ most) (m99 : most ≤ 99) :
    ∃ x h', run D k I.l_kind [.ref 1, .str name, .int o, .int most] h = .ok x.w h' ∧ Dr h h' ∧ x.name = name ∧ Kin.Ok o x := by
  obtain ⟨n, rfl, hr⟩ := run_at (ws := [.ref 1, .str name, .int o, .int most]) (h := h) (show 1 ≤ k by omega) S.kind rfl
  obtain ⟨v1, h1, e1, N1, a1, b1⟩ := draw (k := n) P (by omega) p (m := o) (by omega) (by omega)
  have N := N1
  obtain ⟨v2, h2, e2, N2, a2, b2⟩ := draw (k := n) P (by omega) (N.pot p) (m := o) (by omega) (by omega)
  have N := N.trans N2
  obtain ⟨t1, h3, e3, N3, l3, q3⟩ := table (k := n) P S (by omega) (N.pot p) (o := o) (most := most) (by omega) o6 m0 m99
  have N := N.trans N3
  obtain ⟨t2, h4, e4, N4, l4, q4⟩ := table (k := n) P S (by omega) (N.pot p) (o := o) (most := most) (by omega) o6 m0 m99
  have N := N.trans N4
  obtain ⟨v5, h5, e5, N5, a5, b5⟩ := draw (k := n) P (by omega) (N.pot p) (m := 2) (by omega) (by omega)
  have N := N.trans N5
  have b1 := b1 o0
  have b2 := b2 o0
  let x : Kin := ⟨name, t1, t2, 1 + v1, 1 + v2, v5 == 0⟩
  refine ⟨x, h5, ?_, N, rfl, ⟨l3, q3⟩, ⟨l4, q4⟩, ⟨by show 1 ≤ 1 + v1; omega, by show 1 + v1 ≤ o; omega⟩, ⟨by show 1 ≤ 1 + v2; omega, by show 1 + v2 ≤ o; omega⟩⟩
  rw [hr]
  have ev : evSs (ctx D n) (B.l_kind I).body (start (B.l_kind I) [.ref 1, .str name, .int o, .int most]) h = .rt x.w h5 := by
    have tl := tup_lit (ws := [.str name, .tup (t1.map .int), .tup (t2.map .int), .int (1 + v1), .int (1 + v2), .bl (v5 == 0)]) (h := h5) (by simp)
    simp [B.l_kind, evSs, evS, evE, evEs, den, denL, start, e1, e2, e3, e4, e5, setAll, nxE, tl, x, Kin.w]
  rw [ev, back_rt, gc_same _ N.len]
/-! ### pairs -/
def PrOk (m : Int) (l : List (Int × Int)) : Prop := (∀ q ∈ l, 0 ≤ q.1 ∧ q.1 < q.2 ∧ q.2 < m) ∧ l.Nodup
def row2 (j : Nat) : List (Int × Int) := (List.range j).map fun (i : Nat) => ((i : Int), (j : Int))
theorem row2_ok (j : Nat) : ∀ q ∈ row2 j, 0 ≤ q.1 ∧ q.1 < q.2 ∧ q.2 = j := fun q hq => by
  obtain ⟨i, hi, rfl⟩ := List.mem_map.mp hq
  have : i < j := by simpa using hi
  exact ⟨by show (0 : Int) ≤ i; omega, by show (i : Int) < j; omega, rfl⟩
theorem row2_nd (j : Nat) : (row2 j).Nodup := by
  unfold row2
  rw [List.nodup_iff_pairwise_ne, List.pairwise_map]
  have : (List.range j).Nodup := List.nodup_range
  rw [List.nodup_iff_pairwise_ne] at this
  exact this.imp fun hne e => hne (by have := congrArg Prod.fst e; simp only at this; omega)
/-- all pairs below so many, in rows -/
def prs : Nat → List (Int × Int)
  | 0 => []
  | j + 1 => prs j ++ row2 j
theorem prs_ok : ∀ j : Nat, PrOk (j : Int) (prs j) ∧ (prs j).length ≤ j * j
  | 0 => ⟨⟨(fun _ z => nomatch z), List.nodup_nil⟩, Nat.zero_le _⟩
  | j + 1 => by
    obtain ⟨ok, le⟩ := prs_ok j
    have lr : (row2 j).length = j := by unfold row2; simp
    refine ⟨⟨fun q hq => ?_, ?_⟩, ?_⟩
    · rcases List.mem_append.mp hq with hq | hq
      · have := ok.1 q hq
        omega
      · have := row2_ok j q hq
        omega
    · rw [prs, List.nodup_append]
      refine ⟨ok.2, row2_nd j, fun a ha b hb => ?_⟩
      rintro rfl
      have h1 := ok.1 a ha
      have h2 := row2_ok j a hb
      omega
    · rw [prs, List.length_append, lr, Nat.add_mul, Nat.mul_add]
      omega
theorem pairs (S : HasS D I) (hk : 1 ≤ k) {m : Nat} (hm : m ≤ 10) : run D k I.l_pairs [.int m] h = .ok (.kl ((prs m).map prW)) h := by
  obtain ⟨n, rfl, hr⟩ := run_at (ws := [.int m]) (h := h) hk S.pairs rfl
  let J : List W → Env → Hm → Prop := fun rest s h' => ∃ j x2 x3, s = [some (.int m), some (.kl ((prs j).map prW)), x2, x3] ∧ h' = h ∧ j + rest.length = m ∧ rest = ((List.range' j rest.length).map fun (i : Nat) => W.int (0 + i))
  have q0 : evS (ctx D n) (.asg (.var 1) (.lst [])) [some (.int m), none, none, none] h = .nx [some (.int m), some (.kl []), none, none] h := by
    simp [evS, evE, den, denL, short_nil, M2.asg]
  obtain ⟨s1, h1, e1, j, x2, x3, rfl, eh, lj, _⟩ := for_go (gs := []) (f := forTurn false [2] (evSs (ctx D n) [.asg (.var 1) (.bin .add (.var 1) (.lc [3] false [3] (.tup [(.var 3), (.var 2)]) .rng1 (.var 2) .non (.bl true)))])) J (fun _ _ _ _ => rfl)
    (fun x rest s h1 jj => by
      obtain ⟨j, x2, x3, rfl, rfl, lj, er⟩ := jj
      simp only [List.length_cons] at lj er
      rw [List.range'_succ, List.map_cons] at er
      injection er with ex er
      have ex : x = .int j := by rw [ex]; congr 1; omega
      subst ex
      have cr : compRun (compTurn false [3] (fun _ h => R.ok true h) (fun s h => (((varV 3 s h).then fun x h1 => ((varV 2 s h1).then fun x h1 => R.ok [x] h1).then fun ws h2 => R.ok (x :: ws) h2).then tupV)) [some (.int m), some (.kl ((prs j).map prW)), some (.int j), x3]) ⟨upto 0 j, [], h1, none⟩ h1 = .ok _ h1 :=
        comp_run (g := fun w => match w with | .int i => some (.tup [.int i, .int j]) | _ => none) (fun w hw => by
          obtain ⟨i, _, rfl⟩ := List.mem_map.mp hw
          have tl := tup_lit (ws := [.int (0 + (i : Nat)), .int j]) (h := h1) (by simp)
          have v3 : varV 3 ([some (.int m), some (.kl ((prs j).map prW)), some (.int j), some (.int (0 + (i : Nat)))] : Env) h1 = .ok (.int (0 + (i : Nat))) h1 := rfl
          have v2 : varV 2 ([some (.int m), some (.kl ((prs j).map prW)), some (.int j), some (.int (0 + (i : Nat)))] : Env) h1 = .ok (.int j) h1 := rfl
          have st : setAll [3] [.int (0 + (i : Nat))] ([some (.int m), some (.kl ((prs j).map prW)), some (.int j), x3] : Env) = some [some (.int m), some (.kl ((prs j).map prW)), some (.int j), some (.int (0 + (i : Nat)))] := rfl
          simp only [compTurn, setT, Bool.false_eq_true, if_false, st, v3, v2, then_okk, tl]) (by rw [upto_len]; exact le_line (by omega))
      have el : (upto 0 j).filterMap (fun w => match w with | .int i => some (W.tup [.int i, .int j]) | _ => none) = (row2 j).map prW := by
        unfold upto row2
        rw [List.filterMap_map, List.map_map]
        rw [show ((fun w => match w with | .int i => some (W.tup [.int i, .int (j : Int)]) | _ => none) ∘ fun (i : Nat) => W.int (0 + (i : Int))) = fun (i : Nat) => some (prW ((i : Int), (j : Int))) by
          funext i
          simp only [Function.comp, prW]
          have : (0 : Int) + (i : Nat) = i := by omega
          rw [this]]
        rw [List.filterMap_eq_map']
        rfl
      rw [el] at cr
      have lr : (row2 j).length = j := by unfold row2; simp
      have le := (prs_ok j).2
      have jj : j * j ≤ 10 * 10 := Nat.mul_le_mul (by omega) (by omega)
      have ad : binop .add (.kl ((prs j).map prW)) (.kl ((row2 j).map prW)) h1 = .ok (.kl ((prs (j + 1)).map prW)) h1 := by
        rw [add_kl (u := (prs j).map prW) (v := (row2 j).map prW) rfl rfl (by rw [List.length_map, List.length_map, lr]; omega), prs, List.map_append]
      refine ⟨[some (.int m), some (.kl ((prs (j + 1)).map prW)), some (.int j), x3], h1, ?_, j + 1, some (.int j), x3, rfl, rfl, by omega, er⟩
      unfold forTurn
      simp only [setT, setAll, Bool.false_eq_true, if_false]
      have st : ([some (.int m), some (.kl ((prs j).map prW)), x2, x3] : Env).set 2 (some (.int j)) = [some (.int m), some (.kl ((prs j).map prW)), some (.int j), x3] := rfl
      rw [st]
      simp [evSs, evS, evE, den, denL, src_rng (show j ≤ 1000 by omega), cr, ad, M2.asg])
    (upto 0 m) [some (.int m), some (.kl []), none, none] h ⟨0, none, none, rfl, rfl, by simp [upto_len], by rw [upto_len, ← List.range_eq_range']; rfl⟩
  have q1 : evS (ctx D n) (.for false [2] .rng1 (.var 0) .non [.asg (.var 1) (.bin .add (.var 1) (.lc [3] false [3] (.tup [(.var 3), (.var 2)]) .rng1 (.var 2) .non (.bl true)))]) [some (.int m), some (.kl []), none, none] h = .nx [some (.int m), some (.kl ((prs j).map prW)), x2, x3] h := by
    rw [evS]
    simp only [evE, den, mkV_v, var_some (show ([some (.int m), some (.kl []), none, none] : Env)[0]? = some (some (.int m)) from rfl), ofR_ok, src_rng (show m ≤ 1000 by omega), forRun, e1, eh]
    rfl
  have lj : j = m := by simpa using lj
  subst lj
  rw [hr]
  show back _ h (evSs _ [_, _, _] [some (.int _), none, none, none] h) = _
  rw [evSs_nx q0, evSs_nx q1]
  simp [evSs, evS, evE, den]
end
end M2

namespace M2
/-- a stand's parts -/
structure Sta where
  name : List Nat
  kind : List Nat
  age : Int
def Sta.w (x : Sta) : W := .tup [.str x.name, .str x.kind, .int x.age]
/-- a forest's parts -/
structure Fo where
  kinds : List Kin
  stands : List Sta
  near : List (Int × Int)
  gap : Int
  we : Int × Int × Int
  ya : Int × Int
  due : Int
def Fo.weW (f : Fo) : W := .tup [.int f.we.1, .int f.we.2.1, .int f.we.2.2]
def Fo.yaW (f : Fo) : W := .tup [.int f.ya.1, .int f.ya.2]
/-- what a forest is asked -/
structure Fo.Ok (o : Int) (f : Fo) : Prop where
  o1 : 1 ≤ o
  o6 : o ≤ 6
  k1 : 1 ≤ f.kinds.length
  k3 : f.kinds.length ≤ 3
  kok : ∀ x ∈ f.kinds, Kin.Ok o x
  kname : ∀ x ∈ f.kinds, isName (.str x.name) = true
  knd : (f.kinds.map Kin.name).Nodup
  s1 : 1 ≤ f.stands.length
  s4 : f.stands.length ≤ 4
  sname : ∀ x ∈ f.stands, isName (.str x.name) = true
  skind : ∀ x ∈ f.stands, x.kind ∈ f.kinds.map Kin.name
  sage : ∀ x ∈ f.stands, 0 ≤ x.age ∧ x.age ≤ o
  snd : (f.stands.map Sta.name).Nodup
  near : PrOk f.stands.length f.near
  gap : 0 ≤ f.gap ∧ f.gap ≤ o
  we1 : 0 ≤ f.we.1 ∧ f.we.1 ≤ 4
  we2 : 0 ≤ f.we.2.1 ∧ f.we.2.1 ≤ 4
  we3 : 0 ≤ f.we.2.2 ∧ f.we.2.2 ≤ 4
  ya1 : 0 ≤ f.ya.1 ∧ f.ya.1 ≤ 999
  ya2 : 0 ≤ f.ya.2 ∧ f.ya.2 ≤ f.ya.1
  due : 0 ≤ f.due ∧ f.due ≤ 999
/-- the parts, as a law draws them -/
def Fo.specW (f : Fo) : W := .kl [.kl (f.kinds.map Kin.w), .kl (f.stands.map Sta.w), .kl (f.near.map prW), .int f.gap, f.weW, f.yaW, .int f.due]
theorem Kin.pu (x : Kin) : x.w.pu = true := by
  show puAll _ = true
  simp [puAll, W.pu, pu_ints]
theorem Sta.pu (x : Sta) : x.w.pu = true := by
  show puAll _ = true
  simp [puAll, W.pu]
theorem pr_pu (x : Int × Int) : (prW x).pu = true := by
  show puAll _ = true
  simp [puAll, W.pu]
theorem pu_map {A : Type} {f : A → W} (hf : ∀ x, (f x).pu = true) : ∀ l : List A, puAll (l.map f) = true
  | [] => rfl
  | x :: l => by rw [List.map_cons, puAll, hf x, pu_map hf l]; rfl
theorem Fo.spec_pu (f : Fo) : f.specW.pu = true := by
  show puAll _ = true
  simp [puAll, W.pu, pu_map Kin.pu, pu_map Sta.pu, pu_map pr_pu, Fo.weW, Fo.yaW]
/-- a comprehension that makes one thing of each -/
theorem comp_each {B C : Type} {f : W → Hm → R (Option W)} {wb : B → W} {wc : C → W} {pr : C → B} {Q : C → Prop} : ∀ (xs : List B) (acc : List W) (h : Hm),
    (∀ x ∈ xs, ∀ h, PotI h → ∃ c h', f (wb x) h = .ok (some (wc c)) h' ∧ Dr h h' ∧ pr c = x ∧ Q c) → PotI h → ∃ (cs : List C) (h' : Hm), compGo f [] (xs.map wb) acc h = .ok (acc ++ cs.map wc) h' ∧ Dr h h' ∧ cs.map pr = xs ∧ ∀ c ∈ cs, Q c
  | [], acc, h, _, n => ⟨[], h, by rw [List.map_nil, compGo]; simp [okG], Dr.refl h, rfl, fun _ z => nomatch z⟩
  | x :: xs, acc, h, hf, n => by
    obtain ⟨c, h1, e1, n1, p1, q1⟩ := hf x (by simp) h n
    obtain ⟨cs, h2, e2, n2, p2, q2⟩ := comp_each xs (acc ++ [wc c]) h1 (fun y hy => hf y (by simp [hy])) (n1.pot n)
    refine ⟨c :: cs, h2, ?_, n1.trans n2, by rw [List.map_cons, p1, p2], fun y hy => ?_⟩
    · have ok : okG [] h = true := rfl
      rw [List.map_cons, compGo, ok, if_pos rfl, e1]
      simp only
      rw [e2]
      simp
    · rcases List.mem_cons.mp hy with rfl | hy
      · exact q1
      · exact q2 y hy
/-- a comprehension that takes some -/
theorem comp_some {B : Type} {f : W → Hm → R (Option W)} {wb : B → W} : ∀ (xs : List B) (acc : List W) (h : Hm),
    (∀ x ∈ xs, ∀ h, PotI h → ∃ b h', f (wb x) h = .ok (if b = true then some (wb x) else none) h' ∧ Dr h h') → PotI h → ∃ (ys : List B) (h' : Hm), compGo f [] (xs.map wb) acc h = .ok (acc ++ ys.map wb) h' ∧ Dr h h' ∧ ys.Sublist xs
  | [], acc, h, _, n => ⟨[], h, by rw [List.map_nil, compGo]; simp [okG], Dr.refl h, List.Sublist.refl _⟩
  | x :: xs, acc, h, hf, n => by
    obtain ⟨b, h1, e1, n1⟩ := hf x (by simp) h n
    have ok : okG [] h = true := rfl
    cases b with
    | true =>
      obtain ⟨ys, h2, e2, n2, s2⟩ := comp_some xs (acc ++ [wb x]) h1 (fun y hy => hf y (by simp [hy])) (n1.pot n)
      refine ⟨x :: ys, h2, ?_, n1.trans n2, s2.cons_cons x⟩
      rw [List.map_cons, compGo, ok, if_pos rfl, e1]
      simp only [if_true]
      rw [e2]
      simp
    | false =>
      obtain ⟨ys, h2, e2, n2, s2⟩ := comp_some xs acc h1 (fun y hy => hf y (by simp [hy])) (n1.pot n)
      refine ⟨ys, h2, ?_, n1.trans n2, s2.cons x⟩
      rw [List.map_cons, compGo, ok, if_pos rfl, e1]
      simp only [Bool.false_eq_true, if_false]
      exact e2
theorem PrOk.sub {m : Int} {l l' : List (Int × Int)} (h : PrOk m l) (s : l'.Sublist l) : PrOk m l' := ⟨fun q hq => h.1 q (s.subset hq), h.2.sublist s⟩
/-- the bounds that a law gives -/
structure Most (m : Nat → Int) : Prop where
  m0 : 1 ≤ m 0 ∧ m 0 ≤ 4
  m1 : 1 ≤ m 1 ∧ m 1 ≤ 6
  m2 : 0 ≤ m 2 ∧ m 2 ≤ 99
  m3 : 0 ≤ m 3 ∧ m 3 ≤ 4
  m4 : 0 ≤ m 4 ∧ m 4 ≤ 4
  m5 : 0 ≤ m 5 ∧ m 5 ≤ 4
  m6 : 0 ≤ m 6 ∧ m 6 ≤ 999
  m7 : 0 ≤ m 7 ∧ m 7 ≤ 999
def mostW (m : Nat → Int) : List W := [.int (m 0), .int (m 1), .int (m 2), .int (m 3), .int (m 4), .int (m 5), .int (m 6), .int (m 7)]
section
variable {D : Prog} {I : Ix} {k : Nat} {h : Hm}
theorem spec (P : HasP D I) (N : HasN D I) (S : HasS D I) (hk : 5 ≤ k) (p : PotI h) {m : Nat → Int} (M : Most m) :
    ∃ f o h', run D k I.l_spec [.ref 1, .kl (mostW m)] h = .ok f.specW h' ∧ Dr h h' ∧ Fo.Ok o f ∧ o ≤ m 1 ∧ (f.stands.length : Int) ≤ m 0 := by
  obtain ⟨n, rfl, hr⟩ := run_at (ws := [.ref 1, .kl (mostW m)]) (h := h) (show 1 ≤ k by omega) S.spec rfl
  have gm : ∀ (h' : Hm) (i : Nat), i < 8 → getItem (.kl (mostW m)) (.int i) h' = .ok (.int (m i)) h' := fun h' i hi => by
    match i, hi with
    | 0, _ => rfl
    | 1, _ => rfl
    | 2, _ => rfl
    | 3, _ => rfl
    | 4, _ => rfl
    | 5, _ => rfl
    | 6, _ => rfl
    | 7, _ => rfl
  -- the oldest age
  obtain ⟨v, h1, e1, N1, v0, v1⟩ := draw (k := n) P (by omega) p (m := m 1) (by have := M.m1; omega) (by have := M.m1; omega)
  have v1 := v1 M.m1.1
  generalize ho : 1 + v = o
  have oo : 1 ≤ o ∧ o ≤ m 1 := by omega
  have o6 := M.m1.2
  have q0 : evS (ctx D n) (.asg (.var 2) (.bin .add (.int 1) (.call I.l_draw [(.var 0), (.sub (.var 1) (.int 1))]))) [some (.ref 1), some (.kl (mostW m)), none, none, none, none, none, none, none, none, none, none, none] h =
      .nx [some (.ref 1), some (.kl (mostW m)), some (.int o), none, none, none, none, none, none, none, none, none, none] h1 := by
    have g : getItem (.kl (mostW m)) (.int 1) h = .ok (.int (m 1)) h := gm h 1 (by decide)
    simp [evS, evE, den, denL, g, e1, M2.asg, ho]
  -- names
  obtain ⟨v2, h2, e2, N2, v20, v21⟩ := draw (k := n) P (by omega) (N1.pot p) (m := 3) (by omega) (by omega)
  have v21 := v21 (by omega)
  obtain ⟨c2, hc2⟩ := Int.eq_ofNat_of_zero_le (show 0 ≤ 1 + v2 by omega)
  have N02 := N1.trans N2
  obtain ⟨ns, h3, e3, N3, ln3, ok3⟩ := names (k := n) P N (by omega) (N02.pot p) (tk := []) (m := c2) List.nodup_nil (by simp; omega)
  have N03 := N02.trans N3
  have q1 : evS (ctx D n) (.asg (.var 3) (.call I.l_names [(.var 0), (.bin .add (.int 1) (.call I.l_draw [(.var 0), (.int 3)])), (.lst [])])) [some (.ref 1), some (.kl (mostW m)), some (.int o), none, none, none, none, none, none, none, none, none, none] h1 =
      .nx [some (.ref 1), some (.kl (mostW m)), some (.int o), some (.kl (ns.map .str)), none, none, none, none, none, none, none, none, none] h3 := by
    have e3 : run D n I.l_names [.ref 1, .int c2, .kl []] h2 = .ok (.kl (ns.map .str)) h3 := e3
    simp [evS, evE, den, denL, e2, hc2, short_nil, e3, M2.asg]
  -- kinds
  obtain ⟨ks, h4, e4, N4, kn, kok⟩ := comp_each (C := Kin) (pr := Kin.name) (wb := W.str) (wc := Kin.w) (Q := Kin.Ok o)
    (f := compTurn false [11] (fun _ h => R.ok true h) (fun s h => (((varV 0 s h).then fun x h1 => ((varV 11 s h1).then fun x h1 => ((varV 2 s h1).then fun x h1 => ((((varV 1 s h1).then fun x h1 => getItem x (.int 2) h1)).then fun x h1 => R.ok [x] h1).then fun ws h2 => R.ok (x :: ws) h2).then fun ws h2 => R.ok (x :: ws) h2).then fun ws h2 => R.ok (x :: ws) h2).then (run D n I.l_kind)))
      [some (.ref 1), some (.kl (mostW m)), some (.int o), some (.kl (ns.map .str)), none, none, none, none, none, none, none, none, none]) ns [] h3 (fun nm _ h' p' => by
      obtain ⟨c, h'', e, x', e2, q⟩ := kind (k := n) P S (by omega) p' (o := o) (most := m 2) (name := nm) oo.1 (by omega) M.m2.1 M.m2.2
      refine ⟨c, h'', ?_, x', e2, q⟩
      have g : getItem (.kl (mostW m)) (.int 2) h' = .ok (.int (m 2)) h' := gm h' 2 (by decide)
      simp [compTurn, setT, setAll, g, e]) (N03.pot p)
  have N04 := N03.trans N4
  have lks : ks.length = c2 := by have := congrArg List.length kn; rw [List.length_map] at this; omega
  have q2 : evS (ctx D n) (.asg (.var 4) (.lc [11] false [11] (.call I.l_kind [(.var 0), (.var 11), (.var 2), (.sub (.var 1) (.int 2))]) .seq (.var 3) .non (.bl true))) [some (.ref 1), some (.kl (mostW m)), some (.int o), some (.kl (ns.map .str)), none, none, none, none, none, none, none, none, none] h3 =
      .nx [some (.ref 1), some (.kl (mostW m)), some (.int o), some (.kl (ns.map .str)), some (.kl (ks.map Kin.w)), none, none, none, none, none, none, none, none] h4 := by
    have cr := compRun_of (h0 := h3) e4 (by rw [List.nil_append, List.length_map]; omega)
    have sv : srcV .seq (.kl (ns.map .str)) .non h3 = .ok ⟨ns.map .str, [], h3, none⟩ h3 := rfl
    simp [evS, evE, den, denL, sv, cr, M2.asg]
  -- stands' names
  obtain ⟨v6, h6, e6, N6, v60, v61⟩ := draw (k := n) P (by omega) (N04.pot p) (m := m 0) (by have := M.m0; omega) (by have := M.m0; omega)
  have v61 := v61 M.m0.1
  obtain ⟨c6, hc6⟩ := Int.eq_ofNat_of_zero_le (show 0 ≤ 1 + v6 by omega)
  have m04 := M.m0.2
  have N06 := N04.trans N6
  obtain ⟨os, h7, e7, N7, ln7, ok7⟩ := names (k := n) P N (by omega) (N06.pot p) (tk := []) (m := c6) List.nodup_nil (by simp; omega)
  have N07 := N06.trans N7
  have q3 : evS (ctx D n) (.asg (.var 5) (.call I.l_names [(.var 0), (.bin .add (.int 1) (.call I.l_draw [(.var 0), (.sub (.var 1) (.int 0))])), (.lst [])])) [some (.ref 1), some (.kl (mostW m)), some (.int o), some (.kl (ns.map .str)), some (.kl (ks.map Kin.w)), none, none, none, none, none, none, none, none] h4 =
      .nx [some (.ref 1), some (.kl (mostW m)), some (.int o), some (.kl (ns.map .str)), some (.kl (ks.map Kin.w)), some (.kl (os.map .str)), none, none, none, none, none, none, none] h7 := by
    have g : getItem (.kl (mostW m)) (.int 0) h4 = .ok (.int (m 0)) h4 := gm h4 0 (by decide)
    have e7 : run D n I.l_names [.ref 1, .int c6, .kl []] h6 = .ok (.kl (os.map .str)) h7 := e7
    simp [evS, evE, den, denL, g, e6, hc6, short_nil, e7, M2.asg]
  -- stands
  obtain ⟨ss, h8, e8, N8, sn, sok⟩ := comp_each (C := Sta) (pr := Sta.name) (wb := W.str) (wc := Sta.w) (Q := fun x => x.kind ∈ ns ∧ 0 ≤ x.age ∧ x.age ≤ o)
    (f := compTurn false [11] (fun _ h => R.ok true h) (fun s h => (((varV 11 s h).then fun x h1 => (((((varV 0 s h1).then fun x h1 => ((varV 3 s h1).then fun x h1 => R.ok [x] h1).then fun ws h2 => R.ok (x :: ws) h2)).then (run D n I.l_pick)).then fun x h1 => ((((((varV 0 s h1).then fun x h1 => ((((varV 2 s h1).then fun x h1 => binop .add x (.int 1) h1)).then fun x h1 => R.ok [x] h1).then fun ws h2 => R.ok (x :: ws) h2)).then (run D n I.l_draw))).then fun x h1 => R.ok [x] h1).then fun ws h2 => R.ok (x :: ws) h2).then fun ws h2 => R.ok (x :: ws) h2).then tupV))
      [some (.ref 1), some (.kl (mostW m)), some (.int o), some (.kl (ns.map .str)), some (.kl (ks.map Kin.w)), some (.kl (os.map .str)), none, none, none, none, none, none, none]) os [] h7 (fun nm _ h' p' => by
      obtain ⟨w, h9, e9, N9, hw⟩ := pick (k := n) P (by omega) p' (w := .kl (ns.map .str)) (.inl rfl) (by rw [List.length_map]; omega) (by rw [List.length_map]; omega)
      obtain ⟨kd, hkd, rfl⟩ := List.mem_map.mp hw
      obtain ⟨a, h10, e10, N10, a0, a1⟩ := draw (k := n) P (by omega) (N9.pot p') (m := o + 1) (by omega) (by omega)
      have a1 := a1 (by omega)
      refine ⟨⟨nm, kd, a⟩, h10, ?_, N9.trans N10, rfl, hkd, a0, by show a ≤ o; omega⟩
      have tl := tup_lit (ws := [.str nm, .str kd, .int a]) (h := h10) (by simp)
      simp [compTurn, setT, setAll, e9, e10, tl, Sta.w]) (N07.pot p)
  have N08 := N07.trans N8
  have lss : ss.length = c6 := by have := congrArg List.length sn; rw [List.length_map] at this; omega
  have q4 : evS (ctx D n) (.asg (.var 6) (.lc [11] false [11] (.tup [(.var 11), (.call I.l_pick [(.var 0), (.var 3)]), (.call I.l_draw [(.var 0), (.bin .add (.var 2) (.int 1))])]) .seq (.var 5) .non (.bl true))) [some (.ref 1), some (.kl (mostW m)), some (.int o), some (.kl (ns.map .str)), some (.kl (ks.map Kin.w)), some (.kl (os.map .str)), none, none, none, none, none, none, none] h7 =
      .nx [some (.ref 1), some (.kl (mostW m)), some (.int o), some (.kl (ns.map .str)), some (.kl (ks.map Kin.w)), some (.kl (os.map .str)), some (.kl (ss.map Sta.w)), none, none, none, none, none, none] h8 := by
    have cr := compRun_of (h0 := h7) e8 (by rw [List.nil_append, List.length_map]; omega)
    have sv : srcV .seq (.kl (os.map .str)) .non h7 = .ok ⟨os.map .str, [], h7, none⟩ h7 := rfl
    simp [evS, evE, den, denL, sv, cr, M2.asg]
  -- near
  have e10 := pairs (k := n) (h := h8) S (by omega) (m := c6) (by omega)
  have pok := prs_ok c6
  obtain ⟨nr, h11, e11, N11, sub⟩ := comp_some (wb := prW)
    (f := compTurn false [12] (fun s h => ((((((varV 0 s h).then fun x h1 => R.ok [x, .int 2] h1)).then (run D n I.l_draw))).then fun x h1 => cmpC (ctx D n) .eq x (.int 0) h1).then truthOf) (varV 12)
      [some (.ref 1), some (.kl (mostW m)), some (.int o), some (.kl (ns.map .str)), some (.kl (ks.map Kin.w)), some (.kl (os.map .str)), some (.kl (ss.map Sta.w)), none, none, none, none, none, none]) (prs c6) [] h8 (fun q _ h' p' => by
      obtain ⟨b, h12, e12, N12, _, _⟩ := draw (k := n) P (by omega) p' (m := 2) (by omega) (by omega)
      refine ⟨b == 0, h12, ?_, N12⟩
      cases hb : b == 0 with
      | true => simp [compTurn, setT, setAll, e12, hb, prW]
      | false => simp [compTurn, setT, setAll, e12, hb]) (N08.pot p)
  have cc : c6 * c6 ≤ 4 * 4 := Nat.mul_le_mul (by omega) (by omega)
  have q5 : evS (ctx D n) (.asg (.var 7) (.lc [12] false [12] (.var 12) .seq (.call I.l_pairs [(.b1 .len [(.var 5)])]) .non (.cmp .eq (.call I.l_draw [(.var 0), (.int 2)]) (.int 0)))) [some (.ref 1), some (.kl (mostW m)), some (.int o), some (.kl (ns.map .str)), some (.kl (ks.map Kin.w)), some (.kl (os.map .str)), some (.kl (ss.map Sta.w)), none, none, none, none, none, none] h8 =
      .nx [some (.ref 1), some (.kl (mostW m)), some (.int o), some (.kl (ns.map .str)), some (.kl (ks.map Kin.w)), some (.kl (os.map .str)), some (.kl (ss.map Sta.w)), some (.kl (nr.map prW)), none, none, none, none, none] h11 := by
    have cr := compRun_of (h0 := h8) e11 (by rw [List.nil_append, List.length_map]; have := sub.length_le; omega)
    have sv : srcV .seq (.kl ((prs c6).map prW)) .non h8 = .ok ⟨(prs c6).map prW, [], h8, none⟩ h8 := rfl
    have ln : b1op .len [.kl (os.map .str)] h8 = .ok (.int c6) h8 := by
      show R.ok (W.int ((os.map W.str).length : Nat)) h8 = _
      rw [List.length_map, ln7]
    simp [evS, evE, den, denL, ln, e10, sv, cr, M2.asg]
  have N12 := N08.trans N11
  -- weather
  obtain ⟨w1, h13, e13, N13, w10, w11⟩ := draw (k := n) P (by omega) (N12.pot p) (m := m 3 + 1) (by have := M.m3; omega) (by have := M.m3; omega)
  have N13 := N12.trans N13
  obtain ⟨w2, h14, e14, N14, w20, w21⟩ := draw (k := n) P (by omega) (N13.pot p) (m := m 4 + 1) (by have := M.m4; omega) (by have := M.m4; omega)
  have N14 := N13.trans N14
  obtain ⟨w3, h15, e15, N15, w30, w31⟩ := draw (k := n) P (by omega) (N14.pot p) (m := m 5 + 1) (by have := M.m5; omega) (by have := M.m5; omega)
  have N15 := N14.trans N15
  have w11 := w11 (by have := M.m3; omega)
  have w21 := w21 (by have := M.m4; omega)
  have w31 := w31 (by have := M.m5; omega)
  have q6 : evS (ctx D n) (.asg (.var 8) (.tup [(.call I.l_draw [(.var 0), (.bin .add (.sub (.var 1) (.int 3)) (.int 1))]), (.call I.l_draw [(.var 0), (.bin .add (.sub (.var 1) (.int 4)) (.int 1))]), (.call I.l_draw [(.var 0), (.bin .add (.sub (.var 1) (.int 5)) (.int 1))])])) [some (.ref 1), some (.kl (mostW m)), some (.int o), some (.kl (ns.map .str)), some (.kl (ks.map Kin.w)), some (.kl (os.map .str)), some (.kl (ss.map Sta.w)), some (.kl (nr.map prW)), none, none, none, none, none] h11 =
      .nx [some (.ref 1), some (.kl (mostW m)), some (.int o), some (.kl (ns.map .str)), some (.kl (ks.map Kin.w)), some (.kl (os.map .str)), some (.kl (ss.map Sta.w)), some (.kl (nr.map prW)), some (.tup [.int w1, .int w2, .int w3]), none, none, none, none] h15 := by
    have g1 : getItem (.kl (mostW m)) (.int 3) h11 = .ok (.int (m 3)) h11 := gm _ 3 (by decide)
    have g2 : getItem (.kl (mostW m)) (.int 4) h13 = .ok (.int (m 4)) h13 := gm _ 4 (by decide)
    have g3 : getItem (.kl (mostW m)) (.int 5) h14 = .ok (.int (m 5)) h14 := gm _ 5 (by decide)
    have tl := tup_lit (ws := [.int w1, .int w2, .int w3]) (h := h15) (by simp)
    simp [evS, evE, den, denL, g1, e13, g2, e14, g3, e15, tl, M2.asg]
  -- yard
  obtain ⟨y1, h16, e16, N16, y10, y11⟩ := draw (k := n) P (by omega) (N15.pot p) (m := m 6 + 1) (by have := M.m6; omega) (by have := M.m6; omega)
  have N16 := N15.trans N16
  have y11 := y11 (by have := M.m6; omega)
  have q7 : evS (ctx D n) (.asg (.var 9) (.call I.l_draw [(.var 0), (.bin .add (.sub (.var 1) (.int 6)) (.int 1))])) [some (.ref 1), some (.kl (mostW m)), some (.int o), some (.kl (ns.map .str)), some (.kl (ks.map Kin.w)), some (.kl (os.map .str)), some (.kl (ss.map Sta.w)), some (.kl (nr.map prW)), some (.tup [.int w1, .int w2, .int w3]), none, none, none, none] h15 =
      .nx [some (.ref 1), some (.kl (mostW m)), some (.int o), some (.kl (ns.map .str)), some (.kl (ks.map Kin.w)), some (.kl (os.map .str)), some (.kl (ss.map Sta.w)), some (.kl (nr.map prW)), some (.tup [.int w1, .int w2, .int w3]), some (.int y1), none, none, none] h16 := by
    have g1 : getItem (.kl (mostW m)) (.int 6) h15 = .ok (.int (m 6)) h15 := gm _ 6 (by decide)
    simp [evS, evE, den, denL, g1, e16, M2.asg]
  have m6 := M.m6.2
  obtain ⟨y2, h17, e17, N17, y20, y21⟩ := draw (k := n) P (by omega) (N16.pot p) (m := y1 + 1) (by omega) (by omega)
  have N17 := N16.trans N17
  have y21 := y21 (by omega)
  have q8 : evS (ctx D n) (.asg (.var 10) (.tup [(.var 9), (.call I.l_draw [(.var 0), (.bin .add (.var 9) (.int 1))])])) [some (.ref 1), some (.kl (mostW m)), some (.int o), some (.kl (ns.map .str)), some (.kl (ks.map Kin.w)), some (.kl (os.map .str)), some (.kl (ss.map Sta.w)), some (.kl (nr.map prW)), some (.tup [.int w1, .int w2, .int w3]), some (.int y1), none, none, none] h16 =
      .nx [some (.ref 1), some (.kl (mostW m)), some (.int o), some (.kl (ns.map .str)), some (.kl (ks.map Kin.w)), some (.kl (os.map .str)), some (.kl (ss.map Sta.w)), some (.kl (nr.map prW)), some (.tup [.int w1, .int w2, .int w3]), some (.int y1), some (.tup [.int y1, .int y2]), none, none] h17 := by
    have tl := tup_lit (ws := [.int y1, .int y2]) (h := h17) (by simp)
    simp [evS, evE, den, denL, e17, tl, M2.asg]
  -- gap, due
  obtain ⟨ga, h18, e18, N18, ga0, ga1⟩ := draw (k := n) P (by omega) (N17.pot p) (m := o + 1) (by omega) (by omega)
  have N18 := N17.trans N18
  have ga1 := ga1 (by omega)
  obtain ⟨du, h19, e19, N19, du0, du1⟩ := draw (k := n) P (by omega) (N18.pot p) (m := m 7 + 1) (by have := M.m7; omega) (by have := M.m7; omega)
  have N19 := N18.trans N19
  have du1 := du1 (by have := M.m7; omega)
  let f : Fo := ⟨ks, ss, nr, ga, (w1, w2, w3), (y1, y2), du⟩
  have q9 : evS (ctx D n) (.ret (.lst [(.var 4), (.var 6), (.var 7), (.call I.l_draw [(.var 0), (.bin .add (.var 2) (.int 1))]), (.var 8), (.var 10), (.call I.l_draw [(.var 0), (.bin .add (.sub (.var 1) (.int 7)) (.int 1))])])) [some (.ref 1), some (.kl (mostW m)), some (.int o), some (.kl (ns.map .str)), some (.kl (ks.map Kin.w)), some (.kl (os.map .str)), some (.kl (ss.map Sta.w)), some (.kl (nr.map prW)), some (.tup [.int w1, .int w2, .int w3]), some (.int y1), some (.tup [.int y1, .int y2]), none, none] h17 =
      .rt f.specW h19 := by
    have g1 : getItem (.kl (mostW m)) (.int 7) h18 = .ok (.int (m 7)) h18 := gm _ 7 (by decide)
    have sl := short_lit (ws := [.kl (ks.map Kin.w), .kl (ss.map Sta.w), .kl (nr.map prW), .int ga, .tup [.int w1, .int w2, .int w3], .tup [.int y1, .int y2], .int du]) (h := h19) (by simp)
    simp [evS, evE, den, denL, e18, g1, e19, sl, Fo.specW, Fo.weW, Fo.yaW, f]
  refine ⟨f, o, h19, ?_, N19, ?_, oo.2, by show ((ss.length : Nat) : Int) ≤ m 0; omega⟩
  · rw [hr]
    show back _ h (evSs _ [_, _, _, _, _, _, _, _, _, _] [some (.ref 1), some (.kl (mostW m)), none, none, none, none, none, none, none, none, none, none, none] h) = _
    rw [evSs_nx q0, evSs_nx q1, evSs_nx q2, evSs_nx q3, evSs_nx q4, evSs_nx q5, evSs_nx q6, evSs_nx q7, evSs_nx q8, evSs_rt q9, back_rt]
    exact gc_same _ N19.len
  · have m3 := M.m3.2
    have m4 := M.m4.2
    have m5 := M.m5.2
    have m7 := M.m7.2
    have nn : ∀ x ∈ ns, isName (.str x) = true := ok3.name
    have no : ∀ x ∈ os, isName (.str x) = true := ok7.name
    refine ⟨oo.1, by omega, by show 1 ≤ ks.length; omega, by show ks.length ≤ 3; omega, kok, fun x hx => nn _ (by rw [← kn]; exact List.mem_map.mpr ⟨x, hx, rfl⟩), ?_, by show 1 ≤ ss.length; omega, by show ss.length ≤ 4; omega, fun x hx => no _ (by rw [← sn]; exact List.mem_map.mpr ⟨x, hx, rfl⟩),
      fun x hx => ?_, fun x hx => ⟨(sok x hx).2.1, (sok x hx).2.2⟩, ?_, ?_, ⟨ga0, by show ga ≤ o; omega⟩, ⟨w10, by show w1 ≤ 4; omega⟩, ⟨w20, by show w2 ≤ 4; omega⟩, ⟨w30, by show w3 ≤ 4; omega⟩, ⟨y10, by show y1 ≤ 999; omega⟩, ⟨y20, by show y2 ≤ y1; omega⟩, ⟨du0, by show du ≤ 999; omega⟩⟩
    · show (ks.map Kin.name).Nodup
      rw [kn]
      simpa using ok3.nd
    · show x.kind ∈ ks.map Kin.name
      rw [kn]
      exact (sok x hx).1
    · show (ss.map Sta.name).Nodup
      rw [sn]
      simpa using ok7.nd
    · show PrOk (ss.length : Int) nr
      rw [lss]
      exact pok.1.sub sub
end
end M2

namespace M2
structure HasJ (D : Prog) (I : Ix) : Prop where
  is_table : D.fns I.is_table = some (B.is_table I)
  is_kind : D.fns I.is_kind = some (B.is_kind I)
  oldest_in : D.fns I.oldest_in = some (B.oldest_in I)
  has_twice : D.fns I.has_twice = some (B.has_twice I)
  are_kinds : D.fns I.are_kinds = some (B.are_kinds I)
  are_stands : D.fns I.are_stands = some (B.are_stands I)
  are_near : D.fns I.are_near = some (B.are_near I)
  is_weather : D.fns I.is_weather = some (B.is_weather I)
  is_yard : D.fns I.is_yard = some (B.is_yard I)
  oldest : D.con I.g_OLDEST = some (.int 6)
  timber : D.con I.g_MOST_TIMBER = some (.int 99)
  kinds : D.con I.g_MOST_KINDS = some (.int 3)
  stands : D.con I.g_MOST_STANDS = some (.int 4)
  weather : D.con I.g_MOST_WEATHER = some (.int 4)
  lid : D.con I.g_MOST_LID = some (.int 999)
  due : D.con I.g_MOST_DUE = some (.int 999)
/-- told so deep -/
def KnD (h : Hm) : Nat → W → Prop
  | 0, w => Kn h w ∧ ∀ l, w = .str l → l.length ≤ 1000
  | n + 1, w => (Kn h w ∧ ∀ l, w = .str l → l.length ≤ 1000) ∧ ∀ l, w = .tup l → l.length ≤ 1000 ∧ ∀ x ∈ l, KnD h n x
theorem KnD.kn {h : Hm} {n : Nat} {w : W} (x : KnD h n w) : Kn h w := by
  cases n with
  | zero => exact x.1
  | succ n => exact x.1.1
theorem KnD.str {h : Hm} {n : Nat} {w : W} (x : KnD h n w) : ∀ l, w = .str l → l.length ≤ 1000 := by
  cases n with
  | zero => exact x.2
  | succ n => exact x.1.2
theorem KnD.tup {h : Hm} {n : Nat} {l : List W} (x : KnD h (n + 1) (.tup l)) : l.length ≤ 1000 ∧ ∀ y ∈ l, KnD h n y := x.2 l rfl
theorem kn_tup {h : Hm} {l : List W} : Kn h (.tup l) := ⟨.tuple, rfl, nofun⟩
theorem kn_str {h : Hm} {l : List Nat} : Kn h (.str l) := ⟨.str, rfl, nofun⟩
theorem kn_int {h : Hm} {i : Int} : Kn h (.int i) := ⟨.int, rfl, nofun⟩
theorem kn_bl {h : Hm} {i : Bool} : Kn h (.bl i) := ⟨.bool, rfl, nofun⟩
theorem kn_non {h : Hm} : Kn h .non := ⟨.non, rfl, nofun⟩
theorem kn_lst {h : Hm} {r : Nat} {l : List W} (e : h[r]? = some (.lst l)) : Kn h (.ref r) := ⟨.list, by unfold kd; simp only [e], nofun⟩
theorem knD_int {h : Hm} {i : Int} : ∀ n, KnD h n (.int i)
  | 0 => ⟨kn_int, nofun⟩
  | n + 1 => ⟨⟨kn_int, nofun⟩, nofun⟩
theorem knD_bl {h : Hm} {i : Bool} : ∀ n, KnD h n (.bl i)
  | 0 => ⟨kn_bl, nofun⟩
  | n + 1 => ⟨⟨kn_bl, nofun⟩, nofun⟩
theorem knD_non {h : Hm} : ∀ n, KnD h n .non
  | 0 => ⟨kn_non, nofun⟩
  | n + 1 => ⟨⟨kn_non, nofun⟩, nofun⟩
theorem knD_str {h : Hm} {l : List Nat} (hl : l.length ≤ 1000) : ∀ n, KnD h n (.str l)
  | 0 => ⟨kn_str, fun _ e => by cases e; exact hl⟩
  | n + 1 => ⟨⟨kn_str, fun _ e => by cases e; exact hl⟩, nofun⟩
theorem knD_tup {h : Hm} {n : Nat} {l : List W} (hl : l.length ≤ 1000) (hx : ∀ x ∈ l, KnD h n x) : KnD h (n + 1) (.tup l) := ⟨⟨kn_tup, nofun⟩, fun _ e => by cases e; exact ⟨hl, hx⟩⟩
/-- a value that is no tuple -/
theorem not_tup {C : Ctx} {h : Hm} {w : W} (kn : Kn h w) (n : ∀ l, w ≠ .tup l) : isiV C [.tuple] w h = .ok (.bl false) h := by
  obtain ⟨q, e, hc⟩ := kn
  rw [isi_1 e (kdC_of hc)]
  cases w with
  | tup l => exact absurd rfl (n l)
  | ref r =>
    unfold kd at e
    simp only at e
    split at e <;> cases e <;> rfl
  | _ => cases e; rfl
theorem not_str {C : Ctx} {h : Hm} {w : W} (kn : Kn h w) (n : ∀ l, w ≠ .str l) : isiV C [.str] w h = .ok (.bl false) h := by
  obtain ⟨q, e, hc⟩ := kn
  rw [isi_1 e (kdC_of hc)]
  cases w with
  | str l => exact absurd rfl (n l)
  | ref r =>
    unfold kd at e
    simp only at e
    split at e <;> cases e <;> rfl
  | _ => cases e; rfl
def isBl : W → Bool
  | .bl _ => true
  | _ => false
theorem isi_bool {C : Ctx} {h : Hm} {w : W} (kn : Kn h w) : isiV C [.bool] w h = .ok (.bl (isBl w)) h := by
  obtain ⟨q, e, hc⟩ := kn
  rw [isi_1 e (kdC_of hc)]
  cases w with
  | ref r =>
    unfold kd at e
    simp only at e
    split at e <;> cases e <;> rfl
  | _ => cases e; rfl
@[simp] theorem len_tup (l : List W) (h : Hm) : b1op .len [.tup l] h = .ok (.int l.length) h := rfl
theorem bls_map {A : Type} (f : A → Bool) : ∀ l : List A, blsOf (l.map fun x => W.bl (f x)) = some (l.map f)
  | [] => rfl
  | x :: l => by rw [List.map_cons, blsOf, bls_map f l]; rfl
theorem blop_all {A : Type} (f : A → Bool) (l : List A) (h : Hm) : blop .all (l.map fun x => W.bl (f x)) h = .ok (.bl (l.all f)) h := by
  show (match blsOf (l.map fun x => W.bl (f x)) with | some r => R.ok (W.bl (r.all id)) h | none => .bad) = _
  rw [bls_map]
  simp [List.all_map, Function.comp_def]
/-- a comprehension of truths -/
theorem comp_bl {f : W → Hm → R (Option W)} {gs : List (Nat × List W)} {g : W → Bool} {its : List W} {h h0 : Hm} (ok : okG gs h = true) (hf : ∀ x ∈ its, f x h = .ok (some (.bl (g x))) h) (hl : its.length ≤ 1000) : compRun f ⟨its, gs, h0, none⟩ h = .ok (its.map fun x => .bl (g x)) h := by
  obtain ⟨h', e, rfl⟩ := comp_goI (f := f) (gs := gs) (g := fun x => some (.bl (g x))) (fun h' => h' = h) (fun h' e => by rw [e]; exact ok) its [] h (fun x hx h' e => ⟨h, by rw [e]; exact hf x hx, rfl⟩) rfl
  rw [List.filterMap_eq_map', List.nil_append] at e
  exact compRun_of e (by rw [List.length_map]; exact hl)
/-- a comprehension of values that are read -/
theorem comp_val {f : W → Hm → R (Option W)} {gs : List (Nat × List W)} {g : W → W} {its : List W} {h h0 : Hm} (ok : okG gs h = true) (hf : ∀ x ∈ its, f x h = .ok (some (g x)) h) (hl : its.length ≤ 1000) : compRun f ⟨its, gs, h0, none⟩ h = .ok (its.map g) h := by
  obtain ⟨h', e, rfl⟩ := comp_goI (f := f) (gs := gs) (g := fun x => some (g x)) (fun h' => h' = h) (fun h' e => by rw [e]; exact ok) its [] h (fun x hx h' e => ⟨h, by rw [e]; exact hf x hx, rfl⟩) rfl
  rw [List.filterMap_eq_map', List.nil_append] at e
  exact compRun_of e (by rw [List.length_map]; exact hl)
def isTab (w : W) (o : Int) : Bool := match w with
  | .tup l => decide ((l.length : Int) = o + 1) && l.all fun x => isWi x 0 99
  | _ => false
section
variable {D : Prog} {I : Ix} {k : Nat} {h : Hm}
theorem bne_dec (a b : Int) : (!(a == b)) = !decide (a = b) := rfl
theorem is_table (P : HasW D I) (J : HasJ D I) (hk : 3 ≤ k) {w : W} {o : Int} (kn : KnD h 1 w) : run D k I.is_table [w, .int o] h = .ok (.bl (isTab w o)) h := by
  obtain ⟨n, rfl, hr⟩ := run_at (ws := [w, .int o]) (h := h) (show 1 ≤ k by omega) J.is_table rfl
  rw [hr]
  have c1 : conV (ctx D n) I.g_MOST_TIMBER h = .ok (.int 99) h := con_ok J.timber
  by_cases ht : ∃ l, w = .tup l
  · obtain ⟨l, rfl⟩ := ht
    obtain ⟨hl, hx⟩ := kn.tup
    by_cases hn : (l.length : Int) = o + 1
    · have cr : compRun (compTurn false [2] (fun _ h => R.ok true h) (fun s h => ((varV 2 s h).then fun x h1 => (((conV (ctx D n) I.g_MOST_TIMBER h1).then fun x h1 => R.ok [x] h1).then fun ws h2 => R.ok (.int 0 :: ws) h2).then fun ws h2 => R.ok (x :: ws) h2).then (run D n I.is_within)) [some (.tup l), some (.int o), none]) ⟨l, [], h, none⟩ h = .ok _ h :=
        comp_bl (g := fun x => isWi x 0 99) rfl (fun x hxl => by
          have e := is_within (k := n) P (by omega) (hx x hxl).kn 0 99
          simp [compTurn, setT, setAll, c1, e]) hl
      have sv : srcV .seq (.tup l) .non h = .ok ⟨l, [], h, none⟩ h := rfl
      simp [B.is_table, evSs, evS, evE, evT, den, denL, start, isK, hn, sv, cr, blop_all, isTab]
    · have hb : ((l.length : Int) == o + 1) = false := by rw [beq_eq_false_iff_ne]; exact hn
      simp [B.is_table, evSs, evS, evE, evT, den, denL, start, isK, hb, isTab, hn]
  · have nt : ∀ l, w ≠ .tup l := fun l e => ht ⟨l, e⟩
    have hi := not_tup (C := ctx D n) kn.kn nt
    have e : isTab w o = false := by cases w <;> first | rfl | exact absurd rfl (nt _)
    simp [B.is_table, evSs, evS, evE, evT, den, denL, start, hi, e]
def isKin (w : W) (o : Int) : Bool := match w with
  | .tup [a, b, c, d, e, f] => isName a && (isTab b o && (isTab c o && (isWi d 1 o && (isWi e 1 o && isBl f))))
  | _ => false
theorem is_kind (P : HasW D I) (J : HasJ D I) (hk : 4 ≤ k) {w : W} {o : Int} (kn : KnD h 2 w) : run D k I.is_kind [w, .int o] h = .ok (.bl (isKin w o)) h := by
  obtain ⟨n, rfl, hr⟩ := run_at (ws := [w, .int o]) (h := h) (show 1 ≤ k by omega) J.is_kind rfl
  rw [hr]
  by_cases ht : ∃ l, w = .tup l
  · obtain ⟨l, rfl⟩ := ht
    obtain ⟨hl, hx⟩ := kn.tup
    by_cases hn : l.length = 6
    · obtain ⟨a, b, c, d, e, f, rfl⟩ : ∃ a b c d e f, l = [a, b, c, d, e, f] := by
        match l, hn with
        | [a, b, c, d, e, f], _ => exact ⟨a, b, c, d, e, f, rfl⟩
      have g0 : getItem (.tup [a, b, c, d, e, f]) (.int 0) h = .ok a h := rfl
      have g1 : getItem (.tup [a, b, c, d, e, f]) (.int 1) h = .ok b h := rfl
      have g2 : getItem (.tup [a, b, c, d, e, f]) (.int 2) h = .ok c h := rfl
      have g3 : getItem (.tup [a, b, c, d, e, f]) (.int 3) h = .ok d h := rfl
      have g4 : getItem (.tup [a, b, c, d, e, f]) (.int 4) h = .ok e h := rfl
      have g5 : getItem (.tup [a, b, c, d, e, f]) (.int 5) h = .ok f h := rfl
      have r0 := is_name (k := n) (h := h) P (by omega) (hx a (by simp)).kn fun l e => le_line ((hx a (by simp)).str l e)
      have r1 := is_table (k := n) (o := o) P J (by omega) (hx b (by simp))
      have r2 := is_table (k := n) (o := o) P J (by omega) (hx c (by simp))
      have r3 := is_within (k := n) P (by omega) (hx d (by simp)).kn 1 o
      have r4 := is_within (k := n) P (by omega) (hx e (by simp)).kn 1 o
      have r5 := isi_bool (C := ctx D n) (hx f (by simp)).kn
      have ln : b1op .len [.tup [a, b, c, d, e, f]] h = .ok (.int 6) h := rfl
      simp only [isKin]
      cases b0 : isName a with
      | false =>
        rw [b0] at r0
        simp [B.is_kind, evSs, evS, evE, evT, den, denL, start, isK, ln, g0, r0]
      | true =>
        rw [b0] at r0
        cases b1 : isTab b o with
        | false =>
          rw [b1] at r1
          simp [B.is_kind, evSs, evS, evE, evT, den, denL, start, isK, ln, g0, r0, g1, r1]
        | true =>
          rw [b1] at r1
          cases b2 : isTab c o with
          | false =>
            rw [b2] at r2
            simp [B.is_kind, evSs, evS, evE, evT, den, denL, start, isK, ln, g0, r0, g1, r1, g2, r2]
          | true =>
            rw [b2] at r2
            cases b3 : isWi d 1 o with
            | false =>
              rw [b3] at r3
              simp [B.is_kind, evSs, evS, evE, evT, den, denL, start, isK, ln, g0, r0, g1, r1, g2, r2, g3, r3]
            | true =>
              rw [b3] at r3
              cases b4 : isWi e 1 o with
              | false =>
                rw [b4] at r4
                simp [B.is_kind, evSs, evS, evE, evT, den, denL, start, isK, ln, g0, r0, g1, r1, g2, r2, g3, r3, g4, r4]
              | true =>
                rw [b4] at r4
                simp [B.is_kind, evSs, evS, evE, evT, den, denL, start, isK, ln, g0, r0, g1, r1, g2, r2, g3, r3, g4, r4, g5, r5]
    · have hb : ((l.length : Int) == 6) = false := by rw [beq_eq_false_iff_ne]; omega
      have e : isKin (.tup l) o = false := by
        unfold isKin
        split
        · rename_i hh
          cases hh
          exact absurd rfl hn
        · rfl
      simp [B.is_kind, evSs, evS, evE, evT, den, denL, start, isK, hb, e]
  · have nt : ∀ l, w ≠ .tup l := fun l e => ht ⟨l, e⟩
    have hi := not_tup (C := ctx D n) kn.kn nt
    have e : isKin w o = false := by cases w <;> first | rfl | exact absurd rfl (nt _)
    simp [B.is_kind, evSs, evS, evE, evT, den, denL, start, hi, e]
/-- a list or a tuple with these items -/
def RowAt (h : Hm) (w : W) (l : List W) : Prop := (∃ r, w = .ref r ∧ h[r]? = some (.lst l)) ∨ w = .tup l ∨ w = .kl l
theorem RowAt.src {w : W} {l : List W} (x : RowAt h w l) : ∃ gs, srcV .seq w .non h = .ok ⟨l, gs, h, none⟩ h ∧ okG gs h = true := by
  rcases x with ⟨r, rfl, e⟩ | rfl | rfl
  · exact ⟨_, srcV_ref e, okG_one e⟩
  · exact ⟨[], rfl, rfl⟩
  · exact ⟨[], rfl, rfl⟩
theorem RowAt.len {w : W} {l : List W} (x : RowAt h w l) : b1op .len [w] h = .ok (.int l.length) h := by
  rcases x with ⟨r, rfl, e⟩ | rfl | rfl
  · unfold b1op b1u
    simp only [e]
  · rfl
  · rfl
theorem RowAt.kd {w : W} {l : List W} (x : RowAt h w l) : ∃ q, M2.kd h w = some q ∧ (∀ c, q ≠ .ins c) ∧ (isK q .list || isK q .tuple) = true := by
  rcases x with ⟨r, rfl, e⟩ | rfl | rfl
  · exact ⟨.list, by unfold M2.kd; simp only [e], nofun, rfl⟩
  · exact ⟨.tuple, rfl, nofun, rfl⟩
  · exact ⟨.list, rfl, nofun, rfl⟩
theorem RowAt.get {w : W} {l : List W} (x : RowAt h w l) {i : Int} {j : Nat} {y : W} (p : place l.length i = some j) (g : l[j]? = some y) : getItem w (.int i) h = .ok y h := by
  rcases x with ⟨r, rfl, e⟩ | rfl | rfl
  · exact g_ref e p g
  · unfold getItem
    simp only [p, g]
  · unfold getItem
    simp only [p, g]
theorem RowAt.row {w : W} {l : List W} (x : RowAt h w l) : rowOf w h = .ok l h := by
  rcases x with ⟨r, rfl, e⟩ | rfl | rfl
  · unfold rowOf itemsOf asL
    simp only [e]
  · rfl
  · rfl
theorem RowAt.app {w : W} {l : List W} (x : RowAt h w l) (t : Hm) : RowAt (h ++ t) w l := by
  rcases x with ⟨r, rfl, e⟩ | e
  · exact .inl ⟨r, rfl, app_get e⟩
  · exact .inr e
def oldIn : List W → W
  | .tup [_, .tup t, _, _, _, _] :: _ => if 1 ≤ (t.length : Int) - 1 ∧ (t.length : Int) - 1 ≤ 6 then .int ((t.length : Int) - 1) else .non
  | _ => .non
theorem oldest_in (J : HasJ D I) (hk : 1 ≤ k) {w : W} {x : W} {l : List W} (ra : RowAt h w (x :: l)) (kn : KnD h 1 x) : run D k I.oldest_in [w] h = .ok (oldIn (x :: l)) h := by
  obtain ⟨n, rfl, hr⟩ := run_at (ws := [w]) (h := h) hk J.oldest_in rfl
  rw [hr]
  have c1 : conV (ctx D n) I.g_OLDEST h = .ok (.int 6) h := con_ok J.oldest
  have g0 : getItem w (.int 0) h = .ok x h := ra.get (j := 0) (place_nn (Int.le_refl _) (by simp)) rfl
  by_cases ht : ∃ t, x = .tup t
  · obtain ⟨t, rfl⟩ := ht
    obtain ⟨hl, hx⟩ := kn.tup
    by_cases hn : t.length = 6
    · obtain ⟨a, b, c, d, e, f, rfl⟩ : ∃ a b c d e f, t = [a, b, c, d, e, f] := by
        match t, hn with
        | [a, b, c, d, e, f], _ => exact ⟨a, b, c, d, e, f, rfl⟩
      have g1 : getItem (.tup [a, b, c, d, e, f]) (.int 1) h = .ok b h := rfl
      have ln : b1op .len [.tup [a, b, c, d, e, f]] h = .ok (.int 6) h := rfl
      by_cases hb : ∃ u, b = .tup u
      · obtain ⟨u, rfl⟩ := hb
        simp only [oldIn]
        by_cases h1 : 1 ≤ (u.length : Int) - 1
        · by_cases h2 : (u.length : Int) - 1 ≤ 6
          · simp [B.oldest_in, evSs, evS, evE, evT, den, denL, start, isK, ln, g0, g1, M2.asg, chainV, c1, h1, h2, iteB_b]
          · simp [B.oldest_in, evSs, evS, evE, evT, den, denL, start, isK, ln, g0, g1, M2.asg, chainV, c1, h1, h2, iteB_b]
        · simp [B.oldest_in, evSs, evS, evE, evT, den, denL, start, isK, ln, g0, g1, M2.asg, chainV, c1, h1, iteB_b]
      · have nt : ∀ l, b ≠ .tup l := fun l e => hb ⟨l, e⟩
        have hi := not_tup (C := ctx D n) (hx b (by simp)).kn nt
        have e : oldIn (.tup [a, b, c, d, e, f] :: l) = .non := by
          unfold oldIn
          split
          · rename_i hh
            cases hh
            exact absurd rfl (nt _)
          · rfl
        simp [B.oldest_in, evSs, evS, evE, evT, den, denL, start, isK, ln, g0, g1, M2.asg, hi, e]
    · have hb : ((t.length : Int) == 6) = false := by rw [beq_eq_false_iff_ne]; omega
      have e : oldIn (.tup t :: l) = .non := by
        unfold oldIn
        split
        · rename_i hh
          cases hh
          exact absurd rfl hn
        · rfl
      simp [B.oldest_in, evSs, evS, evE, evT, den, denL, start, isK, g0, M2.asg, hb, e]
  · have nt : ∀ l, x ≠ .tup l := fun l e => ht ⟨l, e⟩
    have hi := not_tup (C := ctx D n) kn.kn nt
    have e : oldIn (x :: l) = .non := by
      unfold oldIn
      split
      · rename_i hh
        cases hh
        exact absurd rfl (nt _)
      · rfl
    simp [B.oldest_in, evSs, evS, evE, evT, den, denL, start, isK, g0, M2.asg, hi, e]
end
end M2

namespace M2
/-! ### twice -/
section
variable {Bt : Type} [DecidableEq Bt] {wb : Bt → W} {v : W}
def ded : List Bt → List Bt → List Bt
  | [], acc => acc
  | x :: l, acc => if x ∈ acc then ded l acc else ded l (acc ++ [x])
theorem putD_map (inj : ∀ a b, eqW (wb a) (wb b) = decide (a = b)) (x : Bt) : ∀ m : List Bt, putD (wb x) v (m.map fun y => (wb y, v)) = (if x ∈ m then m else m ++ [x]).map fun y => (wb y, v)
  | [] => by simp [putD]
  | y :: m => by
    rw [List.map_cons, putD, inj]
    by_cases e : y = x
    · subst e
      simp
    · rw [if_neg (by simpa using e), putD_map inj x m]
      by_cases hm : x ∈ m
      · rw [if_pos hm, if_pos (List.mem_cons_of_mem _ hm)]
        rfl
      · rw [if_neg hm, if_neg (by simp [hm, Ne.symm e])]
        rfl
theorem putAll_ded (inj : ∀ a b, eqW (wb a) (wb b) = decide (a = b)) : ∀ (l acc : List Bt), putAll (l.map fun y => (wb y, v)) (acc.map fun y => (wb y, v)) = (ded l acc).map fun y => (wb y, v)
  | [], acc => rfl
  | x :: l, acc => by
    rw [List.map_cons, putAll, putD_map inj, putAll_ded inj l, ded]
    split <;> rfl
theorem ded_len : ∀ (l acc : List Bt), acc.Nodup → (ded l acc).length ≤ acc.length + l.length ∧ ((ded l acc).length = acc.length + l.length ↔ (acc ++ l).Nodup)
  | [], acc, n => by simp [ded, n]
  | x :: l, acc, n => by
    rw [ded]
    by_cases h : x ∈ acc
    · rw [if_pos h]
      have ih := ded_len l acc n
      refine ⟨by simp only [List.length_cons]; omega, ⟨fun e => by simp only [List.length_cons] at e; omega, fun nd => ?_⟩⟩
      have := (List.nodup_append.mp nd).2.2 x h x (by simp)
      exact absurd rfl this
    · rw [if_neg h]
      have n' : (acc ++ [x]).Nodup := by
        rw [List.nodup_append]
        refine ⟨n, by simp, fun a ha b hb => ?_⟩
        have : b = x := by simpa using hb
        rw [this]
        rintro rfl
        exact h ha
      have ih := ded_len l (acc ++ [x]) n'
      simp only [List.length_append, List.length_singleton, List.length_cons, List.length_nil, List.append_assoc, List.singleton_append, Nat.zero_add] at ih ⊢
      refine ⟨by omega, ?_⟩
      rw [← ih.2]
      omega
theorem twice_len (inj : ∀ a b, eqW (wb a) (wb b) = decide (a = b)) (l : List Bt) : decide (((putAll (l.map fun y => (wb y, v)) []).length : Int) < l.length) = !decide l.Nodup := by
  have e := putAll_ded (v := v) inj l []
  rw [List.map_nil] at e
  rw [e, List.length_map]
  have h := ded_len l [] List.nodup_nil
  simp only [List.length_nil, Nat.zero_add, List.nil_append] at h
  by_cases nd : l.Nodup
  · have := h.2.mpr nd
    rw [decide_eq_true nd, decide_eq_false (by omega)]
    rfl
  · have : (ded l []).length ≠ l.length := fun z => nd (h.2.mp z)
    rw [decide_eq_false nd, decide_eq_true (by omega)]
    rfl
end
theorem dc_go {f : W → Hm → R (Option (W × W))} {gs : List (Nat × List W)} {h : Hm} (ok : okG gs h = true) {v : W} : ∀ (its : List W) (acc : List (W × W)), (∀ x ∈ its, f x h = .ok (some (x, v)) h) → compGo f gs its acc h = .ok (acc ++ its.map fun x => (x, v)) h
  | [], acc, _ => by rw [compGo, ok, if_pos rfl]; simp
  | x :: its, acc, hf => by
    rw [compGo, ok, if_pos rfl, hf x (by simp)]
    simp only
    rw [dc_go ok its _ fun y hy => hf y (by simp [hy])]
    simp
/-- walks that may return False -/
theorem for_chk {f : W → Env → Hm → RS} {gs : List (Nat × List W)} {g : W → Bool} {mk : Option W → Env} {h : Hm} (ok : okG gs h = true) : ∀ (its : List W) (o : Option W), (∀ x ∈ its, ∀ o, f x (mk o) h = if g x = true then .nx (mk (some x)) h else .rt (.bl false) h) →
    (its.all g = true → ∃ o', forGo f gs its (mk o) h = .nx (mk o') h) ∧ (its.all g = false → forGo f gs its (mk o) h = .rt (.bl false) h)
  | [], o, _ => ⟨fun _ => ⟨o, by rw [forGo, ok, if_pos rfl]⟩, fun z => nomatch z⟩
  | x :: its, o, hf => by
    have e := hf x (by simp) o
    obtain ⟨h1, h2⟩ := for_chk ok its (some x) fun y hy => hf y (by simp [hy])
    rw [List.all_cons]
    cases hx : g x with
    | true =>
      rw [hx, if_pos rfl] at e
      refine ⟨fun z => ?_, fun z => ?_⟩
      · obtain ⟨o', e'⟩ := h1 z
        exact ⟨o', by rw [forGo, ok, if_pos rfl, e]; exact e'⟩
      · rw [forGo, ok, if_pos rfl, e]
        exact h2 z
    | false =>
      rw [hx, if_neg Bool.false_ne_true] at e
      exact ⟨fun z => (nomatch z), fun _ => by rw [forGo, ok, if_pos rfl, e]⟩
section
variable {D : Prog} {I : Ix} {k : Nat} {h : Hm}
theorem get0 (a : W) (rest : List W) : getItem (.tup (a :: rest)) (.int 0) h = .ok a h := by
  have p : place (a :: rest).length 0 = some 0 := place_nn (Int.le_refl _) (by simp)
  unfold getItem
  simp only [p]
  rfl
theorem has_twice {Bt : Type} [DecidableEq Bt] {wb : Bt → W} (inj : ∀ a b, eqW (wb a) (wb b) = decide (a = b)) (kind : (∀ x, (wb x).plain = true ∧ (wb x).key = true) ∨ ∀ x, (wb x).plain = false ∧ (wb x).isTup = true ∧ (wb x).key = true) (J : HasJ D I) (hk : 1 ≤ k) {w : W} {l : List Bt} (ra : RowAt h w (l.map wb)) (hl : l.length ≤ 1000) :
    run D k I.has_twice [w] h = .ok (.bl (!decide l.Nodup)) h := by
  obtain ⟨n, rfl, hr⟩ := run_at (ws := [w]) (h := h) hk J.has_twice rfl
  rw [hr]
  obtain ⟨gs, sv, ok⟩ := ra.src
  have key : ∀ x, (wb x).key = true := fun x => kind.elim (fun h => (h x).2) fun h => (h x).2.2
  have cr : compRun (dcTurn false [1] (fun _ h => R.ok true h) (varV 1) (fun _ h => R.ok (.bl true) h) [some w, none]) ⟨l.map wb, gs, h, none⟩ h = .ok ((l.map wb).map fun x => (x, W.bl true)) h := by
    refine compRun_of ?_ (by rw [List.length_map, List.length_map]; exact hl)
    have := dc_go (v := W.bl true) (f := dcTurn false [1] (fun _ h => R.ok true h) (varV 1) (fun _ h => R.ok (.bl true) h) [some w, none]) ok (l.map wb) [] fun x hx => by
      obtain ⟨y, _, rfl⟩ := List.mem_map.mp hx
      simp [dcTurn, setT, setAll, key y]
    rw [List.nil_append] at this
    exact this
  have nd : ∃ o, newD ((l.map wb).map fun x => (x, W.bl true)) h = .ok (.ref h.length) (h ++ [o]) ∧ b1op .len [.ref h.length] (h ++ [o]) = .ok (.int (putAll (l.map fun y => (wb y, W.bl true)) []).length) (h ++ [o]) := by
    have em : (l.map wb).map (fun x => (x, W.bl true)) = l.map fun y => (wb y, W.bl true) := by rw [List.map_map]; rfl
    rw [em]
    unfold newD
    by_cases hp : ((l.map fun y => (wb y, W.bl true)).all fun p => p.1.plain) = true
    · refine ⟨_, by rw [if_pos hp]; rfl, ?_⟩
      unfold b1op b1u
      simp only [last_get]
    · rw [if_neg hp]
      rcases kind with kk | kk
      · exact absurd (by simp [List.all_map, Function.comp_def, (fun x => (kk x).1)]) hp
      · rw [if_pos (by simp [List.all_map, Function.comp_def, (fun x => (kk x).2.1)])]
        refine ⟨_, rfl, ?_⟩
        unfold b1op b1u
        simp only [last_get]
  obtain ⟨o, n1, n2⟩ := nd
  have ln : b1op .len [w] (h ++ [o]) = .ok (.int (l.length : Nat)) (h ++ [o]) := by
    have := (ra.app [o]).len
    rw [List.length_map] at this
    exact this
  rw [← twice_len (v := W.bl true) inj l]
  simp [B.has_twice, evSs, evS, evE, den, denL, start, sv, cr, n1, n2, ln, -List.map_map]
theorem str_inj (a b : List Nat) : eqW (.str a) (.str b) = decide (a = b) := by
  simp only [eqW]
  by_cases e : a = b
  · subst e; simp
  · rw [decide_eq_false e, beq_eq_false_iff_ne.mpr e]
theorem prW_inj (a b : Int × Int) : eqW (prW a) (prW b) = decide (a = b) := by
  obtain ⟨x, y⟩ := a
  obtain ⟨z, u⟩ := b
  simp only [prW, eqW, eqWs, Bool.and_true, Prod.mk.injEq]
  by_cases h1 : x = z <;> by_cases h2 : y = u <;> simp [h1, h2]
theorem twice_strs (J : HasJ D I) (hk : 1 ≤ k) {w : W} {l : List (List Nat)} (ra : RowAt h w (l.map .str)) (hl : l.length ≤ 1000) : run D k I.has_twice [w] h = .ok (.bl (!decide l.Nodup)) h :=
  has_twice str_inj (.inl fun _ => ⟨rfl, rfl⟩) J hk ra hl
theorem twice_prs (J : HasJ D I) (hk : 1 ≤ k) {w : W} {l : List (Int × Int)} (ra : RowAt h w (l.map prW)) (hl : l.length ≤ 1000) : run D k I.has_twice [w] h = .ok (.bl (!decide l.Nodup)) h :=
  has_twice prW_inj (.inr fun _ => ⟨rfl, rfl, rfl⟩) J hk ra hl
/-! ### kinds -/
def nameOf (w : W) : List Nat := match w with
  | .tup (.str n :: _) => n
  | _ => []
theorem name_of {w : W} {o : Int} (h : isKin w o = true) : ∃ rest, w = .tup (.str (nameOf w) :: rest) := by
  unfold isKin at h
  split at h
  · rename_i a b c d e f
    simp only [Bool.and_eq_true] at h
    have : isLab a = true := by
      have := h.1
      unfold isName at this
      rw [Bool.and_eq_true] at this
      exact this.1
    obtain ⟨l, rfl⟩ := lab_str this
    exact ⟨_, rfl⟩
  · cases h
def areKin (l : List W) : Bool := decide (1 ≤ l.length) && (decide (l.length ≤ 3) && (match oldIn l with
  | .int o => (l.all fun x => isKin x o) && decide (l.map nameOf).Nodup
  | _ => false))
theorem oldIn_cases (l : List W) : oldIn l = .non ∨ ∃ o, oldIn l = .int o := by
  unfold oldIn
  split
  · split
    · exact .inr ⟨_, rfl⟩
    · exact .inl rfl
  · exact .inl rfl
theorem are_kinds (P : HasW D I) (J : HasJ D I) (hk : 5 ≤ k) {w : W} {l : List W} (ra : RowAt h w l) (kn : ∀ x ∈ l, KnD h 2 x) : run D k I.are_kinds [w] h = .ok (.bl (areKin l)) h := by
  obtain ⟨n, rfl, hr⟩ := run_at (ws := [w]) (h := h) (show 1 ≤ k by omega) J.are_kinds rfl
  rw [hr]
  have c1 : conV (ctx D n) I.g_MOST_KINDS h = .ok (.int 3) h := con_ok J.kinds
  obtain ⟨q, kq, kc, ki⟩ := ra.kd
  have r0 := is_listed (k := n) P (by omega) kq kc
  rw [ki] at r0
  have ln := ra.len
  unfold areKin
  by_cases l1 : 1 ≤ l.length
  · have l1' : (1 : Int) ≤ l.length := by omega
    by_cases l3 : l.length ≤ 3
    · have l3' : (l.length : Int) ≤ 3 := by omega
      rw [decide_eq_true l1, decide_eq_true l3]
      cases l with
      | nil => exact absurd l1 (by simp)
      | cons x l =>
        have r1 := oldest_in (k := n) J (by omega) ra (by
          have := kn x (by simp)
          exact ⟨this.1, fun t e => ⟨(this.2 t e).1, fun y hy => ⟨((this.2 t e).2 y hy).kn, ((this.2 t e).2 y hy).str⟩⟩⟩)
        have s0 : evS (ctx D n) (.ite (.or (.not (.call I.is_listed [(.var 0)])) (.not (.cmp2 .le .le (.int 1) (.b1 .len [(.var 0)]) (.glo I.g_MOST_KINDS)))) [.ret (.bl false)] []) [some w, none, none] h = .nx [some w, none, none] h := by
          simp [evSs, evS, evE, evT, den, denL, r0, ln, chainV, c1, l1', l3']
          simp at l3'
          have : ((l.length : Int) + 1 ≤ 3) := by omega
          simp [this]
          simp at l1'
          simp [l1']
        rcases oldIn_cases (x :: l) with e | ⟨o, e⟩
        · rw [e] at r1 ⊢
          show back _ h (evSs _ [_, _, _, _] [some w, none, none] h) = _
          rw [evSs_nx s0]
          simp [evSs, evS, evE, evT, den, denL, r1, M2.asg]
        · rw [e] at r1 ⊢
          obtain ⟨gs, sv, og⟩ := ra.src
          have s1 : evS (ctx D n) (.asg (.var 1) (.call I.oldest_in [(.var 0)])) [some w, none, none] h = .nx [some w, some (.int o), none] h := by
            simp [evS, evE, den, denL, r1, M2.asg]
          have cr : compRun (compTurn false [2] (fun _ h => R.ok true h) (fun s h => ((varV 2 s h).then fun x h1 => (((varV 1 s h1).then fun x h1 => R.ok [x] h1).then fun ws h2 => R.ok (x :: ws) h2)).then (run D n I.is_kind)) [some w, some (.int o), none]) ⟨x :: l, gs, h, none⟩ h = .ok _ h :=
            comp_bl (g := fun x => isKin x o) og (fun y hy => by
              have e := is_kind (k := n) (o := o) P J (by omega) (kn y hy)
              simp [compTurn, setT, setAll, e]) (by omega)
          have ni : cmpop .isN (.int o) .non h = .ok (.bl false) h := rfl
          show _ = R.ok (W.bl (true && (true && (((x :: l).all fun x => isKin x o) && decide ((x :: l).map nameOf).Nodup)))) h
          cases ha : ((x :: l).all fun x => isKin x o) with
          | false =>
            have ba := blop_all (fun x => isKin x o) (x :: l) h
            rw [ha] at ba
            show back _ h (evSs _ [_, _, _, _] [some w, none, none] h) = _
            rw [evSs_nx s0, evSs_nx s1]
            simp [evSs, evS, evE, evT, den, denL, ni, sv, cr, ba, -List.map_cons]
          | true =>
            have ba := blop_all (fun x => isKin x o) (x :: l) h
            rw [ha] at ba
            have s2 : evS (ctx D n) (.ite (.or (.cmp .isN (.var 1) .non) (.not (.bl1 .all (.lc [2] false [2] (.call I.is_kind [(.var 2), (.var 1)]) .seq (.var 0) .non (.bl true))))) [.ret (.bl false)] []) [some w, some (.int o), none] h = .nx [some w, some (.int o), none] h := by
              simp [evSs, evS, evE, evT, den, denL, ni, sv, cr, ba, -List.map_cons]
            have all := List.all_eq_true.mp ha
            have cr2 : compRun (compTurn false [2] (fun _ h => R.ok true h) (fun s h => (varV 2 s h).then fun x h1 => getItem x (.int 0) h1) [some w, some (.int o), none]) ⟨x :: l, gs, h, none⟩ h = .ok _ h :=
              comp_val (g := fun x => .str (nameOf x)) og (fun y hy => by
                obtain ⟨rest, e⟩ := name_of (all y hy)
                have g0 : getItem y (.int 0) h = .ok (.str (nameOf y)) h := by
                  have e' : getItem (.tup (.str (nameOf y) :: rest)) (.int 0) h = .ok (.str (nameOf y)) h := get0 _ _
                  rw [← e] at e'
                  exact e'
                simp [compTurn, setT, setAll, g0]) (by omega)
            have em : (x :: l).map (fun x => W.str (nameOf x)) = ((x :: l).map nameOf).map .str := by rw [List.map_map]; rfl
            rw [em] at cr2
            have r2 := twice_strs (k := n) (h := h) J (by omega) (w := .kl (((x :: l).map nameOf).map .str)) (l := (x :: l).map nameOf) (.inr (.inr rfl)) (by rw [List.length_map]; omega)
            show back _ h (evSs _ [_, _, _, _] [some w, none, none] h) = _
            rw [evSs_nx s0, evSs_nx s1, evSs_nx s2]
            simp [evSs, evS, evE, den, denL, sv, cr2, r2, -List.map_cons, -List.map_map]
    · have l3' : ¬ (l.length : Int) ≤ 3 := by omega
      rw [decide_eq_false l3]
      simp [B.are_kinds, evSs, evS, evE, evT, den, denL, start, r0, ln, chainV, c1, l1', l3']
  · have l1' : ¬ (1 : Int) ≤ l.length := by omega
    rw [decide_eq_false l1]
    simp [B.are_kinds, evSs, evS, evE, evT, den, denL, start, r0, ln, chainV, c1, l1']
end
end M2

namespace M2
def isSta (w : W) (names : List (List Nat)) (o : Int) : Bool := match w with
  | .tup [a, .str z, c] => isName a && (names.contains z && isWi c 0 o)
  | _ => false
def areSta (l : List W) (names : List (List Nat)) (o : Int) : Bool := decide (1 ≤ l.length) && (decide (l.length ≤ 4) && ((l.all fun x => isSta x names o) && decide (l.map nameOf).Nodup))
def isNr (w : W) (m : Int) : Bool := match w with
  | .tup [a, .int j] => isWi (.int j) 1 (m - 1) && isWi a 0 (j - 1)
  | _ => false
def isWe (w : W) : Bool := match w with
  | .tup l => decide (l.length = 3) && l.all fun x => isWi x 0 4
  | _ => false
def isYa (w : W) : Bool := match w with
  | .tup [.int a, b] => isWi (.int a) 0 999 && isWi b 0 a
  | _ => false
theorem sta_name {w : W} {names : List (List Nat)} {o : Int} (h : isSta w names o = true) : ∃ rest, w = .tup (.str (nameOf w) :: rest) := by
  unfold isSta at h
  split at h
  · rename_i a z c
    simp only [Bool.and_eq_true] at h
    have : isLab a = true := by
      have := h.1
      unfold isName at this
      rw [Bool.and_eq_true] at this
      exact this.1
    obtain ⟨l, rfl⟩ := lab_str this
    exact ⟨_, rfl⟩
  · cases h
theorem nr_pair {w : W} {m : Int} (h : isNr w m = true) : ∃ p : Int × Int, w = prW p := by
  unfold isNr at h
  split at h
  · rename_i a j
    simp only [Bool.and_eq_true] at h
    cases a <;> first
      | exact ⟨(_, _), rfl⟩
      | (have := h.2; simp [isWi] at this)
  · cases h
section
variable {D : Prog} {I : Ix} {k : Nat} {h : Hm}
theorem isi_lists {C : Ctx} {w : W} {l : List W} (ra : RowAt h w l) : isiV C [.list, .tuple] w h = .ok (.bl true) h := by
  obtain ⟨q, kq, kc, ki⟩ := ra.kd
  rw [isi_of kq (kdC_of kc) (by simp [line])]
  simp [ki]
/-- one stand -/
theorem sta_turn (P : HasW D I) (hk : 3 ≤ k) {x v : W} {names : List (List Nat)} {o : Int} {c : Option W} (kn : KnD h 1 x) :
    evSs (ctx D k) [.ite (.or (.not (.isi (.var 3) [.tuple])) (.or (.cmp .ne (.b1 .len [(.var 3)]) (.int 3)) (.not (.call I.is_name [(.sub (.var 3) (.int 0))])))) [.ret (.bl false)] [],
      .ite (.or (.not (.isi (.sub (.var 3) (.int 1)) [.str])) (.or (.cmp .nmem (.sub (.var 3) (.int 1)) (.var 1)) (.not (.call I.is_within [(.sub (.var 3) (.int 2)), (.int 0), (.var 2)])))) [.ret (.bl false)] []]
      [some v, some (.kl (names.map .str)), some (.int o), some x] h = if isSta x names o = true then .nx [some v, some (.kl (names.map .str)), some (.int o), some x] h else .rt (.bl false) h := by
  by_cases ht : ∃ l, x = .tup l
  · obtain ⟨l, rfl⟩ := ht
    obtain ⟨hl, hx⟩ := kn.tup
    by_cases h3 : l.length = 3
    · obtain ⟨a, b, c, rfl⟩ : ∃ a b c, l = [a, b, c] := by
        match l, h3 with
        | [a, b, c], _ => exact ⟨a, b, c, rfl⟩
      have g0 : getItem (.tup [a, b, c]) (.int 0) h = .ok a h := rfl
      have g1 : getItem (.tup [a, b, c]) (.int 1) h = .ok b h := rfl
      have g2 : getItem (.tup [a, b, c]) (.int 2) h = .ok c h := rfl
      have ln : b1op .len [.tup [a, b, c]] h = .ok (.int 3) h := rfl
      have r0 := is_name (k := k) (h := h) P (by omega) (hx a (by simp)).kn fun l e => le_line ((hx a (by simp)).str l e)
      have r2 := is_within (k := k) P (by omega) (hx c (by simp)).kn 0 o
      cases b0 : isName a with
      | false =>
        rw [b0] at r0
        have e : isSta (.tup [a, b, c]) names o = false := by cases b <;> simp [isSta, b0]
        simp [evSs, evS, evE, evT, den, denL, isK, ln, g0, r0, e]
      | true =>
        rw [b0] at r0
        by_cases hb : ∃ z, b = .str z
        · obtain ⟨z, rfl⟩ := hb
          have mm : memV h (.str z) (.kl (names.map .str)) = some (names.contains z) := by
            exact any_str
          cases b1 : names.contains z with
          | false =>
            rw [b1] at mm
            have b1' : z ∉ names := by simpa using b1
            simp [evSs, evS, evE, evT, den, denL, isK, ln, g0, r0, g1, mm, isSta, b0, b1']
          | true =>
            rw [b1] at mm
            have b1' : z ∈ names := by simpa using b1
            cases b2 : isWi c 0 o with
            | false =>
              rw [b2] at r2
              simp [evSs, evS, evE, evT, den, denL, isK, ln, g0, r0, g1, mm, g2, r2, isSta, b0, b1', b2]
            | true =>
              rw [b2] at r2
              simp [evSs, evS, evE, evT, den, denL, isK, ln, g0, r0, g1, mm, g2, r2, isSta, b0, b1', b2]
        · have nt : ∀ l, b ≠ .str l := fun l e => hb ⟨l, e⟩
          have hi := not_str (C := ctx D k) (hx b (by simp)).kn nt
          have e : isSta (.tup [a, b, c]) names o = false := by cases b <;> first | rfl | exact absurd rfl (nt _)
          simp [evSs, evS, evE, evT, den, denL, isK, ln, g0, r0, g1, hi, e]
    · have hb : ((l.length : Int) == 3) = false := by rw [beq_eq_false_iff_ne]; omega
      have e : isSta (.tup l) names o = false := by
        unfold isSta
        split
        · rename_i hh
          cases hh
          exact absurd rfl h3
        · rfl
      simp [evSs, evS, evE, evT, den, denL, isK, hb, e]
  · have nt : ∀ l, x ≠ .tup l := fun l e => ht ⟨l, e⟩
    have hi := not_tup (C := ctx D k) kn.kn nt
    have e : isSta x names o = false := by cases x <;> first | rfl | exact absurd rfl (nt _)
    simp [evSs, evS, evE, evT, den, denL, hi, e]
theorem are_stands (P : HasW D I) (J : HasJ D I) (hk : 4 ≤ k) {w : W} {l : List W} (ra : RowAt h w l) (kn : ∀ x ∈ l, KnD h 1 x) {names : List (List Nat)} {o : Int} :
    run D k I.are_stands [w, .kl (names.map .str), .int o] h = .ok (.bl (areSta l names o)) h := by
  obtain ⟨n, rfl, hr⟩ := run_at (ws := [w, .kl (names.map .str), .int o]) (h := h) (show 1 ≤ k by omega) J.are_stands rfl
  rw [hr]
  have c1 : conV (ctx D n) I.g_MOST_STANDS h = .ok (.int 4) h := con_ok J.stands
  obtain ⟨q, kq, kc, ki⟩ := ra.kd
  have r0 := is_listed (k := n) P (by omega) kq kc
  rw [ki] at r0
  have ln := ra.len
  obtain ⟨gs, sv, og⟩ := ra.src
  unfold areSta
  by_cases l1 : 1 ≤ l.length
  · have l1' : (1 : Int) ≤ l.length := by omega
    by_cases l4 : l.length ≤ 4
    · have l4' : (l.length : Int) ≤ 4 := by omega
      rw [decide_eq_true l1, decide_eq_true l4, Bool.true_and, Bool.true_and]
      have s0 : evS (ctx D n) (.ite (.or (.not (.call I.is_listed [(.var 0)])) (.not (.cmp2 .le .le (.int 1) (.b1 .len [(.var 0)]) (.glo I.g_MOST_STANDS)))) [.ret (.bl false)] []) [some w, some (.kl (names.map .str)), some (.int o), none] h = .nx [some w, some (.kl (names.map .str)), some (.int o), none] h := by
        simp [evSs, evS, evE, evT, den, denL, r0, ln, chainV, c1, l1', l4']
      obtain ⟨f1, f2⟩ := for_chk (g := fun x => isSta x names o) (mk := fun c => [some w, some (.kl (names.map .str)), some (.int o), c]) (f := forTurn false [3] (evSs (ctx D n) [.ite (.or (.not (.isi (.var 3) [.tuple])) (.or (.cmp .ne (.b1 .len [(.var 3)]) (.int 3)) (.not (.call I.is_name [(.sub (.var 3) (.int 0))])))) [.ret (.bl false)] [],
          .ite (.or (.not (.isi (.sub (.var 3) (.int 1)) [.str])) (.or (.cmp .nmem (.sub (.var 3) (.int 1)) (.var 1)) (.not (.call I.is_within [(.sub (.var 3) (.int 2)), (.int 0), (.var 2)])))) [.ret (.bl false)] []])) og l none fun x hx c => by
        unfold forTurn
        simp only [setT, setAll, Bool.false_eq_true, if_false]
        exact sta_turn (c := c) P (by omega) (kn x hx)
      have fr : ∀ c, evS (ctx D n) (.for false [3] .seq (.var 0) .non [.ite (.or (.not (.isi (.var 3) [.tuple])) (.or (.cmp .ne (.b1 .len [(.var 3)]) (.int 3)) (.not (.call I.is_name [(.sub (.var 3) (.int 0))])))) [.ret (.bl false)] [],
          .ite (.or (.not (.isi (.sub (.var 3) (.int 1)) [.str])) (.or (.cmp .nmem (.sub (.var 3) (.int 1)) (.var 1)) (.not (.call I.is_within [(.sub (.var 3) (.int 2)), (.int 0), (.var 2)])))) [.ret (.bl false)] []]) [some w, some (.kl (names.map .str)), some (.int o), c] h = forEnd none (forGo (forTurn false [3] (evSs (ctx D n) [.ite (.or (.not (.isi (.var 3) [.tuple])) (.or (.cmp .ne (.b1 .len [(.var 3)]) (.int 3)) (.not (.call I.is_name [(.sub (.var 3) (.int 0))])))) [.ret (.bl false)] [],
          .ite (.or (.not (.isi (.sub (.var 3) (.int 1)) [.str])) (.or (.cmp .nmem (.sub (.var 3) (.int 1)) (.var 1)) (.not (.call I.is_within [(.sub (.var 3) (.int 2)), (.int 0), (.var 2)])))) [.ret (.bl false)] []])) gs l [some w, some (.kl (names.map .str)), some (.int o), c] h) := fun c => by
        rw [evS]
        simp only [evE, den, mkV_v, var_some (show ([some w, some (.kl (names.map .str)), some (.int o), c] : Env)[0]? = some (some w) from rfl), ofR_ok, sv, forRun]
      show back _ h (evSs _ [_, _, _] [some w, some (.kl (names.map .str)), some (.int o), none] h) = _
      rw [evSs_nx s0]
      cases ha : (l.all fun x => isSta x names o) with
      | false =>
        have fr := fr none
        rw [f2 ha] at fr
        rw [evSs_rt fr]
        simp [unlock]
      | true =>
        obtain ⟨c', fe⟩ := f1 ha
        have fr := fr none
        rw [fe] at fr
        have all := List.all_eq_true.mp ha
        have cr2 : compRun (compTurn false [3] (fun _ h => R.ok true h) (fun s h => (varV 3 s h).then fun x h1 => getItem x (.int 0) h1) [some w, some (.kl (names.map .str)), some (.int o), c']) ⟨l, gs, h, none⟩ h = .ok _ h :=
          comp_val (g := fun x => .str (nameOf x)) og (fun y hy => by
            obtain ⟨rest, e⟩ := sta_name (all y hy)
            have g0 : getItem y (.int 0) h = .ok (.str (nameOf y)) h := by
              have e' : getItem (.tup (.str (nameOf y) :: rest)) (.int 0) h = .ok (.str (nameOf y)) h := get0 _ _
              rw [← e] at e'
              exact e'
            simp [compTurn, setT, setAll, g0]) (by omega)
        have em : l.map (fun x => W.str (nameOf x)) = (l.map nameOf).map .str := by rw [List.map_map]; rfl
        rw [em] at cr2
        have r2 := twice_strs (k := n) (h := h) J (by omega) (w := .kl ((l.map nameOf).map .str)) (l := l.map nameOf) (.inr (.inr rfl)) (by rw [List.length_map]; omega)
        rw [evSs_nx fr]
        simp [evSs, evS, evE, den, denL, sv, cr2, r2, unlock, -List.map_map]
    · have l4' : ¬ (l.length : Int) ≤ 4 := by omega
      rw [decide_eq_false l4]
      simp [B.are_stands, evSs, evS, evE, evT, den, denL, start, r0, ln, chainV, c1, l1', l4']
  · have l1' : ¬ (1 : Int) ≤ l.length := by omega
    rw [decide_eq_false l1]
    simp [B.are_stands, evSs, evS, evE, evT, den, denL, start, r0, ln, chainV, c1, l1']
theorem wi_int {w : W} {lo hi : Int} (h : isWi w lo hi = true) : ∃ i, w = .int i ∧ lo ≤ i ∧ i ≤ hi := by
  cases w <;> simp [isWi] at h
  exact ⟨_, rfl, h.1, h.2⟩
theorem near_turn (P : HasW D I) (hk : 2 ≤ k) {x v : W} {m : Int} (kn : KnD h 1 x) :
    evSs (ctx D k) [.ite (.or (.not (.isi (.var 2) [.tuple])) (.or (.cmp .ne (.b1 .len [(.var 2)]) (.int 2)) (.not (.call I.is_within [(.sub (.var 2) (.int 1)), (.int 1), (.bin .sub (.var 1) (.int 1))])))) [.ret (.bl false)] [],
      .ite (.not (.call I.is_within [(.sub (.var 2) (.int 0)), (.int 0), (.bin .sub (.sub (.var 2) (.int 1)) (.int 1))])) [.ret (.bl false)] []]
      [some v, some (.int m), some x] h = if isNr x m = true then .nx [some v, some (.int m), some x] h else .rt (.bl false) h := by
  by_cases ht : ∃ l, x = .tup l
  · obtain ⟨l, rfl⟩ := ht
    obtain ⟨hl, hx⟩ := kn.tup
    by_cases h2 : l.length = 2
    · obtain ⟨a, b, rfl⟩ : ∃ a b, l = [a, b] := by
        match l, h2 with
        | [a, b], _ => exact ⟨a, b, rfl⟩
      have g0 : getItem (.tup [a, b]) (.int 0) h = .ok a h := rfl
      have g1 : getItem (.tup [a, b]) (.int 1) h = .ok b h := rfl
      have ln : b1op .len [.tup [a, b]] h = .ok (.int 2) h := rfl
      have r1 := is_within (k := k) P (by omega) (hx b (by simp)).kn 1 (m - 1)
      cases b1 : isWi b 1 (m - 1) with
      | false =>
        rw [b1] at r1
        have e : isNr (.tup [a, b]) m = false := by
          cases b <;> first
            | rfl
            | (simp only [isNr, b1]; rfl)
        simp [evSs, evS, evE, evT, den, denL, isK, ln, g1, r1, e]
      | true =>
        rw [b1] at r1
        obtain ⟨j, rfl, _, _⟩ := wi_int b1
        have r0 := is_within (k := k) P (by omega) (hx a (by simp)).kn 0 (j - 1)
        cases b0 : isWi a 0 (j - 1) with
        | false =>
          rw [b0] at r0
          simp [evSs, evS, evE, evT, den, denL, isK, ln, g0, g1, r0, r1, isNr, b0]
        | true =>
          rw [b0] at r0
          simp [evSs, evS, evE, evT, den, denL, isK, ln, g0, g1, r0, r1, isNr, b0, b1]
    · have hb : ((l.length : Int) == 2) = false := by rw [beq_eq_false_iff_ne]; omega
      have e : isNr (.tup l) m = false := by
        unfold isNr
        split
        · rename_i hh
          cases hh
          exact absurd rfl h2
        · rfl
      simp [evSs, evS, evE, evT, den, denL, isK, hb, e]
  · have nt : ∀ l, x ≠ .tup l := fun l e => ht ⟨l, e⟩
    have hi := not_tup (C := ctx D k) kn.kn nt
    have e : isNr x m = false := by cases x <;> first | rfl | exact absurd rfl (nt _)
    simp [evSs, evS, evE, evT, den, denL, hi, e]
def areNr (l : List W) (m : Int) : Bool := (l.all fun x => isNr x m) && (match prsOf l with
  | some ps => decide ps.Nodup
  | none => false)
theorem prs_all {m : Int} : ∀ {l : List W}, (l.all fun x => isNr x m) = true → ∃ ps, prsOf l = some ps ∧ l = ps.map prW
  | [], _ => ⟨[], rfl, rfl⟩
  | x :: l, h => by
    rw [List.all_cons, Bool.and_eq_true] at h
    obtain ⟨p, rfl⟩ := nr_pair h.1
    obtain ⟨ps, e1, e2⟩ := prs_all h.2
    refine ⟨p :: ps, ?_, by rw [e2]; rfl⟩
    show (match prsOf l with | some r => some ((p.1, p.2) :: r) | none => none) = _
    rw [e1]
theorem are_near (P : HasW D I) (J : HasJ D I) (hk : 3 ≤ k) {w : W} {l : List W} (ra : RowAt h w l) (kn : ∀ x ∈ l, KnD h 1 x) (hl : l.length ≤ 1000) {m : Int} :
    run D k I.are_near [w, .int m] h = .ok (.bl (areNr l m)) h := by
  obtain ⟨n, rfl, hr⟩ := run_at (ws := [w, .int m]) (h := h) (show 1 ≤ k by omega) J.are_near rfl
  rw [hr]
  obtain ⟨q, kq, kc, ki⟩ := ra.kd
  have r0 := is_listed (k := n) P (by omega) kq kc
  rw [ki] at r0
  obtain ⟨gs, sv, og⟩ := ra.src
  have s0 : evS (ctx D n) (.ite (.not (.call I.is_listed [(.var 0)])) [.ret (.bl false)] []) [some w, some (.int m), none] h = .nx [some w, some (.int m), none] h := by
    simp [evSs, evS, evE, evT, den, denL, r0]
  obtain ⟨f1, f2⟩ := for_chk (g := fun x => isNr x m) (mk := fun c => [some w, some (.int m), c]) (f := forTurn false [2] (evSs (ctx D n) [.ite (.or (.not (.isi (.var 2) [.tuple])) (.or (.cmp .ne (.b1 .len [(.var 2)]) (.int 2)) (.not (.call I.is_within [(.sub (.var 2) (.int 1)), (.int 1), (.bin .sub (.var 1) (.int 1))])))) [.ret (.bl false)] [],
      .ite (.not (.call I.is_within [(.sub (.var 2) (.int 0)), (.int 0), (.bin .sub (.sub (.var 2) (.int 1)) (.int 1))])) [.ret (.bl false)] []])) og l none fun x hx c => by
    unfold forTurn
    simp only [setT, setAll, Bool.false_eq_true, if_false]
    exact near_turn P (by omega) (kn x hx)
  have fr : evS (ctx D n) (.for false [2] .seq (.var 0) .non [.ite (.or (.not (.isi (.var 2) [.tuple])) (.or (.cmp .ne (.b1 .len [(.var 2)]) (.int 2)) (.not (.call I.is_within [(.sub (.var 2) (.int 1)), (.int 1), (.bin .sub (.var 1) (.int 1))])))) [.ret (.bl false)] [],
      .ite (.not (.call I.is_within [(.sub (.var 2) (.int 0)), (.int 0), (.bin .sub (.sub (.var 2) (.int 1)) (.int 1))])) [.ret (.bl false)] []]) [some w, some (.int m), none] h = forEnd none (forGo (forTurn false [2] (evSs (ctx D n) [.ite (.or (.not (.isi (.var 2) [.tuple])) (.or (.cmp .ne (.b1 .len [(.var 2)]) (.int 2)) (.not (.call I.is_within [(.sub (.var 2) (.int 1)), (.int 1), (.bin .sub (.var 1) (.int 1))])))) [.ret (.bl false)] [],
      .ite (.not (.call I.is_within [(.sub (.var 2) (.int 0)), (.int 0), (.bin .sub (.sub (.var 2) (.int 1)) (.int 1))])) [.ret (.bl false)] []])) gs l [some w, some (.int m), none] h) := by
    rw [evS]
    simp only [evE, den, mkV_v, var_some (show ([some w, some (.int m), none] : Env)[0]? = some (some w) from rfl), ofR_ok, sv, forRun]
  show back _ h (evSs _ [_, _, _] [some w, some (.int m), none] h) = _
  rw [evSs_nx s0]
  unfold areNr
  cases ha : (l.all fun x => isNr x m) with
  | false =>
    rw [f2 ha] at fr
    rw [evSs_rt fr]
    simp [unlock]
  | true =>
    obtain ⟨c', fe⟩ := f1 ha
    rw [fe] at fr
    obtain ⟨ps, e1, e2⟩ := prs_all ha
    subst e2
    have r2 := twice_prs (k := n) J (by omega) ra (by rw [List.length_map] at hl; exact hl)
    rw [evSs_nx fr, e1]
    simp [evSs, evS, evE, den, denL, r2, unlock]
theorem is_weather (P : HasW D I) (J : HasJ D I) (hk : 3 ≤ k) {w : W} (kn : KnD h 1 w) : run D k I.is_weather [w] h = .ok (.bl (isWe w)) h := by
  obtain ⟨n, rfl, hr⟩ := run_at (ws := [w]) (h := h) (show 1 ≤ k by omega) J.is_weather rfl
  rw [hr]
  have c1 : conV (ctx D n) I.g_MOST_WEATHER h = .ok (.int 4) h := con_ok J.weather
  by_cases ht : ∃ l, w = .tup l
  · obtain ⟨l, rfl⟩ := ht
    obtain ⟨hl, hx⟩ := kn.tup
    by_cases hn : l.length = 3
    · have cr : compRun (compTurn false [1] (fun _ h => R.ok true h) (fun s h => ((varV 1 s h).then fun x h1 => (((conV (ctx D n) I.g_MOST_WEATHER h1).then fun x h1 => R.ok [x] h1).then fun ws h2 => R.ok (.int 0 :: ws) h2).then fun ws h2 => R.ok (x :: ws) h2).then (run D n I.is_within)) [some (.tup l), none]) ⟨l, [], h, none⟩ h = .ok _ h :=
        comp_bl (g := fun x => isWi x 0 4) rfl (fun x hxl => by
          have e := is_within (k := n) P (by omega) (hx x hxl).kn 0 4
          simp [compTurn, setT, setAll, c1, e]) hl
      have sv : srcV .seq (.tup l) .non h = .ok ⟨l, [], h, none⟩ h := rfl
      simp [B.is_weather, evSs, evS, evE, evT, den, denL, start, isK, hn, sv, cr, blop_all, isWe]
    · have hb : ((l.length : Int) == 3) = false := by rw [beq_eq_false_iff_ne]; omega
      simp [B.is_weather, evSs, evS, evE, evT, den, denL, start, isK, hb, isWe, hn]
  · have nt : ∀ l, w ≠ .tup l := fun l e => ht ⟨l, e⟩
    have hi := not_tup (C := ctx D n) kn.kn nt
    have e : isWe w = false := by cases w <;> first | rfl | exact absurd rfl (nt _)
    simp [B.is_weather, evSs, evS, evE, evT, den, denL, start, hi, e]
theorem is_yard (P : HasW D I) (J : HasJ D I) (hk : 3 ≤ k) {w : W} (kn : KnD h 1 w) : run D k I.is_yard [w] h = .ok (.bl (isYa w)) h := by
  obtain ⟨n, rfl, hr⟩ := run_at (ws := [w]) (h := h) (show 1 ≤ k by omega) J.is_yard rfl
  rw [hr]
  have c1 : conV (ctx D n) I.g_MOST_LID h = .ok (.int 999) h := con_ok J.lid
  by_cases ht : ∃ l, w = .tup l
  · obtain ⟨l, rfl⟩ := ht
    obtain ⟨hl, hx⟩ := kn.tup
    by_cases h2 : l.length = 2
    · obtain ⟨a, b, rfl⟩ : ∃ a b, l = [a, b] := by
        match l, h2 with
        | [a, b], _ => exact ⟨a, b, rfl⟩
      have g0 : getItem (.tup [a, b]) (.int 0) h = .ok a h := rfl
      have g1 : getItem (.tup [a, b]) (.int 1) h = .ok b h := rfl
      have ln : b1op .len [.tup [a, b]] h = .ok (.int 2) h := rfl
      have r0 := is_within (k := n) P (by omega) (hx a (by simp)).kn 0 999
      cases b0 : isWi a 0 999 with
      | false =>
        rw [b0] at r0
        have e : isYa (.tup [a, b]) = false := by
          cases a <;> first
            | rfl
            | (simp only [isYa, b0]; rfl)
        simp [B.is_yard, evSs, evS, evE, evT, den, denL, start, isK, ln, c1, g0, r0, e]
      | true =>
        rw [b0] at r0
        obtain ⟨j, rfl, _, _⟩ := wi_int b0
        have r1 := is_within (k := n) P (by omega) (hx b (by simp)).kn 0 j
        simp [B.is_yard, evSs, evS, evE, evT, den, denL, start, isK, ln, c1, g0, g1, r0, r1, isYa, b0]
    · have hb : ((l.length : Int) == 2) = false := by rw [beq_eq_false_iff_ne]; omega
      have e : isYa (.tup l) = false := by
        unfold isYa
        split
        · rename_i hh
          cases hh
          exact absurd rfl h2
        · rfl
      simp [B.is_yard, evSs, evS, evE, evT, den, denL, start, isK, hb, e]
  · have nt : ∀ l, w ≠ .tup l := fun l e => ht ⟨l, e⟩
    have hi := not_tup (C := ctx D n) kn.kn nt
    have e : isYa w = false := by cases w <;> first | rfl | exact absurd rfl (nt _)
    simp [B.is_yard, evSs, evS, evE, evT, den, denL, start, hi, e]
end
end M2

namespace M2
structure HasF (D : Prog) (I : Ix) : Prop where
  ini : D.ini I.c_Forest = some I.Forest_init
  init : D.fns I.Forest_init = some (B.Forest_init I)
  keep : D.fns I.Forest_keep_rows = some (B.Forest_keep_rows I)
  eq : D.fns I.Forest_eq = some (B.Forest_eq I)
  mth : D.mth I.c_Forest I.m_keep_rows = some I.Forest_keep_rows
  eqm : D.eqm I.c_Forest = some I.Forest_eq
  na : ∀ f, f < 11 → D.na I.c_Forest f = true
  fzc : D.fzc I.c_Forest = true
  f0 : I.f_kinds = 0
  f1 : I.f_stands = 1
  f2 : I.f_near = 2
  f3 : I.f_gap = 3
  f4 : I.f_weather = 4
  f5 : I.f_yard = 5
  f6 : I.f_due = 6
  f7 : I.f_oldest = 7
  f8 : I.f_rows = 8
  f9 : I.f_beside = 9
  fa : I.f_carriers = 10
theorem getFld_ok {na : Nat → Nat → Bool} {r c f : Nat} {fs : List (Nat × W)} {w : W} {h : Hm} (e : h[r]? = some (.ins c fs)) (n : na c f = true) (g : getF f fs = some w) : getFld na (.ref r) f h = .ok w h := by
  unfold getFld
  simp only [e, n, if_true, g]
theorem setFld_ok {na : Nat → Nat → Bool} {r c f : Nat} {fs : List (Nat × W)} {w : W} {h : Hm} (e : h[r]? = some (.ins c fs)) (n : na c f = true) (hl : fs.length < 1000) : setFld na (.ref r) f w h = some (h.set r (.ins c (putF f w fs))) := by
  unfold setFld
  simp only [e, n, hl, and_self, if_true]
def fo8 (f : Fo) (o : Int) : List (Nat × W) := [(0, .tup (f.kinds.map Kin.w)), (1, .tup (f.stands.map Sta.w)), (2, .tup ((sortPr f.near).map prW)), (3, .int f.gap), (4, f.weW), (5, f.yaW), (6, .int f.due), (7, .int o)]
/-- distinct keys: all entries, in their order -/
theorem putD_new {k v : W} : ∀ {acc : List (W × W)}, (∀ p ∈ acc, eqW p.1 k = false) → putD k v acc = acc ++ [(k, v)]
  | [], _ => rfl
  | (a, u) :: acc, h => by
    rw [putD, h (a, u) (by simp), if_neg Bool.false_ne_true, putD_new fun p hp => h p (by simp [hp])]
    rfl
theorem putAll_nd {A : Type} {key : A → List Nat} {val : A → W} : ∀ (l : List A) (acc : List A), ((acc ++ l).map key).Nodup → putAll (l.map fun x => (W.str (key x), val x)) (acc.map fun x => (W.str (key x), val x)) = (acc ++ l).map fun x => (W.str (key x), val x)
  | [], acc, _ => by simp [putAll]
  | x :: l, acc, nd => by
    rw [List.map_cons, putAll]
    have nn : ∀ p ∈ acc.map (fun x => (W.str (key x), val x)), eqW p.1 (.str (key x)) = false := fun p hp => by
      obtain ⟨y, hy, rfl⟩ := List.mem_map.mp hp
      rw [str_inj]
      refine decide_eq_false fun e => ?_
      rw [List.map_append, List.nodup_append] at nd
      exact nd.2.2 (key y) (List.mem_map.mpr ⟨y, hy, rfl⟩) (key x) (by simp) e
    rw [putD_new nn]
    have e : acc.map (fun x => (W.str (key x), val x)) ++ [(W.str (key x), val x)] = (acc ++ [x]).map fun x => (W.str (key x), val x) := by simp
    rw [e, putAll_nd l (acc ++ [x]) (by rw [List.append_assoc]; exact nd), List.append_assoc]
    rfl
/-- a dict comprehension of values that are read -/
theorem dc_val {A : Type} {f : W → Hm → R (Option (W × W))} {gs : List (Nat × List W)} {h h0 : Hm} {wb kb vb : A → W} (ok : okG gs h = true) : ∀ (its : List A) (acc : List (W × W)), (∀ x ∈ its, f (wb x) h = .ok (some (kb x, vb x)) h) → compGo f gs (its.map wb) acc h = .ok (acc ++ its.map fun x => (kb x, vb x)) h
  | [], acc, _ => by rw [List.map_nil, compGo, ok, if_pos rfl]; simp
  | x :: its, acc, hf => by
    rw [List.map_cons, compGo, ok, if_pos rfl, hf x (by simp)]
    simp only
    rw [dc_val (h0 := h0) ok its _ fun y hy => hf y (by simp [hy])]
    simp
theorem near_len {m : Int} {l : List (Int × Int)} (h : PrOk m l) (hm : m ≤ 4) : l.length ≤ 16 := by
  have := pigeon (m := [(0, 0), (0, 1), (0, 2), (0, 3), (1, 0), (1, 1), (1, 2), (1, 3), (2, 0), (2, 1), (2, 2), (2, 3), (3, 0), (3, 1), (3, 2), (3, 3)]) h.2 fun q hq => by
    obtain ⟨h1, h2, h3⟩ := h.1 q hq
    obtain ⟨x, y⟩ := q
    simp only at h1 h2 h3
    have hx : x = 0 ∨ x = 1 ∨ x = 2 ∨ x = 3 := by omega
    have hy : y = 0 ∨ y = 1 ∨ y = 2 ∨ y = 3 := by omega
    rcases hx with rfl | rfl | rfl | rfl <;> rcases hy with rfl | rfl | rfl | rfl <;> simp
  simpa using this

theorem getD_find {A : Type} {key : A → List Nat} {val : A → W} {k : List Nat} : ∀ l : List A, getD (.str k) (l.map fun x => (W.str (key x), val x)) = (l.find? fun x => key x == k).map val
  | [] => rfl
  | x :: l => by
    rw [List.map_cons, getD, str_inj, List.find?_cons]
    cases e : key x == k with
    | true => rw [if_pos (by simpa using e)]; rfl
    | false => rw [if_neg (by simpa using e)]; exact getD_find l
/-- a comprehension that takes some, the heap as it is -/
theorem comp_filt {f : W → Hm → R (Option W)} {gs : List (Nat × List W)} {h : Hm} (ok : okG gs h = true) {A : Type} {wb : A → W} {g : A → Bool} : ∀ (its : List A) (acc : List W), (∀ x ∈ its, f (wb x) h = .ok (if g x = true then some (wb x) else none) h) → compGo f gs (its.map wb) acc h = .ok (acc ++ (its.filter g).map wb) h
  | [], acc, _ => by rw [List.map_nil, compGo, ok, if_pos rfl]; simp
  | x :: its, acc, hf => by
    rw [List.map_cons, compGo, ok, if_pos rfl, hf x (by simp)]
    cases e : g x with
    | true =>
      simp only [if_true]
      rw [comp_filt ok its _ fun y hy => hf y (by simp [hy]), List.filter_cons_of_pos e]
      simp
    | false =>
      simp only [Bool.false_eq_true, if_false]
      rw [comp_filt ok its _ fun y hy => hf y (by simp [hy]), List.filter_cons_of_neg (by simp [e])]
/-- a comprehension that makes an empty list of each -/
theorem comp_nils {f : W → Hm → R (Option W)} (hf : ∀ x h, f x h = .ok (some (.ref h.length)) (h ++ [.lst []])) : ∀ (its : List W) (acc : List W) (h : Hm), compGo f [] its acc h = .ok (acc ++ (List.range' h.length its.length).map .ref) (h ++ List.replicate its.length (.lst []))
  | [], acc, h => by rw [compGo]; simp [okG]
  | x :: its, acc, h => by
    have ok : okG [] h = true := rfl
    rw [compGo, ok, if_pos rfl, hf x h]
    simp only
    rw [comp_nils hf its]
    rw [List.length_append, List.length_singleton, List.length_cons, List.range'_succ, List.map_cons, List.replicate_succ, List.append_assoc, List.append_assoc]
    rfl
/-! ### what a forest keeps -/
def kin0 : Kin := ⟨[], [], [], 0, 0, false⟩
def kindAt (ks : List Kin) (nm : List Nat) : Kin := (ks.find? fun x => x.name == nm).getD kin0
def Fo.rows (f : Fo) : List Kin := f.stands.map fun s => kindAt f.kinds s.kind
def push (i j : Int) (bl : List (List Int)) : List (List Int) := bl.set i.toNat (bl.getD i.toNat [] ++ [j])
def pushAll : List (Int × Int) → List (List Int) → List (List Int)
  | [], bl => bl
  | (i, j) :: ps, bl => pushAll ps (push j i (push i j bl))
def Fo.bes (f : Fo) : List (List Int) := pushAll (sortPr f.near) (List.replicate f.stands.length [])
def Fo.mates (f : Fo) (i : Nat) (kn : Kin) : List Int := (f.bes.getD i []).filter fun j => (f.rows.getD j.toNat kin0).name == kn.name
def Fo.car (f : Fo) (i : Nat) (kn : Kin) : Bool := decide (0 < f.we.2.2) && (kn.firm && decide (0 < (f.mates i kn).length))
def carGo (f : Fo) : Nat → List Kin → List Bool
  | _, [] => []
  | t, kn :: ks => f.car t kn :: carGo f (t + 1) ks
def Fo.cars (f : Fo) : List Bool := carGo f 0 f.rows
def besW (bl : List (List Int)) : W := .kl (bl.map fun l => .kl (l.map .int))
def foFs (f : Fo) (o : Int) : List (Nat × W) := fo8 f o ++ [(8, .kl (f.rows.map Kin.w)), (9, besW f.bes), (10, .kl (f.cars.map .bl))]
def forestO (I : Ix) (f : Fo) (o : Int) : O := .ins I.c_Forest (foFs f o)
theorem kindAt_mem {ks : List Kin} {nm : List Nat} (h : nm ∈ ks.map Kin.name) : kindAt ks nm ∈ ks ∧ (kindAt ks nm).name = nm ∧ ks.find? (fun x => x.name == nm) = some (kindAt ks nm) := by
  unfold kindAt
  cases e : ks.find? fun x => x.name == nm with
  | none =>
    obtain ⟨x, hx, rfl⟩ := List.mem_map.mp h
    have := List.find?_eq_none.mp e x hx
    simp at this
  | some y => exact ⟨List.mem_of_find?_eq_some e, by have := List.find?_some e; simpa using this, rfl⟩
/-- lists of numbers below m, none longer than n -/
def BlOk (m : Int) (n : Nat) (bl : List (List Int)) : Prop := ∀ l ∈ bl, (∀ i ∈ l, 0 ≤ i ∧ i < m) ∧ l.length ≤ n
theorem push_len {i j : Int} {bl : List (List Int)} : (push i j bl).length = bl.length := by unfold push; rw [List.length_set]
theorem push_ok {i j m : Int} {n : Nat} {bl : List (List Int)} (h : BlOk m n bl) (hj : 0 ≤ j ∧ j < m) : BlOk m (n + 1) (push i j bl) := fun l hl => by
  rcases List.mem_or_eq_of_mem_set hl with hl | rfl
  · obtain ⟨h1, h2⟩ := h l hl
    exact ⟨h1, by omega⟩
  · have : BlOk m n [bl.getD i.toNat []] := fun l hl => by
      rw [List.mem_singleton] at hl
      subst hl
      rw [List.getD_eq_getElem?_getD]
      cases e : bl[i.toNat]? with
      | none => exact ⟨(fun _ z => nomatch z), Nat.zero_le _⟩
      | some l => exact h l (List.mem_of_getElem? e)
    obtain ⟨h1, h2⟩ := this _ (List.mem_singleton.mpr rfl)
    refine ⟨fun q hq => ?_, by rw [List.length_append, List.length_singleton]; omega⟩
    rcases List.mem_append.mp hq with hq | hq
    · exact h1 q hq
    · rw [List.mem_singleton.mp hq]
      exact hj
theorem pushAll_ok {m : Int} : ∀ (ps : List (Int × Int)) (n : Nat) (bl : List (List Int)), (∀ q ∈ ps, 0 ≤ q.1 ∧ q.1 < q.2 ∧ q.2 < m) → BlOk m n bl → BlOk m (n + 2 * ps.length) (pushAll ps bl) ∧ (pushAll ps bl).length = bl.length
  | [], n, bl, _, h => ⟨h, rfl⟩
  | (i, j) :: ps, n, bl, hq, h => by
    obtain ⟨h1, h2, h3⟩ := hq (i, j) (by simp)
    simp only at h1 h2 h3
    have b2 := push_ok (i := j) (push_ok (i := i) h (j := j) ⟨by omega, h3⟩) (j := i) ⟨h1, by omega⟩
    obtain ⟨e1, e2⟩ := pushAll_ok ps (n + 1 + 1) _ (fun q hq' => hq q (by simp [hq'])) b2
    refine ⟨?_, by rw [pushAll, e2, push_len, push_len]⟩
    rw [pushAll, List.length_cons, show n + 2 * (ps.length + 1) = n + 1 + 1 + 2 * ps.length by omega]
    exact e1
theorem sort_ok {m : Int} {l : List (Int × Int)} (h : PrOk m l) : PrOk m (sortPr l) := ⟨fun q hq => h.1 q ((sortPr_perm l).mem_iff.mp hq), (sortPr_perm l).nodup_iff.mpr h.2⟩
theorem Fo.Ok.bes {f : Fo} {o : Int} (ok : Fo.Ok o f) : BlOk f.stands.length 40 f.bes ∧ f.bes.length = f.stands.length := by
  have nok := sort_ok ok.near
  have nl := near_len nok (by have := ok.s4; omega)
  obtain ⟨h1, h2⟩ := pushAll_ok (sortPr f.near) 0 (List.replicate f.stands.length []) nok.1 fun l hl => by
    rw [List.eq_of_mem_replicate hl]
    exact ⟨(fun _ z => nomatch z), Nat.zero_le _⟩
  refine ⟨fun l hl => ⟨(h1 l hl).1, ?_⟩, by rw [Fo.bes, h2, List.length_replicate]⟩
  have := (h1 l hl).2
  omega
theorem carGo_len (f : Fo) : ∀ (t : Nat) (l : List Kin), (carGo f t l).length = l.length
  | _, [] => rfl
  | t, x :: l => by rw [carGo, List.length_cons, carGo_len f (t + 1) l]; rfl
/-! ### the heap while they are made -/
theorem hat {h t : Hm} {i : Nat} : (h ++ t)[h.length + i]? = t[i]? := by rw [List.getElem?_append_right (by omega)]; congr 1; omega
theorem hset {h t : Hm} {i : Nat} {o : O} : (h ++ t).set (h.length + i) o = h ++ t.set i o := by rw [List.set_append_right _ _ (by omega)]; congr 2; omega
def inL (l : List Int) : O := .lst (l.map .int)
def TK (c : Nat) (fs : List (Nat × W)) (dl : List (W × W)) (bl : List (List Int)) (rs : List W) (rest : Hm) : Hm := .ins c fs :: .dct dl :: (bl.map inL ++ .lst rs :: rest)
section
variable {c : Nat} {fs : List (Nat × W)} {dl : List (W × W)} {bl : List (List Int)} {rs : List W} {rest : Hm}
theorem TK_bl {i : Nat} {l : List Int} (e : bl[i]? = some l) : (TK c fs dl bl rs rest)[i + 2]? = some (inL l) := by
  have hi := (List.getElem?_eq_some_iff.mp e).1
  show (bl.map inL ++ .lst rs :: rest)[i]? = _
  rw [List.getElem?_append_left (by rw [List.length_map]; exact hi), List.getElem?_map, e]
  rfl
theorem TK_rs : (TK c fs dl bl rs rest)[bl.length + 2]? = some (.lst rs) := by
  show (bl.map inL ++ .lst rs :: rest)[bl.length]? = _
  rw [List.getElem?_append_right (by rw [List.length_map]; omega), List.length_map, Nat.sub_self]
  rfl
theorem TK_rest {i : Nat} : (TK c fs dl bl rs rest)[bl.length + 3 + i]? = rest[i]? := by
  rw [show bl.length + 3 + i = (bl.length + 1 + i) + 2 by omega]
  show (bl.map inL ++ .lst rs :: rest)[bl.length + 1 + i]? = _
  rw [List.getElem?_append_right (by rw [List.length_map]; omega), List.length_map, show bl.length + 1 + i - bl.length = i + 1 by omega]
  rfl
theorem TK_sbl {i : Nat} {l : List Int} (hi : i < bl.length) : (TK c fs dl bl rs rest).set (i + 2) (inL l) = TK c fs dl (bl.set i l) rs rest := by
  show O.ins c fs :: O.dct dl :: (bl.map inL ++ .lst rs :: rest).set i (inL l) = _
  rw [List.set_append_left _ _ (by rw [List.length_map]; exact hi), ← List.map_set]
  rfl
theorem TK_srest {i : Nat} {o : O} : (TK c fs dl bl rs rest).set (bl.length + 3 + i) o = TK c fs dl bl rs (rest.set i o) := by
  rw [show bl.length + 3 + i = (bl.length + 1 + i) + 2 by omega]
  show O.ins c fs :: O.dct dl :: (bl.map inL ++ .lst rs :: rest).set (bl.length + 1 + i) o = _
  rw [List.set_append_right _ _ (by rw [List.length_map]; omega), List.length_map, show bl.length + 1 + i - bl.length = i + 1 by omega]
  rfl
end
end M2

namespace M2
theorem numb_at : ∀ (l : List W) (k : Nat) (x : W) (rest : List W), numbered k l = x :: rest → ∃ y l', l = y :: l' ∧ x = .tup [.int k, y] ∧ rest = numbered (k + 1) l'
  | [], _, _, _, h => by cases h
  | y :: l, k, x, rest, h => by
    rw [numbered] at h
    injection h with h1 h2
    exact ⟨y, l, rfl, h1.symm, h2.symm⟩
def besRefs (n m : Nat) : List W := (List.range' (n + 2) m).map .ref
theorem besRefs_len (n m : Nat) : (besRefs n m).length = m := by simp [besRefs]
theorem besRefs_get {n m i : Nat} (hi : i < m) : (besRefs n m)[i]? = some (.ref (n + (i + 2))) := by
  unfold besRefs
  rw [List.getElem?_map, List.getElem?_range' (by omega)]
  simp only [Option.map_some]
  congr 2
  omega
def fs9 (f : Fo) (o : Int) (n : Nat) : List (Nat × W) := fo8 f o ++ [(8, .kl (f.rows.map Kin.w)), (9, .ref (n + (f.stands.length + 2)))]
def fs10 (f : Fo) (o : Int) (n : Nat) : List (Nat × W) := fo8 f o ++ [(8, .kl (f.rows.map Kin.w)), (9, .ref (n + (f.stands.length + 2))), (10, .ref (n + (f.stands.length + 3)))]
def dlF (f : Fo) : List (W × W) := f.kinds.map fun x => (W.str x.name, x.w)
section
variable {D : Prog} {I : Ix} {k : Nat} {h : Hm}
theorem near_push (F : HasF D I) {fs : List (Nat × W)} {dl : List (W × W)} {bl : List (List Int)} {rest : Hm} {m n : Nat} (g9 : getF 9 fs = some (.ref (h.length + (bl.length + 2)))) (b : BlOk m n bl) (lb : bl.length = m) (hn : n ≤ 900) {i j : Int} (hi : 0 ≤ i ∧ i < m)
    {s : Env} (s0 : s[0]? = some (some (.ref h.length))) {va vb : Nat} (sa : s[va]? = some (some (.int i))) (sb : s[vb]? = some (some (.int j))) :
    evS (ctx D k) (.exp (.met .append (.sub (.fld (.var 0) I.f_beside) (.var va)) [(.var vb)])) s (h ++ TK I.c_Forest fs dl bl (besRefs h.length m) rest) = .nx s (h ++ TK I.c_Forest fs dl (push i j bl) (besRefs h.length m) rest) := by
  obtain ⟨q, rfl⟩ := Int.eq_ofNat_of_zero_le hi.1
  have hq : q < bl.length := by omega
  have gf : getFld D.na (.ref h.length) 9 (h ++ TK I.c_Forest fs dl bl (besRefs h.length m) rest) = .ok (.ref (h.length + (bl.length + 2))) _ := getFld_ok (c := I.c_Forest) (fs := fs) (hat (i := 0)) (F.na 9 (by decide)) g9
  have gi : getItem (.ref (h.length + (bl.length + 2))) (.int q) (h ++ TK I.c_Forest fs dl bl (besRefs h.length m) rest) = .ok (.ref (h.length + (q + 2))) _ :=
    g_ref (l := besRefs h.length m) (by rw [hat]; exact TK_rs) (j := q) (place_nn (by omega) (by rw [besRefs_len]; omega)) (besRefs_get (by omega))
  have hg : bl[q]? = some (bl.getD q []) := by rw [List.getD_eq_getElem?_getD, List.getElem?_eq_getElem hq]; rfl
  have hl := (b _ (List.mem_of_getElem? hg)).2
  have at_ : (h ++ TK I.c_Forest fs dl bl (besRefs h.length m) rest)[h.length + (q + 2)]? = some (.lst ((bl.getD q []).map .int)) := by rw [hat]; exact TK_bl hg
  have ap := m_append (w := .int j) at_ (by rw [List.length_map]; omega)
  have e : (h ++ TK I.c_Forest fs dl bl (besRefs h.length m) rest).set (h.length + (q + 2)) (.lst ((bl.getD q []).map W.int ++ [.int j])) = h ++ TK I.c_Forest fs dl (push q j bl) (besRefs h.length m) rest := by
    rw [hset, show O.lst ((bl.getD q []).map W.int ++ [.int j]) = inL (bl.getD q [] ++ [j]) by simp [inL], TK_sbl hq]
    rfl
  rw [e] at ap
  simp [evS, evE, den, denL, F.f9, var_some s0, var_some sa, var_some sb, gf, gi, recv_app at_, ap]
theorem keep_rows (F : HasF D I) (hk : 1 ≤ k) {f : Fo} {o : Int} (ok : Fo.Ok o f) :
    run D k I.Forest_keep_rows [.ref h.length] (h ++ [.ins I.c_Forest (fo8 f o)]) = .ok .non (h ++ TK I.c_Forest (fs10 f o h.length) (dlF f) f.bes (besRefs h.length f.stands.length) [.lst (f.cars.map .bl)]) := by
  obtain ⟨n, rfl, hrun⟩ := run_at (ws := [.ref h.length]) (h := h ++ [.ins I.c_Forest (fo8 f o)]) hk F.keep rfl
  have na := F.na
  let r := h.length
  let c := I.c_Forest
  let m := f.stands.length
  have s4 := ok.s4
  have k3 := ok.k3
  have gfl : ∀ (fs : List (Nat × W)) (t : Hm) (j : Nat) (w : W), j < 11 → getF j fs = some w → getFld D.na (.ref h.length) j (h ++ .ins c fs :: t) = .ok w (h ++ .ins c fs :: t) := fun fs t j w hj g => getFld_ok (c := c) (fs := fs) (hat (i := 0)) (na j hj) g
  have sfl : ∀ (fs : List (Nat × W)) (t : Hm) (j : Nat) (w : W), j < 11 → fs.length < 1000 → setFld D.na (.ref h.length) j w (h ++ .ins c fs :: t) = some (h ++ .ins c (putF j w fs) :: t) := fun fs t j w hj hl => by
    rw [setFld_ok (c := c) (fs := fs) (hat (i := 0)) (na j hj) hl]
    congr 1
    exact hset (i := 0)
  -- names
  let h0 : Hm := h ++ [.ins c (fo8 f o)]
  let dl := dlF f
  let h1 : Hm := h ++ [.ins c (fo8 f o), .dct dl]
  have l0 : h0.length = h.length + 1 := by simp [h0]
  have e01 : h0 ++ [O.dct dl] = h1 := by simp [h0, h1]
  have s1 : evS (ctx D n) (.asg (.var 2) (.dc [1] false [1] (.sub (.var 1) (.int 0)) (.var 1) .seq (.fld (.var 0) I.f_kinds) .non (.bl true))) [some (.ref r), none, none, none, none, none, none, none] h0 = .nx [some (.ref r), none, some (.ref (r + 1)), none, none, none, none, none] h1 := by
    have kd : getFld D.na (.ref r) 0 h0 = .ok (.tup (f.kinds.map Kin.w)) h0 := gfl _ [] 0 _ (by decide) rfl
    have cr : compRun (dcTurn false [1] (fun _ h => R.ok true h) (fun s h => (varV 1 s h).then fun x h1 => getItem x (.int 0) h1) (varV 1) [some (.ref r), none, none, none, none, none, none, none]) ⟨f.kinds.map Kin.w, [], h0, none⟩ h0 = .ok dl h0 := by
      refine compRun_of (h0 := h0) ?_ (by simp only [dl, dlF, List.length_map]; omega)
      have := dc_val (h0 := h0) (f := dcTurn false [1] (fun _ h => R.ok true h) (fun s h => (varV 1 s h).then fun x h1 => getItem x (.int 0) h1) (varV 1) [some (.ref r), none, none, none, none, none, none, none]) (gs := []) (h := h0) (wb := Kin.w) (kb := fun x => W.str x.name) (vb := Kin.w) rfl f.kinds [] (fun x _ => by
        have g : getItem x.w (.int 0) h0 = .ok (.str x.name) h0 := get0 _ _
        have kk : (W.str x.name).key = true := rfl
        simp [dcTurn, setT, setAll, g, kk])
      exact this
    have sv : srcV .seq (.tup (f.kinds.map Kin.w)) .non h0 = .ok ⟨f.kinds.map Kin.w, [], h0, none⟩ h0 := rfl
    have nd : newD dl h0 = .ok (.ref (r + 1)) h1 := by
      unfold newD
      rw [if_pos (by simp [dl, dlF, List.all_map, Function.comp_def, W.plain])]
      have e := putAll_nd (key := Kin.name) (val := Kin.w) f.kinds [] (by simpa using ok.knd)
      simp only [List.map_nil, List.nil_append] at e
      show alloc (.dct (putAll dl [])) h0 = _
      rw [show putAll dl [] = dl from e, alloc_ok, l0, e01]
    simp [evS, evE, den, denL, F.f0, kd, sv, cr, nd, M2.asg]
  -- rows
  let fs8 : List (Nat × W) := fo8 f o ++ [(8, .kl (f.rows.map Kin.w))]
  let h2 : Hm := h ++ [.ins c fs8, .dct dl]
  have dct1 : ∀ fs, (h ++ [O.ins c fs, .dct dl])[r + 1]? = some (.dct dl) := fun fs => hat (i := 1)
  have s2 : evS (ctx D n) (.asg (.fld (.var 0) I.f_rows) (.lc [7] false [7] (.sub (.var 2) (.sub (.var 7) (.int 1))) .seq (.fld (.var 0) I.f_stands) .non (.bl true))) [some (.ref r), none, some (.ref (r + 1)), none, none, none, none, none] h1 =
      .nx [some (.ref r), none, some (.ref (r + 1)), none, none, none, none, none] h2 := by
    have sd1 : getFld D.na (.ref r) 1 h1 = .ok (.tup (f.stands.map Sta.w)) h1 := gfl _ _ 1 _ (by decide) rfl
    have sv : srcV .seq (.tup (f.stands.map Sta.w)) .non h1 = .ok ⟨f.stands.map Sta.w, [], h1, none⟩ h1 := rfl
    have crr : compRun (compTurn false [7] (fun _ h => R.ok true h) (fun s h => (varV 2 s h).then fun x h1 => ((varV 7 s h1).then fun x h1 => getItem x (.int 1) h1).then fun y h2 => getItem x y h2) [some (.ref r), none, some (.ref (r + 1)), none, none, none, none, none]) ⟨f.stands.map Sta.w, [], h1, none⟩ h1 = .ok ((f.stands.map Sta.w).map fun w => match w with | .tup [_, .str kd, _] => (kindAt f.kinds kd).w | w => w) h1 :=
      comp_val rfl (fun x hx => by
        obtain ⟨s, hs, rfl⟩ := List.mem_map.mp hx
        have g1 : getItem s.w (.int 1) h1 = .ok (.str s.kind) h1 := rfl
        have g2 : getItem (.ref (r + 1)) (.str s.kind) h1 = .ok (kindAt f.kinds s.kind).w h1 := by
          unfold getItem
          simp only [h1, dct1, W.plain, if_true]
          rw [show getD (.str s.kind) dl = _ from getD_find f.kinds, (kindAt_mem (ok.skind s hs)).2.2]
          rfl
        have em : (match s.w with | .tup [_, .str kd, _] => (kindAt f.kinds kd).w | w => w) = (kindAt f.kinds s.kind).w := rfl
        rw [em]
        simp [compTurn, setT, setAll, g1, g2]) (by rw [List.length_map]; omega)
    have er : ((f.stands.map Sta.w).map fun w => match w with | .tup [_, .str kd, _] => (kindAt f.kinds kd).w | w => w) = f.rows.map Kin.w := by rw [List.map_map, Fo.rows, List.map_map]; rfl
    rw [er] at crr
    have st : setFld D.na (.ref r) 8 (.kl (f.rows.map Kin.w)) h1 = some h2 := sfl (fo8 f o) [.dct dl] 8 _ (by decide) (by simp [fo8])
    simp [evS, evE, den, denL, F.f1, F.f8, sd1, sv, crr, M2.asg, st, nxO]
  -- neighbours' lists
  let bs := besRefs h.length m
  let T9 := fun bl => TK c (fs9 f o h.length) dl bl bs []
  have l2 : h2.length = h.length + 2 := by simp [h2]
  have s3 : evS (ctx D n) (.asg (.fld (.var 0) I.f_beside) (.new (.lc [7] false [7] (.new (.lst [])) .seq (.fld (.var 0) I.f_stands) .non (.bl true)))) [some (.ref r), none, some (.ref (r + 1)), none, none, none, none, none] h2 =
      .nx [some (.ref r), none, some (.ref (r + 1)), none, none, none, none, none] (h ++ T9 (List.replicate m [])) := by
    have sd2 : getFld D.na (.ref r) 1 h2 = .ok (.tup (f.stands.map Sta.w)) h2 := gfl _ _ 1 _ (by decide) rfl
    have sv : srcV .seq (.tup (f.stands.map Sta.w)) .non h2 = .ok ⟨f.stands.map Sta.w, [], h2, none⟩ h2 := rfl
    have cr : compRun (compTurn false [7] (fun _ h => R.ok true h) (fun s h => ((short [] h).then klV).then thaw) [some (.ref r), none, some (.ref (r + 1)), none, none, none, none, none]) ⟨f.stands.map Sta.w, [], h2, none⟩ h2 = .ok bs (h2 ++ List.replicate m (O.lst [])) := by
      have e := comp_nils (f := compTurn false [7] (fun _ h => R.ok true h) (fun s h => ((short [] h).then klV).then thaw) [some (.ref r), none, some (.ref (r + 1)), none, none, none, none, none]) (fun x h => by simp [compTurn, setT, setAll, short_nil]) (f.stands.map Sta.w) [] h2
      rw [List.length_map, List.nil_append, l2] at e
      exact compRun_of e (by rw [besRefs_len]; simp only [m]; omega)
    have e2 : h2 ++ (List.replicate m (O.lst []) ++ [O.lst bs]) = h ++ .ins c fs8 :: .dct dl :: ((List.replicate m []).map inL ++ .lst bs :: []) := by
      simp [h2, inL]
    have st : setFld D.na (.ref r) 9 (.ref (h2 ++ List.replicate m (O.lst [])).length) (h2 ++ (List.replicate m (O.lst []) ++ [O.lst bs])) = some (h ++ T9 (List.replicate m [])) := by
      rw [e2, sfl fs8 _ 9 _ (by decide) (by simp [fs8, fo8])]
      have : (h2 ++ List.replicate m (O.lst [])).length = h.length + (f.stands.length + 2) := by
        rw [List.length_append, l2, List.length_replicate]
        simp only [m]
        omega
      rw [this]
      rfl
    simp only [List.length_append, List.length_replicate] at st
    simp [evS, evE, den, denL, F.f1, F.f9, sd2, sv, cr, M2.asg, st, nxO, newD']
  -- the pairs
  have nok : PrOk (m : Int) (sortPr f.near) := sort_ok ok.near
  have nlen := near_len nok (by simp only [m]; omega)
  let J4 : List W → Env → Hm → Prop := fun rest s h' => ∃ (ps : List (Int × Int)) (bl : List (List Int)) (t : Nat) (x3 x4 : Option W), rest = ps.map prW ∧ (∀ q ∈ ps, q ∈ sortPr f.near) ∧ t + 2 * ps.length = 2 * (sortPr f.near).length ∧ s = [some (.ref r), none, some (.ref (r + 1)), x3, x4, none, none, none] ∧ h' = h ++ T9 bl ∧ BlOk m t bl ∧ bl.length = m ∧ pushAll ps bl = f.bes
  obtain ⟨s', h4, e4, ps, bl, t4, x3, x4, ep, _, et, rfl, rfl, _, _, eb⟩ := for_go (gs := []) (f := forTurn true [3, 4] (evSs (ctx D n) [.exp (.met .append (.sub (.fld (.var 0) I.f_beside) (.var 3)) [(.var 4)]),
      .exp (.met .append (.sub (.fld (.var 0) I.f_beside) (.var 4)) [(.var 3)])])) J4 (fun _ _ _ _ => rfl)
    (fun x l s h' j => by
      obtain ⟨ps, bl, t, x3, x4, ep, hm, et, rfl, rfl, Bs, lb, ea⟩ := j
      cases ps with
      | nil => cases ep
      | cons q ps =>
        rw [List.map_cons] at ep
        injection ep with e1 e2
        subst e1 e2
        obtain ⟨i, j⟩ := q
        obtain ⟨q1, q2, q3⟩ := nok.1 (i, j) (hm _ (by simp))
        simp only at q1 q2 q3
        simp only [List.length_cons] at et
        have g9 : ∀ bl : List (List Int), bl.length = m → getF 9 (fs9 f o h.length) = some (.ref (h.length + (bl.length + 2))) := fun bl lb => by rw [lb]; rfl
        have e5 := near_push (k := n) (dl := dl) (rest := []) (h := h) F (g9 bl lb) Bs lb (by omega) (i := i) (j := j) ⟨q1, by omega⟩ (s := [some (.ref r), none, some (.ref (r + 1)), some (.int i), some (.int j), none, none, none]) rfl (va := 3) (vb := 4) rfl rfl
        have B5 := push_ok (i := i) Bs (j := j) ⟨by omega, q3⟩
        have lb5 : (push i j bl).length = m := by rw [push_len, lb]
        have e6 := near_push (k := n) (dl := dl) (rest := []) (h := h) F (g9 _ lb5) B5 lb5 (by omega) (i := j) (j := i) ⟨by omega, q3⟩ (s := [some (.ref r), none, some (.ref (r + 1)), some (.int i), some (.int j), none, none, none]) rfl (va := 4) (vb := 3) rfl rfl
        refine ⟨_, _, ?_, ps, push j i (push i j bl), t + 1 + 1, some (.int i), some (.int j), rfl, fun z hz => hm z (by simp [hz]), by omega, rfl, rfl, push_ok B5 ⟨q1, by omega⟩, by rw [push_len, lb5], ea⟩
        unfold forTurn
        simp only [setT, prW, if_true, setAll]
        have st : (([some (.ref r), none, some (.ref (r + 1)), x3, x4, none, none, none] : Env).set 3 (some (.int i))).set 4 (some (.int j)) = [some (.ref r), none, some (.ref (r + 1)), some (.int i), some (.int j), none, none, none] := rfl
        rw [st, evSs_nx e5, evSs_nx e6, evSs_nil])
    ((sortPr f.near).map prW) [some (.ref r), none, some (.ref (r + 1)), none, none, none, none, none] (h ++ T9 (List.replicate m [])) ⟨sortPr f.near, List.replicate m [], 0, none, none, rfl, fun _ z => z, by omega, rfl, rfl, (fun l hl => by
      rw [List.eq_of_mem_replicate hl]
      exact ⟨(fun _ z => nomatch z), Nat.le_refl _⟩), by simp, rfl⟩
  have : ps = [] := by cases ps with
    | nil => rfl
    | cons _ _ => cases ep
  subst this
  have eb : bl = f.bes := eb
  subst eb
  have s4 : evS (ctx D n) (.for true [3, 4] .seq (.fld (.var 0) I.f_near) .non [.exp (.met .append (.sub (.fld (.var 0) I.f_beside) (.var 3)) [(.var 4)]),
      .exp (.met .append (.sub (.fld (.var 0) I.f_beside) (.var 4)) [(.var 3)])]) [some (.ref r), none, some (.ref (r + 1)), none, none, none, none, none] (h ++ T9 (List.replicate m [])) = .nx [some (.ref r), none, some (.ref (r + 1)), x3, x4, none, none, none] (h ++ T9 f.bes) := by
    have nd : getFld D.na (.ref r) 2 (h ++ T9 (List.replicate m [])) = .ok (.tup ((sortPr f.near).map prW)) (h ++ T9 (List.replicate m [])) := gfl _ _ 2 _ (by decide) rfl
    have sv : srcV .seq (.tup ((sortPr f.near).map prW)) .non (h ++ T9 (List.replicate m [])) = .ok ⟨(sortPr f.near).map prW, [], (h ++ T9 (List.replicate m [])), none⟩ (h ++ T9 (List.replicate m [])) := rfl
    rw [evS]
    simp only [evE, den, mkV_v, var_some (show ([some (.ref r), none, some (.ref (r + 1)), none, none, none, none, none] : Env)[0]? = some (some (.ref r)) from rfl), then_okk, ctx_na, F.f2, nd, ofR_ok, sv, forRun, e4]
    rfl
  -- carriers
  obtain ⟨bok, blen⟩ := ok.bes
  let T10 := fun cl : List Bool => TK c (fs10 f o h.length) dl f.bes bs [.lst (cl.map .bl)]
  have s5 : evS (ctx D n) (.asg (.fld (.var 0) I.f_carriers) (.new (.lst []))) [some (.ref r), none, some (.ref (r + 1)), x3, x4, none, none, none] (h ++ T9 f.bes) = .nx [some (.ref r), none, some (.ref (r + 1)), x3, x4, none, none, none] (h ++ T10 []) := by
    have ea : h ++ (T9 f.bes ++ [O.lst []]) = h ++ .ins c (fs9 f o h.length) :: .dct dl :: (f.bes.map inL ++ .lst bs :: [.lst []]) := by simp [T9, TK]
    have st : setFld D.na (.ref r) 10 (.ref (h ++ T9 f.bes).length) (h ++ (T9 f.bes ++ [O.lst []])) = some (h ++ T10 []) := by
      rw [ea, sfl (fs9 f o h.length) _ 10 _ (by decide) (by simp [fs9, fo8])]
      have : (h ++ T9 f.bes).length = h.length + (f.stands.length + 3) := by
        simp only [T9, TK, List.length_append, List.length_cons, List.length_map, blen, List.length_nil]
      rw [this]
      rfl
    simp only [List.length_append] at st
    simp [evS, evE, den, denL, F.fa, short_nil, M2.asg, st, nxO, newD']
  have lrow : f.rows.length = m := by simp [Fo.rows, m]
  let J6 : List W → Env → Hm → Prop := fun rest s h' => ∃ (t : Nat) (ks : List Kin) (cl : List Bool) (x1 x5 x6 : Option W), rest = numbered t (ks.map Kin.w) ∧ t + ks.length = m ∧ cl ++ carGo f t ks = f.cars ∧ s = [some (.ref r), x1, some (.ref (r + 1)), x3, x4, x5, x6, none] ∧ h' = h ++ T10 cl
  obtain ⟨s', h6, e6, t6, ks6, cl6, x1, x5, x6, en6, lt6, ec6, rfl, rfl⟩ := for_go (gs := []) (f := forTurn true [5, 1] (evSs (ctx D n) [.asg (.var 6) (.lc [4] false [4] (.var 4) .seq (.sub (.fld (.var 0) I.f_beside) (.var 5)) .non (.cmp .eq (.sub (.sub (.fld (.var 0) I.f_rows) (.var 4)) (.int 0)) (.sub (.var 1) (.int 0)))),
      .exp (.met .append (.fld (.var 0) I.f_carriers) [(.and (.cmp .gt (.sub (.fld (.var 0) I.f_weather) (.int 2)) (.int 0)) (.and (.sub (.var 1) (.int 5)) (.cmp .gt (.b1 .len [(.var 6)]) (.int 0))))])])) J6 (fun _ _ _ _ => rfl)
    (fun x l s h' j => by
      obtain ⟨t, ks, cl, x1, x5, x6, er, et, hcl, rfl, rfl⟩ := j
      obtain ⟨y, l', e1, rfl, rfl⟩ := numb_at _ _ _ _ er.symm
      cases ks with
      | nil => cases e1
      | cons kn ks =>
        rw [List.map_cons] at e1
        injection e1 with e1 e2
        subst e1 e2
        simp only [List.length_cons] at et
        have tb : t < f.bes.length := by rw [blen]; omega
        have hg : f.bes[t]? = some (f.bes.getD t []) := by rw [List.getD_eq_getElem?_getD, List.getElem?_eq_getElem tb]; rfl
        have hmt : f.mates t kn = (f.bes.getD t []).filter fun j => (f.rows.getD j.toNat kin0).name == kn.name := rfl
        generalize f.bes.getD t [] = bt at hg hmt
        obtain ⟨hb1, hb2⟩ := bok _ (List.mem_of_getElem? hg)
        let h' := h ++ T10 cl
        have g9 : getFld D.na (.ref r) 9 h' = .ok (.ref (h.length + (f.stands.length + 2))) h' := gfl _ _ 9 _ (by decide) rfl
        have g8 : getFld D.na (.ref r) 8 h' = .ok (.kl (f.rows.map Kin.w)) h' := gfl _ _ 8 _ (by decide) rfl
        have gb : getItem (.ref (h.length + (f.stands.length + 2))) (.int t) h' = .ok (.ref (h.length + (t + 2))) h' := by
          refine g_ref (l := bs) ?_ (j := t) (place_nn (by omega) (by rw [besRefs_len]; omega)) (besRefs_get (by omega))
          rw [show h'[h.length + (f.stands.length + 2)]? = (T10 cl)[f.stands.length + 2]? from hat, ← blen]
          exact TK_rs
        have atb : h'[h.length + (t + 2)]? = some (.lst (bt.map .int)) := by
          rw [show h'[h.length + (t + 2)]? = (T10 cl)[t + 2]? from hat]
          exact TK_bl hg
        have k0 : getItem kn.w (.int 0) h' = .ok (.str kn.name) h' := rfl
        have ey := comp_filt (h := h') (gs := [(h.length + (t + 2), bt.map W.int)]) (wb := W.int) (g := fun j => (f.rows.getD j.toNat kin0).name == kn.name) (f := compTurn false [4] (fun s h => ((((((varV 0 s h).then fun x h1 => getFld D.na x 8 h1).then fun x h1 => (varV 4 s h1).then fun y h2 => getItem x y h2).then fun x h1 => getItem x (.int 0) h1).then fun x h1 => ((varV 1 s h1).then fun x h1 => getItem x (.int 0) h1).then fun y h2 => cmpC (ctx D n) .eq x y h2)).then truthOf) (varV 4) [some (.ref r), some kn.w, some (.ref (r + 1)), x3, x4, some (.int t), x6, none]) (okG_one atb) bt [] (fun i hi => by
          obtain ⟨i0, im⟩ := hb1 i hi
          obtain ⟨q, rfl⟩ := Int.eq_ofNat_of_zero_le i0
          have hq : q < f.rows.length := by omega
          have gq2 : f.rows[q]? = some (f.rows.getD q kin0) := by rw [List.getD_eq_getElem?_getD, List.getElem?_eq_getElem hq]; rfl
          have gr : getItem (.kl (f.rows.map Kin.w)) (.int q) h' = .ok (f.rows.getD q kin0).w h' := by
            exact RowAt.get (.inr (.inr rfl)) (j := q) (place_nn (by omega) (by rw [List.length_map]; omega)) (by rw [List.getElem?_map, gq2]; rfl)
          have gq : getItem (f.rows.getD q kin0).w (.int 0) h' = .ok (.str (f.rows.getD q kin0).name) h' := rfl
          show compTurn _ _ _ _ _ _ h' = R.ok (if ((f.rows.getD q kin0).name == kn.name) = true then some (W.int q) else none) h'
          generalize f.rows.getD q kin0 = row at gr gq ⊢
          cases hb : row.name == kn.name <;> simp [compTurn, setT, setAll, g8, gr, gq, k0, hb])
        rw [List.nil_append] at ey
        rw [← hmt] at ey
        have lm : (f.mates t kn).length ≤ 40 := by rw [hmt]; exact Nat.le_trans (List.length_filter_le _ _) hb2
        have cr := compRun_of (h0 := h') ey (by rw [List.length_map]; omega)
        have sv := srcV_ref atb
        have q1 : evS (ctx D n) (.asg (.var 6) (.lc [4] false [4] (.var 4) .seq (.sub (.fld (.var 0) I.f_beside) (.var 5)) .non (.cmp .eq (.sub (.sub (.fld (.var 0) I.f_rows) (.var 4)) (.int 0)) (.sub (.var 1) (.int 0))))) [some (.ref r), some kn.w, some (.ref (r + 1)), x3, x4, some (.int t), x6, none] h' =
            .nx [some (.ref r), some kn.w, some (.ref (r + 1)), x3, x4, some (.int t), some (.kl ((f.mates t kn).map .int)), none] h' := by
          simp [evS, evE, evT, den, denL, F.f8, F.f9, g9, gb, sv, cr, M2.asg]
        have ga : getFld D.na (.ref r) 10 h' = .ok (.ref (h.length + (f.stands.length + 3))) h' := gfl _ _ 10 _ (by decide) rfl
        have gw : getFld D.na (.ref r) 4 h' = .ok f.weW h' := gfl _ _ 4 _ (by decide) rfl
        have gw2 : getItem f.weW (.int 2) h' = .ok (.int f.we.2.2) h' := rfl
        have k5 : getItem kn.w (.int 5) h' = .ok (.bl kn.firm) h' := rfl
        have ln : b1op .len [.kl ((f.mates t kn).map W.int)] h' = .ok (.int (f.mates t kn).length) h' := by
          show R.ok (W.int (((f.mates t kn).map W.int).length : Nat)) h' = _
          rw [List.length_map]
        have hc : h'[h.length + (f.stands.length + 3)]? = some (.lst (cl.map .bl)) := by
          rw [show h'[h.length + (f.stands.length + 3)]? = (T10 cl)[f.stands.length + 3]? from hat, ← blen]
          exact TK_rest (i := 0)
        have ecl : cl.length ≤ m := by
          have := congrArg List.length hcl
          rw [List.length_append, carGo_len, Fo.cars, carGo_len] at this
          simp only [List.length_cons] at this
          omega
        have ap : ∀ b, met1 .append (.ref (h.length + (f.stands.length + 3))) (.bl b) h' = .ok .non (h ++ T10 (cl ++ [b])) := fun b => by
          rw [m_append hc (by rw [List.length_map]; omega)]
          congr 1
          show (h ++ T10 cl).set _ _ = _
          rw [hset, ← blen]
          show h ++ List.set (TK _ _ _ _ _ _) (f.bes.length + 3 + 0) _ = _
          rw [TK_srest]
          simp [T10]
        have q2 : evS (ctx D n) (.exp (.met .append (.fld (.var 0) I.f_carriers) [(.and (.cmp .gt (.sub (.fld (.var 0) I.f_weather) (.int 2)) (.int 0)) (.and (.sub (.var 1) (.int 5)) (.cmp .gt (.b1 .len [(.var 6)]) (.int 0))))])) [some (.ref r), some kn.w, some (.ref (r + 1)), x3, x4, some (.int t), some (.kl ((f.mates t kn).map .int)), none] h' =
            .nx [some (.ref r), some kn.w, some (.ref (r + 1)), x3, x4, some (.int t), some (.kl ((f.mates t kn).map .int)), none] (h ++ T10 (cl ++ [f.car t kn])) := by
          by_cases w0 : 0 < f.we.2.2
          · cases hf : kn.firm with
            | true =>
              rw [hf] at k5
              have ec : f.car t kn = decide ((0 : Int) < ((f.mates t kn).length : Nat)) := by simp [Fo.car, w0, hf]
              rw [ec]
              simp [evS, evE, den, denL, F.fa, F.f4, ga, gw, gw2, k5, ln, recv_app hc, ap, w0]
            | false =>
              rw [hf] at k5
              have ec : f.car t kn = false := by simp [Fo.car, hf]
              rw [ec]
              simp [evS, evE, den, denL, F.fa, F.f4, ga, gw, gw2, k5, ln, recv_app hc, ap, w0]
          · have ec : f.car t kn = false := by simp [Fo.car, w0]
            rw [ec]
            simp [evS, evE, den, denL, F.fa, F.f4, ga, gw, gw2, k5, ln, recv_app hc, ap, w0]
        refine ⟨_, _, ?_, t + 1, ks, cl ++ [f.car t kn], some kn.w, some (.int t), some (.kl ((f.mates t kn).map .int)), rfl, by omega, by rw [List.append_assoc]; exact hcl, rfl, rfl⟩
        unfold forTurn
        simp only [setT, if_true, setAll]
        have st : (([some (.ref r), x1, some (.ref (r + 1)), x3, x4, x5, x6, none] : Env).set 5 (some (.int t))).set 1 (some kn.w) = [some (.ref r), some kn.w, some (.ref (r + 1)), x3, x4, some (.int t), x6, none] := rfl
        rw [st, evSs_nx q1, evSs_nx q2, evSs_nil])
    (numbered 0 (f.rows.map Kin.w)) [some (.ref r), none, some (.ref (r + 1)), x3, x4, none, none, none] (h ++ T10 []) ⟨0, f.rows, [], none, none, none, rfl, by omega, rfl, rfl, rfl⟩
  have : ks6 = [] := by cases ks6 with
    | nil => rfl
    | cons _ _ => cases en6
  subst this
  have ec6 : cl6 = f.cars := by rw [← ec6]; simp [carGo]
  subst ec6
  have s6 : evS (ctx D n) (.for true [5, 1] .enm (.fld (.var 0) I.f_rows) .non [.asg (.var 6) (.lc [4] false [4] (.var 4) .seq (.sub (.fld (.var 0) I.f_beside) (.var 5)) .non (.cmp .eq (.sub (.sub (.fld (.var 0) I.f_rows) (.var 4)) (.int 0)) (.sub (.var 1) (.int 0)))),
      .exp (.met .append (.fld (.var 0) I.f_carriers) [(.and (.cmp .gt (.sub (.fld (.var 0) I.f_weather) (.int 2)) (.int 0)) (.and (.sub (.var 1) (.int 5)) (.cmp .gt (.b1 .len [(.var 6)]) (.int 0))))])]) [some (.ref r), none, some (.ref (r + 1)), x3, x4, none, none, none] (h ++ T10 []) = .nx [some (.ref r), x1, some (.ref (r + 1)), x3, x4, x5, x6, none] (h ++ T10 f.cars) := by
    have g8 : getFld D.na (.ref r) I.f_rows (h ++ T10 []) = .ok (.kl (f.rows.map Kin.w)) (h ++ T10 []) := by rw [F.f8]; exact gfl _ _ 8 _ (by decide) rfl
    have sv : srcV .enm (.kl (f.rows.map Kin.w)) .non (h ++ T10 []) = .ok ⟨numbered 0 (f.rows.map Kin.w), [], h ++ T10 [], none⟩ (h ++ T10 []) := rfl
    rw [evS]
    simp only [evE, den, mkV_v, var_some (show ([some (.ref r), none, some (.ref (r + 1)), x3, x4, none, none, none] : Env)[0]? = some (some (.ref r)) from rfl), then_okk, ctx_na, g8, ofR_ok, sv, forRun, e6]
    rfl
  rw [hrun]
  show back _ h0 (evSs _ [_, _, _, _, _, _] [some (.ref r), none, none, none, none, none, none, none] h0) = _
  rw [evSs_nx s1, evSs_nx s2, evSs_nx s3, evSs_nx s4, evSs_nx s5, evSs_nx s6, evSs_nil, back_nx]
  -- nothing can be let go: the instance names new lists
  have tk : (h ++ T10 f.cars).take h0.length = h ++ [.ins c (fs10 f o h.length)] := by
    rw [l0, List.take_append]
    rw [List.take_of_length_le (by omega)]
    simp [T10, TK]
  have nb : baseOk h0 (h ++ T10 f.cars) = false := by
    unfold baseOk
    rw [tk]
    have e1 : decide (h ++ [O.ins c (fs10 f o h.length)] = h0) = false := decide_eq_false fun e => by
      have := List.append_cancel_left e
      simp [fs10, fo8] at this
    have e2 : Hm.cl h0.length (h ++ [O.ins c (fs10 f o h.length)]) = false := by
      unfold Hm.cl
      rw [List.all_append]
      have : (O.ins c (fs10 f o h.length)).cl h0.length = false := by
        rw [l0]
        show clAll _ _ = false
        simp [fs10, fo8, clAll, W.cl]
      simp [this]
    rw [e1, e2]
    simp
  show gc true h0 .non (h ++ T10 f.cars) = _
  unfold gc
  rw [nb]
  rfl
end
end M2

namespace M2
theorem inb_all {lo hi : Int} {l : List Int} (h : InB lo hi l) : ((l.map W.int).all fun x => isWi x lo hi) = true := by
  rw [List.all_map, List.all_eq_true]
  intro x hx
  have := h x hx
  simp [isWi, this.1, this.2]
theorem isTab_ok {l : List Int} {o : Int} (h : (l.length : Int) = o + 1 ∧ InB 0 99 l) : isTab (.tup (l.map .int)) o = true := by
  simp only [isTab, List.length_map, inb_all h.2, h.1]
  simp
theorem isWi_ok {i lo hi : Int} (h : lo ≤ i ∧ i ≤ hi) : isWi (.int i) lo hi = true := by simp [isWi, h.1, h.2]
theorem isKin_ok {x : Kin} {o : Int} (h : Kin.Ok o x) (n : isName (.str x.name) = true) : isKin x.w o = true := by
  simp only [isKin, Kin.w, n, isTab_ok h.timber, isTab_ok h.windfall, isWi_ok h.ripe, isWi_ok h.weak]
  rfl
section
variable {f : Fo} {o : Int}
theorem Fo.Ok.old (h : Fo.Ok o f) : oldIn (f.kinds.map Kin.w) = .int o := by
  cases e : f.kinds with
  | nil => have := h.k1; rw [e] at this; exact absurd this (by simp)
  | cons x l =>
    have hx := h.kok x (by rw [e]; simp)
    have h1 := h.o1
    have h6 := h.o6
    have t := hx.timber.1
    simp only [List.map_cons, oldIn, Kin.w, List.length_map]
    rw [if_pos (by omega)]
    congr 1
    omega
theorem Fo.Ok.areKin (h : Fo.Ok o f) : areKin (f.kinds.map Kin.w) = true := by
  unfold M2.areKin
  rw [h.old]
  simp only [List.length_map]
  have e1 : decide (1 ≤ f.kinds.length) = true := decide_eq_true h.k1
  have e2 : decide (f.kinds.length ≤ 3) = true := decide_eq_true h.k3
  have e3 : ((f.kinds.map Kin.w).all fun x => isKin x o) = true := by
    rw [List.all_map, List.all_eq_true]
    exact fun x hx => isKin_ok (h.kok x hx) (h.kname x hx)
  have e4 : (f.kinds.map Kin.w).map nameOf = f.kinds.map Kin.name := by rw [List.map_map]; rfl
  rw [e1, e2, e3, e4, decide_eq_true h.knd]
  rfl
theorem Fo.Ok.areSta (h : Fo.Ok o f) : areSta (f.stands.map Sta.w) (f.kinds.map Kin.name) o = true := by
  unfold M2.areSta
  simp only [List.length_map]
  have e1 : decide (1 ≤ f.stands.length) = true := decide_eq_true h.s1
  have e2 : decide (f.stands.length ≤ 4) = true := decide_eq_true h.s4
  have e3 : ((f.stands.map Sta.w).all fun x => isSta x (f.kinds.map Kin.name) o) = true := by
    rw [List.all_map, List.all_eq_true]
    intro x hx
    simp only [Function.comp, isSta, Sta.w, h.sname x hx, isWi_ok (h.sage x hx), Bool.true_and, Bool.and_true]
    simpa using h.skind x hx
  have e4 : (f.stands.map Sta.w).map nameOf = f.stands.map Sta.name := by rw [List.map_map]; rfl
  rw [e1, e2, e3, e4, decide_eq_true h.snd]
  rfl
theorem prsOf_map : ∀ l : List (Int × Int), prsOf (l.map prW) = some l
  | [] => rfl
  | x :: l => by
    show (match prsOf (l.map prW) with | some r => some ((x.1, x.2) :: r) | none => none) = _
    rw [prsOf_map l]
theorem areNr_ok {m : Int} {l : List (Int × Int)} (h : PrOk m l) : areNr (l.map prW) m = true := by
  unfold areNr
  rw [prsOf_map]
  have e : ((l.map prW).all fun x => isNr x m) = true := by
    rw [List.all_map, List.all_eq_true]
    intro q hq
    obtain ⟨h1, h2, h3⟩ := h.1 q hq
    simp only [Function.comp, isNr, prW, isWi_ok (show 1 ≤ q.2 ∧ q.2 ≤ m - 1 by omega), isWi_ok (show 0 ≤ q.1 ∧ q.1 ≤ q.2 - 1 by omega)]
    rfl
  rw [e]
  simp [h.2]
theorem PrOk.perm {m : Int} {l l' : List (Int × Int)} (h : PrOk m l) (p : l'.Perm l) : PrOk m l' := ⟨fun q hq => h.1 q (p.mem_iff.mp hq), p.nodup_iff.mpr h.2⟩
theorem isLab_len {l : List Nat} (h : isName (.str l) = true) : l.length ≤ 8 := by
  unfold isName isLab at h
  simp only [Bool.and_eq_true, decide_eq_true_eq] at h
  exact h.1.2.1
theorem kn_ints {h : Hm} {l : List Int} (hl : l.length ≤ 1000) (n : Nat) : KnD h (n + 1) (.tup (l.map .int)) := knD_tup (by rw [List.length_map]; exact hl) fun x hx => by
  obtain ⟨i, _, rfl⟩ := List.mem_map.mp hx
  exact knD_int n
theorem kn_kin {h : Hm} {x : Kin} (k : Kin.Ok o x) (o6 : o ≤ 6) (n : isName (.str x.name) = true) : KnD h 2 x.w := by
  have t := k.timber.1
  have w := k.windfall.1
  refine knD_tup (by simp) fun y hy => ?_
  simp only [List.mem_cons, List.not_mem_nil, or_false] at hy
  rcases hy with rfl | rfl | rfl | rfl | rfl | rfl
  · exact knD_str (by have := isLab_len n; omega) 1
  · exact kn_ints (by omega) 0
  · exact kn_ints (by omega) 0
  · exact knD_int 1
  · exact knD_int 1
  · exact knD_bl 1
theorem kn_sta {h : Hm} {x : Sta} (n : isName (.str x.name) = true) (k : x.kind.length ≤ 8) : KnD h 1 x.w := by
  refine knD_tup (by simp) fun y hy => ?_
  simp only [List.mem_cons, List.not_mem_nil, or_false] at hy
  rcases hy with rfl | rfl | rfl
  · exact knD_str (by have := isLab_len n; omega) 0
  · exact knD_str (by omega) 0
  · exact knD_int 0
theorem kn_pr {h : Hm} (q : Int × Int) : KnD h 1 (prW q) := by
  refine knD_tup (by simp) fun y hy => ?_
  simp only [List.mem_cons, List.not_mem_nil, or_false] at hy
  rcases hy with rfl | rfl <;> exact knD_int 0
end
/-- a forest that stands at r -/
def ForestAt (I : Ix) (h : Hm) (r : Nat) (f : Fo) (o : Int) : Prop := h[r]? = some (forestO I f o)
theorem mapRs_at {g : Nat → Option W} : ∀ {l l' : List W}, l.length = l'.length → (∀ (i : Nat) (x : W), l[i]? = some x → ∃ y, l'[i]? = some y ∧ mapR g x = some y) → mapRs g l = some l'
  | [], [], _, _ => rfl
  | [], _ :: _, e, _ => by cases e
  | _ :: _, [], e, _ => by cases e
  | x :: l, x' :: l', e, h => by
    obtain ⟨y, e1, e2⟩ := h 0 x rfl
    have e1 : some x' = some y := e1
    cases e1
    rw [mapRs, e2, mapRs_at (by simpa using e) fun i x hx => h (i + 1) x hx]
theorem fz_new {n : Nat} {h : Hm} {k r : Nat} {l l' : List W} (hr : ¬ r < n) (e : h[r]? = some (.lst l)) (m : mapRs (fzR n h k) l = some l') : fzR n h (k + 1) r = some (.kl l') := by
  simp only [fzR, if_neg hr, e, m]
  rfl
theorem pu_bl : ∀ l : List Bool, puAll (l.map .bl) = true
  | [] => rfl
  | x :: l => by rw [List.map_cons, puAll, pu_bl l]; rfl
theorem pu_kl (l : List Int) : (W.kl (l.map .int)).pu = true := by show puAll _ = true; exact pu_ints l
theorem Fo.w_pu (f : Fo) : (W.tup (f.kinds.map Kin.w)).pu = true ∧ (W.tup (f.stands.map Sta.w)).pu = true ∧ (W.tup ((sortPr f.near).map prW)).pu = true ∧ f.weW.pu = true ∧ f.yaW.pu = true ∧ (W.kl (f.rows.map Kin.w)).pu = true ∧ (besW f.bes).pu = true ∧ (W.kl (f.cars.map .bl)).pu = true := by
  refine ⟨?_, ?_, ?_, ?_, ?_, ?_, ?_, ?_⟩ <;> show puAll _ = true
  · exact pu_map Kin.pu _
  · exact pu_map Sta.pu _
  · exact pu_map pr_pu _
  · rfl
  · rfl
  · exact pu_map Kin.pu _
  · exact pu_map (fun l => pu_kl l) _
  · exact pu_bl _
theorem fz_pu {n : Nat} {h : Hm} {w : W} (p : w.pu = true) : fzW n h w = some w := mapR_pu _ p
section
variable {D : Prog} {I : Ix} {k : Nat} {h : Hm}
theorem chk {C : Ctx} {s : Env} {c : E} {b : List S} {h : Hm} (e : evT C s c h = .ok false h) : evS C (.ite c b []) s h = .nx s h := by
  rw [evS, e]
  simp
/-- the new forest's lists are frozen -/
theorem fz_forest {f : Fo} {o : Int} (ok : Fo.Ok o f) (c : Nat) (dl : List (W × W)) :
    fzF h.length (h ++ TK c (fs10 f o h.length) dl f.bes (besRefs h.length f.stands.length) [.lst (f.cars.map .bl)]) (fs10 f o h.length) = some (foFs f o) := by
  obtain ⟨p0, p1, p2, p4, p5, p8, _, _⟩ := f.w_pu
  obtain ⟨_, bl⟩ := ok.bes
  generalize eH : h ++ TK c (fs10 f o h.length) dl f.bes (besRefs h.length f.stands.length) [.lst (f.cars.map .bl)] = H
  have r9 : fzW h.length H (.ref (h.length + (f.stands.length + 2))) = some (besW f.bes) := by
    refine fz_new (h := H) (n := h.length) (r := h.length + (f.stands.length + 2)) (k := 7) (l := besRefs h.length f.stands.length) (l' := f.bes.map fun l => .kl (l.map .int)) (by omega) (by rw [← eH, hat, ← bl]; exact TK_rs) (mapRs_at (by rw [besRefs_len, List.length_map, bl]) fun i x hx => ?_)
    have hi : i < f.stands.length := by
      have := (List.getElem?_eq_some_iff.mp hx).1
      rw [besRefs_len] at this
      exact this
    rw [besRefs_get hi] at hx
    cases hx
    have hg : f.bes[i]? = some (f.bes.getD i []) := by rw [List.getD_eq_getElem?_getD, List.getElem?_eq_getElem (by omega)]; rfl
    refine ⟨.kl ((f.bes.getD i []).map .int), by rw [List.getElem?_map, hg]; rfl, ?_⟩
    exact fz_new (h := H) (n := h.length) (r := h.length + (i + 2)) (k := 6) (l := (f.bes.getD i []).map .int) (by omega) (by rw [← eH, hat]; exact TK_bl hg) (mapRs_pu _ (pu_ints _))
  have r10 : fzW h.length H (.ref (h.length + (f.stands.length + 3))) = some (.kl (f.cars.map .bl)) :=
    fz_new (h := H) (n := h.length) (r := h.length + (f.stands.length + 3)) (k := 7) (l := f.cars.map .bl) (by omega) (by rw [← eH, hat, ← bl]; exact TK_rest (i := 0)) (mapRs_pu _ (pu_bl _))
  simp only [fs10, fo8, List.cons_append, List.nil_append, fzF, fz_pu p0, fz_pu p1, fz_pu p2, fz_pu p4, fz_pu p5, fz_pu p8, r9, r10, fz_pu (show (W.int _).pu = true from rfl)]
  rfl
theorem made (P : HasW D I) (J : HasJ D I) (F : HasF D I) (hk : 7 ≤ k) {f : Fo} {o : Int} (ok : Fo.Ok o f) {kw sw nw : W} {np : List (Int × Int)} (rk : RowAt h kw (f.kinds.map Kin.w)) (rs : RowAt h sw (f.stands.map Sta.w)) (rn : RowAt h nw (np.map prW)) (perm : np.Perm f.near) :
    makeV (ctx D k) I.c_Forest [kw, sw, nw, .int f.gap, f.weW, f.yaW, .int f.due] h = .ok (.ref h.length) (h ++ [forestO I f o]) := by
  let ws : List W := [.ref h.length, kw, sw, nw, .int f.gap, f.weW, f.yaW, .int f.due]
  obtain ⟨n, rfl, hrun⟩ := run_at (ws := ws) (h := h ++ [.ins I.c_Forest []]) (show 1 ≤ k by omega) F.init rfl
  let r := h.length
  let S := fun (fs : List (Nat × W)) => h ++ [O.ins I.c_Forest fs]
  let H0 : Hm := S []
  have na := F.na
  have rk0 : ∀ fs, RowAt (S fs) kw (f.kinds.map Kin.w) := fun fs => rk.app _
  have rs0 : ∀ fs, RowAt (S fs) sw (f.stands.map Sta.w) := fun fs => rs.app _
  have rn0 : ∀ fs, RowAt (S fs) nw (np.map prW) := fun fs => rn.app _
  have sl : f.stands.length = (f.stands.map Sta.w).length := by rw [List.length_map]
  have npok : PrOk f.stands.length np := ok.near.perm perm
  have nlen := near_len npok (by have := ok.s4; omega)
  have knk : ∀ {h' : Hm}, ∀ x ∈ f.kinds.map Kin.w, KnD h' 2 x := fun {h'} x hx => by
    obtain ⟨y, hy, rfl⟩ := List.mem_map.mp hx
    exact kn_kin (ok.kok y hy) ok.o6 (ok.kname y hy)
  have kns : ∀ {h' : Hm}, ∀ x ∈ f.stands.map Sta.w, KnD h' 1 x := fun {h'} x hx => by
    obtain ⟨y, hy, rfl⟩ := List.mem_map.mp hx
    obtain ⟨z, hz, e⟩ := List.mem_map.mp (ok.skind y hy)
    exact kn_sta (ok.sname y hy) (by rw [← e]; exact isLab_len (ok.kname z hz))
  have knn : ∀ {h' : Hm}, ∀ x ∈ np.map prW, KnD h' 1 x := fun {h'} x hx => by
    obtain ⟨y, _, rfl⟩ := List.mem_map.mp hx
    exact kn_pr y
  have knw : ∀ {h' : Hm}, KnD h' 1 f.weW := fun {h'} => knD_tup (by simp) fun y hy => by
    simp only [List.mem_cons, List.not_mem_nil, or_false] at hy
    rcases hy with rfl | rfl | rfl <;> exact knD_int 0
  have kny : ∀ {h' : Hm}, KnD h' 1 f.yaW := fun {h'} => knD_tup (by simp) fun y hy => by
    simp only [List.mem_cons, List.not_mem_nil, or_false] at hy
    rcases hy with rfl | rfl <;> exact knD_int 0
  have kne : f.kinds.map Kin.w ≠ [] := fun z => by
    have := congrArg List.length z
    rw [List.length_map, List.length_nil] at this
    have := ok.k1
    omega
  -- the looks
  have c0 := are_kinds (k := n) P J (by omega) (rk0 []) knk
  rw [ok.areKin] at c0
  have c1 : run D n I.oldest_in [kw] H0 = .ok (.int o) H0 := by
    cases e : f.kinds.map Kin.w with
    | nil => exact absurd e kne
    | cons x l =>
      have rk1 := rk0 []
      rw [e] at rk1
      have hx := knk (h' := H0) x (by rw [e]; simp)
      have := oldest_in (k := n) J (by omega) rk1 ⟨hx.1, fun t et => ⟨(hx.2 t et).1, fun y hy => ⟨((hx.2 t et).2 y hy).kn, ((hx.2 t et).2 y hy).str⟩⟩⟩
      rw [← e, ok.old] at this
      exact this
  let names := f.kinds.map Kin.name
  have c2 := are_stands (k := n) (o := o) (names := names) P J (by omega) (rs0 []) kns
  rw [ok.areSta] at c2
  have c3 := are_near (k := n) (m := f.stands.length) P J (by omega) (rn0 []) knn (by rw [List.length_map]; omega)
  rw [areNr_ok npok] at c3
  have c4 := is_within (k := n) (h := H0) P (by omega) (kn_int (i := f.gap)) 0 o
  rw [isWi_ok ok.gap] at c4
  have c5 := is_weather (k := n) (h := H0) P J (by omega) knw
  have w5 : isWe f.weW = true := by
    simp only [isWe, Fo.weW, List.all_cons, List.all_nil, isWi_ok ok.we1, isWi_ok ok.we2, isWi_ok ok.we3]
    rfl
  rw [w5] at c5
  have c6 := is_yard (k := n) (h := H0) P J (by omega) kny
  have w6 : isYa f.yaW = true := by
    simp only [isYa, Fo.yaW, isWi_ok ok.ya1, isWi_ok ok.ya2]
    rfl
  rw [w6] at c6
  have c7 := is_within (k := n) (h := H0) P (by omega) (kn_int (i := f.due)) 0 999
  rw [isWi_ok ok.due] at c7
  have cd : conV (ctx D n) I.g_MOST_DUE H0 = .ok (.int 999) H0 := con_ok J.due
  have lnS : b1op .len [sw] H0 = .ok (.int f.stands.length) H0 := by rw [sl]; exact (rs0 []).len
  obtain ⟨gsk, svk, ogk⟩ := (rk0 []).src
  have svk : srcV .seq kw .non H0 = .ok ⟨f.kinds.map Kin.w, gsk, H0, none⟩ H0 := svk
  have crn : compRun (compTurn false [9] (fun _ h => R.ok true h) (fun s h => (varV 9 s h).then fun x h1 => getItem x (.int 0) h1) [some (.ref r), some kw, some sw, some nw, some (.int f.gap), some f.weW, some f.yaW, some (.int f.due), some (.int o), none]) ⟨f.kinds.map Kin.w, gsk, H0, none⟩ H0 = .ok (names.map .str) H0 := by
    have e : (f.kinds.map Kin.w).map (fun x => W.str (nameOf x)) = names.map .str := by rw [List.map_map, List.map_map]; rfl
    rw [← e]
    refine comp_val ogk (fun y hy => ?_) (by rw [List.length_map]; have := ok.k3; omega)
    obtain ⟨x, _, rfl⟩ := List.mem_map.mp hy
    have g0 : getItem x.w (.int 0) H0 = .ok (.str x.name) H0 := rfl
    have e : nameOf x.w = x.name := rfl
    simp [compTurn, setT, setAll, g0, e]
  have c0 : run D n I.are_kinds [kw] H0 = .ok (.bl true) H0 := c0
  have c2 : run D n I.are_stands [sw, .kl (names.map .str), .int o] H0 = .ok (.bl true) H0 := c2
  have c3 : run D n I.are_near [nw, .int f.stands.length] H0 = .ok (.bl true) H0 := c3
  let s8 : Env := [some (.ref r), some kw, some sw, some nw, some (.int f.gap), some f.weW, some f.yaW, some (.int f.due), none, none]
  let s9 : Env := [some (.ref r), some kw, some sw, some nw, some (.int f.gap), some f.weW, some f.yaW, some (.int f.due), some (.int o), none]
  have q0 : evS (ctx D n) (.ite (.not (.call I.are_kinds [(.var 1)])) [.nev] []) s8 H0 = .nx s8 H0 := chk (by simp only [s8]; simp [evT, den, denL, c0])
  have q1 : evS (ctx D n) (.asg (.var 8) (.call I.oldest_in [(.var 1)])) s8 H0 = .nx s9 H0 := by
    simp only [s8, s9]
    simp [evS, evE, den, denL, c1, M2.asg]
  have q2 : evS (ctx D n) (.ite (.not (.call I.are_stands [(.var 2), (.lc [9] false [9] (.sub (.var 9) (.int 0)) .seq (.var 1) .non (.bl true)), (.var 8)])) [.nev] []) s9 H0 = .nx s9 H0 := chk (by simp only [s9]; simp [evT, den, denL, svk, crn, c2])
  have q3 : evS (ctx D n) (.ite (.not (.call I.are_near [(.var 3), (.b1 .len [(.var 2)])])) [.nev] []) s9 H0 = .nx s9 H0 := chk (by simp only [s9]; simp [evT, den, denL, lnS, c3])
  have q4 : evS (ctx D n) (.ite (.not (.call I.is_within [(.var 4), (.int 0), (.var 8)])) [.nev] []) s9 H0 = .nx s9 H0 := chk (by simp only [s9]; simp [evT, den, denL, c4])
  have q5 : evS (ctx D n) (.ite (.not (.call I.is_weather [(.var 5)])) [.nev] []) s9 H0 = .nx s9 H0 := chk (by simp only [s9]; simp [evT, den, denL, c5])
  have q6 : evS (ctx D n) (.ite (.not (.call I.is_yard [(.var 6)])) [.nev] []) s9 H0 = .nx s9 H0 := chk (by simp only [s9]; simp [evT, den, denL, c6])
  have q7 : evS (ctx D n) (.ite (.not (.call I.is_within [(.var 7), (.int 0), (.glo I.g_MOST_DUE)])) [.nev] []) s9 H0 = .nx s9 H0 := chk (by simp only [s9]; simp [evT, den, denL, cd, c7])
  -- the fields
  have at_ : ∀ fs, (S fs)[r]? = some (.ins I.c_Forest fs) := fun fs => last_get
  have nx_ : ∀ fs fs', (S fs).set r (.ins I.c_Forest fs') = S fs' := fun fs fs' => hset (i := 0)
  have fld : ∀ (j : Nat) (hj : j < 11) (fj : Nat) (ej : fj = j) (fs : List (Nat × W)) (e : E) (w : W), fs.length < 1000 → evE (ctx D n) s9 e (S fs) = .ok w (S fs) → evS (ctx D n) (.asg (.fld (.var 0) fj) e) s9 (S fs) = .nx s9 (S (putF j w fs)) := fun j hj fj ej fs e w hl he => by
    subst ej
    have st := setFld_ok (na := D.na) (w := w) (at_ fs) (na fj hj) hl
    rw [nx_] at st
    have v0 : evE (ctx D n) s9 (.var 0) (S fs) = .ok (.ref r) (S fs) := rfl
    rw [evS, he]
    simp only [ofR_ok, M2.asg, v0, ctx_na, st, nxO]
  have bt : ∀ (l : List W) (h : Hm), blop .tuple l h = .ok (.tup l) h := fun _ _ => rfl
  have g0 := fld 0 (by decide) I.f_kinds F.f0 [] (.bl1 .tuple (.var 1)) (.tup (f.kinds.map Kin.w)) (by simp) (by
    have v : varV 1 s9 (S []) = .ok kw (S []) := rfl
    simp only [evE, den, mkV_v, mkV_l, v, then_okk, (rk0 []).row, bt])
  have g1 := fld 1 (by decide) I.f_stands F.f1 (putF 0 (.tup (f.kinds.map Kin.w)) []) (.bl1 .tuple (.var 2)) (.tup (f.stands.map Sta.w)) (by simp [putF]) (by
    have v : ∀ h : Hm, varV 2 s9 h = .ok sw h := fun _ => rfl
    simp only [evE, den, mkV_v, mkV_l, v, then_okk, (rs0 _).row, bt])
  let fs2 : List (Nat × W) := [(0, .tup (f.kinds.map Kin.w)), (1, .tup (f.stands.map Sta.w))]
  have g1 : evS (ctx D n) (.asg (.fld (.var 0) I.f_stands) (.bl1 .tuple (.var 2))) s9 (S (putF 0 (.tup (f.kinds.map Kin.w)) [])) = .nx s9 (S fs2) := g1
  let srt : List W := (sortPr f.near).map prW
  have esrt : sortPr np = sortPr f.near := srtP_uniq ((sortPr_perm np).trans (perm.trans (sortPr_perm f.near).symm)) (sortPr_srt _) (sortPr_srt _)
  have g2 := fld 2 (by decide) I.f_near F.f2 fs2 (.bl1 .tuple (.bl1 .sorted (.var 3))) (.tup srt) (by simp [fs2]) (by
    have v : ∀ h : Hm, varV 3 s9 h = .ok nw h := fun _ => rfl
    have sb : blop .sorted (np.map prW) (S fs2) = .ok (.kl srt) (S fs2) := by
      show (match prsOf (np.map prW) with | some r => R.ok (W.kl ((sortPr r).map prW)) (S fs2) | none => .bad) = _
      rw [prsOf_map]
      show R.ok (W.kl ((sortPr np).map prW)) (S fs2) = _
      rw [esrt]
    have rw_ : rowOf (.kl srt) (S fs2) = .ok srt (S fs2) := rfl
    simp only [evE, den, mkV_v, mkV_l, v, then_okk, (rn0 _).row, sb, rw_, bt])
  have vv : ∀ (i : Nat) (w : W), s9[i]? = some (some w) → ∀ h, evE (ctx D n) s9 (.var i) h = .ok w h := fun i w e h => by
    simp only [evE, den, mkV_v, var_some e]
  have g3 := fld 3 (by decide) I.f_gap F.f3 (putF 2 (.tup srt) fs2) (.var 4) (.int f.gap) (by simp [fs2, putF]) (vv 4 _ rfl _)
  have g4 := fld 4 (by decide) I.f_weather F.f4 (putF 3 (.int f.gap) (putF 2 (.tup srt) fs2)) (.var 5) f.weW (by simp [fs2, putF]) (vv 5 _ rfl _)
  have g5 := fld 5 (by decide) I.f_yard F.f5 (putF 4 f.weW (putF 3 (.int f.gap) (putF 2 (.tup srt) fs2))) (.var 6) f.yaW (by simp [fs2, putF]) (vv 6 _ rfl _)
  have g6 := fld 6 (by decide) I.f_due F.f6 (putF 5 f.yaW (putF 4 f.weW (putF 3 (.int f.gap) (putF 2 (.tup srt) fs2)))) (.var 7) (.int f.due) (by simp [fs2, putF]) (vv 7 _ rfl _)
  have g7 := fld 7 (by decide) I.f_oldest F.f7 (putF 6 (.int f.due) (putF 5 f.yaW (putF 4 f.weW (putF 3 (.int f.gap) (putF 2 (.tup srt) fs2))))) (.var 8) (.int o) (by simp [fs2, putF]) (vv 8 _ rfl _)
  have g7 : evS (ctx D n) (.asg (.fld (.var 0) I.f_oldest) (.var 8)) s9 (S (putF 6 (.int f.due) (putF 5 f.yaW (putF 4 f.weW (putF 3 (.int f.gap) (putF 2 (.tup srt) fs2)))))) = .nx s9 (S (fo8 f o)) := g7
  let HE : Hm := S (fo8 f o)
  let h' : Hm := h ++ TK I.c_Forest (fs10 f o h.length) (dlF f) f.bes (besRefs h.length f.stands.length) [.lst (f.cars.map .bl)]
  have e8 := keep_rows (k := n) (h := h) F (by omega) ok
  have q16 : evS (ctx D n) (.exp (.mcall I.m_keep_rows (.var 0) [])) s9 HE = .nx s9 h' := by
    have hm : mthOf (ctx D n) I.m_keep_rows (.ref r) HE = some I.Forest_keep_rows := by
      unfold mthOf
      simp only [HE, at_]
      have all : ((fo8 f o).all fun q => (ctx D n).na I.c_Forest q.1) = true := by
        simp only [fo8, List.all_cons, List.all_nil, ctx_na, na 0 (by decide), na 1 (by decide), na 2 (by decide), na 3 (by decide), na 4 (by decide), na 5 (by decide), na 6 (by decide), na 7 (by decide)]
        rfl
      rw [if_pos all]
      exact F.mth
    have v0 : (den (ctx D n) (.var 0)).v s9 HE = .ok (.ref r) HE := rfl
    have ev : evE (ctx D n) s9 (.mcall I.m_keep_rows (.var 0) []) HE = .ok .non h' := by
      show ((den (ctx D n) (.mcall I.m_keep_rows (.var 0) [])).v s9 HE) = _
      rw [den]
      simp only [mkV_v, v0, R.thenN, mcallV, hm, denL, then_okk, ctx_call]
      exact e8
    rw [evS, ev]
    rfl
  -- the end
  have nb : baseOk H0 h' = false := by
    have l0 : H0.length = h.length + 1 := by simp [H0, S]
    have tk : h'.take H0.length = h ++ [.ins I.c_Forest (fs10 f o h.length)] := by
      rw [l0, List.take_append, List.take_of_length_le (by omega)]
      simp [TK]
    unfold baseOk
    rw [tk]
    have e1 : decide (h ++ [O.ins I.c_Forest (fs10 f o h.length)] = H0) = false := decide_eq_false fun e => by
      have := List.append_cancel_left e
      simp [fs10, fo8] at this
    have e2 : Hm.cl H0.length (h ++ [O.ins I.c_Forest (fs10 f o h.length)]) = false := by
      unfold Hm.cl
      rw [List.all_append]
      have : (O.ins I.c_Forest (fs10 f o h.length)).cl H0.length = false := by
        rw [l0]
        show clAll _ _ = false
        simp [fs10, fo8, clAll, W.cl]
      simp [this]
    rw [e1, e2]
    simp
  have e9 : gc true H0 .non h' = .ok .non h' := by
    unfold gc
    rw [nb]
    rfl
  unfold makeV
  show (match D.ini I.c_Forest with | some f0 => (run D (n + 1) f0 ws H0).then (madeV (D.fzc I.c_Forest) h) | none => .bad) = _
  rw [F.ini, F.fzc]
  simp only
  rw [show run D (n + 1) I.Forest_init ws H0 = _ from hrun]
  have body : evSs (ctx D n) (B.Forest_init I).body (start (B.Forest_init I) ws) H0 = .nx s9 h' := by
    show evSs _ [_, _, _, _, _, _, _, _, _, _, _, _, _, _, _, _, _] s8 H0 = _
    rw [evSs_nx q0, evSs_nx q1, evSs_nx q2, evSs_nx q3, evSs_nx q4, evSs_nx q5, evSs_nx q6, evSs_nx q7]
    rw [evSs_nx g0, evSs_nx g1, evSs_nx (s' := s9) (h' := S (putF 2 (.tup srt) fs2)) g2, evSs_nx g3, evSs_nx g4, evSs_nx g5, evSs_nx g6, evSs_nx g7]
    have q16 : evS (ctx D n) (.exp (.mcall I.m_keep_rows (.var 0) [])) s9 (S (fo8 f o)) = .nx s9 h' := q16
    rw [evSs_nx q16, evSs_nil]
  rw [body, back_nx]
  have e9 : gc (B.Forest_init I).fz H0 .non h' = .ok .non h' := e9
  rw [e9]
  show gcI h h.length h' = _
  unfold gcI
  rw [show baseOk h h' = true from baseOk_app _ _]
  have hat0 : h'[h.length]? = some (.ins I.c_Forest (fs10 f o h.length)) := hat (i := 0)
  simp only [hat0, Nat.le_refl, decide_true, Bool.and_self, if_true]
  rw [show fzF h.length h' (fs10 f o h.length) = some (foFs f o) from fz_forest ok _ _]
  simp only
  rw [show h'.take h.length = h from List.take_left' rfl]
  rfl
end
end M2

namespace M2
/-! ### == of trees -/
mutual
theorem eqH_flat (h : Hm) : ∀ (a b : W) (n m : Nat), a.flat n = true → b.flat n = true → n < m → eqH h m a b = some (eqW a b)
  | .ref _, _, n, _, f, _, _ => by cases n <;> simp [W.flat] at f
  | .kl _, _, n, _, f, _, _ => by cases n <;> simp [W.flat] at f
  | .non, .ref _, n, _, _, f, _ | .bl _, .ref _, n, _, _, f, _ | .int _, .ref _, n, _, _, f, _ | .str _, .ref _, n, _, _, f, _ | .tup _, .ref _, n, _, _, f, _ => by cases n <;> simp [W.flat] at f
  | .non, .kl _, n, _, _, f, _ | .bl _, .kl _, n, _, _, f, _ | .int _, .kl _, n, _, _, f, _ | .str _, .kl _, n, _, _, f, _ | .tup _, .kl _, n, _, _, f, _ => by cases n <;> simp [W.flat] at f
  | .non, .non, _, m + 1, _, _, _ | .non, .bl _, _, m + 1, _, _, _ | .non, .int _, _, m + 1, _, _, _ | .non, .str _, _, m + 1, _, _, _ | .non, .tup _, _, m + 1, _, _, _ => by rw [eqH] <;> first | rfl | nofun
  | .bl _, .non, _, m + 1, _, _, _ | .bl _, .bl _, _, m + 1, _, _, _ | .bl _, .int _, _, m + 1, _, _, _ | .bl _, .str _, _, m + 1, _, _, _ | .bl _, .tup _, _, m + 1, _, _, _ => by rw [eqH] <;> first | rfl | nofun
  | .int _, .non, _, m + 1, _, _, _ | .int _, .bl _, _, m + 1, _, _, _ | .int _, .int _, _, m + 1, _, _, _ | .int _, .str _, _, m + 1, _, _, _ | .int _, .tup _, _, m + 1, _, _, _ => by rw [eqH] <;> first | rfl | nofun
  | .str _, .non, _, m + 1, _, _, _ | .str _, .bl _, _, m + 1, _, _, _ | .str _, .int _, _, m + 1, _, _, _ | .str _, .str _, _, m + 1, _, _, _ | .str _, .tup _, _, m + 1, _, _, _ => by rw [eqH] <;> first | rfl | nofun
  | .tup _, .non, _, m + 1, _, _, _ | .tup _, .bl _, _, m + 1, _, _, _ | .tup _, .int _, _, m + 1, _, _, _ | .tup _, .str _, _, m + 1, _, _, _ => by rw [eqH] <;> first | rfl | nofun
  | .tup a, .tup b, n, m + 1, f, g, hn => by
    cases n with
    | zero => simp [W.flat] at f
    | succ n =>
      rw [W.flat] at f g
      rw [eqH, eqW]
      exact eqHs_flat h a b n m f g (by omega)
  | _, _, _, 0, _, _, hn => absurd hn (Nat.not_lt_zero _)
theorem eqHs_flat (h : Hm) : ∀ (a b : List W) (n m : Nat), flatAll n a = true → flatAll n b = true → n < m → allEq (eqH h m) a b = some (eqWs a b)
  | [], [], _, _, _, _, _ => rfl
  | [], _ :: _, _, _, _, _, _ => rfl
  | _ :: _, [], _, _, _, _, _ => rfl
  | x :: a, y :: b, n, m, f, g, hn => by
    rw [flatAll, Bool.and_eq_true] at f g
    rw [allEq, eqH_flat h x y n m f.1 g.1 hn, eqHs_flat h a b n m f.2 g.2 hn, eqWs]
end
theorem eqV_flat {h : Hm} {a b : W} (f : a.flat 5 = true) (g : b.flat 5 = true) : eqV h a b = some (eqW a b) := eqH_flat h a b 5 60 f g (by omega)
mutual
theorem eqW_self : ∀ (a : W) (n : Nat), a.flat n = true → eqW a a = true
  | .ref _, n, f => by cases n <;> simp [W.flat] at f
  | .kl _, n, f => by cases n <;> simp [W.flat] at f
  | .non, _, _ => by simp [eqW]
  | .bl _, _, _ => by simp [eqW]
  | .int _, _, _ => by simp [eqW]
  | .str _, _, _ => by simp [eqW]
  | .tup l, n, f => by
    cases n with
    | zero => simp [W.flat] at f
    | succ n => rw [W.flat] at f; rw [eqW]; exact eqWs_self l n f
theorem eqWs_self : ∀ (a : List W) (n : Nat), flatAll n a = true → eqWs a a = true
  | [], _, _ => rfl
  | x :: l, n, f => by
    rw [flatAll, Bool.and_eq_true] at f
    rw [eqWs, eqW_self x n f.1, eqWs_self l n f.2]
    rfl
end
theorem flatAll_iff {n : Nat} : ∀ {l : List W}, flatAll n l = true ↔ ∀ x ∈ l, x.flat n = true
  | [] => by simp [flatAll]
  | x :: l => by rw [flatAll, Bool.and_eq_true, flatAll_iff]; simp
theorem flat_int {i : Int} : ∀ n, (W.int i).flat n = true := fun n => by cases n <;> rfl
theorem flat_str {i : List Nat} : ∀ n, (W.str i).flat n = true := fun n => by cases n <;> rfl
theorem flat_bl {i : Bool} : ∀ n, (W.bl i).flat n = true := fun n => by cases n <;> rfl
theorem flat_tup {n : Nat} {l : List W} (h : ∀ x ∈ l, x.flat n = true) : (W.tup l).flat (n + 1) = true := by rw [W.flat]; exact flatAll_iff.mpr h
theorem flat_ints {n : Nat} {l : List Int} : (W.tup (l.map .int)).flat (n + 1) = true := flat_tup fun x hx => by
  obtain ⟨i, _, rfl⟩ := List.mem_map.mp hx
  exact flat_int n
theorem flat_kin (x : Kin) : x.w.flat 4 = true := flat_tup fun y hy => by
  simp only [List.mem_cons, List.not_mem_nil, or_false] at hy
  rcases hy with rfl | rfl | rfl | rfl | rfl | rfl
  · rfl
  · exact flat_ints
  · exact flat_ints
  · rfl
  · rfl
  · rfl
theorem flat_sta (x : Sta) : x.w.flat 4 = true := flat_tup fun y hy => by
  simp only [List.mem_cons, List.not_mem_nil, or_false] at hy
  rcases hy with rfl | rfl | rfl <;> rfl
theorem flat_pr (x : Int × Int) : (prW x).flat 4 = true := flat_tup fun y hy => by
  simp only [List.mem_cons, List.not_mem_nil, or_false] at hy
  rcases hy with rfl | rfl <;> rfl
theorem flat_map {A : Type} {w : A → W} (h : ∀ x, (w x).flat 4 = true) (l : List A) : (W.tup (l.map w)).flat 5 = true := flat_tup fun y hy => by
  obtain ⟨x, _, rfl⟩ := List.mem_map.mp hy
  exact h x
theorem flat_we (f : Fo) : f.weW.flat 5 = true := flat_tup fun y hy => by
  simp only [List.mem_cons, List.not_mem_nil, or_false] at hy
  rcases hy with rfl | rfl | rfl <;> rfl
theorem flat_ya (f : Fo) : f.yaW.flat 5 = true := flat_tup fun y hy => by
  simp only [List.mem_cons, List.not_mem_nil, or_false] at hy
  rcases hy with rfl | rfl <;> rfl
/-- equal parts -/
def foEq (f g : Fo) : Bool := eqWs (f.kinds.map Kin.w) (g.kinds.map Kin.w) && (eqWs (f.stands.map Sta.w) (g.stands.map Sta.w) && (eqWs ((sortPr f.near).map prW) ((sortPr g.near).map prW) && (f.gap == g.gap && (eqW f.weW g.weW && (eqW f.yaW g.yaW && f.due == g.due)))))
theorem foEq_self (f : Fo) : foEq f f = true := by
  unfold foEq
  have k := flat_map flat_kin f.kinds
  have s := flat_map flat_sta f.stands
  have n := flat_map flat_pr (sortPr f.near)
  rw [W.flat] at k s n
  rw [eqWs_self _ 4 k, eqWs_self _ 4 s, eqWs_self _ 4 n, eqW_self _ 5 (flat_we f), eqW_self _ 5 (flat_ya f)]
  simp
section
variable {D : Prog} {I : Ix} {k : Nat} {h : Hm}
theorem ForestAt.ins {r : Nat} {f : Fo} {o : Int} (x : ForestAt I h r f o) : h[r]? = some (.ins I.c_Forest (foFs f o)) := x
theorem ForestAt.fld {r : Nat} {f : Fo} {o : Int} (x : ForestAt I h r f o) (F : HasF D I) {j : Nat} {w : W} (hj : j < 11) (e : getF j (foFs f o) = some w) : getFld D.na (.ref r) j h = .ok w h := getFld_ok x (F.na j hj) e
theorem ForestAt.app {r : Nat} {f : Fo} {o : Int} (x : ForestAt I h r f o) (t : Hm) : ForestAt I (h ++ t) r f o := app_get x
theorem ForestAt.dr {h' : Hm} {r : Nat} {f : Fo} {o : Int} (x : ForestAt I h r f o) (n : Dr h h') (r2 : r ≠ 1) : ForestAt I h' r f o := n.get r2 x
theorem ForestAt.new {f : Fo} {o : Int} : ForestAt I (h ++ [forestO I f o]) h.length f o := last_get
theorem eq_run (F : HasF D I) (hk : 1 ≤ k) {a b : Nat} {f g : Fo} {o o' : Int} (x : ForestAt I h a f o) (y : ForestAt I h b g o') : run D k I.Forest_eq [.ref a, .ref b] h = .ok (.bl (foEq f g)) h := by
  obtain ⟨n, rfl, hr⟩ := run_at (ws := [.ref a, .ref b]) (h := h) hk F.eq rfl
  rw [hr]
  have kb : kd h (.ref b) = some (.ins I.c_Forest) := by
    unfold kd
    simp only [y.ins]
  have hi : isiV (ctx D n) [.cls I.c_Forest] (.ref b) h = .ok (.bl true) h := by
    rw [isi_1 kb (by show (D.ini I.c_Forest).isSome = true; rw [F.ini]; rfl)]
    simp [isK]
  have x0 := x.fld F (j := 0) (by decide) rfl
  have x1 := x.fld F (j := 1) (by decide) rfl
  have x2 := x.fld F (j := 2) (by decide) rfl
  have x3 := x.fld F (j := 3) (by decide) rfl
  have x4 := x.fld F (j := 4) (by decide) rfl
  have x5 := x.fld F (j := 5) (by decide) rfl
  have x6 := x.fld F (j := 6) (by decide) rfl
  have y0 := y.fld F (j := 0) (by decide) rfl
  have y1 := y.fld F (j := 1) (by decide) rfl
  have y2 := y.fld F (j := 2) (by decide) rfl
  have y3 := y.fld F (j := 3) (by decide) rfl
  have y4 := y.fld F (j := 4) (by decide) rfl
  have y5 := y.fld F (j := 5) (by decide) rfl
  have y6 := y.fld F (j := 6) (by decide) rfl
  have e0 : eqV h (.tup (f.kinds.map Kin.w)) (.tup (g.kinds.map Kin.w)) = some (eqWs (f.kinds.map Kin.w) (g.kinds.map Kin.w)) := by rw [eqV_flat (flat_map flat_kin _) (flat_map flat_kin _), eqW]
  have e1 : eqV h (.tup (f.stands.map Sta.w)) (.tup (g.stands.map Sta.w)) = some (eqWs (f.stands.map Sta.w) (g.stands.map Sta.w)) := by rw [eqV_flat (flat_map flat_sta _) (flat_map flat_sta _), eqW]
  have e2 : eqV h (.tup ((sortPr f.near).map prW)) (.tup ((sortPr g.near).map prW)) = some (eqWs ((sortPr f.near).map prW) ((sortPr g.near).map prW)) := by rw [eqV_flat (flat_map flat_pr _) (flat_map flat_pr _), eqW]
  have e4 : eqV h f.weW g.weW = some (eqW f.weW g.weW) := eqV_flat (flat_we f) (flat_we g)
  have e5 : eqV h f.yaW g.yaW = some (eqW f.yaW g.yaW) := eqV_flat (flat_ya f) (flat_ya g)
  unfold foEq
  generalize eqWs (f.kinds.map Kin.w) (g.kinds.map Kin.w) = b0 at e0
  generalize eqWs (f.stands.map Sta.w) (g.stands.map Sta.w) = b1 at e1
  generalize eqWs ((sortPr f.near).map prW) ((sortPr g.near).map prW) = b2 at e2
  generalize eqW f.weW g.weW = b4 at e4
  generalize eqW f.yaW g.yaW = b5 at e5
  have cw : ∀ o y h, cmpC (ctx D n) o f.weW y h = cmpop o f.weW y h := fun o y h => cmpC_tup _ _ _ _ _
  have cy : ∀ o y h, cmpC (ctx D n) o f.yaW y h = cmpop o f.yaW y h := fun o y h => cmpC_tup _ _ _ _ _
  have s0 : evS (ctx D n) (.ite (.not (.isi (.var 1) [(.cls I.c_Forest)])) [.ret (.bl false)] []) [some (.ref a), some (.ref b)] h = .nx [some (.ref a), some (.ref b)] h := chk (by simp [evT, den, denL, hi])
  show back _ h (evSs _ [_, _, _, _] [some (.ref a), some (.ref b)] h) = _
  rw [evSs_nx s0]
  cases b0 with
  | false => simp [evSs, evS, evE, evT, den, denL, F.f0, x0, y0, e0]
  | true =>
    cases b1 with
    | false => simp [evSs, evS, evE, evT, den, denL, F.f0, F.f1, x0, y0, e0, x1, y1, e1]
    | true =>
      cases b2 with
      | false => simp [evSs, evS, evE, evT, den, denL, F.f0, F.f1, F.f2, x0, y0, e0, x1, y1, e1, x2, y2, e2]
      | true =>
        have s1 : evS (ctx D n) (.ite (.or (.cmp .ne (.fld (.var 0) I.f_kinds) (.fld (.var 1) I.f_kinds)) (.or (.cmp .ne (.fld (.var 0) I.f_stands) (.fld (.var 1) I.f_stands)) (.cmp .ne (.fld (.var 0) I.f_near) (.fld (.var 1) I.f_near)))) [.ret (.bl false)] []) [some (.ref a), some (.ref b)] h = .nx [some (.ref a), some (.ref b)] h := chk (by simp [evT, den, denL, F.f0, F.f1, F.f2, x0, y0, e0, x1, y1, e1, x2, y2, e2])
        rw [evSs_nx s1]
        cases h3 : f.gap == g.gap with
        | false => simp [evSs, evS, evE, evT, den, denL, F.f3, x3, y3, h3]
        | true =>
          cases b4 with
          | false => simp [evSs, evS, evE, evT, den, denL, F.f3, F.f4, x3, y3, h3, x4, y4, cw, e4]
          | true =>
            have s2 : evS (ctx D n) (.ite (.or (.cmp .ne (.fld (.var 0) I.f_gap) (.fld (.var 1) I.f_gap)) (.cmp .ne (.fld (.var 0) I.f_weather) (.fld (.var 1) I.f_weather))) [.ret (.bl false)] []) [some (.ref a), some (.ref b)] h = .nx [some (.ref a), some (.ref b)] h := chk (by simp [evT, den, denL, F.f3, F.f4, x3, y3, h3, x4, y4, cw, e4])
            rw [evSs_nx s2]
            cases b5 with
            | false => simp [evSs, evS, evE, evT, den, denL, F.f5, F.f6, x5, y5, cy, e5]
            | true => simp [evSs, evS, evE, evT, den, denL, F.f5, F.f6, x5, y5, cy, e5, x6, y6]
theorem eq_lst (F : HasF D I) (hk : 1 ≤ k) {a b : Nat} {l : List W} (y : h[b]? = some (.lst l)) : run D k I.Forest_eq [.ref a, .ref b] h = .ok (.bl false) h := by
  obtain ⟨n, rfl, hr⟩ := run_at (ws := [.ref a, .ref b]) (h := h) hk F.eq rfl
  rw [hr]
  have hi : isiV (ctx D n) [.cls I.c_Forest] (.ref b) h = .ok (.bl false) h := by
    rw [isi_lst y]
    rfl
  simp [B.Forest_eq, evSs, evS, evE, evT, den, denL, start, hi]
/-- the own == as the laws use it -/
theorem cmp_eq (F : HasF D I) (hk : 1 ≤ k) {a b : Nat} {f g : Fo} {o o' : Int} (x : ForestAt I h a f o) (y : ForestAt I h b g o') : cmpC (ctx D k) .eq (.ref a) (.ref b) h = .ok (.bl (foEq f g)) h ∧ cmpC (ctx D k) .ne (.ref a) (.ref b) h = .ok (.bl (!foEq f g)) h := by
  have e := eq_run F hk x y
  have xa := x.ins
  have ya := y.ins
  have eo : eqOf (ctx D k) (.ref a) h = some I.Forest_eq := by
    unfold eqOf
    simp only [xa, ctx_eqm, F.eqm]
  have kb : kd h (.ref b) = some (.ins I.c_Forest) := by
    unfold kd
    simp only [ya]
  have kc : kdC (ctx D k) (.ins I.c_Forest) = true := by show (D.ini I.c_Forest).isSome = true; rw [F.ini]; rfl
  unfold cmpC
  simp only [eo, kb, kc, if_true, ctx_call, e, then_okk, isB, notE]
  exact ⟨trivial, trivial⟩
theorem cmp_lst (F : HasF D I) (hk : 1 ≤ k) {a b : Nat} {f : Fo} {o : Int} {l : List W} (x : ForestAt I h a f o) (y : h[b]? = some (.lst l)) : cmpC (ctx D k) .eq (.ref a) (.ref b) h = .ok (.bl false) h := by
  have e := eq_lst (k := k) (a := a) F hk y
  have xa := x.ins
  have eo : eqOf (ctx D k) (.ref a) h = some I.Forest_eq := by
    unfold eqOf
    simp only [xa, ctx_eqm, F.eqm]
  have kb : kd h (.ref b) = some .list := by
    unfold kd
    simp only [y]
  unfold cmpC
  simp only [eo, kb, kdC, if_true, ctx_call, e, then_okk, isB]
end
end M2

namespace M2
/-! ### the pot is made -/
def absI (x : Int) : Int := if x < 0 then -x else x
def slice63 (ns : List Int) : List Int := cut ns none (some 63)
theorem cut_map {ns : List Int} : cut (ns.map W.int) none (some 63) = (slice63 ns).map .int := by
  unfold slice63 cut
  rw [List.length_map, List.map_take, List.map_drop]
theorem slice_len {ns : List Int} : (slice63 ns).length ≤ 63 := by
  unfold slice63 cut
  rw [List.length_take]
  have : clip ns.length ns.length (some 63) ≤ 63 := by
    unfold clip
    simp
    omega
  omega
def heap0 (ns : List Int) : Hm := [.lst (((slice63 ns).map absI).map .int), potO 0 20011 0]
theorem heap0_pot (ns : List Int) : PotI (heap0 ns) := ⟨⟨(slice63 ns).map absI, rfl⟩, ⟨0, 20011, 0, rfl, by decide, by decide, by decide⟩, by
  unfold Hm.cl heap0
  simp only [List.all_cons, List.all_nil, Bool.and_true, Bool.and_eq_true]
  exact ⟨clAll_pu _ (pu_ints _), rfl⟩⟩
section
variable {D : Prog} {I : Ix} {k : Nat} {h : Hm}
theorem pot (P : HasP D I) (hk : 1 ≤ k) {ns : List Int} : run D k I.l_pot [.kl (ns.map .int)] [] = .ok (.ref 1) (heap0 ns) := by
  obtain ⟨n, rfl, hr⟩ := run_at (ws := [.kl (ns.map .int)]) (h := []) hk P.pot rfl
  have sl : getSlice (.kl (ns.map .int)) none (some 63) [] = .ok (.kl ((slice63 ns).map .int)) [] := by
    unfold getSlice
    simp only [cut_map]
  have sv : srcV .seq (.kl ((slice63 ns).map .int)) .non [] = .ok ⟨(slice63 ns).map .int, [], [], none⟩ [] := rfl
  have cr : compRun (compTurn false [1] (fun _ h => R.ok true h) (fun s h => ((varV 1 s h).then fun x h1 => R.ok [x] h1).then (b1op .abs)) [some (.kl (ns.map .int)), none]) ⟨(slice63 ns).map .int, [], [], none⟩ [] = .ok (((slice63 ns).map absI).map .int) [] := by
    have e : ((slice63 ns).map W.int).map (fun w => match w with | .int x => W.int (absI x) | w => w) = ((slice63 ns).map absI).map .int := by rw [List.map_map, List.map_map]; rfl
    rw [← e]
    refine comp_val rfl (fun w hw => ?_) (by rw [List.length_map]; have := slice_len (ns := ns); omega)
    obtain ⟨x, _, rfl⟩ := List.mem_map.mp hw
    simp [compTurn, setT, setAll, absI]
  rw [hr]
  have e : evS (ctx D n) (.ret (.new (.lst [(.new (.lc [1] false [1] (.b1 .abs [(.var 1)]) .seq (.slc (.var 0) false .non true (.int 63)) .non (.bl true))), (.int 0), (.int 20011), (.int 0)]))) [some (.kl (ns.map .int)), none] [] = .rt (.ref 1) (heap0 ns) := by
    have sh : ∀ (x : W) (h : Hm), short [x, .int 0, .int 20011, .int 0] h = .ok [x, .int 0, .int 20011, .int 0] h := fun x h => by
      unfold short
      exact if_pos (le_line (by simp))
    simp [evS, evE, den, denL, partD, intPart, sl, sv, cr, sh, heap0, newD', potO, -List.map_map]
  show back _ [] (evSs _ [_] [some (.kl (ns.map .int)), none] []) = _
  rw [evSs_rt e, back_rt]
  rfl
/-! ### the same -/
def leaf : W → Bool
  | .non => true
  | .bl _ => true
  | .int _ => true
  | .str _ => true
  | _ => false
/-- a tree that is looked at so deep -/
def Sm : Nat → W → Prop
  | 0, w => leaf w = true
  | n + 1, w => leaf w = true ∨ ∃ l, (w = .tup l ∨ w = .kl l) ∧ l.length ≤ 1000 ∧ ∀ x ∈ l, Sm n x
theorem same_leaf (S : D.fns I.l_same = some (B.l_same I)) (hk : 1 ≤ k) {w : W} (hw : leaf w = true) : run D k I.l_same [w, w] h = .ok (.bl true) h := by
  obtain ⟨n, rfl, hr⟩ := run_at (ws := [w, w]) (h := h) hk S rfl
  rw [hr]
  cases w with
  | non => simp [B.l_same, evSs, evS, evE, evT, den, denL, start, isK]
  | bl b => cases b <;> simp [B.l_same, evSs, evS, evE, evT, den, denL, start, isK, cmpop]
  | int i => simp [B.l_same, evSs, evS, evE, evT, den, denL, start, isK, cmpop]
  | str l => simp [B.l_same, evSs, evS, evE, evT, den, denL, start, isK, cmpop]
  | _ => cases hw
/-- two rows, place by place -/
theorem same_seq (S : D.fns I.l_same = some (B.l_same I)) (hk : 2 ≤ k) {m : Nat} {f d : W} {x y : Nat → W} {q : Kd} (hq : q = .tuple ∨ q = .list) (e1 : kd h f = some q) (e2 : kd h d = some q) (l1 : b1op .len [f] h = .ok (.int m) h) (l2 : b1op .len [d] h = .ok (.int m) h) (hm : m ≤ 1000)
    (g1 : ∀ i : Nat, i < m → getItem f (.int i) h = .ok (x i) h) (g2 : ∀ i : Nat, i < m → getItem d (.int i) h = .ok (y i) h) (hs : ∀ i, i < m → run D (k - 1) I.l_same [x i, y i] h = .ok (.bl true) h) :
    run D k I.l_same [f, d] h = .ok (.bl true) h := by
  obtain ⟨n, rfl, hr⟩ := run_at (ws := [f, d]) (h := h) (show 1 ≤ k by omega) S rfl
  rw [hr]
  have kc : kdC (ctx D n) q = true := by rcases hq with rfl | rfl <;> rfl
  have hi : ∀ t, isiV (ctx D n) [t] f h = .ok (.bl (isK q t)) h := fun t => isi_1 e1 kc
  have hj : ∀ t, isiV (ctx D n) [t] d h = .ok (.bl (isK q t)) h := fun t => isi_1 e2 kc
  have cr : compRun (compTurn false [2] (fun s h1 => (((varV 0 s h1).then fun x h1 => (varV 2 s h1).then fun y h2 => getItem x y h2).then fun x h1 => (((varV 1 s h1).then fun x h1 => (varV 2 s h1).then fun y h2 => getItem x y h2).then fun x h1 => R.ok [x] h1).then fun ws h2 => R.ok (x :: ws) h2).then (run D n I.l_same) |>.then truthOf |>.then notB)
      (varV 2) [some f, some d, none]) ⟨upto 0 m, [], h, none⟩ h = .ok ((upto 0 m).filterMap fun _ => none) h := by
    refine comp_run (fun w hw => ?_) (by rw [upto, List.length_map, List.length_range]; exact le_line hm)
    obtain ⟨i, hi, rfl⟩ := List.mem_map.mp hw
    have hi : i < m := by simpa using hi
    have ei : ((0 : Int) + (i : Nat)) = (i : Int) := by omega
    rw [ei]
    have a1 := g1 i hi
    have a2 := g2 i hi
    have a3 := hs i hi
    rw [show n + 1 - 1 = n from rfl] at a3
    simp [compTurn, setT, setAll, varV, a1, a2, a3]
  have nl : ((upto 0 m).filterMap fun _ => (none : Option W)) = [] := by simp
  rw [nl] at cr
  have e3 : evS (ctx D n) (.ite (.or (.cmp .ne (.isi (.var 1) [.tuple]) (.isi (.var 0) [.tuple])) (.cmp .ne (.isi (.var 1) [.list]) (.isi (.var 0) [.list]))) [.ret (.bl false)] []) [some f, some d, none] h = .nx [some f, some d, none] h := by
    simp [evSs, evS, evE, evT, den, varV, hi, hj]
  have e4 : evS (ctx D n) (.ite (.cmp .ne (.b1 .len [(.var 0)]) (.b1 .len [(.var 1)])) [.ret (.bl false)] []) [some f, some d, none] h = .nx [some f, some d, none] h := by
    simp [evSs, evS, evE, evT, den, denL, varV, l1, l2]
  have e5 : evS (ctx D n) (.ret (.cmp .eq (.lc [2] false [2] (.var 2) .rng1 (.b1 .len [(.var 1)]) .non (.not (.call I.l_same [(.sub (.var 0) (.var 2)), (.sub (.var 1) (.var 2))]))) (.lst []))) [some f, some d, none] h = .rt (.bl true) h := by
    simp [evS, evE, den, denL, l2, src_rng hm, -truthOf_bl]
    rw [cr]
    simp only [then_okk, klV_ok, short_nil]
    rw [cmpC_of (x := .kl []) (eqOf_nr nofun)]
    rfl
  show back _ h (evSs _ (_ :: _) [some f, some d, none] h) = _
  rw [evSs, evS]
  have et : evT (ctx D n) [some f, some d, none] (.or (.isi (.var 1) [.tuple]) (.isi (.var 1) [.list])) h = .ok true h := by
    simp [evT, den, varV, hj]
    rcases hq with rfl | rfl <;> simp [isK, hj]
  rw [et]
  simp only [ofR_ok]
  rw [evSs_nx e3, evSs_nx e4, evSs_rt e5]
  simp
theorem get_nth {l : List W} {w : W} {j : Nat} (ra : RowAt h w l) (hj : j < l.length) : getItem w (.int j) h = .ok (l.getD j .non) h := by
  refine ra.get (j := j) (by rw [place_nn (by omega) (by omega)]; simp) ?_
  rw [List.getElem?_eq_getElem hj, List.getD_eq_getElem?_getD, List.getElem?_eq_getElem hj]
  rfl
theorem same_tree (S : D.fns I.l_same = some (B.l_same I)) : ∀ (n k : Nat), n + 1 ≤ k → ∀ w : W, Sm n w → run D k I.l_same [w, w] h = .ok (.bl true) h
  | 0, k, hk, w, hw => same_leaf S (by omega) hw
  | n + 1, k, hk, w, hw => by
    rcases hw with hw | ⟨l, rfl | rfl, hl, hx⟩
    · exact same_leaf S (by omega) hw
    · have ra : RowAt h (.tup l) l := .inr (.inl rfl)
      refine same_seq S (by omega) (m := l.length) (x := fun i => l.getD i .non) (y := fun i => l.getD i .non) (.inl rfl) rfl rfl ra.len ra.len hl (fun i hi => get_nth ra hi) (fun i hi => get_nth ra hi) fun i hi => ?_
      refine same_tree S n (k - 1) (by omega) _ (hx _ ?_)
      rw [List.getD_eq_getElem?_getD, List.getElem?_eq_getElem hi]
      exact List.getElem_mem hi
    · have ra : RowAt h (.kl l) l := .inr (.inr rfl)
      refine same_seq S (by omega) (m := l.length) (x := fun i => l.getD i .non) (y := fun i => l.getD i .non) (.inr rfl) rfl rfl ra.len ra.len hl (fun i hi => get_nth ra hi) (fun i hi => get_nth ra hi) fun i hi => ?_
      refine same_tree S n (k - 1) (by omega) _ (hx _ ?_)
      rw [List.getD_eq_getElem?_getD, List.getElem?_eq_getElem hi]
      exact List.getElem_mem hi
end
end M2

namespace M2
/-! ### steps of expressions -/
section
variable {C : Ctx} {s : Env} {h h1 h2 h3 : Hm} {a b c : E} {x y z : W} {l ws : List W} {es : List E} {r : R W}
theorem ev_var {i : Nat} (e : s[i]? = some (some x)) : evE C s (.var i) h = .ok x h := var_some e
theorem ev_int (i : Int) : evE C s (.int i) h = .ok (.int i) h := rfl
theorem ev_non : evE C s .non h = .ok .non h := rfl
theorem ev_str (l : List Nat) : evE C s (.str l) h = .ok (.str l) h := rfl
theorem ev_bin {o : Bop} (ea : evE C s a h = .ok x h1) (eb : evE C s b h1 = .ok y h2) : evE C s (.bin o a b) h = binop o x y h2 := by
  have ea : (den C a).v s h = .ok x h1 := ea
  have eb : (den C b).v s h1 = .ok y h2 := eb
  simp [evE, den, ea, eb]
theorem ev_sub (ea : evE C s a h = .ok x h1) (eb : evE C s b h1 = .ok y h2) : evE C s (.sub a b) h = getItem x y h2 := by
  have ea : (den C a).v s h = .ok x h1 := ea
  have eb : (den C b).v s h1 = .ok y h2 := eb
  simp [evE, den, ea, eb]
theorem ev_subi {i : Int} (ea : evE C s a h = .ok x h1) : evE C s (.sub a (.int i)) h = getItem x (.int i) h1 := ev_sub ea rfl
theorem ev_cmp {o : Cop} (ea : evE C s a h = .ok x h1) (eb : evE C s b h1 = .ok y h2) : evE C s (.cmp o a b) h = cmpC C o x y h2 := by
  have ea : (den C a).v s h = .ok x h1 := ea
  have eb : (den C b).v s h1 = .ok y h2 := eb
  simp [evE, den, ea, eb]
theorem et_cmp {o : Cop} {v : Bool} (ea : evE C s a h = .ok x h1) (eb : evE C s b h1 = .ok y h2) (ec : cmpC C o x y h2 = .ok (.bl v) h3) : evT C s (.cmp o a b) h = .ok v h3 := by
  have ea : (den C a).v s h = .ok x h1 := ea
  have eb : (den C b).v s h1 = .ok y h2 := eb
  simp [evT, den, ea, eb, ec]
theorem et_call {f : Nat} {v : Bool} (ee : evEs C s es h = .ok ws h1) (ec : C.call f ws h1 = .ok (.bl v) h2) : evT C s (.call f es) h = .ok v h2 := by
  have ee : denL C es s h = .ok ws h1 := ee
  simp [evT, den, ee, ec]
theorem et_not {v : Bool} (ea : evT C s a h = .ok v h1) : evT C s (.not a) h = .ok (!v) h1 := by
  have ea : (den C a).t s h = .ok v h1 := ea
  simp [evT, den, ea]
theorem et_or_f (ea : evT C s a h = .ok false h1) : evT C s (.or a b) h = evT C s b h1 := by
  have ea : (den C a).t s h = .ok false h1 := ea
  simp [evT, den, ea]
theorem et_or_t (ea : evT C s a h = .ok true h1) : evT C s (.or a b) h = .ok true h1 := by
  have ea : (den C a).t s h = .ok true h1 := ea
  simp [evT, den, ea]
theorem es_nil : evEs C s [] h = .ok [] h := by simp [evEs, denL]
theorem es_cons (ea : evE C s a h = .ok x h1) (ee : evEs C s es h1 = .ok ws h2) : evEs C s (a :: es) h = .ok (x :: ws) h2 := by
  have ea : (den C a).v s h = .ok x h1 := ea
  have ee : denL C es s h1 = .ok ws h2 := ee
  simp [evEs, denL, ea, ee]
theorem ev_lst (ee : evEs C s es h = .ok ws h1) (hl : ws.length ≤ 1000) : evE C s (.lst es) h = .ok (.kl ws) h1 := by
  have ee : denL C es s h = .ok ws h1 := ee
  simp [evE, den, ee, short_lit hl]
theorem ev_new (ea : evE C s a h = .ok (.kl l) h1) : evE C s (.new a) h = .ok (.ref h1.length) (h1 ++ [.lst l]) := by
  have ea : (den C a).v s h = .ok (.kl l) h1 := ea
  simp [evE, den, newD', ea]
theorem ev_tup (ee : evEs C s es h = .ok ws h1) (hl : ws.length ≤ 1000) : evE C s (.tup es) h = .ok (.tup ws) h1 := by
  have ee : denL C es s h = .ok ws h1 := ee
  simp [evE, den, ee, tup_lit hl]
theorem ev_call {f : Nat} (ee : evEs C s es h = .ok ws h1) : evE C s (.call f es) h = C.call f ws h1 := by
  have ee : denL C es s h = .ok ws h1 := ee
  simp [evE, den, ee]
theorem ev_make {f : Nat} (ee : evEs C s es h = .ok ws h1) : evE C s (.make f es) h = makeV C f ws h1 := by
  have ee : denL C es s h = .ok ws h1 := ee
  simp [evE, den, ee]
theorem ev_b1 {o : B1} (ee : evEs C s es h = .ok ws h1) : evE C s (.b1 o es) h = b1op o ws h1 := by
  have ee : denL C es s h = .ok ws h1 := ee
  simp [evE, den, ee]
theorem ev_fld {f : Nat} (ea : evE C s a h = .ok x h1) : evE C s (.fld a f) h = getFld C.na x f h1 := by
  have ea : (den C a).v s h = .ok x h1 := ea
  simp [evE, den, ea]
/-- the row that an expression gives -/
theorem el_of (hl : (den C a).l = fun s h => ((den C a).v s h).then rowOf) (ea : evE C s a h = .ok x h1) (er : rowOf x h1 = .ok l h1) : evL C s a h = .ok l h1 := by
  have ea : (den C a).v s h = .ok x h1 := ea
  unfold evL
  rw [hl]
  simp [ea, er]
theorem ev_list (ea : evL C s a h = .ok l h1) : evE C s (.bl1 .list a) h = .ok (.kl l) h1 := by
  have ea : (den C a).l s h = .ok l h1 := ea
  simp [evE, den, ea, blop]
theorem ev_tuple (ea : evL C s a h = .ok l h1) : evE C s (.bl1 .tuple a) h = .ok (.tup l) h1 := by
  have ea : (den C a).l s h = .ok l h1 := ea
  simp [evE, den, ea, blop]
theorem ev_sorted {ps : List (Int × Int)} (ea : evL C s a h = .ok (ps.map prW) h1) : evE C s (.bl1 .sorted a) h = .ok (.kl ((sortPr ps).map prW)) h1 := by
  have ea : (den C a).l s h = .ok (ps.map prW) h1 := ea
  simp [evE, den, ea, blop, prsOf_map]
theorem ev_slc_lo {i : Int} (ea : evE C s a h = .ok x h1) : evE C s (.slc a true (.int i) false .non) h = getSlice x (some i) none h1 := by
  have ea : (den C a).v s h = .ok x h1 := ea
  simp [evE, den, ea, partD, intPart]
theorem ev_slc_hi {i : Int} (ea : evE C s a h = .ok x h1) : evE C s (.slc a false .non true (.int i)) h = getSlice x none (some i) h1 := by
  have ea : (den C a).v s h = .ok x h1 := ea
  simp [evE, den, ea, partD, intPart]
theorem sl_kl {lo hi : Option Int} : getSlice (.kl l) lo hi h = .ok (.kl (cut l lo hi)) h := rfl
theorem row_ref {r : Nat} (e : h[r]? = some (.lst l)) : rowOf (.ref r) h = .ok l h := by
  unfold rowOf itemsOf asL
  simp only [e]
theorem st_asg {i : Nat} (ea : evE C s a h = .ok x h1) : evS C (.asg (.var i) a) s h = .nx (s.set i (some x)) h1 := by
  rw [evS, ea]
  rfl
theorem st_ret (ea : evE C s a h = .ok x h1) : evS C (.ret a) s h = .rt x h1 := by
  rw [evS, ea]
  rfl
theorem st_skip {A : List S} (ea : evT C s a h = .ok false h1) : evS C (.ite a A []) s h = .nx s h1 := by
  rw [evS, ea]
  simp
theorem st_t {A Q : List S} (ea : evT C s a h = .ok true h1) : evS C (.ite a A Q) s h = evSs C A s h1 := by
  rw [evS, ea]
  simp
theorem st_f {A Q : List S} (ea : evT C s a h = .ok false h1) : evS C (.ite a A Q) s h = evSs C Q s h1 := by
  rw [evS, ea]
  simp
end
/-! ### more steps of expressions -/
section
variable {C : Ctx} {s : Env} {h h1 h2 h3 : Hm} {a b c e : E} {x y z : W} {l ws : List W} {es : List E}
theorem et_bl {v : Bool} (ea : evE C s a h = .ok (.bl v) h1) (hl : (den C a).t = fun s h => ((den C a).v s h).then truthOf) : evT C s a h = .ok v h1 := by
  have ea : (den C a).v s h = .ok (.bl v) h1 := ea
  unfold evT
  rw [hl]
  simp [ea]
theorem ev_join {sep : List Nat} {ss : List (List Nat)} (ea : evE C s a h = .ok (.str sep) h1) (el : evL C s b h1 = .ok (ss.map .str) h2) (hb : (ss.map List.length).sum + ss.length * sep.length ≤ line) : evE C s (.met .join a [b]) h = .ok (.str (joinS sep ss)) h2 := by
  have ea : (den C a).v s h = .ok (.str sep) h1 := ea
  have el : (den C b).l s h1 = .ok (ss.map .str) h2 := el
  have j : joinop (.str sep) (ss.map .str) h2 = .ok (.str (joinS sep ss)) h2 := by
    unfold joinop
    simp only [strs_map]
    rw [if_pos hb]
  simp [evE, den, ea, el, j, recv, isRecv]
theorem el_lst (ee : evEs C s es h = .ok ws h1) (hl : ws.length ≤ 1000) : evL C s (.lst es) h = .ok ws h1 := by
  have ee : denL C es s h = .ok ws h1 := ee
  simp [evL, den, ee, short_lit hl]
theorem ev_lss (ee : evEs C s es h = .ok ws h1) (ea : evE C s a h1 = .ok x h2) (er : rowOf x h2 = .ok l h2) (hl : ws.length + l.length ≤ 1000) : evE C s (.lss es a) h = .ok (.kl (ws ++ l)) h2 := by
  have ee : denL C es s h = .ok ws h1 := ee
  have ea : (den C a).v s h1 = .ok x h2 := ea
  simp [evE, den, ee, ea, er, short_lit (show (ws ++ l).length ≤ 1000 by rw [List.length_append]; exact hl)]
/-- a comprehension over a row, its raw row -/
theorem el_map {own : List Nat} {i : Nat} {g : W → W} (ea : evE C s a h = .ok x h1) (ra : RowAt h1 x l) (hf : ∀ y ∈ l, evE C (s.set i (some y)) e h1 = .ok (g y) h1) (hl : l.length ≤ 1000) : evL C s (.lc own false [i] e .seq a .non (.bl true)) h = .ok (l.map g) h1 := by
  have ea : (den C a).v s h = .ok x h1 := ea
  obtain ⟨gs, sv, og⟩ := ra.src
  have cr : compRun (compTurn false [i] (den C (.bl true)).t (den C e).v s) ⟨l, gs, h1, none⟩ h1 = .ok (l.map g) h1 := comp_val og (fun y hy => by
    have hy := hf y hy
    have hy : (den C e).v (s.set i (some y)) h1 = .ok (g y) h1 := hy
    simp [compTurn, setT, setAll, den, hy]) hl
  unfold evL
  rw [den]
  have hn : (den C .non).v s h1 = .ok .non h1 := ev_non
  simp only [mkL_l, ea, then_okk, hn, sv]
  exact cr
theorem ev_of (hv : (den C a).v = fun s h => ((den C a).l s h).then klV) (ea : evL C s a h = .ok l h1) : evE C s a h = .ok (.kl l) h1 := by
  have ea : (den C a).l s h = .ok l h1 := ea
  unfold evE
  rw [hv]
  simp [ea]
theorem ev_ite {v : Bool} (ec : evT C s c h = .ok v h1) : evE C s (.ite c a b) h = evE C s (if v then a else b) h1 := by
  have ec : (den C c).t s h = .ok v h1 := ec
  cases v <;> simp [evE, den, ec]
theorem ev_strb {w : List Nat} (ea : evE C s a h = .ok x h1) (eb : b1op .str [x] h1 = .ok (.str w) h1) : evE C s (.b1 .str [a]) h = .ok (.str w) h1 := (ev_b1 (es_cons ea es_nil)).trans eb
theorem add_str {u v : List Nat} (hl : u.length + v.length ≤ 1000) : binop .add (.str u) (.str v) h = .ok (.str (u ++ v)) h := by
  show (if u.length + v.length ≤ line then _ else _) = _
  rw [if_pos (le_line hl)]
theorem ev_slc2 {i j : Int} (ea : evE C s a h = .ok x h1) : evE C s (.slc a true (.int i) true (.int j)) h = getSlice x (some i) (some j) h1 := by
  have ea : (den C a).v s h = .ok x h1 := ea
  simp [evE, den, ea, partD, intPart]
end
/-! ### statements -/
theorem evSs_one {C : Ctx} {x : S} {s : Env} {h : Hm} : evSs C [x] s h = evS C x s h := by
  rw [evSs]
  cases evS C x s h <;> simp [RS.seq, evSs_nil]
theorem st_sub {C : Ctx} {s : Env} {e : E} {x : W} {h h1 : Hm} {a r j : Nat} {i : Int} {l : List W} (ea : evE C s e h = .ok x h1) (sa : s[a]? = some (some (.ref r))) (er : h1[r]? = some (.lst l)) (pl : place l.length i = some j) : evS C (.asg (.sub (.var a) (.int i)) e) s h = .nx s (h1.set r (.lst (l.set j x))) := by
  have v : evE C s (.var a) h1 = .ok (.ref r) h1 := ev_var sa
  rw [evS, ea]
  simp only [ofR_ok, M2.asg, v, ev_int, s_ref er pl, nxO]
theorem st_par {C : Ctx} {s s' : Env} {es : List E} {ws : List W} {ts : List Nat} {h h1 : Hm} (ee : evEs C s es h = .ok ws h1) (e : setAll ts ws s = some s') : evS C (.par ts es) s h = .nx s' h1 := by
  rw [evS, ee]
  simp only [ofR_ok, e, nxE]
theorem st_append {C : Ctx} {s : Env} {e : E} {w : W} {h h1 : Hm} {a r : Nat} {l : List W} (sa : s[a]? = some (some (.ref r))) (er : h[r]? = some (.lst l)) (ee : evE C s e h = .ok w h1) (er1 : h1[r]? = some (.lst l)) (hl : l.length ≤ 1000) : evS C (.exp (.met .append (.var a) [e])) s h = .nx s (h1.set r (.lst (l ++ [w]))) := by
  have ee : (den C e).v s h = .ok w h1 := ee
  have v : varV a s h = .ok (.ref r) h := var_some sa
  simp [evS, evE, den, v, recv_app er, ee, m_append er1 hl]

/-! ### forests -/
def specL (f : Fo) : List W := [.kl (f.kinds.map Kin.w), .kl (f.stands.map Sta.w), .kl (f.near.map prW), .int f.gap, f.weW, f.yaW, .int f.due]
theorem specW_eq (f : Fo) : f.specW = .kl (specL f) := rfl
theorem foFs_pu (f : Fo) (o : Int) : puAll ((foFs f o).map (·.2)) = true := by
  obtain ⟨p0, p1, p2, p4, p5, p8, p9, p10⟩ := f.w_pu
  simp only [foFs, fo8, List.cons_append, List.nil_append, List.map_cons, List.map_nil, puAll, p0, p1, p2, p4, p5, p8, p9, p10]
  rfl
theorem fzF_pu {n : Nat} {h : Hm} : ∀ {fs : List (Nat × W)}, puAll (fs.map (·.2)) = true → fzF n h fs = some fs
  | [], _ => rfl
  | (f, w) :: l, e => by
    rw [List.map_cons, puAll, Bool.and_eq_true] at e
    rw [fzF, fz_pu e.1, fzF_pu e.2]
theorem gcI_pu {h0 h : Hm} {r c : Nat} {fs : List (Nat × W)} (b : baseOk h0 h = true) (hr : h0.length ≤ r) (e : h[r]? = some (.ins c fs)) (pu : puAll (fs.map (·.2)) = true) : gcI h0 r h = .ok (.ref h0.length) (h.take h0.length ++ [.ins c fs]) := by
  unfold gcI
  rw [b, decide_eq_true hr]
  simp only [e, Bool.and_self, if_true, fzF_pu pu]
/-- a new instance is given -/
theorem gc_ins {h0 h : Hm} {r c : Nat} {fs : List (Nat × W)} (b : baseOk h0 h = true) (hr : h0.length ≤ r) (e : h[r]? = some (.ins c fs)) (pu : puAll (fs.map (·.2)) = true) : gc true h0 (.ref r) h = .ok (.ref h0.length) (h.take h0.length ++ [.ins c fs]) := by
  have z : fzW h0.length h (.ref r) = none := by
    show fzR h0.length h 8 r = none
    simp only [fzR, if_neg (show ¬ r < h0.length by omega), e]
  have z2 : isIns h (.ref r) = some r := by
    unfold isIns
    simp only [e]
  unfold gc
  rw [b]
  simp only [if_true, z, z2]
  exact gcI_pu b hr e pu
theorem gc_fo {h t : Hm} {I : Ix} {f : Fo} {o : Int} {r : Nat} (hr : h.length ≤ r) (e : (h ++ t)[r]? = some (forestO I f o)) : gc true h (.ref r) (h ++ t) = .ok (.ref h.length) (h ++ [forestO I f o]) := by
  rw [gc_ins (baseOk_app _ _) hr e (foFs_pu f o), List.take_left']
  · rfl
  · rfl
/-- an old instance is given -/
theorem gc_old {h t : Hm} {r c : Nat} {fs : List (Nat × W)} {fz : Bool} (hr : r < h.length) : gc fz h (.ref r) (h ++ t) = .ok (.ref r) h := by
  have b := baseOk_app h t
  have tk : (h ++ t).take h.length = h := List.take_left' rfl
  cases fz with
  | true =>
    have z : fzW h.length (h ++ t) (.ref r) = some (.ref r) := by
      show fzR h.length (h ++ t) 8 r = _
      simp only [fzR, if_pos hr]
    unfold gc
    rw [b]
    simp only [if_true, z, tk]
  | false =>
    show gc0 h (.ref r) (h ++ t) = _
    unfold gc0
    rw [b]
    simp only [if_true, if_pos hr, tk]
section
variable {D : Prog} {I : Ix} {k : Nat} {h : Hm}
theorem l_made (P : HasW D I) (J : HasJ D I) (F : HasF D I) (M : D.fns I.l_made = some (B.l_made I)) (hk : 8 ≤ k) {f : Fo} {o : Int} (ok : Fo.Ok o f) :
    run D k I.l_made [f.specW] h = .ok (.ref h.length) (h ++ [forestO I f o]) := by
  obtain ⟨n, rfl, hr⟩ := run_at (ws := [f.specW]) (h := h) (show 1 ≤ k by omega) M rfl
  let s : Env := [some f.specW]
  have v : evE (ctx D n) s (.var 0) h = .ok f.specW h := ev_var rfl
  have a0 := ev_list (el_of rfl ((ev_subi v).trans (show getItem f.specW (.int 0) h = .ok (.kl (f.kinds.map Kin.w)) h from rfl)) rfl)
  have a1 := ev_list (el_of rfl ((ev_subi v).trans (show getItem f.specW (.int 1) h = .ok (.kl (f.stands.map Sta.w)) h from rfl)) rfl)
  have a2 := ev_tuple (el_of rfl ((ev_subi v).trans (show getItem f.specW (.int 2) h = .ok (.kl (f.near.map prW)) h from rfl)) rfl)
  have a3 := (ev_subi v).trans (show getItem f.specW (.int 3) h = .ok (.int f.gap) h from rfl)
  have a4 := (ev_subi v).trans (show getItem f.specW (.int 4) h = .ok f.weW h from rfl)
  have a5 := (ev_subi v).trans (show getItem f.specW (.int 5) h = .ok f.yaW h from rfl)
  have a6 := (ev_subi v).trans (show getItem f.specW (.int 6) h = .ok (.int f.due) h from rfl)
  have e := made (k := n) (h := h) P J F (by omega) ok (kw := .kl (f.kinds.map Kin.w)) (sw := .kl (f.stands.map Sta.w)) (nw := .tup (f.near.map prW)) (np := f.near) (.inr (.inr rfl)) (.inr (.inr rfl)) (.inr (.inl rfl)) (List.Perm.refl _)
  have em := ev_make (f := I.c_Forest) (es_cons a0 (es_cons a1 (es_cons a2 (es_cons a3 (es_cons a4 (es_cons a5 (es_cons a6 es_nil)))))))
  rw [hr]
  show back _ h (evSs _ [_] s h) = _
  rw [evSs_rt (st_ret (em.trans e)), back_rt]
  exact gc_fo (Nat.le_refl _) last_get
end
end M2

namespace M2
/-! ### texts -/
def nW (i : Int) : List Nat := natDec i.natAbs
theorem nW_num (i : Int) : nW i = TL.numL i.natAbs := rfl
/-- the word of a thing in a line -/
def wordOf : W → List Nat
  | .str l => l
  | .int i => nW i
  | _ => []
def okTh (w : W) : Prop := (∃ l, w = .str l ∧ l.length ≤ 100) ∨ ∃ i, w = .int i ∧ 0 ≤ i ∧ i ≤ 1000
theorem nW_len {i : Int} (h0 : 0 ≤ i) (h1 : i ≤ 1000) : (nW i).length ≤ 4 := TL.numL_len (by decide) (by omega)
theorem okTh.len {w : W} (h : okTh w) : (wordOf w).length ≤ 100 := by
  rcases h with ⟨l, rfl, hl⟩ | ⟨i, rfl, h0, h1⟩
  · exact hl
  · have := nW_len h0 h1
    show (nW i).length ≤ 100
    omega
theorem str_th {w : W} {h : Hm} (o : okTh w) : b1op .str [w] h = .ok (.str (wordOf w)) h := by
  rcases o with ⟨l, rfl, hl⟩ | ⟨i, rfl, h0, h1⟩
  · rfl
  · show (if 0 ≤ i ∧ i.natAbs.log2 < 1900 then _ else _) = _
    have : i.natAbs.log2 < 1900 := by
      by_cases hz : i.natAbs = 0
      · rw [hz]; decide
      · have : i.natAbs.log2 < 20 := by rw [Nat.log2_lt hz]; omega
        omega
    rw [if_pos ⟨h0, this⟩]
    rfl
theorem sum_le {A : Type} {f : A → Nat} {B : Nat} : ∀ {l : List A}, (∀ x ∈ l, f x ≤ B) → (l.map f).sum ≤ l.length * B
  | [], _ => by simp
  | x :: l, h => by
    have h1 := h x (by simp)
    have h2 := sum_le (f := f) (l := l) fun y hy => h y (by simp [hy])
    simp only [List.map_cons, List.sum_cons, List.length_cons, Nat.add_mul]
    omega
theorem join_ok {ss : List (List Nat)} {sep : List Nat} (h : ∀ x ∈ ss, x.length ≤ 1000) (hl : ss.length ≤ 1000) (hs : sep.length ≤ 1) : (ss.map List.length).sum + ss.length * sep.length ≤ line := by
  have h1 := sum_le (f := List.length) h
  have h2 : ss.length * sep.length ≤ ss.length * 1 := Nat.mul_le_mul_left _ hs
  have h3 : ss.length * 1000 ≤ 1000 * 1000 := Nat.mul_le_mul_right _ hl
  have h4 : 1001000 ≤ line := by decide +kernel
  omega
section
variable {D : Prog} {I : Ix} {k : Nat} {h : Hm}
structure HasT (D : Prog) (I : Ix) : Prop where
  line_of : D.fns I.line_of = some (B.line_of I)
  kind_lines : D.fns I.kind_lines = some (B.kind_lines I)
  forest_lines : D.fns I.forest_lines = some (B.forest_lines I)
  forest_text : D.fns I.forest_text = some (B.forest_text I)
theorem words_map (l : List W) : (l.map fun x => W.str (wordOf x)) = (l.map wordOf).map .str := by rw [List.map_map]; rfl
theorem line_of (T : HasT D I) (hk : 1 ≤ k) {w : W} {l : List W} (ra : RowAt h w l) (ok : ∀ x ∈ l, okTh x) (hl : l.length ≤ 100) : run D k I.line_of [w] h = .ok (.str (joinS [32] (l.map wordOf))) h := by
  obtain ⟨n, rfl, hr⟩ := run_at (ws := [w]) (h := h) hk T.line_of rfl
  let s : Env := [some w, none]
  have a0 := el_map (C := ctx D n) (own := [1]) (s := s) (i := 1) (e := .b1 .str [.var 1]) (g := fun x => .str (wordOf x)) (ev_var (i := 0) rfl) ra (fun y hy => ev_strb (ev_var rfl) (str_th (ok y hy))) (by omega)
  rw [words_map] at a0
  have a1 := ev_join (ev_str [32]) a0 (join_ok (fun x hx => by
    obtain ⟨y, hy, rfl⟩ := List.mem_map.mp hx
    have := (ok y hy).len
    omega) (by rw [List.length_map]; omega) (by simp))
  rw [hr]
  show back _ h (evSs _ [_] s h) = _
  rw [evSs_rt (st_ret a1), back_rt, gc_self]
end
end M2

namespace M2
/-! ### a forest's lines -/
abbrev sKind : List Nat := [107, 105, 110, 100]
abbrev sStand : List Nat := [115, 116, 97, 110, 100]
abbrev sNear : List Nat := [110, 101, 97, 114]
abbrev sGap : List Nat := [103, 97, 112]
abbrev sStorms : List Nat := [115, 116, 111, 114, 109, 115]
abbrev sYard : List Nat := [121, 97, 114, 100]
abbrev sDue : List Nat := [100, 117, 101]
abbrev sEnd : List Nat := [101, 110, 100]
abbrev sBeetles : List Nat := [98, 101, 101, 116, 108, 101, 115]
abbrev sFirm : List Nat := [102, 105, 114, 109]
def Kin.ws (x : Kin) : List (List (List Nat)) := [[sKind, x.name, nW x.ripe, nW x.weak, if x.firm then sBeetles else sFirm], x.timber.map nW, x.windfall.map nW]
def Sta.ws (x : Sta) : List (List Nat) := [sStand, x.name, x.kind, nW x.age]
def prWs (p : Int × Int) : List (List Nat) := [sNear, nW p.1, nW p.2]
def Fo.tail (f : Fo) : List (List (List Nat)) := [[sGap, nW f.gap], [sStorms, nW f.we.1, nW f.we.2.1, nW f.we.2.2], [sYard, nW f.ya.1, nW f.ya.2], [sDue, nW f.due], [sEnd]]
def Fo.words (f : Fo) : List (List (List Nat)) := f.kinds.flatMap Kin.ws ++ (f.stands.map Sta.ws ++ ((sortPr f.near).map prWs ++ f.tail))
def jn (l : List (List Nat)) : List Nat := joinS [32] l
def Fo.lines (f : Fo) : List (List Nat) := f.words.map jn
def Fo.text (f : Fo) : List Nat := joinS [] (f.lines.map (· ++ [10]))
/-! ### more steps -/
section
variable {C : Ctx} {s s' : Env} {h h1 h2 h' : Hm} {a b : E} {x y w : W} {l m ws : List W} {es : List E}
theorem st_extend {v r : Nat} (sa : s[v]? = some (some (.ref r))) (er : h[r]? = some (.lst l)) (ee : evE C s b h = .ok (.kl m) h1) (er1 : h1[r]? = some (.lst l)) (hl : l.length + m.length ≤ 1000) : evS C (.exp (.met .extend (.var v) [b])) s h = .nx s (h1.set r (.lst (l ++ m))) := by
  have ee : (den C b).v s h = .ok (.kl m) h1 := ee
  have v : varV v s h = .ok (.ref r) h := var_some sa
  have rc : ∀ z, recv .extend (.ref r) h z = z := fun z => by
    unfold recv isRecv asL
    simp [er]
  have mt : met1 .extend (.ref r) (.kl m) h1 = .ok .non (h1.set r (.lst (l ++ m))) := by
    unfold met1
    simp only [er1, lsO]
    rw [if_pos (le_line hl)]
  simp [evS, evE, den, v, rc, ee, mt]
theorem st_for {k : Bool} {t : List Nat} {body : List S} {its : List W} {gs : List (Nat × List W)} (ea : evE C s a h = .ok x h1) (sv : srcV .seq x .non h1 = .ok ⟨its, gs, h1, none⟩ h1) (go : forGo (forTurn k t (evSs C body)) gs its s h1 = .nx s' h') : evS C (.for k t .seq a .non body) s h = .nx s' h' := by
  rw [evS, ea, ofR_ok, ev_non, ofR_ok, sv, ofR_ok]
  show forEnd none (forGo _ _ _ s h1) = _
  rw [go]
  rfl
/-- a list of texts that stands last, and grows -/
abbrev hL (h : Hm) (acc : List (List Nat)) : Hm := h ++ [.lst (acc.map .str)]
theorem for_acc {A : Type} {f : W → Env → Hm → RS} {mk : Option W → Env} {wb : A → W} {ln : A → List (List Nat)} {h : Hm} {M B : Nat} : ∀ (xs : List A) (acc : List (List Nat)) (o : Option W),
    (∀ x ∈ xs, ∀ acc o, acc.length ≤ M → f (wb x) (mk o) (hL h acc) = .nx (mk (some (wb x))) (hL h (acc ++ ln x))) →
    (∀ x ∈ xs, (ln x).length ≤ B) → acc.length + xs.length * B ≤ M →
    ∃ o', forGo f [] (xs.map wb) (mk o) (hL h acc) = .nx (mk o') (hL h (acc ++ xs.flatMap ln))
  | [], acc, o, _, _, _ => ⟨o, by rw [List.map_nil, forGo]; simp [okG]⟩
  | x :: xs, acc, o, hf, hb, hM => by
    have hM' : acc.length + (xs.length * B + B) ≤ M := by rw [List.length_cons, Nat.add_mul, Nat.one_mul] at hM; exact hM
    have e1 := hf x (by simp) acc o (by omega)
    have b1 := hb x (by simp)
    obtain ⟨o2, e2⟩ := for_acc (M := M) (B := B) xs (acc ++ ln x) (some (wb x)) (fun y hy => hf y (by simp [hy])) (fun y hy => hb y (by simp [hy])) (by rw [List.length_append]; omega)
    refine ⟨o2, ?_⟩
    rw [List.map_cons, forGo, show okG [] (hL h acc) = true from rfl, if_pos rfl, e1, List.flatMap_cons, ← List.append_assoc]
    exact e2
theorem hL_get {acc : List (List Nat)} : (hL h acc)[h.length]? = some (.lst (acc.map .str)) := last_get
theorem hL_set {acc : List (List Nat)} {l : List W} {acc' : List (List Nat)} (e : l = acc'.map .str) : (hL h acc).set h.length (.lst l) = hL h acc' := by
  rw [e]
  exact hset (i := 0)
/-- one text more -/
theorem st_put {v : Nat} {acc : List (List Nat)} {t : List Nat} (sa : s[v]? = some (some (.ref h.length))) (ee : evE C s b (hL h acc) = .ok (.str t) (hL h acc)) (hl : acc.length ≤ 1000) : evS C (.exp (.met .append (.var v) [b])) s (hL h acc) = .nx s (hL h (acc ++ [t])) := by
  rw [st_append (a := v) sa hL_get ee hL_get (by rw [List.length_map]; exact hl), hL_set (acc' := acc ++ [t]) (by simp)]
theorem st_puts {v : Nat} {acc ts : List (List Nat)} (sa : s[v]? = some (some (.ref h.length))) (ee : evE C s b (hL h acc) = .ok (.kl (ts.map .str)) (hL h acc)) (hl : acc.length + ts.length ≤ 1000) : evS C (.exp (.met .extend (.var v) [b])) s (hL h acc) = .nx s (hL h (acc ++ ts)) := by
  rw [st_extend sa hL_get ee hL_get (by rw [List.length_map, List.length_map]; exact hl), hL_set (acc' := acc ++ ts) (by simp)]
end
theorem fl_len {A B : Type} (g : A → List B) (c : Nat) (h : ∀ x, (g x).length = c) : ∀ l : List A, (l.flatMap g).length = l.length * c
  | [] => by simp
  | x :: l => by rw [List.flatMap_cons, List.length_append, h x, fl_len g c h l, List.length_cons, Nat.add_mul]; omega
theorem fl_one {A B : Type} (g : A → B) : ∀ l : List A, (l.flatMap fun x => [g x]) = l.map g
  | [] => rfl
  | x :: l => by rw [List.flatMap_cons, fl_one g l]; rfl
theorem Fo.lines_eq (f : Fo) : f.lines = ((f.kinds.flatMap fun x => x.ws.map jn) ++ (f.stands.flatMap fun x => [jn x.ws]) ++ ((sortPr f.near).flatMap fun x => [jn (prWs x)])) ++ f.tail.map jn := by
  rw [fl_one, fl_one]
  unfold Fo.lines Fo.words
  rw [List.map_append, List.map_append, List.map_append, List.map_flatMap, List.map_map, List.map_map]
  simp only [List.append_assoc]
  rfl
section
variable {D : Prog} {I : Ix} {k : Nat} {h : Hm}
theorem th_str {l : List Nat} (h : l.length ≤ 100) : okTh (.str l) := .inl ⟨l, rfl, h⟩
theorem th_int {i : Int} (h0 : 0 ≤ i) (h1 : i ≤ 1000) : okTh (.int i) := .inr ⟨i, rfl, h0, h1⟩
theorem th_ints {lo : Int} {l : List Int} (hl : ∀ x ∈ l, 0 ≤ x ∧ x ≤ 99) : ∀ y ∈ l.map W.int, okTh y := fun y hy => by
  obtain ⟨x, hx, rfl⟩ := List.mem_map.mp hy
  have := hl x hx
  exact th_int this.1 (by omega)
theorem words_ints (l : List Int) : (l.map W.int).map wordOf = l.map nW := by rw [List.map_map]; rfl
theorem kind_lines (T : HasT D I) (hk : 2 ≤ k) {x : Kin} {o : Int} (ok : Kin.Ok o x) (o6 : o ≤ 6) (nl : x.name.length ≤ 8) : run D k I.kind_lines [x.w] h = .ok (.kl ((x.ws.map jn).map .str)) h := by
  obtain ⟨n, rfl, hr⟩ := run_at (ws := [x.w]) (h := h) (show 1 ≤ k by omega) T.kind_lines rfl
  let s : Env := [some x.w, some (.str x.name), some (.tup (x.timber.map .int)), some (.tup (x.windfall.map .int)), some (.int x.ripe), some (.int x.weak), some (.bl x.firm)]
  have q0 : evS (ctx D n) (.asg (.tup [1, 2, 3, 4, 5, 6]) (.var 0)) [some x.w, none, none, none, none, none, none] h = .nx s h := by
    rw [evS, ev_var (C := ctx D n) (s := [some x.w, none, none, none, none, none, none]) (h := h) (i := 0) (x := x.w) rfl]
    rfl
  have t := ok.timber
  have w := ok.windfall
  have rp := ok.ripe
  have wk := ok.weak
  have ei : evE (ctx D n) s (.ite (.var 6) (.str [98, 101, 101, 116, 108, 101, 115]) (.str [102, 105, 114, 109])) h = .ok (.str (if x.firm then sBeetles else sFirm)) h := by
    rw [ev_ite (et_bl (ev_var (x := .bl x.firm) rfl) rfl)]
    cases x.firm <;> rfl
  have hb : (if x.firm then sBeetles else sFirm).length ≤ 100 := by cases x.firm <;> decide
  have a0 := ev_lst (C := ctx D n) (s := s) (h := h) (es_cons (ev_str sKind) (es_cons (ev_var (i := 1) rfl) (es_cons (ev_var (i := 4) rfl) (es_cons (ev_var (i := 5) rfl) (es_cons ei es_nil))))) (by simp)
  let l1 : List W := [.str sKind, .str x.name, .int x.ripe, .int x.weak, .str (if x.firm then sBeetles else sFirm)]
  have l1ok : ∀ y ∈ l1, okTh y := fun y hy => by
    simp only [l1, List.mem_cons, List.not_mem_nil, or_false] at hy
    rcases hy with rfl | rfl | rfl | rfl | rfl
    · exact th_str (by decide)
    · exact th_str (by omega)
    · exact th_int (by omega) (by omega)
    · exact th_int (by omega) (by omega)
    · exact th_str hb
  have c0 := (ev_call (C := ctx D n) (f := I.line_of) (es_cons a0 es_nil)).trans (line_of (k := n) T (by omega) (.inr (.inr rfl)) l1ok (by simp [l1]))
  have c1 := (ev_call (C := ctx D n) (s := s) (h := h) (f := I.line_of) (es_cons (ev_var (i := 2) rfl) es_nil)).trans (line_of (k := n) T (by omega) (.inr (.inl rfl)) (th_ints (lo := 0) t.2) (by rw [List.length_map]; omega))
  have c2 := (ev_call (C := ctx D n) (s := s) (h := h) (f := I.line_of) (es_cons (ev_var (i := 3) rfl) es_nil)).trans (line_of (k := n) T (by omega) (.inr (.inl rfl)) (th_ints (lo := 0) w.2) (by rw [List.length_map]; omega))
  rw [words_ints] at c1 c2
  have a1 := ev_lst (es_cons c0 (es_cons c1 (es_cons c2 es_nil))) (by simp)
  rw [hr]
  show back _ h (evSs _ [_, _] [some x.w, none, none, none, none, none, none] h) = _
  rw [evSs_nx q0, evSs_rt (st_ret a1), back_rt]
  exact gc_self _ _ _
theorem Sta.th {f : Fo} {o : Int} (ok : Fo.Ok o f) {x : Sta} (hx : x ∈ f.stands) : x.name.length ≤ 8 ∧ x.kind.length ≤ 8 ∧ 0 ≤ x.age ∧ x.age ≤ 6 := by
  have ag := ok.sage x hx
  have o6 := ok.o6
  refine ⟨isLab_len (ok.sname x hx), ?_, ag.1, by omega⟩
  obtain ⟨y, hy, e⟩ := List.mem_map.mp (ok.skind x hx)
  rw [← e]
  exact isLab_len (ok.kname y hy)
theorem forest_lines (T : HasT D I) (F : HasF D I) (hk : 3 ≤ k) {r : Nat} {f : Fo} {o : Int} (A : ForestAt I h r f o) (ok : Fo.Ok o f) : run D k I.forest_lines [.ref r] h = .ok (.kl (f.lines.map .str)) h := by
  obtain ⟨n, rfl, hr⟩ := run_at (ws := [.ref r]) (h := h) (show 1 ≤ k by omega) T.forest_lines rfl
  have o6 := ok.o6
  have af : ∀ (acc : List (List Nat)) (s : Env), s[0]? = some (some (.ref r)) → ∀ (j fj : Nat) (hj : j < 11) (ej : fj = j) {w : W} (e : getF j (foFs f o) = some w), evE (ctx D n) s (.fld (.var 0) fj) (hL h acc) = .ok w (hL h acc) := fun acc s hs j fj hj ej w e => by
    subst ej
    exact (ev_fld (ev_var hs)).trans ((A.app _).fld F hj e)
  have nl := near_len ok.near (by have := ok.s4; omega)
  have snl : (sortPr f.near).length ≤ 16 := by rw [(sortPr_perm _).length_eq]; exact nl
  have kn := ok.k3
  have sn := ok.s4
  have namek : ∀ x ∈ f.kinds, x.name.length ≤ 8 := fun x hx => isLab_len (ok.kname x hx)
  have q0 : evS (ctx D n) (.asg (.var 1) (.new (.lst []))) [some (.ref r), none, none, none, none] h = .nx [some (.ref r), some (.ref h.length), none, none, none] (hL h []) := st_asg (ev_new (ev_lst es_nil (by simp)))
  -- kinds
  obtain ⟨o2, e2⟩ := for_acc (f := forTurn false [2] (evSs (ctx D n) [.exp (.met .extend (.var 1) [(.call I.kind_lines [(.var 2)])])])) (mk := fun o => [some (.ref r), some (.ref h.length), o, none, none]) (wb := Kin.w) (ln := fun x => x.ws.map jn) (h := h) (M := 100) (B := 3) f.kinds [] none
    (fun x hx acc o' hl => by
      let s : Env := [some (.ref r), some (.ref h.length), some x.w, none, none]
      have c := (ev_call (C := ctx D n) (s := s) (h := hL h acc) (f := I.kind_lines) (es_cons (ev_var (i := 2) rfl) es_nil)).trans (kind_lines (k := n) T (by omega) (ok.kok x hx) o6 (namek x hx))
      exact (evSs_one (C := ctx D n)).trans (st_puts (s := s) (v := 1) rfl c (by simp [Kin.ws]; omega)))
    (fun x _ => by simp [Kin.ws]) (by simp; omega)
  have st2 := st_for (C := ctx D n) (s := [some (.ref r), some (.ref h.length), none, none, none]) (af [] _ rfl 0 I.f_kinds (by decide) F.f0 rfl) rfl e2
  -- stands
  obtain ⟨o3, e3⟩ := for_acc (f := forTurn false [3] (evSs (ctx D n) [.exp (.met .append (.var 1) [(.call I.line_of [(.lss [(.str [115, 116, 97, 110, 100])] (.var 3))])])])) (mk := fun o => [some (.ref r), some (.ref h.length), o2, o, none]) (wb := Sta.w) (ln := fun x => [jn x.ws]) (h := h) (M := 200) (B := 1) f.stands ([] ++ f.kinds.flatMap fun x => x.ws.map jn) none
    (fun x hx acc o' hl => by
      let s : Env := [some (.ref r), some (.ref h.length), o2, some x.w, none]
      obtain ⟨t1, t2, t3, t4⟩ := Sta.th ok hx
      let l1 : List W := [.str sStand, .str x.name, .str x.kind, .int x.age]
      have c0 := ev_lss (C := ctx D n) (s := s) (h := hL h acc) (es_cons (ev_str sStand) es_nil) (ev_var (i := 3) (x := x.w) rfl) (show rowOf x.w (hL h acc) = .ok [.str x.name, .str x.kind, .int x.age] (hL h acc) from rfl) (by simp)
      have c := (ev_call (C := ctx D n) (f := I.line_of) (es_cons c0 es_nil)).trans (line_of (k := n) (l := l1) T (by omega) (.inr (.inr rfl)) (fun y hy => by
        simp only [l1, List.mem_cons, List.not_mem_nil, or_false] at hy
        rcases hy with rfl | rfl | rfl | rfl
        · exact th_str (by decide)
        · exact th_str (by omega)
        · exact th_str (by omega)
        · exact th_int (by omega) (by omega)) (by simp [l1]))
      exact (evSs_one (C := ctx D n)).trans (st_put (s := s) (v := 1) (t := jn x.ws) rfl c (by omega)))
    (fun x _ => by simp) (by
      have := fl_len (fun x : Kin => x.ws.map jn) 3 (fun x => by simp [Kin.ws]) f.kinds
      rw [List.nil_append, this]; omega)
  have st3 := st_for (C := ctx D n) (s := [some (.ref r), some (.ref h.length), o2, none, none]) (af _ _ rfl 1 I.f_stands (by decide) F.f1 rfl) rfl e3
  -- neighbours
  obtain ⟨o4, e4⟩ := for_acc (f := forTurn false [4] (evSs (ctx D n) [.exp (.met .append (.var 1) [(.call I.line_of [(.lss [(.str [110, 101, 97, 114])] (.var 4))])])])) (mk := fun o => [some (.ref r), some (.ref h.length), o2, o3, o]) (wb := prW) (ln := fun x => [jn (prWs x)]) (h := h) (M := 300) (B := 1) (sortPr f.near) ([] ++ (f.kinds.flatMap fun x => x.ws.map jn) ++ f.stands.flatMap fun x => [jn x.ws]) none
    (fun x hx acc o' hl => by
      let s : Env := [some (.ref r), some (.ref h.length), o2, o3, some (prW x)]
      have pr := ok.near.1 x ((sortPr_perm _).mem_iff.mp hx)
      let l1 : List W := [.str sNear, .int x.1, .int x.2]
      have c0 := ev_lss (C := ctx D n) (s := s) (h := hL h acc) (es_cons (ev_str sNear) es_nil) (ev_var (i := 4) (x := prW x) rfl) (show rowOf (prW x) (hL h acc) = .ok [.int x.1, .int x.2] (hL h acc) from rfl) (by simp)
      have c := (ev_call (C := ctx D n) (f := I.line_of) (es_cons c0 es_nil)).trans (line_of (k := n) (l := l1) T (by omega) (.inr (.inr rfl)) (fun y hy => by
        simp only [l1, List.mem_cons, List.not_mem_nil, or_false] at hy
        rcases hy with rfl | rfl | rfl
        · exact th_str (by decide)
        · exact th_int (by omega) (by omega)
        · exact th_int (by omega) (by omega)) (by simp [l1]))
      exact (evSs_one (C := ctx D n)).trans (st_put (s := s) (v := 1) (t := jn (prWs x)) rfl c (by omega)))
    (fun x _ => by simp) (by
      have := fl_len (fun x : Kin => x.ws.map jn) 3 (fun x => by simp [Kin.ws]) f.kinds
      have h2 := fl_len (fun x : Sta => [jn x.ws]) 1 (fun x => rfl) f.stands
      rw [List.nil_append, List.length_append, this, h2]; omega)
  have st4 := st_for (C := ctx D n) (s := [some (.ref r), some (.ref h.length), o2, o3, none]) (af _ _ rfl 2 I.f_near (by decide) F.f2 rfl) rfl e4
  -- the rest
  generalize hacc : ([] ++ (f.kinds.flatMap fun x => x.ws.map jn) ++ f.stands.flatMap fun x => [jn x.ws]) ++ (sortPr f.near).flatMap (fun x => [jn (prWs x)]) = acc at st4
  have la : acc.length ≤ 100 := by
    rw [← hacc]
    have h1 := fl_len (fun x : Kin => x.ws.map jn) 3 (fun x => by simp [Kin.ws]) f.kinds
    have h2 := fl_len (fun x : Sta => [jn x.ws]) 1 (fun x => rfl) f.stands
    have h3 := fl_len (fun x : Int × Int => [jn (prWs x)]) 1 (fun x => rfl) (sortPr f.near)
    rw [List.nil_append, List.length_append, List.length_append, h1, h2, h3]
    omega
  let s : Env := [some (.ref r), some (.ref h.length), o2, o3, o4]
  have ga := ok.gap
  have w1 := ok.we1
  have w2 := ok.we2
  have w3 := ok.we3
  have y1 := ok.ya1
  have y2 := ok.ya2
  have du := ok.due
  have ln : ∀ {l1 : List W} {h' : Hm}, (∀ y ∈ l1, okTh y) → l1.length ≤ 100 → (ctx D n).call I.line_of [.kl l1] h' = .ok (.str (jn (l1.map wordOf))) h' := fun {l1 h'} o l => line_of (k := n) T (by omega) (.inr (.inr rfl)) o l
  -- gap
  let l5 : List W := [.str sGap, .int f.gap]
  have c5 : evE (ctx D n) s _ (hL h acc) = .ok (.kl l5) _ := ev_lst (es_cons (ev_str sGap) (es_cons (af acc s rfl 3 I.f_gap (by decide) F.f3 rfl) es_nil)) (show l5.length ≤ 1000 by simp [l5])
  have st5 := st_put (C := ctx D n) (s := s) (v := 1) rfl ((ev_call (f := I.line_of) (es_cons c5 es_nil)).trans (ln (fun y hy => by
    simp only [l5, List.mem_cons, List.not_mem_nil, or_false] at hy
    rcases hy with rfl | rfl
    · exact th_str (by decide)
    · exact th_int (by omega) (by omega)) (show l5.length ≤ 100 by simp [l5]))) (by omega)
  -- storms
  let acc6 := acc ++ [jn (l5.map wordOf)]
  let l6 : List W := [.str sStorms, .int f.we.1, .int f.we.2.1, .int f.we.2.2]
  have c6 : evE (ctx D n) s _ (hL h acc6) = .ok (.kl l6) _ := ev_lss (es_cons (ev_str sStorms) es_nil) (af acc6 s rfl 4 I.f_weather (by decide) F.f4 rfl) (show rowOf f.weW (hL h acc6) = .ok [.int f.we.1, .int f.we.2.1, .int f.we.2.2] _ from rfl) (by simp)
  have st6 := st_put (C := ctx D n) (s := s) (v := 1) rfl ((ev_call (f := I.line_of) (es_cons c6 es_nil)).trans (ln (fun y hy => by
    simp only [l6, List.mem_cons, List.not_mem_nil, or_false] at hy
    rcases hy with rfl | rfl | rfl | rfl
    · exact th_str (by decide)
    · exact th_int (by omega) (by omega)
    · exact th_int (by omega) (by omega)
    · exact th_int (by omega) (by omega)) (show l6.length ≤ 100 by simp [l6]))) (by simp [acc6]; omega)
  -- yard
  let acc7 := acc6 ++ [jn (l6.map wordOf)]
  let l7 : List W := [.str sYard, .int f.ya.1, .int f.ya.2]
  have c7 : evE (ctx D n) s _ (hL h acc7) = .ok (.kl l7) _ := ev_lss (es_cons (ev_str sYard) es_nil) (af acc7 s rfl 5 I.f_yard (by decide) F.f5 rfl) (show rowOf f.yaW (hL h acc7) = .ok [.int f.ya.1, .int f.ya.2] _ from rfl) (by simp)
  have st7 := st_put (C := ctx D n) (s := s) (v := 1) rfl ((ev_call (f := I.line_of) (es_cons c7 es_nil)).trans (ln (fun y hy => by
    simp only [l7, List.mem_cons, List.not_mem_nil, or_false] at hy
    rcases hy with rfl | rfl | rfl
    · exact th_str (by decide)
    · exact th_int (by omega) (by omega)
    · exact th_int (by omega) (by omega)) (show l7.length ≤ 100 by simp [l7]))) (by simp [acc7, acc6]; omega)
  -- due, end
  let acc8 := acc7 ++ [jn (l7.map wordOf)]
  let l8 : List W := [.str sDue, .int f.due]
  have c8 : evE (ctx D n) s _ (hL h acc8) = .ok (.kl l8) _ := ev_lst (es_cons (ev_str sDue) (es_cons (af acc8 s rfl 6 I.f_due (by decide) F.f6 rfl) es_nil)) (show l8.length ≤ 1000 by simp [l8])
  have d8 := (ev_call (C := ctx D n) (f := I.line_of) (es_cons c8 es_nil)).trans (ln (fun y hy => by
    simp only [l8, List.mem_cons, List.not_mem_nil, or_false] at hy
    rcases hy with rfl | rfl
    · exact th_str (by decide)
    · exact th_int (by omega) (by omega)) (show l8.length ≤ 100 by simp [l8]))
  have c9 := ev_lst (es_cons d8 (es_cons (ev_str sEnd) es_nil)) (by simp)
  have c10 := (ev_bin (o := .add) (ev_var (C := ctx D n) (s := s) (i := 1) rfl) c9).trans (add_kl (lsO_ref hL_get) rfl (by simp [acc8, acc7, acc6]; omega))
  have fin : acc8.map W.str ++ [.str (jn (l8.map wordOf)), .str sEnd] = f.lines.map .str := by
    rw [Fo.lines_eq]
    simp only [acc8, acc7, acc6]
    rw [← hacc]
    simp only [List.map_append, List.append_assoc, List.nil_append]
    rfl
  rw [fin] at c10
  rw [hr]
  show back _ h (evSs _ [_, _, _, _, _, _, _, _] [some (.ref r), none, none, none, none] h) = _
  rw [evSs_nx q0, evSs_nx st2, evSs_nx st3, evSs_nx st4, evSs_nx st5, evSs_nx st6, evSs_nx st7, evSs_rt (st_ret c10), back_rt]
  exact gc_app _ _ (by show puAll _ = true; exact pu_strs _)
end
end M2

namespace M2
/-! ### words -/
structure Wd (w : List Nat) : Prop where
  ne : w ≠ []
  len : w.length ≤ 8
  sp : 32 ∉ w
  nl : 10 ∉ w
def wdB (w : List Nat) : Bool := !w.isEmpty && (decide (w.length ≤ 8) && (!w.contains 32 && !w.contains 10))
theorem Wd.of {w : List Nat} (h : wdB w = true) : Wd w := by
  unfold wdB at h
  simp only [Bool.and_eq_true, Bool.not_eq_true', decide_eq_true_eq] at h
  obtain ⟨h1, h2, h3, h4⟩ := h
  refine ⟨fun e => by rw [e] at h1; exact absurd h1 (by decide), h2, ?_, ?_⟩
  · simpa using h3
  · simpa using h4
/-- what a number's text is asked -/
def numB (n : Nat) : Bool := wdB (natDec n) && (decide ((natDec n).length ≤ 4) && (allDig (natDec n) && (decide (decNat (natDec n) = n) && ((natDec n).head? != some 48 || natDec n == [48]))))
theorem num_all : (List.range 1001).all numB = true := by decide +kernel
structure Nu (i : Int) : Prop where
  wd : Wd (nW i)
  l4 : (nW i).length ≤ 4
  dig : allDig (nW i) = true
  val : (decNat (nW i) : Int) = i
  hd : (nW i).head? ≠ some 48 ∨ nW i = [48]
theorem nu {i : Int} (h0 : 0 ≤ i) (h1 : i ≤ 1000) : Nu i := by
  obtain ⟨n, rfl⟩ := Int.eq_ofNat_of_zero_le h0
  have := List.all_eq_true.mp num_all n (List.mem_range.mpr (by omega))
  unfold numB at this
  simp only [Bool.and_eq_true, decide_eq_true_eq, Bool.or_eq_true, bne_iff_ne, beq_iff_eq] at this
  obtain ⟨a, b, c, d, e⟩ := this
  exact ⟨Wd.of a, b, c, by show ((decNat (natDec n) : Nat) : Int) = n; rw [d], e⟩
theorem wd_name {l : List Nat} (h : isName (.str l) = true) : Wd l := by
  have hl := h
  unfold isName isLab at hl
  simp only [Bool.and_eq_true, decide_eq_true_eq] at hl
  obtain ⟨⟨h1, h2, h3⟩, _⟩ := hl
  have hs : ∀ c, c ∈ l → c ∈ letters := fun c hc => by
    have := List.all_eq_true.mp h3 c hc
    simpa using this
  refine ⟨fun e => by rw [e] at h1; exact absurd h1 (by decide), h2, fun hc => absurd (hs _ hc) (by decide), fun hc => absurd (hs _ hc) (by decide)⟩
/-- a line's words -/
structure Ws (l : List (List Nat)) : Prop where
  ne : l ≠ []
  len : l.length ≤ 10
  wd : ∀ w ∈ l, Wd w
theorem Kin.wsOk {o : Int} {x : Kin} (ok : Kin.Ok o x) (o6 : o ≤ 6) (nm : isName (.str x.name) = true) : ∀ l ∈ x.ws, Ws l := fun l hl => by
  have t := ok.timber
  have w := ok.windfall
  have rp := ok.ripe
  have wk := ok.weak
  have o1 : 0 ≤ o := by omega
  simp only [Kin.ws, List.mem_cons, List.not_mem_nil, or_false] at hl
  rcases hl with rfl | rfl | rfl
  · refine ⟨by simp, by simp, fun z hz => ?_⟩
    simp only [List.mem_cons, List.not_mem_nil, or_false] at hz
    rcases hz with rfl | rfl | rfl | rfl | rfl
    · exact Wd.of (by decide)
    · exact wd_name nm
    · exact (nu (by omega) (by omega)).wd
    · exact (nu (by omega) (by omega)).wd
    · cases x.firm <;> exact Wd.of (by decide)
  · refine ⟨fun e => ?_, by rw [List.length_map]; omega, fun z hz => ?_⟩
    · have := congrArg List.length e
      rw [List.length_map, List.length_nil] at this
      omega
    · obtain ⟨y, hy, rfl⟩ := List.mem_map.mp hz
      have := t.2 y hy
      exact (nu (by omega) (by omega)).wd
  · refine ⟨fun e => ?_, by rw [List.length_map]; omega, fun z hz => ?_⟩
    · have := congrArg List.length e
      rw [List.length_map, List.length_nil] at this
      omega
    · obtain ⟨y, hy, rfl⟩ := List.mem_map.mp hz
      have := w.2 y hy
      exact (nu (by omega) (by omega)).wd
section
variable {f : Fo} {o : Int}
theorem Sta.wsOk (ok : Fo.Ok o f) {x : Sta} (hx : x ∈ f.stands) : Ws x.ws := by
  obtain ⟨t1, t2, t3, t4⟩ := Sta.th ok hx
  refine ⟨by simp [Sta.ws], by simp [Sta.ws], fun z hz => ?_⟩
  simp only [Sta.ws, List.mem_cons, List.not_mem_nil, or_false] at hz
  rcases hz with rfl | rfl | rfl | rfl
  · exact Wd.of (by decide)
  · exact wd_name (ok.sname x hx)
  · obtain ⟨y, hy, e⟩ := List.mem_map.mp (ok.skind x hx)
    rw [← e]
    exact wd_name (ok.kname y hy)
  · exact (nu (by omega) (by omega)).wd
theorem prWsOk (ok : Fo.Ok o f) {x : Int × Int} (hx : x ∈ sortPr f.near) : Ws (prWs x) := by
  have pr := ok.near.1 x ((sortPr_perm _).mem_iff.mp hx)
  have s4 := ok.s4
  refine ⟨by simp [prWs], by simp [prWs], fun z hz => ?_⟩
  simp only [prWs, List.mem_cons, List.not_mem_nil, or_false] at hz
  rcases hz with rfl | rfl | rfl
  · exact Wd.of (by decide)
  · exact (nu (by omega) (by omega)).wd
  · exact (nu (by omega) (by omega)).wd
theorem Fo.Ok.tailOk (ok : Fo.Ok o f) : ∀ l ∈ f.tail, Ws l := fun l hl => by
  have o6 := ok.o6
  have ga := ok.gap
  have w1 := ok.we1
  have w2 := ok.we2
  have w3 := ok.we3
  have y1 := ok.ya1
  have y2 := ok.ya2
  have du := ok.due
  have k : ∀ {i : Int}, 0 ≤ i → i ≤ 1000 → Wd (nW i) := fun a b => (nu a b).wd
  simp only [Fo.tail, List.mem_cons, List.not_mem_nil, or_false] at hl
  rcases hl with rfl | rfl | rfl | rfl | rfl <;> refine ⟨by simp, by simp, fun z hz => ?_⟩ <;> simp only [List.mem_cons, List.not_mem_nil, or_false] at hz
  · rcases hz with rfl | rfl
    · exact Wd.of (by decide)
    · exact k (by omega) (by omega)
  · rcases hz with rfl | rfl | rfl | rfl
    · exact Wd.of (by decide)
    · exact k (by omega) (by omega)
    · exact k (by omega) (by omega)
    · exact k (by omega) (by omega)
  · rcases hz with rfl | rfl | rfl
    · exact Wd.of (by decide)
    · exact k (by omega) (by omega)
    · exact k (by omega) (by omega)
  · rcases hz with rfl | rfl
    · exact Wd.of (by decide)
    · exact k (by omega) (by omega)
  · rw [hz]
    exact Wd.of (by decide)
theorem Fo.Ok.wordsOk (ok : Fo.Ok o f) : ∀ l ∈ f.words, Ws l := fun l hl => by
  unfold Fo.words at hl
  rcases List.mem_append.mp hl with hl | hl
  · obtain ⟨x, hx, h⟩ := List.mem_flatMap.mp hl
    exact Kin.wsOk (ok.kok x hx) ok.o6 (ok.kname x hx) l h
  · rcases List.mem_append.mp hl with hl | hl
    · obtain ⟨x, hx, rfl⟩ := List.mem_map.mp hl
      exact Sta.wsOk ok hx
    · rcases List.mem_append.mp hl with hl | hl
      · obtain ⟨x, hx, rfl⟩ := List.mem_map.mp hl
        exact prWsOk ok hx
      · exact ok.tailOk l hl
theorem Fo.Ok.words_len (ok : Fo.Ok o f) : f.words.length ≤ 40 := by
  have h1 := fl_len (fun x : Kin => x.ws) 3 (fun x => by simp [Kin.ws]) f.kinds
  have nl := near_len ok.near (by have := ok.s4; omega)
  have k3 := ok.k3
  have s4 := ok.s4
  unfold Fo.words
  rw [List.length_append, List.length_append, List.length_append, h1, List.length_map, List.length_map, (sortPr_perm _).length_eq]
  have : f.tail.length = 5 := rfl
  omega
end
theorem joinS_len {sep : List Nat} : ∀ ss : List (List Nat), (joinS sep ss).length ≤ (ss.map List.length).sum + ss.length * sep.length
  | [] => by simp [joinS]
  | [x] => by simp [joinS]
  | x :: y :: l => by
    have := joinS_len (sep := sep) (y :: l)
    rw [joinS, List.length_append, List.length_append, List.map_cons, List.sum_cons, List.length_cons, Nat.add_mul]
    omega
theorem jn_len {l : List (List Nat)} (h : Ws l) : (jn l).length ≤ 200 := by
  have h1 := joinS_len (sep := [32]) l
  have h2 := sum_le (f := List.length) (B := 8) fun w hw => (h.wd w hw).len
  have h3 := h.len
  show (joinS [32] l).length ≤ 200
  have : l.length * ([32] : List Nat).length = l.length := by simp
  omega
theorem Fo.Ok.lines_len {f : Fo} {o : Int} (ok : Fo.Ok o f) : f.lines.length ≤ 40 ∧ ∀ l ∈ f.lines, l.length ≤ 200 := ⟨by rw [Fo.lines, List.length_map]; exact ok.words_len, fun l hl => by
  obtain ⟨w, hw, rfl⟩ := List.mem_map.mp hl
  exact jn_len (ok.wordsOk w hw)⟩
/-! ### the texts -/
section
variable {D : Prog} {I : Ix} {k : Nat} {h : Hm}
/-- lines, each with its end -/
theorem ev_text {C : Ctx} {s : Env} {a : E} {ls : List (List Nat)} (hs : s.length = 2) (ea : evE C s a h = .ok (.kl (ls.map .str)) h) (hl : ls.length ≤ 40) (hx : ∀ l ∈ ls, l.length ≤ 200) : evE C s (.met .join (.str []) [(.lc [1] false [1] (.bin .add (.var 1) (.str [10])) .seq a .non (.bl true))]) h = .ok (.str (joinS [] (ls.map (· ++ [10])))) h := by
  have a0 := el_map (C := C) (own := [1]) (s := s) (i := 1) (e := .bin .add (.var 1) (.str [10])) (g := fun x => .str (wordOf x ++ [10])) ea (.inr (.inr rfl)) (fun y hy => by
    obtain ⟨l, hl, rfl⟩ := List.mem_map.mp hy
    have := hx l hl
    exact (ev_bin (ev_var (show (s.set 1 (some (W.str l)))[1]? = some (some (.str l)) by rw [List.getElem?_set_self (by omega)])) (ev_str [10])).trans (add_str (by simp; omega))) (by rw [List.length_map]; omega)
  have e : (ls.map W.str).map (fun x => W.str (wordOf x ++ [10])) = (ls.map (· ++ [10])).map .str := by rw [List.map_map, List.map_map]; rfl
  rw [e] at a0
  exact ev_join (ev_str []) a0 (join_ok (fun x hx' => by
    obtain ⟨y, hy, rfl⟩ := List.mem_map.mp hx'
    have := hx y hy
    simp
    omega) (by rw [List.length_map]; omega) (by simp))
theorem forest_text (T : HasT D I) (F : HasF D I) (hk : 4 ≤ k) {r : Nat} {f : Fo} {o : Int} (A : ForestAt I h r f o) (ok : Fo.Ok o f) : run D k I.forest_text [.ref r] h = .ok (.str f.text) h := by
  obtain ⟨n, rfl, hr⟩ := run_at (ws := [.ref r]) (h := h) (show 1 ≤ k by omega) T.forest_text rfl
  obtain ⟨l1, l2⟩ := ok.lines_len
  have c := (ev_call (C := ctx D n) (s := [some (.ref r), none]) (h := h) (f := I.forest_lines) (es_cons (ev_var (i := 0) rfl) es_nil)).trans (forest_lines (k := n) T F (by omega) A ok)
  rw [hr]
  show back _ h (evSs _ [_] [some (.ref r), none] h) = _
  rw [evSs_rt (st_ret (ev_text rfl c l1 l2)), back_rt]
  exact gc_self _ _ _
structure HasX (D : Prog) (I : Ix) : Prop where
  lines : D.fns I.l_lines = some (B.l_lines I)
  text_of : D.fns I.l_text_of = some (B.l_text_of I)
theorem add3 {C : Ctx} {s : Env} {a b : E} {u v : List Nat} {h : Hm} (ea : evE C s a h = .ok (.str u) h) (eb : evE C s b h = .ok (.str v) h) (hl : u.length + v.length ≤ 1000) : evE C s (.bin .add a b) h = .ok (.str (u ++ v)) h := (ev_bin ea eb).trans (add_str hl)
/-- lists made anew, the last of them the lines -/
theorem for_accN {A : Type} {f : W → Env → Hm → RS} {mk : Option W → Nat → Env} {wb : A → W} {ln : A → List (List Nat)} {M B : Nat} : ∀ (xs : List A) (acc : List (List Nat)) (o : Option W) (h : Hm),
    (∀ x ∈ xs, ∀ acc o h, acc.length ≤ M → ∃ t, f (wb x) (mk o h.length) (hL h acc) = .nx (mk (some (wb x)) (h ++ t).length) (hL (h ++ t) (acc ++ ln x))) →
    (∀ x ∈ xs, (ln x).length ≤ B) → acc.length + xs.length * B ≤ M →
    ∃ o' t, forGo f [] (xs.map wb) (mk o h.length) (hL h acc) = .nx (mk o' (h ++ t).length) (hL (h ++ t) (acc ++ xs.flatMap ln))
  | [], acc, o, h, _, _, _ => ⟨o, [], by rw [List.map_nil, forGo]; simp [okG]⟩
  | x :: xs, acc, o, h, hf, hb, hM => by
    have hM' : acc.length + (xs.length * B + B) ≤ M := by rw [List.length_cons, Nat.add_mul, Nat.one_mul] at hM; exact hM
    obtain ⟨t1, e1⟩ := hf x (by simp) acc o h (by omega)
    have b1 := hb x (by simp)
    obtain ⟨o2, t2, e2⟩ := for_accN (M := M) (B := B) xs (acc ++ ln x) (some (wb x)) (h ++ t1) (fun y hy => hf y (by simp [hy])) (fun y hy => hb y (by simp [hy])) (by rw [List.length_append]; omega)
    refine ⟨o2, t1 ++ t2, ?_⟩
    rw [List.map_cons, forGo, show okG [] (hL h acc) = true from rfl, if_pos rfl, e1, List.flatMap_cons, ← List.append_assoc, ← List.append_assoc]
    exact e2
theorem l_lines (X : HasX D I) (hk : 1 ≤ k) {f : Fo} {o : Int} (ok : Fo.Ok o f) : run D k I.l_lines [f.specW] h = .ok (.kl (f.lines.map .str)) h := by
  obtain ⟨n, rfl, hr⟩ := run_at (ws := [f.specW]) (h := h) (show 1 ≤ k by omega) X.lines rfl
  have o6 := ok.o6
  have nl := near_len ok.near (by have := ok.s4; omega)
  have snl : (sortPr f.near).length ≤ 16 := by rw [(sortPr_perm _).length_eq]; exact nl
  have kn := ok.k3
  have sn := ok.s4
  have g := fun (h : Hm) (s : Env) (hs : s[0]? = some (some f.specW)) => ev_var (C := ctx D n) (s := s) (h := h) (i := 0) hs
  have q0 : evS (ctx D n) (.asg (.var 1) (.new (.lst []))) [some f.specW, none, none, none, none, none, none] h = .nx [some f.specW, some (.ref h.length), none, none, none, none, none] (hL h []) := st_asg (ev_new (ev_lst es_nil (by simp)))
  have num : ∀ {C : Ctx} {s : Env} {a : E} {i : Int} {h : Hm}, evE C s a h = .ok (.int i) h → 0 ≤ i → i ≤ 1000 → evE C s (.b1 .str [a]) h = .ok (.str (nW i)) h := fun ea h0 h1 => ev_strb ea (str_th (th_int h0 h1))
  have nlen : ∀ {i : Int}, 0 ≤ i → i ≤ 1000 → (nW i).length ≤ 4 := fun h0 h1 => (nu h0 h1).l4
  -- numbers in a row
  have row : ∀ {s : Env} {own : List Nat} {a : E} {x : W} {l : List Int} {h : Hm}, s.length = 7 → evE (ctx D n) s a h = .ok x h → RowAt h x (l.map .int) → (∀ i ∈ l, 0 ≤ i ∧ i ≤ 1000) → l.length ≤ 10 → evE (ctx D n) s (.met .join (.str [32]) [(.lc own false [6] (.b1 .str [(.var 6)]) .seq a .non (.bl true))]) h = .ok (.str (jn (l.map nW))) h := fun {s own a x l h} hs ea ra hl h10 => by
    have a0 := el_map (C := ctx D n) (own := own) (s := s) (i := 6) (e := .b1 .str [.var 6]) (g := fun x => .str (wordOf x)) ea ra (fun y hy => by
      obtain ⟨i, hi, rfl⟩ := List.mem_map.mp hy
      have := hl i hi
      exact num (ev_var (show (s.set 6 (some (W.int i)))[6]? = some (some (.int i)) by rw [List.getElem?_set_self (by omega)])) this.1 this.2) (by rw [List.length_map]; omega)
    rw [words_map, words_ints] at a0
    exact ev_join (ev_str [32]) a0 (join_ok (fun x hx => by
      obtain ⟨y, hy, rfl⟩ := List.mem_map.mp hx
      have := hl y hy
      have := nlen this.1 this.2
      omega) (by rw [List.length_map]; omega) (by simp))
  -- kinds
  obtain ⟨o2, t2, e2⟩ := for_accN (f := forTurn false [2] (evSs (ctx D n) [.exp (.met .append (.var 1) [(.met .join (.str [32]) [(.lst [(.str [107, 105, 110, 100]), (.sub (.var 2) (.int 0)), (.b1 .str [(.sub (.var 2) (.int 3))]), (.b1 .str [(.sub (.var 2) (.int 4))]), (.ite (.sub (.var 2) (.int 5)) (.str [98, 101, 101, 116, 108, 101, 115]) (.str [102, 105, 114, 109]))])])]),
    .asg (.var 1) (.new (.bin .add (.var 1) (.lc [5] false [5] (.met .join (.str [32]) [(.lc [6] false [6] (.b1 .str [(.var 6)]) .seq (.var 5) .non (.bl true))]) .seq (.slc (.var 2) true (.int 1) true (.int 3)) .non (.bl true))))])) (mk := fun o r => [some f.specW, some (.ref r), o, none, none, none, none]) (wb := Kin.w) (ln := fun x => x.ws.map jn) (M := 100) (B := 3) f.kinds [] none h
    (fun x hx acc o' h' hl => by
      let s : Env := [some f.specW, some (.ref h'.length), some x.w, none, none, none, none]
      have kk := ok.kok x hx
      have t := kk.timber
      have w := kk.windfall
      have rp := kk.ripe
      have wk := kk.weak
      have nm := isLab_len (ok.kname x hx)
      have v : ∀ h, evE (ctx D n) s (.var 2) h = .ok x.w h := fun h => ev_var rfl
      have i0 := (ev_subi (v (hL h' acc))).trans (show getItem x.w (.int 0) (hL h' acc) = .ok (.str x.name) _ from rfl)
      have i3 := num ((ev_subi (v (hL h' acc))).trans (show getItem x.w (.int 3) (hL h' acc) = .ok (.int x.ripe) _ from rfl)) (by omega) (by omega)
      have i4 := num ((ev_subi (v (hL h' acc))).trans (show getItem x.w (.int 4) (hL h' acc) = .ok (.int x.weak) _ from rfl)) (by omega) (by omega)
      have i5 : evE (ctx D n) s (.ite (.sub (.var 2) (.int 5)) (.str [98, 101, 101, 116, 108, 101, 115]) (.str [102, 105, 114, 109])) (hL h' acc) = .ok (.str (if x.firm then sBeetles else sFirm)) (hL h' acc) := by
        rw [ev_ite (et_bl ((ev_subi (v (hL h' acc))).trans (show getItem x.w (.int 5) (hL h' acc) = .ok (.bl x.firm) _ from rfl)) rfl)]
        cases x.firm <;> rfl
      have hb : (if x.firm then sBeetles else sFirm).length ≤ 100 := by cases x.firm <;> decide
      let l1 : List (List Nat) := [sKind, x.name, nW x.ripe, nW x.weak, if x.firm then sBeetles else sFirm]
      have e0 := el_lst (es_cons (ev_str sKind) (es_cons i0 (es_cons i3 (es_cons i4 (es_cons i5 es_nil))))) (by simp)
      have e1 := ev_join (ss := l1) (ev_str (C := ctx D n) (s := s) [32]) e0 (join_ok (fun y hy => by
        simp only [l1, List.mem_cons, List.not_mem_nil, or_false] at hy
        have n1 := nlen (i := x.ripe) (by omega) (by omega)
        have n2 := nlen (i := x.weak) (by omega) (by omega)
        rcases hy with rfl | rfl | rfl | rfl | rfl
        · decide
        · omega
        · omega
        · omega
        · omega) (by simp [l1]) (by simp))
      have st1 := st_put (C := ctx D n) (s := s) (v := 1) (t := jn l1) rfl e1 (by omega)
      -- the tables
      let acc1 := acc ++ [jn l1]
      let tw : List W := [.tup (x.timber.map .int), .tup (x.windfall.map .int)]
      have sl := (ev_slc2 (i := 1) (j := 3) (v (hL h' acc1))).trans (show getSlice x.w (some 1) (some 3) (hL h' acc1) = .ok (.tup tw) _ from rfl)
      have l2 := el_map (C := ctx D n) (own := [5]) (s := s) (i := 5) (e := .met .join (.str [32]) [(.lc [6] false [6] (.b1 .str [(.var 6)]) .seq (.var 5) .non (.bl true))]) (g := fun y => match y with | .tup l => .str (jn (l.map wordOf)) | _ => .non) sl (.inr (.inl rfl)) (fun y hy => by
        simp only [tw, List.mem_cons, List.not_mem_nil, or_false] at hy
        rcases hy with rfl | rfl
        · have := row (own := [6]) (s := s.set 5 (some (.tup (x.timber.map .int)))) (h := hL h' acc1) (a := .var 5) rfl (ev_var rfl) (.inr (.inl rfl)) (fun i hi => ⟨(t.2 i hi).1, by have := (t.2 i hi).2; omega⟩) (by omega)
          simp only [words_ints]
          exact this
        · have := row (own := [6]) (s := s.set 5 (some (.tup (x.windfall.map .int)))) (h := hL h' acc1) (a := .var 5) rfl (ev_var rfl) (.inr (.inl rfl)) (fun i hi => ⟨(w.2 i hi).1, by have := (w.2 i hi).2; omega⟩) (by omega)
          simp only [words_ints]
          exact this) (by simp [tw])
      have l2 : evL (ctx D n) s _ (hL h' acc1) = .ok [.str (jn ((x.timber.map W.int).map wordOf)), .str (jn ((x.windfall.map W.int).map wordOf))] _ := l2
      rw [words_ints, words_ints] at l2
      have e3 := ev_of (C := ctx D n) (s := s) rfl l2
      have e4 := (ev_bin (o := .add) (ev_var (C := ctx D n) (s := s) (i := 1) rfl) e3).trans (add_kl (lsO_ref hL_get) rfl (by simp [acc1]; omega))
      have st2 := st_asg (i := 1) (ev_new e4)
      refine ⟨[.lst (acc1.map .str)], ?_⟩
      show evSs (ctx D n) _ s (hL h' acc) = _
      rw [evSs_nx st1, evSs_nx st2, evSs_nil]
      show RS.nx _ _ = RS.nx _ _
      have ee : acc1.map W.str ++ [.str (jn (x.timber.map nW)), .str (jn (x.windfall.map nW))] = (acc ++ x.ws.map jn).map .str := by
        simp [acc1, Kin.ws, l1]
      rw [ee]
      rfl)
    (fun x _ => by simp [Kin.ws]) (by simp; omega)
  have st2 := st_for (C := ctx D n) (s := [some f.specW, some (.ref h.length), none, none, none, none, none]) ((ev_subi (g (hL h []) _ rfl)).trans (show getItem f.specW (.int 0) (hL h []) = .ok (.kl (f.kinds.map Kin.w)) _ from rfl)) rfl e2
  generalize eh2 : h ++ t2 = h2 at st2
  -- stands
  obtain ⟨o3, e3⟩ := for_acc (f := forTurn false [3] (evSs (ctx D n) [.exp (.met .append (.var 1) [(.bin .add (.bin .add (.bin .add (.bin .add (.bin .add (.str [115, 116, 97, 110, 100, 32]) (.sub (.var 3) (.int 0))) (.str [32])) (.sub (.var 3) (.int 1))) (.str [32])) (.b1 .str [(.sub (.var 3) (.int 2))]))])])) (mk := fun o => [some f.specW, some (.ref h2.length), o2, o, none, none, none]) (wb := Sta.w) (ln := fun x => [jn x.ws]) (h := h2) (M := 200) (B := 1) f.stands ([] ++ f.kinds.flatMap fun x => x.ws.map jn) none
    (fun x hx acc o' hl => by
      let s : Env := [some f.specW, some (.ref h2.length), o2, some x.w, none, none, none]
      obtain ⟨t1, t2, t3, t4⟩ := Sta.th ok hx
      have n4 := nlen t3 (by omega)
      have v : evE (ctx D n) s (.var 3) (hL h2 acc) = .ok x.w (hL h2 acc) := ev_var rfl
      have i0 := (ev_subi v).trans (show getItem x.w (.int 0) (hL h2 acc) = .ok (.str x.name) _ from rfl)
      have i1 := (ev_subi v).trans (show getItem x.w (.int 1) (hL h2 acc) = .ok (.str x.kind) _ from rfl)
      have i2 := num ((ev_subi v).trans (show getItem x.w (.int 2) (hL h2 acc) = .ok (.int x.age) _ from rfl)) t3 (by omega)
      have e := add3 (add3 (add3 (add3 (add3 (ev_str [115, 116, 97, 110, 100, 32]) i0 (by simp; omega)) (ev_str [32]) (by simp; omega)) i1 (by simp; omega)) (ev_str [32]) (by simp; omega)) i2 (by simp; omega)
      have ee : [115, 116, 97, 110, 100, 32] ++ x.name ++ [32] ++ x.kind ++ [32] ++ nW x.age = jn x.ws := by simp [jn, Sta.ws, joinS]
      rw [ee] at e
      exact (evSs_one (C := ctx D n)).trans (st_put (s := s) (v := 1) (t := jn x.ws) rfl e (by omega)))
    (fun x _ => by simp) (by
      have := fl_len (fun x : Kin => x.ws.map jn) 3 (fun x => by simp [Kin.ws]) f.kinds
      rw [List.nil_append, this]; omega)
  have st3 := st_for (C := ctx D n) (s := [some f.specW, some (.ref h2.length), o2, none, none, none, none]) ((ev_subi (g (hL h2 _) _ rfl)).trans (show getItem f.specW (.int 1) (hL h2 _) = .ok (.kl (f.stands.map Sta.w)) _ from rfl)) rfl e3
  -- neighbours
  obtain ⟨o4, e4⟩ := for_acc (f := forTurn false [4] (evSs (ctx D n) [.exp (.met .append (.var 1) [(.bin .add (.bin .add (.bin .add (.str [110, 101, 97, 114, 32]) (.b1 .str [(.sub (.var 4) (.int 0))])) (.str [32])) (.b1 .str [(.sub (.var 4) (.int 1))]))])])) (mk := fun o => [some f.specW, some (.ref h2.length), o2, o3, o, none, none]) (wb := prW) (ln := fun x => [jn (prWs x)]) (h := h2) (M := 300) (B := 1) (sortPr f.near) ([] ++ (f.kinds.flatMap fun x => x.ws.map jn) ++ f.stands.flatMap fun x => [jn x.ws]) none
    (fun x hx acc o' hl => by
      let s : Env := [some f.specW, some (.ref h2.length), o2, o3, some (prW x), none, none]
      have pr := ok.near.1 x ((sortPr_perm _).mem_iff.mp hx)
      have n1 := nlen (i := x.1) (by omega) (by omega)
      have n2 := nlen (i := x.2) (by omega) (by omega)
      have v : evE (ctx D n) s (.var 4) (hL h2 acc) = .ok (prW x) (hL h2 acc) := ev_var rfl
      have i0 := num ((ev_subi v).trans (show getItem (prW x) (.int 0) (hL h2 acc) = .ok (.int x.1) _ from rfl)) (by omega) (by omega)
      have i1 := num ((ev_subi v).trans (show getItem (prW x) (.int 1) (hL h2 acc) = .ok (.int x.2) _ from rfl)) (by omega) (by omega)
      have e := add3 (add3 (add3 (ev_str [110, 101, 97, 114, 32]) i0 (by simp; omega)) (ev_str [32]) (by simp; omega)) i1 (by simp; omega)
      have ee : [110, 101, 97, 114, 32] ++ nW x.1 ++ [32] ++ nW x.2 = jn (prWs x) := by simp [jn, prWs, joinS]
      rw [ee] at e
      exact (evSs_one (C := ctx D n)).trans (st_put (s := s) (v := 1) (t := jn (prWs x)) rfl e (by omega)))
    (fun x _ => by simp) (by
      have := fl_len (fun x : Kin => x.ws.map jn) 3 (fun x => by simp [Kin.ws]) f.kinds
      have h2 := fl_len (fun x : Sta => [jn x.ws]) 1 (fun x => rfl) f.stands
      rw [List.nil_append, List.length_append, this, h2]; omega)
  have srt : ∀ {h : Hm} {s : Env}, s[0]? = some (some f.specW) → evE (ctx D n) s (.bl1 .sorted (.sub (.var 0) (.int 2))) h = .ok (.kl ((sortPr f.near).map prW)) h := fun {h s} hs => ev_sorted (el_of rfl ((ev_subi (g h s hs)).trans (show getItem f.specW (.int 2) h = .ok (.kl (f.near.map prW)) _ from rfl)) rfl)
  have st4 := st_for (C := ctx D n) (s := [some f.specW, some (.ref h2.length), o2, o3, none, none, none]) (srt rfl) rfl e4
  -- the rest
  generalize hacc : ([] ++ (f.kinds.flatMap fun x => x.ws.map jn) ++ f.stands.flatMap fun x => [jn x.ws]) ++ (sortPr f.near).flatMap (fun x => [jn (prWs x)]) = acc at st4
  have la : acc.length ≤ 100 := by
    rw [← hacc]
    have h1 := fl_len (fun x : Kin => x.ws.map jn) 3 (fun x => by simp [Kin.ws]) f.kinds
    have h2 := fl_len (fun x : Sta => [jn x.ws]) 1 (fun x => rfl) f.stands
    have h3 := fl_len (fun x : Int × Int => [jn (prWs x)]) 1 (fun x => rfl) (sortPr f.near)
    rw [List.nil_append, List.length_append, List.length_append, h1, h2, h3]
    omega
  let s : Env := [some f.specW, some (.ref h2.length), o2, o3, o4, none, none]
  have ga := ok.gap
  have w1 := ok.we1
  have w2 := ok.we2
  have w3 := ok.we3
  have y1 := ok.ya1
  have y2 := ok.ya2
  have du := ok.due
  have v : ∀ h, evE (ctx D n) s (.var 0) h = .ok f.specW h := fun h => g h s rfl
  -- gap
  have n3 := nlen (i := f.gap) (by omega) (by omega)
  have c5 := add3 (ev_str [103, 97, 112, 32]) (num ((ev_subi (v (hL h2 acc))).trans (show getItem f.specW (.int 3) (hL h2 acc) = .ok (.int f.gap) _ from rfl)) (by omega) (by omega)) (by simp; omega)
  have st5 := st_put (C := ctx D n) (s := s) (v := 1) rfl c5 (by omega)
  let acc6 := acc ++ [[103, 97, 112, 32] ++ nW f.gap]
  have c6 := add3 (ev_str [115, 116, 111, 114, 109, 115, 32]) (row (own := [6]) (s := s) (l := [f.we.1, f.we.2.1, f.we.2.2]) rfl ((ev_subi (v (hL h2 acc6))).trans (show getItem f.specW (.int 4) (hL h2 acc6) = .ok f.weW _ from rfl)) (.inr (.inl rfl)) (fun i hi => by
    simp only [List.mem_cons, List.not_mem_nil, or_false] at hi
    rcases hi with rfl | rfl | rfl <;> omega) (by simp)) (by
      have n1 := nlen (i := f.we.1) (by omega) (by omega)
      have n2 := nlen (i := f.we.2.1) (by omega) (by omega)
      have n3 := nlen (i := f.we.2.2) (by omega) (by omega)
      simp [jn, joinS]
      omega)
  have st6 := st_put (C := ctx D n) (s := s) (v := 1) rfl c6 (by simp [acc6]; omega)
  let acc7 := acc6 ++ [[115, 116, 111, 114, 109, 115, 32] ++ jn ([f.we.1, f.we.2.1, f.we.2.2].map nW)]
  have n5 := nlen (i := f.ya.1) (by omega) (by omega)
  have n6 := nlen (i := f.ya.2) (by omega) (by omega)
  have n7 := nlen (i := f.due) (by omega) (by omega)
  have ya := (ev_subi (v (hL h2 acc7))).trans (show getItem f.specW (.int 5) (hL h2 acc7) = .ok f.yaW _ from rfl)
  have ya1 := num ((ev_subi (i := 0) ya).trans (show getItem f.yaW (.int 0) (hL h2 acc7) = .ok (.int f.ya.1) _ from rfl)) (by omega) (by omega)
  have ya2 := num ((ev_subi (i := 1) ya).trans (show getItem f.yaW (.int 1) (hL h2 acc7) = .ok (.int f.ya.2) _ from rfl)) (by omega) (by omega)
  have c7 := add3 (add3 (add3 (ev_str [121, 97, 114, 100, 32]) ya1 (by simp; omega)) (ev_str [32]) (by simp; omega)) ya2 (by simp; omega)
  have c8 := add3 (ev_str [100, 117, 101, 32]) (num ((ev_subi (v (hL h2 acc7))).trans (show getItem f.specW (.int 6) (hL h2 acc7) = .ok (.int f.due) _ from rfl)) (by omega) (by omega)) (by simp; omega)
  have c9 := ev_lst (es_cons c7 (es_cons c8 (es_cons (ev_str sEnd) es_nil))) (by simp)
  have c10 := (ev_bin (o := .add) (ev_var (C := ctx D n) (s := s) (i := 1) rfl) c9).trans (add_kl (lsO_ref hL_get) rfl (by simp [acc7, acc6]; omega))
  have fin : acc7.map W.str ++ [.str ([121, 97, 114, 100, 32] ++ nW f.ya.1 ++ [32] ++ nW f.ya.2), .str ([100, 117, 101, 32] ++ nW f.due), .str sEnd] = f.lines.map .str := by
    rw [Fo.lines_eq]
    simp only [acc7, acc6]
    rw [← hacc]
    simp only [List.map_append, List.append_assoc, List.nil_append]
    simp [Fo.tail, jn, joinS]
  rw [fin] at c10
  rw [hr]
  show back _ h (evSs _ [_, _, _, _, _, _, _] [some f.specW, none, none, none, none, none, none] h) = _
  rw [evSs_nx q0, evSs_nx st2, evSs_nx st3, evSs_nx st4, evSs_nx st5, evSs_nx st6, evSs_rt (st_ret c10), back_rt, ← eh2]
  show gc _ h _ ((h ++ t2) ++ _) = _
  rw [List.append_assoc]
  exact gc_app _ _ (by show puAll _ = true; exact pu_strs _)
theorem l_text_of (X : HasX D I) (hk : 2 ≤ k) {f : Fo} {o : Int} (ok : Fo.Ok o f) : run D k I.l_text_of [f.specW] h = .ok (.str f.text) h := by
  obtain ⟨n, rfl, hr⟩ := run_at (ws := [f.specW]) (h := h) (show 1 ≤ k by omega) X.text_of rfl
  obtain ⟨l1, l2⟩ := ok.lines_len
  have c := (ev_call (C := ctx D n) (s := [some f.specW, none]) (h := h) (f := I.l_lines) (es_cons (ev_var (i := 0) rfl) es_nil)).trans (l_lines (k := n) X (by omega) ok)
  rw [hr]
  show back _ h (evSs _ [_] [some f.specW, none] h) = _
  rw [evSs_rt (st_ret (ev_text rfl c l1 l2)), back_rt]
  exact gc_self _ _ _
end
end M2

namespace M2
/-! ### cuts -/
theorem split_app {c : Nat} : ∀ (x acc y : List Nat), c ∉ x → splitAt1 c acc (x ++ c :: y) = (acc ++ x) :: splitAt1 c [] y
  | [], acc, y, _ => by simp [splitAt1]
  | a :: x, acc, y, h => by
    have ha : ¬ a = c := fun e => h (by simp [e])
    rw [List.cons_append, splitAt1, if_neg ha, split_app x (acc ++ [a]) y fun hm => h (by simp [hm]), List.append_assoc]
    rfl
theorem split_last {c : Nat} : ∀ (x acc : List Nat), c ∉ x → splitAt1 c acc x = [acc ++ x]
  | [], acc, _ => by simp [splitAt1]
  | a :: x, acc, h => by
    have ha : ¬ a = c := fun e => h (by simp [e])
    rw [splitAt1, if_neg ha, split_last x (acc ++ [a]) fun hm => h (by simp [hm]), List.append_assoc]
    rfl
theorem split_jn {c : Nat} : ∀ (l : List (List Nat)), l ≠ [] → (∀ w ∈ l, c ∉ w) → splitAt1 c [] (joinS [c] l) = l
  | [], h, _ => absurd rfl h
  | [x], _, h => by rw [joinS, split_last x [] (h x (by simp))]; rfl
  | x :: y :: l, _, h => by
    rw [joinS, List.append_assoc]
    show splitAt1 c [] (x ++ c :: joinS [c] (y :: l)) = _
    rw [split_app x [] _ (h x (by simp)), split_jn (y :: l) (by simp) fun w hw => h w (by simp [hw])]
    rfl
theorem joinS_nil : ∀ (x : List Nat) (l : List (List Nat)), joinS [] (x :: l) = x ++ joinS [] l
  | x, [] => by simp [joinS]
  | x, y :: l => by rw [joinS]; simp
theorem split_lines {c : Nat} : ∀ (l : List (List Nat)), (∀ w ∈ l, c ∉ w) → splitAt1 c [] (joinS [] (l.map (· ++ [c]))) = l ++ [[]]
  | [], _ => rfl
  | x :: l, h => by
    rw [List.map_cons, joinS_nil, List.append_assoc]
    show splitAt1 c [] (x ++ c :: joinS [] (l.map (· ++ [c]))) = _
    rw [split_app x [] _ (h x (by simp)), split_lines l fun w hw => h w (by simp [hw])]
    rfl
theorem mem_joinS {c : Nat} {sep : List Nat} : ∀ {l : List (List Nat)}, c ∈ joinS sep l → c ∈ sep ∨ ∃ w ∈ l, c ∈ w
  | [], h => by simp [joinS] at h
  | [x], h => .inr ⟨x, by simp, h⟩
  | x :: y :: l, h => by
    rw [joinS] at h
    rcases List.mem_append.mp h with h | h
    · rcases List.mem_append.mp h with h | h
      · exact .inr ⟨x, by simp, h⟩
      · exact .inl h
    · rcases mem_joinS h with h | ⟨w, hw, h⟩
      · exact .inl h
      · exact .inr ⟨w, by simp [hw], h⟩
theorem jn_nl {l : List (List Nat)} (h : Ws l) : 10 ∉ jn l := fun hm => by
  rcases mem_joinS hm with hm | ⟨w, hw, hm⟩
  · exact absurd hm (by decide)
  · exact (h.wd w hw).nl hm
theorem text_lines {f : Fo} {o : Int} (ok : Fo.Ok o f) : splitAt1 10 [] f.text = f.lines ++ [[]] := split_lines _ fun w hw => by
  obtain ⟨l, hl, rfl⟩ := List.mem_map.mp hw
  exact jn_nl (ok.wordsOk l hl)
theorem line_words {l : List (List Nat)} (h : Ws l) : splitAt1 32 [] (jn l) = l := split_jn l h.ne fun w hw => (h.wd w hw).sp
theorem text_len {f : Fo} {o : Int} (ok : Fo.Ok o f) : f.text.length + 2 ≤ line := by
  obtain ⟨l1, l2⟩ := ok.lines_len
  have h1 := joinS_len (sep := []) (f.lines.map (· ++ [10]))
  have h2 := sum_le (f := List.length) (B := 201) (l := f.lines.map (· ++ [10])) fun w hw => by
    obtain ⟨x, hx, rfl⟩ := List.mem_map.mp hw
    have := l2 x hx
    simp
    omega
  have h3 : (f.lines.map (· ++ [10])).length = f.lines.length := List.length_map _
  have h4 : f.text.length ≤ f.lines.length * 201 := by
    show (joinS [] (f.lines.map (· ++ [10]))).length ≤ _
    rw [h3] at h1 h2
    simp only [List.length_nil, Nat.mul_zero, Nat.add_zero] at h1
    omega
  have h5 : 20000 ≤ line := by decide +kernel
  have : f.lines.length * 201 ≤ 40 * 201 := Nat.mul_le_mul_right _ l1
  omega
/-! ### more steps -/
section
variable {C : Ctx} {s s' : Env} {h h1 h2 h' : Hm} {a b : E} {x y w : W} {l m ws : List W} {es : List E}
theorem et_and_f (ea : evT C s a h = .ok false h1) : evT C s (.and a b) h = .ok false h1 := by
  have ea : (den C a).t s h = .ok false h1 := ea
  simp [evT, den, ea]
theorem et_and_t (ea : evT C s a h = .ok true h1) : evT C s (.and a b) h = evT C s b h1 := by
  have ea : (den C a).t s h = .ok true h1 := ea
  simp [evT, den, ea]
theorem ev_mcall {mm r f : Nat} (ea : evE C s a h = .ok (.ref r) h) (hm : mthOf C mm (.ref r) h = some f) (ee : evEs C s es h = .ok ws h1) : evE C s (.mcall mm a es) h = C.call f (.ref r :: ws) h1 := by
  have ea : (den C a).v s h = .ok (.ref r) h := ea
  have ee : denL C es s h = .ok ws h1 := ee
  show (den C (.mcall mm a es)).v s h = _
  rw [den]
  simp only [mkV_v, ea, R.thenN, mcallV, hm, ee, then_okk]
theorem st_fld {v r c f : Nat} {fs : List (Nat × W)} (ee : evE C s a h = .ok w h1) (sv : s[v]? = some (some (.ref r))) (er : h1[r]? = some (.ins c fs)) (n : C.na c f = true) (hl : fs.length < 1000) : evS C (.asg (.fld (.var v) f) a) s h = .nx s (h1.set r (.ins c (putF f w fs))) := by
  have v0 : evE C s (.var v) h1 = .ok (.ref r) h1 := ev_var sv
  have st := setFld_ok (na := C.na) (w := w) er n hl
  rw [evS, ee]
  simp only [ofR_ok, M2.asg, v0, st, nxO]
theorem st_appendE {r : Nat} (ea : evE C s a h = .ok (.ref r) h) (er : h[r]? = some (.lst l)) (ee : evE C s b h = .ok w h1) (er1 : h1[r]? = some (.lst l)) (hl : l.length ≤ 1000) : evS C (.exp (.met .append a [b])) s h = .nx s (h1.set r (.lst (l ++ [w]))) := by
  have ea : (den C a).v s h = .ok (.ref r) h := ea
  have ee : (den C b).v s h = .ok w h1 := ee
  simp [evS, evE, den, ea, recv_app er, ee, m_append er1 hl]
theorem getI_at {j : Nat} {x : W} (e : l[j]? = some x) : getItem (.kl l) (.int j) h = .ok x h := by
  have hj := (List.getElem?_eq_some_iff.mp e).1
  exact RowAt.get (.inr (.inr rfl)) (j := j) (place_nn (by omega) (by omega)) e
theorem len_kl : b1op .len [.kl l] h = .ok (.int l.length) h := rfl
theorem et_eqi {i j : Int} (ea : evE C s a h = .ok (.int i) h) (eb : evE C s b h = .ok (.int j) h) : evT C s (.cmp .eq a b) h = .ok (i == j) h := et_cmp ea eb (by rw [cmpC_int]; rfl)
theorem et_nei {i j : Int} (ea : evE C s a h = .ok (.int i) h) (eb : evE C s b h = .ok (.int j) h) : evT C s (.cmp .ne a b) h = .ok (!(i == j)) h := et_cmp ea eb (by rw [cmpC_int]; rfl)
theorem et_lti {i j : Int} (ea : evE C s a h = .ok (.int i) h) (eb : evE C s b h = .ok (.int j) h) : evT C s (.cmp .lt a b) h = .ok (decide (i < j)) h := et_cmp ea eb (by rw [cmpC_int]; rfl)
theorem et_eqs {i j : List Nat} (ea : evE C s a h = .ok (.str i) h) (eb : evE C s b h = .ok (.str j) h) : evT C s (.cmp .eq a b) h = .ok (i == j) h := et_cmp ea eb (by rw [cmpC_str]; rfl)
theorem et_nes {i j : List Nat} (ea : evE C s a h = .ok (.str i) h) (eb : evE C s b h = .ok (.str j) h) : evT C s (.cmp .ne a b) h = .ok (!(i == j)) h := et_cmp ea eb (by rw [cmpC_str]; rfl)
theorem ev_len {n : Int} (ea : evE C s a h = .ok x h) (e : b1op .len [x] h = .ok (.int n) h) : evE C s (.b1 .len [a]) h = .ok (.int n) h := (ev_b1 (es_cons ea es_nil)).trans e
end
/-! ### numbers -/
abbrev digits : List Nat := [48, 49, 50, 51, 52, 53, 54, 55, 56, 57]
abbrev heads : List (List Nat) := [sGap, sStorms, sYard, sDue]
structure HasR (D : Prog) (I : Ix) : Prop where
  number_in : D.fns I.number_in = some (B.number_in I)
  numbers_in : D.fns I.numbers_in = some (B.numbers_in I)
  init : D.fns I.Reader_init = some (B.Reader_init I)
  takes : D.fns I.Reader_takes = some (B.Reader_takes I)
  takes_kind : D.fns I.Reader_takes_kind = some (B.Reader_takes_kind I)
  takes_table : D.fns I.Reader_takes_table = some (B.Reader_takes_table I)
  takes_stand : D.fns I.Reader_takes_stand = some (B.Reader_takes_stand I)
  takes_near : D.fns I.Reader_takes_near = some (B.Reader_takes_near I)
  takes_last : D.fns I.Reader_takes_last = some (B.Reader_takes_last I)
  finished : D.fns I.Reader_finished = some (B.Reader_finished I)
  read : D.fns I.read_forest = some (B.read_forest I)
  ini : D.ini I.c_Reader = some I.Reader_init
  fzc : D.fzc I.c_Reader = false
  na : ∀ f, f < 14 → D.na I.c_Reader f = true
  m1 : D.mth I.c_Reader I.m_takes = some I.Reader_takes
  m2 : D.mth I.c_Reader I.m_takes_kind = some I.Reader_takes_kind
  m3 : D.mth I.c_Reader I.m_takes_table = some I.Reader_takes_table
  m4 : D.mth I.c_Reader I.m_takes_stand = some I.Reader_takes_stand
  m5 : D.mth I.c_Reader I.m_takes_near = some I.Reader_takes_near
  m6 : D.mth I.c_Reader I.m_takes_last = some I.Reader_takes_last
  m7 : D.mth I.c_Reader I.m_finished = some I.Reader_finished
  f0 : I.f_kinds = 0
  f1 : I.f_stands = 1
  f2 : I.f_near = 2
  fb : I.f_stage = 11
  fc : I.f_table = 12
  fd : I.f_facts = 13
  dig : D.con I.g_DIGITS = some (.str digits)
  md : D.con I.g_MOST_DIGITS = some (.int 6)
  hds : D.con I.g_HEADS = some (.tup (heads.map .str))
  szs : D.con I.g_SIZES = some (.tup [.ref 0, .tup [.tup [.str sGap, .int 1], .tup [.str sStorms, .int 3], .tup [.str sYard, .int 2], .tup [.str sDue, .int 1]]])
section
variable {D : Prog} {I : Ix} {k : Nat} {h : Hm}
theorem dig_all {l : List Nat} (h : allDig l = true) : l.all digits.contains = true := by
  unfold allDig at h
  rw [List.all_eq_true] at h ⊢
  intro c hc
  have := h c hc
  simp only [Bool.and_eq_true, decide_eq_true_eq] at this
  have : c = 48 ∨ c = 49 ∨ c = 50 ∨ c = 51 ∨ c = 52 ∨ c = 53 ∨ c = 54 ∨ c = 55 ∨ c = 56 ∨ c = 57 := by omega
  rcases this with rfl | rfl | rfl | rfl | rfl | rfl | rfl | rfl | rfl | rfl <;> decide
theorem number_in (X : HasR D I) (hk : 1 ≤ k) {i : Int} (h0 : 0 ≤ i) (h1 : i ≤ 1000) : run D k I.number_in [.str (nW i)] h = .ok (.int i) h := by
  obtain ⟨n, rfl, hr⟩ := run_at (ws := [.str (nW i)]) (h := h) hk X.number_in rfl
  have N := nu h0 h1
  have l4 := N.l4
  have l1 : 1 ≤ (nW i).length := by
    cases e : nW i with
    | nil => exact absurd e N.wd.ne
    | cons _ _ => simp
  let s : Env := [some (.str (nW i))]
  have v : evE (ctx D n) s (.var 0) h = .ok (.str (nW i)) h := ev_var rfl
  have ln : b1op .len [.str (nW i)] h = .ok (.int (nW i).length) h := by
    show (if (nW i).length ≤ line then _ else _) = _
    rw [if_pos (le_line (by omega))]
  have cm : conV (ctx D n) I.g_MOST_DIGITS h = .ok (.int 6) h := con_ok X.md
  have cd : conV (ctx D n) I.g_DIGITS h = .ok (.str digits) h := con_ok X.dig
  have mt : met1 .strip (.str (nW i)) (.str digits) h = .ok (.str []) h := by
    show (if (nW i).length ≤ line then R.ok (W.str (stripIn digits (nW i))) h else .bad) = _
    rw [if_pos (le_line (by omega))]
    unfold stripIn
    rw [dropIn_nil.mpr (dig_all N.dig)]
    rfl
  have q0 : evS (ctx D n) (.ite (.or (.not (.cmp2 .le .le (.int 1) (.b1 .len [(.var 0)]) (.glo I.g_MOST_DIGITS))) (.cmp .ne (.met .strip (.var 0) [(.glo I.g_DIGITS)]) (.str []))) [.ret .non] []) s h = .nx s h := by
    have d1 : decide ((1 : Int) ≤ ((nW i).length : Nat)) = true := decide_eq_true (by omega)
    have d2 : decide (((nW i).length : Int) ≤ 6) = true := decide_eq_true (by omega)
    refine st_skip ?_
    have a1 : evT (ctx D n) s (.not (.cmp2 .le .le (.int 1) (.b1 .len [(.var 0)]) (.glo I.g_MOST_DIGITS))) h = .ok false h := by
      simp only [s]
      simp [evT, den, denL, ln, cm, chainV]
      rw [decide_eq_true (show (1 : Int) ≤ ((nW i).length : Nat) by omega)]
      simp [truth, chainV]
      omega
    rw [et_or_f a1]
    have a2 : evE (ctx D n) s (.met .strip (.var 0) [(.glo I.g_DIGITS)]) h = .ok (.str []) h := by
      simp only [s]
      simp [evE, den, denL, cd, recv, isRecv, mt]
    exact et_nes a2 (ev_str [])
  have gi : ∀ c r, nW i = c :: r → getItem (.str (nW i)) (.int 0) h = .ok (.str [c]) h := fun c r e => by
    have p : place (nW i).length 0 = some 0 := place_nn (Int.le_refl 0) (by omega)
    unfold getItem
    simp only [if_pos (le_line (show (nW i).length ≤ 1000 by omega)), p]
    rw [e]
    rfl
  obtain ⟨c, r, ec⟩ : ∃ c r, nW i = c :: r := by
    cases e : nW i with
    | nil => exact absurd e N.wd.ne
    | cons c r => exact ⟨c, r, rfl⟩
  have a3 := et_eqs ((ev_subi v).trans (gi c r ec)) (ev_str (C := ctx D n) (s := s) [48])
  have a4 : evT (ctx D n) s (.and (.cmp .eq (.sub (.var 0) (.int 0)) (.str [48])) (.cmp .ne (.var 0) (.str [48]))) h = .ok false h := by
    by_cases hc : c = 48
    · subst hc
      have a3 : evT (ctx D n) s (.cmp .eq (.sub (.var 0) (.int 0)) (.str [48])) h = .ok true h := a3
      rw [et_and_t a3]
      rw [et_nes v (ev_str [48])]
      have : nW i = [48] := by
        rcases N.hd with hd | hd
        · rw [ec] at hd
          exact absurd rfl hd
        · exact hd
      rw [this]
      rfl
    · exact et_and_f (a3.trans (by
        have : ([c] == [48]) = false := by simp [hc]
        rw [this]))
  have a5 : evE (ctx D n) s (.b1 .int [(.var 0)]) h = .ok (.int i) h := by
    refine (ev_b1 (es_cons v es_nil)).trans ?_
    show (if (allDig (nW i) && (!(nW i).isEmpty && decide ((nW i).length ≤ 640))) = true then R.ok (W.int (decNat (nW i))) h else .bad) = _
    rw [N.dig, decide_eq_true (show (nW i).length ≤ 640 by omega), ec]
    simp only [List.isEmpty_cons, Bool.not_false, Bool.and_self, if_true]
    rw [← ec, N.val]
  have q1 := st_ret ((ev_ite (a := .non) (b := .b1 .int [(.var 0)]) a4).trans a5)
  rw [hr]
  show back _ h (evSs _ [_, _] s h) = _
  rw [evSs_nx q0, evSs_rt q1, back_rt, gc_self]
theorem no_non {h : Hm} : ∀ l : List Int, anyEq (fun a => eqV h a .non) (l.map .int) = some false
  | [] => rfl
  | x :: l => by
    rw [List.map_cons, anyEq, no_non l]
    rfl
theorem numbers_in (X : HasR D I) (hk : 2 ≤ k) {w : W} {l : List Int} (ra : RowAt h w (l.map fun i => .str (nW i))) (hl : l.length ≤ 10) (hi : ∀ i ∈ l, 0 ≤ i ∧ i ≤ 1000) : run D k I.numbers_in [w] h = .ok (.tup (l.map .int)) h := by
  obtain ⟨n, rfl, hr⟩ := run_at (ws := [w]) (h := h) (show 1 ≤ k by omega) X.numbers_in rfl
  let s : Env := [some w, none, none]
  have a0 := el_map (C := ctx D n) (own := [2]) (s := s) (i := 2) (e := .call I.number_in [.var 2]) (g := fun x => .int (decNat (wordOf x))) (ev_var (i := 0) rfl) ra (fun y hy => by
    obtain ⟨i, hm, rfl⟩ := List.mem_map.mp hy
    obtain ⟨h0, h1⟩ := hi i hm
    refine (ev_call (es_cons (ev_var (i := 2) (x := .str (nW i)) rfl) es_nil)).trans ((number_in (k := n) X (by omega) h0 h1).trans ?_)
    show R.ok (W.int i) h = R.ok (W.int (decNat (nW i))) h
    rw [(nu h0 h1).val]) (by rw [List.length_map]; omega)
  have e : (l.map fun i => W.str (nW i)).map (fun x => W.int (decNat (wordOf x))) = l.map .int := by
    rw [List.map_map]
    refine List.map_congr_left fun i hm => ?_
    obtain ⟨h0, h1⟩ := hi i hm
    show W.int (decNat (nW i)) = _
    rw [(nu h0 h1).val]
  rw [e] at a0
  let s1 : Env := [some w, some (.kl (l.map .int)), none]
  have q0 : evS (ctx D n) (.asg (.var 1) _) s h = .nx s1 h := st_asg (i := 1) (ev_of rfl a0)
  have v1 : evE (ctx D n) s1 (.var 1) h = .ok (.kl (l.map .int)) h := ev_var rfl
  have a1 : evT (ctx D n) s1 (.cmp .mem .non (.var 1)) h = .ok false h := et_cmp ev_non v1 (by
    rw [cmpC_non, c_mem]
    show rb (anyEq _ _) h = _
    rw [no_non]
    rfl)
  have a2 := ev_tuple (C := ctx D n) (s := s1) (el_of rfl v1 rfl)
  rw [hr]
  show back _ h (evSs _ [_, _] s h) = _
  rw [evSs_nx q0, evSs_rt (st_ret ((ev_ite a1).trans a2)), back_rt, gc_self]
end
end M2

namespace M2
/-! ### a reader as it stands -/
def rdFs (r : Nat) (st : Int) (tb : W) : List (Nat × W) := [(11, .int st), (12, tb), (0, .ref (r + 1)), (1, .ref (r + 2)), (2, .ref (r + 3)), (13, .ref (r + 4))]
def RH (I : Ix) (h : Hm) (st : Int) (tb : W) (ks ss ns : List W) (fx : List (W × W)) (t : Hm) : Hm := h ++ (.ins I.c_Reader (rdFs h.length st tb) :: .lst ks :: .lst ss :: .lst ns :: .dct fx :: t)
section
variable {C : Ctx} {I : Ix} {h : Hm} {st st' : Int} {tb tb' : W} {ks ss ns ks' ss' ns' : List W} {fx fx' : List (W × W)} {t : Hm}
theorem RH_len : (RH I h st tb ks ss ns fx t).length = h.length + (t.length + 5) := by simp only [RH, List.length_append, List.length_cons]
theorem RH_ins : (RH I h st tb ks ss ns fx t)[h.length]? = some (.ins I.c_Reader (rdFs h.length st tb)) := hat (i := 0)
theorem RH_ks : (RH I h st tb ks ss ns fx t)[h.length + 1]? = some (.lst ks) := hat (i := 1)
theorem RH_ss : (RH I h st tb ks ss ns fx t)[h.length + 2]? = some (.lst ss) := hat (i := 2)
theorem RH_ns : (RH I h st tb ks ss ns fx t)[h.length + 3]? = some (.lst ns) := hat (i := 3)
theorem RH_fx : (RH I h st tb ks ss ns fx t)[h.length + 4]? = some (.dct fx) := hat (i := 4)
theorem RH_last {o : O} : (RH I h st tb ks ss ns fx (t ++ [o]))[h.length + (t.length + 5)]? = some o := by
  show (h ++ _)[h.length + (t.length + 5)]? = _
  rw [hat]
  show (t ++ [o])[t.length]? = _
  simp
theorem RH_app {o : O} : RH I h st tb ks ss ns fx t ++ [o] = RH I h st tb ks ss ns fx (t ++ [o]) := by simp [RH]
theorem RH_sst (st' : Int) : (RH I h st tb ks ss ns fx t).set h.length (.ins I.c_Reader (putF 11 (.int st') (rdFs h.length st tb))) = RH I h st' tb ks ss ns fx t := hset (i := 0)
theorem RH_stb (tb' : W) : (RH I h st tb ks ss ns fx t).set h.length (.ins I.c_Reader (putF 12 tb' (rdFs h.length st tb))) = RH I h st tb' ks ss ns fx t := hset (i := 0)
theorem RH_sks (ks' : List W) : (RH I h st tb ks ss ns fx t).set (h.length + 1) (.lst ks') = RH I h st tb ks' ss ns fx t := hset (i := 1)
theorem RH_sss (ss' : List W) : (RH I h st tb ks ss ns fx t).set (h.length + 2) (.lst ss') = RH I h st tb ks ss' ns fx t := hset (i := 2)
theorem RH_sns (ns' : List W) : (RH I h st tb ks ss ns fx t).set (h.length + 3) (.lst ns') = RH I h st tb ks ss ns' fx t := hset (i := 3)
theorem RH_sfx (fx' : List (W × W)) : (RH I h st tb ks ss ns fx t).set (h.length + 4) (.dct fx') = RH I h st tb ks ss ns fx' t := hset (i := 4)
theorem RH_slast {o : O} (o' : O) : (RH I h st tb ks ss ns fx (t ++ [o])).set (h.length + (t.length + 5)) o' = RH I h st tb ks ss ns fx (t ++ [o']) := by
  show (h ++ _).set (h.length + (t.length + 5)) o' = _
  rw [hset]
  show h ++ (_ :: _ :: _ :: _ :: _ :: (t ++ [o]).set t.length o') = _
  rw [List.set_append_right _ _ (Nat.le_refl _), Nat.sub_self]
  rfl
end
theorem gc_bad {h0 h : Hm} {fz : Bool} {w : W} (b : baseOk h0 h = false) : gc fz h0 w h = .ok w h := by
  cases fz with
  | true =>
    unfold gc
    rw [b]
    rfl
  | false =>
    show gc0 h0 w h = _
    unfold gc0
    rw [b]
    rfl
theorem isN_tup {l : List W} {h : Hm} : cmpop .isN (.tup l) .non h = .ok (.bl false) h := by unfold cmpop; simp
theorem notN_non {h : Hm} : cmpop .notN .non .non h = .ok (.bl false) h := by unfold cmpop; simp
theorem notN_ref {r : Nat} {h : Hm} : cmpop .notN (.ref r) .non h = .ok (.bl true) h := by unfold cmpop; simp
theorem st_ret_t {C : Ctx} {s : Env} {c e : E} {w : W} {h h1 : Hm} (ec : evT C s c h = .ok true h) (ee : evE C s e h = .ok w h1) : evS C (.ite c [.ret e] []) s h = .rt w h1 := by
  rw [st_t ec, evSs_one, st_ret ee]
section
variable {D : Prog} {I : Ix} {k : Nat} {h : Hm} {st : Int} {tb : W} {ks ss ns : List W} {fx : List (W × W)} {t : Hm}
theorem rd_mth (X : HasR D I) {n m f : Nat} (e : D.mth I.c_Reader m = some f) : mthOf (ctx D n) m (.ref h.length) (RH I h st tb ks ss ns fx t) = some f := by
  unfold mthOf
  simp only [RH_ins]
  have all : ((rdFs h.length st tb).all fun q => (ctx D n).na I.c_Reader q.1) = true := by
    simp only [rdFs, List.all_cons, List.all_nil, ctx_na, X.na 11 (by decide), X.na 12 (by decide), X.na 0 (by decide), X.na 1 (by decide), X.na 2 (by decide), X.na 13 (by decide)]
    rfl
  rw [if_pos all]
  exact e
theorem rd_fld (X : HasR D I) {n : Nat} {s : Env} {j fj : Nat} {w : W} (s0 : s[0]? = some (some (.ref h.length))) (hj : j < 14) (ej : fj = j) (e : getF j (rdFs h.length st tb) = some w) : evE (ctx D n) s (.fld (.var 0) fj) (RH I h st tb ks ss ns fx t) = .ok w (RH I h st tb ks ss ns fx t) := by
  subst ej
  exact (ev_fld (ev_var s0)).trans (getFld_ok RH_ins (X.na fj hj) e)
theorem st_stage (X : HasR D I) {n : Nat} {s : Env} {a : E} {v : Int} (s0 : s[0]? = some (some (.ref h.length))) (ea : evE (ctx D n) s a (RH I h st tb ks ss ns fx t) = .ok (.int v) (RH I h st tb ks ss ns fx t)) : evS (ctx D n) (.asg (.fld (.var 0) I.f_stage) a) s (RH I h st tb ks ss ns fx t) = .nx s (RH I h v tb ks ss ns fx t) := by
  rw [X.fb, st_fld ea s0 RH_ins (X.na 11 (by decide)) (by simp [rdFs]), RH_sst]
/-- a new table -/
theorem rd_new {st' : Int} {o : O} {w : W} {fz : Bool} : gc fz (RH I h st .non ks ss ns fx t) w (RH I h st (.ref (h.length + (t.length + 5))) ks ss ns fx (t ++ [o])) = .ok w (RH I h st (.ref (h.length + (t.length + 5))) ks ss ns fx (t ++ [o])) := by
  refine gc_bad ?_
  unfold baseOk
  rw [← RH_app, List.take_left' (by rw [RH_len, RH_len])]
  have e1 : decide (RH I h st (.ref (h.length + (t.length + 5))) ks ss ns fx t = RH I h st .non ks ss ns fx t) = false := decide_eq_false fun e => by
    have := List.append_cancel_left e
    simp [rdFs] at this
  have e2 : Hm.cl (RH I h st .non ks ss ns fx t).length (RH I h st (.ref (h.length + (t.length + 5))) ks ss ns fx t) = false := by
    rw [RH_len]
    unfold Hm.cl RH
    rw [List.all_append, List.all_cons]
    have : (O.ins I.c_Reader (rdFs h.length st (.ref (h.length + (t.length + 5))))).cl (h.length + (t.length + 5)) = false := by
      show clAll _ _ = false
      simp [rdFs, clAll, W.cl]
    rw [this]
    simp
  rw [e1, e2]
  simp
theorem kn_s {l : List Nat} : Kn h (.str l) := kn_str
theorem name_call (P : HasW D I) {n : Nat} {s : Env} {a : E} {l : List Nat} (hk : 2 ≤ n) (ea : evE (ctx D n) s a h = .ok (.str l) h) (hn : isName (.str l) = true) : evT (ctx D n) s (.not (.call I.is_name [a])) h = .ok false h := by
  have c := is_name (k := n) (h := h) P hk (kn_str (l := l)) (fun _ e => by cases e; exact le_line (by have := isLab_len hn; omega))
  rw [hn] at c
  exact et_not (et_call (es_cons ea es_nil) c)
abbrev kw (x : Kin) : List (List Nat) := [sKind, x.name, nW x.ripe, nW x.weak, if x.firm then sBeetles else sFirm]
abbrev tb3 (x : Kin) : List W := [.str x.name, .tup [.int x.ripe, .int x.weak], .bl x.firm]
theorem takes_kind (X : HasR D I) (P : HasW D I) (hk : 4 ≤ k) {x : Kin} {o : Int} (ok : Kin.Ok o x) (o6 : o ≤ 6) (nm : isName (.str x.name) = true) :
    run D k I.Reader_takes_kind [.ref h.length, .kl ((kw x).map .str)] (RH I h st .non ks ss ns fx t) = .ok (.bl true) (RH I h st (.ref (h.length + (t.length + 5))) ks ss ns fx (t ++ [.lst (tb3 x)])) := by
  let H := RH I h st .non ks ss ns fx t
  obtain ⟨n, rfl, hr⟩ := run_at (ws := [.ref h.length, .kl ((kw x).map .str)]) (h := H) (show 1 ≤ k by omega) X.takes_kind rfl
  have rp := ok.ripe
  have wk := ok.weak
  let s : Env := [some (.ref h.length), some (.kl ((kw x).map .str)), none]
  have v : ∀ {H : Hm}, evE (ctx D n) s (.var 1) H = .ok (.kl ((kw x).map .str)) H := ev_var rfl
  have g1 : evE (ctx D n) s (.sub (.var 1) (.int 1)) H = .ok (.str x.name) H := (ev_subi v).trans (getI_at (j := 1) rfl)
  have g4 : evE (ctx D n) s (.sub (.var 1) (.int 4)) H = .ok (.str (if x.firm then sBeetles else sFirm)) H := (ev_subi v).trans (getI_at (j := 4) rfl)
  have q0 : evS (ctx D n) (.ite (.or (.cmp .ne (.b1 .len [(.var 1)]) (.int 5)) (.or (.not (.call I.is_name [(.sub (.var 1) (.int 1))])) (.cmp .nmem (.sub (.var 1) (.int 4)) (.tup [(.str sBeetles), (.str sFirm)])))) [.ret (.bl false)] []) s H = .nx s H := by
    refine st_skip ?_
    have a0 : evT (ctx D n) s (.cmp .ne (.b1 .len [(.var 1)]) (.int 5)) H = .ok false H := et_nei (ev_len v len_kl) (ev_int (C := ctx D n) (s := s) 5)
    have a2 : evE (ctx D n) s (.tup [(.str sBeetles), (.str sFirm)]) H = .ok (.tup [.str sBeetles, .str sFirm]) H := ev_tup (es_cons (ev_str _) (es_cons (ev_str _) es_nil)) (by simp)
    rw [et_or_f a0, et_or_f (name_call P (by omega) g1 nm)]
    refine et_cmp g4 a2 ?_
    rw [cmpC_str, c_nmem]
    cases x.firm <;> rfl
  have sl := (ev_slc2 (i := 2) (j := 4) (v (H := H))).trans (show getSlice (.kl ((kw x).map .str)) (some 2) (some 4) H = .ok (.kl ([x.ripe, x.weak].map fun i => .str (nW i))) H from rfl)
  let s1 : Env := [some (.ref h.length), some (.kl ((kw x).map .str)), some (.tup [.int x.ripe, .int x.weak])]
  have q1 : evS (ctx D n) (.asg (.var 2) (.call I.numbers_in [_])) s H = .nx s1 H := st_asg (i := 2) ((ev_call (es_cons sl es_nil)).trans (numbers_in (k := n) X (by omega) (l := [x.ripe, x.weak]) (.inr (.inr rfl)) (by simp) (fun i hi => by
    simp only [List.mem_cons, List.not_mem_nil, or_false] at hi
    rcases hi with rfl | rfl <;> omega)))
  have v2 : ∀ {H : Hm}, evE (ctx D n) s1 (.var 2) H = .ok (.tup [.int x.ripe, .int x.weak]) H := ev_var rfl
  have v1 : ∀ {H : Hm}, evE (ctx D n) s1 (.var 1) H = .ok (.kl ((kw x).map .str)) H := ev_var rfl
  have q2 : evS (ctx D n) (.ite (.cmp .isN (.var 2) .non) [.ret (.bl false)] []) s1 H = .nx s1 H := st_skip (et_cmp v2 ev_non (by rw [cmpC_tup, isN_tup]))
  have g1' : evE (ctx D n) s1 (.sub (.var 1) (.int 1)) H = .ok (.str x.name) H := (ev_subi v1).trans (getI_at (j := 1) rfl)
  have g4' : evE (ctx D n) s1 (.cmp .eq (.sub (.var 1) (.int 4)) (.str sBeetles)) H = .ok (.bl x.firm) H := by
    have a : evE (ctx D n) s1 (.sub (.var 1) (.int 4)) H = .ok (.str (if x.firm then sBeetles else sFirm)) H := (ev_subi v1).trans (getI_at (j := 4) rfl)
    refine (ev_cmp a (ev_str _)).trans ?_
    rw [cmpC_str, c_eq, eqV_str]
    cases x.firm <;> rfl
  have nw := ev_new (ev_lst (es_cons g1' (es_cons v2 (es_cons g4' es_nil))) (by simp))
  have nw : evE (ctx D n) s1 (.new (.lst [(.sub (.var 1) (.int 1)), (.var 2), (.cmp .eq (.sub (.var 1) (.int 4)) (.str sBeetles))])) H = .ok (.ref (h.length + (t.length + 5))) (RH I h st .non ks ss ns fx (t ++ [.lst (tb3 x)])) := by
    rw [RH_len, RH_app] at nw
    exact nw
  have q3 := st_fld (C := ctx D n) (f := I.f_table) nw (v := 0) rfl RH_ins (by rw [X.fc]; exact X.na 12 (by decide)) (by simp [rdFs])
  rw [X.fc, RH_stb] at q3
  rw [hr]
  show back _ H (evSs _ [_, _, _, _, _] s H) = _
  rw [evSs_nx q0, evSs_nx q1, evSs_nx q2]
  have q3 : evS (ctx D n) (.asg (.fld (.var 0) I.f_table) (.new (.lst [(.sub (.var 1) (.int 1)), (.var 2), (.cmp .eq (.sub (.var 1) (.int 4)) (.str sBeetles))]))) s1 H = .nx s1 (RH I h st (.ref (h.length + (t.length + 5))) ks ss ns fx (t ++ [.lst (tb3 x)])) := by rw [X.fc]; exact q3
  rw [evSs_nx q3, evSs_rt (st_ret (x := .bl true) rfl), back_rt]
  exact rd_new (st' := 0)
theorem takes_table (X : HasR D I) (hk : 3 ≤ k) {l : List W} {nu : List Int} (hl : nu.length ≤ 10) (hi : ∀ i ∈ nu, 0 ≤ i ∧ i ≤ 1000) (h3 : l.length = 3) :
    run D k I.Reader_takes_table [.ref h.length, .kl ((nu.map nW).map .str)] (RH I h st (.ref (h.length + (t.length + 5))) ks ss ns fx (t ++ [.lst l])) = .ok (.bl true) (RH I h st (.ref (h.length + (t.length + 5))) ks ss ns fx (t ++ [.lst (l ++ [.tup (nu.map .int)])])) := by
  let H := RH I h st (.ref (h.length + (t.length + 5))) ks ss ns fx (t ++ [.lst l])
  let H1 := RH I h st (.ref (h.length + (t.length + 5))) ks ss ns fx (t ++ [.lst (l ++ [.tup (nu.map .int)])])
  obtain ⟨n, rfl, hr⟩ := run_at (ws := [.ref h.length, .kl ((nu.map nW).map .str)]) (h := H) (show 1 ≤ k by omega) X.takes_table rfl
  let s : Env := [some (.ref h.length), some (.kl ((nu.map nW).map .str)), none, none, none, none, none, none]
  let s1 : Env := [some (.ref h.length), some (.kl ((nu.map nW).map .str)), some (.tup (nu.map .int)), none, none, none, none, none]
  have q0 : evS (ctx D n) (.asg (.var 2) (.call I.numbers_in [(.var 1)])) s H = .nx s1 H := st_asg (i := 2) ((ev_call (es_cons (ev_var (i := 1) rfl) es_nil)).trans (numbers_in (k := n) X (by omega) (l := nu) (.inr (.inr (by rw [List.map_map]; rfl))) hl hi))
  have v2 : ∀ {H : Hm}, evE (ctx D n) s1 (.var 2) H = .ok (.tup (nu.map .int)) H := ev_var rfl
  have q1 : evS (ctx D n) (.ite (.cmp .isN (.var 2) .non) [.ret (.bl false)] []) s1 H = .nx s1 H := st_skip (et_cmp v2 ev_non (by rw [cmpC_tup, isN_tup]))
  have tbe : ∀ {l : List W}, evE (ctx D n) s1 (.fld (.var 0) I.f_table) (RH I h st (.ref (h.length + (t.length + 5))) ks ss ns fx (t ++ [.lst l])) = .ok (.ref (h.length + (t.length + 5))) _ := rd_fld X (j := 12) rfl (by decide) X.fc rfl
  have q2 := st_appendE (C := ctx D n) (tbe (l := l)) RH_last (v2 (H := H)) RH_last (by omega)
  rw [RH_slast] at q2
  have q3 : evS (ctx D n) (.ite (.cmp .eq (.b1 .len [(.fld (.var 0) I.f_table)]) (.int 5)) [.asg (.tup [3, 4, 5, 6, 7]) (.fld (.var 0) I.f_table),
      .exp (.met .append (.fld (.var 0) I.f_kinds) [(.tup [(.var 3), (.var 6), (.var 7), (.sub (.var 4) (.int 0)), (.sub (.var 4) (.int 1)), (.var 5)])]),
      .asg (.fld (.var 0) I.f_table) .non] []) s1 H1 = .nx s1 H1 := by
    refine st_skip ?_
    have a0 := et_eqi (ev_len (tbe (l := l ++ [W.tup (nu.map .int)])) (RowAt.len (.inl ⟨_, rfl, RH_last⟩))) (ev_int (C := ctx D n) (s := s1) 5)
    rw [a0]
    rw [show (((l ++ [W.tup (nu.map .int)]).length : Int) == 5) = false by rw [List.length_append, h3]; rfl]
  rw [hr]
  show back _ H (evSs _ [_, _, _, _, _] s H) = _
  rw [evSs_nx q0, evSs_nx q1, evSs_nx q2, evSs_nx q3, evSs_rt (st_ret (x := .bl true) rfl), back_rt]
  exact gc_same _ (by rw [RH_len, RH_len, List.length_append, List.length_append]; rfl)
theorem takes_table2 (X : HasR D I) (hk : 3 ≤ k) {x : Kin} {o : Int} (ok : Kin.Ok o x) (o6 : o ≤ 6) (hks : ks.length ≤ 100) :
    ∃ t', t'.length = t.length + 1 ∧ run D k I.Reader_takes_table [.ref h.length, .kl ((x.windfall.map nW).map .str)] (RH I h st (.ref (h.length + (t.length + 5))) ks ss ns fx (t ++ [.lst (tb3 x ++ [.tup (x.timber.map .int)])])) = .ok (.bl true) (RH I h st .non (ks ++ [x.w]) ss ns fx t') := by
  let l := tb3 x ++ [.tup (x.timber.map .int)]
  let H := RH I h st (.ref (h.length + (t.length + 5))) ks ss ns fx (t ++ [.lst l])
  let nu := x.windfall
  have w := ok.windfall
  obtain ⟨n, rfl, hr⟩ := run_at (ws := [.ref h.length, .kl ((nu.map nW).map .str)]) (h := H) (show 1 ≤ k by omega) X.takes_table rfl
  let s : Env := [some (.ref h.length), some (.kl ((nu.map nW).map .str)), none, none, none, none, none, none]
  let s1 : Env := [some (.ref h.length), some (.kl ((nu.map nW).map .str)), some (.tup (nu.map .int)), none, none, none, none, none]
  have q0 : evS (ctx D n) (.asg (.var 2) (.call I.numbers_in [(.var 1)])) s H = .nx s1 H := st_asg (i := 2) ((ev_call (es_cons (ev_var (i := 1) rfl) es_nil)).trans (numbers_in (k := n) X (by omega) (l := nu) (.inr (.inr (by rw [List.map_map]; rfl))) (by simp only [nu]; omega) (fun i hi => by have := w.2 i hi; omega)))
  have v2 : ∀ {H : Hm}, evE (ctx D n) s1 (.var 2) H = .ok (.tup (nu.map .int)) H := ev_var rfl
  have q1 : evS (ctx D n) (.ite (.cmp .isN (.var 2) .non) [.ret (.bl false)] []) s1 H = .nx s1 H := st_skip (et_cmp v2 ev_non (by rw [cmpC_tup, isN_tup]))
  have tbe : ∀ {l : List W}, evE (ctx D n) s1 (.fld (.var 0) I.f_table) (RH I h st (.ref (h.length + (t.length + 5))) ks ss ns fx (t ++ [.lst l])) = .ok (.ref (h.length + (t.length + 5))) _ := rd_fld X (j := 12) rfl (by decide) X.fc rfl
  have q2 := st_appendE (C := ctx D n) (tbe (l := l)) RH_last (v2 (H := H)) RH_last (by simp [l])
  rw [RH_slast] at q2
  let l5 : List W := l ++ [.tup (nu.map .int)]
  let t1 : Hm := t ++ [.lst l5]
  let H1 := RH I h st (.ref (h.length + (t.length + 5))) ks ss ns fx t1
  let s2 : Env := [some (.ref h.length), some (.kl ((nu.map nW).map .str)), some (.tup (nu.map .int)), some (.str x.name), some (.tup [.int x.ripe, .int x.weak]), some (.bl x.firm), some (.tup (x.timber.map .int)), some (.tup (x.windfall.map .int))]
  have p0 : evS (ctx D n) (.asg (.tup [3, 4, 5, 6, 7]) (.fld (.var 0) I.f_table)) s1 H1 = .nx s2 H1 := by
    have e := tbe (l := l5)
    have e : evE (ctx D n) s1 (.fld (.var 0) I.f_table) H1 = .ok (.ref (h.length + (t.length + 5))) H1 := e
    have at_ : H1[h.length + (t.length + 5)]? = some (.lst l5) := RH_last
    rw [evS, e]
    simp only [ofR_ok, M2.asg, setU, at_]
    rfl
  have ksE : evE (ctx D n) s2 (.fld (.var 0) I.f_kinds) H1 = .ok (.ref (h.length + 1)) H1 := rd_fld X (j := 0) rfl (by decide) X.f0 rfl
  have v4 : evE (ctx D n) s2 (.var 4) H1 = .ok (.tup [.int x.ripe, .int x.weak]) H1 := ev_var rfl
  have tp : evE (ctx D n) s2 (.tup [(.var 3), (.var 6), (.var 7), (.sub (.var 4) (.int 0)), (.sub (.var 4) (.int 1)), (.var 5)]) H1 = .ok x.w H1 :=
    ev_tup (es_cons (ev_var rfl) (es_cons (ev_var rfl) (es_cons (ev_var rfl) (es_cons ((ev_subi v4).trans (show getItem _ _ _ = .ok (.int x.ripe) H1 from rfl)) (es_cons ((ev_subi v4).trans (show getItem _ _ _ = .ok (.int x.weak) H1 from rfl)) (es_cons (ev_var rfl) es_nil)))))) (by simp)
  have p1 := st_appendE (C := ctx D n) ksE RH_ks tp RH_ks (by omega)
  rw [RH_sks] at p1
  have p2 := st_fld (C := ctx D n) (s := s2) (f := I.f_table) (h := RH I h st (.ref (h.length + (t.length + 5))) (ks ++ [x.w]) ss ns fx t1) ev_non (v := 0) rfl RH_ins (by rw [X.fc]; exact X.na 12 (by decide)) (by simp [rdFs])
  have p2 : evS (ctx D n) (.asg (.fld (.var 0) I.f_table) .non) s2 (RH I h st (.ref (h.length + (t.length + 5))) (ks ++ [x.w]) ss ns fx t1) = .nx s2 (RH I h st .non (ks ++ [x.w]) ss ns fx t1) := by
    rw [p2, X.fc, RH_stb]
  have q3 : evS (ctx D n) (.ite (.cmp .eq (.b1 .len [(.fld (.var 0) I.f_table)]) (.int 5)) [.asg (.tup [3, 4, 5, 6, 7]) (.fld (.var 0) I.f_table),
      .exp (.met .append (.fld (.var 0) I.f_kinds) [(.tup [(.var 3), (.var 6), (.var 7), (.sub (.var 4) (.int 0)), (.sub (.var 4) (.int 1)), (.var 5)])]),
      .asg (.fld (.var 0) I.f_table) .non] []) s1 H1 = .nx s2 (RH I h st .non (ks ++ [x.w]) ss ns fx t1) := by
    have a0 := et_eqi (ev_len (tbe (l := l5)) (RowAt.len (.inl ⟨_, rfl, RH_last⟩))) (ev_int (C := ctx D n) (s := s1) 5)
    have a0 : evT (ctx D n) s1 (.cmp .eq (.b1 .len [(.fld (.var 0) I.f_table)]) (.int 5)) H1 = .ok true H1 := a0
    rw [st_t a0, evSs_nx p0, evSs_nx p1, evSs_nx p2, evSs_nil]
  refine ⟨t1, by simp [t1], ?_⟩
  show run D (n + 1) I.Reader_takes_table [.ref h.length, .kl ((nu.map nW).map .str)] H = _
  rw [hr]
  show back _ H (evSs _ [_, _, _, _, _] s H) = _
  rw [evSs_nx q0, evSs_nx q1, evSs_nx q2, evSs_nx q3, evSs_rt (st_ret (x := .bl true) rfl), back_rt]
  exact gc_same _ (by simp [H, t1, RH_len])
theorem takes_stand (X : HasR D I) (P : HasW D I) (hk : 4 ≤ k) {f : Fo} {o : Int} (ok : Fo.Ok o f) {x : Sta} (hx : x ∈ f.stands) (hks : 1 ≤ ks.length) (hss : ss.length ≤ 100) :
    run D k I.Reader_takes_stand [.ref h.length, .kl (x.ws.map .str)] (RH I h st .non ks ss ns fx t) = .ok (.bl true) (RH I h 1 .non ks (ss ++ [x.w]) ns fx t) := by
  let H := RH I h st .non ks ss ns fx t
  let H1 := RH I h 1 .non ks ss ns fx t
  obtain ⟨n, rfl, hr⟩ := run_at (ws := [.ref h.length, .kl (x.ws.map .str)]) (h := H) (show 1 ≤ k by omega) X.takes_stand rfl
  obtain ⟨t1, t2, t3, t4⟩ := Sta.th ok hx
  have n1 := ok.sname x hx
  have n2 : isName (.str x.kind) = true := by
    obtain ⟨y, hy, e⟩ := List.mem_map.mp (ok.skind x hx)
    rw [← e]
    exact ok.kname y hy
  let s : Env := [some (.ref h.length), some (.kl (x.ws.map .str)), none]
  let s1 : Env := [some (.ref h.length), some (.kl (x.ws.map .str)), some (.tup [.int x.age])]
  have v : ∀ {H : Hm}, evE (ctx D n) s (.var 1) H = .ok (.kl (x.ws.map .str)) H := ev_var rfl
  have ksE : evE (ctx D n) s (.fld (.var 0) I.f_kinds) H = .ok (.ref (h.length + 1)) H := rd_fld X (j := 0) rfl (by decide) X.f0 rfl
  have g1 : evE (ctx D n) s (.sub (.var 1) (.int 1)) H = .ok (.str x.name) H := (ev_subi v).trans (getI_at (j := 1) rfl)
  have g2 : evE (ctx D n) s (.sub (.var 1) (.int 2)) H = .ok (.str x.kind) H := (ev_subi v).trans (getI_at (j := 2) rfl)
  have q0 : evS (ctx D n) (.ite (.or (.cmp .eq (.b1 .len [(.fld (.var 0) I.f_kinds)]) (.int 0)) (.or (.cmp .ne (.b1 .len [(.var 1)]) (.int 4)) (.or (.not (.call I.is_name [(.sub (.var 1) (.int 1))])) (.not (.call I.is_name [(.sub (.var 1) (.int 2))]))))) [.ret (.bl false)] []) s H = .nx s H := by
    refine st_skip ?_
    have a0 := et_eqi (ev_len ksE (RowAt.len (.inl ⟨_, rfl, RH_ks⟩))) (ev_int (C := ctx D n) (s := s) 0)
    rw [show (((ks.length : Nat) : Int) == 0) = false by rw [beq_eq_false_iff_ne]; omega] at a0
    have a1 : evT (ctx D n) s (.cmp .ne (.b1 .len [(.var 1)]) (.int 4)) H = .ok false H := et_nei (ev_len v len_kl) (ev_int (C := ctx D n) (s := s) 4)
    rw [et_or_f a0, et_or_f a1, et_or_f (name_call P (by omega) g1 n1)]
    exact name_call P (by omega) g2 n2
  have sl := (ev_slc_lo (i := 3) (v (H := H))).trans (show getSlice (.kl (x.ws.map .str)) (some 3) none H = .ok (.kl ([x.age].map fun i => .str (nW i))) H from rfl)
  have q1 : evS (ctx D n) (.asg (.var 2) (.call I.numbers_in [_])) s H = .nx s1 H := st_asg (i := 2) ((ev_call (es_cons sl es_nil)).trans (numbers_in (k := n) X (by omega) (l := [x.age]) (.inr (.inr rfl)) (by simp) (fun i hi => by
    rw [List.mem_singleton.mp hi]
    omega)))
  have v2 : ∀ {H : Hm}, evE (ctx D n) s1 (.var 2) H = .ok (.tup [.int x.age]) H := ev_var rfl
  have v1 : ∀ {H : Hm}, evE (ctx D n) s1 (.var 1) H = .ok (.kl (x.ws.map .str)) H := ev_var rfl
  have q2 : evS (ctx D n) (.ite (.cmp .isN (.var 2) .non) [.ret (.bl false)] []) s1 H = .nx s1 H := st_skip (et_cmp v2 ev_non (by rw [cmpC_tup, isN_tup]))
  have q3 : evS (ctx D n) (.asg (.fld (.var 0) I.f_stage) (.int 1)) s1 H = .nx s1 H1 := st_stage X rfl (ev_int 1)
  have ssE : evE (ctx D n) s1 (.fld (.var 0) I.f_stands) H1 = .ok (.ref (h.length + 2)) H1 := rd_fld X (j := 1) rfl (by decide) X.f1 rfl
  have tp : evE (ctx D n) s1 (.tup [(.sub (.var 1) (.int 1)), (.sub (.var 1) (.int 2)), (.sub (.var 2) (.int 0))]) H1 = .ok x.w H1 :=
    ev_tup (es_cons ((ev_subi v1).trans (getI_at (j := 1) (x := .str x.name) rfl)) (es_cons ((ev_subi v1).trans (getI_at (j := 2) (x := .str x.kind) rfl)) (es_cons ((ev_subi v2).trans (show getItem _ _ _ = .ok (.int x.age) H1 from rfl)) es_nil))) (by simp)
  have q4 := st_appendE (C := ctx D n) ssE RH_ss tp RH_ss (by omega)
  rw [RH_sss] at q4
  rw [hr]
  show back _ H (evSs _ [_, _, _, _, _, _] s H) = _
  rw [evSs_nx q0, evSs_nx q1, evSs_nx q2, evSs_nx q3, evSs_nx q4, evSs_rt (st_ret (x := .bl true) rfl), back_rt]
  exact gc_same _ (by rw [RH_len, RH_len])
theorem takes_near (X : HasR D I) (hk : 3 ≤ k) {x : Int × Int} (h1 : 0 ≤ x.1 ∧ x.1 ≤ 1000) (h2 : 0 ≤ x.2 ∧ x.2 ≤ 1000) (hss : 1 ≤ ss.length) (hns : ns.length ≤ 100) :
    run D k I.Reader_takes_near [.ref h.length, .kl ((prWs x).map .str)] (RH I h st .non ks ss ns fx t) = .ok (.bl true) (RH I h 2 .non ks ss (ns ++ [prW x]) fx t) := by
  let H := RH I h st .non ks ss ns fx t
  let H1 := RH I h 2 .non ks ss ns fx t
  obtain ⟨n, rfl, hr⟩ := run_at (ws := [.ref h.length, .kl ((prWs x).map .str)]) (h := H) (show 1 ≤ k by omega) X.takes_near rfl
  let s : Env := [some (.ref h.length), some (.kl ((prWs x).map .str)), none]
  let s1 : Env := [some (.ref h.length), some (.kl ((prWs x).map .str)), some (prW x)]
  have v : ∀ {H : Hm}, evE (ctx D n) s (.var 1) H = .ok (.kl ((prWs x).map .str)) H := ev_var rfl
  have sl := (ev_slc_lo (i := 1) (v (H := H))).trans (show getSlice (.kl ((prWs x).map .str)) (some 1) none H = .ok (.kl ([x.1, x.2].map fun i => .str (nW i))) H from rfl)
  have q1 : evS (ctx D n) (.asg (.var 2) (.call I.numbers_in [_])) s H = .nx s1 H := st_asg (i := 2) ((ev_call (es_cons sl es_nil)).trans (numbers_in (k := n) X (by omega) (l := [x.1, x.2]) (.inr (.inr rfl)) (by simp) (fun i hi => by
    simp only [List.mem_cons, List.not_mem_nil, or_false] at hi
    rcases hi with rfl | rfl <;> omega)))
  have v2 : ∀ {H : Hm}, evE (ctx D n) s1 (.var 2) H = .ok (prW x) H := ev_var rfl
  have v1 : ∀ {H : Hm}, evE (ctx D n) s1 (.var 1) H = .ok (.kl ((prWs x).map .str)) H := ev_var rfl
  have ssE : evE (ctx D n) s1 (.fld (.var 0) I.f_stands) H = .ok (.ref (h.length + 2)) H := rd_fld X (j := 1) rfl (by decide) X.f1 rfl
  have q0 : evS (ctx D n) (.ite (.or (.cmp .eq (.b1 .len [(.fld (.var 0) I.f_stands)]) (.int 0)) (.or (.cmp .ne (.b1 .len [(.var 1)]) (.int 3)) (.cmp .isN (.var 2) .non))) [.ret (.bl false)] []) s1 H = .nx s1 H := by
    refine st_skip ?_
    have a0 := et_eqi (ev_len ssE (RowAt.len (.inl ⟨_, rfl, RH_ss⟩))) (ev_int (C := ctx D n) (s := s1) 0)
    rw [show (((ss.length : Nat) : Int) == 0) = false by rw [beq_eq_false_iff_ne]; omega] at a0
    have a1 : evT (ctx D n) s1 (.cmp .ne (.b1 .len [(.var 1)]) (.int 3)) H = .ok false H := et_nei (ev_len v1 len_kl) (ev_int (C := ctx D n) (s := s1) 3)
    rw [et_or_f a0, et_or_f a1]
    exact et_cmp v2 ev_non (by show cmpC _ _ (.tup _) _ _ = _; rw [cmpC_tup, isN_tup])
  have q3 : evS (ctx D n) (.asg (.fld (.var 0) I.f_stage) (.int 2)) s1 H = .nx s1 H1 := st_stage X rfl (ev_int 2)
  have nsE : evE (ctx D n) s1 (.fld (.var 0) I.f_near) H1 = .ok (.ref (h.length + 3)) H1 := rd_fld X (j := 2) rfl (by decide) X.f2 rfl
  have q4 := st_appendE (C := ctx D n) nsE RH_ns (v2 (H := H1)) RH_ns (by omega)
  rw [RH_sns] at q4
  rw [hr]
  show back _ H (evSs _ [_, _, _, _, _] s H) = _
  rw [evSs_nx q1, evSs_nx q0, evSs_nx q3, evSs_nx q4, evSs_rt (st_ret (x := .bl true) rfl), back_rt]
  exact gc_same _ (by rw [RH_len, RH_len])
end
end M2

namespace M2
def sizesL : List W := [.tup [.str sGap, .int 1], .tup [.str sStorms, .int 3], .tup [.str sYard, .int 2], .tup [.str sDue, .int 1]]
section
variable {D : Prog} {I : Ix} {k : Nat} {h : Hm} {st : Int} {tb : W} {ks ss ns : List W} {fx : List (W × W)} {t : Hm}
theorem rd_fldv (X : HasR D I) {n : Nat} {s : Env} {v j fj : Nat} {w : W} (s0 : s[v]? = some (some (.ref h.length))) (hj : j < 14) (ej : fj = j) (e : getF j (rdFs h.length st tb) = some w) : evE (ctx D n) s (.fld (.var v) fj) (RH I h st tb ks ss ns fx t) = .ok w (RH I h st tb ks ss ns fx t) := by
  subst ej
  exact (ev_fld (ev_var s0)).trans (getFld_ok RH_ins (X.na fj hj) e)
theorem rd_same {st' : Int} {tb' : W} {ks' ss' ns' : List W} {fx' : List (W × W)} {t' : Hm} {fz : Bool} {w : W} (e : t'.length = t.length) : gc fz (RH I h st tb ks ss ns fx t) w (RH I h st' tb' ks' ss' ns' fx' t') = .ok w (RH I h st' tb' ks' ss' ns' fx' t') := gc_same _ (by rw [RH_len, RH_len, e])
/-- a line of the last lines -/
theorem takes_last (X : HasR D I) (hk : 3 ≤ k) {j : Nat} {hd : List Nat} {nu : List Int} (hj : j < 4) (hh : heads[j]? = some hd) (hz : dctGet hd sizesL = some (.int nu.length)) (h8 : st ≠ 8) (hst : (if (3 : Int) > st then 3 else st) = 3 + j) (hl : nu.length ≤ 10) (hi : ∀ i ∈ nu, 0 ≤ i ∧ i ≤ 1000) (hss : 1 ≤ ss.length) (hfx : fx.length ≤ 100) :
    run D k I.Reader_takes_last [.ref h.length, .kl ((hd :: nu.map nW).map .str)] (RH I h st .non ks ss ns fx t) = .ok (.bl true) (RH I h (3 + j + 1) .non ks ss ns (putD (.str hd) (.tup (nu.map .int)) fx) t) := by
  let ws : W := .kl ((hd :: nu.map nW).map .str)
  let H := RH I h st .non ks ss ns fx t
  let H1 := RH I h (3 + j) .non ks ss ns fx t
  let H2 := RH I h (3 + j) .non ks ss ns (putD (.str hd) (.tup (nu.map .int)) fx) t
  obtain ⟨n, rfl, hr⟩ := run_at (ws := [.ref h.length, ws]) (h := H) (show 1 ≤ k by omega) X.takes_last rfl
  let s : Env := [some (.ref h.length), some ws, none, none]
  let s2 : Env := [some (.ref h.length), some ws, some (.str hd), none]
  let s3 : Env := [some (.ref h.length), some ws, some (.str hd), some (.tup (nu.map .int))]
  have stE : ∀ {st : Int} {s : Env} {fx : List (W × W)}, s[0]? = some (some (.ref h.length)) → evE (ctx D n) s (.fld (.var 0) I.f_stage) (RH I h st .non ks ss ns fx t) = .ok (.int st) (RH I h st .non ks ss ns fx t) := fun s0 => rd_fld X (j := 11) s0 (by decide) X.fb rfl
  have q0 : evS (ctx D n) (.ite (.or (.cmp .eq (.b1 .len [(.fld (.var 0) I.f_stands)]) (.int 0)) (.cmp .eq (.fld (.var 0) I.f_stage) (.int 8))) [.ret (.bl false)] []) s H = .nx s H := by
    refine st_skip ?_
    have ssE : evE (ctx D n) s (.fld (.var 0) I.f_stands) H = .ok (.ref (h.length + 2)) H := rd_fld X (j := 1) rfl (by decide) X.f1 rfl
    have a0 := et_eqi (ev_len ssE (RowAt.len (.inl ⟨_, rfl, RH_ss⟩))) (ev_int (C := ctx D n) (s := s) 0)
    rw [show (((ss.length : Nat) : Int) == 0) = false by rw [beq_eq_false_iff_ne]; omega] at a0
    rw [et_or_f a0, et_eqi (stE rfl) (ev_int 8), show (st == 8) = false by rw [beq_eq_false_iff_ne]; exact h8]
  have q1 : evS (ctx D n) (.asg (.fld (.var 0) I.f_stage) (.b1 .max2 [(.fld (.var 0) I.f_stage), (.int 3)])) s H = .nx s H1 := st_stage X rfl ((ev_b1 (es_cons (stE rfl) (es_cons (ev_int 3) es_nil))).trans (by
    show R.ok (W.int (if (3 : Int) > st then 3 else st)) _ = _
    rw [hst]))
  have q2 : evS (ctx D n) (.ite (.cmp .eq (.fld (.var 0) I.f_stage) (.int 7)) [.asg (.fld (.var 0) I.f_stage) (.int 8), .ret (.cmp .eq (.var 1) (.lst [(.str sEnd)]))] []) s H1 = .nx s H1 := st_skip ((et_eqi (stE rfl) (ev_int 7)).trans (by rw [show ((3 + (j : Int)) == 7) = false by rw [beq_eq_false_iff_ne]; omega]))
  have gh : ∀ {H : Hm}, getItem (.tup (heads.map .str)) (.int (3 + (j : Int) - 3)) H = .ok (.str hd) H := fun {H} => RowAt.get (.inr (.inl rfl)) (j := j) (by rw [place_nn (by omega) (by simp; omega)]; congr 1; omega) (by rw [List.getElem?_map, hh]; rfl)
  have cH : ∀ {H : Hm} {s : Env}, evE (ctx D n) s (.glo I.g_HEADS) H = .ok (.tup (heads.map .str)) H := fun {H s} => by
    show conV (ctx D n) I.g_HEADS H = _
    exact con_ok X.hds
  have q3 : evS (ctx D n) (.asg (.var 2) (.sub (.glo I.g_HEADS) (.bin .sub (.fld (.var 0) I.f_stage) (.int 3)))) s H1 = .nx s2 H1 := st_asg (i := 2) ((ev_sub cH ((ev_bin (o := .sub) (stE rfl) (ev_int 3)).trans (b_sub _ _ _))).trans gh)
  have v : ∀ {H : Hm}, evE (ctx D n) s2 (.var 1) H = .ok ws H := ev_var rfl
  have sl := (ev_slc_lo (i := 1) (v (H := H1))).trans (show getSlice ws (some 1) none H1 = .ok (.kl (nu.map fun i => .str (nW i))) H1 from by
    show R.ok (W.kl (cut ((hd :: nu.map nW).map W.str) (some 1) none)) H1 = _
    congr 2
    unfold cut clip
    simp
    rw [List.take_of_length_le (by simp)]
    rfl)
  have q4 : evS (ctx D n) (.asg (.var 3) (.call I.numbers_in [(.slc (.var 1) true (.int 1) false .non)])) s2 H1 = .nx s3 H1 := st_asg (i := 3) ((ev_call (es_cons sl es_nil)).trans (numbers_in (k := n) X (by omega) (l := nu) (.inr (.inr rfl)) hl hi))
  have v1 : evE (ctx D n) s3 (.var 1) H1 = .ok ws H1 := ev_var rfl
  have v2 : evE (ctx D n) s3 (.var 2) H1 = .ok (.str hd) H1 := ev_var rfl
  have v3 : evE (ctx D n) s3 (.var 3) H1 = .ok (.tup (nu.map .int)) H1 := ev_var rfl
  have sz : evE (ctx D n) s3 (.gd I.g_SIZES (.var 2)) H1 = .ok (.int nu.length) H1 := by
    show (match dctL (D.con I.g_SIZES) with
      | some l => ((den (ctx D n) (.var 2)).v s3 H1).then (gdV l)
      | none => .bad) = _
    rw [X.szs]
    have v2 : (den (ctx D n) (.var 2)).v s3 H1 = .ok (.str hd) H1 := v2
    show ((den (ctx D n) (.var 2)).v s3 H1).then (gdV sizesL) = _
    rw [v2, then_okk]
    unfold gdV
    simp only [hz]
  have q5 : evS (ctx D n) (.ite (.or (.cmp .ne (.sub (.var 1) (.int 0)) (.var 2)) (.or (.cmp .ne (.b1 .len [(.var 1)]) (.bin .add (.gd I.g_SIZES (.var 2)) (.int 1))) (.cmp .isN (.var 3) .non))) [.ret (.bl false)] []) s3 H1 = .nx s3 H1 := by
    refine st_skip ?_
    have a0 := et_nes ((ev_subi v1).trans (getI_at (j := 0) (x := .str hd) rfl)) v2
    rw [show (hd == hd) = true by simp] at a0
    have a0 : evT (ctx D n) s3 (.cmp .ne (.sub (.var 1) (.int 0)) (.var 2)) H1 = .ok false H1 := a0
    have a1 := et_nei (ev_len v1 len_kl) ((ev_bin (o := .add) sz (ev_int 1)).trans (b_add _ _ _))
    rw [show ((((hd :: nu.map nW).map W.str).length : Int) == (nu.length : Int) + 1) = true by simp] at a1
    have a1 : evT (ctx D n) s3 (.cmp .ne (.b1 .len [(.var 1)]) (.bin .add (.gd I.g_SIZES (.var 2)) (.int 1))) H1 = .ok false H1 := a1
    rw [et_or_f a0, et_or_f a1]
    exact et_cmp v3 ev_non (by rw [cmpC_tup, isN_tup])
  have q6 : evS (ctx D n) (.asg (.sub (.fld (.var 0) I.f_facts) (.var 2)) (.var 3)) s3 H1 = .nx s3 H2 := by
    have fE : evE (ctx D n) s3 (.fld (.var 0) I.f_facts) H1 = .ok (.ref (h.length + 4)) H1 := rd_fld X (j := 13) rfl (by decide) X.fd rfl
    have si : setItem (.ref (h.length + 4)) (.str hd) (.tup (nu.map .int)) H1 = some H2 := by
      unfold setItem
      have e : H1[h.length + 4]? = some (.dct fx) := RH_fx
      simp only [e, W.plain, true_and]
      rw [if_pos (Nat.lt_of_le_of_lt (Nat.le_trans hfx (by decide)) (show 1000 < line by decide +kernel))]
      congr 1
      exact RH_sfx _
    rw [evS, v3]
    simp only [ofR_ok, M2.asg, fE, v2, si, nxO]
  have q7 : evS (ctx D n) (.asg (.fld (.var 0) I.f_stage) (.bin .iadd (.fld (.var 0) I.f_stage) (.int 1))) s3 H2 = .nx s3 (RH I h (3 + j + 1) .non ks ss ns (putD (.str hd) (.tup (nu.map .int)) fx) t) := st_stage X rfl ((ev_bin (o := .iadd) (stE rfl) (ev_int 1)).trans rfl)
  show run D (n + 1) I.Reader_takes_last [.ref h.length, ws] H = _
  rw [hr]
  show back _ H (evSs _ [_, _, _, _, _, _, _, _, _] s H) = _
  rw [evSs_nx q0, evSs_nx q1, evSs_nx q2, evSs_nx q3, evSs_nx q4, evSs_nx q5, evSs_nx q6, evSs_nx q7, evSs_rt (st_ret (x := .bl true) rfl), back_rt]
  exact rd_same rfl
theorem takes_end (X : HasR D I) (hk : 1 ≤ k) (hss : 1 ≤ ss.length) :
    run D k I.Reader_takes_last [.ref h.length, .kl ([sEnd].map .str)] (RH I h 7 .non ks ss ns fx t) = .ok (.bl true) (RH I h 8 .non ks ss ns fx t) := by
  let H := RH I h 7 .non ks ss ns fx t
  obtain ⟨n, rfl, hr⟩ := run_at (ws := [.ref h.length, .kl ([sEnd].map .str)]) (h := H) (show 1 ≤ k by omega) X.takes_last rfl
  let s : Env := [some (.ref h.length), some (.kl ([sEnd].map .str)), none, none]
  have stE : evE (ctx D n) s (.fld (.var 0) I.f_stage) H = .ok (.int 7) H := rd_fld X (j := 11) rfl (by decide) X.fb rfl
  have q0 : evS (ctx D n) (.ite (.or (.cmp .eq (.b1 .len [(.fld (.var 0) I.f_stands)]) (.int 0)) (.cmp .eq (.fld (.var 0) I.f_stage) (.int 8))) [.ret (.bl false)] []) s H = .nx s H := by
    refine st_skip ?_
    have ssE : evE (ctx D n) s (.fld (.var 0) I.f_stands) H = .ok (.ref (h.length + 2)) H := rd_fld X (j := 1) rfl (by decide) X.f1 rfl
    have a0 := et_eqi (ev_len ssE (RowAt.len (.inl ⟨_, rfl, RH_ss⟩))) (ev_int (C := ctx D n) (s := s) 0)
    rw [show (((ss.length : Nat) : Int) == 0) = false by rw [beq_eq_false_iff_ne]; omega] at a0
    rw [et_or_f a0]
    exact et_eqi stE (ev_int 8)
  have q1 : evS (ctx D n) (.asg (.fld (.var 0) I.f_stage) (.b1 .max2 [(.fld (.var 0) I.f_stage), (.int 3)])) s H = .nx s H := st_stage X rfl ((ev_b1 (es_cons stE (es_cons (ev_int 3) es_nil))).trans rfl)
  have vE : evE (ctx D n) s (.cmp .eq (.var 1) (.lst [(.str sEnd)])) (RH I h 8 .non ks ss ns fx t) = .ok (.bl true) (RH I h 8 .non ks ss ns fx t) := by
    refine (ev_cmp (ev_var (x := .kl ([sEnd].map .str)) rfl) (ev_lst (es_cons (ev_str sEnd) es_nil) (by simp))).trans ?_
    rw [cmpC_of (x := .kl ([sEnd].map .str)) (eqOf_nr nofun)]
    rfl
  have q2 : evS (ctx D n) (.ite (.cmp .eq (.fld (.var 0) I.f_stage) (.int 7)) [.asg (.fld (.var 0) I.f_stage) (.int 8), .ret (.cmp .eq (.var 1) (.lst [(.str sEnd)]))] []) s H = .rt (.bl true) (RH I h 8 .non ks ss ns fx t) := by
    have a0 : evT (ctx D n) s (.cmp .eq (.fld (.var 0) I.f_stage) (.int 7)) H = .ok true H := et_eqi stE (ev_int 7)
    have p0 : evS (ctx D n) (.asg (.fld (.var 0) I.f_stage) (.int 8)) s H = .nx s (RH I h 8 .non ks ss ns fx t) := st_stage X rfl (ev_int 8)
    rw [st_t a0, evSs_nx p0, evSs_rt (st_ret vE)]
  rw [hr]
  show back _ H (evSs _ [_, _, _, _, _, _, _, _, _] s H) = _
  rw [evSs_nx q0, evSs_nx q1, evSs_rt q2, back_rt]
  exact rd_same rfl
/-! ### a line is taken -/
structure Tk (D : Prog) (I : Ix) (n : Nat) (h : Hm) (w0 : List Nat) (ws : W) (st : Int) (tb : W) (ks ss ns : List W) (fx : List (W × W)) (t : Hm) : Prop where
  g0 : ∀ H : Hm, getItem ws (.int 0) H = .ok (.str w0) H
theorem takes_tab (X : HasR D I) (hk : 1 ≤ k) {ws : W} {r : Nat} {H' : Hm} {l : List W} (hr : (RH I h st (.ref r) ks ss ns fx t)[r]? = some (.lst l)) (e : run D (k - 1) I.Reader_takes_table [.ref h.length, ws] (RH I h st (.ref r) ks ss ns fx t) = .ok (.bl true) H') (el : H'.length = (RH I h st (.ref r) ks ss ns fx t).length) :
    run D k I.Reader_takes [.ref h.length, ws] (RH I h st (.ref r) ks ss ns fx t) = .ok (.bl true) H' := by
  obtain ⟨n, rfl, hrun⟩ := run_at (ws := [.ref h.length, ws]) (h := RH I h st (.ref r) ks ss ns fx t) hk X.takes rfl
  let s : Env := [some (.ref h.length), some ws]
  have tbE : evE (ctx D n) s (.fld (.var 0) I.f_table) (RH I h st (.ref r) ks ss ns fx t) = .ok (.ref r) _ := rd_fld X (j := 12) rfl (by decide) X.fc rfl
  have a0 : evT (ctx D n) s (.cmp .notN (.fld (.var 0) I.f_table) .non) (RH I h st (.ref r) ks ss ns fx t) = .ok true _ := et_cmp tbE ev_non (by rw [cmpC_of (eqOf_lst hr), notN_ref])
  have m := (ev_mcall (C := ctx D n) (s := s) (ev_var (i := 0) rfl) (rd_mth X X.m3) (es_cons (ev_var (i := 1) rfl) es_nil)).trans e
  rw [hrun]
  show back _ _ (evSs _ [_, _, _, _, _] s _) = _
  rw [evSs_rt (st_ret_t a0 m), back_rt]
  exact gc_same _ el
theorem tk_non (X : HasR D I) {n : Nat} {ws : W} {e : E} : evS (ctx D n) (.ite (.cmp .notN (.fld (.var 0) I.f_table) .non) [.ret e] []) [some (.ref h.length), some ws] (RH I h st .non ks ss ns fx t) = .nx [some (.ref h.length), some ws] (RH I h st .non ks ss ns fx t) := by
  have tbE : evE (ctx D n) [some (.ref h.length), some ws] (.fld (.var 0) I.f_table) (RH I h st .non ks ss ns fx t) = .ok .non _ := rd_fld X (j := 12) rfl (by decide) X.fc rfl
  exact st_skip (et_cmp tbE ev_non (by rw [cmpC_non, notN_non]))
/-- another head -/
theorem tk_skip {C : Ctx} {s : Env} {H : Hm} {w0 z : List Nat} {b e : E} {ws : W} (s1 : s[1]? = some (some ws)) (g0 : getItem ws (.int 0) H = .ok (.str w0) H) (ne : w0 ≠ z) : evS C (.ite (.and (.cmp .eq (.sub (.var 1) (.int 0)) (.str z)) b) [.ret e] []) s H = .nx s H := by
  have a0 := et_eqs ((ev_subi (C := C) (ev_var s1)).trans g0) (ev_str z)
  rw [show (w0 == z) = false by rw [beq_eq_false_iff_ne]; exact ne] at a0
  exact st_skip (et_and_f a0)
theorem tk_here {C : Ctx} {s : Env} {H H' : Hm} {z : List Nat} {b e : E} {ws w : W} (s1 : s[1]? = some (some ws)) (g0 : getItem ws (.int 0) H = .ok (.str z) H) (eb : evT C s b H = .ok true H) (ee : evE C s e H = .ok w H') : evS C (.ite (.and (.cmp .eq (.sub (.var 1) (.int 0)) (.str z)) b) [.ret e] []) s H = .rt w H' := by
  have a0 := et_eqs ((ev_subi (C := C) (ev_var s1)).trans g0) (ev_str z)
  rw [show (z == z) = true by simp] at a0
  exact st_ret_t ((et_and_t a0).trans eb) ee
theorem takes_k (X : HasR D I) (P : HasW D I) (hk : 5 ≤ k) {x : Kin} {o : Int} (ok : Kin.Ok o x) (o6 : o ≤ 6) (nm : isName (.str x.name) = true) :
    run D k I.Reader_takes [.ref h.length, .kl ((kw x).map .str)] (RH I h 0 .non ks ss ns fx t) = .ok (.bl true) (RH I h 0 (.ref (h.length + (t.length + 5))) ks ss ns fx (t ++ [.lst (tb3 x)])) := by
  let ws : W := .kl ((kw x).map .str)
  obtain ⟨n, rfl, hrun⟩ := run_at (ws := [.ref h.length, ws]) (h := RH I h 0 .non ks ss ns fx t) (show 1 ≤ k by omega) X.takes rfl
  let s : Env := [some (.ref h.length), some ws]
  have m := (ev_mcall (C := ctx D n) (s := s) (ev_var (i := 0) rfl) (rd_mth X X.m2) (es_cons (ev_var (i := 1) rfl) es_nil)).trans (takes_kind (k := n) (h := h) (st := 0) (ks := ks) (ss := ss) (ns := ns) (fx := fx) (t := t) X P (by omega) ok o6 nm)
  have stE : evE (ctx D n) s (.fld (.var 0) I.f_stage) (RH I h 0 .non ks ss ns fx t) = .ok (.int 0) _ := rd_fld X (j := 11) rfl (by decide) X.fb rfl
  rw [hrun]
  show back _ _ (evSs _ [_, _, _, _, _] s _) = _
  rw [evSs_nx (tk_non X), evSs_rt (tk_here (z := sKind) rfl (getI_at (j := 0) rfl) (et_eqi stE (ev_int 0)) m), back_rt]
  exact rd_new (st' := 0)
theorem takes_s (X : HasR D I) (P : HasW D I) (hk : 5 ≤ k) {f : Fo} {o : Int} (ok : Fo.Ok o f) {x : Sta} (hx : x ∈ f.stands) (hst : st < 2) (hks : 1 ≤ ks.length) (hss : ss.length ≤ 100) :
    run D k I.Reader_takes [.ref h.length, .kl (x.ws.map .str)] (RH I h st .non ks ss ns fx t) = .ok (.bl true) (RH I h 1 .non ks (ss ++ [x.w]) ns fx t) := by
  let ws : W := .kl (x.ws.map .str)
  obtain ⟨n, rfl, hrun⟩ := run_at (ws := [.ref h.length, ws]) (h := RH I h st .non ks ss ns fx t) (show 1 ≤ k by omega) X.takes rfl
  let s : Env := [some (.ref h.length), some ws]
  have m := (ev_mcall (C := ctx D n) (s := s) (ev_var (i := 0) rfl) (rd_mth X X.m4) (es_cons (ev_var (i := 1) rfl) es_nil)).trans (takes_stand (k := n) (h := h) (st := st) (ks := ks) (ss := ss) (ns := ns) (fx := fx) (t := t) X P (by omega) ok hx hks hss)
  have stE : evE (ctx D n) s (.fld (.var 0) I.f_stage) (RH I h st .non ks ss ns fx t) = .ok (.int st) _ := rd_fld X (j := 11) rfl (by decide) X.fb rfl
  have lt := et_lti stE (ev_int (C := ctx D n) (s := s) 2)
  rw [decide_eq_true hst] at lt
  have g0 : getItem ws (.int 0) (RH I h st .non ks ss ns fx t) = .ok (.str sStand) _ := getI_at (j := 0) rfl
  rw [hrun]
  show back _ _ (evSs _ [_, _, _, _, _] s _) = _
  rw [evSs_nx (tk_non X), evSs_nx (tk_skip (z := sKind) rfl g0 (by decide)), evSs_rt (tk_here (z := sStand) rfl g0 lt m), back_rt]
  exact rd_same rfl
theorem takes_n (X : HasR D I) (hk : 4 ≤ k) {x : Int × Int} (h1 : 0 ≤ x.1 ∧ x.1 ≤ 1000) (h2 : 0 ≤ x.2 ∧ x.2 ≤ 1000) (hst : st < 3) (hss : 1 ≤ ss.length) (hns : ns.length ≤ 100) :
    run D k I.Reader_takes [.ref h.length, .kl ((prWs x).map .str)] (RH I h st .non ks ss ns fx t) = .ok (.bl true) (RH I h 2 .non ks ss (ns ++ [prW x]) fx t) := by
  let ws : W := .kl ((prWs x).map .str)
  obtain ⟨n, rfl, hrun⟩ := run_at (ws := [.ref h.length, ws]) (h := RH I h st .non ks ss ns fx t) (show 1 ≤ k by omega) X.takes rfl
  let s : Env := [some (.ref h.length), some ws]
  have m := (ev_mcall (C := ctx D n) (s := s) (ev_var (i := 0) rfl) (rd_mth X X.m5) (es_cons (ev_var (i := 1) rfl) es_nil)).trans (takes_near (k := n) (h := h) (st := st) (ks := ks) (ss := ss) (ns := ns) (fx := fx) (t := t) X (by omega) h1 h2 hss hns)
  have stE : evE (ctx D n) s (.fld (.var 0) I.f_stage) (RH I h st .non ks ss ns fx t) = .ok (.int st) _ := rd_fld X (j := 11) rfl (by decide) X.fb rfl
  have lt := et_lti stE (ev_int (C := ctx D n) (s := s) 3)
  rw [decide_eq_true hst] at lt
  have g0 : getItem ws (.int 0) (RH I h st .non ks ss ns fx t) = .ok (.str sNear) _ := getI_at (j := 0) rfl
  rw [hrun]
  show back _ _ (evSs _ [_, _, _, _, _] s _) = _
  rw [evSs_nx (tk_non X), evSs_nx (tk_skip (z := sKind) rfl g0 (by decide)), evSs_nx (tk_skip (z := sStand) rfl g0 (by decide)), evSs_rt (tk_here (z := sNear) rfl g0 lt m), back_rt]
  exact rd_same rfl
theorem takes_l (X : HasR D I) (hk : 1 ≤ k) {w0 : List Nat} {l : List (List Nat)} {st' : Int} {fx' : List (W × W)} (n1 : w0 ≠ sKind) (n2 : w0 ≠ sStand) (n3 : w0 ≠ sNear) (e : run D (k - 1) I.Reader_takes_last [.ref h.length, .kl ((w0 :: l).map .str)] (RH I h st .non ks ss ns fx t) = .ok (.bl true) (RH I h st' .non ks ss ns fx' t)) :
    run D k I.Reader_takes [.ref h.length, .kl ((w0 :: l).map .str)] (RH I h st .non ks ss ns fx t) = .ok (.bl true) (RH I h st' .non ks ss ns fx' t) := by
  let ws : W := .kl ((w0 :: l).map .str)
  obtain ⟨n, rfl, hrun⟩ := run_at (ws := [.ref h.length, ws]) (h := RH I h st .non ks ss ns fx t) (show 1 ≤ k by omega) X.takes rfl
  let s : Env := [some (.ref h.length), some ws]
  have m := (ev_mcall (C := ctx D n) (s := s) (ev_var (i := 0) rfl) (rd_mth X X.m6) (es_cons (ev_var (i := 1) rfl) es_nil)).trans e
  have g0 : getItem ws (.int 0) (RH I h st .non ks ss ns fx t) = .ok (.str w0) _ := getI_at (j := 0) rfl
  rw [hrun]
  show back _ _ (evSs _ [_, _, _, _, _] s _) = _
  rw [evSs_nx (tk_non X), evSs_nx (tk_skip (z := sKind) rfl g0 n1), evSs_nx (tk_skip (z := sStand) rfl g0 n2), evSs_nx (tk_skip (z := sNear) rfl g0 n3), evSs_rt (st_ret m), back_rt]
  exact rd_same rfl
end
end M2

namespace M2
section
variable {D : Prog} {I : Ix} {k : Nat} {h : Hm} {st : Int} {tb : W} {ks ss ns : List W} {fx : List (W × W)} {t : Hm}
/-! ### a new reader -/
theorem new_reader (X : HasR D I) (hk : 1 ≤ k) : makeV (ctx D k) I.c_Reader [] h = .ok (.ref h.length) (RH I h 0 .non [] [] [] [] []) := by
  let H0 : Hm := h ++ [.ins I.c_Reader []]
  obtain ⟨n, rfl, hr⟩ := run_at (ws := [.ref h.length]) (h := H0) (show 1 ≤ k by omega) X.init rfl
  let c := I.c_Reader
  let s : Env := [some (.ref h.length)]
  have at_ : ∀ fs (t : Hm), (h ++ O.ins c fs :: t)[h.length]? = some (.ins c fs) := fun fs t => hat (i := 0)
  have st : ∀ (fs : List (Nat × W)) (t : Hm) (fs' : List (Nat × W)), (h ++ O.ins c fs :: t).set h.length (.ins c fs') = h ++ O.ins c fs' :: t := fun fs t fs' => hset (i := 0)
  have fld : ∀ (j : Nat) (hj : j < 14) (fj : Nat) (ej : fj = j) (fs : List (Nat × W)) (t t' : Hm) (e : E) (w : W), fs.length < 1000 → evE (ctx D n) s e (h ++ O.ins c fs :: t) = .ok w (h ++ O.ins c fs :: t') → evS (ctx D n) (.asg (.fld (.var 0) fj) e) s (h ++ O.ins c fs :: t) = .nx s (h ++ O.ins c (putF j w fs) :: t') := fun j hj fj ej fs t t' e w hl he => by
    subst ej
    rw [st_fld he (v := 0) rfl (at_ fs t') (X.na fj hj) hl, st]
  have newE : ∀ (fs : List (Nat × W)) (t : Hm) , evE (ctx D n) s (.new (.lst [])) (h ++ O.ins c fs :: t) = .ok (.ref (h.length + (t.length + 1))) (h ++ O.ins c fs :: (t ++ [.lst []])) := fun fs t => by
    have := ev_new (C := ctx D n) (s := s) (h := h ++ O.ins c fs :: t) (ev_lst es_nil (by simp))
    rw [this]
    simp
  have dctE : ∀ (fs : List (Nat × W)) (t : Hm) , evE (ctx D n) s (.dct []) (h ++ O.ins c fs :: t) = .ok (.ref (h.length + (t.length + 1))) (h ++ O.ins c fs :: (t ++ [.dct []])) := fun fs t => by
    have : evE (ctx D n) s (.dct []) (h ++ O.ins c fs :: t) = .ok (.ref (h ++ O.ins c fs :: t).length) ((h ++ O.ins c fs :: t) ++ [.dct []]) := by
      simp [evE, den, denL, dctV]
    rw [this]
    simp
  have q0 := fld 11 (by decide) I.f_stage X.fb [] [] [] (.int 0) (.int 0) (by simp) rfl
  have q1 := fld 12 (by decide) I.f_table X.fc (putF 11 (.int 0) []) [] [] .non .non (by simp [putF]) rfl
  let f2 : List (Nat × W) := [(11, .int 0), (12, .non)]
  let f3 : List (Nat × W) := f2 ++ [(0, .ref (h.length + 1))]
  let f4 : List (Nat × W) := f3 ++ [(1, .ref (h.length + 2))]
  let f5 : List (Nat × W) := f4 ++ [(2, .ref (h.length + 3))]
  have q2 : evS (ctx D n) (.asg (.fld (.var 0) I.f_kinds) (.new (.lst []))) s (h ++ O.ins c f2 :: []) = .nx s (h ++ O.ins c f3 :: [.lst []]) := fld 0 (by decide) I.f_kinds X.f0 _ [] _ _ _ (by simp [f2]) (newE f2 [])
  have q3 : evS (ctx D n) (.asg (.fld (.var 0) I.f_stands) (.new (.lst []))) s (h ++ O.ins c f3 :: [.lst []]) = .nx s (h ++ O.ins c f4 :: [.lst [], .lst []]) := fld 1 (by decide) I.f_stands X.f1 _ _ _ _ _ (by simp [f2, f3]) (newE f3 [.lst []])
  have q4 : evS (ctx D n) (.asg (.fld (.var 0) I.f_near) (.new (.lst []))) s (h ++ O.ins c f4 :: [.lst [], .lst []]) = .nx s (h ++ O.ins c f5 :: [.lst [], .lst [], .lst []]) := fld 2 (by decide) I.f_near X.f2 _ _ _ _ _ (by simp [f2, f3, f4]) (newE f4 [.lst [], .lst []])
  have q5 : evS (ctx D n) (.asg (.fld (.var 0) I.f_facts) (.dct [])) s (h ++ O.ins c f5 :: [.lst [], .lst [], .lst []]) = .nx s (RH I h 0 .non [] [] [] [] []) := fld 13 (by decide) I.f_facts X.fd _ _ _ _ _ (by simp [f2, f3, f4, f5]) (dctE f5 [.lst [], .lst [], .lst []])
  have body : evSs (ctx D n) (B.Reader_init I).body s H0 = .nx s (RH I h 0 .non [] [] [] [] []) := by
    show evSs _ [_, _, _, _, _, _] s _ = _
    have q1 : evS (ctx D n) _ s _ = .nx s (h ++ O.ins c f2 :: []) := q1
    rw [evSs_nx q0, evSs_nx q1, evSs_nx q2, evSs_nx q3, evSs_nx q4, evSs_nx q5, evSs_nil]
  have nb : baseOk H0 (RH I h 0 .non [] [] [] [] []) = false := by
    have l0 : H0.length = h.length + 1 := by simp [H0]
    have tk : (RH I h 0 .non [] [] [] [] []).take H0.length = h ++ [.ins c (rdFs h.length 0 .non)] := by
      rw [l0]
      unfold RH
      rw [List.take_append, List.take_of_length_le (by omega)]
      simp [c]
    unfold baseOk
    rw [tk]
    have e1 : decide (h ++ [O.ins c (rdFs h.length 0 .non)] = H0) = false := decide_eq_false fun e => by
      have := List.append_cancel_left e
      simp [rdFs] at this
    have e2 : Hm.cl H0.length (h ++ [O.ins c (rdFs h.length 0 .non)]) = false := by
      unfold Hm.cl
      rw [List.all_append]
      have : (O.ins c (rdFs h.length 0 .non)).cl H0.length = false := by
        rw [l0]
        show clAll _ _ = false
        simp [rdFs, clAll, W.cl]
      simp [this]
    rw [e1, e2]
    simp
  unfold makeV
  show (match D.ini I.c_Reader with | some f0 => (run D (n + 1) f0 [.ref h.length] H0).then (madeV (D.fzc I.c_Reader) h) | none => .bad) = _
  rw [X.ini, X.fzc]
  simp only
  rw [show run D (n + 1) I.Reader_init [.ref h.length] H0 = _ from hr]
  show (back _ H0 (evSs (ctx D n) (B.Reader_init I).body s H0)).then _ = _
  rw [body, back_nx, gc_bad nb]
  rfl
/-! ### lines, one after another -/
def Reads (D : Prog) (I : Ix) (k r : Nat) : List (List (List Nat)) → Hm → Hm → Prop
  | [], H, H' => H' = H
  | w :: l, H, H' => mthOf (ctx D k) I.m_takes (.ref r) H = some I.Reader_takes ∧ ∃ H1, run D k I.Reader_takes [.ref r, .kl (w.map .str)] H = .ok (.bl true) H1 ∧ Reads D I k r l H1 H'
theorem Reads.app {r : Nat} : ∀ {a b : List (List (List Nat))} {H H1 H2 : Hm}, Reads D I k r a H H1 → Reads D I k r b H1 H2 → Reads D I k r (a ++ b) H H2
  | [], _, _, _, _, x, y => by
    have x : _ = _ := x
    subst x
    exact y
  | w :: a, b, _, _, _, ⟨m, H1, e, x⟩, y => ⟨m, H1, e, Reads.app x y⟩
theorem Reads.one {r : Nat} {w : List (List Nat)} {H H' : Hm} (m : mthOf (ctx D k) I.m_takes (.ref r) H = some I.Reader_takes) (e : run D k I.Reader_takes [.ref r, .kl (w.map .str)] H = .ok (.bl true) H') : Reads D I k r [w] H H' := ⟨m, H', e, rfl⟩
theorem rd_kinds (X : HasR D I) (P : HasW D I) (hk : 5 ≤ k) {o : Int} (o6 : o ≤ 6) : ∀ (kl : List Kin) (ks : List W) (t : Hm), (∀ x ∈ kl, Kin.Ok o x ∧ isName (.str x.name) = true) → ks.length + kl.length ≤ 100 →
    ∃ t', Reads D I k h.length (kl.flatMap Kin.ws) (RH I h 0 .non ks ss ns fx t) (RH I h 0 .non (ks ++ kl.map Kin.w) ss ns fx t')
  | [], ks, t, _, _ => ⟨t, by simp [Reads]⟩
  | x :: kl, ks, t, hx, hl => by
    obtain ⟨ok, nm⟩ := hx x (by simp)
    simp only [List.length_cons] at hl
    have ti := ok.timber
    have wi := ok.windfall
    have e1 := takes_k (k := k) (h := h) (ks := ks) (ss := ss) (ns := ns) (fx := fx) (t := t) X P hk ok o6 nm
    have e2 := takes_tab (k := k) (h := h) (st := 0) (ks := ks) (ss := ss) (ns := ns) (fx := fx) X (by omega) (RH_last (t := t) (o := .lst (tb3 x))) (takes_table (k := k - 1) (h := h) (st := 0) (ks := ks) (ss := ss) (ns := ns) (fx := fx) (t := t) (l := tb3 x) (nu := x.timber) X (by omega) (by omega) (fun i hi => by have := ti.2 i hi; omega) rfl) (by rw [RH_len, RH_len]; simp)
    obtain ⟨t', lt', e3'⟩ := takes_table2 (k := k - 1) (h := h) (st := 0) (ks := ks) (ss := ss) (ns := ns) (fx := fx) (t := t) X (by omega) ok o6 (by omega)
    have e3 := takes_tab (k := k) (h := h) (st := 0) (ks := ks) (ss := ss) (ns := ns) (fx := fx) X (by omega) (RH_last (t := t) (o := .lst (tb3 x ++ [.tup (x.timber.map .int)]))) e3' (by rw [RH_len, RH_len, lt']; simp)
    obtain ⟨t2, R2⟩ := rd_kinds X P hk o6 kl (ks ++ [x.w]) t' (fun y hy => hx y (by simp [hy])) (by simp; omega)
    refine ⟨t2, ?_⟩
    rw [List.flatMap_cons, List.map_cons]
    have R1 : Reads D I k h.length x.ws (RH I h 0 .non ks ss ns fx t) (RH I h 0 .non (ks ++ [x.w]) ss ns fx t') := ⟨rd_mth X X.m1, _, e1, rd_mth X X.m1, _, e2, rd_mth X X.m1, _, e3, rfl⟩
    have := R1.app R2
    rw [List.append_assoc] at this
    exact this
theorem rd_stands (X : HasR D I) (P : HasW D I) (hk : 5 ≤ k) {f : Fo} {o : Int} (ok : Fo.Ok o f) (hks : 1 ≤ ks.length) : ∀ (sl : List Sta) (st : Int) (ss : List W), (∀ x ∈ sl, x ∈ f.stands) → st < 2 → ss.length + sl.length ≤ 100 →
    ∃ st', Reads D I k h.length (sl.map Sta.ws) (RH I h st .non ks ss ns fx t) (RH I h st' .non ks (ss ++ sl.map Sta.w) ns fx t) ∧ st' < 2
  | [], st, ss, _, hst, _ => ⟨st, by simp [Reads], hst⟩
  | x :: sl, st, ss, hx, hst, hl => by
    simp only [List.length_cons] at hl
    have e1 := takes_s (k := k) (h := h) (st := st) (ks := ks) (ss := ss) (ns := ns) (fx := fx) (t := t) X P hk ok (hx x (by simp)) hst hks (by omega)
    obtain ⟨st', R2, h2⟩ := rd_stands X P hk ok hks sl 1 (ss ++ [x.w]) (fun y hy => hx y (by simp [hy])) (by decide) (by simp; omega)
    refine ⟨st', ?_, h2⟩
    rw [List.append_assoc] at R2
    exact ⟨rd_mth X X.m1, _, e1, R2⟩
theorem rd_near (X : HasR D I) (hk : 4 ≤ k) (hss : 1 ≤ ss.length) : ∀ (nl : List (Int × Int)) (st : Int) (ns : List W), (∀ x ∈ nl, (0 ≤ x.1 ∧ x.1 ≤ 1000) ∧ 0 ≤ x.2 ∧ x.2 ≤ 1000) → st < 3 → ns.length + nl.length ≤ 100 →
    ∃ st', Reads D I k h.length (nl.map prWs) (RH I h st .non ks ss ns fx t) (RH I h st' .non ks ss (ns ++ nl.map prW) fx t) ∧ st' < 3
  | [], st, ns, _, hst, _ => ⟨st, by simp [Reads], hst⟩
  | x :: nl, st, ns, hx, hst, hl => by
    simp only [List.length_cons] at hl
    obtain ⟨h1, h2⟩ := hx x (by simp)
    have e1 := takes_n (k := k) (h := h) (st := st) (ks := ks) (ss := ss) (ns := ns) (fx := fx) (t := t) X hk h1 h2 hst hss (by omega)
    obtain ⟨st', R2, h2⟩ := rd_near X hk hss nl 2 (ns ++ [prW x]) (fun y hy => hx y (by simp [hy])) (by decide) (by simp; omega)
    refine ⟨st', ?_, h2⟩
    rw [List.append_assoc] at R2
    exact ⟨rd_mth X X.m1, _, e1, R2⟩
def fxF (f : Fo) : List (W × W) := [(.str sGap, .tup [.int f.gap]), (.str sStorms, f.weW), (.str sYard, f.yaW), (.str sDue, .tup [.int f.due])]
theorem rd_tail (X : HasR D I) (hk : 4 ≤ k) {f : Fo} {o : Int} (ok : Fo.Ok o f) (hst : st < 3) (hss : 1 ≤ ss.length) : Reads D I k h.length f.tail (RH I h st .non ks ss ns [] t) (RH I h 8 .non ks ss ns (fxF f) t) := by
  have o6 := ok.o6
  have ga := ok.gap
  have w1 := ok.we1
  have w2 := ok.we2
  have w3 := ok.we3
  have y1 := ok.ya1
  have y2 := ok.ya2
  have du := ok.due
  have fx1 : putD (.str sGap) (.tup [.int f.gap]) [] = [(.str sGap, .tup [.int f.gap])] := rfl
  have fx2 : putD (.str sStorms) f.weW [(.str sGap, .tup [.int f.gap])] = [(.str sGap, .tup [.int f.gap]), (.str sStorms, f.weW)] := by simp [putD, eqW]
  have fx3 : putD (.str sYard) f.yaW [(.str sGap, .tup [.int f.gap]), (.str sStorms, f.weW)] = [(.str sGap, .tup [.int f.gap]), (.str sStorms, f.weW), (.str sYard, f.yaW)] := by simp [putD, eqW]
  have fx4 : putD (.str sDue) (.tup [.int f.due]) [(.str sGap, .tup [.int f.gap]), (.str sStorms, f.weW), (.str sYard, f.yaW)] = fxF f := by simp [putD, eqW, fxF]
  have e1 := takes_l (k := k) (l := [f.gap].map nW) X (by omega) (by decide) (by decide) (by decide) (takes_last (k := k - 1) (h := h) (st := st) (ks := ks) (ss := ss) (ns := ns) (fx := []) (t := t) (j := 0) (hd := sGap) (nu := [f.gap]) X (by omega) (by decide) rfl rfl (by omega) (by rw [if_pos (by omega)]; rfl) (by simp) (fun i hi => by
    rw [List.mem_singleton.mp hi]
    omega) hss (by simp))
  rw [show [f.gap].map W.int = [W.int f.gap] from rfl, fx1] at e1
  have e2 := takes_l (k := k) (l := [f.we.1, f.we.2.1, f.we.2.2].map nW) X (by omega) (by decide) (by decide) (by decide) (takes_last (k := k - 1) (h := h) (st := 4) (ks := ks) (ss := ss) (ns := ns) (fx := [(.str sGap, .tup [.int f.gap])]) (t := t) (j := 1) (hd := sStorms) (nu := [f.we.1, f.we.2.1, f.we.2.2]) X (by omega) (by decide) rfl rfl (by omega) (by decide) (by simp) (fun i hi => by
    simp only [List.mem_cons, List.not_mem_nil, or_false] at hi
    rcases hi with rfl | rfl | rfl <;> omega) hss (by simp))
  rw [show W.tup ([f.we.1, f.we.2.1, f.we.2.2].map W.int) = f.weW from rfl, fx2] at e2
  have e3 := takes_l (k := k) (l := [f.ya.1, f.ya.2].map nW) X (by omega) (by decide) (by decide) (by decide) (takes_last (k := k - 1) (h := h) (st := 5) (ks := ks) (ss := ss) (ns := ns) (fx := [(.str sGap, .tup [.int f.gap]), (.str sStorms, f.weW)]) (t := t) (j := 2) (hd := sYard) (nu := [f.ya.1, f.ya.2]) X (by omega) (by decide) rfl rfl (by omega) (by decide) (by simp) (fun i hi => by
    simp only [List.mem_cons, List.not_mem_nil, or_false] at hi
    rcases hi with rfl | rfl <;> omega) hss (by simp))
  rw [show W.tup ([f.ya.1, f.ya.2].map W.int) = f.yaW from rfl, fx3] at e3
  have e4 := takes_l (k := k) (l := [f.due].map nW) X (by omega) (by decide) (by decide) (by decide) (takes_last (k := k - 1) (h := h) (st := 6) (ks := ks) (ss := ss) (ns := ns) (fx := [(.str sGap, .tup [.int f.gap]), (.str sStorms, f.weW), (.str sYard, f.yaW)]) (t := t) (j := 3) (hd := sDue) (nu := [f.due]) X (by omega) (by decide) rfl rfl (by omega) (by decide) (by simp) (fun i hi => by
    rw [List.mem_singleton.mp hi]
    omega) hss (by simp))
  rw [show [f.due].map W.int = [W.int f.due] from rfl, fx4] at e4
  have e5 := takes_l (k := k) (w0 := sEnd) (l := []) X (by omega) (by decide) (by decide) (by decide) (takes_end (k := k - 1) (h := h) (ks := ks) (ss := ss) (ns := ns) (fx := fxF f) (t := t) X (by omega) hss)
  exact ⟨rd_mth X X.m1, _, e1, rd_mth X X.m1, _, e2, rd_mth X X.m1, _, e3, rd_mth X X.m1, _, e4, rd_mth X X.m1, _, e5, rfl⟩
theorem rd_all (X : HasR D I) (P : HasW D I) (hk : 5 ≤ k) {f : Fo} {o : Int} (ok : Fo.Ok o f) : ∃ t, Reads D I k h.length f.words (RH I h 0 .non [] [] [] [] []) (RH I h 8 .non (f.kinds.map Kin.w) (f.stands.map Sta.w) ((sortPr f.near).map prW) (fxF f) t) := by
  have o6 := ok.o6
  have k1 := ok.k1
  have k3 := ok.k3
  have s1 := ok.s1
  have s4 := ok.s4
  have nl := near_len ok.near (by omega)
  obtain ⟨t, R1⟩ := rd_kinds (k := k) (h := h) (ss := []) (ns := []) (fx := []) X P hk o6 f.kinds [] [] (fun x hx => ⟨ok.kok x hx, ok.kname x hx⟩) (by simp; omega)
  obtain ⟨st2, R2, h2⟩ := rd_stands (k := k) (h := h) (ks := f.kinds.map Kin.w) (ns := []) (fx := []) (t := t) X P hk ok (by rw [List.length_map]; omega) f.stands 0 [] (fun x hx => hx) (by decide) (by simp; omega)
  obtain ⟨st3, R3, h3⟩ := rd_near (k := k) (h := h) (ks := f.kinds.map Kin.w) (ss := f.stands.map Sta.w) (fx := []) (t := t) X (by omega) (by rw [List.length_map]; omega) (sortPr f.near) st2 [] (fun x hx => by
    have pr := ok.near.1 x ((sortPr_perm _).mem_iff.mp hx)
    omega) (by omega) (by rw [(sortPr_perm _).length_eq]; simp; omega)
  have R4 := rd_tail (k := k) (h := h) (ks := f.kinds.map Kin.w) (ss := f.stands.map Sta.w) (ns := (sortPr f.near).map prW) (t := t) X (by omega) ok h3 (by rw [List.length_map]; omega)
  exact ⟨t, R1.app (R2.app (R3.app R4))⟩
/-! ### the whole text -/
theorem finished (X : HasR D I) (P : HasW D I) (J : HasJ D I) (F : HasF D I) (hk : 8 ≤ k) {f : Fo} {o : Int} (ok : Fo.Ok o f) {H : Hm} (eH : H = RH I h 8 .non (f.kinds.map Kin.w) (f.stands.map Sta.w) ((sortPr f.near).map prW) (fxF f) t) :
    run D k I.Reader_finished [.ref h.length] H = .ok (.ref H.length) (H ++ [forestO I f o]) := by
  obtain ⟨n, rfl, hr⟩ := run_at (ws := [.ref h.length]) (h := H) (show 1 ≤ k by omega) X.finished rfl
  subst eH
  let H := RH I h 8 .non (f.kinds.map Kin.w) (f.stands.map Sta.w) ((sortPr f.near).map prW) (fxF f) t
  let s0 : Env := [some (.ref h.length), none, none]
  let s1 : Env := [some (.ref h.length), some (.ref (h.length + 4)), none]
  let s2 : Env := [some (.ref h.length), some (.ref (h.length + 4)), some (.int f.gap)]
  have q0 : evS (ctx D n) (.asg (.var 1) (.fld (.var 0) I.f_facts)) s0 H = .nx s1 H := st_asg (i := 1) (rd_fld X (j := 13) rfl (by decide) X.fd rfl)
  have gf : ∀ (z : List Nat) (w : W), getD (.str z) (fxF f) = some w → getItem (.ref (h.length + 4)) (.str z) H = .ok w H := fun z w e => by
    unfold getItem
    have a : H[h.length + 4]? = some (.dct (fxF f)) := RH_fx
    simp only [a, W.plain, if_true, e]
  have d1 : getD (.str sGap) (fxF f) = some (.tup [.int f.gap]) := by simp [fxF, getD, eqW]
  have d2 : getD (.str sStorms) (fxF f) = some f.weW := by simp [fxF, getD, eqW]
  have d3 : getD (.str sYard) (fxF f) = some f.yaW := by simp [fxF, getD, eqW]
  have d4 : getD (.str sDue) (fxF f) = some (.tup [.int f.due]) := by simp [fxF, getD, eqW]
  have v1 : ∀ {x : Option W}, evE (ctx D n) [some (.ref h.length), some (.ref (h.length + 4)), x] (.var 1) H = .ok (.ref (h.length + 4)) H := ev_var rfl
  have q1 : evS (ctx D n) (.asg (.var 2) (.sub (.sub (.var 1) (.str sGap)) (.int 0))) s1 H = .nx s2 H := st_asg (i := 2) ((ev_subi ((ev_sub v1 (ev_str sGap)).trans (gf _ _ d1))).trans rfl)
  have a0 : evE (ctx D n) s2 (.fld (.var 0) I.f_kinds) H = .ok (.ref (h.length + 1)) H := rd_fld X (j := 0) rfl (by decide) X.f0 rfl
  have a1 : evE (ctx D n) s2 (.fld (.var 0) I.f_stands) H = .ok (.ref (h.length + 2)) H := rd_fld X (j := 1) rfl (by decide) X.f1 rfl
  have a2 : evE (ctx D n) s2 (.fld (.var 0) I.f_near) H = .ok (.ref (h.length + 3)) H := rd_fld X (j := 2) rfl (by decide) X.f2 rfl
  have a4 : evE (ctx D n) s2 (.sub (.var 1) (.str sStorms)) H = .ok f.weW H := (ev_sub v1 (ev_str sStorms)).trans (gf _ _ d2)
  have a5 : evE (ctx D n) s2 (.sub (.var 1) (.str sYard)) H = .ok f.yaW H := (ev_sub v1 (ev_str sYard)).trans (gf _ _ d3)
  have a6 : evE (ctx D n) s2 (.sub (.sub (.var 1) (.str sDue)) (.int 0)) H = .ok (.int f.due) H := (ev_subi ((ev_sub v1 (ev_str sDue)).trans (gf _ _ d4))).trans rfl
  have e := made (k := n) (h := H) P J F (by omega) ok (kw := .ref (h.length + 1)) (sw := .ref (h.length + 2)) (nw := .ref (h.length + 3)) (np := sortPr f.near) (.inl ⟨_, rfl, RH_ks⟩) (.inl ⟨_, rfl, RH_ss⟩) (.inl ⟨_, rfl, RH_ns⟩) (sortPr_perm _)
  have em := ev_make (f := I.c_Forest) (es_cons a0 (es_cons a1 (es_cons a2 (es_cons (ev_var (C := ctx D n) (s := s2) (i := 2) (x := .int f.gap) rfl) (es_cons a4 (es_cons a5 (es_cons a6 es_nil)))))))
  rw [hr]
  show back _ H (evSs _ [_, _, _] s0 H) = _
  rw [evSs_nx q0, evSs_nx q1, evSs_rt (st_ret (em.trans e)), back_rt]
  exact gc_fo (Nat.le_refl _) last_get
def rBody (I : Ix) : List S := [.ite (.cmp .eq (.var 3) (.bin .sub (.b1 .len [(.var 1)]) (.int 1))) [.ite (.cmp .ne (.var 4) (.str [])) [.nev] []] [.asg (.var 5) (.met .split (.var 4) [(.str [32])]),
  .ite (.cmp .mem (.str []) (.var 5)) [.nev] [],
  .ite (.not (.mcall I.m_takes (.var 2) [(.var 5)])) [.nev] []]]
theorem read_go {n : Nat} {L : List W} {tx : W} {r : Nat} : ∀ (wl : List (List (List Nat))) (i : Nat) (H H' : Hm) (x3 x4 x5 : Option W), i + wl.length + 1 = L.length → L.length ≤ 1000 → (∀ w ∈ wl, Ws w) → Reads D I n r wl H H' →
    ∃ y3 y4 y5, forGo (forTurn true [3, 4] (evSs (ctx D n) (rBody I))) [] (numbered i ((wl.map jn ++ [[]]).map .str)) [some tx, some (.kl L), some (.ref r), x3, x4, x5] H = .nx [some tx, some (.kl L), some (.ref r), y3, y4, y5] H'
  | [], i, H, H', x3, x4, x5, hL, h1000, _, Rd => by
    have Rd : H' = H := Rd
    subst Rd
    have og : okG [] H' = true := rfl
    let s : Env := [some tx, some (.kl L), some (.ref r), some (.int i), some (.str []), x5]
    refine ⟨some (.int i), some (.str []), x5, ?_⟩
    have a0 := et_eqi (C := ctx D n) (s := s) (h := H') (ev_var (i := 3) (x := .int i) rfl) ((ev_bin (o := .sub) (ev_len (ev_var (i := 1) (x := .kl L) rfl) len_kl) (ev_int 1)).trans (b_sub _ _ _))
    rw [show ((i : Int) == (L.length : Int) - 1) = true by rw [beq_iff_eq]; simp at hL; omega] at a0
    have a1 : evT (ctx D n) s (.cmp .ne (.var 4) (.str [])) H' = .ok false H' := et_nes (ev_var (i := 4) (x := .str []) rfl) (ev_str [])
    have b : evSs (ctx D n) (rBody I) s H' = .nx s H' := by
      unfold rBody
      rw [evSs_one, st_t a0, evSs_one]
      exact st_skip a1
    show forGo _ _ [W.tup [.int i, .str []]] _ H' = _
    rw [forGo, og, if_pos rfl]
    have tn : forTurn true [3, 4] (evSs (ctx D n) (rBody I)) (W.tup [.int i, .str []]) [some tx, some (.kl L), some (.ref r), x3, x4, x5] H' = .nx s H' := b
    rw [tn]
    simp only
    rw [forGo, og, if_pos rfl]
  | w :: wl, i, H, H', x3, x4, x5, hL, h1000, hw, Rd => by
    obtain ⟨m, H1, e, Rd⟩ := Rd
    have og : okG [] H = true := rfl
    have W0 := hw w (by simp)
    let s : Env := [some tx, some (.kl L), some (.ref r), some (.int i), some (.str (jn w)), x5]
    let s' : Env := [some tx, some (.kl L), some (.ref r), some (.int i), some (.str (jn w)), some (.kl (w.map .str))]
    have a0 := et_eqi (C := ctx D n) (s := s) (h := H) (ev_var (i := 3) (x := .int i) rfl) ((ev_bin (o := .sub) (ev_len (ev_var (i := 1) (x := .kl L) rfl) len_kl) (ev_int 1)).trans (b_sub _ _ _))
    rw [show ((i : Int) == (L.length : Int) - 1) = false by rw [beq_eq_false_iff_ne]; simp at hL; omega] at a0
    have sp : evE (ctx D n) s (.met .split (.var 4) [(.str [32])]) H = .ok (.kl (w.map .str)) H := by
      have v : varV 4 s H = .ok (.str (jn w)) H := rfl
      have mt : met1 .split (.str (jn w)) (.str [32]) H = .ok (.kl (w.map .str)) H := by
        show (if (jn w).length + 2 ≤ line ∧ 32 < 256 then R.ok (W.kl ((splitAt1 32 [] (jn w)).map .str)) H else .bad) = _
        rw [if_pos ⟨le_line (by have := jn_len W0; omega), by decide⟩, line_words W0]
      simp [evE, den, denL, v, recv, isRecv, mt]
    have q0 : evS (ctx D n) (.asg (.var 5) (.met .split (.var 4) [(.str [32])])) s H = .nx s' H := st_asg (i := 5) sp
    have v5 : evE (ctx D n) s' (.var 5) H = .ok (.kl (w.map .str)) H := ev_var rfl
    have q1 : evS (ctx D n) (.ite (.cmp .mem (.str []) (.var 5)) [.nev] []) s' H = .nx s' H := st_skip (et_cmp (ev_str []) v5 (by
      rw [cmpC_str, c_mem]
      show rb (anyEq (fun a => eqV H a (.str [])) (w.map .str)) H = _
      rw [any_strs]
      have : w.contains [] = false := by
        rw [List.contains_eq_any_beq, List.any_eq_false]
        intro y hy
        have := (W0.wd y hy).ne
        simp
        exact this
      rw [this]
      rfl))
    have q2 : evS (ctx D n) (.ite (.not (.mcall I.m_takes (.var 2) [(.var 5)])) [.nev] []) s' H = .nx s' H1 := st_skip (et_not (et_bl ((ev_mcall (ev_var (i := 2) rfl) m (es_cons v5 es_nil)).trans e) rfl))
    have b : evSs (ctx D n) (rBody I) s H = .nx s' H1 := by
      unfold rBody
      rw [evSs_one, st_f a0, evSs_nx q0, evSs_nx q1, evSs_nx q2, evSs_nil]
    obtain ⟨y3, y4, y5, e2⟩ := read_go wl (i + 1) H1 H' (some (.int i)) (some (.str (jn w))) (some (.kl (w.map .str))) (by simp at hL; omega) h1000 (fun y hy => hw y (by simp [hy])) Rd
    refine ⟨y3, y4, y5, ?_⟩
    show forGo _ _ (W.tup [.int i, .str (jn w)] :: numbered (i + 1) ((wl.map jn ++ [[]]).map .str)) _ H = _
    rw [forGo, og, if_pos rfl]
    have tn : forTurn true [3, 4] (evSs (ctx D n) (rBody I)) (W.tup [.int i, .str (jn w)]) [some tx, some (.kl L), some (.ref r), x3, x4, x5] H = .nx s' H1 := b
    rw [tn]
    exact e2
theorem read_forest (X : HasR D I) (P : HasW D I) (J : HasJ D I) (F : HasF D I) (hk : 9 ≤ k) {f : Fo} {o : Int} (ok : Fo.Ok o f) :
    run D k I.read_forest [.str f.text] h = .ok (.ref h.length) (h ++ [forestO I f o]) := by
  obtain ⟨n, rfl, hr⟩ := run_at (ws := [.str f.text]) (h := h) (show 1 ≤ k by omega) X.read rfl
  obtain ⟨l1, l2⟩ := ok.lines_len
  let tx : W := .str f.text
  let L : List W := (f.lines ++ [[]]).map .str
  let s0 : Env := [some tx, none, none, none, none, none]
  let s1 : Env := [some tx, some (.kl L), none, none, none, none]
  let s2 : Env := [some tx, some (.kl L), some (.ref h.length), none, none, none]
  have q0 : evS (ctx D n) (.ite (.not (.isi (.var 0) [.str])) [.nev] []) s0 h = .nx s0 h := chk (by simp only [s0]; simp [evT, den, tx, isK])
  have sp : evE (ctx D n) s0 (.met .split (.var 0) [(.str [10])]) h = .ok (.kl L) h := by
    have v : varV 0 s0 h = .ok tx h := rfl
    have mt : met1 .split tx (.str [10]) h = .ok (.kl L) h := by
      show (if f.text.length + 2 ≤ line ∧ 10 < 256 then R.ok (W.kl ((splitAt1 10 [] f.text).map .str)) h else .bad) = _
      rw [if_pos ⟨text_len ok, by decide⟩, text_lines ok]
    simp [evE, den, denL, v, recv, isRecv, mt, tx]
  have q1 : evS (ctx D n) (.asg (.var 1) (.met .split (.var 0) [(.str [10])])) s0 h = .nx s1 h := st_asg (i := 1) sp
  have q2 : evS (ctx D n) (.asg (.var 2) (.make I.c_Reader [])) s1 h = .nx s2 (RH I h 0 .non [] [] [] [] []) := st_asg (i := 2) ((ev_make es_nil).trans (new_reader X (by omega)))
  obtain ⟨t, Rd⟩ := rd_all (k := n) (h := h) X P (by omega) ok
  let H := RH I h 8 .non (f.kinds.map Kin.w) (f.stands.map Sta.w) ((sortPr f.near).map prW) (fxF f) t
  obtain ⟨y3, y4, y5, e3⟩ := read_go (n := n) (L := L) (tx := tx) f.words 0 _ H none none none (by simp only [L, List.length_map, List.length_append, Fo.lines, List.length_singleton]; omega) (by simp only [L, List.length_map, List.length_append, List.length_singleton]; omega) ok.wordsOk Rd
  let s3 : Env := [some tx, some (.kl L), some (.ref h.length), y3, y4, y5]
  have q3 : evS (ctx D n) (.for true [3, 4] .enm (.var 1) .non (rBody I)) s2 (RH I h 0 .non [] [] [] [] []) = .nx s3 H := by
    have v1 : evE (ctx D n) s2 (.var 1) (RH I h 0 .non [] [] [] [] []) = .ok (.kl L) _ := ev_var rfl
    rw [evS, v1, ofR_ok, ev_non, ofR_ok]
    show RS.ofR (srcV .enm (.kl L) .non _) s2 _ = _
    rw [show srcV .enm (.kl L) .non (RH I h 0 .non [] [] [] [] []) = .ok ⟨numbered 0 L, [], _, none⟩ _ from rfl, ofR_ok]
    show forEnd none (forGo _ _ _ s2 _) = _
    rw [show forGo (forTurn true [3, 4] (evSs (ctx D n) (rBody I))) [] (numbered 0 L) s2 (RH I h 0 .non [] [] [] [] []) = .nx s3 H from e3]
    rfl
  have q4 : evS (ctx D n) (.ite (.cmp .ne (.fld (.var 2) I.f_stage) (.int 8)) [.nev] []) s3 H = .nx s3 H := by
    have stE : evE (ctx D n) s3 (.fld (.var 2) I.f_stage) H = .ok (.int 8) H := rd_fldv X (j := 11) rfl (by decide) X.fb rfl
    exact st_skip (et_nei stE (ev_int 8))
  have fin := finished (k := n) (h := h) (t := t) X P J F (by omega) ok (H := H) rfl
  have m := (ev_mcall (C := ctx D n) (s := s3) (h := H) (ev_var (i := 2) rfl) (rd_mth X X.m7) es_nil).trans fin
  rw [hr]
  show back _ h (evSs _ [_, _, _, _, _, _] s0 h) = _
  rw [evSs_nx q0, evSs_nx q1, evSs_nx q2]
  have q3 : evS (ctx D n) (.for true [3, 4] .enm (.var 1) .non [_]) s2 _ = _ := q3
  rw [evSs_nx q3, evSs_nx q4, evSs_rt (st_ret m), back_rt]
  have eH : H ++ [forestO I f o] = h ++ ((O.ins I.c_Reader (rdFs h.length 8 .non) :: .lst (f.kinds.map Kin.w) :: .lst (f.stands.map Sta.w) :: .lst ((sortPr f.near).map prW) :: .dct (fxF f) :: t) ++ [forestO I f o]) := by
    simp [H, RH]
  have lg : (H ++ [forestO I f o])[H.length]? = some (forestO I f o) := last_get
  have hl : h.length ≤ H.length := by
    rw [show H.length = _ from RH_len]
    omega
  rw [eH] at lg ⊢
  exact gc_fo hl lg
end
end M2

namespace M2
/-! ### what a law holds against a forest -/
/-- the parts, as a law tells them -/
def Fo.parts (f : Fo) (o : Int) : List W := [.tup (f.kinds.map Kin.w), .tup (f.stands.map Sta.w), .tup ((sortPr f.near).map prW), .int f.gap, f.weW, f.yaW, .int f.due, .int o]
def Fo.parts7 (f : Fo) : List W := [.tup (f.kinds.map Kin.w), .tup (f.stands.map Sta.w), .tup ((sortPr f.near).map prW), .int f.gap, f.weW, f.yaW, .int f.due]
theorem sm_int {i : Int} : ∀ n, Sm n (.int i)
  | 0 => rfl
  | _ + 1 => .inl rfl
theorem sm_str {i : List Nat} : ∀ n, Sm n (.str i)
  | 0 => rfl
  | _ + 1 => .inl rfl
theorem sm_bl {i : Bool} : ∀ n, Sm n (.bl i)
  | 0 => rfl
  | _ + 1 => .inl rfl
theorem sm_tup {n : Nat} {l : List W} (hl : l.length ≤ 1000) (hx : ∀ x ∈ l, Sm n x) : Sm (n + 1) (.tup l) := .inr ⟨l, .inl rfl, hl, hx⟩
theorem sm_ints {n : Nat} {l : List Int} (hl : l.length ≤ 1000) : Sm (n + 1) (.tup (l.map .int)) := sm_tup (by rw [List.length_map]; exact hl) fun x hx => by
  obtain ⟨i, _, rfl⟩ := List.mem_map.mp hx
  exact sm_int n
theorem sm_kl {n : Nat} {l : List W} (hl : l.length ≤ 1000) (hx : ∀ x ∈ l, Sm n x) : Sm (n + 1) (.kl l) := .inr ⟨l, .inr rfl, hl, hx⟩
theorem Fo.Ok.parts_sm {f : Fo} {o : Int} (ok : Fo.Ok o f) : ∀ x ∈ f.parts o, Sm 3 x := fun x hx => by
  have o6 := ok.o6
  simp only [Fo.parts, List.mem_cons, List.not_mem_nil, or_false] at hx
  rcases hx with rfl | rfl | rfl | rfl | rfl | rfl | rfl | rfl
  · refine sm_tup (by rw [List.length_map]; have := ok.k3; omega) fun y hy => ?_
    obtain ⟨q, hq, rfl⟩ := List.mem_map.mp hy
    have t := (ok.kok q hq).timber.1
    have w := (ok.kok q hq).windfall.1
    refine sm_tup (by simp) fun z hz => ?_
    simp only [List.mem_cons, List.not_mem_nil, or_false] at hz
    rcases hz with rfl | rfl | rfl | rfl | rfl | rfl
    · exact sm_str 1
    · exact sm_ints (by omega)
    · exact sm_ints (by omega)
    · exact sm_int 1
    · exact sm_int 1
    · exact sm_bl 1
  · refine sm_tup (by rw [List.length_map]; have := ok.s4; omega) fun y hy => ?_
    obtain ⟨q, hq, rfl⟩ := List.mem_map.mp hy
    refine sm_tup (by simp) fun z hz => ?_
    simp only [List.mem_cons, List.not_mem_nil, or_false] at hz
    rcases hz with rfl | rfl | rfl
    · exact sm_str 1
    · exact sm_str 1
    · exact sm_int 1
  · refine sm_tup ?_ fun y hy => ?_
    · rw [List.length_map, (sortPr_perm _).length_eq]
      have := near_len ok.near (by have := ok.s4; omega)
      omega
    · obtain ⟨q, hq, rfl⟩ := List.mem_map.mp hy
      refine sm_tup (by simp) fun z hz => ?_
      simp only [List.mem_cons, List.not_mem_nil, or_false] at hz
      rcases hz with rfl | rfl <;> exact sm_int 1
  · exact sm_int 3
  · refine sm_tup (by simp) fun z hz => ?_
    simp only [List.mem_cons, List.not_mem_nil, or_false] at hz
    rcases hz with rfl | rfl | rfl <;> exact sm_int 2
  · refine sm_tup (by simp) fun z hz => ?_
    simp only [List.mem_cons, List.not_mem_nil, or_false] at hz
    rcases hz with rfl | rfl <;> exact sm_int 2
  · exact sm_int 3
  · exact sm_int 3
theorem Fo.Ok.parts7_sm {f : Fo} {o : Int} (ok : Fo.Ok o f) : Sm 4 (.kl f.parts7) := sm_kl (by simp [Fo.parts7]) fun x hx => ok.parts_sm x (by
  simp only [Fo.parts7, List.mem_cons, List.not_mem_nil, or_false] at hx
  simp only [Fo.parts, List.mem_cons, List.not_mem_nil, or_false]
  rcases hx with h | h | h | h | h | h | h <;> simp [h])
theorem Fo.Ok.spec_sm {f : Fo} {o : Int} (ok : Fo.Ok o f) : Sm 4 (.kl (f.parts o)) := sm_kl (by simp [Fo.parts]) fun x hx => ok.parts_sm x hx
theorem forestO_cl {I : Ix} {f : Fo} {o : Int} (n : Nat) : (forestO I f o).cl n = true := by
  show clAll n _ = true
  exact clAll_pu n (foFs_pu f o)
theorem PotI.fo {h : Hm} (p : PotI h) {I : Ix} {f : Fo} {o : Int} : PotI (h ++ [forestO I f o]) := p.app (by
  unfold Hm.cl
  simp only [List.all_cons, List.all_nil, Bool.and_true]
  exact forestO_cl _)
section
variable {D : Prog} {I : Ix} {k : Nat} {h : Hm}
theorem ForestAt.ev {C : Ctx} {s : Env} {v r j fj : Nat} {f : Fo} {o : Int} {w : W} (A : ForestAt I h r f o) (F : HasF D I) {n : Nat} (sv : s[v]? = some (some (.ref r))) (hj : j < 11) (ej : fj = j) (e : getF j (foFs f o) = some w) : evE (ctx D n) s (.fld (.var v) fj) h = .ok w h := by
  subst ej
  exact (ev_fld (ev_var sv)).trans (A.fld F hj e)
end
/-- the bounds as a row -/
def mostF (l : List Int) (i : Nat) : Int := l.getD i 0
end M2

namespace M2
namespace K05
def I : Ix := { line_of := 0, kind_lines := 1, forest_lines := 2, forest_text := 3, is_number := 4, is_within := 5, is_listed := 6, is_label := 7, is_name := 8, is_table := 9, is_kind := 10, oldest_in := 11, has_twice := 12, are_kinds := 13, are_stands := 14, are_near := 15, is_weather := 16, is_yard := 17, Forest_init := 18, Forest_keep_rows := 19, Forest_eq := 20, number_in := 21, numbers_in := 22, Reader_init := 23, Reader_takes := 24, Reader_takes_kind := 25, Reader_takes_table := 26, Reader_takes_stand := 27, Reader_takes_near := 28, Reader_takes_last := 29, Reader_finished := 30, read_forest := 31, l_pot := 32, l_draw := 33, l_pick := 34, l_same := 35, l_words := 36, l_word := 37, l_is_label := 38, l_is_name := 39, l_names := 40, l_table := 41, l_kind := 42, l_pairs := 43, l_spec := 44, l_made := 45, l_lines := 46, l_text_of := 47, g_WORDS := 0, g_LETTERS := 1, g_LONGEST := 2, g_OLDEST := 3, g_MOST_TIMBER := 4, g_MOST_KINDS := 5, g_MOST_STANDS := 6, g_MOST_WEATHER := 7, g_MOST_LID := 8, g_MOST_DUE := 9, g_DIGITS := 10, g_MOST_DIGITS := 11, g_HEADS := 12, g_SIZES := 13, c_Forest := 0, c_Reader := 1, m_init := 0, m_keep_rows := 1, m_eq := 2, m_takes := 3, m_takes_kind := 4, m_takes_table := 5, m_takes_stand := 6, m_takes_near := 7, m_takes_last := 8, m_finished := 9, f_kinds := 0, f_stands := 1, f_near := 2, f_gap := 3, f_weather := 4, f_yard := 5, f_due := 6, f_oldest := 7, f_rows := 8, f_beside := 9, f_carriers := 10, f_stage := 11, f_table := 12, f_facts := 13 }
def B.law (I : Ix) : Fn := ⟨1, 9, [.asg (.var 1) (.call I.l_pot [(.var 0)]),
  .for false [2] .rng1 (.int 5) .non [.asg (.var 3) (.call I.l_spec [(.var 1), (.lst [(.int 4), (.int 6), (.int 99), (.int 4), (.int 4), (.int 4), (.int 999), (.int 999)])]),
  .par [4, 5] [(.call I.l_made [(.var 3)]), (.call I.l_text_of [(.var 3)])],
  .ite (.not (.call I.l_same [(.call I.forest_text [(.var 4)]), (.var 5)])) [.ret (.bl false)] [],
  .asg (.var 6) (.call I.read_forest [(.var 5)]),
  .asg (.var 7) (.lst [(.fld (.var 6) I.f_kinds), (.fld (.var 6) I.f_stands), (.fld (.var 6) I.f_near), (.fld (.var 6) I.f_gap), (.fld (.var 6) I.f_weather), (.fld (.var 6) I.f_yard), (.fld (.var 6) I.f_due)]),
  .asg (.var 8) (.bin .add (.lst [(.bl1 .tuple (.sub (.var 3) (.int 0))), (.bl1 .tuple (.sub (.var 3) (.int 1))), (.bl1 .tuple (.bl1 .sorted (.sub (.var 3) (.int 2))))]) (.slc (.var 3) true (.int 3) false .non)),
  .ite (.or (.cmp .ne (.var 6) (.var 4)) (.or (.not (.call I.l_same [(.var 7), (.var 8)])) (.cmp .ne (.call I.forest_text [(.var 6)]) (.var 5)))) [.ret (.bl false)] []],
  .ret (.bl true)], true⟩
def bodies : List Fn := [B.line_of I, B.kind_lines I, B.forest_lines I, B.forest_text I, B.is_number I, B.is_within I, B.is_listed I, B.is_label I, B.is_name I, B.is_table I, B.is_kind I, B.oldest_in I, B.has_twice I, B.are_kinds I, B.are_stands I, B.are_near I, B.is_weather I, B.is_yard I, B.Forest_init I, B.Forest_keep_rows I, B.Forest_eq I, B.number_in I, B.numbers_in I, B.Reader_init I, B.Reader_takes I, B.Reader_takes_kind I, B.Reader_takes_table I, B.Reader_takes_stand I, B.Reader_takes_near I, B.Reader_takes_last I, B.Reader_finished I, B.read_forest I, B.l_pot I, B.l_draw I, B.l_pick I, B.l_same I, B.l_words I, B.l_word I, B.l_is_label I, B.l_is_name I, B.l_names I, B.l_table I, B.l_kind I, B.l_pairs I, B.l_spec I, B.l_made I, B.l_lines I, B.l_text_of I, B.law I]
def cons : List W := [.tup (wordList.map .str), .str letters, .int 8, .int 6, .int 99, .int 3, .int 4, .int 4, .int 999, .int 999, .str [48, 49, 50, 51, 52, 53, 54, 55, 56, 57], .int 6, .tup [.str [103, 97, 112], .str [115, 116, 111, 114, 109, 115], .str [121, 97, 114, 100], .str [100, 117, 101]], .tup [.ref 0, .tup [.tup [.str [103, 97, 112], .int 1], .tup [.str [115, 116, 111, 114, 109, 115], .int 3], .tup [.str [121, 97, 114, 100], .int 2], .tup [.str [100, 117, 101], .int 1]]]]
def tabM : List (List (Option Nat)) := [[some 18, some 19, some 20], [some 23, none, none, some 24, some 25, some 26, some 27, some 28, some 29, some 30]]
def tabN : List (List Bool) := [List.replicate 14 true, List.replicate 14 true]
abbrev D : Prog := ⟨fun i => bodies[i]?, fun i => cons[i]?, fun k j => (match tabM[k]? with
  | some l => (match l[j]? with
    | some o => o
    | none => none)
  | none => none), fun k => [18, 23][k]?, fun k f => (match tabN[k]? with
  | some l => l.getD f false
  | none => false), fun k => (match [some 20][k]? with
  | some o => o
  | none => none), fun k => [true, false].getD k true, 10 ^ 100⟩
end K05
end M2

namespace M2
namespace K05
structure HasK (D : Prog) (I : Ix) : Prop where
  P : HasP D I
  W : HasW D I
  N : HasN D I
  S : HasS D I
  J : HasJ D I
  F : HasF D I
  T : HasT D I
  X : HasX D I
  R : HasR D I
  same : D.fns I.l_same = some (B.l_same I)
  made : D.fns I.l_made = some (B.l_made I)
def turn (I : Ix) : List S := [.asg (.var 3) (.call I.l_spec [(.var 1), (.lst [(.int 4), (.int 6), (.int 99), (.int 4), (.int 4), (.int 4), (.int 999), (.int 999)])]),
  .par [4, 5] [(.call I.l_made [(.var 3)]), (.call I.l_text_of [(.var 3)])],
  .ite (.not (.call I.l_same [(.call I.forest_text [(.var 4)]), (.var 5)])) [.ret (.bl false)] [],
  .asg (.var 6) (.call I.read_forest [(.var 5)]),
  .asg (.var 7) (.lst [(.fld (.var 6) I.f_kinds), (.fld (.var 6) I.f_stands), (.fld (.var 6) I.f_near), (.fld (.var 6) I.f_gap), (.fld (.var 6) I.f_weather), (.fld (.var 6) I.f_yard), (.fld (.var 6) I.f_due)]),
  .asg (.var 8) (.bin .add (.lst [(.bl1 .tuple (.sub (.var 3) (.int 0))), (.bl1 .tuple (.sub (.var 3) (.int 1))), (.bl1 .tuple (.bl1 .sorted (.sub (.var 3) (.int 2))))]) (.slc (.var 3) true (.int 3) false .non)),
  .ite (.or (.cmp .ne (.var 6) (.var 4)) (.or (.not (.call I.l_same [(.var 7), (.var 8)])) (.cmp .ne (.call I.forest_text [(.var 6)]) (.var 5)))) [.ret (.bl false)] []]
section
variable {D : Prog} {I : Ix} {k : Nat} {h : Hm}
theorem turn_ok (K : HasK D I) (hk : 12 ≤ k) {x0 x2 x3 x4 x5 x6 x7 x8 : Option W} (p : PotI h) : ∃ y3 y4 y5 y6 y7 y8 h', evSs (ctx D k) (turn I) [x0, some (.ref 1), x2, x3, x4, x5, x6, x7, x8] h = .nx [x0, some (.ref 1), x2, y3, y4, y5, y6, y7, y8] h' ∧ PotI h' := by
  have M : Most (mostF [4, 6, 99, 4, 4, 4, 999, 999]) := ⟨by decide, by decide, by decide, by decide, by decide, by decide, by decide, by decide⟩
  obtain ⟨f, o, h1, e1, N1, ok, _, _⟩ := spec (k := k) K.P K.N K.S (by omega) p M
  have p1 := N1.pot p
  have two := p1.two
  let w5 : W := .str f.text
  let s0 : Env := [x0, some (.ref 1), x2, x3, x4, x5, x6, x7, x8]
  let s1 : Env := [x0, some (.ref 1), x2, some f.specW, x4, x5, x6, x7, x8]
  let s2 : Env := [x0, some (.ref 1), x2, some f.specW, some (.ref h1.length), some w5, x6, x7, x8]
  let h2 : Hm := h1 ++ [forestO I f o]
  let h3 : Hm := h2 ++ [forestO I f o]
  let s3 : Env := [x0, some (.ref 1), x2, some f.specW, some (.ref h1.length), some w5, some (.ref h2.length), x7, x8]
  let s4 : Env := [x0, some (.ref 1), x2, some f.specW, some (.ref h1.length), some w5, some (.ref h2.length), some (.kl f.parts7), x8]
  let s5 : Env := [x0, some (.ref 1), x2, some f.specW, some (.ref h1.length), some w5, some (.ref h2.length), some (.kl f.parts7), some (.kl f.parts7)]
  have q0 : evS (ctx D k) (.asg (.var 3) (.call I.l_spec [(.var 1), (.lst [(.int 4), (.int 6), (.int 99), (.int 4), (.int 4), (.int 4), (.int 999), (.int 999)])])) s0 h = .nx s1 h1 :=
    st_asg (i := 3) ((ev_call (es_cons (ev_var rfl) (es_cons (ev_lst (es_cons (ev_int 4) (es_cons (ev_int 6) (es_cons (ev_int 99) (es_cons (ev_int 4) (es_cons (ev_int 4) (es_cons (ev_int 4) (es_cons (ev_int 999) (es_cons (ev_int 999) es_nil)))))))) (by simp)) es_nil))).trans e1)
  have m1 := (ev_call (C := ctx D k) (s := s1) (h := h1) (f := I.l_made) (es_cons (ev_var (i := 3) rfl) es_nil)).trans (l_made (k := k) K.W K.J K.F K.made (by omega) ok)
  have m2 := (ev_call (C := ctx D k) (s := s1) (h := h2) (f := I.l_text_of) (es_cons (ev_var (i := 3) rfl) es_nil)).trans (l_text_of (k := k) K.X (by omega) ok)
  have q1 : evS (ctx D k) (.par [4, 5] [(.call I.l_made [(.var 3)]), (.call I.l_text_of [(.var 3)])]) s1 h1 = .nx s2 h2 := st_par (es_cons m1 (es_cons m2 es_nil)) rfl
  have A : ForestAt I h2 h1.length f o := ForestAt.new
  have t4 : ∀ {s : Env} {v r : Nat} {h' : Hm}, s[v]? = some (some (.ref r)) → ForestAt I h' r f o → evE (ctx D k) s (.call I.forest_text [(.var v)]) h' = .ok w5 h' := fun sv A => (ev_call (es_cons (ev_var sv) es_nil)).trans (forest_text (k := k) K.T K.F (by omega) A ok)
  have q2 : evS (ctx D k) (.ite (.not (.call I.l_same [(.call I.forest_text [(.var 4)]), (.var 5)])) [.ret (.bl false)] []) s2 h2 = .nx s2 h2 :=
    st_skip (et_not (et_call (es_cons (t4 rfl A) (es_cons (ev_var (i := 5) rfl) es_nil)) (same_leaf (k := k) K.same (by omega) rfl)))
  have q3 : evS (ctx D k) (.asg (.var 6) (.call I.read_forest [(.var 5)])) s2 h2 = .nx s3 h3 := st_asg (i := 6) ((ev_call (es_cons (ev_var (i := 5) rfl) es_nil)).trans (read_forest (k := k) K.R K.W K.J K.F (by omega) ok))
  have A4 : ForestAt I h3 h1.length f o := A.app _
  have A6 : ForestAt I h3 h2.length f o := ForestAt.new
  have fl : ∀ (j fj : Nat) (hj : j < 11) (ej : fj = j) {w : W} (e : getF j (foFs f o) = some w), evE (ctx D k) s3 (.fld (.var 6) fj) h3 = .ok w h3 := fun j fj hj ej w e => A6.ev (C := ctx D k) K.F rfl hj ej e
  have q4 : evS (ctx D k) (.asg (.var 7) (.lst [(.fld (.var 6) I.f_kinds), (.fld (.var 6) I.f_stands), (.fld (.var 6) I.f_near), (.fld (.var 6) I.f_gap), (.fld (.var 6) I.f_weather), (.fld (.var 6) I.f_yard), (.fld (.var 6) I.f_due)])) s3 h3 = .nx s4 h3 :=
    st_asg (i := 7) (ev_lst (es_cons (fl 0 I.f_kinds (by decide) K.F.f0 rfl) (es_cons (fl 1 I.f_stands (by decide) K.F.f1 rfl) (es_cons (fl 2 I.f_near (by decide) K.F.f2 rfl) (es_cons (fl 3 I.f_gap (by decide) K.F.f3 rfl) (es_cons (fl 4 I.f_weather (by decide) K.F.f4 rfl) (es_cons (fl 5 I.f_yard (by decide) K.F.f5 rfl) (es_cons (fl 6 I.f_due (by decide) K.F.f6 rfl) es_nil))))))) (by show 7 ≤ 1000; decide))
  have v : evE (ctx D k) s4 (.var 3) h3 = .ok f.specW h3 := ev_var rfl
  have a0 := ev_tuple (el_of rfl ((ev_subi v).trans (show getItem f.specW (.int 0) h3 = .ok (.kl (f.kinds.map Kin.w)) h3 from rfl)) rfl)
  have a1 := ev_tuple (el_of rfl ((ev_subi v).trans (show getItem f.specW (.int 1) h3 = .ok (.kl (f.stands.map Sta.w)) h3 from rfl)) rfl)
  have a2 := ev_tuple (el_of rfl (ev_sorted (el_of rfl ((ev_subi v).trans (show getItem f.specW (.int 2) h3 = .ok (.kl (f.near.map prW)) h3 from rfl)) rfl)) rfl)
  have a3 := (ev_slc_lo (i := 3) v).trans (show getSlice f.specW (some 3) none h3 = .ok (.kl [.int f.gap, f.weW, f.yaW, .int f.due]) h3 from rfl)
  have a4 := (ev_bin (o := .add) (ev_lst (es_cons a0 (es_cons a1 (es_cons a2 es_nil))) (by simp)) a3).trans (add_kl rfl rfl (by simp))
  have q5 : evS (ctx D k) (.asg (.var 8) (.bin .add (.lst [(.bl1 .tuple (.sub (.var 3) (.int 0))), (.bl1 .tuple (.sub (.var 3) (.int 1))), (.bl1 .tuple (.bl1 .sorted (.sub (.var 3) (.int 2))))]) (.slc (.var 3) true (.int 3) false .non))) s4 h3 = .nx s5 h3 := st_asg (i := 8) a4
  have q6 : evS (ctx D k) (.ite (.or (.cmp .ne (.var 6) (.var 4)) (.or (.not (.call I.l_same [(.var 7), (.var 8)])) (.cmp .ne (.call I.forest_text [(.var 6)]) (.var 5)))) [.ret (.bl false)] []) s5 h3 = .nx s5 h3 := by
    refine st_skip ?_
    have c0 := et_cmp (C := ctx D k) (s := s5) (h := h3) (ev_var (i := 6) rfl) (ev_var (i := 4) rfl) (cmp_eq (k := k) K.F (by omega) A6 A4).2
    rw [foEq_self] at c0
    have c1 : evT (ctx D k) s5 (.not (.call I.l_same [(.var 7), (.var 8)])) h3 = .ok false h3 := et_not (et_call (es_cons (ev_var (C := ctx D k) (s := s5) (h := h3) (i := 7) (x := .kl f.parts7) rfl) (es_cons (ev_var (i := 8) (x := .kl f.parts7) rfl) es_nil)) (same_tree K.same 4 k (by omega) _ ok.parts7_sm))
    have c0 : evT (ctx D k) s5 (.cmp .ne (.var 6) (.var 4)) h3 = .ok false h3 := c0
    rw [et_or_f c0, et_or_f c1]
    have c2 := et_nes (C := ctx D k) (s := s5) (h := h3) (t4 (v := 6) rfl A6) (ev_var (i := 5) rfl)
    rw [c2]
    simp
  refine ⟨some f.specW, some (.ref h1.length), some w5, some (.ref h2.length), some (.kl f.parts7), some (.kl f.parts7), h3, ?_, p1.fo.fo⟩
  unfold turn
  show evSs _ _ s0 h = .nx s5 h3
  rw [evSs_nx q0, evSs_nx q1, evSs_nx q2, evSs_nx q3, evSs_nx q4, evSs_nx q5, evSs_nx q6, evSs_nil]
theorem law (K : HasK D I) (hk : 13 ≤ k) {li : Nat} (hl : D.fns li = some (B.law I)) (ns : List Int) : ∃ hm, run D k li [.kl (ns.map .int)] [] = .ok (.bl true) hm := by
  obtain ⟨n, rfl, hr⟩ := run_at (ws := [.kl (ns.map .int)]) (h := []) (show 1 ≤ k by omega) hl rfl
  let x0 : Option W := some (.kl (ns.map .int))
  have q0 : evS (ctx D n) (.asg (.var 1) (.call I.l_pot [(.var 0)])) [x0, none, none, none, none, none, none, none, none] [] = .nx [x0, some (.ref 1), none, none, none, none, none, none, none] (heap0 ns) := st_asg (i := 1) ((ev_call (es_cons (ev_var (i := 0) rfl) es_nil)).trans (pot (k := n) K.P (by omega)))
  let J : List W → Env → Hm → Prop := fun _ s h => (∃ x2 x3 x4 x5 x6 x7 x8, s = [x0, some (.ref 1), x2, x3, x4, x5, x6, x7, x8]) ∧ PotI h
  obtain ⟨s', h', e, ⟨x2, x3, x4, x5, x6, x7, x8, rfl⟩, p'⟩ := for_go (f := forTurn false [2] (evSs (ctx D n) (turn I))) (gs := []) J (fun _ _ _ _ => rfl) (fun x l s h j => by
    obtain ⟨⟨x2, x3, x4, x5, x6, x7, x8, rfl⟩, p⟩ := j
    obtain ⟨y3, y4, y5, y6, y7, y8, h', e, p'⟩ := turn_ok (k := n) K (by omega) (x0 := x0) (x2 := some x) (x3 := x3) (x4 := x4) (x5 := x5) (x6 := x6) (x7 := x7) (x8 := x8) p
    exact ⟨_, h', e, ⟨some x, y3, y4, y5, y6, y7, y8, rfl⟩, p'⟩) (upto 0 5) [x0, some (.ref 1), none, none, none, none, none, none, none] (heap0 ns) ⟨⟨_, _, _, _, _, _, _, rfl⟩, heap0_pot ns⟩
  have q1 : evS (ctx D n) (.for false [2] .rng1 (.int 5) .non (turn I)) [x0, some (.ref 1), none, none, none, none, none, none, none] (heap0 ns) = .nx [x0, some (.ref 1), x2, x3, x4, x5, x6, x7, x8] h' := by
    rw [evS, ev_int, ofR_ok, ev_non, ofR_ok, show srcV .rng1 (.int 5) .non (heap0 ns) = .ok ⟨upto 0 5, [], heap0 ns, none⟩ (heap0 ns) from src_rng (m := 5) (by decide), ofR_ok]
    show forEnd none (forGo _ _ _ _ _) = _
    rw [e]
    rfl
  refine ⟨h'.take 0, ?_⟩
  rw [hr]
  show back _ [] (evSs _ [_, .for false [2] .rng1 (.int 5) .non (turn I), _] [x0, none, none, none, none, none, none, none, none] []) = _
  rw [evSs_nx q0, evSs_nx q1, evSs_rt (st_ret (x := .bl true) rfl), back_rt]
  exact gc_new (h0 := []) _ (by unfold baseOk; simp) rfl
end
theorem na14 (c : Nat) (hc : c < 2) : ∀ f, f < 14 → D.na c f = true := by
  have : ∀ c, c < 2 → ∀ f, f < 14 → D.na c f = true := by decide
  exact this c hc
theorem hasK : HasK D I where
  P := ⟨rfl, rfl, rfl⟩
  W := ⟨rfl, rfl, rfl, rfl, rfl, rfl, rfl, rfl⟩
  N := ⟨rfl, rfl, rfl, rfl, rfl⟩
  S := ⟨rfl, rfl, rfl, rfl⟩
  J := ⟨rfl, rfl, rfl, rfl, rfl, rfl, rfl, rfl, rfl, rfl, rfl, rfl, rfl, rfl, rfl, rfl⟩
  F := { ini := rfl, init := rfl, keep := rfl, eq := rfl, mth := rfl, eqm := rfl, na := fun f hf => na14 0 (by decide) f (by omega), fzc := rfl, f0 := rfl, f1 := rfl, f2 := rfl, f3 := rfl, f4 := rfl, f5 := rfl, f6 := rfl, f7 := rfl, f8 := rfl, f9 := rfl, fa := rfl }
  T := ⟨rfl, rfl, rfl, rfl⟩
  X := ⟨rfl, rfl⟩
  R := { number_in := rfl, numbers_in := rfl, init := rfl, takes := rfl, takes_kind := rfl, takes_table := rfl, takes_stand := rfl, takes_near := rfl, takes_last := rfl, finished := rfl, read := rfl, ini := rfl, fzc := rfl, na := na14 1 (by decide), m1 := rfl, m2 := rfl, m3 := rfl, m4 := rfl, m5 := rfl, m6 := rfl, m7 := rfl, f0 := rfl, f1 := rfl, f2 := rfl, fb := rfl, fc := rfl, fd := rfl, dig := rfl, md := rfl, hds := rfl, szs := rfl }
  same := rfl
  made := rfl
theorem law_true (ns : List Int) : ∃ hm, run D 60 48 [.kl (ns.map .int)] [] = .ok (.bl true) hm := law hasK (by decide) rfl ns
end K05
end M2

namespace M2
namespace K05
open PySem PySem.Spec PyProof.Rows L2
abbrev P : Program := PySem.Challenge.pw_stormwoods_k05_whole_texts_of_forests
abbrev Ro : PySem.W.OpenRow := PySem.W.OpenLaw.row PySem.Challenge.rw_stormwoods_k05_whole_texts_of_forests
def ds : List DS := dsOf P.main.body
def cs : List (Str × W) := [("WORDS", .tup (wordList.map .str)), ("LETTERS", .str letters), ("LONGEST", .int 8), ("OLDEST", .int 6), ("MOST_TIMBER", .int 99), ("MOST_KINDS", .int 3), ("MOST_STANDS", .int 4), ("MOST_WEATHER", .int 4), ("MOST_LID", .int 999), ("MOST_DUE", .int 999), ("DIGITS", .str [48, 49, 50, 51, 52, 53, 54, 55, 56, 57]), ("MOST_DIGITS", .int 6), ("HEADS", .tup [.str [103, 97, 112], .str [115, 116, 111, 114, 109, 115], .str [121, 97, 114, 100], .str [100, 117, 101]]), ("SIZES", .tup [.ref 0, .tup [.tup [.str [103, 97, 112], .int 1], .tup [.str [115, 116, 111, 114, 109, 115], .int 3], .tup [.str [121, 97, 114, 100], .int 2], .tup [.str [100, 117, 101], .int 1]]])]
def T : KT := { cls := ["Forest", "Reader"], mths := ["__init__", "keep_rows", "__eq__", "takes", "takes_kind", "takes_table", "takes_stand", "takes_near", "takes_last", "finished"], flds := ["kinds", "stands", "near", "gap", "weather", "yard", "due", "oldest", "rows", "beside", "carriers", "stage", "table", "facts"], ini := [18, 23], mth := tabM, na := tabN, eqm := [some 20], fzc := [true, false], mf := ["beside", "carriers", "kinds", "stands", "near", "table", "facts"], mu := ["_law_pot"] }
abbrev hk : PySem.W.Hook := lookM 5 ds T cs
def ob (s : PySem.W.SharedT) : AlM := seenG 5 ds T cs (HandSHeadRun.getT s)
theorem ob_eq (s : PySem.W.SharedT) : ob s = hk.obs s.abs := seenG_eq (HandSHeadRun.getT_eq s)
def names : List Str := topNames P.main.body
/-- a world, by what it says at one text -/
def Wb (w : World) (b : Bool) : World := ⟨w.draws, { w.params with followText := fun x => if x = "special-get-raises" then b else w.params.followText x }⟩
theorem Wb_eq (w : World) : Wb w (w.params.followText "special-get-raises") = w := by
  obtain ⟨d, P⟩ := w
  unfold Wb
  congr 1
  have : (fun x => if x = "special-get-raises" then P.followText "special-get-raises" else P.followText x) = P.followText := by
    funext x
    by_cases h : x = "special-get-raises"
    · rw [if_pos h, h]
    · rw [if_neg h]
  simp only [this]
theorem runsB (w : World) (b : Bool) : HandSHeadRun.RunEq Ro (PySem.W.view Ro.prog [62]) hk ob 4000 names (Wb w b) := by
  cases b with
  | true => intro os; kernel_rfl
  | false => intro os; kernel_rfl
theorem runs (w : World) : HandSHeadRun.RunEq Ro (PySem.W.view Ro.prog [62]) hk ob 4000 names w := by
  have := runsB w (w.params.followText "special-get-raises")
  rw [Wb_eq] at this
  exact this
theorem fit : fits (mkTop ds T cs) ds bodies := by
  unfold fits
  kernel_rfl
theorem facts {w : World} {K : PySem.W.Frag} {h : Heap} {mg : Str → Option Value} {f : Addr} (X : K.In h) (G : h.Ns mainGlobals mg) (hfa : mg ("law" : Str) = some (.ref f)) (c : TellsM ds T cs w K) :
    ∃ fd : FuncData, (∀ (s : Shared) (v : Value), BindsTo s fd ⟨[v], []⟩ [("script", v)]) ∧ ∀ base : Heap, K.In base → base.Ns mainGlobals mg → FnOk P w K mg base (CXw P) 120 f fd ["script"] (spM (nmOf w K T) K (run D 60 48)) := by
  have eD : mkProg bodies T cs (10 ^ 100) = D := by
    unfold mkProg
    congr 1
    funext i
    show (cs[i]?).map (·.2) = cons[i]?
    rw [← List.getElem?_map]
    rfl
  have hd : ∃ d, ds[48]? = some d ∧ psOf d.2.1 = [("script" : Str)] ∧ d.1 = (("law" : Str), none) := by
    refine ⟨(ds[48]?).getD (("", none), ⟨[], [], none, [], [], none, []⟩, [], (ds[0]!).2.2.2), ?_, ?_, ?_⟩ <;> kernel_rfl
  obtain ⟨d, h1, h2, h3⟩ := hd
  obtain ⟨fd, b, F⟩ := law_fn (P := P) (w := w) (n := 59) (most := 10 ^ 100) X G c fit (by kernel_rfl) (by kernel_rfl) (by kernel_rfl) h1 (b := B.law I) rfl h2 h3 hfa
  rw [eD] at F
  exact ⟨fd, b, fun base x y => FnOk.any (F base x y)⟩
end K05
end M2
open PySem PySem.W PySem.Calls PyProof.Rows
theorem PySem.Challenge.cw_stormwoods_k05_whole_texts_of_forests_holds : PySem.Challenge.rw_stormwoods_k05_whole_texts_of_forests.Holds := by
  w_on; o_law
  refine HandSHeadRun.head_any (r := OpenLaw.row PySem.Challenge.rw_stormwoods_k05_whole_texts_of_forests) (q := view (OpenLaw.row PySem.Challenge.rw_stormwoods_k05_whole_texts_of_forests).prog [62]) (H := M2.K05.hk) (ob := M2.K05.ob) (M := 4000) (loose := M2.K05.names) (d := HandSHeadRun.topDef (OpenLaw.row PySem.Challenge.rw_stormwoods_k05_whole_texts_of_forests).prog 62) (kwd := []) M2.K05.ob_eq
    (by kernel_rfl) (fun s => by kernel_rfl) M2.K05.runs (by kernel_rfl) (by kernel_rfl) (by kernel_rfl) (by rfl) (by first | assumption | decide +kernel) (by decide +kernel) ⟨rfl, rfl, rfl, rfl, rfl, by decide +kernel⟩ ?hw ?hc
  case hw => w_witness2
  case hc =>
    refine L2.walk_ofE (l := PySem.Challenge.rw_stormwoods_k05_whole_texts_of_forests) (n := 63) (k := 120) (x := "script") (CX := M2.CXw M2.K05.P) rfl (by decide) (by kernel_rfl) ⟨rfl, by decide, by decide⟩ ?F (fun _ _ _ _ z => by obtain ⟨_, _, _, _, _, _, _, _, _, _, _, _, _, z⟩ := z; exact z)
    intro w mg fa h Y G hmg0
    obtain ⟨K, KX, c⟩ := Y
    have hmg : mg ("law" : PySem.Str) = some (.ref fa) := by
      have e : (HandSHeadRun.topDef (OpenLaw.row PySem.Challenge.rw_stormwoods_k05_whole_texts_of_forests).prog 62).name = ("law" : PySem.Str) := by kernel_rfl
      rw [← e]
      exact hmg0
    obtain ⟨fd, hb, hF⟩ := M2.K05.facts (w := w) KX G hmg c
    exact ⟨K, fd, _, KX, hb, fun H a ns hl hO hS => M2.law_says (M2.K05.law_true ns) hO hS, hF⟩
