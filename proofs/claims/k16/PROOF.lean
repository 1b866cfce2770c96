import PyProof.Rows.All
import Wide.All
import OpenK.AllK
import Wide.FinOn
import HandS.ForMost
import HandS.Exc
import HandS.TryMany
import HandS.Lambda
import HandS.Wide
import HandS.IsInst
import HandS.Flow
import HandS.TupAny
import HandS.TupMul
import PyProof.P3Eq
import HandS.Style
import HandS.RaiseMore
import PyProof.ReprLen
import KE.GoesEnum
import HandS.Zip
import HandS.Rev
import HandS.Small
import HandS.ExcField
import KE.KExcIs
import KE.KExcSuper
import HandS.ExcInit
import HandS.Nested
import HandS.SortKw
import KE.SortKeyHeap
import HandS.SortInts
import HandS.More
import HandS.Deep
import HandS.Call
import KE.KStateDown
import HandS.Head0
import HandS.Head1
import HandS.Head2
import HandS.HeadEnd
import HandS.HeadHook4
import HandS.HeadWalk
import KE.KNestM
import PySem.Challenge.RW_storewright_k16_profiles_of_fleets
/-! MiniA: values, heaps, expressions of the small language -/
namespace Mini

abbrev Txt := List Nat

inductive Val where
  | none
  | bool (b : Bool)
  | int (i : Int)
  | str (s : Txt)
  | rep (v : Val)
  | tup (xs : List Val)
  | lst (xs : List Val)
  | ref (n : Nat)
  | clo (k : String) (caps : List Val)
  /-- an exception: its field -/
  | exc (f : String) (v : Val)
  /-- {}, never changed -/
  | emp
  /-- what is not written, in a slice -/
  | gap
  /-- a list that is only read: the script -/
  | scr (xs : List Val)
  deriving Repr, Inhabited

mutual
def Val.eqb : Val → Val → Bool
  | .none, .none => true
  | .bool a, .bool b => a == b
  | .int a, .int b => a == b
  | .str a, .str b => a == b
  | .rep a, .rep b => Val.eqb a b
  | .tup a, .tup b => Val.eqbs a b
  | .lst a, .lst b => Val.eqbs a b
  | .ref a, .ref b => a == b
  | .clo a x, .clo b y => a == b && Val.eqbs x y
  | .exc a x, .exc b y => a == b && Val.eqb x y
  | .emp, .emp => true
  | .gap, .gap => true
  | .scr a, .scr b => Val.eqbs a b
  | _, _ => false
def Val.eqbs : List Val → List Val → Bool
  | [], [] => true
  | a :: r, b :: s => Val.eqb a b && Val.eqbs r s
  | _, _ => false
end

mutual
theorem Val.eq_of_eqb : ∀ a b : Val, Val.eqb a b = true → a = b := by
  intro a b h
  cases a <;> cases b <;> simp only [Val.eqb, Bool.and_eq_true, beq_iff_eq, Bool.false_eq_true] at h <;> try (exact h.elim)
  · rfl
  · rw [h]
  · rw [h]
  · rw [h]
  · rw [Val.eq_of_eqb _ _ h]
  · rw [Val.eqs_of_eqbs _ _ h]
  · rw [Val.eqs_of_eqbs _ _ h]
  · rw [h]
  · rw [h.1, Val.eqs_of_eqbs _ _ h.2]
  · rw [h.1, Val.eq_of_eqb _ _ h.2]
  · rfl
  · rfl
  · rw [Val.eqs_of_eqbs _ _ h]
theorem Val.eqs_of_eqbs : ∀ a b : List Val, Val.eqbs a b = true → a = b := by
  intro a b h
  cases a <;> cases b <;> simp only [Val.eqbs, Bool.and_eq_true, Bool.false_eq_true] at h <;> try (exact h.elim)
  · rfl
  · rw [Val.eq_of_eqb _ _ h.1, Val.eqs_of_eqbs _ _ h.2]
end
mutual
theorem Val.eqb_self : ∀ a : Val, Val.eqb a a = true := by
  intro a
  cases a <;> simp only [Val.eqb, beq_self_eq_true, Bool.true_and]
  · exact Val.eqb_self _
  · exact Val.eqbs_self _
  · exact Val.eqbs_self _
  · exact Val.eqbs_self _
  · exact Val.eqb_self _
  · exact Val.eqbs_self _
theorem Val.eqbs_self : ∀ a : List Val, Val.eqbs a a = true := by
  intro a
  cases a <;> simp only [Val.eqbs]
  rw [Val.eqb_self, Val.eqbs_self]; rfl
end
instance : DecidableEq Val := fun a b => if h : Val.eqb a b = true then isTrue (Val.eq_of_eqb a b h) else isFalse fun e => h (e ▸ Val.eqb_self a)

/-- what is mutable -/
inductive Obj where
  | list (xs : List Val)
  | dict (kvs : List (Val × Val))
  | inst (c : String) (fs : List (String × Val))
  | set (xs : List Val)
  deriving DecidableEq, Repr, Inhabited

abbrev Heap := List Obj
abbrev Env := List (Option Val)

inductive Res (α : Type) where
  | ok (a : α) (h : Heap)
  | exn (c : String) (v : Val) (h : Heap)
  | bad
  deriving Repr

abbrev M (α : Type) := Heap → Res α

@[inline] def M.bind {α β : Type} (m : M α) (k : α → M β) : M β := fun h => match m h with
  | .ok a h' => k a h'
  | .exn c v h' => .exn c v h'
  | .bad => .bad
def M.pure {α : Type} (a : α) : M α := fun h => .ok a h
def M.bad {α : Type} : M α := fun _ => .bad
def M.opt {α : Type} : Option α → M α
  | some a => fun h => .ok a h
  | .none => fun _ => .bad
instance : Monad M where
  pure := M.pure
  bind := M.bind

/-- the line that no text, list or tuple may pass -/
def line : Nat := 16777216

inductive BOp where | add | sub | mul | fdiv | mod | pow | shl | shr | band | bor
  deriving DecidableEq, Repr, Inhabited
inductive COp where | eq | ne | lt | le | gt | ge | is | isnot | isin | notin
  deriving DecidableEq, Repr, Inhabited
inductive Kind where | kint | kbool | kstr | ktup | klst | kdict | kset
  deriving DecidableEq, Repr, Inhabited
inductive Bi where
  | len | sum | min | max | abs | all | any | tuple | list | int | str | repr | isi (ks : List Kind) | sorted | set | dict | sortr | sortdr | sumv
  deriving DecidableEq, Repr, Inhabited
inductive Bm where
  | append | extend | pop | get | items | index | join | split | partition | setdefault | add | keys | values
  deriving DecidableEq, Repr, Inhabited

inductive Tg where
  | loc (i : Nat)
  | tup (ts : List Tg)
  deriving Repr, Inhabited

mutual
inductive Ex where
  | lit (v : Val)
  | loc (i : Nat)
  | con (x : String)
  | bin (op : BOp) (a b : Ex)
  | neg (a : Ex)
  | not (a : Ex)
  | cmp (op : COp) (a b : Ex)
  | chain (op op' : COp) (a b c : Ex)
  | and (a b : Ex)
  | or (a b : Ex)
  | ite (c a b : Ex)
  | tup (es : List Ex)
  | lst (es : List Ex)
  /-- key, value, key, value .. -/
  | dic (es : List Ex)
  | thaw (e : Ex)
  | idx (a i : Ex)
  | slice (a lo hi : Ex)
  | rev (a : Ex)
  | fld (a : Ex) (f : String)
  /-- the field of a caught exception -/
  | efld (i : Nat) (f : String)
  /-- is a caught exception of a class -/
  | eis (i : Nat) (c : String)
  | call (f : String) (es : List Ex)
  | callp (f : String) (es : List Ex) (pick : List (Sum Nat Val))
  | act (e : Ex) (es : List Ex)
  | mk (c : String) (es : List Ex)
  | meth (e : Ex) (m : String) (es : List Ex)
  | bi (b : Bi) (es : List Ex)
  | sortk (e : Ex) (k : String) (js : List Nat)
  | bm (e : Ex) (m : Bm) (es : List Ex)
  | bit (b : Bi) (it : It)
  | lc (elt : Ex) (t : Tg) (it : It) (ifs : List Ex)
  | lc2 (elt : Ex) (t : Tg) (it : It) (ifs : List Ex) (t' : Tg) (it' : It) (ifs' : List Ex)
  | lam (k : String) (caps : List Nat)
  deriving Repr, Inhabited
/-- what is walked -/
inductive It where
  | of (e : Ex)
  | range (a b : Ex)
  | enum (e : Ex)
  | zip (a b : Ex)
  | revd (e : Ex)
  deriving Repr, Inhabited
end

/-- what a statement stores to -/
inductive Ta where
  | loc (i : Nat)
  | sub (o i : Ex)
  | att (o : Ex) (f : String)
  deriving Repr, Inhabited
mutual
inductive St where
  | exp (e : Ex)
  | asg (t : Tg) (e : Ex)
  | sub (o i e : Ex)
  | att (o : Ex) (f : String) (e : Ex)
  /-- a tuple's things, one behind the other -/
  | asgs (ts : List Ta) (e : Ex)
  | cond (c : Ex) (a b : List St)
  | loop (t : Tg) (it : It) (body : List St)
  | whl (c : Ex) (body : List St)
  | ret (e : Ex)
  | raise (c : String) (e : Ex)
  | try_ (body : List St) (hs : Hs)
  | brk
  | cont
  | pass
  deriving Repr, Inhabited
/-- except clauses: their classes, the name's slot, the suite -/
inductive Hs where
  | nil
  | cons (cs : List String) (n : Option Nat) (body : List St) (rest : Hs)
  deriving Repr, Inhabited
end

structure Fn where
  params : Nat
  slots : Nat
  shut : Bool
  /-- takes lambdas -/
  clo : Bool := false
  body : List St
  deriving Repr, Inhabited
structure Lam where
  /-- parameters; the defaults of the last ones; then the captured names; then others -/
  params : Nat
  dflt : List Val
  caps : Nat
  slots : Nat
  body : Ex
  deriving Repr, Inhabited
structure Cls where
  /-- an exception: its classes' names from its own on, its field; an instance's class: its methods -/
  mro : List String
  field : String
  meths : List (String × String)
  /-- an instance's attributes -/
  flds : List String := []
  deriving Repr, Inhabited
structure Prog where
  fns : List (String × Fn)
  lams : List (String × Lam)
  cls : List (String × Cls)
  cons : List (String × Val)
  deriving Repr, Inhabited
end Mini

/-! MiniB: the evaluator -/
namespace Mini

/-! ### values -/
mutual
/-- f tells what a reference is read as -/
def rdA (f : Nat → Option Val) : Val → Option Val
  | .ref n => f n
  | .tup xs => (rdAs f xs).map .tup
  | .lst xs => (rdAs f xs).map .lst
  | .scr xs => (rdAs f xs).map .scr
  | .clo _ _ => none
  | v => some v
def rdAs (f : Nat → Option Val) : List Val → Option (List Val)
  | [] => some []
  | v :: r => match rdA f v, rdAs f r with
    | some a, some b => some (a :: b)
    | _, _ => none
end
def rdN (n0 : Nat) (h : Heap) : Nat → Nat → Option Val
  | 0, _ => none
  | k + 1, n => if n < n0 then some (.ref n) else match h[n]? with
    | some (.list xs) => (rdAs (rdN n0 h k) xs).map .lst
    | _ => none
/-- a value with the lists at n0 and beyond frozen -/
def rd (n0 : Nat) (h : Heap) (v : Val) : Option Val := rdA (rdN n0 h 6) v

/-- data of depth at most k -/
def plain : Nat → Val → Bool
  | _, .none => true
  | _, .bool _ => true
  | _, .int _ => true
  | _, .str s => s.all (· < 1114112)
  | k + 1, .tup xs => xs.all (plain k)
  | k + 1, .lst xs => xs.all (plain k)
  | _, _ => false

/-- data, texts of data within -/
def plainR : Nat → Val → Bool
  | _, .none => true
  | _, .bool _ => true
  | _, .int _ => true
  | _, .str s => s.all (· < 1114112)
  | _, .rep v => plain 60 v || decide (v = .emp)
  | k + 1, .tup xs => xs.all (plainR k)
  | k + 1, .lst xs => xs.all (plainR k)
  | _, _ => false
mutual
/-- Python's == of data -/
def eqv : Val → Val → Bool
  | .none, .none => true
  | .bool a, .bool b => a == b
  | .bool a, .int j => (if a then 1 else 0) == j
  | .int i, .bool b => i == (if b then 1 else 0)
  | .int i, .int j => i == j
  | .str x, .str y => x == y
  | .lst xs, .lst ys => eqvs xs ys
  | .tup xs, .tup ys => eqvs xs ys
  | _, _ => false
def eqvs : List Val → List Val → Bool
  | [], [] => true
  | x :: xs, y :: ys => eqv x y && eqvs xs ys
  | _, _ => false
end

def truthy (h : Heap) : Val → Option Bool
  | .none => some false
  | .bool b => some b
  | .int i => some (i != 0)
  | .str s => if s.length ≤ line then some (!s.isEmpty) else none
  | .tup xs => some (!xs.isEmpty)
  | .lst xs => some (!xs.isEmpty)
  | .scr xs => some (!xs.isEmpty)
  | .emp => some false
  | .ref n => match h[n]? with
    | some (.list xs) => some (!xs.isEmpty)
    | some (.dict kvs) => some (!kvs.isEmpty)
    | _ => none
  | _ => none

/-- the items of a list or a tuple -/
def seqOf (h : Heap) : Val → Option (List Val)
  | .tup xs => some xs
  | .lst xs => some xs
  | .scr xs => some xs
  | .ref n => match h[n]? with
    | some (.list xs) => some xs
    | _ => none
  | _ => none
def lstOf (h : Heap) : Val → Option (List Val)
  | .lst xs => some xs
  | .ref n => match h[n]? with
    | some (.list xs) => some xs
    | _ => none
  | _ => none
def isTup : Val → Bool
  | .tup _ => true
  | _ => false
def intsOf : List Val → Option (List Int)
  | [] => some []
  | .int i :: r => (intsOf r).map (i :: ·)
  | _ => none
def boolsOf : List Val → Option (List Bool)
  | [] => some []
  | .bool b :: r => (boolsOf r).map (b :: ·)
  | _ => none

def kindIs (h : Heap) : Val → Option Kind
  | .bool _ => some .kbool
  | .int _ => some .kint
  | .str _ => some .kstr
  | .rep _ => some .kstr
  | .tup _ => some .ktup
  | .lst _ => some .klst
  | .scr _ => some .klst
  | .emp => some .kdict
  | .ref n => match h[n]? with
    | some (.list _) => some .klst
    | some (.dict _) => some .kdict
    | some (.set _) => some .kset
    | _ => none
  | _ => none
def isKind (h : Heap) (v : Val) (k : Kind) : Option Bool := match v with
  | .none => some false
  | .clo _ _ => none
  | .exc _ _ => none
  | v => match kindIs h v with
    | some .kbool => some (k == .kbool || k == .kint)
    | some j => some (j == k)
    | none => none

/-- an index as Python takes it -/
def ixOf (n : Nat) (i : Int) : Option Nat := if 0 ≤ i then (if i < n then some i.toNat else none) else if -(n : Int) ≤ i then some (i + n).toNat else none
/-- a part of a slice -/
def partOf : Val → Option (Option Int)
  | .gap => some none
  | .int i => some (some i)
  | _ => none
def endOf (n d : Nat) : Option Int → Nat
  | none => d
  | some i => if i < 0 then (i + (n : Int)).toNat else min i.toNat n
def cut {α : Type} (xs : List α) (lo hi : Option Int) : List α := (xs.drop (endOf xs.length 0 lo)).take (endOf xs.length xs.length hi - endOf xs.length 0 lo)

/-- a size in bits, from above -/
def small (k : Nat) (i : Int) : Bool := decide (i.natAbs < 2 ^ k)

def lexLt : List Int → List Int → Bool
  | [], [] => false
  | [], _ :: _ => true
  | _ :: _, [] => false
  | a :: r, b :: s => if a = b then lexLt r s else decide (a < b)

def opAdd (h : Heap) (a b : Val) : Option Val := match a, b with
  | .int i, .int j => some (.int (i + j))
  | .str x, .str y => if x.length + y.length ≤ line then some (.str (x ++ y)) else none
  | .tup x, .tup y => if x.length + y.length ≤ line then some (.tup (x ++ y)) else none
  | a, b => match lstOf h a, lstOf h b with
    | some x, some y => if x.length + y.length ≤ line then some (.lst (x ++ y)) else none
    | _, _ => none
def opMul (h : Heap) (a b : Val) : Option Val := match a, b with
  | .int i, .int j => if small 4000 i && small 4000 j then some (.int (i * j)) else none
  | .tup x, .int j => if !x.isEmpty && 2 ≤ j && j ≤ 1000 && x.length ≤ 1000 then some (.tup (List.replicate j.toNat x).flatten) else none
  | a, .int j => match lstOf h a with
    | some x => if x.length * j.toNat ≤ line && small 62 j then some (.lst (List.replicate j.toNat x).flatten) else none
    | none => none
  | _, _ => none
def op2 (c : Int → Int → Bool) (f : Int → Int → Int) (a b : Val) : Option Val := match a, b with
  | .int i, .int j => if c i j then some (.int (f i j)) else none
  | _, _ => none
def opBin (op : BOp) (h : Heap) (a b : Val) : Option Val := match op with
  | .add => opAdd h a b
  | .sub => op2 (fun _ _ => true) (fun i j => i - j) a b
  | .mul => opMul h a b
  | .fdiv => op2 (fun _ j => 0 < j && small 4000 j) (fun i j => i / j) a b
  | .mod => op2 (fun _ j => 0 < j) (fun i j => i % j) a b
  | .pow => op2 (fun i j => 0 ≤ j && j ≤ 1000 && small 64 i) (fun i j => i ^ j.toNat) a b
  | .shl => op2 (fun i j => 0 ≤ j && j ≤ 1000 && small 64 i) (fun i j => i * 2 ^ j.toNat) a b
  | .shr => op2 (fun _ j => 0 ≤ j) (fun i j => i / 2 ^ j.toNat) a b
  | .band => none
  | .bor => none

/-- may be told apart by == -/
def depthMost : Nat := 60
def opEq (h : Heap) (a b : Val) : Option Bool := match a, b with
  | .rep x, .rep y => if x = y then some true else none
  | a, b => match rd 0 h a, rd 0 h b with
    | some x, some y => if plain depthMost x && plain depthMost y then some (eqv x y) else if decide (x = y) && plainR depthMost x then some true else none
    | _, _ => none
def isClo : Val → Bool
  | .clo _ _ => true
  | _ => false
def flatKey : Val → Bool
  | .int _ => true
  | .str _ => true
  | _ => false
def keyOk (v : Val) : Bool := flatKey v
def dictOf (h : Heap) : Val → Option (List (Val × Val))
  | .ref n => match h[n]? with
    | some (.dict kvs) => some kvs
    | _ => none
  | _ => none
/-- a list's item, a dict's key -/
def isIn (h : Heap) (a b : Val) : Option Bool := match dictOf h b with
  | some kvs => if keyOk a then some (kvs.lookup a).isSome else none
  | none => match rd 0 h a, rd 0 h b with
    | some x, some (.lst ys) => if plain depthMost x && plain depthMost (.lst ys) then some (ys.any fun z => eqv z x) else none
    | _, _ => none
def opInt (f : Int → Int → Bool) (a b : Val) : Option Bool := match a, b with
  | .int i, .int j => some (f i j)
  | _, _ => none
def opLt (a b : Val) : Option Bool := match a, b with
  | .int i, .int j => some (decide (i < j))
  | .tup x, .tup y => match intsOf x, intsOf y with
    | some x, some y => some (lexLt x y)
    | _, _ => none
  | _, _ => none
def opIs (a b : Val) : Option Bool := if b = .none then some (decide (a = .none)) else none
def opCmp (op : COp) (h : Heap) (a b : Val) : Option Bool := match op with
  | .eq => opEq h a b
  | .ne => (opEq h a b).map not
  | .lt => opInt (fun i j => decide (i < j)) a b
  | .le => opInt (fun i j => decide (i ≤ j)) a b
  | .gt => opInt (fun i j => decide (j < i)) a b
  | .ge => opInt (fun i j => decide (j ≤ i)) a b
  | .is => opIs a b
  | .isnot => (opIs a b).map not
  | .isin => isIn h a b
  | .notin => (isIn h a b).map not

/-- may be a key: a number or a text, or a tuple of such -/
def getIt (h : Heap) (a i : Val) : Option Val := match a, i with
  | .tup xs, .int i => (ixOf xs.length i).bind fun k => xs[k]?
  | .lst xs, .int i => (ixOf xs.length i).bind fun k => xs[k]?
  | .scr xs, .int i => (ixOf xs.length i).bind fun k => xs[k]?
  | .str s, .int i => if s.length ≤ line then (ixOf s.length i).bind fun k => (s[k]?).map fun c => .str [c] else none
  | .ref n, i => match h[n]? with
    | some (.list xs) => match i with
      | .int i => (ixOf xs.length i).bind fun k => xs[k]?
      | _ => none
    | some (.dict kvs) => if flatKey i then kvs.lookup i else none
    | _ => none
  | _, _ => none
def sliceIt (h : Heap) (a : Val) (lo hi : Option Int) : Option Val := match a with
  | .tup xs => some (.tup (cut xs lo hi))
  | .str xs => if xs.length ≤ line then some (.str (cut xs lo hi)) else none
  | .scr xs => some (.lst (cut xs lo hi))
  | a => (lstOf h a).map fun xs => .lst (cut xs lo hi)
def revIt (h : Heap) (a : Val) : Option Val := match a with
  | .tup xs => some (.tup xs.reverse)
  | a => (lstOf h a).map fun xs => .lst xs.reverse

mutual
/-- no lambda may be kept -/
def still : Val → Bool
  | .clo _ _ => false
  | .exc _ _ => false
  | .tup xs => stills xs
  | .lst xs => stills xs
  | .scr xs => stills xs
  | _ => true
def stills : List Val → Bool
  | [] => true
  | v :: r => still v && stills r
end
def put (k v : Val) (kvs : List (Val × Val)) : List (Val × Val) := if kvs.any (fun p => p.1 == k) then kvs.map (fun p => if p.1 = k then (p.1, v) else p) else kvs ++ [(k, v)]
def setIt (h : Heap) (a i v : Val) : Option Heap := match a with
  | .ref n => match h[n]? with
    | some (.list xs) => match i with
      | .int i => (ixOf xs.length i).map fun k => h.set n (.list (xs.set k v))
      | _ => none
    | some (.dict kvs) => if keyOk i && decide (kvs.length < line) then some (h.set n (.dict (put i v kvs))) else none
    | _ => none
  | _ => none

def minI (a : Int) : List Int → Int
  | [] => a
  | b :: r => minI (if b < a then b else a) r
def maxI (a : Int) : List Int → Int
  | [] => a
  | b :: r => maxI (if b > a then b else a) r

def intTxt (i : Int) : Txt := (toString i).toList.map Char.toNat

/-- how long a value's repr is, at most -/
def wt : Val → Nat
  | .none => 4
  | .bool _ => 5
  | .int i => i.natAbs.log2 + 2
  | .str s => 10 * s.length + 2
  | .tup xs => wts xs + 3
  | .lst xs => wts xs + 3
  | .rep v => 10 * wt v + 2
  | _ => 2
where wts : List Val → Nat
  | [] => 0
  | v :: r => wt v + 2 + wts r
/-- numbers that repr writes -/
def showInts : Val → Bool
  | .int i => small 1900 i
  | .tup xs => go xs
  | .lst xs => go xs
  | _ => true
where go : List Val → Bool
  | [] => true
  | v :: r => showInts v && go r
/-! built-in functions -/
def biLen (h : Heap) : List Val → Option Val
  | [.str s] => if s.length ≤ line then some (.int s.length) else none
  | [v] => match v with
    | .ref n => match h[n]? with
      | some (.list xs) => some (.int xs.length)
      | some (.dict kvs) => some (.int kvs.length)
      | _ => none
    | v => (seqOf h v).map fun xs => .int xs.length
  | _ => none
def biInts (f : List Int → Option Val) (h : Heap) : List Val → Option Val
  | [v] => ((lstOf h v).bind intsOf).bind f
  | _ => none
def biBools (f : List Bool → Bool) (h : Heap) : List Val → Option Val
  | [v] => ((lstOf h v).bind boolsOf).map fun bs => .bool (f bs)
  | _ => none
def minL : List Int → Option Val
  | [] => none
  | i :: r => some (.int (minI i r))
def maxL : List Int → Option Val
  | [] => none
  | i :: r => some (.int (maxI i r))
def biMin (h : Heap) : List Val → Option Val
  | [.int i, .int j] => some (.int (if j < i then j else i))
  | vs => biInts minL h vs
def biMax (h : Heap) : List Val → Option Val
  | [.int i, .int j] => some (.int (if j > i then j else i))
  | vs => biInts maxL h vs
def biAbs : List Val → Option Val
  | [.int i] => some (.int (if i < 0 then -i else i))
  | _ => none
def biTuple (h : Heap) : List Val → Option Val
  | [v] => (seqOf h v).map .tup
  | _ => none
def biList (h : Heap) : List Val → Option Val
  | [v] => (seqOf h v).map .lst
  | _ => none
def biInt : List Val → Option Val
  | [.int i] => some (.int i)
  | [.bool b] => some (.int (if b then 1 else 0))
  | _ => none
def biStr : List Val → Option Val
  | [.int i] => if small 1900 i then some (.str (intTxt i)) else none
  | [.str s] => some (.str s)
  | [.bool b] => some (.str (if b then [84, 114, 117, 101] else [70, 97, 108, 115, 101]))
  | [.none] => some (.str [78, 111, 110, 101])
  | _ => none
def biRepr (h : Heap) : List Val → Option Val
  | [.emp] => some (.rep .emp)
  | [.none] => some (.str [78, 111, 110, 101])
  | [.bool b] => some (.str (if b then [84, 114, 117, 101] else [70, 97, 108, 115, 101]))
  | [.int i] => if small 1900 i then some (.str (intTxt i)) else none
  | [v] => (rd 0 h v).bind fun v => if plainR depthMost v && showInts v && decide (wt v ≤ line) then some (.rep v) else none
  | _ => none
def biIs (ks : List Kind) (h : Heap) : List Val → Option Val
  | [v] => match ks with
    | [k] => (isKind h v k).map .bool
    | _ => none
  | _ => none
def fstsOf : List Val → Option (List Int)
  | [] => some []
  | .tup [.int k, _] :: r => (fstsOf r).map (k :: ·)
  | _ => none
/-- each once, where it first stands -/
def firsts (ks : List Int) : List Int := ks.foldl (fun acc k => if acc.contains k then acc else acc ++ [k]) []
def downI (ns : List Int) : List Int := ns.mergeSort fun a b => decide (b ≤ a)
def pairsOf : List Val → Option (List (Int × Int))
  | [] => some []
  | .tup [.int a, .int b] :: r => (pairsOf r).map ((a, b) :: ·)
  | _ => none
def downP (ps : List (Int × Int)) : List (Int × Int) := ps.mergeSort fun p q => decide (q.1 < p.1 ∨ (q.1 = p.1 ∧ q.2 ≤ p.2))
def upI (ns : List Int) : List Int := ns.mergeSort fun a b => decide (a ≤ b)
def pairV (p : Int × Int) : Val := .tup [.int p.1, .int p.2]
/-- falling -/
def biSortR (h : Heap) : List Val → Option Val
  | [v] => match (lstOf h v).bind intsOf with
    | some ns => some (.lst ((downI ns).map .int))
    | none => ((seqOf h v).bind pairsOf).map fun ps => .lst ((downP ps).map pairV)
  | _ => none
/-- rising: whole numbers, a dict's keys -/
def biSorted (h : Heap) : List Val → Option Val
  | [v] => match dictOf h v with
    | some kvs => (intsOf (kvs.map (·.1))).map fun ks => .lst ((upI ks).map .int)
    | none => ((lstOf h v).bind intsOf).map fun ns => .lst ((upI ns).map .int)
  | _ => none
/-- the keys of a dict of pairs, falling -/
def biSortDR (h : Heap) : List Val → Option Val
  | [v] => (lstOf h v).bind fun xs => (fstsOf xs).map fun ks => .lst ((downI (firsts ks)).map .int)
  | _ => none
def excIs (P : Prog) (c : String) (cs : List String) : Bool := match P.cls.lookup c with
  | some C => cs.any fun k => C.mro.any (· == k)
  | none => false
/-- the sum of a dict's values -/
def biSumV (h : Heap) : List Val → Option Val
  | [v] => (dictOf h v).bind fun kvs => (intsOf (kvs.map (·.2))).map fun ns => .int ns.sum
  | _ => none
/-- a built-in function -/
def biV (b : Bi) (h : Heap) (vs : List Val) : Option Val := match b with
  | .len => biLen h vs
  | .sum => biInts (fun ns => some (.int ns.sum)) h vs
  | .min => biMin h vs
  | .max => biMax h vs
  | .abs => biAbs vs
  | .all => biBools (fun bs => bs.all id) h vs
  | .any => biBools (fun bs => bs.any id) h vs
  | .tuple => biTuple h vs
  | .list => biList h vs
  | .int => biInt vs
  | .str => biStr vs
  | .repr => biRepr h vs
  | .isi ks => biIs ks h vs
  | .sortr => biSortR h vs
  | .sorted => biSorted h vs
  | .sortdr => biSortDR h vs
  | .sumv => biSumV h vs
  | _ => none

/-- has such a method -/
def bmTy (m : Bm) (h : Heap) (o : Val) : Bool := match o with
  | .ref n => match h[n]? with
    | some (.list _) => match m with
      | .append => true
      | .extend => true
      | .pop => true
      | _ => false
    | some (.dict _) => match m with
      | .get => true
      | .items => true
      | .values => true
      | .keys => true
      | .setdefault => true
      | _ => false
    | _ => false
  | .str _ => match m with
    | .join => true
    | .split => true
    | .partition => true
    | _ => false
  | _ => false
def bmAppend (h : Heap) (o : Val) (vs : List Val) : Option (Val × Heap) := match o, vs with
  | .ref n, [v] => match h[n]? with
    | some (.list xs) => if decide (xs.length < line) && still v then some (.none, h.set n (.list (xs ++ [v]))) else none
    | _ => none
  | _, _ => none
def bmExtend (h : Heap) (o : Val) (vs : List Val) : Option (Val × Heap) := match o, vs with
  | .ref n, [v] => match h[n]?, lstOf h v with
    | some (.list xs), some ys => if decide (xs.length + ys.length ≤ line) && decide (v ≠ .ref n) && stills ys then some (.none, h.set n (.list (xs ++ ys))) else none
    | _, _ => none
  | _, _ => none
def bmPop (h : Heap) (o : Val) (vs : List Val) : Option (Val × Heap) := match o, vs with
  | .ref n, [] => match h[n]? with
    | some (.list xs) => xs.getLast?.map fun x => (x, h.set n (.list xs.dropLast))
    | _ => none
  | _, _ => none
def bmGet (h : Heap) (o : Val) (vs : List Val) : Option (Val × Heap) := match o, vs with
  | .ref n, [k] => match h[n]? with
    | some (.dict kvs) => if keyOk k then some ((kvs.lookup k).getD .none, h) else none
    | _ => none
  | .ref n, [k, d] => match h[n]? with
    | some (.dict kvs) => if keyOk k then some ((kvs.lookup k).getD d, h) else none
    | _ => none
  | _, _ => none
/-- a method of a built-in type: the value, the heap behind -/
def bmV (m : Bm) (h : Heap) (o : Val) (vs : List Val) : Option (Val × Heap) := match m with
  | .append => bmAppend h o vs
  | .extend => bmExtend h o vs
  | .pop => bmPop h o vs
  | .get => bmGet h o vs
  | _ => none

/-! ### targets -/
mutual
def asgT (h : Heap) : Tg → Val → Env → Option Env
  | .loc i, v, env => if i < env.length then some (env.set i (some v)) else none
  | .tup ts, v, env => match v with
    | .tup xs => asgTs h ts xs env
    | .lst xs => asgTs h ts xs env
    | .ref n => match h[n]? with
      | some (.list xs) => asgTs h ts xs env
      | _ => none
    | _ => none
def asgTs (h : Heap) : List Tg → List Val → Env → Option Env
  | [], [], env => some env
  | t :: ts, v :: vs, env => (asgT h t v env).bind fun env' => asgTs h ts vs env'
  | _, _, _ => none
end

/-! ### expressions -/
structure Cx where
  prog : Prog
  call : String → List Val → M Val
  act : Val → List Val → M Val
  W : Nat

def wipe (env : Env) : Tg → Env
  | .loc i => env.set i none
  | .tup ts => go env ts
where go (env : Env) : List Tg → Env
  | [] => env
  | t :: ts => go (wipe env t) ts

/-- the loop of a comprehension -/
def lcGo (step : Val → Heap → Res (List Val)) : List Val → M (List Val)
  | [], h => .ok [] h
  | v :: vs, h => match step v h with
    | .ok a h' => match lcGo step vs h' with
      | .ok b h'' => .ok (a ++ b) h''
      | .exn c v h => .exn c v h
      | .bad => .bad
    | .exn _ _ _ => .bad
    | .bad => .bad

def pickOf (vs : List Val) : List (Sum Nat Val) → Option (List Val)
  | [] => some []
  | .inl i :: r => match vs[i]?, pickOf vs r with
    | some v, some l => some (v :: l)
    | _, _ => none
  | .inr v :: r => (pickOf vs r).map (v :: ·)

/-- stable insertion: the later of two alike stands behind -/
def insK (le : Val × Val → Val × Val → Bool) (x : Val × Val) : List (Val × Val) → List (Val × Val)
  | [] => [x]
  | y :: r => if le y x then y :: insK le x r else x :: y :: r

def ownF (P : Prog) (c f : String) : Bool := match P.cls.lookup c with
  | some K => K.flds.contains f
  | none => false
def fldOf (P : Prog) (h : Heap) (o : Val) (f : String) : Option Val := match o with
  | .ref n => match h[n]? with
    | some (.inst c fs) => if ownF P c f then fs.lookup f else none
    | _ => none
  | _ => none
def putF (f : String) (v : Val) : List (String × Val) → List (String × Val)
  | [] => [(f, v)]
  | (g, w) :: r => if g = f then (g, v) :: r else (g, w) :: putF f v r

/-- the def that an instance's method is -/
def methOf (P : Prog) (h : Heap) (o : Val) (m : String) : Option String := match o with
  | .ref n => match h[n]? with
    | some (.inst c fs) => match P.cls.lookup c, fs.lookup m with
      | some K, none => K.meths.lookup m
      | _, _ => none
    | _ => none
  | _ => none
def attV (P : Prog) (h : Heap) (o : Val) (f : String) (v : Val) : Option Heap := match o with
  | .ref n => match h[n]? with
    | some (.inst c fs) => if ownF P c f && still v && decide (fs.length < 900) then some (h.set n (.inst c (putF f v fs))) else none
    | _ => none
  | _ => none
def rangeL (a b : Int) : List Val := (List.range (b - a).toNat).map fun (k : Nat) => .int (a + (k : Int))
def enumL (k : Nat) : List Val → List Val
  | [] => []
  | v :: r => .tup [.int k, v] :: enumL (k + 1) r
def zipL : List Val → List Val → List Val
  | a :: r, b :: s => .tup [a, b] :: zipL r s
  | _, _ => []

def rangeOf (x y : Val) : M (List Val × (Heap → Bool)) := match x, y with
  | .int i, .int j => if small 61 i && small 61 j then M.pure (rangeL i j, fun _ => true) else M.bad
  | _, _ => M.bad
def tst (m : M Val) : M Bool := m.bind fun v h => M.opt (truthy h v) h

/-- a turn of a comprehension: the target is stored; then what is made of it -/
def lcTurn (t : Tg) (env : Env) (k : Env → M (List Val)) (v : Val) (h : Heap) : Res (List Val) := match asgT h t v env with
  | none => .bad
  | some env' => k env' h
def guarded (chk : Heap → Bool) (m : M (List Val)) : M (List Val) := m.bind fun xs h => if chk h && stills xs then .ok xs h else .bad
def asList (m : M (List Val)) : M Val := m.bind fun xs h => if xs.length ≤ line then .ok (.lst xs) h else .bad
/-- the items with their keys -/
def keysOf (f : Val → Heap → Res Val) (h : Heap) : List Val → Option (List (Int × Val))
  | [] => some []
  | v :: r => match f v h with
    | .ok (.int k) h' => if h' = h then (keysOf f h r).map ((k, v) :: ·) else none
    | _ => none
/-- the pairs of key and value, sorted by the key, stable -/
def sortP (ps : List (Int × Val)) : List Val := (ps.mergeSort fun a b => decide (a.1 ≤ b.1)).map (·.2)

/-- a display's keys and values: unlike keys -/
def pairUp : List Val → Option (List (Val × Val))
  | [] => some []
  | k :: v :: r => (pairUp r).bind fun kvs => if keyOk k && still v && kvs.all (fun p => p.1 != k) then some ((k, v) :: kvs) else none
  | _ => none

section
variable (C : Cx)
mutual
def evalE : Ex → Env → M Val
  | .lit v, _ => M.pure v
  | .loc i, env => M.opt (env[i]?.join)
  | .con x, _ => M.opt (C.prog.cons.lookup x)
  | .bin op a b, env => (evalE a env).bind fun x => (evalE b env).bind fun y h => M.opt (opBin op h x y) h
  | .neg a, env => (evalE a env).bind fun x => match x with
    | .int i => M.pure (.int (-i))
    | _ => M.bad
  | .not a, env => (tst (evalE a env)).bind fun b => M.pure (.bool (!b))
  | .cmp op a b, env => (evalE a env).bind fun x => (evalE b env).bind fun y h => M.opt ((opCmp op h x y).map .bool) h
  | .chain op op' a b c, env => (evalE a env).bind fun x => (evalE b env).bind fun y => M.bind (fun h => M.opt (opCmp op h x y) h) fun k => match k with
    | true => (evalE c env).bind fun z h => M.opt ((opCmp op' h y z).map .bool) h
    | false => M.pure (.bool false)
  | .and a b, env => (evalE a env).bind fun x => M.bind (fun h => M.opt (truthy h x) h) fun k => match k with
    | true => evalE b env
    | false => M.pure x
  | .or a b, env => (evalE a env).bind fun x => M.bind (fun h => M.opt (truthy h x) h) fun k => match k with
    | true => M.pure x
    | false => evalE b env
  | .ite c a b, env => (tst (evalE c env)).bind fun k => match k with
    | true => evalE a env
    | false => evalE b env
  | .tup es, env => (evalEs es env).bind fun vs => M.pure (.tup vs)
  | .lst es, env => (evalEs es env).bind fun vs => M.pure (.lst vs)
  | .dic es, env => (evalEs es env).bind fun vs h => match pairUp vs with
    | some kvs => if kvs.length ≤ 15 then .ok (.ref h.length) (h ++ [.dict kvs]) else .bad
    | none => .bad
  | .thaw e, env => (evalE e env).bind fun v => match v with
    | .lst xs => fun h => if stills xs then .ok (.ref h.length) (h ++ [.list xs]) else .bad
    | _ => M.bad
  | .idx a i, env => (evalE a env).bind fun x => (evalE i env).bind fun y h => M.opt (getIt h x y) h
  | .slice a lo hi, env => (evalE a env).bind fun x => M.bind ((evalE lo env).bind fun y => M.opt (partOf y)) fun y => M.bind ((evalE hi env).bind fun z => M.opt (partOf z)) fun z h => M.opt (sliceIt h x y z) h
  | .rev a, env => (evalE a env).bind fun x h => M.opt (revIt h x) h
  | .efld i f, env => M.opt (match env[i]?.join with
    | some (.exc c v) => if (C.prog.cls.lookup c).elim "" (·.field) = f then some v else none
    | _ => none)
  | .eis i e, env => M.opt (match env[i]?.join with
    | some (.exc c _) => some (.bool (excIs C.prog c [e]))
    | _ => none)
  | .fld a f, env => (evalE a env).bind fun x h => M.opt (fldOf C.prog h x f) h
  | .call f es, env => (evalEs es env).bind fun vs => C.call f vs
  | .callp f es pick, env => (evalEs es env).bind fun vs => (M.opt (pickOf vs pick)).bind fun ws => C.call f ws
  | .act e es, env => (evalE e env).bind fun f => match isClo f with
    | true => (evalEs es env).bind fun vs => C.act f vs
    | false => M.bad
  | .mk c es, env => (evalEs es env).bind fun vs h => M.bind (C.call (c ++ ".__init__") (.ref h.length :: vs)) (fun r => match r with
    | .none => M.pure (.ref h.length)
    | _ => M.bad) (h ++ [.inst c []])
  | .meth e m es, env => (evalE e env).bind fun o => M.bind (fun h => M.opt (methOf C.prog h o m) h) fun f => (evalEs es env).bind fun vs => C.call f (o :: vs)
  | .bi b es, env => (evalEs es env).bind fun vs h => M.opt (biV b h vs) h
  | .bit b it, env => (evalI it env).bind fun vs h => M.opt (biV b h [.lst vs.1]) h
  | .sortk e k js, env => (evalE e env).bind fun x => M.bind (fun h => M.opt (lstOf h x) h) fun xs => M.bind (M.opt (js.mapM fun i => env[i]?.join)) fun ws h =>
      M.opt ((keysOf (fun v => C.act (.clo k ws) [v]) h xs).map fun ps => .lst (sortP ps)) h
  | .bm e m es, env => (evalE e env).bind fun o h => if bmTy m h o then ((evalEs es env).bind fun vs h => match bmV m h o vs with
    | some (v, h') => .ok v h'
    | none => .bad) h else .bad
  | .lc elt t it ifs, env => (evalI it env).bind fun vs => asList (lcGo (lcTurn t (wipe env t) fun env' => guarded vs.2 ((evalTs ifs env').bind fun k => match k with
      | true => (evalE elt env').bind fun x => M.pure [x]
      | false => M.pure [])) vs.1)
  | .lc2 elt t it ifs t' it' ifs', env => (evalI it env).bind fun vs => asList (lcGo (lcTurn t (wipe (wipe env t) t') fun env' => guarded vs.2 ((evalTs ifs env').bind fun k => match k with
      | true => (evalI it' env').bind fun ws => lcGo (lcTurn t' env' fun env'' => guarded ws.2 ((evalTs ifs' env'').bind fun k => match k with
        | true => (evalE elt env'').bind fun x => M.pure [x]
        | false => M.pure [])) ws.1
      | false => M.pure [])) vs.1)
  | .lam k caps, env => M.opt ((caps.mapM fun i => env[i]?.join).map fun vs => .clo k vs)
def evalEs : List Ex → Env → M (List Val)
  | [], _ => M.pure []
  | e :: es, env => (evalE e env).bind fun v => (evalEs es env).bind fun vs => M.pure (v :: vs)
/-- the tests of a comprehension -/
def evalTs : List Ex → Env → M Bool
  | [], _ => M.pure true
  | e :: es, env => (tst (evalE e env)).bind fun k => match k with
    | true => evalTs es env
    | false => M.pure false
/-- what is walked: the items, and whether the lists they come from stand -/
def evalI : It → Env → M (List Val × (Heap → Bool))
  | .range a b, env => (evalE a env).bind fun x => (evalE b env).bind fun y => rangeOf x y
  | .enum e, env => (evalE e env).bind fun x h => M.opt ((seqOf h x).map fun xs => (enumL 0 xs, fun h' => decide (seqOf h' x = some xs))) h
  | .zip a b, env => (evalE a env).bind fun x => (evalE b env).bind fun y h => M.opt (if isTup x == isTup y then (seqOf h x).bind fun xs => (seqOf h y).map fun ys => (zipL xs ys, fun h' => decide (seqOf h' x = some xs ∧ seqOf h' y = some ys)) else none) h
  | .revd e, env => (evalE e env).bind fun x h => M.opt ((seqOf h x).map fun xs => (xs.reverse, fun h' => decide (seqOf h' x = some xs))) h
  | .of e, env => (evalE e env).bind fun x h => match x with
    | .str s => .ok (s.map fun c => .str [c], fun _ => true) h
    | x => M.opt ((seqOf h x).map fun xs => (xs, fun h' => decide (seqOf h' x = some xs))) h
end

/-! ### statements -/
inductive Out where
  | next (env : Env) (h : Heap)
  | ret (v : Val) (h : Heap)
  | brk (env : Env) (h : Heap)
  | cont (env : Env) (h : Heap)
  | exn (c : String) (v : Val) (env : Env) (h : Heap)
  | bad
  deriving Repr
def Out.then (o : Out) (k : Env → Heap → Out) : Out := match o with
  | .next env h => k env h
  | o => o
/-- what an expression gives goes on; what it raises leaves env as it is -/
def onE {α : Type} (r : Res α) (env : Env) (k : α → Heap → Out) : Out := match r with
  | .ok a h => k a h
  | .exn c v h => .exn c v env h
  | .bad => .bad
def loopGo (chk : Heap → Bool) (step : Val → Env → Heap → Out) : List Val → Env → Heap → Out
  | [], env, h => .next env h
  | v :: vs, env, h => match step v env h with
    | .next env' h' => if chk h' then loopGo chk step vs env' h' else .bad
    | .cont env' h' => if chk h' then loopGo chk step vs env' h' else .bad
    | .brk env' h' => .next env' h'
    | o => o
def whileGo (test : Env → M Bool) (body : Env → Heap → Out) : Nat → Env → Heap → Out
  | 0, _, _ => .bad
  | n + 1, env, h => match test env h with
    | .ok true h' => match body env h' with
      | .next env' h' => whileGo test body n env' h'
      | .cont env' h' => whileGo test body n env' h'
      | .brk env' h' => .next env' h'
      | o => o
    | .ok false h' => .next env h'
    | .exn c v h' => .exn c v env h'
    | .bad => .bad

def store (t : Ta) (v : Val) (env : Env) : M Env := match t with
  | .loc i => M.opt (if i < env.length then some (env.set i (some v)) else none)
  | .sub o i => ((evalE C o env).bind fun x => (evalE C i env).bind fun y h => if still v then M.opt (setIt h x y v) h else .bad).bind fun h' _ => .ok env h'
  | .att o f => ((evalE C o env).bind fun x h => M.opt (attV C.prog h x f v) h).bind fun h' _ => .ok env h'
def stores : List Ta → List Val → Env → M Env
  | [], [], env => M.pure env
  | t :: ts, v :: vs, env => (store C t v env).bind fun env => stores ts vs env
  | _, _, _ => M.bad
mutual
def exec : St → Env → Heap → Out
  | .exp e, env, h => onE (evalE C e env h) env fun _ h => .next env h
  | .asg t e, env, h => onE (evalE C e env h) env fun v h => match asgT h t v env with
    | some env' => .next env' h
    | none => .bad
  | .sub o i e, env, h => onE (((evalE C e env).bind fun v => (evalE C o env).bind fun x => (evalE C i env).bind fun y h => if still v then M.opt (setIt h x y v) h else .bad) h) env fun h' _ => .next env h'
  | .att o f e, env, h => onE (((evalE C e env).bind fun v => (evalE C o env).bind fun x h => M.opt (attV C.prog h x f v) h) h) env fun h' _ => .next env h'
  | .asgs ts e, env, h => onE (evalE C e env h) env fun v h => match v with
    | .tup vs => match stores C ts vs env h with
      | .ok env' h' => .next env' h'
      | _ => .bad
    | _ => .bad
  | .cond c a b, env, h => onE (tst (evalE C c env) h) env fun k h => match k with
    | true => execs a env h
    | false => execs b env h
  | .loop t it body, env, h => onE (evalI C it env h) env fun vs h => loopGo vs.2 (fun v env h => match asgT h t v env with
      | some env' => execs body env' h
      | none => .bad) vs.1 env h
  | .whl c body, env, h => whileGo (fun env => tst (evalE C c env)) (fun env h => execs body env h) C.W env h
  | .ret e, env, h => onE (evalE C e env h) env fun v h => .ret v h
  | .raise c e, env, h => onE (evalE C e env h) env fun v h => .exn c v env h
  | .try_ body hs, env, h => match execs body env h with
    | .exn c v env' h' => handle hs c v env' h'
    | o => o
  | .brk, env, h => .brk env h
  | .cont, env, h => .cont env h
  | .pass, env, h => .next env h
def execs : List St → Env → Heap → Out
  | [], env, h => .next env h
  | s :: ss, env, h => (exec s env h).then fun env h => execs ss env h
def handle : Hs → String → Val → Env → Heap → Out
  | .nil, c, v, env, h => .exn c v env h
  | .cons cs n body rest, c, v, env, h => if excIs C.prog c cs then match n with
      | none => match execs body env h with
        | .exn _ _ _ _ => .bad
        | o => o
      | some i => match execs body (env.set i (some (.exc c v))) h with
        | .next env' h' => .next (env'.set i none) h'
        | .ret w h' => .ret w h'
        | _ => .bad
    else handle rest c v env h
end
end

/-! ### defs -/
/-- a def that leaves nothing: the heap as it was -/
def settle (h : Heap) : Res Val → Res Val
  | .ok v h' => if h'.take h.length = h then match rd h.length h' v with
      | some w => .ok w h
      | none => .bad
    else .bad
  | .exn c v h' => if h'.take h.length = h then match rd h.length h' v with
      | some w => .exn c w h
      | none => .bad
    else .bad
  | .bad => .bad
def Out.res : Out → Res Val
  | .next _ h => .ok .none h
  | .ret v h => .ok v h
  | .exn c v _ h => .exn c v h
  | _ => .bad
/-- no lambda gets out -/
def hush : Res Val → Res Val
  | .ok v h => if still v then .ok v h else .bad
  | .exn c v h => if still v then .exn c v h else .bad
  | .bad => .bad
def runFn (C : Cx) (F : Fn) (args : List Val) (h : Heap) : Res Val :=
  if args.length = F.params ∧ (F.clo || stills args) then
    let r := (execs C F.body (args.map some ++ List.replicate (F.slots - F.params) none) h).res
    let r := if F.shut then settle h r else r
    if F.clo then hush r else r
  else .bad
def runLam (C : Cx) (L : Lam) (caps args : List Val) (h : Heap) : Res Val :=
  if stills args && stills caps && args.length ≤ L.params && decide (L.params ≤ args.length + L.dflt.length) && caps.length == L.caps then
    evalE C L.body ((args ++ L.dflt.drop (args.length + L.dflt.length - L.params) ++ caps).map some ++ List.replicate (L.slots - L.params - L.caps) none) h
  else .bad

def cxAt (P : Prog) (W : Nat) : Nat → Cx
  | 0 => { prog := P, call := fun _ _ => M.bad, act := fun _ _ => M.bad, W := W }
  | d + 1 => { prog := P, W := W
               call := fun f args h => match P.fns.lookup f with
                 | some F => runFn (cxAt P W d) F args h
                 | none => .bad
               act := fun c args h => match c with
                 | .clo k caps => match P.lams.lookup k with
                   | some L => runLam (cxAt P W d) L caps args h
                   | none => .bad
                 | _ => .bad }
/-- a def called, at most d calls deep -/
def callF (P : Prog) (W d : Nat) (f : String) (args : List Val) : M Val := (cxAt P W d).call f args
end Mini

/-! MiniC: small laws of the evaluator -/
namespace Mini
theorem tst_not (C : Cx) (a : Ex) (env : Env) : tst (evalE C (.not a) env) = (tst (evalE C a env)).bind fun b => M.pure (!b) := by
  funext h
  simp only [tst, evalE, M.bind]
  cases evalE C a env h with
  | ok v h1 =>
    simp only
    cases e : truthy h1 v with
    | none => simp only [M.opt]
    | some b => simp only [M.opt, M.pure, truthy]
  | exn c v h1 => rfl
  | bad => rfl
theorem tst_and (C : Cx) (a b : Ex) (env : Env) : tst (evalE C (.and a b) env) = (tst (evalE C a env)).bind fun k => match k with
    | true => tst (evalE C b env)
    | false => M.pure false := by
  funext h
  simp only [tst, evalE, M.bind]
  cases evalE C a env h with
  | ok v h1 =>
    simp only
    cases e : truthy h1 v with
    | none => simp only [M.opt]
    | some k =>
      cases k with
      | true => simp only [M.opt, M.bind]
      | false => simp only [M.opt, M.pure, e]
  | exn c v h1 => rfl
  | bad => rfl
theorem tst_or (C : Cx) (a b : Ex) (env : Env) : tst (evalE C (.or a b) env) = (tst (evalE C a env)).bind fun k => match k with
    | true => M.pure true
    | false => tst (evalE C b env) := by
  funext h
  simp only [tst, evalE, M.bind]
  cases evalE C a env h with
  | ok v h1 =>
    simp only
    cases e : truthy h1 v with
    | none => simp only [M.opt]
    | some k =>
      cases k with
      | false => simp only [M.opt, M.bind]
      | true => simp only [M.opt, M.pure, e]
  | exn c v h1 => rfl
  | bad => rfl
theorem tst_ite (C : Cx) (c a b : Ex) (env : Env) : tst (evalE C (.ite c a b) env) = (tst (evalE C c env)).bind fun k => match k with
    | true => tst (evalE C a env)
    | false => tst (evalE C b env) := by
  funext h
  simp only [tst, evalE, M.bind]
  cases evalE C c env h with
  | ok v h1 =>
    simp only
    cases e : truthy h1 v with
    | none => simp only [M.opt]
    | some k => cases k <;> simp only [M.opt, M.bind]
  | exn c v h1 => rfl
  | bad => rfl
end Mini
namespace Mini
theorem evalEs_length (C : Cx) (env : Env) : ∀ (es : List Ex) (h h' : Heap) (vs : List Val), evalEs C es env h = .ok vs h' → vs.length = es.length
  | [], h, h', vs, e => by simp only [evalEs, M.pure, Res.ok.injEq] at e; rw [← e.1]; rfl
  | a :: es, h, h', vs, e => by
    simp only [evalEs, M.bind] at e
    cases e1 : evalE C a env h with
    | ok v h1 =>
      rw [e1] at e
      simp only at e
      cases e2 : evalEs C es env h1 with
      | ok ws h2 =>
        rw [e2] at e
        simp only [M.pure, Res.ok.injEq] at e
        rw [← e.1, List.length_cons, List.length_cons, evalEs_length C env es h1 h2 ws e2]
      | exn c v h => rw [e2] at e; cases e
      | bad => rw [e2] at e; cases e
    | exn c v h => rw [e1] at e; cases e
    | bad => rw [e1] at e; cases e
end Mini

set_option Elab.async false
set_option linter.all false
set_option maxRecDepth 100000
set_option maxHeartbeats 4000000
/-! SA: how the small language's values and heaps lie in the layer's -/
namespace MS
open PySem PySem.Spec PyProof.Rows L2
open Mini (Val Res)

def toS (s : Mini.Txt) : Str := ⟨s.toArray⟩
theorem toS_inj {a b : Mini.Txt} (h : toS a = toS b) : a = b := by
  have : a.toArray = b.toArray := congrArg Str.cps h
  simpa using this
abbrev nm (s : String) : Str := Str.ofString s

/-- where the heap's objects lie; what a comprehension under way keeps -/
structure Mp where
  at_ : Nat → Addr
  own : Addr → Prop
instance : CoeFun Mp (fun _ => Nat → Addr) := ⟨Mp.at_⟩
def Off (R : Mp) (n : Nat) (a : Addr) : Prop := (∀ i < n, R i ≠ a) ∧ ¬ R.own a
/-- no table of code objects -/
def Nt : HO → Prop
  | .tbl _ => False
  | _ => True
/-- a table, or a code object -/
def Tx : HO → Prop
  | .tbl _ => True
  | .ext _ => True
  | _ => False
theorem tabs_to {T : List (Addr × Str)} {H H' : Hp} (t : LamX.Tabs T H) (k : ∀ b o, H b = some o → Tx o → H' b = some o) : LamX.Tabs T H' := fun p hp => by
  obtain ⟨ps, h1, h2, h3⟩ := t p hp
  refine ⟨ps, k _ _ h1 trivial, h2, fun pos cv hc => ?_⟩
  obtain ⟨c, e1, e2⟩ := h3 pos cv hc
  exact ⟨c, e1, k _ _ e2 trivial⟩
/-- what is known of lambdas: (name, object, what its cells hold) -/
abbrev Clo := String → Addr → List V → Prop
/-- .. and the slots of caught exceptions: the exception, its dict, its class, its field -/
structure Cr where
  clo : Clo
  exs : Nat → Option (Addr × Addr × String × String)
instance : CoeOut Cr Clo := ⟨Cr.clo⟩

/-- a list that is only read -/
def ScR (K : PySem.W.Frag) (H : Hp) (a : Addr) (xs : List V) : Prop :=
  (∃ o, H a = some (.frz o (.lst xs))) ∨
    ∃ (o : PySem.Obj) (its : Array Value) (m : Nat), K.lookup a = some o ∧ o.cls = .type "list" ∧ o.dict = none ∧ o.data = .seq its m ∧ its.size ≤ sizeLine ∧ Vals xs its.toList
theorem ScR.sq {K : PySem.W.Frag} {H : Hp} {a : Addr} {xs : List V} (h : ScR K H a xs) : SqL K H a xs := by
  rcases h with h | h
  · exact .inl (.inr h)
  · exact .inr h

mutual
def datOf : Val → Option PyData
  | .none => some .none
  | .bool b => some (.bool b)
  | .int i => some (.int i)
  | .str s => some (.str (toS s))
  | .tup xs => (datsOf xs).map .tuple
  | .lst xs => (datsOf xs).map .list
  | .emp => some (.dict [])
  | .rep v => (datOf v).map fun d => .str d.shown
  | _ => none
def datsOf : List Val → Option (List PyData)
  | [] => some []
  | v :: r => match datOf v, datsOf r with
    | some a, some b => some (a :: b)
    | _, _ => none
end

mutual
inductive VR (K : PySem.W.Frag) (G : Clo) (H : Hp) (R : Mp) (n : Nat) : Val → V → Prop
  | none : VR K G H R n .none .non
  | bool (b : Bool) : VR K G H R n (.bool b) (.bl b)
  | int (i : Int) : VR K G H R n (.int i) (.int i)
  | str (s : Mini.Txt) : VR K G H R n (.str s) (.str (toS s))
  | rep {v : Val} {d : PyData} : datOf v = some d → VR K G H R n (.rep v) (.str d.shown)
  | tup {xs : List Val} {a : Addr} {vs : List V} : SqT K H a vs → VRs K G H R n xs vs → VR K G H R n (.tup xs) (.ref a)
  | lst {xs : List Val} {a : Addr} {vs : List V} : H a = some (.lst vs) → Off R n a → VRs K G H R n xs vs → VR K G H R n (.lst xs) (.ref a)
  | ref {i : Nat} : i < n → VR K G H R n (.ref i) (.ref (R i))
  | clo {k : String} {caps : List Val} {a : Addr} {vs : List V} : G k a vs → VRs K G H R n caps vs → VR K G H R n (.clo k caps) (.ref a)
  | scr {xs : List Val} {a : Addr} {vs : List V} : ScR K H a vs → VRs K G H R n xs vs → VR K G H R n (.scr xs) (.ref a)
  | emp {a : Addr} : H a = some (.dK []) → Off R n a → VR K G H R n .emp (.ref a)
inductive VRs (K : PySem.W.Frag) (G : Clo) (H : Hp) (R : Mp) (n : Nat) : List Val → List V → Prop
  | nil : VRs K G H R n [] []
  | cons {x : Val} {xs : List Val} {v : V} {vs : List V} : VR K G H R n x v → VRs K G H R n xs vs → VRs K G H R n (x :: xs) (v :: vs)
end

def keyOf : Val → Option Key
  | .int i => some (.inl i)
  | .str s => some (.inr (toS s))
  | _ => none

inductive KVR (K : PySem.W.Frag) (G : Clo) (H : Hp) (R : Mp) (n : Nat) : List (Val × Val) → List (Key × V) → Prop
  | nil : KVR K G H R n [] []
  | cons {k : Val} {x : Val} {q : Key} {v : V} {r : List (Val × Val)} {s : List (Key × V)} : keyOf k = some q → VR K G H R n x v → KVR K G H R n r s → KVR K G H R n ((k, x) :: r) ((q, v) :: s)
inductive FVR (K : PySem.W.Frag) (G : Clo) (H : Hp) (R : Mp) (n : Nat) : List (String × Val) → List (Str × V) → Prop
  | nil : FVR K G H R n [] []
  | cons {f : String} {x : Val} {v : V} {r : List (String × Val)} {s : List (Str × V)} : VR K G H R n x v → FVR K G H R n r s → FVR K G H R n ((f, x) :: r) ((nm f, v) :: s)

/-- the classes' places -/
abbrev Ca := String → Option Addr
def OR (K : PySem.W.Frag) (ca : Ca) (G : Clo) (H : Hp) (R : Mp) (n : Nat) (a : Addr) : Mini.Obj → Prop
  | .list xs => ∃ vs, H a = some (.lst vs) ∧ VRs K G H R n xs vs
  | .dict kvs => ∃ ks, H a = some (.dK ks) ∧ KVR K G H R n kvs ks
  | .inst c fs => ∃ C dx gs, ca c = some C ∧ H a = some (.ins C dx gs) ∧ FVR K G H R n fs gs
  | .set _ => False
structure HR (K : PySem.W.Frag) (ca : Ca) (T : List (Addr × Str)) (G : Clo) (R : Mp) (h : Mini.Heap) (H : Hp) : Prop where
  inj : ∀ i j, i < h.length → j < h.length → R i = R j → i = j
  at_ : ∀ i o, h[i]? = some o → OR K ca G H R h.length (R i) o
  ow : ∀ a, R.own a → Mut (H a)
  owR : ∀ i < h.length, ¬ R.own (R i)
  tab : LamX.Tabs T H
/-- the slots -/
structure ER (K : PySem.W.Frag) (G : Cr) (H : Hp) (R : Mp) (n : Nat) (env : Mini.Env) (σ : L2.St) : Prop where
  len : env.length = σ.length
  at_ : ∀ (i : Nat) (v : Val), env[i]? = some (some v) → (∃ x, σ[i]? = some (some x) ∧ VR K G H R n v x) ∨ ∃ c f w a d u, v = .exc c w ∧ G.exs i = some (a, d, c, f) ∧ σ[i]? = some (some (.ref a)) ∧ H d = some (.xd [(nm f, u)]) ∧ VR K G H R n w u
theorem tb0 {H : Hp} {a : Addr} {ps : Array Value} (e : H a = some (.tbl ps)) : ∃ more : Array Value, H a = some (.tbl (ps ++ more)) := ⟨#[], by rw [Array.append_empty]; exact e⟩
/-- what a stretch of the run leaves -/
structure Xt (R : Mp) (h : Mini.Heap) (H : Hp) (R' : Mp) (h' : Mini.Heap) (H' : Hp) : Prop where
  len : h.length ≤ h'.length
  same : ∀ i < h.length, R' i = R i
  own : R'.own = R.own
  new : ∀ i, h.length ≤ i → i < h'.length → H (R' i) = none
  keep : ∀ a o, H a = some o → (∀ i < h.length, R i ≠ a) → Nt o → H' a = some o
  tbl : ∀ a ps, H a = some (.tbl ps) → ∃ more, H' a = some (.tbl (ps ++ more))

section
variable {K : PySem.W.Frag} {ca : Ca} {T : List (Addr × Str)} {G : Clo} {Γ : Cr} {R R' R'' : Mp} {h h' h'' : Mini.Heap} {H H' H'' : Hp} {n m : Nat}
theorem HR.there (x : HR K ca T G R h H) {i : Nat} (hi : i < h.length) : ∃ o, H (R i) = some o ∧ Mut (some o) := by
  have e : h[i]? = some h[i] := List.getElem?_eq_getElem hi
  have q := x.at_ i _ e
  generalize h[i] = o at q
  cases o with
  | list xs => obtain ⟨vs, e, _⟩ := q; exact ⟨_, e, trivial⟩
  | dict kvs => obtain ⟨vs, e, _⟩ := q; exact ⟨_, e, trivial⟩
  | inst c fs => obtain ⟨C, dx, gs, _, e, _⟩ := q; exact ⟨_, e, trivial⟩
  | set _ => exact q.elim
theorem HR.thereN (x : HR K ca T G R h H) {i : Nat} (hi : i < h.length) : ∃ o, H (R i) = some o ∧ ¬ Tx o := by
  have e : h[i]? = some h[i] := List.getElem?_eq_getElem hi
  have q := x.at_ i _ e
  generalize h[i] = o at q
  cases o with
  | list xs => obtain ⟨vs, e, _⟩ := q; exact ⟨_, e, fun z => z⟩
  | dict kvs => obtain ⟨vs, e, _⟩ := q; exact ⟨_, e, fun z => z⟩
  | inst c fs => obtain ⟨C, dx, gs, _, e, _⟩ := q; exact ⟨_, e, fun z => z⟩
  | set _ => exact q.elim
theorem Xt.refl : Xt R h H R h H := ⟨Nat.le_refl _, fun _ _ => rfl, rfl, fun _ a b => absurd b (Nat.not_lt_of_le a), fun _ _ e _ _ => e, fun _ ps e => tb0 e⟩
theorem Xt.some (x : Xt R h H R' h' H') {a : Addr} {o : HO} (e : H a = some o) (d : ∀ i < h.length, R i ≠ a) : ∃ o', H' a = some o' := by
  by_cases n : Nt o
  · exact ⟨o, x.keep a o e d n⟩
  · cases o with
    | tbl ps => obtain ⟨ps', e'⟩ := x.tbl a ps e; exact ⟨_, e'⟩
    | _ => exact absurd trivial n
theorem Xt.trans (a : Xt R h H R' h' H') (m : HR K ca T G R' h' H') (b : Xt R' h' H' R'' h'' H'') : Xt R h H R'' h'' H'' where
  len := Nat.le_trans a.len b.len
  same := fun i hi => (b.same i (Nat.lt_of_lt_of_le hi a.len)).trans (a.same i hi)
  own := b.own.trans a.own
  new := fun i h1 h2 => by
    by_cases q : i < h'.length
    · rw [b.same i q]; exact a.new i h1 q
    · have z := b.new i (Nat.le_of_not_lt q) h2
      cases e : H (R'' i) with
      | none => rfl
      | some o =>
        by_cases w : ∃ j, j < h.length ∧ R j = R'' i
        · obtain ⟨j, hj, ej⟩ := w
          obtain ⟨o', e', _⟩ := m.there (Nat.lt_of_lt_of_le hj a.len)
          rw [a.same j hj, ej, z] at e'; cases e'
        · obtain ⟨o', e'⟩ := a.some e fun j hj z => w ⟨j, hj, z⟩
          rw [z] at e'; cases e'
  keep := fun c o e hn nt => b.keep c o (a.keep c o e hn nt) (fun i hi z => by
    by_cases q : i < h.length
    · exact hn i q (by rw [← a.same i q]; exact z)
    · have := a.new i (Nat.le_of_not_lt q) hi
      rw [z, e] at this; cases this) nt
  tbl := fun c ps e => by
    obtain ⟨m1, e'⟩ := a.tbl c ps e
    obtain ⟨m2, e2⟩ := b.tbl c _ e'
    exact ⟨m1 ++ m2, by rw [← Array.append_assoc]; exact e2⟩
/-- what is known stays: nothing but the heap's places is touched, these are of a kind that changes -/
structure Mo (R : Mp) (n : Nat) (H : Hp) (R' : Mp) (n' : Nat) (H' : Hp) : Prop where
  len : n ≤ n'
  same : ∀ i < n, R' i = R i
  new : ∀ i, n ≤ i → i < n' → H (R' i) = none
  ow : ∀ a o, H a = some o → R'.own a → R.own a
  keep : ∀ a o, H a = some o → Off R n a → Nt o → H' a = some o
  mu : ∀ i < n, Mut (H (R i))
  muo : ∀ a, R.own a → Mut (H a)
theorem Xt.mo (x : Xt R h H R' h' H') (r : HR K ca T G R h H) : Mo R h.length H R' h'.length H' :=
  ⟨x.len, x.same, x.new, fun a o e q => by rw [x.own] at q; exact q, fun a o e d nt => x.keep a o e d.1 nt, fun i hi => by obtain ⟨o, e, m⟩ := r.there hi; rw [e]; exact m, fun a q => r.ow a q⟩
theorem Mo.still (x : Mo R n H R' m H') {a : Addr} {o : HO} (e : H a = some o) (d : ¬ Mut (some o)) (nt : Nt o := by trivial) : H' a = some o :=
  x.keep a o e ⟨fun i hi z => d (by have := x.mu i hi; rw [z, e] at this; exact this), fun z => d (by have := x.muo a z; rw [e] at this; exact this)⟩ nt
theorem Mo.off (x : Mo R n H R' m H') {a : Addr} {o : HO} (e : H a = some o) (d : Off R n a) : Off R' m a := by
  refine ⟨fun i hi z => ?_, fun z => d.2 (x.ow a o e z)⟩
  by_cases q : i < n
  · exact d.1 i q (by rw [← x.same i q]; exact z)
  · have := x.new i (Nat.le_of_not_lt q) hi
    rw [z, e] at this; cases this
theorem Mo.sqT (x : Mo R n H R' m H') {a : Addr} {xs : List V} (q : SqT K H a xs) : SqT K H' a xs := by
  rcases q with (q | ⟨o, q⟩) | q
  · exact .inl (.inl (x.still q fun z => z))
  · exact .inl (.inr ⟨o, x.still q fun z => z⟩)
  · exact .inr q
theorem Mo.scr (x : Mo R n H R' m H') {a : Addr} {xs : List V} (q : ScR K H a xs) : ScR K H' a xs := by
  rcases q with ⟨o, q⟩ | q
  · exact .inl ⟨o, x.still q fun z => z⟩
  · exact .inr q
mutual
theorem VR.mono (x : Mo R n H R' m H') : ∀ (v : Val) (u : V), VR K G H R n v u → VR K G H' R' m v u
  | _, _, .none => .none
  | _, _, .bool b => .bool b
  | _, _, .int i => .int i
  | _, _, .str s => .str s
  | _, _, .rep e => .rep e
  | _, _, .tup q r => .tup (x.sqT q) (VRs.mono x _ _ r)
  | _, _, .lst e d r => .lst (x.keep _ _ e d trivial) (x.off e d) (VRs.mono x _ _ r)
  | _, _, .scr q r => .scr (x.scr q) (VRs.mono x _ _ r)
  | _, _, .ref (i := i) hi => x.same i hi ▸ .ref (Nat.lt_of_lt_of_le hi x.len)
  | _, _, .clo g r => .clo g (VRs.mono x _ _ r)
  | _, _, .emp e d => .emp (x.keep _ _ e d trivial) (x.off e d)
theorem VRs.mono (x : Mo R n H R' m H') : ∀ (v : List Val) (u : List V), VRs K G H R n v u → VRs K G H' R' m v u
  | _, _, .nil => .nil
  | _, _, .cons a b => .cons (VR.mono x _ _ a) (VRs.mono x _ _ b)
end
theorem KVR.mono (x : Mo R n H R' m H') : ∀ {v : List (Val × Val)} {u : List (Key × V)}, KVR K G H R n v u → KVR K G H' R' m v u
  | _, _, .nil => .nil
  | _, _, .cons e a b => .cons e (a.mono x) (KVR.mono x b)
theorem FVR.mono (x : Mo R n H R' m H') : ∀ {v : List (String × Val)} {u : List (Str × V)}, FVR K G H R n v u → FVR K G H' R' m v u
  | _, _, .nil => .nil
  | _, _, .cons a b => .cons (a.mono x) (FVR.mono x b)
theorem ER.mono {env : Mini.Env} {σ : L2.St} (x : Mo R n H R' m H') (e : ER K Γ H R n env σ) : ER K Γ H' R' m env σ := by
  refine ⟨e.len, fun i v q => ?_⟩
  rcases e.at_ i v q with ⟨y, e1, r⟩ | ⟨c, f, w, a, d, u, e1, e2, e3, e4, r⟩
  · exact .inl ⟨y, e1, r.mono x⟩
  · exact .inr ⟨c, f, w, a, d, u, e1, e2, e3, x.still e4 fun z => z, r.mono x⟩
theorem VRs.length : ∀ {xs : List Val} {vs : List V}, VRs K G H R n xs vs → xs.length = vs.length
  | _, _, .nil => rfl
  | _, _, .cons _ r => by simp [VRs.length r]
theorem VRs.get : ∀ {xs : List Val} {vs : List V} {i : Nat} {x : Val}, VRs K G H R n xs vs → xs[i]? = some x → ∃ v, vs[i]? = some v ∧ VR K G H R n x v
  | _, _, _, _, .nil, e => by simp at e
  | _, _, 0, _, .cons r _, e => by simp at e; subst e; exact ⟨_, rfl, r⟩
  | _, _, i + 1, x, .cons _ t, e => by
    obtain ⟨v, h1, h2⟩ := VRs.get (i := i) (x := x) t (by simpa using e)
    exact ⟨v, by simpa using h1, h2⟩
theorem VRs.append : ∀ {xs ys : List Val} {us ws : List V}, VRs K G H R n xs us → VRs K G H R n ys ws → VRs K G H R n (xs ++ ys) (us ++ ws)
  | _, _, _, _, .nil, s => s
  | _, _, _, _, .cons r t, s => .cons r (VRs.append t s)
theorem VRs.take : ∀ {xs : List Val} {us : List V} (k : Nat), VRs K G H R n xs us → VRs K G H R n (xs.take k) (us.take k)
  | _, _, 0, _ => .nil
  | _, _, _ + 1, .nil => .nil
  | _, _, k + 1, .cons r t => .cons r (VRs.take k t)
theorem VRs.drop : ∀ {xs : List Val} {us : List V} (k : Nat), VRs K G H R n xs us → VRs K G H R n (xs.drop k) (us.drop k)
  | _, _, 0, r => r
  | _, _, _ + 1, .nil => .nil
  | _, _, k + 1, .cons _ t => VRs.drop k t
theorem VRs.rev : ∀ {xs : List Val} {us : List V}, VRs K G H R n xs us → VRs K G H R n xs.reverse us.reverse
  | _, _, .nil => .nil
  | _, _, .cons r t => by rw [List.reverse_cons, List.reverse_cons]; exact (VRs.rev t).append (.cons r .nil)
theorem VRs.set : ∀ {xs : List Val} {us : List V} {x : Val} {u : V} (i : Nat), VRs K G H R n xs us → VR K G H R n x u → VRs K G H R n (xs.set i x) (us.set i u)
  | _, _, _, _, _, .nil, _ => .nil
  | _, _, _, _, 0, .cons _ t, r => .cons r t
  | _, _, _, _, i + 1, .cons q t, r => .cons q (VRs.set i t r)
theorem ER.set {env : Mini.Env} {σ : L2.St} (e : ER K Γ H R n env σ) (i : Nat) {v : Val} {x : V} (r : VR K Γ H R n v x) : ER K Γ H R n (env.set i (some v)) (σ.set i (some x)) := by
  refine ⟨by simp [e.len], fun j w q => ?_⟩
  by_cases hj : i = j
  · subst hj
    by_cases hi : i < env.length
    · rw [List.getElem?_set_self hi] at q; cases q
      exact .inl ⟨x, List.getElem?_set_self (by rw [← e.len]; exact hi), r⟩
    · rw [List.getElem?_eq_none (by simpa using hi)] at q; cases q
  · rw [List.getElem?_set_ne hj] at q
    rw [List.getElem?_set_ne hj]
    exact e.at_ j w q
theorem ER.unset {env : Mini.Env} {σ : L2.St} (e : ER K Γ H R n env σ) (i : Nat) : ER K Γ H R n (env.set i none) (σ.set i none) := by
  refine ⟨by simp [e.len], fun j w q => ?_⟩
  by_cases hj : i = j
  · subst hj
    by_cases hi : i < env.length
    · rw [List.getElem?_set_self hi] at q; cases q
    · rw [List.getElem?_eq_none (by simpa using hi)] at q; cases q
  · rw [List.getElem?_set_ne hj] at q
    rw [List.getElem?_set_ne hj]
    exact e.at_ j w q
mutual
theorem VR.grow {G' : Clo} (g : ∀ k a vs, G k a vs → G' k a vs) : ∀ (v : Val) (u : V), VR K G H R n v u → VR K G' H R n v u
  | _, _, .none => .none
  | _, _, .bool b => .bool b
  | _, _, .int i => .int i
  | _, _, .str s => .str s
  | _, _, .rep e => .rep e
  | _, _, .tup q r => .tup q (VRs.grow g _ _ r)
  | _, _, .lst e d r => .lst e d (VRs.grow g _ _ r)
  | _, _, .scr q r => .scr q (VRs.grow g _ _ r)
  | _, _, .ref hi => .ref hi
  | _, _, .clo c r => .clo (g _ _ _ c) (VRs.grow g _ _ r)
  | _, _, .emp e d => .emp e d
theorem VRs.grow {G' : Clo} (g : ∀ k a vs, G k a vs → G' k a vs) : ∀ (v : List Val) (u : List V), VRs K G H R n v u → VRs K G' H R n v u
  | _, _, .nil => .nil
  | _, _, .cons a b => .cons (VR.grow g _ _ a) (VRs.grow g _ _ b)
end
/-- no lambda -/
def noClo : Clo := fun _ _ _ => False
theorem VRs.up {xs : List Val} {us : List V} (r : VRs K noClo H R n xs us) : VRs K G H R n xs us := VRs.grow (fun _ _ _ z => z.elim) _ _ r
theorem KVR.up {xs : List (Val × Val)} {us : List (Key × V)} (r : KVR K noClo H R n xs us) : KVR K G H R n xs us := by
  induction r with
  | nil => exact .nil
  | cons e a b ih => exact .cons e (VR.grow (fun _ _ _ z => z.elim) _ _ a) ih
mutual
theorem VR.stil : ∀ (v : Val) (u : V), VR K G H R n v u → Mini.still v = true → VR K noClo H R n v u
  | _, _, .none, _ => .none
  | _, _, .bool b, _ => .bool b
  | _, _, .int i, _ => .int i
  | _, _, .str s, _ => .str s
  | _, _, .rep e, _ => .rep e
  | _, _, .tup q r, z => .tup q (VRs.stil _ _ r (by simpa only [Mini.still] using z))
  | _, _, .lst e d r, z => .lst e d (VRs.stil _ _ r (by simpa only [Mini.still] using z))
  | _, _, .scr q r, z => .scr q (VRs.stil _ _ r (by simpa only [Mini.still] using z))
  | _, _, .ref hi, _ => .ref hi
  | _, _, .clo c r, z => by simp only [Mini.still] at z; cases z
  | _, _, .emp e d, _ => .emp e d
theorem VRs.stil : ∀ (v : List Val) (u : List V), VRs K G H R n v u → Mini.stills v = true → VRs K noClo H R n v u
  | _, _, .nil, _ => .nil
  | _, _, .cons a b, z => by
    simp only [Mini.stills, Bool.and_eq_true] at z
    exact .cons (VR.stil _ _ a z.1) (VRs.stil _ _ b z.2)
end
theorem VR.bl {b : Bool} {u : V} (r : VR K G H R n (.bool b) u) : u = .bl b := by cases r; rfl
theorem VR.in {i : Int} {u : V} (r : VR K G H R n (.int i) u) : u = .int i := by cases r; rfl
theorem VR.st {s : Mini.Txt} {u : V} (r : VR K G H R n (.str s) u) : u = .str (toS s) := by cases r; rfl
theorem VR.no {u : V} (r : VR K G H R n .none u) : u = .non := by cases r; rfl
/-- a new object at p that is none of ours -/
theorem xt_aux {p : Addr} {o : HO} (hp : H p = none) : Xt R h H R h (upd H p o) :=
  ⟨Nat.le_refl _, fun _ _ => rfl, rfl, fun _ a b => absurd b (Nat.not_lt_of_le a), fun a u e _ _ => by rw [upd_ne (ne_of_none e hp)]; exact e, fun a ps e => tb0 (by rw [upd_ne (ne_of_none e hp)]; exact e)⟩
theorem OR.mono {o : Mini.Obj} {a : Addr} (x : Mo R n H R' m H') (e : H' a = H a) (q : OR K ca G H R n a o) : OR K ca G H' R' m a o := by
  cases o with
  | list xs => obtain ⟨vs, e1, r⟩ := q; exact ⟨vs, e.trans e1, r.mono x⟩
  | dict kvs => obtain ⟨vs, e1, r⟩ := q; exact ⟨vs, e.trans e1, r.mono x⟩
  | inst c fs => obtain ⟨C, dx, gs, e0, e1, r⟩ := q; exact ⟨C, dx, gs, e0, e.trans e1, r.mono x⟩
  | set _ => exact q.elim
theorem HR.aux {p : Addr} {o : HO} (x : HR K ca T G R h H) (hp : H p = none) : HR K ca T G R h (upd H p o) := by
  have h1 : ∀ i q, h[i]? = some q → OR K ca G (upd H p o) R h.length (R i) q := fun i q e => by
    refine (x.at_ i q e).mono ((xt_aux hp).mo x) ?_
    obtain ⟨u, e1, _⟩ := x.there (List.getElem?_eq_some_iff.mp e).1
    rw [upd_ne (ne_of_none e1 hp)]
  have h2 : ∀ a, R.own a → Mut (upd H p o a) := fun a q => by
    have m := x.ow a q
    have ne : a ≠ p := fun z => by rw [z, hp] at m; exact m
    rw [upd_ne ne]; exact m
  exact ⟨x.inj, h1, h2, x.owR, tabs_to x.tab fun b u e _ => by rw [upd_ne (ne_of_none e hp)]; exact e⟩
theorem HR.off (x : HR K ca T G R h H) {p : Addr} (hp : H p = none) : Off R h.length p := by
  refine ⟨fun i hi z => ?_, fun q => ?_⟩
  · obtain ⟨o, e, _⟩ := x.there hi
    rw [z, hp] at e; cases e
  · have m := x.ow p q
    rw [hp] at m; exact m
end
end MS

set_option Elab.async false
set_option linter.all false
set_option maxRecDepth 100000
set_option maxHeartbeats 4000000
/-! SB: what a run of the small language says of a run of the layer; the frame of the proofs -/
namespace MS
open PySem PySem.Spec PyProof.Rows L2
open Mini (Val Res Ex evalE evalEs)

/-- a def's object -/
structure DefI where
  f : Addr
  oc : Value
  od : Option Addr
  osl : Array (Option Value)
  params : Arguments
  body : List Stmt
  scope : Scope
  dV : Value
  kV : Value
  doc : Value
  pm : Value
  an : Option Addr
  cdv : Value
  ct : Value
  N : List Str
  ps : List Str
  /-- its name; is it one of the module's -/
  nmS : Str
  top : Bool
  /-- the table of its code object's code objects, if it makes lambdas -/
  tbl : Option Addr := none
/-- a lambda as it is written -/
structure LamI where
  q : Str
  prs : Arguments
  body : Expr
  sc : Scope
  ds : List Int
  ps : List Str
  caps : List Str
  N : List Str
  P : Addr
/-- what is fixed through a law -/
structure Lk where
  P : Mini.Prog
  prog : Program
  w : World
  K : PySem.W.Frag
  mg : Str → Option Value
  base : PySem.Heap
  ca : Ca
  /-- the places of classes with instances -/
  co : Ca := fun _ => none
  defs : String → Option DefI
  /-- the tables of code objects of the defs that make lambdas -/
  T : List (Addr × Str)
  /-- the object at the address is such a lambda, at this state -/
  clo : String → List L2.V → Shared → Hp → List PySem.Env → Addr → Prop
  /-- the lambdas of this name -/
  lams : String → LamI → Prop
def Lk.fld (L : Lk) (c : String) : Option String := (L.P.cls.lookup c).map (·.field)

section
variable (L : Lk) (G : Cr) (W : WX)
/-- (what lies in the heap holds no lambda) -/
abbrev HRL (_G : Cr) (R : Mp) (h : Mini.Heap) (H : Hp) : Prop := HR L.K L.co L.T noClo R h H
abbrev VRL (H : Hp) (R : Mp) (n : Nat) (v : Val) (u : V) : Prop := VR L.K G H R n v u
abbrev VRsL (H : Hp) (R : Mp) (n : Nat) (v : List Val) (u : List V) : Prop := VRs L.K G H R n v u
abbrev ERL (H : Hp) (R : Mp) (n : Nat) (env : Mini.Env) (σ : L2.St) : Prop := ER L.K G H R n env σ

/-- an exception in the air -/
structure ExO (R' : Mp) (h' : Mini.Heap) (H' : Hp) (c : String) (v : Val) (C d : Addr) : Prop where
  hr : HRL L G R' h' H'
  cl : L.ca c = some C
  at_ : ∃ f u, L.fld c = some f ∧ H' d = some (.xd [(nm f, u)]) ∧ VRL L G H' R' h'.length v u
def SemR {α : Type} (r : Res α) (R : Mp) (h : Mini.Heap) (H : Hp) (σ : L2.St) (post : Mp → Mini.Heap → Hp → α → Prop) : Prop := match r with
  | .ok a h' => ∀ R' H', Xt R h H R' h' H' → HRL L G R' h' H' → post R' h' H' a
  | .exn c v h' => ∀ R' H' C d, Xt R h H R' h' H' → ExO L G R' h' H' c v C d → W (.ref C) (some d) σ H'
  | .bad => False
def vpost (Q : VK) : Mp → Mini.Heap → Hp → Val → Prop := fun R' h' H' v => ∀ V, VRL L G H' R' h'.length v V → Q V H'
def vspost (Q : List V → Hp → Prop) : Mp → Mini.Heap → Hp → List Val → Prop := fun R' h' H' v => ∀ V, VRsL L G H' R' h'.length v V → Q V H'
def bpost (Q : Bool → Hp → Prop) : Mp → Mini.Heap → Hp → Bool → Prop := fun _ _ H' b => Q b H'
/-- .. a list that comes out is new, at an address of its own -/
def fpost (R : Mp) (h : Mini.Heap) (H : Hp) (Q : VK) : Mp → Mini.Heap → Hp → Val → Prop := fun R' h' H' v =>
  (∀ xs a vs H1, v = .lst xs → H a = none → H1 a = none → H' = upd H1 a (.lst vs) → Xt R h H R' h' H1 → HRL L G R' h' H1 → VRsL L G H1 R' h'.length xs vs → Q (.ref a) H') ∧
    ∀ V, (∀ xs, v ≠ .lst xs) → VRL L G H' R' h'.length v V → Q V H'
section
variable {L G W}
variable {α β : Type} {R : Mp} {h : Mini.Heap} {H : Hp} {σ : L2.St}
theorem SemR.imp {r : Res α} {p q : Mp → Mini.Heap → Hp → α → Prop} (x : SemR L G W r R h H σ p) (f : ∀ R' h' H' a, Xt R h H R' h' H' → HRL L G R' h' H' → p R' h' H' a → q R' h' H' a) : SemR L G W r R h H σ q := by
  cases r with
  | ok a h' => exact fun R' H' t r => f _ _ _ _ t r (x R' H' t r)
  | exn c v h' => exact x
  | bad => exact x
theorem SemR.bind {m : Mini.M α} {k : α → Mini.M β} {p : Mp → Mini.Heap → Hp → β → Prop} (x : SemR L G W (m.bind k h) R h H σ p) :
    SemR L G W (m h) R h H σ fun R' h' H' a => SemR L G W (k a h') R' h' H' σ p := by
  unfold Mini.M.bind at x
  cases e : m h with
  | ok a h' =>
    rw [e] at x
    intro R' H' t r
    have x : SemR L G W (k a h') R h H σ p := x
    cases e2 : k a h' with
    | ok b h'' => rw [e2] at x; exact fun R'' H'' t' r' => x R'' H'' (t.trans r t') r'
    | exn c v h'' => rw [e2] at x; exact fun R'' H'' C d t' o => x R'' H'' C d (t.trans r t') o
    | bad => rw [e2] at x; exact x
  | exn c v h' => rw [e] at x; exact x
  | bad => rw [e] at x; exact x
/-- .. knowing the run's end -/
theorem SemR.impE {r : Res α} {p q : Mp → Mini.Heap → Hp → α → Prop} (x : SemR L G W r R h H σ p) (f : ∀ R' h' H' a, r = .ok a h' → Xt R h H R' h' H' → HRL L G R' h' H' → p R' h' H' a → q R' h' H' a) : SemR L G W r R h H σ q := by
  cases r with
  | ok a h' => exact fun R' H' t r => f _ _ _ _ rfl t r (x R' H' t r)
  | exn c v h' => exact x
  | bad => exact x
theorem SemR.pure {a : α} {p : Mp → Mini.Heap → Hp → α → Prop} (x : SemR L G W (Mini.M.pure a h) R h H σ p) (r : HRL L G R h H) : p R h H a := x R H Xt.refl r
theorem SemR.opt {o : Option α} {p : Mp → Mini.Heap → Hp → α → Prop} (x : SemR L G W (Mini.M.opt o h) R h H σ p) : ∃ a, o = some a ∧ ∀ R' H', Xt R h H R' h H' → HRL L G R' h H' → p R' h H' a := by
  cases o with
  | none => exact x.elim
  | some a => exact ⟨a, rfl, x⟩
end

variable (C : Mini.Cx)
def semE (e : Ex) : TE := fun σ H Q => ∃ R h env, HRL L G R h H ∧ ERL L G H R h.length env σ ∧ SemR L G W (evalE C e env h) R h H σ (vpost L G Q)
def semF (e : Ex) : TE := fun σ H Q => ∃ R h env, HRL L G R h H ∧ ERL L G H R h.length env σ ∧ SemR L G W (evalE C e env h) R h H σ (fpost L G R h H Q)
def semT (e : Ex) : TT := fun σ H Q => ∃ R h env, HRL L G R h H ∧ ERL L G H R h.length env σ ∧ SemR L G W (Mini.tst (evalE C e env) h) R h H σ (bpost Q)
def semA (es : List Ex) : TA := fun σ H Q => ∃ R h env, HRL L G R h H ∧ ERL L G H R h.length env σ ∧ SemR L G W (evalEs C es env h) R h H σ (vspost L G Q)
end

theorem _root_.L2.PE.imp {X : L2.Cx} {e : Expr} {t t' : TE} (p : PE X e t) (h : ∀ σ H Q, t' σ H Q → t σ H Q) : PE X e t' := ⟨fun pins s σ H Q I q => p.run pins s σ H Q I (h _ _ _ q)⟩
theorem _root_.L2.PT.imp {X : L2.Cx} {e : Expr} {t t' : TT} (p : PT X e t) (h : ∀ σ H Q, t' σ H Q → t σ H Q) : PT X e t' := ⟨fun pins s σ H Q I q => p.run pins s σ H Q I (h _ _ _ q)⟩
theorem _root_.L2.PA.imp {X : L2.Cx} {e : List Expr} {t t' : TA} (p : PA X e t) (h : ∀ σ H Q, t' σ H Q → t σ H Q) : PA X e t' := ⟨fun pos pins s σ H Q I q => p.run pos pins s σ H Q I (h _ _ _ q)⟩

/-- the names of a body or a block -/
structure Gm where
  N : List Str
  sc : Scope
  /-- a def's body, not a comprehension's block -/
  top : Bool
  hot : Bool
structure Good (L : Lk) (Γ : Gm) (k : Nat) (W : WX) (X : L2.Cx) : Prop where
  prog : X.prog = L.prog
  w : X.w = L.w
  K : X.K = L.K
  mg : X.mg = L.mg
  base : X.base = L.base
  N : X.N = Γ.N
  sc : X.env.scope = Γ.sc
  nd : X.N.Nodup
  calm : X.calm = !Γ.hot
  room : Room k X.A
  tk : Takes X W
  fn : Γ.top = true → ∀ x, X.fn x = true

section
variable {L : Lk} {G : Cr} {W : WX} {C : Mini.Cx} {X : L2.Cx} {Γ : Gm} {k : Nat}

/-! ### two in a row -/
theorem sem_two {a b : Ex} {f : Val → Val → Mini.Heap → Res Val} {r : R2} {e : Ex}
    (he : ∀ env, evalE C e env = (evalE C a env).bind fun x => (evalE C b env).bind fun y => f x y)
    (hr : ∀ (R : Mp) (h : Mini.Heap) (H : Hp) (σ : L2.St) (x y : Val) (V U : L2.V) (Q : VK), HRL L G R h H → VRL L G H R h.length x V → VRL L G H R h.length y U → SemR L G W (f x y h) R h H σ (vpost L G Q) → r V U H Q) :
    ∀ σ H Q, semE L G W C e σ H Q → tOp r (semE L G W C a) (semE L G W C b) σ H Q := by
  rintro σ H Q ⟨R, h, env, rh, re, x⟩
  rw [he] at x
  refine ⟨R, h, env, rh, re, x.bind.imp fun R1 h1 H1 v t1 r1 x1 => fun V rv => ?_⟩
  refine ⟨R1, h1, env, r1, re.mono (t1.mo rh), x1.bind.imp fun R2 h2 H2 u t2 r2 x2 => fun U ru => ?_⟩
  exact hr R2 h2 H2 σ v u V U Q r2 (rv.mono (t2.mo r1)) ru x2
theorem sem_twoF {a b : Ex} {f : Val → Val → Mini.Heap → Res Val} {r : R2} {e : Ex}
    (he : ∀ env, evalE C e env = (evalE C a env).bind fun x => (evalE C b env).bind fun y => f x y)
    (hr : ∀ (R0 : Mp) (h0 : Mini.Heap) (H0 : Hp) (R : Mp) (h : Mini.Heap) (H : Hp) (σ : L2.St) (x y : Val) (V U : L2.V) (Q : VK), Xt R0 h0 H0 R h H → HRL L G R h H → VRL L G H R h.length x V → VRL L G H R h.length y U → SemR L G W (f x y h) R h H σ (fpost L G R0 h0 H0 Q) → r V U H Q) :
    ∀ σ H Q, semF L G W C e σ H Q → tOp r (semE L G W C a) (semE L G W C b) σ H Q := by
  rintro σ H Q ⟨R, h, env, rh, re, x⟩
  rw [he] at x
  refine ⟨R, h, env, rh, re, x.bind.imp fun R1 h1 H1 v t1 r1 x1 => fun V rv => ?_⟩
  refine ⟨R1, h1, env, r1, re.mono (t1.mo rh), x1.bind.imp fun R2 h2 H2 u t2 r2 x2 => fun U ru => ?_⟩
  exact hr R h H R2 h2 H2 σ v u V U Q (t1.trans r1 t2) r2 (rv.mono (t2.mo r1)) ru x2
theorem fresh_back {R R' : Mp} {h h' : Mini.Heap} {H H' : Hp} {p : Addr} (t : Xt R h H R' h' H') (r' : HRL L G R' h' H') (hp : H' p = none) : H p = none := by
  cases e : H p with
  | none => rfl
  | some o =>
    by_cases w : ∃ i, i < h.length ∧ R i = p
    · obtain ⟨i, hi, ei⟩ := w
      obtain ⟨o', e', _⟩ := r'.there (Nat.lt_of_lt_of_le hi t.len)
      rw [t.same i hi, ei, hp] at e'; cases e'
    · obtain ⟨o', e'⟩ := t.some e fun i hi z => w ⟨i, hi, z⟩
      rw [hp] at e'; cases e'
/-- a pure operation of two values that may give a new list -/
theorem pure_twoF {o : Mini.Heap → Val → Val → Option Val} {r : R2}
    (hr : ∀ (R : Mp) (h : Mini.Heap) (H : Hp) (x y v : Val) (V U : L2.V) (Q : VK), HRL L G R h H → VRL L G H R h.length x V → VRL L G H R h.length y U → o h x y = some v →
      (∀ V' H', Xt R h H R h H' → HRL L G R h H' → (∀ xs, v ≠ .lst xs) → VRL L G H' R h.length v V' → Q V' H') →
      (∀ xs vs p, v = .lst xs → H p = none → VRsL L G H R h.length xs vs → Q (.ref p) (upd H p (.lst vs))) → r V U H Q)
    (R0 : Mp) (h0 : Mini.Heap) (H0 : Hp) (R : Mp) (h : Mini.Heap) (H : Hp) (σ : L2.St) (x y : Val) (V U : L2.V) (Q : VK) (t : Xt R0 h0 H0 R h H) (rh : HRL L G R h H) (rx : VRL L G H R h.length x V) (ry : VRL L G H R h.length y U) (q : SemR L G W (Mini.M.opt (o h x y) h) R h H σ (fpost L G R0 h0 H0 Q)) : r V U H Q := by
  obtain ⟨v, e, f⟩ := q.opt
  refine hr R h H x y v V U Q rh rx ry e (fun V' H' t' r' nl rv => (f R H' t' r').2 V' nl rv) fun xs vs p ev hp rvs => ?_
  exact (f R _ (xt_aux hp) (rh.aux hp)).1 xs p vs H ev (fresh_back t rh hp) hp rfl t rh rvs
/-- a pure operation of two values -/
theorem pure_two {o : Mini.Heap → Val → Val → Option Val} {r : R2}
    (hr : ∀ (R : Mp) (h : Mini.Heap) (H : Hp) (x y v : Val) (V U : L2.V) (Q : VK), HRL L G R h H → VRL L G H R h.length x V → VRL L G H R h.length y U → o h x y = some v →
      (∀ H' V', Xt R h H R h H' → HRL L G R h H' → VRL L G H' R h.length v V' → Q V' H') → r V U H Q)
    (R : Mp) (h : Mini.Heap) (H : Hp) (σ : L2.St) (x y : Val) (V U : L2.V) (Q : VK) (rh : HRL L G R h H) (rx : VRL L G H R h.length x V) (ry : VRL L G H R h.length y U) (q : SemR L G W (Mini.M.opt (o h x y) h) R h H σ (vpost L G Q)) : r V U H Q := by
  obtain ⟨v, e, f⟩ := q.opt
  exact hr R h H x y v V U Q rh rx ry e fun H' V' t r' rv => f R H' t r' V' rv

/-! ### literals, names -/
theorem sound_lit_none {j pos} : PE X (.Constant .none j pos) (semE L G W C (.lit .none)) := pe_non.imp fun σ H Q ⟨R, h, env, rh, re, x⟩ => x.pure rh _ .none
theorem sound_lit_bool {b j pos} : PE X (.Constant (.bool b) j pos) (semE L G W C (.lit (.bool b))) := pe_bl.imp fun σ H Q ⟨R, h, env, rh, re, x⟩ => x.pure rh _ (.bool b)
theorem sound_lit_int {i j pos} : PE X (.Constant (.int i) j pos) (semE L G W C (.lit (.int i))) := pe_int.imp fun σ H Q ⟨R, h, env, rh, re, x⟩ => x.pure rh _ (.int i)
theorem sound_lit_str {s j pos} : PE X (.Constant (.str (toS s)) j pos) (semE L G W C (.lit (.str s))) := pe_str.imp fun σ H Q ⟨R, h, env, rh, re, x⟩ => x.pure rh _ (.str s)
theorem sound_loc {i : Nat} {x : Str} {pos : Pos} (hx : G.exs i = none) (hN : X.N[i]? = some x) (hv : Vis X.env.scope x) (hd : (x == ("__debug__" : Str)) = false) (hcd : (x == ("__classdict__" : Str)) = false) : PE X (.Name x pos) (semE L G W C (.loc i)) := by
  refine (pe_var hN hv hd hcd).imp ?_
  rintro σ H Q ⟨R, h, env, rh, re, x⟩
  obtain ⟨v, e, f⟩ := SemR.opt (o := (env[i]?.join)) x
  have e' : env[i]? = some (some v) := by
    cases q : env[i]? with
    | none => rw [q] at e; cases e
    | some o => rw [q] at e; cases o with
      | none => cases e
      | some u => cases e; rfl
  rcases re.at_ i v e' with ⟨y, e1, r1⟩ | ⟨_, _, _, _, _, _, _, e2, _⟩
  · exact ⟨y, e1, f R H Xt.refl rh y r1⟩
  · rw [hx] at e2; cases e2

theorem sound_con {x : String} {v : Val} {u : Value} {V : L2.V} {pos : Pos} (hx : C.prog.cons.lookup x = some v) (hg : Gl X (nm x)) (hm : X.mg (nm x) = some u) (r : RelV V u) (rv : ∀ (R : Mp) (n : Nat) (H : Hp), VRL L G H R n v V) (hd : (nm x == ("__debug__" : Str)) = false) :
    PE X (.Name (nm x) pos) (semE L G W C (.con x)) := by
  refine (pe_glob hg hm r hd).imp ?_
  rintro σ H Q ⟨R, h, env, rh, re, y⟩
  obtain ⟨v', e, f⟩ := SemR.opt (o := C.prog.cons.lookup x) y
  rw [hx] at e
  cases e
  exact f R H Xt.refl rh _ (rv _ _ _)

/-! ### truth -/
theorem line_eq : (Mini.line : Nat) = sizeLine := by rw [sizeLine_eq]; rfl
theorem VRs.isE {H : Hp} {R : Mp} {n : Nat} {xs : List Val} {vs : List L2.V} (r : VRs L.K G H R n xs vs) : xs.isEmpty = vs.isEmpty := by cases r <;> rfl
theorem KVR.isE {H : Hp} {R : Mp} {n : Nat} {xs : List (Val × Val)} {vs : List (Key × L2.V)} (r : KVR L.K G H R n xs vs) : xs.isEmpty = vs.isEmpty := by cases r <;> rfl
theorem toS_len (s : Mini.Txt) : (toS s).length = s.length := by simp [toS, Str.length]
theorem HR.list0 {R : Mp} {h : Mini.Heap} {H : Hp} {n : Nat} {xs : List Val} (rh : HRL L G R h H) (e : h[n]? = some (.list xs)) : ∃ vs, H (R n) = some (.lst vs) ∧ VRs L.K noClo H R h.length xs vs := rh.at_ n _ e
theorem HR.dict0 {R : Mp} {h : Mini.Heap} {H : Hp} {n : Nat} {kvs : List (Val × Val)} (rh : HRL L G R h H) (e : h[n]? = some (.dict kvs)) : ∃ ks, H (R n) = some (.dK ks) ∧ KVR L.K noClo H R h.length kvs ks := rh.at_ n _ e
theorem HR.list {R : Mp} {h : Mini.Heap} {H : Hp} {n : Nat} {xs : List Val} (rh : HRL L G R h H) (e : h[n]? = some (.list xs)) : ∃ vs, H (R n) = some (.lst vs) ∧ VRs L.K G H R h.length xs vs := by
  obtain ⟨vs, e1, r⟩ := rh.at_ n _ e
  exact ⟨vs, e1, r.up⟩
theorem HR.dict {R : Mp} {h : Mini.Heap} {H : Hp} {n : Nat} {kvs : List (Val × Val)} (rh : HRL L G R h H) (e : h[n]? = some (.dict kvs)) : ∃ ks, H (R n) = some (.dK ks) ∧ KVR L.K G H R h.length kvs ks := by
  obtain ⟨vs, e1, r⟩ := rh.at_ n _ e
  exact ⟨vs, e1, r.up⟩
theorem tru_of {R : Mp} {h : Mini.Heap} {H : Hp} {v : Val} {u : L2.V} {b : Bool} (rh : HRL L G R h H) (rv : VRL L G H R h.length v u) (e : Mini.truthy h v = some b) : TruV L.K u H b := by
  cases rv with
  | none => cases e; rfl
  | bool b' => cases e; rfl
  | int i => cases e; rfl
  | str s =>
    simp only [Mini.truthy] at e
    split at e
    · rename_i hl
      cases e
      refine ⟨by rw [toS_len, ← line_eq]; exact hl, ?_⟩
      rw [toS_len]
      cases s with
      | nil => rfl
      | cons a r =>
        have : (((a :: r).length : Nat) : Int) ≠ 0 := by simp only [List.length_cons]; omega
        rw [bne_iff_ne.mpr this]; rfl
    · cases e
  | rep _ => cases e
  | tup q r => cases e; exact .inr (.inl ⟨_, q, by rw [r.isE]⟩)
  | lst q d r => cases e; exact .inl ⟨_, .of q, by rw [r.isE]⟩
  | scr q r => cases e; exact .inl ⟨_, q.sq, by rw [r.isE]⟩
  | ref hi =>
    rename_i i
    simp only [Mini.truthy] at e
    split at e
    · rename_i xs ex
      cases e
      obtain ⟨vs, e1, r⟩ := HR.list rh ex
      exact .inl ⟨_, .of e1, by rw [r.isE]⟩
    · rename_i kvs ex
      cases e
      obtain ⟨vs, e1, r⟩ := HR.dict rh ex
      exact .inr (.inr ⟨_, e1, by rw [r.isE]⟩)
    · cases e
  | clo _ _ => cases e
  | emp q d => cases e; exact .inr (.inr ⟨_, q, rfl⟩)
/-- the truth of a value, in the run -/
theorem SemR.tru {R : Mp} {h : Mini.Heap} {H : Hp} {σ : L2.St} {v : Val} {u : L2.V} {p : Mp → Mini.Heap → Hp → Bool → Prop} (rh : HRL L G R h H) (rv : VRL L G H R h.length v u)
    (x : SemR L G W (Mini.M.opt (Mini.truthy h v) h) R h H σ p) : ∃ b, TruV L.K u H b ∧ p R h H b := by
  obtain ⟨b, e, f⟩ := x.opt
  exact ⟨b, tru_of rh rv e, f R H Xt.refl rh⟩
theorem sound_not {A : Expr} {a : Ex} {pos : Pos} (hK : X.K = L.K) (ha : PE X A (semE L G W C a)) : PE X (.UnaryOp .Not A pos) (semE L G W C (.not a)) := by
  refine (pe_notT ha).imp ?_
  rintro σ H Q ⟨R, h, env, rh, re, x⟩
  simp only [evalE, Mini.tst] at x
  refine ⟨R, h, env, rh, re, x.bind.bind.imp fun R1 h1 H1 v t1 r1 x1 => fun V rv => ?_⟩
  obtain ⟨b, tv, y⟩ := SemR.tru r1 rv x1
  exact ⟨b, hK ▸ tv, y.pure r1 _ (.bool _)⟩
theorem sound_and {A : Expr} {B : List Expr} {a b : Ex} {e : Expr} {pos : Pos} (hK : X.K = L.K) (ha : PE X A (semE L G W C a)) (hb : PE X (.BoolOp .And (e :: B) pos) (semE L G W C b)) : PE X (.BoolOp .And (A :: e :: B) pos) (semE L G W C (.and a b)) := by
  refine (pe_andT ha hb).imp ?_
  rintro σ H Q ⟨R, h, env, rh, re, x⟩
  simp only [evalE] at x
  refine ⟨R, h, env, rh, re, x.bind.imp fun R1 h1 H1 v t1 r1 x1 => fun V rv => ?_⟩
  obtain ⟨k, tv, y⟩ := SemR.tru r1 rv x1.bind
  refine ⟨k, hK ▸ tv, ?_⟩
  cases k with
  | true => exact ⟨R1, h1, env, r1, re.mono (t1.mo rh), y⟩
  | false => exact y.pure r1 _ rv
theorem sound_or {A : Expr} {B : List Expr} {a b : Ex} {e : Expr} {pos : Pos} (hK : X.K = L.K) (ha : PE X A (semE L G W C a)) (hb : PE X (.BoolOp .Or (e :: B) pos) (semE L G W C b)) : PE X (.BoolOp .Or (A :: e :: B) pos) (semE L G W C (.or a b)) := by
  refine (pe_orT ha hb).imp ?_
  rintro σ H Q ⟨R, h, env, rh, re, x⟩
  simp only [evalE] at x
  refine ⟨R, h, env, rh, re, x.bind.imp fun R1 h1 H1 v t1 r1 x1 => fun V rv => ?_⟩
  obtain ⟨k, tv, y⟩ := SemR.tru r1 rv x1.bind
  refine ⟨k, hK ▸ tv, ?_⟩
  cases k with
  | false => exact ⟨R1, h1, env, r1, re.mono (t1.mo rh), y⟩
  | true => exact y.pure r1 _ rv
theorem sound_one {A : Expr} {op : BoolOp} {a : Ex} {pos : Pos} (ha : PE X A (semE L G W C a)) : PE X (.BoolOp op [A] pos) (semE L G W C a) := pe_one ha

/-! ### tests -/
theorem test_not {A : Expr} {a : Ex} {pos : Pos} (ha : PT X A (semT L G W C a)) : PT X (.UnaryOp .Not A pos) (semT L G W C (.not a)) := by
  refine (pt_not ha).imp ?_
  rintro σ H Q ⟨R, h, env, rh, re, x⟩
  rw [Mini.tst_not] at x
  exact ⟨R, h, env, rh, re, x.bind.imp fun R1 h1 H1 b t1 r1 x1 => x1.pure r1⟩
theorem test_and {A : Expr} {B : List Expr} {a b : Ex} {e : Expr} {pos : Pos} (ha : PT X A (semT L G W C a)) (hb : PW X (.BoolOp .And (e :: B) pos) (semT L G W C b)) : PW X (.BoolOp .And (A :: e :: B) pos) (semT L G W C (.and a b)) := by
  refine ⟨fun wh pins s σ H Q I q => (pw_and ha hb).run wh pins s σ H Q I ?_⟩
  obtain ⟨R, h, env, rh, re, x⟩ := q
  rw [Mini.tst_and] at x
  refine ⟨R, h, env, rh, re, x.bind.imp fun R1 h1 H1 k t1 r1 x1 => ?_⟩
  show if k = true then _ else _
  cases k with
  | true => exact ⟨R1, h1, env, r1, re.mono (t1.mo rh), x1⟩
  | false => exact x1.pure r1
theorem test_or {A : Expr} {B : List Expr} {a b : Ex} {e : Expr} {pos : Pos} (ha : PT X A (semT L G W C a)) (hb : PW X (.BoolOp .Or (e :: B) pos) (semT L G W C b)) : PW X (.BoolOp .Or (A :: e :: B) pos) (semT L G W C (.or a b)) := by
  refine ⟨fun wh pins s σ H Q I q => (pw_or ha hb).run wh pins s σ H Q I ?_⟩
  obtain ⟨R, h, env, rh, re, x⟩ := q
  rw [Mini.tst_or] at x
  refine ⟨R, h, env, rh, re, x.bind.imp fun R1 h1 H1 k t1 r1 x1 => ?_⟩
  show if k = true then _ else _
  cases k with
  | false => exact ⟨R1, h1, env, r1, re.mono (t1.mo rh), x1⟩
  | true => exact x1.pure r1
theorem test_and1 {A : Expr} {a : Ex} {pos : Pos} (ha : PT X A (semT L G W C a)) : PW X (.BoolOp .And [A] pos) (semT L G W C a) := pw_and1 ha
theorem test_or1 {A : Expr} {a : Ex} {pos : Pos} (ha : PT X A (semT L G W C a)) : PW X (.BoolOp .Or [A] pos) (semT L G W C a) := pw_or1 ha
/-- a value's truth -/
theorem test_val {A : Expr} {a : Ex} (hK : X.K = L.K) (ha : PE X A (semE L G W C a)) (he : ∀ whole, isTrue A X.env whole = (do let v ← whole; standAt A.pos; holding [v] (truthy v))) : PT X A (semT L G W C a) := by
  refine (pt_truth ha he).imp ?_
  rintro σ H Q ⟨R, h, env, rh, re, x⟩
  unfold Mini.tst at x
  refine ⟨R, h, env, rh, re, x.bind.imp fun R1 h1 H1 v t1 r1 x1 => fun V rv => ?_⟩
  obtain ⟨b, tv, y⟩ := SemR.tru r1 rv x1
  exact ⟨b, hK ▸ tv, y⟩
/-- a comparison: its value is a bool -/
theorem test_cmp {A : Expr} {a : Ex} {t : TE} (h : PT X A (tTest t)) (hi : ∀ σ H Q, semE L G W C a σ H Q → t σ H Q) (hb : ∀ env h v h', evalE C a env h = .ok v h' → ∃ b, v = .bool b) : PT X A (semT L G W C a) := by
  refine h.imp ?_
  rintro σ H Q ⟨R, h, env, rh, re, x⟩
  refine hi σ H _ ⟨R, h, env, rh, re, ?_⟩
  unfold Mini.tst at x
  have y := x.bind
  cases e : evalE C a env h with
  | ok v h1 =>
    rw [e] at y
    obtain ⟨b, rfl⟩ := hb _ _ _ _ e
    intro R1 H1 t1 r1 V rv
    have z : SemR L G W (Mini.M.opt (Mini.truthy h1 (.bool b)) h1) R1 h1 H1 σ (bpost Q) := y R1 H1 t1 r1
    obtain ⟨w, e2, f⟩ := z.opt
    cases e2
    exact ⟨b, rv.bl, f R1 H1 Xt.refl r1⟩
  | exn c v h1 => rw [e] at y; exact y
  | bad => rw [e] at y; exact y
theorem sound_ite {T A B : Expr} {c a b : Ex} {pos : Pos} (hc : PT X T (semT L G W C c)) (ha : PE X A (semE L G W C a)) (hb : PE X B (semE L G W C b)) : PE X (.IfExp T A B pos) (semE L G W C (.ite c a b)) := by
  refine (pe_ifExp hc ha hb).imp ?_
  rintro σ H Q ⟨R, h, env, rh, re, x⟩
  simp only [evalE] at x
  refine ⟨R, h, env, rh, re, x.bind.imp fun R1 h1 H1 k t1 r1 x1 => ?_⟩
  show if k = true then _ else _
  cases k with
  | true => exact ⟨R1, h1, env, r1, re.mono (t1.mo rh), x1⟩
  | false => exact ⟨R1, h1, env, r1, re.mono (t1.mo rh), x1⟩

/-! ### arguments, tuples, lists -/
theorem args_nil : PA X [] (semA L G W C []) := by
  refine pa_nil.imp ?_
  rintro σ H Q ⟨R, h, env, rh, re, x⟩
  simp only [evalEs] at x
  exact x.pure rh _ .nil
theorem args_cons {A : Expr} {B : List Expr} {a : Ex} {b : List Ex} (ha : PE X A (semE L G W C a)) (hb : PA X B (semA L G W C b)) (hs : starEach (A :: B) X.env = (false, eval A X.env) :: starEach B X.env) : PA X (A :: B) (semA L G W C (a :: b)) := by
  refine (pa_cons ha hb hs).imp ?_
  rintro σ H Q ⟨R, h, env, rh, re, x⟩
  simp only [evalEs] at x
  refine ⟨R, h, env, rh, re, x.bind.imp fun R1 h1 H1 v t1 r1 x1 => fun V rv => ?_⟩
  refine ⟨R1, h1, env, r1, re.mono (t1.mo rh), x1.bind.imp fun R2 h2 H2 vs t2 r2 x2 => fun Vs rvs => ?_⟩
  exact x2.pure r2 _ (.cons (rv.mono (t2.mo r1)) rvs)
theorem HR.mo_aux {R : Mp} {h : Mini.Heap} {H : Hp} {p : Addr} {o : HO} (rh : HRL L G R h H) (hp : H p = none) : Mo R h.length H R h.length (upd H p o) := (xt_aux hp).mo rh
theorem sound_tup {A : List Expr} {es : List Ex} {x1 : Nat} {pos : Pos} (ha : PA X A (semA L G W C es)) (hl : es.length ≤ Mini.line) : PE X (.Tuple A x1 pos) (semE L G W C (.tup es)) := by
  refine (pe_tup ha).imp ?_
  rintro σ H Q ⟨R, h, env, rh, re, x⟩
  simp only [evalE] at x
  refine ⟨R, h, env, rh, re, x.bind.impE fun R1 h1 H1 vs ev t1 r1 x1 => fun Vs rvs => ⟨?_, fun p hp => ?_⟩⟩
  · rw [← rvs.length, Mini.evalEs_length _ _ _ _ _ _ ev, ← line_eq]; exact hl
  · have mo := HR.mo_aux (o := .tup Vs) r1 hp
    exact x1 R1 _ (xt_aux hp) (r1.aux hp) _ (.tup (.of upd_same) (rvs.mono mo))
/-- a new list -/
theorem sound_lst {A : List Expr} {es : List Ex} {pos : Pos} (ha : PA X A (semA L G W C es)) (hl : es.length ≤ Mini.line) : PE X (.List A pos) (semF L G W C (.lst es)) := by
  refine (pe_lst ha).imp ?_
  rintro σ H Q ⟨R, h, env, rh, re, x⟩
  simp only [evalE] at x
  refine ⟨R, h, env, rh, re, x.bind.impE fun R1 h1 H1 vs ev t1 r1 x1 => fun Vs rvs => ⟨?_, fun p hp => ?_⟩⟩
  · rw [← rvs.length, Mini.evalEs_length _ _ _ _ _ _ ev, ← line_eq]; exact hl
  · exact (x1 R1 _ (xt_aux hp) (r1.aux hp)).1 vs p Vs H1 rfl (fresh_back t1 r1 hp) hp rfl t1 r1 rvs
/-- a new list as a value -/
theorem val_sem {e : Ex} : ∀ σ H Q, semE L G W C e σ H Q → semF L G W C e σ H Q := by
  rintro σ H Q ⟨R, h, env, rh, re, x⟩
  refine ⟨R, h, env, rh, re, x.imp fun R1 h1 H1 v t1 r1 x1 => ⟨?_, fun V _ rv => x1 V rv⟩⟩
  intro xs a vs H0 e1 e2 e3 e4 t0 r0 rv
  subst e1
  subst e4
  exact x1 _ (.lst upd_same (r0.off e3) (rv.mono (HR.mo_aux (o := .lst vs) r0 e3)))
theorem fresh_val {A : Expr} {e : Ex} (ha : PE X A (semF L G W C e)) : PE X A (semE L G W C e) := ha.imp val_sem
/-- the place of one object more -/
def ext1 (R : Mp) (n : Nat) (a : Addr) : Mp := ⟨fun i => if i = n then a else R i, R.own⟩
theorem ext1_lt {R : Mp} {n i : Nat} {a : Addr} (h : i < n) : ext1 R n a i = R i := by show (if i = n then a else R i) = _; rw [if_neg (by omega)]
theorem ext1_at {R : Mp} {n : Nat} {a : Addr} : ext1 R n a n = a := by show (if n = n then a else R n) = _; rw [if_pos rfl]
/-- a new object of ours -/
theorem mo_new {R : Mp} {h : Mini.Heap} {H : Hp} {a : Addr} {o : HO} (rh : HRL L G R h H) (ha : H a = none) : Mo R h.length H (ext1 R h.length a) (h.length + 1) (upd H a o) :=
  ⟨Nat.le_succ _, fun i hi => ext1_lt hi, fun i h1 h2 => by rw [show i = h.length by omega, ext1_at]; exact ha, fun b u e q => q, fun b u e _ _ => by rw [upd_ne (ne_of_none e ha)]; exact e, fun i hi => by obtain ⟨u, e, m⟩ := rh.there hi; rw [e]; exact m, fun b q => rh.ow b q⟩
theorem new_obj {R : Mp} {h : Mini.Heap} {H : Hp} {a : Addr} {o : HO} {ob : Mini.Obj} (rh : HRL L G R h H) (ha : H a = none) (hn : OR L.K L.co noClo (upd H a o) (ext1 R h.length a) (h.length + 1) a ob) :
    HRL L G (ext1 R h.length a) (h ++ [ob]) (upd H a o) ∧ Xt R h H (ext1 R h.length a) (h ++ [ob]) (upd H a o) := by
  have hl : (h ++ [ob]).length = h.length + 1 := by simp
  refine ⟨⟨fun i j hi hj e => ?_, fun i q e => ?_, fun b q => ?_, fun i hi q => ?_, tabs_to rh.tab fun b u e _ => by rw [upd_ne (ne_of_none e ha)]; exact e⟩, ⟨by omega, fun i hi => ext1_lt hi, rfl, fun i h1 h2 => by rw [show i = h.length by omega, ext1_at]; exact ha, fun b u e _ _ => by rw [upd_ne (ne_of_none e ha)]; exact e, fun b ps e => tb0 (by rw [upd_ne (ne_of_none e ha)]; exact e)⟩⟩
  · rw [hl] at hi hj
    have no : ∀ k < h.length, R k ≠ a := (rh.off ha).1
    by_cases hi' : i = h.length <;> by_cases hj' : j = h.length
    · omega
    · subst hi'; rw [ext1_at, ext1_lt (by omega)] at e; exact absurd e.symm (no j (by omega))
    · subst hj'; rw [ext1_at, ext1_lt (by omega)] at e; exact absurd e (no i (by omega))
    · rw [ext1_lt (by omega), ext1_lt (by omega)] at e; exact rh.inj i j (by omega) (by omega) e
  · rw [hl]
    by_cases hi : i < h.length
    · rw [List.getElem?_append_left hi] at e
      rw [ext1_lt hi]
      have q0 := rh.at_ i q e
      obtain ⟨u, eu, _⟩ := rh.there hi
      exact q0.mono (mo_new rh ha) (by rw [upd_ne (ne_of_none eu ha)])
    · have h2 := (List.getElem?_eq_some_iff.mp e).1
      rw [hl] at h2
      have h3 : i = h.length := by omega
      subst h3
      rw [List.getElem?_append_right (Nat.le_refl _)] at e
      simp at e
      subst e
      rw [ext1_at]
      exact hn
  · have m := rh.ow b q
    have ne : b ≠ a := fun z => by rw [z, ha] at m; exact m
    rw [upd_ne ne]; exact m
  · rw [hl] at hi
    by_cases hi' : i = h.length
    · subst hi'; rw [ext1_at] at q; exact (rh.off ha).2 q
    · rw [ext1_lt (by omega)] at q; exact rh.owR i (by omega) q
theorem thaw_sem {e : Ex} : ∀ σ H Q, semE L G W C (.thaw e) σ H Q → semF L G W C e σ H Q := by
  rintro σ H Q ⟨R, h, env, rh, re, x⟩
  simp only [evalE] at x
  refine ⟨R, h, env, rh, re, ?_⟩
  unfold Mini.M.bind at x
  cases ev : evalE C e env h with
  | ok v h1 =>
    rw [ev] at x
    intro R1 H1 t1 r1
    refine ⟨?_, fun V nl rv => by
      cases v with
      | lst xs => exact absurd rfl (nl xs)
      | _ => exact x.elim⟩
    intro xs a vs H0 e1 e2 e3 e4 t0 r0 rv
    subst e1
    subst e4
    have y : SemR L G W (if Mini.stills xs then .ok (.ref h1.length) (h1 ++ [.list xs]) else .bad) R h H σ (vpost L G Q) := x
    split at y
    · rename_i hst
      have mo := mo_new (o := .lst vs) r0 e3
      obtain ⟨n1, n2⟩ := new_obj (o := .lst vs) (ob := .list xs) r0 e3 ⟨vs, upd_same, (rv.stil _ _ hst).mono mo⟩
      have z := y _ _ (t0.trans r0 n2) n1 (.ref (ext1 R1 h1.length a h1.length)) (.ref (by simp))
      rw [ext1_at] at z
      exact z
    · exact y.elim
  | exn c v h1 => rw [ev] at x; exact x
  | bad => rw [ev] at x; exact x.elim

theorem sound_thaw {A : Expr} {e : Ex} (ha : PE X A (semF L G W C e)) : PE X A (semE L G W C (.thaw e)) := ha.imp thaw_sem

/-! ### operators -/
theorem or_add (hK : X.K = L.K) : OpR X (binaryOp .Add) (fun x y H Q => ((rI0 fun i j => .int (i + j)) x y H Q ∨ (∃ i j, x = .str i ∧ y = .str j ∧ i.length + j.length ≤ sizeLine ∧ Q (.str (i ++ j)) H)) ∨ (rCatA L.K x y H Q ∨ rCat x y H Q)) :=
  OpR.or (OpR.or op_add op_add_str) (OpR.or (hK ▸ op_catA) op_cat)
theorem toS_append (a b : Mini.Txt) : toS a ++ toS b = toS (a ++ b) := by
  show Str.append _ _ = _
  simp [toS, Str.append]
theorem lstOf_at {R : Mp} {h : Mini.Heap} {H : Hp} {v : Val} {u : L2.V} {xs : List Val} (rh : HRL L G R h H) (rv : VRL L G H R h.length v u) (e : Mini.lstOf h v = some xs) : ∃ a vs, u = .ref a ∧ H a = some (.lst vs) ∧ VRs L.K G H R h.length xs vs := by
  cases rv with
  | lst q d r => cases e; exact ⟨_, _, rfl, q, r⟩
  | ref hi =>
    simp only [Mini.lstOf] at e
    split at e
    · rename_i ys ex
      cases e
      obtain ⟨vs, e1, r⟩ := HR.list rh ex
      exact ⟨_, _, rfl, e1, r⟩
    · cases e
  | _ => cases e
theorem seqOf_at {R : Mp} {h : Mini.Heap} {H : Hp} {v : Val} {u : L2.V} {xs : List Val} (rh : HRL L G R h H) (rv : VRL L G H R h.length v u) (e : Mini.seqOf h v = some xs) : ∃ a vs, u = .ref a ∧ (SqL L.K H a vs ∨ SqT L.K H a vs) ∧ VRs L.K G H R h.length xs vs := by
  cases rv with
  | lst q d r => cases e; exact ⟨_, _, rfl, .inl (.of q), r⟩
  | scr q r => cases e; exact ⟨_, _, rfl, .inl q.sq, r⟩
  | tup q r => cases e; exact ⟨_, _, rfl, .inr q, r⟩
  | ref hi =>
    simp only [Mini.seqOf] at e
    split at e
    · rename_i ys ex
      cases e
      obtain ⟨vs, e1, r⟩ := HR.list rh ex
      exact ⟨_, _, rfl, .inl (.of e1), r⟩
    · cases e
  | _ => cases e
/-- a value laid at p -/
theorem lay_tup {R : Mp} {h : Mini.Heap} {H : Hp} {xs : List Val} {vs : List L2.V} {p : Addr} (rh : HRL L G R h H) (hp : H p = none) (r : VRs L.K G H R h.length xs vs) : VRL L G (upd H p (.tup vs)) R h.length (.tup xs) (.ref p) :=
  .tup (.of upd_same) (r.mono (HR.mo_aux rh hp))
theorem lay_lst {R : Mp} {h : Mini.Heap} {H : Hp} {xs : List Val} {vs : List L2.V} {p : Addr} (rh : HRL L G R h H) (hp : H p = none) (r : VRs L.K G H R h.length xs vs) : VRL L G (upd H p (.lst vs)) R h.length (.lst xs) (.ref p) :=
  .lst upd_same (rh.off hp) (r.mono (HR.mo_aux rh hp))
theorem fresh_add {A B : Expr} {a b : Ex} {pos : Pos} (hK : X.K = L.K) (ha : PE X A (semE L G W C a)) (hb : PE X B (semE L G W C b)) : PE X (.BinOp A .Add B pos) (semF L G W C (.bin .add a b)) := by
  refine (pe_op (or_add hK) ha hb).imp (sem_twoF (f := fun x y h => Mini.M.opt (Mini.opBin .add h x y) h) (fun env => by rw [evalE]) (pure_twoF fun R h H x y v V U Q rh rx ry e q qf => ?_))
  have lists : ∀ {xs ys : List Val}, Mini.lstOf h x = some xs → Mini.lstOf h y = some ys → xs.length + ys.length ≤ Mini.line → v = .lst (xs ++ ys) → rCat V U H Q := by
    intro xs ys e1 e2 hl ev
    obtain ⟨p, us, rfl, p1, r1⟩ := lstOf_at rh rx e1
    obtain ⟨q', ws, rfl, p2, r2⟩ := lstOf_at rh ry e2
    exact ⟨p, q', us, ws, rfl, rfl, p1, p2, by rw [← r1.length, ← r2.length, ← line_eq]; exact hl, fun n hn => qf _ _ _ ev hn (r1.append r2)⟩
  have e : Mini.opAdd h x y = some v := e
  unfold Mini.opAdd at e
  split at e
  · cases e
    cases rx.in
    cases ry.in
    exact .inl (.inl ⟨_, _, rfl, rfl, q _ H Xt.refl rh (fun _ z => nomatch z) (.int _)⟩)
  · split at e
    · rename_i hl
      cases e
      cases rx.st
      cases ry.st
      exact .inl (.inr ⟨_, _, rfl, rfl, by rw [toS_len, toS_len, ← line_eq]; exact hl, by rw [toS_append]; exact q _ H Xt.refl rh (fun _ z => nomatch z) (.str _)⟩)
    · cases e
  · split at e
    · rename_i hl
      cases e
      cases rx with
      | tup q1 r1 => cases ry with
        | tup q2 r2 =>
          refine .inr (.inl ⟨_, _, _, _, rfl, rfl, q1, q2, by rw [← r1.length, ← r2.length, ← line_eq]; exact hl, fun z => ?_, fun z1 z => ?_, fun z1 z2 p hp => ?_⟩)
          · subst z
            cases r1
            exact q _ H Xt.refl rh (fun _ z => nomatch z) (.tup q2 r2)
          · subst z
            cases r2
            rw [List.append_nil] at q
            exact q _ H Xt.refl rh (fun _ z => nomatch z) (.tup q1 r1)
          · exact q _ _ (xt_aux hp) (rh.aux hp) (fun _ z => nomatch z) (lay_tup rh hp (r1.append r2))
    · cases e
  · split at e
    · rename_i e1 e2
      split at e
      · rename_i hl
        cases e
        exact .inr (.inr (lists e1 e2 hl rfl))
      · cases e
    · cases e
/-- a pure operation of two ints -/
theorem two_ints {op : Mini.BOp} {c : Int → Int → Bool} {f : Int → Int → Int} {Cd : Int → Int → Prop} (ho : ∀ h a b, Mini.opBin op h a b = Mini.op2 c f a b) (hc : ∀ i j, c i j = true → Cd i j) :
    ∀ (R : Mp) (h : Mini.Heap) (H : Hp) (x y v : Val) (V U : L2.V) (Q : VK), HRL L G R h H → VRL L G H R h.length x V → VRL L G H R h.length y U → Mini.opBin op h x y = some v →
      (∀ H' V', Xt R h H R h H' → HRL L G R h H' → VRL L G H' R h.length v V' → Q V' H') → rI Cd (fun i j => .int (f i j)) V U H Q := by
  intro R h H x y v V U Q rh rx ry e q
  rw [ho] at e
  unfold Mini.op2 at e
  split at e
  · split at e
    · rename_i hcc
      cases e
      cases rx.in
      cases ry.in
      exact ⟨_, _, rfl, rfl, hc _ _ hcc, q H _ Xt.refl rh (.int _)⟩
    · cases e
  · cases e
theorem small_of {k : Nat} {i : Int} (h : Mini.small k i = true) : i.natAbs < 2 ^ k := of_decide_eq_true h
theorem sound_op2 {A B : Expr} {a b : Ex} {op : Mini.BOp} {O : Operator} {c : Int → Int → Bool} {f : Int → Int → Int} {Cd : Int → Int → Prop} {pos : Pos} (ho : ∀ h a b, Mini.opBin op h a b = Mini.op2 c f a b) (hc : ∀ i j, c i j = true → Cd i j)
    (hO : OpR X (binaryOp O) (rI Cd fun i j => .int (f i j))) (ha : PE X A (semE L G W C a)) (hb : PE X B (semE L G W C b)) : PE X (.BinOp A O B pos) (semE L G W C (.bin op a b)) :=
  (pe_op hO ha hb).imp (sem_two (f := fun x y h => Mini.M.opt (Mini.opBin op h x y) h) (fun env => by rw [evalE]) (pure_two (two_ints ho hc)))
theorem sound_sub {A B : Expr} {a b : Ex} {pos : Pos} (ha : PE X A (semE L G W C a)) (hb : PE X B (semE L G W C b)) : PE X (.BinOp A .Sub B pos) (semE L G W C (.bin .sub a b)) :=
  sound_op2 (Cd := fun _ _ => True) (fun _ _ _ => rfl) (fun _ _ _ => trivial) (opI fun _ _ _ _ _ _ _ _ q => sub_int q) ha hb
theorem sound_fdiv {A B : Expr} {a b : Ex} {pos : Pos} (ha : PE X A (semE L G W C a)) (hb : PE X B (semE L G W C b)) : PE X (.BinOp A .FloorDiv B pos) (semE L G W C (.bin .fdiv a b)) :=
  sound_op2 (Cd := CDivW) (fun _ _ _ => rfl) (fun i j z => by
    simp only [Bool.and_eq_true, decide_eq_true_eq] at z
    exact wide_div z.1 (small_of z.2) (by decide) (by decide)) op_fdivW ha hb
theorem sound_mod {A B : Expr} {a b : Ex} {pos : Pos} (ha : PE X A (semE L G W C a)) (hb : PE X B (semE L G W C b)) : PE X (.BinOp A .Mod B pos) (semE L G W C (.bin .mod a b)) :=
  sound_op2 (Cd := fun _ j => 0 < j) (fun _ _ _ => rfl) (fun i j z => of_decide_eq_true z) op_mod ha hb
theorem cpow_of {i j : Int} (z : (0 ≤ j && j ≤ 1000 && Mini.small 64 i) = true) : CPow i j := by
  simp only [Bool.and_eq_true, decide_eq_true_eq] at z
  exact ⟨z.1.1, by omega, small_of z.2⟩
theorem sound_pow {A B : Expr} {a b : Ex} {pos : Pos} (ha : PE X A (semE L G W C a)) (hb : PE X B (semE L G W C b)) : PE X (.BinOp A .Pow B pos) (semE L G W C (.bin .pow a b)) :=
  sound_op2 (Cd := CPow) (fun _ _ _ => rfl) (fun i j z => cpow_of z) op_pow ha hb
theorem sound_shl {A B : Expr} {a b : Ex} {pos : Pos} (ha : PE X A (semE L G W C a)) (hb : PE X B (semE L G W C b)) : PE X (.BinOp A .LShift B pos) (semE L G W C (.bin .shl a b)) :=
  sound_op2 (Cd := CPow) (fun _ _ _ => rfl) (fun i j z => cpow_of z) op_shl ha hb
theorem sound_shr {A B : Expr} {a b : Ex} {pos : Pos} (ha : PE X A (semE L G W C a)) (hb : PE X B (semE L G W C b)) : PE X (.BinOp A .RShift B pos) (semE L G W C (.bin .shr a b)) :=
  sound_op2 (Cd := fun _ j => 0 ≤ j) (fun _ _ _ => rfl) (fun i j z => of_decide_eq_true z) op_shr ha hb
theorem VRs.rep {H : Hp} {R : Mp} {n : Nat} {xs : List Val} {vs : List L2.V} (r : VRs L.K G H R n xs vs) : ∀ k : Nat, VRs L.K G H R n (List.replicate k xs).flatten (List.replicate k vs).flatten
  | 0 => .nil
  | k + 1 => by
    rw [List.replicate_succ, List.replicate_succ, List.flatten_cons, List.flatten_cons]
    exact r.append (VRs.rep r k)
theorem fresh_mul {A B : Expr} {a b : Ex} {pos : Pos} (hK : X.K = L.K) (ha : PE X A (semE L G W C a)) (hb : PE X B (semE L G W C b)) : PE X (.BinOp A .Mult B pos) (semF L G W C (.bin .mul a b)) := by
  refine (pe_op (OpR.or op_mulW (OpR.or (hK ▸ op_repT : OpR X (binaryOp .Mult) (rRepT L.K)) op_rep)) ha hb).imp (sem_twoF (f := fun x y h => Mini.M.opt (Mini.opBin .mul h x y) h) (fun env => by rw [evalE]) (pure_twoF fun R h H x y v V U Q rh rx ry e q qf => ?_))
  have e : Mini.opMul h x y = some v := e
  unfold Mini.opMul at e
  split at e
  · split at e
    · rename_i hs
      cases e
      cases rx.in
      cases ry.in
      simp only [Bool.and_eq_true] at hs
      exact .inl ⟨_, _, rfl, rfl, wide_mul (small_of hs.1) (small_of hs.2) (by decide) (by decide) (by decide), q _ H Xt.refl rh (fun _ z => nomatch z) (.int _)⟩
    · cases e
  · split at e
    · rename_i hs
      cases e
      cases ry.in
      simp only [Bool.and_eq_true, Bool.not_eq_true', decide_eq_true_eq] at hs
      cases rx with
      | tup q1 r1 =>
        refine .inr (.inl ⟨_, _, _, rfl, rfl, q1, ?_, hs.1.1.2, hs.1.2, by rw [← r1.length]; exact hs.2, fun p hp => q _ _ (xt_aux hp) (rh.aux hp) (fun _ z => nomatch z) (lay_tup rh hp (r1.rep _))⟩)
        intro z
        have := hs.1.1.1
        rw [r1.isE, z] at this
        cases this
    · cases e
  · split at e
    · rename_i e1
      split at e
      · rename_i hs
        cases e
        cases ry.in
        simp only [Bool.and_eq_true, decide_eq_true_eq] at hs
        obtain ⟨p, us, rfl, p1, r1⟩ := lstOf_at rh rx e1
        have hb := small_of hs.2
        exact .inr (.inr ⟨_, _, _, rfl, rfl, p1, by omega, by omega, by rw [← r1.length, ← line_eq]; exact hs.1, fun p hp => qf _ _ _ rfl hp (r1.rep _)⟩)
      · cases e
    · cases e
  · cases e
theorem sound_neg {A : Expr} {a : Ex} {pos : Pos} (ha : PE X A (semE L G W C a)) : PE X (.UnaryOp .USub A pos) (semE L G W C (.neg a)) := by
  refine (pe_un un_neg ha).imp ?_
  rintro σ H Q ⟨R, h, env, rh, re, x⟩
  simp only [evalE] at x
  refine ⟨R, h, env, rh, re, x.bind.imp fun R1 h1 H1 v t1 r1 x1 => fun V rv => ?_⟩
  cases v with
  | int i =>
    cases rv.in
    exact ⟨_, rfl, x1.pure r1 _ (.int _)⟩
  | _ => exact x1.elim
end
end MS

set_option Elab.async false
set_option linter.all false
set_option maxRecDepth 100000
set_option maxHeartbeats 4000000
/-! S0: the characters of what repr writes -/
namespace MS
open PySem PySem.Spec PyProof.Rows L2
open Mini (Val Res)
def Cok (x : Str) : Prop := ∀ c ∈ x.cps.toList, c < 0x110000
theorem cok_app {a b : Str} (ha : Cok a) (hb : Cok b) : Cok (a ++ b) := by
  intro c hc
  have e : (a ++ b).cps.toList = a.cps.toList ++ b.cps.toList := Array.toList_append
  rw [e] at hc
  rcases List.mem_append.mp hc with h | h
  · exact ha c h
  · exact hb c h
theorem char_ok (c : Char) : c.toNat < 1114112 := by
  rcases c.valid with h | h
  · have h : c.toNat < 55296 := h
    omega
  · have h : 57343 < c.toNat ∧ c.toNat < 1114112 := h
    exact h.2
theorem cok_of (s : String) : Cok (Str.ofString s) := by
  intro c hc
  rw [Str.ofString_eq_toList] at hc
  have hc : c ∈ s.toList.map Char.toNat := by simpa using hc
  obtain ⟨d, _, rfl⟩ := List.mem_map.mp hc
  exact char_ok d
theorem cok_from : ∀ (ts : List Str) (k : Nat) (acc : Str), Cok acc → (∀ t ∈ ts, Cok t) → Cok (textFrom k acc ts)
  | [], _, _, ha, _ => ha
  | t :: r, k, acc, ha, ht => by
    unfold textFrom
    exact cok_from r (k + 1) _ (cok_app (cok_app ha (cok_of _)) (ht t List.mem_cons_self)) fun x hx => ht x (List.mem_cons_of_mem _ hx)
theorem cok_list {ts : List Str} (ht : ∀ t ∈ ts, Cok t) : Cok (listText ts) := cok_app (cok_from ts 0 _ (cok_of _) ht) (cok_of _)
theorem cok_join : ∀ (ts : List Str), (∀ t ∈ ts, Cok t) → Cok (Str.join ", " ts)
  | [], _ => cok_of ""
  | [x], h => h x List.mem_cons_self
  | x :: y :: r, h => cok_app (cok_app (h x List.mem_cons_self) (cok_of _)) (cok_join (y :: r) fun z hz => h z (List.mem_cons_of_mem _ hz))
theorem cok_tuple {ts : List Str} (ht : ∀ t ∈ ts, Cok t) : Cok (tupleText ts) := cok_app (cok_app (cok_of _) (cok_join ts ht)) (cok_of _)
theorem hex_ok (w c : Nat) : ∀ x ∈ List.replicate (w - ((Nat.toDigits 16 c).map Char.toNat).length) 48 ++ (Nat.toDigits 16 c).map Char.toNat, x < 0x110000 := by
  intro x hx
  rcases List.mem_append.mp hx with h | h
  · rw [List.eq_of_mem_replicate h]; decide
  · obtain ⟨d, _, rfl⟩ := List.mem_map.mp h
    exact char_ok d
theorem reprChar_ok {q c : Nat} (hc : c < 0x110000) : ∀ x ∈ Builtin.Str.reprChar q c, x < 0x110000 := by
  intro x hx
  unfold Builtin.Str.reprChar at hx
  have two : ∀ a b : Nat, a < 0x110000 → b < 0x110000 → x ∈ [a, b] → x < 0x110000 := fun a b ha hb h => by
    simp only [List.mem_cons, List.not_mem_nil, or_false] at h
    rcases h with rfl | rfl <;> assumption
  have pre : ∀ (a b w : Nat), a < 0x110000 → b < 0x110000 → x ∈ [a, b] ++ (List.replicate (w - ((Nat.toDigits 16 c).map Char.toNat).length) 48 ++ (Nat.toDigits 16 c).map Char.toNat) → x < 0x110000 := fun a b w ha hb h => by
    rcases List.mem_append.mp h with h | h
    · exact two a b ha hb h
    · exact hex_ok w c x h
  split at hx
  · exact two _ _ (by decide) hc hx
  · split at hx
    · exact two _ _ (by decide) (by decide) hx
    · split at hx
      · exact two _ _ (by decide) (by decide) hx
      · split at hx
        · exact two _ _ (by decide) (by decide) hx
        · split at hx
          · rw [List.mem_singleton.mp hx]; exact hc
          · split at hx
            · exact pre _ _ _ (by decide) (by decide) hx
            · split at hx
              · exact pre _ _ _ (by decide) (by decide) hx
              · exact pre _ _ _ (by decide) (by decide) hx
theorem cok_repr {x : Str} (h : Cok x) : Cok (reprText x) := by
  have q : reprQuote x < 0x110000 := by
    unfold reprQuote
    split <;> decide
  have key : ∀ (l : List Nat) (acc : Array Nat), (∀ c ∈ l, c < 0x110000) → (∀ c ∈ acc.toList, c < 0x110000) → ∀ c ∈ (l.foldl (fun out c => out ++ (Builtin.Str.reprChar (reprQuote x) c).toArray) acc).toList, c < 0x110000 := by
    intro l
    induction l with
    | nil => intro acc _ ha; exact ha
    | cons a r ih =>
      intro acc hl ha
      rw [List.foldl_cons]
      refine ih _ (fun c hc => hl c (List.mem_cons_of_mem _ hc)) fun c hc => ?_
      rw [Array.toList_append] at hc
      rcases List.mem_append.mp hc with hc | hc
      · exact ha c hc
      · exact reprChar_ok (hl a List.mem_cons_self) c hc
  intro c hc
  unfold reprText at hc
  have hc : c ∈ ((x.cps.foldl (fun out c => out ++ (Builtin.Str.reprChar (reprQuote x) c).toArray) #[reprQuote x]).push (reprQuote x)).toList := hc
  rw [Array.toList_push] at hc
  rcases List.mem_append.mp hc with hc | hc
  · rw [← Array.foldl_toList] at hc
    exact key _ _ h (fun c hc => by
      have : c = reprQuote x := by simpa using hc
      rw [this]; exact q) c hc
  · rw [List.mem_singleton.mp hc]; exact q
theorem cok_int (i : Int) : Cok (Str.ofString (toString i)) := cok_of _
mutual
theorem shown_cok : ∀ (w : Val) (d : PyData) (k : Nat), Mini.plain k w = true → datOf w = some d → Cok d.shown
  | .none, d, k, p, e => by cases e; exact cok_of _
  | .bool b, d, k, p, e => by cases e; cases b <;> exact cok_of _
  | .int i, d, k, p, e => by cases e; exact cok_of _
  | .str s, d, k, p, e => by
    cases e
    have p : s.all (· < 1114112) = true := by cases k <;> exact p
    refine cok_repr fun c hc => ?_
    have h2 : c ∈ s := by simpa [toS] using hc
    exact of_decide_eq_true (List.all_eq_true.mp p c h2)
  | .tup xs, d, k, p, e => by
    simp only [datOf, Option.map_eq_some_iff] at e
    obtain ⟨ds, e1, rfl⟩ := e
    cases k with
    | zero => cases p
    | succ k => exact cok_tuple (shown_coks xs ds k p e1)
  | .lst xs, d, k, p, e => by
    simp only [datOf, Option.map_eq_some_iff] at e
    obtain ⟨ds, e1, rfl⟩ := e
    cases k with
    | zero => cases p
    | succ k => exact cok_list (shown_coks xs ds k p e1)
  | .rep _, d, k, p, e => by cases k <;> cases p
  | .ref _, d, k, p, e => by cases k <;> cases p
  | .clo _ _, d, k, p, e => by cases k <;> cases p
  | .exc _ _, d, k, p, e => by cases k <;> cases p
  | .emp, d, k, p, e => by cases k <;> cases p
  | .scr _, d, k, p, e => by cases k <;> cases p
  | .gap, d, k, p, e => by cases k <;> cases p
theorem shown_coks : ∀ (w : List Val) (d : List PyData) (k : Nat), w.all (Mini.plain k) = true → datsOf w = some d → ∀ t ∈ PyData.shownAll d, Cok t
  | [], d, k, p, e => by
    cases e
    intro t ht
    cases ht
  | x :: xs, d, k, p, e => by
    simp only [datsOf] at e
    split at e
    · rename_i e1 e2
      cases e
      simp only [List.all_cons, Bool.and_eq_true] at p
      intro t ht
      simp only [PyData.shownAll] at ht
      rcases List.mem_cons.mp ht with rfl | ht
      · exact shown_cok x _ k p.1 e1
      · exact shown_coks xs _ k p.2 e2 t ht
    · cases e
end
end MS

set_option Elab.async false
set_option linter.all false
set_option maxRecDepth 100000
set_option maxHeartbeats 4000000
/-! SC: comparisons, items, slices -/
namespace MS
open PySem PySem.Spec PyProof.Rows L2
open Mini (Val Res Ex evalE evalEs)
section
variable {L : Lk} {G : Cr} {H : Hp} {R : Mp} {N : Nat}

/-! ### data -/
mutual
theorem dp_val {f : Nat → Option Val} (F : ∀ n w k, f n = some w → n < N → Mini.plainR k w = true → ∃ d, datOf w = some d ∧ Dp L.K H (.ref (R n)) d) :
    ∀ (v w : Val) (k : Nat) (u : V), Mini.rdA f v = some w → Mini.plainR k w = true → VR L.K G H R N v u → ∃ d, datOf w = some d ∧ Dp L.K H u d
  | .none, w, k, u, e, p, r => by cases e; cases r; exact ⟨_, rfl, .non⟩
  | .bool b, w, k, u, e, p, r => by cases e; cases r; exact ⟨_, rfl, .bl b⟩
  | .int i, w, k, u, e, p, r => by cases e; cases r; exact ⟨_, rfl, .int i⟩
  | .str s, w, k, u, e, p, r => by cases e; cases r; exact ⟨_, rfl, .str _⟩
  | .rep x, w, k, _, e, p, .rep (d := d) h => by
    cases e
    exact ⟨.str d.shown, by simp only [datOf]; rw [h]; rfl, .str _⟩
  | .tup xs, w, k, _, e, p, .tup q r => by
    simp only [Mini.rdA] at e
    cases e1 : Mini.rdAs f xs with
    | none => rw [e1] at e; cases e
    | some ys =>
      rw [e1] at e
      cases e
      cases k with
      | zero => cases p
      | succ k =>
        obtain ⟨ds, e2, rd⟩ := dp_vals F xs ys k _ e1 p r
        exact ⟨.tuple ds, by simp only [datOf]; rw [e2]; rfl, .tup q rd⟩
  | .lst xs, w, k, _, e, p, .lst q _ r => by
    simp only [Mini.rdA] at e
    cases e1 : Mini.rdAs f xs with
    | none => rw [e1] at e; cases e
    | some ys =>
      rw [e1] at e
      cases e
      cases k with
      | zero => cases p
      | succ k =>
        obtain ⟨ds, e2, rd⟩ := dp_vals F xs ys k _ e1 p r
        exact ⟨.list ds, by simp only [datOf]; rw [e2]; rfl, .lst (.of q) rd⟩
  | .scr xs, w, k, _, e, p, .scr q r => by
    simp only [Mini.rdA] at e
    cases e1 : Mini.rdAs f xs with
    | none => rw [e1] at e; cases e
    | some ys =>
      rw [e1] at e
      cases e
      cases k <;> cases p
  | .ref n, w, k, _, e, p, .ref hi => F n w k e hi p
  | .clo _ _, w, k, u, e, p, r => by cases e
  | .emp, w, k, u, e, p, r => by cases e; cases k <;> cases p
  | .exc _ _, w, k, u, e, p, r => by cases r
  | .gap, w, k, u, e, p, r => by cases r
theorem dp_vals {f : Nat → Option Val} (F : ∀ n w k, f n = some w → n < N → Mini.plainR k w = true → ∃ d, datOf w = some d ∧ Dp L.K H (.ref (R n)) d) :
    ∀ (v w : List Val) (k : Nat) (u : List V), Mini.rdAs f v = some w → w.all (Mini.plainR k) = true → VRs L.K G H R N v u → ∃ d, datsOf w = some d ∧ DpAll L.K H u d
  | [], w, k, _, e, p, .nil => by cases e; exact ⟨[], rfl, .nil⟩
  | x :: xs, w, k, _, e, p, .cons r t => by
    simp only [Mini.rdAs] at e
    cases e1 : Mini.rdA f x with
    | none => rw [e1] at e; cases e
    | some y =>
      cases e2 : Mini.rdAs f xs with
      | none => rw [e1, e2] at e; cases e
      | some ys =>
        rw [e1, e2] at e
        cases e
        simp only [List.all_cons, Bool.and_eq_true] at p
        obtain ⟨d, h1, h2⟩ := dp_val F x y k _ e1 p.1 r
        obtain ⟨ds, h3, h4⟩ := dp_vals F xs ys k _ e2 p.2 t
        exact ⟨d :: ds, by simp only [datsOf]; rw [h1, h3], .cons h2 h4⟩
end
theorem dp_rdN {h : Mini.Heap} (rh : HRL L G R h H) : ∀ (j n : Nat) (w : Val) (k : Nat), Mini.rdN 0 h j n = some w → n < h.length → Mini.plainR k w = true → ∃ d, datOf w = some d ∧ Dp L.K H (.ref (R n)) d
  | 0, n, w, k, e, _, _ => by cases e
  | j + 1, n, w, k, e, hn, p => by
    simp only [Mini.rdN, Nat.not_lt_zero, if_false] at e
    split at e
    · rename_i xs ex
      cases e1 : Mini.rdAs (Mini.rdN 0 h j) xs with
      | none => rw [e1] at e; cases e
      | some ys =>
        rw [e1] at e
        cases e
        obtain ⟨vs, e2, r⟩ := HR.list rh ex
        cases k with
        | zero => cases p
        | succ k =>
          obtain ⟨ds, e3, rd⟩ := dp_vals (fun n w k => dp_rdN rh j n w k) xs ys k _ e1 p r
          exact ⟨.list ds, by simp only [datOf]; rw [e3]; rfl, .lst (.of e2) rd⟩
    · cases e
theorem dp_rdR {h : Mini.Heap} {v w : Val} {u : V} {k : Nat} (rh : HRL L G R h H) (rv : VRL L G H R h.length v u) (e : Mini.rd 0 h v = some w) (p : Mini.plainR k w = true) : ∃ d, datOf w = some d ∧ Dp L.K H u d :=
  dp_val (fun n w k => dp_rdN rh 6 n w k) v w k u e p rv

mutual
theorem plain_R : ∀ (k : Nat) (v : Val), Mini.plain k v = true → Mini.plainR k v = true
  | k, .none, _ => by cases k <;> rfl
  | k, .bool _, _ => by cases k <;> rfl
  | k, .int _, _ => by cases k <;> rfl
  | k, .str s, h => by cases k <;> simpa only [Mini.plain, Mini.plainR] using h
  | k + 1, .tup xs, h => by
    simp only [Mini.plain] at h
    simp only [Mini.plainR]
    exact plain_Rs k xs h
  | k + 1, .lst xs, h => by
    simp only [Mini.plain] at h
    simp only [Mini.plainR]
    exact plain_Rs k xs h
  | 0, .tup xs, h => by cases h
  | 0, .lst xs, h => by cases h
  | k, .rep _, h => by cases k <;> cases h
  | k, .ref _, h => by cases k <;> cases h
  | k, .clo _ _, h => by cases k <;> cases h
  | k, .exc _ _, h => by cases k <;> cases h
  | k, .emp, h => by cases k <;> cases h
  | k, .gap, h => by cases k <;> cases h
  | k, .scr _, h => by cases k <;> cases h
theorem plain_Rs : ∀ (k : Nat) (xs : List Val), xs.all (Mini.plain k) = true → xs.all (Mini.plainR k) = true
  | _, [], _ => rfl
  | k, x :: r, h => by
    simp only [List.all_cons, Bool.and_eq_true] at h ⊢
    exact ⟨plain_R k x h.1, plain_Rs k r h.2⟩
end
theorem dp_rd {h : Mini.Heap} {v w : Val} {u : V} {k : Nat} (rh : HRL L G R h H) (rv : VRL L G H R h.length v u) (e : Mini.rd 0 h v = some w) (p : Mini.plain k w = true) : ∃ d, datOf w = some d ∧ Dp L.K H u d :=
  dp_rdR rh rv e (plain_R k w p)
mutual
theorem plainR_dat : ∀ (k : Nat) (w : Val) (d : PyData), Mini.plainR k w = true → datOf w = some d → d.canLay0 = true ∧ d.depth ≤ k
  | k, .none, d, p, e => by cases e; exact ⟨rfl, Nat.zero_le _⟩
  | k, .bool b, d, p, e => by cases e; exact ⟨rfl, Nat.zero_le _⟩
  | k, .int i, d, p, e => by cases e; exact ⟨rfl, Nat.zero_le _⟩
  | k, .str s, d, p, e => by
    cases e
    refine ⟨?_, Nat.zero_le _⟩
    have p : s.all (· < 1114112) = true := by cases k <;> exact p
    simp only [PyData.canLay0, PyData.strOk, toS, List.all_toArray]
    exact p
  | k, .tup xs, d, p, e => by
    cases k with
    | zero => cases p
    | succ k =>
      simp only [datOf] at e
      cases e1 : datsOf xs with
      | none => rw [e1] at e; cases e
      | some ds =>
        rw [e1] at e
        cases e
        obtain ⟨h1, h2⟩ := plainR_dats k xs ds p e1
        exact ⟨by simp only [PyData.canLay0]; exact h1, by simp only [PyData.depth]; omega⟩
  | k, .lst xs, d, p, e => by
    cases k with
    | zero => cases p
    | succ k =>
      simp only [datOf] at e
      cases e1 : datsOf xs with
      | none => rw [e1] at e; cases e
      | some ds =>
        rw [e1] at e
        cases e
        obtain ⟨h1, h2⟩ := plainR_dats k xs ds p e1
        exact ⟨by simp only [PyData.canLay0]; exact h1, by simp only [PyData.depth]; omega⟩
  | k, .rep v, d, p, e => by
    simp only [datOf, Option.map_eq_some_iff] at e
    obtain ⟨d0, e1, rfl⟩ := e
    refine ⟨?_, Nat.zero_le _⟩
    have p : (Mini.plain 60 v || decide (v = .emp)) = true := by cases k <;> exact p
    have c : Cok d0.shown := by
      rcases Bool.or_eq_true _ _ ▸ p with p | p
      · exact shown_cok v d0 60 p e1
      · obtain rfl := of_decide_eq_true p
        cases e1
        exact cok_of "{}"
    simp only [PyData.canLay0, PyData.strOk]
    rw [Array.all_eq_true']
    exact fun x hx => decide_eq_true (c x (Array.mem_toList_iff.mpr hx))
  | k, .ref _, d, p, e => by cases e
  | k, .clo _ _, d, p, e => by cases e
  | k, .exc _ _, d, p, e => by cases e
  | k, .emp, d, p, e => by cases k <;> cases p
  | k, .scr _, d, p, e => by cases e
  | k, .gap, d, p, e => by cases e
theorem plainR_dats : ∀ (k : Nat) (w : List Val) (d : List PyData), w.all (Mini.plainR k) = true → datsOf w = some d → PyData.canLayAll0 d = true ∧ PyData.depthAll d ≤ k
  | k, [], d, p, e => by cases e; exact ⟨rfl, Nat.zero_le _⟩
  | k, x :: xs, d, p, e => by
    simp only [List.all_cons, Bool.and_eq_true] at p
    simp only [datsOf] at e
    cases e1 : datOf x with
    | none => rw [e1] at e; cases e
    | some y =>
      cases e2 : datsOf xs with
      | none => rw [e1, e2] at e; cases e
      | some ys =>
        rw [e1, e2] at e
        cases e
        obtain ⟨h1, h2⟩ := plainR_dat k x y p.1 e1
        obtain ⟨h3, h4⟩ := plainR_dats k xs ys p.2 e2
        exact ⟨by simp only [PyData.canLayAll0, h1, h3]; rfl, by simp only [PyData.depthAll]; omega⟩
end
theorem shaped_R {k : Nat} {w : Val} {d : PyData} (hk : k ≤ 64) (p : Mini.plainR k w = true) (e : datOf w = some d) : SeqAt.shaped d = true := by
  obtain ⟨h1, h2⟩ := plainR_dat k w d p e
  unfold SeqAt.shaped
  rw [h1, decide_eq_true (by omega)]
  rfl
theorem plain_dat (k : Nat) (w : Val) (d : PyData) (p : Mini.plain k w = true) (e : datOf w = some d) : d.canLay0 = true ∧ d.depth ≤ k := plainR_dat k w d (plain_R k w p) e
theorem shaped_of {k : Nat} {w : Val} {d : PyData} (hk : k ≤ 64) (p : Mini.plain k w = true) (e : datOf w = some d) : SeqAt.shaped d = true := shaped_R hk (plain_R k w p) e
theorem toS_beq (x y : Mini.Txt) : (toS x == toS y) = (x == y) := by
  rw [Bool.eq_iff_iff, beq_iff_eq, beq_iff_eq]
  exact ⟨toS_inj, fun e => by rw [e]⟩
mutual
theorem eqv_dat : ∀ (a b : Val) (d e : PyData) (j k : Nat), Mini.plain j a = true → Mini.plain k b = true → datOf a = some d → datOf b = some e → PyData.eqv d e = Mini.eqv a b := by
  intro a b d e j k pa pb ha hb
  cases a <;> cases b <;> simp only [datOf, Option.some.injEq, reduceCtorEq, Option.map_eq_some_iff] at ha hb <;> first
    | (exfalso; exact ha)
    | (exfalso; exact hb)
    | (exfalso; cases j <;> cases pa; done)
    | (exfalso; cases k <;> cases pb; done)
    | skip
  all_goals try (subst ha)
  all_goals try (subst hb)
  all_goals try (obtain ⟨x, hx, rfl⟩ := ha)
  all_goals try (obtain ⟨y, hy, rfl⟩ := hb)
  all_goals try (simp only [PyData.eqv, Mini.eqv])
  all_goals try (exact toS_beq _ _)
  all_goals try rfl
  all_goals (cases j with
    | zero => cases pa
    | succ j => cases k with
      | zero => cases pb
      | succ k => exact eqv_dats _ _ _ _ j k pa pb hx hy)
theorem eqv_dats : ∀ (a b : List Val) (d e : List PyData) (j k : Nat), a.all (Mini.plain j) = true → b.all (Mini.plain k) = true → datsOf a = some d → datsOf b = some e → PyData.eqvAll d e = Mini.eqvs a b := by
  intro a b d e j k pa pb ha hb
  cases a with
  | nil =>
    cases ha
    cases b with
    | nil => cases hb; rfl
    | cons y ys =>
      simp only [datsOf] at hb
      split at hb
      · cases hb; rfl
      · cases hb
  | cons x xs =>
    simp only [datsOf] at ha
    split at ha
    · rename_i h1 h2
      cases ha
      cases b with
      | nil => cases hb; rfl
      | cons y ys =>
        simp only [datsOf] at hb
        split at hb
        · rename_i h3 h4
          cases hb
          simp only [List.all_cons, Bool.and_eq_true] at pa pb
          simp only [PyData.eqvAll, Mini.eqvs]
          rw [eqv_dat x y _ _ j k pa.1 pb.1 h1 h3, eqv_dats xs ys _ _ j k pa.2 pb.2 h2 h4]
        · cases hb
    · cases ha
end
end
section
variable {L : Lk} {G : Cr} {W : WX} {C : Mini.Cx} {X : L2.Cx}
/-! ### comparisons, by values -/
/-- what an operator that hands on a bool must do -/
abbrev CmpOk (L : Lk) (G : Cr) (op : Mini.COp) (r : R2) : Prop := ∀ (R : Mp) (h : Mini.Heap) (H : Hp) (x y : Val) (b : Bool) (V U : L2.V) (Q : VK), HRL L G R h H → VRL L G H R h.length x V → VRL L G H R h.length y U → Mini.opCmp op h x y = some b → Q (.bl b) H → r V U H Q
def rEqM (K : PySem.W.Frag) : R2 := fun x y H Q => rEqD K x y H Q ∨ rEq x y H Q
def rNeM (K : PySem.W.Frag) : R2 := fun x y H Q => rNeD K x y H Q ∨ rNe x y H Q
theorem cmp_eq : CmpOk L G .eq (rEqM L.K) := by
  intro R h H x y b V U Q rh rx ry e q
  have e : Mini.opEq h x y = some b := e
  unfold Mini.opEq at e
  split at e
  · split at e
    · rename_i exy
      cases e
      subst exy
      cases rx with
      | rep h1 => cases ry with
        | rep h2 =>
          rw [h1] at h2
          cases h2
          exact .inr ⟨rfl, by rw [decide_eq_true rfl]; exact q⟩
    · cases e
  · split at e
    · rename_i e1 e2
      split at e
      · rename_i hp
        cases e
        simp only [Bool.and_eq_true] at hp
        obtain ⟨d, f1, p1⟩ := dp_rd rh rx e1 hp.1
        obtain ⟨d', f2, p2⟩ := dp_rd rh ry e2 hp.2
        exact .inl ⟨d, d', p1, p2, shaped_of (by decide) hp.1 f1, shaped_of (by decide) hp.2 f2, by rw [eqv_dat _ _ _ _ _ _ hp.1 hp.2 f1 f2]; exact q⟩
      · split at e
        · rename_i hq
          cases e
          simp only [Bool.and_eq_true, decide_eq_true_eq] at hq
          obtain ⟨exy, hr⟩ := hq
          subst exy
          obtain ⟨d, f1, p1⟩ := dp_rdR rh rx e1 hr
          obtain ⟨d', f2, p2⟩ := dp_rdR rh ry e2 hr
          rw [f1] at f2
          cases f2
          have sh := shaped_R (by decide) hr f1
          refine .inl ⟨d, d, p1, p2, sh, sh, ?_⟩
          rw [PySem.SeqAt.eqv_refl d (plainR_dat _ _ _ hr f1).1]
          exact q
        · cases e
    · cases e
theorem cmp_ne : CmpOk L G .ne (rNeM L.K) := by
  intro R h H x y b V U Q rh rx ry e q
  have e : (Mini.opEq h x y).map not = some b := e
  cases e0 : Mini.opEq h x y with
  | none => rw [e0] at e; cases e
  | some c =>
    rw [e0] at e
    cases e
    rcases cmp_eq R h H x y c V U (fun v H' => v = .bl c ∧ H' = H) rh rx ry e0 ⟨rfl, rfl⟩ with ⟨d, d', h1, h2, h3, h4, h5, _⟩ | ⟨h1, h2, _⟩
    · exact .inl ⟨d, d', h1, h2, h3, h4, by injection h5 with h5; rw [h5]; exact q⟩
    · exact .inr ⟨h1, by injection h2 with h2; rw [h2]; exact q⟩
theorem cmp_int {op : Mini.COp} {f : Int → Int → Bool} (ho : ∀ h a b, Mini.opCmp op h a b = Mini.opInt f a b) : CmpOk L G op (rI0 fun i j => .bl (f i j)) := by
  intro R h H x y b V U Q rh rx ry e q
  rw [ho] at e
  unfold Mini.opInt at e
  split at e
  · cases e
    cases rx.in
    cases ry.in
    exact ⟨_, _, rfl, rfl, q⟩
  · cases e
theorem cmp_is : CmpOk L G .is (fun x y H Q => y = .non ∧ Q (.bl (decide (x = .non))) H) := by
  intro R h H x y b V U Q rh rx ry e q
  have e : Mini.opIs x y = some b := e
  unfold Mini.opIs at e
  split at e
  · rename_i hy
    cases e
    subst hy
    refine ⟨ry.no, ?_⟩
    have : decide (V = .non) = decide (x = .none) := by cases rx <;> simp
    rw [this]; exact q
  · cases e
theorem cmp_isnot : CmpOk L G .isnot (fun x y H Q => y = .non ∧ Q (.bl (!decide (x = .non))) H) := by
  intro R h H x y b V U Q rh rx ry e q
  have e : (Mini.opIs x y).map not = some b := e
  cases e0 : Mini.opIs x y with
  | none => rw [e0] at e; cases e
  | some c =>
    rw [e0] at e
    cases e
    obtain ⟨h1, h2, _⟩ := cmp_is R h H x y c V U (fun v H' => v = .bl c ∧ H' = H) rh rx ry e0 ⟨rfl, rfl⟩
    exact ⟨h1, by injection h2 with h2; rw [h2]; exact q⟩
/-- a comparison -/
theorem cmp_sem {a b : Ex} {op : Mini.COp} {r : R2} (ok : CmpOk L G op r) : ∀ σ H Q, semE L G W C (.cmp op a b) σ H Q → tOp r (semE L G W C a) (semE L G W C b) σ H Q :=
  sem_two (f := fun x y h => Mini.M.opt ((Mini.opCmp op h x y).map .bool) h) (fun env => by rw [evalE]) fun R h H σ x y V U Q rh rx ry q => by
    obtain ⟨v, e, f⟩ := q.opt
    cases e0 : Mini.opCmp op h x y with
    | none => rw [e0] at e; cases e
    | some c =>
      rw [e0] at e
      cases e
      exact ok R h H x y c V U Q rh rx ry e0 (f R H Xt.refl rh _ (.bool c))
theorem sound_cmp {A B : Expr} {O : CmpOp} {a b : Ex} {op : Mini.COp} {r : R2} {pos : Pos} (ok : CmpOk L G op r) (ho : OpR X (compareOp O) r) (hm : behindInMarks O B = false) (ha : PE X A (semE L G W C a)) (hb : PE X B (semE L G W C b)) :
    PE X (.Compare A [O] [B] pos) (semE L G W C (.cmp op a b)) := (pe_cmpR ho ha hb hm).imp (cmp_sem ok)
theorem test_cmp' {A B : Expr} {O : CmpOp} {a b : Ex} {op : Mini.COp} {r : R2} {pos : Pos} (ok : CmpOk L G op r) (ho : OpR X (compareOp O) r) (hm : behindInMarks O B = false) (ha : PE X A (semE L G W C a)) (hb : PE X B (semE L G W C b)) :
    PT X (.Compare A [O] [B] pos) (semT L G W C (.cmp op a b)) := by
  refine test_cmp (pt_cmpR ho ha hb hm) (cmp_sem ok) fun env h v h' e => ?_
  simp only [evalE, Mini.M.bind] at e
  split at e
  · split at e
    · cases e0 : Mini.opCmp op _ _ _ with
      | none => rw [e0] at e; cases e
      | some c => rw [e0] at e; cases e; exact ⟨c, rfl⟩
    · cases e
    · cases e
  · cases e
  · cases e
end
end MS

set_option Elab.async false
set_option linter.all false
set_option maxRecDepth 100000
set_option maxHeartbeats 4000000
/-! SD: items, slices, built-in functions -/
namespace MS
open PySem PySem.Spec PyProof.Rows L2
open Mini (Val Res Ex evalE evalEs)
section
variable {L : Lk} {G : Cr} {W : WX} {C : Mini.Cx} {X : L2.Cx}

/-! ### dicts by their keys -/
theorem keyOf_inj {a b : Val} {q : Key} (ha : keyOf a = some q) (hb : keyOf b = some q) : a = b := by
  cases a <;> simp only [keyOf, Option.some.injEq, reduceCtorEq] at ha <;> cases b <;> simp only [keyOf, Option.some.injEq, reduceCtorEq] at hb <;> subst ha
  · injection hb with hb; rw [hb]
  · cases hb
  · cases hb
  · injection hb with hb; rw [toS_inj hb]
theorem keyOf_V {H : Hp} {R : Mp} {n : Nat} {k : Val} {q : Key} {u : V} (hk : keyOf k = some q) (r : VR L.K G H R n k u) : u = kV q := by
  cases k <;> simp only [keyOf, Option.some.injEq, reduceCtorEq] at hk
  · subst hk; exact r.in
  · subst hk; exact r.st
theorem keyOf_flat {k : Val} (h : Mini.flatKey k = true) : ∃ q, keyOf k = some q := by
  cases k <;> simp only [Mini.flatKey, Bool.false_eq_true] at h <;> exact ⟨_, rfl⟩
theorem kvr_val {H : Hp} {R : Mp} {n : Nat} {k : Val} {q : Key} (hk : keyOf k = some q) : ∀ {kvs : List (Val × Val)} {ks : List (Key × V)}, KVR L.K G H R n kvs ks →
    (∀ v, kvs.lookup k = some v → ∃ x, valV ks q = some x ∧ VR L.K G H R n v x) ∧ (kvs.lookup k = none → valV ks q = none)
  | _, _, .nil => ⟨fun v e => by simp at e, fun _ => rfl⟩
  | _, _, .cons (k := k') (x := x) (q := q') (v := v) (r := r) (s := s) hk' rx t => by
    obtain ⟨h1, h2⟩ := kvr_val hk t
    by_cases e : k = k'
    · subst e
      rw [hk] at hk'
      cases hk'
      refine ⟨fun w e => ?_, fun e => ?_⟩
      · rw [List.lookup_cons, beq_self_eq_true] at e
        cases e
        exact ⟨v, valV_pos rfl, rx⟩
      · rw [List.lookup_cons, beq_self_eq_true] at e
        cases e
    · have nq : ¬ q' = q := fun z => e (keyOf_inj hk (z ▸ hk'))
      have nb : (k == k') = false := beq_eq_false_iff_ne.mpr e
      refine ⟨fun w e => ?_, fun e => ?_⟩
      · rw [List.lookup_cons, nb] at e
        obtain ⟨x, e1, r1⟩ := h1 w e
        exact ⟨x, by rw [valV_neg nq]; exact e1, r1⟩
      · rw [List.lookup_cons, nb] at e
        rw [valV_neg nq]; exact h2 e

/-! ### items -/
theorem ixOf_ixN (n : Nat) (i : Int) : Mini.ixOf n i = ixN n i := rfl
theorem at_of {H : Hp} {R : Mp} {n : Nat} {xs : List Val} {vs : List V} {i : Int} {v : Val} (r : VRs L.K G H R n xs vs) (e : ((Mini.ixOf xs.length i).bind fun k => xs[k]?) = some v) : ∃ x, atI vs i = some x ∧ VR L.K G H R n v x := by
  rw [ixOf_ixN, r.length] at e
  cases e1 : ixN vs.length i with
  | none => rw [e1] at e; cases e
  | some k =>
    rw [e1] at e
    obtain ⟨x, e2, r2⟩ := r.get e
    exact ⟨x, by unfold atI; rw [e1]; exact e2, r2⟩
def rIxD : R2 := fun x y H Q => ∃ a v, x = .ref a ∧ DGet H a y (some v) ∧ Q v H
theorem ix_dict (hu : X.A.units + 1 < cLine) : IxR X rIxD := by
  intro value slice pins s σ H x y v u Q I rx ry h hs
  obtain ⟨a, w, rfl, g, q⟩ := h
  cases rx
  exact tail_any (dict_typeIs I g) PySem.F.slot_dict_getitem.lookup (d_getItem hu I g ry fun w' s3 I3 rw' => ⟨w, H, I3, rw', q⟩) hs
theorem sound_idx {A B : Expr} {a b : Ex} {pos : Pos} (hK : X.K = L.K) (hu : X.A.units + 1 < cLine) (ha : PE X A (semE L G W C a)) (hb : PE X B (semE L G W C b)) (hs : PlainIx B) : PE X (.Subscript A B pos) (semE L G W C (.idx a b)) := by
  refine (pe_ix (IxR.or (IxR.or (ix_list (X := X)) (ix_tup (X := X))) (IxR.or (ix_str (X := X)) (ix_dict hu))) ha hb hs).imp (sem_two (f := fun x y h => Mini.M.opt (Mini.getIt h x y) h) (fun env => by rw [evalE]) (pure_two fun R h H x y v V U Q rh rx ry e q => ?_))
  rw [hK]
  have go : ∀ u, VRL L G H R h.length v u → Q u H := fun u r => q H u Xt.refl rh r
  unfold Mini.getIt at e
  split at e
  · cases ry.in
    cases rx with
    | tup q1 r1 =>
      obtain ⟨x, e1, r2⟩ := at_of r1 e
      exact .inl (.inr ⟨_, _, _, _, rfl, rfl, q1, e1, go _ r2⟩)
  · cases ry.in
    cases rx with
    | lst q1 d r1 =>
      obtain ⟨x, e1, r2⟩ := at_of r1 e
      exact .inl (.inl ⟨_, _, _, _, rfl, rfl, .of q1, e1, go _ r2⟩)
  · cases ry.in
    cases rx with
    | scr q1 r1 =>
      obtain ⟨x, e1, r2⟩ := at_of r1 e
      exact .inl (.inl ⟨_, _, _, _, rfl, rfl, q1.sq, e1, go _ r2⟩)
  · rename_i s i
    cases ry.in
    cases rx.st
    split at e
    · rename_i hl
      cases e1 : Mini.ixOf s.length i with
      | none => rw [e1] at e; cases e
      | some k =>
        rw [e1] at e
        cases e2 : s[k]? with
        | none => simp only [Option.bind, e2, Option.map] at e; cases e
        | some c =>
          simp only [Option.bind, e2, Option.map, Option.some.injEq] at e
          subst e
          refine .inr (.inl ⟨_, _, c, rfl, rfl, by rw [toS_len, ← line_eq]; exact hl, ?_, go _ (.str [c])⟩)
          unfold atI
          show (ixN (toS s).cps.toList.length i).bind _ = _
          have e3 : (toS s).cps.toList = s := by simp [toS]
          rw [e3, ← ixOf_ixN, e1]
          exact e2
    · cases e
  · split at e
    · rename_i xs ex
      split at e
      · cases ry.in
        cases rx with
        | ref hi =>
          obtain ⟨vs, q1, r1⟩ := HR.list rh ex
          obtain ⟨x, e1, r2⟩ := at_of r1 e
          exact .inl (.inl ⟨_, _, _, _, rfl, rfl, .of q1, e1, go _ r2⟩)
      · cases e
    · rename_i kvs ex
      split at e
      · rename_i hk
        cases rx with
        | ref hi =>
          obtain ⟨ks, q1, r1⟩ := HR.dict rh ex
          obtain ⟨qk, hq⟩ := keyOf_flat hk
          obtain ⟨x, e1, r2⟩ := (kvr_val hq r1).1 _ e
          exact .inr (.inr ⟨_, _, rfl, .inl ⟨ks, qk, .inl q1, keyOf_V hq ry, e1.symm⟩, go _ r2⟩)
      · cases e
    · cases e
  · cases e

/-! ### slices -/
def semO (L : Lk) (G : Cr) (W : WX) (C : Mini.Cx) (e : Ex) : TO := fun σ H Q => ∃ R h env, HRL L G R h H ∧ ERL L G H R h.length env σ ∧ SemR L G W (evalE C e env h) R h H σ (fun _ _ H' v => ∃ o, Mini.partOf v = some o ∧ Q o H')
theorem part_none : PO X none (semO L G W C (.lit .gap)) := by
  refine ⟨fun pins s σ H Q I q => po_none.run pins s σ H Q I ?_⟩
  obtain ⟨R, h, env, rh, re, x⟩ := q
  obtain ⟨o, e, y⟩ := x.pure rh
  cases e
  exact y
theorem part_some {A : Expr} {a : Ex} (ha : PE X A (semE L G W C a)) : PO X (some A) (semO L G W C a) := by
  refine ⟨fun pins s σ H Q I q => (po_some ha).run pins s σ H Q I ?_⟩
  obtain ⟨R, h, env, rh, re, x⟩ := q
  refine ⟨R, h, env, rh, re, x.imp fun R1 h1 H1 v t1 r1 ⟨o, e, y⟩ => fun V rv => ?_⟩
  cases v with
  | int i =>
    cases e
    cases rv.in
    exact ⟨i, rfl, y⟩
  | gap => cases rv
  | _ => cases e
theorem endOf_sIx (n d : Nat) (o : Option Int) : Mini.endOf n d o = HT.sIx n d o := by cases o <;> rfl
theorem cut_of {H : Hp} {R : Mp} {n : Nat} {xs : List Val} {vs : List V} (r : VRs L.K G H R n xs vs) (lo hi : Option Int) : VRs L.K G H R n (Mini.cut xs lo hi) (cutV vs lo hi) := by
  unfold Mini.cut cutV
  rw [endOf_sIx, endOf_sIx, r.length]
  exact (r.drop _).take _
theorem cut_whole {xs : List Val} {lo hi : Option Int} (h : HT.sIx xs.length 0 lo = 0 ∧ HT.sIx xs.length xs.length hi = xs.length) : Mini.cut xs lo hi = xs := by
  unfold Mini.cut
  rw [endOf_sIx, endOf_sIx, h.1, h.2]
  simp
theorem cutS_of (s : Mini.Txt) (lo hi : Option Int) : cutS (toS s) lo hi = toS (Mini.cut s lo hi) := by
  unfold cutS Mini.cut
  rw [endOf_sIx, endOf_sIx]
  simp [toS, Str.length]
theorem fresh_slice {A : Expr} {B D : Option Expr} {a b d : Ex} {p2 pos : Pos} (hK : X.K = L.K) (ha : PE X A (semE L G W C a)) (hb : PO X B (semO L G W C b)) (hd : PO X D (semO L G W C d)) : PE X (.Subscript A (.Slice B D none p2) pos) (semF L G W C (.slice a b d)) := by
  refine (pe_slice (SlR.or (sl_tupA (X := X)) (SlR.or (sl_list (X := X)) (sl_str (X := X)))) ha hb hd).imp ?_
  rintro σ H Q ⟨R, h, env, rh, re, x⟩
  rw [hK]
  simp only [evalE] at x
  refine ⟨R, h, env, rh, re, x.bind.imp fun R1 h1 H1 v t1 r1 x1 => fun V rv => ?_⟩
  refine ⟨R1, h1, env, r1, re.mono (t1.mo rh), x1.bind.bind.imp fun R2 h2 H2 vl t2 r2 x2 => ?_⟩
  obtain ⟨lo, e1, f1⟩ := x2.opt
  refine ⟨lo, e1, R2, h2, env, r2, (re.mono (t1.mo rh)).mono (t2.mo r1), (f1 R2 H2 Xt.refl r2).bind.bind.imp fun R3 h3 H3 vu t3 r3 x3 => ?_⟩
  obtain ⟨hi, e2, f2⟩ := x3.opt
  refine ⟨hi, e2, ?_⟩
  obtain ⟨w, e, f⟩ := (f2 R3 H3 Xt.refl r3).opt
  have t03 := (t1.trans r1 t2).trans r2 t3
  have rv3 := (rv.mono (t2.mo r1)).mono (t3.mo r2)
  unfold Mini.sliceIt at e
  split at e
  · cases e
    cases rv3 with
    | tup q1 q2 =>
      refine .inl ⟨_, _, rfl, q1, fun z => (f R3 H3 Xt.refl r3).2 _ (fun _ z => nomatch z) ?_, fun z p hp => ?_⟩
      · rw [← q2.length] at z
        rw [cut_whole z]
        exact .tup q1 q2
      · exact (f R3 _ (xt_aux hp) (r3.aux hp)).2 _ (fun _ z => nomatch z) (lay_tup r3 hp (cut_of q2 lo hi))
  · split at e
    · rename_i hl
      cases e
      cases rv3.st
      exact .inr (.inr ⟨_, rfl, by rw [toS_len, ← line_eq]; exact hl, by rw [cutS_of]; exact (f R3 H3 Xt.refl r3).2 _ (fun _ z => nomatch z) (.str _)⟩)
    · cases e
  · cases e
    cases rv3 with
    | scr q1 q2 => exact .inr (.inl ⟨_, _, rfl, q1.sq, fun p hp => (f R3 _ (xt_aux hp) (r3.aux hp)).1 _ p _ H3 rfl (fresh_back t03 r3 hp) hp rfl t03 r3 (cut_of q2 lo hi)⟩)
  · cases e1 : Mini.lstOf h3 v with
    | none => rw [e1] at e; cases e
    | some xs =>
      rw [e1] at e
      cases e
      obtain ⟨p, us, rfl, p1, q2⟩ := lstOf_at r3 rv3 e1
      exact .inr (.inl ⟨_, _, rfl, .of p1, fun p hp => (f R3 _ (xt_aux hp) (r3.aux hp)).1 _ p _ H3 rfl (fresh_back t03 r3 hp) hp rfl t03 r3 (cut_of q2 lo hi)⟩)
end
end MS

set_option Elab.async false
set_option linter.all false
set_option maxRecDepth 100000
set_option maxHeartbeats 4000000
/-! SE: [::-1]; built-in functions -/
namespace MS
open PySem PySem.Spec PyProof.Rows L2
section
variable {prog : Program} {w : World} {A : Around} {E : Value → Shared → Prop} {s : Shared}
theorem applied_back {sl : Addr} {vs : Value} {n : Nat} {Q : Int × Int × Nat → Shared → Prop} (hs : s.heap.IsSliceOf sl .none .none vs) (ps : IsPart vs (some (-1)))
    (h : Q ((n : Int) - 1, -1, n) s) : wpAny (model prog w) A (Builtin.Slice.sliceApplied (.ref sl) (pure (n : Int))) Q E s := by
  obtain ⟨ob, hob, _, hdt⟩ := id hs
  unfold Builtin.Slice.sliceApplied Builtin.Slice.sliceFields
  refine wpAny_bind (wpAny_bind (wpAny_field hob hdt (x := .none) rfl (wpAny_bind (wpAny_field hob hdt (x := .none) rfl (wpAny_bind (wpAny_field hob hdt (x := vs) rfl (wpAny_pure ?_)))))))
  refine wpAny_bind (HT.slicePart_ ps ?_)
  show wpAny _ _ (if ((-1 : Int) == 0) = true then _ else _) _ _ s
  rw [if_neg (by decide)]
  refine wpAny_bind (slicePart_none (wpAny_bind (slicePart_none (wpAny_bind (wpAny_pure ?_)))))
  have e1 : Builtin.Slice.sliceAdjust none none (-1) (n : Int) = ((n : Int) - 1, -1) := by
    unfold Builtin.Slice.sliceAdjust
    simp
  show wpAny _ _ (match Builtin.Slice.sliceAdjust none none (-1) (n : Int) with | (a, b) => pure (a, (-1 : Int), Builtin.Slice.slicePlaces a b (-1))) _ _ s
  rw [e1]
  have e2 : Builtin.Slice.slicePlaces ((n : Int) - 1) (-1) (-1) = n := by
    unfold Builtin.Slice.slicePlaces
    have h1 : ¬ ((-1 : Int) > 0) := by omega
    simp only [h1, if_false]
    have h2 : -(-1 : Int) = 1 := by decide
    rw [h2, Int.ediv_one]
    split <;> omega
  show wpAny _ _ (pure ((n : Int) - 1, (-1 : Int), Builtin.Slice.slicePlaces ((n : Int) - 1) (-1) (-1))) _ _ s
  rw [e2]
  exact wpAny_pure h
theorem pick_back (xs : List Value) : ((List.range xs.length).filterMap fun (k : Nat) => xs.toArray[(((xs.length : Nat) : Int) - 1 + (k : Int) * (-1)).toNat]?) = xs.reverse := by
  have e : ∀ k, k ∈ List.range xs.length → (fun (k : Nat) => xs.toArray[(((xs.length : Nat) : Int) - 1 + (k : Int) * (-1)).toNat]?) k = some (xs.reverse[k]?.getD .none) := by
    intro k hk
    have hk := List.mem_range.mp hk
    have e1 : (((xs.length : Nat) : Int) - 1 + (k : Int) * (-1)).toNat = xs.length - 1 - k := by omega
    show xs.toArray[(((xs.length : Nat) : Int) - 1 + (k : Int) * (-1)).toNat]? = _
    rw [e1, List.getElem?_toArray, List.getElem?_reverse hk, List.getElem?_eq_getElem (by omega)]
    rfl
  have go : ∀ l : List Nat, (∀ k ∈ l, k ∈ List.range xs.length) → l.filterMap (fun (k : Nat) => xs.toArray[(((xs.length : Nat) : Int) - 1 + (k : Int) * (-1)).toNat]?) = l.map fun k => xs.reverse[k]?.getD .none := by
    intro l
    induction l with
    | nil => intro _; rfl
    | cons a r ih =>
      intro hl
      have ea := e a (hl a List.mem_cons_self)
      rw [List.filterMap_cons, List.map_cons, ih fun k hk => hl k (List.mem_cons_of_mem _ hk)]
      simp only at ea
      rw [ea]
  rw [go _ fun _ h => h]
  refine List.ext_getElem? fun i => ?_
  rw [List.getElem?_map]
  by_cases hi : i < xs.length
  · rw [List.getElem?_range hi]
    show some (xs.reverse[i]?.getD .none) = _
    rw [List.getElem?_eq_getElem (by simpa using hi)]
    rfl
  · rw [List.getElem?_eq_none (by simpa using hi), List.getElem?_eq_none (by simpa using hi)]
    rfl
theorem getItem_tup_back {t sl : Addr} {its : List Value} {vs : Value} {Q : Value → Shared → Prop} (ht : IsTup s.heap t its.toArray) (hs : s.heap.IsSliceOf sl .none .none vs) (ps : IsPart vs (some (-1)))
    (h : Q (.ref s.heap.objs.size) { s with heap := s.heap.push { cls := .type "tuple", data := .seq its.reverse.toArray } }) (hz : its.length ≤ sizeLine) : wpAny (model prog w) A (getItem (.ref t) (.ref sl)) Q E s := by
  have fits : sizeOk (.seq its.reverse.toArray) := by
    show its.reverse.toArray.size ≤ sizeLine
    rw [List.size_toArray, List.length_reverse]
    exact hz
  have hT2 : s.TypeIs (.ref sl) "slice" := let ⟨ob, h1, h2, _⟩ := hs; ⟨ob, h1, h2⟩
  unfold getItem
  try with_reducible refine wpAny_holding ?_
  first | refine wpAny_bind (wpAny_pure ?_) | skip
  refine wpAny_bind (wpAny_sequenceKey ht.typeIs (by decide) ?_)
  refine wpAny_bind (wpAny_callSpecial?_slot (name := Str.ofString "__getitem__") ht.typeIs PyProof.Rows.slot_tuple_getitem (wpAny_call_entry PyProof.Rows.slot_tuple_getitem ht.typeIs entry_tuple_getitem ?_ (args_tuple_getitem _ _)))
  refine wpAny_bind (m := Builtin.Tuple.tupleItemsOf (.ref t)) (tupleItemsOf_ ht (wpAny_bind (wpAny_typeOf hT2 ?_)))
  rw [if_pos (by decide), List.size_toArray]
  refine wpAny_bind (applied_back hs ps ?_)
  have no : ¬ ((((its.length : Nat) : Int) - 1 == 0 && (-1 : Int) == 1 && its.length == its.length) = true) := by
    intro q
    rw [Bool.and_eq_true, Bool.and_eq_true] at q
    exact absurd q.1.2 (by decide)
  show wpAny _ _ (if (((its.length : Nat) : Int) - 1 == 0 && (-1 : Int) == 1 && its.length == its.length) = true then _ else _) _ _ s
  rw [if_neg no, pick_back]
  first
    | exact wpAny_bind (m := Builtin.Tuple.tupleExact _) (wpAny_newObj_type (wpAny_pure ⟨_, rfl, wpAny_pure h⟩) fits)
    | exact wpAny_bind (m := Builtin.Tuple.tupleExact _) (wpAny_newObj_type (wpAny_bind (wpAny_pure (wpAny_pure ⟨_, rfl, wpAny_pure h⟩))) fits)
    | exact wpAny_bind (wpAny_bind (m := Builtin.Tuple.tupleExact _) (wpAny_newObj_type (wpAny_pure (wpAny_pure ⟨_, rfl, wpAny_pure h⟩)) fits))
    | exact wpAny_bind (wpAny_bind (m := Builtin.Tuple.tupleExact _) (wpAny_newObj_type (wpAny_pure ⟨_, rfl, wpAny_pure h⟩) fits))
end
open Mini (Val Res Ex evalE evalEs)
section
variable {L : Lk} {G : Cr} {W : WX} {C : Mini.Cx} {X : L2.Cx}
def tBack (K : PySem.W.Frag) (te : TE) : TE := fun σ H Q => te σ H fun x H1 => ∃ a xs, x = .ref a ∧ ((SqL K H1 a xs ∧ ∀ p, H1 p = none → Q (.ref p) (upd H1 p (.lst xs.reverse))) ∨ (SqT K H1 a xs ∧ ∀ p, H1 p = none → Q (.ref p) (upd H1 p (.tup xs.reverse))))
theorem pe_back {e : Expr} {te : TE} {k : Nat} {p1 p2 p3 pos : Pos} (he : PE X e te) : PE X (.Subscript e (.Slice none none (some (.UnaryOp .USub (.Constant (.int 1) k p1) p2)) p3) pos) (tBack X.K te) := by
  refine ⟨fun pins s σ H Q I h => ?_⟩
  refine Subscript_ (thn (he.run pins s σ H _ I h) fun v s1 ⟨x, H1, I1, r1, a, xs, ex, q⟩ => ?_)
  subst ex
  cases r1
  have hst : PO X (some (.UnaryOp .USub (.Constant (.int 1) k p1) p2)) (tPart (tUn (rU fun i => .int (-i)) (tC (.int 1)))) := po_some (pe_un un_neg pe_int)
  refine wpAny_Slice ?_
  rw [evalPart_none]
  refine wpAny_pure (wpAny_pure ?_)
  refine thn (hst.run pins s1 σ H1 (fun o H4 => o = some (-1) ∧ H4 = H1) I1 ⟨1, rfl, -1, rfl, rfl, rfl⟩) fun vs s4 ⟨o, H4, I4, ps, eo, e4⟩ => ?_
  subst eo e4
  have I5 : Inv X pins σ H4 { s4 with heap := s4.heap.push { cls := .type "slice", data := .fields #[.none, .none, vs] } } := I4.kept (t' := s4.toks) fun b ob q => Heap.get?_push_of_some _ q
  show wpAny (model X.prog X.w) X.A (subscriptTail e (.Slice none none (some (.UnaryOp .USub (.Constant (.int 1) k p1) p2)) p3) (.ref a) (.ref s4.heap.objs.size)) (EP X pins σ Q) X.xe { s4 with heap := s4.heap.push { cls := .type "slice", data := .fields #[.none, .none, vs] } }
  rcases q with ⟨hx, q⟩ | ⟨hx, q⟩
  · obtain ⟨its, r, ht, hz⟩ := I5.list hx
    have hlen := r.length
    refine tail_any (ops := [.ref a, .ref s4.heap.objs.size]) ht.isList.typeIs (PySem.slot_list_getitem.lookup) ?_ (by with_unfolding_all rfl)
    refine wpAny_getItem_list_slice ht.isList (Heap.IsSliceOf.new _ .none .none vs) .none .none ps (by decide) ?_ (by rw [List.size_toArray]; omega)
    rw [PySem.W.krv_pick]
    refine ⟨.ref _, _, I5.laid (t' := s4.toks) (o := .lst xs.reverse) (fun b ob q => Heap.get?_push_of_some _ q) (Nat.le_refl _) ?_, rfl, q _ (I5.hok.fresh (Nat.le_refl _))⟩
    exact ⟨by rw [List.length_reverse]; exact hz, _, 0, r.reverse, Heap.get?_push_size _ rfl⟩
  · obtain ⟨its, r, ht, hz⟩ := I5.tuple hx
    have hlen := r.length
    refine tail_any (ops := [.ref a, .ref s4.heap.objs.size]) ht.typeIs (PyProof.Rows.slot_tuple_getitem.lookup) ?_ (by with_unfolding_all rfl)
    refine getItem_tup_back ht (Heap.IsSliceOf.new _ .none .none vs) ps ?_ (by omega)
    refine ⟨.ref _, _, I5.laid (t' := s4.toks) (o := .tup xs.reverse) (fun b ob q => Heap.get?_push_of_some _ q) (Nat.le_refl _) ?_, rfl, q _ (I5.hok.fresh (Nat.le_refl _))⟩
    exact ⟨by rw [List.length_reverse]; exact hz, _, r.reverse, IsTup.new _ _⟩
theorem fresh_rev {A : Expr} {a : Ex} {k : Nat} {p1 p2 p3 pos : Pos} (hK : X.K = L.K) (ha : PE X A (semE L G W C a)) : PE X (.Subscript A (.Slice none none (some (.UnaryOp .USub (.Constant (.int 1) k p1) p2)) p3) pos) (semF L G W C (.rev a)) := by
  refine (pe_back ha).imp ?_
  rintro σ H Q ⟨R, h, env, rh, re, x⟩
  rw [hK]
  simp only [evalE] at x
  refine ⟨R, h, env, rh, re, x.bind.imp fun R1 h1 H1 v t1 r1 x1 => fun V rv => ?_⟩
  obtain ⟨w, e, f⟩ := x1.opt
  unfold Mini.revIt at e
  split at e
  · cases e
    cases rv with
    | tup q1 q2 => exact ⟨_, _, rfl, .inr ⟨q1, fun p hp => (f R1 _ (xt_aux hp) (r1.aux hp)).2 _ (fun _ z => nomatch z) (lay_tup r1 hp q2.rev)⟩⟩
  · cases e1 : Mini.lstOf h1 v with
    | none => rw [e1] at e; cases e
    | some xs =>
      rw [e1] at e
      cases e
      obtain ⟨p, us, rfl, p1, q2⟩ := lstOf_at r1 rv e1
      exact ⟨_, _, rfl, .inl ⟨.of p1, fun p hp => (f R1 _ (xt_aux hp) (r1.aux hp)).1 _ p _ H1 rfl (fresh_back t1 r1 hp) hp rfl t1 r1 q2.rev⟩⟩
end
end MS

set_option Elab.async false
set_option linter.all false
set_option maxRecDepth 100000
set_option maxHeartbeats 4000000
/-! SF: built-in functions -/
namespace MS
open PySem PySem.Spec PyProof.Rows L2
open Mini (Val Res Ex evalE evalEs)
section
variable {L : Lk} {G : Cr} {W : WX} {C : Mini.Cx} {X : L2.Cx}

/-- what a built-in's rule must give -/
abbrev BiOk (L : Lk) (G : Cr) (b : Mini.Bi) (r : List L2.V → Hp → VK → Prop) : Prop := ∀ (R : Mp) (h : Mini.Heap) (H : Hp) (vs : List Val) (v : Val) (us : List L2.V) (Q : VK),
  HRL L G R h H → VRsL L G H R h.length vs us → Mini.biV b h vs = some v →
  (∀ V' H', Xt R h H R h H' → HRL L G R h H' → (∀ xs, v ≠ .lst xs) → VRL L G H' R h.length v V' → Q V' H') →
  (∀ xs ws p, v = .lst xs → H p = none → VRsL L G H R h.length xs ws → Q (.ref p) (upd H p (.lst ws))) → r us H Q
theorem bi_sem {b : Mini.Bi} {r : List L2.V → Hp → VK → Prop} {es : List Ex} (ok : BiOk L G b r) : ∀ σ H Q, semF L G W C (.bi b es) σ H Q → tCB r (semA L G W C es) σ H Q := by
  rintro σ H Q ⟨R, h, env, rh, re, x⟩
  simp only [evalE] at x
  refine ⟨R, h, env, rh, re, x.bind.imp fun R1 h1 H1 vs t1 r1 x1 => fun us rus => ?_⟩
  obtain ⟨v, e, f⟩ := x1.opt
  exact ok R1 h1 H1 vs v us Q r1 rus e (fun V' H' t' r' nl rv => (f R1 H' t' r').2 V' nl rv) fun xs ws p ev hp rw' => (f R1 _ (xt_aux hp) (r1.aux hp)).1 xs p ws H1 ev (fresh_back t1 r1 hp) hp rfl t1 r1 rw'
theorem fresh_bi {x id : Str} {i : String} {b : Mini.Bi} {r : List L2.V → Hp → VK → Prop} {E : Expr} {A : List Expr} {es : List Ex} {p pos : Pos} (ok : BiOk L G b r) (hc : CallR X (.builtin i) r) (hg : Gl X x) (hm : X.mg x = none) (hv : bootBuiltins x = some (.builtin i))
    (ha : PA X (E :: A) (semA L G W C es)) (hn : x ≠ "__name__") (hdb : (x == ("__debug__" : Str)) = false) (he : starEach (E :: A) X.env = (false, eval E X.env) :: starEach A X.env) (hpl : (backTo pos (starEach A X.env)).any (·.1) = false) :
    PE X (.Call (.Name x p) (E :: A) [] pos) (semF L G W C (.bi b es)) := (pe_callB hc hg hm hv ha hn hdb he hpl).imp (bi_sem ok)
theorem fresh_ty {x : Str} {i : String} {b : Mini.Bi} {r : List L2.V → Hp → VK → Prop} {E : Expr} {A : List Expr} {es : List Ex} {p pos : Pos} (ok : BiOk L G b r) (hc : CallR X (.type i) r) (hg : Gl X x) (hm : X.mg x = none) (hv : bootBuiltins x = some (.type i))
    (ha : PA X (E :: A) (semA L G W C es)) (hn : x ≠ "__name__") (hdb : (x == ("__debug__" : Str)) = false) (he : starEach (E :: A) X.env = (false, eval E X.env) :: starEach A X.env) (hpl : (backTo pos (starEach A X.env)).any (·.1) = false) :
    PE X (.Call (.Name x p) (E :: A) [] pos) (semF L G W C (.bi b es)) := (pe_callTy hc hg hm hv ha hn hdb he hpl).imp (bi_sem ok)

theorem VRs.one {H : Hp} {R : Mp} {n : Nat} {v : Val} {us : List L2.V} (r : VRs L.K G H R n [v] us) : ∃ u, us = [u] ∧ VR L.K G H R n v u := by
  cases r with
  | cons a b => cases b; exact ⟨_, rfl, a⟩
theorem VRs.two {H : Hp} {R : Mp} {n : Nat} {v w : Val} {us : List L2.V} (r : VRs L.K G H R n [v, w] us) : ∃ u x, us = [u, x] ∧ VR L.K G H R n v u ∧ VR L.K G H R n w x := by
  cases r with
  | cons a b =>
    obtain ⟨x, rfl, r2⟩ := VRs.one b
    exact ⟨_, _, rfl, a, r2⟩
theorem ints_vs {H : Hp} {R : Mp} {n : Nat} : ∀ {xs : List Val} {us : List L2.V} {ns : List Int}, VRs L.K G H R n xs us → Mini.intsOf xs = some ns → us = ns.map L2.V.int
  | _, _, _, .nil, e => by cases e; rfl
  | _, _, _, .cons (x := x) r t, e => by
    cases x <;> simp only [Mini.intsOf, reduceCtorEq, Option.map_eq_some_iff] at e
    obtain ⟨ms, e1, rfl⟩ := e
    rw [r.in, ints_vs t e1]
    rfl
theorem bools_vs {H : Hp} {R : Mp} {n : Nat} : ∀ {xs : List Val} {us : List L2.V} {ns : List Bool}, VRs L.K G H R n xs us → Mini.boolsOf xs = some ns → us = ns.map L2.V.bl
  | _, _, _, .nil, e => by cases e; rfl
  | _, _, _, .cons (x := x) r t, e => by
    cases x <;> simp only [Mini.boolsOf, reduceCtorEq, Option.map_eq_some_iff] at e
    obtain ⟨ms, e1, rfl⟩ := e
    rw [r.bl, bools_vs t e1]
    rfl
theorem KVR.length {G : Clo} {H : Hp} {R : Mp} {n : Nat} : ∀ {xs : List (Val × Val)} {vs : List (Key × L2.V)}, KVR L.K G H R n xs vs → xs.length = vs.length
  | _, _, .nil => rfl
  | _, _, .cons _ _ r => by rw [List.length_cons, List.length_cons, KVR.length r]

/-! ### len -/
def rLenM (K : PySem.W.Frag) : List L2.V → Hp → VK → Prop := fun xs H Q => (∃ p ys, xs = [.ref p] ∧ (SqL K H p ys ∨ SqT K H p ys) ∧ Q (.int ys.length) H) ∨ (∃ z, xs = [.str z] ∧ z.length ≤ sizeLine ∧ Q (.int z.length) H) ∨ ∃ a kvs, xs = [L2.V.ref a] ∧ H a = some (.dK kvs) ∧ Q (.int kvs.length) H
theorem cr_lenM : CallR X (.builtin "len") (rLenM X.K) := CallR.or call_len_seq (CallR.or call_len_str call_lenD)
theorem bi_len : BiOk L G .len (rLenM L.K) := by
  intro R h H vs v us Q rh rus e q qf
  have e : Mini.biLen h vs = some v := e
  unfold Mini.biLen at e
  split at e
  · obtain ⟨u, rfl, ru⟩ := rus.one
    split at e
    · rename_i hl
      cases e
      cases ru.st
      exact .inr (.inl ⟨_, rfl, by rw [toS_len, ← line_eq]; exact hl, by rw [toS_len]; exact q _ H Xt.refl rh (fun _ z => nomatch z) (.int _)⟩)
    · cases e
  · obtain ⟨u, rfl, ru⟩ := rus.one
    split at e
    · cases ru with
      | ref hi =>
        split at e
        · rename_i ex
          cases e
          obtain ⟨ys, q1, r1⟩ := HR.list rh ex
          exact .inl ⟨_, ys, rfl, .inl (.of q1), by rw [← r1.length]; exact q _ H Xt.refl rh (fun _ z => nomatch z) (.int _)⟩
        · rename_i ex
          cases e
          obtain ⟨ys, q1, r1⟩ := HR.dict rh ex
          exact .inr (.inr ⟨_, ys, rfl, q1, by rw [← KVR.length r1]; exact q _ H Xt.refl rh (fun _ z => nomatch z) (.int _)⟩)
        · cases e
    · simp only [Option.map_eq_some_iff] at e
      obtain ⟨xs, e1, rfl⟩ := e
      obtain ⟨a, ys, rfl, q1, r1⟩ := seqOf_at rh ru e1
      exact .inl ⟨_, ys, rfl, q1, by rw [← r1.length]; exact q _ H Xt.refl rh (fun _ z => nomatch z) (.int _)⟩
  · cases e

/-! ### sums, least, greatest, all, any -/
theorem ints_at {R : Mp} {h : Mini.Heap} {H : Hp} {f : List Int → Option Val} {vs : List Val} {us : List L2.V} {v : Val} (rh : HRL L G R h H) (rus : VRsL L G H R h.length vs us) (e : Mini.biInts f h vs = some v) :
    ∃ a ns, us = [L2.V.ref a] ∧ SqL L.K H a (ns.map L2.V.int) ∧ f ns = some v := by
  unfold Mini.biInts at e
  split at e
  · obtain ⟨u, rfl, ru⟩ := rus.one
    simp only [Option.bind_eq_some_iff] at e
    obtain ⟨ns, ⟨xs, e1, e2⟩, e3⟩ := e
    obtain ⟨a, ys, rfl, q1, r1⟩ := lstOf_at rh ru e1
    exact ⟨a, ns, rfl, by rw [← ints_vs r1 e2]; exact .of q1, e3⟩
  · cases e
theorem bools_at {R : Mp} {h : Mini.Heap} {H : Hp} {f : List Bool → Bool} {vs : List Val} {us : List L2.V} {v : Val} (rh : HRL L G R h H) (rus : VRsL L G H R h.length vs us) (e : Mini.biBools f h vs = some v) :
    ∃ a bs, us = [L2.V.ref a] ∧ SqL L.K H a (bs.map L2.V.bl) ∧ v = .bool (f bs) := by
  unfold Mini.biBools at e
  split at e
  · obtain ⟨u, rfl, ru⟩ := rus.one
    simp only [Option.map_eq_some_iff, Option.bind_eq_some_iff] at e
    obtain ⟨bs, ⟨xs, e1, e2⟩, e3⟩ := e
    obtain ⟨a, ys, rfl, q1, r1⟩ := lstOf_at rh ru e1
    exact ⟨a, bs, rfl, by rw [← bools_vs r1 e2]; exact .of q1, e3.symm⟩
  · cases e
theorem bi_sum : BiOk L G .sum (rSum L.K) := by
  intro R h H vs v us Q rh rus e q qf
  obtain ⟨a, ns, rfl, q1, e1⟩ := ints_at rh rus e
  cases e1
  exact ⟨a, ns, rfl, q1, q _ H Xt.refl rh (fun _ z => nomatch z) (.int _)⟩
theorem bi_all : BiOk L G .all (rAll L.K) := by
  intro R h H vs v us Q rh rus e q qf
  obtain ⟨a, bs, rfl, q1, e1⟩ := bools_at rh rus e
  cases e1
  exact ⟨a, bs, rfl, q1, q _ H Xt.refl rh (fun _ z => nomatch z) (.bool _)⟩
theorem bi_any : BiOk L G .any (rAny L.K) := by
  intro R h H vs v us Q rh rus e q qf
  obtain ⟨a, bs, rfl, q1, e1⟩ := bools_at rh rus e
  cases e1
  exact ⟨a, bs, rfl, q1, q _ H Xt.refl rh (fun _ z => nomatch z) (.bool _)⟩
theorem minI_spec : ∀ (r : List Int) (i : Int), Mini.minI i r ∈ i :: r ∧ ∀ y ∈ i :: r, Mini.minI i r ≤ y
  | [], i => ⟨by simp [Mini.minI], by simp [Mini.minI]⟩
  | b :: r, i => by
    unfold Mini.minI
    obtain ⟨h1, h2⟩ := minI_spec r (if b < i then b else i)
    refine ⟨?_, fun y hy => ?_⟩
    · rcases List.mem_cons.mp h1 with e | e
      · rw [e]; split <;> simp
      · exact List.mem_cons_of_mem _ (List.mem_cons_of_mem _ e)
    · have h3 := h2 _ List.mem_cons_self
      rcases List.mem_cons.mp hy with e | e
      · rw [e]; refine Int.le_trans h3 ?_; split <;> omega
      · rcases List.mem_cons.mp e with e | e
        · rw [e]; refine Int.le_trans h3 ?_; split <;> omega
        · exact h2 y (List.mem_cons_of_mem _ e)
theorem maxI_spec : ∀ (r : List Int) (i : Int), Mini.maxI i r ∈ i :: r ∧ ∀ y ∈ i :: r, y ≤ Mini.maxI i r
  | [], i => ⟨by simp [Mini.maxI], by simp [Mini.maxI]⟩
  | b :: r, i => by
    unfold Mini.maxI
    obtain ⟨h1, h2⟩ := maxI_spec r (if b > i then b else i)
    refine ⟨?_, fun y hy => ?_⟩
    · rcases List.mem_cons.mp h1 with e | e
      · rw [e]; split <;> simp
      · exact List.mem_cons_of_mem _ (List.mem_cons_of_mem _ e)
    · have h3 := h2 _ List.mem_cons_self
      rcases List.mem_cons.mp hy with e | e
      · rw [e]; refine Int.le_trans ?_ h3; split <;> omega
      · rcases List.mem_cons.mp e with e | e
        · rw [e]; refine Int.le_trans ?_ h3; split <;> omega
        · exact h2 y (List.mem_cons_of_mem _ e)
def rMin2 : List L2.V → Hp → VK → Prop := fun xs H Q => ∃ i j, xs = [.int i, .int j] ∧ Q (.int (if j < i then j else i)) H
def rMax2 : List L2.V → Hp → VK → Prop := fun xs H Q => ∃ i j, xs = [.int i, .int j] ∧ Q (.int (if j > i then j else i)) H
theorem bi_min : BiOk L G .min (fun xs H Q => rMin2 xs H Q ∨ rMin L.K xs H Q) := by
  intro R h H vs v us Q rh rus e q qf
  have e : Mini.biMin h vs = some v := e
  unfold Mini.biMin at e
  split at e
  · cases e
    obtain ⟨u, x, rfl, r1, r2⟩ := rus.two
    cases r1.in
    cases r2.in
    exact .inl ⟨_, _, rfl, q _ H Xt.refl rh (fun _ z => nomatch z) (.int _)⟩
  · obtain ⟨a, ns, rfl, q1, e1⟩ := ints_at rh rus e
    cases ns with
    | nil => cases e1
    | cons i r =>
      cases e1
      refine .inr ⟨a, _, rfl, q1, by simp, fun m hm hle => ?_⟩
      obtain ⟨h1, h2⟩ := minI_spec r i
      have : m = Mini.minI i r := Int.le_antisymm (hle _ h1) (h2 _ hm)
      rw [this]
      exact q _ H Xt.refl rh (fun _ z => nomatch z) (.int _)
theorem bi_max : BiOk L G .max (fun xs H Q => rMax2 xs H Q ∨ rMax L.K xs H Q) := by
  intro R h H vs v us Q rh rus e q qf
  have e : Mini.biMax h vs = some v := e
  unfold Mini.biMax at e
  split at e
  · cases e
    obtain ⟨u, x, rfl, r1, r2⟩ := rus.two
    cases r1.in
    cases r2.in
    exact .inl ⟨_, _, rfl, q _ H Xt.refl rh (fun _ z => nomatch z) (.int _)⟩
  · obtain ⟨a, ns, rfl, q1, e1⟩ := ints_at rh rus e
    cases ns with
    | nil => cases e1
    | cons i r =>
      cases e1
      refine .inr ⟨a, _, rfl, q1, by simp, fun m hm hle => ?_⟩
      obtain ⟨h1, h2⟩ := maxI_spec r i
      have : m = Mini.maxI i r := Int.le_antisymm (h2 _ hm) (hle _ h1)
      rw [this]
      exact q _ H Xt.refl rh (fun _ z => nomatch z) (.int _)
theorem bi_abs : BiOk L G .abs (fun xs H Q => ∃ i, xs = [.int i] ∧ Q (.int (if i < 0 then -i else i)) H) := by
  intro R h H vs v us Q rh rus e q qf
  have e : Mini.biAbs vs = some v := e
  unfold Mini.biAbs at e
  split at e
  · cases e
    obtain ⟨u, rfl, ru⟩ := rus.one
    cases ru.in
    exact ⟨_, rfl, q _ H Xt.refl rh (fun _ z => nomatch z) (.int _)⟩
  · cases e

/-! ### tuple, list, int, str -/
def rTupM (K : PySem.W.Frag) : List L2.V → Hp → VK → Prop := fun xs H Q => ∃ p ys, xs = [.ref p] ∧ ((SqL K H p ys ∧ ∀ l, H l = none → Q (.ref l) (upd H l (.tup ys))) ∨ (SqT K H p ys ∧ Q (.ref p) H))
theorem bi_tuple : BiOk L G .tuple (rTupM L.K) := by
  intro R h H vs v us Q rh rus e q qf
  have e : Mini.biTuple h vs = some v := e
  unfold Mini.biTuple at e
  split at e
  · obtain ⟨u, rfl, ru⟩ := rus.one
    simp only [Option.map_eq_some_iff] at e
    obtain ⟨xs, e1, rfl⟩ := e
    obtain ⟨a, ys, rfl, q1, r1⟩ := seqOf_at rh ru e1
    rcases q1 with q1 | q1
    · exact ⟨a, ys, rfl, .inl ⟨q1, fun l hl => q _ _ (xt_aux hl) (rh.aux hl) (fun _ z => nomatch z) (lay_tup rh hl r1)⟩⟩
    · exact ⟨a, ys, rfl, .inr ⟨q1, q _ H Xt.refl rh (fun _ z => nomatch z) (.tup q1 r1)⟩⟩
  · cases e
def rLstM (K : PySem.W.Frag) : List L2.V → Hp → VK → Prop := fun xs H Q => ∃ p ys, xs = [.ref p] ∧ (SqL K H p ys ∨ SqT K H p ys) ∧ ∀ l, H l = none → Q (.ref l) (upd H l (.lst ys))
theorem bi_list : BiOk L G .list (rLstM L.K) := by
  intro R h H vs v us Q rh rus e q qf
  have e : Mini.biList h vs = some v := e
  unfold Mini.biList at e
  split at e
  · obtain ⟨u, rfl, ru⟩ := rus.one
    simp only [Option.map_eq_some_iff] at e
    obtain ⟨xs, e1, rfl⟩ := e
    obtain ⟨a, ys, rfl, q1, r1⟩ := seqOf_at rh ru e1
    exact ⟨a, ys, rfl, q1, fun l hl => qf _ _ _ rfl hl r1⟩
  · cases e
theorem bi_int : BiOk L G .int (fun xs H Q => (∃ i, xs = [.int i] ∧ Q (.int i) H) ∨ ∃ k, xs = [.bl k] ∧ Q (.int (if k then 1 else 0)) H) := by
  intro R h H vs v us Q rh rus e q qf
  have e : Mini.biInt vs = some v := e
  unfold Mini.biInt at e
  split at e
  · cases e
    obtain ⟨u, rfl, ru⟩ := rus.one
    cases ru.in
    exact .inl ⟨_, rfl, q _ H Xt.refl rh (fun _ z => nomatch z) (.int _)⟩
  · cases e
    obtain ⟨u, rfl, ru⟩ := rus.one
    cases ru.bl
    exact .inr ⟨_, rfl, q _ H Xt.refl rh (fun _ z => nomatch z) (.int _)⟩
  · cases e
theorem intTxt_eq (i : Int) : (Str.ofString (toString i)) = toS (Mini.intTxt i) := by
  unfold Str.ofString Mini.intTxt toS
  rw [cpsOfBytes_string]
theorem log_small {i : Int} (h : Mini.small 1900 i = true) : i.natAbs.log2 < 1920 := by
  have h := small_of h
  exact Nat.lt_trans (PySem.Flt.log2_lt_of (by decide) h) (by decide)
/-- what str says of True, False, None -/
def strBl (xs : List L2.V) (H : Hp) (Q : VK) : Prop := ∃ b : Bool, xs = [.bl b] ∧ Q (.str (if b then "True" else "False")) H
def strNo (xs : List L2.V) (H : Hp) (Q : VK) : Prop := xs = [.non] ∧ Q (.str "None") H
theorem call_str_bl {X : L2.Cx} : CallR X (.type "str") strBl := by
  intro pins s σ H xs us Q I r h
  obtain ⟨b, rfl, q⟩ := h
  obtain ⟨u, rfl, ru⟩ := r.one
  cases ru
  exact PySem.P.str_of_bool ⟨.str _, H, I.tok _, ⟨_, rfl⟩, q⟩
theorem call_str_no {X : L2.Cx} : CallR X (.type "str") strNo := by
  intro pins s σ H xs us Q I r h
  obtain ⟨rfl, q⟩ := h
  obtain ⟨u, rfl, ru⟩ := r.one
  cases ru
  exact PySem.P.str_of_none ⟨.str _, H, I.tok _, ⟨_, rfl⟩, q⟩
theorem bi_str : BiOk L G .str (fun xs H Q => (∃ i : Int, xs = [.int i] ∧ i.natAbs.log2 < 1920 ∧ Q (.str (toString i)) H) ∨ (∃ a, xs = [.str a] ∧ Q (.str a) H) ∨ strBl xs H Q ∨ strNo xs H Q) := by
  intro R h H vs v us Q rh rus e q qf
  have e : Mini.biStr vs = some v := e
  unfold Mini.biStr at e
  split at e
  · split at e
    · rename_i hs
      cases e
      obtain ⟨u, rfl, ru⟩ := rus.one
      cases ru.in
      refine .inl ⟨_, rfl, log_small hs, ?_⟩
      rw [intTxt_eq]
      exact q _ H Xt.refl rh (fun _ z => nomatch z) (.str _)
    · cases e
  · cases e
    obtain ⟨u, rfl, ru⟩ := rus.one
    cases ru.st
    exact .inr (.inl ⟨_, rfl, q _ H Xt.refl rh (fun _ z => nomatch z) (.str _)⟩)
  · rename_i b _
    cases e
    obtain ⟨u, rfl, ru⟩ := rus.one
    cases ru.bl
    refine .inr (.inr (.inl ⟨b, rfl, ?_⟩))
    have z := q _ H Xt.refl rh (fun _ z => nomatch z) (.str _)
    cases b <;> exact z
  · cases e
    obtain ⟨u, rfl, ru⟩ := rus.one
    cases ru.no
    exact .inr (.inr (.inr ⟨rfl, q _ H Xt.refl rh (fun _ z => nomatch z) (.str _)⟩))
  · cases e

/-! ### isinstance -/
def kindTy : Mini.Kind → String
  | .kint => "int"
  | .kbool => "bool"
  | .kstr => "str"
  | .ktup => "tuple"
  | .klst => "list"
  | .kdict => "dict"
  | .kset => "set"
theorem kindIs_ty {R : Mp} {h : Mini.Heap} {H : Hp} {v : Val} {u : L2.V} {k : Mini.Kind} (rh : HRL L G R h H) (rv : VRL L G H R h.length v u) (e : Mini.kindIs h v = some k) : TyX L.K H u (.type (kindTy k)) := by
  cases rv with
  | none => cases e
  | bool b => cases e; exact .base (.bl _)
  | int b => cases e; exact .base (.int _)
  | str b => cases e; exact .base (.str _)
  | rep b => cases e; exact .base (.str _)
  | tup q r =>
    cases e
    rcases q with (q | ⟨o, q⟩) | ⟨o, its, m, q1, q2, _⟩
    · exact .base (.tup q)
    · exact .fTuple q
    · exact .kTuple q1 q2
  | lst q d r => cases e; exact .base (.lst q)
  | scr q r =>
    cases e
    rcases q with ⟨o, q⟩ | ⟨o, its, m, q1, q2, _⟩
    · exact .base (.frz q)
    · exact .kList q1 q2
  | ref hi =>
    simp only [Mini.kindIs] at e
    split at e
    · rename_i ex
      cases e
      obtain ⟨ys, q1, r1⟩ := HR.list rh ex
      exact .base (.lst q1)
    · rename_i ex
      cases e
      obtain ⟨ys, q1, r1⟩ := HR.dict rh ex
      exact .base (.dK q1)
    · rename_i ex
      exact (rh.at_ _ _ ex).elim
    · cases e
  | clo _ _ => cases e
  | emp q _ => cases e; exact .base (.dK q)
theorem kit_kinds : ∀ j k : Mini.Kind, kitB (kindTy j) (kindTy k) = some (match j with | .kbool => (k == .kbool || k == .kint) | j => j == k) := by
  intro j k
  cases j <;> cases k <;> decide +kernel
theorem kit_none : ∀ k : Mini.Kind, kitB "NoneType" (kindTy k) = some false := by
  intro k
  cases k <;> decide +kernel
def tIsi (r : List L2.V → Hp → VK → Prop) (te : TE) (c : L2.V) : TE := fun σ H Q => te σ H fun x H1 => r [x, c] H1 Q
theorem isi_sem {a : Ex} {k : Mini.Kind} : ∀ σ H Q, semE L G W C (.bi (.isi [k]) [a]) σ H Q → semE L G W C a σ H fun x H1 => rIsi L.K [x, .ty (kindTy k)] H1 Q := by
  rintro σ H Q ⟨R, h, env, rh, re, x⟩
  simp only [evalE, evalEs] at x
  refine ⟨R, h, env, rh, re, x.bind.bind.imp fun R1 h1 H1 v t1 r1 x1 => fun V rv => ?_⟩
  have y := x1.bind.pure r1
  have z := (y.pure r1)
  obtain ⟨w, e, f⟩ := SemR.opt z
  have e : Mini.biIs [k] h1 [v] = some w := e
  simp only [Mini.biIs, Option.map_eq_some_iff] at e
  obtain ⟨b, e1, rfl⟩ := e
  have fin : Q (.bl b) H1 := f R1 H1 Xt.refl r1 _ (.bool b)
  have some' : ∀ j, Mini.kindIs h1 v = some j → b = (match j with | .kbool => (k == .kbool || k == .kint) | j => j == k) → rIsi L.K [V, .ty (kindTy k)] H1 Q := fun j ej eb =>
    ⟨V, _, _, _, b, rfl, .ty _, kindIs_ty r1 rv ej, by rw [eb]; exact kit_ty (kit_kinds j k), fin⟩
  unfold Mini.isKind at e1
  split at e1
  · cases e1
    cases rv.no
    exact ⟨_, _, _, _, false, rfl, .ty _, .base .non, kit_ty (kit_none k), fin⟩
  · cases e1
  · cases e1
  · split at e1
    · rename_i ej
      cases e1
      exact some' _ ej rfl
    · rename_i j _ ej
      cases e1
      refine some' _ ej ?_
      cases j <;> first | rfl | (exfalso; simp_all)
    · cases e1
theorem sound_isi {A : Expr} {a : Ex} {k : Mini.Kind} {x y : Str} {p p' pos : Pos} (hK : X.K = L.K) (ha : PE X A (semE L G W C a)) (hg : Gl X x) (hm : X.mg x = none) (hv : bootBuiltins x = some (.builtin "isinstance")) (hy : PE X (.Name y p') (tC (.ty (kindTy k))))
    (hn : x ≠ "__name__") (hdb : (x == ("__debug__" : Str)) = false) (he : starEach [A, .Name y p'] X.env = (false, eval A X.env) :: starEach [.Name y p'] X.env) (he2 : starEach [.Name y p'] X.env = [(false, eval (.Name y p') X.env)]) (hpl : (backTo pos (starEach [.Name y p'] X.env)).any (·.1) = false) :
    PE X (.Call (.Name x p) [A, .Name y p'] [] pos) (semE L G W C (.bi (.isi [k]) [a])) := by
  refine (pe_callB call_isi hg hm hv (pa_cons ha (pa_cons hy pa_nil (by rw [he2]; rfl)) he) hn hdb he hpl).imp ?_
  intro σ H Q q
  rw [hK]
  exact isi_sem σ H Q q
end
end MS

set_option Elab.async false
set_option linter.all false
set_option maxRecDepth 100000
set_option maxHeartbeats 4000000
/-! SG: repr -/
namespace MS
open PySem PySem.Spec PyProof.Rows L2
open Mini (Val Res Ex evalE evalEs)
mutual
theorem show_dat : ∀ (w : Val) (d : PyData), Mini.showInts w = true → datOf w = some d → d.hasDict = false → d.showable = true
  | .none, d, p, e, _ => by cases e; rfl
  | .bool b, d, p, e, _ => by cases e; rfl
  | .int i, d, p, e, _ => by
    cases e
    simp only [PyData.showable]
    exact decide_eq_true (log_small (by simpa only [Mini.showInts] using p))
  | .str s, d, p, e, _ => by cases e; rfl
  | .tup xs, d, p, e, n => by
    simp only [datOf, Option.map_eq_some_iff] at e
    obtain ⟨ds, e1, rfl⟩ := e
    simp only [PyData.showable, PyData.hasDict] at n ⊢
    exact show_dats xs ds (by simpa only [Mini.showInts] using p) e1 n
  | .lst xs, d, p, e, n => by
    simp only [datOf, Option.map_eq_some_iff] at e
    obtain ⟨ds, e1, rfl⟩ := e
    simp only [PyData.showable, PyData.hasDict] at n ⊢
    exact show_dats xs ds (by simpa only [Mini.showInts] using p) e1 n
  | .rep _, d, p, e, _ => by
    simp only [datOf, Option.map_eq_some_iff] at e
    obtain ⟨_, _, rfl⟩ := e
    rfl
  | .ref _, d, p, e, _ => by cases e
  | .clo _ _, d, p, e, _ => by cases e
  | .exc _ _, d, p, e, _ => by cases e
  | .emp, d, p, e, n => by cases e; simp only [PyData.hasDict] at n; cases n
  | .scr _, d, p, e, _ => by cases e
  | .gap, d, p, e, _ => by cases e
theorem show_dats : ∀ (w : List Val) (d : List PyData), Mini.showInts.go w = true → datsOf w = some d → PyData.hasDictAll d = false → PyData.showableAll d = true
  | [], d, p, e, _ => by cases e; rfl
  | x :: xs, d, p, e, n => by
    simp only [datsOf] at e
    split at e
    · rename_i e1 e2
      cases e
      simp only [Mini.showInts.go, Bool.and_eq_true] at p
      simp only [PyData.hasDictAll, Bool.or_eq_false_iff] at n
      simp only [PyData.showableAll, show_dat x _ p.1 e1 n.1, show_dats xs _ p.2 e2 n.2]
      rfl
    · cases e
end
theorem textFrom_le : ∀ (ts : List Str) (k : Nat) (acc : Str), (textFrom k acc ts).length ≤ acc.length + piled ts
  | [], k, acc => by rw [piled_nil]; exact Nat.le_refl _
  | t :: r, k, acc => by
    have ih := textFrom_le r (k + 1) (acc ++ (if k > 0 then ", " else "" : String) ++ t)
    have e : (acc ++ (if k > 0 then ", " else "" : String) ++ t).length ≤ acc.length + 2 + t.length := by
      rw [strLen_append, strLen_append]
      have : (((if k > 0 then ", " else "" : String) : Str)).length ≤ 2 := by split <;> decide
      omega
    rw [piled_cons]
    show (textFrom (k + 1) _ r).length ≤ _
    omega
theorem listText_le (ts : List Str) : (listText ts).length ≤ piled ts + 2 := by
  have h := textFrom_le ts 0 "["
  have e1 : (("[" : String) : Str).length = 1 := rfl
  have e2 : (("]" : String) : Str).length = 1 := rfl
  unfold listText
  rw [strLen_append, e2]
  rw [e1] at h
  omega
theorem tupleText_le (ts : List Str) : (tupleText ts).length ≤ piled ts + 3 := by
  unfold tupleText
  rw [strLen_append, strLen_append]
  have e1 : (("(" : String) : Str).length = 1 := rfl
  have e2 : (((if ts.length == 1 then ",)" else ")" : String) : Str)).length ≤ 2 := by split <;> decide
  by_cases h : ts = []
  · subst h
    show 1 + (Str.join ", " []).length + _ ≤ _
    have : (Str.join ", " ([] : List Str)).length = 0 := rfl
    omega
  · have := join_length_add ts h
    rw [e1]
    omega
theorem natLen (n : Nat) : (toString n).length ≤ n.log2 + 1 := by
  have h := PySem.nat_repr_length_le (n := n) (k := n.log2 + 1) (Nat.succ_pos _) Nat.lt_log2_self
  exact h
theorem intLen (i : Int) : (Str.ofString (toString i)).length ≤ i.natAbs.log2 + 2 := by
  rw [intTxt_eq, toS_len]
  unfold Mini.intTxt
  rw [List.length_map]
  have key : ∀ n : Nat, (toString n).toList.length ≤ n.log2 + 1 := fun n => by
    have := natLen n
    rw [← String.length_toList] at this
    exact this
  cases i with
  | ofNat m => exact Nat.le_trans (key m) (Nat.le_succ _)
  | negSucc m =>
    have e : (toString (Int.negSucc m)).toList = '-' :: (toString (m + 1)).toList := by
      show (String.append "-" (toString (m + 1))).toList = _
      exact String.toList_append
    rw [e, List.length_cons]
    have := key (m + 1)
    simpa using this
mutual
theorem shown_le : ∀ (w : Val) (d : PyData) (k : Nat), Mini.plain k w = true → datOf w = some d → d.shown.length ≤ Mini.wt w
  | .none, d, k, p, e => by cases e; exact Nat.le_refl _
  | .bool b, d, k, p, e => by cases e; cases b <;> decide
  | .int i, d, k, p, e => by cases e; simp only [PyData.shown, Mini.wt]; exact intLen i
  | .str s, d, k, p, e => by
    cases e
    have p : s.all (· < 1114112) = true := by cases k <;> exact p
    simp only [PyData.shown, Mini.wt]
    rw [← toS_len s]
    refine StrLaws.reprText_len _ fun c hc => ?_
    have h2 : c ∈ s := by simpa [toS] using hc
    have h3 := of_decide_eq_true (List.all_eq_true.mp p c h2)
    exact Nat.lt_trans h3 (by decide)
  | .tup xs, d, k, p, e => by
    simp only [datOf, Option.map_eq_some_iff] at e
    obtain ⟨ds, e1, rfl⟩ := e
    cases k with
    | zero => cases p
    | succ k =>
      have h := shown_les xs ds k p e1
      simp only [PyData.shown, Mini.wt]
      exact Nat.le_trans (tupleText_le _) (by omega)
  | .lst xs, d, k, p, e => by
    simp only [datOf, Option.map_eq_some_iff] at e
    obtain ⟨ds, e1, rfl⟩ := e
    cases k with
    | zero => cases p
    | succ k =>
      have h := shown_les xs ds k p e1
      simp only [PyData.shown, Mini.wt]
      exact Nat.le_trans (listText_le _) (by omega)
  | .rep _, d, k, p, e => by cases k <;> cases p
  | .ref _, d, k, p, e => by cases e
  | .clo _ _, d, k, p, e => by cases e
  | .exc _ _, d, k, p, e => by cases e
  | .emp, d, k, p, e => by cases k <;> cases p
  | .scr _, d, k, p, e => by cases e
  | .gap, d, k, p, e => by cases e
theorem shown_les : ∀ (w : List Val) (d : List PyData) (k : Nat), w.all (Mini.plain k) = true → datsOf w = some d → piled (PyData.shownAll d) ≤ Mini.wt.wts w
  | [], d, k, p, e => by cases e; exact Nat.le_refl _
  | x :: xs, d, k, p, e => by
    simp only [datsOf] at e
    split at e
    · rename_i e1 e2
      cases e
      simp only [List.all_cons, Bool.and_eq_true] at p
      have h1 := shown_le x _ k p.1 e1
      have h2 := shown_les xs _ k p.2 e2
      simp only [PyData.shownAll, Mini.wt.wts, piled_cons]
      omega
    · cases e
end
mutual
theorem shownR_le : ∀ (w : Val) (d : PyData) (k : Nat), Mini.plainR k w = true → datOf w = some d → d.shown.length ≤ Mini.wt w
  | .none, d, k, p, e => by cases e; exact Nat.le_refl _
  | .bool b, d, k, p, e => by cases e; cases b <;> decide
  | .int i, d, k, p, e => by cases e; simp only [PyData.shown, Mini.wt]; exact intLen i
  | .str s, d, k, p, e => by
    cases e
    have p : s.all (· < 1114112) = true := by cases k <;> exact p
    simp only [PyData.shown, Mini.wt]
    rw [← toS_len s]
    refine StrLaws.reprText_len _ fun c hc => ?_
    have h2 : c ∈ s := by simpa [toS] using hc
    have h3 := of_decide_eq_true (List.all_eq_true.mp p c h2)
    exact Nat.lt_trans h3 (by decide)
  | .tup xs, d, k, p, e => by
    simp only [datOf, Option.map_eq_some_iff] at e
    obtain ⟨ds, e1, rfl⟩ := e
    cases k with
    | zero => cases p
    | succ k =>
      have h := shownR_les xs ds k p e1
      simp only [PyData.shown, Mini.wt]
      exact Nat.le_trans (tupleText_le _) (by omega)
  | .lst xs, d, k, p, e => by
    simp only [datOf, Option.map_eq_some_iff] at e
    obtain ⟨ds, e1, rfl⟩ := e
    cases k with
    | zero => cases p
    | succ k =>
      have h := shownR_les xs ds k p e1
      simp only [PyData.shown, Mini.wt]
      exact Nat.le_trans (listText_le _) (by omega)
  | .rep v, d, k, p, e => by
    simp only [datOf, Option.map_eq_some_iff] at e
    obtain ⟨d0, e1, rfl⟩ := e
    have p : (Mini.plain 60 v || decide (v = .emp)) = true := by cases k <;> exact p
    simp only [PyData.shown, Mini.wt]
    have c : Cok d0.shown ∧ d0.shown.length ≤ Mini.wt v := by
      rcases Bool.or_eq_true _ _ ▸ p with p | p
      · exact ⟨shown_cok v d0 60 p e1, shown_le v d0 60 p e1⟩
      · obtain rfl := of_decide_eq_true p
        cases e1
        exact ⟨cok_of "{}", by decide⟩
    have h := StrLaws.reprText_len d0.shown fun c' hc => Nat.lt_trans (c.1 c' (by simpa using hc)) (by decide)
    have := c.2
    omega
  | .ref _, d, k, p, e => by cases e
  | .clo _ _, d, k, p, e => by cases e
  | .exc _ _, d, k, p, e => by cases e
  | .emp, d, k, p, e => by cases k <;> cases p
  | .scr _, d, k, p, e => by cases e
  | .gap, d, k, p, e => by cases e
theorem shownR_les : ∀ (w : List Val) (d : List PyData) (k : Nat), w.all (Mini.plainR k) = true → datsOf w = some d → piled (PyData.shownAll d) ≤ Mini.wt.wts w
  | [], d, k, p, e => by cases e; exact Nat.le_refl _
  | x :: xs, d, k, p, e => by
    simp only [datsOf] at e
    split at e
    · rename_i e1 e2
      cases e
      simp only [List.all_cons, Bool.and_eq_true] at p
      have h1 := shownR_le x _ k p.1 e1
      have h2 := shownR_les xs _ k p.2 e2
      simp only [PyData.shownAll, Mini.wt.wts, piled_cons]
      omega
    · cases e
end
section
variable {L : Lk} {G : Cr} {W : WX} {C : Mini.Cx} {X : L2.Cx}
def rRepr (K : PySem.W.Frag) : List L2.V → Hp → VK → Prop := fun xs H Q => ∃ x, xs = [x] ∧ ((∃ d, Dp K H x d ∧ d.showable = true ∧ d.hasDict = false ∧ d.depth ≤ 60 ∧ d.shown.length ≤ sizeLine ∧ Q (.str d.shown) H) ∨ ∃ a, x = .ref a ∧ H a = some (.dK []) ∧ Q (.str (PyData.dict []).shown) H)
theorem call_repr_data (hg : X.A.guards = some []) (hu : X.A.units + 64 < cLine) : CallR X (.builtin "repr") (rRepr X.K) := by
  intro pins s σ H xs us Q I r h
  obtain ⟨x, rfl, h⟩ := h
  obtain ⟨u, rfl, ru⟩ := vals1 r
  rcases h with ⟨d, dp, hs, hn, hd, hz, q⟩ | ⟨a, rfl, ha, q⟩
  · have fin : ∀ h' tk, (∀ b o, s.heap.get? b = some o → h'.get? b = some o) → ∀ t, EP X pins σ Q (.str d.shown t) { s with heap := h', toks := tk } := fun h' tk k t => ⟨.str d.shown, H, I.kept k, ⟨t, rfl⟩, q⟩
    have fin0 : ∀ t tk, EP X pins σ Q (.str d.shown t) { s with toks := tk } := fun t tk => ⟨.str d.shown, H, I.tok tk, ⟨t, rfl⟩, q⟩
    cases dp with
    | non => cases ru; exact P.repr_of_none (fin0 _ _)
    | bl b => cases ru; exact P.repr_of_bool (by cases b <;> exact fin0 _ _)
    | int i =>
      obtain ⟨t, rfl⟩ := ru
      simp only [PyData.showable] at hs
      exact P.repr_of_int (of_decide_eq_true hs) (fin0 _ _)
    | str z =>
      obtain ⟨t, rfl⟩ := ru
      exact P.repr_of_str (fin0 _ _) hz
    | lst q1 q2 =>
      cases ru
      obtain ⟨as, rd⟩ := Dp.reads I _ _ _ (.lst q1 q2) rfl
      exact repr_of_reads' rd hs (fun z => by rw [hn] at z; cases z) hg (by omega) (fun _ _ e => e) (fun h' u tk k => fin h' tk k u) hz
    | tup q1 q2 =>
      cases ru
      obtain ⟨as, rd⟩ := Dp.reads I _ _ _ (.tup q1 q2) rfl
      exact repr_of_reads' rd hs (fun z => by rw [hn] at z; cases z) hg (by omega) (fun _ _ e => e) (fun h' u tk k => fin h' tk k u) hz
  · cases ru
    obtain ⟨_, hsm, vs, kv, o, es, ep, e1, e2, e3, _, pr, _⟩ := (show ObjOk X.prog X.w H s.heap a (.dK []) from I.hok a _ ha)
    cases kv
    have he : es.toList = [] := by
      cases hl : es.toList with
      | nil => rfl
      | cons a b => rw [hl] at pr; cases pr
    have rd : Reads s.heap (.ref a) (.dict []) (a :: [] ++ []) := .dict e1 e2.1 e3 (by rw [he]; exact .nil) (by rw [he]; exact .nil)
    exact repr_of_reads' rd (by simp only [PyData.showable, PyData.showableKv]) (fun _ z => by
      have : sysModules = a := by simpa using z
      rw [this] at hsm
      simp at hsm) hg (by have : (PyData.dict []).depth ≤ 1 := by decide
                          omega) (fun _ _ e => e) (fun h' u tk k => ⟨.str (PyData.dict []).shown, H, I.kept k, ⟨u, rfl⟩, q⟩) (by decide)
theorem bi_repr : BiOk L G .repr (rRepr L.K) := by
  intro R h H vs v us Q rh rus e q qf
  have e : Mini.biRepr h vs = some v := e
  unfold Mini.biRepr at e
  split at e
  · cases e
    obtain ⟨u, rfl, ru⟩ := rus.one
    cases ru with
    | emp q1 q2 => exact ⟨_, rfl, .inr ⟨_, rfl, q1, q _ H Xt.refl rh (fun _ z => nomatch z) (.rep rfl)⟩⟩
  · cases e
    obtain ⟨u, rfl, ru⟩ := rus.one
    cases ru.no
    exact ⟨_, rfl, .inl ⟨.none, .non, rfl, rfl, by decide, by decide, q _ H Xt.refl rh (fun _ z => nomatch z) (.str _)⟩⟩
  · rename_i b _
    cases e
    obtain ⟨u, rfl, ru⟩ := rus.one
    cases ru.bl
    refine ⟨_, rfl, .inl ⟨.bool b, .bl b, rfl, rfl, by simp [PyData.depth], by cases b <;> decide, ?_⟩⟩
    have z := q _ H Xt.refl rh (fun _ z => nomatch z) (.str _)
    cases b <;> exact z
  · split at e
    · rename_i i _ hs
      cases e
      obtain ⟨u, rfl, ru⟩ := rus.one
      cases ru.in
      have lg : i.natAbs.log2 < 1920 := log_small hs
      refine ⟨_, rfl, .inl ⟨.int i, .int i, decide_eq_true lg, rfl, by simp [PyData.depth], ?_, ?_⟩⟩
      · exact Nat.le_trans (intLen i) (Nat.le_trans (show i.natAbs.log2 + 2 ≤ 2000 by omega) (by rw [sizeLine_eq]; omega))
      · have z := q _ H Xt.refl rh (fun _ z => nomatch z) (.str (Mini.intTxt i))
        rw [← intTxt_eq] at z
        exact z
    · cases e
  · obtain ⟨u, rfl, ru⟩ := rus.one
    simp only [Option.bind_eq_some_iff] at e
    obtain ⟨w, e1, e2⟩ := e
    split at e2
    · rename_i hp
      cases e2
      simp only [Bool.and_eq_true, decide_eq_true_eq] at hp
      obtain ⟨d, e3, dp⟩ := dp_rdR rh ru e1 hp.1.1
      obtain ⟨c1, c2⟩ := plainR_dat _ _ _ hp.1.1 e3
      have nd := PyData.hasDict_of_canLay d c1
      exact ⟨_, rfl, .inl ⟨d, dp, show_dat _ _ hp.1.2 e3 nd, nd, c2, by rw [← line_eq]; exact Nat.le_trans (shownR_le _ _ _ hp.1.1 e3) hp.2, q _ H Xt.refl rh (fun _ z => nomatch z) (.rep e3)⟩⟩
    · cases e2
  · cases e
end
end MS

set_option Elab.async false
set_option linter.all false
set_option maxRecDepth 100000
set_option maxHeartbeats 4000000
/-! SH: what is walked -/
namespace PySem
open Sem (wp)
theorem meets_enum1 {v : Value} {o : Obj} {Hs : Heap → Prop} (B : Begins v o Hs) :
    Meets (Builtin.«enumerate.__new__» ⟨[.type "enumerate", v], []⟩) (fun _ R s => Hs s.heap ∧ R (.ok (.ret (.ref (s.heap.push o).objs.size))) { s with heap := (s.heap.push o).push { cls := .type "enumerate", data := .fields #[.none, .bool false, .ref s.heap.objs.size, rawInt 0, .none, .none] } }) :=
  .of_wp fun prog w A R s h => by
    obtain ⟨hp, g, d, tk, os⟩ := s
    obtain ⟨h1, h⟩ := h
    have hsub := sub_enumerate
    have q1 : ∀ {A' : Around} {E : Value → Shared → Prop} {Q : Value → Shared → Prop}, Q (.ref hp.objs.size) ⟨hp.push o, g, d, tk, os⟩ → wpAny (model prog w) A' (pyIter v) Q E ⟨hp, g, d, tk, os⟩ := fun q => B.iter prog w _ _ ⟨hp, g, d, tk, os⟩ _ h1 q
    wp_walk using q1
    refine wpAny_stack_any fun st => wpAny_pure ?_
    split
    · rename_i c _ _ _ _ _
      cases (c == Value.type "enumerate")
      · wp_walk using q1
        exact ⟨_, rfl, h⟩
      · wp_walk using q1
        exact ⟨_, rfl, h⟩
    · wp_walk using q1
      exact ⟨_, rfl, h⟩
section
variable {prog : Program} {w : World} {A : Around} {E : Value → Shared → Prop} {s : Shared}
theorem enum_begins1 {v : Value} {o : Obj} {Hs : Heap → Prop} {Q : Value → Shared → Prop} (B : Begins v o Hs) (h1 : Hs s.heap)
    (h : ∀ h', IsEnum h' (s.heap.objs.size + 1) s.heap.objs.size 0 .none → h'.get? s.heap.objs.size = some o → (∀ b o, s.heap.get? b = some o → h'.get? b = some o) → Q (.ref (s.heap.objs.size + 1)) { s with heap := h' }) :
    wpAny (model prog w) A (call (.type "enumerate") [v]) Q E s := by
  refine callType_new F.called_enumerate (by decide) (F.typeCall_enumerate_1 _) (F.newCall_enumerate_1 _) (fun obj => F.args_object_init_2 obj _) F.entry_enumerate_new (meets_enum1 B) ⟨h1, ?_⟩
  have hz : (s.heap.push o).objs.size = s.heap.objs.size + 1 := Heap.size_push ..
  have he : IsEnum ((s.heap.push o).push { cls := .type "enumerate", data := .fields #[.none, .bool false, .ref s.heap.objs.size, rawInt 0, .none, .none] }) (s.heap.push o).objs.size s.heap.objs.size 0 .none := Heap.get?_push_size _ rfl
  show _ ∧ _
  rw [hz] at he ⊢
  exact ⟨⟨_, he, rfl⟩, h _ he (Heap.get?_push_of_some _ (Heap.get?_push_size _ B.free)) fun b o x => Heap.get?_push_of_some _ (Heap.get?_push_of_some _ x)⟩
end
end PySem
namespace MS
open PySem PySem.Spec PyProof.Rows L2
open Mini (Val Res Ex evalE evalEs)
def IteT (K : PySem.W.Frag) (a : Addr) : It :=
  ⟨fun i H => ∃ (xs : List V) (x : V), SqT K H a xs ∧ xs[i]? = some x, fun i H v H' => ∃ T x, v = .ref T ∧ H T = none ∧ H' = upd H T (.tup [.int (i : Nat), x]) ∧ ∀ xs, SqT K H a xs → xs[i]? = some x, fun i H => ∃ xs : List V, SqT K H a xs ∧ xs.length ≤ i⟩
theorem turn_enumT {P : Program} {w : World} {K : PySem.W.Frag} {elts : List Expr} {kk : Nat} {tpos : Pos} (a e it : Addr) :
    Turn P w K (.Tuple elts kk tpos) (IteT K a) [e, it] e (fun i h => (∃ old, IsEnum h e it ((i : Nat) : Int) old) ∧ h.IsTupleIter it a i ∧ e ≠ it ∧ a ≠ e ∧ a ≠ it) where
  mem := by simp
  obj := by
    rintro i h ⟨⟨old, he⟩, ⟨o, ho, hc, hd⟩, _⟩ b hb
    rcases (show b = e ∨ b = it by simpa using hb) with rfl | rfl
    · exact ⟨_, he, fun v q => nomatch q⟩
    · exact ⟨o, ho, fun v q => by rw [hd] at q; cases q⟩
  keep := by
    rintro i h h' ⟨⟨old, he⟩, hi, hne⟩ k
    exact ⟨⟨old, k e (by simp) _ he⟩, hi.at fun o q => k it (by simp) o q, hne⟩
  item := by
    intro X hP hw hK hc i pins s σ H E I hf st ⟨xs, x, hq, hx⟩
    subst hP hw hK
    obtain ⟨⟨old, he⟩, hit, hne, hae, hai⟩ := st
    obtain ⟨its, rv, p, hz⟩ := I.tuple hq
    obtain ⟨u, hu, ru⟩ := rv.get hx
    have hel := Heap.lt_size he
    have hil : it < s.heap.objs.size := by obtain ⟨_, q, _⟩ := hit; exact Heap.lt_size q
    have D : Draws X.prog X.w X.A.in1 it [it, a] its.toArray.size (fun i v => its.toArray[i]? = some v) (fun i h => h.IsTupleIter it a i ∧ h.IsTuple a its.toArray) := Draws.tuple (A := X.A.in1) (I.ok.hd hc) it a hai its.toArray
    have hlt : i < its.toArray.size := by
      rcases Nat.lt_or_ge i its.length with q | q
      · simpa using q
      · rw [List.getElem?_eq_none q] at hu; cases hu
    have hef : e ∉ [it, a] := by
      intro q
      rcases (show e = it ∨ e = a by simpa using q) with z | z
      · exact hne z
      · exact hae z.symm
    refine wpAny_pyNext_enum_itemD D he ⟨hit, p⟩ hlt hne hef fun y h' tk hP ho hit' hT hsz hk => ?_
    have ey : y = u := by
      have e1 : its[i]? = some y := by simpa using hP
      exact Option.some.inj (e1.symm.trans hu)
    subst ey
    refine ⟨_, rfl, wpAny_letOwnedTupleGo_enum (s := { s with heap := h', toks := tk + 1 }) ho fun h'' he' sb => ?_⟩
    have hT2 := (sb.2 _ (Nat.ne_of_gt hel)).trans hT
    have new : ObjOk X.prog X.w (upd H s.heap.objs.size (.tup [.int (i : Nat), x])) h'' s.heap.objs.size (.tup [.int (i : Nat), x]) := ⟨by show 2 ≤ sizeLine; decide, [.int i tk, y], .cons ⟨_, rfl⟩ (.cons ru .nil), ⟨_, hT2, rfl, _, rfl⟩⟩
    have kp : ∀ b ob, b ∉ [e, it] → s.heap.get? b = some ob → h''.get? b = some ob := fun b ob hb q => by
      have n1 : b ≠ e := fun z => hb (by simp [z])
      have n2 : b ≠ it := fun z => hb (by simp [z])
      exact (sb.2 b n1).trans (hk b ob n1 n2 q)
    have I1 : Inv X pins σ (upd H s.heap.objs.size (.tup [.int (i : Nat), x])) { s with heap := h'', toks := tk + 1 } := I.turnedNew (ch := [e, it]) kp hf (Nat.le_refl _) new
    refine ⟨.ref s.heap.objs.size, _, I1, rfl, ⟨_, x, rfl, I.hok.fresh (Nat.le_refl _), rfl, fun ys hy => by rw [I.tuple_inj hy hq]; exact hx⟩, ⟨⟨y, ?_⟩, hit'.1.at fun o q => (sb.2 it (Ne.symm hne)).trans q, hne, hae, hai⟩, fun b hb => ?_⟩
    · rw [show ((i + 1 : Nat) : Int) = (i : Int) + 1 by omega]; exact he'
    · have hb' : b < s.heap.objs.size := by
        rcases (show b = e ∨ b = it by simpa using hb) with rfl | rfl
        · exact hel
        · exact hil
      rw [upd_ne (Nat.ne_of_lt hb')]
      exact (hf b hb).1
  done := by
    intro X hP hw hK hc i pins s σ H E I hf st ⟨xs, hq, hx⟩
    subst hP hw hK
    obtain ⟨⟨old, he⟩, hit, hne, hae, hai⟩ := st
    obtain ⟨its, rv, p, hz⟩ := I.tuple hq
    obtain ⟨f0, f1, f2, f3, f4, f5⟩ := hf it (by simp)
    have hl := rv.length
    have hpast : its.toArray[i]? = none := by simp; omega
    unfold pyNext
    have hT : s.TypeIs (.ref e) "enumerate" := ⟨_, he, rfl⟩
    refine wpAny_bind (wpAny_attempt (wpAny_callSpecial?_slot (name := Str.ofString "__next__") hT F.slot_enumerate_next (wpAny_call_entry F.slot_enumerate_next hT F.entry_enumerate_next ?_ (F.args_enumerate_next_1 _))))
    show wpAny _ _ (field (.ref e) 2 >>= _) _ _ _
    refine wpAny_bind (wpAny_field he rfl (x := .ref it) rfl ?_)
    refine wpAny_bind (wpAny_nextOf_tuple_end (I.ok.hd hc) hit p hpast fun h' x he' hx' => ?_)
    obtain ⟨o, ho, hcx⟩ := hx'
    refine wpAny_bind (wpAny_isInstance (T := "StopIteration") (b := true) ⟨o, ho, hcx⟩ isSubtype_stop ?_)
    exact wpAny_pure ⟨rfl, I.turned (t' := s.toks) (fun b o hb q => he' b o hb q) f0 f1 f3 f4 f5⟩
  self := fun A i s Q E st h => by
    obtain ⟨⟨_, he⟩, _⟩ := st
    exact wpAny_pyIter_enum he h
def iEnumA (K : PySem.W.Frag) (ta : TE) : TI := fun σ H R => ta σ H fun v H1 => ∃ a xs, v = .ref a ∧ ((SqL K H1 a xs ∧ R (Ite K a) H1) ∨ (SqT K H1 a xs ∧ R (IteT K a) H1))
theorem pi_enumA {X : L2.Cx} {e : Expr} {ta : TE} {p pos tpos : Pos} {elts : List Expr} {kk : Nat} (hg : Gl X "enumerate") (hm : X.mg "enumerate" = none) (he : PE X e ta) (hs : starEach [e] X.env = (false, eval e X.env) :: starEach [] X.env := by rfl) :
    PI X (.Tuple elts kk tpos) (.Call (.Name "enumerate" p) [e] [] pos) (iEnumA X.K ta) := by
  refine ⟨fun pins s σ H R I h => ?_⟩
  refine Call_ (ld_blt I hg hm boot_enumerate (PyProof.Rows.callWith_type1 (PyProof.Rows.args_cons (thn (he.run pins s σ H _ I h) fun u s1 ⟨v, H1, I1, r1, q1⟩ => PyProof.Rows.args_nil ?_) hs) hs rfl))
  obtain ⟨a, xs, rfl, q⟩ := q1
  obtain rfl : u = Value.ref a := r1
  have two : ∀ b ∈ [s1.heap.objs.size + 1, s1.heap.objs.size], FpOk X pins H1 b := fun b hb => by
    have hle : s1.heap.objs.size ≤ b := by
      rcases (show b = s1.heap.objs.size + 1 ∨ b = s1.heap.objs.size by simpa using hb) with rfl | rfl
      · exact Nat.le_succ _
      · exact Nat.le_refl _
    exact I1.fpOk hle (I1.hok.fresh hle)
  rcases q with ⟨hq, q⟩ | ⟨hq, q⟩
  · obtain ⟨its, rv, p', hz⟩ := I1.list hq
    refine enum_begins1 (begins_list a its.toArray) p'.isList fun h' he' hit hk => wpAny_pyIter_enum he' ?_
    exact ⟨s1.heap.objs.size + 1, [s1.heap.objs.size + 1, s1.heap.objs.size], _, _, H1, rfl, I1.kept (t' := s1.toks) hk, turn_enum a _ _, ⟨⟨.none, he'⟩, ⟨_, hit, rfl, rfl⟩, Nat.succ_ne_self _⟩, two, q⟩
  · obtain ⟨its, rv, p', hz⟩ := I1.tuple hq
    have pt : s1.heap.IsTuple a its.toArray := p'
    obtain ⟨o, ho, _⟩ := id pt
    have hlt := Heap.lt_size ho
    refine enum_begins1 (begins_tuple a its.toArray) pt fun h' he' hit hk => wpAny_pyIter_enum he' ?_
    exact ⟨s1.heap.objs.size + 1, [s1.heap.objs.size + 1, s1.heap.objs.size], _, _, H1, rfl, I1.kept (t' := s1.toks) hk, turn_enumT a _ _, ⟨⟨.none, he'⟩, ⟨_, hit, rfl, rfl⟩, Nat.succ_ne_self _, Nat.ne_of_lt (Nat.lt_succ_of_lt hlt), Nat.ne_of_lt hlt⟩, two, q⟩
def iAny (K : PySem.W.Frag) (te : TE) : TI := fun σ H R => te σ H fun v H1 => (∃ a xs, v = .ref a ∧ ((SqL K H1 a xs ∧ R (Itl K a) H1) ∨ (SqT K H1 a xs ∧ R (Itt K a) H1))) ∨ ∃ z, v = .str z ∧ R (Its z) H1
theorem pi_any {X : L2.Cx} {tg e : Expr} {te : TE} (he : PE X e te) : PI X tg e (iAny X.K te) := by
  refine ⟨fun pins s σ H R I h => ?_⟩
  refine thn (he.run pins s σ H _ I h) fun u s1 ⟨v, H1, I1, r1, q1⟩ => ?_
  rcases q1 with ⟨a, xs, rfl, q⟩ | ⟨z, rfl, q⟩
  · obtain rfl : u = Value.ref a := r1
    rcases q with ⟨hq, q⟩ | ⟨hq, q⟩
    · obtain ⟨its, rv, p', hz⟩ := I1.list hq
      exact wpAny_pyIter_list p'.isList (pi_one (tk := s1.toks) I1 _ (turn_list a _) ⟨_, Heap.get?_push_size _ rfl, rfl, rfl⟩ q)
    · obtain ⟨its, rv, p', hz⟩ := I1.tuple hq
      exact wpAny_pyIter_tuple (show s1.heap.IsTuple a its.toArray from p') (pi_one (tk := s1.toks) I1 _ (turn_tuple a _) ⟨_, Heap.get?_push_size _ rfl, rfl, rfl⟩ q)
  · obtain ⟨t, rfl⟩ := r1
    cases ha : z.cps.all (· < 128)
    · exact wpAny_pyIter_wide ha (pi_one (tk := s1.toks) I1 _ (turn_str _ z t "str_iterator" (.inr rfl)) ⟨_, Heap.get?_push_size _ rfl, rfl, rfl⟩ q)
    · exact wpAny_pyIter_ascii ha (pi_one (tk := s1.toks) I1 _ (turn_str _ z t "str_ascii_iterator" (.inl rfl)) ⟨_, Heap.get?_push_size _ rfl, rfl, rfl⟩ q)
end MS

set_option Elab.async false
set_option linter.all false
set_option maxRecDepth 100000
set_option maxHeartbeats 4000000
/-! SI: the small language's walks -/
namespace MS
open PySem PySem.Spec PyProof.Rows L2 RT RZ
open Mini (Val Res Ex evalE evalEs evalI)
section
variable {L : Lk} {G : Cr} {W : WX} {C : Mini.Cx} {X : L2.Cx} {Γ : Gm} {k : Nat}
theorem _root_.L2.PI.imp {X : L2.Cx} {tg e : Expr} {t t' : TI} (p : PI X tg e t) (h : ∀ σ H Q, t' σ H Q → t σ H Q) : PI X tg e t' := ⟨fun pins s σ H Q I q => p.run pins s σ H Q I (h _ _ _ q)⟩
/-- J walks the items xs, as long as chk holds -/
structure Walk (L : Lk) (G : Cr) (J : It) (R : Mp) (h : Mini.Heap) (H : Hp) (xs : List Val) (chk : Mini.Heap → Bool) : Prop where
  start : chk h = true
  go : ∀ (i : Nat) (R' : Mp) (h' : Mini.Heap) (H' : Hp), Mo R h.length H R' h'.length H' → HRL L G R' h' H' → chk h' = true → i < xs.length → J.go i H'
  yld : ∀ (i : Nat) (R' : Mp) (h' : Mini.Heap) (H' : Hp) (x : Val) (V : L2.V) (H2 : Hp), Mo R h.length H R' h'.length H' → HRL L G R' h' H' → chk h' = true → xs[i]? = some x → J.yld i H' V H2 →
    Xt R' h' H' R' h' H2 ∧ HRL L G R' h' H2 ∧ VRL L G H2 R' h'.length x V
  stop : ∀ (R' : Mp) (h' : Mini.Heap) (H' : Hp), Mo R h.length H R' h'.length H' → HRL L G R' h' H' → chk h' = true → J.stop xs.length H'
def semI (L : Lk) (G : Cr) (W : WX) (C : Mini.Cx) (it : Mini.It) : TI := fun σ H K => ∃ R h env, HRL L G R h H ∧ ERL L G H R h.length env σ ∧ SemR L G W (evalI C it env h) R h H σ fun R' h' H' a => ∀ J, Walk L G J R' h' H' a.1 a.2 → K J H'
/-- a value whose items are had as a list (or as a tuple) as long as chk holds -/
def Had (L : Lk) (G : Cr) (S : Hp → Addr → List L2.V → Prop) (a : Addr) (R : Mp) (h : Mini.Heap) (H : Hp) (xs : List Val) (chk : Mini.Heap → Bool) : Prop :=
  ∀ (R' : Mp) (h' : Mini.Heap) (H' : Hp), Mo R h.length H R' h'.length H' → HRL L G R' h' H' → chk h' = true → ∃ vs, VRsL L G H' R' h'.length xs vs ∧ S H' a vs
theorem had_of {R : Mp} {h : Mini.Heap} {H : Hp} {v : Val} {u : L2.V} {xs : List Val} (rv : VRL L G H R h.length v u) (e : Mini.seqOf h v = some xs) :
    ∃ a, u = .ref a ∧ ((Mini.isTup v = true ∧ Had L G (SqT L.K) a R h H xs fun h' => decide (Mini.seqOf h' v = some xs)) ∨ (Mini.isTup v = false ∧ Had L G (SqL L.K) a R h H xs fun h' => decide (Mini.seqOf h' v = some xs))) := by
  cases v with
  | tup ys =>
    cases e
    cases rv with
    | tup q r => exact ⟨_, rfl, .inl ⟨rfl, fun R' h' H' m r' c => ⟨_, r.mono m, m.sqT q⟩⟩⟩
  | lst ys =>
    cases e
    cases rv with
    | lst q d r => exact ⟨_, rfl, .inr ⟨rfl, fun R' h' H' m r' c => ⟨_, r.mono m, .of (m.keep _ _ q d trivial)⟩⟩⟩
  | scr ys =>
    cases e
    cases rv with
    | scr q r => exact ⟨_, rfl, .inr ⟨rfl, fun R' h' H' m r' c => ⟨_, r.mono m, (m.scr q).sq⟩⟩⟩
  | ref i =>
    cases rv with
    | ref hi =>
      refine ⟨_, rfl, .inr ⟨rfl, fun R' h' H' m r' c => ?_⟩⟩
      have c := of_decide_eq_true c
      simp only [Mini.seqOf] at c
      split at c
      · rename_i ys ex
        cases c
        obtain ⟨vs, e1, r⟩ := HR.list r' ex
        rw [m.same i hi] at e1
        exact ⟨vs, r, .of e1⟩
      · cases c
  | _ => cases e
theorem Had.chk {S : Hp → Addr → List L2.V → Prop} {a : Addr} {R : Mp} {h : Mini.Heap} {H : Hp} {xs : List Val} {c c' : Mini.Heap → Bool} (x : Had L G S a R h H xs c) (i : ∀ h', c' h' = true → c h' = true) : Had L G S a R h H xs c' := fun R' h' H' m r' q => x R' h' H' m r' (i _ q)
theorem Mo.refl {R : Mp} {h : Mini.Heap} {H : Hp} (r : HRL L G R h H) : Mo R h.length H R h.length H := Xt.refl.mo r
section
variable {a b : Addr} {R : Mp} {h : Mini.Heap} {H : Hp} {xs ys : List Val} {chk : Mini.Heap → Bool}
theorem walk_list (c0 : chk h = true) (x : Had L G (SqL L.K) a R h H xs chk) : Walk L G (Itl L.K a) R h H xs chk := by
  refine ⟨c0, fun i R' h' H' m r' c hi => ?_, fun i R' h' H' v V H2 m r' c e y => ?_, fun R' h' H' m r' c => ?_⟩
  · obtain ⟨vs, r, s⟩ := x R' h' H' m r' c
    obtain ⟨v, e, _⟩ := r.get (List.getElem?_eq_getElem hi)
    exact ⟨vs, v, s, e⟩
  · obtain ⟨vs, r, s⟩ := x R' h' H' m r' c
    obtain ⟨u, e1, ru⟩ := r.get e
    obtain ⟨rfl, y⟩ := y
    have := y vs s
    rw [e1] at this
    cases this
    exact ⟨Xt.refl, r', ru⟩
  · obtain ⟨vs, r, s⟩ := x R' h' H' m r' c
    exact ⟨vs, s, Nat.le_of_eq r.length.symm⟩
theorem walk_tup (c0 : chk h = true) (x : Had L G (SqT L.K) a R h H xs chk) : Walk L G (Itt L.K a) R h H xs chk := by
  refine ⟨c0, fun i R' h' H' m r' c hi => ?_, fun i R' h' H' v V H2 m r' c e y => ?_, fun R' h' H' m r' c => ?_⟩
  · obtain ⟨vs, r, s⟩ := x R' h' H' m r' c
    obtain ⟨v, e, _⟩ := r.get (List.getElem?_eq_getElem hi)
    exact ⟨vs, v, s, e⟩
  · obtain ⟨vs, r, s⟩ := x R' h' H' m r' c
    obtain ⟨u, e1, ru⟩ := r.get e
    obtain ⟨rfl, y⟩ := y
    have := y vs s
    rw [e1] at this
    cases this
    exact ⟨Xt.refl, r', ru⟩
  · obtain ⟨vs, r, s⟩ := x R' h' H' m r' c
    exact ⟨vs, s, Nat.le_of_eq r.length.symm⟩
theorem enumL_get : ∀ (xs : List Val) (k i : Nat), (Mini.enumL k xs)[i]? = (xs[i]?).map fun v => .tup [.int ((k + i : Nat) : Int), v]
  | [], k, i => by simp [Mini.enumL]
  | x :: xs, k, 0 => by simp [Mini.enumL]
  | x :: xs, k, i + 1 => by
    rw [Mini.enumL]
    simp only [List.getElem?_cons_succ]
    rw [enumL_get xs (k + 1) i, show k + 1 + i = k + (i + 1) by omega]
theorem enumL_len (xs : List Val) : ∀ k, (Mini.enumL k xs).length = xs.length := by
  induction xs with
  | nil => intro k; rfl
  | cons x xs ih => intro k; simp [Mini.enumL, ih]
/-- a new pair -/
theorem new_pair {v w : Val} {V U : L2.V} {T : Addr} (rh : HRL L G R h H) (hT : H T = none) (r1 : VRL L G H R h.length v V) (r2 : VRL L G H R h.length w U) :
    Xt R h H R h (upd H T (.tup [V, U])) ∧ HRL L G R h (upd H T (.tup [V, U])) ∧ VRL L G (upd H T (.tup [V, U])) R h.length (.tup [v, w]) (.ref T) :=
  ⟨xt_aux hT, rh.aux hT, lay_tup rh hT (.cons r1 (.cons r2 .nil))⟩
theorem walk_enum (c0 : chk h = true) (x : Had L G (SqL L.K) a R h H xs chk) : Walk L G (Ite L.K a) R h H (Mini.enumL 0 xs) chk := by
  refine ⟨c0, fun i R' h' H' m r' c hi => ?_, fun i R' h' H' v V H2 m r' c e y => ?_, fun R' h' H' m r' c => ?_⟩
  · rw [enumL_len] at hi
    obtain ⟨vs, r, s⟩ := x R' h' H' m r' c
    obtain ⟨v, e, _⟩ := r.get (List.getElem?_eq_getElem hi)
    exact ⟨vs, v, s, e⟩
  · obtain ⟨vs, r, s⟩ := x R' h' H' m r' c
    rw [enumL_get, Option.map_eq_some_iff] at e
    obtain ⟨w, e0, rfl⟩ := e
    obtain ⟨u, e1, ru⟩ := r.get e0
    obtain ⟨T, z, rfl, hT, rfl, y⟩ := y
    have := y vs s
    rw [e1] at this
    cases this
    rw [Nat.zero_add]
    exact new_pair r' hT (.int _) ru
  · obtain ⟨vs, r, s⟩ := x R' h' H' m r' c
    rw [enumL_len]
    exact ⟨vs, s, Nat.le_of_eq r.length.symm⟩
theorem walk_enumT (c0 : chk h = true) (x : Had L G (SqT L.K) a R h H xs chk) : Walk L G (IteT L.K a) R h H (Mini.enumL 0 xs) chk := by
  refine ⟨c0, fun i R' h' H' m r' c hi => ?_, fun i R' h' H' v V H2 m r' c e y => ?_, fun R' h' H' m r' c => ?_⟩
  · rw [enumL_len] at hi
    obtain ⟨vs, r, s⟩ := x R' h' H' m r' c
    obtain ⟨v, e, _⟩ := r.get (List.getElem?_eq_getElem hi)
    exact ⟨vs, v, s, e⟩
  · obtain ⟨vs, r, s⟩ := x R' h' H' m r' c
    rw [enumL_get, Option.map_eq_some_iff] at e
    obtain ⟨w, e0, rfl⟩ := e
    obtain ⟨u, e1, ru⟩ := r.get e0
    obtain ⟨T, z, rfl, hT, rfl, y⟩ := y
    have := y vs s
    rw [e1] at this
    cases this
    rw [Nat.zero_add]
    exact new_pair r' hT (.int _) ru
  · obtain ⟨vs, r, s⟩ := x R' h' H' m r' c
    rw [enumL_len]
    exact ⟨vs, s, Nat.le_of_eq r.length.symm⟩
theorem rev_get {α : Type} (xs : List α) {i : Nat} (hi : i < xs.length) : xs.reverse[i]? = xs[xs.length - 1 - i]? := List.getElem?_reverse hi
theorem walk_rev (c0 : chk h = true) (x : Had L G (SqL L.K) a R h H xs chk) : Walk L G (Itv L.K a xs.length) R h H xs.reverse chk := by
  refine ⟨c0, fun i R' h' H' m r' c hi => ?_, fun i R' h' H' v V H2 m r' c e y => ?_, fun R' h' H' m r' c => ?_⟩
  · rw [List.length_reverse] at hi
    obtain ⟨vs, r, s⟩ := x R' h' H' m r' c
    obtain ⟨v, e, _⟩ := r.get (List.getElem?_eq_getElem (show xs.length - 1 - i < xs.length by omega))
    exact ⟨hi, vs, v, s, e⟩
  · have hi : i < xs.length := by
      have := (List.getElem?_eq_some_iff.mp e).1
      simpa using this
    obtain ⟨vs, r, s⟩ := x R' h' H' m r' c
    rw [rev_get xs hi] at e
    obtain ⟨u, e1, ru⟩ := r.get e
    obtain ⟨rfl, y⟩ := y
    have := y vs s
    rw [e1] at this
    cases this
    exact ⟨Xt.refl, r', ru⟩
  · rw [List.length_reverse]
    exact Nat.le_refl _
theorem walk_revT (c0 : chk h = true) (x : Had L G (SqT L.K) a R h H xs chk) : Walk L G (ItvT L.K a xs.length) R h H xs.reverse chk := by
  refine ⟨c0, fun i R' h' H' m r' c hi => ?_, fun i R' h' H' v V H2 m r' c e y => ?_, fun R' h' H' m r' c => ?_⟩
  · rw [List.length_reverse] at hi
    obtain ⟨vs, r, s⟩ := x R' h' H' m r' c
    obtain ⟨v, e, _⟩ := r.get (List.getElem?_eq_getElem (show xs.length - 1 - i < xs.length by omega))
    exact ⟨hi, vs, v, s, e⟩
  · have hi : i < xs.length := by
      have := (List.getElem?_eq_some_iff.mp e).1
      simpa using this
    obtain ⟨vs, r, s⟩ := x R' h' H' m r' c
    rw [rev_get xs hi] at e
    obtain ⟨u, e1, ru⟩ := r.get e
    obtain ⟨rfl, y⟩ := y
    have := y vs s
    rw [e1] at this
    cases this
    exact ⟨Xt.refl, r', ru⟩
  · rw [List.length_reverse]
    exact Nat.le_refl _
theorem zipL_get : ∀ (xs ys : List Val) (i : Nat) (v : Val), (Mini.zipL xs ys)[i]? = some v → ∃ x y, xs[i]? = some x ∧ ys[i]? = some y ∧ v = .tup [x, y]
  | [], ys, i, v, e => by simp [Mini.zipL] at e
  | x :: xs, [], i, v, e => by simp [Mini.zipL] at e
  | x :: xs, y :: ys, 0, v, e => by
    simp [Mini.zipL] at e
    exact ⟨x, y, rfl, rfl, e.symm⟩
  | x :: xs, y :: ys, i + 1, v, e => by
    rw [Mini.zipL] at e
    obtain ⟨a, b, e1, e2, e3⟩ := zipL_get xs ys i v (by simpa using e)
    exact ⟨a, b, by simpa using e1, by simpa using e2, e3⟩
theorem zipL_len : ∀ (xs ys : List Val), (Mini.zipL xs ys).length = min xs.length ys.length
  | [], ys => by simp [Mini.zipL]
  | x :: xs, [] => by simp [Mini.zipL]
  | x :: xs, y :: ys => by simp [Mini.zipL, zipL_len xs ys]
theorem walk_zip (c0 : chk h = true) (x : Had L G (SqL L.K) a R h H xs chk) (y : Had L G (SqL L.K) b R h H ys chk) : Walk L G (Itz L.K a b) R h H (Mini.zipL xs ys) chk := by
  refine ⟨c0, fun i R' h' H' m r' c hi => ?_, fun i R' h' H' v V H2 m r' c e z => ?_, fun R' h' H' m r' c => ?_⟩
  · rw [zipL_len] at hi
    obtain ⟨vs, r, s⟩ := x R' h' H' m r' c
    obtain ⟨ws, r2, s2⟩ := y R' h' H' m r' c
    obtain ⟨v, e, _⟩ := r.get (List.getElem?_eq_getElem (show i < xs.length by omega))
    obtain ⟨w, e2, _⟩ := r2.get (List.getElem?_eq_getElem (show i < ys.length by omega))
    exact ⟨vs, ws, v, w, s, s2, e, e2⟩
  · obtain ⟨vs, r, s⟩ := x R' h' H' m r' c
    obtain ⟨ws, r2, s2⟩ := y R' h' H' m r' c
    obtain ⟨p, q, e1, e2, rfl⟩ := zipL_get _ _ _ _ e
    obtain ⟨u1, f1, g1⟩ := r.get e1
    obtain ⟨u2, f2, g2⟩ := r2.get e2
    obtain ⟨T, z1, z2, rfl, hT, rfl, k1, k2⟩ := z
    have k1 := k1 vs s
    have k2 := k2 ws s2
    rw [f1] at k1
    rw [f2] at k2
    cases k1
    cases k2
    exact new_pair r' hT g1 g2
  · obtain ⟨vs, r, s⟩ := x R' h' H' m r' c
    obtain ⟨ws, r2, s2⟩ := y R' h' H' m r' c
    have l1 := r.length
    have l2 := r2.length
    rw [zipL_len]
    exact ⟨vs, ws, s, s2, by omega⟩
theorem walk_zipT (c0 : chk h = true) (x : Had L G (SqT L.K) a R h H xs chk) (y : Had L G (SqT L.K) b R h H ys chk) : Walk L G (ItzT L.K a b) R h H (Mini.zipL xs ys) chk := by
  refine ⟨c0, fun i R' h' H' m r' c hi => ?_, fun i R' h' H' v V H2 m r' c e z => ?_, fun R' h' H' m r' c => ?_⟩
  · rw [zipL_len] at hi
    obtain ⟨vs, r, s⟩ := x R' h' H' m r' c
    obtain ⟨ws, r2, s2⟩ := y R' h' H' m r' c
    obtain ⟨v, e, _⟩ := r.get (List.getElem?_eq_getElem (show i < xs.length by omega))
    obtain ⟨w, e2, _⟩ := r2.get (List.getElem?_eq_getElem (show i < ys.length by omega))
    exact ⟨vs, ws, v, w, s, s2, e, e2⟩
  · obtain ⟨vs, r, s⟩ := x R' h' H' m r' c
    obtain ⟨ws, r2, s2⟩ := y R' h' H' m r' c
    obtain ⟨p, q, e1, e2, rfl⟩ := zipL_get _ _ _ _ e
    obtain ⟨u1, f1, g1⟩ := r.get e1
    obtain ⟨u2, f2, g2⟩ := r2.get e2
    obtain ⟨T, z1, z2, rfl, hT, rfl, k1, k2⟩ := z
    have k1 := k1 vs s
    have k2 := k2 ws s2
    rw [f1] at k1
    rw [f2] at k2
    cases k1
    cases k2
    exact new_pair r' hT g1 g2
  · obtain ⟨vs, r, s⟩ := x R' h' H' m r' c
    obtain ⟨ws, r2, s2⟩ := y R' h' H' m r' c
    have l1 := r.length
    have l2 := r2.length
    rw [zipL_len]
    exact ⟨vs, ws, s, s2, by omega⟩
theorem rangeL_get (i j : Int) (k : Nat) (v : Val) (e : (Mini.rangeL i j)[k]? = some v) : v = .int (i + (k : Int)) := by
  unfold Mini.rangeL at e
  rw [List.getElem?_map, Option.map_eq_some_iff] at e
  obtain ⟨m, e1, rfl⟩ := e
  have := List.getElem?_eq_some_iff.mp e1
  obtain ⟨hk, e2⟩ := this
  rw [List.getElem_range] at e2
  subst e2
  rfl
theorem rangeL_len (i j : Int) : (Mini.rangeL i j).length = (j - i).toNat := by
  unfold Mini.rangeL
  rw [List.length_map, List.length_range]
theorem walk_range (i j : Int) (R : Mp) (h : Mini.Heap) (H : Hp) : Walk L G (Itr i (j - i).toNat) R h H (Mini.rangeL i j) fun _ => true := by
  refine ⟨rfl, fun k R' h' H' m r' c hi => ?_, fun k R' h' H' v V H2 m r' c e y => ?_, fun R' h' H' m r' c => ?_⟩
  · rw [rangeL_len] at hi; exact hi
  · obtain ⟨rfl, rfl⟩ := y
    rw [rangeL_get i j k v e]
    exact ⟨Xt.refl, r', .int _⟩
  · rw [rangeL_len]; exact Nat.le_refl _
theorem walk_str (s : Mini.Txt) (R : Mp) (h : Mini.Heap) (H : Hp) : Walk L G (Its (toS s)) R h H (s.map fun c => .str [c]) fun _ => true := by
  have sz : (toS s).cps.size = s.length := by simp [toS]
  refine ⟨rfl, fun k R' h' H' m r' c hi => ?_, fun k R' h' H' v V H2 m r' c e y => ?_, fun R' h' H' m r' c => ?_⟩
  · rw [List.length_map] at hi
    show k < (toS s).cps.size
    rw [sz]; exact hi
  · obtain ⟨rfl, c, e1, rfl⟩ := y
    rw [List.getElem?_map, Option.map_eq_some_iff] at e
    obtain ⟨d, e2, rfl⟩ := e
    have : s[k]? = some c := by simpa [toS] using e1
    rw [e2] at this
    cases this
    exact ⟨Xt.refl, r', .str [_]⟩
  · show (toS s).cps.size ≤ _
    rw [List.length_map, sz]; exact Nat.le_refl _
end

/-! ### the arguments of one, of two -/
def one {α : Type} (f : Val → Mini.M α) : List Val → Mini.M α
  | [u] => f u
  | _ => Mini.M.bad
def two {α : Type} (f : Val → Val → Mini.M α) : List Val → Mini.M α
  | [u, v] => f u v
  | _ => Mini.M.bad
theorem one_eq {α : Type} (C : Mini.Cx) (f : Val → Mini.M α) (a : Ex) (env : Mini.Env) (h : Mini.Heap) : ((evalEs C [a] env).bind (one f)) h = ((evalE C a env).bind f) h := by
  simp only [evalEs, Mini.M.bind, Mini.M.pure]
  cases evalE C a env h <;> rfl
theorem two_eq {α : Type} (C : Mini.Cx) (f : Val → Val → Mini.M α) (a b : Ex) (env : Mini.Env) (h : Mini.Heap) : ((evalEs C [a, b] env).bind (two f)) h = ((evalE C a env).bind fun u => (evalE C b env).bind fun v => f u v) h := by
  simp only [evalEs, Mini.M.bind, Mini.M.pure]
  cases evalE C a env h with
  | ok u h1 =>
    simp only
    cases evalE C b env h1 <;> rfl
  | exn _ _ _ => rfl
  | bad => rfl
/-! ### the forms -/
theorem sound_of {A tg : Expr} {a : Ex} (hK : X.K = L.K) (ha : PE X A (semE L G W C a)) : PI X tg A (semI L G W C (.of a)) := by
  refine (pi_any ha).imp ?_
  rintro σ H Q ⟨R, h, env, rh, re, x⟩
  simp only [evalI] at x
  refine ⟨R, h, env, rh, re, x.bind.imp fun R1 h1 H1 v t1 r1 x1 => fun V rv => ?_⟩
  have gen : SemR L G W (Mini.M.opt ((Mini.seqOf h1 v).map fun xs => (xs, fun h' => decide (Mini.seqOf h' v = some xs))) h1) R1 h1 H1 σ (fun R' h' H' a => ∀ J, Walk L G J R' h' H' a.1 a.2 → Q J H') → (∃ a xs, V = .ref a ∧ ((SqL X.K H1 a xs ∧ Q (Itl X.K a) H1) ∨ (SqT X.K H1 a xs ∧ Q (Itt X.K a) H1))) ∨ ∃ z, V = .str z ∧ Q (Its z) H1 := fun x2 => by
    obtain ⟨w, e, f⟩ := x2.opt
    rw [Option.map_eq_some_iff] at e
    obtain ⟨xs, e1, rfl⟩ := e
    have f := f R1 H1 Xt.refl r1
    obtain ⟨a, rfl, hd | hd⟩ := had_of rv e1
    · obtain ⟨vs, _, s⟩ := hd.2 R1 h1 H1 (Mo.refl r1) r1 (decide_eq_true e1)
      rw [hK]
      exact .inl ⟨a, vs, rfl, .inr ⟨s, f _ (walk_tup (decide_eq_true e1) hd.2)⟩⟩
    · obtain ⟨vs, _, s⟩ := hd.2 R1 h1 H1 (Mo.refl r1) r1 (decide_eq_true e1)
      rw [hK]
      exact .inl ⟨a, vs, rfl, .inl ⟨s, f _ (walk_list (decide_eq_true e1) hd.2)⟩⟩
  cases v with
  | str s =>
    cases rv.st
    exact .inr ⟨_, rfl, x1 R1 H1 Xt.refl r1 _ (walk_str s R1 h1 H1)⟩
  | _ => exact gen x1
theorem sound_enum {A : Expr} {a : Ex} {p pos tpos : Pos} {elts : List Expr} {kk : Nat} (hK : X.K = L.K) (hg : Gl X "enumerate") (hm : X.mg "enumerate" = none) (ha : PE X A (semE L G W C a)) (hs : starEach [A] X.env = (false, eval A X.env) :: starEach [] X.env := by rfl) :
    PI X (.Tuple elts kk tpos) (.Call (.Name "enumerate" p) [A] [] pos) (semI L G W C (.enum a)) := by
  refine (pi_enumA hg hm ha hs).imp ?_
  rintro σ H Q ⟨R, h, env, rh, re, x⟩
  simp only [evalI] at x
  refine ⟨R, h, env, rh, re, x.bind.imp fun R1 h1 H1 v t1 r1 x1 => fun V rv => ?_⟩
  obtain ⟨w, e, f⟩ := SemR.opt (o := (Mini.seqOf h1 v).map fun xs => (Mini.enumL 0 xs, fun h' => decide (Mini.seqOf h' v = some xs))) x1
  rw [Option.map_eq_some_iff] at e
  obtain ⟨xs, e1, rfl⟩ := e
  have f := f R1 H1 Xt.refl r1
  rw [hK]
  obtain ⟨a, rfl, hd | hd⟩ := had_of rv e1
  · obtain ⟨vs, _, s⟩ := hd.2 R1 h1 H1 (Mo.refl r1) r1 (decide_eq_true e1)
    exact ⟨a, vs, rfl, .inr ⟨s, f _ (walk_enumT (decide_eq_true e1) hd.2)⟩⟩
  · obtain ⟨vs, _, s⟩ := hd.2 R1 h1 H1 (Mo.refl r1) r1 (decide_eq_true e1)
    exact ⟨a, vs, rfl, .inl ⟨s, f _ (walk_enum (decide_eq_true e1) hd.2)⟩⟩
theorem sound_revd {A tg : Expr} {a : Ex} {p pos : Pos} (hK : X.K = L.K) (hg : Gl X "reversed") (hm : X.mg "reversed" = none) (ha : PE X A (semE L G W C a)) (hs : starEach [A] X.env = (false, eval A X.env) :: starEach [] X.env := by rfl) :
    PI X tg (.Call (.Name "reversed" p) [A] [] pos) (semI L G W C (.revd a)) := by
  refine (pi_revA hg hm ha hs).imp ?_
  rintro σ H Q ⟨R, h, env, rh, re, x⟩
  simp only [evalI] at x
  refine ⟨R, h, env, rh, re, x.bind.imp fun R1 h1 H1 v t1 r1 x1 => fun V rv => ?_⟩
  obtain ⟨w, e, f⟩ := SemR.opt (o := (Mini.seqOf h1 v).map fun xs => (xs.reverse, fun h' => decide (Mini.seqOf h' v = some xs))) x1
  rw [Option.map_eq_some_iff] at e
  obtain ⟨xs, e1, rfl⟩ := e
  have f := f R1 H1 Xt.refl r1
  rw [hK]
  obtain ⟨a, rfl, hd | hd⟩ := had_of rv e1
  · obtain ⟨vs, r, s⟩ := hd.2 R1 h1 H1 (Mo.refl r1) r1 (decide_eq_true e1)
    exact ⟨a, vs, rfl, .inr ⟨s, by rw [← r.length]; exact f _ (walk_revT (decide_eq_true e1) hd.2)⟩⟩
  · obtain ⟨vs, r, s⟩ := hd.2 R1 h1 H1 (Mo.refl r1) r1 (decide_eq_true e1)
    exact ⟨a, vs, rfl, .inl ⟨s, by rw [← r.length]; exact f _ (walk_rev (decide_eq_true e1) hd.2)⟩⟩
theorem sound_zip {A B : Expr} {a b : Ex} {p pos tpos : Pos} {elts : List Expr} {kk : Nat} (hK : X.K = L.K) (hg : Gl X "zip") (hm : X.mg "zip" = none) (ha : PA X [A, B] (semA L G W C [a, b]))
    (hs : starEach [A, B] X.env = (false, eval A X.env) :: starEach [B] X.env := by rfl) (hpl : (backTo pos (starEach [B] X.env)).any (·.1) = false := by rfl) : PI X (.Tuple elts kk tpos) (.Call (.Name "zip" p) [A, B] [] pos) (semI L G W C (.zip a b)) := by
  refine (pi_zipA hg hm ha hs hpl).imp ?_
  rintro σ H Q ⟨R, h, env, rh, re, x⟩
  simp only [evalI] at x
  rw [← two_eq C (fun u v h => Mini.M.opt (if Mini.isTup u == Mini.isTup v then (Mini.seqOf h u).bind fun xs => (Mini.seqOf h v).map fun ys => (Mini.zipL xs ys, fun h' => decide (Mini.seqOf h' u = some xs ∧ Mini.seqOf h' v = some ys)) else none) h)] at x
  refine ⟨R, h, env, rh, re, x.bind.imp fun R1 h1 H1 v t1 r1 x1 => fun Vs rvs => ?_⟩
  match v, x1, rvs with
  | [u, v], x1, .cons ru (.cons rv .nil) =>
    obtain ⟨w, e, f⟩ := SemR.opt (o := (if Mini.isTup u == Mini.isTup v then (Mini.seqOf h1 u).bind fun xs => (Mini.seqOf h1 v).map fun ys => (Mini.zipL xs ys, fun h' => decide (Mini.seqOf h' u = some xs ∧ Mini.seqOf h' v = some ys)) else none)) x1
    split at e
    · rename_i same
      rw [Option.bind_eq_some_iff] at e
      obtain ⟨xs, e1, e⟩ := e
      rw [Option.map_eq_some_iff] at e
      obtain ⟨ys, e2, rfl⟩ := e
      have f := f R1 H1 Xt.refl r1
      rw [hK]
      have c0 : decide (Mini.seqOf h1 u = some xs ∧ Mini.seqOf h1 v = some ys) = true := decide_eq_true ⟨e1, e2⟩
      have w1 : ∀ h' : Mini.Heap, decide (Mini.seqOf h' u = some xs ∧ Mini.seqOf h' v = some ys) = true → decide (Mini.seqOf h' u = some xs) = true := fun h' q => decide_eq_true (of_decide_eq_true q).1
      have w2 : ∀ h' : Mini.Heap, decide (Mini.seqOf h' u = some xs ∧ Mini.seqOf h' v = some ys) = true → decide (Mini.seqOf h' v = some ys) = true := fun h' q => decide_eq_true (of_decide_eq_true q).2
      obtain ⟨a, rfl, hd⟩ := had_of ru e1
      obtain ⟨b, rfl, hd'⟩ := had_of rv e2
      rcases hd with ⟨k1, hd⟩ | ⟨k1, hd⟩
      · rcases hd' with ⟨k2, hd'⟩ | ⟨k2, hd'⟩
        · obtain ⟨vs, _, s⟩ := hd R1 h1 H1 (Mo.refl r1) r1 (decide_eq_true e1)
          obtain ⟨ws, _, s2⟩ := hd' R1 h1 H1 (Mo.refl r1) r1 (decide_eq_true e2)
          exact ⟨a, b, vs, ws, rfl, .inr ⟨s, s2, f _ (walk_zipT c0 (hd.chk w1) (hd'.chk w2))⟩⟩
        · rw [k1, k2] at same; cases same
      · rcases hd' with ⟨k2, hd'⟩ | ⟨k2, hd'⟩
        · rw [k1, k2] at same; cases same
        · obtain ⟨vs, _, s⟩ := hd R1 h1 H1 (Mo.refl r1) r1 (decide_eq_true e1)
          obtain ⟨ws, _, s2⟩ := hd' R1 h1 H1 (Mo.refl r1) r1 (decide_eq_true e2)
          exact ⟨a, b, vs, ws, rfl, .inl ⟨s, s2, f _ (walk_zip c0 (hd.chk w1) (hd'.chk w2))⟩⟩
    · cases e
  | [], x1, _ => exact x1.elim
  | [_], x1, _ => exact x1.elim
  | _ :: _ :: _ :: _, x1, _ => exact x1.elim
theorem small61 {i : Int} (e : Mini.small 61 i = true) : -(2 ^ 62) ≤ i ∧ i < 2 ^ 62 := by
  have := small_of e
  have h : (2 : Nat) ^ 61 = 2305843009213693952 := by decide
  have h' : (2 : Int) ^ 62 = 4611686018427387904 := by decide
  omega
theorem sound_range2 {A B tg : Expr} {a b : Ex} {p pos : Pos} (hg : Gl X "range") (hm : X.mg "range" = none) (ha : PA X [A, B] (semA L G W C [a, b])) (hs : starEach [A, B] X.env = [(false, eval A X.env), (false, eval B X.env)] := by rfl) (hs2 : starEach [B] X.env = [(false, eval B X.env)] := by rfl) :
    PI X tg (.Call (.Name "range" p) [A, B] [] pos) (semI L G W C (.range a b)) := by
  refine (pi_range2 hg hm ha hs hs2).imp ?_
  rintro σ H Q ⟨R, h, env, rh, re, x⟩
  simp only [evalI] at x
  rw [← two_eq C Mini.rangeOf] at x
  refine ⟨R, h, env, rh, re, x.bind.imp fun R1 h1 H1 v t1 r1 x1 => fun Vs rvs => ?_⟩
  unfold two at x1
  split at x1
  · unfold Mini.rangeOf at x1
    split at x1
    · split at x1
      · rename_i i j hs
        simp only [Bool.and_eq_true] at hs
        cases rvs with
        | cons ru t => cases t with
          | cons rv t => cases t with
            | nil =>
              cases ru.in
              cases rv.in
              exact ⟨i, j, rfl, ⟨(small61 hs.1).1, (small61 hs.1).2, (small61 hs.2).1, (small61 hs.2).2⟩, x1 R1 H1 Xt.refl r1 _ (walk_range i j R1 h1 H1)⟩
      · exact x1.elim
    · exact x1.elim
  · exact x1.elim
theorem sound_range1 {B tg : Expr} {b : Ex} {p pos : Pos} (hg : Gl X "range") (hm : X.mg "range" = none) (ha : PA X [B] (semA L G W C [b])) (hs : starEach [B] X.env = [(false, eval B X.env)] := by rfl) :
    PI X tg (.Call (.Name "range" p) [B] [] pos) (semI L G W C (.range (.lit (.int 0)) b)) := by
  refine (pi_range1 hg hm ha hs).imp ?_
  rintro σ H Q ⟨R, h, env, rh, re, x⟩
  simp only [evalI] at x
  have x' : SemR L G W (((evalE C b env).bind fun v => Mini.rangeOf (.int 0) v) h) R h H σ (fun R' h' H' a => ∀ J, Walk L G J R' h' H' a.1 a.2 → Q J H') := by
    simpa only [evalE, Mini.M.bind, Mini.M.pure] using x
  rw [← one_eq] at x'
  refine ⟨R, h, env, rh, re, x'.bind.imp fun R1 h1 H1 v t1 r1 x1 => fun Vs rvs => ?_⟩
  unfold one at x1
  split at x1
  · rename_i u
    cases u with
    | int j =>
      have x1 : SemR L G W ((if Mini.small 61 0 && Mini.small 61 j then Mini.M.pure (Mini.rangeL 0 j, fun _ => true) else Mini.M.bad) h1) R1 h1 H1 σ (fun R' h' H' a => ∀ J, Walk L G J R' h' H' a.1 a.2 → Q J H') := x1
      split at x1
      · rename_i hs
        simp only [Bool.and_eq_true] at hs
        cases rvs with
        | cons rv t => cases t with
          | nil =>
            cases rv.in
            refine ⟨j, rfl, (small61 hs.2).1, (small61 hs.2).2, ?_⟩
            have := x1 R1 H1 Xt.refl r1 _ (walk_range 0 j R1 h1 H1)
            rw [Int.sub_zero] at this
            exact this
      · exact x1.elim
    | _ => exact x1.elim
  · exact x1.elim
end
end MS

set_option Elab.async false
set_option linter.all false
set_option maxRecDepth 100000
set_option maxHeartbeats 4000000
/-! SJ: targets, comprehensions -/
namespace MS
open PySem PySem.Spec PyProof.Rows L2
open Mini (Val Res Ex Tg evalE evalEs evalI evalTs)

/-! ### targets -/
mutual
def slots : Tg → List Nat
  | .loc i => [i]
  | .tup ts => slotss ts
def slotss : List Tg → List Nat
  | [] => []
  | t :: ts => slots t ++ slotss ts
end
/-- alike but at the slots S -/
def Sm (σ σ' : L2.St) (S : List Nat) : Prop := σ'.length = σ.length ∧ ∀ j, j ∉ S → σ'[j]? = σ[j]?
theorem Sm.refl {σ : L2.St} {S : List Nat} : Sm σ σ S := ⟨rfl, fun _ _ => rfl⟩
theorem Sm.trans {σ σ' σ'' : L2.St} {S T : List Nat} (a : Sm σ σ' S) (b : Sm σ' σ'' T) : Sm σ σ'' (S ++ T) :=
  ⟨b.1.trans a.1, fun j hj => (b.2 j fun z => hj (List.mem_append_right _ z)).trans (a.2 j fun z => hj (List.mem_append_left _ z))⟩
theorem Sm.set {σ : L2.St} {i : Nat} {v : Option L2.V} : Sm σ (σ.set i v) [i] := ⟨List.length_set, fun j hj => List.getElem?_set_ne (fun z => hj (by simp [z]))⟩
theorem wipe_get (σ : L2.St) (j : Nat) : ∀ vs : List Nat, (L2.wipe σ vs)[j]? = if j ∈ vs ∧ j < σ.length then some none else σ[j]?
  | [] => by simp [L2.wipe]
  | v :: vs => by
    unfold L2.wipe
    by_cases h : v = j
    · subst h
      by_cases hl : v < σ.length
      · rw [List.getElem?_set_self (by rw [wipe_length]; exact hl), if_pos ⟨List.mem_cons_self .., hl⟩]
      · rw [List.getElem?_eq_none (by rw [List.length_set, wipe_length]; omega), if_neg (fun z => hl z.2), List.getElem?_eq_none (by omega)]
    · rw [List.getElem?_set_ne h, wipe_get σ j vs]
      have : (j ∈ v :: vs ∧ j < σ.length) ↔ (j ∈ vs ∧ j < σ.length) := by
        simp only [List.mem_cons]
        constructor
        · rintro ⟨rfl | z, q⟩
          · exact absurd rfl h
          · exact ⟨z, q⟩
        · rintro ⟨z, q⟩; exact ⟨.inr z, q⟩
      by_cases q : j ∈ vs ∧ j < σ.length
      · rw [if_pos q, if_pos (this.mpr q)]
      · rw [if_neg q, if_neg (fun z => q (this.mp z))]
theorem Sm.wipe {σ σ' : L2.St} {S vs : List Nat} (a : Sm σ σ' S) (h : ∀ j ∈ S, j ∈ vs) : L2.wipe σ' vs = L2.wipe σ vs := by
  apply List.ext_getElem?
  intro j
  rw [wipe_get, wipe_get, a.1]
  split
  · rfl
  · rename_i q
    by_cases z : j ∈ S
    · have hl : ¬ j < σ.length := fun w => q ⟨h j z, w⟩
      rw [List.getElem?_eq_none (show σ'.length ≤ j by have := a.1; omega), List.getElem?_eq_none (by omega)]
    · exact a.2 j z
section
variable {L : Lk} {G : Cr} {W : WX} {C : Mini.Cx} {X : L2.Cx} {Γ : Gm} {k : Nat}
def semG (L : Lk) (G : Cr) (t : Tg) : TG := fun v σ H Q => ∃ R h env x, HRL L G R h H ∧ ERL L G H R h.length env σ ∧ VRL L G H R h.length x v ∧ ∃ env', Mini.asgT h t x env = some env' ∧ ∀ σ', ERL L G H R h.length env' σ' → Sm σ σ' (slots t) → Q σ' H
def semGs (L : Lk) (G : Cr) (ts : List Tg) : TGs := fun vs σ H Q => ∃ R h env xs, HRL L G R h H ∧ ERL L G H R h.length env σ ∧ VRsL L G H R h.length xs vs ∧ ∃ env', Mini.asgTs h ts xs env = some env' ∧ ∀ σ', ERL L G H R h.length env' σ' → Sm σ σ' (slotss ts) → Q σ' H
theorem _root_.L2.PG.imp {X : L2.Cx} {e : Expr} {t t' : TG} (p : PG X e t) (h : ∀ v σ H Q, t' v σ H Q → t v σ H Q) : PG X e t' := ⟨fun pins s σ H v u Q I r q => p.run pins s σ H v u Q I r (h _ _ _ _ q)⟩
theorem _root_.L2.PGs.imp {X : L2.Cx} {e : List Expr} {t t' : TGs} (p : PGs X e t) (h : ∀ v σ H Q, t' v σ H Q → t v σ H Q) : PGs X e t' := ⟨fun pins s σ H v u Q I r q => p.run pins s σ H v u Q I r (h _ _ _ _ q)⟩
theorem _root_.L2.PG.or {X : L2.Cx} {e : Expr} {t t' : TG} (p : PG X e t) (p' : PG X e t') : PG X e (fun v σ H Q => t v σ H Q ∨ t' v σ H Q) := ⟨fun pins s σ H v u Q I r q => q.elim (fun q => p.run pins s σ H v u Q I r q) fun q => p'.run pins s σ H v u Q I r q⟩
theorem goal_name {i : Nat} {x : Str} {pos : Pos} (hN : X.N.Nodup) (hi : X.N[i]? = some x) (hx : Loc X.env.scope x) (hf : X.fn x = true ∨ X.env.scope.names.lookup x = some .local) : PG X (.Name x pos) (semG L G (.loc i)) := by
  refine (pg_name hN hi hx hf).imp ?_
  rintro v σ H Q ⟨R, h, env, x, rh, re, rv, env', e, q⟩
  rw [Mini.asgT] at e
  split at e
  · cases e
    exact q _ (re.set i rv) Sm.set
  · cases e
theorem goals_nil : PGs X [] (semGs L G []) := by
  refine pgs_nil.imp ?_
  rintro vs σ H Q ⟨R, h, env, xs, rh, re, rv, env', e, q⟩
  cases rv with
  | nil =>
    rw [Mini.asgTs] at e
    cases e
    exact ⟨rfl, q _ re Sm.refl⟩
  | cons a b => rw [Mini.asgTs] at e; cases e; all_goals (intros; simp_all)
theorem goals_cons {e : Expr} {es : List Expr} {t : Tg} {ts : List Tg} (h1 : PG X e (semG L G t)) (h2 : PGs X es (semGs L G ts)) (hs : (assignEach (e :: es) X.env).map (·.2) = assign e X.env :: (assignEach es X.env).map (·.2)) : PGs X (e :: es) (semGs L G (t :: ts)) := by
  refine (pgs_cons h1 h2 hs).imp ?_
  rintro vs σ H Q ⟨R, h, env, xs, rh, re, rv, env', e, q⟩
  cases rv with
  | nil => rw [Mini.asgTs] at e; cases e; all_goals (intros; simp_all)
  | cons a b =>
    rw [Mini.asgTs, Option.bind_eq_some_iff] at e
    obtain ⟨env1, e1, e2⟩ := e
    exact ⟨_, _, rfl, R, h, env, _, rh, re, a, env1, e1, fun σ1 r1 m1 => ⟨R, h, env1, _, rh, r1, b, env', e2, fun σ2 r2 m2 => q σ2 r2 (by rw [slotss]; exact m1.trans m2)⟩⟩
theorem asgTs_len (h : Mini.Heap) : ∀ (ts : List Tg) (xs : List Val) (env env' : Mini.Env), Mini.asgTs h ts xs env = some env' → xs.length = ts.length
  | [], [], env, env', e => rfl
  | [], _ :: _, env, env', e => by rw [Mini.asgTs] at e; cases e; all_goals (intros; simp_all)
  | _ :: _, [], env, env', e => by rw [Mini.asgTs] at e; cases e; all_goals (intros; simp_all)
  | t :: ts, x :: xs, env, env', e => by
    rw [Mini.asgTs, Option.bind_eq_some_iff] at e
    obtain ⟨env1, e1, e2⟩ := e
    simp [asgTs_len h ts xs env1 env' e2]
theorem goal_tup {es : List Expr} {ts : List Tg} {kk : Nat} {pos : Pos} (hK : X.K = L.K) (hc : X.calm = true) (hp : PGs X es (semGs L G ts)) (hn : (assignEach es X.env).length = ts.length) (hst : (assignEach es X.env).findIdx? (·.1) = none) : PG X (.Tuple es kk pos) (semG L G (.tup ts)) := by
  refine (PG.or (pg_tup (n := ts.length) hc hp hn hst) (pg_lst (n := ts.length) hc hp hn hst)).imp ?_
  rintro v σ H Q ⟨R, h, env, x, rh, re, rv, env', e, q⟩
  rw [hK]
  cases x with
  | tup xs =>
    simp only [Mini.asgT] at e
    cases rv with
    | tup s r => exact .inl ⟨_, _, rfl, s, by rw [← r.length, asgTs_len _ _ _ _ _ e], R, h, env, _, rh, re, r, env', e, fun σ' r' m' => q σ' r' (by rw [slots]; exact m')⟩
  | lst xs =>
    simp only [Mini.asgT] at e
    cases rv with
    | lst s d r => exact .inr ⟨_, _, rfl, .of s, by rw [← r.length, asgTs_len _ _ _ _ _ e], R, h, env, _, rh, re, r, env', e, fun σ' r' m' => q σ' r' (by rw [slots]; exact m')⟩
  | ref n =>
    simp only [Mini.asgT] at e
    cases rv with
    | ref hi =>
      split at e
      · rename_i ex
        obtain ⟨vs, e1, r⟩ := HR.list rh ex
        exact .inr ⟨_, _, rfl, .of e1, by rw [← r.length, asgTs_len _ _ _ _ _ e], R, h, env, _, rh, re, r, env', e, fun σ' r' m' => q σ' r' (by rw [slots]; exact m')⟩
      · cases e
  | _ => simp only [Mini.asgT] at e; cases e

/-! ### a comprehension's own list -/
def Mp.plus (R : Mp) (D : Addr) : Mp := ⟨R.at_, fun a => R.own a ∨ a = D⟩
def Mp.with (R : Mp) (o : Addr → Prop) : Mp := ⟨R.at_, o⟩
def erase (H : Hp) (D : Addr) : Hp := fun a => if a = D then none else H a
theorem erase_at {H : Hp} {D : Addr} : erase H D D = none := if_pos rfl
theorem erase_ne {H : Hp} {D a : Addr} (h : a ≠ D) : erase H D a = H a := if_neg h
theorem erase_upd {H : Hp} {D : Addr} {o : HO} (h : H D = some o) : upd (erase H D) D o = H := by
  funext a
  by_cases z : a = D
  · subst z; rw [upd_same, h]
  · rw [upd_ne z, erase_ne z]
theorem upd_upd {H : Hp} {D : Addr} {o o' : HO} : upd (upd H D o) D o' = upd H D o' := by
  funext a
  by_cases z : a = D
  · subst z; rw [upd_same, upd_same]
  · rw [upd_ne z, upd_ne z, upd_ne z]
section
variable {R R2 : Mp} {h h2 : Mini.Heap} {H H2 : Hp} {D : Addr} {o : HO}
theorem own_mo (rh : HRL L G R h H) (hD : H D = none) : Mo R h.length H (R.plus D) h.length (upd H D o) :=
  ⟨Nat.le_refl _, fun _ _ => rfl, fun _ a b => absurd b (Nat.not_lt_of_le a), fun a o e q => q.elim id fun z => absurd z (ne_of_none e hD), fun a o e _ _ => by rw [upd_ne (ne_of_none e hD)]; exact e, fun i hi => by obtain ⟨u, e, m⟩ := rh.there hi; rw [e]; exact m, fun b q => rh.ow b q⟩
theorem own_add (mo : Mut (some o)) (rh : HRL L G R h H) (hD : H D = none) : HRL L G (R.plus D) h (upd H D o) := by
  refine ⟨rh.inj, fun i q e => ?_, fun a q => ?_, fun i hi q => ?_, tabs_to rh.tab fun b u e _ => by rw [upd_ne (ne_of_none e hD)]; exact e⟩
  · obtain ⟨u, eu, _⟩ := rh.there (List.getElem?_eq_some_iff.mp e).1
    exact (rh.at_ i q e).mono (own_mo rh hD) (upd_ne (ne_of_none eu hD))
  · rcases q with q | rfl
    · have m := rh.ow a q
      have ne : a ≠ D := fun z => by rw [z, hD] at m; exact m
      rw [upd_ne ne]; exact m
    · rw [upd_same]; exact mo
  · rcases q with q | q
    · exact rh.owR i hi q
    · exact (rh.off hD).1 i hi q
theorem drop_ne (r2 : HRL L G R2 h2 H2) (w : R2.own D) {i : Nat} (hi : i < h2.length) : R2 i ≠ D := fun z => r2.owR i hi (by rw [z]; exact w)
theorem drop_mo (r2 : HRL L G R2 h2 H2) (w : R2.own = (R.plus D).own) : Mo R2 h2.length H2 (R2.with R.own) h2.length (erase H2 D) :=
  ⟨Nat.le_refl _, fun _ _ => rfl, fun _ a b => absurd b (Nat.not_lt_of_le a), fun a u e q => by rw [w]; exact .inl q, fun a u e q _ => by rw [erase_ne (fun z => q.2 (by rw [w]; exact .inr z))]; exact e, fun i hi => by obtain ⟨u, e, m⟩ := r2.there hi; rw [e]; exact m, fun b q => r2.ow b q⟩
theorem own_drop (ho : ¬ Tx o) (rh : HRL L G R h H) (hD : H D = none) (t : Xt (R.plus D) h (upd H D o) R2 h2 H2) (r2 : HRL L G R2 h2 H2) :
    Xt R h H (R2.with R.own) h2 (erase H2 D) ∧ HRL L G (R2.with R.own) h2 (erase H2 D) ∧ H2 D = some o := by
  have oD : R2.own D := by rw [t.own]; exact .inr rfl
  have no : Nt o := by
    cases o with
    | tbl ps => exact absurd trivial ho
    | _ => trivial
  have e2 : H2 D = some o := t.keep D _ upd_same (fun i hi => (rh.off hD).1 i hi) no
  have tn : ∀ b u, H2 b = some u → Tx u → erase H2 D b = some u := fun b u e x => by
    rw [erase_ne fun z => ho (by rw [z, e2] at e; cases e; exact x)]
    exact e
  refine ⟨⟨t.len, t.same, rfl, fun i h1 hi => ?_, fun a u e q nt => ?_, fun a ps e => ?_⟩, ⟨r2.inj, fun i q e => ?_, fun a q => ?_, fun i hi q => ?_, tabs_to r2.tab tn⟩, e2⟩
  · have := t.new i h1 hi
    have ne : R2 i ≠ D := drop_ne r2 oD hi
    rw [upd_ne ne] at this
    exact this
  · have ne := ne_of_none e hD
    rw [erase_ne ne]
    exact t.keep a u (by rw [upd_ne ne]; exact e) q nt
  · have ne := ne_of_none e hD
    obtain ⟨ps', e'⟩ := t.tbl a ps (by rw [upd_ne ne]; exact e)
    exact ⟨ps', tn _ _ e' trivial⟩
  · have hi := (List.getElem?_eq_some_iff.mp e).1
    exact (r2.at_ i q e).mono (drop_mo r2 t.own) (erase_ne (drop_ne r2 oD hi))
  · have m := rh.ow a q
    have ne : a ≠ D := fun z => by rw [z, hD] at m; exact m
    rw [erase_ne ne]
    exact r2.ow a (by rw [t.own]; exact .inl q)
  · exact r2.owR i hi (by rw [t.own]; exact .inl q)
end
end
end MS

set_option Elab.async false
set_option linter.all false
set_option maxRecDepth 100000
set_option maxHeartbeats 4000000
/-! SK: comprehensions -/
namespace MS
open PySem PySem.Spec PyProof.Rows L2
open Mini (Val Res Ex Tg evalE evalEs evalI evalTs)
section
variable {L : Lk} {G : Cr} {W : WX} {C : Mini.Cx} {X : L2.Cx} {Γ : Gm} {k : Nat}
def Wn : WX := fun _ _ _ _ => False
def semTs (L : Lk) (G : Cr) (W : WX) (C : Mini.Cx) (es : List Ex) : TT := fun σ H Q => ∃ R h env, HRL L G R h H ∧ ERL L G H R h.length env σ ∧ SemR L G W (evalTs C es env h) R h H σ (bpost Q)
theorem tests_nil : PTs X [] (semTs L G W C []) := by
  refine ⟨fun pins s σ H Q I h => pts_nil.run pins s σ H Q I ?_⟩
  obtain ⟨R, h, env, rh, re, x⟩ := h
  simp only [evalTs] at x
  exact x.pure rh
theorem tests_one {c : Expr} {e : Ex} (hc : PT X c (semT L G W C e)) : PTs X [c] (semTs L G W C [e]) := by
  refine ⟨fun pins s σ H Q I h => (pts_one hc).run pins s σ H Q I ?_⟩
  obtain ⟨R, h, env, rh, re, x⟩ := h
  simp only [evalTs] at x
  refine ⟨R, h, env, rh, re, x.bind.imp fun R1 h1 H1 b t1 r1 x1 => ?_⟩
  cases b with
  | true => exact x1.pure r1
  | false => exact x1.pure r1

/-! ### what a turn of the evaluator's loop says -/
theorem lcGo_exn {step : Val → Mini.Heap → Res (List Val)} {c : String} {v : Val} {hx : Mini.Heap} : ∀ (vs : List Val) (h : Mini.Heap), Mini.lcGo step vs h ≠ .exn c v hx
  | [], h, e => by cases e
  | u :: vs, h, e => by
    simp only [Mini.lcGo] at e
    split at e
    · split at e
      · cases e
      · rename_i e1
        cases e
        exact lcGo_exn vs _ e1
      · cases e
    · cases e
    · cases e
theorem lcGo_cons {step : Val → Mini.Heap → Res (List Val)} {u : Val} {vs : List Val} {h hf : Mini.Heap} {out : List Val} (e : Mini.lcGo step (u :: vs) h = .ok out hf) : ∃ a h1 b, step u h = .ok a h1 ∧ Mini.lcGo step vs h1 = .ok b hf ∧ out = a ++ b := by
  simp only [Mini.lcGo] at e
  split at e
  · rename_i e1
    split at e
    · rename_i e2
      cases e
      exact ⟨_, _, _, e1, e2, rfl⟩
    · cases e
    · cases e
  · cases e
  · cases e
theorem turn_ok {t : Tg} {env : Mini.Env} {K : Mini.Env → Mini.M (List Val)} {chk : Mini.Heap → Bool} {v : Val} {h h1 : Mini.Heap} {a : List Val} (e : Mini.lcTurn t env (fun env' => Mini.guarded chk (K env')) v h = .ok a h1) :
    ∃ env', Mini.asgT h t v env = some env' ∧ K env' h = .ok a h1 ∧ chk h1 = true := by
  unfold Mini.lcTurn at e
  split at e
  · cases e
  · rename_i env' e1
    refine ⟨env', e1, ?_⟩
    unfold Mini.guarded Mini.M.bind at e
    dsimp only at e
    split at e
    · rename_i e2
      split at e
      · rename_i q
        cases e
        simp only [Bool.and_eq_true] at q
        exact ⟨e2, q.1⟩
      · cases e
    · cases e
    · cases e
theorem item_ok {is : List Ex} {e : Ex} {env : Mini.Env} {h h1 : Mini.Heap} {a : List Val} (x : ((evalTs C is env).bind fun k => match k with
      | true => (evalE C e env).bind fun x => Mini.M.pure [x]
      | false => Mini.M.pure []) h = .ok a h1) : (∃ h3 y, evalTs C is env h = .ok true h3 ∧ evalE C e env h3 = .ok y h1 ∧ a = [y]) ∨ (evalTs C is env h = .ok false h1 ∧ a = []) := by
  unfold Mini.M.bind at x
  cases e1 : evalTs C is env h with
  | ok k h3 =>
    rw [e1] at x
    cases k with
    | true =>
      dsimp only at x
      cases e2 : evalE C e env h3 with
      | ok y h4 =>
        rw [e2] at x
        cases x
        exact .inl ⟨h3, y, rfl, e2, rfl⟩
      | exn _ _ _ => rw [e2] at x; cases x
      | bad => rw [e2] at x; cases x
    | false => cases x; exact .inr ⟨rfl, rfl⟩
  | exn _ _ _ => rw [e1] at x; cases x
  | bad => rw [e1] at x; cases x
mutual
theorem mwipe : ∀ (t : Tg) (env : Mini.Env) (i : Nat) (v : Val), (Mini.wipe env t)[i]? = some (some v) → env[i]? = some (some v) ∧ i ∉ slots t
  | .loc j, env, i, v, e => by
    simp only [Mini.wipe] at e
    by_cases z : j = i
    · subst z
      by_cases hl : j < env.length
      · rw [List.getElem?_set_self hl] at e; cases e
      · rw [List.getElem?_eq_none (by rw [List.length_set]; omega)] at e; cases e
    · rw [List.getElem?_set_ne z] at e
      exact ⟨e, fun q => z (by simp [slots] at q; exact q.symm)⟩
  | .tup ts, env, i, v, e => by
    simp only [Mini.wipe] at e
    exact mwipes ts env i v e
theorem mwipes : ∀ (ts : List Tg) (env : Mini.Env) (i : Nat) (v : Val), (Mini.wipe.go env ts)[i]? = some (some v) → env[i]? = some (some v) ∧ i ∉ slotss ts
  | [], env, i, v, e => ⟨e, fun q => by cases q⟩
  | t :: ts, env, i, v, e => by
    simp only [Mini.wipe.go] at e
    obtain ⟨e1, n1⟩ := mwipes ts _ i v e
    obtain ⟨e2, n2⟩ := mwipe t env i v e1
    exact ⟨e2, fun q => (List.mem_append.mp q).elim n2 n1⟩
end
mutual
theorem mwipe_len : ∀ (t : Tg) (env : Mini.Env), (Mini.wipe env t).length = env.length
  | .loc j, env => List.length_set
  | .tup ts, env => by simp only [Mini.wipe]; exact mwipes_len ts env
theorem mwipes_len : ∀ (ts : List Tg) (env : Mini.Env), (Mini.wipe.go env ts).length = env.length
  | [], env => rfl
  | t :: ts, env => by simp only [Mini.wipe.go]; rw [mwipes_len ts, mwipe_len t]
end
theorem er_wipe {H : Hp} {R : Mp} {n : Nat} {env : Mini.Env} {σ : L2.St} {t : Tg} {vs : List Nat} (re : ERL L G H R n env σ) (h2 : ∀ j ∈ vs, j ∈ slots t) : ERL L G H R n (Mini.wipe env t) (L2.wipe σ vs) := by
  refine ⟨by rw [mwipe_len, L2.wipe_length, re.len], fun i v e => ?_⟩
  obtain ⟨e1, ni⟩ := mwipe t env i v e
  rw [wipe_get, if_neg (fun z => ni (h2 i z.1))]
  exact re.at_ i v e1
theorem wipe_wipe (σ : L2.St) (vs : List Nat) : L2.wipe (L2.wipe σ vs) vs = L2.wipe σ vs := by
  apply List.ext_getElem?
  intro j
  rw [wipe_get, wipe_get, L2.wipe_length]
  split <;> rfl
theorem xt_own_mo {R1 R' : Mp} {h1 h' : Mini.Heap} {H1 He : Hp} {D : Addr} {o : HO} (t : Xt R1 h1 H1 R' h' He) (r1 : HRL L G R1 h1 H1) (r' : HRL L G R' h' He) (hD : He D = none) : Mo R1 h1.length H1 (R'.plus D) h'.length (upd He D o) := by
  have m := t.mo r1
  refine ⟨m.len, m.same, m.new, fun a u e q => q.elim (fun q => m.ow a u e q) fun z => absurd z (ne_of_none e (fresh_back t r' hD)), fun a u e q nt => ?_, m.mu, m.muo⟩
  have e' := m.keep a u e q nt
  rw [upd_ne (ne_of_none e' hD)]
  exact e'
theorem asList_sem {m : Mini.M (List Val)} {R : Mp} {h : Mini.Heap} {H : Hp} {σ : L2.St} {p : Mp → Mini.Heap → Hp → Val → Prop} (x : SemR L G W (Mini.asList m h) R h H σ p) (no : ∀ c v hx, m h ≠ .exn c v hx) :
    ∃ out hf, m h = .ok out hf ∧ out.length ≤ Mini.line ∧ SemR L G W (.ok (.lst out) hf) R h H σ p := by
  unfold Mini.asList Mini.M.bind at x
  dsimp only at x
  cases e : m h with
  | ok out hf =>
    rw [e] at x
    dsimp only at x
    by_cases hl : out.length ≤ Mini.line
    · rw [if_pos hl] at x
      exact ⟨out, hf, rfl, hl, x⟩
    · rw [if_neg hl] at x
      exact x.elim
  | exn c v hx => exact absurd e (no c v hx)
  | bad => rw [e] at x; exact x.elim
theorem lc_sem {own : List Nat} {e : Ex} {t : Tg} {it : Mini.It} {is : List Ex} (h1 : ∀ j ∈ slots t, j ∈ own) (h2 : ∀ j ∈ own, j ∈ slots t) :
    ∀ σ H Q, semF L G W C (.lc e t it is) σ H Q → tLc (semI L G W C it) (semG L G t) (semTs L G Wn C is) (semE L G Wn C e) own σ H Q := by
  rintro σ H Q ⟨R, h, env, rh, re, x⟩
  simp only [evalE] at x
  refine ⟨R, h, env, rh, re, x.bind.imp fun R1 h1' H1 a t1 r1 x1 => fun J wk D hD => ?_⟩
  obtain ⟨vs, chk⟩ := a
  dsimp only at x1
  generalize hstep : (Mini.lcTurn t (Mini.wipe env t) fun env' => Mini.guarded chk ((evalTs C is env').bind fun k => match k with
      | true => (evalE C e env').bind fun x => Mini.M.pure [x]
      | false => Mini.M.pure [])) = step at x1
  obtain ⟨out, hf, eg, hlen, x1⟩ := asList_sem x1 fun c v hx => lcGo_exn vs h1'
  · have x1 : ∀ R' H', Xt R1 h1' H1 R' hf H' → HRL L G R' hf H' → fpost L G R h H Q R' hf H' (.lst out) := x1
    refine ⟨fun i m Hc => m = vs.length - i ∧ i ≤ vs.length ∧ ∃ R' h' He acc accV rest, Hc = upd He D (.lst accV) ∧ He D = none ∧ Xt R1 h1' H1 R' h' He ∧ HRL L G R' h' He ∧ VRsL L G He R' h'.length acc accV ∧ chk h' = true ∧ Mini.lcGo step (vs.drop i) h' = .ok rest hf ∧ out = acc ++ rest,
      ⟨_, rfl, Nat.zero_le _, R1, h1', H1, [], [], out, rfl, hD, Xt.refl, r1, .nil, wk.start, eg, rfl⟩, ?_⟩
    rintro i m Hc ⟨rfl, hi', R', h', He, acc, accV, rest, rfl, hDe, t', r', rv, ck, eq, eo⟩
    have rp := own_add (o := .lst accV) trivial r' hDe
    have mp := own_mo (o := .lst accV) r' hDe
    have mw := xt_own_mo (o := .lst accV) t' r1 r' hDe
    by_cases hlt : i < vs.length
    · right
      refine ⟨wk.go i _ h' _ mw rp ck hlt, fun Hx => (∃ R' h' He acc accV rest, Hx = upd He D (.lst accV) ∧ He D = none ∧ Xt R1 h1' H1 R' h' He ∧ HRL L G R' h' He ∧ VRsL L G He R' h'.length acc accV ∧ chk h' = true ∧ Mini.lcGo step (vs.drop (i + 1)) h' = .ok rest hf ∧ out = acc ++ rest), fun Hx z => ⟨_, by omega, rfl, hlt, z⟩, fun V H2 y => ?_⟩
      obtain ⟨tx, r2, rx⟩ := wk.yld i _ h' _ vs[i] V H2 mw rp ck (List.getElem?_eq_getElem hlt) y
      rw [List.drop_eq_getElem_cons hlt] at eq
      obtain ⟨ya, h3, b, es, eb, er⟩ := lcGo_cons eq
      rw [← hstep] at es
      obtain ⟨env', ea, ei, ck3⟩ := turn_ok es
      have re2 : ERL L G H2 (R'.plus D) h'.length (Mini.wipe env t) (L2.wipe σ own) := er_wipe ((((re.mono (t1.mo rh)).mono mw)).mono (tx.mo rp)) h2
      refine ⟨_, h', _, vs[i], r2, re2, rx, env', ea, fun σ' re' sm => ⟨?_, ?_⟩⟩
      · rw [sm.wipe h1, wipe_wipe]
      · refine ⟨_, h', env', r2, re', ?_⟩
        rcases item_ok ei with ⟨h4, yv, et, ee, rfl⟩ | ⟨et, rfl⟩
        · rw [et]
          intro R4 H4 t4 r4
          dsimp only [bpost]
          rw [if_pos rfl]
          refine ⟨R4, h4, env', r4, re'.mono (t4.mo r2), ?_⟩
          rw [ee]
          intro R5 H5 t5 r5 V5 rv5
          have tt := (tx.trans r2 t4).trans r4 t5
          obtain ⟨q1, q2, q3⟩ := own_drop (o := .lst _) (fun z => z) r' hDe tt r5
          have mo5 := drop_mo (D := D) (R := R') r5 tt.own
          refine ⟨accV, q3, ?_, R5.with R'.own, h3, erase H5 D, acc ++ [yv], accV ++ [V5], b, ?_, erase_at, t'.trans r' q1, q2, ?_, ck3, eb, by rw [eo, er, List.append_assoc]⟩
          · rw [← rv.length, ← line_eq]
            have : acc.length + 1 ≤ out.length := by rw [eo, er]; simp
            omega
          · have z := erase_upd q3
            conv => lhs; rw [← z]
            exact upd_upd
          · exact (rv.mono (q1.mo r')).append (.cons (rv5.mono mo5) .nil)
        · rw [et]
          intro R4 H4 t4 r4
          dsimp only [bpost]
          rw [if_neg (by decide)]
          have tt := tx.trans r2 t4
          obtain ⟨q1, q2, q3⟩ := own_drop (o := .lst _) (fun z => z) r' hDe tt r4
          exact ⟨R4.with R'.own, h3, erase H4 D, acc, accV, b, (erase_upd q3).symm, erase_at, t'.trans r' q1, q2, rv.mono (q1.mo r'), ck3, eb, by rw [eo, er]; rfl⟩
    · have ei : i = vs.length := by omega
      subst ei
      left
      refine ⟨wk.stop _ h' _ mw rp ck, ?_⟩
      rw [List.drop_length] at eq
      cases eq
      rw [List.append_nil] at eo
      subst eo
      exact (x1 R' _ (t'.trans r' (xt_aux hDe)) (r'.aux hDe)).1 out D accV He rfl (fresh_back (t1.trans r1 t') r' hDe) hDe rfl (t1.trans r1 t') r' rv
theorem fresh_lc {elt tg iter : Expr} {ifs : List Expr} {scope : Scope} {own : List (Str × Nat)} {pos : Pos} {e : Ex} {t : Tg} {it : Mini.It} {is : List Ex} (hc : X.calm = true) (hN : X.N.Nodup) (hi : PI X tg iter (semI L G W C it)) (ok : BlkOk X.N X.env.scope scope own)
    (hg : ∀ (s : Shared) (H : Hp) (B : Addr) (cl : List (Str × Addr)) (fp : List Addr), PG (X.blk s H scope (compEnvC scope cl B X.env) fp) tg (semG L G t)) (ht : ∀ (s : Shared) (H : Hp) (B : Addr) (cl : List (Str × Addr)) (fp : List Addr), PTs (X.blk s H scope (compEnvC scope cl B X.env) fp) ifs (semTs L G Wn C is))
    (he : ∀ (s : Shared) (H : Hp) (B : Addr) (cl : List (Str × Addr)) (fp : List Addr), PE (X.blk s H scope (compEnvC scope cl B X.env) fp) elt (semE L G Wn C e)) (hs : ∀ x, foldedSetIterable iter X.env x = pure x)
    (h1 : ∀ j ∈ slots t, j ∈ own.map (·.2)) (h2 : ∀ j ∈ own.map (·.2), j ∈ slots t) : PE X (.ListComp elt [⟨tg, iter, ifs, 0⟩] scope pos) (semF L G W C (.lc e t it is)) := by
  exact (pe_lc hc hN hi ok hg ht he hs).imp (lc_sem h1 h2)

end
end MS

set_option Elab.async false
set_option linter.all false
set_option maxRecDepth 100000
set_option maxHeartbeats 4000000
/-! SL: statements -/
namespace MS
open PySem PySem.Spec PyProof.Rows L2
open Mini (Val Res Ex Tg Out evalE evalEs evalI evalTs exec execs)
section
variable (L : Lk) (G : Cr) (W : WX)
def SemO (o : Out) (R : Mp) (h : Mini.Heap) (H : Hp) (D : Ends) : Prop := match o with
  | .next env h' => ∀ R' H' σ', Xt R h H R' h' H' → HRL L G R' h' H' → ERL L G H' R' h'.length env σ' → D.nx σ' H'
  | .ret v h' => ∀ R' H' V, Xt R h H R' h' H' → HRL L G R' h' H' → VRL L G H' R' h'.length v V → D.rt V H'
  | .brk env h' => ∀ R' H' σ', Xt R h H R' h' H' → HRL L G R' h' H' → ERL L G H' R' h'.length env σ' → D.bk σ' H'
  | .cont env h' => ∀ R' H' σ', Xt R h H R' h' H' → HRL L G R' h' H' → ERL L G H' R' h'.length env σ' → D.ct σ' H'
  | .exn c v env h' => ∀ R' H' σ' C d, Xt R h H R' h' H' → ExO L G R' h' H' c v C d → ERL L G H' R' h'.length env σ' → W (.ref C) (some d) σ' H'
  | .bad => False
variable (C : Mini.Cx)
def semS (s : Mini.St) : TS := fun D σ H => ∃ R h env, HRL L G R h H ∧ ERL L G H R h.length env σ ∧ SemO L G W (exec C s env h) R h H D
def semSs (ss : List Mini.St) : TS := fun D σ H => ∃ R h env, HRL L G R h H ∧ ERL L G H R h.length env σ ∧ SemO L G W (execs C ss env h) R h H D
end
theorem _root_.L2.PS.imp {X : L2.Cx} {e : Stmt} {t t' : TS} (p : PS X e t) (h : ∀ D σ H, t' D σ H → t D σ H) : PS X e t' := ⟨fun pins s σ H D I q => p.run pins s σ H D I (h _ _ _ q)⟩
theorem _root_.L2.PSs.imp {X : L2.Cx} {e : List Stmt} {t t' : TS} (p : PSs X e t) (h : ∀ D σ H, t' D σ H → t D σ H) : PSs X e t' := ⟨fun pins s σ H D I q => p.run pins s σ H D I (h _ _ _ q)⟩
section
variable {L : Lk} {G : Cr} {W : WX} {C : Mini.Cx} {X : L2.Cx} {Γ : Gm} {k : Nat}
section
variable {R R1 : Mp} {h h1 : Mini.Heap} {H H1 : Hp} {D : Ends} {σ : L2.St} {env : Mini.Env}
theorem SemO.from {o : Out} (x : SemO L G W o R h H D) (t : Xt R h H R1 h1 H1) (r1 : HRL L G R1 h1 H1) : SemO L G W o R1 h1 H1 D := by
  cases o with
  | next env h' => exact fun R' H' σ' t' => x R' H' σ' (t.trans r1 t')
  | ret v h' => exact fun R' H' V t' => x R' H' V (t.trans r1 t')
  | brk env h' => exact fun R' H' σ' t' => x R' H' σ' (t.trans r1 t')
  | cont env h' => exact fun R' H' σ' t' => x R' H' σ' (t.trans r1 t')
  | exn c v env h' => exact fun R' H' σ' C d t' => x R' H' σ' C d (t.trans r1 t')
  | bad => exact x
theorem SemO.onE {α : Type} {r : Res α} {k : α → Mini.Heap → Out} (rh : HRL L G R h H) (re : ERL L G H R h.length env σ) (x : SemO L G W (Mini.onE r env k) R h H D) : SemR L G W r R h H σ fun R' h' H' a => SemO L G W (k a h') R' h' H' D := by
  cases r with
  | ok a h' => exact fun R' H' t r' => SemO.from (o := k a h') x t r'
  | exn c v h' => exact fun R' H' C d t o => x R' H' σ C d t o (re.mono (t.mo rh))
  | bad => exact x
theorem SemO.next {o : Mini.Env} (x : SemO L G W (.next o h) R h H D) (rh : HRL L G R h H) (re : ERL L G H R h.length o σ) : D.nx σ H := x R H σ Xt.refl rh re
theorem SemO.then {o : Out} {k : Mini.Env → Mini.Heap → Out} (x : SemO L G W (o.then k) R h H D) : SemO L G W o R h H { D with nx := fun σ' H' => ∃ R' h' env', HRL L G R' h' H' ∧ ERL L G H' R' h'.length env' σ' ∧ SemO L G W (k env' h') R' h' H' D } := by
  cases o with
  | next env h' => exact fun R' H' σ' t r' e' => ⟨R', h', env, r', e', SemO.from (o := k env h') x t r'⟩
  | ret v h' => exact x
  | brk env h' => exact x
  | cont env h' => exact x
  | exn c v env h' => exact x
  | bad => exact x
end
theorem sounds_nil : PSs X [] (semSs L G W C []) := pss_nil.imp fun D σ H ⟨R, h, env, rh, re, x⟩ => by
  simp only [Mini.execs] at x
  exact x.next rh re
theorem sounds_cons {S : Stmt} {Ss : List Stmt} {s : Mini.St} {ss : List Mini.St} (h1 : PS X S (semS L G W C s)) (h2 : PSs X Ss (semSs L G W C ss)) : PSs X (S :: Ss) (semSs L G W C (s :: ss)) := (pss_cons h1 h2).imp fun D σ H ⟨R, h, env, rh, re, x⟩ => by
  simp only [Mini.execs] at x
  exact ⟨R, h, env, rh, re, x.then⟩
theorem sound_pass {pos : Pos} : PS X (.Pass pos) (semS L G W C .pass) := ps_pass.imp fun D σ H ⟨R, h, env, rh, re, x⟩ => by
  simp only [Mini.exec] at x
  exact x.next rh re
theorem sound_brk {pos : Pos} : PS X (.Break pos) (semS L G W C .brk) := ps_break.imp fun D σ H ⟨R, h, env, rh, re, x⟩ => by
  simp only [Mini.exec] at x
  exact x R H σ Xt.refl rh re
theorem sound_cont {pos : Pos} : PS X (.Continue pos) (semS L G W C .cont) := ps_continue.imp fun D σ H ⟨R, h, env, rh, re, x⟩ => by
  simp only [Mini.exec] at x
  exact x R H σ Xt.refl rh re
theorem sound_exp {E : Expr} {e : Ex} {pos : Pos} (he : PE X E (semE L G W C e)) (hs : swapsWith E none pos.line X.env = pure false) : PS X (.Expr E pos) (semS L G W C (.exp e)) := (ps_expr he hs).imp fun D σ H ⟨R, h, env, rh, re, x⟩ => by
  simp only [Mini.exec] at x
  refine ⟨R, h, env, rh, re, (SemO.onE rh re x).imp fun R1 h1 H1 v t1 r1 x1 => fun V _ => ?_⟩
  exact SemO.next x1 r1 (re.mono (t1.mo rh))
theorem sound_ret {E : Expr} {e : Ex} {pos : Pos} (he : PE X E (semE L G W C e)) : PS X (.Return (some E) pos) (semS L G W C (.ret e)) := (ps_ret he).imp fun D σ H ⟨R, h, env, rh, re, x⟩ => by
  simp only [Mini.exec] at x
  exact ⟨R, h, env, rh, re, (SemO.onE rh re x).imp fun R1 h1 H1 v t1 r1 x1 => fun V rv => x1 R1 H1 V Xt.refl r1 rv⟩
theorem sound_retN {pos : Pos} : PS X (.Return none pos) (semS L G W C (.ret (.lit .none))) := ps_retN.imp fun D σ H ⟨R, h, env, rh, re, x⟩ => by
  simp only [Mini.exec, evalE] at x
  exact x R H .non Xt.refl rh .none
theorem sound_if {E : Expr} {A B : List Stmt} {e : Ex} {a b : List Mini.St} {pos : Pos} (he : PT X E (semT L G W C e)) (ha : PSs X A (semSs L G W C a)) (hb : PSs X B (semSs L G W C b)) : PS X (.If E A B pos) (semS L G W C (.cond e a b)) := (ps_if he ha hb).imp fun D σ H ⟨R, h, env, rh, re, x⟩ => by
  simp only [Mini.exec] at x
  refine ⟨R, h, env, rh, re, (SemO.onE rh re x).imp fun R1 h1 H1 v t1 r1 x1 => ?_⟩
  have re1 := re.mono (t1.mo rh)
  cases v with
  | true => dsimp only [bpost]; rw [if_pos rfl]; exact ⟨R1, h1, env, r1, re1, x1⟩
  | false => dsimp only [bpost]; rw [if_neg Bool.false_ne_true]; exact ⟨R1, h1, env, r1, re1, x1⟩
theorem asg_sem {e : Ex} {t : Tg} {te : TE} (hv : ∀ σ H Q, semE L G W C e σ H Q → te σ H Q) : ∀ D σ H, semS L G W C (.asg t e) D σ H → tAsg te (semG L G t) D σ H := fun D σ H ⟨R, h, env, rh, re, x⟩ => by
  simp only [Mini.exec] at x
  refine hv σ H _ ⟨R, h, env, rh, re, (SemO.onE rh re x).imp fun R1 h1 H1 v t1 r1 x1 => fun V rv => ?_⟩
  have re1 := re.mono (t1.mo rh)
  cases ea : Mini.asgT h1 t v env with
  | none => rw [ea] at x1; exact x1.elim
  | some env' =>
    rw [ea] at x1
    exact ⟨R1, h1, env, v, r1, re1, rv, env', ea, fun σ' r' _ => SemO.next x1 r1 r'⟩
theorem sound_asg {E T : Expr} {e : Ex} {t : Tg} {pos : Pos} (he : PE X E (semE L G W C e)) (hg : PG X T (semG L G t)) (hs : swapsWithSole [T] E pos.line X.env = pure false) (hw : swappedStores [T] E X.env = pure none) (h1 : (assignEach [T] X.env).map (·.2) = [assign T X.env]) :
    PS X (.Assign [T] E pos) (semS L G W C (.asg t e)) := (ps_asg he hg hs hw h1).imp (asg_sem fun _ _ _ q => q)
theorem sound_set {x : Str} {E : Expr} {e : Ex} {i : Nat} {px pos : Pos} (hN : X.N.Nodup) (hi : X.N[i]? = some x) (hx : Loc X.env.scope x) (he : PE X E (semE L G W C e)) (hs : swapsWith E (some (.Name x px)) pos.line X.env = pure false) (hf : X.fn x = true ∨ X.env.scope.names.lookup x = some .local) :
    PS X (.Assign [.Name x px] E pos) (semS L G W C (.asg (.loc i) e)) := by
  refine (ps_set hN hi hx he hs hf).imp fun D σ H q => ?_
  have q1 := asg_sem (te := semE L G W C e) (fun _ _ _ z => z) D σ H q
  obtain ⟨R, h, env, rh, re, x⟩ := q1
  refine ⟨R, h, env, rh, re, x.imp fun R1 h1 H1 v t1 r1 x1 => fun V rv => ?_⟩
  obtain ⟨R2, h2, env2, v2, a1, a2, a3, env3, a4, a5⟩ := x1 V rv
  rw [Mini.asgT] at a4
  split at a4
  · cases a4
    exact a5 _ (a2.set i a3) Sm.set
  · cases a4
/-- x = [..] on one line -/
theorem sound_setLc {x : Str} {elt tg iter : Expr} {ifs : List Expr} {scope : Scope} {own : List (Str × Nat)} {px pos spos : Pos} {i : Nat} {e e' : Ex} {t : Tg} {it : Mini.It} {is : List Ex} (hc : X.calm = true) (hN : X.N.Nodup) (hx : X.N[i]? = some x) (hxl : X.env.scope.names.lookup x = some .local)
    (hsw : swapsWith (.ListComp elt [⟨tg, iter, ifs, 0⟩] scope pos) (some (.Name x px)) spos.line X.env = pure true) (hi : PI X tg iter (semI L G W C it)) (ok : BlkOk X.N X.env.scope scope own)
    (hg : ∀ (s : Shared) (H : Hp) (B : Addr) (cl : List (Str × Addr)) (fp : List Addr), PG (X.blk s H scope (compEnvC scope cl B X.env) fp) tg (semG L G t)) (ht : ∀ (s : Shared) (H : Hp) (B : Addr) (cl : List (Str × Addr)) (fp : List Addr), PTs (X.blk s H scope (compEnvC scope cl B X.env) fp) ifs (semTs L G Wn C is))
    (he : ∀ (s : Shared) (H : Hp) (B : Addr) (cl : List (Str × Addr)) (fp : List Addr), PE (X.blk s H scope (compEnvC scope cl B X.env) fp) elt (semE L G Wn C e)) (hs : ∀ x, foldedSetIterable iter X.env x = pure x)
    (h1 : ∀ j ∈ slots t, j ∈ own.map (·.2)) (h2 : ∀ j ∈ own.map (·.2), j ∈ slots t) (hv : ∀ σ H Q, semE L G W C e' σ H Q → semF L G W C (.lc e t it is) σ H Q) : PS X (.Assign [.Name x px] (.ListComp elt [⟨tg, iter, ifs, 0⟩] scope pos) spos) (semS L G W C (.asg (.loc i) e')) := by
  refine (ps_setLc hc hN hx hxl hsw hi ok hg ht he hs).imp fun D σ H q => ?_
  refine lc_sem h1 h2 σ H _ (hv σ H _ ?_)
  have q1 := asg_sem (te := semE L G W C e') (fun _ _ _ z => z) D σ H q
  obtain ⟨R, h, env, rh, re, x⟩ := q1
  refine ⟨R, h, env, rh, re, x.imp fun R1 h1 H1 v t1 r1 x1 => fun V rv => ?_⟩
  obtain ⟨R2, h2, env2, v2, a1, a2, a3, env3, a4, a5⟩ := x1 V rv
  rw [Mini.asgT] at a4
  split at a4
  · cases a4
    exact a5 _ (a2.set i a3) Sm.set
  · cases a4
/-- a, b = x, y: stored from the right -/
theorem sound_par {x y : Str} {A B : Expr} {a b : Ex} {i j : Nat} {px py pt pos : Pos} {kt k2 pt2} (hc : X.calm = true) (hN : X.N.Nodup) (hi : X.N[i]? = some x) (hj : X.N[j]? = some y) (hij : i ≠ j) (hx : X.env.scope.names.lookup x = some .local) (hy : X.env.scope.names.lookup y = some .local) (ha : PA X [A, B] (semA L G W C [a, b]))
    (hw : swappedStores [.Tuple [.Name x px, .Name y py] kt pt] (.Tuple [A, B] k2 pt2) X.env = pure (some [x, y])) (hs : swapsWithSole [.Tuple [.Name x px, .Name y py] kt pt] (.Tuple [A, B] k2 pt2) pos.line X.env = pure false) :
    PS X (.Assign [.Tuple [.Name x px, .Name y py] kt pt] (.Tuple [A, B] k2 pt2) pos) (semS L G W C (.asg (.tup [.loc i, .loc j]) (.tup [a, b]))) := by
  refine (ps_par hc hN hi hj hij hx hy ha hw hs).imp fun D σ H ⟨R, h, env, rh, re, x⟩ => ?_
  simp only [Mini.exec, evalE] at x
  refine ⟨R, h, env, rh, re, (SemO.onE rh re x).bind.imp fun R1 h1 H1 vs t1 r1 x1 => fun Vs rvs => ?_⟩
  have x2 : SemO L G W (match Mini.asgT h1 (.tup [.loc i, .loc j]) (.tup vs) env with
    | some env' => .next env' h1
    | none => .bad) R1 h1 H1 D := SemR.pure (a := Val.tup vs) x1 r1
  have re1 := re.mono (t1.mo rh)
  cases ea : Mini.asgT h1 (.tup [.loc i, .loc j]) (.tup vs) env with
  | none => rw [ea] at x2; exact x2.elim
  | some env' =>
    rw [ea] at x2
    simp only [Mini.asgT] at ea
    have hl := asgTs_len _ _ _ _ _ ea
    match vs, rvs, hl with
    | [v, w], .cons rv (.cons rw' .nil), _ =>
      refine ⟨_, _, rfl, ?_⟩
      simp only [Mini.asgTs, Mini.asgT, Option.bind_eq_some_iff] at ea
      obtain ⟨e1, q1, e2, q2, q3⟩ := ea
      split at q1
      · cases q1
        split at q2
        · cases q2
          cases q3
          exact SemO.next x2 r1 ((re1.set i rv).set j rw')
        · cases q2
      · cases q1
/-! ### loops -/
theorem sound_for {T I : Expr} {B : List Stmt} {t : Tg} {it : Mini.It} {b : List Mini.St} {pos : Pos} (hp : PassesOwn (model X.prog X.w) X.A X.env X.xe) (hc : X.calm = true) (hi : PI X T I (semI L G W C it)) (hg : PG X T (semG L G t)) (hb : PSs X B (semSs L G W C b)) (hs : ∀ x, foldedSetIterable I X.env x = pure x) :
    PS X (.For T I B [] pos) (semS L G W C (.loop t it b)) := by
  refine (ps_for hp hc hi hg hb hs).imp ?_
  rintro D σ H ⟨R, h, env, rh, re, x⟩
  simp only [Mini.exec] at x
  refine ⟨R, h, env, rh, re, (SemO.onE rh re x).imp fun R1 h1 H1 a t1 r1 x1 => fun J wk => ?_⟩
  obtain ⟨vs, chk⟩ := a
  dsimp only at x1
  generalize hstep : (fun v env h => match Mini.asgT h t v env with
      | some env' => Mini.execs C b env' h
      | none => Out.bad) = step at x1
  refine ⟨fun i m σ' H' => m = vs.length - i ∧ i ≤ vs.length ∧ ∃ R' h' env', Xt R1 h1 H1 R' h' H' ∧ HRL L G R' h' H' ∧ ERL L G H' R' h'.length env' σ' ∧ chk h' = true ∧ SemO L G W (Mini.loopGo chk step (vs.drop i) env' h') R' h' H' D,
    ⟨_, rfl, Nat.zero_le _, R1, h1, env, Xt.refl, r1, re.mono (t1.mo rh), wk.start, x1⟩, ?_⟩
  rintro i m σ' H' ⟨rfl, hi', R', h', env', t', r', re', ck, x'⟩
  by_cases hlt : i < vs.length
  · right
    refine ⟨wk.go i R' h' H' (t'.mo r1) r' ck hlt, fun σ'' H'' => ∃ R' h' env', Xt R1 h1 H1 R' h' H'' ∧ HRL L G R' h' H'' ∧ ERL L G H'' R' h'.length env' σ'' ∧ chk h' = true ∧ SemO L G W (Mini.loopGo chk step (vs.drop (i + 1)) env' h') R' h' H'' D, fun σ'' H'' z => ⟨_, by omega, rfl, hlt, z⟩, fun V H2 y => ?_⟩
    obtain ⟨tx, r2, rx⟩ := wk.yld i R' h' H' vs[i] V H2 (t'.mo r1) r' ck (List.getElem?_eq_getElem hlt) y
    rw [List.drop_eq_getElem_cons hlt] at x'
    have x2 := SemO.from x' tx r2
    simp only [Mini.loopGo] at x2
    have re2 := re'.mono (tx.mo r')
    refine ⟨R', h', env', vs[i], r2, re2, rx, ?_⟩
    cases ea : Mini.asgT h' t vs[i] env' with
    | none =>
      have : step vs[i] env' h' = .bad := by rw [← hstep]; dsimp only; rw [ea]
      rw [this] at x2
      exact x2.elim
    | some env2 =>
      have es : step vs[i] env' h' = Mini.execs C b env2 h' := by rw [← hstep]; dsimp only; rw [ea]
      rw [es] at x2
      refine ⟨env2, rfl, fun σ3 re3 _ => ⟨R', h', env2, r2, re3, ?_⟩⟩
      have again : ∀ (o : Mini.Env) (h3 : Mini.Heap), SemO L G W (if chk h3 then Mini.loopGo chk step (vs.drop (i + 1)) o h3 else .bad) R' h' H2 D → ∀ R4 H4 σ4, Xt R' h' H2 R4 h3 H4 → HRL L G R4 h3 H4 → ERL L G H4 R4 h3.length o σ4 →
          ∃ R' h' env', Xt R1 h1 H1 R' h' H4 ∧ HRL L G R' h' H4 ∧ ERL L G H4 R' h'.length env' σ4 ∧ chk h' = true ∧ SemO L G W (Mini.loopGo chk step (vs.drop (i + 1)) env' h') R' h' H4 D := fun o h3 z R4 H4 σ4 t4 r4 e4 => by
        by_cases ck3 : chk h3 = true
        · rw [if_pos ck3] at z
          exact ⟨R4, h3, o, (t'.trans r' tx).trans r2 t4, r4, e4, ck3, z.from t4 r4⟩
        · rw [if_neg ck3] at z
          exact z.elim
      cases eo : Mini.execs C b env2 h' with
      | next o h3 => rw [eo] at x2; exact again o h3 x2
      | cont o h3 => rw [eo] at x2; exact again o h3 x2
      | brk o h3 => rw [eo] at x2; exact x2
      | ret v h3 => rw [eo] at x2; exact x2
      | exn c v o h3 => rw [eo] at x2; exact x2
      | bad => rw [eo] at x2; exact x2
  · have ei : i = vs.length := by omega
    subst ei
    left
    refine ⟨wk.stop R' h' H' (t'.mo r1) r' ck, ?_⟩
    rw [List.drop_length] at x'
    exact SemO.next x' r' re'
theorem sound_while {E : Expr} {B : List Stmt} {e : Ex} {b : List Mini.St} {pos : Pos} (hp : PassesOwn (model X.prog X.w) X.A X.env X.xe) (he : PT X E (semT L G W C e)) (hb : PSs X B (semSs L G W C b)) : PS X (.While E B [] pos) (semS L G W C (.whl e b)) := by
  refine (ps_while hp he hb).imp ?_
  rintro D σ H ⟨R, h, env, rh, re, x⟩
  simp only [Mini.exec] at x
  refine ⟨fun m σ' H' => ∃ R' h' env', HRL L G R' h' H' ∧ ERL L G H' R' h'.length env' σ' ∧ SemO L G W (Mini.whileGo (fun env => Mini.tst (evalE C e env)) (fun env h => Mini.execs C b env h) m env' h') R' h' H' D, ⟨_, R, h, env, rh, re, x⟩, ?_⟩
  rintro m σ' H' ⟨R', h', env', r', re', x'⟩
  cases m with
  | zero => exact x'.elim
  | succ m =>
    simp only [Mini.whileGo] at x'
    refine ⟨R', h', env', r', re', ?_⟩
    cases et : Mini.tst (evalE C e env') h' with
    | exn c v h1 => rw [et] at x'; exact fun R1 H1 C1 d t1 o => x' R1 H1 σ' C1 d t1 o (re'.mono (t1.mo r'))
    | bad => rw [et] at x'; exact x'
    | ok k h1 =>
      rw [et] at x'
      intro R1 H1 t1 r1
      have re1 := re'.mono (t1.mo r')
      cases k with
      | false =>
        dsimp only [bpost]
        rw [if_neg Bool.false_ne_true]
        exact x' R1 H1 σ' t1 r1 re1
      | true =>
        dsimp only [bpost]
        rw [if_pos rfl]
        refine ⟨fun σ2 H2 => ∃ R' h' env', HRL L G R' h' H2 ∧ ERL L G H2 R' h'.length env' σ2 ∧ SemO L G W (Mini.whileGo (fun env => Mini.tst (evalE C e env)) (fun env h => Mini.execs C b env h) m env' h') R' h' H2 D, fun σ2 H2 z => ⟨m, Nat.lt_succ_self m, z⟩, R1, h1, env', r1, re1, ?_⟩
        dsimp only at x'
        have x2 := SemO.from x' t1 r1
        have again : ∀ (o : Mini.Env) (h3 : Mini.Heap), SemO L G W (Mini.whileGo (fun env => Mini.tst (evalE C e env)) (fun env h => Mini.execs C b env h) m o h3) R1 h1 H1 D → ∀ R4 H4 σ4, Xt R1 h1 H1 R4 h3 H4 → HRL L G R4 h3 H4 → ERL L G H4 R4 h3.length o σ4 →
            ∃ R' h' env', HRL L G R' h' H4 ∧ ERL L G H4 R' h'.length env' σ4 ∧ SemO L G W (Mini.whileGo (fun env => Mini.tst (evalE C e env)) (fun env h => Mini.execs C b env h) m env' h') R' h' H4 D := fun o h3 z R4 H4 σ4 t4 r4 e4 => ⟨R4, h3, o, r4, e4, z.from t4 r4⟩
        cases eo : Mini.execs C b env' h1 with
        | next o h3 => rw [eo] at x2; exact again o h3 x2
        | cont o h3 => rw [eo] at x2; exact again o h3 x2
        | brk o h3 => rw [eo] at x2; exact x2
        | ret v h3 => rw [eo] at x2; exact x2
        | exn c v o h3 => rw [eo] at x2; exact x2
        | bad => rw [eo] at x2; exact x2
end
end MS

set_option Elab.async false
set_option linter.all false
set_option maxRecDepth 100000
set_option maxHeartbeats 4000000
/-! SM: stores, methods that change, dict displays -/
namespace MS
open PySem PySem.Spec PyProof.Rows L2
open Mini (Val Res Ex Tg Out evalE evalEs evalI evalTs)
section
variable {L : Lk} {G : Cr} {W : WX} {C : Mini.Cx} {X : L2.Cx} {Γ : Gm} {k : Nat}
/-- an object of ours is changed -/
theorem mut_mo {R : Mp} {h : Mini.Heap} {H : Hp} {n : Nat} {o : HO} (rh : HRL L G R h H) (hn : n < h.length) : Mo R h.length H R h.length (upd H (R n) o) :=
  ⟨Nat.le_refl _, fun _ _ => rfl, fun _ a b => absurd b (Nat.not_lt_of_le a), fun _ _ _ q => q, fun a u e q _ => by rw [upd_ne (fun z => q.1 n hn z.symm)]; exact e, fun i hi => by obtain ⟨u, e, m⟩ := rh.there hi; rw [e]; exact m, fun b q => rh.ow b q⟩
theorem mut_obj {R : Mp} {h : Mini.Heap} {H : Hp} {n : Nat} {o : HO} {ob : Mini.Obj} (rh : HRL L G R h H) (hn : n < h.length) (ho : OR L.K L.co noClo (upd H (R n) o) R h.length (R n) ob) :
    HRL L G R (h.set n ob) (upd H (R n) o) ∧ Xt R h H R (h.set n ob) (upd H (R n) o) := by
  have hl : (h.set n ob).length = h.length := List.length_set
  have tn : ∀ b u, H b = some u → Tx u → upd H (R n) o b = some u := fun b u e x => by
    refine (upd_ne fun z => ?_).trans e
    obtain ⟨o', h1, h2⟩ := rh.thereN hn
    rw [z, h1] at e
    cases e
    exact h2 x
  refine ⟨⟨fun i j hi hj => rh.inj i j (hl ▸ hi) (hl ▸ hj), fun i q e => ?_, fun a q => ?_, fun i hi => rh.owR i (hl ▸ hi), tabs_to rh.tab tn⟩, ⟨Nat.le_of_eq hl.symm, fun _ _ => rfl, rfl, fun i a b => absurd (hl ▸ b) (Nat.not_lt_of_le a), fun a u e q _ => by rw [upd_ne (fun z => q n hn z.symm)]; exact e, fun a ps e => tb0 (tn _ _ e trivial)⟩⟩
  · rw [hl]
    by_cases z : n = i
    · subst z
      rw [List.getElem?_set_self hn] at e
      cases e
      exact ho
    · rw [List.getElem?_set_ne z] at e
      have hi := (List.getElem?_eq_some_iff.mp e).1
      exact (rh.at_ i q e).mono (mut_mo rh hn) (upd_ne fun w => z (rh.inj i n hi hn w).symm)
  · have m := rh.ow a q
    have ne : a ≠ R n := fun z => rh.owR n hn (z ▸ q)
    rw [upd_ne ne]; exact m

/-! ### o[i] = v -/
theorem KVR.any {G : Clo} {H : Hp} {R : Mp} {n : Nat} {k : Val} {q : Key} (hk : keyOf k = some q) : ∀ {kvs : List (Val × Val)} {ks : List (Key × L2.V)}, KVR L.K G H R n kvs ks → (kvs.any fun p => p.1 == k) = ks.any fun kv => decide (kv.1 = q)
  | _, _, .nil => rfl
  | _, _, .cons (k := k') (q := q') hk' rx t => by
    rw [List.any_cons, List.any_cons, KVR.any hk t]
    congr 1
    by_cases e : k' = k
    · subst e
      rw [hk] at hk'
      cases hk'
      simp
    · have nq : ¬ q' = q := fun z => e (keyOf_inj hk' (z ▸ hk))
      rw [beq_eq_false_iff_ne.mpr e, decide_eq_false nq]
theorem KVR.map {G : Clo} {H : Hp} {R : Mp} {n : Nat} {k v : Val} {q : Key} {u : L2.V} (hk : keyOf k = some q) (rv : VR L.K G H R n v u) : ∀ {kvs : List (Val × Val)} {ks : List (Key × L2.V)}, KVR L.K G H R n kvs ks →
    KVR L.K G H R n (kvs.map fun p => if p.1 = k then (p.1, v) else p) (ks.map fun kv => if kv.1 = q then (kv.1, u) else kv)
  | _, _, .nil => .nil
  | _, _, .cons (k := k') (q := q') hk' rx t => by
    rw [List.map_cons, List.map_cons]
    by_cases e : k' = k
    · subst e
      rw [hk] at hk'
      cases hk'
      rw [if_pos rfl, if_pos rfl]
      exact .cons hk rv (KVR.map hk rv t)
    · have nq : ¬ q' = q := fun z => e (keyOf_inj hk' (z ▸ hk))
      rw [if_neg e, if_neg nq]
      exact .cons hk' rx (KVR.map hk rv t)
theorem KVR.snoc {G : Clo} {H : Hp} {R : Mp} {n : Nat} {k v : Val} {q : Key} {u : L2.V} (hk : keyOf k = some q) (rv : VR L.K G H R n v u) : ∀ {kvs : List (Val × Val)} {ks : List (Key × L2.V)}, KVR L.K G H R n kvs ks → KVR L.K G H R n (kvs ++ [(k, v)]) (ks ++ [(q, u)])
  | _, _, .nil => .cons hk rv .nil
  | _, _, .cons hk' rx t => .cons hk' rx (KVR.snoc hk rv t)
theorem KVR.put {G : Clo} {H : Hp} {R : Mp} {n : Nat} {k v : Val} {q : Key} {u : L2.V} {kvs : List (Val × Val)} {ks : List (Key × L2.V)} (hk : keyOf k = some q) (rv : VR L.K G H R n v u) (r : KVR L.K G H R n kvs ks) : KVR L.K G H R n (Mini.put k v kvs) (putK ks q u) := by
  unfold Mini.put putK
  rw [r.any hk]
  split
  · exact r.map hk rv
  · exact r.snoc hk rv
theorem set_sem {R : Mp} {h : Mini.Heap} {H : Hp} {a i v : Val} {A I V : L2.V} {h' : Mini.Heap} {Q : Hp → Prop} (rh : HRL L G R h H) (ra : VRL L G H R h.length a A) (ri : VRL L G H R h.length i I) (rv : VRL L G H R h.length v V) (hst : Mini.still v = true) (e : Mini.setIt h a i v = some h')
    (q : ∀ H', Xt R h H R h' H' → HRL L G R h' H' → Q H') : rSetL A I V H Q ∨ rSetD A I V H Q := by
  unfold Mini.setIt at e
  split at e
  · cases ra with
    | ref hn =>
      split at e
      · rename_i xs ex
        obtain ⟨vs, e1, r⟩ := HR.list0 rh ex
        split at e
        · rename_i j
          rw [Option.map_eq_some_iff] at e
          obtain ⟨m, em, rfl⟩ := e
          cases ri.in
          obtain ⟨q1, q2⟩ := mut_obj (o := .lst (vs.set m V)) (ob := .list (xs.set m v)) rh hn ⟨_, upd_same, (r.set m (rv.stil _ _ hst)).mono (mut_mo rh hn)⟩
          exact .inl ⟨_, vs, j, m, rfl, rfl, e1, by rw [← r.length]; exact em, q _ q2 q1⟩
        · cases e
      · rename_i kvs ex
        obtain ⟨ks, e1, r⟩ := HR.dict0 rh ex
        split at e
        · rename_i hc
          cases e
          simp only [Bool.and_eq_true, decide_eq_true_eq] at hc
          obtain ⟨kq, hk⟩ := keyOf_flat (show Mini.flatKey i = true from hc.1)
          have eI := keyOf_V hk ri
          subst eI
          obtain ⟨q1, q2⟩ := mut_obj (o := .dK (putK ks kq V)) (ob := .dict (Mini.put i v kvs)) rh hn ⟨_, upd_same, (r.put hk (rv.stil _ _ hst)).mono (mut_mo rh hn)⟩
          exact .inr ⟨_, _, rfl, DPut.k e1 (by rw [← r.length, ← line_eq]; exact hc.2), q _ q2 q1⟩
        · cases e
      · cases e
  · cases e
theorem PSet.or {X : L2.Cx} {t u : TSet} (a : PSet X t) (b : PSet X u) : PSet X (fun o i v H Q => t o i v H Q ∨ u o i v H Q) := fun pins s σ H o i v ov iv w Q I r1 r2 r3 h => h.elim (fun h => a pins s σ H o i v ov iv w Q I r1 r2 r3 h) fun h => b pins s σ H o i v ov iv w Q I r1 r2 r3 h
theorem sound_put {O I E : Expr} {o i e : Ex} {pos tpos : Pos} (hu : X.A.units + 1 < cLine) (ho : PE X O (semE L G W C o)) (hi : PE X I (semE L G W C i)) (he : PE X E (semE L G W C e))
    (ha : ∀ v, assign (.Subscript O I tpos) X.env v = (do
      let ov ← holding [v] (eval O X.env)
      let iv ← holding [v, ov] (eval I X.env)
      standAt tpos
      holding [v, ov, iv] (setItem ov iv v)
      release [v, ov, iv] []))
    (hs : swapsWithSole [.Subscript O I tpos] E pos.line X.env = pure false) (hw : swappedStores [.Subscript O I tpos] E X.env = pure none) (h1 : (assignEach [.Subscript O I tpos] X.env).map (·.2) = [assign (.Subscript O I tpos) X.env]) :
    PS X (.Assign [.Subscript O I tpos] E pos) (semS L G W C (.sub o i e)) := by
  refine (ps_asg he (pg_sub ho hi (PSet.or set_list (set_dict hu)) ha) hs hw h1).imp ?_
  rintro D σ H ⟨R, h, env, rh, re, x⟩
  simp only [Mini.exec] at x
  refine ⟨R, h, env, rh, re, (SemO.onE rh re x).bind.imp fun R1 h1 H1 v t1 r1 x1 => fun V rv => ?_⟩
  refine ⟨R1, h1, env, r1, re.mono (t1.mo rh), x1.bind.imp fun R2 h2 H2 a t2 r2 x2 => fun A ra => ?_⟩
  refine ⟨R2, h2, env, r2, (re.mono (t1.mo rh)).mono (t2.mo r1), x2.bind.imp fun R3 h3 H3 j t3 r3 x3 => fun J rj => ?_⟩
  have re3 := ((re.mono (t1.mo rh)).mono (t2.mo r1)).mono (t3.mo r2)
  split at x3
  · obtain ⟨h', e', f⟩ := SemR.opt (o := Mini.setIt h3 a j v) x3
    refine set_sem r3 (ra.mono (t3.mo r2)) rj ((rv.mono (t2.mo r1)).mono (t3.mo r2)) (by assumption) e' fun H' xt hr => ?_
    exact f R3 H3 Xt.refl r3 R3 H' σ xt hr (re3.mono (xt.mo r3))
  · exact x3.elim
end
end MS

set_option Elab.async false
set_option linter.all false
set_option maxRecDepth 100000
set_option maxHeartbeats 4000000
/-! SN: chains of comparisons, methods, dict displays -/
namespace MS
open PySem PySem.Spec PyProof.Rows L2
open Mini (Val Res Ex Tg Out evalE evalEs evalI evalTs)
section
variable {L : Lk} {G : Cr} {W : WX} {C : Mini.Cx} {X : L2.Cx} {Γ : Gm} {k : Nat}
/-! ### a op b op' c -/
theorem chain_sem {a b c : Ex} {op op' : Mini.COp} {r r' : R2} (ok : CmpOk L G op r) (ok' : CmpOk L G op' r') : ∀ σ H Q, semE L G W C (.chain op op' a b c) σ H Q → tChain r r' (semE L G W C a) (semE L G W C b) (semE L G W C c) σ H Q := by
  rintro σ H Q ⟨R, h, env, rh, re, x⟩
  simp only [evalE] at x
  refine ⟨R, h, env, rh, re, x.bind.imp fun R1 h1 H1 v t1 r1 x1 => fun V rv => ?_⟩
  have re1 := re.mono (t1.mo rh)
  refine ⟨R1, h1, env, r1, re1, x1.bind.imp fun R2 h2 H2 u t2 r2 x2 => fun U ru => ?_⟩
  obtain ⟨q, e, f⟩ := SemR.opt (o := Mini.opCmp op h2 v u) x2.bind
  have f := f R2 H2 Xt.refl r2
  refine ok R2 h2 H2 v u q V U _ r2 (rv.mono (t2.mo r1)) ru e ?_
  refine ⟨q, rfl, ?_⟩
  cases q with
  | false =>
    rw [if_neg Bool.false_ne_true]
    exact SemR.pure f r2 _ (.bool false)
  | true =>
    rw [if_pos rfl]
    refine ⟨R2, h2, env, r2, re1.mono (t2.mo r1), SemR.imp (SemR.bind f) fun R3 h3 H3 z t3 r3 x3 => fun Z rz => ?_⟩
    obtain ⟨w, e', g⟩ := SemR.opt (o := (Mini.opCmp op' h3 u z).map Val.bool) x3
    rw [Option.map_eq_some_iff] at e'
    obtain ⟨p, e', rfl⟩ := e'
    exact ok' R3 h3 H3 u z p U Z _ r3 (ru.mono (t3.mo r2)) rz e' (g R3 H3 Xt.refl r3 _ (.bool p))
theorem sound_chain {A B D : Expr} {a b c : Ex} {O O' : CmpOp} {op op' : Mini.COp} {r r' : R2} {pos : Pos} (ok : CmpOk L G op r) (ok' : CmpOk L G op' r') (ho : OpR X (compareOp O) r) (ho' : OpR X (compareOp O') r') (hm : lastMarks [O, O'] [B, D] = false)
    (ha : PE X A (semE L G W C a)) (hb : PE X B (semE L G W C b)) (hc : PE X D (semE L G W C c)) : PE X (.Compare A [O, O'] [B, D] pos) (semE L G W C (.chain op op' a b c)) := (pe_chain ho ho' ha hb hc hm).imp (chain_sem ok ok')
theorem chain_bool {a b c : Ex} {op op' : Mini.COp} {env : Mini.Env} {h h' : Mini.Heap} {v : Val} (e : evalE C (.chain op op' a b c) env h = .ok v h') : ∃ k, v = .bool k := by
  simp only [evalE, Mini.M.bind] at e
  split at e
  · split at e
    · cases e0 : Mini.opCmp op _ _ _ with
      | none => rw [e0] at e; cases e
      | some k =>
        rw [e0] at e
        cases k with
        | false => cases e; exact ⟨false, rfl⟩
        | true =>
          simp only [Mini.M.opt, Mini.M.bind] at e
          split at e
          · cases e1 : Mini.opCmp op' _ _ _ with
            | none => rw [e1] at e; cases e
            | some k => rw [e1] at e; cases e; exact ⟨k, rfl⟩
          · cases e
          · cases e
    · cases e
    · cases e
  · cases e
  · cases e
theorem test_chain {A B D : Expr} {a b c : Ex} {O O' : CmpOp} {op op' : Mini.COp} {r r' : R2} {pos : Pos} (ok : CmpOk L G op r) (ok' : CmpOk L G op' r') (ho : OpR X (compareOp O) r) (ho' : OpR X (compareOp O') r') (hm : lastMarks [O, O'] [B, D] = false)
    (ha : PE X A (semE L G W C a)) (hb : PE X B (semE L G W C b)) (hc : PE X D (semE L G W C c)) : PT X (.Compare A [O, O'] [B, D] pos) (semT L G W C (.chain op op' a b c)) :=
  test_cmp (pt_chain ho ho' ha hb hc hm) (chain_sem ok ok') fun env h v h' e => chain_bool e

/-! ### methods of lists -/
theorem tyV_list {R : Mp} {h : Mini.Heap} {H : Hp} {n : Nat} {V : L2.V} {xs : List Val} (rh : HRL L G R h H) (rv : VRL L G H R h.length (.ref n) V) (e : h[n]? = some (.list xs)) : tyV L.K "list" V H := by
  cases rv with
  | ref hn =>
    obtain ⟨vs, e1, r⟩ := HR.list rh e
    exact .inl ⟨rfl, vs, .of e1⟩
/-- what a method of a list does -/
theorem meth_sem {e : Ex} {es : List Ex} {m : Mini.Bm} {r : L2.V → List L2.V → Hp → VK → Prop} (ty : ∀ h o, Mini.bmTy m h o = true → ∃ n xs, o = .ref n ∧ h[n]? = some (.list xs))
    (hr : ∀ (R : Mp) (h : Mini.Heap) (H : Hp) (o : Val) (vs : List Val) (v : Val) (h' : Mini.Heap) (O : L2.V) (Vs : List L2.V) (Q : VK), HRL L G R h H → VRL L G H R h.length o O → VRsL L G H R h.length vs Vs → Mini.bmV m h o vs = some (v, h') →
      (∀ V H', Xt R h H R h' H' → HRL L G R h' H' → VRL L G H' R h'.length v V → Q V H') → r O Vs H Q) :
    ∀ σ H Q, semE L G W C (.bm e m es) σ H Q → tBM L.K "list" r (semE L G W C e) (semA L G W C es) σ H Q := by
  rintro σ H Q ⟨R, h, env, rh, re, x⟩
  simp only [evalE] at x
  refine ⟨R, h, env, rh, re, x.bind.imp fun R1 h1 H1 o t1 r1 x1 => fun O ro => ?_⟩
  by_cases hty : Mini.bmTy m h1 o = true
  · rw [if_pos hty] at x1
    obtain ⟨n, xs, rfl, en⟩ := ty h1 o hty
    refine ⟨tyV_list r1 ro en, R1, h1, env, r1, re.mono (t1.mo rh), x1.bind.imp fun R2 h2 H2 vs t2 r2 x2 => fun Vs rvs => ?_⟩
    cases eb : Mini.bmV m h2 (.ref n) vs with
    | none => rw [eb] at x2; exact x2.elim
    | some p =>
      obtain ⟨v, h'⟩ := p
      rw [eb] at x2
      exact hr R2 h2 H2 _ vs v h' O Vs Q r2 (ro.mono (t2.mo r1)) rvs eb fun V H' t' r' rv => x2 R2 H' t' r' V rv
  · rw [if_neg hty] at x1
    exact x1.elim
theorem ty_of {m : Mini.Bm} (hm : m = .append ∨ m = .extend ∨ m = .pop) : ∀ h o, Mini.bmTy m h o = true → ∃ n xs, o = .ref n ∧ h[n]? = some (.list xs) := by
  intro h o e
  unfold Mini.bmTy at e
  split at e
  · split at e
    · rename_i ex; exact ⟨_, _, rfl, ex⟩
    · rcases hm with rfl | rfl | rfl <;> cases e
    · cases e
  · rcases hm with rfl | rfl | rfl <;> cases e
  · cases e
theorem rAppend_sem {R : Mp} {h : Mini.Heap} {H : Hp} {o : Val} {vs : List Val} {v : Val} {h' : Mini.Heap} {O : L2.V} {Vs : List L2.V} {Q : VK} (rh : HRL L G R h H) (ro : VRL L G H R h.length o O) (rvs : VRsL L G H R h.length vs Vs) (e : Mini.bmAppend h o vs = some (v, h'))
    (q : ∀ V H', Xt R h H R h' H' → HRL L G R h' H' → VRL L G H' R h'.length v V → Q V H') : rAppend O Vs H Q := by
  unfold Mini.bmAppend at e
  split at e
  · split at e
    · rename_i xs ex
      split at e
      · rename_i hc
        cases e
        simp only [Bool.and_eq_true, decide_eq_true_eq] at hc
        cases ro with
        | ref hn =>
          cases rvs with
          | cons rv t => cases t with
            | nil =>
              obtain ⟨us, e1, r⟩ := HR.list0 rh ex
              obtain ⟨q1, q2⟩ := mut_obj (o := .lst (us ++ [_])) (ob := .list (xs ++ [_])) rh hn ⟨_, upd_same, (r.append (.cons (rv.stil _ _ hc.2) .nil)).mono (mut_mo rh hn)⟩
              exact ⟨_, us, _, rfl, rfl, e1, by rw [← r.length, ← line_eq]; exact hc.1, q _ _ q2 q1 .none⟩
      · cases e
    · cases e
  · cases e
theorem rExtend_sem {R : Mp} {h : Mini.Heap} {H : Hp} {o : Val} {vs : List Val} {v : Val} {h' : Mini.Heap} {O : L2.V} {Vs : List L2.V} {Q : VK} (rh : HRL L G R h H) (ro : VRL L G H R h.length o O) (rvs : VRsL L G H R h.length vs Vs) (e : Mini.bmExtend h o vs = some (v, h'))
    (q : ∀ V H', Xt R h H R h' H' → HRL L G R h' H' → VRL L G H' R h'.length v V → Q V H') : rExtend O Vs H Q := by
  unfold Mini.bmExtend at e
  split at e
  · split at e
    · rename_i xs ys ex ey
      split at e
      · rename_i hc
        cases e
        simp only [Bool.and_eq_true, decide_eq_true_eq] at hc
        cases ro with
        | ref hn =>
          cases rvs with
          | cons rv t => cases t with
            | nil =>
              obtain ⟨us, e1, r⟩ := HR.list0 rh ex
              obtain ⟨b, ws, rfl, e2, r2⟩ := lstOf_at rh rv ey
              obtain ⟨q1, q2⟩ := mut_obj (o := .lst (us ++ ws)) (ob := .list (xs ++ ys)) rh hn ⟨_, upd_same, (r.append (r2.stil _ _ hc.2)).mono (mut_mo rh hn)⟩
              exact ⟨_, _, us, ws, rfl, rfl, e1, e2, by rw [← r.length, ← r2.length, ← line_eq]; exact hc.1.1, q _ _ q2 q1 .none⟩
      · cases e
    · cases e
  · cases e
theorem VRs.dropLast {G : Clo} {H : Hp} {R : Mp} {n : Nat} {xs : List Val} {vs : List L2.V} (r : VRs L.K G H R n xs vs) : VRs L.K G H R n xs.dropLast vs.dropLast := by
  rw [List.dropLast_eq_take, List.dropLast_eq_take, r.length]
  exact r.take _
theorem rPop_sem {R : Mp} {h : Mini.Heap} {H : Hp} {o : Val} {vs : List Val} {v : Val} {h' : Mini.Heap} {O : L2.V} {Vs : List L2.V} {Q : VK} (rh : HRL L G R h H) (ro : VRL L G H R h.length o O) (rvs : VRsL L G H R h.length vs Vs) (e : Mini.bmPop h o vs = some (v, h'))
    (q : ∀ V H', Xt R h H R h' H' → HRL L G R h' H' → VRL L G H' R h'.length v V → Q V H') : rPop O Vs H Q := by
  unfold Mini.bmPop at e
  split at e
  · split at e
    · rename_i xs ex
      rw [Option.map_eq_some_iff] at e
      obtain ⟨x, e0, e⟩ := e
      cases e
      cases ro with
      | ref hn =>
        cases rvs with
        | nil =>
          obtain ⟨us, e1, r⟩ := HR.list0 rh ex
          rw [List.getLast?_eq_getElem?] at e0
          obtain ⟨u, e2, ru⟩ := (r.up (G := G)).get e0
          obtain ⟨q1, q2⟩ := mut_obj (o := .lst us.dropLast) (ob := .list xs.dropLast) rh hn ⟨_, upd_same, r.dropLast.mono (mut_mo rh hn)⟩
          exact ⟨_, us, u, rfl, rfl, e1, by rw [← r.length]; exact e2, q _ _ q2 q1 (by rw [List.length_set]; exact ru.mono (mut_mo rh hn))⟩
    · cases e
  · cases e
/-- what a method call must show of its text -/
structure MOk (X : L2.Cx) (O : Expr) (m : Str) (apos : Pos) (es : List Expr) (cpos : Pos) : Prop where
  base : attributeBase O m X.env (eval O X.env) = eval O X.env
  line : (apos.endLine == cpos.line) = true
  few : ((backTo cpos (starEach es X.env)).all (fun x => !x.1) && (backToKw cpos (keywordEach [] X.env)).all (fun x => x.1.isSome) && decide (es.length + ([] : List Keyword).length + (if ([] : List Keyword).isEmpty then 0 else 1) < 30)) = true
  star : ∀ e r, es = e :: r → starEach es X.env = (false, eval e X.env) :: starEach r X.env ∧ (backTo cpos (starEach r X.env)).any (·.1) = false
theorem sound_append {O E : Expr} {o : Ex} {e : Ex} {apos cpos : Pos} (hK : X.K = L.K) (ok : MOk X O "append" apos [E] cpos) (ho : PE X O (semE L G W C o)) (ha : PA X [E] (semA L G W C [e])) : PE X (.Call (.Attribute O "append" apos) [E] [] cpos) (semE L G W C (.bm o .append [e])) :=
  (pe_bm PySem.F.plainAttrs_list PySem.F.slot_list_append PySem.F.type_list_append mt_append ho ha ok.base ok.few ok.line (ok.star _ _ rfl).1 (ok.star _ _ rfl).2).imp fun σ H Q q => hK ▸ meth_sem (ty_of (.inl rfl)) (fun R h H o vs v h' O Vs Q => rAppend_sem) σ H Q q
theorem sound_extend {O E : Expr} {o : Ex} {e : Ex} {apos cpos : Pos} (hK : X.K = L.K) (ok : MOk X O "extend" apos [E] cpos) (ho : PE X O (semE L G W C o)) (ha : PA X [E] (semA L G W C [e])) : PE X (.Call (.Attribute O "extend" apos) [E] [] cpos) (semE L G W C (.bm o .extend [e])) :=
  (pe_bm PySem.F.plainAttrs_list PySem.F.slot_list_extend PySem.F.type_list_extend mt_extend ho ha ok.base ok.few ok.line (ok.star _ _ rfl).1 (ok.star _ _ rfl).2).imp fun σ H Q q => hK ▸ meth_sem (ty_of (.inr (.inl rfl))) (fun R h H o vs v h' O Vs Q => rExtend_sem) σ H Q q
theorem sound_pop {O : Expr} {o : Ex} {apos cpos : Pos} (hK : X.K = L.K) (ok : MOk X O "pop" apos [] cpos) (ho : PE X O (semE L G W C o)) : PE X (.Call (.Attribute O "pop" apos) [] [] cpos) (semE L G W C (.bm o .pop [])) := by
  refine (pe_bm0 PySem.F.plainAttrs_list PySem.F.slot_list_pop PySem.F.type_list_pop mt_pop ho ok.base ok.line).imp fun σ H Q q => ?_
  have z := meth_sem (ty_of (.inr (.inr rfl))) (fun R h H o vs v h' O Vs Q => rPop_sem) σ H Q q
  obtain ⟨R, h, env, rh, re, x⟩ := z
  refine ⟨R, h, env, rh, re, x.imp fun R1 h1 H1 v t1 r1 x1 => fun V rv => ?_⟩
  obtain ⟨ty, R2, h2, env2, rh2, re2, x2⟩ := x1 V rv
  simp only [evalEs] at x2
  exact ⟨hK ▸ ty, x2.pure rh2 _ .nil⟩
end
end MS

set_option Elab.async false
set_option linter.all false
set_option maxRecDepth 100000
set_option maxHeartbeats 4000000
/-! SO: dict displays -/
namespace MS
open PySem PySem.Spec PyProof.Rows L2
open Mini (Val Res Ex Tg Out evalE evalEs evalI evalTs)
section
variable {L : Lk} {G : Cr} {W : WX} {C : Mini.Cx} {X : L2.Cx} {Γ : Gm} {k : Nat}
theorem sound_emp {pos : Pos} : PE X (.Dict [] [] pos) (semE L G W C (.lit .emp)) := by
  refine pe_dnewK.imp ?_
  rintro σ H Q ⟨R, h, env, rh, re, x⟩ p hp
  simp only [evalE] at x
  have x : ∀ R' H', Xt R h H R' h H' → HRL L G R' h H' → vpost L G Q R' h H' .emp := x
  exact x R _ (xt_aux hp) (rh.aux hp) _ (.emp upd_same (rh.off hp))
/-- a new empty dict -/
theorem sound_dic0 {pos : Pos} : PE X (.Dict [] [] pos) (semE L G W C (.dic [])) := by
  refine pe_dnewK.imp ?_
  rintro σ H Q ⟨R, h, env, rh, re, x⟩ p hp
  simp only [evalE] at x
  have x : ∀ R' H', Xt R h H R' (h ++ [Mini.Obj.dict []]) H' → HRL L G R' (h ++ [Mini.Obj.dict []]) H' → vpost L G Q R' (h ++ [Mini.Obj.dict []]) H' (.ref h.length) := x
  obtain ⟨n1, n2⟩ := new_obj (o := .dK []) (ob := .dict []) rh hp ⟨[], upd_same, .nil⟩
  have z := x _ _ n2 n1 (.ref (ext1 R h.length p h.length)) (.ref (by simp))
  rw [ext1_at] at z
  exact z
/-- the pairs of a display -/
def pairTE (L : Lk) (G : Cr) (W : WX) (C : Mini.Cx) : List Ex → List (TE × TE)
  | k :: v :: r => (semE L G W C k, semE L G W C v) :: pairTE L G W C r
  | _ => []
def pairV : List L2.V → List (L2.V × L2.V)
  | k :: v :: r => (k, v) :: pairV r
  | _ => []
theorem pairs_sem : ∀ (es : List Ex), es.length % 2 = 0 → ∀ (R : Mp) (h : Mini.Heap) (env : Mini.Env) (σ : L2.St) (H : Hp) (Q : List (L2.V × L2.V) → Hp → Prop), HRL L G R h H → ERL L G H R h.length env σ →
    SemR L G W (evalEs C es env h) R h H σ (vspost L G fun Vs H' => Q (pairV Vs) H') → tPairs (pairTE L G W C es) σ H Q
  | [], _, R, h, env, σ, H, Q, rh, re, x => by
    simp only [evalEs] at x
    exact x.pure rh _ .nil
  | [_], hl, _, _, _, _, _, _, _, _, _ => by simp at hl
  | k :: v :: r, hl, R, h, env, σ, H, Q, rh, re, x => by
    simp only [evalEs] at x
    refine ⟨R, h, env, rh, re, x.bind.imp fun R1 h1 H1 a t1 r1 x1 => fun A ra => ?_⟩
    have re1 := re.mono (t1.mo rh)
    refine ⟨R1, h1, env, r1, re1, x1.bind.bind.imp fun R2 h2 H2 b t2 r2 x2 => fun B rb => ?_⟩
    have re2 := re1.mono (t2.mo r1)
    refine pairs_sem r (by simp only [List.length_cons] at hl; omega) R2 h2 env σ H2 _ r2 re2 ?_
    refine (SemR.bind x2).imp fun R3 h3 H3 cs t3 r3 x3 => fun Cs rcs => ?_
    have y := SemR.pure (a := b :: cs) x3 r3
    have y : SemR L G W (Mini.M.pure (a :: b :: cs) h3) R3 h3 H3 σ (vspost L G fun Vs H' => Q (pairV Vs) H') := y
    exact y.pure r3 _ (.cons ((ra.mono (t2.mo r1)).mono (t3.mo r2)) (.cons (rb.mono (t3.mo r2)) rcs))
theorem pairUp_kvr {H : Hp} {R : Mp} {n : Nat} : ∀ (vs : List Val) (Vs : List L2.V) (kvs : List (Val × Val)), VRsL L G H R n vs Vs → Mini.pairUp vs = some kvs → ∃ ks, pairV Vs = ks.map (fun kv => (kV kv.1, kv.2)) ∧ KVR L.K noClo H R n kvs ks
  | [], _, kvs, .nil, e => by
    simp only [Mini.pairUp, Option.some.injEq] at e
    subst e
    exact ⟨[], rfl, .nil⟩
  | [_], _, kvs, _, e => by cases e
  | k :: v :: r, _, kvs, .cons rk (.cons rv t), e => by
    simp only [Mini.pairUp, Option.bind_eq_some_iff] at e
    obtain ⟨rest, e1, e2⟩ := e
    split at e2
    · rename_i hc
      cases e2
      simp only [Bool.and_eq_true] at hc
      obtain ⟨ks, e3, r3⟩ := pairUp_kvr r _ rest t e1
      obtain ⟨q, hq⟩ := keyOf_flat (show Mini.flatKey k = true from hc.1.1)
      have := keyOf_V hq rk
      subst this
      exact ⟨(q, _) :: ks, by simp only [pairV, List.map_cons, e3], .cons hq (rv.stil _ _ hc.1.2) r3⟩
    · cases e2
theorem merge_new (k : Key) (v : L2.V) (acc : List (Key × L2.V)) (h : acc.any (fun p => decide (p.1 = k)) = false) : putK acc k v = acc ++ [(k, v)] := by
  unfold putK
  rw [if_neg (by rw [h]; exact Bool.false_ne_true)]
theorem merge_kvr {G : Clo} {H : Hp} {R : Mp} {n : Nat} : ∀ (vs : List Val) (kvs : List (Val × Val)) (ks acc : List (Key × L2.V)), Mini.pairUp vs = some kvs → KVR L.K G H R n kvs ks → (∀ p ∈ ks, acc.any (fun q => decide (q.1 = p.1)) = false) → mergeK acc ks = acc ++ ks
  | [], kvs, ks, acc, e, r, _ => by
    simp only [Mini.pairUp, Option.some.injEq] at e
    subst e
    cases r
    rw [List.append_nil]; rfl
  | [_], kvs, ks, acc, e, r, _ => by cases e
  | k :: v :: t, kvs, ks, acc, e, r, hd => by
    simp only [Mini.pairUp, Option.bind_eq_some_iff] at e
    obtain ⟨rest, e1, e2⟩ := e
    split at e2
    · rename_i hc
      cases e2
      simp only [Bool.and_eq_true] at hc
      cases r with
      | cons hq rv r3 =>
        rename_i q u ks
        have h1 := hd _ List.mem_cons_self
        show mergeK (putK acc q u) ks = _
        rw [merge_new q u acc h1, merge_kvr t rest ks _ e1 r3, List.append_assoc]
        · rfl
        · intro p hp
          rw [List.any_append, hd p (List.mem_cons_of_mem _ hp), Bool.false_or]
          simp only [List.any_cons, List.any_nil, Bool.or_false]
          refine decide_eq_false fun z => ?_
          have h2 : rest.any (fun w => w.1 == k) = true := by
            rw [r3.any hq, List.any_eq_true]
            exact ⟨p, hp, decide_eq_true z.symm⟩
          rw [List.any_eq_true] at h2
          obtain ⟨w, hw, e3⟩ := h2
          have h3 := List.all_eq_true.mp hc.2 w hw
          rw [bne, e3] at h3
          cases h3
    · cases e2
theorem forget_mo {R R2 : Mp} {h2 : Mini.Heap} {H2 : Hp} {D : Addr} (r2 : HRL L G R2 h2 H2) (w : R2.own = (R.plus D).own) : Mo R2 h2.length H2 (R2.with R.own) h2.length H2 :=
  ⟨Nat.le_refl _, fun _ _ => rfl, fun _ a b => absurd b (Nat.not_lt_of_le a), fun a u e q => by rw [w]; exact .inl q, fun a u e q _ => e, fun i hi => by obtain ⟨u, e, m⟩ := r2.there hi; rw [e]; exact m, fun b q => r2.ow b q⟩
theorem forget_hr {R R2 : Mp} {h2 : Mini.Heap} {H2 : Hp} {D : Addr} (r2 : HRL L G R2 h2 H2) (w : R2.own = (R.plus D).own) : HRL L G (R2.with R.own) h2 H2 :=
  ⟨r2.inj, fun i q e => (r2.at_ i q e).mono (forget_mo r2 w) rfl, fun a q => r2.ow a (by rw [w]; exact .inl q), fun i hi q => r2.owR i hi (by rw [w]; exact .inl q), r2.tab⟩
theorem sound_dic {keys : List (Option Expr)} {values : List Expr} {es : List Ex} {pos : Pos} (hp : PPs X pos keys values (pairTE L G W C es)) (hall : keys.all (·.isSome) = true) (hl : keys.length = values.length) (h0 : keys ≠ []) (h15 : keys.length ≤ 15) (he : es.length % 2 = 0) :
    PE X (.Dict keys values pos) (semE L G W C (.dic es)) := by
  refine (pe_disp hp hall hl h0 h15).imp ?_
  rintro σ H Q ⟨R, h, env, rh, re, x⟩ p hp'
  simp only [evalE] at x
  have rp := own_add (o := .dK []) trivial rh hp'
  have mp := own_mo (o := .dK []) rh hp'
  refine pairs_sem es he (R.plus p) h env σ _ _ rp (re.mono mp) ?_
  unfold Mini.M.bind at x
  cases ev : evalEs C es env h with
  | bad => rw [ev] at x; exact x.elim
  | exn c v h1 =>
    rw [ev] at x
    intro R1 H1 C1 d t1 o
    have m1 := forget_mo o.hr t1.own
    obtain ⟨f, u, e1, e2, e3⟩ := o.at_
    refine x (R1.with R.own) H1 C1 d ⟨t1.len, t1.same, rfl, fun i a b => ?_, fun a u e q nt => ?_, fun a ps e => t1.tbl a ps (by rw [upd_ne (ne_of_none e hp')]; exact e)⟩ ⟨forget_hr o.hr t1.own, o.cl, f, u, e1, e2, e3.mono m1⟩
    · have z := t1.new i a b
      have ne : R1 i ≠ p := fun w => o.hr.owR i b (by rw [t1.own, w]; exact .inr rfl)
      rw [upd_ne ne] at z
      exact z
    · exact t1.keep a u (by rw [upd_ne (ne_of_none e hp')]; exact e) q nt
  | ok vs h1 =>
    rw [ev] at x
    dsimp only at x
    intro R1 H1 t1 r1 Vs rvs
    obtain ⟨q1, q2, q3⟩ := own_drop (o := .dK _) (fun z => z) rh hp' t1 r1
    have m1 := drop_mo (D := p) (R := R) r1 t1.own
    cases eu : Mini.pairUp vs with
    | none => rw [eu] at x; exact x.elim
    | some kvs =>
      rw [eu] at x
      dsimp only at x
      by_cases hk : kvs.length ≤ 15
      · rw [if_pos hk] at x
        obtain ⟨ks, e3, r3⟩ := pairUp_kvr vs Vs kvs rvs eu
        refine ⟨q3, ks, e3, by rw [← r3.length]; exact hk, ?_⟩
        rw [merge_kvr vs kvs ks [] eu r3 (fun _ _ => rfl), List.nil_append]
        have r4 := r3.mono m1
        have hn : erase H1 p p = none := erase_at
        have mo := mo_new (o := .dK ks) q2 hn
        obtain ⟨n1, n2⟩ := new_obj (o := .dK ks) (ob := .dict kvs) q2 hn ⟨_, upd_same, r4.mono mo⟩
        have z := x _ _ (q1.trans q2 n2) n1 (.ref (ext1 (R1.with R.own) h1.length p h1.length)) (.ref (by simp))
        rw [ext1_at] at z
        have e5 : upd (erase H1 p) p (.dK ks) = upd H1 p (.dK ks) := by
          funext a
          by_cases w : a = p
          · subst w; rw [upd_same, upd_same]
          · rw [upd_ne w, upd_ne w, erase_ne w]
        rw [e5] at z
        exact z
      · rw [if_neg hk] at x
        exact x.elim
end
end MS

set_option Elab.async false
set_option linter.all false
set_option maxRecDepth 100000
set_option maxHeartbeats 4000000
/-! SP: try with clauses of several classes, with a name or without -/
namespace MS
open PySem PySem.Spec PyProof.Rows L2
section
variable {X : L2.Cx}
/-- what a clause names -/
inductive CT (X : L2.Cx) : Expr → List Value → Prop
  | one {x : Str} {c : Value} {p : Pos} : Names X x c → CT X (.Name x p) [c]
  | two {x1 x2 : Str} {c1 c2 : Value} {p1 p2 : Pos} {kt : Nat} {pt : Pos} : Names X x1 c1 → Names X x2 c2 → CT X (.Tuple [.Name x1 p1, .Name x2 p2] kt pt) [c1, c2]
  | three {x1 x2 x3 : Str} {c1 c2 c3 : Value} {p1 p2 p3 : Pos} {kt : Nat} {pt : Pos} : Names X x1 c1 → Names X x2 c2 → Names X x3 c3 → CT X (.Tuple [.Name x1 p1, .Name x2 p2, .Name x3 p3] kt pt) [c1, c2, c3]
  | four {x1 x2 x3 x4 : Str} {c1 c2 c3 c4 : Value} {p1 p2 p3 p4 : Pos} {kt : Nat} {pt : Pos} : Names X x1 c1 → Names X x2 c2 → Names X x3 c3 → Names X x4 c4 → CT X (.Tuple [.Name x1 p1, .Name x2 p2, .Name x3 p3, .Name x4 p4] kt pt) [c1, c2, c3, c4]
theorem flying_keeps {B h h' : Heap} {l : List Env} {e : Addr} {Z : Obj → Prop} (k : ∀ b o, h.get? b = some o → h'.get? b = some o) (x : HandSPX.FlyingZ B l e Z h) : HandSPX.FlyingZ B l e Z h' := by
  obtain ⟨f1, f2, f3, oe, vs, T, oT, ts, a1, a2, a3, a4, a5, a6, a7, a8, a9⟩ := x
  exact ⟨fun b o z => k b o (f1 b o z), f2, Heap.FunFrames.of_keeps (fun b o z _ => ⟨o, k b o z, rfl⟩) f3, oe, vs, T, oT, ts, k _ _ a1, a2, a3, a4, a5, a6, k _ _ a7, a8, a9⟩
theorem upTo_keeps {h h' : Heap} (k : ∀ b o, h.get? b = some o → h'.get? b = some o) : h.UpToSlots h' := fun b o z _ => ⟨o.slots, k b o z⟩
theorem name_ok {x : Str} {c : Value} {p : Pos} {pins : List (Addr × Obj)} {σ : L2.St} {H : Hp} {s : Shared} {Q : Value → Shared → Prop} {E : Value → Shared → Prop} (hc : Names X x c) (S : Inv X pins σ H s) (q : Q c s) : wpAny (model X.prog X.w) X.A (eval (.Name x p) X.env) Q E s := by
  obtain ⟨hg, hdbg, hm | ⟨hm, hv, hnn⟩⟩ := hc
  · exact ld_glob S hg hm q hdbg
  · exact ld_blt S hg hm hv q hnn hdbg
theorem starE {e : Expr} {r : List Expr} {env : Env} (h : ∀ x p, e = .Name x p → True) : True := trivial
theorem star_name {x : Str} {p : Pos} {r : List Expr} {env : Env} : starEach (.Name x p :: r) env = (false, eval (.Name x p) env) :: starEach r env := rfl
theorem test_ok {t : Expr} {cs : List Value} {pins : List (Addr × Obj)} {σ : L2.St} {H : Hp} {s : Shared} {a : Addr} {cls : Value} {oe : Obj} {b : Bool} {Q : Bool → Shared → Prop} {E : Value → Shared → Prop} (ct : CT X t cs) (S : Inv X pins σ H s) (ha : s.heap.get? a = some oe) (hcl : oe.cls = cls) (hx : PySem.W.exmAny X.K cls cs = some b)
    (q : ∀ h', (∀ b o, s.heap.get? b = some o → h'.get? b = some o) → Q b { s with heap := h' }) : wpAny (model X.prog X.w) X.A (eval t X.env) (fun c s1 => wpAny (model X.prog X.w) X.A (excMatches (.ref a) c) Q E s1) E s := by
  have tup : ∀ (vs : List Value), vs.length ≤ sizeLine → (∀ (h : Heap) (tp : Addr), X.K.In h → PySem.W.Looks (model X.prog X.w) h (typeOf (.ref a)) cls → h.get? tp = some { cls := .type "tuple", data := .seq vs.toArray } → PySem.W.Looks (model X.prog X.w) h (excMatches (.ref a) (.ref tp)) b) →
      wpAny (model X.prog X.w) X.A (newTuple vs) (fun c s1 => wpAny (model X.prog X.w) X.A (excMatches (.ref a) c) Q E s1) E s := fun vs hl go => by
    unfold newTuple
    refine wpAny_newObj_type ?_ hl
    have kp : ∀ b o, s.heap.get? b = some o → (s.heap.push { cls := .type "tuple", data := .seq vs.toArray }).get? b = some o := fun b o e => Heap.get?_push_of_some _ e
    exact (go _ _ (S.kIn.keeps kp) (fun A Q E s' k q => wpAny_typeOf_ref (k _ _ (kp _ _ ha)) (by rw [hcl]; exact q)) (Heap.get?_push_size _ rfl)).here (q _ kp)
  cases ct with
  | one h1 =>
    refine name_ok h1 S ?_
    obtain ⟨b1, d1, e1, e2, e3⟩ := PySem.W.exmAny_cons hx
    cases e2
    rw [Bool.or_false] at e3
    subst e3
    exact (PySem.W.exm_one S.kIn (fun A Q E s' k q => wpAny_typeOf_ref (k _ _ ha) (by rw [hcl]; exact q)) e1).here (q _ fun _ _ z => z)
  | two h1 h2 => exact Tuple_ (PyProof.Rows.args_cons (name_ok h1 S (PyProof.Rows.args_cons (name_ok h2 S (PyProof.Rows.args_nil (tup _ (by show 2 ≤ sizeLine; decide) fun h tp i l g => PySem.W.exm_tup2 i l g hx))) star_name)) star_name)
  | three h1 h2 h3 => exact Tuple_ (PyProof.Rows.args_cons (name_ok h1 S (PyProof.Rows.args_cons (name_ok h2 S (PyProof.Rows.args_cons (name_ok h3 S (PyProof.Rows.args_nil (tup _ (by show 3 ≤ sizeLine; decide) fun h tp i l g => PySem.W.exm_tup3 i l g hx))) star_name)) star_name)) star_name)
  | four h1 h2 h3 h4 => exact Tuple_ (PyProof.Rows.args_cons (name_ok h1 S (PyProof.Rows.args_cons (name_ok h2 S (PyProof.Rows.args_cons (name_ok h3 S (PyProof.Rows.args_cons (name_ok h4 S (PyProof.Rows.args_nil (tup _ (by show 4 ≤ sizeLine; decide) fun h tp i l g => PySem.W.exm_tup4 i l g hx))) star_name)) star_name)) star_name)) star_name)
/-- a clause -/
structure Cl where
  cs : List Value
  n : Option Nat
  ts : Addr → Value → Option Addr → TS
def goneD (D : Ends) (i : Nat) : Ends := { nx := fun σ' H' => D.nx (σ'.set i none) H', rt := D.rt, bk := fun σ' H' => D.bk (σ'.set i none) H', ct := fun σ' H' => D.ct (σ'.set i none) H' }
def wG (K : PySem.W.Frag) (Wout : WX) (D : Ends) : List Cl → WX
  | [] => Wout
  | c :: r => fun cls d σ H => ∃ b, PySem.W.exmAny K cls c.cs = some b ∧ (b = true → ∀ a, H a = none → match c.n with
      | none => c.ts a cls d D σ H
      | some i => c.ts a cls d (goneD D i) (σ.set i (some (.ref a))) H) ∧ (b = false → wG K Wout D r cls d σ H)
inductive HsOk (X : L2.Cx) : List ExceptHandler → List Cl → Prop
  | nil : HsOk X [] []
  | cons {t : Expr} {cs : List Value} {n : Option Str} {i : Option Nat} {ts : Addr → Value → Option Addr → TS} {b₀ : Stmt} {suite : List Stmt} {pos' : Pos} {hds : List ExceptHandler} {l : List Cl} (hc : ∀ a oe pn, CT (X.suite a ((a, oe) :: pn)) t cs)
      (hn : match n, i with
        | none, none => True
        | some x, some j => X.N[j]? = some x ∧ X.env.kindOf x = some .local
        | _, _ => False)
      (hsu : ∀ (a : Addr) (oe : Obj) (cls : Value) (d : Option Addr) (pn : List (Addr × Obj)), Zc cls d oe → (∃ vs, oe.data = .fields vs) → PSs (X.suite a ((a, oe) :: pn)) (b₀ :: suite) (ts a cls d)) (r : HsOk X hds l) :
      HsOk X (.ExceptHandler (some t) n (b₀ :: suite) pos' :: hds) (⟨cs, i, ts⟩ :: l)
variable {body : List Stmt} {h₀ : ExceptHandler} {hds : List ExceptHandler} {l : List Cl} {pos : Pos} {tb : WX → TS} {Wout : WX}
theorem ps_tryG (hN : X.N.Nodup) (hs : X.stack = X.env :: X.outer) (hf : X.env.frame = some X.env.locals) (tk : Takes X Wout)
    (hb : ∀ (W : WX) (pn : List (Addr × Obj)) (xe : Value → Shared → Prop), Takes (X.tr pn xe) W → PassesOwn (model X.prog X.w) X.A X.env xe → PSs (X.tr pn xe) body (tb W)) (hh : HsOk X (h₀ :: hds) l) :
    PS X (.Try body (h₀ :: hds) [] [] pos) (fun D σ H => tb (wG X.K Wout D l) D σ H) := by
  refine ⟨fun pins s σ H D I h => ?_⟩
  have ok := I.ok
  have hfr : X.A.frames = some (X.env :: X.outer) := by rw [ok.frames, hs]
  refine wpAny_Try_except ?_
  refine wpAny_mono ((hb (wG X.K Wout D l) (X.pn ++ pins) (fun e s₁ => wpAny (model X.prog X.w) X.A (noteFrame e X.env) (fun _ s₂ => wpAny (model X.prog X.w) X.A (setFlight e none) (fun _ s₃ => wpAny (model X.prog X.w) X.A (handleBy e X.env (h₀ :: hds)) (SP X pins D) X.xe s₃) X.xe s₂) X.xe s₁) (fun u s' xx => ?_) PassesOwn.looking).run [] s σ H D (I.toTry _) h) (fun f s1 hsp => ?_) (fun e s1 he => he)
  · obtain ⟨a, B, sI, pins', σ', H', cls, d, rfl, J', nb, up, sky, na, os, ag, w⟩ := xx
    have J : Inv X pins σ' H' sI := J'.ofTry ok
    have sky' : Sky B (X.env :: X.outer) a (Zc cls d) X.env.locals s'.heap := by rw [← hs]; exact sky
    show wpAny (model X.prog X.w) X.A (noteFrame (.ref a) X.env) _ _ _
    refine Sky.land Zc.steady hfr hf sky' fun h3 fl3 up3 => ?_
    have notFr : ∀ {h : Heap} {o : Obj} {vs : Array Value}, h.FunFrames B (X.env :: X.outer) → h.get? a = some o → o.data = .fields vs → a ∉ frs (X.env :: X.outer) := by
      intro h o vs ff e dd hm
      obtain ⟨_, o', e', hnf⟩ := ff.mem hm
      rw [e] at e'
      cases e'
      exact hnf _ dd
    obtain ⟨oe0, vs0, he0, hz0, hd0⟩ := fl3.there
    have nfr := notFr fl3.2.2.1 he0 hd0
    have nL : a ≠ X.env.locals := fun z => nfr (List.mem_filterMap.mpr ⟨X.env, List.mem_cons_self, by rw [hf, z]⟩)
    have nF : a ∉ X.fs := by
      intro hm
      obtain ⟨e, he, q⟩ := List.mem_filterMap.mp hm
      exact nfr (List.mem_filterMap.mpr ⟨e, List.mem_cons_of_mem _ he, q⟩)
    have go : ∀ {hds' : List ExceptHandler} {l' : List Cl}, HsOk X hds' l' → wG X.K Wout D l' cls d σ' H' → ∀ h3, HandSPX.FlyingZ B (X.env :: X.outer) a (Zc cls d) h3 → s'.heap.UpToSlots h3 →
        wpAny (model X.prog X.w) X.A (handleBy (.ref a) X.env hds') (SP X pins D) X.xe { s' with heap := h3 } := by
      intro hds' l' hk
      induction hk with
      | nil =>
        intro w h3 fl3 up3
        refine wpAny_handleBy_nil ?_
        obtain ⟨k1, k2, k3, oe, vs, T, oT, ts', he, hz, hd, h1, hr⟩ := id fl3
        unfold PySem.passOn
        refine wpAny_bind (wpAny_field he hd h1 ?_)
        rw [if_neg (show ¬ ((Value.ref T == Value.none) = true) from by simp)]
        have fin : wpAny (model X.prog X.w) X.A (setFlight (.ref a) X.env.frame) (fun _ s4 => wpAny (model X.prog X.w) X.A (throw (.ref a) : Sem Flow) (SP X pins D) X.xe s4) X.xe { s' with heap := h3 } := by
          rw [hf]
          refine HandSPX.setFlight_upZ fl3 fun h4 hh4 up4 => wpAny_throw (tk _ _ ?_)
          exact ⟨a, B, sI, pins, σ', H', cls, d, rfl, J, nb, (up.trans up3).trans up4, .inr (.inr (by rw [hs]; exact hh4)), na, os, ag, w⟩
        first
          | exact wpAny_bind (wpAny_pure (wpAny_bind fin))
          | exact wpAny_bind fin
      | @cons t cs n i ts b₀ suite pos' hds2 l2 hc hn hsu r ih =>
        intro w h3 fl3 up3
        obtain ⟨b, hb1, hyes, hno⟩ := w
        refine wpAny_handleBy_cons (codeAny_handlers_test ?_) (by intro q; cases q)
        obtain ⟨oe3, vs3, he3, hz3, hd3⟩ := fl3.there
        have J3 : Inv X pins σ' H' { s' with heap := h3 } := J.landed nb fl3.1 (up.trans up3) os ag
        have S3 := J3.suite he3 hd3 na nL nF
        refine test_ok (X := X.suite a ((a, oe3) :: (X.pn ++ pins))) (hc a oe3 (X.pn ++ pins)) S3 he3 hz3.1 hb1 fun h5 kp => ?_
        have fl5 := flying_keeps kp fl3
        have up5 := up3.trans (upTo_keeps kp)
        cases b with
        | false =>
          show wpAny _ X.A (handleBy (.ref a) X.env hds2) _ _ _
          exact ih (hno rfl) h5 fl5 up5
        | true =>
          have hyes := hyes rfl a na
          cases n with
          | none =>
            cases i with
            | some _ => exact hn.elim
            | none =>
              refine codeAny_handlers_suite (HandSPX.lands_againZ fl5 fun h4 fl4 up4 => ?_)
              have J4 : Inv X pins σ' H' { s' with heap := h4 } := J.landed nb fl4.1 ((up.trans up5).trans up4) os ag
              obtain ⟨oe4, vs4, he4, hz4, hd4⟩ := fl4.there
              have S4 := J4.suite he4 hd4 na nL nF
              refine wpAny_mono ((hsu a oe4 cls d (X.pn ++ pins) hz4 ⟨_, hd4⟩).run [] _ _ H' _ S4 hyes) (fun f s6 hsp => ?_) (fun _ _ z => False.elim z)
              cases f with
              | next => obtain ⟨σ6, H6, S6, q6⟩ := hsp; exact ⟨_, _, S6.unsuite ok, q6⟩
              | brk => obtain ⟨σ6, H6, S6, q6⟩ := hsp; exact ⟨_, _, S6.unsuite ok, q6⟩
              | cont => obtain ⟨σ6, H6, S6, q6⟩ := hsp; exact ⟨_, _, S6.unsuite ok, q6⟩
              | ret u => obtain ⟨v6, σ6, H6, S6, r6, q6⟩ := hsp; exact ⟨_, _, _, S6.unsuite ok, r6, q6⟩
          | some n =>
            cases i with
            | none => exact hn.elim
            | some i =>
              obtain ⟨hi, hln⟩ := hn
              refine codeAny_handlers_suite_as (HandSPX.lands_againZ fl5 fun h4 fl4 up4 => ?_)
              have J4 : Inv X pins σ' H' { s' with heap := h4 } := J.landed nb fl4.1 ((up.trans up5).trans up4) os ag
              obtain ⟨oe4, vs4, he4, hz4, hd4⟩ := fl4.there
              have S4 := J4.suite he4 hd4 na nL nF
              refine store_ok (X := X.suite a ((a, oe4) :: (X.pn ++ pins))) (v := .ref a) S4 hN hi (.inl hln) rfl (fun s5 S5 => ?_) (.inr hln)
              refine wpAny_mono ((hsu a oe4 cls d (X.pn ++ pins) hz4 ⟨_, hd4⟩).run [] s5 _ H' _ S5 hyes) (fun f s6 hsp => ?_) (fun _ _ z => False.elim z)
              have end_ : ∀ {σ6 : L2.St} {H6 : Hp} {Q : Shared → Prop}, Inv (X.suite a ((a, oe4) :: (X.pn ++ pins))) [] σ6 H6 s6 → (∀ s7, Inv X pins (σ6.set i none) H6 s7 → Q s7) →
                  wpAny (model X.prog X.w) X.A (do bindName X.env n .none; unbindBehindTheSuite X.env n pos') (fun _ s7 => Q s7) X.xe s6 := fun S6 hq => gone_ok (S6.unsuite ok) hN hi hln hq
              cases f with
              | next => obtain ⟨σ6, H6, S6, q6⟩ := hsp; exact end_ S6 fun s7 J7 => ⟨_, _, J7, q6⟩
              | brk => obtain ⟨σ6, H6, S6, q6⟩ := hsp; exact end_ S6 fun s7 J7 => ⟨_, _, J7, q6⟩
              | cont => obtain ⟨σ6, H6, S6, q6⟩ := hsp; exact end_ S6 fun s7 J7 => ⟨_, _, J7, q6⟩
              | ret u => obtain ⟨v6, σ6, H6, S6, r6, q6⟩ := hsp; exact end_ S6 fun s7 J7 => ⟨_, _, _, J7, r6, q6⟩
    exact go hh w h3 fl3 up3
  · cases f with
    | next => obtain ⟨σ', H', J', q⟩ := hsp; exact wpAny_execs_nil ⟨σ', H', J'.ofTry ok, q⟩
    | brk => obtain ⟨σ', H', J', q⟩ := hsp; exact ⟨σ', H', J'.ofTry ok, q⟩
    | cont => obtain ⟨σ', H', J', q⟩ := hsp; exact ⟨σ', H', J'.ofTry ok, q⟩
    | ret u => obtain ⟨v, σ', H', J', r, q⟩ := hsp; exact ⟨v, σ', H', J'.ofTry ok, r, q⟩
end
end MS

set_option Elab.async false
set_option linter.all false
set_option maxRecDepth 100000
set_option maxHeartbeats 4000000
/-! SQ: raise, try -/
namespace MS
open PySem PySem.Spec PyProof.Rows L2
open Mini (Val Res Ex Tg Out evalE evalEs evalI evalTs)
section
variable {L : Lk} {G : Cr} {W : WX} {C : Mini.Cx} {X : L2.Cx} {Γ : Gm} {k : Nat}
/-- what raise makes -/
def tMkX (C0 : Addr) (f : Str) (te : TE) : L2.St → Hp → XK → Prop := fun σ H Q => te σ H fun v H1 => ∀ d, H1 d = none → Q (.ref C0) (some d) (upd H1 d (.xd [(f, v)]))
theorem sound_raise {E : Expr} {e : Ex} {x : Expr} {c f : String} {C0 : Addr} {pos : Pos} (hc : X.calm = true) (tk : Takes X W) (hm : PMk X x (tMkX C0 (nm f) (semE L G W C e))) (ha : L.ca c = some C0) (hf : L.fld c = some f) :
    PS X (.Raise (some x) none pos) (semS L G W C (.raise c e)) := by
  refine (ps_raise hc tk hm).imp ?_
  rintro D σ H ⟨R, h, env, rh, re, y⟩
  simp only [Mini.exec] at y
  refine ⟨R, h, env, rh, re, (SemO.onE rh re y).imp fun R1 h1 H1 v t1 r1 y1 => fun V rv d hd => ?_⟩
  have mo := HR.mo_aux (o := .xd [(nm f, V)]) r1 hd
  exact y1 R1 _ σ C0 d (xt_aux hd) ⟨r1.aux hd, ha, f, V, hf, upd_same, rv.mono mo⟩ ((re.mono (t1.mo rh)).mono mo)

/-! ### try -/
def Cr.put (G : Cr) (i : Nat) (a d : Addr) (c f : String) : Cr := ⟨G.clo, fun j => if j = i then some (a, d, c, f) else G.exs j⟩
def kv (L : Lk) (c : String) : Value := match L.ca c with
  | some a => .ref a
  | none => .none
/-- what a suite keeps to -/
def suiteT (L : Lk) (G : Cr) (C : Mini.Cx) (n : Option Nat) (body : List Mini.St) (a : Addr) (cls : Value) (d : Option Addr) : TS := match n, d with
  | none, _ => semSs L G Wn C body
  | some i, some d => fun D σ H => ∃ c C0 f, (cls = .ref C0 ∧ L.ca c = some C0 ∧ L.fld c = some f) ∧ semSs L (G.put i a d c f) Wn C body D σ H
  | some _, none => tNever
def clOf (L : Lk) (G : Cr) (C : Mini.Cx) : Mini.Hs → List Cl
  | .nil => []
  | .cons cs n body rest => ⟨cs.map (kv L), n, suiteT L G C n body⟩ :: clOf L G C rest
/-- the clauses' classes are told apart as the table says -/
def HsX (L : Lk) : Mini.Hs → Prop
  | .nil => True
  | .cons cs _ _ rest => (∀ c C0, L.ca c = some C0 → PySem.W.exmAny L.K (.ref C0) (cs.map (kv L)) = some (Mini.excIs L.P c cs)) ∧ HsX L rest
theorem er_put {H : Hp} {R : Mp} {n i : Nat} {a d : Addr} {c f : String} {v : Val} {u : L2.V} {env : Mini.Env} {σ : L2.St} (re : ERL L G H R n env σ) (hd : H d = some (.xd [(nm f, u)])) (rv : VRL L G H R n v u) :
    ERL L (G.put i a d c f) H R n (env.set i (some (.exc c v))) (σ.set i (some (.ref a))) := by
  refine ⟨by simp [re.len], fun j w q => ?_⟩
  by_cases hj : i = j
  · subst hj
    by_cases hi : i < env.length
    · rw [List.getElem?_set_self hi] at q
      cases q
      exact .inr ⟨c, f, v, a, d, u, rfl, if_pos rfl, List.getElem?_set_self (by rw [← re.len]; exact hi), hd, rv⟩
    · rw [List.getElem?_eq_none (by simpa using hi)] at q; cases q
  · rw [List.getElem?_set_ne hj] at q
    rw [List.getElem?_set_ne hj]
    rcases re.at_ j w q with z | ⟨c', f', w', a', d', u', e1, e2, e3⟩
    · exact .inl z
    · exact .inr ⟨c', f', w', a', d', u', e1, (if_neg (Ne.symm hj)).trans e2, e3⟩
theorem er_unput {H : Hp} {R : Mp} {n i : Nat} {a d : Addr} {c f : String} {env : Mini.Env} {σ : L2.St} (re : ERL L (G.put i a d c f) H R n env σ) : ERL L G H R n (env.set i none) (σ.set i none) := by
  refine ⟨by simp [re.len], fun j w q => ?_⟩
  by_cases hj : i = j
  · subst hj
    by_cases hi : i < env.length
    · rw [List.getElem?_set_self hi] at q; cases q
    · rw [List.getElem?_eq_none (by simpa using hi)] at q; cases q
  · rw [List.getElem?_set_ne hj] at q
    rw [List.getElem?_set_ne hj]
    rcases re.at_ j w q with z | ⟨c', f', w', a', d', u', e1, e2, e3⟩
    · exact .inl z
    · exact .inr ⟨c', f', w', a', d', u', e1, (if_neg (Ne.symm hj)).symm.trans e2, e3⟩
theorem handle_sem (hP : C.prog = L.P) : ∀ (hs : Mini.Hs), HsX L hs → ∀ (R : Mp) (h : Mini.Heap) (H : Hp) (D : Ends) (σ : L2.St) (env : Mini.Env) (c : String) (v : Val) (C0 d : Addr), ExO L G R h H c v C0 d → ERL L G H R h.length env σ →
    SemO L G W (Mini.handle C hs c v env h) R h H D → wG L.K W D (clOf L G C hs) (.ref C0) (some d) σ H
  | .nil, _, R, h, H, D, σ, env, c, v, C0, d, o, re, x => by
    simp only [Mini.handle] at x
    exact x R H σ C0 d Xt.refl o re
  | .cons cs n body rest, hx, R, h, H, D, σ, env, c, v, C0, d, o, re, x => by
    simp only [Mini.handle] at x
    refine ⟨_, hx.1 c C0 o.cl, fun hb a na => ?_, fun hb => ?_⟩
    · rw [hP, if_pos hb] at x
      cases n with
      | none =>
        refine ⟨R, h, env, o.hr, re, ?_⟩
        dsimp only at x
        cases eo : Mini.execs C body env h with
        | next e1 h1 => rw [eo] at x; exact x
        | ret w h1 => rw [eo] at x; exact x
        | brk e1 h1 => rw [eo] at x; exact x
        | cont e1 h1 => rw [eo] at x; exact x
        | exn c1 v1 e1 h1 => rw [eo] at x; exact x.elim
        | bad => rw [eo] at x; exact x.elim
      | some i =>
        obtain ⟨f, u, hf, hd, rv⟩ := o.at_
        refine ⟨c, C0, f, ⟨rfl, o.cl, hf⟩, R, h, _, o.hr, er_put re hd rv, ?_⟩
        dsimp only at x
        cases eo : Mini.execs C body (env.set i (some (.exc c v))) h with
        | next e1 h1 => rw [eo] at x; exact fun R' H' σ' t' r' re' => x R' H' _ t' r' (er_unput re')
        | ret w h1 => rw [eo] at x; exact x
        | brk e1 h1 => rw [eo] at x; exact x.elim
        | cont e1 h1 => rw [eo] at x; exact x.elim
        | exn c1 v1 e1 h1 => rw [eo] at x; exact x.elim
        | bad => rw [eo] at x; exact x.elim
    · rw [hP, if_neg (by rw [hb]; exact Bool.false_ne_true)] at x
      exact handle_sem hP rest hx.2 R h H D σ env c v C0 d o re x
theorem try_sem (hP : C.prog = L.P) {body : List Mini.St} {hs : Mini.Hs} (hx : HsX L hs) : ∀ D σ H, semS L G W C (.try_ body hs) D σ H → semSs L G (wG L.K W D (clOf L G C hs)) C body D σ H := by
  rintro D σ H ⟨R, h, env, rh, re, x⟩
  simp only [Mini.exec] at x
  refine ⟨R, h, env, rh, re, ?_⟩
  cases eo : Mini.execs C body env h with
  | next e1 h1 => rw [eo] at x; exact x
  | ret w h1 => rw [eo] at x; exact x
  | brk e1 h1 => rw [eo] at x; exact x
  | cont e1 h1 => rw [eo] at x; exact x
  | bad => rw [eo] at x; exact x
  | exn c v env' h' =>
    rw [eo] at x
    intro R' H' σ' C0 d t' o re'
    exact handle_sem hP hs hx R' h' H' D σ' env' c v C0 d o re' (SemO.from (o := Mini.handle C hs c v env' h') x t' o.hr)
theorem sound_try {body : List Stmt} {h₀ : ExceptHandler} {hds : List ExceptHandler} {b : List Mini.St} {hs : Mini.Hs} {pos : Pos} (hP : C.prog = L.P) (hK : X.K = L.K) (hN : X.N.Nodup) (hst : X.stack = X.env :: X.outer) (hf : X.env.frame = some X.env.locals) (tk : Takes X W)
    (hb : ∀ (W' : WX) (pn : List (Addr × Obj)) (xe : Value → Shared → Prop), Takes (X.tr pn xe) W' → PassesOwn (model X.prog X.w) X.A X.env xe → PSs (X.tr pn xe) body (semSs L G W' C b)) (hh : HsOk X (h₀ :: hds) (clOf L G C hs)) (hx : HsX L hs) :
    PS X (.Try body (h₀ :: hds) [] [] pos) (semS L G W C (.try_ b hs)) :=
  (ps_tryG hN hst hf tk hb hh).imp fun D σ H q => by
    rw [hK]
    exact try_sem hP hx D σ H q
theorem sound_efld {a d C0 : Addr} {oe : Obj} {cls : Value} {pn : List (Addr × Obj)} {i : Nat} {x : Str} {c f f0 : String} {p pos : Pos} (hP : C.prog = L.P) (hf0 : L.fld c = some f0) (hK : X.K = L.K) (T : XfC L.K C0) (hcl : cls = .ref C0) (hno : PySem.W.findIn L.K (.ref C0) (nm f) = some none) (hz : Zc cls (some d) oe) (hfl : ∃ vs, oe.data = .fields vs) (hG : G.exs i = some (a, d, c, f0))
    (hN : X.N[i]? = some x) (hv : Vis X.env.scope x) (hd : (x == ("__debug__" : Str)) = false) (hcd : (x == ("__classdict__" : Str)) = false) (hb : attributeBase (.Name x p) (nm f) X.env (eval (.Name x p) X.env) = eval (.Name x p) X.env) :
    PE (X.suite a ((a, oe) :: pn)) (.Attribute (.Name x p) (nm f) pos) (semE L G W C (.efld i f)) := by
  refine (pe_xf (X := X) (hK ▸ T) (hK ▸ hno) hz hfl (pe_var (X := X.suite a ((a, oe) :: pn)) hN hv hd hcd) hb).imp ?_
  rintro σ H Q ⟨R, h, env, rh, re, y⟩
  simp only [evalE] at y
  obtain ⟨r, e, g⟩ := SemR.opt y
  split at e
  · rename_i g0 w ew
    split at e
    · rename_i hg
      cases e
      have e' : env[i]? = some (some (.exc g0 r)) := by
        cases q : env[i]? with
        | none => rw [q] at ew; cases ew
        | some o => rw [q] at ew; cases o with
          | none => cases ew
          | some u => cases ew; rfl
      rcases re.at_ i _ e' with ⟨y, e1, r1⟩ | ⟨c', f', w', a', d', u, e1, e2, e3, e4, r1⟩
      · cases r1
      · cases e1
        rw [hG] at e2
        cases e2
        have ef : f0 = f := by
          unfold Lk.fld at hf0
          rw [Option.map_eq_some_iff] at hf0
          obtain ⟨K0, k1, k2⟩ := hf0
          rw [hP, k1] at hg
          exact k2.symm.trans hg
        subst ef
        exact ⟨.ref a, e3, rfl, hcl, d, [(nm f0, u)], u, rfl, e4, by simp [List.lookup], g R H Xt.refl rh _ r1⟩
    · cases e
  · cases e
/-- what isinstance asks of an exception's class -/
structure XiC (K : PySem.W.Frag) (D : Addr) : Prop where
  hc : (PySem.W.clsIn K D).isSome = true
  ha : PySem.W.findIn K (.ref D) "__class__" = some (some (.builtin "object.__class__"))
  hn : PySem.W.specialIn K (.builtin "object.__class__") "__get__" = some (some (.builtin "getset_descriptor.__get__"))
  ht : PySem.W.takesIn K (.builtin "object.__class__") = some true
  hm : PySem.W.mroIn K D (.type "object") = some true
def xiB (K : PySem.W.Frag) (D : Addr) : Bool := (PySem.W.clsIn K D).isSome && decide (PySem.W.findIn K (.ref D) "__class__" = some (some (.builtin "object.__class__"))) && decide (PySem.W.specialIn K (.builtin "object.__class__") "__get__" = some (some (.builtin "getset_descriptor.__get__"))) && decide (PySem.W.takesIn K (.builtin "object.__class__") = some true) && decide (PySem.W.mroIn K D (.type "object") = some true)
theorem xiB_ok {K : PySem.W.Frag} {D : Addr} (h : xiB K D = true) : XiC K D := by
  unfold xiB at h
  simp only [Bool.and_eq_true, decide_eq_true_eq] at h
  obtain ⟨⟨⟨⟨h1, h2⟩, h3⟩, h4⟩, h5⟩ := h
  exact ⟨h1, h2, h3, h4, h5⟩
/-- isinstance(e, c), e the exception that the suite holds -/
theorem call_isX {X : L2.Cx} {a d D : Addr} {oe : Obj} {pn : List (Addr × Obj)} (T : XfC X.K D) (I0 : XiC X.K D) (hz : Zc (.ref D) (some d) oe) (hf : ∃ vs, oe.data = .fields vs) :
    ∀ (E0 : Addr) (b : Bool), PySem.W.kitOne X.K (.ref D) (.ref E0) = some b → CallR (X.suite a ((a, oe) :: pn)) (.builtin "isinstance") (fun xs H Q => xs = [.ref a, .ref E0] ∧ (∃ xd, H d = some (.xd xd)) ∧ Q (.bl b) H) := by
  intro E0 b ek pins s σ H xs us Q I r h
  obtain ⟨rfl, ⟨xd, hxd⟩, q⟩ := h
  obtain ⟨u1, u2, rfl, r1, r2⟩ := vals2 r
  cases r1
  cases r2
  obtain ⟨hget, _⟩ := I.pin (a, oe) (List.mem_append.mpr (.inl List.mem_cons_self))
  obtain ⟨vs, hv⟩ := hf
  have hx : ObjOk X.prog X.w H s.heap d (.xd xd) := I.hok d _ hxd
  obtain ⟨mA, hns, hr⟩ := hx
  obtain ⟨od, ho, hl⟩ := lookIn_ns hns
  have J : PySem.W.InstAt s.heap a oe D (some od) := ⟨hget, hz.1, by unfold PySem.W.notCls; rw [hv] <;> rfl, by rw [hz.2]; exact ho⟩
  exact PySem.W.kia_one (PySem.W.kitx_exc (gt := none) I0.hc T.ga T.gg T.exC I0.ha I0.hn I0.ht I0.hm) I.kIn J ek (fun z => nomatch z) fun tk => ⟨.bl b, H, I.kept (t' := tk) fun _ _ z => z, rfl, q⟩
theorem sound_eis {a d C0 E0 : Addr} {oe : Obj} {cls : Value} {pn : List (Addr × Obj)} {i : Nat} {x : Str} {c e f0 : String} {p px pe pos : Pos} (hP : C.prog = L.P) (hK : X.K = L.K) (T : XfC L.K C0) (I0 : XiC L.K C0) (hcl : cls = .ref C0) (hz : Zc cls (some d) oe) (hfl : ∃ vs, oe.data = .fields vs) (hG : G.exs i = some (a, d, c, f0))
    (ek : PySem.W.kitOne L.K (.ref C0) (.ref E0) = some (Mini.excIs L.P c [e])) (hg : Gl X (nm "isinstance")) (hm : X.mg (nm "isinstance") = none) (hge : Gl X (nm e)) (hme : X.mg (nm e) = some (.ref E0)) (hdb : (nm e == ("__debug__" : Str)) = false)
    (hN : X.N[i]? = some x) (hv : Vis X.env.scope x) (hd : (x == ("__debug__" : Str)) = false) (hcd : (x == ("__classdict__" : Str)) = false) :
    PE (X.suite a ((a, oe) :: pn)) (.Call (.Name (nm "isinstance") p) [.Name x px, .Name (nm e) pe] [] pos) (semE L G W C (.eis i e)) := by
  subst hcl
  have cr := call_isX (X := X) (a := a) (pn := pn) (hK ▸ T) (hK ▸ I0) hz hfl E0 _ (by rw [hK]; exact ek)
  have hy : PE (X.suite a ((a, oe) :: pn)) (.Name (nm e) pe) (tC (.ref E0)) := pe_glob (X := X.suite a ((a, oe) :: pn)) hge hme rfl hdb
  have hx := pe_var (X := X.suite a ((a, oe) :: pn)) (pos := px) hN hv hd hcd
  refine (pe_callB (X := X.suite a ((a, oe) :: pn)) (p := p) (pos := pos) cr hg hm (by first | rfl | kernel_rfl) (pa_cons hx (pa_cons hy pa_nil rfl) rfl) (by decide) (by decide) rfl rfl).imp ?_
  rintro σ H Q ⟨R, h, env, rh, re, y⟩
  simp only [evalE] at y
  obtain ⟨r, e', g⟩ := SemR.opt y
  split at e'
  · rename_i c0 w ew
    cases e'
    have e1 : env[i]? = some (some (.exc c0 w)) := by
      cases q : env[i]? with
      | none => rw [q] at ew; cases ew
      | some o => rw [q] at ew; cases o with
        | none => cases ew
        | some u => cases ew; rfl
    rcases re.at_ i _ e1 with ⟨y, k1, r1⟩ | ⟨c', f', w', a', d', u, k1, k2, k3, k4, r1⟩
    · cases r1
    · cases k1
      rw [hG] at k2
      cases k2
      have z := g R H Xt.refl rh (.bl _) (.bool _)
      rw [hP] at z
      exact ⟨.ref a, k3, rfl, ⟨_, k4⟩, z⟩
  · cases e'
end
end MS

set_option Elab.async false
set_option linter.all false
set_option maxRecDepth 100000
set_option maxHeartbeats 4000000
/-! SR: defs called -/
namespace MS
open PySem PySem.Spec PyProof.Rows L2
open Mini (Val Res Ex Tg Out evalE evalEs evalI evalTs)
def DefI.fd (I : DefI) (x : String) : FuncData := PySem.W.fnOf I.nmS (nm x) I.params I.body I.scope I.dV I.kV I.doc I.pm I.an I.cdv I.ct
structure DefOk (L : Lk) (x : String) (I : DefI) : Prop where
  lk : L.K.lookup I.f = some ⟨I.oc, I.od, .func (I.fd x), I.osl⟩
  hcd : PySem.W.codeIn L.K I.cdv (nm x) = true
  S : FnScope I.N I.ps I.scope
  kp : PySem.W.keepIn L.K (.ref I.f) = true
  bind : L2.Binds L.K (I.fd x) I.ps []
  mg : I.top = true → L.mg (nm x) = some (.ref I.f)
  dbg : (nm x == ("__debug__" : Str)) = false
def CloOk (L : Lk) (G : Cr) (s : Shared) (H : Hp) (outer : List PySem.Env) : Prop := ∀ k a vs, G.clo k a vs → L.clo k vs s H outer a
/-- what is known of lambdas is kept through a run -/
def CloSt (L : Lk) : Prop := ∀ (X : L2.Cx) (pins : List (Addr × PySem.Obj)) (σ : L2.St) (H : Hp) (s : Shared) (k : String) (vs : List L2.V) (a : Addr), X.ex = [] → X.stack = X.env :: X.outer → Inv X pins σ H s → L.clo k vs X.s_0 X.H_0 X.outer a → L.clo k vs s H X.stack a
/-- the defs called by C keep their promises, at the level kk -/
def CallsOk (L : Lk) (kk : Nat) (C : Mini.Cx) : Prop :=
  ∀ (x : String) (I : DefI), L.defs x = some I → ∀ (A : Around) (outer : List PySem.Env) (s : Shared) (H : Hp) (args : Args) (us : List Value) (vs : List L2.V) (Q : VK) (E : XK), Room kk A → A.guards = some [] → Env0 L.prog L.w L.K L.mg L.base A outer s H → BindsTo s (I.fd x) args (I.ps.zip us) → Vals vs us →
    (∃ (G : Cr) (R : Mp) (h : Mini.Heap) (ms : List Val), CloOk L G s H outer ∧ HRL L G R h H ∧ VRsL L G H R h.length ms vs ∧ SemR L G (fun cls d _ H' => E cls d H') (C.call x ms h) R h H [] (vpost L G Q)) →
      codeAny (model L.prog L.w) A (.call (.ref I.f) args) (CR (L2.CX L.prog L.w) outer L.prog L.w H s Q E) s
/-- .. and take as many arguments as they have parameters -/
def LensOk (L : Lk) (C : Mini.Cx) : Prop := ∀ (x : String) (I : DefI), L.defs x = some I → ∀ (ms : List Val) (h : Mini.Heap), C.call x ms h ≠ .bad → ms.length = I.ps.length
section
variable {L : Lk} {G : Cr} {W : WX} {C : Mini.Cx} {X : L2.Cx} {kk : Nat} {x : String} {I : DefI}
structure SameL (L : Lk) (X : L2.Cx) : Prop where
  prog : X.prog = L.prog
  w : X.w = L.w
  K : X.K = L.K
  mg : X.mg = L.mg
  base : X.base = L.base
/-- the def runs -/
theorem run_def {pins : List (Addr × PySem.Obj)} {σ : L2.St} {H : Hp} {s : Shared} {Q : VK} {us : List Value} {vs : List L2.V} (sl : SameL L X) (hC : CallsOk L kk C) (hL : LensOk L C) (hI : L.defs x = some I) (dI : DefOk L x I) (hr : Room kk X.A) (hgd : X.A.guards = some []) (tk : Takes X W) (J : Inv X pins σ H s) (clo : CloOk L G s H X.stack) (r : Vals vs us)
    (h : ∃ R h ms, HRL L G R h H ∧ VRsL L G H R h.length ms vs ∧ SemR L G W (C.call x ms h) R h H σ (vpost L G Q)) : wpAny (model X.prog X.w) X.A (call (.ref I.f) us) (EP X pins σ Q) X.xe s := by
  obtain ⟨R, h, ms, rh, rv, y⟩ := h
  have hl : us.length = I.ps.length := by
    rw [← r.length, ← rv.length]
    exact hL x I hI ms h fun z => by rw [z] at y; exact y
  have y' : SemR L G (fun cls d _ H' => W cls d σ H') (C.call x ms h) R h H [] (vpost L G Q) := by
    cases e : C.call x ms h with
    | ok a h' => rw [e] at y; exact y
    | exn c v h' => rw [e] at y; exact y
    | bad => rw [e] at y; exact y
  have e0 := J.env0
  rw [sl.prog, sl.w, sl.K, sl.mg, sl.base] at e0
  have kin : L.K.In s.heap := sl.K ▸ J.kIn
  have hb := dI.bind s us kin (by rw [List.append_nil]; exact hl)
  rw [List.append_nil] at hb
  have run := hC x I hI X.A X.stack s H ⟨us, []⟩ us vs Q (fun cls d H' => W cls d σ H') hr hgd e0 hb r ⟨G, R, h, ms, clo, rh, rv, y'⟩
  rw [← sl.prog, ← sl.w] at run
  refine wpAny_call (codeAny_mono run fun r s' hq => ?_)
  cases r with
  | error e => exact tk e s' (XE.of_call J (fun cls d H' h => h) hq)
  | ok fl =>
    cases fl with
    | ret u => exact J.after hq
    | next => exact False.elim hq
    | brk => exact False.elim hq
    | cont => exact False.elim hq
theorem sound_call {E1 : Expr} {Es : List Expr} {es : List Ex} {p pos : Pos} (sl : SameL L X) (hC : CallsOk L kk C) (hL : LensOk L C) (hI : L.defs x = some I) (dI : DefOk L x I) (ht : I.top = true) (hr : Room kk X.A) (hgd : X.A.guards = some []) (tk : Takes X W) (clo : ∀ pins σ H s, Inv X pins σ H s → CloOk L G s H X.stack)
    (hg : Gl X (nm x)) (ha : PA X (E1 :: Es) (semA L G W C es)) (he : starEach (E1 :: Es) X.env = (false, eval E1 X.env) :: starEach Es X.env) (hpl : (backTo pos (starEach Es X.env)).any (·.1) = false) : PE X (.Call (.Name (nm x) p) (E1 :: Es) [] pos) (semE L G W C (.call x es)) := by
  refine ⟨fun pins s σ H Q J h => ?_⟩
  obtain ⟨R, h, env, rh, re, y⟩ := h
  simp only [evalE] at y
  refine wpAny_Call_Name_kw (ld_glob J hg (by rw [sl.mg]; exact dI.mg ht) ?_ dI.dbg)
  refine PySem.W.callWith_K (h₀ := X.base) J.ok.mod.kin (by rw [sl.K]; exact dI.kp) (thn (ha.run pos pins s σ H _ J ⟨R, h, env, rh, re, y.bind.imp fun R1 h1 H1 vs t1 r1 y1 => fun Vs rvs => (⟨R1, h1, vs, r1, rvs, y1⟩ : ∃ R h ms, HRL L G R h H1 ∧ VRsL L G H1 R h.length ms Vs ∧ SemR L G W (C.call x ms h) R h H1 σ (vpost L G Q))⟩) fun us s1 ⟨Vs, H1, I1, r, q⟩ => ⟨I1.kIn, ?_⟩) he hpl
  exact run_def sl hC hL hI dI hr hgd tk I1 (clo _ _ _ _ I1) r q
theorem sound_call0 {p pos : Pos} (sl : SameL L X) (hC : CallsOk L kk C) (hL : LensOk L C) (hI : L.defs x = some I) (dI : DefOk L x I) (ht : I.top = true) (hr : Room kk X.A) (hgd : X.A.guards = some []) (tk : Takes X W) (clo : ∀ pins σ H s, Inv X pins σ H s → CloOk L G s H X.stack) (hg : Gl X (nm x)) : PE X (.Call (.Name (nm x) p) [] [] pos) (semE L G W C (.call x [])) := by
  refine ⟨fun pins s σ H Q J h => ?_⟩
  obtain ⟨R, h, env, rh, re, y⟩ := h
  simp only [evalE, evalEs] at y
  refine wpAny_Call_Name_kw (ld_glob J hg (by rw [sl.mg]; exact dI.mg ht) ?_ dI.dbg)
  exact PySem.W.callWith_K0 J.kIn (by rw [sl.K]; exact dI.kp) (run_def (us := []) (vs := []) sl hC hL hI dI hr hgd tk J (clo _ _ _ _ J) .nil ⟨R, h, [], rh, .nil, y⟩)
end

/-! ### a def's body run -/
section
variable {L : Lk} {G : Cr} {W : WX} {C : Mini.Cx} {X : L2.Cx} {kk : Nat} {x : String} {I : DefI}
theorem start_er {R : Mp} {H : Hp} {n : Nat} {ms : List Val} {vs : List L2.V} {N : List Str} {slots : Nat} (hN : N.length = slots) (r : VRsL L G H R n ms vs) : ERL L G H R n (ms.map some ++ List.replicate (slots - ms.length) none) (L2.start N vs) := by
  have hl := r.length
  refine ⟨by unfold L2.start; simp [hl, hN], fun i v e => ?_⟩
  by_cases hi : i < ms.length
  · rw [List.getElem?_append_left (by simpa using hi), List.getElem?_map, Option.map_eq_some_iff] at e
    obtain ⟨w, e1, e2⟩ := e
    cases e2
    obtain ⟨u, e3, ru⟩ := r.get e1
    refine .inl ⟨u, ?_, ru⟩
    unfold L2.start
    rw [List.getElem?_append_left (by simp; omega), List.getElem?_map, e3]
    rfl
  · rw [List.getElem?_append_right (by simp; omega)] at e
    have := List.mem_of_getElem? e
    rw [List.mem_replicate] at this
    cases this.2
mutual
inductive Bel (n : Nat) : Val → Prop
  | none : Bel n .none
  | bool (b : Bool) : Bel n (.bool b)
  | int (i : Int) : Bel n (.int i)
  | str (s : Mini.Txt) : Bel n (.str s)
  | rep (v : Val) : Bel n (.rep v)
  | tup {xs : List Val} : Bels n xs → Bel n (.tup xs)
  | lst {xs : List Val} : Bels n xs → Bel n (.lst xs)
  | ref {i : Nat} : i < n → Bel n (.ref i)
  | clo {k : String} {xs : List Val} : Bels n xs → Bel n (.clo k xs)
  | scr {xs : List Val} : Bels n xs → Bel n (.scr xs)
  | emp : Bel n .emp
inductive Bels (n : Nat) : List Val → Prop
  | nil : Bels n []
  | cons {x : Val} {xs : List Val} : Bel n x → Bels n xs → Bels n (x :: xs)
end
section
variable {K : PySem.W.Frag} {c : Clo} {H : Hp} {R : Mp} {n m : Nat}
mutual
theorem bel_of : ∀ (v : Val) (u : L2.V), VR K c H R n v u → Bel n v
  | _, _, .none => .none
  | _, _, .bool b => .bool b
  | _, _, .int i => .int i
  | _, _, .str s => .str s
  | _, _, .rep e => .rep _
  | _, _, .tup q r => .tup (bels_of _ _ r)
  | _, _, .lst e d r => .lst (bels_of _ _ r)
  | _, _, .scr q r => .scr (bels_of _ _ r)
  | _, _, .ref hi => .ref hi
  | _, _, .clo g r => .clo (bels_of _ _ r)
  | _, _, .emp e d => .emp
theorem bels_of : ∀ (v : List Val) (u : List L2.V), VRs K c H R n v u → Bels n v
  | _, _, .nil => .nil
  | _, _, .cons a b => .cons (bel_of _ _ a) (bels_of _ _ b)
end
theorem Off.low {a : Addr} (h : n ≤ m) (d : Off R m a) : Off R n a := ⟨fun i hi => d.1 i (Nat.lt_of_lt_of_le hi h), d.2⟩
mutual
theorem vr_low (hm : n ≤ m) : ∀ (v : Val) (u : L2.V), VR K c H R m v u → Bel n v → VR K c H R n v u
  | _, _, .none, _ => .none
  | _, _, .bool b, _ => .bool b
  | _, _, .int i, _ => .int i
  | _, _, .str s, _ => .str s
  | _, _, .rep e, _ => .rep e
  | _, _, .tup q r, .tup b => .tup q (vrs_low hm _ _ r b)
  | _, _, .lst e d r, .lst b => .lst e (d.low hm) (vrs_low hm _ _ r b)
  | _, _, .scr q r, .scr b => .scr q (vrs_low hm _ _ r b)
  | _, _, .ref _, .ref hi => .ref hi
  | _, _, .clo g r, .clo b => .clo g (vrs_low hm _ _ r b)
  | _, _, .emp e d, _ => .emp e (d.low hm)
theorem vrs_low (hm : n ≤ m) : ∀ (v : List Val) (u : List L2.V), VRs K c H R m v u → Bels n v → VRs K c H R n v u
  | _, _, .nil, _ => .nil
  | _, _, .cons a b, .cons p q => .cons (vr_low hm _ _ a p) (vrs_low hm _ _ b q)
end
theorem kvr_bel {kvs : List (Val × Val)} {ks : List (Key × L2.V)} (r : KVR K c H R n kvs ks) : ∀ p ∈ kvs, Bel n p.2 := by
  induction r with
  | nil => intro p hp; cases hp
  | cons hk rv t ih =>
    intro p hp
    rcases List.mem_cons.mp hp with rfl | hp
    · exact bel_of _ _ rv
    · exact ih p hp
theorem kvr_low (hm : n ≤ m) {kvs : List (Val × Val)} {ks : List (Key × L2.V)} (r : KVR K c H R m kvs ks) (b : ∀ p ∈ kvs, Bel n p.2) : KVR K c H R n kvs ks := by
  induction r with
  | nil => exact .nil
  | cons hk rv t ih => exact .cons hk (vr_low hm _ _ rv (b _ List.mem_cons_self)) (ih fun p hp => b p (List.mem_cons_of_mem _ hp))
theorem fvr_bel {kvs : List (String × Val)} {ks : List (Str × L2.V)} (r : FVR K c H R n kvs ks) : ∀ p ∈ kvs, Bel n p.2 := by
  induction r with
  | nil => intro p hp; cases hp
  | cons rv t ih =>
    intro p hp
    rcases List.mem_cons.mp hp with rfl | hp
    · exact bel_of _ _ rv
    · exact ih p hp
theorem fvr_low (hm : n ≤ m) {kvs : List (String × Val)} {ks : List (Str × L2.V)} (r : FVR K c H R m kvs ks) (b : ∀ p ∈ kvs, Bel n p.2) : FVR K c H R n kvs ks := by
  induction r with
  | nil => exact .nil
  | cons rv t ih => exact .cons (vr_low hm _ _ rv (b _ List.mem_cons_self)) (ih fun p hp => b p (List.mem_cons_of_mem _ hp))
end
/-- the heap as it was: the old places suffice -/
theorem hr_back {R R' : Mp} {h h' : Mini.Heap} {H H' : Hp} (rh : HRL L G R h H) (r' : HRL L G R' h' H') (e : h'.take h.length = h) : HRL L G R' h H' := by
  have hl : h.length ≤ h'.length := by
    have := congrArg List.length e
    rw [List.length_take] at this
    omega
  refine ⟨fun i j hi hj => r'.inj i j (by omega) (by omega), fun i o eo => ?_, r'.ow, fun i hi => r'.owR i (by omega), r'.tab⟩
  have hi := (List.getElem?_eq_some_iff.mp eo).1
  have eo' : h'[i]? = some o := by
    rw [← e, List.getElem?_take] at eo
    rw [if_pos hi] at eo
    exact eo
  have q0 := rh.at_ i o eo
  have q1 := r'.at_ i o eo'
  cases o with
  | list xs =>
    obtain ⟨_, _, r0⟩ := q0
    obtain ⟨vs, e1, r1⟩ := q1
    exact ⟨vs, e1, vrs_low hl _ _ r1 (bels_of _ _ r0)⟩
  | dict kvs =>
    obtain ⟨_, _, r0⟩ := q0
    obtain ⟨vs, e1, r1⟩ := q1
    exact ⟨vs, e1, kvr_low hl r1 (kvr_bel r0)⟩
  | inst c fs =>
    obtain ⟨_, _, _, _, _, r0⟩ := q0
    obtain ⟨C, dx, gs, e0, e1, r1⟩ := q1
    exact ⟨C, dx, gs, e0, e1, fvr_low hl r1 (fvr_bel r0)⟩
  | set _ => exact q0.elim
theorem xt_back {R R' : Mp} {h h' : Mini.Heap} {H H' : Hp} (t : Xt R h H R' h' H') : Xt R h H R' h H' := ⟨Nat.le_refl _, t.same, t.own, fun i a b => absurd b (Nat.not_lt_of_le a), t.keep, t.tbl⟩
section
variable {H : Hp} {R : Mp} {n m : Nat}
mutual
theorem rd_val {f : Nat → Option Val} (hm : n ≤ m) (F : ∀ i w, f i = some w → i < m → VRL L G H R n w (.ref (R i))) : ∀ (v w : Val) (u : L2.V), Mini.rdA f v = some w → VRL L G H R m v u → VRL L G H R n w u
  | .none, w, _, e, .none => by cases e; exact .none
  | .bool b, w, _, e, .bool _ => by cases e; exact .bool b
  | .int i, w, _, e, .int _ => by cases e; exact .int i
  | .str s, w, _, e, .str _ => by cases e; exact .str s
  | .rep v, w, _, e, .rep q => by cases e; exact .rep q
  | .tup xs, w, _, e, .tup q r => by
    simp only [Mini.rdA, Option.map_eq_some_iff] at e
    obtain ⟨ys, e1, rfl⟩ := e
    exact .tup q (rd_vals hm F xs ys _ e1 r)
  | .lst xs, w, _, e, .lst q d r => by
    simp only [Mini.rdA, Option.map_eq_some_iff] at e
    obtain ⟨ys, e1, rfl⟩ := e
    exact .lst q (d.low hm) (rd_vals hm F xs ys _ e1 r)
  | .scr xs, w, _, e, .scr q r => by
    simp only [Mini.rdA, Option.map_eq_some_iff] at e
    obtain ⟨ys, e1, rfl⟩ := e
    exact .scr q (rd_vals hm F xs ys _ e1 r)
  | .ref i, w, _, e, .ref hi => F i w e hi
  | .emp, w, _, e, .emp q d => by cases e; exact .emp q (d.low hm)
  | .clo _ _, w, _, e, _ => by cases e
theorem rd_vals {f : Nat → Option Val} (hm : n ≤ m) (F : ∀ i w, f i = some w → i < m → VRL L G H R n w (.ref (R i))) : ∀ (v w : List Val) (u : List L2.V), Mini.rdAs f v = some w → VRsL L G H R m v u → VRsL L G H R n w u
  | [], w, _, e, .nil => by cases e; exact .nil
  | x :: xs, w, _, e, .cons r t => by
    simp only [Mini.rdAs] at e
    cases e1 : Mini.rdA f x with
    | none => rw [e1] at e; cases e
    | some y =>
      cases e2 : Mini.rdAs f xs with
      | none => rw [e1, e2] at e; cases e
      | some ys =>
        rw [e1, e2] at e
        cases e
        exact .cons (rd_val hm F x y _ e1 r) (rd_vals hm F xs ys _ e2 t)
end
end
theorem rdN_val {R : Mp} {h : Mini.Heap} {H : Hp} {n : Nat} (rh : HRL L G R h H) (hn : n ≤ h.length) : ∀ (k i : Nat) (w : Val), Mini.rdN n h k i = some w → i < h.length → VRL L G H R n w (.ref (R i))
  | 0, i, w, e, _ => by cases e
  | k + 1, i, w, e, hi => by
    simp only [Mini.rdN] at e
    split at e
    · rename_i h1
      cases e
      exact .ref h1
    · rename_i h1
      split at e
      · rename_i xs ex
        rw [Option.map_eq_some_iff] at e
        obtain ⟨ys, e1, rfl⟩ := e
        obtain ⟨vs, e2, r⟩ := HR.list rh ex
        exact .lst e2 ⟨fun j hj z => h1 (by rw [← rh.inj j i (by omega) hi z]; exact hj), rh.owR i hi⟩ (rd_vals hn (fun i w e hi => rdN_val rh hn k i w e hi) xs ys _ e1 r)
      · cases e
theorem rd_sem {R : Mp} {h : Mini.Heap} {H : Hp} {n : Nat} {v w : Val} {u : L2.V} (rh : HRL L G R h H) (hn : n ≤ h.length) (rv : VRL L G H R h.length v u) (e : Mini.rd n h v = some w) : VRL L G H R n w u := rd_val hn (fun i w e hi => rdN_val rh hn 6 i w e hi) v w u e rv
/-- what a def's run says of its body's -/
theorem settle_sem {G1 : Cr} (gr : ∀ k a vs, G1.clo k a vs → G.clo k a vs) {R : Mp} {h : Mini.Heap} {H : Hp} {Q : VK} {E : XK} {o : Out} {shut : Bool} (rh : HRL L G R h H) (x : SemR L G (fun cls d _ H' => E cls d H') (if shut then Mini.settle h o.res else o.res) R h H [] (vpost L G Q)) :
    SemO L G1 (fun cls d _ H' => E cls d H') o R h H { nx := fun _ H' => Q .non H', rt := Q } := by
  cases shut with
  | false =>
    rw [if_neg (by decide)] at x
    cases o with
    | next env h' => exact fun R' H' σ' t r _ => x R' H' t r .non .none
    | ret v h' => exact fun R' H' V t r rv => x R' H' t r V (VR.grow gr _ _ rv)
    | brk env h' => exact x.elim
    | cont env h' => exact x.elim
    | exn c v env h' =>
      intro R' H' σ' C d t e _
      obtain ⟨f, u, e1, e2, e3⟩ := e.at_
      exact x R' H' C d t ⟨e.hr, e.cl, f, u, e1, e2, VR.grow gr _ _ e3⟩
    | bad => exact x
  | true =>
    rw [if_pos rfl] at x
    have key : ∀ (v : Val) (h' : Mini.Heap), SemR L G (fun cls d _ H' => E cls d H') (Mini.settle h (.ok v h')) R h H [] (vpost L G Q) → ∀ R' H' V, Xt R h H R' h' H' → HRL L G R' h' H' → VRL L G1 H' R' h'.length v V → Q V H' := fun v h' x R' H' V t r rv => by
      simp only [Mini.settle] at x
      split at x
      · rename_i et
        split at x
        · rename_i w ew
          exact x R' H' (xt_back t) (hr_back (L := L) (G := G) rh r et) V (VR.grow gr _ _ (rd_sem (L := L) (G := G1) r t.len rv ew))
        · exact x.elim
      · exact x.elim
    cases o with
    | next env h' => exact fun R' H' σ' t r _ => key .none h' x R' H' .non t r .none
    | ret v h' => exact fun R' H' V t r rv => key v h' x R' H' V t r rv
    | brk env h' => exact x.elim
    | cont env h' => exact x.elim
    | bad => exact x
    | exn c v env h' =>
      intro R' H' σ' C d t e _
      simp only [Out.res, Mini.settle] at x
      split at x
      · rename_i et
        split at x
        · rename_i w ew
          obtain ⟨f, u, e1, e2, e3⟩ := e.at_
          exact x R' H' C d (xt_back t) ⟨hr_back (L := L) (G := G) rh e.hr et, e.cl, f, u, e1, e2, VR.grow gr _ _ (rd_sem (L := L) (G := G1) e.hr t.len e3 ew)⟩
        · exact x.elim
      · exact x.elim
theorem unhush {W : WX} {R : Mp} {h : Mini.Heap} {H : Hp} {σ : L2.St} {p : Mp → Mini.Heap → Hp → Val → Prop} {r : Res Val} (x : SemR L G W (Mini.hush r) R h H σ p) : SemR L G W r R h H σ p := by
  cases r with
  | ok v h' =>
    simp only [Mini.hush] at x
    by_cases z : Mini.still v = true
    · rw [if_pos z] at x; exact x
    · rw [if_neg z] at x; exact x.elim
  | exn c v h' =>
    simp only [Mini.hush] at x
    by_cases z : Mini.still v = true
    · rw [if_pos z] at x; exact x
    · rw [if_neg z] at x; exact x.elim
  | bad => exact x
/-- the defs of the next depth -/
theorem calls_step {P : Mini.Prog} {Wn : Nat} {d kk : Nat} (hfn : ∀ x I, L.defs x = some I → ∃ F, P.fns.lookup x = some F ∧ I.ps.length = F.params ∧ I.N.length = F.slots ∧ DefOk L x I ∧
      ∀ (G : Cr) (A : Around) (outer : List PySem.Env) (s : Shared) (H : Hp) (E : XK), Room kk (A.deeper (envOfC (nm x) I.scope s.heap.objs.size I.f I.cdv)) → A.guards = some [] → CloOk L G s H outer → (F.clo = false → ∀ k a vs, ¬ G.clo k a vs) → (∀ i, G.exs i = none) → Env0 L.prog L.w L.K L.mg L.base A outer s H →
        PSs (cxOf (L2.CX L.prog L.w) L.prog L.w L.K L.mg L.base I.N (nm x) I.scope I.f I.cdv A outer s H E) I.body (semSs L G (fun cls d _ H' => E cls d H') (Mini.cxAt P Wn d) F.body)) :
    CallsOk L (kk + 1) (Mini.cxAt P Wn (d + 1)) ∧ LensOk L (Mini.cxAt P Wn (d + 1)) := by
  refine ⟨fun x I hI A outer s H args us vs Q E hr hgd e0 hb r h => ?_, fun x I hI ms h nb => ?_⟩
  · obtain ⟨F, hF, hp, hN, dI, body⟩ := hfn x I hI
    obtain ⟨G, R, h, ms, clo, rh, rv, y⟩ := h
    have ec : (Mini.cxAt P Wn (d + 1)).call x ms h = Mini.runFn (Mini.cxAt P Wn d) F ms h := by
      show (match P.fns.lookup x with | some F => Mini.runFn (Mini.cxAt P Wn d) F ms h | none => .bad) = _
      rw [hF]
    rw [ec] at y
    unfold Mini.runFn at y
    by_cases hl : ms.length = F.params ∧ (F.clo || Mini.stills ms) = true
    · rw [if_pos hl] at y
      refine LamX.run_ofS (N := I.N) (ps := I.ps) (us := us) (vs := vs) dI.lk dI.hcd dI.S hr e0 hb r (by rw [← rv.length, hl.1, hp]) fun hr' => ?_
      cases hc : F.clo with
      | true =>
        dsimp only at y
        rw [hc, if_pos rfl] at y
        replace y := unhush y
        have y2 := settle_sem (G := G) (G1 := ⟨G.clo, fun _ => none⟩) (fun _ _ _ z => z) rh y
        refine ⟨_, body ⟨G.clo, fun _ => none⟩ A outer s H E hr' hgd clo (fun z => by rw [hc] at z; cases z) (fun _ => rfl) e0, R, h, _, rh, start_er hN rv, ?_⟩
        rw [← hl.1] at y2
        exact y2
      | false =>
        have hst : Mini.stills ms = true := by have := hl.2; rw [hc] at this; exact this
        dsimp only at y
        rw [hc, if_neg Bool.false_ne_true] at y
        have y2 := settle_sem (G := G) (G1 := ⟨noClo, fun _ => none⟩) (fun _ _ _ z => z.elim) rh y
        refine ⟨_, body ⟨noClo, fun _ => none⟩ A outer s H E hr' hgd (fun _ _ _ z => z.elim) (fun _ _ _ _ z => z) (fun _ => rfl) e0, R, h, _, rh, start_er (G := ⟨noClo, fun _ => none⟩) hN (VRs.stil _ _ rv hst), ?_⟩
        rw [← hl.1] at y2
        exact y2
    · rw [if_neg hl] at y
      exact y.elim
  · obtain ⟨F, hF, hp, hN, dI, body⟩ := hfn x I hI
    have ec : (Mini.cxAt P Wn (d + 1)).call x ms h = Mini.runFn (Mini.cxAt P Wn d) F ms h := by
      show (match P.fns.lookup x with | some F => Mini.runFn (Mini.cxAt P Wn d) F ms h | none => .bad) = _
      rw [hF]
    rw [ec] at nb
    unfold Mini.runFn at nb
    by_cases hl : ms.length = F.params ∧ (F.clo || Mini.stills ms) = true
    · rw [hl.1, hp]
    · rw [if_neg hl] at nb
      exact absurd rfl nb
end
end MS

set_option Elab.async false
set_option linter.all false
set_option maxRecDepth 100000
set_option maxHeartbeats 4000000
/-! SY: `C(x)` of an own exception class whose __init__ says super().__init__('text', x); self.f = x -/
namespace MS
open PySem PySem.Spec PyProof.Rows L2 PySem.Calls
/-- the def as it stands -/
structure IniD where
  qual : Str
  params : Arguments
  scope : Scope
  dV : Value
  kV : Value
  doc : Value
  pm : Value
  ct : Value
  an : Option Addr
  cda : Addr
  cc : Addr
  x : Str
  txt : Str
  kk : Nat
  p0 : Pos
  p1 : Pos
  p2 : Pos
  p3 : Pos
  p4 : Pos
  p5 : Pos
  p6 : Pos
  p7 : Pos
  p8 : Pos
  p9 : Pos
  pa : Pos
def IniD.body (D : IniD) (f : Str) : List Stmt :=
  [.Expr (.Call (.Attribute (.Call (.Name "super" D.p0) [] [] D.p1) "__init__" D.p2) [.Constant (.str D.txt) D.kk D.p3, .Name D.x D.p4] [] D.p5) D.p6,
   .Assign [.Attribute (.Name "self" D.p7) f D.p8] (.Name D.x D.p9) D.pa]
def IniD.fd (D : IniD) (f : Str) : FuncData := PySem.W.ksFn "__init__" D.qual D.params (D.body f) D.scope D.dV D.kV D.doc D.pm D.an (.ref D.cda) D.ct D.cc
/-- what is known of the class and of its __init__ -/
structure OwnX (prog : Program) (K : PySem.W.Frag) (mg : Str → Option Value) (C : Addr) (f : Str) (B newId initId : String) (bmB : List Value) (fI : Addr) (D : IniD) : Prop where
  fb : ExcBaseFacts B newId initId bmB
  kx : PySem.W.KxsFacts B initId
  sf : StoreFacts B bmB "object.__setattr__" "object"
  new : PySem.W.excInitIn K C bmB newId = true
  over : PySem.W.excOver K C bmB = true
  ini : PySem.W.findIn K (.ref C) "__init__" = some (some (.ref fI))
  typ : PySem.W.typeIn K (.ref fI) = some (.type "function")
  fn : ∃ oc od osl, K.lookup fI = some ⟨oc, od, .func (D.fd f), osl⟩
  code : PySem.W.codeIn K (.ref D.cda) D.qual = true
  bind : ∀ s a b, BindsTo s (D.fd f) ⟨[a, b], []⟩ [("self", a), (D.x, b)]
  cell : ∀ y ∈ D.scope.names, y.2 ≠ .cell
  self : D.scope.names.lookup ("self" : Str) = some .local
  loc : D.scope.names.lookup D.x = some .local
  sup : D.scope.names.lookup ("super" : Str) = some .globalImplicit
  free : D.scope.names.lookup ("__class__" : Str) = some .free
  co : D.scope.isCoroutine = false
  gen : D.scope.isGenerator = false
  kind : D.scope.kind = .function
  head : ∃ ar : Arg, (D.params.posonlyargs ++ D.params.args).head? = some ar ∧ ar.arg = ("self" : Str)
  xs : D.x ≠ ("self" : Str)
  xd : (D.x == ("__debug__" : Str)) = false
  file : ∃ cl cdd vs ccs file tf, K.lookup D.cda = some ⟨cl, cdd, .fields vs, ccs⟩ ∧ vs[2]? = some (.str file tf) ∧ ((prog.main.file : Str) == file) = true
  cellC : ∃ cl cld csl, K.lookup D.cc = some ⟨cl, cld, .cell (some (.ref C)), csl⟩
  mg : mg "super" = none
  main : (prog.main.scope.names.lookup ("super" : Str)).isSome = false
  any : PySem.W.nsIn K PySem.cStatics "thirdparty.any" = some none
  mro : PySem.W.mroIn K C (.ref C) = some true
  along : PySem.W.ks_superIn K C C "__init__" = some (some (.builtin initId))
  sub : PySem.W.subIn K (.ref C) (.type B) = some true
  sa : PySem.W.findIn K (.ref C) "__setattr__" = some (some (.builtin "object.__setattr__"))
  tak : PySem.W.takerIn K C f = some none
  hasd : PySem.W.hasDictIn K C = true
  exC : PySem.W.subIn K (.ref C) (.type "BaseException") = some true
  tyC : PySem.W.typeIn K (.ref C) = some (.type "type")
  kC : PySem.W.keepIn K (.ref C) = true
  line : (D.p2.endLine == D.p5.line) = true
open PySem.W
section
variable {prog : Program} {w : World} {A : Around} {E : Value → Shared → Prop} {h : Heap} {g : Array GenState} {d : Drawn} {t : Nat} {os : OsState} {K : PySem.W.Frag} {C fI e t1 : Addr} {f : Str} {B newId initId : String} {bmB : List Value} {D : IniD} {mg mb m : Str → Option Value} {L : Addr} {u : Value}
theorem own_mw {x q : Addr} {rest : List Value} {Q : Value → Shared → Prop} (O : OwnX prog K mg C f B newId initId bmB fI D) (X : K.In h) (hu : h.get? q = some (kxs_mw initId x)) (he : h.get? x = some (PySem.HandSPX.excO C t1)) (hz : rest.length ≤ sizeLine)
    (hq : ∀ h' t2, (∀ b o, b ≠ x → h.get? b = some o → h'.get? b = some o) → h'.get? x = some (PySem.HandSPX.excO C t2) → Q .none ⟨h', g, d, t, os⟩) : wpAny (model prog w) A (call (.ref q) rest) Q E ⟨h, g, d, t, os⟩ := by
  obtain ⟨nm, N', qn, bs, bm, hdct, sn, sub, ab, col, dd, k0, k1, k2, k3, k5, hC, hT⟩ := excInit_of X O.new
  refine wpAny_call (codeAny_of_tree ?_)
  show wpAny _ A.in1 (callAny (.ref q) ⟨rest, []⟩) _ _ _
  simp only [callAny]
  refine wpAny_bind (wpAny_load hu ?_)
  simp only [kxs_mw, show (Value.type "method-wrapper" == Value.type "method" || Value.type "method-wrapper" == Value.type "builtin_function_or_method" || Value.type "method-wrapper" == Value.type "method-wrapper") = true by decide, if_true]
  refine KFB.if_so (by decide) ?_
  refine wpAny_bind (check_bound_init O.fb.toExcCallFacts hC he rfl ?_)
  refine wpAny_bind (wpAny_pure (wpAny_pure ?_))
  refine ⟨plainId_quiet O.fb.init.plain _, codeAny_builtin O.fb.initEntry ?_⟩
  exact exc_init_tree (cls := .ref C) (t0 := t1) (dv := none) (c2 := .none) (c3 := .none) (b4 := .bool false) he hz fun h' k e1 e2 => hq h' _ k e1
theorem own_store {x : Addr} {Q : Unit → Shared → Prop} (O : OwnX prog K mg C f B newId initId bmB fI D) (X : K.In h) (he : h.get? x = some (PySem.HandSPX.excO C t1))
    (hq : ∀ h' t' dx, (∀ b o, b ≠ x → h.get? b = some o → h'.get? b = some o) → h.objs.size ≤ dx → dx ≠ x → h'.get? x = some ({ cls := .ref C, dict := some dx, data := .fields #[.ref t1, .none, .none, .none, .bool false, .none] } : Obj) →
      h'.Ns1 dx (fun y => if y = f then some u else none) → Q () ⟨h', g, d, t', os⟩) : wpAny (model prog w) A (setAttr (.ref x) f u) Q E ⟨h, g, d, t, os⟩ := by
  have I : InstAt h x (PySem.HandSPX.excO C t1) C none := ⟨he, rfl, rfl, trivial⟩
  have hxs : x ≠ h.objs.size := Nat.ne_of_lt (Heap.lt_size he)
  obtain ⟨cd, hc, hd'⟩ := any_some O.hasd
  refine PySem.W.set_plain X I O.sa (osa_openX (od := none) O.sf X I O.over O.tak fun b => ?_)
  refine wpAny_bind (wpAny_pure (wpAny_bind (instanceDict_exc he (looks_clsIn X hc) hd' ?_)))
  refine PySem.HandSPX.store_in_new ?_ ?_
  · exact ⟨_, #[], _, (Heap.get?_update_ne _ _ _ _ hxs.symm).trans (Heap.get?_push_at rfl rfl), rfl, fun e he => absurd he (by simp), fun _ => rfl⟩
  · intro h' tk' hn' hs
    have hx₁ : (h.push { cls := .type "dict", data := .dict #[] }).get? x = some (PySem.HandSPX.excO C t1) := Heap.get?_push_of_some _ he
    refine hq h' tk' h.objs.size (fun b o hb ho => ?_) (Nat.le_refl _) hxs.symm ?_ hn'
    · exact (hs.2 b (Nat.ne_of_lt (Heap.lt_size ho))).trans ((Heap.get?_update_ne _ _ _ _ hb).trans (Heap.get?_push_of_some _ ho))
    · exact (hs.2 x hxs).trans (Heap.get?_update_self _ hx₁ rfl)
theorem own_alloc (O : OwnX prog K mg C f B newId initId bmB fI D) {Q : Value → Shared → Prop} (X : K.In h) (hns : h.Ns L m) (hself : m "self" = some (.ref e)) (hx : m D.x = some u) (hg : h.Ns mainGlobals mg) (hb : h.Ns builtinsNs mb) (hmb : mb "super" = some (.type "super"))
    (he : h.get? e = some (PySem.HandSPX.excO C t1))
    (hq : ∀ h' t' t2, (∀ b o, b ≠ e → h.get? b = some o → h'.get? b = some o) → h'.get? e = some (PySem.HandSPX.excO C t2) → Q .none ⟨h', g, d, t', os⟩) :
    _root_.PySem.wpAt (model prog w) A (.func (D.body f) (ksEnv D.qual D.scope L fI (.ref D.cda) D.cc)) (eval (.Call (.Attribute (.Call (.Name "super" D.p0) [] [] D.p1) "__init__" D.p2) [.Constant (.str D.txt) D.kk D.p3, .Name D.x D.p4] [] D.p5) (ksEnv D.qual D.scope L fI (.ref D.cda) D.cc)) Q E ⟨h, g, d, t, os⟩ := by
  obtain ⟨ar, ha1, ha2⟩ := O.head
  obtain ⟨oc, od, osl, hf⟩ := O.fn
  obtain ⟨cl, cdd, vs, ccs, file, tf, hcode, hvs, hfile⟩ := O.file
  obtain ⟨cl2, cld, csl, hcell⟩ := O.cellC
  have I : InstAt h e (PySem.HandSPX.excO C t1) C none := ⟨he, rfl, rfl, trivial⟩
  obtain ⟨nm, N', qn, bs, bm, hdct, sn, sub, ab, col, dd, k0, k1, k2, k3, k5, hC, hT⟩ := excInit_of X O.new
  have hform : methodCallForm 2 (backTo D.p5 (starEach [.Constant (.str D.txt) D.kk D.p3, .Name D.x D.p4] (ksEnv D.qual D.scope L fI (.ref D.cda) D.cc))) (backToKw D.p5 (keywordEach [] (ksEnv D.qual D.scope L fI (.ref D.cda) D.cc))) = true := rfl
  have hpos : methodCallPos true (.Call (.Name "super" D.p0) [] [] D.p1) (ksEnv D.qual D.scope L fI (.ref D.cda) D.cc) D.p2 D.p5 = pure D.p5 := by unfold methodCallPos; simp [O.line]
  refine ks_wpAt_MethodCall (pl := do return (← importBound (.Call (.Name "super" D.p0) [] [] D.p1) (ksEnv D.qual D.scope L fI (.ref D.cda) D.cc)).getD true) ?_ (by
    show (do
      let ov ← attributeBase (.Call (.Name "super" D.p0) [] [] D.p1) "__init__" (ksEnv D.qual D.scope L fI (.ref D.cda) D.cc) (eval (.Call (.Name "super" D.p0) [] [] D.p1) (ksEnv D.qual D.scope L fI (.ref D.cda) D.cc))
      standAt D.p2.atName
      methodCall (.Call (.Name "super" D.p0) [] [] D.p1) "__init__" D.p2 D.p5 (ksEnv D.qual D.scope L fI (.ref D.cda) D.cc) ov 2 (backTo D.p5 (starEach [.Constant (.str D.txt) D.kk D.p3, .Name D.x D.p4] (ksEnv D.qual D.scope L fI (.ref D.cda) D.cc))) (backToKw D.p5 (keywordEach [] (ksEnv D.qual D.scope L fI (.ref D.cda) D.cc)))) = _
    unfold methodCall
    simp only [hform, hpos]
    simp only [calleeOf, if_true, pure_bind]
    rfl)
  refine ks_wpAt_super_base (env := ksEnv D.qual D.scope L fI (.ref D.cda) D.cc) O.sup O.free (by decide) rfl (X _ _ hf) rfl ha1 rfl (X _ _ hcode) rfl hvs hfile O.main ?_
  refine ks_loadName_global O.kind O.sup (loadGlobal_builtin (env := ksEnv D.qual D.scope L fI (.ref D.cda) D.cc) hg O.mg hb hmb ⟨rfl, ?_⟩)
  refine wpAny_loadName_free O.kind O.free rfl ⟨_, X _ _ hcell, rfl⟩ ?_
  rw [ha2]
  refine wpAny_loadName_local O.kind O.self hns hself ?_
  refine ks_wpAny_isType_cls hC rfl ⟨rfl, ?_⟩
  refine ks_wpAny_call_super hC rfl he rfl (fun c z => by cases z) (looks_mroIn X O.mro) (fun h2 e2 k2 => ?_)
  have X2 : K.In h2 := fun b o z => k2 _ _ (X _ _ z)
  have I2 : InstAt h2 e (PySem.HandSPX.excO C t1) C none := ⟨k2 _ _ he, rfl, rfl, trivial⟩
  have hal := O.along
  cases hc : clsIn K C with
  | none => unfold ks_superIn at hal; rw [hc] at hal; cases hal
  | some cd =>
  unfold ks_superIn at hal
  rw [hc] at hal
  refine kxs_getMethod O.kx e2 (looks_opaque X2 O.any) (l₀ := cd.mro) ?_ rfl X2 hal (I2.type.andThen (looks_subIn X2 O.sub)) (ks_ne X I hc) (by decide) ?_
  · exact fun A Q E s k q => wpAny_bind ((looks_clsIn X2 hc) A _ E s k (wpAny_pure q))
  have k3 : ∀ b o, h2.get? b = some o → (h2.push (kxs_mw initId e)).get? b = some o := fun b o z => Heap.get?_push_of_some _ z
  refine kxs_callWith (i := initId) (x := e) rfl (evalArgs_plain ?_)
  refine spliced_cons (Constant_str (k := D.kk) (pos := D.p3) ?_)
  refine spliced_cons (wpAny_Name (pos := D.p4) (wpAny_loadName_local O.kind O.loc (hns.keeps (fun b o z => k3 _ _ (k2 b o z))) hx ?_) O.xd)
  refine spliced_nil ⟨Heap.get?_push_at rfl rfl, ?_⟩
  refine own_mw O (fun b o z => k3 _ _ (X2 _ _ z)) (Heap.get?_push_at rfl rfl) (k3 _ _ (k2 _ _ he)) (by rw [sizeLine_eq]; exact Nat.le_of_ble_eq_true rfl) (fun h4 t2 k4 e4 => ?_)
  exact hq h4 _ t2 (fun b o hb z => k4 _ _ hb (k3 _ _ (k2 _ _ z))) e4
/-- the whole __init__ -/
theorem own_init (O : OwnX prog K mg C f B newId initId bmB fI D) {R : Result → Shared → Prop} (hroom : A.depth < recursionLimit) (hnl : h.NoLimit) (X : K.In h) (hg : h.Ns mainGlobals mg) (hb : h.Ns builtinsNs mb) (hmb : mb "super" = some (.type "super"))
    (he : h.get? e = some (PySem.HandSPX.excO C t1)) (hKe : K.lookup e = none)
    (hR : ∀ h' t' t2 dx, (∀ b o, b ≠ e → h.get? b = some o → h'.get? b = some o) → h.get? dx = none → dx ≠ e → h'.get? e = some ({ cls := .ref C, dict := some dx, data := .fields #[.ref t2, .none, .none, .none, .bool false, .none] } : Obj) →
      h'.Ns1 dx (fun y => if y = f then some u else none) → R (.ok (.ret .none)) ⟨h', g, d, t', os⟩) :
    codeAny (model prog w) A (.call (.ref fI) ⟨[.ref e, u], []⟩) R ⟨h, g, d, t, os⟩ := by
  obtain ⟨oc, od, osl, hf⟩ := O.fn
  refine ks_codeAny_call_defAt (fd := D.fd f) (body := D.body f) (binds := [("self", .ref e), (D.x, u)]) hroom (X _ _ hf) rfl hnl (codeRec_of X O.code) rfl (O.bind _ _ _) O.cell (fun y hy => ?_) (fun h1 hns hk => ?_) O.co O.gen O.kind
  · rcases List.mem_cons.mp hy with rfl | hy
    · exact O.self
    · rcases List.mem_cons.mp hy with rfl | hy
      · exact O.loc
      · cases hy
  have m1 : (fun y => ([("self", .ref e), (D.x, u)] : List (Str × Value)).reverse.lookup y) ("self" : Str) = some (.ref e) := by
    show ([(D.x, u), ("self", .ref e)] : List (Str × Value)).lookup ("self" : Str) = _
    rw [List.lookup_cons, show (("self" : Str) == D.x) = false from beq_eq_false_iff_ne.mpr (Ne.symm O.xs)]
    rfl
  have m2 : (fun y => ([("self", .ref e), (D.x, u)] : List (Str × Value)).reverse.lookup y) D.x = some u := by
    show ([(D.x, u), ("self", .ref e)] : List (Str × Value)).lookup D.x = _
    rw [List.lookup_cons, beq_self_eq_true]
  have hint : PySem.interactive (callEnv (D.fd f) h.objs.size fI) = false := by
    show (D.scope.kind == .module && _) = false
    rw [O.kind]
    rfl
  refine ks_wpAt_execs_cons (ks_wpAt_Expr_any ?_ hint rfl)
  refine own_alloc O (fun b o z => hk _ _ (X _ _ z)) hns m1 m2 (hg.keeps hk) (hb.keeps hk) hmb (hk _ _ he) (fun h2 tk2 t2 k2 e2 => ?_)
  have Le : h.objs.size ≠ e := Nat.ne_of_gt (Heap.lt_size he)
  have X2 : K.In h2 := fun b o z => by
    refine k2 b o (fun q => ?_) (hk _ _ (X _ _ z))
    rw [q, show K.lookup e = none from hKe] at z
    cases z
  have ns2 := hns.at (h' := h2) fun o z => k2 _ _ Le z
  refine ks_wpAt_execs_cons (ks_wpAt_Assign_Attr (wpAt_of_wpAny (wpAny_Name (pos := D.p9) (wpAny_loadName_local O.kind O.loc ns2 m2 ?_) O.xd)) rfl)
  refine wpAny_Name (pos := D.p7) (wpAny_loadName_local O.kind O.self ns2 m1 ?_) (by decide)
  refine own_store O X2 e2 (fun h3 tk3 dx k3 dn dne e3 hn3 => ?_)
  refine wpAt_of_wpAny (wpAny_execs_nil ?_)
  refine hR h3 _ t2 dx (fun b o hb z => k3 _ _ hb (k2 _ _ hb (hk _ _ z))) ?_ dne e3 hn3
  cases z : h.get? dx with
  | none => rfl
  | some o => exact absurd (Heap.lt_size (k2 _ _ dne (hk _ _ z))) (Nat.not_lt.mpr dn)
end
theorem obj_there {P : Program} {w : World} {H : Hp} {h : Heap} {a : Addr} {o : HO} (x : ObjOk P w H h a o) : ∃ ob, h.get? a = some ob := by
  cases o with
  | lst xs => obtain ⟨_, _, _, _, e⟩ := x; exact ⟨_, e⟩
  | tup xs => obtain ⟨_, _, _, ob, e, _⟩ := x; exact ⟨_, e⟩
  | dK kvs => obtain ⟨_, _, _, _, o, _, _, e, _⟩ := x; exact ⟨_, e⟩
  | dT kvs => obtain ⟨_, _, _, _, o, _, _, e, _⟩ := x; exact ⟨_, e⟩
  | set S n => obtain ⟨o, _, _, _, e, _⟩ := x; exact ⟨_, e⟩
  | ins C dx fs => obtain ⟨_, _, _, e, _⟩ := x; exact ⟨_, e⟩
  | own y => obtain ⟨_, e⟩ := x; exact ⟨_, e⟩
  | xd fs => obtain ⟨_, ⟨_, _, _, e, _⟩, _⟩ := x; exact ⟨_, e⟩
  | rng lo hi => obtain ⟨_, _, _, e⟩ := x; exact ⟨_, e⟩
  | frz ob u => obtain ⟨e, _⟩ := x; exact ⟨_, e⟩
  | tbl ps => exact ⟨_, (show h.get? a = some _ from x)⟩
  | met f y => exact ⟨_, (show h.get? a = some _ from x)⟩
  | ext φ => obtain ⟨_, ⟨_, e⟩, _⟩ := x; exact ⟨_, e⟩
/-- what the call leaves: the exception with its dict, tracked -/
theorem own_end {X : L2.Cx} {pins : List (Addr × Obj)} {σ : L2.St} {H1 : Hp} {Q : XK} {hp h2 : Heap} {g : Array GenState} {d1 d2 : Drawn} {tk1 tk2 : Nat} {os : OsState} {a C d t2 : Addr} {f : Str} {v : L2.V} {u : Value} (T : Raises X (.ref C)) (I1 : Inv X pins σ H1 ⟨hp, g, d1, tk1, os⟩)
    (ha : hp.objs.size ≤ a) (k : ∀ b o, hp.get? b = some o → h2.get? b = some o) (hd : hp.get? d = none) (da : d ≠ a) (e2 : h2.get? a = some ({ cls := .ref C, dict := some d, data := .fields #[.ref t2, .none, .none, .none, .bool false, .none] } : Obj))
    (n2 : h2.Ns1 d (fun y => if y = f then some u else none)) (rv : RelV v u) (q : ∀ d, H1 d = none → Q (.ref C) (some d) (upd H1 d (.xd [(f, v)]))) : MkP X pins σ Q (.ref a) ⟨h2, g, d2, tk2, os⟩ := by
  have na : H1 a = none := I1.hok.fresh ha
  have nd : H1 d = none := by
    cases z : H1 d with
    | none => rfl
    | some o =>
      obtain ⟨o', ho'⟩ := obj_there (I1.hok d o z)
      rw [hd] at ho'
      cases ho'
  have eH : upd (del (upd (upd H1 d (exd d [(f, v)])) a (exo a C (some d))) a) d (.xd [(f, v)]) = upd H1 d (.xd [(f, v)]) := by
    funext b
    by_cases hb : b = d
    · subst hb; rw [upd_same, upd_same]
    · rw [upd_ne hb, upd_ne hb]
      by_cases hba : b = a
      · subst hba; rw [del_same, na]
      · rw [del_ne hba, upd_ne hba, upd_ne hb]
  have lt : ∀ {b : Addr} {o : Obj}, hp.get? b = some o → b ≠ a := fun {b o} z => Nat.ne_of_lt (Nat.lt_of_lt_of_le (Heap.lt_size z) ha)
  have hne : ∀ {b : Addr} {o : HO}, H1 b = some o → b ≠ a ∧ b ≠ d := fun {b o} z => ⟨fun y => (by rw [y, na] at z; cases z), fun y => (by rw [y, nd] at z; cases z)⟩
  have kk : ∀ {b : Addr} {o : HO}, H1 b = some o → upd (upd H1 d (exd d [(f, v)])) a (exo a C (some d)) b = some o := fun {b o} z => by
    rw [upd_ne (hne z).1, upd_ne (hne z).2]; exact z
  refine mk_end (H2 := upd (upd H1 d (exd d [(f, v)])) a (exo a C (some d))) (hp2 := hp) (g2 := g) (os2 := os) T I1 ha (fun b o z => z) ?_ ?_ rfl I1.bare upd_same ((upd_ne da).trans upd_same) nd (eH ▸ q d nd)
  · exact {
      keep := fun b o z n _ _ => k b o z
      slot := fun b o z n _ _ => ⟨o.slots, k b o z⟩
      free := fun b o z n _ => by
        have hba := lt z
        rw [upd_ne hba] at n
        rw [upd_ne hba, upd_ne (fun y => by rw [y, hd] at z; cases z)]
        exact n
      there := fun b o z _ => ⟨o, k b o z⟩
      tups := fun b xs z => by
        by_cases hba : b = a
        · rw [hba, upd_same] at z; exact absurd (Option.some.inj z) exo_tup
        · rw [upd_ne hba] at z; exact kk z
      frzs := fun b o u z => by
        by_cases hba : b = a
        · rw [hba, upd_same] at z; exact absurd (Option.some.inj z) exo_frz
        · rw [upd_ne hba] at z; exact kk z
      tbls := fun b ps z => by
        by_cases hba : b = a
        · rw [hba, upd_same] at z; exact absurd (Option.some.inj z) exo_tbl
        · rw [upd_ne hba] at z; exact ⟨#[], by rw [kk z]; simp⟩ }
  · intro b o z
    by_cases hba : b = a
    · subst hba
      rw [upd_same] at z
      cases z
      exact exo_ok e2
    · rw [upd_ne hba] at z
      by_cases hbd : b = d
      · subst hbd
        rw [upd_same] at z
        cases z
        exact exd_ok n2 (relO_put (fs := []) rv fun g => True.intro)
      · rw [upd_ne hbd] at z
        exact (I1.hok b o z).stay (fun c v hc y => k c v y) (fun c hc => kk hc) (fun c xs hc => kk hc)
theorem pmk_own {X : L2.Cx} {x : Str} {p pos : Pos} {C fI : Addr} {f : Str} {B newId initId : String} {bmB : List Value} {D : IniD} {e0 : Expr} {te : TE} (O : OwnX X.prog X.K X.mg C f B newId initId bmB fI D) (hr : Room 1 X.A) (hg : Gl X x) (hm : X.mg x = some (.ref C)) (he0 : PE X e0 te)
    (hdb : (x == ("__debug__" : Str)) = false) (hs : starEach [e0] X.env = [(false, eval e0 X.env)]) : PMk X (.Call (.Name x p) [e0] [] pos) (tMkX C f te) := by
  intro pins s σ H Q I h
  refine wpAny_Call_Name_kw (ld_glob I hg hm ?_ hdb)
  refine PySem.W.callWith_K (h₀ := X.base) I.ok.mod.kin O.kC (thn ((pa_cons he0 pa_nil hs).run pos pins s σ H (fun vs H1 => match vs with
    | [v] => ∀ d, H1 d = none → Q (.ref C) (some d) (upd H1 d (.xd [(f, v)]))
    | _ => False) I h) fun us s1 ⟨vs, H1, I1, r1, q1⟩ => ⟨I1.kIn, ?_⟩) hs rfl
  show wpAny _ _ (call (.ref C) us) _ _ _
  obtain ⟨nm, N', qn, bs, bm, hdct, sn, sub, ab, col, dd, k0, k1, k2, k3, k5, hC, hT⟩ := excInit_of I1.kIn O.new
  obtain ⟨u, rfl, v, rfl, rv⟩ : ∃ u, us = [u] ∧ ∃ v, vs = [v] ∧ RelV v u := by
    cases r1 with
    | nil => exact q1.elim
    | cons a b =>
      cases b with
      | nil => exact ⟨_, rfl, _, rfl, a⟩
      | cons c d => exact q1.elim
  obtain ⟨hp, g, dr, tk, os⟩ := s1
  have kk : ∀ b o, hp.get? b = some o → ((hp.push (PySem.W.kdv_tup [u])).push (PySem.HandSPX.excO C hp.objs.size)).get? b = some o := fun b o e => Heap.get?_push_of_some _ (Heap.get?_push_of_some _ e)
  have hget : ((hp.push (PySem.W.kdv_tup [u])).push (PySem.HandSPX.excO C hp.objs.size)).get? (hp.objs.size + 1) = some (PySem.HandSPX.excO C hp.objs.size) := by heap_get
  obtain ⟨mb, b1, b2⟩ := I1.mod.blt
  refine wpAny_call (PySem.HandSPX.call_own O.fb hT hC (looks_findIn I1.kIn O.ini) (fun self => bind_fn I1.kIn self O.typ) (by rw [sizeLine_eq]; exact Nat.le_of_ble_eq_true rfl) ?_)
  refine own_init O (hr.make C [u] []).depth ((I1.mod.nolimit.keeps I1.bk).keeps kk) (fun b o z => kk _ _ (I1.kIn _ _ z)) ((I1.mod.glob.keeps I1.bk).keeps kk) ((b1.keeps I1.bk).keeps kk) ((b2 _ (by decide)).trans (by first | boot_by_name | rfl | kernel_rfl)) hget ?_ (fun h' t' t2 dx k dn dne e3 n3 => ⟨rfl, ?_⟩)
  · cases z : X.K.lookup (hp.objs.size + 1) with
    | none => rfl
    | some o => exact absurd (Heap.lt_size (I1.kIn _ _ z)) (Nat.not_lt.mpr (Nat.le_succ _))
  · exact own_end (raises_own O.exC O.tyC) I1 (Nat.le_succ _) (fun b o z => k b o (Nat.ne_of_lt (Nat.lt_succ_of_lt (Heap.lt_size z))) (kk _ _ z)) (by
      cases z : hp.get? dx with
      | none => rfl
      | some o => rw [kk _ _ z] at dn; cases dn) dne e3 n3 rv q1
end MS

set_option Elab.async false
set_option linter.all false
set_option maxRecDepth 100000
set_option maxHeartbeats 4000000
/-! SZ: a lambda made, with defaults -/
namespace MS
open PySem PySem.Spec PyProof.Rows L2 PySem.Calls PySem.W
/-- a lambda's function: its defaults at dV -/
abbrev lmF (q : Str) (ps : Arguments) (e : Expr) (sc : Scope) (cl : List (Str × Addr)) (dV pm cd ct : Value) : FuncData := { kla_fn "<lambda>" q ps e sc cl pm cd ct with defaults := dV }
abbrev lmO (q : Str) (ps : Arguments) (e : Expr) (sc : Scope) (cl : List (Str × Addr)) (dV pm : Value) (c1 : Addr) (ct : Value) : PySem.Obj := { cls := .type "function", data := .func (lmF q ps e sc cl dV pm (.ref c1) ct) }
section
variable {M : Model} {A : Around} {E : Value → Shared → Prop} {s : Shared} {q : Str} {prs : Arguments} {e : Expr} {sc : Scope} {env : PySem.Env} {c P : Addr} {ps : Array Value} {pos : Pos} {ln : Nat} {mg : Str → Option Value} {cl : List (Str × Addr)} {dV : Value} {Q : Value → Shared → Prop}
/-- the table knows no code object yet -/
theorem lm_new (hcl : closureFor sc env = pure cl) (hG : env.globals = mainGlobals) (hg : s.heap.Ns mainGlobals mg) (hc : env.code = .ref c) (C : CodeHd s.heap c P) (hP : s.heap.get? P = some (tabObj ps)) (ht : TriplesOk ps.toList) (hn : codeAmong pos ps.toList = none) (hgP : mainGlobals ≠ P) (hb : s.heap.BuiltinsAt mg P)
    (h : ∀ c1 ct h1 tk, Heap.ExtBut P s.heap h1 → s.heap.objs.size ≤ c1 → c1 < h1.objs.size → h1.CodeRec (.ref c1) q → h1.get? P = some (tabObj (ps ++ #[rawInt pos.line, rawInt pos.col, .ref c1])) →
      Q (.ref h1.objs.size) { s with heap := h1.push (lmO q prs e sc cl dV ((mg "__name__").getD .none) c1 ct), toks := tk }) : wpAny M A (makeTail "<lambda>" q prs (.expr e) sc env dV .none none pos ln) Q E s := by
  obtain ⟨bm, ob, b1, b2, _, b3, b4, b5, b6, b7⟩ := hb
  unfold makeTail
  rw [hcl, hG]
  refine wpAny_bind (wpAny_pure ?_)
  cases cl with
  | nil =>
    simp only [List.isEmpty_nil, if_true]
    refine wpAny_bind (wpAny_pure (wpAny_bind (wpAny_functionCodeX hc (C.code hP ht) (C.tab hP) hn fun c1 h1 tk x1 x2 x3 _ x4 x5 _ => ?_)))
    have g1 := hg.extBut x1 hgP
    exact wpAny_bind (wpAny_builtinsFor g1 b1 b2 (x1 _ _ b3 b4) b5 b6 b7 (wpAny_bind (wpAny_nsGet g1 (wpAny_bind (wpAny_pure (wpAny_newObj_type (h c1 .none h1 tk x1 x2 x3 x4 x5.2) (by size_fits)))))))
  | cons y r =>
    simp only [List.isEmpty_cons, Bool.false_eq_true, if_false]
    have kp : ∀ (oT : PySem.Obj) b o, s.heap.get? b = some o → (s.heap.push oT).get? b = some o := fun oT b o z => Heap.get?_push_of_some _ z
    refine wpAny_bind (wpAny_newTextTuple (wpAny_bind (wpAny_functionCodeX hc ((C.keeps (kp _)).code (kp _ _ _ hP) ht) ((C.keeps (kp _)).tab (kp _ _ _ hP)) hn fun c1 h1 tk x1 x2 x3 _ x4 x5 _ => ?_)))
    have g1 := (hg.push _).extBut x1 hgP
    have y1 : Heap.ExtBut P s.heap h1 := fun b o hb z => x1 b o hb (kp _ _ _ z)
    have y2 : s.heap.objs.size ≤ c1 := Nat.le_trans (by rw [Heap.size_push]; omega) x2
    exact wpAny_bind (wpAny_builtinsFor g1 b1 b2 (y1 _ _ b3 b4) b5 b6 b7 (wpAny_bind (wpAny_nsGet g1 (wpAny_bind (wpAny_pure (wpAny_newObj_type (h c1 _ h1 tk y1 y2 x3 x4 x5.2) (by size_fits)))))))
/-- it knows it -/
theorem lm_hit {cv : Value} (hcl : closureFor sc env = pure cl) (hG : env.globals = mainGlobals) (hg : s.heap.Ns mainGlobals mg) (hc : env.code = .ref c) (C : CodeHd s.heap c P) (hP : s.heap.get? P = some (tabObj ps)) (ht : TriplesOk ps.toList) (hf : codeAmong pos ps.toList = some cv) (hb : s.heap.BuiltinsAt mg P)
    (h : ∀ (ct : Value) (h1 : Heap) (tk : Tok), (∀ b o, s.heap.get? b = some o → h1.get? b = some o) → s.heap.objs.size ≤ h1.objs.size →
      Q (.ref h1.objs.size) { s with heap := h1.push { cls := .type "function", data := .func (lmF q prs e sc cl dV ((mg "__name__").getD .none) cv ct) }, toks := tk }) : wpAny M A (makeTail "<lambda>" q prs (.expr e) sc env dV .none none pos ln) Q E s := by
  obtain ⟨bm, ob, b1, b2, _, b3, b4, b5, b6, b7⟩ := hb
  unfold makeTail
  rw [hcl, hG]
  refine wpAny_bind (wpAny_pure ?_)
  cases cl with
  | nil =>
    simp only [List.isEmpty_nil, if_true]
    refine wpAny_bind (wpAny_pure (wpAny_bind (wpAny_functionCode_hit hc (C.code hP ht) hf (wpAny_bind (wpAny_builtinsFor hg b1 b2 b4 b5 b6 b7 (wpAny_bind (wpAny_nsGet hg ?_)))))))
    exact wpAny_bind (wpAny_pure (wpAny_newObj_type (h .none s.heap s.toks (fun _ _ z => z) (Nat.le_refl _)) (by size_fits)))
  | cons y r =>
    simp only [List.isEmpty_cons, Bool.false_eq_true, if_false]
    have kp : ∀ (oT : PySem.Obj) b o, s.heap.get? b = some o → (s.heap.push oT).get? b = some o := fun oT b o z => Heap.get?_push_of_some _ z
    have hz : ∀ oT : PySem.Obj, s.heap.objs.size ≤ (s.heap.push oT).objs.size := fun oT => by rw [Heap.size_push]; omega
    refine wpAny_bind (wpAny_newTextTuple (wpAny_bind (wpAny_functionCode_hit hc ((C.keeps (kp _)).code (kp _ _ _ hP) ht) hf (wpAny_bind (wpAny_builtinsFor (hg.push _) b1 b2 (kp _ _ _ b4) b5 b6 b7 (wpAny_bind (wpAny_nsGet (hg.push _) ?_)))))))
    exact wpAny_bind (wpAny_pure (wpAny_newObj_type (h _ _ s.toks (kp _) (hz _)) (by size_fits)))
/-- defaults: whole numbers -/
def intsOf : List Expr → Option (List Int)
  | [] => some []
  | .Constant (.int i) _ _ :: r => (intsOf r).map (i :: ·)
  | _ :: _ => none
theorem ints_all : ∀ (l : List Expr) (ds : List Int), intsOf l = some ds → ∀ (s : Shared) (Q : List Value → Shared → Prop), (∀ us tk, Vals (ds.map L2.V.int) us → Q us { s with toks := tk }) → wpAny M A (evalAll (evalEach l env)) Q E s
  | [], ds, z, s, Q, h => by
    cases z
    exact wpAny_pure (h [] s.toks .nil)
  | .Constant (.int i) k p :: r, ds, z, s, Q, h => by
    simp only [intsOf, Option.map_eq_some_iff] at z
    obtain ⟨dr, e1, rfl⟩ := z
    show wpAny M A (evalAll (eval (.Constant (.int i) k p) env :: evalEach r env)) Q E s
    refine wpAny_bind (wpAny_Constant_int (wpAny_bind (wpAny_holding (ints_all r dr e1 _ _ fun us tk rv => wpAny_pure (h _ tk ?_)))))
    exact .cons ⟨_, rfl⟩ rv
theorem lm_eval {ds : List Int} (hd : intsOf prs.defaults = some ds) (hk : prs.kw_defaults = []) (hk2 : prs.kwonlyargs = []) (h0 : ds = [] → ∀ tk, wpAny M A (makeTail "<lambda>" (env.qual ++ "<lambda>") prs (.expr e) sc env .none .none none pos pos.line) Q E { s with toks := tk })
    (h1 : ds ≠ [] → ∀ us tk, Vals (ds.map L2.V.int) us → wpAny M A (makeTail "<lambda>" (env.qual ++ "<lambda>") prs (.expr e) sc env (.ref s.heap.objs.size) .none none pos pos.line) Q E { s with heap := s.heap.push { cls := .type "tuple", data := .seq us.toArray }, toks := tk }) :
    wpAny M A (eval (.Lambda prs e sc pos) env) Q E s := by
  rw [arm_eval_Lambda]
  have hdf : defaultsOf prs env = (evalEach prs.defaults env, []) := by
    obtain ⟨a1, a2, a3, a4, a5, a6, a7⟩ := prs
    have a5' : a5 = [] := hk
    subst a5'
    rfl
  rw [hdf]
  refine wpAny_bind (ints_all prs.defaults ds hd s _ fun us tk rv => wpAny_bind (wpAny_holding (wpAny_pure ?_)))
  rw [makeFunction_eq, hk2]
  simp only [List.zip_nil_left, List.filterMap_nil, List.isEmpty_nil, if_true, pure_bind]
  cases us with
  | nil =>
    cases ds with
    | nil => exact h0 rfl tk
    | cons a b => cases rv
  | cons u ur =>
    cases ds with
    | nil => cases rv
    | cons a b => exact wpAny_bind (wpAny_newTextTuple (h1 (fun z => by cases z) _ tk rv))
end
/-- the defaults' tuple -/
def DfO (ds : List Int) (dV : Value) (h : PySem.Heap) (H : Hp) (fr : List Addr) : Prop :=
  (ds = [] ∧ dV = .none) ∨ ∃ (t : Addr) (us : List Value), dV = .ref t ∧ Vals (ds.map L2.V.int) us ∧ h.get? t = some { cls := .type "tuple", data := .seq us.toArray } ∧ H t = none ∧ t ∉ fr
section
variable {X : L2.Cx} {pins : List (Addr × PySem.Obj)} {σ : L2.St} {H : Hp} {s : Shared}
/-- a lambda is made in a context -/
theorem lm_tail {T : List (Addr × Str)} {c P : Addr} {prs : Arguments} {e : Expr} {sc : Scope} {pos : Pos} {ds : List Int} {dV : Value} {E : Value → Shared → Prop} {Q : Value → Shared → Prop} (I : Inv X pins σ H s) (TB : LamX.TabB X.base X.mg c P) (hcode : X.env.code = .ref c)
    (hm : (P, X.env.qual ++ "<lambda>") ∈ T) (hu : ∀ p ∈ T, p.1 = P → p.2 = X.env.qual ++ "<lambda>") (hT : LamX.Tabs T H) (hfree : ∀ y ∈ sc.names, y.2 = .free → ∃ c, X.env.cells.lookup y.1 = some c) (hdf : DfO ds dV s.heap H (X.env.locals :: X.fs))
    (h : ∀ (f c1 : Addr) (pm ct : Value) (H1 : Hp) (s1 : Shared), Inv X pins σ H1 s1 → LamX.ExtN H H1 → (∀ a ps, H a = some (.tbl ps) → ∃ more : Array Value, H1 a = some (.tbl (ps ++ more))) → LamX.Tabs T H1 →
      s1.heap.get? f = some (lmO (X.env.qual ++ "<lambda>") prs e sc (cloFrom X.env.cells sc.names []) dV pm c1 ct) → H1 f = none → f ∉ X.env.locals :: X.fs → H1 c1 = some (LamX.CodeO c1 (X.env.qual ++ "<lambda>")) → DfO ds dV s1.heap H1 (X.env.locals :: X.fs) → (∃ ps : Array Value, H1 P = some (.tbl ps) ∧ codeAmong pos ps.toList = some (.ref c1)) → Q (.ref f) s1) :
    wpAny (model X.prog X.w) X.A (makeTail "<lambda>" (X.env.qual ++ "<lambda>") prs (.expr e) sc X.env dV .none none pos pos.line) Q E s := by
  obtain ⟨ps, hP, ht, ha⟩ := hT _ hm
  have bP : s.heap.BuiltinsAt X.mg P := TB.bm.keeps I.bk
  have hP' : s.heap.get? P = some { cls := .none, data := .fields ps } := I.hok P _ hP
  have nofr : ∀ f, s.heap.objs.size ≤ f → f ∉ X.env.locals :: X.fs := fun f hf z => by
    rcases List.mem_cons.mp z with w | w
    · have h1 := I.lt
      rw [← w] at h1
      exact Nat.lt_irrefl _ (Nat.lt_of_lt_of_le h1 hf)
    · exact I.nofs hf w
  have dfk : ∀ (h1 : PySem.Heap) (H1 : Hp), (∀ b o, b ≠ P → s.heap.get? b = some o → h1.get? b = some o) → (∀ b o, s.heap.get? b = some o → H b = none → H1 b = none) → DfO ds dV h1 H1 (X.env.locals :: X.fs) := fun h1 H1 k n => by
    rcases hdf with z | ⟨t, us, e1, e2, e3, e4, e5⟩
    · exact .inl z
    · exact .inr ⟨t, us, e1, e2, k _ _ (fun z => by rw [z, hP] at e4; cases e4) e3, n _ _ e3 e4, e5⟩
  cases hc : codeAmong pos ps.toList with
  | none =>
    refine lm_new (mg := X.mg) (c := c) (P := P) (ps := ps) (closure_ok hfree) I.ok.glob (I.mod.glob.keeps I.bk) hcode (TB.code.keeps I.bk) hP' ht hc TB.gP bP fun c1 ct h1 tk hx hge hlt hrec htb => ?_
    obtain ⟨c2, oc, vs, t, w, hoc, hd, hv⟩ := hrec
    cases w
    have hz : s.heap.objs.size ≤ h1.objs.size := Nat.le_trans hge (Nat.le_of_lt hlt)
    have nC : H c1 = none := I.hok.fresh hge
    have up : ∀ b o, h1.get? b = some o → (h1.push (lmO (X.env.qual ++ "<lambda>") prs e sc (cloFrom X.env.cells sc.names []) dV ((X.mg "__name__").getD .none) c1 ct)).get? b = some o := fun b o z => Heap.get?_push_of_some _ z
    have I1 := LamX.inv_table (t' := tk) (more := #[rawInt pos.line, rawInt pos.col, .ref c1]) I hP (fun b o hb z => up _ _ (hx b o hb z)) (up _ _ htb) hge ⟨oc, vs, t, up _ _ hoc, hd, hv⟩
    have hE : LamX.ExtN H (upd (upd H P (.tbl (ps ++ #[rawInt pos.line, rawInt pos.col, .ref c1]))) c1 (LamX.CodeO c1 (X.env.qual ++ "<lambda>"))) := fun b o z n => by
      rw [upd_ne (ne_of_none z nC), upd_ne (fun y => n ps (Option.some.inj (z.symm.trans (by rw [y]; exact hP)))), z]
    have eL : (ps ++ #[rawInt pos.line, rawInt pos.col, .ref c1]).toList = ps.toList ++ [rawInt pos.line, rawInt pos.col, .ref c1] := by simp
    have old : ∀ b o, s.heap.get? b = some o → H b = none → upd (upd H P (.tbl (ps ++ #[rawInt pos.line, rawInt pos.col, .ref c1]))) c1 (LamX.CodeO c1 (X.env.qual ++ "<lambda>")) b = none := fun b o z n => by
      rw [upd_ne (fun y => by rw [y] at z; exact Nat.lt_irrefl _ (Nat.lt_of_lt_of_le (Heap.lt_size z) hge)), upd_ne (fun y => by rw [y, hP] at n; cases n), n]
    refine h h1.objs.size c1 ((X.mg "__name__").getD .none) ct _ _ I1 hE (fun a ps0 z => ?_) (fun p hp => ?_) (Heap.get?_push_size _ rfl) ?_ (nofr _ hz) upd_same (dfk _ _ (fun b o hb z => up _ _ (hx b o hb z)) old) ⟨_, by rw [upd_ne (ne_of_none hP nC), upd_same], by rw [eL]; exact PySem.codeAmong_snoc _ ht hc⟩
    · rw [upd_ne (ne_of_none z nC)]
      by_cases y : a = P
      · rw [y] at z ⊢
        rw [hP] at z
        cases z
        rw [upd_same]; exact ⟨_, rfl⟩
      · exact tb0 (by rw [upd_ne y, z])
    · by_cases hb : p.1 = P
      · rw [hu p hp hb, hb]
        refine ⟨_, by rw [upd_ne (ne_of_none hP nC), upd_same], by rw [eL]; exact PySem.TriplesOk_snoc _ _ _ _ ht, fun p1 cv z => ?_⟩
        rw [eL] at z
        rcases LamX.among_app _ ht z with y | y
        · obtain ⟨c0, w1, w2⟩ := ha p1 cv y
          exact ⟨c0, w1, hE _ _ w2 LamX.codeO_ne⟩
        · exact ⟨c1, y, upd_same⟩
      · obtain ⟨ps1, w1, w2, w3⟩ := hT p hp
        refine ⟨ps1, by rw [upd_ne (ne_of_none w1 nC), upd_ne hb, w1], w2, fun p1 cv z => ?_⟩
        obtain ⟨c0, y1, y2⟩ := w3 p1 cv z
        exact ⟨c0, y1, hE _ _ y2 LamX.codeO_ne⟩
    · rw [upd_ne (Nat.ne_of_gt hlt : h1.objs.size ≠ c1), upd_ne (Nat.ne_of_gt (Nat.lt_of_lt_of_le (Heap.lt_size hP') hz) : h1.objs.size ≠ P)]
      exact I.hok.fresh hz
  | some cv =>
    obtain ⟨c1, w, hco⟩ := ha pos cv hc
    subst w
    refine lm_hit (mg := X.mg) (c := c) (P := P) (ps := ps) (closure_ok hfree) I.ok.glob (I.mod.glob.keeps I.bk) hcode (TB.code.keeps I.bk) hP' ht hc bP fun ct h1 tk hx hsz => ?_
    have I1 : Inv X pins σ H { s with heap := h1.push (lmO (X.env.qual ++ "<lambda>") prs e sc (cloFrom X.env.cells sc.names []) dV ((X.mg "__name__").getD .none) c1 ct), toks := tk } := I.kept fun b o z => Heap.get?_push_of_some _ (hx b o z)
    exact h h1.objs.size c1 ((X.mg "__name__").getD .none) ct H _ I1 (LamX.ExtN.refl H) (fun a ps z => tb0 z) hT (Heap.get?_push_size _ rfl) (I.hok.fresh hsz) (nofr _ hsz) hco (dfk _ H (fun b o _ z => Heap.get?_push_of_some _ (hx b o z)) fun b o _ n => n) ⟨_, hP, hc⟩
end
end MS

set_option Elab.async false
set_option linter.all false
set_option maxRecDepth 100000
set_option maxHeartbeats 4000000
/-! TA: what is known of a lambda that was made -/
namespace MS
open PySem PySem.Spec PyProof.Rows L2 PySem.Calls PySem.W
theorem among_more {pos : Pos} {cv : Value} (m : List Value) : ∀ (l : List Value), codeAmong pos l = some cv → codeAmong pos (l ++ m) = some cv := by
  intro l h
  fun_induction codeAmong pos l with
  | case1 a _ b _ c rest e =>
    simp only [List.cons_append, codeAmong]
    rw [if_pos e]
    exact h
  | case2 a _ b _ c rest e ih =>
    simp only [List.cons_append, codeAmong]
    rw [if_neg e]
    exact ih h
  | case3 l hn => cases h
def CloAt (I : LamI) (vs : List L2.V) (s : Shared) (H : Hp) (outer : List PySem.Env) (a : Addr) : Prop :=
  ∃ (cl : List (Str × Addr)) (dV pm ct : Value) (c1 : Addr) (pos : Pos) (ps : Array Value),
    s.heap.get? a = some (lmO I.q I.prs I.body I.sc cl dV pm c1 ct) ∧ H a = none ∧ a ∉ frs outer ∧ DfO I.ds dV s.heap H (frs outer) ∧
      H I.P = some (.tbl ps) ∧ codeAmong pos ps.toList = some (.ref c1) ∧
      (∀ y z c, cl.lookup y = some c → cl.lookup z = some c → y = z) ∧ (∀ y, I.sc.names.lookup y = some .free → ∃ c, cl.lookup y = some c) ∧
      (∀ y c, cl.lookup y = some c → (∃ v, s.heap.IsCell c v) ∧ H c = none) ∧
      (∀ (i : Nat) (y : Str) (v : L2.V), I.caps[i]? = some y → vs[i]? = some v → ∃ c u, cl.lookup y = some c ∧ s.heap.IsCell c (some u) ∧ RelV v u) ∧ vs.length = I.caps.length
theorem cloAt_un {I : LamI} {vs : List L2.V} {s s1 : Shared} {H H1 : Hp} {o o1 : List PySem.Env} {a : Addr} (u : Un (frs o) [] H H1 s.heap s1.heap) (hf : ∀ b ob, s.heap.get? b = some ob → b ∉ frs o → b ∉ frs o1) (h : CloAt I vs s H o a) : CloAt I vs s1 H1 o1 a := by
  obtain ⟨cl, dV, pm, ct, c1, pos, ps, e1, e2, e3, e4, e5, e6, e7, e8, e9, e10, e11⟩ := h
  have nx : ∀ b : Addr, b ∉ ([] : List Addr) := fun b z => nomatch z
  have cell : ∀ {c : Addr} {v : Option Value}, H c = none → s.heap.IsCell c v → s1.heap.IsCell c v := fun {c v} n ⟨ob, ho, hd⟩ => by
    obtain ⟨sl, q⟩ := u.any ho n (nx _)
    exact ⟨_, q, hd⟩
  obtain ⟨more, e5'⟩ := u.tbls _ _ e5
  refine ⟨cl, dV, pm, ct, c1, pos, ps ++ more, u.keep _ _ e1 e2 e3 (nx _), u.free _ _ e1 e2 (nx _), hf _ _ e1 e3, ?_, e5', by rw [Array.toList_append]; exact among_more _ _ e6, e7, e8, fun y c z => ?_, fun i y v z1 z2 => ?_, e11⟩
  · rcases e4 with z | ⟨t, us, z1, z2, z3, z4, z5⟩
    · exact .inl z
    · exact .inr ⟨t, us, z1, z2, u.keep _ _ z3 z4 z5 (nx _), u.free _ _ z3 z4 (nx _), hf _ _ z3 z5⟩
  · obtain ⟨⟨v, w⟩, n⟩ := e9 y c z
    exact ⟨⟨v, cell n w⟩, by obtain ⟨ob, ho, _⟩ := w; exact u.free _ _ ho n (nx _)⟩
  · obtain ⟨c, w, y1, y2, y3⟩ := e10 i y v z1 z2
    exact ⟨c, w, y1, cell (e9 y c y1).2 y2, y3⟩
theorem cloSt_of {L : Lk} {lams : String → LamI → Prop} (h : ∀ k vs s H o a, L.clo k vs s H o a ↔ ∃ I, lams k I ∧ CloAt I vs s H o a) : CloSt L := by
  intro X pins σ H s k vs a hex hst J hc
  obtain ⟨I, e1, e2⟩ := (h _ _ _ _ _ _).mp hc
  have u : Un (frs X.outer) [] X.H_0 H X.s_0.heap s.heap := hex ▸ J.base
  refine (h _ _ _ _ _ _).mpr ⟨I, e1, cloAt_un u (fun b ob z n => ?_) e2⟩
  intro hb
  rcases List.mem_cons.mp (J.stkSub _ hb) with w | w
  · exact Nat.lt_irrefl _ (Nat.lt_of_lt_of_le (w ▸ Heap.lt_size z) J.ok.above)
  · exact n w
end MS

set_option Elab.async false
set_option linter.all false
set_option maxRecDepth 100000
set_option maxHeartbeats 4000000
/-! TB: a lambda's body entered -/
namespace MS
open PySem PySem.Spec PyProof.Rows L2 PySem.Calls PySem.W
structure LamOk (I : LamI) : Prop where
  kind : I.sc.kind = .function
  co : I.sc.isCoroutine = false
  gen : I.sc.isGenerator = false
  own : ∀ y ∈ I.sc.names, y.2 ≠ .cell
  par : ∀ p ∈ I.ps, I.sc.names.lookup p = some .local
  cap : ∀ p ∈ I.caps, I.sc.names.lookup p = some .free
  pre : I.N.take (I.ps.length + I.caps.length) = I.ps ++ I.caps
  nd : I.N.Nodup
theorem zip_rev_get {p : Str} {u : Value} : ∀ {ps : List Str} {us : List Value} {i : Nat}, ps.Nodup → ps[i]? = some p → us[i]? = some u → (ps.zip us).reverse.lookup p = some u
  | [], _, _, _, h, _ => by cases h
  | _ :: _, [], _, _, _, h => by cases h
  | a :: r, b :: t, i, nd, h1, h2 => by
    rw [List.zip_cons_cons, List.reverse_cons, List.lookup_append]
    obtain ⟨n1, n2⟩ := List.nodup_cons.mp nd
    cases i with
    | zero =>
      obtain rfl : a = p := by simpa using h1
      obtain rfl : b = u := by simpa using h2
      have no : (r.zip t).reverse.lookup a = none := by
        cases e : (r.zip t).reverse.lookup a with
        | none => rfl
        | some v =>
          have m := PySem.mem_of_lookup e
          rw [List.mem_reverse] at m
          exact absurd (List.of_mem_zip m).1 n1
      rw [no]
      simp [List.lookup]
    | succ i =>
      rw [zip_rev_get n2 (by simpa using h1) (by simpa using h2)]
      rfl
abbrev lmEnv (I : LamI) (cl : List (Str × Addr)) (l f c1 : Addr) : PySem.Env := envX I.q I.sc l f (.ref c1) cl
def lmCx (L : Lk) (I : LamI) (A : Around) (outer : List PySem.Env) (s : Shared) (H : Hp) (E : XK) (cl : List (Str × Addr)) (f c1 : Addr) : L2.Cx where
  prog := L.prog
  w := L.w
  K := L.K
  mg := L.mg
  base := L.base
  A := A.deeper (lmEnv I cl s.heap.objs.size f c1)
  N := I.N
  s_0 := s
  H_0 := H
  env := lmEnv I cl s.heap.objs.size f c1
  outer := outer
  stack := lmEnv I cl s.heap.objs.size f c1 :: outer
  ex := []
  fn := fun _ => false
  calm := true
  pn := []
  xe := fun e s' => wpAny (model L.prog L.w) (A.deeper (lmEnv I cl s.heap.objs.size f c1)) (leaving (lmEnv I cl s.heap.objs.size f c1) e) (fun _ s2 => L2.CX L.prog L.w outer H s E e s2) (fun e1 s2 => L2.CX L.prog L.w outer H s E e1 s2) s'
section
variable {L : Lk} {I : LamI}
theorem lm_start {A : Around} {outer : List PySem.Env} {s : Shared} {H : Hp} {E : XK} {cl : List (Str × Addr)} {f c1 : Addr} {us : List Value} {vs cs : List L2.V} {h1 : PySem.Heap} {tk : Nat} (S : LamOk I) (hd : A.handled = none) (e0 : Env0 L.prog L.w L.K L.mg L.base A outer s H)
    (e7 : ∀ y z c, cl.lookup y = some c → cl.lookup z = some c → y = z) (e8 : ∀ y, I.sc.names.lookup y = some .free → ∃ c, cl.lookup y = some c) (e9 : ∀ y c, cl.lookup y = some c → (∃ v, s.heap.IsCell c v) ∧ H c = none)
    (e10 : ∀ (i : Nat) (y : Str) (v : L2.V), I.caps[i]? = some y → cs[i]? = some v → ∃ c u, cl.lookup y = some c ∧ s.heap.IsCell c (some u) ∧ RelV v u) (e11 : cs.length = I.caps.length)
    (hl : vs.length = I.ps.length) (r : Vals vs us) (hns : h1.Ns s.heap.objs.size fun y => (I.ps.zip us).reverse.lookup y) (kp : ∀ b o, s.heap.get? b = some o → h1.get? b = some o) :
    Inv (lmCx L I A outer s H E cl f c1) [] (L2.start I.N (vs ++ cs)) H { s with heap := h1, toks := tk } := by
  have noA : ∀ b : Addr, b ∉ (lmCx L I A outer s H E cl f c1).ex := fun b z => absurd (show b ∈ ([] : List Addr) from z) (by simp)
  have cellK : ∀ {c : Addr} {v : Option Value}, s.heap.IsCell c v → h1.IsCell c v := fun {c v} ⟨o, ho, hd⟩ => ⟨o, kp _ _ ho, hd⟩
  have hN : I.ps.length + I.caps.length ≤ I.N.length := by
    have := congrArg List.length S.pre
    rw [List.length_take, List.length_append] at this
    omega
  refine ⟨⟨e0.mod, S.kind, rfl, rfl, Nat.le_refl _, fun y z c a b => e7 y z c a b, fun y hy => ?_, fun y c z _ => absurd (show false = true from z) Bool.false_ne_true, fun _ => hd, Around.frames_deeper e0.frames, .inr ⟨rfl, rfl⟩, fun b z => absurd z (noA b), e0.bs, e0.bsz, fun b _ _ => noA b,
      fun b z => absurd z (noA b), e0.funs, e0.frf⟩,
    rfl, e0.bare, Un.kept kp, ⟨_, hns, fun i y v a b e3 => ?_⟩, fun y c e => ?_, e0.hok.fresh (Nat.le_refl _), fun y c e => (e9 y c e).2, fun q hq => absurd (show q ∈ ([] : List (Addr × PySem.Obj)) ++ [] from hq) (by simp), e0.hok.kept kp, ?_⟩
  · have hy : I.sc.names.lookup y = some .cell ∨ I.sc.names.lookup y = some .free := hy
    rcases hy with hy | hy
    · exact absurd rfl (S.own _ (PySem.mem_of_lookup hy))
    · exact e8 y hy
  · have hlt : i < (vs ++ cs).length := by
      unfold L2.start at b
      by_cases hi : i < (vs ++ cs).length
      · exact hi
      · rw [List.getElem?_append_right (by simpa using hi), List.getElem?_replicate] at b
        split at b <;> cases b
    have hv : (vs ++ cs)[i]? = some v := by
      unfold L2.start at b
      rw [List.getElem?_append_left (by simpa using hlt), List.getElem?_map] at b
      cases e : (vs ++ cs)[i]? with
      | none => rw [e] at b; cases b
      | some w => rw [e] at b; cases b; rfl
    have hlen : i < I.ps.length + I.caps.length := by
      rw [List.length_append, hl, e11] at hlt
      exact hlt
    have hy : (I.ps ++ I.caps)[i]? = some y := by
      rw [← S.pre, List.getElem?_take_of_lt hlen]
      exact a
    by_cases hi : i < I.ps.length
    · rw [List.getElem?_append_left hi] at hy
      rw [List.getElem?_append_left (by omega)] at hv
      obtain ⟨u, hu, rv⟩ := r.get hv
      have nd : I.ps.Nodup := by
        have z : (I.ps ++ I.caps).Nodup := by rw [← S.pre]; exact S.nd.sublist (List.take_sublist _ _)
        exact (List.nodup_append.mp z).1
      exact ⟨u, rv, .inl ⟨S.par y (List.mem_of_getElem? hy), zip_rev_get nd hy hu⟩⟩
    · rw [List.getElem?_append_right (Nat.le_of_not_lt hi)] at hy
      rw [List.getElem?_append_right (by omega), hl] at hv
      obtain ⟨c, u, w1, w2, w3⟩ := e10 _ y v hy hv
      exact ⟨u, w3, .inr ⟨.inr (S.cap y (List.mem_of_getElem? hy)), c, w1, cellK w2⟩⟩
  · obtain ⟨v, z⟩ := (e9 y c e).1
    exact ⟨v, cellK z⟩
  · unfold L2.start
    show _ = I.N.length
    rw [List.length_append, List.length_map, List.length_replicate, List.length_append]
    omega
/-- the lambda runs -/
theorem run_lam {A : Around} {outer : List PySem.Env} {s : Shared} {H : Hp} {E : XK} {Q : VK} {a : Addr} {us : List Value} {vs cs : List L2.V} {kk : Nat} {tb : TE} (S : LamOk I) (hT : (I.P, I.q) ∈ L.T) (hr : Room (kk + 1) A) (e0 : Env0 L.prog L.w L.K L.mg L.base A outer s H)
    (hc : CloAt I cs s H outer a) (tab : LamX.Tabs L.T H) (hb : ∀ cl dV pm c1 ct, DfO I.ds dV s.heap H (frs outer) → ∃ ws, BindsTo s (lmF I.q I.prs I.body I.sc cl dV pm (.ref c1) ct) ⟨us, []⟩ (I.ps.zip ws) ∧ Vals vs ws) (hl : vs.length = I.ps.length)
    (hbody : ∀ cl c1, Room kk (A.deeper (lmEnv I cl s.heap.objs.size a c1)) → PE (lmCx L I A outer s H E cl a c1) I.body tb) (ht : tb (L2.start I.N (vs ++ cs)) H Q) :
    codeAny (model L.prog L.w) A (.call (.ref a) ⟨us, []⟩) (CR (L2.CX L.prog L.w) outer L.prog L.w H s Q E) s := by
  obtain ⟨cl, dV, pm, ct, c1, pos, ps, e1, e2, e3, e4, e5, e6, e7, e8, e9, e10, e11⟩ := hc
  obtain ⟨ps', t1, _, t3⟩ := tab _ hT
  rw [e5] at t1
  cases t1
  obtain ⟨c2, w, hco⟩ := t3 pos _ e6
  cases w
  obtain ⟨⟨oc, fs, t, hoc, hdc, hvc⟩, _, _⟩ := e0.hok c1 _ hco
  have lim : s.heap.NoLimit := e0.mod.nolimit.keeps fun b o e => (e0.bs b o e).1
  obtain ⟨ws, hb, r⟩ := hb cl dV pm c1 ct e4
  refine kla_callFunE hr.depth e1 rfl S.co S.gen rfl ⟨c1, oc, fs, t, rfl, hoc, hdc, hvc⟩ (hb _ _ _ _ (wpAny_newFunctionEnv (fun y hy => S.own y hy) (fun y hy => S.par _ (List.of_mem_zip (show (y.1, y.2) ∈ _ from hy)).1) (fun h1 hns hsb => ⟨lim.fresh _ hsb, ?_⟩) S.kind))
  show codeAny _ _ (.expr I.body (lmEnv I cl s.heap.objs.size a c1)) _ _
  have kp : ∀ b o, s.heap.get? b = some o → h1.get? b = some o := fun b o z => hsb.extBut b o (Nat.ne_of_lt (Heap.lt_size z)) (Heap.get?_push_of_some _ z)
  have J := lm_start (L := L) (E := E) (f := a) (c1 := c1) (tk := s.toks + (I.ps.zip ws).length) S hr.hd e0 e7 e8 e9 e10 e11 hl r hns kp
  refine kla_codeExpr (wpAny_mono ((hbody cl c1 (hr.deeper _)).run [] _ _ H Q J ht) (fun v s1 hq => ?_) fun e s1 hq => hq)
  obtain ⟨w, H1, J1, rv, q⟩ := hq
  exact ⟨w, H1, J1.os, J1.bare, J1.base, J1.hok, rv, q⟩
end
end MS

set_option Elab.async false
set_option linter.all false
set_option maxRecDepth 100000
set_option maxHeartbeats 4000000
/-! TC: a lambda called -/
namespace MS
open PySem PySem.Spec PyProof.Rows L2 PySem.Calls PySem.W
open Mini (Val Res Ex Tg Out evalE evalEs evalI evalTs)
/-- the lambdas that C runs keep their promises -/
def ActsOk (L : Lk) (lams : String → LamI → Prop) (kk : Nat) (C : Mini.Cx) : Prop :=
  ∀ (k : String) (I : LamI), lams k I → ∀ (A : Around) (outer : List PySem.Env) (s : Shared) (H : Hp) (us : List Value) (vs cs : List L2.V) (Q : VK) (E : XK) (a : Addr), Room kk A → A.guards = some [] → Env0 L.prog L.w L.K L.mg L.base A outer s H → CloAt I cs s H outer a → Vals vs us →
    (∃ (G : Cr) (R : Mp) (h : Mini.Heap) (ms ks : List Val), CloOk L G s H outer ∧ HRL L G R h H ∧ VRsL L G H R h.length ms vs ∧ VRsL L G H R h.length ks cs ∧ SemR L G (fun cls d _ H' => E cls d H') (C.act (.clo k ks) ms h) R h H [] (vpost L G Q)) →
      codeAny (model L.prog L.w) A (.call (.ref a) ⟨us, []⟩) (CR (L2.CX L.prog L.w) outer L.prog L.w H s Q E) s
/-- what L says of lambdas -/
structure LamsOk (L : Lk) (lams : String → LamI → Prop) : Prop where
  at_ : ∀ k vs s H o a, L.clo k vs s H o a → ∃ I, lams k I ∧ CloAt I vs s H o a
def ActBad (C : Mini.Cx) : Prop := ∀ f ms h, (∀ k ks, f ≠ .clo k ks) → C.act f ms h = .bad
section
variable {L : Lk} {G : Cr} {W : WX} {C : Mini.Cx} {X : L2.Cx} {kk : Nat} {lams : String → LamI → Prop}
theorem run_act {pins : List (Addr × PySem.Obj)} {σ : L2.St} {H : Hp} {s : Shared} {Q : VK} {us : List Value} {vs : List L2.V} {f : Val} {a : Addr} (sl : SameL L X) (lo : LamsOk L lams) (hA : ActsOk L lams kk C) (hbad : ActBad C) (hr : Room kk X.A) (hgd : X.A.guards = some []) (tk : Takes X W) (J : Inv X pins σ H s)
    (clo : CloOk L G s H X.stack) (r : Vals vs us) {R : Mp} {h : Mini.Heap} {ms : List Val} (rh : HRL L G R h H) (rf : VRL L G H R h.length f (.ref a)) (rv : VRsL L G H R h.length ms vs) (y : SemR L G W (C.act f ms h) R h H σ (vpost L G Q)) :
    wpAny (model X.prog X.w) X.A (call (.ref a) us) (EP X pins σ Q) X.xe s := by
  have hf : ∃ k ks, f = .clo k ks := by
    by_cases z : ∃ k ks, f = .clo k ks
    · exact z
    · rw [hbad f ms h fun k ks e => z ⟨k, ks, e⟩] at y
      exact y.elim
  obtain ⟨k, ks, rfl⟩ := hf
  cases rf with
  | clo g rc =>
    obtain ⟨I, hI, hc⟩ := lo.at_ _ _ _ _ _ _ (clo _ _ _ g)
    have y' : SemR L G (fun cls d _ H' => W cls d σ H') (C.act (.clo k ks) ms h) R h H [] (vpost L G Q) := by
      cases e : C.act (.clo k ks) ms h with
      | ok a h' => rw [e] at y; exact y
      | exn c v h' => rw [e] at y; exact y
      | bad => rw [e] at y; exact y
    have e0 := J.env0
    rw [sl.prog, sl.w, sl.K, sl.mg, sl.base] at e0
    have run := hA k I hI X.A X.stack s H us vs _ Q (fun cls d H' => W cls d σ H') a hr hgd e0 hc r ⟨G, R, h, ms, ks, clo, rh, rv, rc, y'⟩
    rw [← sl.prog, ← sl.w] at run
    refine wpAny_call (codeAny_mono run fun r s' hq => ?_)
    cases r with
    | error e => exact tk e s' (XE.of_call J (fun cls d H' h => h) hq)
    | ok fl =>
      cases fl with
      | ret u => exact J.after hq
      | next => exact False.elim hq
      | brk => exact False.elim hq
      | cont => exact False.elim hq
/-- x(), x a name of the def's -/
theorem sound_act0 {i : Nat} {x : Str} {p pos : Pos} (sl : SameL L X) (lo : LamsOk L lams) (hA : ActsOk L lams kk C) (hbad : ActBad C) (hr : Room kk X.A) (hgd : X.A.guards = some []) (tk : Takes X W) (clo : ∀ pins σ H s, Inv X pins σ H s → CloOk L G s H X.stack)
    (hN : X.N[i]? = some x) (hv : Vis X.env.scope x) (hd : (x == ("__debug__" : Str)) = false) (hcd : (x == ("__classdict__" : Str)) = false) : PE X (.Call (.Name x p) [] [] pos) (semE L G W C (.act (.loc i) [])) := by
  refine ⟨fun pins s σ H Q J h => ?_⟩
  obtain ⟨R, h, env, rh, re, y⟩ := h
  simp only [evalE, evalEs] at y
  obtain ⟨f, e, g⟩ := SemR.opt y.bind
  have y0 := g R H Xt.refl rh
  have hc : Mini.isClo f = true := by
    cases z : Mini.isClo f with
    | true => rfl
    | false => rw [z] at y0; exact y0.elim
  rw [hc] at y0
  have y1 : SemR L G W (C.act f [] h) R h H σ (vpost L G Q) := y0
  have ei : env[i]? = some (some f) := by
    cases z : env[i]? with
    | none => rw [z] at e; cases e
    | some o => rw [z] at e; exact congrArg some e
  have hf : ∃ k ks, f = .clo k ks := by
    by_cases z : ∃ k ks, f = .clo k ks
    · exact z
    · rw [hbad f [] h fun k ks e => z ⟨k, ks, e⟩] at y1
      exact y1.elim
  obtain ⟨k, ks, ef⟩ := hf
  subst ef
  rcases re.at_ i _ ei with ⟨V, hs, rf⟩ | ⟨c0, f0, w, a, d, u, e1, e2, _⟩
  · cases rf with
    | @clo k' caps a cs gk rc =>
      refine wpAny_Call_Name_kw (thn ((pe_var (pos := p) (i := i) hN hv hd hcd).run pins s σ H (fun v H1 => v = .ref a ∧ H1 = H) J ⟨.ref a, hs, rfl, rfl⟩) fun u s1 ⟨v, H1, I1, r1, q1, q2⟩ => ?_)
      subst q1
      subst q2
      obtain rfl : u = Value.ref a := r1
      obtain ⟨I, hI, hc⟩ := lo.at_ _ _ _ _ _ _ (clo _ _ _ _ I1 _ _ _ gk)
      obtain ⟨cl, dV, pm, ct, c1, ps0, ps, of1, _⟩ := hc
      exact callWith_F0 ⟨_, _, _, _, of1⟩ (run_act (us := []) (vs := []) sl lo hA hbad hr hgd tk I1 (clo _ _ _ _ I1) .nil rh (.clo gk rc) .nil y1)
  · cases e1
/-- x(e, ..) -/
theorem sound_act {i : Nat} {x : Str} {E1 : Expr} {Es : List Expr} {es : List Ex} {p pos : Pos} (sl : SameL L X) (lo : LamsOk L lams) (hA : ActsOk L lams kk C) (hbad : ActBad C) (hr : Room kk X.A) (hgd : X.A.guards = some []) (tk : Takes X W) (clo : ∀ pins σ H s, Inv X pins σ H s → CloOk L G s H X.stack)
    (hN : X.N[i]? = some x) (hv : Vis X.env.scope x) (hd : (x == ("__debug__" : Str)) = false) (hcd : (x == ("__classdict__" : Str)) = false) (ha : PA X (E1 :: Es) (semA L G W C es)) (he : starEach (E1 :: Es) X.env = (false, eval E1 X.env) :: starEach Es X.env) (hpl : (backTo pos (starEach Es X.env)).any (·.1) = false) :
    PE X (.Call (.Name x p) (E1 :: Es) [] pos) (semE L G W C (.act (.loc i) es)) := by
  refine ⟨fun pins s σ H Q J h => ?_⟩
  obtain ⟨R, h, env, rh, re, y⟩ := h
  simp only [evalE] at y
  obtain ⟨f, e, g⟩ := SemR.opt y.bind
  have y0 := g R H Xt.refl rh
  have hc : Mini.isClo f = true := by
    cases z : Mini.isClo f with
    | true => rfl
    | false => rw [z] at y0; exact y0.elim
  rw [hc] at y0
  have ei : env[i]? = some (some f) := by
    cases z : env[i]? with
    | none => rw [z] at e; cases e
    | some o => rw [z] at e; exact congrArg some e
  have hf : ∃ k ks, f = .clo k ks := by
    cases f <;> first | exact ⟨_, _, rfl⟩ | cases hc
  obtain ⟨k, ks, ef⟩ := hf
  subst ef
  rcases re.at_ i _ ei with ⟨V, hs, rf⟩ | ⟨c0, f0, w, a, d, u, e1, e2, _⟩
  · cases rf with
    | @clo k' caps a cs gk rc =>
      refine wpAny_Call_Name_kw (thn ((pe_var (pos := p) (i := i) hN hv hd hcd).run pins s σ H (fun v H1 => v = .ref a ∧ H1 = H) J ⟨.ref a, hs, rfl, rfl⟩) fun u s1 ⟨v, H1, I1, r1, q1, q2⟩ => ?_)
      subst q1
      subst q2
      obtain rfl : u = Value.ref a := r1
      have fnAt : ∀ {pins : List (Addr × PySem.Obj)} {σ : L2.St} {H : Hp} {s : Shared}, Inv X pins σ H s → FnAt a s.heap := fun I => by
        obtain ⟨I0, hI, hc⟩ := lo.at_ _ _ _ _ _ _ (clo _ _ _ _ I _ _ _ gk)
        obtain ⟨cl, dV, pm, ct, c1, ps0, ps, of1, _⟩ := hc
        exact ⟨_, _, _, _, of1⟩
      have y1 : SemR L G W (((Mini.evalEs C es env).bind fun vs => C.act (.clo k ks) vs) h) R h H1 σ (vpost L G Q) := y0
      refine callWith_F (fnAt I1) (thn (ha.run pos pins s1 σ H1 _ I1 ⟨R, h, env, rh, re, y1.bind.imp fun R1 h1 H2 vs t1 r2 y2 => fun Vs rvs => (⟨R1, h1, vs, r2, rvs, t1, y2⟩ : ∃ R1 h1 ms, HRL L G R1 h1 H2 ∧ VRsL L G H2 R1 h1.length ms Vs ∧ Xt R h H1 R1 h1 H2 ∧ SemR L G W (C.act (.clo k ks) ms h1) R1 h1 H2 σ (vpost L G Q))⟩) fun us s2 ⟨Vs, H2, I2, r, R1, h1, ms, r2, rvs, t1, q⟩ => ⟨fnAt I2, ?_⟩) he hpl
      exact run_act sl lo hA hbad hr hgd tk I2 (clo _ _ _ _ I2) r r2 (.clo gk (VRs.mono (t1.mo rh) _ _ rc)) rvs q
  · cases e1
end
/-- how a lambda's parameters are bound: what is given, then the defaults of the last ones -/
def BindOk (I : LamI) : Prop := ∀ (s : Shared) (us : List Value) (cl : List (Str × Addr)) (dV pm ct : Value) (c1 : Addr) (H : Hp) (fr : List Addr), DfO I.ds dV s.heap H fr → us.length ≤ I.ps.length → I.ps.length ≤ us.length + I.ds.length →
  ∃ dw, Vals ((I.ds.drop (us.length + I.ds.length - I.ps.length)).map L2.V.int) dw ∧ BindsTo s (lmF I.q I.prs I.body I.sc cl dV pm (.ref c1) ct) ⟨us, []⟩ (I.ps.zip (us ++ dw))
section
variable {L : Lk} {lams : String → LamI → Prop}
theorem ints_vr {G : Cr} {H : Hp} {R : Mp} {n : Nat} : ∀ (ds : List Int), VRsL L G H R n (ds.map Val.int) (ds.map L2.V.int)
  | [] => .nil
  | _ :: r => .cons (.int _) (ints_vr r)
theorem acts_step {P : Mini.Prog} {Wn d kk : Nat} (hl : ∀ k I, lams k I → ∃ F, P.lams.lookup k = some F ∧ LamOk I ∧ BindOk I ∧ (I.P, I.q) ∈ L.T ∧ I.ps.length = F.params ∧ I.caps.length = F.caps ∧ I.N.length = F.slots ∧ F.dflt = I.ds.map Val.int ∧
      ∀ (G : Cr) (A : Around) (outer : List PySem.Env) (s : Shared) (H : Hp) (E : XK) (cl : List (Str × Addr)) (a c1 : Addr), Room kk (A.deeper (lmEnv I cl s.heap.objs.size a c1)) → A.guards = some [] → (∀ k a vs, ¬ G.clo k a vs) → (∀ i, G.exs i = none) → Env0 L.prog L.w L.K L.mg L.base A outer s H →
        PE (lmCx L I A outer s H E cl a c1) I.body (semE L G (fun cls d _ H' => E cls d H') (Mini.cxAt P Wn d) F.body)) : ActsOk L lams (kk + 1) (Mini.cxAt P Wn (d + 1)) := by
  intro k I hI A outer s H us vs cs Q E a hr hgd e0 hc r h
  obtain ⟨F, hF, S, hB, hT, hp, hcp, hN, hd, body⟩ := hl k I hI
  obtain ⟨G, R, h, ms, ks, clo, rh, rv, rk, y⟩ := h
  have ec : (Mini.cxAt P Wn (d + 1)).act (.clo k ks) ms h = Mini.runLam (Mini.cxAt P Wn d) F ks ms h := by
    show (match P.lams.lookup k with | some F => Mini.runLam (Mini.cxAt P Wn d) F ks ms h | none => .bad) = _
    rw [hF]
  rw [ec] at y
  unfold Mini.runLam at y
  split at y
  · rename_i hcond
    simp only [Bool.and_eq_true, decide_eq_true_eq, beq_iff_eq] at hcond
    obtain ⟨⟨⟨⟨s1, s2⟩, h1⟩, h2⟩, h3⟩ := hcond
    have lm : ms.length = us.length := by rw [rv.length, Paired.length r]
    rw [hd, List.length_map] at h2
    have hlen : (vs ++ (I.ds.drop (us.length + I.ds.length - I.ps.length)).map L2.V.int).length = I.ps.length := by
      rw [List.length_append, List.length_map, List.length_drop, ← rv.length]
      omega
    refine run_lam (kk := kk) (vs := vs ++ (I.ds.drop (us.length + I.ds.length - I.ps.length)).map L2.V.int) S hT hr e0 hc rh.tab (fun cl dV pm c1 ct hdf => ?_) hlen (fun cl c1 hr' => body ⟨noClo, fun _ => none⟩ A outer s H E cl a c1 hr' hgd (fun _ _ _ z => z) (fun _ => rfl) e0) ?_
    · obtain ⟨dw, w1, w2⟩ := hB s us cl dV pm ct c1 H (frs outer) hdf (by omega) (by omega)
      exact ⟨us ++ dw, w2, r.append w1⟩
    · replace rv : VRsL L ⟨noClo, fun _ => none⟩ H R h.length ms vs := VRs.stil _ _ rv s1
      replace rk : VRsL L ⟨noClo, fun _ => none⟩ H R h.length ks cs := VRs.stil _ _ rk s2
      have rd : VRsL L ⟨noClo, fun _ => none⟩ H R h.length (F.dflt.drop (ms.length + F.dflt.length - F.params)) ((I.ds.drop (us.length + I.ds.length - I.ps.length)).map L2.V.int) := by
        rw [hd, List.length_map, lm, hp, ← List.map_drop]
        exact ints_vr _
      have er := start_er (L := L) (G := ⟨noClo, fun _ => none⟩) (N := I.N) (slots := F.slots) hN ((rv.append rd).append rk)
      have el : F.slots - (ms ++ F.dflt.drop (ms.length + F.dflt.length - F.params) ++ ks).length = F.slots - F.params - F.caps := by
        simp only [List.length_append, List.length_drop, hd, List.length_map, h3]
        omega
      rw [el] at er
      refine ⟨R, h, _, rh, er, ?_⟩
      generalize evalE (Mini.cxAt P Wn d) F.body _ h = rr at y
      cases rr with
      | ok v h' => exact fun R1 H1 t1 r1 V rV => y R1 H1 t1 r1 V (VR.grow (fun _ _ _ z => z.elim) _ _ rV)
      | exn c v h' =>
        intro R1 H1 C1 d1 t1 o
        obtain ⟨f, u, w1, w2, w3⟩ := o.at_
        exact y R1 H1 C1 d1 t1 ⟨o.hr, o.cl, f, u, w1, w2, VR.grow (fun _ _ _ z => z.elim) _ _ w3⟩
      | bad => exact y
  · exact y.elim
end
end MS

set_option Elab.async false
set_option linter.all false
set_option maxRecDepth 100000
set_option maxHeartbeats 4000000
/-! TD: how lambdas' parameters are bound; lambdas as arguments -/
namespace MS
open PySem PySem.Spec PyProof.Rows L2 PySem.Calls PySem.W
open Mini (Val Res Ex Tg Out evalE evalEs evalI evalTs)
theorem bindOk0 {I : LamI} (hp : I.prs = ⟨[], [], none, [], [], none, []⟩) (hps : I.ps = []) (hds : I.ds = []) : BindOk I := by
  intro s us cl dV pm ct c1 H fr hdf h1 h2
  rw [hps] at h1
  obtain rfl : us = [] := List.eq_nil_of_length_eq_zero (Nat.le_zero.mp h1)
  refine ⟨[], by rw [hds, List.drop_nil]; exact .nil, ?_⟩
  rw [hps, hp]
  rcases hdf with ⟨_, rfl⟩ | ⟨t, ws, rfl, r, e, _⟩
  · exact BindsTo.of_eq rfl
  · rw [hds] at r
    cases r
    exact BindsTo.of_defaults (items := #[]) rfl e rfl rfl rfl
def lamNames : List Str := ["x", "y", "z", "one", "two"]
/-- `lambda x=0:` -/
theorem bindOkX {I : LamI} {n : Str} {p : Pos} {dx : List Expr} {i : Int} (hn : n ∈ lamNames) (hp : I.prs = ⟨[], [⟨n, none, p⟩], none, [], [], none, dx⟩) (hps : I.ps = [n]) (hds : I.ds = [i]) : BindOk I := by
  intro s us cl dV pm ct c1 H fr hdf h1 h2
  rw [hps] at h1
  rcases hdf with ⟨z, _⟩ | ⟨t, ws, rfl, r, e, _⟩
  · rw [hds] at z; cases z
  rw [hds] at r
  obtain ⟨w, rfl, rw1⟩ : ∃ w, ws = [w] ∧ L2.RelV (.int i) w := by
    cases r with
    | cons a b => cases b with
      | nil => exact ⟨_, rfl, a⟩
  cases us with
  | nil =>
    refine ⟨[w], by rw [hps, hds]; exact .cons rw1 .nil, ?_⟩
    rw [hps, hp]
    simp only [lamNames, List.mem_cons, List.not_mem_nil, or_false] at hn
    rcases hn with rfl | rfl | rfl | rfl | rfl <;> exact BindsTo.of_defaults (items := #[w]) rfl e rfl rfl rfl
  | cons u ur =>
    obtain rfl : ur = [] := by
      cases ur with
      | nil => rfl
      | cons c d => exact absurd h1 (by simp)
    refine ⟨[], by rw [hps, hds]; exact .nil, ?_⟩
    rw [hps, hp]
    simp only [lamNames, List.mem_cons, List.not_mem_nil, or_false] at hn
    rcases hn with rfl | rfl | rfl | rfl | rfl <;> exact BindsTo.of_defaults (items := #[w]) rfl e rfl rfl rfl
end MS

set_option Elab.async false
set_option linter.all false
set_option maxRecDepth 100000
set_option maxHeartbeats 4000000
/-! TE: a lambda as the first argument of a def -/
namespace MS
open PySem PySem.Spec PyProof.Rows L2 PySem.Calls PySem.W
open Mini (Val Res Ex Tg Out evalE evalEs evalI evalTs)
/-- what is called with a lambda gives none -/
def CallHush (C : Mini.Cx) : Prop := ∀ x ms h, Mini.stills ms = false → Mini.hush (C.call x ms h) = C.call x ms h
theorem callHush (P : Mini.Prog) (W d : Nat) : CallHush (Mini.cxAt P W d) := by
  intro x ms h hs
  cases d with
  | zero => rfl
  | succ d =>
    show Mini.hush (match P.fns.lookup x with | some F => Mini.runFn (Mini.cxAt P W d) F ms h | none => .bad) = (match P.fns.lookup x with | some F => Mini.runFn (Mini.cxAt P W d) F ms h | none => .bad)
    cases P.fns.lookup x with
    | none => rfl
    | some F =>
      show Mini.hush (Mini.runFn (Mini.cxAt P W d) F ms h) = Mini.runFn (Mini.cxAt P W d) F ms h
      unfold Mini.runFn
      rw [hs, Bool.or_false]
      split
      · rename_i z
        rw [if_pos z.2]
        generalize (if F.shut = true then _ else _ : Res Val) = r
        cases r with
        | ok v h =>
          simp only [Mini.hush]
          by_cases q : Mini.still v = true
          · rw [if_pos q]; simp only [Mini.hush]; rw [if_pos q]
          · rw [if_neg q]
        | exn c v h =>
          simp only [Mini.hush]
          by_cases q : Mini.still v = true
          · rw [if_pos q]; simp only [Mini.hush]; rw [if_pos q]
          · rw [if_neg q]
        | bad => rfl
      · rfl
section
variable {L : Lk} {G : Cr} {W : WX} {C : Mini.Cx} {X : L2.Cx} {kk : Nat} {lams : String → LamI → Prop}
theorem caps_vr {R : Mp} {n : Nat} {H : Hp} {env : Mini.Env} {σ : L2.St} (re : ERL L G H R n env σ) : ∀ (js : List Nat) (ws : List Val), (js.mapM fun i => env[i]?.join) = some ws → (∀ i ∈ js, G.exs i = none) →
    ∃ cs, VRsL L G H R n ws cs ∧ cs.length = js.length ∧ ∀ (j i : Nat), js[j]? = some i → ∃ v, cs[j]? = some v ∧ σ[i]? = some (some v)
  | [], ws, e, _ => by
    rw [List.mapM_nil] at e
    cases e
    exact ⟨[], .nil, rfl, fun j i z => by simp at z⟩
  | a :: r, ws, e, hx => by
    rw [List.mapM_cons] at e
    obtain ⟨w, e1, e2⟩ := Option.bind_eq_some_iff.mp e
    obtain ⟨wr, e3, e4⟩ := Option.bind_eq_some_iff.mp e2
    cases e4
    obtain ⟨cs, h1, h2, h3⟩ := caps_vr re r wr e3 fun i hi => hx i (List.mem_cons_of_mem _ hi)
    have e' : env[a]? = some (some w) := by
      cases q : env[a]? with
      | none => rw [q] at e1; cases e1
      | some o => rw [q] at e1; exact congrArg some e1
    rcases re.at_ a w e' with ⟨y, q1, q2⟩ | ⟨_, _, _, _, _, _, _, q2, _⟩
    · refine ⟨y :: cs, .cons q2 h1, by simp [h2], fun j i z => ?_⟩
      cases j with
      | zero =>
        obtain rfl : a = i := by simpa using z
        exact ⟨y, rfl, q1⟩
      | succ j => simpa using h3 j i (by simpa using z)
    · rw [hx a List.mem_cons_self] at q2; cases q2
/-- what is known of a lambda made here, in a later state of the maker -/
theorem cloAt_of {I : LamI} {pins : List (Addr × PySem.Obj)} {σ : L2.St} {H : Hp} {s : Shared} {f c1 : Addr} {dV pm ct : Value} {pos : Pos} {ps : Array Value} {js : List Nat} {cs : List L2.V} (J : Inv X pins σ H s)
    (hfree : ∀ y ∈ I.sc.names, y.2 = .free → ∃ c, X.env.cells.lookup y.1 = some c) (hcap : ∀ p ∈ I.caps, I.sc.names.lookup p = some .free) (hjs : js.map (fun i => X.N[i]?) = I.caps.map some) (hvis : ∀ p ∈ I.caps, X.env.scope.names.lookup p = some .cell ∨ X.env.scope.names.lookup p = some .free)
    (hf : s.heap.get? f = some (lmO I.q I.prs I.body I.sc (cloFrom X.env.cells I.sc.names []) dV pm c1 ct)) (hH : H f = none) (hfr : f ∉ X.env.locals :: X.fs) (hd : DfO I.ds dV s.heap H (X.env.locals :: X.fs)) (hP : H I.P = some (.tbl ps)) (hc : codeAmong pos ps.toList = some (.ref c1))
    (hl : cs.length = js.length) (hcs : ∀ (j i : Nat), js[j]? = some i → ∃ v, cs[j]? = some v ∧ σ[i]? = some (some v)) : CloAt I cs s H X.stack f := by
  have cm : ∀ {y : Str} {c : Addr}, (cloFrom X.env.cells I.sc.names []).lookup y = some c → X.env.cells.lookup y = some c := fun e => NdefX.clo_cm hfree e
  have hlen : js.length = I.caps.length := by simpa using congrArg List.length hjs
  refine ⟨_, dV, pm, ct, c1, pos, ps, hf, hH, fun z => hfr (J.stkSub _ z), ?_, hP, hc, fun y z c a b => J.ok.inj y z c (cm a) (cm b), fun y hy => ?_, fun y c z => ⟨J.cell y c (cm z), J.freeC y c (cm z)⟩, fun j y v h1 h2 => ?_, by rw [hl, hlen]⟩
  · rcases hd with z | ⟨t, us, z1, z2, z3, z4, z5⟩
    · exact .inl z
    · exact .inr ⟨t, us, z1, z2, z3, z4, fun z => z5 (J.stkSub _ z)⟩
  · have hm := PySem.mem_of_lookup hy
    obtain ⟨c, hc⟩ := hfree _ hm rfl
    exact ⟨c, NdefX.clo_has hfree hm hc⟩
  · have hj : j < js.length := by
      rw [hlen]; exact (List.getElem?_eq_some_iff.mp h1).1
    have e0 : (js.map fun i => X.N[i]?)[j]? = (I.caps.map some)[j]? := by rw [hjs]
    rw [List.getElem?_map, List.getElem?_map, h1, List.getElem?_eq_getElem hj] at e0
    have e1 : X.N[js[j]]? = some y := Option.some.inj e0
    obtain ⟨w, w1, w2⟩ := hcs j _ (List.getElem?_eq_getElem hj)
    rw [h2] at w1
    cases w1
    have vy := hvis y (List.mem_of_getElem? h1)
    have hm := PySem.mem_of_lookup (hcap y (List.mem_of_getElem? h1))
    obtain ⟨m, _, hL⟩ := J.loc
    obtain ⟨u, r1, lk⟩ := hL _ y v e1 w2 (.inr vy)
    rcases lk with ⟨z, _⟩ | ⟨_, c, z1, z2⟩
    · exfalso
      have z : X.env.scope.names.lookup y = some .local := z
      rw [z] at vy
      rcases vy with q | q <;> cases q
    · exact ⟨c, u, NdefX.clo_has hfree hm z1, z2, r1⟩
/-- the heap grew by things that are none of ours -/
theorem xt_ext {R : Mp} {h : Mini.Heap} {H H1 : Hp} (x : LamX.ExtN H H1) (t : ∀ a ps, H a = some (.tbl ps) → ∃ more : Array Value, H1 a = some (.tbl (ps ++ more))) : Xt R h H R h H1 :=
  ⟨Nat.le_refl _, fun _ _ => rfl, rfl, fun _ a b => absurd b (Nat.not_lt_of_le a), fun a o e _ nt => x a o e fun ps z => by rw [z] at nt; exact nt, t⟩
theorem hr_ext {R : Mp} {h : Mini.Heap} {H H1 : Hp} (rh : HRL L G R h H) (x : LamX.ExtN H H1) (t : ∀ a ps, H a = some (.tbl ps) → ∃ more : Array Value, H1 a = some (.tbl (ps ++ more))) (tab : LamX.Tabs L.T H1) : HRL L G R h H1 := by
  refine ⟨rh.inj, fun i o e => ?_, fun a q => ?_, rh.owR, tab⟩
  · have hi := (List.getElem?_eq_some_iff.mp e).1
    obtain ⟨u, e1, nt⟩ := rh.thereN hi
    exact (rh.at_ i o e).mono ((xt_ext x t).mo rh) (by rw [x _ _ e1 fun ps z => nt (by rw [z]; trivial), e1])
  · have m := rh.ow a q
    cases e : H a with
    | none => rw [e] at m; exact m.elim
    | some o =>
      rw [e] at m
      rw [x _ _ e fun ps z => by rw [z] at m; exact m]
      exact m
def withClo (G : Cr) (k : String) (f : Addr) (cs : List L2.V) : Cr := ⟨fun k' a vs => G.clo k' a vs ∨ (k' = k ∧ a = f ∧ vs = cs), G.exs⟩
theorem withClo_up {k : String} {f : Addr} {cs : List L2.V} : ∀ k' a vs, G.clo k' a vs → (withClo G k f cs).clo k' a vs := fun _ _ _ z => .inl z
/-- the lambda is told of no more -/
theorem sem_forget {R : Mp} {h : Mini.Heap} {H : Hp} {σ : L2.St} {Q : VK} {k : String} {f : Addr} {cs : List L2.V} {r : Res Val} (hr : Mini.hush r = r) (y : SemR L G W r R h H σ (vpost L G Q)) : SemR L (withClo G k f cs) W r R h H σ (vpost L (withClo G k f cs) Q) := by
  cases r with
  | ok v h' =>
    have hs : Mini.still v = true := by
      simp only [Mini.hush] at hr
      by_cases z : Mini.still v = true
      · exact z
      · rw [if_neg z] at hr; cases hr
    exact fun R' H' t r' V rv => y R' H' t r' V (VR.grow (fun _ _ _ z => z.elim) _ _ (VR.stil _ _ rv hs))
  | exn c v h' =>
    have hs : Mini.still v = true := by
      simp only [Mini.hush] at hr
      by_cases z : Mini.still v = true
      · exact z
      · rw [if_neg z] at hr; cases hr
    intro R' H' C d t o
    obtain ⟨g, u, e1, e2, e3⟩ := o.at_
    exact y R' H' C d t ⟨o.hr, o.cl, g, u, e1, e2, VR.grow (fun _ _ _ z => z.elim) _ _ (VR.stil _ _ e3 hs)⟩
  | bad => exact y.elim
theorem stills_clo {k : String} {ws ms : List Val} : Mini.stills (.clo k ws :: ms) = false := by
  simp [Mini.stills, Mini.still]
theorem sound_callL {x k : String} {D : DefI} {I : LamI} {js : List Nat} {Es : List Expr} {es : List Ex} {p pl pos : Pos} {c : Addr} (sl : SameL L X) (hC : CallsOk L kk C) (hL : LensOk L C) (hu : CallHush C) (hD : L.defs x = some D) (dD : DefOk L x D) (ht : D.top = true) (hr : Room kk X.A) (hgd : X.A.guards = some []) (tk : Takes X W) (clo : ∀ pins σ H s, Inv X pins σ H s → CloOk L G s H X.stack)
    (lo : ∀ k I vs s H o a, lams k I → CloAt I vs s H o a → L.clo k vs s H o a) (hI : lams k I) (TB : LamX.TabB X.base X.mg c I.P) (hcode : X.env.code = .ref c) (hq : X.env.qual ++ "<lambda>" = I.q) (hm : (I.P, I.q) ∈ L.T) (huq : ∀ p ∈ L.T, p.1 = I.P → p.2 = I.q)
    (hdef : intsOf I.prs.defaults = some I.ds) (hk : I.prs.kw_defaults = []) (hk2 : I.prs.kwonlyargs = []) (hfree : ∀ y ∈ I.sc.names, y.2 = .free → X.env.scope.names.lookup y.1 = some .cell ∨ X.env.scope.names.lookup y.1 = some .free) (hcap : ∀ p ∈ I.caps, I.sc.names.lookup p = some .free) (hjs : js.map (fun i => X.N[i]?) = I.caps.map some) (hex : ∀ i ∈ js, G.exs i = none)
    (hg : Gl X (nm x)) (ha : PA X Es (semA L G W C es)) (he : starEach (.Lambda I.prs I.body I.sc pl :: Es) X.env = (false, eval (.Lambda I.prs I.body I.sc pl) X.env) :: starEach Es X.env) (hpl : (backTo pos (starEach Es X.env)).any (·.1) = false) :
    PE X (.Call (.Name (nm x) p) (.Lambda I.prs I.body I.sc pl :: Es) [] pos) (semE L G W C (.call x (.lam k js :: es))) := by
  refine ⟨fun pins s σ H Q J h => ?_⟩
  obtain ⟨R, h, env, rh, re, y⟩ := h
  simp only [evalE, evalEs] at y
  have y0 := SemR.bind (SemR.bind y)
  obtain ⟨cv, ec, y1⟩ := SemR.opt y0
  rw [Option.map_eq_some_iff] at ec
  obtain ⟨ws, ews, rfl⟩ := ec
  have hfreeC : ∀ y ∈ I.sc.names, y.2 = .free → ∃ c, X.env.cells.lookup y.1 = some c := fun y hy e => J.ok.has _ (hfree y hy e)
  have hvis : ∀ p ∈ I.caps, X.env.scope.names.lookup p = some .cell ∨ X.env.scope.names.lookup p = some .free := fun p hp => hfree (p, .free) (PySem.mem_of_lookup (hcap p hp)) rfl
  obtain ⟨cs, rc, lc, hcs⟩ := caps_vr re js ws ews hex
  refine wpAny_Call_Name_kw (ld_glob J hg (by rw [sl.mg]; exact dD.mg ht) ?_ dD.dbg)
  refine PySem.W.callWith_K (h₀ := X.base) J.ok.mod.kin (by rw [sl.K]; exact dD.kp) ?_ he hpl
  rw [he]
  show wpAny _ _ (spliced ((false, eval (.Lambda I.prs I.body I.sc pl) X.env) :: backTo pos (starEach Es X.env))) _ _ s
  refine Calls.spliced_cons ?_
  -- behind the making
  have go : ∀ (s0 : Shared) (dV : Value), Inv X pins σ H s0 → DfO I.ds dV s0.heap H (X.env.locals :: X.fs) →
      wpAny (model X.prog X.w) X.A (makeTail "<lambda>" (X.env.qual ++ "<lambda>") I.prs (.expr I.body) I.sc X.env dV .none none pl pl.line) (fun v s1 => wpAny (model X.prog X.w) X.A (spliced (backTo pos (starEach Es X.env))) (fun vs s2 => X.K.In s2.heap ∧ wpAny (model X.prog X.w) X.A (call (.ref D.f) ([] ++ (v :: vs))) (EP X pins σ Q) X.xe s2) X.xe s1) X.xe s0 := by
    intro s0 dV J0 d0
    refine lm_tail (T := L.T) (c := c) (P := I.P) J0 TB hcode (by rw [hq]; exact hm) (by rw [hq]; exact huq) rh.tab hfreeC d0 fun f c1 pm ct H1 s1 J1 x1 t1 tab1 hf hHf hfr hc1 d1 hps => ?_
    obtain ⟨ps1, hP1, hcp⟩ := hps
    rw [hq] at hf
    have rh1 := hr_ext (G := G) rh x1 t1 tab1
    have xt1 : Xt R h H R h H1 := xt_ext x1 t1
    have mo1 := xt1.mo rh
    have y2 := y1 R H1 xt1 rh1
    have y3 := SemR.bind y2
    -- pins
    obtain ⟨pd, hpd, hd2⟩ : ∃ pd : List (Addr × PySem.Obj), (∀ p ∈ pd, s1.heap.get? p.1 = some p.2 ∧ H1 p.1 = none ∧ p.1 ≠ X.env.locals ∧ p.1 ∉ X.fs ∧ ∀ v, p.2.data ≠ .cell v) ∧ ∀ (h2 : PySem.Heap) (H2 : Hp), (∀ p ∈ pd, h2.get? p.1 = some p.2 ∧ H2 p.1 = none) → DfO I.ds dV h2 H2 (X.env.locals :: X.fs) := by
      rcases d1 with z | ⟨t, us, z1, z2, z3, z4, z5⟩
      · exact ⟨[], ⟨fun p hp => (by cases hp), fun _ _ _ => .inl z⟩⟩
      · refine ⟨[(t, { cls := .type "tuple", data := .seq us.toArray })], ⟨fun p hp => ?_, fun h2 H2 hh => ?_⟩⟩
        · obtain rfl := List.mem_singleton.mp hp
          exact ⟨z3, z4, fun z => z5 (by rw [show t = X.env.locals from z]; exact List.mem_cons_self), fun z => z5 (List.mem_cons_of_mem _ z), fun v z => by cases z⟩
        · obtain ⟨w1, w2⟩ := hh _ List.mem_cons_self
          exact .inr ⟨t, us, z1, z2, w1, w2, z5⟩
    have J1' : Inv X (pins ++ ((f, lmO I.q I.prs I.body I.sc (cloFrom X.env.cells I.sc.names []) dV pm c1 ct) :: pd)) σ H1 s1 := J1.pins_of fun q hq' => by
      rcases List.mem_append.mp hq' with z | z
      · exact J1.pin q (List.mem_append_right _ z)
      · rcases List.mem_cons.mp z with z | z
        · rw [z]
          exact ⟨hf, hHf, fun z => hfr (by rw [show f = X.env.locals from z]; exact List.mem_cons_self), fun z => hfr (List.mem_cons_of_mem _ z), fun v z => by cases z⟩
        · exact hpd q z
    refine thn (ha.run pos _ s1 σ H1 (fun vs H2 => ∃ (R2 : Mp) (h2 : Mini.Heap) (ms : List Val), Xt R h H1 R2 h2 H2 ∧ HRL L G R2 h2 H2 ∧ VRsL L G H2 R2 h2.length ms vs ∧ SemR L G W (C.call x (.clo k ws :: ms) h2) R2 h2 H2 σ (vpost L G Q)) J1' ⟨R, h, env, rh1, re.mono mo1, ?_⟩) fun us s2 hh => ?_
    · refine y3.imp fun R2 h2 H2 ms t2 r2 z2 => fun Vs rvs => ⟨R2, h2, ms, t2, r2, rvs, z2.pure r2⟩
    · obtain ⟨Vs, H2, J2, rvu, R2, h2, ms, t2, r2, rvs, y4⟩ := hh
      refine ⟨J2.kIn, ?_⟩
      have pinf := J2.pin (f, lmO I.q I.prs I.body I.sc (cloFrom X.env.cells I.sc.names []) dV pm c1 ct) (List.mem_append_right _ (List.mem_append_right _ List.mem_cons_self))
      have dd := hd2 s2.heap H2 fun q hq' => by
        have w := J2.pin q (List.mem_append_right _ (List.mem_append_right _ (List.mem_cons_of_mem _ hq')))
        exact ⟨w.1, w.2.1⟩
      obtain ⟨more, hP2⟩ := t2.tbl _ _ hP1
      have CA : CloAt I cs s2 H2 X.stack f := cloAt_of J2 hfreeC hcap hjs hvis pinf.1 pinf.2.1 hfr dd hP2 (by rw [Array.toList_append]; exact among_more _ _ hcp) lc hcs
      have J3 : Inv X pins σ H2 s2 := J2.pins_of fun q hq' => J2.pin q (List.mem_append_right _ (List.mem_append_left _ hq'))
      have mo2 := t2.mo rh1
      refine run_def (G := withClo G k f cs) (us := .ref f :: us) (vs := .ref f :: Vs) sl hC hL hD dD hr hgd tk J3 ?_ (.cons rfl rvu) ⟨R2, h2, .clo k ws :: ms, r2, ?_, sem_forget (hu _ _ _ stills_clo) y4⟩
      · intro k' a' vs' z
        rcases z with z | ⟨rfl, rfl, rfl⟩
        · exact clo _ _ _ _ J3 k' a' vs' z
        · exact lo _ I _ _ _ _ _ hI CA
      · exact .cons (.clo (.inr ⟨rfl, rfl, rfl⟩) (VRs.grow withClo_up _ _ (VRs.mono mo2 _ _ (VRs.mono mo1 _ _ rc)))) (VRs.grow withClo_up _ _ rvs)
  refine lm_eval hdef hk hk2 (fun z tk' => go _ _ (J.kept fun _ _ q => q) (.inl ⟨z, rfl⟩)) fun z us tk' r => ?_
  have J0 : Inv X pins σ H { s with heap := s.heap.push { cls := .type "tuple", data := .seq us.toArray }, toks := tk' } := J.kept fun b o q => Heap.get?_push_of_some _ q
  refine go _ _ J0 (.inr ⟨_, us, rfl, r, Heap.get?_push_size _ rfl, J.hok.fresh (Nat.le_refl _), fun q => ?_⟩)
  rcases List.mem_cons.mp q with w | w
  · have h1 := J.lt
    rw [← w] at h1
    exact Nat.lt_irrefl _ h1
  · exact J.nofs (Nat.le_refl _) w
end
end MS

set_option Elab.async false
set_option linter.all false
set_option maxRecDepth 100000
set_option maxHeartbeats 4000000
/-! TJ: sorted with a lambda as key=, with reverse=True -/
namespace MS
open PySem PySem.Spec PyProof.Rows L2 PySem.Calls PySem.W
open Mini (Val Res Ex Tg Out evalE evalEs evalI evalTs)
theorem keysOf_cons {f : Val → Mini.Heap → Res Val} {h : Mini.Heap} {v : Val} {r : List Val} {ps : List (Int × Val)} (e : Mini.keysOf f h (v :: r) = some ps) : ∃ k q, f v h = .ok (.int k) h ∧ Mini.keysOf f h r = some q ∧ ps = (k, v) :: q := by
  simp only [Mini.keysOf] at e
  split at e
  · rename_i k h' e1
    split at e
    · rename_i e2
      obtain ⟨q, e3, rfl⟩ := Option.map_eq_some_iff.mp e
      rw [e2] at e1
      exact ⟨k, q, e1, e3, rfl⟩
    · cases e
  · cases e
theorem keysOf_all {f : Val → Mini.Heap → Res Val} {h : Mini.Heap} : ∀ {xs : List Val} {ps : List (Int × Val)}, Mini.keysOf f h xs = some ps → xs = ps.map (·.2) ∧ ∀ (i : Nat) (k : Int) (v : Val), ps[i]? = some (k, v) → f v h = .ok (.int k) h
  | [], ps, e => by cases e; exact ⟨rfl, fun i k v z => by simp at z⟩
  | v :: r, ps, e => by
    obtain ⟨k, q, e1, e2, rfl⟩ := keysOf_cons e
    obtain ⟨a, b⟩ := keysOf_all e2
    refine ⟨by rw [List.map_cons, ← a], fun i k' v' z => ?_⟩
    cases i with
    | zero => cases z; exact e1
    | succ i => exact b i k' v' (by simpa using z)
section
variable {L : Lk} {G : Cr} {W : WX} {C : Mini.Cx} {X : L2.Cx} {kk : Nat} {lams : String → LamI → Prop}
theorem room2 {k : Nat} {A : Around} (r : Room (k + 1) A) : Room k A.in1.in1 :=
  ⟨r.hd, by have := r.dp; show A.depth + 3 * k + 5 < _; omega, by have := r.un; show A.units + 1 + 1 + 16 * k + 200 < _; omega⟩
/-- the lambda gives an item's key -/
theorem key_turn {pins : List (Addr × PySem.Obj)} {σ : L2.St} {H : Hp} {s : Shared} {f : Addr} {k : String} {I : LamI} {cs : List L2.V} {ws : List Val} {v : Val} {V : L2.V} {u : Value} {n : Int} {R : Mp} {h : Mini.Heap} (sl : SameL L X) (hA : ActsOk L lams kk C) (hI : lams k I) (hr : Room (kk + 1) X.A) (hgd : X.A.guards = some [])
    (J : Inv X pins σ H s) (ca : CloAt I cs s H X.stack f) (clo : CloOk L G s H X.stack) (rh : HRL L G R h H) (rv : VRL L G H R h.length v V) (ru : L2.RelV V u) (rc : VRsL L G H R h.length ws cs) (e : C.act (.clo k ws) [v] h = .ok (.int n) h) :
    wpAny (model X.prog X.w) X.A.in1.in1 (call (.ref f) [u]) (fun w s1 => ∃ (R1 : Mp) (H1 : Hp) (t : Tok), Inv X pins σ H1 s1 ∧ Xt R h H R1 h H1 ∧ HRL L G R1 h H1 ∧ w = .int n t ∧ Un (frs X.stack) [] H H1 s.heap s1.heap) (fun _ _ => False) s := by
  have e0 := J.env0
  rw [sl.prog, sl.w, sl.K, sl.mg, sl.base] at e0
  have run := hA k I hI X.A.in1.in1 X.stack s H [u] [V] cs (fun V1 H1 => ∃ R1, Xt R h H R1 h H1 ∧ HRL L G R1 h H1 ∧ V1 = .int n) (fun _ _ _ => False) f (room2 hr) hgd ⟨e0.frames, e0.mod, e0.bs, e0.bsz, e0.funs, e0.frf, e0.hok, e0.bare⟩ ca (.cons ru .nil) ⟨G, R, h, [v], ws, clo, rh, .cons rv .nil, rc, by
    rw [e]
    exact fun R1 H1 t r V1 rV => ⟨R1, t, r, rV.in⟩⟩
  rw [← sl.prog, ← sl.w] at run
  refine wpAny_call (codeAny_mono run fun r s1 hq => ?_)
  cases r with
  | error e =>
    obtain ⟨_, _, _, _, _, _, _, _, _, _, _, _, z⟩ := hq
    exact z.elim
  | ok fl =>
    cases fl with
    | ret w =>
      obtain ⟨V1, H1, os, bare, un, hok, r1, R1, t, rh1, rfl⟩ := hq
      obtain ⟨tk, rfl⟩ : ∃ tk, w = .int n tk := r1
      obtain ⟨hh, g, d, t2, os'⟩ := s1
      obtain rfl : os' = s.os := os
      exact ⟨R1, H1, tk, J.call (h' := hh) (g' := g) (d' := d) (t' := t2) (ch := []) un hok bare (fun b z => absurd z (by simp)), t, rh1, rfl, un⟩
    | next => exact False.elim hq
    | brk => exact False.elim hq
    | cont => exact False.elim hq
theorem vals_get {zs : List L2.V} {its : List Value} (r : Vals zs its) {i : Nat} {u : Value} (e : its[i]? = some u) : ∃ V, zs[i]? = some V ∧ L2.RelV V u := by
  have hi := (List.getElem?_eq_some_iff.mp e).1
  have hl : i < zs.length := by rw [Paired.length r]; exact hi
  obtain ⟨w, e1, e2⟩ := r.get (List.getElem?_eq_getElem hl)
  rw [e] at e1
  cases e1
  exact ⟨_, List.getElem?_eq_getElem hl, e2⟩
theorem vrs_get {R : Mp} {H : Hp} {n : Nat} : ∀ {xs : List Val} {zs : List L2.V}, VRsL L G H R n xs zs → ∀ {i : Nat} {V : L2.V}, zs[i]? = some V → ∃ x, xs[i]? = some x ∧ VRL L G H R n x V
  | _, _, .nil, i, V, e => by simp at e
  | _, _, .cons r t, 0, V, e => by
    cases e
    exact ⟨_, rfl, r⟩
  | _, _, .cons r t, i + 1, V, e => by
    obtain ⟨x, e1, e2⟩ := vrs_get t (i := i) (by simpa using e)
    exact ⟨x, by simpa using e1, e2⟩
/-- the sorted items stand for the sorted values -/
theorem each_back {R : Mp} {H : Hp} {n : Nat} : ∀ {out : List Value} {ps : List (Int × Val)}, EachIs (fun u p => ∃ V, L2.RelV V u ∧ VRL L G H R n p.2 V) out ps → ∃ zs, Vals zs out ∧ VRsL L G H R n (ps.map (·.2)) zs
  | _, _, .nil => ⟨[], .nil, .nil⟩
  | _, _, .cons ⟨V, a, b⟩ r => by
    obtain ⟨zs, c, d⟩ := each_back r
    exact ⟨V :: zs, .cons a c, .cons b d⟩
theorem each_make {R : Mp} {H : Hp} {n : Nat} : ∀ {its : List Value} {zs : List L2.V} {ps : List (Int × Val)}, Vals zs its → VRsL L G H R n (ps.map (·.2)) zs → EachIs (fun u p => ∃ V, L2.RelV V u ∧ VRL L G H R n p.2 V) its ps
  | _, _, [], r, q => by
    cases q
    cases r
    exact .nil
  | _, _, p :: ps, r, q => by
    cases q with
    | cons q1 q2 => cases r with
      | cons r1 r2 => exact .cons ⟨_, r1, q1⟩ (each_make r2 q2)
theorem ints_reads {h : PySem.Heap} : ∀ {ks : List Int} {us : List Value}, Vals (ks.map L2.V.int) us → EachIs (fun v d => ∃ as, Reads h v d as) us (ks.map PyData.int)
  | [], _, r => by cases r; exact .nil
  | k :: ks, _, r => by
    cases r with
    | cons a b =>
      obtain ⟨t, rfl⟩ := a
      exact .cons ⟨[], .int k t⟩ (ints_reads b)
theorem erase_set {H : Hp} {D : Addr} {o o' : HO} (e : H D = some o) : upd (erase H D) D o' = upd H D o' := by
  have z := erase_upd e
  conv => rhs; rw [← z]
  exact upd_upd.symm
theorem sort_run {pins : List (Addr × PySem.Obj)} {σ : L2.St} {H : Hp} {s : Shared} {f l : Addr} {its : List Value} {zs : List L2.V} {k : String} {I : LamI} {cs : List L2.V} {ws : List Val} {ps : List (Int × Val)} {R : Mp} {h : Mini.Heap} {Q : VK}
    (sl : SameL L X) (hA : ActsOk L lams kk C) (hI : lams k I) (hr : Room (kk + 1) X.A) (hgd : X.A.guards = some []) (hu : X.A.units + 65 < cLine) (J : Inv X pins σ H s) (ca : ∀ H' s', Inv X pins σ H' s' → (∀ a ps, H a = some (.tbl ps) → ∃ more : Array Value, H' a = some (.tbl (ps ++ more))) → CloAt I cs s' H' X.stack f)
    (clo : ∀ pins σ H s, Inv X pins σ H s → CloOk L G s H X.stack) (rh : HRL L G R h H) (rc : VRsL L G H R h.length ws cs) (hl : s.heap.IsList l its.toArray) (rz : Vals zs its) (rv : VRsL L G H R h.length (ps.map (·.2)) zs) (hz : its.length ≤ sizeLine)
    (hk : ∀ (i : Nat) (n : Int) (v : Val), ps[i]? = some (n, v) → C.act (.clo k ws) [v] h = .ok (.int n) h)
    (q : ∀ (p : Addr) (H1 : Hp) (R1 : Mp) (out : List L2.V), H p = none → H1 p = none → Xt R h H R1 h H1 → HRL L G R1 h H1 → VRsL L G H1 R1 h.length (Mini.sortP ps) out → Q (.ref p) (upd H1 p (.lst out))) :
    wpAny (model X.prog X.w) X.A (call (.builtin "sorted") [.ref l] [(Str.ofString "key", .ref f)]) (EP X pins σ Q) X.xe s := by
  have hn : ps.length = its.length := by
    have := rv.length
    rw [List.length_map] at this
    rw [this, Paired.length rz]
  refine sorted_of_sort hl hz (ksk_s1 _ _) (fun _ => ksk_l1 _ _) fun E' => ?_
  rw [ksk_t1]
  obtain ⟨a, ea⟩ : ∃ a, a = s.heap.objs.size + 1 := ⟨_, rfl⟩
  rw [← ea]
  have ho : (copyHeap s.heap its).get? a = some (seqObj "list" its.toArray 0) := ea ▸ copyHeap_at s.heap its
  obtain ⟨e1, ho1⟩ : ∃ e1, ((copyHeap s.heap its).update a (Obj.mapSeq fun _ => (#[] : Array Value))).get? a = some (seqObj "list" #[] e1) := ⟨_, get?_update_seq ho fun _ => #[]⟩
  unfold ksk_tree
  refine wpAny_bind (listItems_at (s := { s with heap := copyHeap s.heap its }) ho rfl ?_)
  refine wpAny_bind (listUpdate_at (s := { s with heap := copyHeap s.heap its }) ho rfl ?_ (by rw [List.size_toArray]; exact hz) (Nat.zero_le _))
  refine wpAny_bind (seqEpoch_at ho1 rfl ?_)
  refine wpAny_bind (wpAny_newTuple ?_ (show its.length ≤ _ from hz))
  refine wpAny_bind (wpAny_newList ?_ (Nat.zero_le _))
  refine wpAny_holding ?_
  obtain ⟨kS, ek⟩ : ∃ kS, kS = (((copyHeap s.heap its).update a (Obj.mapSeq fun _ => (#[] : Array Value))).push (seqObj "tuple" its.toArray 0)).objs.size := ⟨_, rfl⟩
  obtain ⟨g, eg⟩ : ∃ g, g = (((copyHeap s.heap its).update a (Obj.mapSeq fun _ => (#[] : Array Value))).push (seqObj "tuple" its.toArray 0)).push (seqObj "list" #[] 0) := ⟨_, rfl⟩
  have lt1 : a < (copyHeap s.heap its).objs.size := Heap.lt_size ho
  have hks : a < kS := by
    rw [ek, size_push', Heap.size_update]; omega
  have gk : ∀ b o, s.heap.get? b = some o → g.get? b = some o := fun b o e => by
    have hb := Heap.lt_size e
    rw [eg]
    refine Heap.get?_push_of_some _ (Heap.get?_push_of_some _ ?_)
    rw [Heap.get?_update_ne _ _ _ _ (by rw [ea]; exact Nat.ne_of_lt (Nat.lt_succ_of_lt hb))]
    exact copyHeap_old e
  have ga : g.get? a = some (seqObj "list" #[] e1) := by
    rw [eg]
    exact Heap.get?_push_of_some _ (Heap.get?_push_of_some _ ho1)
  have gs : g.get? kS = some (seqObj "list" #[] 0) := by
    rw [eg, ek]
    exact Heap.get?_push_size _ rfl
  show wpAny (model X.prog X.w) X.A.in1.in1 (ksk_rest a (.ref f) false its.toArray e1 (.ref (((copyHeap s.heap its).update a (Obj.mapSeq fun _ => (#[] : Array Value))).push (seqObj "tuple" its.toArray 0)).objs.size)) _ _ { s with heap := (((copyHeap s.heap its).update a (Obj.mapSeq fun _ => (#[] : Array Value))).push (seqObj "tuple" its.toArray 0)).push (seqObj "list" #[] 0) }
  rw [← ek, ← eg]
  clear ek eg
  have hS0 : H kS = none := J.hok.fresh (by omega)
  have ha0 : H a = none := J.hok.fresh (by omega)
  have J0 : Inv X pins σ (upd H kS (.lst [])) { s with heap := g } := J.laid (t' := s.toks) gk (by omega) ⟨Nat.zero_le _, [], 0, .nil, gs⟩
  have J0' : Inv X (pins ++ [(a, seqObj "list" #[] e1)]) σ (upd H kS (.lst [])) { s with heap := g } := J0.pins_of fun p hp => by
    rcases List.mem_append.mp hp with z | z
    · exact J0.pin p (List.mem_append_right _ z)
    · obtain rfl := List.mem_singleton.mp z
      refine ⟨ga, by rw [upd_ne (Nat.ne_of_lt hks)]; exact ha0, fun z => ?_, fun z => J.nofs (show s.heap.objs.size ≤ a by omega) z, fun v z => by cases z⟩
      have h1 := J.lt
      rw [← show a = X.env.locals from z, ea] at h1
      exact Nat.lt_irrefl _ (Nat.lt_of_lt_of_le h1 (Nat.le_succ _))
  unfold ksk_rest
  refine wpAny_bind (wpAny_rule ?_)
  first
    | rw [List.forIn_toArray]
    | (rw [← Array.forIn_toList]; simp only [List.toList_toArray])
  refine wpAny_bind (ksk_fold (fun i s' => ∃ (R' : Mp) (He : Hp), Inv X (pins ++ [(a, seqObj "list" #[] e1)]) σ (upd He kS (.lst ((ps.take i).map fun p => .int p.1))) s' ∧ He kS = none ∧ Xt R h H R' h He ∧ HRL L G R' h He ∧ Un (frs X.stack) [] H (upd He kS (.lst ((ps.take i).map fun p => .int p.1))) s.heap s'.heap) its 0 _
    ⟨R, H, J0', hS0, Xt.refl, rh, Un.laid gk (by omega) hS0⟩ ?step ?done)
  case step =>
    rintro j x s' hx ⟨R', He, Ji, hS, t, r, un⟩
    simp only [Nat.zero_add] at Ji un ⊢
    obtain ⟨V, hV, ru⟩ := vals_get rz hx
    obtain ⟨y, hy, rV⟩ := vrs_get rv hV
    rw [List.getElem?_map] at hy
    obtain ⟨⟨n, y'⟩, e3, e4⟩ := Option.map_eq_some_iff.mp hy
    obtain rfl : y' = y := e4
    have mo := xt_own_mo (o := .lst ((ps.take j).map fun p => .int p.1)) t rh r hS
    have Jp : Inv X pins σ _ s' := Ji.pins_of fun p hp => Ji.pin p (List.mem_append_right _ (List.mem_append_left _ hp))
    have tb : ∀ a ps', H a = some (.tbl ps') → ∃ more : Array Value, upd He kS (.lst ((ps.take j).map fun p => .int p.1)) a = some (.tbl (ps' ++ more)) := fun b ps' e => by
      obtain ⟨more, e'⟩ := t.tbl b ps' e
      exact ⟨more, by rw [upd_ne (ne_of_none e' hS)]; exact e'⟩
    refine wpAny_bind (wpAny_attempt (wpAny_mono (key_turn sl hA hI hr hgd Ji (ca _ _ Jp tb) (clo _ _ _ _ Ji) (own_add (o := .lst ((ps.take j).map fun p => .int p.1)) trivial r hS) (rV.mono mo) ru (rc.mono mo) (hk j n _ e3)) (fun w s1 hq => ?_) fun _ _ z => z.elim))
    obtain ⟨R1, H1, tk, J1, t1, r1, rfl, un1⟩ := hq
    obtain ⟨d1, d2, d3⟩ := own_drop (o := .lst ((ps.take j).map fun p => .int p.1)) (fun z => z) r hS t1 r1
    obtain ⟨z1, its1, n1, rv1, ob1⟩ := J1.hok kS _ d3
    have lk : its1.length = min j ps.length := by
      rw [← Paired.length rv1, List.length_map, List.length_take]
    have hj := (List.getElem?_eq_some_iff.mp hx).1
    try dsimp only
    have e5 : (ps.take (j + 1)).map (fun p : Int × Val => L2.V.int p.1) = (ps.take j).map (fun p : Int × Val => L2.V.int p.1) ++ [.int n] := by
      rw [List.take_add_one, e3]; simp
    obtain ⟨c2, hc2⟩ : ∃ c2, (s1.heap.update kS (Obj.mapSeq (·.push (.int n tk)))).get? kS = some (seqObj "list" (its1.toArray.push (.int n tk)) c2) := ⟨_, get?_update_seq ob1 (·.push (.int n tk))⟩
    have sb := Heap.SameBut.update s1.heap kS (Obj.mapSeq (·.push (.int n tk)))
    have kp : ∀ b u, b ≠ kS → s1.heap.get? b = some u → (s1.heap.update kS (Obj.mapSeq (·.push (.int n tk)))).get? b = some u := fun b u hb e => (sb.2 b hb).trans e
    refine wpAny_bind (listUpdate_at ob1 rfl ?_ (by simp; omega) (by simp; omega))
    refine wpAny_pure ⟨rfl, R1.with R'.own, erase H1 kS, ?_, erase_at, t.trans r d1, d2, ?_⟩
    · rw [e5, erase_set d3]
      refine J1.write (x := kS) (e := kS) (t' := s1.toks) (by rw [d3]; trivial) (.inl rfl) kp ⟨_, hc2⟩ ⟨?_, its1 ++ [.int n tk], c2, rv1.append (.cons ⟨tk, rfl⟩ .nil), ?_⟩
      · simp; omega
      · rw [hc2]; simp
    · rw [e5, erase_set d3]
      exact un.trans (un1.trans (Un.write (by rw [d3]; trivial) (.inl rfl) kp ⟨_, hc2⟩))
  case done =>
    rintro s' ⟨R', He, Ji, hS, t, r, un⟩
    have ft : ps.take (0 + its.length) = ps := List.take_of_length_le (by omega)
    rw [ft] at Ji un
    have ek : ps.map (fun p : Int × Val => L2.V.int p.1) = (ps.map (·.1)).map L2.V.int := by rw [List.map_map]; rfl
    obtain ⟨z1, us, n1, rv1, ob1⟩ := Ji.hok kS _ upd_same
    have lu : us.length = its.length := by rw [← Paired.length rv1, List.length_map, hn]
    rw [ek] at rv1
    have rd : EachIs (fun v d => ∃ as, Reads s'.heap v d as) us (ps.map fun p => PyData.int p.1) := by
      have := ints_reads (h := s'.heap) rv1
      rw [List.map_map] at this
      exact this
    refine wpAny_bind (listItems_at ob1 rfl ?_)
    obtain ⟨G0, g1, g2⟩ := restrict s'.heap fun b => decide (b ≠ kS)
    have gB : ∀ b o, b ≠ kS → s'.heap.get? b = some o → G0.get? b = some o := fun b o hb e => by
      rw [g1 b (decide_eq_true hb)]; exact e
    have gN : G0.get? kS = none := g2 kS (decide_eq_false fun z => z rfl)
    obtain ⟨pa1, pa2, _, _, _⟩ := Ji.pin (a, seqObj "list" #[] e1) (List.mem_append_right _ (List.mem_append_right _ List.mem_cons_self))
    have haE : He a = none := by
      have z := pa2
      rwa [upd_ne (Nat.ne_of_lt hks)] at z
    have hal : AllAlike (ps.map fun p => PyData.int p.1) := AllAlike.of fun b b' => by simp [alike]
    have hsk : Sortable (ps.map fun p => PyData.int p.1) := Sortable.others fun b => ⟨fun z => (by cases z), fun xs z => by cases z⟩
    refine keyH_end (s := s') (κ := dataKind s'.heap (ps.map fun p => PyData.int p.1)) (h₁ := G0) (keys := us.toArray) (vs := its) (e1 := e1) (fun b o hb e => ?_) gN ob1 pa1 (Nat.ne_of_gt hks) (SortsAt.data (s := s') (by simpa using rd) hal hsk fun d hd => ?_) (by simpa using lu) hz fun h3 tk3 c kp3 n3 => ⟨rfl, ?_⟩
    · by_cases z : b = kS
      · rw [z, gN] at e; cases e
      · rw [g1 b (decide_eq_true z)] at e; exact e
    · obtain ⟨p, _, rfl⟩ := List.mem_map.mp hd
      show X.A.units + 1 + 1 + 0 < _
      omega
    have kp : ∀ b o, b ≠ a → b ≠ kS → s'.heap.get? b = some o → h3.get? b = some o := fun b o h1 h2 e => kp3 b o h1 (gB b o h2 e)
    have ko : KeyedOut false (ps.map fun p => PyData.int p.1) its (sortVals (dataKind s'.heap (ps.map fun p => PyData.int p.1)) false us.toArray.toList its) := ⟨s'.heap, us.toArray.toList, hal, rfl, by simpa using rd⟩
    have eo := keyedOut_each (fun p : Int × Val => PyData.int p.1) ko (each_make rz (rv.mono (t.mo rh)))
    rw [dataLe_int] at eo
    obtain ⟨out, ro, rvo⟩ := each_back eo
    have lo : out.length = its.length := by
      rw [Paired.length ro]
      exact ko.length (by rw [List.length_map]; exact hn)
    have cs' : ∀ b u, b ≠ kS → upd He kS (.lst (ps.map fun p => .int p.1)) b = some u → He b = some u := fun b u hb e => by rwa [upd_ne hb] at e
    have nS : ∀ b o, s.heap.get? b = some o → b ≠ a ∧ b ≠ kS := fun b o e => by
      have := Heap.lt_size e
      have h1 : b < a := by rw [ea]; exact Nat.lt_succ_of_lt this
      exact ⟨Nat.ne_of_lt h1, Nat.ne_of_lt (Nat.lt_trans h1 hks)⟩
    have hok : HOk X.prog X.w (upd He a (.lst out)) h3 := fun b o e => by
      by_cases z : b = a
      · subst z
        rw [upd_same] at e
        cases e
        exact ⟨by rw [lo]; exact hz, _, c, ro, n3⟩
      · rw [upd_ne z] at e
        have hb : b ≠ kS := ne_of_none e hS
        have x := Ji.hok b o (by rw [upd_ne hb]; exact e)
        refine x.stay (fun d u hd e2 => ?_) (fun d e2 => ?_) fun d xs e2 => ?_
        · refine kp d u (fun z2 => ?_) (fun z2 => ?_) e2
          · rcases hd with w | w
            · exact z (w.symm.trans z2)
            · rw [z2, pa2] at w; cases w
          · rcases hd with w | w
            · exact hb (w.symm.trans z2)
            · rw [z2, upd_same] at w; cases w
        · have h1 : d ≠ a := fun z2 => by rw [z2, pa2] at e2; cases e2
          have h2 : d ≠ kS := fun z2 => by rw [z2, upd_same] at e2; cases e2
          rw [upd_ne h1]; exact cs' d _ h2 e2
        · have h1 : d ≠ a := fun z2 => by rw [z2, pa2] at e2; cases e2
          have h2 : d ≠ kS := fun z2 => by rw [z2, upd_same] at e2; cases e2
          rw [upd_ne h1]; exact cs' d _ h2 e2
    have unF : Un (frs X.stack) [] H (upd He a (.lst out)) s.heap h3 := by
      refine ⟨fun b o e n h1 h2 => ?_, fun b o e n h1 h2 => ?_, fun b o e n h1 => ?_, fun b o e h1 => ?_, fun b xs e => ?_, fun b o u e => ?_, fun b ps' e => ?_⟩
      · obtain ⟨w1, w2⟩ := nS b o e
        exact kp b _ w1 w2 (un.keep b o e n h1 h2)
      · obtain ⟨w1, w2⟩ := nS b o e
        obtain ⟨sl, q1⟩ := un.slot b o e n h1 h2
        exact ⟨sl, kp b _ w1 w2 q1⟩
      · obtain ⟨w1, w2⟩ := nS b o e
        have q1 := un.free b o e n h1
        rw [upd_ne w2] at q1
        rw [upd_ne w1]; exact q1
      · obtain ⟨w1, w2⟩ := nS b o e
        obtain ⟨o', q1⟩ := un.there b o e h1
        exact ⟨o', kp b _ w1 w2 q1⟩
      · have q1 := un.tups b xs e
        have h1 : b ≠ a := fun z2 => by rw [z2, pa2] at q1; cases q1
        have h2 : b ≠ kS := fun z2 => by rw [z2, upd_same] at q1; cases q1
        rw [upd_ne h1]; exact cs' b _ h2 q1
      · have q1 := un.frzs b o u e
        have h1 : b ≠ a := fun z2 => by rw [z2, pa2] at q1; cases q1
        have h2 : b ≠ kS := fun z2 => by rw [z2, upd_same] at q1; cases q1
        rw [upd_ne h1]; exact cs' b _ h2 q1
      · obtain ⟨more, q1⟩ := un.tbls b ps' e
        have h1 : b ≠ a := fun z2 => by rw [z2, pa2] at q1; cases q1
        have h2 : b ≠ kS := fun z2 => by rw [z2, upd_same] at q1; cases q1
        exact ⟨more, by rw [upd_ne h1]; exact cs' b _ h2 q1⟩
    have os : s'.os = s.os := Ji.os.trans J.os.symm
    have ba := Ji.bare
    obtain ⟨hh, gg, dd, tt, os'⟩ := s'
    obtain rfl : os' = s.os := os
    exact ⟨.ref a, upd He a (.lst out), (show Inv X pins σ (upd He a (.lst out)) { s with heap := h3, gens := gg, drawn := dd, toks := tk3 } from J.call (h' := h3) (g' := gg) (d' := dd) (t' := tk3) (ch := []) unF hok ba (fun b z => absurd z (by simp))), rfl, q a He R' out ha0 haE t r rvo⟩
theorem sound_sortk {k : String} {I : LamI} {js : List Nat} {E : Expr} {e : Ex} {p pl kp pos : Pos} {c : Addr} (sl : SameL L X) (hA : ActsOk L lams kk C) (hr : Room (kk + 1) X.A) (hgd : X.A.guards = some []) (hu : X.A.units + 65 < cLine) (clo : ∀ pins σ H s, Inv X pins σ H s → CloOk L G s H X.stack)
    (hI : lams k I) (TB : LamX.TabB X.base X.mg c I.P) (hcode : X.env.code = .ref c) (hq : X.env.qual ++ "<lambda>" = I.q) (hm : (I.P, I.q) ∈ L.T) (huq : ∀ p ∈ L.T, p.1 = I.P → p.2 = I.q)
    (hdef : intsOf I.prs.defaults = some I.ds) (hk : I.prs.kw_defaults = []) (hk2 : I.prs.kwonlyargs = []) (hfree : ∀ y ∈ I.sc.names, y.2 = .free → X.env.scope.names.lookup y.1 = some .cell ∨ X.env.scope.names.lookup y.1 = some .free) (hcap : ∀ p ∈ I.caps, I.sc.names.lookup p = some .free) (hjs : js.map (fun i => X.N[i]?) = I.caps.map some) (hex : ∀ i ∈ js, G.exs i = none)
    (hg : Gl X (nm "sorted")) (hmm : X.mg (nm "sorted") = none) (ha : PA X [E] (semA L G W C [e])) (he : starEach [E] X.env = [(false, eval E X.env)]) :
    PE X (.Call (.Name (nm "sorted") p) [E] [⟨some (nm "key"), .Lambda I.prs I.body I.sc pl, kp⟩] pos) (semF L G W C (.sortk e k js)) := by
  refine ⟨fun pins s σ H Q J h => ?_⟩
  obtain ⟨R, h, env, rh, re, y⟩ := h
  simp only [evalE] at y
  have y0 := SemR.bind y
  have hfreeC : ∀ y ∈ I.sc.names, y.2 = .free → ∃ c, X.env.cells.lookup y.1 = some c := fun y hy e => J.ok.has _ (hfree y hy e)
  have hvis : ∀ p ∈ I.caps, X.env.scope.names.lookup p = some .cell ∨ X.env.scope.names.lookup p = some .free := fun p hp => hfree (p, .free) (PySem.mem_of_lookup (hcap p hp)) rfl
  refine wpAny_Call_Name_kw (ld_blt J hg hmm (u := .builtin "sorted") (by first | rfl | kernel_rfl) ?_ (by decide +kernel) (by decide +kernel))
  refine PyProof.Rows.callWith_kw (thn (ha.run pos pins s σ H (fun vs H1 => ∃ (R1 : Mp) (h1 : Mini.Heap) (x : Val) (V : L2.V), vs = [V] ∧ Xt R h H R1 h1 H1 ∧ HRL L G R1 h1 H1 ∧ VRL L G H1 R1 h1.length x V ∧ SemR L G W (Mini.M.bind (fun h => Mini.M.opt (Mini.lstOf h x) h) (fun xs => Mini.M.bind (Mini.M.opt (js.mapM fun i => env[i]?.join)) fun ws h =>
      Mini.M.opt ((Mini.keysOf (fun v => C.act (.clo k ws) [v]) h xs).map fun ps => .lst (Mini.sortP ps)) h) h1) R1 h1 H1 σ (fpost L G R h H Q)) J ⟨R, h, env, rh, re, ?_⟩) fun us s1 hh => ?_) (by rw [he]; rfl) (by rw [he]; rfl) (by rfl) (by rfl)
  · simp only [evalEs]
    unfold Mini.M.bind
    cases e1 : evalE C e env h with
    | ok x h1 =>
      rw [e1] at y0
      intro R1 H1 t r V rV
      cases rV with
      | cons a b =>
        cases b
        exact ⟨R1, h1, x, _, rfl, t, r, a, y0 R1 H1 t r⟩
    | exn c v h1 => rw [e1] at y0; exact y0
    | bad => rw [e1] at y0; exact y0
  obtain ⟨vs, H1, J1, rvu, R1, h1, x, V, rfl, t1, r1, rx, y1⟩ := hh
  obtain ⟨xs, ex, y2⟩ := SemR.opt (SemR.bind y1)
  obtain ⟨ws, ews, y3⟩ := SemR.opt (SemR.bind (y2 R1 H1 Xt.refl r1))
  obtain ⟨out, eo, y4⟩ := SemR.opt (y3 R1 H1 Xt.refl r1)
  obtain ⟨ps, eps, rfl⟩ := Option.map_eq_some_iff.mp eo
  obtain ⟨exs, hkeys⟩ := keysOf_all eps
  obtain ⟨cs, rc, lc, hcs⟩ := caps_vr (re.mono (t1.mo rh)) js ws ews hex
  obtain ⟨l, Vs, rfl, hlH, rvs⟩ := lstOf_at r1 rx ex
  obtain rfl := Vals.ref1 rvu
  show wpAny _ _ (evalAll [(do let v ← eval (.Lambda I.prs I.body I.sc pl) X.env; standAt pos; pure v)]) _ _ s1
  refine wpAny_evalAll_cons (wpAny_bind ?_)
  -- behind the making
  have go : ∀ (s0 : Shared) (dV : Value), Inv X pins σ H1 s0 → DfO I.ds dV s0.heap H1 (X.env.locals :: X.fs) →
      wpAny (model X.prog X.w) X.A (makeTail "<lambda>" (X.env.qual ++ "<lambda>") I.prs (.expr I.body) I.sc X.env dV .none none pl pl.line) (fun v s2 => wpAny (model X.prog X.w) X.A (call (.builtin "sorted") [.ref l] [(Str.ofString "key", v)]) (EP X pins σ Q) X.xe s2) X.xe s0 := by
    intro s0 dV J0 d0
    refine lm_tail (T := L.T) (c := c) (P := I.P) J0 TB hcode (by rw [hq]; exact hm) (by rw [hq]; exact huq) r1.tab hfreeC d0 fun f c1 pm ct H2 s2 J2 x1 t2 tab2 hf hHf hfr hc1 d1 hps => ?_
    obtain ⟨ps1, hP1, hcp⟩ := hps
    rw [hq] at hf
    have r2 := hr_ext (G := G) r1 x1 t2 tab2
    have xt2 : Xt R1 h1 H1 R1 h1 H2 := xt_ext x1 t2
    have mo2 := xt2.mo r1
    obtain ⟨pd, hpd, hd2⟩ : ∃ pd : List (Addr × PySem.Obj), (∀ p ∈ pd, s2.heap.get? p.1 = some p.2 ∧ H2 p.1 = none ∧ p.1 ≠ X.env.locals ∧ p.1 ∉ X.fs ∧ ∀ v, p.2.data ≠ .cell v) ∧ ∀ (h2 : PySem.Heap) (H2 : Hp), (∀ p ∈ pd, h2.get? p.1 = some p.2 ∧ H2 p.1 = none) → DfO I.ds dV h2 H2 (X.env.locals :: X.fs) := by
      rcases d1 with z | ⟨t, us, z1, z2, z3, z4, z5⟩
      · exact ⟨[], ⟨fun p hp => (by cases hp), fun _ _ _ => .inl z⟩⟩
      · refine ⟨[(t, { cls := .type "tuple", data := .seq us.toArray })], ⟨fun p hp => ?_, fun h2 H2 hh => ?_⟩⟩
        · obtain rfl := List.mem_singleton.mp hp
          exact ⟨z3, z4, fun z => z5 (by rw [show t = X.env.locals from z]; exact List.mem_cons_self), fun z => z5 (List.mem_cons_of_mem _ z), fun v z => by cases z⟩
        · obtain ⟨w1, w2⟩ := hh _ List.mem_cons_self
          exact .inr ⟨t, us, z1, z2, w1, w2, z5⟩
    have J2' : Inv X (pins ++ ((f, lmO I.q I.prs I.body I.sc (cloFrom X.env.cells I.sc.names []) dV pm c1 ct) :: pd)) σ H2 s2 := J2.pins_of fun q hq' => by
      rcases List.mem_append.mp hq' with z | z
      · exact J2.pin q (List.mem_append_right _ z)
      · rcases List.mem_cons.mp z with z | z
        · rw [z]
          exact ⟨hf, hHf, fun z => hfr (by rw [show f = X.env.locals from z]; exact List.mem_cons_self), fun z => hfr (List.mem_cons_of_mem _ z), fun v z => by cases z⟩
        · exact hpd q z
    obtain ⟨l2, Vs2, el, hl2, rvs2⟩ := lstOf_at r2 (rx.mono mo2) ex
    cases el
    obtain ⟨its, rz, plist, hz⟩ := J2.list (SqL.of hl2)
    have hz2 : its.length ≤ sizeLine := by rw [← Paired.length rz]; exact hz
    have CAe : ∀ H' s', Inv X (pins ++ ((f, lmO I.q I.prs I.body I.sc (cloFrom X.env.cells I.sc.names []) dV pm c1 ct) :: pd)) σ H' s' → (∀ a ps, H2 a = some (.tbl ps) → ∃ more : Array Value, H' a = some (.tbl (ps ++ more))) → CloAt I cs s' H' X.stack f := fun H' s' J' tb => by
      have pinf := J'.pin (f, lmO I.q I.prs I.body I.sc (cloFrom X.env.cells I.sc.names []) dV pm c1 ct) (List.mem_append_right _ (List.mem_append_right _ List.mem_cons_self))
      have dd := hd2 s'.heap H' fun q hq' => by
        have w := J'.pin q (List.mem_append_right _ (List.mem_append_right _ (List.mem_cons_of_mem _ hq')))
        exact ⟨w.1, w.2.1⟩
      obtain ⟨more, hP2⟩ := tb _ _ hP1
      exact cloAt_of J' hfreeC hcap hjs hvis pinf.1 pinf.2.1 hfr dd hP2 (by rw [Array.toList_append]; exact among_more _ _ hcp) lc hcs
    refine wpAny_mono (sort_run (ps := ps) (zs := Vs2) (its := its) (Q := Q) sl hA hI hr hgd hu J2' CAe clo r2 (rc.mono mo2) plist.isList rz (by rw [← exs]; exact rvs2) hz2 (fun i n v e => hkeys i n v e) fun p H3 R3 out hp2 hp3 t3 r3 ro => ?_) (fun v s3 hq => ?_) fun _ _ z => z
    · have t13 : Xt R1 h1 H1 R3 h1 H3 := xt2.trans r2 t3
      have y5 := y4 R3 (upd H3 p (.lst out)) (t13.trans r3 (xt_aux hp3)) (r3.aux hp3)
      exact y5.1 _ p out H3 rfl (fresh_back (t1.trans r1 t13) r3 hp3) hp3 rfl (t1.trans r1 t13) r3 ro
    · obtain ⟨V3, H3, J3, e3, q3⟩ := hq
      exact ⟨V3, H3, J3.pins_of fun q hq' => J3.pin q (List.mem_append_right _ (List.mem_append_left _ hq')), e3, q3⟩
  have fin : ∀ (v : Value) (s2 : Shared), wpAny (model X.prog X.w) X.A (call (.builtin "sorted") [.ref l] [(Str.ofString "key", v)]) (EP X pins σ Q) X.xe s2 → wpAny (model X.prog X.w) X.A (do standAt pos; pure v) (fun v s3 => wpAny (model X.prog X.w) X.A (evalAll []) (fun vs s4 => wpAny (model X.prog X.w) X.A (call (.builtin "sorted") [.ref l] (((backToKw pos (keywordEach [⟨some (nm "key"), .Lambda I.prs I.body I.sc pl, kp⟩] X.env)).filterMap (·.1)).zip (v :: vs))) (EP X pins σ Q) X.xe s4) X.xe s3) X.xe s2 := by
    intro v s2 hv
    exact wpAny_bind (wpAny_standAt (wpAny_pure (wpAny_evalAll_nil hv)))
  refine lm_eval hdef hk hk2 (fun z tk' => wpAny_mono (go _ _ (J1.kept fun _ _ q => q) (.inl ⟨z, rfl⟩)) (fun v s2 hv => fin v s2 hv) fun _ _ z => z) fun z us tk' r => wpAny_mono (go _ _ (J1.kept fun b o q => Heap.get?_push_of_some _ q) (.inr ⟨_, us, rfl, r, Heap.get?_push_size _ rfl, J1.hok.fresh (Nat.le_refl _), fun q => ?_⟩)) (fun v s2 hv => fin v s2 hv) fun _ _ z => z
  rcases List.mem_cons.mp q with w | w
  · have h1 := J1.lt
    rw [← w] at h1
    exact Nat.lt_irrefl _ h1
  · exact J1.nofs (Nat.le_refl _) w
end
end MS

set_option Elab.async false
set_option linter.all false
set_option maxRecDepth 100000
set_option maxHeartbeats 4000000
/-! TK: sorted with reverse=True; of a dict made of pairs -/
namespace MS
open PySem PySem.Spec PyProof.Rows L2 PySem.Calls PySem.W
open Mini (Val Res Ex Tg Out evalE evalEs evalI evalTs)
theorem downI_one {ys ns : List Int} (p : ys.Perm ns) (o : ys.Pairwise (· ≥ ·)) : ys = Mini.downI ns := by
  have tr : ∀ a b c : Int, decide (b ≤ a) = true → decide (c ≤ b) = true → decide (c ≤ a) = true := fun a b c h1 h2 => by
    simp only [decide_eq_true_eq] at *; omega
  have to : ∀ a b : Int, (decide (b ≤ a) || decide (a ≤ b)) = true := fun a b => by
    simp only [Bool.or_eq_true, decide_eq_true_eq]; omega
  have s1 := List.pairwise_mergeSort (le := fun a b : Int => decide (b ≤ a)) tr to ns
  have p1 := List.mergeSort_perm ns (fun a b : Int => decide (b ≤ a))
  refine List.Perm.eq_of_pairwise (le := fun a b : Int => a ≥ b) (fun a b _ _ h1 h2 => by omega) o ?_ (p.trans p1.symm)
  exact s1.imp fun {a b} h => by simpa using h
section
variable {L : Lk} {G : Cr} {W : WX} {C : Mini.Cx} {X : L2.Cx}
theorem biInts_some {h : Mini.Heap} {w : Val} {ns : List Int} {f : List Int → Option Val} (e : (Mini.lstOf h w).bind Mini.intsOf = some ns) : Mini.biInts f h [w] = f ns := by
  unfold Mini.biInts
  dsimp only
  rw [e]; rfl
open Classical in
/-- the pair that stands at a value -/
noncomputable def pairAt (h : PySem.Heap) (v : Value) : Int × Int := if q : ∃ p : Int × Int, Srt.IsPair h v p.1 p.2 then q.choose else (0, 0)
theorem pair_one {h : PySem.Heap} {v : Value} {x y x' y' : Int} (a : Srt.IsPair h v x y) (b : Srt.IsPair h v x' y') : x = x' ∧ y = y' := by
  obtain ⟨c, o, t, u, n, rfl, e1, _, e2⟩ := a
  obtain ⟨c', o', t', u', n', e0, e3, _, e4⟩ := b
  cases e0
  rw [e1] at e3
  cases e3
  rw [e2] at e4
  simp only [Data.seq.injEq, Array.mk.injEq, List.cons.injEq, Value.int.injEq] at e4
  exact ⟨e4.1.1.1, e4.1.2.1.1⟩
theorem pairAt_of {h : PySem.Heap} {v : Value} {x y : Int} (a : Srt.IsPair h v x y) : pairAt h v = (x, y) := by
  unfold pairAt
  have q : ∃ p : Int × Int, Srt.IsPair h v p.1 p.2 := ⟨(x, y), a⟩
  rw [dif_pos q]
  have := pair_one q.choose_spec a
  exact Prod.ext this.1 this.2
def PrsOf (K : PySem.W.Frag) (H : Hp) (us : List L2.V) (ps : List (Int × Int)) : Prop := Paired (fun u (p : Int × Int) => ∃ t, u = L2.V.ref t ∧ SqT K H t [.int p.1, .int p.2]) us ps
theorem downP_one {ys ps : List (Int × Int)} (p : ys.Perm ps) (o : ys.Pairwise fun a b => b.1 < a.1 ∨ (b.1 = a.1 ∧ b.2 ≤ a.2)) : ys = Mini.downP ps := by
  have tr : ∀ a b c : Int × Int, decide (b.1 < a.1 ∨ (b.1 = a.1 ∧ b.2 ≤ a.2)) = true → decide (c.1 < b.1 ∨ (c.1 = b.1 ∧ c.2 ≤ b.2)) = true → decide (c.1 < a.1 ∨ (c.1 = a.1 ∧ c.2 ≤ a.2)) = true := fun a b c h1 h2 => by
    simp only [decide_eq_true_eq] at *; omega
  have to : ∀ a b : Int × Int, (decide (b.1 < a.1 ∨ (b.1 = a.1 ∧ b.2 ≤ a.2)) || decide (a.1 < b.1 ∨ (a.1 = b.1 ∧ a.2 ≤ b.2))) = true := fun a b => by
    simp only [Bool.or_eq_true, decide_eq_true_eq]; omega
  have s1 := List.pairwise_mergeSort (le := fun a b : Int × Int => decide (b.1 < a.1 ∨ (b.1 = a.1 ∧ b.2 ≤ a.2))) tr to ps
  refine List.Perm.eq_of_pairwise (le := fun a b : Int × Int => b.1 < a.1 ∨ (b.1 = a.1 ∧ b.2 ≤ a.2)) (fun a b _ _ h1 h2 => Prod.ext (by omega) (by omega)) o ?_ (p.trans (List.mergeSort_perm ps _).symm)
  exact s1.imp fun {a b} h => by simpa using h
theorem prs_back {K : PySem.W.Frag} {H : Hp} {k : Value → Int × Int} : ∀ (l : List Value), (∀ u ∈ l, ∃ t, u = Value.ref t ∧ SqT K H t [.int (k u).1, .int (k u).2]) → ∃ zs, Vals zs l ∧ PrsOf K H zs (l.map k)
  | [], _ => ⟨[], .nil, .nil⟩
  | u :: r, h => by
    obtain ⟨zs, a, b⟩ := prs_back r fun x hx => h x (List.mem_cons_of_mem _ hx)
    obtain ⟨t, rfl, q⟩ := h u List.mem_cons_self
    exact ⟨.ref t :: zs, .cons rfl a, .cons ⟨t, rfl, q⟩ b⟩
theorem prs_look {pins : List (Addr × PySem.Obj)} {σ : L2.St} {H : Hp} {s : Shared} (J : Inv X pins σ H s) : ∀ {us : List L2.V} {its : List Value} {ps : List (Int × Int)}, Vals us its → PrsOf X.K H us ps → its.map (pairAt s.heap) = ps ∧ ∀ u ∈ its, ∃ t, u = Value.ref t ∧ SqT X.K H t [.int (pairAt s.heap u).1, .int (pairAt s.heap u).2] ∧ Srt.IsPair s.heap u (pairAt s.heap u).1 (pairAt s.heap u).2
  | _, _, _, .nil, .nil => ⟨rfl, fun u hu => by cases hu⟩
  | _, _, _, .cons (b := u) r rs, .cons (b := p) h hs => by
    obtain ⟨t, rfl, q⟩ := h
    obtain rfl : u = Value.ref t := r
    obtain ⟨its2, r2, ⟨o, ho, hc, n, hd⟩, _⟩ := J.tuple q
    obtain ⟨w1, w2, rfl, ⟨t1, rfl⟩, ⟨t2, rfl⟩⟩ := vals2 r2
    have isp : Srt.IsPair s.heap (Value.ref t) p.1 p.2 := ⟨t, o, t1, t2, n, rfl, ho, hc, hd⟩
    have e := pairAt_of isp
    obtain ⟨a, b⟩ := prs_look J rs hs
    refine ⟨by rw [List.map_cons, a, e], fun x hx => ?_⟩
    rcases List.mem_cons.mp hx with rfl | hx
    · rw [e]; exact ⟨t, rfl, q, isp⟩
    · exact b x hx
theorem cr_downP : CallRK X (.builtin "sorted") [nm "reverse"] (fun xs zs H Q => ∃ (a : Addr) (us : List L2.V) (ps : List (Int × Int)), xs = [.ref a] ∧ zs = [.bl true] ∧ (SqL X.K H a us ∨ SqT X.K H a us) ∧ PrsOf X.K H us ps ∧
    ∀ (out : List L2.V) (p : Addr), PrsOf X.K H out (Mini.downP ps) → H p = none → Q (.ref p) (upd H p (.lst out))) := by
  intro pins s σ H xs zs us' ws Q J r rz ⟨a, us, ps, e1, e2, hs, hp, q⟩
  subst e1
  subst e2
  obtain rfl := Vals.ref1 r
  obtain ⟨w1, rfl, (e3 : w1 = Value.bool true)⟩ := vals1 rz
  subst e3
  obtain ⟨its, T, o, n, rv, hT, ho, hc, hd, hz⟩ : ∃ (its : List Value) (T : String) (o : PySem.Obj) (n : Nat), Vals us its ∧ (T = "list" ∨ T = "tuple") ∧ s.heap.get? a = some o ∧ o.cls = .type T ∧ o.data = .seq its.toArray n ∧ us.length ≤ sizeLine := by
    rcases hs with hs | hs
    · obtain ⟨its, rv, ⟨o, n, ho, hc, _, hd⟩, z⟩ := J.list hs
      exact ⟨its, "list", o, n, rv, .inl rfl, ho, hc, hd, z⟩
    · obtain ⟨its, rv, ⟨o, ho, hc, n, hd⟩, z⟩ := J.tuple hs
      exact ⟨its, "tuple", o, n, rv, .inr rfl, ho, hc, hd, z⟩
  obtain ⟨lk1, lk2⟩ := prs_look J rv hp
  have lz : its.length ≤ sizeLine := by rw [← Paired.length rv]; exact hz
  show wpAny _ _ (call (.builtin "sorted") [.ref a] [(Str.ofString "reverse", .bool true)]) _ _ s
  refine call_function_entry_kw PyProof.Rows.kind_sorted PyProof.Rows.plain_sorted PyProof.Rows.entry_sorted (PyProof.Rows.args_sorted_rev _ _) ?_
  unfold Builtin.«sorted»
  refine wpAny_bind (m := checkCount "sorted" 1 1 _) (wpAny_pure (wpAny_bind (wpAny_collect_seq (A := X.A.in1) a hT ho hc hd (fun h2 hk => ?_) (by simpa using lz))))
  have J2 : Inv X pins σ H { s with heap := h2, toks := s.toks } := J.kept hk
  rw [List.toList_toArray]
  have hoL : (h2.push (seqObj "list" its.toArray 0)).get? h2.objs.size = some (seqObj "list" its.toArray 0) := Heap.get?_push_size _ rfl
  have keep : ∀ b u, s.heap.get? b = some u → (h2.push (seqObj "list" its.toArray 0)).get? b = some u := fun b u e => Heap.get?_push_of_some _ (hk b u e)
  refine wpAny_bind (wpAny_newList ?_ lz)
  show wpAny _ _ _ _ _ { s with heap := h2.push (seqObj "list" its.toArray 0) }
  refine wpAny_bind (wpAny_holding (wpAny_call_entry_kw PyProof.Rows.slot_list_sort ⟨_, hoL, rfl⟩ PyProof.Rows.entry_list_sort (SrtR.list_sort_ordR (b := true) (SrtO.swo_lex (pairAt s.heap)) hoL lz (fun g2 => SrtO.pairs_sortableO (by omega) (fun u hu => ?_) fun o' e => ?_) fun out g1 g2 => ⟨_, rfl, ?_⟩) (PyProof.Rows.args_list_sort_rev _ _)))
  · obtain ⟨_, _, _, isp⟩ := lk2 u hu
    exact isp.keeps fun b o e _ => keep b o e
  · have z : seqObj "list" its.toArray 0 = o' := Option.some.inj (hoL.symm.trans e)
    subst z
    intro z
    injection z with z3
    exact absurd z3 (by decide)
  have pm : out.Perm its := g2.perm.trans (List.reverse_perm _)
  obtain ⟨vs, k1, k2⟩ := prs_back (K := X.K) (H := H) (k := pairAt s.heap) out.reverse fun u hu => by
    obtain ⟨t, e, q1, _⟩ := lk2 u (pm.mem_iff.mp (List.mem_reverse.mp hu))
    exact ⟨t, e, q1⟩
  have ed : out.reverse.map (pairAt s.heap) = Mini.downP ps := by
    refine downP_one ?_ ?_
    · rw [← lk1]
      exact ((List.reverse_perm out).trans pm).map _
    · rw [List.pairwise_map, List.pairwise_reverse]
      refine g1.imp fun {x y} hxy => ?_
      have := SrtO.lexB_no.mp hxy
      omega
  rw [ed] at k2
  obtain ⟨e', he'⟩ := PyProof.Rows.sortedHeap_at (vs := its) (out := out.toArray.reverse) hoL
  have lo : vs.length ≤ sizeLine := by
    rw [Paired.length k1, List.length_reverse, pm.length_eq]; exact lz
  refine wpAny_pure ⟨_, rfl, .ref h2.objs.size, upd H h2.objs.size (.lst vs), J2.laid (t' := s.toks) (fun b u e => ?_) (Nat.le_refl _) ⟨lo, _, e', k1, ?_⟩, rfl, q vs _ k2 (J2.hok.fresh (Nat.le_refl _))⟩
  · have hb : b < h2.objs.size := Heap.lt_size e
    refine (PyProof.Rows.sortedHeap_old (Nat.ne_of_lt hb) ?_).trans (Heap.get?_push_of_some _ e)
    rw [size_push']; exact Nat.lt_succ_of_lt hb
  · have ea : out.reverse.toArray = out.toArray.reverse := by
      apply Array.ext'
      rw [Array.toList_reverse]
    rw [ea]; exact he'
theorem prs_vs {R : Mp} {H : Hp} {n : Nat} : ∀ {xs : List Val} {ys : List L2.V} {ps : List (Int × Int)}, VRsL L G H R n xs ys → Mini.pairsOf xs = some ps → PrsOf L.K H ys ps
  | _, _, ps, .nil, e => by
    cases e
    exact .nil
  | _, _, ps, .cons (x := x) (xs := xs) r t, e => by
    unfold Mini.pairsOf at e
    split at e
    · rename_i e0; cases e0
    · rename_i i j w e0
      cases e0
      obtain ⟨pr, e1, rfl⟩ := Option.map_eq_some_iff.mp e
      cases r with
      | tup q rs =>
        cases rs with
        | cons a b => cases b with
          | cons c d =>
            cases d
            cases a.in
            cases c.in
            exact .cons ⟨_, rfl, q⟩ (prs_vs t e1)
    · cases e
theorem vs_prs {R : Mp} {H : Hp} {n : Nat} : ∀ {ys : List L2.V} {ps : List (Int × Int)}, PrsOf L.K H ys ps → VRsL L G H R n (ps.map Mini.pairV) ys
  | _, _, .nil => .nil
  | _, _, .cons ⟨t, e, q⟩ r => by
    subst e
    exact .cons (.tup q (.cons (.int _) (.cons (.int _) .nil))) (vs_prs r)
/-- sorted(xs, reverse=True): whole numbers, pairs of them -/
theorem sound_sortr {E : Expr} {e : Ex} {p kp cp pos : Pos} {ck : Nat} (sl : SameL L X) (hg : Gl X (nm "sorted")) (hmm : X.mg (nm "sorted") = none) (ha : PA X [E] (semA L G W C [e])) (he : starEach [E] X.env = [(false, eval E X.env)]) :
    PE X (.Call (.Name (nm "sorted") p) [E] [⟨some (nm "reverse"), .Constant (.bool true) ck cp, kp⟩] pos) (semF L G W C (.bi .sortr [e])) := by
  have both : CallRK X (.builtin "sorted") [nm "reverse"] (fun xs zs H Q => rSortedKw X.K true [.bl true] xs zs H Q ∨ ∃ (a : Addr) (us : List L2.V) (ps : List (Int × Int)), xs = [.ref a] ∧ zs = [.bl true] ∧ (SqL X.K H a us ∨ SqT X.K H a us) ∧ PrsOf X.K H us ps ∧ ∀ (out : List L2.V) (p : Addr), PrsOf X.K H out (Mini.downP ps) → H p = none → Q (.ref p) (upd H p (.lst out))) := by
    intro pins s σ H xs zs us ws Q J r rz hq
    rcases hq with hq | hq
    · exact cr_sortedRev pins s σ H xs zs us ws Q J r rz hq
    · exact cr_downP pins s σ H xs zs us ws Q J r rz hq
  refine (pe_callBK both hg hmm (by first | rfl | kernel_rfl) ha (pk_cons pe_bl pk_nil) (by decide +kernel) (by decide +kernel) (by rw [he]; rfl) (by rw [he]; rfl) (by rfl) (by rfl) (by rfl)).imp ?_
  rintro σ H Q ⟨R, h, env, rh, re, x⟩
  simp only [evalE] at x
  refine ⟨R, h, env, rh, re, x.bind.imp fun R1 h1 H1 vs t1 r1 x1 => fun us rus => ?_⟩
  obtain ⟨v, e1, f⟩ := x1.opt
  have e1 : Mini.biSortR h1 vs = some v := e1
  unfold Mini.biSortR at e1
  split at e1
  · rename_i w
    split at e1
    · rename_i ns e2
      cases e1
      obtain ⟨a, ns', rfl, q1, e3⟩ := ints_at (f := fun ns => some (.lst ((Mini.downI ns).map .int))) (v := .lst ((Mini.downI ns).map .int)) r1 rus (by rw [biInts_some e2])
      simp only [Option.some.injEq, Val.lst.injEq] at e3
      refine .inl ⟨a, ns', rfl, rfl, by rw [sl.K]; exact q1, fun ys p hp ho hn => ?_⟩
      obtain rfl := downI_one hp ho
      rw [← e3] at f
      exact (f R1 _ (xt_aux hn) (r1.aux hn)).1 _ p _ H1 rfl (fresh_back t1 r1 hn) hn rfl t1 r1 (ints_vr _)
    · obtain ⟨ps, e2, rfl⟩ := Option.map_eq_some_iff.mp e1
      obtain ⟨xs, e3, e4⟩ := Option.bind_eq_some_iff.mp e2
      obtain ⟨u, rfl, ru⟩ := rus.one
      obtain ⟨a, ys, rfl, q1, rv⟩ := seqOf_at r1 ru e3
      have pv := prs_vs rv e4
      refine .inr ⟨a, ys, ps, rfl, rfl, by rw [sl.K]; exact q1, by rw [sl.K]; exact pv, fun out p ho hn => ?_⟩
      rw [sl.K] at ho
      exact (f R1 _ (xt_aux hn) (r1.aux hn)).1 _ p _ H1 rfl (fresh_back t1 r1 hn) hn rfl t1 r1 (vs_prs ho)
  · cases e1
/-! ### sorted: whole numbers, a dict's keys -/
theorem upI_one {ys ns : List Int} (p : ys.Perm ns) (o : ys.Pairwise (· ≤ ·)) : ys = Mini.upI ns := by
  have tr : ∀ a b c : Int, decide (a ≤ b) = true → decide (b ≤ c) = true → decide (a ≤ c) = true := fun a b c h1 h2 => by
    simp only [decide_eq_true_eq] at *; omega
  have to : ∀ a b : Int, (decide (a ≤ b) || decide (b ≤ a)) = true := fun a b => by
    simp only [Bool.or_eq_true, decide_eq_true_eq]; omega
  have s1 := List.pairwise_mergeSort (le := fun a b : Int => decide (a ≤ b)) tr to ns
  refine List.Perm.eq_of_pairwise (le := fun a b : Int => a ≤ b) (fun a b _ _ h1 h2 => by omega) o ?_ (p.trans (List.mergeSort_perm ns _).symm)
  exact s1.imp fun {a b} h => by simpa using h
def rUpD : List L2.V → Hp → VK → Prop := fun xs H Q => ∃ (a : Addr) (kvs : List (Key × L2.V)) (ks : List Int), xs = [.ref a] ∧ H a = some (.dK kvs) ∧ kvs.map (·.1) = ks.map Sum.inl ∧ ∀ (ys : List Int) (p : Addr), ys.Perm ks → ys.Pairwise (· ≤ ·) → H p = none → Q (.ref p) (upd H p (.lst (ys.map L2.V.int)))
theorem kd_shape {v : Value} {k : Int} (e : keyIs (Sum.inl k) v = true) : ∃ t, v = Value.int k t := by
  rcases keyIs_shape e with ⟨i, t, q, rfl⟩ | ⟨z, t, q, rfl⟩
  · cases q; exact ⟨t, rfl⟩
  · cases q
theorem cr_upD (calm : X.calm = true) : CallR X (.builtin "sorted") rUpD := by
  intro pins s σ H xs us Q J r ⟨a, kvs, ks, e1, hd, hks, q⟩
  subst e1
  obtain rfl := Vals.ref1 r
  obtain ⟨z, lo, vs, rel, dd⟩ := dk_of J.hok hd
  obtain ⟨ep, hat⟩ := dd.dictAt
  have hkv : vs.map (·.1) = ks.map Sum.inl := rel.keys.symm.trans hks
  have hl : vs.length = ks.length := by simpa using congrArg List.length hkv
  have lz : kvs.length = ks.length := by simpa using congrArg List.length hks
  have h16 : vs.length ≤ sizeLine := by rw [hl, ← lz]; exact z
  refine call_function_entry PyProof.Rows.kind_sorted PyProof.Rows.plain_sorted PyProof.Rows.entry_sorted (PyProof.Rows.args_sorted1 _) ?_
  unfold Builtin.«sorted»
  refine wpAny_bind (m := checkCount "sorted" 1 1 _) (wpAny_pure (wpAny_bind (kdu_collect (A := X.A.in1) (kdl_dict (knd := mixKind X.prog X.w) (kvs := vs) (ep := ep) lo) (J.ok.hd calm) hat h16 fun h2 tk acc hk hacc => ?_)))
  have hal : acc.toList.length = ks.length := by rw [Array.length_toList, hacc.1, hl]
  have hI : IntsAre acc.toList ks := ints_each hal fun j v e => by
    obtain ⟨k, x, f1, f2⟩ := hacc.2 j v (by rw [← Array.getElem?_toList]; exact e)
    have f3 : (ks.map Sum.inl)[j]? = some k := by rw [← hkv, List.getElem?_map, f1]; rfl
    rw [List.getElem?_map] at f3
    obtain ⟨y, f4, f5⟩ := Option.map_eq_some_iff.mp f3
    subst f5
    obtain ⟨t, rfl⟩ := kd_shape f2
    exact ⟨y, t, f4, rfl⟩
  have J2 : Inv X pins σ H { s with heap := h2, toks := tk } := J.kept hk
  have hz2 : acc.toList.length ≤ sizeLine := by rw [hal, ← lz]; exact z
  have hoL : (h2.push (seqObj "list" acc.toList.toArray 0)).get? h2.objs.size = some (seqObj "list" acc.toList.toArray 0) := Heap.get?_push_size _ rfl
  refine wpAny_bind (wpAny_newList ?_ hz2)
  show wpAny _ _ _ _ _ { s with heap := h2.push (seqObj "list" acc.toList.toArray 0), toks := tk }
  refine wpAny_bind (wpAny_holding (wpAny_call_entry PyProof.Rows.slot_list_sort ⟨_, hoL, rfl⟩ PyProof.Rows.entry_list_sort (SrtO.list_sort_ord SrtO.swo_int hoL hz2 (fun g2 => SrtO.ints_sortable hI g2) fun out g1 g2 => ⟨_, rfl, ?_⟩) (PyProof.Rows.args_list_sort _)))
  obtain ⟨k1, k2, k3⟩ := SrtO.ints_out hI g1 g2
  obtain ⟨e', he'⟩ := PyProof.Rows.sortedHeap_at (vs := acc.toList) (out := out.toArray) hoL
  have hz3 : ((out.map SrtO.iv).map L2.V.int).length ≤ sizeLine := by
    rw [List.length_map, k2.length_eq, ← lz]; exact z
  refine wpAny_pure ⟨_, rfl, .ref h2.objs.size, upd H h2.objs.size (.lst ((out.map SrtO.iv).map L2.V.int)), J2.laid (t' := tk) (fun b u e => ?_) (Nat.le_refl _) ⟨hz3, _, e', vals_of_ints k1, he'⟩, rfl, q _ _ k2 k3 (J2.hok.fresh (Nat.le_refl _))⟩
  have hb : b < h2.objs.size := Heap.lt_size e
  refine (PyProof.Rows.sortedHeap_old (Nat.ne_of_lt hb) ?_).trans (Heap.get?_push_of_some _ e)
  rw [size_push']; exact Nat.lt_succ_of_lt hb
theorem kv_keys {R : Mp} {H : Hp} {n : Nat} {Γ : Clo} : ∀ {kvs : List (Val × Val)} {ys : List (Key × L2.V)} {ks : List Int}, KVR L.K Γ H R n kvs ys → Mini.intsOf (kvs.map (·.1)) = some ks → ys.map (·.1) = ks.map Sum.inl
  | _, _, _, .nil, e => by cases e; rfl
  | _, _, _, .cons (k := k) e1 _ t, e => by
    cases k <;> simp only [List.map_cons, Mini.intsOf, reduceCtorEq, Option.map_eq_some_iff] at e
    obtain ⟨ms, e2, rfl⟩ := e
    rw [List.map_cons, List.map_cons, kv_keys t e2]
    cases e1; rfl
theorem bi_sorted : BiOk L G .sorted (fun xs H Q => rSortedI L.K xs H Q ∨ rUpD xs H Q) := by
  intro R h H vs v us Q rh rus e q qf
  have e : Mini.biSorted h vs = some v := e
  unfold Mini.biSorted at e
  split at e
  · rename_i w
    split at e
    · rename_i kvs e1
      obtain ⟨ks, e2, rfl⟩ := Option.map_eq_some_iff.mp e
      obtain ⟨u, rfl, ru⟩ := rus.one
      unfold Mini.dictOf at e1
      split at e1
      · rename_i i
        split at e1
        · rename_i ex
          cases e1
          cases ru with
          | ref hi =>
            obtain ⟨ys, q1, r1⟩ := HR.dict rh ex
            refine .inr ⟨_, ys, ks, rfl, q1, kv_keys r1 e2, fun zs p hp ho hn => ?_⟩
            obtain rfl := upI_one hp ho
            exact qf _ _ p rfl hn (ints_vr _)
        · cases e1
      · cases e1
    · obtain ⟨ns, e2, rfl⟩ := Option.map_eq_some_iff.mp e
      obtain ⟨a, ns', rfl, q1, e3⟩ := ints_at (f := fun ns => some (.lst ((Mini.upI ns).map .int))) (v := .lst ((Mini.upI ns).map .int)) rh rus (by rw [biInts_some e2])
      simp only [Option.some.injEq, Val.lst.injEq] at e3
      refine .inl ⟨a, ns', rfl, q1, fun ys p hp ho hn => ?_⟩
      obtain rfl := upI_one hp ho
      rw [← e3] at qf
      exact qf _ _ p rfl hn (ints_vr _)
  · cases e
/-! ### sorted(dict(pairs), reverse=True) -/
theorem cr_downD (calm : X.calm = true) : CallRK X (.builtin "sorted") [nm "reverse"] (fun xs zs H Q => ∃ (a : Addr) (kvs : List (Key × L2.V)) (ks : List Int), xs = [.ref a] ∧ zs = [.bl true] ∧ H a = some (.dK kvs) ∧ kvs.map (·.1) = ks.map Sum.inl ∧
    ∀ (ys : List Int) (p : Addr), ys.Perm ks → ys.Pairwise (· ≥ ·) → H p = none → Q (.ref p) (upd H p (.lst (ys.map L2.V.int)))) := by
  intro pins s σ H xs zs us ws Q J r rz ⟨a, kvs, ks, e1, e2, hd, hks, q⟩
  subst e1
  subst e2
  obtain rfl := Vals.ref1 r
  obtain ⟨w1, rfl, (e3 : w1 = Value.bool true)⟩ := vals1 rz
  subst e3
  obtain ⟨z, lo, vs, rel, dd⟩ := dk_of J.hok hd
  obtain ⟨ep, hat⟩ := dd.dictAt
  have hkv : vs.map (·.1) = ks.map Sum.inl := rel.keys.symm.trans hks
  have hl : vs.length = ks.length := by simpa using congrArg List.length hkv
  have lz : kvs.length = ks.length := by simpa using congrArg List.length hks
  have h16 : vs.length ≤ sizeLine := by rw [hl, ← lz]; exact z
  show wpAny _ _ (call (.builtin "sorted") [.ref a] [(Str.ofString "reverse", .bool true)]) _ _ s
  refine call_function_entry_kw PyProof.Rows.kind_sorted PyProof.Rows.plain_sorted PyProof.Rows.entry_sorted (PyProof.Rows.args_sorted_rev _ _) ?_
  unfold Builtin.«sorted»
  refine wpAny_bind (m := checkCount "sorted" 1 1 _) (wpAny_pure (wpAny_bind (kdu_collect (A := X.A.in1) (kdl_dict (knd := mixKind X.prog X.w) (kvs := vs) (ep := ep) lo) (J.ok.hd calm) hat h16 fun h2 tk acc hk hacc => ?_)))
  have hal : acc.toList.length = ks.length := by rw [Array.length_toList, hacc.1, hl]
  have hI : IntsAre acc.toList ks := ints_each hal fun j v e => by
    obtain ⟨k, x, f1, f2⟩ := hacc.2 j v (by rw [← Array.getElem?_toList]; exact e)
    have f3 : (ks.map Sum.inl)[j]? = some k := by rw [← hkv, List.getElem?_map, f1]; rfl
    rw [List.getElem?_map] at f3
    obtain ⟨y, f4, f5⟩ := Option.map_eq_some_iff.mp f3
    subst f5
    obtain ⟨t, rfl⟩ := kd_shape f2
    exact ⟨y, t, f4, rfl⟩
  have J2 : Inv X pins σ H { s with heap := h2, toks := tk } := J.kept hk
  have hz2 : acc.toList.length ≤ sizeLine := by rw [hal, ← lz]; exact z
  have hoL : (h2.push (seqObj "list" acc.toList.toArray 0)).get? h2.objs.size = some (seqObj "list" acc.toList.toArray 0) := Heap.get?_push_size _ rfl
  refine wpAny_bind (wpAny_newList ?_ hz2)
  show wpAny _ _ _ _ _ { s with heap := h2.push (seqObj "list" acc.toList.toArray 0), toks := tk }
  refine wpAny_bind (wpAny_holding (wpAny_call_entry_kw PyProof.Rows.slot_list_sort ⟨_, hoL, rfl⟩ PyProof.Rows.entry_list_sort (SrtR.list_sort_ordR (b := true) SrtO.swo_int hoL hz2 (fun g2 => SrtO.ints_sortable hI g2) fun out g1 g2 => ⟨_, rfl, ?_⟩) (PyProof.Rows.args_list_sort_rev _ _)))
  obtain ⟨ys, k1, k2, k3⟩ := SrtR.ints_outR (b := true) hI g1 g2
  obtain ⟨e', he'⟩ := PyProof.Rows.sortedHeap_at (vs := acc.toList) (out := out.toArray.reverse) hoL
  have hz3 : (ys.map L2.V.int).length ≤ sizeLine := by
    rw [List.length_map, k2.length_eq, ← lz]; exact z
  refine wpAny_pure ⟨_, rfl, .ref h2.objs.size, upd H h2.objs.size (.lst (ys.map L2.V.int)), J2.laid (t' := tk) (fun b u e => ?_) (Nat.le_refl _) ⟨hz3, _, e', vals_of_ints k1, ?_⟩, rfl, q ys _ k2 k3 (J2.hok.fresh (Nat.le_refl _))⟩
  · have hb : b < h2.objs.size := Heap.lt_size e
    refine (PyProof.Rows.sortedHeap_old (Nat.ne_of_lt hb) ?_).trans (Heap.get?_push_of_some _ e)
    rw [size_push']; exact Nat.lt_succ_of_lt hb
  · simpa using he'
theorem keys_put (acc : List (Key × L2.V)) (ks : List Int) (k : Int) (v : L2.V) (e : acc.map (·.1) = ks.map Sum.inl) : (putK acc (Sum.inl k) v).map (·.1) = (if ks.contains k then ks else ks ++ [k]).map Sum.inl := by
  have hc : (acc.any fun kv => decide (kv.1 = Sum.inl k)) = ks.contains k := by
    have : ∀ (ac : List (Key × L2.V)) (ls : List Int), ac.map (·.1) = ls.map Sum.inl → (ac.any fun kv => decide (kv.1 = Sum.inl k)) = ls.contains k := by
      intro ac
      induction ac with
      | nil => intro ls q; cases ls with
        | nil => rfl
        | cons _ _ => cases q
      | cons p r ih => intro ls q; cases ls with
        | nil => cases q
        | cons b t =>
          simp only [List.map_cons, List.cons.injEq] at q
          simp only [List.any_cons, ih t q.2, q.1, List.contains_cons, Sum.inl.injEq]
          congr 1
          by_cases z : b = k
          · simp [z]
          · simp [z, Ne.symm z]
    exact this acc ks e
  unfold putK
  rw [hc]
  cases ks.contains k with
  | true =>
    rw [if_pos rfl, if_pos rfl, List.map_map, ← e]
    refine List.map_congr_left fun p _ => ?_
    show (if p.1 = Sum.inl k then (p.1, v) else p).1 = p.1
    split <;> rfl
  | false =>
    rw [if_neg (by decide), if_neg (by decide)]
    simp [e]
theorem keys_merge : ∀ (kvs acc : List (Key × L2.V)) (ks as : List Int), kvs.map (·.1) = ks.map Sum.inl → acc.map (·.1) = as.map Sum.inl → (mergeK acc kvs).map (·.1) = (ks.foldl (fun acc k => if acc.contains k then acc else acc ++ [k]) as).map Sum.inl
  | [], acc, [], as, _, e => e
  | p :: r, acc, k :: ks, as, e, ea => by
    simp only [List.map_cons, List.cons.injEq] at e
    show (mergeK (putK acc p.1 p.2) r).map (·.1) = _
    rw [e.1]
    exact keys_merge r _ ks _ e.2 (keys_put acc as k p.2 ea)
  | [], _, _ :: _, _, e, _ => by cases e
  | _ :: _, _, [], _, e, _ => by cases e
theorem fsts_vs {R : Mp} {H : Hp} {n : Nat} : ∀ {xs : List Val} {ys : List L2.V} {ks : List Int}, VRsL L G H R n xs ys → Mini.fstsOf xs = some ks → ∃ (ps : List Addr) (kvs : List (Key × L2.V)), ys = ps.map L2.V.ref ∧ Paired (fun p kv => SqT L.K H p [kV kv.1, kv.2]) ps kvs ∧ kvs.map (·.1) = ks.map Sum.inl
  | _, _, ks, .nil, e => by
    cases e
    exact ⟨[], [], rfl, .nil, rfl⟩
  | _, _, ks, .cons (x := x) (xs := xs) r t, e => by
    unfold Mini.fstsOf at e
    split at e
    · rename_i e0; cases e0
    · rename_i k v w e0
      cases e0
      obtain ⟨kr, e1, rfl⟩ := Option.map_eq_some_iff.mp e
      obtain ⟨ps, kvs, rfl, h2, h3⟩ := fsts_vs t e1
      cases r with
      | tup q rs =>
        cases rs with
        | cons a b => cases b with
          | cons c d =>
            cases d
            cases a.in
            exact ⟨_ :: ps, (Sum.inl k, _) :: kvs, rfl, .cons q h2, by simp [h3]⟩
    · cases e
theorem sound_sortdr {E : Expr} {e : Ex} {p p2 kp cp pos pos2 : Pos} {ck : Nat} (sl : SameL L X) (calm : X.calm = true) (hg : Gl X (nm "sorted")) (hmm : X.mg (nm "sorted") = none) (hg2 : Gl X (nm "dict")) (hm2 : X.mg (nm "dict") = none) (ha : PA X [E] (semA L G W C [e])) (he : starEach [E] X.env = [(false, eval E X.env)]) :
    PE X (.Call (.Name (nm "sorted") p) [.Call (.Name (nm "dict") p2) [E] [] pos2] [⟨some (nm "reverse"), .Constant (.bool true) ck cp, kp⟩] pos) (semF L G W C (.bi .sortdr [e])) := by
  have inner := pe_callTy (p := p2) (pos := pos2) (call_dictP (X := X) calm) hg2 hm2 (by first | rfl | kernel_rfl) ha (by decide +kernel) (by decide +kernel) (by rw [he]; rfl) (by rfl)
  refine (pe_callBK (cr_downD calm) hg hmm (by first | rfl | kernel_rfl) (pa_cons inner pa_nil) (pk_cons pe_bl pk_nil) (by decide +kernel) (by decide +kernel) (by rfl) (by rfl) (by rfl) (by rfl) (by rfl)).imp ?_
  rintro σ H Q ⟨R, h, env, rh, re, x⟩
  simp only [evalE] at x
  refine ⟨R, h, env, rh, re, x.bind.imp fun R1 h1 H1 vs t1 r1 x1 => fun us rus => ?_⟩
  obtain ⟨v, e1, f⟩ := x1.opt
  have e1 : Mini.biSortDR h1 vs = some v := e1
  unfold Mini.biSortDR at e1
  split at e1
  · obtain ⟨u, rfl, ru⟩ := rus.one
    obtain ⟨xs, e2, e3⟩ := Option.bind_eq_some_iff.mp e1
    obtain ⟨ks, e4, rfl⟩ := Option.map_eq_some_iff.mp e3
    obtain ⟨a, ys, rfl, q1, rv⟩ := lstOf_at r1 ru e2
    obtain ⟨ps, kvs, rfl, h2, h3⟩ := fsts_vs rv e4
    refine ⟨a, ps, kvs, rfl, .of q1, by rw [sl.K]; exact h2, fun b hb => ⟨b, _, Mini.firsts ks, rfl, rfl, upd_same, keys_merge kvs [] ks [] h3 rfl, fun zs p hp ho hn => ?_⟩⟩
    obtain rfl := downI_one hp ho
    have r2 : HRL L G R1 h1 (upd H1 b (.dK (mergeK [] kvs))) := r1.aux hb
    have t2 : Xt R h H R1 h1 (upd H1 b (.dK (mergeK [] kvs))) := t1.trans r1 (xt_aux hb)
    exact (f R1 _ ((xt_aux hb).trans r2 (xt_aux hn)) (r2.aux hn)).1 _ p _ _ rfl (fresh_back t2 r2 hn) hn rfl t2 r2 (ints_vr _)
  · cases e1
end
end MS

set_option Elab.async false
set_option linter.all false
set_option maxRecDepth 100000
set_option maxHeartbeats 4000000
/-! TL: is a thing in a list, in a dict -/
namespace MS
open PySem PySem.Spec PyProof.Rows L2
open Mini (Val Res Ex Tg Out evalE evalEs evalI evalTs)
section
variable {L : Lk} {G : Cr} {W : WX} {C : Mini.Cx} {X : L2.Cx}
def rInM (K : PySem.W.Frag) : R2 := fun x y H Q => rInD K x y H Q ∨ ∃ a o, y = .ref a ∧ DGet H a x o ∧ Q (.bl o.isSome) H
def rNotInM (K : PySem.W.Frag) : R2 := fun x y H Q => rNotInD K x y H Q ∨ ∃ a o, y = .ref a ∧ DGet H a x o ∧ Q (.bl (!o.isSome)) H
theorem opr_in (hu : X.A.units + 65 < cLine) : OpR X (compareOp .In) (rInM X.K) := by
  intro pins s σ H x y v u Q I rx ry h
  rcases h with h | ⟨a, o, rfl, g, q⟩
  · exact op_inD hu pins s σ H x y v u Q I rx ry h
  · cases ry
    exact d_in (by omega) I g rx fun s' I' => ⟨.bl _, H, I', rfl, q⟩
theorem opr_notin (hu : X.A.units + 65 < cLine) : OpR X (compareOp .NotIn) (rNotInM X.K) := by
  intro pins s σ H x y v u Q I rx ry h
  rcases h with h | ⟨a, o, rfl, g, q⟩
  · exact op_notInD hu pins s σ H x y v u Q I rx ry h
  · cases ry
    exact d_notIn (by omega) I g rx fun s' I' => ⟨.bl _, H, I', rfl, q⟩
theorem any_dat {x : Val} {d : PyData} {j : Nat} (px : Mini.plain j x = true) (hx : datOf x = some d) : ∀ (ys : List Val) (ds : List PyData) (k : Nat), ys.all (Mini.plain k) = true → datsOf ys = some ds → (ds.any fun z => PyData.eqv z d) = ys.any fun z => Mini.eqv z x
  | [], ds, k, _, e => by cases e; rfl
  | y :: ys, ds, k, p, e => by
    simp only [datsOf] at e
    cases e1 : datOf y with
    | none => rw [e1] at e; cases e
    | some d1 =>
      cases e2 : datsOf ys with
      | none => rw [e1, e2] at e; cases e
      | some ds1 =>
        rw [e1, e2] at e
        cases e
        simp only [List.all_cons, Bool.and_eq_true] at p
        rw [List.any_cons, List.any_cons, any_dat px hx ys ds1 k p.2 e2, eqv_dat y x d1 d k j p.1 px e1 hx]
theorem lookup_kvr {H : Hp} {R : Mp} {n : Nat} {k : Val} {q : Key} (hk : keyOf k = some q) : ∀ {kvs : List (Val × Val)} {ks : List (Key × L2.V)}, KVR L.K G.clo H R n kvs ks → (kvs.lookup k).isSome = (valV ks q).isSome := by
  intro kvs ks r
  obtain ⟨h1, h2⟩ := kvr_val hk r
  cases e : kvs.lookup k with
  | some v =>
    obtain ⟨x, e1, _⟩ := h1 v e
    rw [e1]; rfl
  | none =>
    rw [h2 e]; rfl
/-- what `in` says, said by V -/
theorem in_case {R : Mp} {h : Mini.Heap} {H : Hp} {x y : Val} {b : Bool} {V U : L2.V} (rh : HRL L G R h H) (rx : VRL L G H R h.length x V) (ry : VRL L G H R h.length y U) (e : Mini.isIn h x y = some b) :
    (∃ d ds, Dp L.K H V d ∧ Dp L.K H U (.list ds) ∧ SeqAt.shaped d = true ∧ SeqAt.shaped (.list ds) = true ∧ b = ds.any fun z => PyData.eqv z d) ∨ ∃ a o, U = .ref a ∧ DGet H a V o ∧ b = o.isSome := by
  unfold Mini.isIn at e
  split at e
  · rename_i kvs ed
    split at e
    · rename_i hk
      cases e
      unfold Mini.dictOf at ed
      split at ed
      · split at ed
        · rename_i ex
          cases ed
          cases ry with
          | ref hi =>
            obtain ⟨ks, q1, r1⟩ := HR.dict rh ex
            obtain ⟨qk, hq⟩ := keyOf_flat hk
            exact .inr ⟨_, _, rfl, .inl ⟨ks, qk, .inl q1, keyOf_V hq rx, rfl⟩, lookup_kvr hq r1⟩
        · cases ed
      · cases ed
    · cases e
  · split at e
    · rename_i x' ys e1 e2
      split at e
      · rename_i hp
        cases e
        simp only [Bool.and_eq_true] at hp
        obtain ⟨d, f1, p1⟩ := dp_rd rh rx e1 hp.1
        obtain ⟨d', f2, p2⟩ := dp_rd rh ry e2 hp.2
        have f3 := f2
        simp only [datOf, Option.map_eq_some_iff] at f3
        obtain ⟨ds, f4, rfl⟩ := f3
        have hy := hp.2
        have pl : ys.all (Mini.plain 59) = true := hy
        exact .inl ⟨d, ds, p1, p2, shaped_of (by decide) hp.1 f1, shaped_of (by decide) hp.2 f2, (any_dat hp.1 f1 ys ds 59 pl f4).symm⟩
      · cases e
    · cases e
theorem cmp_in : CmpOk L G .isin (rInM L.K) := by
  intro R h H x y b V U Q rh rx ry e q
  rcases in_case rh rx ry e with ⟨d, ds, h1, h2, h3, h4, rfl⟩ | ⟨a, o, h1, h2, rfl⟩
  · exact .inl ⟨d, ds, h1, h2, h3, h4, q⟩
  · exact .inr ⟨a, o, h1, h2, q⟩
theorem cmp_notin : CmpOk L G .notin (rNotInM L.K) := by
  intro R h H x y b V U Q rh rx ry e q
  have e : (Mini.isIn h x y).map not = some b := e
  cases e0 : Mini.isIn h x y with
  | none => rw [e0] at e; cases e
  | some c =>
    rw [e0] at e
    cases e
    rcases in_case rh rx ry e0 with ⟨d, ds, h1, h2, h3, h4, rfl⟩ | ⟨a, o, h1, h2, rfl⟩
    · exact .inl ⟨d, ds, h1, h2, h3, h4, q⟩
    · exact .inr ⟨a, o, h1, h2, q⟩
end
end MS

set_option Elab.async false
set_option linter.all false
set_option maxRecDepth 100000
set_option maxHeartbeats 4000000
/-! TN: a comprehension whose block knows that it was entered from here -/
namespace MS
open PySem PySem.Spec PyProof.Rows L2
open Mini (Val Res Ex Tg evalE evalEs evalI evalTs)
section
variable {L : Lk} {G : Cr} {W : WX} {C : Mini.Cx} {X : L2.Cx}
/-- entered at u, K from a state of X -/
def Entry (X : L2.Cx) (u : Shared) (K : Hp) (fp : List Addr) : Prop := ∃ pins σ, Inv X pins σ K u ∧ ∀ b ∈ fp, FpOk X pins K b
theorem pe_lcE {elt tg iter : Expr} {ifs : List Expr} {scope : Scope} {own : List (Str × Nat)} {pos : Pos} {wi : TI} {g : TG} {tt : TT} {te : TE} (calm : X.calm = true) (nd : X.N.Nodup) (walk : PI X tg iter wi) (bk : BlkOk X.N X.env.scope scope own)
    (onG : ∀ u K B cl fp, Entry X u K fp → PG (X.blk u K scope (compEnvC scope cl B X.env) fp) tg g) (onT : ∀ u K B cl fp, Entry X u K fp → PTs (X.blk u K scope (compEnvC scope cl B X.env) fp) ifs tt)
    (onE : ∀ u K B cl fp, Entry X u K fp → PE (X.blk u K scope (compEnvC scope cl B X.env) fp) elt te) (plainS : ∀ x, foldedSetIterable iter X.env x = pure x) :
    PE X (.ListComp elt [⟨tg, iter, ifs, 0⟩] scope pos) (tLc wi g tt te (own.map (·.2))) := by
  refine ⟨fun pins sA σ HA Q JA told => ?_⟩
  rw [eval_ListComp]
  have frees : ∀ y ∈ scope.names, y.2 = .free → ∃ c, X.env.cells.lookup y.1 = some c := fun y hy e => JA.ok.has _ (bk.free y hy e)
  refine wpAny_comprehension_free (use := none) rfl plainS (closure_ok frees) bk.kind (fun y hy e => by rw [bk.uniq y hy, e]) (thn (walk.run pins sA σ HA _ JA told) fun _ sB hB => thn hB fun _ sC hC => ?_)
  obtain ⟨it, fp, tn, itc, HC, rfl, JC, T, tC, fC, rest⟩ := hC
  -- the list is laid at the heap's end
  refine wpAny_newObj_type (newEnv_comp ?_) (by show 0 ≤ sizeLine; decide)
  obtain ⟨Wm, ⟨mm, w0⟩, turn⟩ := rest sC.heap.objs.size (JC.hok.fresh (Nat.le_refl _))
  obtain ⟨sD, eD⟩ : ∃ sD : Shared, sD = { sC with heap := sC.heap.push { cls := .type "list", data := .seq ([] : List Value).toArray } } := ⟨_, rfl⟩
  obtain ⟨HD, eHD⟩ : ∃ HD : Hp, HD = upd HC sC.heap.objs.size (.lst []) := ⟨_, rfl⟩
  rw [← eHD] at w0
  have old : ∀ b o, sC.heap.get? b = some o → sD.heap.get? b = some o := fun b o e => by rw [eD]; exact Heap.get?_push_of_some _ e
  have JD : Inv X pins σ HD sD := by
    rw [eD, eHD]
    exact JC.laid (t' := sC.toks) (fun b o e => Heap.get?_push_of_some _ e) (Nat.le_refl _) ⟨Nat.zero_le _, [], 0, .nil, Heap.get?_push_size _ rfl⟩
  have low : ∀ b ∈ fp, b < sC.heap.objs.size := fun b hb => by
    obtain ⟨o, e, _⟩ := T.obj _ _ tC b hb
    exact Heap.lt_size e
  have fD : ∀ b ∈ fp, FpOk X pins HD b ∧ b < sD.heap.objs.size := fun b hb => by
    have lt := low b hb
    refine ⟨⟨?_, (fC b hb).2⟩, by rw [eD]; show b < (sC.heap.push _).objs.size; rw [Heap.size_push]; exact Nat.lt_succ_of_lt lt⟩
    rw [eHD, upd_ne (Nat.ne_of_lt lt)]
    exact (fC b hb).1
  have tD : tn 0 sD.heap := T.keep _ _ _ tC fun b _ o e => old b o e
  have ent : Entry X sD HD fp := ⟨pins, σ, JD, fun b hb => (fD b hb).1⟩
  have JE := block_start JD bk nd fD
  have nf : ∀ b ∈ fp, HD b = none := fun b hb => (fD b hb).1.1
  rw [← eD]
  obtain ⟨cl, ecl⟩ : ∃ cl, cl = cellsFrom (sD.heap.objs.size + 1) scope.names (cloFrom X.env.cells scope.names []) := ⟨_, rfl⟩
  have goalG := onG sD HD sD.heap.objs.size cl fp ent
  have goalT := onT sD HD sD.heap.objs.size cl fp ent
  have goalE := onE sD HD sD.heap.objs.size cl fp ent
  rw [← ecl] at JE
  obtain ⟨sE, eE⟩ : ∃ sE : Shared, sE = { sD with heap := pushCells (sD.heap.push { cls := .type "dict", data := .dict #[] }) scope.names } := ⟨_, rfl⟩
  rw [← eE] at JE
  show codeAny _ _ (.compStart (.ListComp elt [⟨tg, iter, ifs, 0⟩] scope pos) 0 (.ref it) (.ref sC.heap.objs.size) (compEnvC scope (cellsFrom (sD.heap.objs.size + 1) scope.names (cloFrom X.env.cells scope.names [])) sD.heap.objs.size X.env)) _ { sD with heap := pushCells (sD.heap.push { cls := .type "dict", data := .dict #[] }) scope.names }
  rw [← ecl, ← eE]
  obtain ⟨be, ebe⟩ : ∃ be, be = compEnvC scope cl sD.heap.objs.size X.env := ⟨_, rfl⟩
  have bl : be.locals = sD.heap.objs.size := by rw [ebe]; rfl
  rw [← ebe] at JE goalG goalT goalE ⊢
  have tE : tn 0 sE.heap := T.keep _ _ _ tD fun b _ o e => by
    rw [eE]
    exact pushCells_keeps _ _ _ _ (Heap.get?_push_of_some _ e)
  -- what the walked things are to the block
  have still : ∀ {τ : L2.St} {K : Hp} {u : Shared}, Inv (X.blk sD HD scope be fp) [] τ K u → (∀ b ∈ fp, K b = none) → ∀ b ∈ fp, FpOk (X.blk sD HD scope be fp) [] K b := fun {τ K u} I n b hb =>
    ⟨n b hb, (I.ok.exf b hb).1, I.ok.exfs b hb, .inl hb, fun x c e => (I.ok.exf b hb).2 x c e, fun p hp => by cases hp⟩
  have go : ∀ (k : Nat) (u : Shared), (∃ i K, Inv (X.blk sD HD scope be fp) [] (wipe σ (own.map (·.2))) K u ∧ tn i u.heap ∧ (∀ b ∈ fp, K b = none) ∧ Wm i k K) →
      codeAny (model X.prog X.w) X.A (.compLoop (.ListComp elt [⟨tg, iter, ifs, 0⟩] scope pos) 0 (.ref it) (.ref sC.heap.objs.size) be) (compPost (model X.prog X.w) X.A X.xe none (fun v s1 => EP X pins σ Q v s1) (.ref sC.heap.objs.size) sD.heap.objs.size) u := by
    intro k u hu
    refine compLoop_any (fun n s' => ∃ i K, Inv (X.blk sD HD scope be fp) [] (wipe σ (own.map (·.2))) K s' ∧ tn i s'.heap ∧ (∀ b ∈ fp, K b = none) ∧ Wm i n K) (fun n v hv => ?_) k hu
    obtain ⟨i, K, JK, tK, nK, wK⟩ := hv
    rcases turn i n K wK with ⟨halt, done⟩ | ⟨more, Nx, hNx, onTurn⟩
    · refine thnF (T.done (X.blk sD HD scope be fp) rfl rfl rfl calm i [] v _ K (fun _ _ => False) JK (still JK nK) tK halt) fun r v1 ⟨hr, J1⟩ => ?_
      cases hr
      have back : Inv X pins σ K v1 := JD.call' (ch := fp) J1.os J1.base J1.hok J1.bare fun b hb => by
        obtain ⟨_, f1, f2, f3, f4, f5⟩ := (fD b hb).1
        exact ⟨f3, f1, f4, f5⟩
      have bn : K sD.heap.objs.size = none := by
        have z : K be.locals = none := J1.free
        rwa [bl] at z
      obtain ⟨m, hn, _⟩ := J1.loc
      replace hn : v1.heap.Ns be.locals m := hn
      rw [bl] at hn
      obtain ⟨_, f1, f2, f3, f4, f5⟩ := JD.fpOk (Nat.le_refl _) bn
      exact ⟨m, hn, fun hh sb => ⟨.ref sC.heap.objs.size, K, back.turned (t' := v1.toks) (fun b o hb e => (sb.2 b hb).trans e) bn f1 f3 f4 f5, rfl, done⟩⟩
    · refine thnF (T.item (X.blk sD HD scope be fp) rfl rfl rfl calm i [] v _ K (fun _ _ => False) JK (still JK nK) tK more) fun r v1 ⟨itm, hr, h1⟩ => ?_
      cases hr
      refine thnF h1 fun _ v2 ⟨y, K2, J2, ry, yy, t2, n2⟩ => ?_
      refine thnF (goalG.run _ v2 _ K2 y itm _ (J2.pinned (still J2 n2) (T.obj _ _ t2)) ry (onTurn y K2 yy)) fun _ v3 ⟨τ3, K3, J3, w3, q3⟩ => ?_
      refine thnF (goalT.run _ v3 τ3 K3 _ J3 q3) fun b v4 ⟨K4, J4, q4⟩ => ?_
      have fin : ∀ {v' : Shared} {K' : Hp}, Inv (X.blk sD HD scope be fp) ([] ++ pinsAt fp v2.heap) τ3 K' v' → Nx K' → ∃ m, m < n ∧ ∃ i K, Inv (X.blk sD HD scope be fp) [] (wipe σ (own.map (·.2))) K v' ∧ tn i v'.heap ∧ (∀ b ∈ fp, K b = none) ∧ Wm i m K := fun {v' K'} J' nx => by
        obtain ⟨m', lt, w'⟩ := hNx K' nx
        have kept : ∀ b ∈ fp, ∀ o, v2.heap.get? b = some o → v'.heap.get? b = some o ∧ K' b = none := fun b hb o e => by
          have z := J'.pin (b, o) (List.mem_append_right _ (List.mem_append_right _ (mem_pinsAt hb e)))
          exact ⟨z.1, z.2.1⟩
        refine ⟨m', lt, i + 1, K', (J'.unpinned (pins := [])).weak (by rw [← w3, wipe_length]) (fun j v e => ?_), T.keep _ _ _ t2 fun b hb o e => (kept b hb o e).1, fun b hb => ?_, w'⟩
        · rw [← w3] at e
          exact (wipe_some e).1
        · obtain ⟨o, e, _⟩ := T.obj _ _ t2 b hb
          exact (kept b hb o e).2
      cases b with
      | false =>
        rw [if_neg (by decide)] at q4 ⊢
        exact fin J4 q4
      | true =>
        rw [if_pos rfl] at q4 ⊢
        refine thnF (goalE.run _ v4 τ3 K4 _ J4 q4) fun z v5 ⟨zv, K5, J5, rz, acc, at5, lt5, nx⟩ => ?_
        exact app_ok (X := X.blk sD HD scope be fp) J5 at5 lt5 rz fun v6 J6 => fin J6 nx
  have lp := go mm sE ⟨0, HD, JE, tE, nf, w0⟩
  exact codeAny_compStart_list lp (T.self X.A 0 _ _ _ tE lp)
theorem fresh_lcE {elt tg iter : Expr} {ifs : List Expr} {scope : Scope} {own : List (Str × Nat)} {pos : Pos} {e : Ex} {t : Tg} {it : Mini.It} {is : List Ex} (hc : X.calm = true) (hN : X.N.Nodup) (hi : PI X tg iter (semI L G W C it)) (ok : BlkOk X.N X.env.scope scope own)
    (hg : ∀ u K B cl fp, Entry X u K fp → PG (X.blk u K scope (compEnvC scope cl B X.env) fp) tg (semG L G t)) (ht : ∀ u K B cl fp, Entry X u K fp → PTs (X.blk u K scope (compEnvC scope cl B X.env) fp) ifs (semTs L G Wn C is))
    (he : ∀ u K B cl fp, Entry X u K fp → PE (X.blk u K scope (compEnvC scope cl B X.env) fp) elt (semE L G Wn C e)) (hs : ∀ x, foldedSetIterable iter X.env x = pure x)
    (h1 : ∀ j ∈ slots t, j ∈ own.map (·.2)) (h2 : ∀ j ∈ own.map (·.2), j ∈ slots t) : PE X (.ListComp elt [⟨tg, iter, ifs, 0⟩] scope pos) (semF L G W C (.lc e t it is)) := by
  exact (pe_lcE hc hN hi ok hg ht he hs).imp (lc_sem h1 h2)
/-! ### a lambda known within a block -/
/-- the same, its things below n -/
def CloAtN (n : Nat) (I : LamI) (vs : List L2.V) (s : Shared) (H : Hp) (outer : List PySem.Env) (a : Addr) : Prop :=
  ∃ (cl : List (Str × Addr)) (dV pm ct : Value) (c1 : Addr) (pos : Pos) (ps : Array Value), a < n ∧ (∀ t, dV = .ref t → t < n) ∧ (∀ y c, cl.lookup y = some c → c < n) ∧
    s.heap.get? a = some (lmO I.q I.prs I.body I.sc cl dV pm c1 ct) ∧ H a = none ∧ a ∉ frs outer ∧ DfO I.ds dV s.heap H (frs outer) ∧
      H I.P = some (.tbl ps) ∧ codeAmong pos ps.toList = some (.ref c1) ∧
      (∀ y z c, cl.lookup y = some c → cl.lookup z = some c → y = z) ∧ (∀ y, I.sc.names.lookup y = some .free → ∃ c, cl.lookup y = some c) ∧
      (∀ y c, cl.lookup y = some c → (∃ v, s.heap.IsCell c v) ∧ H c = none) ∧
      (∀ (i : Nat) (y : Str) (v : L2.V), I.caps[i]? = some y → vs[i]? = some v → ∃ c u, cl.lookup y = some c ∧ s.heap.IsCell c (some u) ∧ RelV v u) ∧ vs.length = I.caps.length
theorem cloAtN_start {I : LamI} {vs : List L2.V} {s : Shared} {H : Hp} {o : List PySem.Env} {a : Addr} (h : CloAt I vs s H o a) : CloAtN s.heap.objs.size I vs s H o a := by
  obtain ⟨cl, dV, pm, ct, c1, pos, ps, e1, e2, e3, e4, e5, e6, e7, e8, e9, e10, e11⟩ := h
  refine ⟨cl, dV, pm, ct, c1, pos, ps, Heap.lt_size e1, fun t et => ?_, fun y c z => ?_, e1, e2, e3, e4, e5, e6, e7, e8, e9, e10, e11⟩
  · rcases e4 with ⟨_, z⟩ | ⟨t', us, z1, _, z3, _⟩
    · rw [z] at et; cases et
    · rw [z1] at et
      cases et
      exact Heap.lt_size z3
  · obtain ⟨⟨v, w⟩, _⟩ := e9 y c z
    obtain ⟨ob, ho, _⟩ := w
    exact Heap.lt_size ho
theorem CloAtN.at {n : Nat} {I : LamI} {vs : List L2.V} {s : Shared} {H : Hp} {o : List PySem.Env} {a : Addr} (h : CloAtN n I vs s H o a) : CloAt I vs s H o a := by
  obtain ⟨cl, dV, pm, ct, c1, pos, ps, _, _, _, e⟩ := h
  exact ⟨cl, dV, pm, ct, c1, pos, ps, e⟩
theorem cloAtN_un {n : Nat} {I : LamI} {vs : List L2.V} {s s1 : Shared} {H H1 : Hp} {o o1 : List PySem.Env} {ex : List Addr} {a : Addr} (u : Un (frs o) ex H H1 s.heap s1.heap) (hx : ∀ b ∈ ex, n ≤ b) (hf : ∀ b, b < n → b ∉ frs o → b ∉ frs o1) (h : CloAtN n I vs s H o a) : CloAtN n I vs s1 H1 o1 a := by
  obtain ⟨cl, dV, pm, ct, c1, pos, ps, w1, w2, w3, e1, e2, e3, e4, e5, e6, e7, e8, e9, e10, e11⟩ := h
  have nx : ∀ b : Addr, b < n → b ∉ ex := fun b lt z => Nat.lt_irrefl _ (Nat.lt_of_lt_of_le lt (hx b z))
  have cell : ∀ {y : Str} {c : Addr} {v : Option Value}, cl.lookup y = some c → s.heap.IsCell c v → s1.heap.IsCell c v := fun {y c v} z ⟨ob, ho, hd⟩ => by
    obtain ⟨sl, q⟩ := u.any ho (e9 y c z).2 (nx _ (w3 y c z))
    exact ⟨_, q, hd⟩
  obtain ⟨more, e5'⟩ := u.tbls _ _ e5
  refine ⟨cl, dV, pm, ct, c1, pos, ps ++ more, w1, w2, w3, u.keep _ _ e1 e2 e3 (nx _ w1), u.free _ _ e1 e2 (nx _ w1), hf _ w1 e3, ?_, e5', by rw [Array.toList_append]; exact among_more _ _ e6, e7, e8, fun y c z => ?_, fun i y v z1 z2 => ?_, e11⟩
  · rcases e4 with z | ⟨t, us, z1, z2, z3, z4, z5⟩
    · exact .inl z
    · have lt := w2 t z1
      exact .inr ⟨t, us, z1, z2, u.keep _ _ z3 z4 z5 (nx _ lt), u.free _ _ z3 z4 (nx _ lt), hf _ lt z5⟩
  · obtain ⟨⟨v, w⟩, m⟩ := e9 y c z
    exact ⟨⟨v, cell z w⟩, by obtain ⟨ob, ho, _⟩ := w; exact u.free _ _ ho m (nx _ (w3 y c z))⟩
  · obtain ⟨c, w, y1, y2, y3⟩ := e10 i y v z1 z2
    exact ⟨c, w, y1, cell y1 y2, y3⟩
/-- a lambda that a def was given stands within the def's blocks -/
theorem clo_in_blk {I : LamI} {vs : List L2.V} {a : Addr} {u s' : Shared} {K H' : Hp} {fp : List Addr} {scope : Scope} {env : PySem.Env} {A : Around} {c : Bool} {pn : List (Addr × PySem.Obj)} {xe : Value → Shared → Prop} {pins : List (Addr × PySem.Obj)} {σ : L2.St} (hex : X.ex = []) (h0 : CloAt I vs X.s_0 X.H_0 X.outer a) (en : Entry X u K fp)
    (J : Inv { X.blk u K scope env fp with A := A, calm := c, pn := pn, xe := xe } pins σ H' s') : CloAt I vs s' H' X.stack a := by
  obtain ⟨p0, σ0, J0, f0⟩ := en
  have u1 : Un (frs X.outer) [] X.H_0 K X.s_0.heap u.heap := hex ▸ J0.base
  have u2 : Un (frs X.stack) fp K H' u.heap s'.heap := J.base
  have m1 := cloAtN_un (o1 := X.stack) (s1 := u) (H1 := K) u1 (fun b z => by cases z) (fun b lt nb hb => ?_) (cloAtN_start h0)
  · refine (cloAtN_un (s1 := s') (H1 := H') (o1 := X.stack) u2 (fun b z => ?_) (fun b _ nb => nb) m1).at
    obtain ⟨_, _, _, f3, _⟩ := f0 b z
    rcases f3 with f3 | f3
    · rw [hex] at f3; cases f3
    · exact f3
  · rcases List.mem_cons.mp (J0.stkSub _ hb) with w | w
    · exact Nat.lt_irrefl _ (Nat.lt_of_lt_of_le (w ▸ lt) J0.ok.above)
    · exact nb w
end
section
variable {L : Lk} {G : Cr} {W : WX} {C : Mini.Cx} {X : L2.Cx} {kk : Nat} {lams : String → LamI → Prop}
/-- one plain thing, then a lambda -/
theorem sound_callR {x k : String} {D : DefI} {I : LamI} {js : List Nat} {E1 : Expr} {e1 : Ex} {p pl pos : Pos} {c : Addr} (sl : SameL L X) (hC : CallsOk L kk C) (hL : LensOk L C) (hu : CallHush C) (hD : L.defs x = some D) (dD : DefOk L x D) (ht : D.top = true) (hr : Room kk X.A) (hgd : X.A.guards = some []) (tk : Takes X W) (clo : ∀ pins σ H s, Inv X pins σ H s → CloOk L G s H X.stack)
    (lo : ∀ k I vs s H o a, lams k I → CloAt I vs s H o a → L.clo k vs s H o a) (hI : lams k I) (TB : LamX.TabB X.base X.mg c I.P) (hcode : X.env.code = .ref c) (hq : X.env.qual ++ "<lambda>" = I.q) (hm : (I.P, I.q) ∈ L.T) (huq : ∀ p ∈ L.T, p.1 = I.P → p.2 = I.q)
    (hdef : intsOf I.prs.defaults = some I.ds) (hk : I.prs.kw_defaults = []) (hk2 : I.prs.kwonlyargs = []) (hfree : ∀ y ∈ I.sc.names, y.2 = .free → X.env.scope.names.lookup y.1 = some .cell ∨ X.env.scope.names.lookup y.1 = some .free) (hcap : ∀ p ∈ I.caps, I.sc.names.lookup p = some .free) (hjs : js.map (fun i => X.N[i]?) = I.caps.map some) (hex : ∀ i ∈ js, G.exs i = none)
    (hg : Gl X (nm x)) (ha : PE X E1 (semE L G W C e1)) (he : starEach [E1, .Lambda I.prs I.body I.sc pl] X.env = (false, eval E1 X.env) :: starEach [.Lambda I.prs I.body I.sc pl] X.env) :
    PE X (.Call (.Name (nm x) p) [E1, .Lambda I.prs I.body I.sc pl] [] pos) (semE L G W C (.call x [e1, .lam k js])) := by
  refine ⟨fun pins s σ H Q J h => ?_⟩
  obtain ⟨R, h, env, rh, re, y⟩ := h
  simp only [evalE, evalEs] at y
  have y0 := SemR.bind (SemR.bind y)
  have hfreeC : ∀ y ∈ I.sc.names, y.2 = .free → ∃ c, X.env.cells.lookup y.1 = some c := fun y hy e => J.ok.has _ (hfree y hy e)
  have hvis : ∀ p ∈ I.caps, X.env.scope.names.lookup p = some .cell ∨ X.env.scope.names.lookup p = some .free := fun p hp => hfree (p, .free) (PySem.mem_of_lookup (hcap p hp)) rfl
  refine wpAny_Call_Name_kw (ld_glob J hg (by rw [sl.mg]; exact dD.mg ht) ?_ dD.dbg)
  refine PySem.W.callWith_K (h₀ := X.base) J.ok.mod.kin (by rw [sl.K]; exact dD.kp) ?_ he rfl
  rw [he]
  show wpAny _ _ (spliced ((false, eval E1 X.env) :: backTo pos (starEach [.Lambda I.prs I.body I.sc pl] X.env))) _ _ s
  refine Calls.spliced_cons ?_
  refine thn (ha.run pins s σ H (fun V H1 => ∃ (R1 : Mp) (h1 : Mini.Heap) (v : Val), Xt R h H R1 h1 H1 ∧ HRL L G R1 h1 H1 ∧ VRL L G H1 R1 h1.length v V ∧ SemR L G W ((((Mini.M.opt ((js.mapM fun i => env[i]?.join).map (Val.clo k))).bind fun c => (Mini.M.pure []).bind fun vs => Mini.M.pure (c :: vs)).bind fun vs => Mini.M.pure (v :: vs)) h1) R1 h1 H1 σ (fun R' h' H' ms => SemR L G W (C.call x ms h') R' h' H' σ (vpost L G Q))) J ⟨R, h, env, rh, re, ?_⟩) fun u1 s1 hh => ?_
  · exact y0.imp fun R1 h1 H1 v t1 r1 z => fun V rV => ⟨R1, h1, v, t1, r1, rV, z⟩
  obtain ⟨V1, H1, J1, ru1, R1, h1, v1, t1, r1, rV1, y1⟩ := hh
  obtain ⟨cv, ec, y2⟩ := SemR.opt (SemR.bind (SemR.bind y1))
  rw [Option.map_eq_some_iff] at ec
  obtain ⟨ws, ews, rfl⟩ := ec
  have re1 := re.mono (t1.mo rh)
  obtain ⟨cs, rc, lc, hcs⟩ := caps_vr re1 js ws ews hex
  show wpAny _ _ (spliced ((false, eval (.Lambda I.prs I.body I.sc pl) X.env) :: backTo pos (starEach [] X.env))) _ _ s1
  refine Calls.spliced_cons ?_
  have go : ∀ (s0 : Shared) (dV : Value), Inv X pins σ H1 s0 → DfO I.ds dV s0.heap H1 (X.env.locals :: X.fs) →
      wpAny (model X.prog X.w) X.A (makeTail "<lambda>" (X.env.qual ++ "<lambda>") I.prs (.expr I.body) I.sc X.env dV .none none pl pl.line) (fun v s1 => wpAny (model X.prog X.w) X.A (spliced (backTo pos (starEach [] X.env))) (fun vs s2 => X.K.In s2.heap ∧ wpAny (model X.prog X.w) X.A (call (.ref D.f) ([] ++ (u1 :: (v :: vs)))) (EP X pins σ Q) X.xe s2) X.xe s1) X.xe s0 := by
    intro s0 dV J0 d0
    refine lm_tail (T := L.T) (c := c) (P := I.P) J0 TB hcode (by rw [hq]; exact hm) (by rw [hq]; exact huq) r1.tab hfreeC d0 fun f c1 pm ct H2 s2 J2 x2 t2 tab2 hf hHf hfr hc1 d2 hps => ?_
    obtain ⟨ps1, hP1, hcp⟩ := hps
    rw [hq] at hf
    have r2 := hr_ext (G := G) r1 x2 t2 tab2
    have xt2 : Xt R1 h1 H1 R1 h1 H2 := xt_ext x2 t2
    have mo2 := xt2.mo r1
    have y4 : SemR L G W (C.call x [v1, .clo k ws] h1) R1 h1 H2 σ (vpost L G Q) := (((SemR.bind (y2 R1 H2 xt2 r2)).pure r2).pure r2).pure r2
    have CA : CloAt I cs s2 H2 X.stack f := cloAt_of J2 hfreeC hcap hjs hvis hf hHf hfr d2 hP1 hcp lc hcs
    show wpAny _ _ (spliced []) _ _ s2
    rw [spliced]
    refine wpAny_pure ⟨J2.kIn, ?_⟩
    refine run_def (G := withClo G k f cs) (us := [u1, .ref f]) (vs := [V1, .ref f]) sl hC hL hD dD hr hgd tk J2 ?_ (.cons ru1 (.cons rfl .nil)) ⟨R1, h1, [v1, .clo k ws], r2, ?_, sem_forget (hu _ _ _ (by simp [Mini.stills, Mini.still])) y4⟩
    · intro k' a' vs' z
      rcases z with z | ⟨rfl, rfl, rfl⟩
      · exact clo _ _ _ _ J2 k' a' vs' z
      · exact lo _ I _ _ _ _ _ hI CA
    · exact .cons (VR.grow withClo_up _ _ (rV1.mono mo2)) (.cons (.clo (.inr ⟨rfl, rfl, rfl⟩) (VRs.grow withClo_up _ _ (VRs.mono mo2 _ _ rc))) .nil)
  refine lm_eval hdef hk hk2 (fun z tk' => go _ _ (J1.kept fun _ _ q => q) (.inl ⟨z, rfl⟩)) fun z us tk' r => ?_
  have J0 : Inv X pins σ H1 { s1 with heap := s1.heap.push { cls := .type "tuple", data := .seq us.toArray }, toks := tk' } := J1.kept fun b o q => Heap.get?_push_of_some _ q
  refine go _ _ J0 (.inr ⟨_, us, rfl, r, Heap.get?_push_size _ rfl, J1.hok.fresh (Nat.le_refl _), fun q => ?_⟩)
  rcases List.mem_cons.mp q with w | w
  · have hl := J1.lt
    rw [← w] at hl
    exact Nat.lt_irrefl _ hl
  · exact J1.nofs (Nat.le_refl _) w
end
end MS

set_option Elab.async false
set_option linter.all false
set_option maxRecDepth 100000
set_option maxHeartbeats 4000000
/-! TO: classes with instances: attributes, methods, made -/
namespace MS
open PySem PySem.Spec PyProof.Rows L2 PySem.Calls PySem.W
open Mini (Val Res Ex Tg Ta Out evalE evalEs evalI evalTs)
section
variable {L : Lk} {G : Cr} {W : WX} {C : Mini.Cx} {X : L2.Cx} {kk : Nat}
/-- what is known of the classes with instances -/
structure OwnOk (L : Lk) : Prop where
  fl : ∀ c f, Mini.ownF L.P c f = true → ∀ C0, L.co c = some C0 → Cls L.K C0 ∧ NoAttr L.K C0 (nm f)
  mt : ∀ c m x K', L.P.cls.lookup c = some K' → K'.meths.lookup m = some x → ∀ C0, L.co c = some C0 → ∃ I, L.defs x = some I ∧ DefOk L x I ∧ Cls L.K C0 ∧ Meth L.K C0 (nm m) I.f
theorem HR.inst {R : Mp} {h : Mini.Heap} {H : Hp} {n : Nat} {c : String} {fs : List (String × Val)} (rh : HRL L G R h H) (e : h[n]? = some (.inst c fs)) : ∃ C0 dx gs, L.co c = some C0 ∧ H (R n) = some (.ins C0 dx gs) ∧ FVR L.K noClo H R h.length fs gs := rh.at_ n _ e
theorem fvr_up {H : Hp} {R : Mp} {n : Nat} {fs : List (String × Val)} {gs : List (Str × L2.V)} (r : FVR L.K noClo H R n fs gs) : FVR L.K G.clo H R n fs gs := by
  induction r with
  | nil => exact .nil
  | cons rv t ih => exact .cons (VR.grow (fun _ _ _ z => z.elim) _ _ rv) ih
theorem nm_inj {a b : String} (h : nm a = nm b) : a = b := by
  have e : (Str.ofString a).cps = (Str.ofString b).cps := congrArg Str.cps h
  rw [Str.ofString_eq_toList, Str.ofString_eq_toList] at e
  have e2 : a.toList.map Char.toNat = b.toList.map Char.toNat := by simpa using e
  have key : ∀ x y : List Char, x.map Char.toNat = y.map Char.toNat → x = y := by
    intro x
    induction x with
    | nil => intro y q; cases y with
      | nil => rfl
      | cons _ _ => cases q
    | cons c r ih => intro y q; cases y with
      | nil => cases q
      | cons d s =>
        simp only [List.map_cons, List.cons.injEq] at q
        rw [ih s q.2, Char.ext (UInt32.toNat.inj q.1)]
  exact String.toList_inj.mp (key _ _ e2)
theorem fvr_get {Γ : Clo} {H : Hp} {R : Mp} {n : Nat} {f : String} {v : Val} : ∀ {fs : List (String × Val)} {gs : List (Str × L2.V)}, FVR L.K Γ H R n fs gs → fs.lookup f = some v → ∃ V, gs.lookup (nm f) = some V ∧ VR L.K Γ H R n v V
  | _, _, .nil, e => by cases e
  | _, _, .cons (f := g) (x := x) (v := V) rv t, e => by
    by_cases z : f = g
    · subst z
      rw [List.lookup_cons, beq_self_eq_true] at e
      cases e
      exact ⟨V, by rw [List.lookup_cons, beq_self_eq_true], rv⟩
    · have z2 : (nm f == nm g) = false := beq_eq_false_iff_ne.mpr fun q => z (nm_inj q)
      rw [List.lookup_cons, beq_eq_false_iff_ne.mpr z] at e
      obtain ⟨V', e1, r1⟩ := fvr_get t e
      exact ⟨V', by rw [List.lookup_cons, z2]; exact e1, r1⟩
theorem fvr_none {Γ : Clo} {H : Hp} {R : Mp} {n : Nat} {f : String} : ∀ {fs : List (String × Val)} {gs : List (Str × L2.V)}, FVR L.K Γ H R n fs gs → fs.lookup f = none → gs.lookup (nm f) = none
  | _, _, .nil, _ => rfl
  | _, _, .cons (f := g) (x := x) (v := V) rv t, e => by
    by_cases z : f = g
    · subst z
      rw [List.lookup_cons, beq_self_eq_true] at e
      cases e
    · have z2 : (nm f == nm g) = false := beq_eq_false_iff_ne.mpr fun q => z (nm_inj q)
      rw [List.lookup_cons, beq_eq_false_iff_ne.mpr z] at e
      rw [List.lookup_cons, z2]
      exact fvr_none t e
theorem fvr_len {Γ : Clo} {H : Hp} {R : Mp} {n : Nat} : ∀ {fs : List (String × Val)} {gs : List (Str × L2.V)}, FVR L.K Γ H R n fs gs → fs.length = gs.length
  | _, _, .nil => rfl
  | _, _, .cons _ t => by rw [List.length_cons, List.length_cons, fvr_len t]
theorem fvr_put {Γ : Clo} {H : Hp} {R : Mp} {n : Nat} {f : String} {v : Val} {V : L2.V} (rv : VR L.K Γ H R n v V) : ∀ {fs : List (String × Val)} {gs : List (Str × L2.V)}, FVR L.K Γ H R n fs gs → FVR L.K Γ H R n (Mini.putF f v fs) (L2.putF (nm f) V gs)
  | _, _, .nil => .cons rv .nil
  | _, _, .cons (f := g) (x := x) (v := U) ru t => by
    by_cases z : g = f
    · subst z
      rw [Mini.putF, if_pos rfl, L2.putF, if_pos rfl]
      exact .cons rv t
    · have z2 : ¬ nm g = nm f := fun q => z (nm_inj q)
      rw [Mini.putF, if_neg z, L2.putF, if_neg z2]
      exact .cons ru (fvr_put rv t)
/-- o.f -/
theorem sound_fld {A : Expr} {a : Ex} {f : String} {pos : Pos} (sl : SameL L X) (ow : OwnOk L) (hP : C.prog = L.P) (ha : PE X A (semE L G W C a)) (hb : attributeBase A (nm f) X.env (eval A X.env) = eval A X.env) : PE X (.Attribute A (nm f) pos) (semE L G W C (.fld a f)) := by
  refine (pe_fld ha hb).imp ?_
  rintro σ H Q ⟨R, h, env, rh, re, x⟩
  simp only [evalE] at x
  refine ⟨R, h, env, rh, re, x.bind.imp fun R1 h1 H1 v t1 r1 x1 => fun V rv => ?_⟩
  obtain ⟨w, e, g⟩ := SemR.opt x1
  rw [hP] at e
  unfold Mini.fldOf at e
  split at e
  · split at e
    · rename_i n c fs ex
      split at e
      · rename_i hf
        cases rv with
        | ref hi =>
          obtain ⟨C0, dx, gs, e1, e2, r⟩ := HR.inst r1 ex
          obtain ⟨U, e3, ru⟩ := fvr_get (fvr_up (G := G) r) e
          obtain ⟨k1, k2⟩ := ow.fl c f hf C0 e1
          exact ⟨_, C0, dx, gs, U, rfl, e2, by rw [sl.K]; exact k1, by rw [sl.K]; exact k2, e3, g R1 H1 Xt.refl r1 U ru⟩
      · cases e
    · cases e
  · cases e
/-- what a stored attribute does -/
theorem att_sem {R : Mp} {h : Mini.Heap} {H : Hp} {o v : Val} {O V : L2.V} {f : String} {h' : Mini.Heap} {Q : Hp → Prop} (ow : OwnOk L) (rh : HRL L G R h H) (ro : VRL L G H R h.length o O) (rv : VRL L G H R h.length v V) (e : Mini.attV L.P h o f v = some h')
    (q : ∀ H', Xt R h H R h' H' → HRL L G R h' H' → Q H') : ∃ a C0 dx fs, O = .ref a ∧ H a = some (.ins C0 dx fs) ∧ Cls L.K C0 ∧ NoAttr L.K C0 (nm f) ∧ fs.length < 1000 ∧ Q (upd H a (.ins C0 dx (L2.putF (nm f) V fs))) := by
  unfold Mini.attV at e
  split at e
  · split at e
    · rename_i n c fs ex
      split at e
      · rename_i hc
        cases e
        simp only [Bool.and_eq_true, decide_eq_true_eq] at hc
        cases ro with
        | ref hi =>
          obtain ⟨C0, dx, gs, e1, e2, r⟩ := HR.inst rh ex
          obtain ⟨k1, k2⟩ := ow.fl c f hc.1.1 C0 e1
          obtain ⟨q1, q2⟩ := mut_obj (o := .ins C0 dx (L2.putF (nm f) V gs)) (ob := .inst c (Mini.putF f v fs)) rh hi ⟨C0, dx, _, e1, upd_same, (fvr_put (VR.stil _ _ rv hc.1.2) r).mono (mut_mo rh hi)⟩
          exact ⟨_, C0, dx, gs, rfl, e2, k1, k2, by rw [← fvr_len r]; omega, q _ q2 q1⟩
      · cases e
    · cases e
  · cases e
/-- o.f = e -/
theorem sound_att {O E : Expr} {o e : Ex} {f : String} {pos tpos : Pos} (sl : SameL L X) (ow : OwnOk L) (hP : C.prog = L.P) (ho : PE X O (semE L G W C o)) (he : PE X E (semE L G W C e)) (hs : swapsWith E (some (.Attribute O (nm f) tpos)) pos.line X.env = pure false) : PS X (.Assign [.Attribute O (nm f) tpos] E pos) (semS L G W C (.att o f e)) := by
  refine (ps_fld ho he hs).imp ?_
  rintro D σ H ⟨R, h, env, rh, re, x⟩
  simp only [Mini.exec] at x
  refine ⟨R, h, env, rh, re, (SemO.onE rh re x).bind.imp fun R1 h1 H1 v t1 r1 x1 => fun V rv => ?_⟩
  refine ⟨R1, h1, env, r1, re.mono (t1.mo rh), x1.bind.imp fun R2 h2 H2 a t2 r2 x2 => fun A ra => ?_⟩
  obtain ⟨h', e', g⟩ := SemR.opt x2
  rw [hP] at e'
  have re2 := (re.mono (t1.mo rh)).mono (t2.mo r1)
  rw [sl.K]
  obtain ⟨b, C0, dx, fs, z1, z2, z3, z4, z5, z6⟩ := att_sem (Q := fun H' => D.nx σ H') ow r2 ra (rv.mono (t2.mo r1)) e' fun H' xt hr => g R2 H2 Xt.refl r2 R2 H' σ xt hr (re2.mono (xt.mo r2))
  exact ⟨b, C0, dx, fs, z1, z2, z3, z4, z5, z6⟩
/-! ### a tuple's things stored one behind the other -/
def semTa (L : Lk) (G : Cr) (C : Mini.Cx) (t : Ta) : TG := fun v σ H Q => ∃ R h env x, HRL L G R h H ∧ ERL L G H R h.length env σ ∧ VRL L G H R h.length x v ∧ SemR L G Wn (Mini.store C t x env h) R h H σ fun R' h' H' env' => ∀ σ', ERL L G H' R' h'.length env' σ' → Q σ' H'
def semTas (L : Lk) (G : Cr) (C : Mini.Cx) (ts : List Ta) : TGs := fun vs σ H Q => ∃ R h env xs, HRL L G R h H ∧ ERL L G H R h.length env σ ∧ VRsL L G H R h.length xs vs ∧ SemR L G Wn (Mini.stores C ts xs env h) R h H σ fun R' h' H' env' => ∀ σ', ERL L G H' R' h'.length env' σ' → Q σ' H'
theorem wn_any {α : Type} {r : Res α} {R : Mp} {h : Mini.Heap} {H : Hp} {σ : L2.St} {p : Mp → Mini.Heap → Hp → α → Prop} (x : SemR L G Wn r R h H σ p) : SemR L G W r R h H σ p := by
  cases r with
  | ok a h' => exact x
  | exn c v h' => exact fun R' H' C' d t o => (x R' H' C' d t o).elim
  | bad => exact x
theorem wn_st {α : Type} {r : Res α} {R : Mp} {h : Mini.Heap} {H : Hp} {σ σ' : L2.St} {p : Mp → Mini.Heap → Hp → α → Prop} (x : SemR L G Wn r R h H σ p) : SemR L G Wn r R h H σ' p := by
  cases r with
  | ok a h' => exact x
  | exn c v h' => exact fun R' H' C' d t o => (x R' H' C' d t o).elim
  | bad => exact x
theorem ta_loc {i : Nat} {E : Expr} (hg : PG X E (semG L G (.loc i))) : PG X E (semTa L G C (.loc i)) := by
  refine hg.imp ?_
  rintro v σ H Q ⟨R, h, env, x, rh, re, rv, y⟩
  obtain ⟨env', e, g⟩ := SemR.opt y
  refine ⟨R, h, env, x, rh, re, rv, env', by rw [Mini.asgT]; exact e, fun σ' r' _ => g R H Xt.refl rh σ' r'⟩
theorem ta_sub {O I : Expr} {o i : Ex} {tpos : Pos} (hu : X.A.units + 1 < cLine) (ho : PE X O (semE L G W C o)) (hi : PE X I (semE L G W C i)) (ha : ∀ v, assign (.Subscript O I tpos) X.env v = (do
      let ov ← holding [v] (eval O X.env)
      let iv ← holding [v, ov] (eval I X.env)
      standAt tpos
      holding [v, ov, iv] (setItem ov iv v)
      release [v, ov, iv] [])) : PG X (.Subscript O I tpos) (semTa L G C (.sub o i)) := by
  refine (pg_sub ho hi (PSet.or set_list (set_dict hu)) ha).imp ?_
  rintro v σ H Q ⟨R, h, env, x, rh, re, rv, y⟩
  simp only [Mini.store] at y
  refine ⟨R, h, env, rh, re, wn_any (SemR.bind (SemR.bind y)) |>.imp fun R2 h2 H2 a t2 r2 x2 => fun A ra => ?_⟩
  refine ⟨R2, h2, env, r2, re.mono (t2.mo rh), wn_any (SemR.bind x2) |>.imp fun R3 h3 H3 j t3 r3 x3 => fun J rj => ?_⟩
  have re3 := (re.mono (t2.mo rh)).mono (t3.mo r2)
  split at x3
  · obtain ⟨h', e', f⟩ := SemR.opt (o := Mini.setIt h3 a j x) x3
    refine set_sem r3 (ra.mono (t3.mo r2)) rj ((rv.mono (t2.mo rh)).mono (t3.mo r2)) (by assumption) e' fun H' xt hr => ?_
    exact f R3 H3 Xt.refl r3 R3 H' xt hr σ (re3.mono (xt.mo r3))
  · exact x3.elim
def gAtt (K : PySem.W.Frag) (to : TE) (f : Str) : TG := fun v σ H Q => to σ H fun x H1 => ∃ a C0 dx fs, x = .ref a ∧ H1 a = some (.ins C0 dx fs) ∧ Cls K C0 ∧ NoAttr K C0 f ∧ fs.length < 1000 ∧ Q σ (upd H1 a (.ins C0 dx (L2.putF f v fs)))
theorem pg_att {O : Expr} {f : Str} {to : TE} {tpos : Pos} (ho : PE X O to) : PG X (.Attribute O f tpos) (gAtt X.K to f) := by
  refine ⟨fun pins s σ H v u Q I r h => ?_⟩
  rw [assign_Attribute]
  refine wpAny_bind (wpAny_holding (thn (ho.run pins s σ H _ I h) fun ov s1 ⟨x, H1, I1, r1, a, C0, dx, fs, ex, ea, c, n, l, q⟩ => ?_))
  subst ex
  obtain rfl : ov = Value.ref a := r1
  refine wpAny_bind (wpAny_standAt (wpAny_bind (wpAny_holding (setattr_ok I1 ea c n l r fun s3 I3 => ?_))))
  exact wpAny_release ⟨σ, _, I3, q⟩
theorem ta_att {O : Expr} {o : Ex} {f : String} {tpos : Pos} (sl : SameL L X) (ow : OwnOk L) (hP : C.prog = L.P) (ho : PE X O (semE L G W C o)) : PG X (.Attribute O (nm f) tpos) (semTa L G C (.att o f)) := by
  refine (pg_att ho).imp ?_
  rintro v σ H Q ⟨R, h, env, x, rh, re, rv, y⟩
  simp only [Mini.store] at y
  refine ⟨R, h, env, rh, re, wn_any (SemR.bind (SemR.bind y)) |>.imp fun R2 h2 H2 a t2 r2 x2 => fun A ra => ?_⟩
  obtain ⟨h', e', g⟩ := SemR.opt x2
  rw [hP] at e'
  rw [sl.K]
  obtain ⟨b, C0, dx, fs, z1, z2, z3, z4, z5, z6⟩ := att_sem (Q := fun H' => Q σ H') ow r2 ra (rv.mono (t2.mo rh)) e' fun H' xt hr => g R2 H2 Xt.refl r2 R2 H' xt hr σ ((re.mono (t2.mo rh)).mono (xt.mo r2))
  exact ⟨b, C0, dx, fs, z1, z2, z3, z4, z5, z6⟩
theorem tas_nil : PGs X [] (semTas L G C []) := by
  refine pgs_nil.imp ?_
  rintro vs σ H Q ⟨R, h, env, xs, rh, re, rv, y⟩
  cases rv with
  | nil => exact ⟨rfl, y.pure rh σ re⟩
  | cons a b => exact y.elim
theorem tas_cons {e : Expr} {es : List Expr} {t : Ta} {ts : List Ta} (h1 : PG X e (semTa L G C t)) (h2 : PGs X es (semTas L G C ts)) (hs : (assignEach (e :: es) X.env).map (·.2) = assign e X.env :: (assignEach es X.env).map (·.2)) : PGs X (e :: es) (semTas L G C (t :: ts)) := by
  refine (pgs_cons h1 h2 hs).imp ?_
  rintro vs σ H Q ⟨R, h, env, xs, rh, re, rv, y⟩
  cases rv with
  | nil => exact y.elim
  | cons a b =>
    rename_i x xs v vs
    have y' : SemR L G Wn (((Mini.store C t x env).bind fun env => Mini.stores C ts xs env) h) R h H σ fun R' h' H' env' => ∀ σ', ERL L G H' R' h'.length env' σ' → Q σ' H' := y
    refine ⟨_, _, rfl, R, h, env, _, rh, re, a, y'.bind.imp fun R1 h1 H1 env1 t1 r1 x1 => fun σ1 re1 => ⟨R1, h1, env1, xs, r1, re1, b.mono (t1.mo rh), ?_⟩⟩
    exact wn_st x1
theorem stores_len : ∀ (ts : List Ta) (xs : List Val) (env env' : Mini.Env) (h h' : Mini.Heap), Mini.stores C ts xs env h = .ok env' h' → xs.length = ts.length
  | [], [], _, _, _, _, _ => rfl
  | [], _ :: _, _, _, _, _, e => by cases e
  | _ :: _, [], _, _, _, _, e => by cases e
  | t :: ts, x :: xs, env, env', h, h', e => by
    have e : ((Mini.store C t x env).bind fun env => Mini.stores C ts xs env) h = .ok env' h' := e
    unfold Mini.M.bind at e
    split at e
    · rw [List.length_cons, List.length_cons, stores_len ts xs _ _ _ _ e]
    · cases e
    · cases e
theorem sound_asgs {Ts : List Expr} {E : Expr} {ts : List Ta} {e : Ex} {k1 : Nat} {pt pos : Pos} (hK : X.K = L.K) (calm : X.calm = true) (he : PE X E (semE L G W C e)) (hp : PGs X Ts (semTas L G C ts)) (hn : (assignEach Ts X.env).length = ts.length) (hst : (assignEach Ts X.env).findIdx? (·.1) = none)
    (hs : swapsWithSole [.Tuple Ts k1 pt] E pos.line X.env = pure false) (hw : swappedStores [.Tuple Ts k1 pt] E X.env = pure none) (h1 : (assignEach [.Tuple Ts k1 pt] X.env).map (·.2) = [assign (.Tuple Ts k1 pt) X.env]) : PS X (.Assign [.Tuple Ts k1 pt] E pos) (semS L G W C (.asgs ts e)) := by
  refine (ps_asg he (pg_tup (n := ts.length) calm hp hn hst) hs hw h1).imp ?_
  rintro D σ H ⟨R, h, env, rh, re, x⟩
  simp only [Mini.exec] at x
  refine ⟨R, h, env, rh, re, (SemO.onE rh re x).imp fun R1 h1' H1 v t1 r1 x1 => fun V rv => ?_⟩
  have re1 := re.mono (t1.mo rh)
  cases v with
  | tup xs =>
    dsimp only at x1
    cases es : Mini.stores C ts xs env h1' with
    | ok env' h' =>
      rw [es] at x1
      cases rv with
      | tup q r =>
        refine ⟨_, _, rfl, by rw [hK]; exact q, by rw [← r.length, stores_len _ _ _ _ _ _ es], R1, h1', env, xs, r1, re1, r, ?_⟩
        rw [es]
        exact fun R2 H2 t2 r2 σ' re' => x1 R2 H2 σ' t2 r2 re'
    | exn _ _ _ => rw [es] at x1; exact x1.elim
    | bad => rw [es] at x1; exact x1.elim
  | _ => exact x1.elim
/-! ### a method called, an instance made -/
/-- the form of a call of a method -/
structure MForm (X : L2.Cx) (O : Expr) (m : Str) (apos : Pos) (es : List Expr) (cpos : Pos) : Prop where
  base : attributeBase O m X.env (eval O X.env) = eval O X.env
  line : (apos.endLine == cpos.line) = true
  few : ((backTo cpos (starEach es X.env)).all (fun x => !x.1) && (backToKw cpos (keywordEach [] X.env)).all (fun x => x.1.isSome) && decide (es.length + ([] : List Keyword).length + (if ([] : List Keyword).isEmpty then 0 else 1) < 30)) = true
theorem own_call {O : Expr} {m : Str} {apos cpos : Pos} {es : List Expr} {A : Around} {E : Value → Shared → Prop} {s : Shared} {Q : Value → Shared → Prop} (ok : MForm X O m apos es cpos)
    (h : wpAny (model X.prog X.w) A (eval O X.env) (fun ov s1 => wpAny (model X.prog X.w) A (getMethod ov m (do return (← importBound O X.env).getD true)) (fun fx s2 => wpAny (model X.prog X.w) A (callWith cpos fx.1 fx.2 (backTo cpos (starEach es X.env)) (backToKw cpos (keywordEach [] X.env))) Q E s2) E s1) E s) :
    wpAny (model X.prog X.w) A (eval (.Call (.Attribute O m apos) es [] cpos) X.env) Q E s := by
  have form : methodCallForm (es.length + ([] : List Keyword).length) (backTo cpos (starEach es X.env)) (backToKw cpos (keywordEach [] X.env)) = true := ok.few
  have place : methodCallPos true O X.env apos cpos = pure cpos := by
    unfold methodCallPos
    simp [ok.line]
  rw [arm_eval_Call, ok.base]
  refine wpAny_bind (wpAny_mono h (fun ov s1 h1 => wpAny_bind (wpAny_standAt ?_)) fun _ _ z => z)
  unfold methodCall
  rw [form, place]
  show wpAny _ _ (do let (f, first) ← holding [ov] (getMethod ov m (do return (← importBound O X.env).getD true)); let callPos ← (pure cpos : Sem Pos); callWith callPos f first (backTo cpos (starEach es X.env)) (backToKw cpos (keywordEach [] X.env))) _ _ s1
  refine wpAny_bind (wpAny_holding (wpAny_mono h1 (fun fx s2 h2 => ?_) fun _ _ z => z))
  exact wpAny_bind (wpAny_pure h2)
theorem sound_meth {O : Expr} {Es : List Expr} {o : Ex} {es : List Ex} {m : String} {apos cpos : Pos} (sl : SameL L X) (ow : OwnOk L) (hP : C.prog = L.P) (hC : CallsOk L kk C) (hL : LensOk L C) (hr : Room kk X.A) (hgd : X.A.guards = some []) (tk : Takes X W) (clo : ∀ pins σ H s, Inv X pins σ H s → CloOk L G s H X.stack)
    (ho : PE X O (semE L G W C o)) (ha : PA X Es (semA L G W C es)) (ok : MForm X O (nm m) apos Es cpos) (hs : (Es = [] ∧ es = []) ∨ ∃ E1 Er, Es = E1 :: Er ∧ starEach (E1 :: Er) X.env = (false, eval E1 X.env) :: starEach Er X.env ∧ (backTo cpos (starEach Er X.env)).any (·.1) = false) : PE X (.Call (.Attribute O (nm m) apos) Es [] cpos) (semE L G W C (.meth o m es)) := by
  refine ⟨fun pins s σ H Q J h => ?_⟩
  obtain ⟨R, h, env, rh, re, y⟩ := h
  simp only [evalE] at y
  have y0 := SemR.bind y
  refine own_call ok (thn (ho.run pins s σ H (fun V H1 => ∃ (R1 : Mp) (h1 : Mini.Heap) (v : Val), Xt R h H R1 h1 H1 ∧ HRL L G R1 h1 H1 ∧ VRL L G H1 R1 h1.length v V ∧ SemR L G W ((Mini.M.bind (fun h => Mini.M.opt (Mini.methOf C.prog h v m) h) fun f => (evalEs C es env).bind fun vs => C.call f (v :: vs)) h1) R1 h1 H1 σ (vpost L G Q)) J ⟨R, h, env, rh, re, ?_⟩) fun u1 s1 hh => ?_)
  · exact y0.imp fun R1 h1 H1 v t1 r1 z => fun V rV => ⟨R1, h1, v, t1, r1, rV, z⟩
  obtain ⟨V1, H1, J1, ru1, R1, h1, v1, t1, r1, rV1, y1⟩ := hh
  have re1 := re.mono (t1.mo rh)
  obtain ⟨f, ef, g⟩ := SemR.opt (SemR.bind y1)
  have y2 : SemR L G W (((evalEs C es env).bind fun vs => C.call f (v1 :: vs)) h1) R1 h1 H1 σ (vpost L G Q) := g R1 H1 Xt.refl r1
  rw [hP] at ef
  unfold Mini.methOf at ef
  split at ef
  · split at ef
    · rename_i n _ c fs ex
      split at ef
      · rename_i K' e1 e2
        cases rV1 with
        | ref hi =>
          obtain ⟨C0, dx, gs, c1, c2, rf⟩ := HR.inst r1 ex
          obtain ⟨I, hI, dI, k1, k2⟩ := ow.mt c m f K' e1 ef C0 c1
          obtain rfl : u1 = Value.ref _ := ru1
          rw [← sl.K] at k1 k2
          refine getmeth_ok J1 c2 k1 k2 (fvr_none rf e2) ?_
          have fin : ∀ (us : List Value) (Vs : List L2.V) (H2 : Hp) (s2 : Shared), Inv X pins σ H2 s2 → Vals Vs us → (∃ (R2 : Mp) (h2 : Mini.Heap) (ms : List Val), Xt R1 h1 H1 R2 h2 H2 ∧ HRL L G R2 h2 H2 ∧ VRsL L G H2 R2 h2.length ms Vs ∧ SemR L G W (C.call f (.ref n :: ms) h2) R2 h2 H2 σ (vpost L G Q)) →
              wpAny (model X.prog X.w) X.A (call (.ref I.f) (.ref (R1 n) :: us)) (EP X pins σ Q) X.xe s2 := fun us Vs H2 s2 J2 rv ⟨R2, h2, ms, t2, r2, rvs, z⟩ => by
            have rr : VRL L G H2 R2 h2.length (.ref n) (.ref (R1 n)) := VR.mono (t2.mo r1) _ _ (.ref hi)
            exact run_def (us := .ref (R1 n) :: us) (vs := .ref (R1 n) :: Vs) sl hC hL hI dI hr hgd tk J2 (clo _ _ _ _ J2) (.cons rfl rv) ⟨R2, h2, .ref n :: ms, r2, .cons rr rvs, z⟩
          rcases hs with ⟨rfl, rfl⟩ | ⟨E1, Er, rfl, s1', s2'⟩
          · simp only [evalEs] at y2
            exact callWith_K0 (first := [.ref (R1 n)]) J1.kIn k2.kp (fin [] [] H1 s1 J1 .nil ⟨R1, h1, [], Xt.refl, r1, .nil, (SemR.bind y2).pure r1⟩)
          · refine callWith_K (first := [.ref (R1 n)]) (h₀ := X.base) J.ok.mod.kin k2.kp (thn (ha.run cpos pins s1 σ H1 _ J1 ⟨R1, h1, env, r1, re1, y2.bind.imp fun R2 h2 H2 vs t2 r2 z => fun Vs rvs => (⟨R2, h2, vs, t2, r2, rvs, z⟩ : ∃ (R2 : Mp) (h2 : Mini.Heap) (ms : List Val), Xt R1 h1 H1 R2 h2 H2 ∧ HRL L G R2 h2 H2 ∧ VRsL L G H2 R2 h2.length ms Vs ∧ SemR L G W (C.call f (.ref n :: ms) h2) R2 h2 H2 σ (vpost L G Q))⟩) fun us s2 ⟨Vs, H2, J2, rv, q⟩ => ⟨J2.kIn, fin us Vs H2 s2 J2 rv q⟩) s1' s2'
      · cases ef
    · cases ef
  · cases ef
theorem sound_mk {Es : List Expr} {es : List Ex} {c : String} {C0 : Addr} {I : DefI} {E1 : Expr} {p cpos : Pos} (sl : SameL L X) (hC : CallsOk L kk C) (hL : LensOk L C) (hr : Room (kk + 1) X.A) (hgd : X.A.guards = some []) (tk : Takes X W) (clo : ∀ pins σ H s, Inv X pins σ H s → CloOk L G s H X.stack)
    (hI : L.defs (c ++ ".__init__") = some I) (dI : DefOk L (c ++ ".__init__") I) (M : Mk L.K C0 I.f) (hco : L.co c = some C0) (hmg : L.mg (nm c) = some (.ref C0)) (hdb : (nm c == ("__debug__" : Str)) = false) (hg : Gl X (nm c))
    (ha : PA X (E1 :: Es) (semA L G W C es)) (he : starEach (E1 :: Es) X.env = (false, eval E1 X.env) :: starEach Es X.env) (hpl : (backTo cpos (starEach Es X.env)).any (·.1) = false) : PE X (.Call (.Name (nm c) p) (E1 :: Es) [] cpos) (semE L G W C (.mk c es)) := by
  refine ⟨fun pins s σ H Q J h => ?_⟩
  obtain ⟨R, h, env, rh, re, y⟩ := h
  simp only [evalE] at y
  have MX : Mk X.K C0 I.f := by rw [sl.K]; exact M
  refine wpAny_Call_Name_kw (ld_glob J hg (by rw [sl.mg]; exact hmg) ?_ hdb)
  refine callWith_K (h₀ := X.base) J.ok.mod.kin MX.kp (thn (ha.run cpos pins s σ H _ J ⟨R, h, env, rh, re, y.bind.imp fun R1 h1 H1 vs t1 r1 y1 => fun Vs rvs => (⟨R1, h1, vs, r1, rvs, y1⟩ : ∃ (R1 : Mp) (h1 : Mini.Heap) (ms : List Val), HRL L G R1 h1 H1 ∧ VRsL L G H1 R1 h1.length ms Vs ∧ SemR L G W (Mini.M.bind (C.call (c ++ ".__init__") (.ref h1.length :: ms)) (fun r => match r with
      | .none => Mini.M.pure (.ref h1.length)
      | _ => Mini.M.bad) (h1 ++ [.inst c []])) R1 h1 H1 σ (vpost L G Q))⟩) fun us s1 ⟨Vs, H1, J1, r, q⟩ => ⟨J1.kIn, ?_⟩) he hpl
  obtain ⟨R1, h1, ms, r1, rvs, y1⟩ := q
  -- the new instance
  have J2 := Inv.made (C := C0) J1
  have nd : H1 s1.heap.objs.size = none := J1.hok.fresh (Nat.le_refl _)
  have nx : H1 (s1.heap.objs.size + 1) = none := J1.hok.fresh (Nat.le_succ _)
  have ne : s1.heap.objs.size + 1 ≠ s1.heap.objs.size := Nat.succ_ne_self _
  have ra : HRL L G R1 h1 (upd H1 s1.heap.objs.size (.own (s1.heap.objs.size + 1))) := r1.aux nd
  have ta : Xt R1 h1 H1 R1 h1 (upd H1 s1.heap.objs.size (.own (s1.heap.objs.size + 1))) := xt_aux nd
  have nx2 : upd H1 s1.heap.objs.size (.own (s1.heap.objs.size + 1)) (s1.heap.objs.size + 1) = none := by rw [upd_ne ne]; exact nx
  obtain ⟨n1, n2⟩ := new_obj (L := L) (G := G) (o := .ins C0 s1.heap.objs.size []) (ob := .inst c []) ra nx2 ⟨C0, _, [], hco, upd_same, .nil⟩
  have t2 := ta.trans ra n2
  generalize hH2 : upd (upd H1 s1.heap.objs.size (.own (s1.heap.objs.size + 1))) (s1.heap.objs.size + 1) (.ins C0 s1.heap.objs.size []) = H2 at J2 n1 n2 t2
  generalize hR2 : ext1 R1 h1.length (s1.heap.objs.size + 1) = R2 at n1 n2 t2
  have rself : VRL L G H2 R2 (h1 ++ [Mini.Obj.inst c []]).length (.ref h1.length) (.ref (s1.heap.objs.size + 1)) := by
    have z : R2 h1.length = s1.heap.objs.size + 1 := by rw [← hR2]; exact ext1_at
    rw [← z]
    exact .ref (by simp)
  have rvs2 : VRsL L G H2 R2 (h1 ++ [Mini.Obj.inst c []]).length ms Vs := VRs.mono (t2.mo r1) _ _ rvs
  have y2 : SemR L G (fun cls d _ H' => W cls d σ H') (C.call (c ++ ".__init__") (.ref h1.length :: ms) (h1 ++ [.inst c []])) R2 (h1 ++ [.inst c []]) H2 [] (vpost L G fun v H' => v = .non ∧ Q (.ref (s1.heap.objs.size + 1)) H') := by
    unfold Mini.M.bind at y1
    cases e : C.call (c ++ ".__init__") (.ref h1.length :: ms) (h1 ++ [.inst c []]) with
    | ok v h' =>
      rw [e] at y1
      intro R3 H3 t3 r3 V rV
      cases v with
      | none =>
        cases rV
        have z : ∀ R' H', Xt R1 h1 H1 R' h' H' → HRL L G R' h' H' → vpost L G Q R' h' H' (.ref h1.length) := y1
        refine ⟨rfl, z R3 H3 (t2.trans n1 t3) r3 _ ?_⟩
        exact VR.mono (t3.mo n1) _ _ rself
      | _ => exact y1.elim
    | exn c' v h' =>
      rw [e] at y1
      exact fun R3 H3 C' d t3 o => y1 R3 H3 C' d (t2.trans n1 t3) o
    | bad => rw [e] at y1; exact y1.elim
  have hl : (Value.ref (s1.heap.objs.size + 1) :: us).length = I.ps.length := by
    have z := hL _ I hI (.ref h1.length :: ms) (h1 ++ [.inst c []]) fun z => by rw [z] at y2; exact y2
    rw [← z, List.length_cons, List.length_cons, rvs.length, r.length]
  have e0 := (J2.env0).make C0 us []
  rw [sl.prog, sl.w, sl.K, sl.mg, sl.base] at e0
  have hb := dI.bind _ (Value.ref (s1.heap.objs.size + 1) :: us) (sl.K ▸ J2.kIn) (by rw [List.append_nil]; exact hl)
  rw [List.append_nil] at hb
  have run := hC _ I hI (X.A.under (.builtin "type.__call__" ⟨.ref C0 :: us, []⟩)) X.stack _ H2 ⟨Value.ref (s1.heap.objs.size + 1) :: us, []⟩ (Value.ref (s1.heap.objs.size + 1) :: us) (L2.V.ref (s1.heap.objs.size + 1) :: Vs) _ (fun cls d H' => W cls d σ H') (hr.make C0 us []) hgd e0 hb (.cons rfl r) ⟨G, R2, h1 ++ [.inst c []], .ref h1.length :: ms, clo _ _ _ _ J2, n1, .cons rself rvs2, y2⟩
  rw [← sl.prog, ← sl.w] at run
  refine wpAny_call (make_map (f := I.f) J1.kIn MX.makes MX.init (beq_iff_eq.mp MX.fn) (codeAny_mono run fun fl s' hq => ?_))
  cases fl with
  | error e => exact tk e s' (XE.of_call J2 (fun cls d H' h => h) hq)
  | ok fl =>
    cases fl with
    | ret u =>
      obtain ⟨v, H', I3, rv, ev, q3⟩ := J2.after hq
      subst ev
      exact ⟨rv, ⟨L2.V.ref (s1.heap.objs.size + 1), H', I3, rfl, q3⟩⟩
    | next => exact False.elim hq
    | brk => exact False.elim hq
    | cont => exact False.elim hq
end
end MS

set_option Elab.async false
set_option linter.all false
set_option maxRecDepth 100000
set_option maxHeartbeats 4000000
/-! TP: d.get(k, x), sum(d.values()) -/
namespace L2
open PySem PySem.Spec PyProof.Rows
/-- what d.values() lays -/
def vwO (a : Addr) : PySem.Obj := { cls := .type "dict_values", data := .fields #[.ref a] }
theorem pre_all (ns : List Int) : ∀ k, k ≤ ns.length → preSum (fun j => ns.getD j 0) k = (ns.take k).sum
  | 0, _ => rfl
  | k + 1, lt => by
    have z : ns[k]? = some (ns[k]'lt) := List.getElem?_eq_getElem lt
    rw [List.take_add_one, z, List.sum_append, ← pre_all ns k (Nat.le_of_lt lt), preSum]
    show _ + ns.getD k 0 = _
    rw [List.getD_eq_getElem?_getD, z]
    simp
/-- a dict's values that are whole numbers, in the model's heap -/
theorem vals_int {kvs : List (Key × V)} {vs : List (Key × Value)} {ns : List Int} (kv : KV kvs vs) (hn : kvs.map (·.2) = ns.map V.int) : vs.length = ns.length ∧ ∀ j w, (∃ k, vs[j]? = some (k, w)) → ∃ t, w = Value.int (ns.getD j 0) t := by
  constructor
  · have z := congrArg List.length hn
    simp only [List.length_map] at z
    rw [← z, ← KV.length kv]
  · rintro j w ⟨k, hk⟩
    obtain ⟨y, y1, y2⟩ := KV.at' kv hk
    have z : (ns.map V.int)[j]? = some y := by rw [← hn, List.getElem?_map, y1]; rfl
    rw [List.getElem?_map] at z
    cases q : ns[j]? with
    | none => rw [q] at z; cases z
    | some i =>
      rw [q] at z
      cases z
      obtain ⟨t, rfl⟩ := y2
      exact ⟨t, by rw [List.getD_eq_getElem?_getD, q]; rfl⟩
/-- sum of the view just laid -/
theorem sum_view {P0 : Program} {w0 : World} {A : Around} {s : Shared} {a : Addr} {vs : List (Key × Value)} {ep : Nat} {ns : List Int} {Q : Value → Shared → Prop} {E : Value → Shared → Prop} (hh : A.handled = none) (da : s.heap.DictAt (mixKind P0 w0) a vs ep) (la : a < s.heap.objs.size)
    (hl : vs.length = ns.length) (hi : ∀ j w, (∃ k, vs[j]? = some (k, w)) → ∃ t, w = Value.int (ns.getD j 0) t) (q : ∀ h' tk t, (∀ b u, s.heap.get? b = some u → h'.get? b = some u) → Q (.int ns.sum t) { s with heap := h', toks := tk }) :
    wpAny (model P0 w0) A (call (.builtin "sum") [.ref s.heap.objs.size]) Q E { s with heap := s.heap.push (vwO a) } := by
  have up : ∀ b u, s.heap.get? b = some u → (s.heap.push (vwO a)).get? b = some u := fun b u z => Heap.get?_push_of_some _ z
  have db := da.keep up
  have sz : (s.heap.push (vwO a)).objs.size = s.heap.objs.size + 1 := Heap.size_push _ _
  have lv : a < (s.heap.push (vwO a)).objs.size := sz ▸ Nat.lt_succ_of_lt la
  have vw : (s.heap.push (vwO a)).get? s.heap.objs.size = some (vwO a) := Heap.get?_push_size _ rfl
  refine call_sum_walkAnyS (wpAny_pyIter_values (d := a) ⟨_, vw, rfl, rfl⟩ db ?_)
  have wk := Walks.dictValues (prog := P0) (w := w0) (knd := mixKind P0 w0) (A := A.in1) hh (s.heap.push (vwO a)).objs.size a (Nat.ne_of_lt lv) vs ep
  refine ⟨_, _, _, _, _, _, _, (fun j => ns.getD j 0), rfl, wk.toS, ⟨⟨_, Heap.get?_push_size _ rfl, rfl, rfl⟩, db.keep fun b u z => Heap.get?_push_of_some _ z⟩, ?_, hi, ?_⟩
  · intro b hb
    have sz2 : ∀ o, ((s.heap.push (vwO a)).push o).objs.size = s.heap.objs.size + 2 := fun o => by rw [Heap.size_push, sz]
    simp only [List.mem_cons, List.not_mem_nil, or_false] at hb
    show b < ((s.heap.push (vwO a)).push _).objs.size
    rw [sz2]
    rcases hb with rfl | rfl
    · exact sz ▸ Nat.lt_succ_self _
    · exact Nat.lt_succ_of_lt (Nat.lt_succ_of_lt la)
  · intro s' t mv
    have all : ∀ b u, s.heap.get? b = some u → s'.heap.get? b = some u := by
      intro b u z
      refine mv.heap b u (fun m => ?_) (Heap.get?_push_of_some _ (up b u z))
      have lt := Heap.lt_size z
      rw [List.mem_singleton.mp m, sz] at lt
      exact absurd lt (Nat.not_lt.mpr (Nat.le_succ _))
    have tot := pre_all ns vs.length (by omega)
    rw [List.take_of_length_le (by omega)] at tot
    rw [Moved.eq_with mv, tot]
    exact q s'.heap s'.toks t all
section
variable {X : Cx} {o : Expr} {p pos apos mpos : Pos} {td : TE}
/-- sum(o.values()), a dict with int values -/
def tSumVals (td : TE) : TE := fun σ H Q => td σ H fun x H1 => ∃ (a : Addr) (kvs : List (Key × V)) (ns : List Int), x = V.ref a ∧ H1 a = some (.dK kvs) ∧ kvs.map (·.2) = ns.map V.int ∧ Q (.int ns.sum) H1
theorem pe_sumVals (hc : X.calm = true) (hg : Gl X "sum") (hm : X.mg "sum" = none) (hd : PE X o td) (hb : attributeBase o "values" X.env (eval o X.env) = eval o X.env) (hl : (apos.endLine == mpos.line) = true) :
    PE X (.Call (.Name "sum" p) [.Call (.Attribute o "values" apos) [] [] mpos] [] pos) (tSumVals td) := by
  constructor
  intro pins s σ H Q I y
  have hs : starEach [Expr.Call (.Attribute o "values" apos) [] [] mpos] X.env = [(false, eval (Expr.Call (.Attribute o "values" apos) [] [] mpos) X.env)] := rfl
  apply wpAny_Call_Name_kw
  refine ld_blt I hg hm (u := .builtin "sum") (by first | rfl | decide +kernel) ?_ (by first | decide +kernel | decide) (by first | decide +kernel | decide)
  rw [hs]
  apply PySem.callWith_builtin1
  refine wpAny_Call_method0_late hb hl (thn (hd.run pins s σ H _ I y) ?_)
  rintro u s1 ⟨x, H1, I1, ru, a, kvs, ns, rfl, ha, hn, q⟩
  cases ru
  obtain ⟨_, nsys, vs, kv, df⟩ := dk_of I1.hok ha
  obtain ⟨ep, da⟩ := df.dictAt
  obtain ⟨ob, _, g, ex, _⟩ := id da
  obtain ⟨i1, i2⟩ := vals_int kv hn
  refine ⟨"dict", "dict.values", F.plainAttrs_dict, F.slot_dict_values, F.type_dict_values, ⟨ob, g, ex.1⟩, ?_, Calls.callWith_builtin rfl (PySem.evalArgs_none ?_)⟩
  · rintro b z
    cases z
    exact ⟨ob, g, ex.2.1⟩
  · refine call_meetsIn F.slot_dict_values ⟨ob, g, ex.1⟩ F.entry_dict_values (F.args_dict_values_1 _) (meets_dict_values (mixKind X.prog X.w) a nsys) ⟨⟨vs, df⟩, ?_⟩
    exact sum_view (I.ok.hd hc) da (Heap.lt_size g) i1 i2 fun h' tk t keep => ⟨.int _, H1, I1.kept keep, ⟨t, rfl⟩, q⟩
end
end L2
namespace MS
open PySem PySem.Spec PyProof.Rows L2
open Mini (Val Res Ex Tg Out evalE evalEs evalI evalTs)
section
variable {L : Lk} {G : Cr} {W : WX} {C : Mini.Cx} {X : L2.Cx}
theorem kvr_ints {K : PySem.W.Frag} {G : Clo} {H : Hp} {R : Mp} {n : Nat} : ∀ {kvs : List (Val × Val)} {ks : List (Key × L2.V)} {ns : List Int}, KVR K G H R n kvs ks → Mini.intsOf (kvs.map (·.2)) = some ns → ks.map (·.2) = ns.map L2.V.int
  | _, _, ns, .nil, e => by cases e; rfl
  | _, _, ns, .cons (x := x) hk rx t, e => by
    cases rx with
    | int i =>
      simp only [List.map_cons, Mini.intsOf] at e
      rw [Option.map_eq_some_iff] at e
      obtain ⟨m, e1, rfl⟩ := e
      rw [List.map_cons, List.map_cons, kvr_ints t e1]
    | _ => simp [Mini.intsOf] at e
theorem sumv_sem {o : Ex} : ∀ σ H Q, semE L G W C (.bi .sumv [o]) σ H Q → tSumVals (semE L G W C o) σ H Q := by
  rintro σ H Q ⟨R, h, env, rh, re, x⟩
  simp only [evalE] at x
  have x := x.bind
  simp only [evalEs] at x
  refine ⟨R, h, env, rh, re, x.bind.imp fun R1 h1 H1 v t1 r1 x1 => fun V rv => ?_⟩
  have x2 := x1 R1 H1 Xt.refl r1
  have x3 := x2
  obtain ⟨r, e, g⟩ := SemR.opt (o := Mini.biV .sumv h1 [v]) x3
  have e : (Mini.dictOf h1 v).bind (fun kvs => (Mini.intsOf (kvs.map (·.2))).map fun ns => Val.int ns.sum) = some r := e
  rw [Option.bind_eq_some_iff] at e
  obtain ⟨kvs, ed, e⟩ := e
  rw [Option.map_eq_some_iff] at e
  obtain ⟨ns, en, rfl⟩ := e
  unfold Mini.dictOf at ed
  split at ed
  · split at ed
    · rename_i ex
      cases ed
      cases rv with
      | ref hi =>
        obtain ⟨ks, q1, r2⟩ := HR.dict r1 ex
        exact ⟨_, ks, ns, rfl, q1, kvr_ints r2 en, g R1 H1 Xt.refl r1 _ (.int _)⟩
    · cases ed
  · cases ed
theorem sound_sumv {O : Expr} {o : Ex} {p pos apos mpos : Pos} (sl : SameL L X) (hc : X.calm = true) (hg : Gl X (nm "sum")) (hm : X.mg (nm "sum") = none) (ho : PE X O (semE L G W C o)) (hb : attributeBase O (nm "values") X.env (eval O X.env) = eval O X.env) (hl : (apos.endLine == mpos.line) = true) :
    PE X (.Call (.Name (nm "sum") p) [.Call (.Attribute O (nm "values") apos) [] [] mpos] [] pos) (semE L G W C (.bi .sumv [o])) :=
  (pe_sumVals hc hg hm ho hb hl).imp sumv_sem
/-! ### d.get(k, x) -/
theorem get2_sem {o k d : Ex} : ∀ σ H Q, semE L G W C (.bm o .get [k, d]) σ H Q → tDGet2 (semE L G W C o) (semE L G W C k) (semE L G W C d) σ H Q := by
  rintro σ H Q ⟨R, h, env, rh, re, x⟩
  simp only [evalE] at x
  refine ⟨R, h, env, rh, re, x.bind.imp fun R1 h1 H1 o t1 r1 x1 => fun O ro => ?_⟩
  have re1 := re.mono (t1.mo rh)
  by_cases hty : Mini.bmTy .get h1 o = true
  · rw [if_pos hty] at x1
    obtain ⟨n, kvs, rfl, en⟩ : ∃ n kvs, o = .ref n ∧ h1[n]? = some (.dict kvs) := by
      unfold Mini.bmTy at hty
      split at hty
      · split at hty
        · cases hty
        · rename_i ex; exact ⟨_, _, rfl, ex⟩
        · cases hty
      · cases hty
      · cases hty
    cases ro with
    | ref hn =>
      obtain ⟨ks, e1, _⟩ := HR.dict (G := G) r1 en
      refine ⟨_, rfl, .inl ⟨ks, .inl e1⟩, R1, h1, env, r1, re1, ?_⟩
      have x2 := x1.bind
      simp only [evalEs] at x2
      refine x2.bind.imp fun R2 h2 H2 kv t2 r2 x3 => fun KV rk => ?_
      refine ⟨R2, h2, env, r2, re1.mono (t2.mo r1), x3.bind.bind.imp fun R3 h3 H3 dv t3 r3 x4 => fun DV rd => ?_⟩
      have x5 := x4 R3 H3 Xt.refl r3 R3 H3 Xt.refl r3
      have t23 := (t2.trans r2 t3)
      have hn3 : R3 n = R1 n := (t3.same n (Nat.lt_of_lt_of_le hn t2.len)).trans (t2.same n hn)
      cases eb : Mini.bmV .get h3 (.ref n) [kv, dv] with
      | none => simp only [eb] at x5; exact x5.elim
      | some pr =>
        obtain ⟨v, h'⟩ := pr
        simp only [eb] at x5
        have eb : Mini.bmGet h3 (.ref n) [kv, dv] = some (v, h') := eb
        unfold Mini.bmGet at eb
        dsimp only at eb
        split at eb
        · rename_i kvs3 ex3
          split at eb
          · rename_i hk
            cases eb
            obtain ⟨ks3, q1, q2⟩ := HR.dict (G := G) r3 ex3
            obtain ⟨qk, hq⟩ := keyOf_flat hk
            have eV := keyOf_V hq rk
            refine ⟨_, .inl ⟨ks3, qk, .inl (hn3 ▸ q1), eV, rfl⟩, ?_⟩
            obtain ⟨w1, w2⟩ := kvr_val hq q2
            cases el : kvs3.lookup kv with
            | some v3 =>
              obtain ⟨xx, l1, l2⟩ := w1 v3 el
              rw [l1]
              rw [el] at x5
              exact x5 R3 H3 Xt.refl r3 _ l2
            | none =>
              rw [w2 el]
              rw [el] at x5
              exact x5 R3 H3 Xt.refl r3 _ rd
          · cases eb
        · cases eb
  · rw [if_neg hty] at x1
    exact x1.elim
theorem sound_get2 {O K D : Expr} {o k d : Ex} {apos cpos : Pos} (hu : X.A.units + 1 < cLine) (m : M2 X O (nm "get") apos K D cpos) (ho : PE X O (semE L G W C o)) (hk : PE X K (semE L G W C k)) (hd : PE X D (semE L G W C d)) :
    PE X (.Call (.Attribute O (nm "get") apos) [K, D] [] cpos) (semE L G W C (.bm o .get [k, d])) :=
  (pe_dget2 hu ho hk hd m).imp get2_sem
end
end MS

set_option Elab.async false
set_option linter.all false
set_option maxRecDepth 100000
set_option maxHeartbeats 4000000
/-! SS: the checker: a text of the small language against a row's text -/
namespace MS
open PySem PySem.Spec PyProof.Rows L2
open Mini (Val Res Ex Tg Out evalE evalEs evalI evalTs)

/-- the names of a body or a block -/
structure Gx where
  N : List Str
  sc : Scope
  top : Bool
  calm : Bool
  /-- no lambda comes in -/
  nc : Bool
  ex : List Nat
  /-- what a lambda made here is called; the table of its code objects -/
  q : Str := nm ""
  P : Option Addr := none
  /-- a block's own cells -/
  oc : List Str := []
/-- the names of the module -/
structure Ev where
  bts : List Str
  cons : List String
  defs : List String
  excs : List String
  /-- classes, fields, groups of classes of except clauses -/
  clss : List String
  flds : List String
  hcs : List (List String)
  /-- classes with instances -/
  owns : List String
  /-- the lambdas that may be made; their names behind parameters and captured ones -/
  lam : String → LamI → Bool
  lamN : String → List Str
  /-- classes that isinstance asks a caught exception for -/
  iss : List String := []
def vis (sc : Scope) (x : Str) : Bool := match sc.names.lookup x with
  | some .local => true
  | some .cell => true
  | some .free => true
  | _ => false
def glob (sc : Scope) (x : Str) : Bool := match sc.names.lookup x with
  | some .globalImplicit => true
  | _ => false
def notStar : Expr → Bool
  | .Starred .. => false
  | _ => true
def notSet : Expr → Bool
  | .Set .. => false
  | _ => true
def notIf : Expr → Bool
  | .IfExp .. => false
  | _ => true
def notSlice : Expr → Bool
  | .Slice .. => false
  | .Tuple .. => false
  | _ => true
def plainO : Expr → Bool
  | .Name .. => true
  | .Subscript .. => true
  | .Attribute .. => true
  | _ => false
def builtinOf : Mini.Bi → Option (String × Bool)
  | .len => some ("len", false)
  | .sum => some ("sum", false)
  | .min => some ("min", false)
  | .max => some ("max", false)
  | .abs => some ("abs", false)
  | .all => some ("all", false)
  | .any => some ("any", false)
  | .tuple => some ("tuple", true)
  | .list => some ("list", true)
  | .int => some ("int", true)
  | .str => some ("str", true)
  | .repr => some ("repr", false)
  | .sorted => some ("sorted", false)
  | _ => none
def calmBi : Mini.Bi → Bool
  | .sum => true
  | .sorted => true
  | .min => true
  | .max => true
  | .all => true
  | .any => true
  | _ => false
def bopOf : Mini.BOp → Operator → Bool
  | .add, .Add => true
  | .sub, .Sub => true
  | .mul, .Mult => true
  | .fdiv, .FloorDiv => true
  | .mod, .Mod => true
  | .pow, .Pow => true
  | .shl, .LShift => true
  | .shr, .RShift => true
  | _, _ => false
def copOf : Mini.COp → CmpOp → Bool
  | .eq, .Eq => true
  | .ne, .NotEq => true
  | .lt, .Lt => true
  | .le, .LtE => true
  | .gt, .Gt => true
  | .ge, .GtE => true
  | .is, .Is => true
  | .isnot, .IsNot => true
  | .isin, .In => true
  | .notin, .NotIn => true
  | _, _ => false
def kindName : Mini.Kind → String := kindTy
def fresh : Ex → Bool
  | .bin .add _ _ => true
  | .bin .mul _ _ => true
  | .lst _ => true
  | .slice .. => true
  | .rev _ => true
  | .bi (.isi _) _ => false
  | .bi .sumv _ => false
  | .bi _ _ => true
  | .sortk .. => true
  | .lc .. => true
  | _ => false
/-- the names that a block keeps in cells of its own -/
def ocOf (scope : Scope) : List Str := (scope.names.filter fun y => scope.names.lookup y.1 == some .cell).map (·.1)
mutual
def okG (Γ : Gx) : Tg → Expr → Bool
  | .loc i, E => match E with
    | .Name x _ => decide (Γ.N[i]? = some x) && (match Γ.sc.names.lookup x with
      | some .local => true
      | some .cell => Γ.top || Γ.oc.contains x
      | _ => false)
    | _ => false
  | .tup ts, E => match E with
    | .Tuple Es _ _ => okGs Γ ts Es
    | _ => false
def okGs (Γ : Gx) : List Tg → List Expr → Bool
  | [], Es => Es.isEmpty
  | t :: ts, Es => match Es with
    | E :: Es => okG Γ t E && okGs Γ ts Es && notStar E
    | [] => false
end
mutual
/-- the names a target of a comprehension owns -/
def ownOf : Tg → Expr → List (Str × Nat)
  | .loc i, E => match E with
    | .Name x _ => [(x, i)]
    | _ => []
  | .tup ts, E => match E with
    | .Tuple Es _ _ => ownsOf ts Es
    | _ => []
def ownsOf : List Tg → List Expr → List (Str × Nat)
  | [], _ => []
  | t :: ts, Es => match Es with
    | E :: Es => ownOf t E ++ ownsOf ts Es
    | [] => []
end
def isTupE : Expr → Bool
  | .Tuple .. => true
  | _ => false
def isGap : Ex → Bool
  | .lit .gap => true
  | _ => false
def flatKV : List (Option Expr) → List Expr → Option (List Expr)
  | [], [] => some []
  | some K :: Ks, V :: Vs => (flatKV Ks Vs).map fun l => K :: V :: l
  | _, _ => none
def argNames (a : Arguments) : List Str := a.args.map (·.arg)
def lamOf (V : Ev) (Γ : Gx) (k : String) (js : List Nat) (prs : Arguments) (body : Expr) (sc : Scope) (ds : List Int) (P : Addr) : LamI :=
  { q := Γ.q, prs := prs, body := body, sc := sc, ds := ds, ps := argNames prs, caps := js.map fun i => (Γ.N[i]?).getD (nm ""), N := argNames prs ++ (js.map fun i => (Γ.N[i]?).getD (nm "")) ++ V.lamN k, P := P }
/-- may this lambda be made here -/
def lamHere (V : Ev) (Γ : Gx) (k : String) (js : List Nat) (prs : Arguments) (body : Expr) (sc : Scope) : Bool := match Γ.P, intsOf prs.defaults with
  | some P, some ds => V.lam k (lamOf V Γ k js prs body sc ds P) && prs.kw_defaults.isEmpty && prs.kwonlyargs.isEmpty && js.all (fun i => decide (i < Γ.N.length) && !Γ.ex.contains i) &&
      sc.names.all fun y => match y.2 with
        | .free => (match Γ.sc.names.lookup y.1 with
          | some .cell => true
          | some .free => true
          | _ => false)
        | _ => true
  | _, _ => false
variable (V : Ev)
mutual
def okE (Γ : Gx) : Ex → Expr → Bool
  | .lit v, E => match E with
    | .Constant c _ _ => (match v, c with
      | .none, .none => true
      | .bool a, .bool b => a == b
      | .int a, .int b => a == b
      | .str a, .str b => decide (toS a = b)
      | _, _ => false)
    | .Dict [] [] _ => (match v with
      | .emp => true
      | _ => false)
    | _ => false
  | .loc i, E => match E with
    | .Name x _ => decide (Γ.N[i]? = some x) && vis Γ.sc x && !(x == ("__debug__" : Str)) && !(x == ("__classdict__" : Str)) && !Γ.ex.contains i
    | _ => false
  | .con c, E => match E with
    | .Name x _ => decide (x = nm c) && glob Γ.sc x && V.cons.contains c
    | _ => false
  | .bin op a b, E => match E with
    | .BinOp A O B _ => bopOf op O && okE Γ a A && okE Γ b B
    | _ => false
  | .neg a, E => match E with
    | .UnaryOp .USub A _ => okE Γ a A
    | _ => false
  | .not a, E => match E with
    | .UnaryOp .Not A _ => okE Γ a A && notIf A
    | _ => false
  | .cmp op a b, E => match E with
    | .Compare A [O] [B] _ => copOf op O && okE Γ a A && okE Γ b B && !behindInMarks O B
    | _ => false
  | .chain op op' a b c, E => match E with
    | .Compare A [O, O'] [B, D] _ => copOf op O && copOf op' O' && okE Γ a A && okE Γ b B && okE Γ c D && !lastMarks [O, O'] [B, D]
    | _ => false
  | .and a b, E => match E with
    | .BoolOp .And (A :: B :: r) p => okE Γ a A && notIf A && (match r with
      | [] => okE Γ b B && notIf B
      | _ => okE Γ b (.BoolOp .And (B :: r) p))
    | _ => false
  | .or a b, E => match E with
    | .BoolOp .Or (A :: B :: r) p => okE Γ a A && notIf A && (match r with
      | [] => okE Γ b B && notIf B
      | _ => okE Γ b (.BoolOp .Or (B :: r) p))
    | _ => false
  | .ite c a b, E => match E with
    | .IfExp T A B _ => okE Γ c T && notIf T && okE Γ a A && okE Γ b B
    | _ => false
  | .tup es, E => match E with
    | .Tuple Es _ _ => okEs Γ es Es && decide (es.length ≤ 1000)
    | _ => false
  | .lst es, E => match E with
    | .List Es _ => okEs Γ es Es && decide (es.length ≤ 1000)
    | _ => false
  | .dic es, E => match E with
    | .Dict [] [] _ => es.isEmpty
    | .Dict Ks Vs _ => (match flatKV Ks Vs with
      | some l => okEs Γ es l && decide (Ks.length ≤ 15) && !Ks.isEmpty
      | none => false)
    | _ => false
  | .thaw e, E => okE Γ e E && fresh e
  | .idx a i, E => match E with
    | .Subscript A I _ => okE Γ a A && okE Γ i I && notSlice I
    | _ => false
  | .slice a lo hi, E => match E with
    | .Subscript A (.Slice B D none _) _ => okE Γ a A && (match B with
      | none => isGap lo
      | some B => okE Γ lo B) && (match D with
      | none => isGap hi
      | some D => okE Γ hi D)
    | _ => false
  | .rev a, E => match E with
    | .Subscript A (.Slice none none (some (.UnaryOp .USub (.Constant (.int 1) _ _) _)) _) _ => okE Γ a A
    | _ => false
  | .efld i f, E => match E with
    | .Attribute (.Name x _) g _ => decide (Γ.N[i]? = some x) && decide (g = nm f) && V.flds.contains f && Γ.ex.contains i && vis Γ.sc x && !(x == ("__debug__" : Str)) && !(x == ("__classdict__" : Str)) && !Γ.calm
    | _ => false
  | .eis i e, E => match E with
    | .Call (.Name f _) [.Name x _, .Name y _] [] _ => decide (f = nm "isinstance") && glob Γ.sc f && V.bts.contains f && decide (Γ.N[i]? = some x) && V.iss.contains e && decide (y = nm e) && glob Γ.sc y && Γ.ex.contains i && vis Γ.sc x && !(x == ("__debug__" : Str)) && !(x == ("__classdict__" : Str)) && !Γ.calm
    | _ => false
  | .call f es, E => match E with
    | .Call (.Name x _) Es [] _ => decide (x = nm f) && glob Γ.sc x && V.defs.contains f && (okEs Γ es Es || okL Γ es Es) && Γ.calm
    | _ => false
  | .act e es, E => match E with
    | .Call (.Name x _) Es [] _ => (match e with
      | .loc i => decide (Γ.N[i]? = some x) && vis Γ.sc x && !(x == ("__debug__" : Str)) && !(x == ("__classdict__" : Str)) && okEs Γ es Es && Γ.calm
      | _ => false)
    | _ => false
  | .fld a f, E => match E with
    | .Attribute A g _ => okE Γ a A && plainO A && decide (g = nm f)
    | _ => false
  | .mk c es, E => match E with
    | .Call (.Name x _) Es [] _ => decide (x = nm c) && glob Γ.sc x && V.owns.contains c && okEs Γ es Es && !Es.isEmpty && Γ.calm
    | _ => false
  | .meth o m es, E => match E with
    | .Call (.Attribute O a ap) Es [] cp => okE Γ o O && plainO O && okEs Γ es Es && (ap.endLine == cp.line) && decide (a = nm m) && decide (Es.length < 29) && Γ.calm
    | _ => false
  | .bi b es, E => match E with
    | .Call (.Name x _) Es [] _ => glob Γ.sc x && V.bts.contains x && (match b with
      | .isi ks => (match ks, Es with
        | [k], [A, .Name y _] => decide (x = nm "isinstance") && okEs Γ es [A] && glob Γ.sc y && V.bts.contains y && decide (y = nm (kindTy k))
        | _, _ => false)
      | .sumv => (match Es with
        | [.Call (.Attribute O a ap) [] [] cp] => decide (x = nm "sum") && okEs Γ es [O] && plainO O && decide (a = nm "values") && (ap.endLine == cp.line) && Γ.calm
        | _ => false)
      | b => (match builtinOf b with
        | some (n, _) => decide (x = nm n) && okEs Γ es Es && !Es.isEmpty && (Γ.calm || !calmBi b)
        | none => false))
    | .Call (.Name x _) [A] [⟨some r, .Constant (.bool true) _ _, _⟩] _ => glob Γ.sc x && V.bts.contains x && decide (x = nm "sorted") && decide (r = nm "reverse") && Γ.calm && (match b with
      | .sortr => okEs Γ es [A]
      | .sortdr => (match A with
        | .Call (.Name y _) [A2] [] _ => glob Γ.sc y && V.bts.contains y && decide (y = nm "dict") && okEs Γ es [A2]
        | _ => false)
      | _ => false)
    | _ => false
  | .sortk e k js, E => match E with
    | .Call (.Name x _) [A] [⟨some r, .Lambda prs body sc _, _⟩] _ => glob Γ.sc x && V.bts.contains x && decide (x = nm "sorted") && decide (r = nm "key") && okE Γ e A && notStar A && lamHere V Γ k js prs body sc && Γ.calm
    | _ => false
  | .bm o m es, E => match E with
    | .Call (.Attribute O a ap) Es [] cp => okE Γ o O && plainO O && okEs Γ es Es && (ap.endLine == cp.line) && (match m with
      | .append => decide (a = nm "append") && decide (Es.length = 1)
      | .extend => decide (a = nm "extend") && decide (Es.length = 1)
      | .pop => decide (a = nm "pop") && Es.isEmpty
      | .get => decide (a = nm "get") && decide (Es.length = 2)
      | _ => false)
    | _ => false
  | .lc elt t it is, E => match E with
    | .ListComp Elt [c] scope _ => Γ.calm && (Γ.nc || Γ.top) && (c.is_async == 0) && notSet c.iter && okI Γ it c.target c.iter &&
        okG { N := Γ.N, sc := relS scope Γ.sc, top := false, calm := true, nc := Γ.nc, ex := Γ.ex, oc := ocOf scope } t c.target &&
        okE { N := Γ.N, sc := relS scope Γ.sc, top := false, calm := true, nc := Γ.nc, ex := Γ.ex, oc := ocOf scope } elt Elt &&
        okEs { N := Γ.N, sc := relS scope Γ.sc, top := false, calm := true, nc := Γ.nc, ex := Γ.ex, oc := ocOf scope } is c.ifs && decide (c.ifs.length ≤ 1) && c.ifs.all notIf && blkC Γ.N Γ.sc scope (ownOf t c.target) && decide ((ownOf t c.target).map (·.2) = slots t)
    | _ => false
  | _, _ => false
def okEs (Γ : Gx) : List Ex → List Expr → Bool
  | [], Es => Es.isEmpty
  | e :: es, Es => match Es with
    | E :: Es => okE Γ e E && okEs Γ es Es && notStar E
    | [] => false
/-- a lambda, then others; one other, then a lambda -/
def okL (Γ : Gx) : List Ex → List Expr → Bool
  | [], _ => false
  | e :: es, Es => match Es with
    | .Lambda prs body sc _ :: Es => (match e with
      | .lam k js => lamHere V Γ k js prs body sc && okEs Γ es Es
      | _ => false)
    | [E, .Lambda prs body sc _] => (match es with
      | [.lam k js] => okE Γ e E && notStar E && lamHere V Γ k js prs body sc
      | _ => false)
    | _ => false
def okI (Γ : Gx) : Mini.It → Expr → Expr → Bool
  | .of e, _, E => okE Γ e E
  | .enum e, T, E => match E with
    | .Call (.Name x _) [A] [] _ => decide (x = nm "enumerate") && glob Γ.sc x && V.bts.contains x && okE Γ e A && notStar A && isTupE T
    | _ => false
  | .revd e, _, E => match E with
    | .Call (.Name x _) [A] [] _ => decide (x = nm "reversed") && glob Γ.sc x && V.bts.contains x && okE Γ e A && notStar A
    | _ => false
  | .zip a b, T, E => match E with
    | .Call (.Name x _) [A, B] [] _ => decide (x = nm "zip") && glob Γ.sc x && V.bts.contains x && okE Γ a A && okE Γ b B && notStar A && notStar B && isTupE T
    | _ => false
  | .range a b, _, E => match E with
    | .Call (.Name x _) [B] [] _ => decide (x = nm "range") && glob Γ.sc x && V.bts.contains x && (match a with
      | .lit (.int 0) => true
      | _ => false) && okE Γ b B && notStar B
    | .Call (.Name x _) [A, B] [] _ => decide (x = nm "range") && glob Γ.sc x && V.bts.contains x && okE Γ a A && okE Γ b B && notStar A && notStar B
    | _ => false
end
/-! ### statements -/
def isComp : Expr → Bool
  | .ListComp .. => true
  | .SetComp .. => true
  | .DictComp .. => true
  | _ => false
def isTupE' : Expr → Bool
  | .Tuple .. => true
  | .List .. => true
  | _ => false
/-- is a name stored by the comprehension itself -/
def swapC (sc : Scope) (x : Str) (px : Pos) (s : Scope) (p : Pos) : Bool :=
  (sc.names.lookup x == some .local) && px.line == p.line && !(s.names.any fun (n, k) => n == x && (k == .local || k == .cell))
/-- which names are stored from the right: none: the run stops -/
def swapS (sc : Scope) (ts vs : List Expr) : Option (Option (List Str)) :=
  if (!(ts.length == 2 || ts.length == 3) || vs.length != ts.length || false) = true then some none else
  if (vs.any fun | .Starred .. => true | _ => false) = true then some none else
  let line := (ts.head?.map (·.pos.line)).getD 0
  let names := ts.filterMap fun
    | .Name id pos => if sc.names.lookup id == some .local && pos.line == line then some id else none
    | _ => none
  if (names.length != ts.length || names.eraseDups.length != names.length) = true then some none else
  if vs.all (foldedForSure 8) = true then some none else
  if vs.all (constantsAlone 8) = true then none else some (some names)
def isLc : Ex → Bool
  | .lc .. => true
  | .thaw (.lc ..) => true
  | _ => false
def locOk (Γ : Gx) (i : Nat) (x : Str) : Bool := decide (Γ.N[i]? = some x) && (match Γ.sc.names.lookup x with
  | some .local => true
  | some .cell => Γ.top
  | _ => false)
def plainLoc (Γ : Gx) (i : Nat) (x : Str) : Bool := decide (Γ.N[i]? = some x) && decide (Γ.sc.names.lookup x = some .local)
def clN (V : Ev) (Γ : Gx) (c : String) : Expr → Bool
  | .Name x _ => decide (x = nm c) && glob Γ.sc x && V.clss.contains c
  | _ => false
def okCT (V : Ev) (Γ : Gx) (cs : List String) (t : Expr) : Bool := match t with
  | .Name x _ => (match cs with
    | [c] => decide (x = nm c) && glob Γ.sc x && V.clss.contains c
    | _ => false)
  | .Tuple Es _ _ => decide (2 ≤ Es.length) && decide (Es.length ≤ 4) && decide (cs.length = Es.length) && ((cs.zip Es).all fun p => clN V Γ p.1 p.2)
  | _ => false
/-- what a statement stores to -/
def okTa (V : Ev) (Γ : Gx) : Mini.Ta → Expr → Bool
  | .loc i, E => okG Γ (.loc i) E
  | .sub o i, E => match E with
    | .Subscript O I _ => okE V Γ o O && okE V Γ i I && notSlice I
    | _ => false
  | .att o f, E => match E with
    | .Attribute O g _ => okE V Γ o O && decide (g = nm f)
    | _ => false
def okTas (V : Ev) (Γ : Gx) : List Mini.Ta → List Expr → Bool
  | [], Es => Es.isEmpty
  | t :: ts, Es => match Es with
    | E :: Es => okTa V Γ t E && okTas V Γ ts Es && notStar E
    | [] => false
def swapO (Γ : Gx) (Ts : List Expr) : Expr → Bool
  | .Tuple Vs _ _ => (match swapS Γ.sc Ts Vs with
    | some none => true
    | _ => false)
  | _ => true
mutual
def okS (V : Ev) (Γ : Gx) : Mini.St → Stmt → Bool
  | .exp e, S => match S with
    | .Expr E _ => okE V Γ e E && !isComp E
    | _ => false
  | .asg t e, S => match S with
    | .Assign [T] E _ => (match T with
      | .Name x px => (match t with
        | .loc i => locOk Γ i x && okE V Γ e E && (match E with
          | .ListComp _ _ s p => !swapC Γ.sc x px s p || (plainLoc Γ i x && isLc e && Γ.nc)
          | E => !isComp E)
        | _ => false)
      | .Tuple Ts _ _ => Γ.calm && !isComp E && (match E with
        | .Tuple Vs _ _ => (match swapS Γ.sc Ts Vs with
          | some none => okG Γ t T && okE V Γ e E
          | some (some names) => (match t, e, Ts with
            | .tup [.loc i, .loc j], .tup es, [.Name x _, .Name y _] => okEs V Γ es Vs && plainLoc Γ i x && plainLoc Γ j y && decide (i ≠ j) && decide (names = [x, y]) && decide (Vs.length = 2)
            | .tup [.loc i, .loc j, .loc l], .tup es, [.Name x _, .Name y _, .Name z _] => okEs V Γ es Vs && plainLoc Γ i x && plainLoc Γ j y && plainLoc Γ l z && decide (i ≠ j) && decide (i ≠ l) && decide (j ≠ l) && decide (names = [x, y, z]) && decide (Vs.length = 3)
            | _, _, _ => false)
          | none => false)
        | E => okG Γ t T && okE V Γ e E)
      | _ => false)
    | _ => false
  | .sub o i e, S => match S with
    | .Assign [.Subscript O I _] E _ => okE V Γ o O && okE V Γ i I && okE V Γ e E && !isComp E && notSlice I
    | _ => false
  | .att o f e, S => match S with
    | .Assign [.Attribute O g _] E _ => okE V Γ o O && okE V Γ e E && decide (g = nm f) && !isComp E
    | _ => false
  | .asgs ts e, S => match S with
    | .Assign [.Tuple Ts _ _] E _ => Γ.calm && !isComp E && okTas V Γ ts Ts && okE V Γ e E && swapO Γ Ts E
    | _ => false
  | .cond c a b, S => match S with
    | .If T A B _ => okE V Γ c T && notIf T && okSs V Γ a A && okSs V Γ b B
    | _ => false
  | .loop t it b, S => match S with
    | .For T I B [] _ => Γ.calm && okI V Γ it T I && okG Γ t T && okSs V Γ b B && notSet I
    | _ => false
  | .whl c b, S => match S with
    | .While T B [] _ => okE V Γ c T && notIf T && okSs V Γ b B
    | _ => false
  | .ret e, S => match S with
    | .Return (some E) _ => okE V Γ e E
    | .Return none _ => (match e with
      | .lit .none => true
      | _ => false)
    | _ => false
  | .raise c e, S => match S with
    | .Raise (some (.Call (.Name x _) [E] [] _)) none _ => Γ.calm && decide (x = nm c) && glob Γ.sc x && V.excs.contains c && okE V Γ e E && notStar E
    | _ => false
  | .try_ b hs, S => match S with
    | .Try B Hs [] [] _ => Γ.calm && Γ.top && Γ.ex.isEmpty && okSs V Γ b B && okHs V Γ hs Hs && !Hs.isEmpty
    | _ => false
  | .brk, S => match S with
    | .Break _ => true
    | _ => false
  | .cont, S => match S with
    | .Continue _ => true
    | _ => false
  | .pass, S => match S with
    | .Pass _ => true
    | _ => false
def okSs (V : Ev) (Γ : Gx) : List Mini.St → List Stmt → Bool
  | [], Ss => Ss.isEmpty
  | s :: ss, Ss => match Ss with
    | S :: Ss => okS V Γ s S && okSs V Γ ss Ss
    | [] => false
def okHs (V : Ev) (Γ : Gx) : Mini.Hs → List ExceptHandler → Bool
  | .nil, Hs => Hs.isEmpty
  | .cons cs n body rest, Hs => match Hs with
    | .ExceptHandler (some t) x suite _ :: Hs => okCT V Γ cs t && V.hcs.contains cs && (match n, x with
      | none, none => okSs V { N := Γ.N, sc := Γ.sc, top := Γ.top, calm := false, nc := Γ.nc, ex := Γ.ex } body suite
      | some i, some x => plainLoc Γ i x && okSs V { N := Γ.N, sc := Γ.sc, top := Γ.top, calm := false, nc := Γ.nc, ex := i :: Γ.ex } body suite
      | _, _ => false) && !suite.isEmpty && okHs V Γ rest Hs
    | _ => false
end
end MS

set_option Elab.async false
set_option linter.all false
set_option maxRecDepth 100000
set_option maxHeartbeats 4000000
/-! ST: what the checker lets is true of the row's text: expressions -/
namespace MS
open PySem PySem.Spec PyProof.Rows L2
open Mini (Val Res Ex Tg Out evalE evalEs evalI evalTs)
/-- what is known of the module -/
structure Fx (L : Lk) (V : Ev) (C : Mini.Cx) (kk : Nat) : Prop where
  P : C.prog = L.P
  bts : ∀ x, V.bts.contains x = true → L.mg x = none
  cons : ∀ c, V.cons.contains c = true → ∃ v u U, C.prog.cons.lookup c = some v ∧ L.mg (nm c) = some u ∧ RelV U u ∧ (∀ (G : Clo) (H : Hp) (R : Mp) (n : Nat), VR L.K G H R n v U) ∧ (nm c == ("__debug__" : Str)) = false
  defs : ∀ f, V.defs.contains f = true → ∃ I, L.defs f = some I ∧ DefOk L f I ∧ I.top = true
  own : OwnOk L
  mks : ∀ c, V.owns.contains c = true → ∃ C0 I, L.co c = some C0 ∧ L.mg (nm c) = some (.ref C0) ∧ L.defs (c ++ ".__init__") = some I ∧ DefOk L (c ++ ".__init__") I ∧ Mk L.K C0 I.f ∧ (nm c == ("__debug__" : Str)) = false
  calls : CallsOk L kk C
  lens : LensOk L C
  acts : ActsOk L L.lams kk C
  abad : ActBad C
  hush : CallHush C
  lo : ∀ k vs s H o a, L.clo k vs s H o a ↔ ∃ I, L.lams k I ∧ CloAt I vs s H o a
  lam : ∀ k I, V.lam k I = true → (I.P, I.q) ∈ L.T → L.lams k I ∧ LamOk I
  excs : ∀ c, V.excs.contains c = true → ∃ C0 f, L.ca c = some C0 ∧ L.fld c = some f ∧ ∀ (X : L2.Cx) (E : Expr) (te : TE) (p pos : Pos), SameL L X → X.calm = true → Gl X (nm c) → Room kk X.A → notStar E = true → PE X E te → PMk X (.Call (.Name (nm c) p) [E] [] pos) (tMkX C0 (nm f) te)
  clss : ∀ c, V.clss.contains c = true → ∃ C0, L.ca c = some C0 ∧ L.mg (nm c) = some (.ref C0) ∧ (nm c == ("__debug__" : Str)) = false
  hcs : ∀ cs, V.hcs.contains cs = true → ∀ c C0, L.ca c = some C0 → PySem.W.exmAny L.K (.ref C0) (cs.map (kv L)) = some (Mini.excIs L.P c cs)
  xf : ∀ c C0, L.ca c = some C0 → XfC L.K C0 ∧ ∀ f, V.flds.contains f = true → PySem.W.findIn L.K (.ref C0) (nm f) = some none
  xis : ∀ e, V.iss.contains e = true → ∃ E0, L.mg (nm e) = some (.ref E0) ∧ (nm e == ("__debug__" : Str)) = false ∧ ∀ c C0, L.ca c = some C0 → XiC L.K C0 ∧ PySem.W.kitOne L.K (.ref C0) (.ref E0) = some (Mini.excIs L.P c [e])
/-- a context of which Γ tells -/
structure GoodX (L : Lk) (V : Ev) (C : Mini.Cx) (kk : Nat) (G : Cr) (Γ : Gx) (W : WX) (X : L2.Cx) : Prop where
  sl : SameL L X
  N : X.N = Γ.N
  nd : Γ.N.Nodup
  sc : X.env.scope = Γ.sc
  knd : Γ.sc.kind = .function
  st : Γ.top = true → X.stack = X.env :: X.outer ∧ X.env.frame = some X.env.locals
  calm : Γ.calm = true → X.calm = true
  room : Γ.calm = true → Room (kk + 1) X.A
  units : X.A.units + 65 < cLine
  guards : X.A.guards = some []
  tk : Takes X W
  fn : Γ.top = true → ∀ x, X.fn x = true
  oc : ∀ x, Γ.oc.contains x = true → X.fn x = true
  po : PassesOwn (model X.prog X.w) X.A X.env X.xe
  ex : ∀ i, Γ.ex.contains i = false → G.exs i = none
  clo : ∀ (A : Around) (c : Bool) (pn : List (Addr × Obj)) (xe : Value → Shared → Prop) pins σ H s, Inv { X with A := A, calm := c, pn := pn, xe := xe } pins σ H s → CloOk L G s H X.stack
  nc : Γ.nc = true → ∀ k a vs, ¬ G.clo k a vs
  c0 : Γ.top = true → Γ.nc = true ∨ (X.ex = [] ∧ ∀ k a vs, G.clo k a vs → L.clo k vs X.s_0 X.H_0 X.outer a)
  lm : ∀ P, Γ.P = some P → ∃ c, LamX.TabB X.base X.mg c P ∧ X.env.code = .ref c ∧ X.env.qual ++ "<lambda>" = Γ.q ∧ (P, Γ.q) ∈ L.T ∧ ∀ p ∈ L.T, p.1 = P → p.2 = Γ.q
  ef : Γ.calm = false → ∀ (i : Nat) (f : String) (x : Str) (p pos : Pos), V.flds.contains f = true → Γ.ex.contains i = true → Γ.N[i]? = some x → vis Γ.sc x = true → (x == ("__debug__" : Str)) = false → (x == ("__classdict__" : Str)) = false → PE X (.Attribute (.Name x p) (nm f) pos) (semE L G W C (.efld i f))
  ei : Γ.calm = false → ∀ (i : Nat) (e : String) (x : Str) (p px pe pos : Pos), Gl X (nm "isinstance") → X.mg (nm "isinstance") = none → Gl X (nm e) → V.iss.contains e = true → Γ.ex.contains i = true → Γ.N[i]? = some x → vis Γ.sc x = true → (x == ("__debug__" : Str)) = false → (x == ("__classdict__" : Str)) = false → PE X (.Call (.Name (nm "isinstance") p) [.Name x px, .Name (nm e) pe] [] pos) (semE L G W C (.eis i e))
section
variable {L : Lk} {V : Ev} {C : Mini.Cx} {kk : Nat} {G : Cr} {Γ : Gx} {W : WX} {X : L2.Cx}
/-- E's truth is its value's -/
def Plain (X : L2.Cx) (E : Expr) : Prop := (∀ whole, isTrue E X.env whole = (do let v ← whole; standAt E.pos; holding [v] (truthy v))) ∧ ∀ op vs p, E ≠ .BoolOp op vs p
/-- what is shown of an expression -/
structure SndR (L : Lk) (C : Mini.Cx) (G : Cr) (W : WX) (X : L2.Cx) (x : Ex) (E : Expr) : Prop where
  e : PE X E (semE L G W C x)
  t : notIf E = true → PT X E (semT L G W C x)
  w : ∀ op vs p, E = .BoolOp op vs p → PW X E (semT L G W C x)
  f : fresh x = true → PE X E (semF L G W C x) ∧ Plain X E
theorem SndR.of {e : Ex} {E : Expr} (hK : X.K = L.K) (he : PE X E (semE L G W C e)) (hp : Plain X E) (hf : fresh e = false) : SndR L C G W X e E :=
  ⟨he, fun _ => test_val hK he hp.1, fun op vs p z => absurd z (hp.2 op vs p), fun z => by rw [hf] at z; cases z⟩
theorem SndR.new {e : Ex} {E : Expr} (hK : X.K = L.K) (hf : PE X E (semF L G W C e)) (hp : Plain X E) : SndR L C G W X e E :=
  ⟨fresh_val hf, fun _ => test_val hK (fresh_val hf) hp.1, fun op vs p z => absurd z (hp.2 op vs p), fun _ => ⟨hf, hp⟩⟩
theorem SndR.cmp {e : Ex} {E : Expr} (he : PE X E (semE L G W C e)) (ht : PT X E (semT L G W C e)) (hp : ∀ op vs p, E ≠ .BoolOp op vs p) (hf : fresh e = false) : SndR L C G W X e E :=
  ⟨he, fun _ => ht, fun op vs p z => absurd z (hp op vs p), fun z => by rw [hf] at z; cases z⟩
theorem SndR.bool {e : Ex} {E : Expr} (he : PE X E (semE L G W C e)) (hw : PW X E (semT L G W C e)) (hf : fresh e = false) : SndR L C G W X e E :=
  ⟨he, fun _ => hw.pt, fun op vs p z => hw, fun z => by rw [hf] at z; cases z⟩
theorem SndR.ite {e : Ex} {E : Expr} (he : PE X E (semE L G W C e)) (hi : notIf E = false) (hp : ∀ op vs p, E ≠ .BoolOp op vs p) (hf : fresh e = false) : SndR L C G W X e E :=
  ⟨he, fun z => absurd z (by rw [hi]; decide), fun op vs p z => absurd z (hp op vs p), fun z => by rw [hf] at z; cases z⟩
inductive Al (L : Lk) (C : Mini.Cx) (G : Cr) (W : WX) (X : L2.Cx) : List Ex → List Expr → Prop
  | nil : Al L C G W X [] []
  | cons {e : Ex} {E : Expr} {es : List Ex} {Es : List Expr} : SndR L C G W X e E → notStar E = true → Al L C G W X es Es → Al L C G W X (e :: es) (E :: Es)
theorem star_cons {E : Expr} {Es : List Expr} {env : PySem.Env} (h : notStar E = true) : starEach (E :: Es) env = (false, eval E env) :: starEach Es env := by
  cases E <;> first | rfl | cases h
theorem assign_cons {E : Expr} {Es : List Expr} {env : PySem.Env} (h : notStar E = true) : assignEach (E :: Es) env = (false, assign E env) :: assignEach Es env := by
  cases E <;> first | rfl | cases h
theorem Al.pa : ∀ {es : List Ex} {Es : List Expr}, Al L C G W X es Es → PA X Es (semA L G W C es)
  | _, _, .nil => args_nil
  | _, _, .cons r h t => args_cons r.e t.pa (star_cons h)
theorem Al.any {pos : Pos} {env : PySem.Env} : ∀ {es : List Ex} {Es : List Expr}, Al L C G W X es Es → (backTo pos (starEach Es env)).any (·.1) = false
  | _, _, .nil => rfl
  | _, _, .cons r h t => by
    rw [star_cons h]
    show (false || (backTo pos (starEach _ env)).any (·.1)) = false
    rw [Al.any t]; rfl
theorem Al.all {pos : Pos} {env : PySem.Env} : ∀ {es : List Ex} {Es : List Expr}, Al L C G W X es Es → (backTo pos (starEach Es env)).all (fun x => !x.1) = true
  | _, _, .nil => rfl
  | _, _, .cons r h t => by
    rw [star_cons h]
    show (!false && (backTo pos (starEach _ env)).all (fun x => !x.1)) = true
    rw [Al.all t]; rfl
theorem Al.len : ∀ {es : List Ex} {Es : List Expr}, Al L C G W X es Es → es.length = Es.length
  | _, _, .nil => rfl
  | _, _, .cons r h t => by simp [t.len]
theorem Al.pps {pos : Pos} : ∀ {Ks : List (Option Expr)} {Vs : List Expr} {l : List Expr} {es : List Ex}, flatKV Ks Vs = some l → Al L C G W X es l → PPs X pos Ks Vs (pairTE L G W C es) ∧ Ks.all (·.isSome) = true ∧ Ks.length = Vs.length ∧ es.length % 2 = 0
  | [], [], l, es, e, a => by
    cases e
    cases a
    exact ⟨pps_nil, rfl, rfl, rfl⟩
  | some K :: Ks, W' :: Vs, l, es, e, a => by
    simp only [flatKV, Option.map_eq_some_iff] at e
    obtain ⟨l', e1, rfl⟩ := e
    cases a with
    | cons r1 h1 a => cases a with
      | cons r2 h2 a =>
        obtain ⟨p1, p2, p3, p4⟩ := Al.pps (pos := pos) e1 a
        exact ⟨pps_cons r1.e r2.e p1, by simp [p2], by simp [p3], by simp only [List.length_cons]; omega⟩
  | none :: _, _, _, _, e, _ => by cases e
  | [], _ :: _, _, _, e, _ => by cases e
  | some _ :: _, [], _, _, e, _ => by cases e
theorem GoodX.cl (g : GoodX L V C kk G Γ W X) : ∀ pins σ H s, Inv X pins σ H s → CloOk L G s H X.stack := fun pins σ H s I => g.clo X.A X.calm X.pn X.xe pins σ H s I
theorem gl_of (g : GoodX L V C kk G Γ W X) {x : Str} (h : glob Γ.sc x = true) : Gl X x := by
  unfold glob at h
  show X.env.scope.names.lookup x = _
  rw [g.sc]
  split at h
  · assumption
  · cases h
theorem vis_of (g : GoodX L V C kk G Γ W X) {x : Str} (h : vis Γ.sc x = true) : Vis X.env.scope x := by
  unfold vis at h
  unfold Vis
  rw [g.sc]
  split at h
  · exact .inl (by assumption)
  · exact .inr (.inl (by assumption))
  · exact .inr (.inr (by assumption))
  · cases h
theorem bmg (g : GoodX L V C kk G Γ W X) (F : Fx L V C kk) {x : Str} (h : V.bts.contains x = true) : X.mg x = none := by rw [g.sl.mg]; exact F.bts x h
theorem nobeh {x : Str} {s : String} (h : decide (x = nm s) = true) : x = nm s := of_decide_eq_true h
/-! ### targets -/
mutual
theorem sound_g (g : GoodX L V C kk G Γ W X) (hc : X.calm = true) : ∀ (t : Tg) (E : Expr), okG Γ t E = true → PG X E (semG L G t)
  | .loc i, E, h => by
    simp only [okG] at h
    split at h
    · simp only [Bool.and_eq_true, decide_eq_true_eq] at h
      obtain ⟨h1, h2⟩ := h
      refine goal_name (by rw [g.N]; exact g.nd) (by rw [g.N]; exact h1) ?_ ?_
      · unfold L2.Loc
        rw [g.sc]
        split at h2
        · exact .inl (by assumption)
        · exact .inr (by assumption)
        · cases h2
      · rw [g.sc]
        split at h2
        · exact .inr (by assumption)
        · rw [Bool.or_eq_true] at h2
          exact .inl (h2.elim (fun z => g.fn z _) (g.oc _))
        · cases h2
    · cases h
  | .tup ts, E, h => by
    simp only [okG] at h
    split at h
    · obtain ⟨p, n1, n2⟩ := sound_gs g hc ts _ h
      exact goal_tup g.sl.K hc p n1 n2
    · cases h
theorem sound_gs (g : GoodX L V C kk G Γ W X) (hc : X.calm = true) : ∀ (ts : List Tg) (Es : List Expr), okGs Γ ts Es = true → PGs X Es (semGs L G ts) ∧ (assignEach Es X.env).length = ts.length ∧ (assignEach Es X.env).findIdx? (·.1) = none
  | [], Es, h => by
    simp only [okGs, List.isEmpty_iff] at h
    subst h
    exact ⟨goals_nil, rfl, rfl⟩
  | t :: ts, Es, h => by
    simp only [okGs] at h
    split at h
    · simp only [Bool.and_eq_true] at h
      obtain ⟨⟨h1, h2⟩, h3⟩ := h
      obtain ⟨p, n1, n2⟩ := sound_gs g hc ts _ h2
      rw [assign_cons h3]
      refine ⟨goals_cons (sound_g g hc t _ h1) p (by rw [assign_cons h3]; rfl), by simp [n1], ?_⟩
      rw [List.findIdx?_cons]
      simp [n2]
    · cases h
end
theorem opr_cmp {op : Mini.COp} {O : CmpOp} (g : GoodX L V C kk G Γ W X) (h : copOf op O = true) : ∃ r, CmpOk L G op r ∧ OpR X (compareOp O) r := by
  have hu : X.A.units + 64 < cLine := by have := g.units; omega
  cases op <;> cases O <;> first | cases h | skip
  · exact ⟨_, cmp_eq, g.sl.K ▸ OpR.or (op_eqD hu) op_eq⟩
  · exact ⟨_, cmp_ne, g.sl.K ▸ OpR.or (op_neD hu) op_ne⟩
  · exact ⟨_, cmp_int (fun _ _ _ => rfl), op_lt⟩
  · exact ⟨_, cmp_int (fun _ _ _ => rfl), op_le⟩
  · exact ⟨_, cmp_int (fun _ _ _ => rfl), op_gt⟩
  · exact ⟨_, cmp_int (fun _ _ _ => rfl), op_ge⟩
  · exact ⟨_, cmp_is, op_isN⟩
  · exact ⟨_, cmp_isnot, op_notN⟩
  · exact ⟨_, cmp_in, g.sl.K ▸ opr_in g.units⟩
  · exact ⟨_, cmp_notin, g.sl.K ▸ opr_notin g.units⟩
theorem callr {b : Mini.Bi} {n : String} {ty : Bool} (g : GoodX L V C kk G Γ W X) (h : builtinOf b = some (n, ty)) (hc : calmBi b = true → X.calm = true) : ∃ r, BiOk L G b r ∧ ((ty = true ∧ CallR X (.type n) r ∧ bootBuiltins (nm n) = some (.type n)) ∨ (ty = false ∧ CallR X (.builtin n) r ∧ bootBuiltins (nm n) = some (.builtin n))) ∧ nm n ≠ "__name__" ∧ (nm n == ("__debug__" : Str)) = false := by
  cases b <;> simp only [builtinOf, Option.some.injEq, Prod.mk.injEq, reduceCtorEq] at h <;> obtain ⟨rfl, rfl⟩ := h
  · exact ⟨_, bi_len, .inr ⟨rfl, g.sl.K ▸ cr_lenM, by first | rfl | kernel_rfl⟩, by decide +kernel, by decide +kernel⟩
  · exact ⟨_, bi_sum, .inr ⟨rfl, g.sl.K ▸ cr_sum (hc rfl), by first | rfl | kernel_rfl⟩, by decide +kernel, by decide +kernel⟩
  · exact ⟨_, bi_min, .inr ⟨rfl, CallR.or (call_min2 (hc rfl)) (g.sl.K ▸ cr_min (hc rfl)), by first | rfl | kernel_rfl⟩, by decide +kernel, by decide +kernel⟩
  · exact ⟨_, bi_max, .inr ⟨rfl, CallR.or (call_max2 (hc rfl)) (g.sl.K ▸ cr_max (hc rfl)), by first | rfl | kernel_rfl⟩, by decide +kernel, by decide +kernel⟩
  · exact ⟨_, bi_abs, .inr ⟨rfl, call_abs, by first | rfl | kernel_rfl⟩, by decide +kernel, by decide +kernel⟩
  · exact ⟨_, bi_all, .inr ⟨rfl, g.sl.K ▸ cr_all (hc rfl), by first | rfl | kernel_rfl⟩, by decide +kernel, by decide +kernel⟩
  · exact ⟨_, bi_any, .inr ⟨rfl, g.sl.K ▸ cr_any (hc rfl), by first | rfl | kernel_rfl⟩, by decide +kernel, by decide +kernel⟩
  · exact ⟨_, bi_tuple, .inl ⟨rfl, g.sl.K ▸ call_tuple_of, by first | rfl | kernel_rfl⟩, by decide +kernel, by decide +kernel⟩
  · exact ⟨_, bi_list, .inl ⟨rfl, g.sl.K ▸ call_list_of, by first | rfl | kernel_rfl⟩, by decide +kernel, by decide +kernel⟩
  · exact ⟨_, bi_int, .inl ⟨rfl, call_int1, by first | rfl | kernel_rfl⟩, by decide +kernel, by decide +kernel⟩
  · exact ⟨_, bi_str, .inl ⟨rfl, CallR.or call_str_int (CallR.or SkE.call_str_str (CallR.or call_str_bl call_str_no)), by first | rfl | kernel_rfl⟩, by decide +kernel, by decide +kernel⟩
  · exact ⟨_, bi_repr, .inr ⟨rfl, g.sl.K ▸ call_repr_data g.guards (by have := g.units; omega), by first | rfl | kernel_rfl⟩, by decide +kernel, by decide +kernel⟩
  · exact ⟨_, bi_sorted, .inr ⟨rfl, CallR.or (g.sl.K ▸ cr_sortedI) (cr_upD (hc rfl)), by first | rfl | kernel_rfl⟩, by decide +kernel, by decide +kernel⟩
theorem good_blk (g : GoodX L V C kk G Γ W X) (F : Fx L V C kk) (hc : Γ.calm = true) (hn : Γ.nc = true ∨ Γ.top = true) (s : Shared) (H : Hp) (scope : Scope) (hk : scope.kind = .function) (cl : List (Str × Addr)) (B : Addr) (fp : List Addr) (en : Γ.nc = true ∨ Entry X s H fp) :
    GoodX L V C kk G { N := Γ.N, sc := relS scope Γ.sc, top := false, calm := true, nc := Γ.nc, ex := Γ.ex, oc := ocOf scope } Wn (X.blk s H scope (compEnvC scope cl B X.env) fp) where
  sl := ⟨g.sl.prog, g.sl.w, g.sl.K, g.sl.mg, g.sl.base⟩
  N := g.N
  nd := g.nd
  sc := by
    show relS scope X.env.scope = _
    rw [g.sc]
  knd := hk
  st := fun z => by cases z
  calm := fun _ => g.calm hc
  room := fun _ => g.room hc
  units := g.units
  guards := g.guards
  tk := fun u s' x => by
    obtain ⟨_, _, _, _, _, _, _, _, _, _, _, _, _, _, _, _, z⟩ := x
    exact z.elim
  fn := fun z => by cases z
  oc := fun x z => by
    have z := List.contains_iff_mem.mp z
    unfold ocOf at z
    obtain ⟨y, hy, rfl⟩ := List.mem_map.mp z
    exact (List.mem_filter.mp hy).2
  po := PassesOwn.never
  ex := g.ex
  clo := fun A' c pn xe pins σ H' s' J k a vs z => by
    rcases hn with hn | ht
    · exact (g.nc hn k a vs z).elim
    · rcases g.c0 ht with q | ⟨q1, q2⟩
      · exact (g.nc q k a vs z).elim
      · rcases en with w | en
        · exact (g.nc w k a vs z).elim
        · obtain ⟨I, e1, e2⟩ := (F.lo _ _ _ _ _ _).mp (q2 k a vs z)
          exact (F.lo _ _ _ _ _ _).mpr ⟨I, e1, clo_in_blk (X := X) q1 e2 en J⟩
  nc := g.nc
  c0 := fun z => by cases z
  lm := fun P z => by cases z
  ef := fun z => by cases z
  ei := fun z => by cases z
theorem lam_here {k : String} {js : List Nat} {prs : Arguments} {body : Expr} {sc : Scope} (h : lamHere V Γ k js prs body sc = true) : ∃ P ds, Γ.P = some P ∧ intsOf prs.defaults = some ds ∧ V.lam k (lamOf V Γ k js prs body sc ds P) = true ∧ prs.kw_defaults = [] ∧ prs.kwonlyargs = [] ∧
    (∀ i ∈ js, i < Γ.N.length ∧ Γ.ex.contains i = false) ∧ ∀ y ∈ sc.names, y.2 = .free → Γ.sc.names.lookup y.1 = some .cell ∨ Γ.sc.names.lookup y.1 = some .free := by
  unfold lamHere at h
  split at h
  · rename_i P ds hP hd
    simp only [Bool.and_eq_true, List.isEmpty_iff, List.all_eq_true, decide_eq_true_eq, Bool.not_eq_true'] at h
    obtain ⟨⟨⟨⟨h1, h2⟩, h3⟩, h4⟩, h5⟩ := h
    refine ⟨P, ds, hP, hd, h1, h2, h3, h4, fun y hy e => ?_⟩
    have z := h5 y hy
    rw [e] at z
    dsimp only at z
    split at z
    · exact .inl (by assumption)
    · exact .inr (by assumption)
    · cases z
  · cases h
theorem sound_lamc (g : GoodX L V C kk G Γ W X) (F : Fx L V C kk) {x k : String} {D : DefI} {js : List Nat} {prs : Arguments} {body : Expr} {sc : Scope} {es : List Ex} {Es : List Expr} {p pl pos : Pos} (h : lamHere V Γ k js prs body sc = true) (hD : L.defs x = some D) (dD : DefOk L x D) (hT : D.top = true) (hc : Γ.calm = true) (hg : glob Γ.sc (nm x) = true) (al : Al L C G W X es Es) :
    PE X (.Call (.Name (nm x) p) (.Lambda prs body sc pl :: Es) [] pos) (semE L G W C (.call x (.lam k js :: es))) := by
  obtain ⟨P, ds, h1, h2, h3, h4, h5, h6, h7⟩ := lam_here h
  obtain ⟨c, t1, t2, t3, t4, t5⟩ := g.lm P h1
  obtain ⟨l1, l2⟩ := F.lam _ _ h3 t4
  refine sound_callL (I := lamOf V Γ k js prs body sc ds P) (c := c) g.sl F.calls F.lens F.hush hD dD hT ((g.room hc).mono (Nat.le_succ _)) g.guards g.tk g.cl (fun k I vs s H o a z w => (F.lo _ _ _ _ _ _).mpr ⟨I, z, w⟩) l1 t1 t2 t3 t4 t5 h2 h4 h5 (fun y hy e => ?_) l2.cap ?_ (fun i hi => g.ex i (h6 i hi).2) (gl_of g hg) al.pa (star_cons rfl) al.any
  · rw [g.sc]; exact h7 y hy e
  · show js.map (fun i => X.N[i]?) = (js.map fun i => (Γ.N[i]?).getD (nm "")).map some
    rw [List.map_map, g.N]
    refine List.map_congr_left fun i hi => ?_
    have hl := (h6 i hi).1
    show Γ.N[i]? = some ((Γ.N[i]?).getD (nm ""))
    rw [List.getElem?_eq_getElem hl]; rfl
theorem sound_lamr (g : GoodX L V C kk G Γ W X) (F : Fx L V C kk) {x k : String} {D : DefI} {js : List Nat} {prs : Arguments} {body : Expr} {sc : Scope} {e1 : Ex} {E1 : Expr} {p pl pos : Pos} (h : lamHere V Γ k js prs body sc = true) (hD : L.defs x = some D) (dD : DefOk L x D) (hT : D.top = true) (hc : Γ.calm = true) (hg : glob Γ.sc (nm x) = true) (r1 : SndR L C G W X e1 E1) (n1 : notStar E1 = true) :
    PE X (.Call (.Name (nm x) p) [E1, .Lambda prs body sc pl] [] pos) (semE L G W C (.call x [e1, .lam k js])) := by
  obtain ⟨P, ds, h1, h2, h3, h4, h5, h6, h7⟩ := lam_here h
  obtain ⟨c, t1, t2, t3, t4, t5⟩ := g.lm P h1
  obtain ⟨l1, l2⟩ := F.lam _ _ h3 t4
  refine sound_callR (I := lamOf V Γ k js prs body sc ds P) (c := c) g.sl F.calls F.lens F.hush hD dD hT ((g.room hc).mono (Nat.le_succ _)) g.guards g.tk g.cl (fun k I vs s H o a z w => (F.lo _ _ _ _ _ _).mpr ⟨I, z, w⟩) l1 t1 t2 t3 t4 t5 h2 h4 h5 (fun y hy e => ?_) l2.cap ?_ (fun i hi => g.ex i (h6 i hi).2) (gl_of g hg) r1.e (star_cons n1)
  · rw [g.sc]; exact h7 y hy e
  · show js.map (fun i => X.N[i]?) = (js.map fun i => (Γ.N[i]?).getD (nm "")).map some
    rw [List.map_map, g.N]
    refine List.map_congr_left fun i hi => ?_
    have hl := (h6 i hi).1
    show Γ.N[i]? = some ((Γ.N[i]?).getD (nm ""))
    rw [List.getElem?_eq_getElem hl]; rfl
theorem sound_sortc (g : GoodX L V C kk G Γ W X) (F : Fx L V C kk) {k : String} {js : List Nat} {prs : Arguments} {body : Expr} {sc : Scope} {e : Ex} {E : Expr} {p pl kp pos : Pos} (h : lamHere V Γ k js prs body sc = true) (hc : Γ.calm = true) (hg : glob Γ.sc (nm "sorted") = true) (hm : X.mg (nm "sorted") = none) (al : Al L C G W X [e] [E]) (hs : starEach [E] X.env = [(false, eval E X.env)]) :
    PE X (.Call (.Name (nm "sorted") p) [E] [⟨some (nm "key"), .Lambda prs body sc pl, kp⟩] pos) (semF L G W C (.sortk e k js)) := by
  obtain ⟨P, ds, h1, h2, h3, h4, h5, h6, h7⟩ := lam_here h
  obtain ⟨c, t1, t2, t3, t4, t5⟩ := g.lm P h1
  obtain ⟨l1, l2⟩ := F.lam _ _ h3 t4
  refine sound_sortk (I := lamOf V Γ k js prs body sc ds P) (c := c) g.sl F.acts (g.room hc) g.guards g.units g.cl l1 t1 t2 t3 t4 t5 h2 h4 h5 (fun y hy e => ?_) l2.cap ?_ (fun i hi => g.ex i (h6 i hi).2) (gl_of g hg) hm al.pa hs
  · rw [g.sc]; exact h7 y hy e
  · show js.map (fun i => X.N[i]?) = (js.map fun i => (Γ.N[i]?).getD (nm "")).map some
    rw [List.map_map, g.N]
    refine List.map_congr_left fun i hi => ?_
    have hl := (h6 i hi).1
    show Γ.N[i]? = some ((Γ.N[i]?).getD (nm ""))
    rw [List.getElem?_eq_getElem hl]; rfl
theorem foldS {E : Expr} {env : PySem.Env} (h : notSet E = true) : ∀ x, foldedSetIterable E env x = pure x := by
  intro x
  cases E <;> first | rfl | cases h
theorem plain_ix {E : Expr} (h : notSlice E = true) : PlainIx E := by
  intro o i
  cases E <;> first | rfl | cases h
theorem base_ok {O : Expr} {m : Str} {env : PySem.Env} (h : plainO O = true) : attributeBase O m env (eval O env) = eval O env := by
  cases O <;> first | rfl | cases h
theorem len1000 {n : Nat} (h : n ≤ 1000) : n ≤ Mini.line := Nat.le_trans h (by decide)
end
end MS

set_option Elab.async false
set_option linter.all false
set_option maxRecDepth 100000
set_option maxHeartbeats 4000000
/-! SU: what the checker lets is true of the row's text: expressions, walks -/
namespace MS
open PySem PySem.Spec PyProof.Rows L2
open Mini (Val Res Ex Tg Out evalE evalEs evalI evalTs)
section
variable {L : Lk} {V : Ev} {C : Mini.Cx} {kk : Nat}
theorem part_of {G : Cr} {W : WX} {X : L2.Cx} {e : Ex} {B : Option Expr} (h : (match B with
      | none => isGap e
      | some B => okE V Γ e B) = true) (hs : ∀ E, okE V Γ e E = true → PE X E (semE L G W C e)) : PO X B (semO L G W C e) := by
  cases B with
  | some B => exact part_some (hs B h)
  | none =>
    dsimp only at h
    unfold isGap at h
    split at h
    · exact part_none
    · cases h
mutual
theorem sound_e (F : Fx L V C kk) : ∀ (e : Ex) (Γ : Gx) (E : Expr), okE V Γ e E = true → ∀ (G : Cr) (W : WX) (X : L2.Cx), GoodX L V C kk G Γ W X → SndR L C G W X e E
  | .lit v, Γ, E, h, G, W, X, g => by
    simp only [okE] at h
    split at h
    · split at h <;> try cases h
      · exact .of g.sl.K sound_lit_none ⟨fun _ => rfl, fun _ _ _ z => nomatch z⟩ rfl
      · rw [beq_iff_eq] at h; subst h
        exact .of g.sl.K sound_lit_bool ⟨fun _ => rfl, fun _ _ _ z => nomatch z⟩ rfl
      · rw [beq_iff_eq] at h; subst h
        exact .of g.sl.K sound_lit_int ⟨fun _ => rfl, fun _ _ _ z => nomatch z⟩ rfl
      · rw [decide_eq_true_eq] at h; subst h
        exact .of g.sl.K sound_lit_str ⟨fun _ => rfl, fun _ _ _ z => nomatch z⟩ rfl
    · split at h
      · exact .of g.sl.K sound_emp ⟨fun _ => rfl, fun _ _ _ z => nomatch z⟩ rfl
      · cases h
    · cases h
  | .loc i, Γ, E, h, G, W, X, g => by
    simp only [okE] at h
    split at h
    · simp only [Bool.and_eq_true, decide_eq_true_eq, Bool.not_eq_true'] at h
      obtain ⟨⟨⟨⟨h1, h2⟩, h3⟩, h4⟩, h5⟩ := h
      exact .of g.sl.K (sound_loc (g.ex i h5) (by rw [g.N]; exact h1) (vis_of g h2) h3 h4) ⟨fun _ => rfl, fun _ _ _ z => nomatch z⟩ rfl
    · cases h
  | .con c, Γ, E, h, G, W, X, g => by
    simp only [okE] at h
    split at h
    · simp only [Bool.and_eq_true, decide_eq_true_eq] at h
      obtain ⟨⟨h1, h2⟩, h3⟩ := h
      subst h1
      obtain ⟨v, u, U, e1, e2, e3, e4, e5⟩ := F.cons c h3
      exact .of g.sl.K (sound_con e1 (gl_of g h2) (by rw [g.sl.mg]; exact e2) e3 (fun R n H => e4 _ H R n) e5) ⟨fun _ => rfl, fun _ _ _ z => nomatch z⟩ rfl
    · cases h
  | .bin op a b, Γ, E, h, G, W, X, g => by
    simp only [okE] at h
    split at h
    · simp only [Bool.and_eq_true] at h
      obtain ⟨⟨h1, h2⟩, h3⟩ := h
      have ha := sound_e F a Γ _ h2 G W X g
      have hb := sound_e F b Γ _ h3 G W X g
      rename_i A O B p
      cases op <;> cases O <;> first | cases h1 | skip
      · exact .new g.sl.K (fresh_add g.sl.K ha.e hb.e) ⟨fun _ => rfl, fun _ _ _ z => nomatch z⟩
      · exact .of g.sl.K (sound_sub ha.e hb.e) ⟨fun _ => rfl, fun _ _ _ z => nomatch z⟩ rfl
      · exact .new g.sl.K (fresh_mul g.sl.K ha.e hb.e) ⟨fun _ => rfl, fun _ _ _ z => nomatch z⟩
      · exact .of g.sl.K (sound_fdiv ha.e hb.e) ⟨fun _ => rfl, fun _ _ _ z => nomatch z⟩ rfl
      · exact .of g.sl.K (sound_mod ha.e hb.e) ⟨fun _ => rfl, fun _ _ _ z => nomatch z⟩ rfl
      · exact .of g.sl.K (sound_pow ha.e hb.e) ⟨fun _ => rfl, fun _ _ _ z => nomatch z⟩ rfl
      · exact .of g.sl.K (sound_shl ha.e hb.e) ⟨fun _ => rfl, fun _ _ _ z => nomatch z⟩ rfl
      · exact .of g.sl.K (sound_shr ha.e hb.e) ⟨fun _ => rfl, fun _ _ _ z => nomatch z⟩ rfl
    · cases h
  | .neg a, Γ, E, h, G, W, X, g => by
    simp only [okE] at h
    split at h
    · exact .of g.sl.K (sound_neg (sound_e F a Γ _ h G W X g).e) ⟨fun _ => rfl, fun _ _ _ z => nomatch z⟩ rfl
    · cases h
  | .not a, Γ, E, h, G, W, X, g => by
    simp only [okE] at h
    split at h
    · simp only [Bool.and_eq_true] at h
      have ha := sound_e F a Γ _ h.1 G W X g
      exact .cmp (sound_not g.sl.K ha.e) (test_not (ha.t h.2)) (fun _ _ _ z => nomatch z) rfl
    · cases h
  | .cmp op a b, Γ, E, h, G, W, X, g => by
    simp only [okE] at h
    split at h
    · simp only [Bool.and_eq_true, Bool.not_eq_true'] at h
      obtain ⟨⟨⟨h1, h2⟩, h3⟩, h4⟩ := h
      have ha := sound_e F a Γ _ h2 G W X g
      have hb := sound_e F b Γ _ h3 G W X g
      obtain ⟨r, ok, ho⟩ := opr_cmp g h1
      exact .cmp (sound_cmp ok ho h4 ha.e hb.e) (test_cmp' ok ho h4 ha.e hb.e) (fun _ _ _ z => nomatch z) rfl
    · cases h
  | .chain op op' a b c, Γ, E, h, G, W, X, g => by
    simp only [okE] at h
    split at h
    · simp only [Bool.and_eq_true, Bool.not_eq_true'] at h
      obtain ⟨⟨⟨⟨⟨h1, h1'⟩, h2⟩, h3⟩, h4⟩, h5⟩ := h
      have ha := sound_e F a Γ _ h2 G W X g
      have hb := sound_e F b Γ _ h3 G W X g
      have hc := sound_e F c Γ _ h4 G W X g
      obtain ⟨r, ok, ho⟩ := opr_cmp g h1
      obtain ⟨r', ok', ho'⟩ := opr_cmp g h1'
      exact .cmp (sound_chain ok ok' ho ho' h5 ha.e hb.e hc.e) (test_chain ok ok' ho ho' h5 ha.e hb.e hc.e) (fun _ _ _ z => nomatch z) rfl
    · cases h
  | .and a b, Γ, E, h, G, W, X, g => by
    simp only [okE] at h
    split at h
    · rename_i A B r p
      simp only [Bool.and_eq_true] at h
      obtain ⟨⟨h1, h2⟩, h3⟩ := h
      have ha := sound_e F a Γ _ h1 G W X g
      have hb : PE X (.BoolOp .And (B :: r) p) (semE L G W C b) ∧ PW X (.BoolOp .And (B :: r) p) (semT L G W C b) := by
        cases r with
        | nil =>
          simp only [Bool.and_eq_true] at h3
          have hb := sound_e F b Γ _ h3.1 G W X g
          exact ⟨sound_one hb.e, test_and1 (hb.t h3.2)⟩
        | cons D r =>
          have hb := sound_e F b Γ _ h3 G W X g
          exact ⟨hb.e, hb.w _ _ _ rfl⟩
      have w := test_and (ha.t h2) hb.2
      exact .bool (sound_and g.sl.K ha.e hb.1) w rfl
    · cases h
  | .or a b, Γ, E, h, G, W, X, g => by
    simp only [okE] at h
    split at h
    · rename_i A B r p
      simp only [Bool.and_eq_true] at h
      obtain ⟨⟨h1, h2⟩, h3⟩ := h
      have ha := sound_e F a Γ _ h1 G W X g
      have hb : PE X (.BoolOp .Or (B :: r) p) (semE L G W C b) ∧ PW X (.BoolOp .Or (B :: r) p) (semT L G W C b) := by
        cases r with
        | nil =>
          simp only [Bool.and_eq_true] at h3
          have hb := sound_e F b Γ _ h3.1 G W X g
          exact ⟨sound_one hb.e, test_or1 (hb.t h3.2)⟩
        | cons D r =>
          have hb := sound_e F b Γ _ h3 G W X g
          exact ⟨hb.e, hb.w _ _ _ rfl⟩
      have w := test_or (ha.t h2) hb.2
      exact .bool (sound_or g.sl.K ha.e hb.1) w rfl
    · cases h
  | .ite c a b, Γ, E, h, G, W, X, g => by
    simp only [okE] at h
    split at h
    · simp only [Bool.and_eq_true] at h
      obtain ⟨⟨⟨h1, h2⟩, h3⟩, h4⟩ := h
      exact .ite (sound_ite ((sound_e F c Γ _ h1 G W X g).t h2) (sound_e F a Γ _ h3 G W X g).e (sound_e F b Γ _ h4 G W X g).e) rfl (fun _ _ _ z => nomatch z) rfl
    · cases h
  | .tup es, Γ, E, h, G, W, X, g => by
    simp only [okE] at h
    split at h
    · simp only [Bool.and_eq_true, decide_eq_true_eq] at h
      exact .of g.sl.K (sound_tup (sound_es F es Γ _ h.1 G W X g).pa (len1000 h.2)) ⟨fun _ => rfl, fun _ _ _ z => nomatch z⟩ rfl
    · cases h
  | .lst es, Γ, E, h, G, W, X, g => by
    simp only [okE] at h
    split at h
    · simp only [Bool.and_eq_true, decide_eq_true_eq] at h
      exact .new g.sl.K (sound_lst (sound_es F es Γ _ h.1 G W X g).pa (len1000 h.2)) ⟨fun _ => rfl, fun _ _ _ z => nomatch z⟩
    · cases h
  | .dic es, Γ, E, h, G, W, X, g => by
    simp only [okE] at h
    split at h
    · rw [List.isEmpty_iff] at h
      subst h
      exact .of g.sl.K sound_dic0 ⟨fun _ => rfl, fun _ _ _ z => nomatch z⟩ rfl
    · split at h
      · rename_i l hl
        simp only [Bool.and_eq_true, decide_eq_true_eq, Bool.not_eq_true', List.isEmpty_eq_false_iff] at h
        obtain ⟨⟨h1, h2⟩, h3⟩ := h
        obtain ⟨p1, p2, p3, p4⟩ := Al.pps hl (sound_es F es Γ _ h1 G W X g)
        exact .of g.sl.K (sound_dic p1 p2 p3 h3 h2 p4) ⟨fun _ => rfl, fun _ _ _ z => nomatch z⟩ rfl
      · cases h
    · cases h
  | .thaw e, Γ, E, h, G, W, X, g => by
    simp only [okE, Bool.and_eq_true] at h
    have he := sound_e F e Γ _ h.1 G W X g
    have hf := he.f h.2
    exact .of g.sl.K (sound_thaw hf.1) hf.2 rfl
  | .idx a i, Γ, E, h, G, W, X, g => by
    simp only [okE] at h
    split at h
    · simp only [Bool.and_eq_true] at h
      obtain ⟨⟨h1, h2⟩, h3⟩ := h
      exact .of g.sl.K (sound_idx g.sl.K (by have := g.units; omega) (sound_e F a Γ _ h1 G W X g).e (sound_e F i Γ _ h2 G W X g).e (plain_ix h3)) ⟨fun _ => rfl, fun _ _ _ z => nomatch z⟩ rfl
    · cases h
  | .slice a lo hi, Γ, E, h, G, W, X, g => by
    simp only [okE] at h
    split at h
    · simp only [Bool.and_eq_true] at h
      obtain ⟨⟨h1, h2⟩, h3⟩ := h
      exact .new g.sl.K (fresh_slice g.sl.K (sound_e F a Γ _ h1 G W X g).e (part_of (V := V) (Γ := Γ) h2 fun E q => (sound_e F lo Γ E q G W X g).e) (part_of (V := V) (Γ := Γ) h3 fun E q => (sound_e F hi Γ E q G W X g).e)) ⟨fun _ => rfl, fun _ _ _ z => nomatch z⟩
    · cases h
  | .rev a, Γ, E, h, G, W, X, g => by
    simp only [okE] at h
    split at h
    · exact .new g.sl.K (fresh_rev g.sl.K (sound_e F a Γ _ h G W X g).e) ⟨fun _ => rfl, fun _ _ _ z => nomatch z⟩
    · cases h
  | .efld i f, Γ, E, h, G, W, X, g => by
    simp only [okE] at h
    split at h
    · simp only [Bool.and_eq_true, decide_eq_true_eq, Bool.not_eq_true'] at h
      obtain ⟨⟨⟨⟨⟨⟨⟨h1, h2⟩, h2'⟩, h3⟩, h4⟩, h5⟩, h6⟩, h7⟩ := h
      subst h2
      exact .of g.sl.K (g.ef h7 i f _ _ _ h2' h3 h1 h4 h5 h6) ⟨fun _ => rfl, fun _ _ _ z => nomatch z⟩ rfl
    · cases h
  | .eis i e, Γ, E, h, G, W, X, g => by
    simp only [okE] at h
    split at h
    · simp only [Bool.and_eq_true, decide_eq_true_eq, Bool.not_eq_true'] at h
      obtain ⟨⟨⟨⟨⟨⟨⟨⟨⟨⟨⟨h1, h2⟩, h3⟩, h4⟩, h5⟩, h6⟩, h7⟩, h8⟩, h9⟩, h10⟩, h11⟩, h12⟩ := h
      subst h1
      subst h6
      exact .of g.sl.K (g.ei h12 i e _ _ _ _ _ (gl_of g h2) (bmg g F h3) (gl_of g h7) h5 h8 h4 h9 h10 h11) ⟨fun _ => rfl, fun _ _ _ z => nomatch z⟩ rfl
    · cases h
  | .call f es, Γ, E, h, G, W, X, g => by
    simp only [okE] at h
    split at h
    · simp only [Bool.and_eq_true, decide_eq_true_eq] at h
      obtain ⟨⟨⟨⟨h1, h2⟩, h3⟩, h4⟩, h5⟩ := h
      subst h1
      obtain ⟨I, hI, dI, hT⟩ := F.defs f h3
      refine .of g.sl.K ?_ ⟨fun _ => rfl, fun _ _ _ z => nomatch z⟩ rfl
      rw [Bool.or_eq_true] at h4
      rcases h4 with h4 | h4
      · have al := sound_es F es Γ _ h4 G W X g
        cases al with
        | nil => exact sound_call0 g.sl F.calls F.lens hI dI hT ((g.room h5).mono (Nat.le_succ _)) g.guards g.tk g.cl (gl_of g h2)
        | cons r1 n1 a1 => exact sound_call g.sl F.calls F.lens hI dI hT ((g.room h5).mono (Nat.le_succ _)) g.guards g.tk g.cl (gl_of g h2) (Al.cons r1 n1 a1).pa (star_cons n1) a1.any
      · rcases sound_l F es Γ _ h4 G W X g with ⟨k, js, es', prs, body, sc, pl, Es', rfl, rfl, w1, al⟩ | ⟨k, js, e1, prs, body, sc, pl, E1, rfl, rfl, w1, r1, n1⟩
        · exact sound_lamc g F w1 hI dI hT h5 h2 al
        · exact sound_lamr g F w1 hI dI hT h5 h2 r1 n1
    · cases h
  | .bi b es, Γ, E, h, G, W, X, g => by
    simp only [okE] at h
    split at h
    · rename_i x p Es p'
      simp only [Bool.and_eq_true] at h
      obtain ⟨⟨h1, h2⟩, h3⟩ := h
      split at h3
      · rename_i ks
        split at h3
        · rename_i k A y py
          simp only [Bool.and_eq_true, decide_eq_true_eq] at h3
          obtain ⟨⟨⟨⟨q1, q2⟩, q3⟩, q4⟩, q5⟩ := h3
          subst q1
          subst q5
          have al := sound_es F es Γ _ q2 G W X g
          cases al with
          | cons r1 n1 a1 => cases a1 with
            | nil =>
              refine .of g.sl.K (sound_isi g.sl.K r1.e (gl_of g h1) (bmg g F h2) (by first | rfl | kernel_rfl) (pe_bltn (v := .ty (kindTy k)) (gl_of g q3) (bmg g F q4) (by cases k <;> first | rfl | kernel_rfl) rfl (by cases k <;> decide +kernel) (by cases k <;> decide +kernel)) (by decide +kernel) (by decide +kernel) (star_cons n1) rfl rfl) ⟨fun _ => rfl, fun _ _ _ z => nomatch z⟩ rfl
        · cases h3
      · split at h3
        · rename_i O a ap cp
          simp only [Bool.and_eq_true, decide_eq_true_eq] at h3
          obtain ⟨⟨⟨⟨⟨q1, q2⟩, q3⟩, q4⟩, q5⟩, q6⟩ := h3
          subst q1
          subst q4
          have al := sound_es F es Γ _ q2 G W X g
          cases al with
          | cons r1 n1 a1 =>
            cases a1
            exact .of g.sl.K (sound_sumv g.sl (g.calm q6) (gl_of g h1) (bmg g F h2) r1.e (base_ok q3) q5) ⟨fun _ => rfl, fun _ _ _ z => nomatch z⟩ rfl
        · cases h3
      · split at h3
        · rename_i n ty hb
          simp only [Bool.and_eq_true, decide_eq_true_eq, Bool.not_eq_true', Bool.or_eq_true] at h3
          obtain ⟨⟨⟨q1, q2⟩, q3⟩, q4⟩ := h3
          subst q1
          have al := sound_es F es Γ _ q2 G W X g
          obtain ⟨r, ok, hr, hn, hd⟩ := callr g hb (fun z => q4.elim (fun w => g.calm w) fun w => by rw [z] at w; cases w)
          cases al with
          | nil => cases q3
          | cons r1 n1 a1 =>
            rcases hr with ⟨rfl, hr⟩ | ⟨rfl, hr⟩
            · exact .new g.sl.K (fresh_ty ok hr.1 (gl_of g h1) (bmg g F h2) hr.2 (Al.cons r1 n1 a1).pa hn hd (star_cons n1) a1.any) ⟨fun _ => rfl, fun _ _ _ z => nomatch z⟩
            · exact .new g.sl.K (fresh_bi (id := nm n) ok hr.1 (gl_of g h1) (bmg g F h2) hr.2 (Al.cons r1 n1 a1).pa hn hd (star_cons n1) a1.any) ⟨fun _ => rfl, fun _ _ _ z => nomatch z⟩
        · cases h3
    · rename_i x p A r ck cp kp p'
      simp only [Bool.and_eq_true, decide_eq_true_eq] at h
      obtain ⟨⟨⟨⟨⟨h1, h2⟩, h3⟩, h4⟩, h5⟩, h6⟩ := h
      subst h3
      subst h4
      split at h6
      · have al := sound_es F es Γ _ h6 G W X g
        cases al with
        | cons r1 n1 a1 =>
          cases a1
          exact .new g.sl.K (sound_sortr g.sl (gl_of g h1) (bmg g F h2) (Al.cons r1 n1 .nil).pa (star_cons n1)) ⟨fun _ => rfl, fun _ _ _ z => nomatch z⟩
      · split at h6
        · rename_i y py A2 p2
          simp only [Bool.and_eq_true, decide_eq_true_eq] at h6
          obtain ⟨⟨⟨q1, q2⟩, q3⟩, q4⟩ := h6
          subst q3
          have al := sound_es F es Γ _ q4 G W X g
          cases al with
          | cons r1 n1 a1 =>
            cases a1
            exact .new g.sl.K (sound_sortdr g.sl (g.calm h5) (gl_of g h1) (bmg g F h2) (gl_of g q1) (bmg g F q2) (Al.cons r1 n1 .nil).pa (star_cons n1)) ⟨fun _ => rfl, fun _ _ _ z => nomatch z⟩
        · cases h6
      · cases h6
    · cases h
  | .bm o m es, Γ, E, h, G, W, X, g => by
    simp only [okE] at h
    split at h
    · rename_i O a ap Es cp
      simp only [Bool.and_eq_true] at h
      obtain ⟨⟨⟨⟨h1, h2⟩, h3⟩, h4⟩, h5⟩ := h
      have ho := sound_e F o Γ _ h1 G W X g
      have al := sound_es F es Γ _ h3 G W X g
      split at h5
      · simp only [Bool.and_eq_true, decide_eq_true_eq] at h5
        obtain ⟨q1, q2⟩ := h5
        subst q1
        cases al with
        | nil => cases q2
        | cons r1 n1 a1 => cases a1 with
          | cons _ _ _ => simp at q2
          | nil =>
            exact .of g.sl.K (sound_append g.sl.K ⟨base_ok h2, h4, by rw [(Al.cons r1 n1 .nil).all]; rfl, fun e r z => by cases z; exact ⟨star_cons n1, rfl⟩⟩ ho.e (Al.cons r1 n1 .nil).pa) ⟨fun _ => rfl, fun _ _ _ z => nomatch z⟩ rfl
      · simp only [Bool.and_eq_true, decide_eq_true_eq] at h5
        obtain ⟨q1, q2⟩ := h5
        subst q1
        cases al with
        | nil => cases q2
        | cons r1 n1 a1 => cases a1 with
          | cons _ _ _ => simp at q2
          | nil =>
            exact .of g.sl.K (sound_extend g.sl.K ⟨base_ok h2, h4, by rw [(Al.cons r1 n1 .nil).all]; rfl, fun e r z => by cases z; exact ⟨star_cons n1, rfl⟩⟩ ho.e (Al.cons r1 n1 .nil).pa) ⟨fun _ => rfl, fun _ _ _ z => nomatch z⟩ rfl
      · simp only [Bool.and_eq_true, decide_eq_true_eq, List.isEmpty_iff] at h5
        obtain ⟨q1, q2⟩ := h5
        subst q1
        subst q2
        cases al
        exact .of g.sl.K (sound_pop g.sl.K ⟨base_ok h2, h4, rfl, fun e r z => nomatch z⟩ ho.e) ⟨fun _ => rfl, fun _ _ _ z => nomatch z⟩ rfl
      · simp only [Bool.and_eq_true, decide_eq_true_eq] at h5
        obtain ⟨q1, q2⟩ := h5
        subst q1
        cases al with
        | nil => cases q2
        | cons r1 n1 a1 => cases a1 with
          | nil => simp at q2
          | cons r2 n2 a2 => cases a2 with
            | cons _ _ _ => simp at q2
            | nil =>
              exact .of g.sl.K (sound_get2 (by have := g.units; omega) ⟨base_ok h2, by rw [(Al.cons r1 n1 (.cons r2 n2 .nil)).all]; rfl, h4, by rw [star_cons n1, star_cons n2]; rfl⟩ ho.e r1.e r2.e) ⟨fun _ => rfl, fun _ _ _ z => nomatch z⟩ rfl
      · cases h5
    · cases h
  | .lc elt t it is, Γ, E, h, G, W, X, g => by
    simp only [okE] at h
    split at h
    · rename_i Elt c scope p
      simp only [Bool.and_eq_true, decide_eq_true_eq, beq_iff_eq] at h
      obtain ⟨⟨⟨⟨⟨⟨⟨⟨⟨⟨⟨h0, h1⟩, h2⟩, h3⟩, h4⟩, h5⟩, h6⟩, h7⟩, h8⟩, h9⟩, h10⟩, h11⟩ := h
      rw [Bool.or_eq_true] at h1
      obtain ⟨T, I, ifs, asy⟩ := c
      dsimp only at h2 h3 h4 h5 h7 h8 h9 h10 h11
      subst h2
      have hk : scope.kind = .function := (blkOk_by h10).kind
      refine .new g.sl.K (fresh_lcE (own := ownOf t T) (g.calm h0) (by rw [g.N]; exact g.nd) (sound_i F it Γ T I h4 G W X g) (by rw [g.N, g.sc]; exact blkOk_by h10) (fun s H B cl fp en => ?_) (fun s H B cl fp en => ?_) (fun s H B cl fp en => ?_) (foldS h3) (fun j hj => by rw [h11]; exact hj) (fun j hj => by rw [h11] at hj; exact hj)) ⟨fun _ => rfl, fun _ _ _ z => nomatch z⟩
      · exact sound_g (good_blk g F h0 h1 s H scope hk cl B fp (.inr en)) (g.calm h0) t T h5
      · have al := sound_es F is _ _ h7 G Wn _ (good_blk g F h0 h1 s H scope hk cl B fp (.inr en))
        cases al with
        | nil => exact tests_nil
        | cons r1 n1 a1 => cases a1 with
          | cons _ _ _ => simp at h8
          | nil => exact tests_one (r1.t (by simpa using h9))
      · exact (sound_e F elt _ _ h6 G Wn _ (good_blk g F h0 h1 s H scope hk cl B fp (.inr en))).e
    · cases h
  | .fld a f, Γ, E, h, G, W, X, g => by
    simp only [okE] at h
    split at h
    · simp only [Bool.and_eq_true, decide_eq_true_eq] at h
      obtain ⟨⟨h1, h2⟩, h3⟩ := h
      subst h3
      exact .of g.sl.K (sound_fld g.sl F.own F.P (sound_e F a Γ _ h1 G W X g).e (base_ok h2)) ⟨fun _ => rfl, fun _ _ _ z => nomatch z⟩ rfl
    · cases h
  | .callp _ _ _, Γ, E, h, G, W, X, g => by simp only [okE] at h; cases h
  | .act e es, Γ, E, h, G, W, X, g => by
    simp only [okE] at h
    split at h
    · split at h
      · simp only [Bool.and_eq_true, decide_eq_true_eq, Bool.not_eq_true'] at h
        obtain ⟨⟨⟨⟨⟨h1, h2⟩, h3⟩, h4⟩, h6⟩, h5⟩ := h
        have al := sound_es F es Γ _ h6 G W X g
        cases al with
        | nil => exact .of g.sl.K (sound_act0 g.sl ⟨fun k vs s H o a z => (F.lo _ _ _ _ _ _).mp z⟩ F.acts F.abad ((g.room h5).mono (Nat.le_succ _)) g.guards g.tk g.cl (by rw [g.N]; exact h1) (vis_of g h2) h3 h4) ⟨fun _ => rfl, fun _ _ _ z => nomatch z⟩ rfl
        | cons r1 n1 a1 => exact .of g.sl.K (sound_act g.sl ⟨fun k vs s H o a z => (F.lo _ _ _ _ _ _).mp z⟩ F.acts F.abad ((g.room h5).mono (Nat.le_succ _)) g.guards g.tk g.cl (by rw [g.N]; exact h1) (vis_of g h2) h3 h4 (Al.cons r1 n1 a1).pa (star_cons n1) a1.any) ⟨fun _ => rfl, fun _ _ _ z => nomatch z⟩ rfl
      · cases h
    · cases h
  | .mk c es, Γ, E, h, G, W, X, g => by
    simp only [okE] at h
    split at h
    · simp only [Bool.and_eq_true, decide_eq_true_eq, Bool.not_eq_true'] at h
      obtain ⟨⟨⟨⟨⟨h1, h2⟩, h3⟩, h4⟩, h5⟩, h6⟩ := h
      subst h1
      obtain ⟨C0, I, m1, m2, m3, m4, m5, m6⟩ := F.mks c h3
      have al := sound_es F es Γ _ h4 G W X g
      cases al with
      | nil => cases h5
      | cons r1 n1 a1 => exact .of g.sl.K (sound_mk g.sl F.calls F.lens (g.room h6) g.guards g.tk g.cl m3 m4 m5 m1 m2 m6 (gl_of g h2) (Al.cons r1 n1 a1).pa (star_cons n1) a1.any) ⟨fun _ => rfl, fun _ _ _ z => nomatch z⟩ rfl
    · cases h
  | .meth o m es, Γ, E, h, G, W, X, g => by
    simp only [okE] at h
    split at h
    · simp only [Bool.and_eq_true, decide_eq_true_eq] at h
      obtain ⟨⟨⟨⟨⟨⟨h1, h2⟩, h3⟩, h4⟩, h5⟩, h6⟩, h7⟩ := h
      subst h5
      have ho := sound_e F o Γ _ h1 G W X g
      have al := sound_es F es Γ _ h3 G W X g
      refine .of g.sl.K (sound_meth g.sl F.own F.P F.calls F.lens ((g.room h7).mono (Nat.le_succ _)) g.guards g.tk g.cl ho.e al.pa ⟨base_ok h2, h4, ?_⟩ ?_) ⟨fun _ => rfl, fun _ _ _ z => nomatch z⟩ rfl
      · rw [al.all]
        simp only [Bool.true_and, Bool.and_eq_true, decide_eq_true_eq]
        exact ⟨rfl, by show _ + 0 + 0 < 30; omega⟩
      · cases al with
        | nil => exact .inl ⟨rfl, rfl⟩
        | cons r1 n1 a1 => exact .inr ⟨_, _, rfl, star_cons n1, a1.any⟩
    · cases h
  | .sortk e k js, Γ, E, h, G, W, X, g => by
    simp only [okE] at h
    split at h
    · rename_i x p A r prs body sc pl kp p'
      simp only [Bool.and_eq_true, decide_eq_true_eq] at h
      obtain ⟨⟨⟨⟨⟨⟨⟨h1, h2⟩, h3⟩, h4⟩, h5⟩, h6⟩, h7⟩, h8⟩ := h
      subst h3
      subst h4
      exact .new g.sl.K (sound_sortc g F h7 h8 h1 (bmg g F h2) (Al.cons (sound_e F e Γ _ h5 G W X g) h6 .nil) (star_cons h6)) ⟨fun _ => rfl, fun _ _ _ z => nomatch z⟩
    · cases h
  | .bit _ _, Γ, E, h, G, W, X, g => by simp only [okE] at h; cases h
  | .lc2 _ _ _ _ _ _ _, Γ, E, h, G, W, X, g => by simp only [okE] at h; cases h
  | .lam _ _, Γ, E, h, G, W, X, g => by simp only [okE] at h; cases h
theorem sound_es (F : Fx L V C kk) : ∀ (es : List Ex) (Γ : Gx) (Es : List Expr), okEs V Γ es Es = true → ∀ (G : Cr) (W : WX) (X : L2.Cx), GoodX L V C kk G Γ W X → Al L C G W X es Es
  | [], Γ, Es, h, G, W, X, g => by
    simp only [okEs, List.isEmpty_iff] at h
    subst h
    exact .nil
  | e :: es, Γ, Es, h, G, W, X, g => by
    simp only [okEs] at h
    split at h
    · simp only [Bool.and_eq_true] at h
      exact .cons (sound_e F e Γ _ h.1.1 G W X g) h.2 (sound_es F es Γ _ h.1.2 G W X g)
    · cases h
theorem sound_l (F : Fx L V C kk) : ∀ (es : List Ex) (Γ : Gx) (Es : List Expr), okL V Γ es Es = true → ∀ (G : Cr) (W : WX) (X : L2.Cx), GoodX L V C kk G Γ W X →
    (∃ (k : String) (js : List Nat) (es' : List Ex) (prs : Arguments) (body : Expr) (sc : Scope) (pl : Pos) (Es' : List Expr), es = .lam k js :: es' ∧ Es = .Lambda prs body sc pl :: Es' ∧ lamHere V Γ k js prs body sc = true ∧ Al L C G W X es' Es') ∨
      ∃ (k : String) (js : List Nat) (e1 : Ex) (prs : Arguments) (body : Expr) (sc : Scope) (pl : Pos) (E1 : Expr), es = [e1, .lam k js] ∧ Es = [E1, .Lambda prs body sc pl] ∧ lamHere V Γ k js prs body sc = true ∧ SndR L C G W X e1 E1 ∧ notStar E1 = true
  | [], Γ, Es, h, G, W, X, g => by
    simp only [okL] at h
    cases h
  | e :: es, Γ, Es, h, G, W, X, g => by
    simp only [okL] at h
    split at h
    · split at h
      · simp only [Bool.and_eq_true] at h
        exact .inl ⟨_, _, _, _, _, _, _, _, rfl, rfl, h.1, sound_es F es Γ _ h.2 G W X g⟩
      · cases h
    · split at h
      · simp only [Bool.and_eq_true] at h
        exact .inr ⟨_, _, e, _, _, _, _, _, rfl, rfl, h.2, sound_e F e Γ _ h.1.1 G W X g, h.1.2⟩
      · cases h
    · cases h
theorem sound_i (F : Fx L V C kk) : ∀ (it : Mini.It) (Γ : Gx) (T E : Expr), okI V Γ it T E = true → ∀ (G : Cr) (W : WX) (X : L2.Cx), GoodX L V C kk G Γ W X → PI X T E (semI L G W C it)
  | .of e, Γ, T, E, h, G, W, X, g => by
    simp only [okI] at h
    exact sound_of g.sl.K (sound_e F e Γ E h G W X g).e
  | .enum e, Γ, T, E, h, G, W, X, g => by
    simp only [okI] at h
    split at h
    · simp only [Bool.and_eq_true, decide_eq_true_eq] at h
      obtain ⟨⟨⟨⟨⟨h1, h2⟩, h3⟩, h4⟩, h5⟩, h6⟩ := h
      subst h1
      cases T <;> first | cases h6 | skip
      exact sound_enum g.sl.K (gl_of g h2) (bmg g F h3) (sound_e F e Γ _ h4 G W X g).e (star_cons h5)
    · cases h
  | .revd e, Γ, T, E, h, G, W, X, g => by
    simp only [okI] at h
    split at h
    · simp only [Bool.and_eq_true, decide_eq_true_eq] at h
      obtain ⟨⟨⟨⟨h1, h2⟩, h3⟩, h4⟩, h5⟩ := h
      subst h1
      exact sound_revd g.sl.K (gl_of g h2) (bmg g F h3) (sound_e F e Γ _ h4 G W X g).e (star_cons h5)
    · cases h
  | .zip a b, Γ, T, E, h, G, W, X, g => by
    simp only [okI] at h
    split at h
    · simp only [Bool.and_eq_true, decide_eq_true_eq] at h
      obtain ⟨⟨⟨⟨⟨⟨⟨h1, h2⟩, h3⟩, h4⟩, h5⟩, h6⟩, h7⟩, h8⟩ := h
      subst h1
      cases T <;> first | cases h8 | skip
      have ha := (sound_e F a Γ _ h4 G W X g).e
      have hb := (sound_e F b Γ _ h5 G W X g).e
      refine sound_zip g.sl.K (gl_of g h2) (bmg g F h3) (args_cons ha (args_cons hb args_nil (star_cons h7)) (star_cons h6)) (star_cons h6) ?_
      rw [star_cons h7]; rfl
    · cases h
  | .range a b, Γ, T, E, h, G, W, X, g => by
    simp only [okI] at h
    split at h
    · simp only [Bool.and_eq_true, decide_eq_true_eq] at h
      obtain ⟨⟨⟨⟨⟨h1, h2⟩, h3⟩, h4⟩, h5⟩, h6⟩ := h
      subst h1
      split at h4
      · exact sound_range1 (gl_of g h2) (bmg g F h3) (args_cons (sound_e F b Γ _ h5 G W X g).e args_nil (star_cons h6)) (by rw [star_cons h6]; rfl)
      · cases h4
    · simp only [Bool.and_eq_true, decide_eq_true_eq] at h
      obtain ⟨⟨⟨⟨⟨⟨h1, h2⟩, h3⟩, h4⟩, h5⟩, h6⟩, h7⟩ := h
      subst h1
      exact sound_range2 (gl_of g h2) (bmg g F h3) (args_cons (sound_e F a Γ _ h4 G W X g).e (args_cons (sound_e F b Γ _ h5 G W X g).e args_nil (star_cons h7)) (star_cons h6)) (by rw [star_cons h6, star_cons h7]; rfl) (by rw [star_cons h7]; rfl)
    · cases h
end
end
end MS

set_option Elab.async false
set_option linter.all false
set_option maxRecDepth 100000
set_option maxHeartbeats 4000000
/-! SV: what the checker lets is true of the row's text: statements -/
namespace MS
open PySem PySem.Spec PyProof.Rows L2
open Mini (Val Res Ex Tg Out evalE evalEs evalI evalTs)
section
variable {L : Lk} {G : Cr} {W : WX} {C : Mini.Cx} {X : L2.Cx}
theorem sound_par3 {x y z : Str} {A : List Expr} {es : List Ex} {i j l : Nat} {px py pz pt pos : Pos} {kt k2 pt2} {A1 A2 A3 : Expr} (hA : A = [A1, A2, A3]) (hc : X.calm = true) (hN : X.N.Nodup) (hi : X.N[i]? = some x) (hj : X.N[j]? = some y) (hl : X.N[l]? = some z) (hij : i ≠ j) (hil : i ≠ l) (hjl : j ≠ l)
    (hx : X.env.scope.names.lookup x = some .local) (hy : X.env.scope.names.lookup y = some .local) (hz : X.env.scope.names.lookup z = some .local) (ha : PA X A (semA L G W C es))
    (hw : swappedStores [.Tuple [.Name x px, .Name y py, .Name z pz] kt pt] (.Tuple A k2 pt2) X.env = pure (some [x, y, z])) (hs : swapsWithSole [.Tuple [.Name x px, .Name y py, .Name z pz] kt pt] (.Tuple A k2 pt2) pos.line X.env = pure false) :
    PS X (.Assign [.Tuple [.Name x px, .Name y py, .Name z pz] kt pt] (.Tuple A k2 pt2) pos) (semS L G W C (.asg (.tup [.loc i, .loc j, .loc l]) (.tup es))) := by
  subst hA
  refine (ps_par3 hc hN hi hj hl hij hil hjl hx hy hz ha hw hs).imp fun D σ H ⟨R, h, env, rh, re, q⟩ => ?_
  simp only [Mini.exec, evalE] at q
  refine ⟨R, h, env, rh, re, (SemO.onE rh re q).bind.imp fun R1 h1 H1 vs t1 r1 x1 => fun Vs rvs => ?_⟩
  have x2 : SemO L G W (match Mini.asgT h1 (.tup [.loc i, .loc j, .loc l]) (.tup vs) env with
    | some env' => .next env' h1
    | none => .bad) R1 h1 H1 D := SemR.pure (a := Val.tup vs) x1 r1
  have re1 := re.mono (t1.mo rh)
  cases ea : Mini.asgT h1 (.tup [.loc i, .loc j, .loc l]) (.tup vs) env with
  | none => rw [ea] at x2; exact x2.elim
  | some env' =>
    rw [ea] at x2
    simp only [Mini.asgT] at ea
    have hl := asgTs_len _ _ _ _ _ ea
    match vs, rvs, hl with
    | [u, v, w], .cons ru (.cons rv (.cons rw' .nil)), _ =>
      refine ⟨_, _, _, rfl, ?_⟩
      simp only [Mini.asgTs, Mini.asgT, Option.bind_eq_some_iff] at ea
      obtain ⟨e1, q1, e2, q2, e3, q3, q4⟩ := ea
      split at q1
      · cases q1
        split at q2
        · cases q2
          split at q3
          · cases q3
            cases q4
            exact SemO.next x2 r1 (((re1.set i ru).set j rv).set l rw')
          · cases q3
        · cases q2
      · cases q1
theorem sound_par2 {x y : Str} {A : List Expr} {es : List Ex} {i j : Nat} {px py pt pos : Pos} {kt k2 pt2} {A1 A2 : Expr} (hA : A = [A1, A2]) (hc : X.calm = true) (hN : X.N.Nodup) (hi : X.N[i]? = some x) (hj : X.N[j]? = some y) (hij : i ≠ j) (hx : X.env.scope.names.lookup x = some .local) (hy : X.env.scope.names.lookup y = some .local) (ha : PA X A (semA L G W C es))
    (hw : swappedStores [.Tuple [.Name x px, .Name y py] kt pt] (.Tuple A k2 pt2) X.env = pure (some [x, y])) (hs : swapsWithSole [.Tuple [.Name x px, .Name y py] kt pt] (.Tuple A k2 pt2) pos.line X.env = pure false) :
    PS X (.Assign [.Tuple [.Name x px, .Name y py] kt pt] (.Tuple A k2 pt2) pos) (semS L G W C (.asg (.tup [.loc i, .loc j]) (.tup es))) := by
  subst hA
  refine (ps_par hc hN hi hj hij hx hy ha hw hs).imp fun D σ H ⟨R, h, env, rh, re, q⟩ => ?_
  simp only [Mini.exec, evalE] at q
  refine ⟨R, h, env, rh, re, (SemO.onE rh re q).bind.imp fun R1 h1 H1 vs t1 r1 x1 => fun Vs rvs => ?_⟩
  have x2 : SemO L G W (match Mini.asgT h1 (.tup [.loc i, .loc j]) (.tup vs) env with
    | some env' => .next env' h1
    | none => .bad) R1 h1 H1 D := SemR.pure (a := Val.tup vs) x1 r1
  have re1 := re.mono (t1.mo rh)
  cases ea : Mini.asgT h1 (.tup [.loc i, .loc j]) (.tup vs) env with
  | none => rw [ea] at x2; exact x2.elim
  | some env' =>
    rw [ea] at x2
    simp only [Mini.asgT] at ea
    have hl := asgTs_len _ _ _ _ _ ea
    match vs, rvs, hl with
    | [u, v], .cons ru (.cons rv .nil), _ =>
      refine ⟨_, _, rfl, ?_⟩
      simp only [Mini.asgTs, Mini.asgT, Option.bind_eq_some_iff] at ea
      obtain ⟨e1, q1, e2, q2, q4⟩ := ea
      split at q1
      · cases q1
        split at q2
        · cases q2
          cases q4
          exact SemO.next x2 r1 ((re1.set i ru).set j rv)
        · cases q2
      · cases q1
end
theorem swapsN {E : Expr} {T : Option Expr} {ln : Nat} {env : PySem.Env} (h : isComp E = false) : swapsWith E T ln env = pure false := by
  cases E <;> first | rfl | cases h
theorem swapsS {E T : Expr} {ln : Nat} {env : PySem.Env} (h : isComp E = false) : swapsWithSole [T] E ln env = pure false := by
  show swapsWith E (some T) ln env = _
  exact swapsN h
theorem bkind {env : PySem.Env} (h : env.scope.kind = .function) : env.blockKind = .function := by
  unfold Env.blockKind
  rw [h]; rfl
theorem swapsL {elt : Expr} {gs : List Comprehension} {s : Scope} {p : Pos} {x : Str} {px : Pos} {ln : Nat} {env : PySem.Env} (h : env.scope.kind = .function) : swapsWith (.ListComp elt gs s p) (some (.Name x px)) ln env = pure (swapC env.scope x px s p) := by
  show (return (env.blockKind == .function && env.kindOf x == some .local && px.line == p.line && !(s.names.any fun (n, k) => n == x && (k == .local || k == .cell))) : Sem Bool) = _
  rw [bkind h]
  rfl
theorem swappedT {ts vs : List Expr} {k k2 : Nat} {p p2 : Pos} {env : PySem.Env} {r : Option (List Str)} (h : env.scope.kind = .function) (e : swapS env.scope ts vs = some r) : swappedStores [.Tuple ts k p] (.Tuple vs k2 p2) env = pure r := by
  have hb : (env.blockKind != .function) = false := by rw [bkind h]; rfl
  unfold swapS at e
  unfold swappedStores
  dsimp only
  rw [hb]
  split at e
  · rename_i h1
    cases e
    exact Eq.trans (if_pos h1) rfl
  · rename_i h1
    refine Eq.trans (if_neg h1) ?_
    split at e
    · rename_i h2
      cases e
      exact Eq.trans (if_pos h2) rfl
    · rename_i h2
      refine Eq.trans (if_neg h2) ?_
      dsimp only at e
      unfold Env.kindOf
      split at e
      · rename_i h3
        cases e
        exact Eq.trans (if_pos h3) rfl
      · rename_i h3
        refine Eq.trans (if_neg h3) ?_
        split at e
        · rename_i h4
          cases e
          exact Eq.trans (if_pos h4) rfl
        · rename_i h4
          refine Eq.trans (if_neg h4) ?_
          split at e
          · cases e
          · rename_i h5
            refine Eq.trans (if_neg h5) ?_
            cases e
            rfl
theorem swappedO {T E : Expr} {env : PySem.Env} (h : ∀ vs k p, E ≠ .Tuple vs k p) : swappedStores [T] E env = pure none := by
  cases E <;> first | (exact absurd rfl (h _ _ _)) | (cases T <;> rfl)
end MS

set_option Elab.async false
set_option linter.all false
set_option maxRecDepth 100000
set_option maxHeartbeats 4000000
/-! SW: what the checker lets is true of the row's text: statements, the theorem -/
namespace MS
open PySem PySem.Spec PyProof.Rows L2
open Mini (Val Res Ex Tg Out evalE evalEs evalI evalTs)
section
variable {L : Lk} {V : Ev} {C : Mini.Cx} {kk : Nat}
theorem GoodX.kn {G : Cr} {Γ : Gx} {W : WX} {X : L2.Cx} (g : GoodX L V C kk G Γ W X) : X.env.scope.kind = .function := by rw [g.sc]; exact g.knd
theorem GoodX.ndN {G : Cr} {Γ : Gx} {W : WX} {X : L2.Cx} (g : GoodX L V C kk G Γ W X) : X.N.Nodup := by rw [g.N]; exact g.nd
theorem pl_of {G : Cr} {Γ : Gx} {W : WX} {X : L2.Cx} (g : GoodX L V C kk G Γ W X) {i : Nat} {x : Str} (h : plainLoc Γ i x = true) : X.N[i]? = some x ∧ X.env.scope.names.lookup x = some .local := by
  unfold plainLoc at h
  simp only [Bool.and_eq_true, decide_eq_true_eq] at h
  rw [g.N, g.sc]
  exact h
theorem lo_of {G : Cr} {Γ : Gx} {W : WX} {X : L2.Cx} (g : GoodX L V C kk G Γ W X) {i : Nat} {x : Str} (h : locOk Γ i x = true) : X.N[i]? = some x ∧ L2.Loc X.env.scope x ∧ (X.fn x = true ∨ X.env.scope.names.lookup x = some .local) := by
  unfold locOk at h
  simp only [Bool.and_eq_true, decide_eq_true_eq] at h
  obtain ⟨h1, h2⟩ := h
  rw [g.N, g.sc]
  unfold L2.Loc
  split at h2
  · exact ⟨h1, .inl (by assumption), .inr (by assumption)⟩
  · exact ⟨h1, .inr (by assumption), .inl (g.fn h2 _)⟩
  · cases h2
theorem good_tr {G : Cr} {Γ : Gx} {W : WX} {X : L2.Cx} (g : GoodX L V C kk G Γ W X) {W' : WX} {pn : List (Addr × PySem.Obj)} {xe : Value → Shared → Prop} (tk : Takes (X.tr pn xe) W') (po : PassesOwn (model X.prog X.w) X.A X.env xe) (hx : Γ.ex = []) (hc : Γ.calm = true) : GoodX L V C kk G Γ W' (X.tr pn xe) where
  sl := ⟨g.sl.prog, g.sl.w, g.sl.K, g.sl.mg, g.sl.base⟩
  N := g.N
  nd := g.nd
  sc := g.sc
  knd := g.knd
  st := g.st
  calm := g.calm
  room := g.room
  units := g.units
  guards := g.guards
  tk := tk
  fn := g.fn
  oc := g.oc
  po := po
  ex := g.ex
  clo := g.clo
  nc := g.nc
  c0 := g.c0
  lm := g.lm
  ef := fun z => by rw [hc] at z; cases z
  ei := fun z => by rw [hc] at z; cases z
theorem mark_units {A : Around} {v : Option Value} : (A.mark v).units = A.units := rfl
theorem mark_guards {A : Around} {v : Option Value} : (A.mark v).guards = A.guards := rfl
theorem good_suite {G : Cr} {Γ : Gx} {W : WX} {X : L2.Cx} (g : GoodX L V C kk G Γ W X) (hx : Γ.ex = []) (a : Addr) (oe : PySem.Obj) (pn : List (Addr × PySem.Obj)) : GoodX L V C kk G { N := Γ.N, sc := Γ.sc, top := Γ.top, calm := false, nc := Γ.nc, ex := Γ.ex } Wn (X.suite a ((a, oe) :: pn)) where
  sl := ⟨g.sl.prog, g.sl.w, g.sl.K, g.sl.mg, g.sl.base⟩
  N := g.N
  nd := g.nd
  sc := g.sc
  knd := g.knd
  st := g.st
  calm := fun z => by cases z
  room := fun z => by cases z
  units := g.units
  guards := g.guards
  tk := fun u s' x => by
    obtain ⟨_, _, _, _, _, _, _, _, _, _, _, _, _, _, _, _, z⟩ := x
    exact z.elim
  fn := g.fn
  oc := fun x z => by cases z
  po := PassesOwn.never
  ex := g.ex
  clo := g.clo
  nc := g.nc
  c0 := g.c0
  lm := fun P z => by cases z
  ef := fun _ i f x p pos _ z => by
    have z : Γ.ex.contains i = true := z
    rw [hx] at z
    cases z
  ei := fun _ i e x p px pe pos _ _ _ _ z => by
    have z : Γ.ex.contains i = true := z
    rw [hx] at z
    cases z
theorem good_suiteA (F : Fx L V C kk) {G : Cr} {Γ : Gx} {W : WX} {X : L2.Cx} (g : GoodX L V C kk G Γ W X) (hx : Γ.ex = []) (i : Nat) (a d : Addr) (oe : PySem.Obj) (pn : List (Addr × PySem.Obj)) {cls : Value} {c f0 : String} {C0 : Addr} (hcl : cls = .ref C0) (hca : L.ca c = some C0) (hff : L.fld c = some f0) (hz : Zc cls (some d) oe) (hfl : ∃ vs, oe.data = .fields vs) :
    GoodX L V C kk (G.put i a d c f0) { N := Γ.N, sc := Γ.sc, top := Γ.top, calm := false, nc := Γ.nc, ex := i :: Γ.ex } Wn (X.suite a ((a, oe) :: pn)) where
  sl := ⟨g.sl.prog, g.sl.w, g.sl.K, g.sl.mg, g.sl.base⟩
  N := g.N
  nd := g.nd
  sc := g.sc
  knd := g.knd
  st := g.st
  calm := fun z => by cases z
  room := fun z => by cases z
  units := g.units
  guards := g.guards
  tk := fun u s' x => by
    obtain ⟨_, _, _, _, _, _, _, _, _, _, _, _, _, _, _, _, z⟩ := x
    exact z.elim
  fn := g.fn
  oc := fun x z => by cases z
  po := PassesOwn.never
  ex := fun j hj => by
    have hj : (i :: Γ.ex).contains j = false := hj
    rw [hx] at hj
    have ne : ¬ j = i := fun z => by
      subst z
      simp at hj
    show (if j = i then some (a, d, c, f0) else G.exs j) = none
    rw [if_neg ne]
    exact g.ex j (by rw [hx]; rfl)
  clo := g.clo
  nc := g.nc
  c0 := g.c0
  lm := fun P z => by cases z
  ef := fun _ j f x p pos hf hj hN hv hd hcd => by
    have hj : (i :: Γ.ex).contains j = true := hj
    rw [hx] at hj
    have e : j = i := by simpa using hj
    subst e
    obtain ⟨T, hno⟩ := F.xf c C0 hca
    exact sound_efld (X := X) F.P hff g.sl.K T hcl (hno f hf) hz hfl (if_pos rfl) (by rw [g.N]; exact hN) (vis_of g hv) hd hcd rfl
  ei := fun _ j e x p px pe pos hgi hmi hge he hj hN hv hd hcd => by
    have hj : (i :: Γ.ex).contains j = true := hj
    rw [hx] at hj
    have ee : j = i := by simpa using hj
    subst ee
    obtain ⟨T, hno⟩ := F.xf c C0 hca
    obtain ⟨E0, k1, k2, k3⟩ := F.xis e he
    obtain ⟨I0, k4⟩ := k3 c C0 hca
    exact sound_eis (X := X) F.P g.sl.K T I0 hcl hz hfl (if_pos rfl) k4 hgi hmi hge (by rw [g.sl.mg]; exact k1) k2 (by rw [g.N]; exact hN) (vis_of g hv) hd hcd
theorem names_of (F : Fx L V C kk) {G : Cr} {Γ : Gx} {W : WX} {X : L2.Cx} (g : GoodX L V C kk G Γ W X) {x : Str} {c : String} (h1 : x = nm c) (h2 : glob Γ.sc x = true) (h3 : V.clss.contains c = true) (a : Addr) (q : Addr × PySem.Obj) (pn : List (Addr × PySem.Obj)) : Names (X.suite a (q :: pn)) x (kv L c) := by
  obtain ⟨C0, e1, e2, e3⟩ := F.clss c h3
  subst h1
  have ek : kv L c = .ref C0 := by unfold kv; rw [e1]
  rw [ek]
  exact ⟨gl_of g h2, e3, .inl (by show X.mg _ = _; rw [g.sl.mg]; exact e2)⟩
theorem ct_of (F : Fx L V C kk) {G : Cr} {Γ : Gx} {W : WX} {X : L2.Cx} (g : GoodX L V C kk G Γ W X) {cs : List String} {t : Expr} (h : okCT V Γ cs t = true) (a : Addr) (oe : PySem.Obj) (pn : List (Addr × PySem.Obj)) : CT (X.suite a ((a, oe) :: pn)) t (cs.map (kv L)) := by
  unfold okCT at h
  split at h
  · split at h
    · simp only [Bool.and_eq_true, decide_eq_true_eq] at h
      exact .one (names_of F g h.1.1 h.1.2 h.2 a _ pn)
    · cases h
  · rename_i Es k p
    simp only [Bool.and_eq_true, decide_eq_true_eq] at h
    obtain ⟨⟨⟨h1, h2⟩, h3⟩, h4⟩ := h
    have one : ∀ {c : String} {E : Expr}, clN V Γ c E = true → ∃ x px, E = .Name x px ∧ Names (X.suite a ((a, oe) :: pn)) x (kv L c) := by
      intro c E q
      unfold clN at q
      split at q
      · simp only [Bool.and_eq_true, decide_eq_true_eq] at q
        exact ⟨_, _, rfl, names_of F g q.1.1 q.1.2 q.2 a _ pn⟩
      · cases q
    rcases Es with _ | ⟨E1, _ | ⟨E2, _ | ⟨E3, _ | ⟨E4, _ | ⟨E5, Es⟩⟩⟩⟩⟩
    · simp at h1
    · simp at h1
    · match cs, h3, h4 with
      | [c1, c2], _, h4 =>
        simp only [List.zip_cons_cons, List.zip_nil_right, List.all_cons, List.all_nil, Bool.and_true, Bool.and_eq_true] at h4
        obtain ⟨x1, p1, rfl, n1⟩ := one h4.1
        obtain ⟨x2, p2, rfl, n2⟩ := one h4.2
        exact .two n1 n2
    · match cs, h3, h4 with
      | [c1, c2, c3], _, h4 =>
        simp only [List.zip_cons_cons, List.zip_nil_right, List.all_cons, List.all_nil, Bool.and_true, Bool.and_eq_true] at h4
        obtain ⟨x1, p1, rfl, n1⟩ := one h4.1
        obtain ⟨x2, p2, rfl, n2⟩ := one h4.2.1
        obtain ⟨x3, p3, rfl, n3⟩ := one h4.2.2
        exact .three n1 n2 n3
    · match cs, h3, h4 with
      | [c1, c2, c3, c4], _, h4 =>
        simp only [List.zip_cons_cons, List.zip_nil_right, List.all_cons, List.all_nil, Bool.and_true, Bool.and_eq_true] at h4
        obtain ⟨x1, p1, rfl, n1⟩ := one h4.1
        obtain ⟨x2, p2, rfl, n2⟩ := one h4.2.1
        obtain ⟨x3, p3, rfl, n3⟩ := one h4.2.2.1
        obtain ⟨x4, p4, rfl, n4⟩ := one h4.2.2.2
        exact .four n1 n2 n3 n4
    · simp only [List.length_cons] at h2
      omega
  · cases h
/-- what a statement stores to -/
theorem sound_ta (F : Fx L V C kk) {Γ : Gx} {G : Cr} {W : WX} {X : L2.Cx} (g : GoodX L V C kk G Γ W X) (hc : X.calm = true) : ∀ (t : Mini.Ta) (E : Expr), okTa V Γ t E = true → PG X E (semTa L G C t)
  | .loc i, E, h => ta_loc (sound_g g hc (.loc i) E (by simpa only [okTa] using h))
  | .sub o i, E, h => by
    simp only [okTa] at h
    split at h
    · rename_i O I tp
      simp only [Bool.and_eq_true] at h
      obtain ⟨⟨h1, h2⟩, h3⟩ := h
      refine ta_sub (by have := g.units; omega) (sound_e F o Γ _ h1 G W X g).e (sound_e F i Γ _ h2 G W X g).e fun v => ?_
      cases I <;> first | rfl | cases h3
    · cases h
  | .att o f, E, h => by
    simp only [okTa] at h
    split at h
    · simp only [Bool.and_eq_true, decide_eq_true_eq] at h
      obtain ⟨h1, h2⟩ := h
      subst h2
      exact ta_att g.sl F.own F.P (sound_e F o Γ _ h1 G W X g).e
    · cases h
theorem sound_tas (F : Fx L V C kk) {Γ : Gx} {G : Cr} {W : WX} {X : L2.Cx} (g : GoodX L V C kk G Γ W X) (hc : X.calm = true) : ∀ (ts : List Mini.Ta) (Es : List Expr), okTas V Γ ts Es = true → PGs X Es (semTas L G C ts) ∧ (assignEach Es X.env).length = ts.length ∧ (assignEach Es X.env).findIdx? (·.1) = none
  | [], Es, h => by
    simp only [okTas, List.isEmpty_iff] at h
    subst h
    exact ⟨tas_nil, rfl, rfl⟩
  | t :: ts, Es, h => by
    simp only [okTas] at h
    split at h
    · simp only [Bool.and_eq_true] at h
      obtain ⟨⟨h1, h2⟩, h3⟩ := h
      obtain ⟨p, n1, n2⟩ := sound_tas F g hc ts _ h2
      rw [assign_cons h3]
      refine ⟨tas_cons (sound_ta F g hc t _ h1) p (by rw [assign_cons h3]; rfl), by simp [n1], ?_⟩
      rw [List.findIdx?_cons]
      simp [n2]
    · cases h
/-- x = [..] on one line -/
theorem swap_core (F : Fx L V C kk) {e' : Ex} {elt : Ex} {t : Tg} {it : Mini.It} {is : List Ex} {Γ : Gx} {Elt : Expr} {gs : List Comprehension} {scope : Scope} {p px spos : Pos} {x : Str} {i : Nat} (h : okE V Γ (.lc elt t it is) (.ListComp Elt gs scope p) = true) (hnc : Γ.nc = true) {G : Cr} {W : WX} {X : L2.Cx} (g : GoodX L V C kk G Γ W X) (hx : X.N[i]? = some x) (hl : X.env.scope.names.lookup x = some .local)
    (hsw : swapsWith (.ListComp Elt gs scope p) (some (.Name x px)) spos.line X.env = pure true) (hv : ∀ σ H Q, semE L G W C e' σ H Q → semF L G W C (.lc elt t it is) σ H Q) : PS X (.Assign [.Name x px] (.ListComp Elt gs scope p) spos) (semS L G W C (.asg (.loc i) e')) := by
  simp only [okE] at h
  split at h
  · rename_i Elt c scope p heq
    cases heq
    simp only [Bool.and_eq_true, decide_eq_true_eq, beq_iff_eq] at h
    obtain ⟨⟨⟨⟨⟨⟨⟨⟨⟨⟨⟨h0, h1⟩, h2⟩, h3⟩, h4⟩, h5⟩, h6⟩, h7⟩, h8⟩, h9⟩, h10⟩, h11⟩ := h
    obtain ⟨T, I, ifs, asy⟩ := c
    dsimp only at h2 h3 h4 h5 h7 h8 h9 h10 h11
    subst h2
    have hk : scope.kind = .function := (blkOk_by h10).kind
    refine sound_setLc (own := ownOf t T) (g.calm h0) g.ndN hx hl hsw (sound_i F it Γ T I h4 G W X g) (by rw [g.N, g.sc]; exact blkOk_by h10) (fun s H B cl fp => ?_) (fun s H B cl fp => ?_) (fun s H B cl fp => ?_) (foldS h3) (fun j hj => by rw [h11]; exact hj) (fun j hj => by rw [h11] at hj; exact hj) hv
    · exact sound_g (good_blk g F h0 (.inl hnc) s H scope hk cl B fp (.inl hnc)) (g.calm h0) t T h5
    · have al := sound_es F is _ _ h7 G Wn _ (good_blk g F h0 (.inl hnc) s H scope hk cl B fp (.inl hnc))
      cases al with
      | nil => exact tests_nil
      | cons r1 n1 a1 => cases a1 with
        | cons _ _ _ => simp at h8
        | nil => exact tests_one (r1.t (by simpa using h9))
    · exact (sound_e F elt _ _ h6 G Wn _ (good_blk g F h0 (.inl hnc) s H scope hk cl B fp (.inl hnc))).e
  · cases h
theorem sound_swap (F : Fx L V C kk) (e : Ex) (Γ : Gx) {Elt : Expr} {gs : List Comprehension} {scope : Scope} {p px spos : Pos} {x : Str} {i : Nat} (E : Expr) (h : okE V Γ e (.ListComp Elt gs scope p) = true) (hl : isLc e = true) (hnc : Γ.nc = true) (G : Cr) (W : WX) (X : L2.Cx) (g : GoodX L V C kk G Γ W X) (hx : X.N[i]? = some x) (hxl : X.env.scope.names.lookup x = some .local)
    (hsw : swapsWith (.ListComp Elt gs scope p) (some (.Name x px)) spos.line X.env = pure true) : PS X (.Assign [.Name x px] (.ListComp Elt gs scope p) spos) (semS L G W C (.asg (.loc i) e)) := by
  unfold isLc at hl
  split at hl
  · exact swap_core F h hnc g hx hxl hsw val_sem
  · simp only [okE, Bool.and_eq_true] at h
    exact swap_core F h.1 hnc g hx hxl hsw thaw_sem
  · cases hl
mutual
theorem sound_s (F : Fx L V C kk) : ∀ (s : Mini.St) (Γ : Gx) (S : Stmt), okS V Γ s S = true → ∀ (G : Cr) (W : WX) (X : L2.Cx), GoodX L V C kk G Γ W X → PS X S (semS L G W C s)
  | .exp e, Γ, S, h, G, W, X, g => by
    simp only [okS] at h
    split at h
    · simp only [Bool.and_eq_true, Bool.not_eq_true'] at h
      exact sound_exp (sound_e F e Γ _ h.1 G W X g).e (swapsN h.2)
    · cases h
  | .asg t e, Γ, S, h, G, W, X, g => by
    simp only [okS] at h
    split at h
    · rename_i T E p
      split at h
      · rename_i x px
        split at h
        · rename_i i
          simp only [Bool.and_eq_true] at h
          obtain ⟨⟨h1, h2⟩, h3⟩ := h
          obtain ⟨l1, l2, l3⟩ := lo_of g h1
          have he := sound_e F e Γ _ h2 G W X g
          split at h3
          · rename_i elt gs sc p'
            have hsl := swapsL (elt := elt) (gs := gs) (s := sc) (p := p') (x := x) (px := px) (ln := p.line) g.kn
            by_cases hsw : swapC Γ.sc x px sc p' = true
            · rw [hsw] at h3
              simp only [Bool.not_true, Bool.false_or, Bool.and_eq_true] at h3
              obtain ⟨b1, b2⟩ := pl_of g h3.1.1
              rw [g.sc, hsw] at hsl
              exact sound_swap F e Γ (.ListComp elt gs sc p') h2 h3.1.2 h3.2 G W X g b1 b2 hsl
            · rw [Bool.not_eq_true] at hsw
              rw [g.sc, hsw] at hsl
              exact sound_set g.ndN l1 l2 he.e hsl l3
          · rename_i nl
            simp only [Bool.not_eq_true'] at h3
            exact sound_set g.ndN l1 l2 he.e (swapsN h3) l3
        · cases h
      · rename_i Ts k pt
        simp only [Bool.and_eq_true, Bool.not_eq_true'] at h
        obtain ⟨⟨h1, h2⟩, h3⟩ := h
        have hc := g.calm h1
        split at h3
        · rename_i Vs k2 p2
          split at h3
          · rename_i hsw
            simp only [Bool.and_eq_true] at h3
            exact sound_asg (sound_e F e Γ _ h3.2 G W X g).e (sound_g g hc t _ h3.1) (swapsS h2) (swappedT g.kn (by rw [g.sc]; exact hsw)) rfl
          · rename_i names hsw
            have hsw' : swapS X.env.scope Ts Vs = some (some names) := by rw [g.sc]; exact hsw
            split at h3
            · rename_i i j es x px y py
              simp only [Bool.and_eq_true, decide_eq_true_eq] at h3
              obtain ⟨⟨⟨⟨⟨q1, q2⟩, q3⟩, q4⟩, q5⟩, q6⟩ := h3
              subst q5
              obtain ⟨a1, a2⟩ := pl_of g q2
              obtain ⟨b1, b2⟩ := pl_of g q3
              have al := sound_es F es Γ _ q1 G W X g
              match Vs, q6, al, hsw', h2 with
              | [V1, V2], _, al, hsw', h2 => exact sound_par2 rfl hc g.ndN a1 b1 q4 a2 b2 al.pa (swappedT g.kn hsw') (swapsS h2)
            · rename_i i j l es x px y py z pz
              simp only [Bool.and_eq_true, decide_eq_true_eq] at h3
              obtain ⟨⟨⟨⟨⟨⟨⟨⟨q1, q2⟩, q3⟩, q3'⟩, q4⟩, q4'⟩, q4''⟩, q5⟩, q6⟩ := h3
              subst q5
              obtain ⟨a1, a2⟩ := pl_of g q2
              obtain ⟨b1, b2⟩ := pl_of g q3
              obtain ⟨c1, c2⟩ := pl_of g q3'
              have al := sound_es F es Γ _ q1 G W X g
              match Vs, q6, al, hsw', h2 with
              | [V1, V2, V3], _, al, hsw', h2 => exact sound_par3 rfl hc g.ndN a1 b1 c1 q4 q4' q4'' a2 b2 c2 al.pa (swappedT g.kn hsw') (swapsS h2)
            · cases h3
          · cases h3
        · rename_i nt
          simp only [Bool.and_eq_true] at h3
          exact sound_asg (sound_e F e Γ _ h3.2 G W X g).e (sound_g g hc t _ h3.1) (swapsS h2) (swappedO fun vs k p z => nt vs k p z) rfl
      · cases h
    · cases h
  | .sub o i e, Γ, S, h, G, W, X, g => by
    simp only [okS] at h
    split at h
    · rename_i O I tp E p
      simp only [Bool.and_eq_true, Bool.not_eq_true'] at h
      obtain ⟨⟨⟨⟨h1, h2⟩, h3⟩, h4⟩, h5⟩ := h
      exact sound_put (by have := g.units; omega) (sound_e F o Γ _ h1 G W X g).e (sound_e F i Γ _ h2 G W X g).e (sound_e F e Γ _ h3 G W X g).e (fun v => by cases I <;> first | rfl | cases h5) (swapsS h4) (by cases E <;> first | rfl | cases h4) rfl
    · cases h
  | .att o f e, Γ, S, h, G, W, X, g => by
    simp only [okS] at h
    split at h
    · simp only [Bool.and_eq_true, decide_eq_true_eq, Bool.not_eq_true'] at h
      obtain ⟨⟨⟨h1, h2⟩, h3⟩, h4⟩ := h
      subst h3
      exact sound_att g.sl F.own F.P (sound_e F o Γ _ h1 G W X g).e (sound_e F e Γ _ h2 G W X g).e (swapsN h4)
    · cases h
  | .asgs ts e, Γ, S, h, G, W, X, g => by
    simp only [okS] at h
    split at h
    · rename_i Ts k1 pt E p
      simp only [Bool.and_eq_true, Bool.not_eq_true'] at h
      obtain ⟨⟨⟨⟨h1, h2⟩, h3⟩, h4⟩, h5⟩ := h
      have hc := g.calm h1
      obtain ⟨p1, n1, n2⟩ := sound_tas F g hc ts _ h3
      refine sound_asgs g.sl.K hc (sound_e F e Γ _ h4 G W X g).e p1 n1 n2 (swapsS h2) ?_ rfl
      unfold swapO at h5
      split at h5
      · split at h5
        · rename_i hsw
          exact swappedT g.kn (by rw [g.sc]; exact hsw)
        · cases h5
      · rename_i nt
        exact swappedO fun vs k p z => nt vs k p z
    · cases h
  | .cond c a b, Γ, S, h, G, W, X, g => by
    simp only [okS] at h
    split at h
    · simp only [Bool.and_eq_true] at h
      obtain ⟨⟨⟨h1, h2⟩, h3⟩, h4⟩ := h
      exact sound_if ((sound_e F c Γ _ h1 G W X g).t h2) (sound_ss F a Γ _ h3 G W X g) (sound_ss F b Γ _ h4 G W X g)
    · cases h
  | .loop t it b, Γ, S, h, G, W, X, g => by
    simp only [okS] at h
    split at h
    · simp only [Bool.and_eq_true] at h
      obtain ⟨⟨⟨⟨h1, h2⟩, h3⟩, h4⟩, h5⟩ := h
      have hc := g.calm h1
      exact sound_for g.po hc (sound_i F it Γ _ _ h2 G W X g) (sound_g g hc t _ h3) (sound_ss F b Γ _ h4 G W X g) (foldS h5)
    · cases h
  | .whl c b, Γ, S, h, G, W, X, g => by
    simp only [okS] at h
    split at h
    · simp only [Bool.and_eq_true] at h
      exact sound_while g.po ((sound_e F c Γ _ h.1.1 G W X g).t h.1.2) (sound_ss F b Γ _ h.2 G W X g)
    · cases h
  | .ret e, Γ, S, h, G, W, X, g => by
    simp only [okS] at h
    split at h
    · exact sound_ret (sound_e F e Γ _ h G W X g).e
    · split at h
      · exact sound_retN
      · cases h
    · cases h
  | .raise c e, Γ, S, h, G, W, X, g => by
    simp only [okS] at h
    split at h
    · rename_i x p1 E p2 p3
      simp only [Bool.and_eq_true, decide_eq_true_eq] at h
      obtain ⟨⟨⟨⟨⟨h1, h2⟩, h3⟩, h4⟩, h5⟩, h6⟩ := h
      subst h2
      obtain ⟨C0, f, e1, e2, mk⟩ := F.excs c h4
      exact sound_raise (E := E) (g.calm h1) g.tk (mk X E _ p1 p2 g.sl (g.calm h1) (gl_of g h3) ((g.room h1).mono (Nat.le_succ _)) h6 (sound_e F e Γ _ h5 G W X g).e) e1 e2
    · cases h
  | .try_ b hs, Γ, S, h, G, W, X, g => by
    simp only [okS] at h
    split at h
    · rename_i B Hs p
      simp only [Bool.and_eq_true, List.isEmpty_iff, Bool.not_eq_true'] at h
      obtain ⟨⟨⟨⟨⟨h1, h2⟩, h3⟩, h4⟩, h5⟩, h6⟩ := h
      obtain ⟨s1, s2⟩ := g.st h2
      obtain ⟨k1, k2⟩ := sound_hs F hs Γ Hs h5 h3 G W X g
      cases Hs with
      | nil => cases h6
      | cons H0 Hs =>
        exact sound_try F.P g.sl.K g.ndN s1 s2 g.tk (fun W' pn xe tk po => sound_ss F b Γ _ h4 G W' (X.tr pn xe) (good_tr g tk po h3 h1)) k1 k2
    · cases h
  | .brk, Γ, S, h, G, W, X, g => by
    simp only [okS] at h
    split at h
    · exact sound_brk
    · cases h
  | .cont, Γ, S, h, G, W, X, g => by
    simp only [okS] at h
    split at h
    · exact sound_cont
    · cases h
  | .pass, Γ, S, h, G, W, X, g => by
    simp only [okS] at h
    split at h
    · exact sound_pass
    · cases h
theorem sound_ss (F : Fx L V C kk) : ∀ (ss : List Mini.St) (Γ : Gx) (Ss : List Stmt), okSs V Γ ss Ss = true → ∀ (G : Cr) (W : WX) (X : L2.Cx), GoodX L V C kk G Γ W X → PSs X Ss (semSs L G W C ss)
  | [], Γ, Ss, h, G, W, X, g => by
    simp only [okSs, List.isEmpty_iff] at h
    subst h
    exact sounds_nil
  | s :: ss, Γ, Ss, h, G, W, X, g => by
    simp only [okSs] at h
    split at h
    · simp only [Bool.and_eq_true] at h
      exact sounds_cons (sound_s F s Γ _ h.1 G W X g) (sound_ss F ss Γ _ h.2 G W X g)
    · cases h
theorem sound_hs (F : Fx L V C kk) : ∀ (hs : Mini.Hs) (Γ : Gx) (Hs : List ExceptHandler), okHs V Γ hs Hs = true → Γ.ex = [] → ∀ (G : Cr) (W : WX) (X : L2.Cx), GoodX L V C kk G Γ W X → HsOk X Hs (clOf L G C hs) ∧ HsX L hs
  | .nil, Γ, Hs, h, hx, G, W, X, g => by
    simp only [okHs, List.isEmpty_iff] at h
    subst h
    exact ⟨.nil, trivial⟩
  | .cons cs n body rest, Γ, Hs, h, hx, G, W, X, g => by
    simp only [okHs] at h
    split at h
    · rename_i t x suite p Hs
      simp only [Bool.and_eq_true, Bool.not_eq_true'] at h
      obtain ⟨⟨⟨⟨h1, h2⟩, h3⟩, h4⟩, h5⟩ := h
      obtain ⟨r1, r2⟩ := sound_hs F rest Γ _ h5 hx G W X g
      refine ⟨?_, F.hcs cs h2, r2⟩
      cases suite with
      | nil => cases h4
      | cons b0 suite =>
        cases n with
        | none =>
          cases x with
          | some x => cases h3
          | none => exact .cons (fun a oe pn => ct_of F g h1 a oe pn) trivial (fun a oe cls d pn hz hf => sound_ss F body _ _ h3 G Wn _ (good_suite g hx a oe pn)) r1
        | some i =>
          cases x with
          | none => cases h3
          | some x =>
            simp only [Bool.and_eq_true] at h3
            obtain ⟨l1, l2⟩ := pl_of g h3.1
            refine .cons (fun a oe pn => ct_of F g h1 a oe pn) ⟨l1, l2⟩ (fun a oe cls d pn hz hf => ?_) r1
            cases d with
            | none => exact ⟨fun _ _ _ _ _ _ z => z.elim⟩
            | some d =>
              exact ⟨fun p1 p2 p3 p4 p5 p6 z => by
                obtain ⟨c, C0, f, ⟨e1, e2, e3⟩, z⟩ := z
                exact (sound_ss F body _ _ h3.2 (G.put i a d c f) Wn _ (good_suiteA F g hx i a d oe pn e1 e2 e3 hz hf)).run p1 p2 p3 p4 p5 p6 z⟩
    · cases h
end
end
end MS

set_option Elab.async false
set_option linter.all false
set_option maxRecDepth 100000
set_option maxHeartbeats 4000000
/-! SX: the whole program -/
namespace MS
open PySem PySem.Spec PyProof.Rows L2
open Mini (Val Res Ex Tg Out evalE evalEs evalI evalTs)
def gxOf (x : String) (I : DefI) (F : Mini.Fn) : Gx := { N := I.N, sc := I.scope, top := true, calm := true, nc := !F.clo, ex := [], q := nm x ++ ".<locals>." ++ "<lambda>", P := I.tbl }
/-- no lambdas within -/
def Ev.bare (V : Ev) : Ev := { V with lam := fun _ _ => false }
def gxLam (I : LamI) : Gx := { N := I.N, sc := I.sc, top := false, calm := true, nc := true, ex := [] }
def isFn : Scope → Bool := fun s => match s.kind with
  | .function => true
  | _ => false
def keyNames : List Str := ["run", "at", "lot", "group", "one", "pair", "call", "ticks", "spot", "number", "two", "three", "four"]
/-- `lambda run:` -/
theorem bindOkP {I : LamI} {n : Str} {p : Pos} (hn : n ∈ keyNames) (hp : I.prs = ⟨[], [⟨n, none, p⟩], none, [], [], none, []⟩) (hps : I.ps = [n]) (hds : I.ds = []) : BindOk I := by
  intro s us cl dV pm ct c1 H fr hdf h1 h2
  rw [hps] at h1
  rw [hps, hds] at h2
  obtain ⟨u, rfl⟩ : ∃ u, us = [u] := List.length_eq_one_iff.mp (Nat.le_antisymm h1 (by simpa using h2))
  refine ⟨[], by rw [hds, List.drop_nil]; exact .nil, ?_⟩
  rw [hps, hp]
  simp only [keyNames, List.mem_cons, List.not_mem_nil, or_false] at hn
  rcases hdf with ⟨_, rfl⟩ | ⟨t, ws, rfl, r, e, _⟩
  · rcases hn with rfl | rfl | rfl | rfl | rfl | rfl | rfl | rfl | rfl | rfl | rfl | rfl | rfl <;> exact BindsTo.of_eq rfl
  · rw [hds] at r
    cases r
    rcases hn with rfl | rfl | rfl | rfl | rfl | rfl | rfl | rfl | rfl | rfl | rfl | rfl | rfl <;> exact BindsTo.of_defaults (items := #[]) rfl e rfl rfl rfl
def bindB (I : LamI) : Bool := match I.prs with
  | ⟨[], [], none, [], [], none, []⟩ => decide (I.ps = []) && decide (I.ds = [])
  | ⟨[], [⟨n, none, _⟩], none, [], [], none, [_]⟩ => decide (n ∈ lamNames) && decide (I.ps = [n]) && decide (I.ds.length = 1)
  | ⟨[], [⟨n, none, _⟩], none, [], [], none, []⟩ => decide (n ∈ keyNames) && decide (I.ps = [n]) && decide (I.ds = [])
  | _ => false
theorem bindB_ok {I : LamI} (h : bindB I = true) : BindOk I := by
  unfold bindB at h
  split at h
  · rename_i e
    simp only [Bool.and_eq_true, decide_eq_true_eq] at h
    exact bindOk0 e h.1 h.2
  · rename_i n p dx e
    simp only [Bool.and_eq_true, decide_eq_true_eq] at h
    obtain ⟨⟨h1, h2⟩, h3⟩ := h
    obtain ⟨i, hi⟩ : ∃ i, I.ds = [i] := List.length_eq_one_iff.mp h3
    exact bindOkX h1 e h2 hi
  · rename_i n p e
    simp only [Bool.and_eq_true, decide_eq_true_eq] at h
    obtain ⟨⟨h1, h2⟩, h3⟩ := h
    exact bindOkP h1 e h2 h3
  · cases h
/-- a lambda as the program of the small language has it -/
def okLam (V : Ev) (P : Mini.Prog) (k : String) (I : LamI) : Bool := match P.lams.lookup k with
  | some F => isFn I.sc && !I.sc.isCoroutine && !I.sc.isGenerator && I.sc.names.all (fun y => decide (y.2 ≠ .cell)) && I.ps.all (fun p => decide (I.sc.names.lookup p = some .local)) && I.caps.all (fun p => decide (I.sc.names.lookup p = some .free)) && decide (I.N.take (I.ps.length + I.caps.length) = I.ps ++ I.caps) && decide I.N.Nodup &&
      bindB I && decide (I.ps.length = F.params) && decide (I.caps.length = F.caps) && decide (I.N.length = F.slots) && decide (F.dflt = I.ds.map Val.int) && okE V.bare (gxLam I) F.body I.body
  | none => false
theorem okLam_ok {V : Ev} {P : Mini.Prog} {k : String} {I : LamI} (h : okLam V P k I = true) : ∃ F, P.lams.lookup k = some F ∧ LamOk I ∧ BindOk I ∧ I.ps.length = F.params ∧ I.caps.length = F.caps ∧ I.N.length = F.slots ∧ F.dflt = I.ds.map Val.int ∧ okE V.bare (gxLam I) F.body I.body = true := by
  unfold okLam at h
  split at h
  · rename_i F hF
    simp only [Bool.and_eq_true, List.all_eq_true, decide_eq_true_eq, Bool.not_eq_true'] at h
    obtain ⟨⟨⟨⟨⟨⟨⟨⟨⟨⟨⟨⟨⟨h1, h2⟩, h3⟩, h4⟩, h5⟩, h6⟩, h7⟩, h8⟩, h9⟩, h10⟩, h11⟩, h12⟩, h13⟩, h14⟩ := h
    have hk : I.sc.kind = .function := by
      unfold isFn at h1
      split at h1
      · assumption
      · cases h1
    exact ⟨F, hF, ⟨hk, h2, h3, h4, h5, h6, h7, h8⟩, bindB_ok h9, h10, h11, h12, h13, h14⟩
  · cases h
/-- what is known of the program, at the level kk -/
structure Fz (L : Lk) (V : Ev) : Prop where
  bts : ∀ x, V.bts.contains x = true → L.mg x = none
  cons : ∀ c, V.cons.contains c = true → ∃ v u U, L.P.cons.lookup c = some v ∧ L.mg (nm c) = some u ∧ RelV U u ∧ (∀ (G : Clo) (H : Hp) (R : Mp) (n : Nat), VR L.K G H R n v U) ∧ (nm c == ("__debug__" : Str)) = false
  defs : ∀ f, V.defs.contains f = true → ∃ I, L.defs f = some I ∧ DefOk L f I ∧ I.top = true
  own : OwnOk L
  mks : ∀ c, V.owns.contains c = true → ∃ C0 I, L.co c = some C0 ∧ L.mg (nm c) = some (.ref C0) ∧ L.defs (c ++ ".__init__") = some I ∧ DefOk L (c ++ ".__init__") I ∧ Mk L.K C0 I.f ∧ (nm c == ("__debug__" : Str)) = false
  excs : ∀ c, V.excs.contains c = true → ∃ C0 f, L.ca c = some C0 ∧ L.fld c = some f ∧ ∀ (X : L2.Cx) (E : Expr) (te : TE) (p pos : Pos), SameL L X → X.calm = true → Gl X (nm c) → Room 3 X.A → notStar E = true → PE X E te → PMk X (.Call (.Name (nm c) p) [E] [] pos) (tMkX C0 (nm f) te)
  clss : ∀ c, V.clss.contains c = true → ∃ C0, L.ca c = some C0 ∧ L.mg (nm c) = some (.ref C0) ∧ (nm c == ("__debug__" : Str)) = false
  hcs : ∀ cs, V.hcs.contains cs = true → ∀ c C0, L.ca c = some C0 → PySem.W.exmAny L.K (.ref C0) (cs.map (kv L)) = some (Mini.excIs L.P c cs)
  xf : ∀ c C0, L.ca c = some C0 → XfC L.K C0 ∧ ∀ f, V.flds.contains f = true → PySem.W.findIn L.K (.ref C0) (nm f) = some none
  xis : ∀ e, V.iss.contains e = true → ∃ E0, L.mg (nm e) = some (.ref E0) ∧ (nm e == ("__debug__" : Str)) = false ∧ ∀ c C0, L.ca c = some C0 → XiC L.K C0 ∧ PySem.W.kitOne L.K (.ref C0) (.ref E0) = some (Mini.excIs L.P c [e])
  tab : ∀ x I, L.defs x = some I → ∃ F, L.P.fns.lookup x = some F ∧ I.ps.length = F.params ∧ I.N.length = F.slots ∧ DefOk L x I ∧ okSs V (gxOf x I F) F.body I.body = true
  tbl : ∀ x I, L.defs x = some I → ∀ P, I.tbl = some P → ∃ c, LamX.TabB L.base L.mg c P ∧ I.cdv = .ref c ∧ (P, nm x ++ ".<locals>." ++ "<lambda>") ∈ L.T ∧ ∀ p ∈ L.T, p.1 = P → p.2 = nm x ++ ".<locals>." ++ "<lambda>"
  lo : ∀ k vs s H o a, L.clo k vs s H o a ↔ ∃ I, L.lams k I ∧ CloAt I vs s H o a
  lam : ∀ k I, V.lam k I = true → (I.P, I.q) ∈ L.T → L.lams k I
  lamE : ∀ k I, L.lams k I → okLam V L.P k I = true ∧ (I.P, I.q) ∈ L.T
section
variable {L : Lk} {V : Ev}
theorem Fz.stab (Z : Fz L V) : CloSt L := cloSt_of Z.lo
theorem good_def (Z : Fz L V) {C : Mini.Cx} {kk : Nat} {x : String} {I : DefI} {F : Mini.Fn} (hI : L.defs x = some I) (dI : DefOk L x I) {G : Cr} {A : Around} {outer : List PySem.Env} {s : Shared} {H : Hp} {E : XK} (hr : Room (kk + 1) (A.deeper (envOfC (nm x) I.scope s.heap.objs.size I.f I.cdv))) (hg : A.guards = some []) (clo : CloOk L G s H outer)
    (hn : F.clo = false → ∀ k a vs, ¬ G.clo k a vs) (hx : ∀ i, G.exs i = none) :
    GoodX L V C kk G (gxOf x I F) (fun cls d _ H' => E cls d H') (cxOf (L2.CX L.prog L.w) L.prog L.w L.K L.mg L.base I.N (nm x) I.scope I.f I.cdv A outer s H E) where
  sl := ⟨rfl, rfl, rfl, rfl, rfl⟩
  N := rfl
  nd := dI.S.nd
  sc := rfl
  knd := dI.S.kind
  st := fun _ => ⟨rfl, rfl⟩
  calm := fun _ => rfl
  room := fun _ => hr
  units := by
    have := hr.un
    show (A.deeper _).units + 65 < cLine
    omega
  guards := hg
  tk := takes_of rfl rfl rfl rfl
  fn := fun _ _ => rfl
  oc := fun _ _ => rfl
  po := passes_of rfl
  ex := fun i _ => hx i
  clo := fun A' c pn xe pins σ H' s' J k a vs q => by
    have z := fun e1 e2 => Z.stab _ pins σ H' s' k vs a e1 e2 J
    exact z rfl rfl (clo k a vs q)
  nc := fun z => hn (by
    have z : (!F.clo) = true := z
    cases e : F.clo with
    | true => rw [e] at z; cases z
    | false => rfl)
  c0 := fun _ => .inr ⟨rfl, clo⟩
  lm := fun P hP => by
    obtain ⟨c, t1, t2, t3, t4⟩ := Z.tbl x I hI P hP
    exact ⟨c, t1, t2, rfl, t3, t4⟩
  ef := fun z => by cases z
  ei := fun z => by cases z
theorem good_lam {V' : Ev} {C : Mini.Cx} {kk : Nat} {I : LamI} (S : LamOk I) {G : Cr} {A : Around} {outer : List PySem.Env} {s : Shared} {H : Hp} {E : XK} {cl : List (Str × Addr)} {a c1 : Addr} (hr : Room (kk + 1) (A.deeper (lmEnv I cl s.heap.objs.size a c1))) (hg : A.guards = some []) (hn : ∀ k a vs, ¬ G.clo k a vs) (hx : ∀ i, G.exs i = none) :
    GoodX L V' C kk G (gxLam I) (fun cls d _ H' => E cls d H') (lmCx L I A outer s H E cl a c1) where
  sl := ⟨rfl, rfl, rfl, rfl, rfl⟩
  N := rfl
  nd := S.nd
  sc := rfl
  knd := S.kind
  st := fun z => by cases z
  calm := fun _ => rfl
  room := fun _ => hr
  units := by
    have := hr.un
    show (A.deeper _).units + 65 < cLine
    omega
  guards := hg
  tk := takes_of rfl rfl rfl rfl
  fn := fun z => by cases z
  oc := fun x z => by cases z
  po := passes_of rfl
  ex := fun i _ => hx i
  clo := fun A' c pn xe pins σ H' s' J k a vs q => (hn k a vs q).elim
  nc := fun _ => hn
  c0 := fun z => by cases z
  lm := fun P z => by cases z
  ef := fun z => by cases z
  ei := fun z => by cases z
theorem act_bad (P : Mini.Prog) (W d : Nat) : ActBad (Mini.cxAt P W d) := by
  intro f ms h hf
  cases d with
  | zero => rfl
  | succ d =>
    cases f with
    | clo k ks => exact absurd rfl (hf k ks)
    | _ => rfl
theorem fx_of (Z : Fz L V) {Wn d kk : Nat} (hk : 3 ≤ kk) (c : CallsOk L kk (Mini.cxAt L.P Wn d)) (l : LensOk L (Mini.cxAt L.P Wn d)) (ac : ActsOk L L.lams kk (Mini.cxAt L.P Wn d)) : Fx L V (Mini.cxAt L.P Wn d) kk := by
  have hP : (Mini.cxAt L.P Wn d).prog = L.P := by cases d <;> rfl
  refine ⟨hP, Z.bts, fun c h => ?_, Z.defs, Z.own, Z.mks, c, l, ac, act_bad _ _ _, callHush _ _ _, Z.lo, fun k I h ht => ?_, fun c h => ?_, Z.clss, Z.hcs, Z.xf, Z.xis⟩
  · rw [hP]; exact Z.cons c h
  · obtain ⟨F, _, S, _⟩ := okLam_ok (Z.lamE k I (Z.lam k I h ht)).1
    exact ⟨Z.lam k I h ht, S⟩
  · obtain ⟨C0, f, e1, e2, mk⟩ := Z.excs c h
    exact ⟨C0, f, e1, e2, fun X E te p pos a b c hr n q => mk X E te p pos a b c (hr.mono (by omega)) n q⟩
theorem Fx.bare {C : Mini.Cx} {kk : Nat} (F : Fx L V C kk) : Fx L V.bare C kk :=
  ⟨F.P, F.bts, F.cons, F.defs, F.own, F.mks, F.calls, F.lens, F.acts, F.abad, F.hush, F.lo, fun k I z _ => (by cases z), F.excs, F.clss, F.hcs, F.xf, F.xis⟩
theorem all_calls (Z : Fz L V) (Wn : Nat) : ∀ d, CallsOk L (2 * d + 3) (Mini.cxAt L.P Wn d) ∧ LensOk L (Mini.cxAt L.P Wn d) ∧ ActsOk L L.lams (2 * d + 3) (Mini.cxAt L.P Wn d)
  | 0 => ⟨fun x I hI A outer s H args us vs Q E _ _ _ _ _ h => by
      obtain ⟨G, R, h, ms, _, _, _, y⟩ := h
      exact y.elim, fun x I hI ms h nb => absurd rfl nb, fun k I hI A outer s H us vs cs Q E a _ _ _ _ _ h => by
      obtain ⟨G, R, h, ms, ks, _, _, _, _, y⟩ := h
      exact y.elim⟩
  | d + 1 => by
    obtain ⟨c, l, ac⟩ := all_calls Z Wn d
    have fx := fx_of Z (by omega) c l ac
    have st := calls_step (L := L) (P := L.P) (Wn := Wn) (d := d) (kk := 2 * d + 4) fun x I hI => by
      obtain ⟨F, e1, e2, e3, dI, ok⟩ := Z.tab x I hI
      exact ⟨F, e1, e2, e3, dI, fun G A outer s H E hr hg clo hn hx e0 => sound_ss fx F.body _ _ ok G _ _ (good_def Z hI dI hr hg clo hn hx)⟩
    refine ⟨st.1, st.2, acts_step (kk := 2 * d + 4) fun k I hI => ?_⟩
    obtain ⟨e1, e2⟩ := Z.lamE k I hI
    obtain ⟨F, f1, S, B, f2, f3, f4, f5, ok⟩ := okLam_ok e1
    exact ⟨F, f1, S, B, e2, f2, f3, f4, f5, fun G A outer s H E cl a c1 hr hg hn hx e0 => (sound_e fx.bare F.body _ _ ok G _ _ (good_lam S hr hg hn hx)).e⟩
end
end MS

set_option Elab.async false
set_option linter.all false
set_option maxRecDepth 100000
set_option maxHeartbeats 4000000
/-! TF: the end of a law: the script, the tables of code objects -/
namespace MS
open PySem PySem.Spec PyProof.Rows L2
open Mini (Val Res)
def tabO : PySem.Obj := { cls := .none, data := .fields #[] }
def lstO (vs : List Value) : PySem.Obj := { cls := .type "list", data := .seq vs.toArray }
section
variable {P : Program} {w : World} {K : PySem.W.Frag} {mg mb : Str → Option Value} {fa a : Addr} {cs : List (Addr × Addr)} {s1 : Shared} {vs : List Value} {ns : List Int}
open Classical in
/-- what is tracked at the law's entry: the script, if it is none of K's; the tables -/
noncomputable def hp0 (K : PySem.W.Frag) (cs : List (Addr × Addr)) (a : Addr) (vs : List Value) (ns : List Int) : Hp := fun b =>
  if b = a ∧ K.lookup a = none then some (.frz (lstO vs) (.lst (ns.map V.int))) else if ∃ p ∈ cs, p.2 = b then some (.tbl #[]) else none
theorem hp0_of {b : Addr} {u : HO} (h : hp0 K cs a vs ns b = some u) : (b = a ∧ K.lookup a = none ∧ u = .frz (lstO vs) (.lst (ns.map V.int))) ∨ ((∃ p ∈ cs, p.2 = b) ∧ u = .tbl #[]) := by
  unfold hp0 at h
  split at h
  · rename_i q
    exact .inl ⟨q.1, q.2, (Option.some.inj h).symm⟩
  · split at h
    · rename_i q
      exact .inr ⟨q, (Option.some.inj h).symm⟩
    · cases h
theorem law_end (KX : K.In s1.heap) (hns : s1.heap.Ns mainGlobals mg) (hb : s1.heap.Ns builtinsNs mb) (hbb : ∀ x : Str, x ≠ "__name__" → mb x = bootBuiltins x) (hlim : s1.heap.NoLimit) (hg : s1.gens = #[])
    (hT : ∀ p ∈ cs, s1.heap.get? p.2 = some tabO) (nT : ∀ p ∈ cs, K.lookup p.2 = none) (hC : ∀ p ∈ cs, PySem.W.CodeHd s1.heap p.1 p.2)
    (hbm : ∃ (bm : Addr) (ob : PySem.Obj), mg "__builtins__" = some (.ref bm) ∧ bm ≠ builtinsNs ∧ s1.heap.get? bm = some ob ∧ ob.cls = .type "module" ∧ ob.dict = some builtinsNs ∧ ob.data = .plain)
    (ha : s1.heap.get? a = some (lstO vs)) (hi : IntsAre vs ns) (hl : ns.length ≤ sizeLine)
    (run : ∀ (base : PySem.Heap) (H : Hp), K.In base → base.Ns mainGlobals mg → (∀ p ∈ cs, LamX.TabB base mg p.1 p.2) → Env0 P w K mg base callerA [] s1 H → (∀ p ∈ cs, H p.2 = some (.tbl #[])) → ScR K H a (ns.map V.int) →
      codeAny (model P w) callerA (.call (.ref fa) ⟨[.ref a], []⟩) (CR (L2.CX P w) [] P w H s1 (fun v _ => v = .bl true) fun _ _ _ => False) s1) :
    codeAny (model P w) callerA (.call (.ref fa) ⟨[.ref a], []⟩) (fun r s' => r = .ok (.ret (.bool true)) ∧ OldK s1.heap s'.heap ∧ s'.os = s1.os ∧ AllBare s'.gens) s1 := by
  have rv := vals_ints hi
  have isT : ∀ b, (∃ p ∈ cs, p.2 = b) → s1.heap.get? b = some tabO := fun b ⟨p, hp, e⟩ => e ▸ hT p hp
  have aT : ¬ ∃ p ∈ cs, p.2 = a := fun z => by
    have q := isT a z
    rw [ha] at q
    cases q
  obtain ⟨H, hH⟩ : ∃ H, H = hp0 K cs a vs ns := ⟨_, rfl⟩
  have of_ : ∀ b u, H b = some u → (b = a ∧ K.lookup a = none ∧ u = .frz (lstO vs) (.lst (ns.map V.int))) ∨ ((∃ p ∈ cs, p.2 = b) ∧ u = .tbl #[]) := fun b u e => hp0_of (hH ▸ e)
  have hTab : ∀ p ∈ cs, H p.2 = some (.tbl #[]) := fun p hp => by
    rw [hH]
    unfold hp0
    rw [if_neg (fun z => aT ⟨p, hp, z.1⟩), if_pos ⟨p, hp, rfl⟩]
  have hScr : ScR K H a (ns.map V.int) := by
    cases e : K.lookup a with
    | none =>
      refine .inl ⟨lstO vs, ?_⟩
      rw [hH]
      unfold hp0
      rw [if_pos ⟨rfl, e⟩]
    | some o =>
      have q := KX a o e
      rw [ha] at q
      cases q
      exact .inr ⟨_, vs.toArray, _, e, rfl, rfl, rfl, by rw [List.size_toArray, hi.length]; exact hl, by simpa using rv⟩
  -- what is neither the script nor a table is not tracked
  have free : ∀ b o, s1.heap.get? b = some o → (∀ u n, o.data ≠ .seq u n) → o.data ≠ .fields #[] → H b = none := fun b o e h1 h2 => by
    cases q : H b with
    | none => rfl
    | some u =>
      rcases of_ b u q with ⟨rfl, _, _⟩ | ⟨t, _⟩
      · rw [ha] at e; cases e; exact absurd rfl (h1 _ _)
      · rw [isT b t] at e; cases e; exact absurd rfl h2
  have freeK : ∀ b o, K.lookup b = some o → H b = none := fun b o e => by
    cases q : H b with
    | none => rfl
    | some u =>
      rcases of_ b u q with ⟨rfl, z, _⟩ | ⟨⟨p, hp, rfl⟩, _⟩
      · rw [z] at e; cases e
      · rw [nT p hp] at e; cases e
  have freeD : ∀ b o es ep, s1.heap.get? b = some o → o.data = .dict es ep → H b = none := fun b o es ep e d => free b o e (fun u n z => by rw [d] at z; cases z) fun z => by rw [d] at z; cases z
  have low : ∀ b o, s1.heap.get? b = some o → H b = none → (hidT s1.heap H).get? b = some o := fun b o => hidT_get
  have lowN : ∀ b m, s1.heap.Ns b m → (hidT s1.heap H).Ns b m := fun b m ⟨o, es, ep, e, d, r⟩ => ⟨o, es, ep, low b o e (freeD b o es ep e d), d, r⟩
  have kB : K.In (hidT s1.heap H) := fun b o e => low b o (KX b o e) (freeK b o e)
  have tB : ∀ p ∈ cs, LamX.TabB (hidT s1.heap H) mg p.1 p.2 := fun p hp => by
    refine ⟨?_, ?_, fun z => ?_⟩
    · obtain ⟨o, us, file, tf, flags, tg, inF, text, tt, e1, r1, r2, r3, rest⟩ := hC p hp
      exact ⟨o, us, file, tf, flags, tg, inF, text, tt, low _ o e1 (free _ o e1 (fun u n z => by rw [r2] at z; cases z) fun z => by rw [r2] at z; cases z; simp at r3), r1, r2, r3, rest⟩
    · obtain ⟨bm, ob, b1, b2, b3, b4, b5, b6⟩ := hbm
      refine ⟨bm, ob, b1, b2, fun q => ?_, fun q => ?_, low _ ob b3 (free _ ob b3 (fun u n z => by rw [b6] at z; cases z) fun z => by rw [b6] at z; cases z), b4, b5, b6⟩
      · obtain ⟨o, es, ep, e, hd, _⟩ := hns
        rw [q, e] at b3; cases b3
        rw [hd] at b6; cases b6
      · rw [q, hT p hp] at b3; cases b3; cases b6
    · obtain ⟨o, es, ep, e, hd, _⟩ := hns
      rw [z, hT p hp] at e; cases e; cases hd
  have hok : HOk P w H s1.heap := fun b u e => by
    rcases of_ b u e with ⟨rfl, _, rfl⟩ | ⟨t, rfl⟩
    · exact ⟨ha, by rw [List.length_map]; exact hl, vs, _, rv, ha⟩
    · exact isT b t
  have md : L2.Mod K mg (hidT s1.heap H) := ⟨kB, lowN _ _ hns, ⟨mb, lowN _ _ hb, hbb⟩, by obtain ⟨mc, h1, h2⟩ := hlim; exact ⟨mc, lowN _ _ h1, h2⟩⟩
  have noF : ∀ b ∈ frs ([] : List PySem.Env), H b = none := fun b z => nomatch (show b ∈ ([] : List Addr) from z)
  have e0 : Env0 P w K mg (hidT s1.heap H) callerA [] s1 H := { frames := rfl, mod := md, bs := fun b o e => of_hidT e, bsz := Nat.le_of_eq (hidT_size _ _), funs := trivial, frf := noF, hok := hok, bare := .of_eq hg }
  refine codeAny_mono (run _ H kB (lowN _ _ hns) tB e0 hTab hScr) fun r s' h => ?_
  cases r with
  | error e =>
    obtain ⟨_, _, _, _, _, _, _, _, _, _, _, _, z⟩ := h
    exact z.elim
  | ok fl =>
    cases fl with
    | next => exact h.elim
    | brk => exact h.elim
    | cont => exact h.elim
    | ret u =>
      obtain ⟨v, H', os, bare, un, hok', r', q⟩ := h
      obtain rfl : v = .bl true := q
      obtain rfl : u = Value.bool true := r'
      have nx : ∀ b : Addr, b ∉ frs ([] : List PySem.Env) := fun b z => nomatch (show b ∈ ([] : List Addr) from z)
      have old : ∀ b o, (¬ ∃ p ∈ cs, p.2 = b) → s1.heap.get? b = some o → s'.heap.get? b = some o := fun b o nb e => by
        cases q : H b with
        | none => exact un.keep b o e q (nx b) (by simp)
        | some u =>
          rcases of_ b u q with ⟨_, _, rfl⟩ | ⟨t, _⟩
          · have z2 := un.frzs b _ _ q
            obtain ⟨e1, _⟩ := hok b _ q
            obtain ⟨e2, _⟩ := hok' b _ z2
            rw [e] at e1; cases e1
            exact e2
          · exact absurd t nb
      have grown : ∀ p ∈ cs, ∃ more : Array Value, s'.heap.get? p.2 = some { cls := .none, data := .fields more } := fun p hp => by
        obtain ⟨more, z⟩ := un.tbls p.2 #[] (hTab p hp)
        exact ⟨_, hok' p.2 _ z⟩
      refine ⟨rfl, ⟨fun b o e => ?_, fun b o e => ?_⟩, os, bare⟩
      · by_cases t : ∃ p ∈ cs, p.2 = b
        · obtain ⟨p, hp, rfl⟩ := t
          obtain ⟨more, hm⟩ := grown p hp
          rw [hT p hp] at e
          cases e
          refine .inr (.inl ⟨((hC p hp).tab (hT p hp)).isCodeTable, rfl, #[], more, rfl, ?_⟩)
          rw [Array.empty_append]; exact hm
        · exact .inl (old b o t e)
      · by_cases t : ∃ p ∈ cs, p.2 = b
        · obtain ⟨p, hp, rfl⟩ := t
          obtain ⟨more, hm⟩ := grown p hp
          exact ⟨_, hm⟩
        · exact ⟨o, old b o t e⟩
end
end MS

set_option Elab.async false
set_option linter.all false
set_option maxRecDepth 100000
set_option maxHeartbeats 4000000
/-! TG: what the head tells by names; the link of a law from it -/
namespace MS
open PySem PySem.Spec PyProof.Rows L2
open Mini (Val Res)
def AllL {α : Type} (Φ : α → Prop) : List α → Prop
  | [] => True
  | a :: r => Φ a ∧ AllL Φ r
theorem AllL.at {α : Type} {Φ : α → Prop} : ∀ {l : List α}, AllL Φ l → ∀ a ∈ l, Φ a
  | [], _, _, h => by cases h
  | b :: r, h, a, m => by
    rcases List.mem_cons.mp m with rfl | m
    · exact h.1
    · exact AllL.at h.2 a m
/-! ### what is said of a law's text -/
/-- a def of the top -/
structure DE where
  x : String
  st : Stmt
  N : List Str
  ps : List Str
  lam : Bool
  /-- a method: its class, its name -/
  m : Option (String × String)
def DE.at_ (e : DE) : He.Defn := match e.m with
  | none => (nm e.x, none)
  | some q => (nm q.1, some (nm q.2))
def DE.nmS (e : DE) : Str := match e.m with
  | none => nm e.x
  | some q => nm q.2
def DE.d (e : DE) : He.DefD := ⟨e.at_, e.nmS, nm e.x, defArgs e.st, defBody e.st, defScope e.st, [], []⟩
/-- a class with instances: its attributes, its methods -/
structure OC where
  c : String
  flds : List String
  ms : List String
def OC.fa (o : OC) : List He.Fa := .glo (nm o.c) :: .cls (nm o.c) :: .mkr (nm o.c) :: (o.flds.map (fun f => .noat (nm o.c) (nm f)) ++ o.ms.map fun m => .meth (nm o.c) (nm m))
def lamQ (x : String) : Str := nm x ++ ".<locals>." ++ "<lambda>"
inductive Bk where
  | val
  | ovf
  | lkp
def Bk.B : Bk → String
  | .val => "ValueError"
  | .ovf => "OverflowError"
  | .lkp => "LookupError"
def Bk.new : Bk → String
  | .val => "ValueError.__new__"
  | .ovf => "OverflowError.__new__"
  | .lkp => "LookupError.__new__"
def Bk.ini : Bk → String
  | .val => "ValueError.__init__"
  | .ovf => "OverflowError.__init__"
  | .lkp => "LookupError.__init__"
def Bk.bm : Bk → List Value
  | .val => [.type "ValueError", .type "Exception", .type "BaseException", .type "object"]
  | .ovf => [.type "OverflowError", .type "ArithmeticError", .type "Exception", .type "BaseException", .type "object"]
  | .lkp => [.type "LookupError", .type "Exception", .type "BaseException", .type "object"]
theorem Bk.fb : ∀ b : Bk, ExcBaseFacts b.B b.new b.ini b.bm
  | .val => PySem.F.excBase_ValueError
  | .ovf => PySem.F.excBase_OverflowError
  | .lkp => PySem.F.excBase_LookupError
theorem Bk.kx : ∀ b : Bk, PySem.W.KxsFacts b.B b.ini
  | .val => PySem.W.kxs_ValueError
  | .ovf => PySem.W.kxs_OverflowError
  | .lkp => PySem.W.kxs_LookupError
theorem Bk.sf : ∀ b : Bk, StoreFacts b.B b.bm "object.__setattr__" "object"
  | .val => PySem.F.store_ValueError
  | .ovf => PySem.F.store_OverflowError
  | .lkp => PySem.F.store_LookupError
/-- an exception class with an __init__ of its own -/
structure XC where
  c : String
  st : Stmt
  f : String
  b : Bk
abbrev FnI : Type := Option (Str × Str × Arguments × FuncBody × Scope × Addr × List Str × Addr)
def XC.q (e : XC) : Str := nm e.c ++ ".__init__"
def XC.val (e : XC) : FnI := some ("__init__", e.q, defArgs e.st, .stmts (defBody e.st), defScope e.st, mainGlobals, [("__class__" : Str)], builtinsNs)
def iniA (K : PySem.W.Frag) (c : String) : Addr := He.ma K (He.ga K (nm c)) "__init__"
def iniW (K : PySem.W.Frag) (e : XC) : FnI := match K.lookup (iniA K e.c) with
  | some ⟨_, _, .func fd, _⟩ => some (fd.name, fd.qualname, fd.params, fd.body, fd.scope, fd.globals, fd.closure.map (·.1), fd.builtins)
  | _ => none
/-- the shape of its __init__ -/
def iniOf (f : Str) (qual : Str) (params : Arguments) (body : List Stmt) (scope : Scope) (dV kV doc pm ct : Value) (an : Option Addr) (cda cc : Addr) : Option IniD := match body with
  | [.Expr (.Call (.Attribute (.Call (.Name s0 p0) [] [] p1) m p2) [.Constant (.str txt) kk p3, .Name x p4] [] p5) p6, .Assign [.Attribute (.Name sf p7) g p8] (.Name x' p9) pa] =>
    if s0 = ("super" : Str) ∧ m = ("__init__" : Str) ∧ sf = ("self" : Str) ∧ g = f ∧ x' = x ∧ (p2.endLine == p5.line) = true then
      some { qual := qual, params := params, scope := scope, dV := dV, kV := kV, doc := doc, pm := pm, ct := ct, an := an, cda := cda, cc := cc, x := x, txt := txt, kk := kk, p0 := p0, p1 := p1, p2 := p2, p3 := p3, p4 := p4, p5 := p5, p6 := p6, p7 := p7, p8 := p8, p9 := p9, pa := pa }
    else none
  | _ => none
theorem iniOf_ok {f qual : Str} {params : Arguments} {body : List Stmt} {scope : Scope} {dV kV doc pm ct : Value} {an : Option Addr} {cda cc : Addr} {D : IniD} (h : iniOf f qual params body scope dV kV doc pm ct an cda cc = some D) :
    D.fd f = PySem.W.ksFn "__init__" qual params body scope dV kV doc pm an (.ref cda) ct cc ∧ D.qual = qual ∧ D.params = params ∧ D.scope = scope ∧ D.cda = cda ∧ D.cc = cc ∧ (D.p2.endLine == D.p5.line) = true := by
  unfold iniOf at h
  split at h
  · split at h
    · rename_i q
      obtain ⟨rfl, rfl, rfl, rfl, rfl, hl⟩ := q
      cases h
      exact ⟨rfl, rfl, rfl, rfl, rfl, rfl, hl⟩
    · cases h
  · cases h
def iniX (body : List Stmt) : Str := match body with
  | [.Expr (.Call _ [_, .Name x _] [] _) _, _] => x
  | _ => nm ""
theorem iniOf_x {f qual : Str} {params : Arguments} {body : List Stmt} {scope : Scope} {dV kV doc pm ct : Value} {an : Option Addr} {cda cc : Addr} {D : IniD} (h : iniOf f qual params body scope dV kV doc pm ct an cda cc = some D) : D.x = iniX body := by
  unfold iniOf at h
  split at h
  · split at h
    · cases h
      rfl
    · cases h
  · cases h
theorem iniOf_any {f qual : Str} {params : Arguments} {body : List Stmt} {scope : Scope} {dV kV doc pm ct : Value} {an : Option Addr} {cda cc : Addr} {dV' kV' doc' pm' ct' : Value} {an' : Option Addr} {cda' cc' : Addr} (h : (iniOf f qual params body scope dV kV doc pm ct an cda cc).isSome = true) : ∃ D, iniOf f qual params body scope dV' kV' doc' pm' ct' an' cda' cc' = some D := by
  unfold iniOf at h ⊢
  split at h
  · split at h
    · rename_i q
      rw [if_pos q]
      exact ⟨_, rfl⟩
    · cases h
  · cases h
def headSelf (a : Arguments) : Bool := match (a.posonlyargs ++ a.args).head? with
  | some ar => decide (ar.arg = ("self" : Str))
  | none => false
/-- .. what is decided of its text -/
def XC.ok (e : XC) : Bool := (iniOf (nm e.f) e.q (defArgs e.st) (defBody e.st) (defScope e.st) .none .none .none .none .none none 0 0).isSome && isFn (defScope e.st) && !(defScope e.st).isCoroutine && !(defScope e.st).isGenerator && (defScope e.st).names.all (fun y => decide (y.2 ≠ .cell)) &&
  decide ((defScope e.st).names.lookup ("self" : Str) = some .local) && decide ((defScope e.st).names.lookup (iniX (defBody e.st)) = some .local) && decide ((defScope e.st).names.lookup ("super" : Str) = some .globalImplicit) && decide ((defScope e.st).names.lookup ("__class__" : Str) = some .free) &&
  headSelf (defArgs e.st) && decide (iniX (defBody e.st) ≠ ("self" : Str)) && !(iniX (defBody e.st) == ("__debug__" : Str)) && !(nm e.c == ("__debug__" : Str))
def XC.bind (e : XC) : Prop := ∀ (kV doc pm : Value) (an : Option Addr) (cdv ct : Value) (cc : Addr) (a b : Value), bindArgs (PySem.W.ksFn "__init__" e.q (defArgs e.st) (defBody e.st) (defScope e.st) .none kV doc pm an cdv ct cc) ⟨[a, b], []⟩ = pure [(("self" : Str), a), (iniX (defBody e.st), b)]
def dfNone : Value → Bool
  | .none => true
  | _ => false
def fileB (K : PySem.W.Frag) (file : Str) (cd : Value) : Bool := match cd with
  | .ref a => (match K.lookup a with
    | some ⟨_, _, .fields vs, _⟩ => (match vs[2]? with
      | some (Value.str fl _) => file == fl
      | _ => false)
    | _ => false)
  | _ => false
def cellB (K : PySem.W.Frag) (C : Addr) (cl : List (Str × Addr)) : Bool := match cl with
  | [(_, cc)] => (match K.lookup cc with
    | some ⟨_, _, .cell (some (.ref C')), _⟩ => decide (C' = C)
    | _ => false)
  | _ => false
def fdB (K : PySem.W.Frag) (file q : Str) (C a : Addr) : Bool := match K.lookup a with
  | some ⟨_, _, .func fd, _⟩ => PySem.W.codeIn K fd.code q && dfNone fd.defaults && fileB K file fd.code && cellB K C fd.closure
  | _ => false
/-- .. and of the heap -/
def ownB (K : PySem.W.Frag) (file : Str) (e : XC) : Bool := PySem.W.excInitIn K (He.ga K (nm e.c)) e.b.bm e.b.new && PySem.W.excOver K (He.ga K (nm e.c)) e.b.bm && decide (PySem.W.findIn K (.ref (He.ga K (nm e.c))) "__init__" = some (some (.ref (iniA K e.c)))) &&
  decide (PySem.W.typeIn K (.ref (iniA K e.c)) = some (.type "function")) && fdB K file e.q (He.ga K (nm e.c)) (iniA K e.c) && decide (PySem.W.nsIn K PySem.cStatics "thirdparty.any" = some none) && decide (PySem.W.mroIn K (He.ga K (nm e.c)) (.ref (He.ga K (nm e.c))) = some true) &&
  decide (PySem.W.ks_superIn K (He.ga K (nm e.c)) (He.ga K (nm e.c)) "__init__" = some (some (.builtin e.b.ini))) && decide (PySem.W.subIn K (.ref (He.ga K (nm e.c))) (.type e.b.B) = some true) && decide (PySem.W.findIn K (.ref (He.ga K (nm e.c))) "__setattr__" = some (some (.builtin "object.__setattr__"))) &&
  decide (PySem.W.takerIn K (He.ga K (nm e.c)) (nm e.f) = some none) && PySem.W.hasDictIn K (He.ga K (nm e.c)) && decide (PySem.W.subIn K (.ref (He.ga K (nm e.c))) (.type "BaseException") = some true) && decide (PySem.W.typeIn K (.ref (He.ga K (nm e.c))) = some (.type "type")) && PySem.W.keepIn K (.ref (He.ga K (nm e.c)))
theorem own_of {prog : Program} {K : PySem.W.Frag} {mg : Str → Option Value} {e : XC} (h1 : e.ok = true) (h2 : e.bind) (h3 : ownB K prog.main.file e = true) (h4 : iniW K e = e.val) (hm : mg "super" = none) (hp : (prog.main.scope.names.lookup ("super" : Str)).isSome = false) :
    ∃ D, OwnX prog K mg (He.ga K (nm e.c)) (nm e.f) e.b.B e.b.new e.b.ini e.b.bm (iniA K e.c) D := by
  unfold XC.ok at h1
  simp only [Bool.and_eq_true, decide_eq_true_eq, Bool.not_eq_true', List.all_eq_true] at h1
  obtain ⟨⟨⟨⟨⟨⟨⟨⟨⟨⟨⟨⟨a1, a2⟩, a3⟩, a4⟩, a5⟩, a6⟩, a7⟩, a8⟩, a9⟩, a10⟩, a11⟩, a12⟩, a13⟩ := h1
  unfold ownB at h3
  simp only [Bool.and_eq_true, decide_eq_true_eq] at h3
  obtain ⟨⟨⟨⟨⟨⟨⟨⟨⟨⟨⟨⟨⟨⟨b1, b2⟩, b3⟩, b4⟩, b5⟩, b6⟩, b7⟩, b8⟩, b9⟩, b10⟩, b11⟩, b12⟩, b13⟩, b14⟩, b15⟩ := h3
  unfold fdB at b5
  unfold iniW at h4
  cases q : K.lookup (iniA K e.c) with
  | none => rw [q] at b5; cases b5
  | some o =>
    obtain ⟨oc, od, dt, osl⟩ := o
    rw [q] at b5 h4
    cases dt with
    | func fd =>
      obtain ⟨n1, n2, n3, n4, n5, n6, n7, n8, n9, n10, n11, n12, n13, n14, n15⟩ := fd
      have e2 : (some (n1, n2, n3, n4, n5, n6, n7.map (·.1), n15) : FnI) = some (("__init__" : Str), e.q, defArgs e.st, .stmts (defBody e.st), defScope e.st, mainGlobals, [("__class__" : Str)], builtinsNs) := h4
      simp only [Option.some.injEq, Prod.mk.injEq] at e2
      obtain ⟨rfl, rfl, rfl, rfl, rfl, rfl, hcl, rfl⟩ := e2
      have b5' : (PySem.W.codeIn K n13 e.q && dfNone n8 && fileB K prog.main.file n13 && cellB K (He.ga K (nm e.c)) n7) = true := b5
      simp only [Bool.and_eq_true] at b5'
      obtain ⟨⟨⟨c1, c2⟩, c3⟩, c4⟩ := b5'
      obtain rfl : n8 = .none := by
        unfold dfNone at c2
        split at c2
        · rfl
        · cases c2
      obtain ⟨cda, rfl⟩ := He.codeIn_ref c1
      unfold cellB at c4
      split at c4
      · rename_i yy cc
        obtain rfl : yy = ("__class__" : Str) := by simpa using hcl
        obtain ⟨D, hD⟩ := iniOf_any (dV' := .none) (kV' := n9) (doc' := n10) (pm' := n11) (ct' := n14) (an' := n12) (cda' := cda) (cc' := cc) a1
        obtain ⟨d1, d2, d3, d4, d5, d6, d7⟩ := iniOf_ok hD
        have dx := iniOf_x hD
        refine ⟨D, ?_⟩
        refine { fb := e.b.fb, kx := e.b.kx, sf := e.b.sf, new := b1, over := b2, ini := b3, typ := b4, fn := ⟨oc, od, osl, ?_⟩, code := by rw [d5, d2]; exact c1, bind := fun s a b => ?_, cell := by rw [d4]; exact a5, self := by rw [d4]; exact a6, loc := by rw [d4, dx]; exact a7, sup := by rw [d4]; exact a8, free := by rw [d4]; exact a9, co := by rw [d4]; exact a3, gen := by rw [d4]; exact a4, kind := ?_, head := ?_, xs := by rw [dx]; exact a11, xd := by rw [dx]; exact a12, file := ?_, cellC := ?_, mg := hm, main := hp, any := b6, mro := b7, along := b8, sub := b9, sa := b10, tak := b11, hasd := b12, exC := b13, tyC := b14, kC := b15, line := d7 }
        · rw [d1]; exact q
        · rw [d1, dx]
          exact BindsTo.of_eq (h2 _ _ _ _ _ _ _ _ _)
        · rw [d4]
          unfold isFn at a2
          split at a2
          · assumption
          · cases a2
        · rw [d3]
          unfold headSelf at a10
          split at a10
          · rename_i ar har
            exact ⟨ar, har, of_decide_eq_true a10⟩
          · cases a10
        · rw [d5]
          unfold fileB at c3
          dsimp only at c3
          split at c3
          · split at c3
            · exact ⟨_, _, _, _, _, _, by assumption, by assumption, c3⟩
            · cases c3
          · cases c3
        · rw [d6]
          split at c4
          · rename_i u1 u2 C' u3 hq
            obtain rfl : C' = He.ga K (nm e.c) := of_decide_eq_true c4
            exact ⟨_, _, _, hq⟩
          · cases c4
      · cases c4
    | _ => cases b5
end MS

set_option Elab.async false
set_option linter.all false
set_option maxRecDepth 100000
set_option maxHeartbeats 4000000
/-! TH: the head's Hook; from it what is fixed in a law -/
namespace MS
open PySem PySem.Spec PyProof.Rows L2
open Mini (Val Res)
/-- a law's description -/
structure Pk where
  P : Mini.Prog
  prog : Program
  ds : List DE
  xs : List XC
  os : List OC
  clss : List String
  nums : List (String × Int)
  bts : List Str
  hcs : List (List String)
  lamN : String → List Str
  iss : List String := []
def Pk.ev0 (p : Pk) : Ev := { bts := p.bts, cons := p.nums.map (·.1), defs := (p.ds.filter (·.m.isNone)).map (·.x), excs := p.xs.map (·.c), clss := p.clss, flds := p.xs.map (·.f), hcs := p.hcs, owns := p.os.map (·.c), lam := fun _ _ => false, lamN := p.lamN, iss := p.iss }
def Pk.ev (p : Pk) : Ev := { p.ev0 with lam := okLam p.ev0 p.P }
def Pk.tops (p : Pk) : List DE := p.ds.filter (·.m.isNone)
def Pk.fa (p : Pk) : List He.Fa := p.tops.map (fun e => .glo (nm e.x)) ++ (p.clss.map (fun c => .glo (nm c)) ++ (p.bts.map .free ++ (p.nums.map (fun q => .int (nm q.1) q.2) ++ p.os.flatMap OC.fa)))
def Pk.fn (p : Pk) : List He.DefD := p.ds.map DE.d
def Pk.lds (p : Pk) : List DE := p.ds.filter (·.lam)
def Pk.tf (p : Pk) : List He.Defn := p.lds.map fun e => e.at_
def clsB (p : Pk) (K : PySem.W.Frag) (c : String) : Bool := xfB K (He.ga K (nm c)) && (p.xs.all fun e => decide (PySem.W.findIn K (.ref (He.ga K (nm c))) (nm e.f) = some none)) &&
  (p.hcs.all fun cs => decide (PySem.W.exmAny K (.ref (He.ga K (nm c))) (cs.map fun d => .ref (He.ga K (nm d))) = some (Mini.excIs p.P c cs))) &&
  p.iss.all fun e => xiB K (He.ga K (nm c)) && decide (PySem.W.kitOne K (.ref (He.ga K (nm c))) (.ref (He.ga K (nm e))) = some (Mini.excIs p.P c [e]))
def Pk.more (p : Pk) (K : PySem.W.Frag) : Bool := p.xs.all (ownB K p.prog.main.file) && p.clss.all (clsB p K) && decide (p.tf.map fun q => (He.cT K q).2).Nodup
structure SaysM (p : Pk) (h : PySem.Heap) (K : PySem.W.Frag) : Prop where
  d : He.SaysD p.fa p.fn K
  more : p.more K = true
  ini : p.xs.map (iniW K) = p.xs.map XC.val
  hd : ∀ q ∈ p.tf, PySem.W.codeHdIn K (He.cT K q).1 (He.cT K q).2 = true
  out : ∀ q ∈ p.tf, K.lookup (He.cT K q).2 = none
  empty : ∀ q ∈ p.tf, h.get? (He.cT K q).2 = some tabO
abbrev AlM : Type := He.AlD × Bool × List FnI
def asM (g : Addr → Option PySem.Obj) (n : Nat) : List Addr := PySem.cStatics :: He.asD g n
def obsM (n : Nat) (p : Pk) (g : Addr → Option PySem.Obj) : AlM :=
  (He.obsD p.fa p.fn (He.frT g (asM g n)), p.more (He.frT g (asM g n)) && He.tabsB g p.tf (He.frT g (asM g n)), p.xs.map (iniW (He.frT g (asM g n))))
def valM (p : Pk) : AlM := (He.valD p.fn, true, p.xs.map XC.val)
theorem saysM_of {n : Nat} {p : Pk} {h : PySem.Heap} (e : obsM n p h.get? = valM p) : SaysM p h (He.frT h.get? (asM h.get? n)) := by
  have e1 : He.obsD p.fa p.fn (He.frT h.get? (asM h.get? n)) = He.valD p.fn := congrArg (fun z : AlM => z.1) e
  have e2 : (p.more (He.frT h.get? (asM h.get? n)) && He.tabsB h.get? p.tf (He.frT h.get? (asM h.get? n))) = true := congrArg (fun z : AlM => z.2.1) e
  have e3 : p.xs.map (iniW (He.frT h.get? (asM h.get? n))) = p.xs.map XC.val := congrArg (fun z : AlM => z.2.2) e
  obtain ⟨h1, h2⟩ := Bool.and_eq_true_iff.mp e2
  have key : ∀ q ∈ p.tf, PySem.W.codeHdIn (He.frT h.get? (asM h.get? n)) (He.cT (He.frT h.get? (asM h.get? n)) q).1 (He.cT (He.frT h.get? (asM h.get? n)) q).2 = true ∧ ∃ o, h.get? (He.cT (He.frT h.get? (asM h.get? n)) q).2 = some o ∧ He.emptyTab o = true := fun q hq => by
    obtain ⟨h3, h4⟩ := Bool.and_eq_true_iff.mp (List.all_eq_true.mp h2 q hq)
    refine ⟨h3, ?_⟩
    split at h4
    · exact ⟨_, by assumption, h4⟩
    · cases h4
  refine ⟨e1, h1, e3, fun q hq => (key q hq).1, fun q hq => ?_, fun q hq => ?_⟩
  · obtain ⟨_, o, a, b⟩ := key q hq
    exact He.frT_none a b
  · obtain ⟨_, o, a, b⟩ := key q hq
    rw [a, He.emptyTab_eq b]; rfl
def hookM (n : Nat) (p : Pk) : PySem.W.Hook where
  α := AlM
  obs := fun s => obsM n p s.heap.get?
  val := fun _ => valM p
  says := fun _ h => ∃ K : PySem.W.Frag, K.In h ∧ SaysM p h K
  of := fun _ _ e => ⟨_, He.frT_in, saysM_of e⟩
  keeps := fun _ _ _ ⟨K, hK, c⟩ k => ⟨K, PySem.W.Frag.In.keeps hK k, ⟨c.d, c.more, c.ini, c.hd, c.out, fun q hq => k _ _ (c.empty q hq)⟩⟩
theorem obsM_eq {n : Nat} {p : Pk} {g : Addr → Option PySem.Obj} {s : Shared} (h : ∀ a, g a = s.heap.get? a) : obsM n p g = (hookM n p).obs s := by
  have e : g = s.heap.get? := funext h
  rw [e]; rfl
/-! ### what is decided of the text -/
def scopeB (N ps : List Str) (sc : Scope) : Bool := isFn sc && !sc.isCoroutine && !sc.isGenerator && decide N.Nodup && decide (N.take ps.length = ps) && ps.all (fun x => decide (sc.names.lookup x = some .local) || decide (sc.names.lookup x = some .cell)) && sc.names.all fun y => decide (y.2 ≠ .free)
theorem scopeB_ok {N ps : List Str} {sc : Scope} (h : scopeB N ps sc = true) : FnScope N ps sc := by
  unfold scopeB at h
  simp only [Bool.and_eq_true, Bool.or_eq_true, List.all_eq_true, decide_eq_true_eq, Bool.not_eq_true'] at h
  obtain ⟨⟨⟨⟨⟨⟨h1, h2⟩, h3⟩, h4⟩, h5⟩, h6⟩, h7⟩ := h
  unfold isFn at h1
  split at h1
  · rename_i hk
    exact ⟨hk, h2, h3, h4, h5, h6, h7⟩
  · cases h1
structure DEok (P : Mini.Prog) (V : Ev) (e : DE) : Prop where
  F : ∃ F, P.fns.lookup e.x = some F ∧ e.ps.length = F.params ∧ e.N.length = F.slots ∧ ∀ a : Addr, okSs V { N := e.N, sc := defScope e.st, top := true, calm := true, nc := !F.clo, ex := [], q := lamQ e.x, P := if e.lam then some a else none } F.body (defBody e.st) = true
  S : scopeB e.N e.ps (defScope e.st) = true
  bind : ∀ (kV doc pm : Value) (an : Option Addr) (cdv ct : Value) (us : List Value), us.length = e.ps.length → bindArgs (PySem.W.fnOf e.nmS (nm e.x) (defArgs e.st) (defBody e.st) (defScope e.st) .none kV doc pm an cdv ct) ⟨us, []⟩ = pure (e.ps.zip us)
  dbg : (nm e.x == ("__debug__" : Str)) = false
def Pk.ownB (p : Pk) (o : OC) : Bool := !(nm o.c == ("__debug__" : Str)) && p.ds.any (fun e => decide (e.x = o.c ++ ".__init__") && decide (e.m = some (o.c, "__init__"))) && match p.P.cls.lookup o.c with
  | some K' => K'.flds.all (o.flds.contains ·) && K'.meths.all fun q => o.ms.contains q.1 && p.ds.any fun e => decide (e.x = q.2) && decide (e.m = some (o.c, q.1))
  | none => true
def Pk.stB (p : Pk) : Bool := p.xs.all (fun e => e.ok && decide ((p.P.cls.lookup e.c).map (·.field) = some e.f) && p.clss.contains e.c) && p.clss.all (fun c => !(nm c == ("__debug__" : Str))) && p.nums.all (fun q => decide (p.P.cons.lookup q.1 = some (.int q.2)) && !(nm q.1 == ("__debug__" : Str))) &&
  p.hcs.all (fun cs => cs.all fun c => p.clss.contains c) && p.iss.all (fun e => p.clss.contains e) && p.bts.contains (nm "super") && !(p.prog.main.scope.names.lookup ("super" : Str)).isSome && decide (p.ds.map (·.x)).Nodup && p.os.all p.ownB
structure PkOk (p : Pk) : Prop where
  ds : AllL (DEok p.P p.ev) p.ds
  xs : AllL XC.bind p.xs
  st : p.stB = true
/-! ### what is fixed in the law -/
def mkI (K : PySem.W.Frag) (e : DE) : Option DefI := match K.lookup (He.fAd K e.at_) with
  | some ⟨oc, od, .func fd, osl⟩ => some { f := He.fAd K e.at_, oc := oc, od := od, osl := osl, params := defArgs e.st, body := defBody e.st, scope := defScope e.st, dV := fd.defaults, kV := fd.kwdefaults, doc := fd.doc, pm := fd.pyModule, an := fd.annotations, cdv := fd.code, ct := fd.closureTuple, N := e.N, ps := e.ps, nmS := e.nmS, top := e.m.isNone, tbl := if e.lam then some (He.cT K e.at_).2 else none }
  | _ => none
def lamT (p : Pk) (K : PySem.W.Frag) : List (Addr × Str) := p.lds.map fun e => ((He.cT K e.at_).2, lamQ e.x)
def lamsM (p : Pk) (K : PySem.W.Frag) (k : String) (I : LamI) : Prop := okLam p.ev p.P k I = true ∧ (I.P, I.q) ∈ lamT p K
def lkM (p : Pk) (w : World) (K : PySem.W.Frag) (mg : Str → Option Value) (base : PySem.Heap) : Lk where
  P := p.P
  prog := p.prog
  w := w
  K := K
  mg := mg
  base := base
  ca := fun c => if p.clss.contains c then some (He.ga K (nm c)) else none
  co := fun c => if p.os.any (fun o => o.c == c) then some (He.ga K (nm c)) else none
  defs := fun x => (p.ds.find? fun e => e.x == x).bind (mkI K)
  T := lamT p K
  clo := fun k vs s H o a => ∃ I, lamsM p K k I ∧ CloAt I vs s H o a
  lams := lamsM p K
section
variable {p : Pk} {w : World} {K : PySem.W.Frag} {mg : Str → Option Value} {base h : PySem.Heap}
theorem mem_contains {l : List String} {x : String} (h : l.contains x = true) : x ∈ l := by simpa using h
theorem mem_containsS {l : List Str} {x : Str} (h : l.contains x = true) : x ∈ l := by simpa using h
theorem mem_containsL {l : List (List String)} {x : List String} (h : l.contains x = true) : x ∈ l := by simpa using h
/-- one def -/
theorem def_of (S : SaysM p h K) (X : K.In h) (G : h.Ns mainGlobals mg) {e : DE} (he : e ∈ p.ds) (D : DEok p.P p.ev e) : ∃ I, mkI K e = some I ∧ DefOk (lkM p w K mg base) e.x I ∧ ∃ c, I.cdv = .ref c ∧ He.codeOf K e.at_ = c := by
  obtain ⟨fd, F⟩ := S.d.defs (d := e.d) (List.mem_map.mpr ⟨e, he, rfl⟩)
  obtain ⟨oc, od, dV, kV, doc, pm, an, cdv, ct, osl, rfl, lk, hcd, hD, hK⟩ := F.ex
  obtain rfl : dV = .none := by
    rcases hD with ⟨_, z⟩ | ⟨z, _⟩
    · exact z
    · exact absurd rfl z
  have lk' : K.lookup (He.fAd K e.at_) = some ⟨oc, od, .func (PySem.W.fnOf e.nmS (nm e.x) (defArgs e.st) (defBody e.st) (defScope e.st) .none kV doc pm an cdv ct), osl⟩ := lk
  obtain ⟨c, rfl⟩ := He.codeIn_ref hcd
  refine ⟨{ f := He.fAd K e.at_, oc := oc, od := od, osl := osl, params := defArgs e.st, body := defBody e.st, scope := defScope e.st, dV := .none, kV := kV, doc := doc, pm := pm, an := an, cdv := .ref c, ct := ct, N := e.N, ps := e.ps, nmS := e.nmS, top := e.m.isNone, tbl := if e.lam then some (He.cT K e.at_).2 else none }, ?_, ?_, c, rfl, He.codeOf_eq lk rfl⟩
  · unfold mkI
    rw [lk']
  · refine ⟨lk', hcd, scopeB_ok D.S, F.kp, L2.Binds.all fun us hl => D.bind _ _ _ _ _ _ us hl, fun ht => ?_, D.dbg⟩
    have ht : e.m.isNone = true := ht
    have gl := He.glo_ok X G (S.d.facts (f := .glo (nm e.x)) (List.mem_append_left _ (List.mem_map.mpr ⟨e, List.mem_filter.mpr ⟨he, ht⟩, rfl⟩)))
    have ea : e.at_ = (nm e.x, none) := by
      unfold DE.at_
      cases q : e.m with
      | none => rfl
      | some z => rw [q] at ht; cases ht
    show mg (nm e.x) = some (.ref (He.fAd K e.at_))
    rw [ea]
    exact gl
theorem def_at (S : SaysM p h K) (X : K.In h) (G : h.Ns mainGlobals mg) (O : PkOk p) {x : String} {I : DefI} (hI : (lkM p w K mg base).defs x = some I) : ∃ e ∈ p.ds, e.x = x ∧ mkI K e = some I ∧ DefOk (lkM p w K mg base) x I ∧ DEok p.P p.ev e ∧ ∃ c, I.cdv = .ref c ∧ He.codeOf K e.at_ = c := by
  have hI : (p.ds.find? fun e => e.x == x).bind (mkI K) = some I := hI
  obtain ⟨e, e1, e2⟩ := Option.bind_eq_some_iff.mp hI
  have he := List.mem_of_find?_eq_some e1
  have hx : e.x = x := by simpa using List.find?_some e1
  obtain ⟨I', i1, i2, i3⟩ := def_of (w := w) (base := base) S X G he (O.ds.at e he)
  rw [e2] at i1
  cases i1
  subst hx
  exact ⟨e, he, rfl, e2, i2, O.ds.at e he, i3⟩
theorem mkI_at {e : DE} {I : DefI} (h : mkI K e = some I) : I.body = defBody e.st ∧ I.scope = defScope e.st ∧ I.N = e.N ∧ I.ps = e.ps ∧ I.tbl = if e.lam then some (He.cT K e.at_).2 else none := by
  unfold mkI at h
  split at h
  · cases h
    exact ⟨rfl, rfl, rfl, rfl, rfl⟩
  · cases h
theorem ca_at {c : String} {a : Addr} (h : (lkM p w K mg base).ca c = some a) : c ∈ p.clss ∧ a = He.ga K (nm c) := by
  have h : (if p.clss.contains c then some (He.ga K (nm c)) else none) = some a := h
  split at h
  · rename_i z
    exact ⟨mem_contains z, (Option.some.inj h).symm⟩
  · cases h
theorem ca_of {c : String} (h : c ∈ p.clss) : (lkM p w K mg base).ca c = some (He.ga K (nm c)) := if_pos (by simpa using h)
theorem cls_fact (S : SaysM p h K) (X : K.In h) (G : h.Ns mainGlobals mg) {c : String} (hc : c ∈ p.clss) : mg (nm c) = some (.ref (He.ga K (nm c))) :=
  He.glo_ok X G (S.d.facts (f := .glo (nm c)) (List.mem_append_right _ (List.mem_append_left _ (List.mem_map.mpr ⟨c, hc, rfl⟩))))
theorem free_fact (S : SaysM p h K) (X : K.In h) (G : h.Ns mainGlobals mg) {x : Str} (hx : x ∈ p.bts) : mg x = none :=
  He.free_ok X G (S.d.facts (f := .free x) (List.mem_append_right _ (List.mem_append_right _ (List.mem_append_left _ (List.mem_map.mpr ⟨x, hx, rfl⟩)))))
theorem int_fact (S : SaysM p h K) (X : K.In h) (G : h.Ns mainGlobals mg) {q : String × Int} (hq : q ∈ p.nums) : ∃ t, mg (nm q.1) = some (.int q.2 t) :=
  He.int_ok X G (S.d.facts (f := .int (nm q.1) q.2) (List.mem_append_right _ (List.mem_append_right _ (List.mem_append_right _ (List.mem_append_left _ (List.mem_map.mpr ⟨q, hq, rfl⟩))))))
theorem own_fact (S : SaysM p h K) {o : OC} (ho : o ∈ p.os) {f : He.Fa} (hf : f ∈ o.fa) : f.ok K = true := S.d.facts (List.mem_append_right _ (List.mem_append_right _ (List.mem_append_right _ (List.mem_append_right _ (List.mem_flatMap.mpr ⟨o, ho, hf⟩)))))
theorem co_at {c : String} {a : Addr} (h : (lkM p w K mg base).co c = some a) : ∃ o ∈ p.os, o.c = c ∧ a = He.ga K (nm c) := by
  have h : (if p.os.any (fun o => o.c == c) then some (He.ga K (nm c)) else none) = some a := h
  split at h
  · rename_i z
    obtain ⟨o, ho, e⟩ := List.any_eq_true.mp z
    exact ⟨o, ho, by simpa using e, (Option.some.inj h).symm⟩
  · cases h
theorem lookup_mem : ∀ {l : List (String × String)} {m x : String}, l.lookup m = some x → (m, x) ∈ l
  | [], _, _, h => by cases h
  | (a, b) :: r, m, x, h => by
    by_cases z : m = a
    · subst z
      rw [List.lookup_cons, beq_self_eq_true] at h
      cases h
      exact List.mem_cons_self
    · rw [List.lookup_cons, beq_eq_false_iff_ne.mpr z] at h
      exact List.mem_cons_of_mem _ (lookup_mem h)
theorem nodup_at {e e' : DE} (q : e.x = e'.x) : ∀ {l : List DE}, (l.map (·.x)).Nodup → e ∈ l → e' ∈ l → e = e'
  | [], _, h, _ => by cases h
  | a :: r, nd, h, h' => by
    rw [List.map_cons, List.nodup_cons] at nd
    rcases List.mem_cons.mp h with h1 | h1
    · rcases List.mem_cons.mp h' with h2 | h2
      · rw [h1, h2]
      · exact absurd (show a.x ∈ r.map (·.x) from List.mem_map.mpr ⟨e', h2, by rw [← q, h1]⟩) nd.1
    · rcases List.mem_cons.mp h' with h2 | h2
      · exact absurd (show a.x ∈ r.map (·.x) from List.mem_map.mpr ⟨e, h1, by rw [q, h2]⟩) nd.1
      · exact nodup_at q nd.2 h1 h2
/-- a class's own def -/
theorem meth_of (O : PkOk p) (S : SaysM p h K) (X : K.In h) (G : h.Ns mainGlobals mg) (nd : (p.ds.map (·.x)).Nodup) {e : DE} (he : e ∈ p.ds) {c m : String} (hm : e.m = some (c, m)) : ∃ I, (lkM p w K mg base).defs e.x = some I ∧ DefOk (lkM p w K mg base) e.x I ∧ I.f = He.ma K (He.ga K (nm c)) (nm m) := by
  obtain ⟨I, i1, i2, _⟩ := def_of (w := w) (base := base) S X G he (O.ds.at e he)
  refine ⟨I, ?_, i2, ?_⟩
  · show (p.ds.find? fun e' => e'.x == e.x).bind (mkI K) = some I
    cases z : p.ds.find? fun e' => e'.x == e.x with
    | none =>
      have := List.find?_eq_none.mp z e he
      simp at this
    | some e' =>
      have h1 := List.mem_of_find?_eq_some z
      have h2 : e'.x = e.x := by simpa using List.find?_some z
      rw [nodup_at h2 nd h1 he]
      exact i1
  · unfold mkI at i1
    split at i1
    · cases i1
      show He.fAd K e.at_ = _
      unfold DE.at_
      rw [hm]; rfl
    · cases i1
theorem fz_of (O : PkOk p) (S : SaysM p h K) (X : K.In h) (G : h.Ns mainGlobals mg) (TB : ∀ q ∈ p.tf, LamX.TabB base mg (He.cT K q).1 (He.cT K q).2) : Fz (lkM p w K mg base) p.ev := by
  have st := O.st
  unfold Pk.stB at st
  simp only [Bool.and_eq_true, List.all_eq_true, decide_eq_true_eq, Bool.not_eq_true'] at st
  obtain ⟨⟨⟨⟨⟨⟨⟨⟨s1, s2⟩, s3⟩, s4⟩, s9⟩, s5⟩, s6⟩, s7⟩, s8⟩ := st
  have mo := S.more
  unfold Pk.more at mo
  simp only [Bool.and_eq_true, List.all_eq_true, decide_eq_true_eq] at mo
  obtain ⟨⟨m1, m2⟩, m3⟩ := mo
  have cl : ∀ c ∈ p.clss, XfC K (He.ga K (nm c)) ∧ (∀ e ∈ p.xs, PySem.W.findIn K (.ref (He.ga K (nm c))) (nm e.f) = some none) ∧ (∀ cs ∈ p.hcs, PySem.W.exmAny K (.ref (He.ga K (nm c))) (cs.map fun d => .ref (He.ga K (nm d))) = some (Mini.excIs p.P c cs)) ∧ ∀ e ∈ p.iss, XiC K (He.ga K (nm c)) ∧ PySem.W.kitOne K (.ref (He.ga K (nm c))) (.ref (He.ga K (nm e))) = some (Mini.excIs p.P c [e]) := fun c hc => by
    have z := m2 c hc
    unfold clsB at z
    simp only [Bool.and_eq_true, List.all_eq_true, decide_eq_true_eq] at z
    exact ⟨xfB_ok z.1.1.1, z.1.1.2, z.1.2, fun e he => ⟨xiB_ok (z.2 e he).1, (z.2 e he).2⟩⟩
  refine { bts := fun x hx => free_fact S X G (mem_containsS hx), cons := fun c hc => ?_, defs := fun f hf => ?_, own := ⟨fun c f hf C0 hC => ?_, fun c m x K' e1 e2 C0 hC => ?_⟩, mks := fun c hc => ?_, excs := fun c hc => ?_, clss := fun c hc => ?_, hcs := fun cs hcs c C0 hC => ?_, xf := fun c C0 hC => ?_, xis := fun e he => ?_, tab := fun x I hI => ?_, tbl := fun x I hI P hP => ?_, lo := fun k vs s H o a => Iff.rfl, lam := fun k I z ht => ⟨z, ht⟩, lamE := fun k I z => z }
  · obtain ⟨q, hq, rfl⟩ := List.mem_map.mp (mem_contains hc)
    obtain ⟨t, ht⟩ := int_fact S X G hq
    obtain ⟨z1, z2⟩ := s3 q hq
    exact ⟨.int q.2, _, .int q.2, z1, ht, ⟨t, rfl⟩, fun _ _ _ _ => .int _, z2⟩
  · obtain ⟨e, he', rfl⟩ := List.mem_map.mp (mem_contains hf)
    obtain ⟨he, ht⟩ := List.mem_filter.mp he'
    obtain ⟨I, i1, i2, _⟩ := def_of (w := w) (base := base) S X G he (O.ds.at e he)
    refine ⟨I, ?_, i2, ?_⟩
    · show (p.ds.find? fun e' => e'.x == e.x).bind (mkI K) = some I
      cases z : p.ds.find? fun e' => e'.x == e.x with
      | none =>
        have := List.find?_eq_none.mp z e he
        simp at this
      | some e' =>
        have h1 := List.mem_of_find?_eq_some z
        have h2 : e'.x = e.x := by simpa using List.find?_some z
        rw [nodup_at h2 s7 h1 he]
        exact i1
    · unfold mkI at i1
      split at i1
      · cases i1
        exact ht
      · cases i1
  · obtain ⟨o, ho, rfl, rfl⟩ := co_at hC
    refine ⟨He.cls_ok (own_fact S ho (by simp [OC.fa])), He.noat_ok (own_fact S ho ?_)⟩
    have ob := s8 o ho
    unfold Pk.ownB at ob
    have hf : Mini.ownF p.P o.c f = true := hf
    unfold Mini.ownF at hf
    cases q : p.P.cls.lookup o.c with
    | none => rw [q] at hf; cases hf
    | some K' =>
      rw [q] at ob hf
      simp only [Bool.and_eq_true, List.all_eq_true] at ob
      have z := ob.2.1 f (mem_contains hf)
      refine List.mem_cons_of_mem _ (List.mem_cons_of_mem _ (List.mem_cons_of_mem _ (List.mem_append_left _ (List.mem_map.mpr ⟨f, mem_contains z, rfl⟩))))
  · obtain ⟨o, ho, rfl, rfl⟩ := co_at hC
    have ob := s8 o ho
    unfold Pk.ownB at ob
    have e1 : p.P.cls.lookup o.c = some K' := e1
    rw [e1] at ob
    simp only [Bool.and_eq_true, List.all_eq_true] at ob
    have z := ob.2.2 (m, x) (lookup_mem e2)
    simp only [List.any_eq_true, Bool.and_eq_true, decide_eq_true_eq] at z
    obtain ⟨z1, e, he, rfl, hm⟩ := z
    obtain ⟨I, i1, i2, i3⟩ := meth_of (w := w) (base := base) O S X G s7 he hm
    refine ⟨I, i1, i2, He.cls_ok (own_fact S ho (by simp [OC.fa])), ?_⟩
    rw [i3]
    exact He.meth_ok (own_fact S ho (List.mem_cons_of_mem _ (List.mem_cons_of_mem _ (List.mem_cons_of_mem _ (List.mem_append_right _ (List.mem_map.mpr ⟨m, mem_contains z1, rfl⟩))))))
  · obtain ⟨o, ho, rfl⟩ := List.mem_map.mp (mem_contains hc)
    have ob := s8 o ho
    unfold Pk.ownB at ob
    simp only [Bool.and_eq_true, List.any_eq_true, decide_eq_true_eq, Bool.not_eq_true'] at ob
    obtain ⟨⟨d1, e, he, hx, hm⟩, _⟩ := ob
    obtain ⟨I, i1, i2, i3⟩ := meth_of (w := w) (base := base) O S X G s7 he hm
    rw [hx] at i1 i2
    refine ⟨He.ga K (nm o.c), I, if_pos (List.any_eq_true.mpr ⟨o, ho, by simp⟩), He.glo_ok X G (own_fact S ho (by simp [OC.fa])), i1, i2, ?_, d1⟩
    rw [i3]
    exact He.mkr_ok (own_fact S ho (by simp [OC.fa]))
  · obtain ⟨e, he, rfl⟩ := List.mem_map.mp (mem_contains hc)
    obtain ⟨⟨z1, z2⟩, z3⟩ := s1 e he
    have hc2 := mem_contains z3
    have hw : iniW K e = e.val := by
      obtain ⟨i, hi, hie⟩ := List.mem_iff_getElem.mp he
      have q : (p.xs.map (iniW K))[i]? = (p.xs.map XC.val)[i]? := by rw [S.ini]
      rw [List.getElem?_map, List.getElem?_map, List.getElem?_eq_getElem hi, hie] at q
      exact Option.some.inj q
    refine ⟨_, e.f, ca_of hc2, z2, fun Y E te p' pos sl calm hg hr hn he0 => ?_⟩
    obtain ⟨D, OX⟩ := own_of (prog := Y.prog) (K := Y.K) (mg := Y.mg) (e := e) z1 (O.xs.at e he) (by rw [sl.prog, sl.K]; exact m1 e he) (by rw [sl.K]; exact hw) (by rw [sl.mg]; exact free_fact S X G (mem_containsS s5)) (by rw [sl.prog]; exact s6)
    have q := pmk_own (p := p') (pos := pos) OX (hr.mono (by omega)) hg (by rw [sl.mg, sl.K]; exact cls_fact S X G hc2) he0 (s2 e.c hc2) (star_cons hn)
    rw [sl.K] at q
    exact q
  · have hc2 := mem_contains hc
    exact ⟨_, ca_of hc2, cls_fact S X G hc2, s2 c hc2⟩
  · obtain ⟨hc2, rfl⟩ := ca_at hC
    have q := (cl c hc2).2.2.1 cs (mem_containsL hcs)
    have e : cs.map (kv (lkM p w K mg base)) = cs.map fun d => Value.ref (He.ga K (nm d)) := List.map_congr_left fun d hd => by
      unfold kv
      rw [ca_of (mem_contains (s4 cs (mem_containsL hcs) d hd))]
    rw [e]
    exact q
  · obtain ⟨hc2, rfl⟩ := ca_at hC
    refine ⟨(cl c hc2).1, fun f hf => ?_⟩
    obtain ⟨e, he, rfl⟩ := List.mem_map.mp (mem_contains hf)
    exact (cl c hc2).2.1 e he
  · have he2 := mem_contains he
    have hc2 := mem_contains (s9 e he2)
    refine ⟨_, cls_fact S X G hc2, s2 e hc2, fun c C0 hC => ?_⟩
    obtain ⟨hc3, rfl⟩ := ca_at hC
    exact (cl c hc3).2.2.2 e he2
  · obtain ⟨e, he, rfl, hm, dI, D, c, hc1, hc2⟩ := def_at S X G O hI
    obtain ⟨b1, b2, b3, b4, b5⟩ := mkI_at hm
    obtain ⟨F, f1, f2, f3, f4⟩ := D.F
    refine ⟨F, f1, by rw [b4]; exact f2, by rw [b3]; exact f3, dI, ?_⟩
    have q := f4 (He.cT K e.at_).2
    unfold gxOf
    rw [b1, b2, b3, b5]
    exact q
  · obtain ⟨e, he, rfl, hm, dI, D, c, hc1, hc2⟩ := def_at S X G O hI
    obtain ⟨b1, b2, b3, b4, b5⟩ := mkI_at hm
    rw [b5] at hP
    split at hP
    · rename_i hl
      cases hP
      have hm : e ∈ p.lds := List.mem_filter.mpr ⟨he, hl⟩
      have ht : e.at_ ∈ p.tf := List.mem_map.mpr ⟨e, hm, rfl⟩
      refine ⟨c, ?_, hc1, List.mem_map.mpr ⟨e, hm, rfl⟩, fun q hq ea => ?_⟩
      · have z := TB _ ht
        rw [show (He.cT K e.at_).1 = c from hc2] at z
        exact z
      · obtain ⟨e', he', rfl⟩ := List.mem_map.mp hq
        have inj : ∀ (l : List DE), ((l.map fun e => (e.at_ : He.Defn)).map fun q => (He.cT K q).2).Nodup → ∀ a ∈ l, ∀ b ∈ l, (He.cT K a.at_).2 = (He.cT K b.at_).2 → a = b := by
          intro l
          induction l with
          | nil => intro _ a ha; cases ha
          | cons x r ih =>
            intro nd a ha b hb eab
            rw [List.map_cons, List.map_cons, List.nodup_cons] at nd
            have out : ∀ y ∈ r, (He.cT K x.at_).2 ≠ (He.cT K y.at_).2 := fun y hy z => nd.1 (List.mem_map.mpr ⟨_, List.mem_map.mpr ⟨y, hy, rfl⟩, z.symm⟩)
            rcases List.mem_cons.mp ha with ea | ea
            · rcases List.mem_cons.mp hb with eb | eb
              · rw [ea, eb]
              · rw [ea] at eab
                exact absurd eab (out b eb)
            · rcases List.mem_cons.mp hb with eb | eb
              · rw [eb] at eab
                exact absurd eab.symm (out a ea)
              · exact ih nd.2 a ea b eb eab
        have := inj p.lds m3 e' he' e hm ea
        rw [this]; rfl
    · cases hP
end
end MS

set_option Elab.async false
set_option linter.all false
set_option maxRecDepth 100000
set_option maxHeartbeats 4000000
/-! TI: a law from its text in the small language -/
namespace MS
open PySem PySem.Spec PyProof.Rows L2
open Mini (Val Res)
section
variable {p : Pk} {w : World} {K : PySem.W.Frag} {mg : Str → Option Value} {base : PySem.Heap}
theorem vrs_ints {G : Clo} {H : Hp} {R : Mp} {n : Nat} : ∀ ns : List Int, VRs K G H R n (ns.map Val.int) (ns.map L2.V.int)
  | [] => .nil
  | _ :: r => .cons (.int _) (vrs_ints r)
/-- the law is run -/
theorem law_run (O : PkOk p) {s1 : Shared} {H : Hp} {a : Addr} {ns : List Int} {dd Wn : Nat} (S : SaysM p s1.heap K) (X : K.In s1.heap) (G : s1.heap.Ns mainGlobals mg) (hb : base.Ns mainGlobals mg) (TB : ∀ q ∈ p.tf, LamX.TabB base mg (He.cT K q).1 (He.cT K q).2) (hr : Room (2 * dd + 3) callerA)
    (e0 : Env0 p.prog w K mg base callerA [] s1 H) (hT : ∀ q ∈ p.tf, H (He.cT K q).2 = some (.tbl #[])) (hS : ScR K H a (ns.map L2.V.int)) (hl : (p.ds.find? fun e => e.x == "law").any (·.m.isNone) = true) (h1 : ∀ e ∈ p.ds, e.x = "law" → e.ps.length = 1)
    (plain : ∃ h', (Mini.cxAt p.P Wn dd).call "law" [.scr (ns.map Val.int)] [] = .ok (.bool true) h') : ∃ fa, mg "law" = some (.ref fa) ∧ codeAny (model p.prog w) callerA (.call (.ref fa) ⟨[.ref a], []⟩) (CR (L2.CX p.prog w) [] p.prog w H s1 (fun v _ => v = .bl true) fun _ _ _ => False) s1 := by
  have Z := fz_of (w := w) O S X G TB
  obtain ⟨c, _⟩ := all_calls Z Wn dd
  obtain ⟨e, he⟩ : ∃ e, (p.ds.find? fun e => e.x == "law") = some e := by
    cases z : p.ds.find? fun e => e.x == "law" with
    | some e => exact ⟨e, rfl⟩
    | none => rw [z] at hl; cases hl
  have hm0 : e.m.isNone = true := by rw [he] at hl; exact hl
  have hm := List.mem_of_find?_eq_some he
  have hx : e.x = "law" := by simpa using List.find?_some he
  obtain ⟨I, i1, i2, _⟩ := def_of (w := w) (base := base) S X G hm (O.ds.at e hm)
  have hI : (lkM p w K mg base).defs "law" = some I := by
    show (p.ds.find? fun e => e.x == "law").bind (mkI K) = some I
    rw [he]; exact i1
  rw [hx] at i2
  have hlen : I.ps.length = 1 := by rw [(mkI_at i1).2.2.2.1]; exact h1 e hm hx
  have top : I.top = true := by
    unfold mkI at i1
    split at i1
    · cases i1
      exact hm0
    · cases i1
  refine ⟨I.f, i2.mg top, ?_⟩
  have hbd := i2.bind s1 [.ref a] X (by rw [List.append_nil, hlen]; rfl)
  rw [List.append_nil] at hbd
  obtain ⟨h', hp'⟩ := plain
  refine c "law" I hI callerA [] s1 H ⟨[.ref a], []⟩ [.ref a] [.ref a] _ _ hr rfl e0 hbd (.cons rfl .nil) ⟨⟨noClo, fun _ => none⟩, ⟨fun _ => 0, fun _ => False⟩, [], [.scr (ns.map Val.int)], fun _ _ _ z => z.elim, ?_, .cons (.scr hS (vrs_ints ns)) .nil, ?_⟩
  · refine ⟨fun i j hi => absurd hi (Nat.not_lt_zero _), fun i o z => by simp at z, fun a z => z.elim, fun i hi => absurd hi (Nat.not_lt_zero _), fun q hq => ?_⟩
    obtain ⟨d, hd, rfl⟩ := List.mem_map.mp hq
    have z := hT d.at_ (List.mem_map.mpr ⟨d, hd, rfl⟩)
    refine ⟨#[], z, trivial, fun pos cv hc => ?_⟩
    have hc : codeAmong pos [] = some cv := hc
    simp [codeAmong] at hc
  · have hp2 : (Mini.cxAt (lkM p w K mg base).P Wn dd).call "law" [.scr (ns.map Val.int)] [] = .ok (.bool true) h' := hp'
    rw [hp2]
    exact fun R' H' _ _ V rv => rv.bl
end
/-- the walk of a law -/
theorem pk_walk {l : PySem.W.OpenLaw} {n m : Nat} {q : Program} {loose : List Str} {XP : (Str → Option Value) → PySem.Heap → Prop} {d : DefRec} {p : Pk} {dd Wn : Nat} (hp : p.prog = l.prog) (O : PkOk p) (hn : l.most = some n) (hn2 : n ≤ sizeLine) (hdf : d.params.defaults = []) (hnm : d.name = nm "law") (hr : Room (2 * dd + 3) callerA)
    (hl : (p.ds.find? fun e => e.x == "law").any (·.m.isNone) = true) (h1 : ∀ e ∈ p.ds, e.x = "law" → e.ps.length = 1)
    (plain : ∀ ns : List Int, ns.length ≤ n → (∀ z ∈ ns, Builtin.Int.intBits z ≤ 1048576) → ∃ h', (Mini.cxAt p.P Wn dd).call "law" [.scr (ns.map Val.int)] [] = .ok (.bool true) h') :
    PySem.W.WalkO q loose XP (hookM m p).says l.row.toRowW d [] (fun f vs => PySem.call f vs) := by
  refine Att.attach_callB hn hdf fun w s₀ s1 mg mb fa o pm cd doc a vs ns G Y ho hd hcd hmg hobj hints hlen hbits hg => ?_
  obtain ⟨K, KX, S⟩ := Y
  rw [← hp]
  have ex : ∀ q ∈ p.tf.map (He.cT K), ∃ t ∈ p.tf, He.cT K t = q := fun q hq => List.mem_map.mp hq
  refine law_end (cs := p.tf.map (He.cT K)) KX G.T.g G.T.b G.T.builtins G.T.nolimit hg (fun q hq => ?_) (fun q hq => ?_) (fun q hq => ?_) G.T.bmain hobj hints (Nat.le_trans hlen hn2) fun base H kB hB tB e0 hT hS => ?_
  · obtain ⟨t, ht, rfl⟩ := ex q hq; exact S.empty t ht
  · obtain ⟨t, ht, rfl⟩ := ex q hq; exact S.out t ht
  · obtain ⟨t, ht, rfl⟩ := ex q hq; exact PySem.W.codeHd_of_K KX (S.hd t ht)
  · obtain ⟨fa', hf, run⟩ := law_run (w := w) (base := base) (a := a) (ns := ns) O S KX G.T.g hB (fun t ht => tB _ (List.mem_map.mpr ⟨t, ht, rfl⟩)) hr e0 (fun t ht => hT _ (List.mem_map.mpr ⟨t, ht, rfl⟩)) hS hl h1 (plain ns hlen hbits)
    rw [hnm] at hmg
    have e := hmg.symm.trans hf
    cases e
    exact run
end MS

set_option Elab.async false
set_option linter.all false
set_option maxRecDepth 100000
set_option maxHeartbeats 4000000
/-! PA: to reckon with runs of the small language -/
namespace Mini
def Res.bd {α β : Type} (r : Res α) (k : α → Heap → Res β) : Res β := match r with
  | .ok a h => k a h
  | .exn c v h => .exn c v h
  | .bad => .bad
@[simp] theorem m_bind {α β : Type} (m : M α) (k : α → M β) (h : Heap) : M.bind m k h = (m h).bd k := by
  unfold M.bind Res.bd
  cases m h <;> rfl
@[simp] theorem bd_ok {α β : Type} (a : α) (h : Heap) (k : α → Heap → Res β) : (Res.ok a h).bd k = k a h := rfl
@[simp] theorem bd_exn {α β : Type} (c : String) (v : Val) (h : Heap) (k : α → Heap → Res β) : (Res.exn c v h : Res α).bd k = .exn c v h := rfl
@[simp] theorem bd_bad {α β : Type} (k : α → Heap → Res β) : (Res.bad : Res α).bd k = .bad := rfl
@[simp] theorem m_pure {α : Type} (a : α) (h : Heap) : M.pure a h = .ok a h := rfl
@[simp] theorem opt_some {α : Type} (a : α) (h : Heap) : M.opt (some a) h = .ok a h := rfl
@[simp] theorem opt_none {α : Type} (h : Heap) : (M.opt (none : Option α)) h = .bad := rfl
@[simp] theorem onE_ok {α : Type} (a : α) (h : Heap) (env : Env) (k : α → Heap → Out) : onE (.ok a h) env k = k a h := rfl
@[simp] theorem onE_exn {α : Type} (c : String) (v : Val) (h : Heap) (env : Env) (k : α → Heap → Out) : onE (.exn c v h : Res α) env k = .exn c v env h := rfl
@[simp] theorem then_next (env : Env) (h : Heap) (k : Env → Heap → Out) : (Out.next env h).then k = k env h := rfl
@[simp] theorem then_ret (v : Val) (h : Heap) (k : Env → Heap → Out) : (Out.ret v h).then k = .ret v h := rfl
@[simp] theorem then_exn (c : String) (v : Val) (env : Env) (h : Heap) (k : Env → Heap → Out) : (Out.exn c v env h).then k = .exn c v env h := rfl
@[simp] theorem then_brk (env : Env) (h : Heap) (k : Env → Heap → Out) : (Out.brk env h).then k = .brk env h := rfl
@[simp] theorem then_cont (env : Env) (h : Heap) (k : Env → Heap → Out) : (Out.cont env h).then k = .cont env h := rfl
@[simp] theorem res_next (env : Env) (h : Heap) : (Out.next env h).res = .ok .none h := rfl
@[simp] theorem res_ret (v : Val) (h : Heap) : (Out.ret v h).res = .ok v h := rfl
@[simp] theorem res_exn (c : String) (v : Val) (env : Env) (h : Heap) : (Out.exn c v env h).res = .exn c v h := rfl
theorem call_at {P : Prog} {f : String} {F : Fn} (hF : P.fns.lookup f = some F) (W d : Nat) (args : List Val) (h : Heap) : (cxAt P W (d + 1)).call f args h = runFn (cxAt P W d) F args h := by
  show (match P.fns.lookup f with
    | some F => runFn (cxAt P W d) F args h
    | none => .bad) = _
  rw [hF]
theorem act_at {P : Prog} {k : String} {F : Lam} (hF : P.lams.lookup k = some F) (W d : Nat) (caps args : List Val) (h : Heap) : (cxAt P W (d + 1)).act (.clo k caps) args h = runLam (cxAt P W d) F caps args h := by
  show (match P.lams.lookup k with
    | some L => runLam (cxAt P W d) L caps args h
    | none => .bad) = _
  rw [hF]
@[simp] theorem cx_prog (P : Prog) (W d : Nat) : (cxAt P W d).prog = P := by cases d <;> rfl
@[simp] theorem cx_W (P : Prog) (W d : Nat) : (cxAt P W d).W = W := by cases d <;> rfl
/-! ### data -/
mutual
theorem plain_still : ∀ (k : Nat) (v : Val), plain k v = true → still v = true
  | _, .none, _ => rfl
  | _, .bool _, _ => rfl
  | _, .int _, _ => rfl
  | _, .str _, _ => rfl
  | k + 1, .tup xs, h => by
    simp only [plain] at h
    simp only [still]
    exact plain_stills k xs h
  | k + 1, .lst xs, h => by
    simp only [plain] at h
    simp only [still]
    exact plain_stills k xs h
  | 0, .tup xs, h => by simp [plain] at h
  | 0, .lst xs, h => by simp [plain] at h
  | k, .rep _, h => by cases k <;> simp [plain] at h
  | k, .ref _, h => by cases k <;> simp [plain] at h
  | k, .clo _ _, h => by cases k <;> simp [plain] at h
  | k, .exc _ _, h => by cases k <;> simp [plain] at h
  | k, .emp, h => by cases k <;> simp [plain] at h
  | k, .gap, h => by cases k <;> simp [plain] at h
  | k, .scr _, h => by cases k <;> simp [plain] at h
theorem plain_stills : ∀ (k : Nat) (xs : List Val), xs.all (plain k) = true → stills xs = true
  | _, [], _ => rfl
  | k, x :: r, h => by
    simp only [List.all_cons, Bool.and_eq_true] at h
    simp only [stills, Bool.and_eq_true]
    exact ⟨plain_still k x h.1, plain_stills k r h.2⟩
end
mutual
theorem plain_rd (f : Nat → Option Val) : ∀ (k : Nat) (v : Val), plain k v = true → rdA f v = some v
  | _, .none, _ => rfl
  | _, .bool _, _ => rfl
  | _, .int _, _ => rfl
  | _, .str _, _ => rfl
  | k + 1, .tup xs, h => by
    simp only [plain] at h
    simp only [rdA, plain_rds f k xs h, Option.map_some]
  | k + 1, .lst xs, h => by
    simp only [plain] at h
    simp only [rdA, plain_rds f k xs h, Option.map_some]
  | 0, .tup xs, h => by simp [plain] at h
  | 0, .lst xs, h => by simp [plain] at h
  | k, .rep _, h => by cases k <;> simp [plain] at h
  | k, .ref _, h => by cases k <;> simp [plain] at h
  | k, .clo _ _, h => by cases k <;> simp [plain] at h
  | k, .exc _ _, h => by cases k <;> simp [plain] at h
  | k, .emp, h => by cases k <;> simp [plain] at h
  | k, .gap, h => by cases k <;> simp [plain] at h
  | k, .scr _, h => by cases k <;> simp [plain] at h
theorem plain_rds (f : Nat → Option Val) : ∀ (k : Nat) (xs : List Val), xs.all (plain k) = true → rdAs f xs = some xs
  | _, [], _ => rfl
  | k, x :: r, h => by
    simp only [List.all_cons, Bool.and_eq_true] at h
    simp only [rdAs, plain_rd f k x h.1, plain_rds f k r h.2]
end
mutual
theorem plain_up : ∀ (k j : Nat) (v : Val), k ≤ j → plain k v = true → plain j v = true
  | k, j, .none, _, _ => by cases j <;> rfl
  | k, j, .bool _, _, _ => by cases j <;> rfl
  | k, j, .int _, _, _ => by cases j <;> rfl
  | k, j, .str _, _, h => by cases j <;> cases k <;> simpa only [plain] using h
  | k + 1, j + 1, .tup xs, hj, h => by
    simp only [plain] at h ⊢
    exact plains_up k j xs (Nat.le_of_succ_le_succ hj) h
  | k + 1, j + 1, .lst xs, hj, h => by
    simp only [plain] at h ⊢
    exact plains_up k j xs (Nat.le_of_succ_le_succ hj) h
  | k + 1, 0, .tup xs, hj, h => absurd hj (by omega)
  | k + 1, 0, .lst xs, hj, h => absurd hj (by omega)
  | 0, j, .tup xs, _, h => by simp [plain] at h
  | 0, j, .lst xs, _, h => by simp [plain] at h
  | k, j, .rep _, _, h => by cases k <;> simp [plain] at h
  | k, j, .ref _, _, h => by cases k <;> simp [plain] at h
  | k, j, .clo _ _, _, h => by cases k <;> simp [plain] at h
  | k, j, .exc _ _, _, h => by cases k <;> simp [plain] at h
  | k, j, .emp, _, h => by cases k <;> simp [plain] at h
  | k, j, .gap, _, h => by cases k <;> simp [plain] at h
  | k, j, .scr _, _, h => by cases k <;> simp [plain] at h
theorem plains_up : ∀ (k j : Nat) (xs : List Val), k ≤ j → xs.all (plain k) = true → xs.all (plain j) = true
  | _, _, [], _, _ => rfl
  | k, j, x :: r, hj, h => by
    simp only [List.all_cons, Bool.and_eq_true] at h ⊢
    exact ⟨plain_up k j x hj h.1, plains_up k j r hj h.2⟩
end
mutual
theorem eqv_self : ∀ (k : Nat) (v : Val), plain k v = true → eqv v v = true
  | _, .none, _ => rfl
  | _, .bool _, _ => by simp [eqv]
  | _, .int _, _ => by simp [eqv]
  | _, .str _, _ => by simp [eqv]
  | k + 1, .tup xs, h => by
    simp only [plain] at h
    simp only [eqv]
    exact eqvs_self k xs h
  | k + 1, .lst xs, h => by
    simp only [plain] at h
    simp only [eqv]
    exact eqvs_self k xs h
  | 0, .tup xs, h => by simp [plain] at h
  | 0, .lst xs, h => by simp [plain] at h
  | k, .rep _, h => by cases k <;> simp [plain] at h
  | k, .ref _, h => by cases k <;> simp [plain] at h
  | k, .clo _ _, h => by cases k <;> simp [plain] at h
  | k, .exc _ _, h => by cases k <;> simp [plain] at h
  | k, .emp, h => by cases k <;> simp [plain] at h
  | k, .gap, h => by cases k <;> simp [plain] at h
  | k, .scr _, h => by cases k <;> simp [plain] at h
theorem eqvs_self : ∀ (k : Nat) (xs : List Val), xs.all (plain k) = true → eqvs xs xs = true
  | _, [], _ => rfl
  | k, x :: r, h => by
    simp only [List.all_cons, Bool.and_eq_true] at h
    simp only [eqvs, Bool.and_eq_true]
    exact ⟨eqv_self k x h.1, eqvs_self k r h.2⟩
end
theorem rd_plain {n0 : Nat} {h : Heap} {k : Nat} {v : Val} (p : plain k v = true) : rd n0 h v = some v := plain_rd _ k v p
/-- a shut def that left the heap as it was, or made it longer -/
theorem settle_ok {h h' : Heap} {k : Nat} {v : Val} (e : h'.take h.length = h) (p : plain k v = true) : settle h (.ok v h') = .ok v h := by
  simp only [settle, if_pos e, rd_plain p]
theorem settle_exn {h h' : Heap} {k : Nat} {c : String} {v : Val} (e : h'.take h.length = h) (p : plain k v = true) : settle h (.exn c v h') = .exn c v h := by
  simp only [settle, if_pos e, rd_plain p]
/-- a loop's turn -/
def stepOf (C : Cx) (t : Tg) (b : List St) (v : Val) (env : Env) (h : Heap) : Out := match asgT h t v env with
  | some env' => execs C b env' h
  | none => .bad
/-- does what is walked stand -/
def chkOf (x : Val) (xs : List Val) (h : Heap) : Bool := decide (seqOf h x = some xs)
@[simp] theorem chk_tup (xs : List Val) (h : Heap) : chkOf (.tup xs) xs h = true := by simp [chkOf, seqOf]
@[simp] theorem chk_lst (xs : List Val) (h : Heap) : chkOf (.lst xs) xs h = true := by simp [chkOf, seqOf]
@[simp] theorem chk_scr (xs : List Val) (h : Heap) : chkOf (.scr xs) xs h = true := by simp [chkOf, seqOf]
def anyHp (_ : Heap) : Bool := true
/-- a comprehension's turn -/
def lcStep (C : Cx) (t : Tg) (env : Env) (chk : Heap → Bool) (ifs : List Ex) (elt : Ex) (v : Val) (h : Heap) : Res (List Val) :=
  lcTurn t env (fun env' => guarded chk ((evalTs C ifs env').bind fun k => if k = true then (evalE C elt env').bind fun x => M.pure [x] else M.pure [])) v h
@[simp] theorem ev_lit (C : Cx) (env : Env) (v : Val) : evalE C (.lit v) env = M.pure v := by
  first
    | rfl
    | (simp only [evalE]; done)
    | (simp only [evalE]; congr 1; funext x; congr 1; funext k; cases k <;> rfl)
    | (simp only [evalE]; congr 1; funext x; congr 1; funext y; congr 1; funext k; cases k <;> rfl)
    | (simp only [evalE]; congr 1; funext k; cases k <;> rfl)
@[simp] theorem ev_loc (C : Cx) (env : Env) (i : Nat) : evalE C (.loc i) env = M.opt (env[i]?.join) := by
  first
    | rfl
    | (simp only [evalE]; done)
    | (simp only [evalE]; congr 1; funext x; congr 1; funext k; cases k <;> rfl)
    | (simp only [evalE]; congr 1; funext x; congr 1; funext y; congr 1; funext k; cases k <;> rfl)
    | (simp only [evalE]; congr 1; funext k; cases k <;> rfl)
@[simp] theorem ev_con (C : Cx) (env : Env) (x : String) : evalE C (.con x) env = M.opt (C.prog.cons.lookup x) := by
  first
    | rfl
    | (simp only [evalE]; done)
    | (simp only [evalE]; congr 1; funext x; congr 1; funext k; cases k <;> rfl)
    | (simp only [evalE]; congr 1; funext x; congr 1; funext y; congr 1; funext k; cases k <;> rfl)
    | (simp only [evalE]; congr 1; funext k; cases k <;> rfl)
@[simp] theorem ev_bin (C : Cx) (env : Env) (op : BOp) (a b : Ex) : evalE C (.bin op a b) env = (evalE C a env).bind fun x => (evalE C b env).bind fun y h => M.opt (opBin op h x y) h := by
  first
    | rfl
    | (simp only [evalE]; done)
    | (simp only [evalE]; congr 1; funext x; congr 1; funext k; cases k <;> rfl)
    | (simp only [evalE]; congr 1; funext x; congr 1; funext y; congr 1; funext k; cases k <;> rfl)
    | (simp only [evalE]; congr 1; funext k; cases k <;> rfl)
@[simp] theorem ev_neg (C : Cx) (env : Env) (a : Ex) : evalE C (.neg a) env = (evalE C a env).bind fun x => match x with
    | .int i => M.pure (.int (-i))
    | _ => M.bad := by
  first
    | rfl
    | (simp only [evalE]; done)
    | (simp only [evalE]; congr 1; funext x; congr 1; funext k; cases k <;> rfl)
    | (simp only [evalE]; congr 1; funext x; congr 1; funext y; congr 1; funext k; cases k <;> rfl)
    | (simp only [evalE]; congr 1; funext k; cases k <;> rfl)
@[simp] theorem ev_not (C : Cx) (env : Env) (a : Ex) : evalE C (.not a) env = (tst (evalE C a env)).bind fun b => M.pure (.bool (!b)) := by
  first
    | rfl
    | (simp only [evalE]; done)
    | (simp only [evalE]; congr 1; funext x; congr 1; funext k; cases k <;> rfl)
    | (simp only [evalE]; congr 1; funext x; congr 1; funext y; congr 1; funext k; cases k <;> rfl)
    | (simp only [evalE]; congr 1; funext k; cases k <;> rfl)
@[simp] theorem ev_cmp (C : Cx) (env : Env) (op : COp) (a b : Ex) : evalE C (.cmp op a b) env = (evalE C a env).bind fun x => (evalE C b env).bind fun y h => M.opt ((opCmp op h x y).map .bool) h := by
  first
    | rfl
    | (simp only [evalE]; done)
    | (simp only [evalE]; congr 1; funext x; congr 1; funext k; cases k <;> rfl)
    | (simp only [evalE]; congr 1; funext x; congr 1; funext y; congr 1; funext k; cases k <;> rfl)
    | (simp only [evalE]; congr 1; funext k; cases k <;> rfl)
@[simp] theorem ev_chain (C : Cx) (env : Env) (op op' : COp) (a b c : Ex) : evalE C (.chain op op' a b c) env = (evalE C a env).bind fun x => (evalE C b env).bind fun y => M.bind (fun h => M.opt (opCmp op h x y) h) fun k => if k = true then (evalE C c env).bind fun z h => M.opt ((opCmp op' h y z).map .bool) h else M.pure (.bool false) := by
  first
    | rfl
    | (simp only [evalE]; done)
    | (simp only [evalE]; congr 1; funext x; congr 1; funext k; cases k <;> rfl)
    | (simp only [evalE]; congr 1; funext x; congr 1; funext y; congr 1; funext k; cases k <;> rfl)
    | (simp only [evalE]; congr 1; funext k; cases k <;> rfl)
@[simp] theorem ev_and (C : Cx) (env : Env) (a b : Ex) : evalE C (.and a b) env = (evalE C a env).bind fun x => M.bind (fun h => M.opt (truthy h x) h) fun k => if k = true then evalE C b env else M.pure x := by
  first
    | rfl
    | (simp only [evalE]; done)
    | (simp only [evalE]; congr 1; funext x; congr 1; funext k; cases k <;> rfl)
    | (simp only [evalE]; congr 1; funext x; congr 1; funext y; congr 1; funext k; cases k <;> rfl)
    | (simp only [evalE]; congr 1; funext k; cases k <;> rfl)
@[simp] theorem ev_or (C : Cx) (env : Env) (a b : Ex) : evalE C (.or a b) env = (evalE C a env).bind fun x => M.bind (fun h => M.opt (truthy h x) h) fun k => if k = true then M.pure x else evalE C b env := by
  first
    | rfl
    | (simp only [evalE]; done)
    | (simp only [evalE]; congr 1; funext x; congr 1; funext k; cases k <;> rfl)
    | (simp only [evalE]; congr 1; funext x; congr 1; funext y; congr 1; funext k; cases k <;> rfl)
    | (simp only [evalE]; congr 1; funext k; cases k <;> rfl)
@[simp] theorem ev_ite (C : Cx) (env : Env) (c a b : Ex) : evalE C (.ite c a b) env = (tst (evalE C c env)).bind fun k => if k = true then evalE C a env else evalE C b env := by
  first
    | rfl
    | (simp only [evalE]; done)
    | (simp only [evalE]; congr 1; funext x; congr 1; funext k; cases k <;> rfl)
    | (simp only [evalE]; congr 1; funext x; congr 1; funext y; congr 1; funext k; cases k <;> rfl)
    | (simp only [evalE]; congr 1; funext k; cases k <;> rfl)
@[simp] theorem ev_tup (C : Cx) (env : Env) (es : List Ex) : evalE C (.tup es) env = (evalEs C es env).bind fun vs => M.pure (.tup vs) := by
  first
    | rfl
    | (simp only [evalE]; done)
    | (simp only [evalE]; congr 1; funext x; congr 1; funext k; cases k <;> rfl)
    | (simp only [evalE]; congr 1; funext x; congr 1; funext y; congr 1; funext k; cases k <;> rfl)
    | (simp only [evalE]; congr 1; funext k; cases k <;> rfl)
@[simp] theorem ev_lst (C : Cx) (env : Env) (es : List Ex) : evalE C (.lst es) env = (evalEs C es env).bind fun vs => M.pure (.lst vs) := by
  first
    | rfl
    | (simp only [evalE]; done)
    | (simp only [evalE]; congr 1; funext x; congr 1; funext k; cases k <;> rfl)
    | (simp only [evalE]; congr 1; funext x; congr 1; funext y; congr 1; funext k; cases k <;> rfl)
    | (simp only [evalE]; congr 1; funext k; cases k <;> rfl)
@[simp] theorem ev_idx (C : Cx) (env : Env) (a i : Ex) : evalE C (.idx a i) env = (evalE C a env).bind fun x => (evalE C i env).bind fun y h => M.opt (getIt h x y) h := by
  first
    | rfl
    | (simp only [evalE]; done)
    | (simp only [evalE]; congr 1; funext x; congr 1; funext k; cases k <;> rfl)
    | (simp only [evalE]; congr 1; funext x; congr 1; funext y; congr 1; funext k; cases k <;> rfl)
    | (simp only [evalE]; congr 1; funext k; cases k <;> rfl)
@[simp] theorem ev_slice (C : Cx) (env : Env) (a lo hi : Ex) : evalE C (.slice a lo hi) env = (evalE C a env).bind fun x => M.bind ((evalE C lo env).bind fun y => M.opt (partOf y)) fun y => M.bind ((evalE C hi env).bind fun z => M.opt (partOf z)) fun z h => M.opt (sliceIt h x y z) h := by
  first
    | rfl
    | (simp only [evalE]; done)
    | (simp only [evalE]; congr 1; funext x; congr 1; funext k; cases k <;> rfl)
    | (simp only [evalE]; congr 1; funext x; congr 1; funext y; congr 1; funext k; cases k <;> rfl)
    | (simp only [evalE]; congr 1; funext k; cases k <;> rfl)
@[simp] theorem ev_rev (C : Cx) (env : Env) (a : Ex) : evalE C (.rev a) env = (evalE C a env).bind fun x h => M.opt (revIt h x) h := by
  first
    | rfl
    | (simp only [evalE]; done)
    | (simp only [evalE]; congr 1; funext x; congr 1; funext k; cases k <;> rfl)
    | (simp only [evalE]; congr 1; funext x; congr 1; funext y; congr 1; funext k; cases k <;> rfl)
    | (simp only [evalE]; congr 1; funext k; cases k <;> rfl)
@[simp] theorem ev_call (C : Cx) (env : Env) (f : String) (es : List Ex) : evalE C (.call f es) env = (evalEs C es env).bind fun vs => C.call f vs := by
  first
    | rfl
    | (simp only [evalE]; done)
    | (simp only [evalE]; congr 1; funext x; congr 1; funext k; cases k <;> rfl)
    | (simp only [evalE]; congr 1; funext x; congr 1; funext y; congr 1; funext k; cases k <;> rfl)
    | (simp only [evalE]; congr 1; funext k; cases k <;> rfl)
@[simp] theorem isClo_clo (k : String) (vs : List Val) : isClo (.clo k vs) = true := rfl
@[simp] theorem ev_act (C : Cx) (env : Env) (e : Ex) (es : List Ex) : evalE C (.act e es) env = (evalE C e env).bind fun f => if isClo f = true then (evalEs C es env).bind fun vs => C.act f vs else M.bad := by
  first
    | rfl
    | (simp only [evalE]; done)
    | (simp only [evalE]; congr 1; funext x; congr 1; funext k; cases k <;> rfl)
    | (simp only [evalE]; congr 1; funext x; congr 1; funext y; congr 1; funext k; cases k <;> rfl)
    | (simp only [evalE]; congr 1; funext k; cases k <;> rfl)
@[simp] theorem ev_bi (C : Cx) (env : Env) (b : Bi) (es : List Ex) : evalE C (.bi b es) env = (evalEs C es env).bind fun vs h => M.opt (biV b h vs) h := by
  first
    | rfl
    | (simp only [evalE]; done)
    | (simp only [evalE]; congr 1; funext x; congr 1; funext k; cases k <;> rfl)
    | (simp only [evalE]; congr 1; funext x; congr 1; funext y; congr 1; funext k; cases k <;> rfl)
    | (simp only [evalE]; congr 1; funext k; cases k <;> rfl)
@[simp] theorem ev_lam (C : Cx) (env : Env) (k : String) (js : List Nat) : evalE C (.lam k js) env = M.opt ((js.mapM fun i => env[i]?.join).map fun vs => .clo k vs) := by
  first
    | rfl
    | (simp only [evalE]; done)
    | (simp only [evalE]; congr 1; funext x; congr 1; funext k; cases k <;> rfl)
    | (simp only [evalE]; congr 1; funext x; congr 1; funext y; congr 1; funext k; cases k <;> rfl)
    | (simp only [evalE]; congr 1; funext k; cases k <;> rfl)
@[simp] theorem evs_nil (C : Cx) (env : Env) : evalEs C [] env = M.pure [] := by first | rfl | simp only [evalEs]
@[simp] theorem evs_cons (C : Cx) (env : Env) (e : Ex) (es : List Ex) : evalEs C (e :: es) env = (evalE C e env).bind fun v => (evalEs C es env).bind fun vs => M.pure (v :: vs) := by first | rfl | simp only [evalEs]
@[simp] theorem evt_nil (C : Cx) (env : Env) : evalTs C [] env = M.pure true := by
  first
    | rfl
    | (simp only [evalTs]; congr 1; funext k; cases k <;> rfl)
@[simp] theorem evt_cons (C : Cx) (env : Env) (e : Ex) (es : List Ex) : evalTs C (e :: es) env = (tst (evalE C e env)).bind fun k => if k = true then evalTs C es env else M.pure false := by
  first
    | rfl
    | (simp only [evalTs]; congr 1; funext k; cases k <;> rfl)
@[simp] theorem ev_lc (C : Cx) (env : Env) (elt : Ex) (t : Tg) (it : It) (ifs : List Ex) : evalE C (.lc elt t it ifs) env = (evalI C it env).bind fun vs => asList (lcGo (lcStep C t (wipe env t) vs.2 ifs elt) vs.1) := by
  simp only [evalE]
  congr 1
  funext vs
  congr 2
  funext v h
  unfold lcStep
  congr 1
  funext env'
  congr 2
  funext k
  cases k <;> rfl
@[simp] theorem evi_range (C : Cx) (env : Env) (a b : Ex) : evalI C (.range a b) env = (evalE C a env).bind fun x => (evalE C b env).bind fun y => rangeOf x y := by first | rfl | simp only [evalI]
@[simp] theorem evi_enum (C : Cx) (env : Env) (e : Ex) : evalI C (.enum e) env = (evalE C e env).bind fun x h => M.opt ((seqOf h x).map fun xs => (enumL 0 xs, chkOf x xs)) h := by
  first
    | rfl
    | (simp only [evalI]; rfl)
@[simp] theorem evi_revd (C : Cx) (env : Env) (e : Ex) : evalI C (.revd e) env = (evalE C e env).bind fun x h => M.opt ((seqOf h x).map fun xs => (xs.reverse, chkOf x xs)) h := by
  first
    | rfl
    | (simp only [evalI]; rfl)
/-- the items of a walk -/
def walkOf (x : Val) (h : Heap) : Res (List Val × (Heap → Bool)) := match x with
  | .str s => .ok (s.map fun c => .str [c], anyHp) h
  | x => M.opt ((seqOf h x).map fun xs => (xs, chkOf x xs)) h
@[simp] theorem evi_of (C : Cx) (env : Env) (e : Ex) : evalI C (.of e) env = (evalE C e env).bind walkOf := by
  simp only [evalI]
  rfl
@[simp] theorem walk_tup (xs : List Val) (h : Heap) : walkOf (.tup xs) h = .ok (xs, chkOf (.tup xs) xs) h := rfl
@[simp] theorem walk_lst (xs : List Val) (h : Heap) : walkOf (.lst xs) h = .ok (xs, chkOf (.lst xs) xs) h := rfl
@[simp] theorem walk_scr (xs : List Val) (h : Heap) : walkOf (.scr xs) h = .ok (xs, chkOf (.scr xs) xs) h := rfl
@[simp] theorem range_int (i j : Int) (h : Heap) : rangeOf (.int i) (.int j) h = if (small 61 i && small 61 j) = true then .ok (rangeL i j, anyHp) h else .bad := by
  show (if (small 61 i && small 61 j) = true then (M.pure (rangeL i j, fun _ => true) : M (List Val × (Heap → Bool))) else M.bad) h = _
  split <;> rfl
@[simp] theorem any_hp (h : Heap) : anyHp h = true := rfl
@[simp] theorem tst_app (m : M Val) (h : Heap) : tst m h = (m h).bd fun v h => M.opt (truthy h v) h := by
  unfold tst
  exact m_bind _ _ _
@[simp] theorem ex_exp (C : Cx) (e : Ex) (env : Env) (h : Heap) : exec C (.exp e) env h = onE (evalE C e env h) env fun _ h => .next env h := by
  first
    | rfl
    | (simp only [exec]; congr 1; funext k h; cases k <;> rfl)
@[simp] theorem ex_asg (C : Cx) (t : Tg) (e : Ex) (env : Env) (h : Heap) : exec C (.asg t e) env h = onE (evalE C e env h) env fun v h => match asgT h t v env with
    | some env' => .next env' h
    | none => .bad := by
  first
    | rfl
    | (simp only [exec]; congr 1; funext k h; cases k <;> rfl)
@[simp] theorem ex_cond (C : Cx) (c : Ex) (a b : List St) (env : Env) (h : Heap) : exec C (.cond c a b) env h = onE (tst (evalE C c env) h) env fun k h => if k = true then execs C a env h else execs C b env h := by
  first
    | rfl
    | (simp only [exec]; congr 1; funext k h; cases k <;> rfl)
@[simp] theorem ex_loop (C : Cx) (t : Tg) (it : It) (b : List St) (env : Env) (h : Heap) : exec C (.loop t it b) env h = onE (evalI C it env h) env fun vs h => loopGo vs.2 (stepOf C t b) vs.1 env h := by
  first
    | rfl
    | (simp only [exec]; rfl)
@[simp] theorem ex_ret (C : Cx) (e : Ex) (env : Env) (h : Heap) : exec C (.ret e) env h = onE (evalE C e env h) env fun v h => .ret v h := by
  first
    | rfl
    | (simp only [exec]; congr 1; funext k h; cases k <;> rfl)
@[simp] theorem ex_raise (C : Cx) (c : String) (e : Ex) (env : Env) (h : Heap) : exec C (.raise c e) env h = onE (evalE C e env h) env fun v h => .exn c v env h := by
  first
    | rfl
    | (simp only [exec]; congr 1; funext k h; cases k <;> rfl)
@[simp] theorem ex_pass (C : Cx) (env : Env) (h : Heap) : exec C .pass env h = .next env h := by
  first
    | rfl
    | (simp only [exec]; congr 1; funext k h; cases k <;> rfl)
@[simp] theorem exs_nil (C : Cx) (env : Env) (h : Heap) : execs C [] env h = .next env h := by first | rfl | simp only [execs]
@[simp] theorem exs_cons (C : Cx) (s : St) (ss : List St) (env : Env) (h : Heap) : execs C (s :: ss) env h = (exec C s env h).then fun env h => execs C ss env h := by first | rfl | simp only [execs]
end Mini

set_option Elab.async false
set_option linter.all false
set_option maxRecDepth 100000
set_option maxHeartbeats 4000000
/-! PC: the values' part of the reckoning, by rows -/
namespace Mini
@[simp] theorem ik_non_kint (h : Heap)  : isKind h .none .kint = some false := rfl
@[simp] theorem ik_non_kbool (h : Heap)  : isKind h .none .kbool = some false := rfl
@[simp] theorem ik_non_kstr (h : Heap)  : isKind h .none .kstr = some false := rfl
@[simp] theorem ik_non_ktup (h : Heap)  : isKind h .none .ktup = some false := rfl
@[simp] theorem ik_non_klst (h : Heap)  : isKind h .none .klst = some false := rfl
@[simp] theorem ik_non_kdict (h : Heap)  : isKind h .none .kdict = some false := rfl
@[simp] theorem ik_non_kset (h : Heap)  : isKind h .none .kset = some false := rfl
@[simp] theorem ik_bool_kint (h : Heap) (b : Bool) : isKind h (.bool b) .kint = some true := rfl
@[simp] theorem ik_bool_kbool (h : Heap) (b : Bool) : isKind h (.bool b) .kbool = some true := rfl
@[simp] theorem ik_bool_kstr (h : Heap) (b : Bool) : isKind h (.bool b) .kstr = some false := rfl
@[simp] theorem ik_bool_ktup (h : Heap) (b : Bool) : isKind h (.bool b) .ktup = some false := rfl
@[simp] theorem ik_bool_klst (h : Heap) (b : Bool) : isKind h (.bool b) .klst = some false := rfl
@[simp] theorem ik_bool_kdict (h : Heap) (b : Bool) : isKind h (.bool b) .kdict = some false := rfl
@[simp] theorem ik_bool_kset (h : Heap) (b : Bool) : isKind h (.bool b) .kset = some false := rfl
@[simp] theorem ik_int_kint (h : Heap) (i : Int) : isKind h (.int i) .kint = some true := rfl
@[simp] theorem ik_int_kbool (h : Heap) (i : Int) : isKind h (.int i) .kbool = some false := rfl
@[simp] theorem ik_int_kstr (h : Heap) (i : Int) : isKind h (.int i) .kstr = some false := rfl
@[simp] theorem ik_int_ktup (h : Heap) (i : Int) : isKind h (.int i) .ktup = some false := rfl
@[simp] theorem ik_int_klst (h : Heap) (i : Int) : isKind h (.int i) .klst = some false := rfl
@[simp] theorem ik_int_kdict (h : Heap) (i : Int) : isKind h (.int i) .kdict = some false := rfl
@[simp] theorem ik_int_kset (h : Heap) (i : Int) : isKind h (.int i) .kset = some false := rfl
@[simp] theorem ik_str_kint (h : Heap) (s : Txt) : isKind h (.str s) .kint = some false := rfl
@[simp] theorem ik_str_kbool (h : Heap) (s : Txt) : isKind h (.str s) .kbool = some false := rfl
@[simp] theorem ik_str_kstr (h : Heap) (s : Txt) : isKind h (.str s) .kstr = some true := rfl
@[simp] theorem ik_str_ktup (h : Heap) (s : Txt) : isKind h (.str s) .ktup = some false := rfl
@[simp] theorem ik_str_klst (h : Heap) (s : Txt) : isKind h (.str s) .klst = some false := rfl
@[simp] theorem ik_str_kdict (h : Heap) (s : Txt) : isKind h (.str s) .kdict = some false := rfl
@[simp] theorem ik_str_kset (h : Heap) (s : Txt) : isKind h (.str s) .kset = some false := rfl
@[simp] theorem ik_rep_kint (h : Heap) (v : Val) : isKind h (.rep v) .kint = some false := rfl
@[simp] theorem ik_rep_kbool (h : Heap) (v : Val) : isKind h (.rep v) .kbool = some false := rfl
@[simp] theorem ik_rep_kstr (h : Heap) (v : Val) : isKind h (.rep v) .kstr = some true := rfl
@[simp] theorem ik_rep_ktup (h : Heap) (v : Val) : isKind h (.rep v) .ktup = some false := rfl
@[simp] theorem ik_rep_klst (h : Heap) (v : Val) : isKind h (.rep v) .klst = some false := rfl
@[simp] theorem ik_rep_kdict (h : Heap) (v : Val) : isKind h (.rep v) .kdict = some false := rfl
@[simp] theorem ik_rep_kset (h : Heap) (v : Val) : isKind h (.rep v) .kset = some false := rfl
@[simp] theorem ik_tup_kint (h : Heap) (xs : List Val) : isKind h (.tup xs) .kint = some false := rfl
@[simp] theorem ik_tup_kbool (h : Heap) (xs : List Val) : isKind h (.tup xs) .kbool = some false := rfl
@[simp] theorem ik_tup_kstr (h : Heap) (xs : List Val) : isKind h (.tup xs) .kstr = some false := rfl
@[simp] theorem ik_tup_ktup (h : Heap) (xs : List Val) : isKind h (.tup xs) .ktup = some true := rfl
@[simp] theorem ik_tup_klst (h : Heap) (xs : List Val) : isKind h (.tup xs) .klst = some false := rfl
@[simp] theorem ik_tup_kdict (h : Heap) (xs : List Val) : isKind h (.tup xs) .kdict = some false := rfl
@[simp] theorem ik_tup_kset (h : Heap) (xs : List Val) : isKind h (.tup xs) .kset = some false := rfl
@[simp] theorem ik_lst_kint (h : Heap) (xs : List Val) : isKind h (.lst xs) .kint = some false := rfl
@[simp] theorem ik_lst_kbool (h : Heap) (xs : List Val) : isKind h (.lst xs) .kbool = some false := rfl
@[simp] theorem ik_lst_kstr (h : Heap) (xs : List Val) : isKind h (.lst xs) .kstr = some false := rfl
@[simp] theorem ik_lst_ktup (h : Heap) (xs : List Val) : isKind h (.lst xs) .ktup = some false := rfl
@[simp] theorem ik_lst_klst (h : Heap) (xs : List Val) : isKind h (.lst xs) .klst = some true := rfl
@[simp] theorem ik_lst_kdict (h : Heap) (xs : List Val) : isKind h (.lst xs) .kdict = some false := rfl
@[simp] theorem ik_lst_kset (h : Heap) (xs : List Val) : isKind h (.lst xs) .kset = some false := rfl
@[simp] theorem ik_scr_kint (h : Heap) (xs : List Val) : isKind h (.scr xs) .kint = some false := rfl
@[simp] theorem ik_scr_kbool (h : Heap) (xs : List Val) : isKind h (.scr xs) .kbool = some false := rfl
@[simp] theorem ik_scr_kstr (h : Heap) (xs : List Val) : isKind h (.scr xs) .kstr = some false := rfl
@[simp] theorem ik_scr_ktup (h : Heap) (xs : List Val) : isKind h (.scr xs) .ktup = some false := rfl
@[simp] theorem ik_scr_klst (h : Heap) (xs : List Val) : isKind h (.scr xs) .klst = some true := rfl
@[simp] theorem ik_scr_kdict (h : Heap) (xs : List Val) : isKind h (.scr xs) .kdict = some false := rfl
@[simp] theorem ik_scr_kset (h : Heap) (xs : List Val) : isKind h (.scr xs) .kset = some false := rfl
@[simp] theorem ik_emp_kint (h : Heap)  : isKind h .emp .kint = some false := rfl
@[simp] theorem ik_emp_kbool (h : Heap)  : isKind h .emp .kbool = some false := rfl
@[simp] theorem ik_emp_kstr (h : Heap)  : isKind h .emp .kstr = some false := rfl
@[simp] theorem ik_emp_ktup (h : Heap)  : isKind h .emp .ktup = some false := rfl
@[simp] theorem ik_emp_klst (h : Heap)  : isKind h .emp .klst = some false := rfl
@[simp] theorem ik_emp_kdict (h : Heap)  : isKind h .emp .kdict = some true := rfl
@[simp] theorem ik_emp_kset (h : Heap)  : isKind h .emp .kset = some false := rfl
@[simp] theorem biV_isi (h : Heap) (v : Val) (k : Kind) : biV (.isi [k]) h [v] = (isKind h v k).map .bool := rfl
@[simp] theorem biV_len (h : Heap) (vs : List Val) : biV .len h vs = biLen h vs := rfl
@[simp] theorem biLen_tup (h : Heap) (xs : List Val) : biLen h [(.tup xs)] = some (.int xs.length) := rfl
@[simp] theorem seq_tup (h : Heap) (xs : List Val) : seqOf h (.tup xs) = some xs := rfl
@[simp] theorem biLen_lst (h : Heap) (xs : List Val) : biLen h [(.lst xs)] = some (.int xs.length) := rfl
@[simp] theorem seq_lst (h : Heap) (xs : List Val) : seqOf h (.lst xs) = some xs := rfl
@[simp] theorem biLen_scr (h : Heap) (xs : List Val) : biLen h [(.scr xs)] = some (.int xs.length) := rfl
@[simp] theorem seq_scr (h : Heap) (xs : List Val) : seqOf h (.scr xs) = some xs := rfl
@[simp] theorem lstOf_lst (h : Heap) (xs : List Val) : lstOf h (.lst xs) = some xs := rfl
@[simp] theorem biV_sum (h : Heap) (vs : List Val) : biV .sum h vs = biInts (fun ns => some (.int ns.sum)) h vs := rfl
@[simp] theorem biInts_lst (f : List Int → Option Val) (h : Heap) (xs : List Val) : biInts f h [.lst xs] = (intsOf xs).bind f := rfl
@[simp] theorem biV_tuple (h : Heap) (v : Val) : biV .tuple h [v] = (seqOf h v).map .tup := rfl
@[simp] theorem biV_list (h : Heap) (v : Val) : biV .list h [v] = (seqOf h v).map .lst := rfl
@[simp] theorem biV_repr (h : Heap) (vs : List Val) : biV .repr h vs = biRepr h vs := rfl
@[simp] theorem biV_int_i (h : Heap) (i : Int) : biV .int h [.int i] = some (.int i) := rfl
@[simp] theorem biV_int_b (h : Heap) (b : Bool) : biV .int h [.bool b] = some (.int (if b then 1 else 0)) := rfl
@[simp] theorem biV_str_i (h : Heap) (i : Int) : biV .str h [.int i] = (if small 1900 i then some (.str (intTxt i)) else none) := rfl
@[simp] theorem biV_str_s (h : Heap) (s : Txt) : biV .str h [.str s] = some (.str s) := rfl
@[simp] theorem biV_min2 (h : Heap) (i j : Int) : biV .min h [.int i, .int j] = some (.int (if j < i then j else i)) := rfl
@[simp] theorem biV_max2 (h : Heap) (i j : Int) : biV .max h [.int i, .int j] = some (.int (if j > i then j else i)) := rfl
@[simp] theorem biV_abs (h : Heap) (i : Int) : biV .abs h [.int i] = some (.int (if i < 0 then -i else i)) := rfl
@[simp] theorem tr_non (h : Heap) : truthy h .none = some false := rfl
@[simp] theorem tr_bool (h : Heap) (b : Bool) : truthy h (.bool b) = some b := rfl
@[simp] theorem tr_int (h : Heap) (i : Int) : truthy h (.int i) = some (i != 0) := rfl
@[simp] theorem tr_tup (h : Heap) (xs : List Val) : truthy h (.tup xs) = some (!xs.isEmpty) := rfl
@[simp] theorem tr_lst (h : Heap) (xs : List Val) : truthy h (.lst xs) = some (!xs.isEmpty) := rfl
@[simp] theorem tr_emp (h : Heap) : truthy h .emp = some false := rfl
@[simp] theorem add_int (h : Heap) (i j : Int) : opBin .add h (.int i) (.int j) = some (.int (i + j)) := rfl
@[simp] theorem add_tup (h : Heap) (x y : List Val) : opBin .add h (.tup x) (.tup y) = (if x.length + y.length ≤ line then some (.tup (x ++ y)) else none) := rfl
@[simp] theorem add_lst (h : Heap) (x y : List Val) : opBin .add h (.lst x) (.lst y) = (if x.length + y.length ≤ line then some (.lst (x ++ y)) else none) := rfl
@[simp] theorem add_str (h : Heap) (x y : Txt) : opBin .add h (.str x) (.str y) = (if x.length + y.length ≤ line then some (.str (x ++ y)) else none) := rfl
@[simp] theorem sub_int (h : Heap) (i j : Int) : opBin .sub h (.int i) (.int j) = some (.int (i - j)) := rfl
@[simp] theorem mul_int (h : Heap) (i j : Int) : opBin .mul h (.int i) (.int j) = (if small 4000 i && small 4000 j then some (.int (i * j)) else none) := rfl
@[simp] theorem mul_lst (h : Heap) (x : List Val) (j : Int) : opBin .mul h (.lst x) (.int j) = (if x.length * j.toNat ≤ line && small 62 j then some (.lst (List.replicate j.toNat x).flatten) else none) := rfl
@[simp] theorem mul_tup (h : Heap) (x : List Val) (j : Int) : opBin .mul h (.tup x) (.int j) = (if !x.isEmpty && 2 ≤ j && j ≤ 1000 && x.length ≤ 1000 then some (.tup (List.replicate j.toNat x).flatten) else none) := rfl
@[simp] theorem fdiv_int (h : Heap) (i j : Int) : opBin .fdiv h (.int i) (.int j) = (if (0 < j && small 4000 j) = true then some (.int (i / j)) else none) := rfl
@[simp] theorem mod_int (h : Heap) (i j : Int) : opBin .mod h (.int i) (.int j) = (if (decide (0 < j)) = true then some (.int (i % j)) else none) := rfl
@[simp] theorem pow_int (h : Heap) (i j : Int) : opBin .pow h (.int i) (.int j) = (if (0 ≤ j && j ≤ 1000 && small 64 i) = true then some (.int (i ^ j.toNat)) else none) := rfl
@[simp] theorem cmp_lt (h : Heap) (i j : Int) : opCmp .lt h (.int i) (.int j) = some (decide (i < j)) := rfl
@[simp] theorem cmp_le (h : Heap) (i j : Int) : opCmp .le h (.int i) (.int j) = some (decide (i ≤ j)) := rfl
@[simp] theorem cmp_gt (h : Heap) (i j : Int) : opCmp .gt h (.int i) (.int j) = some (decide (j < i)) := rfl
@[simp] theorem cmp_ge (h : Heap) (i j : Int) : opCmp .ge h (.int i) (.int j) = some (decide (j ≤ i)) := rfl
@[simp] theorem cmp_eq (h : Heap) (a b : Val) : opCmp .eq h a b = opEq h a b := rfl
@[simp] theorem cmp_ne (h : Heap) (a b : Val) : opCmp .ne h a b = (opEq h a b).map not := rfl
@[simp] theorem cmp_is (h : Heap) (a : Val) : opCmp .is h a .none = some (decide (a = .none)) := rfl
@[simp] theorem cmp_isnot (h : Heap) (a : Val) : opCmp .isnot h a .none = some (!decide (a = .none)) := rfl
@[simp] theorem asg_loc (h : Heap) (i : Nat) (v : Val) (env : Env) : asgT h (.loc i) v env = (if i < env.length then some (env.set i (some v)) else none) := rfl
@[simp] theorem asg_tup (h : Heap) (ts : List Tg) (xs : List Val) (env : Env) : asgT h (.tup ts) (.tup xs) env = asgTs h ts xs env := rfl
@[simp] theorem asgs_nil (h : Heap) (env : Env) : asgTs h [] [] env = some env := rfl
@[simp] theorem asgs_cons (h : Heap) (t : Tg) (ts : List Tg) (v : Val) (vs : List Val) (env : Env) : asgTs h (t :: ts) (v :: vs) env = (asgT h t v env).bind fun env' => asgTs h ts vs env' := rfl
@[simp] theorem get_tup (h : Heap) (xs : List Val) (i : Int) : getIt h (.tup xs) (.int i) = (ixOf xs.length i).bind fun k => xs[k]? := rfl
@[simp] theorem get_lst (h : Heap) (xs : List Val) (i : Int) : getIt h (.lst xs) (.int i) = (ixOf xs.length i).bind fun k => xs[k]? := rfl
@[simp] theorem st_nil  : stills [] = true := rfl
@[simp] theorem st_cons (v : Val) (r : List Val) : stills (v :: r) = (still v && stills r) := rfl
@[simp] theorem still_non  : still .none = true := rfl
@[simp] theorem still_bool (b : Bool) : still (.bool b) = true := rfl
@[simp] theorem still_int (i : Int) : still (.int i) = true := rfl
@[simp] theorem still_str (s : Txt) : still (.str s) = true := rfl
@[simp] theorem still_rep (v : Val) : still (.rep v) = true := rfl
@[simp] theorem still_tup (xs : List Val) : still (.tup xs) = stills xs := rfl
@[simp] theorem still_lst (xs : List Val) : still (.lst xs) = stills xs := rfl
@[simp] theorem still_scr (xs : List Val) : still (.scr xs) = stills xs := rfl
@[simp] theorem still_emp  : still .emp = true := rfl
@[simp] theorem still_ref (n : Nat) : still (.ref n) = true := rfl
@[simp] theorem part_gap  : partOf .gap = some none := rfl
@[simp] theorem part_int (i : Int) : partOf (.int i) = some (some i) := rfl
@[simp] theorem slice_tup (h : Heap) (xs : List Val) (lo hi : Option Int) : sliceIt h (.tup xs) lo hi = some (.tup (cut xs lo hi)) := rfl
@[simp] theorem slice_lst (h : Heap) (xs : List Val) (lo hi : Option Int) : sliceIt h (.lst xs) lo hi = some (.lst (cut xs lo hi)) := rfl
@[simp] theorem rev_tup (h : Heap) (xs : List Val) : revIt h (.tup xs) = some (.tup xs.reverse) := rfl
@[simp] theorem loop_nil (chk : Heap → Bool) (step : Val → Env → Heap → Out) (env : Env) (h : Heap) : loopGo chk step [] env h = .next env h := rfl
@[simp] theorem lc_nil (step : Val → Heap → Res (List Val)) (h : Heap) : lcGo step [] h = .ok [] h := rfl
@[simp] theorem ints_nil  : intsOf [] = some [] := rfl
@[simp] theorem ints_cons (i : Int) (r : List Val) : intsOf (.int i :: r) = (intsOf r).map (i :: ·) := rfl
@[simp] theorem enum_nil (k : Nat) : enumL k [] = [] := rfl
@[simp] theorem enum_cons (k : Nat) (v : Val) (r : List Val) : enumL k (v :: r) = .tup [.int k, v] :: enumL (k + 1) r := rfl
@[simp] theorem wipe_loc (env : Env) (i : Nat) : wipe env (.loc i) = env.set i none := rfl
@[simp] theorem wipe_tup (env : Env) (ts : List Tg) : wipe env (.tup ts) = wipe.go env ts := rfl
@[simp] theorem wipe_nil (env : Env) : wipe.go env [] = env := rfl
@[simp] theorem wipe_cons (env : Env) (t : Tg) (ts : List Tg) : wipe.go env (t :: ts) = wipe.go (wipe env t) ts := rfl
end Mini
namespace Mini
theorem plain_ne_rep {k : Nat} {a v : Val} (p : plain k a = true) : a ≠ .rep v := by
  rintro rfl
  cases k <;> simp [plain] at p
theorem opEq_of {a b : Val} (h : Heap) (pa : plain 60 a = true) (pb : plain 60 b = true) : opEq h a b = some (eqv a b) := by
  have e : opEq h a b = match rd 0 h a, rd 0 h b with
      | some x, some y => if plain depthMost x && plain depthMost y then some (eqv x y) else if decide (x = y) && plainR depthMost x then some true else none
      | _, _ => none := by
    cases a with
    | rep v => exact absurd rfl (plain_ne_rep pa)
    | _ => rfl
  rw [e, rd_plain pa, rd_plain pb]
  show (if plain 60 a && plain 60 b then some (eqv a b) else if decide (a = b) && plainR 60 a then some true else none) = _
  rw [pa, pb]; rfl
@[simp] theorem eqv_int (i j : Int) : eqv (.int i) (.int j) = (i == j) := rfl
theorem eqv_nil (l : List Val) : eqv (.lst l) (.lst []) = l.isEmpty := by cases l <;> rfl
/-- a list against [] -/
theorem ne_nil {h : Heap} {l : List Val} {k : Nat} (p : l.all (plain k) = true) (hk : k ≤ 59) : opEq h (.lst l) (.lst []) = some l.isEmpty := by
  rw [opEq_of h (plain_up (k + 1) 60 _ (by omega) (by simpa only [plain] using p)) rfl, eqv_nil]
@[simp] theorem asList_app (m : M (List Val)) (h : Heap) : asList m h = (m h).bd fun xs h => if xs.length ≤ line then .ok (.lst xs) h else .bad := m_bind _ _ _
theorem lcGo_map {step : Val → Heap → Res (List Val)} {f : Val → List Val} {h : Heap} : ∀ (xs : List Val), (∀ v ∈ xs, step v h = .ok (f v) h) → lcGo step xs h = .ok (xs.flatMap f) h
  | [], _ => rfl
  | v :: r, hs => by
    simp only [lcGo, hs v List.mem_cons_self, lcGo_map r fun w hw => hs w (List.mem_cons_of_mem _ hw), List.flatMap_cons]
@[simp] theorem guarded_app (chk : Heap → Bool) (m : M (List Val)) (h : Heap) : guarded chk m h = (m h).bd fun xs h => if (chk h && stills xs) = true then .ok xs h else .bad := m_bind _ _ _
theorem biInts_of {f : List Int → Option Val} {h : Heap} {is : List Int} : biInts f h [.lst (is.map .int)] = f is := by
  have : ∀ is : List Int, intsOf (is.map .int) = some is := by
    intro is
    induction is with
    | nil => rfl
    | cons i r ih => simp [ih]
  simp [this]
end Mini
namespace Mini
@[simp] theorem small_ten : small 64 10 = true := rfl
theorem small_up {j k : Nat} {i : Int} (hk : j ≤ k) (h : i.natAbs < 2 ^ j) : small k i = true := by
  unfold small
  exact decide_eq_true (Nat.lt_of_lt_of_le h (Nat.pow_le_pow_right (by omega) hk))
end Mini
namespace Mini
@[simp] theorem ex_sub (C : Cx) (o i e : Ex) (env : Env) (h : Heap) : exec C (.sub o i e) env h = onE (((evalE C e env).bind fun v => (evalE C o env).bind fun x => (evalE C i env).bind fun y h => if still v then M.opt (setIt h x y v) h else .bad) h) env fun h' _ => .next env h' := rfl
/-- what a method gives -/
def giveM (r : Option (Val × Heap)) : Res Val := match r with
  | some (v, h') => .ok v h'
  | none => .bad
@[simp] theorem give_some (v : Val) (h : Heap) : giveM (some (v, h)) = .ok v h := rfl
@[simp] theorem ev_bm (C : Cx) (env : Env) (e : Ex) (m : Bm) (es : List Ex) : evalE C (.bm e m es) env = (evalE C e env).bind fun o h => if bmTy m h o then ((evalEs C es env).bind fun vs h => giveM (bmV m h o vs)) h else .bad := by
  simp only [evalE]
  rfl
def thawV (v : Val) (h : Heap) : Res Val := match v with
  | .lst xs => if stills xs then .ok (.ref h.length) (h ++ [.list xs]) else .bad
  | _ => .bad
@[simp] theorem ev_thaw (C : Cx) (env : Env) (e : Ex) : evalE C (.thaw e) env = (evalE C e env).bind thawV := by
  simp only [evalE]
  congr 1
  funext v h
  cases v <;> rfl
@[simp] theorem thaw_lst (xs : List Val) (h : Heap) : thawV (.lst xs) h = if stills xs then .ok (.ref h.length) (h ++ [.list xs]) else .bad := rfl
theorem at_end {α : Type} (h : List α) (o : α) : (h ++ [o])[h.length]? = some o := by simp
theorem set_end {α : Type} (h : List α) (o o' : α) : (h ++ [o]).set h.length o' = h ++ [o'] := by simp
theorem rd_ref {h : Heap} {n k : Nat} {ys : List Val} (e : h[n]? = some (.list ys)) (p : ys.all (plain k) = true) : rd 0 h (.ref n) = some (.lst ys) := by
  show rdN 0 h 6 n = _
  simp only [rdN, Nat.not_lt_zero, if_false, e]
  rw [plain_rds _ k ys p]; rfl
/-- a list of the heap against [] -/
theorem ref_nil {h : Heap} {n k : Nat} {ys : List Val} (e : h[n]? = some (.list ys)) (p : ys.all (plain k) = true) (hk : k ≤ 59) : opEq h (.ref n) (.lst []) = some ys.isEmpty := by
  have e1 : opEq h (.ref n) (.lst []) = match rd 0 h (.ref n), rd 0 h (.lst []) with
      | some x, some y => if plain depthMost x && plain depthMost y then some (eqv x y) else if decide (x = y) && plainR depthMost x then some true else none
      | _, _ => none := rfl
  rw [e1, rd_ref e p]
  show (if plain 60 (.lst ys) && plain 60 (.lst []) then some (eqv (.lst ys) (.lst [])) else if decide (Val.lst ys = .lst []) && plainR 60 (.lst ys) then some true else none) = _
  rw [plain_up (k + 1) 60 (.lst ys) (by omega) (by simpa only [plain] using p), eqv_nil]; rfl
theorem get_ref {h : Heap} {n : Nat} {ys : List Val} {i : Int} (e : h[n]? = some (.list ys)) : getIt h (.ref n) (.int i) = (ixOf ys.length i).bind fun k => ys[k]? := by
  simp only [getIt, e]
theorem set_ref {h : Heap} {n : Nat} {ys : List Val} {i : Int} {v : Val} (e : h[n]? = some (.list ys)) : setIt h (.ref n) (.int i) v = (ixOf ys.length i).map fun k => h.set n (.list (ys.set k v)) := by
  simp only [setIt, e]
theorem bmTy_list {h : Heap} {n : Nat} {ys : List Val} (e : h[n]? = some (.list ys)) : bmTy .append h (.ref n) = true := by
  simp only [bmTy, e]
theorem append_ref {h : Heap} {n : Nat} {ys : List Val} {v : Val} (e : h[n]? = some (.list ys)) (hl : ys.length < line) (hs : still v = true) : bmV .append h (.ref n) [v] = some (.none, h.set n (.list (ys ++ [v]))) := by
  simp only [bmV, bmAppend, e, hs, hl, decide_true, Bool.and_true, if_true]
theorem seq_ref {h : Heap} {n : Nat} {ys : List Val} (e : h[n]? = some (.list ys)) : seqOf h (.ref n) = some ys := by
  simp only [seqOf, e]
theorem loop_next {chk : Heap → Bool} {step : Val → Env → Heap → Out} {v : Val} {vs : List Val} {env env' : Env} {h h' : Heap} (e : step v env h = .next env' h') (hc : chk h' = true) : loopGo chk step (v :: vs) env h = loopGo chk step vs env' h' := by
  simp only [loopGo, e, hc, if_true]
theorem loop_ret {chk : Heap → Bool} {step : Val → Env → Heap → Out} {v w : Val} {vs : List Val} {env : Env} {h h' : Heap} (e : step v env h = .ret w h') : loopGo chk step (v :: vs) env h = .ret w h' := by
  simp only [loopGo, e]
theorem loop_exn {chk : Heap → Bool} {step : Val → Env → Heap → Out} {v w : Val} {c : String} {vs : List Val} {env env' : Env} {h h' : Heap} (e : step v env h = .exn c w env' h') : loopGo chk step (v :: vs) env h = .exn c w env' h' := by
  simp only [loopGo, e]
end Mini
namespace Mini
/-- whole numbers as values -/
def numL (l : List Int) : List Val := l.map .int
@[simp] theorem ints_len (l : List Int) : (numL l).length = l.length := by simp [numL]
@[simp] theorem ints_of (l : List Int) : intsOf (numL l) = some l := by
  induction l with
  | nil => rfl
  | cons i r ih => simp only [numL, List.map_cons, ints_cons] at ih ⊢; rw [ih]; rfl
theorem ints_plain (l : List Int) : (numL l).all (plain 0) = true := by
  simp only [numL, List.all_map]
  exact List.all_eq_true.mpr fun i _ => rfl
@[simp] theorem ints_stills (l : List Int) : stills (numL l) = true := plain_stills 0 _ (ints_plain l)
end Mini
namespace Mini
@[simp] theorem ex_try (C : Cx) (b : List St) (hs : Hs) (env : Env) (h : Heap) : exec C (.try_ b hs) env h = match execs C b env h with
    | .exn c v env' h' => handle C hs c v env' h'
    | o => o := by
  first
    | rfl
    | (simp only [exec]; rfl)
@[simp] theorem rep_eq (h : Heap) (x : Val) : opEq h (.rep x) (.rep x) = some true := by
  show (if x = x then some true else none) = _
  rw [if_pos rfl]
@[simp] theorem hush_ok (v : Val) (h : Heap) : hush (.ok v h) = if still v then .ok v h else .bad := rfl
@[simp] theorem repr_non (h : Heap) : biRepr h [.none] = some (.str [78, 111, 110, 101]) := rfl
@[simp] theorem repr_bool (h : Heap) (b : Bool) : biRepr h [.bool b] = some (.str (if b then [84, 114, 117, 101] else [70, 97, 108, 115, 101])) := rfl
@[simp] theorem repr_int (h : Heap) (i : Int) : biRepr h [.int i] = (if small 1900 i then some (.str (intTxt i)) else none) := rfl
@[simp] theorem repr_emp (h : Heap) : biRepr h [.emp] = some (.rep .emp) := rfl
end Mini
namespace Mini
def dicV (vs : List Val) (h : Heap) : Res Val := match pairUp vs with
  | some kvs => if kvs.length ≤ 15 then .ok (.ref h.length) (h ++ [.dict kvs]) else .bad
  | none => .bad
@[simp] theorem ev_dic (C : Cx) (env : Env) (es : List Ex) : evalE C (.dic es) env = (evalEs C es env).bind dicV := by
  simp only [evalE]
  rfl
end Mini
namespace Mini
@[simp] theorem biV_str_b (h : Heap) (b : Bool) : biV .str h [.bool b] = some (.str (if b then [84, 114, 117, 101] else [70, 97, 108, 115, 101])) := rfl
@[simp] theorem biV_str_n (h : Heap) : biV .str h [.none] = some (.str [78, 111, 110, 101]) := rfl
end Mini
namespace Mini
mutual
theorem plainR_rd (f : Nat → Option Val) : ∀ (k : Nat) (v : Val), plainR k v = true → rdA f v = some v
  | _, .none, _ => rfl
  | _, .bool _, _ => rfl
  | _, .int _, _ => rfl
  | _, .str _, _ => rfl
  | _, .rep _, _ => rfl
  | k + 1, .tup xs, h => by
    simp only [plainR] at h
    simp only [rdA, plainR_rds f k xs h, Option.map_some]
  | k + 1, .lst xs, h => by
    simp only [plainR] at h
    simp only [rdA, plainR_rds f k xs h, Option.map_some]
  | 0, .tup xs, h => by simp [plainR] at h
  | 0, .lst xs, h => by simp [plainR] at h
  | k, .ref _, h => by cases k <;> simp [plainR] at h
  | k, .clo _ _, h => by cases k <;> simp [plainR] at h
  | k, .exc _ _, h => by cases k <;> simp [plainR] at h
  | k, .emp, h => by cases k <;> simp [plainR] at h
  | k, .gap, h => by cases k <;> simp [plainR] at h
  | k, .scr _, h => by cases k <;> simp [plainR] at h
theorem plainR_rds (f : Nat → Option Val) : ∀ (k : Nat) (xs : List Val), xs.all (plainR k) = true → rdAs f xs = some xs
  | _, [], _ => rfl
  | k, x :: r, h => by
    simp only [List.all_cons, Bool.and_eq_true] at h
    simp only [rdAs, plainR_rd f k x h.1, plainR_rds f k r h.2]
end
/-- no scalar -/
def comp : Val → Bool
  | .tup _ => true
  | .lst _ => true
  | .str _ => true
  | _ => false
theorem repr_of {h : Heap} {v : Val} (c : comp v = true) (p : plainR 60 v = true) (s : showInts v = true) (w : wt v ≤ line) : biRepr h [v] = some (.rep v) := by
  have e : biRepr h [v] = (rd 0 h v).bind fun v => if plainR depthMost v && showInts v && decide (wt v ≤ line) then some (.rep v) else none := by
    cases v <;> first | rfl | (simp [comp] at c)
  rw [e, show rd 0 h v = some v from plainR_rd _ 60 v p]
  show (if plainR 60 v && showInts v && decide (wt v ≤ line) then some (Val.rep v) else none) = _
  rw [p, s, decide_eq_true w]; rfl
/-- alike, texts of data within -/
theorem opEq_R {x : Val} (h : Heap) (p : plainR 60 x = true) : opEq h x x = some true := by
  cases x with
  | rep v => exact rep_eq h v
  | _ =>
    first
      | (have e : ∀ y : Val, rd 0 h y = some y → plainR 60 y = true → (match rd 0 h y, rd 0 h y with
            | some x, some y => if plain depthMost x && plain depthMost y then some (eqv x y) else if decide (x = y) && plainR depthMost x then some true else none
            | _, _ => none) = some true := fun y e p => by
          rw [e]
          show (if plain 60 y && plain 60 y then some (eqv y y) else if decide (y = y) && plainR 60 y then some true else none) = _
          cases q : plain 60 y with
          | true => simp [eqv_self 60 y q]
          | false => simp [p]
         exact e _ (plainR_rd _ 60 _ p) p)
end Mini

set_option Elab.async false
set_option linter.all false
set_option maxRecDepth 100000
set_option maxHeartbeats 0
/-! the mini-AST, printed by wip/gen.py -/
namespace K16
open Mini

/-- 0:thing -/
def F_is_number : Fn := { params := 1, slots := 1, shut := true, clo := false, body := [.ret (.and (.bi (.isi [.kint]) [(.loc 0)]) (.not (.bi (.isi [.kbool]) [(.loc 0)])))] }
/-- 0:thing 1:least 2:most -/
def F_is_among : Fn := { params := 3, slots := 3, shut := true, clo := false, body := [.ret (.and (.call "is_number" [(.loc 0)]) (.chain .le .le (.loc 1) (.loc 0) (.loc 2)))] }
/-- 0:thing 1:least 2:most -/
def F_is_tuple_of : Fn := { params := 3, slots := 3, shut := true, clo := false, body := [.ret (.and (.bi (.isi [.ktup]) [(.loc 0)]) (.chain .le .le (.loc 1) (.bi .len [(.loc 0)]) (.loc 2)))] }
/-- 0:thing -/
def F_is_store : Fn := { params := 1, slots := 1, shut := true, clo := false, body := [.ret (.and (.call "is_tuple_of" [(.loc 0), (.lit (.int 2)), (.lit (.int 2))]) (.and (.call "is_among" [(.idx (.loc 0) (.lit (.int 0))), (.lit (.int 1)), (.con "GREATEST_STORE")]) (.call "is_among" [(.idx (.loc 0) (.lit (.int 1))), (.lit (.int 0)), (.con "GREATEST_STORE")])))] }
/-- 0:fleet 1:number 2:store -/
def B_need_fleet_0 : List St := [.cond (.not (.call "is_store" [(.loc 2)])) [.raise "BadFleet" (.loc 1)] []]
def F_need_fleet : Fn := { params := 1, slots := 3, shut := true, clo := false, body := [.cond (.not (.call "is_tuple_of" [(.loc 0), (.lit (.int 0)), (.con "MOST_STORES")])) [.raise "BadFleet" (.lit .none)] [], .loop (.tup [(.loc 1), (.loc 2)]) (.enum (.loc 0)) B_need_fleet_0, .ret (.loc 0)] }
/-- 0:stores 1:found 2:power 3:has 4:whole 5:rest -/
def B_drops_of_0 : List St := [.asg (.tup [(.loc 4), (.loc 5)]) (.tup [(.bin .fdiv (.loc 3) (.loc 2)), (.bin .mod (.loc 3) (.loc 2))]), .cond (.cmp .gt (.loc 4) (.lit (.int 0))) [.sub (.loc 1) (.loc 4) (.bin .sub (.bin .add (.bm (.loc 1) .get [(.loc 4), (.lit (.int 0))]) (.loc 2)) (.loc 5))] [], .cond (.cmp .gt (.loc 5) (.lit (.int 0))) [.sub (.loc 1) (.bin .add (.loc 4) (.lit (.int 1))) (.bin .add (.bm (.loc 1) .get [(.bin .add (.loc 4) (.lit (.int 1))), (.lit (.int 0))]) (.loc 5))] []]
def F_drops_of : Fn := { params := 1, slots := 6, shut := false, clo := false, body := [.asg (.loc 1) (.dic []), .loop (.tup [(.loc 2), (.loc 3)]) (.of (.loc 0)) B_drops_of_0, .ret (.loc 1)] }
/-- 0:stores 1:drops 2:step 3:ticks 4:pairs 5:end -/
def B_profile_of_stores_0 : List St := [.exp (.bm (.loc 4) .append [(.tup [(.loc 2), (.bin .sub (.loc 5) (.loc 3))])]), .asg (.tup [(.loc 2), (.loc 3)]) (.tup [(.bin .sub (.loc 2) (.idx (.loc 1) (.loc 5))), (.loc 5)])]
def F_profile_of_stores : Fn := { params := 1, slots := 6, shut := true, clo := false, body := [.asg (.loc 1) (.call "drops_of" [(.loc 0)]), .asg (.tup [(.loc 2), (.loc 3), (.loc 4)]) (.tup [(.bi .sumv [(.loc 1)]), (.lit (.int 0)), (.thaw (.lst []))]), .loop (.loc 5) (.of (.bi .sorted [(.loc 1)])) B_profile_of_stores_0, .ret (.bi .tuple [(.loc 4)])] }
/-- 0:fleet -/
def F_profile_of_fleet : Fn := { params := 1, slots := 1, shut := true, clo := false, body := [.ret (.call "profile_of_stores" [(.call "need_fleet" [(.loc 0)])])] }
/-- 0:store -/
def F_time_of : Fn := { params := 1, slots := 1, shut := true, clo := false, body := [.ret (.neg (.bin .fdiv (.neg (.idx (.loc 0) (.lit (.int 1)))) (.idx (.loc 0) (.lit (.int 0)))))] }
/-- 0:fleet 1:store -/
def E_times_of_0 : Ex := (.call "time_of" [(.loc 1)])
def I_times_of_1 : List Ex := []
def F_times_of : Fn := { params := 1, slots := 2, shut := true, clo := false, body := [.ret (.bi .tuple [(.lc E_times_of_0 (.loc 1) (.of (.call "need_fleet" [(.loc 0)])) I_times_of_1)])] }
/-- 0:script 1:many 2:salt 3:found 4:cell 5:rest 6:turn 7:start 8:mixed -/
def B__law_tape_0 : List St := [.cond (.cmp .eq (.loc 5) (.lit (.int 0))) [.brk] [], .exp (.bm (.loc 3) .append [(.bin .mod (.loc 5) (.lit (.int 1000)))]), .asg (.loc 5) (.bin .fdiv (.loc 5) (.lit (.int 1000)))]
def B__law_tape_1 : List St := [.asg (.loc 5) (.bi .abs [(.loc 4)]), .cond (.cmp .ge (.loc 5) (.bin .pow (.lit (.int 10)) (.lit (.int 18)))) [.loop (.loc 6) (.range (.lit (.int 0)) (.lit (.int 60))) B__law_tape_0] []]
def B__law_tape_2 : List St := [.asg (.loc 7) (.bin .mod (.bi .int [(.bin .add (.bin .add (.bin .mul (.loc 7) (.lit (.int 48271))) (.bin .mod (.bi .int [(.loc 4)]) (.lit (.int 1000003)))) (.lit (.int 11)))]) (.lit (.int 2147483647)))]
def B__law_tape_3 : List St := [.cond (.cmp .ge (.bi .len [(.loc 3)]) (.loc 1)) [.brk] [], .asg (.loc 7) (.bin .mod (.bi .int [(.bin .add (.bin .add (.bin .mul (.loc 7) (.lit (.int 69621))) (.loc 6)) (.lit (.int 12345)))]) (.lit (.int 2147483647))), .asg (.loc 8) (.bin .mod (.bi .int [(.bin .mul (.loc 7) (.bin .add (.loc 7) (.lit (.int 7))))]) (.lit (.int 2147483629))), .exp (.bm (.loc 3) .append [(.bin .mod (.bin .fdiv (.loc 8) (.lit (.int 13))) (.lit (.int 1000)))])]
def F__law_tape : Fn := { params := 3, slots := 9, shut := false, clo := false, body := [.asg (.loc 3) (.thaw (.lst [])), .loop (.loc 4) (.of (.slice (.loc 0) (.lit .gap) (.lit (.int 63)))) B__law_tape_1, .asg (.loc 7) (.bin .add (.bin .mul (.bi .len [(.loc 0)]) (.lit (.int 31))) (.bin .mul (.loc 2) (.lit (.int 7919)))), .loop (.loc 4) (.of (.slice (.loc 0) (.lit .gap) (.lit (.int 63)))) B__law_tape_2, .loop (.loc 6) (.range (.lit (.int 0)) (.loc 1)) B__law_tape_3, .ret (.thaw (.rev (.slice (.loc 3) (.lit .gap) (.loc 1))))] }
/-- 0:tape 1:limit -/
def F__law_take : Fn := { params := 2, slots := 2, shut := false, clo := false, body := [.cond (.cmp .eq (.loc 0) (.lst [])) [.ret (.lit (.int 0))] [], .ret (.bin .mod (.bm (.loc 0) .pop []) (.loc 1))] }
/-- 0:got 1:due 2:k -/
def B__law_like_0 : List St := [.cond (.not (.call "_law_like" [(.idx (.loc 0) (.loc 2)), (.idx (.loc 1) (.loc 2))])) [.ret (.lit (.bool false))] []]
def F__law_like : Fn := { params := 2, slots := 3, shut := true, clo := false, body := [.cond (.bi (.isi [.ktup]) [(.loc 1)]) [.cond (.or (.not (.bi (.isi [.ktup]) [(.loc 0)])) (.cmp .ne (.bi .len [(.loc 0)]) (.bi .len [(.loc 1)]))) [.ret (.lit (.bool false))] [], .loop (.loc 2) (.range (.lit (.int 0)) (.bi .len [(.loc 1)])) B__law_like_0, .ret (.lit (.bool true))] [], .cond (.cmp .is (.loc 1) (.lit .none)) [.ret (.cmp .is (.loc 0) (.lit .none))] [], .cond (.bi (.isi [.kbool]) [(.loc 1)]) [.ret (.and (.bi (.isi [.kbool]) [(.loc 0)]) (.cmp .eq (.loc 0) (.loc 1)))] [], .cond (.bi (.isi [.kint]) [(.loc 1)]) [.ret (.and (.bi (.isi [.kint]) [(.loc 0)]) (.and (.not (.bi (.isi [.kbool]) [(.loc 0)])) (.cmp .eq (.loc 0) (.loc 1))))] [], .ret (.and (.bi (.isi [.kstr]) [(.loc 0)]) (.cmp .eq (.loc 0) (.loc 1)))] }
/-- 0:many 1:found 2:turn -/
def B__law_ten_0 : List St := [.asg (.loc 1) (.bin .mul (.loc 1) (.lit (.int 10)))]
def F__law_ten : Fn := { params := 1, slots := 3, shut := true, clo := false, body := [.asg (.loc 1) (.lit (.int 1)), .loop (.loc 2) (.range (.lit (.int 0)) (.loc 0)) B__law_ten_0, .ret (.loc 1)] }
/-- 0:tape 1:found 2:turn -/
def B__law_huge_0 : List St := [.asg (.loc 1) (.bin .add (.bin .mul (.loc 1) (.lit (.int 1000))) (.call "_law_take" [(.loc 0), (.lit (.int 1000))]))]
def F__law_huge : Fn := { params := 1, slots := 3, shut := false, clo := false, body := [.asg (.loc 1) (.lit (.int 0)), .loop (.loc 2) (.range (.lit (.int 0)) (.lit (.int 10))) B__law_huge_0, .ret (.bin .fdiv (.loc 1) (.call "_law_ten" [(.call "_law_take" [(.loc 0), (.lit (.int 30))])]))] }
/-- 0:tape 1:many 2:power 3:time 4:found 5:turn 6:one -/
def B__law_stores_0 : List St := [.asg (.loc 6) (.bin .add (.lit (.int 1)) (.call "_law_take" [(.loc 0), (.loc 2)])), .exp (.bm (.loc 4) .append [(.tup [(.loc 6), (.call "_law_take" [(.loc 0), (.bin .add (.bin .mul (.loc 6) (.loc 3)) (.lit (.int 1)))])])])]
def F__law_stores : Fn := { params := 4, slots := 7, shut := false, clo := false, body := [.asg (.loc 4) (.thaw (.lst [])), .loop (.loc 5) (.range (.lit (.int 0)) (.call "_law_take" [(.loc 0), (.bin .add (.loc 1) (.lit (.int 1)))])) B__law_stores_0, .ret (.bi .tuple [(.loc 4)])] }
/-- 0:tape 1:many 2:found 3:turn 4:power 5:has -/
def B__law_great_stores_0 : List St := [.asg (.loc 4) (.bin .add (.lit (.int 1)) (.call "_law_huge" [(.loc 0)])), .asg (.loc 5) (.idx (.tup [(.call "_law_huge" [(.loc 0)]), (.bin .mul (.loc 4) (.call "_law_take" [(.loc 0), (.lit (.int 99))])), (.bin .add (.bin .mul (.loc 4) (.call "_law_take" [(.loc 0), (.lit (.int 9))])) (.lit (.int 1))), (.lit (.int 0))]) (.call "_law_take" [(.loc 0), (.lit (.int 4))])), .exp (.bm (.loc 2) .append [(.tup [(.loc 4), (.bi .min [(.loc 5), (.bin .pow (.lit (.int 10)) (.lit (.int 30)))])])])]
def F__law_great_stores : Fn := { params := 2, slots := 6, shut := false, clo := false, body := [.asg (.loc 2) (.thaw (.lst [])), .loop (.loc 3) (.range (.lit (.int 0)) (.bin .add (.lit (.int 1)) (.call "_law_take" [(.loc 0), (.loc 1)]))) B__law_great_stores_0, .ret (.bi .tuple [(.loc 2)])] }
/-- 0:stores 1:ticks 2:power 3:has -/
def E__law_value_0 : Ex := (.bi .min [(.loc 3), (.bin .mul (.loc 2) (.loc 1))])
def I__law_value_1 : List Ex := []
def F__law_value : Fn := { params := 2, slots := 4, shut := true, clo := false, body := [.ret (.bi .sum [(.lc E__law_value_0 (.tup [(.loc 2), (.loc 3)]) (.of (.loc 0)) I__law_value_1)])] }
/-- 0:stores 1:most 2:ticks -/
def E__law_curve_0 : Ex := (.call "_law_value" [(.loc 0), (.loc 2)])
def I__law_curve_1 : List Ex := []
def F__law_curve : Fn := { params := 2, slots := 3, shut := true, clo := false, body := [.ret (.lc E__law_curve_0 (.loc 2) (.range (.lit (.int 0)) (.bin .add (.loc 1) (.lit (.int 1)))) I__law_curve_1)] }
/-- 0:numbers 1:found 2:number -/
def B__law_pairs_0 : List St := [.cond (.and (.cmp .gt (.loc 2) (.lit (.int 0))) (.and (.cmp .ne (.loc 1) (.lst [])) (.cmp .eq (.idx (.idx (.loc 1) (.neg (.lit (.int 1)))) (.lit (.int 0))) (.loc 2)))) [.sub (.loc 1) (.neg (.lit (.int 1))) (.tup [(.loc 2), (.bin .add (.idx (.idx (.loc 1) (.neg (.lit (.int 1)))) (.lit (.int 1))) (.lit (.int 1)))])] [.cond (.cmp .gt (.loc 2) (.lit (.int 0))) [.exp (.bm (.loc 1) .append [(.tup [(.loc 2), (.lit (.int 1))])])] []]]
def F__law_pairs : Fn := { params := 1, slots := 3, shut := true, clo := false, body := [.asg (.loc 1) (.thaw (.lst [])), .loop (.loc 2) (.of (.loc 0)) B__law_pairs_0, .ret (.bi .tuple [(.loc 1)])] }
/-- 0:values 1:low 2:high -/
def E__law_profile_0 : Ex := (.bin .sub (.loc 2) (.loc 1))
def I__law_profile_1 : List Ex := []
def F__law_profile : Fn := { params := 1, slots := 3, shut := true, clo := false, body := [.ret (.call "_law_pairs" [(.lc E__law_profile_0 (.tup [(.loc 1), (.loc 2)]) (.zip (.loc 0) (.slice (.loc 0) (.lit (.int 1)) (.lit .gap))) I__law_profile_1)])] }
/-- 0:pairs 1:ticks 2:found 3:step 4:width -/
def B__law_at_0 : List St := [.asg (.tup [(.loc 2), (.loc 1)]) (.tup [(.bin .add (.loc 2) (.bin .mul (.loc 3) (.bi .min [(.loc 4), (.bi .max [(.loc 1), (.lit (.int 0))])]))), (.bin .sub (.loc 1) (.loc 4))])]
def F__law_at : Fn := { params := 2, slots := 5, shut := true, clo := false, body := [.asg (.loc 2) (.lit (.int 0)), .loop (.tup [(.loc 3), (.loc 4)]) (.of (.loc 0)) B__law_at_0, .ret (.loc 2)] }
/-- 0:stores 1:found 2:power 3:has -/
def B__law_kinks_0 : List St := [.sub (.loc 1) (.bin .fdiv (.loc 3) (.loc 2)) (.lit (.bool true)), .sub (.loc 1) (.bin .add (.bin .fdiv (.loc 3) (.loc 2)) (.lit (.int 1))) (.lit (.bool true))]
def F__law_kinks : Fn := { params := 1, slots := 4, shut := true, clo := false, body := [.asg (.loc 1) (.dic [(.lit (.int 0)), (.lit (.bool true))]), .loop (.tup [(.loc 2), (.loc 3)]) (.of (.loc 0)) B__law_kinks_0, .ret (.bi .sorted [(.loc 1)])] }
/-- 0:number 1:power -/
def F__law_label : Fn := { params := 2, slots := 2, shut := true, clo := false, body := [.ret (.bin .fdiv (.bin .sub (.bin .add (.loc 0) (.loc 1)) (.lit (.int 1))) (.loc 1))] }
/-- 0:ask 1:raised -/
def F__law_refused : Fn := { params := 1, slots := 2, shut := true, clo := true, body := [.try_ [.exp (.act (.loc 0) [])] (.cons ["BadFleet"] (some 1) [.ret (.ite (.eis 1 "StoreError") (.lst [(.efld 1 "place")]) (.lst [(.lit (.str [99, 108, 97, 115, 115]))]))] .nil), .ret (.lst [])] }
/-- 0:tape 1:stores 2:most 3:power 4:has -/
def E__law_small_right_0 : Ex := (.call "_law_label" [(.loc 4), (.loc 3)])
def I__law_small_right_1 : List Ex := []
def E__law_small_right_2 : Ex := (.call "_law_label" [(.loc 4), (.loc 3)])
def I__law_small_right_3 : List Ex := []
def F__law_small_right : Fn := { params := 1, slots := 5, shut := false, clo := false, body := [.asg (.loc 1) (.call "_law_stores" [(.loc 0), (.lit (.int 8)), (.lit (.int 6)), (.lit (.int 5))]), .asg (.loc 2) (.bi .max [(.bin .add (.lst [(.lit (.int 0))]) (.lc E__law_small_right_0 (.tup [(.loc 3), (.loc 4)]) (.of (.loc 1)) I__law_small_right_1))]), .cond (.not (.call "_law_like" [(.call "profile_of_fleet" [(.loc 1)]), (.call "_law_profile" [(.call "_law_curve" [(.loc 1), (.bin .add (.loc 2) (.lit (.int 1)))])])])) [.ret (.lit (.bool false))] [], .ret (.call "_law_like" [(.call "times_of" [(.loc 1)]), (.bi .tuple [(.lc E__law_small_right_2 (.tup [(.loc 3), (.loc 4)]) (.of (.loc 1)) I__law_small_right_3)])])] }
/-- 0:tape 1:stores 2:told 3:pair 4:numbers 5:one 6:later 7:step 8:width 9:power 10:has 11:ticks 12:spot -/
def E__law_great_right_0 : Ex := (.loc 3)
def I__law_great_right_1 : List Ex := [(.or (.not (.bi (.isi [.ktup]) [(.loc 3)])) (.cmp .ne (.bi .len [(.loc 3)]) (.lit (.int 2))))]
def E__law_great_right_2 : Ex := (.idx (.loc 3) (.lit (.int 0)))
def I__law_great_right_3 : List Ex := []
def E__law_great_right_4 : Ex := (.idx (.loc 3) (.lit (.int 1)))
def I__law_great_right_5 : List Ex := []
def E__law_great_right_6 : Ex := (.loc 5)
def I__law_great_right_7 : List Ex := [(.or (.not (.bi (.isi [.kint]) [(.loc 5)])) (.or (.bi (.isi [.kbool]) [(.loc 5)]) (.cmp .lt (.loc 5) (.lit (.int 1)))))]
def E__law_great_right_8 : Ex := (.lit (.int 1))
def I__law_great_right_9 : List Ex := [(.cmp .le (.idx (.loc 3) (.lit (.int 0))) (.idx (.loc 6) (.lit (.int 0))))]
def E__law_great_right_10 : Ex := (.bin .mul (.loc 7) (.loc 8))
def I__law_great_right_11 : List Ex := []
def E__law_great_right_12 : Ex := (.loc 10)
def I__law_great_right_13 : List Ex := []
def E__law_great_right_14 : Ex := (.loc 8)
def I__law_great_right_15 : List Ex := []
def E__law_great_right_16 : Ex := (.call "_law_label" [(.loc 10), (.loc 9)])
def I__law_great_right_17 : List Ex := []
def B__law_great_right_18 : List St := [.cond (.cmp .ne (.call "_law_at" [(.loc 2), (.loc 12)]) (.call "_law_value" [(.loc 1), (.loc 12)])) [.ret (.lit (.bool false))] []]
def B__law_great_right_19 : List St := [.loop (.loc 12) (.of (.tup [(.bi .max [(.lit (.int 0)), (.bin .sub (.loc 11) (.lit (.int 1)))]), (.loc 11), (.bin .add (.loc 11) (.lit (.int 1))), (.bin .add (.bin .mul (.lit (.int 2)) (.loc 11)) (.lit (.int 1)))])) B__law_great_right_18]
def E__law_great_right_20 : Ex := (.call "_law_label" [(.loc 10), (.loc 9)])
def I__law_great_right_21 : List Ex := []
def F__law_great_right : Fn := { params := 1, slots := 13, shut := false, clo := false, body := [.asg (.loc 1) (.call "_law_great_stores" [(.loc 0), (.lit (.int 30))]), .asg (.loc 2) (.call "profile_of_fleet" [(.loc 1)]), .cond (.or (.not (.bi (.isi [.ktup]) [(.loc 2)])) (.cmp .ne (.lc E__law_great_right_0 (.loc 3) (.of (.loc 2)) I__law_great_right_1) (.lst []))) [.ret (.lit (.bool false))] [], .asg (.loc 4) (.bin .add (.lc E__law_great_right_2 (.loc 3) (.of (.loc 2)) I__law_great_right_3) (.lc E__law_great_right_4 (.loc 3) (.of (.loc 2)) I__law_great_right_5)), .cond (.cmp .ne (.lc E__law_great_right_6 (.loc 5) (.of (.loc 4)) I__law_great_right_7) (.lst [])) [.ret (.lit (.bool false))] [], .cond (.cmp .ne (.lc E__law_great_right_8 (.tup [(.loc 3), (.loc 6)]) (.zip (.loc 2) (.slice (.loc 2) (.lit (.int 1)) (.lit .gap))) I__law_great_right_9) (.lst [])) [.ret (.lit (.bool false))] [], .cond (.cmp .ne (.bi .sum [(.lc E__law_great_right_10 (.tup [(.loc 7), (.loc 8)]) (.of (.loc 2)) I__law_great_right_11)]) (.bi .sum [(.lc E__law_great_right_12 (.tup [(.loc 9), (.loc 10)]) (.of (.loc 1)) I__law_great_right_13)])) [.ret (.lit (.bool false))] [], .cond (.cmp .ne (.bi .sum [(.lc E__law_great_right_14 (.tup [(.loc 7), (.loc 8)]) (.of (.loc 2)) I__law_great_right_15)]) (.bi .max [(.lc E__law_great_right_16 (.tup [(.loc 9), (.loc 10)]) (.of (.loc 1)) I__law_great_right_17)])) [.ret (.lit (.bool false))] [], .loop (.loc 11) (.of (.call "_law_kinks" [(.loc 1)])) B__law_great_right_19, .ret (.call "_law_like" [(.call "times_of" [(.loc 1)]), (.bi .tuple [(.lc E__law_great_right_20 (.tup [(.loc 9), (.loc 10)]) (.of (.loc 1)) I__law_great_right_21)])])] }
/-- 0:tape 1:stores 2:odd 3:bad 4:spot 5:whole 6:later 7:thing 8:told 9:wide -/
def B__law_places_right_0 : List St := [.asg (.loc 8) (.lst [(.call "_law_refused" [(.lam "_law_places_right.0" [7])]), (.call "_law_refused" [(.lam "_law_places_right.1" [7])])]), .cond (.cmp .ne (.bin .add (.loc 8) (.lst [(.call "_law_refused" [(.lam "_law_places_right.2" [7])])])) (.bin .mul (.lst [(.lst [(.loc 4)])]) (.lit (.int 3)))) [.ret (.lit (.bool false))] []]
def B__law_places_right_1 : List St := [.asg (.loc 4) (.call "_law_take" [(.loc 0), (.bin .add (.bi .len [(.loc 1)]) (.lit (.int 1)))]), .asg (.loc 5) (.bin .add (.bin .add (.slice (.loc 1) (.lit .gap) (.loc 4)) (.tup [(.loc 3)])) (.slice (.loc 1) (.loc 4) (.lit .gap))), .asg (.loc 6) (.bin .add (.bin .add (.loc 5) (.tup [(.idx (.loc 2) (.call "_law_take" [(.loc 0), (.bi .len [(.loc 2)])]))])) (.loc 1)), .loop (.loc 7) (.of (.tup [(.loc 5), (.loc 6)])) B__law_places_right_0]
def B__law_places_right_2 : List St := [.cond (.or (.cmp .ne (.call "_law_refused" [(.lam "_law_places_right.4" [3])]) (.lst [(.lit .none)])) (.cmp .ne (.call "_law_refused" [(.lam "_law_places_right.3" [3])]) (.lst [(.lit .none)]))) [.ret (.lit (.bool false))] []]
def F__law_places_right : Fn := { params := 2, slots := 10, shut := false, clo := false, body := [.asg (.loc 2) (.thaw (.lst [(.lit .none), (.tup []), (.tup [(.lit (.int 0)), (.lit (.int 5))]), (.tup [(.neg (.lit (.int 1))), (.lit (.int 5))]), (.tup [(.lit (.int 1)), (.neg (.lit (.int 1)))]), (.tup [(.lit (.bool true)), (.lit (.int 1))]), (.tup [(.lit (.int 1)), (.lit (.bool true))]), (.tup [(.lit (.int 1))]), (.tup [(.lit (.int 1)), (.lit (.int 2)), (.lit (.int 3))]), (.lst [(.lit (.int 1)), (.lit (.int 2))]), (.lit (.str [49, 50])), (.tup [(.lit (.str [49])), (.lit (.int 2))]), (.tup [(.lit (.int 1)), (.lit .none)])])), .exp (.bm (.loc 2) .extend [(.lst [(.tup [(.bin .add (.bin .pow (.lit (.int 10)) (.lit (.int 30))) (.lit (.int 1))), (.lit (.int 1))]), (.tup [(.lit (.int 1)), (.bin .add (.bin .pow (.lit (.int 10)) (.lit (.int 30))) (.lit (.int 1)))]), (.tup [(.lit (.int 1)), (.tup [(.lit (.int 2))])]), (.tup [(.tup [(.lit (.int 1)), (.lit (.int 2))]), (.tup [(.lit (.int 3)), (.lit (.int 4))])]), (.lit (.int 7))])]), .loop (.loc 3) (.of (.loc 2)) B__law_places_right_1, .loop (.loc 3) (.of (.tup [(.lit .none), (.bi .list [(.loc 1)]), (.lit (.str [40, 41])), (.lit .emp), (.lit (.int 0)), (.bin .mul (.tup [(.tup [(.lit (.int 1)), (.lit (.int 1))])]) (.lit (.int 121))), (.bin .mul (.tup [(.tup [(.lit (.int 0)), (.lit (.int 0))])]) (.lit (.int 121)))])) B__law_places_right_2, .asg (.loc 9) (.bin .add (.bin .mul (.tup [(.tup [(.bin .pow (.lit (.int 10)) (.lit (.int 30))), (.bin .pow (.lit (.int 10)) (.lit (.int 30)))])]) (.lit (.int 60))) (.bin .mul (.tup [(.tup [(.lit (.int 1)), (.lit (.int 0))]), (.tup [(.bin .pow (.lit (.int 10)) (.lit (.int 30))), (.lit (.int 0))]), (.tup [(.lit (.int 1)), (.bin .pow (.lit (.int 10)) (.lit (.int 30)))])]) (.lit (.int 20)))), .cond (.or (.not (.call "_law_like" [(.call "need_fleet" [(.loc 9)]), (.loc 9)])) (.or (.not (.call "_law_like" [(.call "need_fleet" [(.tup [])]), (.tup [])])) (.not (.call "_law_like" [(.call "profile_of_fleet" [(.tup [])]), (.tup [])])))) [.ret (.lit (.bool false))] [], .ret (.call "_law_like" [(.call "profile_of_fleet" [(.loc 9)]), (.tup [(.tup [(.bin .add (.bin .mul (.lit (.int 60)) (.bin .pow (.lit (.int 10)) (.lit (.int 30)))) (.lit (.int 20))), (.lit (.int 1))]), (.tup [(.lit (.int 20)), (.bin .sub (.bin .pow (.lit (.int 10)) (.lit (.int 30))) (.lit (.int 1)))])])])] }
/-- 0:script 1:tape 2:turn -/
def B_law_0 : List St := [.cond (.or (.not (.call "_law_small_right" [(.loc 1)])) (.and (.cmp .lt (.loc 2) (.lit (.int 2))) (.not (.call "_law_great_right" [(.loc 1)])))) [.ret (.lit (.bool false))] []]
def F_law : Fn := { params := 1, slots := 3, shut := true, clo := false, body := [.asg (.loc 1) (.call "_law_tape" [(.loc 0), (.lit (.int 1200)), (.lit (.int 1600))]), .loop (.loc 2) (.range (.lit (.int 0)) (.lit (.int 6))) B_law_0, .ret (.call "_law_places_right" [(.loc 1), (.call "_law_stores" [(.loc 1), (.lit (.int 5)), (.lit (.int 9)), (.lit (.int 9))])])] }
def L__law_places_right_0 : Lam := { params := 0, dflt := [], caps := 1, slots := 1, body := (.call "need_fleet" [(.loc 0)]) }
def L__law_places_right_1 : Lam := { params := 1, dflt := [(.int 0)], caps := 1, slots := 2, body := (.call "profile_of_fleet" [(.loc 1)]) }
def L__law_places_right_2 : Lam := { params := 0, dflt := [], caps := 1, slots := 1, body := (.call "times_of" [(.loc 0)]) }
def L__law_places_right_3 : Lam := { params := 1, dflt := [(.int 0)], caps := 1, slots := 2, body := (.call "profile_of_fleet" [(.loc 1)]) }
def L__law_places_right_4 : Lam := { params := 0, dflt := [], caps := 1, slots := 1, body := (.call "need_fleet" [(.loc 0)]) }
def prog : Prog := {
  fns := [("is_number", F_is_number), ("is_among", F_is_among), ("is_tuple_of", F_is_tuple_of), ("is_store", F_is_store), ("need_fleet", F_need_fleet), ("drops_of", F_drops_of), ("profile_of_stores", F_profile_of_stores), ("profile_of_fleet", F_profile_of_fleet), ("time_of", F_time_of), ("times_of", F_times_of), ("_law_tape", F__law_tape), ("_law_take", F__law_take), ("_law_like", F__law_like), ("_law_ten", F__law_ten), ("_law_huge", F__law_huge), ("_law_stores", F__law_stores), ("_law_great_stores", F__law_great_stores), ("_law_value", F__law_value), ("_law_curve", F__law_curve), ("_law_pairs", F__law_pairs), ("_law_profile", F__law_profile), ("_law_at", F__law_at), ("_law_kinks", F__law_kinks), ("_law_label", F__law_label), ("_law_refused", F__law_refused), ("_law_small_right", F__law_small_right), ("_law_great_right", F__law_great_right), ("_law_places_right", F__law_places_right), ("law", F_law)],
  lams := [("_law_places_right.0", L__law_places_right_0), ("_law_places_right.1", L__law_places_right_1), ("_law_places_right.2", L__law_places_right_2), ("_law_places_right.3", L__law_places_right_3), ("_law_places_right.4", L__law_places_right_4)],
  cls := [("StoreError", { mro := ["StoreError", "ValueError", "Exception"], field := "", meths := [] }), ("BadFleet", { mro := ["BadFleet", "StoreError", "ValueError", "Exception"], field := "place", meths := [] })],
  cons := [("MOST_STORES", (.int 120)), ("GREATEST_STORE", (.int 1000000000000000000000000000000))] }
end K16


set_option Elab.async false
set_option linter.all false
set_option maxRecDepth 100000
set_option maxHeartbeats 0
namespace K16
open PySem PySem.Spec PyProof.Rows L2 MS
abbrev lawR : PySem.W.OpenLaw := PySem.Challenge.rw_storewright_k16_profiles_of_fleets
def top (i : Nat) : Stmt := PySem.Challenge.pw_storewright_k16_profiles_of_fleets.main.body.getD i (.Pass ⟨0, 0, 0, 0⟩)
def iniAt (i : Nat) : Stmt := match top i with
  | .ClassDef (body := b) .. => b.getD 0 (.Pass ⟨0, 0, 0, 0⟩)
  | s => s
def e_is_number : DE := ⟨"is_number", top 4, ["thing"], ["thing"], false, none⟩
def e_is_among : DE := ⟨"is_among", top 5, ["thing", "least", "most"], ["thing", "least", "most"], false, none⟩
def e_is_tuple_of : DE := ⟨"is_tuple_of", top 6, ["thing", "least", "most"], ["thing", "least", "most"], false, none⟩
def e_is_store : DE := ⟨"is_store", top 10, ["thing"], ["thing"], false, none⟩
def e_need_fleet : DE := ⟨"need_fleet", top 11, ["fleet", "number", "store"], ["fleet"], false, none⟩
def e_drops_of : DE := ⟨"drops_of", top 12, ["stores", "found", "power", "has", "whole", "rest"], ["stores"], false, none⟩
def e_profile_of_stores : DE := ⟨"profile_of_stores", top 13, ["stores", "drops", "step", "ticks", "pairs", "end"], ["stores"], false, none⟩
def e_profile_of_fleet : DE := ⟨"profile_of_fleet", top 14, ["fleet"], ["fleet"], false, none⟩
def e_time_of : DE := ⟨"time_of", top 15, ["store"], ["store"], false, none⟩
def e_times_of : DE := ⟨"times_of", top 16, ["fleet", "store"], ["fleet"], false, none⟩
def e__law_tape : DE := ⟨"_law_tape", top 18, ["script", "many", "salt", "found", "cell", "rest", "turn", "start", "mixed"], ["script", "many", "salt"], false, none⟩
def e__law_take : DE := ⟨"_law_take", top 19, ["tape", "limit"], ["tape", "limit"], false, none⟩
def e__law_like : DE := ⟨"_law_like", top 20, ["got", "due", "k"], ["got", "due"], false, none⟩
def e__law_ten : DE := ⟨"_law_ten", top 21, ["many", "found", "turn"], ["many"], false, none⟩
def e__law_huge : DE := ⟨"_law_huge", top 22, ["tape", "found", "turn"], ["tape"], false, none⟩
def e__law_stores : DE := ⟨"_law_stores", top 23, ["tape", "many", "power", "time", "found", "turn", "one"], ["tape", "many", "power", "time"], false, none⟩
def e__law_great_stores : DE := ⟨"_law_great_stores", top 24, ["tape", "many", "found", "turn", "power", "has"], ["tape", "many"], false, none⟩
def e__law_value : DE := ⟨"_law_value", top 25, ["stores", "ticks", "power", "has"], ["stores", "ticks"], false, none⟩
def e__law_curve : DE := ⟨"_law_curve", top 26, ["stores", "most", "ticks"], ["stores", "most"], false, none⟩
def e__law_pairs : DE := ⟨"_law_pairs", top 27, ["numbers", "found", "number"], ["numbers"], false, none⟩
def e__law_profile : DE := ⟨"_law_profile", top 28, ["values", "low", "high"], ["values"], false, none⟩
def e__law_at : DE := ⟨"_law_at", top 29, ["pairs", "ticks", "found", "step", "width"], ["pairs", "ticks"], false, none⟩
def e__law_kinks : DE := ⟨"_law_kinks", top 30, ["stores", "found", "power", "has"], ["stores"], false, none⟩
def e__law_label : DE := ⟨"_law_label", top 31, ["number", "power"], ["number", "power"], false, none⟩
def e__law_refused : DE := ⟨"_law_refused", top 32, ["ask", "raised"], ["ask"], false, none⟩
def e__law_small_right : DE := ⟨"_law_small_right", top 33, ["tape", "stores", "most", "power", "has"], ["tape"], false, none⟩
def e__law_great_right : DE := ⟨"_law_great_right", top 34, ["tape", "stores", "told", "pair", "numbers", "one", "later", "step", "width", "power", "has", "ticks", "spot"], ["tape"], false, none⟩
def e__law_places_right : DE := ⟨"_law_places_right", top 35, ["tape", "stores", "odd", "bad", "spot", "whole", "later", "thing", "told", "wide"], ["tape", "stores"], true, none⟩
def e_law : DE := ⟨"law", top 36, ["script", "tape", "turn"], ["script"], false, none⟩
def x_BadFleet : XC := ⟨"BadFleet", iniAt 2, "place", .val⟩
def lamNames : String → List Str
  | _ => []
def pk : Pk := { P := prog, prog := PySem.Challenge.pw_storewright_k16_profiles_of_fleets, ds := [e_is_number, e_is_among, e_is_tuple_of, e_is_store, e_need_fleet, e_drops_of, e_profile_of_stores, e_profile_of_fleet, e_time_of, e_times_of, e__law_tape, e__law_take, e__law_like, e__law_ten, e__law_huge, e__law_stores, e__law_great_stores, e__law_value, e__law_curve, e__law_pairs, e__law_profile, e__law_at, e__law_kinks, e__law_label, e__law_refused, e__law_small_right, e__law_great_right, e__law_places_right, e_law], xs := [x_BadFleet], os := [], clss := ["StoreError", "BadFleet"], nums := [("MOST_STORES", 120), ("GREATEST_STORE", 1000000000000000000000000000000)], bts := ["enumerate", "sorted", "tuple", "range", "isinstance", "bool", "int", "sum", "max", "abs", "str", "list", "len", "min", "super", "zip"], hcs := [["BadFleet"]], lamN := lamNames, iss := ["StoreError"] }
theorem d_is_number : DEok pk.P pk.ev e_is_number := ⟨⟨F_is_number, rfl, rfl, rfl, fun a => by kernel_rfl⟩, by decide +kernel, fun _ _ _ _ _ _ us hl => match us, hl with | [_], _ => rfl, by decide +kernel⟩
theorem d_is_among : DEok pk.P pk.ev e_is_among := ⟨⟨F_is_among, rfl, rfl, rfl, fun a => by kernel_rfl⟩, by decide +kernel, fun _ _ _ _ _ _ us hl => match us, hl with | [_, _, _], _ => rfl, by decide +kernel⟩
theorem d_is_tuple_of : DEok pk.P pk.ev e_is_tuple_of := ⟨⟨F_is_tuple_of, rfl, rfl, rfl, fun a => by kernel_rfl⟩, by decide +kernel, fun _ _ _ _ _ _ us hl => match us, hl with | [_, _, _], _ => rfl, by decide +kernel⟩
theorem d_is_store : DEok pk.P pk.ev e_is_store := ⟨⟨F_is_store, rfl, rfl, rfl, fun a => by kernel_rfl⟩, by decide +kernel, fun _ _ _ _ _ _ us hl => match us, hl with | [_], _ => rfl, by decide +kernel⟩
theorem d_need_fleet : DEok pk.P pk.ev e_need_fleet := ⟨⟨F_need_fleet, rfl, rfl, rfl, fun a => by kernel_rfl⟩, by decide +kernel, fun _ _ _ _ _ _ us hl => match us, hl with | [_], _ => rfl, by decide +kernel⟩
theorem d_drops_of : DEok pk.P pk.ev e_drops_of := ⟨⟨F_drops_of, rfl, rfl, rfl, fun a => by kernel_rfl⟩, by decide +kernel, fun _ _ _ _ _ _ us hl => match us, hl with | [_], _ => rfl, by decide +kernel⟩
theorem d_profile_of_stores : DEok pk.P pk.ev e_profile_of_stores := ⟨⟨F_profile_of_stores, rfl, rfl, rfl, fun a => by kernel_rfl⟩, by decide +kernel, fun _ _ _ _ _ _ us hl => match us, hl with | [_], _ => rfl, by decide +kernel⟩
theorem d_profile_of_fleet : DEok pk.P pk.ev e_profile_of_fleet := ⟨⟨F_profile_of_fleet, rfl, rfl, rfl, fun a => by kernel_rfl⟩, by decide +kernel, fun _ _ _ _ _ _ us hl => match us, hl with | [_], _ => rfl, by decide +kernel⟩
theorem d_time_of : DEok pk.P pk.ev e_time_of := ⟨⟨F_time_of, rfl, rfl, rfl, fun a => by kernel_rfl⟩, by decide +kernel, fun _ _ _ _ _ _ us hl => match us, hl with | [_], _ => rfl, by decide +kernel⟩
theorem d_times_of : DEok pk.P pk.ev e_times_of := ⟨⟨F_times_of, rfl, rfl, rfl, fun a => by kernel_rfl⟩, by decide +kernel, fun _ _ _ _ _ _ us hl => match us, hl with | [_], _ => rfl, by decide +kernel⟩
theorem d__law_tape : DEok pk.P pk.ev e__law_tape := ⟨⟨F__law_tape, rfl, rfl, rfl, fun a => by kernel_rfl⟩, by decide +kernel, fun _ _ _ _ _ _ us hl => match us, hl with | [_, _, _], _ => rfl, by decide +kernel⟩
theorem d__law_take : DEok pk.P pk.ev e__law_take := ⟨⟨F__law_take, rfl, rfl, rfl, fun a => by kernel_rfl⟩, by decide +kernel, fun _ _ _ _ _ _ us hl => match us, hl with | [_, _], _ => rfl, by decide +kernel⟩
theorem d__law_like : DEok pk.P pk.ev e__law_like := ⟨⟨F__law_like, rfl, rfl, rfl, fun a => by kernel_rfl⟩, by decide +kernel, fun _ _ _ _ _ _ us hl => match us, hl with | [_, _], _ => rfl, by decide +kernel⟩
theorem d__law_ten : DEok pk.P pk.ev e__law_ten := ⟨⟨F__law_ten, rfl, rfl, rfl, fun a => by kernel_rfl⟩, by decide +kernel, fun _ _ _ _ _ _ us hl => match us, hl with | [_], _ => rfl, by decide +kernel⟩
theorem d__law_huge : DEok pk.P pk.ev e__law_huge := ⟨⟨F__law_huge, rfl, rfl, rfl, fun a => by kernel_rfl⟩, by decide +kernel, fun _ _ _ _ _ _ us hl => match us, hl with | [_], _ => rfl, by decide +kernel⟩
theorem d__law_stores : DEok pk.P pk.ev e__law_stores := ⟨⟨F__law_stores, rfl, rfl, rfl, fun a => by kernel_rfl⟩, by decide +kernel, fun _ _ _ _ _ _ us hl => match us, hl with | [_, _, _, _], _ => rfl, by decide +kernel⟩
theorem d__law_great_stores : DEok pk.P pk.ev e__law_great_stores := ⟨⟨F__law_great_stores, rfl, rfl, rfl, fun a => by kernel_rfl⟩, by decide +kernel, fun _ _ _ _ _ _ us hl => match us, hl with | [_, _], _ => rfl, by decide +kernel⟩
theorem d__law_value : DEok pk.P pk.ev e__law_value := ⟨⟨F__law_value, rfl, rfl, rfl, fun a => by kernel_rfl⟩, by decide +kernel, fun _ _ _ _ _ _ us hl => match us, hl with | [_, _], _ => rfl, by decide +kernel⟩
theorem d__law_curve : DEok pk.P pk.ev e__law_curve := ⟨⟨F__law_curve, rfl, rfl, rfl, fun a => by kernel_rfl⟩, by decide +kernel, fun _ _ _ _ _ _ us hl => match us, hl with | [_, _], _ => rfl, by decide +kernel⟩
theorem d__law_pairs : DEok pk.P pk.ev e__law_pairs := ⟨⟨F__law_pairs, rfl, rfl, rfl, fun a => by kernel_rfl⟩, by decide +kernel, fun _ _ _ _ _ _ us hl => match us, hl with | [_], _ => rfl, by decide +kernel⟩
theorem d__law_profile : DEok pk.P pk.ev e__law_profile := ⟨⟨F__law_profile, rfl, rfl, rfl, fun a => by kernel_rfl⟩, by decide +kernel, fun _ _ _ _ _ _ us hl => match us, hl with | [_], _ => rfl, by decide +kernel⟩
theorem d__law_at : DEok pk.P pk.ev e__law_at := ⟨⟨F__law_at, rfl, rfl, rfl, fun a => by kernel_rfl⟩, by decide +kernel, fun _ _ _ _ _ _ us hl => match us, hl with | [_, _], _ => rfl, by decide +kernel⟩
theorem d__law_kinks : DEok pk.P pk.ev e__law_kinks := ⟨⟨F__law_kinks, rfl, rfl, rfl, fun a => by kernel_rfl⟩, by decide +kernel, fun _ _ _ _ _ _ us hl => match us, hl with | [_], _ => rfl, by decide +kernel⟩
theorem d__law_label : DEok pk.P pk.ev e__law_label := ⟨⟨F__law_label, rfl, rfl, rfl, fun a => by kernel_rfl⟩, by decide +kernel, fun _ _ _ _ _ _ us hl => match us, hl with | [_, _], _ => rfl, by decide +kernel⟩
theorem d__law_refused : DEok pk.P pk.ev e__law_refused := ⟨⟨F__law_refused, rfl, rfl, rfl, fun a => by kernel_rfl⟩, by decide +kernel, fun _ _ _ _ _ _ us hl => match us, hl with | [_], _ => rfl, by decide +kernel⟩
theorem d__law_small_right : DEok pk.P pk.ev e__law_small_right := ⟨⟨F__law_small_right, rfl, rfl, rfl, fun a => by kernel_rfl⟩, by decide +kernel, fun _ _ _ _ _ _ us hl => match us, hl with | [_], _ => rfl, by decide +kernel⟩
theorem d__law_great_right : DEok pk.P pk.ev e__law_great_right := ⟨⟨F__law_great_right, rfl, rfl, rfl, fun a => by kernel_rfl⟩, by decide +kernel, fun _ _ _ _ _ _ us hl => match us, hl with | [_], _ => rfl, by decide +kernel⟩
theorem d__law_places_right : DEok pk.P pk.ev e__law_places_right := ⟨⟨F__law_places_right, rfl, rfl, rfl, fun a => by kernel_rfl⟩, by decide +kernel, fun _ _ _ _ _ _ us hl => match us, hl with | [_, _], _ => rfl, by decide +kernel⟩
theorem d_law : DEok pk.P pk.ev e_law := ⟨⟨F_law, rfl, rfl, rfl, fun a => by kernel_rfl⟩, by decide +kernel, fun _ _ _ _ _ _ us hl => match us, hl with | [_], _ => rfl, by decide +kernel⟩
theorem b_BadFleet : XC.bind x_BadFleet := fun _ _ _ _ _ _ _ _ _ => rfl
theorem pk_ok : PkOk pk := ⟨⟨d_is_number, d_is_among, d_is_tuple_of, d_is_store, d_need_fleet, d_drops_of, d_profile_of_stores, d_profile_of_fleet, d_time_of, d_times_of, d__law_tape, d__law_take, d__law_like, d__law_ten, d__law_huge, d__law_stores, d__law_great_stores, d__law_value, d__law_curve, d__law_pairs, d__law_profile, d__law_at, d__law_kinks, d__law_label, d__law_refused, d__law_small_right, d__law_great_right, d__law_places_right, d_law, trivial⟩, ⟨b_BadFleet, trivial⟩, by decide +kernel⟩
def loose0 : List Str := ["StoreError", "BadFleet", "MOST_STORES", "GREATEST_STORE", "is_number", "is_among", "is_tuple_of", "is_store", "need_fleet", "drops_of", "profile_of_stores", "profile_of_fleet", "time_of", "times_of", "_law_tape", "_law_take", "_law_like", "_law_ten", "_law_huge", "_law_stores", "_law_great_stores", "_law_value", "_law_curve", "_law_pairs", "_law_profile", "_law_at", "_law_kinks", "_law_label", "_law_refused", "_law_small_right"]
def loose1 : List Str := ["_law_great_right", "_law_places_right"]
def loose : List Str := loose0 ++ loose1
abbrev hk : PySem.W.Hook := hookM 4 pk
def ob (s : PySem.W.SharedT) : AlM := obsM 4 pk (HandSHeadRun.getT s)
theorem ob_eq (s : PySem.W.SharedT) : ob s = hk.obs s.abs := obsM_eq (HandSHeadRun.getT_eq s)
theorem run (w : World) : HandSHeadRun.RunEq (PySem.W.OpenLaw.row lawR) (PySem.W.view (PySem.W.OpenLaw.row lawR).prog [36]) hk ob 20000 loose w := by
  intro os
  kernel_rfl
theorem law_one : ∀ e ∈ pk.ds, e.x = "law" → e.ps.length = 1 := by decide +kernel
end K16


set_option Elab.async false
set_option linter.all false
set_option maxRecDepth 100000
set_option maxHeartbeats 4000000
/-! PW: the draws, as many laws have them -/
namespace Mini
namespace Dr
def E_begun_0 : Ex := (.bi .int [(.loc 1)])
def I_begun_1 : List Ex := [(.cmp .ge (.bi .int [(.loc 1)]) (.bin .pow (.lit (.int 10)) (.lit (.int 18))))]
def F_begun : Fn := { params := 1, slots := 2, shut := false, clo := false, body := [.ret (.dic [(.lit (.str [99, 101, 108, 108, 115])), (.bi .list [(.loc 0)]), (.lit (.str [97, 116])), (.lit (.int 0)), (.lit (.str [108, 101, 102, 116])), (.thaw (.lc E_begun_0 (.loc 1) (.of (.loc 0)) I_begun_1))])] }
def F_next : Fn := { params := 2, slots := 6, shut := false, clo := false, body := [.cond (.cmp .ne (.idx (.loc 0) (.lit (.str [108, 101, 102, 116]))) (.lst [])) [.asg (.loc 2) (.idx (.idx (.loc 0) (.lit (.str [108, 101, 102, 116]))) (.lit (.int 0))), .sub (.idx (.loc 0) (.lit (.str [108, 101, 102, 116]))) (.lit (.int 0)) (.bin .fdiv (.loc 2) (.loc 1)), .cond (.cmp .eq (.idx (.idx (.loc 0) (.lit (.str [108, 101, 102, 116]))) (.lit (.int 0))) (.lit (.int 0))) [.sub (.loc 0) (.lit (.str [108, 101, 102, 116])) (.thaw (.slice (.idx (.loc 0) (.lit (.str [108, 101, 102, 116]))) (.lit (.int 1)) (.lit .gap)))] [], .ret (.bin .mod (.loc 2) (.loc 1))] [], .asg (.loc 3) (.idx (.loc 0) (.lit (.str [97, 116]))), .sub (.loc 0) (.lit (.str [97, 116])) (.bin .add (.loc 3) (.lit (.int 1))), .asg (.loc 4) (.ite (.cmp .ne (.idx (.loc 0) (.lit (.str [99, 101, 108, 108, 115]))) (.lst [])) (.idx (.idx (.loc 0) (.lit (.str [99, 101, 108, 108, 115]))) (.bin .mod (.loc 3) (.bi .len [(.idx (.loc 0) (.lit (.str [99, 101, 108, 108, 115])))]))) (.lit (.int 0))), .asg (.loc 5) (.bin .mul (.bin .mod (.bi .int [(.loc 4)]) (.lit (.int 2147483629))) (.bin .add (.bin .mul (.lit (.int 2)) (.loc 3)) (.lit (.int 3)))), .asg (.loc 5) (.bin .mod (.bin .add (.bin .add (.bin .add (.loc 5) (.bin .mul (.bin .mul (.lit (.int 7919)) (.loc 3)) (.loc 3))) (.bin .mul (.lit (.int 104729)) (.loc 3))) (.lit (.int 31))) (.lit (.int 2147483647))), .ret (.bin .mod (.bin .fdiv (.bin .mod (.bin .mul (.bin .mod (.bin .mul (.loc 5) (.loc 5)) (.lit (.int 2147483629))) (.lit (.int 48271))) (.lit (.int 2147483647))) (.lit (.int 13))) (.loc 1))] }
def F_of : Fn := { params := 2, slots := 2, shut := false, clo := false, body := [.ret (.idx (.loc 1) (.call "_law_next" [(.loc 0), (.bi .len [(.loc 1)])]))] }
def F_scale : Fn := { params := 1, slots := 1, shut := false, clo := false, body := [.ret (.call "_law_of" [(.loc 0), (.lst [(.lit (.int 1)), (.lit (.int 1)), (.lit (.int 1)), (.lit (.int 2)), (.lit (.int 3)), (.bin .add (.bin .pow (.lit (.int 10)) (.lit (.int 9))) (.lit (.int 7))), (.bin .add (.bin .mul (.lit (.int 3)) (.bin .pow (.lit (.int 10)) (.lit (.int 14)))) (.lit (.int 1))), (.bin .sub (.bin .pow (.lit (.int 10)) (.lit (.int 18))) (.lit (.int 1)))])])] }
abbrev cT : Val := .str [99, 101, 108, 108, 115]
abbrev aT : Val := .str [97, 116]
abbrev lT : Val := .str [108, 101, 102, 116]
/-- the state's dict -/
abbrev dct (cs : List Int) (a : Int) (j : Nat) : Obj := .dict [(cT, .lst (numL cs)), (aT, .int a), (lT, .ref j)]
/-- the draws' state: its dict at n, after at most k draws -/
def St (h : Heap) (n k : Nat) : Prop := ∃ cs a ls j, h[n]? = some (dct cs a j) ∧ h[j]? = some (.list (numL ls)) ∧ 0 ≤ a ∧ a ≤ k
/-- its own places -/
def Own (h : Heap) (n i : Nat) : Prop := i = n ∨ ∃ cs a j, h[n]? = some (dct cs a j) ∧ i = j
/-- all but the state's own is kept -/
def Kp (n : Nat) (h h' : Heap) : Prop := h.length ≤ h'.length ∧ ∀ i o, h[i]? = some o → ¬ Own h n i → h'[i]? = some o ∧ ¬ Own h' n i
theorem Kp.refl {n : Nat} {h : Heap} : Kp n h h := ⟨Nat.le_refl _, fun i o e w => ⟨e, w⟩⟩
theorem Kp.trans {n : Nat} {h h1 h2 : Heap} (a : Kp n h h1) (b : Kp n h1 h2) : Kp n h h2 := ⟨Nat.le_trans a.1 b.1, fun i o e w => by
  obtain ⟨e1, w1⟩ := a.2 i o e w
  exact b.2 i o e1 w1⟩
theorem St.up {h : Heap} {n k k' : Nat} (s : St h n k) (hk : k ≤ k') : St h n k' := by
  obtain ⟨cs, a, ls, j, h1, h2, h3, h4⟩ := s
  exact ⟨cs, a, ls, j, h1, h2, h3, by omega⟩
theorem get_left {h : Heap} {n : Nat} {cs : List Int} {a : Int} {j : Nat} (e : h[n]? = some (dct cs a j)) : getIt h (.ref n) lT = some (.ref j) := by
  simp only [getIt, e]; rfl
theorem get_at {h : Heap} {n : Nat} {cs : List Int} {a : Int} {j : Nat} (e : h[n]? = some (dct cs a j)) : getIt h (.ref n) aT = some (.int a) := by
  simp only [getIt, e]; rfl
theorem get_cells {h : Heap} {n : Nat} {cs : List Int} {a : Int} {j : Nat} (e : h[n]? = some (dct cs a j)) : getIt h (.ref n) cT = some (.lst (numL cs)) := by
  simp only [getIt, e]; rfl
theorem set_left {h : Heap} {n : Nat} {cs : List Int} {a : Int} {j j' : Nat} (e : h[n]? = some (dct cs a j)) : setIt h (.ref n) lT (.ref j') = some (h.set n (dct cs a j')) := by
  simp only [setIt, e]; rfl
theorem set_at {h : Heap} {n : Nat} {cs : List Int} {a b : Int} {j : Nat} (e : h[n]? = some (dct cs a j)) : setIt h (.ref n) aT (.int b) = some (h.set n (dct cs b j)) := by
  simp only [setIt, e]; rfl
theorem dct_j {cs cs' : List Int} {a a' : Int} {j j' : Nat} (h : some (dct cs a j) = some (dct cs' a' j')) : j = j' := by
  simp only [dct, Option.some.injEq, Obj.dict.injEq, List.cons.injEq, Prod.mk.injEq, Val.ref.injEq] at h
  exact h.2.2.1.2
theorem own_ne {h : Heap} {n j : Nat} {cs ls : List Int} {a : Int} (e : h[n]? = some (dct cs a j)) (e2 : h[j]? = some (.list (numL ls))) : n ≠ j := by
  rintro rfl
  rw [e] at e2; cases e2
theorem st_len {h : Heap} {n : Nat} {o : Obj} (e : h[n]? = some o) : n < h.length := (List.getElem?_eq_some_iff.mp e).1
theorem small62 {k : Nat} {i : Int} (hk : 62 ≤ k) (h0 : 0 ≤ i) (h1 : i < 4000000000000000000) : small k i = true := small_up hk (by
  have : i.natAbs < 4000000000000000000 := by omega
  exact Nat.lt_trans this (by decide))
def mixed (c a : Int) : Int := (c % 2147483629 * (2 * a + 3) + 7919 * a * a + 104729 * a + 31) % 2147483647
def drawn (c a many : Int) : Int := mixed c a * mixed c a % 2147483629 * 48271 % 2147483647 / 13 % many
/-- the reckoning's last statements -/
theorem tail_ok {C : Cx} {h : Heap} {m : Option Val} {a c many : Int} (h0 : 0 ≤ a) (h1 : a < 1000000) (hm : 0 < many) :
    ∃ r, execs C (F_next.body.drop 4) [m, some (.int many), none, some (.int a), some (.int c), none] h = .ret (.int r) h ∧ 0 ≤ r ∧ r < many := by
  have s1 : small 4000 2 = true := rfl
  have s2 : small 4000 a = true := small62 (by omega) h0 (by omega)
  have s4 : small 4000 (2 * a + 3) = true := small62 (by omega) (by omega) (by omega)
  have s5 : small 4000 7919 = true := rfl
  have s6 : small 4000 (7919 * a) = true := small62 (by omega) (by omega) (by omega)
  have s7 : small 4000 104729 = true := rfl
  have s8 : small 4000 48271 = true := rfl
  have s9 : small 4000 13 = true := rfl
  have m1 : ∀ y : Int, small 4000 (y % 2147483647) = true := fun y => small62 (by omega) (by omega) (by omega)
  have m2 : ∀ y : Int, small 4000 (y % 2147483629) = true := fun y => small62 (by omega) (by omega) (by omega)
  refine ⟨drawn c a many, ?_, ?_, ?_⟩
  · simp [F_next, s1, s2, s4, s5, s6, s7, s8, s9, m1, m2, hm, drawn, mixed]
  · exact Int.emod_nonneg _ (by omega)
  · exact Int.emod_lt_of_pos _ hm
/-- the reckoning without great cells -/
theorem blend_ok {C : Cx} {h : Heap} {n j : Nat} {cs : List Int} {a many : Int} (e : h[n]? = some (dct cs a j)) (e2 : h[j]? = some (.list (numL []))) (h0 : 0 ≤ a) (h1 : a < 1000000) (hm : 0 < many) :
    ∃ r, runFn C F_next [.ref n, .int many] h = .ok (.int r) (h.set n (dct cs (a + 1) j)) ∧ 0 ≤ r ∧ r < many := by
  have o1 : opEq h (.ref j) (.lst []) = some true := ref_nil (k := 0) e2 rfl (by omega)
  have hl := st_len e
  obtain ⟨H, eH⟩ : ∃ H, H = h.set n (dct cs (a + 1) j) := ⟨_, rfl⟩
  have e3 : H[n]? = some (dct cs (a + 1) j) := by
    rw [eH, List.getElem?_set_self hl]
  have o2 : opEq H (.lst (numL cs)) (.lst []) = some (numL cs).isEmpty := ne_nil (k := 0) (ints_plain cs) (by omega)
  obtain ⟨c, hc⟩ : ∃ c : Int, execs C (F_next.body.drop 3) [some (.ref n), some (.int many), none, some (.int a), none, none] H = execs C (F_next.body.drop 4) [some (.ref n), some (.int many), none, some (.int a), some (.int c), none] H := by
    cases cs with
    | nil =>
      have he : (numL []).isEmpty = true := rfl
      rw [he] at o2
      exact ⟨0, by simp [F_next, get_cells e3, o2]⟩
    | cons c0 cr =>
      have hn : (0 : Int) < ((c0 :: cr).length : Nat) := by simp only [List.length_cons]; omega
      have b1 := Int.emod_nonneg a (b := ((c0 :: cr).length : Nat)) (by omega)
      have b2 := Int.emod_lt_of_pos a hn
      obtain ⟨i, hi⟩ : ∃ i : Nat, a % ((c0 :: cr).length : Nat) = (i : Int) := ⟨_, (Int.toNat_of_nonneg b1).symm⟩
      have hi2 : i < (c0 :: cr).length := by omega
      have ix : ixOf (numL (c0 :: cr)).length (a % ((c0 :: cr).length : Nat)) = some i := by
        rw [ints_len, hi]
        unfold ixOf
        rw [if_pos (by omega), if_pos (by omega)]
        simp
      have gi : (numL (c0 :: cr))[i]? = some (.int (c0 :: cr)[i]) := by
        unfold numL
        rw [List.getElem?_map, List.getElem?_eq_getElem hi2]; rfl
      have he : (numL (c0 :: cr)).isEmpty = false := rfl
      rw [he] at o2
      refine ⟨(c0 :: cr)[i], ?_⟩
      generalize hcs : c0 :: cr = cs at *
      have hn' : 0 < cs.length := by omega
      rw [ints_len] at ix
      simp [F_next, get_cells e3, o2, hn', ix, gi]
  obtain ⟨r, hr, r1, r2⟩ := tail_ok (C := C) (h := H) (m := some (.ref n)) (a := a) (c := c) h0 h1 hm
  refine ⟨r, ?_, r1, r2⟩
  have st : runFn C F_next [.ref n, .int many] h = (execs C (F_next.body.drop 3) [some (.ref n), some (.int many), none, some (.int a), none, none] H).res := by
    unfold runFn
    simp only [F_next]
    simp [get_left e, o1, get_at e, set_at e, ← eH]
  rw [st, hc, hr, eH]
  rfl
theorem kp_set {h : Heap} {n j : Nat} {cs : List Int} {a b : Int} (e : h[n]? = some (dct cs a j)) : Kp n h (h.set n (dct cs b j)) := by
  have hl := st_len e
  refine ⟨by simp, fun i o ei w => ?_⟩
  have ne : n ≠ i := fun z => w (.inl z.symm)
  refine ⟨by rw [List.getElem?_set_ne ne]; exact ei, fun z => ?_⟩
  rcases z with z | ⟨cs', a', j', z1, z2⟩
  · exact ne z.symm
  · rw [List.getElem?_set_self hl] at z1
    exact w (.inr ⟨cs, a, j, e, z2.trans (dct_j z1).symm⟩)
/-- a draw -/
theorem next_ok {C : Cx} {h : Heap} {n k : Nat} {many : Int} (s : St h n k) (hk : k < 1000000) (hm : 0 < many) (hm2 : small 4000 many = true) :
    ∃ r h', runFn C F_next [.ref n, .int many] h = .ok (.int r) h' ∧ 0 ≤ r ∧ r < many ∧ St h' n (k + 1) ∧ Kp n h h' := by
  obtain ⟨cs, a, ls, j, e, e2, h0, h1⟩ := s
  cases ls with
  | nil =>
    obtain ⟨r, hr, r1, r2⟩ := blend_ok (C := C) e e2 h0 (by omega) hm
    have hl := st_len e
    refine ⟨r, _, hr, r1, r2, ⟨cs, a + 1, [], j, by rw [List.getElem?_set_self hl], ?_, by omega, by omega⟩, kp_set e⟩
    rw [List.getElem?_set_ne (own_ne e e2)]; exact e2
  | cons x ls =>
    have nj := own_ne e e2
    have hl := st_len e
    have hj := st_len e2
    have o1 : opEq h (.ref j) (.lst []) = some false := ref_nil (k := 0) e2 (ints_plain _) (by omega)
    have g0 : getIt h (.ref j) (.int 0) = some (.int x) := by
      rw [get_ref e2]; simp [ixOf, numL]
    obtain ⟨H, eH⟩ : ∃ H, H = h.set j (.list (numL (x / many :: ls))) := ⟨_, rfl⟩
    have s0 : setIt h (.ref j) (.int 0) (.int (x / many)) = some H := by
      rw [set_ref e2, eH]; simp [ixOf, numL]
    have e3 : H[n]? = some (dct cs a j) := by
      rw [eH, List.getElem?_set_ne nj.symm]; exact e
    have e4 : H[j]? = some (.list (numL (x / many :: ls))) := by
      rw [eH, List.getElem?_set_self hj]
    have g1 : getIt H (.ref j) (.int 0) = some (.int (x / many)) := by
      rw [get_ref e4]; simp [ixOf, numL]
    have o2 : opEq H (.int (x / many)) (.int 0) = some (x / many == 0) := opEq_of H rfl rfl
    have ln : H.length = h.length := by rw [eH]; simp
    have kp1 : Kp n h H := by
      refine ⟨by omega, fun i o ei w => ?_⟩
      have ne : j ≠ i := fun z => w (.inr ⟨cs, a, j, e, z.symm⟩)
      refine ⟨by rw [eH, List.getElem?_set_ne ne]; exact ei, fun z => w ?_⟩
      rcases z with z | ⟨cs', a', j', z1, z2⟩
      · exact .inl z
      · rw [e3] at z1
        exact .inr ⟨cs, a, j, e, z2.trans (dct_j z1).symm⟩
    have rb : 0 ≤ x % many ∧ x % many < many := ⟨Int.emod_nonneg _ (by omega), Int.emod_lt_of_pos _ hm⟩
    by_cases z : x / many = 0
    · have zb : (x / many == 0) = true := by simp [z]
      rw [zb] at o2
      have lo : lstOf H (.ref j) = some (numL (x / many :: ls)) := by simp only [lstOf, e4]
      have sl : sliceIt H (.ref j) (some 1) none = some (.lst (numL ls)) := by
        have : sliceIt H (.ref j) (some 1) none = (lstOf H (.ref j)).map fun xs => .lst (cut xs (some 1) none) := rfl
        rw [this, lo]
        simp only [cut, endOf, numL, Option.map_some]
        simp [List.take_of_length_le]
      have e5 : (H ++ [Obj.list (numL ls)])[n]? = some (dct cs a j) := by
        rw [List.getElem?_append_left (by omega)]; exact e3
      have sL := set_left (j' := H.length) e5
      refine ⟨x % many, (H ++ [Obj.list (numL ls)]).set n (dct cs a H.length), ?_, rb.1, rb.2, ⟨cs, a, ls, H.length, ?_, ?_, h0, by omega⟩, kp1.trans ⟨by simp, fun i o ei w => ?_⟩⟩
      · unfold runFn
        simp only [F_next]
        simp [get_left e, o1, g0, hm, hm2, s0, get_left e3, g1, o2, sl, sL]
      · rw [List.getElem?_set_self (by simp; omega)]
      · rw [List.getElem?_set_ne (by omega), at_end]
      · have ne : n ≠ i := fun z => w (.inl z.symm)
        have hi := st_len ei
        refine ⟨?_, fun z => ?_⟩
        · rw [List.getElem?_set_ne ne, List.getElem?_append_left hi]; exact ei
        · rcases z with z | ⟨cs', a', j', z1, z2⟩
          · exact ne z.symm
          · rw [List.getElem?_set_self (by simp; omega)] at z1
            have := dct_j z1
            omega
    · have zb : (x / many == 0) = false := by simp [z]
      rw [zb] at o2
      refine ⟨x % many, H, ?_, rb.1, rb.2, ⟨cs, a, _, j, e3, e4, h0, by omega⟩, kp1⟩
      unfold runFn
      simp only [F_next]
      simp [get_left e, o1, g0, hm, hm2, s0, get_left e3, g1, o2]
/-! ### the state's beginning -/
theorem begun_ok {C : Cx} {h : Heap} {ns : List Int} (hl : ns.length ≤ 63) : ∃ n h', runFn C F_begun [.scr (numL ns)] h = .ok (.ref n) h' ∧ St h' n 0 ∧ h.length ≤ n ∧ (∀ i o, h[i]? = some o → h'[i]? = some o ∧ ¬ Own h' n i) ∧ h.length ≤ h'.length := by
  have p18 : opBin .pow h (.int 10) (.int 18) = some (.int 1000000000000000000) := rfl
  have lc := lcGo_map (step := lcStep C (.loc 1) [some (.scr (numL ns)), none] (chkOf (.scr (numL ns)) (numL ns)) I_begun_1 E_begun_0) (h := h) (f := fun v => match v with
    | .int i => if 1000000000000000000 ≤ i then [.int i] else []
    | _ => []) (numL ns) (fun v hv => by
      simp only [numL, List.mem_map] at hv
      obtain ⟨i, _, rfl⟩ := hv
      by_cases z : 1000000000000000000 ≤ i <;> simp [lcStep, lcTurn, E_begun_0, I_begun_1, z])
  have fl : (numL ns).flatMap (fun v => match v with
    | .int i => if 1000000000000000000 ≤ i then [.int i] else []
    | _ => []) = numL (ns.filter fun i => 1000000000000000000 ≤ i) := by
    clear lc hl
    induction ns with
    | nil => rfl
    | cons i r ih =>
      simp only [numL, List.map_cons, List.flatMap_cons] at ih ⊢
      rw [ih]
      by_cases z : 1000000000000000000 ≤ i <;> simp [z]
  rw [fl] at lc
  have ll : (ns.filter fun i => 1000000000000000000 ≤ i).length ≤ line := Nat.le_trans (List.length_filter_le _ _) (Nat.le_trans hl (by decide))
  have pu : pairUp [cT, .lst (numL ns), aT, .int 0, lT, .ref h.length] = some [(cT, .lst (numL ns)), (aT, .int 0), (lT, .ref h.length)] := by
    have s : still (.lst (numL ns)) = true := by simp
    simp only [pairUp, s]
    rfl
  refine ⟨h.length + 1, h ++ [Obj.list (numL (ns.filter fun i => 1000000000000000000 ≤ i))] ++ [dct ns 0 h.length], ?_, ⟨ns, 0, ns.filter fun i => 1000000000000000000 ≤ i, h.length, ?_, ?_, by omega, by omega⟩, by omega, fun i o e => ?_, by simp⟩
  · unfold runFn
    simp only [F_begun]
    simp [lc, ll, dicV, pu]
  · have := at_end (h ++ [Obj.list (numL (ns.filter fun i => 1000000000000000000 ≤ i))]) (dct ns 0 h.length)
    simpa using this
  · rw [List.getElem?_append_left (by simp), at_end]
  · have hi := st_len e
    refine ⟨by rw [List.getElem?_append_left (by simp; omega), List.getElem?_append_left hi]; exact e, fun z => ?_⟩
    rcases z with z | ⟨cs', a', j', z1, z2⟩
    · omega
    · have := at_end (h ++ [Obj.list (numL (ns.filter fun i => 1000000000000000000 ≤ i))]) (dct ns 0 h.length)
      rw [show (h ++ [Obj.list (numL (ns.filter fun i => 1000000000000000000 ≤ i))]).length = h.length + 1 by simp] at this
      rw [this] at z1
      have := dct_j z1
      omega
/-- one of some -/
theorem of_ok {C C' : Cx} (hc : ∀ args h, C.call "_law_next" args h = runFn C' F_next args h) {h : Heap} {n k : Nat} {xs : List Val} {some_ : Val} (hs : some_ = .lst xs ∨ some_ = .tup xs) (s : St h n k) (hk : k < 1000000) (h0 : xs ≠ []) (h1 : xs.length < 1000000) (st : stills xs = true) :
    ∃ v h', runFn C F_of [.ref n, some_] h = .ok v h' ∧ v ∈ xs ∧ St h' n (k + 1) ∧ Kp n h h' := by
  have hn : 0 < xs.length := List.length_pos_iff.mpr h0
  obtain ⟨r, h', e, r0, r1, s', kp⟩ := next_ok (C := C') (many := xs.length) s hk (by omega) (small62 (by omega) (by omega) (by omega))
  obtain ⟨i, rfl⟩ : ∃ i : Nat, r = (i : Int) := ⟨_, (Int.toNat_of_nonneg r0).symm⟩
  have hi : i < xs.length := by omega
  have ix : ixOf xs.length (i : Int) = some i := by
    unfold ixOf
    rw [if_pos (by omega), if_pos (by omega)]
    simp
  refine ⟨xs[i], h', ?_, List.getElem_mem hi, s', kp⟩
  unfold runFn
  simp only [F_of]
  have gx := List.getElem?_eq_getElem hi
  rcases hs with rfl | rfl <;> simp [st, hc, e, ix, gx]
theorem scale_ok {C C' C'' : Cx} (hc : ∀ args h, C.call "_law_of" args h = runFn C' F_of args h) (hc' : ∀ args h, C'.call "_law_next" args h = runFn C'' F_next args h) {h : Heap} {n k : Nat} (s : St h n k) (hk : k < 1000000) :
    ∃ r h', runFn C F_scale [.ref n] h = .ok (.int r) h' ∧ 1 ≤ r ∧ r < 1000000000000000000 ∧ St h' n (k + 1) ∧ Kp n h h' := by
  obtain ⟨v, h', e, hv, s', kp⟩ := of_ok (xs := [.int 1, .int 1, .int 1, .int 2, .int 3, .int 1000000007, .int 300000000000001, .int 999999999999999999]) hc' (.inl rfl) s hk (by simp) (by simp) rfl
  have sm : small 4000 3 = true ∧ small 4000 100000000000000 = true := ⟨rfl, rfl⟩
  have run : runFn C F_scale [.ref n] h = .ok v h' := by
    unfold runFn
    simp only [F_scale]
    simp [hc, e, sm]
  simp only [List.mem_cons, List.not_mem_nil, or_false] at hv
  rcases hv with rfl | rfl | rfl | rfl | rfl | rfl | rfl | rfl <;> exact ⟨_, h', run, by omega, by omega, s', kp⟩
end Dr
end Mini

set_option Elab.async false
set_option linter.all false
set_option maxRecDepth 100000
set_option maxHeartbeats 4000000
/-! PX: things of many laws: pairs, numbers that are written, bent tuples -/
namespace Mini
namespace Th
abbrev G40 : Int := 10000000000000000000000000000000000000000
theorem pow_G (h : Heap) : opBin .pow h (.int 10) (.int 40) = some (.int G40) := rfl
theorem st0b {h : Heap} {b : Bool} : settle h (.ok (.bool b) h) = .ok (.bool b) h := settle_ok (k := 0) (List.take_length) rfl
def isNum : Val → Bool
  | .int _ => true
  | _ => false
def isAm (v : Val) (lo hi : Int) : Bool := match v with
  | .int i => decide (lo ≤ i) && decide (i ≤ hi)
  | _ => false
def isTupOf (v : Val) (lo hi : Int) : Bool := match v with
  | .tup xs => decide (lo ≤ xs.length) && decide ((xs.length : Int) ≤ hi)
  | _ => false
theorem isTup2 {v : Val} (h : isTupOf v 2 2 = true) : ∃ x y, v = .tup [x, y] := by
  cases v <;> simp [isTupOf] at h
  rename_i xs
  have : xs.length = 2 := by omega
  match xs, this with
  | [x, y], _ => exact ⟨x, y, rfl⟩
theorem enumL_len : ∀ (xs : List Val) (k : Nat), (enumL k xs).length = xs.length
  | [], _ => rfl
  | _ :: r, k => by simp [enumL_len r (k + 1)]
def DatR (v : Val) : Prop := (∃ k, plain k v = true) ∨ v = .emp
theorem DatR.still {v : Val} (p : DatR v) : still v = true := by
  rcases p with ⟨k, p⟩ | rfl
  · exact plain_still k v p
  · rfl
theorem DatR.rd {v : Val} (p : DatR v) (n : Nat) (h : Heap) : Mini.rd n h v = some v := by
  rcases p with ⟨k, p⟩ | rfl
  · exact rd_plain p
  · rfl
def pr (q : Int × Int) : Val := .tup [.int q.1, .int q.2]
theorem pr_plain (l : List (Int × Int)) : (l.map pr).all (plain 1) = true := by
  simp only [List.all_eq_true, List.mem_map]
  rintro v ⟨q, _, rfl⟩
  rfl
theorem pr_still (l : List (Int × Int)) : stills (l.map pr) = true := plain_stills 1 _ (pr_plain l)
theorem pair_plain (l : List (Int × Int)) : plain 2 (.tup (l.map pr)) = true := by
  simp only [plain]; exact pr_plain l
theorem small_G {a : Int} (h1 : 0 ≤ a) (h2 : a ≤ G40) : small 4000 a = true := small_up (j := 200) (by omega) (by
  have h3 : a ≤ 10000000000000000000000000000000000000000 := h2
  have : a.natAbs ≤ 10000000000000000000000000000000000000000 := by omega
  exact Nat.lt_of_le_of_lt this (by decide))
theorem comp_pairs {C : Cx} {h : Heap} {t : Tg} {env : Env} {chk : Heap → Bool} {ifs : List Ex} {elt : Ex} {f : Int × Int → Int} (l : List (Int × Int)) (hs : ∀ q ∈ l, lcStep C t env chk ifs elt (pr q) h = .ok [.int (f q)] h) :
    lcGo (lcStep C t env chk ifs elt) (l.map pr) h = .ok (numL (l.map f)) h := by
  induction l with
  | nil => rfl
  | cons q r ih =>
    simp only [List.map_cons, lcGo, hs q List.mem_cons_self, ih fun w hw => hs w (List.mem_cons_of_mem _ hw)]
    rfl
/-! ### what repr may write -/
/-- a thing that is looked at -/
def Thing (v : Val) : Prop := v = .emp ∨ (plain 40 v = true ∧ showInts v = true ∧ wt v ≤ 1000000)
theorem Thing.dat {v : Val} (t : Thing v) : DatR v := by
  rcases t with rfl | ⟨p, _⟩
  · exact .inr rfl
  · exact .inl ⟨40, p⟩
theorem log_of {n k : Nat} (h : n < 2 ^ k) : n.log2 ≤ k := by
  by_cases z : n = 0
  · subst z; simp
  · exact Nat.le_of_lt ((Nat.log2_lt z).mpr h)
/-- a row, its numbers below 2 ^ 300 -/
theorem pairs_thing {l : List (Int × Int)} (hb : ∀ q ∈ l, q.1.natAbs < 2 ^ 300 ∧ q.2.natAbs < 2 ^ 300) : showInts (.tup (l.map pr)) = true ∧ wt (.tup (l.map pr)) ≤ 700 * l.length + 3 := by
  have key : ∀ l : List (Int × Int), (∀ q ∈ l, q.1.natAbs < 2 ^ 300 ∧ q.2.natAbs < 2 ^ 300) → showInts.go (l.map pr) = true ∧ wt.wts (l.map pr) ≤ 700 * l.length := by
    intro l
    induction l with
    | nil => intro _; exact ⟨rfl, Nat.le_refl _⟩
    | cons q r ih =>
      intro hb
      obtain ⟨i1, i2⟩ := ih fun q hq => hb q (List.mem_cons_of_mem _ hq)
      obtain ⟨b1, b2⟩ := hb q List.mem_cons_self
      have s1 : small 1900 q.1 = true := small_up (by omega) b1
      have s2 : small 1900 q.2 = true := small_up (by omega) b2
      have l1 := log_of b1
      have l2 := log_of b2
      constructor
      · simp [pr, showInts.go, showInts, s1, s2, i1]
      · simp only [List.map_cons, pr, wt.wts, wt, List.length_cons]
        have : wt.wts (r.map pr) ≤ 700 * r.length := i2
        omega
  obtain ⟨k1, k2⟩ := key l hb
  exact ⟨k1, by simp only [wt]; omega⟩
theorem rangeL_ints (a b : Int) : ∃ is : List Int, rangeL a b = numL is ∧ is.length = (b - a).toNat := by
  refine ⟨(List.range (b - a).toNat).map fun (k : Nat) => a + k, ?_, by simp⟩
  simp [rangeL, numL]
theorem char_lt (c : Char) : c.toNat < 1114112 := by
  rcases c.valid with h | h
  · have h : c.toNat < 55296 := h
    omega
  · have h : 57343 < c.toNat ∧ c.toNat < 1114112 := h
    exact h.2
theorem intTxt_plain (i : Int) : plain 0 (.str (intTxt i)) = true := by
  simp only [plain, intTxt, List.all_map, List.all_eq_true]
  intro c _
  exact decide_eq_true (char_lt c)
theorem intTxt_len (i : Int) : (intTxt i).length ≤ i.natAbs.log2 + 2 := by
  have := MS.intLen i
  rwa [MS.intTxt_eq, MS.toS_len] at this
theorem plain_R : ∀ (k : Nat) (v : Val), plain k v = true → plainR k v = true := MS.plain_R
theorem txt_eq (h : Heap) {s : Txt} (p : plain 0 (.str s) = true) : opEq h (.str s) (.str s) = some true := opEq_R h (plain_R 60 _ (plain_up 0 60 _ (by omega) p))
/-- its text -/
theorem Thing.repr {v : Val} (t : Thing v) : ∃ r, (∀ h, biRepr h [v] = some r) ∧ (∀ h, opEq h r r = some true) ∧ plainR 1 r = true ∧ showInts r = true ∧ wt r ≤ 10000002 ∧ still r = true := by
  have c60 : ∀ w, comp w = true → plain 40 w = true → showInts w = true → wt w ≤ 1000000 → ∃ r, (∀ h, biRepr h [w] = some r) ∧ (∀ h, opEq h r r = some true) ∧ plainR 1 r = true ∧ showInts r = true ∧ wt r ≤ 10000002 ∧ still r = true := fun w c p s b => by
    have p60 := plain_up 40 60 w (by omega) p
    exact ⟨.rep w, fun h => repr_of c (plain_R 60 w p60) s (Nat.le_trans b (by decide)), fun h => rep_eq h w, by simp [plainR, p60], rfl, by simp only [wt]; omega, rfl⟩
  rcases t with rfl | ⟨p, s, b⟩
  · exact ⟨.rep .emp, fun h => rfl, fun h => rep_eq h .emp, rfl, rfl, by decide, rfl⟩
  · cases v with
    | tup xs => exact c60 _ rfl p s b
    | lst xs => exact c60 _ rfl p s b
    | str x => exact c60 _ rfl p s b
    | none => exact ⟨_, fun h => rfl, fun h => txt_eq h rfl, rfl, rfl, by decide, rfl⟩
    | bool x => exact ⟨_, fun h => rfl, fun h => txt_eq h (by cases x <;> rfl), by cases x <;> rfl, rfl, by cases x <;> decide, rfl⟩
    | int i =>
      have hs : small 1900 i = true := s
      have l1 := intTxt_len i
      have lg : i.natAbs.log2 < 1900 := by
        unfold small at hs
        by_cases z : i.natAbs = 0
        · rw [z]; decide
        · exact (Nat.log2_lt z).mpr (of_decide_eq_true hs)
      exact ⟨.str (intTxt i), fun h => by simp [hs], fun h => txt_eq h (intTxt_plain i), by
        have := intTxt_plain i
        simp only [plain] at this
        simp only [plainR]; exact this, rfl, by simp only [wt]; omega, rfl⟩
    | _ => simp [plain] at p
/-- a part of a run -/
structure At (v : Val) : Prop where
  p : plain 0 v = true
  s : showInts v = true
  w : wt v ≤ 1500
  t : ∃ s, (∀ h, biV .str h [v] = some (.str s)) ∧ plain 0 (.str s) = true ∧ wt (.str s) ≤ 1500
theorem at_int {i : Int} (h : i.natAbs < 2 ^ 140) : At (.int i) := by
  have l := log_of h
  have s : small 1900 i = true := small_up (by omega) h
  refine ⟨rfl, s, by simp only [wt]; omega, intTxt i, fun h => by simp [s], intTxt_plain i, ?_⟩
  have := intTxt_len i
  simp only [wt]; omega
theorem at_none : At .none := ⟨rfl, rfl, by decide, _, fun h => rfl, rfl, by decide⟩
theorem at_bool (b : Bool) : At (.bool b) := ⟨rfl, rfl, by cases b <;> decide, _, fun h => rfl, by cases b <;> rfl, by cases b <;> decide⟩
theorem at_str {s : Txt} (p : plain 0 (.str s) = true) (w : wt (.str s) ≤ 1500) : At (.str s) := ⟨p, rfl, w, s, fun h => rfl, p, w⟩
/-- an item of a bent row -/
structure Rn (v : Val) : Prop where
  p : plain 2 v = true
  s : showInts v = true
  w : wt v ≤ 5000
  t : ∀ x y, v = .tup [x, y] → At x ∧ At y
theorem At.up {v : Val} (a : At v) (k : Nat) : plain k v = true := plain_up 0 k v (Nat.zero_le k) a.p
theorem rn_pair {x y : Val} (a : At x) (b : At y) : Rn (.tup [x, y]) := by
  refine ⟨?_, ?_, ?_, fun x' y' e => ?_⟩
  · simp only [plain, List.all_cons, List.all_nil, a.up, b.up]; rfl
  · simp only [showInts, showInts.go, a.s, b.s]; rfl
  · have := a.w; have := b.w
    simp only [wt, wt.wts]; omega
  · cases e; exact ⟨a, b⟩
theorem at_small {i : Int} (h0 : -2 ≤ i) (h1 : i ≤ 10000000000000000000000000000000000000002) : At (.int i) := at_int (by
  have : i.natAbs ≤ 10000000000000000000000000000000000000002 := by omega
  exact Nat.lt_of_le_of_lt this (by decide))
theorem rn_stills {xs : List Val} (hx : ∀ v ∈ xs, Rn v) : stills xs = true := plain_stills 2 xs (List.all_eq_true.mpr fun v hv => (hx v hv).p)
theorem cut_lo {xs : List Val} {i : Nat} (hi : i ≤ xs.length) : cut xs none (some (i : Int)) = xs.take i := by
  have h1 : ¬ (i : Int) < 0 := by omega
  have h2 : min i xs.length = i := by omega
  simp [cut, endOf, h1, h2]
theorem cut_hi {xs : List Val} {i : Nat} : cut xs (some ((i : Int) + 1)) none = xs.drop (i + 1) := by
  have h1 : ¬ ((i : Int) + 1) < 0 := by omega
  have e : ((i : Int) + 1).toNat = i + 1 := by omega
  simp only [cut, endOf, h1, if_false, e]
  by_cases hi : i + 1 ≤ xs.length
  · rw [show min (i + 1) xs.length = i + 1 by omega, List.take_of_length_le (by simp)]
  · rw [show min (i + 1) xs.length = xs.length by omega, List.drop_of_length_le (by omega), List.drop_of_length_le (by omega)]
    simp
theorem isTup_kind {v : Val} {k : Nat} {h : Heap} (p : plain k v = true) : isKind h v .ktup = some (isTup v) := by
  cases v <;> first
    | rfl
    | (cases k <;> simp [plain] at p)
/-- a bent row is looked at -/
theorem rn_thing {xs : List Val} (hx : ∀ v ∈ xs, Rn v) (hl : xs.length ≤ 150) : Thing (.tup xs) := by
  have p : xs.all (plain 2) = true := List.all_eq_true.mpr fun v hv => (hx v hv).p
  have key : ∀ xs : List Val, (∀ v ∈ xs, Rn v) → showInts.go xs = true ∧ wt.wts xs ≤ 5002 * xs.length := by
    intro xs
    induction xs with
    | nil => intro _; exact ⟨rfl, Nat.le_refl _⟩
    | cons v r ih =>
      intro hx
      obtain ⟨i1, i2⟩ := ih fun q hq => hx q (List.mem_cons_of_mem _ hq)
      have rv := hx v List.mem_cons_self
      have w := rv.w
      refine ⟨by simp only [showInts.go, rv.s, i1]; rfl, ?_⟩
      simp only [wt.wts, List.length_cons]
      omega
  obtain ⟨k1, k2⟩ := key xs hx
  refine .inr ⟨plain_up 3 40 _ (by omega) (by simpa only [plain] using p), k1, ?_⟩
  simp only [wt]
  omega
theorem many_rn {v : Val} (r : Rn v) (j : Nat) : ∀ w ∈ List.replicate j v, Rn w := by
  intro w hw
  obtain rfl := List.eq_of_mem_replicate hw
  exact r
theorem rn_none : Rn .none := ⟨rfl, rfl, by decide, fun x y e => by cases e⟩
theorem run_rn {a b : Int} (h0 : -2 ≤ a) (h1 : a ≤ 10000000000000000000000000000000000000002) (h2 : -2 ≤ b) (h3 : b ≤ 10000000000000000000000000000000000000002) : Rn (.tup [.int a, .int b]) := rn_pair (at_small h0 h1) (at_small h2 h3)
end Th
end Mini

set_option Elab.async false
set_option linter.all false
set_option maxRecDepth 100000
set_option maxHeartbeats 4000000
/-! PV: sorted, in equations -/
namespace Mini
@[simp] theorem ev_sortk (C : Cx) (env : Env) (e : Ex) (k : String) (js : List Nat) : evalE C (.sortk e k js) env = (evalE C e env).bind fun x => M.bind (fun h => M.opt (lstOf h x) h) fun xs => M.bind (M.opt (js.mapM fun i => env[i]?.join)) fun ws h =>
    M.opt ((keysOf (fun v => C.act (.clo k ws) [v]) h xs).map fun ps => .lst (sortP ps)) h := by simp only [evalE]
@[simp] theorem biV_sortr (h : Heap) (vs : List Val) : biV .sortr h vs = biSortR h vs := rfl
@[simp] theorem biV_sortdr (h : Heap) (vs : List Val) : biV .sortdr h vs = biSortDR h vs := rfl
theorem keys_map {f : Val → Heap → Res Val} {h : Heap} {α : Type} {g : α → Val} {k : α → Int} : ∀ (l : List α), (∀ q ∈ l, f (g q) h = .ok (.int (k q)) h) → keysOf f h (l.map g) = some (l.map fun q => (k q, g q))
  | [], _ => rfl
  | q :: r, hs => by
    simp only [List.map_cons, keysOf, hs q List.mem_cons_self, if_pos, keys_map r fun w hw => hs w (List.mem_cons_of_mem _ hw), Option.map_some]
theorem sortP_map {α : Type} {g : α → Val} {k : α → Int} (l : List α) : sortP (l.map fun q => (k q, g q)) = (l.mergeSort fun a b => decide (k a ≤ k b)).map g := by
  unfold sortP
  have := List.map_mergeSort (r := fun a b : α => decide (k a ≤ k b)) (s := fun a b : Int × Val => decide (a.1 ≤ b.1)) (f := fun q => (k q, g q)) (l := l) (fun a _ b _ => rfl)
  rw [← this, List.map_map]; rfl
theorem intsOf_map (ns : List Int) : intsOf (ns.map .int) = some ns := by
  induction ns with
  | nil => rfl
  | cons i r ih => simp only [List.map_cons, intsOf, ih, Option.map_some]
theorem sortR_lst (h : Heap) (ns : List Int) : biSortR h [.lst (ns.map .int)] = some (.lst ((downI ns).map .int)) := by
  simp only [biSortR, lstOf_lst, Option.bind_some, intsOf_map, Option.map_some]
/-- a comprehension that keeps some -/
theorem comp_keep {C : Cx} {h : Heap} {α : Type} {g : α → Val} {t : Tg} {env : Env} {chk : Heap → Bool} {ifs : List Ex} {elt : Ex} {p : α → Bool} {f : α → Val} (l : List α) (hs : ∀ q ∈ l, lcStep C t env chk ifs elt (g q) h = .ok (if p q then [f q] else []) h) :
    lcGo (lcStep C t env chk ifs elt) (l.map g) h = .ok ((l.filter p).map f) h := by
  induction l with
  | nil => rfl
  | cons q r ih =>
    simp only [List.map_cons, lcGo, hs q List.mem_cons_self, ih fun w hw => hs w (List.mem_cons_of_mem _ hw), List.filter_cons]
    cases p q <;> simp
end Mini

set_option Elab.async false
set_option linter.all false
set_option maxRecDepth 100000
set_option maxHeartbeats 4000000
/-! PZ: profiles as lists of pairs: the step at a tick, how many are so great, values; uniqueness; turned, joined -/
namespace Mini
namespace Pf
def sumT (l : List (Int × Int)) : Int := (l.map (·.2)).sum
theorem sumT_cons (q : Int × Int) (l : List (Int × Int)) : sumT (q :: l) = q.2 + sumT l := by simp [sumT]
theorem sumT_app (x y : List (Int × Int)) : sumT (x ++ y) = sumT x + sumT y := by simp [sumT, List.sum_append]
/-- no width below nought -/
def Nn (l : List (Int × Int)) : Prop := ∀ q ∈ l, 0 ≤ q.2
theorem Nn.tl {q : Int × Int} {l : List (Int × Int)} (p : Nn (q :: l)) : Nn l := fun x hx => p x (List.mem_cons_of_mem _ hx)
theorem Nn.hd {q : Int × Int} {l : List (Int × Int)} (p : Nn (q :: l)) : 0 ≤ q.2 := p q List.mem_cons_self
theorem sumT_nn : ∀ {l : List (Int × Int)}, Nn l → 0 ≤ sumT l
  | [], _ => Int.le_refl _
  | q :: r, p => by
    rw [sumT_cons]
    have := sumT_nn p.tl
    have := p.hd
    omega
/-- the step at a tick -/
def stp : List (Int × Int) → Int → Int
  | [], _ => 0
  | p :: r, t => if t < p.2 then p.1 else stp r (t - p.2)
/-- how many ticks have at least a step -/
def cnt (l : List (Int × Int)) (s : Int) : Int := ((l.filter fun q => decide (s ≤ q.1)).map (·.2)).sum
theorem cnt_nil (s : Int) : cnt [] s = 0 := rfl
theorem cnt_cons (q : Int × Int) (l : List (Int × Int)) (s : Int) : cnt (q :: l) s = (if s ≤ q.1 then q.2 else 0) + cnt l s := by
  unfold cnt
  by_cases z : s ≤ q.1 <;> simp [List.filter_cons, z]
theorem cnt_app (x y : List (Int × Int)) (s : Int) : cnt (x ++ y) s = cnt x s + cnt y s := by simp [cnt, List.filter_append, List.sum_append]
theorem cnt_perm {x y : List (Int × Int)} (p : x.Perm y) (a : Int) : cnt x a = cnt y a := by
  induction p with
  | nil => rfl
  | cons q _ ih => rw [cnt_cons, cnt_cons, ih]
  | swap q r l => simp only [cnt_cons]; omega
  | trans _ _ h1 h2 => exact h1.trans h2
theorem cnt_nn : ∀ {l : List (Int × Int)} (s : Int), Nn l → 0 ≤ cnt l s
  | [], s, _ => Int.le_refl _
  | q :: r, s, p => by
    have := cnt_nn s p.tl
    have := p.hd
    rw [cnt_cons]; split <;> omega
theorem cnt_le : ∀ {l : List (Int × Int)} (s : Int), Nn l → cnt l s ≤ sumT l
  | [], s, _ => Int.le_refl _
  | q :: r, s, p => by
    have := cnt_le s p.tl
    have := p.hd
    rw [cnt_cons, sumT_cons]; split <;> omega
theorem cnt_zero : ∀ {l : List (Int × Int)} {s : Int}, (∀ q ∈ l, q.1 < s) → cnt l s = 0
  | [], s, _ => rfl
  | q :: r, s, h => by
    have := h q List.mem_cons_self
    rw [cnt_cons, if_neg (by omega), cnt_zero fun x hx => h x (List.mem_cons_of_mem _ hx)]; rfl
def Fl (l : List Int) : Prop := l.Pairwise (· > ·)
/-- a profile -/
structure Pr (l : List (Int × Int)) : Prop where
  fl : Fl (l.map (·.1))
  ge : ∀ q ∈ l, 1 ≤ q.1 ∧ 1 ≤ q.2
theorem Pr.nn {l : List (Int × Int)} (p : Pr l) : Nn l := fun q hq => by have := (p.ge q hq).2; omega
theorem Pr.tl {q : Int × Int} {l : List (Int × Int)} (p : Pr (q :: l)) : Pr l := ⟨(List.pairwise_cons.mp p.fl).2, fun x hx => p.ge x (List.mem_cons_of_mem _ hx)⟩
theorem Pr.lt {q : Int × Int} {l : List (Int × Int)} (p : Pr (q :: l)) : ∀ x ∈ l, x.1 < q.1 := fun x hx => (List.pairwise_cons.mp p.fl).1 x.1 (List.mem_map.mpr ⟨x, hx, rfl⟩)
theorem Pr.nil : Pr [] := ⟨List.Pairwise.nil, fun q h => nomatch h⟩
theorem stp_nn : ∀ {l : List (Int × Int)}, Pr l → ∀ t, 0 ≤ stp l t
  | [], _, t => Int.le_refl _
  | q :: r, p, t => by
    have := (p.ge q List.mem_cons_self).1
    rw [stp]; split
    · omega
    · exact stp_nn p.tl _
theorem stp_far : ∀ {l : List (Int × Int)} {t : Int}, Nn l → sumT l ≤ t → stp l t = 0
  | [], _, _, _ => rfl
  | q :: r, t, p, h => by
    have := sumT_nn p.tl
    rw [sumT_cons] at h
    rw [stp, if_neg (by omega), stp_far p.tl (by omega)]
theorem stp_lt : ∀ {l : List (Int × Int)} {s : Int}, 1 ≤ s → (∀ q ∈ l, q.1 < s) → ∀ t, stp l t < s
  | [], s, hs, _, t => by rw [stp]; omega
  | q :: r, s, hs, h, t => by
    rw [stp]; split
    · exact h q List.mem_cons_self
    · exact stp_lt hs (fun x hx => h x (List.mem_cons_of_mem _ hx)) _
/-- a tick has at least a step exactly if it is one of the first so many -/
theorem gal : ∀ {l : List (Int × Int)}, Pr l → ∀ {t s : Int}, 0 ≤ t → 1 ≤ s → (s ≤ stp l t ↔ t < cnt l s)
  | [], _, t, s, ht, hs => by
    rw [stp, cnt_nil]; omega
  | q :: r, p, t, s, ht, hs => by
    have g := (p.ge q List.mem_cons_self).2
    rw [stp, cnt_cons]
    by_cases z : s ≤ q.1
    · rw [if_pos z]
      have c := cnt_nn s p.tl.nn
      split
      · omega
      · rw [gal p.tl (by omega) hs]; omega
    · rw [if_neg z]
      have c : cnt r s = 0 := cnt_zero fun x hx => by have := p.lt x hx; omega
      rw [c]
      split
      · omega
      · have := stp_lt hs (fun x hx => by have := p.lt x hx; omega) (t - q.2) (l := r)
        omega
/-- a profile is told by how many have at least each step -/
theorem one_cnt : ∀ {x y : List (Int × Int)}, Pr x → Pr y → (∀ s, 1 ≤ s → cnt x s = cnt y s) → x = y
  | [], [], _, _, _ => rfl
  | [], q :: r, _, py, h => by
    obtain ⟨g1, g2⟩ := py.ge q List.mem_cons_self
    have e := h q.1 g1
    rw [cnt_nil, cnt_cons, if_pos (Int.le_refl _)] at e
    have := cnt_nn q.1 py.tl.nn
    omega
  | q :: r, [], px, _, h => by
    obtain ⟨g1, g2⟩ := px.ge q List.mem_cons_self
    have e := h q.1 g1
    rw [cnt_nil, cnt_cons, if_pos (Int.le_refl _)] at e
    have := cnt_nn q.1 px.tl.nn
    omega
  | p :: x, q :: y, px, py, h => by
    obtain ⟨g1, g2⟩ := px.ge p List.mem_cons_self
    obtain ⟨g3, g4⟩ := py.ge q List.mem_cons_self
    have zx : ∀ s, p.1 ≤ s → cnt x s = 0 := fun s hs => cnt_zero fun w hw => by have := px.lt w hw; omega
    have zy : ∀ s, q.1 ≤ s → cnt y s = 0 := fun s hs => cnt_zero fun w hw => by have := py.lt w hw; omega
    have a := h p.1 g1
    have b := h q.1 g3
    rw [cnt_cons, cnt_cons, if_pos (Int.le_refl _), zx _ (Int.le_refl _)] at a
    rw [cnt_cons, cnt_cons, if_pos (Int.le_refl _), zy _ (Int.le_refl _)] at b
    have e1 : p.1 = q.1 := by
      by_cases z : p.1 < q.1
      · rw [if_neg (by omega), zx _ (by omega)] at b; omega
      · by_cases z2 : q.1 < p.1
        · rw [if_neg (by omega), zy _ (by omega)] at a; omega
        · omega
    have e2 : p.2 = q.2 := by
      rw [if_pos (by omega), zy _ (by omega)] at a; omega
    have e : p = q := Prod.ext e1 e2
    subst e
    rw [one_cnt px.tl py.tl fun s hs => by
      have := h s hs
      rw [cnt_cons, cnt_cons] at this
      omega]
theorem one_stp {x y : List (Int × Int)} (px : Pr x) (py : Pr y) (h : ∀ t, 0 ≤ t → stp x t = stp y t) : x = y := one_cnt px py fun s hs => by
  have a := cnt_nn s px.nn
  have b := cnt_nn s py.nn
  have key : ∀ t, 0 ≤ t → (t < cnt x s ↔ t < cnt y s) := fun t ht => by
    rw [← gal px ht hs, ← gal py ht hs, h t ht]
  have k1 := key (cnt x s) a
  have k2 := key (cnt y s) b
  omega
/-! ### turned -/
def turnG : Int → List (Int × Int) → List (Int × Int)
  | _, [] => []
  | t, p :: r => (t + p.2, p.1 - (match r with | [] => 0 | q :: _ => q.1)) :: turnG (t + p.2) r
def turn (l : List (Int × Int)) : List (Int × Int) := (turnG 0 l).reverse
def hd1 : List (Int × Int) → Int
  | [] => 0
  | q :: _ => q.1
theorem turnG_cons (t : Int) (p : Int × Int) (r : List (Int × Int)) : turnG t (p :: r) = (t + p.2, p.1 - hd1 r) :: turnG (t + p.2) r := by
  cases r <;> rfl
theorem hd1_le {p : Int × Int} {r : List (Int × Int)} (h : Pr (p :: r)) : 0 ≤ hd1 r ∧ hd1 r < p.1 := by
  cases r with
  | nil => have := (h.ge p List.mem_cons_self).1; exact ⟨Int.le_refl _, by simp only [hd1]; omega⟩
  | cons q r =>
    have := h.lt q List.mem_cons_self
    have := (h.ge q (List.mem_cons_of_mem _ List.mem_cons_self)).1
    exact ⟨by simp only [hd1]; omega, by simp only [hd1]; omega⟩
theorem turnG_mem : ∀ {l : List (Int × Int)} {t : Int}, Pr l → ∀ x ∈ turnG t l, t < x.1 ∧ x.1 ≤ t + sumT l ∧ 1 ≤ x.2
  | p :: r, t, h, x, hx => by
    rw [turnG_cons] at hx
    have g := (h.ge p List.mem_cons_self).2
    have s := sumT_nn h.tl.nn
    have e := hd1_le h
    rw [sumT_cons]
    rcases List.mem_cons.mp hx with rfl | hx
    · exact ⟨by dsimp only; omega, by dsimp only; omega, by dsimp only; omega⟩
    · obtain ⟨a, b, c⟩ := turnG_mem h.tl x hx
      exact ⟨by omega, by omega, c⟩
theorem turnG_up : ∀ {l : List (Int × Int)} {t : Int}, Pr l → ((turnG t l).map (·.1)).Pairwise (· < ·)
  | [], t, _ => List.Pairwise.nil
  | p :: r, t, h => by
    rw [turnG_cons, List.map_cons, List.pairwise_cons]
    refine ⟨fun a ha => ?_, turnG_up h.tl⟩
    obtain ⟨x, hx, rfl⟩ := List.mem_map.mp ha
    exact (turnG_mem h.tl x hx).1
theorem turn_pr {l : List (Int × Int)} (h : Pr l) (h0 : Nn l) : Pr (turn l) := by
  refine ⟨?_, fun q hq => ?_⟩
  · show (((turnG 0 l).reverse).map (·.1)).Pairwise (· > ·)
    rw [List.map_reverse, List.pairwise_reverse]
    exact turnG_up h
  · obtain ⟨a, b, c⟩ := turnG_mem h q (List.mem_reverse.mp hq)
    exact ⟨by omega, c⟩
theorem turn_len (l : List (Int × Int)) : (turn l).length = l.length := by
  have : ∀ (l : List (Int × Int)) (t : Int), (turnG t l).length = l.length := by
    intro l
    induction l with
    | nil => exact fun _ => rfl
    | cons p r ih => exact fun t => by rw [turnG_cons, List.length_cons, ih, List.length_cons]
  rw [turn, List.length_reverse, this]
theorem turnG_cnt : ∀ {l : List (Int × Int)} {t s : Int}, Pr l → t < s → cnt (turnG t l) s = stp l (s - t - 1)
  | [], t, s, _, _ => rfl
  | p :: r, t, s, h, ht => by
    have e := hd1_le h
    rw [turnG_cons, cnt_cons, stp]
    dsimp only
    by_cases z : s ≤ t + p.2
    · rw [if_pos z, if_pos (by omega)]
      -- all behind have it, too
      have all : ∀ {l : List (Int × Int)} {t : Int}, Pr l → s ≤ t + 1 → cnt (turnG t l) s = hd1 l := by
        intro l
        induction l with
        | nil => exact fun _ _ => rfl
        | cons q y ih =>
          intro t hq hs
          have g := (hq.ge q List.mem_cons_self).2
          rw [turnG_cons, cnt_cons, if_pos (by dsimp only; omega), ih hq.tl (by omega)]
          show q.1 - hd1 y + hd1 y = q.1
          omega
      rw [all h.tl (by omega)]
      omega
    · rw [if_neg z, if_neg (by omega), turnG_cnt h.tl (by omega), Int.zero_add]
      congr 1
      omega
theorem cnt_turn {l : List (Int × Int)} (h : Pr l) {s : Int} (hs : 1 ≤ s) : cnt (turn l) s = stp l (s - 1) := by
  rw [turn, cnt_perm (List.reverse_perm _), turnG_cnt h (by omega)]
  congr 1; omega
theorem stp_turn {l : List (Int × Int)} (h : Pr l) {t : Int} (ht : 0 ≤ t) : stp (turn l) t = cnt l (t + 1) := by
  have pt := turn_pr h h.nn
  have a := stp_nn pt t
  have b := cnt_nn (t + 1) h.nn
  have key : ∀ s, 1 ≤ s → (s ≤ stp (turn l) t ↔ s ≤ cnt l (t + 1)) := fun s hs => by
    rw [gal pt ht hs, cnt_turn h hs]
    have := gal h (t := s - 1) (s := t + 1) (by omega) (by omega)
    omega
  by_cases z1 : 1 ≤ stp (turn l) t
  · have k1 := key _ z1
    by_cases z2 : 1 ≤ cnt l (t + 1)
    · have k2 := key _ z2; omega
    · omega
  · by_cases z2 : 1 ≤ cnt l (t + 1)
    · have k2 := key _ z2; omega
    · omega
theorem turn_turn {l : List (Int × Int)} (h : Pr l) : turn (turn l) = l := by
  have pt := turn_pr h h.nn
  refine one_cnt (turn_pr pt pt.nn) h fun s hs => ?_
  rw [cnt_turn pt hs, stp_turn h (by omega)]
  congr 1; omega
/-- the sum of all -/
def all (l : List (Int × Int)) : Int := (l.map fun q => q.1 * q.2).sum
theorem all_cons (q : Int × Int) (l : List (Int × Int)) : all (q :: l) = q.1 * q.2 + all l := by simp [all]
theorem turnG_all : ∀ {l : List (Int × Int)} {t : Int}, all (turnG t l) = all l + t * hd1 l
  | [], t => by simp [turnG, all, hd1]
  | p :: r, t => by
    rw [turnG_cons, all_cons, turnG_all, all_cons]
    show (t + p.2) * (p.1 - hd1 r) + (all r + (t + p.2) * hd1 r) = p.1 * p.2 + all r + t * p.1
    rw [Int.mul_sub, Int.add_mul, Int.mul_comm p.2 p.1]; omega
theorem sum_rev : ∀ (l : List Int), l.reverse.sum = l.sum
  | [] => rfl
  | a :: r => by rw [List.reverse_cons, List.sum_append, sum_rev r, List.sum_cons]; simp; omega
theorem all_turn (l : List (Int × Int)) : all (turn l) = all l := by
  have := turnG_all (l := l) (t := 0)
  rw [turn, all, List.map_reverse, sum_rev]
  show all (turnG 0 l) = _
  rw [this]; simp
theorem turnG_sum : ∀ {l : List (Int × Int)} {t : Int}, sumT (turnG t l) = hd1 l
  | [], t => rfl
  | p :: r, t => by
    rw [turnG_cons, sumT_cons, turnG_sum]
    show p.1 - hd1 r + hd1 r = p.1
    omega
theorem sumT_turn (l : List (Int × Int)) : sumT (turn l) = hd1 l := by
  rw [turn, sumT, List.map_reverse, sum_rev]
  exact turnG_sum
theorem turnG_last : ∀ {p : Int × Int} {r : List (Int × Int)} {t : Int}, hd1 (turnG t (p :: r)).reverse = t + sumT (p :: r)
  | p, [], t => by simp [turnG, hd1, sumT]
  | p, q :: r, t => by
    have e : turnG t (p :: q :: r) = (t + p.2, p.1 - q.1) :: turnG (t + p.2) (q :: r) := rfl
    rw [e, List.reverse_cons]
    have ih := turnG_last (p := q) (r := r) (t := t + p.2)
    have ne : (turnG (t + p.2) (q :: r)).reverse ≠ [] := by simp [turnG]
    obtain ⟨x, y, exy⟩ := List.exists_cons_of_ne_nil ne
    rw [exy] at ih ⊢
    rw [List.cons_append]
    show x.1 = _
    have ih : x.1 = _ := ih
    rw [ih, sumT_cons p]; omega
theorem hd1_turn (l : List (Int × Int)) : hd1 (turn l) = sumT l := by
  cases l with
  | nil => rfl
  | cons p r => rw [turn, turnG_last]; omega
/-! ### values -/
def valI : List (Int × Int) → Int → Int
  | [], _ => 0
  | q :: r, t => (if 0 < t then q.1 * (if t < q.2 then t else q.2) else 0) + valI r (t - q.2)
theorem val_zero : ∀ (l : List (Int × Int)) (t : Int), Nn l → t ≤ 0 → valI l t = 0
  | [], _, _, _ => rfl
  | q :: r, t, h, ht => by
    have := h.hd
    rw [valI, if_neg (by omega), val_zero r _ h.tl (by omega)]; rfl
theorem val_next : ∀ (l : List (Int × Int)) (t : Int), Nn l → 0 ≤ t → valI l (t + 1) = valI l t + stp l t
  | [], _, _, _ => rfl
  | q :: r, t, h, ht => by
    have g := h.hd
    rw [valI, valI, stp, if_pos (by omega)]
    by_cases z : t < q.2
    · rw [if_pos z]
      have r1 := val_zero r (t + 1 - q.2) h.tl (by omega)
      have r2 := val_zero r (t - q.2) h.tl (by omega)
      rw [r1, r2]
      have e1 : (if t + 1 < q.2 then t + 1 else q.2) = t + 1 := by split <;> omega
      rw [e1]
      by_cases z0 : 0 < t
      · rw [if_pos z0, if_pos z, Int.mul_add]; omega
      · have e0 : t = 0 := by omega
        subst e0
        simp
        intro hh
        omega
    · rw [if_neg z]
      have e : t + 1 - q.2 = (t - q.2) + 1 := by omega
      rw [e, val_next r (t - q.2) h.tl (by omega), if_neg (show ¬ t + 1 < q.2 by omega)]
      by_cases z0 : 0 < t
      · rw [if_pos z0, if_neg z]; omega
      · have e2 : q.2 = 0 := by omega
        rw [if_neg z0, e2]; simp
        intro hh
        omega
/-- what is kept below a step -/
def low (l : List (Int × Int)) (x : Int) : Int := (l.map fun q => q.2 * (if x < q.1 then x else q.1)).sum
theorem low_cons (q : Int × Int) (l : List (Int × Int)) (x : Int) : low (q :: l) x = q.2 * (if x < q.1 then x else q.1) + low l x := by simp [low]
theorem low_zero : ∀ {l : List (Int × Int)}, (∀ q ∈ l, 1 ≤ q.1) → low l 0 = 0
  | [], _ => rfl
  | q :: r, h => by
    have := h q List.mem_cons_self
    rw [low_cons, if_pos (by omega), low_zero fun x hx => h x (List.mem_cons_of_mem _ hx)]; simp
theorem low_next : ∀ (l : List (Int × Int)) (x : Int), low l (x + 1) = low l x + cnt l (x + 1)
  | [], x => rfl
  | q :: r, x => by
    rw [low_cons, low_cons, cnt_cons, low_next r x]
    by_cases z : x + 1 ≤ q.1
    · have e1 : (if x + 1 < q.1 then x + 1 else q.1) = x + 1 := by split <;> omega
      rw [if_pos z, if_pos (show x < q.1 by omega), e1, Int.mul_add]; omega
    · have e1 : (if x + 1 < q.1 then x + 1 else q.1) = q.1 := by split <;> omega
      have e2 : (if x < q.1 then x else q.1) = q.1 := by split <;> omega
      rw [if_neg z, e1, e2]; omega
theorem val_turn {l : List (Int × Int)} (h : Pr l) : ∀ n : Nat, valI (turn l) n = low l n
  | 0 => by
    rw [show ((0 : Nat) : Int) = 0 from rfl, val_zero _ _ (turn_pr h h.nn).nn (Int.le_refl _), low_zero fun q hq => (h.ge q hq).1]
  | n + 1 => by
    rw [Int.natCast_succ, val_next _ _ (turn_pr h h.nn).nn (by omega), val_turn h n, stp_turn h (by omega), low_next]
/-- what is above a step -/
def above (l : List (Int × Int)) (x : Int) : Int := ((l.filter fun q => decide (x < q.1)).map fun q => (q.1 - x) * q.2).sum
theorem above_cons (q : Int × Int) (l : List (Int × Int)) (x : Int) : above (q :: l) x = (if x < q.1 then (q.1 - x) * q.2 else 0) + above l x := by
  unfold above
  by_cases z : x < q.1 <;> simp [List.filter_cons, z]
theorem low_above : ∀ (l : List (Int × Int)) (x : Int), low l x = all l - above l x
  | [], x => rfl
  | q :: r, x => by
    rw [low_cons, all_cons, above_cons, low_above r x]
    by_cases z : x < q.1
    · rw [if_pos z, if_pos z, Int.sub_mul, Int.mul_comm q.2 x]; omega
    · rw [if_neg z, if_neg z, Int.mul_comm q.2 q.1]; omega
end Pf
end Mini

set_option Elab.async false
set_option linter.all false
set_option maxRecDepth 100000
set_option maxHeartbeats 4000000
/-! PY: runs put together: joined, together, added -/
namespace Mini
namespace Pf
def addP (found : List (Int × Int)) (q : Int × Int) : List (Int × Int) := match found.getLast? with
  | some l => if l.1 = q.1 then found.dropLast ++ [(q.1, l.2 + q.2)] else found ++ [q]
  | none => found ++ [q]
theorem addP_len (found : List (Int × Int)) (q : Int × Int) : (addP found q).length ≤ found.length + 1 := by
  unfold addP
  split
  · split
    · simp
    · simp
  · simp
/-- either the last one grows, or one more comes -/
theorem addP_or (f : List (Int × Int)) (q : Int × Int) : (∃ i l, f = i ++ [l] ∧ l.1 = q.1 ∧ addP f q = i ++ [(q.1, l.2 + q.2)]) ∨ (addP f q = f ++ [q] ∧ ∀ l, f.getLast? = some l → l.1 ≠ q.1) := by
  rcases List.eq_nil_or_concat f with e | ⟨i, x, e⟩
  · subst e
    exact .inr ⟨rfl, fun l h => by cases h⟩
  · rw [List.concat_eq_append] at e
    subst e
    have la : (i ++ [x]).getLast? = some x := by simp
    by_cases z : x.1 = q.1
    · exact .inl ⟨i, x, rfl, z, by simp [addP, la, z]⟩
    · exact .inr ⟨by simp [addP, la, z], fun l h => by rw [la] at h; cases h; exact z⟩
theorem addP_cnt (f : List (Int × Int)) (q : Int × Int) (s : Int) : cnt (addP f q) s = cnt f s + cnt [q] s := by
  rcases addP_or f q with ⟨i, l, rfl, z, e⟩ | ⟨e, _⟩
  · rw [e]
    simp only [cnt_app, cnt_cons, cnt_nil, z]
    split <;> omega
  · rw [e, cnt_app]
theorem addP_nn {f : List (Int × Int)} {q : Int × Int} (hf : ∀ p ∈ f, 1 ≤ p.1 ∧ 1 ≤ p.2) (hq : 1 ≤ q.1 ∧ 1 ≤ q.2) : ∀ p ∈ addP f q, 1 ≤ p.1 ∧ 1 ≤ p.2 := by
  rcases addP_or f q with ⟨i, l, rfl, z, e⟩ | ⟨e, _⟩
  · intro p hp
    rw [e] at hp
    rcases List.mem_append.mp hp with hp | hp
    · exact hf p (List.mem_append_left _ hp)
    · obtain rfl := List.mem_singleton.mp hp
      have := hf l (List.mem_append_right _ List.mem_cons_self)
      exact ⟨hq.1, by dsimp only; omega⟩
  · intro p hp
    rw [e] at hp
    rcases List.mem_append.mp hp with hp | hp
    · exact hf p hp
    · rw [List.mem_singleton.mp hp]; exact hq
theorem addP_sum (f : List (Int × Int)) (q : Int × Int) : sumT (addP f q) = sumT f + q.2 := by
  have one : ∀ x : Int × Int, sumT [x] = x.2 := fun x => by simp [sumT]
  rcases addP_or f q with ⟨i, l, rfl, z, e⟩ | ⟨e, _⟩
  · rw [e, sumT_app, sumT_app, one, one]; dsimp only; omega
  · rw [e, sumT_app, one]
theorem fold_cnt : ∀ (s f : List (Int × Int)) (a : Int), cnt (s.foldl addP f) a = cnt f a + cnt s a
  | [], f, a => by simp [cnt_nil]
  | q :: r, f, a => by
    rw [List.foldl_cons, fold_cnt r, addP_cnt, cnt_cons q r, cnt_cons q [], cnt_nil]; omega
theorem fold_sum : ∀ (s f : List (Int × Int)), sumT (s.foldl addP f) = sumT f + sumT s
  | [], f => by simp [sumT]
  | q :: r, f => by rw [List.foldl_cons, fold_sum r, addP_sum, sumT_cons]; omega
theorem fold_len : ∀ (s f : List (Int × Int)), (s.foldl addP f).length ≤ f.length + s.length
  | [], f => by simp
  | q :: r, f => by
    have := fold_len r (addP f q)
    have := addP_len f q
    rw [List.foldl_cons, List.length_cons]; omega
theorem fold_pr : ∀ (s f : List (Int × Int)), Pr f → (∀ p ∈ f, ∀ q ∈ s, q.1 ≤ p.1) → (s.map (·.1)).Pairwise (· ≥ ·) → (∀ q ∈ s, 1 ≤ q.1 ∧ 1 ≤ q.2) → Pr (s.foldl addP f)
  | [], f, h, _, _, _ => h
  | q :: r, f, h, hs, hp, hq => by
    rw [List.foldl_cons]
    rw [List.map_cons, List.pairwise_cons] at hp
    have q1 := hq q List.mem_cons_self
    have base : Fl ((addP f q).map (·.1)) ∧ ∀ p ∈ addP f q, p.1 = q.1 ∨ p ∈ f := by
      rcases addP_or f q with ⟨i, l, rfl, z, e⟩ | ⟨e, n⟩
      · rw [e]
        have fl := h.fl
        rw [List.map_append] at fl ⊢
        rw [List.map_cons, List.map_nil, z] at fl
        refine ⟨fl, fun p hp => ?_⟩
        rcases List.mem_append.mp hp with hp | hp
        · exact .inr (List.mem_append_left _ hp)
        · rw [List.mem_singleton.mp hp]; exact .inl rfl
      · rw [e, List.map_append]
        refine ⟨List.pairwise_append.mpr ⟨h.fl, List.pairwise_singleton _ _, fun a ha b hb => ?_⟩, fun p hp => ?_⟩
        · obtain rfl := List.mem_singleton.mp hb
          obtain ⟨p, hm, rfl⟩ := List.mem_map.mp ha
          show p.1 > q.1
          rcases List.eq_nil_or_concat f with e0 | ⟨i, x, e0⟩
          · subst e0; cases hm
          · rw [List.concat_eq_append] at e0
            subst e0
            have h3 := n x (by simp)
            have h4 := hs x (by simp) q List.mem_cons_self
            rcases List.mem_append.mp hm with hm | hm
            · have fl := h.fl
              rw [List.map_append] at fl
              have := (List.pairwise_append.mp fl).2.2 p.1 (List.mem_map.mpr ⟨p, hm, rfl⟩) x.1 (by simp)
              omega
            · obtain rfl := List.mem_singleton.mp hm
              omega
        · rcases List.mem_append.mp hp with hp | hp
          · exact .inr hp
          · rw [List.mem_singleton.mp hp]; exact .inl rfl
    refine fold_pr r _ ⟨base.1, addP_nn h.ge q1⟩ (fun p hm q' hq' => ?_) hp.2 fun x hx => hq x (List.mem_cons_of_mem _ hx)
    rcases base.2 p hm with z | z
    · rw [z]; exact hp.1 q'.1 (List.mem_map.mpr ⟨q', hq', rfl⟩)
    · exact hs p z q' (List.mem_cons_of_mem _ hq')
/-- what is no nought -/
def pos (l : List (Int × Int)) : List (Int × Int) := l.filter fun q => decide (0 < q.1) && decide (0 < q.2)
def joinL (l : List (Int × Int)) : List (Int × Int) := (pos l).foldl addP []
theorem pos_cnt : ∀ {l : List (Int × Int)} {s : Int}, Nn l → 1 ≤ s → cnt (pos l) s = cnt l s
  | [], _, _, _ => rfl
  | q :: r, s, h, hs => by
    have ih := pos_cnt h.tl hs
    have g := h.hd
    unfold pos at *
    rw [List.filter_cons, cnt_cons]
    split
    · rw [cnt_cons, ih]
    · rename_i z
      simp only [Bool.and_eq_true, decide_eq_true_eq, not_and] at z
      rw [ih]
      split
      · have := z (by omega); omega
      · omega
theorem pos_mem {l : List (Int × Int)} : ∀ q ∈ pos l, 1 ≤ q.1 ∧ 1 ≤ q.2 := fun q hq => by
  have := (List.mem_filter.mp hq).2
  simp only [Bool.and_eq_true, decide_eq_true_eq] at this
  omega
theorem pos_sum : ∀ {l : List (Int × Int)}, Nn l → sumT (pos l) ≤ sumT l
  | [], _ => Int.le_refl _
  | q :: r, h => by
    have ih := pos_sum h.tl
    have g := h.hd
    unfold pos at *
    rw [List.filter_cons, sumT_cons]
    split
    · rw [sumT_cons]; omega
    · omega
/-- not rising -/
def Fw (l : List (Int × Int)) : Prop := (l.map (·.1)).Pairwise (· ≥ ·)
theorem join_pr {l : List (Int × Int)} (h : Fw l) : Pr (joinL l) := fold_pr _ _ Pr.nil (fun p h => nomatch h) (by
  unfold pos
  exact h.sublist ((List.filter_sublist).map _)) pos_mem
theorem join_cnt {l : List (Int × Int)} {s : Int} (hn : Nn l) (hs : 1 ≤ s) : cnt (joinL l) s = cnt l s := by
  rw [joinL, fold_cnt, cnt_nil, pos_cnt hn hs]; omega
theorem join_sum {l : List (Int × Int)} (hn : Nn l) : sumT (joinL l) ≤ sumT l := by
  have := pos_sum hn
  rw [joinL, fold_sum]
  simp only [sumT, List.map_nil, List.sum_nil] at *
  omega
theorem join_len (l : List (Int × Int)) : (joinL l).length ≤ l.length := by
  have := fold_len (pos l) []
  have h2 : (pos l).length ≤ l.length := List.length_filter_le _ _
  simp only [List.length_nil] at this
  unfold joinL; omega
theorem fold_le {b : Int} : ∀ (s f : List (Int × Int)), (∀ p ∈ f, p.1 ≤ b) → (∀ p ∈ s, p.1 ≤ b) → ∀ p ∈ s.foldl addP f, p.1 ≤ b
  | [], f, h, _ => h
  | q :: r, f, h, hs => by
    rw [List.foldl_cons]
    refine fold_le r _ (fun p hp => ?_) fun p hp => hs p (List.mem_cons_of_mem _ hp)
    rcases addP_or f q with ⟨i, l, rfl, z, e⟩ | ⟨e, n⟩
    · rw [e] at hp
      rcases List.mem_append.mp hp with hp | hp
      · exact h p (List.mem_append_left _ hp)
      · rw [List.mem_singleton.mp hp]; exact hs q List.mem_cons_self
    · rw [e] at hp
      rcases List.mem_append.mp hp with hp | hp
      · exact h p hp
      · rw [List.mem_singleton.mp hp]; exact hs q List.mem_cons_self
theorem join_le {l : List (Int × Int)} {b : Int} (h : ∀ p ∈ l, p.1 ≤ b) : ∀ p ∈ joinL l, p.1 ≤ b := fold_le _ _ (fun p h => nomatch h) fun p hp => h p (List.mem_filter.mp hp).1
/-- the same for what does not rise -/
theorem galw : ∀ {l : List (Int × Int)}, Fw l → Nn l → ∀ {t s : Int}, 0 ≤ t → 1 ≤ s → (s ≤ stp l t ↔ t < cnt l s)
  | [], _, _, t, s, ht, hs => by
    rw [stp, cnt_nil]; omega
  | q :: r, p, hn, t, s, ht, hs => by
    unfold Fw at p
    rw [List.map_cons, List.pairwise_cons] at p
    have lt : ∀ x ∈ r, x.1 ≤ q.1 := fun x hx => p.1 x.1 (List.mem_map.mpr ⟨x, hx, rfl⟩)
    have g := hn.hd
    rw [stp, cnt_cons]
    by_cases z : s ≤ q.1
    · rw [if_pos z]
      have c := cnt_nn s hn.tl
      split
      · omega
      · rw [galw p.2 hn.tl (by omega) hs]; omega
    · rw [if_neg z]
      have c : cnt r s = 0 := cnt_zero fun x hx => by have := lt x hx; omega
      rw [c]
      split
      · omega
      · have := stp_lt hs (fun x hx => by have := lt x hx; omega) (t - q.2) (l := r)
        omega
theorem stp_nnw : ∀ {l : List (Int × Int)}, (∀ q ∈ l, 0 ≤ q.1) → ∀ t, 0 ≤ stp l t
  | [], _, t => Int.le_refl _
  | q :: r, p, t => by
    have := p q List.mem_cons_self
    rw [stp]; split
    · omega
    · exact stp_nnw (fun x hx => p x (List.mem_cons_of_mem _ hx)) _
theorem join_stp {l : List (Int × Int)} (h : Fw l) (hn : Nn l) (h0 : ∀ q ∈ l, 0 ≤ q.1) {t : Int} (ht : 0 ≤ t) : stp (joinL l) t = stp l t := by
  have pj := join_pr h
  have a := stp_nn pj t
  have b := stp_nnw h0 t
  have key : ∀ s, 1 ≤ s → (s ≤ stp (joinL l) t ↔ s ≤ stp l t) := fun s hs => by
    rw [gal pj ht hs, join_cnt hn hs, galw h hn ht hs]
  by_cases z1 : 1 ≤ stp (joinL l) t
  · have k1 := key _ z1
    by_cases z2 : 1 ≤ stp l t
    · have k2 := key _ z2; omega
    · omega
  · by_cases z2 : 1 ≤ stp l t
    · have k2 := key _ z2; omega
    · omega
/-! ### together -/
theorem down_fw (l : List (Int × Int)) : Fw (downP l) ∧ (downP l).Perm l := by
  refine ⟨?_, List.mergeSort_perm _ _⟩
  unfold Fw
  rw [List.pairwise_map]
  refine (List.pairwise_mergeSort (le := fun p q : Int × Int => decide (q.1 < p.1 ∨ (q.1 = p.1 ∧ q.2 ≤ p.2))) (fun a b c h1 h2 => ?_) (fun a b => ?_) l).imp fun {a b} h => ?_
  · simp only [decide_eq_true_eq] at *; omega
  · simp only [Bool.or_eq_true, decide_eq_true_eq]; omega
  · simp only [decide_eq_true_eq] at h
    show a.1 ≥ b.1
    omega
def tog (x y : List (Int × Int)) : List (Int × Int) := joinL (downP (x ++ y))
theorem nn_perm {x y : List (Int × Int)} (p : x.Perm y) (h : Nn y) : Nn x := fun q hq => h q (p.mem_iff.mp hq)
theorem nn_app {x y : List (Int × Int)} (a : Nn x) (b : Nn y) : Nn (x ++ y) := fun q hq => (List.mem_append.mp hq).elim (a q) (b q)
theorem tog_pr (x y : List (Int × Int)) : Pr (tog x y) := join_pr (down_fw _).1
theorem tog_cnt {x y : List (Int × Int)} (a : Nn x) (b : Nn y) {s : Int} (hs : 1 ≤ s) : cnt (tog x y) s = cnt x s + cnt y s := by
  have p := (down_fw (x ++ y)).2
  rw [tog, join_cnt (nn_perm p (nn_app a b)) hs, cnt_perm p, cnt_app]
/-! ### added -/
/-- the runs between ends -/
def runs (f : Int → Int) : List Int → List (Int × Int)
  | b :: e :: r => (f b, e - b) :: runs f (e :: r)
  | _ => []
/-- where pairs end -/
def endsG : Int → List (Int × Int) → List Int
  | _, [] => []
  | c, p :: r => (c + p.2) :: endsG (c + p.2) r
theorem stp_flat : ∀ {l : List (Int × Int)} {c b x : Int}, Nn l → c ≤ b → b ≤ x → (∀ e ∈ endsG c l, ¬ (b < e ∧ e ≤ x)) → stp l (x - c) = stp l (b - c)
  | [], _, _, _, _, _, _, _ => rfl
  | p :: r, c, b, x, h, h1, h2, h3 => by
    have e0 := h3 (c + p.2) (by simp [endsG])
    rw [stp, stp]
    by_cases z : b - c < p.2
    · rw [if_pos z, if_pos (by omega)]
    · rw [if_neg z, if_neg (by omega)]
      have := stp_flat (c := c + p.2) h.tl (by omega) h2 fun e he => h3 e (by simp [endsG, he])
      rw [show x - c - p.2 = x - (c + p.2) by omega, show b - c - p.2 = b - (c + p.2) by omega, this]
theorem ends_sum : ∀ {l : List (Int × Int)} {c : Int}, l ≠ [] → c + sumT l ∈ endsG c l
  | [p], c, _ => by simp [endsG, sumT]
  | p :: q :: r, c, _ => by
    have := ends_sum (l := q :: r) (c := c + p.2) (by simp)
    rw [sumT_cons, show c + (p.2 + sumT (q :: r)) = c + p.2 + sumT (q :: r) by omega]
    rw [endsG]
    exact List.mem_cons_of_mem _ this
/-- antitone -/
theorem stp_anti {l : List (Int × Int)} (h : Pr l) {b x : Int} (h0 : 0 ≤ b) (h1 : b ≤ x) : stp l x ≤ stp l b := by
  by_cases z : 1 ≤ stp l x
  · have := (gal h (t := x) (s := stp l x) (by omega) z).mp (Int.le_refl _)
    exact (gal h h0 z).mpr (by omega)
  · have := stp_nn h b; omega
theorem runs_stp {f : Int → Int} {C : List Int} (hf : ∀ b x : Int, 0 ≤ b → b ≤ x → (∀ e ∈ C, ¬ (b < e ∧ e ≤ x)) → f x = f b) (hz : ∀ x, 0 ≤ x → (∀ e ∈ C, e ≤ x) → f x = 0) : ∀ (es : List Int) (b t : Int), 0 ≤ b → 0 ≤ t → (b :: es).Pairwise (· < ·) → (∀ c ∈ C, c ≤ b ∨ c ∈ es) → stp (runs f (b :: es)) t = f (b + t)
  | [], b, t, h0, ht, _, hc => by
    have : f (b + t) = 0 := hz _ (by omega) fun e he => by
      rcases hc e he with z | z
      · omega
      · cases z
    rw [this]; rfl
  | e :: r, b, t, h0, ht, hp, hc => by
    rw [List.pairwise_cons] at hp
    have hbe := hp.1 e List.mem_cons_self
    rw [runs, stp]
    by_cases z : t < e - b
    · rw [if_pos z]
      refine (hf b (b + t) h0 (by omega) fun c hcc hx => ?_).symm
      rcases hc c hcc with w | w
      · omega
      · have h2 := hp.2
        rw [List.pairwise_cons] at h2
        rcases List.mem_cons.mp w with w | w
        · omega
        · have := h2.1 c w; omega
    · rw [if_neg z, runs_stp hf hz r e (t - (e - b)) (by omega) (by omega) hp.2 fun c hcc => ?_]
      · congr 1; omega
      · rcases hc c hcc with w | w
        · exact .inl (by omega)
        · rcases List.mem_cons.mp w with w | w
          · exact .inl (by omega)
          · exact .inr w
theorem runs_ok {f : Int → Int} (ha : ∀ b x : Int, 0 ≤ b → b ≤ x → f x ≤ f b) (h0 : ∀ b, 0 ≤ f b) : ∀ (es : List Int), es.Pairwise (· < ·) → (∀ b ∈ es, 0 ≤ b) → Fw (runs f es) ∧ Nn (runs f es) ∧ (∀ q ∈ runs f es, 0 ≤ q.1) ∧ (runs f es).length ≤ es.length ∧ (∀ q ∈ runs f es, ∃ b ∈ es, q.1 = f b)
  | [], _, _ => ⟨List.Pairwise.nil, (fun q h => nomatch h), (fun q h => nomatch h), Nat.le_refl _, (fun q h => nomatch h)⟩
  | [b], _, _ => ⟨List.Pairwise.nil, (fun q h => nomatch h), (fun q h => nomatch h), by simp [runs], (fun q h => nomatch h)⟩
  | b :: e :: r, hp, hb => by
    obtain ⟨a1, a2, a3, a4, a5⟩ := runs_ok ha h0 (e :: r) (List.pairwise_cons.mp hp).2 fun x hx => hb x (List.mem_cons_of_mem _ hx)
    have lt := (List.pairwise_cons.mp hp).1
    have hb0 := hb b List.mem_cons_self
    refine ⟨?_, fun q hq => ?_, fun q hq => ?_, by simp only [runs, List.length_cons] at a4 ⊢; omega, fun q hq => ?_⟩
    · unfold Fw
      rw [runs, List.map_cons, List.pairwise_cons]
      refine ⟨fun x hx => ?_, a1⟩
      obtain ⟨q, hq, rfl⟩ := List.mem_map.mp hx
      obtain ⟨c, hc, e2⟩ := a5 q hq
      have := lt c hc
      show f b ≥ q.1
      rw [e2]
      exact ha b c hb0 (by omega)
    · rw [runs] at hq
      rcases List.mem_cons.mp hq with rfl | hq
      · have := lt e List.mem_cons_self
        dsimp only; omega
      · exact a2 q hq
    · rw [runs] at hq
      rcases List.mem_cons.mp hq with rfl | hq
      · exact h0 b
      · exact a3 q hq
    · rw [runs] at hq
      rcases List.mem_cons.mp hq with rfl | hq
      · exact ⟨b, List.mem_cons_self, rfl⟩
      · obtain ⟨c, hc, e2⟩ := a5 q hq
        exact ⟨c, List.mem_cons_of_mem _ hc, e2⟩
theorem runs_sum {f : Int → Int} : ∀ (es : List Int) (b : Int), sumT (runs f (b :: es)) = (b :: es).getLast (by simp) - b
  | [], b => by simp [runs, sumT]
  | e :: r, b => by
    rw [runs, sumT_cons, runs_sum r e, List.getLast_cons (List.cons_ne_nil e r)]
    dsimp only; omega
/-- ends of both, rising, nought ahead -/
structure Ends (x y : List (Int × Int)) (es : List Int) : Prop where
  up : es.Pairwise (· < ·)
  mem : ∀ c, c ∈ es ↔ c = 0 ∨ c ∈ endsG 0 x ∨ c ∈ endsG 0 y
theorem ends_ge : ∀ {l : List (Int × Int)} {c : Int}, Nn l → ∀ e ∈ endsG c l, c ≤ e ∧ e ≤ c + sumT l
  | p :: r, c, h, e, he => by
    have g := h.hd
    have s := sumT_nn h.tl
    rw [endsG] at he
    rw [sumT_cons]
    rcases List.mem_cons.mp he with rfl | he
    · omega
    · obtain ⟨a, b⟩ := ends_ge h.tl e he
      omega
def fpq (x y : List (Int × Int)) (b : Int) : Int := stp x b + stp y b
def adds (x y : List (Int × Int)) (es : List Int) : List (Int × Int) := joinL (runs (fpq x y) es)
theorem ends_zero {x y : List (Int × Int)} {es : List Int} (h : Ends x y es) (a : Nn x) (b : Nn y) : ∃ r, es = 0 :: r ∧ ∀ c ∈ es, 0 ≤ c ∧ (c ≤ sumT x ∨ c ≤ sumT y) := by
  have sx := sumT_nn a
  have sy := sumT_nn b
  have ge : ∀ c ∈ es, 0 ≤ c ∧ (c ≤ sumT x ∨ c ≤ sumT y) := fun c hc => by
    rcases (h.mem c).mp hc with z | z | z
    · omega
    · have := ends_ge a c z; omega
    · have := ends_ge b c z; omega
  have m0 : (0 : Int) ∈ es := (h.mem 0).mpr (.inl rfl)
  cases es with
  | nil => cases m0
  | cons e r =>
    have e0 := (ge e List.mem_cons_self).1
    rcases List.mem_cons.mp m0 with z | z
    · exact ⟨r, by rw [z], ge⟩
    · have := (List.pairwise_cons.mp h.up).1 0 z
      omega
theorem adds_ok {x y : List (Int × Int)} {es : List Int} (h : Ends x y es) (px : Pr x) (py : Pr y) : Pr (adds x y es) ∧ (∀ t, 0 ≤ t → stp (adds x y es) t = stp x t + stp y t) ∧ (adds x y es).length ≤ es.length ∧ (sumT (adds x y es) ≤ sumT x ∨ sumT (adds x y es) ≤ sumT y) ∧ ∀ p ∈ adds x y es, p.1 ≤ hd1 x + hd1 y := by
  obtain ⟨r, rfl, ge⟩ := ends_zero h px.nn py.nn
  have ha : ∀ b x' : Int, 0 ≤ b → b ≤ x' → fpq x y x' ≤ fpq x y b := fun b x' h0 h1 => by
    have := stp_anti px h0 h1
    have := stp_anti py h0 h1
    unfold fpq; omega
  have h0 : ∀ b, 0 ≤ fpq x y b := fun b => by
    have := stp_nn px b
    have := stp_nn py b
    unfold fpq; omega
  obtain ⟨a1, a2, a3, a4, a5⟩ := runs_ok ha h0 (0 :: r) h.up fun b hb => (ge b hb).1
  have st : ∀ t, 0 ≤ t → stp (runs (fpq x y) (0 :: r)) t = stp x t + stp y t := fun t ht => by
    have := runs_stp (f := fpq x y) (C := endsG 0 x ++ endsG 0 y) (fun b x' hb hx hc => ?_) (fun x' hx hc => ?_) r 0 t (Int.le_refl _) ht h.up (fun c hc => ?_)
    · rw [this, Int.zero_add]; rfl
    · have e1 := stp_flat (c := 0) px.nn hb hx fun e he => hc e (List.mem_append_left _ he)
      have e2 := stp_flat (c := 0) py.nn hb hx fun e he => hc e (List.mem_append_right _ he)
      rw [Int.sub_zero, Int.sub_zero] at e1 e2
      unfold fpq
      rw [e1, e2]
    · have z : ∀ {l : List (Int × Int)}, Nn l → (∀ e ∈ endsG 0 l, e ≤ x') → stp l x' = 0 := fun {l} hn he => by
        by_cases w : l = []
        · subst w; rfl
        · have := he _ (ends_sum (c := 0) w)
          exact stp_far hn (by omega)
      unfold fpq
      rw [z px.nn fun e he => hc e (List.mem_append_left _ he), z py.nn fun e he => hc e (List.mem_append_right _ he)]; rfl
    · have : c ∈ (0 : Int) :: r := (h.mem c).mpr (.inr (List.mem_append.mp hc))
      rcases List.mem_cons.mp this with z | z
      · exact .inl (by omega)
      · exact .inr z
  refine ⟨join_pr a1, fun t ht => by rw [adds, join_stp a1 a2 a3 ht, st t ht], Nat.le_trans (join_len _) a4, ?_, join_le fun p hp => ?_⟩
  · have js := join_sum a2
    have rs := runs_sum (f := fpq x y) r 0
    have gl := (ge _ (List.getLast_mem (l := (0 : Int) :: r) (by simp))).2
    unfold adds
    omega
  · obtain ⟨b, hb, e⟩ := a5 p hp
    have b0 := (ge b hb).1
    have h1 : ∀ {l : List (Int × Int)}, Pr l → stp l b ≤ hd1 l := fun {l} pl => by
      cases l with
      | nil => exact Int.le_refl _
      | cons q r =>
        have := stp_anti pl (Int.le_refl 0) b0
        have g := (pl.ge q List.mem_cons_self).2
        have e0 : stp (q :: r) 0 = q.1 := by rw [stp, if_pos (by omega)]
        rw [e0] at this
        exact this
    have := h1 px
    have := h1 py
    rw [e]; unfold fpq; omega
end Pf
end Mini

set_option Elab.async false
set_option linter.all false
set_option maxRecDepth 100000
set_option maxHeartbeats 4000000
/-! PO: classes with instances, in equations -/
namespace Mini
@[simp] theorem ev_fld (C : Cx) (env : Env) (a : Ex) (f : String) : evalE C (.fld a f) env = (evalE C a env).bind fun x h => M.opt (fldOf C.prog h x f) h := by simp only [evalE]
@[simp] theorem ev_meth (C : Cx) (env : Env) (e : Ex) (m : String) (es : List Ex) : evalE C (.meth e m es) env = (evalE C e env).bind fun o => M.bind (fun h => M.opt (methOf C.prog h o m) h) fun f => (evalEs C es env).bind fun vs => C.call f (o :: vs) := by simp only [evalE]
/-- what a made instance's __init__ gives -/
def madeV (n : Nat) (r : Res Val) : Res Val := match r with
  | .ok .none h => .ok (.ref n) h
  | .ok _ _ => .bad
  | .exn c v h => .exn c v h
  | .bad => .bad
@[simp] theorem made_ok (n : Nat) (h : Heap) : madeV n (.ok .none h) = .ok (.ref n) h := rfl
@[simp] theorem ev_mk (C : Cx) (env : Env) (c : String) (es : List Ex) : evalE C (.mk c es) env = (evalEs C es env).bind fun vs h => madeV h.length (C.call (c ++ ".__init__") (.ref h.length :: vs) (h ++ [.inst c []])) := by
  simp only [evalE]
  congr 1
  funext vs h
  show M.bind _ _ _ = _
  unfold M.bind madeV
  cases C.call (c ++ ".__init__") (.ref h.length :: vs) (h ++ [.inst c []]) with
  | ok v h' => cases v <;> rfl
  | exn _ _ _ => rfl
  | bad => rfl
@[simp] theorem ex_att (C : Cx) (o : Ex) (f : String) (e : Ex) (env : Env) (h : Heap) : exec C (.att o f e) env h = onE (((evalE C e env).bind fun v => (evalE C o env).bind fun x h => M.opt (attV C.prog h x f v) h) h) env fun h' _ => .next env h' := by
  first
    | rfl
    | (simp only [exec]; rfl)
@[simp] theorem ex_whl (C : Cx) (c : Ex) (b : List St) (env : Env) (h : Heap) : exec C (.whl c b) env h = whileGo (fun env => tst (evalE C c env)) (fun env h => execs C b env h) C.W env h := by
  first
    | rfl
    | (simp only [exec]; rfl)
def putsO (C : Cx) (ts : List Ta) (env : Env) (v : Val) (h : Heap) : Out := match v with
  | .tup vs => match stores C ts vs env h with
    | .ok env' h' => .next env' h'
    | _ => .bad
  | _ => .bad
@[simp] theorem ex_asgs (C : Cx) (ts : List Ta) (e : Ex) (env : Env) (h : Heap) : exec C (.asgs ts e) env h = onE (evalE C e env h) env (putsO C ts env) := by
  simp only [exec]
  rfl
theorem puts_ok {C : Cx} {ts : List Ta} {vs : List Val} {env env' : Env} {h h' : Heap} (e : stores C ts vs env h = .ok env' h') : putsO C ts env (.tup vs) h = .next env' h' := by
  show (match stores C ts vs env h with
    | .ok env' h' => Out.next env' h'
    | _ => .bad) = _
  rw [e]
@[simp] theorem stores_nil (C : Cx) (env : Env) : stores C [] [] env = M.pure env := rfl
@[simp] theorem stores_cons (C : Cx) (t : Ta) (ts : List Ta) (v : Val) (vs : List Val) (env : Env) : stores C (t :: ts) (v :: vs) env = (store C t v env).bind fun env => stores C ts vs env := rfl
@[simp] theorem store_att (C : Cx) (o : Ex) (f : String) (v : Val) (env : Env) : store C (.att o f) v env = ((evalE C o env).bind fun x h => M.opt (attV C.prog h x f v) h).bind fun h' _ => .ok env h' := rfl
theorem fld_at {P : Prog} {h : Heap} {n : Nat} {c f : String} {fs : List (String × Val)} (e : h[n]? = some (.inst c fs)) (o : ownF P c f = true) : fldOf P h (.ref n) f = fs.lookup f := by
  simp only [fldOf, e, o, if_true]
theorem att_at {P : Prog} {h : Heap} {n : Nat} {c f : String} {fs : List (String × Val)} {v : Val} (e : h[n]? = some (.inst c fs)) (o : ownF P c f = true) (s : still v = true) (l : fs.length < 900) : attV P h (.ref n) f v = some (h.set n (.inst c (putF f v fs))) := by
  simp only [attV, e, o, s, l, decide_true, Bool.and_true, if_true]
theorem meth_at {P : Prog} {h : Heap} {n : Nat} {c m : String} {fs : List (String × Val)} {K : Cls} (e : h[n]? = some (.inst c fs)) (hc : P.cls.lookup c = some K) (hf : fs.lookup m = none) : methOf P h (.ref n) m = K.meths.lookup m := by
  simp only [methOf, e, hc, hf]
theorem while_end {test : Env → M Bool} {body : Env → Heap → Out} {n : Nat} {env : Env} {h : Heap} (e : test env h = .ok false h) : whileGo test body (n + 1) env h = .next env h := by
  simp only [whileGo, e]
theorem while_next {test : Env → M Bool} {body : Env → Heap → Out} {n : Nat} {env env' : Env} {h h' : Heap} (e : test env h = .ok true h) (b : body env h = .next env' h') : whileGo test body (n + 1) env h = whileGo test body n env' h' := by
  simp only [whileGo, e, b]
end Mini

set_option Elab.async false
set_option linter.all false
set_option maxRecDepth 100000
set_option maxHeartbeats 4000000
namespace K16
open Mini Mini.Th Mini.Pf
abbrev G30 : Int := 1000000000000000000000000000000
abbrev tu (P : List (Int × Int)) : Val := .tup (P.map pr)
theorem con_G : prog.cons.lookup "GREATEST_STORE" = some (.int G30) := rfl
theorem con_M : prog.cons.lookup "MOST_STORES" = some (.int 120) := rfl
theorem is_number_eq {W d : Nat} {v : Val} {h : Heap} {k : Nat} (p : plain k v = true) : (cxAt prog W (d + 1)).call "is_number" [v] h = .ok (.bool (isNum v)) h := by
  rw [call_at (F := F_is_number) rfl]
  have hs := plain_still k v p
  unfold runFn F_is_number
  simp [hs]
  cases v <;> simp [isNum] <;> first | exact settle_ok (k := 0) (List.take_length) rfl | (cases k <;> simp [plain] at p)
theorem is_among_eq {W d : Nat} {v : Val} {lo hi : Int} {h : Heap} {k : Nat} (p : plain k v = true) : (cxAt prog W (d + 2)).call "is_among" [v, .int lo, .int hi] h = .ok (.bool (isAm v lo hi)) h := by
  rw [call_at (F := F_is_among) rfl]
  have hs := plain_still k v p
  unfold runFn F_is_among
  simp [hs, is_number_eq p]
  cases v <;> simp [isNum, isAm, st0b]
  · rename_i i
    by_cases z : lo ≤ i <;> simp [z, st0b]
theorem is_tuple_of_eq {W d : Nat} {v : Val} {lo hi : Int} {h : Heap} (p : DatR v) : (cxAt prog W (d + 1)).call "is_tuple_of" [v, .int lo, .int hi] h = .ok (.bool (isTupOf v lo hi)) h := by
  rw [call_at (F := F_is_tuple_of) rfl]
  have hs : still v = true := p.still
  unfold runFn F_is_tuple_of
  simp [hs]
  cases v with
  | tup xs =>
    by_cases z : lo ≤ (xs.length : Int) <;> simp [isTupOf, z, st0b]
  | _ => first
    | (simp [isTupOf, st0b]; done)
    | (rcases p with ⟨k, p⟩ | p
       · cases k <;> simp [plain] at p
       · cases p)
def isSt (v : Val) : Bool := match v with
  | .tup [a, b] => isAm a 1 G30 && isAm b 0 G30
  | _ => false
theorem isSt_tup {v : Val} (h : isTupOf v 2 2 = false) : isSt v = false := by
  unfold isSt
  split
  · simp [isTupOf] at h
  · rfl
theorem is_store_eq {W d : Nat} {v : Val} {h : Heap} (p : DatR v) : (cxAt prog W (d + 3)).call "is_store" [v] h = .ok (.bool (isSt v)) h := by
  have q := is_tuple_of_eq (W := W) (d := d + 1) (lo := 2) (hi := 2) (h := h) p
  have hs := p.still
  rw [call_at (F := F_is_store) rfl]
  unfold runFn F_is_store
  cases t : isTupOf v 2 2 with
  | false =>
    rw [t] at q
    simp [hs, q, isSt_tup t, st0b]
  | true =>
    rw [t] at q
    obtain ⟨x, y, rfl⟩ := isTup2 t
    obtain ⟨k, pk⟩ : ∃ k, plain k (.tup [x, y]) = true := by
      rcases p with p | p
      · exact p
      · cases p
    obtain ⟨k, rfl⟩ : ∃ j, k = j + 1 := by
      cases k with
      | zero => simp [plain] at pk
      | succ j => exact ⟨j, rfl⟩
    simp only [plain, List.all_cons, List.all_nil, Bool.and_true, Bool.and_eq_true] at pk
    have a1 := is_among_eq (W := W) (d := d) (lo := 1) (hi := G30) (h := h) pk.1
    have a2 := is_among_eq (W := W) (d := d) (lo := 0) (hi := G30) (h := h) pk.2
    have i0 : ixOf 2 0 = some 0 := rfl
    have i1 : ixOf 2 1 = some 1 := rfl
    have e : isSt (.tup [x, y]) = (isAm x 1 G30 && isAm y 0 G30) := rfl
    rw [e]
    simp only [st_cons, st_nil, still_tup, Bool.and_true] at hs
    cases z : isAm x 1 G30 <;> rw [z] at a1 <;> simp [hs, q, i0, i1, a1, a2, con_G, st0b]
/-- a fleet -/
structure Fleet (S : List (Int × Int)) : Prop where
  ok : ∀ q ∈ S, 1 ≤ q.1 ∧ q.1 ≤ G30 ∧ 0 ≤ q.2 ∧ q.2 ≤ G30
  ln : S.length ≤ 120
theorem st_pr {q : Int × Int} (h : 1 ≤ q.1 ∧ q.1 ≤ G30 ∧ 0 ≤ q.2 ∧ q.2 ≤ G30) : isSt (pr q) = true := by
  simp [isSt, pr, isAm, h.1, h.2.1, h.2.2.1, h.2.2.2]
theorem nf_step {W d : Nat} {h : Heap} {e0 e1 e2 : Option Val} {k : Nat} {v : Val} (p : DatR v) (s : isSt v = true) : stepOf (cxAt prog W (d + 3)) (.tup [.loc 1, .loc 2]) B_need_fleet_0 (.tup [.int k, v]) [e0, e1, e2] h = .next [e0, some (.int k), some v] h := by
  have q := is_store_eq (W := W) (d := d) (h := h) p
  rw [s] at q
  simp [stepOf, B_need_fleet_0, q]
theorem nf_bad {W d : Nat} {h : Heap} {e0 e1 e2 : Option Val} {k : Nat} {v : Val} (p : DatR v) (s : isSt v = false) : stepOf (cxAt prog W (d + 3)) (.tup [.loc 1, .loc 2]) B_need_fleet_0 (.tup [.int k, v]) [e0, e1, e2] h = .exn "BadFleet" (.int k) [e0, some (.int k), some v] h := by
  have q := is_store_eq (W := W) (d := d) (h := h) p
  rw [s] at q
  simp [stepOf, B_need_fleet_0, q]
theorem nf_loop {W d : Nat} {h : Heap} {e0 : Option Val} {chk : Heap → Bool} (hc : chk h = true) : ∀ (xs : List Val) (k : Nat) (e1 e2 : Option Val), (∀ v ∈ xs, DatR v ∧ isSt v = true) →
    ∃ e1' e2', loopGo chk (stepOf (cxAt prog W (d + 3)) (.tup [.loc 1, .loc 2]) B_need_fleet_0) (enumL k xs) [e0, e1, e2] h = .next [e0, e1', e2'] h
  | [], k, e1, e2, _ => ⟨e1, e2, rfl⟩
  | v :: r, k, e1, e2, hx => by
    obtain ⟨a, b, lp⟩ := nf_loop (W := W) (d := d) (e0 := e0) hc r (k + 1) (some (.int k)) (some v) fun w hw => hx w (List.mem_cons_of_mem _ hw)
    obtain ⟨p, s⟩ := hx v List.mem_cons_self
    exact ⟨a, b, by rw [enum_cons, loop_next (nf_step p s) hc, lp]⟩
theorem nf_loopb {W d : Nat} {h : Heap} {e0 : Option Val} {chk : Heap → Bool} {bad : Val} {rest : List Val} (hc : chk h = true) (pb : DatR bad) (sb : isSt bad = false) : ∀ (xs : List Val) (k : Nat) (e1 e2 : Option Val), (∀ v ∈ xs, DatR v ∧ isSt v = true) →
    ∃ env, loopGo chk (stepOf (cxAt prog W (d + 3)) (.tup [.loc 1, .loc 2]) B_need_fleet_0) (enumL k (xs ++ bad :: rest)) [e0, e1, e2] h = .exn "BadFleet" (.int ((k + xs.length : Nat) : Int)) env h
  | [], k, e1, e2, _ => ⟨_, by rw [List.nil_append, enum_cons, loop_exn (nf_bad pb sb)]; rfl⟩
  | v :: r, k, e1, e2, hx => by
    obtain ⟨env, lp⟩ := nf_loopb (W := W) (d := d) (e0 := e0) (rest := rest) hc pb sb r (k + 1) (some (.int k)) (some v) fun w hw => hx w (List.mem_cons_of_mem _ hw)
    obtain ⟨p, s⟩ := hx v List.mem_cons_self
    refine ⟨env, ?_⟩
    rw [List.cons_append, enum_cons, loop_next (nf_step p s) hc, lp]
    congr 2
    simp only [List.length_cons]; omega
theorem pr_dat (q : Int × Int) : DatR (pr q) := .inl ⟨1, rfl⟩
theorem need_ok {W d : Nat} {h : Heap} {S : List (Int × Int)} (f : Fleet S) : (cxAt prog W (d + 4)).call "need_fleet" [tu S] h = .ok (tu S) h := by
  have q1 := is_tuple_of_eq (W := W) (d := d + 2) (lo := 0) (hi := 120) (h := h) (v := tu S) (.inl ⟨2, pair_plain S⟩)
  have t1 : isTupOf (tu S) 0 120 = true := by
    have := f.ln
    simp [isTupOf]; omega
  rw [t1] at q1
  obtain ⟨a, b, lp⟩ := nf_loop (W := W) (d := d) (h := h) (e0 := some (tu S)) (chk := chkOf (tu S) (S.map pr)) (by simp) (S.map pr) 0 none none (fun v hv => by
    obtain ⟨q, hq, rfl⟩ := List.mem_map.mp hv
    exact ⟨pr_dat q, st_pr (f.ok q hq)⟩)
  rw [call_at (F := F_need_fleet) rfl]
  unfold runFn F_need_fleet
  simp [pr_still, q1, con_M, lp]
  exact settle_ok (List.take_length) (pair_plain _)
theorem need_no {W d : Nat} {h : Heap} {v : Val} (p : DatR v) (t : isTupOf v 0 120 = false) : (cxAt prog W (d + 4)).call "need_fleet" [v] h = .exn "BadFleet" .none h := by
  have q1 := is_tuple_of_eq (W := W) (d := d + 2) (lo := 0) (hi := 120) (h := h) p
  rw [t] at q1
  have hs := p.still
  rw [call_at (F := F_need_fleet) rfl]
  unfold runFn F_need_fleet
  simp [hs, q1, con_M]
  exact settle_exn (k := 0) (List.take_length) rfl
theorem need_at {W d : Nat} {h : Heap} {S : List (Int × Int)} {bad : Val} {rest : List Val} (f : ∀ q ∈ S, 1 ≤ q.1 ∧ q.1 ≤ G30 ∧ 0 ≤ q.2 ∧ q.2 ≤ G30) (pb : plain 5 bad = true) (sb : isSt bad = false) (pr_ : rest.all (plain 5) = true) (hl : S.length + 1 + rest.length ≤ 120) : (cxAt prog W (d + 4)).call "need_fleet" [.tup (S.map pr ++ bad :: rest)] h = .exn "BadFleet" (.int S.length) h := by
  have pl : plain 6 (.tup (S.map pr ++ bad :: rest)) = true := by
    simp only [plain, List.all_append, List.all_cons, Bool.and_eq_true]
    exact ⟨plains_up 1 5 _ (by omega) (pr_plain S), pb, pr_⟩
  have q1 := is_tuple_of_eq (W := W) (d := d + 2) (lo := 0) (hi := 120) (h := h) (v := .tup (S.map pr ++ bad :: rest)) (.inl ⟨6, pl⟩)
  have t1 : isTupOf (.tup (S.map pr ++ bad :: rest)) 0 120 = true := by
    simp [isTupOf]; omega
  rw [t1] at q1
  obtain ⟨env, lp⟩ := nf_loopb (W := W) (d := d) (h := h) (e0 := some (.tup (S.map pr ++ bad :: rest))) (rest := rest) (chk := chkOf (.tup (S.map pr ++ bad :: rest)) (S.map pr ++ bad :: rest)) (by simp) (.inl ⟨5, pb⟩) sb (S.map pr) 0 none none (fun v hv => by
    obtain ⟨q, hq, rfl⟩ := List.mem_map.mp hv
    exact ⟨pr_dat q, st_pr (f q hq)⟩)
  have hs : stills (S.map pr ++ bad :: rest) = true := by
    have := plain_still 6 _ pl
    simpa only [still] using this
  rw [Nat.zero_add, List.length_map] at lp
  rw [call_at (F := F_need_fleet) rfl]
  unfold runFn F_need_fleet
  generalize S.map pr ++ bad :: rest = xs at *
  simp [hs, q1, con_M, lp]
  exact settle_exn (k := 0) (List.take_length) rfl
/-! ### the tape -/
def Tp (h : Heap) (n : Nat) : Prop := ∃ xs : List Int, h[n]? = some (.list (numL xs)) ∧ ∀ x ∈ xs, 0 ≤ x
/-- but for the tape all stays -/
def Kt (n : Nat) (h h' : Heap) : Prop := h'.length = h.length ∧ ∀ i, i ≠ n → h'[i]? = h[i]?
theorem Kt.refl {n : Nat} {h : Heap} : Kt n h h := ⟨rfl, fun _ _ => rfl⟩
theorem Kt.trans {n : Nat} {h h1 h2 : Heap} (a : Kt n h h1) (b : Kt n h1 h2) : Kt n h h2 := ⟨b.1.trans a.1, fun i hi => (b.2 i hi).trans (a.2 i hi)⟩
theorem take_ok {W d : Nat} {h : Heap} {n : Nat} {m : Int} (t : Tp h n) (hm : 0 < m) : ∃ r h', (cxAt prog W (d + 1)).call "_law_take" [.ref n, .int m] h = .ok (.int r) h' ∧ 0 ≤ r ∧ r < m ∧ Tp h' n ∧ Kt n h h' := by
  obtain ⟨xs, e, hx⟩ := t
  have q := ref_nil (k := 0) e (ints_plain xs) (by omega)
  rw [call_at (F := F__law_take) rfl]
  unfold runFn F__law_take
  rcases List.eq_nil_or_concat xs with rfl | ⟨ys, x, e1⟩
  · have q : opEq h (.ref n) (.lst []) = some true := q
    exact ⟨0, h, by simp [q], Int.le_refl _, hm, ⟨[], e, fun _ h => nomatch h⟩, Kt.refl⟩
  · rw [List.concat_eq_append] at e1
    subst e1
    have q : opEq h (.ref n) (.lst []) = some false := by
      rw [q]
      simp [numL]
    have bt : bmTy .pop h (.ref n) = true := by simp only [bmTy, e]
    have bp : bmV .pop h (.ref n) [] = some (.int x, h.set n (.list (numL ys))) := by
      have e2 : numL (ys ++ [x]) = numL ys ++ [.int x] := by simp [numL]
      rw [e2] at e
      simp only [bmV, bmPop, e]
      simp
    have hn := (List.getElem?_eq_some_iff.mp e).1
    refine ⟨x % m, h.set n (.list (numL ys)), by simp [q, bt, bp, hm], Int.emod_nonneg _ (by omega), Int.emod_lt_of_pos _ hm, ⟨ys, by simp [hn], fun y hy => hx y (List.mem_append_left _ hy)⟩, by simp, fun i hi => by rw [List.getElem?_set_ne (Ne.symm hi)]⟩
end K16

set_option Elab.async false
set_option linter.all false
set_option maxRecDepth 100000
set_option maxHeartbeats 4000000
namespace K16
open Mini Mini.Th Mini.Pf
/-! ### drops, plainly -/
def dk (l : List (Int × Int)) : List (Val × Val) := l.map fun q => (.int q.1, .int q.2)
def lk : List (Int × Int) → Int → Int
  | [], _ => 0
  | q :: r, k => if q.1 = k then q.2 else lk r k
def bump (k v : Int) : List (Int × Int) → List (Int × Int)
  | [] => [(k, v)]
  | q :: r => if q.1 = k then (q.1, q.2 + v) :: r else q :: bump k v r
def kys (l : List (Int × Int)) : List Int := l.map (·.1)
theorem beq_i (a b : Int) : (Val.int a == Val.int b) = decide (a = b) := by
  by_cases w : a = b
  · subst w; simp
  · have : Val.int a ≠ Val.int b := fun h => w (by injection h)
    rw [decide_eq_false w]
    exact beq_eq_false_iff_ne.mpr this
theorem dk_cons (q : Int × Int) (r : List (Int × Int)) : dk (q :: r) = (.int q.1, .int q.2) :: dk r := rfl
theorem dk_get : ∀ (l : List (Int × Int)) (k : Int), ((dk l).lookup (.int k)).getD (.int 0) = .int (lk l k)
  | [], _ => rfl
  | q :: r, k => by
    rw [dk_cons, List.lookup_cons, beq_i, lk]
    by_cases z : q.1 = k
    · rw [if_pos z, decide_eq_true z.symm]; rfl
    · rw [if_neg z, decide_eq_false (Ne.symm z)]; exact dk_get r k
theorem lk_out : ∀ {l : List (Int × Int)} {k : Int}, k ∉ kys l → lk l k = 0
  | [], _, _ => rfl
  | q :: r, k, h => by
    unfold kys at h
    simp only [List.map_cons, List.mem_cons, not_or] at h
    rw [lk, if_neg (fun z => h.1 z.symm), lk_out h.2]
theorem any_dk : ∀ (l : List (Int × Int)) (k : Int), (dk l).any (fun p => p.1 == .int k) = decide (k ∈ kys l)
  | [], _ => rfl
  | q :: r, k => by
    rw [dk_cons, List.any_cons, any_dk r k, beq_i, Bool.eq_iff_iff, Bool.or_eq_true, decide_eq_true_eq, decide_eq_true_eq, decide_eq_true_eq]
    unfold kys
    rw [List.map_cons, List.mem_cons]
    exact or_congr eq_comm Iff.rfl
theorem map_out : ∀ {l : List (Int × Int)} {k : Int} {v : Val}, k ∉ kys l → (dk l).map (fun p => if p.1 = .int k then (p.1, v) else p) = dk l
  | [], _, _, _ => rfl
  | q :: r, k, v, h => by
    unfold kys at h
    simp only [List.map_cons, List.mem_cons, not_or] at h
    have ne : ¬ (Val.int q.1 = Val.int k) := fun z => h.1 (by injection z with z; exact z.symm)
    rw [dk_cons, List.map_cons, map_out h.2, if_neg ne]
theorem map_in : ∀ {l : List (Int × Int)} {k v : Int}, (kys l).Nodup → k ∈ kys l → (dk l).map (fun p => if p.1 = .int k then (p.1, .int (lk l k + v)) else p) = dk (bump k v l)
  | q :: r, k, v, n, h => by
    unfold kys at n h
    rw [List.map_cons, List.nodup_cons] at n
    rw [List.map_cons, List.mem_cons] at h
    rw [dk_cons, List.map_cons, lk, bump]
    by_cases z : q.1 = k
    · have e : Val.int q.1 = Val.int k := by rw [z]
      rw [if_pos z, if_pos z, if_pos e, dk_cons, map_out (by rw [← z]; exact n.1)]
    · have ne : ¬ (Val.int q.1 = Val.int k) := fun w => z (by injection w)
      rw [if_neg z, if_neg z, if_neg ne, dk_cons, map_in n.2 (h.resolve_left fun w => z w.symm)]
theorem bump_out : ∀ {l : List (Int × Int)} {k v : Int}, k ∉ kys l → bump k v l = l ++ [(k, v)]
  | [], _, _, _ => rfl
  | q :: r, k, v, h => by
    unfold kys at h
    simp only [List.map_cons, List.mem_cons, not_or] at h
    rw [bump, if_neg (fun z => h.1 z.symm), bump_out h.2]; rfl
theorem put_dk {l : List (Int × Int)} {k v : Int} (n : (kys l).Nodup) : put (.int k) (.int (lk l k + v)) (dk l) = dk (bump k v l) := by
  unfold put
  rw [any_dk]
  by_cases z : k ∈ kys l
  · rw [decide_eq_true z]
    simp only [if_true]
    exact map_in n z
  · rw [decide_eq_false z]
    simp only [Bool.false_eq_true, if_false]
    rw [bump_out z, lk_out z, Int.zero_add]
    simp [dk]
/-- drops: each end once, all ends and drops from 1 on -/
structure Di (l : List (Int × Int)) : Prop where
  nd : (kys l).Nodup
  ps : ∀ q ∈ l, 1 ≤ q.1 ∧ 1 ≤ q.2
theorem bump_mem : ∀ {l : List (Int × Int)} {k v x : Int}, x ∈ kys (bump k v l) ↔ x ∈ kys l ∨ x = k
  | [], k, v, x => by simp [bump, kys]
  | q :: r, k, v, x => by
    rw [bump]
    have ih := bump_mem (l := r) (k := k) (v := v) (x := x)
    unfold kys at *
    by_cases z : q.1 = k
    · rw [if_pos z]
      simp only [List.map_cons, List.mem_cons]
      constructor
      · exact .inl
      · rintro (h | rfl)
        · exact h
        · exact .inl z.symm
    · rw [if_neg z]
      simp only [List.map_cons, List.mem_cons, ih, or_assoc]
theorem Di.bump {l : List (Int × Int)} {k v : Int} (d : Di l) (hk : 1 ≤ k) (hv : 1 ≤ v) : Di (bump k v l) := by
  have key : ∀ l : List (Int × Int), (kys l).Nodup → (∀ q ∈ l, 1 ≤ q.1 ∧ 1 ≤ q.2) → (kys (K16.bump k v l)).Nodup ∧ ∀ q ∈ K16.bump k v l, 1 ≤ q.1 ∧ 1 ≤ q.2 := by
    intro l
    induction l with
    | nil => intro _ _; exact ⟨by simp [K16.bump, kys], fun q hq => by rw [List.mem_singleton.mp hq]; exact ⟨hk, hv⟩⟩
    | cons q r ih =>
      intro n p
      have n' : q.1 ∉ kys r ∧ (kys r).Nodup := List.nodup_cons.mp n
      obtain ⟨i1, i2⟩ := ih n'.2 fun x hx => p x (List.mem_cons_of_mem _ hx)
      have pq := p q List.mem_cons_self
      rw [K16.bump]
      by_cases z : q.1 = k
      · rw [if_pos z]
        refine ⟨n, fun x hx => ?_⟩
        rcases List.mem_cons.mp hx with rfl | hx
        · exact ⟨pq.1, by dsimp only; omega⟩
        · exact p x (List.mem_cons_of_mem _ hx)
      · rw [if_neg z]
        refine ⟨List.nodup_cons.mpr ⟨fun w => ?_, i1⟩, fun x hx => ?_⟩
        · rcases bump_mem.mp w with w | w
          · exact n'.1 w
          · exact z w
        · rcases List.mem_cons.mp hx with rfl | hx
          · exact pq
          · exact i2 x hx
  obtain ⟨a, b⟩ := key l d.nd d.ps
  exact ⟨a, b⟩
/-- all drops by a measure of their ends -/
def Sg (g : Int → Int) (l : List (Int × Int)) : Int := (l.map fun q => q.2 * g q.1).sum
theorem Sg_cons (g : Int → Int) (q : Int × Int) (r : List (Int × Int)) : Sg g (q :: r) = q.2 * g q.1 + Sg g r := by simp [Sg]
theorem Sg_bump (g : Int → Int) : ∀ (l : List (Int × Int)) (k v : Int), Sg g (bump k v l) = Sg g l + v * g k
  | [], k, v => by simp [bump, Sg]
  | q :: r, k, v => by
    rw [bump]
    by_cases z : q.1 = k
    · rw [if_pos z, Sg_cons, Sg_cons]
      dsimp only
      rw [Int.add_mul, z]; omega
    · rw [if_neg z, Sg_cons, Sg_cons, Sg_bump g r]; omega
theorem bump_len : ∀ (l : List (Int × Int)) (k v : Int), (bump k v l).length ≤ l.length + 1
  | [], _, _ => by simp [bump]
  | q :: r, k, v => by
    have := bump_len r k v
    rw [bump]
    split <;> simp <;> omega
def sd (q : Int × Int) (l : List (Int × Int)) : List (Int × Int) :=
  let l1 := if 0 < q.2 / q.1 then bump (q.2 / q.1) (q.1 - q.2 % q.1) l else l
  if 0 < q.2 % q.1 then bump (q.2 / q.1 + 1) (q.2 % q.1) l1 else l1
def drops : List (Int × Int) → List (Int × Int) → List (Int × Int)
  | [], l => l
  | q :: r, l => drops r (sd q l)
theorem Di.nil : Di [] := ⟨by simp [kys], fun _ h => nomatch h⟩
theorem Di.sd {q : Int × Int} {l : List (Int × Int)} (d : Di l) (hq : 1 ≤ q.1) (h0 : 0 ≤ q.2) : Di (sd q l) := by
  have m0 := Int.emod_nonneg q.2 (show q.1 ≠ 0 by omega)
  have m1 := Int.emod_lt_of_pos q.2 (show 0 < q.1 by omega)
  have d0 := Int.ediv_nonneg h0 (show 0 ≤ q.1 by omega)
  unfold K16.sd
  have d1 : Di (if 0 < q.2 / q.1 then K16.bump (q.2 / q.1) (q.1 - q.2 % q.1) l else l) := by
    split
    · exact d.bump (by omega) (by omega)
    · exact d
  dsimp only
  split
  · exact d1.bump (by omega) (by omega)
  · exact d1
theorem sd_len (q : Int × Int) (l : List (Int × Int)) : (sd q l).length ≤ l.length + 2 := by
  unfold sd
  dsimp only
  have a := bump_len l (q.2 / q.1) (q.1 - q.2 % q.1)
  split
  · split
    · have b := bump_len (bump (q.2 / q.1) (q.1 - q.2 % q.1) l) (q.2 / q.1 + 1) (q.2 % q.1)
      omega
    · have b := bump_len l (q.2 / q.1 + 1) (q.2 % q.1)
      omega
  · split <;> omega
/-- what a store gives in t ticks -/
def gv (q : Int × Int) (t : Int) : Int := if q.1 * t < q.2 then q.1 * t else q.2
def mn (t e : Int) : Int := if t < e then t else e
theorem Sg_sd {q : Int × Int} {l : List (Int × Int)} {t : Int} (hq : 1 ≤ q.1) (h0 : 0 ≤ q.2) (ht : 0 ≤ t) : Sg (mn t) (sd q l) = Sg (mn t) l + gv q t := by
  have m0 := Int.emod_nonneg q.2 (show q.1 ≠ 0 by omega)
  have m1 := Int.emod_lt_of_pos q.2 (show 0 < q.1 by omega)
  have d0 := Int.ediv_nonneg h0 (show 0 ≤ q.1 by omega)
  have dv := Int.mul_ediv_add_emod q.2 q.1
  obtain ⟨p, h⟩ := q
  dsimp only at *
  unfold sd
  dsimp only
  generalize hw : h / p = w at *
  generalize hr : h % p = r at *
  have e1 : Sg (mn t) (if 0 < w then bump w (p - r) l else l) = Sg (mn t) l + (p - r) * mn t w := by
    split
    · rw [Sg_bump]
    · have : mn t w = 0 := by
        have : w = 0 := by omega
        unfold mn; rw [this]; split <;> omega
      rw [this]; simp
  have e2 : Sg (mn t) (if 0 < r then bump (w + 1) r (if 0 < w then bump w (p - r) l else l) else (if 0 < w then bump w (p - r) l else l)) = Sg (mn t) l + (p - r) * mn t w + r * mn t (w + 1) := by
    split
    · rw [Sg_bump, e1]
    · have : r = 0 := by omega
      rw [e1, this]; simp
  rw [e2]
  unfold gv mn
  dsimp only
  by_cases z : t < w + 1
  · have c1 : (if t < w then t else w) = t := by split <;> omega
    have c2 : (if t < w + 1 then t else w + 1) = t := if_pos z
    have le : p * t ≤ h := by
      have := Int.mul_le_mul_of_nonneg_left (show t ≤ w by omega) (show 0 ≤ p by omega)
      omega
    rw [c1, c2, Int.sub_mul]
    split <;> omega
  · have c1 : (if t < w then t else w) = w := if_neg (by omega)
    have c2 : (if t < w + 1 then t else w + 1) = w + 1 := if_neg z
    have le : h ≤ p * t := by
      have := Int.mul_le_mul_of_nonneg_left (show w + 1 ≤ t by omega) (show 0 ≤ p by omega)
      rw [Int.mul_add, Int.mul_one] at this
      omega
    rw [c1, c2, Int.sub_mul, Int.mul_add, Int.mul_one]
    split <;> omega
def Cv (S : List (Int × Int)) (t : Int) : Int := (S.map fun q => gv q t).sum
theorem Cv_cons (q : Int × Int) (S : List (Int × Int)) (t : Int) : Cv (q :: S) t = gv q t + Cv S t := by simp [Cv]
theorem drops_ok : ∀ (S l : List (Int × Int)), (∀ q ∈ S, 1 ≤ q.1 ∧ 0 ≤ q.2) → Di l → Di (drops S l) ∧ (drops S l).length ≤ l.length + 2 * S.length ∧ ∀ t, 0 ≤ t → Sg (mn t) (drops S l) = Sg (mn t) l + Cv S t
  | [], l, _, d => ⟨d, by simp [drops], fun t _ => by simp [drops, Cv]⟩
  | q :: r, l, h, d => by
    obtain ⟨a, b⟩ := h q List.mem_cons_self
    obtain ⟨i1, i2, i3⟩ := drops_ok r (sd q l) (fun x hx => h x (List.mem_cons_of_mem _ hx)) (d.sd a b)
    have sl := sd_len q l
    rw [drops]
    refine ⟨i1, by simp only [List.length_cons]; omega, fun t ht => ?_⟩
    rw [i3 t ht, Sg_sd a b ht, Cv_cons]; omega
/-! ### the profile of drops -/
def pf (l : List (Int × Int)) : Int → Int → List Int → List (Int × Int)
  | _, _, [] => []
  | s, t, e :: r => (s, e - t) :: pf l (s - lk l e) e r
theorem sum_map_ge {α : Type} (f : α → Int) : ∀ (l : List α), (∀ x ∈ l, 0 ≤ f x) → 0 ≤ (l.map f).sum
  | [], _ => by simp
  | x :: r, h => by
    have := sum_map_ge f r fun y hy => h y (List.mem_cons_of_mem _ hy)
    have := h x List.mem_cons_self
    rw [List.map_cons, List.sum_cons]; omega
theorem sum_mul (f : Int → Int) (u : Int) : ∀ r : List Int, (r.map fun x => f x * u).sum = (r.map f).sum * u
  | [] => by simp
  | a :: b => by rw [List.map_cons, List.sum_cons, sum_mul f u b, List.map_cons, List.sum_cons, Int.add_mul]
theorem pf_ok {l : List (Int × Int)} : ∀ (es : List Int) (s t : Int), (t :: es).Pairwise (· < ·) → (∀ e ∈ es, 1 ≤ lk l e) → s = (es.map (lk l)).sum →
    Pr (pf l s t es) ∧ (∀ q ∈ pf l s t es, q.1 ≤ s) ∧ ∀ u, 0 ≤ u → valI (pf l s t es) u = (es.map fun e => lk l e * mn u (e - t)).sum
  | [], s, t, _, _, _ => ⟨Pr.nil, (fun q h => nomatch h), fun u _ => by simp [pf, valI]⟩
  | e :: r, s, t, hp, hl, hs => by
    have lt := (List.pairwise_cons.mp hp).1 e List.mem_cons_self
    have hp2 := (List.pairwise_cons.mp hp).2
    have l1 := hl e List.mem_cons_self
    rw [List.map_cons, List.sum_cons] at hs
    obtain ⟨i1, i2, i3⟩ := pf_ok r (s - lk l e) e hp2 (fun x hx => hl x (List.mem_cons_of_mem _ hx)) (by omega)
    have s0 : 0 ≤ (r.map (lk l)).sum := sum_map_ge (lk l) r fun x hx => by have := hl x (List.mem_cons_of_mem _ hx); omega
    rw [pf]
    refine ⟨⟨?_, fun q hq => ?_⟩, fun q hq => ?_, fun u hu => ?_⟩
    · rw [List.map_cons]
      refine List.pairwise_cons.mpr ⟨fun x hx => ?_, i1.fl⟩
      obtain ⟨q, hq, rfl⟩ := List.mem_map.mp hx
      have := i2 q hq
      show s > q.1
      omega
    · rcases List.mem_cons.mp hq with rfl | hq
      · exact ⟨by dsimp only; omega, by dsimp only; omega⟩
      · exact i1.ge q hq
    · rcases List.mem_cons.mp hq with rfl | hq
      · exact Int.le_refl _
      · have := i2 q hq; omega
    · rw [valI, List.map_cons, List.sum_cons]
      by_cases z : u < e - t
      · have v0 := val_zero (pf l (s - lk l e) e r) (u - (e - t)) i1.nn (by omega)
        rw [v0]
        have m1 : mn u (e - t) = u := if_pos z
        have m2 : (r.map fun x => lk l x * mn u (x - t)) = r.map fun x => lk l x * u := List.map_congr_left fun x hx => by
          have := (List.pairwise_cons.mp hp2).1 x hx
          have : mn u (x - t) = u := if_pos (by omega)
          rw [this]
        have m3 : (r.map fun x => lk l x * u).sum = (r.map (lk l)).sum * u := sum_mul (lk l) u r
        dsimp only
        rw [m1, m2, m3, hs]
        by_cases w : 0 < u
        · rw [if_pos w, if_pos z, Int.add_mul]; omega
        · rw [if_neg w, show u = 0 by omega]; simp
      · dsimp only
        rw [if_pos (by omega), if_neg z, i3 (u - (e - t)) (by omega)]
        have m1 : mn u (e - t) = e - t := if_neg z
        have m2 : (r.map fun x => lk l x * mn u (x - t)).sum = (r.map (lk l)).sum * (e - t) + (r.map fun x => lk l x * mn (u - (e - t)) (x - e)).sum := by
          have : ∀ xs : List Int, (xs.map fun x => lk l x * mn u (x - t)).sum = (xs.map (lk l)).sum * (e - t) + (xs.map fun x => lk l x * mn (u - (e - t)) (x - e)).sum ∨ ∃ x ∈ xs, x ≤ e := by
            intro xs
            induction xs with
            | nil => left; simp
            | cons a b ih =>
              rcases ih with ih | ⟨x, hx, hh⟩
              · by_cases w : a ≤ e
                · exact .inr ⟨a, List.mem_cons_self, w⟩
                · left
                  have k : mn u (a - t) = (e - t) + mn (u - (e - t)) (a - e) := by
                    unfold mn; split <;> split <;> omega
                  rw [List.map_cons, List.sum_cons, ih, List.map_cons, List.sum_cons, List.map_cons, List.sum_cons, k, Int.mul_add, Int.add_mul]
                  omega
              · exact .inr ⟨x, List.mem_cons_of_mem _ hx, hh⟩
          rcases this r with h | ⟨x, hx, hh⟩
          · exact h
          · have := (List.pairwise_cons.mp hp2).1 x hx; omega
        rw [m1, m2, hs, Int.add_mul]; omega
theorem pf_len {l : List (Int × Int)} : ∀ (es : List Int) (s t : Int), (pf l s t es).length = es.length
  | [], _, _ => rfl
  | e :: r, s, t => by rw [pf, List.length_cons, pf_len r, List.length_cons]
theorem lk_at : ∀ {l : List (Int × Int)}, (kys l).Nodup → ∀ q ∈ l, lk l q.1 = q.2
  | x :: r, n, q, hq => by
    have n' : x.1 ∉ kys r ∧ (kys r).Nodup := List.nodup_cons.mp n
    rw [lk]
    rcases List.mem_cons.mp hq with rfl | hq
    · rw [if_pos rfl]
    · have : x.1 ≠ q.1 := fun z => n'.1 (z ▸ List.mem_map.mpr ⟨q, hq, rfl⟩)
      rw [if_neg this, lk_at n'.2 q hq]
theorem up_up (ns : List Int) : (upI ns).Pairwise (· ≤ ·) ∧ (upI ns).Perm ns := by
  refine ⟨?_, List.mergeSort_perm _ _⟩
  refine (List.pairwise_mergeSort (le := fun a b : Int => decide (a ≤ b)) (fun a b c h1 h2 => ?_) (fun a b => ?_) ns).imp fun {a b} h => ?_
  · simp only [decide_eq_true_eq] at *; omega
  · simp only [Bool.or_eq_true, decide_eq_true_eq]; omega
  · simpa using h
def tot (l : List (Int × Int)) : Int := (l.map (·.2)).sum
def profD (l : List (Int × Int)) : List (Int × Int) := pf l (tot l) 0 (upI (kys l))
theorem perm_sum {a b : List Int} (p : a.Perm b) : a.sum = b.sum := by
  induction p with
  | nil => rfl
  | cons x _ ih => simp [ih]
  | swap x y l => simp; omega
  | trans _ _ i j => exact i.trans j
theorem key_sum {l : List (Int × Int)} (n : (kys l).Nodup) (g : Int → Int) : ((upI (kys l)).map fun e => lk l e * g e).sum = Sg g l := by
  rw [perm_sum ((up_up (kys l)).2.map fun e => lk l e * g e)]
  unfold kys Sg
  rw [List.map_map]
  congr 1
  exact List.map_congr_left fun q hq => by
    show lk l q.1 * g q.1 = _
    rw [lk_at n q hq]
theorem profD_ok {l : List (Int × Int)} (d : Di l) : Pr (profD l) ∧ (profD l).length = l.length ∧ (∀ q ∈ profD l, q.1 ≤ tot l) ∧ ∀ u, 0 ≤ u → valI (profD l) u = Sg (mn u) l := by
  obtain ⟨u1, u2⟩ := up_up (kys l)
  have nd : (upI (kys l)).Nodup := u2.nodup_iff.mpr d.nd
  have mem : ∀ e ∈ upI (kys l), 1 ≤ e ∧ 1 ≤ lk l e := fun e he => by
    obtain ⟨q, hq, rfl⟩ := List.mem_map.mp (u2.mem_iff.mp he)
    have := d.ps q hq
    exact ⟨this.1, by rw [lk_at d.nd q hq]; exact this.2⟩
  have pw : (0 :: upI (kys l)).Pairwise (· < ·) := by
    refine List.pairwise_cons.mpr ⟨fun e he => by have := mem e he; omega, ?_⟩
    refine (u1.and nd).imp fun {a b} h => ?_
    have h1 := h.1
    have h2 : a ≠ b := h.2
    omega
  have st : tot l = ((upI (kys l)).map (lk l)).sum := by
    have := key_sum d.nd fun _ => 1
    simp only [Int.mul_one] at this
    rw [this]
    simp [Sg, tot]
  obtain ⟨a, b, c⟩ := pf_ok (upI (kys l)) (tot l) 0 pw (fun e he => (mem e he).2) st
  refine ⟨a, by rw [profD, pf_len, u2.length_eq, kys, List.length_map], b, fun u hu => ?_⟩
  rw [profD, c u hu, ← key_sum d.nd (mn u)]
  simp only [Int.sub_zero]
/-- a fleet's profile -/
def PF (S : List (Int × Int)) : List (Int × Int) := profD (drops S [])
theorem PF_ok {S : List (Int × Int)} (f : Fleet S) : Pr (PF S) ∧ (PF S).length ≤ 240 ∧ ∀ u, 0 ≤ u → valI (PF S) u = Cv S u := by
  obtain ⟨a, b, c⟩ := drops_ok S [] (fun q hq => ⟨(f.ok q hq).1, (f.ok q hq).2.2.1⟩) Di.nil
  obtain ⟨p1, p2, _, p3⟩ := profD_ok a
  have := f.ln
  refine ⟨p1, ?_, fun u hu => ?_⟩
  · simp only [List.length_nil] at b
    unfold PF; omega
  · rw [PF, p3 u hu, c u hu]; simp [Sg]
end K16

set_option Elab.async false
set_option linter.all false
set_option maxRecDepth 100000
set_option maxHeartbeats 4000000
namespace K16
open Mini Mini.Th Mini.Pf
theorem small_30 {i : Int} (h0 : 0 ≤ i) (h1 : i ≤ G30) : small 4000 i = true := small_G h0 (Int.le_trans h1 (by decide))
@[simp] theorem biV_sumv (h : Heap) (vs : List Val) : biV .sumv h vs = biSumV h vs := rfl
@[simp] theorem biV_sorted (h : Heap) (vs : List Val) : biV .sorted h vs = biSorted h vs := rfl
theorem dk_look : ∀ {l : List (Int × Int)} {k : Int}, k ∈ kys l → (dk l).lookup (.int k) = some (.int (lk l k))
  | q :: r, k, h => by
    rw [dk_cons, List.lookup_cons, beq_i, lk]
    by_cases z : q.1 = k
    · rw [if_pos z, decide_eq_true z.symm]
    · rw [if_neg z, decide_eq_false (Ne.symm z)]
      refine dk_look ?_
      unfold kys at *
      rw [List.map_cons, List.mem_cons] at h
      exact h.resolve_left fun w => z w.symm
/-! ### drops_of -/
section
variable {h : Heap} {l : List (Int × Int)}
theorem get_D (k : Int) : bmV .get (h ++ [.dict (dk l)]) (.ref h.length) [.int k, .int 0] = some (.int (lk l k), h ++ [.dict (dk l)]) := by
  have e : (h ++ [Obj.dict (dk l)])[h.length]? = some (.dict (dk l)) := at_end h _
  simp only [bmV, bmGet, e]
  rw [if_pos (show keyOk (.int k) = true from rfl), dk_get]
theorem ty_D : bmTy .get (h ++ [.dict (dk l)]) (.ref h.length) = true := by
  have e : (h ++ [Obj.dict (dk l)])[h.length]? = some (.dict (dk l)) := at_end h _
  simp only [bmTy, e]
theorem set_D {k v : Int} (n : (kys l).Nodup) (ll : l.length < 100000) : setIt (h ++ [.dict (dk l)]) (.ref h.length) (.int k) (.int (lk l k + v)) = some (h ++ [.dict (dk (bump k v l))]) := by
  have e : (h ++ [Obj.dict (dk l)])[h.length]? = some (.dict (dk l)) := at_end h _
  have l2 : (dk l).length < line := by
    unfold dk
    rw [List.length_map]; exact Nat.lt_trans ll (by decide)
  simp only [setIt, e, l2, decide_true, Bool.and_true]
  rw [if_pos (show keyOk (.int k) = true from rfl), put_dk n, set_end]
end
theorem drop_step {C : Cx} {h : Heap} {e0 e2 e3 e4 e5 : Option Val} {l : List (Int × Int)} {q : Int × Int} (d : Di l) (ll : l.length < 1000) (hq : 1 ≤ q.1 ∧ q.1 ≤ G30 ∧ 0 ≤ q.2 ∧ q.2 ≤ G30) :
    stepOf C (.tup [.loc 2, .loc 3]) B_drops_of_0 (pr q) [e0, some (.ref h.length), e2, e3, e4, e5] (h ++ [.dict (dk l)]) = .next [e0, some (.ref h.length), some (.int q.1), some (.int q.2), some (.int (q.2 / q.1)), some (.int (q.2 % q.1))] (h ++ [.dict (dk (sd q l))]) := by
  obtain ⟨h1, h2, h3, h4⟩ := hq
  have m0 := Int.emod_nonneg q.2 (show q.1 ≠ 0 by omega)
  have m1 := Int.emod_lt_of_pos q.2 (show 0 < q.1 by omega)
  have d0 := Int.ediv_nonneg h3 (show 0 ≤ q.1 by omega)
  have sp := small_30 (show 0 ≤ q.1 by omega) h2
  have p0 : 0 < q.1 := by omega
  have e1 : lk l (q.2 / q.1) + q.1 - q.2 % q.1 = lk l (q.2 / q.1) + (q.1 - q.2 % q.1) := by omega
  have s1 := set_D (h := h) (k := q.2 / q.1) (v := q.1 - q.2 % q.1) d.nd (by omega)
  unfold sd
  obtain ⟨w, hw⟩ : ∃ w, w = q.2 / q.1 := ⟨_, rfl⟩
  obtain ⟨r, hr⟩ : ∃ r, r = q.2 % q.1 := ⟨_, rfl⟩
  rw [← hw] at d0 e1 s1 ⊢
  rw [← hr] at m0 m1 e1 s1 ⊢
  by_cases z1 : 0 < w
  · have d1 := d.bump (k := w) (v := q.1 - r) (by omega) (by omega)
    have bl := bump_len l w (q.1 - r)
    have s2 := set_D (h := h) (k := w + 1) (v := r) d1.nd (by omega)
    by_cases z2 : 0 < r <;> simp [stepOf, B_drops_of_0, pr, p0, sp, ← hw, ← hr, z1, z2, ty_D, get_D, e1, s1, s2]
  · have s2 := set_D (h := h) (k := w + 1) (v := r) d.nd (by omega)
    by_cases z2 : 0 < r <;> simp [stepOf, B_drops_of_0, pr, p0, sp, ← hw, ← hr, z1, z2, ty_D, get_D, e1, s2]
theorem drop_loop {C : Cx} {h : Heap} {e0 : Option Val} {chk : Heap → Bool} (hc : ∀ h', chk h' = true) : ∀ (S l : List (Int × Int)) (e2 e3 e4 e5 : Option Val), Di l → l.length + 2 * S.length < 1000 → (∀ q ∈ S, 1 ≤ q.1 ∧ q.1 ≤ G30 ∧ 0 ≤ q.2 ∧ q.2 ≤ G30) →
    ∃ e2' e3' e4' e5', loopGo chk (stepOf C (.tup [.loc 2, .loc 3]) B_drops_of_0) (S.map pr) [e0, some (.ref h.length), e2, e3, e4, e5] (h ++ [.dict (dk l)]) = .next [e0, some (.ref h.length), e2', e3', e4', e5'] (h ++ [.dict (dk (drops S l))])
  | [], l, e2, e3, e4, e5, _, _, _ => ⟨e2, e3, e4, e5, rfl⟩
  | q :: r, l, e2, e3, e4, e5, d, ll, hS => by
    simp only [List.length_cons] at ll
    have hq := hS q List.mem_cons_self
    have sl := sd_len q l
    obtain ⟨a, b, c, e, lp⟩ := drop_loop (C := C) (h := h) (e0 := e0) hc r (sd q l) (some (.int q.1)) (some (.int q.2)) (some (.int (q.2 / q.1))) (some (.int (q.2 % q.1))) (d.sd hq.1 hq.2.2.1) (by omega) fun x hx => hS x (List.mem_cons_of_mem _ hx)
    refine ⟨a, b, c, e, ?_⟩
    rw [List.map_cons, loop_next (drop_step d (by omega) hq) (hc _), lp, drops]
theorem drops_of_ok {W d : Nat} {h : Heap} {S : List (Int × Int)} (f : Fleet S) : (cxAt prog W (d + 1)).call "drops_of" [tu S] h = .ok (.ref h.length) (h ++ [.dict (dk (drops S []))]) := by
  have := f.ln
  obtain ⟨a, b, c, e, lp⟩ := drop_loop (C := cxAt prog W d) (h := h) (e0 := some (tu S)) (chk := chkOf (tu S) (S.map pr)) (fun h' => chk_tup _ _) S [] none none none none Di.nil (by simp; omega) f.ok
  have dv : dicV [] h = .ok (.ref h.length) (h ++ [.dict (dk [])]) := rfl
  rw [call_at (F := F_drops_of) rfl]
  unfold runFn F_drops_of
  simp [pr_still, dv, lp]
/-! ### profile_of_stores -/
theorem pos_step {C : Cx} {h : Heap} {e0 e5 : Option Val} {l fd : List (Int × Int)} {s t e : Int} (he : e ∈ kys l) (fl : fd.length < 10000) :
    stepOf C (.loc 5) B_profile_of_stores_0 (.int e) [e0, some (.ref h.length), some (.int s), some (.int t), some (.ref (h.length + 1)), e5] (h ++ [.dict (dk l), .list (fd.map pr)]) = .next [e0, some (.ref h.length), some (.int (s - lk l e)), some (.int e), some (.ref (h.length + 1)), some (.int e)] (h ++ [.dict (dk l), .list ((fd ++ [(s, e - t)]).map pr)]) := by
  have e1 : (h ++ [Obj.dict (dk l), .list (fd.map pr)])[h.length + 1]? = some (.list (fd.map pr)) := by simp
  have bt : bmTy .append (h ++ [.dict (dk l), .list (fd.map pr)]) (.ref (h.length + 1)) = true := bmTy_list e1
  have ap := append_ref (v := .tup [.int s, .int (e - t)]) e1 (by rw [List.length_map]; exact Nat.lt_trans fl (by decide)) rfl
  have se : (h ++ [Obj.dict (dk l), .list (fd.map pr)]).set (h.length + 1) (.list (fd.map pr ++ [.tup [.int s, .int (e - t)]])) = h ++ [.dict (dk l), .list ((fd ++ [(s, e - t)]).map pr)] := by
    simp [List.set_append, pr]
  rw [se] at ap
  have gi : getIt (h ++ [.dict (dk l), .list ((fd ++ [(s, e - t)]).map pr)]) (.ref h.length) (.int e) = some (.int (lk l e)) := by
    have e2 : (h ++ [Obj.dict (dk l), .list ((fd ++ [(s, e - t)]).map pr)])[h.length]? = some (.dict (dk l)) := by simp
    simp only [getIt, e2]
    rw [if_pos (show flatKey (.int e) = true from rfl), dk_look he]
  generalize (fd ++ [(s, e - t)]).map pr = fd2 at *
  simp [stepOf, B_profile_of_stores_0, bt, ap, gi]
theorem pos_loop {C : Cx} {h : Heap} {e0 : Option Val} {l : List (Int × Int)} {chk : Heap → Bool} (hc : ∀ h', chk h' = true) : ∀ (es : List Int) (fd : List (Int × Int)) (s t : Int) (e5 : Option Val), (∀ e ∈ es, e ∈ kys l) → fd.length + es.length < 10000 →
    ∃ s' t' e5', loopGo chk (stepOf C (.loc 5) B_profile_of_stores_0) (numL es) [e0, some (.ref h.length), some (.int s), some (.int t), some (.ref (h.length + 1)), e5] (h ++ [.dict (dk l), .list (fd.map pr)]) = .next [e0, some (.ref h.length), s', t', some (.ref (h.length + 1)), e5'] (h ++ [.dict (dk l), .list ((fd ++ pf l s t es).map pr)])
  | [], fd, s, t, e5, _, _ => ⟨some (.int s), some (.int t), e5, by simp [pf, numL]⟩
  | e :: r, fd, s, t, e5, he, fl => by
    simp only [List.length_cons] at fl
    obtain ⟨a, b, c, lp⟩ := pos_loop (C := C) (h := h) (e0 := e0) (l := l) hc r (fd ++ [(s, e - t)]) (s - lk l e) e (some (.int e)) (fun x hx => he x (List.mem_cons_of_mem _ hx)) (by simp; omega)
    refine ⟨a, b, c, ?_⟩
    show loopGo chk _ (.int e :: numL r) _ _ = _
    rw [loop_next (pos_step (he e List.mem_cons_self) (by omega)) (hc _), lp, pf, List.append_assoc]
    rfl
theorem keys_dk (l : List (Int × Int)) : intsOf ((dk l).map (·.1)) = some (kys l) := by
  have e : (dk l).map (·.1) = (kys l).map .int := by simp [dk, kys]
  rw [e]; exact intsOf_map _
theorem vals_dk (l : List (Int × Int)) : intsOf ((dk l).map (·.2)) = some (l.map (·.2)) := by
  have e : (dk l).map (·.2) = (l.map (·.2)).map .int := by simp [dk]
  rw [e]; exact intsOf_map _
theorem prof_st_ok {W d : Nat} {h : Heap} {S : List (Int × Int)} (f : Fleet S) : (cxAt prog W (d + 2)).call "profile_of_stores" [tu S] h = .ok (tu (PF S)) h := by
  have ln := f.ln
  obtain ⟨a, b, c⟩ := drops_ok S [] (fun q hq => ⟨(f.ok q hq).1, (f.ok q hq).2.2.1⟩) Di.nil
  have dr := drops_of_ok (W := W) (d := d) (h := h) f
  have ed : PF S = profD (drops S []) := rfl
  generalize drops S [] = l at *
  have e0 : (h ++ [Obj.dict (dk l)])[h.length]? = some (.dict (dk l)) := at_end h _
  have sv : biSumV (h ++ [.dict (dk l)]) [.ref h.length] = some (.int (tot l)) := by
    simp only [biSumV, dictOf, e0, Option.bind_some, vals_dk, Option.map_some]; rfl
  have e1 : (h ++ [Obj.dict (dk l), .list []])[h.length]? = some (.dict (dk l)) := by simp
  have so : biSorted (h ++ [.dict (dk l), .list []]) [.ref h.length] = some (.lst (numL (upI (kys l)))) := by
    simp only [biSorted, dictOf, e1, keys_dk, Option.map_some]; rfl
  have ul : (upI (kys l)).length = l.length := by rw [(up_up (kys l)).2.length_eq, kys, List.length_map]
  simp only [List.length_nil] at b
  obtain ⟨s', t', e5', lp⟩ := pos_loop (C := cxAt prog W (d + 1)) (h := h) (e0 := some (tu S)) (l := l) (chk := chkOf (.lst (numL (upI (kys l)))) (numL (upI (kys l)))) (fun h' => chk_lst _ _) (upI (kys l)) [] (tot l) 0 none (fun e he => (up_up (kys l)).2.mem_iff.mp he) (by simp; omega)
  rw [List.nil_append] at lp
  have hl : (h ++ [Obj.dict (dk l)]).length = h.length + 1 := by simp
  have ep : pf l (tot l) 0 (upI (kys l)) = PF S := ed.symm
  rw [ep] at lp
  have e2 : (h ++ [Obj.dict (dk l), .list ((PF S).map pr)])[h.length + 1]? = some (.list ((PF S).map pr)) := by simp
  have sq := seq_ref e2
  rw [call_at (F := F_profile_of_stores) rfl]
  unfold runFn F_profile_of_stores
  simp [pr_still, dr, sv, hl, so]
  simp at lp
  rw [lp]
  simp [sq]
  exact settle_ok (k := 2) (by simp) (pair_plain _)
theorem prof_ok {W d : Nat} {h : Heap} {S : List (Int × Int)} (f : Fleet S) : (cxAt prog W (d + 5)).call "profile_of_fleet" [tu S] h = .ok (tu (PF S)) h := by
  have a := need_ok (W := W) (d := d) (h := h) f
  have b := prof_st_ok (W := W) (d := d + 2) (h := h) f
  rw [call_at (F := F_profile_of_fleet) rfl]
  unfold runFn F_profile_of_fleet
  simp [pr_still, a, b]
  exact settle_ok (k := 2) (List.take_length) (pair_plain _)
end K16

set_option Elab.async false
set_option linter.all false
set_option maxRecDepth 100000
set_option maxHeartbeats 4000000
namespace K16
open Mini Mini.Th Mini.Pf
/-! ### labels -/
def lb (q : Int × Int) : Int := (q.2 + q.1 - 1) / q.1
theorem lb_le {q : Int × Int} (h : 1 ≤ q.1) (t : Int) : lb q ≤ t ↔ q.2 ≤ q.1 * t := by
  unfold lb
  have a := Int.ediv_mul_le (q.2 + q.1 - 1) (show q.1 ≠ 0 by omega)
  have b := Int.lt_ediv_add_one_mul_self (q.2 + q.1 - 1) (show 0 < q.1 by omega)
  generalize (q.2 + q.1 - 1) / q.1 = w at *
  constructor
  · intro z
    have := Int.mul_le_mul_of_nonneg_right z (show 0 ≤ q.1 by omega)
    rw [Int.mul_comm q.1 t]
    rw [Int.add_mul, Int.one_mul] at b
    omega
  · intro z
    rcases Int.lt_or_le t w with y | y
    · have := Int.mul_le_mul_of_nonneg_right (show t + 1 ≤ w from y) (show 0 ≤ q.1 by omega)
      rw [Int.add_mul, Int.one_mul, Int.mul_comm t] at this
      omega
    · exact y
theorem lb_neg {q : Int × Int} (h : 1 ≤ q.1) : -((-q.2) / q.1) = lb q := by
  have key : ∀ t : Int, -((-q.2) / q.1) ≤ t ↔ q.2 ≤ q.1 * t := fun t => by
    have a := Int.ediv_mul_le (-q.2) (show q.1 ≠ 0 by omega)
    have b := Int.lt_ediv_add_one_mul_self (-q.2) (show 0 < q.1 by omega)
    generalize (-q.2) / q.1 = w at *
    rw [Int.add_mul, Int.one_mul] at b
    constructor
    · intro z
      have := Int.mul_le_mul_of_nonneg_right (show -w ≤ t from z) (show 0 ≤ q.1 by omega)
      rw [Int.mul_comm q.1 t, ]
      rw [Int.neg_mul] at this
      omega
    · intro z
      rcases Int.lt_or_le t (-w) with y | y
      · have := Int.mul_le_mul_of_nonneg_right (show t + 1 ≤ -w from y) (show 0 ≤ q.1 by omega)
        rw [Int.add_mul, Int.one_mul, Int.mul_comm t, Int.neg_mul] at this
        omega
      · exact y
  have h1 := (key (lb q)).mpr ((lb_le h _).mp (Int.le_refl _))
  have h2 := (lb_le h (-((-q.2) / q.1))).mpr ((key _).mp (Int.le_refl _))
  omega
theorem lb_nn {q : Int × Int} (h : 1 ≤ q.1) (h0 : 0 ≤ q.2) : 0 ≤ lb q := Int.ediv_nonneg (by omega) (by omega)
theorem lb_hi {q : Int × Int} (h : 1 ≤ q.1) (h0 : 0 ≤ q.2) : lb q ≤ q.2 := (lb_le h _).mpr (by
  have := Int.mul_le_mul_of_nonneg_right h h0
  omega)
abbrev tim (S : List (Int × Int)) : Val := .tup (numL (S.map lb))
theorem label_ok {W d : Nat} {h : Heap} {q : Int × Int} (h1 : 1 ≤ q.1) (h2 : q.1 ≤ G30) : (cxAt prog W (d + 1)).call "_law_label" [.int q.2, .int q.1] h = .ok (.int (lb q)) h := by
  have sp := small_30 (show 0 ≤ q.1 by omega) h2
  have p0 : 0 < q.1 := by omega
  rw [call_at (F := F__law_label) rfl]
  unfold runFn F__law_label
  simp [p0, sp]
  exact settle_ok (k := 0) (List.take_length) rfl
theorem time_ok {W d : Nat} {h : Heap} {q : Int × Int} (h1 : 1 ≤ q.1) (h2 : q.1 ≤ G30) : (cxAt prog W (d + 1)).call "time_of" [pr q] h = .ok (.int (lb q)) h := by
  have sp := small_30 (show 0 ≤ q.1 by omega) h2
  have p0 : 0 < q.1 := by omega
  have i0 : ixOf 2 0 = some 0 := rfl
  have i1 : ixOf 2 1 = some 1 := rfl
  have e := lb_neg h1
  rw [call_at (F := F_time_of) rfl]
  unfold runFn F_time_of
  simp [pr, p0, sp, i0, i1, e]
  exact settle_ok (k := 0) (List.take_length) rfl
theorem times_ok {W d : Nat} {h : Heap} {S : List (Int × Int)} (f : Fleet S) : (cxAt prog W (d + 5)).call "times_of" [tu S] h = .ok (tim S) h := by
  have np := need_ok (W := W) (d := d) (h := h) f
  have lc := comp_pairs (C := cxAt prog W (d + 4)) (h := h) (t := .loc 1) (env := [some (tu S), none]) (chk := chkOf (tu S) (S.map pr)) (ifs := I_times_of_1) (elt := E_times_of_0) (f := lb) S (fun q hq => by
    obtain ⟨a, b, _, _⟩ := f.ok q hq
    have t := time_ok (W := W) (d := d + 3) (h := h) a b
    simp [lcStep, lcTurn, E_times_of_0, I_times_of_1, t])
  have ll : S.length ≤ line := Nat.le_trans f.ln (by decide)
  rw [call_at (F := F_times_of) rfl]
  unfold runFn F_times_of
  simp [pr_still, np, lc, ll]
  exact settle_ok (k := 1) (List.take_length) (by simp only [plain]; exact ints_plain _)
/-! ### values, curves -/
theorem value_ok {W d : Nat} {h : Heap} {S : List (Int × Int)} {t : Int} (f : Fleet S) (h0 : 0 ≤ t) (h1 : t ≤ G40) : (cxAt prog W (d + 1)).call "_law_value" [tu S, .int t] h = .ok (.int (Cv S t)) h := by
  have lc := comp_pairs (C := cxAt prog W d) (h := h) (t := .tup [.loc 2, .loc 3]) (env := [some (tu S), some (.int t), none, none]) (chk := chkOf (tu S) (S.map pr)) (ifs := I__law_value_1) (elt := E__law_value_0) (f := fun q => gv q t) S (fun q hq => by
    obtain ⟨a, b, c, e⟩ := f.ok q hq
    have s1 := small_30 (show 0 ≤ q.1 by omega) b
    have s2 := small_G h0 h1
    simp [lcStep, lcTurn, E__law_value_0, I__law_value_1, pr, s1, s2, gv])
  have ll : S.length ≤ line := Nat.le_trans f.ln (by decide)
  have e : (S.map fun q => gv q t).sum = Cv S t := rfl
  rw [call_at (F := F__law_value) rfl]
  unfold runFn F__law_value
  simp [pr_still, lc, ll, e]
  exact settle_ok (k := 0) (List.take_length) rfl
def upto (n : Nat) : List Int := (List.range n).map fun k : Nat => (k : Int)
theorem range_0 (n : Nat) : rangeL 0 (n : Int) = numL (upto n) := by
  unfold rangeL upto numL
  rw [List.map_map]
  simp
theorem comp_ints {C : Cx} {h : Heap} {t : Tg} {env : Env} {chk : Heap → Bool} {ifs : List Ex} {elt : Ex} {f : Int → Int} (l : List Int) (hs : ∀ i ∈ l, lcStep C t env chk ifs elt (.int i) h = .ok [.int (f i)] h) :
    lcGo (lcStep C t env chk ifs elt) (numL l) h = .ok (numL (l.map f)) h := by
  induction l with
  | nil => rfl
  | cons q r ih =>
    have e : numL (q :: r) = .int q :: numL r := rfl
    rw [e]
    simp only [lcGo, hs q List.mem_cons_self, ih fun w hw => hs w (List.mem_cons_of_mem _ hw)]
    rfl
theorem upto_mem {n : Nat} {i : Int} (h : i ∈ upto n) : 0 ≤ i ∧ i < n := by
  obtain ⟨k, hk, rfl⟩ := List.mem_map.mp h
  have := List.mem_range.mp hk
  omega
theorem curve_ok {W d : Nat} {h : Heap} {S : List (Int × Int)} {n : Nat} (f : Fleet S) (hn : n ≤ 1000) : (cxAt prog W (d + 2)).call "_law_curve" [tu S, .int n] h = .ok (.lst (numL ((upto (n + 1)).map (Cv S)))) h := by
  have eG : G40 = 10000000000000000000000000000000000000000 := rfl
  have lc := comp_ints (C := cxAt prog W (d + 1)) (h := h) (t := .loc 2) (env := [some (tu S), some (.int n), none]) (chk := anyHp) (ifs := I__law_curve_1) (elt := E__law_curve_0) (f := Cv S) (upto (n + 1)) (fun i hi => by
    have hi := upto_mem hi
    have v := value_ok (W := W) (d := d) (h := h) (t := i) f hi.1 (by omega)
    simp [lcStep, lcTurn, E__law_curve_0, I__law_curve_1, v])
  have rg := range_0 (n + 1)
  have ll : (upto (n + 1)).length ≤ line := Nat.le_trans (show _ ≤ 1001 by simp [upto]; omega) (by decide)
  have s1 : small 61 ((n : Int) + 1) = true := small_up (j := 61) (by omega) (by
    have : ((n : Int) + 1).natAbs ≤ 1001 := by omega
    exact Nat.lt_of_le_of_lt this (by decide))
  have s0 : small 61 0 = true := rfl
  rw [Int.natCast_succ] at rg
  rw [call_at (F := F__law_curve) rfl]
  unfold runFn F__law_curve
  simp [pr_still, s0, s1, rg, lc, ll]
  exact settle_ok (k := 1) (List.take_length) (by simp only [plain]; exact ints_plain _)
/-! ### _law_pairs: runs of like numbers -/
theorem last_ix (k : Nat) : ixOf (k + 1) (-1) = some k := by
  unfold ixOf
  simp
  omega
theorem set_last {h : Heap} {n : Nat} {xs : List Val} {x v : Val} (e : h[n]? = some (.list (xs ++ [x]))) (s : still v = true) : setIt h (.ref n) (.int (-1)) v = some (h.set n (.list (xs ++ [v]))) := by
  have l : (xs ++ [x]).length = xs.length + 1 := by simp
  simp only [setIt, e, l, last_ix]
  simp
theorem pairs_step {C : Cx} {h : Heap} {e0 e2 : Option Val} {fd : List (Int × Int)} {i : Int} (hl : fd.length < 10000) :
    stepOf C (.loc 2) B__law_pairs_0 (.int i) [e0, some (.ref h.length), e2] (h ++ [.list (fd.map pr)]) = .next [e0, some (.ref h.length), some (.int i)] (h ++ [.list ((if 0 < i then addP fd (i, 1) else fd).map pr)]) := by
  have e : (h ++ [Obj.list (fd.map pr)])[h.length]? = some (.list (fd.map pr)) := at_end h _
  have bt := bmTy_list e
  have ap := append_ref (v := .tup [.int i, .int 1]) e (by rw [List.length_map]; exact Nat.lt_trans hl (by decide)) rfl
  rw [set_end] at ap
  have rn := ref_nil (k := 1) e (pr_plain fd) (by omega)
  by_cases z : 0 < i
  · rw [if_pos z]
    rcases List.eq_nil_or_concat fd with rfl | ⟨a, b, e1⟩
    · have q : opEq (h ++ [Obj.list ([].map pr)]) (.ref h.length) (.lst []) = some true := rn
      have ea : addP [] (i, 1) = [(i, 1)] := rfl
      rw [ea]
      simp only [List.map_nil, List.nil_append] at q bt ap e ⊢
      simp [stepOf, B__law_pairs_0, z, q, bt, ap, pr]
    · rw [List.concat_eq_append] at e1
      subst e1
      have q : opEq (h ++ [Obj.list ((a ++ [b]).map pr)]) (.ref h.length) (.lst []) = some false := by rw [rn]; simp
      have gl : ∀ H, H[h.length]? = some (.list ((a ++ [b]).map pr)) → getIt H (.ref h.length) (.int (-1)) = some (pr b) := fun H eH => by
        rw [get_ref eH, List.length_map, List.length_append, List.length_singleton, last_ix]
        simp
      have gl := gl _ e
      have i0 : ixOf 2 0 = some 0 := rfl
      have i1 : ixOf 2 1 = some 1 := rfl
      have oe : ∀ x y : Int, opEq (h ++ [Obj.list ((a ++ [b]).map pr)]) (.int x) (.int y) = some (decide (x = y)) := fun x y => by
        rw [opEq_of _ rfl rfl]
        simp only [eqv]
        congr 1
      by_cases w : b.1 = i
      · have ea : addP (a ++ [b]) (i, 1) = a ++ [(i, b.2 + 1)] := by simp [addP, w]
        have em : (a ++ [b]).map pr = a.map pr ++ [pr b] := by simp
        have sl := set_last (v := .tup [.int i, .int (b.2 + 1)]) (by rw [em] at e; exact e) rfl
        rw [← em, set_end] at sl
        have em2 : a.map pr ++ [.tup [.int i, .int (b.2 + 1)]] = (a ++ [(i, b.2 + 1)]).map pr := by simp [pr]
        rw [em2] at sl
        rw [ea]
        generalize (a ++ [(i, b.2 + 1)]).map pr = T at *
        generalize (a ++ [b]).map pr = T0 at *
        simp only [pr] at gl
        simp [stepOf, B__law_pairs_0, z, q, gl, i0, i1, oe, w, sl]
      · have ea : addP (a ++ [b]) (i, 1) = a ++ [b] ++ [(i, 1)] := by simp [addP, w]
        have em2 : (a ++ [b]).map pr ++ [.tup [.int i, .int 1]] = (a ++ [b] ++ [(i, 1)]).map pr := by simp [pr]
        rw [em2] at ap
        rw [ea]
        generalize (a ++ [b] ++ [(i, 1)]).map pr = T at *
        generalize (a ++ [b]).map pr = T0 at *
        simp only [pr] at gl
        simp [stepOf, B__law_pairs_0, z, q, gl, i0, i1, oe, w, bt, ap]
  · rw [if_neg z]
    simp [stepOf, B__law_pairs_0, z]
theorem pairs_loop {C : Cx} {h : Heap} {e0 : Option Val} {chk : Heap → Bool} (hc : ∀ h', chk h' = true) : ∀ (ns : List Int) (fd : List (Int × Int)) (e2 : Option Val), fd.length + ns.length < 10000 →
    ∃ e2', loopGo chk (stepOf C (.loc 2) B__law_pairs_0) (numL ns) [e0, some (.ref h.length), e2] (h ++ [.list (fd.map pr)]) = .next [e0, some (.ref h.length), e2'] (h ++ [.list (((pos (ns.map fun i => (i, 1))).foldl addP fd).map pr)])
  | [], fd, e2, _ => ⟨e2, rfl⟩
  | i :: r, fd, e2, hl => by
    simp only [List.length_cons] at hl
    have al : (if 0 < i then addP fd (i, 1) else fd).length ≤ fd.length + 1 := by
      have := addP_len fd (i, 1)
      split <;> omega
    obtain ⟨a, lp⟩ := pairs_loop (C := C) (h := h) (e0 := e0) hc r (if 0 < i then addP fd (i, 1) else fd) (some (.int i)) (by omega)
    refine ⟨a, ?_⟩
    show loopGo chk _ (.int i :: numL r) _ _ = _
    rw [loop_next (pairs_step (by omega)) (hc _), lp]
    have e : (pos ((i :: r).map fun i => (i, (1 : Int)))).foldl addP fd = (pos (r.map fun i => (i, (1 : Int)))).foldl addP (if 0 < i then addP fd (i, 1) else fd) := by
      unfold pos
      rw [List.map_cons, List.filter_cons]
      by_cases z : 0 < i <;> simp [z]
    rw [e]
theorem pairs_ok {W d : Nat} {h : Heap} {ns : List Int} (hl : ns.length < 5000) : (cxAt prog W (d + 1)).call "_law_pairs" [.lst (numL ns)] h = .ok (tu (joinL (ns.map fun i => (i, 1)))) h := by
  obtain ⟨a, lp⟩ := pairs_loop (C := cxAt prog W d) (h := h) (e0 := some (.lst (numL ns))) (chk := chkOf (.lst (numL ns)) (numL ns)) (fun h' => chk_lst _ _) ns [] none (by simp; omega)
  have ej : (pos (ns.map fun i => (i, (1 : Int)))).foldl addP [] = joinL (ns.map fun i => (i, 1)) := rfl
  rw [ej] at lp
  rw [List.map_nil] at lp
  have sq := seq_ref (at_end h (.list ((joinL (ns.map fun i => (i, 1))).map pr)))
  rw [call_at (F := F__law_pairs) rfl]
  unfold runFn F__law_pairs
  simp
  rw [lp]
  simp [sq]
  exact settle_ok (k := 2) (by simp) (pair_plain _)
end K16

set_option Elab.async false
set_option linter.all false
set_option maxRecDepth 100000
set_option maxHeartbeats 4000000
namespace K16
open Mini Mini.Th Mini.Pf
/-! ### _law_profile -/
def diffs : List Int → List Int
  | a :: b :: r => (b - a) :: diffs (b :: r)
  | _ => []
def upF (s : Int) : Nat → List Int
  | 0 => []
  | n + 1 => s :: upF (s + 1) n
theorem range_upF : ∀ (n : Nat) (s : Int), (List.range n).map (fun k : Nat => s + (k : Int)) = upF s n
  | 0, s => rfl
  | n + 1, s => by
    rw [List.range_succ_eq_map, List.map_cons, List.map_map, upF, ← range_upF n (s + 1)]
    congr 1
    · simp
    · exact List.map_congr_left fun k _ => by simp [Function.comp]; omega
theorem upto_upF (n : Nat) : upto n = upF 0 n := by
  rw [← range_upF]
  unfold upto
  exact List.map_congr_left fun k _ => by simp
theorem diffs_upF (C : Int → Int) : ∀ (n : Nat) (s : Int), diffs ((upF s (n + 1)).map C) = (upF s n).map fun k => C (k + 1) - C k
  | 0, s => rfl
  | n + 1, s => by
    have ih := diffs_upF C n (s + 1)
    rw [upF, upF, List.map_cons, List.map_cons, diffs, ← List.map_cons]
    rw [show (s + 1) :: upF (s + 1 + 1) n = upF (s + 1) (n + 1) from rfl, ih, upF, List.map_cons]
theorem diffs_len : ∀ (a : Int) (r : List Int), (diffs (a :: r)).length = r.length
  | _, [] => rfl
  | a, b :: r => by rw [diffs, List.length_cons, diffs_len b r, List.length_cons]
@[simp] theorem evi_zip (C : Cx) (env : Env) (a b : Ex) : evalI C (.zip a b) env = (evalE C a env).bind fun x => (evalE C b env).bind fun y h => M.opt (if isTup x == isTup y then (seqOf h x).bind fun xs => (seqOf h y).map fun ys => (zipL xs ys, fun h' => decide (seqOf h' x = some xs ∧ seqOf h' y = some ys)) else none) h := by
  first
    | rfl
    | simp only [evalI]
    | (simp only [evalI]; rfl)
theorem cut1 (b : Int) (r : List Int) : cut (numL (b :: r)) (some 1) none = numL r := (cut_hi (xs := numL (b :: r)) (i := 0)).trans rfl
theorem zip_comp {C : Cx} {h : Heap} {e0 : Option Val} {chk : Heap → Bool} (hc : chk h = true) : ∀ (r : List Int) (a : Int), lcGo (lcStep C (.tup [.loc 1, .loc 2]) [e0, none, none] chk I__law_profile_1 E__law_profile_0) (zipL (numL (a :: r)) (numL r)) h = .ok (numL (diffs (a :: r))) h
  | [], a => rfl
  | b :: r, a => by
    have ih := zip_comp (C := C) (e0 := e0) hc r b
    have ez : zipL (numL (a :: b :: r)) (numL (b :: r)) = .tup [.int a, .int b] :: zipL (numL (b :: r)) (numL r) := rfl
    have st : lcStep C (.tup [.loc 1, .loc 2]) [e0, none, none] chk I__law_profile_1 E__law_profile_0 (.tup [.int a, .int b]) h = .ok [.int (b - a)] h := by
      simp [lcStep, lcTurn, E__law_profile_0, I__law_profile_1, hc]
    rw [ez]
    simp only [lcGo, st, ih]
    rfl
theorem lprofile_ok {W d : Nat} {h : Heap} {a : Int} {r : List Int} (hl : r.length < 4000) : (cxAt prog W (d + 2)).call "_law_profile" [.lst (numL (a :: r))] h = .ok (tu (joinL ((diffs (a :: r)).map fun i => (i, 1)))) h := by
  have zc := zip_comp (C := cxAt prog W (d + 1)) (h := h) (e0 := some (.lst (numL (a :: r)))) (chk := fun h' => decide (seqOf h' (.lst (numL (a :: r))) = some (numL (a :: r)) ∧ seqOf h' (.lst (numL r)) = some (numL r))) (by simp) r a
  have c1 := cut1 a r
  have dl := diffs_len a r
  have ps := pairs_ok (W := W) (d := d) (h := h) (ns := diffs (a :: r)) (by omega)
  have ll : (diffs (a :: r)).length ≤ line := Nat.le_trans (show _ ≤ 4000 by omega) (by decide)
  have it : isTup (.lst (numL (a :: r))) = isTup (.lst (numL r)) := rfl
  have st := ints_stills (a :: r)
  rw [call_at (F := F__law_profile) rfl]
  unfold runFn F__law_profile
  generalize diffs (a :: r) = ds at *
  generalize numL (a :: r) = xs at *
  simp [st, c1, it]
  simp at zc
  rw [zc]
  simp [ll, ps]
  exact settle_ok (k := 2) (List.take_length) (pair_plain _)
/-! ### a fleet's profile is the law's -/
theorem stp_up (f : Int → Int) : ∀ (n : Nat) (s t : Int), 0 ≤ t → stp ((upF s n).map fun k => (f k, 1)) t = if t < n then f (s + t) else 0
  | 0, s, t, ht => by
    rw [if_neg (by omega)]; rfl
  | n + 1, s, t, ht => by
    rw [upF, List.map_cons, stp]
    dsimp only
    by_cases z : t < 1
    · rw [if_pos z, if_pos (by omega), show t = 0 by omega, Int.add_zero]
    · rw [if_neg z, stp_up f n (s + 1) (t - 1) (by omega), show s + 1 + (t - 1) = s + t by omega]
      by_cases w : t - 1 < (n : Int)
      · rw [if_pos w, if_pos (by omega)]
      · rw [if_neg w, if_neg (by omega)]
theorem upF_ge : ∀ (n : Nat) (s : Int), ∀ k ∈ upF s n, s ≤ k
  | n + 1, s, k, h => by
    rw [upF] at h
    rcases List.mem_cons.mp h with rfl | h
    · exact Int.le_refl _
    · have := upF_ge n (s + 1) k h; omega
theorem fw_up {P : List (Int × Int)} (p : Pr P) : ∀ (n : Nat) (s : Int), 0 ≤ s → Fw ((upF s n).map fun k => (stp P k, (1 : Int)))
  | 0, s, _ => List.Pairwise.nil
  | n + 1, s, h => by
    have ih := fw_up p n (s + 1) (by omega)
    unfold Fw at *
    rw [upF, List.map_cons, List.map_cons]
    refine List.pairwise_cons.mpr ⟨fun x hx => ?_, ih⟩
    rw [List.map_map] at hx
    obtain ⟨k, hk, rfl⟩ := List.mem_map.mp hx
    have := upF_ge n (s + 1) k hk
    exact stp_anti p h (by omega)
theorem gv_next {q : Int × Int} {t : Int} (h : 1 ≤ q.1) (ht : 0 ≤ t) : (lb q ≤ t → gv q (t + 1) = gv q t ∧ gv q t = q.2) ∧ (¬ lb q ≤ t → gv q t < gv q (t + 1)) := by
  have l := lb_le h t
  have e : q.1 * (t + 1) = q.1 * t + q.1 := by rw [Int.mul_add, Int.mul_one]
  unfold gv
  rw [e]
  constructor
  · intro z
    have := l.mp z
    rw [if_neg (by omega), if_neg (by omega)]
    exact ⟨rfl, rfl⟩
  · intro z
    have : ¬ q.2 ≤ q.1 * t := fun w => z (l.mpr w)
    rw [if_pos (by omega)]
    split <;> omega
theorem cv_next : ∀ {S : List (Int × Int)} {t : Int}, (∀ q ∈ S, 1 ≤ q.1) → 0 ≤ t → Cv S t ≤ Cv S (t + 1) ∧ (Cv S (t + 1) = Cv S t ↔ ∀ q ∈ S, lb q ≤ t)
  | [], t, _, _ => ⟨Int.le_refl _, ⟨(fun _ q h => nomatch h), fun _ => rfl⟩⟩
  | q :: r, t, h, ht => by
    obtain ⟨a, b⟩ := cv_next (S := r) (fun x hx => h x (List.mem_cons_of_mem _ hx)) ht
    obtain ⟨g1, g2⟩ := gv_next (h q List.mem_cons_self) ht
    rw [Cv_cons, Cv_cons]
    by_cases z : lb q ≤ t
    · obtain ⟨g3, _⟩ := g1 z
      refine ⟨by omega, ⟨fun e x hx => ?_, fun e => ?_⟩⟩
      · rcases List.mem_cons.mp hx with rfl | hx
        · exact z
        · exact b.mp (by omega) x hx
      · have := b.mpr fun x hx => e x (List.mem_cons_of_mem _ hx)
        omega
    · have g3 := g2 z
      exact ⟨by omega, ⟨fun e => by omega, fun e => absurd (e q List.mem_cons_self) z⟩⟩
theorem stp_cv {S : List (Int × Int)} (f : Fleet S) {t : Int} (ht : 0 ≤ t) : stp (PF S) t = Cv S (t + 1) - Cv S t := by
  obtain ⟨p, _, v⟩ := PF_ok f
  have := val_next (PF S) t p.nn ht
  rw [v t ht, v (t + 1) (by omega)] at this
  omega
theorem stp_zero {S : List (Int × Int)} (f : Fleet S) {t : Int} (ht : 0 ≤ t) : stp (PF S) t = 0 ↔ ∀ q ∈ S, lb q ≤ t := by
  rw [stp_cv f ht, ← (cv_next (fun q hq => (f.ok q hq).1) ht).2]
  omega
theorem cnt_one {P : List (Int × Int)} (p : Pr P) : cnt P 1 = sumT P := by
  have key : ∀ l : List (Int × Int), (∀ q ∈ l, 1 ≤ q.1) → cnt l 1 = sumT l := by
    intro l
    induction l with
    | nil => intro _; rfl
    | cons q r ih =>
      intro h
      rw [cnt_cons, sumT_cons, if_pos (h q List.mem_cons_self), ih fun x hx => h x (List.mem_cons_of_mem _ hx)]
  exact key P fun q hq => (p.ge q hq).1
theorem sum_le {S : List (Int × Int)} (f : Fleet S) {t : Int} (ht : 0 ≤ t) : sumT (PF S) ≤ t ↔ ∀ q ∈ S, lb q ≤ t := by
  obtain ⟨p, _, _⟩ := PF_ok f
  rw [← stp_zero f ht, ← cnt_one p]
  have g := gal p ht (s := 1) (Int.le_refl _)
  have := stp_nn p t
  omega
theorem law_prof {S : List (Int × Int)} (f : Fleet S) {n : Nat} (hn : ∀ q ∈ S, lb q ≤ n) : joinL ((diffs ((upto (n + 2)).map (Cv S))).map fun i => (i, 1)) = PF S := by
  obtain ⟨p, _, v⟩ := PF_ok f
  rw [upto_upF, diffs_upF, List.map_map]
  have e : (upF 0 (n + 1)).map ((fun i => (i, (1 : Int))) ∘ fun k => Cv S (k + 1) - Cv S k) = (upF 0 (n + 1)).map fun k => (stp (PF S) k, (1 : Int)) := List.map_congr_left fun k hk => by
    have := upF_ge _ _ k hk
    show (Cv S (k + 1) - Cv S k, (1 : Int)) = _
    rw [stp_cv f this]
  rw [e]
  have fw := fw_up p (n + 1) 0 (Int.le_refl _)
  have nn : Nn ((upF 0 (n + 1)).map fun k => (stp (PF S) k, (1 : Int))) := fun q hq => by
    obtain ⟨k, _, rfl⟩ := List.mem_map.mp hq
    show (0 : Int) ≤ 1
    omega
  have h0 : ∀ q ∈ (upF 0 (n + 1)).map fun k => (stp (PF S) k, (1 : Int)), 0 ≤ q.1 := fun q hq => by
    obtain ⟨k, _, rfl⟩ := List.mem_map.mp hq
    exact stp_nn p k
  refine one_stp (join_pr fw) p fun t ht => ?_
  rw [join_stp fw nn h0 ht, stp_up _ _ _ _ ht, Int.zero_add]
  split
  · rfl
  · exact ((stp_zero f ht).mpr fun q hq => by have := hn q hq; omega).symm
end K16

set_option Elab.async false
set_option linter.all false
set_option maxRecDepth 100000
set_option maxHeartbeats 4000000
namespace K16
open Mini Mini.Th Mini.Pf
/-! ### _law_like of one and the same -/
theorem like_int {W d : Nat} {h : Heap} {i : Int} : (cxAt prog W (d + 1)).call "_law_like" [.int i, .int i] h = .ok (.bool true) h := by
  have q : opEq h (.int i) (.int i) = some true := by rw [opEq_of h rfl rfl]; simp [eqv]
  rw [call_at (F := F__law_like) rfl]
  unfold runFn F__law_like
  simp [q]
  exact settle_ok (k := 0) (List.take_length) rfl
theorem like_loop {W d : Nat} {h : Heap} {xs : List Val} {chk : Heap → Bool} (hc : chk h = true) (hx : ∀ x ∈ xs, (cxAt prog W (d + 1)).call "_law_like" [x, x] h = .ok (.bool true) h) : ∀ (is : List Int) (e2 : Option Val), (∀ i ∈ is, 0 ≤ i ∧ i < xs.length) →
    ∃ e2', loopGo chk (stepOf (cxAt prog W (d + 1)) (.loc 2) B__law_like_0) (numL is) [some (.tup xs), some (.tup xs), e2] h = .next [some (.tup xs), some (.tup xs), e2'] h
  | [], e2, _ => ⟨e2, rfl⟩
  | i :: r, e2, hi => by
    obtain ⟨a, lp⟩ := like_loop (W := W) (d := d) hc hx r (some (.int i)) fun k hk => hi k (List.mem_cons_of_mem _ hk)
    obtain ⟨h0, h1⟩ := hi i List.mem_cons_self
    obtain ⟨k, rfl⟩ : ∃ k : Nat, i = (k : Int) := ⟨_, (Int.toNat_of_nonneg h0).symm⟩
    have kl : k < xs.length := by omega
    have ix : ixOf xs.length (k : Int) = some k := by
      unfold ixOf
      rw [if_pos (by omega), if_pos (by omega)]
      simp
    have gx : xs[k]? = some xs[k] := List.getElem?_eq_getElem kl
    have l := hx xs[k] (List.getElem_mem kl)
    refine ⟨a, ?_⟩
    have st : stepOf (cxAt prog W (d + 1)) (.loc 2) B__law_like_0 (.int (k : Nat)) [some (.tup xs), some (.tup xs), e2] h = .next [some (.tup xs), some (.tup xs), some (.int (k : Nat))] h := by
      simp [stepOf, B__law_like_0, ix, gx, l]
    show loopGo chk _ (.int (k : Nat) :: numL r) _ _ = _
    rw [loop_next st hc, lp]
theorem like_tup {W d : Nat} {h : Heap} {xs : List Val} (st : stills xs = true) (hl : xs.length < 100000) (hx : ∀ x ∈ xs, (cxAt prog W (d + 1)).call "_law_like" [x, x] h = .ok (.bool true) h) : (cxAt prog W (d + 2)).call "_law_like" [.tup xs, .tup xs] h = .ok (.bool true) h := by
  obtain ⟨a, lp⟩ := like_loop (W := W) (d := d) (chk := anyHp) rfl hx (upto xs.length) none fun i hi => upto_mem hi
  have s1 : small 61 (xs.length : Int) = true := small_up (j := 61) (by omega) (by
    have : ((xs.length : Int)).natAbs ≤ 100000 := by omega
    exact Nat.lt_of_le_of_lt this (by decide))
  have s0 : small 61 0 = true := rfl
  have rg := range_0 xs.length
  have q : opEq h (.int xs.length) (.int xs.length) = some true := by rw [opEq_of h rfl rfl]; simp [eqv]
  rw [call_at (F := F__law_like) rfl]
  unfold runFn F__law_like
  simp [st, q, s0, s1, rg]
  rw [lp]
  simp
  exact settle_ok (k := 0) (List.take_length) rfl
theorem like_ints {W d : Nat} {h : Heap} {ns : List Int} (hl : ns.length < 100000) : (cxAt prog W (d + 2)).call "_law_like" [.tup (numL ns), .tup (numL ns)] h = .ok (.bool true) h :=
  like_tup (ints_stills ns) (by rw [ints_len]; exact hl) fun x hx => by
    obtain ⟨i, _, rfl⟩ := List.mem_map.mp hx
    exact like_int
theorem like_pairs {W d : Nat} {h : Heap} {P : List (Int × Int)} (hl : P.length < 100000) : (cxAt prog W (d + 3)).call "_law_like" [tu P, tu P] h = .ok (.bool true) h :=
  like_tup (pr_still P) (by rw [List.length_map]; exact hl) fun x hx => by
    obtain ⟨q, _, rfl⟩ := List.mem_map.mp hx
    exact like_ints (ns := [q.1, q.2]) (by simp)
/-! ### draws -/
theorem ten_loop {C : Cx} {h : Heap} {e0 : Option Val} : ∀ (is : List Int) (f : Int) (j : Nat) (e2 : Option Val), 1 ≤ f → f.natAbs < 2 ^ (4 * j) → j + is.length ≤ 100 →
    ∃ f' e2', loopGo anyHp (stepOf C (.loc 2) B__law_ten_0) (numL is) [e0, some (.int f), e2] h = .next [e0, some (.int f'), e2'] h ∧ 1 ≤ f' ∧ f'.natAbs < 2 ^ 400
  | [], f, j, e2, h1, h2, hj => ⟨f, e2, rfl, h1, Nat.lt_of_lt_of_le h2 (Nat.pow_le_pow_right (by omega) (by simp at hj; omega))⟩
  | i :: r, f, j, e2, h1, h2, hj => by
    simp only [List.length_cons] at hj
    have e : 2 ^ (4 * (j + 1)) = 2 ^ (4 * j) * 16 := by rw [show 4 * (j + 1) = 4 * j + 4 by omega, Nat.pow_add]
    obtain ⟨f', e2', lp, b1, b2⟩ := ten_loop (C := C) (h := h) (e0 := e0) r (f * 10) (j + 1) (some (.int i)) (by omega) (by rw [e]; omega) (by omega)
    have s1 : small 4000 f = true := small_up (j := 4 * j) (by omega) h2
    have s2 : small 4000 10 = true := Dr.small62 (by omega) (by omega) (by omega)
    refine ⟨f', e2', ?_, b1, b2⟩
    have st : stepOf C (.loc 2) B__law_ten_0 (.int i) [e0, some (.int f), e2] h = .next [e0, some (.int (f * 10)), some (.int i)] h := by
      simp [stepOf, B__law_ten_0, s1, s2]
    show loopGo anyHp _ (.int i :: numL r) _ _ = _
    rw [loop_next st rfl, lp]
theorem ten_ok {W d : Nat} {h : Heap} {m : Int} (h0 : 0 ≤ m) (h1 : m < 30) : ∃ r, (cxAt prog W (d + 1)).call "_law_ten" [.int m] h = .ok (.int r) h ∧ 1 ≤ r ∧ r.natAbs < 2 ^ 400 := by
  obtain ⟨is, hr, hi⟩ := rangeL_ints 0 m
  obtain ⟨f, e2, lp, b1, b2⟩ := ten_loop (C := cxAt prog W d) (h := h) (e0 := some (.int m)) is 1 1 none (by omega) (by decide) (by omega)
  have s1 : small 61 m = true := small_up (j := 61) (by omega) (by
    have : m.natAbs ≤ 30 := by omega
    exact Nat.lt_of_le_of_lt this (by decide))
  have s0 : small 61 0 = true := rfl
  refine ⟨f, ?_, b1, b2⟩
  rw [call_at (F := F__law_ten) rfl]
  unfold runFn F__law_ten
  simp [s0, s1, hr]
  rw [lp]
  simp
  exact settle_ok (k := 0) (List.take_length) rfl
theorem huge_loop {W d n : Nat} : ∀ (is : List Int) {h : Heap} (f : Int) (j : Nat) (e2 : Option Val), Tp h n → 0 ≤ f → f < 1000 ^ j → j + is.length ≤ 10 →
    ∃ f' h' e2', loopGo anyHp (stepOf (cxAt prog W (d + 1)) (.loc 2) B__law_huge_0) (numL is) [some (.ref n), some (.int f), e2] h = .next [some (.ref n), some (.int f'), e2'] h' ∧ 0 ≤ f' ∧ f' < 1000 ^ (j + is.length) ∧ Tp h' n ∧ Kt n h h'
  | [], h, f, j, e2, t, h1, h2, hj => ⟨f, h, e2, rfl, h1, by simpa using h2, t, Kt.refl⟩
  | i :: r, h, f, j, e2, t, h1, h2, hj => by
    simp only [List.length_cons] at hj
    obtain ⟨x, h3, c, x0, x1, t1, k1⟩ := take_ok (W := W) (d := d) (m := 1000) t (by omega)
    have e : (1000 : Int) ^ (j + 1) = 1000 ^ j * 1000 := Int.pow_succ 1000 j
    obtain ⟨f', h', e2', lp, b1, b2, t2, k2⟩ := huge_loop (W := W) (d := d) r (f * 1000 + x) (j + 1) (some (.int i)) t1 (by omega) (by rw [e]; omega) (by omega)
    have pj : (1000 : Int) ^ j ≤ 1000 ^ 10 := by
      have : ∀ k : Nat, (1000 : Int) ^ j ≤ 1000 ^ (j + k) := by
        intro k
        induction k with
        | zero => exact Int.le_refl _
        | succ k ih =>
          have p0 : (0 : Int) ≤ 1000 ^ (j + k) := Int.pow_nonneg (by omega)
          rw [← Nat.add_assoc, Int.pow_succ]; omega
      have := this (10 - j)
      rwa [show j + (10 - j) = 10 by omega] at this
    have e10 : (1000 : Int) ^ 10 = 1000000000000000000000000000000 := rfl
    have s1 : small 4000 f = true := small_30 h1 (by show f ≤ 1000000000000000000000000000000; omega)
    have s2 : small 4000 1000 = true := Dr.small62 (by omega) (by omega) (by omega)
    refine ⟨f', h', e2', ?_, b1, by rw [List.length_cons, show j + (r.length + 1) = j + 1 + r.length by omega]; exact b2, t2, k1.trans k2⟩
    have st : stepOf (cxAt prog W (d + 1)) (.loc 2) B__law_huge_0 (.int i) [some (.ref n), some (.int f), e2] h = .next [some (.ref n), some (.int (f * 1000 + x)), some (.int i)] h3 := by
      simp [stepOf, B__law_huge_0, s1, s2, c]
    show loopGo anyHp _ (.int i :: numL r) _ _ = _
    rw [loop_next st rfl, lp]
theorem huge_ok {W d n : Nat} {h : Heap} (t : Tp h n) : ∃ r h', (cxAt prog W (d + 2)).call "_law_huge" [.ref n] h = .ok (.int r) h' ∧ 0 ≤ r ∧ r < G30 ∧ Tp h' n ∧ Kt n h h' := by
  obtain ⟨is, hr, hi⟩ := rangeL_ints 0 10
  have hi : is.length = 10 := hi
  obtain ⟨f, h1, e2, lp, b1, b2, t1, k1⟩ := huge_loop (W := W) (d := d) (n := n) is 0 0 none t (Int.le_refl _) (by decide) (by omega)
  obtain ⟨m, h2, c2, m0, m1, t2, k2⟩ := take_ok (W := W) (d := d) (m := 30) t1 (by omega)
  obtain ⟨r, c3, r1, r2⟩ := ten_ok (W := W) (d := d) (h := h2) m0 m1
  rw [hi] at b2
  have e10 : (1000 : Int) ^ (0 + 10) = G30 := rfl
  rw [e10] at b2
  have s1 : small 61 10 = true ∧ small 61 0 = true := ⟨rfl, rfl⟩
  have s2 : small 4000 r = true := small_up (j := 400) (by omega) r2
  have p0 : 0 < r := by omega
  refine ⟨f / r, h2, ?_, Int.ediv_nonneg b1 (by omega), Int.lt_of_le_of_lt (Int.ediv_le_self _ b1) b2, t2, k1.trans k2⟩
  rw [call_at (F := F__law_huge) rfl]
  unfold runFn F__law_huge
  simp [s1, hr]
  rw [lp]
  simp [c2, c3, p0, s2]
/-! ### drawn stores -/
/-- but for tape and list all stays -/
def K2 (n m : Nat) (h h' : Heap) : Prop := h'.length = h.length ∧ ∀ i, i ≠ n → i ≠ m → h'[i]? = h[i]?
theorem K2.trans {n m : Nat} {h h1 h2 : Heap} (a : K2 n m h h1) (b : K2 n m h1 h2) : K2 n m h h2 := ⟨b.1.trans a.1, fun i hi hj => (b.2 i hi hj).trans (a.2 i hi hj)⟩
theorem Kt.k2 {n m : Nat} {h h' : Heap} (a : Kt n h h') : K2 n m h h' := ⟨a.1, fun i hi _ => a.2 i hi⟩
theorem K2.set {n m : Nat} {h : Heap} {o : Obj} : K2 n m h (h.set m o) := ⟨by simp, fun i _ hi => by rw [List.getElem?_set_ne (Ne.symm hi)]⟩
theorem Tp.set {n m : Nat} {h : Heap} {o : Obj} (t : Tp h n) (ne : n ≠ m) : Tp (h.set m o) n := by
  obtain ⟨xs, e, hx⟩ := t
  exact ⟨xs, by rw [List.getElem?_set_ne (Ne.symm ne)]; exact e, hx⟩
theorem sts_step {W d n m : Nat} {h : Heap} {e1 e5 e6 : Option Val} {fd : List (Int × Int)} {p tm i : Int} (t : Tp h n) (ne : n ≠ m) (em : h[m]? = some (.list (fd.map pr))) (hl : fd.length < 1000) (hp : 1 ≤ p) (hp2 : p ≤ 1000) (ht : 0 ≤ tm) (ht2 : tm ≤ 1000) :
    ∃ (q : Int × Int) (h' : Heap), stepOf (cxAt prog W (d + 1)) (.loc 5) B__law_stores_0 (.int i) [some (.ref n), e1, some (.int p), some (.int tm), some (.ref m), e5, e6] h = .next [some (.ref n), e1, some (.int p), some (.int tm), some (.ref m), some (.int i), some (.int q.1)] h' ∧ 1 ≤ q.1 ∧ q.1 ≤ p ∧ 0 ≤ q.2 ∧ q.2 ≤ q.1 * tm ∧ Tp h' n ∧ h'[m]? = some (.list ((fd ++ [q]).map pr)) ∧ K2 n m h h' := by
  obtain ⟨x, h1, c1, x0, x1, t1, k1⟩ := take_ok (W := W) (d := d) (m := p) t (by omega)
  have mm : 0 ≤ (1 + x) * tm := Int.mul_nonneg (by omega) ht
  obtain ⟨y, h2, c2, y0, y1, t2, k2⟩ := take_ok (W := W) (d := d) (m := (1 + x) * tm + 1) t1 (by omega)
  have e1' : h1[m]? = some (.list (fd.map pr)) := by rw [k1.2 m (Ne.symm ne)]; exact em
  have e2' : h2[m]? = some (.list (fd.map pr)) := by rw [k2.2 m (Ne.symm ne)]; exact e1'
  have bt := bmTy_list e1'
  have ap := append_ref (v := .tup [.int (1 + x), .int y]) e2' (by rw [List.length_map]; exact Nat.lt_trans hl (by decide)) rfl
  have em2 : fd.map pr ++ [.tup [.int (1 + x), .int y]] = (fd ++ [(1 + x, y)]).map pr := by simp [pr]
  rw [em2] at ap
  have s1 : small 4000 (1 + x) = true := Dr.small62 (by omega) (by omega) (by omega)
  have s2 : small 4000 tm = true := Dr.small62 (by omega) (by omega) (by omega)
  have hm := (List.getElem?_eq_some_iff.mp e2').1
  refine ⟨(1 + x, y), h2.set m (.list ((fd ++ [(1 + x, y)]).map pr)), ?_, by dsimp only; omega, by dsimp only; omega, y0, by dsimp only; omega, t2.set ne, by rw [List.getElem?_set_self hm], (k1.k2.trans k2.k2).trans K2.set⟩
  generalize (fd ++ [(1 + x, y)]).map pr = T at *
  simp [stepOf, B__law_stores_0, c1, s1, s2, bt, c2, ap]
theorem sts_loop {W d n m : Nat} {e1 : Option Val} {p tm : Int} (ne : n ≠ m) (hp : 1 ≤ p) (hp2 : p ≤ 1000) (ht : 0 ≤ tm) (ht2 : tm ≤ 1000) : ∀ (is : List Int) {h : Heap} {fd : List (Int × Int)} (e5 e6 : Option Val), Tp h n → h[m]? = some (.list (fd.map pr)) → fd.length + is.length < 1000 → (∀ q ∈ fd, 1 ≤ q.1 ∧ q.1 ≤ p ∧ 0 ≤ q.2 ∧ q.2 ≤ q.1 * tm) →
    ∃ (fd' : List (Int × Int)) (h' : Heap) (e5' e6' : Option Val), loopGo anyHp (stepOf (cxAt prog W (d + 1)) (.loc 5) B__law_stores_0) (numL is) [some (.ref n), e1, some (.int p), some (.int tm), some (.ref m), e5, e6] h = .next [some (.ref n), e1, some (.int p), some (.int tm), some (.ref m), e5', e6'] h' ∧ (∀ q ∈ fd', 1 ≤ q.1 ∧ q.1 ≤ p ∧ 0 ≤ q.2 ∧ q.2 ≤ q.1 * tm) ∧ fd'.length = fd.length + is.length ∧ Tp h' n ∧ h'[m]? = some (.list (fd'.map pr)) ∧ K2 n m h h'
  | [], h, fd, e5, e6, t, em, hl, hf => ⟨fd, h, e5, e6, rfl, hf, rfl, t, em, rfl, fun _ _ _ => rfl⟩
  | i :: r, h, fd, e5, e6, t, em, hl, hf => by
    simp only [List.length_cons] at hl
    obtain ⟨q, h1, st, q1, q2, q3, q4, t1, em1, k1⟩ := sts_step (W := W) (d := d) (e1 := e1) (e5 := e5) (e6 := e6) (i := i) t ne em (by omega) hp hp2 ht ht2
    obtain ⟨fd', h', a, b, lp, hf', l', t', em', k'⟩ := sts_loop (W := W) (d := d) (e1 := e1) ne hp hp2 ht ht2 r (some (.int i)) (some (.int q.1)) t1 em1 (by simp; omega) (fun x hx => by
      rcases List.mem_append.mp hx with hx | hx
      · exact hf x hx
      · rw [List.mem_singleton.mp hx]; exact ⟨q1, q2, q3, q4⟩)
    refine ⟨fd', h', a, b, ?_, hf', by rw [l']; simp; omega, t', em', k1.trans k'⟩
    show loopGo anyHp _ (.int i :: numL r) _ _ = _
    rw [loop_next st rfl, lp]
/-- the heap grew, but for the tape all stays -/
def Kg (n : Nat) (h h' : Heap) : Prop := h.length ≤ h'.length ∧ ∀ i, i < h.length → i ≠ n → h'[i]? = h[i]?
theorem Kg.trans {n : Nat} {h h1 h2 : Heap} (a : Kg n h h1) (b : Kg n h1 h2) : Kg n h h2 := ⟨Nat.le_trans a.1 b.1, fun i hi hn => (b.2 i (Nat.lt_of_lt_of_le hi a.1) hn).trans (a.2 i hi hn)⟩
theorem Kt.g {n : Nat} {h h' : Heap} (a : Kt n h h') : Kg n h h' := ⟨by rw [a.1]; exact Nat.le_refl _, fun i _ hi => a.2 i hi⟩
theorem K2.g {n : Nat} {h h' : Heap} {o : Obj} (a : K2 n h.length (h ++ [o]) h') : Kg n h h' := by
  refine ⟨by rw [a.1]; simp, fun i hi hn => ?_⟩
  rw [a.2 i hn (by omega), List.getElem?_append_left hi]
theorem Tp.lt {h : Heap} {n : Nat} (t : Tp h n) : n < h.length := by
  obtain ⟨xs, e, _⟩ := t
  exact (List.getElem?_eq_some_iff.mp e).1
theorem Tp.app {h : Heap} {n : Nat} (t : Tp h n) (r : Heap) : Tp (h ++ r) n := by
  obtain ⟨xs, e, hx⟩ := t
  exact ⟨xs, by rw [List.getElem?_append_left (List.getElem?_eq_some_iff.mp e).1]; exact e, hx⟩
theorem stores_ok {W d n : Nat} {h : Heap} {many p tm : Int} (t : Tp h n) (hm : 0 ≤ many) (hm2 : many ≤ 100) (hp : 1 ≤ p) (hp2 : p ≤ 1000) (ht : 0 ≤ tm) (ht2 : tm ≤ 1000) : ∃ (S : List (Int × Int)) (h' : Heap), (cxAt prog W (d + 2)).call "_law_stores" [.ref n, .int many, .int p, .int tm] h = .ok (tu S) h' ∧ (∀ q ∈ S, 1 ≤ q.1 ∧ q.1 ≤ p ∧ 0 ≤ q.2 ∧ q.2 ≤ q.1 * tm) ∧ (S.length : Int) ≤ many ∧ Tp h' n ∧ Kg n h h' := by
  have nl := t.lt
  obtain ⟨r, h1, c1, r0, r1, t1, k1⟩ := take_ok (W := W) (d := d) (m := many + 1) (t.app [.list []]) (by omega)
  have ne : n ≠ h.length := by omega
  have em : h1[h.length]? = some (.list (([] : List (Int × Int)).map pr)) := by
    rw [k1.2 h.length (Ne.symm ne)]; simp
  obtain ⟨is, hr, hi⟩ := rangeL_ints 0 r
  obtain ⟨S, h2, a, b, lp, hf, l2, t2, em2, k2⟩ := sts_loop (W := W) (d := d) (e1 := some (.int many)) ne hp hp2 ht ht2 is none none t1 em (by simp; omega) (fun q hq => nomatch hq)
  have s1 : small 61 r = true := small_up (j := 61) (by omega) (by
    have : r.natAbs ≤ 101 := by omega
    exact Nat.lt_of_le_of_lt this (by decide))
  have s0 : small 61 0 = true := rfl
  have sq := seq_ref em2
  refine ⟨S, h2, ?_, hf, by simp at l2; omega, t2, (k1.k2.trans k2).g⟩
  rw [call_at (F := F__law_stores) rfl]
  unfold runFn F__law_stores
  simp [c1, s0, s1, hr]
  rw [lp]
  simp [sq]
end K16

set_option Elab.async false
set_option linter.all false
set_option maxRecDepth 100000
set_option maxHeartbeats 4000000
namespace K16
open Mini Mini.Th Mini.Pf
theorem maxI_mem : ∀ (r : List Int) (i : Int), maxI i r ∈ i :: r
  | [], i => List.mem_cons_self
  | j :: r, i => by
    unfold maxI
    have := maxI_mem r (if j > i then j else i)
    rcases List.mem_cons.mp this with w | w
    · rw [w]
      split
      · exact List.mem_cons_of_mem _ List.mem_cons_self
      · exact List.mem_cons_self
    · exact List.mem_cons_of_mem _ (List.mem_cons_of_mem _ w)
theorem maxI_ge : ∀ (r : List Int) (i : Int), ∀ x ∈ i :: r, x ≤ maxI i r
  | [], i, x, h => by rw [List.mem_singleton.mp h]; exact Int.le_refl _
  | j :: r, i, x, h => by
    unfold maxI
    obtain ⟨m, hm⟩ : ∃ m, m = (if j > i then j else i) := ⟨_, rfl⟩
    have b : i ≤ m ∧ j ≤ m := by rw [hm]; split <;> omega
    rw [← hm]
    have key := maxI_ge r m
    have k0 := key _ List.mem_cons_self
    rcases List.mem_cons.mp h with rfl | h
    · omega
    · rcases List.mem_cons.mp h with rfl | h
      · omega
      · exact key x (List.mem_cons_of_mem _ h)
theorem max_of (h : Heap) (i : Int) (ns : List Int) : biV .max h [.lst (numL (i :: ns))] = some (.int (maxI i ns)) := by
  show ((lstOf h (.lst (numL (i :: ns)))).bind intsOf).bind maxL = _
  rw [lstOf_lst, Option.bind_some, ints_of]; rfl
theorem numL_app (x y : List Int) : numL (x ++ y) = numL x ++ numL y := List.map_append
/-- the labels -/
theorem lab_lc {W d : Nat} {h : Heap} {S : List (Int × Int)} {env : Env} {chk : Heap → Bool} {a b : Nat} {ifs : List Ex} {elt : Ex} (f : Fleet S) (hs : ∀ q ∈ S, (cxAt prog W (d + 1)).call "_law_label" [.int q.2, .int q.1] h = .ok (.int (lb q)) h → lcStep (cxAt prog W (d + 1)) (.tup [.loc a, .loc b]) env chk ifs elt (pr q) h = .ok [.int (lb q)] h) :
    lcGo (lcStep (cxAt prog W (d + 1)) (.tup [.loc a, .loc b]) env chk ifs elt) (S.map pr) h = .ok (numL (S.map lb)) h :=
  comp_pairs S fun q hq => hs q hq (label_ok (W := W) (d := d) (f.ok q hq).1 (f.ok q hq).2.1)
theorem small_ok {W d n : Nat} {h : Heap} (t : Tp h n) : ∃ h', (cxAt prog W (d + 6)).call "_law_small_right" [.ref n] h = .ok (.bool true) h' ∧ Tp h' n ∧ Kg n h h' := by
  obtain ⟨S, h1, c1, hS, hl, t1, k1⟩ := stores_ok (W := W) (d := d + 3) (many := 8) (p := 6) (tm := 5) t (by omega) (by omega) (by omega) (by omega) (by omega) (by omega)
  have eG : G30 = 1000000000000000000000000000000 := rfl
  have f : Fleet S := ⟨fun q hq => by
    obtain ⟨a, b, c, e⟩ := hS q hq
    omega, by omega⟩
  have lc1 := lab_lc (W := W) (d := d + 4) (h := h1) (env := [some (.ref n), some (tu S), none, none, none]) (chk := chkOf (tu S) (S.map pr)) (a := 3) (b := 4) (ifs := I__law_small_right_1) (elt := E__law_small_right_0) f (fun q hq c => by
    simp [lcStep, lcTurn, E__law_small_right_0, I__law_small_right_1, pr, c])
  have mx := max_of h1 0 (S.map lb)
  have mm := maxI_mem (S.map lb) 0
  have mg := maxI_ge (S.map lb) 0
  have M0 := mg 0 List.mem_cons_self
  have M1 : maxI 0 (S.map lb) ≤ 30 := by
    rcases List.mem_cons.mp mm with w | w
    · omega
    · obtain ⟨q, hq, e⟩ := List.mem_map.mp w
      obtain ⟨a, b, c, e'⟩ := hS q hq
      have := lb_hi a c
      omega
  have lb_m : ∀ q ∈ S, lb q ≤ maxI 0 (S.map lb) := fun q hq => mg _ (List.mem_cons_of_mem _ (List.mem_map.mpr ⟨q, hq, rfl⟩))
  generalize maxI 0 (S.map lb) = M at *
  obtain ⟨m, rfl⟩ := Int.eq_ofNat_of_zero_le M0
  have lc2 := lab_lc (W := W) (d := d + 4) (h := h1) (env := [some (.ref n), some (tu S), some (.int m), none, none]) (chk := chkOf (tu S) (S.map pr)) (a := 3) (b := 4) (ifs := I__law_small_right_3) (elt := E__law_small_right_2) f (fun q hq c => by
    simp [lcStep, lcTurn, E__law_small_right_2, I__law_small_right_3, pr, c])
  have pf_ := prof_ok (W := W) (d := d) (h := h1) f
  have cv := curve_ok (W := W) (d := d + 3) (h := h1) (n := m + 1) f (by omega)
  have lpf := law_prof f (n := m) lb_m
  have eu : (upto (m + 2)).map (Cv S) = Cv S 0 :: (upF 1 (m + 1)).map (Cv S) := by rw [upto_upF]; rfl
  have ulen : ((upF 1 (m + 1)).map (Cv S)).length < 4000 := by
    have : ((upto (m + 2)).map (Cv S)).length = m + 2 := by simp [upto]
    rw [eu, List.length_cons] at this
    omega
  have lp := lprofile_ok (W := W) (d := d + 3) (h := h1) (a := Cv S 0) (r := (upF 1 (m + 1)).map (Cv S)) ulen
  rw [← eu, lpf] at lp
  have em : (((m + 1 : Nat) : Int)) = (m : Int) + 1 := Int.natCast_succ m
  rw [em] at cv
  obtain ⟨_, pl, _⟩ := PF_ok f
  have lk1 := like_pairs (W := W) (d := d + 2) (h := h1) (P := PF S) (by omega)
  have tm := times_ok (W := W) (d := d) (h := h1) f
  have lk2 := like_ints (W := W) (d := d + 3) (h := h1) (ns := S.map lb) (by simp; omega)
  have ll : S.length ≤ line := Nat.le_trans f.ln (by decide)
  have ll1 : S.length + 1 ≤ line := Nat.le_trans (show S.length + 1 ≤ 121 by have := f.ln; omega) (by decide)
  have ll3 : 1 + S.length ≤ line := by omega
  have e0 : numL (0 :: S.map lb) = .int 0 :: numL (S.map lb) := rfl
  rw [e0] at mx
  refine ⟨h1, ?_, t1, k1⟩
  rw [call_at (F := F__law_small_right) rfl]
  unfold runFn F__law_small_right
  simp [c1, lc1, ll, ll1, ll3, mx, pf_, cv, lp, lk1, tm, lc2, lk2]
/-! ### great stores -/
theorem gst_step {W d n m : Nat} {h : Heap} {e1 e3 e4 e5 : Option Val} {fd : List (Int × Int)} {i : Int} (t : Tp h n) (ne : n ≠ m) (em : h[m]? = some (.list (fd.map pr))) (hl : fd.length < 1000) :
    ∃ (q : Int × Int) (h' : Heap) (e5' : Option Val), stepOf (cxAt prog W (d + 2)) (.loc 3) B__law_great_stores_0 (.int i) [some (.ref n), e1, some (.ref m), e3, e4, e5] h = .next [some (.ref n), e1, some (.ref m), some (.int i), some (.int q.1), e5'] h' ∧ 1 ≤ q.1 ∧ q.1 ≤ G30 ∧ 0 ≤ q.2 ∧ q.2 ≤ G30 ∧ Tp h' n ∧ h'[m]? = some (.list ((fd ++ [q]).map pr)) ∧ K2 n m h h' := by
  have eG : G30 = 1000000000000000000000000000000 := rfl
  obtain ⟨x, h1, c1, x0, x1, t1, k1⟩ := huge_ok (W := W) (d := d) t
  obtain ⟨y, h2, c2, y0, y1, t2, k2⟩ := huge_ok (W := W) (d := d) t1
  obtain ⟨u, h3, c3, u0, u1, t3, k3⟩ := take_ok (W := W) (d := d + 1) (m := 99) t2 (by omega)
  obtain ⟨v, h4, c4, v0, v1, t4, k4⟩ := take_ok (W := W) (d := d + 1) (m := 9) t3 (by omega)
  obtain ⟨w, h5, c5, w0, w1, t5, k5⟩ := take_ok (W := W) (d := d + 1) (m := 4) t4 (by omega)
  have kk := (((k1.trans k2).trans k3).trans k4).trans k5
  have em5 : h5[m]? = some (.list (fd.map pr)) := by rw [kk.2 m (Ne.symm ne)]; exact em
  have bt := bmTy_list em5
  have s1 : small 4000 (1 + x) = true := small_30 (by omega) (by omega)
  have s2 : small 4000 u = true := Dr.small62 (by omega) (by omega) (by omega)
  have s3 : small 4000 v = true := Dr.small62 (by omega) (by omega) (by omega)
  have pu : 0 ≤ (1 + x) * u := Int.mul_nonneg (by omega) u0
  have pv : 0 ≤ (1 + x) * v := Int.mul_nonneg (by omega) v0
  have pw : ∀ H : Heap, opBin .pow H (.int 10) (.int 30) = some (.int G30) := fun H => rfl
  obtain ⟨z, gz, z0⟩ : ∃ z : Int, getIt h5 (.tup [.int y, .int ((1 + x) * u), .int ((1 + x) * v + 1), .int 0]) (.int w) = some (.int z) ∧ 0 ≤ z := by
    have : w = 0 ∨ w = 1 ∨ w = 2 ∨ w = 3 := by omega
    rcases this with rfl | rfl | rfl | rfl
    · exact ⟨y, rfl, y0⟩
    · exact ⟨_, rfl, pu⟩
    · exact ⟨_, rfl, by omega⟩
    · exact ⟨0, rfl, Int.le_refl _⟩
  obtain ⟨q2, hq2⟩ : ∃ q2, q2 = (if G30 < z then G30 else z) := ⟨_, rfl⟩
  have q20 : 0 ≤ q2 ∧ q2 ≤ G30 := by
    rw [hq2]; split <;> omega
  have ap := append_ref (v := .tup [.int (1 + x), .int q2]) em5 (by rw [List.length_map]; exact Nat.lt_trans hl (by decide)) rfl
  have em2 : fd.map pr ++ [.tup [.int (1 + x), .int q2]] = (fd ++ [(1 + x, q2)]).map pr := by simp [pr]
  rw [em2] at ap
  have hm := (List.getElem?_eq_some_iff.mp em5).1
  refine ⟨(1 + x, q2), h5.set m (.list ((fd ++ [(1 + x, q2)]).map pr)), some (.int z), ?_, by dsimp only; omega, by dsimp only; omega, q20.1, q20.2, t5.set ne, by rw [List.getElem?_set_self hm], kk.k2.trans K2.set⟩
  generalize (fd ++ [(1 + x, q2)]).map pr = T at *
  simp only [get_tup] at gz
  simp [stepOf, B__law_great_stores_0, c1, c2, c3, c4, c5, s1, s2, s3]
  simp at gz
  simp [gz, bt, pw, ← hq2, ap]
theorem gst_loop {W d n m : Nat} {e1 : Option Val} (ne : n ≠ m) : ∀ (is : List Int) {h : Heap} {fd : List (Int × Int)} (e3 e4 e5 : Option Val), Tp h n → h[m]? = some (.list (fd.map pr)) → fd.length + is.length < 1000 → (∀ q ∈ fd, 1 ≤ q.1 ∧ q.1 ≤ G30 ∧ 0 ≤ q.2 ∧ q.2 ≤ G30) →
    ∃ (fd' : List (Int × Int)) (h' : Heap) (e3' e4' e5' : Option Val), loopGo anyHp (stepOf (cxAt prog W (d + 2)) (.loc 3) B__law_great_stores_0) (numL is) [some (.ref n), e1, some (.ref m), e3, e4, e5] h = .next [some (.ref n), e1, some (.ref m), e3', e4', e5'] h' ∧ (∀ q ∈ fd', 1 ≤ q.1 ∧ q.1 ≤ G30 ∧ 0 ≤ q.2 ∧ q.2 ≤ G30) ∧ fd'.length = fd.length + is.length ∧ Tp h' n ∧ h'[m]? = some (.list (fd'.map pr)) ∧ K2 n m h h'
  | [], h, fd, e3, e4, e5, t, em, hl, hf => ⟨fd, h, e3, e4, e5, rfl, hf, rfl, t, em, rfl, fun _ _ _ => rfl⟩
  | i :: r, h, fd, e3, e4, e5, t, em, hl, hf => by
    simp only [List.length_cons] at hl
    obtain ⟨q, h1, x5, st, q1, q2, q3, q4, t1, em1, k1⟩ := gst_step (W := W) (d := d) (e1 := e1) (e3 := e3) (e4 := e4) (e5 := e5) (i := i) t ne em (by omega)
    obtain ⟨fd', h', a, b, c, lp, hf', l', t', em', k'⟩ := gst_loop (W := W) (d := d) (e1 := e1) ne r (some (.int i)) (some (.int q.1)) x5 t1 em1 (by simp; omega) (fun x hx => by
      rcases List.mem_append.mp hx with hx | hx
      · exact hf x hx
      · rw [List.mem_singleton.mp hx]; exact ⟨q1, q2, q3, q4⟩)
    refine ⟨fd', h', a, b, c, ?_, hf', by rw [l']; simp; omega, t', em', k1.trans k'⟩
    show loopGo anyHp _ (.int i :: numL r) _ _ = _
    rw [loop_next st rfl, lp]
theorem great_st {W d n : Nat} {h : Heap} (t : Tp h n) : ∃ (S : List (Int × Int)) (h' : Heap), (cxAt prog W (d + 3)).call "_law_great_stores" [.ref n, .int 30] h = .ok (tu S) h' ∧ Fleet S ∧ S ≠ [] ∧ Tp h' n ∧ Kg n h h' := by
  have nl := t.lt
  obtain ⟨r, h1, c1, r0, r1, t1, k1⟩ := take_ok (W := W) (d := d + 1) (m := 30) (t.app [.list []]) (by omega)
  have ne : n ≠ h.length := by omega
  have em : h1[h.length]? = some (.list (([] : List (Int × Int)).map pr)) := by
    rw [k1.2 h.length (Ne.symm ne)]; simp
  obtain ⟨is, hr, hi⟩ := rangeL_ints 0 (1 + r)
  obtain ⟨S, h2, a, b, c, lp, hf, l2, t2, em2, k2⟩ := gst_loop (W := W) (d := d) (e1 := some (.int 30)) ne is none none none t1 em (by simp; omega) (fun q hq => nomatch hq)
  have s1 : small 61 (1 + r) = true := small_up (j := 61) (by omega) (by
    have : (1 + r).natAbs ≤ 101 := by omega
    exact Nat.lt_of_le_of_lt this (by decide))
  have s0 : small 61 0 = true := rfl
  have sq := seq_ref em2
  have l3 : S.length = is.length := by simpa using l2
  refine ⟨S, h2, ?_, ⟨hf, by omega⟩, fun e => ?_, t2, (k1.k2.trans k2).g⟩
  · rw [call_at (F := F__law_great_stores) rfl]
    unfold runFn F__law_great_stores
    simp [c1, s0, s1, hr]
    rw [lp]
    simp [sq]
  · rw [e] at l3
    simp at l3
    omega
end K16

set_option Elab.async false
set_option linter.all false
set_option maxRecDepth 100000
set_option maxHeartbeats 4000000
namespace K16
open Mini Mini.Th Mini.Pf
/-! ### _law_kinks -/
def kv (ks : List Int) : List (Val × Val) := ks.map fun k => (.int k, .bool true)
def addK (ks : List Int) (k : Int) : List Int := if k ∈ ks then ks else ks ++ [k]
theorem kv_any : ∀ (ks : List Int) (k : Int), (kv ks).any (fun p => p.1 == .int k) = decide (k ∈ ks)
  | [], _ => rfl
  | c :: r, k => by
    have e : kv (c :: r) = (.int c, .bool true) :: kv r := rfl
    have e2 : (Val.int c == Val.int k) = decide (c = k) := by
      by_cases w : c = k
      · subst w; simp
      · have : Val.int c ≠ Val.int k := fun h => w (by injection h)
        rw [decide_eq_false w]
        exact beq_eq_false_iff_ne.mpr this
    rw [e, List.any_cons, kv_any r k, e2, Bool.eq_iff_iff, Bool.or_eq_true, decide_eq_true_eq, decide_eq_true_eq, decide_eq_true_eq, List.mem_cons]
    exact or_congr eq_comm Iff.rfl
theorem kv_same : ∀ (ks : List Int) (k : Int), (kv ks).map (fun p => if p.1 = .int k then (p.1, .bool true) else p) = kv ks
  | [], _ => rfl
  | c :: r, k => by
    have e : kv (c :: r) = (.int c, .bool true) :: kv r := rfl
    rw [e, List.map_cons, kv_same r k]
    congr 1
    split <;> rfl
theorem put_kv (ks : List Int) (k : Int) : put (.int k) (.bool true) (kv ks) = kv (addK ks k) := by
  unfold put addK
  rw [kv_any]
  by_cases z : k ∈ ks
  · simp only [z, decide_true, if_true]
    exact kv_same ks k
  · simp [z, kv]
theorem addK_mem {ks : List Int} {k c : Int} : c ∈ addK ks k ↔ c ∈ ks ∨ c = k := by
  unfold addK
  by_cases z : k ∈ ks
  · simp only [z, if_true]
    exact ⟨.inl, fun w => w.elim id fun e => by rw [e]; exact z⟩
  · simp [z]
theorem addK_len (ks : List Int) (k : Int) : (addK ks k).length ≤ ks.length + 1 := by
  unfold addK
  split <;> simp
theorem set_kv {h : Heap} {ks : List Int} {k : Int} (ll : ks.length < 100000) : setIt (h ++ [.dict (kv ks)]) (.ref h.length) (.int k) (.bool true) = some (h ++ [.dict (kv (addK ks k))]) := by
  have e : (h ++ [Obj.dict (kv ks)])[h.length]? = some (.dict (kv ks)) := at_end h _
  have l2 : (kv ks).length < line := by
    unfold kv
    rw [List.length_map]; exact Nat.lt_trans ll (by decide)
  simp only [setIt, e, l2, decide_true, Bool.and_true]
  rw [if_pos (show keyOk (.int k) = true from rfl), put_kv, set_end]
theorem kink_loop {C : Cx} {h : Heap} {e0 : Option Val} {chk : Heap → Bool} (hc : ∀ h', chk h' = true) : ∀ (S : List (Int × Int)) (ks : List Int) (e2 e3 : Option Val), (∀ q ∈ S, 1 ≤ q.1 ∧ q.1 ≤ G30 ∧ 0 ≤ q.2 ∧ q.2 ≤ G30) → ks.length + 2 * S.length < 10000 → (∀ k ∈ ks, 0 ≤ k ∧ k ≤ G30 + 1) →
    ∃ (ks' : List Int) (e2' e3' : Option Val), loopGo chk (stepOf C (.tup [.loc 2, .loc 3]) B__law_kinks_0) (S.map pr) [e0, some (.ref h.length), e2, e3] (h ++ [.dict (kv ks)]) = .next [e0, some (.ref h.length), e2', e3'] (h ++ [.dict (kv ks')]) ∧ ∀ k ∈ ks', 0 ≤ k ∧ k ≤ G30 + 1
  | [], ks, e2, e3, _, _, hk => ⟨ks, e2, e3, rfl, hk⟩
  | q :: r, ks, e2, e3, hS, hl, hk => by
    simp only [List.length_cons] at hl
    obtain ⟨h1, h2, h3, h4⟩ := hS q List.mem_cons_self
    have d0 := Int.ediv_nonneg h3 (show 0 ≤ q.1 by omega)
    have d1 : q.2 / q.1 ≤ q.2 := Int.ediv_le_self _ h3
    have sp := small_30 (show 0 ≤ q.1 by omega) h2
    have p0 : 0 < q.1 := by omega
    have a1 := addK_len ks (q.2 / q.1)
    have a2 := addK_len (addK ks (q.2 / q.1)) (q.2 / q.1 + 1)
    have s1 := set_kv (h := h) (ks := ks) (k := q.2 / q.1) (by omega)
    have s2 := set_kv (h := h) (ks := addK ks (q.2 / q.1)) (k := q.2 / q.1 + 1) (by omega)
    obtain ⟨ks', a, b, lp, hk'⟩ := kink_loop (C := C) (h := h) (e0 := e0) hc r (addK (addK ks (q.2 / q.1)) (q.2 / q.1 + 1)) (some (.int q.1)) (some (.int q.2)) (fun x hx => hS x (List.mem_cons_of_mem _ hx)) (by omega) (fun k hk2 => by
      rcases addK_mem.mp hk2 with w | w
      · rcases addK_mem.mp w with w | w
        · exact hk k w
        · omega
      · omega)
    refine ⟨ks', a, b, ?_, hk'⟩
    have st : stepOf C (.tup [.loc 2, .loc 3]) B__law_kinks_0 (pr q) [e0, some (.ref h.length), e2, e3] (h ++ [.dict (kv ks)]) = .next [e0, some (.ref h.length), some (.int q.1), some (.int q.2)] (h ++ [.dict (kv (addK (addK ks (q.2 / q.1)) (q.2 / q.1 + 1)))]) := by
      simp [stepOf, B__law_kinks_0, pr, p0, sp, s1, s2]
    rw [List.map_cons, loop_next st (hc _), lp]
theorem keys_kv (ks : List Int) : intsOf ((kv ks).map (·.1)) = some ks := by
  have e : (kv ks).map (·.1) = ks.map .int := by simp [kv]
  rw [e]; exact intsOf_map ks
theorem kinks_ok {W d : Nat} {h : Heap} {S : List (Int × Int)} (f : Fleet S) : ∃ ks, (cxAt prog W (d + 1)).call "_law_kinks" [tu S] h = .ok (.lst (numL ks)) h ∧ ∀ k ∈ ks, 0 ≤ k ∧ k ≤ G30 + 1 := by
  have ln := f.ln
  have eG : G30 = 1000000000000000000000000000000 := rfl
  obtain ⟨ks, a, b, lp, hk⟩ := kink_loop (C := cxAt prog W d) (h := h) (e0 := some (tu S)) (chk := chkOf (tu S) (S.map pr)) (fun h' => chk_tup _ _) S [0] none none f.ok (by simp; omega) (fun k hk => by rw [List.mem_singleton.mp hk]; omega)
  have dv : dicV [.int 0, .bool true] h = .ok (.ref h.length) (h ++ [.dict (kv [0])]) := rfl
  have e : (h ++ [Obj.dict (kv ks)])[h.length]? = some (.dict (kv ks)) := at_end h _
  have so : biSorted (h ++ [.dict (kv ks)]) [.ref h.length] = some (.lst (numL (upI ks))) := by
    simp only [biSorted, dictOf, e, keys_kv, Option.map_some]; rfl
  refine ⟨upI ks, ?_, fun k hk2 => hk k ((up_up ks).2.mem_iff.mp hk2)⟩
  rw [call_at (F := F__law_kinks) rfl]
  unfold runFn F__law_kinks
  simp [pr_still, dv]
  rw [lp]
  simp [so]
  exact settle_ok (k := 1) (by simp) (by simp only [plain]; exact ints_plain _)
/-! ### _law_at -/
structure OkP (P : List (Int × Int)) : Prop where
  pr : Pr P
  hi : ∀ q ∈ P, q.1 ≤ G40 ∧ q.2 ≤ G40
theorem at_loop {C : Cx} {h : Heap} {e0 : Option Val} {chk : Heap → Bool} (hc : chk h = true) : ∀ (P : List (Int × Int)) (t f : Int) (e3 e4 : Option Val), (∀ q ∈ P, 1 ≤ q.1 ∧ q.1 ≤ G40 ∧ 1 ≤ q.2 ∧ q.2 ≤ G40) →
    ∃ t' e3' e4', loopGo chk (stepOf C (.tup [.loc 3, .loc 4]) B__law_at_0) (P.map pr) [e0, some (.int t), some (.int f), e3, e4] h = .next [e0, t', some (.int (f + valI P t)), e3', e4'] h
  | [], t, f, e3, e4, _ => ⟨some (.int t), e3, e4, by simp [valI]⟩
  | q :: r, t, f, e3, e4, hP => by
    obtain ⟨h1, h2, h3, h4⟩ := hP q List.mem_cons_self
    obtain ⟨a, b, c, lp⟩ := at_loop (C := C) (e0 := e0) hc r (t - q.2) (f + if 0 < t then q.1 * (if t < q.2 then t else q.2) else 0) (some (.int q.1)) (some (.int q.2)) fun x hx => hP x (List.mem_cons_of_mem _ hx)
    refine ⟨a, b, c, ?_⟩
    have s1 : small 4000 q.1 = true := small_G (by omega) h2
    have st : stepOf C (.tup [.loc 3, .loc 4]) B__law_at_0 (Th.pr q) [e0, some (.int t), some (.int f), e3, e4] h = .next [e0, some (.int (t - q.2)), some (.int (f + if 0 < t then q.1 * (if t < q.2 then t else q.2) else 0)), some (.int q.1), some (.int q.2)] h := by
      by_cases z : 0 < t
      · have z' : ¬ t < 0 := by omega
        by_cases w : t < q.2
        · have s2 : small 4000 t = true := small_G (by omega) (by omega)
          simp [stepOf, B__law_at_0, Th.pr, z, z', w, s1, s2]
        · have s2 : small 4000 q.2 = true := small_G (by omega) h4
          simp [stepOf, B__law_at_0, Th.pr, z, z', w, s1, s2]
      · have p0 : 0 < q.2 := by omega
        have s0 : small 4000 0 = true := Dr.small62 (by omega) (by omega) (by omega)
        by_cases y : t < 0
        · simp [stepOf, B__law_at_0, Th.pr, z, y, p0, s0, s1]
        · have : t = 0 := by omega
          subst this
          simp [stepOf, B__law_at_0, Th.pr, p0, s0, s1]
    rw [List.map_cons, loop_next st hc, lp, valI, Int.add_assoc]
theorem at_ok {W d : Nat} {h : Heap} {P : List (Int × Int)} {t : Int} (o : OkP P) : (cxAt prog W (d + 1)).call "_law_at" [tu P, .int t] h = .ok (.int (valI P t)) h := by
  obtain ⟨a, b, c, lp⟩ := at_loop (C := cxAt prog W d) (h := h) (e0 := some (tu P)) (chk := chkOf (tu P) (P.map pr)) (by simp) P t 0 none none fun q hq => ⟨(o.pr.ge q hq).1, (o.hi q hq).1, (o.pr.ge q hq).2, (o.hi q hq).2⟩
  rw [Int.zero_add] at lp
  rw [call_at (F := F__law_at) rfl]
  unfold runFn F__law_at
  simp [pr_still, lp]
  exact settle_ok (k := 0) (List.take_length) rfl
/-! ### bounds, sums -/
theorem cv_le : ∀ {S : List (Int × Int)} {t : Int}, (∀ q ∈ S, q.2 ≤ G30) → Cv S t ≤ G30 * S.length
  | [], _, _ => by simp [Cv]
  | q :: r, t, h => by
    have ih := cv_le (S := r) (t := t) fun x hx => h x (List.mem_cons_of_mem _ hx)
    have g := h q List.mem_cons_self
    have : gv q t ≤ q.2 := by unfold gv; split <;> omega
    rw [Cv_cons, List.length_cons, Int.natCast_succ, Int.mul_add]; omega
theorem le_hd {l : List (Int × Int)} (p : Pr l) : ∀ q ∈ l, q.1 ≤ hd1 l := fun q hq => by
  cases l with
  | nil => cases hq
  | cons x r =>
    rcases List.mem_cons.mp hq with rfl | hq
    · exact Int.le_refl _
    · have := p.lt q hq
      show q.1 ≤ x.1
      omega
theorem hd_stp {l : List (Int × Int)} (p : Pr l) : hd1 l = stp l 0 := by
  cases l with
  | nil => rfl
  | cons x r =>
    have := (p.ge x List.mem_cons_self).2
    rw [stp, if_pos (by omega)]; rfl
theorem wd_sum : ∀ {l : List (Int × Int)}, Nn l → ∀ q ∈ l, q.2 ≤ sumT l
  | x :: r, h, q, hq => by
    have s := sumT_nn h.tl
    have g := h.hd
    rw [sumT_cons]
    rcases List.mem_cons.mp hq with rfl | hq
    · omega
    · have := wd_sum h.tl q hq; omega
theorem val_all : ∀ (l : List (Int × Int)) (t : Int), Nn l → sumT l ≤ t → valI l t = all l
  | [], _, _, _ => rfl
  | q :: r, t, h, hs => by
    have g := h.hd
    have s := sumT_nn h.tl
    rw [sumT_cons] at hs
    rw [valI, all_cons, val_all r (t - q.2) h.tl (by omega), if_neg (show ¬ t < q.2 by omega)]
    by_cases z : 0 < t
    · rw [if_pos z]
    · rw [if_neg z, show q.2 = 0 by omega]; simp
theorem cv_all : ∀ {S : List (Int × Int)} {t : Int}, (∀ q ∈ S, 1 ≤ q.1) → 0 ≤ t → (∀ q ∈ S, lb q ≤ t) → Cv S t = (S.map (·.2)).sum
  | [], _, _, _, _ => rfl
  | q :: r, t, h, ht, hl => by
    have := ((gv_next (h q List.mem_cons_self) ht).1 (hl q List.mem_cons_self)).2
    rw [Cv_cons, this, cv_all (fun x hx => h x (List.mem_cons_of_mem _ hx)) ht fun x hx => hl x (List.mem_cons_of_mem _ hx), List.map_cons, List.sum_cons]
theorem PF_all {S : List (Int × Int)} (f : Fleet S) : OkP (PF S) ∧ all (PF S) = (S.map (·.2)).sum ∧ (∀ M, 0 ≤ M → M ∈ S.map lb ∨ M = 0 → (∀ q ∈ S, lb q ≤ M) → sumT (PF S) = M) := by
  obtain ⟨p, pl, v⟩ := PF_ok f
  have eG : G30 = 1000000000000000000000000000000 := rfl
  have eG4 : G40 = 10000000000000000000000000000000000000000 := rfl
  have s0 := sumT_nn p.nn
  have sl : sumT (PF S) ≤ G30 := (sum_le f (by omega)).mpr fun q hq => by
    obtain ⟨a, b, c, e⟩ := f.ok q hq
    have := lb_hi a c
    omega
  have h1 : hd1 (PF S) ≤ G30 * 120 := by
    have c1 := cv_le (S := S) (t := 1) fun q hq => (f.ok q hq).2.2.2
    have c0 : 0 ≤ Cv S 0 := sum_map_ge (fun q => gv q 0) S fun q hq => by
      have := (f.ok q hq).2.2.1
      unfold gv
      split <;> simp <;> omega
    have ln := f.ln
    have := Int.mul_le_mul_of_nonneg_left (show (S.length : Int) ≤ 120 by omega) (show (0 : Int) ≤ G30 by omega)
    rw [hd_stp p, stp_cv f (Int.le_refl _), Int.zero_add]
    omega
  refine ⟨⟨p, fun q hq => ⟨by have := le_hd p q hq; omega, by have := wd_sum p.nn q hq; omega⟩⟩, ?_, fun M hM hm hl => ?_⟩
  · rw [← val_all (PF S) (sumT (PF S)) p.nn (Int.le_refl _), v _ s0]
    exact cv_all (fun q hq => (f.ok q hq).1) s0 ((sum_le f s0).mp (Int.le_refl _))
  · have a := (sum_le f hM).mpr hl
    have b := (sum_le f s0).mp (Int.le_refl _)
    rcases hm with hm | hm
    · obtain ⟨q, hq, e⟩ := List.mem_map.mp hm
      have := b q hq
      omega
    · omega
end K16

set_option Elab.async false
set_option linter.all false
set_option maxRecDepth 100000
set_option maxHeartbeats 4000000
namespace K16
open Mini Mini.Th Mini.Pf
/-! ### _law_great_right -/
theorem comp_none {C : Cx} {h : Heap} {t : Tg} {env : Env} {chk : Heap → Bool} {ifs : List Ex} {elt : Ex} : ∀ (vs : List Val), (∀ v ∈ vs, lcStep C t env chk ifs elt v h = .ok [] h) → lcGo (lcStep C t env chk ifs elt) vs h = .ok [] h
  | [], _ => rfl
  | v :: r, hs => by
    simp only [lcGo, hs v List.mem_cons_self, comp_none r fun w hw => hs w (List.mem_cons_of_mem _ hw)]
    rfl
theorem zip_mem : ∀ {P : List (Int × Int)}, Pr P → ∀ v ∈ zipL (P.map pr) ((P.map pr).drop 1), ∃ a b : Int × Int, v = .tup [pr a, pr b] ∧ b.1 < a.1
  | [], _, v, h => by cases h
  | [a], _, v, h => by cases h
  | a :: b :: r, p, v, h => by
    have e : zipL ((a :: b :: r).map pr) (((a :: b :: r).map pr).drop 1) = .tup [pr a, pr b] :: zipL ((b :: r).map pr) (((b :: r).map pr).drop 1) := rfl
    rw [e] at h
    rcases List.mem_cons.mp h with rfl | h
    · exact ⟨a, b, rfl, p.lt b List.mem_cons_self⟩
    · exact zip_mem p.tl v h
theorem eq_nil (h : Heap) : opEq h (.lst []) (.lst []) = some true := opEq_of h rfl rfl
theorem eq_int (h : Heap) (i : Int) : opEq h (.int i) (.int i) = some true := by rw [opEq_of h rfl rfl]; simp [eqv]
section
variable {W d : Nat} {h : Heap} {S P : List (Int × Int)} {e0 e4 : Option Val}
theorem sp_step {e3 e5 e6 e7 e8 e9 e10 e11 e12 : Option Val} {s : Int} (f : Fleet S) (o : OkP P) (v : ∀ u, 0 ≤ u → valI P u = Cv S u) (h0 : 0 ≤ s) (h1 : s ≤ G40) :
    stepOf (cxAt prog W (d + 1)) (.loc 12) B__law_great_right_18 (.int s) [e0, some (tu S), some (tu P), e3, e4, e5, e6, e7, e8, e9, e10, e11, e12] h = .next [e0, some (tu S), some (tu P), e3, e4, e5, e6, e7, e8, e9, e10, e11, some (.int s)] h := by
  have a := at_ok (W := W) (d := d) (h := h) (t := s) o
  have b := value_ok (W := W) (d := d) (h := h) (t := s) f h0 h1
  rw [v s h0] at a
  have q := eq_int h (Cv S s)
  simp [stepOf, B__law_great_right_18, a, b, q]
theorem kk_step {e3 e5 e6 e7 e8 e9 e10 e11 e12 : Option Val} {k : Int} (f : Fleet S) (o : OkP P) (v : ∀ u, 0 ≤ u → valI P u = Cv S u) (h0 : 0 ≤ k) (h1 : k ≤ G30 + 1) :
    ∃ e12', stepOf (cxAt prog W (d + 1)) (.loc 11) B__law_great_right_19 (.int k) [e0, some (tu S), some (tu P), e3, e4, e5, e6, e7, e8, e9, e10, e11, e12] h = .next [e0, some (tu S), some (tu P), e3, e4, e5, e6, e7, e8, e9, e10, some (.int k), e12'] h := by
  have eG : G30 = 1000000000000000000000000000000 := rfl
  have eG4 : G40 = 10000000000000000000000000000000000000000 := rfl
  obtain ⟨m, hm⟩ : ∃ m, m = (if k - 1 > 0 then k - 1 else 0) := ⟨_, rfl⟩
  have m0 : 0 ≤ m ∧ m ≤ G40 := by rw [hm]; split <;> omega
  have s1 := fun x12 => sp_step (W := W) (d := d) (h := h) (e0 := e0) (e4 := e4) (e3 := e3) (e5 := e5) (e6 := e6) (e7 := e7) (e8 := e8) (e9 := e9) (e10 := e10) (e11 := some (.int k)) (e12 := x12) (s := m) f o v m0.1 m0.2
  have s2 := fun x12 => sp_step (W := W) (d := d) (h := h) (e0 := e0) (e4 := e4) (e3 := e3) (e5 := e5) (e6 := e6) (e7 := e7) (e8 := e8) (e9 := e9) (e10 := e10) (e11 := some (.int k)) (e12 := x12) (s := k) f o v h0 (by omega)
  have s3 := fun x12 => sp_step (W := W) (d := d) (h := h) (e0 := e0) (e4 := e4) (e3 := e3) (e5 := e5) (e6 := e6) (e7 := e7) (e8 := e8) (e9 := e9) (e10 := e10) (e11 := some (.int k)) (e12 := x12) (s := k + 1) f o v (by omega) (by omega)
  have s4 := fun x12 => sp_step (W := W) (d := d) (h := h) (e0 := e0) (e4 := e4) (e3 := e3) (e5 := e5) (e6 := e6) (e7 := e7) (e8 := e8) (e9 := e9) (e10 := e10) (e11 := some (.int k)) (e12 := x12) (s := 2 * k + 1) f o v (by omega) (by omega)
  have sm : small 4000 2 = true ∧ small 4000 k = true := ⟨Dr.small62 (by omega) (by omega) (by omega), small_G h0 (by omega)⟩
  have ck : chkOf (.tup [.int m, .int k, .int (k + 1), .int (2 * k + 1)]) [.int m, .int k, .int (k + 1), .int (2 * k + 1)] h = true := by simp
  have l1 := loop_next (vs := [.int k, .int (k + 1), .int (2 * k + 1)]) (s1 e12) ck
  have l2 := loop_next (vs := [.int (k + 1), .int (2 * k + 1)]) (s2 (some (.int m))) ck
  have l3 := loop_next (vs := [.int (2 * k + 1)]) (s3 (some (.int k))) ck
  have l4 := loop_next (vs := []) (s4 (some (.int (k + 1)))) ck
  have lp := ((l1.trans l2).trans l3).trans l4
  rw [loop_nil] at lp
  refine ⟨some (.int (2 * k + 1)), ?_⟩
  have mx : ∀ H : Heap, biV .max H [.int 0, .int (k - 1)] = some (.int m) := fun H => by rw [biV_max2, ← hm]
  simp [stepOf, B__law_great_right_19, mx, sm]
  rw [lp]
  rfl
theorem kk_loop {e3 e5 e6 e7 e8 e9 e10 : Option Val} {chk : Heap → Bool} (hc : chk h = true) (f : Fleet S) (o : OkP P) (v : ∀ u, 0 ≤ u → valI P u = Cv S u) : ∀ (ks : List Int) (e11 e12 : Option Val), (∀ k ∈ ks, 0 ≤ k ∧ k ≤ G30 + 1) →
    ∃ e11' e12', loopGo chk (stepOf (cxAt prog W (d + 1)) (.loc 11) B__law_great_right_19) (numL ks) [e0, some (tu S), some (tu P), e3, e4, e5, e6, e7, e8, e9, e10, e11, e12] h = .next [e0, some (tu S), some (tu P), e3, e4, e5, e6, e7, e8, e9, e10, e11', e12'] h
  | [], e11, e12, _ => ⟨e11, e12, rfl⟩
  | k :: r, e11, e12, hk => by
    obtain ⟨a, b⟩ := hk k List.mem_cons_self
    obtain ⟨x, st⟩ := kk_step (W := W) (d := d) (h := h) (e0 := e0) (e4 := e4) (e3 := e3) (e5 := e5) (e6 := e6) (e7 := e7) (e8 := e8) (e9 := e9) (e10 := e10) (e11 := e11) (e12 := e12) f o v a b
    obtain ⟨y, z, lp⟩ := kk_loop hc f o v r (some (.int k)) x fun w hw => hk w (List.mem_cons_of_mem _ hw)
    refine ⟨y, z, ?_⟩
    show loopGo chk _ (.int k :: numL r) _ _ = _
    rw [loop_next st hc, lp]
end
theorem great_ok {W d n : Nat} {h : Heap} (t : Tp h n) : ∃ h', (cxAt prog W (d + 6)).call "_law_great_right" [.ref n] h = .ok (.bool true) h' ∧ Tp h' n ∧ Kg n h h' := by
  obtain ⟨S, h1, c1, f, ne, t1, k1⟩ := great_st (W := W) (d := d + 2) t
  obtain ⟨p, pl, v⟩ := PF_ok f
  obtain ⟨o, al, sm⟩ := PF_all f
  have c2 := prof_ok (W := W) (d := d) (h := h1) f
  have pp := p.ge
  generalize PF S = P at *
  have i0 : ixOf 2 0 = some 0 := rfl
  have i1 : ixOf 2 1 = some 1 := rfl
  have lP : P.length ≤ line := Nat.le_trans pl (by decide)
  have lP2 : P.length + P.length ≤ line := Nat.le_trans (show _ ≤ 480 by omega) (by decide)
  have lS : S.length ≤ line := Nat.le_trans f.ln (by decide)
  have q0 := eq_nil h1
  have qi := eq_int h1
  have la := comp_none (C := cxAt prog W (d + 5)) (h := h1) (t := .loc 3) (env := [some (.ref n), some (tu S), some (tu P), none, none, none, none, none, none, none, none, none, none]) (chk := chkOf (tu P) (P.map pr)) (ifs := I__law_great_right_1) (elt := E__law_great_right_0) (P.map pr) (fun v hv => by
    obtain ⟨q, hq, rfl⟩ := List.mem_map.mp hv
    simp [lcStep, lcTurn, E__law_great_right_0, I__law_great_right_1, pr, qi])
  have lb_ := comp_pairs (C := cxAt prog W (d + 5)) (h := h1) (t := .loc 3) (env := [some (.ref n), some (tu S), some (tu P), none, none, none, none, none, none, none, none, none, none]) (chk := chkOf (tu P) (P.map pr)) (ifs := I__law_great_right_3) (elt := E__law_great_right_2) (f := fun q => q.1) P (fun q hq => by
    simp [lcStep, lcTurn, E__law_great_right_2, I__law_great_right_3, pr, i0])
  have lc := comp_pairs (C := cxAt prog W (d + 5)) (h := h1) (t := .loc 3) (env := [some (.ref n), some (tu S), some (tu P), none, none, none, none, none, none, none, none, none, none]) (chk := chkOf (tu P) (P.map pr)) (ifs := I__law_great_right_5) (elt := E__law_great_right_4) (f := fun q => q.2) P (fun q hq => by
    simp [lcStep, lcTurn, E__law_great_right_4, I__law_great_right_5, pr, i1])
  obtain ⟨ns, hns⟩ : ∃ ns, ns = P.map (fun q : Int × Int => q.1) ++ P.map (fun q : Int × Int => q.2) := ⟨_, rfl⟩
  have nsv : numL (P.map fun q : Int × Int => q.1) ++ numL (P.map fun q : Int × Int => q.2) = numL ns := by rw [hns, numL_app]
  have ld := comp_none (C := cxAt prog W (d + 5)) (h := h1) (t := .loc 5) (env := [some (.ref n), some (tu S), some (tu P), none, some (.lst (numL ns)), none, none, none, none, none, none, none, none]) (chk := chkOf (.lst (numL ns)) (numL ns)) (ifs := I__law_great_right_7) (elt := E__law_great_right_6) (numL ns) (fun v hv => by
    obtain ⟨i, hi, rfl⟩ := List.mem_map.mp hv
    have i1 : ¬ i < 1 := by
      rw [hns] at hi
      rcases List.mem_append.mp hi with hi | hi
      · obtain ⟨q, hq, rfl⟩ := List.mem_map.mp hi
        have := (pp q hq).1; omega
      · obtain ⟨q, hq, rfl⟩ := List.mem_map.mp hi
        have := (pp q hq).2; omega
    simp [lcStep, lcTurn, E__law_great_right_6, I__law_great_right_7, i1])
  have le_ := comp_none (C := cxAt prog W (d + 5)) (h := h1) (t := .tup [.loc 3, .loc 6]) (env := [some (.ref n), some (tu S), some (tu P), none, some (.lst (numL ns)), none, none, none, none, none, none, none, none]) (chk := fun h' => decide (seqOf h' (tu P) = some (P.map pr) ∧ seqOf h' (.tup ((P.map pr).drop 1)) = some ((P.map pr).drop 1))) (ifs := I__law_great_right_9) (elt := E__law_great_right_8) (zipL (P.map pr) ((P.map pr).drop 1)) (fun v hv => by
    obtain ⟨a, b, rfl, hab⟩ := zip_mem p v hv
    have hab' : ¬ a.1 ≤ b.1 := by omega
    simp [lcStep, lcTurn, E__law_great_right_8, I__law_great_right_9, pr, i0, hab'])
  have lf := comp_pairs (C := cxAt prog W (d + 5)) (h := h1) (t := .tup [.loc 7, .loc 8]) (env := [some (.ref n), some (tu S), some (tu P), none, some (.lst (numL ns)), none, none, none, none, none, none, none, none]) (chk := chkOf (tu P) (P.map pr)) (ifs := I__law_great_right_11) (elt := E__law_great_right_10) (f := fun q => q.1 * q.2) P (fun q hq => by
    have s1 : small 4000 q.1 = true := small_G (by have := (pp q hq).1; omega) (o.hi q hq).1
    have s2 : small 4000 q.2 = true := small_G (by have := (pp q hq).2; omega) (o.hi q hq).2
    simp [lcStep, lcTurn, E__law_great_right_10, I__law_great_right_11, pr, s1, s2])
  have lg := comp_pairs (C := cxAt prog W (d + 5)) (h := h1) (t := .tup [.loc 9, .loc 10]) (env := [some (.ref n), some (tu S), some (tu P), none, some (.lst (numL ns)), none, none, none, none, none, none, none, none]) (chk := chkOf (tu S) (S.map pr)) (ifs := I__law_great_right_13) (elt := E__law_great_right_12) (f := fun q => q.2) S (fun q hq => by
    simp [lcStep, lcTurn, E__law_great_right_12, I__law_great_right_13, pr])
  have lh := comp_pairs (C := cxAt prog W (d + 5)) (h := h1) (t := .tup [.loc 7, .loc 8]) (env := [some (.ref n), some (tu S), some (tu P), none, some (.lst (numL ns)), none, none, none, none, none, none, none, none]) (chk := chkOf (tu P) (P.map pr)) (ifs := I__law_great_right_15) (elt := E__law_great_right_14) (f := fun q => q.2) P (fun q hq => by
    simp [lcStep, lcTurn, E__law_great_right_14, I__law_great_right_15, pr])
  have li := lab_lc (W := W) (d := d + 4) (h := h1) (env := [some (.ref n), some (tu S), some (tu P), none, some (.lst (numL ns)), none, none, none, none, none, none, none, none]) (chk := chkOf (tu S) (S.map pr)) (a := 9) (b := 10) (ifs := I__law_great_right_17) (elt := E__law_great_right_16) f (fun q hq c => by
    simp [lcStep, lcTurn, E__law_great_right_16, I__law_great_right_17, pr, c])
  have es1 : (P.map fun q : Int × Int => q.1 * q.2).sum = all P := rfl
  have es2 : (S.map fun q : Int × Int => q.2).sum = all P := al.symm
  have es3 : (P.map fun q : Int × Int => q.2).sum = sumT P := rfl
  have mx : biV .max h1 [.lst (numL (S.map lb))] = some (.int (sumT P)) := by
    cases S with
    | nil => exact absurd rfl ne
    | cons q0 r0 =>
      have mo := max_of h1 (lb q0) (r0.map lb)
      have mm := maxI_mem (r0.map lb) (lb q0)
      have mg := maxI_ge (r0.map lb) (lb q0)
      have l0 := lb_nn (f.ok q0 List.mem_cons_self).1 (f.ok q0 List.mem_cons_self).2.2.1
      have := sm (maxI (lb q0) (r0.map lb)) (by have := mg _ List.mem_cons_self; omega) (.inl mm) (fun q hq => mg _ (List.mem_map.mpr ⟨q, hq, rfl⟩))
      rw [this]
      exact mo
  obtain ⟨ks, ck, hk⟩ := kinks_ok (W := W) (d := d + 4) (h := h1) f
  obtain ⟨e11, e12, lp⟩ := kk_loop (W := W) (d := d + 4) (h := h1) (e0 := some (.ref n)) (e4 := some (.lst (numL ns))) (e3 := none) (e5 := none) (e6 := none) (e7 := none) (e8 := none) (e9 := none) (e10 := none) (chk := chkOf (.lst (numL ks)) (numL ks)) (by simp) f o v ks none none hk
  have lj := lab_lc (W := W) (d := d + 4) (h := h1) (env := [some (.ref n), some (tu S), some (tu P), none, some (.lst (numL ns)), none, none, none, none, none, none, e11, e12]) (chk := chkOf (tu S) (S.map pr)) (a := 9) (b := 10) (ifs := I__law_great_right_21) (elt := E__law_great_right_20) f (fun q hq c => by
    simp [lcStep, lcTurn, E__law_great_right_20, I__law_great_right_21, pr, c])
  have tm := times_ok (W := W) (d := d) (h := h1) f
  have lk2 := like_ints (W := W) (d := d + 3) (h := h1) (ns := S.map lb) (by have := f.ln; simp; omega)
  have ct : cut (P.map pr) (some 1) none = (P.map pr).drop 1 := cut_hi (i := 0)
  have it : isTup (tu P) = isTup (.tup ((P.map pr).drop 1)) := rfl
  refine ⟨h1, ?_, t1, k1⟩
  rw [call_at (F := F__law_great_right) rfl]
  unfold runFn F__law_great_right
  simp [c1, c2, la, q0, lb_, lP, lc, lP2, nsv, ld, ct, it]
  simp at le_
  rw [le_]
  simp [q0, lf, lP, es1, lg, lS, es2, qi, lh, es3, li, mx, ck]
  rw [lp]
  simp [tm, lj, lS, lk2]
end K16

set_option Elab.async false
set_option linter.all false
set_option maxRecDepth 100000
set_option maxHeartbeats 4000000
namespace K16
open Mini Mini.Th Mini.Pf
/-! ### what is refused -/
theorem ref_ok {W d : Nat} {f v : Val} {h : Heap} (hf : isClo f = true) (p : plain 0 v = true) (e : (cxAt prog W d).act f [] h = .exn "BadFleet" v h) : (cxAt prog W (d + 1)).call "_law_refused" [f] h = .ok (.lst [v]) h := by
  rw [call_at (F := F__law_refused) rfl]
  unfold runFn F__law_refused
  have ex : excIs prog "BadFleet" ["BadFleet"] = true := rfl
  have ei : ∀ C : Cx, C.prog = prog → evalE C (.eis 1 "StoreError") [some f, some (.exc "BadFleet" v)] = M.pure (.bool true) := by
    intro C hC
    simp only [evalE, hC]
    rfl
  have ev : ∀ C : Cx, C.prog = prog → evalE C (.efld 1 "place") [some f, some (.exc "BadFleet" v)] = M.pure v := by
    intro C hC
    simp only [evalE, hC]
    rfl
  have i1 := ei (cxAt prog W d) (cx_prog _ _ _)
  have e1 := ev (cxAt prog W d) (cx_prog _ _ _)
  simp [e, handle, ex, i1, e1, hf]
  rw [settle_ok (k := 1) (List.take_length) (by simp only [plain, List.all_cons, List.all_nil, p]; rfl)]
  have s := plain_still 0 v p
  simp [s]
section
variable {W d : Nat} {h : Heap} {a v q : Val}
theorem act0 (p : still a = true) : (cxAt prog W (d + 1)).act (.clo "_law_places_right.0" [a]) [] h = (cxAt prog W d).call "need_fleet" [a] h := by
  rw [act_at (F := L__law_places_right_0) rfl]
  simp [runLam, L__law_places_right_0, p]
theorem act1 (p : still a = true) : (cxAt prog W (d + 1)).act (.clo "_law_places_right.1" [a]) [] h = (cxAt prog W d).call "profile_of_fleet" [a] h := by
  rw [act_at (F := L__law_places_right_1) rfl]
  simp [runLam, L__law_places_right_1, p]
theorem act2 (p : still a = true) : (cxAt prog W (d + 1)).act (.clo "_law_places_right.2" [a]) [] h = (cxAt prog W d).call "times_of" [a] h := by
  rw [act_at (F := L__law_places_right_2) rfl]
  simp [runLam, L__law_places_right_2, p]
theorem act3 (p : still a = true) : (cxAt prog W (d + 1)).act (.clo "_law_places_right.3" [a]) [] h = (cxAt prog W d).call "profile_of_fleet" [a] h := by
  rw [act_at (F := L__law_places_right_3) rfl]
  simp [runLam, L__law_places_right_3, p]
theorem act4 (p : still a = true) : (cxAt prog W (d + 1)).act (.clo "_law_places_right.4" [a]) [] h = (cxAt prog W d).call "need_fleet" [a] h := by
  rw [act_at (F := L__law_places_right_4) rfl]
  simp [runLam, L__law_places_right_4, p]
theorem prof_bad (b : ∀ H, (cxAt prog W (d + 4)).call "need_fleet" [v] H = .exn "BadFleet" q H) (sv : still v = true) (pq : plain 0 q = true) : (cxAt prog W (d + 5)).call "profile_of_fleet" [v] h = .exn "BadFleet" q h := by
  rw [call_at (F := F_profile_of_fleet) rfl]
  unfold runFn F_profile_of_fleet
  simp [b, sv]
  exact settle_exn (List.take_length) pq
theorem times_bad (b : ∀ H, (cxAt prog W (d + 4)).call "need_fleet" [v] H = .exn "BadFleet" q H) (sv : still v = true) (pq : plain 0 q = true) : (cxAt prog W (d + 5)).call "times_of" [v] h = .exn "BadFleet" q h := by
  rw [call_at (F := F_times_of) rfl]
  unfold runFn F_times_of
  simp [b, sv]
  exact settle_exn (List.take_length) pq
theorem refs (b : ∀ D H, (cxAt prog W (D + 4)).call "need_fleet" [v] H = .exn "BadFleet" q H) (sv : still v = true) (pq : plain 0 q = true) :
    (cxAt prog W (d + 7)).call "_law_refused" [.clo "_law_places_right.0" [v]] h = .ok (.lst [q]) h ∧ (cxAt prog W (d + 7)).call "_law_refused" [.clo "_law_places_right.1" [v]] h = .ok (.lst [q]) h ∧ (cxAt prog W (d + 7)).call "_law_refused" [.clo "_law_places_right.2" [v]] h = .ok (.lst [q]) h ∧ (cxAt prog W (d + 7)).call "_law_refused" [.clo "_law_places_right.3" [v]] h = .ok (.lst [q]) h ∧ (cxAt prog W (d + 7)).call "_law_refused" [.clo "_law_places_right.4" [v]] h = .ok (.lst [q]) h :=
  ⟨ref_ok (d := d + 6) rfl pq ((act0 (d := d + 5) sv).trans (b (d + 1) _)), ref_ok (d := d + 6) rfl pq ((act1 (d := d + 5) sv).trans (prof_bad (b d) sv pq)), ref_ok (d := d + 6) rfl pq ((act2 (d := d + 5) sv).trans (times_bad (b d) sv pq)), ref_ok (d := d + 6) rfl pq ((act3 (d := d + 5) sv).trans (prof_bad (b d) sv pq)), ref_ok (d := d + 6) rfl pq ((act4 (d := d + 5) sv).trans (b (d + 1) _))⟩
end
section
variable {W d : Nat} {h : Heap} {e0 e1 e2 e3 e5 e6 e7 e8 e9 : Option Val} {v : Val} {k : Int}
theorem th_step (b : ∀ D H, (cxAt prog W (D + 4)).call "need_fleet" [v] H = .exn "BadFleet" (.int k) H) (sv : still v = true) :
    stepOf (cxAt prog W (d + 7)) (.loc 7) B__law_places_right_0 v [e0, e1, e2, e3, some (.int k), e5, e6, e7, e8, e9] h = .next [e0, e1, e2, e3, some (.int k), e5, e6, some v, some (.lst [.lst [.int k], .lst [.int k]]), e9] h := by
  obtain ⟨r0, r1, r2, _, _⟩ := refs (d := d) (h := h) b sv rfl
  have l3 : 3 ≤ line := by decide
  have l1 : 2 + 1 ≤ line := by decide
  have s3 : small 62 3 = true := rfl
  have q : opEq h (.lst [.lst [.int k], .lst [.int k], .lst [.int k]]) (.lst [.lst [.int k], .lst [.int k], .lst [.int k]]) = some true := by
    rw [opEq_of h rfl rfl, eqv_self 60 _ rfl]
  simp [stepOf, B__law_places_right_0, sv, r0, r1, r2, l3, l1, s3, q]
theorem bd_step (p : DatR v) (t : isTupOf v 0 120 = false) :
    stepOf (cxAt prog W (d + 7)) (.loc 3) B__law_places_right_2 v [e0, e1, e2, e3, some (.int k), e5, e6, e7, e8, e9] h = .next [e0, e1, e2, some v, some (.int k), e5, e6, e7, e8, e9] h := by
  obtain ⟨_, _, _, r3, r4⟩ := refs (W := W) (d := d) (h := h) (q := .none) (fun D H => need_no (W := W) (d := D) (h := H) p t) p.still rfl
  have q : opEq h (.lst [.none]) (.lst [.none]) = some true := by rw [opEq_of h rfl rfl, eqv_self 60 _ rfl]
  have sv := p.still
  simp [stepOf, B__law_places_right_2, sv, r3, r4, q]
end
/-! ### the odd things -/
def oddL : List Val := [.none, .tup [], .tup [.int 0, .int 5], .tup [.int (-1), .int 5], .tup [.int 1, .int (-1)], .tup [.bool true, .int 1], .tup [.int 1, .bool true], .tup [.int 1], .tup [.int 1, .int 2, .int 3], .lst [.int 1, .int 2], .str [49, 50], .tup [.str [49], .int 2], .tup [.int 1, .none], .tup [.int (G30 + 1), .int 1], .tup [.int 1, .int (G30 + 1)], .tup [.int 1, .tup [.int 2]], .tup [.tup [.int 1, .int 2], .tup [.int 3, .int 4]], .int 7]
theorem odd_all : oddL.all (fun v => plain 5 v && !isSt v) = true := by decide +kernel
theorem odd_at {v : Val} (h : v ∈ oddL) : plain 5 v = true ∧ isSt v = false := by
  have := List.all_eq_true.mp odd_all v h
  simpa using this
theorem cut_from {xs : List Val} {i : Nat} (hi : i ≤ xs.length) : cut xs (some (i : Int)) none = xs.drop i := by
  have h1 : ¬ (i : Int) < 0 := by omega
  have h2 : min i xs.length = i := by omega
  simp only [cut, endOf, h1, if_false, Int.toNat_natCast, h2]
  rw [List.take_of_length_le (by simp)]
/-- a fleet with a thing put in -/
theorem put_in {W : Nat} {S : List (Int × Int)} {bad : Val} {rest : List Val} {k : Nat} (f : ∀ q ∈ S, 1 ≤ q.1 ∧ q.1 ≤ G30 ∧ 0 ≤ q.2 ∧ q.2 ≤ G30) (hl : S.length ≤ 20) (hk : k ≤ S.length) (hb : bad ∈ oddL) (hr : rest.all (plain 5) = true) (hr2 : rest.length ≤ 50) :
    (∀ D H, (cxAt prog W (D + 4)).call "need_fleet" [.tup ((S.map pr).take k ++ bad :: ((S.map pr).drop k ++ rest))] H = .exn "BadFleet" (.int k) H) ∧ still (.tup ((S.map pr).take k ++ bad :: ((S.map pr).drop k ++ rest))) = true := by
  obtain ⟨pb, sb⟩ := odd_at hb
  have e1 : (S.map pr).take k = (S.take k).map pr := List.map_take.symm
  have lk_ : (S.take k).length = k := by rw [List.length_take]; omega
  have pd : ((S.map pr).drop k ++ rest).all (plain 5) = true := by
    rw [List.all_append, Bool.and_eq_true]
    refine ⟨List.all_eq_true.mpr fun v hv => ?_, hr⟩
    exact plain_up 1 5 v (by omega) (List.all_eq_true.mp (pr_plain S) v (List.mem_of_mem_drop hv))
  refine ⟨fun D H => ?_, ?_⟩
  · have := need_at (W := W) (d := D) (h := H) (S := S.take k) (bad := bad) (rest := (S.map pr).drop k ++ rest) (fun q hq => f q (List.mem_of_mem_take hq)) pb sb pd (by rw [lk_]; simp; omega)
    rw [lk_] at this
    rw [e1]
    exact this
  · refine plain_still 6 _ ?_
    simp only [plain, List.all_append, List.all_cons, Bool.and_eq_true]
    rw [List.all_append, Bool.and_eq_true] at pd
    refine ⟨?_, pb, pd.1, pd.2⟩
    exact List.all_eq_true.mpr fun v hv => plain_up 1 5 v (by omega) (List.all_eq_true.mp (pr_plain S) v (List.mem_of_mem_take hv))
theorem odd_step {W d n m : Nat} {h : Heap} {S : List (Int × Int)} {bad : Val} {e3 e4 e5 e6 e7 e8 e9 : Option Val} (f : ∀ q ∈ S, 1 ≤ q.1 ∧ q.1 ≤ G30 ∧ 0 ≤ q.2 ∧ q.2 ≤ G30) (hl : S.length ≤ 20) (hb : bad ∈ oddL) (t : Tp h n) (ne : n ≠ m) (em : h[m]? = some (.list oddL)) :
    ∃ (k : Int) (x5 x6 x7 x8 : Option Val) (h' : Heap), stepOf (cxAt prog W (d + 7)) (.loc 3) B__law_places_right_1 bad [some (.ref n), some (tu S), some (.ref m), e3, e4, e5, e6, e7, e8, e9] h = .next [some (.ref n), some (tu S), some (.ref m), some bad, some (.int k), x5, x6, x7, x8, e9] h' ∧ Tp h' n ∧ h'[m]? = some (.list oddL) := by
  obtain ⟨r, h1, c1, r0, r1, t1, k1⟩ := take_ok (W := W) (d := d + 6) (m := S.length + 1) t (by omega)
  obtain ⟨k, rfl⟩ := Int.eq_ofNat_of_zero_le r0
  have hk : k ≤ S.length := by omega
  obtain ⟨j, h2, c2, j0, j1, t2, k2⟩ := take_ok (W := W) (d := d + 6) (m := 18) t1 (by omega)
  obtain ⟨i, rfl⟩ := Int.eq_ofNat_of_zero_le j0
  have em1 : h1[m]? = some (.list oddL) := by rw [k1.2 m (Ne.symm ne)]; exact em
  have em2 : h2[m]? = some (.list oddL) := by rw [k2.2 m (Ne.symm ne)]; exact em1
  have il : i < oddL.length := by
    have : oddL.length = 18 := rfl
    omega
  have bl : biLen h1 [.ref m] = some (.int 18) := by
    simp only [biLen, em1]; rfl
  obtain ⟨od, hod⟩ : ∃ od, oddL[i]? = some od := ⟨_, List.getElem?_eq_getElem il⟩
  have modd : od ∈ oddL := List.mem_of_getElem? hod
  have gi : getIt h2 (.ref m) (.int (i : Nat)) = some od := by
    rw [get_ref em2]
    have : ixOf oddL.length ((i : Nat) : Int) = some i := by
      unfold ixOf
      rw [if_pos (by omega), if_pos (by omega)]
      simp
    rw [this]
    exact hod
  have sb := plain_still 5 _ (odd_at hb).1
  have so := plain_still 5 _ (odd_at modd).1
  have cl := cut_lo (xs := S.map pr) (i := k) (by simp; omega)
  have cf := cut_from (xs := S.map pr) (i := k) (by simp; omega)
  obtain ⟨w1, w2⟩ := put_in (W := W) (rest := []) f hl hk hb rfl (by simp)
  obtain ⟨v1, v2⟩ := put_in (W := W) (rest := od :: S.map pr) f hl hk hb (by
    simp only [List.all_cons, Bool.and_eq_true]
    exact ⟨(odd_at modd).1, plains_up 1 5 _ (by omega) (pr_plain S)⟩) (by simp; omega)
  rw [List.append_nil] at w1 w2
  obtain ⟨wh, hwh⟩ : ∃ wh, wh = (S.map pr).take k ++ bad :: (S.map pr).drop k := ⟨_, rfl⟩
  obtain ⟨lt, hlt⟩ : ∃ lt, lt = (S.map pr).take k ++ bad :: ((S.map pr).drop k ++ od :: S.map pr) := ⟨_, rfl⟩
  have elt : wh ++ od :: S.map pr = lt := by rw [hwh, hlt]; simp
  rw [← hwh] at w1 w2
  rw [← hlt] at v1 v2
  have s1 := fun e5 e6 x7 x8 => th_step (W := W) (d := d) (h := h2) (e0 := some (.ref n)) (e1 := some (tu S)) (e2 := some (.ref m)) (e3 := some bad) (e5 := e5) (e6 := e6) (e7 := x7) (e8 := x8) (e9 := e9) w1 w2
  have s2 := fun e5 e6 x7 x8 => th_step (W := W) (d := d) (h := h2) (e0 := some (.ref n)) (e1 := some (tu S)) (e2 := some (.ref m)) (e3 := some bad) (e5 := e5) (e6 := e6) (e7 := x7) (e8 := x8) (e9 := e9) v1 v2
  have ck : chkOf (.tup [.tup wh, .tup lt]) [.tup wh, .tup lt] h2 = true := by simp
  have lp := (loop_next (vs := [.tup lt]) (s1 (some (.tup wh)) (some (.tup lt)) e7 e8) ck).trans (loop_next (vs := []) (s2 (some (.tup wh)) (some (.tup lt)) (some (.tup wh)) (some (.lst [.lst [.int k], .lst [.int k]]))) ck)
  rw [loop_nil] at lp
  have mi : min k S.length = k := by omega
  have l1 : k + 1 ≤ line := Nat.le_trans (show k + 1 ≤ 100 by omega) (by decide)
  have l2 : k + 1 + (S.length - k) ≤ line := Nat.le_trans (show _ ≤ 100 by omega) (by decide)
  have wl : wh.length = S.length + 1 := by rw [hwh]; simp; omega
  have l3 : S.length + 1 + 1 ≤ line := Nat.le_trans (show _ ≤ 100 by omega) (by decide)
  have l4 : S.length + 1 + 1 + S.length ≤ line := Nat.le_trans (show _ ≤ 100 by omega) (by decide)
  refine ⟨k, some (.tup wh), some (.tup lt), some (.tup lt), some (.lst [.lst [.int k], .lst [.int k]]), h2, ?_, t2, em2⟩
  simp [stepOf, B__law_places_right_1, pr_still, c1, cl, cf, mi, l1, l2, ← hwh, bl, c2, gi, wl, l3, l4, elt]
  rw [lp]
  rfl
theorem odd_loop {W d n m : Nat} {S : List (Int × Int)} {e9 : Option Val} {chk : Heap → Bool} (hc : ∀ h' : Heap, h'[m]? = some (.list oddL) → chk h' = true) (f : ∀ q ∈ S, 1 ≤ q.1 ∧ q.1 ≤ G30 ∧ 0 ≤ q.2 ∧ q.2 ≤ G30) (hl : S.length ≤ 20) (ne : n ≠ m) : ∀ (vs : List Val) {h : Heap} (e3 e5 e6 e7 e8 : Option Val) (e4 : Option Val), (∀ v ∈ vs, v ∈ oddL) → Tp h n → h[m]? = some (.list oddL) → (vs ≠ [] ∨ ∃ k, e4 = some (.int k)) →
    ∃ (k : Int) (x3 x5 x6 x7 x8 : Option Val) (h' : Heap), loopGo chk (stepOf (cxAt prog W (d + 7)) (.loc 3) B__law_places_right_1) vs [some (.ref n), some (tu S), some (.ref m), e3, e4, e5, e6, e7, e8, e9] h = .next [some (.ref n), some (tu S), some (.ref m), x3, some (.int k), x5, x6, x7, x8, e9] h' ∧ Tp h' n ∧ h'[m]? = some (.list oddL)
  | [], h, e3, e5, e6, e7, e8, e4, _, t, em, hn => by
    rcases hn with hn | ⟨k, rfl⟩
    · exact absurd rfl hn
    · exact ⟨k, e3, e5, e6, e7, e8, h, rfl, t, em⟩
  | v :: r, h, e3, e5, e6, e7, e8, e4, hv, t, em, hn => by
    obtain ⟨k, x5, x6, x7, x8, h1, st, t1, em1⟩ := odd_step (W := W) (d := d) (e3 := e3) (e4 := e4) (e5 := e5) (e6 := e6) (e7 := e7) (e8 := e8) (e9 := e9) f hl (hv v List.mem_cons_self) t ne em
    obtain ⟨k', y3, y5, y6, y7, y8, h2, lp, t2, em2⟩ := odd_loop (W := W) (d := d) (e9 := e9) hc f hl ne r (some v) x5 x6 x7 x8 (some (.int k)) (fun w hw => hv w (List.mem_cons_of_mem _ hw)) t1 em1 (.inr ⟨k, rfl⟩)
    refine ⟨k', y3, y5, y6, y7, y8, h2, ?_, t2, em2⟩
    rw [loop_next st (hc _ em1), lp]
end K16

set_option Elab.async false
set_option linter.all false
set_option maxRecDepth 100000
set_option maxHeartbeats 4000000
namespace K16
open Mini Mini.Th Mini.Pf
/-! ### the greatest fleet -/
def W60 : List (Int × Int) := List.replicate 60 (G30, G30)
def W20 : List (Int × Int) := (List.replicate 20 [((1 : Int), (0 : Int)), (G30, 0), (1, G30)]).flatten
def wideL : List (Int × Int) := W60 ++ W20
theorem wide_fleet : Fleet wideL := by
  have a : wideL.all (fun q => decide (1 ≤ q.1) && decide (q.1 ≤ G30) && decide (0 ≤ q.2) && decide (q.2 ≤ G30)) = true := by decide +kernel
  refine ⟨fun q hq => ?_, by decide +kernel⟩
  have := List.all_eq_true.mp a q hq
  simp only [Bool.and_eq_true, decide_eq_true_eq] at this
  omega
theorem wide_drops : drops wideL [] = [(1, 60 * G30), (G30, 20)] := by decide +kernel
theorem wide_prof : PF wideL = [(60 * G30 + 20, 1), (20, G30 - 1)] := by
  have u : upI [1, G30] = [1, G30] := by
    obtain ⟨a, b⟩ := up_up [1, G30]
    refine List.Perm.eq_of_pairwise (le := fun a b : Int => a ≤ b) (fun a b _ _ h1 h2 => by omega) a ?_ b
    refine List.pairwise_cons.mpr ⟨fun x hx => ?_, List.pairwise_singleton _ _⟩
    rw [List.mem_singleton.mp hx]
    decide
  have k : kys [((1 : Int), 60 * G30), (G30, 20)] = [1, G30] := rfl
  have t : tot [((1 : Int), 60 * G30), (G30, 20)] = 60 * G30 + 20 := by simp [tot]
  rw [PF, wide_drops, profD, k, u, t]
  have l1 : lk [((1 : Int), 60 * G30), (G30, 20)] 1 = 60 * G30 := rfl
  simp only [pf, l1]
  have e1 : 60 * G30 + 20 - 60 * G30 = 20 := by omega
  rw [e1]; rfl
theorem nil_prof : PF [] = [] := by
  have : upI (kys []) = [] := by simp [upI, kys]
  rw [PF, drops, profD, this]; rfl
theorem nil_fleet : Fleet [] := ⟨fun q h => (by cases h), Nat.zero_le _⟩
theorem bd_loop {W d : Nat} {h : Heap} {e0 e1 e2 e5 e6 e7 e8 e9 : Option Val} {k : Int} {chk : Heap → Bool} (hc : chk h = true) : ∀ (vs : List Val) (e3 : Option Val), (∀ v ∈ vs, DatR v ∧ isTupOf v 0 120 = false) →
    ∃ e3', loopGo chk (stepOf (cxAt prog W (d + 7)) (.loc 3) B__law_places_right_2) vs [e0, e1, e2, e3, some (.int k), e5, e6, e7, e8, e9] h = .next [e0, e1, e2, e3', some (.int k), e5, e6, e7, e8, e9] h
  | [], e3, _ => ⟨e3, rfl⟩
  | v :: r, e3, hv => by
    obtain ⟨p, t⟩ := hv v List.mem_cons_self
    obtain ⟨a, lp⟩ := bd_loop (W := W) (d := d) (h := h) (e0 := e0) (e1 := e1) (e2 := e2) (e5 := e5) (e6 := e6) (e7 := e7) (e8 := e8) (e9 := e9) (k := k) hc r (some v) fun w hw => hv w (List.mem_cons_of_mem _ hw)
    exact ⟨a, by rw [loop_next (bd_step p t) hc, lp]⟩
def B1 : Val := .tup (List.replicate 121 (.tup [.int 1, .int 1]))
def B0 : Val := .tup (List.replicate 121 (.tup [.int 0, .int 0]))
theorem mul_1 (H : Heap) : opBin .mul H (.tup [.tup [.int 1, .int 1]]) (.int 121) = some B1 := rfl
theorem mul_0 (H : Heap) : opBin .mul H (.tup [.tup [.int 0, .int 0]]) (.int 121) = some B0 := rfl
theorem mul_60 (H : Heap) : opBin .mul H (.tup [.tup [.int G30, .int G30]]) (.int 60) = some (tu W60) := rfl
theorem mul_20 (H : Heap) : opBin .mul H (.tup [.tup [.int 1, .int 0], .tup [.int G30, .int 0], .tup [.int 1, .int G30]]) (.int 20) = some (tu W20) := rfl
theorem add_w (H : Heap) : opBin .add H (tu W60) (tu W20) = some (tu wideL) := by
  rw [add_tup, if_pos (show (W60.map pr).length + (W20.map pr).length ≤ line by
    rw [List.length_map, List.length_map]
    have a : W60.length = 60 := rfl
    have b : W20.length = 60 := rfl
    rw [a, b]; decide), ← List.map_append]
  rfl
theorem pow_30 (H : Heap) : opBin .pow H (.int 10) (.int 30) = some (.int G30) := rfl
theorem places_ok {W d n : Nat} {h : Heap} {S : List (Int × Int)} (t : Tp h n) (f : ∀ q ∈ S, 1 ≤ q.1 ∧ q.1 ≤ G30 ∧ 0 ≤ q.2 ∧ q.2 ≤ G30) (hl : S.length ≤ 20) : ∃ h', (cxAt prog W (d + 8)).call "_law_places_right" [.ref n, tu S] h = .ok (.bool true) h' := by
  have nl := t.lt
  have ne : n ≠ h.length := by omega
  obtain ⟨first, hfst⟩ : ∃ first : List Val, first = oddL.take 13 := ⟨_, rfl⟩
  have hfst' : first = [.none, .tup [], .tup [.int 0, .int 5], .tup [.int (-1), .int 5], .tup [.int 1, .int (-1)], .tup [.bool true, .int 1], .tup [.int 1, .bool true], .tup [.int 1], .tup [.int 1, .int 2, .int 3], .lst [.int 1, .int 2], .str [49, 50], .tup [.str [49], .int 2], .tup [.int 1, .none]] := hfst
  have e0 : (h ++ [Obj.list first])[h.length]? = some (.list first) := at_end h _
  have bt : bmTy .extend (h ++ [.list first]) (.ref h.length) = true := by simp only [bmTy, e0]
  have ex : bmV .extend (h ++ [.list first]) (.ref h.length) [.lst [.tup [.int (G30 + 1), .int 1], .tup [.int 1, .int (G30 + 1)], .tup [.int 1, .tup [.int 2]], .tup [.tup [.int 1, .int 2], .tup [.int 3, .int 4]], .int 7]] = some (.none, h ++ [.list oddL]) := by
    have ea : first ++ [.tup [.int (G30 + 1), .int 1], .tup [.int 1, .int (G30 + 1)], .tup [.int 1, .tup [.int 2]], .tup [.tup [.int 1, .int 2], .tup [.int 3, .int 4]], .int 7] = oddL := by rw [hfst']; rfl
    have fl : first.length = 13 := by rw [hfst']; rfl
    have l18 : (13 + 5 : Nat) ≤ line := by decide
    simp only [bmV, bmExtend, e0, lstOf_lst]
    rw [ea, set_end]
    simp [fl, l18]
  have em : (h ++ [Obj.list oddL])[h.length]? = some (.list oddL) := at_end h _
  obtain ⟨k, x3, x5, x6, x7, x8, h1, lp1, t1, em1⟩ := odd_loop (W := W) (d := d) (n := n) (m := h.length) (S := S) (e9 := none) (chk := chkOf (.ref h.length) oddL) (fun h' eh => by simp [chkOf, seq_ref eh]) f hl ne oddL (h := h ++ [.list oddL]) none none none none none none (fun v hv => hv) (t.app _) em (.inl (by simp [oddL]))
  have sq := seq_ref em
  have wk : walkOf (.ref h.length) (h ++ [.list oddL]) = .ok (oddL, chkOf (.ref h.length) oddL) (h ++ [.list oddL]) := by
    simp only [walkOf, sq]; rfl
  have pS : DatR (.lst (S.map pr)) := .inl ⟨2, by simp only [plain]; exact pr_plain S⟩
  obtain ⟨y3, lp2⟩ := bd_loop (W := W) (d := d) (h := h1) (e0 := some (.ref n)) (e1 := some (tu S)) (e2 := some (.ref h.length)) (e5 := x5) (e6 := x6) (e7 := x7) (e8 := x8) (e9 := none) (k := k) (chk := chkOf (.tup [.none, .lst (S.map pr), .str [40, 41], .emp, .int 0, B1, B0]) [.none, .lst (S.map pr), .str [40, 41], .emp, .int 0, B1, B0]) (by simp) [.none, .lst (S.map pr), .str [40, 41], .emp, .int 0, B1, B0] x3 (fun v hv => by
    simp only [List.mem_cons, List.not_mem_nil, or_false] at hv
    rcases hv with rfl | rfl | rfl | rfl | rfl | rfl | rfl
    · exact ⟨.inl ⟨0, rfl⟩, rfl⟩
    · exact ⟨pS, rfl⟩
    · exact ⟨.inl ⟨0, rfl⟩, rfl⟩
    · exact ⟨.inr rfl, rfl⟩
    · exact ⟨.inl ⟨0, rfl⟩, rfl⟩
    · exact ⟨.inl ⟨2, rfl⟩, rfl⟩
    · exact ⟨.inl ⟨2, rfl⟩, rfl⟩)
  have nw := need_ok (W := W) (d := d + 3) (h := h1) wide_fleet
  have n0 := need_ok (W := W) (d := d + 3) (h := h1) nil_fleet
  have pw_ := prof_ok (W := W) (d := d + 2) (h := h1) wide_fleet
  have p0 := prof_ok (W := W) (d := d + 2) (h := h1) nil_fleet
  rw [wide_prof] at pw_
  rw [nil_prof] at p0
  have k1 := like_pairs (W := W) (d := d + 4) (h := h1) (P := wideL) (by have := wide_fleet.ln; omega)
  have k2 := like_pairs (W := W) (d := d + 4) (h := h1) (P := []) (by simp)
  have k3 := like_pairs (W := W) (d := d + 4) (h := h1) (P := [(60 * G30 + 20, 1), (20, G30 - 1)]) (by simp)
  have t0 : tu [] = .tup [] := rfl
  rw [t0] at n0 p0 k2
  have t3 : tu [(60 * G30 + 20, 1), (20, G30 - 1)] = .tup [.tup [.int (60 * G30 + 20), .int 1], .tup [.int 20, .int (G30 - 1)]] := rfl
  rw [t3] at pw_ k3
  have sm : small 4000 60 = true ∧ small 4000 G30 = true := ⟨Dr.small62 (by omega) (by omega) (by omega), small_30 (by decide) (Int.le_refl _)⟩
  have sB : still B1 = true ∧ still B0 = true := ⟨rfl, rfl⟩
  have stf : stills first = true := by rw [hfst']; rfl
  refine ⟨h1, ?_⟩
  rw [call_at (F := F__law_places_right) rfl]
  unfold runFn F__law_places_right
  simp [-mul_tup, -pow_int, pr_still, ← hfst', stf, pow_30, bt, ex, wk]
  rw [lp1]
  simp [-mul_tup, -pow_int, mul_1, mul_0, pow_30]
  rw [lp2]
  have lw : W60.length + W20.length ≤ line := by
    have a : W60.length = 60 := rfl
    have b : W20.length = 60 := rfl
    rw [a, b]; decide
  have ew : W60.map pr ++ W20.map pr = wideL.map pr := List.map_append.symm
  simp [-mul_tup, -pow_int, mul_60, mul_20, pow_30, lw, ew, nw, k1, n0, k2, p0, pw_, sm, k3]
end K16

set_option Elab.async false
set_option linter.all false
set_option maxRecDepth 100000
set_option maxHeartbeats 4000000
namespace K16
open Mini Mini.Th Mini.Pf
/-! ### _law_tape -/
theorem loop_brk {chk : Heap → Bool} {step : Val → Env → Heap → Out} {v : Val} {vs : List Val} {env env' : Env} {h h' : Heap} (e : step v env h = .brk env' h') : loopGo chk step (v :: vs) env h = .next env' h' := by
  simp only [loopGo, e]
@[simp] theorem ex_brk (C : Cx) (env : Env) (h : Heap) : exec C .brk env h = .brk env h := by
  first
    | rfl
    | simp only [exec]
theorem cut_numL (ns : List Int) (lo hi : Option Int) : cut (numL ns) lo hi = numL (cut ns lo hi) := by
  unfold cut numL
  rw [List.length_map, List.map_take, List.map_drop]
section
variable {C : Cx} {h : Heap} {e0 e1 e2 e4 e6 e7 e8 : Option Val}
theorem app_n {fd : List Int} {x : Int} (hl : fd.length < 100000) : bmTy .append (h ++ [.list (numL fd)]) (.ref h.length) = true ∧ bmV .append (h ++ [.list (numL fd)]) (.ref h.length) [.int x] = some (.none, h ++ [.list (numL (fd ++ [x]))]) := by
  have e : (h ++ [Obj.list (numL fd)])[h.length]? = some (.list (numL fd)) := at_end h _
  have ap := append_ref (v := .int x) e (by rw [ints_len]; exact Nat.lt_trans hl (by decide)) rfl
  rw [set_end] at ap
  have en : numL fd ++ [.int x] = numL (fd ++ [x]) := by simp [numL]
  rw [en] at ap
  exact ⟨bmTy_list e, ap⟩
theorem tp0_loop : ∀ (is : List Int) (fd : List Int) (rest : Int) (e6 : Option Val), 0 ≤ rest → fd.length + is.length < 100000 → (∀ x ∈ fd, 0 ≤ x) →
    ∃ (fd' : List Int) (e5' e6' : Option Val), loopGo anyHp (stepOf C (.loc 6) B__law_tape_0) (numL is) [e0, e1, e2, some (.ref h.length), e4, some (.int rest), e6, e7, e8] (h ++ [.list (numL fd)]) = .next [e0, e1, e2, some (.ref h.length), e4, e5', e6', e7, e8] (h ++ [.list (numL fd')]) ∧ fd'.length ≤ fd.length + is.length ∧ ∀ x ∈ fd', 0 ≤ x
  | [], fd, rest, e6, _, _, hf => ⟨fd, some (.int rest), e6, rfl, Nat.le_refl _, hf⟩
  | i :: r, fd, rest, e6, h0, hl, hf => by
    simp only [List.length_cons] at hl ⊢
    by_cases z : rest = 0
    · refine ⟨fd, some (.int rest), some (.int i), ?_, by omega, hf⟩
      have q : ∀ H, opEq H (.int rest) (.int 0) = some true := fun H => by rw [opEq_of H rfl rfl, z]; simp [eqv]
      show loopGo anyHp _ (.int i :: numL r) _ _ = _
      rw [loop_brk (env' := [e0, e1, e2, some (.ref h.length), e4, some (.int rest), some (.int i), e7, e8]) (h' := h ++ [.list (numL fd)])]
      simp [stepOf, B__law_tape_0, q]
    · have q : ∀ H, opEq H (.int rest) (.int 0) = some false := fun H => by rw [opEq_of H rfl rfl]; simp [eqv, z]
      obtain ⟨b1, b2⟩ := app_n (h := h) (fd := fd) (x := rest % 1000) (by omega)
      have s : small 4000 1000 = true := Dr.small62 (by omega) (by omega) (by omega)
      obtain ⟨fd', a, b, lp, l', hf'⟩ := tp0_loop r (fd ++ [rest % 1000]) (rest / 1000) (some (.int i)) (Int.ediv_nonneg h0 (by omega)) (by simp; omega) (fun x hx => by
        rcases List.mem_append.mp hx with hx | hx
        · exact hf x hx
        · rw [List.mem_singleton.mp hx]; exact Int.emod_nonneg _ (by omega))
      refine ⟨fd', a, b, ?_, by simp at l'; omega, hf'⟩
      have st : stepOf C (.loc 6) B__law_tape_0 (.int i) [e0, e1, e2, some (.ref h.length), e4, some (.int rest), e6, e7, e8] (h ++ [.list (numL fd)]) = .next [e0, e1, e2, some (.ref h.length), e4, some (.int (rest / 1000)), some (.int i), e7, e8] (h ++ [.list (numL (fd ++ [rest % 1000]))]) := by
        generalize numL (fd ++ [rest % 1000]) = T at *
        simp [stepOf, B__law_tape_0, q, b1, b2, s]
      show loopGo anyHp _ (.int i :: numL r) _ _ = _
      rw [loop_next st rfl, lp]
theorem tp1_loop {chk : Heap → Bool} (hc : ∀ h', chk h' = true) : ∀ (cs : List Int) (fd : List Int) (e4 e5 e6 : Option Val), fd.length + 60 * cs.length < 90000 → (∀ x ∈ fd, 0 ≤ x) →
    ∃ (fd' : List Int) (e4' e5' e6' : Option Val), loopGo chk (stepOf C (.loc 4) B__law_tape_1) (numL cs) [e0, e1, e2, some (.ref h.length), e4, e5, e6, e7, e8] (h ++ [.list (numL fd)]) = .next [e0, e1, e2, some (.ref h.length), e4', e5', e6', e7, e8] (h ++ [.list (numL fd')]) ∧ fd'.length ≤ fd.length + 60 * cs.length ∧ ∀ x ∈ fd', 0 ≤ x
  | [], fd, e4, e5, e6, _, hf => ⟨fd, e4, e5, e6, rfl, by simp, hf⟩
  | c :: r, fd, e4, e5, e6, hl, hf => by
    simp only [List.length_cons] at hl ⊢
    obtain ⟨a, ha⟩ : ∃ a, a = (if c < 0 then -c else c) := ⟨_, rfl⟩
    have a0 : 0 ≤ a := by rw [ha]; split <;> omega
    have pw : ∀ H : Heap, opBin .pow H (.int 10) (.int 18) = some (.int 1000000000000000000) := fun H => rfl
    obtain ⟨is, hr, hi⟩ := rangeL_ints 0 60
    have hi : is.length = 60 := hi
    have s6 : small 61 60 = true ∧ small 61 0 = true := ⟨rfl, rfl⟩
    obtain ⟨fd1, x5, x6, lp1, l1, hf1⟩ := tp0_loop (C := C) (h := h) (e0 := e0) (e1 := e1) (e2 := e2) (e4 := some (.int c)) (e7 := e7) (e8 := e8) is fd a e6 a0 (by omega) hf
    have ab : ∀ H : Heap, biV .abs H [.int c] = some (.int a) := fun H => by rw [biV_abs, ← ha]
    by_cases z : 1000000000000000000 ≤ a
    · have st : stepOf C (.loc 4) B__law_tape_1 (.int c) [e0, e1, e2, some (.ref h.length), e4, e5, e6, e7, e8] (h ++ [.list (numL fd)]) = .next [e0, e1, e2, some (.ref h.length), some (.int c), x5, x6, e7, e8] (h ++ [.list (numL fd1)]) := by
        simp [-pow_int, stepOf, B__law_tape_1, ab, pw, z, s6, hr]
        rw [lp1]
        rfl
      obtain ⟨fd', p, q, w, lp, l', hf'⟩ := tp1_loop hc r fd1 (some (.int c)) x5 x6 (by omega) hf1
      refine ⟨fd', p, q, w, ?_, by omega, hf'⟩
      show loopGo chk _ (.int c :: numL r) _ _ = _
      rw [loop_next st (hc _), lp]
    · have st : stepOf C (.loc 4) B__law_tape_1 (.int c) [e0, e1, e2, some (.ref h.length), e4, e5, e6, e7, e8] (h ++ [.list (numL fd)]) = .next [e0, e1, e2, some (.ref h.length), some (.int c), some (.int a), e6, e7, e8] (h ++ [.list (numL fd)]) := by
        simp [-pow_int, stepOf, B__law_tape_1, ab, pw, z]
      obtain ⟨fd', p, q, w, lp, l', hf'⟩ := tp1_loop hc r fd (some (.int c)) (some (.int a)) e6 (by omega) hf
      refine ⟨fd', p, q, w, ?_, by omega, hf'⟩
      show loopGo chk _ (.int c :: numL r) _ _ = _
      rw [loop_next st (hc _), lp]
theorem tp2_loop {H : Heap} {e3 e5 : Option Val} {chk : Heap → Bool} (hc : chk H = true) : ∀ (cs : List Int) (s : Int) (e4 : Option Val), 0 ≤ s → s < 2147483647 →
    ∃ (s' : Int) (e4' : Option Val), loopGo chk (stepOf C (.loc 4) B__law_tape_2) (numL cs) [e0, e1, e2, e3, e4, e5, e6, some (.int s), e8] H = .next [e0, e1, e2, e3, e4', e5, e6, some (.int s'), e8] H ∧ 0 ≤ s' ∧ s' < 2147483647
  | [], s, e4, h0, h1 => ⟨s, e4, rfl, h0, h1⟩
  | c :: r, s, e4, h0, h1 => by
    have s1 : small 4000 s = true := Dr.small62 (by omega) h0 (by omega)
    have s2 : small 4000 48271 = true := Dr.small62 (by omega) (by omega) (by omega)
    obtain ⟨s', a, lp, b1, b2⟩ := tp2_loop (e3 := e3) (e5 := e5) hc r ((s * 48271 + c % 1000003 + 11) % 2147483647) (some (.int c)) (Int.emod_nonneg _ (by omega)) (Int.emod_lt_of_pos _ (by omega))
    refine ⟨s', a, ?_, b1, b2⟩
    have st : stepOf C (.loc 4) B__law_tape_2 (.int c) [e0, e1, e2, e3, e4, e5, e6, some (.int s), e8] H = .next [e0, e1, e2, e3, some (.int c), e5, e6, some (.int ((s * 48271 + c % 1000003 + 11) % 2147483647)), e8] H := by
      simp [stepOf, B__law_tape_2, s1, s2]
    show loopGo chk _ (.int c :: numL r) _ _ = _
    rw [loop_next st hc, lp]
theorem tp3_loop {e5 : Option Val} {many : Int} : ∀ (is : List Int) (fd : List Int) (s : Int) (e6 e8 : Option Val), 0 ≤ s → s < 2147483647 → fd.length + is.length < 100000 → (∀ x ∈ fd, 0 ≤ x) →
    ∃ (fd' : List Int) (e6' e7' e8' : Option Val), loopGo anyHp (stepOf C (.loc 6) B__law_tape_3) (numL is) [e0, some (.int many), e2, some (.ref h.length), e4, e5, e6, some (.int s), e8] (h ++ [.list (numL fd)]) = .next [e0, some (.int many), e2, some (.ref h.length), e4, e5, e6', e7', e8'] (h ++ [.list (numL fd')]) ∧ ∀ x ∈ fd', 0 ≤ x
  | [], fd, s, e6, e8, _, _, _, hf => ⟨fd, e6, some (.int s), e8, rfl, hf⟩
  | i :: r, fd, s, e6, e8, h0, h1, hl, hf => by
    simp only [List.length_cons] at hl
    have e : (h ++ [Obj.list (numL fd)])[h.length]? = some (.list (numL fd)) := at_end h _
    have bl : biLen (h ++ [.list (numL fd)]) [.ref h.length] = some (.int fd.length) := by
      simp only [biLen, e, ints_len]
    by_cases z : many ≤ fd.length
    · refine ⟨fd, some (.int i), some (.int s), e8, ?_, hf⟩
      show loopGo anyHp _ (.int i :: numL r) _ _ = _
      rw [loop_brk (env' := [e0, some (.int many), e2, some (.ref h.length), e4, e5, some (.int i), some (.int s), e8]) (h' := h ++ [.list (numL fd)])]
      simp [stepOf, B__law_tape_3, bl, z]
    · obtain ⟨s2, hs2⟩ : ∃ s2, s2 = (s * 69621 + i + 12345) % 2147483647 := ⟨_, rfl⟩
      have b0 : 0 ≤ s2 ∧ s2 < 2147483647 := by
        rw [hs2]; exact ⟨Int.emod_nonneg _ (by omega), Int.emod_lt_of_pos _ (by omega)⟩
      obtain ⟨m, hm⟩ : ∃ m, m = s2 * (s2 + 7) % 2147483629 := ⟨_, rfl⟩
      obtain ⟨b1, b2⟩ := app_n (h := h) (fd := fd) (x := m / 13 % 1000) (by omega)
      have m1 : small 4000 s = true := Dr.small62 (by omega) h0 (by omega)
      have m2 : small 4000 69621 = true := Dr.small62 (by omega) (by omega) (by omega)
      have m3 : small 4000 s2 = true := Dr.small62 (by omega) b0.1 (by omega)
      have m4 : small 4000 (s2 + 7) = true := Dr.small62 (by omega) (by omega) (by omega)
      have m5 : small 4000 13 = true := Dr.small62 (by omega) (by omega) (by omega)
      obtain ⟨fd', x6, x7, x8, lp, hf'⟩ := tp3_loop (e5 := e5) (many := many) r (fd ++ [m / 13 % 1000]) s2 (some (.int i)) (some (.int m)) b0.1 b0.2 (by simp; omega) (fun x hx => by
        rcases List.mem_append.mp hx with hx | hx
        · exact hf x hx
        · rw [List.mem_singleton.mp hx]; exact Int.emod_nonneg _ (by omega))
      refine ⟨fd', x6, x7, x8, ?_, hf'⟩
      have st : stepOf C (.loc 6) B__law_tape_3 (.int i) [e0, some (.int many), e2, some (.ref h.length), e4, e5, e6, some (.int s), e8] (h ++ [.list (numL fd)]) = .next [e0, some (.int many), e2, some (.ref h.length), e4, e5, some (.int i), some (.int s2), some (.int m)] (h ++ [.list (numL (fd ++ [m / 13 % 1000]))]) := by
        generalize numL (fd ++ [m / 13 % 1000]) = T at *
        simp [stepOf, B__law_tape_3, bl, z, m1, m2, ← hs2, m3, m4, ← hm, b1, m5, b2]
      show loopGo anyHp _ (.int i :: numL r) _ _ = _
      rw [loop_next st rfl, lp]
end
theorem tape_ok {W d : Nat} {h : Heap} {ns : List Int} (hl : ns.length ≤ 63) : ∃ n h', (cxAt prog W (d + 1)).call "_law_tape" [.scr (numL ns), .int 1200, .int 1600] h = .ok (.ref n) h' ∧ Tp h' n := by
  have cn := cut_numL ns none (some 63)
  have cl : (cut ns none (some 63)).length ≤ 63 := by
    unfold cut
    rw [List.length_take, List.length_drop]
    omega
  generalize cut ns none (some 63) = cs at *
  obtain ⟨fd1, x4, x5, x6, lp1, l1, hf1⟩ := tp1_loop (C := cxAt prog W d) (h := h) (e0 := some (.scr (numL ns))) (e1 := some (.int 1200)) (e2 := some (.int 1600)) (e7 := none) (e8 := none) (chk := chkOf (.lst (numL cs)) (numL cs)) (fun h' => chk_lst _ _) cs [] none none none (by simp; omega) (fun x hx => by cases hx)
  obtain ⟨s2, y4, lp2, s20, s21⟩ := tp2_loop (C := cxAt prog W d) (H := h ++ [.list (numL fd1)]) (e0 := some (.scr (numL ns))) (e1 := some (.int 1200)) (e2 := some (.int 1600)) (e3 := some (.ref h.length)) (e5 := x5) (e6 := x6) (e8 := none) (chk := chkOf (.lst (numL cs)) (numL cs)) (chk_lst _ _) cs ((ns.length : Int) * 31 + 12670400) x4 (by omega) (by omega)
  obtain ⟨is, hr, hi⟩ := rangeL_ints 0 1200
  have hi : is.length = 1200 := hi
  have s6 : small 61 1200 = true ∧ small 61 0 = true := ⟨rfl, rfl⟩
  simp only [List.length_nil] at l1
  obtain ⟨fd3, z6, z7, z8, lp3, hf3⟩ := tp3_loop (C := cxAt prog W d) (h := h) (e0 := some (.scr (numL ns))) (many := 1200) (e2 := some (.int 1600)) (e4 := y4) (e5 := x5) is fd1 s2 x6 none s20 s21 (by omega) hf1
  have e : (h ++ [Obj.list (numL fd3)])[h.length]? = some (.list (numL fd3)) := at_end h _
  have sl : sliceIt (h ++ [.list (numL fd3)]) (.ref h.length) none (some 1200) = some (.lst (numL (cut fd3 none (some 1200)))) := by
    simp only [sliceIt, lstOf, e, Option.map_some, cut_numL]
  have ss : sliceIt (h ++ [.list []]) (.scr (numL ns)) none (some 63) = some (.lst (numL cs)) := by
    simp only [sliceIt, cn]
  have ss2 : sliceIt (h ++ [.list (numL fd1)]) (.scr (numL ns)) none (some 63) = some (.lst (numL cs)) := by
    simp only [sliceIt, cn]
  obtain ⟨ds, hds⟩ : ∃ ds, ds = cut fd3 none (some 1200) := ⟨_, rfl⟩
  have hd : ∀ x ∈ ds, 0 ≤ x := fun x hx => by
    rw [hds] at hx
    unfold cut at hx
    exact hf3 x (List.mem_of_mem_drop (List.mem_of_mem_take hx))
  have er : revIt (h ++ [.list (numL fd3)]) (.lst (numL ds)) = some (.lst (numL ds.reverse)) := by
    simp [revIt, lstOf, numL]
  have hl2 : (h ++ [Obj.list (numL fd3)]).length = h.length + 1 := by simp
  have m1 : small 4000 (ns.length : Int) = true := Dr.small62 (by omega) (by omega) (by omega)
  have m2 : small 4000 31 = true ∧ small 4000 1600 = true ∧ small 4000 7919 = true := ⟨Dr.small62 (by omega) (by omega) (by omega), Dr.small62 (by omega) (by omega) (by omega), Dr.small62 (by omega) (by omega) (by omega)⟩
  rw [← hds] at sl
  refine ⟨h.length + 1, h ++ [.list (numL fd3), .list (numL ds.reverse)], ?_, ⟨ds.reverse, by simp, fun x hx => hd x (List.mem_reverse.mp hx)⟩⟩
  have z0 : numL [] = [] := rfl
  rw [z0] at lp1
  rw [call_at (F := F__law_tape) rfl]
  unfold runFn F__law_tape
  simp [ss]
  rw [lp1]
  simp [m1, m2, ss2]
  rw [lp2]
  simp [s6, hr]
  rw [lp3]
  simp [sl, er]
/-! ### the law -/
theorem law_turn {d n : Nat} {h : Heap} {e0 e2 : Option Val} {i : Int} (t : Tp h n) : ∃ h', stepOf (cxAt prog 1000 (d + 8)) (.loc 2) B_law_0 (.int i) [e0, some (.ref n), e2] h = .next [e0, some (.ref n), some (.int i)] h' ∧ Tp h' n := by
  obtain ⟨h1, c1, t1, _⟩ := small_ok (W := 1000) (d := d + 2) t
  obtain ⟨h2, c2, t2, _⟩ := great_ok (W := 1000) (d := d + 2) t1
  by_cases z : i < 2
  · exact ⟨h2, by simp [stepOf, B_law_0, c1, z, c2], t2⟩
  · exact ⟨h1, by simp [stepOf, B_law_0, c1, z], t1⟩
theorem law_loop {d n : Nat} : ∀ (is : List Int) {h : Heap} {e0 e2 : Option Val}, Tp h n →
    ∃ (e2' : Option Val) (h' : Heap), loopGo anyHp (stepOf (cxAt prog 1000 (d + 8)) (.loc 2) B_law_0) (numL is) [e0, some (.ref n), e2] h = .next [e0, some (.ref n), e2'] h' ∧ Tp h' n
  | [], h, e0, e2, t => ⟨e2, h, rfl, t⟩
  | i :: is, h, e0, e2, t => by
    obtain ⟨h1, st, t1⟩ := law_turn (d := d) (e0 := e0) (e2 := e2) (i := i) t
    obtain ⟨b2, h2, lp, t2⟩ := law_loop (d := d) is (e0 := e0) (e2 := some (.int i)) t1
    refine ⟨b2, h2, ?_, t2⟩
    show loopGo anyHp _ (.int i :: numL is) _ h = _
    rw [loop_next st rfl, lp]
theorem law_ok {d : Nat} {ns : List Int} (hl : ns.length ≤ 63) : (cxAt prog 1000 (d + 9)).call "law" [.scr (numL ns)] [] = .ok (.bool true) [] := by
  obtain ⟨n, h1, c1, t1⟩ := tape_ok (W := 1000) (d := d + 7) (h := []) hl
  obtain ⟨is, hr, hi⟩ := rangeL_ints 0 6
  obtain ⟨b2, h2, lp, t2⟩ := law_loop (d := d) is (e0 := some (.scr (numL ns))) (e2 := none) t1
  obtain ⟨S, h3, c3, hS, l3, t3, _⟩ := stores_ok (W := 1000) (d := d + 6) (many := 5) (p := 9) (tm := 9) t2 (by omega) (by omega) (by omega) (by omega) (by omega) (by omega)
  have eG : G30 = 1000000000000000000000000000000 := rfl
  obtain ⟨h4, c4⟩ := places_ok (W := 1000) (d := d) (S := S) t3 (fun q hq => by
    obtain ⟨a, b, c, e⟩ := hS q hq
    omega) (by omega)
  have s6 : small 61 6 = true ∧ small 61 0 = true := ⟨rfl, rfl⟩
  rw [call_at (F := F_law) rfl]
  unfold runFn F_law
  simp [c1, s6, hr]
  rw [lp]
  simp [c3, c4]
  exact settle_ok (k := 0) rfl rfl
end K16

set_option Elab.async false
set_option linter.all false
set_option maxRecDepth 100000
set_option maxHeartbeats 0
theorem K16.plain : ∀ ns : List Int, ns.length ≤ 63 → (∀ z ∈ ns, PySem.Builtin.Int.intBits z ≤ 1048576) → ∃ h', (Mini.cxAt K16.pk.P 1000 12).call "law" [.scr (ns.map Mini.Val.int)] [] = .ok (.bool true) h' :=
  fun ns hl _ => ⟨[], K16.law_ok (d := 3) hl⟩
open PySem PySem.W PySem.Calls PyProof.Rows
theorem PySem.Challenge.cw_storewright_k16_profiles_of_fleets_holds : PySem.Challenge.rw_storewright_k16_profiles_of_fleets.Holds := by
  w_on; o_law
  refine HandSHeadRun.head_any (r := OpenLaw.row K16.lawR) (q := PySem.W.view (PySem.W.OpenLaw.row K16.lawR).prog [36]) (H := K16.hk) (ob := K16.ob) (M := 20000) (loose := K16.loose) (d := HandSHeadRun.topDef (OpenLaw.row K16.lawR).prog 36) (kwd := []) K16.ob_eq
    (by kernel_rfl) (fun s => by kernel_rfl) K16.run (by kernel_rfl) (by kernel_rfl) (by kernel_rfl) (by rfl) (by first | assumption | decide +kernel) (by decide +kernel) ⟨rfl, rfl, rfl, rfl, rfl, by decide +kernel⟩ ?hw ?hc
  case hw => w_witness2
  case hc =>
    exact MS.pk_walk (l := K16.lawR) (p := K16.pk) (n := 63) (m := 4) (dd := 12) (Wn := 1000) rfl K16.pk_ok rfl (by decide) (by kernel_rfl) (by kernel_rfl) ⟨rfl, by decide, by decide⟩ (by decide +kernel) K16.law_one K16.plain

