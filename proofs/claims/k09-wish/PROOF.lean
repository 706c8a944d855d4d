import PyProof.Rows.All
import Wide.All
import OpenK.AllK
import Wide.FinOn
import KE.SortData
import HandS.ForMost
import HandS.IsInst
import HandS.Defaults
import HandS.TupAny
import HandS.Deep
import HandS.Zip
import HandS.NoneIn
import HandS.Codes
import HandS.Exc
import HandS.Lambda
import HandS.Nested
import HandS.SortKw
import HandS.Iter
import KE.DataMinKey
import HandS.EndTab
import KE.KNestM
import HandS.WideBits
import HandS.TupLe
import HandS.Style
import KE.DataAny
import KE.GoesEnum
import KE.DataFind
import HandS.TupMul
import HandS.Rev
import HandS.More
import HandS.Words
import PySem.Challenge.RW_roomhalves_k09_the_room_for_a_wish
set_option autoImplicit false
set_option linter.all false
set_option Elab.async false
set_option maxRecDepth 100000
set_option maxHeartbeats 0
namespace MP
open PySem (Str PyData)

/-- the longest list that is let -/
def SZ : Nat := 16777216

inductive Val where
  | non | bl (b : Bool) | int (i : Int) | str (s : Str)
  | tup (l : List Val) | lst (l : List Val) | scr (l : List Val) | dct (ks vs : List Val)
  | loc (n : Nat) | fn (n : Nat) | ty (s : String)
  deriving Inhabited

mutual
def Val.beq : Val → Val → Bool
  | .non, .non => true
  | .bl a, .bl b => a == b
  | .int a, .int b => a == b
  | .str a, .str b => decide (a = b)
  | .tup a, .tup b => Val.beqL a b
  | .lst a, .lst b => Val.beqL a b
  | .scr a, .scr b => Val.beqL a b
  | .dct a c, .dct b d => Val.beqL a b && Val.beqL c d
  | .loc a, .loc b => a == b
  | .fn a, .fn b => a == b
  | .ty a, .ty b => a == b
  | _, _ => false
def Val.beqL : List Val → List Val → Bool
  | [], [] => true
  | x :: xs, y :: ys => Val.beq x y && Val.beqL xs ys
  | _, _ => false
end
mutual
theorem Val.beq_eq : ∀ a b : Val, Val.beq a b = true → a = b
  | .non, b => by cases b <;> simp [Val.beq]
  | .bl _, b => by cases b <;> simp [Val.beq]
  | .int _, b => by cases b <;> simp [Val.beq]
  | .str _, b => by cases b <;> simp [Val.beq]
  | .tup l, b => by
    cases b with
    | tup m => intro h; rw [Val.beqL_eq l m (by simpa [Val.beq] using h)]
    | _ => simp [Val.beq]
  | .lst l, b => by
    cases b with
    | lst m => intro h; rw [Val.beqL_eq l m (by simpa [Val.beq] using h)]
    | _ => simp [Val.beq]
  | .scr l, b => by
    cases b with
    | scr m => intro h; rw [Val.beqL_eq l m (by simpa [Val.beq] using h)]
    | _ => simp [Val.beq]
  | .dct k v, b => by
    cases b with
    | dct k' v' =>
      intro h
      simp only [Val.beq, Bool.and_eq_true] at h
      rw [Val.beqL_eq k k' h.1, Val.beqL_eq v v' h.2]
    | _ => simp [Val.beq]
  | .loc _, b => by cases b <;> simp [Val.beq]
  | .fn _, b => by cases b <;> simp [Val.beq]
  | .ty _, b => by cases b <;> simp [Val.beq]
theorem Val.beqL_eq : ∀ a b : List Val, Val.beqL a b = true → a = b
  | [], b => by cases b <;> simp [Val.beqL]
  | x :: xs, b => by
    cases b with
    | nil => simp [Val.beqL]
    | cons y ys =>
      intro h
      simp only [Val.beqL, Bool.and_eq_true] at h
      rw [Val.beq_eq x y h.1, Val.beqL_eq xs ys h.2]
end
mutual
theorem Val.beq_rfl : ∀ a : Val, Val.beq a a = true
  | .non => by simp [Val.beq]
  | .bl _ => by simp [Val.beq]
  | .int _ => by simp [Val.beq]
  | .str _ => by simp [Val.beq]
  | .tup l => by simp [Val.beq, Val.beqL_rfl l]
  | .lst l => by simp [Val.beq, Val.beqL_rfl l]
  | .scr l => by simp [Val.beq, Val.beqL_rfl l]
  | .dct k v => by simp [Val.beq, Val.beqL_rfl k, Val.beqL_rfl v]
  | .loc _ => by simp [Val.beq]
  | .fn _ => by simp [Val.beq]
  | .ty _ => by simp [Val.beq]
theorem Val.beqL_rfl : ∀ a : List Val, Val.beqL a a = true
  | [] => by simp [Val.beqL]
  | x :: xs => by simp [Val.beqL, Val.beq_rfl x, Val.beqL_rfl xs]
end
instance : DecidableEq Val := fun a b =>
  match h : Val.beq a b with
  | true => .isTrue (Val.beq_eq a b h)
  | false => .isFalse fun e => by rw [e, Val.beq_rfl] at h; cases h

mutual
/-- no local object within -/
def Val.noLoc : Val → Bool
  | .tup l => noLocL l
  | .lst l => noLocL l
  | .scr l => noLocL l
  | .dct k v => noLocL k && noLocL v
  | .loc _ => false
  | _ => true
def noLocL : List Val → Bool
  | [] => true
  | x :: xs => x.noLoc && noLocL xs
end
mutual
/-- no list and no dict within -/
def Val.noLst : Val → Bool
  | .tup l => noLstL l
  | .lst _ => false
  | .scr _ => false
  | .dct _ _ => false
  | .loc _ => false
  | _ => true
def noLstL : List Val → Bool
  | [] => true
  | x :: xs => x.noLst && noLstL xs
end
mutual
/-- == of Python, over data -/
def Val.eqv : Val → Val → Bool
  | .non, .non => true
  | .bl a, .bl b => a == b
  | .bl a, .int j => (if a then 1 else 0) == j
  | .int i, .bl b => i == (if b then 1 else 0)
  | .int i, .int j => i == j
  | .str x, .str y => x == y
  | .lst xs, .lst ys => eqvL xs ys
  | .tup xs, .tup ys => eqvL xs ys
  | _, _ => false
def eqvL : List Val → List Val → Bool
  | [], [] => true
  | x :: xs, y :: ys => Val.eqv x y && eqvL xs ys
  | _, _ => false
end
mutual
/-- data that == is known of: depth at most n -/
def Val.okD : Nat → Val → Bool
  | 0, .tup _ => false
  | 0, .lst _ => false
  | n + 1, .tup l => okDL n l
  | n + 1, .lst l => okDL n l
  | _, .str s => s.cps.all (· < 0x110000)
  | _, .non => true
  | _, .bl _ => true
  | _, .int _ => true
  | _, _ => false
def okDL : Nat → List Val → Bool
  | _, [] => true
  | n, x :: xs => x.okD n && okDL n xs
end

mutual
/-- a value as the library's data -/
def pd : Val → PyData
  | .non => .none
  | .bl b => .bool b
  | .int i => .int i
  | .str s => .str s
  | .tup l => .tuple (pdL l)
  | .lst l => .list (pdL l)
  | _ => .none
def pdL : List Val → List PyData
  | [] => []
  | x :: r => pd x :: pdL r
end

inductive LObj where
  | list (l : List Val)
  | dict (ks vs : List Val)
  deriving DecidableEq

abbrev Heap := List LObj
abbrev Env := List (Option Val)

inductive BK where
  | add | sub | mul | fdiv | mod | pow | shl | shr | band | bor | bxor
  deriving DecidableEq
inductive CK where
  | eq | ne | lt | le | gt | ge | isn | isnn | mem | nmem | ist | isnt
  deriving DecidableEq
/-- built-ins of one value, of two -/
inductive B1 where
  | len | int | bool | str | sum | any | all | tuple | max | min | abs
  deriving DecidableEq
inductive B2 where
  | max | min | divmod
  deriving DecidableEq

def small (i : Int) : Bool := decide (-(2 ^ 64) < i) && decide (i < 2 ^ 64)
def binI : BK → Int → Int → Option Int
  | .add, i, j => some (i + j)
  | .sub, i, j => some (i - j)
  | .mul, i, j => if small i || small j then some (i * j) else none
  | .fdiv, i, j => if decide (0 < j) && decide (j < 1073741824) then some (i / j) else none
  | .mod, i, j => if 0 < j then some (i % j) else none
  | .pow, i, j => if decide (0 ≤ j) && decide (j ≤ 1000000) && decide (i.natAbs < 2 ^ 64) then some (i ^ j.toNat) else none
  | .shl, i, j => if decide (0 ≤ j) && decide (j ≤ 1000000) && decide (i.natAbs < 2 ^ 64) then some (i * 2 ^ j.toNat) else none
  | .shr, i, j => if 0 ≤ j then some (i / 2 ^ j.toNat) else none
  | .band, i, j => if decide (0 ≤ i) && decide (0 ≤ j) then some ((i.toNat &&& j.toNat : Nat) : Int) else none
  | .bor, i, j => if decide (0 ≤ i) && decide (0 ≤ j) then some ((i.toNat ||| j.toNat : Nat) : Int) else none
  | .bxor, i, j => if decide (0 ≤ i) && decide (0 ≤ j) then some ((i.toNat ^^^ j.toNat : Nat) : Int) else none
def binV : BK → Val → Val → Option Val
  | k, .int i, .int j => (binI k i j).map .int
  | .add, .tup xs, .tup ys => if xs.length + ys.length ≤ SZ then some (.tup (xs ++ ys)) else none
  | .add, .str x, .str y => if x.length + y.length ≤ SZ then some (.str (x ++ y)) else none
  | _, _, _ => none

/-- a list or a tuple by its items -/
def seqV (h : Heap) : Val → Option (List Val)
  | .tup l => some l
  | .lst l => some l
  | .scr l => some l
  | .loc n => match h[n]? with
    | some (.list l) => some l
    | _ => none
  | _ => none
def lstV (h : Heap) : Val → Option (List Val)
  | .lst l => some l
  | .loc n => match h[n]? with
    | some (.list l) => some l
    | _ => none
  | _ => none
def scrV (h : Heap) : Val → Option (List Val)
  | .scr l => some l
  | v => lstV h v
/-- local lists as they stand -/
def res (h : Heap) : Val → Option Val
  | .loc n => match h[n]? with
    | some (.list l) => if noLocL l then some (.lst l) else none
    | _ => none
  | v => if v.noLoc then some v else none

def scalar : Val → Bool
  | .non => true
  | .int _ => true
  | .bl _ => true
  | .str _ => true
  | _ => false
/-- == of values: scalars of any kinds, else data -/
def eqV (h : Heap) (a b : Val) : Option Bool :=
  match res h a, res h b with
  | some x, some y => match x, y with
    | .int i, .int j => some (decide (i = j))
    | .str i, .str j => some (decide (i = j))
    | .bl i, .bl j => some (i == j)
    | x, y => if x.okD 60 && y.okD 60 then some (x.eqv y) else none
  | _, _ => none
def intsOf : List Val → Option (List Int)
  | [] => some []
  | .int i :: r => (intsOf r).map (i :: ·)
  | _ :: _ => none
def boolsOf : List Val → Option (List Bool)
  | [] => some []
  | .bl i :: r => (boolsOf r).map (i :: ·)
  | _ :: _ => none
def lexLt : List Int → List Int → Bool
  | [], [] => false
  | [], _ :: _ => true
  | _ :: _, [] => false
  | x :: xs, y :: ys => if x = y then lexLt xs ys else decide (x < y)
def lexLe (a b : List Int) : Bool := !lexLt b a
def memV (h : Heap) (x c : Val) : Option Bool :=
  match seqV h c, res h x with
  | some l, some x => match l, x with
    | l, x => if scalar x && l.all scalar then some (l.any fun y => y.eqv x)
      else if (lstV h c).isSome && (Val.lst l).okD 60 && x.okD 60 then some (l.any fun y => y.eqv x) else none
  | _, _ => none
def cmpV (h : Heap) : CK → Val → Val → Option Bool
  | .eq, a, b => eqV h a b
  | .ne, a, b => (eqV h a b).map (!·)
  | .lt, .int i, .int j => some (decide (i < j))
  | .le, .int i, .int j => some (decide (i ≤ j))
  | .gt, .int i, .int j => some (decide (j < i))
  | .ge, .int i, .int j => some (decide (j ≤ i))
  | .lt, .tup a, .tup b => match intsOf a, intsOf b with
    | some x, some y => some (lexLt x y)
    | _, _ => none
  | .le, .tup a, .tup b => match intsOf a, intsOf b with
    | some x, some y => some (lexLe x y)
    | _, _ => none
  | .isn, a, .non => match a with
    | .non => some true
    | _ => some false
  | .isnn, a, .non => match a with
    | .non => some false
    | _ => some true
  | .ist, .bl a, .bl true => some a
  | .isnt, .bl a, .bl true => some (!a)
  | .mem, x, c => memV h x c
  | .nmem, x, c => (memV h x c).map (!·)
  | _, _, _ => none
def truV (h : Heap) : Val → Option Bool
  | .bl b => some b
  | .non => some false
  | .int i => some (i != 0)
  | v => (seqV h v).map (!·.isEmpty)

def ixN (n : Nat) (i : Int) : Option Nat :=
  if 0 ≤ i then (if i < n then some i.toNat else none) else if -(n : Int) ≤ i then some (i + n).toNat else none
def atI {α : Type} (l : List α) (i : Int) : Option α := (ixN l.length i).bind (l[·]?)
def idxV (h : Heap) (a i : Val) : Option Val :=
  match i with
  | .int i => (seqV h a).bind (atI · i)
  | _ => none
/-- the place that a slice's end comes to -/
def sIx (n d : Nat) : Option Int → Nat
  | none => d
  | some i => if 0 ≤ i then min i.toNat n else (i + n).toNat
def cut (l : List Val) (lo hi : Option Int) : List Val :=
  let a := sIx l.length 0 lo
  (l.drop a).take (sIx l.length l.length hi - a)
def anyI (l : List Val) : Option Val := (intsOf l).map fun m => .bl (m.any fun i => i != 0)
/-- any of truths, of ints -/
def anyL (l : List Val) : Option Val := ((boolsOf l).map fun m => Val.bl (m.any id)).or (anyI l)
def anyV (h : Heap) : Val → Option Val
  | .tup l => anyI l
  | v => (lstV h v).bind anyL
def b1V (h : Heap) : B1 → Val → Option Val
  | .len, v => (seqV h v).map fun l => .int l.length
  | .int, .int i => some (.int i)
  | .int, .bl b => some (.int (if b then 1 else 0))
  | .bool, .bl b => some (.bl b)
  | .str, .int i => if i.natAbs.log2 < 1920 then some (.str (Str.ofString (toString i))) else none
  | .sum, v => ((lstV h v).bind intsOf).map fun l => .int l.sum
  | .any, v => anyV h v
  | .all, v => ((lstV h v).bind boolsOf).map fun l => .bl (l.all id)
  | .tuple, .tup l => some (.tup l)
  | .tuple, v => (lstV h v).map .tup
  | .max, v => ((lstV h v).bind intsOf).bind fun l => l.max?.map .int
  | .min, v => ((lstV h v).bind intsOf).bind fun l => l.min?.map .int
  | .abs, .int i => some (.int (if i < 0 then -i else i))
  | _, _ => none
def b2V : B2 → Val → Val → Option Val
  | .max, .int i, .int j => some (.int (if j > i then j else i))
  | .min, .int i, .int j => some (.int (if j < i then j else i))
  | .divmod, .int i, .int j => if decide (0 < j) && decide (j < 1073741824) then some (.tup [.int (i / j), .int (i % j)]) else none
  | _, _, _ => none
/-- isinstance of a value of a built-in class -/
def tyOf (h : Heap) : Val → Option String
  | .non => some "NoneType"
  | .bl _ => some "bool"
  | .int _ => some "int"
  | .str _ => some "str"
  | .tup _ => some "tuple"
  | .lst _ => some "list"
  | .scr _ => some "list"
  | .dct _ _ => some "dict"
  | .loc n => match h[n]? with
    | some (.list _) => some "list"
    | some (.dict _ _) => some "dict"
    | none => none
  | _ => none
def isiT (t : String) : String → Option Bool
  | "int" => some (t == "int" || t == "bool")
  | "bool" => some (t == "bool")
  | "tuple" => some (t == "tuple")
  | "str" => some (t == "str")
  | "list" => some (t == "list")
  | "dict" => some (t == "dict")
  | _ => none

inductive Tg where
  | n (i : Nat) | t (l : Tg) | nil | cons (a r : Tg)
/-- a part of a key: an item of a tuple, or 0 less it -/
inductive KP where
  | at_ (i : Nat) | neg (i : Nat)
  deriving DecidableEq
inductive IE where
  | no | d0
  | k (v : Val) | var (i : Nat) | g (n : Nat)
  | bin (o : BK) (a b : IE) | neg (a : IE)
  | cmp (o : CK) (a b : IE) | cmp2 (o p : CK) (a b c : IE)
  | and (a b : IE) | or (a b : IE) | not (a : IE) | ite (c a b : IE)
  | tr (e : IE) | part (e : IE)
  | tup (es : IE) | anil | acons (e r : IE)
  | idx (a i : IE) | slc (a lo hi : IE)
  | call (f : Nat) (io : List Bool) (es : IE)
  | callk (f : Nat) (io : List Bool) (n m : Nat) (es ks : IE) (ar : List Nat) (ds : List Val)
  | b1 (b : B1) (a : IE) | b2 (b : B2) (a c : IE) | isi (a : IE) (t : String)
  | pop (o : IE)
  | inl (f : IE) | mk (f : IE)
  | fdisp (es : IE) | fcomp (own : List Nat) (tg : Tg) (it cs e : IE) | fcat (a b : IE) | frep (a b : IE) | fslc (a lo hi : IE) | flist (a : IE) | fsort (a : IE)
  | rng1 (a : IE) | rng2 (a b : IE) | rng3 (a b c : IE) | enum (a : IE) | zip (a b : IE) | seq (a : IE) | rev (a : IE)
  | trep (a b : IE) | trev (a : IE)
  | mink (ks : List KP) (a : IE) | mind (a : IE)
inductive IS where
  | nil | cons (s r : IS)
  | pass | bad
  | set (i : Nat) (e : IE) | setT (tg : Tg) (e : IE)
  | par (is : List Nat) (es : IE)
  | aug (i : Nat) (o : BK) (e : IE)
  | expr (e : IE) | ret (e : IE) | retN
  | ite (c : IE) (a b : IS)
  | for_ (tg : Tg) (it : IE) (b : IS)
  | while_ (n : Nat) (c : IE) (b : IS)
  | app (o e : IE) | ext (o e : IE)
  | setI (o i e : IE)
  | setS (o lo hi e : IE)
  | ins (o i e : IE)
  | rem (o e : IE)
  | brk | cont
  | raise (c : Nat) (e : IE)

/-- an exception: its class's number, what it bears -/
structure Exc where
  cls : Nat
  fld : Val
inductive Res (α : Type) where
  | bad | ok (a : α) (h : Heap) | exc (e : Exc) (h : Heap)
abbrev M (α : Type) := Heap → Res α
def M.bind {α β : Type} (x : M α) (f : α → M β) : M β := fun h => match x h with
  | .ok a h1 => f a h1
  | .exc e h1 => .exc e h1
  | .bad => .bad
def M.pure {α : Type} (a : α) : M α := fun h => .ok a h
instance : Monad M where
  pure := M.pure
  bind := M.bind
def fail {α : Type} : M α := fun _ => .bad
def lift {α : Type} (o : Option α) : M α := fun h => match o with
  | some a => .ok a h
  | none => .bad
def liftH {α : Type} (f : Heap → Option α) : M α := fun h => match f h with
  | some a => .ok a h
  | none => .bad
theorem bind_app {α β : Type} (x : M α) (f : α → M β) (h : Heap) : (x >>= f) h = (match x h with
  | .ok a h1 => f a h1
  | .exc e h1 => .exc e h1
  | .bad => .bad) := rfl
theorem pure_app {α : Type} (a : α) (h : Heap) : (Pure.pure a : M α) h = .ok a h := rfl
theorem fail_app {α : Type} (h : Heap) : (fail : M α) h = .bad := rfl
theorem lift_app {α : Type} (o : Option α) (h : Heap) : lift o h = (match o with
  | some a => .ok a h
  | none => .bad) := rfl
theorem liftH_app {α : Type} (f : Heap → Option α) (h : Heap) : liftH f h = (match f h with
  | some a => .ok a h
  | none => .bad) := rfl

def wipe (own : List Nat) (env : Env) : Env := own.foldr (fun i e => e.set i none) env
mutual
def bindT : Tg → Val → Env → Option Env
  | .n i, v, env => some (env.set i (some v))
  | .t l, .tup vs, env => bindTs l vs env
  | .t l, .lst vs, env => bindTs l vs env
  | _, _, _ => none
def bindTs : Tg → List Val → Env → Option Env
  | .nil, [], env => some env
  | .cons a r, v :: vs, env => (bindT a v env).bind (bindTs r vs)
  | _, _, _ => none
end
/-- a new local list -/
def alloc (l : List Val) : M Val := fun h => .ok (.loc h.length) (h ++ [.list l])
def arrange (vals : List Val) : List Nat → Option (List Val)
  | [] => some []
  | i :: r => (vals[i]?).bind fun v => (arrange vals r).map (v :: ·)
def argsK (n m : Nat) (ar : List Nat) (ds vs ws : List Val) : Option (List Val) := if vs.length = n ∧ ws.length = m then arrange (vs ++ ws ++ ds) ar else none
/-- the arguments as a callee gets them: changed ones by what they hold, others as they stand -/
def handOn (h : Heap) : List Bool → List Val → Option (List Val)
  | _, [] => some []
  | true :: bs, .loc n :: r => match h[n]? with
    | some (.list l) => if noLocL l then (handOn h bs r).map (.lst l :: ·) else none
    | _ => none
  | true :: _, _ :: _ => none
  | false :: bs, v :: r => (res h v).bind fun x => (handOn h bs r).map (x :: ·)
  | [], v :: r => (res h v).bind fun x => (handOn h [] r).map (x :: ·)
/-- places of the changed ones -/
def ioAt : List Bool → List Val → List Nat
  | true :: bs, .loc n :: r => n :: ioAt bs r
  | _ :: bs, _ :: r => ioAt bs r
  | _, _ => []
/-- places of the other local ones -/
def roAt : List Bool → List Val → List Nat
  | true :: bs, _ :: r => roAt bs r
  | _ :: bs, .loc n :: r => n :: roAt bs r
  | [], .loc n :: r => n :: roAt [] r
  | _ :: bs, _ :: r => roAt bs r
  | [], _ :: r => roAt [] r
  | _, [] => []
def putBack : List Nat → List (List Val) → Heap → Option Heap
  | [], [], h => some h
  | n :: ns, l :: ls, h => putBack ns ls (h.set n (.list l))
  | _, _, _ => none
def distinct : List Nat → Bool
  | [] => true
  | n :: r => !r.contains n && distinct r

/-- what a def gives: its value (a list of its own is told), what the changed arguments hold then -/
structure Out where
  v : Val
  own : Bool
  outs : List (List Val)
inductive Ret where
  | bad | ret (o : Out) | exc (e : Exc) (outs : List (List Val))
/-- no list within what is handed back, but itself -/
def noLstOut (o : Out) : Bool := match o.own, o.v with
  | true, .lst l => noLstL l
  | _, v => v.noLst
abbrev CB := Nat → List Val → Ret
/-- a call: the value, and whether it is a list of the callee's own -/
def doCall (cb : CB) (f : Nat) (io : List Bool) (vs : List Val) : M (Val × Bool) := fun h =>
  match handOn h io vs with
  | none => .bad
  | some xs =>
    if distinct (ioAt io vs) && (ioAt io vs).all (fun n => !(roAt io vs).contains n) then
      match cb f xs with
      | .bad => .bad
      | .ret o => if (roAt io vs).isEmpty || (noLstOut o && o.outs.all noLstL) then
          match putBack (ioAt io vs) o.outs h with
          | none => .bad
          | some h1 => .ok (o.v, o.own) h1
        else .bad
      | .exc _ _ => .bad
    else .bad
def rngItems (lo : Int) (c : Int) (n : Nat) : List Val := (List.range n).map fun (i : Nat) => .int (lo + (i : Int) * c)
def inR (i : Int) : Bool := decide (-(2 ^ 62) ≤ i) && decide (i < 2 ^ 62)
/-- how many turns range(a, b, c) takes -/
def rngN (a b c : Int) : Nat := if a < b then ((b - a - 1) / c + 1).toNat else 0
def enumItems : Nat → List Val → List Val
  | _, [] => []
  | n, x :: r => .tup [.int n, x] :: enumItems (n + 1) r
def zipItems : List Val → List Val → List Val
  | x :: xs, y :: ys => .tup [x, y] :: zipItems xs ys
  | _, _ => []
/-- items, and the local lists that are walked (they must stay) -/
structure Items where
  l : List Val
  lock : List Nat
def locksOf : Val → List Nat
  | .loc n => [n]
  | _ => []
def stays (lock : List Nat) (h0 h : Heap) : Bool := lock.all fun n => decide (h[n]? = h0[n]?)
def consO : Option Val → List Val → List Val
  | some v, ys => v :: ys
  | none, ys => ys
/-- a comprehension's turns: nothing may be raised there -/
def compL (f : Val → M (Option Val)) (lock : List Nat) (h0 : Heap) : List Val → M (List Val)
  | [], h => .ok [] h
  | x :: r, h => match f x h with
    | .ok y h1 => if stays lock h0 h1 then match compL f lock h0 r h1 with
        | .ok ys h2 => .ok (consO y ys) h2
        | _ => .bad
      else .bad
    | _ => .bad
def getH : M Heap := fun h => .ok h h
def setH (h : Heap) : M Unit := fun _ => .ok () h
def popL (v : Val) : M Val := fun h => match v with
  | .loc n => match h[n]? with
    | some (.list l) => match l.getLast? with
      | some v => .ok v (h.set n (.list l.dropLast))
      | none => .bad
    | _ => .bad
  | _ => .bad
def negV : Val → Option Val
  | .int i => some (.int (-i))
  | _ => none
def boolV : Val → Option Bool
  | .bl b => some b
  | _ => none
def intV : Val → Option Int
  | .int i => some i
  | _ => none
def tupV : Val → Option (List Val)
  | .tup l => some l
  | _ => none
def repV (l : List Val) : Val → Option (List Val)
  | .int n => if decide (-(2 ^ 63) ≤ n) && decide (n < 2 ^ 63) && decide (l.length * n.toNat ≤ SZ) then some (List.replicate n.toNat l).flatten else none
  | _ => none
/-- a tuple times an int -/
def trepV : Val → Val → Option Val
  | .tup l, .int k => if decide (l ≠ []) && decide (1 ≤ k) && decide (k ≤ 1000) && decide (l.length ≤ 1000) then some (.tup (List.replicate k.toNat l).flatten) else none
  | _, _ => none
/-- can be sorted: alike data, no None; tuples that aren't empty, or no tuples -/
def sortable (l : List Val) : Bool := okDL 60 l && (l.all fun a => l.all fun b => PySem.W.alike (pd a) (pd b)) && ((l.all fun a => match a with
    | .tup (_ :: _) => true
    | _ => false) || l.all fun a => match a with
    | .tup _ => false
    | .non => false
    | _ => true) && decide (l.length ≤ SZ)
def sortV (l : List Val) : Option (List Val) := if sortable l then some (l.mergeSort (PySem.W.dataLe false pd)) else none
/-- the first of the least ones -/
def minV (l : List Val) : Option Val := match l with
  | [] => none
  | x :: r => if sortable (x :: r) then some (r.foldl (fun a y => if PySem.W.dataLe false pd a y then a else y) x) else none
def KP.get (l : List Val) : KP → Option Int
  | .at_ i => match l[i]? with
    | some (.int z) => some z
    | _ => none
  | .neg i => match l[i]? with
    | some (.int z) => some (0 - z)
    | _ => none
def keyOf : List KP → List Val → Option (List Int)
  | [], _ => some []
  | k :: r, l => match k.get l, keyOf r l with
    | some z, some zs => some (z :: zs)
    | _, _ => none
def keyed (ks : List KP) : List Val → Option (List (List Int × Val))
  | [] => some []
  | .tup l :: r => match keyOf ks l, keyed ks r with
    | some z, some zs => some ((z, .tup l) :: zs)
    | _, _ => none
  | _ :: _ => none
/-- the first one with the least key, None of none -/
def leastK : List (List Int × Val) → Val
  | [] => .non
  | p :: r => (r.foldl (fun a y => if lexLt y.1 a.1 then y else a) p).2
def minK (ks : List KP) (l : List Val) : Option Val := (keyed ks l).map leastK
def ownL : Val × Bool → Option (List Val)
  | (.lst l, true) => some l
  | _ => none
def few (l : List Val) : Option (List Val) := if l.length ≤ SZ then some l else none
def catL (l r : List Val) : Option (List Val) := if l.length + r.length ≤ SZ then some (l ++ r) else none
/-- two lists, or two tuples -/
def pairL (h : Heap) : Val → Val → Option (List Val × List Val)
  | .tup a, .tup b => some (a, b)
  | x, y => match scrV h x, scrV h y with
    | some a, some b => some (a, b)
    | _, _ => none
def rngI1 : Val → Option Items
  | .int n => if inR n then some ⟨rngItems 0 1 n.toNat, []⟩ else none
  | _ => none
def rngI2 : Val → Val → Option Items
  | .int i, .int j => if inR i && inR j then some ⟨rngItems i 1 (j - i).toNat, []⟩ else none
  | _, _ => none
def rngI3 : Val → Val → Val → Option Items
  | .int i, .int j, .int k => if inR i && inR j && decide (k < 1073741824) && decide (0 < k) then some ⟨rngItems i k (rngN i j k), []⟩ else none
  | _, _, _ => none

mutual
def evalE (T : List Val) (cb : CB) (env : Env) : IE → M Val
  | .k v => pure v
  | .d0 => pure (.dct [] [])
  | .var i => lift (env[i]?.bind id)
  | .g n => lift T[n]?
  | .bin o a b => do let x ← evalE T cb env a; let y ← evalE T cb env b; lift (binV o x y)
  | .neg a => do let x ← evalE T cb env a; lift (negV x)
  | .cmp o a b => do let x ← evalE T cb env a; let y ← evalE T cb env b; let r ← liftH fun h => cmpV h o x y; pure (.bl r)
  | .cmp2 o p a b c => do
    let x ← evalE T cb env a
    let y ← evalE T cb env b
    let r ← liftH fun h => cmpV h o x y
    if r then do let z ← evalE T cb env c; let q ← liftH fun h => cmpV h p y z; pure (.bl q) else pure (.bl false)
  | .and a b => do let x ← evalE T cb env a; let t ← lift (boolV x); if t then evalE T cb env b else pure (.bl false)
  | .or a b => do let x ← evalE T cb env a; let t ← lift (boolV x); if t then pure (.bl true) else evalE T cb env b
  | .not a => do let x ← evalE T cb env a; let t ← lift (boolV x); pure (.bl (!t))
  | .ite c a b => do let t ← evalT T cb env c; if t then evalE T cb env a else evalE T cb env b
  | .tup es => do let l ← evalA T cb env es; let l ← lift (few l); pure (.tup l)
  | .idx a i => do let x ← evalE T cb env a; let y ← evalE T cb env i; liftH fun h => idxV h x y
  | .slc a lo hi => do
    let x ← evalE T cb env a
    let l ← evalO T cb env lo
    let r ← evalO T cb env hi
    let vs ← lift (tupV x)
    pure (.tup (cut vs l r))
  | .call f io es => do let vs ← evalA T cb env es; let r ← doCall cb f io vs; pure r.1
  | .callk f io n m es ks ar ds => do
    let vs ← evalA T cb env es
    let ws ← evalA T cb env ks
    let xs ← lift (argsK n m ar ds vs ws)
    let r ← doCall cb f io xs
    pure r.1
  | .b1 b a => do let x ← evalE T cb env a; liftH fun h => b1V h b x
  | .b2 b a c => do let x ← evalE T cb env a; let y ← evalE T cb env c; lift (b2V b x y)
  | .isi a t => do let x ← evalE T cb env a; let s ← liftH fun h => tyOf h x; let b ← lift (isiT s t); pure (.bl b)
  | .pop o => do let x ← evalE T cb env o; popL x
  | .trep a b => do let x ← evalE T cb env a; let y ← evalE T cb env b; lift (trepV x y)
  | .trev a => do let x ← evalE T cb env a; let l ← lift (tupV x); pure (.tup l.reverse)
  | .mink ks a => do let x ← evalE T cb env a; let l ← liftH fun h => lstV h x; lift (minK ks l)
  | .mind a => do let x ← evalE T cb env a; let l ← liftH fun h => lstV h x; lift (minV l)
  | .inl f => do let l ← evalF T cb env f; pure (.lst l)
  | .mk f => do let l ← evalF T cb env f; alloc l
  | _ => fail
/-- as a test -/
def evalT (T : List Val) (cb : CB) (env : Env) : IE → M Bool
  | .and a b => do let x ← evalT T cb env a; if x then evalT T cb env b else pure false
  | .or a b => do let x ← evalT T cb env a; if x then pure true else evalT T cb env b
  | .not a => do let x ← evalT T cb env a; pure (!x)
  | .cmp o a b => do let x ← evalE T cb env a; let y ← evalE T cb env b; liftH fun h => cmpV h o x y
  | .cmp2 o p a b c => do
    let x ← evalE T cb env a
    let y ← evalE T cb env b
    let r ← liftH fun h => cmpV h o x y
    if r then do let z ← evalE T cb env c; liftH fun h => cmpV h p y z else pure false
  | .tr e => do let x ← evalE T cb env e; liftH fun h => truV h x
  | _ => fail
/-- arguments, from the left -/
def evalA (T : List Val) (cb : CB) (env : Env) : IE → M (List Val)
  | .anil => pure []
  | .acons e r => do let x ← evalE T cb env e; let xs ← evalA T cb env r; pure (x :: xs)
  | _ => fail
/-- an optional part of a slice -/
def evalO (T : List Val) (cb : CB) (env : Env) : IE → M (Option Int)
  | .no => pure none
  | .part e => do let x ← evalE T cb env e; let i ← lift (intV x); pure (some i)
  | _ => fail
/-- a list that is new -/
def evalF (T : List Val) (cb : CB) (env : Env) : IE → M (List Val)
  | .fdisp es => do let l ← evalA T cb env es; lift (few l)
  | .fcat a b => do
    let x ← evalE T cb env a
    let y ← evalE T cb env b
    let l ← liftH fun h => lstV h x
    let r ← liftH fun h => lstV h y
    lift (catL l r)
  | .frep a b => do
    let x ← evalE T cb env a
    let y ← evalE T cb env b
    let l ← liftH fun h => lstV h x
    lift (repV l y)
  | .fslc a lo hi => do
    let x ← evalE T cb env a
    let l ← evalO T cb env lo
    let r ← evalO T cb env hi
    let vs ← liftH fun h => scrV h x
    pure (cut vs l r)
  | .flist a => do let x ← evalE T cb env a; liftH fun h => seqV h x
  | .fsort a => do let x ← evalE T cb env a; let l ← liftH fun h => lstV h x; lift (sortV l)
  | .call f io es => do let vs ← evalA T cb env es; let r ← doCall cb f io vs; lift (ownL r)
  | .fcomp own tg it cs e => do
    let its ← evalI T cb env it
    let _ ← lift (few its.l)
    let h0 ← getH
    compL (fun x => do
        let env1 ← lift (bindT tg x (wipe own env))
        let t ← evalC T cb env1 cs
        if t then do let v ← evalE T cb env1 e; pure (some v) else pure none) its.lock h0 its.l
  | _ => fail
/-- tests of a comprehension -/
def evalC (T : List Val) (cb : CB) (env : Env) : IE → M Bool
  | .anil => pure true
  | .acons c _ => evalT T cb env c
  | _ => fail
/-- what is walked -/
def evalI (T : List Val) (cb : CB) (env : Env) : IE → M Items
  | .rng1 a => do let x ← evalE T cb env a; lift (rngI1 x)
  | .rng2 a b => do let x ← evalE T cb env a; let y ← evalE T cb env b; lift (rngI2 x y)
  | .rng3 a b c => do let x ← evalE T cb env a; let y ← evalE T cb env b; let z ← evalE T cb env c; lift (rngI3 x y z)
  | .enum a => do let x ← evalE T cb env a; let l ← liftH fun h => seqV h x; pure ⟨enumItems 0 l, locksOf x⟩
  | .zip a b => do
    let x ← evalE T cb env a
    let y ← evalE T cb env b
    let p ← liftH fun h => pairL h x y
    pure ⟨zipItems p.1 p.2, locksOf x ++ locksOf y⟩
  | .seq a => do let x ← evalE T cb env a; let l ← liftH fun h => seqV h x; pure ⟨l, locksOf x⟩
  | .rev a => do let x ← evalE T cb env a; let l ← liftH fun h => seqV h x; pure ⟨l.reverse, locksOf x⟩
  | _ => fail
end

/-- how a statement ends -/
inductive Fl where
  | nx (env : Env) | rt (v : Val) | bk (env : Env) | ct (env : Env)
inductive SRes where
  | bad | ok (f : Fl) (h : Heap) | exc (e : Exc) (env : Env) (h : Heap)
abbrev S := Heap → SRes
/-- an expression, then the rest -/
def andThen {α : Type} (env : Env) (m : M α) (k : α → S) : S := fun h => match m h with
  | .ok a h1 => k a h1
  | .exc e h1 => .exc e env h1
  | .bad => .bad
def goOn (env : Env) : S := fun h => .ok (.nx env) h
def endS (f : Fl) : S := fun h => .ok f h
def badS : S := fun _ => .bad
def forL (bd : Env → S) (tg : Tg) (lock : List Nat) (h0 : Heap) : List Val → Env → S
  | [], env, h => .ok (.nx env) h
  | x :: r, env, h => match bindT tg x env with
    | none => .bad
    | some env1 => match bd env1 h with
      | .ok (.nx e) h1 => if stays lock h0 h1 then forL bd tg lock h0 r e h1 else .bad
      | .ok (.ct e) h1 => if stays lock h0 h1 then forL bd tg lock h0 r e h1 else .bad
      | .ok (.bk e) h1 => .ok (.nx e) h1
      | .ok (.rt v) h1 => .ok (.rt v) h1
      | .exc e env2 h1 => .exc e env2 h1
      | .bad => .bad
def whileL (c : Env → M Bool) (bd : Env → S) : Nat → Env → S
  | 0, _, _ => .bad
  | n + 1, env, h => match c env h with
    | .ok true h1 => match bd env h1 with
      | .ok (.nx e) h2 => whileL c bd n e h2
      | .ok (.ct e) h2 => whileL c bd n e h2
      | .ok (.bk e) h2 => .ok (.nx e) h2
      | .ok (.rt v) h2 => .ok (.rt v) h2
      | .exc e env2 h2 => .exc e env2 h2
      | .bad => .bad
    | .ok false h1 => .ok (.nx env) h1
    | .exc e h1 => .exc e env h1
    | .bad => .bad
def setAll : List Nat → List Val → Env → Option Env
  | [], [], env => some env
  | i :: r, v :: vs, env => setAll r vs (env.set i (some v))
  | _, _, _ => none
def augV (o : BK) : Val → Val → Option Val
  | .int a, .int b => (binI o a b).map Val.int
  | _, _ => none
def locV : Val → Option Nat
  | .loc n => some n
  | _ => none
def appL (n : Nat) (v : Val) (h : Heap) : Option Heap := match h[n]? with
  | some (.list l) => if l.length < SZ then some (h.set n (.list (l ++ [v]))) else none
  | _ => none
def extL (n : Nat) (v : Val) (h : Heap) : Option Heap := match h[n]?, lstV h v with
  | some (.list l), some r => if l.length + r.length ≤ SZ then some (h.set n (.list (l ++ r))) else none
  | _, _ => none
def setIL (x j v : Val) (h : Heap) : Option Heap := match x, j with
  | .loc n, .int j => match h[n]? with
    | some (.list l) => match ixN l.length j with
      | some m => some (h.set n (.list (l.set m v)))
      | none => none
    | _ => none
  | _, _ => none
def setSL (x : Val) (a b : Option Int) (v : Val) (h : Heap) : Option Heap := match x, a, b, v with
  | .loc n, some i, some j, .lst r => match h[n]? with
    | some (.list l) =>
      if decide (0 ≤ i) && decide (i ≤ j) && decide (j ≤ l.length) && decide (l.length + r.length ≤ SZ) then some (h.set n (.list (l.take i.toNat ++ r ++ l.drop j.toNat))) else none
    | _ => none
  | _, _, _, _ => none
/-- insert, the place not below 0 -/
def insL (n : Nat) (j v : Val) (h : Heap) : Option Heap := match j with
  | .int i => match h[n]? with
    | some (.list l) => if decide (0 ≤ i) && decide (i < 2 ^ 63) && decide (l.length < SZ) then some (h.set n (.list (l.take i.toNat ++ [v] ++ l.drop i.toNat))) else none
    | _ => none
  | _ => none
/-- the place of the first item that is == v -/
def placeV (l : List Val) (v : Val) : Option Nat := l.findIdx? fun y => y.eqv v
/-- remove, of data, an item that is there -/
def remL (n : Nat) (v : Val) (h : Heap) : Option Heap := match h[n]? with
  | some (.list l) => if okDL 60 l && v.okD 60 && decide (l.length ≤ SZ) then match placeV l v with
    | some j => some (h.set n (.list (l.take j ++ l.drop (j + 1))))
    | none => none
    else none
  | _ => none
def change (env : Env) (o : Option Heap) : SRes := match o with
  | some h => .ok (.nx env) h
  | none => .bad
def evalS (T : List Val) (cb : CB) : IS → Env → S
  | .nil, env => goOn env
  | .cons s r, env => fun h => match evalS T cb s env h with
    | .ok (.nx e) h1 => evalS T cb r e h1
    | x => x
  | .pass, env => goOn env
  | .bad, _ => badS
  | .set i e, env => andThen env (evalE T cb env e) fun v => goOn (env.set i (some v))
  | .setT tg e, env => andThen env (do let v ← evalE T cb env e; lift (bindT tg v env)) fun e1 => goOn e1
  | .par is es, env => andThen env (do let vs ← evalA T cb env es; lift (setAll is vs env)) fun e1 => goOn e1
  | .aug i o e, env => andThen env (do let x ← lift (env[i]?.bind id); let y ← evalE T cb env e; lift (augV o x y)) fun v => goOn (env.set i (some v))
  | .expr e, env => andThen env (evalE T cb env e) fun _ => goOn env
  | .ret e, env => andThen env (evalE T cb env e) fun v => endS (.rt v)
  | .retN, _ => endS (.rt .non)
  | .ite c a b, env => andThen env (evalT T cb env c) fun t => if t then evalS T cb a env else evalS T cb b env
  | .for_ tg it b, env => andThen env (evalI T cb env it) fun its h => forL (fun e => evalS T cb b e) tg its.lock h its.l env h
  | .while_ n c b, env => whileL (fun e => evalT T cb e c) (fun e => evalS T cb b e) n env
  | .app o e, env => andThen env (do let x ← evalE T cb env o; let n ← lift (locV x); let v ← evalE T cb env e; pure (n, v)) fun p h => change env (appL p.1 p.2 h)
  | .ext o e, env => andThen env (do let x ← evalE T cb env o; let n ← lift (locV x); let v ← evalE T cb env e; pure (n, v)) fun p h => change env (extL p.1 p.2 h)
  | .setI o i e, env => andThen env (do let v ← evalE T cb env e; let x ← evalE T cb env o; let j ← evalE T cb env i; pure (v, x, j)) fun p h => change env (setIL p.2.1 p.2.2 p.1 h)
  | .setS o lo hi e, env => andThen env (do let v ← evalE T cb env e; let x ← evalE T cb env o; let a ← evalO T cb env lo; let b ← evalO T cb env hi; pure (v, x, a, b)) fun p h => change env (setSL p.2.1 p.2.2.1 p.2.2.2 p.1 h)
  | .ins o i e, env => andThen env (do let x ← evalE T cb env o; let n ← lift (locV x); let j ← evalE T cb env i; let v ← evalE T cb env e; pure (n, j, v)) fun p h => change env (insL p.1 p.2.1 p.2.2 h)
  | .rem o e, env => andThen env (do let x ← evalE T cb env o; let n ← lift (locV x); let v ← evalE T cb env e; pure (n, v)) fun p h => change env (remL p.1 p.2 h)
  | .brk, env => endS (.bk env)
  | .cont, env => endS (.ct env)
  | .raise c e, env => andThen env (evalE T cb env e) fun v h => .exc ⟨c, v⟩ env h

structure Fn where
  np : Nat
  ns : Nat
  io : List Bool
  body : IS
/-- the parameters' slots: changed ones as local lists -/
def enter : List Bool → List Val → Heap → Option (Env × Heap)
  | _, [], h => some ([], h)
  | true :: bs, .lst l :: r, h => (enter bs r (h ++ [.list l])).map fun p => (some (.loc h.length) :: p.1, p.2)
  | true :: _, _ :: _, _ => none
  | _ :: bs, v :: r, h => (enter bs r h).map fun p => (some v :: p.1, p.2)
  | [], v :: r, h => (enter [] r h).map fun p => (some v :: p.1, p.2)
def takeOuts : Nat → Heap → Option (List (List Val))
  | 0, _ => some []
  | _ + 1, [] => none
  | n + 1, .list l :: r => if noLocL l then (takeOuts n r).map (l :: ·) else none
  | _ + 1, .dict _ _ :: _ => none
/-- what is handed back: a local list by its items, never a changed argument itself -/
def leaveV (m : Nat) (v : Val) (h : Heap) : Option (Val × Bool) := match v with
  | .loc n => if m ≤ n then match h[n]? with
      | some (.list l) => if noLocL l then some (.lst l, true) else none
      | _ => none
    else none
  | v => if v.noLoc then some (v, false) else none
def leave (m : Nat) (v : Val) (h : Heap) : Ret :=
  match takeOuts m h, leaveV m v h with
  | some outs, some p => .ret ⟨p.1, p.2, outs⟩
  | _, _ => .bad
def countIo : List Bool → Nat
  | [] => 0
  | true :: r => countIo r + 1
  | false :: r => countIo r
def callFn (T : List Val) (cb : CB) (fn : Fn) (xs : List Val) : Ret :=
  if xs.length = fn.np then
    match enter fn.io xs [] with
    | none => .bad
    | some (env, h) => match evalS T cb fn.body (env ++ List.replicate (fn.ns - fn.np) none) h with
      | .ok (.rt v) h1 => leave (countIo fn.io) v h1
      | .ok (.nx _) h1 => leave (countIo fn.io) .non h1
      | _ => .bad
  else .bad
structure Prog where
  T : List Val
  fns : List Fn
def run (P : Prog) : Nat → CB
  | 0, _, _ => .bad
  | n + 1, f, xs => match P.fns[f]? with
    | some fn => callFn P.T (run P n) fn xs
    | none => .bad
end MP

namespace MP
open PySem (Str)
section
variable {α β : Type}
/-- what is to come is left alone by simp: the result's type speaks of it -/
def Res.bnd (r : Res α) (k : α → Heap → Res β) : (fun (_ : α → Heap → Res β) => Res β) k := match r with
  | .ok a h => k a h
  | .exc e h => .exc e h
  | .bad => .bad
theorem Res.bnd_congr {r r' : Res α} {k : α → Heap → Res β} (e : r = r') : r.bnd k = r'.bnd k := by rw [e]
@[simp] theorem Res.bnd_ok {a : α} {h : Heap} {k : α → Heap → Res β} : (Res.ok a h).bnd k = k a h := rfl
@[simp] theorem Res.bnd_exc {a : Exc} {h : Heap} {k : α → Heap → Res β} : (Res.exc a h).bnd k = .exc a h := rfl
@[simp] theorem Res.bnd_bad {k : α → Heap → Res β} : (Res.bad).bnd k = .bad := rfl
def Res.cnd (b : Bool) (x y : Res α) : (fun (_ _ : Res α) => Res α) x y := match b with
  | true => x
  | false => y
theorem Res.cnd_congr {b b' : Bool} {x y : Res α} (e : b = b') : Res.cnd b x y = Res.cnd b' x y := by rw [e]
@[simp] theorem Res.cnd_true {x y : Res α} : Res.cnd true x y = x := rfl
@[simp] theorem Res.cnd_false {x y : Res α} : Res.cnd false x y = y := rfl
def Res.ofO (o : Option α) (h : Heap) : Res α := match o with
  | some a => .ok a h
  | none => .bad
@[simp] theorem Res.ofO_some {a : α} {h : Heap} : Res.ofO (some a) h = .ok a h := rfl
@[simp] theorem Res.ofO_none {h : Heap} : Res.ofO (none : Option α) h = .bad := rfl
/-- and: both sides are looked at -/
def Res.andB (r : Bool) (x : Res Val) (h : Heap) : Res Val := match r with
  | true => x
  | false => .ok (.bl false) h
@[simp] theorem Res.andB_true {x : Res Val} {h : Heap} : Res.andB true x h = x := rfl
@[simp] theorem Res.andB_false {x : Res Val} {h : Heap} : Res.andB false x h = .ok (.bl false) h := rfl
@[simp] theorem Res.andB_ok {r s : Bool} {h : Heap} : Res.andB r (.ok (.bl s) h) h = .ok (.bl (r && s)) h := by cases r <;> rfl
def Res.orB (r : Bool) (x : Res Val) (h : Heap) : Res Val := match r with
  | true => .ok (.bl true) h
  | false => x
@[simp] theorem Res.orB_true {x : Res Val} {h : Heap} : Res.orB true x h = .ok (.bl true) h := rfl
@[simp] theorem Res.orB_false {x : Res Val} {h : Heap} : Res.orB false x h = x := rfl
@[simp] theorem Res.orB_ok {r s : Bool} {h : Heap} : Res.orB r (.ok (.bl s) h) h = .ok (.bl (r || s)) h := by cases r <;> rfl
def Res.andT (r : Bool) (x : Res Bool) (h : Heap) : Res Bool := match r with
  | true => x
  | false => .ok false h
@[simp] theorem Res.andT_true {x : Res Bool} {h : Heap} : Res.andT true x h = x := rfl
@[simp] theorem Res.andT_false {x : Res Bool} {h : Heap} : Res.andT false x h = .ok false h := rfl
@[simp] theorem Res.andT_ok {r s : Bool} {h : Heap} : Res.andT r (.ok s h) h = .ok (r && s) h := by cases r <;> rfl
def Res.orT (r : Bool) (x : Res Bool) (h : Heap) : Res Bool := match r with
  | true => .ok true h
  | false => x
@[simp] theorem Res.orT_true {x : Res Bool} {h : Heap} : Res.orT true x h = .ok true h := rfl
@[simp] theorem Res.orT_false {x : Res Bool} {h : Heap} : Res.orT false x h = x := rfl
@[simp] theorem Res.orT_ok {r s : Bool} {h : Heap} : Res.orT r (.ok s h) h = .ok (r || s) h := by cases r <;> rfl
/-- statements -/
def SRes.sq (r : SRes) (k : Env → Heap → SRes) : (fun (_ : Env → Heap → SRes) => SRes) k := match r with
  | .ok (.nx e) h => k e h
  | x => x
theorem SRes.sq_congr {r r' : SRes} {k : Env → Heap → SRes} (e : r = r') : r.sq k = r'.sq k := by rw [e]
@[simp] theorem SRes.sq_nx {e : Env} {h : Heap} {k : Env → Heap → SRes} : (SRes.ok (.nx e) h).sq k = k e h := rfl
@[simp] theorem SRes.sq_rt {v : Val} {h : Heap} {k : Env → Heap → SRes} : (SRes.ok (.rt v) h).sq k = .ok (.rt v) h := rfl
@[simp] theorem SRes.sq_bk {v : Env} {h : Heap} {k : Env → Heap → SRes} : (SRes.ok (.bk v) h).sq k = .ok (.bk v) h := rfl
@[simp] theorem SRes.sq_ct {v : Env} {h : Heap} {k : Env → Heap → SRes} : (SRes.ok (.ct v) h).sq k = .ok (.ct v) h := rfl
@[simp] theorem SRes.sq_exc {x : Exc} {v : Env} {h : Heap} {k : Env → Heap → SRes} : (SRes.exc x v h).sq k = .exc x v h := rfl
@[simp] theorem SRes.sq_bad {k : Env → Heap → SRes} : (SRes.bad).sq k = .bad := rfl
def Res.st (r : Res α) (env : Env) (k : α → Heap → SRes) : (fun (_ : Env) (_ : α → Heap → SRes) => SRes) env k := match r with
  | .ok a h => k a h
  | .exc e h => .exc e env h
  | .bad => .bad
theorem Res.st_congr {r r' : Res α} {env : Env} {k : α → Heap → SRes} (e : r = r') : r.st env k = r'.st env k := by rw [e]
@[simp] theorem Res.st_ok {a : α} {h : Heap} {env : Env} {k : α → Heap → SRes} : (Res.ok a h).st env k = k a h := rfl
@[simp] theorem Res.st_exc {e : Exc} {h : Heap} {env : Env} {k : α → Heap → SRes} : (Res.exc e h).st env k = .exc e env h := rfl
@[simp] theorem Res.st_bad {env : Env} {k : α → Heap → SRes} : (Res.bad).st env k = .bad := rfl
def SRes.cnd (b : Bool) (x y : SRes) : (fun (_ _ : SRes) => SRes) x y := match b with
  | true => x
  | false => y
theorem SRes.cnd_congr {b b' : Bool} {x y : SRes} (e : b = b') : SRes.cnd b x y = SRes.cnd b' x y := by rw [e]
@[simp] theorem SRes.cnd_true {x y : SRes} : SRes.cnd true x y = x := rfl
@[simp] theorem SRes.cnd_false {x y : SRes} : SRes.cnd false x y = y := rfl
def Ret.close (m : Nat) (r : SRes) : Ret := match r with
  | .ok (.rt v) h => leave m v h
  | .ok (.nx _) h => leave m .non h
  | _ => .bad
@[simp] theorem Ret.close_rt {m : Nat} {v : Val} {h : Heap} : Ret.close m (.ok (.rt v) h) = leave m v h := rfl
@[simp] theorem Ret.close_nx {m : Nat} {v : Env} {h : Heap} : Ret.close m (.ok (.nx v) h) = leave m .non h := rfl
/-- a slot -/
def lk : Env → Nat → Option Val
  | [], _ => none
  | a :: _, 0 => a
  | _ :: l, n + 1 => lk l n
theorem lk_eq : ∀ (env : Env) (i : Nat), env[i]?.bind id = lk env i
  | [], _ => rfl
  | a :: _, 0 => by cases a <;> rfl
  | _ :: l, n + 1 => by rw [List.getElem?_cons_succ, lk_eq l n]; rfl
end
section
variable {T : List Val} {cb : CB} {env : Env} {h : Heap} {a b c e es ks lo hi it cs : IE}
theorem E_k {v : Val} : evalE T cb env (.k v) h = .ok v h := rfl
theorem E_d0 : evalE T cb env .d0 h = .ok (.dct [] []) h := rfl
theorem E_var {i : Nat} : evalE T cb env (.var i) h = Res.ofO (lk env i) h := by rw [← lk_eq]; rfl
theorem E_g {i : Nat} : evalE T cb env (.g i) h = Res.ofO T[i]? h := rfl
theorem E_bin {o : BK} : evalE T cb env (.bin o a b) h = (evalE T cb env a h).bnd fun x h1 => (evalE T cb env b h1).bnd fun y h2 => Res.ofO (binV o x y) h2 := rfl
theorem E_neg : evalE T cb env (.neg a) h = (evalE T cb env a h).bnd fun x h1 => Res.ofO (negV x) h1 := rfl
theorem E_cmp {o : CK} : evalE T cb env (.cmp o a b) h = (evalE T cb env a h).bnd fun x h1 => (evalE T cb env b h1).bnd fun y h2 => (Res.ofO (cmpV h2 o x y) h2).bnd fun r h3 => .ok (.bl r) h3 := rfl
theorem E_cmp2 {o p : CK} : evalE T cb env (.cmp2 o p a b c) h = (evalE T cb env a h).bnd fun x h1 => (evalE T cb env b h1).bnd fun y h2 => (Res.ofO (cmpV h2 o x y) h2).bnd fun r h3 => Res.andB r ((evalE T cb env c h3).bnd fun z h4 => (Res.ofO (cmpV h4 p y z) h4).bnd fun q h5 => .ok (.bl q) h5) h3 := by
  show @Eq (Res _) (Res.bnd _ _) (Res.bnd _ _)
  congr 1; funext x h1
  show @Eq (Res _) (Res.bnd _ _) (Res.bnd _ _)
  congr 1; funext y h2
  show @Eq (Res _) (Res.bnd _ _) (Res.bnd _ _)
  congr 1; funext r h3
  cases r <;> rfl
theorem E_and : evalE T cb env (.and a b) h = (evalE T cb env a h).bnd fun x h1 => (Res.ofO (boolV x) h1).bnd fun t h2 => Res.andB t (evalE T cb env b h2) h2 := by
  show @Eq (Res _) (Res.bnd _ _) (Res.bnd _ _)
  congr 1; funext x h1
  show @Eq (Res _) (Res.bnd _ _) (Res.bnd _ _)
  congr 1; funext y h2
  cases y <;> rfl
theorem E_or : evalE T cb env (.or a b) h = (evalE T cb env a h).bnd fun x h1 => (Res.ofO (boolV x) h1).bnd fun t h2 => Res.orB t (evalE T cb env b h2) h2 := by
  show @Eq (Res _) (Res.bnd _ _) (Res.bnd _ _)
  congr 1; funext x h1
  show @Eq (Res _) (Res.bnd _ _) (Res.bnd _ _)
  congr 1; funext y h2
  cases y <;> rfl
theorem E_not : evalE T cb env (.not a) h = (evalE T cb env a h).bnd fun x h1 => (Res.ofO (boolV x) h1).bnd fun t h2 => .ok (.bl (!t)) h2 := rfl
theorem E_ite : evalE T cb env (.ite c a b) h = (evalT T cb env c h).bnd fun t h1 => Res.cnd t (evalE T cb env a h1) (evalE T cb env b h1) := by
  show @Eq (Res _) (Res.bnd _ _) (Res.bnd _ _)
  congr 1; funext t h1
  cases t <;> rfl
theorem E_tup : evalE T cb env (.tup es) h = (evalA T cb env es h).bnd fun l h1 => (Res.ofO (few l) h1).bnd fun l h2 => .ok (.tup l) h2 := rfl
theorem E_idx : evalE T cb env (.idx a b) h = (evalE T cb env a h).bnd fun x h1 => (evalE T cb env b h1).bnd fun y h2 => Res.ofO (idxV h2 x y) h2 := rfl
theorem E_slc : evalE T cb env (.slc a lo hi) h = (evalE T cb env a h).bnd fun x h1 => (evalO T cb env lo h1).bnd fun l h2 => (evalO T cb env hi h2).bnd fun r h3 => (Res.ofO (tupV x) h3).bnd fun vs h4 => .ok (.tup (cut vs l r)) h4 := rfl
theorem E_call {f : Nat} {io : List Bool} : evalE T cb env (.call f io es) h = (evalA T cb env es h).bnd fun vs h1 => (doCall cb f io vs h1).bnd fun r h2 => .ok r.1 h2 := rfl
theorem E_callk {f n m : Nat} {io : List Bool} {ar : List Nat} {ds : List Val} : evalE T cb env (.callk f io n m es ks ar ds) h = (evalA T cb env es h).bnd fun vs h1 => (evalA T cb env ks h1).bnd fun ws h2 => (Res.ofO (argsK n m ar ds vs ws) h2).bnd fun xs h3 => (doCall cb f io xs h3).bnd fun r h4 => .ok r.1 h4 := rfl
theorem E_b1 {k : B1} : evalE T cb env (.b1 k a) h = (evalE T cb env a h).bnd fun x h1 => Res.ofO (b1V h1 k x) h1 := rfl
theorem E_b2 {k : B2} : evalE T cb env (.b2 k a b) h = (evalE T cb env a h).bnd fun x h1 => (evalE T cb env b h1).bnd fun y h2 => Res.ofO (b2V k x y) h2 := rfl
theorem E_isi {t : String} : evalE T cb env (.isi a t) h = (evalE T cb env a h).bnd fun x h1 => (Res.ofO (tyOf h1 x) h1).bnd fun s h2 => (Res.ofO (isiT s t) h2).bnd fun r h3 => .ok (.bl r) h3 := rfl
theorem E_pop : evalE T cb env (.pop a) h = (evalE T cb env a h).bnd fun x h1 => popL x h1 := rfl
theorem E_trep : evalE T cb env (.trep a b) h = (evalE T cb env a h).bnd fun x h1 => (evalE T cb env b h1).bnd fun y h2 => Res.ofO (trepV x y) h2 := rfl
theorem E_trev : evalE T cb env (.trev a) h = (evalE T cb env a h).bnd fun x h1 => (Res.ofO (tupV x) h1).bnd fun l h2 => .ok (.tup l.reverse) h2 := rfl
theorem E_mink {ks : List KP} : evalE T cb env (.mink ks a) h = (evalE T cb env a h).bnd fun x h1 => (Res.ofO (lstV h1 x) h1).bnd fun l h2 => Res.ofO (minK ks l) h2 := rfl
theorem E_mind : evalE T cb env (.mind a) h = (evalE T cb env a h).bnd fun x h1 => (Res.ofO (lstV h1 x) h1).bnd fun l h2 => Res.ofO (minV l) h2 := rfl
theorem E_inl : evalE T cb env (.inl a) h = (evalF T cb env a h).bnd fun l h1 => .ok (.lst l) h1 := rfl
theorem E_mk : evalE T cb env (.mk a) h = (evalF T cb env a h).bnd fun l h1 => .ok (.loc h1.length) (h1 ++ [.list l]) := rfl
theorem T_and : evalT T cb env (.and a b) h = (evalT T cb env a h).bnd fun t h2 => Res.andT t (evalT T cb env b h2) h2 := by
  show @Eq (Res _) (Res.bnd _ _) (Res.bnd _ _)
  congr 1; funext y h2
  cases y <;> rfl
theorem T_or : evalT T cb env (.or a b) h = (evalT T cb env a h).bnd fun t h2 => Res.orT t (evalT T cb env b h2) h2 := by
  show @Eq (Res _) (Res.bnd _ _) (Res.bnd _ _)
  congr 1; funext y h2
  cases y <;> rfl
theorem T_not : evalT T cb env (.not a) h = (evalT T cb env a h).bnd fun t h2 => .ok (!t) h2 := rfl
theorem T_cmp {o : CK} : evalT T cb env (.cmp o a b) h = (evalE T cb env a h).bnd fun x h1 => (evalE T cb env b h1).bnd fun y h2 => Res.ofO (cmpV h2 o x y) h2 := rfl
theorem T_cmp2 {o p : CK} : evalT T cb env (.cmp2 o p a b c) h = (evalE T cb env a h).bnd fun x h1 => (evalE T cb env b h1).bnd fun y h2 => (Res.ofO (cmpV h2 o x y) h2).bnd fun r h3 => Res.andT r ((evalE T cb env c h3).bnd fun z h4 => Res.ofO (cmpV h4 p y z) h4) h3 := by
  show @Eq (Res _) (Res.bnd _ _) (Res.bnd _ _)
  congr 1; funext x h1
  show @Eq (Res _) (Res.bnd _ _) (Res.bnd _ _)
  congr 1; funext y h2
  show @Eq (Res _) (Res.bnd _ _) (Res.bnd _ _)
  congr 1; funext r h3
  cases r <;> rfl
theorem T_tr : evalT T cb env (.tr a) h = (evalE T cb env a h).bnd fun x h1 => Res.ofO (truV h1 x) h1 := rfl
theorem A_nil : evalA T cb env .anil h = .ok [] h := rfl
theorem A_cons : evalA T cb env (.acons a es) h = (evalE T cb env a h).bnd fun x h1 => (evalA T cb env es h1).bnd fun l h2 => .ok (x :: l) h2 := rfl
theorem O_no : evalO T cb env .no h = .ok none h := rfl
theorem O_part : evalO T cb env (.part a) h = (evalE T cb env a h).bnd fun x h1 => (Res.ofO (intV x) h1).bnd fun i h2 => .ok (some i) h2 := rfl
theorem F_disp : evalF T cb env (.fdisp es) h = (evalA T cb env es h).bnd fun l h1 => Res.ofO (few l) h1 := rfl
theorem F_cat : evalF T cb env (.fcat a b) h = (evalE T cb env a h).bnd fun x h1 => (evalE T cb env b h1).bnd fun y h2 => (Res.ofO (lstV h2 x) h2).bnd fun l h3 => (Res.ofO (lstV h3 y) h3).bnd fun r h4 => Res.ofO (catL l r) h4 := rfl
theorem F_rep : evalF T cb env (.frep a b) h = (evalE T cb env a h).bnd fun x h1 => (evalE T cb env b h1).bnd fun y h2 => (Res.ofO (lstV h2 x) h2).bnd fun l h3 => Res.ofO (repV l y) h3 := rfl
theorem F_slc : evalF T cb env (.fslc a lo hi) h = (evalE T cb env a h).bnd fun x h1 => (evalO T cb env lo h1).bnd fun l h2 => (evalO T cb env hi h2).bnd fun r h3 => (Res.ofO (scrV h3 x) h3).bnd fun vs h4 => .ok (cut vs l r) h4 := rfl
theorem F_list : evalF T cb env (.flist a) h = (evalE T cb env a h).bnd fun x h1 => Res.ofO (seqV h1 x) h1 := rfl
theorem F_sort : evalF T cb env (.fsort a) h = (evalE T cb env a h).bnd fun x h1 => (Res.ofO (lstV h1 x) h1).bnd fun l h2 => Res.ofO (sortV l) h2 := rfl
theorem F_call {f : Nat} {io : List Bool} : evalF T cb env (.call f io es) h = (evalA T cb env es h).bnd fun vs h1 => (doCall cb f io vs h1).bnd fun r h2 => Res.ofO (ownL r) h2 := rfl
/-- a comprehension's turn -/
def turnF (T : List Val) (cb : CB) (env : Env) (own : List Nat) (tg : Tg) (cs e : IE) (x : Val) : M (Option Val) := fun h =>
  (Res.ofO (bindT tg x (wipe own env)) h).bnd fun env1 h1 => (evalC T cb env1 cs h1).bnd fun t h2 => Res.cnd t ((evalE T cb env1 e h2).bnd fun v h3 => .ok (some v) h3) (.ok none h2)
theorem F_comp {own : List Nat} {tg : Tg} : evalF T cb env (.fcomp own tg it cs e) h = (evalI T cb env it h).bnd fun its h1 => (Res.ofO (few its.l) h1).bnd fun _ h2 => compL (turnF T cb env own tg cs e) its.lock h2 its.l h2 := by
  show @Eq (Res _) (Res.bnd _ _) (Res.bnd _ _)
  congr 1; funext its h1
  show @Eq (Res _) (Res.bnd _ _) (Res.bnd _ _)
  congr 1; funext y h2
  show compL _ _ _ _ _ = compL _ _ _ _ _
  congr 1; funext x h3
  show @Eq (Res _) (Res.bnd _ _) (Res.bnd _ _)
  congr 1; funext env1 h4
  show @Eq (Res _) (Res.bnd _ _) (Res.bnd _ _)
  congr 1; funext t h5
  cases t <;> rfl
theorem C_nil : evalC T cb env .anil h = .ok true h := rfl
theorem C_cons : evalC T cb env (.acons c e) h = evalT T cb env c h := rfl
theorem I_rng1 : evalI T cb env (.rng1 a) h = (evalE T cb env a h).bnd fun x h1 => Res.ofO (rngI1 x) h1 := rfl
theorem I_rng2 : evalI T cb env (.rng2 a b) h = (evalE T cb env a h).bnd fun x h1 => (evalE T cb env b h1).bnd fun y h2 => Res.ofO (rngI2 x y) h2 := rfl
theorem I_rng3 : evalI T cb env (.rng3 a b c) h = (evalE T cb env a h).bnd fun x h1 => (evalE T cb env b h1).bnd fun y h2 => (evalE T cb env c h2).bnd fun z h3 => Res.ofO (rngI3 x y z) h3 := rfl
theorem I_enum : evalI T cb env (.enum a) h = (evalE T cb env a h).bnd fun x h1 => (Res.ofO (seqV h1 x) h1).bnd fun l h2 => .ok ⟨enumItems 0 l, locksOf x⟩ h2 := rfl
theorem I_zip : evalI T cb env (.zip a b) h = (evalE T cb env a h).bnd fun x h1 => (evalE T cb env b h1).bnd fun y h2 => (Res.ofO (pairL h2 x y) h2).bnd fun p h3 => .ok ⟨zipItems p.1 p.2, locksOf x ++ locksOf y⟩ h3 := rfl
theorem I_seq : evalI T cb env (.seq a) h = (evalE T cb env a h).bnd fun x h1 => (Res.ofO (seqV h1 x) h1).bnd fun l h2 => .ok ⟨l, locksOf x⟩ h2 := rfl
theorem I_rev : evalI T cb env (.rev a) h = (evalE T cb env a h).bnd fun x h1 => (Res.ofO (seqV h1 x) h1).bnd fun l h2 => .ok ⟨l.reverse, locksOf x⟩ h2 := rfl
variable {s r : IS}
theorem S_nil : evalS T cb .nil env h = .ok (.nx env) h := rfl
theorem S_cons : evalS T cb (.cons s r) env h = (evalS T cb s env h).sq fun e h1 => evalS T cb r e h1 := by
  show (match evalS T cb s env h with
    | .ok (.nx e) h1 => evalS T cb r e h1
    | x => x) = _
  unfold SRes.sq
  rfl
theorem S_pass : evalS T cb .pass env h = .ok (.nx env) h := rfl
theorem S_set {i : Nat} : evalS T cb (.set i e) env h = (evalE T cb env e h).st env fun v h1 => .ok (.nx (env.set i (some v))) h1 := rfl
theorem S_setT {tg : Tg} : evalS T cb (.setT tg e) env h = (evalE T cb env e h).st env fun v h1 => (Res.ofO (bindT tg v env) h1).st env fun e1 h2 => .ok (.nx e1) h2 := by
  show @Eq SRes (Res.st (Res.bnd _ _) _ _) (Res.st _ _ _)
  cases evalE T cb env e h <;> rfl
theorem S_par {is : List Nat} : evalS T cb (.par is es) env h = (evalA T cb env es h).st env fun vs h1 => (Res.ofO (setAll is vs env) h1).st env fun e1 h2 => .ok (.nx e1) h2 := by
  show @Eq SRes (Res.st (Res.bnd _ _) _ _) (Res.st _ _ _)
  cases evalA T cb env es h <;> rfl
theorem Res.st_bnd {α β : Type} {r : Res α} {k : α → Heap → Res β} {env : Env} {k2 : β → Heap → SRes} : (Res.st (r.bnd k) env k2 : SRes) = (r.st env fun a h => (k a h).st env k2 : SRes) := by cases r <;> rfl
theorem Res.st_ext {α : Type} {r : Res α} {env : Env} {k k' : α → Heap → SRes} (e : ∀ a h, k a h = k' a h) : (r.st env k : SRes) = (r.st env k' : SRes) := by
  cases r with
  | ok a h => exact e a h
  | _ => rfl
theorem S_aug {i : Nat} {o : BK} : evalS T cb (.aug i o e) env h = (Res.ofO (lk env i) h).st env fun x h1 => (evalE T cb env e h1).st env fun y h2 => (Res.ofO (augV o x y) h2).st env fun v h3 => .ok (.nx (env.set i (some v))) h3 := by
  rw [← lk_eq]
  show @Eq SRes (Res.st (Res.bnd (Res.ofO (env[i]?.bind id) h) fun x h1 => Res.bnd (evalE T cb env e h1) fun y h2 => Res.ofO (augV o x y) h2) env _) _
  exact Res.st_bnd.trans (Res.st_ext fun x h1 => Res.st_bnd.trans (Res.st_ext fun y h2 => rfl))
theorem S_expr : evalS T cb (.expr e) env h = (evalE T cb env e h).st env fun _ h1 => .ok (.nx env) h1 := rfl
theorem S_ret : evalS T cb (.ret e) env h = (evalE T cb env e h).st env fun v h1 => .ok (.rt v) h1 := rfl
theorem S_retN : evalS T cb .retN env h = .ok (.rt .non) h := rfl
theorem S_ite {x y : IS} : evalS T cb (.ite c x y) env h = (evalT T cb env c h).st env fun t h1 => SRes.cnd t (evalS T cb x env h1) (evalS T cb y env h1) := by
  show @Eq SRes (Res.st _ _ _) (Res.st _ _ _)
  congr 1; funext t h1
  cases t <;> rfl
theorem S_for {tg : Tg} {b : IS} : evalS T cb (.for_ tg it b) env h = (evalI T cb env it h).st env fun its h1 => forL (evalS T cb b) tg its.lock h1 its.l env h1 := rfl
theorem S_while {n : Nat} {b : IS} : evalS T cb (.while_ n c b) env h = whileL (fun e => evalT T cb e c) (evalS T cb b) n env h := rfl
theorem S_app {o : IE} : evalS T cb (.app o e) env h = (evalE T cb env o h).st env fun x h1 => (Res.ofO (locV x) h1).st env fun n h2 => (evalE T cb env e h2).st env fun v h3 => change env (appL n v h3) := by
  show @Eq SRes (Res.st (Res.bnd (evalE T cb env o h) fun x h1 => Res.bnd (Res.ofO (locV x) h1) fun n h2 => Res.bnd (evalE T cb env e h2) fun v h3 => Res.ok (n, v) h3) env _) _
  exact Res.st_bnd.trans (Res.st_ext fun x h1 => Res.st_bnd.trans (Res.st_ext fun n h2 => Res.st_bnd.trans (Res.st_ext fun v h3 => rfl)))
theorem S_rem {o : IE} : evalS T cb (.rem o e) env h = (evalE T cb env o h).st env fun x h1 => (Res.ofO (locV x) h1).st env fun n h2 => (evalE T cb env e h2).st env fun v h3 => change env (remL n v h3) := by
  show @Eq SRes (Res.st (Res.bnd (evalE T cb env o h) fun x h1 => Res.bnd (Res.ofO (locV x) h1) fun n h2 => Res.bnd (evalE T cb env e h2) fun v h3 => Res.ok (n, v) h3) env _) _
  exact Res.st_bnd.trans (Res.st_ext fun x h1 => Res.st_bnd.trans (Res.st_ext fun n h2 => Res.st_bnd.trans (Res.st_ext fun v h3 => rfl)))
theorem S_ext {o : IE} : evalS T cb (.ext o e) env h = (evalE T cb env o h).st env fun x h1 => (Res.ofO (locV x) h1).st env fun n h2 => (evalE T cb env e h2).st env fun v h3 => change env (extL n v h3) := by
  show @Eq SRes (Res.st (Res.bnd (evalE T cb env o h) fun x h1 => Res.bnd (Res.ofO (locV x) h1) fun n h2 => Res.bnd (evalE T cb env e h2) fun v h3 => Res.ok (n, v) h3) env _) _
  exact Res.st_bnd.trans (Res.st_ext fun x h1 => Res.st_bnd.trans (Res.st_ext fun n h2 => Res.st_bnd.trans (Res.st_ext fun v h3 => rfl)))
theorem S_setI {o i : IE} : evalS T cb (.setI o i e) env h = (evalE T cb env e h).st env fun v h1 => (evalE T cb env o h1).st env fun x h2 => (evalE T cb env i h2).st env fun j h3 => change env (setIL x j v h3) := by
  show @Eq SRes (Res.st (Res.bnd (evalE T cb env e h) fun v h1 => Res.bnd (evalE T cb env o h1) fun x h2 => Res.bnd (evalE T cb env i h2) fun j h3 => Res.ok (v, x, j) h3) env _) _
  exact Res.st_bnd.trans (Res.st_ext fun v h1 => Res.st_bnd.trans (Res.st_ext fun x h2 => Res.st_bnd.trans (Res.st_ext fun j h3 => rfl)))
theorem S_setS {o : IE} : evalS T cb (.setS o lo hi e) env h = (evalE T cb env e h).st env fun v h1 => (evalE T cb env o h1).st env fun x h2 => (evalO T cb env lo h2).st env fun a h3 => (evalO T cb env hi h3).st env fun b h4 => change env (setSL x a b v h4) := by
  show @Eq SRes (Res.st (Res.bnd (evalE T cb env e h) fun v h1 => Res.bnd (evalE T cb env o h1) fun x h2 => Res.bnd (evalO T cb env lo h2) fun a h3 => Res.bnd (evalO T cb env hi h3) fun b h4 => Res.ok (v, x, a, b) h4) env _) _
  exact Res.st_bnd.trans (Res.st_ext fun v h1 => Res.st_bnd.trans (Res.st_ext fun x h2 => Res.st_bnd.trans (Res.st_ext fun a h3 => Res.st_bnd.trans (Res.st_ext fun b h4 => rfl))))
theorem S_ins {o i : IE} : evalS T cb (.ins o i e) env h = (evalE T cb env o h).st env fun x h1 => (Res.ofO (locV x) h1).st env fun n h2 => (evalE T cb env i h2).st env fun j h3 => (evalE T cb env e h3).st env fun v h4 => change env (insL n j v h4) := by
  show @Eq SRes (Res.st (Res.bnd (evalE T cb env o h) fun x h1 => Res.bnd (Res.ofO (locV x) h1) fun n h2 => Res.bnd (evalE T cb env i h2) fun j h3 => Res.bnd (evalE T cb env e h3) fun v h4 => Res.ok (n, j, v) h4) env _) _
  exact Res.st_bnd.trans (Res.st_ext fun x h1 => Res.st_bnd.trans (Res.st_ext fun n h2 => Res.st_bnd.trans (Res.st_ext fun j h3 => Res.st_bnd.trans (Res.st_ext fun v h4 => rfl))))
theorem S_brk : evalS T cb .brk env h = .ok (.bk env) h := rfl
theorem S_cont : evalS T cb .cont env h = .ok (.ct env) h := rfl
@[simp] theorem change_some : change env (some h) = .ok (.nx env) h := rfl
@[simp] theorem change_none : change env none = .bad := rfl
end
end MP

namespace MP
open PySem (Str)
def lob : LObj → Option (List Val)
  | .list l => some l
  | .dict _ _ => none
theorem lob_l {l : List Val} : lob (.list l) = some l := rfl
def gu (l : List Val) : Option Val := if noLocL l then some (.lst l) else none
theorem gu_ok {l : List Val} (q : noLocL l = true) : gu l = some (.lst l) := by simp [gu, q]
section
variable {i j : Int} {xs ys l : List Val} {h : Heap} {v w : Val}
theorem v_add : binV .add (.int i) (.int j) = some (.int (i + j)) := rfl
theorem v_sub : binV .sub (.int i) (.int j) = some (.int (i - j)) := rfl
theorem v_mul (q : (-18446744073709551616 < i ∧ i < 18446744073709551616) ∨ (-18446744073709551616 < j ∧ j < 18446744073709551616)) : binV .mul (.int i) (.int j) = some (.int (i * j)) := by
  have : (small i || small j) = true := by
    simp only [small, Bool.or_eq_true, Bool.and_eq_true, decide_eq_true_eq]; omega
  simp [binV, binI, this]
theorem v_fdiv (h1 : 0 < j) (h2 : j < 1073741824) : binV .fdiv (.int i) (.int j) = some (.int (i / j)) := by simp [binV, binI, h1, h2]
theorem v_mod (h1 : 0 < j) : binV .mod (.int i) (.int j) = some (.int (i % j)) := by simp [binV, binI, h1]
theorem v_shl (h0 : -18446744073709551616 < i ∧ i < 18446744073709551616) (h1 : 0 ≤ j) (h2 : j ≤ 1000000) : binV .shl (.int i) (.int j) = some (.int (i * 2 ^ j.toNat)) := by
  have : i.natAbs < 2 ^ 64 := by omega
  simp [binV, binI, h1, h2, this]
theorem v_pow (h0 : -18446744073709551616 < i ∧ i < 18446744073709551616) (h1 : 0 ≤ j) (h2 : j ≤ 1000000) : binV .pow (.int i) (.int j) = some (.int (i ^ j.toNat)) := by
  have : i.natAbs < 2 ^ 64 := by omega
  simp [binV, binI, h1, h2, this]
theorem v_shr (h1 : 0 ≤ j) : binV .shr (.int i) (.int j) = some (.int (i / 2 ^ j.toNat)) := by simp [binV, binI, h1]
theorem v_bxor (h0 : 0 ≤ i) (h1 : 0 ≤ j) : binV .bxor (.int i) (.int j) = some (.int ((i.toNat ^^^ j.toNat : Nat) : Int)) := by simp [binV, binI, h0, h1]
theorem v_cat (q : xs.length + ys.length ≤ 16777216) : binV .add (.tup xs) (.tup ys) = some (.tup (xs ++ ys)) := by simp [binV, SZ, q]
theorem v_neg : negV (.int i) = some (.int (-i)) := rfl
theorem v_bool {b : Bool} : boolV (.bl b) = some b := rfl
theorem v_int : intV (.int i) = some i := rfl
theorem v_tup : tupV (.tup l) = some l := rfl
theorem v_loc {n : Nat} : locV (.loc n) = some n := rfl
theorem v_aug_add : augV .add (.int i) (.int j) = some (.int (i + j)) := rfl
theorem v_own : ownL (.lst l, true) = some l := rfl
theorem c_eq : cmpV h .eq (.int i) (.int j) = some (decide (i = j)) := rfl
theorem c_ne : cmpV h .ne (.int i) (.int j) = some (!decide (i = j)) := rfl
theorem c_lt : cmpV h .lt (.int i) (.int j) = some (decide (i < j)) := rfl
theorem c_le : cmpV h .le (.int i) (.int j) = some (decide (i ≤ j)) := rfl
theorem c_gt : cmpV h .gt (.int i) (.int j) = some (decide (j < i)) := rfl
theorem c_ge : cmpV h .ge (.int i) (.int j) = some (decide (j ≤ i)) := rfl
theorem c_isn_non : cmpV h .isn .non .non = some true := rfl
theorem c_isn_int : cmpV h .isn (.int i) .non = some false := rfl
theorem c_isn_tup : cmpV h .isn (.tup l) .non = some false := rfl
theorem c_isn_lst : cmpV h .isn (.lst l) .non = some false := rfl
theorem c_isnn_non : cmpV h .isnn .non .non = some false := rfl
theorem c_isnn_int : cmpV h .isnn (.int i) .non = some true := rfl
theorem c_isnn_tup : cmpV h .isnn (.tup l) .non = some true := rfl
theorem c_isnn_lst : cmpV h .isnn (.lst l) .non = some true := rfl
theorem c_ist {b : Bool} : cmpV h .ist (.bl b) (.bl true) = some b := rfl
theorem c_isnt {b : Bool} : cmpV h .isnt (.bl b) (.bl true) = some !b := rfl
theorem c_eqB {a b : Bool} : cmpV h .eq (.bl a) (.bl b) = some (a == b) := rfl
theorem c_neB {a b : Bool} : cmpV h .ne (.bl a) (.bl b) = some (!(a == b)) := rfl
/-- ints among ints -/
theorem int_any : ∀ {L : List Int} {b : Int}, (L.map Val.int).any (fun y => y.eqv (.int b)) = decide (b ∈ L)
  | [], b => rfl
  | a :: L, b => by
    rw [List.map_cons, List.any_cons, int_any, Val.eqv]
    by_cases e : a = b
    · subst e; simp
    · have e2 : ¬ b = a := fun z => e z.symm
      simp [e, e2]
theorem int_scal : ∀ {L : List Int}, (L.map Val.int).all scalar = true
  | [] => rfl
  | a :: L => by rw [List.map_cons, List.all_cons, int_scal]; rfl
theorem mem_tupI {L : List Int} {b : Int} : cmpV h .mem (.int b) (.tup (L.map Val.int)) = some (decide (b ∈ L)) := by
  show (if scalar (.int b) && (L.map Val.int).all scalar then some ((L.map Val.int).any fun y => y.eqv (.int b)) else _) = _
  rw [int_scal, int_any]; rfl
theorem mem_lstI {L : List Int} {b : Int} : cmpV h .mem (.int b) (.lst (L.map Val.int)) = some (decide (b ∈ L)) := by
  show (if scalar (.int b) && (L.map Val.int).all scalar then some ((L.map Val.int).any fun y => y.eqv (.int b)) else _) = _
  rw [int_scal, int_any]; rfl
theorem nmem_tupI {L : List Int} {b : Int} : cmpV h .nmem (.int b) (.tup (L.map Val.int)) = some (!decide (b ∈ L)) := by
  have := mem_tupI (h := h) (L := L) (b := b)
  simp only [cmpV] at this ⊢
  rw [this]; rfl
theorem t_bl {b : Bool} : truV h (.bl b) = some b := rfl
theorem t_int : truV h (.int i) = some (i != 0) := rfl
theorem t_non : truV h .non = some false := rfl
theorem t_tup : truV h (.tup l) = some (!l.isEmpty) := rfl
theorem t_lst : truV h (.lst l) = some (!l.isEmpty) := rfl
theorem q_tup : seqV h (.tup l) = some l := rfl
theorem q_lst : seqV h (.lst l) = some l := rfl
theorem q_scr : seqV h (.scr l) = some l := rfl
theorem q_loc {n : Nat} : seqV h (.loc n) = h[n]?.bind lob := by
  simp only [seqV]
  cases h[n]? with
  | none => rfl
  | some o => cases o <;> rfl
theorem lv_lst : lstV h (.lst l) = some l := rfl
theorem lv_loc {n : Nat} : lstV h (.loc n) = h[n]?.bind lob := by
  simp only [lstV]
  cases h[n]? with
  | none => rfl
  | some o => cases o <;> rfl
theorem sv_scr : scrV h (.scr l) = some l := rfl
theorem sv_lst : scrV h (.lst l) = some l := rfl
theorem sv_loc {n : Nat} : scrV h (.loc n) = h[n]?.bind lob := lv_loc
theorem ix_v : idxV h v (.int i) = (seqV h v).bind (atI · i) := rfl
variable {α : Type} {a b c d : α} {r : List α}
theorem at_0 : atI (a :: r) 0 = some a := by simp [atI, ixN]
theorem at_1 : atI (a :: b :: r) 1 = some b := by
  have : (1 : Int) < ((a :: b :: r).length : Int) := by simp only [List.length_cons]; omega
  simp only [atI, ixN, this, if_true, show (0 : Int) ≤ 1 by decide]; rfl
theorem at_2 : atI (a :: b :: c :: r) 2 = some c := by
  have : (2 : Int) < ((a :: b :: c :: r).length : Int) := by simp only [List.length_cons]; omega
  simp only [atI, ixN, this, if_true, show (0 : Int) ≤ 2 by decide]; rfl
theorem at_ok {s : List α} (h0 : 0 ≤ i) (h1 : i < s.length) : atI s i = s[i.toNat]? := by
  simp [atI, ixN, h0, h1]
theorem at_map {β : Type} {f : α → β} {s : List α} : atI (s.map f) i = (atI s i).map f := by
  unfold atI
  rw [List.length_map]
  cases ixN s.length i with
  | none => rfl
  | some n => simp
theorem b_len : b1V h .len v = (seqV h v).map fun l => .int l.length := rfl
theorem b_intB {b : Bool} : b1V h .int (.bl b) = some (.int (if b then 1 else 0)) := rfl
theorem b_int : b1V h .int (.int i) = some (.int i) := rfl
theorem b_boolB {b : Bool} : b1V h .bool (.bl b) = some (.bl b) := rfl
theorem b_tupT : b1V h .tuple (.tup l) = some (.tup l) := rfl
theorem b_tupL : b1V h .tuple (.lst l) = some (.tup l) := rfl
theorem b_tup_loc {n : Nat} : b1V h .tuple (.loc n) = (h[n]?.bind lob).map Val.tup := by
  show (lstV h (.loc n)).map Val.tup = _
  rw [lv_loc]
theorem bools_map {p : α → Bool} : ∀ {L : List α}, boolsOf (L.map fun x => .bl (p x)) = some (L.map p)
  | [] => rfl
  | a :: L => by simp only [List.map_cons, boolsOf, bools_map, Option.map_some]
theorem b_all {p : α → Bool} {L : List α} : b1V h .all (.lst (L.map fun x => .bl (p x))) = some (.bl (L.all p)) := by
  simp [b1V, lstV, bools_map, List.all_map]
theorem b_any {p : α → Bool} {L : List α} : b1V h .any (.lst (L.map fun x => .bl (p x))) = some (.bl (L.any p)) := by
  simp [b1V, anyV, anyL, lstV, bools_map, List.any_map]
theorem b_allV : b1V h .all (.lst l) = (boolsOf l).map fun m => .bl (m.all id) := rfl
theorem b_anyV : b1V h .any (.lst l) = anyL l := rfl
theorem any_bm {p : α → Bool} {L : List α} : anyL (L.map fun x => Val.bl (p x)) = some (.bl (L.any p)) := by simp [anyL, bools_map, List.any_map]
theorem any_b0 : anyL [] = some (.bl false) := rfl
theorem any_bc {b : Bool} : anyL (.bl b :: l) = ((boolsOf (.bl b :: l)).map fun m => Val.bl (m.any id)).or (anyI (.bl b :: l)) := rfl
theorem b_anyT : b1V h .any (.tup l) = anyI l := rfl
theorem bo_nil : boolsOf [] = some [] := rfl
theorem bo_cons {b : Bool} : boolsOf (.bl b :: l) = (boolsOf l).map (b :: ·) := rfl
theorem ints_map : ∀ {L : List Int}, intsOf (L.map Val.int) = some L
  | [] => rfl
  | a :: L => by simp only [List.map_cons, intsOf, ints_map, Option.map_some]
theorem any_ints {L : List Int} : anyI (L.map Val.int) = some (.bl (L.any fun i => i != 0)) := by simp [anyI, ints_map]
theorem any_im {L : List Int} : anyL (L.map Val.int) = some (.bl (L.any fun i => i != 0)) := by
  unfold anyL
  rw [any_ints]
  cases L with
  | nil => rfl
  | cons a L => rfl
theorem b_sum {L : List Int} : b1V h .sum (.lst (L.map Val.int)) = some (.int L.sum) := by simp [b1V, lstV, ints_map]
theorem b_max : b2V .max (.int i) (.int j) = some (.int (max i j)) := by
  simp only [b2V, Option.some.injEq, Val.int.injEq]; omega
theorem b_min : b2V .min (.int i) (.int j) = some (.int (min i j)) := by
  simp only [b2V, Option.some.injEq, Val.int.injEq]; omega
theorem b_divmod (h1 : 0 < j) (h2 : j < 1073741824) : b2V .divmod (.int i) (.int j) = some (.tup [.int (i / j), .int (i % j)]) := by simp [b2V, h1, h2]
theorem few_ok (q : l.length ≤ 16777216) : few l = some l := by simp [few, SZ, q]
theorem catL_ok (q : xs.length + ys.length ≤ 16777216) : catL xs ys = some (xs ++ ys) := by simp [catL, SZ, q]
theorem trep_ok (h1 : 1 ≤ i) (h2 : i ≤ 1000) (h3 : 1 ≤ l.length) (h4 : l.length ≤ 1000) : trepV (.tup l) (.int i) = some (.tup (List.replicate i.toNat l).flatten) := by
  have : l ≠ [] := fun z => by rw [z] at h3; simp at h3
  simp [trepV, this, h1, h2, h4]
theorem rep_ok (h1 : 0 ≤ i) (h2 : i < 1073741824) (h3 : l.length * i.toNat ≤ 16777216) : repV l (.int i) = some (List.replicate i.toNat l).flatten := by
  have e1 : -(2 ^ 63) ≤ i := by omega
  have e2 : i < 2 ^ 63 := by omega
  simp only [repV, SZ, h3, e1, e2, decide_true, Bool.and_self, if_true]
theorem ty_non : tyOf h .non = some "NoneType" := rfl
theorem ty_bl {b : Bool} : tyOf h (.bl b) = some "bool" := rfl
theorem ty_int : tyOf h (.int i) = some "int" := rfl
theorem ty_str {s : Str} : tyOf h (.str s) = some "str" := rfl
theorem ty_tup : tyOf h (.tup l) = some "tuple" := rfl
theorem ty_lst : tyOf h (.lst l) = some "list" := rfl
theorem ty_dct {k m : List Val} : tyOf h (.dct k m) = some "dict" := rfl
theorem ii_ii : isiT "int" "int" = some true := rfl
theorem ii_bi : isiT "bool" "int" = some true := rfl
theorem ii_si : isiT "str" "int" = some false := rfl
theorem ii_ti : isiT "tuple" "int" = some false := rfl
theorem ii_li : isiT "list" "int" = some false := rfl
theorem ii_ni : isiT "NoneType" "int" = some false := rfl
theorem ii_di : isiT "dict" "int" = some false := rfl
theorem ii_ib : isiT "int" "bool" = some false := rfl
theorem ii_bb : isiT "bool" "bool" = some true := rfl
theorem ii_sb : isiT "str" "bool" = some false := rfl
theorem ii_tb : isiT "tuple" "bool" = some false := rfl
theorem ii_lb : isiT "list" "bool" = some false := rfl
theorem ii_nb : isiT "NoneType" "bool" = some false := rfl
theorem ii_db : isiT "dict" "bool" = some false := rfl
theorem ii_it : isiT "int" "tuple" = some false := rfl
theorem ii_bt : isiT "bool" "tuple" = some false := rfl
theorem ii_st : isiT "str" "tuple" = some false := rfl
theorem ii_tt : isiT "tuple" "tuple" = some true := rfl
theorem ii_lt : isiT "list" "tuple" = some false := rfl
theorem ii_nt : isiT "NoneType" "tuple" = some false := rfl
theorem ii_dt : isiT "dict" "tuple" = some false := rfl
variable {env : Env}
theorem bt_n {n : Nat} : bindT (.n n) v env = some (env.set n (some v)) := rfl
theorem bt_t {tg : Tg} : bindT (.t tg) (.tup l) env = bindTs tg l env := rfl
theorem bt_l {tg : Tg} : bindT (.t tg) (.lst l) env = bindTs tg l env := rfl
theorem bs_nil : bindTs .nil [] env = some env := rfl
theorem bs_cons {x y : Tg} : bindTs (.cons x y) (v :: l) env = (bindT x v env).bind (bindTs y l) := rfl
theorem wipe_nil : wipe [] env = env := rfl
theorem wipe_cons {n : Nat} {s : List Nat} : wipe (n :: s) env = (wipe s env).set n none := rfl
theorem sa_nil : setAll [] [] env = some env := rfl
theorem sa_cons {n : Nat} {s : List Nat} : setAll (n :: s) (v :: l) env = setAll s l (env.set n (some v)) := rfl
theorem lk_0 {o : Option Val} : lk (o :: env) 0 = o := rfl
theorem lk_s {o : Option Val} {n : Nat} : lk (o :: env) (n + 1) = lk env n := rfl
theorem cut_def {lo hi : Option Int} : cut l lo hi = (l.drop (sIx l.length 0 lo)).take (sIx l.length l.length hi - sIx l.length 0 lo) := rfl
theorem r_non : res h .non = some .non := rfl
theorem r_bl {b : Bool} : res h (.bl b) = some (.bl b) := rfl
theorem r_int : res h (.int i) = some (.int i) := rfl
theorem r_str {s : Str} : res h (.str s) = some (.str s) := rfl
theorem r_tup (q : noLocL l = true) : res h (.tup l) = some (.tup l) := by simp [res, Val.noLoc, q]
theorem r_lst (q : noLocL l = true) : res h (.lst l) = some (.lst l) := by simp [res, Val.noLoc, q]
theorem r_scr (q : noLocL l = true) : res h (.scr l) = some (.scr l) := by simp [res, Val.noLoc, q]
theorem r_loc {n : Nat} : res h (.loc n) = (h[n]?.bind lob).bind gu := by
  simp only [res]
  cases h[n]? with
  | none => rfl
  | some o => cases o <;> rfl
theorem ho_nil {bs : List Bool} : handOn h bs [] = some [] := by cases bs <;> simp [handOn]
theorem ho_e : handOn h [] (v :: l) = (res h v).bind fun x => (handOn h [] l).map (x :: ·) := by simp [handOn]
theorem ho_f {bs : List Bool} : handOn h (false :: bs) (v :: l) = (res h v).bind fun x => (handOn h bs l).map (x :: ·) := by simp [handOn]
theorem ho_t {bs : List Bool} {n : Nat} : handOn h (true :: bs) (.loc n :: l) = ((h[n]?.bind lob).bind gu).bind fun x => (handOn h bs l).map (x :: ·) := by
  simp only [handOn]
  cases h[n]? with
  | none => rfl
  | some o =>
    cases o with
    | dict _ _ => rfl
    | list m =>
      show (if noLocL m = true then _ else _) = (gu m).bind _
      unfold gu
      split <;> rfl
/-- what a call comes to; is: the changed lists, ro: the lent ones -/
def Ret.fin (r : Ret) (is ro : List Nat) (h : Heap) : Res (Val × Bool) := if distinct is && is.all (fun n => !ro.contains n) then
    match r with
    | .ret o => if ro.isEmpty || (noLstOut o && o.outs.all noLstL) then
        match putBack is o.outs h with
        | none => .bad
        | some h1 => .ok (o.v, o.own) h1
      else .bad
    | _ => .bad
  else .bad
theorem do_call {cb : CB} {f : Nat} {io : List Bool} {vs : List Val} : doCall cb f io vs h = (Res.ofO (handOn h io vs) h).bnd fun ws h1 => Ret.fin (cb f ws) (ioAt io vs) (roAt io vs) h1 := by
  unfold doCall Res.ofO Res.bnd Ret.fin
  cases handOn h io vs with
  | none => rfl
  | some ws =>
    simp only
    split
    · cases cb f ws <;> rfl
    · rfl
theorem fin_0 {b : Bool} : Ret.fin (.ret ⟨v, b, []⟩) [] [] h = .ok (v, b) h := rfl
theorem fin_1 {b : Bool} {n : Nat} : Ret.fin (.ret ⟨v, b, [l]⟩) [n] [] h = .ok (v, b) (h.set n (.list l)) := rfl
theorem fin_ro {b : Bool} {ro : List Nat} (q : noLstOut ⟨v, b, []⟩ = true) : Ret.fin (.ret ⟨v, b, []⟩) [] ro h = .ok (v, b) h := by
  simp [Ret.fin, distinct, q, putBack]
theorem fin_rob {b : Bool} {ro : List Nat} : Ret.fin (.ret ⟨.bl b, false, []⟩) [] ro h = .ok (.bl b, false) h := fin_ro rfl
theorem fin_roi {i : Int} {ro : List Nat} : Ret.fin (.ret ⟨.int i, false, []⟩) [] ro h = .ok (.int i, false) h := fin_ro rfl
theorem fin_ron {ro : List Nat} : Ret.fin (.ret ⟨.non, false, []⟩) [] ro h = .ok (.non, false) h := fin_ro rfl
theorem fin_1r {b : Bool} {n k : Nat} (q : noLstOut ⟨v, b, [l]⟩ = true) (q2 : noLstL l = true) (q3 : n ≠ k) : Ret.fin (.ret ⟨v, b, [l]⟩) [n] [k] h = .ok (v, b) (h.set n (.list l)) := by
  simp [Ret.fin, distinct, q, q2, putBack, q3]
theorem lv_non {m : Nat} : leaveV m .non h = some (.non, false) := rfl
theorem lv_bl {m : Nat} {b : Bool} : leaveV m (.bl b) h = some (.bl b, false) := rfl
theorem lv_int {m : Nat} : leaveV m (.int i) h = some (.int i, false) := rfl
theorem lv_str {m : Nat} {s : Str} : leaveV m (.str s) h = some (.str s, false) := rfl
theorem lv_tup {m : Nat} (q : noLocL l = true) : leaveV m (.tup l) h = some (.tup l, false) := by simp [leaveV, Val.noLoc, q]
theorem lv_lst' {m : Nat} (q : noLocL l = true) : leaveV m (.lst l) h = some (.lst l, false) := by simp [leaveV, Val.noLoc, q]
theorem lv_loc' {m n : Nat} (q0 : m ≤ n) : leaveV m (.loc n) h = ((h[n]?.bind lob).bind gu).map (·, true) := by
  simp only [leaveV, q0, if_true]
  cases h[n]? with
  | none => rfl
  | some o =>
    cases o with
    | dict _ _ => rfl
    | list m =>
      show (if noLocL m = true then _ else _) = (gu m).map _
      unfold gu
      split <;> rfl
theorem to_0 : takeOuts 0 h = some [] := by cases h <;> rfl
theorem to_s {m : Nat} (q : noLocL l = true) : takeOuts (m + 1) (.list l :: h) = (takeOuts m h).map (l :: ·) := by simp [takeOuts, q]
theorem to_1 (q : noLocL l = true) : takeOuts 1 (.list l :: h) = some [l] := by simp [takeOuts, q]
theorem to_2 {m : List Val} (q : noLocL l = true) (q2 : noLocL m = true) : takeOuts 2 (.list l :: .list m :: h) = some [l, m] := by simp [takeOuts, q, q2]
theorem leave_eq {m : Nat} : leave m v h = (match takeOuts m h, leaveV m v h with
  | some outs, some p => .ret ⟨p.1, p.2, outs⟩
  | _, _ => .bad) := rfl
theorem nl_nil : noLocL [] = true := rfl
theorem nl_int : noLocL (.int i :: l) = noLocL l := by simp [noLocL, Val.noLoc]
theorem nl_bl {b : Bool} : noLocL (.bl b :: l) = noLocL l := by simp [noLocL, Val.noLoc]
theorem nl_non : noLocL (.non :: l) = noLocL l := by simp [noLocL, Val.noLoc]
theorem nl_str {s : Str} : noLocL (.str s :: l) = noLocL l := by simp [noLocL, Val.noLoc]
theorem nl_tup {m : List Val} : noLocL (.tup m :: l) = (noLocL m && noLocL l) := by simp [noLocL, Val.noLoc]
theorem nl_lst {m : List Val} : noLocL (.lst m :: l) = (noLocL m && noLocL l) := by simp [noLocL, Val.noLoc]
theorem nl_app : ∀ {l m : List Val}, noLocL (l ++ m) = (noLocL l && noLocL m)
  | [], m => by simp [noLocL]
  | x :: l, m => by simp only [List.cons_append, noLocL, nl_app, Bool.and_assoc]
theorem nl_map {f : α → Val} (q : ∀ x, (f x).noLoc = true) : ∀ {L : List α}, noLocL (L.map f) = true
  | [] => rfl
  | a :: L => by simp [noLocL, q, nl_map q (L := L)]
theorem nl_ints {L : List Int} : noLocL (L.map Val.int) = true := nl_map fun _ => rfl
def appG (n : Nat) (v : Val) (h : Heap) (l : List Val) : Option Heap := if l.length < SZ then some (h.set n (.list (l ++ [v]))) else none
theorem app_eq {n : Nat} : appL n v h = (h[n]?.bind lob).bind (appG n v h) := by
  simp only [appL]
  cases h[n]? with
  | none => rfl
  | some o => cases o <;> rfl
theorem app_ok {n : Nat} (q2 : l.length < 16777216) : appG n v h l = some (h.set n (.list (l ++ [v]))) := by simp [appG, SZ, q2]
def insG (n : Nat) (i : Int) (v : Val) (h : Heap) (l : List Val) : Option Heap := if decide (0 ≤ i) && decide (i < 2 ^ 63) && decide (l.length < SZ) then some (h.set n (.list (l.take i.toNat ++ [v] ++ l.drop i.toNat))) else none
theorem ins_eq {n : Nat} : insL n (.int i) v h = (h[n]?.bind lob).bind (insG n i v h) := by
  simp only [insL]
  cases h[n]? with
  | none => rfl
  | some o => cases o <;> rfl
def setG (n : Nat) (i : Int) (v : Val) (h : Heap) (l : List Val) : Option Heap := (ixN l.length i).map fun m => h.set n (.list (l.set m v))
theorem setI_eq {n : Nat} : setIL (.loc n) (.int i) v h = (h[n]?.bind lob).bind (setG n i v h) := by
  simp only [setIL]
  cases h[n]? with
  | none => rfl
  | some o =>
    cases o with
    | dict _ _ => rfl
    | list l =>
      show (match ixN l.length i with
        | some m => some (h.set n (.list (l.set m v)))
        | none => none) = setG n i v h l
      unfold setG
      cases ixN l.length i <;> rfl
def setSG (n : Nat) (i j : Int) (r : List Val) (h : Heap) (l : List Val) : Option Heap := if decide (0 ≤ i) && decide (i ≤ j) && decide (j ≤ l.length) && decide (l.length + r.length ≤ SZ) then some (h.set n (.list (l.take i.toNat ++ r ++ l.drop j.toNat))) else none
theorem setS_eq {n : Nat} {r : List Val} : setSL (.loc n) (some i) (some j) (.lst r) h = (h[n]?.bind lob).bind (setSG n i j r h) := by
  simp only [setSL]
  cases h[n]? with
  | none => rfl
  | some o => cases o <;> rfl
def popG (n : Nat) (h : Heap) (l : List Val) : Res Val := match l.getLast? with
  | some v => .ok v (h.set n (.list l.dropLast))
  | none => .bad
theorem pop_eq {n : Nat} : popL (.loc n) h = (Res.ofO (h[n]?.bind lob) h).bnd fun l _ => popG n h l := by
  simp only [popL]
  cases h[n]? with
  | none => rfl
  | some o => cases o <;> rfl
def remG (n : Nat) (v : Val) (h : Heap) (l : List Val) : Option Heap := if okDL 60 l && v.okD 60 && decide (l.length ≤ SZ) then (placeV l v).map fun j => h.set n (.list (l.take j ++ l.drop (j + 1))) else none
theorem rem_eq {n : Nat} : remL n v h = (h[n]?.bind lob).bind (remG n v h) := by
  simp only [remL]
  cases h[n]? with
  | none => rfl
  | some o =>
    cases o with
    | dict _ _ => rfl
    | list l =>
      show (if okDL 60 l && v.okD 60 && decide (l.length ≤ SZ) then (match placeV l v with
        | some j => some (h.set n (.list (l.take j ++ l.drop (j + 1))))
        | none => none) else none) = remG n v h l
      unfold remG
      cases placeV l v <;> rfl
theorem ins_ok {n : Nat} (h0 : 0 ≤ i) (h1 : i < 9223372036854775808) (q2 : l.length < 16777216) : insG n i v h l = some (h.set n (.list (l.take i.toNat ++ [v] ++ l.drop i.toNat))) := by
  have : i < 2 ^ 63 := by omega
  simp only [insG, SZ, q2, h0, this, decide_true, Bool.and_self, if_true]
theorem setI_ok {n : Nat} (h0 : 0 ≤ i) (h1 : i < l.length) : setG n i v h l = some (h.set n (.list (l.set i.toNat v))) := by simp [setG, ixN, h0, h1]
theorem setS_ok {n : Nat} {r : List Val} (h0 : 0 ≤ i) (h1 : i ≤ j) (h2 : j ≤ l.length) (h3 : l.length + r.length ≤ 16777216) : setSG n i j r h l = some (h.set n (.list (l.take i.toNat ++ r ++ l.drop j.toNat))) := by
  simp [setSG, SZ, h0, h1, h2, h3]
theorem pop_ok {n : Nat} {m : List Val} : popG n h (m ++ [v]) = .ok v (h.set n (.list m)) := by simp [popG]
theorem pop_1 {n : Nat} : popG n h [v] = .ok v (h.set n (.list [])) := rfl
end
section
variable {α β : Type} {h h0 : Heap} {env : Env}
theorem st_nil : stays [] h0 h = true := rfl
theorem st_refl {lock : List Nat} : stays lock h h = true := by simp [stays]
theorem comp_fm {F : Val → M (Option Val)} {f : α → Val} {p : α → Bool} {g : α → Val} {lock : List Nat} : ∀ {L : List α}, (∀ x ∈ L, F (f x) h = .ok (if p x then some (g x) else none) h) → compL F lock h (L.map f) h = .ok ((L.filter p).map g) h
  | [], _ => rfl
  | x :: r, q => by
    rw [List.map_cons, compL, q x List.mem_cons_self]
    simp only [st_refl, if_true]
    rw [comp_fm fun y hy => q y (List.mem_cons_of_mem _ hy)]
    cases hp : p x <;> simp [consO, hp]
theorem comp_m {F : Val → M (Option Val)} {f : α → Val} {g : α → Val} {lock : List Nat} {L : List α} (q : ∀ x ∈ L, F (f x) h = .ok (some (g x)) h) : compL F lock h (L.map f) h = .ok (L.map g) h := by
  have := comp_fm (p := fun _ => true) (lock := lock) (h := h) (F := F) (f := f) (g := g) (L := L) fun x hx => by simpa using q x hx
  rw [List.filter_eq_self.mpr fun _ _ => rfl] at this
  exact this
theorem turn_eq {T : List Val} {cb : CB} {own : List Nat} {tg : Tg} {cs e : IE} {x : Val} : turnF T cb env own tg cs e x h =
  (Res.ofO (bindT tg x (wipe own env)) h).bnd fun env1 h1 => (evalC T cb env1 cs h1).bnd fun t h2 => Res.cnd t ((evalE T cb env1 e h2).bnd fun v h3 => .ok (some v) h3) (.ok none h2) := rfl
/-- a loop that goes through, by an invariant -/
theorem for_inv {bd : Env → S} {tg : Tg} {lock : List Nat} (Inv : Env → Heap → Prop) : ∀ {l : List Val}, (∀ x ∈ l, ∀ env h, Inv env h → ∃ env1 e2 h2, bindT tg x env = some env1 ∧ (bd env1 h = .ok (.nx e2) h2 ∨ bd env1 h = .ok (.ct e2) h2) ∧ stays lock h0 h2 = true ∧ Inv e2 h2) →
    ∀ env h, Inv env h → ∃ e h', forL bd tg lock h0 l env h = .ok (.nx e) h' ∧ Inv e h'
  | [], _, env, h, i => ⟨env, h, rfl, i⟩
  | x :: r, q, env, h, i => by
    obtain ⟨env1, e2, h2, b1, b2, b3, b4⟩ := q x List.mem_cons_self env h i
    obtain ⟨e, h', f1, f2⟩ := for_inv Inv (fun y hy => q y (List.mem_cons_of_mem _ hy)) e2 h2 b4
    refine ⟨e, h', ?_, f2⟩
    rw [forL, b1]
    rcases b2 with b2 | b2 <;> (simp only [b2, b3, if_true]; exact f1)
/-- a loop that folds -/
theorem for_fold {σ : Type} {bd : Env → S} {tg : Tg} {lock : List Nat} {f : α → Val} (E : σ → Env) (K : σ → Heap) (step : σ → α → σ) (P : σ → Prop) : ∀ {L : List α} {s : σ}, (∀ x ∈ L, ∀ s, P s → ∃ env1, bindT tg (f x) (E s) = some env1 ∧ (bd env1 (K s) = .ok (.nx (E (step s x))) (K (step s x)) ∨ bd env1 (K s) = .ok (.ct (E (step s x))) (K (step s x))) ∧ stays lock h0 (K (step s x)) = true ∧ P (step s x)) →
    P s → forL bd tg lock h0 (L.map f) (E s) (K s) = .ok (.nx (E (L.foldl step s))) (K (L.foldl step s)) ∧ P (L.foldl step s)
  | [], s, _, p => ⟨rfl, p⟩
  | x :: r, s, q, p => by
    obtain ⟨env1, b1, b2, b3, b4⟩ := q x List.mem_cons_self s p
    obtain ⟨f1, f2⟩ := for_fold E K step P (L := r) (s := step s x) (fun y hy => q y (List.mem_cons_of_mem _ hy)) b4
    refine ⟨?_, f2⟩
    rw [List.map_cons, forL, b1]
    rcases b2 with b2 | b2 <;> (simp only [b2, b3, if_true]; exact f1)
end
end MP

namespace MP
open PySem (Str)
abbrev Room := Int × Int
def eR (r : Room) : Val := .tup [.int r.1, .int r.2]
abbrev rt (v : Val) : Ret := .ret ⟨v, false, []⟩
def Tall (t : Int) : Prop := t = 4 ∨ t = 5 ∨ t = 6 ∨ t = 7 ∨ t = 8
def szs (t : Int) : List Int := (List.range (t - 2).toNat).map fun i => 8 * 2 ^ i
theorem Tall.bd {t : Int} (h : Tall t) : 4 ≤ t ∧ t ≤ 8 := by unfold Tall at h; omega
theorem mem_szs {t b : Int} (ht : Tall t) : b ∈ szs t ↔ (b = 8 ∨ b = 16 ∨ (b = 32 ∧ 5 ≤ t) ∨ (b = 64 ∧ 6 ≤ t) ∨ (b = 128 ∧ 7 ≤ t) ∨ (b = 256 ∧ 8 ≤ t)) := by
  rcases ht with rfl | rfl | rfl | rfl | rfl <;> (simp [szs, List.range_succ, List.range_zero]; try omega)
def pw (t : Int) : Int := 2 ^ t.toNat
theorem pw_cases {t : Int} (ht : Tall t) : (t = 4 ∧ pw t = 16) ∨ (t = 5 ∧ pw t = 32) ∨ (t = 6 ∧ pw t = 64) ∨ (t = 7 ∧ pw t = 128) ∨ (t = 8 ∧ pw t = 256) := by
  rcases ht with rfl | rfl | rfl | rfl | rfl <;> simp [pw]
theorem pw_bd {t : Int} (ht : Tall t) : 16 ≤ pw t ∧ pw t ≤ 256 := by have := pw_cases ht; omega
/-- a room of the ground -/
def Valid (t : Int) (r : Room) : Prop := r.2 ∈ szs t ∧ 0 ≤ r.1 ∧ r.1 + r.2 ≤ pw t ∧ r.1 % r.2 = 0
theorem szs_bd {t b : Int} (ht : Tall t) (h : b ∈ szs t) : 8 ≤ b ∧ b ≤ pw t ∧ pw t % b = 0 := by
  rw [mem_szs ht] at h
  have := pw_cases ht
  rcases h with h | h | h | h | h | h <;> (first | (obtain ⟨h, _⟩ := h; subst h) | subst h) <;> omega
theorem Valid.bd {t : Int} {r : Room} (ht : Tall t) (h : Valid t r) : 8 ≤ r.2 ∧ r.2 ≤ 256 ∧ 0 ≤ r.1 ∧ r.1 < 256 ∧ r.1 + r.2 ≤ 256 := by
  have h1 := szs_bd ht h.1
  have h2 := pw_bd ht
  have h3 := h.2.1
  have h4 := h.2.2.1
  omega
theorem eR_nl (r : Room) : (eR r).noLoc = true := rfl
theorem nl_rooms {L : List Room} : noLocL (L.map eR) = true := nl_map eR_nl
theorem nl_eR {r : Room} {l : List Val} : noLocL (eR r :: l) = noLocL l := by simp [noLocL, eR_nl]
theorem r_eR {h : Heap} {r : Room} : res h (eR r) = some (eR r) := rfl
theorem q_eR {h : Heap} {r : Room} : seqV h (eR r) = some [.int r.1, .int r.2] := rfl
theorem eR_eqv {a b : Room} : (eR a).eqv (eR b) = decide (a = b) := by
  obtain ⟨a1, a2⟩ := a
  obtain ⟨b1, b2⟩ := b
  simp only [eR, Val.eqv, eqvL, Bool.and_true, Prod.mk.injEq, Bool.decide_and]
  by_cases h1 : a1 = b1 <;> by_cases h2 : a2 = b2 <;> simp [h1, h2]
theorem rooms_eqv : ∀ {L M : List Room}, eqvL (L.map eR) (M.map eR) = decide (L = M)
  | [], [] => rfl
  | [], b :: M => by simp [eqvL]
  | a :: L, [] => by simp [eqvL]
  | a :: L, b :: M => by
    simp only [List.map_cons, eqvL, eR_eqv, rooms_eqv, List.cons.injEq, Bool.decide_and]
theorem okD_int {n : Nat} {i : Int} : (Val.int i).okD n = true := by cases n <;> rfl
theorem eR_ok (n : Nat) {a : Room} : (eR a).okD (n + 1) = true := by
  show okDL n [.int a.1, .int a.2] = true
  simp only [okDL, okD_int, Bool.and_self]
theorem rooms_ok (n : Nat) : ∀ {L : List Room}, okDL (n + 1) (L.map eR) = true
  | [] => rfl
  | a :: L => by simp [okDL, eR_ok, rooms_ok n]
theorem c_eqR {h : Heap} {a b : Room} : cmpV h .eq (eR a) (eR b) = some (decide (a = b)) := by
  rw [← eR_eqv]; rfl
theorem c_eqRL {h : Heap} {L M : List Room} : cmpV h .eq (.lst (L.map eR)) (.lst (M.map eR)) = some (decide (L = M)) := by
  simp only [cmpV, eqV, r_lst nl_rooms, Val.okD, rooms_ok 58, Val.eqv, rooms_eqv, Bool.and_self, if_true]
theorem c_eqRT {h : Heap} {L M : List Room} : cmpV h .eq (.tup (L.map eR)) (.tup (M.map eR)) = some (decide (L = M)) := by
  simp only [cmpV, eqV, r_tup nl_rooms, Val.okD, rooms_ok 58, Val.eqv, rooms_eqv, Bool.and_self, if_true]
theorem mem_enum {α : Type} {f : α → Val} : ∀ {L : List α} {n : Nat} {x : Val}, x ∈ enumItems n (L.map f) → ∃ k y, L[k]? = some y ∧ x = .tup [.int (n + k : Nat), f y]
  | [], n, x, h => by cases h
  | a :: L, n, x, h => by
    rw [List.map_cons, enumItems] at h
    rcases List.mem_cons.mp h with rfl | h
    · exact ⟨0, a, rfl, rfl⟩
    · obtain ⟨k, y, h1, h2⟩ := mem_enum h
      exact ⟨k + 1, y, by simpa using h1, by rw [h2]; congr 3; omega⟩
/-- a loop that looks for something -/
theorem for_find {α : Type} {bd : Env → S} {tg : Tg} {lock : List Nat} {h : Heap} {f : α → Val} (Inv : Env → Prop) (p : α → Bool) (g : α → Val) : ∀ {L : List α} {env : Env},
    (∀ x ∈ L, ∀ env, Inv env → ∃ env1 e2, bindT tg (f x) env = some env1 ∧ (p x = true → bd env1 h = .ok (.rt (g x)) h) ∧ (p x = false → (bd env1 h = .ok (.nx e2) h ∨ bd env1 h = .ok (.ct e2) h) ∧ Inv e2)) → Inv env →
    (match L.find? p with
      | some x => forL bd tg lock h (L.map f) env h = .ok (.rt (g x)) h
      | none => ∃ e, forL bd tg lock h (L.map f) env h = .ok (.nx e) h ∧ Inv e)
  | [], env, _, i => ⟨env, rfl, i⟩
  | x :: r, env, q, i => by
    obtain ⟨env1, e2, b1, b2, b3⟩ := q x List.mem_cons_self env i
    rw [List.find?_cons]
    cases hp : p x with
    | true =>
      show forL bd tg lock h (f x :: r.map f) env h = _
      rw [forL, b1]; simp only [b2 hp]
    | false =>
      have ih := for_find (lock := lock) Inv p g (L := r) (env := e2) (fun y hy => q y (List.mem_cons_of_mem _ hy)) (b3 hp).2
      have e : forL bd tg lock h ((x :: r).map f) env h = forL bd tg lock h (r.map f) e2 h := by
        rw [List.map_cons, forL, b1]
        rcases (b3 hp).1 with z | z <;> (simp only [z, st_refl, if_true])
      rw [e]; exact ih
def Disj (a b : Room) : Prop := a.1 + a.2 ≤ b.1 ∨ b.1 + b.2 ≤ a.1
theorem Disj.symm {a b : Room} (h : Disj a b) : Disj b a := h.elim .inr .inl
/-- growing, no two of which meet -/
def OutOk (t : Int) (L : List Room) : Prop := (∀ r ∈ L, Valid t r) ∧ L.Pairwise fun a b => a.1 + a.2 ≤ b.1
def lePair (a b : Room) : Bool := decide (a.1 < b.1 ∨ (a.1 = b.1 ∧ a.2 ≤ b.2))
theorem OutOk.nil {t : Int} : OutOk t [] := ⟨fun _ h => by simp at h, List.Pairwise.nil⟩
/-- how many rooms there can be -/
theorem len_of_sum {t : Int} (ht : Tall t) : ∀ {L : List Room}, (∀ r ∈ L, Valid t r) → (L.length : Int) * 8 ≤ (L.map (·.2)).sum
  | [], _ => by simp
  | a :: L, h => by
    have h1 := len_of_sum ht (L := L) fun r hr => h r (List.mem_cons_of_mem _ hr)
    have h2 := (h a List.mem_cons_self).bd ht
    simp only [List.length_cons, List.map_cons, List.sum_cons]
    omega
theorem out_sum {t : Int} (ht : Tall t) : ∀ {L : List Room} {m : Int}, (∀ r ∈ L, Valid t r) → L.Pairwise (fun a b => a.1 + a.2 ≤ b.1) → (∀ r ∈ L, m ≤ r.1) → m ≤ pw t → m + (L.map (·.2)).sum ≤ pw t
  | [], m, _, _, _, hm => by simpa using hm
  | a :: L, m, hv, hp, h0, hm => by
    have va := hv a List.mem_cons_self
    have p2 := List.pairwise_cons.mp hp
    have := out_sum ht (L := L) (m := a.1 + a.2) (fun r hr => hv r (List.mem_cons_of_mem _ hr)) p2.2 (fun r hr => p2.1 r hr) va.2.2.1
    have h1 := h0 a List.mem_cons_self
    simp only [List.map_cons, List.sum_cons]
    omega
theorem OutOk.len {t : Int} (ht : Tall t) {L : List Room} (h : OutOk t L) : L.length ≤ 32 := by
  have h1 := out_sum ht (m := 0) h.1 h.2 (fun r hr => (h.1 r hr).2.1) (by have := pw_bd ht; omega)
  have h2 := len_of_sum ht h.1
  have := pw_bd ht
  omega
theorem lePair_total (a b : Room) : (lePair a b || lePair b a) = true := by
  simp only [lePair, Bool.or_eq_true, decide_eq_true_eq]; omega
theorem lePair_trans (a b c : Room) (h : lePair a b = true) (k : lePair b c = true) : lePair a c = true := by
  simp only [lePair, decide_eq_true_eq] at *; omega
/-- rooms apart, sorted -/
theorem out_sorted {t : Int} (ht : Tall t) {L : List Room} (hv : ∀ r ∈ L, Valid t r) (hd : L.Pairwise Disj) : OutOk t (L.mergeSort lePair) := by
  have hp := List.mergeSort_perm L lePair
  refine ⟨fun r hr => hv r (hp.mem_iff.mp hr), ?_⟩
  have h1 : (L.mergeSort lePair).Pairwise Disj := (hp.pairwise_iff fun h => h.symm).mpr hd
  have h2 := List.pairwise_mergeSort (le := lePair) lePair_trans lePair_total L
  have h3 := h1.and h2
  refine h3.imp_of_mem fun {a b} ha hb ⟨d, l⟩ => ?_
  have va := (hv a (hp.mem_iff.mp ha)).bd ht
  have vb := (hv b (hp.mem_iff.mp hb)).bd ht
  simp only [lePair, decide_eq_true_eq] at l
  rcases d with d | d
  · exact d
  · omega
theorem pd_eR (r : Room) : pd (eR r) = .tuple [.int r.1, .int r.2] := by simp [eR, pd, pdL]
theorem alike_rooms (a b : Room) : PySem.W.alike (pd (eR a)) (pd (eR b)) = true := by
  rw [pd_eR, pd_eR]; simp [PySem.W.alike, PySem.W.alikeAll]
theorem le_eR (a b : Room) : PySem.W.dataLe false pd (eR a) (eR b) = lePair a b := by
  have h := congrFun (congrFun (PySem.W.dataLe_ii (β := Room) (fun r => r.1) (fun r => r.2)) a) b
  have e : PySem.W.dataLe false pd (eR a) (eR b) = PySem.W.dataLe false (fun r : Room => PySem.PyData.tuple [.int r.1, .int r.2]) a b := by
    simp only [PySem.W.dataLe_eq, pd_eR]
  rw [e, h]; rfl
theorem sort_rooms {L : List Room} (h : L.length ≤ 16777216) : sortV (L.map eR) = some ((L.mergeSort lePair).map eR) := by
  have ok : sortable (L.map eR) = true := by
    simp only [sortable, Bool.and_eq_true, Bool.or_eq_true, decide_eq_true_eq]
    refine ⟨⟨⟨rooms_ok 59, ?_⟩, .inl ?_⟩, by simpa [SZ] using h⟩
    · rw [List.all_eq_true]
      intro a ha
      rw [List.all_eq_true]
      intro b hb
      obtain ⟨x, _, rfl⟩ := List.mem_map.mp ha
      obtain ⟨y, _, rfl⟩ := List.mem_map.mp hb
      exact alike_rooms x y
    · rw [List.all_eq_true]
      intro a ha
      obtain ⟨x, _, rfl⟩ := List.mem_map.mp ha
      rfl
  unfold sortV
  rw [if_pos ok, ← List.map_mergeSort (r := lePair) (s := PySem.W.dataLe false pd) fun a _ b _ => (le_eR a b).symm]
def tkR (a c m : Int) : Int := if c = 0 then a % m else (1 + (c * 39373 + 7919) % 2147483587) * 30269 % 2147483563 / 11 % m
def tkA (a c m : Int) : Int := if c = 0 then a / m else a
def tkC (a c m : Int) : Int := if c = 0 then c else 1 + (c * 39373 + 7919) % 2147483587
theorem tk_bd {a c m : Int} (h : 0 < m) : 0 ≤ tkR a c m ∧ tkR a c m < m := by
  unfold tkR
  split
  · exact ⟨Int.emod_nonneg _ (by omega), Int.emod_lt_of_pos _ h⟩
  · exact ⟨Int.emod_nonneg _ (by omega), Int.emod_lt_of_pos _ h⟩
/-- the halves of a room -/
theorem Valid.halves {t s b : Int} (ht : Tall t) (h : Valid t (s, b)) (hb : 8 < b) : Valid t (s, b / 2) ∧ Valid t (s + b / 2, b / 2) ∧ b / 2 * 2 = b := by
  obtain ⟨h1, h2, h3, h4⟩ := h
  simp only at h1 h2 h3 h4
  rw [mem_szs ht] at h1
  have hp := pw_cases ht
  refine ⟨⟨(mem_szs ht).mpr ?_, h2, ?_, ?_⟩, ⟨(mem_szs ht).mpr ?_, ?_, ?_, ?_⟩, ?_⟩ <;> (try simp only) <;> first | omega | (rcases h1 with h1 | h1 | h1 | h1 | h1 | h1 <;> (first | (obtain ⟨h1, _⟩ := h1; subst h1) | subst h1) <;> omega)
theorem Valid.whole {t : Int} (ht : Tall t) : Valid t (0, pw t) := by
  refine ⟨(mem_szs ht).mpr ?_, Int.le_refl _, by simp, by simp⟩
  have := pw_cases ht
  simp only
  omega
end MP
namespace MP
theorem all_mapid {α : Type} {p : α → Bool} {L : List α} : (L.map p).all id = L.all p := by simp [List.all_map]
theorem any_mapid {α : Type} {p : α → Bool} {L : List α} : (L.map p).any id = L.any p := by simp [List.any_map]
end MP
namespace MP
theorem ro_eR {r : Room} {l : List Val} : roAt [] (eR r :: l) = roAt [] l := by simp [roAt, eR]
theorem ro_eRf {r : Room} {b : Bool} {bs : List Bool} {l : List Val} : roAt (b :: bs) (eR r :: l) = roAt bs l := by cases b <;> simp [roAt, eR]
end MP
namespace MP
theorem mem_enum0 {α : Type} {f : α → Val} {L : List α} {x : Val} (h : x ∈ enumItems 0 (L.map f)) : ∃ (k : Nat) (j : Int) (y : α), j = k ∧ L[k]? = some y ∧ x = .tup [.int j, f y] := by
  obtain ⟨k, y, h1, h2⟩ := mem_enum h
  exact ⟨k, _, y, rfl, h1, by rw [h2, Nat.zero_add]⟩
end MP
namespace MP
/-- all rooms of a size -/
def roomsOf (t s : Int) : List Room := (List.range (pw t / s).toNat).map fun (i : Nat) => ((i : Int) * s, s)
theorem roomsOf_snd {t s : Int} {r : Room} (h : r ∈ roomsOf t s) : r.2 = s := by
  obtain ⟨i, _, rfl⟩ := List.mem_map.mp h
  rfl
theorem roomsOf_len {t s : Int} (ht : Tall t) (hs : s ∈ szs t) : (roomsOf t s).length ≤ 32 := by
  unfold roomsOf
  rw [List.length_map, List.length_range]
  have h1 := szs_bd ht hs
  have h2 := pw_bd ht
  have : pw t / s ≤ pw t / 8 := by
    rw [mem_szs ht] at hs
    rcases hs with h | h | h | h | h | h <;> (first | (obtain ⟨h, _⟩ := h; subst h) | subst h) <;> omega
  omega
theorem rng3_sz {t s : Int} (ht : Tall t) (hs : s ∈ szs t) : rngI3 (.int 0) (.int (pw t)) (.int s) = some ⟨(roomsOf t s).map fun r => .int r.1, []⟩ := by
  rw [mem_szs ht] at hs
  rcases ht with rfl | rfl | rfl | rfl | rfl <;> rcases hs with h | h | h | h | h | h <;> (first | (obtain ⟨h, z⟩ := h; first | omega | skip; subst h) | subst h) <;> rfl
end MP
namespace MP
theorem pw_fold {t : Int} : (1 : Int) * 2 ^ t.toNat = pw t := by rw [Int.one_mul]; rfl
theorem hp_get {h : Heap} {o : LObj} : (h ++ [o])[h.length]? = some o := by simp
theorem hp_set {h : Heap} {o p : LObj} : (h ++ [o]).set h.length p = h ++ [p] := by simp
theorem rng1_ok {n : Int} (h : -4611686018427387904 ≤ n ∧ n < 4611686018427387904) : rngI1 (.int n) = some ⟨(List.range n.toNat).map fun (i : Nat) => .int i, []⟩ := by
  have e : inR n = true := by simp only [inR, Bool.and_eq_true, decide_eq_true_eq]; omega
  simp only [rngI1, e, if_true, rngItems, Int.zero_add, Int.mul_one]
theorem rep1 {k : Nat} {s : Int} : (List.replicate k [Val.int s]).flatten = (List.replicate k s).map Val.int := by
  induction k with
  | zero => rfl
  | succ k ih => rw [List.replicate_succ, List.flatten_cons, ih, List.replicate_succ]; rfl
/-- a loop by what is left of it -/
theorem for_rest {α : Type} {bd : Env → S} {tg : Tg} {lock : List Nat} {h0 : Heap} {f : α → Val} (Inv : List α → Env → Heap → Prop)
    (turn : ∀ x r env h, Inv (x :: r) env h → ∃ env1 e2 h2, bindT tg (f x) env = some env1 ∧ (bd env1 h = .ok (.nx e2) h2 ∨ bd env1 h = .ok (.ct e2) h2) ∧ stays lock h0 h2 = true ∧ Inv r e2 h2) :
    ∀ {L : List α} {env : Env} {h : Heap}, Inv L env h → ∃ e h', forL bd tg lock h0 (L.map f) env h = .ok (.nx e) h' ∧ Inv [] e h'
  | [], env, h, i => ⟨env, h, rfl, i⟩
  | x :: r, env, h, i => by
    obtain ⟨env1, e2, h2, b1, b2, b3, b4⟩ := turn x r env h i
    obtain ⟨e, h', f1, f2⟩ := for_rest Inv turn b4
    refine ⟨e, h', ?_, f2⟩
    rw [List.map_cons, forL, b1]
    rcases b2 with b2 | b2 <;> (simp only [b2, b3, if_true]; exact f1)
theorem cut_one {ns : List Int} {k : Int} (h : 0 ≤ k) : ∃ x r, cut (ns.map Val.int) (some k) (some (k + 1)) ++ [Val.int 0] = .int x :: r := by
  show ∃ x r, List.take _ (List.drop _ (ns.map Val.int)) ++ [Val.int 0] = .int x :: r
  rw [← List.map_drop, ← List.map_take]
  generalize (List.take _ (List.drop _ ns)) = m
  cases m with
  | nil => exact ⟨0, [], rfl⟩
  | cons x r => exact ⟨x, r.map Val.int ++ [.int 0], rfl⟩
theorem cut_len {l : List Val} {a b : Option Int} : (cut l a b).length ≤ l.length := by
  unfold cut
  rw [List.length_take, List.length_drop]; omega
end MP
namespace MP
theorem bt_eR {tg : Tg} {r : Room} {env : Env} : bindT (.t tg) (eR r) env = bindTs tg [.int r.1, .int r.2] env := rfl
def neG (l : List Val) : Option Bool := if noLocL l && okDL 59 l then some !l.isEmpty else none
theorem ne_nil {n : Nat} {h : Heap} : cmpV h .ne (.loc n) (.lst []) = (h[n]?.bind lob).bind neG := by
  simp only [cmpV, eqV, r_loc, r_lst nl_nil]
  cases h[n]? with
  | none => rfl
  | some o =>
    cases o with
    | dict _ _ => rfl
    | list l =>
      simp only [Option.bind_some, lob, gu, neG]
      cases e : noLocL l with
      | false => rfl
      | true =>
        simp only [if_true, Val.okD, Bool.true_and, okDL, Bool.and_true]
        cases e2 : okDL 59 l with
        | false => rfl
        | true =>
          simp only [if_true, Option.map_some, Val.eqv]
          cases l <;> rfl
theorem neG_rooms {L : List Room} : neG (L.map eR) = some !L.isEmpty := by
  simp only [neG, nl_rooms, rooms_ok 58, Bool.and_self, if_true]
  cases L <;> rfl
theorem neG_rooms1 {L : List Room} {b : Room} : neG (L.map eR ++ [eR b]) = some true := by
  have := neG_rooms (L := L ++ [b])
  rw [List.map_append] at this
  rw [show L.map eR ++ [eR b] = L.map eR ++ List.map eR [b] from rfl, this]
  cases L <;> rfl
theorem neG_nil : neG [] = some false := rfl
end MP
namespace MP
theorem nl_rep {k : Nat} {l : List Val} (q : noLocL l = true) : noLocL (List.replicate k l).flatten = true := by
  induction k with
  | zero => rfl
  | succ k ih => rw [List.replicate_succ, List.flatten_cons, nl_app, q, ih]; rfl
def optI : Option Int → Val
  | some x => .int x
  | none => .non
theorem szs_len {t : Int} (ht : Tall t) : (szs t).length ≤ 6 := by
  have := ht.bd
  unfold szs
  rw [List.length_map, List.length_range]
  omega
theorem szs_rev {t : Int} (ht : Tall t) : (List.range (t - 2).toNat).map (fun (i : Nat) => pw t / 2 ^ i) = (szs t).reverse := by
  rcases ht with rfl | rfl | rfl | rfl | rfl <;> rfl
end MP
namespace MP
theorem mem_shl {t w : Int} (h0 : 0 ≤ w) (h1 : w < t - 2) : 8 * 2 ^ w.toNat ∈ szs t := by
  unfold szs
  exact List.mem_map.mpr ⟨w.toNat, List.mem_range.mpr (by omega), rfl⟩
theorem OutOk.sub {t : Int} {L M : List Room} (h : OutOk t L) (s : M.Sublist L) : OutOk t M := ⟨fun r hr => h.1 r (s.subset hr), h.2.sublist s⟩
/-- a drawn height of a row -/
theorem pick {α : Type} {l : List α} {i : Int} (h0 : 0 ≤ i) (h1 : i < l.length) : ∃ x, x ∈ l ∧ atI l i = some x := by
  have h2 : i.toNat < l.length := by omega
  exact ⟨l[i.toNat], List.getElem_mem h2, by rw [at_ok h0 h1, List.getElem?_eq_getElem h2]⟩
end MP
namespace MP
theorem nl_rev : ∀ {l : List Val}, noLocL l.reverse = noLocL l
  | [] => rfl
  | x :: l => by
    rw [List.reverse_cons, nl_app, nl_rev]
    simp only [noLocL, Bool.and_true]
    exact Bool.and_comm _ _
def eP (p : Room × Bool) : Val := .tup [.int p.1.1, .int p.1.2, .bl p.2]
theorem nl_eP (p : Room × Bool) : (eP p).noLoc = true := rfl
theorem nl_parts {P : List (Room × Bool)} : noLocL (P.map eP) = true := nl_map nl_eP
theorem c_neR {h : Heap} {a b : Room} : cmpV h .ne (eR a) (eR b) = some (!decide (a = b)) := by
  rw [← eR_eqv]; rfl
theorem place_rooms {r : Room} : ∀ {M : List Room}, r ∈ M → ∃ j, placeV (M.map eR) (eR r) = some j ∧ (M.map eR).take j ++ (M.map eR).drop (j + 1) = (M.erase r).map eR
  | [], h => by cases h
  | a :: M, h => by
    unfold placeV
    rw [List.map_cons, List.findIdx?_cons, eR_eqv]
    by_cases e : a = r
    · subst e
      exact ⟨0, by simp, by simp⟩
    · have hm : r ∈ M := (List.mem_cons.mp h).resolve_left (Ne.symm e)
      obtain ⟨j, h1, h2⟩ := place_rooms hm
      unfold placeV at h1
      refine ⟨j + 1, by rw [h1]; simp [e], ?_⟩
      rw [List.take_succ_cons, List.drop_succ_cons, List.cons_append, h2, List.erase_cons_tail (by simpa using e), List.map_cons]
theorem rem_ok {n : Nat} {h : Heap} {M : List Room} {r : Room} (hm : r ∈ M) (hl : M.length ≤ 16777216) : remG n (eR r) h (M.map eR) = some (h.set n (.list ((M.erase r).map eR))) := by
  obtain ⟨j, h1, h2⟩ := place_rooms hm
  have hl2 : (M.map eR).length ≤ SZ := by rw [List.length_map]; exact hl
  unfold remG
  rw [if_pos (by rw [rooms_ok 59, eR_ok 59, decide_eq_true hl2]; rfl), h1, Option.map_some, h2]
def memG (r : Room) (l : List Val) : Option Bool := if okDL 59 l then some (l.any fun y => y.eqv (eR r)) else none
theorem mem_loc {n : Nat} {h : Heap} {r : Room} : cmpV h .mem (eR r) (.loc n) = (h[n]?.bind lob).bind (memG r) := by
  simp only [cmpV, memV, r_eR, q_loc, lv_loc]
  have sc : scalar (eR r) = false := rfl
  cases h[n]? with
  | none => rfl
  | some o =>
    cases o with
    | dict _ _ => rfl
    | list l =>
      show (if (scalar (eR r) && l.all scalar) = true then _ else if (true && okDL 59 l && (eR r).okD 60) = true then some (l.any fun y => y.eqv (eR r)) else none) = memG r l
      rw [sc, eR_ok 59]
      simp only [Bool.false_and, Bool.true_and, Bool.and_true, Bool.false_eq_true, if_false]
      rfl
theorem memG_rooms {r : Room} {M : List Room} : memG r (M.map eR) = some (decide (r ∈ M)) := by
  unfold memG
  rw [if_pos (rooms_ok 58)]
  congr 1
  induction M with
  | nil => rfl
  | cons a M ih =>
    rw [List.map_cons, List.any_cons, ih, eR_eqv]
    by_cases e : a = r
    · subst e; simp
    · have : ¬ r = a := fun z => e z.symm
      simp [e, this]
end MP

namespace Dy
open MP
def In (a b : Room) : Prop := b.1 ≤ a.1 ∧ a.1 + a.2 ≤ b.1 + b.2
def T (a b : Room) : Prop := a.1 < b.1 + b.2 ∧ b.1 < a.1 + a.2
instance (a b : Room) : Decidable (T a b) := by unfold T; infer_instance
def par (r : Room) : Room := (r.1 / (2 * r.2) * (2 * r.2), 2 * r.2)
def we (r : Room) : Room := (r.1, r.2 / 2)
def ea (r : Room) : Room := (r.1 + r.2 / 2, r.2 / 2)
def bud (r : Room) : Room := if r.1 / (2 * r.2) * (2 * r.2) = r.1 then (r.1 + r.2, r.2) else (r.1 - r.2, r.2)
section
variable {t : Int} {a b c x y o : Room}
theorem T.symm (h : T a b) : T b a := ⟨h.2, h.1⟩
theorem In.refl : In a a := ⟨Int.le_refl _, Int.le_refl _⟩
theorem In.trans (h : In a b) (k : In b c) : In a c := by unfold In at *; omega
theorem T.mono (h : In a b) (k : T a o) : T b o := by unfold In at h; unfold T at *; omega
theorem T.mono2 (h : In a b) (k : T o a) : T o b := (T.mono h k.symm).symm
theorem room_eq (h1 : a.1 = b.1) (h2 : a.2 = b.2) : a = b := by cases a; cases b; simp_all
theorem sz_split (ht : Tall t) (h : b.2 ∈ szs t) : (b.2 = 8 ∨ b.2 = 16 ∨ (b.2 = 32 ∧ 5 ≤ t) ∨ (b.2 = 64 ∧ 6 ≤ t) ∨ (b.2 = 128 ∧ 7 ≤ t) ∨ (b.2 = 256 ∧ 8 ≤ t)) := (mem_szs ht).mp h
theorem In.touch (ha : Valid t a) (ht : Tall t) (h : In a b) : T a b := by
  have := ha.bd ht
  unfold In at h; unfold T; omega
theorem In.anti (h : In a b) (k : In b a) : a = b := by unfold In at *; exact room_eq (by omega) (by omega)
theorem nest (ht : Tall t) (ha : Valid t a) (hb : Valid t b) (h : T a b) : In a b ∨ In b a := by
  rcases a with ⟨s, A⟩
  rcases b with ⟨s', B⟩
  unfold Valid at ha hb
  unfold T at h; unfold In
  simp only [mem_szs ht] at *
  obtain ⟨a1, a2, a3, a4⟩ := ha
  obtain ⟨b1, b2, b3, b4⟩ := hb
  rcases a1 with e | e | ⟨e, _⟩ | ⟨e, _⟩ | ⟨e, _⟩ | ⟨e, _⟩ <;> rcases b1 with e' | e' | ⟨e', _⟩ | ⟨e', _⟩ | ⟨e', _⟩ | ⟨e', _⟩ <;> subst e <;> subst e' <;> omega
theorem pw_t {t : Int} (ht : Tall t) : (t = 4 ∧ pw t = 16) ∨ (t = 5 ∧ pw t = 32) ∨ (t = 6 ∧ pw t = 64) ∨ (t = 7 ∧ pw t = 128) ∨ (t = 8 ∧ pw t = 256) := pw_cases ht
theorem par_v (ht : Tall t) (ha : Valid t a) (h : a.2 ≠ pw t) : Valid t (par a) := by
  rcases a with ⟨s, A⟩
  have p := pw_t ht
  unfold Valid at ha
  unfold Valid par
  simp only [mem_szs ht] at *
  obtain ⟨a1, a2, a3, a4⟩ := ha
  rcases a1 with e | e | ⟨e, _⟩ | ⟨e, _⟩ | ⟨e, _⟩ | ⟨e, _⟩ <;> subst e <;> omega
theorem par_in (ht : Tall t) (ha : Valid t a) : In a (par a) := by
  rcases a with ⟨s, A⟩
  unfold Valid at ha
  unfold In par
  simp only [mem_szs ht] at *
  obtain ⟨a1, a2, a3, a4⟩ := ha
  rcases a1 with e | e | ⟨e, _⟩ | ⟨e, _⟩ | ⟨e, _⟩ | ⟨e, _⟩ <;> subst e <;> omega
theorem par_ne (ht : Tall t) (ha : Valid t a) : ¬ In (par a) a := by
  have := ha.bd ht
  unfold In par; simp only []; omega
theorem up (ht : Tall t) (hx : Valid t x) (hy : Valid t y) (h : In x y) (ne : x ≠ y) : x.2 ≠ pw t ∧ In (par x) y := by
  have ne' : ¬ (x.1 = y.1 ∧ x.2 = y.2) := fun z => ne (room_eq z.1 z.2)
  have p := pw_t ht
  clear ne
  rcases x with ⟨s, A⟩
  rcases y with ⟨s', B⟩
  unfold Valid at hx hy
  unfold In at h
  unfold In par
  simp only [mem_szs ht] at *
  obtain ⟨a1, a2, a3, a4⟩ := hx
  obtain ⟨b1, b2, b3, b4⟩ := hy
  rcases a1 with e | e | ⟨e, _⟩ | ⟨e, _⟩ | ⟨e, _⟩ | ⟨e, _⟩ <;> rcases b1 with e' | e' | ⟨e', _⟩ | ⟨e', _⟩ | ⟨e', _⟩ | ⟨e', _⟩ <;> subst e <;> subst e' <;> omega
theorem halves (ht : Tall t) (h : Valid t c) (h8 : 8 < c.2) : Valid t (we c) ∧ Valid t (ea c) ∧ In (we c) c ∧ In (ea c) c ∧ ¬ T (we c) (ea c) ∧ par (we c) = c ∧ par (ea c) = c ∧ we c ≠ c ∧ ea c ≠ c ∧ (we c).2 * 2 = c.2 ∧ (ea c).2 * 2 = c.2 := by
  obtain ⟨c1, c2, c3, c4⟩ := h
  have z : ∀ {p q r s : Int}, ((p, q) : Room) = (r, s) ↔ p = r ∧ q = s := by simp
  rcases c with ⟨s, b⟩
  unfold Valid In T par we ea
  simp only [z, mem_szs ht, ne_eq] at *
  rcases c1 with e | e | ⟨e, _⟩ | ⟨e, _⟩ | ⟨e, _⟩ | ⟨e, _⟩ <;> subst e <;> first | omega | skip
  all_goals (refine ⟨?_, ?_, ?_, ?_, ?_, ?_, ?_, ?_, ?_, ?_, ?_⟩ <;> omega)
theorem half_in (ht : Tall t) (hx : Valid t x) (hc : Valid t c) (h : In x c) (ne : x ≠ c) : In x (we c) ∨ In x (ea c) := by
  have ne' : ¬ (x.1 = c.1 ∧ x.2 = c.2) := fun z => ne (room_eq z.1 z.2)
  clear ne
  rcases x with ⟨s, A⟩
  rcases c with ⟨s', B⟩
  unfold Valid at hx hc
  unfold In at h
  unfold In we ea
  simp only [mem_szs ht] at *
  obtain ⟨a1, a2, a3, a4⟩ := hx
  obtain ⟨b1, b2, b3, b4⟩ := hc
  rcases a1 with e | e | ⟨e, _⟩ | ⟨e, _⟩ | ⟨e, _⟩ | ⟨e, _⟩ <;> rcases b1 with e' | e' | ⟨e', _⟩ | ⟨e', _⟩ | ⟨e', _⟩ | ⟨e', _⟩ <;> subst e <;> subst e' <;> omega
theorem bud_f (ht : Tall t) (hx : Valid t x) (h : x.2 ≠ pw t) : 8 < (par x).2 ∧ ((x = we (par x) ∧ bud x = ea (par x)) ∨ (x = ea (par x) ∧ bud x = we (par x))) := by
  obtain ⟨a1, a2, a3, a4⟩ := hx
  have z : ∀ {p q r s : Int}, ((p, q) : Room) = (r, s) ↔ p = r ∧ q = s := by simp
  rcases x with ⟨s, b⟩
  unfold bud we ea par
  simp only [] at *
  have hz := (mem_szs ht).mp a1
  refine ⟨by omega, ?_⟩
  rcases hz with e | e | ⟨e, _⟩ | ⟨e, _⟩ | ⟨e, _⟩ | ⟨e, _⟩ <;> subst e <;> split <;> simp only [z] <;> omega
theorem whole_in (ht : Tall t) (hx : Valid t x) : In x (0, pw t) := by
  obtain ⟨a1, a2, a3, a4⟩ := hx
  unfold In; simp only []; omega
theorem whole_eq (ht : Tall t) (hx : Valid t x) (h : x.2 = pw t) : x = (0, pw t) := by
  obtain ⟨a1, a2, a3, a4⟩ := hx
  exact room_eq (by simp only []; omega) h
end
/-- free of the rooms L, and as large as can be -/
def Fr (t : Int) (L : List Room) (x : Room) : Prop := Valid t x ∧ (∀ o ∈ L, ¬ T x o) ∧ (x.2 = pw t ∨ ∃ o ∈ L, T (par x) o)
def Rep (t : Int) (F L : List Room) : Prop := F.Nodup ∧ ∀ x, x ∈ F ↔ Fr t L x
section
variable {t : Int} {L M F : List Room} {h x c : Room}
theorem Fr.congr (e : ∀ o, o ∈ L ↔ o ∈ M) : Fr t L x ↔ Fr t M x := by
  unfold Fr
  simp only [e]
theorem Rep.congr (r : Rep t F L) (e : ∀ o, o ∈ L ↔ o ∈ M) : Rep t F M := ⟨r.1, fun x => (r.2 x).trans (Fr.congr e)⟩
theorem Fr.whole (ht : Tall t) : Fr t [] x ↔ x = (0, pw t) := by
  constructor
  · rintro ⟨v, _, e | ⟨o, ho, _⟩⟩
    · exact whole_eq ht v e
    · cases ho
  · rintro rfl
    exact ⟨Valid.whole ht, (fun o ho => by cases ho), .inl rfl⟩
/-- two free rooms do not meet -/
theorem Fr.apart (ht : Tall t) (hx : Fr t L x) (hc : Fr t L c) (h : T x c) : x = c := by
  have go : ∀ {a b : Room}, Fr t L a → Fr t L b → In a b → a = b := fun {a b} ha hb i => by
    apply Classical.byContradiction
    intro ne
    obtain ⟨h1, h2⟩ := up ht ha.1 hb.1 i ne
    rcases ha.2.2 with e | ⟨o, ho, k⟩
    · exact h1 e
    · exact hb.2.1 o ho (k.mono h2)
  rcases nest ht hx.1 hc.1 h with i | i
  · exact go hx hc i
  · exact (go hc hx i).symm
/-- a free room is taken whole -/
theorem fr_home (ht : Tall t) (hh : Fr t L h) : Fr t (h :: L) x ↔ Fr t L x ∧ x ≠ h := by
  constructor
  · rintro ⟨v, d, p⟩
    have d0 := d h List.mem_cons_self
    have ne : x ≠ h := fun e => d0 (e ▸ In.touch v ht In.refl)
    refine ⟨⟨v, fun o ho => d o (List.mem_cons_of_mem _ ho), ?_⟩, ne⟩
    rcases p with e | ⟨o, ho, k⟩
    · exact .inl e
    · rcases List.mem_cons.mp ho with rfl | ho
      · by_cases e : x.2 = pw t
        · exact .inl e
        · have vp := par_v ht v e
          refine .inr ?_
          rcases nest ht vp hh.1 k with i | i
          · exact absurd (In.touch v ht ((par_in ht v).trans i)) d0
          · have ne2 : o ≠ par x := fun z => d0 (In.touch v ht (z ▸ par_in ht v))
            obtain ⟨e1, e2⟩ := up ht hh.1 vp i ne2
            rcases hh.2.2 with e3 | ⟨o', ho', k'⟩
            · exact absurd e3 e1
            · exact ⟨o', ho', k'.mono e2⟩
      · exact .inr ⟨o, ho, k⟩
  · rintro ⟨f, ne⟩
    refine ⟨f.1, fun o ho k => ?_, f.2.2.imp id fun ⟨o, ho, k⟩ => ⟨o, List.mem_cons_of_mem _ ho, k⟩⟩
    rcases List.mem_cons.mp ho with rfl | ho
    · exact ne (f.apart ht hh k)
    · exact f.2.1 o ho k
theorem fr_half (ht : Tall t) (hc : Valid t c) (h8 : 8 < c.2) (hd : ∀ o ∈ L, ¬ T c o) {p q : Room} (e : (p = we c ∧ q = ea c) ∨ (p = ea c ∧ q = we c)) : Fr t (p :: L) x ↔ Fr t (c :: L) x ∨ x = q := by
  obtain ⟨w1, e1, w2, e2, n0, w3, e3, w4, e4, w5, e5⟩ := halves ht hc h8
  have vp : Valid t p := by rcases e with ⟨rfl, rfl⟩ | ⟨rfl, rfl⟩ <;> assumption
  have vq : Valid t q := by rcases e with ⟨rfl, rfl⟩ | ⟨rfl, rfl⟩ <;> assumption
  have ip : In p c := by rcases e with ⟨rfl, rfl⟩ | ⟨rfl, rfl⟩ <;> assumption
  have iq : In q c := by rcases e with ⟨rfl, rfl⟩ | ⟨rfl, rfl⟩ <;> assumption
  have nq : ¬ T q p := by rcases e with ⟨rfl, rfl⟩ | ⟨rfl, rfl⟩ <;> first | exact n0 | exact fun z => n0 z.symm
  have pq : par q = c := by rcases e with ⟨rfl, rfl⟩ | ⟨rfl, rfl⟩ <;> assumption
  have hx : ∀ {y : Room}, Valid t y → In y c → y ≠ c → In y p ∨ In y q := fun {y} v i ne => by
    rcases e with ⟨rfl, rfl⟩ | ⟨rfl, rfl⟩ <;> rcases half_in ht v hc i ne with z | z <;> first | exact .inl z | exact .inr z
  constructor
  · rintro ⟨v, d, k⟩
    have d0 := d p List.mem_cons_self
    by_cases tc : T x c
    · refine .inr ?_
      rcases nest ht v hc tc with i | i
      · have ne : x ≠ c := fun z => d0 (z ▸ (In.touch vp ht ip).symm)
        rcases hx v i ne with j | j
        · exact absurd (In.touch v ht j) d0
        · apply Classical.byContradiction
          intro nx
          obtain ⟨f1, f2⟩ := up ht v vq j nx
          rcases k with k | ⟨o, ho, k⟩
          · exact f1 k
          · rcases List.mem_cons.mp ho with rfl | ho
            · exact nq (k.mono f2)
            · exact hd o ho ((k.mono f2).mono iq)
      · exact absurd (In.touch vp ht (ip.trans i)).symm d0
    · refine .inl ⟨v, fun o ho => ?_, ?_⟩
      · rcases List.mem_cons.mp ho with rfl | ho
        · exact tc
        · exact d o (List.mem_cons_of_mem _ ho)
      · rcases k with k | ⟨o, ho, k⟩
        · exact .inl k
        · rcases List.mem_cons.mp ho with rfl | ho
          · exact .inr ⟨c, List.mem_cons_self, k.mono2 ip⟩
          · exact .inr ⟨o, List.mem_cons_of_mem _ ho, k⟩
  · rintro (⟨v, d, k⟩ | rfl)
    · have d0 := d c List.mem_cons_self
      refine ⟨v, fun o ho => ?_, ?_⟩
      · rcases List.mem_cons.mp ho with rfl | ho
        · exact fun z => d0 (z.mono2 ip)
        · exact d o (List.mem_cons_of_mem _ ho)
      · rcases k with k | ⟨o, ho, k⟩
        · exact .inl k
        · rcases List.mem_cons.mp ho with rfl | ho
          · by_cases ex : x.2 = pw t
            · exact .inl ex
            · refine .inr ⟨p, List.mem_cons_self, ?_⟩
              rcases nest ht (par_v ht v ex) hc k with i | i
              · exact absurd (In.touch v ht ((par_in ht v).trans i)) d0
              · exact (In.touch vp ht (ip.trans i)).symm
          · exact .inr ⟨o, List.mem_cons_of_mem _ ho, k⟩
    · refine ⟨vq, fun o ho => ?_, .inr ⟨p, List.mem_cons_self, by rw [pq]; exact (In.touch vp ht ip).symm⟩⟩
      rcases List.mem_cons.mp ho with rfl | ho
      · exact nq
      · exact fun z => hd o ho (z.mono iq)
/-- a room given back whose buddy is not free -/
theorem fr_back (ht : Tall t) (hc : Valid t c) (hd : ∀ o ∈ L, ¬ T c o) (hb : c.2 = pw t ∨ ¬ Fr t (c :: L) (bud c)) : Fr t L x ↔ Fr t (c :: L) x ∨ x = c := by
  -- where the parent of c is free of L, its buddy would be free
  have key : c.2 ≠ pw t → ∃ o ∈ L, T (par c) o := fun e => by
    apply Classical.byContradiction
    intro no
    obtain ⟨p8, pb⟩ := bud_f ht hc e
    obtain ⟨w1, e1, w2, e2, n0, w3, e3, w4, e4, w5, e5⟩ := halves ht (par_v ht hc e) p8
    refine (hb.resolve_left e) ?_
    have vb : Valid t (bud c) := by rcases pb with ⟨_, z⟩ | ⟨_, z⟩ <;> rw [z] <;> assumption
    have ib : In (bud c) (par c) := by rcases pb with ⟨_, z⟩ | ⟨_, z⟩ <;> rw [z] <;> assumption
    have pe : par (bud c) = par c := by rcases pb with ⟨_, z⟩ | ⟨_, z⟩ <;> rw [z] <;> assumption
    have nb : ¬ T (bud c) c := by
      rcases pb with ⟨y, z⟩ | ⟨y, z⟩
      · intro k; rw [z] at k; exact n0 ((y ▸ k : T (ea (par c)) (we (par c))).symm)
      · intro k; rw [z] at k; exact n0 (y ▸ k : T (we (par c)) (ea (par c)))
    refine ⟨vb, fun o ho k => ?_, .inr ⟨c, List.mem_cons_self, by rw [pe]; exact (In.touch hc ht (par_in ht hc)).symm⟩⟩
    rcases List.mem_cons.mp ho with rfl | ho
    · exact nb k
    · exact no ⟨o, ho, k.mono ib⟩
  constructor
  · rintro ⟨v, d, k⟩
    by_cases tc : T x c
    · refine .inr ?_
      apply Classical.byContradiction
      intro ne
      rcases nest ht v hc tc with i | i
      · obtain ⟨f1, f2⟩ := up ht v hc i ne
        rcases k with k | ⟨o, ho, k⟩
        · exact f1 k
        · exact hd o ho (k.mono f2)
      · obtain ⟨f1, f2⟩ := up ht hc v i (Ne.symm ne)
        obtain ⟨o, ho, k⟩ := key f1
        exact d o ho (k.mono f2)
    · refine .inl ⟨v, fun o ho => ?_, k.imp id fun ⟨o, ho, k⟩ => ⟨o, List.mem_cons_of_mem _ ho, k⟩⟩
      rcases List.mem_cons.mp ho with rfl | ho
      · exact tc
      · exact d o ho
  · rintro (⟨v, d, k⟩ | rfl)
    · have d0 := d c List.mem_cons_self
      refine ⟨v, fun o ho => d o (List.mem_cons_of_mem _ ho), ?_⟩
      by_cases ex : x.2 = pw t
      · exact .inl ex
      refine .inr ?_
      rcases k with k | ⟨o, ho, k⟩
      · exact absurd k ex
      · rcases List.mem_cons.mp ho with rfl | ho
        · have vp := par_v ht v ex
          rcases nest ht vp hc k with i | i
          · exact absurd (In.touch v ht ((par_in ht v).trans i)) d0
          · have ne : o ≠ par x := fun z => d0 (In.touch v ht (z ▸ par_in ht v))
            obtain ⟨f1, f2⟩ := up ht hc vp i ne
            obtain ⟨o', ho', k'⟩ := key f1
            exact ⟨o', ho', k'.mono f2⟩
        · exact ⟨o, ho, k⟩
    · refine ⟨hc, hd, ?_⟩
      by_cases e : x.2 = pw t
      · exact .inl e
      · exact .inr (key e)
/-- the free room that holds a room -/
theorem home (ht : Tall t) (hx : Valid t x) (hd : ∀ o ∈ L, ¬ T x o) : ∃ h, Fr t L h ∧ In x h := by
  have go : ∀ (n : Nat) (y : Room), Valid t y → pw t ≤ y.2 * 2 ^ n → (∀ o ∈ L, ¬ T y o) → ∃ h, Fr t L h ∧ In y h := fun n => by
    induction n with
    | zero =>
      intro y v k d
      have := v.2.2.1; have := v.2.1
      exact ⟨y, ⟨v, d, .inl (by simp only [Int.pow_zero, Int.mul_one] at k; omega)⟩, In.refl⟩
    | succ n ih =>
      intro y v k d
      by_cases e : y.2 = pw t
      · exact ⟨y, ⟨v, d, .inl e⟩, In.refl⟩
      · by_cases m : ∃ o ∈ L, T (par y) o
        · exact ⟨y, ⟨v, d, .inr m⟩, In.refl⟩
        · obtain ⟨h, f, i⟩ := ih (par y) (par_v ht v e) (by show pw t ≤ 2 * y.2 * 2 ^ n; rw [Int.pow_succ] at k; rw [show 2 * y.2 * 2 ^ n = y.2 * (2 ^ n * 2) by rw [Int.mul_comm 2 y.2, Int.mul_assoc, Int.mul_comm 2]]; exact k) fun o ho z => m ⟨o, ho, z⟩
          exact ⟨h, f, (par_in ht v).trans i⟩
  have b1 := hx.bd ht
  have b2 := pw_bd ht
  exact go 5 x hx (by omega) hd
end

/-- what stands in a room: the parts it falls into -/
def parts : Nat → Room → List Room → List (Room × Bool)
  | n, r, L =>
    let I := L.filter fun o => decide (T r o)
    if I = [] then [(r, false)] else if I = [r] then [(r, true)] else match n with
    | 0 => []
    | n + 1 => parts n (we r) I ++ parts n (ea r) I
section
variable {t : Int} {L M F : List Room} {h x c r : Room}
def Sm (t : Int) (L : List Room) : Prop := (∀ o ∈ L, Valid t o) ∧ L.Pairwise fun a b => ¬ T a b
theorem Sm.filter {p : Room → Bool} (h : Sm t L) : Sm t (L.filter p) := ⟨fun o ho => h.1 o (List.mem_filter.mp ho).1, h.2.filter p⟩
theorem Sm.eq (ht : Tall t) : ∀ {L : List Room}, Sm t L → ∀ {a b : Room}, a ∈ L → b ∈ L → T a b → a = b
  | [], _, a, b, ha, _, _ => by cases ha
  | c :: L, h, a, b, ha, hb, k => by
    obtain ⟨p1, p2⟩ := List.pairwise_cons.mp h.2
    rcases List.mem_cons.mp ha with rfl | ha' <;> rcases List.mem_cons.mp hb with rfl | hb'
    · rfl
    · exact absurd k (p1 b hb')
    · exact absurd k.symm (p1 a ha')
    · exact Sm.eq ht ⟨fun o ho => h.1 o (List.mem_cons_of_mem _ ho), p2⟩ ha' hb' k
theorem T.self (ht : Tall t) (h : Valid t x) : T x x := In.touch h ht In.refl
theorem Sm.one (ht : Tall t) (h : Sm t L) (hr : ∀ o ∈ L, o = r) (ne : L ≠ []) : L = [r] := by
  cases L with
  | nil => exact absurd rfl ne
  | cons a L =>
    have := hr a List.mem_cons_self
    subst this
    cases L with
    | nil => rfl
    | cons b L =>
      have := hr b (by simp)
      subst this
      exact absurd (T.self ht (h.1 b (by simp))) ((List.pairwise_cons.mp h.2).1 b (by simp))
def PM (t : Int) (P : List (Room × Bool)) (r : Room) (L : List Room) : Prop :=
    (∀ x, (x, false) ∈ P ↔ Valid t x ∧ In x r ∧ (∀ o ∈ L, ¬ T x o) ∧ (x = r ∨ ∃ o ∈ L, T (par x) o)) ∧ (∀ x, (x, true) ∈ P ↔ x ∈ L ∧ T r x) ∧
    P.Pairwise (fun a b => a.1.1 + a.1.2 ≤ b.1.1) ∧ ∀ p ∈ P, In p.1 r ∧ Valid t p.1
theorem pm_none (ht : Tall t) (hr : Valid t r) (h : ∀ o ∈ L, ¬ T r o) : PM t [(r, false)] r L := by
  refine ⟨fun x => ?_, fun x => ?_, List.pairwise_singleton _ _, fun p hp => ?_⟩
  · constructor
    · intro hx
      have : x = r := by simpa using hx
      subst this
      exact ⟨hr, In.refl, h, .inl rfl⟩
    · rintro ⟨v, i, d, k⟩
      have : x = r := by
        apply Classical.byContradiction
        intro ne
        obtain ⟨o, ho, k⟩ := k.resolve_left ne
        exact h o ho (k.mono (up ht v hr i ne).2)
      simp [this]
  · constructor
    · intro hx; simp at hx
    · rintro ⟨h1, h2⟩; exact absurd h2 (h x h1)
  · rw [List.mem_singleton.mp hp]; exact ⟨In.refl, hr⟩
theorem pm_one (ht : Tall t) (hr : Valid t r) (h : r ∈ L) (h2 : ∀ o ∈ L, T r o → o = r) : PM t [(r, true)] r L := by
  refine ⟨fun x => ?_, fun x => ?_, List.pairwise_singleton _ _, fun p hp => ?_⟩
  · constructor
    · intro hx; simp at hx
    · rintro ⟨v, i, d, k⟩
      exact absurd (In.touch v ht i) (d r h)
  · constructor
    · intro hx
      have : x = r := by simpa using hx
      subst this
      exact ⟨h, T.self ht hr⟩
    · rintro ⟨h3, h4⟩
      simp [h2 x h3 h4]
  · rw [List.mem_singleton.mp hp]; exact ⟨In.refl, hr⟩
theorem pm_two (ht : Tall t) (hr : Valid t r) (h8 : 8 < r.2) {I : List Room} (hI : ∀ o, o ∈ I ↔ o ∈ L ∧ T r o) (hs : Sm t L) {o0 : Room} (h0 : o0 ∈ I) (hi : ∀ o ∈ L, T r o → In o r) {P Q : List (Room × Bool)} (p : PM t P (we r) I) (q : PM t Q (ea r) I) : PM t (P ++ Q) r L := by
  obtain ⟨w1, e1, w2, e2, n0, w3, e3, w4, e4, w5, e5⟩ := halves ht hr h8
  refine ⟨fun x => ?_, fun x => ?_, ?_, fun z hz => ?_⟩
  · rw [List.mem_append, p.1, q.1]
    constructor
    · have go : ∀ {y : Room}, In y r → par y = r → (Valid t x ∧ In x y ∧ (∀ o ∈ I, ¬ T x o) ∧ (x = y ∨ ∃ o ∈ I, T (par x) o)) → Valid t x ∧ In x r ∧ (∀ o ∈ L, ¬ T x o) ∧ (x = r ∨ ∃ o ∈ L, T (par x) o) := fun {y} iy ey ⟨v, i, d, k⟩ => by
        refine ⟨v, i.trans iy, fun o ho z => d o ((hI o).mpr ⟨ho, z.mono (i.trans iy)⟩) z, .inr ?_⟩
        rcases k with rfl | ⟨o, ho, k⟩
        · exact ⟨o0, ((hI o0).mp h0).1, by rw [ey]; exact ((hI o0).mp h0).2⟩
        · exact ⟨o, ((hI o).mp ho).1, k⟩
      rintro (z | z)
      · exact go w2 w3 z
      · exact go e2 e3 z
    · rintro ⟨v, i, d, k⟩
      have ne : x ≠ r := fun z => by
        obtain ⟨a, b⟩ := (hI o0).mp h0
        exact d o0 a (z ▸ b)
      obtain ⟨o, ho, k⟩ := k.resolve_left ne
      have ho' : o ∈ I := (hI o).mpr ⟨ho, k.mono (up ht v hr i ne).2⟩
      have d' : ∀ o ∈ I, ¬ T x o := fun o ho => d o ((hI o).mp ho).1
      rcases half_in ht v hr i ne with j | j
      · exact .inl ⟨v, j, d', .inr ⟨o, ho', k⟩⟩
      · exact .inr ⟨v, j, d', .inr ⟨o, ho', k⟩⟩
  · rw [List.mem_append, p.2.1, q.2.1]
    constructor
    · rintro (⟨a, b⟩ | ⟨a, b⟩)
      · exact (hI x).mp a
      · exact (hI x).mp a
    · rintro ⟨a, b⟩
      have hx := (hI x).mpr ⟨a, b⟩
      have vx := hs.1 x a
      by_cases e : x = r
      · subst e; exact .inl ⟨hx, (In.touch w1 ht w2)⟩
      · rcases half_in ht vx hr (hi x a b) e with j | j
        · exact .inl ⟨hx, (In.touch vx ht j).symm⟩
        · exact .inr ⟨hx, (In.touch vx ht j).symm⟩
  · refine List.pairwise_append.mpr ⟨p.2.2.1, q.2.2.1, fun a ha b hb => ?_⟩
    have ia := (p.2.2.2 a ha).1
    have ib := (q.2.2.2 b hb).1
    unfold In we ea at *
    simp only [] at *
    omega
  · rcases List.mem_append.mp hz with z | z
    · exact ⟨(p.2.2.2 _ z).1.trans w2, (p.2.2.2 _ z).2⟩
    · exact ⟨(q.2.2.2 _ z).1.trans e2, (q.2.2.2 _ z).2⟩
/-- r is not whole in L, and something of L is in r -/
theorem more (ht : Tall t) (hr : Valid t r) {I : List Room} (hI : ∀ o, o ∈ I ↔ o ∈ L ∧ T r o) (sI : Sm t I) (hi : ∀ o ∈ L, T r o → In o r) (n1 : I ≠ []) (n2 : I ≠ [r]) :
    8 < r.2 ∧ (∀ o ∈ I, In o r ∧ o ≠ r) := by
  have rn : r ∉ I := fun h => n2 (Sm.one ht sI (fun o ho => (Sm.eq ht sI h ho ((hI o).mp ho).2).symm) n1)
  have h2 : ∀ o ∈ I, In o r ∧ o ≠ r := fun o ho => ⟨hi o ((hI o).mp ho).1 ((hI o).mp ho).2, fun e => rn (e ▸ ho)⟩
  refine ⟨?_, h2⟩
  obtain ⟨o, ho⟩ := List.exists_mem_of_ne_nil I n1
  obtain ⟨i, ne⟩ := h2 o ho
  have b1 := (sI.1 o ho).bd ht
  have ne' : ¬ (o.1 = r.1 ∧ o.2 = r.2) := fun z => ne (room_eq z.1 z.2)
  unfold In at i
  omega
theorem parts_mem (ht : Tall t) : ∀ (n : Nat) (r : Room) (L : List Room), Valid t r → Sm t L → (∀ o ∈ L, T r o → In o r) → r.2 ≤ 8 * 2 ^ n → PM t (parts n r L) r L := fun n => by
  have hI : ∀ (r : Room) (L : List Room) (o : Room), o ∈ (L.filter fun o => decide (T r o)) ↔ o ∈ L ∧ T r o := fun r L o => by simp [List.mem_filter]
  have c0 : ∀ (r : Room) (L : List Room), Valid t r → (L.filter fun o => decide (T r o)) = [] → PM t [(r, false)] r L := fun r L hr e => pm_none ht hr fun o ho k => by
    have := (hI r L o).mpr ⟨ho, k⟩
    rw [e] at this; cases this
  have c1 : ∀ (r : Room) (L : List Room), Valid t r → (L.filter fun o => decide (T r o)) = [r] → PM t [(r, true)] r L := fun r L hr e => pm_one ht hr ((hI r L r).mp (by rw [e]; simp)).1 fun o ho k => by
    have := (hI r L o).mpr ⟨ho, k⟩
    rw [e] at this; simpa using this
  induction n with
  | zero =>
    intro r L hr hL hi hb
    unfold parts
    simp only []
    split
    · exact c0 r L hr (by assumption)
    · split
      · exact c1 r L hr (by assumption)
      · have := (more ht hr (hI r L) hL.filter hi (by assumption) (by assumption)).1
        simp only [Int.pow_zero] at hb
        omega
  | succ n ih =>
    intro r L hr hL hi hb
    unfold parts
    simp only []
    split
    · exact c0 r L hr (by assumption)
    · rename_i n1
      split
      · exact c1 r L hr (by assumption)
      · rename_i n2
        obtain ⟨h8, h2⟩ := more ht hr (hI r L) hL.filter hi n1 n2
        obtain ⟨w1, e1, w2, e2, n0, w3, e3, w4, e4, w5, e5⟩ := halves ht hr h8
        obtain ⟨o0, ho0⟩ := List.exists_mem_of_ne_nil _ n1
        have hz : ∀ y : Room, y.2 * 2 = r.2 → y.2 ≤ 8 * 2 ^ n := fun y hy => by rw [Int.pow_succ] at hb; omega
        refine pm_two ht hr h8 (hI r L) hL ho0 hi (ih _ _ w1 hL.filter (fun o ho k => ?_) (hz _ w5)) (ih _ _ e1 hL.filter (fun o ho k => ?_) (hz _ e5))
        · obtain ⟨i, ne⟩ := h2 o ho
          exact (half_in ht (hL.filter.1 o ho) hr i ne).resolve_right fun z => n0 (k.mono2 z)
        · obtain ⟨i, ne⟩ := h2 o ho
          exact (half_in ht (hL.filter.1 o ho) hr i ne).resolve_left fun z => n0 (k.mono2 z).symm
/-- the map of a set of rooms -/
def mapP (t : Int) (L : List Room) : List (Room × Bool) := parts 5 (0, pw t) L
theorem mapP_mem (ht : Tall t) (hL : Sm t L) : (∀ x, (x, false) ∈ mapP t L ↔ Fr t L x) ∧ (∀ x, (x, true) ∈ mapP t L ↔ x ∈ L) ∧ (mapP t L).Pairwise (fun a b => a.1.1 + a.1.2 ≤ b.1.1) ∧ ∀ p ∈ mapP t L, Valid t p.1 := by
  have b := pw_bd ht
  obtain ⟨h1, h2, h3, h4⟩ := parts_mem ht 5 (0, pw t) L (Valid.whole ht) hL (fun o ho _ => whole_in ht (hL.1 o ho)) (by show pw t ≤ _; omega)
  refine ⟨fun x => (h1 x).trans ?_, fun x => (h2 x).trans ?_, h3, fun p hp => (h4 p hp).2⟩
  · constructor
    · rintro ⟨v, i, d, k⟩
      exact ⟨v, d, k.imp (fun e => by rw [e]) id⟩
    · rintro ⟨v, d, k⟩
      exact ⟨v, whole_in ht v, d, k.imp (fun e => whole_eq ht v e) id⟩
  · exact ⟨fun h => h.1, fun h => ⟨h, (In.touch (hL.1 x h) ht (whole_in ht (hL.1 x h))).symm⟩⟩
end

theorem pd_eP (p : Room × Bool) : pd (eP p) = .tuple [.int p.1.1, .int p.1.2, .bool p.2] := by simp [eP, pd, pdL]
theorem alike_eP (a b : Room × Bool) : PySem.W.alike (pd (eP a)) (pd (eP b)) = true := by
  rw [pd_eP, pd_eP]; simp [PySem.W.alike, PySem.W.alikeAll]
def leS (a b : Room × Bool) : Bool := decide (a.1.1 ≤ b.1.1)
theorem lt_eP {a b : Room × Bool} (h : a.1.1 ≠ b.1.1) : PySem.W.dataLt (pd (eP a)) (pd (eP b)) = decide (a.1.1 < b.1.1) := by
  have ne : PySem.PyData.eqv (.int a.1.1) (.int b.1.1) = false := by simp [PySem.PyData.eqv, h]
  rw [pd_eP, pd_eP, PySem.W.dataLt_tuple, PySem.W.dataLt_cons (by simp [PySem.W.alike]), if_neg (by rw [ne]; simp), PySem.W.dataLt_int]
theorem le_eP {a b : Room × Bool} (h : a.1.1 = b.1.1 → a = b) : leS a b = PySem.W.dataLe false pd (eP a) (eP b) := by
  simp only [PySem.W.dataLe_eq, leS, cond_false]
  by_cases e : a.1.1 = b.1.1
  · have := h e
    subst this
    have : PySem.W.dataLt (pd (eP a)) (pd (eP a)) = false := PyProof.Rows.lex_irrefl _
    rw [this]; simp
  · rw [lt_eP (Ne.symm e)]
    by_cases k : b.1.1 < a.1.1
    · have : ¬ a.1.1 ≤ b.1.1 := by omega
      simp [k, this]
    · have : a.1.1 ≤ b.1.1 := by omega
      simp [k, this]
theorem okD_bl {n : Nat} {b : Bool} : (Val.bl b).okD n = true := by cases n <;> rfl
theorem okD_eP (n : Nat) (p : Room × Bool) : (eP p).okD (n + 1) = true := by
  show okDL n [.int p.1.1, .int p.1.2, .bl p.2] = true
  simp only [okDL, okD_int, okD_bl, Bool.and_self]
theorem okDL_eP (n : Nat) : ∀ {P : List (Room × Bool)}, okDL (n + 1) (P.map eP) = true
  | [] => by simp [okDL]
  | p :: P => by simp [okDL, okD_eP, okDL_eP n (P := P)]
theorem sort_parts {P : List (Room × Bool)} (h : P.length ≤ 16777216) (hd : ∀ a ∈ P, ∀ b ∈ P, a.1.1 = b.1.1 → a = b) : sortV (P.map eP) = some ((P.mergeSort leS).map eP) := by
  have ok : sortable (P.map eP) = true := by
    simp only [sortable, Bool.and_eq_true, Bool.or_eq_true, decide_eq_true_eq]
    refine ⟨⟨⟨okDL_eP 59, ?_⟩, .inl ?_⟩, by simpa [SZ] using h⟩
    · rw [List.all_eq_true]
      intro a ha
      rw [List.all_eq_true]
      intro b hb
      obtain ⟨x, _, rfl⟩ := List.mem_map.mp ha
      obtain ⟨y, _, rfl⟩ := List.mem_map.mp hb
      exact alike_eP x y
    · rw [List.all_eq_true]
      intro a ha
      obtain ⟨x, _, rfl⟩ := List.mem_map.mp ha
      rfl
  unfold sortV
  rw [if_pos ok, ← List.map_mergeSort (r := leS) (s := PySem.W.dataLe false pd) fun a ha b hb => le_eP (hd a ha b hb)]
theorem pw_or {α : Type} {R : α → α → Prop} : ∀ {l : List α}, l.Pairwise R → ∀ a ∈ l, ∀ b ∈ l, a = b ∨ R a b ∨ R b a
  | [], _, a, ha, _, _ => by cases ha
  | x :: l, h, a, ha, b, hb => by
    obtain ⟨p1, p2⟩ := List.pairwise_cons.mp h
    rcases List.mem_cons.mp ha with rfl | ha' <;> rcases List.mem_cons.mp hb with rfl | hb'
    · exact .inl rfl
    · exact .inr (.inl (p1 b hb'))
    · exact .inr (.inr (p1 a ha'))
    · exact pw_or p2 a ha' b hb'
/-- a list in order is what sorting a list of the same items makes -/
theorem sort_same {P Q : List (Room × Bool)} (hp : P.Nodup) (hq : Q.Pairwise fun a b => a.1.1 < b.1.1) (e : ∀ x, x ∈ P ↔ x ∈ Q) : P.mergeSort leS = Q ∧ ∀ a ∈ P, ∀ b ∈ P, a.1.1 = b.1.1 → a = b := by
  have d : ∀ a ∈ Q, ∀ b ∈ Q, a.1.1 = b.1.1 → a = b := fun a ha b hb h => by
    rcases pw_or hq a ha b hb with k | k | k
    · exact k
    · omega
    · omega
  have nq : Q.Nodup := hq.imp fun {a b} h e => by rw [e] at h; omega
  have hm := List.mergeSort_perm P leS
  have pq : P.Perm Q := (List.perm_ext_iff_of_nodup hp nq).mpr e
  refine ⟨?_, fun a ha b hb => d a ((e a).mp ha) b ((e b).mp hb)⟩
  have s1 := List.pairwise_mergeSort (le := leS) (fun a b c h k => by simp only [leS, decide_eq_true_eq] at *; omega) (fun a b => by simp only [leS, Bool.or_eq_true, decide_eq_true_eq]; omega) P
  have s2 : Q.Pairwise fun a b => leS a b = true := hq.imp fun {a b} h => by simp only [leS, decide_eq_true_eq]; omega
  refine List.Perm.eq_of_pairwise (fun a b ha hb h k => ?_) s1 s2 (hm.trans pq)
  simp only [leS, decide_eq_true_eq] at h k
  exact d a ((hm.trans pq).mem_iff.mp ha) b hb (by omega)
section
variable {t : Int} {L M F : List Room}
theorem mapP_lt (ht : Tall t) (hL : Sm t L) : (mapP t L).Pairwise fun a b => a.1.1 < b.1.1 := by
  obtain ⟨_, _, h3, h4⟩ := mapP_mem ht hL
  refine h3.imp_of_mem fun {a b} ha hb h => ?_
  have := (h4 a ha).bd ht
  omega
def boths (F L : List Room) : List (Room × Bool) := F.map (fun r => (r, false)) ++ L.map fun r => (r, true)
theorem boths_ok (ht : Tall t) (hL : Sm t L) (hn : L.Nodup) (hM : Sm t M) (e : ∀ x, x ∈ L ↔ x ∈ M) (hF : Rep t F L) : (boths F L).mergeSort leS = mapP t M ∧ ∀ a ∈ boths F L, ∀ b ∈ boths F L, a.1.1 = b.1.1 → a = b := by
  obtain ⟨h1, h2, h3, h4⟩ := mapP_mem ht hM
  refine sort_same ?_ (mapP_lt ht hM) fun x => ?_
  · refine List.nodup_append.mpr ⟨?_, ?_, fun a ha b hb => ?_⟩
    · exact List.Pairwise.map _ (fun a b h e => h (Prod.mk.inj e).1) hF.1
    · exact List.Pairwise.map _ (fun a b h e => h (Prod.mk.inj e).1) hn
    · obtain ⟨_, _, rfl⟩ := List.mem_map.mp ha
      obtain ⟨_, _, rfl⟩ := List.mem_map.mp hb
      simp
  · obtain ⟨r, b⟩ := x
    cases b with
    | false =>
      rw [h1, ← Fr.congr e, ← hF.2]
      simp [boths]
    | true =>
      rw [h2, ← e]
      simp [boths]
end
theorem disj_T {a b : Room} : Disj a b ↔ ¬ T a b := by unfold Disj T; omega
theorem Rep.sm {t : Int} (ht : Tall t) {F L : List Room} (h : Rep t F L) : Sm t F := ⟨fun o ho => ((h.2 o).mp ho).1, h.1.imp_of_mem fun {a b} ha hb ne k => ne (((h.2 a).mp ha).apart ht ((h.2 b).mp hb) k)⟩
theorem Sm.len {t : Int} (ht : Tall t) {L : List Room} (h : Sm t L) : L.length ≤ 32 := by
  have := (out_sorted ht h.1 (h.2.imp fun {a b} k => disj_T.mpr k)).len ht
  rwa [List.length_mergeSort] at this
theorem half_T {p o : Room} (h8 : p.2 / 2 * 2 = p.2) (h0 : 8 ≤ o.2) (h : T p o) : T (we p) o ∨ T (ea p) o := by
  unfold T we ea at *
  simp only [] at *
  omega
theorem Sm.perm {t : Int} {L M : List Room} (h : Sm t L) (p : M.Perm L) : Sm t M := ⟨fun o ho => h.1 o (p.mem_iff.mp ho), (p.pairwise_iff fun k z => k z.symm).mpr h.2⟩
theorem Sm.apart {t : Int} {L : List Room} {x : Room} (h : Sm t (x :: L)) : ∀ o ∈ L, ¬ T x o := (List.pairwise_cons.mp h.2).1
theorem Sm.out {t : Int} (ht : Tall t) {L : List Room} (h : Sm t L) : OutOk t (L.mergeSort lePair) := out_sorted ht h.1 (h.2.imp fun {a b} k => disj_T.mpr k)
end Dy

namespace Dy
open MP
def Cont : Int → List (Room × Bool) → Int → Prop
  | s, [], e => s = e
  | s, p :: r, e => p.1.1 = s ∧ Cont (s + p.1.2) r e
theorem Cont.append : ∀ {P Q : List (Room × Bool)} {s m e : Int}, Cont s P m → Cont m Q e → Cont s (P ++ Q) e
  | [], _, s, m, e, h, k => by have : s = m := h; subst this; exact k
  | p :: P, Q, s, m, e, h, k => ⟨h.1, Cont.append h.2 k⟩
theorem parts_cont {t : Int} (ht : Tall t) : ∀ (n : Nat) (r : Room) (L : List Room), Valid t r → Sm t L → (∀ o ∈ L, T r o → In o r) → r.2 ≤ 8 * 2 ^ n → Cont r.1 (parts n r L) (r.1 + r.2) := fun n => by
  have hI : ∀ (r : Room) (L : List Room) (o : Room), o ∈ (L.filter fun o => decide (T r o)) ↔ o ∈ L ∧ T r o := fun r L o => by simp [List.mem_filter]
  induction n with
  | zero =>
    intro r L hr hL hi hb
    have hm := more ht hr (hI r L) hL.filter hi
    unfold parts
    simp only []
    by_cases h1 : (L.filter fun o => decide (T r o)) = []
    · rw [if_pos h1]; exact ⟨rfl, rfl⟩
    · by_cases h2 : (L.filter fun o => decide (T r o)) = [r]
      · rw [if_neg h1, if_pos h2]; exact ⟨rfl, rfl⟩
      · have := (hm h1 h2).1
        simp only [Int.pow_zero] at hb
        omega
  | succ n ih =>
    intro r L hr hL hi hb
    have hm := more ht hr (hI r L) hL.filter hi
    unfold parts
    simp only []
    by_cases h1 : (L.filter fun o => decide (T r o)) = []
    · rw [if_pos h1]; exact ⟨rfl, rfl⟩
    · by_cases h2 : (L.filter fun o => decide (T r o)) = [r]
      · rw [if_neg h1, if_pos h2]; exact ⟨rfl, rfl⟩
      · obtain ⟨h8, h3⟩ := hm h1 h2
        rw [if_neg h1, if_neg h2]
        obtain ⟨w1, e1, w2, e2, n0, w3, e3, w4, e4, w5, e5⟩ := halves ht hr h8
        have hz : ∀ y : Room, y.2 * 2 = r.2 → y.2 ≤ 8 * 2 ^ n := fun y hy => by rw [Int.pow_succ] at hb; omega
        have f1 := ih _ _ w1 hL.filter (fun o ho k => by
          obtain ⟨i, ne⟩ := h3 o ho
          exact (half_in ht (hL.filter.1 o ho) hr i ne).resolve_right fun z => n0 (k.mono2 z)) (hz _ w5)
        have f2 := ih _ _ e1 hL.filter (fun o ho k => by
          obtain ⟨i, ne⟩ := h3 o ho
          exact (half_in ht (hL.filter.1 o ho) hr i ne).resolve_left fun z => n0 (k.mono2 z).symm) (hz _ e5)
        have q1 : (we r).1 = r.1 := rfl
        have q2 : (we r).1 + (we r).2 = (ea r).1 := rfl
        have q3 : (ea r).1 + (ea r).2 = r.1 + r.2 := by simp only [we, ea] at *; omega
        rw [q2, q1] at f1
        rw [q3] at f2
        exact f1.append f2
theorem mapP_cont {t : Int} (ht : Tall t) {L : List Room} (hL : Sm t L) : Cont 0 (mapP t L) (pw t) := by
  have := parts_cont ht 5 (0, pw t) L (Valid.whole ht) hL (fun o ho _ => whole_in ht (hL.1 o ho)) (by have := pw_bd ht; show pw t ≤ _; omega)
  unfold mapP
  simpa using this
theorem parts_len : ∀ (n : Nat) (r : Room) (L : List Room), (parts n r L).length ≤ 2 ^ n := fun n => by
  induction n with
  | zero => intro r L; unfold parts; simp only []; split; · simp
            · split <;> simp
  | succ n ih =>
    intro r L; unfold parts; simp only []; split
    · have := Nat.one_le_two_pow (n := n + 1); simp; omega
    · split
      · have := Nat.one_le_two_pow (n := n + 1); simp; omega
      · rw [List.length_append, Nat.pow_succ]
        have h1 := ih (we r) (L.filter fun o => decide (T r o))
        have h2 := ih (ea r) (L.filter fun o => decide (T r o))
        omega
theorem szs_pw {t : Int} (ht : Tall t) : pw t ∈ szs t := (Valid.whole ht).1
theorem mapP_len {t : Int} {L : List Room} : (mapP t L).length ≤ 32 := parts_len 5 _ _
def cells (N : Int) (f : Int → Int) : List Int := (List.range N.toNat).map fun (i : Nat) => f i
theorem cells_len {N : Int} {f : Int → Int} : (cells N f).length = N.toNat := by simp [cells]
theorem cells_zero {N : Int} : List.replicate N.toNat (0 : Int) = cells N fun _ => 0 := by
  unfold cells
  apply List.ext_getElem <;> simp
theorem cells_patch {N a s v : Int} {f : Int → Int} (h0 : 0 ≤ a) (h1 : 0 ≤ s) (h2 : a + s ≤ N) :
    (cells N f).take a.toNat ++ List.replicate s.toNat v ++ (cells N f).drop (a + s).toNat = cells N fun c => if a ≤ c ∧ c < a + s then v else f c := by
  apply List.ext_getElem
  · simp [cells]; omega
  · intro i k1 k2
    simp only [cells, List.length_append, List.length_take, List.length_map, List.length_range, List.length_replicate, List.length_drop] at k1 k2
    simp only [cells, List.getElem_append, List.getElem_take, List.getElem_map, List.getElem_range, List.getElem_replicate, List.getElem_drop, List.length_append, List.length_take, List.length_map, List.length_range, List.length_replicate]
    split
    · split
      · rename_i h3 h4
        rw [if_neg (by omega)]
      · rename_i h3 h4
        rw [if_pos (by omega)]
    · rename_i h3
      have e : ((a + s).toNat + (i - (min a.toNat N.toNat + s.toNat)) : Nat) = i := by omega
      rw [if_neg (by omega)]
      congr 1
      omega
theorem cells_at {N c : Int} {f : Int → Int} (h0 : 0 ≤ c) (h1 : c < N) : atI (cells N f) c = some (f c) := by
  unfold atI ixN
  rw [cells_len]
  rw [if_pos h0, if_pos (by omega)]
  simp only [Option.bind_some]
  unfold cells
  rw [List.getElem?_map, List.getElem?_range (by omega)]
  simp only [Option.map_some, Option.some.injEq]
  congr 1
  omega
theorem cells_cut {N a s : Int} {f : Int → Int} (h0 : 0 ≤ a) (h1 : 0 ≤ s) (h2 : a + s ≤ N) : ((cells N f).drop a.toNat).take s.toNat = (List.range s.toNat).map fun (i : Nat) => f (a + i) := by
  apply List.ext_getElem
  · simp [cells]; omega
  · intro i k1 k2
    simp only [cells, List.getElem_take, List.getElem_drop, List.getElem_map, List.getElem_range]
    congr 1
    omega
theorem cut_cells {N a s : Int} {f : Int → Int} (h0 : 0 ≤ a) (h1 : 0 ≤ s) (h2 : a + s ≤ N) : cut ((cells N f).map Val.int) (some a) (some (a + s)) = ((List.range s.toNat).map fun (i : Nat) => f (a + i)).map Val.int := by
  have e1 : sIx ((cells N f).map Val.int).length 0 (some a) = a.toNat := by
    unfold sIx; simp only [List.length_map, cells_len]; rw [if_pos h0]; omega
  have e2 : sIx ((cells N f).map Val.int).length ((cells N f).map Val.int).length (some (a + s)) = (a + s).toNat := by
    unfold sIx; simp only [List.length_map, cells_len]; rw [if_pos (by omega)]; omega
  unfold cut
  simp only [e1, e2]
  rw [show (a + s).toNat - a.toNat = s.toNat by omega, ← List.map_drop, ← List.map_take, cells_cut h0 h1 h2]
def has (o : Room) (c : Int) : Prop := o.1 ≤ c ∧ c < o.1 + o.2
/-- f tells of each cell which of the rooms it is in -/
def Told (L : List Room) (f : Int → Int) : Prop := ∀ c, (f c = 0 ∧ ∀ o ∈ L, ¬ has o c) ∨ ∃ (j : Nat) (o : Room), L[j]? = some o ∧ f c = j + 1 ∧ has o c
theorem Told.nil : Told [] fun _ => 0 := fun c => .inl ⟨rfl, fun o h => by cases h⟩
theorem Told.snoc {L : List Room} {f : Int → Int} (h : Told L f) (r : Room) : Told (L ++ [r]) fun c => if r.1 ≤ c ∧ c < r.1 + r.2 then (L.length : Int) + 1 else f c := fun c => by
  by_cases k : r.1 ≤ c ∧ c < r.1 + r.2
  · refine .inr ⟨L.length, r, by simp, ?_, k⟩
    simp only [k, and_self, if_true]
  · rcases h c with ⟨h1, h2⟩ | ⟨j, o, h1, h2, h3⟩
    · refine .inl ⟨?_, fun o ho => ?_⟩
      · simp only [k, if_false]; exact h1
      · rcases List.mem_append.mp ho with ho | ho
        · exact h2 o ho
        · rw [List.mem_singleton.mp ho]; exact k
    · refine .inr ⟨j, o, ?_, ?_, h3⟩
      · rw [List.getElem?_append_left (List.getElem?_eq_some_iff.mp h1).1]; exact h1
      · simp only [k, if_false]; exact h2
def freeB (f : Int → Int) (a s : Int) : Bool := !((List.range s.toNat).map fun (i : Nat) => f (a + i)).any fun i => i != 0
theorem freeB_iff {L : List Room} {f : Int → Int} {a s : Int} (h : Told L f) (hs : 0 < s) (hL : ∀ o ∈ L, 0 < o.2) : freeB f a s = true ↔ ∀ o ∈ L, ¬ T (a, s) o := by
  unfold freeB
  simp only [Bool.not_eq_true', List.any_eq_false, List.mem_map, List.mem_range, bne_iff_ne, ne_eq, Decidable.not_not]
  constructor
  · intro k o ho z
    unfold T at z
    simp only at z
    have hp := hL o ho
    have hc : ∃ i : Nat, i < s.toNat ∧ has o (a + i) := by
      by_cases q : a ≤ o.1
      · exact ⟨(o.1 - a).toNat, by omega, by unfold has; omega⟩
      · exact ⟨0, by omega, by unfold has; omega⟩
    obtain ⟨i, h1, h2⟩ := hc
    have := k _ ⟨i, h1, rfl⟩
    rcases h (a + i) with ⟨_, h3⟩ | ⟨j, _, _, h3, _⟩
    · exact h3 o ho h2
    · omega
  · rintro k _ ⟨i, h1, rfl⟩
    rcases h (a + i) with ⟨h2, _⟩ | ⟨j, o, h2, h3, h4⟩
    · exact h2
    · exfalso
      refine k o (List.mem_of_getElem? h2) ?_
      unfold has at h4
      unfold T
      simp only
      omega
/-- a list with its places -/
def enumL {α : Type} : Nat → List α → List (Nat × α)
  | _, [] => []
  | k, x :: r => (k, x) :: enumL (k + 1) r
theorem enum_map {α : Type} (f : α → Val) : ∀ (k : Nat) (L : List α), enumItems k (L.map f) = (enumL k L).map fun p => .tup [.int (p.1 : Int), f p.2]
  | _, [] => rfl
  | k, x :: r => by
    simp only [List.map_cons, enumItems, enumL]
    rw [enum_map f (k + 1) r]
theorem enumL_snd {α : Type} : ∀ (k : Nat) (L : List α), (enumL k L).map (·.2) = L
  | _, [] => rfl
  | k, x :: r => by simp [enumL, enumL_snd]
theorem align_iff {a s : Int} : a / s * s = a ↔ a % s = 0 := by
  have h := Int.mul_ediv_add_emod a s
  rw [Int.mul_comm] at h
  omega
theorem fits_in {t a s : Int} (ht : Tall t) (hs : s ∈ szs t) (h0 : 0 ≤ a) (h1 : a < pw t) (h2 : a % s = 0) : a + s ≤ pw t := by
  have sb := szs_bd ht hs
  obtain ⟨q, hq⟩ := Int.dvd_of_emod_eq_zero sb.2.2
  obtain ⟨p, hp⟩ := Int.dvd_of_emod_eq_zero h2
  have : p < q := by
    rw [hp, hq] at h1
    exact Int.lt_of_mul_lt_mul_left h1 (by omega)
  have h3 : s * (p + 1) ≤ s * q := Int.mul_le_mul_of_nonneg_left (by omega) (by omega)
  rw [Int.mul_add, Int.mul_one] at h3
  rw [hp, hq]; exact h3
/-- at a place of the map where a free room begins: wider ones are not free, or begin elsewhere -/
theorem wider {t : Int} (ht : Tall t) {L : List Room} {x : Room} (hx : Fr t L x) {s : Int} (hs : s ∈ szs t) (h : x.2 < s) (hm : x.1 % s = 0) : ∃ o ∈ L, T (x.1, s) o := by
  obtain ⟨v, d, k⟩ := hx
  have b := v.bd ht
  have sb := szs_bd ht hs
  have v1 : Valid t (x.1, s) := by
    refine ⟨hs, v.2.1, ?_, hm⟩
    have h1 : pw t % s = 0 := sb.2.2
    have h2 : x.1 < pw t := by have := v.2.2.1; omega
    obtain ⟨q, hq⟩ := Int.dvd_of_emod_eq_zero h1
    obtain ⟨p, hp⟩ := Int.dvd_of_emod_eq_zero hm
    show x.1 + s ≤ pw t
    have : p < q := by
      rw [hp, hq] at h2
      exact Int.lt_of_mul_lt_mul_left h2 (by omega)
    have h3 : s * (p + 1) ≤ s * q := Int.mul_le_mul_of_nonneg_left (by omega) (by omega)
    rw [Int.mul_add, Int.mul_one] at h3
    rw [hp, hq]; exact h3
  have i : In x (x.1, s) := by unfold In; simp only; omega
  have ne : x ≠ (x.1, s) := fun z => by rw [z] at h; simp at h
  obtain ⟨f1, f2⟩ := up ht v v1 i ne
  rcases k with k | ⟨o, ho, k⟩
  · exact absurd k f1
  · exact ⟨o, ho, k.mono f2⟩
theorem szs_dn {t a s : Int} (ht : Tall t) (ha : a ∈ szs t) (hs : s ∈ szs t) (h : a < s) : s / 2 ∈ szs t ∧ a ≤ s / 2 ∧ s / 2 * 2 = s := by
  have k1 := (mem_szs ht).mp ha
  have k2 := (mem_szs ht).mp hs
  rw [mem_szs ht]
  omega
theorem szs_up {t s : Int} (ht : Tall t) (h : s ∈ szs t) (n : s ≠ pw t) : s * 2 ∈ szs t := by
  have := pw_t ht
  have k := (mem_szs ht).mp h
  rw [mem_szs ht]
  omega

def ltB (y a : Room) : Bool := decide (y.2 < a.2 ∨ (y.2 = a.2 ∧ y.1 < a.1))
def bestF (x : Room) (r : List Room) : Room := r.foldl (fun a y => if ltB y a then y else a) x
/-- of rooms the least, of alike ones the west-most -/
def bestL : List Room → Option Room
  | [] => none
  | x :: r => some (bestF x r)
def optR : Option Room → Val
  | none => .non
  | some r => eR r
theorem lex2 (a b c d : Int) : lexLt [a, b] [c, d] = decide (a < c ∨ (a = c ∧ b < d)) := by
  unfold lexLt
  by_cases h : a = c
  · subst h
    rw [if_pos rfl]
    unfold lexLt
    by_cases h2 : b = d
    · subst h2; simp [lexLt]
    · rw [if_neg h2]; simp
  · rw [if_neg h]; simp [h]
theorem keyed_rooms : ∀ {F : List Room}, keyed [.at_ 1, .at_ 0] (F.map eR) = some (F.map fun r => ([r.2, r.1], eR r))
  | [] => rfl
  | x :: F => by
    simp only [List.map_cons, eR, keyed, keyOf, KP.get, List.getElem?_cons_succ, List.getElem?_cons_zero]
    have := keyed_rooms (F := F)
    simp only [eR] at this
    rw [this]
theorem minK_rooms {F : List Room} : minK [.at_ 1, .at_ 0] (F.map eR) = some (optR (bestL F)) := by
  unfold minK
  rw [keyed_rooms]
  cases F with
  | nil => rfl
  | cons x F =>
    simp only [Option.map_some, List.map_cons, leastK, bestL, optR, bestF, Option.some.injEq]
    have go : ∀ (F : List Room) (x : Room), ((F.map fun r => ([r.2, r.1], eR r)).foldl (fun a y => if lexLt y.1 a.1 then y else a) ([x.2, x.1], eR x)).2 = eR (F.foldl (fun a y => if ltB y a then y else a) x) := fun F => by
      induction F with
      | nil => intro x; rfl
      | cons y F ih =>
        intro x
        simp only [List.map_cons, List.foldl_cons, lex2]
        have e : decide (y.2 < x.2 ∨ (y.2 = x.2 ∧ y.1 < x.1)) = ltB y x := rfl
        rw [e]
        cases ltB y x
        · exact ih x
        · exact ih y
    exact go F x
theorem minV_rooms {x : Room} {F : List Room} (hl : F.length < 16777216) : minV ((x :: F).map fun r => eR (r.2, r.1)) = some (eR ((bestF x F).2, (bestF x F).1)) := by
  have ok : sortable ((x :: F).map fun r => eR (r.2, r.1)) = true := by
    have e : ((x :: F).map fun r => eR (r.2, r.1)) = ((x :: F).map fun r : Room => ((r.2, r.1) : Room)).map eR := by rw [List.map_map]; rfl
    rw [e]
    generalize hM : (x :: F).map (fun r : Room => ((r.2, r.1) : Room)) = M
    have hML : M.length ≤ 16777216 := by rw [← hM, List.length_map, List.length_cons]; omega
    simp only [sortable, Bool.and_eq_true, Bool.or_eq_true, decide_eq_true_eq]
    refine ⟨⟨⟨rooms_ok 59, ?_⟩, .inl ?_⟩, by simpa [SZ] using hML⟩
    · rw [List.all_eq_true]
      intro a ha
      rw [List.all_eq_true]
      intro b hb
      obtain ⟨y, _, rfl⟩ := List.mem_map.mp ha
      obtain ⟨z, _, rfl⟩ := List.mem_map.mp hb
      exact alike_rooms y z
    · rw [List.all_eq_true]
      intro a ha
      obtain ⟨y, _, rfl⟩ := List.mem_map.mp ha
      rfl
  rw [List.map_cons] at ok ⊢
  unfold minV
  simp only [ok, if_true, Option.some.injEq]
  have go : ∀ (F : List Room) (x : Room), ((F.map fun r => eR (r.2, r.1)).foldl (fun a y => if PySem.W.dataLe false pd a y then a else y) (eR (x.2, x.1))) = eR ((bestF x F).2, (bestF x F).1) := fun F => by
    induction F with
    | nil => intro x; rfl
    | cons y F ih =>
      intro x
      simp only [List.map_cons, List.foldl_cons, le_eR]
      have e : bestF x (y :: F) = bestF (if ltB y x then y else x) F := rfl
      rw [e]
      have e2 : lePair (x.2, x.1) (y.2, y.1) = !ltB y x := by
        rw [Bool.eq_iff_iff]
        simp only [lePair, ltB, decide_eq_true_eq, Bool.not_eq_true', decide_eq_false_iff_not]
        omega
      rw [e2]
      cases ltB y x
      · exact ih x
      · exact ih y
  exact go F x
/-- the free rooms of a map -/
def dues (t : Int) (L : List Room) : List Room := ((mapP t L).filter fun p => !p.2).map Prod.fst
def gotL (t : Int) (L : List Room) (s : Int) : Option Room := bestL ((dues t L).filter fun r => decide (s ≤ r.2))
/-- the room that a wish gets -/
def gotR (t : Int) (L : List Room) (s : Int) : Option Room := (gotL t L s).map fun r => (r.1, s)
theorem dues_len {t : Int} {L : List Room} : (dues t L).length ≤ 32 := by
  unfold dues
  rw [List.length_map]
  exact Nat.le_trans (List.length_filter_le _ _) mapP_len
end Dy

namespace MPS
open PySem PySem.Spec L2 MP
abbrev MHeap := MP.Heap
abbrev MEnv := MP.Env

/-- what stays through a whole program: the written part, where the defs stand -/
structure C where
  K : PySem.W.Frag
  fa : Nat → Addr
  /-- where the classes of exceptions stand, and the field that each bears -/
  ca : Nat → Addr
  cf : Nat → Option Str
  /-- the tables of code objects, and the name that each one's code objects bear -/
  tt : List (Addr × Str)
  /-- the code objects with their tables -/
  cs : List (Addr × Addr)

/-- a list of the written part -/
def KL (K : PySem.W.Frag) (a : Addr) (xs : List V) : Prop :=
  ∃ (o : Obj) (its : Array Value) (n : Nat), K.lookup a = some o ∧ o.cls = .type "list" ∧ o.dict = none ∧ o.data = .seq its n ∧ its.size ≤ sizeLine ∧ Vals xs its.toList

/-- a list that stays as it is -/
def FL (K : PySem.W.Frag) (H : Hp) (G : Addr → Prop) (a : Addr) (xs : List V) : Prop := (∃ o, H a = some (.frz o (.lst xs))) ∨ KL K a xs ∨ (H a = some (.lst xs) ∧ ¬ G a)
theorem FL.sq {K : PySem.W.Frag} {H : Hp} {G : Addr → Prop} {a : Addr} {xs : List V} (h : FL K H G a xs) : SqL K H a xs := by
  rcases h with h | h | h
  · exact .inl (.inr h)
  · exact .inr h
  · exact .inl (.inl h.1)
theorem FL.less {K : PySem.W.Frag} {H : Hp} {G G' : Addr → Prop} {a : Addr} {xs : List V} (k : ∀ a, G' a → G a) (h : FL K H G a xs) : FL K H G' a xs := by
  rcases h with h | h | ⟨h, n⟩
  · exact .inl h
  · exact .inr (.inl h)
  · exact .inr (.inr ⟨h, fun z => n (k a z)⟩)
mutual
/-- MP's value d is the layer's x: ml the local lists' places, G what may change -/
def RV (c : C) (H : Hp) (ml : List Addr) (G : Addr → Prop) : Val → V → Prop
  | .non, x => x = .non
  | .bl b, x => x = .bl b
  | .int i, x => x = .int i
  | .str s, x => x = .str s
  | .tup l, x => ∃ a xs, x = .ref a ∧ SqT c.K H a xs ∧ RVs c H ml G l xs
  | .lst l, x => ∃ a xs, x = .ref a ∧ (H a = some (.lst xs) ∧ ¬ G a) ∧ RVs c H ml G l xs
  | .scr l, x => ∃ a xs, x = .ref a ∧ FL c.K H G a xs ∧ RVs c H ml G l xs
  | .dct ks vs, x => ks = [] ∧ vs = [] ∧ ∃ a, x = .ref a ∧ H a = some (.dK []) ∧ ¬ G a
  | .loc n, x => ∃ a, ml[n]? = some a ∧ x = .ref a
  | .fn n, x => x = .ref (c.fa n)
  | .ty s, x => x = .ty s
def RVs (c : C) (H : Hp) (ml : List Addr) (G : Addr → Prop) : List Val → List V → Prop
  | [], xs => xs = []
  | d :: ds, xs => ∃ x r, xs = x :: r ∧ RV c H ml G d x ∧ RVs c H ml G ds r
end

section
variable {c : C} {H : Hp} {ml : List Addr} {G : Addr → Prop}
theorem RVs.nil : RVs c H ml G [] [] := by simp [RVs]
theorem RVs.cons {d : Val} {ds : List Val} {x : V} {xs : List V} (h : RV c H ml G d x) (r : RVs c H ml G ds xs) : RVs c H ml G (d :: ds) (x :: xs) := by
  unfold RVs; exact ⟨x, xs, rfl, h, r⟩
theorem RVs.length : ∀ {ds : List Val} {xs : List V}, RVs c H ml G ds xs → xs.length = ds.length
  | [], xs, h => by unfold RVs at h; rw [h]; rfl
  | d :: ds, xs, h => by
    unfold RVs at h
    obtain ⟨x, r, e, _, h2⟩ := h
    rw [e, List.length_cons, List.length_cons, RVs.length h2]
theorem RVs.get : ∀ {ds : List Val} {xs : List V} {i : Nat} {d : Val}, RVs c H ml G ds xs → ds[i]? = some d → ∃ x, xs[i]? = some x ∧ RV c H ml G d x
  | [], _, _, _, _, e => by simp at e
  | d :: ds, xs, 0, d', h, e => by
    unfold RVs at h
    obtain ⟨x, r, e1, h1, _⟩ := h
    simp at e
    subst e; subst e1
    exact ⟨x, rfl, h1⟩
  | d :: ds, xs, i + 1, d', h, e => by
    unfold RVs at h
    obtain ⟨x, r, e1, _, h2⟩ := h
    subst e1
    obtain ⟨y, e2, h3⟩ := RVs.get (i := i) h2 (by simpa using e)
    exact ⟨y, by simpa using e2, h3⟩
theorem RVs.append : ∀ {ds es : List Val} {xs ys : List V}, RVs c H ml G ds xs → RVs c H ml G es ys → RVs c H ml G (ds ++ es) (xs ++ ys)
  | [], _, xs, _, h, h' => by unfold RVs at h; subst h; exact h'
  | d :: ds, es, xs, ys, h, h' => by
    unfold RVs at h
    obtain ⟨x, r, e1, h1, h2⟩ := h
    subst e1
    exact .cons h1 (RVs.append h2 h')
theorem RVs.take : ∀ {ds : List Val} {xs : List V} (n : Nat), RVs c H ml G ds xs → RVs c H ml G (ds.take n) (xs.take n)
  | _, _, 0, _ => by simp [RVs]
  | [], xs, n + 1, h => by unfold RVs at h; subst h; simp [RVs]
  | d :: ds, xs, n + 1, h => by
    unfold RVs at h
    obtain ⟨x, r, e1, h1, h2⟩ := h
    subst e1
    exact .cons h1 (RVs.take n h2)
theorem RVs.drop : ∀ {ds : List Val} {xs : List V} (n : Nat), RVs c H ml G ds xs → RVs c H ml G (ds.drop n) (xs.drop n)
  | ds, xs, 0, h => h
  | [], xs, n + 1, h => by unfold RVs at h; subst h; simp [RVs]
  | d :: ds, xs, n + 1, h => by
    unfold RVs at h
    obtain ⟨x, r, e1, _, h2⟩ := h
    subst e1
    exact RVs.drop n h2
theorem RVs.set : ∀ {ds : List Val} {xs : List V} {d : Val} {x : V} (n : Nat), RVs c H ml G ds xs → RV c H ml G d x → RVs c H ml G (ds.set n d) (xs.set n x)
  | [], xs, _, _, n, h, _ => by unfold RVs at h; subst h; simp [RVs]
  | d :: ds, xs, d', x', 0, h, h' => by
    unfold RVs at h
    obtain ⟨x, r, e1, _, h2⟩ := h
    subst e1
    exact .cons h' h2
  | d :: ds, xs, d', x', n + 1, h, h' => by
    unfold RVs at h
    obtain ⟨x, r, e1, h1, h2⟩ := h
    subst e1
    exact .cons h1 (RVs.set n h2 h')
theorem RVs.isEmpty {ds : List Val} {xs : List V} (h : RVs c H ml G ds xs) : xs.isEmpty = ds.isEmpty := by
  have := h.length
  cases ds <;> cases xs <;> simp_all
theorem RVs.inv {d : Val} {ds : List Val} {xs : List V} (h : RVs c H ml G (d :: ds) xs) : ∃ x r, xs = x :: r ∧ RV c H ml G d x ∧ RVs c H ml G ds r := by unfold RVs at h; exact h
theorem RVs.inv0 {xs : List V} (h : RVs c H ml G [] xs) : xs = [] := by unfold RVs at h; exact h
theorem RVs.flat : ∀ {n : Nat} {ds : List Val} {xs : List V}, RVs c H ml G ds xs → RVs c H ml G (List.replicate n ds).flatten (List.replicate n xs).flatten
  | 0, _, _, _ => by simp [RVs]
  | n + 1, ds, xs, h => by
    rw [List.replicate_succ, List.flatten_cons, List.replicate_succ, List.flatten_cons]
    exact h.append (RVs.flat h)

theorem RV.non : RV c H ml G .non .non := by unfold RV; rfl
theorem RV.bl {b : Bool} : RV c H ml G (.bl b) (.bl b) := by unfold RV; rfl
theorem RV.int {i : Int} : RV c H ml G (.int i) (.int i) := by unfold RV; rfl
theorem RV.str {s : Str} : RV c H ml G (.str s) (.str s) := by unfold RV; rfl
theorem RV.tup {l : List Val} {a : Addr} {xs : List V} (h : SqT c.K H a xs) (r : RVs c H ml G l xs) : RV c H ml G (.tup l) (.ref a) := by unfold RV; exact ⟨a, xs, rfl, h, r⟩
theorem RV.lst {l : List Val} {a : Addr} {xs : List V} (h : H a = some (.lst xs)) (n : ¬ G a) (r : RVs c H ml G l xs) : RV c H ml G (.lst l) (.ref a) := by unfold RV; exact ⟨a, xs, rfl, ⟨h, n⟩, r⟩
theorem RV.scr' {l : List Val} {x : V} (h : RV c H ml G (.scr l) x) : ∃ a xs, x = .ref a ∧ FL c.K H G a xs ∧ RVs c H ml G l xs := by unfold RV at h; exact h
theorem RV.loc {n : Nat} {a : Addr} (h : ml[n]? = some a) : RV c H ml G (.loc n) (.ref a) := by unfold RV; exact ⟨a, h, rfl⟩
theorem RV.non' {x : V} (h : RV c H ml G .non x) : x = .non := by unfold RV at h; exact h
theorem RV.bl' {b : Bool} {x : V} (h : RV c H ml G (.bl b) x) : x = .bl b := by unfold RV at h; exact h
theorem RV.int' {i : Int} {x : V} (h : RV c H ml G (.int i) x) : x = .int i := by unfold RV at h; exact h
theorem RV.str' {s : Str} {x : V} (h : RV c H ml G (.str s) x) : x = .str s := by unfold RV at h; exact h
theorem RV.tup' {l : List Val} {x : V} (h : RV c H ml G (.tup l) x) : ∃ a xs, x = .ref a ∧ SqT c.K H a xs ∧ RVs c H ml G l xs := by unfold RV at h; exact h
theorem RV.lst' {l : List Val} {x : V} (h : RV c H ml G (.lst l) x) : ∃ a xs, x = .ref a ∧ (H a = some (.lst xs) ∧ ¬ G a) ∧ RVs c H ml G l xs := by unfold RV at h; exact h
theorem RV.loc' {n : Nat} {x : V} (h : RV c H ml G (.loc n) x) : ∃ a, ml[n]? = some a ∧ x = .ref a := by unfold RV at h; exact h
theorem RV.dct' {ks vs : List Val} {x : V} (h : RV c H ml G (.dct ks vs) x) : ks = [] ∧ vs = [] ∧ ∃ a, x = .ref a ∧ H a = some (.dK []) ∧ ¬ G a := by unfold RV at h; exact h
theorem RV.fn' {n : Nat} {x : V} (h : RV c H ml G (.fn n) x) : x = .ref (c.fa n) := by unfold RV at h; exact h
theorem RV.ty' {s : String} {x : V} (h : RV c H ml G (.ty s) x) : x = .ty s := by unfold RV at h; exact h
end

/-- what may change: nothing that is fixed -/
def Loose : Option HO → Prop
  | some (.tup _) => False
  | some (.frz _ _) => False
  | none => False
  | _ => True
/-- what was to change may have changed, new places may have come; all else stands -/
structure Grow (ml : List Addr) (G : Addr → Prop) (H : Hp) (ml' : List Addr) (G' : Addr → Prop) (H' : Hp) : Prop where
  pre : ∃ new, ml' = ml ++ new ∧ ∀ a ∈ new, H a = none
  gm : ∀ a, G a → G' a
  gn : ∀ a, G' a → G a ∨ H a = none
  fr : ∀ a o, H a = some o → a ∉ ml → (∀ ps, o ≠ .tbl ps) → H' a = some o
  nn : ∀ a, H a ≠ none → H' a ≠ none
  mg : ∀ a ∈ ml, G a
  ls : ∀ a ∈ ml, Loose (H a)
  ln : ∀ a ∈ ml, H' a ≠ none
theorem Grow.rdT {ml ml' : List Addr} {G G' : Addr → Prop} {H H' : Hp} (g : Grow ml G H ml' G' H') {a : Addr} {xs : List V} (h : Rd H a (.tup xs)) : Rd H' a (.tup xs) := by
  rcases h with h | ⟨o, h⟩
  · exact .inl (g.fr a _ h (fun z => by have := g.ls a z; rw [h] at this; exact this) (fun _ z => by cases z))
  · exact .inr ⟨o, g.fr a _ h (fun z => by have := g.ls a z; rw [h] at this; exact this) (fun _ z => by cases z)⟩
theorem Grow.sqT {K : PySem.W.Frag} {ml ml' : List Addr} {G G' : Addr → Prop} {H H' : Hp} (g : Grow ml G H ml' G' H') {a : Addr} {xs : List V} (h : SqT K H a xs) : SqT K H' a xs := by
  rcases h with h | h
  · exact .inl (g.rdT h)
  · exact .inr h

mutual
theorem RV.monoG {c : C} {H H' : Hp} {ml ml' : List Addr} {G G' : Addr → Prop} (g : Grow ml G H ml' G' H') : ∀ (d : Val) (x : V), RV c H ml G d x → RV c H' ml' G' d x
  | .non, x, h => by unfold RV at h ⊢; exact h
  | .bl _, x, h => by unfold RV at h ⊢; exact h
  | .int _, x, h => by unfold RV at h ⊢; exact h
  | .str _, x, h => by unfold RV at h ⊢; exact h
  | .tup l, x, h => by
    unfold RV at h ⊢
    obtain ⟨a, xs, e, hs, r⟩ := h
    exact ⟨a, xs, e, g.sqT hs, RVs.monoG g l xs r⟩
  | .lst l, x, h => by
    unfold RV at h ⊢
    obtain ⟨a, xs, e, hs, r⟩ := h
    refine ⟨a, xs, e, ?_, RVs.monoG g l xs r⟩
    obtain ⟨hs, ng⟩ := hs
    refine ⟨g.fr a _ hs (fun z => ng (g.mg a z)) (fun _ z => by cases z), fun z => ?_⟩
    rcases g.gn a z with q | q
    · exact ng q
    · rw [q] at hs; cases hs
  | .scr l, x, h => by
    unfold RV at h ⊢
    obtain ⟨a, xs, e, hs, r⟩ := h
    refine ⟨a, xs, e, ?_, RVs.monoG g l xs r⟩
    rcases hs with ⟨o, hs⟩ | hs | ⟨hs, ng⟩
    · exact .inl ⟨o, g.fr a _ hs (fun z => by have q := g.ls a z; rw [hs] at q; exact q) (fun _ z => by cases z)⟩
    · exact .inr (.inl hs)
    · refine .inr (.inr ⟨g.fr a _ hs (fun z => ng (g.mg a z)) (fun _ z => by cases z), fun z => ?_⟩)
      rcases g.gn a z with q | q
      · exact ng q
      · rw [q] at hs; cases hs
  | .dct ks vs, x, h => by
    unfold RV at h ⊢
    obtain ⟨e1, e2, a, e, hs, ng⟩ := h
    refine ⟨e1, e2, a, e, g.fr a _ hs (fun z => ng (g.mg a z)) (fun _ z => by cases z), fun z => ?_⟩
    rcases g.gn a z with q | q
    · exact ng q
    · rw [q] at hs; cases hs
  | .loc n, x, h => by
    unfold RV at h ⊢
    obtain ⟨a, e, q⟩ := h
    obtain ⟨new, e2, _⟩ := g.pre
    refine ⟨a, ?_, q⟩
    rw [e2, List.getElem?_append_left (List.getElem?_eq_some_iff.mp e).1]
    exact e
  | .fn _, x, h => by unfold RV at h ⊢; exact h
  | .ty _, x, h => by unfold RV at h ⊢; exact h
theorem RVs.monoG {c : C} {H H' : Hp} {ml ml' : List Addr} {G G' : Addr → Prop} (g : Grow ml G H ml' G' H') : ∀ (ds : List Val) (xs : List V), RVs c H ml G ds xs → RVs c H' ml' G' ds xs
  | [], xs, h => by unfold RVs at h ⊢; exact h
  | d :: ds, xs, h => by
    unfold RVs at h ⊢
    obtain ⟨x, r, e, h1, h2⟩ := h
    exact ⟨x, r, e, RV.monoG g d x h1, RVs.monoG g ds r h2⟩
end
theorem RV.mono {c : C} {H H' : Hp} {ml ml' : List Addr} {G G' : Addr → Prop} {d : Val} {x : V} (r : RV c H ml G d x) (g : Grow ml G H ml' G' H') : RV c H' ml' G' d x := RV.monoG g d x r
theorem RVs.mono {c : C} {H H' : Hp} {ml ml' : List Addr} {G G' : Addr → Prop} {d : List Val} {x : List V} (r : RVs c H ml G d x) (g : Grow ml G H ml' G' H') : RVs c H' ml' G' d x := RVs.monoG g d x r
mutual
theorem RV.longer {c : C} {H : Hp} {ml new : List Addr} {G : Addr → Prop} : ∀ (d : Val) (x : V), RV c H ml G d x → RV c H (ml ++ new) G d x
  | .non, x, h => by unfold RV at h ⊢; exact h
  | .bl _, x, h => by unfold RV at h ⊢; exact h
  | .int _, x, h => by unfold RV at h ⊢; exact h
  | .str _, x, h => by unfold RV at h ⊢; exact h
  | .tup l, x, h => by
    unfold RV at h ⊢
    obtain ⟨a, xs, e, hs, r⟩ := h
    exact ⟨a, xs, e, hs, RVs.longer l xs r⟩
  | .lst l, x, h => by
    unfold RV at h ⊢
    obtain ⟨a, xs, e, hs, r⟩ := h
    exact ⟨a, xs, e, hs, RVs.longer l xs r⟩
  | .scr l, x, h => by
    unfold RV at h ⊢
    obtain ⟨a, xs, e, hs, r⟩ := h
    exact ⟨a, xs, e, hs, RVs.longer l xs r⟩
  | .dct ks vs, x, h => by unfold RV at h ⊢; exact h
  | .loc n, x, h => by
    unfold RV at h ⊢
    obtain ⟨a, e, q⟩ := h
    exact ⟨a, by rw [List.getElem?_append_left (List.getElem?_eq_some_iff.mp e).1]; exact e, q⟩
  | .fn _, x, h => by unfold RV at h ⊢; exact h
  | .ty _, x, h => by unfold RV at h ⊢; exact h
theorem RVs.longer {c : C} {H : Hp} {ml new : List Addr} {G : Addr → Prop} : ∀ (ds : List Val) (xs : List V), RVs c H ml G ds xs → RVs c H (ml ++ new) G ds xs
  | [], xs, h => by unfold RVs at h ⊢; exact h
  | d :: ds, xs, h => by
    unfold RVs at h ⊢
    obtain ⟨x, r, e, h1, h2⟩ := h
    exact ⟨x, r, e, RV.longer d x h1, RVs.longer ds r h2⟩
end
mutual
/-- fewer things that may change; no local place within -/
theorem RV.less {c : C} {H : Hp} {ml ml' : List Addr} {G G' : Addr → Prop} (k : ∀ a, G' a → G a) : ∀ (d : Val) (x : V), d.noLoc = true → RV c H ml G d x → RV c H ml' G' d x
  | .non, x, _, h => by unfold RV at h ⊢; exact h
  | .bl _, x, _, h => by unfold RV at h ⊢; exact h
  | .int _, x, _, h => by unfold RV at h ⊢; exact h
  | .str _, x, _, h => by unfold RV at h ⊢; exact h
  | .tup l, x, n, h => by
    unfold RV at h ⊢
    obtain ⟨a, xs, e, hs, r⟩ := h
    exact ⟨a, xs, e, hs, RVs.less k l xs (by simpa [Val.noLoc] using n) r⟩
  | .lst l, x, n, h => by
    unfold RV at h ⊢
    obtain ⟨a, xs, e, ⟨hs, ng⟩, r⟩ := h
    exact ⟨a, xs, e, ⟨hs, fun z => ng (k a z)⟩, RVs.less k l xs (by simpa [Val.noLoc] using n) r⟩
  | .scr l, x, n, h => by
    unfold RV at h ⊢
    obtain ⟨a, xs, e, hs, r⟩ := h
    exact ⟨a, xs, e, hs.less k, RVs.less k l xs (by simpa [Val.noLoc] using n) r⟩
  | .dct ks vs, x, n, h => by
    unfold RV at h ⊢
    obtain ⟨e1, e2, a, e, hs, ng⟩ := h
    exact ⟨e1, e2, a, e, hs, fun z => ng (k a z)⟩
  | .loc _, x, n, h => by simp [Val.noLoc] at n
  | .fn _, x, _, h => by unfold RV at h ⊢; exact h
  | .ty _, x, _, h => by unfold RV at h ⊢; exact h
theorem RVs.less {c : C} {H : Hp} {ml ml' : List Addr} {G G' : Addr → Prop} (k : ∀ a, G' a → G a) : ∀ (ds : List Val) (xs : List V), noLocL ds = true → RVs c H ml G ds xs → RVs c H ml' G' ds xs
  | [], xs, _, h => by unfold RVs at h ⊢; exact h
  | d :: ds, xs, n, h => by
    unfold RVs at h ⊢
    obtain ⟨x, r, e, h1, h2⟩ := h
    simp only [noLocL, Bool.and_eq_true] at n
    exact ⟨x, r, e, RV.less k d x n.1 h1, RVs.less k ds r n.2 h2⟩
end
mutual
theorem RV.lessG {c : C} {H : Hp} {ml : List Addr} {G G' : Addr → Prop} (k : ∀ a, G' a → G a) : ∀ (d : Val) (x : V), RV c H ml G d x → RV c H ml G' d x
  | .non, x, h => by unfold RV at h ⊢; exact h
  | .bl _, x, h => by unfold RV at h ⊢; exact h
  | .int _, x, h => by unfold RV at h ⊢; exact h
  | .str _, x, h => by unfold RV at h ⊢; exact h
  | .tup l, x, h => by
    unfold RV at h ⊢
    obtain ⟨a, xs, e, hs, r⟩ := h
    exact ⟨a, xs, e, hs, RVs.lessG k l xs r⟩
  | .lst l, x, h => by
    unfold RV at h ⊢
    obtain ⟨a, xs, e, ⟨hs, ng⟩, r⟩ := h
    exact ⟨a, xs, e, ⟨hs, fun z => ng (k a z)⟩, RVs.lessG k l xs r⟩
  | .scr l, x, h => by
    unfold RV at h ⊢
    obtain ⟨a, xs, e, hs, r⟩ := h
    exact ⟨a, xs, e, hs.less k, RVs.lessG k l xs r⟩
  | .dct ks vs, x, h => by
    unfold RV at h ⊢
    obtain ⟨e1, e2, a, e, hs, ng⟩ := h
    exact ⟨e1, e2, a, e, hs, fun z => ng (k a z)⟩
  | .loc _, x, h => by unfold RV at h ⊢; exact h
  | .fn _, x, h => by unfold RV at h ⊢; exact h
  | .ty _, x, h => by unfold RV at h ⊢; exact h
theorem RVs.lessG {c : C} {H : Hp} {ml : List Addr} {G G' : Addr → Prop} (k : ∀ a, G' a → G a) : ∀ (ds : List Val) (xs : List V), RVs c H ml G ds xs → RVs c H ml G' ds xs
  | [], xs, h => by unfold RVs at h ⊢; exact h
  | d :: ds, xs, h => by
    unfold RVs at h ⊢
    obtain ⟨x, r, e, h1, h2⟩ := h
    exact ⟨x, r, e, RV.lessG k d x h1, RVs.lessG k ds r h2⟩
end
mutual
/-- no list within: whatever may change -/
theorem RV.any {c : C} {H : Hp} {ml ml' : List Addr} {G G' : Addr → Prop} : ∀ (d : Val) (x : V), d.noLst = true → RV c H ml G d x → RV c H ml' G' d x
  | .non, x, _, h => by unfold RV at h ⊢; exact h
  | .bl _, x, _, h => by unfold RV at h ⊢; exact h
  | .int _, x, _, h => by unfold RV at h ⊢; exact h
  | .str _, x, _, h => by unfold RV at h ⊢; exact h
  | .tup l, x, n, h => by
    unfold RV at h ⊢
    obtain ⟨a, xs, e, hs, r⟩ := h
    exact ⟨a, xs, e, hs, RVs.any l xs (by simpa [Val.noLst] using n) r⟩
  | .lst l, x, n, h => by simp [Val.noLst] at n
  | .scr l, x, n, h => by simp [Val.noLst] at n
  | .dct ks vs, x, n, h => by simp [Val.noLst] at n
  | .loc _, x, n, h => by simp [Val.noLst] at n
  | .fn _, x, _, h => by unfold RV at h ⊢; exact h
  | .ty _, x, _, h => by unfold RV at h ⊢; exact h
theorem RVs.any {c : C} {H : Hp} {ml ml' : List Addr} {G G' : Addr → Prop} : ∀ (ds : List Val) (xs : List V), noLstL ds = true → RVs c H ml G ds xs → RVs c H ml' G' ds xs
  | [], xs, _, h => by unfold RVs at h ⊢; exact h
  | d :: ds, xs, n, h => by
    unfold RVs at h ⊢
    obtain ⟨x, r, e, h1, h2⟩ := h
    simp only [noLstL, Bool.and_eq_true] at n
    exact ⟨x, r, e, RV.any d x n.1 h1, RVs.any ds r n.2 h2⟩
end

theorem Grow.refl {ml : List Addr} {G : Addr → Prop} {H : Hp} (mg : ∀ a ∈ ml, G a) (ls : ∀ a ∈ ml, Loose (H a)) : Grow ml G H ml G H :=
  ⟨⟨[], by simp, fun _ z => by cases z⟩, fun _ h => h, fun _ h => .inl h, fun _ _ h _ _ => h, fun _ h => h, mg, ls, fun a ha z => by have q := ls a ha; rw [z] at q; exact q⟩

/-- what stands at a local place -/
def OR (c : C) (H : Hp) (ml : List Addr) (G : Addr → Prop) : LObj → Addr → Prop
  | .list l, a => ∃ xs, H a = some (.lst xs) ∧ RVs c H ml G l xs
  | .dict _ _, _ => False

/-- THE STATE: MP's slots and local heap beside the layer's -/
structure SR (c : C) (env : MEnv) (h : MHeap) (ml : List Addr) (G : Addr → Prop) (σ : L2.St) (H : Hp) : Prop where
  len : ml.length = h.length
  nd : ml.Nodup
  mg : ∀ a ∈ ml, G a
  tr : ∀ a, G a → H a ≠ none
  obj : ∀ (n : Nat) (o : LObj) (a : Addr), h[n]? = some o → ml[n]? = some a → OR c H ml G o a
  ev : ∀ (i : Nat) (v : Val), env[i]? = some (some v) → ∃ x, σ[i]? = some (some x) ∧ RV c H ml G v x
  el : env.length ≤ σ.length
  tb : LamX.Tabs c.tt H
theorem SR.ls {c : C} {env : MEnv} {h : MHeap} {ml : List Addr} {G : Addr → Prop} {σ : L2.St} {H : Hp} (s : SR c env h ml G σ H) : ∀ a ∈ ml, Loose (H a) := fun a ha => by
  obtain ⟨n, hn⟩ := List.getElem?_of_mem ha
  have hl : n < h.length := by rw [← s.len]; exact (List.getElem?_eq_some_iff.mp hn).1
  obtain ⟨o, ho⟩ : ∃ o, h[n]? = some o := ⟨h[n], List.getElem?_eq_getElem hl⟩
  have q := s.obj n o a ho hn
  cases o with
  | list l => obtain ⟨xs, e, _⟩ := q; rw [e]; exact True.intro
  | dict _ _ => exact q.elim
theorem SR.refl {c : C} {env : MEnv} {h : MHeap} {ml : List Addr} {G : Addr → Prop} {σ : L2.St} {H : Hp} (s : SR c env h ml G σ H) : Grow ml G H ml G H := .refl s.mg s.ls
theorem Grow.trans {ml ml1 ml2 : List Addr} {G G1 G2 : Addr → Prop} {H H1 H2 : Hp} (g : Grow ml G H ml1 G1 H1) (k : Grow ml1 G1 H1 ml2 G2 H2) : Grow ml G H ml2 G2 H2 := by
  obtain ⟨n1, e1, f1⟩ := g.pre
  obtain ⟨n2, e2, f2⟩ := k.pre
  have nm : ∀ a o, H a = some o → a ∉ ml → a ∉ ml1 := fun a o e hn hm => by
    rw [e1] at hm
    rcases List.mem_append.mp hm with hm | hm
    · exact hn hm
    · rw [f1 a hm] at e; cases e
  refine ⟨⟨n1 ++ n2, by rw [e2, e1, List.append_assoc], fun a ha => ?_⟩, fun a h => k.gm a (g.gm a h), fun a h => ?_, fun a o e hn ht => k.fr a o (g.fr a o e hn ht) (nm a o e hn) ht, fun a h => k.nn a (g.nn a h), g.mg, g.ls, fun a ha => k.ln a (by rw [e1]; exact List.mem_append_left _ ha)⟩
  · rcases List.mem_append.mp ha with ha | ha
    · exact f1 a ha
    · cases e : H a with
      | none => rfl
      | some o =>
        have q := f2 a ha
        exact absurd q (g.nn a (by rw [e]; simp))
  · rcases k.gn a h with q | q
    · exact g.gn a q
    · cases e : H a with
      | none => exact .inr rfl
      | some o =>
        by_cases hm : a ∈ ml
        · exact .inl (g.mg a hm)
        · exact absurd q (g.nn a (by rw [e]; simp))
theorem tabs_upd {T : List (Addr × Str)} {H : Hp} {a : Addr} {o : HO} (t : LamX.Tabs T H) (h : ∀ u, H a = some u → ∃ xs, u = .lst xs) : LamX.Tabs T (upd H a o) := fun p hp => by
  obtain ⟨ps, h1, h2, h3⟩ := t p hp
  have at_ : ∀ b u, H b = some u → (∀ xs, u ≠ .lst xs) → upd H a o b = some u := fun b u e n => by
    by_cases z : b = a
    · subst z
      obtain ⟨xs, e2⟩ := h u e
      exact absurd e2 (n xs)
    · rw [upd_ne z]; exact e
  refine ⟨ps, at_ _ _ h1 (fun xs z => by cases z), h2, fun pos cv hc => ?_⟩
  obtain ⟨c, e1, e2⟩ := h3 pos cv hc
  exact ⟨c, e1, at_ _ _ e2 (fun xs z => by unfold LamX.CodeO at z; cases z)⟩
theorem Grow.envs {c : C} {env : MEnv} {σ : L2.St} {ml ml' : List Addr} {G G' : Addr → Prop} {H H' : Hp} (g : Grow ml G H ml' G' H') (h : ∀ (i : Nat) (v : Val), env[i]? = some (some v) → ∃ x, σ[i]? = some (some x) ∧ RV c H ml G v x) :
    ∀ (i : Nat) (v : Val), env[i]? = some (some v) → ∃ x, σ[i]? = some (some x) ∧ RV c H' ml' G' v x := fun i v e => by
  obtain ⟨x, e2, r⟩ := h i v e
  exact ⟨x, e2, r.mono g⟩

/-- an exception of MP's beside the layer's: its class, its own dict -/
def ExR (c : C) (H : Hp) (ml : List Addr) (G : Addr → Prop) (e : Exc) (cls : Value) (d : Option Addr) : Prop :=
  cls = .ref (c.ca e.cls) ∧ match c.cf e.cls with
    | none => True
    | some nm => ∃ dx y, d = some dx ∧ H dx = some (.xd [(nm, y)]) ∧ RV c H ml G e.fld y
/-- m's outcome from here: it ends, and whatever state of the layer goes with it, Qa holds; what is raised is as W wishes -/
def Ok {α : Type} (c : C) (W : WX) (env : MEnv) (σ : L2.St) (r : Res α) (ml : List Addr) (G : Addr → Prop) (H : Hp) (Qa : α → MHeap → List Addr → (Addr → Prop) → Hp → Prop) : Prop :=
  match r with
  | .bad => False
  | .ok a h' => ∀ ml' G' H', Grow ml G H ml' G' H' → SR c env h' ml' G' σ H' → Qa a h' ml' G' H'
  | .exc e h' => ∀ ml' G' H' cls d, Grow ml G H ml' G' H' → SR c env h' ml' G' σ H' → ExR c H' ml' G' e cls d → W cls d σ H'
section
variable {α β : Type} {c : C} {W : WX} {env : MEnv} {σ : L2.St} {h : MHeap} {ml : List Addr} {G : Addr → Prop} {H : Hp}
theorem Ok.bind {m : M α} {k : α → M β} {Qa : β → MHeap → List Addr → (Addr → Prop) → Hp → Prop}
    (o : Ok c W env σ ((m >>= k) h) ml G H Qa) : Ok c W env σ (m h) ml G H fun a h1 ml1 G1 H1 => Ok c W env σ (k a h1) ml1 G1 H1 Qa := by
  rw [bind_app] at o
  unfold Ok at o ⊢
  cases e : m h with
  | bad => rw [e] at o; exact o
  | exc x h1 => rw [e] at o; exact o
  | ok a h1 =>
    rw [e] at o
    simp only at o ⊢
    intro ml1 G1 H1 g1 s1
    cases e2 : k a h1 with
    | bad => rw [e2] at o; exact o
    | exc x h2 =>
      rw [e2] at o
      intro ml2 G2 H2 cls d g2 s2 ex
      exact o ml2 G2 H2 cls d (g1.trans g2) s2 ex
    | ok b h2 =>
      rw [e2] at o
      intro ml2 G2 H2 g2 s2
      exact o ml2 G2 H2 (g1.trans g2) s2
theorem Ok.pure {a : α} {Qa : α → MHeap → List Addr → (Addr → Prop) → Hp → Prop}
    (o : Ok c W env σ ((Pure.pure a : M α) h) ml G H Qa) (s : SR c env h ml G σ H) : Qa a h ml G H := o ml G H s.refl s
theorem Ok.lift {r : Option α} {Qa : α → MHeap → List Addr → (Addr → Prop) → Hp → Prop}
    (o : Ok c W env σ (lift r h) ml G H Qa) (s : SR c env h ml G σ H) : ∃ a, r = some a ∧ Qa a h ml G H := by
  unfold MP.lift Ok at o
  cases e : r with
  | none => rw [e] at o; exact o.elim
  | some a => rw [e] at o; exact ⟨a, rfl, o ml G H s.refl s⟩
theorem Ok.liftH {f : MHeap → Option α} {Qa : α → MHeap → List Addr → (Addr → Prop) → Hp → Prop}
    (o : Ok c W env σ (liftH f h) ml G H Qa) (s : SR c env h ml G σ H) : ∃ a, f h = some a ∧ Qa a h ml G H := by
  unfold MP.liftH Ok at o
  cases e : f h with
  | none => rw [e] at o; exact o.elim
  | some a => rw [e] at o; exact ⟨a, rfl, o ml G H s.refl s⟩
theorem Ok.liftB {γ : Type} {r : Option α} {k : α → M γ} {Qa : γ → MHeap → List Addr → (Addr → Prop) → Hp → Prop}
    (o : Ok c W env σ ((do let a ← MP.lift r; k a) h) ml G H Qa) (s : SR c env h ml G σ H) : ∃ a, r = some a ∧ Ok c W env σ (k a h) ml G H Qa := (Ok.bind o).lift s
theorem Ok.liftHB {γ : Type} {f : MHeap → Option α} {k : α → M γ} {Qa : γ → MHeap → List Addr → (Addr → Prop) → Hp → Prop}
    (o : Ok c W env σ ((do let a ← MP.liftH f; k a) h) ml G H Qa) (s : SR c env h ml G σ H) : ∃ a, f h = some a ∧ Ok c W env σ (k a h) ml G H Qa := (Ok.bind o).liftH s
theorem Ok.liftG {r : Option α} {Qa : α → MHeap → List Addr → (Addr → Prop) → Hp → Prop}
    (o : Ok c W env σ (MP.lift r h) ml G H Qa) : ∃ a, r = some a ∧ ∀ ml' G' H', Grow ml G H ml' G' H' → SR c env h ml' G' σ H' → Qa a h ml' G' H' := by
  unfold MP.lift Ok at o
  cases e : r with
  | none => rw [e] at o; exact o.elim
  | some a => rw [e] at o; exact ⟨a, rfl, o⟩
theorem Ok.liftHG {f : MHeap → Option α} {Qa : α → MHeap → List Addr → (Addr → Prop) → Hp → Prop}
    (o : Ok c W env σ (MP.liftH f h) ml G H Qa) : ∃ a, f h = some a ∧ ∀ ml' G' H', Grow ml G H ml' G' H' → SR c env h ml' G' σ H' → Qa a h ml' G' H' := by
  unfold MP.liftH Ok at o
  cases e : f h with
  | none => rw [e] at o; exact o.elim
  | some a => rw [e] at o; exact ⟨a, rfl, o⟩
theorem Ok.fail {Qa : α → MHeap → List Addr → (Addr → Prop) → Hp → Prop}
    (o : Ok c W env σ ((fail : M α) h) ml G H Qa) : False := o
theorem Ok.imp {r : Res α} {Qa Qb : α → MHeap → List Addr → (Addr → Prop) → Hp → Prop}
    (o : Ok c W env σ r ml G H Qa) (k : ∀ a h' ml' G' H', Grow ml G H ml' G' H' → SR c env h' ml' G' σ H' → Qa a h' ml' G' H' → Qb a h' ml' G' H') : Ok c W env σ r ml G H Qb := by
  unfold Ok at o ⊢
  cases e : r with
  | bad => rw [e] at o; exact o
  | exc x h' => rw [e] at o; exact o
  | ok a h' =>
    rw [e] at o
    exact fun ml' G' H' g s => k _ _ _ _ _ g s (o ml' G' H' g s)
end

/-- an expression's reading by its meaning f -/
def tE (c : C) (W : WX) (f : MEnv → M Val) : TE := fun σ H Q => ∃ env h ml G, SR c env h ml G σ H ∧ Ok c W env σ (f env h) ml G H fun v _ ml' G' H' => ∀ x, RV c H' ml' G' v x → Q x H'
def tT (c : C) (W : WX) (f : MEnv → M Bool) : TT := fun σ H Q => ∃ env h ml G, SR c env h ml G σ H ∧ Ok c W env σ (f env h) ml G H fun b _ _ _ H' => Q b H'
def tA (c : C) (W : WX) (f : MEnv → M (List Val)) : TA := fun σ H Q => ∃ env h ml G, SR c env h ml G σ H ∧ Ok c W env σ (f env h) ml G H fun vs _ ml' G' H' => ∀ xs, RVs c H' ml' G' vs xs → Q xs H'
def tO (c : C) (W : WX) (f : MEnv → M (Option Int)) : TO := fun σ H Q => ∃ env h ml G, SR c env h ml G σ H ∧ Ok c W env σ (f env h) ml G H fun o _ _ _ H' => Q o H'
/-- a new list's outcome: it stands at a, reached by nothing else -/
def OkF (c : C) (W : WX) (env : MEnv) (σ : L2.St) (r : Res (List Val)) (ml : List Addr) (G : Addr → Prop) (H : Hp) (Q : VK) : Prop := match r with
  | .bad => False
  | .ok l h' => ∀ ml' G' H' a xs, Grow ml G H ml' G' H' → SR c env h' ml' G' σ H' → H a = none → G' a → a ∉ ml' → H' a = some (.lst xs) → RVs c H' ml' G' l xs → Q (.ref a) H'
  | .exc e h' => ∀ ml' G' H' cls d, Grow ml G H ml' G' H' → SR c env h' ml' G' σ H' → ExR c H' ml' G' e cls d → W cls d σ H'
def tF (c : C) (W : WX) (f : MEnv → M (List Val)) : TE := fun σ H Q => ∃ env h ml G, SR c env h ml G σ H ∧ OkF c W env σ (f env h) ml G H Q
theorem _root_.L2.PE.imp {X : Cx} {e : Expr} {t t' : TE} (h : PE X e t) (k : ∀ σ H Q, t' σ H Q → t σ H Q) : PE X e t' := ⟨fun pins s σ H Q I q => h.run pins s σ H Q I (k σ H Q q)⟩
theorem _root_.L2.PT.imp {X : Cx} {e : Expr} {t t' : TT} (h : PT X e t) (k : ∀ σ H Q, t' σ H Q → t σ H Q) : PT X e t' := ⟨fun pins s σ H Q I q => h.run pins s σ H Q I (k σ H Q q)⟩
theorem _root_.L2.PW.imp {X : Cx} {e : Expr} {t t' : TT} (h : PW X e t) (k : ∀ σ H Q, t' σ H Q → t σ H Q) : PW X e t' := ⟨fun wh pins s σ H Q I q => h.run wh pins s σ H Q I (k σ H Q q)⟩
theorem _root_.L2.PA.imp {X : Cx} {e : List Expr} {t t' : TA} (h : PA X e t) (k : ∀ σ H Q, t' σ H Q → t σ H Q) : PA X e t' := ⟨fun pos pins s σ H Q I q => h.run pos pins s σ H Q I (k σ H Q q)⟩
theorem _root_.L2.PS.imp {X : Cx} {e : Stmt} {t t' : TS} (h : PS X e t) (k : ∀ D σ H, t' D σ H → t D σ H) : PS X e t' := ⟨fun pins s σ H Q I q => h.run pins s σ H Q I (k Q σ H q)⟩
theorem _root_.L2.PSs.imp {X : Cx} {e : List Stmt} {t t' : TS} (h : PSs X e t) (k : ∀ D σ H, t' D σ H → t D σ H) : PSs X e t' := ⟨fun pins s σ H Q I q => h.run pins s σ H Q I (k Q σ H q)⟩
theorem _root_.L2.PO.imp {X : Cx} {e : Option Expr} {t t' : TO} (h : PO X e t) (k : ∀ σ H Q, t' σ H Q → t σ H Q) : PO X e t' := ⟨fun pins s σ H Q I q => h.run pins s σ H Q I (k σ H Q q)⟩
theorem _root_.L2.PI.imp {X : Cx} {tg e : Expr} {t t' : TI} (h : PI X tg e t) (k : ∀ σ H Q, t' σ H Q → t σ H Q) : PI X tg e t' := ⟨fun pins s σ H Q I q => h.run pins s σ H Q I (k σ H Q q)⟩
end MPS

namespace MPS
open PySem PySem.Spec L2 MP LamX NdefX PyProof.Rows
/-- a lambda's object -/
def LamO (f : Addr) (q : Str) (params : Arguments) (body : Expr) (scope : Scope) (cl : List (Str × Addr)) (c' : Addr) : HO :=
  .ext fun h => ∃ pm ctv : Value, h.get? f = some (PySem.W.kla_obj "<lambda>" q params body scope cl pm c' ctv)
theorem lamO_tbl {f c' : Addr} {q : Str} {params : Arguments} {body : Expr} {scope : Scope} {cl : List (Str × Addr)} (ps : Array Value) : LamO f q params body scope cl c' ≠ .tbl ps := fun z => by
  unfold LamO at z; cases z
theorem lamO_at {P : Program} {w : World} {H : Hp} {h : PySem.Heap} {f c' : Addr} {q : Str} {params : Arguments} {body : Expr} {scope : Scope} {cl : List (Str × Addr)} (k : HOk P w H h) (e : H f = some (LamO f q params body scope cl c')) :
    ∃ pm ctv : Value, h.get? f = some (PySem.W.kla_obj "<lambda>" q params body scope cl pm c' ctv) := (k f _ e).1
section
variable {X : Cx} {pins : List (Addr × Obj)} {σ : L2.St} {H : Hp} {s : Shared}
theorem inv_lamO {f c' : Addr} {q : Str} {params : Arguments} {body : Expr} {scope : Scope} {cl : List (Str × Addr)} {pm ctv : Value} {tk : Nat} (I : Inv X pins σ H s) (hf : f = s.heap.objs.size) :
    Inv X pins σ (upd H f (LamO f q params body scope cl c')) { s with heap := s.heap.push (PySem.W.kla_obj "<lambda>" q params body scope cl pm c' ctv), toks := tk } := by
  subst hf
  have e : (s.heap.push (PySem.W.kla_obj "<lambda>" q params body scope cl pm c' ctv)).get? s.heap.objs.size = some (PySem.W.kla_obj "<lambda>" q params body scope cl pm c' ctv) := Heap.get?_push_size _ rfl
  refine I.laid (fun b u z => Heap.get?_push_of_some _ z) (Nat.le_refl _) ⟨⟨pm, ctv, e⟩, ⟨_, e⟩, ?_⟩
  rintro h1 h2 ⟨p, t, z⟩ st
  exact ⟨p, t, st _ z⟩
/-- what the making of a lambda hands on -/
def LamNew (X : Cx) (pins : List (Addr × Obj)) (σ : L2.St) (T : List (Addr × Str)) (q : Str) (params : Arguments) (body : Expr) (scope : Scope) (H : Hp) (f c' : Addr) (H1 : Hp) (s1 : Shared) : Prop :=
  Inv X pins σ H1 s1 ∧ ExtN H H1 ∧ (∀ b, H b ≠ none → H1 b ≠ none) ∧ Tabs T H1 ∧ H f = none ∧ H1 f = some (LamO f q params body scope (cloFrom X.env.cells scope.names []) c') ∧ H1 c' = some (CodeO c' q)
theorem extN_upd {H H1 : Hp} {f : Addr} {o : HO} (e : ExtN H H1) (n : H1 f = none) : ExtN H (upd H1 f o) := fun b u z k => by
  have q := e b u z k
  rw [upd_ne (ne_of_none q n)]; exact q
theorem tabs_updN {T : List (Addr × Str)} {H1 : Hp} {f : Addr} {o : HO} (t : Tabs T H1) (n : H1 f = none) : Tabs T (upd H1 f o) := t.ext fun b u z => by rw [upd_ne (ne_of_none z n)]; exact z
theorem lam_new {T : List (Addr × Str)} {c P : Addr} {params : Arguments} {body : Expr} {scope : Scope} {pos : Pos} {E Q : Value → Shared → Prop} {q : Str} (eq : q = X.env.qual ++ "<lambda>")
    (I : Inv X pins σ H s) (TB : TabB X.base X.mg c P) (hc : X.env.code = .ref c) (hm : (P, q) ∈ T) (hu : ∀ p ∈ T, p.1 = P → p.2 = q) (hT : Tabs T H) (hd : defaultsOf params X.env = ([], []))
    (hf : ∀ y ∈ scope.names, y.2 = .free → ∃ a, X.env.cells.lookup y.1 = some a)
    (k : ∀ f c' H1 s1, LamNew X pins σ T q params body scope H f c' H1 s1 → Q (.ref f) s1) :
    wpAny (model X.prog X.w) X.A (eval (.Lambda params body scope pos) X.env) Q E s := by
  obtain ⟨tb, hP, t3, among⟩ := hT _ hm
  have oP : s.heap.get? P = some { cls := .none, data := .fields tb } := I.hok P _ hP
  have bP : s.heap.BuiltinsAt X.mg P := TB.bm.keeps I.bk
  refine PySem.W.kla_eval hd ?_
  rw [← eq]
  rcases z : codeAmong pos tb.toList with _ | cv
  · refine PySem.W.kla_makeFunction (closure_ok hf) I.ok.glob (I.mod.glob.keeps I.bk) hc (TB.code.keeps I.bk) oP t3 z TB.gP bP ?_
    rintro c' ctv h1 tk hx hge hlt ⟨c2, oc, vs, t, e2, hoc, hdt, hv⟩ htb
    cases e2
    have nC : H c' = none := I.hok.fresh hge
    have I1 := inv_table (q := q) (t' := tk) (more := #[rawInt pos.line, rawInt pos.col, .ref c']) I hP hx htb hge ⟨oc, vs, t, hoc, hdt, hv⟩
    generalize eH : upd (upd H P (.tbl (tb ++ #[rawInt pos.line, rawInt pos.col, .ref c']))) c' (CodeO c' q) = H1 at I1
    have atC : H1 c' = some (CodeO c' q) := by rw [← eH]; exact upd_same
    have cP : P ≠ c' := ne_of_none hP nC
    have atP : H1 P = some (.tbl (tb ++ #[rawInt pos.line, rawInt pos.col, .ref c'])) := by rw [← eH, upd_ne cP, upd_same]
    have els : ∀ b, b ≠ P → b ≠ c' → H1 b = H b := fun b n1 n2 => by rw [← eH, upd_ne n2, upd_ne n1]
    have ex : ExtN H H1 := fun b o e n => by
      rw [els b (fun w => n tb (by rw [w, hP] at e; exact (Option.some.inj e).symm)) (ne_of_none e nC)]; exact e
    have T1 : Tabs T H1 := fun p hp => by
      by_cases w : p.1 = P
      · rw [hu p hp w, w]
        have el : (tb ++ #[rawInt pos.line, rawInt pos.col, .ref c']).toList = tb.toList ++ [rawInt pos.line, rawInt pos.col, .ref c'] := by simp
        refine ⟨_, atP, by rw [el]; exact PySem.TriplesOk_snoc _ _ _ _ t3, fun p' cv hcv => ?_⟩
        rw [el] at hcv
        rcases among_app _ t3 hcv with w | w
        · obtain ⟨c0, r1, r2⟩ := among p' cv w
          exact ⟨c0, r1, ex _ _ r2 codeO_ne⟩
        · exact ⟨c', w, atC⟩
      · obtain ⟨u, r1, r2, r3⟩ := hT p hp
        refine ⟨u, by rw [els _ w (ne_of_none r1 nC)]; exact r1, r2, fun p' cv hcv => ?_⟩
        obtain ⟨c0, r4, r5⟩ := r3 p' cv hcv
        exact ⟨c0, r4, ex _ _ r5 codeO_ne⟩
    have n1 : H1 h1.objs.size = none := I1.hok.fresh (Nat.le_refl _)
    have sz : s.heap.objs.size ≤ h1.objs.size := Nat.le_trans hge (Nat.le_of_lt hlt)
    refine k _ c' _ _ ⟨inv_lamO I1 rfl, extN_upd ex n1, fun b nb w => ?_, tabs_updN T1 n1, I.hok.fresh sz, upd_same, by rw [upd_ne (Nat.ne_of_lt hlt)]; exact atC⟩
    by_cases b1 : b = h1.objs.size
    · rw [b1, upd_same] at w; cases w
    · rw [upd_ne b1] at w
      by_cases b2 : b = P
      · rw [b2, atP] at w; cases w
      · by_cases b3 : b = c'
        · rw [b3, atC] at w; cases w
        · rw [els b b2 b3] at w; exact nb w
  · obtain ⟨c', rfl, hco⟩ := among pos cv z
    refine PySem.W.kla_makeFunctionHit (closure_ok hf) I.ok.glob (I.mod.glob.keeps I.bk) hc (TB.code.keeps I.bk) oP t3 z bP ?_
    intro ctv h1 tk hx hsz
    have I1 : Inv X pins σ H { s with heap := h1, toks := tk } := I.kept hx
    have n1 : H h1.objs.size = none := I1.hok.fresh (Nat.le_refl _)
    refine k _ c' _ _ ⟨inv_lamO I1 rfl, extN_upd (ExtN.refl H) n1, fun b nb w => ?_, tabs_updN hT n1, n1, upd_same, by rw [upd_ne (ne_of_none hco n1)]; exact hco⟩
    by_cases b1 : b = h1.objs.size
    · rw [b1, upd_same] at w; cases w
    · rw [upd_ne b1] at w; exact nb w
end
/-- the reading of a lambda's making -/
def tLamO (X : Cx) (T : List (Addr × Str)) (q : Str) (params : Arguments) (body : Expr) (scope : Scope) : TE := fun σ H Q => Tabs T H ∧ ∀ f c' H1, ExtN H H1 → (∀ b, H b ≠ none → H1 b ≠ none) → Tabs T H1 → H f = none →
  H1 f = some (LamO f q params body scope (cloFrom X.env.cells scope.names []) c') → H1 c' = some (CodeO c' q) → Q (.ref f) H1
theorem pe_lam {X : Cx} {T : List (Addr × Str)} {c P : Addr} {params : Arguments} {body : Expr} {scope : Scope} {pos : Pos} {q : Str} (eq : q = X.env.qual ++ "<lambda>") (TB : TabB X.base X.mg c P) (hc : X.env.code = .ref c) (hm : (P, q) ∈ T) (hu : ∀ p ∈ T, p.1 = P → p.2 = q)
    (hd : defaultsOf params X.env = ([], [])) (hf : ∀ y ∈ scope.names, y.2 = .free → X.env.scope.names.lookup y.1 = some .cell ∨ X.env.scope.names.lookup y.1 = some .free) : PE X (.Lambda params body scope pos) (tLamO X T q params body scope) :=
  ⟨fun pins s σ H Q I h => lam_new eq I TB hc hm hu h.1 hd (fun y hy e => (hf y hy e).elim (fun z => I.ok.has _ (.inl z)) fun z => I.ok.has _ (.inr z)) fun f c' H1 s1 L => ⟨.ref f, H1, L.1, rfl, h.2 f c' H1 L.2.1 L.2.2.1 L.2.2.2.1 L.2.2.2.2.1 L.2.2.2.2.2.1 L.2.2.2.2.2.2⟩⟩
abbrev lamF (q : Str) (params : Arguments) (scope : Scope) (cl : List (Str × Addr)) (c' : Addr) : NF := ⟨"<lambda>", q, params, [], scope, cl, c'⟩
/-- a lambda is called -/
theorem lam_run {CX : CXT} {P : Program} {w : World} {K : PySem.W.Frag} {mg : Str → Option Value} {base : PySem.Heap} {N ps fr : List Str} {q : Str} {params : Arguments} {body : Expr} {scope : Scope} {cl : List (Str × Addr)} {f c' : Addr} {k : Nat} {A : Around} {outer : List PySem.Env} {s : Shared} {H : Hp}
    {us : List Value} {vs : List V} {ws : List (Option V)} {Q : VK} {E : XK} {t : TE} (S : NScope N ps fr scope)
    (hb : ∀ (pm ctv : Value) (us : List Value), us.length = ps.length → bindArgs (PySem.W.kla_fn "<lambda>" q params body scope cl pm (.ref c') ctv) ⟨us, []⟩ = pure (ps.zip us))
    (hr : Room (k + 1) A) (e0 : Env0 P w K mg base A outer s H) (hf : H f = some (LamO f q params body scope cl c')) (hc : H c' = some (CodeO c' q)) (C : CellsAt cl fr ws s.heap H) (r : Vals vs us) (hl : vs.length = ps.length)
    (ht : PE (ncx CX P w K mg base N (lamF q params scope cl c') f A outer s H E) body t) (h : t (startF N vs ws) H Q) :
    codeAny (model P w) A (.call (.ref f) ⟨us, []⟩) (CR CX outer P w H s Q E) s := by
  have lim : s.heap.NoLimit := e0.mod.nolimit.keeps fun b o e => (e0.bs b o e).1
  obtain ⟨pm, ctv, ho⟩ := lamO_at e0.hok hf
  refine PySem.W.kla_callFunE hr.depth ho rfl S.co S.gen rfl (codeO_at e0.hok hc) ?_
  rw [hb pm ctv us (by rw [← r.length]; exact hl)]
  refine wpAny_pure (wpAny_newFunctionEnv S.nocell (fun ⟨n, _⟩ hy => S.par n (List.of_mem_zip hy).1) (fun h1 hns hsb => ⟨lim.fresh _ hsb, ?_⟩) S.kind)
  have kp : ∀ b o, s.heap.get? b = some o → h1.get? b = some o := fun b o e => hsb.extBut b o (Nat.ne_of_lt (Heap.lt_size e)) (Heap.get?_push_of_some _ e)
  have J := inv_startN (CX := CX) (E := E) (F := lamF q params scope cl c') (f := f) (tk := s.toks + (ps.zip us).length) S hr.hd e0 hl r C hns kp
  refine PySem.W.kla_codeExpr (wpAny_mono (ht.run [] _ _ H Q J h) (fun v s' z => ?_) fun e s' z => z)
  obtain ⟨x, H', J', rv, z⟩ := z
  exact ⟨x, H', J'.os, J'.bare, J'.base, J'.hok, rv, z⟩

/-- tuples are all that came -/
def TupNew (H H' : Hp) : Prop := (∀ b o, H b = some o → H' b = some o) ∧ ∀ b, H b = none → H' b = none ∨ ∃ ys, H' b = some (.tup ys)
theorem TupNew.refl (H : Hp) : TupNew H H := ⟨fun _ _ h => h, fun _ h => .inl h⟩
theorem TupNew.upd {H H' : Hp} {p : Addr} {ys : List V} (t : TupNew H H') (n : H' p = none) : TupNew H (L2.upd H' p (.tup ys)) := by
  refine ⟨fun b o e => ?_, fun b e => ?_⟩
  · have q := t.1 b o e
    rw [upd_ne (ne_of_none q n)]; exact q
  · by_cases z : b = p
    · rw [z, upd_same]; exact .inr ⟨ys, rfl⟩
    · rw [upd_ne z]; exact t.2 b e
theorem inv_moved {X : Cx} {pins : List (Addr × Obj)} {σ : L2.St} {H : Hp} {s s' : Shared} {ch : List Addr} (I : Inv X pins σ H s) (m : Moved ch (fun a b => b = a) s s') (hf : ∀ b ∈ ch, FpOk X pins H b) : Inv X pins σ H s' := by
  obtain ⟨hp, g, d, tk, os⟩ := s'
  have h1 : g = s.gens := m.gens
  have h2 : d = s.drawn := m.drawn
  have h3 : os = s.os := m.os
  subst h1 h2 h3
  exact I.turnedL (t' := tk) (ch := ch) m.heap hf
/-- a key that stands: a tuple of ints -/
def KeyV (ks : Nat → List Int) (bad : Addr → Prop) (i : Nat) (k : Value) (s : Shared) : Prop := ∃ (t : Addr) (o : Obj) (its : Array Value) (n : Nat), k = .ref t ∧ s.heap.get? t = some o ∧ o.cls = .type "tuple" ∧ o.data = .seq its n ∧ IntsAre its.toList (ks i) ∧ ¬ bad t
theorem KeyV.keep {ks : Nat → List Int} {bad : Addr → Prop} {i : Nat} {k : Value} {s s' : Shared} (v : KeyV ks bad i k s) (h : ∀ b o, ¬ bad b → s.heap.get? b = some o → s'.heap.get? b = some o) : KeyV ks bad i k s' := by
  obtain ⟨t, o, its, n, e, e1, e2⟩ := v
  exact ⟨t, o, its, n, e, h t o e2.2.2.2 e1, e2⟩
section
variable {X : Cx} {pins : List (Addr × Obj)} {σ : L2.St} {H : Hp} {s : Shared} {a f : Addr} {xs : List V} {ks : Nat → List Int} {Q : VK}
/-- the key's call hands back a new tuple of ints -/
def KeyCall (X : Cx) (pins : List (Addr × Obj)) (σ : L2.St) (HL : Hp) (f : Addr) (xs : List V) (ks : Nat → List Int) : Prop :=
  ∀ (i : Nat) (x : V) (u : Value) (s' : Shared) (H' : Hp) (Q : VK), xs[i]? = some x → RelV x u → Inv X pins σ H' s' → TupNew HL H' → (∀ p, H' p = none → Q (.ref p) (upd H' p (.tup ((ks i).map V.int)))) →
    codeAny (model X.prog X.w) X.A.in1 (.call (.ref f) ⟨[u], []⟩) (CR CX0 X.stack X.prog X.w H' s' Q fun _ _ _ => False) s'
theorem min_key (I : Inv X pins σ H s) (calm : X.calm = true) (hu : X.A.units + 1 < cLine) (ha : H a = some (.lst xs))
    (hcall : ∀ od, KeyCall X pins σ (upd H a (.frz od (.lst xs))) f xs ks)
    (q0 : xs = [] → ∀ H', TupNew H H' → Q .non H') (q1 : ∀ x H', xs ≠ [] → xs[argBest (fun i j => HT.lexLt (ks i) (ks j)) (xs.length - 1)]? = some x → TupNew H H' → Q x H') :
    wpAny (model X.prog X.w) X.A (call (.builtin "min") [.ref a] [(Str.ofString "key", .ref f), (Str.ofString "default", .none)]) (EP X pins σ Q) X.xe s := by
  obtain ⟨od, I1⟩ := I.lock ha (by exact True.intro)
  have nofrz := I.nofrz ha (by exact True.intro)
  have hcall := hcall od
  generalize eL : upd H a (.frz od (.lst xs)) = HL at I1 hcall
  have hLa : HL a = some (.frz od (.lst xs)) := by rw [← eL, upd_same]
  obtain ⟨oa, hz, its, n, rv, hob⟩ := I1.hok a _ hLa
  have hl : s.heap.IsList a its.toArray := ⟨_, oa, by rw [hob] at oa; cases oa; rfl, n, by rw [hob] at oa; cases oa; rfl⟩
  have hod : ∀ {h : PySem.Heap}, h.get? a = some od → h.IsList a its.toArray := fun {h} e => by
    obtain ⟨o, e1, r⟩ := hl
    rw [oa] at e1; cases e1
    exact ⟨od, e, r⟩
  have fin : ∀ {H' : Hp} {s' : Shared} {x : V} {u : Value}, Inv X pins σ H' s' → TupNew HL H' → RelV x u → (∀ H'', TupNew H H'' → Q x H'') → EP X pins σ Q u s' := fun {H' s' x u} I' t r q => by
    have e : H' a = some (.frz od (.lst xs)) := t.1 a _ hLa
    refine ⟨x, _, I'.unlock e nofrz, r, q _ ⟨fun b o eb => ?_, fun b eb => ?_⟩⟩
    · by_cases z : b = a
      · rw [z, upd_same]; rw [z, ha] at eb; exact eb
      · rw [upd_ne z]; exact t.1 b o (by rw [← eL, upd_ne z]; exact eb)
    · have z : b ≠ a := fun z => by rw [z, ha] at eb; cases eb
      rw [upd_ne z]; exact t.2 b (by rw [← eL, upd_ne z]; exact eb)
  have len : its.toArray.size = xs.length := by rw [List.size_toArray]; exact rv.length.symm
  refine call_min_walkKD (PySem.W.iter_listW (A := X.A.in1) (I1.ok.hd calm) hl fun s2 e W st hfp hw hk => ?_)
  have I2 : Inv X pins σ HL s2 := by subst e; exact I1.kept (t' := s.toks) fun b o z => Heap.get?_push_of_some _ z
  have fI : FpOk X pins HL s.heap.objs.size := I1.fpOk (Nat.le_refl _) (I1.hok.fresh (Nat.le_refl _))
  have fS : FpOk X pins HL s2.heap.objs.size := I2.fpOk (Nat.le_refl _) (I2.hok.fresh (Nat.le_refl _))
  generalize eS : s2.heap.objs.size = S at fS
  generalize eI : s.heap.objs.size = It at fI W st hfp hw hk
  have stat : ∀ {H' : Hp}, H' S = none → H' It = none → ∀ b ∈ [S, It], FpOk X pins H' b := fun {H'} n1 n2 b hb => by
    rcases List.mem_cons.mp hb with rfl | hb
    · exact ⟨n1, fS.2⟩
    · rw [List.mem_singleton.mp hb]; exact ⟨n2, fI.2⟩
  have nofr : ∀ b, b ∈ [S, It] → b ∉ frs X.stack := fun b hb z => by
    have q : FpOk X pins HL b := by
      rcases List.mem_cons.mp hb with rfl | hb
      · exact fS
      · rw [List.mem_singleton.mp hb]; exact fI
    rcases List.mem_cons.mp (I2.stkSub _ z) with w | w
    · exact q.2.1 w
    · exact q.2.2.1 w
  let J : Shared → Prop := fun s' => ∃ H', Inv X pins σ H' s' ∧ TupNew HL H' ∧ H' S = none ∧ H' It = none
  let bad : Addr → Prop := fun t => t ∈ [S, It] ∨ t ∈ frs X.stack ∨ HL t ≠ none
  have KR : KeyRun X.prog X.w X.A.in1 (.ref f) .Lt S [It] (fun a b => b = a) its.toArray.size (fun i v => its.toArray[i]? = some v) (fun i s' => s'.heap.IsListIter It a i ∧ s'.heap.IsList a its.toArray) J (KeyV ks bad) (fun i j => HT.lexLt (ks i) (ks j)) := by
    refine ⟨fun s1 s' ⟨H', i', t, n1, n2⟩ m => ⟨H', inv_moved i' m (stat n1 n2), t, n1, n2⟩, fun i k s1 s' v m => v.keep fun b o nb z => m.heap b o (fun w => nb (.inl w)) z, fun i v s1 o Q' E' hi hv ⟨H', i', t, n1, n2⟩ ⟨st1, st2⟩ hS k => ?_, fun i j ki kj s1 Q' E' _ v1 v2 q => ?_⟩
    · obtain ⟨x, hx⟩ : ∃ x, xs[i]? = some x := ⟨xs[i]'(by omega), List.getElem?_eq_getElem (by omega)⟩
      obtain ⟨u, hu2, rx⟩ := rv.get hx
      have evu : u = v := by
        have : its[i]? = some v := by simpa using hv
        rw [hu2] at this; exact Option.some.inj this
      subst evu
      have rc := hcall i x u s1 H' (fun y H2 => ∃ p, y = .ref p ∧ H' p = none ∧ H2 = upd H' p (.tup ((ks i).map V.int))) hx rx i' t fun p hp => ⟨p, rfl, hp, rfl⟩
      refine wpAny_call (codeAny_mono rc fun r s' hq => ?_)
      cases r with
      | error e => exact (show False from hq).elim
      | ok fl =>
        cases fl with
        | next => exact False.elim hq
        | brk => exact False.elim hq
        | cont => exact False.elim hq
        | ret w =>
          obtain ⟨y, H2, os, bare, un, hok, ry, p, rfl, hp, rfl⟩ := hq
          have I3 : Inv X pins σ (upd H' p (.tup ((ks i).map V.int))) s' := by
            obtain ⟨y, H3, i3, _, e2⟩ := i'.after (Q := fun y H2 => H2 = upd H' p (.tup ((ks i).map V.int))) ⟨_, _, os, bare, un, hok, ry, rfl⟩
            rw [← e2]; exact i3
          have kp : ∀ b o, s1.heap.get? b = some o → H' b = none → b ∉ frs X.stack → s'.heap.get? b = some o := fun b o e n nf => un.keep b o e n nf (by simp)
          have pn : ∀ o, s1.heap.get? p ≠ some o := fun o e => by
            have q := un.free p o e hp (by simp)
            rw [upd_same] at q; cases q
          have pS : p ≠ S := fun z => pn o (by rw [z]; exact hS)
          have pI : p ≠ It := fun z => by
            obtain ⟨o, e, _⟩ := st1
            exact pn o (by rw [z]; exact e)
          have pa : p ≠ a := fun z => by rw [z, t.1 a _ hLa] at hp; cases hp
          have pf : p ∉ frs X.stack := fun z => by
            obtain ⟨_, o, e, _⟩ := i'.env0.funs.mem z
            exact pn o e
          have eA : s'.heap.get? a = some od := by
            obtain ⟨z, _⟩ := hok a (.frz od (.lst xs)) (by rw [upd_ne (Ne.symm pa)]; exact t.1 a _ hLa)
            exact z
          obtain ⟨z1, its2, r2, o2, ho2, hc2, n3, hd2⟩ := hok p _ upd_same
          obtain rfl : w = .ref p := ry
          refine k _ s' ⟨_, I3, t.upd hp, by rw [upd_ne (Ne.symm pS)]; exact n1, by rw [upd_ne (Ne.symm pI)]; exact n2⟩ ⟨?_, hod eA⟩ (kp S o hS n1 (nofr S (by simp))) ⟨p, o2, its2.toArray, n3, rfl, ho2, hc2, hd2, by simpa using intsAre_of r2, ?_⟩ fun j k' v => ?_
          · obtain ⟨o, e, r⟩ := st1
            exact ⟨o, kp It o e n2 (nofr It (by simp)), r⟩
          · rintro (w | w | w)
            · rcases List.mem_cons.mp w with w | w
              · exact pS w
              · exact pI (List.mem_singleton.mp w)
            · exact pf w
            · cases q : HL p with
              | none => exact w q
              | some o => have := t.1 p o q; rw [hp] at this; cases this
          · obtain ⟨tt, o3, its3, n4, rfl, e1, e2, e3, e4, e5⟩ := v
            have hLn : HL tt = none := Classical.byContradiction fun z => e5 (.inr (.inr z))
            have nf : tt ∉ frs X.stack := fun z => e5 (.inr (.inl z))
            rcases t.2 tt hLn with z | ⟨ys, z⟩
            · exact ⟨tt, o3, its3, n4, rfl, kp tt o3 e1 z nf, e2, e3, e4, e5⟩
            · obtain ⟨_, i5, r5, o5, ho5, hc5, n5, hd5⟩ := i'.hok tt _ z
              rw [e1] at ho5; cases ho5
              rw [e3] at hd5
              injection hd5 with hd5 _
              have ei : its3.toList = i5 := by rw [hd5]
              rw [ei] at e4
              have ey : ys = (ks j).map V.int := r5.inj (vals_of_ints e4)
              have tp : p ≠ tt := fun w => by rw [w, z] at hp; cases hp
              obtain ⟨_, i6, r6, o6, ho6, hc6, n6, hd6⟩ := hok tt (.tup ys) (by rw [upd_ne (Ne.symm tp)]; exact z)
              rw [ey] at r6
              exact ⟨tt, o6, i6.toArray, n6, rfl, ho6, hc6, hd6, by simpa using intsAre_of r6, e5⟩
    · obtain ⟨t1, o1, i1, m1, rfl, a1, a2, a3, a4, _⟩ := v1
      obtain ⟨t2, o2, i2, m2, rfl, b1, b2, b3, b4, _⟩ := v2
      exact HT.lt_tupInts ⟨o1, a1, a2, m1, a3⟩ ⟨o2, b1, b2, m2, b3⟩ a4 b4 (by show X.A.units + 1 < cLine; exact hu) q
  refine ⟨It, [It, a], [It], fun a b => b = a, its.toArray.size, _, _, J, KeyV ks bad, fun i j => HT.lexLt (ks i) (ks j), rfl, W, st, by first | exact hfp | (rw [← eS]; exact hfp), by first | exact KR | (rw [eS]; exact KR), ⟨HL, I2, TupNew.refl _, fS.1, fI.1⟩, fun h0 s' ⟨H', i', t, _⟩ => ?_, fun h0 v s' hv ⟨H', i', t, _⟩ => ?_⟩
  · exact fin i' t (x := .non) rfl (q0 (List.eq_nil_of_length_eq_zero (by omega)))
  · have hi : its[argBest (fun i j => HT.lexLt (ks i) (ks j)) (xs.length - 1)]? = some v := by rw [len] at hv; simpa using hv
    have hlt : argBest (fun i j => HT.lexLt (ks i) (ks j)) (xs.length - 1) < xs.length := by
      have := (List.getElem?_eq_some_iff.mp hi).1
      have e := rv.length
      omega
    obtain ⟨u, hu2, rx⟩ := rv.get (List.getElem?_eq_getElem hlt)
    rw [hi] at hu2
    cases hu2
    exact fin i' t rx fun H'' t'' => q1 _ H'' (fun z => by rw [z] at hlt; simp at hlt) (List.getElem?_eq_getElem hlt) t''
end
end MPS

namespace MPS
open PySem PySem.Spec L2 MP

structure Good (c : C) (X : Cx) : Prop where
  K : X.K = c.K
  calm : X.calm = true
  un : X.A.units + 100 < cLine
  nd : X.N.Nodup

section
variable {c : C} {env : MEnv} {h : MHeap} {ml : List Addr} {G : Addr → Prop} {σ : L2.St} {H : Hp}

theorem SR.fresh (s : SR c env h ml G σ H) {p : Addr} (o : HO) (hp : H p = none) : Grow ml G H ml G (upd H p o) := by
  have ne : ∀ a, H a ≠ none → a ≠ p := fun a ha z => ha (by rw [z]; exact hp)
  refine ⟨⟨[], by simp, fun _ z => by cases z⟩, fun _ h => h, fun _ h => .inl h, fun a o' e _ _ => ?_, fun a ha => ?_, s.mg, s.ls, fun a ha => ?_⟩
  · rw [upd_ne (ne a (by rw [e]; simp))]; exact e
  · rw [upd_ne (ne a ha)]; exact ha
  · have := s.tr a (s.mg a ha)
    rw [upd_ne (ne a this)]; exact this
/-- a state is carried over a growth in which the local lists stand -/
theorem SR.over {G' : Addr → Prop} {H' : Hp} (s : SR c env h ml G σ H) (g : Grow ml G H ml G' H') (same : ∀ a ∈ ml, H' a = H a) (tr : ∀ a, G' a → H' a ≠ none) (tb : LamX.Tabs c.tt H') : SR c env h ml G' σ H' := by
  refine ⟨s.len, s.nd, fun a ha => g.gm a (s.mg a ha), tr, fun n o a e1 e2 => ?_, g.envs s.ev, s.el, tb⟩
  have q := s.obj n o a e1 e2
  cases o with
  | list l =>
    obtain ⟨xs, e, r⟩ := q
    exact ⟨xs, by rw [same a (List.mem_of_getElem? e2)]; exact e, r.mono g⟩
  | dict _ _ => exact q.elim
theorem SR.laid (s : SR c env h ml G σ H) {p : Addr} (o : HO) (hp : H p = none) : SR c env h ml G σ (upd H p o) := by
  have ne : ∀ a, H a ≠ none → a ≠ p := fun a ha z => ha (by rw [z]; exact hp)
  refine s.over (G' := G) (s.fresh o hp) (fun a ha => upd_ne (ne a (s.tr a (s.mg a ha)))) (fun a ha => ?_) (tabs_upd s.tb fun u z => by rw [hp] at z; cases z)
  have q := s.tr a ha
  rw [upd_ne (ne a q)]; exact q
theorem SR.at {n : Nat} {l : List Val} {a : Addr} (s : SR c env h ml G σ H) (e : h[n]? = some (.list l)) (em : ml[n]? = some a) : ∃ xs, H a = some (.lst xs) ∧ RVs c H ml G l xs := s.obj n _ a e em
/-- a local list gets other items -/
theorem SR.chg {n : Nat} {l l' : List Val} {a : Addr} {ys : List V} (s : SR c env h ml G σ H) (e : h[n]? = some (.list l)) (em : ml[n]? = some a) (r : RVs c H ml G l' ys) :
    Grow ml G H ml G (upd H a (.lst ys)) ∧ SR c env (h.set n (.list l')) ml G σ (upd H a (.lst ys)) := by
  have ha : a ∈ ml := List.mem_of_getElem? em
  obtain ⟨xs, eH, _⟩ := s.at e em
  have g : Grow ml G H ml G (upd H a (.lst ys)) := by
    refine ⟨⟨[], by simp, fun _ z => by cases z⟩, fun _ h => h, fun _ h => .inl h, fun b o' e' hb _ => ?_, fun b hb => ?_, s.mg, s.ls, fun b hb => ?_⟩
    · rw [upd_ne (fun z => hb (by rw [z]; exact ha))]; exact e'
    · by_cases hba : b = a
      · rw [hba, upd_same]; simp
      · rw [upd_ne hba]; exact hb
    · by_cases hba : b = a
      · rw [hba, upd_same]; simp
      · rw [upd_ne hba]; exact s.tr b (s.mg b hb)
  refine ⟨g, ⟨by rw [List.length_set]; exact s.len, s.nd, s.mg, fun b hb => ?_, fun m o b e1 e2 => ?_, g.envs s.ev, s.el, tabs_upd s.tb fun u z => ⟨xs, Option.some.inj (z.symm.trans eH)⟩⟩⟩
  · by_cases hba : b = a
    · rw [hba, upd_same]; simp
    · rw [upd_ne hba]; exact s.tr b hb
  · by_cases hm : m = n
    · subst hm
      rw [em] at e2; cases e2
      rw [List.getElem?_set_self (List.getElem?_eq_some_iff.mp e).1] at e1
      cases e1
      exact ⟨ys, upd_same, r.mono g⟩
    · rw [List.getElem?_set_ne (Ne.symm hm)] at e1
      have hba : b ≠ a := fun z => by
        subst z
        have h1 := List.getElem?_eq_some_iff.mp e2
        have h2 := List.getElem?_eq_some_iff.mp em
        exact hm ((List.getElem_inj s.nd).mp (h1.2.trans h2.2.symm))
      have q := s.obj m o b e1 e2
      cases o with
      | list l2 =>
        obtain ⟨zs, e3, r3⟩ := q
        exact ⟨zs, by rw [upd_ne hba]; exact e3, r3.mono g⟩
      | dict _ _ => exact q.elim
/-- a list just made becomes a local one -/
theorem Grow.mkl {ml' : List Addr} {G' : Addr → Prop} {H' : Hp} {a : Addr} {xs : List V} (g : Grow ml G H ml' G' H') (hn : H a = none) (hg : G' a) (hm : a ∉ ml') (e : H' a = some (.lst xs)) : Grow ml G H (ml' ++ [a]) G' H' := by
  obtain ⟨new, e1, f1⟩ := g.pre
  refine ⟨⟨new ++ [a], by rw [e1, List.append_assoc], fun b hb => ?_⟩, g.gm, g.gn, g.fr, g.nn, g.mg, g.ls, g.ln⟩
  rcases List.mem_append.mp hb with hb | hb
  · exact f1 b hb
  · rw [List.mem_singleton.mp hb]; exact hn
theorem SR.mkl {a : Addr} {l : List Val} {xs : List V} (s : SR c env h ml G σ H) (hg : G a) (hm : a ∉ ml) (e : H a = some (.lst xs)) (r : RVs c H ml G l xs) : SR c env (h ++ [.list l]) (ml ++ [a]) G σ H := by
  have g : Grow ml G H (ml ++ [a]) G H → True := fun _ => True.intro
  have up : ∀ d x, RV c H ml G d x → RV c H (ml ++ [a]) G d x := fun d x => RV.longer d x
  refine ⟨by rw [List.length_append, List.length_append, s.len]; rfl, ?_, fun b hb => ?_, s.tr, fun n o b e1 e2 => ?_, fun i v e1 => ?_, s.el, s.tb⟩
  · rw [List.nodup_append]
    exact ⟨s.nd, by simp, fun b hb d hd z => by rw [List.mem_singleton.mp hd] at z; exact hm (z ▸ hb)⟩
  · rcases List.mem_append.mp hb with hb | hb
    · exact s.mg b hb
    · rw [List.mem_singleton.mp hb]; exact hg
  · by_cases hn : n < h.length
    · rw [List.getElem?_append_left hn] at e1
      rw [List.getElem?_append_left (by rw [s.len]; exact hn)] at e2
      have q := s.obj n o b e1 e2
      cases o with
      | list l2 =>
        obtain ⟨zs, e3, r3⟩ := q
        exact ⟨zs, e3, RVs.longer _ _ r3⟩
      | dict _ _ => exact q.elim
    · have hn' : h.length ≤ n := Nat.le_of_not_lt hn
      rw [List.getElem?_append_right hn'] at e1
      rw [List.getElem?_append_right (by rw [s.len]; exact hn')] at e2
      rw [s.len] at e2
      cases hk : n - h.length with
      | zero =>
        rw [hk] at e1 e2
        cases e1
        cases e2
        exact ⟨xs, e, RVs.longer _ _ r⟩
      | succ k =>
        rw [hk] at e1
        simp at e1
  · obtain ⟨x, e2, r2⟩ := s.ev i v e1
    exact ⟨x, e2, up v x r2⟩
end

section
variable {c : C} {W : WX} {X : Cx} {a b e : Expr} {fa fb : MEnv → M Val} {pos : Pos}
/-- one part, then the rest -/
theorem tE.one {α : Type} {k : Val → M α} {env : MEnv} {h : MHeap} {ml : List Addr} {G : Addr → Prop} {σ : L2.St} {H : Hp} {Qa : α → MHeap → List Addr → (Addr → Prop) → Hp → Prop} (s : SR c env h ml G σ H)
    (o : Ok c W env σ ((do let x ← fa env; k x) h) ml G H Qa) :
    tE c W fa σ H fun x H1 => ∃ v h1 ml1 G1, SR c env h1 ml1 G1 σ H1 ∧ RV c H1 ml1 G1 v x ∧ Ok c W env σ (k v h1) ml1 G1 H1 Qa := by
  refine ⟨env, h, ml, G, s, (Ok.bind o).imp fun v h1 ml1 G1 H1 g1 s1 o1 x r => ⟨v, h1, ml1, G1, s1, r, o1⟩⟩
theorem tE.two {α : Type} {k : Val → Val → M α} {env : MEnv} {h : MHeap} {ml : List Addr} {G : Addr → Prop} {σ : L2.St} {H : Hp} {Qa : α → MHeap → List Addr → (Addr → Prop) → Hp → Prop} (s : SR c env h ml G σ H)
    (o : Ok c W env σ ((do let x ← fa env; let y ← fb env; k x y) h) ml G H Qa) :
    tE c W fa σ H fun x H1 => tE c W fb σ H1 fun y H2 => ∃ v w h2 ml2 G2, SR c env h2 ml2 G2 σ H2 ∧ RV c H2 ml2 G2 v x ∧ RV c H2 ml2 G2 w y ∧ Ok c W env σ (k v w h2) ml2 G2 H2 Qa := by
  refine ⟨env, h, ml, G, s, (Ok.bind o).imp fun v h1 ml1 G1 H1 g1 s1 o1 x r => ⟨env, h1, ml1, G1, s1, (Ok.bind o1).imp fun w h2 ml2 G2 H2 g2 s2 o2 y r2 => ⟨v, w, h2, ml2, G2, s2, r.mono g2, r2, o2⟩⟩⟩
theorem tE.three {fc : MEnv → M Val} {α : Type} {k : Val → Val → Val → M α} {env : MEnv} {h : MHeap} {ml : List Addr} {G : Addr → Prop} {σ : L2.St} {H : Hp} {Qa : α → MHeap → List Addr → (Addr → Prop) → Hp → Prop} (s : SR c env h ml G σ H)
    (o : Ok c W env σ ((do let x ← fa env; let y ← fb env; let z ← fc env; k x y z) h) ml G H Qa) :
    tE c W fa σ H fun x H1 => tE c W fb σ H1 fun y H2 => tE c W fc σ H2 fun z H3 => ∃ v w u h3 ml3 G3, SR c env h3 ml3 G3 σ H3 ∧ RV c H3 ml3 G3 v x ∧ RV c H3 ml3 G3 w y ∧ RV c H3 ml3 G3 u z ∧ Ok c W env σ (k v w u h3) ml3 G3 H3 Qa := by
  refine ⟨env, h, ml, G, s, (Ok.bind o).imp fun v h1 ml1 G1 H1 g1 s1 o1 x r => ⟨env, h1, ml1, G1, s1, (Ok.bind o1).imp fun w h2 ml2 G2 H2 g2 s2 o2 y r2 => ⟨env, h2, ml2, G2, s2, (Ok.bind o2).imp fun u h3 ml3 G3 H3 g3 s3 o3 z r3 =>
    ⟨v, w, u, h3, ml3, G3, s3, (r.mono g2).mono g3, r2.mono g3, r3, o3⟩⟩⟩⟩

theorem tE.imp {f : MEnv → M Val} {σ : L2.St} {H : Hp} {Q Q' : VK} (q : tE c W f σ H Q) (k : ∀ x H, Q x H → Q' x H) : tE c W f σ H Q' := by
  obtain ⟨env, h, ml, G, s, o⟩ := q
  exact ⟨env, h, ml, G, s, o.imp fun _ _ _ _ _ _ _ z x r => k _ _ (z x r)⟩
theorem tE.ofPure {v : Val} {σ : L2.St} {H : Hp} {Q : VK} (q : tE c W (fun _ => pure v) σ H Q) {x : V} (r : ∀ ml G, RV c H ml G v x) : Q x H := by
  obtain ⟨env, h, ml, G, s, o⟩ := q
  exact o.pure s x (r _ _)
theorem sE_non {j pos} : PE X (.Constant .none j pos) (tE c W fun _ => pure .non) := pe_non.imp fun _ _ _ q => q.ofPure fun _ _ => .non
theorem sE_bl {z j pos} : PE X (.Constant (.bool z) j pos) (tE c W fun _ => pure (.bl z)) := pe_bl.imp fun _ _ _ q => q.ofPure fun _ _ => .bl
theorem sE_int {z j pos} : PE X (.Constant (.int z) j pos) (tE c W fun _ => pure (.int z)) := pe_int.imp fun _ _ _ q => q.ofPure fun _ _ => .int
theorem sE_str {z j pos} : PE X (.Constant (.str z) j pos) (tE c W fun _ => pure (.str z)) := pe_str.imp fun _ _ _ q => q.ofPure fun _ _ => .str
theorem sE_var {i : Nat} {x : Str} (hN : X.N[i]? = some x) (hv : Vis X.env.scope x) (hd : (x == ("__debug__" : Str)) = false) (hc : (x == ("__classdict__" : Str)) = false) : PE X (.Name x pos) (tE c W fun env => lift (env[i]?.bind id)) := by
  refine (pe_var hN hv hd hc).imp fun σ H Q q => ?_
  obtain ⟨env, h, ml, G, s, o⟩ := q
  obtain ⟨v, e, q⟩ := o.lift s
  have e2 : env[i]? = some (some v) := by
    cases k : env[i]? with
    | none => rw [k] at e; cases e
    | some z => rw [k] at e; exact congrArg some e
  obtain ⟨x, e3, r⟩ := s.ev i v e2
  exact ⟨x, e3, q x r⟩
/-- a module's constant -/
theorem sE_glob {x : Str} {v : Val} {y : V} {u : Value} (hg : Gl X x) (hm : X.mg x = some u) (r : RelV y u) (rv : ∀ H ml G, RV c H ml G v y) (hd : (x == ("__debug__" : Str)) = false) : PE X (.Name x pos) (tE c W fun _ => pure v) :=
  (pe_glob hg hm r hd).imp fun _ H _ q => q.ofPure fun _ _ => rv H _ _

theorem op_catS : OpR X (binaryOp .Add) (fun x y H Q => ∃ l b xs zs, x = .ref l ∧ y = .ref b ∧ H l = some (.lst xs) ∧ H b = some (.lst zs) ∧ xs.length + zs.length ≤ sizeLine ∧ ∀ p, H p = none → Q (.ref p) (upd H p (.lst (xs ++ zs)))) := op_cat
def opB : BK → Operator
  | .add => .Add | .sub => .Sub | .mul => .Mult | .fdiv => .FloorDiv | .mod => .Mod | .pow => .Pow | .shl => .LShift | .shr => .RShift | .band => .BitAnd | .bor => .BitOr | .bxor => .BitXor
/-- ints under an operator -/
def rBI (k : BK) : R2 := fun x y H Q => ∃ i j z, x = .int i ∧ y = .int j ∧ binI k i j = some z ∧ Q (.int z) H
theorem small_iff {i : Int} (h : small i = true) : -(2 ^ 64) < i ∧ i < 2 ^ 64 := by simpa [small] using h
theorem bitAnd_nat (i j : Int) (h1 : 0 ≤ i) (h2 : 0 ≤ j) : Builtin.bitAnd i j = ((i.toNat &&& j.toNat : Nat) : Int) := by
  obtain ⟨a, rfl⟩ := Int.eq_ofNat_of_zero_le h1
  obtain ⟨b, rfl⟩ := Int.eq_ofNat_of_zero_le h2
  rfl
theorem bitOr_nat (i j : Int) (h1 : 0 ≤ i) (h2 : 0 ≤ j) : Builtin.bitOr i j = ((i.toNat ||| j.toNat : Nat) : Int) := bitOr_nn h1 h2
theorem or_xor_and : ∀ a b : Nat, a ||| b = (a ^^^ b) + (a &&& b) := by
  intro a
  induction a using Nat.strongRecOn with
  | ind a ih =>
    intro b
    by_cases h : a = 0
    · subst h; simp
    · have q := ih (a / 2) (by omega) (b / 2)
      have e1 : (a ||| b) / 2 = a / 2 ||| b / 2 := Nat.or_div_two
      have e2 : (a ^^^ b) / 2 = a / 2 ^^^ b / 2 := Nat.xor_div_two
      have e3 : (a &&& b) / 2 = a / 2 &&& b / 2 := Nat.and_div_two
      have m1 : (a ||| b) % 2 = (a % 2) ||| (b % 2) := by simpa using Nat.or_mod_two_pow (a := a) (b := b) (n := 1)
      have m2 : (a ^^^ b) % 2 = (a % 2) ^^^ (b % 2) := by simpa using Nat.xor_mod_two_pow (a := a) (b := b) (n := 1)
      have m3 : (a &&& b) % 2 = (a % 2) &&& (b % 2) := by simpa using Nat.and_mod_two_pow (a := a) (b := b) (n := 1)
      have m : (a % 2 ||| b % 2) = (a % 2 ^^^ b % 2) + (a % 2 &&& b % 2) := by
        rcases Nat.mod_two_eq_zero_or_one a with x | x <;> rcases Nat.mod_two_eq_zero_or_one b with y | y <;> rw [x, y] <;> rfl
      omega
theorem bitXor_nat (i j : Int) (h1 : 0 ≤ i) (h2 : 0 ≤ j) : Builtin.bitXor i j = ((i.toNat ^^^ j.toNat : Nat) : Int) := by
  show Builtin.bitOr i j - Builtin.bitAnd i j = _
  rw [bitOr_nat i j h1 h2, bitAnd_nat i j h1 h2, or_xor_and]
  omega
theorem or_bI (k : BK) : OpR X (binaryOp (opB k)) (rBI k) := by
  intro pins s σ H x y v u Q I rx ry h
  obtain ⟨i, j, z, rfl, rfl, e, q⟩ := h
  cases k with
  | add => cases e; exact op_add pins s σ H _ _ v u Q I rx ry ⟨i, j, rfl, rfl, q⟩
  | sub => cases e; exact op_sub pins s σ H _ _ v u Q I rx ry ⟨i, j, rfl, rfl, q⟩
  | mul =>
    simp only [binI] at e
    split at e
    · rename_i hs
      cases e
      refine op_mul pins s σ H _ _ v u Q I rx ry ⟨i, j, rfl, rfl, ?_, q⟩
      simp only [Bool.or_eq_true] at hs
      rcases hs with hs | hs
      · exact .inl (small_iff hs)
      · exact .inr (small_iff hs)
    · cases e
  | fdiv =>
    simp only [binI, Bool.and_eq_true, decide_eq_true_eq] at e
    split at e
    · rename_i hs; cases e
      exact op_fdiv pins s σ H _ _ v u Q I rx ry ⟨i, j, rfl, rfl, hs, q⟩
    · cases e
  | mod =>
    simp only [binI] at e
    split at e
    · rename_i hs; cases e
      exact op_mod pins s σ H _ _ v u Q I rx ry ⟨i, j, rfl, rfl, hs, q⟩
    · cases e
  | pow =>
    simp only [binI, Bool.and_eq_true, decide_eq_true_eq] at e
    split at e
    · rename_i hs; cases e
      exact op_pow pins s σ H _ _ v u Q I rx ry ⟨i, j, rfl, rfl, ⟨hs.1.1, hs.1.2, hs.2⟩, q⟩
    · cases e
  | shl =>
    simp only [binI, Bool.and_eq_true, decide_eq_true_eq] at e
    split at e
    · rename_i hs; cases e
      exact op_shl pins s σ H _ _ v u Q I rx ry ⟨i, j, rfl, rfl, ⟨hs.1.1, hs.1.2, hs.2⟩, q⟩
    · cases e
  | shr =>
    simp only [binI] at e
    split at e
    · rename_i hs; cases e
      exact op_shr pins s σ H _ _ v u Q I rx ry ⟨i, j, rfl, rfl, hs, q⟩
    · cases e
  | band =>
    simp only [binI, Bool.and_eq_true, decide_eq_true_eq] at e
    split at e
    · rename_i hs; cases e
      exact op_and pins s σ H _ _ v u Q I rx ry ⟨i, j, rfl, rfl, by show Q (.int (Builtin.bitAnd i j)) H; rw [bitAnd_nat i j hs.1 hs.2]; exact q⟩
    · cases e
  | bor =>
    simp only [binI, Bool.and_eq_true, decide_eq_true_eq] at e
    split at e
    · rename_i hs; cases e
      exact op_or pins s σ H _ _ v u Q I rx ry ⟨i, j, rfl, rfl, by show Q (.int (Builtin.bitOr i j)) H; rw [bitOr_nat i j hs.1 hs.2]; exact q⟩
    · cases e
  | bxor =>
    simp only [binI, Bool.and_eq_true, decide_eq_true_eq] at e
    split at e
    · rename_i hs; cases e
      exact op_xor pins s σ H _ _ v u Q I rx ry ⟨i, j, rfl, rfl, by show Q (.int (Builtin.bitXor i j)) H; rw [bitXor_nat i j hs.1 hs.2]; exact q⟩
    · cases e
/-- all kinds under an operator, from MP's side -/
def rB (c : C) (W : WX) (k : BK) : R2 := fun x y H Q => ∃ (env : MEnv) (h : MHeap) (ml : List Addr) (G : Addr → Prop) (σ : L2.St) (v w : Val), SR c env h ml G σ H ∧ RV c H ml G v x ∧ RV c H ml G w y ∧
  Ok c W env σ (lift (binV k v w) h) ml G H fun u _ ml' G' H' => ∀ z, RV c H' ml' G' u z → Q z H'
theorem sizeSZ : sizeLine = SZ := by rw [sizeLine_eq]; rfl
theorem or_B (hX : Good c X) (k : BK) : OpR X (binaryOp (opB k)) (rB c W k) := by
  intro pins s σ H x y v u Q I rx ry h
  obtain ⟨env, hh, ml, G, σ', d, e, sr, r1, r2, o⟩ := h
  obtain ⟨z, heq, o⟩ := o.liftG
  unfold binV at heq
  split at heq
  · -- ints
    rename_i i j
    cases ei : binI k i j with
    | none => rw [ei] at heq; cases heq
    | some m =>
      rw [ei] at heq
      cases heq
      rw [r1.int'] at rx
      rw [r2.int'] at ry
      exact or_bI k pins s σ H _ _ v u Q I rx ry ⟨i, j, m, rfl, rfl, ei, o ml G H sr.refl sr _ .int⟩
  · -- tuples
    split at heq
    · rename_i l1 l2 hl
      cases heq
      obtain ⟨a1, xs, rfl, q1, s1⟩ := r1.tup'
      obtain ⟨a2, ys, rfl, q2, s2⟩ := r2.tup'
      rw [← hX.K] at q1 q2
      refine op_catA pins s σ H _ _ v u Q I rx ry ⟨a1, a2, xs, ys, rfl, rfl, q1, q2, ?_, fun e => ?_, fun _ e => ?_, fun _ _ p hp => ?_⟩
      · rw [s1.length, s2.length, sizeSZ]; exact hl
      · subst e
        have := s1.length
        have e0 : l1 = [] := by cases l1 with | nil => rfl | cons _ _ => cases this
        subst e0
        exact o ml G H sr.refl sr _ (.tup (hX.K ▸ q2) (by simpa using s2))
      · subst e
        have := s2.length
        have e0 : l2 = [] := by cases l2 with | nil => rfl | cons _ _ => cases this
        subst e0
        exact o ml G H sr.refl sr _ (.tup (hX.K ▸ q1) (by simpa using s1))
      · exact o ml G _ (sr.fresh _ hp) (sr.laid _ hp) _ (.tup (SqT.of upd_same) ((s1.append s2).mono (sr.fresh _ hp)))
    · cases heq
  · -- texts
    split at heq
    · rename_i l1 l2 hl
      cases heq
      rw [r1.str'] at rx
      rw [r2.str'] at ry
      exact op_add_str pins s σ H _ _ v u Q I rx ry ⟨_, _, rfl, rfl, by rw [sizeSZ]; exact hl, o ml G H sr.refl sr _ .str⟩
    · cases heq
  · cases heq
theorem sE_bin {k : BK} (hX : Good c X) (ha : PE X a (tE c W fa)) (hb : PE X b (tE c W fb)) : PE X (.BinOp a (opB k) b pos) (tE c W fun env => do let x ← fa env; let y ← fb env; lift (binV k x y)) := by
  refine (pe_op (or_B (W := W) hX k) ha hb).imp fun σ H Q q => ?_
  obtain ⟨env, h, ml, G, s, o⟩ := q
  have k2 := tE.two (fa := fa) (fb := fb) s o
  refine tE.imp k2 fun x H1 q1 => tE.imp q1 fun y H2 ⟨v, w, h2, ml2, G2, s2, r1, r2, o2⟩ => ⟨env, h2, ml2, G2, σ, v, w, s2, r1, r2, o2⟩
end
end MPS

namespace MPS
open PySem PySem.Spec L2 MP

mutual
theorem dp_of {c : C} {H : Hp} {ml : List Addr} {G : Addr → Prop} : ∀ (n : Nat) (v : Val) (x : V), v.okD n = true → RV c H ml G v x → Dp c.K H x (pd v)
  | n, .non, x, _, r => by rw [r.non']; simp only [pd]; exact .non
  | n, .bl b, x, _, r => by rw [r.bl']; simp only [pd]; exact .bl b
  | n, .int b, x, _, r => by rw [r.int']; simp only [pd]; exact .int b
  | n, .str b, x, _, r => by rw [r.str']; simp only [pd]; exact .str b
  | 0, .tup l, x, k, r => by simp [Val.okD] at k
  | n + 1, .tup l, x, k, r => by
    obtain ⟨a, xs, rfl, h, rs⟩ := r.tup'
    simp only [pd]
    exact .tup h (dpL_of n l xs (by simpa [Val.okD] using k) rs)
  | 0, .lst l, x, k, r => by simp [Val.okD] at k
  | n + 1, .lst l, x, k, r => by
    obtain ⟨a, xs, rfl, h, rs⟩ := r.lst'
    simp only [pd]
    exact .lst (SqL.of h.1) (dpL_of n l xs (by simpa [Val.okD] using k) rs)
  | n, .scr l, x, k, r => by cases n <;> simp [Val.okD] at k
  | n, .dct _ _, x, k, r => by cases n <;> simp [Val.okD] at k
  | n, .loc _, x, k, r => by cases n <;> simp [Val.okD] at k
  | n, .fn _, x, k, r => by cases n <;> simp [Val.okD] at k
  | n, .ty _, x, k, r => by cases n <;> simp [Val.okD] at k
theorem dpL_of {c : C} {H : Hp} {ml : List Addr} {G : Addr → Prop} : ∀ (n : Nat) (l : List Val) (xs : List V), okDL n l = true → RVs c H ml G l xs → DpAll c.K H xs (pdL l)
  | n, [], xs, _, r => by rw [r.inv0]; simp only [pdL]; exact .nil
  | n, v :: l, xs, k, r => by
    obtain ⟨x, rest, rfl, r1, r2⟩ := r.inv
    simp only [okDL, Bool.and_eq_true] at k
    simp only [pdL]
    exact .cons (dp_of n v x k.1 r1) (dpL_of n l rest k.2 r2)
end
mutual
theorem pd_can : ∀ (n : Nat) (v : Val), v.okD n = true → (pd v).canLay0 = true ∧ (pd v).depth ≤ n
  | n, .non, _ => by simp [pd, PyData.canLay0, PyData.depth]
  | n, .bl b, _ => by simp [pd, PyData.canLay0, PyData.depth]
  | n, .int b, _ => by simp [pd, PyData.canLay0, PyData.depth]
  | n, .str b, k => by
    have k' : b.cps.all (· < 0x110000) = true := by cases n <;> simpa [Val.okD] using k
    simp only [pd, PyData.canLay0, PyData.depth]
    exact ⟨k', Nat.zero_le _⟩
  | 0, .tup l, k => by simp [Val.okD] at k
  | n + 1, .tup l, k => by
    obtain ⟨h1, h2⟩ := pdL_can n l (by simpa [Val.okD] using k)
    simp only [pd, PyData.canLay0, PyData.depth]
    exact ⟨h1, Nat.succ_le_succ h2⟩
  | 0, .lst l, k => by simp [Val.okD] at k
  | n + 1, .lst l, k => by
    obtain ⟨h1, h2⟩ := pdL_can n l (by simpa [Val.okD] using k)
    simp only [pd, PyData.canLay0, PyData.depth]
    exact ⟨h1, Nat.succ_le_succ h2⟩
  | n, .scr l, k => by cases n <;> simp [Val.okD] at k
  | n, .dct _ _, k => by cases n <;> simp [Val.okD] at k
  | n, .loc _, k => by cases n <;> simp [Val.okD] at k
  | n, .fn _, k => by cases n <;> simp [Val.okD] at k
  | n, .ty _, k => by cases n <;> simp [Val.okD] at k
theorem pdL_can : ∀ (n : Nat) (l : List Val), okDL n l = true → PyData.canLayAll0 (pdL l) = true ∧ PyData.depthAll (pdL l) ≤ n
  | n, [], _ => by simp [pdL, PyData.canLayAll0, PyData.depthAll]
  | n, v :: l, k => by
    simp only [okDL, Bool.and_eq_true] at k
    obtain ⟨h1, h2⟩ := pd_can n v k.1
    obtain ⟨h3, h4⟩ := pdL_can n l k.2
    simp only [pdL, PyData.canLayAll0, PyData.depthAll, h1, h3, Bool.and_self, true_and]
    exact Nat.max_le.mpr ⟨h2, h4⟩
end
mutual
theorem pd_eqv : ∀ (n m : Nat) (v w : Val), v.okD n = true → w.okD m = true → PyData.eqv (pd v) (pd w) = v.eqv w
  | n, m, .non, w, _, k => by cases w <;> first | (simp [pd, PyData.eqv, Val.eqv]; done) | (cases m <;> simp [Val.okD] at k)
  | n, m, .bl b, w, _, k => by cases w <;> first | (simp [pd, PyData.eqv, Val.eqv]; done) | (cases m <;> simp [Val.okD] at k)
  | n, m, .int b, w, _, k => by cases w <;> first | (simp [pd, PyData.eqv, Val.eqv]; done) | (cases m <;> simp [Val.okD] at k)
  | n, m, .str b, w, _, k => by cases w <;> first | (simp [pd, PyData.eqv, Val.eqv]; done) | (cases m <;> simp [Val.okD] at k)
  | 0, m, .tup l, w, k, _ => by simp [Val.okD] at k
  | n + 1, m, .tup l, w, k, k' => by
    cases w with
    | tup l2 =>
      cases m with
      | zero => simp [Val.okD] at k'
      | succ m =>
        simp only [pd, PyData.eqv, Val.eqv]
        exact pdL_eqv n m l l2 (by simpa [Val.okD] using k) (by simpa [Val.okD] using k')
    | _ => first | (simp [pd, PyData.eqv, Val.eqv]; done) | (cases m <;> simp [Val.okD] at k')
  | 0, m, .lst l, w, k, _ => by simp [Val.okD] at k
  | n + 1, m, .lst l, w, k, k' => by
    cases w with
    | lst l2 =>
      cases m with
      | zero => simp [Val.okD] at k'
      | succ m =>
        simp only [pd, PyData.eqv, Val.eqv]
        exact pdL_eqv n m l l2 (by simpa [Val.okD] using k) (by simpa [Val.okD] using k')
    | _ => first | (simp [pd, PyData.eqv, Val.eqv]; done) | (cases m <;> simp [Val.okD] at k')
  | n, m, .scr l, w, k, _ => by cases n <;> simp [Val.okD] at k
  | n, m, .dct _ _, w, k, _ => by cases n <;> simp [Val.okD] at k
  | n, m, .loc _, w, k, _ => by cases n <;> simp [Val.okD] at k
  | n, m, .fn _, w, k, _ => by cases n <;> simp [Val.okD] at k
  | n, m, .ty _, w, k, _ => by cases n <;> simp [Val.okD] at k
theorem pdL_eqv : ∀ (n m : Nat) (v w : List Val), okDL n v = true → okDL m w = true → PyData.eqvAll (pdL v) (pdL w) = eqvL v w
  | n, m, [], [], _, _ => by simp [pdL, PyData.eqvAll, eqvL]
  | n, m, [], _ :: _, _, _ => by simp [pdL, PyData.eqvAll, eqvL]
  | n, m, _ :: _, [], _, _ => by simp [pdL, PyData.eqvAll, eqvL]
  | n, m, a :: l, b :: r, k, k' => by
    simp only [okDL, Bool.and_eq_true] at k k'
    simp only [pdL, PyData.eqvAll, eqvL]
    rw [pd_eqv n m a b k.1 k'.1, pdL_eqv n m l r k.2 k'.2]
end
theorem shaped_of {v : Val} (k : v.okD 60 = true) : SeqAt.shaped (pd v) = true := by
  obtain ⟨h1, h2⟩ := pd_can 60 v k
  unfold SeqAt.shaped
  rw [h1, Bool.true_and]
  exact decide_eq_true (by omega)

section
variable {c : C} {X : Cx} {env : MEnv} {h : MHeap} {ml : List Addr} {G : Addr → Prop} {σ : L2.St} {H : Hp}
/-- a local list as it stands -/
theorem res_dp {v v' : Val} {x : V} (s : SR c env h ml G σ H) (r : RV c H ml G v x) (e : res h v = some v') (k : v'.okD 60 = true) : Dp c.K H x (pd v') := by
  have gen : ∀ w : Val, w.noLoc = true → res h w = some w := fun w hw => by
    unfold res
    split
    · simp [Val.noLoc] at hw
    · rw [if_pos hw]
  by_cases hv : ∃ n, v = .loc n
  · obtain ⟨n, rfl⟩ := hv
    obtain ⟨a, em, rfl⟩ := r.loc'
    simp only [res] at e
    cases eh : h[n]? with
    | none => rw [eh] at e; cases e
    | some o =>
      cases o with
      | dict _ _ => rw [eh] at e; cases e
      | list l =>
        rw [eh] at e
        simp only at e
        split at e
        · cases e
          obtain ⟨xs, eH, rs⟩ := s.at eh em
          simp only [pd]
          exact .lst (SqL.of eH) (dpL_of 59 l xs (by simpa [Val.okD] using k) rs)
        · cases e
  · have e' : v' = v := by
      unfold res at e
      split at e
      · exact absurd ⟨_, rfl⟩ hv
      · split at e
        · cases e; rfl
        · cases e
    subst e'
    exact dp_of 60 _ x k r
/-- a sequence's items -/
theorem seq_at {v : Val} {l : List Val} {x : V} (s : SR c env h ml G σ H) (r : RV c H ml G v x) (e : seqV h v = some l) : ∃ a xs, x = .ref a ∧ (SqL c.K H a xs ∨ SqT c.K H a xs) ∧ RVs c H ml G l xs := by
  cases v with
  | tup l2 => cases e; obtain ⟨a, xs, rfl, q, rs⟩ := r.tup'; exact ⟨a, xs, rfl, .inr q, rs⟩
  | lst l2 => cases e; obtain ⟨a, xs, rfl, q, rs⟩ := r.lst'; exact ⟨a, xs, rfl, .inl (SqL.of q.1), rs⟩
  | scr l2 => cases e; obtain ⟨a, xs, rfl, q, rs⟩ := r.scr'; exact ⟨a, xs, rfl, .inl q.sq, rs⟩
  | loc n =>
    obtain ⟨a, em, rfl⟩ := r.loc'
    simp only [seqV] at e
    cases eh : h[n]? with
    | none => rw [eh] at e; cases e
    | some o =>
      cases o with
      | dict _ _ => rw [eh] at e; cases e
      | list l2 =>
        rw [eh] at e
        cases e
        obtain ⟨xs, eH, rs⟩ := s.at eh em
        exact ⟨a, xs, rfl, .inl (SqL.of eH), rs⟩
  | _ => cases e
/-- a plain list's -/
theorem lst_at {v : Val} {l : List Val} {x : V} (s : SR c env h ml G σ H) (r : RV c H ml G v x) (e : lstV h v = some l) : ∃ a xs, x = .ref a ∧ H a = some (.lst xs) ∧ RVs c H ml G l xs := by
  cases v with
  | lst l2 => cases e; obtain ⟨a, xs, rfl, q, rs⟩ := r.lst'; exact ⟨a, xs, rfl, q.1, rs⟩
  | loc n =>
    obtain ⟨a, em, rfl⟩ := r.loc'
    simp only [lstV] at e
    cases eh : h[n]? with
    | none => rw [eh] at e; cases e
    | some o =>
      cases o with
      | dict _ _ => rw [eh] at e; cases e
      | list l2 =>
        rw [eh] at e
        cases e
        obtain ⟨xs, eH, rs⟩ := s.at eh em
        exact ⟨a, xs, rfl, eH, rs⟩
  | _ => cases e
theorem scr_at {v : Val} {l : List Val} {x : V} (s : SR c env h ml G σ H) (r : RV c H ml G v x) (e : scrV h v = some l) : ∃ a xs, x = .ref a ∧ SqL c.K H a xs ∧ RVs c H ml G l xs := by
  unfold scrV at e
  split at e
  · cases e; obtain ⟨a, xs, rfl, q, rs⟩ := r.scr'; exact ⟨a, xs, rfl, q.sq, rs⟩
  · obtain ⟨a, xs, rfl, q, rs⟩ := lst_at s r e; exact ⟨a, xs, rfl, SqL.of q, rs⟩
theorem ints_at : ∀ {l : List Val} {xs : List V} {ns : List Int}, RVs c H ml G l xs → intsOf l = some ns → xs = ns.map V.int
  | [], xs, ns, r, e => by cases e; rw [r.inv0]; rfl
  | v :: l, xs, ns, r, e => by
    obtain ⟨x, rest, rfl, r1, r2⟩ := r.inv
    cases v with
    | int i =>
      simp only [intsOf] at e
      cases e2 : intsOf l with
      | none => rw [e2] at e; cases e
      | some ms =>
        rw [e2] at e
        cases e
        rw [r1.int', ints_at r2 e2]
        rfl
    | _ => cases e
theorem bools_at : ∀ {l : List Val} {xs : List V} {ns : List Bool}, RVs c H ml G l xs → boolsOf l = some ns → xs = ns.map V.bl
  | [], xs, ns, r, e => by cases e; rw [r.inv0]; rfl
  | v :: l, xs, ns, r, e => by
    obtain ⟨x, rest, rfl, r1, r2⟩ := r.inv
    cases v with
    | bl i =>
      simp only [boolsOf] at e
      cases e2 : boolsOf l with
      | none => rw [e2] at e; cases e
      | some ms =>
        rw [e2] at e
        cases e
        rw [r1.bl', bools_at r2 e2]
        rfl
    | _ => cases e
theorem scalar_flat {v : Val} {x : V} (r : RV c H ml G v x) (k : scalar v = true) : flatV x = true := by
  cases v with
  | non => rw [r.non']; rfl
  | bl b => rw [r.bl']; rfl
  | int b => rw [r.int']; rfl
  | str b => rw [r.str']; rfl
  | _ => cases k
theorem scalar_eq {v w : Val} {x y : V} (r : RV c H ml G v x) (r' : RV c H ml G w y) (k : scalar v = true) (k' : scalar w = true) : eqV x y = v.eqv w := by
  cases v with
  | non => rw [r.non']; cases w with
    | non => rw [r'.non']; rfl
    | bl b => rw [r'.bl']; rfl
    | int b => rw [r'.int']; rfl
    | str b => rw [r'.str']; rfl
    | _ => cases k'
  | bl b => rw [r.bl']; cases w with
    | non => rw [r'.non']; rfl
    | bl b => rw [r'.bl']; rfl
    | int b => rw [r'.int']; rfl
    | str b => rw [r'.str']; rfl
    | _ => cases k'
  | int b => rw [r.int']; cases w with
    | non => rw [r'.non']; rfl
    | bl b => rw [r'.bl']; rfl
    | int b => rw [r'.int']; rfl
    | str b => rw [r'.str']; rfl
    | _ => cases k'
  | str b => rw [r.str']; cases w with
    | non => rw [r'.non']; rfl
    | bl b => rw [r'.bl']; rfl
    | int b => rw [r'.int']; rfl
    | str b => rw [r'.str']; rfl
    | _ => cases k'
  | _ => cases k
theorem scalar_all : ∀ {l : List Val} {xs : List V}, RVs c H ml G l xs → l.all scalar = true → xs.all flatV = true
  | [], xs, r, _ => by rw [r.inv0]; rfl
  | v :: l, xs, r, k => by
    obtain ⟨x, rest, rfl, r1, r2⟩ := r.inv
    rw [List.all_cons, Bool.and_eq_true] at k
    rw [List.all_cons, scalar_flat r1 k.1, scalar_all r2 k.2]
    rfl
theorem scalar_any {w : Val} {y : V} (r' : RV c H ml G w y) (k' : scalar w = true) : ∀ {l : List Val} {xs : List V}, RVs c H ml G l xs → l.all scalar = true → (xs.any fun z => eqV z y) = l.any fun z => z.eqv w
  | [], xs, r, _ => by rw [r.inv0]; rfl
  | v :: l, xs, r, k => by
    obtain ⟨x, rest, rfl, r1, r2⟩ := r.inv
    rw [List.all_cons, Bool.and_eq_true] at k
    rw [List.any_cons, List.any_cons, scalar_eq r1 r' k.1 k', scalar_any r' k' r2 k.2]
theorem pd_any {w : Val} (k' : w.okD 60 = true) : ∀ (l : List Val), okDL 59 l = true → ((pdL l).any fun z => PyData.eqv z (pd w)) = l.any fun z => z.eqv w
  | [], _ => rfl
  | v :: l, k => by
    simp only [okDL, Bool.and_eq_true] at k
    simp only [pdL, List.any_cons]
    rw [pd_eqv 59 60 v w k.1 k', pd_any k' l k.2]

def opC : CK → CmpOp
  | .eq => .Eq | .ne => .NotEq | .lt => .Lt | .le => .LtE | .gt => .Gt | .ge => .GtE | .isn => .Is | .isnn => .IsNot | .mem => .In | .nmem => .NotIn | .ist => .Is | .isnt => .IsNot
/-- a comparison, from MP's side -/
def rC (c : C) (k : CK) : R2 := fun x y H Q => ∃ (env : MEnv) (h : MHeap) (ml : List Addr) (G : Addr → Prop) (σ : L2.St) (v w : Val) (b : Bool), SR c env h ml G σ H ∧ RV c H ml G v x ∧ RV c H ml G w y ∧ cmpV h k v w = some b ∧ Q (.bl b) H

theorem lexAt_le : ∀ (ns ms : List Int) (i : Nat) (e r : Nat → Bool) (z : Bool), (∀ j, j < ns.length → j < ms.length → e (i + j) = decide (ns.getD j 0 = ms.getD j 0)) → (∀ j, j < ns.length → j < ms.length → r (i + j) = decide (ns.getD j 0 ≤ ms.getD j 0)) →
    z = decide (ns.length ≤ ms.length) → Ob.lexAt e r z i (min ns.length ms.length) = lexLe ns ms
  | [], [], i, e, r, z, _, _, hz => by subst hz; rfl
  | [], _ :: _, i, e, r, z, _, _, hz => by subst hz; simp [Ob.lexAt, lexLe, MP.lexLt]
  | _ :: _, [], i, e, r, z, _, _, hz => by subst hz; simp [Ob.lexAt, lexLe, MP.lexLt]
  | n :: ns, m :: ms, i, e, r, z, he, hr, hz => by
    rw [show min (n :: ns).length (m :: ms).length = min ns.length ms.length + 1 by simp only [List.length_cons]; omega, Ob.lexAt_succ]
    have h0 := he 0 (by simp) (by simp)
    have r0 := hr 0 (by simp) (by simp)
    rw [Nat.add_zero] at h0 r0
    have ih := lexAt_le ns ms (i + 1) e r z (fun j h1 h2 => by
      have q := he (j + 1) (by simp; omega) (by simp; omega)
      rw [show i + 1 + j = i + (j + 1) by omega, q]
      simp) (fun j h1 h2 => by
      have q := hr (j + 1) (by simp; omega) (by simp; omega)
      rw [show i + 1 + j = i + (j + 1) by omega, q]
      simp) (by rw [hz]; simp)
    rw [ih, h0, r0]
    simp only [List.getD_cons_zero, lexLe, MP.lexLt]
    by_cases hnm : n = m
    · subst hnm; simp
    · rw [if_neg (by simpa using hnm), if_neg (fun z => hnm z.symm)]
      by_cases hl : n ≤ m
      · rw [decide_eq_true hl, decide_eq_false (by omega)]; rfl
      · rw [decide_eq_false hl, decide_eq_true (by omega)]; rfl
theorem lexLt_eq : ∀ (a b : List Int), HT.lexLt a b = MP.lexLt a b
  | [], [] => rfl
  | [], _ :: _ => rfl
  | _ :: _, [] => rfl
  | x :: xs, y :: ys => by
    rw [HT.lexLt_cons]
    unfold MP.lexLt
    rw [lexLt_eq xs ys]

theorem eq_at (hX : Good c X) {v w : Val} {x y : V} {b : Bool} (s : SR c env h ml G σ H) (r1 : RV c H ml G v x) (r2 : RV c H ml G w y) (e : MP.eqV h v w = some b) :
    (scal x y = true ∧ decide (x = y) = b) ∨ ∃ d d', Dp X.K H x d ∧ Dp X.K H y d' ∧ SeqAt.shaped d = true ∧ SeqAt.shaped d' = true ∧ PyData.eqv d d' = b := by
  unfold MP.eqV at e
  cases e1 : res h v with
  | none => rw [e1] at e; simp at e
  | some v' =>
    cases e2 : res h w with
    | none => rw [e1, e2] at e; simp at e
    | some w' =>
      rw [e1, e2] at e
      simp only at e
      have deep : v'.okD 60 = true → w'.okD 60 = true → v'.eqv w' = b → ∃ d d', Dp X.K H x d ∧ Dp X.K H y d' ∧ SeqAt.shaped d = true ∧ SeqAt.shaped d' = true ∧ PyData.eqv d d' = b := fun k k' q =>
        ⟨pd v', pd w', hX.K ▸ res_dp s r1 e1 k, hX.K ▸ res_dp s r2 e2 k', shaped_of k, shaped_of k', by rw [pd_eqv 60 60 v' w' k k']; exact q⟩
      have oi : ∀ i : Int, (Val.int i).okD 60 = true := fun i => rfl
      have ob : ∀ i : Bool, (Val.bl i).okD 60 = true := fun i => rfl
      split at e
      · rename_i i j
        refine .inr (deep (oi i) (oi j) ?_)
        cases e
        simp only [Val.eqv]
        exact Bool.beq_eq_decide_eq _ _
      · rename_i i j
        have nl : ∀ {u : Val} {t : Str}, res h u = some (.str t) → u = .str t := fun {u t} q => by
          unfold res at q
          split at q
          · split at q
            · split at q <;> cases q
            · cases q
          · split at q
            · cases q; rfl
            · cases q
        have a1 := nl e1
        have a2 := nl e2
        subst a1
        subst a2
        rw [r1.str', r2.str']
        refine .inl ⟨rfl, ?_⟩
        cases e
        rw [Bool.eq_iff_iff]
        simp
      · rename_i i j
        refine .inr (deep (ob i) (ob j) ?_)
        cases e
        simp [Val.eqv]
      · split at e
        · rename_i hk
          rw [Bool.and_eq_true] at hk
          cases e
          exact .inr (deep hk.1 hk.2 rfl)
        · cases e
theorem mem_at (hX : Good c X) {v w : Val} {x y : V} {b : Bool} (s : SR c env h ml G σ H) (r1 : RV c H ml G v x) (r2 : RV c H ml G w y) (e : memV h v w = some b) :
    (∃ p xs, y = .ref p ∧ (SqL X.K H p xs ∨ SqT X.K H p xs) ∧ flatV x = true ∧ xs.all flatV = true ∧ inV x xs = b) ∨
      ∃ d ds, Dp X.K H x d ∧ Dp X.K H y (.list ds) ∧ SeqAt.shaped d = true ∧ SeqAt.shaped (.list ds) = true ∧ (ds.any fun z => PyData.eqv z d) = b := by
  unfold memV at e
  cases e1 : seqV h w with
  | none => rw [e1] at e; simp at e
  | some l =>
    cases e2 : res h v with
    | none => rw [e1, e2] at e; simp at e
    | some v' =>
      rw [e1, e2] at e
      simp only at e
      split at e
      · rename_i hk
        rw [Bool.and_eq_true] at hk
        have ev : v' = v := by
          unfold res at e2
          split at e2
          · split at e2
            · split at e2
              · cases e2; cases hk.1
              · cases e2
            · cases e2
          · split at e2
            · cases e2; rfl
            · cases e2
        subst ev
        obtain ⟨a, xs, rfl, q, rs⟩ := seq_at s r2 e1
        rw [← hX.K] at q
        cases e
        exact .inl ⟨a, xs, rfl, q, scalar_flat r1 hk.1, scalar_all rs hk.2, scalar_any r1 hk.1 rs hk.2⟩
      · split at e
        · rename_i hk
          simp only [Bool.and_eq_true] at hk
          obtain ⟨⟨k0, k1⟩, k2⟩ := hk
          cases e
          cases e3 : lstV h w with
          | none => rw [e3] at k0; cases k0
          | some l' =>
            have el : l' = l := by
              cases w with
              | lst m => cases e3; cases e1; rfl
              | loc n =>
                simp only [lstV] at e3
                simp only [seqV] at e1
                split at e3
                · rename_i q; rw [q] at e1; cases e1; cases e3; rfl
                · cases e3
              | _ => cases e3
            subst el
            obtain ⟨a, xs, rfl, q, rs⟩ := lst_at s r2 e3
            have k1' : okDL 59 l' = true := by simpa [Val.okD] using k1
            refine .inr ⟨pd v', pdL l', hX.K ▸ res_dp s r1 e2 k2, hX.K ▸ Dp.lst (SqL.of q) (dpL_of 59 l' xs k1' rs), shaped_of k2, shaped_of (v := .lst l') k1, pd_any k2 l' k1'⟩
        · cases e
theorem or_C (hX : Good c X) (k : CK) : OpR X (compareOp (opC k)) (rC c k) := by
  have hu := hX.un
  intro pins s σ' H x y v u Q I rx ry hh
  obtain ⟨env, h, ml, G, σ, d, e, b, sr, r1, r2, ec, q⟩ := hh
  cases k with
  | eq =>
    rcases eq_at hX sr r1 r2 ec with ⟨h1, h2⟩ | ⟨p, p', h1, h2, h3, h4, h5⟩
    · exact op_eq pins s σ' H x y v u Q I rx ry ⟨h1, by rw [h2]; exact q⟩
    · exact op_eqD (by omega) pins s σ' H x y v u Q I rx ry ⟨p, p', h1, h2, h3, h4, by rw [h5]; exact q⟩
  | ne =>
    simp only [cmpV] at ec
    cases eb : MP.eqV h d e with
    | none => rw [eb] at ec; cases ec
    | some b0 =>
      rw [eb] at ec
      cases ec
      rcases eq_at hX sr r1 r2 eb with ⟨h1, h2⟩ | ⟨p, p', h1, h2, h3, h4, h5⟩
      · exact op_ne pins s σ' H x y v u Q I rx ry ⟨h1, by rw [h2]; exact q⟩
      · exact op_neD (by omega) pins s σ' H x y v u Q I rx ry ⟨p, p', h1, h2, h3, h4, by rw [h5]; exact q⟩
  | lt =>
    cases d with
    | int i =>
      cases e with
      | int j =>
        cases ec
        rw [r1.int'] at rx
        rw [r2.int'] at ry
        exact op_lt pins s σ' H _ _ v u Q I rx ry ⟨i, j, rfl, rfl, q⟩
      | _ => cases ec
    | tup l =>
      cases e with
      | tup m =>
        simp only [cmpV] at ec
        cases e1 : intsOf l with
        | none => rw [e1] at ec; simp at ec
        | some ns =>
          cases e2 : intsOf m with
          | none => rw [e1, e2] at ec; simp at ec
          | some ms =>
            rw [e1, e2] at ec
            cases ec
            obtain ⟨a1, xs, rfl, q1, s1⟩ := r1.tup'
            obtain ⟨a2, ys, rfl, q2, s2⟩ := r2.tup'
            rw [← hX.K] at q1 q2
            rw [ints_at s1 e1] at q1
            rw [ints_at s2 e2] at q2
            exact op_ltT (by omega) pins s σ' H _ _ v u Q I rx ry ⟨a1, a2, ns, ms, rfl, rfl, q1, q2, by rw [lexLt_eq]; exact q⟩
      | _ => cases ec
    | _ => cases ec
  | le =>
    cases d with
    | int i =>
      cases e with
      | int j =>
        cases ec
        rw [r1.int'] at rx
        rw [r2.int'] at ry
        exact op_le pins s σ' H _ _ v u Q I rx ry ⟨i, j, rfl, rfl, q⟩
      | _ => cases ec
    | tup l =>
      cases e with
      | tup m =>
        simp only [cmpV] at ec
        cases e1 : intsOf l with
        | none => rw [e1] at ec; simp at ec
        | some ns =>
          cases e2 : intsOf m with
          | none => rw [e1, e2] at ec; simp at ec
          | some ms =>
            rw [e1, e2] at ec
            cases ec
            obtain ⟨a1, xs, rfl, q1, s1⟩ := r1.tup'
            obtain ⟨a2, ys, rfl, q2, s2⟩ := r2.tup'
            rw [← hX.K] at q1 q2
            rw [ints_at s1 e1] at q1
            rw [ints_at s2 e2] at q2
            refine op_leT (by omega) pins s σ' H _ _ v u Q I rx ry ⟨a1, a2, ns, ms, rfl, rfl, q1, q2, ?_⟩
            rw [lexAt_le ns ms 0 _ _ _ (fun j _ _ => by rw [Nat.zero_add]) (fun j _ _ => by rw [Nat.zero_add]) rfl]
            exact q
      | _ => cases ec
    | _ => cases ec
  | gt =>
    cases d with
    | int i =>
      cases e with
      | int j =>
        cases ec
        rw [r1.int'] at rx
        rw [r2.int'] at ry
        exact op_gt pins s σ' H _ _ v u Q I rx ry ⟨i, j, rfl, rfl, q⟩
      | _ => cases ec
    | _ => cases ec
  | ge =>
    cases d with
    | int i =>
      cases e with
      | int j =>
        cases ec
        rw [r1.int'] at rx
        rw [r2.int'] at ry
        exact op_ge pins s σ' H _ _ v u Q I rx ry ⟨i, j, rfl, rfl, q⟩
      | _ => cases ec
    | _ => cases ec
  | isn =>
    cases e with
    | non =>
      have hy := r2.non'
      refine op_isN pins s σ' H x y v u Q I rx ry ⟨hy, ?_⟩
      have eb : decide (x = V.non) = b := by
        cases d with
        | non => cases ec; rw [r1.non']; rfl
        | bl _ => cases ec; rw [r1.bl']; rfl
        | int _ => cases ec; rw [r1.int']; rfl
        | str _ => cases ec; rw [r1.str']; rfl
        | tup _ => cases ec; obtain ⟨a, _, rfl, _⟩ := r1.tup'; rfl
        | lst _ => cases ec; obtain ⟨a, _, rfl, _⟩ := r1.lst'; rfl
        | scr _ => cases ec; obtain ⟨a, _, rfl, _⟩ := r1.scr'; rfl
        | dct _ _ => cases ec; obtain ⟨_, _, a, rfl, _⟩ := r1.dct'; rfl
        | loc _ => cases ec; obtain ⟨a, _, rfl⟩ := r1.loc'; rfl
        | fn _ => cases ec; rw [r1.fn']; rfl
        | ty _ => cases ec; rw [r1.ty']; rfl
      rw [eb]; exact q
    | _ => cases ec
  | isnn =>
    cases e with
    | non =>
      have hy := r2.non'
      refine op_notN pins s σ' H x y v u Q I rx ry ⟨hy, ?_⟩
      have eb : (!decide (x = V.non)) = b := by
        cases d with
        | non => cases ec; rw [r1.non']; rfl
        | bl _ => cases ec; rw [r1.bl']; rfl
        | int _ => cases ec; rw [r1.int']; rfl
        | str _ => cases ec; rw [r1.str']; rfl
        | tup _ => cases ec; obtain ⟨a, _, rfl, _⟩ := r1.tup'; rfl
        | lst _ => cases ec; obtain ⟨a, _, rfl, _⟩ := r1.lst'; rfl
        | scr _ => cases ec; obtain ⟨a, _, rfl, _⟩ := r1.scr'; rfl
        | dct _ _ => cases ec; obtain ⟨_, _, a, rfl, _⟩ := r1.dct'; rfl
        | loc _ => cases ec; obtain ⟨a, _, rfl⟩ := r1.loc'; rfl
        | fn _ => cases ec; rw [r1.fn']; rfl
        | ty _ => cases ec; rw [r1.ty']; rfl
      rw [eb]; exact q
    | _ => cases ec
  | ist =>
    cases d with
    | bl i =>
      cases e with
      | bl j =>
        cases j with
        | true =>
          cases ec
          rw [r1.bl'] at rx
          rw [r2.bl'] at ry
          refine op_isBl pins s σ' H _ _ v u Q I rx ry ⟨_, _, rfl, rfl, ?_⟩
          simpa using q
        | false => cases ec
      | _ => cases ec
    | _ => cases ec
  | isnt =>
    cases d with
    | bl i =>
      cases e with
      | bl j =>
        cases j with
        | true =>
          cases ec
          rw [r1.bl'] at rx
          rw [r2.bl'] at ry
          refine op_notBl pins s σ' H _ _ v u Q I rx ry ⟨_, _, rfl, rfl, ?_⟩
          simpa using q
        | false => cases ec
      | _ => cases ec
    | _ => cases ec
  | mem =>
    rcases mem_at hX sr r1 r2 ec with ⟨p, xs, h1, h2, h3, h4, h5⟩ | ⟨p, ds, h1, h2, h3, h4, h5⟩
    · exact op_in_seq pins s σ' H x y v u Q I rx ry ⟨p, xs, h1, h2, h3, h4, by rw [if_neg Bool.false_ne_true, h5]; exact q⟩
    · exact op_inD (by omega) pins s σ' H x y v u Q I rx ry ⟨p, ds, h1, h2, h3, h4, by rw [h5]; exact q⟩
  | nmem =>
    simp only [cmpV] at ec
    cases eb : memV h d e with
    | none => rw [eb] at ec; cases ec
    | some b0 =>
      rw [eb] at ec
      cases ec
      rcases mem_at hX sr r1 r2 eb with ⟨p, xs, h1, h2, h3, h4, h5⟩ | ⟨p, ds, h1, h2, h3, h4, h5⟩
      · exact op_notIn_seq pins s σ' H x y v u Q I rx ry ⟨p, xs, h1, h2, h3, h4, by rw [if_pos rfl, h5]; exact q⟩
      · exact op_notInD (by omega) pins s σ' H x y v u Q I rx ry ⟨p, ds, h1, h2, h3, h4, by rw [h5]; exact q⟩
end
end MPS

namespace MPS
open PySem PySem.Spec L2 MP

section
variable {c : C} {W : WX} {X : Cx} {a b d e : Expr} {fa fb fc : MEnv → M Val} {ta tb : MEnv → M Bool} {pos : Pos} {es rest : List Expr} {ga gb : MEnv → M (List Val)} {oa ob : MEnv → M (Option Int)}
theorem tT.imp {f : MEnv → M Bool} {σ : L2.St} {H : Hp} {Q Q' : Bool → Hp → Prop} (q : tT c W f σ H Q) (k : ∀ x H, Q x H → Q' x H) : tT c W f σ H Q' := by
  obtain ⟨env, h, ml, G, s, o⟩ := q
  exact ⟨env, h, ml, G, s, o.imp fun _ _ _ _ _ _ _ z => k _ _ z⟩
theorem tA.imp {f : MEnv → M (List Val)} {σ : L2.St} {H : Hp} {Q Q' : List V → Hp → Prop} (q : tA c W f σ H Q) (k : ∀ x H, Q x H → Q' x H) : tA c W f σ H Q' := by
  obtain ⟨env, h, ml, G, s, o⟩ := q
  exact ⟨env, h, ml, G, s, o.imp fun _ _ _ _ _ _ _ z x r => k _ _ (z x r)⟩
theorem sE_cmp {k : CK} (hX : Good c X) (ha : PE X a (tE c W fa)) (hb : PE X b (tE c W fb)) (hm : behindInMarks (opC k) b = false) :
    PE X (.Compare a [opC k] [b] pos) (tE c W fun env => do let x ← fa env; let y ← fb env; let r ← liftH fun h => cmpV h k x y; pure (.bl r)) := by
  refine (pe_cmpR (or_C hX k) ha hb hm).imp fun σ H Q q => ?_
  obtain ⟨env, h, ml, G, s, o⟩ := q
  refine tE.imp (tE.two (fa := fa) (fb := fb) s o) fun x H1 q1 => tE.imp q1 fun y H2 ⟨v, w, h2, ml2, G2, s2, r1, r2, o2⟩ => ?_
  obtain ⟨b, e, o3⟩ := Ok.liftHB o2 s2
  exact ⟨env, h2, ml2, G2, σ, v, w, b, s2, r1, r2, e, o3.pure s2 _ .bl⟩
theorem sT_cmp {k : CK} (hX : Good c X) (ha : PE X a (tE c W fa)) (hb : PE X b (tE c W fb)) (hm : behindInMarks (opC k) b = false) :
    PT X (.Compare a [opC k] [b] pos) (tT c W fun env => do let x ← fa env; let y ← fb env; liftH fun h => cmpV h k x y) := by
  refine (pt_cmpR (or_C hX k) ha hb hm).imp fun σ H Q q => ?_
  obtain ⟨env, h, ml, G, s, o⟩ := q
  refine tE.imp (tE.two (fa := fa) (fb := fb) s o) fun x H1 q1 => tE.imp q1 fun y H2 ⟨v, w, h2, ml2, G2, s2, r1, r2, o2⟩ => ?_
  obtain ⟨b, e, o3⟩ := o2.liftH s2
  exact ⟨env, h2, ml2, G2, σ, v, w, b, s2, r1, r2, e, b, rfl, o3⟩
theorem sE_cmp2 {k p : CK} (hX : Good c X) (ha : PE X a (tE c W fa)) (hb : PE X b (tE c W fb)) (hd : PE X d (tE c W fc)) (hm : lastMarks [opC k, opC p] [b, d] = false) :
    PE X (.Compare a [opC k, opC p] [b, d] pos) (tE c W fun env => do
      let x ← fa env
      let y ← fb env
      let r ← liftH fun h => cmpV h k x y
      if r then do let z ← fc env; let q ← liftH fun h => cmpV h p y z; pure (.bl q) else pure (.bl false)) := by
  refine (pe_chain (or_C hX k) (or_C hX p) ha hb hd hm).imp fun σ H Q q => ?_
  obtain ⟨env, h, ml, G, s, o⟩ := q
  refine tE.imp (tE.two (fa := fa) (fb := fb) s o) fun x H1 q1 => tE.imp q1 fun y H2 ⟨v, w, h2, ml2, G2, s2, r1, r2, o2⟩ => ?_
  obtain ⟨b, e, o3⟩ := Ok.liftHB o2 s2
  refine ⟨env, h2, ml2, G2, σ, v, w, b, s2, r1, r2, e, b, rfl, ?_⟩
  cases b with
  | false =>
    rw [if_neg Bool.false_ne_true]
    exact o3.pure s2 _ .bl
  | true =>
    rw [if_pos rfl]
    have o4 : Ok c W env σ ((do let z ← fc env; let q ← liftH fun h => cmpV h p w z; pure (Val.bl q)) h2) ml2 G2 H2 _ := o3
    refine ⟨env, h2, ml2, G2, s2, (Ok.bind o4).imp fun u h3 ml3 G3 H3 g3 s3 o5 z rz => ?_⟩
    obtain ⟨b2, e2, o6⟩ := Ok.liftHB o5 s3
    exact ⟨env, h3, ml3, G3, σ, w, u, b2, s3, r2.mono g3, rz, e2, o6.pure s3 _ .bl⟩
theorem sT_cmp2 {k p : CK} (hX : Good c X) (ha : PE X a (tE c W fa)) (hb : PE X b (tE c W fb)) (hd : PE X d (tE c W fc)) (hm : lastMarks [opC k, opC p] [b, d] = false) :
    PT X (.Compare a [opC k, opC p] [b, d] pos) (tT c W fun env => do
      let x ← fa env
      let y ← fb env
      let r ← liftH fun h => cmpV h k x y
      if r then do let z ← fc env; liftH fun h => cmpV h p y z else pure false) := by
  refine (pt_chain (or_C hX k) (or_C hX p) ha hb hd hm).imp fun σ H Q q => ?_
  obtain ⟨env, h, ml, G, s, o⟩ := q
  refine tE.imp (tE.two (fa := fa) (fb := fb) s o) fun x H1 q1 => tE.imp q1 fun y H2 ⟨v, w, h2, ml2, G2, s2, r1, r2, o2⟩ => ?_
  obtain ⟨b, e, o3⟩ := Ok.liftHB o2 s2
  refine ⟨env, h2, ml2, G2, σ, v, w, b, s2, r1, r2, e, b, rfl, ?_⟩
  cases b with
  | false =>
    rw [if_neg Bool.false_ne_true]
    exact ⟨false, rfl, o3.pure s2⟩
  | true =>
    rw [if_pos rfl]
    have o4 : Ok c W env σ ((do let z ← fc env; liftH fun h => cmpV h p w z) h2) ml2 G2 H2 _ := o3
    refine ⟨env, h2, ml2, G2, s2, (Ok.bind o4).imp fun u h3 ml3 G3 H3 g3 s3 o5 z rz => ?_⟩
    obtain ⟨b2, e2, o6⟩ := o5.liftH s3
    exact ⟨env, h3, ml3, G3, σ, w, u, b2, s3, r2.mono g3, rz, e2, b2, rfl, o6⟩

theorem bool_of {v : Val} {t : Bool} (h : boolV v = some t) : v = .bl t := by
  cases v with
  | bl b => cases h; rfl
  | _ => cases h
theorem sE_and (ha : PE X a (tE c W fa)) (hb : PE X (.BoolOp .And (b :: rest) pos) (tE c W fb)) :
    PE X (.BoolOp .And (a :: b :: rest) pos) (tE c W fun env => do let x ← fa env; let t ← lift (boolV x); if t then fb env else pure (.bl false)) := by
  refine (pe_and ha hb).imp fun σ H Q q => ?_
  obtain ⟨env, h, ml, G, s, o⟩ := q
  refine tE.imp (tE.one (fa := fa) s o) fun x H1 ⟨v, h1, ml1, G1, s1, r1, o1⟩ => ?_
  obtain ⟨t, e, o2⟩ := Ok.liftB o1 s1
  have e' := bool_of e
  subst e'
  refine ⟨t, r1.bl', ?_⟩
  cases t with
  | true => rw [if_pos rfl]; exact ⟨env, h1, ml1, G1, s1, o2⟩
  | false => rw [if_neg Bool.false_ne_true]; exact o2.pure s1 _ .bl
theorem sE_or (ha : PE X a (tE c W fa)) (hb : PE X (.BoolOp .Or (b :: rest) pos) (tE c W fb)) :
    PE X (.BoolOp .Or (a :: b :: rest) pos) (tE c W fun env => do let x ← fa env; let t ← lift (boolV x); if t then pure (.bl true) else fb env) := by
  refine (pe_or ha hb).imp fun σ H Q q => ?_
  obtain ⟨env, h, ml, G, s, o⟩ := q
  refine tE.imp (tE.one (fa := fa) s o) fun x H1 ⟨v, h1, ml1, G1, s1, r1, o1⟩ => ?_
  obtain ⟨t, e, o2⟩ := Ok.liftB o1 s1
  have e' := bool_of e
  subst e'
  refine ⟨t, r1.bl', ?_⟩
  cases t with
  | true => rw [if_pos rfl]; exact o2.pure s1 _ .bl
  | false => rw [if_neg Bool.false_ne_true]; exact ⟨env, h1, ml1, G1, s1, o2⟩
theorem sE_not (ha : PE X a (tE c W fa)) : PE X (.UnaryOp .Not a pos) (tE c W fun env => do let x ← fa env; let t ← lift (boolV x); pure (.bl (!t))) := by
  refine (pe_not ha).imp fun σ H Q q => ?_
  obtain ⟨env, h, ml, G, s, o⟩ := q
  refine tE.imp (tE.one (fa := fa) s o) fun x H1 ⟨v, h1, ml1, G1, s1, r1, o1⟩ => ?_
  obtain ⟨t, e, o2⟩ := Ok.liftB o1 s1
  have e' := bool_of e
  subst e'
  exact ⟨t, r1.bl', o2.pure s1 _ .bl⟩
theorem sE_neg (ha : PE X a (tE c W fa)) : PE X (.UnaryOp .USub a pos) (tE c W fun env => do let x ← fa env; lift (negV x)) := by
  refine (pe_un un_neg ha).imp fun σ H Q q => ?_
  obtain ⟨env, h, ml, G, s, o⟩ := q
  refine tE.imp (tE.one (fa := fa) s o) fun x H1 ⟨v, h1, ml1, G1, s1, r1, o1⟩ => ?_
  obtain ⟨t, e, o2⟩ := o1.lift s1
  cases v with
  | int i => cases e; exact ⟨i, r1.int', o2 _ .int⟩
  | _ => cases e
theorem tT.bind {α : Type} {k : Bool → M α} {env : MEnv} {h : MHeap} {ml : List Addr} {G : Addr → Prop} {σ : L2.St} {H : Hp} {Qa : α → MHeap → List Addr → (Addr → Prop) → Hp → Prop} (s : SR c env h ml G σ H)
    (o : Ok c W env σ ((do let x ← ta env; k x) h) ml G H Qa) : tT c W ta σ H fun t H1 => ∃ h1 ml1 G1, SR c env h1 ml1 G1 σ H1 ∧ Ok c W env σ (k t h1) ml1 G1 H1 Qa :=
  ⟨env, h, ml, G, s, (Ok.bind o).imp fun _ h1 ml1 G1 _ _ s1 o1 => ⟨h1, ml1, G1, s1, o1⟩⟩
theorem sE_ite (hc : PT X d (tT c W ta)) (ha : PE X a (tE c W fa)) (hb : PE X b (tE c W fb)) : PE X (.IfExp d a b pos) (tE c W fun env => do let t ← ta env; if t then fa env else fb env) := by
  refine (pe_ifExp hc ha hb).imp fun σ H Q q => ?_
  obtain ⟨env, h, ml, G, s, o⟩ := q
  refine tT.imp (tT.bind (ta := ta) s o) fun t H1 ⟨h1, ml1, G1, s1, o1⟩ => ?_
  cases t with
  | true => rw [if_pos rfl]; exact ⟨env, h1, ml1, G1, s1, o1⟩
  | false => rw [if_neg Bool.false_ne_true]; exact ⟨env, h1, ml1, G1, s1, o1⟩
theorem sW_and (ha : PT X a (tT c W ta)) (hb : PW X (.BoolOp .And (b :: rest) pos) (tT c W tb)) : PW X (.BoolOp .And (a :: b :: rest) pos) (tT c W fun env => do let x ← ta env; if x then tb env else pure false) := by
  refine (pw_and ha hb).imp fun σ H Q q => ?_
  obtain ⟨env, h, ml, G, s, o⟩ := q
  refine tT.imp (tT.bind (ta := ta) s o) fun t H1 ⟨h1, ml1, G1, s1, o1⟩ => ?_
  cases t with
  | true => rw [if_pos rfl]; exact ⟨env, h1, ml1, G1, s1, o1⟩
  | false => rw [if_neg Bool.false_ne_true]; exact o1.pure s1
theorem sW_or (ha : PT X a (tT c W ta)) (hb : PW X (.BoolOp .Or (b :: rest) pos) (tT c W tb)) : PW X (.BoolOp .Or (a :: b :: rest) pos) (tT c W fun env => do let x ← ta env; if x then pure true else tb env) := by
  refine (pw_or ha hb).imp fun σ H Q q => ?_
  obtain ⟨env, h, ml, G, s, o⟩ := q
  refine tT.imp (tT.bind (ta := ta) s o) fun t H1 ⟨h1, ml1, G1, s1, o1⟩ => ?_
  cases t with
  | true => rw [if_pos rfl]; exact o1.pure s1
  | false => rw [if_neg Bool.false_ne_true]; exact ⟨env, h1, ml1, G1, s1, o1⟩
theorem sT_not (ha : PT X a (tT c W ta)) : PT X (.UnaryOp .Not a pos) (tT c W fun env => do let x ← ta env; pure (!x)) := by
  refine (pt_not ha).imp fun σ H Q q => ?_
  obtain ⟨env, h, ml, G, s, o⟩ := q
  exact tT.imp (tT.bind (ta := ta) s o) fun t H1 ⟨h1, ml1, G1, s1, o1⟩ => o1.pure s1
theorem tru_at (hX : Good c X) {env : MEnv} {h : MHeap} {ml : List Addr} {G : Addr → Prop} {σ : L2.St} {H : Hp} {v : Val} {x : V} {t : Bool} (s : SR c env h ml G σ H) (r : RV c H ml G v x) (e : truV h v = some t) : TruV X.K x H t := by
  have sq : ∀ {l : List Val}, seqV h v = some l → (!l.isEmpty) = t → TruV X.K x H t := fun {l} e1 e2 => by
    obtain ⟨a, xs, rfl, q, rs⟩ := seq_at s r e1
    rw [← hX.K] at q
    rcases q with q | q
    · exact .inl ⟨xs, q, by rw [rs.isEmpty]; exact e2.symm⟩
    · exact .inr (.inl ⟨xs, q, by rw [rs.isEmpty]; exact e2.symm⟩)
  cases v with
  | bl b => cases e; rw [r.bl']; exact rfl
  | non => cases e; rw [r.non']; exact rfl
  | int b => cases e; rw [r.int']; exact rfl
  | str b => cases e
  | tup l => exact sq rfl (Option.some.inj e)
  | lst l => exact sq rfl (Option.some.inj e)
  | scr l => exact sq rfl (Option.some.inj e)
  | dct _ _ => cases e
  | loc n =>
    have e' : (seqV h (.loc n)).map (fun l => !l.isEmpty) = some t := e
    cases k : seqV h (.loc n) with
    | none => rw [k] at e'; cases e'
    | some l => rw [k] at e'; exact sq k (Option.some.inj e')
  | fn _ => cases e
  | ty _ => cases e
/-- an expression whose test is its value's truth -/
def plainTest : Expr → Bool
  | .UnaryOp .Not _ _ => false
  | .BoolOp _ _ _ => false
  | .IfExp _ _ _ _ => false
  | .Compare _ _ _ _ => false
  | .NamedExpr _ _ _ => false
  | _ => true
theorem isTrue_plainTest {e : Expr} (env : PySem.Env) (h : plainTest e = true) : ∀ whole, isTrue e env whole = (do let v ← whole; standAt e.pos; holding [v] (truthy v)) := by
  intro whole
  cases e with
  | UnaryOp op _ _ => cases op <;> first | rfl | (simp [plainTest] at h)
  | BoolOp _ _ _ => simp [plainTest] at h
  | IfExp _ _ _ _ => simp [plainTest] at h
  | Compare _ _ _ _ => simp [plainTest] at h
  | NamedExpr _ _ _ => simp [plainTest] at h
  | _ => rfl
theorem sT_tr (hX : Good c X) (ha : PE X a (tE c W fa)) (hp : plainTest a = true) : PT X a (tT c W fun env => do let x ← fa env; liftH fun h => truV h x) := by
  refine (pt_truth ha (isTrue_plainTest _ hp)).imp fun σ H Q q => ?_
  obtain ⟨env, h, ml, G, s, o⟩ := q
  refine tE.imp (tE.one (fa := fa) s o) fun x H1 ⟨v, h1, ml1, G1, s1, r1, o1⟩ => ?_
  obtain ⟨t, e, o2⟩ := o1.liftH s1
  exact ⟨t, tru_at hX s1 r1 e, o2⟩

def isStar : Expr → Bool
  | .Starred _ _ => true
  | _ => false
theorem star_of (e : Expr) (es : List Expr) (env : PySem.Env) (h : isStar e = false) : starEach (e :: es) env = (false, eval e env) :: starEach es env := by
  cases e with
  | Starred _ _ => simp [isStar] at h
  | _ => rfl
theorem sA_nil : PA X [] (tA c W fun _ => pure []) := pa_nil.imp fun σ H Q q => by
  obtain ⟨env, h, ml, G, s, o⟩ := q
  exact o.pure s _ .nil
theorem sA_cons (ha : PE X a (tE c W fa)) (hr : PA X es (tA c W ga)) (hs : isStar a = false) : PA X (a :: es) (tA c W fun env => do let x ← fa env; let xs ← ga env; pure (x :: xs)) := by
  refine (pa_cons ha hr (star_of _ _ _ hs)).imp fun σ H Q q => ?_
  obtain ⟨env, h, ml, G, s, o⟩ := q
  refine ⟨env, h, ml, G, s, (Ok.bind o).imp fun v h1 ml1 G1 H1 g1 s1 o1 x r => ⟨env, h1, ml1, G1, s1, (Ok.bind o1).imp fun vs h2 ml2 G2 H2 g2 s2 o2 xs rs => o2.pure s2 _ (.cons (r.mono g2) rs)⟩⟩
theorem few_of {l l' : List Val} (h : few l = some l') : l' = l ∧ l.length ≤ SZ := by
  unfold few at h
  split at h
  · cases h; exact ⟨rfl, by assumption⟩
  · cases h
theorem sE_tup {k : Nat} (ha : PA X es (tA c W ga)) : PE X (.Tuple es k pos) (tE c W fun env => do let l ← ga env; let l ← lift (few l); pure (.tup l)) := by
  refine (pe_tup ha).imp fun σ H Q q => ?_
  obtain ⟨env, h, ml, G, s, o⟩ := q
  refine ⟨env, h, ml, G, s, (Ok.bind o).imp fun l h1 ml1 G1 H1 g1 s1 o1 xs rs => ?_⟩
  obtain ⟨l', e, o2⟩ := (Ok.bind o1).liftG
  obtain ⟨rfl, hl⟩ := few_of e
  refine ⟨by rw [rs.length, sizeSZ]; exact hl, fun p hp => ?_⟩
  exact (o2 ml1 G1 _ (s1.fresh (.tup xs) hp) (s1.laid _ hp)).pure (s1.laid _ hp) _ (.tup (SqT.of upd_same) (rs.mono (s1.fresh _ hp)))
/-- a list display -/
theorem okF_laid {env : MEnv} {h : MHeap} {ml : List Addr} {G : Addr → Prop} {σ : L2.St} {H : Hp} {l : List Val} {xs : List V} {Q : VK} {p : Addr} (s : SR c env h ml G σ H) (o : OkF c W env σ (.ok l h) ml G H Q) (r : RVs c H ml G l xs) (hp : H p = none) : Q (.ref p) (upd H p (.lst xs)) := by
  have np : ∀ b, H b ≠ none → b ≠ p := fun b hb z => hb (by rw [z]; exact hp)
  have g : Grow ml G H ml (fun b => G b ∨ b = p) (upd H p (.lst xs)) := by
    have g0 := s.fresh (.lst xs) hp
    refine ⟨g0.pre, fun b z => .inl z, fun b z => ?_, g0.fr, g0.nn, g0.mg, g0.ls, g0.ln⟩
    rcases z with z | z
    · exact .inl z
    · exact .inr (by rw [z]; exact hp)
  have s' : SR c env h ml (fun b => G b ∨ b = p) σ (upd H p (.lst xs)) := by
    refine s.over g (fun b hb => upd_ne (np b (s.tr b (s.mg b hb)))) (fun b z => ?_) (tabs_upd s.tb fun u z => by rw [hp] at z; cases z)
    by_cases hb : b = p
    · rw [hb, upd_same]; simp
    · rw [upd_ne hb]
      rcases z with z | z
      · exact s.tr b z
      · exact absurd z hb
  exact o ml _ _ p xs g s' hp (.inr rfl) (fun z => np p (s.tr p (s.mg p z)) rfl) upd_same (r.mono g)
theorem okF_exc {env : MEnv} {h : MHeap} {ml : List Addr} {G : Addr → Prop} {σ : L2.St} {H : Hp} {α : Type} {m : M α} {k : α → M (List Val)} {Q : VK} (o : OkF c W env σ ((m >>= k) h) ml G H Q) :
    Ok c W env σ (m h) ml G H fun v h1 ml1 G1 H1 => OkF c W env σ (k v h1) ml1 G1 H1 Q := by
  rw [bind_app] at o
  unfold OkF at o
  unfold Ok OkF
  cases e : m h with
  | bad => rw [e] at o; exact o
  | exc x h1 => rw [e] at o; exact o
  | ok v h1 =>
    rw [e] at o
    simp only at o ⊢
    intro ml1 G1 H1 g1 s1
    cases e2 : k v h1 with
    | bad => rw [e2] at o; exact o
    | exc x h2 =>
      rw [e2] at o
      intro ml2 G2 H2 cls d g2 s2 ex
      exact o ml2 G2 H2 cls d (g1.trans g2) s2 ex
    | ok l h2 =>
      rw [e2] at o
      intro ml2 G2 H2 p xs g2 s2 hn hg hm e3 rs
      refine o ml2 G2 H2 p xs (g1.trans g2) s2 ?_ hg hm e3 rs
      cases q : H p with
      | none => rfl
      | some u =>
        exact absurd hn (g1.nn p (by rw [q]; simp))
theorem OkF.lift {env : MEnv} {h : MHeap} {ml : List Addr} {G : Addr → Prop} {σ : L2.St} {H : Hp} {r : Option (List Val)} {Q : VK} (o : OkF c W env σ (MP.lift r h) ml G H Q) : ∃ l, r = some l ∧ OkF c W env σ (.ok l h) ml G H Q := by
  cases e : r with
  | none => rw [e] at o; exact o.elim
  | some l => rw [e] at o; exact ⟨l, rfl, o⟩
theorem OkF.liftH {env : MEnv} {h : MHeap} {ml : List Addr} {G : Addr → Prop} {σ : L2.St} {H : Hp} {f : MHeap → Option (List Val)} {Q : VK} (o : OkF c W env σ (MP.liftH f h) ml G H Q) : ∃ l, f h = some l ∧ OkF c W env σ (.ok l h) ml G H Q := by
  unfold MP.liftH at o
  cases e : f h with
  | none => rw [e] at o; exact o.elim
  | some l => rw [e] at o; exact ⟨l, rfl, o⟩
theorem sF_disp (ha : PA X es (tA c W ga)) : PE X (.List es pos) (tF c W fun env => do let l ← ga env; lift (few l)) := by
  refine (pe_lst ha).imp fun σ H Q q => ?_
  obtain ⟨env, h, ml, G, s, o⟩ := q
  refine ⟨env, h, ml, G, s, (okF_exc o).imp fun l h1 ml1 G1 H1 g1 s1 o1 xs rs => ?_⟩
  unfold lift at o1
  cases e : few l with
  | none => rw [e] at o1; exact o1.elim
  | some l' =>
    rw [e] at o1
    obtain ⟨rfl, hl⟩ := few_of e
    exact ⟨by rw [rs.length, sizeSZ]; exact hl, fun p hp => okF_laid s1 o1 rs hp⟩
/-- a new list as a value -/
theorem inl_imp {f : MEnv → M (List Val)} {σ : L2.St} {H : Hp} {Q : VK} (q : tE c W (fun env => do let l ← f env; pure (.lst l)) σ H Q) : tF c W f σ H Q := by
  obtain ⟨env, h, ml, G, s, o⟩ := q
  refine ⟨env, h, ml, G, s, ?_⟩
  dsimp only at o
  rw [bind_app] at o
  unfold Ok at o
  unfold OkF
  cases e : f env h with
  | bad => rw [e] at o; exact o
  | exc x h1 => rw [e] at o; exact o
  | ok l h1 =>
    rw [e] at o
    intro ml1 G1 H1 p xs g s1 hn hg hm e1 rs
    have ne : ∀ b ∈ ml1, b ≠ p := fun b hb z => hm (z ▸ hb)
    have gp : ¬ G p := fun z => s.tr p z hn
    have g' : Grow ml G H ml1 (fun b => G1 b ∧ b ≠ p) H1 := ⟨g.pre, fun b z => ⟨g.gm b z, fun z' => gp (z' ▸ z)⟩, fun b z => g.gn b z.1, g.fr, g.nn, g.mg, g.ls, g.ln⟩
    have le : ∀ (d : Val) (x : V), RV c H1 ml1 G1 d x → RV c H1 ml1 (fun b => G1 b ∧ b ≠ p) d x := fun d x r => RV.lessG (fun b z => z.1) d x r
    have s' : SR c env h1 ml1 (fun b => G1 b ∧ b ≠ p) σ H1 := by
      refine ⟨s1.len, s1.nd, fun b hb => ⟨s1.mg b hb, ne b hb⟩, fun b z => s1.tr b z.1, fun n o b e1 e2 => ?_, fun i v e1 => ?_, s1.el, s1.tb⟩
      · have q := s1.obj n o b e1 e2
        cases o with
        | list l2 =>
          obtain ⟨zs, e3, r3⟩ := q
          exact ⟨zs, e3, RVs.lessG (fun b z => z.1) _ _ r3⟩
        | dict _ _ => exact q.elim
      · obtain ⟨x, e2, r⟩ := s1.ev i v e1
        exact ⟨x, e2, le v x r⟩
    exact o ml1 _ H1 g' s' _ (.lst e1 (fun z => z.2 rfl) (RVs.lessG (fun b z => z.1) _ _ rs))
theorem mk_imp {f : MEnv → M (List Val)} {σ : L2.St} {H : Hp} {Q : VK} (q : tE c W (fun env => do let l ← f env; alloc l) σ H Q) : tF c W f σ H Q := by
  obtain ⟨env, h, ml, G, s, o⟩ := q
  refine ⟨env, h, ml, G, s, ?_⟩
  dsimp only at o
  rw [bind_app] at o
  unfold Ok at o
  unfold OkF
  cases e : f env h with
  | bad => rw [e] at o; exact o
  | exc x h1 => rw [e] at o; exact o
  | ok l h1 =>
    rw [e] at o
    intro ml1 G1 H1 p xs g s1 hn hg hm e1 rs
    exact o (ml1 ++ [p]) G1 H1 (g.mkl hn hg hm e1) (s1.mkl hg hm e1 rs) _ (.loc (by rw [← s1.len]; simp))

theorem sE_inl {f : MEnv → M (List Val)} (ha : PE X a (tF c W f)) : PE X a (tE c W fun env => do let l ← f env; pure (.lst l)) := ha.imp fun _ _ _ q => inl_imp q
theorem sE_mk {f : MEnv → M (List Val)} (ha : PE X a (tF c W f)) : PE X a (tE c W fun env => do let l ← f env; alloc l) := ha.imp fun _ _ _ q => mk_imp q

def isSlice : Expr → Bool
  | .Slice _ _ _ _ => true
  | _ => false
theorem plainIx {e : Expr} (h : isSlice e = false) : PlainIx e := by
  intro o i
  cases e with
  | Slice _ _ _ _ => simp [isSlice] at h
  | _ => rfl
theorem atI_rel {H : Hp} {ml : List Addr} {G : Addr → Prop} {l : List Val} {xs : List V} {i : Int} {v : Val} (r : RVs c H ml G l xs) (e : MP.atI l i = some v) : ∃ x, L2.atI xs i = some x ∧ RV c H ml G v x := by
  unfold MP.atI at e
  have el : xs.length = l.length := r.length
  have en : L2.ixN xs.length i = MP.ixN l.length i := by rw [el]; rfl
  unfold L2.atI
  rw [en]
  cases k : MP.ixN l.length i with
  | none => rw [k] at e; cases e
  | some j =>
    rw [k] at e
    obtain ⟨x, e2, r2⟩ := r.get (i := j) e
    exact ⟨x, e2, r2⟩
theorem sE_idx (hX : Good c X) (ha : PE X a (tE c W fa)) (hb : PE X b (tE c W fb)) (hs : isSlice b = false) : PE X (.Subscript a b pos) (tE c W fun env => do let x ← fa env; let y ← fb env; liftH fun h => idxV h x y) := by
  refine (pe_ix ix_seq ha hb (plainIx hs)).imp fun σ H Q q => ?_
  obtain ⟨env, h, ml, G, s, o⟩ := q
  refine tE.imp (tE.two (fa := fa) (fb := fb) s o) fun x H1 q1 => tE.imp q1 fun y H2 ⟨v, w, h2, ml2, G2, s2, r1, r2, o2⟩ => ?_
  obtain ⟨u, e, o3⟩ := o2.liftH s2
  cases w with
  | int i =>
    have e' : (seqV h2 v).bind (MP.atI · i) = some u := e
    cases k : seqV h2 v with
    | none => rw [k] at e'; cases e'
    | some l =>
      rw [k] at e'
      obtain ⟨p, xs, rfl, q, rs⟩ := seq_at s2 r1 k
      rw [← hX.K] at q
      obtain ⟨z, e3, rz⟩ := atI_rel rs e'
      rcases q with q | q
      · exact .inl ⟨p, xs, i, z, rfl, r2.int', q, e3, o3 z rz⟩
      · exact .inr (.inl ⟨p, xs, i, z, rfl, r2.int', q, e3, o3 z rz⟩)
  | _ => cases e
theorem sO_none : PO X none (tO c W fun _ => pure none) := po_none.imp fun σ H Q q => by
  obtain ⟨env, h, ml, G, s, o⟩ := q
  exact o.pure s
theorem sO_some (ha : PE X a (tE c W fa)) : PO X (some a) (tO c W fun env => do let x ← fa env; let i ← lift (intV x); pure (some i)) := by
  refine (po_some ha).imp fun σ H Q q => ?_
  obtain ⟨env, h, ml, G, s, o⟩ := q
  refine tE.imp (tE.one (fa := fa) s o) fun x H1 ⟨v, h1, ml1, G1, s1, r1, o1⟩ => ?_
  obtain ⟨t, e, o2⟩ := Ok.liftB o1 s1
  cases v with
  | int i => cases e; exact ⟨_, r1.int', o2.pure s1⟩
  | _ => cases e
theorem sIx_eq (n d : Nat) (o : Option Int) : HT.sIx n d o = MP.sIx n d o := by
  cases o with
  | none => rfl
  | some i =>
    show (if i < 0 then (i + (n : Int)).toNat else min i.toNat n) = (if 0 ≤ i then min i.toNat n else (i + n).toNat)
    by_cases h : 0 ≤ i
    · rw [if_pos h, if_neg (by omega)]
    · rw [if_neg h, if_pos (by omega)]
theorem cut_rel {H : Hp} {ml : List Addr} {G : Addr → Prop} {l : List Val} {xs : List V} {lo hi : Option Int} (r : RVs c H ml G l xs) : RVs c H ml G (cut l lo hi) (cutV xs lo hi) := by
  have el : xs.length = l.length := r.length
  unfold cutV cut
  rw [sIx_eq, sIx_eq, el]
  exact (r.drop _).take _
theorem cut_whole {l : List Val} {lo hi : Option Int} (h : MP.sIx l.length 0 lo = 0 ∧ MP.sIx l.length l.length hi = l.length) : cut l lo hi = l := by
  unfold cut
  simp only [h.1, h.2]
  simp
theorem sE_slc {lo hi : Option Expr} {p2 : Pos} (hX : Good c X) (ha : PE X a (tE c W fa)) (hl : PO X lo (tO c W oa)) (hh : PO X hi (tO c W ob)) :
    PE X (.Subscript a (.Slice lo hi none p2) pos) (tE c W fun env => do let x ← fa env; let l ← oa env; let r ← ob env; let vs ← lift (tupV x); pure (.tup (cut vs l r))) := by
  refine (pe_slice sl_tupA ha hl hh).imp fun σ H Q q => ?_
  obtain ⟨env, h, ml, G, s, o⟩ := q
  refine ⟨env, h, ml, G, s, (Ok.bind o).imp fun v h1 ml1 G1 H1 g1 s1 o1 x r1 => ⟨env, h1, ml1, G1, s1, (Ok.bind o1).imp fun l h2 ml2 G2 H2 g2 s2 o2 => ⟨env, h2, ml2, G2, s2, (Ok.bind o2).imp fun r h3 ml3 G3 H3 g3 s3 o3 => ?_⟩⟩⟩
  obtain ⟨vs, e, o4⟩ := (Ok.bind o3).liftG
  cases v with
  | tup m =>
    cases e
    obtain ⟨p, xs, rfl, q, rs⟩ := ((r1.mono g2).mono g3).tup'
    rw [← hX.K] at q
    have el : xs.length = vs.length := rs.length
    refine ⟨p, xs, rfl, q, fun hw => ?_, fun _ p' hp => ?_⟩
    · have z := (o4 ml3 G3 H3 s3.refl s3).pure s3
      rw [cut_whole (by rw [← sIx_eq, ← sIx_eq, ← el]; exact hw)] at z
      exact z _ (.tup (hX.K ▸ q) rs)
    · exact (o4 ml3 G3 _ (s3.fresh _ hp) (s3.laid _ hp)).pure (s3.laid _ hp) _ (.tup (SqT.of upd_same) ((cut_rel rs).mono (s3.fresh _ hp)))
  | _ => cases e
theorem sF_slc {lo hi : Option Expr} {p2 : Pos} (hX : Good c X) (ha : PE X a (tE c W fa)) (hl : PO X lo (tO c W oa)) (hh : PO X hi (tO c W ob)) :
    PE X (.Subscript a (.Slice lo hi none p2) pos) (tF c W fun env => do let x ← fa env; let l ← oa env; let r ← ob env; let vs ← liftH fun h => scrV h x; pure (cut vs l r)) := by
  refine (pe_slice sl_list ha hl hh).imp fun σ H Q q => ?_
  obtain ⟨env, h, ml, G, s, o⟩ := q
  refine ⟨env, h, ml, G, s, (okF_exc o).imp fun v h1 ml1 G1 H1 g1 s1 o1 x r1 => ⟨env, h1, ml1, G1, s1, (okF_exc o1).imp fun l h2 ml2 G2 H2 g2 s2 o2 => ⟨env, h2, ml2, G2, s2, (okF_exc o2).imp fun r h3 ml3 G3 H3 g3 s3 o3 => ?_⟩⟩⟩
  obtain ⟨vs, e, o4⟩ := (okF_exc o3).liftHG
  obtain ⟨p, xs, rfl, q, rs⟩ := scr_at s3 ((r1.mono g2).mono g3) e
  rw [← hX.K] at q
  exact ⟨p, xs, rfl, q, fun p' hp => okF_laid s3 (o4 ml3 G3 H3 s3.refl s3) (cut_rel rs) hp⟩
theorem sF_cat (ha : PE X a (tE c W fa)) (hb : PE X b (tE c W fb)) : PE X (.BinOp a .Add b pos) (tF c W fun env => do
    let x ← fa env
    let y ← fb env
    let l ← liftH fun h => lstV h x
    let r ← liftH fun h => lstV h y
    lift (catL l r)) := by
  refine (pe_op op_cat ha hb).imp fun σ H Q q => ?_
  obtain ⟨env, h, ml, G, s, o⟩ := q
  refine ⟨env, h, ml, G, s, (okF_exc o).imp fun v h1 ml1 G1 H1 g1 s1 o1 x r1 => ⟨env, h1, ml1, G1, s1, (okF_exc o1).imp fun w h2 ml2 G2 H2 g2 s2 o2 y r2 => ?_⟩⟩
  obtain ⟨l, e, o3⟩ := (okF_exc o2).liftH s2
  obtain ⟨r, e2, o4⟩ := (okF_exc o3).liftH s2
  obtain ⟨m, hm, o5⟩ := OkF.lift o4
  unfold catL at hm
  split at hm
  · rename_i hz
    cases hm
    obtain ⟨p, xs, rfl, q, rs⟩ := lst_at s2 (r1.mono g2) e
    obtain ⟨p2, ys, rfl, q2, rs2⟩ := lst_at s2 r2 e2
    exact ⟨p, p2, xs, ys, rfl, rfl, q, q2, by rw [rs.length, rs2.length, sizeSZ]; exact hz, fun p' hp => okF_laid s2 o5 (rs.append rs2) hp⟩
  · cases hm
end
end MPS

namespace MPS
open PySem PySem.Spec L2 MP

section
variable {c : C} {W : WX} {X : Cx} {a b d e : Expr} {fa fb fc : MEnv → M Val} {pos p1 p2 : Pos} {es rest : List Expr} {ga gb : MEnv → M (List Val)}
theorem sF_rep (ha : PE X a (tE c W fa)) (hb : PE X b (tE c W fb)) : PE X (.BinOp a .Mult b pos) (tF c W fun env => do
    let x ← fa env
    let y ← fb env
    let l ← liftH fun h => lstV h x
    lift (repV l y)) := by
  refine (pe_op op_rep ha hb).imp fun σ H Q q => ?_
  obtain ⟨env, h, ml, G, s, o⟩ := q
  refine ⟨env, h, ml, G, s, (okF_exc o).imp fun v h1 ml1 G1 H1 g1 s1 o1 x r1 => ⟨env, h1, ml1, G1, s1, (okF_exc o1).imp fun w h2 ml2 G2 H2 g2 s2 o2 y r2 => ?_⟩⟩
  obtain ⟨l, e, o3⟩ := (okF_exc o2).liftH s2
  obtain ⟨m, hm, o5⟩ := OkF.lift o3
  unfold repV at hm
  split at hm
  · split at hm
    · rename_i n hz
      cases hm
      simp only [Bool.and_eq_true, decide_eq_true_eq] at hz
      obtain ⟨p, xs, rfl, q, rs⟩ := lst_at s2 (r1.mono g2) e
      exact ⟨p, n, xs, rfl, r2.int', q, hz.1.1, hz.1.2, by rw [rs.length, sizeSZ]; exact hz.2, fun p' hp => okF_laid s2 o5 rs.flat hp⟩
    · cases hm
  · cases hm
def b1F : B1 → Value
  | .len => .builtin "len" | .int => .type "int" | .bool => .type "bool" | .str => .type "str" | .sum => .builtin "sum" | .any => .builtin "any" | .all => .builtin "all"
  | .tuple => .type "tuple" | .max => .builtin "max" | .min => .builtin "min" | .abs => .builtin "abs"
def b1N : B1 → Str
  | .len => "len" | .int => "int" | .bool => "bool" | .str => "str" | .sum => "sum" | .any => "any" | .all => "all" | .tuple => "tuple" | .max => "max" | .min => "min" | .abs => "abs"
def rB1 (c : C) (W : WX) (k : B1) : List V → Hp → VK → Prop := fun xs H Q => ∃ (env : MEnv) (h : MHeap) (ml : List Addr) (G : Addr → Prop) (σ : L2.St) (v : Val) (x : V), xs = [x] ∧ SR c env h ml G σ H ∧ RV c H ml G v x ∧
  Ok c W env σ (liftH (fun h => b1V h k v) h) ml G H fun u _ ml' G' H' => ∀ z, RV c H' ml' G' u z → Q z H'
theorem max_of {ns : List Int} {m m' : Int} (e : ns.max? = some m') (h : m ∈ ns) (h2 : ∀ y, y ∈ ns → y ≤ m) : m = m' := by
  obtain ⟨h3, h4⟩ := List.max?_eq_some_iff.mp e
  exact Int.le_antisymm (h4 m h) (h2 m' h3)
theorem min_of {ns : List Int} {m m' : Int} (e : ns.min? = some m') (h : m ∈ ns) (h2 : ∀ y, y ∈ ns → m ≤ y) : m = m' := by
  obtain ⟨h3, h4⟩ := List.min?_eq_some_iff.mp e
  exact Int.le_antisymm (h2 m' h3) (h4 m h)
theorem reads_ints {h : PySem.Heap} : ∀ {ns : List Int} {us : List Value}, Vals (ns.map V.int) us → ReadsAll h us (ns.map PyData.int) []
  | [], us, r => by cases r; exact .nil
  | n :: ns, us, r => by
    rw [List.map_cons] at r
    cases r with
    | cons h1 h2 =>
      obtain ⟨t, rfl⟩ := h1
      exact .cons (as := []) (bs := []) (.int n t) (reads_ints h2)
theorem plain_ints : ∀ {ns : List Int}, PyData.plainAll (ns.map PyData.int) = true
  | [] => rfl
  | n :: ns => by simp [PyData.plainAll, PyData.plain, plain_ints]
theorem any_intsD {ns : List Int} : (ns.map PyData.int).any PyData.truthy = ns.any fun i => i != 0 := by
  rw [List.any_map]; rfl
def rAnyI (S : Hp → Addr → List V → Prop) : List V → Hp → VK → Prop := fun xs H Q => ∃ (a : Addr) (ns : List Int), xs = [.ref a] ∧ S H a (ns.map V.int) ∧ Q (.bl (ns.any fun i => i != 0)) H
theorem cr_anyLI (hc : X.calm = true) : CallR X (.builtin "any") (rAnyI (SqL X.K)) := by
  intro pins s σ H vs us Q I r h
  obtain ⟨a, ns, rfl, hs, q⟩ := h
  obtain ⟨its, rv, hl, _⟩ := I.list hs
  rw [Vals.ref1 r]
  refine PySem.W.any_list_data (I.ok.hd hc) hl.isList (by simpa using reads_ints rv) plain_ints (fun x hx => ?_) fun h' tk k => ⟨_, H, I.kept k, ?_, q⟩
  · obtain ⟨n, _, rfl⟩ := List.mem_map.mp hx; exact True.intro
  · rw [any_intsD]; rfl
theorem cr_anyT (hc : X.calm = true) : CallR X (.builtin "any") (rAnyI (SqT X.K)) := by
  intro pins s σ H vs us Q I r h
  obtain ⟨a, ns, rfl, hs, q⟩ := h
  obtain ⟨its, rv, ht, _⟩ := I.tuple hs
  rw [Vals.ref1 r]
  refine PySem.W.any_tuple_data (I.ok.hd hc) ht (by simpa using reads_ints rv) plain_ints (fun x hx => ?_) fun h' tk k => ⟨_, H, I.kept k, ?_, q⟩
  · obtain ⟨n, _, rfl⟩ := List.mem_map.mp hx; exact True.intro
  · rw [any_intsD]; rfl
theorem cr_B1 (hX : Good c X) (k : B1) : CallR X (b1F k) (rB1 c W k) := by
  intro pins s σ H xs us Q I r q
  obtain ⟨env, h, ml, G, σ', v, x, rfl, sr, rv, o⟩ := q
  obtain ⟨u, e, o⟩ := o.liftHG
  have o0 := o ml G H sr.refl sr
  cases k with
  | len =>
    cases k : seqV h v with
    | none => simp [b1V, k] at e
    | some l =>
      simp [b1V, k] at e
      subst e
      obtain ⟨p, ys, rfl, q, rs⟩ := seq_at sr rv k
      rw [← hX.K] at q
      exact call_len_seq pins s σ H _ us Q I r ⟨p, ys, rfl, q, by rw [rs.length]; exact o0 _ .int⟩
  | int =>
    cases v <;> simp [b1V] at e
    · subst e; exact call_int1 pins s σ H _ us Q I r (.inr ⟨_, by rw [rv.bl'], o0 _ .int⟩)
    · subst e; exact call_int1 pins s σ H _ us Q I r (.inl ⟨_, by rw [rv.int'], o0 _ .int⟩)
  | bool =>
    cases v <;> simp [b1V] at e
    subst e; exact call_bool1 pins s σ H _ us Q I r (.inr ⟨_, by rw [rv.bl'], o0 _ .bl⟩)
  | str =>
    cases v <;> simp only [b1V] at e
    all_goals first | (cases e; done) | skip
    split at e
    · rename_i hi
      cases e
      exact call_str_int pins s σ H _ us Q I r ⟨_, by rw [rv.int'], hi, o0 _ .str⟩
    · cases e
  | sum =>
    cases k : (lstV h v).bind intsOf with
    | none => simp [b1V, k] at e
    | some ns =>
      simp [b1V, k] at e
      subst e
      obtain ⟨l, k1, k2⟩ := Option.bind_eq_some_iff.mp k
      obtain ⟨p, ys, rfl, q, rs⟩ := lst_at sr rv k1
      have := ints_at rs k2
      subst this
      exact cr_sum hX.calm pins s σ H _ us Q I r ⟨p, ns, rfl, .inl (.inl q), o0 _ .int⟩
  | any =>
    have tupC : ∀ l, v = .tup l ∨ lstV h v = some l → anyI l = some u → wpAny (model X.prog X.w) X.A (call (b1F .any) us) (EP X pins σ Q) X.xe s := fun l k1 k2 => by
      unfold anyI at k2
      obtain ⟨ns, k3, rfl⟩ := Option.map_eq_some_iff.mp k2
      rcases k1 with rfl | k1
      · obtain ⟨p, ys, rfl, q, rs⟩ := rv.tup'
        have := ints_at rs k3
        subst this
        rw [← hX.K] at q
        exact cr_anyT hX.calm pins s σ H _ us Q I r ⟨p, ns, rfl, q, o0 _ .bl⟩
      · obtain ⟨p, ys, rfl, q, rs⟩ := lst_at sr rv k1
        have := ints_at rs k3
        subst this
        exact cr_anyLI hX.calm pins s σ H _ us Q I r ⟨p, ns, rfl, .inl (.inl q), o0 _ .bl⟩
    have lstC : ∀ l, lstV h v = some l → anyL l = some u → wpAny (model X.prog X.w) X.A (call (b1F .any) us) (EP X pins σ Q) X.xe s := fun l k1 e => by
      unfold anyL at e
      cases k2 : boolsOf l with
      | none =>
        rw [k2] at e
        exact tupC l (.inr k1) e
      | some ns =>
        rw [k2] at e
        cases e
        obtain ⟨p, ys, rfl, q, rs⟩ := lst_at sr rv k1
        have := bools_at rs k2
        subst this
        exact cr_any hX.calm pins s σ H _ us Q I r ⟨p, ns, rfl, .inl (.inl q), o0 _ .bl⟩
    simp only [b1V] at e
    cases v with
    | tup l => exact tupC l (.inl rfl) e
    | _ =>
      simp only [anyV] at e
      obtain ⟨l, k1, k2⟩ := Option.bind_eq_some_iff.mp e
      exact lstC l k1 k2
  | all =>
    cases k : (lstV h v).bind boolsOf with
    | none => simp [b1V, k] at e
    | some ns =>
      simp only [b1V, k] at e
      cases e
      obtain ⟨l, k1, k2⟩ := Option.bind_eq_some_iff.mp k
      obtain ⟨p, ys, rfl, q, rs⟩ := lst_at sr rv k1
      have := bools_at rs k2
      subst this
      exact cr_all hX.calm pins s σ H _ us Q I r ⟨p, ns, rfl, .inl (.inl q), o0 _ .bl⟩
  | tuple =>
    have lst : ∀ {l : List Val}, lstV h v = some l → u = .tup l → wpAny (model X.prog X.w) X.A (call (b1F .tuple) us) (EP X pins σ Q) X.xe s := fun {l} k1 k2 => by
      subst k2
      obtain ⟨p, ys, rfl, q, rs⟩ := lst_at sr rv k1
      exact call_tuple_of pins s σ H _ us Q I r ⟨p, ys, rfl, .inl ⟨.inl (.inl q), fun p' hp => o ml G _ (sr.fresh _ hp) (sr.laid _ hp) _ (.tup (SqT.of upd_same) (rs.mono (sr.fresh _ hp)))⟩⟩
    cases v with
    | tup l =>
      cases e
      obtain ⟨p, ys, rfl, q, rs⟩ := rv.tup'
      rw [← hX.K] at q
      exact call_tuple_of pins s σ H _ us Q I r ⟨p, ys, rfl, .inr ⟨q, o0 _ (.tup (hX.K ▸ q) rs)⟩⟩
    | lst l => exact lst rfl (Option.some.inj e).symm
    | loc n =>
      have e' : (lstV h (.loc n)).map .tup = some u := e
      cases k1 : lstV h (.loc n) with
      | none => rw [k1] at e'; cases e'
      | some l => rw [k1] at e'; exact lst k1 (Option.some.inj e').symm
    | _ => cases e
  | max =>
    cases k : (lstV h v).bind intsOf with
    | none => simp [b1V, k] at e
    | some ns =>
      simp [b1V, k] at e
      obtain ⟨m', e1, rfl⟩ := e
      obtain ⟨l, k1, k2⟩ := Option.bind_eq_some_iff.mp k
      obtain ⟨p, ys, rfl, q, rs⟩ := lst_at sr rv k1
      have := ints_at rs k2
      subst this
      refine cr_max hX.calm pins s σ H _ us Q I r ⟨p, ns, rfl, .inl (.inl q), ?_, fun m hm h2 => by rw [max_of e1 hm h2]; exact o0 _ .int⟩
      cases ns with
      | nil => cases e1
      | cons _ _ => simp
  | min =>
    cases k : (lstV h v).bind intsOf with
    | none => simp [b1V, k] at e
    | some ns =>
      simp [b1V, k] at e
      obtain ⟨m', e1, rfl⟩ := e
      obtain ⟨l, k1, k2⟩ := Option.bind_eq_some_iff.mp k
      obtain ⟨p, ys, rfl, q, rs⟩ := lst_at sr rv k1
      have := ints_at rs k2
      subst this
      refine cr_min hX.calm pins s σ H _ us Q I r ⟨p, ns, rfl, .inl (.inl q), ?_, fun m hm h2 => by rw [min_of e1 hm h2]; exact o0 _ .int⟩
      cases ns with
      | nil => cases e1
      | cons _ _ => simp
  | abs =>
    cases v <;> simp only [b1V] at e
    all_goals first | (cases e; done) | skip
    cases e
    exact call_abs pins s σ H _ us Q I r ⟨_, by rw [rv.int'], o0 _ .int⟩
theorem sA_one (ha : PE X a (tE c W fa)) (hs : isStar a = false) : PA X [a] (fun σ H Q => tE c W fa σ H fun x H1 => Q [x] H1) := (pa_cons ha pa_nil (star_of _ _ _ hs)).imp fun _ _ _ q => q
theorem sE_b1 {k : B1} (hX : Good c X) (hg : Gl X (b1N k)) (hm : X.mg (b1N k) = none) (ha : PE X a (tE c W fa)) (hs : isStar a = false) : PE X (.Call (.Name (b1N k) p1) [a] [] pos) (tE c W fun env => do let x ← fa env; liftH fun h => b1V h k x) := by
  have hv : PE X (.Call (.Name (b1N k) p1) [a] [] pos) (tCB (rB1 c W k) (fun σ H Q => tE c W fa σ H fun x H1 => Q [x] H1)) := by
    have he := star_of a [] X.env hs
    cases k with
    | len => exact pe_callB (cr_B1 hX .len) hg hm rfl (sA_one ha hs) (by decide) (by decide) he rfl
    | int => exact pe_callTy (cr_B1 hX .int) hg hm rfl (sA_one ha hs) (by decide) (by decide) he rfl
    | bool => exact pe_callTy (cr_B1 hX .bool) hg hm rfl (sA_one ha hs) (by decide) (by decide) he rfl
    | str => exact pe_callTy (cr_B1 hX .str) hg hm rfl (sA_one ha hs) (by decide) (by decide) he rfl
    | sum => exact pe_callB (cr_B1 hX .sum) hg hm rfl (sA_one ha hs) (by decide) (by decide) he rfl
    | any => exact pe_callB (cr_B1 hX .any) hg hm rfl (sA_one ha hs) (by decide) (by decide) he rfl
    | all => exact pe_callB (cr_B1 hX .all) hg hm rfl (sA_one ha hs) (by decide) (by decide) he rfl
    | tuple => exact pe_callTy (cr_B1 hX .tuple) hg hm rfl (sA_one ha hs) (by decide) (by decide) he rfl
    | max => exact pe_callB (cr_B1 hX .max) hg hm rfl (sA_one ha hs) (by decide) (by decide) he rfl
    | min => exact pe_callB (cr_B1 hX .min) hg hm rfl (sA_one ha hs) (by decide) (by decide) he rfl
    | abs => exact pe_callB (cr_B1 hX .abs) hg hm rfl (sA_one ha hs) (by decide) (by decide) he rfl
  refine hv.imp fun σ H Q q => ?_
  obtain ⟨env, h, ml, G, s, o⟩ := q
  exact tE.imp (tE.one (fa := fa) s o) fun x H1 ⟨v, h1, ml1, G1, s1, r1, o1⟩ => ⟨env, h1, ml1, G1, σ, v, x, rfl, s1, r1, o1⟩
def b2F : B2 → Value
  | .max => .builtin "max" | .min => .builtin "min" | .divmod => .builtin "divmod"
def b2N : B2 → Str
  | .max => "max" | .min => "min" | .divmod => "divmod"
def rB2 (c : C) (W : WX) (k : B2) : List V → Hp → VK → Prop := fun xs H Q => ∃ (env : MEnv) (h : MHeap) (ml : List Addr) (G : Addr → Prop) (σ : L2.St) (v w : Val) (x y : V), xs = [x, y] ∧ SR c env h ml G σ H ∧ RV c H ml G v x ∧ RV c H ml G w y ∧
  Ok c W env σ (lift (b2V k v w) h) ml G H fun u _ ml' G' H' => ∀ z, RV c H' ml' G' u z → Q z H'
theorem cr_B2 (hX : Good c X) (k : B2) : CallR X (b2F k) (rB2 c W k) := by
  intro pins s σ H xs us Q I r q
  obtain ⟨env, h, ml, G, σ', v, w, x, y, rfl, sr, rv, rw', o⟩ := q
  obtain ⟨u, e, o⟩ := o.liftG
  have o0 := o ml G H sr.refl sr
  unfold b2V at e
  split at e
  · cases e
    exact call_max2 hX.calm pins s σ H _ us Q I r ⟨_, _, by rw [rv.int', rw'.int'], o0 _ .int⟩
  · cases e
    exact call_min2 hX.calm pins s σ H _ us Q I r ⟨_, _, by rw [rv.int', rw'.int'], o0 _ .int⟩
  · split at e
    · rename_i i j hj
      cases e
      simp only [Bool.and_eq_true, decide_eq_true_eq] at hj
      refine call_divmod pins s σ H _ us Q I r ⟨i, j, by rw [rv.int', rw'.int'], hj, fun p hp => o ml G _ (sr.fresh _ hp) (sr.laid _ hp) _ (.tup (SqT.of upd_same) (.cons .int (.cons .int .nil)))⟩
    · cases e
  · cases e
theorem sA_two (ha : PE X a (tE c W fa)) (hb : PE X b (tE c W fb)) (hs : isStar a = false) (hs2 : isStar b = false) : PA X [a, b] (fun σ H Q => tE c W fa σ H fun x H1 => tE c W fb σ H1 fun y H2 => Q [x, y] H2) :=
  (pa_cons ha (pa_cons hb pa_nil (star_of _ _ _ hs2)) (star_of _ _ _ hs)).imp fun _ _ _ q => q
theorem sE_b2 {k : B2} (hX : Good c X) (hg : Gl X (b2N k)) (hm : X.mg (b2N k) = none) (ha : PE X a (tE c W fa)) (hb : PE X b (tE c W fb)) (hs : isStar a = false) (hs2 : isStar b = false) :
    PE X (.Call (.Name (b2N k) p1) [a, b] [] pos) (tE c W fun env => do let x ← fa env; let y ← fb env; lift (b2V k x y)) := by
  have hv : PE X (.Call (.Name (b2N k) p1) [a, b] [] pos) (tCB (rB2 c W k) (fun σ H Q => tE c W fa σ H fun x H1 => tE c W fb σ H1 fun y H2 => Q [x, y] H2)) := by
    have he := star_of a [b] X.env hs
    have h2 : (backTo pos (starEach [b] X.env)).any (·.1) = false := by rw [star_of b [] X.env hs2]; rfl
    cases k with
    | max => exact pe_callB (cr_B2 hX .max) hg hm rfl (sA_two ha hb hs hs2) (by decide) (by decide) he h2
    | min => exact pe_callB (cr_B2 hX .min) hg hm rfl (sA_two ha hb hs hs2) (by decide) (by decide) he h2
    | divmod => exact pe_callB (cr_B2 hX .divmod) hg hm rfl (sA_two ha hb hs hs2) (by decide) (by decide) he h2
  refine hv.imp fun σ H Q q => ?_
  obtain ⟨env, h, ml, G, s, o⟩ := q
  exact tE.imp (tE.two (fa := fa) (fb := fb) s o) fun x H1 q1 => tE.imp q1 fun y H2 ⟨v, w, h2, ml2, G2, s2, r1, r2, o2⟩ => ⟨env, h2, ml2, G2, σ, v, w, x, y, rfl, s2, r1, r2, o2⟩
theorem kit_of' {K : PySem.W.Frag} {t s : String} {r : Bool} (ht : t ∈ ["NoneType", "bool", "int", "str", "tuple", "list", "dict"]) (e : isiT t s = some r) : PySem.W.kitOne K (.type t) (.type s) = some r := by
  refine kit_ty ?_
  simp only [List.mem_cons, List.mem_nil_iff, or_false] at ht
  unfold isiT at e
  split at e
  all_goals first | (cases e; done) | skip
  all_goals
    rcases ht with rfl | rfl | rfl | rfl | rfl | rfl | rfl <;> (cases e; decide +kernel)
theorem ty_at (hX : Good c X) {env : MEnv} {h : MHeap} {ml : List Addr} {G : Addr → Prop} {σ : L2.St} {H : Hp} {v : Val} {x : V} {t : String} (s : SR c env h ml G σ H) (r : RV c H ml G v x) (e : tyOf h v = some t) :
    TyX X.K H x (.type t) ∧ t ∈ ["NoneType", "bool", "int", "str", "tuple", "list", "dict"] := by
  have fl : ∀ {a : Addr} {xs : List V}, FL c.K H G a xs → TyX X.K H (.ref a) (.type "list") := fun {a xs} q => by
    rcases q with ⟨o, q⟩ | ⟨o, its, n, q, q2, _⟩ | ⟨q, _⟩
    · exact .base (.frz q)
    · rw [hX.K]; exact .kList q q2
    · exact .base (.lst q)
  cases v with
  | non => cases e; rw [r.non']; exact ⟨.base .non, by decide⟩
  | bl b => cases e; rw [r.bl']; exact ⟨.base (.bl _), by decide⟩
  | int b => cases e; rw [r.int']; exact ⟨.base (.int _), by decide⟩
  | str b => cases e; rw [r.str']; exact ⟨.base (.str _), by decide⟩
  | tup l =>
    cases e
    obtain ⟨a, xs, rfl, q, _⟩ := r.tup'
    refine ⟨?_, by decide⟩
    rcases q with (q | ⟨o, q⟩) | q
    · exact .base (.tup q)
    · exact .fTuple q
    · obtain ⟨o, its, n, q2, q3, _⟩ := q
      rw [hX.K]; exact .kTuple q2 q3
  | lst l =>
    cases e
    obtain ⟨a, xs, rfl, ⟨q, _⟩, _⟩ := r.lst'
    exact ⟨.base (.lst q), by decide⟩
  | scr l =>
    cases e
    obtain ⟨a, xs, rfl, q, _⟩ := r.scr'
    exact ⟨fl q, by decide⟩
  | dct ks vs =>
    cases e
    obtain ⟨_, _, a, rfl, q, _⟩ := r.dct'
    exact ⟨.base (.dK q), by decide⟩
  | loc n =>
    obtain ⟨a, e2, rfl⟩ := r.loc'
    unfold tyOf at e
    cases k : h[n]? with
    | none => simp only [k] at e; cases e
    | some o =>
      cases o with
      | list l =>
        simp only [k] at e; cases e
        obtain ⟨xs, q, _⟩ := s.at k e2
        exact ⟨.base (.lst q), by decide⟩
      | dict _ _ => exact (s.obj n _ a k e2).elim
  | fn _ => cases e
  | ty _ => cases e
theorem sE_isi {t : String} {x : Str} (hX : Good c X) (hg : Gl X "isinstance") (hm : X.mg "isinstance" = none) (ht : Gl X x) (hmt : X.mg x = none) (hbt : bootBuiltins x = some (.type t)) (hn : x ≠ "__name__") (hd : (x == ("__debug__" : Str)) = false) (ha : PE X a (tE c W fa)) (hs : isStar a = false) :
    PE X (.Call (.Name "isinstance" p1) [a, .Name x p2] [] pos) (tE c W fun env => do let x ← fa env; let s ← liftH fun h => tyOf h x; let b ← lift (isiT s t); pure (.bl b)) := by
  have hb : PE X (.Name x p2) (tC (.ty t)) := pe_bltn ht hmt hbt rfl hn hd
  have hA : PA X [a, .Name x p2] (fun σ H Q => tE c W fa σ H fun x H1 => Q [x, .ty t] H1) := (pa_cons ha (pa_cons hb pa_nil rfl) (star_of _ _ _ hs)).imp fun _ _ _ q => q
  refine (pe_callB call_isi hg hm rfl hA (by decide) (by decide) (star_of _ _ _ hs) rfl).imp fun σ H Q q => ?_
  obtain ⟨env, h, ml, G, s, o⟩ := q
  refine tE.imp (tE.one (fa := fa) s o) fun x H1 ⟨v, h1, ml1, G1, s1, r1, o1⟩ => ?_
  obtain ⟨s2, e, o2⟩ := Ok.liftHB o1 s1
  obtain ⟨b, e2, o3⟩ := Ok.liftB o2 s1
  obtain ⟨k1, k2⟩ := ty_at hX s1 r1 e
  exact ⟨x, .ty t, .type s2, .type t, b, rfl, .ty t, k1, kit_of' k2 e2, o3.pure s1 _ .bl⟩
theorem sE_d0 : PE X (.Dict [] [] pos) (tE c W fun _ => pure (.dct [] [])) := pe_dnewK.imp fun σ H Q q => by
  obtain ⟨env, h, ml, G, s, o⟩ := q
  intro p hp
  have ng : ¬ G p := fun z => s.tr p z hp
  exact (o ml G _ (s.fresh (.dK []) hp) (s.laid _ hp)) _ (by unfold RV; exact ⟨rfl, rfl, p, rfl, upd_same, ng⟩)
end
end MPS

namespace MPS
open PySem PySem.Spec L2 MP

mutual
def tgs : Tg → List Nat
  | .n i => [i]
  | .t l => tgs l
  | .nil => []
  | .cons a r => tgs a ++ tgs r
end
theorem wipe_get (σ : L2.St) : ∀ (own : List Nat) (j : Nat), (L2.wipe σ own)[j]? = if j ∈ own ∧ j < σ.length then some none else σ[j]?
  | [], j => by simp [L2.wipe]
  | i :: own, j => by
    show ((L2.wipe σ own).set i none)[j]? = _
    rw [List.getElem?_set, wipe_get σ own j, L2.wipe_length]
    by_cases hij : i = j
    · subst hij
      by_cases hl : i < σ.length
      · simp [hl]
      · simp [hl]
    · have hji : ¬ j = i := fun e => hij e.symm
      simp [hij, hji]
theorem wipe_set {σ : L2.St} {own : List Nat} {i : Nat} {x : Option V} (h : i ∈ own) : L2.wipe (σ.set i x) own = L2.wipe σ own := by
  apply List.ext_getElem?
  intro j
  rw [wipe_get, wipe_get, List.length_set, List.getElem?_set]
  by_cases hij : i = j
  · subst hij
    by_cases hl : i < σ.length
    · simp [h, hl]
    · simp [hl]
  · simp [hij]
theorem mwipe_get (env : MEnv) : ∀ (own : List Nat) (j : Nat), (MP.wipe own env)[j]? = if j ∈ own ∧ j < env.length then some none else env[j]?
  | [], j => by simp [MP.wipe]
  | i :: own, j => by
    have e : MP.wipe (i :: own) env = (MP.wipe own env).set i none := rfl
    have el : ∀ own : List Nat, (MP.wipe own env).length = env.length := fun own => by
      induction own with
      | nil => rfl
      | cons i r ih =>
        show ((MP.wipe r env).set i none).length = _
        rw [List.length_set]; exact ih
    rw [e, List.getElem?_set, mwipe_get env own j, el]
    by_cases hij : i = j
    · subst hij
      by_cases hl : i < env.length
      · simp [hl]
      · simp [hl]
    · have hji : ¬ j = i := fun e => hij e.symm
      simp [hij, hji]
theorem mwipe_len (env : MEnv) : ∀ own : List Nat, (MP.wipe own env).length = env.length
  | [] => rfl
  | i :: r => by
    show ((MP.wipe r env).set i none).length = _
    rw [List.length_set]; exact mwipe_len env r

section
variable {c : C} {X : Cx} {env : MEnv} {h : MHeap} {ml : List Addr} {G : Addr → Prop} {σ : L2.St} {H : Hp}
theorem SR.slots {env' : MEnv} {σ' : L2.St} (s : SR c env h ml G σ H) (el : env'.length ≤ σ'.length) (ev : ∀ (i : Nat) (v : Val), env'[i]? = some (some v) → ∃ x, σ'[i]? = some (some x) ∧ RV c H ml G v x) : SR c env' h ml G σ' H :=
  ⟨s.len, s.nd, s.mg, s.tr, s.obj, ev, el, s.tb⟩
theorem SR.put {i : Nat} {v : Val} {x : V} (s : SR c env h ml G σ H) (r : RV c H ml G v x) : SR c (env.set i (some v)) h ml G (σ.set i (some x)) H := by
  refine s.slots (by rw [List.length_set, List.length_set]; exact s.el) fun j w e => ?_
  rw [List.getElem?_set] at e ⊢
  by_cases hij : i = j
  · subst hij
    rw [if_pos rfl] at e ⊢
    by_cases hl : i < env.length
    · rw [if_pos hl] at e
      cases e
      rw [if_pos (Nat.lt_of_lt_of_le hl s.el)]
      exact ⟨x, rfl, r⟩
    · rw [if_neg hl] at e; cases e
  · rw [if_neg hij] at e ⊢
    exact s.ev j w e
theorem SR.wiped (own : List Nat) (s : SR c env h ml G σ H) : SR c (MP.wipe own env) h ml G (L2.wipe σ own) H := by
  refine s.slots (by rw [mwipe_len, L2.wipe_length]; exact s.el) fun j w e => ?_
  rw [mwipe_get] at e
  rw [wipe_get]
  by_cases hj : j ∈ own
  · by_cases hl : j < env.length
    · rw [if_pos ⟨hj, hl⟩] at e; cases e
    · rw [if_neg (fun z => hl z.2)] at e
      rw [List.getElem?_eq_none (Nat.le_of_not_lt hl)] at e; cases e
  · rw [if_neg (fun z => hj z.1)] at e ⊢
    exact s.ev j w e
/-- a target's reading -/
def tgR (c : C) (tg : Tg) : TG := fun x σ H Q => ∃ (env : MEnv) (h : MHeap) (ml : List Addr) (G : Addr → Prop) (v : Val) (env' : MEnv), SR c env h ml G σ H ∧ RV c H ml G v x ∧ bindT tg v env = some env' ∧
  ∀ σ', SR c env' h ml G σ' H → (∀ own : List Nat, (∀ i ∈ tgs tg, i ∈ own) → L2.wipe σ' own = L2.wipe σ own) → Q σ' H
def tgsR (c : C) (tg : Tg) : TGs := fun xs σ H Q => ∃ (env : MEnv) (h : MHeap) (ml : List Addr) (G : Addr → Prop) (vs : List Val) (env' : MEnv), SR c env h ml G σ H ∧ RVs c H ml G vs xs ∧ bindTs tg vs env = some env' ∧
  ∀ σ', SR c env' h ml G σ' H → (∀ own : List Nat, (∀ i ∈ tgs tg, i ∈ own) → L2.wipe σ' own = L2.wipe σ own) → Q σ' H
theorem _root_.L2.PG.imp {X : Cx} {e : Expr} {t t' : TG} (h : PG X e t) (k : ∀ v σ H Q, t' v σ H Q → t v σ H Q) : PG X e t' := ⟨fun pins s σ H v u Q I r q => h.run pins s σ H v u Q I r (k v σ H Q q)⟩
theorem _root_.L2.PGs.imp {X : Cx} {e : List Expr} {t t' : TGs} (h : PGs X e t) (k : ∀ v σ H Q, t' v σ H Q → t v σ H Q) : PGs X e t' := ⟨fun pins s σ H v u Q I r q => h.run pins s σ H v u Q I r (k v σ H Q q)⟩
theorem _root_.L2.PG.or {X : Cx} {e : Expr} {t t' : TG} (h : PG X e t) (h' : PG X e t') : PG X e (fun v σ H Q => t v σ H Q ∨ t' v σ H Q) :=
  ⟨fun pins s σ H v u Q I r q => q.elim (h.run pins s σ H v u Q I r) (h'.run pins s σ H v u Q I r)⟩
theorem sG_n {i : Nat} {x : Str} {pos : Pos} (hX : Good c X) (hi : X.N[i]? = some x) (hx : Loc X.env.scope x) (hf : X.fn x = true ∨ X.env.scope.names.lookup x = some .local) : PG X (.Name x pos) (tgR c (.n i)) := by
  refine (pg_name hX.nd hi hx hf).imp fun v σ H Q q => ?_
  obtain ⟨env, h, ml, G, d, env', s, r, e, q⟩ := q
  simp only [bindT, Option.some.injEq] at e
  subst e
  exact q _ (s.put r) fun own ho => wipe_set (ho i (by simp [tgs]))
theorem sGs_nil : PGs X [] (tgsR c .nil) := by
  refine pgs_nil.imp fun xs σ H Q q => ?_
  obtain ⟨env, h, ml, G, vs, env', s, r, e, q⟩ := q
  cases vs with
  | nil =>
    simp only [bindTs, Option.some.injEq] at e
    subst e
    exact ⟨r.inv0, q σ s fun _ _ => rfl⟩
  | cons _ _ => simp [bindTs] at e
theorem asgEach {e : Expr} {es : List Expr} {en : PySem.Env} (h : isStar e = false) : assignEach (e :: es) en = (false, assign e en) :: assignEach es en := by
  cases e with
  | Starred _ _ => simp [isStar] at h
  | _ => rfl
theorem sGs_cons {a r : Tg} {e : Expr} {es : List Expr} (ha : PG X e (tgR c a)) (hr : PGs X es (tgsR c r)) (hs : isStar e = false) : PGs X (e :: es) (tgsR c (.cons a r)) := by
  refine (pgs_cons ha hr (by rw [asgEach hs]; rfl)).imp fun xs σ H Q q => ?_
  obtain ⟨env, h, ml, G, vs, env', s, rv, e, q⟩ := q
  cases vs with
  | nil => simp [bindTs] at e
  | cons v vs =>
    simp only [bindTs] at e
    obtain ⟨env1, e1, e2⟩ := Option.bind_eq_some_iff.mp e
    obtain ⟨x, xr, rfl, r1, r2⟩ := rv.inv
    refine ⟨x, xr, rfl, env, h, ml, G, v, env1, s, r1, e1, fun σ1 s1 w1 => ?_⟩
    refine ⟨env1, h, ml, G, vs, env', s1, r2, e2, fun σ2 s2 w2 => ?_⟩
    refine q σ2 s2 fun own ho => ?_
    rw [w2 own fun i hi => ho i (by simp [tgs, hi]), w1 own fun i hi => ho i (by simp [tgs, hi])]
/-- how many targets -/
def tgN : Tg → Nat
  | .cons _ r => tgN r + 1
  | _ => 0
theorem bindTs_n : ∀ {l : Tg} {vs : List Val} {env env' : MEnv}, bindTs l vs env = some env' → vs.length = tgN l
  | .nil, [], _, _, _ => rfl
  | .nil, _ :: _, _, _, h => by simp [bindTs] at h
  | .cons a r, [], _, _, h => by simp [bindTs] at h
  | .cons a r, v :: vs, env, env', h => by
    simp only [bindTs] at h
    obtain ⟨env1, e1, e2⟩ := Option.bind_eq_some_iff.mp h
    rw [List.length_cons, bindTs_n e2, tgN]
  | .n _, vs, _, _, h => by cases vs <;> simp [bindTs] at h
  | .t _, vs, _, _, h => by cases vs <;> simp [bindTs] at h
theorem sG_t {l : Tg} {es : List Expr} {k : Nat} {pos : Pos} (hX : Good c X) (ha : PGs X es (tgsR c l)) (hn : es.length = tgN l) (hs : es.all (fun e => !isStar e) = true) : PG X (.Tuple es k pos) (tgR c (.t l)) := by
  have hl : ∀ es : List Expr, es.all (fun e => !isStar e) = true → (assignEach es X.env).length = es.length ∧ (assignEach es X.env).findIdx? (·.1) = none := by
    intro es
    induction es with
    | nil => intro _; exact ⟨rfl, rfl⟩
    | cons e es ih =>
      intro h
      simp only [List.all_cons, Bool.and_eq_true, Bool.not_eq_true'] at h
      obtain ⟨i1, i2⟩ := ih (by simpa using h.2)
      rw [asgEach h.1]
      refine ⟨by rw [List.length_cons, List.length_cons, i1], ?_⟩
      simp [List.findIdx?_cons, i2]
  obtain ⟨h1, h2⟩ := hl es hs
  refine ((pg_tup hX.calm ha (h1.trans hn) h2).or (pg_unl hX.calm ha (h1.trans hn) h2)).imp fun x σ H Q q => ?_
  obtain ⟨env, h, ml, G, v, env', s, rv, e, q⟩ := q
  cases v with
  | tup vs =>
    simp only [bindT] at e
    obtain ⟨a, xs, rfl, sq, rs⟩ := rv.tup'
    refine .inl ⟨a, xs, rfl, hX.K ▸ sq, by rw [rs.length, bindTs_n e], env, h, ml, G, vs, env', s, rs, e, q⟩
  | lst vs =>
    simp only [bindT] at e
    obtain ⟨a, xs, rfl, ⟨sq, _⟩, rs⟩ := rv.lst'
    refine .inr ⟨a, xs, rfl, .inl (.inl sq), by rw [rs.length, bindTs_n e], env, h, ml, G, vs, env', s, rs, e, q⟩
  | _ => simp [bindT] at e
end
end MPS

namespace MPS
open PySem PySem.Spec L2 MP

section
variable {X : Cx} {tg : Expr}
def iSeq (K : PySem.W.Frag) (tl : TE) : TI := fun σ H R => tl σ H fun x H1 => ∃ a, x = .ref a ∧ (((∃ xs, SqL K H1 a xs) ∧ R (Itl K a) H1) ∨ ((∃ xs, SqT K H1 a xs) ∧ R (Itt K a) H1))
theorem pi_seq {l : Expr} {tl : TE} (hl : PE X l tl) : PI X tg l (iSeq X.K tl) := by
  refine ⟨fun pins s σ H R I0 q0 => thn (hl.run pins s σ H _ I0 q0) fun v s1 z => ?_⟩
  obtain ⟨x, H1, I1, r1, a, rfl, z⟩ := z
  cases r1
  rcases z with ⟨⟨xs, hq⟩, q⟩ | ⟨⟨xs, hq⟩, q⟩
  · obtain ⟨its, _, pl, _⟩ := I1.list hq
    exact wpAny_pyIter_list pl.isList (pi_one (tk := s1.toks) I1 _ (turn_list a _) ⟨_, Heap.get?_push_size _ rfl, rfl, rfl⟩ q)
  · obtain ⟨its, _, pl, _⟩ := I1.tuple hq
    exact wpAny_pyIter_tuple (show s1.heap.IsTuple a its.toArray from pl) (pi_one (tk := s1.toks) I1 _ (turn_tuple a _) ⟨_, Heap.get?_push_size _ rfl, rfl, rfl⟩ q)
end

/-- the iterator J gives these items, as long as what is walked stays -/
def Sv (c : C) (J : It) (its : Items) (h : MHeap) (ml : List Addr) (G : Addr → Prop) (H : Hp) : Prop :=
  ∀ (i : Nat) (env : MEnv) (σ : L2.St) (h2 : MHeap) (ml2 : List Addr) (G2 : Addr → Prop) (H2 : Hp), Grow ml G H ml2 G2 H2 → SR c env h2 ml2 G2 σ H2 → stays its.lock h h2 = true →
    (its.l.length ≤ i → J.stop i H2) ∧ ∀ v, its.l[i]? = some v → J.go i H2 ∧ ∀ x H3, J.yld i H2 x H3 → Grow ml2 G2 H2 ml2 G2 H3 ∧ (∀ b ∈ ml2, H3 b = H2 b) ∧ (∀ b, G2 b → H3 b = H2 b) ∧ RV c H3 ml2 G2 v x ∧ LamX.Tabs c.tt H3
def tI (c : C) (W : WX) (f : MEnv → M Items) : TI := fun σ H R => ∃ env h ml G, SR c env h ml G σ H ∧ Ok c W env σ (f env h) ml G H fun its h' ml' G' H' => SR c env h' ml' G' σ H' → ∀ J, Sv c J its h' ml' G' H' → R J H'
section
variable {c : C} {W : WX} {X : Cx} {tg a b d : Expr} {fa fb fc : MEnv → M Val} {pos p1 : Pos}
theorem sv_rngC {lo k : Int} {n : Nat} {h : MHeap} {ml : List Addr} {G : Addr → Prop} {H : Hp} {env0 : MEnv} {σ0 : L2.St} (s0 : SR c env0 h ml G σ0 H) : Sv c (Itc lo k n) ⟨rngItems lo k n, []⟩ h ml G H := by
  intro i env σ h2 ml2 G2 H2 g s _
  refine ⟨fun hi => (show n ≤ i by simpa [rngItems] using hi), fun v e => ?_⟩
  have hi : i < n := by
    have := (List.getElem?_eq_some_iff.mp e).1
    simpa [rngItems] using this
  have ev : v = .int (lo + (i : Int) * k) := by
    simp [rngItems, List.getElem?_map, List.getElem?_range hi] at e
    exact e.symm
  refine ⟨hi, fun x H3 y => ?_⟩
  obtain ⟨rfl, rfl⟩ := y
  subst ev
  exact ⟨s.refl, fun _ _ => rfl, fun _ _ => rfl, .int, s.tb⟩
theorem sv_rng1 {lo : Int} {n : Nat} {h : MHeap} {ml : List Addr} {G : Addr → Prop} {H : Hp} : Sv c (Itr lo n) ⟨rngItems lo 1 n, []⟩ h ml G H := by
  intro i env σ h2 ml2 G2 H2 g s _
  refine ⟨fun hi => (show n ≤ i by simpa [rngItems] using hi), fun v e => ?_⟩
  have hi : i < n := by
    have := (List.getElem?_eq_some_iff.mp e).1
    simpa [rngItems] using this
  have ev : v = .int (lo + (i : Int)) := by
    simp [rngItems, List.getElem?_map, List.getElem?_range hi] at e
    exact e.symm
  refine ⟨hi, fun x H3 y => ?_⟩
  obtain ⟨rfl, rfl⟩ := y
  subst ev
  exact ⟨s.refl, fun _ _ => rfl, fun _ _ => rfl, .int, s.tb⟩
theorem stay_at {n : Nat} {ns : List Nat} {h h2 : MHeap} (e : stays ns h h2 = true) (m : n ∈ ns) : h2[n]? = h[n]? := by
  have := List.all_eq_true.mp e n m
  exact of_decide_eq_true this
theorem seq_stay {v : Val} {ns : List Nat} {h h2 : MHeap} (e : stays ns h h2 = true) (m : ∀ n ∈ locksOf v, n ∈ ns) : seqV h2 v = seqV h v := by
  cases v with
  | loc n =>
    have := stay_at e (m n (by simp [locksOf]))
    simp only [seqV, this]
  | _ => rfl
theorem scr_stay {v : Val} {ns : List Nat} {h h2 : MHeap} (e : stays ns h h2 = true) (m : ∀ n ∈ locksOf v, n ∈ ns) : scrV h2 v = scrV h v := by
  cases v with
  | loc n =>
    have := stay_at e (m n (by simp [locksOf]))
    simp only [scrV, lstV, this]
  | _ => rfl
theorem sI_rng1 (hg : Gl X "range") (hm : X.mg "range" = none) (ha : PE X a (tE c W fa)) (hs : isStar a = false) : PI X tg (.Call (.Name "range" p1) [a] [] pos) (tI c W fun env => do let x ← fa env; lift (rngI1 x)) := by
  refine (pi_range1 hg hm (sA_one ha hs) (star_of a [] X.env hs)).imp fun σ H R q => ?_
  obtain ⟨env, h, ml, G, s, o⟩ := q
  refine tE.imp (tE.one (fa := fa) s o) fun x H1 ⟨v, h1, ml1, G1, s1, r1, o1⟩ => ?_
  obtain ⟨its, e, q⟩ := o1.lift s1
  unfold rngI1 at e
  split at e
  · rename_i n
    split at e
    · rename_i hr
      cases e
      simp only [inR, Bool.and_eq_true, decide_eq_true_eq] at hr
      exact ⟨n, by rw [r1.int'], hr.1, hr.2, q s1 _ sv_rng1⟩
    · cases e
  · cases e
theorem sI_rng2 (hg : Gl X "range") (hm : X.mg "range" = none) (ha : PE X a (tE c W fa)) (hb : PE X b (tE c W fb)) (hs : isStar a = false) (hs2 : isStar b = false) :
    PI X tg (.Call (.Name "range" p1) [a, b] [] pos) (tI c W fun env => do let x ← fa env; let y ← fb env; lift (rngI2 x y)) := by
  refine (pi_range2 hg hm (sA_two ha hb hs hs2) (by rw [star_of a [b] X.env hs, star_of b [] X.env hs2]; rfl) (star_of b [] X.env hs2)).imp fun σ H R q => ?_
  obtain ⟨env, h, ml, G, s, o⟩ := q
  refine tE.imp (tE.two (fa := fa) (fb := fb) s o) fun x H1 q1 => tE.imp q1 fun y H2 ⟨v, w, h2, ml2, G2, s2, r1, r2, o2⟩ => ?_
  obtain ⟨its, e, q⟩ := o2.lift s2
  unfold rngI2 at e
  split at e
  · rename_i i j
    split at e
    · rename_i hr
      cases e
      simp only [inR, Bool.and_eq_true, decide_eq_true_eq] at hr
      exact ⟨i, j, by rw [r1.int', r2.int'], ⟨hr.1.1, hr.1.2, hr.2.1, hr.2.2⟩, q s2 _ sv_rng1⟩
    · cases e
  · cases e
theorem sA_three (ha : PE X a (tE c W fa)) (hb : PE X b (tE c W fb)) (hd : PE X d (tE c W fc)) (hs : isStar a = false) (hs2 : isStar b = false) (hs3 : isStar d = false) :
    PA X [a, b, d] (fun σ H Q => tE c W fa σ H fun x H1 => tE c W fb σ H1 fun y H2 => tE c W fc σ H2 fun z H3 => Q [x, y, z] H3) :=
  (pa_cons ha (pa_cons hb (pa_cons hd pa_nil (star_of _ _ _ hs3)) (star_of _ _ _ hs2)) (star_of _ _ _ hs)).imp fun _ _ _ q => q
theorem rgC_of {i j k : Int} (h1 : -(2 ^ 62) ≤ i) (h2 : i < 2 ^ 62) (h3 : -(2 ^ 62) ≤ j) (h4 : j < 2 ^ 62) (h5 : k < 1073741824) (h6 : 0 < k) : RgC i j k (rngN i j k) := by
  have e : Builtin.Range.rangeSize i j k = (rngN i j k : Int) := by
    unfold Builtin.Range.rangeSize rngN
    rw [if_pos h6]
    by_cases h : i < j
    · rw [if_pos h, if_pos h]
      have : 0 ≤ (j - i - 1) / k := Int.ediv_nonneg (by omega) (by omega)
      omega
    · rw [if_neg h, if_neg h]; rfl
  have e2 : Builtin.Range.rangeSize i j k ≤ 2 ^ 63 - 1 ∧ 0 ≤ Builtin.Range.rangeSize i j k := by
    rw [e]
    unfold rngN
    by_cases h : i < j
    · rw [if_pos h]
      have h0 : 0 ≤ (j - i - 1) / k := Int.ediv_nonneg (by omega) (by omega)
      have h1 : (j - i - 1) / k ≤ j - i - 1 := Int.ediv_le_self _ (by omega)
      omega
    · rw [if_neg h]; decide
  refine ⟨by omega, by omega, ?_, e⟩
  unfold Builtin.Range.small
  rw [if_pos h6]
  simp only [Builtin.Range.rangeFitsLong, Bool.and_eq_true, Bool.or_eq_true, decide_eq_true_eq, beq_iff_eq]
  omega
theorem sI_rng3 (hg : Gl X "range") (hm : X.mg "range" = none) (ha : PE X a (tE c W fa)) (hb : PE X b (tE c W fb)) (hd : PE X d (tE c W fc)) (hs : isStar a = false) (hs2 : isStar b = false) (hs3 : isStar d = false) :
    PI X tg (.Call (.Name "range" p1) [a, b, d] [] pos) (tI c W fun env => do let x ← fa env; let y ← fb env; let z ← fc env; lift (rngI3 x y z)) := by
  refine (pi_range3 hg hm (sA_three ha hb hd hs hs2 hs3) (star_of a [b, d] X.env hs) (by rw [star_of b [d] X.env hs2, star_of d [] X.env hs3]; rfl)).imp fun σ H R q => ?_
  obtain ⟨env, h, ml, G, s, o⟩ := q
  refine tE.imp (tE.three (fa := fa) (fb := fb) (fc := fc) s o) fun x H1 q1 => tE.imp q1 fun y H2 q2 => tE.imp q2 fun z H3 ⟨v, w, u, h3, ml3, G3, s3, r1, r2, r3, o3⟩ => ?_
  obtain ⟨its, e, q⟩ := o3.lift s3
  unfold rngI3 at e
  split at e
  · rename_i i j k
    split at e
    · rename_i hr
      cases e
      simp only [inR, Bool.and_eq_true, decide_eq_true_eq] at hr
      exact ⟨i, j, k, _, by rw [r1.int', r2.int', r3.int'], rgC_of hr.1.1.1.1 hr.1.1.1.2 hr.1.1.2.1 hr.1.1.2.2 hr.1.2 hr.2, q s3 _ (sv_rngC s3)⟩
    · cases e
  · cases e
theorem seq_two {h : MHeap} {v : Val} {l : List Val} (e : seqV h v = some l) : v = .tup l ∨ scrV h v = some l := by
  cases v with
  | tup m => exact .inl (congrArg Val.tup (Option.some.inj e))
  | lst m => exact .inr e
  | scr m => exact .inr e
  | loc n => exact .inr e
  | _ => cases e
theorem sv_scr (hX : Good c X) {v : Val} {p : Addr} {h : MHeap} {ml : List Addr} {G : Addr → Prop} {H : Hp} {l : List Val} {lock : List Nat} (r : RV c H ml G v (.ref p)) (e : scrV h v = some l) (hl : ∀ n ∈ locksOf v, n ∈ lock)
    {h2 : MHeap} {env2 : MEnv} {σ2 : L2.St} {ml2 : List Addr} {G2 : Addr → Prop} {H2 : Hp} (g : Grow ml G H ml2 G2 H2) (s2 : SR c env2 h2 ml2 G2 σ2 H2) (st : stays lock h h2 = true) : ∃ ys, SqL X.K H2 p ys ∧ RVs c H2 ml2 G2 l ys := by
  have e2 : scrV h2 v = some l := by rw [scr_stay st hl]; exact e
  obtain ⟨p2, ys, ep, sq2, rs2⟩ := scr_at s2 (r.mono g) e2
  cases ep
  rw [← hX.K] at sq2
  exact ⟨ys, sq2, rs2⟩
theorem sv_tup (hX : Good c X) {p : Addr} {ml : List Addr} {G : Addr → Prop} {H : Hp} {l : List Val} (r : RV c H ml G (.tup l) (.ref p))
    {ml2 : List Addr} {G2 : Addr → Prop} {H2 : Hp} (g : Grow ml G H ml2 G2 H2) : ∃ ys, SqT X.K H2 p ys ∧ RVs c H2 ml2 G2 l ys := by
  obtain ⟨p2, ys, ep, sq2, rs2⟩ := (r.mono g).tup'
  cases ep
  rw [← hX.K] at sq2
  exact ⟨ys, sq2, rs2⟩
theorem sI_seq (hX : Good c X) (ha : PE X a (tE c W fa)) : PI X tg a (tI c W fun env => do let x ← fa env; let l ← liftH fun h => seqV h x; pure ⟨l, locksOf x⟩) := by
  refine (pi_seq ha).imp fun σ H R q => ?_
  obtain ⟨env, h, ml, G, s, o⟩ := q
  refine tE.imp (tE.one (fa := fa) s o) fun x H1 ⟨v, h1, ml1, G1, s1, r1, o1⟩ => ?_
  obtain ⟨l, e, o2⟩ := Ok.liftHB o1 s1
  have q := o2.pure s1 s1
  rcases seq_two e with rfl | e
  · obtain ⟨p, xs, rfl, sq, rs⟩ := r1.tup'
    refine ⟨p, rfl, .inr ⟨⟨xs, hX.K ▸ sq⟩, q _ fun i env2 σ2 h2 ml2 G2 H2 g s2 st => ?_⟩⟩
    obtain ⟨ys, sq2, rs2⟩ := sv_tup hX r1 g
    refine ⟨fun hi => ⟨ys, sq2, by rw [rs2.length]; exact hi⟩, fun u eu => ?_⟩
    obtain ⟨y, ey, ry⟩ := rs2.get eu
    refine ⟨⟨ys, y, sq2, ey⟩, fun x H3 yl => ?_⟩
    obtain ⟨rfl, yl⟩ := yl
    have := yl ys sq2
    rw [ey] at this
    cases this
    exact ⟨s2.refl, fun _ _ => rfl, fun _ _ => rfl, ry, s2.tb⟩
  · obtain ⟨p, xs, rfl, sq, rs⟩ := scr_at s1 r1 e
    refine ⟨p, rfl, .inl ⟨⟨xs, hX.K ▸ sq⟩, q _ fun i env2 σ2 h2 ml2 G2 H2 g s2 st => ?_⟩⟩
    obtain ⟨ys, sq2, rs2⟩ := sv_scr hX r1 e (fun _ z => z) g s2 st
    refine ⟨fun hi => ⟨ys, sq2, by rw [rs2.length]; exact hi⟩, fun u eu => ?_⟩
    obtain ⟨y, ey, ry⟩ := rs2.get eu
    refine ⟨⟨ys, y, sq2, ey⟩, fun x H3 yl => ?_⟩
    obtain ⟨rfl, yl⟩ := yl
    have := yl ys sq2
    rw [ey] at this
    cases this
    exact ⟨s2.refl, fun _ _ => rfl, fun _ _ => rfl, ry, s2.tb⟩
/-- a pair just laid -/
theorem pair_laid {env : MEnv} {h : MHeap} {ml : List Addr} {G : Addr → Prop} {σ : L2.St} {H : Hp} {T : Addr} {v w : Val} {x y : V} (s : SR c env h ml G σ H) (hT : H T = none) (r1 : RV c H ml G v x) (r2 : RV c H ml G w y) :
    Grow ml G H ml G (upd H T (.tup [x, y])) ∧ (∀ b ∈ ml, upd H T (.tup [x, y]) b = H b) ∧ (∀ b, G b → upd H T (.tup [x, y]) b = H b) ∧ RV c (upd H T (.tup [x, y])) ml G (.tup [v, w]) (.ref T) ∧ LamX.Tabs c.tt (upd H T (.tup [x, y])) := by
  have g := s.fresh (.tup [x, y]) hT
  have ne : ∀ b, G b → upd H T (.tup [x, y]) b = H b := fun b hb => upd_ne fun z => s.tr b hb (by rw [z]; exact hT)
  exact ⟨g, fun b hb => ne b (s.mg b hb), ne, .tup (SqT.of upd_same) (.cons (r1.mono g) (.cons (r2.mono g) .nil)), tabs_upd s.tb fun u z => by rw [hT] at z; cases z⟩
theorem enumItems_get : ∀ (l : List Val) (n i : Nat), (enumItems n l)[i]? = (l[i]?).map fun v => Val.tup [.int ((n + i : Nat) : Int), v]
  | [], n, i => by simp [enumItems]
  | v :: l, n, 0 => by simp [enumItems]
  | v :: l, n, i + 1 => by
    simp only [enumItems, List.getElem?_cons_succ]
    rw [enumItems_get l (n + 1) i]
    have : n + 1 + i = n + (i + 1) := by omega
    rw [this]
theorem enumItems_len : ∀ (l : List Val) (n : Nat), (enumItems n l).length = l.length
  | [], n => rfl
  | v :: l, n => by simp [enumItems, enumItems_len l (n + 1)]
theorem zipItems_get : ∀ (l m : List Val) (i : Nat), (zipItems l m)[i]? = (l[i]?).bind fun v => (m[i]?).map fun w => Val.tup [v, w]
  | [], _, i => by simp [zipItems]
  | v :: l, [], i => by cases h : (v :: l)[i]? <;> simp [zipItems]
  | v :: l, w :: m, 0 => by simp [zipItems]
  | v :: l, w :: m, i + 1 => by
    simp only [zipItems, List.getElem?_cons_succ]
    exact zipItems_get l m i
theorem zipItems_len : ∀ (l m : List Val), (zipItems l m).length = min l.length m.length
  | [], _ => by simp [zipItems]
  | v :: l, [] => by simp [zipItems]
  | v :: l, w :: m => by simp [zipItems, zipItems_len l m]
theorem sI_zip {elts : List Expr} {kk : Nat} {tpos : Pos} (hX : Good c X) (hg : Gl X "zip") (hm : X.mg "zip" = none) (ha : PE X a (tE c W fa)) (hb : PE X b (tE c W fb)) (hs : isStar a = false) (hs2 : isStar b = false) :
    PI X (.Tuple elts kk tpos) (.Call (.Name "zip" p1) [a, b] [] pos) (tI c W fun env => do
      let x ← fa env
      let y ← fb env
      let p ← liftH fun h => pairL h x y
      pure ⟨zipItems p.1 p.2, locksOf x ++ locksOf y⟩) := by
  refine (RZ.pi_zipA hg hm (sA_two ha hb hs hs2) (star_of a [b] X.env hs) (by rw [star_of b [] X.env hs2]; rfl)).imp fun σ H R q => ?_
  obtain ⟨env, h, ml, G, s, o⟩ := q
  refine tE.imp (tE.two (fa := fa) (fb := fb) s o) fun x H1 q1 => tE.imp q1 fun y H2 ⟨v, w, h2, ml2, G2, s2, r1, r2, o2⟩ => ?_
  obtain ⟨l, e, o3⟩ := Ok.liftHB o2 s2
  have q := o3.pure s2 s2
  have fin : ∀ {i : Nat} {u : Val}, (zipItems l.1 l.2)[i]? = some u → ∃ v w, l.1[i]? = some v ∧ l.2[i]? = some w ∧ u = .tup [v, w] := fun {i u} eu => by
    rw [zipItems_get] at eu
    obtain ⟨v, ev, eu⟩ := Option.bind_eq_some_iff.mp eu
    obtain ⟨w, ew, rfl⟩ := Option.map_eq_some_iff.mp eu
    exact ⟨v, w, ev, ew, rfl⟩
  by_cases ht : ∃ l1 l2, v = .tup l1 ∧ w = .tup l2
  · obtain ⟨l1, l2, rfl, rfl⟩ := ht
    cases e
    obtain ⟨p, xs, rfl, sq, rs⟩ := r1.tup'
    obtain ⟨p', ys, rfl, sq', rs'⟩ := r2.tup'
    refine ⟨p, p', xs, ys, rfl, .inr ⟨hX.K ▸ sq, hX.K ▸ sq', q _ fun i env2 σ2 h3 ml3 G3 H3 g s3 st => ?_⟩⟩
    obtain ⟨xs2, sqa, rsa⟩ := sv_tup hX r1 g
    obtain ⟨ys2, sqb, rsb⟩ := sv_tup hX r2 g
    refine ⟨fun hi => ⟨xs2, ys2, sqa, sqb, ?_⟩, fun u eu => ?_⟩
    · have hi : (zipItems l1 l2).length ≤ i := hi
      rw [zipItems_len] at hi
      rw [rsa.length, rsb.length]; omega
    · obtain ⟨v, w, ev, ew, rfl⟩ := fin eu
      obtain ⟨x, ex, rx⟩ := rsa.get ev
      obtain ⟨y, ey, ry⟩ := rsb.get ew
      refine ⟨⟨xs2, ys2, x, y, sqa, sqb, ex, ey⟩, fun z H4 yl => ?_⟩
      obtain ⟨T, x', y', rfl, hT, rfl, yl, yl2⟩ := yl
      have := yl xs2 sqa
      rw [ex] at this
      cases this
      have := yl2 ys2 sqb
      rw [ey] at this
      cases this
      exact pair_laid s3 hT rx ry
  · have e' : ∃ l1 l2, scrV h2 v = some l1 ∧ scrV h2 w = some l2 ∧ l = (l1, l2) := by
      unfold pairL at e
      split at e
      · rename_i a b
        exact absurd ⟨a, b, rfl, rfl⟩ ht
      · split at e
        · rename_i k1 k2
          cases e
          exact ⟨_, _, k1, k2, rfl⟩
        · cases e
    obtain ⟨l1, l2, k1, k2, rfl⟩ := e'
    obtain ⟨p, xs, rfl, sq, rs⟩ := scr_at s2 r1 k1
    obtain ⟨p', ys, rfl, sq', rs'⟩ := scr_at s2 r2 k2
    refine ⟨p, p', xs, ys, rfl, .inl ⟨hX.K ▸ sq, hX.K ▸ sq', q _ fun i env2 σ2 h3 ml3 G3 H3 g s3 st => ?_⟩⟩
    obtain ⟨xs2, sqa, rsa⟩ := sv_scr hX r1 k1 (fun _ z => List.mem_append_left _ z) g s3 st
    obtain ⟨ys2, sqb, rsb⟩ := sv_scr hX r2 k2 (fun _ z => List.mem_append_right _ z) g s3 st
    refine ⟨fun hi => ⟨xs2, ys2, sqa, sqb, ?_⟩, fun u eu => ?_⟩
    · have hi : (zipItems l1 l2).length ≤ i := hi
      rw [zipItems_len] at hi
      rw [rsa.length, rsb.length]; omega
    · obtain ⟨v, w, ev, ew, rfl⟩ := fin eu
      obtain ⟨x, ex, rx⟩ := rsa.get ev
      obtain ⟨y, ey, ry⟩ := rsb.get ew
      refine ⟨⟨xs2, ys2, x, y, sqa, sqb, ex, ey⟩, fun z H4 yl => ?_⟩
      obtain ⟨T, x', y', rfl, hT, rfl, yl, yl2⟩ := yl
      have := yl xs2 sqa
      rw [ex] at this
      cases this
      have := yl2 ys2 sqb
      rw [ey] at this
      cases this
      exact pair_laid s3 hT rx ry
end
end MPS

namespace MPS
open PySem PySem.Spec L2 MP PyProof.Rows
abbrev enumO (it : Addr) : Obj := { cls := .type "enumerate", data := .fields #[.none, .bool false, .ref it, rawInt 0, .none, .none] }
theorem enum_new {v : Value} {o : Obj} {Z : PySem.Heap → Prop} (B : Begins v o Z) :
    Meets (Builtin.«enumerate.__new__» ⟨[.type "enumerate", v], []⟩) (fun _ R s => Z s.heap ∧ R (.ok (.ret (.ref (s.heap.push o).objs.size))) { s with heap := (s.heap.push o).push (enumO s.heap.objs.size) }) :=
  .of_wp fun prog w A R s h => by
    obtain ⟨hp, g, d, tk, os⟩ := s
    obtain ⟨hz, h⟩ := h
    have k1 := sub_enumerate
    have k2 : ∀ {A' : Around} {E : Value → Shared → Prop} {Q : Value → Shared → Prop}, Q (.ref hp.objs.size) ⟨hp.push o, g, d, tk, os⟩ → wpAny (model prog w) A' (pyIter v) Q E ⟨hp, g, d, tk, os⟩ := fun q => B.iter prog w _ _ ⟨hp, g, d, tk, os⟩ _ hz q
    wp_walk using k2
    refine wpAny_stack_any fun st => wpAny_pure ?_
    split
    · rename_i cc _ _ _ _ _
      cases (cc == Value.type "enumerate") <;> (wp_walk using k2) <;> exact ⟨_, rfl, h⟩
    · wp_walk using k2
      exact ⟨_, rfl, h⟩
section
variable {prog : Program} {w : World} {A : Around} {E : Value → Shared → Prop} {s : Shared}
theorem call_enum {v : Value} {o : Obj} {Z : PySem.Heap → Prop} {Q : Value → Shared → Prop} (B : Begins v o Z) (hz : Z s.heap)
    (q : ∀ h', IsEnum h' (s.heap.objs.size + 1) s.heap.objs.size 0 .none → h'.get? s.heap.objs.size = some o → (∀ b ob, s.heap.get? b = some ob → h'.get? b = some ob) → Q (.ref (s.heap.objs.size + 1)) { s with heap := h' }) : wpAny (model prog w) A (call (.type "enumerate") [v]) Q E s := by
  refine callType_new F.called_enumerate (by decide) (F.typeCall_enumerate_1 _) (F.newCall_enumerate_1 _) (fun obj => F.args_object_init_2 obj _) F.entry_enumerate_new (enum_new B) ⟨hz, ?_⟩
  have e1 : (s.heap.push o).objs.size = s.heap.objs.size + 1 := Heap.size_push ..
  show _ ∧ _
  rw [e1]
  have he : IsEnum ((s.heap.push o).push (enumO s.heap.objs.size)) (s.heap.objs.size + 1) s.heap.objs.size 0 .none := by
    have := Heap.get?_push_size (s.heap.push o) (o := enumO s.heap.objs.size) rfl
    rw [e1] at this
    exact this
  exact ⟨⟨_, he, rfl⟩, q _ he (Heap.get?_push_of_some _ (Heap.get?_push_size _ B.free)) fun b ob z => Heap.get?_push_of_some _ (Heap.get?_push_of_some _ z)⟩
end
/-- the tuple at a, each item in a new pair -/
def ItE (K : PySem.W.Frag) (a : Addr) (n : Nat) : It :=
  ⟨fun i H => i < n ∧ ∃ (xs : List V) (x : V), SqT K H a xs ∧ xs[i]? = some x, fun i H v H' => ∃ T x, v = .ref T ∧ H T = none ∧ H' = upd H T (.tup [.int (i : Nat), x]) ∧ ∀ xs, SqT K H a xs → xs[i]? = some x, fun i H => n ≤ i ∧ ∃ xs : List V, SqT K H a xs ∧ xs.length = n⟩
theorem turn_enumT {P : Program} {w : World} {K : PySem.W.Frag} {elts : List Expr} {kk : Nat} {tpos : Pos} (a e it : Addr) (n : Nat) :
    Turn P w K (.Tuple elts kk tpos) (ItE K a n) [e, it] e (fun i h => i ≤ n ∧ (∃ old, IsEnum h e it ((i : Nat) : Int) old) ∧ h.IsTupleIter it a i ∧ e ≠ it) where
  mem := by simp
  obj := fun i h st b hb => by
    obtain ⟨_, ⟨old, he⟩, ⟨o, ho, hc, hd⟩, _⟩ := st
    rcases (show b = e ∨ b = it by simpa using hb) with rfl | rfl
    · exact ⟨_, he, fun v q => nomatch q⟩
    · exact ⟨o, ho, fun v q => by rw [hd] at q; cases q⟩
  keep := fun i h h' st k => by
    obtain ⟨hn, ⟨old, he⟩, hi, hne⟩ := st
    exact ⟨hn, ⟨old, k e (by simp) _ he⟩, hi.at fun o q => k it (by simp) o q, hne⟩
  item := by
    intro X hP hw hK hc i pins s σ H E I hf st hg
    subst hP hw hK
    obtain ⟨_, ⟨old, he⟩, hit, hne⟩ := st
    obtain ⟨hin, xs, x, hq, hx⟩ := hg
    obtain ⟨its, rv, p, hz⟩ := I.tuple hq
    obtain ⟨u, hu, ru⟩ := rv.get hx
    have hel : e < s.heap.objs.size := Heap.lt_size he
    have hil : it < s.heap.objs.size := by obtain ⟨_, q, _⟩ := hit; exact Heap.lt_size q
    have hi : i < its.toArray.size := by
      have := (List.getElem?_eq_some_iff.mp hu).1
      simpa using this
    have ae : a ≠ e := fun z => by
      obtain ⟨o, ho, hc, _⟩ := p
      rw [z, he] at ho
      cases ho
      exact absurd (Value.type.inj hc) (by decide)
    have ai : a ≠ it := fun z => by
      obtain ⟨o, ho, hc, _⟩ := p
      obtain ⟨o2, ho2, hc2, _⟩ := hit
      rw [z, ho2] at ho
      cases ho
      rw [hc2] at hc
      exact absurd (Value.type.inj hc) (by decide)
    refine wpAny_pyNext_enum_itemD (Draws.tuple (A := X.A.in1) (I.ok.hd hc) it a ai its.toArray) he ⟨hit, p⟩ hi hne (by simp [hne, Ne.symm ae]) fun y h' tk hy ho hst hT hsz hk => ?_
    have ey : y = u := by
      have hy : its.toArray[i]? = some y := hy
      rw [show its.toArray[i]? = some u by simpa using hu] at hy
      exact (Option.some.inj hy).symm
    subst ey
    refine ⟨_, rfl, wpAny_letOwnedTupleGo_enum (s := { s with heap := h', toks := tk + 1 }) ho fun g he' sb => ?_⟩
    have hT2 : g.get? s.heap.objs.size = some { cls := .type "tuple", data := .seq #[.int i tk, y] } := (sb.2 _ (Nat.ne_of_gt hel)).trans hT
    have new : ObjOk X.prog X.w (upd H s.heap.objs.size (.tup [.int (i : Nat), x])) g s.heap.objs.size (.tup [.int (i : Nat), x]) := ⟨by show 2 ≤ sizeLine; decide, [.int i tk, y], .cons ⟨_, rfl⟩ (.cons ru .nil), ⟨_, hT2, rfl, _, rfl⟩⟩
    have I1 : Inv X pins σ (upd H s.heap.objs.size (.tup [.int (i : Nat), x])) { s with heap := g, toks := tk + 1 } :=
      I.turnedNew (ch := [e, it]) (fun b ob hb q => (sb.2 b (fun z => hb (by simp [z]))).trans (hk b ob (fun z => hb (by simp [z])) (fun z => hb (by simp [z])) q)) hf (Nat.le_refl _) new
    have old2 : ∃ old, IsEnum g e it (((i + 1 : Nat)) : Int) old := ⟨y, by
      have e1 : ((i + 1 : Nat) : Int) = (i : Int) + 1 := by omega
      rw [e1]
      exact he'⟩
    refine ⟨.ref s.heap.objs.size, _, I1, rfl, ⟨_, x, rfl, I.hok.fresh (Nat.le_refl _), rfl, fun ys hy => by rw [I.tuple_inj hy hq]; exact hx⟩, ⟨hin, old2, hst.1.at fun o q => (sb.2 it (Ne.symm hne)).trans q, hne⟩, fun b hb => ?_⟩
    have lt : b < s.heap.objs.size := by
      rcases (show b = e ∨ b = it by simpa using hb) with rfl | rfl
      · exact hel
      · exact hil
    rw [upd_ne (Nat.ne_of_lt lt)]
    exact (hf b hb).1
  done := by
    intro X hP hw hK hc i pins s σ H E I hf st hg
    subst hP hw hK
    obtain ⟨hin, ⟨old, he⟩, hit, hne⟩ := st
    obtain ⟨hni, xs, hq, hx⟩ := hg
    obtain ⟨its, rv, p, hz⟩ := I.tuple hq
    obtain ⟨f0, f1, f2, f3, f4, f5⟩ := hf it (by simp)
    have hl := rv.length
    have hi : i = its.toArray.size := by simp; omega
    subst hi
    have ai : a ≠ it := fun z => by
      obtain ⟨o, ho, hc, _⟩ := p
      obtain ⟨o2, ho2, hc2, _⟩ := hit
      rw [z, ho2] at ho
      cases ho
      rw [hc2] at hc
      exact absurd (Value.type.inj hc) (by decide)
    refine wpAny_pyNext_enum_endD (n := its.toArray.size) (Draws.tuple (A := X.A.in1) (I.ok.hd hc) it a ai its.toArray) he ⟨hit, p⟩ fun h' eb => ⟨rfl, I.turned (t' := s.toks) (fun b o hb q => eb b o hb q) f0 f1 f3 f4 f5⟩
  self := fun A i s Q E st h => by
    obtain ⟨_, ⟨_, he⟩, _⟩ := st
    exact wpAny_pyIter_enum he h
/-- enumerate(x), x a list or a tuple -/
def iEnA (K : PySem.W.Frag) (ta : TA) : TI := fun σ H R => ta σ H fun vs H1 => ∃ a xs, vs = [.ref a] ∧ ((SqL K H1 a xs ∧ R (Ite K a) H1) ∨ (SqT K H1 a xs ∧ R (ItE K a xs.length) H1))
theorem pi_enA {X : Cx} {e : Expr} {ta : TA} {p pos tpos : Pos} {elts : List Expr} {kk : Nat} (hg : Gl X "enumerate") (hm : X.mg "enumerate" = none) (ha : PA X [e] ta) (hs : starEach [e] X.env = [(false, eval e X.env)]) :
    PI X (.Tuple elts kk tpos) (.Call (.Name "enumerate" p) [e] [] pos) (iEnA X.K ta) := by
  refine ⟨fun pins s σ H R I h => ?_⟩
  refine Call_ (ld_blt I hg hm boot_enumerate (PyProof.Rows.callWith_type1 (thn (ha.run pos pins s σ H _ I h) fun us s1 z => ?_) hs rfl))
  obtain ⟨vs, H1, I1, r1, a, xs, rfl, q⟩ := z
  have fp : ∀ b ∈ [s1.heap.objs.size + 1, s1.heap.objs.size], FpOk X pins H1 b := fun b hb => by
    have hle : s1.heap.objs.size ≤ b := by
      rcases (show b = s1.heap.objs.size + 1 ∨ b = s1.heap.objs.size by simpa using hb) with rfl | rfl
      · exact Nat.le_add_right _ _
      · exact Nat.le_refl _
    exact I1.fpOk hle (I1.hok.fresh hle)
  cases r1 with
  | cons r rr =>
    cases rr
    cases r
    rcases q with ⟨hq, q⟩ | ⟨hq, q⟩
    · obtain ⟨its, rv, p', hz⟩ := I1.list hq
      refine call_enumerate_list p'.isList fun h' he hit hsz hk => wpAny_pyIter_enum he ?_
      exact ⟨s1.heap.objs.size + 1, [s1.heap.objs.size + 1, s1.heap.objs.size], _, _, H1, rfl, I1.kept (t' := s1.toks) hk, turn_enum a (s1.heap.objs.size + 1) s1.heap.objs.size, ⟨⟨.none, he⟩, hit, Nat.succ_ne_self _⟩, fp, q⟩
    · obtain ⟨its, rv, p', hz⟩ := I1.tuple hq
      refine call_enum (begins_tuple a its.toArray) p' fun h' he hit hk => wpAny_pyIter_enum he ?_
      exact ⟨s1.heap.objs.size + 1, [s1.heap.objs.size + 1, s1.heap.objs.size], _, _, H1, rfl, I1.kept (t' := s1.toks) hk, turn_enumT a (s1.heap.objs.size + 1) s1.heap.objs.size xs.length, ⟨Nat.zero_le _, ⟨.none, he⟩, ⟨_, hit, rfl, rfl⟩, Nat.succ_ne_self _⟩, fp, q⟩
section
variable {c : C} {W : WX} {X : Cx} {tg a b d : Expr} {fa fb fc : MEnv → M Val} {pos p1 : Pos}
theorem sI_enA {elts : List Expr} {kk : Nat} {tpos : Pos} (hX : Good c X) (hg : Gl X "enumerate") (hm : X.mg "enumerate" = none) (ha : PE X a (tE c W fa)) (hs : isStar a = false) :
    PI X (.Tuple elts kk tpos) (.Call (.Name "enumerate" p1) [a] [] pos) (tI c W fun env => do let x ← fa env; let l ← liftH fun h => seqV h x; pure ⟨enumItems 0 l, locksOf x⟩) := by
  refine (pi_enA hg hm (sA_one ha hs) (star_of a [] X.env hs)).imp fun σ H R q => ?_
  obtain ⟨env, h, ml, G, s, o⟩ := q
  refine tE.imp (tE.one (fa := fa) s o) fun x H1 ⟨v, h1, ml1, G1, s1, r1, o1⟩ => ?_
  obtain ⟨l, e, o2⟩ := Ok.liftHB o1 s1
  have q := o2.pure s1 s1
  rcases seq_two e with rfl | e
  · obtain ⟨p, xs, rfl, sq, rs⟩ := r1.tup'
    refine ⟨p, xs, rfl, .inr ⟨hX.K ▸ sq, q _ fun i env2 σ2 h2 ml2 G2 H2 g s2 st => ?_⟩⟩
    obtain ⟨ys, sq2, rs2⟩ := sv_tup hX r1 g
    refine ⟨fun hi => ⟨by rw [rs.length, ← enumItems_len l 0]; exact hi, ys, sq2, by rw [rs2.length, rs.length]⟩, fun u eu => ?_⟩
    have eu : (enumItems 0 l)[i]? = some u := eu
    rw [enumItems_get] at eu
    obtain ⟨w, ew, rfl⟩ := Option.map_eq_some_iff.mp eu
    obtain ⟨y, ey, ry⟩ := rs2.get ew
    refine ⟨⟨by rw [rs.length]; exact (List.getElem?_eq_some_iff.mp ew).1, ys, y, sq2, ey⟩, fun x H3 yl => ?_⟩
    obtain ⟨T, y', rfl, hT, rfl, yl⟩ := yl
    have := yl ys sq2
    rw [ey] at this
    cases this
    have z : ((0 + i : Nat) : Int) = (i : Int) := by omega
    rw [z]
    exact pair_laid s2 hT .int ry
  · obtain ⟨p, xs, rfl, sq, rs⟩ := scr_at s1 r1 e
    refine ⟨p, xs, rfl, .inl ⟨hX.K ▸ sq, q _ fun i env2 σ2 h2 ml2 G2 H2 g s2 st => ?_⟩⟩
    obtain ⟨ys, sq2, rs2⟩ := sv_scr hX r1 e (fun _ z => z) g s2 st
    refine ⟨fun hi => ⟨ys, sq2, by rw [rs2.length, ← enumItems_len l 0]; exact hi⟩, fun u eu => ?_⟩
    have eu : (enumItems 0 l)[i]? = some u := eu
    rw [enumItems_get] at eu
    obtain ⟨w, ew, rfl⟩ := Option.map_eq_some_iff.mp eu
    obtain ⟨y, ey, ry⟩ := rs2.get ew
    refine ⟨⟨ys, y, sq2, ey⟩, fun x H3 yl => ?_⟩
    obtain ⟨T, y', rfl, hT, rfl, yl⟩ := yl
    have := yl ys sq2
    rw [ey] at this
    cases this
    have z : ((0 + i : Nat) : Int) = (i : Int) := by omega
    rw [z]
    exact pair_laid s2 hT .int ry
end
end MPS

namespace MPS
open PySem PySem.Spec L2 MP

/-- a statement's outcome as the layer's ends wish it -/
def FlK (c : C) (D : Ends) (h : MHeap) (ml : List Addr) (G : Addr → Prop) (σ : L2.St) (H : Hp) : Fl → Prop
  | .nx env => SR c env h ml G σ H → D.nx σ H
  | .rt v => SR c [] h ml G σ H → ∀ x, RV c H ml G v x → D.rt x H
  | .bk env => SR c env h ml G σ H → D.bk σ H
  | .ct env => SR c env h ml G σ H → D.ct σ H
def OkS (c : C) (W : WX) (r : SRes) (ml : List Addr) (G : Addr → Prop) (H : Hp) (D : Ends) : Prop := match r with
  | .bad => False
  | .ok f h' => ∀ ml' G' H' σ', Grow ml G H ml' G' H' → FlK c D h' ml' G' σ' H' f
  | .exc e env' h' => ∀ ml' G' H' σ' cls d, Grow ml G H ml' G' H' → SR c env' h' ml' G' σ' H' → ExR c H' ml' G' e cls d → W cls d σ' H'
def tS (c : C) (W : WX) (f : MEnv → S) : TS := fun D σ H => ∃ env h ml G, SR c env h ml G σ H ∧ OkS c W (f env h) ml G H D
section
variable {c : C} {W : WX} {X : Cx} {e a b : Expr} {fa fb : MEnv → M Val} {pos : Pos} {ml ml' : List Addr} {G G' : Addr → Prop} {H H' : Hp} {D : Ends} {env : MEnv} {h : MHeap} {σ : L2.St}
theorem OkS.grow {r : SRes} (o : OkS c W r ml G H D) (g : Grow ml G H ml' G' H') : OkS c W r ml' G' H' D := by
  cases r with
  | bad => exact o
  | ok f h' => exact fun ml2 G2 H2 σ' g2 => o ml2 G2 H2 σ' (g.trans g2)
  | exc e env' h' => exact fun ml2 G2 H2 σ' cls d g2 => o ml2 G2 H2 σ' cls d (g.trans g2)
theorem OkS.nx (o : OkS c W (goOn env h) ml G H D) (s : SR c env h ml G σ H) : D.nx σ H := o ml G H σ s.refl s
theorem OkS.after {α : Type} {m : M α} {k : α → S} (o : OkS c W (andThen env m k h) ml G H D) : Ok c W env σ (m h) ml G H fun a h1 ml1 G1 H1 => OkS c W (k a h1) ml1 G1 H1 D := by
  unfold andThen at o
  unfold Ok
  cases e : m h with
  | bad => rw [e] at o; exact o
  | exc x h1 =>
    rw [e] at o
    exact fun ml' G' H' cls d g s ex => o ml' G' H' σ cls d g s ex
  | ok a h1 =>
    rw [e] at o
    exact fun ml' G' H' g _ => OkS.grow o g
theorem SR.drop (s : SR c env h ml G σ H) : SR c [] h ml G σ H := s.slots (Nat.zero_le _) fun i v e => by simp at e

theorem sS_pass : PS X (.Pass pos) (tS c W fun env => goOn env) := ps_pass.imp fun D σ H q => by
  obtain ⟨env, h, ml, G, s, o⟩ := q
  exact o.nx s
theorem sS_doc {x : Str} {j : Nat} {p1 p2 : Pos} : PS X (.Expr (.Constant (.str x) j p1) p2) (tS c W fun env => goOn env) := ps_doc.imp fun D σ H q => by
  obtain ⟨env, h, ml, G, s, o⟩ := q
  exact o.nx s
theorem sS_brk : PS X (.Break pos) (tS c W fun env => endS (.bk env)) := ps_break.imp fun D σ H q => by
  obtain ⟨env, h, ml, G, s, o⟩ := q
  exact o ml G H σ s.refl s
theorem sS_cont : PS X (.Continue pos) (tS c W fun env => endS (.ct env)) := ps_continue.imp fun D σ H q => by
  obtain ⟨env, h, ml, G, s, o⟩ := q
  exact o ml G H σ s.refl s
theorem sS_retN : PS X (.Return none pos) (tS c W fun _ => endS (.rt .non)) := ps_retN.imp fun D σ H q => by
  obtain ⟨env, h, ml, G, s, o⟩ := q
  exact o ml G H σ s.refl s.drop _ .non
theorem sS_ret (he : PE X e (tE c W fa)) : PS X (.Return (some e) pos) (tS c W fun env => andThen env (fa env) fun v => endS (.rt v)) := (ps_ret he).imp fun D σ H q => by
  obtain ⟨env, h, ml, G, s, o⟩ := q
  exact ⟨env, h, ml, G, s, (OkS.after o).imp fun v h1 ml1 G1 H1 g1 s1 o1 x r => o1 ml1 G1 H1 σ s1.refl s1.drop x r⟩
theorem sS_expr (he : PE X e (tE c W fa)) (hs : swapsWith e none pos.line X.env = pure false) : PS X (.Expr e pos) (tS c W fun env => andThen env (fa env) fun _ => goOn env) := (ps_expr he hs).imp fun D σ H q => by
  obtain ⟨env, h, ml, G, s, o⟩ := q
  exact ⟨env, h, ml, G, s, (OkS.after o).imp fun v h1 ml1 G1 H1 g1 s1 o1 x r => o1.nx s1⟩
/-- name = value, from the reading of the layer's own statement -/
theorem sS_set {i : Nat} {st : Stmt} (h : PS X st (tAsg (tE c W fa) (gName i))) : PS X st (tS c W fun env => andThen env (fa env) fun v => goOn (env.set i (some v))) := h.imp fun D σ H q => by
  obtain ⟨env, h, ml, G, s, o⟩ := q
  exact ⟨env, h, ml, G, s, (OkS.after o).imp fun v h1 ml1 G1 H1 g1 s1 o1 x r => o1.nx (s1.put r)⟩
theorem tAsg_imp {te te' : TE} {g : TG} {st : Stmt} (h : PS X st (tAsg te g)) (k : ∀ σ H Q, te' σ H Q → te σ H Q) : PS X st (tAsg te' g) := h.imp fun D σ H q => k _ _ _ q
theorem sS_setT {tg : Tg} {t : Expr} (he : PE X e (tE c W fa)) (hg : PG X t (tgR c tg)) (hs : swapsWithSole [t] e pos.line X.env = pure false) (hw : swappedStores [t] e X.env = pure none) (hst : isStar t = false) :
    PS X (.Assign [t] e pos) (tS c W fun env => andThen env (do let v ← fa env; lift (bindT tg v env)) fun e1 => goOn e1) := by
  refine (ps_asg he hg hs hw (by rw [asgEach hst]; rfl)).imp fun D σ H q => ?_
  obtain ⟨env, h, ml, G, s, o⟩ := q
  have o := OkS.after (σ := σ) o
  refine ⟨env, h, ml, G, s, (Ok.bind o).imp fun v h1 ml1 G1 H1 g1 s1 o1 x r => ?_⟩
  obtain ⟨env', e, o2⟩ := o1.liftG
  exact ⟨env, h1, ml1, G1, v, env', s1, r, e, fun σ' s' _ => (o2 ml1 G1 H1 s1.refl s1).nx s'⟩
theorem sS_if {cd : Expr} {ss tt : List Stmt} {ft : MEnv → M Bool} {f1 f2 : MEnv → S} (hc : PT X cd (tT c W ft)) (h1 : PSs X ss (tS c W f1)) (h2 : PSs X tt (tS c W f2)) :
    PS X (.If cd ss tt pos) (tS c W fun env => andThen env (ft env) fun t => if t then f1 env else f2 env) := (ps_if hc h1 h2).imp fun D σ H q => by
  obtain ⟨env, h, ml, G, s, o⟩ := q
  refine ⟨env, h, ml, G, s, (OkS.after o).imp fun t h1 ml1 G1 H1 g1 s1 o1 => ?_⟩
  cases t with
  | true => rw [if_pos rfl] at o1 ⊢; exact ⟨env, h1, ml1, G1, s1, o1⟩
  | false => rw [if_neg Bool.false_ne_true] at o1 ⊢; exact ⟨env, h1, ml1, G1, s1, o1⟩
theorem sSs_nil : PSs X [] (tS c W fun env => goOn env) := ⟨fun pins s σ H D I q => pss_nil.run pins s σ H D I (by
  obtain ⟨env, h, ml, G, s, o⟩ := q
  exact o.nx s)⟩
theorem sSs_cons {st : Stmt} {r : List Stmt} {f1 f2 : MEnv → S} (h1 : PS X st (tS c W f1)) (h2 : PSs X r (tS c W f2)) : PSs X (st :: r) (tS c W fun env h => match f1 env h with
    | .ok (.nx e) h1 => f2 e h1
    | x => x) := (pss_cons h1 h2).imp fun D σ H q => by
  obtain ⟨env, h, ml, G, s, o⟩ := q
  refine ⟨env, h, ml, G, s, ?_⟩
  dsimp only at o
  cases k : f1 env h with
  | bad => rw [k] at o; exact o
  | exc e env' h' => rw [k] at o; exact o
  | ok f h' =>
    cases f with
    | nx env' =>
      rw [k] at o
      exact fun ml' G' H' σ' g s' => ⟨env', h', ml', G', s', OkS.grow o g⟩
    | rt v => rw [k] at o; exact o
    | bk v => rw [k] at o; exact o
    | ct v => rw [k] at o; exact o
/-- never reached -/
theorem sS_bad {st : Stmt} {f : MEnv → S} (hf : ∀ env h, f env h = .bad) : PS X st (tS c W f) := ps_never.imp fun D σ H q => by
  obtain ⟨env, h, ml, G, s, o⟩ := q
  rw [hf] at o
  exact o

theorem sS_aug {i : Nat} {x : Str} {k : BK} {p : Pos} (hX : Good c X) (hi : X.N[i]? = some x) (hx : Loc X.env.scope x) (hf : X.fn x = true ∨ X.env.scope.names.lookup x = some .local) (he : PE X e (tE c W fa))
    (hp : PIp X (opB k) (fun x y H Q => ∃ i j z, x = .int i ∧ y = .int j ∧ binI k i j = some z ∧ Q (.int z) H)) :
    PS X (.AugAssign (.Name x p) (opB k) e pos) (tS c W fun env => andThen env (do let x ← lift (env[i]?.bind id); let y ← fa env; lift (augV k x y)) fun v => goOn (env.set i (some v))) := by
  refine (ps_aug hX.nd hi hx he hp hf).imp fun D σ H q => ?_
  obtain ⟨env, h, ml, G, s, o⟩ := q
  have o := OkS.after (σ := σ) o
  obtain ⟨v, e, o⟩ := Ok.liftB o s
  have e2 : env[i]? = some (some v) := by
    cases k : env[i]? with
    | none => rw [k] at e; cases e
    | some z => rw [k] at e; exact congrArg some e
  obtain ⟨y, ey, ry⟩ := s.ev i v e2
  refine ⟨y, ey, env, h, ml, G, s, (Ok.bind o).imp fun w h1 ml1 G1 H1 g1 s1 o1 z rz => ?_⟩
  obtain ⟨u, eu, o2⟩ := o1.lift s1
  have ry1 := ry.mono g1
  unfold augV at eu
  split at eu
  · rename_i a b
    cases hb : binI k a b with
    | none => rw [hb] at eu; cases eu
    | some m =>
      rw [hb] at eu
      cases eu
      exact ⟨a, b, m, ry1.int', rz.int', hb, o2.nx (s1.put .int)⟩
  · cases eu

theorem sS_for {tg : Tg} {t it : Expr} {body : List Stmt} {fi : MEnv → M Items} {bd : MEnv → S} (hX : Good c X) (hp : PassesOwn (model X.prog X.w) X.A X.env X.xe) (hi : PI X t it (tI c W fi)) (hg : PG X t (tgR c tg)) (hb : PSs X body (tS c W bd))
    (hs : ∀ x, foldedSetIterable it X.env x = pure x) : PS X (.For t it body [] pos) (tS c W fun env => andThen env (fi env) fun its h => forL bd tg its.lock h its.l env h) := by
  refine (ps_for hp hX.calm hi hg hb hs).imp fun D σ H q => ?_
  obtain ⟨env, h, ml, G, s, o⟩ := q
  refine ⟨env, h, ml, G, s, (OkS.after o).imp fun its h1 ml1 G1 H1 g1 s1 o1 s1' J sv => ?_⟩
  refine ⟨fun i m σ H => m = its.l.length - i ∧ i ≤ its.l.length ∧ ∃ env h ml G, Grow ml1 G1 H1 ml G H ∧ SR c env h ml G σ H ∧ stays its.lock h1 h = true ∧ OkS c W (forL bd tg its.lock h1 (its.l.drop i) env h) ml G H D,
    ⟨its.l.length, by simp, Nat.zero_le _, env, h1, ml1, G1, s1.refl, s1, by simp [stays], by simpa using o1⟩, ?_⟩
  rintro i m σ2 H2 ⟨rfl, hi, env2, h2, ml2, G2, g2, s2, st, o2⟩
  obtain ⟨k1, k2⟩ := sv i env2 σ2 h2 ml2 G2 H2 g2 s2 st
  by_cases hlt : i < its.l.length
  · have ed : its.l.drop i = its.l[i] :: its.l.drop (i + 1) := List.drop_eq_getElem_cons hlt
    rw [ed] at o2
    obtain ⟨go, yl⟩ := k2 its.l[i] (List.getElem?_eq_getElem hlt)
    refine .inr ⟨go, fun σ H => ∃ env h ml G, Grow ml1 G1 H1 ml G H ∧ SR c env h ml G σ H ∧ stays its.lock h1 h = true ∧ OkS c W (forL bd tg its.lock h1 (its.l.drop (i + 1)) env h) ml G H D,
      fun σ' H' n => ⟨its.l.length - (i + 1), by omega, rfl, hlt, n⟩, fun x H3 y => ?_⟩
    obtain ⟨g3, sm, smG, rx, tb3⟩ := yl x H3 y
    have s3 : SR c env2 h2 ml2 G2 σ2 H3 := s2.over g3 sm (fun b hb => by rw [smG b hb]; exact s2.tr b hb) tb3
    unfold forL at o2
    cases eb : bindT tg its.l[i] env2 with
    | none => rw [eb] at o2; exact o2.elim
    | some env3 =>
      rw [eb] at o2
      refine ⟨env2, h2, ml2, G2, _, env3, s3, rx, eb, fun σ4 s4 _ => ⟨env3, h2, ml2, G2, s4, ?_⟩⟩
      simp only at o2
      cases ebd : bd env3 h2 with
      | bad => rw [ebd] at o2; exact o2
      | exc e env' h' => rw [ebd] at o2; exact OkS.grow (D := D) o2 g3
      | ok f h' =>
        rw [ebd] at o2
        cases f with
        | nx e =>
          simp only at o2
          intro ml5 G5 H5 σ5 g5 s5
          split at o2
          · rename_i hst
            exact ⟨e, h', ml5, G5, (g2.trans g3).trans g5, s5, hst, (OkS.grow o2 g3).grow g5⟩
          · exact o2.elim
        | ct e =>
          simp only at o2
          intro ml5 G5 H5 σ5 g5 s5
          split at o2
          · rename_i hst
            exact ⟨e, h', ml5, G5, (g2.trans g3).trans g5, s5, hst, (OkS.grow o2 g3).grow g5⟩
          · exact o2.elim
        | bk e =>
          intro ml5 G5 H5 σ5 g5 s5
          exact o2 ml5 G5 H5 σ5 (g3.trans g5) s5
        | rt v =>
          intro ml5 G5 H5 σ5 g5 s5
          exact o2 ml5 G5 H5 σ5 (g3.trans g5) s5
  · have ed : its.l.drop i = [] := List.drop_eq_nil_of_le (Nat.le_of_not_lt hlt)
    rw [ed] at o2
    exact .inl ⟨k1 (Nat.le_of_not_lt hlt), o2 ml2 G2 H2 σ2 s2.refl s2⟩
theorem sS_while {n : Nat} {cd : Expr} {body : List Stmt} {fc : MEnv → M Bool} {bd : MEnv → S} (hp : PassesOwn (model X.prog X.w) X.A X.env X.xe) (hc : PT X cd (tT c W fc)) (hb : PSs X body (tS c W bd)) :
    PS X (.While cd body [] pos) (tS c W fun env => whileL fc bd n env) := by
  refine (ps_while hp hc hb).imp fun D σ H q => ?_
  obtain ⟨env, h, ml, G, s, o⟩ := q
  refine ⟨fun m σ H => ∃ env h ml G, SR c env h ml G σ H ∧ OkS c W (whileL fc bd m env h) ml G H D, ⟨n, env, h, ml, G, s, o⟩, ?_⟩
  rintro m σ2 H2 ⟨env2, h2, ml2, G2, s2, o2⟩
  cases m with
  | zero => exact o2.elim
  | succ m =>
    refine ⟨env2, h2, ml2, G2, s2, ?_⟩
    unfold whileL at o2
    unfold Ok
    cases ec : fc env2 h2 with
    | bad => rw [ec] at o2; exact o2
    | exc e h' =>
      rw [ec] at o2
      exact fun ml' G' H' cls d g s ex => o2 ml' G' H' σ2 cls d g s ex
    | ok t h3 =>
      rw [ec] at o2
      intro ml3 G3 H3 g3 s3
      cases t with
      | false =>
        rw [if_neg Bool.false_ne_true]
        exact o2 ml3 G3 H3 σ2 g3 s3
      | true =>
        rw [if_pos rfl]
        refine ⟨fun σ H => ∃ env h ml G, SR c env h ml G σ H ∧ OkS c W (whileL fc bd m env h) ml G H D, fun σ' H' q => ⟨m, Nat.lt_succ_self m, q⟩, env2, h3, ml3, G3, s3, ?_⟩
        simp only at o2
        cases ebd : bd env2 h3 with
        | bad => rw [ebd] at o2; exact o2
        | exc e env' h' => rw [ebd] at o2; exact OkS.grow (D := D) o2 g3
        | ok f h' =>
          rw [ebd] at o2
          cases f with
          | nx e =>
            intro ml5 G5 H5 σ5 g5 s5
            exact ⟨e, h', ml5, G5, s5, (OkS.grow o2 g3).grow g5⟩
          | ct e =>
            intro ml5 G5 H5 σ5 g5 s5
            exact ⟨e, h', ml5, G5, s5, (OkS.grow o2 g3).grow g5⟩
          | bk e =>
            intro ml5 G5 H5 σ5 g5 s5
            exact o2 ml5 G5 H5 σ5 (g3.trans g5) s5
          | rt v =>
            intro ml5 G5 H5 σ5 g5 s5
            exact o2 ml5 G5 H5 σ5 (g3.trans g5) s5
end
end MPS

namespace MPS
open PySem PySem.Spec L2 MP
section
variable {c : C} {W : WX} {X : Cx} {e a b d o : Expr} {fa fb fc : MEnv → M Val} {pos p1 p2 : Pos}
/-- which op= are served -/
def augOk : BK → Bool
  | .pow => false
  | _ => true
theorem iop_bI {k : BK} (hk : augOk k = true) : PIp X (opB k) (rBI k) := by
  intro pins s σ H x y v u Q I rx ry h
  obtain ⟨i, j, z, rfl, rfl, e, q⟩ := h
  cases k with
  | pow => cases hk
  | add => cases e; exact iop_add pins s σ H _ _ v u Q I rx ry ⟨i, j, rfl, rfl, q⟩
  | sub => cases e; exact iop_sub pins s σ H _ _ v u Q I rx ry ⟨i, j, rfl, rfl, q⟩
  | mul =>
    simp only [binI] at e
    split at e
    · rename_i hs
      cases e
      refine iop_mul pins s σ H _ _ v u Q I rx ry ⟨i, j, rfl, rfl, ?_, q⟩
      rcases Bool.or_eq_true_iff.mp hs with hs | hs
      · exact .inl (small_iff hs)
      · exact .inr (small_iff hs)
    · cases e
  | fdiv =>
    simp only [binI, Bool.and_eq_true, decide_eq_true_eq] at e
    split at e
    · rename_i hs; cases e
      exact iop_fdiv pins s σ H _ _ v u Q I rx ry ⟨i, j, rfl, rfl, hs, q⟩
    · cases e
  | mod =>
    simp only [binI] at e
    split at e
    · rename_i hs; cases e
      exact iop_mod pins s σ H _ _ v u Q I rx ry ⟨i, j, rfl, rfl, hs, q⟩
    · cases e
  | shl =>
    simp only [binI, Bool.and_eq_true, decide_eq_true_eq] at e
    split at e
    · rename_i hs; cases e
      exact iop_shl pins s σ H _ _ v u Q I rx ry ⟨i, j, rfl, rfl, ⟨hs.1.1, hs.1.2, hs.2⟩, q⟩
    · cases e
  | shr =>
    simp only [binI] at e
    split at e
    · rename_i hs; cases e
      exact iop_shr pins s σ H _ _ v u Q I rx ry ⟨i, j, rfl, rfl, hs, q⟩
    · cases e
  | band =>
    simp only [binI, Bool.and_eq_true, decide_eq_true_eq] at e
    split at e
    · rename_i hs; cases e
      exact iop_and pins s σ H _ _ v u Q I rx ry ⟨i, j, rfl, rfl, by show Q (.int (Builtin.bitAnd i j)) H; rw [bitAnd_nat i j hs.1 hs.2]; exact q⟩
    · cases e
  | bor =>
    simp only [binI, Bool.and_eq_true, decide_eq_true_eq] at e
    split at e
    · rename_i hs; cases e
      exact iop_or pins s σ H _ _ v u Q I rx ry ⟨i, j, rfl, rfl, by show Q (.int (Builtin.bitOr i j)) H; rw [bitOr_nat i j hs.1 hs.2]; exact q⟩
    · cases e
  | bxor =>
    simp only [binI, Bool.and_eq_true, decide_eq_true_eq] at e
    split at e
    · rename_i hs; cases e
      exact iop_xor pins s σ H _ _ v u Q I rx ry ⟨i, j, rfl, rfl, by show Q (.int (Builtin.bitXor i j)) H; rw [bitXor_nat i j hs.1 hs.2]; exact q⟩
    · cases e

theorem sS_par2 {i j : Nat} {x y : Str} {px py pt pt2 : Pos} {kt k2 : Nat} {ga : MEnv → M (List Val)} (hX : Good c X) (hi : X.N[i]? = some x) (hj : X.N[j]? = some y) (hij : i ≠ j) (hx : X.env.scope.names.lookup x = some .local) (hy : X.env.scope.names.lookup y = some .local)
    (ha : PA X [a, b] (tA c W ga)) (hw : swappedStores [.Tuple [.Name x px, .Name y py] kt pt] (.Tuple [a, b] k2 pt2) X.env = pure (some [x, y])) :
    PS X (.Assign [.Tuple [.Name x px, .Name y py] kt pt] (.Tuple [a, b] k2 pt2) pos) (tS c W fun env => andThen env (do let vs ← ga env; lift (setAll [i, j] vs env)) fun e1 => goOn e1) := by
  refine (ps_par hX.calm hX.nd hi hj hij hx hy ha hw rfl).imp fun D σ H q => ?_
  obtain ⟨env, h, ml, G, s, o⟩ := q
  have o := OkS.after (σ := σ) o
  refine ⟨env, h, ml, G, s, (Ok.bind o).imp fun vs h1 ml1 G1 H1 g1 s1 o1 xs rs => ?_⟩
  obtain ⟨env', e, o2⟩ := o1.lift s1
  match vs, e, rs with
  | [v, w], e, rs =>
    cases e
    obtain ⟨x1, r, rfl, r1, rs⟩ := rs.inv
    obtain ⟨x2, r, rfl, r2, rs⟩ := rs.inv
    have := rs.inv0
    subst this
    exact ⟨x1, x2, rfl, o2.nx ((s1.put r1).put r2)⟩
  | [], e, _ => cases e
  | [_], e, _ => cases e
  | _ :: _ :: _ :: _, e, _ => cases e
theorem sS_par3 {i j l : Nat} {x y z : Str} {px py pz pt pt2 : Pos} {kt k2 : Nat} {ga : MEnv → M (List Val)} (hX : Good c X) (hi : X.N[i]? = some x) (hj : X.N[j]? = some y) (hl : X.N[l]? = some z) (hij : i ≠ j) (hil : i ≠ l) (hjl : j ≠ l)
    (hx : X.env.scope.names.lookup x = some .local) (hy : X.env.scope.names.lookup y = some .local) (hz : X.env.scope.names.lookup z = some .local)
    (ha : PA X [a, b, d] (tA c W ga)) (hw : swappedStores [.Tuple [.Name x px, .Name y py, .Name z pz] kt pt] (.Tuple [a, b, d] k2 pt2) X.env = pure (some [x, y, z])) :
    PS X (.Assign [.Tuple [.Name x px, .Name y py, .Name z pz] kt pt] (.Tuple [a, b, d] k2 pt2) pos) (tS c W fun env => andThen env (do let vs ← ga env; lift (setAll [i, j, l] vs env)) fun e1 => goOn e1) := by
  refine (ps_par3 hX.calm hX.nd hi hj hl hij hil hjl hx hy hz ha hw rfl).imp fun D σ H q => ?_
  obtain ⟨env, h, ml, G, s, o⟩ := q
  have o := OkS.after (σ := σ) o
  refine ⟨env, h, ml, G, s, (Ok.bind o).imp fun vs h1 ml1 G1 H1 g1 s1 o1 xs rs => ?_⟩
  obtain ⟨env', e, o2⟩ := o1.lift s1
  match vs, e, rs with
  | [v, w, u], e, rs =>
    cases e
    obtain ⟨x1, r, rfl, r1, rs⟩ := rs.inv
    obtain ⟨x2, r, rfl, r2, rs⟩ := rs.inv
    obtain ⟨x3, r, rfl, r3, rs⟩ := rs.inv
    have := rs.inv0
    subst this
    exact ⟨x1, x2, x3, rfl, o2.nx (((s1.put r1).put r2).put r3)⟩
  | [], e, _ => cases e
  | [_], e, _ => cases e
  | [_, _], e, _ => cases e
  | _ :: _ :: _ :: _ :: _, e, _ => cases e

def isNm : Expr → Bool
  | .Name _ _ => true
  | _ => false
theorem base_of {o : Expr} {name : Str} {en : PySem.Env} (h : isNm o = true) : attributeBase o name en (eval o en) = eval o en := by
  cases o with
  | Name _ _ => rfl
  | _ => cases h
theorem loc_ty (hX : Good c X) {n : Nat} {l : List Val} {x : V} {env : MEnv} {h : MHeap} {ml : List Addr} {G : Addr → Prop} {σ : L2.St} {H : Hp} (s : SR c env h ml G σ H) (r : RV c H ml G (.loc n) x) (e : h[n]? = some (.list l)) :
    ∃ p xs, ml[n]? = some p ∧ x = .ref p ∧ H p = some (.lst xs) ∧ RVs c H ml G l xs := by
  obtain ⟨p, em, rfl⟩ := r.loc'
  obtain ⟨xs, eH, rs⟩ := s.at e em
  exact ⟨p, xs, em, rfl, eH, rs⟩
theorem tyV_lst {K : PySem.W.Frag} {H : Hp} {p : Addr} {xs : List V} (h : H p = some (.lst xs)) : tyV K "list" (.ref p) H := .inl ⟨rfl, xs, .inl (.inl h)⟩
theorem sE_pop {apos : Pos} (hX : Good c X) (ho : PE X o (tE c W fa)) (hn : isNm o = true) (hl : (apos.endLine == pos.line) = true) : PE X (.Call (.Attribute o "pop" apos) [] [] pos) (tE c W fun env => do let x ← fa env; popL x) := by
  refine (pe_bm0 PySem.F.plainAttrs_list PySem.F.slot_list_pop PySem.F.type_list_pop mt_pop ho (base_of hn) hl).imp fun σ H Q q => ?_
  obtain ⟨env, h, ml, G, s, o⟩ := q
  refine tE.imp (tE.one (fa := fa) s o) fun x H1 ⟨v, h1, ml1, G1, s1, r1, o1⟩ => ?_
  unfold popL at o1
  unfold Ok at o1
  cases v with
  | loc n =>
    simp only at o1
    cases e : h1[n]? with
    | none => rw [e] at o1; exact o1.elim
    | some ob =>
      cases ob with
      | dict _ _ => rw [e] at o1; exact o1.elim
      | list l =>
        rw [e] at o1
        simp only at o1
        cases el : l.getLast? with
        | none => rw [el] at o1; exact o1.elim
        | some v =>
          rw [el] at o1
          simp only at o1
          obtain ⟨p, xs, em, rfl, eH, rs⟩ := loc_ty hX s1 r1 e
          have ei : l[l.length - 1]? = some v := by rw [← List.getLast?_eq_getElem?]; exact el
          obtain ⟨y, ey, ry⟩ := rs.get ei
          have rd : RVs c H1 ml1 G1 l.dropLast xs.dropLast := by
            rw [List.dropLast_eq_take, List.dropLast_eq_take, rs.length]
            exact rs.take _
          obtain ⟨g, s2⟩ := s1.chg e em rd
          exact ⟨tyV_lst eH, p, xs, y, rfl, rfl, eH, by rw [rs.length]; exact ey, o1 ml1 G1 _ g s2 y (ry.mono g)⟩
  | _ => exact o1.elim
theorem few_args {a : Expr} {en : PySem.Env} {cpos : Pos} (hs : isStar a = false) : ((backTo cpos (starEach [a] en)).all (fun x => !x.1) && (backToKw cpos (keywordEach [] en)).all (fun x => x.1.isSome)
      && decide ([a].length + ([] : List Keyword).length + (if ([] : List Keyword).isEmpty then 0 else 1) < 30)) = true := by
  rw [star_of a [] en hs]
  rfl
theorem back_nil {cpos : Pos} {en : PySem.Env} : (backTo cpos (starEach [] en)).any (·.1) = false := rfl
/-- the object's place is known, the argument is made, the list is as it stands then -/
theorem meth_one {k : Nat → Val → MHeap → Option MHeap} {r : V → List V → Hp → VK → Prop} {env : MEnv} {h : MHeap} {ml : List Addr} {G : Addr → Prop} {σ : L2.St} {H : Hp} {D : Ends} (hX : Good c X) (s : SR c env h ml G σ H)
    (o : OkS c W (andThen env (do let x ← fa env; let n ← lift (locV x); let v ← fb env; pure (n, v)) (fun p h => change env (k p.1 p.2 h)) h) ml G H D)
    (fin : ∀ (n : Nat) (p : Addr) (v : Val) (y : V) (h : MHeap) (ml : List Addr) (G : Addr → Prop) (H : Hp), SR c env h ml G σ H → ml[n]? = some p → RV c H ml G v y → OkS c W (change env (k n v h)) ml G H D → r (.ref p) [y] H fun _ H1 => D.nx σ H1) :
    tBM X.K "list" r (tE c W fa) (fun σ H Q => tE c W fb σ H fun x H1 => Q [x] H1) σ H fun _ H1 => D.nx σ H1 := by
  have o := OkS.after (σ := σ) o
  refine tE.imp (tE.one (fa := fa) s o) fun x H1 ⟨v, h1, ml1, G1, s1, r1, o1⟩ => ?_
  obtain ⟨n, e, o2⟩ := Ok.liftB o1 s1
  cases v with
  | loc m =>
    cases e
    obtain ⟨p, em, rfl⟩ := r1.loc'
    have hl : n < h1.length := by rw [← s1.len]; exact (List.getElem?_eq_some_iff.mp em).1
    have ho := List.getElem?_eq_getElem hl
    have q := s1.obj n _ p ho em
    refine ⟨?_, env, h1, ml1, G1, s1, (Ok.bind o2).imp fun w h2 ml2 G2 H2 g2 s2 o3 y r2 => ?_⟩
    · cases k : h1[n] with
      | list l => rw [k] at q; obtain ⟨xs, eH, _⟩ := q; exact tyV_lst eH
      | dict _ _ => rw [k] at q; exact q.elim
    · obtain ⟨new, e2, _⟩ := g2.pre
      have em2 : ml2[n]? = some p := by rw [e2, List.getElem?_append_left (List.getElem?_eq_some_iff.mp em).1]; exact em
      exact fin n p w y h2 ml2 G2 H2 s2 em2 r2 (o3.pure s2)
  | _ => cases e
theorem sS_app {apos epos : Pos} (hX : Good c X) (ho : PE X o (tE c W fa)) (he : PE X e (tE c W fb)) (hn : isNm o = true) (hs : isStar e = false) (hl : (apos.endLine == pos.line) = true) :
    PS X (.Expr (.Call (.Attribute o "append" apos) [e] [] pos) epos) (tS c W fun env => andThen env (do let x ← fa env; let n ← lift (locV x); let v ← fb env; pure (n, v)) fun p h => change env (appL p.1 p.2 h)) := by
  refine (ps_expr (pe_bm PySem.F.plainAttrs_list PySem.F.slot_list_append PySem.F.type_list_append mt_append ho (sA_one he hs) (base_of hn) (few_args hs) hl (star_of _ _ _ hs) back_nil) rfl).imp fun D σ H q => ?_
  obtain ⟨env, h, ml, G, s, o⟩ := q
  refine meth_one (k := appL) (r := rAppend) hX s o fun n p v y h ml G H s em r o => ?_
  unfold appL at o
  split at o
  · rename_i l e
    split at o
    · rename_i hz
      obtain ⟨xs, eH, rs⟩ := s.at e em
      obtain ⟨g, s2⟩ := s.chg e em (rs.append (.cons r .nil))
      exact ⟨p, xs, y, rfl, rfl, eH, by rw [rs.length, sizeSZ]; exact hz, o ml G _ σ g s2⟩
    · exact o.elim
  · exact o.elim
theorem sS_ext {apos epos : Pos} (hX : Good c X) (ho : PE X o (tE c W fa)) (he : PE X e (tE c W fb)) (hn : isNm o = true) (hs : isStar e = false) (hl : (apos.endLine == pos.line) = true) :
    PS X (.Expr (.Call (.Attribute o "extend" apos) [e] [] pos) epos) (tS c W fun env => andThen env (do let x ← fa env; let n ← lift (locV x); let v ← fb env; pure (n, v)) fun p h => change env (extL p.1 p.2 h)) := by
  refine (ps_expr (pe_bm PySem.F.plainAttrs_list PySem.F.slot_list_extend PySem.F.type_list_extend mt_extend ho (sA_one he hs) (base_of hn) (few_args hs) hl (star_of _ _ _ hs) back_nil) rfl).imp fun D σ H q => ?_
  obtain ⟨env, h, ml, G, s, o⟩ := q
  refine meth_one (k := extL) (r := rExtend) hX s o fun n p v y h ml G H s em r o => ?_
  unfold extL at o
  split at o
  · rename_i l m e e2
    split at o
    · rename_i hz
      obtain ⟨xs, eH, rs⟩ := s.at e em
      obtain ⟨p2, ys, rfl, q2, rs2⟩ := lst_at s r e2
      obtain ⟨g, s2⟩ := s.chg e em (rs.append rs2)
      exact ⟨p, p2, xs, ys, rfl, rfl, eH, q2, by rw [rs.length, rs2.length, sizeSZ]; exact hz, o ml G _ σ g s2⟩
    · exact o.elim
  · exact o.elim

theorem setI_ix (n : Nat) (i : Int) : L2.ixN n i = MP.ixN n i := rfl
theorem pg_item {i : Expr} {to ti : TE} (ho : PE X o to) (hi : PE X i ti) (hs : isSlice i = false) : PG X (.Subscript o i pos) (gSub to ti rSetL) := by
  refine pg_sub ho hi set_list fun v => ?_
  cases i with
  | Slice _ _ _ _ => simp [isSlice] at hs
  | _ => rfl
theorem sole_false {t e : Expr} {l : Nat} {en : PySem.Env} (h : isNm t = false) : swapsWithSole [t] e l en = pure false := by
  show swapsWith e (some t) l en = pure false
  unfold swapsWith
  cases e <;> first | rfl | (cases t <;> first | rfl | (simp [isNm] at h))
theorem sS_setI {i : Expr} {p3 : Pos} (hX : Good c X) (he : PE X e (tE c W fc)) (ho : PE X o (tE c W fa)) (hi : PE X i (tE c W fb)) (hs : isSlice i = false) :
    PS X (.Assign [.Subscript o i p3] e pos) (tS c W fun env => andThen env (do let v ← fc env; let x ← fa env; let j ← fb env; pure (v, x, j)) fun p h => change env (setIL p.2.1 p.2.2 p.1 h)) := by
  refine (ps_asg he (pg_item ho hi hs) (sole_false rfl) rfl rfl).imp fun D σ H q => ?_
  obtain ⟨env, h, ml, G, s, o⟩ := q
  have o := OkS.after (σ := σ) o
  refine tE.imp (tE.three (fa := fc) (fb := fa) (fc := fb) s o) fun v H1 q1 => tE.imp q1 fun x H2 q2 => tE.imp q2 fun j H3 ⟨v', x', j', h3, ml3, G3, s3, r1, r2, r3, o3⟩ => ?_
  have o3 := o3.pure s3
  simp only at o3
  unfold setIL at o3
  split at o3
  · rename_i n k
    split at o3
    · rename_i l e
      split at o3
      · rename_i m hm
        obtain ⟨p, xs, em, rfl, eH, rs⟩ := loc_ty hX s3 r2 e
        obtain ⟨g, s4⟩ := s3.chg e em (rs.set m r1)
        exact ⟨p, xs, _, m, rfl, r3.int', eH, by rw [rs.length]; exact hm, o3 ml3 G3 _ σ g s4⟩
      · exact o3.elim
    · exact o3.elim
  · exact o3.elim
end
end MPS

namespace MPS
open PySem PySem.Spec L2 MP
section
variable {c : C} {W : WX} {X : Cx} {a b d e o : Expr} {fa fb fc : MEnv → M Val} {pos p1 p2 : Pos}
theorem each_of {H : Hp} {ml : List Addr} {G : Addr → Prop} : ∀ {l : List Val} {xs : List V} {us : List Value}, RVs c H ml G l xs → Vals xs us → PySem.W.EachIs (fun (v : Value) (b : Val) => ∃ x, RelV x v ∧ RV c H ml G b x) us l
  | [], xs, us, r, v => by
    have := r.inv0
    subst this
    cases v
    exact .nil
  | d :: ds, xs, us, r, v => by
    obtain ⟨x, t, rfl, r1, r2⟩ := r.inv
    cases v with
    | cons h1 h2 => exact .cons ⟨x, h1, r1⟩ (each_of r2 h2)
theorem of_each {H : Hp} {ml : List Addr} {G : Addr → Prop} : ∀ {l : List Val} {us : List Value}, PySem.W.EachIs (fun (v : Value) (b : Val) => ∃ x, RelV x v ∧ RV c H ml G b x) us l → ∃ xs, Vals xs us ∧ RVs c H ml G l xs
  | _, _, .nil => ⟨[], .nil, .nil⟩
  | _, _, .cons ⟨x, r1, r2⟩ t => by
    obtain ⟨xs, v, r⟩ := of_each t
    exact ⟨x :: xs, .cons r1 v, .cons r2 r⟩
theorem each_and {α β : Type} {R S : α → β → Prop} {as : List α} {bs : List β} (h : PySem.W.EachIs R as bs) (k : ∀ a b, b ∈ bs → R a b → S a b) : PySem.W.EachIs S as bs := by
  induction h with
  | nil => exact .nil
  | cons h1 _ ih => exact .cons (k _ _ List.mem_cons_self h1) (ih fun a b hb => k a b (List.mem_cons_of_mem _ hb))
theorem okDL_mem {n : Nat} : ∀ {l : List Val}, okDL n l = true → ∀ v ∈ l, v.okD n = true
  | [], _, v, h => by cases h
  | x :: r, h, v, hv => by
    simp only [okDL, Bool.and_eq_true] at h
    rcases List.mem_cons.mp hv with e | hv
    · rw [e]; exact h.1
    · exact okDL_mem h.2 v hv
def rSort (c : C) : List V → Hp → VK → Prop := fun xs H Q => ∃ (env : MEnv) (h : MHeap) (ml : List Addr) (G : Addr → Prop) (σ : L2.St) (v : Val) (x : V) (l m : List Val), xs = [x] ∧ SR c env h ml G σ H ∧ RV c H ml G v x ∧ lstV h v = some l ∧ sortV l = some m ∧
  ∀ p ys, H p = none → RVs c H ml G m ys → Q (.ref p) (upd H p (.lst ys))
theorem cr_sort (hX : Good c X) : CallR X (.builtin "sorted") (rSort c) := by
  intro pins s σ' H xs us Q I r q
  obtain ⟨env, h, ml, G, σ, v, x, l, m, rfl, sr, rv, e, em, q⟩ := q
  have hun := hX.un
  obtain ⟨p, ys, rfl, hs, rs⟩ := lst_at sr rv e
  have hs' : SqL X.K H p ys := SqL.of hs
  obtain ⟨its, rv2, hl, hz⟩ := I.list hs'
  rw [Vals.ref1 r]
  unfold sortV at em
  split at em
  · rename_i hk
    cases em
    unfold sortable at hk
    simp only [Bool.and_eq_true, decide_eq_true_eq] at hk
    obtain ⟨⟨⟨h1, h2⟩, h3⟩, h4⟩ := hk
    have dp := okDL_mem h1
    refine PySem.W.sorted_data (R := fun (v : Value) (b : Val) => ∃ x, RelV x v ∧ RV c H ml G b x) (enc := pd) (bs := l) hl.isList (each_of rs rv2) (each_and (each_of rs rv2) fun u b hb ⟨y, r1, r2⟩ => ?_) ?_ ?_ (by rw [← sizeSZ] at h4; exact h4) (fun b hb => ?_) fun out hlen ho => ?_
    · have := dp_of 60 b y (dp b hb) r2
      rw [← hX.K] at this
      exact Dp.reads I _ _ _ this r1
    · intro d hd d' hd'
      obtain ⟨b, hb, rfl⟩ := List.mem_map.mp hd
      obtain ⟨b', hb', rfl⟩ := List.mem_map.mp hd'
      exact List.all_eq_true.mp (List.all_eq_true.mp h2 b hb) b' hb'
    · rcases Bool.or_eq_true _ _ |>.mp h3 with h3 | h3
      · refine .inl fun d hd => ?_
        obtain ⟨b, hb, rfl⟩ := List.mem_map.mp hd
        have := List.all_eq_true.mp h3 b hb
        split at this
        · rename_i x r
          exact ⟨pd x, pdL r, by simp only [pd, pdL]⟩
        · cases this
      · refine .inr fun d hd => ?_
        obtain ⟨b, hb, rfl⟩ := List.mem_map.mp hd
        have := List.all_eq_true.mp h3 b hb
        have ok := dp b hb
        cases b with
        | tup _ => simp at this
        | non => simp at this
        | bl _ => exact ⟨by simp [pd], by simp [pd]⟩
        | int _ => exact ⟨by simp [pd], by simp [pd]⟩
        | str _ => exact ⟨by simp [pd], by simp [pd]⟩
        | lst _ => exact ⟨by simp [pd], by simp [pd]⟩
        | _ => simp [Val.okD] at ok
    · have := (pd_can 60 b (dp b hb)).2
      omega
    · obtain ⟨zs, rz, rs2⟩ := of_each ho
      obtain ⟨ep, he'⟩ := PyProof.Rows.sortedAll_at s.heap its out.toArray
      have hlen2 : zs.length ≤ sizeLine := by
        rw [rz.length, hlen, ← rs.length]; exact hz
      exact ⟨.ref _, upd H (s.heap.objs.size + 1) (.lst zs), I.laid (t' := s.toks) (fun _ _ => PyProof.Rows.sortedAll_old) (Nat.le_succ _) ⟨hlen2, out, ep, rz, he'⟩, rfl, q _ _ (I.hok.fresh (Nat.le_succ _)) rs2⟩
  · cases em
theorem sF_sort {p1 pos : Pos} (hX : Good c X) (hg : Gl X "sorted") (hm : X.mg "sorted" = none) (ha : PE X a (tE c W fa)) (hs : isStar a = false) : PE X (.Call (.Name "sorted" p1) [a] [] pos) (tF c W fun env => do let x ← fa env; let l ← liftH fun h => lstV h x; lift (sortV l)) := by
  refine (pe_callB (cr_sort hX) hg hm rfl (sA_one ha hs) (by decide) (by decide) (star_of _ _ _ hs) rfl).imp fun σ H Q q => ?_
  obtain ⟨env, h, ml, G, s, o⟩ := q
  refine ⟨env, h, ml, G, s, (okF_exc o).imp fun v h1 ml1 G1 H1 g1 s1 o1 x r1 => ?_⟩
  obtain ⟨l, e, o2⟩ := (okF_exc o1).liftH s1
  obtain ⟨m, em, o3⟩ := OkF.lift o2
  exact ⟨env, h1, ml1, G1, σ, v, x, l, m, rfl, s1, r1, e, em, fun p ys hp rs => okF_laid s1 o3 rs hp⟩
theorem pg_slice {to : TE} {tl th : TO} {lo hi : Option Expr} {sp : Pos} (ho : PE X o to) (hl : PO X lo tl) (hh : PO X hi th) :
    PG X (.Subscript o (.Slice lo hi none sp) pos) (fun v σ H Q => to σ H fun x H1 => tl σ H1 fun l H2 => th σ H2 fun u H3 => ∃ (p b : Addr) (xs ys : List V) (i j : Int), x = .ref p ∧ v = .ref b ∧ H3 p = some (.lst xs) ∧ H3 b = some (.lst ys) ∧ p ≠ b ∧ l = some i ∧ u = some j ∧
      0 ≤ i ∧ i ≤ j ∧ j ≤ xs.length ∧ xs.length + ys.length ≤ sizeLine ∧ Q σ (upd H3 p (.lst (xs.take i.toNat ++ ys ++ xs.drop j.toNat)))) := by
  refine ⟨fun pins s σ H v u Q I r q => ?_⟩
  show wpAny (model X.prog X.w) X.A (do
      let ov ← holding [u] (eval o X.env)
      let iv ← holding [u, ov] (eval (.Slice lo hi none sp) X.env)
      standAt pos
      holding [u, ov, iv] (setItem ov iv u)
      release [iv, u, ov] []) _ _ s
  refine wpAny_bind (wpAny_holding (thn (ho.run pins s σ H _ I q) fun ov s1 ⟨x, H1, I1, r1, q1⟩ => ?_))
  refine wpAny_bind (wpAny_holding ?_)
  refine wpAny_Slice (thn (hl.run pins s1 σ H1 _ I1 q1) fun vl s2 ⟨l, H2, I2, pl, q2⟩ => thn (hh.run pins s2 σ H2 _ I2 q2) fun vu s3 ⟨w, H3, I3, pu, q3⟩ => ?_)
  rw [evalPart_none]
  refine wpAny_pure ?_
  obtain ⟨p, b, xs, ys, i, j, rfl, rfl, eH, eB, ne, rfl, rfl, k0, k1, k2, k3, q4⟩ := q3
  cases r1
  cases r
  have I4 : Inv X pins σ H3 { s3 with heap := s3.heap.push { cls := .type "slice", data := .fields #[vl, vu, .none] } } := I3.kept (t' := s3.toks) fun b ob q => Heap.get?_push_of_some _ q
  have rl : RelV (.int i) vl := by cases pl with | int _ t => exact ⟨t, rfl⟩
  have ru : RelV (.int j) vu := by cases pu with | int _ t => exact ⟨t, rfl⟩
  refine wpAny_bind (wpAny_standAt (wpAny_bind (wpAny_holding ?_)))
  refine set_slice (Q := fun (_ : Unit) (s' : Shared) => wpAny (model X.prog X.w) X.A (release [.ref s3.heap.objs.size, .ref b, .ref p] []) _ _ s') I4 eH eB ne (Heap.IsSliceOf.new ..) rl ru k0 k1 k2 k3 fun s' I5 => ?_
  exact wpAny_release ⟨σ, _, I5, q4⟩
theorem sS_setS {lo hi : Option Expr} {oa ob : MEnv → M (Option Int)} {p3 p4 : Pos} (hX : Good c X) (he : PE X e (tE c W fc)) (ho : PE X o (tE c W fa)) (hl : PO X lo (tO c W oa)) (hh : PO X hi (tO c W ob)) :
    PS X (.Assign [.Subscript o (.Slice lo hi none p4) p3] e pos) (tS c W fun env => andThen env (do let v ← fc env; let x ← fa env; let a ← oa env; let b ← ob env; pure (v, x, a, b)) fun p h => change env (setSL p.2.1 p.2.2.1 p.2.2.2 p.1 h)) := by
  refine (ps_asg he (pg_slice ho hl hh) (sole_false rfl) rfl rfl).imp fun D σ H q => ?_
  obtain ⟨env, h, ml, G, s, o⟩ := q
  have o := OkS.after (σ := σ) o
  refine ⟨env, h, ml, G, s, (Ok.bind o).imp fun v h1 ml1 G1 H1 g1 s1 o1 y r1 => ⟨env, h1, ml1, G1, s1, (Ok.bind o1).imp fun x h2 ml2 G2 H2 g2 s2 o2 z r2 => ⟨env, h2, ml2, G2, s2, (Ok.bind o2).imp fun i h3 ml3 G3 H3 g3 s3 o3 => ⟨env, h3, ml3, G3, s3, (Ok.bind o3).imp fun j h4 ml4 G4 H4 g4 s4 o4 => ?_⟩⟩⟩⟩
  have o4 := o4.pure s4
  simp only at o4
  have r1 := ((r1.mono g2).mono g3).mono g4
  have r2 := (r2.mono g3).mono g4
  obtain ⟨n, k, m, r, l, rfl, rfl, rfl, rfl, e, hk, o5⟩ : ∃ n k m r l, x = .loc n ∧ i = some k ∧ j = some m ∧ v = .lst r ∧ h4[n]? = some (.list l) ∧ (decide (0 ≤ k) && decide (k ≤ m) && decide (m ≤ l.length) && decide (l.length + r.length ≤ SZ)) = true ∧
      OkS c W (change env (some (h4.set n (.list (l.take k.toNat ++ r ++ l.drop m.toNat))))) ml4 G4 H4 D := by
    cases x with
    | loc n =>
      cases i with
      | some k =>
        cases j with
        | some m =>
          cases v with
          | lst r =>
            simp only [setSL] at o4
            cases e : h4[n]? with
            | none => rw [e] at o4; exact o4.elim
            | some ob =>
              cases ob with
              | dict _ _ => rw [e] at o4; exact o4.elim
              | list l =>
                rw [e] at o4
                simp only at o4
                split at o4
                · rename_i hk
                  exact ⟨n, k, m, r, l, rfl, rfl, rfl, rfl, e, hk, o4⟩
                · exact o4.elim
          | _ => exact o4.elim
        | none => exact o4.elim
      | none => exact o4.elim
    | _ => exact o4.elim
  simp only [Bool.and_eq_true, decide_eq_true_eq] at hk
  obtain ⟨⟨⟨k1, k2⟩, k3⟩, k4⟩ := hk
  obtain ⟨p, xs, em, rfl, eH, rs⟩ := loc_ty hX s4 r2 e
  obtain ⟨b, ys, rfl, ⟨eB, ng⟩, rs2⟩ := r1.lst'
  obtain ⟨g, s5⟩ := s4.chg e em (((rs.take k.toNat).append rs2).append (rs.drop m.toNat))
  exact ⟨p, b, xs, ys, k, m, rfl, rfl, eH, eB, fun z => ng (z ▸ s4.mg p (List.mem_of_getElem? em)), rfl, rfl, k1, k2, by rw [rs.length]; exact k3, by rw [rs.length, rs2.length, sizeSZ]; exact k4, o5 ml4 G4 _ σ g s5⟩
theorem few_two {a b : Expr} {en : PySem.Env} {cpos : Pos} (hs : isStar a = false) (hs2 : isStar b = false) : ((backTo cpos (starEach [a, b] en)).all (fun x => !x.1) && (backToKw cpos (keywordEach [] en)).all (fun x => x.1.isSome)
      && decide ([a, b].length + ([] : List Keyword).length + (if ([] : List Keyword).isEmpty then 0 else 1) < 30)) = true := by
  rw [star_of a [b] en hs, star_of b [] en hs2]
  rfl
theorem meth_two {k : Nat → Val → Val → MHeap → Option MHeap} {r : V → List V → Hp → VK → Prop} {env : MEnv} {h : MHeap} {ml : List Addr} {G : Addr → Prop} {σ : L2.St} {H : Hp} {D : Ends} (hX : Good c X) (s : SR c env h ml G σ H)
    (o : OkS c W (andThen env (do let x ← fa env; let n ← lift (locV x); let j ← fb env; let v ← fc env; pure (n, j, v)) (fun p h => change env (k p.1 p.2.1 p.2.2 h)) h) ml G H D)
    (fin : ∀ (n : Nat) (p : Addr) (j v : Val) (i y : V) (h : MHeap) (ml : List Addr) (G : Addr → Prop) (H : Hp), SR c env h ml G σ H → ml[n]? = some p → RV c H ml G j i → RV c H ml G v y → OkS c W (change env (k n j v h)) ml G H D → r (.ref p) [i, y] H fun _ H1 => D.nx σ H1) :
    tBM X.K "list" r (tE c W fa) (fun σ H Q => tE c W fb σ H fun x H1 => tE c W fc σ H1 fun y H2 => Q [x, y] H2) σ H fun _ H1 => D.nx σ H1 := by
  have o := OkS.after (σ := σ) o
  refine tE.imp (tE.one (fa := fa) s o) fun x H1 ⟨v, h1, ml1, G1, s1, r1, o1⟩ => ?_
  obtain ⟨n, e, o2⟩ := Ok.liftB o1 s1
  cases v with
  | loc m =>
    cases e
    obtain ⟨p, em, rfl⟩ := r1.loc'
    have hl : n < h1.length := by rw [← s1.len]; exact (List.getElem?_eq_some_iff.mp em).1
    have ho := List.getElem?_eq_getElem hl
    have q := s1.obj n _ p ho em
    refine ⟨?_, env, h1, ml1, G1, s1, (Ok.bind o2).imp fun w h2 ml2 G2 H2 g2 s2 o3 y r2 => ⟨env, h2, ml2, G2, s2, (Ok.bind o3).imp fun u h3 ml3 G3 H3 g3 s3 o4 z r3 => ?_⟩⟩
    · cases k : h1[n] with
      | list l => rw [k] at q; obtain ⟨xs, eH, _⟩ := q; exact tyV_lst eH
      | dict _ _ => rw [k] at q; exact q.elim
    · obtain ⟨new, e2, _⟩ := (g2.trans g3).pre
      have em2 : ml3[n]? = some p := by rw [e2, List.getElem?_append_left (List.getElem?_eq_some_iff.mp em).1]; exact em
      exact fin n p w u y z h3 ml3 G3 H3 s3 em2 (r2.mono g3) r3 (o4.pure s3)
  | _ => cases e
theorem sS_ins {apos epos : Pos} (hX : Good c X) (ho : PE X o (tE c W fa)) (hi : PE X b (tE c W fb)) (he : PE X e (tE c W fc)) (hn : isNm o = true) (hs : isStar b = false) (hs2 : isStar e = false) (hl : (apos.endLine == pos.line) = true) :
    PS X (.Expr (.Call (.Attribute o "insert" apos) [b, e] [] pos) epos) (tS c W fun env => andThen env (do let x ← fa env; let n ← lift (locV x); let j ← fb env; let v ← fc env; pure (n, j, v)) fun p h => change env (insL p.1 p.2.1 p.2.2 h)) := by
  refine (ps_expr (pe_bm PySem.F.plainAttrs_list PySem.F.slot_list_insert PySem.F.type_list_insert mt_insert ho (sA_two hi he hs hs2) (base_of hn) (few_two hs hs2) hl (star_of _ _ _ hs) (by rw [star_of e [] X.env hs2]; rfl)) rfl).imp fun D σ H q => ?_
  obtain ⟨env, h, ml, G, s, o⟩ := q
  refine meth_two (k := insL) (r := fun x vs H Q => ∃ (l : Addr) (xs : List V) (i : Int) (y : V), x = .ref l ∧ vs = [.int i, y] ∧ H l = some (.lst xs) ∧ xs.length < sizeLine ∧ 0 ≤ i ∧ i < 2 ^ 63 ∧
    Q .non (upd H l (.lst (xs.take i.toNat ++ [y] ++ xs.drop i.toNat)))) hX s o fun n p j v i y h ml G H s em rj r o => ?_
  unfold insL at o
  split at o
  · rename_i k
    split at o
    · rename_i l e
      split at o
      · rename_i hk
        simp only [Bool.and_eq_true, decide_eq_true_eq] at hk
        obtain ⟨⟨k1, k2⟩, k3⟩ := hk
        obtain ⟨xs, eH, rs⟩ := s.at e em
        obtain ⟨g, s2⟩ := s.chg e em (((rs.take k.toNat).append (.cons r .nil)).append (rs.drop k.toNat))
        exact ⟨p, xs, k, y, rfl, by rw [rj.int'], eH, by rw [rs.length, sizeSZ]; exact k3, k1, k2, o ml G _ σ g s2⟩
      · exact o.elim
    · exact o.elim
  · exact o.elim
theorem pdL_map : ∀ l : List Val, pdL l = l.map pd
  | [] => by simp [pdL]
  | x :: r => by simp [pdL, pdL_map r]
theorem place_eq {l : List Val} {v : Val} (k : okDL 60 l = true) (k2 : v.okD 60 = true) : PySem.SeqAt.dataPlace (l.map pd) (pd v) = placeV l v := by
  unfold PySem.SeqAt.dataPlace placeV
  rw [List.findIdx?_map]
  have : ∀ m : List Val, okDL 60 m = true → List.findIdx? ((fun y => PyData.eqv y (pd v)) ∘ pd) m = List.findIdx? (fun y => y.eqv v) m := fun m hm => by
    induction m with
    | nil => rfl
    | cons x r ih =>
      simp only [okDL, Bool.and_eq_true] at hm
      rw [List.findIdx?_cons, List.findIdx?_cons, ih hm.2]
      show (if PyData.eqv (pd x) (pd v) = true then _ else _) = _
      rw [pd_eqv 60 60 x v hm.1 k2]
  exact this l k
def rRem (c : C) : V → List V → Hp → VK → Prop := fun x vs H Q => ∃ (env : MEnv) (h : MHeap) (ml : List Addr) (G : Addr → Prop) (σ : L2.St) (n : Nat) (p : Addr) (v : Val) (y : V) (l : List Val) (j : Nat), x = .ref p ∧ vs = [y] ∧ SR c env h ml G σ H ∧ ml[n]? = some p ∧ RV c H ml G v y ∧ h[n]? = some (.list l) ∧
  okDL 60 l = true ∧ v.okD 60 = true ∧ l.length ≤ SZ ∧ placeV l v = some j ∧ ∀ xs, H p = some (.lst xs) → Q .non (upd H p (.lst (xs.take j ++ xs.drop (j + 1))))
theorem mt_rem (hX : Good c X) : MtR X "list.remove" (rRem c) := by
  intro pins s σ' H x vs v us Q I rx rv h
  obtain ⟨env, h, ml, G, σ, n, p, w, y, l, j, rfl, rfl, sr, em, ry, e, k1, k2, k3, ej, q⟩ := h
  cases rx
  have hun := hX.un
  obtain ⟨xs, eH, rs⟩ := sr.at e em
  obtain ⟨z, its, m, r, hl, eo⟩ := I.lstM eH
  obtain ⟨u, rfl, ru⟩ := rv.one
  obtain ⟨c1, c2⟩ := pdL_can 60 l k1
  rw [pdL_map] at c1 c2
  have dv := dp_of 60 w y k2 ry
  rw [← hX.K] at dv
  obtain ⟨bs, rx⟩ := Dp.reads I _ _ _ dv ru
  have ea : PySem.W.EachIs (fun (u : Value) (b : Val) => ∃ as, Reads s.heap u (pd b) as) its l := each_and (each_of rs r) fun u b hb ⟨y', r1, r2⟩ => by
    have := dp_of 60 b y' (okDL_mem k1 b hb) r2
    rw [← hX.K] at this
    exact Dp.reads I _ _ _ this r1
  obtain ⟨as, ra⟩ := PySem.W.each_readsAll pd ea
  have hil : s.heap.IsList p its.toArray := ⟨_, eo, rfl, m, rfl⟩
  have hj : j < l.length := (List.findIdx?_eq_some_iff_getElem.mp ej).1
  have hji : j < its.length := by rw [← hl, rs.length]; exact hj
  refine PySem.SeqAt.remove_list_data (vs := its.toArray) hil ra rx (PyData.plainAll_of_canLay0 _ c1) (PyData.plain_of_canLay0 _ (pd_can 60 w k2).1) (by omega) ((place_eq k1 k2).trans ej) (by rw [List.size_toArray, ← hl]; exact z) ?_
  refine ⟨.non, _, I.lset (its' := its.take j ++ its.drop (j + 1)) eH eo ?_ ((r.take j).append (r.drop (j + 1))) ?_, rfl, q xs eH⟩
  · simp [Array.eraseIdxIfInBounds, hji, List.eraseIdx_eq_take_drop_succ]
  · rw [List.length_append, List.length_take, List.length_drop]
    omega
theorem sS_rem {apos epos : Pos} (hX : Good c X) (ho : PE X o (tE c W fa)) (he : PE X e (tE c W fb)) (hn : isNm o = true) (hs : isStar e = false) (hl : (apos.endLine == pos.line) = true) :
    PS X (.Expr (.Call (.Attribute o "remove" apos) [e] [] pos) epos) (tS c W fun env => andThen env (do let x ← fa env; let n ← lift (locV x); let v ← fb env; pure (n, v)) fun p h => change env (remL p.1 p.2 h)) := by
  refine (ps_expr (pe_bm PySem.F.plainAttrs_list PySem.F.slot_list_remove PySem.F.type_list_remove (mt_rem hX) ho (sA_one he hs) (base_of hn) (few_args hs) hl (star_of _ _ _ hs) back_nil) rfl).imp fun D σ H q => ?_
  obtain ⟨env, h, ml, G, s, o⟩ := q
  refine meth_one (k := remL) (r := rRem c) hX s o fun n p v y h ml G H s em r o => ?_
  unfold remL at o
  split at o
  · rename_i l e
    split at o
    · rename_i hk
      simp only [Bool.and_eq_true, decide_eq_true_eq] at hk
      obtain ⟨⟨k1, k2⟩, k3⟩ := hk
      split at o
      · rename_i j ej
        refine ⟨env, h, ml, G, σ, n, p, v, y, l, j, rfl, rfl, s, em, r, e, k1, k2, k3, ej, fun xs eH => ?_⟩
        obtain ⟨xs', eH', rs⟩ := s.at e em
        cases eH.symm.trans eH'
        obtain ⟨g, s2⟩ := s.chg e em ((rs.take j).append (rs.drop (j + 1)))
        exact o ml G _ σ g s2
      · exact o.elim
    · exact o.elim
  · exact o.elim
theorem sI_rev {tg : Expr} (hX : Good c X) (hg : Gl X "reversed") (hm : X.mg "reversed" = none) (ha : PE X a (tE c W fa)) (hs : isStar a = false) : PI X tg (.Call (.Name "reversed" p1) [a] [] pos) (tI c W fun env => do let x ← fa env; let l ← liftH fun h => seqV h x; pure ⟨l.reverse, locksOf x⟩) := by
  refine (RT.pi_revA hg hm ha (star_of a [] X.env hs)).imp fun σ H R q => ?_
  obtain ⟨env, h, ml, G, s, o⟩ := q
  refine tE.imp (tE.one (fa := fa) s o) fun x H1 ⟨v, h1, ml1, G1, s1, r1, o1⟩ => ?_
  obtain ⟨l, e, o2⟩ := Ok.liftHB o1 s1
  have q := o2.pure s1 s1
  have rev_at : ∀ {l : List Val} {i : Nat} {u : Val}, l.reverse[i]? = some u → l[l.length - 1 - i]? = some u ∧ i < l.length := fun {l i u} e => by
    have hi : i < l.length := by have := (List.getElem?_eq_some_iff.mp e).1; simpa using this
    rw [List.getElem?_reverse hi] at e
    exact ⟨e, hi⟩
  rcases seq_two e with rfl | e
  · obtain ⟨p, xs, rfl, sq, rs⟩ := r1.tup'
    refine ⟨p, xs, rfl, .inr ⟨hX.K ▸ sq, q _ fun i env2 σ2 h2 ml2 G2 H2 g s2 st => ?_⟩⟩
    obtain ⟨ys, sq2, rs2⟩ := sv_tup hX r1 g
    have el : ys.length = xs.length := by rw [rs2.length, rs.length]
    refine ⟨fun hi => (show xs.length ≤ i by rw [rs.length]; simpa using hi), fun u eu => ?_⟩
    obtain ⟨e1, e2⟩ := rev_at eu
    obtain ⟨y, ey, ry⟩ := rs2.get e1
    have ei : xs.length - 1 - i = l.length - 1 - i := by rw [rs.length]
    refine ⟨⟨by rw [rs.length]; exact e2, ys, y, sq2, by rw [ei]; exact ey⟩, fun x H3 yl => ?_⟩
    obtain ⟨rfl, yl⟩ := yl
    have := yl ys sq2
    rw [ei, ey] at this
    cases this
    exact ⟨s2.refl, fun _ _ => rfl, fun _ _ => rfl, ry, s2.tb⟩
  · obtain ⟨p, xs, rfl, sq, rs⟩ := scr_at s1 r1 e
    refine ⟨p, xs, rfl, .inl ⟨hX.K ▸ sq, q _ fun i env2 σ2 h2 ml2 G2 H2 g s2 st => ?_⟩⟩
    obtain ⟨ys, sq2, rs2⟩ := sv_scr hX r1 e (fun _ z => z) g s2 st
    refine ⟨fun hi => (show xs.length ≤ i by rw [rs.length]; simpa using hi), fun u eu => ?_⟩
    obtain ⟨e1, e2⟩ := rev_at eu
    obtain ⟨y, ey, ry⟩ := rs2.get e1
    have ei : xs.length - 1 - i = l.length - 1 - i := by rw [rs.length]
    refine ⟨⟨by rw [rs.length]; exact e2, ys, y, sq2, by rw [ei]; exact ey⟩, fun x H3 yl => ?_⟩
    obtain ⟨rfl, yl⟩ := yl
    have := yl ys sq2
    rw [ei, ey] at this
    cases this
    exact ⟨s2.refl, fun _ _ => rfl, fun _ _ => rfl, ry, s2.tb⟩
end
end MPS

namespace MPS
open PySem PySem.Spec L2 MP PyProof.Rows
/-- t * 1 is t -/
theorem tup_one (l : Addr) (items : Array Value) (n : Nat) (dd : Option Addr) (sl : Array (Option Value)) (u : Tok) :
    Meets (Builtin.«tuple.__mul__» ⟨[.ref l, .int 1 u], []⟩) (fun _ R s => s.heap.get? l = some { cls := .type "tuple", dict := dd, data := .seq items n, slots := sl } ∧ R (.ok (.ret (.ref l))) s) :=
  .of_wp fun prog w A R s h => by
    obtain ⟨hp, g, d, tk, os⟩ := s
    obtain ⟨hl, h⟩ := h
    have f1 := AutoSeq1.idx_int
    have c1 : (items.isEmpty || (1 : Int) == 1) = true := by simp
    wp_walk using wpAny_loadPart' hl
    exact ⟨_, rfl, h⟩
section
variable {c : C} {W : WX} {X : Cx} {a b d e o : Expr} {fa fb fc : MEnv → M Val} {pos p1 p2 : Pos}
theorem or_one : OpR X (binaryOp .Mult) (fun x y H Q => ∃ l xs, x = .ref l ∧ y = .int 1 ∧ SqT X.K H l xs ∧ Q (.ref l) H) := by
  intro pins s σ H x y v u Q I rx ry h
  obtain ⟨l, xs, rfl, rfl, hT, q⟩ := h
  cases rx
  obtain ⟨t, rfl⟩ := ry
  obtain ⟨its, r, ⟨⟨cls, dd, data, sl⟩, ho, hc, n, hd⟩, hs⟩ := I.tuple hT
  simp only at hc hd
  subst hc hd
  refine wpAny_binaryOp_repeat_ref (T := "tuple") (U := "int") (by decide) ⟨_, ho, rfl⟩ (fun s' => typeIs_int s' 1 t) noFill_tuple_mul F.fills_int_mul F.slot_int_rmul repeat_tuple F.slot_int_index.lookup
    (call_meets F.slot_int_rmul (typeIs_int s 1 t) F.entry_int_rmul (F.args_int_rmul_2 _ _) (int_rmul_tuple 1 t l its.toArray n dd sl)
      ⟨ho, rfl, ⟨_, ho, rfl⟩, call_meets F.slot_tuple_mul ⟨_, ho, rfl⟩ F.entry_tuple_mul (F.args_tuple_mul_2 _ _) (tup_one l its.toArray n dd sl t) ⟨ho, ?_⟩⟩)
  exact ⟨.ref l, H, I, rfl, q⟩
def rRepA (c : C) (W : WX) : R2 := fun x y H Q => ∃ (env : MEnv) (h : MHeap) (ml : List Addr) (G : Addr → Prop) (σ : L2.St) (v w : Val), SR c env h ml G σ H ∧ RV c H ml G v x ∧ RV c H ml G w y ∧
  Ok c W env σ (lift (trepV v w) h) ml G H fun u _ ml' G' H' => ∀ z, RV c H' ml' G' u z → Q z H'
theorem or_rep (hX : Good c X) : OpR X (binaryOp .Mult) (rRepA c W) := by
  intro pins s σ' H x y v u Q I rx ry hh
  obtain ⟨env, h, ml, G, σ, d, e, sr, r1, r2, o⟩ := hh
  obtain ⟨m, em, o0⟩ := o.liftG
  unfold trepV at em
  split at em
  · rename_i l k
    split at em
    · rename_i hk
      cases em
      simp only [Bool.and_eq_true, decide_eq_true_eq] at hk
      obtain ⟨⟨⟨k1, k2⟩, k3⟩, k4⟩ := hk
      obtain ⟨p, xs, rfl, sq, rs⟩ := r1.tup'
      have sq' : SqT X.K H p xs := hX.K ▸ sq
      by_cases h1 : k = 1
      · subst h1
        refine or_one pins s σ' H _ y v u Q I rx ry ⟨p, xs, rfl, r2.int', sq', o0 ml G H sr.refl sr _ (.tup sq ?_)⟩
        simpa using rs
      · refine op_repT pins s σ' H _ y v u Q I rx ry ⟨p, k, xs, rfl, r2.int', sq', fun z => k1 ?_, by omega, k3, by rw [rs.length]; exact k4, fun q hq => o0 ml G _ (sr.fresh _ hq) (sr.laid _ hq) _ (.tup (SqT.of upd_same) ?_)⟩
        · have := rs.length
          rw [z] at this
          exact List.eq_nil_of_length_eq_zero this.symm
        · exact (rs.mono (sr.fresh _ hq)).flat
    · cases em
  · cases em
theorem sE_trep (hX : Good c X) (ha : PE X a (tE c W fa)) (hb : PE X b (tE c W fb)) : PE X (.BinOp a .Mult b pos) (tE c W fun env => do let x ← fa env; let y ← fb env; lift (trepV x y)) := by
  refine (pe_op (or_rep (W := W) hX) ha hb).imp fun σ H Q q => ?_
  obtain ⟨env, h, ml, G, s, o⟩ := q
  have k2 := tE.two (fa := fa) (fb := fb) s o
  refine tE.imp k2 fun x H1 q1 => tE.imp q1 fun y H2 ⟨v, w, h2, ml2, G2, s2, r1, r2, o2⟩ => ⟨env, h2, ml2, G2, σ, v, w, s2, r1, r2, o2⟩
theorem slice_rev {prog : Program} {w : World} {A : Around} {E : Value → Shared → Prop} {s : Shared} {sl : Addr} {vl vu vs : Value} {n : Nat} {Q : Int × Int × Nat → Shared → Prop} (hs : s.heap.IsSliceOf sl vl vu vs) (pl : IsPart vl none) (pu : IsPart vu none) (ps : IsPart vs (some (-1)))
    (h : Q ((n : Int) - 1, -1, n) s) : wpAny (model prog w) A (Builtin.Slice.sliceApplied (.ref sl) (pure (n : Int))) Q E s := by
  obtain ⟨os, hos, hcs, hds⟩ := id hs
  unfold Builtin.Slice.sliceApplied Builtin.Slice.sliceFields
  refine wpAny_bind (wpAny_bind (wpAny_field hos hds (x := vl) rfl (wpAny_bind (wpAny_field hos hds (x := vu) rfl (wpAny_bind (wpAny_field hos hds (x := vs) rfl (wpAny_pure ?_)))))))
  refine wpAny_bind (HT.slicePart_ ps ?_)
  show wpAny _ _ (if ((-1 : Int) == 0) = true then _ else _) _ _ s
  rw [if_neg (by decide)]
  refine wpAny_bind (HT.slicePart_ pl (wpAny_bind (HT.slicePart_ pu (wpAny_bind (wpAny_pure ?_)))))
  show wpAny _ _ (match Builtin.Slice.sliceAdjust none none (-1) (n : Int) with | (lo, hi) => pure (lo, (-1 : Int), Builtin.Slice.slicePlaces lo hi (-1))) _ _ s
  have e1 : Builtin.Slice.sliceAdjust none none (-1) (n : Int) = ((n : Int) - 1, -1) := by
    unfold Builtin.Slice.sliceAdjust
    simp
  rw [e1]
  show wpAny _ _ (pure ((n : Int) - 1, (-1 : Int), Builtin.Slice.slicePlaces ((n : Int) - 1) (-1) (-1))) _ _ s
  have e2 : Builtin.Slice.slicePlaces ((n : Int) - 1) (-1) (-1) = n := by
    unfold Builtin.Slice.slicePlaces
    rw [if_neg (by decide)]
    by_cases hn : n = 0
    · subst hn; decide
    · rw [if_pos (by omega), show (-(-1 : Int)) = 1 from rfl, Int.ediv_one]; omega
  rw [e2]
  exact wpAny_pure h
theorem pick_rev (xs : Array Value) : ((List.range xs.size).filterMap fun (m : Nat) => xs[((xs.size : Int) - 1 + (m : Int) * -1).toNat]?).toArray = xs.toList.reverse.toArray := by
  congr 1
  have e : ∀ l : List Value, (List.range l.length).filterMap (fun (m : Nat) => l[((l.length : Int) - 1 + (m : Int) * -1).toNat]?) = l.reverse := fun l => by
    have go : ∀ k : Nat, k ≤ l.length → (List.range k).filterMap (fun (m : Nat) => l[((l.length : Int) - 1 + (m : Int) * -1).toNat]?) = l.reverse.take k := fun k => by
      induction k with
      | zero => intro _; simp
      | succ k ih =>
        intro hk
        have e1 : ((l.length : Int) - 1 + (k : Int) * -1).toNat = l.length - 1 - k := by omega
        rw [List.range_succ, List.filterMap_append, ih (by omega), List.take_succ, List.getElem?_reverse (by omega)]
        simp only [List.filterMap_cons, List.filterMap_nil, e1]
        rw [List.getElem?_eq_getElem (show l.length - 1 - k < l.length by omega)]
        rfl
    have := go l.length (Nat.le_refl _)
    rw [this, List.take_of_length_le (by simp)]
  have := e xs.toList
  simpa using this
theorem get_rev {prog : Program} {w : World} {A : Around} {E : Value → Shared → Prop} {s : Shared} {t sl : Addr} {items : Array Value} {vl vu vs : Value} {Q : Value → Shared → Prop} (ht : IsTup s.heap t items) (hs : s.heap.IsSliceOf sl vl vu vs) (pl : IsPart vl none) (pu : IsPart vu none) (ps : IsPart vs (some (-1)))
    (h : Q (.ref s.heap.objs.size) { s with heap := s.heap.push { cls := .type "tuple", data := .seq items.toList.reverse.toArray } }) (hsz : items.size ≤ sizeLine) : wpAny (model prog w) A (getItem (.ref t) (.ref sl)) Q E s := by
  have fits : sizeOk (.seq items.toList.reverse.toArray) := by
    show items.toList.reverse.toArray.size ≤ sizeLine
    simpa using hsz
  obtain ⟨os, hos, hcs, hds⟩ := id hs
  have hTs : s.TypeIs (.ref sl) "slice" := ⟨os, hos, hcs⟩
  unfold getItem
  try with_reducible refine wpAny_holding ?_
  first | refine wpAny_bind (wpAny_pure ?_) | skip
  refine wpAny_bind (wpAny_sequenceKey ht.typeIs (by decide) ?_)
  refine wpAny_bind (wpAny_callSpecial?_slot (name := Str.ofString "__getitem__") ht.typeIs slot_tuple_getitem (wpAny_call_entry slot_tuple_getitem ht.typeIs entry_tuple_getitem ?_ (args_tuple_getitem _ _)))
  show wpAny _ _ (Builtin.Tuple.tupleItemsOf (.ref t) >>= _) _ _ s
  refine wpAny_bind (tupleItemsOf_ ht ?_)
  refine wpAny_bind (wpAny_typeOf hTs ?_)
  rw [if_pos (by decide)]
  refine wpAny_bind (slice_rev hs pl pu ps ?_)
  have no : ¬ ((((items.size : Int) - 1) == 0 && (-1 : Int) == 1 && items.size == items.size) = true) := by simp
  show wpAny _ _ (if (((items.size : Int) - 1) == 0 && (-1 : Int) == 1 && items.size == items.size) = true then _ else _) _ _ s
  rw [if_neg no, pick_rev]
  first
    | exact wpAny_bind (m := Builtin.Tuple.tupleExact _) (wpAny_newObj_type (wpAny_pure ⟨_, rfl, wpAny_pure h⟩) fits)
    | exact wpAny_bind (m := Builtin.Tuple.tupleExact _) (wpAny_newObj_type (wpAny_bind (wpAny_pure (wpAny_pure ⟨_, rfl, wpAny_pure h⟩))) fits)
def tRevT (K : PySem.W.Frag) (te : TE) : TE := fun σ H Q => te σ H fun x H1 => ∃ a xs, x = .ref a ∧ SqT K H1 a xs ∧ ∀ p, H1 p = none → Q (.ref p) (upd H1 p (.tup xs.reverse))
theorem pe_revT {te : TE} {k : Nat} {q1 q2 q3 : Pos} (he : PE X e te) : PE X (.Subscript e (.Slice none none (some (.UnaryOp .USub (.Constant (.int 1) k q1) q2)) q3) pos) (tRevT X.K te) := by
  refine ⟨fun pins s σ H Q I hh => ?_⟩
  refine Subscript_ (thn (he.run pins s σ H _ I hh) fun v s1 z => ?_)
  obtain ⟨x, H1, I1, r1, a, xs, rfl, hx, q⟩ := z
  cases r1
  have hst : PO X (some (.UnaryOp .USub (.Constant (.int 1) k q1) q2)) (tPart (tUn (rU fun i => .int (-i)) (tC (.int 1)))) := po_some (pe_un un_neg pe_int)
  refine wpAny_Slice (thn (po_none.run pins s1 σ H1 (fun o H2 => o = none ∧ H2 = H1) I1 ⟨rfl, rfl⟩) fun vl s2 ⟨l, H2, I2, pl, el, e2⟩ => ?_)
  subst el e2
  refine thn (po_none.run pins s2 σ H2 (fun o H3 => o = none ∧ H3 = H2) I2 ⟨rfl, rfl⟩) fun vu s3 ⟨u, H3, I3, pu, eu, e3⟩ => ?_
  subst eu e3
  refine thn (hst.run pins s3 σ H3 (fun o H4 => o = some (-1) ∧ H4 = H3) I3 ⟨1, rfl, -1, rfl, rfl, rfl⟩) fun vs s4 ⟨w, H4, I4, ps, eo, e4⟩ => ?_
  subst eo e4
  have I5 : Inv X pins σ H4 { s4 with heap := s4.heap.push { cls := .type "slice", data := .fields #[vl, vu, vs] } } := I4.kept (t' := s4.toks) fun b ob q => Heap.get?_push_of_some _ q
  obtain ⟨its, r, ht, hz⟩ := I5.tuple hx
  have hlen := r.length
  show wpAny (model X.prog X.w) X.A (subscriptTail e (.Slice none none (some (.UnaryOp .USub (.Constant (.int 1) k q1) q2)) q3) (.ref a) (.ref s4.heap.objs.size)) (EP X pins σ Q) X.xe { s4 with heap := s4.heap.push { cls := .type "slice", data := .fields #[vl, vu, vs] } }
  refine tail_any (ops := [.ref a, .ref s4.heap.objs.size]) ht.typeIs (slot_tuple_getitem.lookup) ?_ (by with_unfolding_all rfl)
  refine get_rev ht (Heap.IsSliceOf.new _ vl vu vs) pl pu ps ?_ (by rw [List.size_toArray]; omega)
  refine ⟨.ref _, _, I5.laid (t' := s4.toks) (o := .tup xs.reverse) (fun b ob q => Heap.get?_push_of_some _ q) (Nat.le_refl _) ?_, rfl, q _ (I5.hok.fresh (Nat.le_refl _))⟩
  exact ⟨by rw [List.length_reverse]; exact hz, its.reverse, r.reverse, IsTup.new _ _⟩
theorem RVs.rev {H : Hp} {ml : List Addr} {G : Addr → Prop} : ∀ {l : List Val} {xs : List V}, RVs c H ml G l xs → RVs c H ml G l.reverse xs.reverse
  | [], xs, h => by rw [h.inv0]; exact .nil
  | d :: ds, xs, h => by
    obtain ⟨x, r, rfl, h1, h2⟩ := h.inv
    rw [List.reverse_cons, List.reverse_cons]
    exact h2.rev.append (.cons h1 .nil)
theorem sE_trev {k : Nat} {q1 q2 q3 : Pos} (hX : Good c X) (ha : PE X a (tE c W fa)) : PE X (.Subscript a (.Slice none none (some (.UnaryOp .USub (.Constant (.int 1) k q1) q2)) q3) pos) (tE c W fun env => do let x ← fa env; let l ← lift (tupV x); pure (.tup l.reverse)) := by
  refine (pe_revT ha).imp fun σ H Q q => ?_
  obtain ⟨env, h, ml, G, s, o⟩ := q
  refine tE.imp (tE.one (fa := fa) s o) fun x H1 ⟨v, h1, ml1, G1, s1, r1, o1⟩ => ?_
  obtain ⟨l, e, o2⟩ := Ok.liftB o1 s1
  cases v with
  | tup m =>
    cases e
    obtain ⟨p, xs, rfl, sq, rs⟩ := r1.tup'
    exact ⟨p, xs, rfl, hX.K ▸ sq, fun q hq => o2 ml1 G1 _ (s1.fresh _ hq) (s1.laid _ hq) _ (.tup (SqT.of upd_same) (rs.mono (s1.fresh _ hq)).rev)⟩
  | _ => cases e
end
end MPS

namespace MPS
open PySem PySem.Spec L2 MP LamX NdefX
section
variable {c : C} {W : WX} {X : Cx} {a b e : Expr} {fa : MEnv → M Val} {pos : Pos} {env : MEnv} {h : MHeap} {ml : List Addr} {G : Addr → Prop} {σ : L2.St} {H H1 : Hp}
theorem SR.came (s : SR c env h ml G σ H) (ex : ExtN H H1) (nn : ∀ b, H b ≠ none → H1 b ≠ none) (t : Tabs c.tt H1) : Grow ml G H ml G H1 ∧ SR c env h ml G σ H1 := by
  have g : Grow ml G H ml G H1 := ⟨⟨[], by simp, fun _ z => by cases z⟩, fun _ z => z, fun _ z => .inl z, fun a o e _ k => ex a o e k, nn, s.mg, s.ls, fun a ha => nn a (s.tr a (s.mg a ha))⟩
  refine ⟨g, s.len, s.nd, s.mg, fun a z => nn a (s.tr a z), fun n o a e1 e2 => ?_, g.envs s.ev, s.el, t⟩
  have q := s.obj n o a e1 e2
  cases o with
  | list l =>
    obtain ⟨xs, e, r⟩ := q
    exact ⟨xs, ex a _ e (fun ps z => by cases z), r.mono g⟩
  | dict _ _ => exact q.elim
theorem TupNew.extN {H H' : Hp} (t : TupNew H H') : ExtN H H' := fun b o e _ => t.1 b o e
theorem TupNew.nn {H H' : Hp} (t : TupNew H H') : ∀ b, H b ≠ none → H' b ≠ none := fun b n z => by
  cases q : H b with
  | none => exact n q
  | some o => rw [t.1 b o q] at z; cases z
def mKP (r : Str) (k : KP) (e : Expr) : Bool := match k with
  | .at_ i => match e with
    | .Subscript (.Name x _) (.Constant (.int z) _ _) _ => decide (x = r) && decide (z = (i : Int))
    | _ => false
  | .neg i => match e with
    | .BinOp (.Constant (.int z0) _ _) .Sub (.Subscript (.Name x _) (.Constant (.int z) _ _) _) _ => decide (z0 = 0) && decide (x = r) && decide (z = (i : Int))
    | _ => false
def mKPs (r : Str) : List KP → List Expr → Bool
  | [], [] => true
  | k :: ks, e :: es => mKP r k e && mKPs r ks es && !isStar e
  | _, _ => false
def kpV (xs : List V) (k : KP) : Option Int := match k with
  | .at_ i => match xs[i]? with
    | some (.int z) => some z
    | _ => none
  | .neg i => match xs[i]? with
    | some (.int z) => some (0 - z)
    | _ => none
def kpsV : List KP → List V → Option (List Int)
  | [], _ => some []
  | k :: r, l => match kpV l k, kpsV r l with
    | some z, some zs => some (z :: zs)
    | _, _ => none
/-- the parameter holds a tuple whose key is zs -/
def KeyIn (K : PySem.W.Frag) (ks : List KP) (σ : L2.St) (H : Hp) (zs : List Int) : Prop := ∃ p xs, σ[0]? = some (some (.ref p)) ∧ SqT K H p xs ∧ kpsV ks xs = some zs
theorem key_ix {Z : Cx} {r : Str} {i : Nat} {q1 q2 q3 : Pos} {j : Nat} (hN : Z.N[0]? = some r) (hv : Vis Z.env.scope r) (hd : (r == ("__debug__" : Str)) = false) (hc : (r == ("__classdict__" : Str)) = false) :
    PE Z (.Subscript (.Name r q1) (.Constant (.int (i : Int)) j q2) q3) (fun σ H Q => ∃ p xs z, σ[0]? = some (some (.ref p)) ∧ SqT Z.K H p xs ∧ xs[i]? = some (V.int z) ∧ Q (.int z) H) :=
  (pe_ix ix_tup (pe_var hN hv hd hc) pe_int (fun _ _ => rfl)).imp fun σ H Q ⟨p, xs, z, e1, e2, e3, q⟩ => ⟨_, e1, p, xs, _, _, rfl, rfl, e2, atI_nat e3, q⟩
theorem key_part {Z : Cx} {r : Str} {k : KP} {e : Expr} (hN : Z.N[0]? = some r) (hv : Vis Z.env.scope r) (hd : (r == ("__debug__" : Str)) = false) (hc : (r == ("__classdict__" : Str)) = false) (h : mKP r k e = true) :
    PE Z e (fun σ H Q => ∃ p xs z, σ[0]? = some (some (.ref p)) ∧ SqT Z.K H p xs ∧ kpV xs k = some z ∧ Q (.int z) H) := by
  cases k with
  | at_ i =>
    unfold mKP at h
    simp only at h
    split at h
    · simp only [Bool.and_eq_true, decide_eq_true_eq] at h
      obtain ⟨rfl, rfl⟩ := h
      refine (key_ix hN hv hd hc).imp fun σ H Q ⟨p, xs, z, e1, e2, e3, q⟩ => ⟨p, xs, z, e1, e2, ?_, q⟩
      unfold kpV at e3
      simp only at e3
      split at e3
      · cases e3; assumption
      · cases e3
    · cases h
  | neg i =>
    unfold mKP at h
    simp only at h
    split at h
    · simp only [Bool.and_eq_true, decide_eq_true_eq] at h
      obtain ⟨⟨rfl, rfl⟩, rfl⟩ := h
      refine (pe_op op_sub pe_int (key_ix hN hv hd hc)).imp fun σ H Q ⟨p, xs, z, e1, e2, e3, q⟩ => ?_
      unfold kpV at e3
      simp only at e3
      split at e3
      · rename_i z' e4
        cases e3
        exact ⟨p, xs, z', e1, e2, e4, _, _, rfl, rfl, q⟩
      · cases e3
    · cases h
theorem key_parts {Z : Cx} {r : Str} (hN : Z.N[0]? = some r) (hv : Vis Z.env.scope r) (hd : (r == ("__debug__" : Str)) = false) (hc : (r == ("__classdict__" : Str)) = false) :
    ∀ {ks : List KP} {es : List Expr}, mKPs r ks es = true → PA Z es (fun σ H Q => ∃ zs, KeyIn Z.K ks σ H zs ∧ Q (zs.map V.int) H)
  | [], [], _ => pa_nil.imp fun σ H Q ⟨zs, ⟨p, xs, e1, e2, e3⟩, q⟩ => by
    cases e3; exact q
  | k :: ks, e :: es, h => by
    simp only [mKPs, Bool.and_eq_true, Bool.not_eq_true'] at h
    refine (pa_cons (key_part hN hv hd hc h.1.1) (key_parts hN hv hd hc h.1.2) (star_of _ _ _ h.2)).imp fun σ H Q ⟨zs, ⟨p, xs, e1, e2, e3⟩, q⟩ => ?_
    unfold kpsV at e3
    split at e3
    · rename_i z zs' h1 h2
      cases e3
      exact ⟨p, xs, z, e1, e2, h1, zs', ⟨p, xs, e1, e2, h2⟩, q⟩
    · cases e3
  | [], _ :: _, h => by simp [mKPs] at h
  | _ :: _, [], h => by simp [mKPs] at h
/-- a lambda of one parameter whose body is a tuple of such parts -/
def mLam1 (r : Str) (ps : Arguments) (sc : Scope) : Bool := match ps with
  | ⟨[], [⟨x, _, _⟩], none, [], [], none, []⟩ => decide (x = r) && nscB [r] [r] [] sc && !(r == ("__debug__" : Str)) && !(r == ("__classdict__" : Str))
  | _ => false
theorem lam1_of {r : Str} {ps : Arguments} {sc : Scope} (h : mLam1 r ps sc = true) : NScope [r] [r] [] sc ∧ (r == ("__debug__" : Str)) = false ∧ (r == ("__classdict__" : Str)) = false ∧ (∀ en : PySem.Env, defaultsOf ps en = ([], [])) ∧
    ∀ (q : Str) (body : Expr) (cl : List (Str × Addr)) (pm c' ctv : Value) (us : List Value), us.length = [r].length → bindArgs (PySem.W.kla_fn "<lambda>" q ps body sc cl pm c' ctv) ⟨us, []⟩ = pure ([r].zip us) := by
  unfold mLam1 at h
  split at h
  · simp only [Bool.and_eq_true, decide_eq_true_eq, Bool.not_eq_true'] at h
    obtain ⟨⟨⟨rfl, h2⟩, h3⟩, h4⟩ := h
    refine ⟨nscope_by h2, h3, h4, fun _ => rfl, fun q body cl pm c' ctv us hl => ?_⟩
    match us, hl with
    | [u], _ =>
      unfold bindArgs
      simp [List.lookup, seqItems?]
      rfl
  · cases h
/-- where a lambda may be made -/
structure LamAt (c : C) (X : Cx) : Prop where
  room : Room 2 X.A
  tab : ∃ cd P, X.env.code = .ref cd ∧ TabB X.base X.mg cd P ∧ (P, X.env.qual ++ "<lambda>") ∈ c.tt ∧ ∀ p ∈ c.tt, p.1 = P → p.2 = X.env.qual ++ "<lambda>"
theorem kp_rv {l : List Val} {xs : List V} {k : KP} {z : Int} (r : RVs c H ml G l xs) (e : k.get l = some z) : kpV xs k = some z := by
  cases k with
  | at_ i =>
    unfold KP.get at e
    simp only at e
    split at e
    · rename_i z' e1
      cases e
      obtain ⟨x, e2, rx⟩ := r.get e1
      unfold kpV
      simp only [e2, rx.int']
    · cases e
  | neg i =>
    unfold KP.get at e
    simp only at e
    split at e
    · rename_i z' e1
      cases e
      obtain ⟨x, e2, rx⟩ := r.get e1
      unfold kpV
      simp only [e2, rx.int']
    · cases e
theorem kps_rv {l : List Val} {xs : List V} (r : RVs c H ml G l xs) : ∀ {ks : List KP} {zs : List Int}, keyOf ks l = some zs → kpsV ks xs = some zs
  | [], zs, e => by cases e; rfl
  | k :: ks, zs, e => by
    unfold keyOf at e
    split at e
    · rename_i z zs' e1 e2
      cases e
      unfold kpsV
      simp only [kp_rv r e1, kps_rv r e2]
    · cases e
theorem keyed_at {ks : List KP} : ∀ {l : List Val} {qs : List (List Int × Val)}, keyed ks l = some qs → qs.map (·.2) = l ∧ ∀ p ∈ qs, ∃ m, p.2 = .tup m ∧ keyOf ks m = some p.1
  | [], qs, e => by cases e; exact ⟨rfl, fun p hp => by cases hp⟩
  | .tup l :: r, qs, e => by
    unfold keyed at e
    split at e
    · rename_i z zs e1 e2
      cases e
      obtain ⟨i1, i2⟩ := keyed_at e2
      refine ⟨by simp [i1], fun p hp => ?_⟩
      rcases List.mem_cons.mp hp with rfl | hp
      · exact ⟨l, rfl, e1⟩
      · exact i2 p hp
    · cases e
  | .non :: _, _, e => by simp [keyed] at e
  | .bl _ :: _, _, e => by simp [keyed] at e
  | .int _ :: _, _, e => by simp [keyed] at e
  | .str _ :: _, _, e => by simp [keyed] at e
  | .lst _ :: _, _, e => by simp [keyed] at e
  | .scr _ :: _, _, e => by simp [keyed] at e
  | .dct _ _ :: _, _, e => by simp [keyed] at e
  | .loc _ :: _, _, e => by simp [keyed] at e
  | .fn _ :: _, _, e => by simp [keyed] at e
  | .ty _ :: _, _, e => by simp [keyed] at e
theorem RVs.at_val {l : List Val} {xs : List V} (r : RVs c H ml G l xs) {i : Nat} {x : V} (e : xs[i]? = some x) : ∃ v, l[i]? = some v ∧ RV c H ml G v x := by
  have hl := r.length
  have hi := (List.getElem?_eq_some_iff.mp e).1
  have hv : l[i]? = some (l[i]'(by omega)) := List.getElem?_eq_getElem (by omega)
  obtain ⟨y, e2, ry⟩ := r.get hv
  rw [e] at e2; cases e2
  exact ⟨_, hv, ry⟩
theorem least_at (qs : List (List Int × Val)) (hn : qs ≠ []) : ∃ v, (qs.map (·.2))[argBest (fun i j => HT.lexLt (qs.getD i ([], .non)).1 (qs.getD j ([], .non)).1) (qs.length - 1)]? = some v ∧ leastK qs = v := by
  cases qs with
  | nil => exact absurd rfl hn
  | cons p r =>
    obtain ⟨h1, h2⟩ := PySem.W.argBest_fold (fun a b : List Int × Val => HT.lexLt a.1 b.1) ([], .non) p r r.length (Nat.le_refl _)
    rw [List.take_length] at h2
    have e0 : (p :: r).length - 1 = r.length := by simp
    rw [e0]
    have hlt : argBest (fun i j => HT.lexLt ((p :: r).getD i ([], .non)).1 ((p :: r).getD j ([], .non)).1) r.length < (p :: r).length := by
      simp only [List.length_cons]; exact Nat.lt_succ_of_le h1
    rw [List.getElem?_map, List.getElem?_eq_getElem hlt]
    refine ⟨_, rfl, ?_⟩
    rw [List.getD_eq_getElem?_getD, List.getElem?_eq_getElem hlt] at h2
    simp only [Option.getD_some] at h2
    rw [h2]
    unfold leastK
    have e : ∀ (l : List (List Int × Val)) (q : List Int × Val), l.foldl (fun a y => if MP.lexLt y.1 a.1 then y else a) q = l.foldl (fun a y => if HT.lexLt y.1 a.1 = true then y else a) q := fun l => by
      induction l with
      | nil => intro q; rfl
      | cons y l ih => intro q; simp only [List.foldl_cons, lexLt_eq]
    show (r.foldl (fun a y => if MP.lexLt y.1 a.1 then y else a) p).2 = _
    rw [e]
def rMinK (X : Cx) (q : Str) (ps : Arguments) (body : Expr) (sc : Scope) (ks : List KP) : List V → List V → Hp → VK → Prop := fun xs zs H Q => ∃ (p f c' : Addr) (ys : List V) (qs : List (List Int)), xs = [.ref p] ∧ zs = [.ref f, .non] ∧ H p = some (.lst ys) ∧ qs.length = ys.length ∧
  H f = some (LamO f q ps body sc (cloFrom X.env.cells sc.names []) c') ∧ H c' = some (CodeO c' q) ∧ (∀ i x, ys[i]? = some x → ∃ t us, x = .ref t ∧ SqT X.K H t us ∧ kpsV ks us = some (qs.getD i [])) ∧
  (ys = [] → ∀ H', TupNew H H' → Q .non H') ∧ (∀ x H', ys ≠ [] → ys[argBest (fun i j => HT.lexLt (qs.getD i []) (qs.getD j [])) (ys.length - 1)]? = some x → TupNew H H' → Q x H')
theorem sqT_ext {K : PySem.W.Frag} {H H' : Hp} {t : Addr} {us : List V} (x : SqT K H t us) (k : ∀ b o, H b = some o → H' b = some o) : SqT K H' t us := by
  rcases x with (x | ⟨o, x⟩) | x
  · exact .inl (.inl (k _ _ x))
  · exact .inl (.inr ⟨o, k _ _ x⟩)
  · exact .inr x
theorem cr_mink {r q : Str} {ps : Arguments} {es : List Expr} {sc : Scope} {ks : List KP} {k0 : Nat} {tp : Pos} (hX : Good c X) (hr : Room 2 X.A) (hl : mLam1 r ps sc = true) (hk : mKPs r ks es = true) (h1000 : ks.length ≤ 1000) :
    CallRK X (.builtin "min") [Str.ofString "key", Str.ofString "default"] (rMinK X q ps (.Tuple es k0 tp) sc ks) := by
  obtain ⟨S, hd, hc, _, hb⟩ := lam1_of hl
  intro pins s σ H xs zs us ws Q I rx rz h
  obtain ⟨p, f, c', ys, qs, rfl, rfl, hp, hlen, hf, hco, hit, q0, q1⟩ := h
  obtain rfl := Vals.ref1 rx
  obtain ⟨w1, w2, rfl, e1, e2⟩ := vals2 rz
  cases e1
  cases e2
  have hun := hX.un
  refine min_key (ks := fun i => qs.getD i []) I hX.calm (by omega) hp (fun od i x u s' H' Q' hx ru I' t hq => ?_) q0 q1
  obtain ⟨tt, us, rfl, ht, hz⟩ := hit i x hx
  have fp : ∀ b o, H b = some o → (∀ xs, o ≠ .lst xs) → H' b = some o := fun b o e n => t.1 b o (by rw [upd_ne (fun z => by rw [z, hp] at e; exact n ys (Option.some.inj e).symm)]; exact e)
  have ht' : SqT X.K H' tt us := by
    rcases ht with (ht | ⟨o, ht⟩) | ht
    · exact .inl (.inl (fp _ _ ht (fun _ z => by cases z)))
    · exact .inl (.inr ⟨o, fp _ _ ht (fun _ z => by cases z)⟩)
    · exact .inr ht
  have hf' : H' f = some (LamO f q ps (.Tuple es k0 tp) sc (cloFrom X.env.cells sc.names []) c') := fp _ _ hf (fun _ z => by unfold LamO at z; cases z)
  have hco' : H' c' = some (CodeO c' q) := fp _ _ hco (fun _ z => by unfold CodeO at z; cases z)
  have hno : ∀ y ∈ sc.names, y.2 = .free → X.env.scope.names.lookup y.1 = some .cell ∨ X.env.scope.names.lookup y.1 = some .free := fun y hy e => by
    have := S.free y hy e
    cases this
  have Cs : CellsAt (cloFrom X.env.cells sc.names []) [] (([] : List Nat).map (slotAt σ)) s'.heap H' := cells_of I' (Caps.made I'.ok hno (fun _ z => by cases z) rfl)
  have hkl : (qs.getD i []).length = ks.length := by
    have : ∀ (ks : List KP) (us : List V) (zs : List Int), kpsV ks us = some zs → zs.length = ks.length := fun ks us => by
      induction ks with
      | nil => intro zs e; cases e; rfl
      | cons k ks ih =>
        intro zs e
        unfold kpsV at e
        split at e
        · rename_i e1 e2
          cases e
          simp [ih _ e2]
        · cases e
    exact this ks us _ hz
  refine lam_run (k := 0) (CX := CX0) (E := fun _ _ _ => False) (vs := [.ref tt]) (us := [u]) (N := [r]) S (fun pm ctv us hl => hb _ _ _ pm _ ctv us hl) hr.in1 I'.env0.in1 hf' hco' Cs (.cons ru .nil) rfl
    (pe_tup (key_parts (by rfl) (.inl (S.par r (by simp))) hd hc hk)) ⟨_, ⟨tt, us, by rfl, ht', hz⟩, ?_, fun p' hp' => hq p' hp'⟩
  rw [List.length_map, hkl]
  have : (1000 : Nat) ≤ sizeLine := by decide
  omega
theorem sE_mink {r : Str} {ps : Arguments} {es : List Expr} {sc : Scope} {ks : List KP} {k0 : Nat} {tp p1 lp kp kp2 cp : Pos} {j : Nat} (hX : Good c X) (L : LamAt c X) (hl : mLam1 r ps sc = true) (hk : mKPs r ks es = true) (h1000 : ks.length ≤ 1000)
    (hg : Gl X "min") (hm : X.mg "min" = none) (ha : PE X a (tE c W fa)) (hs : isStar a = false) :
    PE X (.Call (.Name "min" p1) [a] [⟨some (Str.ofString "key"), .Lambda ps (.Tuple es k0 tp) sc lp, kp⟩, ⟨some (Str.ofString "default"), .Constant .none j cp, kp2⟩] pos) (tE c W fun env => do let x ← fa env; let l ← liftH fun h => lstV h x; lift (minK ks l)) := by
  obtain ⟨S, _, _, hdf, _⟩ := lam1_of hl
  obtain ⟨cd, P, hcode, TB, hmem, huq⟩ := L.tab
  have hno : ∀ y ∈ sc.names, y.2 = .free → X.env.scope.names.lookup y.1 = some .cell ∨ X.env.scope.names.lookup y.1 = some .free := fun y hy e => by
    have := S.free y hy e
    cases this
  refine (pe_callBK (cr_mink (q := X.env.qual ++ "<lambda>") (k0 := k0) (tp := tp) hX L.room hl hk h1000) hg hm rfl (sA_one ha hs) (pk_cons (pe_lam rfl TB hcode hmem huq (hdf _) hno) (pk_cons pe_non pk_nil)) (by decide) (by decide) (by rw [star_of _ _ _ hs]; rfl) (by rw [star_of _ _ _ hs]; rfl)).imp fun σ H Q q => ?_
  obtain ⟨env, h, ml, G, s, o⟩ := q
  refine tE.imp (tE.one (fa := fa) s o) fun x H1 ⟨v, h1, ml1, G1, s1, r1, o1⟩ => ?_
  obtain ⟨l, e, o2⟩ := Ok.liftHB o1 s1
  obtain ⟨m, em, o3⟩ := o2.liftG
  obtain ⟨p, ys, rfl, hp, rs⟩ := lst_at s1 r1 e
  refine ⟨s1.tb, fun f c' H2 ex nn tb2 hn hf hco => ⟨p, f, c', ys, ?_⟩⟩
  obtain ⟨g2, s2⟩ := s1.came ex nn tb2
  unfold minK at em
  obtain ⟨qs, eq, rfl⟩ := Option.map_eq_some_iff.mp em
  obtain ⟨k1, k2⟩ := keyed_at eq
  have hlen : qs.length = ys.length := by rw [rs.length, ← k1, List.length_map]
  have rs2 := rs.mono g2
  refine ⟨qs.map (·.1), rfl, rfl, ex p _ hp (fun _ z => by cases z), by rw [List.length_map]; exact hlen, hf, hco, fun i x hx => ?_, fun hnil H' t => ?_, fun x H' hne hx t => ?_⟩
  · obtain ⟨v, hv, rv⟩ := rs2.at_val hx
    have hq : i < qs.length := by rw [hlen]; exact (List.getElem?_eq_some_iff.mp hx).1
    obtain ⟨m, e1, e2⟩ := k2 qs[i] (List.getElem_mem hq)
    have ev : v = qs[i].2 := by
      have : (qs.map (·.2))[i]? = some v := by rw [k1]; exact hv
      rw [List.getElem?_map, List.getElem?_eq_getElem hq] at this
      exact (Option.some.inj this).symm
    rw [ev, e1] at rv
    obtain ⟨t, us, rfl, ht, ru⟩ := rv.tup'
    refine ⟨t, us, rfl, hX.K ▸ ht, ?_⟩
    have ed : (qs.map (·.1)).getD i [] = qs[i].1 := by
      rw [List.getD_eq_getElem?_getD, List.getElem?_map, List.getElem?_eq_getElem hq]; rfl
    rw [ed]
    exact kps_rv ru e2
  · obtain ⟨g3, s3⟩ := s2.came t.extN t.nn (tb2.ext t.1)
    have hq0 : qs = [] := List.eq_nil_of_length_eq_zero (by rw [hlen, hnil]; rfl)
    rw [hq0] at o3
    exact o3 _ _ _ (g2.trans g3) s3 .non .non
  · obtain ⟨g3, s3⟩ := s2.came t.extN t.nn (tb2.ext t.1)
    have hqn : qs ≠ [] := fun z => hne (List.eq_nil_of_length_eq_zero (by rw [← hlen, z]; rfl))
    obtain ⟨v, e1, e2⟩ := least_at qs hqn
    have ef : (fun i j => HT.lexLt ((qs.map (·.1)).getD i []) ((qs.map (·.1)).getD j [])) = fun i j => HT.lexLt (qs.getD i ([], .non)).1 (qs.getD j ([], .non)).1 := by
      have e : ∀ i, (qs.map (·.1)).getD i [] = (qs.getD i ([], .non)).1 := fun i => by
        simp only [List.getD_eq_getElem?_getD, List.getElem?_map]
        cases qs[i]? <;> rfl
      funext i j; rw [e, e]
    rw [ef, ← hlen] at hx
    rw [k1] at e1
    obtain ⟨y, hy, ry⟩ := rs2.get e1
    rw [hx] at hy
    cases hy
    rw [e2] at o3
    exact o3 _ _ _ (g2.trans g3) s3 _ (ry.mono g3)
def rMinD (c : C) : List V → Hp → VK → Prop := fun xs H Q => ∃ (env : MEnv) (h : MHeap) (ml : List Addr) (G : Addr → Prop) (σ : L2.St) (v : Val) (x : V) (l : List Val) (m : Val), xs = [x] ∧ SR c env h ml G σ H ∧ RV c H ml G v x ∧ lstV h v = some l ∧ minV l = some m ∧
  ∀ y, RV c H ml G m y → Q y H
theorem readsAll_of {h : PySem.Heap} : ∀ {us : List Value} {l : List Val}, PySem.W.EachIs (fun (u : Value) (b : Val) => ∃ as, Reads h u (pd b) as) us l → ∃ as, ReadsAll h us (l.map pd) as
  | _, _, .nil => ⟨_, .nil⟩
  | _, _, .cons ⟨_, r⟩ t => by
    obtain ⟨as, q⟩ := readsAll_of t
    exact ⟨_, .cons r q⟩
theorem depth_all : ∀ {l : List Val}, (∀ v ∈ l, (pd v).depth ≤ 60) → PyData.depthAll (l.map pd) ≤ 60
  | [], _ => by simp [PyData.depthAll]
  | x :: r, h => by
    have h1 := h x List.mem_cons_self
    have h2 := depth_all fun v hv => h v (List.mem_cons_of_mem _ hv)
    simp only [List.map_cons, PyData.depthAll]
    omega
theorem cr_min (hX : Good c X) : CallR X (.builtin "min") (rMinD c) := by
  intro pins s σ' H xs us Q I r q
  obtain ⟨env, h, ml, G, σ, v, x, l, m, rfl, sr, rv, e, em, q⟩ := q
  have hun := hX.un
  obtain ⟨p, ys, rfl, hs, rs⟩ := lst_at sr rv e
  have hs' : SqL X.K H p ys := SqL.of hs
  obtain ⟨its, rv2, hl, hz⟩ := I.list hs'
  rw [Vals.ref1 r]
  unfold minV at em
  split at em
  · cases em
  · rename_i b0 l0
    split at em
    · rename_i hk
      cases em
      unfold sortable at hk
      simp only [Bool.and_eq_true, decide_eq_true_eq] at hk
      obtain ⟨⟨⟨h1, h2⟩, h3⟩, h4⟩ := hk
      have dp := okDL_mem h1
      obtain ⟨as, ra⟩ := readsAll_of (each_and (each_of rs rv2) fun u b hb ⟨y, r1, r2⟩ => by
        have := dp_of 60 b y (dp b hb) r2
        rw [← hX.K] at this
        exact Dp.reads I _ _ _ this r1)
      have al : PySem.W.AlikeAll ((b0 :: l0).map pd) := by
        refine ⟨fun d hd d' hd' => ?_, fun d hd z => ?_⟩
        · obtain ⟨b, hb, rfl⟩ := List.mem_map.mp hd
          obtain ⟨b', hb', rfl⟩ := List.mem_map.mp hd'
          exact List.all_eq_true.mp (List.all_eq_true.mp h2 b hb) b' hb'
        · obtain ⟨b, hb, rfl⟩ := List.mem_map.mp hd
          have ok := dp b hb
          rcases Bool.or_eq_true _ _ |>.mp h3 with h3 | h3
          · have := List.all_eq_true.mp h3 b hb
            split at this
            · simp [pd] at z
            · cases this
          · have := List.all_eq_true.mp h3 b hb
            cases b with
            | non => simp at this
            | tup _ => simp at this
            | bl _ => simp [pd] at z
            | int _ => simp [pd] at z
            | str _ => simp [pd] at z
            | lst _ => simp [pd] at z
            | _ => simp [Val.okD] at ok
      have dep := depth_all fun v hv => (pd_can 60 v (dp v hv)).2
      have len : its.toArray.size = l0.length + 1 := by
        have := rs.length
        have := rv2.length
        simp only [List.size_toArray, List.length_cons] at *
        omega
      refine PySem.call_min_walkH (PySem.W.iter_listW (A := X.A.in1) (I.ok.hd hX.calm) hl.isList fun s2 e2 W st hfp hw hk => ?_)
      refine ⟨_, _, _, _, _, _, _, s.heap, _, rfl, W, st, hfp, by omega, hw, hk, PySem.W.cmpIn_lt (A := X.A.in1) (by simpa using ra) al (by show X.A.units + 1 + _ < _; omega), fun v s' hP mv => ?_⟩
      obtain ⟨h', tk, rfl, hk'⟩ := PySem.W.moved_old e2 rfl mv
      have en : its.toArray.size - 1 = l0.length := by omega
      rw [en] at hP
      obtain ⟨g1, g2⟩ := PySem.W.argBest_fold (fun a b : Val => PySem.W.dataLt (pd a) (pd b)) .non b0 l0 l0.length (Nat.le_refl _)
      rw [List.take_length] at g2
      have ef : (fun i j => PySem.W.dataLt (((b0 :: l0).map pd).getD i .none) (((b0 :: l0).map pd).getD j .none)) = fun i j => PySem.W.dataLt (pd ((b0 :: l0).getD i .non)) (pd ((b0 :: l0).getD j .non)) := by
        have e : ∀ i, ((b0 :: l0).map pd).getD i .none = pd ((b0 :: l0).getD i .non) := fun i => by
          simp only [List.getD_eq_getElem?_getD, List.getElem?_map]
          cases (b0 :: l0)[i]? <;> simp [pd]
        funext i j; rw [e, e]
      rw [ef] at hP
      have hlt : argBest (fun i j => PySem.W.dataLt (pd ((b0 :: l0).getD i .non)) (pd ((b0 :: l0).getD j .non))) l0.length < (b0 :: l0).length := by
        simp only [List.length_cons]; exact Nat.lt_succ_of_le g1
      generalize argBest (fun i j => PySem.W.dataLt (pd ((b0 :: l0).getD i .non)) (pd ((b0 :: l0).getD j .non))) l0.length = k at hP g2 hlt
      have hg : (b0 :: l0)[k]? = some (l0.foldl (fun a y => if PySem.W.dataLt (pd y) (pd a) = true then y else a) b0) := by
        rw [List.getD_eq_getElem?_getD, List.getElem?_eq_getElem hlt] at g2
        rw [List.getElem?_eq_getElem hlt, ← g2]; rfl
      obtain ⟨y, hy, ry⟩ := rs.get hg
      obtain ⟨u, hu, ru⟩ := rv2.get hy
      have : u = v := by
        have hP' : its[k]? = some v := by simpa using hP
        rw [hu] at hP'; exact Option.some.inj hP'
      subst this
      have ee : ∀ (l : List Val) (b : Val), l.foldl (fun a y => if PySem.W.dataLe false pd a y then a else y) b = l.foldl (fun a y => if PySem.W.dataLt (pd y) (pd a) = true then y else a) b := fun l => by
        induction l with
        | nil => intro b; rfl
        | cons z l ih =>
          intro b
          simp only [List.foldl_cons]
          have : (if PySem.W.dataLe false pd b z = true then b else z) = if PySem.W.dataLt (pd z) (pd b) = true then z else b := by
            have e1 : PySem.W.dataLe false pd b z = !PySem.W.dataLt (pd z) (pd b) := rfl
            rw [e1]
            cases PySem.W.dataLt (pd z) (pd b) <;> rfl
          rw [this]; exact ih _
      refine ⟨y, H, I.kept hk', ru, q y ?_⟩
      rw [ee]; exact ry
    · cases em
theorem sE_mind {p1 : Pos} (hX : Good c X) (hg : Gl X "min") (hm : X.mg "min" = none) (ha : PE X a (tE c W fa)) (hs : isStar a = false) : PE X (.Call (.Name "min" p1) [a] [] pos) (tE c W fun env => do let x ← fa env; let l ← liftH fun h => lstV h x; lift (minV l)) := by
  refine (pe_callB (cr_min hX) hg hm rfl (sA_one ha hs) (by decide) (by decide) (star_of _ _ _ hs) rfl).imp fun σ H Q q => ?_
  obtain ⟨env, h, ml, G, s, o⟩ := q
  refine tE.imp (tE.one (fa := fa) s o) fun x H1 ⟨v, h1, ml1, G1, s1, r1, o1⟩ => ?_
  obtain ⟨l, e, o2⟩ := Ok.liftHB o1 s1
  obtain ⟨m, em, o3⟩ := o2.lift s1
  exact ⟨env, h1, ml1, G1, σ, v, x, l, m, rfl, s1, r1, e, em, fun y ry => o3 y ry⟩
end
end MPS

namespace MPS
open PySem PySem.Spec L2 MP

mutual
/-- a place that may change changes its items -/
theorem RV.chgD {c : C} {H : Hp} {ml : List Addr} {G : Addr → Prop} {D : Addr} {acc acc' : List V} (hG : G D) (hD : H D = some (.lst acc)) : ∀ (d : Val) (x : V), RV c H ml G d x → RV c (upd H D (.lst acc')) ml G d x
  | .non, x, h => by unfold RV at h ⊢; exact h
  | .bl _, x, h => by unfold RV at h ⊢; exact h
  | .int _, x, h => by unfold RV at h ⊢; exact h
  | .str _, x, h => by unfold RV at h ⊢; exact h
  | .tup l, x, h => by
    unfold RV at h ⊢
    obtain ⟨a, xs, e, hs, r⟩ := h
    refine ⟨a, xs, e, ?_, RVs.chgD hG hD l xs r⟩
    rcases hs with (hs | ⟨o, hs⟩) | hs
    · have ne : a ≠ D := fun z => by rw [z, hD] at hs; cases hs
      exact .inl (.inl (by rw [upd_ne ne]; exact hs))
    · have ne : a ≠ D := fun z => by rw [z, hD] at hs; cases hs
      exact .inl (.inr ⟨o, by rw [upd_ne ne]; exact hs⟩)
    · exact .inr hs
  | .lst l, x, h => by
    unfold RV at h ⊢
    obtain ⟨a, xs, e, ⟨hs, ng⟩, r⟩ := h
    have ne : a ≠ D := fun z => ng (z ▸ hG)
    exact ⟨a, xs, e, ⟨by rw [upd_ne ne]; exact hs, ng⟩, RVs.chgD hG hD l xs r⟩
  | .scr l, x, h => by
    unfold RV at h ⊢
    obtain ⟨a, xs, e, hs, r⟩ := h
    refine ⟨a, xs, e, ?_, RVs.chgD hG hD l xs r⟩
    rcases hs with ⟨o, hs⟩ | hs | ⟨hs, ng⟩
    · have ne : a ≠ D := fun z => by rw [z, hD] at hs; cases hs
      exact .inl ⟨o, by rw [upd_ne ne]; exact hs⟩
    · exact .inr (.inl hs)
    · have ne : a ≠ D := fun z => ng (z ▸ hG)
      exact .inr (.inr ⟨by rw [upd_ne ne]; exact hs, ng⟩)
  | .dct ks vs, x, h => by
    unfold RV at h ⊢
    obtain ⟨e1, e2, a, e, hs, ng⟩ := h
    have ne : a ≠ D := fun z => ng (z ▸ hG)
    exact ⟨e1, e2, a, e, by rw [upd_ne ne]; exact hs, ng⟩
  | .loc n, x, h => by unfold RV at h ⊢; exact h
  | .fn _, x, h => by unfold RV at h ⊢; exact h
  | .ty _, x, h => by unfold RV at h ⊢; exact h
theorem RVs.chgD {c : C} {H : Hp} {ml : List Addr} {G : Addr → Prop} {D : Addr} {acc acc' : List V} (hG : G D) (hD : H D = some (.lst acc)) : ∀ (ds : List Val) (xs : List V), RVs c H ml G ds xs → RVs c (upd H D (.lst acc')) ml G ds xs
  | [], xs, h => by unfold RVs at h ⊢; exact h
  | d :: ds, xs, h => by
    unfold RVs at h ⊢
    obtain ⟨x, r, e, h1, h2⟩ := h
    exact ⟨x, r, e, RV.chgD hG hD d x h1, RVs.chgD hG hD ds r h2⟩
end
section
variable {c : C} {W : WX} {X : Cx} {env : MEnv} {h : MHeap} {ml ml2 : List Addr} {G G2 : Addr → Prop} {σ : L2.St} {H H2 : Hp} {D : Addr} {acc acc' : List V}
theorem SR.chgD (s : SR c env h ml G σ H) (hG : G D) (hD : H D = some (.lst acc)) (hm : D ∉ ml) : SR c env h ml G σ (upd H D (.lst acc')) := by
  refine ⟨s.len, s.nd, s.mg, fun b hb => ?_, fun n o b e1 e2 => ?_, fun i v e => ?_, s.el, tabs_upd s.tb fun u z => ⟨acc, Option.some.inj (z.symm.trans hD)⟩⟩
  · by_cases hbd : b = D
    · rw [hbd, upd_same]; simp
    · rw [upd_ne hbd]; exact s.tr b hb
  · have q := s.obj n o b e1 e2
    have ne : b ≠ D := fun z => hm (z ▸ List.mem_of_getElem? e2)
    cases o with
    | list l =>
      obtain ⟨zs, e3, r3⟩ := q
      exact ⟨zs, by rw [upd_ne ne]; exact e3, RVs.chgD hG hD _ _ r3⟩
    | dict _ _ => exact q.elim
  · obtain ⟨x, e2, r⟩ := s.ev i v e
    exact ⟨x, e2, RV.chgD hG hD _ _ r⟩
theorem Grow.chgD {o : HO} (g : Grow ml G H ml2 G2 H2) (hn : H D = none) : Grow ml G H ml2 G2 (upd H2 D o) := by
  refine ⟨g.pre, g.gm, g.gn, fun a o' e hm ht => ?_, fun a h => ?_, g.mg, g.ls, fun a ha => ?_⟩
  · have ne : a ≠ D := fun z => by rw [z, hn] at e; cases e
    rw [upd_ne ne]; exact g.fr a o' e hm ht
  · have ne : a ≠ D := fun z => h (by rw [z]; exact hn)
    rw [upd_ne ne]; exact g.nn a h
  · have ne : a ≠ D := fun z => by have q := g.ls a ha; rw [z, hn] at q; exact q
    rw [upd_ne ne]; exact g.ln a ha
theorem Grow.out {a : Addr} (g : Grow ml G H ml2 G2 H2) (ha : a ∉ ml) (hn : H a ≠ none) : a ∉ ml2 := by
  obtain ⟨new, e, f⟩ := g.pre
  rw [e]
  intro z
  rcases List.mem_append.mp z with z | z
  · exact ha z
  · exact hn (f a z)
theorem compL_exc {F : Val → M (Option Val)} {lock : List Nat} {h0 : MHeap} {e : Exc} {h' : MHeap} : ∀ {l : List Val} {h : MHeap}, compL F lock h0 l h ≠ .exc e h'
  | [], h => by intro z; unfold compL at z; cases z
  | x :: r, h => by
    intro z
    unfold compL at z
    split at z
    · split at z
      · split at z
        · cases z
        · cases z
      · cases z
    · cases z
def WF : WX := fun _ _ _ _ => False
/-- a turn of a comprehension -/
def turnL (own : List Nat) (tg : Tg) (ft : MEnv → M Bool) (fe : MEnv → M Val) (env : MEnv) (x : Val) : M (Option Val) := do
  let env1 ← lift (bindT tg x (MP.wipe own env))
  let t ← ft env1
  if t then do let v ← fe env1; pure (some v) else pure none
theorem turnL_ok {own : List Nat} {tg : Tg} {ft : MEnv → M Bool} {fe : MEnv → M Val} {x : Val} {y : Option Val} {h' : MHeap} (e : turnL own tg ft fe env x h = .ok y h') :
    ∃ env1 t h1, bindT tg x (MP.wipe own env) = some env1 ∧ ft env1 h = .ok t h1 ∧ ((t = true ∧ ∃ v, fe env1 h1 = .ok v h' ∧ y = some v) ∨ (t = false ∧ y = none ∧ h' = h1)) := by
  unfold turnL at e
  rw [bind_app, lift_app] at e
  cases k : bindT tg x (MP.wipe own env) with
  | none => rw [k] at e; cases e
  | some env1 =>
    rw [k] at e
    simp only at e
    rw [bind_app] at e
    cases k2 : ft env1 h with
    | bad => rw [k2] at e; cases e
    | exc _ _ => rw [k2] at e; cases e
    | ok t h1 =>
      rw [k2] at e
      simp only at e
      refine ⟨env1, t, h1, rfl, k2, ?_⟩
      cases t with
      | false =>
        rw [if_neg Bool.false_ne_true] at e
        cases e
        exact .inr ⟨rfl, rfl, rfl⟩
      | true =>
        rw [if_pos rfl, bind_app] at e
        cases k3 : fe env1 h1 with
        | bad => rw [k3] at e; cases e
        | exc _ _ => rw [k3] at e; cases e
        | ok v h2 =>
          rw [k3] at e
          cases e
          exact .inl ⟨rfl, v, rfl, rfl⟩
theorem wipe_idem (σ : L2.St) (own : List Nat) : L2.wipe (L2.wipe σ own) own = L2.wipe σ own := by
  apply List.ext_getElem?
  intro j
  rw [wipe_get, wipe_get, L2.wipe_length]
  by_cases hj : j ∈ own ∧ j < σ.length
  · simp [hj]
  · simp [hj]
theorem yesIf {A B : Prop} (a : A) : if true = true then A else B := (if_pos rfl).symm ▸ a
theorem noIf {A B : Prop} (b : B) : if false = true then A else B := (if_neg Bool.false_ne_true).symm ▸ b
theorem lc_imp {own : List Nat} {tg : Tg} {fi : MEnv → M Items} {ft : MEnv → M Bool} {fe : MEnv → M Val} (ht : ∀ i ∈ tgs tg, i ∈ own) {Q : VK}
    (q : tF c W (fun env => do let its ← fi env; let _ ← lift (few its.l); let h0 ← getH; compL (turnL own tg ft fe env) its.lock h0 its.l) σ H Q) : tLc (tI c W fi) (tgR c tg) (tT c WF ft) (tE c WF fe) own σ H Q := by
  obtain ⟨env, h, ml, G, s, o⟩ := q
  refine ⟨env, h, ml, G, s, (okF_exc o).imp fun its h1 ml1 G1 H1 g1 s1 o1 _ J sv => ?_⟩
  intro D hD
  have o2 := okF_exc o1
  obtain ⟨l', e, o2⟩ := o2.lift s1
  obtain ⟨rfl, hfew⟩ := few_of e
  have o3 : OkF c W env σ (compL (turnL own tg ft fe env) its.lock h1 its.l h1) ml1 G1 H1 Q := o2
  obtain ⟨l0, h0, e0⟩ : ∃ l0 h0, compL (turnL own tg ft fe env) its.lock h1 its.l h1 = .ok l0 h0 := by
    cases k : compL (turnL own tg ft fe env) its.lock h1 its.l h1 with
    | bad => rw [k] at o3; exact o3.elim
    | exc x h' => exact absurd k compL_exc
    | ok l0 h0 => exact ⟨l0, h0, rfl⟩
  rw [e0] at o3
  have gD : ∀ b, G1 b → b ≠ D := fun b hb z => s1.tr b hb (z ▸ hD)
  have g0 : Grow ml1 G1 H1 ml1 (fun b => G1 b ∨ b = D) (upd H1 D (.lst [])) := by
    have g := s1.fresh (.lst []) hD
    refine ⟨g.pre, fun b z => .inl z, fun b z => ?_, g.fr, g.nn, g.mg, g.ls, g.ln⟩
    rcases z with z | z
    · exact .inl z
    · exact .inr (z ▸ hD)
  have s0 : SR c env h1 ml1 (fun b => G1 b ∨ b = D) σ (upd H1 D (.lst [])) := by
    refine s1.over g0 (fun b hb => upd_ne (gD b (s1.mg b hb))) (fun b z => ?_) (tabs_upd s1.tb fun u z => by rw [hD] at z; cases z)
    by_cases hb : b = D
    · rw [hb, upd_same]; simp
    · rw [upd_ne hb]
      rcases z with z | z
      · exact s1.tr b z
      · exact absurd z hb
  refine ⟨fun i m H2 => m = its.l.length - i ∧ i ≤ its.l.length ∧ ∃ (h2 : MHeap) (ml2 : List Addr) (G2 : Addr → Prop) (acc : List V) (ys l' : List Val), Grow ml1 G1 H1 ml2 G2 H2 ∧ SR c (MP.wipe own env) h2 ml2 G2 (L2.wipe σ own) H2 ∧
      stays its.lock h1 h2 = true ∧ H2 D = some (.lst acc) ∧ G2 D ∧ D ∉ ml2 ∧ RVs c H2 ml2 G2 ys acc ∧ ys.length ≤ i ∧ compL (turnL own tg ft fe env) its.lock h1 (its.l.drop i) h2 = .ok l' h0 ∧ l0 = ys ++ l',
    ⟨its.l.length, by simp, Nat.zero_le _, h1, ml1, _, [], [], l0, g0, s0.wiped own, by simp [stays], upd_same, .inr rfl, fun z => gD D (s1.mg D z) rfl, .nil, Nat.le_refl _, by simpa using e0, rfl⟩, ?_⟩
  rintro i m H2 ⟨rfl, hi, h2, ml2, G2, acc, ys, l', g2, s2, st, eD, gG, nD, rys, hys, ec, el⟩
  obtain ⟨k1, k2⟩ := sv i _ _ h2 ml2 G2 H2 g2 s2 st
  by_cases hlt : i < its.l.length
  · have ed : its.l.drop i = its.l[i] :: its.l.drop (i + 1) := List.drop_eq_getElem_cons hlt
    rw [ed] at ec
    obtain ⟨go, yl⟩ := k2 its.l[i] (List.getElem?_eq_getElem hlt)
    unfold compL at ec
    cases kt : turnL own tg ft fe env its.l[i] h2 with
    | bad => rw [kt] at ec; cases ec
    | exc _ _ => rw [kt] at ec; cases ec
    | ok yo h3 =>
      rw [kt] at ec
      simp only at ec
      split at ec
      · rename_i hst
        cases kr : compL (turnL own tg ft fe env) its.lock h1 (its.l.drop (i + 1)) h3 with
        | bad => rw [kr] at ec; cases ec
        | exc _ _ => rw [kr] at ec; cases ec
        | ok l2 h4 =>
          rw [kr] at ec
          simp only at ec
          obtain ⟨e1, e2⟩ : consO yo l2 = l' ∧ h4 = h0 := by cases ec; exact ⟨rfl, rfl⟩
          subst e2
          obtain ⟨env1, t, h5, eb, eft, alt⟩ := turnL_ok kt
          refine .inr ⟨go, fun H2 => ∃ (h2 : MHeap) (ml2 : List Addr) (G2 : Addr → Prop) (acc : List V) (ys l' : List Val), Grow ml1 G1 H1 ml2 G2 H2 ∧ SR c (MP.wipe own env) h2 ml2 G2 (L2.wipe σ own) H2 ∧
            stays its.lock h1 h2 = true ∧ H2 D = some (.lst acc) ∧ G2 D ∧ D ∉ ml2 ∧ RVs c H2 ml2 G2 ys acc ∧ ys.length ≤ i + 1 ∧ compL (turnL own tg ft fe env) its.lock h1 (its.l.drop (i + 1)) h2 = .ok l' h4 ∧ l0 = ys ++ l',
            fun H' n => ⟨its.l.length - (i + 1), by omega, rfl, hlt, n⟩, fun x H3 y => ?_⟩
          obtain ⟨g3, sm, smG, rx, tb3⟩ := yl x H3 y
          have s3 : SR c (MP.wipe own env) h2 ml2 G2 (L2.wipe σ own) H3 := s2.over g3 sm (fun b hb => by rw [smG b hb]; exact s2.tr b hb) tb3
          have eD3 : H3 D = some (.lst acc) := by rw [smG D gG]; exact eD
          refine ⟨MP.wipe own env, h2, ml2, G2, _, env1, s3, rx, eb, fun σ4 s4 w4 => ⟨by rw [w4 own ht, wipe_idem], env1, h2, ml2, G2, s4, ?_⟩⟩
          unfold Ok
          rw [eft]
          intro ml5 G5 H5 g5 s5
          have eD5 : H5 D = some (.lst acc) := g5.fr D _ eD3 nD (fun _ z => by cases z)
          have nD5 : D ∉ ml5 := g5.out nD (by rw [eD3]; simp)
          have g15 : Grow ml1 G1 H1 ml5 G5 H5 := (g2.trans g3).trans g5
          rcases alt with ⟨rfl, v, ev, rfl⟩ | ⟨rfl, rfl, rfl⟩
          · refine yesIf ?_
            refine ⟨env1, h5, ml5, G5, s5, ?_⟩
            unfold Ok
            rw [ev]
            intro ml6 G6 H6 g6 s6 z rz
            have eD6 : H6 D = some (.lst acc) := g6.fr D _ eD5 nD5 (fun _ z => by cases z)
            have nD6 : D ∉ ml6 := g6.out nD5 (by rw [eD5]; simp)
            have gG6 : G6 D := g6.gm D (g5.gm D gG)
            have r6 : RVs c H6 ml6 G6 ys acc := ((rys.mono g3).mono g5).mono g6
            have gw : Grow ml2 G2 H2 ml6 G6 H6 := (g3.trans g5).trans g6
            have s6' : SR c (MP.wipe own env) h3 ml6 G6 (L2.wipe σ own) H6 := s6.slots s2.el (gw.envs s2.ev)
            refine ⟨acc, eD6, by rw [rys.length, sizeSZ]; omega, h3, ml6, G6, acc ++ [z], ys ++ [v], l2, (g15.trans g6).chgD hD, s6'.chgD gG6 eD6 nD6, hst, upd_same, gG6, nD6, RVs.chgD gG6 eD6 _ _ (r6.append (.cons rz .nil)), ?_, kr, ?_⟩
            · rw [List.length_append, List.length_singleton]; omega
            · rw [el, ← e1, List.append_assoc]; rfl
          · refine noIf ?_
            have gw : Grow ml2 G2 H2 ml5 G5 H5 := g3.trans g5
            exact ⟨h3, ml5, G5, acc, ys, l2, g15, s5.slots s2.el (gw.envs s2.ev), hst, eD5, g5.gm D gG, nD5, rys.mono gw, by omega, kr, by rw [el, ← e1]; rfl⟩
      · cases ec
  · have ed : its.l.drop i = [] := List.drop_eq_nil_of_le (Nat.le_of_not_lt hlt)
    rw [ed] at ec
    cases ec
    refine .inl ⟨k1 (Nat.le_of_not_lt hlt), ?_⟩
    have s2' : SR c env h0 ml2 G2 σ H2 := s2.slots s1.el (g2.envs s1.ev)
    rw [List.append_nil] at el
    subst el
    exact o3 ml2 G2 H2 D acc g2 s2' hD gG nD eD rys
end
end MPS

namespace MPS
open PySem PySem.Spec L2 MP

/-- the arguments as a callee gets them; M the places of those it may change -/
inductive Ent (c : C) (H : Hp) (M : List Addr) (G : Addr → Prop) : List Bool → List Val → List V → List Addr → Prop where
  | nil {bs : List Bool} : Ent c H M G bs [] [] []
  | io {bs : List Bool} {l : List Val} {vs : List Val} {xs ys : List V} {a : Addr} {as : List Addr} (e : H a = some (.lst ys)) (r : RVs c H M G l ys) (n : noLocL l = true) (t : Ent c H M G bs vs xs as) : Ent c H M G (true :: bs) (.lst l :: vs) (.ref a :: xs) (a :: as)
  | ro {bs : List Bool} {v : Val} {vs : List Val} {x : V} {xs : List V} {as : List Addr} (r : RV c H M G v x) (n : v.noLoc = true) (t : Ent c H M G bs vs xs as) : Ent c H M G (false :: bs) (v :: vs) (x :: xs) as
  | re {v : Val} {vs : List Val} {x : V} {xs : List V} {as : List Addr} (r : RV c H M G v x) (n : v.noLoc = true) (t : Ent c H M G [] vs xs as) : Ent c H M G [] (v :: vs) (x :: xs) as
theorem Ent.length {c : C} {H : Hp} {M : List Addr} {G : Addr → Prop} {io : List Bool} {ws : List Val} {xs : List V} {as : List Addr} (e : Ent c H M G io ws xs as) : xs.length = ws.length := by
  induction e with
  | nil => rfl
  | io _ _ _ _ ih => rw [List.length_cons, List.length_cons, ih]
  | ro _ _ _ ih => rw [List.length_cons, List.length_cons, ih]
  | re _ _ _ ih => rw [List.length_cons, List.length_cons, ih]
/-- what comes back -/
def RetV (c : C) (H H' : Hp) (ml' : List Addr) (G' : Addr → Prop) (o : Out) (x : V) : Prop :=
  (o.own = true ∧ ∃ (a : Addr) (l : List Val) (ys : List V), o.v = .lst l ∧ x = .ref a ∧ H a = none ∧ G' a ∧ H' a = some (.lst ys) ∧ RVs c H' ml' G' l ys ∧ noLocL l = true) ∨ (o.own = false ∧ RV c H' ml' G' o.v x ∧ o.v.noLoc = true)
/-- a def's promise -/
def SpM (c : C) (io : List Bool) (R : List Val → Ret) : Sp := fun xs H Q _ => ∃ (ws : List Val) (M : List Addr) (G : Addr → Prop) (o : Out), Ent c H M G io ws xs M ∧ M.Nodup ∧ (∀ a ∈ M, G a) ∧ (∀ a, G a → H a ≠ none) ∧ LamX.Tabs c.tt H ∧ R ws = .ret o ∧
  ∀ (x : V) (H' : Hp) (ml' : List Addr) (G' : Addr → Prop) (h' : MHeap), Grow M G H ml' G' H' → SR c [] h' ml' G' [] H' → takeOuts M.length h' = some o.outs → RetV c H H' ml' G' o x → Q x H'

theorem enter_ok {c : C} {H : Hp} {M : List Addr} {G : Addr → Prop} {io : List Bool} {ws : List Val} {xs : List V} {as : List Addr} (e : Ent c H M G io ws xs as) :
    ∀ {pre : List Addr} {h0 h : MHeap} {env : MEnv}, M = pre ++ as → h0.length = pre.length → enter io ws h0 = some (env, h) → (∀ (k : Nat) (o : LObj) (a : Addr), h0[k]? = some o → M[k]? = some a → OR c H M G o a) →
      h.length = M.length ∧ (∀ (k : Nat) (o : LObj) (a : Addr), h[k]? = some o → M[k]? = some a → OR c H M G o a) ∧ env.length = xs.length ∧ ∀ (i : Nat) (v : Val), env[i]? = some (some v) → ∃ x, xs[i]? = some x ∧ RV c H M G v x := by
  have put : ∀ {r : Option (MEnv × MHeap)} {env : MEnv} {h : MHeap} {f : Option Val}, r.map (fun p => (f :: p.1, p.2)) = some (env, h) → ∃ env1, r = some (env1, h) ∧ env = f :: env1 := fun {r env h f} q => by
    obtain ⟨p, e1, e2⟩ := Option.map_eq_some_iff.mp q
    obtain ⟨p1, p2⟩ := p
    cases e2
    exact ⟨p1, e1, rfl⟩
  have env_at : ∀ {env1 : MEnv} {xs : List V} {x : V} {w : Val}, RV c H M G w x → (∀ (i : Nat) (v : Val), env1[i]? = some (some v) → ∃ x, xs[i]? = some x ∧ RV c H M G v x) →
      ∀ (i : Nat) (v : Val), (some w :: env1)[i]? = some (some v) → ∃ y, (x :: xs)[i]? = some y ∧ RV c H M G v y := fun {env1 xs x w} r q i v e => by
    cases i with
    | zero => simp at e; subst e; exact ⟨x, rfl, r⟩
    | succ i => simpa using q i v (by simpa using e)
  induction e with
  | nil =>
    intro pre h0 h env eM el ee ho
    simp only [enter, Option.some.injEq, Prod.mk.injEq] at ee
    obtain ⟨rfl, rfl⟩ := ee
    exact ⟨by rw [eM, List.append_nil]; exact el, ho, rfl, fun i v e => by simp at e⟩
  | @io bs l vs xs ys a as eH r n t ih =>
    intro pre h0 h env eM el ee ho
    simp only [enter] at ee
    obtain ⟨env1, e1, rfl⟩ := put ee
    have ea : M[h0.length]? = some a := by rw [eM, el]; simp
    obtain ⟨k1, k2, k3, k4⟩ := ih (pre := pre ++ [a]) (h0 := h0 ++ [.list l]) (by rw [eM, List.append_assoc]; rfl) (by rw [List.length_append, List.length_append, el]; rfl) e1 fun k o b e2 e3 => by
      by_cases hk : k < h0.length
      · rw [List.getElem?_append_left hk] at e2
        exact ho k o b e2 e3
      · rw [List.getElem?_append_right (Nat.le_of_not_lt hk)] at e2
        have hz : k - h0.length = 0 := by
          cases hz : k - h0.length with
          | zero => rfl
          | succ m => rw [hz] at e2; simp at e2
        have hk2 : k = h0.length := by omega
        rw [hz] at e2
        subst hk2
        simp at e2
        subst e2
        rw [ea] at e3
        cases e3
        exact ⟨ys, eH, r⟩
    exact ⟨k1, k2, by rw [List.length_cons, List.length_cons, k3], env_at (.loc ea) k4⟩
  | @ro bs v vs x xs as r n t ih =>
    intro pre h0 h env eM el ee ho
    simp only [enter] at ee
    obtain ⟨env1, e1, rfl⟩ := put ee
    obtain ⟨k1, k2, k3, k4⟩ := ih eM el e1 ho
    exact ⟨k1, k2, by rw [List.length_cons, List.length_cons, k3], env_at r k4⟩
  | @re v vs x xs as r n t ih =>
    intro pre h0 h env eM el ee ho
    simp only [enter] at ee
    obtain ⟨env1, e1, rfl⟩ := put ee
    obtain ⟨k1, k2, k3, k4⟩ := ih eM el e1 ho
    exact ⟨k1, k2, by rw [List.length_cons, List.length_cons, k3], env_at r k4⟩
theorem Ent.count {c : C} {H : Hp} {M : List Addr} {G : Addr → Prop} {io : List Bool} {ws : List Val} {xs : List V} {as : List Addr} (e : Ent c H M G io ws xs as) (hl : io.length ≤ ws.length) : as.length = countIo io := by
  induction e with
  | @nil bs => cases bs with
    | nil => rfl
    | cons _ _ => simp at hl
  | io _ _ _ _ ih => rw [List.length_cons, ih (by simpa using hl)]; rfl
  | ro _ _ _ ih => rw [ih (by simpa using hl)]; rfl
  | re _ _ _ ih => rw [ih (Nat.zero_le _)]
theorem callFn_len {T : List Val} {cb : CB} {fn : Fn} {ws : List Val} {o : Out} (h : callFn T cb fn ws = .ret o) : ws.length = fn.np := by
  unfold callFn at h
  split at h
  · assumption
  · cases h
theorem SR.bare {c : C} {env : MEnv} {h : MHeap} {ml : List Addr} {G : Addr → Prop} {σ : L2.St} {H : Hp} (s : SR c env h ml G σ H) : SR c [] h ml G [] H := s.slots (Nat.le_refl _) fun i v e => by simp at e
theorem leave_ok {c : C} {H H' : Hp} {M ml' : List Addr} {G G' : Addr → Prop} {h' : MHeap} {v : Val} {o : Out} {x : V} {Q : VK} (g : Grow M G H ml' G' H') (s : SR c [] h' ml' G' [] H') (r : RV c H' ml' G' v x) (e : leave M.length v h' = .ret o)
    (fin : takeOuts M.length h' = some o.outs → RetV c H H' ml' G' o x → Q x H') : Q x H' := by
  unfold leave at e
  cases k1 : takeOuts M.length h' with
  | none => rw [k1] at e; cases e
  | some outs =>
    cases k2 : leaveV M.length v h' with
    | none => rw [k1, k2] at e; cases e
    | some p =>
      rw [k1, k2] at e
      cases e
      refine fin k1 ?_
      unfold leaveV at k2
      split at k2
      · rename_i n
        split at k2
        · rename_i hn
          split at k2
          · rename_i l el
            split at k2
            · rename_i hl
              cases k2
              obtain ⟨a, em, rfl⟩ := r.loc'
              obtain ⟨ys, eH, rs⟩ := s.at el em
              obtain ⟨new, e3, f3⟩ := g.pre
              refine .inl ⟨rfl, a, l, ys, rfl, rfl, f3 a ?_, s.mg a (List.mem_of_getElem? em), eH, rs, hl⟩
              rw [e3, List.getElem?_append_right hn] at em
              exact List.mem_of_getElem? em
            · cases k2
          · cases k2
        · cases k2
      · split at k2
        · rename_i hl
          cases k2
          exact .inr ⟨rfl, r, hl⟩
        · cases k2
theorem body_ok {c : C} {T : List Val} {cb : CB} {fn : Fn} {N : List Str} {xs : List V} {H : Hp} {Q : VK} {E : XK} (hn : fn.ns = N.length) (hio : fn.io.length ≤ fn.np) (h : SpM c fn.io (callFn T cb fn) xs H Q E) :
    tS c WF (evalS T cb fn.body) { nx := fun _ H' => Q .non H', rt := Q } (L2.start N xs) H := by
  obtain ⟨ws, M, G, o, en, nd, mg, tr, tb, e, fin⟩ := h
  have hl := callFn_len e
  unfold callFn at e
  rw [if_pos hl] at e
  cases k : enter fn.io ws [] with
  | none => rw [k] at e; cases e
  | some p =>
    obtain ⟨env, h⟩ := p
    rw [k] at e
    simp only at e
    obtain ⟨k1, k2, k3, k4⟩ := enter_ok en (pre := []) rfl rfl k fun k o a e1 => by simp at e1
    have hc : M.length = countIo fn.io := en.count (by omega)
    have hx : xs.length = fn.np := en.length.trans hl
    have s : SR c (env ++ List.replicate (fn.ns - fn.np) none) h M G (L2.start N xs) H := by
      refine ⟨k1.symm, nd, mg, tr, k2, fun i v e1 => ?_, ?_, tb⟩
      · by_cases hi : i < env.length
        · rw [List.getElem?_append_left hi] at e1
          obtain ⟨x, ex, rx⟩ := k4 i v e1
          refine ⟨x, ?_, rx⟩
          unfold L2.start
          rw [List.getElem?_append_left (by rw [List.length_map, ← k3]; exact hi), List.getElem?_map, ex]; rfl
        · rw [List.getElem?_append_right (Nat.le_of_not_lt hi), List.getElem?_replicate] at e1
          split at e1 <;> cases e1
      · unfold L2.start
        rw [List.length_append, List.length_append, List.length_replicate, List.length_replicate, List.length_map, k3, hn, hx]
        exact Nat.le_refl _
    refine ⟨_, h, M, G, s, ?_⟩
    rw [← hc] at e
    unfold OkS
    cases kb : evalS T cb fn.body (env ++ List.replicate (fn.ns - fn.np) none) h with
    | bad => rw [kb] at e; cases e
    | exc x env' h' => rw [kb] at e; cases e
    | ok f h' =>
      rw [kb] at e
      intro ml' G' H' σ' g
      cases f with
      | nx env' => exact fun s' => leave_ok g s'.bare .non e fun t r => fin _ _ _ _ _ g s'.bare t r
      | rt v => exact fun s' x rx => leave_ok g s'.bare rx e fun t r => fin _ _ _ _ _ g s'.bare t r
      | bk _ => cases e
      | ct _ => cases e

theorem putBack_ok : ∀ {ns : List Nat} {ls : List (List Val)} {h h1 : MHeap}, putBack ns ls h = some h1 → distinct ns = true → (∀ n ∈ ns, n < h.length) →
    h1.length = h.length ∧ ∀ n, (n ∉ ns → h1[n]? = h[n]?) ∧ ∀ k : Nat, ns[k]? = some n → ∃ l, ls[k]? = some l ∧ h1[n]? = some (.list l)
  | [], [], h, h1, e, _, _ => by
    simp only [putBack, Option.some.injEq] at e
    subst e
    exact ⟨rfl, fun n => ⟨fun _ => rfl, fun k z => by simp at z⟩⟩
  | [], _ :: _, h, h1, e, _, _ => by simp [putBack] at e
  | _ :: _, [], h, h1, e, _, _ => by simp [putBack] at e
  | m :: ns, l :: ls, h, h1, e, d, hl => by
    simp only [putBack] at e
    simp only [distinct, Bool.and_eq_true, Bool.not_eq_true'] at d
    have hm : m ∉ ns := fun z => by have := d.1; simp [z] at this
    obtain ⟨k1, k2⟩ := putBack_ok e d.2 fun n hn => by rw [List.length_set]; exact hl n (List.mem_cons_of_mem _ hn)
    refine ⟨by rw [k1, List.length_set], fun n => ⟨fun hn => ?_, fun k z => ?_⟩⟩
    · rw [(k2 n).1 fun q => hn (List.mem_cons_of_mem _ q), List.getElem?_set_ne fun q : m = n => hn (by rw [← q]; exact List.mem_cons_self)]
    · cases k with
      | zero =>
        simp at z
        subst z
        refine ⟨l, rfl, ?_⟩
        rw [(k2 m).1 hm, List.getElem?_set_self (hl m List.mem_cons_self)]
      | succ k => simpa using (k2 n).2 k (by simpa using z)
theorem takeOuts_ok : ∀ {m : Nat} {h : MHeap} {outs : List (List Val)}, takeOuts m h = some outs → outs.length = m ∧ ∀ (k : Nat) (l : List Val), outs[k]? = some l → h[k]? = some (.list l) ∧ noLocL l = true
  | 0, h, outs, e => by
    simp only [takeOuts, Option.some.injEq] at e
    subst e
    exact ⟨rfl, fun k l z => by simp at z⟩
  | m + 1, [], outs, e => by simp [takeOuts] at e
  | m + 1, .dict _ _ :: r, outs, e => by simp [takeOuts] at e
  | m + 1, .list l :: r, outs, e => by
    simp only [takeOuts] at e
    split at e
    · rename_i hl
      obtain ⟨o1, e1, rfl⟩ := Option.map_eq_some_iff.mp e
      obtain ⟨k1, k2⟩ := takeOuts_ok e1
      refine ⟨by rw [List.length_cons, k1], fun k l2 z => ?_⟩
      cases k with
      | zero => simp at z; subst z; exact ⟨rfl, hl⟩
      | succ k => simpa using k2 k l2 (by simpa using z)
    · cases e
section
variable {c : C} {W : WX} {env : MEnv} {h : MHeap} {ml : List Addr} {G : Addr → Prop} {σ : L2.St} {H : Hp}
/-- what the callee may change: not what is only lent -/
def lent (ml : List Addr) (G : Addr → Prop) (RO : List Nat) : Addr → Prop := fun a => G a ∧ ∀ n ∈ RO, ml[n]? ≠ some a
theorem ro_mem {n : Nat} {bs : List Bool} {v : Val} {r : List Val} (hn : n ∈ locksOf v) : n ∈ roAt (false :: bs) (v :: r) ∧ n ∈ roAt [] (v :: r) := by
  cases v <;> simp [locksOf] at hn
  subst hn
  exact ⟨by simp [roAt], by simp [roAt]⟩
theorem ro_tail {n : Nat} {bs : List Bool} {v : Val} {r : List Val} : (n ∈ roAt bs r → n ∈ roAt (false :: bs) (v :: r)) ∧ (n ∈ roAt [] r → n ∈ roAt [] (v :: r)) := by
  cases v <;> refine ⟨fun hn => ?_, fun hn => ?_⟩ <;> simp [roAt, hn]
theorem io_tail {n : Nat} {bs : List Bool} {v : Val} {r : List Val} : ioAt (false :: bs) (v :: r) = ioAt bs r ∧ ioAt [] (v :: r) = [] := by
  cases v <;> exact ⟨by simp [ioAt], by simp [ioAt]⟩
theorem io_nil : ∀ r : List Val, ioAt [] r = []
  | [] => rfl
  | v :: r => io_tail (n := 0) (bs := []).2
theorem res_ok {M : List Addr} {RO : List Nat} {v w : Val} {x : V} (s : SR c env h ml G σ H) (r : RV c H ml G v x) (e : res h v = some w) (hr : ∀ n ∈ locksOf v, n ∈ RO) : RV c H M (lent ml G RO) w x ∧ w.noLoc = true := by
  have less : ∀ a, lent ml G RO a → G a := fun a z => z.1
  by_cases hv : ∃ n, v = .loc n
  · obtain ⟨n, rfl⟩ := hv
    obtain ⟨p, em, rfl⟩ := r.loc'
    simp only [res] at e
    split at e
    · rename_i l el
      split at e
      · rename_i hl
        cases e
        obtain ⟨ys, eH, rs⟩ := s.at el em
        exact ⟨.lst eH (fun z => z.2 n (hr n (by simp [locksOf])) em) (RVs.less less _ _ hl rs), by simpa [Val.noLoc] using hl⟩
      · cases e
    · cases e
  · have e' : w = v ∧ v.noLoc = true := by
      unfold res at e
      split at e
      · exact absurd ⟨_, rfl⟩ hv
      · split at e
        · rename_i hn
          cases e; exact ⟨rfl, hn⟩
        · cases e
    obtain ⟨rfl, hn⟩ := e'
    exact ⟨RV.less less _ _ hn r, hn⟩
theorem ent_of {RO : List Nat} (s : SR c env h ml G σ H) (M : List Addr) : ∀ {io : List Bool} {vs ws : List Val} {xs : List V}, RVs c H ml G vs xs → handOn h io vs = some ws → (∀ n ∈ roAt io vs, n ∈ RO) →
    Ent c H M (lent ml G RO) io ws xs ((ioAt io vs).filterMap (ml[·]?)) ∧ ∀ n ∈ ioAt io vs, ∃ a, ml[n]? = some a
  | io, [], ws, xs, rs, e, _ => by
    have := rs.inv0
    subst this
    have e1 : ws = [] := by cases io with
      | nil => simpa [handOn] using e.symm
      | cons b _ => cases b <;> simpa [handOn] using e.symm
    have e2 : ioAt io [] = [] := by cases io with
      | nil => rfl
      | cons b _ => cases b <;> rfl
    subst e1
    rw [e2]
    exact ⟨.nil, fun n z => by cases z⟩
  | true :: bs, v :: r, ws, xs, rs, e, hr => by
    obtain ⟨x, xr, rfl, r1, r2⟩ := rs.inv
    by_cases hv : ∃ n, v = .loc n
    · obtain ⟨n, rfl⟩ := hv
      obtain ⟨p, em, rfl⟩ := r1.loc'
      simp only [handOn] at e
      split at e
      · rename_i l el
        split at e
        · rename_i hl
          obtain ⟨w1, e1, rfl⟩ := Option.map_eq_some_iff.mp e
          obtain ⟨ys, eH, rl⟩ := s.at el em
          obtain ⟨k1, k2⟩ := ent_of s M r2 e1 fun n hn => hr n (by simpa [roAt] using hn)
          have ei : ioAt (true :: bs) (.loc n :: r) = n :: ioAt bs r := by simp [ioAt]
          rw [ei, List.filterMap_cons_some em]
          refine ⟨.io eH (RVs.less (fun a z => z.1) _ _ hl rl) hl k1, fun m hm => ?_⟩
          rcases List.mem_cons.mp hm with rfl | hm
          · exact ⟨p, em⟩
          · exact k2 m hm
        · cases e
      · cases e
    · exfalso
      cases v <;> first | (simp [handOn] at e; done) | exact hv ⟨_, rfl⟩
  | false :: bs, v :: r, ws, xs, rs, e, hr => by
    obtain ⟨x, xr, rfl, r1, r2⟩ := rs.inv
    simp only [handOn] at e
    obtain ⟨w, e1, e⟩ := Option.bind_eq_some_iff.mp e
    obtain ⟨w1, e2, rfl⟩ := Option.map_eq_some_iff.mp e
    obtain ⟨k1, k2⟩ := ent_of s M r2 e2 fun n hn => hr n (ro_tail.1 hn)
    obtain ⟨q1, q2⟩ := res_ok (M := M) s r1 e1 fun n hn => hr n (ro_mem hn).1
    rw [(io_tail (n := 0)).1]
    exact ⟨.ro q1 q2 k1, k2⟩
  | [], v :: r, ws, xs, rs, e, hr => by
    obtain ⟨x, xr, rfl, r1, r2⟩ := rs.inv
    simp only [handOn] at e
    obtain ⟨w, e1, e⟩ := Option.bind_eq_some_iff.mp e
    obtain ⟨w1, e2, rfl⟩ := Option.map_eq_some_iff.mp e
    obtain ⟨k1, k2⟩ := ent_of s M r2 e2 fun n hn => hr n (ro_tail (bs := []).2 hn)
    obtain ⟨q1, q2⟩ := res_ok (M := M) s r1 e1 fun n hn => hr n (ro_mem (bs := []) hn).2
    rw [io_nil] at k1 k2 ⊢
    exact ⟨.re q1 q2 k1, k2⟩
/-- the caller after a call -/
def CRes (c : C) (env : MEnv) (h1 : MHeap) (ml : List Addr) (G : Addr → Prop) (σ : L2.St) (H : Hp) (v : Val) (own : Bool) (x : V) (H' : Hp) : Prop :=
  ∃ G1 : Addr → Prop, Grow ml G H ml G1 H' ∧ SR c env h1 ml G1 σ H' ∧
    ((own = true ∧ ∃ (a : Addr) (l : List Val) (ys : List V), v = .lst l ∧ x = .ref a ∧ H a = none ∧ G1 a ∧ a ∉ ml ∧ H' a = some (.lst ys) ∧ RVs c H' ml G1 l ys) ∨ (own = false ∧ RV c H' ml G1 v x))
theorem nodup_at {ns : List Nat} (d : distinct ns = true) (hm : ∀ n ∈ ns, ∃ a, ml[n]? = some a) (nd : ml.Nodup) : (ns.filterMap (ml[·]?)).Nodup ∧ ∀ (k n : Nat), ns[k]? = some n → (ns.filterMap (ml[·]?))[k]? = ml[n]? := by
  induction ns with
  | nil => exact ⟨by simp, fun k n z => by simp at z⟩
  | cons n ns ih =>
    simp only [distinct, Bool.and_eq_true, Bool.not_eq_true'] at d
    have hn : n ∉ ns := fun z => by have := d.1; simp [z] at this
    obtain ⟨k1, k2⟩ := ih d.2 fun m hm' => hm m (List.mem_cons_of_mem _ hm')
    obtain ⟨a, ea⟩ := hm n List.mem_cons_self
    rw [List.filterMap_cons_some ea]
    refine ⟨List.nodup_cons.mpr ⟨fun z => ?_, k1⟩, fun k m z => ?_⟩
    · obtain ⟨m, hm', e⟩ := List.mem_filterMap.mp z
      have h1 := List.getElem?_eq_some_iff.mp e
      have h2 := List.getElem?_eq_some_iff.mp ea
      have : m = n := (List.getElem_inj nd).mp (h1.2.trans h2.2.symm)
      exact hn (this ▸ hm')
    · cases k with
      | zero => simp at z; subst z; simpa using ea.symm
      | succ k => simpa using k2 k m (by simpa using z)
theorem call_ok {cb : CB} {f : Nat} {io : List Bool} {vs : List Val} {xs : List V} {Q : VK} {E : XK} (s : SR c env h ml G σ H) (rs : RVs c H ml G vs xs) (r : Res (Val × Bool)) (er : doCall cb f io vs h = r) (ok : r ≠ .bad)
    (fin : ∀ (v : Val) (own : Bool) (h1 : MHeap) (x : V) (H' : Hp), r = .ok (v, own) h1 → CRes c env h1 ml G σ H v own x H' → Q x H') : SpM c io (cb f) xs H Q E := by
  unfold doCall at er
  cases k1 : handOn h io vs with
  | none => rw [k1] at er; exact absurd er.symm ok
  | some ws =>
    rw [k1] at er
    simp only at er
    split at er
    · rename_i hd
      simp only [Bool.and_eq_true, List.all_eq_true, Bool.not_eq_true'] at hd
      obtain ⟨hd, hro⟩ := hd
      cases k2 : cb f ws with
      | bad => rw [k2] at er; exact absurd er.symm ok
      | exc _ _ => rw [k2] at er; exact absurd er.symm ok
      | ret o =>
        rw [k2] at er
        simp only at er
        split at er
        · rename_i hcond
          cases k3 : putBack (ioAt io vs) o.outs h with
          | none => rw [k3] at er; exact absurd er.symm ok
          | some h1 =>
            rw [k3] at er
            simp only at er
            obtain ⟨en, hmem⟩ := ent_of (RO := roAt io vs) s ((ioAt io vs).filterMap (ml[·]?)) rs k1 fun n z => z
            obtain ⟨nd, hat⟩ := nodup_at hd hmem s.nd
            have sub : ∀ a ∈ (ioAt io vs).filterMap (ml[·]?), ∃ n ∈ ioAt io vs, ml[n]? = some a := fun a ha => by
              obtain ⟨n, hn, e⟩ := List.mem_filterMap.mp ha
              exact ⟨n, hn, e⟩
            have inml : ∀ a ∈ (ioAt io vs).filterMap (ml[·]?), a ∈ ml := fun a ha => by
              obtain ⟨n, _, e⟩ := sub a ha
              exact List.mem_of_getElem? e
            have hlt : ∀ n ∈ ioAt io vs, n < h.length := fun n hn => by
              obtain ⟨a, ea⟩ := hmem n hn
              rw [← s.len]; exact (List.getElem?_eq_some_iff.mp ea).1
            refine ⟨ws, _, _, o, en, nd, fun a ha => ⟨s.mg a (inml a ha), fun n hn e2 => ?_⟩, fun a z => s.tr a z.1, s.tb, k2, fun x H' ml' G' h' g s' tk rv => fin o.v o.own h1 x H' er.symm ?_⟩
            · obtain ⟨m, hm, e⟩ := sub a ha
              have h1' := List.getElem?_eq_some_iff.mp e
              have h2' := List.getElem?_eq_some_iff.mp e2
              have : m = n := (List.getElem_inj s.nd).mp (h1'.2.trans h2'.2.symm)
              subst this
              have := hro m hm
              simp [hn] at this
            · obtain ⟨ol, ok2⟩ := takeOuts_ok tk
              obtain ⟨pl, pb⟩ := putBack_ok k3 hd hlt
              have gg : Grow ml G H ml (fun b => G b ∨ G' b) H' := by
                refine ⟨⟨[], by simp, fun _ z => by cases z⟩, fun b z => .inl z, fun b z => ?_, fun b ob e hb ht => g.fr b ob e (fun z => hb (inml b z)) ht, g.nn, s.mg, s.ls, fun b hb => ?_⟩
                · rcases z with z | z
                  · exact .inl z
                  · rcases g.gn b z with q | q
                    · exact .inl q.1
                    · exact .inr q
                · by_cases hbM : b ∈ (ioAt io vs).filterMap (ml[·]?)
                  · exact g.ln b hbM
                  · exact g.nn b (s.tr b (s.mg b hb))
              -- what comes back, in the caller's eyes
              have back : ∀ (l : List Val) (ys : List V), noLocL l = true → (roAt io vs = [] ∨ noLstL l = true) → RVs c H' ml' G' l ys → RVs c H' ml (fun b => G b ∨ G' b) l ys := fun l ys n1 n2 q => by
                rcases n2 with n2 | n2
                · refine RVs.less (fun b z => ?_) _ _ n1 q
                  rcases z with z | z
                  · exact g.gm b ⟨z, fun n hn => by rw [n2] at hn; cases hn⟩
                  · exact z
                · exact RVs.any _ _ n2 q
              have cond : ∀ l ∈ o.outs, roAt io vs = [] ∨ noLstL l = true := fun l hl => by
                rcases Bool.or_eq_true_iff.mp hcond with q | q
                · exact .inl (List.isEmpty_iff.mp q)
                · rw [Bool.and_eq_true] at q
                  exact .inr (List.all_eq_true.mp q.2 l hl)
              have s1 : SR c env h1 ml (fun b => G b ∨ G' b) σ H' := by
                refine ⟨by rw [pl]; exact s.len, s.nd, fun a ha => .inl (s.mg a ha), fun a z => ?_, fun n ob a e1 e2 => ?_, gg.envs s.ev, s.el, s'.tb⟩
                · rcases z with z | z
                  · by_cases ham : a ∈ (ioAt io vs).filterMap (ml[·]?)
                    · exact g.ln a ham
                    · exact g.nn a (s.tr a z)
                  · exact s'.tr a z
                · by_cases hn : n ∈ ioAt io vs
                  · obtain ⟨k, hk⟩ := List.getElem?_of_mem hn
                    obtain ⟨l, el, eh⟩ := (pb n).2 k hk
                    rw [eh] at e1
                    cases e1
                    obtain ⟨eh', nl⟩ := ok2 k l el
                    have em : ml'[k]? = some a := by
                      obtain ⟨new, e3, _⟩ := g.pre
                      have e4 := hat k n hk
                      rw [e2] at e4
                      rw [e3, List.getElem?_append_left (List.getElem?_eq_some_iff.mp e4).1]
                      exact e4
                    obtain ⟨ys, eH, q⟩ := s'.obj k _ a eh' em
                    exact ⟨ys, eH, back l ys nl (cond l (List.mem_of_getElem? el)) q⟩
                  · rw [(pb n).1 hn] at e1
                    have ham : a ∉ (ioAt io vs).filterMap (ml[·]?) := fun z => by
                      obtain ⟨m, hm, e⟩ := sub a z
                      have h1' := List.getElem?_eq_some_iff.mp e
                      have h2' := List.getElem?_eq_some_iff.mp e2
                      have : m = n := (List.getElem_inj s.nd).mp (h1'.2.trans h2'.2.symm)
                      exact hn (this ▸ hm)
                    have q := s.obj n ob a e1 e2
                    cases ob with
                    | list l =>
                      obtain ⟨ys, eH, q⟩ := q
                      exact ⟨ys, g.fr a _ eH ham (fun _ z => by cases z), q.mono gg⟩
                    | dict _ _ => exact q.elim
              refine ⟨_, gg, s1, ?_⟩
              rcases rv with ⟨ow, a, l, ys, ev, rfl, en', ga, eH, q, nl⟩ | ⟨ow, q, nl⟩
              · refine .inl ⟨ow, a, l, ys, ev, rfl, en', .inr ga, fun z => s.tr a (s.mg a z) en', eH, back l ys nl ?_ q⟩
                rcases Bool.or_eq_true_iff.mp hcond with q | q
                · exact .inl (List.isEmpty_iff.mp q)
                · rw [Bool.and_eq_true] at q
                  have := q.1
                  unfold noLstOut at this
                  rw [ow, ev] at this
                  exact .inr this
              · refine .inr ⟨ow, ?_⟩
                rcases Bool.or_eq_true_iff.mp hcond with q2 | q2
                · have q2 := List.isEmpty_iff.mp q2
                  refine RV.less (fun b z => ?_) _ _ nl q
                  rcases z with z | z
                  · exact g.gm b ⟨z, fun n hn => by rw [q2] at hn; cases hn⟩
                  · exact z
                · rw [Bool.and_eq_true] at q2
                  have := q2.1
                  unfold noLstOut at this
                  rw [ow] at this
                  exact RV.any _ _ this q
        · exact absurd er.symm ok
    · exact absurd er.symm ok
end
end MPS

namespace MPS
open PySem PySem.Spec L2 MP
section
variable {c : C} {W : WX} {X : Cx} {e : Expr} {es : List Expr} {ga gk : MEnv → M (List Val)} {pos p : Pos}
/-- what is known of a def where it is called -/
structure Cal (c : C) (X : Cx) (cb : CB) (io : List Bool) (n : Nat) (x : Str) (k : Nat) (fd : FuncData) (ps : List Str) : Prop where
  F : FnOk X.prog X.w X.K X.mg X.base CX0 k (c.fa n) fd ps (SpM c io (cb n))
  hr : Room k X.A
  hm : X.mg x = some (.ref (c.fa n))
  hk : PySem.W.keepIn X.K (.ref (c.fa n)) = true
  hb : Binds X.K fd ps []
theorem SR.sealed {env : MEnv} {h : MHeap} {ml ml0 : List Addr} {G G0 : Addr → Prop} {σ : L2.St} {H H0 : Hp} {a : Addr} (s1 : SR c env h ml G σ H) (g : Grow ml0 G0 H0 ml G H) (hn : H0 a = none) (gp : ¬ G0 a) (hm : a ∉ ml) :
    Grow ml0 G0 H0 ml (fun b => G b ∧ b ≠ a) H ∧ SR c env h ml (fun b => G b ∧ b ≠ a) σ H := by
  refine ⟨⟨g.pre, fun b z => ⟨g.gm b z, fun z' => gp (z' ▸ z)⟩, fun b z => g.gn b z.1, g.fr, g.nn, g.mg, g.ls, g.ln⟩, ⟨s1.len, s1.nd, fun b hb => ⟨s1.mg b hb, fun z => hm (z ▸ hb)⟩, fun b z => s1.tr b z.1, fun n o b e1 e2 => ?_, fun i v e1 => ?_, s1.el, s1.tb⟩⟩
  · have q := s1.obj n o b e1 e2
    cases o with
    | list l2 =>
      obtain ⟨zs, e3, r3⟩ := q
      exact ⟨zs, e3, RVs.lessG (fun b z => z.1) _ _ r3⟩
    | dict _ _ => exact q.elim
  · obtain ⟨x, e2, r⟩ := s1.ev i v e1
    exact ⟨x, e2, RV.lessG (fun b z => z.1) _ _ r⟩
theorem back_of {pos : Pos} {en : PySem.Env} : ∀ {es : List Expr}, es.all (fun e => !isStar e) = true → (backTo pos (starEach es en)).any (·.1) = false
  | [], _ => rfl
  | e :: es, h => by
    simp only [List.all_cons, Bool.and_eq_true, Bool.not_eq_true'] at h
    rw [star_of e es en h.1]
    show (false || (backTo pos (starEach es en)).any (·.1)) = false
    rw [back_of (es := es) (by simpa using h.2)]
    rfl
/-- the value of a call, whoever made it -/
theorem call_val {cb : CB} {n : Nat} {io : List Bool} {env : MEnv} {h : MHeap} {ml : List Addr} {G : Addr → Prop} {σ : L2.St} {H : Hp} {vs : List Val} {xs : List V} {Q : VK} {E : XK} (s : SR c env h ml G σ H) (rs : RVs c H ml G vs xs)
    (o : Ok c W env σ ((do let r ← doCall cb n io vs; pure r.1) h) ml G H fun v _ ml' G' H' => ∀ x, RV c H' ml' G' v x → Q x H') : SpM c io (cb n) xs H Q E := by
  have o2 := Ok.bind o
  refine call_ok s rs _ rfl (fun z => ?_) fun v own h2 x H' er cr => ?_
  · unfold Ok at o2
    rw [z] at o2
    exact o2
  · unfold Ok at o2
    rw [er] at o2
    obtain ⟨G2, g2, s2, alt⟩ := cr
    rcases alt with ⟨_, a, l, ys, rfl, rfl, hn, ga, hm, eH, rl⟩ | ⟨_, r⟩
    · obtain ⟨g3, s3⟩ := s2.sealed g2 hn (fun z => s.tr a z hn) hm
      exact o2 ml _ H' g3 s3 ml _ H' s3.refl s3 _ (.lst eH (fun z => z.2 rfl) (RVs.lessG (fun b z => z.1) _ _ rl))
    · exact o2 ml G2 H' g2 s2 ml G2 H' s2.refl s2 _ r
theorem call_new {cb : CB} {n : Nat} {io : List Bool} {env : MEnv} {h : MHeap} {ml : List Addr} {G : Addr → Prop} {σ : L2.St} {H : Hp} {vs : List Val} {xs : List V} {Q : VK} {E : XK} (s : SR c env h ml G σ H) (rs : RVs c H ml G vs xs)
    (o : OkF c W env σ ((do let r ← doCall cb n io vs; lift (ownL r)) h) ml G H Q) : SpM c io (cb n) xs H Q E := by
  rw [bind_app] at o
  refine call_ok s rs _ rfl (fun z => ?_) fun v own h2 x H' er cr => ?_
  · rw [z] at o
    exact o
  · rw [er] at o
    simp only [lift_app] at o
    obtain ⟨G2, g2, s2, alt⟩ := cr
    cases e : ownL (v, own) with
    | none => rw [e] at o; exact o.elim
    | some l =>
      rw [e] at o
      unfold ownL at e
      split at e
      · rename_i l2 e2
        cases e
        cases e2
        rcases alt with ⟨_, a, l, ys, e3, rfl, hn, ga, hm, eH, rl⟩ | ⟨z, _⟩
        · cases e3
          exact o ml G2 H' a ys g2 s2 hn ga hm eH rl
        · cases z
      · cases e
theorem sE_call {cb : CB} {io : List Bool} {n k : Nat} {x : Str} {fd : FuncData} {ps : List Str} (K : Cal c X cb io n x k fd ps) (hg : Gl X x) (ha : PA X (e :: es) (tA c W ga)) (hs : (e :: es).all (fun e => !isStar e) = true) (hdb : (x == ("__debug__" : Str)) = false) :
    PE X (.Call (.Name x p) (e :: es) [] pos) (tE c W fun env => do let vs ← ga env; let r ← doCall cb n io vs; pure r.1) := by
  have h1 : isStar e = false := by simp only [List.all_cons, Bool.and_eq_true, Bool.not_eq_true'] at hs; exact hs.1
  have h2 : es.all (fun e => !isStar e) = true := by simp only [List.all_cons, Bool.and_eq_true] at hs; exact hs.2
  refine (pe_call K.F K.hr hg K.hm K.hk K.hb .nil pass0 ha hdb (star_of _ _ _ h1) (back_of h2)).imp fun σ H Q q => ?_
  obtain ⟨env, h, ml, G, s, o⟩ := q
  refine ⟨env, h, ml, G, s, (Ok.bind o).imp fun vs h1 ml1 G1 H1 g1 s1 o1 xs rs => ?_⟩
  show SpM c io (cb n) (xs ++ []) H1 Q _
  rw [List.append_nil]
  exact call_val s1 rs o1
theorem sF_call {cb : CB} {io : List Bool} {n k : Nat} {x : Str} {fd : FuncData} {ps : List Str} (K : Cal c X cb io n x k fd ps) (hg : Gl X x) (ha : PA X (e :: es) (tA c W ga)) (hs : (e :: es).all (fun e => !isStar e) = true) (hdb : (x == ("__debug__" : Str)) = false) :
    PE X (.Call (.Name x p) (e :: es) [] pos) (tF c W fun env => do let vs ← ga env; let r ← doCall cb n io vs; lift (ownL r)) := by
  have h1 : isStar e = false := by simp only [List.all_cons, Bool.and_eq_true, Bool.not_eq_true'] at hs; exact hs.1
  have h2 : es.all (fun e => !isStar e) = true := by simp only [List.all_cons, Bool.and_eq_true] at hs; exact hs.2
  refine (pe_call K.F K.hr hg K.hm K.hk K.hb .nil pass0 ha hdb (star_of _ _ _ h1) (back_of h2)).imp fun σ H Q q => ?_
  obtain ⟨env, h, ml, G, s, o⟩ := q
  refine ⟨env, h, ml, G, s, (okF_exc o).imp fun vs h1 ml1 G1 H1 g1 s1 o1 xs rs => ?_⟩
  show SpM c io (cb n) (xs ++ []) H1 Q _
  rw [List.append_nil]
  exact call_new s1 rs o1
theorem sE_call0 {cb : CB} {io : List Bool} {n k : Nat} {x : Str} {fd : FuncData} {ps : List Str} (K : Cal c X cb io n x k fd ps) (hg : Gl X x) (hdb : (x == ("__debug__" : Str)) = false) :
    PE X (.Call (.Name x p) [] [] pos) (tE c W fun env => do let vs ← pure []; let r ← doCall cb n io vs; pure r.1) := by
  refine (pe_call0 K.F K.hr hg K.hm K.hk K.hb .nil pass0 hdb).imp fun σ H Q q => ?_
  obtain ⟨env, h, ml, G, s, o⟩ := q
  exact call_val (E := E0) s .nil (Ok.pure (Ok.bind o) s)
theorem sF_call0 {cb : CB} {io : List Bool} {n k : Nat} {x : Str} {fd : FuncData} {ps : List Str} (K : Cal c X cb io n x k fd ps) (hg : Gl X x) (hdb : (x == ("__debug__" : Str)) = false) :
    PE X (.Call (.Name x p) [] [] pos) (tF c W fun env => do let vs ← pure []; let r ← doCall cb n io vs; lift (ownL r)) := by
  refine (pe_call0 K.F K.hr hg K.hm K.hk K.hb .nil pass0 hdb).imp fun σ H Q q => ?_
  obtain ⟨env, h, ml, G, s, o⟩ := q
  exact call_new (E := E0) s .nil (Ok.pure (okF_exc o) s)

/-- values put in another order -/
def arrG {α : Type} (ar : List Nat) (l : List α) : List α := ar.filterMap (l[·]?)
theorem vals_at : ∀ {vs : List V} {us : List Value}, Vals vs us → ∀ i : Nat, (vs[i]? = none ∧ us[i]? = none) ∨ ∃ v u, vs[i]? = some v ∧ us[i]? = some u ∧ RelV v u
  | _, _, .nil, i => .inl ⟨rfl, rfl⟩
  | _, _, .cons r t, 0 => .inr ⟨_, _, rfl, rfl, r⟩
  | _, _, .cons r t, i + 1 => by simpa using vals_at t i
theorem arrG_vals {vs : List V} {us : List Value} (h : Vals vs us) : ∀ ar : List Nat, Vals (arrG ar vs) (arrG ar us)
  | [] => .nil
  | i :: ar => by
    unfold arrG
    rcases vals_at h i with ⟨h1, h2⟩ | ⟨v, u, h1, h2, r⟩
    · rw [List.filterMap_cons_none h1, List.filterMap_cons_none h2]; exact arrG_vals h ar
    · rw [List.filterMap_cons_some h1, List.filterMap_cons_some h2]; exact .cons r (arrG_vals h ar)
theorem arrG_rvs {H : Hp} {ml : List Addr} {G : Addr → Prop} {vs : List Val} {xs : List V} (h : RVs c H ml G vs xs) : ∀ {ar : List Nat} {ws : List Val}, arrange vs ar = some ws → RVs c H ml G ws (arrG ar xs)
  | [], ws, e => by
    simp only [arrange, Option.some.injEq] at e
    subst e
    exact .nil
  | i :: ar, ws, e => by
    simp only [arrange] at e
    obtain ⟨v, ev, e⟩ := Option.bind_eq_some_iff.mp e
    obtain ⟨w1, e1, rfl⟩ := Option.map_eq_some_iff.mp e
    obtain ⟨x, ex, rx⟩ := h.get ev
    unfold arrG
    rw [List.filterMap_cons_some ex]
    exact .cons rx (arrG_rvs h e1)
/-- the binding of a call with keywords; ds: what stands for the parameters that lack -/
def KBd (c : C) (K : PySem.W.Frag) (fd : FuncData) (ps : List Str) (n : Nat) (ks : List Str) (ar : List Nat) (ds : List Val) : Prop :=
  ∃ (dus : List Value) (dvs : List V), KBn K fd ps n ks (fun us ws => arrG ar (us ++ ws ++ dus)) (fun vs zs => arrG ar (vs ++ zs ++ dvs)) ∧ ∀ H ml G, RVs c H ml G ds dvs
/-- how keywords bind: ar the places among the positional values and the keywords' -/
structure CalK (c : C) (X : Cx) (cb : CB) (io : List Bool) (f : Nat) (x : Str) (k : Nat) (fd : FuncData) (ps : List Str) (n : Nat) (ks : List Str) (ar : List Nat) (ds : List Val) : Prop where
  F : FnOk X.prog X.w X.K X.mg X.base CX0 k (c.fa f) fd ps (SpM c io (cb f))
  hr : Room k X.A
  hm : X.mg x = some (.ref (c.fa f))
  hk : PySem.W.keepIn X.K (.ref (c.fa f)) = true
  hb : KBd c X.K fd ps n ks ar ds
theorem kbn_of {K : PySem.W.Frag} {fd : FuncData} {ps ks : List Str} {n : Nat} {ar : List Nat} (h : ∀ (us ws : List Value), us.length = n → ws.length = ks.length → bindArgs fd ⟨us, ks.zip ws⟩ = pure (ps.zip (arrG ar (us ++ ws)))) : KBd c K fd ps n ks ar [] :=
  ⟨[], [], ⟨fun s us ws _ h1 h2 => .of_eq (by rw [List.append_nil]; exact h us ws h1 h2), fun r1 r2 => arrG_vals ((r1.append r2).append .nil) ar⟩, fun _ _ _ => .nil⟩
theorem kbd_of {K : PySem.W.Frag} {fd : FuncData} {ps ks : List Str} {n : Nat} {ar : List Nat} {ds : List Val} {D : Addr} {ms : List (Str × V)} (hq : ∀ q ∈ ms, ∃ u, PySem.W.nsIn K D q.1 = some (some u) ∧ RelV q.2 u) (hr : ∀ H ml G, RVs c H ml G ds (ms.map (·.2)))
    (h : ∀ (us ws mv : List Value), us.length = n → ws.length = ks.length → mv.length = ms.length → KwChain D ((ms.map (·.1)).zip mv) (bindArgs fd ⟨us, ks.zip ws⟩) (ps.zip (arrG ar (us ++ ws ++ mv)))) : KBd c K fd ps n ks ar ds := by
  obtain ⟨mv, hl, rk, hks⟩ := kwd_vals hq
  exact ⟨mv, ms.map (·.2), ⟨fun s us ws X h1 h2 => BindsTo.of_looks fun M => KwChain.looks X hks (h us ws mv h1 h2 hl), fun r1 r2 => arrG_vals ((r1.append r2).append rk) ar⟩, hr⟩
/-- the keywords' values, as MP reads them -/
theorem sK_nil : PK X [] (tA c W fun _ => pure []) := ⟨fun pos pins s σ H Q I q => pk_nil.run pos pins s σ H Q I (by
  obtain ⟨env, h, ml, G, s, o⟩ := q
  exact o.pure s _ .nil)⟩
theorem sK_cons {fa : MEnv → M Val} {kws : List Keyword} {nm : Option Str} {kpos : Pos} (ha : PE X e (tE c W fa)) (hr : PK X kws (tA c W ga)) : PK X (⟨nm, e, kpos⟩ :: kws) (tA c W fun env => do let x ← fa env; let xs ← ga env; pure (x :: xs)) :=
  ⟨fun pos pins s σ H Q I q => (pk_cons ha hr).run pos pins s σ H Q I (by
    obtain ⟨env, h, ml, G, s, o⟩ := q
    refine ⟨env, h, ml, G, s, (Ok.bind o).imp fun v h1 ml1 G1 H1 g1 s1 o1 x r => ⟨env, h1, ml1, G1, s1, (Ok.bind o1).imp fun vs h2 ml2 G2 H2 g2 s2 o2 xs rs => o2.pure s2 _ (.cons (r.mono g2) rs)⟩⟩)⟩
/-- f(k = v, ..) -/
theorem pe_callN0 {CX : CXT} {k : Nat} {f : Addr} {fd : FuncData} {ps ks : List Str} {sp : Sp} {E : XK} {x : Str} {kws : List Keyword} {tk : TA} {g : List Value → List Value → List Value} {gV : List V → List V → List V}
    (F : FnOk X.prog X.w X.K X.mg X.base CX k f fd ps sp) (hr : Room k X.A) (hg : Gl X x) (hm : X.mg x = some (.ref f)) (hk : PySem.W.keepIn X.K (.ref f) = true) (hb : KBn X.K fd ps 0 ks g gV) (hx : Passes CX X E)
    (hkw : PK X kws tk) (hall : (backToKw pos (keywordEach kws X.env)).all (·.1.isSome) = true) (hks : (backToKw pos (keywordEach kws X.env)).filterMap (·.1) = ks)
    (hdb : (x == ("__debug__" : Str)) = false) (hpl : ((backTo pos (starEach [] X.env)).any (·.1) || (backToKw pos (keywordEach kws X.env)).any (·.1.isNone)) = false) :
    PE X (.Call (.Name x p) [] kws pos) (fun σ H Q => tk σ H fun zs H2 => zs.length = ks.length ∧ sp (gV [] zs) H2 Q E) := by
  refine ⟨fun pins s σ H Q I0 q0 => wpAny_Call_Name_kw (ld_glob I0 hg hm ?_ hdb)⟩
  refine PySem.W.callWith_KW0 (h₀ := X.base) I0.ok.mod.kin hk hall (thn (hkw.run pos pins s σ H _ I0 q0) fun ws s2 z => ?_) hpl
  obtain ⟨zs, H2, I2, rz, l2, q2⟩ := z
  refine ⟨I2.kIn, ?_⟩
  rw [hks]
  exact run_fnN (us := []) (vs := []) F hr hb hx I2 .nil rz rfl l2 q2
theorem sE_callk0 {cb : CB} {io : List Bool} {f k m : Nat} {x : Str} {fd : FuncData} {ps ks : List Str} {ar : List Nat} {ds : List Val} {kws : List Keyword} (K : CalK c X cb io f x k fd ps 0 ks ar ds) (hg : Gl X x) (hkw : PK X kws (tA c W gk)) (hm : ks.length = m)
    (hall : (backToKw pos (keywordEach kws X.env)).all (·.1.isSome) = true) (hks : (backToKw pos (keywordEach kws X.env)).filterMap (·.1) = ks)
    (hdb : (x == ("__debug__" : Str)) = false) (hpl : ((backTo pos (starEach [] X.env)).any (·.1) || (backToKw pos (keywordEach kws X.env)).any (·.1.isNone)) = false) :
    PE X (.Call (.Name x p) [] kws pos) (tE c W fun env => do
      let vs ← pure []
      let ws ← gk env
      let xs ← lift (argsK 0 m ar ds vs ws)
      let r ← doCall cb f io xs
      pure r.1) := by
  obtain ⟨dus, dvs, hb, hd⟩ := K.hb
  refine (pe_callN0 K.F K.hr hg K.hm K.hk hb pass0 hkw hall hks hdb hpl).imp fun σ H Q q => ?_
  obtain ⟨env, h, ml, G, s, o⟩ := q
  have o := Ok.pure (Ok.bind o) s
  refine ⟨env, h, ml, G, s, (Ok.bind o).imp fun ws h1 ml1 G1 H1 g1 s1 o1 zs rz => ?_⟩
  obtain ⟨xs, e, o2⟩ := Ok.liftB o1 s1
  unfold argsK at e
  split at e
  · rename_i hl
    exact ⟨by rw [rz.length, hl.2, hm], call_val (E := E0) s1 (arrG_rvs (by simpa using rz.append (hd H1 ml1 G1)) e) o2⟩
  · cases e
theorem sE_callk {cb : CB} {io : List Bool} {f k n m : Nat} {x : Str} {fd : FuncData} {ps ks : List Str} {ar : List Nat} {ds : List Val} {kws : List Keyword} (K : CalK c X cb io f x k fd ps n ks ar ds) (hg : Gl X x) (ha : PA X (e :: es) (tA c W ga)) (hs : (e :: es).all (fun e => !isStar e) = true)
    (hkw : PK X kws (tA c W gk)) (hm : ks.length = m)
    (hall : (backToKw pos (keywordEach kws X.env)).all (·.1.isSome) = true) (hks : (backToKw pos (keywordEach kws X.env)).filterMap (·.1) = ks)
    (hdb : (x == ("__debug__" : Str)) = false) (hpl : (backToKw pos (keywordEach kws X.env)).any (·.1.isNone) = false) :
    PE X (.Call (.Name x p) (e :: es) kws pos) (tE c W fun env => do
      let vs ← ga env
      let ws ← gk env
      let xs ← lift (argsK n m ar ds vs ws)
      let r ← doCall cb f io xs
      pure r.1) := by
  have h1 : isStar e = false := by simp only [List.all_cons, Bool.and_eq_true, Bool.not_eq_true'] at hs; exact hs.1
  obtain ⟨dus, dvs, hb, hd⟩ := K.hb
  refine (pe_callN K.F K.hr hg K.hm K.hk hb pass0 ha hkw hall hks hdb (star_of _ _ _ h1) (by rw [back_of hs, hpl]; rfl)).imp fun σ H Q q => ?_
  obtain ⟨env, h, ml, G, s, o⟩ := q
  refine ⟨env, h, ml, G, s, (Ok.bind o).imp fun vs h1 ml1 G1 H1 g1 s1 o1 xs rs => ⟨env, h1, ml1, G1, s1, (Ok.bind o1).imp fun ws h2 ml2 G2 H2 g2 s2 o2 zs rz => ?_⟩⟩
  obtain ⟨ys, e, o3⟩ := Ok.liftB o2 s2
  unfold argsK at e
  split at e
  · rename_i hl
    exact ⟨by rw [rs.length, hl.1], by rw [rz.length, hl.2, hm], call_val (E := E0) s2 (arrG_rvs (((rs.mono g2).append rz).append (hd H2 ml2 G2)) e) o3⟩
  · cases e
end
end MPS

namespace MPS
open PySem PySem.Spec L2 MP

/-- what a module's name stands for -/
inductive GK where
  | fn (n : Nat) | fk (n : Nat) | cst (v : Val) | blt
  deriving DecidableEq
/-- what is known where a text stands -/
structure Inf where
  N : List Str
  sc : Scope
  raw : List (Str × NameKind)
  gl : List (Str × GK)
  io : List (List Bool)
  kc : List (Nat × Nat × List Str × List Nat × List Val)
  /-- a lambda may be made here -/
  tab : Bool
def isGlob (I : Inf) (x : Str) : Bool := decide (I.sc.names.lookup x = some .globalImplicit) && !(x == ("__debug__" : Str))
def isBlt (I : Inf) (x : Str) : Bool := isGlob I x && decide (I.gl.lookup x = some .blt)
def isVis (I : Inf) (x : Str) : Bool := match I.sc.names.lookup x with
  | some .local => true
  | some .cell => true
  | some .free => true
  | _ => false
def isLoc (I : Inf) (x : Str) : Bool := match I.sc.names.lookup x with
  | some .local => true
  | some .cell => decide (I.raw.lookup x = some .cell)
  | _ => false
def isAnil : IE → Bool
  | .anil => true
  | _ => false
def isSet : Expr → Bool
  | .Set _ _ _ => true
  | _ => false
def isTup : Expr → Bool
  | .Tuple _ _ _ => true
  | _ => false
def isComp : Expr → Bool
  | .ListComp _ _ _ _ => true
  | .SetComp _ _ _ _ => true
  | .DictComp _ _ _ _ _ => true
  | _ => false
def kwNames : List Keyword → Option (List Str)
  | [] => some []
  | ⟨some x, _, _⟩ :: r => (kwNames r).map (x :: ·)
  | ⟨none, _, _⟩ :: _ => none
def blkI (I : Inf) (scope : Scope) : Inf := { I with sc := relS scope I.sc, raw := scope.names, tab := false }
def ownP (I : Inf) (own : List Nat) : List (Str × Nat) := own.map fun i => (I.N.getD i "", i)
def tyNames : List String := ["int", "bool", "tuple", "str", "list", "dict"]
def lamP (ps : Arguments) : Str := match ps.args with
  | [a] => a.arg
  | _ => ""
mutual
def mTg (I : Inf) : Tg → Expr → Bool
  | .n i, .Name x _ => decide (I.N[i]? = some x) && isLoc I x
  | .t l, .Tuple es _ _ => mTgs I l es && decide (es.length = tgN l) && es.all fun e => !isStar e
  | _, _ => false
def mTgs (I : Inf) : Tg → List Expr → Bool
  | .nil, [] => true
  | .cons a r, e :: es => mTg I a e && mTgs I r es && !isStar e
  | _, _ => false
end
mutual
def mE (I : Inf) : IE → Expr → Bool
  | .k v, e => match e with
    | .Constant .none _ _ => decide (v = .non)
    | .Constant (.bool z) _ _ => decide (v = .bl z)
    | .Constant (.int z) _ _ => decide (v = .int z)
    | .Constant (.str z) _ _ => decide (v = .str z)
    | .Name x _ => isGlob I x && decide (I.gl.lookup x = some (.cst v))
    | _ => false
  | .d0, e => match e with
    | .Dict [] [] _ => true
    | _ => false
  | .var i, e => match e with
    | .Name x _ => decide (I.N[i]? = some x) && isVis I x && !(x == ("__debug__" : Str)) && !(x == ("__classdict__" : Str))
    | _ => false
  | .bin o a b, e => match e with
    | .BinOp x p y _ => decide (p = opB o) && mE I a x && mE I b y
    | _ => false
  | .neg a, e => match e with
    | .UnaryOp .USub x _ => mE I a x
    | _ => false
  | .cmp o a b, e => match e with
    | .Compare x [p] [y] _ => decide (p = opC o) && !behindInMarks p y && mE I a x && mE I b y
    | _ => false
  | .cmp2 o o2 a b d, e => match e with
    | .Compare x [p, p2] [y, z] _ => decide (p = opC o) && decide (p2 = opC o2) && !lastMarks [p, p2] [y, z] && mE I a x && mE I b y && mE I d z
    | _ => false
  | .and a b, e => match e with
    | .BoolOp .And [x, y] _ => mE I a x && mE I b y
    | .BoolOp .And (x :: y :: z :: r) pos => mE I a x && mE I b (.BoolOp .And (y :: z :: r) pos)
    | _ => false
  | .or a b, e => match e with
    | .BoolOp .Or [x, y] _ => mE I a x && mE I b y
    | .BoolOp .Or (x :: y :: z :: r) pos => mE I a x && mE I b (.BoolOp .Or (y :: z :: r) pos)
    | _ => false
  | .not a, e => match e with
    | .UnaryOp .Not x _ => mE I a x
    | _ => false
  | .ite d a b, e => match e with
    | .IfExp t x y _ => mT I d t && mE I a x && mE I b y
    | _ => false
  | .tup es, e => match e with
    | .Tuple xs _ _ => mA I es xs
    | _ => false
  | .idx a i, e => match e with
    | .Subscript x y _ => !isSlice y && mE I a x && mE I i y
    | _ => false
  | .slc a lo hi, e => match e with
    | .Subscript x (.Slice l h none _) _ => mE I a x && mO I lo l && mO I hi h
    | _ => false
  | .call f io es, e => match e with
    | .Call (.Name x _) args [] _ => isGlob I x && decide (I.gl.lookup x = some (.fn f)) && decide (I.io[f]? = some io) && (args.all fun e => !isStar e) && mA I es args
    | _ => false
  | .callk f io n m es ks ar ds, e => match e with
    | .Call (.Name x _) args kws _ => isGlob I x && (decide (I.gl.lookup x = some (.fn f)) || decide (I.gl.lookup x = some (.fk f))) && decide (I.io[f]? = some io) && (args.all fun e => !isStar e) && (match kwNames kws with
        | some names => decide (names.length = m) && decide ((f, n, names, ar, ds) ∈ I.kc)
        | none => false) && (!args.isEmpty || decide (n = 0)) && mA I es args && mK I ks kws
    | _ => false
  | .b1 b a, e => match e with
    | .Call (.Name x _) [y] [] _ => decide (x = b1N b) && isBlt I x && !isStar y && mE I a y
    | _ => false
  | .b2 b a d, e => match e with
    | .Call (.Name x _) [y, z] [] _ => decide (x = b2N b) && isBlt I x && !isStar y && !isStar z && mE I a y && mE I d z
    | _ => false
  | .isi a t, e => match e with
    | .Call (.Name x _) [y, .Name z _] [] _ => decide (x = ("isinstance" : Str)) && isBlt I x && decide (z = Str.ofString t) && isBlt I z && tyNames.contains t && !isStar y && mE I a y
    | _ => false
  | .pop o, e => match e with
    | .Call (.Attribute x nm ap) [] [] cp => decide (nm = ("pop" : Str)) && isNm x && (ap.endLine == cp.line) && mE I o x
    | _ => false
  | .trep a b, e => match e with
    | .BinOp x .Mult y _ => mE I a x && mE I b y
    | _ => false
  | .trev a, e => match e with
    | .Subscript x (.Slice none none (some (.UnaryOp .USub (.Constant (.int z) _ _) _)) _) _ => decide (z = 1) && mE I a x
    | _ => false
  | .mink ks a, e => match e with
    | .Call (.Name x _) [y] [⟨some k1, .Lambda ps (.Tuple es _ _) sc _, _⟩, ⟨some k2, .Constant .none _ _, _⟩] _ => I.tab && decide (x = ("min" : Str)) && isBlt I x && decide (k1 = Str.ofString "key") && decide (k2 = Str.ofString "default") && decide (ks.length ≤ 1000) && !isStar y && mLam1 (lamP ps) ps sc && mKPs (lamP ps) ks es && mE I a y
    | _ => false
  | .mind a, e => match e with
    | .Call (.Name x _) [y] [] _ => decide (x = ("min" : Str)) && isBlt I x && !isStar y && mE I a y
    | _ => false
  | .inl f, e => mF I f e
  | .mk f, e => mF I f e
  | _, _ => false
def mT (I : Inf) : IE → Expr → Bool
  | .and a b, e => match e with
    | .BoolOp .And [x, y] _ => mT I a x && mT I b y
    | .BoolOp .And (x :: y :: z :: r) pos => mT I a x && mW I b (.BoolOp .And (y :: z :: r) pos)
    | _ => false
  | .or a b, e => match e with
    | .BoolOp .Or [x, y] _ => mT I a x && mT I b y
    | .BoolOp .Or (x :: y :: z :: r) pos => mT I a x && mW I b (.BoolOp .Or (y :: z :: r) pos)
    | _ => false
  | .not a, e => match e with
    | .UnaryOp .Not x _ => mT I a x
    | _ => false
  | .cmp o a b, e => match e with
    | .Compare x [p] [y] _ => decide (p = opC o) && !behindInMarks p y && mE I a x && mE I b y
    | _ => false
  | .cmp2 o o2 a b d, e => match e with
    | .Compare x [p, p2] [y, z] _ => decide (p = opC o) && decide (p2 = opC o2) && !lastMarks [p, p2] [y, z] && mE I a x && mE I b y && mE I d z
    | _ => false
  | .tr a, e => plainTest e && mE I a e
  | _, _ => false
def mW (I : Inf) : IE → Expr → Bool
  | .and a b, e => match e with
    | .BoolOp .And [x, y] _ => mT I a x && mT I b y
    | .BoolOp .And (x :: y :: z :: r) pos => mT I a x && mW I b (.BoolOp .And (y :: z :: r) pos)
    | _ => false
  | .or a b, e => match e with
    | .BoolOp .Or [x, y] _ => mT I a x && mT I b y
    | .BoolOp .Or (x :: y :: z :: r) pos => mT I a x && mW I b (.BoolOp .Or (y :: z :: r) pos)
    | _ => false
  | _, _ => false
def mA (I : Inf) : IE → List Expr → Bool
  | .anil, [] => true
  | .acons a r, e :: es => mE I a e && mA I r es && !isStar e
  | _, _ => false
def mK (I : Inf) : IE → List Keyword → Bool
  | .anil, [] => true
  | .acons a r, ⟨_, e, _⟩ :: es => mE I a e && mK I r es
  | _, _ => false
def mO (I : Inf) : IE → Option Expr → Bool
  | .no, none => true
  | .part a, some e => mE I a e
  | _, _ => false
def mF (I : Inf) : IE → Expr → Bool
  | .fdisp es, e => match e with
    | .List xs _ => mA I es xs
    | _ => false
  | .fcat a b, e => match e with
    | .BinOp x .Add y _ => mE I a x && mE I b y
    | _ => false
  | .frep a b, e => match e with
    | .BinOp x .Mult y _ => mE I a x && mE I b y
    | _ => false
  | .fslc a lo hi, e => match e with
    | .Subscript x (.Slice l h none _) _ => mE I a x && mO I lo l && mO I hi h
    | _ => false
  | .flist a, e => match e with
    | .Call (.Name x _) [y] [] _ => decide (x = ("list" : Str)) && isBlt I x && !isStar y && mE I a y
    | _ => false
  | .fsort a, e => match e with
    | .Call (.Name x _) [y] [] _ => decide (x = ("sorted" : Str)) && isBlt I x && !isStar y && mE I a y
    | _ => false
  | .call f io es, e => match e with
    | .Call (.Name x _) args [] _ => isGlob I x && decide (I.gl.lookup x = some (.fn f)) && decide (I.io[f]? = some io) && (args.all fun e => !isStar e) && mA I es args
    | _ => false
  | .fcomp own tg it cs x, e => match e with
    | .ListComp elt [⟨t, iter, ifs, 0⟩] scope _ => blkC I.N I.sc scope (ownP I own) && ((tgs tg).all fun i => own.contains i) && !isSet iter && mTg (blkI I scope) tg t && mI I it t iter && mC (blkI I scope) cs ifs && mE (blkI I scope) x elt
    | _ => false
  | _, _ => false
def mC (I : Inf) : IE → List Expr → Bool
  | .anil, [] => true
  | .acons a _, [e] => mT I a e
  | _, _ => false
def mI (I : Inf) : IE → Expr → Expr → Bool
  | .rng1 a, _, e => match e with
    | .Call (.Name x _) [y] [] _ => decide (x = ("range" : Str)) && isBlt I x && !isStar y && mE I a y
    | _ => false
  | .rng2 a b, _, e => match e with
    | .Call (.Name x _) [y, z] [] _ => decide (x = ("range" : Str)) && isBlt I x && !isStar y && !isStar z && mE I a y && mE I b z
    | _ => false
  | .rng3 a b d, _, e => match e with
    | .Call (.Name x _) [y, z, w] [] _ => decide (x = ("range" : Str)) && isBlt I x && !isStar y && !isStar z && !isStar w && mE I a y && mE I b z && mE I d w
    | _ => false
  | .enum a, t, e => match e with
    | .Call (.Name x _) [y] [] _ => decide (x = ("enumerate" : Str)) && isBlt I x && isTup t && !isStar y && mE I a y
    | _ => false
  | .zip a b, t, e => match e with
    | .Call (.Name x _) [y, z] [] _ => decide (x = ("zip" : Str)) && isBlt I x && isTup t && !isStar y && !isStar z && mE I a y && mE I b z
    | _ => false
  | .seq a, _, e => mE I a e
  | .rev a, _, e => match e with
    | .Call (.Name x _) [y] [] _ => decide (x = ("reversed" : Str)) && isBlt I x && !isStar y && mE I a y
    | _ => false
  | _, _, _ => false
end

/-- the place of a text -/
structure At (c : C) (X : Cx) (I : Inf) (cb : CB) : Prop where
  good : Good c X
  N : X.N = I.N
  sc : X.env.scope = I.sc
  fk : I.sc.kind = .function
  fn : ∀ x, I.raw.lookup x = some .cell → X.fn x = true
  xe : X.xe = fun _ _ => False
  gf : ∀ x n io, I.gl.lookup x = some (.fn n) → I.io[n]? = some io → ∃ k fd ps, Cal c X cb io n x k fd ps
  gc : ∀ x v, I.gl.lookup x = some (.cst v) → ∃ y u, X.mg x = some u ∧ RelV y u ∧ ∀ H ml G, RV c H ml G v y
  gb : ∀ x, I.gl.lookup x = some .blt → X.mg x = none
  kc : ∀ x f n ks ar ds io, (I.gl.lookup x = some (.fn f) ∨ I.gl.lookup x = some (.fk f)) → (f, n, ks, ar, ds) ∈ I.kc → I.io[f]? = some io → ∃ k fd ps, CalK c X cb io f x k fd ps n ks ar ds
  lam : I.tab = true → LamAt c X
section
variable {c : C} {X : Cx} {I : Inf} {cb : CB}
theorem At.glob (A : At c X I cb) {x : Str} (h : isGlob I x = true) : Gl X x ∧ (x == ("__debug__" : Str)) = false := by
  simp only [isGlob, Bool.and_eq_true, decide_eq_true_eq, Bool.not_eq_true'] at h
  refine ⟨?_, h.2⟩
  show X.env.scope.names.lookup x = _
  rw [A.sc]; exact h.1
theorem At.bltn (A : At c X I cb) {x : Str} (h : isBlt I x = true) : Gl X x ∧ X.mg x = none ∧ (x == ("__debug__" : Str)) = false := by
  simp only [isBlt, Bool.and_eq_true, decide_eq_true_eq] at h
  exact ⟨(A.glob h.1).1, A.gb x h.2, (A.glob h.1).2⟩
theorem At.vis (A : At c X I cb) {x : Str} (h : isVis I x = true) : Vis X.env.scope x := by
  unfold Vis
  rw [A.sc]
  unfold isVis at h
  split at h
  · exact .inl (by assumption)
  · exact .inr (.inl (by assumption))
  · exact .inr (.inr (by assumption))
  · cases h
theorem At.loc (A : At c X I cb) {x : Str} (h : isLoc I x = true) : Loc X.env.scope x ∧ (X.fn x = true ∨ X.env.scope.names.lookup x = some .local) := by
  unfold L2.Loc
  rw [A.sc]
  unfold isLoc at h
  split at h
  · rename_i e; exact ⟨.inl e, .inr e⟩
  · rename_i e; exact ⟨.inr e, .inl (A.fn x (of_decide_eq_true h))⟩
  · cases h
theorem At.slot (A : At c X I cb) {x : Str} {i : Nat} (h : I.N[i]? = some x) : X.N[i]? = some x := by rw [A.N]; exact h
theorem At.blk (A : At c X I cb) (s : Shared) (H : Hp) (scope : Scope) (C : Addr) (cl : List (Str × Addr)) (fp : List Addr) (hk : scope.kind = .function) : At c (X.blk s H scope (compEnvC scope cl C X.env) fp) (blkI I scope) cb := by
  refine ⟨⟨A.good.K, A.good.calm, A.good.un, A.good.nd⟩, A.N, ?_, hk, fun x e => ?_, rfl, fun x n io e1 e2 => ?_, A.gc, A.gb, fun x f n ks ar ds io e1 e2 e3 => ?_, fun z => by cases z⟩
  · show relabel scope X.env = relS scope I.sc
    rw [← A.sc]; rfl
  · show (scope.names.lookup x == some .cell) = true
    have e : scope.names.lookup x = some .cell := e
    rw [e]; rfl
  · obtain ⟨k, fd, ps, q⟩ := A.gf x n io e1 e2
    exact ⟨k, fd, ps, ⟨q.F, q.hr, q.hm, q.hk, q.hb⟩⟩
  · obtain ⟨k, fd, ps, q⟩ := A.kc x f n ks ar ds io e1 e2 e3
    exact ⟨k, fd, ps, ⟨q.F, q.hr, q.hm, q.hk, q.hb⟩⟩
theorem mTg_ok (A : At c X I cb) : ∀ tg : Tg, (∀ e, mTg I tg e = true → PG X e (tgR c tg)) ∧ (∀ es, mTgs I tg es = true → PGs X es (tgsR c tg))
  | .n i => by
    refine ⟨fun e h => ?_, fun es h => by simp [mTgs] at h⟩
    cases e <;> simp only [mTg, Bool.and_eq_true, decide_eq_true_eq] at h
    all_goals first | (cases h; done) | skip
    obtain ⟨h1, h2⟩ := A.loc h.2
    exact sG_n A.good (A.slot h.1) h1 h2
  | .t l => by
    refine ⟨fun e h => ?_, fun es h => by simp [mTgs] at h⟩
    cases e <;> simp only [mTg, Bool.and_eq_true, decide_eq_true_eq] at h
    all_goals first | (cases h; done) | skip
    exact sG_t A.good ((mTg_ok A l).2 _ h.1.1) h.1.2 h.2
  | .nil => by
    refine ⟨fun e h => by simp [mTg] at h, fun es h => ?_⟩
    cases es with
    | nil => exact sGs_nil
    | cons _ _ => simp [mTgs] at h
  | .cons a r => by
    refine ⟨fun e h => by simp [mTg] at h, fun es h => ?_⟩
    cases es with
    | nil => simp [mTgs] at h
    | cons e es =>
      simp only [mTgs, Bool.and_eq_true, Bool.not_eq_true'] at h
      exact sGs_cons ((mTg_ok A a).1 e h.1.1) ((mTg_ok A r).2 es h.1.2) h.2
theorem folded {e : Expr} {en : PySem.Env} (h : isSet e = false) : ∀ x, foldedSetIterable e en x = pure x := by
  intro x
  cases e <;> first | rfl | (simp [isSet] at h)
theorem kw_all {kws : List Keyword} {pos : Pos} {en : PySem.Env} : ∀ {names : List Str}, kwNames kws = some names →
    (backToKw pos (keywordEach kws en)).all (·.1.isSome) = true ∧ (backToKw pos (keywordEach kws en)).filterMap (·.1) = names ∧ (backToKw pos (keywordEach kws en)).any (·.1.isNone) = false := by
  induction kws with
  | nil => intro names h; cases h; exact ⟨rfl, rfl, rfl⟩
  | cons k r ih =>
    intro names h
    obtain ⟨nm, e, kp⟩ := k
    cases nm with
    | none => simp [kwNames] at h
    | some x =>
      simp only [kwNames] at h
      obtain ⟨n2, h2, rfl⟩ := Option.map_eq_some_iff.mp h
      obtain ⟨i1, i2, i3⟩ := ih h2
      have e1 : backToKw pos (keywordEach (⟨some x, e, kp⟩ :: r) en) = (some x, do let v ← eval e en; standAt pos; pure v) :: backToKw pos (keywordEach r en) := rfl
      rw [e1]
      exact ⟨by simp [i1], by simp [i2], by simp [i3]⟩
theorem boot_ty {t : String} (h : tyNames.contains t = true) : bootBuiltins (Str.ofString t) = some (.type t) ∧ Str.ofString t ≠ ("__name__" : Str) := by
  simp only [tyNames, List.contains_cons, List.contains_nil, Bool.or_false, Bool.or_eq_true, beq_iff_eq] at h
  rcases h with rfl | rfl | rfl | rfl | rfl | rfl <;> exact ⟨rfl, by decide⟩
theorem sF_list {a : Expr} {fa : MEnv → M Val} {p1 pos : Pos} (hX : Good c X) (hg : Gl X "list") (hm : X.mg "list" = none) (ha : PE X a (tE c WF fa)) (hs : isStar a = false) : PE X (.Call (.Name "list" p1) [a] [] pos) (tF c WF fun env => do let x ← fa env; liftH fun h => seqV h x) := by
  refine (pe_callTy call_list_of hg hm rfl (sA_one ha hs) (by decide) (by decide) (star_of _ _ _ hs) rfl).imp fun σ H Q q => ?_
  obtain ⟨env, h, ml, G, s, o⟩ := q
  refine ⟨env, h, ml, G, s, (okF_exc o).imp fun v h1 ml1 G1 H1 g1 s1 o1 x r1 => ?_⟩
  obtain ⟨l, e, o2⟩ := OkF.liftH o1
  obtain ⟨p, xs, rfl, q, rs⟩ := seq_at s1 r1 e
  rw [← hX.K] at q
  exact ⟨p, xs, rfl, q, fun p' hp => okF_laid s1 o2 rs hp⟩
theorem sC_nil : PTs X [] (tT c WF fun _ => pure true) := ⟨fun pins s σ H Q I q => pts_nil.run pins s σ H Q I (by
  obtain ⟨env, h, ml, G, s, o⟩ := q
  exact o.pure s)⟩
end
end MPS

namespace MPS
open PySem PySem.Spec L2 MP
theorem boot_of {x y : Str} (h : x = y) : x = y := h
section
variable {c : C} {T : List Val} {cb : CB}
mutual
theorem eE : ∀ (ie : IE) {X : Cx} {I : Inf} (A : At c X I cb) (e : Expr), mE I ie e = true → PE X e (tE c WF fun env => evalE T cb env ie)
  | .k v, X, I, A, e, h => by
    simp only [mE] at h
    split at h
    · rw [of_decide_eq_true h]; exact sE_non
    · rw [of_decide_eq_true h]; exact sE_bl
    · rw [of_decide_eq_true h]; exact sE_int
    · rw [of_decide_eq_true h]; exact sE_str
    · simp only [Bool.and_eq_true, Bool.or_eq_true, decide_eq_true_eq, Bool.not_eq_true'] at h
      obtain ⟨k1, k2⟩ := A.glob h.1
      obtain ⟨y, u, h1, h2, h3⟩ := A.gc _ _ h.2
      exact sE_glob k1 h1 h2 h3 k2
    · cases h
  | .d0, X, I, A, e, h => by
    simp only [mE] at h
    split at h
    · exact sE_d0
    · cases h
  | .var i, X, I, A, e, h => by
    simp only [mE] at h
    split at h
    · simp only [Bool.and_eq_true, Bool.or_eq_true, decide_eq_true_eq, Bool.not_eq_true'] at h
      exact sE_var (A.slot h.1.1.1) (A.vis h.1.1.2) h.1.2 h.2
    · cases h
  | .bin o a b, X, I, A, e, h => by
    simp only [mE] at h
    split at h
    · simp only [Bool.and_eq_true, Bool.or_eq_true, decide_eq_true_eq, Bool.not_eq_true'] at h
      rw [h.1.1]
      exact sE_bin A.good (eE a A _ h.1.2) (eE b A _ h.2)
    · cases h
  | .neg a, X, I, A, e, h => by
    simp only [mE] at h
    split at h
    · exact sE_neg (eE a A _ h)
    · cases h
  | .cmp o a b, X, I, A, e, h => by
    simp only [mE] at h
    split at h
    · simp only [Bool.and_eq_true, Bool.or_eq_true, decide_eq_true_eq, Bool.not_eq_true'] at h
      have e1 := h.1.1.1
      subst e1
      exact sE_cmp A.good (eE a A _ h.1.2) (eE b A _ h.2) h.1.1.2
    · cases h
  | .cmp2 o o2 a b d, X, I, A, e, h => by
    simp only [mE] at h
    split at h
    · simp only [Bool.and_eq_true, Bool.or_eq_true, decide_eq_true_eq, Bool.not_eq_true'] at h
      have e1 := h.1.1.1.1.1
      have e2 := h.1.1.1.1.2
      subst e1; subst e2
      exact sE_cmp2 A.good (eE a A _ h.1.1.2) (eE b A _ h.1.2) (eE d A _ h.2) h.1.1.1.2
    · cases h
  | .and a b, X, I, A, e, h => by
    simp only [mE] at h
    split at h
    · simp only [Bool.and_eq_true, Bool.or_eq_true, decide_eq_true_eq, Bool.not_eq_true'] at h
      exact sE_and (eE a A _ h.1) (pe_one (eE b A _ h.2))
    · simp only [Bool.and_eq_true, Bool.or_eq_true, decide_eq_true_eq, Bool.not_eq_true'] at h
      exact sE_and (eE a A _ h.1) (eE b A _ h.2)
    · cases h
  | .or a b, X, I, A, e, h => by
    simp only [mE] at h
    split at h
    · simp only [Bool.and_eq_true, Bool.or_eq_true, decide_eq_true_eq, Bool.not_eq_true'] at h
      exact sE_or (eE a A _ h.1) (pe_one (eE b A _ h.2))
    · simp only [Bool.and_eq_true, Bool.or_eq_true, decide_eq_true_eq, Bool.not_eq_true'] at h
      exact sE_or (eE a A _ h.1) (eE b A _ h.2)
    · cases h
  | .not a, X, I, A, e, h => by
    simp only [mE] at h
    split at h
    · exact sE_not (eE a A _ h)
    · cases h
  | .ite d a b, X, I, A, e, h => by
    simp only [mE] at h
    split at h
    · simp only [Bool.and_eq_true, Bool.or_eq_true, decide_eq_true_eq, Bool.not_eq_true'] at h
      exact sE_ite (eT d A _ h.1.1) (eE a A _ h.1.2) (eE b A _ h.2)
    · cases h
  | .tup es, X, I, A, e, h => by
    simp only [mE] at h
    split at h
    · exact sE_tup (eA es A _ h)
    · cases h
  | .idx a i, X, I, A, e, h => by
    simp only [mE] at h
    split at h
    · simp only [Bool.and_eq_true, Bool.or_eq_true, decide_eq_true_eq, Bool.not_eq_true'] at h
      exact sE_idx A.good (eE a A _ h.1.2) (eE i A _ h.2) h.1.1
    · cases h
  | .slc a lo hi, X, I, A, e, h => by
    simp only [mE] at h
    split at h
    · simp only [Bool.and_eq_true, Bool.or_eq_true, decide_eq_true_eq, Bool.not_eq_true'] at h
      exact sE_slc A.good (eE a A _ h.1.1) (eO lo A _ h.1.2) (eO hi A _ h.2)
    · cases h
  | .call f io es, X, I, A, e, h => by
    simp only [mE] at h
    split at h
    · rename_i x _ args _
      simp only [Bool.and_eq_true, Bool.or_eq_true, decide_eq_true_eq, Bool.not_eq_true'] at h
      obtain ⟨k1, k2⟩ := A.glob h.1.1.1.1
      obtain ⟨k, fd, ps, K⟩ := A.gf _ _ _ h.1.1.1.2 h.1.1.2
      cases args with
      | nil =>
        have := eA es A _ h.2
        cases es with
        | anil => exact sE_call0 K k1 k2
        | _ => simp [mA] at h
      | cons e es2 => exact sE_call K k1 (eA es A _ h.2) h.1.2 k2
    · cases h
  | .callk f io n m es ks ar ds, X, I, A, e, h => by
    simp only [mE] at h
    split at h
    · rename_i x _ args kws _
      simp only [Bool.and_eq_true, Bool.or_eq_true, decide_eq_true_eq, Bool.not_eq_true'] at h
      obtain ⟨⟨⟨⟨⟨⟨⟨h1, h2⟩, h3⟩, h4⟩, h5⟩, h6⟩, h7⟩, h8⟩ := h
      obtain ⟨k1, k2⟩ := A.glob h1
      split at h5
      · rename_i names hn
        simp only [Bool.and_eq_true, Bool.or_eq_true, decide_eq_true_eq, Bool.not_eq_true'] at h5
        obtain ⟨k, fd, ps, K⟩ := A.kc _ _ _ _ _ _ _ h2 h5.2 h3
        obtain ⟨w1, w2, w3⟩ := kw_all (pos := _) (en := X.env) hn
        cases args with
        | nil =>
          have e0 : n = 0 := by simpa using h6
          subst e0
          cases es with
          | anil => exact sE_callk0 K k1 (eK ks A _ h8) h5.1 w1 w2 k2 (by rw [w3]; rfl)
          | _ => simp [mA] at h7
        | cons e es2 => exact sE_callk K k1 (eA es A _ h7) h4 (eK ks A _ h8) h5.1 w1 w2 k2 w3
      · cases h5
    · cases h
  | .trep a b, X, I, A, e, h => by
    simp only [mE] at h
    split at h
    · simp only [Bool.and_eq_true] at h
      exact sE_trep A.good (eE a A _ h.1) (eE b A _ h.2)
    · cases h
  | .trev a, X, I, A, e, h => by
    simp only [mE] at h
    split at h
    · simp only [Bool.and_eq_true, decide_eq_true_eq] at h
      obtain ⟨rfl, h2⟩ := h
      exact sE_trev A.good (eE a A _ h2)
    · cases h
  | .mink ks a, X, I, A, e, h => by
    simp only [mE] at h
    split at h
    · simp only [Bool.and_eq_true, decide_eq_true_eq, Bool.not_eq_true'] at h
      obtain ⟨⟨⟨⟨⟨⟨⟨⟨⟨h1, h2⟩, h3⟩, h4⟩, h5⟩, h6⟩, h7⟩, h8⟩, h9⟩, h10⟩ := h
      subst h2 h4 h5
      obtain ⟨k1, k2, _⟩ := A.bltn h3
      exact sE_mink A.good (A.lam h1) h8 h9 h6 k1 k2 (eE a A _ h10) h7
    · cases h
  | .mind a, X, I, A, e, h => by
    simp only [mE] at h
    split at h
    · simp only [Bool.and_eq_true, decide_eq_true_eq, Bool.not_eq_true'] at h
      obtain ⟨⟨⟨h1, h2⟩, h3⟩, h4⟩ := h
      subst h1
      obtain ⟨k1, k2, _⟩ := A.bltn h2
      exact sE_mind A.good k1 k2 (eE a A _ h4) h3
    · cases h
  | .b1 b a, X, I, A, e, h => by
    simp only [mE] at h
    split at h
    · simp only [Bool.and_eq_true, Bool.or_eq_true, decide_eq_true_eq, Bool.not_eq_true'] at h
      have e1 := h.1.1.1
      subst e1
      obtain ⟨k1, k2, _⟩ := A.bltn h.1.1.2
      exact sE_b1 A.good k1 k2 (eE a A _ h.2) h.1.2
    · cases h
  | .b2 b a d, X, I, A, e, h => by
    simp only [mE] at h
    split at h
    · simp only [Bool.and_eq_true, Bool.or_eq_true, decide_eq_true_eq, Bool.not_eq_true'] at h
      have e1 := h.1.1.1.1.1
      subst e1
      obtain ⟨k1, k2, _⟩ := A.bltn h.1.1.1.1.2
      exact sE_b2 A.good k1 k2 (eE a A _ h.1.2) (eE d A _ h.2) h.1.1.1.2 h.1.1.2
    · cases h
  | .isi a t, X, I, A, e, h => by
    simp only [mE] at h
    split at h
    · simp only [Bool.and_eq_true, Bool.or_eq_true, decide_eq_true_eq, Bool.not_eq_true'] at h
      obtain ⟨⟨⟨⟨⟨⟨h1, h2⟩, h3⟩, h4⟩, h5⟩, h6⟩, h7⟩ := h
      subst h1; subst h3
      obtain ⟨k1, k2, _⟩ := A.bltn h2
      obtain ⟨j1, j2, j3⟩ := A.bltn h4
      obtain ⟨b1, b2⟩ := boot_ty h5
      exact sE_isi A.good k1 k2 j1 j2 b1 b2 j3 (eE a A _ h7) h6
    · cases h
  | .pop o, X, I, A, e, h => by
    simp only [mE] at h
    split at h
    · simp only [Bool.and_eq_true, Bool.or_eq_true, decide_eq_true_eq, Bool.not_eq_true'] at h
      have e1 := h.1.1.1
      subst e1
      exact sE_pop A.good (eE o A _ h.2) h.1.1.2 h.1.2
    · cases h
  | .inl f, X, I, A, e, h => by
    simp only [mE] at h
    exact sE_inl (eF f A _ h)
  | .mk f, X, I, A, e, h => by
    simp only [mE] at h
    exact sE_mk (eF f A _ h)
  | .no, X, I, A, e, h => by simp [mE] at h
  | .g _, X, I, A, e, h => by simp [mE] at h
  | .tr _, X, I, A, e, h => by simp [mE] at h
  | .part _, X, I, A, e, h => by simp [mE] at h
  | .anil, X, I, A, e, h => by simp [mE] at h
  | .acons _ _, X, I, A, e, h => by simp [mE] at h
  | .fdisp _, X, I, A, e, h => by simp [mE] at h
  | .fcomp _ _ _ _ _, X, I, A, e, h => by simp [mE] at h
  | .fcat _ _, X, I, A, e, h => by simp [mE] at h
  | .frep _ _, X, I, A, e, h => by simp [mE] at h
  | .fslc _ _ _, X, I, A, e, h => by simp [mE] at h
  | .fsort _, X, I, A, e, h => by simp [mE] at h
  | .rev _, X, I, A, e, h => by simp [mE] at h
  | .flist _, X, I, A, e, h => by simp [mE] at h
  | .rng1 _, X, I, A, e, h => by simp [mE] at h
  | .rng2 _ _, X, I, A, e, h => by simp [mE] at h
  | .rng3 _ _ _, X, I, A, e, h => by simp [mE] at h
  | .enum _, X, I, A, e, h => by simp [mE] at h
  | .zip _ _, X, I, A, e, h => by simp [mE] at h
  | .seq _, X, I, A, e, h => by simp [mE] at h
theorem eT : ∀ (ie : IE) {X : Cx} {I : Inf} (A : At c X I cb) (e : Expr), mT I ie e = true → PT X e (tT c WF fun env => evalT T cb env ie)
  | .and a b, X, I, A, e, h => by
    simp only [mT] at h
    split at h
    · simp only [Bool.and_eq_true, Bool.or_eq_true, decide_eq_true_eq, Bool.not_eq_true'] at h
      exact (sW_and (eT a A _ h.1) (pw_and1 (eT b A _ h.2))).pt
    · simp only [Bool.and_eq_true, Bool.or_eq_true, decide_eq_true_eq, Bool.not_eq_true'] at h
      exact (sW_and (eT a A _ h.1) (eW b A _ h.2)).pt
    · cases h
  | .or a b, X, I, A, e, h => by
    simp only [mT] at h
    split at h
    · simp only [Bool.and_eq_true, Bool.or_eq_true, decide_eq_true_eq, Bool.not_eq_true'] at h
      exact (sW_or (eT a A _ h.1) (pw_or1 (eT b A _ h.2))).pt
    · simp only [Bool.and_eq_true, Bool.or_eq_true, decide_eq_true_eq, Bool.not_eq_true'] at h
      exact (sW_or (eT a A _ h.1) (eW b A _ h.2)).pt
    · cases h
  | .not a, X, I, A, e, h => by
    simp only [mT] at h
    split at h
    · exact sT_not (eT a A _ h)
    · cases h
  | .cmp o a b, X, I, A, e, h => by
    simp only [mT] at h
    split at h
    · simp only [Bool.and_eq_true, Bool.or_eq_true, decide_eq_true_eq, Bool.not_eq_true'] at h
      have e1 := h.1.1.1
      subst e1
      exact sT_cmp A.good (eE a A _ h.1.2) (eE b A _ h.2) h.1.1.2
    · cases h
  | .cmp2 o o2 a b d, X, I, A, e, h => by
    simp only [mT] at h
    split at h
    · simp only [Bool.and_eq_true, Bool.or_eq_true, decide_eq_true_eq, Bool.not_eq_true'] at h
      have e1 := h.1.1.1.1.1
      have e2 := h.1.1.1.1.2
      subst e1; subst e2
      exact sT_cmp2 A.good (eE a A _ h.1.1.2) (eE b A _ h.1.2) (eE d A _ h.2) h.1.1.1.2
    · cases h
  | .tr a, X, I, A, e, h => by
    simp only [mT] at h
    simp only [Bool.and_eq_true, Bool.or_eq_true, decide_eq_true_eq, Bool.not_eq_true'] at h
    exact sT_tr A.good (eE a A _ h.2) h.1
  | .no, X, I, A, e, h => by simp [mT] at h
  | .d0, X, I, A, e, h => by simp [mT] at h
  | .k _, X, I, A, e, h => by simp [mT] at h
  | .var _, X, I, A, e, h => by simp [mT] at h
  | .g _, X, I, A, e, h => by simp [mT] at h
  | .bin _ _ _, X, I, A, e, h => by simp [mT] at h
  | .neg _, X, I, A, e, h => by simp [mT] at h
  | .ite _ _ _, X, I, A, e, h => by simp [mT] at h
  | .part _, X, I, A, e, h => by simp [mT] at h
  | .tup _, X, I, A, e, h => by simp [mT] at h
  | .anil, X, I, A, e, h => by simp [mT] at h
  | .acons _ _, X, I, A, e, h => by simp [mT] at h
  | .idx _ _, X, I, A, e, h => by simp [mT] at h
  | .slc _ _ _, X, I, A, e, h => by simp [mT] at h
  | .call _ _ _, X, I, A, e, h => by simp [mT] at h
  | .callk _ _ _ _ _ _ _ _, X, I, A, e, h => by simp [mT] at h
  | .b1 _ _, X, I, A, e, h => by simp [mT] at h
  | .b2 _ _ _, X, I, A, e, h => by simp [mT] at h
  | .isi _ _, X, I, A, e, h => by simp [mT] at h
  | .pop _, X, I, A, e, h => by simp [mT] at h
  | .inl _, X, I, A, e, h => by simp [mT] at h
  | .mk _, X, I, A, e, h => by simp [mT] at h
  | .fdisp _, X, I, A, e, h => by simp [mT] at h
  | .fcomp _ _ _ _ _, X, I, A, e, h => by simp [mT] at h
  | .fcat _ _, X, I, A, e, h => by simp [mT] at h
  | .frep _ _, X, I, A, e, h => by simp [mT] at h
  | .fslc _ _ _, X, I, A, e, h => by simp [mT] at h
  | .fsort _, X, I, A, e, h => by simp [mT] at h
  | .trep _ _, X, I, A, e, h => by simp [mT] at h
  | .trev _, X, I, A, e, h => by simp [mT] at h
  | .mink _ _, X, I, A, e, h => by simp [mT] at h
  | .mind _, X, I, A, e, h => by simp [mT] at h
  | .rev _, X, I, A, e, h => by simp [mT] at h
  | .flist _, X, I, A, e, h => by simp [mT] at h
  | .rng1 _, X, I, A, e, h => by simp [mT] at h
  | .rng2 _ _, X, I, A, e, h => by simp [mT] at h
  | .rng3 _ _ _, X, I, A, e, h => by simp [mT] at h
  | .enum _, X, I, A, e, h => by simp [mT] at h
  | .zip _ _, X, I, A, e, h => by simp [mT] at h
  | .seq _, X, I, A, e, h => by simp [mT] at h
theorem eW : ∀ (ie : IE) {X : Cx} {I : Inf} (A : At c X I cb) (e : Expr), mW I ie e = true → PW X e (tT c WF fun env => evalT T cb env ie)
  | .and a b, X, I, A, e, h => by
    simp only [mW] at h
    split at h
    · simp only [Bool.and_eq_true, Bool.or_eq_true, decide_eq_true_eq, Bool.not_eq_true'] at h
      exact sW_and (eT a A _ h.1) (pw_and1 (eT b A _ h.2))
    · simp only [Bool.and_eq_true, Bool.or_eq_true, decide_eq_true_eq, Bool.not_eq_true'] at h
      exact sW_and (eT a A _ h.1) (eW b A _ h.2)
    · cases h
  | .or a b, X, I, A, e, h => by
    simp only [mW] at h
    split at h
    · simp only [Bool.and_eq_true, Bool.or_eq_true, decide_eq_true_eq, Bool.not_eq_true'] at h
      exact sW_or (eT a A _ h.1) (pw_or1 (eT b A _ h.2))
    · simp only [Bool.and_eq_true, Bool.or_eq_true, decide_eq_true_eq, Bool.not_eq_true'] at h
      exact sW_or (eT a A _ h.1) (eW b A _ h.2)
    · cases h
  | .no, X, I, A, e, h => by simp [mW] at h
  | .d0, X, I, A, e, h => by simp [mW] at h
  | .k _, X, I, A, e, h => by simp [mW] at h
  | .var _, X, I, A, e, h => by simp [mW] at h
  | .g _, X, I, A, e, h => by simp [mW] at h
  | .bin _ _ _, X, I, A, e, h => by simp [mW] at h
  | .neg _, X, I, A, e, h => by simp [mW] at h
  | .cmp _ _ _, X, I, A, e, h => by simp [mW] at h
  | .cmp2 _ _ _ _ _, X, I, A, e, h => by simp [mW] at h
  | .not _, X, I, A, e, h => by simp [mW] at h
  | .ite _ _ _, X, I, A, e, h => by simp [mW] at h
  | .tr _, X, I, A, e, h => by simp [mW] at h
  | .part _, X, I, A, e, h => by simp [mW] at h
  | .tup _, X, I, A, e, h => by simp [mW] at h
  | .anil, X, I, A, e, h => by simp [mW] at h
  | .acons _ _, X, I, A, e, h => by simp [mW] at h
  | .idx _ _, X, I, A, e, h => by simp [mW] at h
  | .slc _ _ _, X, I, A, e, h => by simp [mW] at h
  | .call _ _ _, X, I, A, e, h => by simp [mW] at h
  | .callk _ _ _ _ _ _ _ _, X, I, A, e, h => by simp [mW] at h
  | .b1 _ _, X, I, A, e, h => by simp [mW] at h
  | .b2 _ _ _, X, I, A, e, h => by simp [mW] at h
  | .isi _ _, X, I, A, e, h => by simp [mW] at h
  | .pop _, X, I, A, e, h => by simp [mW] at h
  | .inl _, X, I, A, e, h => by simp [mW] at h
  | .mk _, X, I, A, e, h => by simp [mW] at h
  | .fdisp _, X, I, A, e, h => by simp [mW] at h
  | .fcomp _ _ _ _ _, X, I, A, e, h => by simp [mW] at h
  | .fcat _ _, X, I, A, e, h => by simp [mW] at h
  | .frep _ _, X, I, A, e, h => by simp [mW] at h
  | .fslc _ _ _, X, I, A, e, h => by simp [mW] at h
  | .fsort _, X, I, A, e, h => by simp [mW] at h
  | .trep _ _, X, I, A, e, h => by simp [mW] at h
  | .trev _, X, I, A, e, h => by simp [mW] at h
  | .mink _ _, X, I, A, e, h => by simp [mW] at h
  | .mind _, X, I, A, e, h => by simp [mW] at h
  | .rev _, X, I, A, e, h => by simp [mW] at h
  | .flist _, X, I, A, e, h => by simp [mW] at h
  | .rng1 _, X, I, A, e, h => by simp [mW] at h
  | .rng2 _ _, X, I, A, e, h => by simp [mW] at h
  | .rng3 _ _ _, X, I, A, e, h => by simp [mW] at h
  | .enum _, X, I, A, e, h => by simp [mW] at h
  | .zip _ _, X, I, A, e, h => by simp [mW] at h
  | .seq _, X, I, A, e, h => by simp [mW] at h
theorem eA : ∀ (ie : IE) {X : Cx} {I : Inf} (A : At c X I cb) (es : List Expr), mA I ie es = true → PA X es (tA c WF fun env => evalA T cb env ie)
  | .anil, X, I, A, es, h => by
    cases es with
    | nil => exact sA_nil
    | cons _ _ => simp [mA] at h
  | .acons a r, X, I, A, es, h => by
    cases es with
    | nil => simp [mA] at h
    | cons e es =>
      simp only [mA] at h
      simp only [Bool.and_eq_true, Bool.or_eq_true, decide_eq_true_eq, Bool.not_eq_true'] at h
      exact sA_cons (eE a A _ h.1.1) (eA r A _ h.1.2) h.2
  | .no, X, I, A, e, h => by simp [mA] at h
  | .d0, X, I, A, e, h => by simp [mA] at h
  | .k _, X, I, A, e, h => by simp [mA] at h
  | .var _, X, I, A, e, h => by simp [mA] at h
  | .g _, X, I, A, e, h => by simp [mA] at h
  | .bin _ _ _, X, I, A, e, h => by simp [mA] at h
  | .neg _, X, I, A, e, h => by simp [mA] at h
  | .cmp _ _ _, X, I, A, e, h => by simp [mA] at h
  | .cmp2 _ _ _ _ _, X, I, A, e, h => by simp [mA] at h
  | .and _ _, X, I, A, e, h => by simp [mA] at h
  | .or _ _, X, I, A, e, h => by simp [mA] at h
  | .not _, X, I, A, e, h => by simp [mA] at h
  | .ite _ _ _, X, I, A, e, h => by simp [mA] at h
  | .tr _, X, I, A, e, h => by simp [mA] at h
  | .part _, X, I, A, e, h => by simp [mA] at h
  | .tup _, X, I, A, e, h => by simp [mA] at h
  | .idx _ _, X, I, A, e, h => by simp [mA] at h
  | .slc _ _ _, X, I, A, e, h => by simp [mA] at h
  | .call _ _ _, X, I, A, e, h => by simp [mA] at h
  | .callk _ _ _ _ _ _ _ _, X, I, A, e, h => by simp [mA] at h
  | .b1 _ _, X, I, A, e, h => by simp [mA] at h
  | .b2 _ _ _, X, I, A, e, h => by simp [mA] at h
  | .isi _ _, X, I, A, e, h => by simp [mA] at h
  | .pop _, X, I, A, e, h => by simp [mA] at h
  | .inl _, X, I, A, e, h => by simp [mA] at h
  | .mk _, X, I, A, e, h => by simp [mA] at h
  | .fdisp _, X, I, A, e, h => by simp [mA] at h
  | .fcomp _ _ _ _ _, X, I, A, e, h => by simp [mA] at h
  | .fcat _ _, X, I, A, e, h => by simp [mA] at h
  | .frep _ _, X, I, A, e, h => by simp [mA] at h
  | .fslc _ _ _, X, I, A, e, h => by simp [mA] at h
  | .fsort _, X, I, A, e, h => by simp [mA] at h
  | .trep _ _, X, I, A, e, h => by simp [mA] at h
  | .trev _, X, I, A, e, h => by simp [mA] at h
  | .mink _ _, X, I, A, e, h => by simp [mA] at h
  | .mind _, X, I, A, e, h => by simp [mA] at h
  | .rev _, X, I, A, e, h => by simp [mA] at h
  | .flist _, X, I, A, e, h => by simp [mA] at h
  | .rng1 _, X, I, A, e, h => by simp [mA] at h
  | .rng2 _ _, X, I, A, e, h => by simp [mA] at h
  | .rng3 _ _ _, X, I, A, e, h => by simp [mA] at h
  | .enum _, X, I, A, e, h => by simp [mA] at h
  | .zip _ _, X, I, A, e, h => by simp [mA] at h
  | .seq _, X, I, A, e, h => by simp [mA] at h
theorem eK : ∀ (ie : IE) {X : Cx} {I : Inf} (A : At c X I cb) (es : List Keyword), mK I ie es = true → PK X es (tA c WF fun env => evalA T cb env ie)
  | .anil, X, I, A, es, h => by
    cases es with
    | nil => exact sK_nil
    | cons _ _ => simp [mK] at h
  | .acons a r, X, I, A, es, h => by
    cases es with
    | nil => simp [mK] at h
    | cons e es =>
      obtain ⟨nm, e, kp⟩ := e
      simp only [mK] at h
      simp only [Bool.and_eq_true, Bool.or_eq_true, decide_eq_true_eq, Bool.not_eq_true'] at h
      exact sK_cons (eE a A _ h.1) (eK r A _ h.2)
  | .no, X, I, A, e, h => by simp [mK] at h
  | .d0, X, I, A, e, h => by simp [mK] at h
  | .k _, X, I, A, e, h => by simp [mK] at h
  | .var _, X, I, A, e, h => by simp [mK] at h
  | .g _, X, I, A, e, h => by simp [mK] at h
  | .bin _ _ _, X, I, A, e, h => by simp [mK] at h
  | .neg _, X, I, A, e, h => by simp [mK] at h
  | .cmp _ _ _, X, I, A, e, h => by simp [mK] at h
  | .cmp2 _ _ _ _ _, X, I, A, e, h => by simp [mK] at h
  | .and _ _, X, I, A, e, h => by simp [mK] at h
  | .or _ _, X, I, A, e, h => by simp [mK] at h
  | .not _, X, I, A, e, h => by simp [mK] at h
  | .ite _ _ _, X, I, A, e, h => by simp [mK] at h
  | .tr _, X, I, A, e, h => by simp [mK] at h
  | .part _, X, I, A, e, h => by simp [mK] at h
  | .tup _, X, I, A, e, h => by simp [mK] at h
  | .idx _ _, X, I, A, e, h => by simp [mK] at h
  | .slc _ _ _, X, I, A, e, h => by simp [mK] at h
  | .call _ _ _, X, I, A, e, h => by simp [mK] at h
  | .callk _ _ _ _ _ _ _ _, X, I, A, e, h => by simp [mK] at h
  | .b1 _ _, X, I, A, e, h => by simp [mK] at h
  | .b2 _ _ _, X, I, A, e, h => by simp [mK] at h
  | .isi _ _, X, I, A, e, h => by simp [mK] at h
  | .pop _, X, I, A, e, h => by simp [mK] at h
  | .inl _, X, I, A, e, h => by simp [mK] at h
  | .mk _, X, I, A, e, h => by simp [mK] at h
  | .fdisp _, X, I, A, e, h => by simp [mK] at h
  | .fcomp _ _ _ _ _, X, I, A, e, h => by simp [mK] at h
  | .fcat _ _, X, I, A, e, h => by simp [mK] at h
  | .frep _ _, X, I, A, e, h => by simp [mK] at h
  | .fslc _ _ _, X, I, A, e, h => by simp [mK] at h
  | .fsort _, X, I, A, e, h => by simp [mK] at h
  | .trep _ _, X, I, A, e, h => by simp [mK] at h
  | .trev _, X, I, A, e, h => by simp [mK] at h
  | .mink _ _, X, I, A, e, h => by simp [mK] at h
  | .mind _, X, I, A, e, h => by simp [mK] at h
  | .rev _, X, I, A, e, h => by simp [mK] at h
  | .flist _, X, I, A, e, h => by simp [mK] at h
  | .rng1 _, X, I, A, e, h => by simp [mK] at h
  | .rng2 _ _, X, I, A, e, h => by simp [mK] at h
  | .rng3 _ _ _, X, I, A, e, h => by simp [mK] at h
  | .enum _, X, I, A, e, h => by simp [mK] at h
  | .zip _ _, X, I, A, e, h => by simp [mK] at h
  | .seq _, X, I, A, e, h => by simp [mK] at h
theorem eO : ∀ (ie : IE) {X : Cx} {I : Inf} (A : At c X I cb) (o : Option Expr), mO I ie o = true → PO X o (tO c WF fun env => evalO T cb env ie)
  | .no, X, I, A, o, h => by
    cases o with
    | none => exact sO_none
    | some _ => simp [mO] at h
  | .part a, X, I, A, o, h => by
    cases o with
    | none => simp [mO] at h
    | some e =>
      simp only [mO] at h
      exact sO_some (eE a A _ h)
  | .d0, X, I, A, e, h => by simp [mO] at h
  | .k _, X, I, A, e, h => by simp [mO] at h
  | .var _, X, I, A, e, h => by simp [mO] at h
  | .g _, X, I, A, e, h => by simp [mO] at h
  | .bin _ _ _, X, I, A, e, h => by simp [mO] at h
  | .neg _, X, I, A, e, h => by simp [mO] at h
  | .cmp _ _ _, X, I, A, e, h => by simp [mO] at h
  | .cmp2 _ _ _ _ _, X, I, A, e, h => by simp [mO] at h
  | .and _ _, X, I, A, e, h => by simp [mO] at h
  | .or _ _, X, I, A, e, h => by simp [mO] at h
  | .not _, X, I, A, e, h => by simp [mO] at h
  | .ite _ _ _, X, I, A, e, h => by simp [mO] at h
  | .tr _, X, I, A, e, h => by simp [mO] at h
  | .tup _, X, I, A, e, h => by simp [mO] at h
  | .anil, X, I, A, e, h => by simp [mO] at h
  | .acons _ _, X, I, A, e, h => by simp [mO] at h
  | .idx _ _, X, I, A, e, h => by simp [mO] at h
  | .slc _ _ _, X, I, A, e, h => by simp [mO] at h
  | .call _ _ _, X, I, A, e, h => by simp [mO] at h
  | .callk _ _ _ _ _ _ _ _, X, I, A, e, h => by simp [mO] at h
  | .b1 _ _, X, I, A, e, h => by simp [mO] at h
  | .b2 _ _ _, X, I, A, e, h => by simp [mO] at h
  | .isi _ _, X, I, A, e, h => by simp [mO] at h
  | .pop _, X, I, A, e, h => by simp [mO] at h
  | .inl _, X, I, A, e, h => by simp [mO] at h
  | .mk _, X, I, A, e, h => by simp [mO] at h
  | .fdisp _, X, I, A, e, h => by simp [mO] at h
  | .fcomp _ _ _ _ _, X, I, A, e, h => by simp [mO] at h
  | .fcat _ _, X, I, A, e, h => by simp [mO] at h
  | .frep _ _, X, I, A, e, h => by simp [mO] at h
  | .fslc _ _ _, X, I, A, e, h => by simp [mO] at h
  | .fsort _, X, I, A, e, h => by simp [mO] at h
  | .trep _ _, X, I, A, e, h => by simp [mO] at h
  | .trev _, X, I, A, e, h => by simp [mO] at h
  | .mink _ _, X, I, A, e, h => by simp [mO] at h
  | .mind _, X, I, A, e, h => by simp [mO] at h
  | .rev _, X, I, A, e, h => by simp [mO] at h
  | .flist _, X, I, A, e, h => by simp [mO] at h
  | .rng1 _, X, I, A, e, h => by simp [mO] at h
  | .rng2 _ _, X, I, A, e, h => by simp [mO] at h
  | .rng3 _ _ _, X, I, A, e, h => by simp [mO] at h
  | .enum _, X, I, A, e, h => by simp [mO] at h
  | .zip _ _, X, I, A, e, h => by simp [mO] at h
  | .seq _, X, I, A, e, h => by simp [mO] at h
theorem eF : ∀ (ie : IE) {X : Cx} {I : Inf} (A : At c X I cb) (e : Expr), mF I ie e = true → PE X e (tF c WF fun env => evalF T cb env ie)
  | .fdisp es, X, I, A, e, h => by
    simp only [mF] at h
    split at h
    · exact sF_disp (eA es A _ h)
    · cases h
  | .fcat a b, X, I, A, e, h => by
    simp only [mF] at h
    split at h
    · simp only [Bool.and_eq_true, Bool.or_eq_true, decide_eq_true_eq, Bool.not_eq_true'] at h
      exact sF_cat (eE a A _ h.1) (eE b A _ h.2)
    · cases h
  | .frep a b, X, I, A, e, h => by
    simp only [mF] at h
    split at h
    · simp only [Bool.and_eq_true, Bool.or_eq_true, decide_eq_true_eq, Bool.not_eq_true'] at h
      exact sF_rep (eE a A _ h.1) (eE b A _ h.2)
    · cases h
  | .fslc a lo hi, X, I, A, e, h => by
    simp only [mF] at h
    split at h
    · simp only [Bool.and_eq_true, Bool.or_eq_true, decide_eq_true_eq, Bool.not_eq_true'] at h
      exact sF_slc A.good (eE a A _ h.1.1) (eO lo A _ h.1.2) (eO hi A _ h.2)
    · cases h
  | .fsort a, X, I, A, e, h => by
    simp only [mF] at h
    split at h
    · simp only [Bool.and_eq_true, Bool.or_eq_true, decide_eq_true_eq, Bool.not_eq_true'] at h
      have e1 := h.1.1.1
      subst e1
      obtain ⟨k1, k2, _⟩ := A.bltn h.1.1.2
      exact sF_sort A.good k1 k2 (eE a A _ h.2) h.1.2
    · cases h
  | .trep _ _, X, I, A, e, h => by simp [mF] at h
  | .trev _, X, I, A, e, h => by simp [mF] at h
  | .mink _ _, X, I, A, e, h => by simp [mF] at h
  | .mind _, X, I, A, e, h => by simp [mF] at h
  | .rev _, X, I, A, e, h => by simp [mF] at h
  | .flist a, X, I, A, e, h => by
    simp only [mF] at h
    split at h
    · simp only [Bool.and_eq_true, Bool.or_eq_true, decide_eq_true_eq, Bool.not_eq_true'] at h
      have e1 := h.1.1.1
      subst e1
      obtain ⟨k1, k2, _⟩ := A.bltn h.1.1.2
      exact sF_list A.good k1 k2 (eE a A _ h.2) h.1.2
    · cases h
  | .call f io es, X, I, A, e, h => by
    simp only [mF] at h
    split at h
    · rename_i x _ args _
      simp only [Bool.and_eq_true, Bool.or_eq_true, decide_eq_true_eq, Bool.not_eq_true'] at h
      obtain ⟨k1, k2⟩ := A.glob h.1.1.1.1
      obtain ⟨k, fd, ps, K⟩ := A.gf _ _ _ h.1.1.1.2 h.1.1.2
      cases args with
      | nil =>
        have := h.2
        cases es with
        | anil => exact sF_call0 K k1 k2
        | _ => simp [mA] at this
      | cons e es2 => exact sF_call K k1 (eA es A _ h.2) h.1.2 k2
    · cases h
  | .fcomp own tg it cs x, X, I, A, e, h => by
    simp only [mF] at h
    split at h
    · rename_i elt t iter ifs scope _
      simp only [Bool.and_eq_true, Bool.or_eq_true, decide_eq_true_eq, Bool.not_eq_true'] at h
      obtain ⟨⟨⟨⟨⟨⟨h1, h2⟩, h3⟩, h4⟩, h5⟩, h6⟩, h7⟩ := h
      have ok := blkOk_by h1
      have hk := ok.kind
      have eo : (ownP I own).map (·.2) = own := by simp [ownP, Function.comp_def]
      have ht : ∀ i ∈ tgs tg, i ∈ own := fun i hi => by simpa using List.all_eq_true.mp h2 i hi
      refine (pe_lc A.good.calm A.good.nd (eI it A t _ h5) (by rw [A.N, A.sc]; exact ok) (fun s H C cl fp => (mTg_ok (A.blk s H scope C cl fp hk) tg).1 _ h4)
        (fun s H C cl fp => eC cs (A.blk s H scope C cl fp hk) _ h6) (fun s H C cl fp => eE x (A.blk s H scope C cl fp hk) _ h7) (folded h3)).imp fun σ H Q q => ?_
      rw [eo]
      exact lc_imp ht q
    · cases h
  | .no, X, I, A, e, h => by simp [mF] at h
  | .d0, X, I, A, e, h => by simp [mF] at h
  | .k _, X, I, A, e, h => by simp [mF] at h
  | .var _, X, I, A, e, h => by simp [mF] at h
  | .g _, X, I, A, e, h => by simp [mF] at h
  | .bin _ _ _, X, I, A, e, h => by simp [mF] at h
  | .neg _, X, I, A, e, h => by simp [mF] at h
  | .cmp _ _ _, X, I, A, e, h => by simp [mF] at h
  | .cmp2 _ _ _ _ _, X, I, A, e, h => by simp [mF] at h
  | .and _ _, X, I, A, e, h => by simp [mF] at h
  | .or _ _, X, I, A, e, h => by simp [mF] at h
  | .not _, X, I, A, e, h => by simp [mF] at h
  | .ite _ _ _, X, I, A, e, h => by simp [mF] at h
  | .tr _, X, I, A, e, h => by simp [mF] at h
  | .part _, X, I, A, e, h => by simp [mF] at h
  | .tup _, X, I, A, e, h => by simp [mF] at h
  | .anil, X, I, A, e, h => by simp [mF] at h
  | .acons _ _, X, I, A, e, h => by simp [mF] at h
  | .idx _ _, X, I, A, e, h => by simp [mF] at h
  | .slc _ _ _, X, I, A, e, h => by simp [mF] at h
  | .callk _ _ _ _ _ _ _ _, X, I, A, e, h => by simp [mF] at h
  | .b1 _ _, X, I, A, e, h => by simp [mF] at h
  | .b2 _ _ _, X, I, A, e, h => by simp [mF] at h
  | .isi _ _, X, I, A, e, h => by simp [mF] at h
  | .pop _, X, I, A, e, h => by simp [mF] at h
  | .inl _, X, I, A, e, h => by simp [mF] at h
  | .mk _, X, I, A, e, h => by simp [mF] at h
  | .rng1 _, X, I, A, e, h => by simp [mF] at h
  | .rng2 _ _, X, I, A, e, h => by simp [mF] at h
  | .rng3 _ _ _, X, I, A, e, h => by simp [mF] at h
  | .enum _, X, I, A, e, h => by simp [mF] at h
  | .zip _ _, X, I, A, e, h => by simp [mF] at h
  | .seq _, X, I, A, e, h => by simp [mF] at h
theorem eC : ∀ (ie : IE) {X : Cx} {I : Inf} (A : At c X I cb) (es : List Expr), mC I ie es = true → PTs X es (tT c WF fun env => evalC T cb env ie)
  | .anil, X, I, A, es, h => by
    cases es with
    | nil => exact sC_nil
    | cons _ _ => simp [mC] at h
  | .acons a r, X, I, A, es, h => by
    match es, h with
    | [e], h => exact pts_one (eT a A _ (by simpa only [mC] using h))
    | [], h => simp [mC] at h
    | _ :: _ :: _, h => simp [mC] at h
  | .no, X, I, A, e, h => by simp [mC] at h
  | .d0, X, I, A, e, h => by simp [mC] at h
  | .k _, X, I, A, e, h => by simp [mC] at h
  | .var _, X, I, A, e, h => by simp [mC] at h
  | .g _, X, I, A, e, h => by simp [mC] at h
  | .bin _ _ _, X, I, A, e, h => by simp [mC] at h
  | .neg _, X, I, A, e, h => by simp [mC] at h
  | .cmp _ _ _, X, I, A, e, h => by simp [mC] at h
  | .cmp2 _ _ _ _ _, X, I, A, e, h => by simp [mC] at h
  | .and _ _, X, I, A, e, h => by simp [mC] at h
  | .or _ _, X, I, A, e, h => by simp [mC] at h
  | .not _, X, I, A, e, h => by simp [mC] at h
  | .ite _ _ _, X, I, A, e, h => by simp [mC] at h
  | .tr _, X, I, A, e, h => by simp [mC] at h
  | .part _, X, I, A, e, h => by simp [mC] at h
  | .tup _, X, I, A, e, h => by simp [mC] at h
  | .idx _ _, X, I, A, e, h => by simp [mC] at h
  | .slc _ _ _, X, I, A, e, h => by simp [mC] at h
  | .call _ _ _, X, I, A, e, h => by simp [mC] at h
  | .callk _ _ _ _ _ _ _ _, X, I, A, e, h => by simp [mC] at h
  | .b1 _ _, X, I, A, e, h => by simp [mC] at h
  | .b2 _ _ _, X, I, A, e, h => by simp [mC] at h
  | .isi _ _, X, I, A, e, h => by simp [mC] at h
  | .pop _, X, I, A, e, h => by simp [mC] at h
  | .inl _, X, I, A, e, h => by simp [mC] at h
  | .mk _, X, I, A, e, h => by simp [mC] at h
  | .fdisp _, X, I, A, e, h => by simp [mC] at h
  | .fcomp _ _ _ _ _, X, I, A, e, h => by simp [mC] at h
  | .fcat _ _, X, I, A, e, h => by simp [mC] at h
  | .frep _ _, X, I, A, e, h => by simp [mC] at h
  | .fslc _ _ _, X, I, A, e, h => by simp [mC] at h
  | .fsort _, X, I, A, e, h => by simp [mC] at h
  | .trep _ _, X, I, A, e, h => by simp [mC] at h
  | .trev _, X, I, A, e, h => by simp [mC] at h
  | .mink _ _, X, I, A, e, h => by simp [mC] at h
  | .mind _, X, I, A, e, h => by simp [mC] at h
  | .rev _, X, I, A, e, h => by simp [mC] at h
  | .flist _, X, I, A, e, h => by simp [mC] at h
  | .rng1 _, X, I, A, e, h => by simp [mC] at h
  | .rng2 _ _, X, I, A, e, h => by simp [mC] at h
  | .rng3 _ _ _, X, I, A, e, h => by simp [mC] at h
  | .enum _, X, I, A, e, h => by simp [mC] at h
  | .zip _ _, X, I, A, e, h => by simp [mC] at h
  | .seq _, X, I, A, e, h => by simp [mC] at h
theorem eI : ∀ (ie : IE) {X : Cx} {I : Inf} (A : At c X I cb) (t e : Expr), mI I ie t e = true → PI X t e (tI c WF fun env => evalI T cb env ie)
  | .rng1 a, X, I, A, t, e, h => by
    simp only [mI] at h
    split at h
    · simp only [Bool.and_eq_true, Bool.or_eq_true, decide_eq_true_eq, Bool.not_eq_true'] at h
      have e1 := h.1.1.1
      subst e1
      obtain ⟨k1, k2, _⟩ := A.bltn h.1.1.2
      exact sI_rng1 k1 k2 (eE a A _ h.2) h.1.2
    · cases h
  | .rng2 a b, X, I, A, t, e, h => by
    simp only [mI] at h
    split at h
    · simp only [Bool.and_eq_true, Bool.or_eq_true, decide_eq_true_eq, Bool.not_eq_true'] at h
      have e1 := h.1.1.1.1.1
      subst e1
      obtain ⟨k1, k2, _⟩ := A.bltn h.1.1.1.1.2
      exact sI_rng2 k1 k2 (eE a A _ h.1.2) (eE b A _ h.2) h.1.1.1.2 h.1.1.2
    · cases h
  | .rng3 a b d, X, I, A, t, e, h => by
    simp only [mI] at h
    split at h
    · simp only [Bool.and_eq_true, Bool.or_eq_true, decide_eq_true_eq, Bool.not_eq_true'] at h
      obtain ⟨⟨⟨⟨⟨⟨⟨h1, h2⟩, h3⟩, h4⟩, h5⟩, h6⟩, h7⟩, h8⟩ := h
      subst h1
      obtain ⟨k1, k2, _⟩ := A.bltn h2
      exact sI_rng3 k1 k2 (eE a A _ h6) (eE b A _ h7) (eE d A _ h8) h3 h4 h5
    · cases h
  | .enum a, X, I, A, t, e, h => by
    simp only [mI] at h
    split at h
    · simp only [Bool.and_eq_true, Bool.or_eq_true, decide_eq_true_eq, Bool.not_eq_true'] at h
      obtain ⟨⟨⟨⟨h1, h2⟩, h3⟩, h4⟩, h5⟩ := h
      subst h1
      obtain ⟨k1, k2, _⟩ := A.bltn h2
      cases t with
      | Tuple _ _ _ => exact sI_enA A.good k1 k2 (eE a A _ h5) h4
      | _ => simp [isTup] at h3
    · cases h
  | .zip a b, X, I, A, t, e, h => by
    simp only [mI] at h
    split at h
    · simp only [Bool.and_eq_true, Bool.or_eq_true, decide_eq_true_eq, Bool.not_eq_true'] at h
      obtain ⟨⟨⟨⟨⟨⟨h1, h2⟩, h3⟩, h4⟩, h5⟩, h6⟩, h7⟩ := h
      subst h1
      obtain ⟨k1, k2, _⟩ := A.bltn h2
      cases t with
      | Tuple _ _ _ => exact sI_zip A.good k1 k2 (eE a A _ h6) (eE b A _ h7) h4 h5
      | _ => simp [isTup] at h3
    · cases h
  | .rev a, X, I, A, t, e, h => by
    simp only [mI] at h
    split at h
    · simp only [Bool.and_eq_true, Bool.or_eq_true, decide_eq_true_eq, Bool.not_eq_true'] at h
      have e1 := h.1.1.1
      subst e1
      obtain ⟨k1, k2, _⟩ := A.bltn h.1.1.2
      exact sI_rev A.good k1 k2 (eE a A _ h.2) h.1.2
    · cases h
  | .seq a, X, I, A, t, e, h => by
    simp only [mI] at h
    exact sI_seq A.good (eE a A _ h)
  | .no, X, I, A, t, e, h => by simp [mI] at h
  | .d0, X, I, A, t, e, h => by simp [mI] at h
  | .k _, X, I, A, t, e, h => by simp [mI] at h
  | .var _, X, I, A, t, e, h => by simp [mI] at h
  | .g _, X, I, A, t, e, h => by simp [mI] at h
  | .bin _ _ _, X, I, A, t, e, h => by simp [mI] at h
  | .neg _, X, I, A, t, e, h => by simp [mI] at h
  | .cmp _ _ _, X, I, A, t, e, h => by simp [mI] at h
  | .cmp2 _ _ _ _ _, X, I, A, t, e, h => by simp [mI] at h
  | .and _ _, X, I, A, t, e, h => by simp [mI] at h
  | .or _ _, X, I, A, t, e, h => by simp [mI] at h
  | .not _, X, I, A, t, e, h => by simp [mI] at h
  | .ite _ _ _, X, I, A, t, e, h => by simp [mI] at h
  | .tr _, X, I, A, t, e, h => by simp [mI] at h
  | .part _, X, I, A, t, e, h => by simp [mI] at h
  | .tup _, X, I, A, t, e, h => by simp [mI] at h
  | .anil, X, I, A, t, e, h => by simp [mI] at h
  | .acons _ _, X, I, A, t, e, h => by simp [mI] at h
  | .idx _ _, X, I, A, t, e, h => by simp [mI] at h
  | .slc _ _ _, X, I, A, t, e, h => by simp [mI] at h
  | .call _ _ _, X, I, A, t, e, h => by simp [mI] at h
  | .callk _ _ _ _ _ _ _ _, X, I, A, t, e, h => by simp [mI] at h
  | .b1 _ _, X, I, A, t, e, h => by simp [mI] at h
  | .b2 _ _ _, X, I, A, t, e, h => by simp [mI] at h
  | .isi _ _, X, I, A, t, e, h => by simp [mI] at h
  | .pop _, X, I, A, t, e, h => by simp [mI] at h
  | .inl _, X, I, A, t, e, h => by simp [mI] at h
  | .mk _, X, I, A, t, e, h => by simp [mI] at h
  | .fdisp _, X, I, A, t, e, h => by simp [mI] at h
  | .fcomp _ _ _ _ _, X, I, A, t, e, h => by simp [mI] at h
  | .fcat _ _, X, I, A, t, e, h => by simp [mI] at h
  | .frep _ _, X, I, A, t, e, h => by simp [mI] at h
  | .fslc _ _ _, X, I, A, t, e, h => by simp [mI] at h
  | .fsort _, X, I, A, t, e, h => by simp [mI] at h
  | .trep _ _, X, I, A, t, e, h => by simp [mI] at h
  | .trev _, X, I, A, t, e, h => by simp [mI] at h
  | .mink _ _, X, I, A, t, e, h => by simp [mI] at h
  | .mind _, X, I, A, t, e, h => by simp [mI] at h
  | .flist _, X, I, A, t, e, h => by simp [mI] at h
end
end
end MPS

namespace MPS
open PySem PySem.Spec L2 MP
/-- does name = [..] go straight into the name? -/
def swB (I : Inf) (scope : Scope) (y : Str) (l m : Nat) : Bool := decide (I.sc.names.lookup y = some .local) && (l == m) && !(scope.names.any fun (n, k) => n == y && (k == .local || k == .cell))
/-- are two (three) names stored from the right? -/
def parB (I : Inf) (es : List Expr) (xs : List Str) (ls : List Nat) : Bool :=
  (xs.all fun x => decide (I.sc.names.lookup x = some .local)) && (match ls with
    | l :: r => r.all (· == l)
    | [] => false) && (es.all fun e => !isStar e) && !es.all (foldedForSure 8) && !es.all (constantsAlone 8) && decide (xs.eraseDups.length = xs.length)
def notNm : Expr → Bool
  | .Name _ _ => false
  | _ => true
/-- a target with another target within -/
def nestT : Expr → Bool
  | .Tuple ts _ _ => ts.any notNm
  | _ => false
def mSet (I : Inf) : IE → Str → Pos → Nat → Expr → Bool
  | .mk (.fcomp own tg it cs x), y, py, l, e => match e with
    | .ListComp elt gs scope pos => mE I (.mk (.fcomp own tg it cs x)) e
    | _ => false
  | .inl (.fcomp own tg it cs x), y, py, l, e => match e with
    | .ListComp elt gs scope pos => mE I (.inl (.fcomp own tg it cs x)) e
    | _ => false
  | ie, _, _, _, e => !isComp e && mE I ie e
mutual
def mS (I : Inf) : IS → Stmt → Bool
  | .pass, s => match s with
    | .Pass _ => true
    | .Expr (.Constant (.str _) _ _) _ => true
    | _ => false
  | .bad, _ => true
  | .set i e, s => match s with
    | .Assign [.Name x p] v pos => decide (I.N[i]? = some x) && isLoc I x && mSet I e x p pos.line v
    | _ => false
  | .setT tg e, s => match s with
    | .Assign [t] v _ => isTup t && (!isTup v || nestT t) && !isComp v && mTg I tg t && mE I e v
    | _ => false
  | .par is es, s => match is, s with
    | [i, j], .Assign [.Tuple [.Name x px, .Name y py] _ _] (.Tuple [a, b] _ _) _ => decide (I.N[i]? = some x) && decide (I.N[j]? = some y) && decide (i ≠ j) && parB I [a, b] [x, y] [px.line, py.line] && mA I es [a, b]
    | [i, j, l], .Assign [.Tuple [.Name x px, .Name y py, .Name z pz] _ _] (.Tuple [a, b, d] _ _) _ => decide (I.N[i]? = some x) && decide (I.N[j]? = some y) && decide (I.N[l]? = some z) && decide (i ≠ j) && decide (i ≠ l) && decide (j ≠ l) && parB I [a, b, d] [x, y, z] [px.line, py.line, pz.line] && mA I es [a, b, d]
    | _, _ => false
  | .aug i o e, s => match s with
    | .AugAssign (.Name x _) p v _ => decide (p = opB o) && augOk o && decide (I.N[i]? = some x) && isLoc I x && mE I e v
    | _ => false
  | .expr e, s => match s with
    | .Expr v _ => !isComp v && mE I e v
    | _ => false
  | .ret e, s => match s with
    | .Return (some v) _ => mE I e v
    | _ => false
  | .retN, s => match s with
    | .Return none _ => true
    | _ => false
  | .ite d a b, s => match s with
    | .If t xs ys _ => mT I d t && mSs I a xs && mSs I b ys
    | _ => false
  | .for_ tg it b, s => match s with
    | .For t iter body [] _ => mTg I tg t && mI I it t iter && !isSet iter && mSs I b body
    | _ => false
  | .while_ _ d b, s => match s with
    | .While t body [] _ => mT I d t && mSs I b body
    | _ => false
  | .app o e, s => match s with
    | .Expr (.Call (.Attribute x nm ap) [y] [] cp) _ => decide (nm = ("append" : Str)) && isNm x && !isStar y && (ap.endLine == cp.line) && mE I o x && mE I e y
    | _ => false
  | .ext o e, s => match s with
    | .Expr (.Call (.Attribute x nm ap) [y] [] cp) _ => decide (nm = ("extend" : Str)) && isNm x && !isStar y && (ap.endLine == cp.line) && mE I o x && mE I e y
    | _ => false
  | .setI o i e, s => match s with
    | .Assign [.Subscript x y _] v _ => !isSlice y && mE I e v && mE I o x && mE I i y
    | _ => false
  | .setS o lo hi e, s => match s with
    | .Assign [.Subscript x (.Slice l h none _) _] v _ => mE I e v && mE I o x && mO I lo l && mO I hi h
    | _ => false
  | .ins o i e, s => match s with
    | .Expr (.Call (.Attribute x nm ap) [y, z] [] cp) _ => decide (nm = ("insert" : Str)) && isNm x && !isStar y && !isStar z && (ap.endLine == cp.line) && mE I o x && mE I i y && mE I e z
    | _ => false
  | .rem o e, s => match s with
    | .Expr (.Call (.Attribute x nm ap) [y] [] cp) _ => decide (nm = ("remove" : Str)) && isNm x && !isStar y && (ap.endLine == cp.line) && mE I o x && mE I e y
    | _ => false
  | .brk, s => match s with
    | .Break _ => true
    | _ => false
  | .cont, s => match s with
    | .Continue _ => true
    | _ => false
  | _, _ => false
def mSs (I : Inf) : IS → List Stmt → Bool
  | .nil, [] => true
  | .cons a r, s :: ss => mS I a s && mSs I r ss
  | _, _ => false
end
section
variable {c : C} {T : List Val} {cb : CB} {X : Cx} {I : Inf}
theorem noComp {e : Expr} {t : Option Expr} {l : Nat} {en : PySem.Env} (h : isComp e = false) : swapsWith e t l en = pure false := by
  unfold swapsWith
  cases e <;> first | rfl | (simp [isComp] at h)
theorem sw_eq {elt : Expr} {gs : List Comprehension} {scope : Scope} {pos py : Pos} {y : Str} {l : Nat} {en : PySem.Env} (hk : en.scope.kind = .function) :
    swapsWith (.ListComp elt gs scope pos) (some (.Name y py)) l en = pure (en.kindOf y == some .local && py.line == pos.line && !(scope.names.any fun (n, k) => n == y && (k == .local || k == .cell))) := by
  have hb : en.blockKind = .function := by unfold PySem.Env.blockKind; rw [hk]; rfl
  unfold swapsWith
  simp only [hb, Expr.pos]
  rfl
theorem set_comp {i : Nat} {y : Str} {py pos : Pos} {e : Expr} {fe : MEnv → M Val} {own : List Nat} {tg : Tg} {it cs x : IE} (A : At c X I cb) (hi : I.N[i]? = some y) (hl : isLoc I y = true) (h : mF I (.fcomp own tg it cs x) e = true)
    (k : ∀ (σ : L2.St) (H : Hp) (Q : VK), tE c WF fe σ H Q → tF c WF (fun env => evalF T cb env (.fcomp own tg it cs x)) σ H Q) : PS X (.Assign [.Name y py] e pos) (tAsg (tE c WF fe) (gName i)) := by
  have h' := h
  simp only [mF] at h
  split at h
  · rename_i elt t iter ifs scope p2
    simp only [Bool.and_eq_true, Bool.or_eq_true, decide_eq_true_eq, Bool.not_eq_true'] at h
    obtain ⟨⟨⟨⟨⟨⟨h1, h2⟩, h3⟩, h4⟩, h5⟩, h6⟩, h7⟩ := h
    have ok := blkOk_by h1
    have hk := ok.kind
    have eo : (ownP I own).map (·.2) = own := by simp [ownP, Function.comp_def]
    have ht : ∀ i ∈ tgs tg, i ∈ own := fun i hi => by simpa using List.all_eq_true.mp h2 i hi
    obtain ⟨l1, l2⟩ := A.loc hl
    have hkX : X.env.scope.kind = .function := by rw [A.sc]; exact A.fk
    by_cases sw : (X.env.kindOf y == some .local && py.line == p2.line && !(scope.names.any fun (n, k) => n == y && (k == .local || k == .cell))) = true
    · have hy : X.env.scope.names.lookup y = some .local := by
        simp only [Bool.and_eq_true, beq_iff_eq] at sw
        exact sw.1.1
      refine tAsg_imp (te := tLc _ _ _ _ own) ?_ (fun σ H Q q => lc_imp ht (k σ H Q q))
      have z := ps_setLc (spos := pos) (py := py) A.good.calm A.good.nd (A.slot hi) hy (by rw [sw_eq hkX, sw]) (eI (T := T) it A t _ h5) (by rw [A.N, A.sc]; exact ok) (fun s H C cl fp => (mTg_ok (A.blk s H scope C cl fp hk) tg).1 _ h4)
        (fun s H C cl fp => eC (T := T) cs (A.blk s H scope C cl fp hk) _ h6) (fun s H C cl fp => eE (T := T) x (A.blk s H scope C cl fp hk) _ h7) (folded h3)
      rw [eo] at z
      exact z
    · refine tAsg_imp (ps_set A.good.nd (A.slot hi) l1 (eF (T := T) (.fcomp own tg it cs x) A _ h') ?_ l2) k
      rw [sw_eq hkX]
      exact congrArg pure (Bool.eq_false_iff.mpr sw)
  · cases h
theorem set_ok {i : Nat} {y : Str} {py pos : Pos} {v : Expr} (ie : IE) (A : At c X I cb) (hi : I.N[i]? = some y) (hl : isLoc I y = true) (h : mSet I ie y py pos.line v = true) :
    PS X (.Assign [.Name y py] v pos) (tAsg (tE c WF fun env => evalE T cb env ie) (gName i)) := by
  obtain ⟨l1, l2⟩ := A.loc hl
  unfold mSet at h
  split at h
  · split at h
    · simp only [mE] at h
      exact set_comp A hi hl h fun σ H Q q => mk_imp q
    · cases h
  · split at h
    · simp only [mE] at h
      exact set_comp A hi hl h fun σ H Q q => inl_imp q
    · cases h
  · simp only [Bool.and_eq_true, Bool.not_eq_true'] at h
    exact ps_set A.good.nd (A.slot hi) l1 (eE _ A _ h.2) (noComp h.1) l2
theorem noSwap {t e : Expr} {en : PySem.Env} (h : isTup e = false) : swappedStores [t] e en = pure none := by
  unfold swappedStores
  cases e <;> first | (cases t <;> rfl) | (simp [isTup] at h)
theorem drop_len {α β : Type} {f : α → Option β} {p : α → Bool} (hf : ∀ a, p a = true → f a = none) : ∀ {l : List α}, l.any p = true → (l.filterMap f).length < l.length
  | [], h => by simp at h
  | a :: r, h => by
    rw [List.filterMap_cons]
    cases k : f a with
    | none => exact Nat.lt_succ_of_le (List.length_filterMap_le f r)
    | some b =>
      have hp : p a = false := by
        cases hp : p a with
        | false => rfl
        | true => rw [hf a hp] at k; cases k
      rw [List.any_cons, hp, Bool.false_or] at h
      exact Nat.succ_lt_succ (drop_len hf h)
theorem noSwap2 {t e : Expr} {en : PySem.Env} (h : nestT t = true) : swappedStores [t] e en = pure none := by
  unfold swappedStores
  cases t <;> first | (simp [nestT] at h; done) | skip
  cases e <;> first | rfl | skip
  rename_i ts _ _ vs _ _
  show (if (!(ts.length == 2 || ts.length == 3) || vs.length != ts.length || en.blockKind != .function) = true then _ else _) = _
  split
  · rfl
  · show (if _ then _ else _) = _
    split
    · rfl
    · show (if _ then _ else _) = _
      rw [if_pos]
      simp only [Bool.or_eq_true, bne_iff_ne, ne_eq]
      refine .inl (Nat.ne_of_lt (drop_len (p := notNm) (fun a ha => ?_) h))
      cases a <;> first | rfl | (simp [notNm] at ha)
def starM : Expr → Bool := fun
  | .Starred .. => true
  | _ => false
theorem notStarred (e : Expr) : isStar e = false → starM e = false := by
  intro h
  cases e <;> first | rfl | (simp [isStar] at h)
theorem par2_ok {a b : Expr} {x y : Str} {px py pt pt2 : Pos} {kt k2 : Nat} (A : At c X I cb) (h : parB I [a, b] [x, y] [px.line, py.line] = true) :
    X.env.scope.names.lookup x = some .local ∧ X.env.scope.names.lookup y = some .local ∧ swappedStores [.Tuple [.Name x px, .Name y py] kt pt] (.Tuple [a, b] k2 pt2) X.env = pure (some [x, y]) := by
  unfold parB at h
  simp only [Bool.and_eq_true, decide_eq_true_eq, Bool.not_eq_true'] at h
  obtain ⟨⟨⟨⟨⟨h1, h2⟩, h3⟩, h4⟩, h5⟩, h6⟩ := h
  simp only [List.all_cons, List.all_nil, Bool.and_true, Bool.and_eq_true, decide_eq_true_eq, beq_iff_eq] at h1 h2
  have hk : X.env.scope.kind = .function := by rw [A.sc]; exact A.fk
  have hb : X.env.blockKind = .function := by unfold PySem.Env.blockKind; rw [hk]; rfl
  have kx : X.env.kindOf x = some .local := by show X.env.scope.names.lookup x = _; rw [A.sc]; exact h1.1
  have ky : X.env.kindOf y = some .local := by show X.env.scope.names.lookup y = _; rw [A.sc]; exact h1.2
  refine ⟨kx, ky, ?_⟩
  simp only [List.all_cons, List.all_nil, Bool.and_true, Bool.and_eq_true, Bool.not_eq_true'] at h3
  unfold swappedStores
  simp only [hb, kx, ky, List.filterMap_cons, List.filterMap_nil, List.head?_cons, Option.map_some, Option.getD_some, Expr.pos]
  refine Eq.trans (if_neg (by simp)) ?_
  refine Eq.trans (if_neg (by
    simp only [List.any_cons, List.any_nil, Bool.or_false, Bool.or_eq_true, not_or, Bool.not_eq_true]
    exact ⟨notStarred _ h3.1, notStarred _ h3.2⟩)) ?_
  simp only [h2, beq_self_eq_true, Bool.and_self, if_true] at h6 ⊢
  refine Eq.trans (if_neg (by simp [h6])) ?_
  refine Eq.trans (if_neg (by rw [h4]; exact Bool.false_ne_true)) ?_
  exact if_neg (by rw [h5]; exact Bool.false_ne_true)
theorem par3_ok {a b d : Expr} {x y z : Str} {px py pz pt pt2 : Pos} {kt k2 : Nat} (A : At c X I cb) (h : parB I [a, b, d] [x, y, z] [px.line, py.line, pz.line] = true) :
    X.env.scope.names.lookup x = some .local ∧ X.env.scope.names.lookup y = some .local ∧ X.env.scope.names.lookup z = some .local ∧ swappedStores [.Tuple [.Name x px, .Name y py, .Name z pz] kt pt] (.Tuple [a, b, d] k2 pt2) X.env = pure (some [x, y, z]) := by
  unfold parB at h
  simp only [Bool.and_eq_true, decide_eq_true_eq, Bool.not_eq_true'] at h
  obtain ⟨⟨⟨⟨⟨h1, h2⟩, h3⟩, h4⟩, h5⟩, h6⟩ := h
  simp only [List.all_cons, List.all_nil, Bool.and_true, Bool.and_eq_true, decide_eq_true_eq, beq_iff_eq] at h1 h2
  have hk : X.env.scope.kind = .function := by rw [A.sc]; exact A.fk
  have hb : X.env.blockKind = .function := by unfold PySem.Env.blockKind; rw [hk]; rfl
  have kx : X.env.kindOf x = some .local := by show X.env.scope.names.lookup x = _; rw [A.sc]; exact h1.1
  have ky : X.env.kindOf y = some .local := by show X.env.scope.names.lookup y = _; rw [A.sc]; exact h1.2.1
  have kz : X.env.kindOf z = some .local := by show X.env.scope.names.lookup z = _; rw [A.sc]; exact h1.2.2
  refine ⟨kx, ky, kz, ?_⟩
  simp only [List.all_cons, List.all_nil, Bool.and_true, Bool.and_eq_true, Bool.not_eq_true'] at h3
  unfold swappedStores
  simp only [hb, kx, ky, kz, List.filterMap_cons, List.filterMap_nil, List.head?_cons, Option.map_some, Option.getD_some, Expr.pos]
  refine Eq.trans (if_neg (by simp)) ?_
  refine Eq.trans (if_neg (by
    simp only [List.any_cons, List.any_nil, Bool.or_false, Bool.or_eq_true, not_or, Bool.not_eq_true]
    exact ⟨notStarred _ h3.1, notStarred _ h3.2.1, notStarred _ h3.2.2⟩)) ?_
  simp only [h2.1, h2.2, beq_self_eq_true, Bool.and_self, if_true] at h6 ⊢
  refine Eq.trans (if_neg (by simp [h6])) ?_
  refine Eq.trans (if_neg (by rw [h4]; exact Bool.false_ne_true)) ?_
  exact if_neg (by rw [h5]; exact Bool.false_ne_true)
mutual
theorem sS : ∀ (is : IS) {X : Cx} {I : Inf} (A : At c X I cb) (s : Stmt), mS I is s = true → PS X s (tS c WF (evalS T cb is))
  | .pass, X, I, A, s, h => by
    simp only [mS] at h
    split at h
    · exact sS_pass
    · exact sS_doc
    · cases h
  | .bad, X, I, A, s, h => sS_bad fun _ _ => rfl
  | .set i e, X, I, A, s, h => by
    simp only [mS] at h
    split at h
    · simp only [Bool.and_eq_true, decide_eq_true_eq] at h
      exact sS_set (set_ok e A h.1.1 h.1.2 h.2)
    · cases h
  | .setT tg e, X, I, A, s, h => by
    simp only [mS] at h
    split at h
    · rename_i t v _
      simp only [Bool.and_eq_true, Bool.not_eq_true'] at h
      have ht : isStar t = false := by
        have := h.1.1.1.1
        cases t <;> first | rfl | (simp [isTup] at this)
      exact sS_setT (eE e A _ h.2) ((mTg_ok A tg).1 _ h.1.2) (noComp h.1.1.2) ((Bool.or_eq_true _ _ |>.mp h.1.1.1.2).elim (fun z => noSwap (by simpa using z)) noSwap2) ht
    · cases h
  | .par is es, X, I, A, s, h => by
    simp only [mS] at h
    split at h
    · simp only [Bool.and_eq_true, decide_eq_true_eq] at h
      obtain ⟨⟨⟨⟨h1, h2⟩, h3⟩, h4⟩, h5⟩ := h
      obtain ⟨k1, k2, k3⟩ := par2_ok A h4
      exact sS_par2 A.good (A.slot h1) (A.slot h2) h3 k1 k2 (eA es A _ h5) k3
    · simp only [Bool.and_eq_true, decide_eq_true_eq] at h
      obtain ⟨⟨⟨⟨⟨⟨⟨h1, h2⟩, h3⟩, h4⟩, h5⟩, h6⟩, h7⟩, h8⟩ := h
      obtain ⟨k1, k2, k3, k4⟩ := par3_ok A h7
      exact sS_par3 A.good (A.slot h1) (A.slot h2) (A.slot h3) h4 h5 h6 k1 k2 k3 (eA es A _ h8) k4
    · cases h
  | .aug i o e, X, I, A, s, h => by
    simp only [mS] at h
    split at h
    · simp only [Bool.and_eq_true, decide_eq_true_eq] at h
      obtain ⟨⟨⟨⟨h1, h2⟩, h3⟩, h4⟩, h5⟩ := h
      subst h1
      obtain ⟨l1, l2⟩ := A.loc h4
      exact sS_aug A.good (A.slot h3) l1 l2 (eE e A _ h5) (iop_bI h2)
    · cases h
  | .expr e, X, I, A, s, h => by
    simp only [mS] at h
    split at h
    · simp only [Bool.and_eq_true, Bool.not_eq_true'] at h
      exact sS_expr (eE e A _ h.2) (noComp h.1)
    · cases h
  | .ret e, X, I, A, s, h => by
    simp only [mS] at h
    split at h
    · exact sS_ret (eE e A _ h)
    · cases h
  | .retN, X, I, A, s, h => by
    simp only [mS] at h
    split at h
    · exact sS_retN
    · cases h
  | .ite d a b, X, I, A, s, h => by
    simp only [mS] at h
    split at h
    · simp only [Bool.and_eq_true] at h
      exact sS_if (eT d A _ h.1.1) (sSs a A _ h.1.2) (sSs b A _ h.2)
    · cases h
  | .for_ tg it b, X, I, A, s, h => by
    simp only [mS] at h
    split at h
    · simp only [Bool.and_eq_true, Bool.not_eq_true'] at h
      exact sS_for A.good (by rw [A.xe]; exact PassesOwn.never) (eI it A _ _ h.1.1.2) ((mTg_ok A tg).1 _ h.1.1.1) (sSs b A _ h.2) (folded h.1.2)
    · cases h
  | .while_ n d b, X, I, A, s, h => by
    simp only [mS] at h
    split at h
    · simp only [Bool.and_eq_true] at h
      exact sS_while (by rw [A.xe]; exact PassesOwn.never) (eT d A _ h.1) (sSs b A _ h.2)
    · cases h
  | .app o e, X, I, A, s, h => by
    simp only [mS] at h
    split at h
    · simp only [Bool.and_eq_true, decide_eq_true_eq, Bool.not_eq_true'] at h
      obtain ⟨⟨⟨⟨⟨h1, h2⟩, h3⟩, h4⟩, h5⟩, h6⟩ := h
      subst h1
      exact sS_app A.good (eE o A _ h5) (eE e A _ h6) h2 h3 h4
    · cases h
  | .ext o e, X, I, A, s, h => by
    simp only [mS] at h
    split at h
    · simp only [Bool.and_eq_true, decide_eq_true_eq, Bool.not_eq_true'] at h
      obtain ⟨⟨⟨⟨⟨h1, h2⟩, h3⟩, h4⟩, h5⟩, h6⟩ := h
      subst h1
      exact sS_ext A.good (eE o A _ h5) (eE e A _ h6) h2 h3 h4
    · cases h
  | .setI o i e, X, I, A, s, h => by
    simp only [mS] at h
    split at h
    · simp only [Bool.and_eq_true, Bool.not_eq_true'] at h
      exact sS_setI A.good (eE e A _ h.1.1.2) (eE o A _ h.1.2) (eE i A _ h.2) h.1.1.1
    · cases h
  | .setS o lo hi e, X, I, A, s, h => by
    simp only [mS] at h
    split at h
    · simp only [Bool.and_eq_true] at h
      exact sS_setS A.good (eE e A _ h.1.1.1) (eE o A _ h.1.1.2) (eO lo A _ h.1.2) (eO hi A _ h.2)
    · cases h
  | .ins o i e, X, I, A, s, h => by
    simp only [mS] at h
    split at h
    · simp only [Bool.and_eq_true, decide_eq_true_eq, Bool.not_eq_true'] at h
      obtain ⟨⟨⟨⟨⟨⟨⟨h1, h2⟩, h3⟩, h4⟩, h5⟩, h6⟩, h7⟩, h8⟩ := h
      subst h1
      exact sS_ins A.good (eE o A _ h6) (eE i A _ h7) (eE e A _ h8) h2 h3 h4 h5
    · cases h
  | .rem o e, X, I, A, s, h => by
    simp only [mS] at h
    split at h
    · simp only [Bool.and_eq_true, decide_eq_true_eq, Bool.not_eq_true'] at h
      obtain ⟨⟨⟨⟨⟨h1, h2⟩, h3⟩, h4⟩, h5⟩, h6⟩ := h
      subst h1
      exact sS_rem A.good (eE o A _ h5) (eE e A _ h6) h2 h3 h4
    · cases h
  | .brk, X, I, A, s, h => by
    simp only [mS] at h
    split at h
    · exact sS_brk
    · cases h
  | .cont, X, I, A, s, h => by
    simp only [mS] at h
    split at h
    · exact sS_cont
    · cases h
  | .nil, X, I, A, s, h => by simp [mS] at h
  | .cons _ _, X, I, A, s, h => by simp [mS] at h
  | .raise _ _, X, I, A, s, h => by simp [mS] at h
theorem sSs : ∀ (is : IS) {X : Cx} {I : Inf} (A : At c X I cb) (ss : List Stmt), mSs I is ss = true → PSs X ss (tS c WF (evalS T cb is))
  | .nil, X, I, A, ss, h => by
    cases ss with
    | nil => exact sSs_nil
    | cons _ _ => simp [mSs] at h
  | .cons a r, X, I, A, ss, h => by
    cases ss with
    | nil => simp [mSs] at h
    | cons s ss =>
      simp only [mSs, Bool.and_eq_true] at h
      exact sSs_cons (sS a A _ h.1) (sSs r A _ h.2)
  | .pass, X, I, A, ss, h => by simp [mSs] at h
  | .bad, X, I, A, ss, h => by simp [mSs] at h
  | .set _ _, X, I, A, ss, h => by simp [mSs] at h
  | .setT _ _, X, I, A, ss, h => by simp [mSs] at h
  | .par _ _, X, I, A, ss, h => by simp [mSs] at h
  | .aug _ _ _, X, I, A, ss, h => by simp [mSs] at h
  | .expr _, X, I, A, ss, h => by simp [mSs] at h
  | .ret _, X, I, A, ss, h => by simp [mSs] at h
  | .retN, X, I, A, ss, h => by simp [mSs] at h
  | .ite _ _ _, X, I, A, ss, h => by simp [mSs] at h
  | .for_ _ _ _, X, I, A, ss, h => by simp [mSs] at h
  | .while_ _ _ _, X, I, A, ss, h => by simp [mSs] at h
  | .app _ _, X, I, A, ss, h => by simp [mSs] at h
  | .ext _ _, X, I, A, ss, h => by simp [mSs] at h
  | .setI _ _ _, X, I, A, ss, h => by simp [mSs] at h
  | .ins _ _ _, X, I, A, ss, h => by simp [mSs] at h
  | .rem _ _, X, I, A, ss, h => by simp [mSs] at h
  | .setS _ _ _ _, X, I, A, ss, h => by simp [mSs] at h
  | .brk, X, I, A, ss, h => by simp [mSs] at h
  | .cont, X, I, A, ss, h => by simp [mSs] at h
  | .raise _ _, X, I, A, ss, h => by simp [mSs] at h
end
end
end MPS

namespace MPS
open PySem PySem.Spec L2 MP
/-- a def of the text: its name, its qualified name, the statement, its slots, its parameters -/
structure DefR where
  x : Str
  qual : Str
  st : Stmt
  N : List Str
  ps : List Str
  /-- no parameter by its name alone -/
  po : Bool
  /-- a lambda within -/
  lam : Bool
def infOf (P : MP.Prog) (gl : List (Str × GK)) (kc : List (Nat × Nat × List Str × List Nat × List Val)) (d : DefR) : Inf :=
  { N := d.N, sc := defScope d.st, raw := (defScope d.st).names, gl := gl, io := P.fns.map (·.io), kc := kc, tab := d.lam }
/-- what can be checked of the text alone -/
def rowB (P : MP.Prog) (gl : List (Str × GK)) (kc : List (Nat × Nat × List Str × List Nat × List Val)) (d : DefR) (fn : MP.Fn) : Bool :=
  decide (fn.np = d.ps.length) && decide (fn.ns = d.N.length) && decide (fn.io.length ≤ fn.np) && decide (d.N.Nodup) && decide (d.N.take d.ps.length = d.ps) &&
  (match (defScope d.st).kind with
    | .function => true
    | _ => false) && !(defScope d.st).isCoroutine && !(defScope d.st).isGenerator &&
  (d.ps.all fun x => match (defScope d.st).names.lookup x with
    | some .local => true
    | some .cell => true
    | _ => false) &&
  ((defScope d.st).names.all fun y => match y.2 with
    | .free => false
    | _ => true) &&
  mSs (infOf P gl kc d) fn.body (defBody d.st)
structure Row (K : PySem.W.Frag) (mg : Str → Option Value) (c : C) (fd : FuncData) (kc : List (Nat × Nat × List Str × List Nat × List Val)) (d : DefR) (i : Nat) : Prop where
  F : Fun K d.x d.qual d.st (c.fa i) fd
  hm : mg d.x = some (.ref (c.fa i))
  hb : d.po = true → Binds K fd d.ps []
  kw : ∀ n ks ar ds, (i, n, ks, ar, ds) ∈ kc → KBd c K fd d.ps n ks ar ds
  lam : d.lam = true → ∃ cd Pt, fd.code = .ref cd ∧ (cd, Pt) ∈ c.cs ∧ (Pt, d.qual ++ ".<locals>." ++ "<lambda>") ∈ c.tt ∧ ∀ p ∈ c.tt, p.1 = Pt → p.2 = d.qual ++ ".<locals>." ++ "<lambda>"
section
variable {prog : Program} {w : World} {K : PySem.W.Frag} {mg : Str → Option Value} {base : PySem.Heap} {c : C} {P : MP.Prog} {gl : List (Str × GK)} {kc : List (Nat × Nat × List Str × List Nat × List Val)} {D : List DefR} {fd : Nat → FuncData}
/-- a def by its body; its code object is told -/
theorem fun_okC {x qual : Str} {st : Stmt} {f : Addr} {fdd : FuncData} {N ps : List Str} {k : Nat} {sp : Sp} (F : Fun K x qual st f fdd) (S : FnScope N ps (defScope st)) (hlen : ∀ vs H Q E, sp vs H Q E → vs.length = ps.length)
    (walk : ∀ (cdv : Value) (A : Around) (outer : List PySem.Env) (s : Shared) (H : Hp) (vs : List V) (Q : VK) (E : XK), fdd.code = cdv → Room k (A.deeper (PyProof.Rows.envOfC qual (defScope st) s.heap.objs.size f cdv)) → sp vs H Q E →
      ∃ t, PSs (cxOf CX0 prog w K mg base N qual (defScope st) f cdv A outer s H E).nox (defBody st) t ∧ t { nx := fun _ H' => Q .non H', rt := Q } (start N vs) H) : FnOk prog w K mg base CX0 (k + 1) f fdd ps sp := by
  obtain ⟨_, _, _, _, _, _, cdv, _, _, rfl, hlook, hcode⟩ := F.ex
  refine fn_of hlook hcode S hlen fun A' out' s' H' vs' Q' E' room' told => ?_
  obtain ⟨t, h1, h2⟩ := walk cdv A' out' s' H' vs' Q' E' rfl room' told
  exact ⟨t, h1.nox, h2⟩
theorem scope_of {d : DefR} {fn : MP.Fn} (h : rowB P gl kc d fn = true) : FnScope d.N d.ps (defScope d.st) ∧ fn.np = d.ps.length ∧ fn.ns = d.N.length ∧ fn.io.length ≤ fn.np ∧ mSs (infOf P gl kc d) fn.body (defBody d.st) = true := by
  unfold rowB at h
  simp only [Bool.and_eq_true, decide_eq_true_eq, Bool.not_eq_true'] at h
  obtain ⟨⟨⟨⟨⟨⟨⟨⟨⟨⟨h1, h2⟩, h3⟩, h4⟩, h5⟩, h6⟩, h7⟩, h8⟩, h9⟩, h10⟩, h11⟩ := h
  refine ⟨⟨?_, h7, h8, h4, h5, fun x hx => ?_, fun y hy => ?_⟩, h1, h2, h3, h11⟩
  · split at h6
    · assumption
    · cases h6
  · have := List.all_eq_true.mp h9 x hx
    split at this
    · left; assumption
    · right; assumption
    · cases this
  · have := List.all_eq_true.mp h10 y hy
    intro e
    rw [e] at this
    cases this
theorem table_ok (hK : c.K = K) (tabs : ∀ p ∈ c.cs, LamX.TabB base mg p.1 p.2) (rows : ∀ i d, D[i]? = some d → Row K mg c (fd i) kc d i) (hl : P.fns.length = D.length) (rb : ∀ (i : Nat) (d : DefR) (fn : MP.Fn), D[i]? = some d → P.fns[i]? = some fn → rowB P gl kc d fn = true)
    (glf : ∀ x i, gl.lookup x = some (.fn i) → ∃ d, D[i]? = some d ∧ d.x = x ∧ d.po = true) (glk : ∀ x i, gl.lookup x = some (.fk i) → ∃ d, D[i]? = some d ∧ d.x = x) (gc : ∀ x v, gl.lookup x = some (.cst v) → ∃ y u, mg x = some u ∧ RelV y u ∧ ∀ H ml G, RV c H ml G v y) (gb : ∀ x, gl.lookup x = some .blt → mg x = none) :
    ∀ (k i : Nat) (d : DefR) (fn : MP.Fn), D[i]? = some d → P.fns[i]? = some fn → FnOk prog w K mg base CX0 (k + 3) (c.fa i) (fd i) d.ps (SpM c fn.io (MP.run P k i)) := by
  intro k
  induction k with
  | zero =>
    intro i d fn h1 h2
    refine ⟨fun vs H Q E h => ?_, fun A outer s H args us vs Q E _ _ _ _ h => ?_⟩
    · obtain ⟨ws, M, G, o, _, _, _, _, _, e, _⟩ := h
      cases e
    · obtain ⟨ws, M, G, o, _, _, _, _, _, e, _⟩ := h
      cases e
  | succ k ih =>
    intro i d fn h1 h2
    obtain ⟨S, np, ns, io, ok⟩ := scope_of (rb i d fn h1 h2)
    have R := rows i d h1
    have er : MP.run P (k + 1) i = callFn P.T (MP.run P k) fn := by
      funext xs
      show (match P.fns[i]? with
        | some fn => callFn P.T (MP.run P k) fn xs
        | none => Ret.bad) = _
      rw [h2]
    rw [er]
    refine fun_okC (k := k + 3) R.F S (fun vs H Q E h => ?_) fun cdv A outer s H vs Q E hcd hr hsp => ?_
    · obtain ⟨ws, M, G, o, en, _, _, _, _, e, _⟩ := h
      rw [en.length, callFn_len e, np]
    · refine ⟨tS c WF (evalS P.T (MP.run P k) fn.body), sSs fn.body ?_ _ ok, body_ok ns io hsp⟩
      have cal0 : ∀ (x : Str) (n : Nat) (io : List Bool) (d2 : DefR), D[n]? = some d2 → d2.x = x → (P.fns.map (·.io))[n]? = some io → ∃ fn2 : MP.Fn, P.fns[n]? = some fn2 ∧ io = fn2.io := fun x n io d2 e1 e3 e2 => by
        rw [List.getElem?_map] at e2
        obtain ⟨fn2, e5, e6⟩ := Option.map_eq_some_iff.mp e2
        exact ⟨fn2, e5, e6.symm⟩
      refine ⟨⟨hK.symm, rfl, ?_, S.nd⟩, rfl, rfl, S.kind, fun x e => rfl, rfl, fun x n io e1 e2 => ?_, gc, gb, fun x f n ks ar ds io e1 e2 e3 => ?_, fun hl => ?_⟩
      · have := hr.un
        show (A.deeper _).units + 100 < cLine
        omega
      · obtain ⟨d2, e3, e4, e7⟩ := glf x n e1
        obtain ⟨fn2, e5, rfl⟩ := cal0 x n io d2 e3 e4 e2
        have R2 := rows n d2 e3
        subst e4
        exact ⟨k + 3, fd n, d2.ps, ⟨ih n d2 fn2 e3 e5, hr, R2.hm, R2.F.kp, R2.hb e7⟩⟩
      · obtain ⟨d2, e4, e5⟩ : ∃ d, D[f]? = some d ∧ d.x = x := by
          rcases e1 with e1 | e1
          · obtain ⟨d, h1, h2, _⟩ := glf x f e1
            exact ⟨d, h1, h2⟩
          · exact glk x f e1
        obtain ⟨fn2, e6, rfl⟩ := cal0 x f io d2 e4 e5 e3
        have R2 := rows f d2 e4
        subst e5
        exact ⟨k + 3, fd f, d2.ps, ⟨ih f d2 fn2 e4 e6, hr, R2.hm, R2.F.kp, R2.kw n ks ar ds e2⟩⟩
      · obtain ⟨cd, Pt, h1, h2, h3, h4⟩ := R.lam hl
        exact ⟨hr.mono (j := 2) (by omega), cd, Pt, by rw [← hcd]; exact h1, tabs _ h2, h3, h4⟩
/-- the law's promise -/
def spLaw (cs : List (Addr × Addr)) (K : PySem.W.Frag) (n : Nat) : Sp := fun vs H Q _ => ∃ (a : Addr) (ns : List Int), vs = [.ref a] ∧ (∀ p ∈ cs, H p.2 = some (.tbl #[])) ∧ SqL K H a (ns.map V.int) ∧ ns.length ≤ n ∧ ∀ H', Q (.bl true) H'
theorem law_ok {f : Addr} {fdl : FuncData} {x : Str} {i j k n : Nat} (hK : c.K = K) (htt : ∀ q ∈ c.tt, ∃ p ∈ c.cs, p.2 = q.1) (F : FnOk prog w K mg base CX0 j f fdl [x] (SpM c [] (MP.run P k i))) (h : ∀ ns : List Int, ns.length ≤ n → MP.run P k i [.scr (ns.map .int)] = .ret ⟨.bl true, false, []⟩) :
    FnOk prog w K mg base CX0 j f fdl [x] (spLaw c.cs K n) := by
  have imp : ∀ vs H Q E, spLaw c.cs K n vs H Q E → SpM c [] (MP.run P k i) vs H Q E := fun vs H Q E q => by
    obtain ⟨a, ns, rfl, ho, hs, hl, q⟩ := q
    have rs : ∀ (ml : List Addr) (G : Addr → Prop) (ns : List Int), RVs c H ml G (ns.map .int) (ns.map V.int) := fun ml G ns => by
      induction ns with
      | nil => exact .nil
      | cons m r ih => exact .cons .int ih
    have fl : FL c.K H (fun _ => False) a (ns.map V.int) := by
      rw [hK]
      rcases hs with (hs | hs) | hs
      · exact .inr (.inr ⟨hs, fun z => z⟩)
      · exact .inl hs
      · exact .inr (.inl hs)
    have nl : ∀ ns : List Int, noLocL (ns.map .int) = true := fun ns => by
      induction ns with
      | nil => rfl
      | cons m r ih => simp [noLocL, Val.noLoc, ih]
    have rv : RV c H [] (fun _ => False) (.scr (ns.map .int)) (.ref a) := by unfold RV; exact ⟨a, _, rfl, fl, rs _ _ ns⟩
    refine ⟨[.scr (ns.map .int)], [], fun _ => False, _, .re rv (by simpa [Val.noLoc] using nl ns) .nil, .nil, fun _ z => (List.not_mem_nil z).elim, fun _ (z : False) => False.elim z, fun p hp => ?_, h ns hl, fun y H' ml' G' h' _ _ _ rv => ?_⟩
    · obtain ⟨p2, h1, h2⟩ := htt p hp
      exact LamX.TabS.nil (by rw [← h2]; exact ho p2 h1)
    · rcases rv with ⟨z, _⟩ | ⟨_, r, _⟩
      · cases z
      · rw [r.bl']; exact q H'
  exact ⟨fun vs H Q E q => F.len vs H Q E (imp vs H Q E q), fun A outer s H args us vs Q E h1 h2 h3 h4 q => F.run A outer s H args us vs Q E h1 h2 h3 h4 (imp vs H Q E q)⟩
/-- the end: a law by its promise; cs: the code objects that make lambdas, with their tables -/
theorem law_end {l : PySem.W.OpenLaw} {q : Program} {loose : List Str} {XP : (Str → Option Value) → PySem.Heap → Prop} {YP : World → PySem.Heap → Prop} {dr : DefRec} {KK : Params → PySem.W.Frag} {x : Str} {j n : Nat} (hn : l.most = some n) (hn2 : n ≤ sizeLine) (hr : Room j callerA) (hdf : dr.params.defaults = [])
    (hY : ∀ (w : World) (h : PySem.Heap), YP w h → (KK w.params).In h)
    (F : ∀ (w : World) (mg : Str → Option Value) (fa : Addr) (h : PySem.Heap), YP w h → (KK w.params).In h → h.Ns mainGlobals mg → mg dr.name = some (.ref fa) →
      ∃ (fd : FuncData) (cs : List (Addr × Addr)), (∀ p ∈ cs, h.get? p.2 = some { cls := .none, data := .fields #[] }) ∧ (∀ p ∈ cs, (KK w.params).lookup p.2 = none) ∧ (∀ p ∈ cs, PySem.W.CodeHd h p.1 p.2) ∧ (∀ (s : Shared) (u : Value), BindsTo s fd ⟨[u], []⟩ [(x, u)]) ∧
        ∀ base : PySem.Heap, (KK w.params).In base → base.Ns mainGlobals mg → (∀ p ∈ cs, LamX.TabB base mg p.1 p.2) → FnOk l.prog w (KK w.params) mg base CX0 j fa fd [x] (spLaw cs (KK w.params) n)) :
    PySem.W.WalkO q loose XP YP l.row.toRowW dr [] (fun f vs => PySem.call f vs) :=
  LamX.walk_ofTs (n := n) (k := j) (CX := fun _ => CX0) (K := KK) hn hn2 hdf hr hY (fun w mg fa h Y hk hg hm => by
    obtain ⟨fd, cs, h1, h2, h3, h4, h5⟩ := F w mg fa h Y hk hg hm
    exact ⟨fd, cs, spLaw cs (KK w.params) n, h1, h2, h3, h4, fun H a ns hl _ ht hs => ⟨a, ns, rfl, ht, hs, hl, fun _ => rfl⟩, h5⟩) fun _ _ _ _ _ z => z
def GlOk (mg : Str → Option Value) (c : C) (p : Str × GK) : Prop := match p.2 with
  | .fn _ => True
  | .fk _ => True
  | .cst v => ∃ y u, mg p.1 = some u ∧ RelV y u ∧ ∀ H ml G, RV c H ml G v y
  | .blt => mg p.1 = none
def GlAll (mg : Str → Option Value) (c : C) : List (Str × GK) → Prop
  | [] => True
  | p :: r => GlOk mg c p ∧ GlAll mg c r
theorem GlAll.at : ∀ {l : List (Str × GK)} {x : Str} {k : GK}, GlAll mg c l → l.lookup x = some k → GlOk mg c (x, k)
  | [], x, k, _, h => by cases h
  | (y, j) :: r, x, k, g, h => by
    rw [List.lookup_cons] at h
    cases e : x == y with
    | true =>
      rw [e] at h
      cases h
      have := eq_of_beq e
      subst this
      exact g.1
    | false =>
      rw [e] at h
      exact GlAll.at g.2 h
def RowsAll (K : PySem.W.Frag) (mg : Str → Option Value) (c : C) (kc : List (Nat × Nat × List Str × List Nat × List Val)) : Nat → List DefR → List FuncData → Prop
  | _, [], [] => True
  | i, d :: r, f :: s => Row K mg c f kc d i ∧ RowsAll K mg c kc (i + 1) r s
  | _, _, _ => False
theorem RowsAll.at : ∀ {D : List DefR} {fs : List FuncData} {i j : Nat} {d : DefR}, RowsAll K mg c kc i D fs → D[j]? = some d → ∃ f, fs[j]? = some f ∧ Row K mg c f kc d (i + j)
  | [], _, _, _, _, _, h => by simp at h
  | d :: r, [], _, _, _, g, _ => g.elim
  | d :: r, f :: s, i, 0, d2, g, h => by
    simp at h
    subst h
    exact ⟨f, rfl, g.1⟩
  | d :: r, f :: s, i, j + 1, d2, g, h => by
    obtain ⟨f2, e, q⟩ := RowsAll.at (j := j) g.2 (by simpa using h)
    have : i + 1 + j = i + (j + 1) := by omega
    rw [this] at q
    exact ⟨f2, by simpa using e, q⟩
/-- the text's checks, all at once -/
def textB (P : MP.Prog) (gl : List (Str × GK)) (kc : List (Nat × Nat × List Str × List Nat × List Val)) (D : List DefR) : Bool :=
  decide (P.fns.length = D.length) && ((D.zip P.fns).all fun p => rowB P gl kc p.1 p.2) && gl.all fun p => match p.2 with
    | .fn i => match D[i]? with
      | some d => decide (d.x = p.1) && d.po
      | none => false
    | .fk i => match D[i]? with
      | some d => decide (d.x = p.1)
      | none => false
    | _ => true
theorem look_mem : ∀ {l : List (Str × GK)} {x : Str} {k : GK}, l.lookup x = some k → (x, k) ∈ l
  | [], x, k, h => by cases h
  | (y, j) :: r, x, k, h => by
    rw [List.lookup_cons] at h
    cases e : x == y with
    | true =>
      rw [e] at h
      cases h
      have := eq_of_beq e
      subst this
      exact List.mem_cons_self
    | false =>
      rw [e] at h
      exact List.mem_cons_of_mem _ (look_mem h)
theorem all_ok {fs : List FuncData} (hK : c.K = K) (tabs : ∀ p ∈ c.cs, LamX.TabB base mg p.1 p.2) (hB : textB P gl kc D = true) (rows : RowsAll K mg c kc 0 D fs) (g : GlAll mg c gl) (k : Nat) {i : Nat} {d : DefR} {fn : MP.Fn} {f : FuncData} (h1 : D[i]? = some d) (h2 : P.fns[i]? = some fn) (h3 : fs[i]? = some f) :
    FnOk prog w K mg base CX0 (k + 3) (c.fa i) f d.ps (SpM c fn.io (MP.run P k i)) := by
  unfold textB at hB
  simp only [Bool.and_eq_true, decide_eq_true_eq] at hB
  obtain ⟨⟨hl, hr⟩, hg⟩ := hB
  have q := table_ok (kc := kc) (prog := prog) (w := w) (base := base) (fd := fun i => fs.getD i f) hK tabs (fun i d e => ?_) hl (fun i d fn e1 e2 => ?_) (fun x i e => ?_) (fun x i e => ?_) (fun x v e => g.at e) (fun x e => g.at e) k i d fn h1 h2
  · simpa [List.getD_eq_getElem?_getD, h3] using q
  · obtain ⟨f2, e2, R⟩ := rows.at e
    rw [Nat.zero_add] at R
    simpa [List.getD_eq_getElem?_getD, e2] using R
  · refine List.all_eq_true.mp hr (d, fn) ?_
    refine List.mem_of_getElem? (i := i) ?_
    rw [List.getElem?_zip_eq_some]
    exact ⟨e1, e2⟩
  · have := List.all_eq_true.mp hg _ (look_mem e)
    simp only at this
    split at this
    · rename_i d2 e2
      simp only [Bool.and_eq_true, decide_eq_true_eq] at this
      exact ⟨d2, e2, this.1, this.2⟩
    · cases this
  · have := List.all_eq_true.mp hg _ (look_mem e)
    simp only at this
    split at this
    · rename_i d2 e2
      exact ⟨d2, e2, of_decide_eq_true this⟩
    · cases this
/-- a def's code object, by its table -/
theorem tab_code {x : Str} {fa cc Pt : Addr} {oc : Value} {od : Option Addr} {fdd : FuncData} {sl : Array (Option Value)} (h1 : PySem.W.nsIn K mainGlobals x = some (some (.ref fa))) (h2 : K.lookup fa = some ⟨oc, od, .func fdd, sl⟩) (h3 : PySem.W.tabIn K x = some (cc, Pt)) : fdd.code = .ref cc := by
  unfold PySem.W.tabIn at h3
  rw [h1] at h3
  simp only [h2] at h3
  split at h3
  · rename_i c2 e
    split at h3
    · split at h3
      · cases h3; exact e
      · cases h3
    · cases h3
  · cases h3
/-- an int of the module -/
theorem gl_int {x : Str} {i : Int} {t : Tok} (h : mg x = some (.int i t)) : GlOk mg c (x, .cst (.int i)) := ⟨.int i, _, h, ⟨t, rfl⟩, fun _ _ _ => .int⟩
end
end MPS

namespace K09
open PySem (Str)
open MP
def b__law_purse : IS := (.cons (.set 2 (.idx (.inl (.fcat (.inl (.fslc (.var 0) (.part (.var 1)) (.part (.bin .add (.var 1) (.k (.int (1))))))) (.inl (.fdisp (.acons (.k (.int (0))) .anil))))) (.k (.int (0))))) (.cons (.ite (.or (.cmp .ge (.var 2) (.bin .pow (.k (.int (10))) (.k (.int (18))))) (.cmp .lt (.var 2) (.k (.int (0))))) (.cons (.ret (.mk (.fdisp (.acons (.b2 .max (.var 2) (.bin .sub (.neg (.k (.int (1)))) (.var 2))) (.acons (.k (.int (0))) .anil))))) .nil) .nil) (.cons (.ret (.mk (.fdisp (.acons (.k (.int (0))) (.acons (.bin .add (.k (.int (1))) (.bin .mod (.bin .add (.bin .mul (.var 2) (.k (.int (48271)))) (.bin .mul (.bin .mul (.bin .add (.var 1) (.k (.int (1)))) (.k (.int (69621)))) (.bin .add (.var 1) (.k (.int (7)))))) (.k (.int (2147483629))))) .anil))))) .nil)))
def b__law_take : IS := (.cons (.ite (.cmp .eq (.idx (.var 0) (.k (.int (1)))) (.k (.int (0)))) (.cons (.set 2 (.bin .mod (.idx (.var 0) (.k (.int (0)))) (.var 1))) (.cons (.setI (.var 0) (.k (.int (0))) (.bin .fdiv (.idx (.var 0) (.k (.int (0)))) (.var 1))) (.cons (.ret (.var 2)) .nil))) .nil) (.cons (.setI (.var 0) (.k (.int (1))) (.bin .add (.k (.int (1))) (.bin .mod (.bin .add (.bin .mul (.idx (.var 0) (.k (.int (1)))) (.k (.int (39373)))) (.k (.int (7919)))) (.k (.int (2147483587)))))) (.cons (.ret (.bin .mod (.bin .fdiv (.bin .mod (.bin .mul (.idx (.var 0) (.k (.int (1)))) (.k (.int (30269)))) (.k (.int (2147483563)))) (.k (.int (11)))) (.var 1))) .nil)))
def b__law_height : IS := (.cons (.ret (.bin .add (.k (.int (4))) (.call 1 [true] (.acons (.var 0) (.acons (.idx (.inl (.fdisp (.acons (.k (.int (3))) (.acons (.k (.int (5))) .anil)))) (.b1 .int (.cmp .eq (.call 1 [true] (.acons (.var 0) (.acons (.k (.int (8))) .anil))) (.k (.int (3)))))) .anil))))) .nil)
def l__law_rooms_0 : IS := (.cons (.ite (.cmp .ne (.var 2) (.inl (.fdisp .anil))) (.cons (.setT (.t (.cons (.n 5) (.cons (.n 6) .nil))) (.pop (.var 2))) (.cons (.set 7 (.call 1 [true] (.acons (.var 0) (.acons (.k (.int (5))) .anil)))) (.cons (.ite (.or (.cmp .eq (.var 7) (.k (.int (0)))) (.and (.cmp .gt (.var 7) (.k (.int (1)))) (.cmp .eq (.var 6) (.k (.int (8)))))) (.cons (.app (.var 3) (.tup (.acons (.var 5) (.acons (.var 6) .anil)))) .nil) .nil) (.cons (.ite (.and (.cmp .gt (.var 7) (.k (.int (1)))) (.cmp .gt (.var 6) (.k (.int (8))))) (.cons (.app (.var 2) (.tup (.acons (.var 5) (.acons (.bin .fdiv (.var 6) (.k (.int (2)))) .anil)))) (.cons (.app (.var 2) (.tup (.acons (.bin .add (.var 5) (.bin .fdiv (.var 6) (.k (.int (2))))) (.acons (.bin .fdiv (.var 6) (.k (.int (2)))) .anil)))) .nil)) .nil) .nil)))) .nil) .nil)
def b__law_rooms : IS := (.cons (.set 2 (.mk (.fdisp (.acons (.tup (.acons (.k (.int (0))) (.acons (.bin .shl (.k (.int (1))) (.var 1)) .anil))) .anil)))) (.cons (.set 3 (.mk (.fdisp .anil))) (.cons (.for_ (.n 4) (.rng1 (.k (.int (127)))) l__law_rooms_0) (.cons (.ret (.b1 .tuple (.inl (.fsort (.var 3))))) .nil))))
def b__law_free : IS := (.cons (.ret (.not (.b1 .any (.inl (.fslc (.var 0) (.part (.var 1)) (.part (.bin .add (.var 1) (.var 2)))))))) .nil)
def l__law_map_0 : IS := (.cons (.set 11 (.or (.var 9) (.and (.cmp .eq (.bin .mul (.bin .fdiv (.var 7) (.var 5)) (.var 5)) (.var 7)) (.call 4 [] (.acons (.var 2) (.acons (.var 7) (.acons (.var 5) .anil))))))) (.cons (.set 5 (.bin .fdiv (.var 5) (.idx (.inl (.fdisp (.acons (.k (.int (2))) (.acons (.k (.int (1))) .anil)))) (.b1 .int (.var 11))))) .nil))
def l__law_map_1 : IS := (.cons (.ite (.cmp .lt (.var 7) (.b1 .len (.var 2))) (.cons (.set 5 (.b1 .len (.var 2))) (.cons (.set 9 (.k (.bl false))) (.cons (.ite (.cmp .gt (.idx (.var 2) (.var 7)) (.k (.int (0)))) (.cons (.set 5 (.idx (.idx (.var 1) (.bin .sub (.idx (.var 2) (.var 7)) (.k (.int (1))))) (.k (.int (1))))) (.cons (.set 9 (.k (.bl true))) .nil)) .nil) (.cons (.for_ (.n 10) (.rng1 (.k (.int (6)))) l__law_map_0) (.cons (.app (.var 6) (.tup (.acons (.var 7) (.acons (.var 5) (.acons (.var 9) .anil))))) (.cons (.set 7 (.bin .add (.var 7) (.var 5))) .nil)))))) .nil) .nil)
def l__law_map_2 : IS := (.cons (.setS (.var 2) (.part (.var 4)) (.part (.bin .add (.var 4) (.var 5))) (.inl (.frep (.inl (.fdisp (.acons (.bin .add (.var 3) (.k (.int (1)))) .anil))) (.var 5)))) .nil)
def b__law_map : IS := (.cons (.set 2 (.mk (.frep (.inl (.fdisp (.acons (.k (.int (0))) .anil))) (.bin .shl (.k (.int (1))) (.var 0))))) (.cons (.for_ (.t (.cons (.n 3) (.cons (.t (.cons (.n 4) (.cons (.n 5) .nil))) .nil))) (.enum (.var 1)) l__law_map_2) (.cons (.set 6 (.mk (.fdisp .anil))) (.cons (.set 7 (.k (.int (0)))) (.cons (.for_ (.n 8) (.rng1 (.k (.int (32)))) l__law_map_1) (.cons (.ret (.b1 .tuple (.var 6))) .nil))))))
def c__law_got_0 : IE := (.fcomp [5, 4, 6] (.t (.cons (.n 5) (.cons (.n 4) (.cons (.n 6) .nil)))) (.seq (.call 5 [] (.acons (.var 0) (.acons (.var 1) .anil)))) (.acons (.and (.not (.tr (.var 6))) (.cmp .ge (.var 4) (.var 2))) .anil) (.tup (.acons (.var 4) (.acons (.var 5) .anil))))
def b__law_got : IS := (.cons (.set 3 (.inl c__law_got_0)) (.cons (.ite (.cmp .eq (.var 3) (.inl (.fdisp .anil))) (.cons (.ret (.k .non)) .nil) .nil) (.cons (.setT (.t (.cons (.n 4) (.cons (.n 5) .nil))) (.mind (.var 3))) (.cons (.ret (.tup (.acons (.var 5) (.acons (.var 4) .anil)))) .nil))))
def b__law_number : IS := (.cons (.ret (.and (.isi (.var 0) "int") (.not (.isi (.var 0) "bool")))) .nil)
def c__law_is_pair_0 : IE := (.fcomp [1] (.n 1) (.seq (.var 0)) .anil (.call 7 [] (.acons (.var 1) .anil)))
def b__law_is_pair : IS := (.cons (.ret (.and (.isi (.var 0) "tuple") (.and (.cmp .eq (.b1 .len (.var 0)) (.k (.int (2)))) (.b1 .all (.inl c__law_is_pair_0))))) .nil)
def b__law_right : IS := (.cons (.set 4 (.call 6 [] (.acons (.var 1) (.acons (.var 2) (.acons (.var 3) .anil))))) (.cons (.ite (.cmp .isn (.var 4) (.k .non)) (.cons (.ret (.cmp .isn (.var 0) (.k .non))) .nil) .nil) (.cons (.ret (.and (.call 8 [] (.acons (.var 0) .anil)) (.cmp .eq (.var 0) (.tup (.acons (.idx (.var 4) (.k (.int (0)))) (.acons (.var 3) .anil)))))) .nil)))
def b_is_whole : IS := (.cons (.ret (.and (.isi (.var 0) "int") (.not (.isi (.var 0) "bool")))) .nil)
def b_is_within : IS := (.cons (.ret (.and (.call 10 [] (.acons (.var 0) .anil)) (.cmp2 .le .le (.var 1) (.var 0) (.var 2)))) .nil)
def b_check_height : IS := (.cons (.ite (.not (.tr (.call 11 [] (.acons (.var 0) (.acons (.k (.int (4))) (.acons (.k (.int (8))) .anil)))))) (.cons .bad .nil) .nil) .nil)
def c_all_sizes_0 : IE := (.fcomp [1] (.n 1) (.rng1 (.bin .sub (.var 0) (.k (.int (2))))) .anil (.bin .shl (.k (.int (8))) (.var 1)))
def b_all_sizes : IS := (.cons (.ret (.b1 .tuple (.inl c_all_sizes_0))) .nil)
def b_wide : IS := (.cons (.ret (.bin .shl (.k (.int (1))) (.var 0))) .nil)
def c_is_one_room_0 : IE := (.fcomp [4] (.n 4) (.seq (.var 1)) .anil (.call 10 [] (.acons (.var 4) .anil)))
def b_is_one_room : IS := (.cons (.ite (.or (.not (.tr (.isi (.var 1) "tuple"))) (.or (.cmp .ne (.b1 .len (.var 1)) (.k (.int (2)))) (.not (.tr (.b1 .all (.inl c_is_one_room_0)))))) (.cons (.ret (.k (.bl false))) .nil) .nil) (.cons (.setT (.t (.cons (.n 2) (.cons (.n 3) .nil))) (.var 1)) (.cons (.ret (.and (.cmp .mem (.var 3) (.call 13 [] (.acons (.var 0) .anil))) (.and (.cmp2 .le .lt (.k (.int (0))) (.var 2) (.call 14 [] (.acons (.var 0) .anil))) (.cmp .eq (.bin .mod (.var 2) (.var 3)) (.k (.int (0))))))) .nil)))
def b_touch : IS := (.cons (.ret (.and (.cmp .lt (.idx (.var 0) (.k (.int (0)))) (.bin .add (.idx (.var 1) (.k (.int (0)))) (.idx (.var 1) (.k (.int (1)))))) (.cmp .lt (.idx (.var 1) (.k (.int (0)))) (.bin .add (.idx (.var 0) (.k (.int (0)))) (.idx (.var 0) (.k (.int (1)))))))) .nil)
def l_check_rooms_0 : IS := (.cons (.ite (.not (.tr (.call 15 [] (.acons (.var 0) (.acons (.var 3) .anil))))) (.cons .bad .nil) .nil) (.cons (.ite (.and (.cmp .gt (.var 2) (.k (.int (0)))) (.or (.cmp .le (.var 3) (.idx (.var 1) (.bin .sub (.var 2) (.k (.int (1)))))) (.tr (.call 16 [] (.acons (.var 3) (.acons (.idx (.var 1) (.bin .sub (.var 2) (.k (.int (1))))) .anil)))))) (.cons .bad .nil) .nil) .nil))
def b_check_rooms : IS := (.cons (.ite (.not (.tr (.isi (.var 1) "tuple"))) (.cons .bad .nil) .nil) (.cons (.for_ (.t (.cons (.n 2) (.cons (.n 3) .nil))) (.enum (.var 1)) l_check_rooms_0) .nil))
def b_check_out : IS := (.cons (.expr (.call 12 [] (.acons (.var 0) .anil))) (.cons (.expr (.call 17 [] (.acons (.var 0) (.acons (.var 1) .anil)))) .nil))
def b_check_size : IS := (.cons (.ite (.or (.not (.tr (.call 10 [] (.acons (.var 1) .anil)))) (.cmp .nmem (.var 1) (.call 13 [] (.acons (.var 0) .anil)))) (.cons .bad .nil) .nil) .nil)
def b_check_wish : IS := (.cons (.expr (.call 18 [] (.acons (.var 0) (.acons (.var 1) .anil)))) (.cons (.expr (.call 19 [] (.acons (.var 0) (.acons (.var 2) .anil)))) .nil))
def c_best_of_0 : IE := (.fcomp [2] (.n 2) (.seq (.var 0)) (.acons (.cmp .ge (.idx (.var 2) (.k (.int (1)))) (.var 1)) .anil) (.var 2))
def b_best_of : IS := (.cons (.ret (.mink [.at_ 1, .at_ 0] (.inl c_best_of_0))) .nil)
def b_split : IS := (.cons (.setT (.t (.cons (.n 1) (.cons (.n 2) .nil))) (.var 0)) (.cons (.set 3 (.bin .fdiv (.var 2) (.k (.int (2))))) (.cons (.ret (.tup (.acons (.tup (.acons (.var 1) (.acons (.var 3) .anil))) (.acons (.tup (.acons (.bin .add (.var 1) (.var 3)) (.acons (.var 3) .anil))) .anil)))) .nil)))
def c_parts_of_0 : IE := (.fcomp [5] (.n 5) (.seq (.var 1)) (.acons (.tr (.call 16 [] (.acons (.var 0) (.acons (.var 5) .anil)))) .anil) (.var 5))
def b_parts_of : IS := (.cons (.set 2 (.inl c_parts_of_0)) (.cons (.ite (.cmp .eq (.var 2) (.inl (.fdisp .anil))) (.cons (.ret (.mk (.fdisp (.acons (.tup (.acons (.idx (.var 0) (.k (.int (0)))) (.acons (.idx (.var 0) (.k (.int (1)))) (.acons (.k (.bl false)) .anil)))) .anil)))) .nil) .nil) (.cons (.ite (.cmp .eq (.var 2) (.inl (.fdisp (.acons (.var 0) .anil)))) (.cons (.ret (.mk (.fdisp (.acons (.tup (.acons (.idx (.var 0) (.k (.int (0)))) (.acons (.idx (.var 0) (.k (.int (1)))) (.acons (.k (.bl true)) .anil)))) .anil)))) .nil) .nil) (.cons (.setT (.t (.cons (.n 3) (.cons (.n 4) .nil))) (.call 22 [] (.acons (.var 0) .anil))) (.cons (.ret (.mk (.fcat (.call 23 [] (.acons (.var 3) (.acons (.var 2) .anil))) (.call 23 [] (.acons (.var 4) (.acons (.var 2) .anil)))))) .nil)))))
def b_mapped : IS := (.cons (.ret (.call 23 [] (.acons (.tup (.acons (.k (.int (0))) (.acons (.call 14 [] (.acons (.var 0) .anil)) .anil))) (.acons (.inl (.flist (.var 1))) .anil)))) .nil)
def c_free_rooms_0 : IE := (.fcomp [2, 3, 4] (.t (.cons (.n 2) (.cons (.n 3) (.cons (.n 4) .nil)))) (.seq (.call 24 [] (.acons (.var 0) (.acons (.var 1) .anil)))) (.acons (.not (.tr (.var 4))) .anil) (.tup (.acons (.var 2) (.acons (.var 3) .anil))))
def b_free_rooms : IS := (.cons (.ret (.mk c_free_rooms_0)) .nil)
def b_room_by : IS := (.cons (.set 3 (.call 21 [] (.acons (.call 25 [] (.acons (.var 0) (.acons (.var 1) .anil))) (.acons (.var 2) .anil)))) (.cons (.ret (.ite (.cmp .isn (.var 3) (.k .non)) (.k .non) (.tup (.acons (.idx (.var 3) (.k (.int (0)))) (.acons (.var 2) .anil))))) .nil))
def b_room_for : IS := (.cons (.expr (.call 20 [] (.acons (.var 0) (.acons (.var 1) (.acons (.var 2) .anil))))) (.cons (.ret (.call 26 [] (.acons (.var 0) (.acons (.var 1) (.acons (.var 2) .anil))))) .nil))
def c__law_all_right_0 : IE := (.fcomp [4] (.n 4) (.rng1 (.bin .sub (.var 0) (.k (.int (2))))) .anil (.bin .shl (.k (.int (8))) (.var 4)))
def l__law_all_right_0 : IS := (.cons (.ite (.not (.tr (.call 9 [] (.acons (.call 27 [] (.acons (.var 0) (.acons (.var 1) (.acons (.var 3) .anil)))) (.acons (.var 0) (.acons (.var 1) (.acons (.var 3) .anil))))))) (.cons (.ret (.k (.bl false))) .nil) .nil) (.cons (.ite (.not (.tr (.call 9 [] (.acons (.call 27 [] (.acons (.var 0) (.acons (.var 2) (.acons (.var 3) .anil)))) (.acons (.var 0) (.acons (.var 2) (.acons (.var 3) .anil))))))) (.cons (.ret (.k (.bl false))) .nil) .nil) (.cons (.ite (.not (.tr (.call 9 [] (.acons (.callk 27 [] 0 3 .anil (.acons (.var 3) (.acons (.var 1) (.acons (.var 0) .anil))) [2, 1, 0] []) (.acons (.var 0) (.acons (.var 1) (.acons (.var 3) .anil))))))) (.cons (.ret (.k (.bl false))) .nil) .nil) .nil)))
def b__law_all_right : IS := (.cons (.for_ (.n 3) (.seq (.inl c__law_all_right_0)) l__law_all_right_0) (.cons (.ret (.k (.bl true))) .nil))
def l_law_0 : IS := (.cons (.set 2 (.mk (.call 0 [] (.acons (.var 0) (.acons (.var 1) .anil))))) (.cons (.set 3 (.call 2 [true] (.acons (.var 2) .anil))) (.cons (.par [4, 5] (.acons (.call 3 [true] (.acons (.var 2) (.acons (.var 3) .anil))) (.acons (.call 3 [true] (.acons (.var 2) (.acons (.var 3) .anil))) .anil))) (.cons (.ite (.or (.not (.tr (.call 28 [] (.acons (.var 3) (.acons (.var 4) (.acons (.var 5) .anil)))))) (.not (.tr (.call 28 [] (.acons (.var 3) (.acons (.tup .anil) (.acons (.tup (.acons (.tup (.acons (.k (.int (0))) (.acons (.bin .shl (.k (.int (1))) (.var 3)) .anil))) .anil)) .anil))))))) (.cons (.ret (.k (.bl false))) .nil) .nil) .nil))))
def b_law : IS := (.cons (.for_ (.n 1) (.rng1 (.b2 .max (.k (.int (2))) (.b2 .min (.k (.int (4))) (.b1 .len (.var 0))))) l_law_0) (.cons (.ret (.k (.bl true))) .nil))
def prog : MP.Prog := { T := [], fns := [⟨2, 3, [], b__law_purse⟩,
  ⟨2, 3, [true], b__law_take⟩,
  ⟨1, 1, [true], b__law_height⟩,
  ⟨2, 8, [true], b__law_rooms⟩,
  ⟨3, 3, [], b__law_free⟩,
  ⟨2, 12, [], b__law_map⟩,
  ⟨3, 7, [], b__law_got⟩,
  ⟨1, 1, [], b__law_number⟩,
  ⟨1, 2, [], b__law_is_pair⟩,
  ⟨4, 5, [], b__law_right⟩,
  ⟨1, 1, [], b_is_whole⟩,
  ⟨3, 3, [], b_is_within⟩,
  ⟨1, 1, [], b_check_height⟩,
  ⟨1, 2, [], b_all_sizes⟩,
  ⟨1, 1, [], b_wide⟩,
  ⟨2, 5, [], b_is_one_room⟩,
  ⟨2, 2, [], b_touch⟩,
  ⟨2, 4, [], b_check_rooms⟩,
  ⟨2, 2, [], b_check_out⟩,
  ⟨2, 2, [], b_check_size⟩,
  ⟨3, 3, [], b_check_wish⟩,
  ⟨2, 3, [], b_best_of⟩,
  ⟨1, 4, [], b_split⟩,
  ⟨2, 6, [], b_parts_of⟩,
  ⟨2, 2, [], b_mapped⟩,
  ⟨2, 5, [], b_free_rooms⟩,
  ⟨3, 4, [], b_room_by⟩,
  ⟨3, 3, [], b_room_for⟩,
  ⟨3, 5, [], b__law_all_right⟩,
  ⟨1, 6, [], b_law⟩] }
theorem at__law_purse (n : Nat) (x0 : Val) (x1 : Val) : run prog (n + 1) 0 [x0, x1] = Ret.close 0 (evalS [] (run prog n) b__law_purse [some x0, some x1, none] []) := by first | rfl | (simp [run, prog, callFn, enter, List.replicate, Ret.close]; done) | (simp [run, prog, callFn, enter, List.replicate]; rfl)
theorem at__law_take (n : Nat) (x0 : List Val) (x1 : Val) : run prog (n + 1) 1 [.lst x0, x1] = Ret.close 1 (evalS [] (run prog n) b__law_take [some (.loc 0), some x1, none] [.list x0]) := by first | rfl | (simp [run, prog, callFn, enter, List.replicate, Ret.close]; done) | (simp [run, prog, callFn, enter, List.replicate]; rfl)
theorem at__law_height (n : Nat) (x0 : List Val) : run prog (n + 1) 2 [.lst x0] = Ret.close 1 (evalS [] (run prog n) b__law_height [some (.loc 0)] [.list x0]) := by first | rfl | (simp [run, prog, callFn, enter, List.replicate, Ret.close]; done) | (simp [run, prog, callFn, enter, List.replicate]; rfl)
theorem at__law_rooms (n : Nat) (x0 : List Val) (x1 : Val) : run prog (n + 1) 3 [.lst x0, x1] = Ret.close 1 (evalS [] (run prog n) b__law_rooms [some (.loc 0), some x1, none, none, none, none, none, none] [.list x0]) := by first | rfl | (simp [run, prog, callFn, enter, List.replicate, Ret.close]; done) | (simp [run, prog, callFn, enter, List.replicate]; rfl)
theorem at__law_free (n : Nat) (x0 : Val) (x1 : Val) (x2 : Val) : run prog (n + 1) 4 [x0, x1, x2] = Ret.close 0 (evalS [] (run prog n) b__law_free [some x0, some x1, some x2] []) := by first | rfl | (simp [run, prog, callFn, enter, List.replicate, Ret.close]; done) | (simp [run, prog, callFn, enter, List.replicate]; rfl)
theorem at__law_map (n : Nat) (x0 : Val) (x1 : Val) : run prog (n + 1) 5 [x0, x1] = Ret.close 0 (evalS [] (run prog n) b__law_map [some x0, some x1, none, none, none, none, none, none, none, none, none, none] []) := by first | rfl | (simp [run, prog, callFn, enter, List.replicate, Ret.close]; done) | (simp [run, prog, callFn, enter, List.replicate]; rfl)
theorem at__law_got (n : Nat) (x0 : Val) (x1 : Val) (x2 : Val) : run prog (n + 1) 6 [x0, x1, x2] = Ret.close 0 (evalS [] (run prog n) b__law_got [some x0, some x1, some x2, none, none, none, none] []) := by first | rfl | (simp [run, prog, callFn, enter, List.replicate, Ret.close]; done) | (simp [run, prog, callFn, enter, List.replicate]; rfl)
theorem at__law_number (n : Nat) (x0 : Val) : run prog (n + 1) 7 [x0] = Ret.close 0 (evalS [] (run prog n) b__law_number [some x0] []) := by first | rfl | (simp [run, prog, callFn, enter, List.replicate, Ret.close]; done) | (simp [run, prog, callFn, enter, List.replicate]; rfl)
theorem at__law_is_pair (n : Nat) (x0 : Val) : run prog (n + 1) 8 [x0] = Ret.close 0 (evalS [] (run prog n) b__law_is_pair [some x0, none] []) := by first | rfl | (simp [run, prog, callFn, enter, List.replicate, Ret.close]; done) | (simp [run, prog, callFn, enter, List.replicate]; rfl)
theorem at__law_right (n : Nat) (x0 : Val) (x1 : Val) (x2 : Val) (x3 : Val) : run prog (n + 1) 9 [x0, x1, x2, x3] = Ret.close 0 (evalS [] (run prog n) b__law_right [some x0, some x1, some x2, some x3, none] []) := by first | rfl | (simp [run, prog, callFn, enter, List.replicate, Ret.close]; done) | (simp [run, prog, callFn, enter, List.replicate]; rfl)
theorem at_is_whole (n : Nat) (x0 : Val) : run prog (n + 1) 10 [x0] = Ret.close 0 (evalS [] (run prog n) b_is_whole [some x0] []) := by first | rfl | (simp [run, prog, callFn, enter, List.replicate, Ret.close]; done) | (simp [run, prog, callFn, enter, List.replicate]; rfl)
theorem at_is_within (n : Nat) (x0 : Val) (x1 : Val) (x2 : Val) : run prog (n + 1) 11 [x0, x1, x2] = Ret.close 0 (evalS [] (run prog n) b_is_within [some x0, some x1, some x2] []) := by first | rfl | (simp [run, prog, callFn, enter, List.replicate, Ret.close]; done) | (simp [run, prog, callFn, enter, List.replicate]; rfl)
theorem at_check_height (n : Nat) (x0 : Val) : run prog (n + 1) 12 [x0] = Ret.close 0 (evalS [] (run prog n) b_check_height [some x0] []) := by first | rfl | (simp [run, prog, callFn, enter, List.replicate, Ret.close]; done) | (simp [run, prog, callFn, enter, List.replicate]; rfl)
theorem at_all_sizes (n : Nat) (x0 : Val) : run prog (n + 1) 13 [x0] = Ret.close 0 (evalS [] (run prog n) b_all_sizes [some x0, none] []) := by first | rfl | (simp [run, prog, callFn, enter, List.replicate, Ret.close]; done) | (simp [run, prog, callFn, enter, List.replicate]; rfl)
theorem at_wide (n : Nat) (x0 : Val) : run prog (n + 1) 14 [x0] = Ret.close 0 (evalS [] (run prog n) b_wide [some x0] []) := by first | rfl | (simp [run, prog, callFn, enter, List.replicate, Ret.close]; done) | (simp [run, prog, callFn, enter, List.replicate]; rfl)
theorem at_is_one_room (n : Nat) (x0 : Val) (x1 : Val) : run prog (n + 1) 15 [x0, x1] = Ret.close 0 (evalS [] (run prog n) b_is_one_room [some x0, some x1, none, none, none] []) := by first | rfl | (simp [run, prog, callFn, enter, List.replicate, Ret.close]; done) | (simp [run, prog, callFn, enter, List.replicate]; rfl)
theorem at_touch (n : Nat) (x0 : Val) (x1 : Val) : run prog (n + 1) 16 [x0, x1] = Ret.close 0 (evalS [] (run prog n) b_touch [some x0, some x1] []) := by first | rfl | (simp [run, prog, callFn, enter, List.replicate, Ret.close]; done) | (simp [run, prog, callFn, enter, List.replicate]; rfl)
theorem at_check_rooms (n : Nat) (x0 : Val) (x1 : Val) : run prog (n + 1) 17 [x0, x1] = Ret.close 0 (evalS [] (run prog n) b_check_rooms [some x0, some x1, none, none] []) := by first | rfl | (simp [run, prog, callFn, enter, List.replicate, Ret.close]; done) | (simp [run, prog, callFn, enter, List.replicate]; rfl)
theorem at_check_out (n : Nat) (x0 : Val) (x1 : Val) : run prog (n + 1) 18 [x0, x1] = Ret.close 0 (evalS [] (run prog n) b_check_out [some x0, some x1] []) := by first | rfl | (simp [run, prog, callFn, enter, List.replicate, Ret.close]; done) | (simp [run, prog, callFn, enter, List.replicate]; rfl)
theorem at_check_size (n : Nat) (x0 : Val) (x1 : Val) : run prog (n + 1) 19 [x0, x1] = Ret.close 0 (evalS [] (run prog n) b_check_size [some x0, some x1] []) := by first | rfl | (simp [run, prog, callFn, enter, List.replicate, Ret.close]; done) | (simp [run, prog, callFn, enter, List.replicate]; rfl)
theorem at_check_wish (n : Nat) (x0 : Val) (x1 : Val) (x2 : Val) : run prog (n + 1) 20 [x0, x1, x2] = Ret.close 0 (evalS [] (run prog n) b_check_wish [some x0, some x1, some x2] []) := by first | rfl | (simp [run, prog, callFn, enter, List.replicate, Ret.close]; done) | (simp [run, prog, callFn, enter, List.replicate]; rfl)
theorem at_best_of (n : Nat) (x0 : Val) (x1 : Val) : run prog (n + 1) 21 [x0, x1] = Ret.close 0 (evalS [] (run prog n) b_best_of [some x0, some x1, none] []) := by first | rfl | (simp [run, prog, callFn, enter, List.replicate, Ret.close]; done) | (simp [run, prog, callFn, enter, List.replicate]; rfl)
theorem at_split (n : Nat) (x0 : Val) : run prog (n + 1) 22 [x0] = Ret.close 0 (evalS [] (run prog n) b_split [some x0, none, none, none] []) := by first | rfl | (simp [run, prog, callFn, enter, List.replicate, Ret.close]; done) | (simp [run, prog, callFn, enter, List.replicate]; rfl)
theorem at_parts_of (n : Nat) (x0 : Val) (x1 : Val) : run prog (n + 1) 23 [x0, x1] = Ret.close 0 (evalS [] (run prog n) b_parts_of [some x0, some x1, none, none, none, none] []) := by first | rfl | (simp [run, prog, callFn, enter, List.replicate, Ret.close]; done) | (simp [run, prog, callFn, enter, List.replicate]; rfl)
theorem at_mapped (n : Nat) (x0 : Val) (x1 : Val) : run prog (n + 1) 24 [x0, x1] = Ret.close 0 (evalS [] (run prog n) b_mapped [some x0, some x1] []) := by first | rfl | (simp [run, prog, callFn, enter, List.replicate, Ret.close]; done) | (simp [run, prog, callFn, enter, List.replicate]; rfl)
theorem at_free_rooms (n : Nat) (x0 : Val) (x1 : Val) : run prog (n + 1) 25 [x0, x1] = Ret.close 0 (evalS [] (run prog n) b_free_rooms [some x0, some x1, none, none, none] []) := by first | rfl | (simp [run, prog, callFn, enter, List.replicate, Ret.close]; done) | (simp [run, prog, callFn, enter, List.replicate]; rfl)
theorem at_room_by (n : Nat) (x0 : Val) (x1 : Val) (x2 : Val) : run prog (n + 1) 26 [x0, x1, x2] = Ret.close 0 (evalS [] (run prog n) b_room_by [some x0, some x1, some x2, none] []) := by first | rfl | (simp [run, prog, callFn, enter, List.replicate, Ret.close]; done) | (simp [run, prog, callFn, enter, List.replicate]; rfl)
theorem at_room_for (n : Nat) (x0 : Val) (x1 : Val) (x2 : Val) : run prog (n + 1) 27 [x0, x1, x2] = Ret.close 0 (evalS [] (run prog n) b_room_for [some x0, some x1, some x2] []) := by first | rfl | (simp [run, prog, callFn, enter, List.replicate, Ret.close]; done) | (simp [run, prog, callFn, enter, List.replicate]; rfl)
theorem at__law_all_right (n : Nat) (x0 : Val) (x1 : Val) (x2 : Val) : run prog (n + 1) 28 [x0, x1, x2] = Ret.close 0 (evalS [] (run prog n) b__law_all_right [some x0, some x1, some x2, none, none] []) := by first | rfl | (simp [run, prog, callFn, enter, List.replicate, Ret.close]; done) | (simp [run, prog, callFn, enter, List.replicate]; rfl)
theorem at_law (n : Nat) (x0 : Val) : run prog (n + 1) 29 [x0] = Ret.close 0 (evalS [] (run prog n) b_law [some x0, none, none, none, none, none] []) := by first | rfl | (simp [run, prog, callFn, enter, List.replicate, Ret.close]; done) | (simp [run, prog, callFn, enter, List.replicate]; rfl)
/-! what all laws share: the purse, a draw, rooms apart -/
theorem take (n : Nat) {a c m : Int} (h1 : 0 < m) (h2 : m < 1073741824) : run prog (n + 1) 1 [.lst [.int a, .int c], .int m] = .ret ⟨.int (tkR a c m), false, [[.int (tkA a c m), .int (tkC a c m)]]⟩ := by
  rw [at__law_take]
  by_cases hc : c = 0
  · subst hc
    simp -dsimp -implicitDefEqProofs (disch := (first | assumption | omega | (simp -implicitDefEqProofs only [nl_nil, nl_int, nl_bl, nl_non, nl_str, nl_tup, nl_lst, nl_app, nl_ints, nl_rooms, nl_eR, nl_parts, nl_rev, Bool.and_self, List.length_cons, List.length_nil, List.length_map, List.length_append, List.length_replicate]; done) | (simp -implicitDefEqProofs only [nl_nil, nl_int, nl_bl, nl_non, nl_str, nl_tup, nl_lst, nl_app, nl_ints, nl_rooms, nl_eR, nl_parts, nl_rev, Bool.and_self, List.length_cons, List.length_nil, List.length_map, List.length_append, List.length_replicate]; omega) | (simp -implicitDefEqProofs; done) | (simp -implicitDefEqProofs; omega))) only [E_k, E_d0, E_var, E_bin, E_neg, E_cmp, E_cmp2, E_and, E_or, E_not, E_ite, E_tup, E_idx, E_slc, E_call, E_callk, E_b1, E_b2, E_isi, E_pop, E_inl, E_mk, E_trep, E_trev, E_mink, E_mind, T_and, T_or, T_not, T_cmp, T_cmp2, T_tr, A_nil, A_cons, O_no, O_part, F_disp, F_comp, F_cat, F_rep, F_slc, F_list, F_sort, F_call, C_nil, C_cons, I_rng1, I_rng2, I_rng3, I_enum, I_zip, I_seq, I_rev, S_nil, S_cons, S_pass, S_set, S_setT, S_par, S_aug, S_expr, S_ret, S_retN, S_ite, S_for, S_while, S_app, S_setI, S_setS, S_ins, S_rem, S_brk, S_cont, change_some, change_none, Res.bnd_ok, Res.bnd_exc, Res.bnd_bad, Res.cnd_true, Res.cnd_false, Res.ofO_some, Res.ofO_none, Res.andB_true, Res.andB_false, Res.andB_ok, Res.orB_true, Res.orB_false, Res.orB_ok, Res.andT_true, Res.andT_false, Res.andT_ok, Res.orT_true, Res.orT_false, Res.orT_ok, SRes.sq_nx, SRes.sq_rt, SRes.sq_bk, SRes.sq_ct, SRes.sq_exc, SRes.sq_bad, Res.st_ok, Res.st_exc, Res.st_bad, SRes.cnd_true, SRes.cnd_false, Ret.close_rt, Ret.close_nx, lk_0, lk_s, List.set_cons_zero, List.set_cons_succ, List.getElem?_cons_zero, List.getElem?_cons_succ, List.length_cons, List.length_nil, List.length_map, List.length_append, List.nil_append, List.cons_append, Nat.zero_add, Nat.reduceAdd, Nat.add_zero, v_add, v_sub, v_mul, v_fdiv, v_mod, v_shl, v_pow, v_shr, v_bxor, v_cat, v_neg, v_bool, v_int, v_tup, v_loc, v_aug_add, v_own, c_eq, c_ne, c_lt, c_le, c_gt, c_ge, c_isn_non, c_isn_int, c_isn_tup, c_isn_lst, c_isnn_non, c_isnn_int, c_isnn_tup, c_isnn_lst, c_ist, c_isnt, c_eqB, c_neB, mem_tupI, mem_lstI, nmem_tupI, t_bl, t_int, t_non, t_tup, t_lst, q_tup, q_lst, q_scr, q_loc, lv_lst, lv_loc, sv_scr, sv_lst, sv_loc, ix_v, at_0, at_1, at_2, b_len, b_intB, b_int, b_boolB, b_tupT, b_tupL, b_tup_loc, b_allV, b_anyV, b_anyT, any_bm, any_im, any_b0, any_bc, any_ints, Option.some_or, bo_nil, bo_cons, bools_map, all_mapid, any_mapid, List.all_cons, List.all_nil, List.any_cons, List.any_nil, id, b_sum, b_max, b_min, b_divmod, few_ok, catL_ok, trep_ok, rep_ok, ty_non, ty_bl, ty_int, ty_str, ty_tup, ty_lst, ty_dct, ii_ii, ii_bi, ii_si, ii_ti, ii_li, ii_ni, ii_di, ii_ib, ii_bb, ii_sb, ii_tb, ii_lb, ii_nb, ii_db, ii_it, ii_bt, ii_st, ii_tt, ii_lt, ii_nt, ii_dt, bt_n, bt_t, bt_l, bs_nil, bs_cons, wipe_nil, wipe_cons, sa_nil, sa_cons, Option.bind_some, Option.bind_none, Option.map_some, Option.map_none, r_non, r_bl, r_int, r_str, r_tup, r_lst, r_scr, r_loc, ho_nil, ho_e, ho_f, ho_t, do_call, ioAt, roAt, fin_0, fin_1, fin_rob, fin_roi, fin_ron, fin_ro, fin_1r, lv_non, lv_bl, lv_int, lv_str, lv_tup, lv_lst', lv_loc', to_0, to_1, to_2, leave_eq, nl_nil, nl_int, nl_bl, nl_non, nl_str, nl_tup, nl_lst, nl_app, nl_ints, nl_rooms, nl_eR, nl_rev, ro_eR, ro_eRf, r_eR, q_eR, c_eqR, c_eqRL, c_eqRT, Bool.and_self, Bool.and_true, Bool.true_and, Bool.and_false, Bool.false_and, Bool.or_false, Bool.false_or, Bool.or_true, Bool.true_or, Bool.not_true, Bool.not_false, decide_true, decide_false, Int.cast_ofNat_Int, Int.natCast_add, Int.cast_ofNat_Int, lob_l, gu_ok, app_eq, app_ok, ins_eq, ins_ok, rem_eq, rem_ok, mem_loc, memG_rooms, c_neR, setI_eq, setI_ok, setS_eq, setS_ok, pop_eq, pop_ok, pop_1, Function.comp_apply, Int.reduceToNat, Int.reducePow, Int.reduceNeg, Int.reduceAdd, Int.reduceSub, Int.reduceMul, Int.reduceLT, Int.reduceLE, Int.reduceEq, Nat.reduceSub, Nat.reduceMul, Nat.reducePow, locksOf, st_nil, st_refl, bt_eR, ne_nil, neG_rooms, neG_rooms1, neG_nil, List.map_append, List.map_cons, List.map_nil, argsK, arrange, and_self, if_true, if_false, Bool.false_eq_true, List.map_reverse, rep1, nl_rep, pw_fold, hp_get, hp_set, rng1_ok, b__law_take]
    simp [tkR, tkA, tkC]
  · have e : decide (c = 0) = false := decide_eq_false hc
    simp -dsimp -implicitDefEqProofs (disch := (first | assumption | omega | (simp -implicitDefEqProofs only [nl_nil, nl_int, nl_bl, nl_non, nl_str, nl_tup, nl_lst, nl_app, nl_ints, nl_rooms, nl_eR, nl_parts, nl_rev, Bool.and_self, List.length_cons, List.length_nil, List.length_map, List.length_append, List.length_replicate]; done) | (simp -implicitDefEqProofs only [nl_nil, nl_int, nl_bl, nl_non, nl_str, nl_tup, nl_lst, nl_app, nl_ints, nl_rooms, nl_eR, nl_parts, nl_rev, Bool.and_self, List.length_cons, List.length_nil, List.length_map, List.length_append, List.length_replicate]; omega) | (simp -implicitDefEqProofs; done) | (simp -implicitDefEqProofs; omega))) only [E_k, E_d0, E_var, E_bin, E_neg, E_cmp, E_cmp2, E_and, E_or, E_not, E_ite, E_tup, E_idx, E_slc, E_call, E_callk, E_b1, E_b2, E_isi, E_pop, E_inl, E_mk, E_trep, E_trev, E_mink, E_mind, T_and, T_or, T_not, T_cmp, T_cmp2, T_tr, A_nil, A_cons, O_no, O_part, F_disp, F_comp, F_cat, F_rep, F_slc, F_list, F_sort, F_call, C_nil, C_cons, I_rng1, I_rng2, I_rng3, I_enum, I_zip, I_seq, I_rev, S_nil, S_cons, S_pass, S_set, S_setT, S_par, S_aug, S_expr, S_ret, S_retN, S_ite, S_for, S_while, S_app, S_setI, S_setS, S_ins, S_rem, S_brk, S_cont, change_some, change_none, Res.bnd_ok, Res.bnd_exc, Res.bnd_bad, Res.cnd_true, Res.cnd_false, Res.ofO_some, Res.ofO_none, Res.andB_true, Res.andB_false, Res.andB_ok, Res.orB_true, Res.orB_false, Res.orB_ok, Res.andT_true, Res.andT_false, Res.andT_ok, Res.orT_true, Res.orT_false, Res.orT_ok, SRes.sq_nx, SRes.sq_rt, SRes.sq_bk, SRes.sq_ct, SRes.sq_exc, SRes.sq_bad, Res.st_ok, Res.st_exc, Res.st_bad, SRes.cnd_true, SRes.cnd_false, Ret.close_rt, Ret.close_nx, lk_0, lk_s, List.set_cons_zero, List.set_cons_succ, List.getElem?_cons_zero, List.getElem?_cons_succ, List.length_cons, List.length_nil, List.length_map, List.length_append, List.nil_append, List.cons_append, Nat.zero_add, Nat.reduceAdd, Nat.add_zero, v_add, v_sub, v_mul, v_fdiv, v_mod, v_shl, v_pow, v_shr, v_bxor, v_cat, v_neg, v_bool, v_int, v_tup, v_loc, v_aug_add, v_own, c_eq, c_ne, c_lt, c_le, c_gt, c_ge, c_isn_non, c_isn_int, c_isn_tup, c_isn_lst, c_isnn_non, c_isnn_int, c_isnn_tup, c_isnn_lst, c_ist, c_isnt, c_eqB, c_neB, mem_tupI, mem_lstI, nmem_tupI, t_bl, t_int, t_non, t_tup, t_lst, q_tup, q_lst, q_scr, q_loc, lv_lst, lv_loc, sv_scr, sv_lst, sv_loc, ix_v, at_0, at_1, at_2, b_len, b_intB, b_int, b_boolB, b_tupT, b_tupL, b_tup_loc, b_allV, b_anyV, b_anyT, any_bm, any_im, any_b0, any_bc, any_ints, Option.some_or, bo_nil, bo_cons, bools_map, all_mapid, any_mapid, List.all_cons, List.all_nil, List.any_cons, List.any_nil, id, b_sum, b_max, b_min, b_divmod, few_ok, catL_ok, trep_ok, rep_ok, ty_non, ty_bl, ty_int, ty_str, ty_tup, ty_lst, ty_dct, ii_ii, ii_bi, ii_si, ii_ti, ii_li, ii_ni, ii_di, ii_ib, ii_bb, ii_sb, ii_tb, ii_lb, ii_nb, ii_db, ii_it, ii_bt, ii_st, ii_tt, ii_lt, ii_nt, ii_dt, bt_n, bt_t, bt_l, bs_nil, bs_cons, wipe_nil, wipe_cons, sa_nil, sa_cons, Option.bind_some, Option.bind_none, Option.map_some, Option.map_none, r_non, r_bl, r_int, r_str, r_tup, r_lst, r_scr, r_loc, ho_nil, ho_e, ho_f, ho_t, do_call, ioAt, roAt, fin_0, fin_1, fin_rob, fin_roi, fin_ron, fin_ro, fin_1r, lv_non, lv_bl, lv_int, lv_str, lv_tup, lv_lst', lv_loc', to_0, to_1, to_2, leave_eq, nl_nil, nl_int, nl_bl, nl_non, nl_str, nl_tup, nl_lst, nl_app, nl_ints, nl_rooms, nl_eR, nl_rev, ro_eR, ro_eRf, r_eR, q_eR, c_eqR, c_eqRL, c_eqRT, Bool.and_self, Bool.and_true, Bool.true_and, Bool.and_false, Bool.false_and, Bool.or_false, Bool.false_or, Bool.or_true, Bool.true_or, Bool.not_true, Bool.not_false, decide_true, decide_false, Int.cast_ofNat_Int, Int.natCast_add, Int.cast_ofNat_Int, lob_l, gu_ok, app_eq, app_ok, ins_eq, ins_ok, rem_eq, rem_ok, mem_loc, memG_rooms, c_neR, setI_eq, setI_ok, setS_eq, setS_ok, pop_eq, pop_ok, pop_1, Function.comp_apply, Int.reduceToNat, Int.reducePow, Int.reduceNeg, Int.reduceAdd, Int.reduceSub, Int.reduceMul, Int.reduceLT, Int.reduceLE, Int.reduceEq, Nat.reduceSub, Nat.reduceMul, Nat.reducePow, locksOf, st_nil, st_refl, bt_eR, ne_nil, neG_rooms, neG_rooms1, neG_nil, List.map_append, List.map_cons, List.map_nil, argsK, arrange, and_self, if_true, if_false, Bool.false_eq_true, List.map_reverse, rep1, nl_rep, pw_fold, hp_get, hp_set, rng1_ok, b__law_take, e]
    simp [tkR, tkA, tkC, hc]
theorem purse (n : Nat) {ns : List Int} (hn : ns.length ≤ 63) {k : Int} (h0 : 0 ≤ k) (h1 : k ≤ 63) : ∃ a c, run prog (n + 1) 0 [.scr (ns.map .int), .int k] = .ret ⟨.lst [.int a, .int c], true, []⟩ := by
  obtain ⟨x, r, e⟩ := cut_one (ns := ns) h0
  have hl : (cut (ns.map Val.int) (some k) (some (k + 1))).length ≤ 63 := by have := cut_len (l := ns.map Val.int) (a := some k) (b := some (k + 1)); rw [List.length_map] at this; omega
  rw [at__law_purse]
  by_cases hc : (decide (1000000000000000000 ≤ x) || decide (x < 0)) = true
  · refine ⟨max x (-1 - x), 0, ?_⟩
    simp -dsimp -implicitDefEqProofs (disch := (first | assumption | omega | (simp -implicitDefEqProofs only [nl_nil, nl_int, nl_bl, nl_non, nl_str, nl_tup, nl_lst, nl_app, nl_ints, nl_rooms, nl_eR, nl_parts, nl_rev, Bool.and_self, List.length_cons, List.length_nil, List.length_map, List.length_append, List.length_replicate]; done) | (simp -implicitDefEqProofs only [nl_nil, nl_int, nl_bl, nl_non, nl_str, nl_tup, nl_lst, nl_app, nl_ints, nl_rooms, nl_eR, nl_parts, nl_rev, Bool.and_self, List.length_cons, List.length_nil, List.length_map, List.length_append, List.length_replicate]; omega) | (simp -implicitDefEqProofs; done) | (simp -implicitDefEqProofs; omega))) only [E_k, E_d0, E_var, E_bin, E_neg, E_cmp, E_cmp2, E_and, E_or, E_not, E_ite, E_tup, E_idx, E_slc, E_call, E_callk, E_b1, E_b2, E_isi, E_pop, E_inl, E_mk, E_trep, E_trev, E_mink, E_mind, T_and, T_or, T_not, T_cmp, T_cmp2, T_tr, A_nil, A_cons, O_no, O_part, F_disp, F_comp, F_cat, F_rep, F_slc, F_list, F_sort, F_call, C_nil, C_cons, I_rng1, I_rng2, I_rng3, I_enum, I_zip, I_seq, I_rev, S_nil, S_cons, S_pass, S_set, S_setT, S_par, S_aug, S_expr, S_ret, S_retN, S_ite, S_for, S_while, S_app, S_setI, S_setS, S_ins, S_rem, S_brk, S_cont, change_some, change_none, Res.bnd_ok, Res.bnd_exc, Res.bnd_bad, Res.cnd_true, Res.cnd_false, Res.ofO_some, Res.ofO_none, Res.andB_true, Res.andB_false, Res.andB_ok, Res.orB_true, Res.orB_false, Res.orB_ok, Res.andT_true, Res.andT_false, Res.andT_ok, Res.orT_true, Res.orT_false, Res.orT_ok, SRes.sq_nx, SRes.sq_rt, SRes.sq_bk, SRes.sq_ct, SRes.sq_exc, SRes.sq_bad, Res.st_ok, Res.st_exc, Res.st_bad, SRes.cnd_true, SRes.cnd_false, Ret.close_rt, Ret.close_nx, lk_0, lk_s, List.set_cons_zero, List.set_cons_succ, List.getElem?_cons_zero, List.getElem?_cons_succ, List.length_cons, List.length_nil, List.length_map, List.length_append, List.nil_append, List.cons_append, Nat.zero_add, Nat.reduceAdd, Nat.add_zero, v_add, v_sub, v_mul, v_fdiv, v_mod, v_shl, v_pow, v_shr, v_bxor, v_cat, v_neg, v_bool, v_int, v_tup, v_loc, v_aug_add, v_own, c_eq, c_ne, c_lt, c_le, c_gt, c_ge, c_isn_non, c_isn_int, c_isn_tup, c_isn_lst, c_isnn_non, c_isnn_int, c_isnn_tup, c_isnn_lst, c_ist, c_isnt, c_eqB, c_neB, mem_tupI, mem_lstI, nmem_tupI, t_bl, t_int, t_non, t_tup, t_lst, q_tup, q_lst, q_scr, q_loc, lv_lst, lv_loc, sv_scr, sv_lst, sv_loc, ix_v, at_0, at_1, at_2, b_len, b_intB, b_int, b_boolB, b_tupT, b_tupL, b_tup_loc, b_allV, b_anyV, b_anyT, any_bm, any_im, any_b0, any_bc, any_ints, Option.some_or, bo_nil, bo_cons, bools_map, all_mapid, any_mapid, List.all_cons, List.all_nil, List.any_cons, List.any_nil, id, b_sum, b_max, b_min, b_divmod, few_ok, catL_ok, trep_ok, rep_ok, ty_non, ty_bl, ty_int, ty_str, ty_tup, ty_lst, ty_dct, ii_ii, ii_bi, ii_si, ii_ti, ii_li, ii_ni, ii_di, ii_ib, ii_bb, ii_sb, ii_tb, ii_lb, ii_nb, ii_db, ii_it, ii_bt, ii_st, ii_tt, ii_lt, ii_nt, ii_dt, bt_n, bt_t, bt_l, bs_nil, bs_cons, wipe_nil, wipe_cons, sa_nil, sa_cons, Option.bind_some, Option.bind_none, Option.map_some, Option.map_none, r_non, r_bl, r_int, r_str, r_tup, r_lst, r_scr, r_loc, ho_nil, ho_e, ho_f, ho_t, do_call, ioAt, roAt, fin_0, fin_1, fin_rob, fin_roi, fin_ron, fin_ro, fin_1r, lv_non, lv_bl, lv_int, lv_str, lv_tup, lv_lst', lv_loc', to_0, to_1, to_2, leave_eq, nl_nil, nl_int, nl_bl, nl_non, nl_str, nl_tup, nl_lst, nl_app, nl_ints, nl_rooms, nl_eR, nl_rev, ro_eR, ro_eRf, r_eR, q_eR, c_eqR, c_eqRL, c_eqRT, Bool.and_self, Bool.and_true, Bool.true_and, Bool.and_false, Bool.false_and, Bool.or_false, Bool.false_or, Bool.or_true, Bool.true_or, Bool.not_true, Bool.not_false, decide_true, decide_false, Int.cast_ofNat_Int, Int.natCast_add, Int.cast_ofNat_Int, lob_l, gu_ok, app_eq, app_ok, ins_eq, ins_ok, rem_eq, rem_ok, mem_loc, memG_rooms, c_neR, setI_eq, setI_ok, setS_eq, setS_ok, pop_eq, pop_ok, pop_1, Function.comp_apply, Int.reduceToNat, Int.reducePow, Int.reduceNeg, Int.reduceAdd, Int.reduceSub, Int.reduceMul, Int.reduceLT, Int.reduceLE, Int.reduceEq, Nat.reduceSub, Nat.reduceMul, Nat.reducePow, locksOf, st_nil, st_refl, bt_eR, ne_nil, neG_rooms, neG_rooms1, neG_nil, List.map_append, List.map_cons, List.map_nil, argsK, arrange, and_self, if_true, if_false, Bool.false_eq_true, List.map_reverse, rep1, nl_rep, pw_fold, hp_get, hp_set, rng1_ok, b__law_purse, e, hc]
  · have hc : (decide (1000000000000000000 ≤ x) || decide (x < 0)) = false := by simpa using hc
    refine ⟨0, 1 + (x * 48271 + (k + 1) * 69621 * (k + 7)) % 2147483629, ?_⟩
    simp -dsimp -implicitDefEqProofs (disch := (first | assumption | omega | (simp -implicitDefEqProofs only [nl_nil, nl_int, nl_bl, nl_non, nl_str, nl_tup, nl_lst, nl_app, nl_ints, nl_rooms, nl_eR, nl_parts, nl_rev, Bool.and_self, List.length_cons, List.length_nil, List.length_map, List.length_append, List.length_replicate]; done) | (simp -implicitDefEqProofs only [nl_nil, nl_int, nl_bl, nl_non, nl_str, nl_tup, nl_lst, nl_app, nl_ints, nl_rooms, nl_eR, nl_parts, nl_rev, Bool.and_self, List.length_cons, List.length_nil, List.length_map, List.length_append, List.length_replicate]; omega) | (simp -implicitDefEqProofs; done) | (simp -implicitDefEqProofs; omega))) only [E_k, E_d0, E_var, E_bin, E_neg, E_cmp, E_cmp2, E_and, E_or, E_not, E_ite, E_tup, E_idx, E_slc, E_call, E_callk, E_b1, E_b2, E_isi, E_pop, E_inl, E_mk, E_trep, E_trev, E_mink, E_mind, T_and, T_or, T_not, T_cmp, T_cmp2, T_tr, A_nil, A_cons, O_no, O_part, F_disp, F_comp, F_cat, F_rep, F_slc, F_list, F_sort, F_call, C_nil, C_cons, I_rng1, I_rng2, I_rng3, I_enum, I_zip, I_seq, I_rev, S_nil, S_cons, S_pass, S_set, S_setT, S_par, S_aug, S_expr, S_ret, S_retN, S_ite, S_for, S_while, S_app, S_setI, S_setS, S_ins, S_rem, S_brk, S_cont, change_some, change_none, Res.bnd_ok, Res.bnd_exc, Res.bnd_bad, Res.cnd_true, Res.cnd_false, Res.ofO_some, Res.ofO_none, Res.andB_true, Res.andB_false, Res.andB_ok, Res.orB_true, Res.orB_false, Res.orB_ok, Res.andT_true, Res.andT_false, Res.andT_ok, Res.orT_true, Res.orT_false, Res.orT_ok, SRes.sq_nx, SRes.sq_rt, SRes.sq_bk, SRes.sq_ct, SRes.sq_exc, SRes.sq_bad, Res.st_ok, Res.st_exc, Res.st_bad, SRes.cnd_true, SRes.cnd_false, Ret.close_rt, Ret.close_nx, lk_0, lk_s, List.set_cons_zero, List.set_cons_succ, List.getElem?_cons_zero, List.getElem?_cons_succ, List.length_cons, List.length_nil, List.length_map, List.length_append, List.nil_append, List.cons_append, Nat.zero_add, Nat.reduceAdd, Nat.add_zero, v_add, v_sub, v_mul, v_fdiv, v_mod, v_shl, v_pow, v_shr, v_bxor, v_cat, v_neg, v_bool, v_int, v_tup, v_loc, v_aug_add, v_own, c_eq, c_ne, c_lt, c_le, c_gt, c_ge, c_isn_non, c_isn_int, c_isn_tup, c_isn_lst, c_isnn_non, c_isnn_int, c_isnn_tup, c_isnn_lst, c_ist, c_isnt, c_eqB, c_neB, mem_tupI, mem_lstI, nmem_tupI, t_bl, t_int, t_non, t_tup, t_lst, q_tup, q_lst, q_scr, q_loc, lv_lst, lv_loc, sv_scr, sv_lst, sv_loc, ix_v, at_0, at_1, at_2, b_len, b_intB, b_int, b_boolB, b_tupT, b_tupL, b_tup_loc, b_allV, b_anyV, b_anyT, any_bm, any_im, any_b0, any_bc, any_ints, Option.some_or, bo_nil, bo_cons, bools_map, all_mapid, any_mapid, List.all_cons, List.all_nil, List.any_cons, List.any_nil, id, b_sum, b_max, b_min, b_divmod, few_ok, catL_ok, trep_ok, rep_ok, ty_non, ty_bl, ty_int, ty_str, ty_tup, ty_lst, ty_dct, ii_ii, ii_bi, ii_si, ii_ti, ii_li, ii_ni, ii_di, ii_ib, ii_bb, ii_sb, ii_tb, ii_lb, ii_nb, ii_db, ii_it, ii_bt, ii_st, ii_tt, ii_lt, ii_nt, ii_dt, bt_n, bt_t, bt_l, bs_nil, bs_cons, wipe_nil, wipe_cons, sa_nil, sa_cons, Option.bind_some, Option.bind_none, Option.map_some, Option.map_none, r_non, r_bl, r_int, r_str, r_tup, r_lst, r_scr, r_loc, ho_nil, ho_e, ho_f, ho_t, do_call, ioAt, roAt, fin_0, fin_1, fin_rob, fin_roi, fin_ron, fin_ro, fin_1r, lv_non, lv_bl, lv_int, lv_str, lv_tup, lv_lst', lv_loc', to_0, to_1, to_2, leave_eq, nl_nil, nl_int, nl_bl, nl_non, nl_str, nl_tup, nl_lst, nl_app, nl_ints, nl_rooms, nl_eR, nl_rev, ro_eR, ro_eRf, r_eR, q_eR, c_eqR, c_eqRL, c_eqRT, Bool.and_self, Bool.and_true, Bool.true_and, Bool.and_false, Bool.false_and, Bool.or_false, Bool.false_or, Bool.or_true, Bool.true_or, Bool.not_true, Bool.not_false, decide_true, decide_false, Int.cast_ofNat_Int, Int.natCast_add, Int.cast_ofNat_Int, lob_l, gu_ok, app_eq, app_ok, ins_eq, ins_ok, rem_eq, rem_ok, mem_loc, memG_rooms, c_neR, setI_eq, setI_ok, setS_eq, setS_ok, pop_eq, pop_ok, pop_1, Function.comp_apply, Int.reduceToNat, Int.reducePow, Int.reduceNeg, Int.reduceAdd, Int.reduceSub, Int.reduceMul, Int.reduceLT, Int.reduceLE, Int.reduceEq, Nat.reduceSub, Nat.reduceMul, Nat.reducePow, locksOf, st_nil, st_refl, bt_eR, ne_nil, neG_rooms, neG_rooms1, neG_nil, List.map_append, List.map_cons, List.map_nil, argsK, arrange, and_self, if_true, if_false, Bool.false_eq_true, List.map_reverse, rep1, nl_rep, pw_fold, hp_get, hp_set, rng1_ok, b__law_purse, e, hc]
/-- rooms apart, whatever is drawn -/
theorem rooms_turn (n : Nat) {t a c : Int} (ht : Tall t) {L F : List Room} (hv : ∀ r ∈ L ++ F, Valid t r) (hd : (L ++ F).Pairwise Disj) (hs : ((L ++ F).map (·.2)).sum ≤ pw t) (x4 x5 x6 x7 : Option Val) :
    ∃ (a' c' : Int) (L' F' : List Room) (y5 y6 y7 : Option Val), evalS [] (run prog (n + 1)) l__law_rooms_0 [some (.loc 0), some (.int t), some (.loc 1), some (.loc 2), x4, x5, x6, x7] [.list [.int a, .int c], .list (L.map eR), .list (F.map eR)] =
      .ok (.nx [some (.loc 0), some (.int t), some (.loc 1), some (.loc 2), x4, y5, y6, y7]) [.list [.int a', .int c'], .list (L'.map eR), .list (F'.map eR)] ∧ (∀ r ∈ L' ++ F', Valid t r) ∧ (L' ++ F').Pairwise Disj ∧ ((L' ++ F').map (·.2)).sum ≤ pw t := by
  have hpw := pw_bd ht
  have hlen := len_of_sum ht hv
  rw [List.length_append] at hlen
  rcases List.eq_nil_or_concat L with rfl | ⟨M, b, rfl⟩
  · refine ⟨a, c, [], F, x5, x6, x7, ?_, hv, hd, hs⟩
    simp -dsimp -implicitDefEqProofs (disch := (first | assumption | omega | (simp -implicitDefEqProofs only [nl_nil, nl_int, nl_bl, nl_non, nl_str, nl_tup, nl_lst, nl_app, nl_ints, nl_rooms, nl_eR, nl_parts, nl_rev, Bool.and_self, List.length_cons, List.length_nil, List.length_map, List.length_append, List.length_replicate]; done) | (simp -implicitDefEqProofs only [nl_nil, nl_int, nl_bl, nl_non, nl_str, nl_tup, nl_lst, nl_app, nl_ints, nl_rooms, nl_eR, nl_parts, nl_rev, Bool.and_self, List.length_cons, List.length_nil, List.length_map, List.length_append, List.length_replicate]; omega) | (simp -implicitDefEqProofs; done) | (simp -implicitDefEqProofs; omega))) only [E_k, E_d0, E_var, E_bin, E_neg, E_cmp, E_cmp2, E_and, E_or, E_not, E_ite, E_tup, E_idx, E_slc, E_call, E_callk, E_b1, E_b2, E_isi, E_pop, E_inl, E_mk, E_trep, E_trev, E_mink, E_mind, T_and, T_or, T_not, T_cmp, T_cmp2, T_tr, A_nil, A_cons, O_no, O_part, F_disp, F_comp, F_cat, F_rep, F_slc, F_list, F_sort, F_call, C_nil, C_cons, I_rng1, I_rng2, I_rng3, I_enum, I_zip, I_seq, I_rev, S_nil, S_cons, S_pass, S_set, S_setT, S_par, S_aug, S_expr, S_ret, S_retN, S_ite, S_for, S_while, S_app, S_setI, S_setS, S_ins, S_rem, S_brk, S_cont, change_some, change_none, Res.bnd_ok, Res.bnd_exc, Res.bnd_bad, Res.cnd_true, Res.cnd_false, Res.ofO_some, Res.ofO_none, Res.andB_true, Res.andB_false, Res.andB_ok, Res.orB_true, Res.orB_false, Res.orB_ok, Res.andT_true, Res.andT_false, Res.andT_ok, Res.orT_true, Res.orT_false, Res.orT_ok, SRes.sq_nx, SRes.sq_rt, SRes.sq_bk, SRes.sq_ct, SRes.sq_exc, SRes.sq_bad, Res.st_ok, Res.st_exc, Res.st_bad, SRes.cnd_true, SRes.cnd_false, Ret.close_rt, Ret.close_nx, lk_0, lk_s, List.set_cons_zero, List.set_cons_succ, List.getElem?_cons_zero, List.getElem?_cons_succ, List.length_cons, List.length_nil, List.length_map, List.length_append, List.nil_append, List.cons_append, Nat.zero_add, Nat.reduceAdd, Nat.add_zero, v_add, v_sub, v_mul, v_fdiv, v_mod, v_shl, v_pow, v_shr, v_bxor, v_cat, v_neg, v_bool, v_int, v_tup, v_loc, v_aug_add, v_own, c_eq, c_ne, c_lt, c_le, c_gt, c_ge, c_isn_non, c_isn_int, c_isn_tup, c_isn_lst, c_isnn_non, c_isnn_int, c_isnn_tup, c_isnn_lst, c_ist, c_isnt, c_eqB, c_neB, mem_tupI, mem_lstI, nmem_tupI, t_bl, t_int, t_non, t_tup, t_lst, q_tup, q_lst, q_scr, q_loc, lv_lst, lv_loc, sv_scr, sv_lst, sv_loc, ix_v, at_0, at_1, at_2, b_len, b_intB, b_int, b_boolB, b_tupT, b_tupL, b_tup_loc, b_allV, b_anyV, b_anyT, any_bm, any_im, any_b0, any_bc, any_ints, Option.some_or, bo_nil, bo_cons, bools_map, all_mapid, any_mapid, List.all_cons, List.all_nil, List.any_cons, List.any_nil, id, b_sum, b_max, b_min, b_divmod, few_ok, catL_ok, trep_ok, rep_ok, ty_non, ty_bl, ty_int, ty_str, ty_tup, ty_lst, ty_dct, ii_ii, ii_bi, ii_si, ii_ti, ii_li, ii_ni, ii_di, ii_ib, ii_bb, ii_sb, ii_tb, ii_lb, ii_nb, ii_db, ii_it, ii_bt, ii_st, ii_tt, ii_lt, ii_nt, ii_dt, bt_n, bt_t, bt_l, bs_nil, bs_cons, wipe_nil, wipe_cons, sa_nil, sa_cons, Option.bind_some, Option.bind_none, Option.map_some, Option.map_none, r_non, r_bl, r_int, r_str, r_tup, r_lst, r_scr, r_loc, ho_nil, ho_e, ho_f, ho_t, do_call, ioAt, roAt, fin_0, fin_1, fin_rob, fin_roi, fin_ron, fin_ro, fin_1r, lv_non, lv_bl, lv_int, lv_str, lv_tup, lv_lst', lv_loc', to_0, to_1, to_2, leave_eq, nl_nil, nl_int, nl_bl, nl_non, nl_str, nl_tup, nl_lst, nl_app, nl_ints, nl_rooms, nl_eR, nl_rev, ro_eR, ro_eRf, r_eR, q_eR, c_eqR, c_eqRL, c_eqRT, Bool.and_self, Bool.and_true, Bool.true_and, Bool.and_false, Bool.false_and, Bool.or_false, Bool.false_or, Bool.or_true, Bool.true_or, Bool.not_true, Bool.not_false, decide_true, decide_false, Int.cast_ofNat_Int, Int.natCast_add, Int.cast_ofNat_Int, lob_l, gu_ok, app_eq, app_ok, ins_eq, ins_ok, rem_eq, rem_ok, mem_loc, memG_rooms, c_neR, setI_eq, setI_ok, setS_eq, setS_ok, pop_eq, pop_ok, pop_1, Function.comp_apply, Int.reduceToNat, Int.reducePow, Int.reduceNeg, Int.reduceAdd, Int.reduceSub, Int.reduceMul, Int.reduceLT, Int.reduceLE, Int.reduceEq, Nat.reduceSub, Nat.reduceMul, Nat.reducePow, locksOf, st_nil, st_refl, bt_eR, ne_nil, neG_rooms, neG_rooms1, neG_nil, List.map_append, List.map_cons, List.map_nil, argsK, arrange, and_self, if_true, if_false, Bool.false_eq_true, List.map_reverse, rep1, nl_rep, pw_fold, hp_get, hp_set, rng1_ok, l__law_rooms_0]
  · simp only [List.concat_eq_append] at *
    rw [List.length_append, List.length_singleton] at hlen
    have vb := hv b (by simp)
    have bb := vb.bd ht
    have hw := tk_bd (a := a) (c := c) (m := 5) (by omega)
    have lm : M.length ≤ 40 := by omega
    have lf : F.length ≤ 40 := by omega
    have perm : (M ++ [b] ++ F).Perm (M ++ (F ++ [b])) := by
      rw [List.append_assoc]
      exact (List.perm_append_comm).append_left M
    have sub : (M ++ F).Sublist (M ++ [b] ++ F) := by
      rw [List.append_assoc]
      exact (List.Sublist.refl M).append (List.sublist_append_right _ _)
    by_cases h0 : tkR a c 5 = 0
    · refine ⟨tkA a c 5, tkC a c 5, M, F ++ [b], some (.int b.1), some (.int b.2), some (.int (tkR a c 5)), ?_, fun r hr => hv r (perm.mem_iff.mpr hr), (perm.pairwise_iff fun h => h.symm).mp hd, ?_⟩
      · simp -dsimp -implicitDefEqProofs (disch := (first | assumption | omega | (simp -implicitDefEqProofs only [nl_nil, nl_int, nl_bl, nl_non, nl_str, nl_tup, nl_lst, nl_app, nl_ints, nl_rooms, nl_eR, nl_parts, nl_rev, Bool.and_self, List.length_cons, List.length_nil, List.length_map, List.length_append, List.length_replicate]; done) | (simp -implicitDefEqProofs only [nl_nil, nl_int, nl_bl, nl_non, nl_str, nl_tup, nl_lst, nl_app, nl_ints, nl_rooms, nl_eR, nl_parts, nl_rev, Bool.and_self, List.length_cons, List.length_nil, List.length_map, List.length_append, List.length_replicate]; omega) | (simp -implicitDefEqProofs; done) | (simp -implicitDefEqProofs; omega))) only [E_k, E_d0, E_var, E_bin, E_neg, E_cmp, E_cmp2, E_and, E_or, E_not, E_ite, E_tup, E_idx, E_slc, E_call, E_callk, E_b1, E_b2, E_isi, E_pop, E_inl, E_mk, E_trep, E_trev, E_mink, E_mind, T_and, T_or, T_not, T_cmp, T_cmp2, T_tr, A_nil, A_cons, O_no, O_part, F_disp, F_comp, F_cat, F_rep, F_slc, F_list, F_sort, F_call, C_nil, C_cons, I_rng1, I_rng2, I_rng3, I_enum, I_zip, I_seq, I_rev, S_nil, S_cons, S_pass, S_set, S_setT, S_par, S_aug, S_expr, S_ret, S_retN, S_ite, S_for, S_while, S_app, S_setI, S_setS, S_ins, S_rem, S_brk, S_cont, change_some, change_none, Res.bnd_ok, Res.bnd_exc, Res.bnd_bad, Res.cnd_true, Res.cnd_false, Res.ofO_some, Res.ofO_none, Res.andB_true, Res.andB_false, Res.andB_ok, Res.orB_true, Res.orB_false, Res.orB_ok, Res.andT_true, Res.andT_false, Res.andT_ok, Res.orT_true, Res.orT_false, Res.orT_ok, SRes.sq_nx, SRes.sq_rt, SRes.sq_bk, SRes.sq_ct, SRes.sq_exc, SRes.sq_bad, Res.st_ok, Res.st_exc, Res.st_bad, SRes.cnd_true, SRes.cnd_false, Ret.close_rt, Ret.close_nx, lk_0, lk_s, List.set_cons_zero, List.set_cons_succ, List.getElem?_cons_zero, List.getElem?_cons_succ, List.length_cons, List.length_nil, List.length_map, List.length_append, List.nil_append, List.cons_append, Nat.zero_add, Nat.reduceAdd, Nat.add_zero, v_add, v_sub, v_mul, v_fdiv, v_mod, v_shl, v_pow, v_shr, v_bxor, v_cat, v_neg, v_bool, v_int, v_tup, v_loc, v_aug_add, v_own, c_eq, c_ne, c_lt, c_le, c_gt, c_ge, c_isn_non, c_isn_int, c_isn_tup, c_isn_lst, c_isnn_non, c_isnn_int, c_isnn_tup, c_isnn_lst, c_ist, c_isnt, c_eqB, c_neB, mem_tupI, mem_lstI, nmem_tupI, t_bl, t_int, t_non, t_tup, t_lst, q_tup, q_lst, q_scr, q_loc, lv_lst, lv_loc, sv_scr, sv_lst, sv_loc, ix_v, at_0, at_1, at_2, b_len, b_intB, b_int, b_boolB, b_tupT, b_tupL, b_tup_loc, b_allV, b_anyV, b_anyT, any_bm, any_im, any_b0, any_bc, any_ints, Option.some_or, bo_nil, bo_cons, bools_map, all_mapid, any_mapid, List.all_cons, List.all_nil, List.any_cons, List.any_nil, id, b_sum, b_max, b_min, b_divmod, few_ok, catL_ok, trep_ok, rep_ok, ty_non, ty_bl, ty_int, ty_str, ty_tup, ty_lst, ty_dct, ii_ii, ii_bi, ii_si, ii_ti, ii_li, ii_ni, ii_di, ii_ib, ii_bb, ii_sb, ii_tb, ii_lb, ii_nb, ii_db, ii_it, ii_bt, ii_st, ii_tt, ii_lt, ii_nt, ii_dt, bt_n, bt_t, bt_l, bs_nil, bs_cons, wipe_nil, wipe_cons, sa_nil, sa_cons, Option.bind_some, Option.bind_none, Option.map_some, Option.map_none, r_non, r_bl, r_int, r_str, r_tup, r_lst, r_scr, r_loc, ho_nil, ho_e, ho_f, ho_t, do_call, ioAt, roAt, fin_0, fin_1, fin_rob, fin_roi, fin_ron, fin_ro, fin_1r, lv_non, lv_bl, lv_int, lv_str, lv_tup, lv_lst', lv_loc', to_0, to_1, to_2, leave_eq, nl_nil, nl_int, nl_bl, nl_non, nl_str, nl_tup, nl_lst, nl_app, nl_ints, nl_rooms, nl_eR, nl_rev, ro_eR, ro_eRf, r_eR, q_eR, c_eqR, c_eqRL, c_eqRT, Bool.and_self, Bool.and_true, Bool.true_and, Bool.and_false, Bool.false_and, Bool.or_false, Bool.false_or, Bool.or_true, Bool.true_or, Bool.not_true, Bool.not_false, decide_true, decide_false, Int.cast_ofNat_Int, Int.natCast_add, Int.cast_ofNat_Int, lob_l, gu_ok, app_eq, app_ok, ins_eq, ins_ok, rem_eq, rem_ok, mem_loc, memG_rooms, c_neR, setI_eq, setI_ok, setS_eq, setS_ok, pop_eq, pop_ok, pop_1, Function.comp_apply, Int.reduceToNat, Int.reducePow, Int.reduceNeg, Int.reduceAdd, Int.reduceSub, Int.reduceMul, Int.reduceLT, Int.reduceLE, Int.reduceEq, Nat.reduceSub, Nat.reduceMul, Nat.reducePow, locksOf, st_nil, st_refl, bt_eR, ne_nil, neG_rooms, neG_rooms1, neG_nil, List.map_append, List.map_cons, List.map_nil, argsK, arrange, and_self, if_true, if_false, Bool.false_eq_true, List.map_reverse, rep1, nl_rep, pw_fold, hp_get, hp_set, rng1_ok, l__law_rooms_0, take, h0]
        rfl
      · simp only [List.map_append, List.sum_append, List.map_cons, List.map_nil, List.sum_cons, List.sum_nil] at hs ⊢
        omega
    · by_cases h1 : tkR a c 5 = 1
      · refine ⟨tkA a c 5, tkC a c 5, M, F, some (.int b.1), some (.int b.2), some (.int (tkR a c 5)), ?_, fun r hr => hv r (sub.subset hr), hd.sublist sub, ?_⟩
        · simp -dsimp -implicitDefEqProofs (disch := (first | assumption | omega | (simp -implicitDefEqProofs only [nl_nil, nl_int, nl_bl, nl_non, nl_str, nl_tup, nl_lst, nl_app, nl_ints, nl_rooms, nl_eR, nl_parts, nl_rev, Bool.and_self, List.length_cons, List.length_nil, List.length_map, List.length_append, List.length_replicate]; done) | (simp -implicitDefEqProofs only [nl_nil, nl_int, nl_bl, nl_non, nl_str, nl_tup, nl_lst, nl_app, nl_ints, nl_rooms, nl_eR, nl_parts, nl_rev, Bool.and_self, List.length_cons, List.length_nil, List.length_map, List.length_append, List.length_replicate]; omega) | (simp -implicitDefEqProofs; done) | (simp -implicitDefEqProofs; omega))) only [E_k, E_d0, E_var, E_bin, E_neg, E_cmp, E_cmp2, E_and, E_or, E_not, E_ite, E_tup, E_idx, E_slc, E_call, E_callk, E_b1, E_b2, E_isi, E_pop, E_inl, E_mk, E_trep, E_trev, E_mink, E_mind, T_and, T_or, T_not, T_cmp, T_cmp2, T_tr, A_nil, A_cons, O_no, O_part, F_disp, F_comp, F_cat, F_rep, F_slc, F_list, F_sort, F_call, C_nil, C_cons, I_rng1, I_rng2, I_rng3, I_enum, I_zip, I_seq, I_rev, S_nil, S_cons, S_pass, S_set, S_setT, S_par, S_aug, S_expr, S_ret, S_retN, S_ite, S_for, S_while, S_app, S_setI, S_setS, S_ins, S_rem, S_brk, S_cont, change_some, change_none, Res.bnd_ok, Res.bnd_exc, Res.bnd_bad, Res.cnd_true, Res.cnd_false, Res.ofO_some, Res.ofO_none, Res.andB_true, Res.andB_false, Res.andB_ok, Res.orB_true, Res.orB_false, Res.orB_ok, Res.andT_true, Res.andT_false, Res.andT_ok, Res.orT_true, Res.orT_false, Res.orT_ok, SRes.sq_nx, SRes.sq_rt, SRes.sq_bk, SRes.sq_ct, SRes.sq_exc, SRes.sq_bad, Res.st_ok, Res.st_exc, Res.st_bad, SRes.cnd_true, SRes.cnd_false, Ret.close_rt, Ret.close_nx, lk_0, lk_s, List.set_cons_zero, List.set_cons_succ, List.getElem?_cons_zero, List.getElem?_cons_succ, List.length_cons, List.length_nil, List.length_map, List.length_append, List.nil_append, List.cons_append, Nat.zero_add, Nat.reduceAdd, Nat.add_zero, v_add, v_sub, v_mul, v_fdiv, v_mod, v_shl, v_pow, v_shr, v_bxor, v_cat, v_neg, v_bool, v_int, v_tup, v_loc, v_aug_add, v_own, c_eq, c_ne, c_lt, c_le, c_gt, c_ge, c_isn_non, c_isn_int, c_isn_tup, c_isn_lst, c_isnn_non, c_isnn_int, c_isnn_tup, c_isnn_lst, c_ist, c_isnt, c_eqB, c_neB, mem_tupI, mem_lstI, nmem_tupI, t_bl, t_int, t_non, t_tup, t_lst, q_tup, q_lst, q_scr, q_loc, lv_lst, lv_loc, sv_scr, sv_lst, sv_loc, ix_v, at_0, at_1, at_2, b_len, b_intB, b_int, b_boolB, b_tupT, b_tupL, b_tup_loc, b_allV, b_anyV, b_anyT, any_bm, any_im, any_b0, any_bc, any_ints, Option.some_or, bo_nil, bo_cons, bools_map, all_mapid, any_mapid, List.all_cons, List.all_nil, List.any_cons, List.any_nil, id, b_sum, b_max, b_min, b_divmod, few_ok, catL_ok, trep_ok, rep_ok, ty_non, ty_bl, ty_int, ty_str, ty_tup, ty_lst, ty_dct, ii_ii, ii_bi, ii_si, ii_ti, ii_li, ii_ni, ii_di, ii_ib, ii_bb, ii_sb, ii_tb, ii_lb, ii_nb, ii_db, ii_it, ii_bt, ii_st, ii_tt, ii_lt, ii_nt, ii_dt, bt_n, bt_t, bt_l, bs_nil, bs_cons, wipe_nil, wipe_cons, sa_nil, sa_cons, Option.bind_some, Option.bind_none, Option.map_some, Option.map_none, r_non, r_bl, r_int, r_str, r_tup, r_lst, r_scr, r_loc, ho_nil, ho_e, ho_f, ho_t, do_call, ioAt, roAt, fin_0, fin_1, fin_rob, fin_roi, fin_ron, fin_ro, fin_1r, lv_non, lv_bl, lv_int, lv_str, lv_tup, lv_lst', lv_loc', to_0, to_1, to_2, leave_eq, nl_nil, nl_int, nl_bl, nl_non, nl_str, nl_tup, nl_lst, nl_app, nl_ints, nl_rooms, nl_eR, nl_rev, ro_eR, ro_eRf, r_eR, q_eR, c_eqR, c_eqRL, c_eqRT, Bool.and_self, Bool.and_true, Bool.true_and, Bool.and_false, Bool.false_and, Bool.or_false, Bool.false_or, Bool.or_true, Bool.true_or, Bool.not_true, Bool.not_false, decide_true, decide_false, Int.cast_ofNat_Int, Int.natCast_add, Int.cast_ofNat_Int, lob_l, gu_ok, app_eq, app_ok, ins_eq, ins_ok, rem_eq, rem_ok, mem_loc, memG_rooms, c_neR, setI_eq, setI_ok, setS_eq, setS_ok, pop_eq, pop_ok, pop_1, Function.comp_apply, Int.reduceToNat, Int.reducePow, Int.reduceNeg, Int.reduceAdd, Int.reduceSub, Int.reduceMul, Int.reduceLT, Int.reduceLE, Int.reduceEq, Nat.reduceSub, Nat.reduceMul, Nat.reducePow, locksOf, st_nil, st_refl, bt_eR, ne_nil, neG_rooms, neG_rooms1, neG_nil, List.map_append, List.map_cons, List.map_nil, argsK, arrange, and_self, if_true, if_false, Bool.false_eq_true, List.map_reverse, rep1, nl_rep, pw_fold, hp_get, hp_set, rng1_ok, l__law_rooms_0, take, h1]
        · simp only [List.map_append, List.sum_append, List.map_cons, List.map_nil, List.sum_cons, List.sum_nil] at hs ⊢
          omega
      · have e0 : decide (tkR a c 5 = 0) = false := decide_eq_false h0
        have e1 : decide (1 < tkR a c 5) = true := decide_eq_true (by omega)
        by_cases h8 : b.2 = 8
        · refine ⟨tkA a c 5, tkC a c 5, M, F ++ [b], some (.int b.1), some (.int b.2), some (.int (tkR a c 5)), ?_, fun r hr => hv r (perm.mem_iff.mpr hr), (perm.pairwise_iff fun h => h.symm).mp hd, ?_⟩
          · simp -dsimp -implicitDefEqProofs (disch := (first | assumption | omega | (simp -implicitDefEqProofs only [nl_nil, nl_int, nl_bl, nl_non, nl_str, nl_tup, nl_lst, nl_app, nl_ints, nl_rooms, nl_eR, nl_parts, nl_rev, Bool.and_self, List.length_cons, List.length_nil, List.length_map, List.length_append, List.length_replicate]; done) | (simp -implicitDefEqProofs only [nl_nil, nl_int, nl_bl, nl_non, nl_str, nl_tup, nl_lst, nl_app, nl_ints, nl_rooms, nl_eR, nl_parts, nl_rev, Bool.and_self, List.length_cons, List.length_nil, List.length_map, List.length_append, List.length_replicate]; omega) | (simp -implicitDefEqProofs; done) | (simp -implicitDefEqProofs; omega))) only [E_k, E_d0, E_var, E_bin, E_neg, E_cmp, E_cmp2, E_and, E_or, E_not, E_ite, E_tup, E_idx, E_slc, E_call, E_callk, E_b1, E_b2, E_isi, E_pop, E_inl, E_mk, E_trep, E_trev, E_mink, E_mind, T_and, T_or, T_not, T_cmp, T_cmp2, T_tr, A_nil, A_cons, O_no, O_part, F_disp, F_comp, F_cat, F_rep, F_slc, F_list, F_sort, F_call, C_nil, C_cons, I_rng1, I_rng2, I_rng3, I_enum, I_zip, I_seq, I_rev, S_nil, S_cons, S_pass, S_set, S_setT, S_par, S_aug, S_expr, S_ret, S_retN, S_ite, S_for, S_while, S_app, S_setI, S_setS, S_ins, S_rem, S_brk, S_cont, change_some, change_none, Res.bnd_ok, Res.bnd_exc, Res.bnd_bad, Res.cnd_true, Res.cnd_false, Res.ofO_some, Res.ofO_none, Res.andB_true, Res.andB_false, Res.andB_ok, Res.orB_true, Res.orB_false, Res.orB_ok, Res.andT_true, Res.andT_false, Res.andT_ok, Res.orT_true, Res.orT_false, Res.orT_ok, SRes.sq_nx, SRes.sq_rt, SRes.sq_bk, SRes.sq_ct, SRes.sq_exc, SRes.sq_bad, Res.st_ok, Res.st_exc, Res.st_bad, SRes.cnd_true, SRes.cnd_false, Ret.close_rt, Ret.close_nx, lk_0, lk_s, List.set_cons_zero, List.set_cons_succ, List.getElem?_cons_zero, List.getElem?_cons_succ, List.length_cons, List.length_nil, List.length_map, List.length_append, List.nil_append, List.cons_append, Nat.zero_add, Nat.reduceAdd, Nat.add_zero, v_add, v_sub, v_mul, v_fdiv, v_mod, v_shl, v_pow, v_shr, v_bxor, v_cat, v_neg, v_bool, v_int, v_tup, v_loc, v_aug_add, v_own, c_eq, c_ne, c_lt, c_le, c_gt, c_ge, c_isn_non, c_isn_int, c_isn_tup, c_isn_lst, c_isnn_non, c_isnn_int, c_isnn_tup, c_isnn_lst, c_ist, c_isnt, c_eqB, c_neB, mem_tupI, mem_lstI, nmem_tupI, t_bl, t_int, t_non, t_tup, t_lst, q_tup, q_lst, q_scr, q_loc, lv_lst, lv_loc, sv_scr, sv_lst, sv_loc, ix_v, at_0, at_1, at_2, b_len, b_intB, b_int, b_boolB, b_tupT, b_tupL, b_tup_loc, b_allV, b_anyV, b_anyT, any_bm, any_im, any_b0, any_bc, any_ints, Option.some_or, bo_nil, bo_cons, bools_map, all_mapid, any_mapid, List.all_cons, List.all_nil, List.any_cons, List.any_nil, id, b_sum, b_max, b_min, b_divmod, few_ok, catL_ok, trep_ok, rep_ok, ty_non, ty_bl, ty_int, ty_str, ty_tup, ty_lst, ty_dct, ii_ii, ii_bi, ii_si, ii_ti, ii_li, ii_ni, ii_di, ii_ib, ii_bb, ii_sb, ii_tb, ii_lb, ii_nb, ii_db, ii_it, ii_bt, ii_st, ii_tt, ii_lt, ii_nt, ii_dt, bt_n, bt_t, bt_l, bs_nil, bs_cons, wipe_nil, wipe_cons, sa_nil, sa_cons, Option.bind_some, Option.bind_none, Option.map_some, Option.map_none, r_non, r_bl, r_int, r_str, r_tup, r_lst, r_scr, r_loc, ho_nil, ho_e, ho_f, ho_t, do_call, ioAt, roAt, fin_0, fin_1, fin_rob, fin_roi, fin_ron, fin_ro, fin_1r, lv_non, lv_bl, lv_int, lv_str, lv_tup, lv_lst', lv_loc', to_0, to_1, to_2, leave_eq, nl_nil, nl_int, nl_bl, nl_non, nl_str, nl_tup, nl_lst, nl_app, nl_ints, nl_rooms, nl_eR, nl_rev, ro_eR, ro_eRf, r_eR, q_eR, c_eqR, c_eqRL, c_eqRT, Bool.and_self, Bool.and_true, Bool.true_and, Bool.and_false, Bool.false_and, Bool.or_false, Bool.false_or, Bool.or_true, Bool.true_or, Bool.not_true, Bool.not_false, decide_true, decide_false, Int.cast_ofNat_Int, Int.natCast_add, Int.cast_ofNat_Int, lob_l, gu_ok, app_eq, app_ok, ins_eq, ins_ok, rem_eq, rem_ok, mem_loc, memG_rooms, c_neR, setI_eq, setI_ok, setS_eq, setS_ok, pop_eq, pop_ok, pop_1, Function.comp_apply, Int.reduceToNat, Int.reducePow, Int.reduceNeg, Int.reduceAdd, Int.reduceSub, Int.reduceMul, Int.reduceLT, Int.reduceLE, Int.reduceEq, Nat.reduceSub, Nat.reduceMul, Nat.reducePow, locksOf, st_nil, st_refl, bt_eR, ne_nil, neG_rooms, neG_rooms1, neG_nil, List.map_append, List.map_cons, List.map_nil, argsK, arrange, and_self, if_true, if_false, Bool.false_eq_true, List.map_reverse, rep1, nl_rep, pw_fold, hp_get, hp_set, rng1_ok, l__law_rooms_0, take, e0, e1, h8, Int.lt_irrefl]
            rw [← h8]
            rfl
          · simp only [List.map_append, List.sum_append, List.map_cons, List.map_nil, List.sum_cons, List.sum_nil] at hs ⊢
            omega
        · have e8 : decide (b.2 = 8) = false := decide_eq_false h8
          have e9 : decide (8 < b.2) = true := decide_eq_true (by omega)
          obtain ⟨v1, v2, v3⟩ := vb.halves ht (by omega)
          refine ⟨tkA a c 5, tkC a c 5, M ++ [(b.1, b.2 / 2)] ++ [(b.1 + b.2 / 2, b.2 / 2)], F, some (.int b.1), some (.int b.2), some (.int (tkR a c 5)), ?_, fun r hr => ?_, ?_, ?_⟩
          · simp -dsimp -implicitDefEqProofs (disch := (first | assumption | omega | (simp -implicitDefEqProofs only [nl_nil, nl_int, nl_bl, nl_non, nl_str, nl_tup, nl_lst, nl_app, nl_ints, nl_rooms, nl_eR, nl_parts, nl_rev, Bool.and_self, List.length_cons, List.length_nil, List.length_map, List.length_append, List.length_replicate]; done) | (simp -implicitDefEqProofs only [nl_nil, nl_int, nl_bl, nl_non, nl_str, nl_tup, nl_lst, nl_app, nl_ints, nl_rooms, nl_eR, nl_parts, nl_rev, Bool.and_self, List.length_cons, List.length_nil, List.length_map, List.length_append, List.length_replicate]; omega) | (simp -implicitDefEqProofs; done) | (simp -implicitDefEqProofs; omega))) only [E_k, E_d0, E_var, E_bin, E_neg, E_cmp, E_cmp2, E_and, E_or, E_not, E_ite, E_tup, E_idx, E_slc, E_call, E_callk, E_b1, E_b2, E_isi, E_pop, E_inl, E_mk, E_trep, E_trev, E_mink, E_mind, T_and, T_or, T_not, T_cmp, T_cmp2, T_tr, A_nil, A_cons, O_no, O_part, F_disp, F_comp, F_cat, F_rep, F_slc, F_list, F_sort, F_call, C_nil, C_cons, I_rng1, I_rng2, I_rng3, I_enum, I_zip, I_seq, I_rev, S_nil, S_cons, S_pass, S_set, S_setT, S_par, S_aug, S_expr, S_ret, S_retN, S_ite, S_for, S_while, S_app, S_setI, S_setS, S_ins, S_rem, S_brk, S_cont, change_some, change_none, Res.bnd_ok, Res.bnd_exc, Res.bnd_bad, Res.cnd_true, Res.cnd_false, Res.ofO_some, Res.ofO_none, Res.andB_true, Res.andB_false, Res.andB_ok, Res.orB_true, Res.orB_false, Res.orB_ok, Res.andT_true, Res.andT_false, Res.andT_ok, Res.orT_true, Res.orT_false, Res.orT_ok, SRes.sq_nx, SRes.sq_rt, SRes.sq_bk, SRes.sq_ct, SRes.sq_exc, SRes.sq_bad, Res.st_ok, Res.st_exc, Res.st_bad, SRes.cnd_true, SRes.cnd_false, Ret.close_rt, Ret.close_nx, lk_0, lk_s, List.set_cons_zero, List.set_cons_succ, List.getElem?_cons_zero, List.getElem?_cons_succ, List.length_cons, List.length_nil, List.length_map, List.length_append, List.nil_append, List.cons_append, Nat.zero_add, Nat.reduceAdd, Nat.add_zero, v_add, v_sub, v_mul, v_fdiv, v_mod, v_shl, v_pow, v_shr, v_bxor, v_cat, v_neg, v_bool, v_int, v_tup, v_loc, v_aug_add, v_own, c_eq, c_ne, c_lt, c_le, c_gt, c_ge, c_isn_non, c_isn_int, c_isn_tup, c_isn_lst, c_isnn_non, c_isnn_int, c_isnn_tup, c_isnn_lst, c_ist, c_isnt, c_eqB, c_neB, mem_tupI, mem_lstI, nmem_tupI, t_bl, t_int, t_non, t_tup, t_lst, q_tup, q_lst, q_scr, q_loc, lv_lst, lv_loc, sv_scr, sv_lst, sv_loc, ix_v, at_0, at_1, at_2, b_len, b_intB, b_int, b_boolB, b_tupT, b_tupL, b_tup_loc, b_allV, b_anyV, b_anyT, any_bm, any_im, any_b0, any_bc, any_ints, Option.some_or, bo_nil, bo_cons, bools_map, all_mapid, any_mapid, List.all_cons, List.all_nil, List.any_cons, List.any_nil, id, b_sum, b_max, b_min, b_divmod, few_ok, catL_ok, trep_ok, rep_ok, ty_non, ty_bl, ty_int, ty_str, ty_tup, ty_lst, ty_dct, ii_ii, ii_bi, ii_si, ii_ti, ii_li, ii_ni, ii_di, ii_ib, ii_bb, ii_sb, ii_tb, ii_lb, ii_nb, ii_db, ii_it, ii_bt, ii_st, ii_tt, ii_lt, ii_nt, ii_dt, bt_n, bt_t, bt_l, bs_nil, bs_cons, wipe_nil, wipe_cons, sa_nil, sa_cons, Option.bind_some, Option.bind_none, Option.map_some, Option.map_none, r_non, r_bl, r_int, r_str, r_tup, r_lst, r_scr, r_loc, ho_nil, ho_e, ho_f, ho_t, do_call, ioAt, roAt, fin_0, fin_1, fin_rob, fin_roi, fin_ron, fin_ro, fin_1r, lv_non, lv_bl, lv_int, lv_str, lv_tup, lv_lst', lv_loc', to_0, to_1, to_2, leave_eq, nl_nil, nl_int, nl_bl, nl_non, nl_str, nl_tup, nl_lst, nl_app, nl_ints, nl_rooms, nl_eR, nl_rev, ro_eR, ro_eRf, r_eR, q_eR, c_eqR, c_eqRL, c_eqRT, Bool.and_self, Bool.and_true, Bool.true_and, Bool.and_false, Bool.false_and, Bool.or_false, Bool.false_or, Bool.or_true, Bool.true_or, Bool.not_true, Bool.not_false, decide_true, decide_false, Int.cast_ofNat_Int, Int.natCast_add, Int.cast_ofNat_Int, lob_l, gu_ok, app_eq, app_ok, ins_eq, ins_ok, rem_eq, rem_ok, mem_loc, memG_rooms, c_neR, setI_eq, setI_ok, setS_eq, setS_ok, pop_eq, pop_ok, pop_1, Function.comp_apply, Int.reduceToNat, Int.reducePow, Int.reduceNeg, Int.reduceAdd, Int.reduceSub, Int.reduceMul, Int.reduceLT, Int.reduceLE, Int.reduceEq, Nat.reduceSub, Nat.reduceMul, Nat.reducePow, locksOf, st_nil, st_refl, bt_eR, ne_nil, neG_rooms, neG_rooms1, neG_nil, List.map_append, List.map_cons, List.map_nil, argsK, arrange, and_self, if_true, if_false, Bool.false_eq_true, List.map_reverse, rep1, nl_rep, pw_fold, hp_get, hp_set, rng1_ok, l__law_rooms_0, take, e0, e1, e8, e9]
            rfl
          · simp only [List.mem_append, List.mem_singleton] at hr
            rcases hr with ((hr | rfl) | rfl) | hr
            · exact hv r (by simp [hr])
            · exact v1
            · exact v2
            · exact hv r (by simp [hr])
          · have hp := (perm.pairwise_iff fun h => h.symm).mp hd
            have key : ∀ r : Room, Disj r b → Disj r (b.1, b.2 / 2) ∧ Disj r (b.1 + b.2 / 2, b.2 / 2) := fun r h => by
              simp only [Disj] at h ⊢
              omega
            have hF : ∀ r ∈ F, Disj r b := fun r hr => ((List.pairwise_append.mp hd).2.2 b (by simp) r hr).symm
            have hM : ∀ r ∈ M, Disj r b := fun r hr => (List.pairwise_append.mp (List.pairwise_append.mp hd).1).2.2 r hr b (by simp)
            have h1 := (List.pairwise_append.mp hd)
            have h2 := List.pairwise_append.mp h1.1
            refine List.pairwise_append.mpr ⟨List.pairwise_append.mpr ⟨List.pairwise_append.mpr ⟨h2.1, List.pairwise_singleton _ _, fun r hr x hx => ?_⟩, List.pairwise_singleton _ _, fun r hr x hx => ?_⟩, h1.2.1, fun r hr x hx => ?_⟩
            · rw [List.mem_singleton.mp hx]; exact (key r (hM r hr)).1
            · rw [List.mem_singleton.mp hx]
              rcases List.mem_append.mp hr with hr | hr
              · exact (key r (hM r hr)).2
              · rw [List.mem_singleton.mp hr]
                simp only [Disj]
                omega
            · rcases List.mem_append.mp hr with hr | hr
              · rcases List.mem_append.mp hr with hr | hr
                · exact h1.2.2 r (List.mem_append_left _ hr) x hx
                · rw [List.mem_singleton.mp hr]; exact (key x (hF x hx)).1.symm
              · rw [List.mem_singleton.mp hr]; exact (key x (hF x hx)).2.symm
          · simp only [List.map_append, List.sum_append, List.map_cons, List.map_nil, List.sum_cons, List.sum_nil] at hs ⊢
            omega
theorem rooms (n : Nat) {t a c : Int} (ht : Tall t) : ∃ (a' c' : Int) (L : List Room), run prog (n + 2) 3 [.lst [.int a, .int c], .int t] = .ret ⟨.tup (L.map eR), false, [[.int a', .int c']]⟩ ∧ OutOk t L := by
  rw [at__law_rooms]
  obtain ⟨e, h', f1, f2⟩ := for_inv (bd := evalS [] (run prog (n + 1)) l__law_rooms_0) (tg := .n 4) (lock := []) (h0 := [.list [.int a, .int c], .list [.tup [.int 0, .int (pw t)]], .list []])
    (fun env h => ∃ (a' c' : Int) (L F : List Room) (y4 y5 y6 y7 : Option Val), env = [some (.loc 0), some (.int t), some (.loc 1), some (.loc 2), y4, y5, y6, y7] ∧ h = [.list [.int a', .int c'], .list (L.map eR), .list (F.map eR)] ∧ (∀ r ∈ L ++ F, Valid t r) ∧ (L ++ F).Pairwise Disj ∧ ((L ++ F).map (·.2)).sum ≤ pw t)
    (l := (List.range 127).map fun (i : Nat) => Val.int i) (fun x hx env h i => by
      obtain ⟨a1, c1, L, F, y4, y5, y6, y7, rfl, rfl, h1, h2, h3⟩ := i
      obtain ⟨a2, c2, L2, F2, z5, z6, z7, e1, k1, k2, k3⟩ := rooms_turn n (a := a1) (c := c1) ht h1 h2 h3 (some x) y5 y6 y7
      exact ⟨_, _, _, rfl, .inl e1, st_nil, a2, c2, L2, F2, some x, z5, z6, z7, rfl, rfl, k1, k2, k3⟩)
    [some (.loc 0), some (.int t), some (.loc 1), some (.loc 2), none, none, none, none] [.list [.int a, .int c], .list [.tup [.int 0, .int (pw t)]], .list []]
    ⟨a, c, [(0, pw t)], [], none, none, none, none, rfl, rfl, by simpa using Valid.whole ht, by simp, by simp⟩
  obtain ⟨a1, c1, L, F, y4, y5, y6, y7, rfl, rfl, h1, h2, h3⟩ := f2
  have hF : F.length ≤ 40 := by
    have := len_of_sum ht h1
    have := pw_bd ht
    rw [List.length_append] at *
    omega
  have ok := out_sorted ht (fun r hr => h1 r (List.mem_append_right _ hr)) (List.pairwise_append.mp h2).2.1
  refine ⟨a1, c1, F.mergeSort lePair, ?_, ok⟩
  have hb := ht.bd
  simp -dsimp -implicitDefEqProofs (disch := (first | assumption | omega | (simp -implicitDefEqProofs only [nl_nil, nl_int, nl_bl, nl_non, nl_str, nl_tup, nl_lst, nl_app, nl_ints, nl_rooms, nl_eR, nl_parts, nl_rev, Bool.and_self, List.length_cons, List.length_nil, List.length_map, List.length_append, List.length_replicate]; done) | (simp -implicitDefEqProofs only [nl_nil, nl_int, nl_bl, nl_non, nl_str, nl_tup, nl_lst, nl_app, nl_ints, nl_rooms, nl_eR, nl_parts, nl_rev, Bool.and_self, List.length_cons, List.length_nil, List.length_map, List.length_append, List.length_replicate]; omega) | (simp -implicitDefEqProofs; done) | (simp -implicitDefEqProofs; omega))) only [E_k, E_d0, E_var, E_bin, E_neg, E_cmp, E_cmp2, E_and, E_or, E_not, E_ite, E_tup, E_idx, E_slc, E_call, E_callk, E_b1, E_b2, E_isi, E_pop, E_inl, E_mk, E_trep, E_trev, E_mink, E_mind, T_and, T_or, T_not, T_cmp, T_cmp2, T_tr, A_nil, A_cons, O_no, O_part, F_disp, F_comp, F_cat, F_rep, F_slc, F_list, F_sort, F_call, C_nil, C_cons, I_rng1, I_rng2, I_rng3, I_enum, I_zip, I_seq, I_rev, S_nil, S_cons, S_pass, S_set, S_setT, S_par, S_aug, S_expr, S_ret, S_retN, S_ite, S_for, S_while, S_app, S_setI, S_setS, S_ins, S_rem, S_brk, S_cont, change_some, change_none, Res.bnd_ok, Res.bnd_exc, Res.bnd_bad, Res.cnd_true, Res.cnd_false, Res.ofO_some, Res.ofO_none, Res.andB_true, Res.andB_false, Res.andB_ok, Res.orB_true, Res.orB_false, Res.orB_ok, Res.andT_true, Res.andT_false, Res.andT_ok, Res.orT_true, Res.orT_false, Res.orT_ok, SRes.sq_nx, SRes.sq_rt, SRes.sq_bk, SRes.sq_ct, SRes.sq_exc, SRes.sq_bad, Res.st_ok, Res.st_exc, Res.st_bad, SRes.cnd_true, SRes.cnd_false, Ret.close_rt, Ret.close_nx, lk_0, lk_s, List.set_cons_zero, List.set_cons_succ, List.getElem?_cons_zero, List.getElem?_cons_succ, List.length_cons, List.length_nil, List.length_map, List.length_append, List.nil_append, List.cons_append, Nat.zero_add, Nat.reduceAdd, Nat.add_zero, v_add, v_sub, v_mul, v_fdiv, v_mod, v_shl, v_pow, v_shr, v_bxor, v_cat, v_neg, v_bool, v_int, v_tup, v_loc, v_aug_add, v_own, c_eq, c_ne, c_lt, c_le, c_gt, c_ge, c_isn_non, c_isn_int, c_isn_tup, c_isn_lst, c_isnn_non, c_isnn_int, c_isnn_tup, c_isnn_lst, c_ist, c_isnt, c_eqB, c_neB, mem_tupI, mem_lstI, nmem_tupI, t_bl, t_int, t_non, t_tup, t_lst, q_tup, q_lst, q_scr, q_loc, lv_lst, lv_loc, sv_scr, sv_lst, sv_loc, ix_v, at_0, at_1, at_2, b_len, b_intB, b_int, b_boolB, b_tupT, b_tupL, b_tup_loc, b_allV, b_anyV, b_anyT, any_bm, any_im, any_b0, any_bc, any_ints, Option.some_or, bo_nil, bo_cons, bools_map, all_mapid, any_mapid, List.all_cons, List.all_nil, List.any_cons, List.any_nil, id, b_sum, b_max, b_min, b_divmod, few_ok, catL_ok, trep_ok, rep_ok, ty_non, ty_bl, ty_int, ty_str, ty_tup, ty_lst, ty_dct, ii_ii, ii_bi, ii_si, ii_ti, ii_li, ii_ni, ii_di, ii_ib, ii_bb, ii_sb, ii_tb, ii_lb, ii_nb, ii_db, ii_it, ii_bt, ii_st, ii_tt, ii_lt, ii_nt, ii_dt, bt_n, bt_t, bt_l, bs_nil, bs_cons, wipe_nil, wipe_cons, sa_nil, sa_cons, Option.bind_some, Option.bind_none, Option.map_some, Option.map_none, r_non, r_bl, r_int, r_str, r_tup, r_lst, r_scr, r_loc, ho_nil, ho_e, ho_f, ho_t, do_call, ioAt, roAt, fin_0, fin_1, fin_rob, fin_roi, fin_ron, fin_ro, fin_1r, lv_non, lv_bl, lv_int, lv_str, lv_tup, lv_lst', lv_loc', to_0, to_1, to_2, leave_eq, nl_nil, nl_int, nl_bl, nl_non, nl_str, nl_tup, nl_lst, nl_app, nl_ints, nl_rooms, nl_eR, nl_rev, ro_eR, ro_eRf, r_eR, q_eR, c_eqR, c_eqRL, c_eqRT, Bool.and_self, Bool.and_true, Bool.true_and, Bool.and_false, Bool.false_and, Bool.or_false, Bool.false_or, Bool.or_true, Bool.true_or, Bool.not_true, Bool.not_false, decide_true, decide_false, Int.cast_ofNat_Int, Int.natCast_add, Int.cast_ofNat_Int, lob_l, gu_ok, app_eq, app_ok, ins_eq, ins_ok, rem_eq, rem_ok, mem_loc, memG_rooms, c_neR, setI_eq, setI_ok, setS_eq, setS_ok, pop_eq, pop_ok, pop_1, Function.comp_apply, Int.reduceToNat, Int.reducePow, Int.reduceNeg, Int.reduceAdd, Int.reduceSub, Int.reduceMul, Int.reduceLT, Int.reduceLE, Int.reduceEq, Nat.reduceSub, Nat.reduceMul, Nat.reducePow, locksOf, st_nil, st_refl, bt_eR, ne_nil, neG_rooms, neG_rooms1, neG_nil, List.map_append, List.map_cons, List.map_nil, argsK, arrange, and_self, if_true, if_false, Bool.false_eq_true, List.map_reverse, rep1, nl_rep, pw_fold, hp_get, hp_set, rng1_ok, b__law_rooms, f1, sort_rooms, hF, Nat.le_refl]

/-! LIBrooms: what the program says of rooms; touch, spaces -/
theorem is_whole (n : Nat) (i : Int) : run prog (n + 1) 10 [.int i] = rt (.bl true) := rfl
theorem check_height {t : Int} (n : Nat) (h : Tall t) : run prog (n + 3) 12 [.int t] = rt .non := by
  rcases h with rfl | rfl | rfl | rfl | rfl <;> rfl
theorem all_sizes {t : Int} (n : Nat) (h : Tall t) : run prog (n + 1) 13 [.int t] = rt (.tup ((szs t).map .int)) := by
  rcases h with rfl | rfl | rfl | rfl | rfl <;> rfl
theorem wide {t : Int} (n : Nat) (h : Tall t) : run prog (n + 1) 14 [.int t] = rt (.int (pw t)) := by
  rcases h with rfl | rfl | rfl | rfl | rfl <;> rfl
theorem check_size {t b : Int} (n : Nat) (h : Tall t) (hb : b ∈ szs t) : run prog (n + 2) 19 [.int t, .int b] = rt .non := by
  rw [at_check_size]
  simp -dsimp -implicitDefEqProofs (disch := (first | assumption | omega | (simp -implicitDefEqProofs only [nl_nil, nl_int, nl_bl, nl_non, nl_str, nl_tup, nl_lst, nl_app, nl_ints, nl_rooms, nl_eR, nl_parts, nl_rev, Bool.and_self, List.length_cons, List.length_nil, List.length_map, List.length_append, List.length_replicate]; done) | (simp -implicitDefEqProofs only [nl_nil, nl_int, nl_bl, nl_non, nl_str, nl_tup, nl_lst, nl_app, nl_ints, nl_rooms, nl_eR, nl_parts, nl_rev, Bool.and_self, List.length_cons, List.length_nil, List.length_map, List.length_append, List.length_replicate]; omega) | (simp -implicitDefEqProofs; done) | (simp -implicitDefEqProofs; omega))) only [E_k, E_d0, E_var, E_bin, E_neg, E_cmp, E_cmp2, E_and, E_or, E_not, E_ite, E_tup, E_idx, E_slc, E_call, E_callk, E_b1, E_b2, E_isi, E_pop, E_inl, E_mk, E_trep, E_trev, E_mink, E_mind, T_and, T_or, T_not, T_cmp, T_cmp2, T_tr, A_nil, A_cons, O_no, O_part, F_disp, F_comp, F_cat, F_rep, F_slc, F_list, F_sort, F_call, C_nil, C_cons, I_rng1, I_rng2, I_rng3, I_enum, I_zip, I_seq, I_rev, S_nil, S_cons, S_pass, S_set, S_setT, S_par, S_aug, S_expr, S_ret, S_retN, S_ite, S_for, S_while, S_app, S_setI, S_setS, S_ins, S_rem, S_brk, S_cont, change_some, change_none, Res.bnd_ok, Res.bnd_exc, Res.bnd_bad, Res.cnd_true, Res.cnd_false, Res.ofO_some, Res.ofO_none, Res.andB_true, Res.andB_false, Res.andB_ok, Res.orB_true, Res.orB_false, Res.orB_ok, Res.andT_true, Res.andT_false, Res.andT_ok, Res.orT_true, Res.orT_false, Res.orT_ok, SRes.sq_nx, SRes.sq_rt, SRes.sq_bk, SRes.sq_ct, SRes.sq_exc, SRes.sq_bad, Res.st_ok, Res.st_exc, Res.st_bad, SRes.cnd_true, SRes.cnd_false, Ret.close_rt, Ret.close_nx, lk_0, lk_s, List.set_cons_zero, List.set_cons_succ, List.getElem?_cons_zero, List.getElem?_cons_succ, List.length_cons, List.length_nil, List.length_map, List.length_append, List.nil_append, List.cons_append, Nat.zero_add, Nat.reduceAdd, Nat.add_zero, v_add, v_sub, v_mul, v_fdiv, v_mod, v_shl, v_pow, v_shr, v_bxor, v_cat, v_neg, v_bool, v_int, v_tup, v_loc, v_aug_add, v_own, c_eq, c_ne, c_lt, c_le, c_gt, c_ge, c_isn_non, c_isn_int, c_isn_tup, c_isn_lst, c_isnn_non, c_isnn_int, c_isnn_tup, c_isnn_lst, c_ist, c_isnt, c_eqB, c_neB, mem_tupI, mem_lstI, nmem_tupI, t_bl, t_int, t_non, t_tup, t_lst, q_tup, q_lst, q_scr, q_loc, lv_lst, lv_loc, sv_scr, sv_lst, sv_loc, ix_v, at_0, at_1, at_2, b_len, b_intB, b_int, b_boolB, b_tupT, b_tupL, b_tup_loc, b_allV, b_anyV, b_anyT, any_bm, any_im, any_b0, any_bc, any_ints, Option.some_or, bo_nil, bo_cons, bools_map, all_mapid, any_mapid, List.all_cons, List.all_nil, List.any_cons, List.any_nil, id, b_sum, b_max, b_min, b_divmod, few_ok, catL_ok, trep_ok, rep_ok, ty_non, ty_bl, ty_int, ty_str, ty_tup, ty_lst, ty_dct, ii_ii, ii_bi, ii_si, ii_ti, ii_li, ii_ni, ii_di, ii_ib, ii_bb, ii_sb, ii_tb, ii_lb, ii_nb, ii_db, ii_it, ii_bt, ii_st, ii_tt, ii_lt, ii_nt, ii_dt, bt_n, bt_t, bt_l, bs_nil, bs_cons, wipe_nil, wipe_cons, sa_nil, sa_cons, Option.bind_some, Option.bind_none, Option.map_some, Option.map_none, r_non, r_bl, r_int, r_str, r_tup, r_lst, r_scr, r_loc, ho_nil, ho_e, ho_f, ho_t, do_call, ioAt, roAt, fin_0, fin_1, fin_rob, fin_roi, fin_ron, fin_ro, fin_1r, lv_non, lv_bl, lv_int, lv_str, lv_tup, lv_lst', lv_loc', to_0, to_1, to_2, leave_eq, nl_nil, nl_int, nl_bl, nl_non, nl_str, nl_tup, nl_lst, nl_app, nl_ints, nl_rooms, nl_eR, nl_rev, ro_eR, ro_eRf, r_eR, q_eR, c_eqR, c_eqRL, c_eqRT, Bool.and_self, Bool.and_true, Bool.true_and, Bool.and_false, Bool.false_and, Bool.or_false, Bool.false_or, Bool.or_true, Bool.true_or, Bool.not_true, Bool.not_false, decide_true, decide_false, Int.cast_ofNat_Int, Int.natCast_add, Int.cast_ofNat_Int, lob_l, gu_ok, app_eq, app_ok, ins_eq, ins_ok, rem_eq, rem_ok, mem_loc, memG_rooms, c_neR, setI_eq, setI_ok, setS_eq, setS_ok, pop_eq, pop_ok, pop_1, Function.comp_apply, Int.reduceToNat, Int.reducePow, Int.reduceNeg, Int.reduceAdd, Int.reduceSub, Int.reduceMul, Int.reduceLT, Int.reduceLE, Int.reduceEq, Nat.reduceSub, Nat.reduceMul, Nat.reducePow, locksOf, st_nil, st_refl, bt_eR, ne_nil, neG_rooms, neG_rooms1, neG_nil, List.map_append, List.map_cons, List.map_nil, argsK, arrange, and_self, if_true, if_false, Bool.false_eq_true, List.map_reverse, rep1, nl_rep, pw_fold, hp_get, hp_set, rng1_ok, b_check_size, is_whole, all_sizes, h, hb, decide_true]
def tch (a b : Room) : Bool := decide (a.1 < b.1 + b.2) && decide (b.1 < a.1 + a.2)
theorem touch (n : Nat) (a b : Room) : run prog (n + 1) 16 [eR a, eR b] = rt (.bl (tch a b)) := by
  rw [at_touch]
  simp -dsimp -implicitDefEqProofs (disch := (first | assumption | omega | (simp -implicitDefEqProofs only [nl_nil, nl_int, nl_bl, nl_non, nl_str, nl_tup, nl_lst, nl_app, nl_ints, nl_rooms, nl_eR, nl_parts, nl_rev, Bool.and_self, List.length_cons, List.length_nil, List.length_map, List.length_append, List.length_replicate]; done) | (simp -implicitDefEqProofs only [nl_nil, nl_int, nl_bl, nl_non, nl_str, nl_tup, nl_lst, nl_app, nl_ints, nl_rooms, nl_eR, nl_parts, nl_rev, Bool.and_self, List.length_cons, List.length_nil, List.length_map, List.length_append, List.length_replicate]; omega) | (simp -implicitDefEqProofs; done) | (simp -implicitDefEqProofs; omega))) only [E_k, E_d0, E_var, E_bin, E_neg, E_cmp, E_cmp2, E_and, E_or, E_not, E_ite, E_tup, E_idx, E_slc, E_call, E_callk, E_b1, E_b2, E_isi, E_pop, E_inl, E_mk, E_trep, E_trev, E_mink, E_mind, T_and, T_or, T_not, T_cmp, T_cmp2, T_tr, A_nil, A_cons, O_no, O_part, F_disp, F_comp, F_cat, F_rep, F_slc, F_list, F_sort, F_call, C_nil, C_cons, I_rng1, I_rng2, I_rng3, I_enum, I_zip, I_seq, I_rev, S_nil, S_cons, S_pass, S_set, S_setT, S_par, S_aug, S_expr, S_ret, S_retN, S_ite, S_for, S_while, S_app, S_setI, S_setS, S_ins, S_rem, S_brk, S_cont, change_some, change_none, Res.bnd_ok, Res.bnd_exc, Res.bnd_bad, Res.cnd_true, Res.cnd_false, Res.ofO_some, Res.ofO_none, Res.andB_true, Res.andB_false, Res.andB_ok, Res.orB_true, Res.orB_false, Res.orB_ok, Res.andT_true, Res.andT_false, Res.andT_ok, Res.orT_true, Res.orT_false, Res.orT_ok, SRes.sq_nx, SRes.sq_rt, SRes.sq_bk, SRes.sq_ct, SRes.sq_exc, SRes.sq_bad, Res.st_ok, Res.st_exc, Res.st_bad, SRes.cnd_true, SRes.cnd_false, Ret.close_rt, Ret.close_nx, lk_0, lk_s, List.set_cons_zero, List.set_cons_succ, List.getElem?_cons_zero, List.getElem?_cons_succ, List.length_cons, List.length_nil, List.length_map, List.length_append, List.nil_append, List.cons_append, Nat.zero_add, Nat.reduceAdd, Nat.add_zero, v_add, v_sub, v_mul, v_fdiv, v_mod, v_shl, v_pow, v_shr, v_bxor, v_cat, v_neg, v_bool, v_int, v_tup, v_loc, v_aug_add, v_own, c_eq, c_ne, c_lt, c_le, c_gt, c_ge, c_isn_non, c_isn_int, c_isn_tup, c_isn_lst, c_isnn_non, c_isnn_int, c_isnn_tup, c_isnn_lst, c_ist, c_isnt, c_eqB, c_neB, mem_tupI, mem_lstI, nmem_tupI, t_bl, t_int, t_non, t_tup, t_lst, q_tup, q_lst, q_scr, q_loc, lv_lst, lv_loc, sv_scr, sv_lst, sv_loc, ix_v, at_0, at_1, at_2, b_len, b_intB, b_int, b_boolB, b_tupT, b_tupL, b_tup_loc, b_allV, b_anyV, b_anyT, any_bm, any_im, any_b0, any_bc, any_ints, Option.some_or, bo_nil, bo_cons, bools_map, all_mapid, any_mapid, List.all_cons, List.all_nil, List.any_cons, List.any_nil, id, b_sum, b_max, b_min, b_divmod, few_ok, catL_ok, trep_ok, rep_ok, ty_non, ty_bl, ty_int, ty_str, ty_tup, ty_lst, ty_dct, ii_ii, ii_bi, ii_si, ii_ti, ii_li, ii_ni, ii_di, ii_ib, ii_bb, ii_sb, ii_tb, ii_lb, ii_nb, ii_db, ii_it, ii_bt, ii_st, ii_tt, ii_lt, ii_nt, ii_dt, bt_n, bt_t, bt_l, bs_nil, bs_cons, wipe_nil, wipe_cons, sa_nil, sa_cons, Option.bind_some, Option.bind_none, Option.map_some, Option.map_none, r_non, r_bl, r_int, r_str, r_tup, r_lst, r_scr, r_loc, ho_nil, ho_e, ho_f, ho_t, do_call, ioAt, roAt, fin_0, fin_1, fin_rob, fin_roi, fin_ron, fin_ro, fin_1r, lv_non, lv_bl, lv_int, lv_str, lv_tup, lv_lst', lv_loc', to_0, to_1, to_2, leave_eq, nl_nil, nl_int, nl_bl, nl_non, nl_str, nl_tup, nl_lst, nl_app, nl_ints, nl_rooms, nl_eR, nl_rev, ro_eR, ro_eRf, r_eR, q_eR, c_eqR, c_eqRL, c_eqRT, Bool.and_self, Bool.and_true, Bool.true_and, Bool.and_false, Bool.false_and, Bool.or_false, Bool.false_or, Bool.or_true, Bool.true_or, Bool.not_true, Bool.not_false, decide_true, decide_false, Int.cast_ofNat_Int, Int.natCast_add, Int.cast_ofNat_Int, lob_l, gu_ok, app_eq, app_ok, ins_eq, ins_ok, rem_eq, rem_ok, mem_loc, memG_rooms, c_neR, setI_eq, setI_ok, setS_eq, setS_ok, pop_eq, pop_ok, pop_1, Function.comp_apply, Int.reduceToNat, Int.reducePow, Int.reduceNeg, Int.reduceAdd, Int.reduceSub, Int.reduceMul, Int.reduceLT, Int.reduceLE, Int.reduceEq, Nat.reduceSub, Nat.reduceMul, Nat.reducePow, locksOf, st_nil, st_refl, bt_eR, ne_nil, neG_rooms, neG_rooms1, neG_nil, List.map_append, List.map_cons, List.map_nil, argsK, arrange, and_self, if_true, if_false, Bool.false_eq_true, List.map_reverse, rep1, nl_rep, pw_fold, hp_get, hp_set, rng1_ok, b_touch, tch]
theorem one_room {t : Int} (n : Nat) (ht : Tall t) {r : Room} (hr : Valid t r) : run prog (n + 2) 15 [.int t, eR r] = rt (.bl true) := by
  obtain ⟨h1, h2, h3, h4⟩ := hr
  have h5 := szs_bd ht h1
  rw [at_is_one_room]
  simp -dsimp -implicitDefEqProofs (disch := (first | assumption | omega | (simp -implicitDefEqProofs only [nl_nil, nl_int, nl_bl, nl_non, nl_str, nl_tup, nl_lst, nl_app, nl_ints, nl_rooms, nl_eR, nl_parts, nl_rev, Bool.and_self, List.length_cons, List.length_nil, List.length_map, List.length_append, List.length_replicate]; done) | (simp -implicitDefEqProofs only [nl_nil, nl_int, nl_bl, nl_non, nl_str, nl_tup, nl_lst, nl_app, nl_ints, nl_rooms, nl_eR, nl_parts, nl_rev, Bool.and_self, List.length_cons, List.length_nil, List.length_map, List.length_append, List.length_replicate]; omega) | (simp -implicitDefEqProofs; done) | (simp -implicitDefEqProofs; omega))) only [E_k, E_d0, E_var, E_bin, E_neg, E_cmp, E_cmp2, E_and, E_or, E_not, E_ite, E_tup, E_idx, E_slc, E_call, E_callk, E_b1, E_b2, E_isi, E_pop, E_inl, E_mk, E_trep, E_trev, E_mink, E_mind, T_and, T_or, T_not, T_cmp, T_cmp2, T_tr, A_nil, A_cons, O_no, O_part, F_disp, F_comp, F_cat, F_rep, F_slc, F_list, F_sort, F_call, C_nil, C_cons, I_rng1, I_rng2, I_rng3, I_enum, I_zip, I_seq, I_rev, S_nil, S_cons, S_pass, S_set, S_setT, S_par, S_aug, S_expr, S_ret, S_retN, S_ite, S_for, S_while, S_app, S_setI, S_setS, S_ins, S_rem, S_brk, S_cont, change_some, change_none, Res.bnd_ok, Res.bnd_exc, Res.bnd_bad, Res.cnd_true, Res.cnd_false, Res.ofO_some, Res.ofO_none, Res.andB_true, Res.andB_false, Res.andB_ok, Res.orB_true, Res.orB_false, Res.orB_ok, Res.andT_true, Res.andT_false, Res.andT_ok, Res.orT_true, Res.orT_false, Res.orT_ok, SRes.sq_nx, SRes.sq_rt, SRes.sq_bk, SRes.sq_ct, SRes.sq_exc, SRes.sq_bad, Res.st_ok, Res.st_exc, Res.st_bad, SRes.cnd_true, SRes.cnd_false, Ret.close_rt, Ret.close_nx, lk_0, lk_s, List.set_cons_zero, List.set_cons_succ, List.getElem?_cons_zero, List.getElem?_cons_succ, List.length_cons, List.length_nil, List.length_map, List.length_append, List.nil_append, List.cons_append, Nat.zero_add, Nat.reduceAdd, Nat.add_zero, v_add, v_sub, v_mul, v_fdiv, v_mod, v_shl, v_pow, v_shr, v_bxor, v_cat, v_neg, v_bool, v_int, v_tup, v_loc, v_aug_add, v_own, c_eq, c_ne, c_lt, c_le, c_gt, c_ge, c_isn_non, c_isn_int, c_isn_tup, c_isn_lst, c_isnn_non, c_isnn_int, c_isnn_tup, c_isnn_lst, c_ist, c_isnt, c_eqB, c_neB, mem_tupI, mem_lstI, nmem_tupI, t_bl, t_int, t_non, t_tup, t_lst, q_tup, q_lst, q_scr, q_loc, lv_lst, lv_loc, sv_scr, sv_lst, sv_loc, ix_v, at_0, at_1, at_2, b_len, b_intB, b_int, b_boolB, b_tupT, b_tupL, b_tup_loc, b_allV, b_anyV, b_anyT, any_bm, any_im, any_b0, any_bc, any_ints, Option.some_or, bo_nil, bo_cons, bools_map, all_mapid, any_mapid, List.all_cons, List.all_nil, List.any_cons, List.any_nil, id, b_sum, b_max, b_min, b_divmod, few_ok, catL_ok, trep_ok, rep_ok, ty_non, ty_bl, ty_int, ty_str, ty_tup, ty_lst, ty_dct, ii_ii, ii_bi, ii_si, ii_ti, ii_li, ii_ni, ii_di, ii_ib, ii_bb, ii_sb, ii_tb, ii_lb, ii_nb, ii_db, ii_it, ii_bt, ii_st, ii_tt, ii_lt, ii_nt, ii_dt, bt_n, bt_t, bt_l, bs_nil, bs_cons, wipe_nil, wipe_cons, sa_nil, sa_cons, Option.bind_some, Option.bind_none, Option.map_some, Option.map_none, r_non, r_bl, r_int, r_str, r_tup, r_lst, r_scr, r_loc, ho_nil, ho_e, ho_f, ho_t, do_call, ioAt, roAt, fin_0, fin_1, fin_rob, fin_roi, fin_ron, fin_ro, fin_1r, lv_non, lv_bl, lv_int, lv_str, lv_tup, lv_lst', lv_loc', to_0, to_1, to_2, leave_eq, nl_nil, nl_int, nl_bl, nl_non, nl_str, nl_tup, nl_lst, nl_app, nl_ints, nl_rooms, nl_eR, nl_rev, ro_eR, ro_eRf, r_eR, q_eR, c_eqR, c_eqRL, c_eqRT, Bool.and_self, Bool.and_true, Bool.true_and, Bool.and_false, Bool.false_and, Bool.or_false, Bool.false_or, Bool.or_true, Bool.true_or, Bool.not_true, Bool.not_false, decide_true, decide_false, Int.cast_ofNat_Int, Int.natCast_add, Int.cast_ofNat_Int, lob_l, gu_ok, app_eq, app_ok, ins_eq, ins_ok, rem_eq, rem_ok, mem_loc, memG_rooms, c_neR, setI_eq, setI_ok, setS_eq, setS_ok, pop_eq, pop_ok, pop_1, Function.comp_apply, Int.reduceToNat, Int.reducePow, Int.reduceNeg, Int.reduceAdd, Int.reduceSub, Int.reduceMul, Int.reduceLT, Int.reduceLE, Int.reduceEq, Nat.reduceSub, Nat.reduceMul, Nat.reducePow, locksOf, st_nil, st_refl, bt_eR, ne_nil, neG_rooms, neG_rooms1, neG_nil, List.map_append, List.map_cons, List.map_nil, argsK, arrange, and_self, if_true, if_false, Bool.false_eq_true, List.map_reverse, rep1, nl_rep, pw_fold, hp_get, hp_set, rng1_ok, b_is_one_room, c_is_one_room_0, eR, turn_eq, compL, consO, is_whole, all_sizes, wide, ht, h1, h2, h4, if_true]

  have : r.1 < pw t := by omega
  simp [this]
theorem check_rooms {t : Int} (n : Nat) (ht : Tall t) {L : List Room} (hL : OutOk t L) : run prog (n + 3) 17 [.int t, .tup (L.map eR)] = rt .non := by
  rw [at_check_rooms]
  obtain ⟨e, h', f1, rfl, _⟩ := for_inv (bd := evalS [] (run prog (n + 2)) l_check_rooms_0) (tg := (.t (.cons (.n 2) (.cons (.n 3) .nil)))) (lock := []) (h0 := []) (fun env h => h = [] ∧ ∃ a b, env = [some (.int t), some (.tup (L.map eR)), a, b]) (l := enumItems 0 (L.map eR)) (fun x hx env h i => by
    obtain ⟨rfl, a, b, rfl⟩ := i
    obtain ⟨k, j, y, ej, hk, rfl⟩ := mem_enum0 hx
    have hy := hL.1 y (List.mem_of_getElem? hk)
    refine ⟨[some (.int t), some (.tup (L.map eR)), some (.int j), some (eR y)], [some (.int t), some (.tup (L.map eR)), some (.int j), some (eR y)], [], by simp -dsimp -implicitDefEqProofs (disch := (first | assumption | omega | (simp -implicitDefEqProofs only [nl_nil, nl_int, nl_bl, nl_non, nl_str, nl_tup, nl_lst, nl_app, nl_ints, nl_rooms, nl_eR, nl_parts, nl_rev, Bool.and_self, List.length_cons, List.length_nil, List.length_map, List.length_append, List.length_replicate]; done) | (simp -implicitDefEqProofs only [nl_nil, nl_int, nl_bl, nl_non, nl_str, nl_tup, nl_lst, nl_app, nl_ints, nl_rooms, nl_eR, nl_parts, nl_rev, Bool.and_self, List.length_cons, List.length_nil, List.length_map, List.length_append, List.length_replicate]; omega) | (simp -implicitDefEqProofs; done) | (simp -implicitDefEqProofs; omega))) only [E_k, E_d0, E_var, E_bin, E_neg, E_cmp, E_cmp2, E_and, E_or, E_not, E_ite, E_tup, E_idx, E_slc, E_call, E_callk, E_b1, E_b2, E_isi, E_pop, E_inl, E_mk, E_trep, E_trev, E_mink, E_mind, T_and, T_or, T_not, T_cmp, T_cmp2, T_tr, A_nil, A_cons, O_no, O_part, F_disp, F_comp, F_cat, F_rep, F_slc, F_list, F_sort, F_call, C_nil, C_cons, I_rng1, I_rng2, I_rng3, I_enum, I_zip, I_seq, I_rev, S_nil, S_cons, S_pass, S_set, S_setT, S_par, S_aug, S_expr, S_ret, S_retN, S_ite, S_for, S_while, S_app, S_setI, S_setS, S_ins, S_rem, S_brk, S_cont, change_some, change_none, Res.bnd_ok, Res.bnd_exc, Res.bnd_bad, Res.cnd_true, Res.cnd_false, Res.ofO_some, Res.ofO_none, Res.andB_true, Res.andB_false, Res.andB_ok, Res.orB_true, Res.orB_false, Res.orB_ok, Res.andT_true, Res.andT_false, Res.andT_ok, Res.orT_true, Res.orT_false, Res.orT_ok, SRes.sq_nx, SRes.sq_rt, SRes.sq_bk, SRes.sq_ct, SRes.sq_exc, SRes.sq_bad, Res.st_ok, Res.st_exc, Res.st_bad, SRes.cnd_true, SRes.cnd_false, Ret.close_rt, Ret.close_nx, lk_0, lk_s, List.set_cons_zero, List.set_cons_succ, List.getElem?_cons_zero, List.getElem?_cons_succ, List.length_cons, List.length_nil, List.length_map, List.length_append, List.nil_append, List.cons_append, Nat.zero_add, Nat.reduceAdd, Nat.add_zero, v_add, v_sub, v_mul, v_fdiv, v_mod, v_shl, v_pow, v_shr, v_bxor, v_cat, v_neg, v_bool, v_int, v_tup, v_loc, v_aug_add, v_own, c_eq, c_ne, c_lt, c_le, c_gt, c_ge, c_isn_non, c_isn_int, c_isn_tup, c_isn_lst, c_isnn_non, c_isnn_int, c_isnn_tup, c_isnn_lst, c_ist, c_isnt, c_eqB, c_neB, mem_tupI, mem_lstI, nmem_tupI, t_bl, t_int, t_non, t_tup, t_lst, q_tup, q_lst, q_scr, q_loc, lv_lst, lv_loc, sv_scr, sv_lst, sv_loc, ix_v, at_0, at_1, at_2, b_len, b_intB, b_int, b_boolB, b_tupT, b_tupL, b_tup_loc, b_allV, b_anyV, b_anyT, any_bm, any_im, any_b0, any_bc, any_ints, Option.some_or, bo_nil, bo_cons, bools_map, all_mapid, any_mapid, List.all_cons, List.all_nil, List.any_cons, List.any_nil, id, b_sum, b_max, b_min, b_divmod, few_ok, catL_ok, trep_ok, rep_ok, ty_non, ty_bl, ty_int, ty_str, ty_tup, ty_lst, ty_dct, ii_ii, ii_bi, ii_si, ii_ti, ii_li, ii_ni, ii_di, ii_ib, ii_bb, ii_sb, ii_tb, ii_lb, ii_nb, ii_db, ii_it, ii_bt, ii_st, ii_tt, ii_lt, ii_nt, ii_dt, bt_n, bt_t, bt_l, bs_nil, bs_cons, wipe_nil, wipe_cons, sa_nil, sa_cons, Option.bind_some, Option.bind_none, Option.map_some, Option.map_none, r_non, r_bl, r_int, r_str, r_tup, r_lst, r_scr, r_loc, ho_nil, ho_e, ho_f, ho_t, do_call, ioAt, roAt, fin_0, fin_1, fin_rob, fin_roi, fin_ron, fin_ro, fin_1r, lv_non, lv_bl, lv_int, lv_str, lv_tup, lv_lst', lv_loc', to_0, to_1, to_2, leave_eq, nl_nil, nl_int, nl_bl, nl_non, nl_str, nl_tup, nl_lst, nl_app, nl_ints, nl_rooms, nl_eR, nl_rev, ro_eR, ro_eRf, r_eR, q_eR, c_eqR, c_eqRL, c_eqRT, Bool.and_self, Bool.and_true, Bool.true_and, Bool.and_false, Bool.false_and, Bool.or_false, Bool.false_or, Bool.or_true, Bool.true_or, Bool.not_true, Bool.not_false, decide_true, decide_false, Int.cast_ofNat_Int, Int.natCast_add, Int.cast_ofNat_Int, lob_l, gu_ok, app_eq, app_ok, ins_eq, ins_ok, rem_eq, rem_ok, mem_loc, memG_rooms, c_neR, setI_eq, setI_ok, setS_eq, setS_ok, pop_eq, pop_ok, pop_1, Function.comp_apply, Int.reduceToNat, Int.reducePow, Int.reduceNeg, Int.reduceAdd, Int.reduceSub, Int.reduceMul, Int.reduceLT, Int.reduceLE, Int.reduceEq, Nat.reduceSub, Nat.reduceMul, Nat.reducePow, locksOf, st_nil, st_refl, bt_eR, ne_nil, neG_rooms, neG_rooms1, neG_nil, List.map_append, List.map_cons, List.map_nil, argsK, arrange, and_self, if_true, if_false, Bool.false_eq_true, List.map_reverse, rep1, nl_rep, pw_fold, hp_get, hp_set, rng1_ok], .inl ?_, st_nil, rfl, _, _, rfl⟩
    cases k with
    | zero =>
      have ej : j = 0 := by simpa using ej
      subst ej
      simp -dsimp -implicitDefEqProofs (disch := (first | assumption | omega | (simp -implicitDefEqProofs only [nl_nil, nl_int, nl_bl, nl_non, nl_str, nl_tup, nl_lst, nl_app, nl_ints, nl_rooms, nl_eR, nl_parts, nl_rev, Bool.and_self, List.length_cons, List.length_nil, List.length_map, List.length_append, List.length_replicate]; done) | (simp -implicitDefEqProofs only [nl_nil, nl_int, nl_bl, nl_non, nl_str, nl_tup, nl_lst, nl_app, nl_ints, nl_rooms, nl_eR, nl_parts, nl_rev, Bool.and_self, List.length_cons, List.length_nil, List.length_map, List.length_append, List.length_replicate]; omega) | (simp -implicitDefEqProofs; done) | (simp -implicitDefEqProofs; omega))) only [E_k, E_d0, E_var, E_bin, E_neg, E_cmp, E_cmp2, E_and, E_or, E_not, E_ite, E_tup, E_idx, E_slc, E_call, E_callk, E_b1, E_b2, E_isi, E_pop, E_inl, E_mk, E_trep, E_trev, E_mink, E_mind, T_and, T_or, T_not, T_cmp, T_cmp2, T_tr, A_nil, A_cons, O_no, O_part, F_disp, F_comp, F_cat, F_rep, F_slc, F_list, F_sort, F_call, C_nil, C_cons, I_rng1, I_rng2, I_rng3, I_enum, I_zip, I_seq, I_rev, S_nil, S_cons, S_pass, S_set, S_setT, S_par, S_aug, S_expr, S_ret, S_retN, S_ite, S_for, S_while, S_app, S_setI, S_setS, S_ins, S_rem, S_brk, S_cont, change_some, change_none, Res.bnd_ok, Res.bnd_exc, Res.bnd_bad, Res.cnd_true, Res.cnd_false, Res.ofO_some, Res.ofO_none, Res.andB_true, Res.andB_false, Res.andB_ok, Res.orB_true, Res.orB_false, Res.orB_ok, Res.andT_true, Res.andT_false, Res.andT_ok, Res.orT_true, Res.orT_false, Res.orT_ok, SRes.sq_nx, SRes.sq_rt, SRes.sq_bk, SRes.sq_ct, SRes.sq_exc, SRes.sq_bad, Res.st_ok, Res.st_exc, Res.st_bad, SRes.cnd_true, SRes.cnd_false, Ret.close_rt, Ret.close_nx, lk_0, lk_s, List.set_cons_zero, List.set_cons_succ, List.getElem?_cons_zero, List.getElem?_cons_succ, List.length_cons, List.length_nil, List.length_map, List.length_append, List.nil_append, List.cons_append, Nat.zero_add, Nat.reduceAdd, Nat.add_zero, v_add, v_sub, v_mul, v_fdiv, v_mod, v_shl, v_pow, v_shr, v_bxor, v_cat, v_neg, v_bool, v_int, v_tup, v_loc, v_aug_add, v_own, c_eq, c_ne, c_lt, c_le, c_gt, c_ge, c_isn_non, c_isn_int, c_isn_tup, c_isn_lst, c_isnn_non, c_isnn_int, c_isnn_tup, c_isnn_lst, c_ist, c_isnt, c_eqB, c_neB, mem_tupI, mem_lstI, nmem_tupI, t_bl, t_int, t_non, t_tup, t_lst, q_tup, q_lst, q_scr, q_loc, lv_lst, lv_loc, sv_scr, sv_lst, sv_loc, ix_v, at_0, at_1, at_2, b_len, b_intB, b_int, b_boolB, b_tupT, b_tupL, b_tup_loc, b_allV, b_anyV, b_anyT, any_bm, any_im, any_b0, any_bc, any_ints, Option.some_or, bo_nil, bo_cons, bools_map, all_mapid, any_mapid, List.all_cons, List.all_nil, List.any_cons, List.any_nil, id, b_sum, b_max, b_min, b_divmod, few_ok, catL_ok, trep_ok, rep_ok, ty_non, ty_bl, ty_int, ty_str, ty_tup, ty_lst, ty_dct, ii_ii, ii_bi, ii_si, ii_ti, ii_li, ii_ni, ii_di, ii_ib, ii_bb, ii_sb, ii_tb, ii_lb, ii_nb, ii_db, ii_it, ii_bt, ii_st, ii_tt, ii_lt, ii_nt, ii_dt, bt_n, bt_t, bt_l, bs_nil, bs_cons, wipe_nil, wipe_cons, sa_nil, sa_cons, Option.bind_some, Option.bind_none, Option.map_some, Option.map_none, r_non, r_bl, r_int, r_str, r_tup, r_lst, r_scr, r_loc, ho_nil, ho_e, ho_f, ho_t, do_call, ioAt, roAt, fin_0, fin_1, fin_rob, fin_roi, fin_ron, fin_ro, fin_1r, lv_non, lv_bl, lv_int, lv_str, lv_tup, lv_lst', lv_loc', to_0, to_1, to_2, leave_eq, nl_nil, nl_int, nl_bl, nl_non, nl_str, nl_tup, nl_lst, nl_app, nl_ints, nl_rooms, nl_eR, nl_rev, ro_eR, ro_eRf, r_eR, q_eR, c_eqR, c_eqRL, c_eqRT, Bool.and_self, Bool.and_true, Bool.true_and, Bool.and_false, Bool.false_and, Bool.or_false, Bool.false_or, Bool.or_true, Bool.true_or, Bool.not_true, Bool.not_false, decide_true, decide_false, Int.cast_ofNat_Int, Int.natCast_add, Int.cast_ofNat_Int, lob_l, gu_ok, app_eq, app_ok, ins_eq, ins_ok, rem_eq, rem_ok, mem_loc, memG_rooms, c_neR, setI_eq, setI_ok, setS_eq, setS_ok, pop_eq, pop_ok, pop_1, Function.comp_apply, Int.reduceToNat, Int.reducePow, Int.reduceNeg, Int.reduceAdd, Int.reduceSub, Int.reduceMul, Int.reduceLT, Int.reduceLE, Int.reduceEq, Nat.reduceSub, Nat.reduceMul, Nat.reducePow, locksOf, st_nil, st_refl, bt_eR, ne_nil, neG_rooms, neG_rooms1, neG_nil, List.map_append, List.map_cons, List.map_nil, argsK, arrange, and_self, if_true, if_false, Bool.false_eq_true, List.map_reverse, rep1, nl_rep, pw_fold, hp_get, hp_set, rng1_ok, l_check_rooms_0, one_room, ht, hy, Int.lt_irrefl]
    | succ k =>
      have hk2 : k < L.length := by have := (List.getElem?_eq_some_iff.mp hk).1; omega
      have hkl : k + 1 < L.length := (List.getElem?_eq_some_iff.mp hk).1
      have e1 : atI L (j - 1) = some L[k] := by
        rw [at_ok (by omega) (by omega)]
        have : (j - 1).toNat = k := by omega
        rw [this, List.getElem?_eq_getElem hk2]
      have e2 : y = L[k + 1] := by rw [List.getElem?_eq_getElem hkl] at hk; exact (Option.some.inj hk).symm
      have hp := List.pairwise_iff_getElem.mp hL.2 k (k + 1) hk2 hkl (by omega)
      rw [← e2] at hp
      have e0 : 0 < j := by omega
      have b1 := (hL.1 _ (List.getElem_mem hk2)).bd ht
      have b2 := hy.bd ht
      have e3 : cmpV [] .le (eR y) (eR L[k]) = some false := by
        have h1 : ¬ (y.1 < L[k].1) := by omega
        have h2 : ¬ (y.1 = L[k].1) := by omega
        have h3 : L[k].1 < y.1 := by omega
        have h4 : ¬ L[k].1 = y.1 := by omega
        simp [cmpV, eR, intsOf, lexLe, lexLt, h3, h4]
      have e4 : tch y L[k] = false := by
        have : ¬ (y.1 < L[k].1 + L[k].2) := by omega
        simp [tch, this]
      simp -dsimp -implicitDefEqProofs (disch := (first | assumption | omega | (simp -implicitDefEqProofs only [nl_nil, nl_int, nl_bl, nl_non, nl_str, nl_tup, nl_lst, nl_app, nl_ints, nl_rooms, nl_eR, nl_parts, nl_rev, Bool.and_self, List.length_cons, List.length_nil, List.length_map, List.length_append, List.length_replicate]; done) | (simp -implicitDefEqProofs only [nl_nil, nl_int, nl_bl, nl_non, nl_str, nl_tup, nl_lst, nl_app, nl_ints, nl_rooms, nl_eR, nl_parts, nl_rev, Bool.and_self, List.length_cons, List.length_nil, List.length_map, List.length_append, List.length_replicate]; omega) | (simp -implicitDefEqProofs; done) | (simp -implicitDefEqProofs; omega))) only [E_k, E_d0, E_var, E_bin, E_neg, E_cmp, E_cmp2, E_and, E_or, E_not, E_ite, E_tup, E_idx, E_slc, E_call, E_callk, E_b1, E_b2, E_isi, E_pop, E_inl, E_mk, E_trep, E_trev, E_mink, E_mind, T_and, T_or, T_not, T_cmp, T_cmp2, T_tr, A_nil, A_cons, O_no, O_part, F_disp, F_comp, F_cat, F_rep, F_slc, F_list, F_sort, F_call, C_nil, C_cons, I_rng1, I_rng2, I_rng3, I_enum, I_zip, I_seq, I_rev, S_nil, S_cons, S_pass, S_set, S_setT, S_par, S_aug, S_expr, S_ret, S_retN, S_ite, S_for, S_while, S_app, S_setI, S_setS, S_ins, S_rem, S_brk, S_cont, change_some, change_none, Res.bnd_ok, Res.bnd_exc, Res.bnd_bad, Res.cnd_true, Res.cnd_false, Res.ofO_some, Res.ofO_none, Res.andB_true, Res.andB_false, Res.andB_ok, Res.orB_true, Res.orB_false, Res.orB_ok, Res.andT_true, Res.andT_false, Res.andT_ok, Res.orT_true, Res.orT_false, Res.orT_ok, SRes.sq_nx, SRes.sq_rt, SRes.sq_bk, SRes.sq_ct, SRes.sq_exc, SRes.sq_bad, Res.st_ok, Res.st_exc, Res.st_bad, SRes.cnd_true, SRes.cnd_false, Ret.close_rt, Ret.close_nx, lk_0, lk_s, List.set_cons_zero, List.set_cons_succ, List.getElem?_cons_zero, List.getElem?_cons_succ, List.length_cons, List.length_nil, List.length_map, List.length_append, List.nil_append, List.cons_append, Nat.zero_add, Nat.reduceAdd, Nat.add_zero, v_add, v_sub, v_mul, v_fdiv, v_mod, v_shl, v_pow, v_shr, v_bxor, v_cat, v_neg, v_bool, v_int, v_tup, v_loc, v_aug_add, v_own, c_eq, c_ne, c_lt, c_le, c_gt, c_ge, c_isn_non, c_isn_int, c_isn_tup, c_isn_lst, c_isnn_non, c_isnn_int, c_isnn_tup, c_isnn_lst, c_ist, c_isnt, c_eqB, c_neB, mem_tupI, mem_lstI, nmem_tupI, t_bl, t_int, t_non, t_tup, t_lst, q_tup, q_lst, q_scr, q_loc, lv_lst, lv_loc, sv_scr, sv_lst, sv_loc, ix_v, at_0, at_1, at_2, b_len, b_intB, b_int, b_boolB, b_tupT, b_tupL, b_tup_loc, b_allV, b_anyV, b_anyT, any_bm, any_im, any_b0, any_bc, any_ints, Option.some_or, bo_nil, bo_cons, bools_map, all_mapid, any_mapid, List.all_cons, List.all_nil, List.any_cons, List.any_nil, id, b_sum, b_max, b_min, b_divmod, few_ok, catL_ok, trep_ok, rep_ok, ty_non, ty_bl, ty_int, ty_str, ty_tup, ty_lst, ty_dct, ii_ii, ii_bi, ii_si, ii_ti, ii_li, ii_ni, ii_di, ii_ib, ii_bb, ii_sb, ii_tb, ii_lb, ii_nb, ii_db, ii_it, ii_bt, ii_st, ii_tt, ii_lt, ii_nt, ii_dt, bt_n, bt_t, bt_l, bs_nil, bs_cons, wipe_nil, wipe_cons, sa_nil, sa_cons, Option.bind_some, Option.bind_none, Option.map_some, Option.map_none, r_non, r_bl, r_int, r_str, r_tup, r_lst, r_scr, r_loc, ho_nil, ho_e, ho_f, ho_t, do_call, ioAt, roAt, fin_0, fin_1, fin_rob, fin_roi, fin_ron, fin_ro, fin_1r, lv_non, lv_bl, lv_int, lv_str, lv_tup, lv_lst', lv_loc', to_0, to_1, to_2, leave_eq, nl_nil, nl_int, nl_bl, nl_non, nl_str, nl_tup, nl_lst, nl_app, nl_ints, nl_rooms, nl_eR, nl_rev, ro_eR, ro_eRf, r_eR, q_eR, c_eqR, c_eqRL, c_eqRT, Bool.and_self, Bool.and_true, Bool.true_and, Bool.and_false, Bool.false_and, Bool.or_false, Bool.false_or, Bool.or_true, Bool.true_or, Bool.not_true, Bool.not_false, decide_true, decide_false, Int.cast_ofNat_Int, Int.natCast_add, Int.cast_ofNat_Int, lob_l, gu_ok, app_eq, app_ok, ins_eq, ins_ok, rem_eq, rem_ok, mem_loc, memG_rooms, c_neR, setI_eq, setI_ok, setS_eq, setS_ok, pop_eq, pop_ok, pop_1, Function.comp_apply, Int.reduceToNat, Int.reducePow, Int.reduceNeg, Int.reduceAdd, Int.reduceSub, Int.reduceMul, Int.reduceLT, Int.reduceLE, Int.reduceEq, Nat.reduceSub, Nat.reduceMul, Nat.reducePow, locksOf, st_nil, st_refl, bt_eR, ne_nil, neG_rooms, neG_rooms1, neG_nil, List.map_append, List.map_cons, List.map_nil, argsK, arrange, and_self, if_true, if_false, Bool.false_eq_true, List.map_reverse, rep1, nl_rep, pw_fold, hp_get, hp_set, rng1_ok, l_check_rooms_0, one_room, ht, hy, at_map, e1, e3, e4, touch, e0]) [some (.int t), some (.tup (L.map eR)), none, none] [] ⟨rfl, none, none, rfl⟩
  simp -dsimp -implicitDefEqProofs (disch := (first | assumption | omega | (simp -implicitDefEqProofs only [nl_nil, nl_int, nl_bl, nl_non, nl_str, nl_tup, nl_lst, nl_app, nl_ints, nl_rooms, nl_eR, nl_parts, nl_rev, Bool.and_self, List.length_cons, List.length_nil, List.length_map, List.length_append, List.length_replicate]; done) | (simp -implicitDefEqProofs only [nl_nil, nl_int, nl_bl, nl_non, nl_str, nl_tup, nl_lst, nl_app, nl_ints, nl_rooms, nl_eR, nl_parts, nl_rev, Bool.and_self, List.length_cons, List.length_nil, List.length_map, List.length_append, List.length_replicate]; omega) | (simp -implicitDefEqProofs; done) | (simp -implicitDefEqProofs; omega))) only [E_k, E_d0, E_var, E_bin, E_neg, E_cmp, E_cmp2, E_and, E_or, E_not, E_ite, E_tup, E_idx, E_slc, E_call, E_callk, E_b1, E_b2, E_isi, E_pop, E_inl, E_mk, E_trep, E_trev, E_mink, E_mind, T_and, T_or, T_not, T_cmp, T_cmp2, T_tr, A_nil, A_cons, O_no, O_part, F_disp, F_comp, F_cat, F_rep, F_slc, F_list, F_sort, F_call, C_nil, C_cons, I_rng1, I_rng2, I_rng3, I_enum, I_zip, I_seq, I_rev, S_nil, S_cons, S_pass, S_set, S_setT, S_par, S_aug, S_expr, S_ret, S_retN, S_ite, S_for, S_while, S_app, S_setI, S_setS, S_ins, S_rem, S_brk, S_cont, change_some, change_none, Res.bnd_ok, Res.bnd_exc, Res.bnd_bad, Res.cnd_true, Res.cnd_false, Res.ofO_some, Res.ofO_none, Res.andB_true, Res.andB_false, Res.andB_ok, Res.orB_true, Res.orB_false, Res.orB_ok, Res.andT_true, Res.andT_false, Res.andT_ok, Res.orT_true, Res.orT_false, Res.orT_ok, SRes.sq_nx, SRes.sq_rt, SRes.sq_bk, SRes.sq_ct, SRes.sq_exc, SRes.sq_bad, Res.st_ok, Res.st_exc, Res.st_bad, SRes.cnd_true, SRes.cnd_false, Ret.close_rt, Ret.close_nx, lk_0, lk_s, List.set_cons_zero, List.set_cons_succ, List.getElem?_cons_zero, List.getElem?_cons_succ, List.length_cons, List.length_nil, List.length_map, List.length_append, List.nil_append, List.cons_append, Nat.zero_add, Nat.reduceAdd, Nat.add_zero, v_add, v_sub, v_mul, v_fdiv, v_mod, v_shl, v_pow, v_shr, v_bxor, v_cat, v_neg, v_bool, v_int, v_tup, v_loc, v_aug_add, v_own, c_eq, c_ne, c_lt, c_le, c_gt, c_ge, c_isn_non, c_isn_int, c_isn_tup, c_isn_lst, c_isnn_non, c_isnn_int, c_isnn_tup, c_isnn_lst, c_ist, c_isnt, c_eqB, c_neB, mem_tupI, mem_lstI, nmem_tupI, t_bl, t_int, t_non, t_tup, t_lst, q_tup, q_lst, q_scr, q_loc, lv_lst, lv_loc, sv_scr, sv_lst, sv_loc, ix_v, at_0, at_1, at_2, b_len, b_intB, b_int, b_boolB, b_tupT, b_tupL, b_tup_loc, b_allV, b_anyV, b_anyT, any_bm, any_im, any_b0, any_bc, any_ints, Option.some_or, bo_nil, bo_cons, bools_map, all_mapid, any_mapid, List.all_cons, List.all_nil, List.any_cons, List.any_nil, id, b_sum, b_max, b_min, b_divmod, few_ok, catL_ok, trep_ok, rep_ok, ty_non, ty_bl, ty_int, ty_str, ty_tup, ty_lst, ty_dct, ii_ii, ii_bi, ii_si, ii_ti, ii_li, ii_ni, ii_di, ii_ib, ii_bb, ii_sb, ii_tb, ii_lb, ii_nb, ii_db, ii_it, ii_bt, ii_st, ii_tt, ii_lt, ii_nt, ii_dt, bt_n, bt_t, bt_l, bs_nil, bs_cons, wipe_nil, wipe_cons, sa_nil, sa_cons, Option.bind_some, Option.bind_none, Option.map_some, Option.map_none, r_non, r_bl, r_int, r_str, r_tup, r_lst, r_scr, r_loc, ho_nil, ho_e, ho_f, ho_t, do_call, ioAt, roAt, fin_0, fin_1, fin_rob, fin_roi, fin_ron, fin_ro, fin_1r, lv_non, lv_bl, lv_int, lv_str, lv_tup, lv_lst', lv_loc', to_0, to_1, to_2, leave_eq, nl_nil, nl_int, nl_bl, nl_non, nl_str, nl_tup, nl_lst, nl_app, nl_ints, nl_rooms, nl_eR, nl_rev, ro_eR, ro_eRf, r_eR, q_eR, c_eqR, c_eqRL, c_eqRT, Bool.and_self, Bool.and_true, Bool.true_and, Bool.and_false, Bool.false_and, Bool.or_false, Bool.false_or, Bool.or_true, Bool.true_or, Bool.not_true, Bool.not_false, decide_true, decide_false, Int.cast_ofNat_Int, Int.natCast_add, Int.cast_ofNat_Int, lob_l, gu_ok, app_eq, app_ok, ins_eq, ins_ok, rem_eq, rem_ok, mem_loc, memG_rooms, c_neR, setI_eq, setI_ok, setS_eq, setS_ok, pop_eq, pop_ok, pop_1, Function.comp_apply, Int.reduceToNat, Int.reducePow, Int.reduceNeg, Int.reduceAdd, Int.reduceSub, Int.reduceMul, Int.reduceLT, Int.reduceLE, Int.reduceEq, Nat.reduceSub, Nat.reduceMul, Nat.reducePow, locksOf, st_nil, st_refl, bt_eR, ne_nil, neG_rooms, neG_rooms1, neG_nil, List.map_append, List.map_cons, List.map_nil, argsK, arrange, and_self, if_true, if_false, Bool.false_eq_true, List.map_reverse, rep1, nl_rep, pw_fold, hp_get, hp_set, rng1_ok, b_check_rooms, f1]
theorem check_out {t : Int} (n : Nat) (ht : Tall t) {L : List Room} (hL : OutOk t L) : run prog (n + 4) 18 [.int t, .tup (L.map eR)] = rt .non := by
  rw [at_check_out]
  simp -dsimp -implicitDefEqProofs (disch := (first | assumption | omega | (simp -implicitDefEqProofs only [nl_nil, nl_int, nl_bl, nl_non, nl_str, nl_tup, nl_lst, nl_app, nl_ints, nl_rooms, nl_eR, nl_parts, nl_rev, Bool.and_self, List.length_cons, List.length_nil, List.length_map, List.length_append, List.length_replicate]; done) | (simp -implicitDefEqProofs only [nl_nil, nl_int, nl_bl, nl_non, nl_str, nl_tup, nl_lst, nl_app, nl_ints, nl_rooms, nl_eR, nl_parts, nl_rev, Bool.and_self, List.length_cons, List.length_nil, List.length_map, List.length_append, List.length_replicate]; omega) | (simp -implicitDefEqProofs; done) | (simp -implicitDefEqProofs; omega))) only [E_k, E_d0, E_var, E_bin, E_neg, E_cmp, E_cmp2, E_and, E_or, E_not, E_ite, E_tup, E_idx, E_slc, E_call, E_callk, E_b1, E_b2, E_isi, E_pop, E_inl, E_mk, E_trep, E_trev, E_mink, E_mind, T_and, T_or, T_not, T_cmp, T_cmp2, T_tr, A_nil, A_cons, O_no, O_part, F_disp, F_comp, F_cat, F_rep, F_slc, F_list, F_sort, F_call, C_nil, C_cons, I_rng1, I_rng2, I_rng3, I_enum, I_zip, I_seq, I_rev, S_nil, S_cons, S_pass, S_set, S_setT, S_par, S_aug, S_expr, S_ret, S_retN, S_ite, S_for, S_while, S_app, S_setI, S_setS, S_ins, S_rem, S_brk, S_cont, change_some, change_none, Res.bnd_ok, Res.bnd_exc, Res.bnd_bad, Res.cnd_true, Res.cnd_false, Res.ofO_some, Res.ofO_none, Res.andB_true, Res.andB_false, Res.andB_ok, Res.orB_true, Res.orB_false, Res.orB_ok, Res.andT_true, Res.andT_false, Res.andT_ok, Res.orT_true, Res.orT_false, Res.orT_ok, SRes.sq_nx, SRes.sq_rt, SRes.sq_bk, SRes.sq_ct, SRes.sq_exc, SRes.sq_bad, Res.st_ok, Res.st_exc, Res.st_bad, SRes.cnd_true, SRes.cnd_false, Ret.close_rt, Ret.close_nx, lk_0, lk_s, List.set_cons_zero, List.set_cons_succ, List.getElem?_cons_zero, List.getElem?_cons_succ, List.length_cons, List.length_nil, List.length_map, List.length_append, List.nil_append, List.cons_append, Nat.zero_add, Nat.reduceAdd, Nat.add_zero, v_add, v_sub, v_mul, v_fdiv, v_mod, v_shl, v_pow, v_shr, v_bxor, v_cat, v_neg, v_bool, v_int, v_tup, v_loc, v_aug_add, v_own, c_eq, c_ne, c_lt, c_le, c_gt, c_ge, c_isn_non, c_isn_int, c_isn_tup, c_isn_lst, c_isnn_non, c_isnn_int, c_isnn_tup, c_isnn_lst, c_ist, c_isnt, c_eqB, c_neB, mem_tupI, mem_lstI, nmem_tupI, t_bl, t_int, t_non, t_tup, t_lst, q_tup, q_lst, q_scr, q_loc, lv_lst, lv_loc, sv_scr, sv_lst, sv_loc, ix_v, at_0, at_1, at_2, b_len, b_intB, b_int, b_boolB, b_tupT, b_tupL, b_tup_loc, b_allV, b_anyV, b_anyT, any_bm, any_im, any_b0, any_bc, any_ints, Option.some_or, bo_nil, bo_cons, bools_map, all_mapid, any_mapid, List.all_cons, List.all_nil, List.any_cons, List.any_nil, id, b_sum, b_max, b_min, b_divmod, few_ok, catL_ok, trep_ok, rep_ok, ty_non, ty_bl, ty_int, ty_str, ty_tup, ty_lst, ty_dct, ii_ii, ii_bi, ii_si, ii_ti, ii_li, ii_ni, ii_di, ii_ib, ii_bb, ii_sb, ii_tb, ii_lb, ii_nb, ii_db, ii_it, ii_bt, ii_st, ii_tt, ii_lt, ii_nt, ii_dt, bt_n, bt_t, bt_l, bs_nil, bs_cons, wipe_nil, wipe_cons, sa_nil, sa_cons, Option.bind_some, Option.bind_none, Option.map_some, Option.map_none, r_non, r_bl, r_int, r_str, r_tup, r_lst, r_scr, r_loc, ho_nil, ho_e, ho_f, ho_t, do_call, ioAt, roAt, fin_0, fin_1, fin_rob, fin_roi, fin_ron, fin_ro, fin_1r, lv_non, lv_bl, lv_int, lv_str, lv_tup, lv_lst', lv_loc', to_0, to_1, to_2, leave_eq, nl_nil, nl_int, nl_bl, nl_non, nl_str, nl_tup, nl_lst, nl_app, nl_ints, nl_rooms, nl_eR, nl_rev, ro_eR, ro_eRf, r_eR, q_eR, c_eqR, c_eqRL, c_eqRT, Bool.and_self, Bool.and_true, Bool.true_and, Bool.and_false, Bool.false_and, Bool.or_false, Bool.false_or, Bool.or_true, Bool.true_or, Bool.not_true, Bool.not_false, decide_true, decide_false, Int.cast_ofNat_Int, Int.natCast_add, Int.cast_ofNat_Int, lob_l, gu_ok, app_eq, app_ok, ins_eq, ins_ok, rem_eq, rem_ok, mem_loc, memG_rooms, c_neR, setI_eq, setI_ok, setS_eq, setS_ok, pop_eq, pop_ok, pop_1, Function.comp_apply, Int.reduceToNat, Int.reducePow, Int.reduceNeg, Int.reduceAdd, Int.reduceSub, Int.reduceMul, Int.reduceLT, Int.reduceLE, Int.reduceEq, Nat.reduceSub, Nat.reduceMul, Nat.reducePow, locksOf, st_nil, st_refl, bt_eR, ne_nil, neG_rooms, neG_rooms1, neG_nil, List.map_append, List.map_cons, List.map_nil, argsK, arrange, and_self, if_true, if_false, Bool.false_eq_true, List.map_reverse, rep1, nl_rep, pw_fold, hp_get, hp_set, rng1_ok, b_check_out, check_height, check_rooms, ht, hL]
def spc (t s : Int) (L : List Room) : List Room := (roomsOf t s).filter fun r => !L.any (tch r)
/-! LIBmapA: the laws' own map, by marks -/
open Dy
theorem free (n : Nat) {N a s : Int} {f : Int → Int} (h0 : 0 ≤ a) (h1 : 0 ≤ s) (h2 : a + s ≤ N) : run prog (n + 1) 4 [.lst ((cells N f).map .int), .int a, .int s] = rt (.bl (freeB f a s)) := by
  have e := cut_cells (f := f) h0 h1 h2
  rw [at__law_free]
  simp -dsimp -implicitDefEqProofs (disch := (first | assumption | omega | (simp -implicitDefEqProofs only [nl_nil, nl_int, nl_bl, nl_non, nl_str, nl_tup, nl_lst, nl_app, nl_ints, nl_rooms, nl_eR, nl_parts, nl_rev, Bool.and_self, List.length_cons, List.length_nil, List.length_map, List.length_append, List.length_replicate]; done) | (simp -implicitDefEqProofs only [nl_nil, nl_int, nl_bl, nl_non, nl_str, nl_tup, nl_lst, nl_app, nl_ints, nl_rooms, nl_eR, nl_parts, nl_rev, Bool.and_self, List.length_cons, List.length_nil, List.length_map, List.length_append, List.length_replicate]; omega) | (simp -implicitDefEqProofs; done) | (simp -implicitDefEqProofs; omega))) only [E_k, E_d0, E_var, E_bin, E_neg, E_cmp, E_cmp2, E_and, E_or, E_not, E_ite, E_tup, E_idx, E_slc, E_call, E_callk, E_b1, E_b2, E_isi, E_pop, E_inl, E_mk, E_trep, E_trev, E_mink, E_mind, T_and, T_or, T_not, T_cmp, T_cmp2, T_tr, A_nil, A_cons, O_no, O_part, F_disp, F_comp, F_cat, F_rep, F_slc, F_list, F_sort, F_call, C_nil, C_cons, I_rng1, I_rng2, I_rng3, I_enum, I_zip, I_seq, I_rev, S_nil, S_cons, S_pass, S_set, S_setT, S_par, S_aug, S_expr, S_ret, S_retN, S_ite, S_for, S_while, S_app, S_setI, S_setS, S_ins, S_rem, S_brk, S_cont, change_some, change_none, Res.bnd_ok, Res.bnd_exc, Res.bnd_bad, Res.cnd_true, Res.cnd_false, Res.ofO_some, Res.ofO_none, Res.andB_true, Res.andB_false, Res.andB_ok, Res.orB_true, Res.orB_false, Res.orB_ok, Res.andT_true, Res.andT_false, Res.andT_ok, Res.orT_true, Res.orT_false, Res.orT_ok, SRes.sq_nx, SRes.sq_rt, SRes.sq_bk, SRes.sq_ct, SRes.sq_exc, SRes.sq_bad, Res.st_ok, Res.st_exc, Res.st_bad, SRes.cnd_true, SRes.cnd_false, Ret.close_rt, Ret.close_nx, lk_0, lk_s, List.set_cons_zero, List.set_cons_succ, List.getElem?_cons_zero, List.getElem?_cons_succ, List.length_cons, List.length_nil, List.length_map, List.length_append, List.nil_append, List.cons_append, Nat.zero_add, Nat.reduceAdd, Nat.add_zero, v_add, v_sub, v_mul, v_fdiv, v_mod, v_shl, v_pow, v_shr, v_bxor, v_cat, v_neg, v_bool, v_int, v_tup, v_loc, v_aug_add, v_own, c_eq, c_ne, c_lt, c_le, c_gt, c_ge, c_isn_non, c_isn_int, c_isn_tup, c_isn_lst, c_isnn_non, c_isnn_int, c_isnn_tup, c_isnn_lst, c_ist, c_isnt, c_eqB, c_neB, mem_tupI, mem_lstI, nmem_tupI, t_bl, t_int, t_non, t_tup, t_lst, q_tup, q_lst, q_scr, q_loc, lv_lst, lv_loc, sv_scr, sv_lst, sv_loc, ix_v, at_0, at_1, at_2, b_len, b_intB, b_int, b_boolB, b_tupT, b_tupL, b_tup_loc, b_allV, b_anyV, b_anyT, any_bm, any_im, any_b0, any_bc, any_ints, Option.some_or, bo_nil, bo_cons, bools_map, all_mapid, any_mapid, List.all_cons, List.all_nil, List.any_cons, List.any_nil, id, b_sum, b_max, b_min, b_divmod, few_ok, catL_ok, trep_ok, rep_ok, ty_non, ty_bl, ty_int, ty_str, ty_tup, ty_lst, ty_dct, ii_ii, ii_bi, ii_si, ii_ti, ii_li, ii_ni, ii_di, ii_ib, ii_bb, ii_sb, ii_tb, ii_lb, ii_nb, ii_db, ii_it, ii_bt, ii_st, ii_tt, ii_lt, ii_nt, ii_dt, bt_n, bt_t, bt_l, bs_nil, bs_cons, wipe_nil, wipe_cons, sa_nil, sa_cons, Option.bind_some, Option.bind_none, Option.map_some, Option.map_none, r_non, r_bl, r_int, r_str, r_tup, r_lst, r_scr, r_loc, ho_nil, ho_e, ho_f, ho_t, do_call, ioAt, roAt, fin_0, fin_1, fin_rob, fin_roi, fin_ron, fin_ro, fin_1r, lv_non, lv_bl, lv_int, lv_str, lv_tup, lv_lst', lv_loc', to_0, to_1, to_2, leave_eq, nl_nil, nl_int, nl_bl, nl_non, nl_str, nl_tup, nl_lst, nl_app, nl_ints, nl_rooms, nl_eR, nl_rev, ro_eR, ro_eRf, r_eR, q_eR, c_eqR, c_eqRL, c_eqRT, Bool.and_self, Bool.and_true, Bool.true_and, Bool.and_false, Bool.false_and, Bool.or_false, Bool.false_or, Bool.or_true, Bool.true_or, Bool.not_true, Bool.not_false, decide_true, decide_false, Int.cast_ofNat_Int, Int.natCast_add, Int.cast_ofNat_Int, lob_l, gu_ok, app_eq, app_ok, ins_eq, ins_ok, rem_eq, rem_ok, mem_loc, memG_rooms, c_neR, setI_eq, setI_ok, setS_eq, setS_ok, pop_eq, pop_ok, pop_1, Function.comp_apply, Int.reduceToNat, Int.reducePow, Int.reduceNeg, Int.reduceAdd, Int.reduceSub, Int.reduceMul, Int.reduceLT, Int.reduceLE, Int.reduceEq, Nat.reduceSub, Nat.reduceMul, Nat.reducePow, locksOf, st_nil, st_refl, bt_eR, ne_nil, neG_rooms, neG_rooms1, neG_nil, List.map_append, List.map_cons, List.map_nil, argsK, arrange, and_self, if_true, if_false, Bool.false_eq_true, List.map_reverse, rep1, nl_rep, pw_fold, hp_get, hp_set, rng1_ok, b__law_free, e]
  rfl
/-- a room's cells are marked -/
theorem mark_turn {t : Int} (ht : Tall t) {cb : CB} {r : Room} (hr : Valid t r) {f : Int → Int} {k : Nat} (K : Val) (x3 x4 x5 x6 x7 x8 x9 x10 x11 : Option Val) :
    evalS [] cb l__law_map_2 [some (.int t), some K, some (.loc 0), some (.int k), some (.int r.1), some (.int r.2), x6, x7, x8, x9, x10, x11] [.list ((cells (pw t) f).map .int)] =
      .ok (.nx [some (.int t), some K, some (.loc 0), some (.int k), some (.int r.1), some (.int r.2), x6, x7, x8, x9, x10, x11]) [.list ((cells (pw t) fun c => if r.1 ≤ c ∧ c < r.1 + r.2 then (k : Int) + 1 else f c).map .int)] := by
  have b := hr.bd ht
  have b2 := pw_bd ht
  have b3 := hr.2.2.1
  have hc : (cells (pw t) f).length = (pw t).toNat := cells_len
  have e := cells_patch (N := pw t) (a := r.1) (s := r.2) (v := (k : Int) + 1) (f := f) (by omega) (by omega) b3
  have e2 : List.take r.1.toNat ((cells (pw t) f).map Val.int) ++ (List.replicate r.2.toNat ((k : Int) + 1)).map Val.int ++ List.drop (r.1 + r.2).toNat ((cells (pw t) f).map Val.int) = (cells (pw t) fun c => if r.1 ≤ c ∧ c < r.1 + r.2 then (k : Int) + 1 else f c).map Val.int := by
    rw [← e]; simp [List.map_append, List.map_take, List.map_drop]
  simp -dsimp -implicitDefEqProofs (disch := (first | assumption | omega | (simp -implicitDefEqProofs only [nl_nil, nl_int, nl_bl, nl_non, nl_str, nl_tup, nl_lst, nl_app, nl_ints, nl_rooms, nl_eR, nl_parts, nl_rev, Bool.and_self, List.length_cons, List.length_nil, List.length_map, List.length_append, List.length_replicate]; done) | (simp -implicitDefEqProofs only [nl_nil, nl_int, nl_bl, nl_non, nl_str, nl_tup, nl_lst, nl_app, nl_ints, nl_rooms, nl_eR, nl_parts, nl_rev, Bool.and_self, List.length_cons, List.length_nil, List.length_map, List.length_append, List.length_replicate]; omega) | (simp -implicitDefEqProofs; done) | (simp -implicitDefEqProofs; omega))) only [E_k, E_d0, E_var, E_bin, E_neg, E_cmp, E_cmp2, E_and, E_or, E_not, E_ite, E_tup, E_idx, E_slc, E_call, E_callk, E_b1, E_b2, E_isi, E_pop, E_inl, E_mk, E_trep, E_trev, E_mink, E_mind, T_and, T_or, T_not, T_cmp, T_cmp2, T_tr, A_nil, A_cons, O_no, O_part, F_disp, F_comp, F_cat, F_rep, F_slc, F_list, F_sort, F_call, C_nil, C_cons, I_rng1, I_rng2, I_rng3, I_enum, I_zip, I_seq, I_rev, S_nil, S_cons, S_pass, S_set, S_setT, S_par, S_aug, S_expr, S_ret, S_retN, S_ite, S_for, S_while, S_app, S_setI, S_setS, S_ins, S_rem, S_brk, S_cont, change_some, change_none, Res.bnd_ok, Res.bnd_exc, Res.bnd_bad, Res.cnd_true, Res.cnd_false, Res.ofO_some, Res.ofO_none, Res.andB_true, Res.andB_false, Res.andB_ok, Res.orB_true, Res.orB_false, Res.orB_ok, Res.andT_true, Res.andT_false, Res.andT_ok, Res.orT_true, Res.orT_false, Res.orT_ok, SRes.sq_nx, SRes.sq_rt, SRes.sq_bk, SRes.sq_ct, SRes.sq_exc, SRes.sq_bad, Res.st_ok, Res.st_exc, Res.st_bad, SRes.cnd_true, SRes.cnd_false, Ret.close_rt, Ret.close_nx, lk_0, lk_s, List.set_cons_zero, List.set_cons_succ, List.getElem?_cons_zero, List.getElem?_cons_succ, List.length_cons, List.length_nil, List.length_map, List.length_append, List.nil_append, List.cons_append, Nat.zero_add, Nat.reduceAdd, Nat.add_zero, v_add, v_sub, v_mul, v_fdiv, v_mod, v_shl, v_pow, v_shr, v_bxor, v_cat, v_neg, v_bool, v_int, v_tup, v_loc, v_aug_add, v_own, c_eq, c_ne, c_lt, c_le, c_gt, c_ge, c_isn_non, c_isn_int, c_isn_tup, c_isn_lst, c_isnn_non, c_isnn_int, c_isnn_tup, c_isnn_lst, c_ist, c_isnt, c_eqB, c_neB, mem_tupI, mem_lstI, nmem_tupI, t_bl, t_int, t_non, t_tup, t_lst, q_tup, q_lst, q_scr, q_loc, lv_lst, lv_loc, sv_scr, sv_lst, sv_loc, ix_v, at_0, at_1, at_2, b_len, b_intB, b_int, b_boolB, b_tupT, b_tupL, b_tup_loc, b_allV, b_anyV, b_anyT, any_bm, any_im, any_b0, any_bc, any_ints, Option.some_or, bo_nil, bo_cons, bools_map, all_mapid, any_mapid, List.all_cons, List.all_nil, List.any_cons, List.any_nil, id, b_sum, b_max, b_min, b_divmod, few_ok, catL_ok, trep_ok, rep_ok, ty_non, ty_bl, ty_int, ty_str, ty_tup, ty_lst, ty_dct, ii_ii, ii_bi, ii_si, ii_ti, ii_li, ii_ni, ii_di, ii_ib, ii_bb, ii_sb, ii_tb, ii_lb, ii_nb, ii_db, ii_it, ii_bt, ii_st, ii_tt, ii_lt, ii_nt, ii_dt, bt_n, bt_t, bt_l, bs_nil, bs_cons, wipe_nil, wipe_cons, sa_nil, sa_cons, Option.bind_some, Option.bind_none, Option.map_some, Option.map_none, r_non, r_bl, r_int, r_str, r_tup, r_lst, r_scr, r_loc, ho_nil, ho_e, ho_f, ho_t, do_call, ioAt, roAt, fin_0, fin_1, fin_rob, fin_roi, fin_ron, fin_ro, fin_1r, lv_non, lv_bl, lv_int, lv_str, lv_tup, lv_lst', lv_loc', to_0, to_1, to_2, leave_eq, nl_nil, nl_int, nl_bl, nl_non, nl_str, nl_tup, nl_lst, nl_app, nl_ints, nl_rooms, nl_eR, nl_rev, ro_eR, ro_eRf, r_eR, q_eR, c_eqR, c_eqRL, c_eqRT, Bool.and_self, Bool.and_true, Bool.true_and, Bool.and_false, Bool.false_and, Bool.or_false, Bool.false_or, Bool.or_true, Bool.true_or, Bool.not_true, Bool.not_false, decide_true, decide_false, Int.cast_ofNat_Int, Int.natCast_add, Int.cast_ofNat_Int, lob_l, gu_ok, app_eq, app_ok, ins_eq, ins_ok, rem_eq, rem_ok, mem_loc, memG_rooms, c_neR, setI_eq, setI_ok, setS_eq, setS_ok, pop_eq, pop_ok, pop_1, Function.comp_apply, Int.reduceToNat, Int.reducePow, Int.reduceNeg, Int.reduceAdd, Int.reduceSub, Int.reduceMul, Int.reduceLT, Int.reduceLE, Int.reduceEq, Nat.reduceSub, Nat.reduceMul, Nat.reducePow, locksOf, st_nil, st_refl, bt_eR, ne_nil, neG_rooms, neG_rooms1, neG_nil, List.map_append, List.map_cons, List.map_nil, argsK, arrange, and_self, if_true, if_false, Bool.false_eq_true, List.map_reverse, rep1, nl_rep, pw_fold, hp_get, hp_set, rng1_ok, l__law_map_2, rep1, hc]
  rw [e2]
theorem mark_all {t : Int} (ht : Tall t) {cb : CB} {L : List Room} (hL : ∀ r ∈ L, Valid t r) (x3 x4 x5 : Option Val) :
    ∃ (f : Int → Int) (y3 y4 y5 : Option Val), forL (evalS [] cb l__law_map_2) (.t (.cons (.n 3) (.cons (.t (.cons (.n 4) (.cons (.n 5) .nil))) .nil))) [] [.list ((cells (pw t) fun _ => 0).map .int)] (enumItems 0 (L.map eR)) [some (.int t), some (.tup (L.map eR)), some (.loc 0), x3, x4, x5, none, none, none, none, none, none] [.list ((cells (pw t) fun _ => 0).map .int)] =
      .ok (.nx [some (.int t), some (.tup (L.map eR)), some (.loc 0), y3, y4, y5, none, none, none, none, none, none]) [.list ((cells (pw t) f).map .int)] ∧ Told L f := by
  obtain ⟨e, h', f1, f2⟩ := for_rest (bd := evalS [] cb l__law_map_2) (tg := (.t (.cons (.n 3) (.cons (.t (.cons (.n 4) (.cons (.n 5) .nil))) .nil)))) (lock := []) (h0 := [.list ((cells (pw t) fun _ => 0).map .int)]) (f := fun p : Nat × Room => .tup [.int (p.1 : Int), eR p.2])
    (fun rest env h => ∃ (done : List Room) (f : Int → Int) (y3 y4 y5 : Option Val), L = done ++ rest.map (·.2) ∧ rest = enumL done.length (rest.map (·.2)) ∧ env = [some (.int t), some (.tup (L.map eR)), some (.loc 0), y3, y4, y5, none, none, none, none, none, none] ∧ h = [.list ((cells (pw t) f).map .int)] ∧ Told done f)
    (fun x r env h i => by
      obtain ⟨done, f, y3, y4, y5, i1, i2, rfl, rfl, i3⟩ := i
      obtain ⟨k, o⟩ := x
      simp only [List.map_cons, enumL, List.cons.injEq, Prod.mk.injEq] at i2
      obtain ⟨⟨rfl, _⟩, i2⟩ := i2
      have ho : Valid t o := hL o (by rw [i1]; simp)
      refine ⟨_, _, _, rfl, .inl (mark_turn ht ho (f := f) (k := done.length) (.tup (L.map eR)) none none none none none none none none none), st_nil, done ++ [o], _, _, _, _, by rw [i1]; simp, by rw [List.length_append]; exact i2, rfl, rfl, i3.snoc o⟩)
    (L := enumL 0 L) (env := [some (.int t), some (.tup (L.map eR)), some (.loc 0), x3, x4, x5, none, none, none, none, none, none]) (h := [.list ((cells (pw t) fun _ => 0).map .int)])
    ⟨[], _, x3, x4, x5, by rw [enumL_snd]; rfl, by rw [enumL_snd]; rfl, rfl, rfl, Told.nil⟩
  obtain ⟨done, f, y3, y4, y5, i1, _, rfl, rfl, i3⟩ := f2
  have : L = done := by simpa using i1
  subst this
  exact ⟨f, y3, y4, y5, by rw [enum_map]; exact f1, i3⟩
/-- one look: is a span free there? -/
theorem fit_turn {t : Int} (ht : Tall t) (n : Nat) {f : Int → Int} {at_ s : Int} (h0 : 0 ≤ at_) (h1 : 8 ≤ s) (h2 : at_ / s * s = at_ → at_ + s ≤ pw t) (h3 : s ≤ 256) (K : Val) (M : List Val) (told : Bool) (x3 x4 x8 x10 x11 : Option Val) :
    ∃ y11, evalS [] (run prog (n + 1)) l__law_map_0 [some (.int t), some K, some (.loc 0), x3, x4, some (.int s), some (.loc 1), some (.int at_), x8, some (.bl told), x10, x11] [.list ((cells (pw t) f).map .int), .list M] =
      .ok (.nx [some (.int t), some K, some (.loc 0), x3, x4, some (.int (if told || (decide (at_ / s * s = at_) && freeB f at_ s) then s else s / 2)), some (.loc 1), some (.int at_), x8, some (.bl told), x10, y11]) [.list ((cells (pw t) f).map .int), .list M] := by
  have hs : s / 1 = s := Int.ediv_one s
  have nl : noLocL ((cells (pw t) f).map Val.int) = true := nl_ints
  cases told with
  | true =>
    refine ⟨some (.bl true), ?_⟩
    simp -dsimp -implicitDefEqProofs (disch := (first | assumption | omega | (simp -implicitDefEqProofs only [nl_nil, nl_int, nl_bl, nl_non, nl_str, nl_tup, nl_lst, nl_app, nl_ints, nl_rooms, nl_eR, nl_parts, nl_rev, Bool.and_self, List.length_cons, List.length_nil, List.length_map, List.length_append, List.length_replicate]; done) | (simp -implicitDefEqProofs only [nl_nil, nl_int, nl_bl, nl_non, nl_str, nl_tup, nl_lst, nl_app, nl_ints, nl_rooms, nl_eR, nl_parts, nl_rev, Bool.and_self, List.length_cons, List.length_nil, List.length_map, List.length_append, List.length_replicate]; omega) | (simp -implicitDefEqProofs; done) | (simp -implicitDefEqProofs; omega))) only [E_k, E_d0, E_var, E_bin, E_neg, E_cmp, E_cmp2, E_and, E_or, E_not, E_ite, E_tup, E_idx, E_slc, E_call, E_callk, E_b1, E_b2, E_isi, E_pop, E_inl, E_mk, E_trep, E_trev, E_mink, E_mind, T_and, T_or, T_not, T_cmp, T_cmp2, T_tr, A_nil, A_cons, O_no, O_part, F_disp, F_comp, F_cat, F_rep, F_slc, F_list, F_sort, F_call, C_nil, C_cons, I_rng1, I_rng2, I_rng3, I_enum, I_zip, I_seq, I_rev, S_nil, S_cons, S_pass, S_set, S_setT, S_par, S_aug, S_expr, S_ret, S_retN, S_ite, S_for, S_while, S_app, S_setI, S_setS, S_ins, S_rem, S_brk, S_cont, change_some, change_none, Res.bnd_ok, Res.bnd_exc, Res.bnd_bad, Res.cnd_true, Res.cnd_false, Res.ofO_some, Res.ofO_none, Res.andB_true, Res.andB_false, Res.andB_ok, Res.orB_true, Res.orB_false, Res.orB_ok, Res.andT_true, Res.andT_false, Res.andT_ok, Res.orT_true, Res.orT_false, Res.orT_ok, SRes.sq_nx, SRes.sq_rt, SRes.sq_bk, SRes.sq_ct, SRes.sq_exc, SRes.sq_bad, Res.st_ok, Res.st_exc, Res.st_bad, SRes.cnd_true, SRes.cnd_false, Ret.close_rt, Ret.close_nx, lk_0, lk_s, List.set_cons_zero, List.set_cons_succ, List.getElem?_cons_zero, List.getElem?_cons_succ, List.length_cons, List.length_nil, List.length_map, List.length_append, List.nil_append, List.cons_append, Nat.zero_add, Nat.reduceAdd, Nat.add_zero, v_add, v_sub, v_mul, v_fdiv, v_mod, v_shl, v_pow, v_shr, v_bxor, v_cat, v_neg, v_bool, v_int, v_tup, v_loc, v_aug_add, v_own, c_eq, c_ne, c_lt, c_le, c_gt, c_ge, c_isn_non, c_isn_int, c_isn_tup, c_isn_lst, c_isnn_non, c_isnn_int, c_isnn_tup, c_isnn_lst, c_ist, c_isnt, c_eqB, c_neB, mem_tupI, mem_lstI, nmem_tupI, t_bl, t_int, t_non, t_tup, t_lst, q_tup, q_lst, q_scr, q_loc, lv_lst, lv_loc, sv_scr, sv_lst, sv_loc, ix_v, at_0, at_1, at_2, b_len, b_intB, b_int, b_boolB, b_tupT, b_tupL, b_tup_loc, b_allV, b_anyV, b_anyT, any_bm, any_im, any_b0, any_bc, any_ints, Option.some_or, bo_nil, bo_cons, bools_map, all_mapid, any_mapid, List.all_cons, List.all_nil, List.any_cons, List.any_nil, id, b_sum, b_max, b_min, b_divmod, few_ok, catL_ok, trep_ok, rep_ok, ty_non, ty_bl, ty_int, ty_str, ty_tup, ty_lst, ty_dct, ii_ii, ii_bi, ii_si, ii_ti, ii_li, ii_ni, ii_di, ii_ib, ii_bb, ii_sb, ii_tb, ii_lb, ii_nb, ii_db, ii_it, ii_bt, ii_st, ii_tt, ii_lt, ii_nt, ii_dt, bt_n, bt_t, bt_l, bs_nil, bs_cons, wipe_nil, wipe_cons, sa_nil, sa_cons, Option.bind_some, Option.bind_none, Option.map_some, Option.map_none, r_non, r_bl, r_int, r_str, r_tup, r_lst, r_scr, r_loc, ho_nil, ho_e, ho_f, ho_t, do_call, ioAt, roAt, fin_0, fin_1, fin_rob, fin_roi, fin_ron, fin_ro, fin_1r, lv_non, lv_bl, lv_int, lv_str, lv_tup, lv_lst', lv_loc', to_0, to_1, to_2, leave_eq, nl_nil, nl_int, nl_bl, nl_non, nl_str, nl_tup, nl_lst, nl_app, nl_ints, nl_rooms, nl_eR, nl_rev, ro_eR, ro_eRf, r_eR, q_eR, c_eqR, c_eqRL, c_eqRT, Bool.and_self, Bool.and_true, Bool.true_and, Bool.and_false, Bool.false_and, Bool.or_false, Bool.false_or, Bool.or_true, Bool.true_or, Bool.not_true, Bool.not_false, decide_true, decide_false, Int.cast_ofNat_Int, Int.natCast_add, Int.cast_ofNat_Int, lob_l, gu_ok, app_eq, app_ok, ins_eq, ins_ok, rem_eq, rem_ok, mem_loc, memG_rooms, c_neR, setI_eq, setI_ok, setS_eq, setS_ok, pop_eq, pop_ok, pop_1, Function.comp_apply, Int.reduceToNat, Int.reducePow, Int.reduceNeg, Int.reduceAdd, Int.reduceSub, Int.reduceMul, Int.reduceLT, Int.reduceLE, Int.reduceEq, Nat.reduceSub, Nat.reduceMul, Nat.reducePow, locksOf, st_nil, st_refl, bt_eR, ne_nil, neG_rooms, neG_rooms1, neG_nil, List.map_append, List.map_cons, List.map_nil, argsK, arrange, and_self, if_true, if_false, Bool.false_eq_true, List.map_reverse, rep1, nl_rep, pw_fold, hp_get, hp_set, rng1_ok, l__law_map_0, hs]
  | false =>
    by_cases k : at_ / s * s = at_
    · have k' := decide_eq_true k
      have e := free n (f := f) h0 (show 0 ≤ s by omega) (h2 k)
      cases q : freeB f at_ s with
      | true =>
        refine ⟨some (.bl true), ?_⟩
        simp -dsimp -implicitDefEqProofs (disch := (first | assumption | omega | (simp -implicitDefEqProofs only [nl_nil, nl_int, nl_bl, nl_non, nl_str, nl_tup, nl_lst, nl_app, nl_ints, nl_rooms, nl_eR, nl_parts, nl_rev, Bool.and_self, List.length_cons, List.length_nil, List.length_map, List.length_append, List.length_replicate]; done) | (simp -implicitDefEqProofs only [nl_nil, nl_int, nl_bl, nl_non, nl_str, nl_tup, nl_lst, nl_app, nl_ints, nl_rooms, nl_eR, nl_parts, nl_rev, Bool.and_self, List.length_cons, List.length_nil, List.length_map, List.length_append, List.length_replicate]; omega) | (simp -implicitDefEqProofs; done) | (simp -implicitDefEqProofs; omega))) only [E_k, E_d0, E_var, E_bin, E_neg, E_cmp, E_cmp2, E_and, E_or, E_not, E_ite, E_tup, E_idx, E_slc, E_call, E_callk, E_b1, E_b2, E_isi, E_pop, E_inl, E_mk, E_trep, E_trev, E_mink, E_mind, T_and, T_or, T_not, T_cmp, T_cmp2, T_tr, A_nil, A_cons, O_no, O_part, F_disp, F_comp, F_cat, F_rep, F_slc, F_list, F_sort, F_call, C_nil, C_cons, I_rng1, I_rng2, I_rng3, I_enum, I_zip, I_seq, I_rev, S_nil, S_cons, S_pass, S_set, S_setT, S_par, S_aug, S_expr, S_ret, S_retN, S_ite, S_for, S_while, S_app, S_setI, S_setS, S_ins, S_rem, S_brk, S_cont, change_some, change_none, Res.bnd_ok, Res.bnd_exc, Res.bnd_bad, Res.cnd_true, Res.cnd_false, Res.ofO_some, Res.ofO_none, Res.andB_true, Res.andB_false, Res.andB_ok, Res.orB_true, Res.orB_false, Res.orB_ok, Res.andT_true, Res.andT_false, Res.andT_ok, Res.orT_true, Res.orT_false, Res.orT_ok, SRes.sq_nx, SRes.sq_rt, SRes.sq_bk, SRes.sq_ct, SRes.sq_exc, SRes.sq_bad, Res.st_ok, Res.st_exc, Res.st_bad, SRes.cnd_true, SRes.cnd_false, Ret.close_rt, Ret.close_nx, lk_0, lk_s, List.set_cons_zero, List.set_cons_succ, List.getElem?_cons_zero, List.getElem?_cons_succ, List.length_cons, List.length_nil, List.length_map, List.length_append, List.nil_append, List.cons_append, Nat.zero_add, Nat.reduceAdd, Nat.add_zero, v_add, v_sub, v_mul, v_fdiv, v_mod, v_shl, v_pow, v_shr, v_bxor, v_cat, v_neg, v_bool, v_int, v_tup, v_loc, v_aug_add, v_own, c_eq, c_ne, c_lt, c_le, c_gt, c_ge, c_isn_non, c_isn_int, c_isn_tup, c_isn_lst, c_isnn_non, c_isnn_int, c_isnn_tup, c_isnn_lst, c_ist, c_isnt, c_eqB, c_neB, mem_tupI, mem_lstI, nmem_tupI, t_bl, t_int, t_non, t_tup, t_lst, q_tup, q_lst, q_scr, q_loc, lv_lst, lv_loc, sv_scr, sv_lst, sv_loc, ix_v, at_0, at_1, at_2, b_len, b_intB, b_int, b_boolB, b_tupT, b_tupL, b_tup_loc, b_allV, b_anyV, b_anyT, any_bm, any_im, any_b0, any_bc, any_ints, Option.some_or, bo_nil, bo_cons, bools_map, all_mapid, any_mapid, List.all_cons, List.all_nil, List.any_cons, List.any_nil, id, b_sum, b_max, b_min, b_divmod, few_ok, catL_ok, trep_ok, rep_ok, ty_non, ty_bl, ty_int, ty_str, ty_tup, ty_lst, ty_dct, ii_ii, ii_bi, ii_si, ii_ti, ii_li, ii_ni, ii_di, ii_ib, ii_bb, ii_sb, ii_tb, ii_lb, ii_nb, ii_db, ii_it, ii_bt, ii_st, ii_tt, ii_lt, ii_nt, ii_dt, bt_n, bt_t, bt_l, bs_nil, bs_cons, wipe_nil, wipe_cons, sa_nil, sa_cons, Option.bind_some, Option.bind_none, Option.map_some, Option.map_none, r_non, r_bl, r_int, r_str, r_tup, r_lst, r_scr, r_loc, ho_nil, ho_e, ho_f, ho_t, do_call, ioAt, roAt, fin_0, fin_1, fin_rob, fin_roi, fin_ron, fin_ro, fin_1r, lv_non, lv_bl, lv_int, lv_str, lv_tup, lv_lst', lv_loc', to_0, to_1, to_2, leave_eq, nl_nil, nl_int, nl_bl, nl_non, nl_str, nl_tup, nl_lst, nl_app, nl_ints, nl_rooms, nl_eR, nl_rev, ro_eR, ro_eRf, r_eR, q_eR, c_eqR, c_eqRL, c_eqRT, Bool.and_self, Bool.and_true, Bool.true_and, Bool.and_false, Bool.false_and, Bool.or_false, Bool.false_or, Bool.or_true, Bool.true_or, Bool.not_true, Bool.not_false, decide_true, decide_false, Int.cast_ofNat_Int, Int.natCast_add, Int.cast_ofNat_Int, lob_l, gu_ok, app_eq, app_ok, ins_eq, ins_ok, rem_eq, rem_ok, mem_loc, memG_rooms, c_neR, setI_eq, setI_ok, setS_eq, setS_ok, pop_eq, pop_ok, pop_1, Function.comp_apply, Int.reduceToNat, Int.reducePow, Int.reduceNeg, Int.reduceAdd, Int.reduceSub, Int.reduceMul, Int.reduceLT, Int.reduceLE, Int.reduceEq, Nat.reduceSub, Nat.reduceMul, Nat.reducePow, locksOf, st_nil, st_refl, bt_eR, ne_nil, neG_rooms, neG_rooms1, neG_nil, List.map_append, List.map_cons, List.map_nil, argsK, arrange, and_self, if_true, if_false, Bool.false_eq_true, List.map_reverse, rep1, nl_rep, pw_fold, hp_get, hp_set, rng1_ok, l__law_map_0, k', e, q, hs, nl]
      | false =>
        refine ⟨some (.bl false), ?_⟩
        simp -dsimp -implicitDefEqProofs (disch := (first | assumption | omega | (simp -implicitDefEqProofs only [nl_nil, nl_int, nl_bl, nl_non, nl_str, nl_tup, nl_lst, nl_app, nl_ints, nl_rooms, nl_eR, nl_parts, nl_rev, Bool.and_self, List.length_cons, List.length_nil, List.length_map, List.length_append, List.length_replicate]; done) | (simp -implicitDefEqProofs only [nl_nil, nl_int, nl_bl, nl_non, nl_str, nl_tup, nl_lst, nl_app, nl_ints, nl_rooms, nl_eR, nl_parts, nl_rev, Bool.and_self, List.length_cons, List.length_nil, List.length_map, List.length_append, List.length_replicate]; omega) | (simp -implicitDefEqProofs; done) | (simp -implicitDefEqProofs; omega))) only [E_k, E_d0, E_var, E_bin, E_neg, E_cmp, E_cmp2, E_and, E_or, E_not, E_ite, E_tup, E_idx, E_slc, E_call, E_callk, E_b1, E_b2, E_isi, E_pop, E_inl, E_mk, E_trep, E_trev, E_mink, E_mind, T_and, T_or, T_not, T_cmp, T_cmp2, T_tr, A_nil, A_cons, O_no, O_part, F_disp, F_comp, F_cat, F_rep, F_slc, F_list, F_sort, F_call, C_nil, C_cons, I_rng1, I_rng2, I_rng3, I_enum, I_zip, I_seq, I_rev, S_nil, S_cons, S_pass, S_set, S_setT, S_par, S_aug, S_expr, S_ret, S_retN, S_ite, S_for, S_while, S_app, S_setI, S_setS, S_ins, S_rem, S_brk, S_cont, change_some, change_none, Res.bnd_ok, Res.bnd_exc, Res.bnd_bad, Res.cnd_true, Res.cnd_false, Res.ofO_some, Res.ofO_none, Res.andB_true, Res.andB_false, Res.andB_ok, Res.orB_true, Res.orB_false, Res.orB_ok, Res.andT_true, Res.andT_false, Res.andT_ok, Res.orT_true, Res.orT_false, Res.orT_ok, SRes.sq_nx, SRes.sq_rt, SRes.sq_bk, SRes.sq_ct, SRes.sq_exc, SRes.sq_bad, Res.st_ok, Res.st_exc, Res.st_bad, SRes.cnd_true, SRes.cnd_false, Ret.close_rt, Ret.close_nx, lk_0, lk_s, List.set_cons_zero, List.set_cons_succ, List.getElem?_cons_zero, List.getElem?_cons_succ, List.length_cons, List.length_nil, List.length_map, List.length_append, List.nil_append, List.cons_append, Nat.zero_add, Nat.reduceAdd, Nat.add_zero, v_add, v_sub, v_mul, v_fdiv, v_mod, v_shl, v_pow, v_shr, v_bxor, v_cat, v_neg, v_bool, v_int, v_tup, v_loc, v_aug_add, v_own, c_eq, c_ne, c_lt, c_le, c_gt, c_ge, c_isn_non, c_isn_int, c_isn_tup, c_isn_lst, c_isnn_non, c_isnn_int, c_isnn_tup, c_isnn_lst, c_ist, c_isnt, c_eqB, c_neB, mem_tupI, mem_lstI, nmem_tupI, t_bl, t_int, t_non, t_tup, t_lst, q_tup, q_lst, q_scr, q_loc, lv_lst, lv_loc, sv_scr, sv_lst, sv_loc, ix_v, at_0, at_1, at_2, b_len, b_intB, b_int, b_boolB, b_tupT, b_tupL, b_tup_loc, b_allV, b_anyV, b_anyT, any_bm, any_im, any_b0, any_bc, any_ints, Option.some_or, bo_nil, bo_cons, bools_map, all_mapid, any_mapid, List.all_cons, List.all_nil, List.any_cons, List.any_nil, id, b_sum, b_max, b_min, b_divmod, few_ok, catL_ok, trep_ok, rep_ok, ty_non, ty_bl, ty_int, ty_str, ty_tup, ty_lst, ty_dct, ii_ii, ii_bi, ii_si, ii_ti, ii_li, ii_ni, ii_di, ii_ib, ii_bb, ii_sb, ii_tb, ii_lb, ii_nb, ii_db, ii_it, ii_bt, ii_st, ii_tt, ii_lt, ii_nt, ii_dt, bt_n, bt_t, bt_l, bs_nil, bs_cons, wipe_nil, wipe_cons, sa_nil, sa_cons, Option.bind_some, Option.bind_none, Option.map_some, Option.map_none, r_non, r_bl, r_int, r_str, r_tup, r_lst, r_scr, r_loc, ho_nil, ho_e, ho_f, ho_t, do_call, ioAt, roAt, fin_0, fin_1, fin_rob, fin_roi, fin_ron, fin_ro, fin_1r, lv_non, lv_bl, lv_int, lv_str, lv_tup, lv_lst', lv_loc', to_0, to_1, to_2, leave_eq, nl_nil, nl_int, nl_bl, nl_non, nl_str, nl_tup, nl_lst, nl_app, nl_ints, nl_rooms, nl_eR, nl_rev, ro_eR, ro_eRf, r_eR, q_eR, c_eqR, c_eqRL, c_eqRT, Bool.and_self, Bool.and_true, Bool.true_and, Bool.and_false, Bool.false_and, Bool.or_false, Bool.false_or, Bool.or_true, Bool.true_or, Bool.not_true, Bool.not_false, decide_true, decide_false, Int.cast_ofNat_Int, Int.natCast_add, Int.cast_ofNat_Int, lob_l, gu_ok, app_eq, app_ok, ins_eq, ins_ok, rem_eq, rem_ok, mem_loc, memG_rooms, c_neR, setI_eq, setI_ok, setS_eq, setS_ok, pop_eq, pop_ok, pop_1, Function.comp_apply, Int.reduceToNat, Int.reducePow, Int.reduceNeg, Int.reduceAdd, Int.reduceSub, Int.reduceMul, Int.reduceLT, Int.reduceLE, Int.reduceEq, Nat.reduceSub, Nat.reduceMul, Nat.reducePow, locksOf, st_nil, st_refl, bt_eR, ne_nil, neG_rooms, neG_rooms1, neG_nil, List.map_append, List.map_cons, List.map_nil, argsK, arrange, and_self, if_true, if_false, Bool.false_eq_true, List.map_reverse, rep1, nl_rep, pw_fold, hp_get, hp_set, rng1_ok, l__law_map_0, k', e, q, nl]
    · have k' := decide_eq_false k
      refine ⟨some (.bl false), ?_⟩
      simp -dsimp -implicitDefEqProofs (disch := (first | assumption | omega | (simp -implicitDefEqProofs only [nl_nil, nl_int, nl_bl, nl_non, nl_str, nl_tup, nl_lst, nl_app, nl_ints, nl_rooms, nl_eR, nl_parts, nl_rev, Bool.and_self, List.length_cons, List.length_nil, List.length_map, List.length_append, List.length_replicate]; done) | (simp -implicitDefEqProofs only [nl_nil, nl_int, nl_bl, nl_non, nl_str, nl_tup, nl_lst, nl_app, nl_ints, nl_rooms, nl_eR, nl_parts, nl_rev, Bool.and_self, List.length_cons, List.length_nil, List.length_map, List.length_append, List.length_replicate]; omega) | (simp -implicitDefEqProofs; done) | (simp -implicitDefEqProofs; omega))) only [E_k, E_d0, E_var, E_bin, E_neg, E_cmp, E_cmp2, E_and, E_or, E_not, E_ite, E_tup, E_idx, E_slc, E_call, E_callk, E_b1, E_b2, E_isi, E_pop, E_inl, E_mk, E_trep, E_trev, E_mink, E_mind, T_and, T_or, T_not, T_cmp, T_cmp2, T_tr, A_nil, A_cons, O_no, O_part, F_disp, F_comp, F_cat, F_rep, F_slc, F_list, F_sort, F_call, C_nil, C_cons, I_rng1, I_rng2, I_rng3, I_enum, I_zip, I_seq, I_rev, S_nil, S_cons, S_pass, S_set, S_setT, S_par, S_aug, S_expr, S_ret, S_retN, S_ite, S_for, S_while, S_app, S_setI, S_setS, S_ins, S_rem, S_brk, S_cont, change_some, change_none, Res.bnd_ok, Res.bnd_exc, Res.bnd_bad, Res.cnd_true, Res.cnd_false, Res.ofO_some, Res.ofO_none, Res.andB_true, Res.andB_false, Res.andB_ok, Res.orB_true, Res.orB_false, Res.orB_ok, Res.andT_true, Res.andT_false, Res.andT_ok, Res.orT_true, Res.orT_false, Res.orT_ok, SRes.sq_nx, SRes.sq_rt, SRes.sq_bk, SRes.sq_ct, SRes.sq_exc, SRes.sq_bad, Res.st_ok, Res.st_exc, Res.st_bad, SRes.cnd_true, SRes.cnd_false, Ret.close_rt, Ret.close_nx, lk_0, lk_s, List.set_cons_zero, List.set_cons_succ, List.getElem?_cons_zero, List.getElem?_cons_succ, List.length_cons, List.length_nil, List.length_map, List.length_append, List.nil_append, List.cons_append, Nat.zero_add, Nat.reduceAdd, Nat.add_zero, v_add, v_sub, v_mul, v_fdiv, v_mod, v_shl, v_pow, v_shr, v_bxor, v_cat, v_neg, v_bool, v_int, v_tup, v_loc, v_aug_add, v_own, c_eq, c_ne, c_lt, c_le, c_gt, c_ge, c_isn_non, c_isn_int, c_isn_tup, c_isn_lst, c_isnn_non, c_isnn_int, c_isnn_tup, c_isnn_lst, c_ist, c_isnt, c_eqB, c_neB, mem_tupI, mem_lstI, nmem_tupI, t_bl, t_int, t_non, t_tup, t_lst, q_tup, q_lst, q_scr, q_loc, lv_lst, lv_loc, sv_scr, sv_lst, sv_loc, ix_v, at_0, at_1, at_2, b_len, b_intB, b_int, b_boolB, b_tupT, b_tupL, b_tup_loc, b_allV, b_anyV, b_anyT, any_bm, any_im, any_b0, any_bc, any_ints, Option.some_or, bo_nil, bo_cons, bools_map, all_mapid, any_mapid, List.all_cons, List.all_nil, List.any_cons, List.any_nil, id, b_sum, b_max, b_min, b_divmod, few_ok, catL_ok, trep_ok, rep_ok, ty_non, ty_bl, ty_int, ty_str, ty_tup, ty_lst, ty_dct, ii_ii, ii_bi, ii_si, ii_ti, ii_li, ii_ni, ii_di, ii_ib, ii_bb, ii_sb, ii_tb, ii_lb, ii_nb, ii_db, ii_it, ii_bt, ii_st, ii_tt, ii_lt, ii_nt, ii_dt, bt_n, bt_t, bt_l, bs_nil, bs_cons, wipe_nil, wipe_cons, sa_nil, sa_cons, Option.bind_some, Option.bind_none, Option.map_some, Option.map_none, r_non, r_bl, r_int, r_str, r_tup, r_lst, r_scr, r_loc, ho_nil, ho_e, ho_f, ho_t, do_call, ioAt, roAt, fin_0, fin_1, fin_rob, fin_roi, fin_ron, fin_ro, fin_1r, lv_non, lv_bl, lv_int, lv_str, lv_tup, lv_lst', lv_loc', to_0, to_1, to_2, leave_eq, nl_nil, nl_int, nl_bl, nl_non, nl_str, nl_tup, nl_lst, nl_app, nl_ints, nl_rooms, nl_eR, nl_rev, ro_eR, ro_eRf, r_eR, q_eR, c_eqR, c_eqRL, c_eqRT, Bool.and_self, Bool.and_true, Bool.true_and, Bool.and_false, Bool.false_and, Bool.or_false, Bool.false_or, Bool.or_true, Bool.true_or, Bool.not_true, Bool.not_false, decide_true, decide_false, Int.cast_ofNat_Int, Int.natCast_add, Int.cast_ofNat_Int, lob_l, gu_ok, app_eq, app_ok, ins_eq, ins_ok, rem_eq, rem_ok, mem_loc, memG_rooms, c_neR, setI_eq, setI_ok, setS_eq, setS_ok, pop_eq, pop_ok, pop_1, Function.comp_apply, Int.reduceToNat, Int.reducePow, Int.reduceNeg, Int.reduceAdd, Int.reduceSub, Int.reduceMul, Int.reduceLT, Int.reduceLE, Int.reduceEq, Nat.reduceSub, Nat.reduceMul, Nat.reducePow, locksOf, st_nil, st_refl, bt_eR, ne_nil, neG_rooms, neG_rooms1, neG_nil, List.map_append, List.map_cons, List.map_nil, argsK, arrange, and_self, if_true, if_false, Bool.false_eq_true, List.map_reverse, rep1, nl_rep, pw_fold, hp_get, hp_set, rng1_ok, l__law_map_0, k']
/-- the looks end at the free room's size -/
theorem fit_all {t : Int} (ht : Tall t) (n : Nat) {L : List Room} (hL : ∀ r ∈ L, Valid t r) {f : Int → Int} (hf : Told L f) {x : Room} (hx : Fr t L x) (K : Val) (M : List Val) (x3 x4 x8 x10 x11 : Option Val) :
    ∃ y10 y11, forL (evalS [] (run prog (n + 1)) l__law_map_0) (.n 10) [] [.list ((cells (pw t) f).map .int), .list M] ((List.range 6).map fun (i : Nat) => Val.int i) [some (.int t), some K, some (.loc 0), x3, x4, some (.int (pw t)), some (.loc 1), some (.int x.1), x8, some (.bl false), x10, x11] [.list ((cells (pw t) f).map .int), .list M] =
      .ok (.nx [some (.int t), some K, some (.loc 0), x3, x4, some (.int x.2), some (.loc 1), some (.int x.1), x8, some (.bl false), y10, y11]) [.list ((cells (pw t) f).map .int), .list M] := by
  obtain ⟨e, h', f1, f2⟩ := for_rest (bd := evalS [] (run prog (n + 1)) l__law_map_0) (tg := .n 10) (lock := []) (h0 := [.list ((cells (pw t) f).map .int), .list M]) (f := fun (i : Nat) => Val.int i)
    (fun rest env h => ∃ (s : Int) (y10 y11 : Option Val), env = [some (.int t), some K, some (.loc 0), x3, x4, some (.int s), some (.loc 1), some (.int x.1), x8, some (.bl false), y10, y11] ∧ h = [.list ((cells (pw t) f).map .int), .list M] ∧ s ∈ szs t ∧ x.2 ≤ s ∧ s ≤ x.2 * 2 ^ rest.length)
    (fun i r env h k => by
      obtain ⟨s, y10, y11, rfl, rfl, k1, k2, k3⟩ := k
      have sb := szs_bd ht k1
      have xb := hx.1.bd ht
      have pb := pw_bd ht
      have x3' := hx.1.2.2.1
      obtain ⟨z11, e1⟩ := fit_turn ht n (f := f) (at_ := x.1) (s := s) (by omega) (by omega) (fun q => fits_in ht k1 (by omega) (by omega) (align_iff.mp q)) (by omega) K M false x3 x4 x8 (some (.int i)) y11
      refine ⟨_, _, _, rfl, .inl e1, st_nil, _, _, _, rfl, rfl, ?_⟩
      by_cases q : s = x.2
      · subst q
        have a1 : x.1 / x.2 * x.2 = x.1 := align_iff.mpr hx.1.2.2.2
        have a2 : freeB f x.1 x.2 = true := (freeB_iff hf (by omega) fun o ho => by have := (hL o ho).bd ht; omega).mpr hx.2.1
        simp only [a1, a2, decide_true, Bool.and_self, Bool.or_true, if_true]
        refine ⟨k1, k2, ?_⟩
        have : (1 : Int) ≤ 2 ^ r.length := by have : (0 : Int) < 2 ^ r.length := Int.pow_pos (by omega); omega
        have := Int.mul_le_mul_of_nonneg_left this (show 0 ≤ x.2 by omega)
        omega
      · have no : (false || (decide (x.1 / s * s = x.1) && freeB f x.1 s)) = false := by
          by_cases a1 : x.1 / s * s = x.1
          · obtain ⟨o, ho, hT⟩ := wider ht hx k1 (by omega) (align_iff.mp a1)
            have : freeB f x.1 s = false := by
              cases b : freeB f x.1 s with
              | false => rfl
              | true => exact absurd hT ((freeB_iff hf (by omega) fun o ho => by have := (hL o ho).bd ht; omega).mp b o ho)
            simp [this]
          · simp [a1]
        rw [no]
        obtain ⟨d1, d2, d3⟩ := szs_dn ht hx.1.1 k1 (by omega)
        simp only [Bool.false_eq_true, if_false]
        refine ⟨d1, d2, ?_⟩
        rw [List.length_cons, Int.pow_succ, ← Int.mul_assoc] at k3
        omega)
    (L := List.range 6) (env := [some (.int t), some K, some (.loc 0), x3, x4, some (.int (pw t)), some (.loc 1), some (.int x.1), x8, some (.bl false), x10, x11]) (h := [.list ((cells (pw t) f).map .int), .list M])
    ⟨pw t, x10, x11, rfl, rfl, szs_pw ht, (szs_bd ht hx.1.1).2.1, by have := hx.1.bd ht; have := pw_bd ht; show pw t ≤ x.2 * 2 ^ 6; omega⟩
  obtain ⟨s, y10, y11, rfl, rfl, k1, k2, k3⟩ := f2
  have e : s = x.2 := by
    have : s ≤ x.2 := by simpa using k3
    omega
  subst e
  exact ⟨y10, y11, f1⟩
theorem fit_told {t : Int} (ht : Tall t) (n : Nat) {f : Int → Int} {x : Room} (hx : Valid t x) (K : Val) (M : List Val) (x3 x4 x8 x10 x11 : Option Val) :
    ∃ y10 y11, forL (evalS [] (run prog (n + 1)) l__law_map_0) (.n 10) [] [.list ((cells (pw t) f).map .int), .list M] ((List.range 6).map fun (i : Nat) => Val.int i) [some (.int t), some K, some (.loc 0), x3, x4, some (.int x.2), some (.loc 1), some (.int x.1), x8, some (.bl true), x10, x11] [.list ((cells (pw t) f).map .int), .list M] =
      .ok (.nx [some (.int t), some K, some (.loc 0), x3, x4, some (.int x.2), some (.loc 1), some (.int x.1), x8, some (.bl true), y10, y11]) [.list ((cells (pw t) f).map .int), .list M] := by
  obtain ⟨e, h', f1, f2⟩ := for_rest (bd := evalS [] (run prog (n + 1)) l__law_map_0) (tg := .n 10) (lock := []) (h0 := [.list ((cells (pw t) f).map .int), .list M]) (f := fun (i : Nat) => Val.int i)
    (fun rest env h => ∃ (y10 y11 : Option Val), env = [some (.int t), some K, some (.loc 0), x3, x4, some (.int x.2), some (.loc 1), some (.int x.1), x8, some (.bl true), y10, y11] ∧ h = [.list ((cells (pw t) f).map .int), .list M])
    (fun i r env h k => by
      obtain ⟨y10, y11, rfl, rfl⟩ := k
      have xb := hx.bd ht
      have x3' := hx.2.2.1
      obtain ⟨z11, e1⟩ := fit_turn ht n (f := f) (at_ := x.1) (s := x.2) (by omega) (by omega) (fun q => x3') (by omega) K M true x3 x4 x8 (some (.int i)) y11
      exact ⟨_, _, _, rfl, .inl e1, st_nil, _, _, rfl, rfl⟩)
    (L := List.range 6) (env := [some (.int t), some K, some (.loc 0), x3, x4, some (.int x.2), some (.loc 1), some (.int x.1), x8, some (.bl true), x10, x11]) (h := [.list ((cells (pw t) f).map .int), .list M])
    ⟨x10, x11, rfl, rfl⟩
  obtain ⟨y10, y11, rfl, rfl⟩ := f2
  exact ⟨y10, y11, f1⟩

/-- one part of the map is told -/
theorem map_turn {t : Int} (ht : Tall t) (n : Nat) {L : List Room} (hL : Sm t L) {f : Int → Int} (hf : Told L f) {p : Room × Bool} (hv : Valid t p.1) (hp : (p.2 = true → p.1 ∈ L) ∧ (p.2 = false → Fr t L p.1)) {D : List (Room × Bool)} (hD : D.length ≤ 64) (x3 x4 x5 x8 x9 x10 x11 : Option Val) :
    ∃ y10 y11, evalS [] (run prog (n + 1)) l__law_map_1 [some (.int t), some (.tup (L.map eR)), some (.loc 0), x3, x4, x5, some (.loc 1), some (.int p.1.1), x8, x9, x10, x11] [.list ((cells (pw t) f).map .int), .list (D.map eP)] =
      .ok (.nx [some (.int t), some (.tup (L.map eR)), some (.loc 0), x3, x4, some (.int p.1.2), some (.loc 1), some (.int (p.1.1 + p.1.2)), x8, some (.bl p.2), y10, y11]) [.list ((cells (pw t) f).map .int), .list ((D ++ [p]).map eP)] := by
  obtain ⟨x, b⟩ := p
  simp only at hp hv ⊢
  have xb := hv.bd ht
  have xp := hv.2.2.1
  have pb := pw_bd ht
  have hc : ((cells (pw t) f).length : Int) = pw t := by rw [cells_len]; omega
  have hlt : decide (x.1 < pw t) = true := decide_eq_true (by omega)
  have hat : atI (cells (pw t) f) x.1 = some (f x.1) := cells_at (by omega) (by omega)
  cases b with
  | true =>
    obtain ⟨j, o, h1, h2, h3⟩ : ∃ (j : Nat) (o : Room), L[j]? = some o ∧ f x.1 = j + 1 ∧ has o x.1 := by
      rcases hf x.1 with ⟨_, h2⟩ | h
      · exact absurd (show has x x.1 by unfold has; omega) (h2 x (hp.1 rfl))
      · exact h
    have eo : o = x := Sm.eq ht hL (List.mem_of_getElem? h1) (hp.1 rfl) (by unfold has at h3; unfold T; omega)
    subst eo
    have hg : decide (0 < f o.1) = true := decide_eq_true (by omega)
    have hj : j < L.length := (List.getElem?_eq_some_iff.mp h1).1
    have hi : atI L (f o.1 - 1) = some o := by
      rw [at_ok (by omega) (by omega), show (f o.1 - 1).toNat = j by omega]; exact h1
    obtain ⟨y10, y11, e1⟩ := fit_told ht n (f := f) hv (.tup (L.map eR)) (D.map eP) x3 x4 x8 x10 x11
    refine ⟨y10, y11, ?_⟩
    simp -dsimp -implicitDefEqProofs (disch := (first | assumption | omega | (simp -implicitDefEqProofs only [nl_nil, nl_int, nl_bl, nl_non, nl_str, nl_tup, nl_lst, nl_app, nl_ints, nl_rooms, nl_eR, nl_parts, nl_rev, Bool.and_self, List.length_cons, List.length_nil, List.length_map, List.length_append, List.length_replicate]; done) | (simp -implicitDefEqProofs only [nl_nil, nl_int, nl_bl, nl_non, nl_str, nl_tup, nl_lst, nl_app, nl_ints, nl_rooms, nl_eR, nl_parts, nl_rev, Bool.and_self, List.length_cons, List.length_nil, List.length_map, List.length_append, List.length_replicate]; omega) | (simp -implicitDefEqProofs; done) | (simp -implicitDefEqProofs; omega))) only [E_k, E_d0, E_var, E_bin, E_neg, E_cmp, E_cmp2, E_and, E_or, E_not, E_ite, E_tup, E_idx, E_slc, E_call, E_callk, E_b1, E_b2, E_isi, E_pop, E_inl, E_mk, E_trep, E_trev, E_mink, E_mind, T_and, T_or, T_not, T_cmp, T_cmp2, T_tr, A_nil, A_cons, O_no, O_part, F_disp, F_comp, F_cat, F_rep, F_slc, F_list, F_sort, F_call, C_nil, C_cons, I_rng1, I_rng2, I_rng3, I_enum, I_zip, I_seq, I_rev, S_nil, S_cons, S_pass, S_set, S_setT, S_par, S_aug, S_expr, S_ret, S_retN, S_ite, S_for, S_while, S_app, S_setI, S_setS, S_ins, S_rem, S_brk, S_cont, change_some, change_none, Res.bnd_ok, Res.bnd_exc, Res.bnd_bad, Res.cnd_true, Res.cnd_false, Res.ofO_some, Res.ofO_none, Res.andB_true, Res.andB_false, Res.andB_ok, Res.orB_true, Res.orB_false, Res.orB_ok, Res.andT_true, Res.andT_false, Res.andT_ok, Res.orT_true, Res.orT_false, Res.orT_ok, SRes.sq_nx, SRes.sq_rt, SRes.sq_bk, SRes.sq_ct, SRes.sq_exc, SRes.sq_bad, Res.st_ok, Res.st_exc, Res.st_bad, SRes.cnd_true, SRes.cnd_false, Ret.close_rt, Ret.close_nx, lk_0, lk_s, List.set_cons_zero, List.set_cons_succ, List.getElem?_cons_zero, List.getElem?_cons_succ, List.length_cons, List.length_nil, List.length_map, List.length_append, List.nil_append, List.cons_append, Nat.zero_add, Nat.reduceAdd, Nat.add_zero, v_add, v_sub, v_mul, v_fdiv, v_mod, v_shl, v_pow, v_shr, v_bxor, v_cat, v_neg, v_bool, v_int, v_tup, v_loc, v_aug_add, v_own, c_eq, c_ne, c_lt, c_le, c_gt, c_ge, c_isn_non, c_isn_int, c_isn_tup, c_isn_lst, c_isnn_non, c_isnn_int, c_isnn_tup, c_isnn_lst, c_ist, c_isnt, c_eqB, c_neB, mem_tupI, mem_lstI, nmem_tupI, t_bl, t_int, t_non, t_tup, t_lst, q_tup, q_lst, q_scr, q_loc, lv_lst, lv_loc, sv_scr, sv_lst, sv_loc, ix_v, at_0, at_1, at_2, b_len, b_intB, b_int, b_boolB, b_tupT, b_tupL, b_tup_loc, b_allV, b_anyV, b_anyT, any_bm, any_im, any_b0, any_bc, any_ints, Option.some_or, bo_nil, bo_cons, bools_map, all_mapid, any_mapid, List.all_cons, List.all_nil, List.any_cons, List.any_nil, id, b_sum, b_max, b_min, b_divmod, few_ok, catL_ok, trep_ok, rep_ok, ty_non, ty_bl, ty_int, ty_str, ty_tup, ty_lst, ty_dct, ii_ii, ii_bi, ii_si, ii_ti, ii_li, ii_ni, ii_di, ii_ib, ii_bb, ii_sb, ii_tb, ii_lb, ii_nb, ii_db, ii_it, ii_bt, ii_st, ii_tt, ii_lt, ii_nt, ii_dt, bt_n, bt_t, bt_l, bs_nil, bs_cons, wipe_nil, wipe_cons, sa_nil, sa_cons, Option.bind_some, Option.bind_none, Option.map_some, Option.map_none, r_non, r_bl, r_int, r_str, r_tup, r_lst, r_scr, r_loc, ho_nil, ho_e, ho_f, ho_t, do_call, ioAt, roAt, fin_0, fin_1, fin_rob, fin_roi, fin_ron, fin_ro, fin_1r, lv_non, lv_bl, lv_int, lv_str, lv_tup, lv_lst', lv_loc', to_0, to_1, to_2, leave_eq, nl_nil, nl_int, nl_bl, nl_non, nl_str, nl_tup, nl_lst, nl_app, nl_ints, nl_rooms, nl_eR, nl_rev, ro_eR, ro_eRf, r_eR, q_eR, c_eqR, c_eqRL, c_eqRT, Bool.and_self, Bool.and_true, Bool.true_and, Bool.and_false, Bool.false_and, Bool.or_false, Bool.false_or, Bool.or_true, Bool.true_or, Bool.not_true, Bool.not_false, decide_true, decide_false, Int.cast_ofNat_Int, Int.natCast_add, Int.cast_ofNat_Int, lob_l, gu_ok, app_eq, app_ok, ins_eq, ins_ok, rem_eq, rem_ok, mem_loc, memG_rooms, c_neR, setI_eq, setI_ok, setS_eq, setS_ok, pop_eq, pop_ok, pop_1, Function.comp_apply, Int.reduceToNat, Int.reducePow, Int.reduceNeg, Int.reduceAdd, Int.reduceSub, Int.reduceMul, Int.reduceLT, Int.reduceLE, Int.reduceEq, Nat.reduceSub, Nat.reduceMul, Nat.reducePow, locksOf, st_nil, st_refl, bt_eR, ne_nil, neG_rooms, neG_rooms1, neG_nil, List.map_append, List.map_cons, List.map_nil, argsK, arrange, and_self, if_true, if_false, Bool.false_eq_true, List.map_reverse, rep1, nl_rep, pw_fold, hp_get, hp_set, rng1_ok, l__law_map_1, hc, hlt, at_map, hat, hg, hi, q_eR, e1, hD]
    rfl
  | false =>
    have hfr := hp.2 rfl
    have hz : f x.1 = 0 := by
      rcases hf x.1 with ⟨h1, _⟩ | ⟨j, o, h1, h2, h3⟩
      · exact h1
      · exact absurd (show T x o by unfold has at h3; unfold T; omega) (hfr.2.1 o (List.mem_of_getElem? h1))
    obtain ⟨y10, y11, e1⟩ := fit_all ht n hL.1 hf hfr (.tup (L.map eR)) (D.map eP) x3 x4 x8 x10 x11
    refine ⟨y10, y11, ?_⟩
    have hg : decide ((0 : Int) < 0) = false := rfl
    simp -dsimp -implicitDefEqProofs (disch := (first | assumption | omega | (simp -implicitDefEqProofs only [nl_nil, nl_int, nl_bl, nl_non, nl_str, nl_tup, nl_lst, nl_app, nl_ints, nl_rooms, nl_eR, nl_parts, nl_rev, Bool.and_self, List.length_cons, List.length_nil, List.length_map, List.length_append, List.length_replicate]; done) | (simp -implicitDefEqProofs only [nl_nil, nl_int, nl_bl, nl_non, nl_str, nl_tup, nl_lst, nl_app, nl_ints, nl_rooms, nl_eR, nl_parts, nl_rev, Bool.and_self, List.length_cons, List.length_nil, List.length_map, List.length_append, List.length_replicate]; omega) | (simp -implicitDefEqProofs; done) | (simp -implicitDefEqProofs; omega))) only [E_k, E_d0, E_var, E_bin, E_neg, E_cmp, E_cmp2, E_and, E_or, E_not, E_ite, E_tup, E_idx, E_slc, E_call, E_callk, E_b1, E_b2, E_isi, E_pop, E_inl, E_mk, E_trep, E_trev, E_mink, E_mind, T_and, T_or, T_not, T_cmp, T_cmp2, T_tr, A_nil, A_cons, O_no, O_part, F_disp, F_comp, F_cat, F_rep, F_slc, F_list, F_sort, F_call, C_nil, C_cons, I_rng1, I_rng2, I_rng3, I_enum, I_zip, I_seq, I_rev, S_nil, S_cons, S_pass, S_set, S_setT, S_par, S_aug, S_expr, S_ret, S_retN, S_ite, S_for, S_while, S_app, S_setI, S_setS, S_ins, S_rem, S_brk, S_cont, change_some, change_none, Res.bnd_ok, Res.bnd_exc, Res.bnd_bad, Res.cnd_true, Res.cnd_false, Res.ofO_some, Res.ofO_none, Res.andB_true, Res.andB_false, Res.andB_ok, Res.orB_true, Res.orB_false, Res.orB_ok, Res.andT_true, Res.andT_false, Res.andT_ok, Res.orT_true, Res.orT_false, Res.orT_ok, SRes.sq_nx, SRes.sq_rt, SRes.sq_bk, SRes.sq_ct, SRes.sq_exc, SRes.sq_bad, Res.st_ok, Res.st_exc, Res.st_bad, SRes.cnd_true, SRes.cnd_false, Ret.close_rt, Ret.close_nx, lk_0, lk_s, List.set_cons_zero, List.set_cons_succ, List.getElem?_cons_zero, List.getElem?_cons_succ, List.length_cons, List.length_nil, List.length_map, List.length_append, List.nil_append, List.cons_append, Nat.zero_add, Nat.reduceAdd, Nat.add_zero, v_add, v_sub, v_mul, v_fdiv, v_mod, v_shl, v_pow, v_shr, v_bxor, v_cat, v_neg, v_bool, v_int, v_tup, v_loc, v_aug_add, v_own, c_eq, c_ne, c_lt, c_le, c_gt, c_ge, c_isn_non, c_isn_int, c_isn_tup, c_isn_lst, c_isnn_non, c_isnn_int, c_isnn_tup, c_isnn_lst, c_ist, c_isnt, c_eqB, c_neB, mem_tupI, mem_lstI, nmem_tupI, t_bl, t_int, t_non, t_tup, t_lst, q_tup, q_lst, q_scr, q_loc, lv_lst, lv_loc, sv_scr, sv_lst, sv_loc, ix_v, at_0, at_1, at_2, b_len, b_intB, b_int, b_boolB, b_tupT, b_tupL, b_tup_loc, b_allV, b_anyV, b_anyT, any_bm, any_im, any_b0, any_bc, any_ints, Option.some_or, bo_nil, bo_cons, bools_map, all_mapid, any_mapid, List.all_cons, List.all_nil, List.any_cons, List.any_nil, id, b_sum, b_max, b_min, b_divmod, few_ok, catL_ok, trep_ok, rep_ok, ty_non, ty_bl, ty_int, ty_str, ty_tup, ty_lst, ty_dct, ii_ii, ii_bi, ii_si, ii_ti, ii_li, ii_ni, ii_di, ii_ib, ii_bb, ii_sb, ii_tb, ii_lb, ii_nb, ii_db, ii_it, ii_bt, ii_st, ii_tt, ii_lt, ii_nt, ii_dt, bt_n, bt_t, bt_l, bs_nil, bs_cons, wipe_nil, wipe_cons, sa_nil, sa_cons, Option.bind_some, Option.bind_none, Option.map_some, Option.map_none, r_non, r_bl, r_int, r_str, r_tup, r_lst, r_scr, r_loc, ho_nil, ho_e, ho_f, ho_t, do_call, ioAt, roAt, fin_0, fin_1, fin_rob, fin_roi, fin_ron, fin_ro, fin_1r, lv_non, lv_bl, lv_int, lv_str, lv_tup, lv_lst', lv_loc', to_0, to_1, to_2, leave_eq, nl_nil, nl_int, nl_bl, nl_non, nl_str, nl_tup, nl_lst, nl_app, nl_ints, nl_rooms, nl_eR, nl_rev, ro_eR, ro_eRf, r_eR, q_eR, c_eqR, c_eqRL, c_eqRT, Bool.and_self, Bool.and_true, Bool.true_and, Bool.and_false, Bool.false_and, Bool.or_false, Bool.false_or, Bool.or_true, Bool.true_or, Bool.not_true, Bool.not_false, decide_true, decide_false, Int.cast_ofNat_Int, Int.natCast_add, Int.cast_ofNat_Int, lob_l, gu_ok, app_eq, app_ok, ins_eq, ins_ok, rem_eq, rem_ok, mem_loc, memG_rooms, c_neR, setI_eq, setI_ok, setS_eq, setS_ok, pop_eq, pop_ok, pop_1, Function.comp_apply, Int.reduceToNat, Int.reducePow, Int.reduceNeg, Int.reduceAdd, Int.reduceSub, Int.reduceMul, Int.reduceLT, Int.reduceLE, Int.reduceEq, Nat.reduceSub, Nat.reduceMul, Nat.reducePow, locksOf, st_nil, st_refl, bt_eR, ne_nil, neG_rooms, neG_rooms1, neG_nil, List.map_append, List.map_cons, List.map_nil, argsK, arrange, and_self, if_true, if_false, Bool.false_eq_true, List.map_reverse, rep1, nl_rep, pw_fold, hp_get, hp_set, rng1_ok, l__law_map_1, hc, hlt, at_map, hat, hz, hg, e1, hD]
    rfl
theorem law_map {t : Int} (ht : Tall t) (n : Nat) {L : List Room} (hL : OutOk t L) : run prog (n + 2) 5 [.int t, .tup (L.map eR)] = rt (.tup ((mapP t L).map eP)) := by
  have hs : Sm t L := ⟨hL.1, hL.2.imp fun {a b} h => by unfold T; omega⟩
  obtain ⟨f, y3, y4, y5, f1, f2⟩ := mark_all ht (cb := run prog (n + 1)) hL.1 none none none
  obtain ⟨m1, m2, m3, m4⟩ := mapP_mem ht hs
  have pb := pw_bd ht
  obtain ⟨e, h', g1, g2⟩ := for_rest (bd := evalS [] (run prog (n + 1)) l__law_map_1) (tg := .n 8) (lock := []) (h0 := [.list ((cells (pw t) f).map .int), .list []]) (f := fun (i : Nat) => Val.int i)
    (fun rest env h => ∃ (D R : List (Room × Bool)) (at_ : Int) (z5 z8 z9 z10 z11 : Option Val), mapP t L = D ++ R ∧ Cont at_ R (pw t) ∧ R.length ≤ rest.length ∧ env = [some (.int t), some (.tup (L.map eR)), some (.loc 0), y3, y4, z5, some (.loc 1), some (.int at_), z8, z9, z10, z11] ∧ h = [.list ((cells (pw t) f).map .int), .list (D.map eP)])
    (fun i r env h k => by
      obtain ⟨D, R, at_, z5, z8, z9, z10, z11, k1, k2, k3, rfl, rfl⟩ := k
      have hc : ((cells (pw t) f).length : Int) = pw t := by rw [cells_len]; omega
      cases R with
      | nil =>
        have ea : at_ = pw t := k2
        have hlt : decide (at_ < pw t) = false := decide_eq_false (by omega)
        refine ⟨_, [some (.int t), some (.tup (L.map eR)), some (.loc 0), y3, y4, z5, some (.loc 1), some (.int at_), some (.int i), z9, z10, z11], [.list ((cells (pw t) f).map .int), .list (D.map eP)], rfl, .inl ?_, st_nil, D, [], at_, _, _, _, _, _, k1, k2, Nat.zero_le _, rfl, rfl⟩
        simp -dsimp -implicitDefEqProofs (disch := (first | assumption | omega | (simp -implicitDefEqProofs only [nl_nil, nl_int, nl_bl, nl_non, nl_str, nl_tup, nl_lst, nl_app, nl_ints, nl_rooms, nl_eR, nl_parts, nl_rev, Bool.and_self, List.length_cons, List.length_nil, List.length_map, List.length_append, List.length_replicate]; done) | (simp -implicitDefEqProofs only [nl_nil, nl_int, nl_bl, nl_non, nl_str, nl_tup, nl_lst, nl_app, nl_ints, nl_rooms, nl_eR, nl_parts, nl_rev, Bool.and_self, List.length_cons, List.length_nil, List.length_map, List.length_append, List.length_replicate]; omega) | (simp -implicitDefEqProofs; done) | (simp -implicitDefEqProofs; omega))) only [E_k, E_d0, E_var, E_bin, E_neg, E_cmp, E_cmp2, E_and, E_or, E_not, E_ite, E_tup, E_idx, E_slc, E_call, E_callk, E_b1, E_b2, E_isi, E_pop, E_inl, E_mk, E_trep, E_trev, E_mink, E_mind, T_and, T_or, T_not, T_cmp, T_cmp2, T_tr, A_nil, A_cons, O_no, O_part, F_disp, F_comp, F_cat, F_rep, F_slc, F_list, F_sort, F_call, C_nil, C_cons, I_rng1, I_rng2, I_rng3, I_enum, I_zip, I_seq, I_rev, S_nil, S_cons, S_pass, S_set, S_setT, S_par, S_aug, S_expr, S_ret, S_retN, S_ite, S_for, S_while, S_app, S_setI, S_setS, S_ins, S_rem, S_brk, S_cont, change_some, change_none, Res.bnd_ok, Res.bnd_exc, Res.bnd_bad, Res.cnd_true, Res.cnd_false, Res.ofO_some, Res.ofO_none, Res.andB_true, Res.andB_false, Res.andB_ok, Res.orB_true, Res.orB_false, Res.orB_ok, Res.andT_true, Res.andT_false, Res.andT_ok, Res.orT_true, Res.orT_false, Res.orT_ok, SRes.sq_nx, SRes.sq_rt, SRes.sq_bk, SRes.sq_ct, SRes.sq_exc, SRes.sq_bad, Res.st_ok, Res.st_exc, Res.st_bad, SRes.cnd_true, SRes.cnd_false, Ret.close_rt, Ret.close_nx, lk_0, lk_s, List.set_cons_zero, List.set_cons_succ, List.getElem?_cons_zero, List.getElem?_cons_succ, List.length_cons, List.length_nil, List.length_map, List.length_append, List.nil_append, List.cons_append, Nat.zero_add, Nat.reduceAdd, Nat.add_zero, v_add, v_sub, v_mul, v_fdiv, v_mod, v_shl, v_pow, v_shr, v_bxor, v_cat, v_neg, v_bool, v_int, v_tup, v_loc, v_aug_add, v_own, c_eq, c_ne, c_lt, c_le, c_gt, c_ge, c_isn_non, c_isn_int, c_isn_tup, c_isn_lst, c_isnn_non, c_isnn_int, c_isnn_tup, c_isnn_lst, c_ist, c_isnt, c_eqB, c_neB, mem_tupI, mem_lstI, nmem_tupI, t_bl, t_int, t_non, t_tup, t_lst, q_tup, q_lst, q_scr, q_loc, lv_lst, lv_loc, sv_scr, sv_lst, sv_loc, ix_v, at_0, at_1, at_2, b_len, b_intB, b_int, b_boolB, b_tupT, b_tupL, b_tup_loc, b_allV, b_anyV, b_anyT, any_bm, any_im, any_b0, any_bc, any_ints, Option.some_or, bo_nil, bo_cons, bools_map, all_mapid, any_mapid, List.all_cons, List.all_nil, List.any_cons, List.any_nil, id, b_sum, b_max, b_min, b_divmod, few_ok, catL_ok, trep_ok, rep_ok, ty_non, ty_bl, ty_int, ty_str, ty_tup, ty_lst, ty_dct, ii_ii, ii_bi, ii_si, ii_ti, ii_li, ii_ni, ii_di, ii_ib, ii_bb, ii_sb, ii_tb, ii_lb, ii_nb, ii_db, ii_it, ii_bt, ii_st, ii_tt, ii_lt, ii_nt, ii_dt, bt_n, bt_t, bt_l, bs_nil, bs_cons, wipe_nil, wipe_cons, sa_nil, sa_cons, Option.bind_some, Option.bind_none, Option.map_some, Option.map_none, r_non, r_bl, r_int, r_str, r_tup, r_lst, r_scr, r_loc, ho_nil, ho_e, ho_f, ho_t, do_call, ioAt, roAt, fin_0, fin_1, fin_rob, fin_roi, fin_ron, fin_ro, fin_1r, lv_non, lv_bl, lv_int, lv_str, lv_tup, lv_lst', lv_loc', to_0, to_1, to_2, leave_eq, nl_nil, nl_int, nl_bl, nl_non, nl_str, nl_tup, nl_lst, nl_app, nl_ints, nl_rooms, nl_eR, nl_rev, ro_eR, ro_eRf, r_eR, q_eR, c_eqR, c_eqRL, c_eqRT, Bool.and_self, Bool.and_true, Bool.true_and, Bool.and_false, Bool.false_and, Bool.or_false, Bool.false_or, Bool.or_true, Bool.true_or, Bool.not_true, Bool.not_false, decide_true, decide_false, Int.cast_ofNat_Int, Int.natCast_add, Int.cast_ofNat_Int, lob_l, gu_ok, app_eq, app_ok, ins_eq, ins_ok, rem_eq, rem_ok, mem_loc, memG_rooms, c_neR, setI_eq, setI_ok, setS_eq, setS_ok, pop_eq, pop_ok, pop_1, Function.comp_apply, Int.reduceToNat, Int.reducePow, Int.reduceNeg, Int.reduceAdd, Int.reduceSub, Int.reduceMul, Int.reduceLT, Int.reduceLE, Int.reduceEq, Nat.reduceSub, Nat.reduceMul, Nat.reducePow, locksOf, st_nil, st_refl, bt_eR, ne_nil, neG_rooms, neG_rooms1, neG_nil, List.map_append, List.map_cons, List.map_nil, argsK, arrange, and_self, if_true, if_false, Bool.false_eq_true, List.map_reverse, rep1, nl_rep, pw_fold, hp_get, hp_set, rng1_ok, l__law_map_1, hc, hlt]
      | cons p R =>
        obtain ⟨k4, k5⟩ := k2
        have hm : p ∈ mapP t L := by rw [k1]; simp
        have hDl : D.length ≤ 64 := by
          have := mapP_len (t := t) (L := L)
          rw [k1, List.length_append] at this
          omega
        subst k4
        obtain ⟨y10, y11, e1⟩ := map_turn ht n hs f2 (p := p) (m4 p hm) ⟨fun q => (m2 p.1).mp (by rw [← q]; exact hm), fun q => (m1 p.1).mp (by rw [← q]; exact hm)⟩ hDl y3 y4 z5 (some (.int i)) z9 z10 z11
        exact ⟨_, _, _, rfl, .inl e1, st_nil, D ++ [p], R, _, _, _, _, _, _, by rw [k1]; simp, k5, by simpa using k3, rfl, rfl⟩)
    (L := List.range 32) (env := [some (.int t), some (.tup (L.map eR)), some (.loc 0), y3, y4, y5, some (.loc 1), some (.int 0), none, none, none, none]) (h := [.list ((cells (pw t) f).map .int), .list []])
    ⟨[], mapP t L, 0, _, _, _, _, _, rfl, mapP_cont ht hs, by rw [List.length_range]; exact mapP_len, rfl, rfl⟩
  obtain ⟨D, R, at_, z5, z8, z9, z10, z11, k1, k2, k3, rfl, rfl⟩ := g2
  have : R = [] := List.eq_nil_of_length_eq_zero (by simpa using k3)
  subst this
  rw [List.append_nil] at k1
  rw [← k1] at g1
  have hb := ht.bd
  have hr : (List.replicate (pw t).toNat (0 : Int)).map Val.int = (cells (pw t) fun _ => 0).map Val.int := by rw [cells_zero]
  rw [at__law_map]
  simp -dsimp -implicitDefEqProofs (disch := (first | assumption | omega | (simp -implicitDefEqProofs only [nl_nil, nl_int, nl_bl, nl_non, nl_str, nl_tup, nl_lst, nl_app, nl_ints, nl_rooms, nl_eR, nl_parts, nl_rev, Bool.and_self, List.length_cons, List.length_nil, List.length_map, List.length_append, List.length_replicate]; done) | (simp -implicitDefEqProofs only [nl_nil, nl_int, nl_bl, nl_non, nl_str, nl_tup, nl_lst, nl_app, nl_ints, nl_rooms, nl_eR, nl_parts, nl_rev, Bool.and_self, List.length_cons, List.length_nil, List.length_map, List.length_append, List.length_replicate]; omega) | (simp -implicitDefEqProofs; done) | (simp -implicitDefEqProofs; omega))) only [E_k, E_d0, E_var, E_bin, E_neg, E_cmp, E_cmp2, E_and, E_or, E_not, E_ite, E_tup, E_idx, E_slc, E_call, E_callk, E_b1, E_b2, E_isi, E_pop, E_inl, E_mk, E_trep, E_trev, E_mink, E_mind, T_and, T_or, T_not, T_cmp, T_cmp2, T_tr, A_nil, A_cons, O_no, O_part, F_disp, F_comp, F_cat, F_rep, F_slc, F_list, F_sort, F_call, C_nil, C_cons, I_rng1, I_rng2, I_rng3, I_enum, I_zip, I_seq, I_rev, S_nil, S_cons, S_pass, S_set, S_setT, S_par, S_aug, S_expr, S_ret, S_retN, S_ite, S_for, S_while, S_app, S_setI, S_setS, S_ins, S_rem, S_brk, S_cont, change_some, change_none, Res.bnd_ok, Res.bnd_exc, Res.bnd_bad, Res.cnd_true, Res.cnd_false, Res.ofO_some, Res.ofO_none, Res.andB_true, Res.andB_false, Res.andB_ok, Res.orB_true, Res.orB_false, Res.orB_ok, Res.andT_true, Res.andT_false, Res.andT_ok, Res.orT_true, Res.orT_false, Res.orT_ok, SRes.sq_nx, SRes.sq_rt, SRes.sq_bk, SRes.sq_ct, SRes.sq_exc, SRes.sq_bad, Res.st_ok, Res.st_exc, Res.st_bad, SRes.cnd_true, SRes.cnd_false, Ret.close_rt, Ret.close_nx, lk_0, lk_s, List.set_cons_zero, List.set_cons_succ, List.getElem?_cons_zero, List.getElem?_cons_succ, List.length_cons, List.length_nil, List.length_map, List.length_append, List.nil_append, List.cons_append, Nat.zero_add, Nat.reduceAdd, Nat.add_zero, v_add, v_sub, v_mul, v_fdiv, v_mod, v_shl, v_pow, v_shr, v_bxor, v_cat, v_neg, v_bool, v_int, v_tup, v_loc, v_aug_add, v_own, c_eq, c_ne, c_lt, c_le, c_gt, c_ge, c_isn_non, c_isn_int, c_isn_tup, c_isn_lst, c_isnn_non, c_isnn_int, c_isnn_tup, c_isnn_lst, c_ist, c_isnt, c_eqB, c_neB, mem_tupI, mem_lstI, nmem_tupI, t_bl, t_int, t_non, t_tup, t_lst, q_tup, q_lst, q_scr, q_loc, lv_lst, lv_loc, sv_scr, sv_lst, sv_loc, ix_v, at_0, at_1, at_2, b_len, b_intB, b_int, b_boolB, b_tupT, b_tupL, b_tup_loc, b_allV, b_anyV, b_anyT, any_bm, any_im, any_b0, any_bc, any_ints, Option.some_or, bo_nil, bo_cons, bools_map, all_mapid, any_mapid, List.all_cons, List.all_nil, List.any_cons, List.any_nil, id, b_sum, b_max, b_min, b_divmod, few_ok, catL_ok, trep_ok, rep_ok, ty_non, ty_bl, ty_int, ty_str, ty_tup, ty_lst, ty_dct, ii_ii, ii_bi, ii_si, ii_ti, ii_li, ii_ni, ii_di, ii_ib, ii_bb, ii_sb, ii_tb, ii_lb, ii_nb, ii_db, ii_it, ii_bt, ii_st, ii_tt, ii_lt, ii_nt, ii_dt, bt_n, bt_t, bt_l, bs_nil, bs_cons, wipe_nil, wipe_cons, sa_nil, sa_cons, Option.bind_some, Option.bind_none, Option.map_some, Option.map_none, r_non, r_bl, r_int, r_str, r_tup, r_lst, r_scr, r_loc, ho_nil, ho_e, ho_f, ho_t, do_call, ioAt, roAt, fin_0, fin_1, fin_rob, fin_roi, fin_ron, fin_ro, fin_1r, lv_non, lv_bl, lv_int, lv_str, lv_tup, lv_lst', lv_loc', to_0, to_1, to_2, leave_eq, nl_nil, nl_int, nl_bl, nl_non, nl_str, nl_tup, nl_lst, nl_app, nl_ints, nl_rooms, nl_eR, nl_rev, ro_eR, ro_eRf, r_eR, q_eR, c_eqR, c_eqRL, c_eqRT, Bool.and_self, Bool.and_true, Bool.true_and, Bool.and_false, Bool.false_and, Bool.or_false, Bool.false_or, Bool.or_true, Bool.true_or, Bool.not_true, Bool.not_false, decide_true, decide_false, Int.cast_ofNat_Int, Int.natCast_add, Int.cast_ofNat_Int, lob_l, gu_ok, app_eq, app_ok, ins_eq, ins_ok, rem_eq, rem_ok, mem_loc, memG_rooms, c_neR, setI_eq, setI_ok, setS_eq, setS_ok, pop_eq, pop_ok, pop_1, Function.comp_apply, Int.reduceToNat, Int.reducePow, Int.reduceNeg, Int.reduceAdd, Int.reduceSub, Int.reduceMul, Int.reduceLT, Int.reduceLE, Int.reduceEq, Nat.reduceSub, Nat.reduceMul, Nat.reducePow, locksOf, st_nil, st_refl, bt_eR, ne_nil, neG_rooms, neG_rooms1, neG_nil, List.map_append, List.map_cons, List.map_nil, argsK, arrange, and_self, if_true, if_false, Bool.false_eq_true, List.map_reverse, rep1, nl_rep, pw_fold, hp_get, hp_set, rng1_ok, b__law_map, hr, f1, g1]

theorem got_c {t s : Int} (ht : Tall t) (n : Nat) {L : List Room} (hL : OutOk t L) {x3 x4 x5 x6 : Option Val} {h : Heap} : evalF [] (run prog (n + 2)) [some (.int t), some (.tup (L.map eR)), some (.int s), x3, x4, x5, x6] c__law_got_0 h = .ok (((dues t L).filter fun r => decide (s ≤ r.2)).map fun r => eR (r.2, r.1)) h := by
  have hl2 := mapP_len (t := t) (L := L)
  have f := law_map ht n hL
  simp -dsimp -implicitDefEqProofs (disch := (first | assumption | omega | (simp -implicitDefEqProofs only [nl_nil, nl_int, nl_bl, nl_non, nl_str, nl_tup, nl_lst, nl_app, nl_ints, nl_rooms, nl_eR, nl_parts, nl_rev, Bool.and_self, List.length_cons, List.length_nil, List.length_map, List.length_append, List.length_replicate]; done) | (simp -implicitDefEqProofs only [nl_nil, nl_int, nl_bl, nl_non, nl_str, nl_tup, nl_lst, nl_app, nl_ints, nl_rooms, nl_eR, nl_parts, nl_rev, Bool.and_self, List.length_cons, List.length_nil, List.length_map, List.length_append, List.length_replicate]; omega) | (simp -implicitDefEqProofs; done) | (simp -implicitDefEqProofs; omega))) only [E_k, E_d0, E_var, E_bin, E_neg, E_cmp, E_cmp2, E_and, E_or, E_not, E_ite, E_tup, E_idx, E_slc, E_call, E_callk, E_b1, E_b2, E_isi, E_pop, E_inl, E_mk, E_trep, E_trev, E_mink, E_mind, T_and, T_or, T_not, T_cmp, T_cmp2, T_tr, A_nil, A_cons, O_no, O_part, F_disp, F_comp, F_cat, F_rep, F_slc, F_list, F_sort, F_call, C_nil, C_cons, I_rng1, I_rng2, I_rng3, I_enum, I_zip, I_seq, I_rev, S_nil, S_cons, S_pass, S_set, S_setT, S_par, S_aug, S_expr, S_ret, S_retN, S_ite, S_for, S_while, S_app, S_setI, S_setS, S_ins, S_rem, S_brk, S_cont, change_some, change_none, Res.bnd_ok, Res.bnd_exc, Res.bnd_bad, Res.cnd_true, Res.cnd_false, Res.ofO_some, Res.ofO_none, Res.andB_true, Res.andB_false, Res.andB_ok, Res.orB_true, Res.orB_false, Res.orB_ok, Res.andT_true, Res.andT_false, Res.andT_ok, Res.orT_true, Res.orT_false, Res.orT_ok, SRes.sq_nx, SRes.sq_rt, SRes.sq_bk, SRes.sq_ct, SRes.sq_exc, SRes.sq_bad, Res.st_ok, Res.st_exc, Res.st_bad, SRes.cnd_true, SRes.cnd_false, Ret.close_rt, Ret.close_nx, lk_0, lk_s, List.set_cons_zero, List.set_cons_succ, List.getElem?_cons_zero, List.getElem?_cons_succ, List.length_cons, List.length_nil, List.length_map, List.length_append, List.nil_append, List.cons_append, Nat.zero_add, Nat.reduceAdd, Nat.add_zero, v_add, v_sub, v_mul, v_fdiv, v_mod, v_shl, v_pow, v_shr, v_bxor, v_cat, v_neg, v_bool, v_int, v_tup, v_loc, v_aug_add, v_own, c_eq, c_ne, c_lt, c_le, c_gt, c_ge, c_isn_non, c_isn_int, c_isn_tup, c_isn_lst, c_isnn_non, c_isnn_int, c_isnn_tup, c_isnn_lst, c_ist, c_isnt, c_eqB, c_neB, mem_tupI, mem_lstI, nmem_tupI, t_bl, t_int, t_non, t_tup, t_lst, q_tup, q_lst, q_scr, q_loc, lv_lst, lv_loc, sv_scr, sv_lst, sv_loc, ix_v, at_0, at_1, at_2, b_len, b_intB, b_int, b_boolB, b_tupT, b_tupL, b_tup_loc, b_allV, b_anyV, b_anyT, any_bm, any_im, any_b0, any_bc, any_ints, Option.some_or, bo_nil, bo_cons, bools_map, all_mapid, any_mapid, List.all_cons, List.all_nil, List.any_cons, List.any_nil, id, b_sum, b_max, b_min, b_divmod, few_ok, catL_ok, trep_ok, rep_ok, ty_non, ty_bl, ty_int, ty_str, ty_tup, ty_lst, ty_dct, ii_ii, ii_bi, ii_si, ii_ti, ii_li, ii_ni, ii_di, ii_ib, ii_bb, ii_sb, ii_tb, ii_lb, ii_nb, ii_db, ii_it, ii_bt, ii_st, ii_tt, ii_lt, ii_nt, ii_dt, bt_n, bt_t, bt_l, bs_nil, bs_cons, wipe_nil, wipe_cons, sa_nil, sa_cons, Option.bind_some, Option.bind_none, Option.map_some, Option.map_none, r_non, r_bl, r_int, r_str, r_tup, r_lst, r_scr, r_loc, ho_nil, ho_e, ho_f, ho_t, do_call, ioAt, roAt, fin_0, fin_1, fin_rob, fin_roi, fin_ron, fin_ro, fin_1r, lv_non, lv_bl, lv_int, lv_str, lv_tup, lv_lst', lv_loc', to_0, to_1, to_2, leave_eq, nl_nil, nl_int, nl_bl, nl_non, nl_str, nl_tup, nl_lst, nl_app, nl_ints, nl_rooms, nl_eR, nl_rev, ro_eR, ro_eRf, r_eR, q_eR, c_eqR, c_eqRL, c_eqRT, Bool.and_self, Bool.and_true, Bool.true_and, Bool.and_false, Bool.false_and, Bool.or_false, Bool.false_or, Bool.or_true, Bool.true_or, Bool.not_true, Bool.not_false, decide_true, decide_false, Int.cast_ofNat_Int, Int.natCast_add, Int.cast_ofNat_Int, lob_l, gu_ok, app_eq, app_ok, ins_eq, ins_ok, rem_eq, rem_ok, mem_loc, memG_rooms, c_neR, setI_eq, setI_ok, setS_eq, setS_ok, pop_eq, pop_ok, pop_1, Function.comp_apply, Int.reduceToNat, Int.reducePow, Int.reduceNeg, Int.reduceAdd, Int.reduceSub, Int.reduceMul, Int.reduceLT, Int.reduceLE, Int.reduceEq, Nat.reduceSub, Nat.reduceMul, Nat.reducePow, locksOf, st_nil, st_refl, bt_eR, ne_nil, neG_rooms, neG_rooms1, neG_nil, List.map_append, List.map_cons, List.map_nil, argsK, arrange, and_self, if_true, if_false, Bool.false_eq_true, List.map_reverse, rep1, nl_rep, pw_fold, hp_get, hp_set, rng1_ok, c__law_got_0, f, hl2]
  rw [show ((dues t L).filter fun r => decide (s ≤ r.2)).map (fun r => eR (r.2, r.1)) = ((mapP t L).filter fun p => !p.2 && decide (s ≤ p.1.2)).map fun q => eR (q.1.2, q.1.1) by
    rw [dues, List.filter_map, List.map_map, List.filter_filter]; congr 1; apply List.filter_congr; intro p hp; simp [Bool.and_comm]]
  refine comp_fm (p := fun q : Room × Bool => !q.2 && decide (s ≤ q.1.2)) fun q hq => ?_
  obtain ⟨⟨q1, q2⟩, b⟩ := q
  cases b
  · cases k : decide (s ≤ q2) <;> simp -dsimp -implicitDefEqProofs (disch := (first | assumption | omega | (simp -implicitDefEqProofs only [nl_nil, nl_int, nl_bl, nl_non, nl_str, nl_tup, nl_lst, nl_app, nl_ints, nl_rooms, nl_eR, nl_parts, nl_rev, Bool.and_self, List.length_cons, List.length_nil, List.length_map, List.length_append, List.length_replicate]; done) | (simp -implicitDefEqProofs only [nl_nil, nl_int, nl_bl, nl_non, nl_str, nl_tup, nl_lst, nl_app, nl_ints, nl_rooms, nl_eR, nl_parts, nl_rev, Bool.and_self, List.length_cons, List.length_nil, List.length_map, List.length_append, List.length_replicate]; omega) | (simp -implicitDefEqProofs; done) | (simp -implicitDefEqProofs; omega))) only [E_k, E_d0, E_var, E_bin, E_neg, E_cmp, E_cmp2, E_and, E_or, E_not, E_ite, E_tup, E_idx, E_slc, E_call, E_callk, E_b1, E_b2, E_isi, E_pop, E_inl, E_mk, E_trep, E_trev, E_mink, E_mind, T_and, T_or, T_not, T_cmp, T_cmp2, T_tr, A_nil, A_cons, O_no, O_part, F_disp, F_comp, F_cat, F_rep, F_slc, F_list, F_sort, F_call, C_nil, C_cons, I_rng1, I_rng2, I_rng3, I_enum, I_zip, I_seq, I_rev, S_nil, S_cons, S_pass, S_set, S_setT, S_par, S_aug, S_expr, S_ret, S_retN, S_ite, S_for, S_while, S_app, S_setI, S_setS, S_ins, S_rem, S_brk, S_cont, change_some, change_none, Res.bnd_ok, Res.bnd_exc, Res.bnd_bad, Res.cnd_true, Res.cnd_false, Res.ofO_some, Res.ofO_none, Res.andB_true, Res.andB_false, Res.andB_ok, Res.orB_true, Res.orB_false, Res.orB_ok, Res.andT_true, Res.andT_false, Res.andT_ok, Res.orT_true, Res.orT_false, Res.orT_ok, SRes.sq_nx, SRes.sq_rt, SRes.sq_bk, SRes.sq_ct, SRes.sq_exc, SRes.sq_bad, Res.st_ok, Res.st_exc, Res.st_bad, SRes.cnd_true, SRes.cnd_false, Ret.close_rt, Ret.close_nx, lk_0, lk_s, List.set_cons_zero, List.set_cons_succ, List.getElem?_cons_zero, List.getElem?_cons_succ, List.length_cons, List.length_nil, List.length_map, List.length_append, List.nil_append, List.cons_append, Nat.zero_add, Nat.reduceAdd, Nat.add_zero, v_add, v_sub, v_mul, v_fdiv, v_mod, v_shl, v_pow, v_shr, v_bxor, v_cat, v_neg, v_bool, v_int, v_tup, v_loc, v_aug_add, v_own, c_eq, c_ne, c_lt, c_le, c_gt, c_ge, c_isn_non, c_isn_int, c_isn_tup, c_isn_lst, c_isnn_non, c_isnn_int, c_isnn_tup, c_isnn_lst, c_ist, c_isnt, c_eqB, c_neB, mem_tupI, mem_lstI, nmem_tupI, t_bl, t_int, t_non, t_tup, t_lst, q_tup, q_lst, q_scr, q_loc, lv_lst, lv_loc, sv_scr, sv_lst, sv_loc, ix_v, at_0, at_1, at_2, b_len, b_intB, b_int, b_boolB, b_tupT, b_tupL, b_tup_loc, b_allV, b_anyV, b_anyT, any_bm, any_im, any_b0, any_bc, any_ints, Option.some_or, bo_nil, bo_cons, bools_map, all_mapid, any_mapid, List.all_cons, List.all_nil, List.any_cons, List.any_nil, id, b_sum, b_max, b_min, b_divmod, few_ok, catL_ok, trep_ok, rep_ok, ty_non, ty_bl, ty_int, ty_str, ty_tup, ty_lst, ty_dct, ii_ii, ii_bi, ii_si, ii_ti, ii_li, ii_ni, ii_di, ii_ib, ii_bb, ii_sb, ii_tb, ii_lb, ii_nb, ii_db, ii_it, ii_bt, ii_st, ii_tt, ii_lt, ii_nt, ii_dt, bt_n, bt_t, bt_l, bs_nil, bs_cons, wipe_nil, wipe_cons, sa_nil, sa_cons, Option.bind_some, Option.bind_none, Option.map_some, Option.map_none, r_non, r_bl, r_int, r_str, r_tup, r_lst, r_scr, r_loc, ho_nil, ho_e, ho_f, ho_t, do_call, ioAt, roAt, fin_0, fin_1, fin_rob, fin_roi, fin_ron, fin_ro, fin_1r, lv_non, lv_bl, lv_int, lv_str, lv_tup, lv_lst', lv_loc', to_0, to_1, to_2, leave_eq, nl_nil, nl_int, nl_bl, nl_non, nl_str, nl_tup, nl_lst, nl_app, nl_ints, nl_rooms, nl_eR, nl_rev, ro_eR, ro_eRf, r_eR, q_eR, c_eqR, c_eqRL, c_eqRT, Bool.and_self, Bool.and_true, Bool.true_and, Bool.and_false, Bool.false_and, Bool.or_false, Bool.false_or, Bool.or_true, Bool.true_or, Bool.not_true, Bool.not_false, decide_true, decide_false, Int.cast_ofNat_Int, Int.natCast_add, Int.cast_ofNat_Int, lob_l, gu_ok, app_eq, app_ok, ins_eq, ins_ok, rem_eq, rem_ok, mem_loc, memG_rooms, c_neR, setI_eq, setI_ok, setS_eq, setS_ok, pop_eq, pop_ok, pop_1, Function.comp_apply, Int.reduceToNat, Int.reducePow, Int.reduceNeg, Int.reduceAdd, Int.reduceSub, Int.reduceMul, Int.reduceLT, Int.reduceLE, Int.reduceEq, Nat.reduceSub, Nat.reduceMul, Nat.reducePow, locksOf, st_nil, st_refl, bt_eR, ne_nil, neG_rooms, neG_rooms1, neG_nil, List.map_append, List.map_cons, List.map_nil, argsK, arrange, and_self, if_true, if_false, Bool.false_eq_true, List.map_reverse, rep1, nl_rep, pw_fold, hp_get, hp_set, rng1_ok, turn_eq, eP, k] <;> all_goals rfl
  · simp -dsimp -implicitDefEqProofs (disch := (first | assumption | omega | (simp -implicitDefEqProofs only [nl_nil, nl_int, nl_bl, nl_non, nl_str, nl_tup, nl_lst, nl_app, nl_ints, nl_rooms, nl_eR, nl_parts, nl_rev, Bool.and_self, List.length_cons, List.length_nil, List.length_map, List.length_append, List.length_replicate]; done) | (simp -implicitDefEqProofs only [nl_nil, nl_int, nl_bl, nl_non, nl_str, nl_tup, nl_lst, nl_app, nl_ints, nl_rooms, nl_eR, nl_parts, nl_rev, Bool.and_self, List.length_cons, List.length_nil, List.length_map, List.length_append, List.length_replicate]; omega) | (simp -implicitDefEqProofs; done) | (simp -implicitDefEqProofs; omega))) only [E_k, E_d0, E_var, E_bin, E_neg, E_cmp, E_cmp2, E_and, E_or, E_not, E_ite, E_tup, E_idx, E_slc, E_call, E_callk, E_b1, E_b2, E_isi, E_pop, E_inl, E_mk, E_trep, E_trev, E_mink, E_mind, T_and, T_or, T_not, T_cmp, T_cmp2, T_tr, A_nil, A_cons, O_no, O_part, F_disp, F_comp, F_cat, F_rep, F_slc, F_list, F_sort, F_call, C_nil, C_cons, I_rng1, I_rng2, I_rng3, I_enum, I_zip, I_seq, I_rev, S_nil, S_cons, S_pass, S_set, S_setT, S_par, S_aug, S_expr, S_ret, S_retN, S_ite, S_for, S_while, S_app, S_setI, S_setS, S_ins, S_rem, S_brk, S_cont, change_some, change_none, Res.bnd_ok, Res.bnd_exc, Res.bnd_bad, Res.cnd_true, Res.cnd_false, Res.ofO_some, Res.ofO_none, Res.andB_true, Res.andB_false, Res.andB_ok, Res.orB_true, Res.orB_false, Res.orB_ok, Res.andT_true, Res.andT_false, Res.andT_ok, Res.orT_true, Res.orT_false, Res.orT_ok, SRes.sq_nx, SRes.sq_rt, SRes.sq_bk, SRes.sq_ct, SRes.sq_exc, SRes.sq_bad, Res.st_ok, Res.st_exc, Res.st_bad, SRes.cnd_true, SRes.cnd_false, Ret.close_rt, Ret.close_nx, lk_0, lk_s, List.set_cons_zero, List.set_cons_succ, List.getElem?_cons_zero, List.getElem?_cons_succ, List.length_cons, List.length_nil, List.length_map, List.length_append, List.nil_append, List.cons_append, Nat.zero_add, Nat.reduceAdd, Nat.add_zero, v_add, v_sub, v_mul, v_fdiv, v_mod, v_shl, v_pow, v_shr, v_bxor, v_cat, v_neg, v_bool, v_int, v_tup, v_loc, v_aug_add, v_own, c_eq, c_ne, c_lt, c_le, c_gt, c_ge, c_isn_non, c_isn_int, c_isn_tup, c_isn_lst, c_isnn_non, c_isnn_int, c_isnn_tup, c_isnn_lst, c_ist, c_isnt, c_eqB, c_neB, mem_tupI, mem_lstI, nmem_tupI, t_bl, t_int, t_non, t_tup, t_lst, q_tup, q_lst, q_scr, q_loc, lv_lst, lv_loc, sv_scr, sv_lst, sv_loc, ix_v, at_0, at_1, at_2, b_len, b_intB, b_int, b_boolB, b_tupT, b_tupL, b_tup_loc, b_allV, b_anyV, b_anyT, any_bm, any_im, any_b0, any_bc, any_ints, Option.some_or, bo_nil, bo_cons, bools_map, all_mapid, any_mapid, List.all_cons, List.all_nil, List.any_cons, List.any_nil, id, b_sum, b_max, b_min, b_divmod, few_ok, catL_ok, trep_ok, rep_ok, ty_non, ty_bl, ty_int, ty_str, ty_tup, ty_lst, ty_dct, ii_ii, ii_bi, ii_si, ii_ti, ii_li, ii_ni, ii_di, ii_ib, ii_bb, ii_sb, ii_tb, ii_lb, ii_nb, ii_db, ii_it, ii_bt, ii_st, ii_tt, ii_lt, ii_nt, ii_dt, bt_n, bt_t, bt_l, bs_nil, bs_cons, wipe_nil, wipe_cons, sa_nil, sa_cons, Option.bind_some, Option.bind_none, Option.map_some, Option.map_none, r_non, r_bl, r_int, r_str, r_tup, r_lst, r_scr, r_loc, ho_nil, ho_e, ho_f, ho_t, do_call, ioAt, roAt, fin_0, fin_1, fin_rob, fin_roi, fin_ron, fin_ro, fin_1r, lv_non, lv_bl, lv_int, lv_str, lv_tup, lv_lst', lv_loc', to_0, to_1, to_2, leave_eq, nl_nil, nl_int, nl_bl, nl_non, nl_str, nl_tup, nl_lst, nl_app, nl_ints, nl_rooms, nl_eR, nl_rev, ro_eR, ro_eRf, r_eR, q_eR, c_eqR, c_eqRL, c_eqRT, Bool.and_self, Bool.and_true, Bool.true_and, Bool.and_false, Bool.false_and, Bool.or_false, Bool.false_or, Bool.or_true, Bool.true_or, Bool.not_true, Bool.not_false, decide_true, decide_false, Int.cast_ofNat_Int, Int.natCast_add, Int.cast_ofNat_Int, lob_l, gu_ok, app_eq, app_ok, ins_eq, ins_ok, rem_eq, rem_ok, mem_loc, memG_rooms, c_neR, setI_eq, setI_ok, setS_eq, setS_ok, pop_eq, pop_ok, pop_1, Function.comp_apply, Int.reduceToNat, Int.reducePow, Int.reduceNeg, Int.reduceAdd, Int.reduceSub, Int.reduceMul, Int.reduceLT, Int.reduceLE, Int.reduceEq, Nat.reduceSub, Nat.reduceMul, Nat.reducePow, locksOf, st_nil, st_refl, bt_eR, ne_nil, neG_rooms, neG_rooms1, neG_nil, List.map_append, List.map_cons, List.map_nil, argsK, arrange, and_self, if_true, if_false, Bool.false_eq_true, List.map_reverse, rep1, nl_rep, pw_fold, hp_get, hp_set, rng1_ok, turn_eq, eP]
    all_goals rfl
/-- the room that a wish gets, by the law -/
theorem law_got {t s : Int} (ht : Tall t) (n : Nat) {L : List Room} (hL : OutOk t L) : run prog (n + 3) 6 [.int t, .tup (L.map eR), .int s] = rt (optR (gotL t L s)) := by
  have f := fun {x3 x4 x5 x6 : Option Val} {h : Heap} => got_c ht n hL (s := s) (x3 := x3) (x4 := x4) (x5 := x5) (x6 := x6) (h := h)
  have hl := dues_len (t := t) (L := L)
  have hl2 : ((dues t L).filter fun r => decide (s ≤ r.2)).length ≤ 32 := Nat.le_trans (List.length_filter_le _ _) hl
  rw [at__law_got]
  unfold gotL
  generalize (dues t L).filter (fun r => decide (s ≤ r.2)) = F at f hl2 ⊢
  cases F with
  | nil =>
    have e0 : ∀ h : Heap, cmpV h .eq (.lst []) (.lst []) = some true := fun h => rfl
    simp -dsimp -implicitDefEqProofs (disch := (first | assumption | omega | (simp -implicitDefEqProofs only [nl_nil, nl_int, nl_bl, nl_non, nl_str, nl_tup, nl_lst, nl_app, nl_ints, nl_rooms, nl_eR, nl_parts, nl_rev, Bool.and_self, List.length_cons, List.length_nil, List.length_map, List.length_append, List.length_replicate]; done) | (simp -implicitDefEqProofs only [nl_nil, nl_int, nl_bl, nl_non, nl_str, nl_tup, nl_lst, nl_app, nl_ints, nl_rooms, nl_eR, nl_parts, nl_rev, Bool.and_self, List.length_cons, List.length_nil, List.length_map, List.length_append, List.length_replicate]; omega) | (simp -implicitDefEqProofs; done) | (simp -implicitDefEqProofs; omega))) only [E_k, E_d0, E_var, E_bin, E_neg, E_cmp, E_cmp2, E_and, E_or, E_not, E_ite, E_tup, E_idx, E_slc, E_call, E_callk, E_b1, E_b2, E_isi, E_pop, E_inl, E_mk, E_trep, E_trev, E_mink, E_mind, T_and, T_or, T_not, T_cmp, T_cmp2, T_tr, A_nil, A_cons, O_no, O_part, F_disp, F_comp, F_cat, F_rep, F_slc, F_list, F_sort, F_call, C_nil, C_cons, I_rng1, I_rng2, I_rng3, I_enum, I_zip, I_seq, I_rev, S_nil, S_cons, S_pass, S_set, S_setT, S_par, S_aug, S_expr, S_ret, S_retN, S_ite, S_for, S_while, S_app, S_setI, S_setS, S_ins, S_rem, S_brk, S_cont, change_some, change_none, Res.bnd_ok, Res.bnd_exc, Res.bnd_bad, Res.cnd_true, Res.cnd_false, Res.ofO_some, Res.ofO_none, Res.andB_true, Res.andB_false, Res.andB_ok, Res.orB_true, Res.orB_false, Res.orB_ok, Res.andT_true, Res.andT_false, Res.andT_ok, Res.orT_true, Res.orT_false, Res.orT_ok, SRes.sq_nx, SRes.sq_rt, SRes.sq_bk, SRes.sq_ct, SRes.sq_exc, SRes.sq_bad, Res.st_ok, Res.st_exc, Res.st_bad, SRes.cnd_true, SRes.cnd_false, Ret.close_rt, Ret.close_nx, lk_0, lk_s, List.set_cons_zero, List.set_cons_succ, List.getElem?_cons_zero, List.getElem?_cons_succ, List.length_cons, List.length_nil, List.length_map, List.length_append, List.nil_append, List.cons_append, Nat.zero_add, Nat.reduceAdd, Nat.add_zero, v_add, v_sub, v_mul, v_fdiv, v_mod, v_shl, v_pow, v_shr, v_bxor, v_cat, v_neg, v_bool, v_int, v_tup, v_loc, v_aug_add, v_own, c_eq, c_ne, c_lt, c_le, c_gt, c_ge, c_isn_non, c_isn_int, c_isn_tup, c_isn_lst, c_isnn_non, c_isnn_int, c_isnn_tup, c_isnn_lst, c_ist, c_isnt, c_eqB, c_neB, mem_tupI, mem_lstI, nmem_tupI, t_bl, t_int, t_non, t_tup, t_lst, q_tup, q_lst, q_scr, q_loc, lv_lst, lv_loc, sv_scr, sv_lst, sv_loc, ix_v, at_0, at_1, at_2, b_len, b_intB, b_int, b_boolB, b_tupT, b_tupL, b_tup_loc, b_allV, b_anyV, b_anyT, any_bm, any_im, any_b0, any_bc, any_ints, Option.some_or, bo_nil, bo_cons, bools_map, all_mapid, any_mapid, List.all_cons, List.all_nil, List.any_cons, List.any_nil, id, b_sum, b_max, b_min, b_divmod, few_ok, catL_ok, trep_ok, rep_ok, ty_non, ty_bl, ty_int, ty_str, ty_tup, ty_lst, ty_dct, ii_ii, ii_bi, ii_si, ii_ti, ii_li, ii_ni, ii_di, ii_ib, ii_bb, ii_sb, ii_tb, ii_lb, ii_nb, ii_db, ii_it, ii_bt, ii_st, ii_tt, ii_lt, ii_nt, ii_dt, bt_n, bt_t, bt_l, bs_nil, bs_cons, wipe_nil, wipe_cons, sa_nil, sa_cons, Option.bind_some, Option.bind_none, Option.map_some, Option.map_none, r_non, r_bl, r_int, r_str, r_tup, r_lst, r_scr, r_loc, ho_nil, ho_e, ho_f, ho_t, do_call, ioAt, roAt, fin_0, fin_1, fin_rob, fin_roi, fin_ron, fin_ro, fin_1r, lv_non, lv_bl, lv_int, lv_str, lv_tup, lv_lst', lv_loc', to_0, to_1, to_2, leave_eq, nl_nil, nl_int, nl_bl, nl_non, nl_str, nl_tup, nl_lst, nl_app, nl_ints, nl_rooms, nl_eR, nl_rev, ro_eR, ro_eRf, r_eR, q_eR, c_eqR, c_eqRL, c_eqRT, Bool.and_self, Bool.and_true, Bool.true_and, Bool.and_false, Bool.false_and, Bool.or_false, Bool.false_or, Bool.or_true, Bool.true_or, Bool.not_true, Bool.not_false, decide_true, decide_false, Int.cast_ofNat_Int, Int.natCast_add, Int.cast_ofNat_Int, lob_l, gu_ok, app_eq, app_ok, ins_eq, ins_ok, rem_eq, rem_ok, mem_loc, memG_rooms, c_neR, setI_eq, setI_ok, setS_eq, setS_ok, pop_eq, pop_ok, pop_1, Function.comp_apply, Int.reduceToNat, Int.reducePow, Int.reduceNeg, Int.reduceAdd, Int.reduceSub, Int.reduceMul, Int.reduceLT, Int.reduceLE, Int.reduceEq, Nat.reduceSub, Nat.reduceMul, Nat.reducePow, locksOf, st_nil, st_refl, bt_eR, ne_nil, neG_rooms, neG_rooms1, neG_nil, List.map_append, List.map_cons, List.map_nil, argsK, arrange, and_self, if_true, if_false, Bool.false_eq_true, List.map_reverse, rep1, nl_rep, pw_fold, hp_get, hp_set, rng1_ok, b__law_got, f, e0]
    rfl
  | cons x F =>
    have e0 : ∀ h : Heap, cmpV h .eq (.lst (((x :: F).map fun r => eR (r.2, r.1)))) (.lst []) = some false := fun h => by
      have := c_eqRL (h := h) (L := (x :: F).map fun r : Room => ((r.2, r.1) : Room)) (M := [])
      rw [List.map_map] at this
      simpa [Function.comp_def] using this
    have hm := minV_rooms (x := x) (F := F) (by simp only [List.length_cons] at hl2; omega)
    generalize (x :: F).map (fun r => eR (r.2, r.1)) = G at f e0 hm
    simp -dsimp -implicitDefEqProofs (disch := (first | assumption | omega | (simp -implicitDefEqProofs only [nl_nil, nl_int, nl_bl, nl_non, nl_str, nl_tup, nl_lst, nl_app, nl_ints, nl_rooms, nl_eR, nl_parts, nl_rev, Bool.and_self, List.length_cons, List.length_nil, List.length_map, List.length_append, List.length_replicate]; done) | (simp -implicitDefEqProofs only [nl_nil, nl_int, nl_bl, nl_non, nl_str, nl_tup, nl_lst, nl_app, nl_ints, nl_rooms, nl_eR, nl_parts, nl_rev, Bool.and_self, List.length_cons, List.length_nil, List.length_map, List.length_append, List.length_replicate]; omega) | (simp -implicitDefEqProofs; done) | (simp -implicitDefEqProofs; omega))) only [E_k, E_d0, E_var, E_bin, E_neg, E_cmp, E_cmp2, E_and, E_or, E_not, E_ite, E_tup, E_idx, E_slc, E_call, E_callk, E_b1, E_b2, E_isi, E_pop, E_inl, E_mk, E_trep, E_trev, E_mink, E_mind, T_and, T_or, T_not, T_cmp, T_cmp2, T_tr, A_nil, A_cons, O_no, O_part, F_disp, F_comp, F_cat, F_rep, F_slc, F_list, F_sort, F_call, C_nil, C_cons, I_rng1, I_rng2, I_rng3, I_enum, I_zip, I_seq, I_rev, S_nil, S_cons, S_pass, S_set, S_setT, S_par, S_aug, S_expr, S_ret, S_retN, S_ite, S_for, S_while, S_app, S_setI, S_setS, S_ins, S_rem, S_brk, S_cont, change_some, change_none, Res.bnd_ok, Res.bnd_exc, Res.bnd_bad, Res.cnd_true, Res.cnd_false, Res.ofO_some, Res.ofO_none, Res.andB_true, Res.andB_false, Res.andB_ok, Res.orB_true, Res.orB_false, Res.orB_ok, Res.andT_true, Res.andT_false, Res.andT_ok, Res.orT_true, Res.orT_false, Res.orT_ok, SRes.sq_nx, SRes.sq_rt, SRes.sq_bk, SRes.sq_ct, SRes.sq_exc, SRes.sq_bad, Res.st_ok, Res.st_exc, Res.st_bad, SRes.cnd_true, SRes.cnd_false, Ret.close_rt, Ret.close_nx, lk_0, lk_s, List.set_cons_zero, List.set_cons_succ, List.getElem?_cons_zero, List.getElem?_cons_succ, List.length_cons, List.length_nil, List.length_map, List.length_append, List.nil_append, List.cons_append, Nat.zero_add, Nat.reduceAdd, Nat.add_zero, v_add, v_sub, v_mul, v_fdiv, v_mod, v_shl, v_pow, v_shr, v_bxor, v_cat, v_neg, v_bool, v_int, v_tup, v_loc, v_aug_add, v_own, c_eq, c_ne, c_lt, c_le, c_gt, c_ge, c_isn_non, c_isn_int, c_isn_tup, c_isn_lst, c_isnn_non, c_isnn_int, c_isnn_tup, c_isnn_lst, c_ist, c_isnt, c_eqB, c_neB, mem_tupI, mem_lstI, nmem_tupI, t_bl, t_int, t_non, t_tup, t_lst, q_tup, q_lst, q_scr, q_loc, lv_lst, lv_loc, sv_scr, sv_lst, sv_loc, ix_v, at_0, at_1, at_2, b_len, b_intB, b_int, b_boolB, b_tupT, b_tupL, b_tup_loc, b_allV, b_anyV, b_anyT, any_bm, any_im, any_b0, any_bc, any_ints, Option.some_or, bo_nil, bo_cons, bools_map, all_mapid, any_mapid, List.all_cons, List.all_nil, List.any_cons, List.any_nil, id, b_sum, b_max, b_min, b_divmod, few_ok, catL_ok, trep_ok, rep_ok, ty_non, ty_bl, ty_int, ty_str, ty_tup, ty_lst, ty_dct, ii_ii, ii_bi, ii_si, ii_ti, ii_li, ii_ni, ii_di, ii_ib, ii_bb, ii_sb, ii_tb, ii_lb, ii_nb, ii_db, ii_it, ii_bt, ii_st, ii_tt, ii_lt, ii_nt, ii_dt, bt_n, bt_t, bt_l, bs_nil, bs_cons, wipe_nil, wipe_cons, sa_nil, sa_cons, Option.bind_some, Option.bind_none, Option.map_some, Option.map_none, r_non, r_bl, r_int, r_str, r_tup, r_lst, r_scr, r_loc, ho_nil, ho_e, ho_f, ho_t, do_call, ioAt, roAt, fin_0, fin_1, fin_rob, fin_roi, fin_ron, fin_ro, fin_1r, lv_non, lv_bl, lv_int, lv_str, lv_tup, lv_lst', lv_loc', to_0, to_1, to_2, leave_eq, nl_nil, nl_int, nl_bl, nl_non, nl_str, nl_tup, nl_lst, nl_app, nl_ints, nl_rooms, nl_eR, nl_rev, ro_eR, ro_eRf, r_eR, q_eR, c_eqR, c_eqRL, c_eqRT, Bool.and_self, Bool.and_true, Bool.true_and, Bool.and_false, Bool.false_and, Bool.or_false, Bool.false_or, Bool.or_true, Bool.true_or, Bool.not_true, Bool.not_false, decide_true, decide_false, Int.cast_ofNat_Int, Int.natCast_add, Int.cast_ofNat_Int, lob_l, gu_ok, app_eq, app_ok, ins_eq, ins_ok, rem_eq, rem_ok, mem_loc, memG_rooms, c_neR, setI_eq, setI_ok, setS_eq, setS_ok, pop_eq, pop_ok, pop_1, Function.comp_apply, Int.reduceToNat, Int.reducePow, Int.reduceNeg, Int.reduceAdd, Int.reduceSub, Int.reduceMul, Int.reduceLT, Int.reduceLE, Int.reduceEq, Nat.reduceSub, Nat.reduceMul, Nat.reducePow, locksOf, st_nil, st_refl, bt_eR, ne_nil, neG_rooms, neG_rooms1, neG_nil, List.map_append, List.map_cons, List.map_nil, argsK, arrange, and_self, if_true, if_false, Bool.false_eq_true, List.map_reverse, rep1, nl_rep, pw_fold, hp_get, hp_set, rng1_ok, b__law_got, f, e0, hm, bt_eR]
    rfl

/-! LIBprog: the program's map and rule -/
open Dy
theorem tch_T (a b : Room) : tch a b = decide (T a b) := by
  unfold tch T
  by_cases h1 : a.1 < b.1 + b.2 <;> by_cases h2 : b.1 < a.1 + a.2 <;> simp [h1, h2]
theorem c_eq0 {h : Heap} {L : List Room} : cmpV h .eq (.lst (L.map eR)) (.lst []) = some (decide (L = [])) := c_eqRL (M := [])
theorem c_eq1 {h : Heap} {L : List Room} {r : Room} : cmpV h .eq (.lst (L.map eR)) (.lst [eR r]) = some (decide (L = [r])) := c_eqRL (M := [r])
theorem c_10 {h : Heap} {r : Room} : cmpV h .eq (.lst [eR r]) (.lst []) = some false := (c_eqRL (L := [r]) (M := [])).trans (by simp)
theorem c_11 {h : Heap} {r : Room} : cmpV h .eq (.lst [eR r]) (.lst [eR r]) = some true := (c_eqRL (L := [r]) (M := [r])).trans (by simp)
theorem split (n : Nat) (r : Room) : run prog (n + 1) 22 [eR r] = rt (.tup [eR (we r), eR (ea r)]) := by
  rw [at_split]
  simp -dsimp -implicitDefEqProofs (disch := (first | assumption | omega | (simp -implicitDefEqProofs only [nl_nil, nl_int, nl_bl, nl_non, nl_str, nl_tup, nl_lst, nl_app, nl_ints, nl_rooms, nl_eR, nl_parts, nl_rev, Bool.and_self, List.length_cons, List.length_nil, List.length_map, List.length_append, List.length_replicate]; done) | (simp -implicitDefEqProofs only [nl_nil, nl_int, nl_bl, nl_non, nl_str, nl_tup, nl_lst, nl_app, nl_ints, nl_rooms, nl_eR, nl_parts, nl_rev, Bool.and_self, List.length_cons, List.length_nil, List.length_map, List.length_append, List.length_replicate]; omega) | (simp -implicitDefEqProofs; done) | (simp -implicitDefEqProofs; omega))) only [E_k, E_d0, E_var, E_bin, E_neg, E_cmp, E_cmp2, E_and, E_or, E_not, E_ite, E_tup, E_idx, E_slc, E_call, E_callk, E_b1, E_b2, E_isi, E_pop, E_inl, E_mk, E_trep, E_trev, E_mink, E_mind, T_and, T_or, T_not, T_cmp, T_cmp2, T_tr, A_nil, A_cons, O_no, O_part, F_disp, F_comp, F_cat, F_rep, F_slc, F_list, F_sort, F_call, C_nil, C_cons, I_rng1, I_rng2, I_rng3, I_enum, I_zip, I_seq, I_rev, S_nil, S_cons, S_pass, S_set, S_setT, S_par, S_aug, S_expr, S_ret, S_retN, S_ite, S_for, S_while, S_app, S_setI, S_setS, S_ins, S_rem, S_brk, S_cont, change_some, change_none, Res.bnd_ok, Res.bnd_exc, Res.bnd_bad, Res.cnd_true, Res.cnd_false, Res.ofO_some, Res.ofO_none, Res.andB_true, Res.andB_false, Res.andB_ok, Res.orB_true, Res.orB_false, Res.orB_ok, Res.andT_true, Res.andT_false, Res.andT_ok, Res.orT_true, Res.orT_false, Res.orT_ok, SRes.sq_nx, SRes.sq_rt, SRes.sq_bk, SRes.sq_ct, SRes.sq_exc, SRes.sq_bad, Res.st_ok, Res.st_exc, Res.st_bad, SRes.cnd_true, SRes.cnd_false, Ret.close_rt, Ret.close_nx, lk_0, lk_s, List.set_cons_zero, List.set_cons_succ, List.getElem?_cons_zero, List.getElem?_cons_succ, List.length_cons, List.length_nil, List.length_map, List.length_append, List.nil_append, List.cons_append, Nat.zero_add, Nat.reduceAdd, Nat.add_zero, v_add, v_sub, v_mul, v_fdiv, v_mod, v_shl, v_pow, v_shr, v_bxor, v_cat, v_neg, v_bool, v_int, v_tup, v_loc, v_aug_add, v_own, c_eq, c_ne, c_lt, c_le, c_gt, c_ge, c_isn_non, c_isn_int, c_isn_tup, c_isn_lst, c_isnn_non, c_isnn_int, c_isnn_tup, c_isnn_lst, c_ist, c_isnt, c_eqB, c_neB, mem_tupI, mem_lstI, nmem_tupI, t_bl, t_int, t_non, t_tup, t_lst, q_tup, q_lst, q_scr, q_loc, lv_lst, lv_loc, sv_scr, sv_lst, sv_loc, ix_v, at_0, at_1, at_2, b_len, b_intB, b_int, b_boolB, b_tupT, b_tupL, b_tup_loc, b_allV, b_anyV, b_anyT, any_bm, any_im, any_b0, any_bc, any_ints, Option.some_or, bo_nil, bo_cons, bools_map, all_mapid, any_mapid, List.all_cons, List.all_nil, List.any_cons, List.any_nil, id, b_sum, b_max, b_min, b_divmod, few_ok, catL_ok, trep_ok, rep_ok, ty_non, ty_bl, ty_int, ty_str, ty_tup, ty_lst, ty_dct, ii_ii, ii_bi, ii_si, ii_ti, ii_li, ii_ni, ii_di, ii_ib, ii_bb, ii_sb, ii_tb, ii_lb, ii_nb, ii_db, ii_it, ii_bt, ii_st, ii_tt, ii_lt, ii_nt, ii_dt, bt_n, bt_t, bt_l, bs_nil, bs_cons, wipe_nil, wipe_cons, sa_nil, sa_cons, Option.bind_some, Option.bind_none, Option.map_some, Option.map_none, r_non, r_bl, r_int, r_str, r_tup, r_lst, r_scr, r_loc, ho_nil, ho_e, ho_f, ho_t, do_call, ioAt, roAt, fin_0, fin_1, fin_rob, fin_roi, fin_ron, fin_ro, fin_1r, lv_non, lv_bl, lv_int, lv_str, lv_tup, lv_lst', lv_loc', to_0, to_1, to_2, leave_eq, nl_nil, nl_int, nl_bl, nl_non, nl_str, nl_tup, nl_lst, nl_app, nl_ints, nl_rooms, nl_eR, nl_rev, ro_eR, ro_eRf, r_eR, q_eR, c_eqR, c_eqRL, c_eqRT, Bool.and_self, Bool.and_true, Bool.true_and, Bool.and_false, Bool.false_and, Bool.or_false, Bool.false_or, Bool.or_true, Bool.true_or, Bool.not_true, Bool.not_false, decide_true, decide_false, Int.cast_ofNat_Int, Int.natCast_add, Int.cast_ofNat_Int, lob_l, gu_ok, app_eq, app_ok, ins_eq, ins_ok, rem_eq, rem_ok, mem_loc, memG_rooms, c_neR, setI_eq, setI_ok, setS_eq, setS_ok, pop_eq, pop_ok, pop_1, Function.comp_apply, Int.reduceToNat, Int.reducePow, Int.reduceNeg, Int.reduceAdd, Int.reduceSub, Int.reduceMul, Int.reduceLT, Int.reduceLE, Int.reduceEq, Nat.reduceSub, Nat.reduceMul, Nat.reducePow, locksOf, st_nil, st_refl, bt_eR, ne_nil, neG_rooms, neG_rooms1, neG_nil, List.map_append, List.map_cons, List.map_nil, argsK, arrange, and_self, if_true, if_false, Bool.false_eq_true, List.map_reverse, rep1, nl_rep, pw_fold, hp_get, hp_set, rng1_ok, b_split, eR, we, ea]
theorem po_c (n : Nat) {r : Room} {L : List Room} {a b c d : Option Val} {h : Heap} (hl : L.length ≤ 64) : evalF [] (run prog (n + 1)) [some (eR r), some (.lst (L.map eR)), a, b, c, d] c_parts_of_0 h = .ok ((L.filter fun o => decide (T r o)).map eR) h := by
  simp -dsimp -implicitDefEqProofs (disch := (first | assumption | omega | (simp -implicitDefEqProofs only [nl_nil, nl_int, nl_bl, nl_non, nl_str, nl_tup, nl_lst, nl_app, nl_ints, nl_rooms, nl_eR, nl_parts, nl_rev, Bool.and_self, List.length_cons, List.length_nil, List.length_map, List.length_append, List.length_replicate]; done) | (simp -implicitDefEqProofs only [nl_nil, nl_int, nl_bl, nl_non, nl_str, nl_tup, nl_lst, nl_app, nl_ints, nl_rooms, nl_eR, nl_parts, nl_rev, Bool.and_self, List.length_cons, List.length_nil, List.length_map, List.length_append, List.length_replicate]; omega) | (simp -implicitDefEqProofs; done) | (simp -implicitDefEqProofs; omega))) only [E_k, E_d0, E_var, E_bin, E_neg, E_cmp, E_cmp2, E_and, E_or, E_not, E_ite, E_tup, E_idx, E_slc, E_call, E_callk, E_b1, E_b2, E_isi, E_pop, E_inl, E_mk, E_trep, E_trev, E_mink, E_mind, T_and, T_or, T_not, T_cmp, T_cmp2, T_tr, A_nil, A_cons, O_no, O_part, F_disp, F_comp, F_cat, F_rep, F_slc, F_list, F_sort, F_call, C_nil, C_cons, I_rng1, I_rng2, I_rng3, I_enum, I_zip, I_seq, I_rev, S_nil, S_cons, S_pass, S_set, S_setT, S_par, S_aug, S_expr, S_ret, S_retN, S_ite, S_for, S_while, S_app, S_setI, S_setS, S_ins, S_rem, S_brk, S_cont, change_some, change_none, Res.bnd_ok, Res.bnd_exc, Res.bnd_bad, Res.cnd_true, Res.cnd_false, Res.ofO_some, Res.ofO_none, Res.andB_true, Res.andB_false, Res.andB_ok, Res.orB_true, Res.orB_false, Res.orB_ok, Res.andT_true, Res.andT_false, Res.andT_ok, Res.orT_true, Res.orT_false, Res.orT_ok, SRes.sq_nx, SRes.sq_rt, SRes.sq_bk, SRes.sq_ct, SRes.sq_exc, SRes.sq_bad, Res.st_ok, Res.st_exc, Res.st_bad, SRes.cnd_true, SRes.cnd_false, Ret.close_rt, Ret.close_nx, lk_0, lk_s, List.set_cons_zero, List.set_cons_succ, List.getElem?_cons_zero, List.getElem?_cons_succ, List.length_cons, List.length_nil, List.length_map, List.length_append, List.nil_append, List.cons_append, Nat.zero_add, Nat.reduceAdd, Nat.add_zero, v_add, v_sub, v_mul, v_fdiv, v_mod, v_shl, v_pow, v_shr, v_bxor, v_cat, v_neg, v_bool, v_int, v_tup, v_loc, v_aug_add, v_own, c_eq, c_ne, c_lt, c_le, c_gt, c_ge, c_isn_non, c_isn_int, c_isn_tup, c_isn_lst, c_isnn_non, c_isnn_int, c_isnn_tup, c_isnn_lst, c_ist, c_isnt, c_eqB, c_neB, mem_tupI, mem_lstI, nmem_tupI, t_bl, t_int, t_non, t_tup, t_lst, q_tup, q_lst, q_scr, q_loc, lv_lst, lv_loc, sv_scr, sv_lst, sv_loc, ix_v, at_0, at_1, at_2, b_len, b_intB, b_int, b_boolB, b_tupT, b_tupL, b_tup_loc, b_allV, b_anyV, b_anyT, any_bm, any_im, any_b0, any_bc, any_ints, Option.some_or, bo_nil, bo_cons, bools_map, all_mapid, any_mapid, List.all_cons, List.all_nil, List.any_cons, List.any_nil, id, b_sum, b_max, b_min, b_divmod, few_ok, catL_ok, trep_ok, rep_ok, ty_non, ty_bl, ty_int, ty_str, ty_tup, ty_lst, ty_dct, ii_ii, ii_bi, ii_si, ii_ti, ii_li, ii_ni, ii_di, ii_ib, ii_bb, ii_sb, ii_tb, ii_lb, ii_nb, ii_db, ii_it, ii_bt, ii_st, ii_tt, ii_lt, ii_nt, ii_dt, bt_n, bt_t, bt_l, bs_nil, bs_cons, wipe_nil, wipe_cons, sa_nil, sa_cons, Option.bind_some, Option.bind_none, Option.map_some, Option.map_none, r_non, r_bl, r_int, r_str, r_tup, r_lst, r_scr, r_loc, ho_nil, ho_e, ho_f, ho_t, do_call, ioAt, roAt, fin_0, fin_1, fin_rob, fin_roi, fin_ron, fin_ro, fin_1r, lv_non, lv_bl, lv_int, lv_str, lv_tup, lv_lst', lv_loc', to_0, to_1, to_2, leave_eq, nl_nil, nl_int, nl_bl, nl_non, nl_str, nl_tup, nl_lst, nl_app, nl_ints, nl_rooms, nl_eR, nl_rev, ro_eR, ro_eRf, r_eR, q_eR, c_eqR, c_eqRL, c_eqRT, Bool.and_self, Bool.and_true, Bool.true_and, Bool.and_false, Bool.false_and, Bool.or_false, Bool.false_or, Bool.or_true, Bool.true_or, Bool.not_true, Bool.not_false, decide_true, decide_false, Int.cast_ofNat_Int, Int.natCast_add, Int.cast_ofNat_Int, lob_l, gu_ok, app_eq, app_ok, ins_eq, ins_ok, rem_eq, rem_ok, mem_loc, memG_rooms, c_neR, setI_eq, setI_ok, setS_eq, setS_ok, pop_eq, pop_ok, pop_1, Function.comp_apply, Int.reduceToNat, Int.reducePow, Int.reduceNeg, Int.reduceAdd, Int.reduceSub, Int.reduceMul, Int.reduceLT, Int.reduceLE, Int.reduceEq, Nat.reduceSub, Nat.reduceMul, Nat.reducePow, locksOf, st_nil, st_refl, bt_eR, ne_nil, neG_rooms, neG_rooms1, neG_nil, List.map_append, List.map_cons, List.map_nil, argsK, arrange, and_self, if_true, if_false, Bool.false_eq_true, List.map_reverse, rep1, nl_rep, pw_fold, hp_get, hp_set, rng1_ok, c_parts_of_0]
  refine comp_fm (p := fun o => decide (T r o)) fun o ho => ?_
  simp -dsimp -implicitDefEqProofs (disch := (first | assumption | omega | (simp -implicitDefEqProofs only [nl_nil, nl_int, nl_bl, nl_non, nl_str, nl_tup, nl_lst, nl_app, nl_ints, nl_rooms, nl_eR, nl_parts, nl_rev, Bool.and_self, List.length_cons, List.length_nil, List.length_map, List.length_append, List.length_replicate]; done) | (simp -implicitDefEqProofs only [nl_nil, nl_int, nl_bl, nl_non, nl_str, nl_tup, nl_lst, nl_app, nl_ints, nl_rooms, nl_eR, nl_parts, nl_rev, Bool.and_self, List.length_cons, List.length_nil, List.length_map, List.length_append, List.length_replicate]; omega) | (simp -implicitDefEqProofs; done) | (simp -implicitDefEqProofs; omega))) only [E_k, E_d0, E_var, E_bin, E_neg, E_cmp, E_cmp2, E_and, E_or, E_not, E_ite, E_tup, E_idx, E_slc, E_call, E_callk, E_b1, E_b2, E_isi, E_pop, E_inl, E_mk, E_trep, E_trev, E_mink, E_mind, T_and, T_or, T_not, T_cmp, T_cmp2, T_tr, A_nil, A_cons, O_no, O_part, F_disp, F_comp, F_cat, F_rep, F_slc, F_list, F_sort, F_call, C_nil, C_cons, I_rng1, I_rng2, I_rng3, I_enum, I_zip, I_seq, I_rev, S_nil, S_cons, S_pass, S_set, S_setT, S_par, S_aug, S_expr, S_ret, S_retN, S_ite, S_for, S_while, S_app, S_setI, S_setS, S_ins, S_rem, S_brk, S_cont, change_some, change_none, Res.bnd_ok, Res.bnd_exc, Res.bnd_bad, Res.cnd_true, Res.cnd_false, Res.ofO_some, Res.ofO_none, Res.andB_true, Res.andB_false, Res.andB_ok, Res.orB_true, Res.orB_false, Res.orB_ok, Res.andT_true, Res.andT_false, Res.andT_ok, Res.orT_true, Res.orT_false, Res.orT_ok, SRes.sq_nx, SRes.sq_rt, SRes.sq_bk, SRes.sq_ct, SRes.sq_exc, SRes.sq_bad, Res.st_ok, Res.st_exc, Res.st_bad, SRes.cnd_true, SRes.cnd_false, Ret.close_rt, Ret.close_nx, lk_0, lk_s, List.set_cons_zero, List.set_cons_succ, List.getElem?_cons_zero, List.getElem?_cons_succ, List.length_cons, List.length_nil, List.length_map, List.length_append, List.nil_append, List.cons_append, Nat.zero_add, Nat.reduceAdd, Nat.add_zero, v_add, v_sub, v_mul, v_fdiv, v_mod, v_shl, v_pow, v_shr, v_bxor, v_cat, v_neg, v_bool, v_int, v_tup, v_loc, v_aug_add, v_own, c_eq, c_ne, c_lt, c_le, c_gt, c_ge, c_isn_non, c_isn_int, c_isn_tup, c_isn_lst, c_isnn_non, c_isnn_int, c_isnn_tup, c_isnn_lst, c_ist, c_isnt, c_eqB, c_neB, mem_tupI, mem_lstI, nmem_tupI, t_bl, t_int, t_non, t_tup, t_lst, q_tup, q_lst, q_scr, q_loc, lv_lst, lv_loc, sv_scr, sv_lst, sv_loc, ix_v, at_0, at_1, at_2, b_len, b_intB, b_int, b_boolB, b_tupT, b_tupL, b_tup_loc, b_allV, b_anyV, b_anyT, any_bm, any_im, any_b0, any_bc, any_ints, Option.some_or, bo_nil, bo_cons, bools_map, all_mapid, any_mapid, List.all_cons, List.all_nil, List.any_cons, List.any_nil, id, b_sum, b_max, b_min, b_divmod, few_ok, catL_ok, trep_ok, rep_ok, ty_non, ty_bl, ty_int, ty_str, ty_tup, ty_lst, ty_dct, ii_ii, ii_bi, ii_si, ii_ti, ii_li, ii_ni, ii_di, ii_ib, ii_bb, ii_sb, ii_tb, ii_lb, ii_nb, ii_db, ii_it, ii_bt, ii_st, ii_tt, ii_lt, ii_nt, ii_dt, bt_n, bt_t, bt_l, bs_nil, bs_cons, wipe_nil, wipe_cons, sa_nil, sa_cons, Option.bind_some, Option.bind_none, Option.map_some, Option.map_none, r_non, r_bl, r_int, r_str, r_tup, r_lst, r_scr, r_loc, ho_nil, ho_e, ho_f, ho_t, do_call, ioAt, roAt, fin_0, fin_1, fin_rob, fin_roi, fin_ron, fin_ro, fin_1r, lv_non, lv_bl, lv_int, lv_str, lv_tup, lv_lst', lv_loc', to_0, to_1, to_2, leave_eq, nl_nil, nl_int, nl_bl, nl_non, nl_str, nl_tup, nl_lst, nl_app, nl_ints, nl_rooms, nl_eR, nl_rev, ro_eR, ro_eRf, r_eR, q_eR, c_eqR, c_eqRL, c_eqRT, Bool.and_self, Bool.and_true, Bool.true_and, Bool.and_false, Bool.false_and, Bool.or_false, Bool.false_or, Bool.or_true, Bool.true_or, Bool.not_true, Bool.not_false, decide_true, decide_false, Int.cast_ofNat_Int, Int.natCast_add, Int.cast_ofNat_Int, lob_l, gu_ok, app_eq, app_ok, ins_eq, ins_ok, rem_eq, rem_ok, mem_loc, memG_rooms, c_neR, setI_eq, setI_ok, setS_eq, setS_ok, pop_eq, pop_ok, pop_1, Function.comp_apply, Int.reduceToNat, Int.reducePow, Int.reduceNeg, Int.reduceAdd, Int.reduceSub, Int.reduceMul, Int.reduceLT, Int.reduceLE, Int.reduceEq, Nat.reduceSub, Nat.reduceMul, Nat.reducePow, locksOf, st_nil, st_refl, bt_eR, ne_nil, neG_rooms, neG_rooms1, neG_nil, List.map_append, List.map_cons, List.map_nil, argsK, arrange, and_self, if_true, if_false, Bool.false_eq_true, List.map_reverse, rep1, nl_rep, pw_fold, hp_get, hp_set, rng1_ok, turn_eq, touch, tch_T]
  cases decide (T r o) <;> rfl
theorem parts_run {t : Int} (ht : Tall t) (n : Nat) : ∀ (k : Nat) (r : Room) (L : List Room), Valid t r → Sm t L → L.length ≤ 64 → (∀ o ∈ L, T r o → In o r) → r.2 ≤ 8 * 2 ^ k → k ≤ 8 →
    run prog (n + k + 2) 23 [eR r, .lst (L.map eR)] = .ret ⟨.lst ((parts k r L).map eP), true, []⟩ := fun k => by
  have hI : ∀ (r : Room) (L : List Room) (o : Room), o ∈ (L.filter fun o => decide (T r o)) ↔ o ∈ L ∧ T r o := fun r L o => by simp [List.mem_filter]
  induction k with
  | zero =>
    intro r L hr hL hl hi hb hk
    have hm := more ht hr (hI r L) hL.filter hi
    rw [Nat.add_zero, at_parts_of]
    unfold parts
    simp only []
    by_cases h1 : (L.filter fun o => decide (T r o)) = []
    · simp -dsimp -implicitDefEqProofs (disch := (first | assumption | omega | (simp -implicitDefEqProofs only [nl_nil, nl_int, nl_bl, nl_non, nl_str, nl_tup, nl_lst, nl_app, nl_ints, nl_rooms, nl_eR, nl_parts, nl_rev, Bool.and_self, List.length_cons, List.length_nil, List.length_map, List.length_append, List.length_replicate]; done) | (simp -implicitDefEqProofs only [nl_nil, nl_int, nl_bl, nl_non, nl_str, nl_tup, nl_lst, nl_app, nl_ints, nl_rooms, nl_eR, nl_parts, nl_rev, Bool.and_self, List.length_cons, List.length_nil, List.length_map, List.length_append, List.length_replicate]; omega) | (simp -implicitDefEqProofs; done) | (simp -implicitDefEqProofs; omega))) only [E_k, E_d0, E_var, E_bin, E_neg, E_cmp, E_cmp2, E_and, E_or, E_not, E_ite, E_tup, E_idx, E_slc, E_call, E_callk, E_b1, E_b2, E_isi, E_pop, E_inl, E_mk, E_trep, E_trev, E_mink, E_mind, T_and, T_or, T_not, T_cmp, T_cmp2, T_tr, A_nil, A_cons, O_no, O_part, F_disp, F_comp, F_cat, F_rep, F_slc, F_list, F_sort, F_call, C_nil, C_cons, I_rng1, I_rng2, I_rng3, I_enum, I_zip, I_seq, I_rev, S_nil, S_cons, S_pass, S_set, S_setT, S_par, S_aug, S_expr, S_ret, S_retN, S_ite, S_for, S_while, S_app, S_setI, S_setS, S_ins, S_rem, S_brk, S_cont, change_some, change_none, Res.bnd_ok, Res.bnd_exc, Res.bnd_bad, Res.cnd_true, Res.cnd_false, Res.ofO_some, Res.ofO_none, Res.andB_true, Res.andB_false, Res.andB_ok, Res.orB_true, Res.orB_false, Res.orB_ok, Res.andT_true, Res.andT_false, Res.andT_ok, Res.orT_true, Res.orT_false, Res.orT_ok, SRes.sq_nx, SRes.sq_rt, SRes.sq_bk, SRes.sq_ct, SRes.sq_exc, SRes.sq_bad, Res.st_ok, Res.st_exc, Res.st_bad, SRes.cnd_true, SRes.cnd_false, Ret.close_rt, Ret.close_nx, lk_0, lk_s, List.set_cons_zero, List.set_cons_succ, List.getElem?_cons_zero, List.getElem?_cons_succ, List.length_cons, List.length_nil, List.length_map, List.length_append, List.nil_append, List.cons_append, Nat.zero_add, Nat.reduceAdd, Nat.add_zero, v_add, v_sub, v_mul, v_fdiv, v_mod, v_shl, v_pow, v_shr, v_bxor, v_cat, v_neg, v_bool, v_int, v_tup, v_loc, v_aug_add, v_own, c_eq, c_ne, c_lt, c_le, c_gt, c_ge, c_isn_non, c_isn_int, c_isn_tup, c_isn_lst, c_isnn_non, c_isnn_int, c_isnn_tup, c_isnn_lst, c_ist, c_isnt, c_eqB, c_neB, mem_tupI, mem_lstI, nmem_tupI, t_bl, t_int, t_non, t_tup, t_lst, q_tup, q_lst, q_scr, q_loc, lv_lst, lv_loc, sv_scr, sv_lst, sv_loc, ix_v, at_0, at_1, at_2, b_len, b_intB, b_int, b_boolB, b_tupT, b_tupL, b_tup_loc, b_allV, b_anyV, b_anyT, any_bm, any_im, any_b0, any_bc, any_ints, Option.some_or, bo_nil, bo_cons, bools_map, all_mapid, any_mapid, List.all_cons, List.all_nil, List.any_cons, List.any_nil, id, b_sum, b_max, b_min, b_divmod, few_ok, catL_ok, trep_ok, rep_ok, ty_non, ty_bl, ty_int, ty_str, ty_tup, ty_lst, ty_dct, ii_ii, ii_bi, ii_si, ii_ti, ii_li, ii_ni, ii_di, ii_ib, ii_bb, ii_sb, ii_tb, ii_lb, ii_nb, ii_db, ii_it, ii_bt, ii_st, ii_tt, ii_lt, ii_nt, ii_dt, bt_n, bt_t, bt_l, bs_nil, bs_cons, wipe_nil, wipe_cons, sa_nil, sa_cons, Option.bind_some, Option.bind_none, Option.map_some, Option.map_none, r_non, r_bl, r_int, r_str, r_tup, r_lst, r_scr, r_loc, ho_nil, ho_e, ho_f, ho_t, do_call, ioAt, roAt, fin_0, fin_1, fin_rob, fin_roi, fin_ron, fin_ro, fin_1r, lv_non, lv_bl, lv_int, lv_str, lv_tup, lv_lst', lv_loc', to_0, to_1, to_2, leave_eq, nl_nil, nl_int, nl_bl, nl_non, nl_str, nl_tup, nl_lst, nl_app, nl_ints, nl_rooms, nl_eR, nl_rev, ro_eR, ro_eRf, r_eR, q_eR, c_eqR, c_eqRL, c_eqRT, Bool.and_self, Bool.and_true, Bool.true_and, Bool.and_false, Bool.false_and, Bool.or_false, Bool.false_or, Bool.or_true, Bool.true_or, Bool.not_true, Bool.not_false, decide_true, decide_false, Int.cast_ofNat_Int, Int.natCast_add, Int.cast_ofNat_Int, lob_l, gu_ok, app_eq, app_ok, ins_eq, ins_ok, rem_eq, rem_ok, mem_loc, memG_rooms, c_neR, setI_eq, setI_ok, setS_eq, setS_ok, pop_eq, pop_ok, pop_1, Function.comp_apply, Int.reduceToNat, Int.reducePow, Int.reduceNeg, Int.reduceAdd, Int.reduceSub, Int.reduceMul, Int.reduceLT, Int.reduceLE, Int.reduceEq, Nat.reduceSub, Nat.reduceMul, Nat.reducePow, locksOf, st_nil, st_refl, bt_eR, ne_nil, neG_rooms, neG_rooms1, neG_nil, List.map_append, List.map_cons, List.map_nil, argsK, arrange, and_self, if_true, if_false, Bool.false_eq_true, List.map_reverse, rep1, nl_rep, pw_fold, hp_get, hp_set, rng1_ok, b_parts_of, po_c, hl, c_eq0, h1]
      rfl
    · by_cases h2 : (L.filter fun o => decide (T r o)) = [r]
      · rw [if_neg h1, if_pos h2]
        simp -dsimp -implicitDefEqProofs (disch := (first | assumption | omega | (simp -implicitDefEqProofs only [nl_nil, nl_int, nl_bl, nl_non, nl_str, nl_tup, nl_lst, nl_app, nl_ints, nl_rooms, nl_eR, nl_parts, nl_rev, Bool.and_self, List.length_cons, List.length_nil, List.length_map, List.length_append, List.length_replicate]; done) | (simp -implicitDefEqProofs only [nl_nil, nl_int, nl_bl, nl_non, nl_str, nl_tup, nl_lst, nl_app, nl_ints, nl_rooms, nl_eR, nl_parts, nl_rev, Bool.and_self, List.length_cons, List.length_nil, List.length_map, List.length_append, List.length_replicate]; omega) | (simp -implicitDefEqProofs; done) | (simp -implicitDefEqProofs; omega))) only [E_k, E_d0, E_var, E_bin, E_neg, E_cmp, E_cmp2, E_and, E_or, E_not, E_ite, E_tup, E_idx, E_slc, E_call, E_callk, E_b1, E_b2, E_isi, E_pop, E_inl, E_mk, E_trep, E_trev, E_mink, E_mind, T_and, T_or, T_not, T_cmp, T_cmp2, T_tr, A_nil, A_cons, O_no, O_part, F_disp, F_comp, F_cat, F_rep, F_slc, F_list, F_sort, F_call, C_nil, C_cons, I_rng1, I_rng2, I_rng3, I_enum, I_zip, I_seq, I_rev, S_nil, S_cons, S_pass, S_set, S_setT, S_par, S_aug, S_expr, S_ret, S_retN, S_ite, S_for, S_while, S_app, S_setI, S_setS, S_ins, S_rem, S_brk, S_cont, change_some, change_none, Res.bnd_ok, Res.bnd_exc, Res.bnd_bad, Res.cnd_true, Res.cnd_false, Res.ofO_some, Res.ofO_none, Res.andB_true, Res.andB_false, Res.andB_ok, Res.orB_true, Res.orB_false, Res.orB_ok, Res.andT_true, Res.andT_false, Res.andT_ok, Res.orT_true, Res.orT_false, Res.orT_ok, SRes.sq_nx, SRes.sq_rt, SRes.sq_bk, SRes.sq_ct, SRes.sq_exc, SRes.sq_bad, Res.st_ok, Res.st_exc, Res.st_bad, SRes.cnd_true, SRes.cnd_false, Ret.close_rt, Ret.close_nx, lk_0, lk_s, List.set_cons_zero, List.set_cons_succ, List.getElem?_cons_zero, List.getElem?_cons_succ, List.length_cons, List.length_nil, List.length_map, List.length_append, List.nil_append, List.cons_append, Nat.zero_add, Nat.reduceAdd, Nat.add_zero, v_add, v_sub, v_mul, v_fdiv, v_mod, v_shl, v_pow, v_shr, v_bxor, v_cat, v_neg, v_bool, v_int, v_tup, v_loc, v_aug_add, v_own, c_eq, c_ne, c_lt, c_le, c_gt, c_ge, c_isn_non, c_isn_int, c_isn_tup, c_isn_lst, c_isnn_non, c_isnn_int, c_isnn_tup, c_isnn_lst, c_ist, c_isnt, c_eqB, c_neB, mem_tupI, mem_lstI, nmem_tupI, t_bl, t_int, t_non, t_tup, t_lst, q_tup, q_lst, q_scr, q_loc, lv_lst, lv_loc, sv_scr, sv_lst, sv_loc, ix_v, at_0, at_1, at_2, b_len, b_intB, b_int, b_boolB, b_tupT, b_tupL, b_tup_loc, b_allV, b_anyV, b_anyT, any_bm, any_im, any_b0, any_bc, any_ints, Option.some_or, bo_nil, bo_cons, bools_map, all_mapid, any_mapid, List.all_cons, List.all_nil, List.any_cons, List.any_nil, id, b_sum, b_max, b_min, b_divmod, few_ok, catL_ok, trep_ok, rep_ok, ty_non, ty_bl, ty_int, ty_str, ty_tup, ty_lst, ty_dct, ii_ii, ii_bi, ii_si, ii_ti, ii_li, ii_ni, ii_di, ii_ib, ii_bb, ii_sb, ii_tb, ii_lb, ii_nb, ii_db, ii_it, ii_bt, ii_st, ii_tt, ii_lt, ii_nt, ii_dt, bt_n, bt_t, bt_l, bs_nil, bs_cons, wipe_nil, wipe_cons, sa_nil, sa_cons, Option.bind_some, Option.bind_none, Option.map_some, Option.map_none, r_non, r_bl, r_int, r_str, r_tup, r_lst, r_scr, r_loc, ho_nil, ho_e, ho_f, ho_t, do_call, ioAt, roAt, fin_0, fin_1, fin_rob, fin_roi, fin_ron, fin_ro, fin_1r, lv_non, lv_bl, lv_int, lv_str, lv_tup, lv_lst', lv_loc', to_0, to_1, to_2, leave_eq, nl_nil, nl_int, nl_bl, nl_non, nl_str, nl_tup, nl_lst, nl_app, nl_ints, nl_rooms, nl_eR, nl_rev, ro_eR, ro_eRf, r_eR, q_eR, c_eqR, c_eqRL, c_eqRT, Bool.and_self, Bool.and_true, Bool.true_and, Bool.and_false, Bool.false_and, Bool.or_false, Bool.false_or, Bool.or_true, Bool.true_or, Bool.not_true, Bool.not_false, decide_true, decide_false, Int.cast_ofNat_Int, Int.natCast_add, Int.cast_ofNat_Int, lob_l, gu_ok, app_eq, app_ok, ins_eq, ins_ok, rem_eq, rem_ok, mem_loc, memG_rooms, c_neR, setI_eq, setI_ok, setS_eq, setS_ok, pop_eq, pop_ok, pop_1, Function.comp_apply, Int.reduceToNat, Int.reducePow, Int.reduceNeg, Int.reduceAdd, Int.reduceSub, Int.reduceMul, Int.reduceLT, Int.reduceLE, Int.reduceEq, Nat.reduceSub, Nat.reduceMul, Nat.reducePow, locksOf, st_nil, st_refl, bt_eR, ne_nil, neG_rooms, neG_rooms1, neG_nil, List.map_append, List.map_cons, List.map_nil, argsK, arrange, and_self, if_true, if_false, Bool.false_eq_true, List.map_reverse, rep1, nl_rep, pw_fold, hp_get, hp_set, rng1_ok, b_parts_of, po_c, hl, c_10, c_11, h2]
        rfl
      · have := (hm h1 h2).1
        simp only [Int.pow_zero] at hb
        omega
  | succ k ih =>
    intro r L hr hL hl hi hb hk
    have hm := more ht hr (hI r L) hL.filter hi
    have hf : (L.filter fun o => decide (T r o)).length ≤ 64 := Nat.le_trans (List.length_filter_le _ _) hl
    rw [show n + (k + 1) + 2 = (n + k + 2) + 1 by omega, at_parts_of]
    unfold parts
    simp only []
    by_cases h1 : (L.filter fun o => decide (T r o)) = []
    · simp -dsimp -implicitDefEqProofs (disch := (first | assumption | omega | (simp -implicitDefEqProofs only [nl_nil, nl_int, nl_bl, nl_non, nl_str, nl_tup, nl_lst, nl_app, nl_ints, nl_rooms, nl_eR, nl_parts, nl_rev, Bool.and_self, List.length_cons, List.length_nil, List.length_map, List.length_append, List.length_replicate]; done) | (simp -implicitDefEqProofs only [nl_nil, nl_int, nl_bl, nl_non, nl_str, nl_tup, nl_lst, nl_app, nl_ints, nl_rooms, nl_eR, nl_parts, nl_rev, Bool.and_self, List.length_cons, List.length_nil, List.length_map, List.length_append, List.length_replicate]; omega) | (simp -implicitDefEqProofs; done) | (simp -implicitDefEqProofs; omega))) only [E_k, E_d0, E_var, E_bin, E_neg, E_cmp, E_cmp2, E_and, E_or, E_not, E_ite, E_tup, E_idx, E_slc, E_call, E_callk, E_b1, E_b2, E_isi, E_pop, E_inl, E_mk, E_trep, E_trev, E_mink, E_mind, T_and, T_or, T_not, T_cmp, T_cmp2, T_tr, A_nil, A_cons, O_no, O_part, F_disp, F_comp, F_cat, F_rep, F_slc, F_list, F_sort, F_call, C_nil, C_cons, I_rng1, I_rng2, I_rng3, I_enum, I_zip, I_seq, I_rev, S_nil, S_cons, S_pass, S_set, S_setT, S_par, S_aug, S_expr, S_ret, S_retN, S_ite, S_for, S_while, S_app, S_setI, S_setS, S_ins, S_rem, S_brk, S_cont, change_some, change_none, Res.bnd_ok, Res.bnd_exc, Res.bnd_bad, Res.cnd_true, Res.cnd_false, Res.ofO_some, Res.ofO_none, Res.andB_true, Res.andB_false, Res.andB_ok, Res.orB_true, Res.orB_false, Res.orB_ok, Res.andT_true, Res.andT_false, Res.andT_ok, Res.orT_true, Res.orT_false, Res.orT_ok, SRes.sq_nx, SRes.sq_rt, SRes.sq_bk, SRes.sq_ct, SRes.sq_exc, SRes.sq_bad, Res.st_ok, Res.st_exc, Res.st_bad, SRes.cnd_true, SRes.cnd_false, Ret.close_rt, Ret.close_nx, lk_0, lk_s, List.set_cons_zero, List.set_cons_succ, List.getElem?_cons_zero, List.getElem?_cons_succ, List.length_cons, List.length_nil, List.length_map, List.length_append, List.nil_append, List.cons_append, Nat.zero_add, Nat.reduceAdd, Nat.add_zero, v_add, v_sub, v_mul, v_fdiv, v_mod, v_shl, v_pow, v_shr, v_bxor, v_cat, v_neg, v_bool, v_int, v_tup, v_loc, v_aug_add, v_own, c_eq, c_ne, c_lt, c_le, c_gt, c_ge, c_isn_non, c_isn_int, c_isn_tup, c_isn_lst, c_isnn_non, c_isnn_int, c_isnn_tup, c_isnn_lst, c_ist, c_isnt, c_eqB, c_neB, mem_tupI, mem_lstI, nmem_tupI, t_bl, t_int, t_non, t_tup, t_lst, q_tup, q_lst, q_scr, q_loc, lv_lst, lv_loc, sv_scr, sv_lst, sv_loc, ix_v, at_0, at_1, at_2, b_len, b_intB, b_int, b_boolB, b_tupT, b_tupL, b_tup_loc, b_allV, b_anyV, b_anyT, any_bm, any_im, any_b0, any_bc, any_ints, Option.some_or, bo_nil, bo_cons, bools_map, all_mapid, any_mapid, List.all_cons, List.all_nil, List.any_cons, List.any_nil, id, b_sum, b_max, b_min, b_divmod, few_ok, catL_ok, trep_ok, rep_ok, ty_non, ty_bl, ty_int, ty_str, ty_tup, ty_lst, ty_dct, ii_ii, ii_bi, ii_si, ii_ti, ii_li, ii_ni, ii_di, ii_ib, ii_bb, ii_sb, ii_tb, ii_lb, ii_nb, ii_db, ii_it, ii_bt, ii_st, ii_tt, ii_lt, ii_nt, ii_dt, bt_n, bt_t, bt_l, bs_nil, bs_cons, wipe_nil, wipe_cons, sa_nil, sa_cons, Option.bind_some, Option.bind_none, Option.map_some, Option.map_none, r_non, r_bl, r_int, r_str, r_tup, r_lst, r_scr, r_loc, ho_nil, ho_e, ho_f, ho_t, do_call, ioAt, roAt, fin_0, fin_1, fin_rob, fin_roi, fin_ron, fin_ro, fin_1r, lv_non, lv_bl, lv_int, lv_str, lv_tup, lv_lst', lv_loc', to_0, to_1, to_2, leave_eq, nl_nil, nl_int, nl_bl, nl_non, nl_str, nl_tup, nl_lst, nl_app, nl_ints, nl_rooms, nl_eR, nl_rev, ro_eR, ro_eRf, r_eR, q_eR, c_eqR, c_eqRL, c_eqRT, Bool.and_self, Bool.and_true, Bool.true_and, Bool.and_false, Bool.false_and, Bool.or_false, Bool.false_or, Bool.or_true, Bool.true_or, Bool.not_true, Bool.not_false, decide_true, decide_false, Int.cast_ofNat_Int, Int.natCast_add, Int.cast_ofNat_Int, lob_l, gu_ok, app_eq, app_ok, ins_eq, ins_ok, rem_eq, rem_ok, mem_loc, memG_rooms, c_neR, setI_eq, setI_ok, setS_eq, setS_ok, pop_eq, pop_ok, pop_1, Function.comp_apply, Int.reduceToNat, Int.reducePow, Int.reduceNeg, Int.reduceAdd, Int.reduceSub, Int.reduceMul, Int.reduceLT, Int.reduceLE, Int.reduceEq, Nat.reduceSub, Nat.reduceMul, Nat.reducePow, locksOf, st_nil, st_refl, bt_eR, ne_nil, neG_rooms, neG_rooms1, neG_nil, List.map_append, List.map_cons, List.map_nil, argsK, arrange, and_self, if_true, if_false, Bool.false_eq_true, List.map_reverse, rep1, nl_rep, pw_fold, hp_get, hp_set, rng1_ok, b_parts_of, po_c, hl, c_eq0, h1]
      rfl
    · by_cases h2 : (L.filter fun o => decide (T r o)) = [r]
      · rw [if_neg h1, if_pos h2]
        simp -dsimp -implicitDefEqProofs (disch := (first | assumption | omega | (simp -implicitDefEqProofs only [nl_nil, nl_int, nl_bl, nl_non, nl_str, nl_tup, nl_lst, nl_app, nl_ints, nl_rooms, nl_eR, nl_parts, nl_rev, Bool.and_self, List.length_cons, List.length_nil, List.length_map, List.length_append, List.length_replicate]; done) | (simp -implicitDefEqProofs only [nl_nil, nl_int, nl_bl, nl_non, nl_str, nl_tup, nl_lst, nl_app, nl_ints, nl_rooms, nl_eR, nl_parts, nl_rev, Bool.and_self, List.length_cons, List.length_nil, List.length_map, List.length_append, List.length_replicate]; omega) | (simp -implicitDefEqProofs; done) | (simp -implicitDefEqProofs; omega))) only [E_k, E_d0, E_var, E_bin, E_neg, E_cmp, E_cmp2, E_and, E_or, E_not, E_ite, E_tup, E_idx, E_slc, E_call, E_callk, E_b1, E_b2, E_isi, E_pop, E_inl, E_mk, E_trep, E_trev, E_mink, E_mind, T_and, T_or, T_not, T_cmp, T_cmp2, T_tr, A_nil, A_cons, O_no, O_part, F_disp, F_comp, F_cat, F_rep, F_slc, F_list, F_sort, F_call, C_nil, C_cons, I_rng1, I_rng2, I_rng3, I_enum, I_zip, I_seq, I_rev, S_nil, S_cons, S_pass, S_set, S_setT, S_par, S_aug, S_expr, S_ret, S_retN, S_ite, S_for, S_while, S_app, S_setI, S_setS, S_ins, S_rem, S_brk, S_cont, change_some, change_none, Res.bnd_ok, Res.bnd_exc, Res.bnd_bad, Res.cnd_true, Res.cnd_false, Res.ofO_some, Res.ofO_none, Res.andB_true, Res.andB_false, Res.andB_ok, Res.orB_true, Res.orB_false, Res.orB_ok, Res.andT_true, Res.andT_false, Res.andT_ok, Res.orT_true, Res.orT_false, Res.orT_ok, SRes.sq_nx, SRes.sq_rt, SRes.sq_bk, SRes.sq_ct, SRes.sq_exc, SRes.sq_bad, Res.st_ok, Res.st_exc, Res.st_bad, SRes.cnd_true, SRes.cnd_false, Ret.close_rt, Ret.close_nx, lk_0, lk_s, List.set_cons_zero, List.set_cons_succ, List.getElem?_cons_zero, List.getElem?_cons_succ, List.length_cons, List.length_nil, List.length_map, List.length_append, List.nil_append, List.cons_append, Nat.zero_add, Nat.reduceAdd, Nat.add_zero, v_add, v_sub, v_mul, v_fdiv, v_mod, v_shl, v_pow, v_shr, v_bxor, v_cat, v_neg, v_bool, v_int, v_tup, v_loc, v_aug_add, v_own, c_eq, c_ne, c_lt, c_le, c_gt, c_ge, c_isn_non, c_isn_int, c_isn_tup, c_isn_lst, c_isnn_non, c_isnn_int, c_isnn_tup, c_isnn_lst, c_ist, c_isnt, c_eqB, c_neB, mem_tupI, mem_lstI, nmem_tupI, t_bl, t_int, t_non, t_tup, t_lst, q_tup, q_lst, q_scr, q_loc, lv_lst, lv_loc, sv_scr, sv_lst, sv_loc, ix_v, at_0, at_1, at_2, b_len, b_intB, b_int, b_boolB, b_tupT, b_tupL, b_tup_loc, b_allV, b_anyV, b_anyT, any_bm, any_im, any_b0, any_bc, any_ints, Option.some_or, bo_nil, bo_cons, bools_map, all_mapid, any_mapid, List.all_cons, List.all_nil, List.any_cons, List.any_nil, id, b_sum, b_max, b_min, b_divmod, few_ok, catL_ok, trep_ok, rep_ok, ty_non, ty_bl, ty_int, ty_str, ty_tup, ty_lst, ty_dct, ii_ii, ii_bi, ii_si, ii_ti, ii_li, ii_ni, ii_di, ii_ib, ii_bb, ii_sb, ii_tb, ii_lb, ii_nb, ii_db, ii_it, ii_bt, ii_st, ii_tt, ii_lt, ii_nt, ii_dt, bt_n, bt_t, bt_l, bs_nil, bs_cons, wipe_nil, wipe_cons, sa_nil, sa_cons, Option.bind_some, Option.bind_none, Option.map_some, Option.map_none, r_non, r_bl, r_int, r_str, r_tup, r_lst, r_scr, r_loc, ho_nil, ho_e, ho_f, ho_t, do_call, ioAt, roAt, fin_0, fin_1, fin_rob, fin_roi, fin_ron, fin_ro, fin_1r, lv_non, lv_bl, lv_int, lv_str, lv_tup, lv_lst', lv_loc', to_0, to_1, to_2, leave_eq, nl_nil, nl_int, nl_bl, nl_non, nl_str, nl_tup, nl_lst, nl_app, nl_ints, nl_rooms, nl_eR, nl_rev, ro_eR, ro_eRf, r_eR, q_eR, c_eqR, c_eqRL, c_eqRT, Bool.and_self, Bool.and_true, Bool.true_and, Bool.and_false, Bool.false_and, Bool.or_false, Bool.false_or, Bool.or_true, Bool.true_or, Bool.not_true, Bool.not_false, decide_true, decide_false, Int.cast_ofNat_Int, Int.natCast_add, Int.cast_ofNat_Int, lob_l, gu_ok, app_eq, app_ok, ins_eq, ins_ok, rem_eq, rem_ok, mem_loc, memG_rooms, c_neR, setI_eq, setI_ok, setS_eq, setS_ok, pop_eq, pop_ok, pop_1, Function.comp_apply, Int.reduceToNat, Int.reducePow, Int.reduceNeg, Int.reduceAdd, Int.reduceSub, Int.reduceMul, Int.reduceLT, Int.reduceLE, Int.reduceEq, Nat.reduceSub, Nat.reduceMul, Nat.reducePow, locksOf, st_nil, st_refl, bt_eR, ne_nil, neG_rooms, neG_rooms1, neG_nil, List.map_append, List.map_cons, List.map_nil, argsK, arrange, and_self, if_true, if_false, Bool.false_eq_true, List.map_reverse, rep1, nl_rep, pw_fold, hp_get, hp_set, rng1_ok, b_parts_of, po_c, hl, c_10, c_11, h2]
        rfl
      · obtain ⟨h8, h3⟩ := hm h1 h2
        rw [if_neg h1, if_neg h2]
        obtain ⟨w1, e1, w2, e2, n0, w3, e3, w4, e4, w5, e5⟩ := halves ht hr h8
        have hz : ∀ y : Room, y.2 * 2 = r.2 → y.2 ≤ 8 * 2 ^ k := fun y hy => by rw [Int.pow_succ] at hb; omega
        have f1 := ih _ _ w1 hL.filter hf (fun o ho k => by
          obtain ⟨i, ne⟩ := h3 o ho
          exact (half_in ht (hL.filter.1 o ho) hr i ne).resolve_right fun z => n0 (k.mono2 z)) (hz _ w5) (by omega)
        have f2 := ih _ _ e1 hL.filter hf (fun o ho k => by
          obtain ⟨i, ne⟩ := h3 o ho
          exact (half_in ht (hL.filter.1 o ho) hr i ne).resolve_left fun z => n0 (k.mono2 z).symm) (hz _ e5) (by omega)
        have l1 := parts_len k (we r) (L.filter fun o => decide (T r o))
        have l2 := parts_len k (ea r) (L.filter fun o => decide (T r o))
        have l3 : 2 ^ k ≤ 2 ^ 8 := Nat.pow_le_pow_right (by omega) (by omega)
        have l4 : (parts k (we r) (L.filter fun o => decide (T r o))).length + (parts k (ea r) (L.filter fun o => decide (T r o))).length ≤ 16777216 := by omega
        have l5 : ∀ A B : List (Room × Bool), gu (A.map eP ++ B.map eP) = some (.lst ((A ++ B).map eP)) := fun A B => by rw [← List.map_append]; exact gu_ok (nl_map nl_eP)
        simp -dsimp -implicitDefEqProofs (disch := (first | assumption | omega | (simp -implicitDefEqProofs only [nl_nil, nl_int, nl_bl, nl_non, nl_str, nl_tup, nl_lst, nl_app, nl_ints, nl_rooms, nl_eR, nl_parts, nl_rev, Bool.and_self, List.length_cons, List.length_nil, List.length_map, List.length_append, List.length_replicate]; done) | (simp -implicitDefEqProofs only [nl_nil, nl_int, nl_bl, nl_non, nl_str, nl_tup, nl_lst, nl_app, nl_ints, nl_rooms, nl_eR, nl_parts, nl_rev, Bool.and_self, List.length_cons, List.length_nil, List.length_map, List.length_append, List.length_replicate]; omega) | (simp -implicitDefEqProofs; done) | (simp -implicitDefEqProofs; omega))) only [E_k, E_d0, E_var, E_bin, E_neg, E_cmp, E_cmp2, E_and, E_or, E_not, E_ite, E_tup, E_idx, E_slc, E_call, E_callk, E_b1, E_b2, E_isi, E_pop, E_inl, E_mk, E_trep, E_trev, E_mink, E_mind, T_and, T_or, T_not, T_cmp, T_cmp2, T_tr, A_nil, A_cons, O_no, O_part, F_disp, F_comp, F_cat, F_rep, F_slc, F_list, F_sort, F_call, C_nil, C_cons, I_rng1, I_rng2, I_rng3, I_enum, I_zip, I_seq, I_rev, S_nil, S_cons, S_pass, S_set, S_setT, S_par, S_aug, S_expr, S_ret, S_retN, S_ite, S_for, S_while, S_app, S_setI, S_setS, S_ins, S_rem, S_brk, S_cont, change_some, change_none, Res.bnd_ok, Res.bnd_exc, Res.bnd_bad, Res.cnd_true, Res.cnd_false, Res.ofO_some, Res.ofO_none, Res.andB_true, Res.andB_false, Res.andB_ok, Res.orB_true, Res.orB_false, Res.orB_ok, Res.andT_true, Res.andT_false, Res.andT_ok, Res.orT_true, Res.orT_false, Res.orT_ok, SRes.sq_nx, SRes.sq_rt, SRes.sq_bk, SRes.sq_ct, SRes.sq_exc, SRes.sq_bad, Res.st_ok, Res.st_exc, Res.st_bad, SRes.cnd_true, SRes.cnd_false, Ret.close_rt, Ret.close_nx, lk_0, lk_s, List.set_cons_zero, List.set_cons_succ, List.getElem?_cons_zero, List.getElem?_cons_succ, List.length_cons, List.length_nil, List.length_map, List.length_append, List.nil_append, List.cons_append, Nat.zero_add, Nat.reduceAdd, Nat.add_zero, v_add, v_sub, v_mul, v_fdiv, v_mod, v_shl, v_pow, v_shr, v_bxor, v_cat, v_neg, v_bool, v_int, v_tup, v_loc, v_aug_add, v_own, c_eq, c_ne, c_lt, c_le, c_gt, c_ge, c_isn_non, c_isn_int, c_isn_tup, c_isn_lst, c_isnn_non, c_isnn_int, c_isnn_tup, c_isnn_lst, c_ist, c_isnt, c_eqB, c_neB, mem_tupI, mem_lstI, nmem_tupI, t_bl, t_int, t_non, t_tup, t_lst, q_tup, q_lst, q_scr, q_loc, lv_lst, lv_loc, sv_scr, sv_lst, sv_loc, ix_v, at_0, at_1, at_2, b_len, b_intB, b_int, b_boolB, b_tupT, b_tupL, b_tup_loc, b_allV, b_anyV, b_anyT, any_bm, any_im, any_b0, any_bc, any_ints, Option.some_or, bo_nil, bo_cons, bools_map, all_mapid, any_mapid, List.all_cons, List.all_nil, List.any_cons, List.any_nil, id, b_sum, b_max, b_min, b_divmod, few_ok, catL_ok, trep_ok, rep_ok, ty_non, ty_bl, ty_int, ty_str, ty_tup, ty_lst, ty_dct, ii_ii, ii_bi, ii_si, ii_ti, ii_li, ii_ni, ii_di, ii_ib, ii_bb, ii_sb, ii_tb, ii_lb, ii_nb, ii_db, ii_it, ii_bt, ii_st, ii_tt, ii_lt, ii_nt, ii_dt, bt_n, bt_t, bt_l, bs_nil, bs_cons, wipe_nil, wipe_cons, sa_nil, sa_cons, Option.bind_some, Option.bind_none, Option.map_some, Option.map_none, r_non, r_bl, r_int, r_str, r_tup, r_lst, r_scr, r_loc, ho_nil, ho_e, ho_f, ho_t, do_call, ioAt, roAt, fin_0, fin_1, fin_rob, fin_roi, fin_ron, fin_ro, fin_1r, lv_non, lv_bl, lv_int, lv_str, lv_tup, lv_lst', lv_loc', to_0, to_1, to_2, leave_eq, nl_nil, nl_int, nl_bl, nl_non, nl_str, nl_tup, nl_lst, nl_app, nl_ints, nl_rooms, nl_eR, nl_rev, ro_eR, ro_eRf, r_eR, q_eR, c_eqR, c_eqRL, c_eqRT, Bool.and_self, Bool.and_true, Bool.true_and, Bool.and_false, Bool.false_and, Bool.or_false, Bool.false_or, Bool.or_true, Bool.true_or, Bool.not_true, Bool.not_false, decide_true, decide_false, Int.cast_ofNat_Int, Int.natCast_add, Int.cast_ofNat_Int, lob_l, gu_ok, app_eq, app_ok, ins_eq, ins_ok, rem_eq, rem_ok, mem_loc, memG_rooms, c_neR, setI_eq, setI_ok, setS_eq, setS_ok, pop_eq, pop_ok, pop_1, Function.comp_apply, Int.reduceToNat, Int.reducePow, Int.reduceNeg, Int.reduceAdd, Int.reduceSub, Int.reduceMul, Int.reduceLT, Int.reduceLE, Int.reduceEq, Nat.reduceSub, Nat.reduceMul, Nat.reducePow, locksOf, st_nil, st_refl, bt_eR, ne_nil, neG_rooms, neG_rooms1, neG_nil, List.map_append, List.map_cons, List.map_nil, argsK, arrange, and_self, if_true, if_false, Bool.false_eq_true, List.map_reverse, rep1, nl_rep, pw_fold, hp_get, hp_set, rng1_ok, b_parts_of, po_c, hl, c_eq0, c_eq1, h1, h2, split, bt_eR, f1, f2, l4, l5]
theorem mapped {t : Int} (ht : Tall t) (n : Nat) {L : List Room} (hL : Sm t L) (hl : L.length ≤ 64) : run prog (n + 8) 24 [.int t, .tup (L.map eR)] = .ret ⟨.lst ((mapP t L).map eP), false, []⟩ := by
  have f1 := parts_run ht n 5 (0, pw t) L (Valid.whole ht) hL hl (fun o ho _ => whole_in ht (hL.1 o ho)) (by have := pw_bd ht; show pw t ≤ _; omega) (by omega)
  have e0 : (.tup [.int 0, .int (pw t)] : Val) = eR (0, pw t) := rfl
  rw [at_mapped]
  simp -dsimp -implicitDefEqProofs (disch := (first | assumption | omega | (simp -implicitDefEqProofs only [nl_nil, nl_int, nl_bl, nl_non, nl_str, nl_tup, nl_lst, nl_app, nl_ints, nl_rooms, nl_eR, nl_parts, nl_rev, Bool.and_self, List.length_cons, List.length_nil, List.length_map, List.length_append, List.length_replicate]; done) | (simp -implicitDefEqProofs only [nl_nil, nl_int, nl_bl, nl_non, nl_str, nl_tup, nl_lst, nl_app, nl_ints, nl_rooms, nl_eR, nl_parts, nl_rev, Bool.and_self, List.length_cons, List.length_nil, List.length_map, List.length_append, List.length_replicate]; omega) | (simp -implicitDefEqProofs; done) | (simp -implicitDefEqProofs; omega))) only [E_k, E_d0, E_var, E_bin, E_neg, E_cmp, E_cmp2, E_and, E_or, E_not, E_ite, E_tup, E_idx, E_slc, E_call, E_callk, E_b1, E_b2, E_isi, E_pop, E_inl, E_mk, E_trep, E_trev, E_mink, E_mind, T_and, T_or, T_not, T_cmp, T_cmp2, T_tr, A_nil, A_cons, O_no, O_part, F_disp, F_comp, F_cat, F_rep, F_slc, F_list, F_sort, F_call, C_nil, C_cons, I_rng1, I_rng2, I_rng3, I_enum, I_zip, I_seq, I_rev, S_nil, S_cons, S_pass, S_set, S_setT, S_par, S_aug, S_expr, S_ret, S_retN, S_ite, S_for, S_while, S_app, S_setI, S_setS, S_ins, S_rem, S_brk, S_cont, change_some, change_none, Res.bnd_ok, Res.bnd_exc, Res.bnd_bad, Res.cnd_true, Res.cnd_false, Res.ofO_some, Res.ofO_none, Res.andB_true, Res.andB_false, Res.andB_ok, Res.orB_true, Res.orB_false, Res.orB_ok, Res.andT_true, Res.andT_false, Res.andT_ok, Res.orT_true, Res.orT_false, Res.orT_ok, SRes.sq_nx, SRes.sq_rt, SRes.sq_bk, SRes.sq_ct, SRes.sq_exc, SRes.sq_bad, Res.st_ok, Res.st_exc, Res.st_bad, SRes.cnd_true, SRes.cnd_false, Ret.close_rt, Ret.close_nx, lk_0, lk_s, List.set_cons_zero, List.set_cons_succ, List.getElem?_cons_zero, List.getElem?_cons_succ, List.length_cons, List.length_nil, List.length_map, List.length_append, List.nil_append, List.cons_append, Nat.zero_add, Nat.reduceAdd, Nat.add_zero, v_add, v_sub, v_mul, v_fdiv, v_mod, v_shl, v_pow, v_shr, v_bxor, v_cat, v_neg, v_bool, v_int, v_tup, v_loc, v_aug_add, v_own, c_eq, c_ne, c_lt, c_le, c_gt, c_ge, c_isn_non, c_isn_int, c_isn_tup, c_isn_lst, c_isnn_non, c_isnn_int, c_isnn_tup, c_isnn_lst, c_ist, c_isnt, c_eqB, c_neB, mem_tupI, mem_lstI, nmem_tupI, t_bl, t_int, t_non, t_tup, t_lst, q_tup, q_lst, q_scr, q_loc, lv_lst, lv_loc, sv_scr, sv_lst, sv_loc, ix_v, at_0, at_1, at_2, b_len, b_intB, b_int, b_boolB, b_tupT, b_tupL, b_tup_loc, b_allV, b_anyV, b_anyT, any_bm, any_im, any_b0, any_bc, any_ints, Option.some_or, bo_nil, bo_cons, bools_map, all_mapid, any_mapid, List.all_cons, List.all_nil, List.any_cons, List.any_nil, id, b_sum, b_max, b_min, b_divmod, few_ok, catL_ok, trep_ok, rep_ok, ty_non, ty_bl, ty_int, ty_str, ty_tup, ty_lst, ty_dct, ii_ii, ii_bi, ii_si, ii_ti, ii_li, ii_ni, ii_di, ii_ib, ii_bb, ii_sb, ii_tb, ii_lb, ii_nb, ii_db, ii_it, ii_bt, ii_st, ii_tt, ii_lt, ii_nt, ii_dt, bt_n, bt_t, bt_l, bs_nil, bs_cons, wipe_nil, wipe_cons, sa_nil, sa_cons, Option.bind_some, Option.bind_none, Option.map_some, Option.map_none, r_non, r_bl, r_int, r_str, r_tup, r_lst, r_scr, r_loc, ho_nil, ho_e, ho_f, ho_t, do_call, ioAt, roAt, fin_0, fin_1, fin_rob, fin_roi, fin_ron, fin_ro, fin_1r, lv_non, lv_bl, lv_int, lv_str, lv_tup, lv_lst', lv_loc', to_0, to_1, to_2, leave_eq, nl_nil, nl_int, nl_bl, nl_non, nl_str, nl_tup, nl_lst, nl_app, nl_ints, nl_rooms, nl_eR, nl_rev, ro_eR, ro_eRf, r_eR, q_eR, c_eqR, c_eqRL, c_eqRT, Bool.and_self, Bool.and_true, Bool.true_and, Bool.and_false, Bool.false_and, Bool.or_false, Bool.false_or, Bool.or_true, Bool.true_or, Bool.not_true, Bool.not_false, decide_true, decide_false, Int.cast_ofNat_Int, Int.natCast_add, Int.cast_ofNat_Int, lob_l, gu_ok, app_eq, app_ok, ins_eq, ins_ok, rem_eq, rem_ok, mem_loc, memG_rooms, c_neR, setI_eq, setI_ok, setS_eq, setS_ok, pop_eq, pop_ok, pop_1, Function.comp_apply, Int.reduceToNat, Int.reducePow, Int.reduceNeg, Int.reduceAdd, Int.reduceSub, Int.reduceMul, Int.reduceLT, Int.reduceLE, Int.reduceEq, Nat.reduceSub, Nat.reduceMul, Nat.reducePow, locksOf, st_nil, st_refl, bt_eR, ne_nil, neG_rooms, neG_rooms1, neG_nil, List.map_append, List.map_cons, List.map_nil, argsK, arrange, and_self, if_true, if_false, Bool.false_eq_true, List.map_reverse, rep1, nl_rep, pw_fold, hp_get, hp_set, rng1_ok, b_mapped, wide, ht, e0, f1]
  rfl
theorem sm_out {t : Int} {L : List Room} (hL : OutOk t L) : Sm t L := ⟨hL.1, hL.2.imp fun {a b} h => by unfold T; omega⟩
theorem free_c {t : Int} (ht : Tall t) (n : Nat) {L : List Room} (hL : OutOk t L) {x2 x3 x4 : Option Val} {h : Heap} : evalF [] (run prog (n + 8)) [some (.int t), some (.tup (L.map eR)), x2, x3, x4] c_free_rooms_0 h = .ok ((dues t L).map eR) h := by
  have hl2 := mapP_len (t := t) (L := L)
  have hl := hL.len ht
  have f := mapped ht n (sm_out hL) (by omega)
  simp -dsimp -implicitDefEqProofs (disch := (first | assumption | omega | (simp -implicitDefEqProofs only [nl_nil, nl_int, nl_bl, nl_non, nl_str, nl_tup, nl_lst, nl_app, nl_ints, nl_rooms, nl_eR, nl_parts, nl_rev, Bool.and_self, List.length_cons, List.length_nil, List.length_map, List.length_append, List.length_replicate]; done) | (simp -implicitDefEqProofs only [nl_nil, nl_int, nl_bl, nl_non, nl_str, nl_tup, nl_lst, nl_app, nl_ints, nl_rooms, nl_eR, nl_parts, nl_rev, Bool.and_self, List.length_cons, List.length_nil, List.length_map, List.length_append, List.length_replicate]; omega) | (simp -implicitDefEqProofs; done) | (simp -implicitDefEqProofs; omega))) only [E_k, E_d0, E_var, E_bin, E_neg, E_cmp, E_cmp2, E_and, E_or, E_not, E_ite, E_tup, E_idx, E_slc, E_call, E_callk, E_b1, E_b2, E_isi, E_pop, E_inl, E_mk, E_trep, E_trev, E_mink, E_mind, T_and, T_or, T_not, T_cmp, T_cmp2, T_tr, A_nil, A_cons, O_no, O_part, F_disp, F_comp, F_cat, F_rep, F_slc, F_list, F_sort, F_call, C_nil, C_cons, I_rng1, I_rng2, I_rng3, I_enum, I_zip, I_seq, I_rev, S_nil, S_cons, S_pass, S_set, S_setT, S_par, S_aug, S_expr, S_ret, S_retN, S_ite, S_for, S_while, S_app, S_setI, S_setS, S_ins, S_rem, S_brk, S_cont, change_some, change_none, Res.bnd_ok, Res.bnd_exc, Res.bnd_bad, Res.cnd_true, Res.cnd_false, Res.ofO_some, Res.ofO_none, Res.andB_true, Res.andB_false, Res.andB_ok, Res.orB_true, Res.orB_false, Res.orB_ok, Res.andT_true, Res.andT_false, Res.andT_ok, Res.orT_true, Res.orT_false, Res.orT_ok, SRes.sq_nx, SRes.sq_rt, SRes.sq_bk, SRes.sq_ct, SRes.sq_exc, SRes.sq_bad, Res.st_ok, Res.st_exc, Res.st_bad, SRes.cnd_true, SRes.cnd_false, Ret.close_rt, Ret.close_nx, lk_0, lk_s, List.set_cons_zero, List.set_cons_succ, List.getElem?_cons_zero, List.getElem?_cons_succ, List.length_cons, List.length_nil, List.length_map, List.length_append, List.nil_append, List.cons_append, Nat.zero_add, Nat.reduceAdd, Nat.add_zero, v_add, v_sub, v_mul, v_fdiv, v_mod, v_shl, v_pow, v_shr, v_bxor, v_cat, v_neg, v_bool, v_int, v_tup, v_loc, v_aug_add, v_own, c_eq, c_ne, c_lt, c_le, c_gt, c_ge, c_isn_non, c_isn_int, c_isn_tup, c_isn_lst, c_isnn_non, c_isnn_int, c_isnn_tup, c_isnn_lst, c_ist, c_isnt, c_eqB, c_neB, mem_tupI, mem_lstI, nmem_tupI, t_bl, t_int, t_non, t_tup, t_lst, q_tup, q_lst, q_scr, q_loc, lv_lst, lv_loc, sv_scr, sv_lst, sv_loc, ix_v, at_0, at_1, at_2, b_len, b_intB, b_int, b_boolB, b_tupT, b_tupL, b_tup_loc, b_allV, b_anyV, b_anyT, any_bm, any_im, any_b0, any_bc, any_ints, Option.some_or, bo_nil, bo_cons, bools_map, all_mapid, any_mapid, List.all_cons, List.all_nil, List.any_cons, List.any_nil, id, b_sum, b_max, b_min, b_divmod, few_ok, catL_ok, trep_ok, rep_ok, ty_non, ty_bl, ty_int, ty_str, ty_tup, ty_lst, ty_dct, ii_ii, ii_bi, ii_si, ii_ti, ii_li, ii_ni, ii_di, ii_ib, ii_bb, ii_sb, ii_tb, ii_lb, ii_nb, ii_db, ii_it, ii_bt, ii_st, ii_tt, ii_lt, ii_nt, ii_dt, bt_n, bt_t, bt_l, bs_nil, bs_cons, wipe_nil, wipe_cons, sa_nil, sa_cons, Option.bind_some, Option.bind_none, Option.map_some, Option.map_none, r_non, r_bl, r_int, r_str, r_tup, r_lst, r_scr, r_loc, ho_nil, ho_e, ho_f, ho_t, do_call, ioAt, roAt, fin_0, fin_1, fin_rob, fin_roi, fin_ron, fin_ro, fin_1r, lv_non, lv_bl, lv_int, lv_str, lv_tup, lv_lst', lv_loc', to_0, to_1, to_2, leave_eq, nl_nil, nl_int, nl_bl, nl_non, nl_str, nl_tup, nl_lst, nl_app, nl_ints, nl_rooms, nl_eR, nl_rev, ro_eR, ro_eRf, r_eR, q_eR, c_eqR, c_eqRL, c_eqRT, Bool.and_self, Bool.and_true, Bool.true_and, Bool.and_false, Bool.false_and, Bool.or_false, Bool.false_or, Bool.or_true, Bool.true_or, Bool.not_true, Bool.not_false, decide_true, decide_false, Int.cast_ofNat_Int, Int.natCast_add, Int.cast_ofNat_Int, lob_l, gu_ok, app_eq, app_ok, ins_eq, ins_ok, rem_eq, rem_ok, mem_loc, memG_rooms, c_neR, setI_eq, setI_ok, setS_eq, setS_ok, pop_eq, pop_ok, pop_1, Function.comp_apply, Int.reduceToNat, Int.reducePow, Int.reduceNeg, Int.reduceAdd, Int.reduceSub, Int.reduceMul, Int.reduceLT, Int.reduceLE, Int.reduceEq, Nat.reduceSub, Nat.reduceMul, Nat.reducePow, locksOf, st_nil, st_refl, bt_eR, ne_nil, neG_rooms, neG_rooms1, neG_nil, List.map_append, List.map_cons, List.map_nil, argsK, arrange, and_self, if_true, if_false, Bool.false_eq_true, List.map_reverse, rep1, nl_rep, pw_fold, hp_get, hp_set, rng1_ok, c_free_rooms_0, f, hl2]
  rw [show (dues t L).map eR = ((mapP t L).filter fun p => !p.2).map fun q => eR q.1 by rw [dues, List.map_map]; rfl]
  refine comp_fm (p := fun q : Room × Bool => !q.2) fun q hq => ?_
  obtain ⟨⟨q1, q2⟩, b⟩ := q
  cases b
  · simp -dsimp -implicitDefEqProofs (disch := (first | assumption | omega | (simp -implicitDefEqProofs only [nl_nil, nl_int, nl_bl, nl_non, nl_str, nl_tup, nl_lst, nl_app, nl_ints, nl_rooms, nl_eR, nl_parts, nl_rev, Bool.and_self, List.length_cons, List.length_nil, List.length_map, List.length_append, List.length_replicate]; done) | (simp -implicitDefEqProofs only [nl_nil, nl_int, nl_bl, nl_non, nl_str, nl_tup, nl_lst, nl_app, nl_ints, nl_rooms, nl_eR, nl_parts, nl_rev, Bool.and_self, List.length_cons, List.length_nil, List.length_map, List.length_append, List.length_replicate]; omega) | (simp -implicitDefEqProofs; done) | (simp -implicitDefEqProofs; omega))) only [E_k, E_d0, E_var, E_bin, E_neg, E_cmp, E_cmp2, E_and, E_or, E_not, E_ite, E_tup, E_idx, E_slc, E_call, E_callk, E_b1, E_b2, E_isi, E_pop, E_inl, E_mk, E_trep, E_trev, E_mink, E_mind, T_and, T_or, T_not, T_cmp, T_cmp2, T_tr, A_nil, A_cons, O_no, O_part, F_disp, F_comp, F_cat, F_rep, F_slc, F_list, F_sort, F_call, C_nil, C_cons, I_rng1, I_rng2, I_rng3, I_enum, I_zip, I_seq, I_rev, S_nil, S_cons, S_pass, S_set, S_setT, S_par, S_aug, S_expr, S_ret, S_retN, S_ite, S_for, S_while, S_app, S_setI, S_setS, S_ins, S_rem, S_brk, S_cont, change_some, change_none, Res.bnd_ok, Res.bnd_exc, Res.bnd_bad, Res.cnd_true, Res.cnd_false, Res.ofO_some, Res.ofO_none, Res.andB_true, Res.andB_false, Res.andB_ok, Res.orB_true, Res.orB_false, Res.orB_ok, Res.andT_true, Res.andT_false, Res.andT_ok, Res.orT_true, Res.orT_false, Res.orT_ok, SRes.sq_nx, SRes.sq_rt, SRes.sq_bk, SRes.sq_ct, SRes.sq_exc, SRes.sq_bad, Res.st_ok, Res.st_exc, Res.st_bad, SRes.cnd_true, SRes.cnd_false, Ret.close_rt, Ret.close_nx, lk_0, lk_s, List.set_cons_zero, List.set_cons_succ, List.getElem?_cons_zero, List.getElem?_cons_succ, List.length_cons, List.length_nil, List.length_map, List.length_append, List.nil_append, List.cons_append, Nat.zero_add, Nat.reduceAdd, Nat.add_zero, v_add, v_sub, v_mul, v_fdiv, v_mod, v_shl, v_pow, v_shr, v_bxor, v_cat, v_neg, v_bool, v_int, v_tup, v_loc, v_aug_add, v_own, c_eq, c_ne, c_lt, c_le, c_gt, c_ge, c_isn_non, c_isn_int, c_isn_tup, c_isn_lst, c_isnn_non, c_isnn_int, c_isnn_tup, c_isnn_lst, c_ist, c_isnt, c_eqB, c_neB, mem_tupI, mem_lstI, nmem_tupI, t_bl, t_int, t_non, t_tup, t_lst, q_tup, q_lst, q_scr, q_loc, lv_lst, lv_loc, sv_scr, sv_lst, sv_loc, ix_v, at_0, at_1, at_2, b_len, b_intB, b_int, b_boolB, b_tupT, b_tupL, b_tup_loc, b_allV, b_anyV, b_anyT, any_bm, any_im, any_b0, any_bc, any_ints, Option.some_or, bo_nil, bo_cons, bools_map, all_mapid, any_mapid, List.all_cons, List.all_nil, List.any_cons, List.any_nil, id, b_sum, b_max, b_min, b_divmod, few_ok, catL_ok, trep_ok, rep_ok, ty_non, ty_bl, ty_int, ty_str, ty_tup, ty_lst, ty_dct, ii_ii, ii_bi, ii_si, ii_ti, ii_li, ii_ni, ii_di, ii_ib, ii_bb, ii_sb, ii_tb, ii_lb, ii_nb, ii_db, ii_it, ii_bt, ii_st, ii_tt, ii_lt, ii_nt, ii_dt, bt_n, bt_t, bt_l, bs_nil, bs_cons, wipe_nil, wipe_cons, sa_nil, sa_cons, Option.bind_some, Option.bind_none, Option.map_some, Option.map_none, r_non, r_bl, r_int, r_str, r_tup, r_lst, r_scr, r_loc, ho_nil, ho_e, ho_f, ho_t, do_call, ioAt, roAt, fin_0, fin_1, fin_rob, fin_roi, fin_ron, fin_ro, fin_1r, lv_non, lv_bl, lv_int, lv_str, lv_tup, lv_lst', lv_loc', to_0, to_1, to_2, leave_eq, nl_nil, nl_int, nl_bl, nl_non, nl_str, nl_tup, nl_lst, nl_app, nl_ints, nl_rooms, nl_eR, nl_rev, ro_eR, ro_eRf, r_eR, q_eR, c_eqR, c_eqRL, c_eqRT, Bool.and_self, Bool.and_true, Bool.true_and, Bool.and_false, Bool.false_and, Bool.or_false, Bool.false_or, Bool.or_true, Bool.true_or, Bool.not_true, Bool.not_false, decide_true, decide_false, Int.cast_ofNat_Int, Int.natCast_add, Int.cast_ofNat_Int, lob_l, gu_ok, app_eq, app_ok, ins_eq, ins_ok, rem_eq, rem_ok, mem_loc, memG_rooms, c_neR, setI_eq, setI_ok, setS_eq, setS_ok, pop_eq, pop_ok, pop_1, Function.comp_apply, Int.reduceToNat, Int.reducePow, Int.reduceNeg, Int.reduceAdd, Int.reduceSub, Int.reduceMul, Int.reduceLT, Int.reduceLE, Int.reduceEq, Nat.reduceSub, Nat.reduceMul, Nat.reducePow, locksOf, st_nil, st_refl, bt_eR, ne_nil, neG_rooms, neG_rooms1, neG_nil, List.map_append, List.map_cons, List.map_nil, argsK, arrange, and_self, if_true, if_false, Bool.false_eq_true, List.map_reverse, rep1, nl_rep, pw_fold, hp_get, hp_set, rng1_ok, turn_eq, eP]
    all_goals rfl
  · simp -dsimp -implicitDefEqProofs (disch := (first | assumption | omega | (simp -implicitDefEqProofs only [nl_nil, nl_int, nl_bl, nl_non, nl_str, nl_tup, nl_lst, nl_app, nl_ints, nl_rooms, nl_eR, nl_parts, nl_rev, Bool.and_self, List.length_cons, List.length_nil, List.length_map, List.length_append, List.length_replicate]; done) | (simp -implicitDefEqProofs only [nl_nil, nl_int, nl_bl, nl_non, nl_str, nl_tup, nl_lst, nl_app, nl_ints, nl_rooms, nl_eR, nl_parts, nl_rev, Bool.and_self, List.length_cons, List.length_nil, List.length_map, List.length_append, List.length_replicate]; omega) | (simp -implicitDefEqProofs; done) | (simp -implicitDefEqProofs; omega))) only [E_k, E_d0, E_var, E_bin, E_neg, E_cmp, E_cmp2, E_and, E_or, E_not, E_ite, E_tup, E_idx, E_slc, E_call, E_callk, E_b1, E_b2, E_isi, E_pop, E_inl, E_mk, E_trep, E_trev, E_mink, E_mind, T_and, T_or, T_not, T_cmp, T_cmp2, T_tr, A_nil, A_cons, O_no, O_part, F_disp, F_comp, F_cat, F_rep, F_slc, F_list, F_sort, F_call, C_nil, C_cons, I_rng1, I_rng2, I_rng3, I_enum, I_zip, I_seq, I_rev, S_nil, S_cons, S_pass, S_set, S_setT, S_par, S_aug, S_expr, S_ret, S_retN, S_ite, S_for, S_while, S_app, S_setI, S_setS, S_ins, S_rem, S_brk, S_cont, change_some, change_none, Res.bnd_ok, Res.bnd_exc, Res.bnd_bad, Res.cnd_true, Res.cnd_false, Res.ofO_some, Res.ofO_none, Res.andB_true, Res.andB_false, Res.andB_ok, Res.orB_true, Res.orB_false, Res.orB_ok, Res.andT_true, Res.andT_false, Res.andT_ok, Res.orT_true, Res.orT_false, Res.orT_ok, SRes.sq_nx, SRes.sq_rt, SRes.sq_bk, SRes.sq_ct, SRes.sq_exc, SRes.sq_bad, Res.st_ok, Res.st_exc, Res.st_bad, SRes.cnd_true, SRes.cnd_false, Ret.close_rt, Ret.close_nx, lk_0, lk_s, List.set_cons_zero, List.set_cons_succ, List.getElem?_cons_zero, List.getElem?_cons_succ, List.length_cons, List.length_nil, List.length_map, List.length_append, List.nil_append, List.cons_append, Nat.zero_add, Nat.reduceAdd, Nat.add_zero, v_add, v_sub, v_mul, v_fdiv, v_mod, v_shl, v_pow, v_shr, v_bxor, v_cat, v_neg, v_bool, v_int, v_tup, v_loc, v_aug_add, v_own, c_eq, c_ne, c_lt, c_le, c_gt, c_ge, c_isn_non, c_isn_int, c_isn_tup, c_isn_lst, c_isnn_non, c_isnn_int, c_isnn_tup, c_isnn_lst, c_ist, c_isnt, c_eqB, c_neB, mem_tupI, mem_lstI, nmem_tupI, t_bl, t_int, t_non, t_tup, t_lst, q_tup, q_lst, q_scr, q_loc, lv_lst, lv_loc, sv_scr, sv_lst, sv_loc, ix_v, at_0, at_1, at_2, b_len, b_intB, b_int, b_boolB, b_tupT, b_tupL, b_tup_loc, b_allV, b_anyV, b_anyT, any_bm, any_im, any_b0, any_bc, any_ints, Option.some_or, bo_nil, bo_cons, bools_map, all_mapid, any_mapid, List.all_cons, List.all_nil, List.any_cons, List.any_nil, id, b_sum, b_max, b_min, b_divmod, few_ok, catL_ok, trep_ok, rep_ok, ty_non, ty_bl, ty_int, ty_str, ty_tup, ty_lst, ty_dct, ii_ii, ii_bi, ii_si, ii_ti, ii_li, ii_ni, ii_di, ii_ib, ii_bb, ii_sb, ii_tb, ii_lb, ii_nb, ii_db, ii_it, ii_bt, ii_st, ii_tt, ii_lt, ii_nt, ii_dt, bt_n, bt_t, bt_l, bs_nil, bs_cons, wipe_nil, wipe_cons, sa_nil, sa_cons, Option.bind_some, Option.bind_none, Option.map_some, Option.map_none, r_non, r_bl, r_int, r_str, r_tup, r_lst, r_scr, r_loc, ho_nil, ho_e, ho_f, ho_t, do_call, ioAt, roAt, fin_0, fin_1, fin_rob, fin_roi, fin_ron, fin_ro, fin_1r, lv_non, lv_bl, lv_int, lv_str, lv_tup, lv_lst', lv_loc', to_0, to_1, to_2, leave_eq, nl_nil, nl_int, nl_bl, nl_non, nl_str, nl_tup, nl_lst, nl_app, nl_ints, nl_rooms, nl_eR, nl_rev, ro_eR, ro_eRf, r_eR, q_eR, c_eqR, c_eqRL, c_eqRT, Bool.and_self, Bool.and_true, Bool.true_and, Bool.and_false, Bool.false_and, Bool.or_false, Bool.false_or, Bool.or_true, Bool.true_or, Bool.not_true, Bool.not_false, decide_true, decide_false, Int.cast_ofNat_Int, Int.natCast_add, Int.cast_ofNat_Int, lob_l, gu_ok, app_eq, app_ok, ins_eq, ins_ok, rem_eq, rem_ok, mem_loc, memG_rooms, c_neR, setI_eq, setI_ok, setS_eq, setS_ok, pop_eq, pop_ok, pop_1, Function.comp_apply, Int.reduceToNat, Int.reducePow, Int.reduceNeg, Int.reduceAdd, Int.reduceSub, Int.reduceMul, Int.reduceLT, Int.reduceLE, Int.reduceEq, Nat.reduceSub, Nat.reduceMul, Nat.reducePow, locksOf, st_nil, st_refl, bt_eR, ne_nil, neG_rooms, neG_rooms1, neG_nil, List.map_append, List.map_cons, List.map_nil, argsK, arrange, and_self, if_true, if_false, Bool.false_eq_true, List.map_reverse, rep1, nl_rep, pw_fold, hp_get, hp_set, rng1_ok, turn_eq, eP]
    all_goals rfl
theorem free_rooms {t : Int} (ht : Tall t) (n : Nat) {L : List Room} (hL : OutOk t L) : run prog (n + 9) 25 [.int t, .tup (L.map eR)] = .ret ⟨.lst ((dues t L).map eR), true, []⟩ := by
  rw [at_free_rooms]
  simp -dsimp -implicitDefEqProofs (disch := (first | assumption | omega | (simp -implicitDefEqProofs only [nl_nil, nl_int, nl_bl, nl_non, nl_str, nl_tup, nl_lst, nl_app, nl_ints, nl_rooms, nl_eR, nl_parts, nl_rev, Bool.and_self, List.length_cons, List.length_nil, List.length_map, List.length_append, List.length_replicate]; done) | (simp -implicitDefEqProofs only [nl_nil, nl_int, nl_bl, nl_non, nl_str, nl_tup, nl_lst, nl_app, nl_ints, nl_rooms, nl_eR, nl_parts, nl_rev, Bool.and_self, List.length_cons, List.length_nil, List.length_map, List.length_append, List.length_replicate]; omega) | (simp -implicitDefEqProofs; done) | (simp -implicitDefEqProofs; omega))) only [E_k, E_d0, E_var, E_bin, E_neg, E_cmp, E_cmp2, E_and, E_or, E_not, E_ite, E_tup, E_idx, E_slc, E_call, E_callk, E_b1, E_b2, E_isi, E_pop, E_inl, E_mk, E_trep, E_trev, E_mink, E_mind, T_and, T_or, T_not, T_cmp, T_cmp2, T_tr, A_nil, A_cons, O_no, O_part, F_disp, F_comp, F_cat, F_rep, F_slc, F_list, F_sort, F_call, C_nil, C_cons, I_rng1, I_rng2, I_rng3, I_enum, I_zip, I_seq, I_rev, S_nil, S_cons, S_pass, S_set, S_setT, S_par, S_aug, S_expr, S_ret, S_retN, S_ite, S_for, S_while, S_app, S_setI, S_setS, S_ins, S_rem, S_brk, S_cont, change_some, change_none, Res.bnd_ok, Res.bnd_exc, Res.bnd_bad, Res.cnd_true, Res.cnd_false, Res.ofO_some, Res.ofO_none, Res.andB_true, Res.andB_false, Res.andB_ok, Res.orB_true, Res.orB_false, Res.orB_ok, Res.andT_true, Res.andT_false, Res.andT_ok, Res.orT_true, Res.orT_false, Res.orT_ok, SRes.sq_nx, SRes.sq_rt, SRes.sq_bk, SRes.sq_ct, SRes.sq_exc, SRes.sq_bad, Res.st_ok, Res.st_exc, Res.st_bad, SRes.cnd_true, SRes.cnd_false, Ret.close_rt, Ret.close_nx, lk_0, lk_s, List.set_cons_zero, List.set_cons_succ, List.getElem?_cons_zero, List.getElem?_cons_succ, List.length_cons, List.length_nil, List.length_map, List.length_append, List.nil_append, List.cons_append, Nat.zero_add, Nat.reduceAdd, Nat.add_zero, v_add, v_sub, v_mul, v_fdiv, v_mod, v_shl, v_pow, v_shr, v_bxor, v_cat, v_neg, v_bool, v_int, v_tup, v_loc, v_aug_add, v_own, c_eq, c_ne, c_lt, c_le, c_gt, c_ge, c_isn_non, c_isn_int, c_isn_tup, c_isn_lst, c_isnn_non, c_isnn_int, c_isnn_tup, c_isnn_lst, c_ist, c_isnt, c_eqB, c_neB, mem_tupI, mem_lstI, nmem_tupI, t_bl, t_int, t_non, t_tup, t_lst, q_tup, q_lst, q_scr, q_loc, lv_lst, lv_loc, sv_scr, sv_lst, sv_loc, ix_v, at_0, at_1, at_2, b_len, b_intB, b_int, b_boolB, b_tupT, b_tupL, b_tup_loc, b_allV, b_anyV, b_anyT, any_bm, any_im, any_b0, any_bc, any_ints, Option.some_or, bo_nil, bo_cons, bools_map, all_mapid, any_mapid, List.all_cons, List.all_nil, List.any_cons, List.any_nil, id, b_sum, b_max, b_min, b_divmod, few_ok, catL_ok, trep_ok, rep_ok, ty_non, ty_bl, ty_int, ty_str, ty_tup, ty_lst, ty_dct, ii_ii, ii_bi, ii_si, ii_ti, ii_li, ii_ni, ii_di, ii_ib, ii_bb, ii_sb, ii_tb, ii_lb, ii_nb, ii_db, ii_it, ii_bt, ii_st, ii_tt, ii_lt, ii_nt, ii_dt, bt_n, bt_t, bt_l, bs_nil, bs_cons, wipe_nil, wipe_cons, sa_nil, sa_cons, Option.bind_some, Option.bind_none, Option.map_some, Option.map_none, r_non, r_bl, r_int, r_str, r_tup, r_lst, r_scr, r_loc, ho_nil, ho_e, ho_f, ho_t, do_call, ioAt, roAt, fin_0, fin_1, fin_rob, fin_roi, fin_ron, fin_ro, fin_1r, lv_non, lv_bl, lv_int, lv_str, lv_tup, lv_lst', lv_loc', to_0, to_1, to_2, leave_eq, nl_nil, nl_int, nl_bl, nl_non, nl_str, nl_tup, nl_lst, nl_app, nl_ints, nl_rooms, nl_eR, nl_rev, ro_eR, ro_eRf, r_eR, q_eR, c_eqR, c_eqRL, c_eqRT, Bool.and_self, Bool.and_true, Bool.true_and, Bool.and_false, Bool.false_and, Bool.or_false, Bool.false_or, Bool.or_true, Bool.true_or, Bool.not_true, Bool.not_false, decide_true, decide_false, Int.cast_ofNat_Int, Int.natCast_add, Int.cast_ofNat_Int, lob_l, gu_ok, app_eq, app_ok, ins_eq, ins_ok, rem_eq, rem_ok, mem_loc, memG_rooms, c_neR, setI_eq, setI_ok, setS_eq, setS_ok, pop_eq, pop_ok, pop_1, Function.comp_apply, Int.reduceToNat, Int.reducePow, Int.reduceNeg, Int.reduceAdd, Int.reduceSub, Int.reduceMul, Int.reduceLT, Int.reduceLE, Int.reduceEq, Nat.reduceSub, Nat.reduceMul, Nat.reducePow, locksOf, st_nil, st_refl, bt_eR, ne_nil, neG_rooms, neG_rooms1, neG_nil, List.map_append, List.map_cons, List.map_nil, argsK, arrange, and_self, if_true, if_false, Bool.false_eq_true, List.map_reverse, rep1, nl_rep, pw_fold, hp_get, hp_set, rng1_ok, b_free_rooms, free_c, ht, hL]
theorem best_c {F : List Room} {s : Int} {cb : CB} {x2 : Option Val} {h : Heap} (hl : F.length ≤ 64) : evalF [] cb [some (.lst (F.map eR)), some (.int s), x2] c_best_of_0 h = .ok ((F.filter fun r => decide (s ≤ r.2)).map eR) h := by
  simp -dsimp -implicitDefEqProofs (disch := (first | assumption | omega | (simp -implicitDefEqProofs only [nl_nil, nl_int, nl_bl, nl_non, nl_str, nl_tup, nl_lst, nl_app, nl_ints, nl_rooms, nl_eR, nl_parts, nl_rev, Bool.and_self, List.length_cons, List.length_nil, List.length_map, List.length_append, List.length_replicate]; done) | (simp -implicitDefEqProofs only [nl_nil, nl_int, nl_bl, nl_non, nl_str, nl_tup, nl_lst, nl_app, nl_ints, nl_rooms, nl_eR, nl_parts, nl_rev, Bool.and_self, List.length_cons, List.length_nil, List.length_map, List.length_append, List.length_replicate]; omega) | (simp -implicitDefEqProofs; done) | (simp -implicitDefEqProofs; omega))) only [E_k, E_d0, E_var, E_bin, E_neg, E_cmp, E_cmp2, E_and, E_or, E_not, E_ite, E_tup, E_idx, E_slc, E_call, E_callk, E_b1, E_b2, E_isi, E_pop, E_inl, E_mk, E_trep, E_trev, E_mink, E_mind, T_and, T_or, T_not, T_cmp, T_cmp2, T_tr, A_nil, A_cons, O_no, O_part, F_disp, F_comp, F_cat, F_rep, F_slc, F_list, F_sort, F_call, C_nil, C_cons, I_rng1, I_rng2, I_rng3, I_enum, I_zip, I_seq, I_rev, S_nil, S_cons, S_pass, S_set, S_setT, S_par, S_aug, S_expr, S_ret, S_retN, S_ite, S_for, S_while, S_app, S_setI, S_setS, S_ins, S_rem, S_brk, S_cont, change_some, change_none, Res.bnd_ok, Res.bnd_exc, Res.bnd_bad, Res.cnd_true, Res.cnd_false, Res.ofO_some, Res.ofO_none, Res.andB_true, Res.andB_false, Res.andB_ok, Res.orB_true, Res.orB_false, Res.orB_ok, Res.andT_true, Res.andT_false, Res.andT_ok, Res.orT_true, Res.orT_false, Res.orT_ok, SRes.sq_nx, SRes.sq_rt, SRes.sq_bk, SRes.sq_ct, SRes.sq_exc, SRes.sq_bad, Res.st_ok, Res.st_exc, Res.st_bad, SRes.cnd_true, SRes.cnd_false, Ret.close_rt, Ret.close_nx, lk_0, lk_s, List.set_cons_zero, List.set_cons_succ, List.getElem?_cons_zero, List.getElem?_cons_succ, List.length_cons, List.length_nil, List.length_map, List.length_append, List.nil_append, List.cons_append, Nat.zero_add, Nat.reduceAdd, Nat.add_zero, v_add, v_sub, v_mul, v_fdiv, v_mod, v_shl, v_pow, v_shr, v_bxor, v_cat, v_neg, v_bool, v_int, v_tup, v_loc, v_aug_add, v_own, c_eq, c_ne, c_lt, c_le, c_gt, c_ge, c_isn_non, c_isn_int, c_isn_tup, c_isn_lst, c_isnn_non, c_isnn_int, c_isnn_tup, c_isnn_lst, c_ist, c_isnt, c_eqB, c_neB, mem_tupI, mem_lstI, nmem_tupI, t_bl, t_int, t_non, t_tup, t_lst, q_tup, q_lst, q_scr, q_loc, lv_lst, lv_loc, sv_scr, sv_lst, sv_loc, ix_v, at_0, at_1, at_2, b_len, b_intB, b_int, b_boolB, b_tupT, b_tupL, b_tup_loc, b_allV, b_anyV, b_anyT, any_bm, any_im, any_b0, any_bc, any_ints, Option.some_or, bo_nil, bo_cons, bools_map, all_mapid, any_mapid, List.all_cons, List.all_nil, List.any_cons, List.any_nil, id, b_sum, b_max, b_min, b_divmod, few_ok, catL_ok, trep_ok, rep_ok, ty_non, ty_bl, ty_int, ty_str, ty_tup, ty_lst, ty_dct, ii_ii, ii_bi, ii_si, ii_ti, ii_li, ii_ni, ii_di, ii_ib, ii_bb, ii_sb, ii_tb, ii_lb, ii_nb, ii_db, ii_it, ii_bt, ii_st, ii_tt, ii_lt, ii_nt, ii_dt, bt_n, bt_t, bt_l, bs_nil, bs_cons, wipe_nil, wipe_cons, sa_nil, sa_cons, Option.bind_some, Option.bind_none, Option.map_some, Option.map_none, r_non, r_bl, r_int, r_str, r_tup, r_lst, r_scr, r_loc, ho_nil, ho_e, ho_f, ho_t, do_call, ioAt, roAt, fin_0, fin_1, fin_rob, fin_roi, fin_ron, fin_ro, fin_1r, lv_non, lv_bl, lv_int, lv_str, lv_tup, lv_lst', lv_loc', to_0, to_1, to_2, leave_eq, nl_nil, nl_int, nl_bl, nl_non, nl_str, nl_tup, nl_lst, nl_app, nl_ints, nl_rooms, nl_eR, nl_rev, ro_eR, ro_eRf, r_eR, q_eR, c_eqR, c_eqRL, c_eqRT, Bool.and_self, Bool.and_true, Bool.true_and, Bool.and_false, Bool.false_and, Bool.or_false, Bool.false_or, Bool.or_true, Bool.true_or, Bool.not_true, Bool.not_false, decide_true, decide_false, Int.cast_ofNat_Int, Int.natCast_add, Int.cast_ofNat_Int, lob_l, gu_ok, app_eq, app_ok, ins_eq, ins_ok, rem_eq, rem_ok, mem_loc, memG_rooms, c_neR, setI_eq, setI_ok, setS_eq, setS_ok, pop_eq, pop_ok, pop_1, Function.comp_apply, Int.reduceToNat, Int.reducePow, Int.reduceNeg, Int.reduceAdd, Int.reduceSub, Int.reduceMul, Int.reduceLT, Int.reduceLE, Int.reduceEq, Nat.reduceSub, Nat.reduceMul, Nat.reducePow, locksOf, st_nil, st_refl, bt_eR, ne_nil, neG_rooms, neG_rooms1, neG_nil, List.map_append, List.map_cons, List.map_nil, argsK, arrange, and_self, if_true, if_false, Bool.false_eq_true, List.map_reverse, rep1, nl_rep, pw_fold, hp_get, hp_set, rng1_ok, c_best_of_0]
  refine comp_fm (p := fun r : Room => decide (s ≤ r.2)) fun r hr => ?_
  cases k : decide (s ≤ r.2) <;> simp -dsimp -implicitDefEqProofs (disch := (first | assumption | omega | (simp -implicitDefEqProofs only [nl_nil, nl_int, nl_bl, nl_non, nl_str, nl_tup, nl_lst, nl_app, nl_ints, nl_rooms, nl_eR, nl_parts, nl_rev, Bool.and_self, List.length_cons, List.length_nil, List.length_map, List.length_append, List.length_replicate]; done) | (simp -implicitDefEqProofs only [nl_nil, nl_int, nl_bl, nl_non, nl_str, nl_tup, nl_lst, nl_app, nl_ints, nl_rooms, nl_eR, nl_parts, nl_rev, Bool.and_self, List.length_cons, List.length_nil, List.length_map, List.length_append, List.length_replicate]; omega) | (simp -implicitDefEqProofs; done) | (simp -implicitDefEqProofs; omega))) only [E_k, E_d0, E_var, E_bin, E_neg, E_cmp, E_cmp2, E_and, E_or, E_not, E_ite, E_tup, E_idx, E_slc, E_call, E_callk, E_b1, E_b2, E_isi, E_pop, E_inl, E_mk, E_trep, E_trev, E_mink, E_mind, T_and, T_or, T_not, T_cmp, T_cmp2, T_tr, A_nil, A_cons, O_no, O_part, F_disp, F_comp, F_cat, F_rep, F_slc, F_list, F_sort, F_call, C_nil, C_cons, I_rng1, I_rng2, I_rng3, I_enum, I_zip, I_seq, I_rev, S_nil, S_cons, S_pass, S_set, S_setT, S_par, S_aug, S_expr, S_ret, S_retN, S_ite, S_for, S_while, S_app, S_setI, S_setS, S_ins, S_rem, S_brk, S_cont, change_some, change_none, Res.bnd_ok, Res.bnd_exc, Res.bnd_bad, Res.cnd_true, Res.cnd_false, Res.ofO_some, Res.ofO_none, Res.andB_true, Res.andB_false, Res.andB_ok, Res.orB_true, Res.orB_false, Res.orB_ok, Res.andT_true, Res.andT_false, Res.andT_ok, Res.orT_true, Res.orT_false, Res.orT_ok, SRes.sq_nx, SRes.sq_rt, SRes.sq_bk, SRes.sq_ct, SRes.sq_exc, SRes.sq_bad, Res.st_ok, Res.st_exc, Res.st_bad, SRes.cnd_true, SRes.cnd_false, Ret.close_rt, Ret.close_nx, lk_0, lk_s, List.set_cons_zero, List.set_cons_succ, List.getElem?_cons_zero, List.getElem?_cons_succ, List.length_cons, List.length_nil, List.length_map, List.length_append, List.nil_append, List.cons_append, Nat.zero_add, Nat.reduceAdd, Nat.add_zero, v_add, v_sub, v_mul, v_fdiv, v_mod, v_shl, v_pow, v_shr, v_bxor, v_cat, v_neg, v_bool, v_int, v_tup, v_loc, v_aug_add, v_own, c_eq, c_ne, c_lt, c_le, c_gt, c_ge, c_isn_non, c_isn_int, c_isn_tup, c_isn_lst, c_isnn_non, c_isnn_int, c_isnn_tup, c_isnn_lst, c_ist, c_isnt, c_eqB, c_neB, mem_tupI, mem_lstI, nmem_tupI, t_bl, t_int, t_non, t_tup, t_lst, q_tup, q_lst, q_scr, q_loc, lv_lst, lv_loc, sv_scr, sv_lst, sv_loc, ix_v, at_0, at_1, at_2, b_len, b_intB, b_int, b_boolB, b_tupT, b_tupL, b_tup_loc, b_allV, b_anyV, b_anyT, any_bm, any_im, any_b0, any_bc, any_ints, Option.some_or, bo_nil, bo_cons, bools_map, all_mapid, any_mapid, List.all_cons, List.all_nil, List.any_cons, List.any_nil, id, b_sum, b_max, b_min, b_divmod, few_ok, catL_ok, trep_ok, rep_ok, ty_non, ty_bl, ty_int, ty_str, ty_tup, ty_lst, ty_dct, ii_ii, ii_bi, ii_si, ii_ti, ii_li, ii_ni, ii_di, ii_ib, ii_bb, ii_sb, ii_tb, ii_lb, ii_nb, ii_db, ii_it, ii_bt, ii_st, ii_tt, ii_lt, ii_nt, ii_dt, bt_n, bt_t, bt_l, bs_nil, bs_cons, wipe_nil, wipe_cons, sa_nil, sa_cons, Option.bind_some, Option.bind_none, Option.map_some, Option.map_none, r_non, r_bl, r_int, r_str, r_tup, r_lst, r_scr, r_loc, ho_nil, ho_e, ho_f, ho_t, do_call, ioAt, roAt, fin_0, fin_1, fin_rob, fin_roi, fin_ron, fin_ro, fin_1r, lv_non, lv_bl, lv_int, lv_str, lv_tup, lv_lst', lv_loc', to_0, to_1, to_2, leave_eq, nl_nil, nl_int, nl_bl, nl_non, nl_str, nl_tup, nl_lst, nl_app, nl_ints, nl_rooms, nl_eR, nl_rev, ro_eR, ro_eRf, r_eR, q_eR, c_eqR, c_eqRL, c_eqRT, Bool.and_self, Bool.and_true, Bool.true_and, Bool.and_false, Bool.false_and, Bool.or_false, Bool.false_or, Bool.or_true, Bool.true_or, Bool.not_true, Bool.not_false, decide_true, decide_false, Int.cast_ofNat_Int, Int.natCast_add, Int.cast_ofNat_Int, lob_l, gu_ok, app_eq, app_ok, ins_eq, ins_ok, rem_eq, rem_ok, mem_loc, memG_rooms, c_neR, setI_eq, setI_ok, setS_eq, setS_ok, pop_eq, pop_ok, pop_1, Function.comp_apply, Int.reduceToNat, Int.reducePow, Int.reduceNeg, Int.reduceAdd, Int.reduceSub, Int.reduceMul, Int.reduceLT, Int.reduceLE, Int.reduceEq, Nat.reduceSub, Nat.reduceMul, Nat.reducePow, locksOf, st_nil, st_refl, bt_eR, ne_nil, neG_rooms, neG_rooms1, neG_nil, List.map_append, List.map_cons, List.map_nil, argsK, arrange, and_self, if_true, if_false, Bool.false_eq_true, List.map_reverse, rep1, nl_rep, pw_fold, hp_get, hp_set, rng1_ok, turn_eq, q_eR, k]
theorem best_of (n : Nat) {F : List Room} {s : Int} (hl : F.length ≤ 64) : run prog (n + 1) 21 [.lst (F.map eR), .int s] = rt (optR (bestL (F.filter fun r => decide (s ≤ r.2)))) := by
  have e := minK_rooms (F := F.filter fun r => decide (s ≤ r.2))
  rw [at_best_of]
  have f := fun {cb : CB} {x2 : Option Val} {h : Heap} => best_c (cb := cb) (x2 := x2) (h := h) (s := s) hl
  have nl : ∀ o : Option Room, (optR o).noLoc = true := fun o => by cases o <;> rfl
  have lv : ∀ (o : Option Room) (m : Nat) (h : Heap), leaveV m (optR o) h = some (optR o, false) := fun o m h => by cases o <;> rfl
  simp -dsimp -implicitDefEqProofs (disch := (first | assumption | omega | (simp -implicitDefEqProofs only [nl_nil, nl_int, nl_bl, nl_non, nl_str, nl_tup, nl_lst, nl_app, nl_ints, nl_rooms, nl_eR, nl_parts, nl_rev, Bool.and_self, List.length_cons, List.length_nil, List.length_map, List.length_append, List.length_replicate]; done) | (simp -implicitDefEqProofs only [nl_nil, nl_int, nl_bl, nl_non, nl_str, nl_tup, nl_lst, nl_app, nl_ints, nl_rooms, nl_eR, nl_parts, nl_rev, Bool.and_self, List.length_cons, List.length_nil, List.length_map, List.length_append, List.length_replicate]; omega) | (simp -implicitDefEqProofs; done) | (simp -implicitDefEqProofs; omega))) only [E_k, E_d0, E_var, E_bin, E_neg, E_cmp, E_cmp2, E_and, E_or, E_not, E_ite, E_tup, E_idx, E_slc, E_call, E_callk, E_b1, E_b2, E_isi, E_pop, E_inl, E_mk, E_trep, E_trev, E_mink, E_mind, T_and, T_or, T_not, T_cmp, T_cmp2, T_tr, A_nil, A_cons, O_no, O_part, F_disp, F_comp, F_cat, F_rep, F_slc, F_list, F_sort, F_call, C_nil, C_cons, I_rng1, I_rng2, I_rng3, I_enum, I_zip, I_seq, I_rev, S_nil, S_cons, S_pass, S_set, S_setT, S_par, S_aug, S_expr, S_ret, S_retN, S_ite, S_for, S_while, S_app, S_setI, S_setS, S_ins, S_rem, S_brk, S_cont, change_some, change_none, Res.bnd_ok, Res.bnd_exc, Res.bnd_bad, Res.cnd_true, Res.cnd_false, Res.ofO_some, Res.ofO_none, Res.andB_true, Res.andB_false, Res.andB_ok, Res.orB_true, Res.orB_false, Res.orB_ok, Res.andT_true, Res.andT_false, Res.andT_ok, Res.orT_true, Res.orT_false, Res.orT_ok, SRes.sq_nx, SRes.sq_rt, SRes.sq_bk, SRes.sq_ct, SRes.sq_exc, SRes.sq_bad, Res.st_ok, Res.st_exc, Res.st_bad, SRes.cnd_true, SRes.cnd_false, Ret.close_rt, Ret.close_nx, lk_0, lk_s, List.set_cons_zero, List.set_cons_succ, List.getElem?_cons_zero, List.getElem?_cons_succ, List.length_cons, List.length_nil, List.length_map, List.length_append, List.nil_append, List.cons_append, Nat.zero_add, Nat.reduceAdd, Nat.add_zero, v_add, v_sub, v_mul, v_fdiv, v_mod, v_shl, v_pow, v_shr, v_bxor, v_cat, v_neg, v_bool, v_int, v_tup, v_loc, v_aug_add, v_own, c_eq, c_ne, c_lt, c_le, c_gt, c_ge, c_isn_non, c_isn_int, c_isn_tup, c_isn_lst, c_isnn_non, c_isnn_int, c_isnn_tup, c_isnn_lst, c_ist, c_isnt, c_eqB, c_neB, mem_tupI, mem_lstI, nmem_tupI, t_bl, t_int, t_non, t_tup, t_lst, q_tup, q_lst, q_scr, q_loc, lv_lst, lv_loc, sv_scr, sv_lst, sv_loc, ix_v, at_0, at_1, at_2, b_len, b_intB, b_int, b_boolB, b_tupT, b_tupL, b_tup_loc, b_allV, b_anyV, b_anyT, any_bm, any_im, any_b0, any_bc, any_ints, Option.some_or, bo_nil, bo_cons, bools_map, all_mapid, any_mapid, List.all_cons, List.all_nil, List.any_cons, List.any_nil, id, b_sum, b_max, b_min, b_divmod, few_ok, catL_ok, trep_ok, rep_ok, ty_non, ty_bl, ty_int, ty_str, ty_tup, ty_lst, ty_dct, ii_ii, ii_bi, ii_si, ii_ti, ii_li, ii_ni, ii_di, ii_ib, ii_bb, ii_sb, ii_tb, ii_lb, ii_nb, ii_db, ii_it, ii_bt, ii_st, ii_tt, ii_lt, ii_nt, ii_dt, bt_n, bt_t, bt_l, bs_nil, bs_cons, wipe_nil, wipe_cons, sa_nil, sa_cons, Option.bind_some, Option.bind_none, Option.map_some, Option.map_none, r_non, r_bl, r_int, r_str, r_tup, r_lst, r_scr, r_loc, ho_nil, ho_e, ho_f, ho_t, do_call, ioAt, roAt, fin_0, fin_1, fin_rob, fin_roi, fin_ron, fin_ro, fin_1r, lv_non, lv_bl, lv_int, lv_str, lv_tup, lv_lst', lv_loc', to_0, to_1, to_2, leave_eq, nl_nil, nl_int, nl_bl, nl_non, nl_str, nl_tup, nl_lst, nl_app, nl_ints, nl_rooms, nl_eR, nl_rev, ro_eR, ro_eRf, r_eR, q_eR, c_eqR, c_eqRL, c_eqRT, Bool.and_self, Bool.and_true, Bool.true_and, Bool.and_false, Bool.false_and, Bool.or_false, Bool.false_or, Bool.or_true, Bool.true_or, Bool.not_true, Bool.not_false, decide_true, decide_false, Int.cast_ofNat_Int, Int.natCast_add, Int.cast_ofNat_Int, lob_l, gu_ok, app_eq, app_ok, ins_eq, ins_ok, rem_eq, rem_ok, mem_loc, memG_rooms, c_neR, setI_eq, setI_ok, setS_eq, setS_ok, pop_eq, pop_ok, pop_1, Function.comp_apply, Int.reduceToNat, Int.reducePow, Int.reduceNeg, Int.reduceAdd, Int.reduceSub, Int.reduceMul, Int.reduceLT, Int.reduceLE, Int.reduceEq, Nat.reduceSub, Nat.reduceMul, Nat.reducePow, locksOf, st_nil, st_refl, bt_eR, ne_nil, neG_rooms, neG_rooms1, neG_nil, List.map_append, List.map_cons, List.map_nil, argsK, arrange, and_self, if_true, if_false, Bool.false_eq_true, List.map_reverse, rep1, nl_rep, pw_fold, hp_get, hp_set, rng1_ok, b_best_of, f, e, lv]
theorem room_by {t s : Int} (ht : Tall t) (n : Nat) {L : List Room} (hL : OutOk t L) : run prog (n + 10) 26 [.int t, .tup (L.map eR), .int s] = rt (optR (gotR t L s)) := by
  have hl := dues_len (t := t) (L := L)
  have b := fun k : Nat => best_of k (F := dues t L) (s := s) (by omega)
  have e : bestL ((dues t L).filter fun r => decide (s ≤ r.2)) = gotL t L s := rfl
  simp only [e] at b
  have f := free_rooms ht n hL
  rw [at_room_by]
  unfold gotR
  cases k : gotL t L s with
  | none =>
    rw [k] at b
    have b : ∀ k : Nat, run prog (k + 1) 21 [.lst ((dues t L).map eR), .int s] = rt .non := b
    simp -dsimp -implicitDefEqProofs (disch := (first | assumption | omega | (simp -implicitDefEqProofs only [nl_nil, nl_int, nl_bl, nl_non, nl_str, nl_tup, nl_lst, nl_app, nl_ints, nl_rooms, nl_eR, nl_parts, nl_rev, Bool.and_self, List.length_cons, List.length_nil, List.length_map, List.length_append, List.length_replicate]; done) | (simp -implicitDefEqProofs only [nl_nil, nl_int, nl_bl, nl_non, nl_str, nl_tup, nl_lst, nl_app, nl_ints, nl_rooms, nl_eR, nl_parts, nl_rev, Bool.and_self, List.length_cons, List.length_nil, List.length_map, List.length_append, List.length_replicate]; omega) | (simp -implicitDefEqProofs; done) | (simp -implicitDefEqProofs; omega))) only [E_k, E_d0, E_var, E_bin, E_neg, E_cmp, E_cmp2, E_and, E_or, E_not, E_ite, E_tup, E_idx, E_slc, E_call, E_callk, E_b1, E_b2, E_isi, E_pop, E_inl, E_mk, E_trep, E_trev, E_mink, E_mind, T_and, T_or, T_not, T_cmp, T_cmp2, T_tr, A_nil, A_cons, O_no, O_part, F_disp, F_comp, F_cat, F_rep, F_slc, F_list, F_sort, F_call, C_nil, C_cons, I_rng1, I_rng2, I_rng3, I_enum, I_zip, I_seq, I_rev, S_nil, S_cons, S_pass, S_set, S_setT, S_par, S_aug, S_expr, S_ret, S_retN, S_ite, S_for, S_while, S_app, S_setI, S_setS, S_ins, S_rem, S_brk, S_cont, change_some, change_none, Res.bnd_ok, Res.bnd_exc, Res.bnd_bad, Res.cnd_true, Res.cnd_false, Res.ofO_some, Res.ofO_none, Res.andB_true, Res.andB_false, Res.andB_ok, Res.orB_true, Res.orB_false, Res.orB_ok, Res.andT_true, Res.andT_false, Res.andT_ok, Res.orT_true, Res.orT_false, Res.orT_ok, SRes.sq_nx, SRes.sq_rt, SRes.sq_bk, SRes.sq_ct, SRes.sq_exc, SRes.sq_bad, Res.st_ok, Res.st_exc, Res.st_bad, SRes.cnd_true, SRes.cnd_false, Ret.close_rt, Ret.close_nx, lk_0, lk_s, List.set_cons_zero, List.set_cons_succ, List.getElem?_cons_zero, List.getElem?_cons_succ, List.length_cons, List.length_nil, List.length_map, List.length_append, List.nil_append, List.cons_append, Nat.zero_add, Nat.reduceAdd, Nat.add_zero, v_add, v_sub, v_mul, v_fdiv, v_mod, v_shl, v_pow, v_shr, v_bxor, v_cat, v_neg, v_bool, v_int, v_tup, v_loc, v_aug_add, v_own, c_eq, c_ne, c_lt, c_le, c_gt, c_ge, c_isn_non, c_isn_int, c_isn_tup, c_isn_lst, c_isnn_non, c_isnn_int, c_isnn_tup, c_isnn_lst, c_ist, c_isnt, c_eqB, c_neB, mem_tupI, mem_lstI, nmem_tupI, t_bl, t_int, t_non, t_tup, t_lst, q_tup, q_lst, q_scr, q_loc, lv_lst, lv_loc, sv_scr, sv_lst, sv_loc, ix_v, at_0, at_1, at_2, b_len, b_intB, b_int, b_boolB, b_tupT, b_tupL, b_tup_loc, b_allV, b_anyV, b_anyT, any_bm, any_im, any_b0, any_bc, any_ints, Option.some_or, bo_nil, bo_cons, bools_map, all_mapid, any_mapid, List.all_cons, List.all_nil, List.any_cons, List.any_nil, id, b_sum, b_max, b_min, b_divmod, few_ok, catL_ok, trep_ok, rep_ok, ty_non, ty_bl, ty_int, ty_str, ty_tup, ty_lst, ty_dct, ii_ii, ii_bi, ii_si, ii_ti, ii_li, ii_ni, ii_di, ii_ib, ii_bb, ii_sb, ii_tb, ii_lb, ii_nb, ii_db, ii_it, ii_bt, ii_st, ii_tt, ii_lt, ii_nt, ii_dt, bt_n, bt_t, bt_l, bs_nil, bs_cons, wipe_nil, wipe_cons, sa_nil, sa_cons, Option.bind_some, Option.bind_none, Option.map_some, Option.map_none, r_non, r_bl, r_int, r_str, r_tup, r_lst, r_scr, r_loc, ho_nil, ho_e, ho_f, ho_t, do_call, ioAt, roAt, fin_0, fin_1, fin_rob, fin_roi, fin_ron, fin_ro, fin_1r, lv_non, lv_bl, lv_int, lv_str, lv_tup, lv_lst', lv_loc', to_0, to_1, to_2, leave_eq, nl_nil, nl_int, nl_bl, nl_non, nl_str, nl_tup, nl_lst, nl_app, nl_ints, nl_rooms, nl_eR, nl_rev, ro_eR, ro_eRf, r_eR, q_eR, c_eqR, c_eqRL, c_eqRT, Bool.and_self, Bool.and_true, Bool.true_and, Bool.and_false, Bool.false_and, Bool.or_false, Bool.false_or, Bool.or_true, Bool.true_or, Bool.not_true, Bool.not_false, decide_true, decide_false, Int.cast_ofNat_Int, Int.natCast_add, Int.cast_ofNat_Int, lob_l, gu_ok, app_eq, app_ok, ins_eq, ins_ok, rem_eq, rem_ok, mem_loc, memG_rooms, c_neR, setI_eq, setI_ok, setS_eq, setS_ok, pop_eq, pop_ok, pop_1, Function.comp_apply, Int.reduceToNat, Int.reducePow, Int.reduceNeg, Int.reduceAdd, Int.reduceSub, Int.reduceMul, Int.reduceLT, Int.reduceLE, Int.reduceEq, Nat.reduceSub, Nat.reduceMul, Nat.reducePow, locksOf, st_nil, st_refl, bt_eR, ne_nil, neG_rooms, neG_rooms1, neG_nil, List.map_append, List.map_cons, List.map_nil, argsK, arrange, and_self, if_true, if_false, Bool.false_eq_true, List.map_reverse, rep1, nl_rep, pw_fold, hp_get, hp_set, rng1_ok, b_room_by, f, b]
    all_goals rfl
  | some r =>
    rw [k] at b
    have b : ∀ k : Nat, run prog (k + 1) 21 [.lst ((dues t L).map eR), .int s] = rt (eR r) := b
    have c1 : ∀ h : Heap, cmpV h .isn (eR r) .non = some false := fun h => rfl
    simp -dsimp -implicitDefEqProofs (disch := (first | assumption | omega | (simp -implicitDefEqProofs only [nl_nil, nl_int, nl_bl, nl_non, nl_str, nl_tup, nl_lst, nl_app, nl_ints, nl_rooms, nl_eR, nl_parts, nl_rev, Bool.and_self, List.length_cons, List.length_nil, List.length_map, List.length_append, List.length_replicate]; done) | (simp -implicitDefEqProofs only [nl_nil, nl_int, nl_bl, nl_non, nl_str, nl_tup, nl_lst, nl_app, nl_ints, nl_rooms, nl_eR, nl_parts, nl_rev, Bool.and_self, List.length_cons, List.length_nil, List.length_map, List.length_append, List.length_replicate]; omega) | (simp -implicitDefEqProofs; done) | (simp -implicitDefEqProofs; omega))) only [E_k, E_d0, E_var, E_bin, E_neg, E_cmp, E_cmp2, E_and, E_or, E_not, E_ite, E_tup, E_idx, E_slc, E_call, E_callk, E_b1, E_b2, E_isi, E_pop, E_inl, E_mk, E_trep, E_trev, E_mink, E_mind, T_and, T_or, T_not, T_cmp, T_cmp2, T_tr, A_nil, A_cons, O_no, O_part, F_disp, F_comp, F_cat, F_rep, F_slc, F_list, F_sort, F_call, C_nil, C_cons, I_rng1, I_rng2, I_rng3, I_enum, I_zip, I_seq, I_rev, S_nil, S_cons, S_pass, S_set, S_setT, S_par, S_aug, S_expr, S_ret, S_retN, S_ite, S_for, S_while, S_app, S_setI, S_setS, S_ins, S_rem, S_brk, S_cont, change_some, change_none, Res.bnd_ok, Res.bnd_exc, Res.bnd_bad, Res.cnd_true, Res.cnd_false, Res.ofO_some, Res.ofO_none, Res.andB_true, Res.andB_false, Res.andB_ok, Res.orB_true, Res.orB_false, Res.orB_ok, Res.andT_true, Res.andT_false, Res.andT_ok, Res.orT_true, Res.orT_false, Res.orT_ok, SRes.sq_nx, SRes.sq_rt, SRes.sq_bk, SRes.sq_ct, SRes.sq_exc, SRes.sq_bad, Res.st_ok, Res.st_exc, Res.st_bad, SRes.cnd_true, SRes.cnd_false, Ret.close_rt, Ret.close_nx, lk_0, lk_s, List.set_cons_zero, List.set_cons_succ, List.getElem?_cons_zero, List.getElem?_cons_succ, List.length_cons, List.length_nil, List.length_map, List.length_append, List.nil_append, List.cons_append, Nat.zero_add, Nat.reduceAdd, Nat.add_zero, v_add, v_sub, v_mul, v_fdiv, v_mod, v_shl, v_pow, v_shr, v_bxor, v_cat, v_neg, v_bool, v_int, v_tup, v_loc, v_aug_add, v_own, c_eq, c_ne, c_lt, c_le, c_gt, c_ge, c_isn_non, c_isn_int, c_isn_tup, c_isn_lst, c_isnn_non, c_isnn_int, c_isnn_tup, c_isnn_lst, c_ist, c_isnt, c_eqB, c_neB, mem_tupI, mem_lstI, nmem_tupI, t_bl, t_int, t_non, t_tup, t_lst, q_tup, q_lst, q_scr, q_loc, lv_lst, lv_loc, sv_scr, sv_lst, sv_loc, ix_v, at_0, at_1, at_2, b_len, b_intB, b_int, b_boolB, b_tupT, b_tupL, b_tup_loc, b_allV, b_anyV, b_anyT, any_bm, any_im, any_b0, any_bc, any_ints, Option.some_or, bo_nil, bo_cons, bools_map, all_mapid, any_mapid, List.all_cons, List.all_nil, List.any_cons, List.any_nil, id, b_sum, b_max, b_min, b_divmod, few_ok, catL_ok, trep_ok, rep_ok, ty_non, ty_bl, ty_int, ty_str, ty_tup, ty_lst, ty_dct, ii_ii, ii_bi, ii_si, ii_ti, ii_li, ii_ni, ii_di, ii_ib, ii_bb, ii_sb, ii_tb, ii_lb, ii_nb, ii_db, ii_it, ii_bt, ii_st, ii_tt, ii_lt, ii_nt, ii_dt, bt_n, bt_t, bt_l, bs_nil, bs_cons, wipe_nil, wipe_cons, sa_nil, sa_cons, Option.bind_some, Option.bind_none, Option.map_some, Option.map_none, r_non, r_bl, r_int, r_str, r_tup, r_lst, r_scr, r_loc, ho_nil, ho_e, ho_f, ho_t, do_call, ioAt, roAt, fin_0, fin_1, fin_rob, fin_roi, fin_ron, fin_ro, fin_1r, lv_non, lv_bl, lv_int, lv_str, lv_tup, lv_lst', lv_loc', to_0, to_1, to_2, leave_eq, nl_nil, nl_int, nl_bl, nl_non, nl_str, nl_tup, nl_lst, nl_app, nl_ints, nl_rooms, nl_eR, nl_rev, ro_eR, ro_eRf, r_eR, q_eR, c_eqR, c_eqRL, c_eqRT, Bool.and_self, Bool.and_true, Bool.true_and, Bool.and_false, Bool.false_and, Bool.or_false, Bool.false_or, Bool.or_true, Bool.true_or, Bool.not_true, Bool.not_false, decide_true, decide_false, Int.cast_ofNat_Int, Int.natCast_add, Int.cast_ofNat_Int, lob_l, gu_ok, app_eq, app_ok, ins_eq, ins_ok, rem_eq, rem_ok, mem_loc, memG_rooms, c_neR, setI_eq, setI_ok, setS_eq, setS_ok, pop_eq, pop_ok, pop_1, Function.comp_apply, Int.reduceToNat, Int.reducePow, Int.reduceNeg, Int.reduceAdd, Int.reduceSub, Int.reduceMul, Int.reduceLT, Int.reduceLE, Int.reduceEq, Nat.reduceSub, Nat.reduceMul, Nat.reducePow, locksOf, st_nil, st_refl, bt_eR, ne_nil, neG_rooms, neG_rooms1, neG_nil, List.map_append, List.map_cons, List.map_nil, argsK, arrange, and_self, if_true, if_false, Bool.false_eq_true, List.map_reverse, rep1, nl_rep, pw_fold, hp_get, hp_set, rng1_ok, b_room_by, f, b, c1, q_eR]
    all_goals rfl
theorem check_wish {t s : Int} (ht : Tall t) (n : Nat) {L : List Room} (hL : OutOk t L) (hs : s ∈ szs t) : run prog (n + 5) 20 [.int t, .tup (L.map eR), .int s] = rt .non := by
  rw [at_check_wish]
  simp -dsimp -implicitDefEqProofs (disch := (first | assumption | omega | (simp -implicitDefEqProofs only [nl_nil, nl_int, nl_bl, nl_non, nl_str, nl_tup, nl_lst, nl_app, nl_ints, nl_rooms, nl_eR, nl_parts, nl_rev, Bool.and_self, List.length_cons, List.length_nil, List.length_map, List.length_append, List.length_replicate]; done) | (simp -implicitDefEqProofs only [nl_nil, nl_int, nl_bl, nl_non, nl_str, nl_tup, nl_lst, nl_app, nl_ints, nl_rooms, nl_eR, nl_parts, nl_rev, Bool.and_self, List.length_cons, List.length_nil, List.length_map, List.length_append, List.length_replicate]; omega) | (simp -implicitDefEqProofs; done) | (simp -implicitDefEqProofs; omega))) only [E_k, E_d0, E_var, E_bin, E_neg, E_cmp, E_cmp2, E_and, E_or, E_not, E_ite, E_tup, E_idx, E_slc, E_call, E_callk, E_b1, E_b2, E_isi, E_pop, E_inl, E_mk, E_trep, E_trev, E_mink, E_mind, T_and, T_or, T_not, T_cmp, T_cmp2, T_tr, A_nil, A_cons, O_no, O_part, F_disp, F_comp, F_cat, F_rep, F_slc, F_list, F_sort, F_call, C_nil, C_cons, I_rng1, I_rng2, I_rng3, I_enum, I_zip, I_seq, I_rev, S_nil, S_cons, S_pass, S_set, S_setT, S_par, S_aug, S_expr, S_ret, S_retN, S_ite, S_for, S_while, S_app, S_setI, S_setS, S_ins, S_rem, S_brk, S_cont, change_some, change_none, Res.bnd_ok, Res.bnd_exc, Res.bnd_bad, Res.cnd_true, Res.cnd_false, Res.ofO_some, Res.ofO_none, Res.andB_true, Res.andB_false, Res.andB_ok, Res.orB_true, Res.orB_false, Res.orB_ok, Res.andT_true, Res.andT_false, Res.andT_ok, Res.orT_true, Res.orT_false, Res.orT_ok, SRes.sq_nx, SRes.sq_rt, SRes.sq_bk, SRes.sq_ct, SRes.sq_exc, SRes.sq_bad, Res.st_ok, Res.st_exc, Res.st_bad, SRes.cnd_true, SRes.cnd_false, Ret.close_rt, Ret.close_nx, lk_0, lk_s, List.set_cons_zero, List.set_cons_succ, List.getElem?_cons_zero, List.getElem?_cons_succ, List.length_cons, List.length_nil, List.length_map, List.length_append, List.nil_append, List.cons_append, Nat.zero_add, Nat.reduceAdd, Nat.add_zero, v_add, v_sub, v_mul, v_fdiv, v_mod, v_shl, v_pow, v_shr, v_bxor, v_cat, v_neg, v_bool, v_int, v_tup, v_loc, v_aug_add, v_own, c_eq, c_ne, c_lt, c_le, c_gt, c_ge, c_isn_non, c_isn_int, c_isn_tup, c_isn_lst, c_isnn_non, c_isnn_int, c_isnn_tup, c_isnn_lst, c_ist, c_isnt, c_eqB, c_neB, mem_tupI, mem_lstI, nmem_tupI, t_bl, t_int, t_non, t_tup, t_lst, q_tup, q_lst, q_scr, q_loc, lv_lst, lv_loc, sv_scr, sv_lst, sv_loc, ix_v, at_0, at_1, at_2, b_len, b_intB, b_int, b_boolB, b_tupT, b_tupL, b_tup_loc, b_allV, b_anyV, b_anyT, any_bm, any_im, any_b0, any_bc, any_ints, Option.some_or, bo_nil, bo_cons, bools_map, all_mapid, any_mapid, List.all_cons, List.all_nil, List.any_cons, List.any_nil, id, b_sum, b_max, b_min, b_divmod, few_ok, catL_ok, trep_ok, rep_ok, ty_non, ty_bl, ty_int, ty_str, ty_tup, ty_lst, ty_dct, ii_ii, ii_bi, ii_si, ii_ti, ii_li, ii_ni, ii_di, ii_ib, ii_bb, ii_sb, ii_tb, ii_lb, ii_nb, ii_db, ii_it, ii_bt, ii_st, ii_tt, ii_lt, ii_nt, ii_dt, bt_n, bt_t, bt_l, bs_nil, bs_cons, wipe_nil, wipe_cons, sa_nil, sa_cons, Option.bind_some, Option.bind_none, Option.map_some, Option.map_none, r_non, r_bl, r_int, r_str, r_tup, r_lst, r_scr, r_loc, ho_nil, ho_e, ho_f, ho_t, do_call, ioAt, roAt, fin_0, fin_1, fin_rob, fin_roi, fin_ron, fin_ro, fin_1r, lv_non, lv_bl, lv_int, lv_str, lv_tup, lv_lst', lv_loc', to_0, to_1, to_2, leave_eq, nl_nil, nl_int, nl_bl, nl_non, nl_str, nl_tup, nl_lst, nl_app, nl_ints, nl_rooms, nl_eR, nl_rev, ro_eR, ro_eRf, r_eR, q_eR, c_eqR, c_eqRL, c_eqRT, Bool.and_self, Bool.and_true, Bool.true_and, Bool.and_false, Bool.false_and, Bool.or_false, Bool.false_or, Bool.or_true, Bool.true_or, Bool.not_true, Bool.not_false, decide_true, decide_false, Int.cast_ofNat_Int, Int.natCast_add, Int.cast_ofNat_Int, lob_l, gu_ok, app_eq, app_ok, ins_eq, ins_ok, rem_eq, rem_ok, mem_loc, memG_rooms, c_neR, setI_eq, setI_ok, setS_eq, setS_ok, pop_eq, pop_ok, pop_1, Function.comp_apply, Int.reduceToNat, Int.reducePow, Int.reduceNeg, Int.reduceAdd, Int.reduceSub, Int.reduceMul, Int.reduceLT, Int.reduceLE, Int.reduceEq, Nat.reduceSub, Nat.reduceMul, Nat.reducePow, locksOf, st_nil, st_refl, bt_eR, ne_nil, neG_rooms, neG_rooms1, neG_nil, List.map_append, List.map_cons, List.map_nil, argsK, arrange, and_self, if_true, if_false, Bool.false_eq_true, List.map_reverse, rep1, nl_rep, pw_fold, hp_get, hp_set, rng1_ok, b_check_wish, check_out, check_size, ht, hL, hs]
theorem room_for {t s : Int} (ht : Tall t) (n : Nat) {L : List Room} (hL : OutOk t L) (hs : s ∈ szs t) : run prog (n + 11) 27 [.int t, .tup (L.map eR), .int s] = rt (optR (gotR t L s)) := by
  have lv : ∀ (o : Option Room) (m : Nat) (h : Heap), leaveV m (optR o) h = some (optR o, false) := fun o m h => by cases o <;> rfl
  rw [at_room_for]
  simp -dsimp -implicitDefEqProofs (disch := (first | assumption | omega | (simp -implicitDefEqProofs only [nl_nil, nl_int, nl_bl, nl_non, nl_str, nl_tup, nl_lst, nl_app, nl_ints, nl_rooms, nl_eR, nl_parts, nl_rev, Bool.and_self, List.length_cons, List.length_nil, List.length_map, List.length_append, List.length_replicate]; done) | (simp -implicitDefEqProofs only [nl_nil, nl_int, nl_bl, nl_non, nl_str, nl_tup, nl_lst, nl_app, nl_ints, nl_rooms, nl_eR, nl_parts, nl_rev, Bool.and_self, List.length_cons, List.length_nil, List.length_map, List.length_append, List.length_replicate]; omega) | (simp -implicitDefEqProofs; done) | (simp -implicitDefEqProofs; omega))) only [E_k, E_d0, E_var, E_bin, E_neg, E_cmp, E_cmp2, E_and, E_or, E_not, E_ite, E_tup, E_idx, E_slc, E_call, E_callk, E_b1, E_b2, E_isi, E_pop, E_inl, E_mk, E_trep, E_trev, E_mink, E_mind, T_and, T_or, T_not, T_cmp, T_cmp2, T_tr, A_nil, A_cons, O_no, O_part, F_disp, F_comp, F_cat, F_rep, F_slc, F_list, F_sort, F_call, C_nil, C_cons, I_rng1, I_rng2, I_rng3, I_enum, I_zip, I_seq, I_rev, S_nil, S_cons, S_pass, S_set, S_setT, S_par, S_aug, S_expr, S_ret, S_retN, S_ite, S_for, S_while, S_app, S_setI, S_setS, S_ins, S_rem, S_brk, S_cont, change_some, change_none, Res.bnd_ok, Res.bnd_exc, Res.bnd_bad, Res.cnd_true, Res.cnd_false, Res.ofO_some, Res.ofO_none, Res.andB_true, Res.andB_false, Res.andB_ok, Res.orB_true, Res.orB_false, Res.orB_ok, Res.andT_true, Res.andT_false, Res.andT_ok, Res.orT_true, Res.orT_false, Res.orT_ok, SRes.sq_nx, SRes.sq_rt, SRes.sq_bk, SRes.sq_ct, SRes.sq_exc, SRes.sq_bad, Res.st_ok, Res.st_exc, Res.st_bad, SRes.cnd_true, SRes.cnd_false, Ret.close_rt, Ret.close_nx, lk_0, lk_s, List.set_cons_zero, List.set_cons_succ, List.getElem?_cons_zero, List.getElem?_cons_succ, List.length_cons, List.length_nil, List.length_map, List.length_append, List.nil_append, List.cons_append, Nat.zero_add, Nat.reduceAdd, Nat.add_zero, v_add, v_sub, v_mul, v_fdiv, v_mod, v_shl, v_pow, v_shr, v_bxor, v_cat, v_neg, v_bool, v_int, v_tup, v_loc, v_aug_add, v_own, c_eq, c_ne, c_lt, c_le, c_gt, c_ge, c_isn_non, c_isn_int, c_isn_tup, c_isn_lst, c_isnn_non, c_isnn_int, c_isnn_tup, c_isnn_lst, c_ist, c_isnt, c_eqB, c_neB, mem_tupI, mem_lstI, nmem_tupI, t_bl, t_int, t_non, t_tup, t_lst, q_tup, q_lst, q_scr, q_loc, lv_lst, lv_loc, sv_scr, sv_lst, sv_loc, ix_v, at_0, at_1, at_2, b_len, b_intB, b_int, b_boolB, b_tupT, b_tupL, b_tup_loc, b_allV, b_anyV, b_anyT, any_bm, any_im, any_b0, any_bc, any_ints, Option.some_or, bo_nil, bo_cons, bools_map, all_mapid, any_mapid, List.all_cons, List.all_nil, List.any_cons, List.any_nil, id, b_sum, b_max, b_min, b_divmod, few_ok, catL_ok, trep_ok, rep_ok, ty_non, ty_bl, ty_int, ty_str, ty_tup, ty_lst, ty_dct, ii_ii, ii_bi, ii_si, ii_ti, ii_li, ii_ni, ii_di, ii_ib, ii_bb, ii_sb, ii_tb, ii_lb, ii_nb, ii_db, ii_it, ii_bt, ii_st, ii_tt, ii_lt, ii_nt, ii_dt, bt_n, bt_t, bt_l, bs_nil, bs_cons, wipe_nil, wipe_cons, sa_nil, sa_cons, Option.bind_some, Option.bind_none, Option.map_some, Option.map_none, r_non, r_bl, r_int, r_str, r_tup, r_lst, r_scr, r_loc, ho_nil, ho_e, ho_f, ho_t, do_call, ioAt, roAt, fin_0, fin_1, fin_rob, fin_roi, fin_ron, fin_ro, fin_1r, lv_non, lv_bl, lv_int, lv_str, lv_tup, lv_lst', lv_loc', to_0, to_1, to_2, leave_eq, nl_nil, nl_int, nl_bl, nl_non, nl_str, nl_tup, nl_lst, nl_app, nl_ints, nl_rooms, nl_eR, nl_rev, ro_eR, ro_eRf, r_eR, q_eR, c_eqR, c_eqRL, c_eqRT, Bool.and_self, Bool.and_true, Bool.true_and, Bool.and_false, Bool.false_and, Bool.or_false, Bool.false_or, Bool.or_true, Bool.true_or, Bool.not_true, Bool.not_false, decide_true, decide_false, Int.cast_ofNat_Int, Int.natCast_add, Int.cast_ofNat_Int, lob_l, gu_ok, app_eq, app_ok, ins_eq, ins_ok, rem_eq, rem_ok, mem_loc, memG_rooms, c_neR, setI_eq, setI_ok, setS_eq, setS_ok, pop_eq, pop_ok, pop_1, Function.comp_apply, Int.reduceToNat, Int.reducePow, Int.reduceNeg, Int.reduceAdd, Int.reduceSub, Int.reduceMul, Int.reduceLT, Int.reduceLE, Int.reduceEq, Nat.reduceSub, Nat.reduceMul, Nat.reducePow, locksOf, st_nil, st_refl, bt_eR, ne_nil, neG_rooms, neG_rooms1, neG_nil, List.map_append, List.map_cons, List.map_nil, argsK, arrange, and_self, if_true, if_false, Bool.false_eq_true, List.map_reverse, rep1, nl_rep, pw_fold, hp_get, hp_set, rng1_ok, b_room_for, check_wish, room_by, ht, hL, hs, lv]

/-! LIBheight: the drawn height: mostly 4 to 6 -/
theorem height (n : Nat) {a c : Int} : ∃ (t a' c' : Int), Tall t ∧ run prog (n + 2) 2 [.lst [.int a, .int c]] = .ret ⟨.int t, false, [[.int a', .int c']]⟩ := by
  have w8 := tk_bd (a := a) (c := c) (m := 8) (by omega)
  rw [at__law_height]
  by_cases k : tkR a c 8 = 3
  · have w := tk_bd (a := tkA a c 8) (c := tkC a c 8) (m := 5) (by omega)
    refine ⟨4 + tkR (tkA a c 8) (tkC a c 8) 5, tkA (tkA a c 8) (tkC a c 8) 5, tkC (tkA a c 8) (tkC a c 8) 5, ?_, ?_⟩
    rotate_left
    · have k' := decide_eq_true k
      simp -dsimp -implicitDefEqProofs (disch := (first | assumption | omega | (simp -implicitDefEqProofs only [nl_nil, nl_int, nl_bl, nl_non, nl_str, nl_tup, nl_lst, nl_app, nl_ints, nl_rooms, nl_eR, nl_parts, nl_rev, Bool.and_self, List.length_cons, List.length_nil, List.length_map, List.length_append, List.length_replicate]; done) | (simp -implicitDefEqProofs only [nl_nil, nl_int, nl_bl, nl_non, nl_str, nl_tup, nl_lst, nl_app, nl_ints, nl_rooms, nl_eR, nl_parts, nl_rev, Bool.and_self, List.length_cons, List.length_nil, List.length_map, List.length_append, List.length_replicate]; omega) | (simp -implicitDefEqProofs; done) | (simp -implicitDefEqProofs; omega))) only [E_k, E_d0, E_var, E_bin, E_neg, E_cmp, E_cmp2, E_and, E_or, E_not, E_ite, E_tup, E_idx, E_slc, E_call, E_callk, E_b1, E_b2, E_isi, E_pop, E_inl, E_mk, E_trep, E_trev, E_mink, E_mind, T_and, T_or, T_not, T_cmp, T_cmp2, T_tr, A_nil, A_cons, O_no, O_part, F_disp, F_comp, F_cat, F_rep, F_slc, F_list, F_sort, F_call, C_nil, C_cons, I_rng1, I_rng2, I_rng3, I_enum, I_zip, I_seq, I_rev, S_nil, S_cons, S_pass, S_set, S_setT, S_par, S_aug, S_expr, S_ret, S_retN, S_ite, S_for, S_while, S_app, S_setI, S_setS, S_ins, S_rem, S_brk, S_cont, change_some, change_none, Res.bnd_ok, Res.bnd_exc, Res.bnd_bad, Res.cnd_true, Res.cnd_false, Res.ofO_some, Res.ofO_none, Res.andB_true, Res.andB_false, Res.andB_ok, Res.orB_true, Res.orB_false, Res.orB_ok, Res.andT_true, Res.andT_false, Res.andT_ok, Res.orT_true, Res.orT_false, Res.orT_ok, SRes.sq_nx, SRes.sq_rt, SRes.sq_bk, SRes.sq_ct, SRes.sq_exc, SRes.sq_bad, Res.st_ok, Res.st_exc, Res.st_bad, SRes.cnd_true, SRes.cnd_false, Ret.close_rt, Ret.close_nx, lk_0, lk_s, List.set_cons_zero, List.set_cons_succ, List.getElem?_cons_zero, List.getElem?_cons_succ, List.length_cons, List.length_nil, List.length_map, List.length_append, List.nil_append, List.cons_append, Nat.zero_add, Nat.reduceAdd, Nat.add_zero, v_add, v_sub, v_mul, v_fdiv, v_mod, v_shl, v_pow, v_shr, v_bxor, v_cat, v_neg, v_bool, v_int, v_tup, v_loc, v_aug_add, v_own, c_eq, c_ne, c_lt, c_le, c_gt, c_ge, c_isn_non, c_isn_int, c_isn_tup, c_isn_lst, c_isnn_non, c_isnn_int, c_isnn_tup, c_isnn_lst, c_ist, c_isnt, c_eqB, c_neB, mem_tupI, mem_lstI, nmem_tupI, t_bl, t_int, t_non, t_tup, t_lst, q_tup, q_lst, q_scr, q_loc, lv_lst, lv_loc, sv_scr, sv_lst, sv_loc, ix_v, at_0, at_1, at_2, b_len, b_intB, b_int, b_boolB, b_tupT, b_tupL, b_tup_loc, b_allV, b_anyV, b_anyT, any_bm, any_im, any_b0, any_bc, any_ints, Option.some_or, bo_nil, bo_cons, bools_map, all_mapid, any_mapid, List.all_cons, List.all_nil, List.any_cons, List.any_nil, id, b_sum, b_max, b_min, b_divmod, few_ok, catL_ok, trep_ok, rep_ok, ty_non, ty_bl, ty_int, ty_str, ty_tup, ty_lst, ty_dct, ii_ii, ii_bi, ii_si, ii_ti, ii_li, ii_ni, ii_di, ii_ib, ii_bb, ii_sb, ii_tb, ii_lb, ii_nb, ii_db, ii_it, ii_bt, ii_st, ii_tt, ii_lt, ii_nt, ii_dt, bt_n, bt_t, bt_l, bs_nil, bs_cons, wipe_nil, wipe_cons, sa_nil, sa_cons, Option.bind_some, Option.bind_none, Option.map_some, Option.map_none, r_non, r_bl, r_int, r_str, r_tup, r_lst, r_scr, r_loc, ho_nil, ho_e, ho_f, ho_t, do_call, ioAt, roAt, fin_0, fin_1, fin_rob, fin_roi, fin_ron, fin_ro, fin_1r, lv_non, lv_bl, lv_int, lv_str, lv_tup, lv_lst', lv_loc', to_0, to_1, to_2, leave_eq, nl_nil, nl_int, nl_bl, nl_non, nl_str, nl_tup, nl_lst, nl_app, nl_ints, nl_rooms, nl_eR, nl_rev, ro_eR, ro_eRf, r_eR, q_eR, c_eqR, c_eqRL, c_eqRT, Bool.and_self, Bool.and_true, Bool.true_and, Bool.and_false, Bool.false_and, Bool.or_false, Bool.false_or, Bool.or_true, Bool.true_or, Bool.not_true, Bool.not_false, decide_true, decide_false, Int.cast_ofNat_Int, Int.natCast_add, Int.cast_ofNat_Int, lob_l, gu_ok, app_eq, app_ok, ins_eq, ins_ok, rem_eq, rem_ok, mem_loc, memG_rooms, c_neR, setI_eq, setI_ok, setS_eq, setS_ok, pop_eq, pop_ok, pop_1, Function.comp_apply, Int.reduceToNat, Int.reducePow, Int.reduceNeg, Int.reduceAdd, Int.reduceSub, Int.reduceMul, Int.reduceLT, Int.reduceLE, Int.reduceEq, Nat.reduceSub, Nat.reduceMul, Nat.reducePow, locksOf, st_nil, st_refl, bt_eR, ne_nil, neG_rooms, neG_rooms1, neG_nil, List.map_append, List.map_cons, List.map_nil, argsK, arrange, and_self, if_true, if_false, Bool.false_eq_true, List.map_reverse, rep1, nl_rep, pw_fold, hp_get, hp_set, rng1_ok, b__law_height, take, k']
      all_goals rfl
    · unfold Tall; omega
  · have w := tk_bd (a := tkA a c 8) (c := tkC a c 8) (m := 3) (by omega)
    refine ⟨4 + tkR (tkA a c 8) (tkC a c 8) 3, tkA (tkA a c 8) (tkC a c 8) 3, tkC (tkA a c 8) (tkC a c 8) 3, ?_, ?_⟩
    rotate_left
    · have k' := decide_eq_false k
      simp -dsimp -implicitDefEqProofs (disch := (first | assumption | omega | (simp -implicitDefEqProofs only [nl_nil, nl_int, nl_bl, nl_non, nl_str, nl_tup, nl_lst, nl_app, nl_ints, nl_rooms, nl_eR, nl_parts, nl_rev, Bool.and_self, List.length_cons, List.length_nil, List.length_map, List.length_append, List.length_replicate]; done) | (simp -implicitDefEqProofs only [nl_nil, nl_int, nl_bl, nl_non, nl_str, nl_tup, nl_lst, nl_app, nl_ints, nl_rooms, nl_eR, nl_parts, nl_rev, Bool.and_self, List.length_cons, List.length_nil, List.length_map, List.length_append, List.length_replicate]; omega) | (simp -implicitDefEqProofs; done) | (simp -implicitDefEqProofs; omega))) only [E_k, E_d0, E_var, E_bin, E_neg, E_cmp, E_cmp2, E_and, E_or, E_not, E_ite, E_tup, E_idx, E_slc, E_call, E_callk, E_b1, E_b2, E_isi, E_pop, E_inl, E_mk, E_trep, E_trev, E_mink, E_mind, T_and, T_or, T_not, T_cmp, T_cmp2, T_tr, A_nil, A_cons, O_no, O_part, F_disp, F_comp, F_cat, F_rep, F_slc, F_list, F_sort, F_call, C_nil, C_cons, I_rng1, I_rng2, I_rng3, I_enum, I_zip, I_seq, I_rev, S_nil, S_cons, S_pass, S_set, S_setT, S_par, S_aug, S_expr, S_ret, S_retN, S_ite, S_for, S_while, S_app, S_setI, S_setS, S_ins, S_rem, S_brk, S_cont, change_some, change_none, Res.bnd_ok, Res.bnd_exc, Res.bnd_bad, Res.cnd_true, Res.cnd_false, Res.ofO_some, Res.ofO_none, Res.andB_true, Res.andB_false, Res.andB_ok, Res.orB_true, Res.orB_false, Res.orB_ok, Res.andT_true, Res.andT_false, Res.andT_ok, Res.orT_true, Res.orT_false, Res.orT_ok, SRes.sq_nx, SRes.sq_rt, SRes.sq_bk, SRes.sq_ct, SRes.sq_exc, SRes.sq_bad, Res.st_ok, Res.st_exc, Res.st_bad, SRes.cnd_true, SRes.cnd_false, Ret.close_rt, Ret.close_nx, lk_0, lk_s, List.set_cons_zero, List.set_cons_succ, List.getElem?_cons_zero, List.getElem?_cons_succ, List.length_cons, List.length_nil, List.length_map, List.length_append, List.nil_append, List.cons_append, Nat.zero_add, Nat.reduceAdd, Nat.add_zero, v_add, v_sub, v_mul, v_fdiv, v_mod, v_shl, v_pow, v_shr, v_bxor, v_cat, v_neg, v_bool, v_int, v_tup, v_loc, v_aug_add, v_own, c_eq, c_ne, c_lt, c_le, c_gt, c_ge, c_isn_non, c_isn_int, c_isn_tup, c_isn_lst, c_isnn_non, c_isnn_int, c_isnn_tup, c_isnn_lst, c_ist, c_isnt, c_eqB, c_neB, mem_tupI, mem_lstI, nmem_tupI, t_bl, t_int, t_non, t_tup, t_lst, q_tup, q_lst, q_scr, q_loc, lv_lst, lv_loc, sv_scr, sv_lst, sv_loc, ix_v, at_0, at_1, at_2, b_len, b_intB, b_int, b_boolB, b_tupT, b_tupL, b_tup_loc, b_allV, b_anyV, b_anyT, any_bm, any_im, any_b0, any_bc, any_ints, Option.some_or, bo_nil, bo_cons, bools_map, all_mapid, any_mapid, List.all_cons, List.all_nil, List.any_cons, List.any_nil, id, b_sum, b_max, b_min, b_divmod, few_ok, catL_ok, trep_ok, rep_ok, ty_non, ty_bl, ty_int, ty_str, ty_tup, ty_lst, ty_dct, ii_ii, ii_bi, ii_si, ii_ti, ii_li, ii_ni, ii_di, ii_ib, ii_bb, ii_sb, ii_tb, ii_lb, ii_nb, ii_db, ii_it, ii_bt, ii_st, ii_tt, ii_lt, ii_nt, ii_dt, bt_n, bt_t, bt_l, bs_nil, bs_cons, wipe_nil, wipe_cons, sa_nil, sa_cons, Option.bind_some, Option.bind_none, Option.map_some, Option.map_none, r_non, r_bl, r_int, r_str, r_tup, r_lst, r_scr, r_loc, ho_nil, ho_e, ho_f, ho_t, do_call, ioAt, roAt, fin_0, fin_1, fin_rob, fin_roi, fin_ron, fin_ro, fin_1r, lv_non, lv_bl, lv_int, lv_str, lv_tup, lv_lst', lv_loc', to_0, to_1, to_2, leave_eq, nl_nil, nl_int, nl_bl, nl_non, nl_str, nl_tup, nl_lst, nl_app, nl_ints, nl_rooms, nl_eR, nl_rev, ro_eR, ro_eRf, r_eR, q_eR, c_eqR, c_eqRL, c_eqRT, Bool.and_self, Bool.and_true, Bool.true_and, Bool.and_false, Bool.false_and, Bool.or_false, Bool.false_or, Bool.or_true, Bool.true_or, Bool.not_true, Bool.not_false, decide_true, decide_false, Int.cast_ofNat_Int, Int.natCast_add, Int.cast_ofNat_Int, lob_l, gu_ok, app_eq, app_ok, ins_eq, ins_ok, rem_eq, rem_ok, mem_loc, memG_rooms, c_neR, setI_eq, setI_ok, setS_eq, setS_ok, pop_eq, pop_ok, pop_1, Function.comp_apply, Int.reduceToNat, Int.reducePow, Int.reduceNeg, Int.reduceAdd, Int.reduceSub, Int.reduceMul, Int.reduceLT, Int.reduceLE, Int.reduceEq, Nat.reduceSub, Nat.reduceMul, Nat.reducePow, locksOf, st_nil, st_refl, bt_eR, ne_nil, neG_rooms, neG_rooms1, neG_nil, List.map_append, List.map_cons, List.map_nil, argsK, arrange, and_self, if_true, if_false, Bool.false_eq_true, List.map_reverse, rep1, nl_rep, pw_fold, hp_get, hp_set, rng1_ok, b__law_height, take, k']
      all_goals rfl
    · unfold Tall; omega

/-! K09 -/
theorem number (n : Nat) (i : Int) : run prog (n + 1) 7 [.int i] = rt (.bl true) := rfl
theorem is_pair (n : Nat) (r : Room) : run prog (n + 2) 8 [eR r] = rt (.bl true) := by
  rw [at__law_is_pair]
  simp -dsimp -implicitDefEqProofs (disch := (first | assumption | omega | (simp -implicitDefEqProofs only [nl_nil, nl_int, nl_bl, nl_non, nl_str, nl_tup, nl_lst, nl_app, nl_ints, nl_rooms, nl_eR, nl_parts, nl_rev, Bool.and_self, List.length_cons, List.length_nil, List.length_map, List.length_append, List.length_replicate]; done) | (simp -implicitDefEqProofs only [nl_nil, nl_int, nl_bl, nl_non, nl_str, nl_tup, nl_lst, nl_app, nl_ints, nl_rooms, nl_eR, nl_parts, nl_rev, Bool.and_self, List.length_cons, List.length_nil, List.length_map, List.length_append, List.length_replicate]; omega) | (simp -implicitDefEqProofs; done) | (simp -implicitDefEqProofs; omega))) only [E_k, E_d0, E_var, E_bin, E_neg, E_cmp, E_cmp2, E_and, E_or, E_not, E_ite, E_tup, E_idx, E_slc, E_call, E_callk, E_b1, E_b2, E_isi, E_pop, E_inl, E_mk, E_trep, E_trev, E_mink, E_mind, T_and, T_or, T_not, T_cmp, T_cmp2, T_tr, A_nil, A_cons, O_no, O_part, F_disp, F_comp, F_cat, F_rep, F_slc, F_list, F_sort, F_call, C_nil, C_cons, I_rng1, I_rng2, I_rng3, I_enum, I_zip, I_seq, I_rev, S_nil, S_cons, S_pass, S_set, S_setT, S_par, S_aug, S_expr, S_ret, S_retN, S_ite, S_for, S_while, S_app, S_setI, S_setS, S_ins, S_rem, S_brk, S_cont, change_some, change_none, Res.bnd_ok, Res.bnd_exc, Res.bnd_bad, Res.cnd_true, Res.cnd_false, Res.ofO_some, Res.ofO_none, Res.andB_true, Res.andB_false, Res.andB_ok, Res.orB_true, Res.orB_false, Res.orB_ok, Res.andT_true, Res.andT_false, Res.andT_ok, Res.orT_true, Res.orT_false, Res.orT_ok, SRes.sq_nx, SRes.sq_rt, SRes.sq_bk, SRes.sq_ct, SRes.sq_exc, SRes.sq_bad, Res.st_ok, Res.st_exc, Res.st_bad, SRes.cnd_true, SRes.cnd_false, Ret.close_rt, Ret.close_nx, lk_0, lk_s, List.set_cons_zero, List.set_cons_succ, List.getElem?_cons_zero, List.getElem?_cons_succ, List.length_cons, List.length_nil, List.length_map, List.length_append, List.nil_append, List.cons_append, Nat.zero_add, Nat.reduceAdd, Nat.add_zero, v_add, v_sub, v_mul, v_fdiv, v_mod, v_shl, v_pow, v_shr, v_bxor, v_cat, v_neg, v_bool, v_int, v_tup, v_loc, v_aug_add, v_own, c_eq, c_ne, c_lt, c_le, c_gt, c_ge, c_isn_non, c_isn_int, c_isn_tup, c_isn_lst, c_isnn_non, c_isnn_int, c_isnn_tup, c_isnn_lst, c_ist, c_isnt, c_eqB, c_neB, mem_tupI, mem_lstI, nmem_tupI, t_bl, t_int, t_non, t_tup, t_lst, q_tup, q_lst, q_scr, q_loc, lv_lst, lv_loc, sv_scr, sv_lst, sv_loc, ix_v, at_0, at_1, at_2, b_len, b_intB, b_int, b_boolB, b_tupT, b_tupL, b_tup_loc, b_allV, b_anyV, b_anyT, any_bm, any_im, any_b0, any_bc, any_ints, Option.some_or, bo_nil, bo_cons, bools_map, all_mapid, any_mapid, List.all_cons, List.all_nil, List.any_cons, List.any_nil, id, b_sum, b_max, b_min, b_divmod, few_ok, catL_ok, trep_ok, rep_ok, ty_non, ty_bl, ty_int, ty_str, ty_tup, ty_lst, ty_dct, ii_ii, ii_bi, ii_si, ii_ti, ii_li, ii_ni, ii_di, ii_ib, ii_bb, ii_sb, ii_tb, ii_lb, ii_nb, ii_db, ii_it, ii_bt, ii_st, ii_tt, ii_lt, ii_nt, ii_dt, bt_n, bt_t, bt_l, bs_nil, bs_cons, wipe_nil, wipe_cons, sa_nil, sa_cons, Option.bind_some, Option.bind_none, Option.map_some, Option.map_none, r_non, r_bl, r_int, r_str, r_tup, r_lst, r_scr, r_loc, ho_nil, ho_e, ho_f, ho_t, do_call, ioAt, roAt, fin_0, fin_1, fin_rob, fin_roi, fin_ron, fin_ro, fin_1r, lv_non, lv_bl, lv_int, lv_str, lv_tup, lv_lst', lv_loc', to_0, to_1, to_2, leave_eq, nl_nil, nl_int, nl_bl, nl_non, nl_str, nl_tup, nl_lst, nl_app, nl_ints, nl_rooms, nl_eR, nl_rev, ro_eR, ro_eRf, r_eR, q_eR, c_eqR, c_eqRL, c_eqRT, Bool.and_self, Bool.and_true, Bool.true_and, Bool.and_false, Bool.false_and, Bool.or_false, Bool.false_or, Bool.or_true, Bool.true_or, Bool.not_true, Bool.not_false, decide_true, decide_false, Int.cast_ofNat_Int, Int.natCast_add, Int.cast_ofNat_Int, lob_l, gu_ok, app_eq, app_ok, ins_eq, ins_ok, rem_eq, rem_ok, mem_loc, memG_rooms, c_neR, setI_eq, setI_ok, setS_eq, setS_ok, pop_eq, pop_ok, pop_1, Function.comp_apply, Int.reduceToNat, Int.reducePow, Int.reduceNeg, Int.reduceAdd, Int.reduceSub, Int.reduceMul, Int.reduceLT, Int.reduceLE, Int.reduceEq, Nat.reduceSub, Nat.reduceMul, Nat.reducePow, locksOf, st_nil, st_refl, bt_eR, ne_nil, neG_rooms, neG_rooms1, neG_nil, List.map_append, List.map_cons, List.map_nil, argsK, arrange, and_self, if_true, if_false, Bool.false_eq_true, List.map_reverse, rep1, nl_rep, pw_fold, hp_get, hp_set, rng1_ok, b__law_is_pair, c__law_is_pair_0, eR, turn_eq, compL, consO, number]
theorem right {t s : Int} (ht : Tall t) (n : Nat) {L : List Room} (hL : OutOk t L) : run prog (n + 4) 9 [optR (gotR t L s), .int t, .tup (L.map eR), .int s] = rt (.bl true) := by
  have f := law_got ht n (s := s) hL
  rw [at__law_right]
  unfold gotR
  cases k : gotL t L s with
  | none =>
    rw [k] at f
    have f : run prog (n + 3) 6 [.int t, .tup (L.map eR), .int s] = rt .non := f
    simp -dsimp -implicitDefEqProofs (disch := (first | assumption | omega | (simp -implicitDefEqProofs only [nl_nil, nl_int, nl_bl, nl_non, nl_str, nl_tup, nl_lst, nl_app, nl_ints, nl_rooms, nl_eR, nl_parts, nl_rev, Bool.and_self, List.length_cons, List.length_nil, List.length_map, List.length_append, List.length_replicate]; done) | (simp -implicitDefEqProofs only [nl_nil, nl_int, nl_bl, nl_non, nl_str, nl_tup, nl_lst, nl_app, nl_ints, nl_rooms, nl_eR, nl_parts, nl_rev, Bool.and_self, List.length_cons, List.length_nil, List.length_map, List.length_append, List.length_replicate]; omega) | (simp -implicitDefEqProofs; done) | (simp -implicitDefEqProofs; omega))) only [E_k, E_d0, E_var, E_bin, E_neg, E_cmp, E_cmp2, E_and, E_or, E_not, E_ite, E_tup, E_idx, E_slc, E_call, E_callk, E_b1, E_b2, E_isi, E_pop, E_inl, E_mk, E_trep, E_trev, E_mink, E_mind, T_and, T_or, T_not, T_cmp, T_cmp2, T_tr, A_nil, A_cons, O_no, O_part, F_disp, F_comp, F_cat, F_rep, F_slc, F_list, F_sort, F_call, C_nil, C_cons, I_rng1, I_rng2, I_rng3, I_enum, I_zip, I_seq, I_rev, S_nil, S_cons, S_pass, S_set, S_setT, S_par, S_aug, S_expr, S_ret, S_retN, S_ite, S_for, S_while, S_app, S_setI, S_setS, S_ins, S_rem, S_brk, S_cont, change_some, change_none, Res.bnd_ok, Res.bnd_exc, Res.bnd_bad, Res.cnd_true, Res.cnd_false, Res.ofO_some, Res.ofO_none, Res.andB_true, Res.andB_false, Res.andB_ok, Res.orB_true, Res.orB_false, Res.orB_ok, Res.andT_true, Res.andT_false, Res.andT_ok, Res.orT_true, Res.orT_false, Res.orT_ok, SRes.sq_nx, SRes.sq_rt, SRes.sq_bk, SRes.sq_ct, SRes.sq_exc, SRes.sq_bad, Res.st_ok, Res.st_exc, Res.st_bad, SRes.cnd_true, SRes.cnd_false, Ret.close_rt, Ret.close_nx, lk_0, lk_s, List.set_cons_zero, List.set_cons_succ, List.getElem?_cons_zero, List.getElem?_cons_succ, List.length_cons, List.length_nil, List.length_map, List.length_append, List.nil_append, List.cons_append, Nat.zero_add, Nat.reduceAdd, Nat.add_zero, v_add, v_sub, v_mul, v_fdiv, v_mod, v_shl, v_pow, v_shr, v_bxor, v_cat, v_neg, v_bool, v_int, v_tup, v_loc, v_aug_add, v_own, c_eq, c_ne, c_lt, c_le, c_gt, c_ge, c_isn_non, c_isn_int, c_isn_tup, c_isn_lst, c_isnn_non, c_isnn_int, c_isnn_tup, c_isnn_lst, c_ist, c_isnt, c_eqB, c_neB, mem_tupI, mem_lstI, nmem_tupI, t_bl, t_int, t_non, t_tup, t_lst, q_tup, q_lst, q_scr, q_loc, lv_lst, lv_loc, sv_scr, sv_lst, sv_loc, ix_v, at_0, at_1, at_2, b_len, b_intB, b_int, b_boolB, b_tupT, b_tupL, b_tup_loc, b_allV, b_anyV, b_anyT, any_bm, any_im, any_b0, any_bc, any_ints, Option.some_or, bo_nil, bo_cons, bools_map, all_mapid, any_mapid, List.all_cons, List.all_nil, List.any_cons, List.any_nil, id, b_sum, b_max, b_min, b_divmod, few_ok, catL_ok, trep_ok, rep_ok, ty_non, ty_bl, ty_int, ty_str, ty_tup, ty_lst, ty_dct, ii_ii, ii_bi, ii_si, ii_ti, ii_li, ii_ni, ii_di, ii_ib, ii_bb, ii_sb, ii_tb, ii_lb, ii_nb, ii_db, ii_it, ii_bt, ii_st, ii_tt, ii_lt, ii_nt, ii_dt, bt_n, bt_t, bt_l, bs_nil, bs_cons, wipe_nil, wipe_cons, sa_nil, sa_cons, Option.bind_some, Option.bind_none, Option.map_some, Option.map_none, r_non, r_bl, r_int, r_str, r_tup, r_lst, r_scr, r_loc, ho_nil, ho_e, ho_f, ho_t, do_call, ioAt, roAt, fin_0, fin_1, fin_rob, fin_roi, fin_ron, fin_ro, fin_1r, lv_non, lv_bl, lv_int, lv_str, lv_tup, lv_lst', lv_loc', to_0, to_1, to_2, leave_eq, nl_nil, nl_int, nl_bl, nl_non, nl_str, nl_tup, nl_lst, nl_app, nl_ints, nl_rooms, nl_eR, nl_rev, ro_eR, ro_eRf, r_eR, q_eR, c_eqR, c_eqRL, c_eqRT, Bool.and_self, Bool.and_true, Bool.true_and, Bool.and_false, Bool.false_and, Bool.or_false, Bool.false_or, Bool.or_true, Bool.true_or, Bool.not_true, Bool.not_false, decide_true, decide_false, Int.cast_ofNat_Int, Int.natCast_add, Int.cast_ofNat_Int, lob_l, gu_ok, app_eq, app_ok, ins_eq, ins_ok, rem_eq, rem_ok, mem_loc, memG_rooms, c_neR, setI_eq, setI_ok, setS_eq, setS_ok, pop_eq, pop_ok, pop_1, Function.comp_apply, Int.reduceToNat, Int.reducePow, Int.reduceNeg, Int.reduceAdd, Int.reduceSub, Int.reduceMul, Int.reduceLT, Int.reduceLE, Int.reduceEq, Nat.reduceSub, Nat.reduceMul, Nat.reducePow, locksOf, st_nil, st_refl, bt_eR, ne_nil, neG_rooms, neG_rooms1, neG_nil, List.map_append, List.map_cons, List.map_nil, argsK, arrange, and_self, if_true, if_false, Bool.false_eq_true, List.map_reverse, rep1, nl_rep, pw_fold, hp_get, hp_set, rng1_ok, b__law_right, f, Option.map, optR]
  | some r =>
    rw [k] at f
    have f : run prog (n + 3) 6 [.int t, .tup (L.map eR), .int s] = rt (eR r) := f
    have c1 : ∀ h : Heap, cmpV h .isn (eR r) .non = some false := fun h => rfl
    have c2 : (.tup [.int r.1, .int s] : Val) = eR (r.1, s) := rfl
    simp -dsimp -implicitDefEqProofs (disch := (first | assumption | omega | (simp -implicitDefEqProofs only [nl_nil, nl_int, nl_bl, nl_non, nl_str, nl_tup, nl_lst, nl_app, nl_ints, nl_rooms, nl_eR, nl_parts, nl_rev, Bool.and_self, List.length_cons, List.length_nil, List.length_map, List.length_append, List.length_replicate]; done) | (simp -implicitDefEqProofs only [nl_nil, nl_int, nl_bl, nl_non, nl_str, nl_tup, nl_lst, nl_app, nl_ints, nl_rooms, nl_eR, nl_parts, nl_rev, Bool.and_self, List.length_cons, List.length_nil, List.length_map, List.length_append, List.length_replicate]; omega) | (simp -implicitDefEqProofs; done) | (simp -implicitDefEqProofs; omega))) only [E_k, E_d0, E_var, E_bin, E_neg, E_cmp, E_cmp2, E_and, E_or, E_not, E_ite, E_tup, E_idx, E_slc, E_call, E_callk, E_b1, E_b2, E_isi, E_pop, E_inl, E_mk, E_trep, E_trev, E_mink, E_mind, T_and, T_or, T_not, T_cmp, T_cmp2, T_tr, A_nil, A_cons, O_no, O_part, F_disp, F_comp, F_cat, F_rep, F_slc, F_list, F_sort, F_call, C_nil, C_cons, I_rng1, I_rng2, I_rng3, I_enum, I_zip, I_seq, I_rev, S_nil, S_cons, S_pass, S_set, S_setT, S_par, S_aug, S_expr, S_ret, S_retN, S_ite, S_for, S_while, S_app, S_setI, S_setS, S_ins, S_rem, S_brk, S_cont, change_some, change_none, Res.bnd_ok, Res.bnd_exc, Res.bnd_bad, Res.cnd_true, Res.cnd_false, Res.ofO_some, Res.ofO_none, Res.andB_true, Res.andB_false, Res.andB_ok, Res.orB_true, Res.orB_false, Res.orB_ok, Res.andT_true, Res.andT_false, Res.andT_ok, Res.orT_true, Res.orT_false, Res.orT_ok, SRes.sq_nx, SRes.sq_rt, SRes.sq_bk, SRes.sq_ct, SRes.sq_exc, SRes.sq_bad, Res.st_ok, Res.st_exc, Res.st_bad, SRes.cnd_true, SRes.cnd_false, Ret.close_rt, Ret.close_nx, lk_0, lk_s, List.set_cons_zero, List.set_cons_succ, List.getElem?_cons_zero, List.getElem?_cons_succ, List.length_cons, List.length_nil, List.length_map, List.length_append, List.nil_append, List.cons_append, Nat.zero_add, Nat.reduceAdd, Nat.add_zero, v_add, v_sub, v_mul, v_fdiv, v_mod, v_shl, v_pow, v_shr, v_bxor, v_cat, v_neg, v_bool, v_int, v_tup, v_loc, v_aug_add, v_own, c_eq, c_ne, c_lt, c_le, c_gt, c_ge, c_isn_non, c_isn_int, c_isn_tup, c_isn_lst, c_isnn_non, c_isnn_int, c_isnn_tup, c_isnn_lst, c_ist, c_isnt, c_eqB, c_neB, mem_tupI, mem_lstI, nmem_tupI, t_bl, t_int, t_non, t_tup, t_lst, q_tup, q_lst, q_scr, q_loc, lv_lst, lv_loc, sv_scr, sv_lst, sv_loc, ix_v, at_0, at_1, at_2, b_len, b_intB, b_int, b_boolB, b_tupT, b_tupL, b_tup_loc, b_allV, b_anyV, b_anyT, any_bm, any_im, any_b0, any_bc, any_ints, Option.some_or, bo_nil, bo_cons, bools_map, all_mapid, any_mapid, List.all_cons, List.all_nil, List.any_cons, List.any_nil, id, b_sum, b_max, b_min, b_divmod, few_ok, catL_ok, trep_ok, rep_ok, ty_non, ty_bl, ty_int, ty_str, ty_tup, ty_lst, ty_dct, ii_ii, ii_bi, ii_si, ii_ti, ii_li, ii_ni, ii_di, ii_ib, ii_bb, ii_sb, ii_tb, ii_lb, ii_nb, ii_db, ii_it, ii_bt, ii_st, ii_tt, ii_lt, ii_nt, ii_dt, bt_n, bt_t, bt_l, bs_nil, bs_cons, wipe_nil, wipe_cons, sa_nil, sa_cons, Option.bind_some, Option.bind_none, Option.map_some, Option.map_none, r_non, r_bl, r_int, r_str, r_tup, r_lst, r_scr, r_loc, ho_nil, ho_e, ho_f, ho_t, do_call, ioAt, roAt, fin_0, fin_1, fin_rob, fin_roi, fin_ron, fin_ro, fin_1r, lv_non, lv_bl, lv_int, lv_str, lv_tup, lv_lst', lv_loc', to_0, to_1, to_2, leave_eq, nl_nil, nl_int, nl_bl, nl_non, nl_str, nl_tup, nl_lst, nl_app, nl_ints, nl_rooms, nl_eR, nl_rev, ro_eR, ro_eRf, r_eR, q_eR, c_eqR, c_eqRL, c_eqRT, Bool.and_self, Bool.and_true, Bool.true_and, Bool.and_false, Bool.false_and, Bool.or_false, Bool.false_or, Bool.or_true, Bool.true_or, Bool.not_true, Bool.not_false, decide_true, decide_false, Int.cast_ofNat_Int, Int.natCast_add, Int.cast_ofNat_Int, lob_l, gu_ok, app_eq, app_ok, ins_eq, ins_ok, rem_eq, rem_ok, mem_loc, memG_rooms, c_neR, setI_eq, setI_ok, setS_eq, setS_ok, pop_eq, pop_ok, pop_1, Function.comp_apply, Int.reduceToNat, Int.reducePow, Int.reduceNeg, Int.reduceAdd, Int.reduceSub, Int.reduceMul, Int.reduceLT, Int.reduceLE, Int.reduceEq, Nat.reduceSub, Nat.reduceMul, Nat.reducePow, locksOf, st_nil, st_refl, bt_eR, ne_nil, neG_rooms, neG_rooms1, neG_nil, List.map_append, List.map_cons, List.map_nil, argsK, arrange, and_self, if_true, if_false, Bool.false_eq_true, List.map_reverse, rep1, nl_rep, pw_fold, hp_get, hp_set, rng1_ok, b__law_right, f, Option.map, optR, c1, c2, is_pair, q_eR]
    all_goals simp [c_eqR]
theorem spans_c {t : Int} (ht : Tall t) {cb : CB} {x0 x1 x2 x3 : Option Val} {h : Heap} : evalF [] cb [some (.int t), x1, x2, x3, none] c__law_all_right_0 h = .ok ((szs t).map .int) h := by
  rcases ht with rfl | rfl | rfl | rfl | rfl <;> rfl
theorem all_right {t : Int} (ht : Tall t) (n : Nat) {L M : List Room} (hL : OutOk t L) (hM : OutOk t M) : run prog (n + 12) 28 [.int t, .tup (L.map eR), .tup (M.map eR)] = rt (.bl true) := by
  rw [at__law_all_right]
  have hc := fun {cb : CB} {h : Heap} => spans_c ht (cb := cb) (x0 := none) (x1 := some (.tup (L.map eR))) (x2 := some (.tup (M.map eR))) (x3 := none) (h := h)
  obtain ⟨e, h', f1, rfl, x3, rfl⟩ := for_inv (bd := evalS [] (run prog (n + 11)) l__law_all_right_0) (tg := .n 3) (lock := []) (h0 := []) (fun env h => h = [] ∧ ∃ x3, env = [some (.int t), some (.tup (L.map eR)), some (.tup (M.map eR)), x3, none]) (l := (szs t).map .int) (fun x hx env h i => by
    obtain ⟨rfl, x3, rfl⟩ := i
    obtain ⟨s, hs, rfl⟩ := List.mem_map.mp hx
    refine ⟨_, [some (.int t), some (.tup (L.map eR)), some (.tup (M.map eR)), some (.int s), none], [], rfl, .inl ?_, st_nil, rfl, _, rfl⟩
    have r1 := right ht (n + 7) (s := s) hL
    have r2 := right ht (n + 7) (s := s) hM
    have q1 := room_for ht n hL hs
    have q2 := room_for ht n hM hs
    have nl : ∀ o : Option Room, (optR o).noLoc = true := fun o => by cases o <;> rfl
    have rs : ∀ (h : Heap) (o : Option Room), res h (optR o) = some (optR o) := fun h o => by cases o <;> rfl
    simp -dsimp -implicitDefEqProofs (disch := (first | assumption | omega | (simp -implicitDefEqProofs only [nl_nil, nl_int, nl_bl, nl_non, nl_str, nl_tup, nl_lst, nl_app, nl_ints, nl_rooms, nl_eR, nl_parts, nl_rev, Bool.and_self, List.length_cons, List.length_nil, List.length_map, List.length_append, List.length_replicate]; done) | (simp -implicitDefEqProofs only [nl_nil, nl_int, nl_bl, nl_non, nl_str, nl_tup, nl_lst, nl_app, nl_ints, nl_rooms, nl_eR, nl_parts, nl_rev, Bool.and_self, List.length_cons, List.length_nil, List.length_map, List.length_append, List.length_replicate]; omega) | (simp -implicitDefEqProofs; done) | (simp -implicitDefEqProofs; omega))) only [E_k, E_d0, E_var, E_bin, E_neg, E_cmp, E_cmp2, E_and, E_or, E_not, E_ite, E_tup, E_idx, E_slc, E_call, E_callk, E_b1, E_b2, E_isi, E_pop, E_inl, E_mk, E_trep, E_trev, E_mink, E_mind, T_and, T_or, T_not, T_cmp, T_cmp2, T_tr, A_nil, A_cons, O_no, O_part, F_disp, F_comp, F_cat, F_rep, F_slc, F_list, F_sort, F_call, C_nil, C_cons, I_rng1, I_rng2, I_rng3, I_enum, I_zip, I_seq, I_rev, S_nil, S_cons, S_pass, S_set, S_setT, S_par, S_aug, S_expr, S_ret, S_retN, S_ite, S_for, S_while, S_app, S_setI, S_setS, S_ins, S_rem, S_brk, S_cont, change_some, change_none, Res.bnd_ok, Res.bnd_exc, Res.bnd_bad, Res.cnd_true, Res.cnd_false, Res.ofO_some, Res.ofO_none, Res.andB_true, Res.andB_false, Res.andB_ok, Res.orB_true, Res.orB_false, Res.orB_ok, Res.andT_true, Res.andT_false, Res.andT_ok, Res.orT_true, Res.orT_false, Res.orT_ok, SRes.sq_nx, SRes.sq_rt, SRes.sq_bk, SRes.sq_ct, SRes.sq_exc, SRes.sq_bad, Res.st_ok, Res.st_exc, Res.st_bad, SRes.cnd_true, SRes.cnd_false, Ret.close_rt, Ret.close_nx, lk_0, lk_s, List.set_cons_zero, List.set_cons_succ, List.getElem?_cons_zero, List.getElem?_cons_succ, List.length_cons, List.length_nil, List.length_map, List.length_append, List.nil_append, List.cons_append, Nat.zero_add, Nat.reduceAdd, Nat.add_zero, v_add, v_sub, v_mul, v_fdiv, v_mod, v_shl, v_pow, v_shr, v_bxor, v_cat, v_neg, v_bool, v_int, v_tup, v_loc, v_aug_add, v_own, c_eq, c_ne, c_lt, c_le, c_gt, c_ge, c_isn_non, c_isn_int, c_isn_tup, c_isn_lst, c_isnn_non, c_isnn_int, c_isnn_tup, c_isnn_lst, c_ist, c_isnt, c_eqB, c_neB, mem_tupI, mem_lstI, nmem_tupI, t_bl, t_int, t_non, t_tup, t_lst, q_tup, q_lst, q_scr, q_loc, lv_lst, lv_loc, sv_scr, sv_lst, sv_loc, ix_v, at_0, at_1, at_2, b_len, b_intB, b_int, b_boolB, b_tupT, b_tupL, b_tup_loc, b_allV, b_anyV, b_anyT, any_bm, any_im, any_b0, any_bc, any_ints, Option.some_or, bo_nil, bo_cons, bools_map, all_mapid, any_mapid, List.all_cons, List.all_nil, List.any_cons, List.any_nil, id, b_sum, b_max, b_min, b_divmod, few_ok, catL_ok, trep_ok, rep_ok, ty_non, ty_bl, ty_int, ty_str, ty_tup, ty_lst, ty_dct, ii_ii, ii_bi, ii_si, ii_ti, ii_li, ii_ni, ii_di, ii_ib, ii_bb, ii_sb, ii_tb, ii_lb, ii_nb, ii_db, ii_it, ii_bt, ii_st, ii_tt, ii_lt, ii_nt, ii_dt, bt_n, bt_t, bt_l, bs_nil, bs_cons, wipe_nil, wipe_cons, sa_nil, sa_cons, Option.bind_some, Option.bind_none, Option.map_some, Option.map_none, r_non, r_bl, r_int, r_str, r_tup, r_lst, r_scr, r_loc, ho_nil, ho_e, ho_f, ho_t, do_call, ioAt, roAt, fin_0, fin_1, fin_rob, fin_roi, fin_ron, fin_ro, fin_1r, lv_non, lv_bl, lv_int, lv_str, lv_tup, lv_lst', lv_loc', to_0, to_1, to_2, leave_eq, nl_nil, nl_int, nl_bl, nl_non, nl_str, nl_tup, nl_lst, nl_app, nl_ints, nl_rooms, nl_eR, nl_rev, ro_eR, ro_eRf, r_eR, q_eR, c_eqR, c_eqRL, c_eqRT, Bool.and_self, Bool.and_true, Bool.true_and, Bool.and_false, Bool.false_and, Bool.or_false, Bool.false_or, Bool.or_true, Bool.true_or, Bool.not_true, Bool.not_false, decide_true, decide_false, Int.cast_ofNat_Int, Int.natCast_add, Int.cast_ofNat_Int, lob_l, gu_ok, app_eq, app_ok, ins_eq, ins_ok, rem_eq, rem_ok, mem_loc, memG_rooms, c_neR, setI_eq, setI_ok, setS_eq, setS_ok, pop_eq, pop_ok, pop_1, Function.comp_apply, Int.reduceToNat, Int.reducePow, Int.reduceNeg, Int.reduceAdd, Int.reduceSub, Int.reduceMul, Int.reduceLT, Int.reduceLE, Int.reduceEq, Nat.reduceSub, Nat.reduceMul, Nat.reducePow, locksOf, st_nil, st_refl, bt_eR, ne_nil, neG_rooms, neG_rooms1, neG_nil, List.map_append, List.map_cons, List.map_nil, argsK, arrange, and_self, if_true, if_false, Bool.false_eq_true, List.map_reverse, rep1, nl_rep, pw_fold, hp_get, hp_set, rng1_ok, l__law_all_right_0, q1, q2, r1, r2, rs]) [some (.int t), some (.tup (L.map eR)), some (.tup (M.map eR)), none, none] [] ⟨rfl, none, rfl⟩
  simp -dsimp -implicitDefEqProofs (disch := (first | assumption | omega | (simp -implicitDefEqProofs only [nl_nil, nl_int, nl_bl, nl_non, nl_str, nl_tup, nl_lst, nl_app, nl_ints, nl_rooms, nl_eR, nl_parts, nl_rev, Bool.and_self, List.length_cons, List.length_nil, List.length_map, List.length_append, List.length_replicate]; done) | (simp -implicitDefEqProofs only [nl_nil, nl_int, nl_bl, nl_non, nl_str, nl_tup, nl_lst, nl_app, nl_ints, nl_rooms, nl_eR, nl_parts, nl_rev, Bool.and_self, List.length_cons, List.length_nil, List.length_map, List.length_append, List.length_replicate]; omega) | (simp -implicitDefEqProofs; done) | (simp -implicitDefEqProofs; omega))) only [E_k, E_d0, E_var, E_bin, E_neg, E_cmp, E_cmp2, E_and, E_or, E_not, E_ite, E_tup, E_idx, E_slc, E_call, E_callk, E_b1, E_b2, E_isi, E_pop, E_inl, E_mk, E_trep, E_trev, E_mink, E_mind, T_and, T_or, T_not, T_cmp, T_cmp2, T_tr, A_nil, A_cons, O_no, O_part, F_disp, F_comp, F_cat, F_rep, F_slc, F_list, F_sort, F_call, C_nil, C_cons, I_rng1, I_rng2, I_rng3, I_enum, I_zip, I_seq, I_rev, S_nil, S_cons, S_pass, S_set, S_setT, S_par, S_aug, S_expr, S_ret, S_retN, S_ite, S_for, S_while, S_app, S_setI, S_setS, S_ins, S_rem, S_brk, S_cont, change_some, change_none, Res.bnd_ok, Res.bnd_exc, Res.bnd_bad, Res.cnd_true, Res.cnd_false, Res.ofO_some, Res.ofO_none, Res.andB_true, Res.andB_false, Res.andB_ok, Res.orB_true, Res.orB_false, Res.orB_ok, Res.andT_true, Res.andT_false, Res.andT_ok, Res.orT_true, Res.orT_false, Res.orT_ok, SRes.sq_nx, SRes.sq_rt, SRes.sq_bk, SRes.sq_ct, SRes.sq_exc, SRes.sq_bad, Res.st_ok, Res.st_exc, Res.st_bad, SRes.cnd_true, SRes.cnd_false, Ret.close_rt, Ret.close_nx, lk_0, lk_s, List.set_cons_zero, List.set_cons_succ, List.getElem?_cons_zero, List.getElem?_cons_succ, List.length_cons, List.length_nil, List.length_map, List.length_append, List.nil_append, List.cons_append, Nat.zero_add, Nat.reduceAdd, Nat.add_zero, v_add, v_sub, v_mul, v_fdiv, v_mod, v_shl, v_pow, v_shr, v_bxor, v_cat, v_neg, v_bool, v_int, v_tup, v_loc, v_aug_add, v_own, c_eq, c_ne, c_lt, c_le, c_gt, c_ge, c_isn_non, c_isn_int, c_isn_tup, c_isn_lst, c_isnn_non, c_isnn_int, c_isnn_tup, c_isnn_lst, c_ist, c_isnt, c_eqB, c_neB, mem_tupI, mem_lstI, nmem_tupI, t_bl, t_int, t_non, t_tup, t_lst, q_tup, q_lst, q_scr, q_loc, lv_lst, lv_loc, sv_scr, sv_lst, sv_loc, ix_v, at_0, at_1, at_2, b_len, b_intB, b_int, b_boolB, b_tupT, b_tupL, b_tup_loc, b_allV, b_anyV, b_anyT, any_bm, any_im, any_b0, any_bc, any_ints, Option.some_or, bo_nil, bo_cons, bools_map, all_mapid, any_mapid, List.all_cons, List.all_nil, List.any_cons, List.any_nil, id, b_sum, b_max, b_min, b_divmod, few_ok, catL_ok, trep_ok, rep_ok, ty_non, ty_bl, ty_int, ty_str, ty_tup, ty_lst, ty_dct, ii_ii, ii_bi, ii_si, ii_ti, ii_li, ii_ni, ii_di, ii_ib, ii_bb, ii_sb, ii_tb, ii_lb, ii_nb, ii_db, ii_it, ii_bt, ii_st, ii_tt, ii_lt, ii_nt, ii_dt, bt_n, bt_t, bt_l, bs_nil, bs_cons, wipe_nil, wipe_cons, sa_nil, sa_cons, Option.bind_some, Option.bind_none, Option.map_some, Option.map_none, r_non, r_bl, r_int, r_str, r_tup, r_lst, r_scr, r_loc, ho_nil, ho_e, ho_f, ho_t, do_call, ioAt, roAt, fin_0, fin_1, fin_rob, fin_roi, fin_ron, fin_ro, fin_1r, lv_non, lv_bl, lv_int, lv_str, lv_tup, lv_lst', lv_loc', to_0, to_1, to_2, leave_eq, nl_nil, nl_int, nl_bl, nl_non, nl_str, nl_tup, nl_lst, nl_app, nl_ints, nl_rooms, nl_eR, nl_rev, ro_eR, ro_eRf, r_eR, q_eR, c_eqR, c_eqRL, c_eqRT, Bool.and_self, Bool.and_true, Bool.true_and, Bool.and_false, Bool.false_and, Bool.or_false, Bool.false_or, Bool.or_true, Bool.true_or, Bool.not_true, Bool.not_false, decide_true, decide_false, Int.cast_ofNat_Int, Int.natCast_add, Int.cast_ofNat_Int, lob_l, gu_ok, app_eq, app_ok, ins_eq, ins_ok, rem_eq, rem_ok, mem_loc, memG_rooms, c_neR, setI_eq, setI_ok, setS_eq, setS_ok, pop_eq, pop_ok, pop_1, Function.comp_apply, Int.reduceToNat, Int.reducePow, Int.reduceNeg, Int.reduceAdd, Int.reduceSub, Int.reduceMul, Int.reduceLT, Int.reduceLE, Int.reduceEq, Nat.reduceSub, Nat.reduceMul, Nat.reducePow, locksOf, st_nil, st_refl, bt_eR, ne_nil, neG_rooms, neG_rooms1, neG_nil, List.map_append, List.map_cons, List.map_nil, argsK, arrange, and_self, if_true, if_false, Bool.false_eq_true, List.map_reverse, rep1, nl_rep, pw_fold, hp_get, hp_set, rng1_ok, b__law_all_right, hc, f1]
theorem out_whole {t : Int} (ht : Tall t) : OutOk t [(0, pw t)] := ⟨fun r hr => by rw [List.mem_singleton.mp hr]; exact Valid.whole ht, by simp⟩
theorem law_turn (n : Nat) {ns : List Int} (hn : ns.length ≤ 63) {k : Int} (h0 : 0 ≤ k) (h1 : k ≤ 63) (h : Heap) (z2 z3 z4 z5 : Option Val) :
    ∃ (y2 y3 y4 y5 : Option Val) (h' : Heap), evalS [] (run prog (n + 12)) l_law_0 [some (.scr (ns.map .int)), some (.int k), z2, z3, z4, z5] h = .ok (.nx [some (.scr (ns.map .int)), some (.int k), y2, y3, y4, y5]) h' := by
  obtain ⟨a, c, hp⟩ := purse (n + 11) hn h0 h1
  obtain ⟨t, a1, c1, ht, hh⟩ := height (n + 10) (a := a) (c := c)
  have hb := ht.bd
  obtain ⟨a2, c2, L, hr, hL⟩ := rooms (n + 10) (a := a1) (c := c1) ht
  obtain ⟨a3, c3, M, hm, hM⟩ := rooms (n + 10) (a := a2) (c := c2) ht
  have r1 := all_right ht n hL hM
  have r2 := all_right ht n (L := []) OutOk.nil (out_whole ht)
  have e0 : (.tup [.tup [.int 0, .int (pw t)]] : Val) = .tup ([(0, pw t)].map eR) := rfl
  have e1 : (.tup [] : Val) = .tup (([] : List Room).map eR) := rfl
  have r2 : run prog (n + 12) 28 [.int t, .tup [], .tup [.tup [.int 0, .int (pw t)]]] = rt (.bl true) := r2
  refine ⟨some (.loc h.length), some (.int t), some (.tup (L.map eR)), some (.tup (M.map eR)), h ++ [.list [.int a3, .int c3]], ?_⟩
  simp -dsimp -implicitDefEqProofs (disch := (first | assumption | omega | (simp -implicitDefEqProofs only [nl_nil, nl_int, nl_bl, nl_non, nl_str, nl_tup, nl_lst, nl_app, nl_ints, nl_rooms, nl_eR, nl_parts, nl_rev, Bool.and_self, List.length_cons, List.length_nil, List.length_map, List.length_append, List.length_replicate]; done) | (simp -implicitDefEqProofs only [nl_nil, nl_int, nl_bl, nl_non, nl_str, nl_tup, nl_lst, nl_app, nl_ints, nl_rooms, nl_eR, nl_parts, nl_rev, Bool.and_self, List.length_cons, List.length_nil, List.length_map, List.length_append, List.length_replicate]; omega) | (simp -implicitDefEqProofs; done) | (simp -implicitDefEqProofs; omega))) only [E_k, E_d0, E_var, E_bin, E_neg, E_cmp, E_cmp2, E_and, E_or, E_not, E_ite, E_tup, E_idx, E_slc, E_call, E_callk, E_b1, E_b2, E_isi, E_pop, E_inl, E_mk, E_trep, E_trev, E_mink, E_mind, T_and, T_or, T_not, T_cmp, T_cmp2, T_tr, A_nil, A_cons, O_no, O_part, F_disp, F_comp, F_cat, F_rep, F_slc, F_list, F_sort, F_call, C_nil, C_cons, I_rng1, I_rng2, I_rng3, I_enum, I_zip, I_seq, I_rev, S_nil, S_cons, S_pass, S_set, S_setT, S_par, S_aug, S_expr, S_ret, S_retN, S_ite, S_for, S_while, S_app, S_setI, S_setS, S_ins, S_rem, S_brk, S_cont, change_some, change_none, Res.bnd_ok, Res.bnd_exc, Res.bnd_bad, Res.cnd_true, Res.cnd_false, Res.ofO_some, Res.ofO_none, Res.andB_true, Res.andB_false, Res.andB_ok, Res.orB_true, Res.orB_false, Res.orB_ok, Res.andT_true, Res.andT_false, Res.andT_ok, Res.orT_true, Res.orT_false, Res.orT_ok, SRes.sq_nx, SRes.sq_rt, SRes.sq_bk, SRes.sq_ct, SRes.sq_exc, SRes.sq_bad, Res.st_ok, Res.st_exc, Res.st_bad, SRes.cnd_true, SRes.cnd_false, Ret.close_rt, Ret.close_nx, lk_0, lk_s, List.set_cons_zero, List.set_cons_succ, List.getElem?_cons_zero, List.getElem?_cons_succ, List.length_cons, List.length_nil, List.length_map, List.length_append, List.nil_append, List.cons_append, Nat.zero_add, Nat.reduceAdd, Nat.add_zero, v_add, v_sub, v_mul, v_fdiv, v_mod, v_shl, v_pow, v_shr, v_bxor, v_cat, v_neg, v_bool, v_int, v_tup, v_loc, v_aug_add, v_own, c_eq, c_ne, c_lt, c_le, c_gt, c_ge, c_isn_non, c_isn_int, c_isn_tup, c_isn_lst, c_isnn_non, c_isnn_int, c_isnn_tup, c_isnn_lst, c_ist, c_isnt, c_eqB, c_neB, mem_tupI, mem_lstI, nmem_tupI, t_bl, t_int, t_non, t_tup, t_lst, q_tup, q_lst, q_scr, q_loc, lv_lst, lv_loc, sv_scr, sv_lst, sv_loc, ix_v, at_0, at_1, at_2, b_len, b_intB, b_int, b_boolB, b_tupT, b_tupL, b_tup_loc, b_allV, b_anyV, b_anyT, any_bm, any_im, any_b0, any_bc, any_ints, Option.some_or, bo_nil, bo_cons, bools_map, all_mapid, any_mapid, List.all_cons, List.all_nil, List.any_cons, List.any_nil, id, b_sum, b_max, b_min, b_divmod, few_ok, catL_ok, trep_ok, rep_ok, ty_non, ty_bl, ty_int, ty_str, ty_tup, ty_lst, ty_dct, ii_ii, ii_bi, ii_si, ii_ti, ii_li, ii_ni, ii_di, ii_ib, ii_bb, ii_sb, ii_tb, ii_lb, ii_nb, ii_db, ii_it, ii_bt, ii_st, ii_tt, ii_lt, ii_nt, ii_dt, bt_n, bt_t, bt_l, bs_nil, bs_cons, wipe_nil, wipe_cons, sa_nil, sa_cons, Option.bind_some, Option.bind_none, Option.map_some, Option.map_none, r_non, r_bl, r_int, r_str, r_tup, r_lst, r_scr, r_loc, ho_nil, ho_e, ho_f, ho_t, do_call, ioAt, roAt, fin_0, fin_1, fin_rob, fin_roi, fin_ron, fin_ro, fin_1r, lv_non, lv_bl, lv_int, lv_str, lv_tup, lv_lst', lv_loc', to_0, to_1, to_2, leave_eq, nl_nil, nl_int, nl_bl, nl_non, nl_str, nl_tup, nl_lst, nl_app, nl_ints, nl_rooms, nl_eR, nl_rev, ro_eR, ro_eRf, r_eR, q_eR, c_eqR, c_eqRL, c_eqRT, Bool.and_self, Bool.and_true, Bool.true_and, Bool.and_false, Bool.false_and, Bool.or_false, Bool.false_or, Bool.or_true, Bool.true_or, Bool.not_true, Bool.not_false, decide_true, decide_false, Int.cast_ofNat_Int, Int.natCast_add, Int.cast_ofNat_Int, lob_l, gu_ok, app_eq, app_ok, ins_eq, ins_ok, rem_eq, rem_ok, mem_loc, memG_rooms, c_neR, setI_eq, setI_ok, setS_eq, setS_ok, pop_eq, pop_ok, pop_1, Function.comp_apply, Int.reduceToNat, Int.reducePow, Int.reduceNeg, Int.reduceAdd, Int.reduceSub, Int.reduceMul, Int.reduceLT, Int.reduceLE, Int.reduceEq, Nat.reduceSub, Nat.reduceMul, Nat.reducePow, locksOf, st_nil, st_refl, bt_eR, ne_nil, neG_rooms, neG_rooms1, neG_nil, List.map_append, List.map_cons, List.map_nil, argsK, arrange, and_self, if_true, if_false, Bool.false_eq_true, List.map_reverse, rep1, nl_rep, pw_fold, hp_get, hp_set, rng1_ok, l_law_0, hp, hh, hr, hm, r1, r2]
theorem run_ok (ns : List Int) (hn : ns.length ≤ 63) : MP.run prog 13 29 [.scr (ns.map .int)] = .ret ⟨.bl true, false, []⟩ := by
  rw [show (13 : Nat) = 12 + 1 from rfl, at_law]
  obtain ⟨e, h', f1, z1, z2, z3, z4, z5, rfl, _⟩ := for_rest (bd := evalS [] (run prog 12) l_law_0) (tg := .n 1) (lock := []) (h0 := []) (f := fun (i : Nat) => Val.int i)
    (fun R env h => ∃ z1 z2 z3 z4 z5 : Option Val, env = [some (.scr (ns.map .int)), z1, z2, z3, z4, z5] ∧ ∀ r ∈ R, r ≤ 63)
    (fun r R env h i => by
      obtain ⟨z1, z2, z3, z4, z5, rfl, hr⟩ := i
      have hr1 := hr r List.mem_cons_self
      obtain ⟨y2, y3, y4, y5, h', e1⟩ := law_turn 0 hn (k := (r : Int)) (by omega) (by omega) h z2 z3 z4 z5
      exact ⟨_, _, _, rfl, .inl e1, st_nil, _, _, _, _, _, rfl, fun x hx => hr x (List.mem_cons_of_mem _ hx)⟩)
    (L := List.range (max 2 (min 4 (ns.length : Int))).toNat) (env := [some (.scr (ns.map .int)), none, none, none, none, none]) (h := []) ⟨none, none, none, none, none, rfl, fun r hr => by have := List.mem_range.mp hr; omega⟩
  simp -dsimp -implicitDefEqProofs (disch := (first | assumption | omega | (simp -implicitDefEqProofs only [nl_nil, nl_int, nl_bl, nl_non, nl_str, nl_tup, nl_lst, nl_app, nl_ints, nl_rooms, nl_eR, nl_parts, nl_rev, Bool.and_self, List.length_cons, List.length_nil, List.length_map, List.length_append, List.length_replicate]; done) | (simp -implicitDefEqProofs only [nl_nil, nl_int, nl_bl, nl_non, nl_str, nl_tup, nl_lst, nl_app, nl_ints, nl_rooms, nl_eR, nl_parts, nl_rev, Bool.and_self, List.length_cons, List.length_nil, List.length_map, List.length_append, List.length_replicate]; omega) | (simp -implicitDefEqProofs; done) | (simp -implicitDefEqProofs; omega))) only [E_k, E_d0, E_var, E_bin, E_neg, E_cmp, E_cmp2, E_and, E_or, E_not, E_ite, E_tup, E_idx, E_slc, E_call, E_callk, E_b1, E_b2, E_isi, E_pop, E_inl, E_mk, E_trep, E_trev, E_mink, E_mind, T_and, T_or, T_not, T_cmp, T_cmp2, T_tr, A_nil, A_cons, O_no, O_part, F_disp, F_comp, F_cat, F_rep, F_slc, F_list, F_sort, F_call, C_nil, C_cons, I_rng1, I_rng2, I_rng3, I_enum, I_zip, I_seq, I_rev, S_nil, S_cons, S_pass, S_set, S_setT, S_par, S_aug, S_expr, S_ret, S_retN, S_ite, S_for, S_while, S_app, S_setI, S_setS, S_ins, S_rem, S_brk, S_cont, change_some, change_none, Res.bnd_ok, Res.bnd_exc, Res.bnd_bad, Res.cnd_true, Res.cnd_false, Res.ofO_some, Res.ofO_none, Res.andB_true, Res.andB_false, Res.andB_ok, Res.orB_true, Res.orB_false, Res.orB_ok, Res.andT_true, Res.andT_false, Res.andT_ok, Res.orT_true, Res.orT_false, Res.orT_ok, SRes.sq_nx, SRes.sq_rt, SRes.sq_bk, SRes.sq_ct, SRes.sq_exc, SRes.sq_bad, Res.st_ok, Res.st_exc, Res.st_bad, SRes.cnd_true, SRes.cnd_false, Ret.close_rt, Ret.close_nx, lk_0, lk_s, List.set_cons_zero, List.set_cons_succ, List.getElem?_cons_zero, List.getElem?_cons_succ, List.length_cons, List.length_nil, List.length_map, List.length_append, List.nil_append, List.cons_append, Nat.zero_add, Nat.reduceAdd, Nat.add_zero, v_add, v_sub, v_mul, v_fdiv, v_mod, v_shl, v_pow, v_shr, v_bxor, v_cat, v_neg, v_bool, v_int, v_tup, v_loc, v_aug_add, v_own, c_eq, c_ne, c_lt, c_le, c_gt, c_ge, c_isn_non, c_isn_int, c_isn_tup, c_isn_lst, c_isnn_non, c_isnn_int, c_isnn_tup, c_isnn_lst, c_ist, c_isnt, c_eqB, c_neB, mem_tupI, mem_lstI, nmem_tupI, t_bl, t_int, t_non, t_tup, t_lst, q_tup, q_lst, q_scr, q_loc, lv_lst, lv_loc, sv_scr, sv_lst, sv_loc, ix_v, at_0, at_1, at_2, b_len, b_intB, b_int, b_boolB, b_tupT, b_tupL, b_tup_loc, b_allV, b_anyV, b_anyT, any_bm, any_im, any_b0, any_bc, any_ints, Option.some_or, bo_nil, bo_cons, bools_map, all_mapid, any_mapid, List.all_cons, List.all_nil, List.any_cons, List.any_nil, id, b_sum, b_max, b_min, b_divmod, few_ok, catL_ok, trep_ok, rep_ok, ty_non, ty_bl, ty_int, ty_str, ty_tup, ty_lst, ty_dct, ii_ii, ii_bi, ii_si, ii_ti, ii_li, ii_ni, ii_di, ii_ib, ii_bb, ii_sb, ii_tb, ii_lb, ii_nb, ii_db, ii_it, ii_bt, ii_st, ii_tt, ii_lt, ii_nt, ii_dt, bt_n, bt_t, bt_l, bs_nil, bs_cons, wipe_nil, wipe_cons, sa_nil, sa_cons, Option.bind_some, Option.bind_none, Option.map_some, Option.map_none, r_non, r_bl, r_int, r_str, r_tup, r_lst, r_scr, r_loc, ho_nil, ho_e, ho_f, ho_t, do_call, ioAt, roAt, fin_0, fin_1, fin_rob, fin_roi, fin_ron, fin_ro, fin_1r, lv_non, lv_bl, lv_int, lv_str, lv_tup, lv_lst', lv_loc', to_0, to_1, to_2, leave_eq, nl_nil, nl_int, nl_bl, nl_non, nl_str, nl_tup, nl_lst, nl_app, nl_ints, nl_rooms, nl_eR, nl_rev, ro_eR, ro_eRf, r_eR, q_eR, c_eqR, c_eqRL, c_eqRT, Bool.and_self, Bool.and_true, Bool.true_and, Bool.and_false, Bool.false_and, Bool.or_false, Bool.false_or, Bool.or_true, Bool.true_or, Bool.not_true, Bool.not_false, decide_true, decide_false, Int.cast_ofNat_Int, Int.natCast_add, Int.cast_ofNat_Int, lob_l, gu_ok, app_eq, app_ok, ins_eq, ins_ok, rem_eq, rem_ok, mem_loc, memG_rooms, c_neR, setI_eq, setI_ok, setS_eq, setS_ok, pop_eq, pop_ok, pop_1, Function.comp_apply, Int.reduceToNat, Int.reducePow, Int.reduceNeg, Int.reduceAdd, Int.reduceSub, Int.reduceMul, Int.reduceLT, Int.reduceLE, Int.reduceEq, Nat.reduceSub, Nat.reduceMul, Nat.reducePow, locksOf, st_nil, st_refl, bt_eR, ne_nil, neG_rooms, neG_rooms1, neG_nil, List.map_append, List.map_cons, List.map_nil, argsK, arrange, and_self, if_true, if_false, Bool.false_eq_true, List.map_reverse, rep1, nl_rep, pw_fold, hp_get, hp_set, rng1_ok, b_law, f1]

end K09
namespace K09
open PySem PySem.Spec L2 MP MPS
def top (i : Nat) : Stmt := PySem.Challenge.pw_roomhalves_k09_the_room_for_a_wish.main.body.getD i (.Pass ⟨0, 0, 0, 0⟩)
abbrev s__law_purse : Stmt := top 30
abbrev s__law_take : Stmt := top 31
abbrev s__law_height : Stmt := top 33
abbrev s__law_rooms : Stmt := top 32
abbrev s__law_free : Stmt := top 34
abbrev s__law_map : Stmt := top 35
abbrev s__law_got : Stmt := top 36
abbrev s__law_number : Stmt := top 37
abbrev s__law_is_pair : Stmt := top 38
abbrev s__law_right : Stmt := top 39
abbrev s_is_whole : Stmt := top 9
abbrev s_is_within : Stmt := top 10
abbrev s_check_height : Stmt := top 11
abbrev s_all_sizes : Stmt := top 13
abbrev s_wide : Stmt := top 12
abbrev s_is_one_room : Stmt := top 15
abbrev s_touch : Stmt := top 17
abbrev s_check_rooms : Stmt := top 19
abbrev s_check_out : Stmt := top 20
abbrev s_check_size : Stmt := top 14
abbrev s_check_wish : Stmt := top 26
abbrev s_best_of : Stmt := top 25
abbrev s_split : Stmt := top 16
abbrev s_parts_of : Stmt := top 21
abbrev s_mapped : Stmt := top 22
abbrev s_free_rooms : Stmt := top 23
abbrev s_room_by : Stmt := top 27
abbrev s_room_for : Stmt := top 28
abbrev s__law_all_right : Stmt := top 40
abbrev s_law : Stmt := top 41
def defs : List DefR := ⟨"_law_purse", "_law_purse", s__law_purse, ["_law_script", "_law_k", "_law_cell"], ["_law_script", "_law_k"], true, false⟩ ::
  ⟨"_law_take", "_law_take", s__law_take, ["_law_purse_here", "_law_many", "_law_found"], ["_law_purse_here", "_law_many"], true, false⟩ ::
  ⟨"_law_height", "_law_height", s__law_height, ["_law_purse_here"], ["_law_purse_here"], true, false⟩ ::
  ⟨"_law_rooms", "_law_rooms", s__law_rooms, ["_law_purse_here", "_law_tall", "_law_left", "_law_found", "_law_turn", "_law_start", "_law_span", "_law_way"], ["_law_purse_here", "_law_tall"], true, false⟩ ::
  ⟨"_law_free", "_law_free", s__law_free, ["_law_marks", "_law_start", "_law_span"], ["_law_marks", "_law_start", "_law_span"], true, false⟩ ::
  ⟨"_law_map", "_law_map", s__law_map, ["_law_tall", "_law_kept", "_law_marks", "_law_number_here", "_law_start", "_law_span", "_law_found", "_law_at", "_law_turn", "_law_told", "_law_less", "_law_fits"], ["_law_tall", "_law_kept"], true, false⟩ ::
  ⟨"_law_got", "_law_got", s__law_got, ["_law_tall", "_law_kept", "_law_span", "_law_some", "_law_broad", "_law_start", "_law_told"], ["_law_tall", "_law_kept", "_law_span"], true, false⟩ ::
  ⟨"_law_number", "_law_number", s__law_number, ["_law_thing"], ["_law_thing"], true, false⟩ ::
  ⟨"_law_is_pair", "_law_is_pair", s__law_is_pair, ["_law_thing", "_law_part"], ["_law_thing"], true, false⟩ ::
  ⟨"_law_right", "_law_right", s__law_right, ["_law_found", "_law_tall", "_law_kept", "_law_span", "_law_spot"], ["_law_found", "_law_tall", "_law_kept", "_law_span"], true, false⟩ ::
  ⟨"is_whole", "is_whole", s_is_whole, ["thing"], ["thing"], true, false⟩ ::
  ⟨"is_within", "is_within", s_is_within, ["thing", "least", "most"], ["thing", "least", "most"], true, false⟩ ::
  ⟨"check_height", "check_height", s_check_height, ["height"], ["height"], true, false⟩ ::
  ⟨"all_sizes", "all_sizes", s_all_sizes, ["height", "more"], ["height"], true, false⟩ ::
  ⟨"wide", "wide", s_wide, ["height"], ["height"], true, false⟩ ::
  ⟨"is_one_room", "is_one_room", s_is_one_room, ["height", "thing", "start", "size", "part"], ["height", "thing"], true, false⟩ ::
  ⟨"touch", "touch", s_touch, ["room", "other"], ["room", "other"], true, false⟩ ::
  ⟨"check_rooms", "check_rooms", s_check_rooms, ["height", "out", "place", "room"], ["height", "out"], true, false⟩ ::
  ⟨"check_out", "check_out", s_check_out, ["height", "out"], ["height", "out"], true, false⟩ ::
  ⟨"check_size", "check_size", s_check_size, ["height", "size"], ["height", "size"], true, false⟩ ::
  ⟨"check_wish", "check_wish", s_check_wish, ["height", "out", "size"], ["height", "out", "size"], true, false⟩ ::
  ⟨"best_of", "best_of", s_best_of, ["free", "size", "room"], ["free", "size"], true, true⟩ ::
  ⟨"split", "split", s_split, ["room", "start", "size", "half"], ["room"], true, false⟩ ::
  ⟨"parts_of", "parts_of", s_parts_of, ["room", "out", "inside", "west", "east", "other"], ["room", "out"], true, false⟩ ::
  ⟨"mapped", "mapped", s_mapped, ["height", "out"], ["height", "out"], true, false⟩ ::
  ⟨"free_rooms", "free_rooms", s_free_rooms, ["height", "out", "start", "size", "is_out"], ["height", "out"], true, false⟩ ::
  ⟨"room_by", "room_by", s_room_by, ["height", "out", "size", "room"], ["height", "out", "size"], true, false⟩ ::
  ⟨"room_for", "room_for", s_room_for, ["height", "out", "size"], ["height", "out", "size"], true, false⟩ ::
  ⟨"_law_all_right", "_law_all_right", s__law_all_right, ["_law_tall", "_law_kept", "_law_other", "_law_span", "_law_k"], ["_law_tall", "_law_kept", "_law_other"], true, false⟩ ::
  ⟨"law", "law", s_law, ["_law_script", "_law_k", "_law_purse_here", "_law_tall", "_law_kept", "_law_other"], ["_law_script"], true, false⟩ :: []
def gl : List (Str × GK) := ("_law_purse", .fn 0) :: ("_law_take", .fn 1) :: ("_law_height", .fn 2) :: ("_law_rooms", .fn 3) :: ("_law_free", .fn 4) :: ("_law_map", .fn 5) :: ("_law_got", .fn 6) :: ("_law_number", .fn 7) :: ("_law_is_pair", .fn 8) :: ("_law_right", .fn 9) :: ("is_whole", .fn 10) :: ("is_within", .fn 11) :: ("check_height", .fn 12) :: ("all_sizes", .fn 13) :: ("wide", .fn 14) :: ("is_one_room", .fn 15) :: ("touch", .fn 16) :: ("check_rooms", .fn 17) :: ("check_out", .fn 18) :: ("check_size", .fn 19) :: ("check_wish", .fn 20) :: ("best_of", .fn 21) :: ("split", .fn 22) :: ("parts_of", .fn 23) :: ("mapped", .fn 24) :: ("free_rooms", .fn 25) :: ("room_by", .fn 26) :: ("room_for", .fn 27) :: ("_law_all_right", .fn 28) :: ("law", .fn 29) :: ("HIGHEST", .cst (.int (8))) :: ("LEAST", .cst (.int (8))) :: ("LOWEST", .cst (.int (4))) :: ("all", .blt) :: ("any", .blt) :: ("bool", .blt) :: ("enumerate", .blt) :: ("int", .blt) :: ("isinstance", .blt) :: ("len", .blt) :: ("list", .blt) :: ("max", .blt) :: ("min", .blt) :: ("range", .blt) :: ("sorted", .blt) :: ("tuple", .blt) :: []
def kc : List (Nat × Nat × List Str × List Nat × List Val) := [(27, 0, ["size", "out", "height"], [2, 1, 0], [])]
theorem text_ok : textB prog gl kc defs = true := by decide +kernel
theorem all_mk {l : PySem.W.OpenLaw} {w : World} {K : PySem.W.Frag} {h : PySem.Heap} {mg : Str → Option Value} {fa f0 f1 f2 f3 f4 f5 f6 f7 f8 f9 f10 f11 f12 f13 f14 f15 f16 f17 f18 f19 f20 f21 f22 f23 f24 f25 f26 f27 f28 f29 : Addr} (X : K.In h) (G : h.Ns mainGlobals mg) (hfa : mg "law" = some (.ref fa))
    {od0 od1 od2 od3 od4 od5 od6 od7 od8 od9 od10 od11 od12 od13 od14 od15 od16 od17 od18 od19 od20 od21 od22 od23 od24 od25 od26 od27 od28 od29 an0 an1 an2 an3 an4 an5 an6 an7 an8 an9 an10 an11 an12 an13 an14 an15 an16 an17 an18 an19 an20 an21 an22 an23 an24 an25 an26 an27 an28 an29 : Option Addr} {sl0 sl1 sl2 sl3 sl4 sl5 sl6 sl7 sl8 sl9 sl10 sl11 sl12 sl13 sl14 sl15 sl16 sl17 sl18 sl19 sl20 sl21 sl22 sl23 sl24 sl25 sl26 sl27 sl28 sl29 : Array (Option Value)} {oc0 oc1 oc2 oc3 oc4 oc5 oc6 oc7 oc8 oc9 oc10 oc11 oc12 oc13 oc14 oc15 oc16 oc17 oc18 oc19 oc20 oc21 oc22 oc23 oc24 oc25 oc26 oc27 oc28 oc29 kV0 kV1 kV2 kV3 kV4 kV5 kV6 kV7 kV8 kV9 kV10 kV11 kV12 kV13 kV14 kV15 kV16 kV17 kV18 kV19 kV20 kV21 kV22 kV23 kV24 kV25 kV26 kV27 kV28 kV29 dc0 dc1 dc2 dc3 dc4 dc5 dc6 dc7 dc8 dc9 dc10 dc11 dc12 dc13 dc14 dc15 dc16 dc17 dc18 dc19 dc20 dc21 dc22 dc23 dc24 dc25 dc26 dc27 dc28 dc29 pm0 pm1 pm2 pm3 pm4 pm5 pm6 pm7 pm8 pm9 pm10 pm11 pm12 pm13 pm14 pm15 pm16 pm17 pm18 pm19 pm20 pm21 pm22 pm23 pm24 pm25 pm26 pm27 pm28 pm29 cd0 cd1 cd2 cd3 cd4 cd5 cd6 cd7 cd8 cd9 cd10 cd11 cd12 cd13 cd14 cd15 cd16 cd17 cd18 cd19 cd20 cd22 cd23 cd24 cd25 cd26 cd27 cd28 cd29 ct0 ct1 ct2 ct3 ct4 ct5 ct6 ct7 ct8 ct9 ct10 ct11 ct12 ct13 ct14 ct15 ct16 ct17 ct18 ct19 ct20 ct21 ct22 ct23 ct24 ct25 ct26 ct27 ct28 ct29 : Value} {tk0 tk1 tk2 : Tok}
    {tc21 tp21 : Addr} {tod21 : Option Addr} {tvs21 : Array Value} {tsl21 : Array (Option Value)}
    (a0 : PySem.W.nsIn K mainGlobals "_law_purse" = some (some (.ref f0)))
    (l0 : K.lookup f0 = some ⟨oc0, od0, .func (PySem.W.fnOf "_law_purse" "_law_purse" (defArgs s__law_purse) (defBody s__law_purse) (defScope s__law_purse) .none kV0 dc0 pm0 an0 cd0 ct0), sl0⟩)
    (c0 : PySem.W.codeIn K cd0 "_law_purse" = true) (k0 : PySem.W.keepIn K (.ref f0) = true)
    (a1 : PySem.W.nsIn K mainGlobals "_law_take" = some (some (.ref f1)))
    (l1 : K.lookup f1 = some ⟨oc1, od1, .func (PySem.W.fnOf "_law_take" "_law_take" (defArgs s__law_take) (defBody s__law_take) (defScope s__law_take) .none kV1 dc1 pm1 an1 cd1 ct1), sl1⟩)
    (c1 : PySem.W.codeIn K cd1 "_law_take" = true) (k1 : PySem.W.keepIn K (.ref f1) = true)
    (a2 : PySem.W.nsIn K mainGlobals "_law_height" = some (some (.ref f2)))
    (l2 : K.lookup f2 = some ⟨oc2, od2, .func (PySem.W.fnOf "_law_height" "_law_height" (defArgs s__law_height) (defBody s__law_height) (defScope s__law_height) .none kV2 dc2 pm2 an2 cd2 ct2), sl2⟩)
    (c2 : PySem.W.codeIn K cd2 "_law_height" = true) (k2 : PySem.W.keepIn K (.ref f2) = true)
    (a3 : PySem.W.nsIn K mainGlobals "_law_rooms" = some (some (.ref f3)))
    (l3 : K.lookup f3 = some ⟨oc3, od3, .func (PySem.W.fnOf "_law_rooms" "_law_rooms" (defArgs s__law_rooms) (defBody s__law_rooms) (defScope s__law_rooms) .none kV3 dc3 pm3 an3 cd3 ct3), sl3⟩)
    (c3 : PySem.W.codeIn K cd3 "_law_rooms" = true) (k3 : PySem.W.keepIn K (.ref f3) = true)
    (a4 : PySem.W.nsIn K mainGlobals "_law_free" = some (some (.ref f4)))
    (l4 : K.lookup f4 = some ⟨oc4, od4, .func (PySem.W.fnOf "_law_free" "_law_free" (defArgs s__law_free) (defBody s__law_free) (defScope s__law_free) .none kV4 dc4 pm4 an4 cd4 ct4), sl4⟩)
    (c4 : PySem.W.codeIn K cd4 "_law_free" = true) (k4 : PySem.W.keepIn K (.ref f4) = true)
    (a5 : PySem.W.nsIn K mainGlobals "_law_map" = some (some (.ref f5)))
    (l5 : K.lookup f5 = some ⟨oc5, od5, .func (PySem.W.fnOf "_law_map" "_law_map" (defArgs s__law_map) (defBody s__law_map) (defScope s__law_map) .none kV5 dc5 pm5 an5 cd5 ct5), sl5⟩)
    (c5 : PySem.W.codeIn K cd5 "_law_map" = true) (k5 : PySem.W.keepIn K (.ref f5) = true)
    (a6 : PySem.W.nsIn K mainGlobals "_law_got" = some (some (.ref f6)))
    (l6 : K.lookup f6 = some ⟨oc6, od6, .func (PySem.W.fnOf "_law_got" "_law_got" (defArgs s__law_got) (defBody s__law_got) (defScope s__law_got) .none kV6 dc6 pm6 an6 cd6 ct6), sl6⟩)
    (c6 : PySem.W.codeIn K cd6 "_law_got" = true) (k6 : PySem.W.keepIn K (.ref f6) = true)
    (a7 : PySem.W.nsIn K mainGlobals "_law_number" = some (some (.ref f7)))
    (l7 : K.lookup f7 = some ⟨oc7, od7, .func (PySem.W.fnOf "_law_number" "_law_number" (defArgs s__law_number) (defBody s__law_number) (defScope s__law_number) .none kV7 dc7 pm7 an7 cd7 ct7), sl7⟩)
    (c7 : PySem.W.codeIn K cd7 "_law_number" = true) (k7 : PySem.W.keepIn K (.ref f7) = true)
    (a8 : PySem.W.nsIn K mainGlobals "_law_is_pair" = some (some (.ref f8)))
    (l8 : K.lookup f8 = some ⟨oc8, od8, .func (PySem.W.fnOf "_law_is_pair" "_law_is_pair" (defArgs s__law_is_pair) (defBody s__law_is_pair) (defScope s__law_is_pair) .none kV8 dc8 pm8 an8 cd8 ct8), sl8⟩)
    (c8 : PySem.W.codeIn K cd8 "_law_is_pair" = true) (k8 : PySem.W.keepIn K (.ref f8) = true)
    (a9 : PySem.W.nsIn K mainGlobals "_law_right" = some (some (.ref f9)))
    (l9 : K.lookup f9 = some ⟨oc9, od9, .func (PySem.W.fnOf "_law_right" "_law_right" (defArgs s__law_right) (defBody s__law_right) (defScope s__law_right) .none kV9 dc9 pm9 an9 cd9 ct9), sl9⟩)
    (c9 : PySem.W.codeIn K cd9 "_law_right" = true) (k9 : PySem.W.keepIn K (.ref f9) = true)
    (a10 : PySem.W.nsIn K mainGlobals "is_whole" = some (some (.ref f10)))
    (l10 : K.lookup f10 = some ⟨oc10, od10, .func (PySem.W.fnOf "is_whole" "is_whole" (defArgs s_is_whole) (defBody s_is_whole) (defScope s_is_whole) .none kV10 dc10 pm10 an10 cd10 ct10), sl10⟩)
    (c10 : PySem.W.codeIn K cd10 "is_whole" = true) (k10 : PySem.W.keepIn K (.ref f10) = true)
    (a11 : PySem.W.nsIn K mainGlobals "is_within" = some (some (.ref f11)))
    (l11 : K.lookup f11 = some ⟨oc11, od11, .func (PySem.W.fnOf "is_within" "is_within" (defArgs s_is_within) (defBody s_is_within) (defScope s_is_within) .none kV11 dc11 pm11 an11 cd11 ct11), sl11⟩)
    (c11 : PySem.W.codeIn K cd11 "is_within" = true) (k11 : PySem.W.keepIn K (.ref f11) = true)
    (a12 : PySem.W.nsIn K mainGlobals "check_height" = some (some (.ref f12)))
    (l12 : K.lookup f12 = some ⟨oc12, od12, .func (PySem.W.fnOf "check_height" "check_height" (defArgs s_check_height) (defBody s_check_height) (defScope s_check_height) .none kV12 dc12 pm12 an12 cd12 ct12), sl12⟩)
    (c12 : PySem.W.codeIn K cd12 "check_height" = true) (k12 : PySem.W.keepIn K (.ref f12) = true)
    (a13 : PySem.W.nsIn K mainGlobals "all_sizes" = some (some (.ref f13)))
    (l13 : K.lookup f13 = some ⟨oc13, od13, .func (PySem.W.fnOf "all_sizes" "all_sizes" (defArgs s_all_sizes) (defBody s_all_sizes) (defScope s_all_sizes) .none kV13 dc13 pm13 an13 cd13 ct13), sl13⟩)
    (c13 : PySem.W.codeIn K cd13 "all_sizes" = true) (k13 : PySem.W.keepIn K (.ref f13) = true)
    (a14 : PySem.W.nsIn K mainGlobals "wide" = some (some (.ref f14)))
    (l14 : K.lookup f14 = some ⟨oc14, od14, .func (PySem.W.fnOf "wide" "wide" (defArgs s_wide) (defBody s_wide) (defScope s_wide) .none kV14 dc14 pm14 an14 cd14 ct14), sl14⟩)
    (c14 : PySem.W.codeIn K cd14 "wide" = true) (k14 : PySem.W.keepIn K (.ref f14) = true)
    (a15 : PySem.W.nsIn K mainGlobals "is_one_room" = some (some (.ref f15)))
    (l15 : K.lookup f15 = some ⟨oc15, od15, .func (PySem.W.fnOf "is_one_room" "is_one_room" (defArgs s_is_one_room) (defBody s_is_one_room) (defScope s_is_one_room) .none kV15 dc15 pm15 an15 cd15 ct15), sl15⟩)
    (c15 : PySem.W.codeIn K cd15 "is_one_room" = true) (k15 : PySem.W.keepIn K (.ref f15) = true)
    (a16 : PySem.W.nsIn K mainGlobals "touch" = some (some (.ref f16)))
    (l16 : K.lookup f16 = some ⟨oc16, od16, .func (PySem.W.fnOf "touch" "touch" (defArgs s_touch) (defBody s_touch) (defScope s_touch) .none kV16 dc16 pm16 an16 cd16 ct16), sl16⟩)
    (c16 : PySem.W.codeIn K cd16 "touch" = true) (k16 : PySem.W.keepIn K (.ref f16) = true)
    (a17 : PySem.W.nsIn K mainGlobals "check_rooms" = some (some (.ref f17)))
    (l17 : K.lookup f17 = some ⟨oc17, od17, .func (PySem.W.fnOf "check_rooms" "check_rooms" (defArgs s_check_rooms) (defBody s_check_rooms) (defScope s_check_rooms) .none kV17 dc17 pm17 an17 cd17 ct17), sl17⟩)
    (c17 : PySem.W.codeIn K cd17 "check_rooms" = true) (k17 : PySem.W.keepIn K (.ref f17) = true)
    (a18 : PySem.W.nsIn K mainGlobals "check_out" = some (some (.ref f18)))
    (l18 : K.lookup f18 = some ⟨oc18, od18, .func (PySem.W.fnOf "check_out" "check_out" (defArgs s_check_out) (defBody s_check_out) (defScope s_check_out) .none kV18 dc18 pm18 an18 cd18 ct18), sl18⟩)
    (c18 : PySem.W.codeIn K cd18 "check_out" = true) (k18 : PySem.W.keepIn K (.ref f18) = true)
    (a19 : PySem.W.nsIn K mainGlobals "check_size" = some (some (.ref f19)))
    (l19 : K.lookup f19 = some ⟨oc19, od19, .func (PySem.W.fnOf "check_size" "check_size" (defArgs s_check_size) (defBody s_check_size) (defScope s_check_size) .none kV19 dc19 pm19 an19 cd19 ct19), sl19⟩)
    (c19 : PySem.W.codeIn K cd19 "check_size" = true) (k19 : PySem.W.keepIn K (.ref f19) = true)
    (a20 : PySem.W.nsIn K mainGlobals "check_wish" = some (some (.ref f20)))
    (l20 : K.lookup f20 = some ⟨oc20, od20, .func (PySem.W.fnOf "check_wish" "check_wish" (defArgs s_check_wish) (defBody s_check_wish) (defScope s_check_wish) .none kV20 dc20 pm20 an20 cd20 ct20), sl20⟩)
    (c20 : PySem.W.codeIn K cd20 "check_wish" = true) (k20 : PySem.W.keepIn K (.ref f20) = true)
    (a21 : PySem.W.nsIn K mainGlobals "best_of" = some (some (.ref f21)))
    (l21 : K.lookup f21 = some ⟨oc21, od21, .func (PySem.W.fnOf "best_of" "best_of" (defArgs s_best_of) (defBody s_best_of) (defScope s_best_of) .none kV21 dc21 pm21 an21 (.ref tc21) ct21), sl21⟩)
    (c21 : PySem.W.codeIn K (.ref tc21) "best_of" = true) (k21 : PySem.W.keepIn K (.ref f21) = true)
    (ta21 : K.lookup tc21 = some ⟨.type "code", tod21, .fields tvs21, tsl21⟩) (ti21 : tvs21[11]? = some (.ref tp21)) (th21 : PySem.W.codeHdIn K tc21 tp21 = true) (tn21 : K.lookup tp21 = none) (tg21 : h.get? tp21 = some { cls := .none, data := .fields #[] })
    (a22 : PySem.W.nsIn K mainGlobals "split" = some (some (.ref f22)))
    (l22 : K.lookup f22 = some ⟨oc22, od22, .func (PySem.W.fnOf "split" "split" (defArgs s_split) (defBody s_split) (defScope s_split) .none kV22 dc22 pm22 an22 cd22 ct22), sl22⟩)
    (c22 : PySem.W.codeIn K cd22 "split" = true) (k22 : PySem.W.keepIn K (.ref f22) = true)
    (a23 : PySem.W.nsIn K mainGlobals "parts_of" = some (some (.ref f23)))
    (l23 : K.lookup f23 = some ⟨oc23, od23, .func (PySem.W.fnOf "parts_of" "parts_of" (defArgs s_parts_of) (defBody s_parts_of) (defScope s_parts_of) .none kV23 dc23 pm23 an23 cd23 ct23), sl23⟩)
    (c23 : PySem.W.codeIn K cd23 "parts_of" = true) (k23 : PySem.W.keepIn K (.ref f23) = true)
    (a24 : PySem.W.nsIn K mainGlobals "mapped" = some (some (.ref f24)))
    (l24 : K.lookup f24 = some ⟨oc24, od24, .func (PySem.W.fnOf "mapped" "mapped" (defArgs s_mapped) (defBody s_mapped) (defScope s_mapped) .none kV24 dc24 pm24 an24 cd24 ct24), sl24⟩)
    (c24 : PySem.W.codeIn K cd24 "mapped" = true) (k24 : PySem.W.keepIn K (.ref f24) = true)
    (a25 : PySem.W.nsIn K mainGlobals "free_rooms" = some (some (.ref f25)))
    (l25 : K.lookup f25 = some ⟨oc25, od25, .func (PySem.W.fnOf "free_rooms" "free_rooms" (defArgs s_free_rooms) (defBody s_free_rooms) (defScope s_free_rooms) .none kV25 dc25 pm25 an25 cd25 ct25), sl25⟩)
    (c25 : PySem.W.codeIn K cd25 "free_rooms" = true) (k25 : PySem.W.keepIn K (.ref f25) = true)
    (a26 : PySem.W.nsIn K mainGlobals "room_by" = some (some (.ref f26)))
    (l26 : K.lookup f26 = some ⟨oc26, od26, .func (PySem.W.fnOf "room_by" "room_by" (defArgs s_room_by) (defBody s_room_by) (defScope s_room_by) .none kV26 dc26 pm26 an26 cd26 ct26), sl26⟩)
    (c26 : PySem.W.codeIn K cd26 "room_by" = true) (k26 : PySem.W.keepIn K (.ref f26) = true)
    (a27 : PySem.W.nsIn K mainGlobals "room_for" = some (some (.ref f27)))
    (l27 : K.lookup f27 = some ⟨oc27, od27, .func (PySem.W.fnOf "room_for" "room_for" (defArgs s_room_for) (defBody s_room_for) (defScope s_room_for) .none kV27 dc27 pm27 an27 cd27 ct27), sl27⟩)
    (c27 : PySem.W.codeIn K cd27 "room_for" = true) (k27 : PySem.W.keepIn K (.ref f27) = true)
    (a28 : PySem.W.nsIn K mainGlobals "_law_all_right" = some (some (.ref f28)))
    (l28 : K.lookup f28 = some ⟨oc28, od28, .func (PySem.W.fnOf "_law_all_right" "_law_all_right" (defArgs s__law_all_right) (defBody s__law_all_right) (defScope s__law_all_right) .none kV28 dc28 pm28 an28 cd28 ct28), sl28⟩)
    (c28 : PySem.W.codeIn K cd28 "_law_all_right" = true) (k28 : PySem.W.keepIn K (.ref f28) = true)
    (a29 : PySem.W.nsIn K mainGlobals "law" = some (some (.ref f29)))
    (l29 : K.lookup f29 = some ⟨oc29, od29, .func (PySem.W.fnOf "law" "law" (defArgs s_law) (defBody s_law) (defScope s_law) .none kV29 dc29 pm29 an29 cd29 ct29), sl29⟩)
    (c29 : PySem.W.codeIn K cd29 "law" = true) (k29 : PySem.W.keepIn K (.ref f29) = true)
    (qg0 : PySem.W.nsIn K mainGlobals "HIGHEST" = some (some (.int (8) tk0)))
    (qg1 : PySem.W.nsIn K mainGlobals "LEAST" = some (some (.int (8) tk1)))
    (qg2 : PySem.W.nsIn K mainGlobals "LOWEST" = some (some (.int (4) tk2)))
    (qz0 : PySem.W.nsIn K mainGlobals "all" = some none)
    (qz1 : PySem.W.nsIn K mainGlobals "any" = some none)
    (qz2 : PySem.W.nsIn K mainGlobals "bool" = some none)
    (qz3 : PySem.W.nsIn K mainGlobals "enumerate" = some none)
    (qz4 : PySem.W.nsIn K mainGlobals "int" = some none)
    (qz5 : PySem.W.nsIn K mainGlobals "isinstance" = some none)
    (qz6 : PySem.W.nsIn K mainGlobals "len" = some none)
    (qz7 : PySem.W.nsIn K mainGlobals "list" = some none)
    (qz8 : PySem.W.nsIn K mainGlobals "max" = some none)
    (qz9 : PySem.W.nsIn K mainGlobals "min" = some none)
    (qz10 : PySem.W.nsIn K mainGlobals "range" = some none)
    (qz11 : PySem.W.nsIn K mainGlobals "sorted" = some none)
    (qz12 : PySem.W.nsIn K mainGlobals "tuple" = some none)
    (run : ∀ ns : List Int, ns.length ≤ 63 → MP.run prog 13 29 [.scr (ns.map .int)] = .ret ⟨.bl true, false, []⟩) :
    ∃ (fd : FuncData) (cs : List (Addr × Addr)), (∀ p ∈ cs, h.get? p.2 = some { cls := .none, data := .fields #[] }) ∧ (∀ p ∈ cs, K.lookup p.2 = none) ∧ (∀ p ∈ cs, PySem.W.CodeHd h p.1 p.2) ∧ (∀ (s : Shared) (v : Value), BindsTo s fd ⟨[v], []⟩ [("_law_script", v)]) ∧ ∀ base : PySem.Heap, K.In base → base.Ns mainGlobals mg → (∀ p ∈ cs, LamX.TabB base mg p.1 p.2) → FnOk l.prog w K mg base CX0 16 fa fd ["_law_script"] (MPS.spLaw cs K 63) := by
  have e := hfa.symm.trans (PySem.W.mg_of X G a29)
  cases e
  let c : C := ⟨K, fun n => [f0, f1, f2, f3, f4, f5, f6, f7, f8, f9, f10, f11, f12, f13, f14, f15, f16, f17, f18, f19, f20, f21, f22, f23, f24, f25, f26, f27, f28, fa].getD n 0, fun _ => 0, fun _ => none, [(tp21, ("best_of" : Str) ++ ".<locals>." ++ "<lambda>")], [(tc21, tp21)]⟩
  have r0 : Row K mg c (PySem.W.fnOf "_law_purse" "_law_purse" (defArgs s__law_purse) (defBody s__law_purse) (defScope s__law_purse) .none kV0 dc0 pm0 an0 cd0 ct0) kc ⟨"_law_purse", "_law_purse", s__law_purse, ["_law_script", "_law_k", "_law_cell"], ["_law_script", "_law_k"], true, false⟩ 0 := ⟨(fun_mk (st := s__law_purse) l0 c0 k0), PySem.W.mg_of X G a0, fun _ => (fun_mk (st := s__law_purse) l0 c0 k0).binds (ps := ["_law_script", "_law_k"]) fun _ _ _ _ _ _ us hl => match us, hl with | [_, _], _ => rfl, fun n ks ar ds h => by simp [kc] at h, (fun z => by cases z)⟩
  have r1 : Row K mg c (PySem.W.fnOf "_law_take" "_law_take" (defArgs s__law_take) (defBody s__law_take) (defScope s__law_take) .none kV1 dc1 pm1 an1 cd1 ct1) kc ⟨"_law_take", "_law_take", s__law_take, ["_law_purse_here", "_law_many", "_law_found"], ["_law_purse_here", "_law_many"], true, false⟩ 1 := ⟨(fun_mk (st := s__law_take) l1 c1 k1), PySem.W.mg_of X G a1, fun _ => (fun_mk (st := s__law_take) l1 c1 k1).binds (ps := ["_law_purse_here", "_law_many"]) fun _ _ _ _ _ _ us hl => match us, hl with | [_, _], _ => rfl, fun n ks ar ds h => by simp [kc] at h, (fun z => by cases z)⟩
  have r2 : Row K mg c (PySem.W.fnOf "_law_height" "_law_height" (defArgs s__law_height) (defBody s__law_height) (defScope s__law_height) .none kV2 dc2 pm2 an2 cd2 ct2) kc ⟨"_law_height", "_law_height", s__law_height, ["_law_purse_here"], ["_law_purse_here"], true, false⟩ 2 := ⟨(fun_mk (st := s__law_height) l2 c2 k2), PySem.W.mg_of X G a2, fun _ => (fun_mk (st := s__law_height) l2 c2 k2).binds (ps := ["_law_purse_here"]) fun _ _ _ _ _ _ us hl => match us, hl with | [_], _ => rfl, fun n ks ar ds h => by simp [kc] at h, (fun z => by cases z)⟩
  have r3 : Row K mg c (PySem.W.fnOf "_law_rooms" "_law_rooms" (defArgs s__law_rooms) (defBody s__law_rooms) (defScope s__law_rooms) .none kV3 dc3 pm3 an3 cd3 ct3) kc ⟨"_law_rooms", "_law_rooms", s__law_rooms, ["_law_purse_here", "_law_tall", "_law_left", "_law_found", "_law_turn", "_law_start", "_law_span", "_law_way"], ["_law_purse_here", "_law_tall"], true, false⟩ 3 := ⟨(fun_mk (st := s__law_rooms) l3 c3 k3), PySem.W.mg_of X G a3, fun _ => (fun_mk (st := s__law_rooms) l3 c3 k3).binds (ps := ["_law_purse_here", "_law_tall"]) fun _ _ _ _ _ _ us hl => match us, hl with | [_, _], _ => rfl, fun n ks ar ds h => by simp [kc] at h, (fun z => by cases z)⟩
  have r4 : Row K mg c (PySem.W.fnOf "_law_free" "_law_free" (defArgs s__law_free) (defBody s__law_free) (defScope s__law_free) .none kV4 dc4 pm4 an4 cd4 ct4) kc ⟨"_law_free", "_law_free", s__law_free, ["_law_marks", "_law_start", "_law_span"], ["_law_marks", "_law_start", "_law_span"], true, false⟩ 4 := ⟨(fun_mk (st := s__law_free) l4 c4 k4), PySem.W.mg_of X G a4, fun _ => (fun_mk (st := s__law_free) l4 c4 k4).binds (ps := ["_law_marks", "_law_start", "_law_span"]) fun _ _ _ _ _ _ us hl => match us, hl with | [_, _, _], _ => rfl, fun n ks ar ds h => by simp [kc] at h, (fun z => by cases z)⟩
  have r5 : Row K mg c (PySem.W.fnOf "_law_map" "_law_map" (defArgs s__law_map) (defBody s__law_map) (defScope s__law_map) .none kV5 dc5 pm5 an5 cd5 ct5) kc ⟨"_law_map", "_law_map", s__law_map, ["_law_tall", "_law_kept", "_law_marks", "_law_number_here", "_law_start", "_law_span", "_law_found", "_law_at", "_law_turn", "_law_told", "_law_less", "_law_fits"], ["_law_tall", "_law_kept"], true, false⟩ 5 := ⟨(fun_mk (st := s__law_map) l5 c5 k5), PySem.W.mg_of X G a5, fun _ => (fun_mk (st := s__law_map) l5 c5 k5).binds (ps := ["_law_tall", "_law_kept"]) fun _ _ _ _ _ _ us hl => match us, hl with | [_, _], _ => rfl, fun n ks ar ds h => by simp [kc] at h, (fun z => by cases z)⟩
  have r6 : Row K mg c (PySem.W.fnOf "_law_got" "_law_got" (defArgs s__law_got) (defBody s__law_got) (defScope s__law_got) .none kV6 dc6 pm6 an6 cd6 ct6) kc ⟨"_law_got", "_law_got", s__law_got, ["_law_tall", "_law_kept", "_law_span", "_law_some", "_law_broad", "_law_start", "_law_told"], ["_law_tall", "_law_kept", "_law_span"], true, false⟩ 6 := ⟨(fun_mk (st := s__law_got) l6 c6 k6), PySem.W.mg_of X G a6, fun _ => (fun_mk (st := s__law_got) l6 c6 k6).binds (ps := ["_law_tall", "_law_kept", "_law_span"]) fun _ _ _ _ _ _ us hl => match us, hl with | [_, _, _], _ => rfl, fun n ks ar ds h => by simp [kc] at h, (fun z => by cases z)⟩
  have r7 : Row K mg c (PySem.W.fnOf "_law_number" "_law_number" (defArgs s__law_number) (defBody s__law_number) (defScope s__law_number) .none kV7 dc7 pm7 an7 cd7 ct7) kc ⟨"_law_number", "_law_number", s__law_number, ["_law_thing"], ["_law_thing"], true, false⟩ 7 := ⟨(fun_mk (st := s__law_number) l7 c7 k7), PySem.W.mg_of X G a7, fun _ => (fun_mk (st := s__law_number) l7 c7 k7).binds (ps := ["_law_thing"]) fun _ _ _ _ _ _ us hl => match us, hl with | [_], _ => rfl, fun n ks ar ds h => by simp [kc] at h, (fun z => by cases z)⟩
  have r8 : Row K mg c (PySem.W.fnOf "_law_is_pair" "_law_is_pair" (defArgs s__law_is_pair) (defBody s__law_is_pair) (defScope s__law_is_pair) .none kV8 dc8 pm8 an8 cd8 ct8) kc ⟨"_law_is_pair", "_law_is_pair", s__law_is_pair, ["_law_thing", "_law_part"], ["_law_thing"], true, false⟩ 8 := ⟨(fun_mk (st := s__law_is_pair) l8 c8 k8), PySem.W.mg_of X G a8, fun _ => (fun_mk (st := s__law_is_pair) l8 c8 k8).binds (ps := ["_law_thing"]) fun _ _ _ _ _ _ us hl => match us, hl with | [_], _ => rfl, fun n ks ar ds h => by simp [kc] at h, (fun z => by cases z)⟩
  have r9 : Row K mg c (PySem.W.fnOf "_law_right" "_law_right" (defArgs s__law_right) (defBody s__law_right) (defScope s__law_right) .none kV9 dc9 pm9 an9 cd9 ct9) kc ⟨"_law_right", "_law_right", s__law_right, ["_law_found", "_law_tall", "_law_kept", "_law_span", "_law_spot"], ["_law_found", "_law_tall", "_law_kept", "_law_span"], true, false⟩ 9 := ⟨(fun_mk (st := s__law_right) l9 c9 k9), PySem.W.mg_of X G a9, fun _ => (fun_mk (st := s__law_right) l9 c9 k9).binds (ps := ["_law_found", "_law_tall", "_law_kept", "_law_span"]) fun _ _ _ _ _ _ us hl => match us, hl with | [_, _, _, _], _ => rfl, fun n ks ar ds h => by simp [kc] at h, (fun z => by cases z)⟩
  have r10 : Row K mg c (PySem.W.fnOf "is_whole" "is_whole" (defArgs s_is_whole) (defBody s_is_whole) (defScope s_is_whole) .none kV10 dc10 pm10 an10 cd10 ct10) kc ⟨"is_whole", "is_whole", s_is_whole, ["thing"], ["thing"], true, false⟩ 10 := ⟨(fun_mk (st := s_is_whole) l10 c10 k10), PySem.W.mg_of X G a10, fun _ => (fun_mk (st := s_is_whole) l10 c10 k10).binds (ps := ["thing"]) fun _ _ _ _ _ _ us hl => match us, hl with | [_], _ => rfl, fun n ks ar ds h => by simp [kc] at h, (fun z => by cases z)⟩
  have r11 : Row K mg c (PySem.W.fnOf "is_within" "is_within" (defArgs s_is_within) (defBody s_is_within) (defScope s_is_within) .none kV11 dc11 pm11 an11 cd11 ct11) kc ⟨"is_within", "is_within", s_is_within, ["thing", "least", "most"], ["thing", "least", "most"], true, false⟩ 11 := ⟨(fun_mk (st := s_is_within) l11 c11 k11), PySem.W.mg_of X G a11, fun _ => (fun_mk (st := s_is_within) l11 c11 k11).binds (ps := ["thing", "least", "most"]) fun _ _ _ _ _ _ us hl => match us, hl with | [_, _, _], _ => rfl, fun n ks ar ds h => by simp [kc] at h, (fun z => by cases z)⟩
  have r12 : Row K mg c (PySem.W.fnOf "check_height" "check_height" (defArgs s_check_height) (defBody s_check_height) (defScope s_check_height) .none kV12 dc12 pm12 an12 cd12 ct12) kc ⟨"check_height", "check_height", s_check_height, ["height"], ["height"], true, false⟩ 12 := ⟨(fun_mk (st := s_check_height) l12 c12 k12), PySem.W.mg_of X G a12, fun _ => (fun_mk (st := s_check_height) l12 c12 k12).binds (ps := ["height"]) fun _ _ _ _ _ _ us hl => match us, hl with | [_], _ => rfl, fun n ks ar ds h => by simp [kc] at h, (fun z => by cases z)⟩
  have r13 : Row K mg c (PySem.W.fnOf "all_sizes" "all_sizes" (defArgs s_all_sizes) (defBody s_all_sizes) (defScope s_all_sizes) .none kV13 dc13 pm13 an13 cd13 ct13) kc ⟨"all_sizes", "all_sizes", s_all_sizes, ["height", "more"], ["height"], true, false⟩ 13 := ⟨(fun_mk (st := s_all_sizes) l13 c13 k13), PySem.W.mg_of X G a13, fun _ => (fun_mk (st := s_all_sizes) l13 c13 k13).binds (ps := ["height"]) fun _ _ _ _ _ _ us hl => match us, hl with | [_], _ => rfl, fun n ks ar ds h => by simp [kc] at h, (fun z => by cases z)⟩
  have r14 : Row K mg c (PySem.W.fnOf "wide" "wide" (defArgs s_wide) (defBody s_wide) (defScope s_wide) .none kV14 dc14 pm14 an14 cd14 ct14) kc ⟨"wide", "wide", s_wide, ["height"], ["height"], true, false⟩ 14 := ⟨(fun_mk (st := s_wide) l14 c14 k14), PySem.W.mg_of X G a14, fun _ => (fun_mk (st := s_wide) l14 c14 k14).binds (ps := ["height"]) fun _ _ _ _ _ _ us hl => match us, hl with | [_], _ => rfl, fun n ks ar ds h => by simp [kc] at h, (fun z => by cases z)⟩
  have r15 : Row K mg c (PySem.W.fnOf "is_one_room" "is_one_room" (defArgs s_is_one_room) (defBody s_is_one_room) (defScope s_is_one_room) .none kV15 dc15 pm15 an15 cd15 ct15) kc ⟨"is_one_room", "is_one_room", s_is_one_room, ["height", "thing", "start", "size", "part"], ["height", "thing"], true, false⟩ 15 := ⟨(fun_mk (st := s_is_one_room) l15 c15 k15), PySem.W.mg_of X G a15, fun _ => (fun_mk (st := s_is_one_room) l15 c15 k15).binds (ps := ["height", "thing"]) fun _ _ _ _ _ _ us hl => match us, hl with | [_, _], _ => rfl, fun n ks ar ds h => by simp [kc] at h, (fun z => by cases z)⟩
  have r16 : Row K mg c (PySem.W.fnOf "touch" "touch" (defArgs s_touch) (defBody s_touch) (defScope s_touch) .none kV16 dc16 pm16 an16 cd16 ct16) kc ⟨"touch", "touch", s_touch, ["room", "other"], ["room", "other"], true, false⟩ 16 := ⟨(fun_mk (st := s_touch) l16 c16 k16), PySem.W.mg_of X G a16, fun _ => (fun_mk (st := s_touch) l16 c16 k16).binds (ps := ["room", "other"]) fun _ _ _ _ _ _ us hl => match us, hl with | [_, _], _ => rfl, fun n ks ar ds h => by simp [kc] at h, (fun z => by cases z)⟩
  have r17 : Row K mg c (PySem.W.fnOf "check_rooms" "check_rooms" (defArgs s_check_rooms) (defBody s_check_rooms) (defScope s_check_rooms) .none kV17 dc17 pm17 an17 cd17 ct17) kc ⟨"check_rooms", "check_rooms", s_check_rooms, ["height", "out", "place", "room"], ["height", "out"], true, false⟩ 17 := ⟨(fun_mk (st := s_check_rooms) l17 c17 k17), PySem.W.mg_of X G a17, fun _ => (fun_mk (st := s_check_rooms) l17 c17 k17).binds (ps := ["height", "out"]) fun _ _ _ _ _ _ us hl => match us, hl with | [_, _], _ => rfl, fun n ks ar ds h => by simp [kc] at h, (fun z => by cases z)⟩
  have r18 : Row K mg c (PySem.W.fnOf "check_out" "check_out" (defArgs s_check_out) (defBody s_check_out) (defScope s_check_out) .none kV18 dc18 pm18 an18 cd18 ct18) kc ⟨"check_out", "check_out", s_check_out, ["height", "out"], ["height", "out"], true, false⟩ 18 := ⟨(fun_mk (st := s_check_out) l18 c18 k18), PySem.W.mg_of X G a18, fun _ => (fun_mk (st := s_check_out) l18 c18 k18).binds (ps := ["height", "out"]) fun _ _ _ _ _ _ us hl => match us, hl with | [_, _], _ => rfl, fun n ks ar ds h => by simp [kc] at h, (fun z => by cases z)⟩
  have r19 : Row K mg c (PySem.W.fnOf "check_size" "check_size" (defArgs s_check_size) (defBody s_check_size) (defScope s_check_size) .none kV19 dc19 pm19 an19 cd19 ct19) kc ⟨"check_size", "check_size", s_check_size, ["height", "size"], ["height", "size"], true, false⟩ 19 := ⟨(fun_mk (st := s_check_size) l19 c19 k19), PySem.W.mg_of X G a19, fun _ => (fun_mk (st := s_check_size) l19 c19 k19).binds (ps := ["height", "size"]) fun _ _ _ _ _ _ us hl => match us, hl with | [_, _], _ => rfl, fun n ks ar ds h => by simp [kc] at h, (fun z => by cases z)⟩
  have r20 : Row K mg c (PySem.W.fnOf "check_wish" "check_wish" (defArgs s_check_wish) (defBody s_check_wish) (defScope s_check_wish) .none kV20 dc20 pm20 an20 cd20 ct20) kc ⟨"check_wish", "check_wish", s_check_wish, ["height", "out", "size"], ["height", "out", "size"], true, false⟩ 20 := ⟨(fun_mk (st := s_check_wish) l20 c20 k20), PySem.W.mg_of X G a20, fun _ => (fun_mk (st := s_check_wish) l20 c20 k20).binds (ps := ["height", "out", "size"]) fun _ _ _ _ _ _ us hl => match us, hl with | [_, _, _], _ => rfl, fun n ks ar ds h => by simp [kc] at h, (fun z => by cases z)⟩
  have r21 : Row K mg c (PySem.W.fnOf "best_of" "best_of" (defArgs s_best_of) (defBody s_best_of) (defScope s_best_of) .none kV21 dc21 pm21 an21 (.ref tc21) ct21) kc ⟨"best_of", "best_of", s_best_of, ["free", "size", "room"], ["free", "size"], true, true⟩ 21 := ⟨(fun_mk (st := s_best_of) l21 c21 k21), PySem.W.mg_of X G a21, fun _ => (fun_mk (st := s_best_of) l21 c21 k21).binds (ps := ["free", "size"]) fun _ _ _ _ _ _ us hl => match us, hl with | [_, _], _ => rfl, fun n ks ar ds h => by simp [kc] at h, fun _ => ⟨tc21, tp21, rfl, by simp [c], by simp [c], by intro q hq e; simp only [c, List.mem_cons, List.not_mem_nil, or_false] at hq; subst hq; rfl⟩⟩
  have r22 : Row K mg c (PySem.W.fnOf "split" "split" (defArgs s_split) (defBody s_split) (defScope s_split) .none kV22 dc22 pm22 an22 cd22 ct22) kc ⟨"split", "split", s_split, ["room", "start", "size", "half"], ["room"], true, false⟩ 22 := ⟨(fun_mk (st := s_split) l22 c22 k22), PySem.W.mg_of X G a22, fun _ => (fun_mk (st := s_split) l22 c22 k22).binds (ps := ["room"]) fun _ _ _ _ _ _ us hl => match us, hl with | [_], _ => rfl, fun n ks ar ds h => by simp [kc] at h, (fun z => by cases z)⟩
  have r23 : Row K mg c (PySem.W.fnOf "parts_of" "parts_of" (defArgs s_parts_of) (defBody s_parts_of) (defScope s_parts_of) .none kV23 dc23 pm23 an23 cd23 ct23) kc ⟨"parts_of", "parts_of", s_parts_of, ["room", "out", "inside", "west", "east", "other"], ["room", "out"], true, false⟩ 23 := ⟨(fun_mk (st := s_parts_of) l23 c23 k23), PySem.W.mg_of X G a23, fun _ => (fun_mk (st := s_parts_of) l23 c23 k23).binds (ps := ["room", "out"]) fun _ _ _ _ _ _ us hl => match us, hl with | [_, _], _ => rfl, fun n ks ar ds h => by simp [kc] at h, (fun z => by cases z)⟩
  have r24 : Row K mg c (PySem.W.fnOf "mapped" "mapped" (defArgs s_mapped) (defBody s_mapped) (defScope s_mapped) .none kV24 dc24 pm24 an24 cd24 ct24) kc ⟨"mapped", "mapped", s_mapped, ["height", "out"], ["height", "out"], true, false⟩ 24 := ⟨(fun_mk (st := s_mapped) l24 c24 k24), PySem.W.mg_of X G a24, fun _ => (fun_mk (st := s_mapped) l24 c24 k24).binds (ps := ["height", "out"]) fun _ _ _ _ _ _ us hl => match us, hl with | [_, _], _ => rfl, fun n ks ar ds h => by simp [kc] at h, (fun z => by cases z)⟩
  have r25 : Row K mg c (PySem.W.fnOf "free_rooms" "free_rooms" (defArgs s_free_rooms) (defBody s_free_rooms) (defScope s_free_rooms) .none kV25 dc25 pm25 an25 cd25 ct25) kc ⟨"free_rooms", "free_rooms", s_free_rooms, ["height", "out", "start", "size", "is_out"], ["height", "out"], true, false⟩ 25 := ⟨(fun_mk (st := s_free_rooms) l25 c25 k25), PySem.W.mg_of X G a25, fun _ => (fun_mk (st := s_free_rooms) l25 c25 k25).binds (ps := ["height", "out"]) fun _ _ _ _ _ _ us hl => match us, hl with | [_, _], _ => rfl, fun n ks ar ds h => by simp [kc] at h, (fun z => by cases z)⟩
  have r26 : Row K mg c (PySem.W.fnOf "room_by" "room_by" (defArgs s_room_by) (defBody s_room_by) (defScope s_room_by) .none kV26 dc26 pm26 an26 cd26 ct26) kc ⟨"room_by", "room_by", s_room_by, ["height", "out", "size", "room"], ["height", "out", "size"], true, false⟩ 26 := ⟨(fun_mk (st := s_room_by) l26 c26 k26), PySem.W.mg_of X G a26, fun _ => (fun_mk (st := s_room_by) l26 c26 k26).binds (ps := ["height", "out", "size"]) fun _ _ _ _ _ _ us hl => match us, hl with | [_, _, _], _ => rfl, fun n ks ar ds h => by simp [kc] at h, (fun z => by cases z)⟩
  have r27 : Row K mg c (PySem.W.fnOf "room_for" "room_for" (defArgs s_room_for) (defBody s_room_for) (defScope s_room_for) .none kV27 dc27 pm27 an27 cd27 ct27) kc ⟨"room_for", "room_for", s_room_for, ["height", "out", "size"], ["height", "out", "size"], true, false⟩ 27 := ⟨(fun_mk (st := s_room_for) l27 c27 k27), PySem.W.mg_of X G a27, fun _ => (fun_mk (st := s_room_for) l27 c27 k27).binds (ps := ["height", "out", "size"]) fun _ _ _ _ _ _ us hl => match us, hl with | [_, _, _], _ => rfl, fun n ks ar ds h => by
    simp [kc] at h
    obtain ⟨rfl, rfl, rfl, rfl⟩ := h
    exact kbn_of fun us ws h1 h2 => match us, ws, h1, h2 with | [], [_, _, _], _, _ => rfl, (fun z => by cases z)⟩
  have r28 : Row K mg c (PySem.W.fnOf "_law_all_right" "_law_all_right" (defArgs s__law_all_right) (defBody s__law_all_right) (defScope s__law_all_right) .none kV28 dc28 pm28 an28 cd28 ct28) kc ⟨"_law_all_right", "_law_all_right", s__law_all_right, ["_law_tall", "_law_kept", "_law_other", "_law_span", "_law_k"], ["_law_tall", "_law_kept", "_law_other"], true, false⟩ 28 := ⟨(fun_mk (st := s__law_all_right) l28 c28 k28), PySem.W.mg_of X G a28, fun _ => (fun_mk (st := s__law_all_right) l28 c28 k28).binds (ps := ["_law_tall", "_law_kept", "_law_other"]) fun _ _ _ _ _ _ us hl => match us, hl with | [_, _, _], _ => rfl, fun n ks ar ds h => by simp [kc] at h, (fun z => by cases z)⟩
  have r29 : Row K mg c (PySem.W.fnOf "law" "law" (defArgs s_law) (defBody s_law) (defScope s_law) .none kV29 dc29 pm29 an29 cd29 ct29) kc ⟨"law", "law", s_law, ["_law_script", "_law_k", "_law_purse_here", "_law_tall", "_law_kept", "_law_other"], ["_law_script"], true, false⟩ 29 := ⟨(fun_mk (st := s_law) l29 c29 k29), PySem.W.mg_of X G a29, fun _ => (fun_mk (st := s_law) l29 c29 k29).binds (ps := ["_law_script"]) fun _ _ _ _ _ _ us hl => match us, hl with | [_], _ => rfl, fun n ks ar ds h => by simp [kc] at h, (fun z => by cases z)⟩
  have gg : GlAll mg c gl := ⟨trivial, trivial, trivial, trivial, trivial, trivial, trivial, trivial, trivial, trivial, trivial, trivial, trivial, trivial, trivial, trivial, trivial, trivial, trivial, trivial, trivial, trivial, trivial, trivial, trivial, trivial, trivial, trivial, trivial, trivial, gl_int (PySem.W.mg_of X G qg0), gl_int (PySem.W.mg_of X G qg1), gl_int (PySem.W.mg_of X G qg2), PySem.W.mg_none_of X G qz0, PySem.W.mg_none_of X G qz1, PySem.W.mg_none_of X G qz2, PySem.W.mg_none_of X G qz3, PySem.W.mg_none_of X G qz4, PySem.W.mg_none_of X G qz5, PySem.W.mg_none_of X G qz6, PySem.W.mg_none_of X G qz7, PySem.W.mg_none_of X G qz8, PySem.W.mg_none_of X G qz9, PySem.W.mg_none_of X G qz10, PySem.W.mg_none_of X G qz11, PySem.W.mg_none_of X G qz12, trivial⟩
  have rr : RowsAll K mg c kc 0 defs [(PySem.W.fnOf "_law_purse" "_law_purse" (defArgs s__law_purse) (defBody s__law_purse) (defScope s__law_purse) .none kV0 dc0 pm0 an0 cd0 ct0), (PySem.W.fnOf "_law_take" "_law_take" (defArgs s__law_take) (defBody s__law_take) (defScope s__law_take) .none kV1 dc1 pm1 an1 cd1 ct1), (PySem.W.fnOf "_law_height" "_law_height" (defArgs s__law_height) (defBody s__law_height) (defScope s__law_height) .none kV2 dc2 pm2 an2 cd2 ct2), (PySem.W.fnOf "_law_rooms" "_law_rooms" (defArgs s__law_rooms) (defBody s__law_rooms) (defScope s__law_rooms) .none kV3 dc3 pm3 an3 cd3 ct3), (PySem.W.fnOf "_law_free" "_law_free" (defArgs s__law_free) (defBody s__law_free) (defScope s__law_free) .none kV4 dc4 pm4 an4 cd4 ct4), (PySem.W.fnOf "_law_map" "_law_map" (defArgs s__law_map) (defBody s__law_map) (defScope s__law_map) .none kV5 dc5 pm5 an5 cd5 ct5), (PySem.W.fnOf "_law_got" "_law_got" (defArgs s__law_got) (defBody s__law_got) (defScope s__law_got) .none kV6 dc6 pm6 an6 cd6 ct6), (PySem.W.fnOf "_law_number" "_law_number" (defArgs s__law_number) (defBody s__law_number) (defScope s__law_number) .none kV7 dc7 pm7 an7 cd7 ct7), (PySem.W.fnOf "_law_is_pair" "_law_is_pair" (defArgs s__law_is_pair) (defBody s__law_is_pair) (defScope s__law_is_pair) .none kV8 dc8 pm8 an8 cd8 ct8), (PySem.W.fnOf "_law_right" "_law_right" (defArgs s__law_right) (defBody s__law_right) (defScope s__law_right) .none kV9 dc9 pm9 an9 cd9 ct9), (PySem.W.fnOf "is_whole" "is_whole" (defArgs s_is_whole) (defBody s_is_whole) (defScope s_is_whole) .none kV10 dc10 pm10 an10 cd10 ct10), (PySem.W.fnOf "is_within" "is_within" (defArgs s_is_within) (defBody s_is_within) (defScope s_is_within) .none kV11 dc11 pm11 an11 cd11 ct11), (PySem.W.fnOf "check_height" "check_height" (defArgs s_check_height) (defBody s_check_height) (defScope s_check_height) .none kV12 dc12 pm12 an12 cd12 ct12), (PySem.W.fnOf "all_sizes" "all_sizes" (defArgs s_all_sizes) (defBody s_all_sizes) (defScope s_all_sizes) .none kV13 dc13 pm13 an13 cd13 ct13), (PySem.W.fnOf "wide" "wide" (defArgs s_wide) (defBody s_wide) (defScope s_wide) .none kV14 dc14 pm14 an14 cd14 ct14), (PySem.W.fnOf "is_one_room" "is_one_room" (defArgs s_is_one_room) (defBody s_is_one_room) (defScope s_is_one_room) .none kV15 dc15 pm15 an15 cd15 ct15), (PySem.W.fnOf "touch" "touch" (defArgs s_touch) (defBody s_touch) (defScope s_touch) .none kV16 dc16 pm16 an16 cd16 ct16), (PySem.W.fnOf "check_rooms" "check_rooms" (defArgs s_check_rooms) (defBody s_check_rooms) (defScope s_check_rooms) .none kV17 dc17 pm17 an17 cd17 ct17), (PySem.W.fnOf "check_out" "check_out" (defArgs s_check_out) (defBody s_check_out) (defScope s_check_out) .none kV18 dc18 pm18 an18 cd18 ct18), (PySem.W.fnOf "check_size" "check_size" (defArgs s_check_size) (defBody s_check_size) (defScope s_check_size) .none kV19 dc19 pm19 an19 cd19 ct19), (PySem.W.fnOf "check_wish" "check_wish" (defArgs s_check_wish) (defBody s_check_wish) (defScope s_check_wish) .none kV20 dc20 pm20 an20 cd20 ct20), (PySem.W.fnOf "best_of" "best_of" (defArgs s_best_of) (defBody s_best_of) (defScope s_best_of) .none kV21 dc21 pm21 an21 (.ref tc21) ct21), (PySem.W.fnOf "split" "split" (defArgs s_split) (defBody s_split) (defScope s_split) .none kV22 dc22 pm22 an22 cd22 ct22), (PySem.W.fnOf "parts_of" "parts_of" (defArgs s_parts_of) (defBody s_parts_of) (defScope s_parts_of) .none kV23 dc23 pm23 an23 cd23 ct23), (PySem.W.fnOf "mapped" "mapped" (defArgs s_mapped) (defBody s_mapped) (defScope s_mapped) .none kV24 dc24 pm24 an24 cd24 ct24), (PySem.W.fnOf "free_rooms" "free_rooms" (defArgs s_free_rooms) (defBody s_free_rooms) (defScope s_free_rooms) .none kV25 dc25 pm25 an25 cd25 ct25), (PySem.W.fnOf "room_by" "room_by" (defArgs s_room_by) (defBody s_room_by) (defScope s_room_by) .none kV26 dc26 pm26 an26 cd26 ct26), (PySem.W.fnOf "room_for" "room_for" (defArgs s_room_for) (defBody s_room_for) (defScope s_room_for) .none kV27 dc27 pm27 an27 cd27 ct27), (PySem.W.fnOf "_law_all_right" "_law_all_right" (defArgs s__law_all_right) (defBody s__law_all_right) (defScope s__law_all_right) .none kV28 dc28 pm28 an28 cd28 ct28), (PySem.W.fnOf "law" "law" (defArgs s_law) (defBody s_law) (defScope s_law) .none kV29 dc29 pm29 an29 cd29 ct29)] := ⟨r0, r1, r2, r3, r4, r5, r6, r7, r8, r9, r10, r11, r12, r13, r14, r15, r16, r17, r18, r19, r20, r21, r22, r23, r24, r25, r26, r27, r28, r29, trivial⟩
  refine ⟨(PySem.W.fnOf "law" "law" (defArgs s_law) (defBody s_law) (defScope s_law) .none kV29 dc29 pm29 an29 cd29 ct29), c.cs, fun p hp => by
    simp only [c, List.mem_cons, List.not_mem_nil, or_false] at hp
    subst hp; exact tg21, fun p hp => by
    simp only [c, List.mem_cons, List.not_mem_nil, or_false] at hp
    subst hp; exact tn21, fun p hp => by
    simp only [c, List.mem_cons, List.not_mem_nil, or_false] at hp
    subst hp; exact PySem.W.codeHd_of_K X th21, fun s v => .of_eq rfl, fun base _ _ tabs => ?_⟩
  exact law_ok (c := c) rfl (by simp [c]) (all_ok (c := c) rfl tabs text_ok rr gg 13 (i := 29) rfl rfl rfl) run
theorem walk {l : PySem.W.OpenLaw} {q : Program} {loose : List Str} {XP : (Str → Option Value) → PySem.Heap → Prop} {YP : World → PySem.Heap → Prop} {d : DefRec} {K : Params → PySem.W.Frag} (hn : l.most = some 63) (hdf : d.params.defaults = [])
    (hY : ∀ (w : World) (h : PySem.Heap), YP w h → (K w.params).In h)
    (F : ∀ (w : World) (mg : Str → Option Value) (fa : Addr) (h : PySem.Heap), YP w h → (K w.params).In h → h.Ns mainGlobals mg → mg d.name = some (.ref fa) →
      ∃ (fd : FuncData) (cs : List (Addr × Addr)), (∀ p ∈ cs, h.get? p.2 = some { cls := .none, data := .fields #[] }) ∧ (∀ p ∈ cs, (K w.params).lookup p.2 = none) ∧ (∀ p ∈ cs, PySem.W.CodeHd h p.1 p.2) ∧ (∀ (s : Shared) (u : Value), BindsTo s fd ⟨[u], []⟩ [("_law_script", u)]) ∧ ∀ base : PySem.Heap, (K w.params).In base → base.Ns mainGlobals mg → (∀ p ∈ cs, LamX.TabB base mg p.1 p.2) → FnOk l.prog w (K w.params) mg base CX0 16 fa fd ["_law_script"] (MPS.spLaw cs (K w.params) 63)) :
    PySem.W.WalkO q loose XP YP l.row.toRowW d [] (fun f vs => PySem.call f vs) :=
  law_end (n := 63) (j := 16) (x := "_law_script") hn (by decide) ⟨rfl, by decide, by decide⟩ hdf hY F
end K09
open PySem PySem.W PyProof.Rows
set_option maxRecDepth 100000 in
set_option maxHeartbeats 0 in
theorem PySem.Challenge.cw_roomhalves_k09_the_room_for_a_wish_holds : PySem.Challenge.rw_roomhalves_k09_the_room_for_a_wish.Holds := by
  w_on; o_law; k_head; (case hw => w_witness2)
  k_fill
  refine K09.walk (l := PySem.Challenge.rw_roomhalves_k09_the_room_for_a_wish) rfl rfl (fun w h Y => PySem.W.km_in_of Y) ?F
  case F =>
    intro w mg fa h Y KX G hmg
    refine' K09.all_mk KX G hmg ?a0 ?l0 ?c0 ?k0 ?a1 ?l1 ?c1 ?k1 ?a2 ?l2 ?c2 ?k2 ?a3 ?l3 ?c3 ?k3 ?a4 ?l4 ?c4 ?k4 ?a5 ?l5 ?c5 ?k5 ?a6 ?l6 ?c6 ?k6 ?a7 ?l7 ?c7 ?k7 ?a8 ?l8 ?c8 ?k8 ?a9 ?l9 ?c9 ?k9 ?a10 ?l10 ?c10 ?k10 ?a11 ?l11 ?c11 ?k11 ?a12 ?l12 ?c12 ?k12 ?a13 ?l13 ?c13 ?k13 ?a14 ?l14 ?c14 ?k14 ?a15 ?l15 ?c15 ?k15 ?a16 ?l16 ?c16 ?k16 ?a17 ?l17 ?c17 ?k17 ?a18 ?l18 ?c18 ?k18 ?a19 ?l19 ?c19 ?k19 ?a20 ?l20 ?c20 ?k20 ?a21 ?l21 ?c21 ?k21 ?ta21 ?ti21 ?th21 ?tn21 ?tg21 ?a22 ?l22 ?c22 ?k22 ?a23 ?l23 ?c23 ?k23 ?a24 ?l24 ?c24 ?k24 ?a25 ?l25 ?c25 ?k25 ?a26 ?l26 ?c26 ?k26 ?a27 ?l27 ?c27 ?k27 ?a28 ?l28 ?c28 ?k28 ?a29 ?l29 ?c29 ?k29 ?qg0 ?qg1 ?qg2 ?qz0 ?qz1 ?qz2 ?qz3 ?qz4 ?qz5 ?qz6 ?qz7 ?qz8 ?qz9 ?qz10 ?qz11 ?qz12 K09.run_ok
    (case a0 => k_is)
    (case l0 => k_is)
    (case c0 => k_is)
    (case k0 => k_is)
    (case a1 => k_is)
    (case l1 => k_is)
    (case c1 => k_is)
    (case k1 => k_is)
    (case a2 => k_is)
    (case l2 => k_is)
    (case c2 => k_is)
    (case k2 => k_is)
    (case a3 => k_is)
    (case l3 => k_is)
    (case c3 => k_is)
    (case k3 => k_is)
    (case a4 => k_is)
    (case l4 => k_is)
    (case c4 => k_is)
    (case k4 => k_is)
    (case a5 => k_is)
    (case l5 => k_is)
    (case c5 => k_is)
    (case k5 => k_is)
    (case a6 => k_is)
    (case l6 => k_is)
    (case c6 => k_is)
    (case k6 => k_is)
    (case a7 => k_is)
    (case l7 => k_is)
    (case c7 => k_is)
    (case k7 => k_is)
    (case a8 => k_is)
    (case l8 => k_is)
    (case c8 => k_is)
    (case k8 => k_is)
    (case a9 => k_is)
    (case l9 => k_is)
    (case c9 => k_is)
    (case k9 => k_is)
    (case a10 => k_is)
    (case l10 => k_is)
    (case c10 => k_is)
    (case k10 => k_is)
    (case a11 => k_is)
    (case l11 => k_is)
    (case c11 => k_is)
    (case k11 => k_is)
    (case a12 => k_is)
    (case l12 => k_is)
    (case c12 => k_is)
    (case k12 => k_is)
    (case a13 => k_is)
    (case l13 => k_is)
    (case c13 => k_is)
    (case k13 => k_is)
    (case a14 => k_is)
    (case l14 => k_is)
    (case c14 => k_is)
    (case k14 => k_is)
    (case a15 => k_is)
    (case l15 => k_is)
    (case c15 => k_is)
    (case k15 => k_is)
    (case a16 => k_is)
    (case l16 => k_is)
    (case c16 => k_is)
    (case k16 => k_is)
    (case a17 => k_is)
    (case l17 => k_is)
    (case c17 => k_is)
    (case k17 => k_is)
    (case a18 => k_is)
    (case l18 => k_is)
    (case c18 => k_is)
    (case k18 => k_is)
    (case a19 => k_is)
    (case l19 => k_is)
    (case c19 => k_is)
    (case k19 => k_is)
    (case a20 => k_is)
    (case l20 => k_is)
    (case c20 => k_is)
    (case k20 => k_is)
    (case a21 => k_is)
    (case l21 => k_is)
    (case c21 => k_is)
    (case k21 => k_is)
    (case ta21 => k_is)
    (case ti21 => exact rfl)
    (case th21 => kernel_rfl)
    (case tn21 => kernel_rfl)
    (case tg21 => exact PySem.W.km_tabs_of Y _ (by decide))
    (case a22 => k_is)
    (case l22 => k_is)
    (case c22 => k_is)
    (case k22 => k_is)
    (case a23 => k_is)
    (case l23 => k_is)
    (case c23 => k_is)
    (case k23 => k_is)
    (case a24 => k_is)
    (case l24 => k_is)
    (case c24 => k_is)
    (case k24 => k_is)
    (case a25 => k_is)
    (case l25 => k_is)
    (case c25 => k_is)
    (case k25 => k_is)
    (case a26 => k_is)
    (case l26 => k_is)
    (case c26 => k_is)
    (case k26 => k_is)
    (case a27 => k_is)
    (case l27 => k_is)
    (case c27 => k_is)
    (case k27 => k_is)
    (case a28 => k_is)
    (case l28 => k_is)
    (case c28 => k_is)
    (case k28 => k_is)
    (case a29 => k_is)
    (case l29 => k_is)
    (case c29 => k_is)
    (case k29 => k_is)
    (case qg0 => k_is)
    (case qg1 => k_is)
    (case qg2 => k_is)
    (case qz0 => k_is)
    (case qz1 => k_is)
    (case qz2 => k_is)
    (case qz3 => k_is)
    (case qz4 => k_is)
    (case qz5 => k_is)
    (case qz6 => k_is)
    (case qz7 => k_is)
    (case qz8 => k_is)
    (case qz9 => k_is)
    (case qz10 => k_is)
    (case qz11 => k_is)
    (case qz12 => k_is)
