import PyProof.Rows.All
import Wide.All
import OpenK.AllK
import Wide.FinOn
import HandS.ForMost
import HandS.IsInst
import HandS.Defaults
import HandS.TupAny
import HandS.Deep
import HandS.Zip
import HandS.NoneIn
import HandS.Codes
import HandS.Exc
import HandS.WideBits
import HandS.TupLe
import HandS.Style
import HandS.Words
import PySem.Challenge.RW_roomhalves_k02_rooms_of_any_kind
set_option autoImplicit false
set_option linter.all false
set_option Elab.async false
set_option maxRecDepth 100000
set_option maxHeartbeats 0
namespace MP
open PySem (Str)

/-- the longest list that is let -/
def SZ : Nat := 16777216

inductive Val where
  | non | bl (b : Bool) | int (i : Int) | str (s : Str)
  | tup (l : List Val) | lst (l : List Val) | scr (l : List Val) | dct (ks vs : List Val)
  | loc (n : Nat) | fn (n : Nat) | ty (s : String)
  deriving Inhabited

mutual
def Val.beq : Val → Val → Bool
  | .non, .non => true
  | .bl a, .bl b => a == b
  | .int a, .int b => a == b
  | .str a, .str b => decide (a = b)
  | .tup a, .tup b => Val.beqL a b
  | .lst a, .lst b => Val.beqL a b
  | .scr a, .scr b => Val.beqL a b
  | .dct a c, .dct b d => Val.beqL a b && Val.beqL c d
  | .loc a, .loc b => a == b
  | .fn a, .fn b => a == b
  | .ty a, .ty b => a == b
  | _, _ => false
def Val.beqL : List Val → List Val → Bool
  | [], [] => true
  | x :: xs, y :: ys => Val.beq x y && Val.beqL xs ys
  | _, _ => false
end
mutual
theorem Val.beq_eq : ∀ a b : Val, Val.beq a b = true → a = b
  | .non, b => by cases b <;> simp [Val.beq]
  | .bl _, b => by cases b <;> simp [Val.beq]
  | .int _, b => by cases b <;> simp [Val.beq]
  | .str _, b => by cases b <;> simp [Val.beq]
  | .tup l, b => by
    cases b with
    | tup m => intro h; rw [Val.beqL_eq l m (by simpa [Val.beq] using h)]
    | _ => simp [Val.beq]
  | .lst l, b => by
    cases b with
    | lst m => intro h; rw [Val.beqL_eq l m (by simpa [Val.beq] using h)]
    | _ => simp [Val.beq]
  | .scr l, b => by
    cases b with
    | scr m => intro h; rw [Val.beqL_eq l m (by simpa [Val.beq] using h)]
    | _ => simp [Val.beq]
  | .dct k v, b => by
    cases b with
    | dct k' v' =>
      intro h
      simp only [Val.beq, Bool.and_eq_true] at h
      rw [Val.beqL_eq k k' h.1, Val.beqL_eq v v' h.2]
    | _ => simp [Val.beq]
  | .loc _, b => by cases b <;> simp [Val.beq]
  | .fn _, b => by cases b <;> simp [Val.beq]
  | .ty _, b => by cases b <;> simp [Val.beq]
theorem Val.beqL_eq : ∀ a b : List Val, Val.beqL a b = true → a = b
  | [], b => by cases b <;> simp [Val.beqL]
  | x :: xs, b => by
    cases b with
    | nil => simp [Val.beqL]
    | cons y ys =>
      intro h
      simp only [Val.beqL, Bool.and_eq_true] at h
      rw [Val.beq_eq x y h.1, Val.beqL_eq xs ys h.2]
end
mutual
theorem Val.beq_rfl : ∀ a : Val, Val.beq a a = true
  | .non => by simp [Val.beq]
  | .bl _ => by simp [Val.beq]
  | .int _ => by simp [Val.beq]
  | .str _ => by simp [Val.beq]
  | .tup l => by simp [Val.beq, Val.beqL_rfl l]
  | .lst l => by simp [Val.beq, Val.beqL_rfl l]
  | .scr l => by simp [Val.beq, Val.beqL_rfl l]
  | .dct k v => by simp [Val.beq, Val.beqL_rfl k, Val.beqL_rfl v]
  | .loc _ => by simp [Val.beq]
  | .fn _ => by simp [Val.beq]
  | .ty _ => by simp [Val.beq]
theorem Val.beqL_rfl : ∀ a : List Val, Val.beqL a a = true
  | [] => by simp [Val.beqL]
  | x :: xs => by simp [Val.beqL, Val.beq_rfl x, Val.beqL_rfl xs]
end
instance : DecidableEq Val := fun a b =>
  match h : Val.beq a b with
  | true => .isTrue (Val.beq_eq a b h)
  | false => .isFalse fun e => by rw [e, Val.beq_rfl] at h; cases h

mutual
/-- no local object within -/
def Val.noLoc : Val → Bool
  | .tup l => noLocL l
  | .lst l => noLocL l
  | .scr l => noLocL l
  | .dct k v => noLocL k && noLocL v
  | .loc _ => false
  | _ => true
def noLocL : List Val → Bool
  | [] => true
  | x :: xs => x.noLoc && noLocL xs
end
mutual
/-- no list and no dict within -/
def Val.noLst : Val → Bool
  | .tup l => noLstL l
  | .lst _ => false
  | .scr _ => false
  | .dct _ _ => false
  | .loc _ => false
  | _ => true
def noLstL : List Val → Bool
  | [] => true
  | x :: xs => x.noLst && noLstL xs
end
mutual
/-- == of Python, over data -/
def Val.eqv : Val → Val → Bool
  | .non, .non => true
  | .bl a, .bl b => a == b
  | .bl a, .int j => (if a then 1 else 0) == j
  | .int i, .bl b => i == (if b then 1 else 0)
  | .int i, .int j => i == j
  | .str x, .str y => x == y
  | .lst xs, .lst ys => eqvL xs ys
  | .tup xs, .tup ys => eqvL xs ys
  | _, _ => false
def eqvL : List Val → List Val → Bool
  | [], [] => true
  | x :: xs, y :: ys => Val.eqv x y && eqvL xs ys
  | _, _ => false
end
mutual
/-- data that == is known of: depth at most n -/
def Val.okD : Nat → Val → Bool
  | 0, .tup _ => false
  | 0, .lst _ => false
  | n + 1, .tup l => okDL n l
  | n + 1, .lst l => okDL n l
  | _, .str s => s.cps.all (· < 0x110000)
  | _, .non => true
  | _, .bl _ => true
  | _, .int _ => true
  | _, _ => false
def okDL : Nat → List Val → Bool
  | _, [] => true
  | n, x :: xs => x.okD n && okDL n xs
end

inductive LObj where
  | list (l : List Val)
  | dict (ks vs : List Val)
  deriving DecidableEq

abbrev Heap := List LObj
abbrev Env := List (Option Val)

inductive BK where
  | add | sub | mul | fdiv | mod | pow | shl | shr | band | bor | bxor
  deriving DecidableEq
inductive CK where
  | eq | ne | lt | le | gt | ge | isn | isnn | mem | nmem | ist | isnt
  deriving DecidableEq
/-- built-ins of one value, of two -/
inductive B1 where
  | len | int | bool | str | sum | any | all | tuple | max | min | abs
  deriving DecidableEq
inductive B2 where
  | max | min | divmod
  deriving DecidableEq

def small (i : Int) : Bool := decide (-(2 ^ 64) < i) && decide (i < 2 ^ 64)
def binI : BK → Int → Int → Option Int
  | .add, i, j => some (i + j)
  | .sub, i, j => some (i - j)
  | .mul, i, j => if small i || small j then some (i * j) else none
  | .fdiv, i, j => if decide (0 < j) && decide (j < 1073741824) then some (i / j) else none
  | .mod, i, j => if 0 < j then some (i % j) else none
  | .pow, i, j => if decide (0 ≤ j) && decide (j ≤ 1000000) && decide (i.natAbs < 2 ^ 64) then some (i ^ j.toNat) else none
  | .shl, i, j => if decide (0 ≤ j) && decide (j ≤ 1000000) && decide (i.natAbs < 2 ^ 64) then some (i * 2 ^ j.toNat) else none
  | .shr, i, j => if 0 ≤ j then some (i / 2 ^ j.toNat) else none
  | .band, i, j => if decide (0 ≤ i) && decide (0 ≤ j) then some ((i.toNat &&& j.toNat : Nat) : Int) else none
  | .bor, i, j => if decide (0 ≤ i) && decide (0 ≤ j) then some ((i.toNat ||| j.toNat : Nat) : Int) else none
  | .bxor, i, j => if decide (0 ≤ i) && decide (0 ≤ j) then some ((i.toNat ^^^ j.toNat : Nat) : Int) else none
def binV : BK → Val → Val → Option Val
  | k, .int i, .int j => (binI k i j).map .int
  | .add, .tup xs, .tup ys => if xs.length + ys.length ≤ SZ then some (.tup (xs ++ ys)) else none
  | .add, .str x, .str y => if x.length + y.length ≤ SZ then some (.str (x ++ y)) else none
  | _, _, _ => none

/-- a list or a tuple by its items -/
def seqV (h : Heap) : Val → Option (List Val)
  | .tup l => some l
  | .lst l => some l
  | .scr l => some l
  | .loc n => match h[n]? with
    | some (.list l) => some l
    | _ => none
  | _ => none
def lstV (h : Heap) : Val → Option (List Val)
  | .lst l => some l
  | .loc n => match h[n]? with
    | some (.list l) => some l
    | _ => none
  | _ => none
def scrV (h : Heap) : Val → Option (List Val)
  | .scr l => some l
  | v => lstV h v
/-- local lists as they stand -/
def res (h : Heap) : Val → Option Val
  | .loc n => match h[n]? with
    | some (.list l) => if noLocL l then some (.lst l) else none
    | _ => none
  | v => if v.noLoc then some v else none

def scalar : Val → Bool
  | .non => true
  | .int _ => true
  | .bl _ => true
  | .str _ => true
  | _ => false
/-- == of values: scalars of any kinds, else data -/
def eqV (h : Heap) (a b : Val) : Option Bool :=
  match res h a, res h b with
  | some x, some y => match x, y with
    | .int i, .int j => some (decide (i = j))
    | .str i, .str j => some (decide (i = j))
    | .bl i, .bl j => some (i == j)
    | x, y => if x.okD 60 && y.okD 60 then some (x.eqv y) else none
  | _, _ => none
def intsOf : List Val → Option (List Int)
  | [] => some []
  | .int i :: r => (intsOf r).map (i :: ·)
  | _ :: _ => none
def boolsOf : List Val → Option (List Bool)
  | [] => some []
  | .bl i :: r => (boolsOf r).map (i :: ·)
  | _ :: _ => none
def lexLt : List Int → List Int → Bool
  | [], [] => false
  | [], _ :: _ => true
  | _ :: _, [] => false
  | x :: xs, y :: ys => if x = y then lexLt xs ys else decide (x < y)
def lexLe (a b : List Int) : Bool := !lexLt b a
def memV (h : Heap) (x c : Val) : Option Bool :=
  match seqV h c, res h x with
  | some l, some x => match l, x with
    | l, x => if scalar x && l.all scalar then some (l.any fun y => y.eqv x)
      else if (lstV h c).isSome && (Val.lst l).okD 60 && x.okD 60 then some (l.any fun y => y.eqv x) else none
  | _, _ => none
def cmpV (h : Heap) : CK → Val → Val → Option Bool
  | .eq, a, b => eqV h a b
  | .ne, a, b => (eqV h a b).map (!·)
  | .lt, .int i, .int j => some (decide (i < j))
  | .le, .int i, .int j => some (decide (i ≤ j))
  | .gt, .int i, .int j => some (decide (j < i))
  | .ge, .int i, .int j => some (decide (j ≤ i))
  | .lt, .tup a, .tup b => match intsOf a, intsOf b with
    | some x, some y => some (lexLt x y)
    | _, _ => none
  | .le, .tup a, .tup b => match intsOf a, intsOf b with
    | some x, some y => some (lexLe x y)
    | _, _ => none
  | .isn, a, .non => match a with
    | .non => some true
    | _ => some false
  | .isnn, a, .non => match a with
    | .non => some false
    | _ => some true
  | .ist, .bl a, .bl true => some a
  | .isnt, .bl a, .bl true => some (!a)
  | .mem, x, c => memV h x c
  | .nmem, x, c => (memV h x c).map (!·)
  | _, _, _ => none
def truV (h : Heap) : Val → Option Bool
  | .bl b => some b
  | .non => some false
  | .int i => some (i != 0)
  | v => (seqV h v).map (!·.isEmpty)

def ixN (n : Nat) (i : Int) : Option Nat :=
  if 0 ≤ i then (if i < n then some i.toNat else none) else if -(n : Int) ≤ i then some (i + n).toNat else none
def atI {α : Type} (l : List α) (i : Int) : Option α := (ixN l.length i).bind (l[·]?)
def idxV (h : Heap) (a i : Val) : Option Val :=
  match i with
  | .int i => (seqV h a).bind (atI · i)
  | _ => none
/-- the place that a slice's end comes to -/
def sIx (n d : Nat) : Option Int → Nat
  | none => d
  | some i => if 0 ≤ i then min i.toNat n else (i + n).toNat
def cut (l : List Val) (lo hi : Option Int) : List Val :=
  let a := sIx l.length 0 lo
  (l.drop a).take (sIx l.length l.length hi - a)
def b1V (h : Heap) : B1 → Val → Option Val
  | .len, v => (seqV h v).map fun l => .int l.length
  | .int, .int i => some (.int i)
  | .int, .bl b => some (.int (if b then 1 else 0))
  | .bool, .bl b => some (.bl b)
  | .str, .int i => if i.natAbs.log2 < 1920 then some (.str (Str.ofString (toString i))) else none
  | .sum, v => ((lstV h v).bind intsOf).map fun l => .int l.sum
  | .any, v => ((lstV h v).bind boolsOf).map fun l => .bl (l.any id)
  | .all, v => ((lstV h v).bind boolsOf).map fun l => .bl (l.all id)
  | .tuple, .tup l => some (.tup l)
  | .tuple, v => (lstV h v).map .tup
  | .max, v => ((lstV h v).bind intsOf).bind fun l => l.max?.map .int
  | .min, v => ((lstV h v).bind intsOf).bind fun l => l.min?.map .int
  | .abs, .int i => some (.int (if i < 0 then -i else i))
  | _, _ => none
def b2V : B2 → Val → Val → Option Val
  | .max, .int i, .int j => some (.int (if j > i then j else i))
  | .min, .int i, .int j => some (.int (if j < i then j else i))
  | .divmod, .int i, .int j => if decide (0 < j) && decide (j < 1073741824) then some (.tup [.int (i / j), .int (i % j)]) else none
  | _, _, _ => none
/-- isinstance of a value of a built-in class -/
def tyOf (h : Heap) : Val → Option String
  | .non => some "NoneType"
  | .bl _ => some "bool"
  | .int _ => some "int"
  | .str _ => some "str"
  | .tup _ => some "tuple"
  | .lst _ => some "list"
  | .scr _ => some "list"
  | .dct _ _ => some "dict"
  | .loc n => match h[n]? with
    | some (.list _) => some "list"
    | some (.dict _ _) => some "dict"
    | none => none
  | _ => none
def isiT (t : String) : String → Option Bool
  | "int" => some (t == "int" || t == "bool")
  | "bool" => some (t == "bool")
  | "tuple" => some (t == "tuple")
  | "str" => some (t == "str")
  | "list" => some (t == "list")
  | "dict" => some (t == "dict")
  | _ => none

inductive Tg where
  | n (i : Nat) | t (l : Tg) | nil | cons (a r : Tg)
inductive IE where
  | no | d0
  | k (v : Val) | var (i : Nat) | g (n : Nat)
  | bin (o : BK) (a b : IE) | neg (a : IE)
  | cmp (o : CK) (a b : IE) | cmp2 (o p : CK) (a b c : IE)
  | and (a b : IE) | or (a b : IE) | not (a : IE) | ite (c a b : IE)
  | tr (e : IE) | part (e : IE)
  | tup (es : IE) | anil | acons (e r : IE)
  | idx (a i : IE) | slc (a lo hi : IE)
  | call (f : Nat) (io : List Bool) (es : IE)
  | callk (f : Nat) (io : List Bool) (n m : Nat) (es ks : IE) (ar : List Nat)
  | b1 (b : B1) (a : IE) | b2 (b : B2) (a c : IE) | isi (a : IE) (t : String)
  | pop (o : IE)
  | inl (f : IE) | mk (f : IE)
  | fdisp (es : IE) | fcomp (own : List Nat) (tg : Tg) (it cs e : IE) | fcat (a b : IE) | frep (a b : IE) | fslc (a lo hi : IE) | flist (a : IE)
  | rng1 (a : IE) | rng2 (a b : IE) | rng3 (a b c : IE) | enum (a : IE) | zip (a b : IE) | seq (a : IE)
inductive IS where
  | nil | cons (s r : IS)
  | pass | bad
  | set (i : Nat) (e : IE) | setT (tg : Tg) (e : IE)
  | par (is : List Nat) (es : IE)
  | aug (i : Nat) (o : BK) (e : IE)
  | expr (e : IE) | ret (e : IE) | retN
  | ite (c : IE) (a b : IS)
  | for_ (tg : Tg) (it : IE) (b : IS)
  | while_ (n : Nat) (c : IE) (b : IS)
  | app (o e : IE) | ext (o e : IE)
  | setI (o i e : IE)
  | setS (o lo hi e : IE)
  | brk | cont
  | raise (c : Nat) (e : IE)

/-- an exception: its class's number, what it bears -/
structure Exc where
  cls : Nat
  fld : Val
inductive Res (α : Type) where
  | bad | ok (a : α) (h : Heap) | exc (e : Exc) (h : Heap)
def M (α : Type) := Heap → Res α
def M.bind {α β : Type} (x : M α) (f : α → M β) : M β := fun h => match x h with
  | .ok a h1 => f a h1
  | .exc e h1 => .exc e h1
  | .bad => .bad
def M.pure {α : Type} (a : α) : M α := fun h => .ok a h
instance : Monad M where
  pure := M.pure
  bind := M.bind
def fail {α : Type} : M α := fun _ => .bad
def lift {α : Type} (o : Option α) : M α := fun h => match o with
  | some a => .ok a h
  | none => .bad
def liftH {α : Type} (f : Heap → Option α) : M α := fun h => match f h with
  | some a => .ok a h
  | none => .bad
theorem bind_app {α β : Type} (x : M α) (f : α → M β) (h : Heap) : (x >>= f) h = (match x h with
  | .ok a h1 => f a h1
  | .exc e h1 => .exc e h1
  | .bad => .bad) := rfl
theorem pure_app {α : Type} (a : α) (h : Heap) : (Pure.pure a : M α) h = .ok a h := rfl
theorem fail_app {α : Type} (h : Heap) : (fail : M α) h = .bad := rfl
theorem lift_app {α : Type} (o : Option α) (h : Heap) : lift o h = (match o with
  | some a => .ok a h
  | none => .bad) := rfl
theorem liftH_app {α : Type} (f : Heap → Option α) (h : Heap) : liftH f h = (match f h with
  | some a => .ok a h
  | none => .bad) := rfl

def wipe (own : List Nat) (env : Env) : Env := own.foldr (fun i e => e.set i none) env
mutual
def bindT : Tg → Val → Env → Option Env
  | .n i, v, env => some (env.set i (some v))
  | .t l, .tup vs, env => bindTs l vs env
  | .t l, .lst vs, env => bindTs l vs env
  | _, _, _ => none
def bindTs : Tg → List Val → Env → Option Env
  | .nil, [], env => some env
  | .cons a r, v :: vs, env => (bindT a v env).bind (bindTs r vs)
  | _, _, _ => none
end
/-- a new local list -/
def alloc (l : List Val) : M Val := fun h => .ok (.loc h.length) (h ++ [.list l])
def arrange (vals : List Val) : List Nat → Option (List Val)
  | [] => some []
  | i :: r => (vals[i]?).bind fun v => (arrange vals r).map (v :: ·)
def argsK (n m : Nat) (ar : List Nat) (vs ws : List Val) : Option (List Val) := if vs.length = n ∧ ws.length = m then arrange (vs ++ ws) ar else none
/-- the arguments as a callee gets them: changed ones by what they hold, others as they stand -/
def handOn (h : Heap) : List Bool → List Val → Option (List Val)
  | _, [] => some []
  | true :: bs, .loc n :: r => match h[n]? with
    | some (.list l) => if noLocL l then (handOn h bs r).map (.lst l :: ·) else none
    | _ => none
  | true :: _, _ :: _ => none
  | false :: bs, v :: r => (res h v).bind fun x => (handOn h bs r).map (x :: ·)
  | [], v :: r => (res h v).bind fun x => (handOn h [] r).map (x :: ·)
/-- places of the changed ones -/
def ioAt : List Bool → List Val → List Nat
  | true :: bs, .loc n :: r => n :: ioAt bs r
  | _ :: bs, _ :: r => ioAt bs r
  | _, _ => []
/-- places of the other local ones -/
def roAt : List Bool → List Val → List Nat
  | true :: bs, _ :: r => roAt bs r
  | _ :: bs, .loc n :: r => n :: roAt bs r
  | [], .loc n :: r => n :: roAt [] r
  | _ :: bs, _ :: r => roAt bs r
  | [], _ :: r => roAt [] r
  | _, [] => []
def putBack : List Nat → List (List Val) → Heap → Option Heap
  | [], [], h => some h
  | n :: ns, l :: ls, h => putBack ns ls (h.set n (.list l))
  | _, _, _ => none
def distinct : List Nat → Bool
  | [] => true
  | n :: r => !r.contains n && distinct r

/-- what a def gives: its value (a list of its own is told), what the changed arguments hold then -/
structure Out where
  v : Val
  own : Bool
  outs : List (List Val)
inductive Ret where
  | bad | ret (o : Out) | exc (e : Exc) (outs : List (List Val))
/-- no list within what is handed back, but itself -/
def noLstOut (o : Out) : Bool := match o.own, o.v with
  | true, .lst l => noLstL l
  | _, v => v.noLst
abbrev CB := Nat → List Val → Ret
/-- a call: the value, and whether it is a list of the callee's own -/
def doCall (cb : CB) (f : Nat) (io : List Bool) (vs : List Val) : M (Val × Bool) := fun h =>
  match handOn h io vs with
  | none => .bad
  | some xs =>
    if distinct (ioAt io vs) && (ioAt io vs).all (fun n => !(roAt io vs).contains n) then
      match cb f xs with
      | .bad => .bad
      | .ret o => if (roAt io vs).isEmpty || (noLstOut o && o.outs.all noLstL) then
          match putBack (ioAt io vs) o.outs h with
          | none => .bad
          | some h1 => .ok (o.v, o.own) h1
        else .bad
      | .exc _ _ => .bad
    else .bad
def rngItems (lo : Int) (c : Int) (n : Nat) : List Val := (List.range n).map fun (i : Nat) => .int (lo + (i : Int) * c)
def inR (i : Int) : Bool := decide (-(2 ^ 62) ≤ i) && decide (i < 2 ^ 62)
/-- how many turns range(a, b, c) takes -/
def rngN (a b c : Int) : Nat := if a < b then ((b - a - 1) / c + 1).toNat else 0
def enumItems : Nat → List Val → List Val
  | _, [] => []
  | n, x :: r => .tup [.int n, x] :: enumItems (n + 1) r
def zipItems : List Val → List Val → List Val
  | x :: xs, y :: ys => .tup [x, y] :: zipItems xs ys
  | _, _ => []
/-- items, and the local lists that are walked (they must stay) -/
structure Items where
  l : List Val
  lock : List Nat
def locksOf : Val → List Nat
  | .loc n => [n]
  | _ => []
def stays (lock : List Nat) (h0 h : Heap) : Bool := lock.all fun n => decide (h[n]? = h0[n]?)
def consO : Option Val → List Val → List Val
  | some v, ys => v :: ys
  | none, ys => ys
/-- a comprehension's turns: nothing may be raised there -/
def compL (f : Val → M (Option Val)) (lock : List Nat) (h0 : Heap) : List Val → M (List Val)
  | [], h => .ok [] h
  | x :: r, h => match f x h with
    | .ok y h1 => if stays lock h0 h1 then match compL f lock h0 r h1 with
        | .ok ys h2 => .ok (consO y ys) h2
        | _ => .bad
      else .bad
    | _ => .bad
def getH : M Heap := fun h => .ok h h
def setH (h : Heap) : M Unit := fun _ => .ok () h
def popL (v : Val) : M Val := fun h => match v with
  | .loc n => match h[n]? with
    | some (.list l) => match l.getLast? with
      | some v => .ok v (h.set n (.list l.dropLast))
      | none => .bad
    | _ => .bad
  | _ => .bad
def negV : Val → Option Val
  | .int i => some (.int (-i))
  | _ => none
def boolV : Val → Option Bool
  | .bl b => some b
  | _ => none
def intV : Val → Option Int
  | .int i => some i
  | _ => none
def tupV : Val → Option (List Val)
  | .tup l => some l
  | _ => none
def repV (l : List Val) : Val → Option (List Val)
  | .int n => if decide (-(2 ^ 63) ≤ n) && decide (n < 2 ^ 63) && decide (l.length * n.toNat ≤ SZ) then some (List.replicate n.toNat l).flatten else none
  | _ => none
def ownL : Val × Bool → Option (List Val)
  | (.lst l, true) => some l
  | _ => none
def few (l : List Val) : Option (List Val) := if l.length ≤ SZ then some l else none
def catL (l r : List Val) : Option (List Val) := if l.length + r.length ≤ SZ then some (l ++ r) else none
/-- two lists, or two tuples -/
def pairL (h : Heap) : Val → Val → Option (List Val × List Val)
  | .tup a, .tup b => some (a, b)
  | x, y => match scrV h x, scrV h y with
    | some a, some b => some (a, b)
    | _, _ => none
def rngI1 : Val → Option Items
  | .int n => if inR n then some ⟨rngItems 0 1 n.toNat, []⟩ else none
  | _ => none
def rngI2 : Val → Val → Option Items
  | .int i, .int j => if inR i && inR j then some ⟨rngItems i 1 (j - i).toNat, []⟩ else none
  | _, _ => none
def rngI3 : Val → Val → Val → Option Items
  | .int i, .int j, .int k => if inR i && inR j && decide (k < 1073741824) && decide (0 < k) then some ⟨rngItems i k (rngN i j k), []⟩ else none
  | _, _, _ => none

mutual
def evalE (T : List Val) (cb : CB) (env : Env) : IE → M Val
  | .k v => pure v
  | .d0 => pure (.dct [] [])
  | .var i => lift (env[i]?.bind id)
  | .g n => lift T[n]?
  | .bin o a b => do let x ← evalE T cb env a; let y ← evalE T cb env b; lift (binV o x y)
  | .neg a => do let x ← evalE T cb env a; lift (negV x)
  | .cmp o a b => do let x ← evalE T cb env a; let y ← evalE T cb env b; let r ← liftH fun h => cmpV h o x y; pure (.bl r)
  | .cmp2 o p a b c => do
    let x ← evalE T cb env a
    let y ← evalE T cb env b
    let r ← liftH fun h => cmpV h o x y
    if r then do let z ← evalE T cb env c; let q ← liftH fun h => cmpV h p y z; pure (.bl q) else pure (.bl false)
  | .and a b => do let x ← evalE T cb env a; let t ← lift (boolV x); if t then evalE T cb env b else pure (.bl false)
  | .or a b => do let x ← evalE T cb env a; let t ← lift (boolV x); if t then pure (.bl true) else evalE T cb env b
  | .not a => do let x ← evalE T cb env a; let t ← lift (boolV x); pure (.bl (!t))
  | .ite c a b => do let t ← evalT T cb env c; if t then evalE T cb env a else evalE T cb env b
  | .tup es => do let l ← evalA T cb env es; let l ← lift (few l); pure (.tup l)
  | .idx a i => do let x ← evalE T cb env a; let y ← evalE T cb env i; liftH fun h => idxV h x y
  | .slc a lo hi => do
    let x ← evalE T cb env a
    let l ← evalO T cb env lo
    let r ← evalO T cb env hi
    let vs ← lift (tupV x)
    pure (.tup (cut vs l r))
  | .call f io es => do let vs ← evalA T cb env es; let r ← doCall cb f io vs; pure r.1
  | .callk f io n m es ks ar => do
    let vs ← evalA T cb env es
    let ws ← evalA T cb env ks
    let xs ← lift (argsK n m ar vs ws)
    let r ← doCall cb f io xs
    pure r.1
  | .b1 b a => do let x ← evalE T cb env a; liftH fun h => b1V h b x
  | .b2 b a c => do let x ← evalE T cb env a; let y ← evalE T cb env c; lift (b2V b x y)
  | .isi a t => do let x ← evalE T cb env a; let s ← liftH fun h => tyOf h x; let b ← lift (isiT s t); pure (.bl b)
  | .pop o => do let x ← evalE T cb env o; popL x
  | .inl f => do let l ← evalF T cb env f; pure (.lst l)
  | .mk f => do let l ← evalF T cb env f; alloc l
  | _ => fail
/-- as a test -/
def evalT (T : List Val) (cb : CB) (env : Env) : IE → M Bool
  | .and a b => do let x ← evalT T cb env a; if x then evalT T cb env b else pure false
  | .or a b => do let x ← evalT T cb env a; if x then pure true else evalT T cb env b
  | .not a => do let x ← evalT T cb env a; pure (!x)
  | .cmp o a b => do let x ← evalE T cb env a; let y ← evalE T cb env b; liftH fun h => cmpV h o x y
  | .cmp2 o p a b c => do
    let x ← evalE T cb env a
    let y ← evalE T cb env b
    let r ← liftH fun h => cmpV h o x y
    if r then do let z ← evalE T cb env c; liftH fun h => cmpV h p y z else pure false
  | .tr e => do let x ← evalE T cb env e; liftH fun h => truV h x
  | _ => fail
/-- arguments, from the left -/
def evalA (T : List Val) (cb : CB) (env : Env) : IE → M (List Val)
  | .anil => pure []
  | .acons e r => do let x ← evalE T cb env e; let xs ← evalA T cb env r; pure (x :: xs)
  | _ => fail
/-- an optional part of a slice -/
def evalO (T : List Val) (cb : CB) (env : Env) : IE → M (Option Int)
  | .no => pure none
  | .part e => do let x ← evalE T cb env e; let i ← lift (intV x); pure (some i)
  | _ => fail
/-- a list that is new -/
def evalF (T : List Val) (cb : CB) (env : Env) : IE → M (List Val)
  | .fdisp es => do let l ← evalA T cb env es; lift (few l)
  | .fcat a b => do
    let x ← evalE T cb env a
    let y ← evalE T cb env b
    let l ← liftH fun h => lstV h x
    let r ← liftH fun h => lstV h y
    lift (catL l r)
  | .frep a b => do
    let x ← evalE T cb env a
    let y ← evalE T cb env b
    let l ← liftH fun h => lstV h x
    lift (repV l y)
  | .fslc a lo hi => do
    let x ← evalE T cb env a
    let l ← evalO T cb env lo
    let r ← evalO T cb env hi
    let vs ← liftH fun h => scrV h x
    pure (cut vs l r)
  | .flist a => do let x ← evalE T cb env a; liftH fun h => seqV h x
  | .call f io es => do let vs ← evalA T cb env es; let r ← doCall cb f io vs; lift (ownL r)
  | .fcomp own tg it cs e => do
    let its ← evalI T cb env it
    let _ ← lift (few its.l)
    let h0 ← getH
    compL (fun x => do
        let env1 ← lift (bindT tg x (wipe own env))
        let t ← evalC T cb env1 cs
        if t then do let v ← evalE T cb env1 e; pure (some v) else pure none) its.lock h0 its.l
  | _ => fail
/-- tests of a comprehension -/
def evalC (T : List Val) (cb : CB) (env : Env) : IE → M Bool
  | .anil => pure true
  | .acons c _ => evalT T cb env c
  | _ => fail
/-- what is walked -/
def evalI (T : List Val) (cb : CB) (env : Env) : IE → M Items
  | .rng1 a => do let x ← evalE T cb env a; lift (rngI1 x)
  | .rng2 a b => do let x ← evalE T cb env a; let y ← evalE T cb env b; lift (rngI2 x y)
  | .rng3 a b c => do let x ← evalE T cb env a; let y ← evalE T cb env b; let z ← evalE T cb env c; lift (rngI3 x y z)
  | .enum a => do let x ← evalE T cb env a; let l ← liftH fun h => scrV h x; pure ⟨enumItems 0 l, locksOf x⟩
  | .zip a b => do
    let x ← evalE T cb env a
    let y ← evalE T cb env b
    let p ← liftH fun h => pairL h x y
    pure ⟨zipItems p.1 p.2, locksOf x ++ locksOf y⟩
  | .seq a => do let x ← evalE T cb env a; let l ← liftH fun h => seqV h x; pure ⟨l, locksOf x⟩
  | _ => fail
end

/-- how a statement ends -/
inductive Fl where
  | nx (env : Env) | rt (v : Val) | bk (env : Env) | ct (env : Env)
inductive SRes where
  | bad | ok (f : Fl) (h : Heap) | exc (e : Exc) (env : Env) (h : Heap)
abbrev S := Heap → SRes
/-- an expression, then the rest -/
def andThen {α : Type} (env : Env) (m : M α) (k : α → S) : S := fun h => match m h with
  | .ok a h1 => k a h1
  | .exc e h1 => .exc e env h1
  | .bad => .bad
def goOn (env : Env) : S := fun h => .ok (.nx env) h
def endS (f : Fl) : S := fun h => .ok f h
def badS : S := fun _ => .bad
def forL (bd : Env → S) (tg : Tg) (lock : List Nat) (h0 : Heap) : List Val → Env → S
  | [], env, h => .ok (.nx env) h
  | x :: r, env, h => match bindT tg x env with
    | none => .bad
    | some env1 => match bd env1 h with
      | .ok (.nx e) h1 => if stays lock h0 h1 then forL bd tg lock h0 r e h1 else .bad
      | .ok (.ct e) h1 => if stays lock h0 h1 then forL bd tg lock h0 r e h1 else .bad
      | .ok (.bk e) h1 => .ok (.nx e) h1
      | .ok (.rt v) h1 => .ok (.rt v) h1
      | .exc e env2 h1 => .exc e env2 h1
      | .bad => .bad
def whileL (c : Env → M Bool) (bd : Env → S) : Nat → Env → S
  | 0, _, _ => .bad
  | n + 1, env, h => match c env h with
    | .ok true h1 => match bd env h1 with
      | .ok (.nx e) h2 => whileL c bd n e h2
      | .ok (.ct e) h2 => whileL c bd n e h2
      | .ok (.bk e) h2 => .ok (.nx e) h2
      | .ok (.rt v) h2 => .ok (.rt v) h2
      | .exc e env2 h2 => .exc e env2 h2
      | .bad => .bad
    | .ok false h1 => .ok (.nx env) h1
    | .exc e h1 => .exc e env h1
    | .bad => .bad
def setAll : List Nat → List Val → Env → Option Env
  | [], [], env => some env
  | i :: r, v :: vs, env => setAll r vs (env.set i (some v))
  | _, _, _ => none
def augV (o : BK) : Val → Val → Option Val
  | .int a, .int b => (binI o a b).map Val.int
  | _, _ => none
def locV : Val → Option Nat
  | .loc n => some n
  | _ => none
def appL (n : Nat) (v : Val) (h : Heap) : Option Heap := match h[n]? with
  | some (.list l) => if l.length < SZ then some (h.set n (.list (l ++ [v]))) else none
  | _ => none
def extL (n : Nat) (v : Val) (h : Heap) : Option Heap := match h[n]?, lstV h v with
  | some (.list l), some r => if l.length + r.length ≤ SZ then some (h.set n (.list (l ++ r))) else none
  | _, _ => none
def setIL (x j v : Val) (h : Heap) : Option Heap := match x, j with
  | .loc n, .int j => match h[n]? with
    | some (.list l) => match ixN l.length j with
      | some m => some (h.set n (.list (l.set m v)))
      | none => none
    | _ => none
  | _, _ => none
def setSL (x : Val) (a b : Option Int) (v : Val) (h : Heap) : Option Heap := match x, lstV h v with
  | .loc n, some r => match h[n]? with
    | some (.list l) =>
      if decide (sIx l.length 0 a ≤ sIx l.length l.length b) && decide (l.length + r.length ≤ SZ) then some (h.set n (.list (l.take (sIx l.length 0 a) ++ r ++ l.drop (sIx l.length l.length b)))) else none
    | _ => none
  | _, _ => none
def change (env : Env) (o : Option Heap) : SRes := match o with
  | some h => .ok (.nx env) h
  | none => .bad
def evalS (T : List Val) (cb : CB) : IS → Env → S
  | .nil, env => goOn env
  | .cons s r, env => fun h => match evalS T cb s env h with
    | .ok (.nx e) h1 => evalS T cb r e h1
    | x => x
  | .pass, env => goOn env
  | .bad, _ => badS
  | .set i e, env => andThen env (evalE T cb env e) fun v => goOn (env.set i (some v))
  | .setT tg e, env => andThen env (do let v ← evalE T cb env e; lift (bindT tg v env)) fun e1 => goOn e1
  | .par is es, env => andThen env (do let vs ← evalA T cb env es; lift (setAll is vs env)) fun e1 => goOn e1
  | .aug i o e, env => andThen env (do let x ← lift (env[i]?.bind id); let y ← evalE T cb env e; lift (augV o x y)) fun v => goOn (env.set i (some v))
  | .expr e, env => andThen env (evalE T cb env e) fun _ => goOn env
  | .ret e, env => andThen env (evalE T cb env e) fun v => endS (.rt v)
  | .retN, _ => endS (.rt .non)
  | .ite c a b, env => andThen env (evalT T cb env c) fun t => if t then evalS T cb a env else evalS T cb b env
  | .for_ tg it b, env => andThen env (evalI T cb env it) fun its h => forL (fun e => evalS T cb b e) tg its.lock h its.l env h
  | .while_ n c b, env => whileL (fun e => evalT T cb e c) (fun e => evalS T cb b e) n env
  | .app o e, env => andThen env (do let x ← evalE T cb env o; let n ← lift (locV x); let v ← evalE T cb env e; pure (n, v)) fun p h => change env (appL p.1 p.2 h)
  | .ext o e, env => andThen env (do let x ← evalE T cb env o; let n ← lift (locV x); let v ← evalE T cb env e; pure (n, v)) fun p h => change env (extL p.1 p.2 h)
  | .setI o i e, env => andThen env (do let v ← evalE T cb env e; let x ← evalE T cb env o; let j ← evalE T cb env i; pure (v, x, j)) fun p h => change env (setIL p.2.1 p.2.2 p.1 h)
  | .setS o lo hi e, env => andThen env (do let v ← evalE T cb env e; let x ← evalE T cb env o; let a ← evalO T cb env lo; let b ← evalO T cb env hi; pure (v, x, a, b)) fun p h => change env (setSL p.2.1 p.2.2.1 p.2.2.2 p.1 h)
  | .brk, env => endS (.bk env)
  | .cont, env => endS (.ct env)
  | .raise c e, env => andThen env (evalE T cb env e) fun v h => .exc ⟨c, v⟩ env h

structure Fn where
  np : Nat
  ns : Nat
  io : List Bool
  body : IS
/-- the parameters' slots: changed ones as local lists -/
def enter : List Bool → List Val → Heap → Option (Env × Heap)
  | _, [], h => some ([], h)
  | true :: bs, .lst l :: r, h => (enter bs r (h ++ [.list l])).map fun p => (some (.loc h.length) :: p.1, p.2)
  | true :: _, _ :: _, _ => none
  | _ :: bs, v :: r, h => (enter bs r h).map fun p => (some v :: p.1, p.2)
  | [], v :: r, h => (enter [] r h).map fun p => (some v :: p.1, p.2)
def takeOuts : Nat → Heap → Option (List (List Val))
  | 0, _ => some []
  | _ + 1, [] => none
  | n + 1, .list l :: r => if noLocL l then (takeOuts n r).map (l :: ·) else none
  | _ + 1, .dict _ _ :: _ => none
/-- what is handed back: a local list by its items, never a changed argument itself -/
def leaveV (m : Nat) (v : Val) (h : Heap) : Option (Val × Bool) := match v with
  | .loc n => if m ≤ n then match h[n]? with
      | some (.list l) => if noLocL l then some (.lst l, true) else none
      | _ => none
    else none
  | v => if v.noLoc then some (v, false) else none
def leave (m : Nat) (v : Val) (h : Heap) : Ret :=
  match takeOuts m h, leaveV m v h with
  | some outs, some p => .ret ⟨p.1, p.2, outs⟩
  | _, _ => .bad
def countIo : List Bool → Nat
  | [] => 0
  | true :: r => countIo r + 1
  | false :: r => countIo r
def callFn (T : List Val) (cb : CB) (fn : Fn) (xs : List Val) : Ret :=
  if xs.length = fn.np then
    match enter fn.io xs [] with
    | none => .bad
    | some (env, h) => match evalS T cb fn.body (env ++ List.replicate (fn.ns - fn.np) none) h with
      | .ok (.rt v) h1 => leave (countIo fn.io) v h1
      | .ok (.nx _) h1 => leave (countIo fn.io) .non h1
      | _ => .bad
  else .bad
structure Prog where
  T : List Val
  fns : List Fn
def run (P : Prog) : Nat → CB
  | 0, _, _ => .bad
  | n + 1, f, xs => match P.fns[f]? with
    | some fn => callFn P.T (run P n) fn xs
    | none => .bad
end MP

namespace MP
open PySem (Str)
section
variable {T : List Val} {cb : CB} {env env1 env2 : Env} {h h1 h2 h3 : Heap} {a b c e es ks lo hi tg : IE} {v w x y z : Val} {vs ws l m : List Val}
theorem e_k : evalE T cb env (.k v) h = .ok v h := rfl
theorem e_d0 : evalE T cb env .d0 h = .ok (.dct [] []) h := rfl
theorem e_var {i : Nat} (q : env[i]? = some (some v)) : evalE T cb env (.var i) h = .ok v h := by
  simp [evalE, lift_app, q]
theorem e_bin {o : BK} (ea : evalE T cb env a h = .ok x h1) (eb : evalE T cb env b h1 = .ok y h2) (q : binV o x y = some z) : evalE T cb env (.bin o a b) h = .ok z h2 := by
  simp only [evalE, bind_app, ea, eb, lift_app, q]
theorem e_neg {i : Int} (ea : evalE T cb env a h = .ok (.int i) h1) : evalE T cb env (.neg a) h = .ok (.int (-i)) h1 := by
  simp only [evalE, bind_app, ea, lift_app, negV]
theorem e_cmp {o : CK} {r : Bool} (ea : evalE T cb env a h = .ok x h1) (eb : evalE T cb env b h1 = .ok y h2) (q : cmpV h2 o x y = some r) : evalE T cb env (.cmp o a b) h = .ok (.bl r) h2 := by
  simp only [evalE, bind_app, ea, eb, liftH_app, q, pure_app]
theorem t_cmp {o : CK} {r : Bool} (ea : evalE T cb env a h = .ok x h1) (eb : evalE T cb env b h1 = .ok y h2) (q : cmpV h2 o x y = some r) : evalT T cb env (.cmp o a b) h = .ok r h2 := by
  simp only [evalT, bind_app, ea, eb, liftH_app, q]
theorem e_cmp2 {o p : CK} {r s : Bool} (ea : evalE T cb env a h = .ok x h1) (eb : evalE T cb env b h1 = .ok y h2) (q : cmpV h2 o x y = some r) (ec : r = true → evalE T cb env c h2 = .ok z h2 ∧ cmpV h2 p y z = some s) :
    evalE T cb env (.cmp2 o p a b c) h = .ok (.bl (r && s)) h2 := by
  cases r with
  | false => simp [evalE, bind_app, ea, eb, liftH_app, q, pure_app]
  | true =>
    obtain ⟨e1, e2⟩ := ec rfl
    simp [evalE, bind_app, ea, eb, liftH_app, q, pure_app, e1, e2]
theorem t_cmp2 {o p : CK} {r s : Bool} (ea : evalE T cb env a h = .ok x h1) (eb : evalE T cb env b h1 = .ok y h2) (q : cmpV h2 o x y = some r) (ec : r = true → evalE T cb env c h2 = .ok z h2 ∧ cmpV h2 p y z = some s) :
    evalT T cb env (.cmp2 o p a b c) h = .ok (r && s) h2 := by
  cases r with
  | false => simp [evalT, bind_app, ea, eb, liftH_app, q, pure_app]
  | true =>
    obtain ⟨e1, e2⟩ := ec rfl
    simp [evalT, bind_app, ea, eb, liftH_app, q, pure_app, e1, e2]
theorem e_and {r s : Bool} (ea : evalE T cb env a h = .ok (.bl r) h1) (eb : r = true → evalE T cb env b h1 = .ok (.bl s) h1) : evalE T cb env (.and a b) h = .ok (.bl (r && s)) h1 := by
  cases r with
  | false => simp [evalE, bind_app, ea, lift_app, boolV, pure_app]
  | true => simp [evalE, bind_app, ea, lift_app, boolV, eb rfl]
theorem e_or {r s : Bool} (ea : evalE T cb env a h = .ok (.bl r) h1) (eb : r = false → evalE T cb env b h1 = .ok (.bl s) h1) : evalE T cb env (.or a b) h = .ok (.bl (r || s)) h1 := by
  cases r with
  | true => simp [evalE, bind_app, ea, lift_app, boolV, pure_app]
  | false => simp [evalE, bind_app, ea, lift_app, boolV, eb rfl]
theorem e_not {r : Bool} (ea : evalE T cb env a h = .ok (.bl r) h1) : evalE T cb env (.not a) h = .ok (.bl (!r)) h1 := by
  simp [evalE, bind_app, ea, lift_app, boolV, pure_app]
theorem t_and {r s : Bool} (ea : evalT T cb env a h = .ok r h1) (eb : r = true → evalT T cb env b h1 = .ok s h1) : evalT T cb env (.and a b) h = .ok (r && s) h1 := by
  cases r with
  | false => simp [evalT, bind_app, ea, pure_app]
  | true => simp [evalT, bind_app, ea, eb rfl]
theorem t_or {r s : Bool} (ea : evalT T cb env a h = .ok r h1) (eb : r = false → evalT T cb env b h1 = .ok s h1) : evalT T cb env (.or a b) h = .ok (r || s) h1 := by
  cases r with
  | true => simp [evalT, bind_app, ea, pure_app]
  | false => simp [evalT, bind_app, ea, eb rfl]
theorem t_not {r : Bool} (ea : evalT T cb env a h = .ok r h1) : evalT T cb env (.not a) h = .ok (!r) h1 := by
  simp [evalT, bind_app, ea, pure_app]
theorem t_tr {r : Bool} (ea : evalE T cb env a h = .ok x h1) (q : truV h1 x = some r) : evalT T cb env (.tr a) h = .ok r h1 := by
  simp [evalT, bind_app, ea, liftH_app, q]
theorem e_tup (ea : evalA T cb env es h = .ok l h1) (q : l.length ≤ SZ) : evalE T cb env (.tup es) h = .ok (.tup l) h1 := by
  simp [evalE, bind_app, ea, lift_app, few, q, pure_app]
theorem a_nil : evalA T cb env .anil h = .ok [] h := rfl
theorem a_cons (ea : evalE T cb env a h = .ok x h1) (eb : evalA T cb env es h1 = .ok l h2) : evalA T cb env (.acons a es) h = .ok (x :: l) h2 := by
  simp [evalA, bind_app, ea, eb, pure_app]
theorem e_idx (ea : evalE T cb env a h = .ok x h1) (eb : evalE T cb env b h1 = .ok y h2) (q : idxV h2 x y = some z) : evalE T cb env (.idx a b) h = .ok z h2 := by
  simp [evalE, bind_app, ea, eb, liftH_app, q]
theorem e_b1 {k : B1} (ea : evalE T cb env a h = .ok x h1) (q : b1V h1 k x = some z) : evalE T cb env (.b1 k a) h = .ok z h1 := by
  simp [evalE, bind_app, ea, liftH_app, q]
theorem e_b2 {k : B2} (ea : evalE T cb env a h = .ok x h1) (eb : evalE T cb env b h1 = .ok y h2) (q : b2V k x y = some z) : evalE T cb env (.b2 k a b) h = .ok z h2 := by
  simp [evalE, bind_app, ea, eb, lift_app, q]
theorem e_isi {t s : String} {r : Bool} (ea : evalE T cb env a h = .ok x h1) (q : tyOf h1 x = some s) (q2 : isiT s t = some r) : evalE T cb env (.isi a t) h = .ok (.bl r) h1 := by
  simp [evalE, bind_app, ea, liftH_app, lift_app, q, q2, pure_app]
theorem e_inl (ea : evalF T cb env a h = .ok l h1) : evalE T cb env (.inl a) h = .ok (.lst l) h1 := by
  simp [evalE, bind_app, ea, pure_app]
theorem e_mk (ea : evalF T cb env a h = .ok l h1) : evalE T cb env (.mk a) h = .ok (.loc h1.length) (h1 ++ [.list l]) := by
  simp [evalE, bind_app, ea, alloc]
theorem f_disp (ea : evalA T cb env es h = .ok l h1) (q : l.length ≤ SZ) : evalF T cb env (.fdisp es) h = .ok l h1 := by
  simp [evalF, bind_app, ea, lift_app, few, q]
theorem f_cat (ea : evalE T cb env a h = .ok x h1) (eb : evalE T cb env b h1 = .ok y h2) (q : lstV h2 x = some l) (q2 : lstV h2 y = some m) (q3 : l.length + m.length ≤ SZ) : evalF T cb env (.fcat a b) h = .ok (l ++ m) h2 := by
  simp [evalF, bind_app, ea, eb, liftH_app, lift_app, catL, q, q2, q3]
theorem o_no : evalO T cb env .no h = .ok none h := rfl
theorem o_part {i : Int} (ea : evalE T cb env a h = .ok (.int i) h1) : evalO T cb env (.part a) h = .ok (some i) h1 := by
  simp [evalO, bind_app, ea, lift_app, intV, pure_app]
theorem f_slc {i j : Option Int} (ea : evalE T cb env a h = .ok x h1) (el : evalO T cb env lo h1 = .ok i h2) (eh : evalO T cb env hi h2 = .ok j h3) (q : scrV h3 x = some l) : evalF T cb env (.fslc a lo hi) h = .ok (cut l i j) h3 := by
  simp [evalF, bind_app, ea, el, eh, liftH_app, q, pure_app]
/-- a comprehension without tests that leaves the heap -/
theorem compL_map {F : Val → M (Option Val)} {g : Val → Val} {lock : List Nat} : ∀ {l : List Val}, (∀ x ∈ l, F x h = .ok (some (g x)) h) → compL F lock h l h = .ok (l.map g) h
  | [], _ => rfl
  | x :: r, q => by
    have st : stays lock h h = true := by simp [stays]
    rw [compL, q x List.mem_cons_self]
    simp only [st, if_true]
    rw [compL_map fun y hy => q y (List.mem_cons_of_mem _ hy)]
    rfl
theorem f_comp {own : List Nat} {tg : Tg} {it : IE} {its : Items} {g : Val → Val} (ei : evalI T cb env it h = .ok its h1) (q : its.l.length ≤ SZ) (turn : ∀ x ∈ its.l, ∃ env1, bindT tg x (wipe own env) = some env1 ∧ evalE T cb env1 e h1 = .ok (g x) h1) :
    evalF T cb env (.fcomp own tg it .anil e) h = .ok (its.l.map g) h1 := by
  simp only [evalF, bind_app, ei, lift_app, few, q, if_true, getH]
  refine compL_map fun x hx => ?_
  obtain ⟨env1, e1, e2⟩ := turn x hx
  simp [bind_app, lift_app, e1, evalC, pure_app, e2]
theorem i_rng1 {its : Items} (ea : evalE T cb env a h = .ok x h1) (q : rngI1 x = some its) : evalI T cb env (.rng1 a) h = .ok its h1 := by
  simp [evalI, bind_app, ea, lift_app, q]
theorem i_rng2 {its : Items} (ea : evalE T cb env a h = .ok x h1) (eb : evalE T cb env b h1 = .ok y h2) (q : rngI2 x y = some its) : evalI T cb env (.rng2 a b) h = .ok its h2 := by
  simp [evalI, bind_app, ea, eb, lift_app, q]
theorem i_seq (ea : evalE T cb env a h = .ok x h1) (q : seqV h1 x = some l) : evalI T cb env (.seq a) h = .ok ⟨l, locksOf x⟩ h1 := by
  simp [evalI, bind_app, ea, liftH_app, q, pure_app]
/-- nothing that is changed or lent is handed over -/
theorem d_call {f : Nat} {io : List Bool} {own : Bool} (q : handOn h io vs = some ws) (q1 : ioAt io vs = []) (q2 : roAt io vs = []) (q3 : cb f ws = .ret ⟨v, own, []⟩) : doCall cb f io vs h = .ok (v, own) h := by
  simp [doCall, q, q1, q2, q3, distinct, putBack]
/-- one changed list -/
theorem d_call1 {f n : Nat} {io : List Bool} {own : Bool} (q : handOn h io vs = some ws) (q1 : ioAt io vs = [n]) (q2 : roAt io vs = []) (q3 : cb f ws = .ret ⟨v, own, [l]⟩) : doCall cb f io vs h = .ok (v, own) (h.set n (.list l)) := by
  simp [doCall, q, q1, q2, q3, distinct, putBack]
theorem e_call {f : Nat} {io : List Bool} {own : Bool} (ea : evalA T cb env es h = .ok vs h1) (q : doCall cb f io vs h1 = .ok (v, own) h2) : evalE T cb env (.call f io es) h = .ok v h2 := by
  simp [evalE, bind_app, ea, q, pure_app]
theorem f_call {f : Nat} {io : List Bool} (ea : evalA T cb env es h = .ok vs h1) (q : doCall cb f io vs h1 = .ok (.lst l, true) h2) : evalF T cb env (.call f io es) h = .ok l h2 := by
  simp [evalF, bind_app, ea, q, lift_app, ownL]
theorem e_callk {f n k : Nat} {io : List Bool} {own : Bool} {ar : List Nat} (ea : evalA T cb env es h = .ok vs h1) (eb : evalA T cb env ks h1 = .ok ws h2) (q : argsK n k ar vs ws = some l) (q2 : doCall cb f io l h2 = .ok (v, own) h3) : evalE T cb env (.callk f io n k es ks ar) h = .ok v h3 := by
  simp [evalE, bind_app, ea, eb, lift_app, q, q2, pure_app]
variable {s r : IS} {f : Fl}
theorem s_nil : evalS T cb .nil env h = .ok (.nx env) h := rfl
theorem s_cons (es : evalS T cb s env h = .ok (.nx env1) h1) (er : evalS T cb r env1 h1 = .ok f h2) : evalS T cb (.cons s r) env h = .ok f h2 := by
  simp [evalS, es, er]
theorem s_stop (es : evalS T cb s env h = .ok (.rt v) h1) : evalS T cb (.cons s r) env h = .ok (.rt v) h1 := by
  simp [evalS, es]
theorem s_pass : evalS T cb .pass env h = .ok (.nx env) h := rfl
theorem s_set {i : Nat} (ea : evalE T cb env e h = .ok v h1) : evalS T cb (.set i e) env h = .ok (.nx (env.set i (some v))) h1 := by
  simp [evalS, andThen, ea, goOn]
theorem s_setT {tg : Tg} (ea : evalE T cb env e h = .ok v h1) (q : bindT tg v env = some env1) : evalS T cb (.setT tg e) env h = .ok (.nx env1) h1 := by
  simp [evalS, andThen, bind_app, ea, lift_app, q, goOn]
theorem s_par {is : List Nat} (ea : evalA T cb env es h = .ok vs h1) (q : setAll is vs env = some env1) : evalS T cb (.par is es) env h = .ok (.nx env1) h1 := by
  simp [evalS, andThen, bind_app, ea, lift_app, q, goOn]
theorem s_expr (ea : evalE T cb env e h = .ok v h1) : evalS T cb (.expr e) env h = .ok (.nx env) h1 := by
  simp [evalS, andThen, ea, goOn]
theorem s_ret (ea : evalE T cb env e h = .ok v h1) : evalS T cb (.ret e) env h = .ok (.rt v) h1 := by
  simp [evalS, andThen, ea, endS]
theorem s_ifT {b1 b2 : IS} (ea : evalT T cb env e h = .ok true h1) (q : evalS T cb b1 env h1 = .ok f h2) : evalS T cb (.ite e b1 b2) env h = .ok f h2 := by
  simp [evalS, andThen, ea, q]
theorem s_ifF {b1 b2 : IS} (ea : evalT T cb env e h = .ok false h1) (q : evalS T cb b2 env h1 = .ok f h2) : evalS T cb (.ite e b1 b2) env h = .ok f h2 := by
  simp [evalS, andThen, ea, q]
theorem s_setI {o i : IE} {j : Val} (ea : evalE T cb env e h = .ok v h1) (eo : evalE T cb env o h1 = .ok x h2) (ei : evalE T cb env i h2 = .ok j h3) {h4 : Heap} (q : setIL x j v h3 = some h4) : evalS T cb (.setI o i e) env h = .ok (.nx env) h4 := by
  simp [evalS, andThen, bind_app, ea, eo, ei, pure_app, q, change]
/-- a loop by an invariant: it goes through -/
theorem forL_inv {bd : Env → S} {tg : Tg} {lock : List Nat} {h0 : Heap} (Inv : Env → Heap → Prop) : ∀ {l : List Val}, (∀ x ∈ l, ∀ env h, Inv env h → ∃ env1 e2 h2, bindT tg x env = some env1 ∧ bd env1 h = .ok (.nx e2) h2 ∧ stays lock h0 h2 = true ∧ Inv e2 h2) →
    ∀ env h, Inv env h → ∃ e h', forL bd tg lock h0 l env h = .ok (.nx e) h' ∧ Inv e h'
  | [], _, env, h, i => ⟨env, h, rfl, i⟩
  | x :: r, q, env, h, i => by
    obtain ⟨env1, e2, h2, b1, b2, b3, b4⟩ := q x List.mem_cons_self env h i
    obtain ⟨e, h', f1, f2⟩ := forL_inv Inv (fun y hy => q y (List.mem_cons_of_mem _ hy)) e2 h2 b4
    refine ⟨e, h', ?_, f2⟩
    rw [forL, b1]
    simp only [b2, b3, if_true]
    exact f1
theorem s_for {tg : Tg} {it : IE} {b : IS} {its : Items} (ei : evalI T cb env it h = .ok its h1) (q : forL (fun e => evalS T cb b e) tg its.lock h1 its.l env h1 = .ok f h2) : evalS T cb (.for_ tg it b) env h = .ok f h2 := by
  simp [evalS, andThen, ei, q]
/-- a def -/
theorem call_rt {fn : Fn} {xs : List Val} {h' : Heap} {r : Ret} (hl : xs.length = fn.np) (hn : enter fn.io xs [] = some (env, h)) (hb : evalS T cb fn.body (env ++ List.replicate (fn.ns - fn.np) none) h = .ok (.rt v) h') (q : leave (countIo fn.io) v h' = r) : callFn T cb fn xs = r := by
  simp [callFn, hl, hn, hb, q]
theorem call_nx {fn : Fn} {xs : List Val} {h' : Heap} {r : Ret} (hl : xs.length = fn.np) (hn : enter fn.io xs [] = some (env, h)) (hb : evalS T cb fn.body (env ++ List.replicate (fn.ns - fn.np) none) h = .ok (.nx env1) h') (q : leave (countIo fn.io) .non h' = r) : callFn T cb fn xs = r := by
  simp [callFn, hl, hn, hb, q]
end
end MP

namespace MPS
open PySem PySem.Spec L2 MP
abbrev MHeap := MP.Heap
abbrev MEnv := MP.Env

/-- what stays through a whole program: the written part, where the defs stand -/
structure C where
  K : PySem.W.Frag
  fa : Nat → Addr
  /-- where the classes of exceptions stand, and the field that each bears -/
  ca : Nat → Addr
  cf : Nat → Option Str

/-- a list of the written part -/
def KL (K : PySem.W.Frag) (a : Addr) (xs : List V) : Prop :=
  ∃ (o : Obj) (its : Array Value) (n : Nat), K.lookup a = some o ∧ o.cls = .type "list" ∧ o.dict = none ∧ o.data = .seq its n ∧ its.size ≤ sizeLine ∧ Vals xs its.toList

/-- a list that stays as it is -/
def FL (K : PySem.W.Frag) (H : Hp) (a : Addr) (xs : List V) : Prop := (∃ o, H a = some (.frz o (.lst xs))) ∨ KL K a xs
theorem FL.sq {K : PySem.W.Frag} {H : Hp} {a : Addr} {xs : List V} (h : FL K H a xs) : SqL K H a xs := by
  rcases h with h | h
  · exact .inl (.inr h)
  · exact .inr h
mutual
/-- MP's value d is the layer's x: ml the local lists' places, G what may change -/
def RV (c : C) (H : Hp) (ml : List Addr) (G : Addr → Prop) : Val → V → Prop
  | .non, x => x = .non
  | .bl b, x => x = .bl b
  | .int i, x => x = .int i
  | .str s, x => x = .str s
  | .tup l, x => ∃ a xs, x = .ref a ∧ SqT c.K H a xs ∧ RVs c H ml G l xs
  | .lst l, x => ∃ a xs, x = .ref a ∧ (H a = some (.lst xs) ∧ ¬ G a) ∧ RVs c H ml G l xs
  | .scr l, x => ∃ a xs, x = .ref a ∧ FL c.K H a xs ∧ RVs c H ml G l xs
  | .dct ks vs, x => ks = [] ∧ vs = [] ∧ ∃ a, x = .ref a ∧ H a = some (.dK []) ∧ ¬ G a
  | .loc n, x => ∃ a, ml[n]? = some a ∧ x = .ref a
  | .fn n, x => x = .ref (c.fa n)
  | .ty s, x => x = .ty s
def RVs (c : C) (H : Hp) (ml : List Addr) (G : Addr → Prop) : List Val → List V → Prop
  | [], xs => xs = []
  | d :: ds, xs => ∃ x r, xs = x :: r ∧ RV c H ml G d x ∧ RVs c H ml G ds r
end

section
variable {c : C} {H : Hp} {ml : List Addr} {G : Addr → Prop}
theorem RVs.nil : RVs c H ml G [] [] := by simp [RVs]
theorem RVs.cons {d : Val} {ds : List Val} {x : V} {xs : List V} (h : RV c H ml G d x) (r : RVs c H ml G ds xs) : RVs c H ml G (d :: ds) (x :: xs) := by
  unfold RVs; exact ⟨x, xs, rfl, h, r⟩
theorem RVs.length : ∀ {ds : List Val} {xs : List V}, RVs c H ml G ds xs → xs.length = ds.length
  | [], xs, h => by unfold RVs at h; rw [h]; rfl
  | d :: ds, xs, h => by
    unfold RVs at h
    obtain ⟨x, r, e, _, h2⟩ := h
    rw [e, List.length_cons, List.length_cons, RVs.length h2]
theorem RVs.get : ∀ {ds : List Val} {xs : List V} {i : Nat} {d : Val}, RVs c H ml G ds xs → ds[i]? = some d → ∃ x, xs[i]? = some x ∧ RV c H ml G d x
  | [], _, _, _, _, e => by simp at e
  | d :: ds, xs, 0, d', h, e => by
    unfold RVs at h
    obtain ⟨x, r, e1, h1, _⟩ := h
    simp at e
    subst e; subst e1
    exact ⟨x, rfl, h1⟩
  | d :: ds, xs, i + 1, d', h, e => by
    unfold RVs at h
    obtain ⟨x, r, e1, _, h2⟩ := h
    subst e1
    obtain ⟨y, e2, h3⟩ := RVs.get (i := i) h2 (by simpa using e)
    exact ⟨y, by simpa using e2, h3⟩
theorem RVs.append : ∀ {ds es : List Val} {xs ys : List V}, RVs c H ml G ds xs → RVs c H ml G es ys → RVs c H ml G (ds ++ es) (xs ++ ys)
  | [], _, xs, _, h, h' => by unfold RVs at h; subst h; exact h'
  | d :: ds, es, xs, ys, h, h' => by
    unfold RVs at h
    obtain ⟨x, r, e1, h1, h2⟩ := h
    subst e1
    exact .cons h1 (RVs.append h2 h')
theorem RVs.take : ∀ {ds : List Val} {xs : List V} (n : Nat), RVs c H ml G ds xs → RVs c H ml G (ds.take n) (xs.take n)
  | _, _, 0, _ => by simp [RVs]
  | [], xs, n + 1, h => by unfold RVs at h; subst h; simp [RVs]
  | d :: ds, xs, n + 1, h => by
    unfold RVs at h
    obtain ⟨x, r, e1, h1, h2⟩ := h
    subst e1
    exact .cons h1 (RVs.take n h2)
theorem RVs.drop : ∀ {ds : List Val} {xs : List V} (n : Nat), RVs c H ml G ds xs → RVs c H ml G (ds.drop n) (xs.drop n)
  | ds, xs, 0, h => h
  | [], xs, n + 1, h => by unfold RVs at h; subst h; simp [RVs]
  | d :: ds, xs, n + 1, h => by
    unfold RVs at h
    obtain ⟨x, r, e1, _, h2⟩ := h
    subst e1
    exact RVs.drop n h2
theorem RVs.set : ∀ {ds : List Val} {xs : List V} {d : Val} {x : V} (n : Nat), RVs c H ml G ds xs → RV c H ml G d x → RVs c H ml G (ds.set n d) (xs.set n x)
  | [], xs, _, _, n, h, _ => by unfold RVs at h; subst h; simp [RVs]
  | d :: ds, xs, d', x', 0, h, h' => by
    unfold RVs at h
    obtain ⟨x, r, e1, _, h2⟩ := h
    subst e1
    exact .cons h' h2
  | d :: ds, xs, d', x', n + 1, h, h' => by
    unfold RVs at h
    obtain ⟨x, r, e1, h1, h2⟩ := h
    subst e1
    exact .cons h1 (RVs.set n h2 h')
theorem RVs.isEmpty {ds : List Val} {xs : List V} (h : RVs c H ml G ds xs) : xs.isEmpty = ds.isEmpty := by
  have := h.length
  cases ds <;> cases xs <;> simp_all
theorem RVs.inv {d : Val} {ds : List Val} {xs : List V} (h : RVs c H ml G (d :: ds) xs) : ∃ x r, xs = x :: r ∧ RV c H ml G d x ∧ RVs c H ml G ds r := by unfold RVs at h; exact h
theorem RVs.inv0 {xs : List V} (h : RVs c H ml G [] xs) : xs = [] := by unfold RVs at h; exact h
theorem RVs.flat : ∀ {n : Nat} {ds : List Val} {xs : List V}, RVs c H ml G ds xs → RVs c H ml G (List.replicate n ds).flatten (List.replicate n xs).flatten
  | 0, _, _, _ => by simp [RVs]
  | n + 1, ds, xs, h => by
    rw [List.replicate_succ, List.flatten_cons, List.replicate_succ, List.flatten_cons]
    exact h.append (RVs.flat h)

theorem RV.non : RV c H ml G .non .non := by unfold RV; rfl
theorem RV.bl {b : Bool} : RV c H ml G (.bl b) (.bl b) := by unfold RV; rfl
theorem RV.int {i : Int} : RV c H ml G (.int i) (.int i) := by unfold RV; rfl
theorem RV.str {s : Str} : RV c H ml G (.str s) (.str s) := by unfold RV; rfl
theorem RV.tup {l : List Val} {a : Addr} {xs : List V} (h : SqT c.K H a xs) (r : RVs c H ml G l xs) : RV c H ml G (.tup l) (.ref a) := by unfold RV; exact ⟨a, xs, rfl, h, r⟩
theorem RV.lst {l : List Val} {a : Addr} {xs : List V} (h : H a = some (.lst xs)) (n : ¬ G a) (r : RVs c H ml G l xs) : RV c H ml G (.lst l) (.ref a) := by unfold RV; exact ⟨a, xs, rfl, ⟨h, n⟩, r⟩
theorem RV.scr' {l : List Val} {x : V} (h : RV c H ml G (.scr l) x) : ∃ a xs, x = .ref a ∧ FL c.K H a xs ∧ RVs c H ml G l xs := by unfold RV at h; exact h
theorem RV.loc {n : Nat} {a : Addr} (h : ml[n]? = some a) : RV c H ml G (.loc n) (.ref a) := by unfold RV; exact ⟨a, h, rfl⟩
theorem RV.non' {x : V} (h : RV c H ml G .non x) : x = .non := by unfold RV at h; exact h
theorem RV.bl' {b : Bool} {x : V} (h : RV c H ml G (.bl b) x) : x = .bl b := by unfold RV at h; exact h
theorem RV.int' {i : Int} {x : V} (h : RV c H ml G (.int i) x) : x = .int i := by unfold RV at h; exact h
theorem RV.str' {s : Str} {x : V} (h : RV c H ml G (.str s) x) : x = .str s := by unfold RV at h; exact h
theorem RV.tup' {l : List Val} {x : V} (h : RV c H ml G (.tup l) x) : ∃ a xs, x = .ref a ∧ SqT c.K H a xs ∧ RVs c H ml G l xs := by unfold RV at h; exact h
theorem RV.lst' {l : List Val} {x : V} (h : RV c H ml G (.lst l) x) : ∃ a xs, x = .ref a ∧ (H a = some (.lst xs) ∧ ¬ G a) ∧ RVs c H ml G l xs := by unfold RV at h; exact h
theorem RV.loc' {n : Nat} {x : V} (h : RV c H ml G (.loc n) x) : ∃ a, ml[n]? = some a ∧ x = .ref a := by unfold RV at h; exact h
theorem RV.dct' {ks vs : List Val} {x : V} (h : RV c H ml G (.dct ks vs) x) : ks = [] ∧ vs = [] ∧ ∃ a, x = .ref a ∧ H a = some (.dK []) ∧ ¬ G a := by unfold RV at h; exact h
theorem RV.fn' {n : Nat} {x : V} (h : RV c H ml G (.fn n) x) : x = .ref (c.fa n) := by unfold RV at h; exact h
theorem RV.ty' {s : String} {x : V} (h : RV c H ml G (.ty s) x) : x = .ty s := by unfold RV at h; exact h
end

/-- what may change: nothing that is fixed -/
def Loose : Option HO → Prop
  | some (.tup _) => False
  | some (.frz _ _) => False
  | none => False
  | _ => True
/-- what was to change may have changed, new places may have come; all else stands -/
structure Grow (ml : List Addr) (G : Addr → Prop) (H : Hp) (ml' : List Addr) (G' : Addr → Prop) (H' : Hp) : Prop where
  pre : ∃ new, ml' = ml ++ new ∧ ∀ a ∈ new, H a = none
  gm : ∀ a, G a → G' a
  gn : ∀ a, G' a → G a ∨ H a = none
  fr : ∀ a o, H a = some o → a ∉ ml → H' a = some o
  mg : ∀ a ∈ ml, G a
  ls : ∀ a ∈ ml, Loose (H a)
  ln : ∀ a ∈ ml, H' a ≠ none
theorem Grow.rdT {ml ml' : List Addr} {G G' : Addr → Prop} {H H' : Hp} (g : Grow ml G H ml' G' H') {a : Addr} {xs : List V} (h : Rd H a (.tup xs)) : Rd H' a (.tup xs) := by
  rcases h with h | ⟨o, h⟩
  · exact .inl (g.fr a _ h fun z => by have := g.ls a z; rw [h] at this; exact this)
  · exact .inr ⟨o, g.fr a _ h fun z => by have := g.ls a z; rw [h] at this; exact this⟩
theorem Grow.sqT {K : PySem.W.Frag} {ml ml' : List Addr} {G G' : Addr → Prop} {H H' : Hp} (g : Grow ml G H ml' G' H') {a : Addr} {xs : List V} (h : SqT K H a xs) : SqT K H' a xs := by
  rcases h with h | h
  · exact .inl (g.rdT h)
  · exact .inr h

mutual
theorem RV.monoG {c : C} {H H' : Hp} {ml ml' : List Addr} {G G' : Addr → Prop} (g : Grow ml G H ml' G' H') : ∀ (d : Val) (x : V), RV c H ml G d x → RV c H' ml' G' d x
  | .non, x, h => by unfold RV at h ⊢; exact h
  | .bl _, x, h => by unfold RV at h ⊢; exact h
  | .int _, x, h => by unfold RV at h ⊢; exact h
  | .str _, x, h => by unfold RV at h ⊢; exact h
  | .tup l, x, h => by
    unfold RV at h ⊢
    obtain ⟨a, xs, e, hs, r⟩ := h
    exact ⟨a, xs, e, g.sqT hs, RVs.monoG g l xs r⟩
  | .lst l, x, h => by
    unfold RV at h ⊢
    obtain ⟨a, xs, e, hs, r⟩ := h
    refine ⟨a, xs, e, ?_, RVs.monoG g l xs r⟩
    obtain ⟨hs, ng⟩ := hs
    refine ⟨g.fr a _ hs fun z => ng (g.mg a z), fun z => ?_⟩
    rcases g.gn a z with q | q
    · exact ng q
    · rw [q] at hs; cases hs
  | .scr l, x, h => by
    unfold RV at h ⊢
    obtain ⟨a, xs, e, hs, r⟩ := h
    refine ⟨a, xs, e, ?_, RVs.monoG g l xs r⟩
    rcases hs with ⟨o, hs⟩ | hs
    · exact .inl ⟨o, g.fr a _ hs fun z => by have q := g.ls a z; rw [hs] at q; exact q⟩
    · exact .inr hs
  | .dct ks vs, x, h => by
    unfold RV at h ⊢
    obtain ⟨e1, e2, a, e, hs, ng⟩ := h
    refine ⟨e1, e2, a, e, g.fr a _ hs fun z => ng (g.mg a z), fun z => ?_⟩
    rcases g.gn a z with q | q
    · exact ng q
    · rw [q] at hs; cases hs
  | .loc n, x, h => by
    unfold RV at h ⊢
    obtain ⟨a, e, q⟩ := h
    obtain ⟨new, e2, _⟩ := g.pre
    refine ⟨a, ?_, q⟩
    rw [e2, List.getElem?_append_left (List.getElem?_eq_some_iff.mp e).1]
    exact e
  | .fn _, x, h => by unfold RV at h ⊢; exact h
  | .ty _, x, h => by unfold RV at h ⊢; exact h
theorem RVs.monoG {c : C} {H H' : Hp} {ml ml' : List Addr} {G G' : Addr → Prop} (g : Grow ml G H ml' G' H') : ∀ (ds : List Val) (xs : List V), RVs c H ml G ds xs → RVs c H' ml' G' ds xs
  | [], xs, h => by unfold RVs at h ⊢; exact h
  | d :: ds, xs, h => by
    unfold RVs at h ⊢
    obtain ⟨x, r, e, h1, h2⟩ := h
    exact ⟨x, r, e, RV.monoG g d x h1, RVs.monoG g ds r h2⟩
end
theorem RV.mono {c : C} {H H' : Hp} {ml ml' : List Addr} {G G' : Addr → Prop} {d : Val} {x : V} (r : RV c H ml G d x) (g : Grow ml G H ml' G' H') : RV c H' ml' G' d x := RV.monoG g d x r
theorem RVs.mono {c : C} {H H' : Hp} {ml ml' : List Addr} {G G' : Addr → Prop} {d : List Val} {x : List V} (r : RVs c H ml G d x) (g : Grow ml G H ml' G' H') : RVs c H' ml' G' d x := RVs.monoG g d x r
mutual
theorem RV.longer {c : C} {H : Hp} {ml new : List Addr} {G : Addr → Prop} : ∀ (d : Val) (x : V), RV c H ml G d x → RV c H (ml ++ new) G d x
  | .non, x, h => by unfold RV at h ⊢; exact h
  | .bl _, x, h => by unfold RV at h ⊢; exact h
  | .int _, x, h => by unfold RV at h ⊢; exact h
  | .str _, x, h => by unfold RV at h ⊢; exact h
  | .tup l, x, h => by
    unfold RV at h ⊢
    obtain ⟨a, xs, e, hs, r⟩ := h
    exact ⟨a, xs, e, hs, RVs.longer l xs r⟩
  | .lst l, x, h => by
    unfold RV at h ⊢
    obtain ⟨a, xs, e, hs, r⟩ := h
    exact ⟨a, xs, e, hs, RVs.longer l xs r⟩
  | .scr l, x, h => by
    unfold RV at h ⊢
    obtain ⟨a, xs, e, hs, r⟩ := h
    exact ⟨a, xs, e, hs, RVs.longer l xs r⟩
  | .dct ks vs, x, h => by unfold RV at h ⊢; exact h
  | .loc n, x, h => by
    unfold RV at h ⊢
    obtain ⟨a, e, q⟩ := h
    exact ⟨a, by rw [List.getElem?_append_left (List.getElem?_eq_some_iff.mp e).1]; exact e, q⟩
  | .fn _, x, h => by unfold RV at h ⊢; exact h
  | .ty _, x, h => by unfold RV at h ⊢; exact h
theorem RVs.longer {c : C} {H : Hp} {ml new : List Addr} {G : Addr → Prop} : ∀ (ds : List Val) (xs : List V), RVs c H ml G ds xs → RVs c H (ml ++ new) G ds xs
  | [], xs, h => by unfold RVs at h ⊢; exact h
  | d :: ds, xs, h => by
    unfold RVs at h ⊢
    obtain ⟨x, r, e, h1, h2⟩ := h
    exact ⟨x, r, e, RV.longer d x h1, RVs.longer ds r h2⟩
end
mutual
/-- fewer things that may change; no local place within -/
theorem RV.less {c : C} {H : Hp} {ml ml' : List Addr} {G G' : Addr → Prop} (k : ∀ a, G' a → G a) : ∀ (d : Val) (x : V), d.noLoc = true → RV c H ml G d x → RV c H ml' G' d x
  | .non, x, _, h => by unfold RV at h ⊢; exact h
  | .bl _, x, _, h => by unfold RV at h ⊢; exact h
  | .int _, x, _, h => by unfold RV at h ⊢; exact h
  | .str _, x, _, h => by unfold RV at h ⊢; exact h
  | .tup l, x, n, h => by
    unfold RV at h ⊢
    obtain ⟨a, xs, e, hs, r⟩ := h
    exact ⟨a, xs, e, hs, RVs.less k l xs (by simpa [Val.noLoc] using n) r⟩
  | .lst l, x, n, h => by
    unfold RV at h ⊢
    obtain ⟨a, xs, e, ⟨hs, ng⟩, r⟩ := h
    exact ⟨a, xs, e, ⟨hs, fun z => ng (k a z)⟩, RVs.less k l xs (by simpa [Val.noLoc] using n) r⟩
  | .scr l, x, n, h => by
    unfold RV at h ⊢
    obtain ⟨a, xs, e, hs, r⟩ := h
    exact ⟨a, xs, e, hs, RVs.less k l xs (by simpa [Val.noLoc] using n) r⟩
  | .dct ks vs, x, n, h => by
    unfold RV at h ⊢
    obtain ⟨e1, e2, a, e, hs, ng⟩ := h
    exact ⟨e1, e2, a, e, hs, fun z => ng (k a z)⟩
  | .loc _, x, n, h => by simp [Val.noLoc] at n
  | .fn _, x, _, h => by unfold RV at h ⊢; exact h
  | .ty _, x, _, h => by unfold RV at h ⊢; exact h
theorem RVs.less {c : C} {H : Hp} {ml ml' : List Addr} {G G' : Addr → Prop} (k : ∀ a, G' a → G a) : ∀ (ds : List Val) (xs : List V), noLocL ds = true → RVs c H ml G ds xs → RVs c H ml' G' ds xs
  | [], xs, _, h => by unfold RVs at h ⊢; exact h
  | d :: ds, xs, n, h => by
    unfold RVs at h ⊢
    obtain ⟨x, r, e, h1, h2⟩ := h
    simp only [noLocL, Bool.and_eq_true] at n
    exact ⟨x, r, e, RV.less k d x n.1 h1, RVs.less k ds r n.2 h2⟩
end
mutual
theorem RV.lessG {c : C} {H : Hp} {ml : List Addr} {G G' : Addr → Prop} (k : ∀ a, G' a → G a) : ∀ (d : Val) (x : V), RV c H ml G d x → RV c H ml G' d x
  | .non, x, h => by unfold RV at h ⊢; exact h
  | .bl _, x, h => by unfold RV at h ⊢; exact h
  | .int _, x, h => by unfold RV at h ⊢; exact h
  | .str _, x, h => by unfold RV at h ⊢; exact h
  | .tup l, x, h => by
    unfold RV at h ⊢
    obtain ⟨a, xs, e, hs, r⟩ := h
    exact ⟨a, xs, e, hs, RVs.lessG k l xs r⟩
  | .lst l, x, h => by
    unfold RV at h ⊢
    obtain ⟨a, xs, e, ⟨hs, ng⟩, r⟩ := h
    exact ⟨a, xs, e, ⟨hs, fun z => ng (k a z)⟩, RVs.lessG k l xs r⟩
  | .scr l, x, h => by
    unfold RV at h ⊢
    obtain ⟨a, xs, e, hs, r⟩ := h
    exact ⟨a, xs, e, hs, RVs.lessG k l xs r⟩
  | .dct ks vs, x, h => by
    unfold RV at h ⊢
    obtain ⟨e1, e2, a, e, hs, ng⟩ := h
    exact ⟨e1, e2, a, e, hs, fun z => ng (k a z)⟩
  | .loc _, x, h => by unfold RV at h ⊢; exact h
  | .fn _, x, h => by unfold RV at h ⊢; exact h
  | .ty _, x, h => by unfold RV at h ⊢; exact h
theorem RVs.lessG {c : C} {H : Hp} {ml : List Addr} {G G' : Addr → Prop} (k : ∀ a, G' a → G a) : ∀ (ds : List Val) (xs : List V), RVs c H ml G ds xs → RVs c H ml G' ds xs
  | [], xs, h => by unfold RVs at h ⊢; exact h
  | d :: ds, xs, h => by
    unfold RVs at h ⊢
    obtain ⟨x, r, e, h1, h2⟩ := h
    exact ⟨x, r, e, RV.lessG k d x h1, RVs.lessG k ds r h2⟩
end
mutual
/-- no list within: whatever may change -/
theorem RV.any {c : C} {H : Hp} {ml ml' : List Addr} {G G' : Addr → Prop} : ∀ (d : Val) (x : V), d.noLst = true → RV c H ml G d x → RV c H ml' G' d x
  | .non, x, _, h => by unfold RV at h ⊢; exact h
  | .bl _, x, _, h => by unfold RV at h ⊢; exact h
  | .int _, x, _, h => by unfold RV at h ⊢; exact h
  | .str _, x, _, h => by unfold RV at h ⊢; exact h
  | .tup l, x, n, h => by
    unfold RV at h ⊢
    obtain ⟨a, xs, e, hs, r⟩ := h
    exact ⟨a, xs, e, hs, RVs.any l xs (by simpa [Val.noLst] using n) r⟩
  | .lst l, x, n, h => by simp [Val.noLst] at n
  | .scr l, x, n, h => by simp [Val.noLst] at n
  | .dct ks vs, x, n, h => by simp [Val.noLst] at n
  | .loc _, x, n, h => by simp [Val.noLst] at n
  | .fn _, x, _, h => by unfold RV at h ⊢; exact h
  | .ty _, x, _, h => by unfold RV at h ⊢; exact h
theorem RVs.any {c : C} {H : Hp} {ml ml' : List Addr} {G G' : Addr → Prop} : ∀ (ds : List Val) (xs : List V), noLstL ds = true → RVs c H ml G ds xs → RVs c H ml' G' ds xs
  | [], xs, _, h => by unfold RVs at h ⊢; exact h
  | d :: ds, xs, n, h => by
    unfold RVs at h ⊢
    obtain ⟨x, r, e, h1, h2⟩ := h
    simp only [noLstL, Bool.and_eq_true] at n
    exact ⟨x, r, e, RV.any d x n.1 h1, RVs.any ds r n.2 h2⟩
end

theorem Grow.refl {ml : List Addr} {G : Addr → Prop} {H : Hp} (mg : ∀ a ∈ ml, G a) (ls : ∀ a ∈ ml, Loose (H a)) : Grow ml G H ml G H :=
  ⟨⟨[], by simp, fun _ z => by cases z⟩, fun _ h => h, fun _ h => .inl h, fun _ _ h _ => h, mg, ls, fun a ha z => by have q := ls a ha; rw [z] at q; exact q⟩

/-- what stands at a local place -/
def OR (c : C) (H : Hp) (ml : List Addr) (G : Addr → Prop) : LObj → Addr → Prop
  | .list l, a => ∃ xs, H a = some (.lst xs) ∧ RVs c H ml G l xs
  | .dict _ _, _ => False

/-- THE STATE: MP's slots and local heap beside the layer's -/
structure SR (c : C) (env : MEnv) (h : MHeap) (ml : List Addr) (G : Addr → Prop) (σ : L2.St) (H : Hp) : Prop where
  len : ml.length = h.length
  nd : ml.Nodup
  mg : ∀ a ∈ ml, G a
  tr : ∀ a, G a → H a ≠ none
  obj : ∀ (n : Nat) (o : LObj) (a : Addr), h[n]? = some o → ml[n]? = some a → OR c H ml G o a
  ev : ∀ (i : Nat) (v : Val), env[i]? = some (some v) → ∃ x, σ[i]? = some (some x) ∧ RV c H ml G v x
  el : env.length ≤ σ.length
theorem SR.ls {c : C} {env : MEnv} {h : MHeap} {ml : List Addr} {G : Addr → Prop} {σ : L2.St} {H : Hp} (s : SR c env h ml G σ H) : ∀ a ∈ ml, Loose (H a) := fun a ha => by
  obtain ⟨n, hn⟩ := List.getElem?_of_mem ha
  have hl : n < h.length := by rw [← s.len]; exact (List.getElem?_eq_some_iff.mp hn).1
  obtain ⟨o, ho⟩ : ∃ o, h[n]? = some o := ⟨h[n], List.getElem?_eq_getElem hl⟩
  have q := s.obj n o a ho hn
  cases o with
  | list l => obtain ⟨xs, e, _⟩ := q; rw [e]; exact True.intro
  | dict _ _ => exact q.elim
theorem SR.refl {c : C} {env : MEnv} {h : MHeap} {ml : List Addr} {G : Addr → Prop} {σ : L2.St} {H : Hp} (s : SR c env h ml G σ H) : Grow ml G H ml G H := .refl s.mg s.ls
theorem Grow.trans {ml ml1 ml2 : List Addr} {G G1 G2 : Addr → Prop} {H H1 H2 : Hp} (g : Grow ml G H ml1 G1 H1) (k : Grow ml1 G1 H1 ml2 G2 H2) : Grow ml G H ml2 G2 H2 := by
  obtain ⟨n1, e1, f1⟩ := g.pre
  obtain ⟨n2, e2, f2⟩ := k.pre
  have nm : ∀ a o, H a = some o → a ∉ ml → a ∉ ml1 := fun a o e hn hm => by
    rw [e1] at hm
    rcases List.mem_append.mp hm with hm | hm
    · exact hn hm
    · rw [f1 a hm] at e; cases e
  refine ⟨⟨n1 ++ n2, by rw [e2, e1, List.append_assoc], fun a ha => ?_⟩, fun a h => k.gm a (g.gm a h), fun a h => ?_, fun a o e hn => k.fr a o (g.fr a o e hn) (nm a o e hn), g.mg, g.ls, fun a ha => k.ln a (by rw [e1]; exact List.mem_append_left _ ha)⟩
  · rcases List.mem_append.mp ha with ha | ha
    · exact f1 a ha
    · cases e : H a with
      | none => rfl
      | some o =>
        have q := f2 a ha
        by_cases hm : a ∈ ml
        · exact absurd q (g.ln a hm)
        · rw [g.fr a o e hm] at q; cases q
  · rcases k.gn a h with q | q
    · exact g.gn a q
    · cases e : H a with
      | none => exact .inr rfl
      | some o =>
        by_cases hm : a ∈ ml
        · exact .inl (g.mg a hm)
        · rw [g.fr a o e hm] at q; cases q
theorem Grow.envs {c : C} {env : MEnv} {σ : L2.St} {ml ml' : List Addr} {G G' : Addr → Prop} {H H' : Hp} (g : Grow ml G H ml' G' H') (h : ∀ (i : Nat) (v : Val), env[i]? = some (some v) → ∃ x, σ[i]? = some (some x) ∧ RV c H ml G v x) :
    ∀ (i : Nat) (v : Val), env[i]? = some (some v) → ∃ x, σ[i]? = some (some x) ∧ RV c H' ml' G' v x := fun i v e => by
  obtain ⟨x, e2, r⟩ := h i v e
  exact ⟨x, e2, r.mono g⟩

/-- an exception of MP's beside the layer's: its class, its own dict -/
def ExR (c : C) (H : Hp) (ml : List Addr) (G : Addr → Prop) (e : Exc) (cls : Value) (d : Option Addr) : Prop :=
  cls = .ref (c.ca e.cls) ∧ match c.cf e.cls with
    | none => True
    | some nm => ∃ dx y, d = some dx ∧ H dx = some (.xd [(nm, y)]) ∧ RV c H ml G e.fld y
/-- m's outcome from here: it ends, and whatever state of the layer goes with it, Qa holds; what is raised is as W wishes -/
def Ok {α : Type} (c : C) (W : WX) (env : MEnv) (σ : L2.St) (r : Res α) (ml : List Addr) (G : Addr → Prop) (H : Hp) (Qa : α → MHeap → List Addr → (Addr → Prop) → Hp → Prop) : Prop :=
  match r with
  | .bad => False
  | .ok a h' => ∀ ml' G' H', Grow ml G H ml' G' H' → SR c env h' ml' G' σ H' → Qa a h' ml' G' H'
  | .exc e h' => ∀ ml' G' H' cls d, Grow ml G H ml' G' H' → SR c env h' ml' G' σ H' → ExR c H' ml' G' e cls d → W cls d σ H'
section
variable {α β : Type} {c : C} {W : WX} {env : MEnv} {σ : L2.St} {h : MHeap} {ml : List Addr} {G : Addr → Prop} {H : Hp}
theorem Ok.bind {m : M α} {k : α → M β} {Qa : β → MHeap → List Addr → (Addr → Prop) → Hp → Prop}
    (o : Ok c W env σ ((m >>= k) h) ml G H Qa) : Ok c W env σ (m h) ml G H fun a h1 ml1 G1 H1 => Ok c W env σ (k a h1) ml1 G1 H1 Qa := by
  rw [bind_app] at o
  unfold Ok at o ⊢
  cases e : m h with
  | bad => rw [e] at o; exact o
  | exc x h1 => rw [e] at o; exact o
  | ok a h1 =>
    rw [e] at o
    simp only at o ⊢
    intro ml1 G1 H1 g1 s1
    cases e2 : k a h1 with
    | bad => rw [e2] at o; exact o
    | exc x h2 =>
      rw [e2] at o
      intro ml2 G2 H2 cls d g2 s2 ex
      exact o ml2 G2 H2 cls d (g1.trans g2) s2 ex
    | ok b h2 =>
      rw [e2] at o
      intro ml2 G2 H2 g2 s2
      exact o ml2 G2 H2 (g1.trans g2) s2
theorem Ok.pure {a : α} {Qa : α → MHeap → List Addr → (Addr → Prop) → Hp → Prop}
    (o : Ok c W env σ ((Pure.pure a : M α) h) ml G H Qa) (s : SR c env h ml G σ H) : Qa a h ml G H := o ml G H s.refl s
theorem Ok.lift {r : Option α} {Qa : α → MHeap → List Addr → (Addr → Prop) → Hp → Prop}
    (o : Ok c W env σ (lift r h) ml G H Qa) (s : SR c env h ml G σ H) : ∃ a, r = some a ∧ Qa a h ml G H := by
  unfold MP.lift Ok at o
  cases e : r with
  | none => rw [e] at o; exact o.elim
  | some a => rw [e] at o; exact ⟨a, rfl, o ml G H s.refl s⟩
theorem Ok.liftH {f : MHeap → Option α} {Qa : α → MHeap → List Addr → (Addr → Prop) → Hp → Prop}
    (o : Ok c W env σ (liftH f h) ml G H Qa) (s : SR c env h ml G σ H) : ∃ a, f h = some a ∧ Qa a h ml G H := by
  unfold MP.liftH Ok at o
  cases e : f h with
  | none => rw [e] at o; exact o.elim
  | some a => rw [e] at o; exact ⟨a, rfl, o ml G H s.refl s⟩
theorem Ok.liftB {γ : Type} {r : Option α} {k : α → M γ} {Qa : γ → MHeap → List Addr → (Addr → Prop) → Hp → Prop}
    (o : Ok c W env σ ((do let a ← MP.lift r; k a) h) ml G H Qa) (s : SR c env h ml G σ H) : ∃ a, r = some a ∧ Ok c W env σ (k a h) ml G H Qa := (Ok.bind o).lift s
theorem Ok.liftHB {γ : Type} {f : MHeap → Option α} {k : α → M γ} {Qa : γ → MHeap → List Addr → (Addr → Prop) → Hp → Prop}
    (o : Ok c W env σ ((do let a ← MP.liftH f; k a) h) ml G H Qa) (s : SR c env h ml G σ H) : ∃ a, f h = some a ∧ Ok c W env σ (k a h) ml G H Qa := (Ok.bind o).liftH s
theorem Ok.liftG {r : Option α} {Qa : α → MHeap → List Addr → (Addr → Prop) → Hp → Prop}
    (o : Ok c W env σ (MP.lift r h) ml G H Qa) : ∃ a, r = some a ∧ ∀ ml' G' H', Grow ml G H ml' G' H' → SR c env h ml' G' σ H' → Qa a h ml' G' H' := by
  unfold MP.lift Ok at o
  cases e : r with
  | none => rw [e] at o; exact o.elim
  | some a => rw [e] at o; exact ⟨a, rfl, o⟩
theorem Ok.liftHG {f : MHeap → Option α} {Qa : α → MHeap → List Addr → (Addr → Prop) → Hp → Prop}
    (o : Ok c W env σ (MP.liftH f h) ml G H Qa) : ∃ a, f h = some a ∧ ∀ ml' G' H', Grow ml G H ml' G' H' → SR c env h ml' G' σ H' → Qa a h ml' G' H' := by
  unfold MP.liftH Ok at o
  cases e : f h with
  | none => rw [e] at o; exact o.elim
  | some a => rw [e] at o; exact ⟨a, rfl, o⟩
theorem Ok.fail {Qa : α → MHeap → List Addr → (Addr → Prop) → Hp → Prop}
    (o : Ok c W env σ ((fail : M α) h) ml G H Qa) : False := o
theorem Ok.imp {r : Res α} {Qa Qb : α → MHeap → List Addr → (Addr → Prop) → Hp → Prop}
    (o : Ok c W env σ r ml G H Qa) (k : ∀ a h' ml' G' H', Grow ml G H ml' G' H' → SR c env h' ml' G' σ H' → Qa a h' ml' G' H' → Qb a h' ml' G' H') : Ok c W env σ r ml G H Qb := by
  unfold Ok at o ⊢
  cases e : r with
  | bad => rw [e] at o; exact o
  | exc x h' => rw [e] at o; exact o
  | ok a h' =>
    rw [e] at o
    exact fun ml' G' H' g s => k _ _ _ _ _ g s (o ml' G' H' g s)
end

/-- an expression's reading by its meaning f -/
def tE (c : C) (W : WX) (f : MEnv → M Val) : TE := fun σ H Q => ∃ env h ml G, SR c env h ml G σ H ∧ Ok c W env σ (f env h) ml G H fun v _ ml' G' H' => ∀ x, RV c H' ml' G' v x → Q x H'
def tT (c : C) (W : WX) (f : MEnv → M Bool) : TT := fun σ H Q => ∃ env h ml G, SR c env h ml G σ H ∧ Ok c W env σ (f env h) ml G H fun b _ _ _ H' => Q b H'
def tA (c : C) (W : WX) (f : MEnv → M (List Val)) : TA := fun σ H Q => ∃ env h ml G, SR c env h ml G σ H ∧ Ok c W env σ (f env h) ml G H fun vs _ ml' G' H' => ∀ xs, RVs c H' ml' G' vs xs → Q xs H'
def tO (c : C) (W : WX) (f : MEnv → M (Option Int)) : TO := fun σ H Q => ∃ env h ml G, SR c env h ml G σ H ∧ Ok c W env σ (f env h) ml G H fun o _ _ _ H' => Q o H'
/-- a new list's outcome: it stands at a, reached by nothing else -/
def OkF (c : C) (W : WX) (env : MEnv) (σ : L2.St) (r : Res (List Val)) (ml : List Addr) (G : Addr → Prop) (H : Hp) (Q : VK) : Prop := match r with
  | .bad => False
  | .ok l h' => ∀ ml' G' H' a xs, Grow ml G H ml' G' H' → SR c env h' ml' G' σ H' → H a = none → G' a → a ∉ ml' → H' a = some (.lst xs) → RVs c H' ml' G' l xs → Q (.ref a) H'
  | .exc e h' => ∀ ml' G' H' cls d, Grow ml G H ml' G' H' → SR c env h' ml' G' σ H' → ExR c H' ml' G' e cls d → W cls d σ H'
def tF (c : C) (W : WX) (f : MEnv → M (List Val)) : TE := fun σ H Q => ∃ env h ml G, SR c env h ml G σ H ∧ OkF c W env σ (f env h) ml G H Q
theorem _root_.L2.PE.imp {X : Cx} {e : Expr} {t t' : TE} (h : PE X e t) (k : ∀ σ H Q, t' σ H Q → t σ H Q) : PE X e t' := ⟨fun pins s σ H Q I q => h.run pins s σ H Q I (k σ H Q q)⟩
theorem _root_.L2.PT.imp {X : Cx} {e : Expr} {t t' : TT} (h : PT X e t) (k : ∀ σ H Q, t' σ H Q → t σ H Q) : PT X e t' := ⟨fun pins s σ H Q I q => h.run pins s σ H Q I (k σ H Q q)⟩
theorem _root_.L2.PW.imp {X : Cx} {e : Expr} {t t' : TT} (h : PW X e t) (k : ∀ σ H Q, t' σ H Q → t σ H Q) : PW X e t' := ⟨fun wh pins s σ H Q I q => h.run wh pins s σ H Q I (k σ H Q q)⟩
theorem _root_.L2.PA.imp {X : Cx} {e : List Expr} {t t' : TA} (h : PA X e t) (k : ∀ σ H Q, t' σ H Q → t σ H Q) : PA X e t' := ⟨fun pos pins s σ H Q I q => h.run pos pins s σ H Q I (k σ H Q q)⟩
theorem _root_.L2.PS.imp {X : Cx} {e : Stmt} {t t' : TS} (h : PS X e t) (k : ∀ D σ H, t' D σ H → t D σ H) : PS X e t' := ⟨fun pins s σ H Q I q => h.run pins s σ H Q I (k Q σ H q)⟩
theorem _root_.L2.PSs.imp {X : Cx} {e : List Stmt} {t t' : TS} (h : PSs X e t) (k : ∀ D σ H, t' D σ H → t D σ H) : PSs X e t' := ⟨fun pins s σ H Q I q => h.run pins s σ H Q I (k Q σ H q)⟩
theorem _root_.L2.PO.imp {X : Cx} {e : Option Expr} {t t' : TO} (h : PO X e t) (k : ∀ σ H Q, t' σ H Q → t σ H Q) : PO X e t' := ⟨fun pins s σ H Q I q => h.run pins s σ H Q I (k σ H Q q)⟩
theorem _root_.L2.PI.imp {X : Cx} {tg e : Expr} {t t' : TI} (h : PI X tg e t) (k : ∀ σ H Q, t' σ H Q → t σ H Q) : PI X tg e t' := ⟨fun pins s σ H Q I q => h.run pins s σ H Q I (k σ H Q q)⟩
end MPS

namespace MPS
open PySem PySem.Spec L2 MP

structure Good (c : C) (X : Cx) : Prop where
  K : X.K = c.K
  calm : X.calm = true
  un : X.A.units + 100 < cLine
  nd : X.N.Nodup

section
variable {c : C} {env : MEnv} {h : MHeap} {ml : List Addr} {G : Addr → Prop} {σ : L2.St} {H : Hp}

theorem SR.fresh (s : SR c env h ml G σ H) {p : Addr} (o : HO) (hp : H p = none) : Grow ml G H ml G (upd H p o) := by
  have ne : ∀ a, H a ≠ none → a ≠ p := fun a ha z => ha (by rw [z]; exact hp)
  refine ⟨⟨[], by simp, fun _ z => by cases z⟩, fun _ h => h, fun _ h => .inl h, fun a o' e _ => ?_, s.mg, s.ls, fun a ha => ?_⟩
  · rw [upd_ne (ne a (by rw [e]; simp))]; exact e
  · have := s.tr a (s.mg a ha)
    rw [upd_ne (ne a this)]; exact this
/-- a state is carried over a growth in which the local lists stand -/
theorem SR.over {G' : Addr → Prop} {H' : Hp} (s : SR c env h ml G σ H) (g : Grow ml G H ml G' H') (same : ∀ a ∈ ml, H' a = H a) (tr : ∀ a, G' a → H' a ≠ none) : SR c env h ml G' σ H' := by
  refine ⟨s.len, s.nd, fun a ha => g.gm a (s.mg a ha), tr, fun n o a e1 e2 => ?_, g.envs s.ev, s.el⟩
  have q := s.obj n o a e1 e2
  cases o with
  | list l =>
    obtain ⟨xs, e, r⟩ := q
    exact ⟨xs, by rw [same a (List.mem_of_getElem? e2)]; exact e, r.mono g⟩
  | dict _ _ => exact q.elim
theorem SR.laid (s : SR c env h ml G σ H) {p : Addr} (o : HO) (hp : H p = none) : SR c env h ml G σ (upd H p o) := by
  have ne : ∀ a, H a ≠ none → a ≠ p := fun a ha z => ha (by rw [z]; exact hp)
  refine s.over (G' := G) (s.fresh o hp) (fun a ha => upd_ne (ne a (s.tr a (s.mg a ha)))) fun a ha => ?_
  have q := s.tr a ha
  rw [upd_ne (ne a q)]; exact q
theorem SR.at {n : Nat} {l : List Val} {a : Addr} (s : SR c env h ml G σ H) (e : h[n]? = some (.list l)) (em : ml[n]? = some a) : ∃ xs, H a = some (.lst xs) ∧ RVs c H ml G l xs := s.obj n _ a e em
/-- a local list gets other items -/
theorem SR.chg {n : Nat} {l l' : List Val} {a : Addr} {ys : List V} (s : SR c env h ml G σ H) (e : h[n]? = some (.list l)) (em : ml[n]? = some a) (r : RVs c H ml G l' ys) :
    Grow ml G H ml G (upd H a (.lst ys)) ∧ SR c env (h.set n (.list l')) ml G σ (upd H a (.lst ys)) := by
  have ha : a ∈ ml := List.mem_of_getElem? em
  obtain ⟨xs, eH, _⟩ := s.at e em
  have g : Grow ml G H ml G (upd H a (.lst ys)) := by
    refine ⟨⟨[], by simp, fun _ z => by cases z⟩, fun _ h => h, fun _ h => .inl h, fun b o' e' hb => ?_, s.mg, s.ls, fun b hb => ?_⟩
    · rw [upd_ne (fun z => hb (by rw [z]; exact ha))]; exact e'
    · by_cases hba : b = a
      · rw [hba, upd_same]; simp
      · rw [upd_ne hba]; exact s.tr b (s.mg b hb)
  refine ⟨g, ⟨by rw [List.length_set]; exact s.len, s.nd, s.mg, fun b hb => ?_, fun m o b e1 e2 => ?_, g.envs s.ev, s.el⟩⟩
  · by_cases hba : b = a
    · rw [hba, upd_same]; simp
    · rw [upd_ne hba]; exact s.tr b hb
  · by_cases hm : m = n
    · subst hm
      rw [em] at e2; cases e2
      rw [List.getElem?_set_self (List.getElem?_eq_some_iff.mp e).1] at e1
      cases e1
      exact ⟨ys, upd_same, r.mono g⟩
    · rw [List.getElem?_set_ne (Ne.symm hm)] at e1
      have hba : b ≠ a := fun z => by
        subst z
        have h1 := List.getElem?_eq_some_iff.mp e2
        have h2 := List.getElem?_eq_some_iff.mp em
        exact hm ((List.getElem_inj s.nd).mp (h1.2.trans h2.2.symm))
      have q := s.obj m o b e1 e2
      cases o with
      | list l2 =>
        obtain ⟨zs, e3, r3⟩ := q
        exact ⟨zs, by rw [upd_ne hba]; exact e3, r3.mono g⟩
      | dict _ _ => exact q.elim
/-- a list just made becomes a local one -/
theorem Grow.mkl {ml' : List Addr} {G' : Addr → Prop} {H' : Hp} {a : Addr} {xs : List V} (g : Grow ml G H ml' G' H') (hn : H a = none) (hg : G' a) (hm : a ∉ ml') (e : H' a = some (.lst xs)) : Grow ml G H (ml' ++ [a]) G' H' := by
  obtain ⟨new, e1, f1⟩ := g.pre
  refine ⟨⟨new ++ [a], by rw [e1, List.append_assoc], fun b hb => ?_⟩, g.gm, g.gn, g.fr, g.mg, g.ls, g.ln⟩
  rcases List.mem_append.mp hb with hb | hb
  · exact f1 b hb
  · rw [List.mem_singleton.mp hb]; exact hn
theorem SR.mkl {a : Addr} {l : List Val} {xs : List V} (s : SR c env h ml G σ H) (hg : G a) (hm : a ∉ ml) (e : H a = some (.lst xs)) (r : RVs c H ml G l xs) : SR c env (h ++ [.list l]) (ml ++ [a]) G σ H := by
  have g : Grow ml G H (ml ++ [a]) G H → True := fun _ => True.intro
  have up : ∀ d x, RV c H ml G d x → RV c H (ml ++ [a]) G d x := fun d x => RV.longer d x
  refine ⟨by rw [List.length_append, List.length_append, s.len]; rfl, ?_, fun b hb => ?_, s.tr, fun n o b e1 e2 => ?_, fun i v e1 => ?_, s.el⟩
  · rw [List.nodup_append]
    exact ⟨s.nd, by simp, fun b hb d hd z => by rw [List.mem_singleton.mp hd] at z; exact hm (z ▸ hb)⟩
  · rcases List.mem_append.mp hb with hb | hb
    · exact s.mg b hb
    · rw [List.mem_singleton.mp hb]; exact hg
  · by_cases hn : n < h.length
    · rw [List.getElem?_append_left hn] at e1
      rw [List.getElem?_append_left (by rw [s.len]; exact hn)] at e2
      have q := s.obj n o b e1 e2
      cases o with
      | list l2 =>
        obtain ⟨zs, e3, r3⟩ := q
        exact ⟨zs, e3, RVs.longer _ _ r3⟩
      | dict _ _ => exact q.elim
    · have hn' : h.length ≤ n := Nat.le_of_not_lt hn
      rw [List.getElem?_append_right hn'] at e1
      rw [List.getElem?_append_right (by rw [s.len]; exact hn')] at e2
      rw [s.len] at e2
      cases hk : n - h.length with
      | zero =>
        rw [hk] at e1 e2
        cases e1
        cases e2
        exact ⟨xs, e, RVs.longer _ _ r⟩
      | succ k =>
        rw [hk] at e1
        simp at e1
  · obtain ⟨x, e2, r2⟩ := s.ev i v e1
    exact ⟨x, e2, up v x r2⟩
end

section
variable {c : C} {W : WX} {X : Cx} {a b e : Expr} {fa fb : MEnv → M Val} {pos : Pos}
/-- one part, then the rest -/
theorem tE.one {α : Type} {k : Val → M α} {env : MEnv} {h : MHeap} {ml : List Addr} {G : Addr → Prop} {σ : L2.St} {H : Hp} {Qa : α → MHeap → List Addr → (Addr → Prop) → Hp → Prop} (s : SR c env h ml G σ H)
    (o : Ok c W env σ ((do let x ← fa env; k x) h) ml G H Qa) :
    tE c W fa σ H fun x H1 => ∃ v h1 ml1 G1, SR c env h1 ml1 G1 σ H1 ∧ RV c H1 ml1 G1 v x ∧ Ok c W env σ (k v h1) ml1 G1 H1 Qa := by
  refine ⟨env, h, ml, G, s, (Ok.bind o).imp fun v h1 ml1 G1 H1 g1 s1 o1 x r => ⟨v, h1, ml1, G1, s1, r, o1⟩⟩
theorem tE.two {α : Type} {k : Val → Val → M α} {env : MEnv} {h : MHeap} {ml : List Addr} {G : Addr → Prop} {σ : L2.St} {H : Hp} {Qa : α → MHeap → List Addr → (Addr → Prop) → Hp → Prop} (s : SR c env h ml G σ H)
    (o : Ok c W env σ ((do let x ← fa env; let y ← fb env; k x y) h) ml G H Qa) :
    tE c W fa σ H fun x H1 => tE c W fb σ H1 fun y H2 => ∃ v w h2 ml2 G2, SR c env h2 ml2 G2 σ H2 ∧ RV c H2 ml2 G2 v x ∧ RV c H2 ml2 G2 w y ∧ Ok c W env σ (k v w h2) ml2 G2 H2 Qa := by
  refine ⟨env, h, ml, G, s, (Ok.bind o).imp fun v h1 ml1 G1 H1 g1 s1 o1 x r => ⟨env, h1, ml1, G1, s1, (Ok.bind o1).imp fun w h2 ml2 G2 H2 g2 s2 o2 y r2 => ⟨v, w, h2, ml2, G2, s2, r.mono g2, r2, o2⟩⟩⟩
theorem tE.three {fc : MEnv → M Val} {α : Type} {k : Val → Val → Val → M α} {env : MEnv} {h : MHeap} {ml : List Addr} {G : Addr → Prop} {σ : L2.St} {H : Hp} {Qa : α → MHeap → List Addr → (Addr → Prop) → Hp → Prop} (s : SR c env h ml G σ H)
    (o : Ok c W env σ ((do let x ← fa env; let y ← fb env; let z ← fc env; k x y z) h) ml G H Qa) :
    tE c W fa σ H fun x H1 => tE c W fb σ H1 fun y H2 => tE c W fc σ H2 fun z H3 => ∃ v w u h3 ml3 G3, SR c env h3 ml3 G3 σ H3 ∧ RV c H3 ml3 G3 v x ∧ RV c H3 ml3 G3 w y ∧ RV c H3 ml3 G3 u z ∧ Ok c W env σ (k v w u h3) ml3 G3 H3 Qa := by
  refine ⟨env, h, ml, G, s, (Ok.bind o).imp fun v h1 ml1 G1 H1 g1 s1 o1 x r => ⟨env, h1, ml1, G1, s1, (Ok.bind o1).imp fun w h2 ml2 G2 H2 g2 s2 o2 y r2 => ⟨env, h2, ml2, G2, s2, (Ok.bind o2).imp fun u h3 ml3 G3 H3 g3 s3 o3 z r3 =>
    ⟨v, w, u, h3, ml3, G3, s3, (r.mono g2).mono g3, r2.mono g3, r3, o3⟩⟩⟩⟩

theorem tE.imp {f : MEnv → M Val} {σ : L2.St} {H : Hp} {Q Q' : VK} (q : tE c W f σ H Q) (k : ∀ x H, Q x H → Q' x H) : tE c W f σ H Q' := by
  obtain ⟨env, h, ml, G, s, o⟩ := q
  exact ⟨env, h, ml, G, s, o.imp fun _ _ _ _ _ _ _ z x r => k _ _ (z x r)⟩
theorem tE.ofPure {v : Val} {σ : L2.St} {H : Hp} {Q : VK} (q : tE c W (fun _ => pure v) σ H Q) {x : V} (r : ∀ ml G, RV c H ml G v x) : Q x H := by
  obtain ⟨env, h, ml, G, s, o⟩ := q
  exact o.pure s x (r _ _)
theorem sE_non {j pos} : PE X (.Constant .none j pos) (tE c W fun _ => pure .non) := pe_non.imp fun _ _ _ q => q.ofPure fun _ _ => .non
theorem sE_bl {z j pos} : PE X (.Constant (.bool z) j pos) (tE c W fun _ => pure (.bl z)) := pe_bl.imp fun _ _ _ q => q.ofPure fun _ _ => .bl
theorem sE_int {z j pos} : PE X (.Constant (.int z) j pos) (tE c W fun _ => pure (.int z)) := pe_int.imp fun _ _ _ q => q.ofPure fun _ _ => .int
theorem sE_str {z j pos} : PE X (.Constant (.str z) j pos) (tE c W fun _ => pure (.str z)) := pe_str.imp fun _ _ _ q => q.ofPure fun _ _ => .str
theorem sE_var {i : Nat} {x : Str} (hN : X.N[i]? = some x) (hv : Vis X.env.scope x) (hd : (x == ("__debug__" : Str)) = false) (hc : (x == ("__classdict__" : Str)) = false) : PE X (.Name x pos) (tE c W fun env => lift (env[i]?.bind id)) := by
  refine (pe_var hN hv hd hc).imp fun σ H Q q => ?_
  obtain ⟨env, h, ml, G, s, o⟩ := q
  obtain ⟨v, e, q⟩ := o.lift s
  have e2 : env[i]? = some (some v) := by
    cases k : env[i]? with
    | none => rw [k] at e; cases e
    | some z => rw [k] at e; exact congrArg some e
  obtain ⟨x, e3, r⟩ := s.ev i v e2
  exact ⟨x, e3, q x r⟩
/-- a module's constant -/
theorem sE_glob {x : Str} {v : Val} {y : V} {u : Value} (hg : Gl X x) (hm : X.mg x = some u) (r : RelV y u) (rv : ∀ H ml G, RV c H ml G v y) (hd : (x == ("__debug__" : Str)) = false) : PE X (.Name x pos) (tE c W fun _ => pure v) :=
  (pe_glob hg hm r hd).imp fun _ H _ q => q.ofPure fun _ _ => rv H _ _

theorem op_catS : OpR X (binaryOp .Add) (fun x y H Q => ∃ l b xs zs, x = .ref l ∧ y = .ref b ∧ H l = some (.lst xs) ∧ H b = some (.lst zs) ∧ xs.length + zs.length ≤ sizeLine ∧ ∀ p, H p = none → Q (.ref p) (upd H p (.lst (xs ++ zs)))) := op_cat
def opB : BK → Operator
  | .add => .Add | .sub => .Sub | .mul => .Mult | .fdiv => .FloorDiv | .mod => .Mod | .pow => .Pow | .shl => .LShift | .shr => .RShift | .band => .BitAnd | .bor => .BitOr | .bxor => .BitXor
/-- ints under an operator -/
def rBI (k : BK) : R2 := fun x y H Q => ∃ i j z, x = .int i ∧ y = .int j ∧ binI k i j = some z ∧ Q (.int z) H
theorem small_iff {i : Int} (h : small i = true) : -(2 ^ 64) < i ∧ i < 2 ^ 64 := by simpa [small] using h
theorem bitAnd_nat (i j : Int) (h1 : 0 ≤ i) (h2 : 0 ≤ j) : Builtin.bitAnd i j = ((i.toNat &&& j.toNat : Nat) : Int) := by
  obtain ⟨a, rfl⟩ := Int.eq_ofNat_of_zero_le h1
  obtain ⟨b, rfl⟩ := Int.eq_ofNat_of_zero_le h2
  rfl
theorem bitOr_nat (i j : Int) (h1 : 0 ≤ i) (h2 : 0 ≤ j) : Builtin.bitOr i j = ((i.toNat ||| j.toNat : Nat) : Int) := bitOr_nn h1 h2
theorem or_xor_and : ∀ a b : Nat, a ||| b = (a ^^^ b) + (a &&& b) := by
  intro a
  induction a using Nat.strongRecOn with
  | ind a ih =>
    intro b
    by_cases h : a = 0
    · subst h; simp
    · have q := ih (a / 2) (by omega) (b / 2)
      have e1 : (a ||| b) / 2 = a / 2 ||| b / 2 := Nat.or_div_two
      have e2 : (a ^^^ b) / 2 = a / 2 ^^^ b / 2 := Nat.xor_div_two
      have e3 : (a &&& b) / 2 = a / 2 &&& b / 2 := Nat.and_div_two
      have m1 : (a ||| b) % 2 = (a % 2) ||| (b % 2) := by simpa using Nat.or_mod_two_pow (a := a) (b := b) (n := 1)
      have m2 : (a ^^^ b) % 2 = (a % 2) ^^^ (b % 2) := by simpa using Nat.xor_mod_two_pow (a := a) (b := b) (n := 1)
      have m3 : (a &&& b) % 2 = (a % 2) &&& (b % 2) := by simpa using Nat.and_mod_two_pow (a := a) (b := b) (n := 1)
      have m : (a % 2 ||| b % 2) = (a % 2 ^^^ b % 2) + (a % 2 &&& b % 2) := by
        rcases Nat.mod_two_eq_zero_or_one a with x | x <;> rcases Nat.mod_two_eq_zero_or_one b with y | y <;> rw [x, y] <;> rfl
      omega
theorem bitXor_nat (i j : Int) (h1 : 0 ≤ i) (h2 : 0 ≤ j) : Builtin.bitXor i j = ((i.toNat ^^^ j.toNat : Nat) : Int) := by
  show Builtin.bitOr i j - Builtin.bitAnd i j = _
  rw [bitOr_nat i j h1 h2, bitAnd_nat i j h1 h2, or_xor_and]
  omega
theorem or_bI (k : BK) : OpR X (binaryOp (opB k)) (rBI k) := by
  intro pins s σ H x y v u Q I rx ry h
  obtain ⟨i, j, z, rfl, rfl, e, q⟩ := h
  cases k with
  | add => cases e; exact op_add pins s σ H _ _ v u Q I rx ry ⟨i, j, rfl, rfl, q⟩
  | sub => cases e; exact op_sub pins s σ H _ _ v u Q I rx ry ⟨i, j, rfl, rfl, q⟩
  | mul =>
    simp only [binI] at e
    split at e
    · rename_i hs
      cases e
      refine op_mul pins s σ H _ _ v u Q I rx ry ⟨i, j, rfl, rfl, ?_, q⟩
      simp only [Bool.or_eq_true] at hs
      rcases hs with hs | hs
      · exact .inl (small_iff hs)
      · exact .inr (small_iff hs)
    · cases e
  | fdiv =>
    simp only [binI, Bool.and_eq_true, decide_eq_true_eq] at e
    split at e
    · rename_i hs; cases e
      exact op_fdiv pins s σ H _ _ v u Q I rx ry ⟨i, j, rfl, rfl, hs, q⟩
    · cases e
  | mod =>
    simp only [binI] at e
    split at e
    · rename_i hs; cases e
      exact op_mod pins s σ H _ _ v u Q I rx ry ⟨i, j, rfl, rfl, hs, q⟩
    · cases e
  | pow =>
    simp only [binI, Bool.and_eq_true, decide_eq_true_eq] at e
    split at e
    · rename_i hs; cases e
      exact op_pow pins s σ H _ _ v u Q I rx ry ⟨i, j, rfl, rfl, ⟨hs.1.1, hs.1.2, hs.2⟩, q⟩
    · cases e
  | shl =>
    simp only [binI, Bool.and_eq_true, decide_eq_true_eq] at e
    split at e
    · rename_i hs; cases e
      exact op_shl pins s σ H _ _ v u Q I rx ry ⟨i, j, rfl, rfl, ⟨hs.1.1, hs.1.2, hs.2⟩, q⟩
    · cases e
  | shr =>
    simp only [binI] at e
    split at e
    · rename_i hs; cases e
      exact op_shr pins s σ H _ _ v u Q I rx ry ⟨i, j, rfl, rfl, hs, q⟩
    · cases e
  | band =>
    simp only [binI, Bool.and_eq_true, decide_eq_true_eq] at e
    split at e
    · rename_i hs; cases e
      exact op_and pins s σ H _ _ v u Q I rx ry ⟨i, j, rfl, rfl, by show Q (.int (Builtin.bitAnd i j)) H; rw [bitAnd_nat i j hs.1 hs.2]; exact q⟩
    · cases e
  | bor =>
    simp only [binI, Bool.and_eq_true, decide_eq_true_eq] at e
    split at e
    · rename_i hs; cases e
      exact op_or pins s σ H _ _ v u Q I rx ry ⟨i, j, rfl, rfl, by show Q (.int (Builtin.bitOr i j)) H; rw [bitOr_nat i j hs.1 hs.2]; exact q⟩
    · cases e
  | bxor =>
    simp only [binI, Bool.and_eq_true, decide_eq_true_eq] at e
    split at e
    · rename_i hs; cases e
      exact op_xor pins s σ H _ _ v u Q I rx ry ⟨i, j, rfl, rfl, by show Q (.int (Builtin.bitXor i j)) H; rw [bitXor_nat i j hs.1 hs.2]; exact q⟩
    · cases e
/-- all kinds under an operator, from MP's side -/
def rB (c : C) (W : WX) (k : BK) : R2 := fun x y H Q => ∃ (env : MEnv) (h : MHeap) (ml : List Addr) (G : Addr → Prop) (σ : L2.St) (v w : Val), SR c env h ml G σ H ∧ RV c H ml G v x ∧ RV c H ml G w y ∧
  Ok c W env σ (lift (binV k v w) h) ml G H fun u _ ml' G' H' => ∀ z, RV c H' ml' G' u z → Q z H'
theorem sizeSZ : sizeLine = SZ := by rw [sizeLine_eq]; rfl
theorem or_B (hX : Good c X) (k : BK) : OpR X (binaryOp (opB k)) (rB c W k) := by
  intro pins s σ H x y v u Q I rx ry h
  obtain ⟨env, hh, ml, G, σ', d, e, sr, r1, r2, o⟩ := h
  obtain ⟨z, heq, o⟩ := o.liftG
  unfold binV at heq
  split at heq
  · -- ints
    rename_i i j
    cases ei : binI k i j with
    | none => rw [ei] at heq; cases heq
    | some m =>
      rw [ei] at heq
      cases heq
      rw [r1.int'] at rx
      rw [r2.int'] at ry
      exact or_bI k pins s σ H _ _ v u Q I rx ry ⟨i, j, m, rfl, rfl, ei, o ml G H sr.refl sr _ .int⟩
  · -- tuples
    split at heq
    · rename_i l1 l2 hl
      cases heq
      obtain ⟨a1, xs, rfl, q1, s1⟩ := r1.tup'
      obtain ⟨a2, ys, rfl, q2, s2⟩ := r2.tup'
      rw [← hX.K] at q1 q2
      refine op_catA pins s σ H _ _ v u Q I rx ry ⟨a1, a2, xs, ys, rfl, rfl, q1, q2, ?_, fun e => ?_, fun _ e => ?_, fun _ _ p hp => ?_⟩
      · rw [s1.length, s2.length, sizeSZ]; exact hl
      · subst e
        have := s1.length
        have e0 : l1 = [] := by cases l1 with | nil => rfl | cons _ _ => cases this
        subst e0
        exact o ml G H sr.refl sr _ (.tup (hX.K ▸ q2) (by simpa using s2))
      · subst e
        have := s2.length
        have e0 : l2 = [] := by cases l2 with | nil => rfl | cons _ _ => cases this
        subst e0
        exact o ml G H sr.refl sr _ (.tup (hX.K ▸ q1) (by simpa using s1))
      · exact o ml G _ (sr.fresh _ hp) (sr.laid _ hp) _ (.tup (SqT.of upd_same) ((s1.append s2).mono (sr.fresh _ hp)))
    · cases heq
  · -- texts
    split at heq
    · rename_i l1 l2 hl
      cases heq
      rw [r1.str'] at rx
      rw [r2.str'] at ry
      exact op_add_str pins s σ H _ _ v u Q I rx ry ⟨_, _, rfl, rfl, by rw [sizeSZ]; exact hl, o ml G H sr.refl sr _ .str⟩
    · cases heq
  · cases heq
theorem sE_bin {k : BK} (hX : Good c X) (ha : PE X a (tE c W fa)) (hb : PE X b (tE c W fb)) : PE X (.BinOp a (opB k) b pos) (tE c W fun env => do let x ← fa env; let y ← fb env; lift (binV k x y)) := by
  refine (pe_op (or_B (W := W) hX k) ha hb).imp fun σ H Q q => ?_
  obtain ⟨env, h, ml, G, s, o⟩ := q
  have k2 := tE.two (fa := fa) (fb := fb) s o
  refine tE.imp k2 fun x H1 q1 => tE.imp q1 fun y H2 ⟨v, w, h2, ml2, G2, s2, r1, r2, o2⟩ => ⟨env, h2, ml2, G2, σ, v, w, s2, r1, r2, o2⟩
end
end MPS

namespace MPS
open PySem PySem.Spec L2 MP

mutual
def pd : Val → PyData
  | .non => .none
  | .bl b => .bool b
  | .int i => .int i
  | .str s => .str s
  | .tup l => .tuple (pdL l)
  | .lst l => .list (pdL l)
  | _ => .none
def pdL : List Val → List PyData
  | [] => []
  | x :: r => pd x :: pdL r
end
mutual
theorem dp_of {c : C} {H : Hp} {ml : List Addr} {G : Addr → Prop} : ∀ (n : Nat) (v : Val) (x : V), v.okD n = true → RV c H ml G v x → Dp c.K H x (pd v)
  | n, .non, x, _, r => by rw [r.non']; simp only [pd]; exact .non
  | n, .bl b, x, _, r => by rw [r.bl']; simp only [pd]; exact .bl b
  | n, .int b, x, _, r => by rw [r.int']; simp only [pd]; exact .int b
  | n, .str b, x, _, r => by rw [r.str']; simp only [pd]; exact .str b
  | 0, .tup l, x, k, r => by simp [Val.okD] at k
  | n + 1, .tup l, x, k, r => by
    obtain ⟨a, xs, rfl, h, rs⟩ := r.tup'
    simp only [pd]
    exact .tup h (dpL_of n l xs (by simpa [Val.okD] using k) rs)
  | 0, .lst l, x, k, r => by simp [Val.okD] at k
  | n + 1, .lst l, x, k, r => by
    obtain ⟨a, xs, rfl, h, rs⟩ := r.lst'
    simp only [pd]
    exact .lst (SqL.of h.1) (dpL_of n l xs (by simpa [Val.okD] using k) rs)
  | n, .scr l, x, k, r => by cases n <;> simp [Val.okD] at k
  | n, .dct _ _, x, k, r => by cases n <;> simp [Val.okD] at k
  | n, .loc _, x, k, r => by cases n <;> simp [Val.okD] at k
  | n, .fn _, x, k, r => by cases n <;> simp [Val.okD] at k
  | n, .ty _, x, k, r => by cases n <;> simp [Val.okD] at k
theorem dpL_of {c : C} {H : Hp} {ml : List Addr} {G : Addr → Prop} : ∀ (n : Nat) (l : List Val) (xs : List V), okDL n l = true → RVs c H ml G l xs → DpAll c.K H xs (pdL l)
  | n, [], xs, _, r => by rw [r.inv0]; simp only [pdL]; exact .nil
  | n, v :: l, xs, k, r => by
    obtain ⟨x, rest, rfl, r1, r2⟩ := r.inv
    simp only [okDL, Bool.and_eq_true] at k
    simp only [pdL]
    exact .cons (dp_of n v x k.1 r1) (dpL_of n l rest k.2 r2)
end
mutual
theorem pd_can : ∀ (n : Nat) (v : Val), v.okD n = true → (pd v).canLay0 = true ∧ (pd v).depth ≤ n
  | n, .non, _ => by simp [pd, PyData.canLay0, PyData.depth]
  | n, .bl b, _ => by simp [pd, PyData.canLay0, PyData.depth]
  | n, .int b, _ => by simp [pd, PyData.canLay0, PyData.depth]
  | n, .str b, k => by
    have k' : b.cps.all (· < 0x110000) = true := by cases n <;> simpa [Val.okD] using k
    simp only [pd, PyData.canLay0, PyData.depth]
    exact ⟨k', Nat.zero_le _⟩
  | 0, .tup l, k => by simp [Val.okD] at k
  | n + 1, .tup l, k => by
    obtain ⟨h1, h2⟩ := pdL_can n l (by simpa [Val.okD] using k)
    simp only [pd, PyData.canLay0, PyData.depth]
    exact ⟨h1, Nat.succ_le_succ h2⟩
  | 0, .lst l, k => by simp [Val.okD] at k
  | n + 1, .lst l, k => by
    obtain ⟨h1, h2⟩ := pdL_can n l (by simpa [Val.okD] using k)
    simp only [pd, PyData.canLay0, PyData.depth]
    exact ⟨h1, Nat.succ_le_succ h2⟩
  | n, .scr l, k => by cases n <;> simp [Val.okD] at k
  | n, .dct _ _, k => by cases n <;> simp [Val.okD] at k
  | n, .loc _, k => by cases n <;> simp [Val.okD] at k
  | n, .fn _, k => by cases n <;> simp [Val.okD] at k
  | n, .ty _, k => by cases n <;> simp [Val.okD] at k
theorem pdL_can : ∀ (n : Nat) (l : List Val), okDL n l = true → PyData.canLayAll0 (pdL l) = true ∧ PyData.depthAll (pdL l) ≤ n
  | n, [], _ => by simp [pdL, PyData.canLayAll0, PyData.depthAll]
  | n, v :: l, k => by
    simp only [okDL, Bool.and_eq_true] at k
    obtain ⟨h1, h2⟩ := pd_can n v k.1
    obtain ⟨h3, h4⟩ := pdL_can n l k.2
    simp only [pdL, PyData.canLayAll0, PyData.depthAll, h1, h3, Bool.and_self, true_and]
    exact Nat.max_le.mpr ⟨h2, h4⟩
end
mutual
theorem pd_eqv : ∀ (n m : Nat) (v w : Val), v.okD n = true → w.okD m = true → PyData.eqv (pd v) (pd w) = v.eqv w
  | n, m, .non, w, _, k => by cases w <;> first | (simp [pd, PyData.eqv, Val.eqv]; done) | (cases m <;> simp [Val.okD] at k)
  | n, m, .bl b, w, _, k => by cases w <;> first | (simp [pd, PyData.eqv, Val.eqv]; done) | (cases m <;> simp [Val.okD] at k)
  | n, m, .int b, w, _, k => by cases w <;> first | (simp [pd, PyData.eqv, Val.eqv]; done) | (cases m <;> simp [Val.okD] at k)
  | n, m, .str b, w, _, k => by cases w <;> first | (simp [pd, PyData.eqv, Val.eqv]; done) | (cases m <;> simp [Val.okD] at k)
  | 0, m, .tup l, w, k, _ => by simp [Val.okD] at k
  | n + 1, m, .tup l, w, k, k' => by
    cases w with
    | tup l2 =>
      cases m with
      | zero => simp [Val.okD] at k'
      | succ m =>
        simp only [pd, PyData.eqv, Val.eqv]
        exact pdL_eqv n m l l2 (by simpa [Val.okD] using k) (by simpa [Val.okD] using k')
    | _ => first | (simp [pd, PyData.eqv, Val.eqv]; done) | (cases m <;> simp [Val.okD] at k')
  | 0, m, .lst l, w, k, _ => by simp [Val.okD] at k
  | n + 1, m, .lst l, w, k, k' => by
    cases w with
    | lst l2 =>
      cases m with
      | zero => simp [Val.okD] at k'
      | succ m =>
        simp only [pd, PyData.eqv, Val.eqv]
        exact pdL_eqv n m l l2 (by simpa [Val.okD] using k) (by simpa [Val.okD] using k')
    | _ => first | (simp [pd, PyData.eqv, Val.eqv]; done) | (cases m <;> simp [Val.okD] at k')
  | n, m, .scr l, w, k, _ => by cases n <;> simp [Val.okD] at k
  | n, m, .dct _ _, w, k, _ => by cases n <;> simp [Val.okD] at k
  | n, m, .loc _, w, k, _ => by cases n <;> simp [Val.okD] at k
  | n, m, .fn _, w, k, _ => by cases n <;> simp [Val.okD] at k
  | n, m, .ty _, w, k, _ => by cases n <;> simp [Val.okD] at k
theorem pdL_eqv : ∀ (n m : Nat) (v w : List Val), okDL n v = true → okDL m w = true → PyData.eqvAll (pdL v) (pdL w) = eqvL v w
  | n, m, [], [], _, _ => by simp [pdL, PyData.eqvAll, eqvL]
  | n, m, [], _ :: _, _, _ => by simp [pdL, PyData.eqvAll, eqvL]
  | n, m, _ :: _, [], _, _ => by simp [pdL, PyData.eqvAll, eqvL]
  | n, m, a :: l, b :: r, k, k' => by
    simp only [okDL, Bool.and_eq_true] at k k'
    simp only [pdL, PyData.eqvAll, eqvL]
    rw [pd_eqv n m a b k.1 k'.1, pdL_eqv n m l r k.2 k'.2]
end
theorem shaped_of {v : Val} (k : v.okD 60 = true) : SeqAt.shaped (pd v) = true := by
  obtain ⟨h1, h2⟩ := pd_can 60 v k
  unfold SeqAt.shaped
  rw [h1, Bool.true_and]
  exact decide_eq_true (by omega)

section
variable {c : C} {X : Cx} {env : MEnv} {h : MHeap} {ml : List Addr} {G : Addr → Prop} {σ : L2.St} {H : Hp}
/-- a local list as it stands -/
theorem res_dp {v v' : Val} {x : V} (s : SR c env h ml G σ H) (r : RV c H ml G v x) (e : res h v = some v') (k : v'.okD 60 = true) : Dp c.K H x (pd v') := by
  have gen : ∀ w : Val, w.noLoc = true → res h w = some w := fun w hw => by
    unfold res
    split
    · simp [Val.noLoc] at hw
    · rw [if_pos hw]
  by_cases hv : ∃ n, v = .loc n
  · obtain ⟨n, rfl⟩ := hv
    obtain ⟨a, em, rfl⟩ := r.loc'
    simp only [res] at e
    cases eh : h[n]? with
    | none => rw [eh] at e; cases e
    | some o =>
      cases o with
      | dict _ _ => rw [eh] at e; cases e
      | list l =>
        rw [eh] at e
        simp only at e
        split at e
        · cases e
          obtain ⟨xs, eH, rs⟩ := s.at eh em
          simp only [pd]
          exact .lst (SqL.of eH) (dpL_of 59 l xs (by simpa [Val.okD] using k) rs)
        · cases e
  · have e' : v' = v := by
      unfold res at e
      split at e
      · exact absurd ⟨_, rfl⟩ hv
      · split at e
        · cases e; rfl
        · cases e
    subst e'
    exact dp_of 60 _ x k r
/-- a sequence's items -/
theorem seq_at {v : Val} {l : List Val} {x : V} (s : SR c env h ml G σ H) (r : RV c H ml G v x) (e : seqV h v = some l) : ∃ a xs, x = .ref a ∧ (SqL c.K H a xs ∨ SqT c.K H a xs) ∧ RVs c H ml G l xs := by
  cases v with
  | tup l2 => cases e; obtain ⟨a, xs, rfl, q, rs⟩ := r.tup'; exact ⟨a, xs, rfl, .inr q, rs⟩
  | lst l2 => cases e; obtain ⟨a, xs, rfl, q, rs⟩ := r.lst'; exact ⟨a, xs, rfl, .inl (SqL.of q.1), rs⟩
  | scr l2 => cases e; obtain ⟨a, xs, rfl, q, rs⟩ := r.scr'; exact ⟨a, xs, rfl, .inl q.sq, rs⟩
  | loc n =>
    obtain ⟨a, em, rfl⟩ := r.loc'
    simp only [seqV] at e
    cases eh : h[n]? with
    | none => rw [eh] at e; cases e
    | some o =>
      cases o with
      | dict _ _ => rw [eh] at e; cases e
      | list l2 =>
        rw [eh] at e
        cases e
        obtain ⟨xs, eH, rs⟩ := s.at eh em
        exact ⟨a, xs, rfl, .inl (SqL.of eH), rs⟩
  | _ => cases e
/-- a plain list's -/
theorem lst_at {v : Val} {l : List Val} {x : V} (s : SR c env h ml G σ H) (r : RV c H ml G v x) (e : lstV h v = some l) : ∃ a xs, x = .ref a ∧ H a = some (.lst xs) ∧ RVs c H ml G l xs := by
  cases v with
  | lst l2 => cases e; obtain ⟨a, xs, rfl, q, rs⟩ := r.lst'; exact ⟨a, xs, rfl, q.1, rs⟩
  | loc n =>
    obtain ⟨a, em, rfl⟩ := r.loc'
    simp only [lstV] at e
    cases eh : h[n]? with
    | none => rw [eh] at e; cases e
    | some o =>
      cases o with
      | dict _ _ => rw [eh] at e; cases e
      | list l2 =>
        rw [eh] at e
        cases e
        obtain ⟨xs, eH, rs⟩ := s.at eh em
        exact ⟨a, xs, rfl, eH, rs⟩
  | _ => cases e
theorem scr_at {v : Val} {l : List Val} {x : V} (s : SR c env h ml G σ H) (r : RV c H ml G v x) (e : scrV h v = some l) : ∃ a xs, x = .ref a ∧ SqL c.K H a xs ∧ RVs c H ml G l xs := by
  unfold scrV at e
  split at e
  · cases e; obtain ⟨a, xs, rfl, q, rs⟩ := r.scr'; exact ⟨a, xs, rfl, q.sq, rs⟩
  · obtain ⟨a, xs, rfl, q, rs⟩ := lst_at s r e; exact ⟨a, xs, rfl, SqL.of q, rs⟩
theorem ints_at : ∀ {l : List Val} {xs : List V} {ns : List Int}, RVs c H ml G l xs → intsOf l = some ns → xs = ns.map V.int
  | [], xs, ns, r, e => by cases e; rw [r.inv0]; rfl
  | v :: l, xs, ns, r, e => by
    obtain ⟨x, rest, rfl, r1, r2⟩ := r.inv
    cases v with
    | int i =>
      simp only [intsOf] at e
      cases e2 : intsOf l with
      | none => rw [e2] at e; cases e
      | some ms =>
        rw [e2] at e
        cases e
        rw [r1.int', ints_at r2 e2]
        rfl
    | _ => cases e
theorem bools_at : ∀ {l : List Val} {xs : List V} {ns : List Bool}, RVs c H ml G l xs → boolsOf l = some ns → xs = ns.map V.bl
  | [], xs, ns, r, e => by cases e; rw [r.inv0]; rfl
  | v :: l, xs, ns, r, e => by
    obtain ⟨x, rest, rfl, r1, r2⟩ := r.inv
    cases v with
    | bl i =>
      simp only [boolsOf] at e
      cases e2 : boolsOf l with
      | none => rw [e2] at e; cases e
      | some ms =>
        rw [e2] at e
        cases e
        rw [r1.bl', bools_at r2 e2]
        rfl
    | _ => cases e
theorem scalar_flat {v : Val} {x : V} (r : RV c H ml G v x) (k : scalar v = true) : flatV x = true := by
  cases v with
  | non => rw [r.non']; rfl
  | bl b => rw [r.bl']; rfl
  | int b => rw [r.int']; rfl
  | str b => rw [r.str']; rfl
  | _ => cases k
theorem scalar_eq {v w : Val} {x y : V} (r : RV c H ml G v x) (r' : RV c H ml G w y) (k : scalar v = true) (k' : scalar w = true) : eqV x y = v.eqv w := by
  cases v with
  | non => rw [r.non']; cases w with
    | non => rw [r'.non']; rfl
    | bl b => rw [r'.bl']; rfl
    | int b => rw [r'.int']; rfl
    | str b => rw [r'.str']; rfl
    | _ => cases k'
  | bl b => rw [r.bl']; cases w with
    | non => rw [r'.non']; rfl
    | bl b => rw [r'.bl']; rfl
    | int b => rw [r'.int']; rfl
    | str b => rw [r'.str']; rfl
    | _ => cases k'
  | int b => rw [r.int']; cases w with
    | non => rw [r'.non']; rfl
    | bl b => rw [r'.bl']; rfl
    | int b => rw [r'.int']; rfl
    | str b => rw [r'.str']; rfl
    | _ => cases k'
  | str b => rw [r.str']; cases w with
    | non => rw [r'.non']; rfl
    | bl b => rw [r'.bl']; rfl
    | int b => rw [r'.int']; rfl
    | str b => rw [r'.str']; rfl
    | _ => cases k'
  | _ => cases k
theorem scalar_all : ∀ {l : List Val} {xs : List V}, RVs c H ml G l xs → l.all scalar = true → xs.all flatV = true
  | [], xs, r, _ => by rw [r.inv0]; rfl
  | v :: l, xs, r, k => by
    obtain ⟨x, rest, rfl, r1, r2⟩ := r.inv
    rw [List.all_cons, Bool.and_eq_true] at k
    rw [List.all_cons, scalar_flat r1 k.1, scalar_all r2 k.2]
    rfl
theorem scalar_any {w : Val} {y : V} (r' : RV c H ml G w y) (k' : scalar w = true) : ∀ {l : List Val} {xs : List V}, RVs c H ml G l xs → l.all scalar = true → (xs.any fun z => eqV z y) = l.any fun z => z.eqv w
  | [], xs, r, _ => by rw [r.inv0]; rfl
  | v :: l, xs, r, k => by
    obtain ⟨x, rest, rfl, r1, r2⟩ := r.inv
    rw [List.all_cons, Bool.and_eq_true] at k
    rw [List.any_cons, List.any_cons, scalar_eq r1 r' k.1 k', scalar_any r' k' r2 k.2]
theorem pd_any {w : Val} (k' : w.okD 60 = true) : ∀ (l : List Val), okDL 59 l = true → ((pdL l).any fun z => PyData.eqv z (pd w)) = l.any fun z => z.eqv w
  | [], _ => rfl
  | v :: l, k => by
    simp only [okDL, Bool.and_eq_true] at k
    simp only [pdL, List.any_cons]
    rw [pd_eqv 59 60 v w k.1 k', pd_any k' l k.2]

def opC : CK → CmpOp
  | .eq => .Eq | .ne => .NotEq | .lt => .Lt | .le => .LtE | .gt => .Gt | .ge => .GtE | .isn => .Is | .isnn => .IsNot | .mem => .In | .nmem => .NotIn | .ist => .Is | .isnt => .IsNot
/-- a comparison, from MP's side -/
def rC (c : C) (k : CK) : R2 := fun x y H Q => ∃ (env : MEnv) (h : MHeap) (ml : List Addr) (G : Addr → Prop) (σ : L2.St) (v w : Val) (b : Bool), SR c env h ml G σ H ∧ RV c H ml G v x ∧ RV c H ml G w y ∧ cmpV h k v w = some b ∧ Q (.bl b) H

theorem lexAt_le : ∀ (ns ms : List Int) (i : Nat) (e r : Nat → Bool) (z : Bool), (∀ j, j < ns.length → j < ms.length → e (i + j) = decide (ns.getD j 0 = ms.getD j 0)) → (∀ j, j < ns.length → j < ms.length → r (i + j) = decide (ns.getD j 0 ≤ ms.getD j 0)) →
    z = decide (ns.length ≤ ms.length) → Ob.lexAt e r z i (min ns.length ms.length) = lexLe ns ms
  | [], [], i, e, r, z, _, _, hz => by subst hz; rfl
  | [], _ :: _, i, e, r, z, _, _, hz => by subst hz; simp [Ob.lexAt, lexLe, MP.lexLt]
  | _ :: _, [], i, e, r, z, _, _, hz => by subst hz; simp [Ob.lexAt, lexLe, MP.lexLt]
  | n :: ns, m :: ms, i, e, r, z, he, hr, hz => by
    rw [show min (n :: ns).length (m :: ms).length = min ns.length ms.length + 1 by simp only [List.length_cons]; omega, Ob.lexAt_succ]
    have h0 := he 0 (by simp) (by simp)
    have r0 := hr 0 (by simp) (by simp)
    rw [Nat.add_zero] at h0 r0
    have ih := lexAt_le ns ms (i + 1) e r z (fun j h1 h2 => by
      have q := he (j + 1) (by simp; omega) (by simp; omega)
      rw [show i + 1 + j = i + (j + 1) by omega, q]
      simp) (fun j h1 h2 => by
      have q := hr (j + 1) (by simp; omega) (by simp; omega)
      rw [show i + 1 + j = i + (j + 1) by omega, q]
      simp) (by rw [hz]; simp)
    rw [ih, h0, r0]
    simp only [List.getD_cons_zero, lexLe, MP.lexLt]
    by_cases hnm : n = m
    · subst hnm; simp
    · rw [if_neg (by simpa using hnm), if_neg (fun z => hnm z.symm)]
      by_cases hl : n ≤ m
      · rw [decide_eq_true hl, decide_eq_false (by omega)]; rfl
      · rw [decide_eq_false hl, decide_eq_true (by omega)]; rfl
theorem lexLt_eq : ∀ (a b : List Int), HT.lexLt a b = MP.lexLt a b
  | [], [] => rfl
  | [], _ :: _ => rfl
  | _ :: _, [] => rfl
  | x :: xs, y :: ys => by
    rw [HT.lexLt_cons]
    unfold MP.lexLt
    rw [lexLt_eq xs ys]

theorem eq_at (hX : Good c X) {v w : Val} {x y : V} {b : Bool} (s : SR c env h ml G σ H) (r1 : RV c H ml G v x) (r2 : RV c H ml G w y) (e : MP.eqV h v w = some b) :
    (scal x y = true ∧ decide (x = y) = b) ∨ ∃ d d', Dp X.K H x d ∧ Dp X.K H y d' ∧ SeqAt.shaped d = true ∧ SeqAt.shaped d' = true ∧ PyData.eqv d d' = b := by
  unfold MP.eqV at e
  cases e1 : res h v with
  | none => rw [e1] at e; simp at e
  | some v' =>
    cases e2 : res h w with
    | none => rw [e1, e2] at e; simp at e
    | some w' =>
      rw [e1, e2] at e
      simp only at e
      have deep : v'.okD 60 = true → w'.okD 60 = true → v'.eqv w' = b → ∃ d d', Dp X.K H x d ∧ Dp X.K H y d' ∧ SeqAt.shaped d = true ∧ SeqAt.shaped d' = true ∧ PyData.eqv d d' = b := fun k k' q =>
        ⟨pd v', pd w', hX.K ▸ res_dp s r1 e1 k, hX.K ▸ res_dp s r2 e2 k', shaped_of k, shaped_of k', by rw [pd_eqv 60 60 v' w' k k']; exact q⟩
      have oi : ∀ i : Int, (Val.int i).okD 60 = true := fun i => rfl
      have ob : ∀ i : Bool, (Val.bl i).okD 60 = true := fun i => rfl
      split at e
      · rename_i i j
        refine .inr (deep (oi i) (oi j) ?_)
        cases e
        simp only [Val.eqv]
        exact Bool.beq_eq_decide_eq _ _
      · rename_i i j
        have nl : ∀ {u : Val} {t : Str}, res h u = some (.str t) → u = .str t := fun {u t} q => by
          unfold res at q
          split at q
          · split at q
            · split at q <;> cases q
            · cases q
          · split at q
            · cases q; rfl
            · cases q
        have a1 := nl e1
        have a2 := nl e2
        subst a1
        subst a2
        rw [r1.str', r2.str']
        refine .inl ⟨rfl, ?_⟩
        cases e
        rw [Bool.eq_iff_iff]
        simp
      · rename_i i j
        refine .inr (deep (ob i) (ob j) ?_)
        cases e
        simp [Val.eqv]
      · split at e
        · rename_i hk
          rw [Bool.and_eq_true] at hk
          cases e
          exact .inr (deep hk.1 hk.2 rfl)
        · cases e
theorem mem_at (hX : Good c X) {v w : Val} {x y : V} {b : Bool} (s : SR c env h ml G σ H) (r1 : RV c H ml G v x) (r2 : RV c H ml G w y) (e : memV h v w = some b) :
    (∃ p xs, y = .ref p ∧ (SqL X.K H p xs ∨ SqT X.K H p xs) ∧ flatV x = true ∧ xs.all flatV = true ∧ inV x xs = b) ∨
      ∃ d ds, Dp X.K H x d ∧ Dp X.K H y (.list ds) ∧ SeqAt.shaped d = true ∧ SeqAt.shaped (.list ds) = true ∧ (ds.any fun z => PyData.eqv z d) = b := by
  unfold memV at e
  cases e1 : seqV h w with
  | none => rw [e1] at e; simp at e
  | some l =>
    cases e2 : res h v with
    | none => rw [e1, e2] at e; simp at e
    | some v' =>
      rw [e1, e2] at e
      simp only at e
      split at e
      · rename_i hk
        rw [Bool.and_eq_true] at hk
        have ev : v' = v := by
          unfold res at e2
          split at e2
          · split at e2
            · split at e2
              · cases e2; cases hk.1
              · cases e2
            · cases e2
          · split at e2
            · cases e2; rfl
            · cases e2
        subst ev
        obtain ⟨a, xs, rfl, q, rs⟩ := seq_at s r2 e1
        rw [← hX.K] at q
        cases e
        exact .inl ⟨a, xs, rfl, q, scalar_flat r1 hk.1, scalar_all rs hk.2, scalar_any r1 hk.1 rs hk.2⟩
      · split at e
        · rename_i hk
          simp only [Bool.and_eq_true] at hk
          obtain ⟨⟨k0, k1⟩, k2⟩ := hk
          cases e
          cases e3 : lstV h w with
          | none => rw [e3] at k0; cases k0
          | some l' =>
            have el : l' = l := by
              cases w with
              | lst m => cases e3; cases e1; rfl
              | loc n =>
                simp only [lstV] at e3
                simp only [seqV] at e1
                split at e3
                · rename_i q; rw [q] at e1; cases e1; cases e3; rfl
                · cases e3
              | _ => cases e3
            subst el
            obtain ⟨a, xs, rfl, q, rs⟩ := lst_at s r2 e3
            have k1' : okDL 59 l' = true := by simpa [Val.okD] using k1
            refine .inr ⟨pd v', pdL l', hX.K ▸ res_dp s r1 e2 k2, hX.K ▸ Dp.lst (SqL.of q) (dpL_of 59 l' xs k1' rs), shaped_of k2, shaped_of (v := .lst l') k1, pd_any k2 l' k1'⟩
        · cases e
theorem or_C (hX : Good c X) (k : CK) : OpR X (compareOp (opC k)) (rC c k) := by
  have hu := hX.un
  intro pins s σ' H x y v u Q I rx ry hh
  obtain ⟨env, h, ml, G, σ, d, e, b, sr, r1, r2, ec, q⟩ := hh
  cases k with
  | eq =>
    rcases eq_at hX sr r1 r2 ec with ⟨h1, h2⟩ | ⟨p, p', h1, h2, h3, h4, h5⟩
    · exact op_eq pins s σ' H x y v u Q I rx ry ⟨h1, by rw [h2]; exact q⟩
    · exact op_eqD (by omega) pins s σ' H x y v u Q I rx ry ⟨p, p', h1, h2, h3, h4, by rw [h5]; exact q⟩
  | ne =>
    simp only [cmpV] at ec
    cases eb : MP.eqV h d e with
    | none => rw [eb] at ec; cases ec
    | some b0 =>
      rw [eb] at ec
      cases ec
      rcases eq_at hX sr r1 r2 eb with ⟨h1, h2⟩ | ⟨p, p', h1, h2, h3, h4, h5⟩
      · exact op_ne pins s σ' H x y v u Q I rx ry ⟨h1, by rw [h2]; exact q⟩
      · exact op_neD (by omega) pins s σ' H x y v u Q I rx ry ⟨p, p', h1, h2, h3, h4, by rw [h5]; exact q⟩
  | lt =>
    cases d with
    | int i =>
      cases e with
      | int j =>
        cases ec
        rw [r1.int'] at rx
        rw [r2.int'] at ry
        exact op_lt pins s σ' H _ _ v u Q I rx ry ⟨i, j, rfl, rfl, q⟩
      | _ => cases ec
    | tup l =>
      cases e with
      | tup m =>
        simp only [cmpV] at ec
        cases e1 : intsOf l with
        | none => rw [e1] at ec; simp at ec
        | some ns =>
          cases e2 : intsOf m with
          | none => rw [e1, e2] at ec; simp at ec
          | some ms =>
            rw [e1, e2] at ec
            cases ec
            obtain ⟨a1, xs, rfl, q1, s1⟩ := r1.tup'
            obtain ⟨a2, ys, rfl, q2, s2⟩ := r2.tup'
            rw [← hX.K] at q1 q2
            rw [ints_at s1 e1] at q1
            rw [ints_at s2 e2] at q2
            exact op_ltT (by omega) pins s σ' H _ _ v u Q I rx ry ⟨a1, a2, ns, ms, rfl, rfl, q1, q2, by rw [lexLt_eq]; exact q⟩
      | _ => cases ec
    | _ => cases ec
  | le =>
    cases d with
    | int i =>
      cases e with
      | int j =>
        cases ec
        rw [r1.int'] at rx
        rw [r2.int'] at ry
        exact op_le pins s σ' H _ _ v u Q I rx ry ⟨i, j, rfl, rfl, q⟩
      | _ => cases ec
    | tup l =>
      cases e with
      | tup m =>
        simp only [cmpV] at ec
        cases e1 : intsOf l with
        | none => rw [e1] at ec; simp at ec
        | some ns =>
          cases e2 : intsOf m with
          | none => rw [e1, e2] at ec; simp at ec
          | some ms =>
            rw [e1, e2] at ec
            cases ec
            obtain ⟨a1, xs, rfl, q1, s1⟩ := r1.tup'
            obtain ⟨a2, ys, rfl, q2, s2⟩ := r2.tup'
            rw [← hX.K] at q1 q2
            rw [ints_at s1 e1] at q1
            rw [ints_at s2 e2] at q2
            refine op_leT (by omega) pins s σ' H _ _ v u Q I rx ry ⟨a1, a2, ns, ms, rfl, rfl, q1, q2, ?_⟩
            rw [lexAt_le ns ms 0 _ _ _ (fun j _ _ => by rw [Nat.zero_add]) (fun j _ _ => by rw [Nat.zero_add]) rfl]
            exact q
      | _ => cases ec
    | _ => cases ec
  | gt =>
    cases d with
    | int i =>
      cases e with
      | int j =>
        cases ec
        rw [r1.int'] at rx
        rw [r2.int'] at ry
        exact op_gt pins s σ' H _ _ v u Q I rx ry ⟨i, j, rfl, rfl, q⟩
      | _ => cases ec
    | _ => cases ec
  | ge =>
    cases d with
    | int i =>
      cases e with
      | int j =>
        cases ec
        rw [r1.int'] at rx
        rw [r2.int'] at ry
        exact op_ge pins s σ' H _ _ v u Q I rx ry ⟨i, j, rfl, rfl, q⟩
      | _ => cases ec
    | _ => cases ec
  | isn =>
    cases e with
    | non =>
      have hy := r2.non'
      refine op_isN pins s σ' H x y v u Q I rx ry ⟨hy, ?_⟩
      have eb : decide (x = V.non) = b := by
        cases d with
        | non => cases ec; rw [r1.non']; rfl
        | bl _ => cases ec; rw [r1.bl']; rfl
        | int _ => cases ec; rw [r1.int']; rfl
        | str _ => cases ec; rw [r1.str']; rfl
        | tup _ => cases ec; obtain ⟨a, _, rfl, _⟩ := r1.tup'; rfl
        | lst _ => cases ec; obtain ⟨a, _, rfl, _⟩ := r1.lst'; rfl
        | scr _ => cases ec; obtain ⟨a, _, rfl, _⟩ := r1.scr'; rfl
        | dct _ _ => cases ec; obtain ⟨_, _, a, rfl, _⟩ := r1.dct'; rfl
        | loc _ => cases ec; obtain ⟨a, _, rfl⟩ := r1.loc'; rfl
        | fn _ => cases ec; rw [r1.fn']; rfl
        | ty _ => cases ec; rw [r1.ty']; rfl
      rw [eb]; exact q
    | _ => cases ec
  | isnn =>
    cases e with
    | non =>
      have hy := r2.non'
      refine op_notN pins s σ' H x y v u Q I rx ry ⟨hy, ?_⟩
      have eb : (!decide (x = V.non)) = b := by
        cases d with
        | non => cases ec; rw [r1.non']; rfl
        | bl _ => cases ec; rw [r1.bl']; rfl
        | int _ => cases ec; rw [r1.int']; rfl
        | str _ => cases ec; rw [r1.str']; rfl
        | tup _ => cases ec; obtain ⟨a, _, rfl, _⟩ := r1.tup'; rfl
        | lst _ => cases ec; obtain ⟨a, _, rfl, _⟩ := r1.lst'; rfl
        | scr _ => cases ec; obtain ⟨a, _, rfl, _⟩ := r1.scr'; rfl
        | dct _ _ => cases ec; obtain ⟨_, _, a, rfl, _⟩ := r1.dct'; rfl
        | loc _ => cases ec; obtain ⟨a, _, rfl⟩ := r1.loc'; rfl
        | fn _ => cases ec; rw [r1.fn']; rfl
        | ty _ => cases ec; rw [r1.ty']; rfl
      rw [eb]; exact q
    | _ => cases ec
  | ist =>
    cases d with
    | bl i =>
      cases e with
      | bl j =>
        cases j with
        | true =>
          cases ec
          rw [r1.bl'] at rx
          rw [r2.bl'] at ry
          refine op_isBl pins s σ' H _ _ v u Q I rx ry ⟨_, _, rfl, rfl, ?_⟩
          simpa using q
        | false => cases ec
      | _ => cases ec
    | _ => cases ec
  | isnt =>
    cases d with
    | bl i =>
      cases e with
      | bl j =>
        cases j with
        | true =>
          cases ec
          rw [r1.bl'] at rx
          rw [r2.bl'] at ry
          refine op_notBl pins s σ' H _ _ v u Q I rx ry ⟨_, _, rfl, rfl, ?_⟩
          simpa using q
        | false => cases ec
      | _ => cases ec
    | _ => cases ec
  | mem =>
    rcases mem_at hX sr r1 r2 ec with ⟨p, xs, h1, h2, h3, h4, h5⟩ | ⟨p, ds, h1, h2, h3, h4, h5⟩
    · exact op_in_seq pins s σ' H x y v u Q I rx ry ⟨p, xs, h1, h2, h3, h4, by rw [if_neg Bool.false_ne_true, h5]; exact q⟩
    · exact op_inD (by omega) pins s σ' H x y v u Q I rx ry ⟨p, ds, h1, h2, h3, h4, by rw [h5]; exact q⟩
  | nmem =>
    simp only [cmpV] at ec
    cases eb : memV h d e with
    | none => rw [eb] at ec; cases ec
    | some b0 =>
      rw [eb] at ec
      cases ec
      rcases mem_at hX sr r1 r2 eb with ⟨p, xs, h1, h2, h3, h4, h5⟩ | ⟨p, ds, h1, h2, h3, h4, h5⟩
      · exact op_notIn_seq pins s σ' H x y v u Q I rx ry ⟨p, xs, h1, h2, h3, h4, by rw [if_pos rfl, h5]; exact q⟩
      · exact op_notInD (by omega) pins s σ' H x y v u Q I rx ry ⟨p, ds, h1, h2, h3, h4, by rw [h5]; exact q⟩
end
end MPS

namespace MPS
open PySem PySem.Spec L2 MP

section
variable {c : C} {W : WX} {X : Cx} {a b d e : Expr} {fa fb fc : MEnv → M Val} {ta tb : MEnv → M Bool} {pos : Pos} {es rest : List Expr} {ga gb : MEnv → M (List Val)} {oa ob : MEnv → M (Option Int)}
theorem tT.imp {f : MEnv → M Bool} {σ : L2.St} {H : Hp} {Q Q' : Bool → Hp → Prop} (q : tT c W f σ H Q) (k : ∀ x H, Q x H → Q' x H) : tT c W f σ H Q' := by
  obtain ⟨env, h, ml, G, s, o⟩ := q
  exact ⟨env, h, ml, G, s, o.imp fun _ _ _ _ _ _ _ z => k _ _ z⟩
theorem tA.imp {f : MEnv → M (List Val)} {σ : L2.St} {H : Hp} {Q Q' : List V → Hp → Prop} (q : tA c W f σ H Q) (k : ∀ x H, Q x H → Q' x H) : tA c W f σ H Q' := by
  obtain ⟨env, h, ml, G, s, o⟩ := q
  exact ⟨env, h, ml, G, s, o.imp fun _ _ _ _ _ _ _ z x r => k _ _ (z x r)⟩
theorem sE_cmp {k : CK} (hX : Good c X) (ha : PE X a (tE c W fa)) (hb : PE X b (tE c W fb)) (hm : behindInMarks (opC k) b = false) :
    PE X (.Compare a [opC k] [b] pos) (tE c W fun env => do let x ← fa env; let y ← fb env; let r ← liftH fun h => cmpV h k x y; pure (.bl r)) := by
  refine (pe_cmpR (or_C hX k) ha hb hm).imp fun σ H Q q => ?_
  obtain ⟨env, h, ml, G, s, o⟩ := q
  refine tE.imp (tE.two (fa := fa) (fb := fb) s o) fun x H1 q1 => tE.imp q1 fun y H2 ⟨v, w, h2, ml2, G2, s2, r1, r2, o2⟩ => ?_
  obtain ⟨b, e, o3⟩ := Ok.liftHB o2 s2
  exact ⟨env, h2, ml2, G2, σ, v, w, b, s2, r1, r2, e, o3.pure s2 _ .bl⟩
theorem sT_cmp {k : CK} (hX : Good c X) (ha : PE X a (tE c W fa)) (hb : PE X b (tE c W fb)) (hm : behindInMarks (opC k) b = false) :
    PT X (.Compare a [opC k] [b] pos) (tT c W fun env => do let x ← fa env; let y ← fb env; liftH fun h => cmpV h k x y) := by
  refine (pt_cmpR (or_C hX k) ha hb hm).imp fun σ H Q q => ?_
  obtain ⟨env, h, ml, G, s, o⟩ := q
  refine tE.imp (tE.two (fa := fa) (fb := fb) s o) fun x H1 q1 => tE.imp q1 fun y H2 ⟨v, w, h2, ml2, G2, s2, r1, r2, o2⟩ => ?_
  obtain ⟨b, e, o3⟩ := o2.liftH s2
  exact ⟨env, h2, ml2, G2, σ, v, w, b, s2, r1, r2, e, b, rfl, o3⟩
theorem sE_cmp2 {k p : CK} (hX : Good c X) (ha : PE X a (tE c W fa)) (hb : PE X b (tE c W fb)) (hd : PE X d (tE c W fc)) (hm : lastMarks [opC k, opC p] [b, d] = false) :
    PE X (.Compare a [opC k, opC p] [b, d] pos) (tE c W fun env => do
      let x ← fa env
      let y ← fb env
      let r ← liftH fun h => cmpV h k x y
      if r then do let z ← fc env; let q ← liftH fun h => cmpV h p y z; pure (.bl q) else pure (.bl false)) := by
  refine (pe_chain (or_C hX k) (or_C hX p) ha hb hd hm).imp fun σ H Q q => ?_
  obtain ⟨env, h, ml, G, s, o⟩ := q
  refine tE.imp (tE.two (fa := fa) (fb := fb) s o) fun x H1 q1 => tE.imp q1 fun y H2 ⟨v, w, h2, ml2, G2, s2, r1, r2, o2⟩ => ?_
  obtain ⟨b, e, o3⟩ := Ok.liftHB o2 s2
  refine ⟨env, h2, ml2, G2, σ, v, w, b, s2, r1, r2, e, b, rfl, ?_⟩
  cases b with
  | false =>
    rw [if_neg Bool.false_ne_true]
    exact o3.pure s2 _ .bl
  | true =>
    rw [if_pos rfl]
    have o4 : Ok c W env σ ((do let z ← fc env; let q ← liftH fun h => cmpV h p w z; pure (Val.bl q)) h2) ml2 G2 H2 _ := o3
    refine ⟨env, h2, ml2, G2, s2, (Ok.bind o4).imp fun u h3 ml3 G3 H3 g3 s3 o5 z rz => ?_⟩
    obtain ⟨b2, e2, o6⟩ := Ok.liftHB o5 s3
    exact ⟨env, h3, ml3, G3, σ, w, u, b2, s3, r2.mono g3, rz, e2, o6.pure s3 _ .bl⟩
theorem sT_cmp2 {k p : CK} (hX : Good c X) (ha : PE X a (tE c W fa)) (hb : PE X b (tE c W fb)) (hd : PE X d (tE c W fc)) (hm : lastMarks [opC k, opC p] [b, d] = false) :
    PT X (.Compare a [opC k, opC p] [b, d] pos) (tT c W fun env => do
      let x ← fa env
      let y ← fb env
      let r ← liftH fun h => cmpV h k x y
      if r then do let z ← fc env; liftH fun h => cmpV h p y z else pure false) := by
  refine (pt_chain (or_C hX k) (or_C hX p) ha hb hd hm).imp fun σ H Q q => ?_
  obtain ⟨env, h, ml, G, s, o⟩ := q
  refine tE.imp (tE.two (fa := fa) (fb := fb) s o) fun x H1 q1 => tE.imp q1 fun y H2 ⟨v, w, h2, ml2, G2, s2, r1, r2, o2⟩ => ?_
  obtain ⟨b, e, o3⟩ := Ok.liftHB o2 s2
  refine ⟨env, h2, ml2, G2, σ, v, w, b, s2, r1, r2, e, b, rfl, ?_⟩
  cases b with
  | false =>
    rw [if_neg Bool.false_ne_true]
    exact ⟨false, rfl, o3.pure s2⟩
  | true =>
    rw [if_pos rfl]
    have o4 : Ok c W env σ ((do let z ← fc env; liftH fun h => cmpV h p w z) h2) ml2 G2 H2 _ := o3
    refine ⟨env, h2, ml2, G2, s2, (Ok.bind o4).imp fun u h3 ml3 G3 H3 g3 s3 o5 z rz => ?_⟩
    obtain ⟨b2, e2, o6⟩ := o5.liftH s3
    exact ⟨env, h3, ml3, G3, σ, w, u, b2, s3, r2.mono g3, rz, e2, b2, rfl, o6⟩

theorem bool_of {v : Val} {t : Bool} (h : boolV v = some t) : v = .bl t := by
  cases v with
  | bl b => cases h; rfl
  | _ => cases h
theorem sE_and (ha : PE X a (tE c W fa)) (hb : PE X (.BoolOp .And (b :: rest) pos) (tE c W fb)) :
    PE X (.BoolOp .And (a :: b :: rest) pos) (tE c W fun env => do let x ← fa env; let t ← lift (boolV x); if t then fb env else pure (.bl false)) := by
  refine (pe_and ha hb).imp fun σ H Q q => ?_
  obtain ⟨env, h, ml, G, s, o⟩ := q
  refine tE.imp (tE.one (fa := fa) s o) fun x H1 ⟨v, h1, ml1, G1, s1, r1, o1⟩ => ?_
  obtain ⟨t, e, o2⟩ := Ok.liftB o1 s1
  have e' := bool_of e
  subst e'
  refine ⟨t, r1.bl', ?_⟩
  cases t with
  | true => rw [if_pos rfl]; exact ⟨env, h1, ml1, G1, s1, o2⟩
  | false => rw [if_neg Bool.false_ne_true]; exact o2.pure s1 _ .bl
theorem sE_or (ha : PE X a (tE c W fa)) (hb : PE X (.BoolOp .Or (b :: rest) pos) (tE c W fb)) :
    PE X (.BoolOp .Or (a :: b :: rest) pos) (tE c W fun env => do let x ← fa env; let t ← lift (boolV x); if t then pure (.bl true) else fb env) := by
  refine (pe_or ha hb).imp fun σ H Q q => ?_
  obtain ⟨env, h, ml, G, s, o⟩ := q
  refine tE.imp (tE.one (fa := fa) s o) fun x H1 ⟨v, h1, ml1, G1, s1, r1, o1⟩ => ?_
  obtain ⟨t, e, o2⟩ := Ok.liftB o1 s1
  have e' := bool_of e
  subst e'
  refine ⟨t, r1.bl', ?_⟩
  cases t with
  | true => rw [if_pos rfl]; exact o2.pure s1 _ .bl
  | false => rw [if_neg Bool.false_ne_true]; exact ⟨env, h1, ml1, G1, s1, o2⟩
theorem sE_not (ha : PE X a (tE c W fa)) : PE X (.UnaryOp .Not a pos) (tE c W fun env => do let x ← fa env; let t ← lift (boolV x); pure (.bl (!t))) := by
  refine (pe_not ha).imp fun σ H Q q => ?_
  obtain ⟨env, h, ml, G, s, o⟩ := q
  refine tE.imp (tE.one (fa := fa) s o) fun x H1 ⟨v, h1, ml1, G1, s1, r1, o1⟩ => ?_
  obtain ⟨t, e, o2⟩ := Ok.liftB o1 s1
  have e' := bool_of e
  subst e'
  exact ⟨t, r1.bl', o2.pure s1 _ .bl⟩
theorem sE_neg (ha : PE X a (tE c W fa)) : PE X (.UnaryOp .USub a pos) (tE c W fun env => do let x ← fa env; lift (negV x)) := by
  refine (pe_un un_neg ha).imp fun σ H Q q => ?_
  obtain ⟨env, h, ml, G, s, o⟩ := q
  refine tE.imp (tE.one (fa := fa) s o) fun x H1 ⟨v, h1, ml1, G1, s1, r1, o1⟩ => ?_
  obtain ⟨t, e, o2⟩ := o1.lift s1
  cases v with
  | int i => cases e; exact ⟨i, r1.int', o2 _ .int⟩
  | _ => cases e
theorem tT.bind {α : Type} {k : Bool → M α} {env : MEnv} {h : MHeap} {ml : List Addr} {G : Addr → Prop} {σ : L2.St} {H : Hp} {Qa : α → MHeap → List Addr → (Addr → Prop) → Hp → Prop} (s : SR c env h ml G σ H)
    (o : Ok c W env σ ((do let x ← ta env; k x) h) ml G H Qa) : tT c W ta σ H fun t H1 => ∃ h1 ml1 G1, SR c env h1 ml1 G1 σ H1 ∧ Ok c W env σ (k t h1) ml1 G1 H1 Qa :=
  ⟨env, h, ml, G, s, (Ok.bind o).imp fun _ h1 ml1 G1 _ _ s1 o1 => ⟨h1, ml1, G1, s1, o1⟩⟩
theorem sE_ite (hc : PT X d (tT c W ta)) (ha : PE X a (tE c W fa)) (hb : PE X b (tE c W fb)) : PE X (.IfExp d a b pos) (tE c W fun env => do let t ← ta env; if t then fa env else fb env) := by
  refine (pe_ifExp hc ha hb).imp fun σ H Q q => ?_
  obtain ⟨env, h, ml, G, s, o⟩ := q
  refine tT.imp (tT.bind (ta := ta) s o) fun t H1 ⟨h1, ml1, G1, s1, o1⟩ => ?_
  cases t with
  | true => rw [if_pos rfl]; exact ⟨env, h1, ml1, G1, s1, o1⟩
  | false => rw [if_neg Bool.false_ne_true]; exact ⟨env, h1, ml1, G1, s1, o1⟩
theorem sW_and (ha : PT X a (tT c W ta)) (hb : PW X (.BoolOp .And (b :: rest) pos) (tT c W tb)) : PW X (.BoolOp .And (a :: b :: rest) pos) (tT c W fun env => do let x ← ta env; if x then tb env else pure false) := by
  refine (pw_and ha hb).imp fun σ H Q q => ?_
  obtain ⟨env, h, ml, G, s, o⟩ := q
  refine tT.imp (tT.bind (ta := ta) s o) fun t H1 ⟨h1, ml1, G1, s1, o1⟩ => ?_
  cases t with
  | true => rw [if_pos rfl]; exact ⟨env, h1, ml1, G1, s1, o1⟩
  | false => rw [if_neg Bool.false_ne_true]; exact o1.pure s1
theorem sW_or (ha : PT X a (tT c W ta)) (hb : PW X (.BoolOp .Or (b :: rest) pos) (tT c W tb)) : PW X (.BoolOp .Or (a :: b :: rest) pos) (tT c W fun env => do let x ← ta env; if x then pure true else tb env) := by
  refine (pw_or ha hb).imp fun σ H Q q => ?_
  obtain ⟨env, h, ml, G, s, o⟩ := q
  refine tT.imp (tT.bind (ta := ta) s o) fun t H1 ⟨h1, ml1, G1, s1, o1⟩ => ?_
  cases t with
  | true => rw [if_pos rfl]; exact o1.pure s1
  | false => rw [if_neg Bool.false_ne_true]; exact ⟨env, h1, ml1, G1, s1, o1⟩
theorem sT_not (ha : PT X a (tT c W ta)) : PT X (.UnaryOp .Not a pos) (tT c W fun env => do let x ← ta env; pure (!x)) := by
  refine (pt_not ha).imp fun σ H Q q => ?_
  obtain ⟨env, h, ml, G, s, o⟩ := q
  exact tT.imp (tT.bind (ta := ta) s o) fun t H1 ⟨h1, ml1, G1, s1, o1⟩ => o1.pure s1
theorem tru_at (hX : Good c X) {env : MEnv} {h : MHeap} {ml : List Addr} {G : Addr → Prop} {σ : L2.St} {H : Hp} {v : Val} {x : V} {t : Bool} (s : SR c env h ml G σ H) (r : RV c H ml G v x) (e : truV h v = some t) : TruV X.K x H t := by
  have sq : ∀ {l : List Val}, seqV h v = some l → (!l.isEmpty) = t → TruV X.K x H t := fun {l} e1 e2 => by
    obtain ⟨a, xs, rfl, q, rs⟩ := seq_at s r e1
    rw [← hX.K] at q
    rcases q with q | q
    · exact .inl ⟨xs, q, by rw [rs.isEmpty]; exact e2.symm⟩
    · exact .inr (.inl ⟨xs, q, by rw [rs.isEmpty]; exact e2.symm⟩)
  cases v with
  | bl b => cases e; rw [r.bl']; exact rfl
  | non => cases e; rw [r.non']; exact rfl
  | int b => cases e; rw [r.int']; exact rfl
  | str b => cases e
  | tup l => exact sq rfl (Option.some.inj e)
  | lst l => exact sq rfl (Option.some.inj e)
  | scr l => exact sq rfl (Option.some.inj e)
  | dct _ _ => cases e
  | loc n =>
    have e' : (seqV h (.loc n)).map (fun l => !l.isEmpty) = some t := e
    cases k : seqV h (.loc n) with
    | none => rw [k] at e'; cases e'
    | some l => rw [k] at e'; exact sq k (Option.some.inj e')
  | fn _ => cases e
  | ty _ => cases e
/-- an expression whose test is its value's truth -/
def plainTest : Expr → Bool
  | .UnaryOp .Not _ _ => false
  | .BoolOp _ _ _ => false
  | .IfExp _ _ _ _ => false
  | .Compare _ _ _ _ => false
  | .NamedExpr _ _ _ => false
  | _ => true
theorem isTrue_plainTest {e : Expr} (env : PySem.Env) (h : plainTest e = true) : ∀ whole, isTrue e env whole = (do let v ← whole; standAt e.pos; holding [v] (truthy v)) := by
  intro whole
  cases e with
  | UnaryOp op _ _ => cases op <;> first | rfl | (simp [plainTest] at h)
  | BoolOp _ _ _ => simp [plainTest] at h
  | IfExp _ _ _ _ => simp [plainTest] at h
  | Compare _ _ _ _ => simp [plainTest] at h
  | NamedExpr _ _ _ => simp [plainTest] at h
  | _ => rfl
theorem sT_tr (hX : Good c X) (ha : PE X a (tE c W fa)) (hp : plainTest a = true) : PT X a (tT c W fun env => do let x ← fa env; liftH fun h => truV h x) := by
  refine (pt_truth ha (isTrue_plainTest _ hp)).imp fun σ H Q q => ?_
  obtain ⟨env, h, ml, G, s, o⟩ := q
  refine tE.imp (tE.one (fa := fa) s o) fun x H1 ⟨v, h1, ml1, G1, s1, r1, o1⟩ => ?_
  obtain ⟨t, e, o2⟩ := o1.liftH s1
  exact ⟨t, tru_at hX s1 r1 e, o2⟩

def isStar : Expr → Bool
  | .Starred _ _ => true
  | _ => false
theorem star_of (e : Expr) (es : List Expr) (env : PySem.Env) (h : isStar e = false) : starEach (e :: es) env = (false, eval e env) :: starEach es env := by
  cases e with
  | Starred _ _ => simp [isStar] at h
  | _ => rfl
theorem sA_nil : PA X [] (tA c W fun _ => pure []) := pa_nil.imp fun σ H Q q => by
  obtain ⟨env, h, ml, G, s, o⟩ := q
  exact o.pure s _ .nil
theorem sA_cons (ha : PE X a (tE c W fa)) (hr : PA X es (tA c W ga)) (hs : isStar a = false) : PA X (a :: es) (tA c W fun env => do let x ← fa env; let xs ← ga env; pure (x :: xs)) := by
  refine (pa_cons ha hr (star_of _ _ _ hs)).imp fun σ H Q q => ?_
  obtain ⟨env, h, ml, G, s, o⟩ := q
  refine ⟨env, h, ml, G, s, (Ok.bind o).imp fun v h1 ml1 G1 H1 g1 s1 o1 x r => ⟨env, h1, ml1, G1, s1, (Ok.bind o1).imp fun vs h2 ml2 G2 H2 g2 s2 o2 xs rs => o2.pure s2 _ (.cons (r.mono g2) rs)⟩⟩
theorem few_of {l l' : List Val} (h : few l = some l') : l' = l ∧ l.length ≤ SZ := by
  unfold few at h
  split at h
  · cases h; exact ⟨rfl, by assumption⟩
  · cases h
theorem sE_tup {k : Nat} (ha : PA X es (tA c W ga)) : PE X (.Tuple es k pos) (tE c W fun env => do let l ← ga env; let l ← lift (few l); pure (.tup l)) := by
  refine (pe_tup ha).imp fun σ H Q q => ?_
  obtain ⟨env, h, ml, G, s, o⟩ := q
  refine ⟨env, h, ml, G, s, (Ok.bind o).imp fun l h1 ml1 G1 H1 g1 s1 o1 xs rs => ?_⟩
  obtain ⟨l', e, o2⟩ := (Ok.bind o1).liftG
  obtain ⟨rfl, hl⟩ := few_of e
  refine ⟨by rw [rs.length, sizeSZ]; exact hl, fun p hp => ?_⟩
  exact (o2 ml1 G1 _ (s1.fresh (.tup xs) hp) (s1.laid _ hp)).pure (s1.laid _ hp) _ (.tup (SqT.of upd_same) (rs.mono (s1.fresh _ hp)))
/-- a list display -/
theorem okF_laid {env : MEnv} {h : MHeap} {ml : List Addr} {G : Addr → Prop} {σ : L2.St} {H : Hp} {l : List Val} {xs : List V} {Q : VK} {p : Addr} (s : SR c env h ml G σ H) (o : OkF c W env σ (.ok l h) ml G H Q) (r : RVs c H ml G l xs) (hp : H p = none) : Q (.ref p) (upd H p (.lst xs)) := by
  have np : ∀ b, H b ≠ none → b ≠ p := fun b hb z => hb (by rw [z]; exact hp)
  have g : Grow ml G H ml (fun b => G b ∨ b = p) (upd H p (.lst xs)) := by
    have g0 := s.fresh (.lst xs) hp
    refine ⟨g0.pre, fun b z => .inl z, fun b z => ?_, g0.fr, g0.mg, g0.ls, g0.ln⟩
    rcases z with z | z
    · exact .inl z
    · exact .inr (by rw [z]; exact hp)
  have s' : SR c env h ml (fun b => G b ∨ b = p) σ (upd H p (.lst xs)) := by
    refine s.over g (fun b hb => upd_ne (np b (s.tr b (s.mg b hb)))) fun b z => ?_
    by_cases hb : b = p
    · rw [hb, upd_same]; simp
    · rw [upd_ne hb]
      rcases z with z | z
      · exact s.tr b z
      · exact absurd z hb
  exact o ml _ _ p xs g s' hp (.inr rfl) (fun z => np p (s.tr p (s.mg p z)) rfl) upd_same (r.mono g)
theorem okF_exc {env : MEnv} {h : MHeap} {ml : List Addr} {G : Addr → Prop} {σ : L2.St} {H : Hp} {α : Type} {m : M α} {k : α → M (List Val)} {Q : VK} (o : OkF c W env σ ((m >>= k) h) ml G H Q) :
    Ok c W env σ (m h) ml G H fun v h1 ml1 G1 H1 => OkF c W env σ (k v h1) ml1 G1 H1 Q := by
  rw [bind_app] at o
  unfold OkF at o
  unfold Ok OkF
  cases e : m h with
  | bad => rw [e] at o; exact o
  | exc x h1 => rw [e] at o; exact o
  | ok v h1 =>
    rw [e] at o
    simp only at o ⊢
    intro ml1 G1 H1 g1 s1
    cases e2 : k v h1 with
    | bad => rw [e2] at o; exact o
    | exc x h2 =>
      rw [e2] at o
      intro ml2 G2 H2 cls d g2 s2 ex
      exact o ml2 G2 H2 cls d (g1.trans g2) s2 ex
    | ok l h2 =>
      rw [e2] at o
      intro ml2 G2 H2 p xs g2 s2 hn hg hm e3 rs
      refine o ml2 G2 H2 p xs (g1.trans g2) s2 ?_ hg hm e3 rs
      cases q : H p with
      | none => rfl
      | some u =>
        by_cases hp : p ∈ ml
        · exact absurd hn (g1.ln p hp)
        · rw [g1.fr p u q hp] at hn; cases hn
theorem OkF.lift {env : MEnv} {h : MHeap} {ml : List Addr} {G : Addr → Prop} {σ : L2.St} {H : Hp} {r : Option (List Val)} {Q : VK} (o : OkF c W env σ (MP.lift r h) ml G H Q) : ∃ l, r = some l ∧ OkF c W env σ (.ok l h) ml G H Q := by
  cases e : r with
  | none => rw [e] at o; exact o.elim
  | some l => rw [e] at o; exact ⟨l, rfl, o⟩
theorem OkF.liftH {env : MEnv} {h : MHeap} {ml : List Addr} {G : Addr → Prop} {σ : L2.St} {H : Hp} {f : MHeap → Option (List Val)} {Q : VK} (o : OkF c W env σ (MP.liftH f h) ml G H Q) : ∃ l, f h = some l ∧ OkF c W env σ (.ok l h) ml G H Q := by
  unfold MP.liftH at o
  cases e : f h with
  | none => rw [e] at o; exact o.elim
  | some l => rw [e] at o; exact ⟨l, rfl, o⟩
theorem sF_disp (ha : PA X es (tA c W ga)) : PE X (.List es pos) (tF c W fun env => do let l ← ga env; lift (few l)) := by
  refine (pe_lst ha).imp fun σ H Q q => ?_
  obtain ⟨env, h, ml, G, s, o⟩ := q
  refine ⟨env, h, ml, G, s, (okF_exc o).imp fun l h1 ml1 G1 H1 g1 s1 o1 xs rs => ?_⟩
  unfold lift at o1
  cases e : few l with
  | none => rw [e] at o1; exact o1.elim
  | some l' =>
    rw [e] at o1
    obtain ⟨rfl, hl⟩ := few_of e
    exact ⟨by rw [rs.length, sizeSZ]; exact hl, fun p hp => okF_laid s1 o1 rs hp⟩
/-- a new list as a value -/
theorem inl_imp {f : MEnv → M (List Val)} {σ : L2.St} {H : Hp} {Q : VK} (q : tE c W (fun env => do let l ← f env; pure (.lst l)) σ H Q) : tF c W f σ H Q := by
  obtain ⟨env, h, ml, G, s, o⟩ := q
  refine ⟨env, h, ml, G, s, ?_⟩
  dsimp only at o
  rw [bind_app] at o
  unfold Ok at o
  unfold OkF
  cases e : f env h with
  | bad => rw [e] at o; exact o
  | exc x h1 => rw [e] at o; exact o
  | ok l h1 =>
    rw [e] at o
    intro ml1 G1 H1 p xs g s1 hn hg hm e1 rs
    have ne : ∀ b ∈ ml1, b ≠ p := fun b hb z => hm (z ▸ hb)
    have gp : ¬ G p := fun z => s.tr p z hn
    have g' : Grow ml G H ml1 (fun b => G1 b ∧ b ≠ p) H1 := ⟨g.pre, fun b z => ⟨g.gm b z, fun z' => gp (z' ▸ z)⟩, fun b z => g.gn b z.1, g.fr, g.mg, g.ls, g.ln⟩
    have le : ∀ (d : Val) (x : V), RV c H1 ml1 G1 d x → RV c H1 ml1 (fun b => G1 b ∧ b ≠ p) d x := fun d x r => RV.lessG (fun b z => z.1) d x r
    have s' : SR c env h1 ml1 (fun b => G1 b ∧ b ≠ p) σ H1 := by
      refine ⟨s1.len, s1.nd, fun b hb => ⟨s1.mg b hb, ne b hb⟩, fun b z => s1.tr b z.1, fun n o b e1 e2 => ?_, fun i v e1 => ?_, s1.el⟩
      · have q := s1.obj n o b e1 e2
        cases o with
        | list l2 =>
          obtain ⟨zs, e3, r3⟩ := q
          exact ⟨zs, e3, RVs.lessG (fun b z => z.1) _ _ r3⟩
        | dict _ _ => exact q.elim
      · obtain ⟨x, e2, r⟩ := s1.ev i v e1
        exact ⟨x, e2, le v x r⟩
    exact o ml1 _ H1 g' s' _ (.lst e1 (fun z => z.2 rfl) (RVs.lessG (fun b z => z.1) _ _ rs))
theorem mk_imp {f : MEnv → M (List Val)} {σ : L2.St} {H : Hp} {Q : VK} (q : tE c W (fun env => do let l ← f env; alloc l) σ H Q) : tF c W f σ H Q := by
  obtain ⟨env, h, ml, G, s, o⟩ := q
  refine ⟨env, h, ml, G, s, ?_⟩
  dsimp only at o
  rw [bind_app] at o
  unfold Ok at o
  unfold OkF
  cases e : f env h with
  | bad => rw [e] at o; exact o
  | exc x h1 => rw [e] at o; exact o
  | ok l h1 =>
    rw [e] at o
    intro ml1 G1 H1 p xs g s1 hn hg hm e1 rs
    exact o (ml1 ++ [p]) G1 H1 (g.mkl hn hg hm e1) (s1.mkl hg hm e1 rs) _ (.loc (by rw [← s1.len]; simp))

theorem sE_inl {f : MEnv → M (List Val)} (ha : PE X a (tF c W f)) : PE X a (tE c W fun env => do let l ← f env; pure (.lst l)) := ha.imp fun _ _ _ q => inl_imp q
theorem sE_mk {f : MEnv → M (List Val)} (ha : PE X a (tF c W f)) : PE X a (tE c W fun env => do let l ← f env; alloc l) := ha.imp fun _ _ _ q => mk_imp q

def isSlice : Expr → Bool
  | .Slice _ _ _ _ => true
  | _ => false
theorem plainIx {e : Expr} (h : isSlice e = false) : PlainIx e := by
  intro o i
  cases e with
  | Slice _ _ _ _ => simp [isSlice] at h
  | _ => rfl
theorem atI_rel {H : Hp} {ml : List Addr} {G : Addr → Prop} {l : List Val} {xs : List V} {i : Int} {v : Val} (r : RVs c H ml G l xs) (e : MP.atI l i = some v) : ∃ x, L2.atI xs i = some x ∧ RV c H ml G v x := by
  unfold MP.atI at e
  have el : xs.length = l.length := r.length
  have en : L2.ixN xs.length i = MP.ixN l.length i := by rw [el]; rfl
  unfold L2.atI
  rw [en]
  cases k : MP.ixN l.length i with
  | none => rw [k] at e; cases e
  | some j =>
    rw [k] at e
    obtain ⟨x, e2, r2⟩ := r.get (i := j) e
    exact ⟨x, e2, r2⟩
theorem sE_idx (hX : Good c X) (ha : PE X a (tE c W fa)) (hb : PE X b (tE c W fb)) (hs : isSlice b = false) : PE X (.Subscript a b pos) (tE c W fun env => do let x ← fa env; let y ← fb env; liftH fun h => idxV h x y) := by
  refine (pe_ix ix_seq ha hb (plainIx hs)).imp fun σ H Q q => ?_
  obtain ⟨env, h, ml, G, s, o⟩ := q
  refine tE.imp (tE.two (fa := fa) (fb := fb) s o) fun x H1 q1 => tE.imp q1 fun y H2 ⟨v, w, h2, ml2, G2, s2, r1, r2, o2⟩ => ?_
  obtain ⟨u, e, o3⟩ := o2.liftH s2
  cases w with
  | int i =>
    have e' : (seqV h2 v).bind (MP.atI · i) = some u := e
    cases k : seqV h2 v with
    | none => rw [k] at e'; cases e'
    | some l =>
      rw [k] at e'
      obtain ⟨p, xs, rfl, q, rs⟩ := seq_at s2 r1 k
      rw [← hX.K] at q
      obtain ⟨z, e3, rz⟩ := atI_rel rs e'
      rcases q with q | q
      · exact .inl ⟨p, xs, i, z, rfl, r2.int', q, e3, o3 z rz⟩
      · exact .inr (.inl ⟨p, xs, i, z, rfl, r2.int', q, e3, o3 z rz⟩)
  | _ => cases e
theorem sO_none : PO X none (tO c W fun _ => pure none) := po_none.imp fun σ H Q q => by
  obtain ⟨env, h, ml, G, s, o⟩ := q
  exact o.pure s
theorem sO_some (ha : PE X a (tE c W fa)) : PO X (some a) (tO c W fun env => do let x ← fa env; let i ← lift (intV x); pure (some i)) := by
  refine (po_some ha).imp fun σ H Q q => ?_
  obtain ⟨env, h, ml, G, s, o⟩ := q
  refine tE.imp (tE.one (fa := fa) s o) fun x H1 ⟨v, h1, ml1, G1, s1, r1, o1⟩ => ?_
  obtain ⟨t, e, o2⟩ := Ok.liftB o1 s1
  cases v with
  | int i => cases e; exact ⟨_, r1.int', o2.pure s1⟩
  | _ => cases e
theorem sIx_eq (n d : Nat) (o : Option Int) : HT.sIx n d o = MP.sIx n d o := by
  cases o with
  | none => rfl
  | some i =>
    show (if i < 0 then (i + (n : Int)).toNat else min i.toNat n) = (if 0 ≤ i then min i.toNat n else (i + n).toNat)
    by_cases h : 0 ≤ i
    · rw [if_pos h, if_neg (by omega)]
    · rw [if_neg h, if_pos (by omega)]
theorem cut_rel {H : Hp} {ml : List Addr} {G : Addr → Prop} {l : List Val} {xs : List V} {lo hi : Option Int} (r : RVs c H ml G l xs) : RVs c H ml G (cut l lo hi) (cutV xs lo hi) := by
  have el : xs.length = l.length := r.length
  unfold cutV cut
  rw [sIx_eq, sIx_eq, el]
  exact (r.drop _).take _
theorem cut_whole {l : List Val} {lo hi : Option Int} (h : MP.sIx l.length 0 lo = 0 ∧ MP.sIx l.length l.length hi = l.length) : cut l lo hi = l := by
  unfold cut
  simp only [h.1, h.2]
  simp
theorem sE_slc {lo hi : Option Expr} {p2 : Pos} (hX : Good c X) (ha : PE X a (tE c W fa)) (hl : PO X lo (tO c W oa)) (hh : PO X hi (tO c W ob)) :
    PE X (.Subscript a (.Slice lo hi none p2) pos) (tE c W fun env => do let x ← fa env; let l ← oa env; let r ← ob env; let vs ← lift (tupV x); pure (.tup (cut vs l r))) := by
  refine (pe_slice sl_tupA ha hl hh).imp fun σ H Q q => ?_
  obtain ⟨env, h, ml, G, s, o⟩ := q
  refine ⟨env, h, ml, G, s, (Ok.bind o).imp fun v h1 ml1 G1 H1 g1 s1 o1 x r1 => ⟨env, h1, ml1, G1, s1, (Ok.bind o1).imp fun l h2 ml2 G2 H2 g2 s2 o2 => ⟨env, h2, ml2, G2, s2, (Ok.bind o2).imp fun r h3 ml3 G3 H3 g3 s3 o3 => ?_⟩⟩⟩
  obtain ⟨vs, e, o4⟩ := (Ok.bind o3).liftG
  cases v with
  | tup m =>
    cases e
    obtain ⟨p, xs, rfl, q, rs⟩ := ((r1.mono g2).mono g3).tup'
    rw [← hX.K] at q
    have el : xs.length = vs.length := rs.length
    refine ⟨p, xs, rfl, q, fun hw => ?_, fun _ p' hp => ?_⟩
    · have z := (o4 ml3 G3 H3 s3.refl s3).pure s3
      rw [cut_whole (by rw [← sIx_eq, ← sIx_eq, ← el]; exact hw)] at z
      exact z _ (.tup (hX.K ▸ q) rs)
    · exact (o4 ml3 G3 _ (s3.fresh _ hp) (s3.laid _ hp)).pure (s3.laid _ hp) _ (.tup (SqT.of upd_same) ((cut_rel rs).mono (s3.fresh _ hp)))
  | _ => cases e
theorem sF_slc {lo hi : Option Expr} {p2 : Pos} (hX : Good c X) (ha : PE X a (tE c W fa)) (hl : PO X lo (tO c W oa)) (hh : PO X hi (tO c W ob)) :
    PE X (.Subscript a (.Slice lo hi none p2) pos) (tF c W fun env => do let x ← fa env; let l ← oa env; let r ← ob env; let vs ← liftH fun h => scrV h x; pure (cut vs l r)) := by
  refine (pe_slice sl_list ha hl hh).imp fun σ H Q q => ?_
  obtain ⟨env, h, ml, G, s, o⟩ := q
  refine ⟨env, h, ml, G, s, (okF_exc o).imp fun v h1 ml1 G1 H1 g1 s1 o1 x r1 => ⟨env, h1, ml1, G1, s1, (okF_exc o1).imp fun l h2 ml2 G2 H2 g2 s2 o2 => ⟨env, h2, ml2, G2, s2, (okF_exc o2).imp fun r h3 ml3 G3 H3 g3 s3 o3 => ?_⟩⟩⟩
  obtain ⟨vs, e, o4⟩ := (okF_exc o3).liftHG
  obtain ⟨p, xs, rfl, q, rs⟩ := scr_at s3 ((r1.mono g2).mono g3) e
  rw [← hX.K] at q
  exact ⟨p, xs, rfl, q, fun p' hp => okF_laid s3 (o4 ml3 G3 H3 s3.refl s3) (cut_rel rs) hp⟩
theorem sF_cat (ha : PE X a (tE c W fa)) (hb : PE X b (tE c W fb)) : PE X (.BinOp a .Add b pos) (tF c W fun env => do
    let x ← fa env
    let y ← fb env
    let l ← liftH fun h => lstV h x
    let r ← liftH fun h => lstV h y
    lift (catL l r)) := by
  refine (pe_op op_cat ha hb).imp fun σ H Q q => ?_
  obtain ⟨env, h, ml, G, s, o⟩ := q
  refine ⟨env, h, ml, G, s, (okF_exc o).imp fun v h1 ml1 G1 H1 g1 s1 o1 x r1 => ⟨env, h1, ml1, G1, s1, (okF_exc o1).imp fun w h2 ml2 G2 H2 g2 s2 o2 y r2 => ?_⟩⟩
  obtain ⟨l, e, o3⟩ := (okF_exc o2).liftH s2
  obtain ⟨r, e2, o4⟩ := (okF_exc o3).liftH s2
  obtain ⟨m, hm, o5⟩ := OkF.lift o4
  unfold catL at hm
  split at hm
  · rename_i hz
    cases hm
    obtain ⟨p, xs, rfl, q, rs⟩ := lst_at s2 (r1.mono g2) e
    obtain ⟨p2, ys, rfl, q2, rs2⟩ := lst_at s2 r2 e2
    exact ⟨p, p2, xs, ys, rfl, rfl, q, q2, by rw [rs.length, rs2.length, sizeSZ]; exact hz, fun p' hp => okF_laid s2 o5 (rs.append rs2) hp⟩
  · cases hm
end
end MPS

namespace MPS
open PySem PySem.Spec L2 MP

section
variable {c : C} {W : WX} {X : Cx} {a b d e : Expr} {fa fb fc : MEnv → M Val} {pos p1 p2 : Pos} {es rest : List Expr} {ga gb : MEnv → M (List Val)}
theorem sF_rep (ha : PE X a (tE c W fa)) (hb : PE X b (tE c W fb)) : PE X (.BinOp a .Mult b pos) (tF c W fun env => do
    let x ← fa env
    let y ← fb env
    let l ← liftH fun h => lstV h x
    lift (repV l y)) := by
  refine (pe_op op_rep ha hb).imp fun σ H Q q => ?_
  obtain ⟨env, h, ml, G, s, o⟩ := q
  refine ⟨env, h, ml, G, s, (okF_exc o).imp fun v h1 ml1 G1 H1 g1 s1 o1 x r1 => ⟨env, h1, ml1, G1, s1, (okF_exc o1).imp fun w h2 ml2 G2 H2 g2 s2 o2 y r2 => ?_⟩⟩
  obtain ⟨l, e, o3⟩ := (okF_exc o2).liftH s2
  obtain ⟨m, hm, o5⟩ := OkF.lift o3
  unfold repV at hm
  split at hm
  · split at hm
    · rename_i n hz
      cases hm
      simp only [Bool.and_eq_true, decide_eq_true_eq] at hz
      obtain ⟨p, xs, rfl, q, rs⟩ := lst_at s2 (r1.mono g2) e
      exact ⟨p, n, xs, rfl, r2.int', q, hz.1.1, hz.1.2, by rw [rs.length, sizeSZ]; exact hz.2, fun p' hp => okF_laid s2 o5 rs.flat hp⟩
    · cases hm
  · cases hm
def b1F : B1 → Value
  | .len => .builtin "len" | .int => .type "int" | .bool => .type "bool" | .str => .type "str" | .sum => .builtin "sum" | .any => .builtin "any" | .all => .builtin "all"
  | .tuple => .type "tuple" | .max => .builtin "max" | .min => .builtin "min" | .abs => .builtin "abs"
def b1N : B1 → Str
  | .len => "len" | .int => "int" | .bool => "bool" | .str => "str" | .sum => "sum" | .any => "any" | .all => "all" | .tuple => "tuple" | .max => "max" | .min => "min" | .abs => "abs"
def rB1 (c : C) (W : WX) (k : B1) : List V → Hp → VK → Prop := fun xs H Q => ∃ (env : MEnv) (h : MHeap) (ml : List Addr) (G : Addr → Prop) (σ : L2.St) (v : Val) (x : V), xs = [x] ∧ SR c env h ml G σ H ∧ RV c H ml G v x ∧
  Ok c W env σ (liftH (fun h => b1V h k v) h) ml G H fun u _ ml' G' H' => ∀ z, RV c H' ml' G' u z → Q z H'
theorem max_of {ns : List Int} {m m' : Int} (e : ns.max? = some m') (h : m ∈ ns) (h2 : ∀ y, y ∈ ns → y ≤ m) : m = m' := by
  obtain ⟨h3, h4⟩ := List.max?_eq_some_iff.mp e
  exact Int.le_antisymm (h4 m h) (h2 m' h3)
theorem min_of {ns : List Int} {m m' : Int} (e : ns.min? = some m') (h : m ∈ ns) (h2 : ∀ y, y ∈ ns → m ≤ y) : m = m' := by
  obtain ⟨h3, h4⟩ := List.min?_eq_some_iff.mp e
  exact Int.le_antisymm (h2 m' h3) (h4 m h)
theorem cr_B1 (hX : Good c X) (k : B1) : CallR X (b1F k) (rB1 c W k) := by
  intro pins s σ H xs us Q I r q
  obtain ⟨env, h, ml, G, σ', v, x, rfl, sr, rv, o⟩ := q
  obtain ⟨u, e, o⟩ := o.liftHG
  have o0 := o ml G H sr.refl sr
  cases k with
  | len =>
    cases k : seqV h v with
    | none => simp [b1V, k] at e
    | some l =>
      simp [b1V, k] at e
      subst e
      obtain ⟨p, ys, rfl, q, rs⟩ := seq_at sr rv k
      rw [← hX.K] at q
      exact call_len_seq pins s σ H _ us Q I r ⟨p, ys, rfl, q, by rw [rs.length]; exact o0 _ .int⟩
  | int =>
    cases v <;> simp [b1V] at e
    · subst e; exact call_int1 pins s σ H _ us Q I r (.inr ⟨_, by rw [rv.bl'], o0 _ .int⟩)
    · subst e; exact call_int1 pins s σ H _ us Q I r (.inl ⟨_, by rw [rv.int'], o0 _ .int⟩)
  | bool =>
    cases v <;> simp [b1V] at e
    subst e; exact call_bool1 pins s σ H _ us Q I r (.inr ⟨_, by rw [rv.bl'], o0 _ .bl⟩)
  | str =>
    cases v <;> simp only [b1V] at e
    all_goals first | (cases e; done) | skip
    split at e
    · rename_i hi
      cases e
      exact call_str_int pins s σ H _ us Q I r ⟨_, by rw [rv.int'], hi, o0 _ .str⟩
    · cases e
  | sum =>
    cases k : (lstV h v).bind intsOf with
    | none => simp [b1V, k] at e
    | some ns =>
      simp [b1V, k] at e
      subst e
      obtain ⟨l, k1, k2⟩ := Option.bind_eq_some_iff.mp k
      obtain ⟨p, ys, rfl, q, rs⟩ := lst_at sr rv k1
      have := ints_at rs k2
      subst this
      exact cr_sum hX.calm pins s σ H _ us Q I r ⟨p, ns, rfl, .inl (.inl q), o0 _ .int⟩
  | any =>
    cases k : (lstV h v).bind boolsOf with
    | none => simp [b1V, k] at e
    | some ns =>
      simp only [b1V, k] at e
      cases e
      obtain ⟨l, k1, k2⟩ := Option.bind_eq_some_iff.mp k
      obtain ⟨p, ys, rfl, q, rs⟩ := lst_at sr rv k1
      have := bools_at rs k2
      subst this
      exact cr_any hX.calm pins s σ H _ us Q I r ⟨p, ns, rfl, .inl (.inl q), o0 _ .bl⟩
  | all =>
    cases k : (lstV h v).bind boolsOf with
    | none => simp [b1V, k] at e
    | some ns =>
      simp only [b1V, k] at e
      cases e
      obtain ⟨l, k1, k2⟩ := Option.bind_eq_some_iff.mp k
      obtain ⟨p, ys, rfl, q, rs⟩ := lst_at sr rv k1
      have := bools_at rs k2
      subst this
      exact cr_all hX.calm pins s σ H _ us Q I r ⟨p, ns, rfl, .inl (.inl q), o0 _ .bl⟩
  | tuple =>
    have lst : ∀ {l : List Val}, lstV h v = some l → u = .tup l → wpAny (model X.prog X.w) X.A (call (b1F .tuple) us) (EP X pins σ Q) X.xe s := fun {l} k1 k2 => by
      subst k2
      obtain ⟨p, ys, rfl, q, rs⟩ := lst_at sr rv k1
      exact call_tuple_of pins s σ H _ us Q I r ⟨p, ys, rfl, .inl ⟨.inl (.inl q), fun p' hp => o ml G _ (sr.fresh _ hp) (sr.laid _ hp) _ (.tup (SqT.of upd_same) (rs.mono (sr.fresh _ hp)))⟩⟩
    cases v with
    | tup l =>
      cases e
      obtain ⟨p, ys, rfl, q, rs⟩ := rv.tup'
      rw [← hX.K] at q
      exact call_tuple_of pins s σ H _ us Q I r ⟨p, ys, rfl, .inr ⟨q, o0 _ (.tup (hX.K ▸ q) rs)⟩⟩
    | lst l => exact lst rfl (Option.some.inj e).symm
    | loc n =>
      have e' : (lstV h (.loc n)).map .tup = some u := e
      cases k1 : lstV h (.loc n) with
      | none => rw [k1] at e'; cases e'
      | some l => rw [k1] at e'; exact lst k1 (Option.some.inj e').symm
    | _ => cases e
  | max =>
    cases k : (lstV h v).bind intsOf with
    | none => simp [b1V, k] at e
    | some ns =>
      simp [b1V, k] at e
      obtain ⟨m', e1, rfl⟩ := e
      obtain ⟨l, k1, k2⟩ := Option.bind_eq_some_iff.mp k
      obtain ⟨p, ys, rfl, q, rs⟩ := lst_at sr rv k1
      have := ints_at rs k2
      subst this
      refine cr_max hX.calm pins s σ H _ us Q I r ⟨p, ns, rfl, .inl (.inl q), ?_, fun m hm h2 => by rw [max_of e1 hm h2]; exact o0 _ .int⟩
      cases ns with
      | nil => cases e1
      | cons _ _ => simp
  | min =>
    cases k : (lstV h v).bind intsOf with
    | none => simp [b1V, k] at e
    | some ns =>
      simp [b1V, k] at e
      obtain ⟨m', e1, rfl⟩ := e
      obtain ⟨l, k1, k2⟩ := Option.bind_eq_some_iff.mp k
      obtain ⟨p, ys, rfl, q, rs⟩ := lst_at sr rv k1
      have := ints_at rs k2
      subst this
      refine cr_min hX.calm pins s σ H _ us Q I r ⟨p, ns, rfl, .inl (.inl q), ?_, fun m hm h2 => by rw [min_of e1 hm h2]; exact o0 _ .int⟩
      cases ns with
      | nil => cases e1
      | cons _ _ => simp
  | abs =>
    cases v <;> simp only [b1V] at e
    all_goals first | (cases e; done) | skip
    cases e
    exact call_abs pins s σ H _ us Q I r ⟨_, by rw [rv.int'], o0 _ .int⟩
theorem sA_one (ha : PE X a (tE c W fa)) (hs : isStar a = false) : PA X [a] (fun σ H Q => tE c W fa σ H fun x H1 => Q [x] H1) := (pa_cons ha pa_nil (star_of _ _ _ hs)).imp fun _ _ _ q => q
theorem sE_b1 {k : B1} (hX : Good c X) (hg : Gl X (b1N k)) (hm : X.mg (b1N k) = none) (ha : PE X a (tE c W fa)) (hs : isStar a = false) : PE X (.Call (.Name (b1N k) p1) [a] [] pos) (tE c W fun env => do let x ← fa env; liftH fun h => b1V h k x) := by
  have hv : PE X (.Call (.Name (b1N k) p1) [a] [] pos) (tCB (rB1 c W k) (fun σ H Q => tE c W fa σ H fun x H1 => Q [x] H1)) := by
    have he := star_of a [] X.env hs
    cases k with
    | len => exact pe_callB (cr_B1 hX .len) hg hm rfl (sA_one ha hs) (by decide) (by decide) he rfl
    | int => exact pe_callTy (cr_B1 hX .int) hg hm rfl (sA_one ha hs) (by decide) (by decide) he rfl
    | bool => exact pe_callTy (cr_B1 hX .bool) hg hm rfl (sA_one ha hs) (by decide) (by decide) he rfl
    | str => exact pe_callTy (cr_B1 hX .str) hg hm rfl (sA_one ha hs) (by decide) (by decide) he rfl
    | sum => exact pe_callB (cr_B1 hX .sum) hg hm rfl (sA_one ha hs) (by decide) (by decide) he rfl
    | any => exact pe_callB (cr_B1 hX .any) hg hm rfl (sA_one ha hs) (by decide) (by decide) he rfl
    | all => exact pe_callB (cr_B1 hX .all) hg hm rfl (sA_one ha hs) (by decide) (by decide) he rfl
    | tuple => exact pe_callTy (cr_B1 hX .tuple) hg hm rfl (sA_one ha hs) (by decide) (by decide) he rfl
    | max => exact pe_callB (cr_B1 hX .max) hg hm rfl (sA_one ha hs) (by decide) (by decide) he rfl
    | min => exact pe_callB (cr_B1 hX .min) hg hm rfl (sA_one ha hs) (by decide) (by decide) he rfl
    | abs => exact pe_callB (cr_B1 hX .abs) hg hm rfl (sA_one ha hs) (by decide) (by decide) he rfl
  refine hv.imp fun σ H Q q => ?_
  obtain ⟨env, h, ml, G, s, o⟩ := q
  exact tE.imp (tE.one (fa := fa) s o) fun x H1 ⟨v, h1, ml1, G1, s1, r1, o1⟩ => ⟨env, h1, ml1, G1, σ, v, x, rfl, s1, r1, o1⟩
def b2F : B2 → Value
  | .max => .builtin "max" | .min => .builtin "min" | .divmod => .builtin "divmod"
def b2N : B2 → Str
  | .max => "max" | .min => "min" | .divmod => "divmod"
def rB2 (c : C) (W : WX) (k : B2) : List V → Hp → VK → Prop := fun xs H Q => ∃ (env : MEnv) (h : MHeap) (ml : List Addr) (G : Addr → Prop) (σ : L2.St) (v w : Val) (x y : V), xs = [x, y] ∧ SR c env h ml G σ H ∧ RV c H ml G v x ∧ RV c H ml G w y ∧
  Ok c W env σ (lift (b2V k v w) h) ml G H fun u _ ml' G' H' => ∀ z, RV c H' ml' G' u z → Q z H'
theorem cr_B2 (hX : Good c X) (k : B2) : CallR X (b2F k) (rB2 c W k) := by
  intro pins s σ H xs us Q I r q
  obtain ⟨env, h, ml, G, σ', v, w, x, y, rfl, sr, rv, rw', o⟩ := q
  obtain ⟨u, e, o⟩ := o.liftG
  have o0 := o ml G H sr.refl sr
  unfold b2V at e
  split at e
  · cases e
    exact call_max2 hX.calm pins s σ H _ us Q I r ⟨_, _, by rw [rv.int', rw'.int'], o0 _ .int⟩
  · cases e
    exact call_min2 hX.calm pins s σ H _ us Q I r ⟨_, _, by rw [rv.int', rw'.int'], o0 _ .int⟩
  · split at e
    · rename_i i j hj
      cases e
      simp only [Bool.and_eq_true, decide_eq_true_eq] at hj
      refine call_divmod pins s σ H _ us Q I r ⟨i, j, by rw [rv.int', rw'.int'], hj, fun p hp => o ml G _ (sr.fresh _ hp) (sr.laid _ hp) _ (.tup (SqT.of upd_same) (.cons .int (.cons .int .nil)))⟩
    · cases e
  · cases e
theorem sA_two (ha : PE X a (tE c W fa)) (hb : PE X b (tE c W fb)) (hs : isStar a = false) (hs2 : isStar b = false) : PA X [a, b] (fun σ H Q => tE c W fa σ H fun x H1 => tE c W fb σ H1 fun y H2 => Q [x, y] H2) :=
  (pa_cons ha (pa_cons hb pa_nil (star_of _ _ _ hs2)) (star_of _ _ _ hs)).imp fun _ _ _ q => q
theorem sE_b2 {k : B2} (hX : Good c X) (hg : Gl X (b2N k)) (hm : X.mg (b2N k) = none) (ha : PE X a (tE c W fa)) (hb : PE X b (tE c W fb)) (hs : isStar a = false) (hs2 : isStar b = false) :
    PE X (.Call (.Name (b2N k) p1) [a, b] [] pos) (tE c W fun env => do let x ← fa env; let y ← fb env; lift (b2V k x y)) := by
  have hv : PE X (.Call (.Name (b2N k) p1) [a, b] [] pos) (tCB (rB2 c W k) (fun σ H Q => tE c W fa σ H fun x H1 => tE c W fb σ H1 fun y H2 => Q [x, y] H2)) := by
    have he := star_of a [b] X.env hs
    have h2 : (backTo pos (starEach [b] X.env)).any (·.1) = false := by rw [star_of b [] X.env hs2]; rfl
    cases k with
    | max => exact pe_callB (cr_B2 hX .max) hg hm rfl (sA_two ha hb hs hs2) (by decide) (by decide) he h2
    | min => exact pe_callB (cr_B2 hX .min) hg hm rfl (sA_two ha hb hs hs2) (by decide) (by decide) he h2
    | divmod => exact pe_callB (cr_B2 hX .divmod) hg hm rfl (sA_two ha hb hs hs2) (by decide) (by decide) he h2
  refine hv.imp fun σ H Q q => ?_
  obtain ⟨env, h, ml, G, s, o⟩ := q
  exact tE.imp (tE.two (fa := fa) (fb := fb) s o) fun x H1 q1 => tE.imp q1 fun y H2 ⟨v, w, h2, ml2, G2, s2, r1, r2, o2⟩ => ⟨env, h2, ml2, G2, σ, v, w, x, y, rfl, s2, r1, r2, o2⟩
theorem kit_of' {K : PySem.W.Frag} {t s : String} {r : Bool} (ht : t ∈ ["NoneType", "bool", "int", "str", "tuple", "list", "dict"]) (e : isiT t s = some r) : PySem.W.kitOne K (.type t) (.type s) = some r := by
  refine kit_ty ?_
  simp only [List.mem_cons, List.mem_nil_iff, or_false] at ht
  unfold isiT at e
  split at e
  all_goals first | (cases e; done) | skip
  all_goals
    rcases ht with rfl | rfl | rfl | rfl | rfl | rfl | rfl <;> (cases e; decide +kernel)
theorem ty_at (hX : Good c X) {env : MEnv} {h : MHeap} {ml : List Addr} {G : Addr → Prop} {σ : L2.St} {H : Hp} {v : Val} {x : V} {t : String} (s : SR c env h ml G σ H) (r : RV c H ml G v x) (e : tyOf h v = some t) :
    TyX X.K H x (.type t) ∧ t ∈ ["NoneType", "bool", "int", "str", "tuple", "list", "dict"] := by
  have fl : ∀ {a : Addr} {xs : List V}, FL c.K H a xs → TyX X.K H (.ref a) (.type "list") := fun {a xs} q => by
    rcases q with ⟨o, q⟩ | ⟨o, its, n, q, q2, _⟩
    · exact .base (.frz q)
    · rw [hX.K]; exact .kList q q2
  cases v with
  | non => cases e; rw [r.non']; exact ⟨.base .non, by decide⟩
  | bl b => cases e; rw [r.bl']; exact ⟨.base (.bl _), by decide⟩
  | int b => cases e; rw [r.int']; exact ⟨.base (.int _), by decide⟩
  | str b => cases e; rw [r.str']; exact ⟨.base (.str _), by decide⟩
  | tup l =>
    cases e
    obtain ⟨a, xs, rfl, q, _⟩ := r.tup'
    refine ⟨?_, by decide⟩
    rcases q with (q | ⟨o, q⟩) | q
    · exact .base (.tup q)
    · exact .fTuple q
    · obtain ⟨o, its, n, q2, q3, _⟩ := q
      rw [hX.K]; exact .kTuple q2 q3
  | lst l =>
    cases e
    obtain ⟨a, xs, rfl, ⟨q, _⟩, _⟩ := r.lst'
    exact ⟨.base (.lst q), by decide⟩
  | scr l =>
    cases e
    obtain ⟨a, xs, rfl, q, _⟩ := r.scr'
    exact ⟨fl q, by decide⟩
  | dct ks vs =>
    cases e
    obtain ⟨_, _, a, rfl, q, _⟩ := r.dct'
    exact ⟨.base (.dK q), by decide⟩
  | loc n =>
    obtain ⟨a, e2, rfl⟩ := r.loc'
    unfold tyOf at e
    cases k : h[n]? with
    | none => simp only [k] at e; cases e
    | some o =>
      cases o with
      | list l =>
        simp only [k] at e; cases e
        obtain ⟨xs, q, _⟩ := s.at k e2
        exact ⟨.base (.lst q), by decide⟩
      | dict _ _ => exact (s.obj n _ a k e2).elim
  | fn _ => cases e
  | ty _ => cases e
theorem sE_isi {t : String} {x : Str} (hX : Good c X) (hg : Gl X "isinstance") (hm : X.mg "isinstance" = none) (ht : Gl X x) (hmt : X.mg x = none) (hbt : bootBuiltins x = some (.type t)) (hn : x ≠ "__name__") (hd : (x == ("__debug__" : Str)) = false) (ha : PE X a (tE c W fa)) (hs : isStar a = false) :
    PE X (.Call (.Name "isinstance" p1) [a, .Name x p2] [] pos) (tE c W fun env => do let x ← fa env; let s ← liftH fun h => tyOf h x; let b ← lift (isiT s t); pure (.bl b)) := by
  have hb : PE X (.Name x p2) (tC (.ty t)) := pe_bltn ht hmt hbt rfl hn hd
  have hA : PA X [a, .Name x p2] (fun σ H Q => tE c W fa σ H fun x H1 => Q [x, .ty t] H1) := (pa_cons ha (pa_cons hb pa_nil rfl) (star_of _ _ _ hs)).imp fun _ _ _ q => q
  refine (pe_callB call_isi hg hm rfl hA (by decide) (by decide) (star_of _ _ _ hs) rfl).imp fun σ H Q q => ?_
  obtain ⟨env, h, ml, G, s, o⟩ := q
  refine tE.imp (tE.one (fa := fa) s o) fun x H1 ⟨v, h1, ml1, G1, s1, r1, o1⟩ => ?_
  obtain ⟨s2, e, o2⟩ := Ok.liftHB o1 s1
  obtain ⟨b, e2, o3⟩ := Ok.liftB o2 s1
  obtain ⟨k1, k2⟩ := ty_at hX s1 r1 e
  exact ⟨x, .ty t, .type s2, .type t, b, rfl, .ty t, k1, kit_of' k2 e2, o3.pure s1 _ .bl⟩
theorem sE_d0 : PE X (.Dict [] [] pos) (tE c W fun _ => pure (.dct [] [])) := pe_dnewK.imp fun σ H Q q => by
  obtain ⟨env, h, ml, G, s, o⟩ := q
  intro p hp
  have ng : ¬ G p := fun z => s.tr p z hp
  exact (o ml G _ (s.fresh (.dK []) hp) (s.laid _ hp)) _ (by unfold RV; exact ⟨rfl, rfl, p, rfl, upd_same, ng⟩)
end
end MPS

namespace MPS
open PySem PySem.Spec L2 MP

mutual
def tgs : Tg → List Nat
  | .n i => [i]
  | .t l => tgs l
  | .nil => []
  | .cons a r => tgs a ++ tgs r
end
theorem wipe_get (σ : L2.St) : ∀ (own : List Nat) (j : Nat), (L2.wipe σ own)[j]? = if j ∈ own ∧ j < σ.length then some none else σ[j]?
  | [], j => by simp [L2.wipe]
  | i :: own, j => by
    show ((L2.wipe σ own).set i none)[j]? = _
    rw [List.getElem?_set, wipe_get σ own j, L2.wipe_length]
    by_cases hij : i = j
    · subst hij
      by_cases hl : i < σ.length
      · simp [hl]
      · simp [hl]
    · have hji : ¬ j = i := fun e => hij e.symm
      simp [hij, hji]
theorem wipe_set {σ : L2.St} {own : List Nat} {i : Nat} {x : Option V} (h : i ∈ own) : L2.wipe (σ.set i x) own = L2.wipe σ own := by
  apply List.ext_getElem?
  intro j
  rw [wipe_get, wipe_get, List.length_set, List.getElem?_set]
  by_cases hij : i = j
  · subst hij
    by_cases hl : i < σ.length
    · simp [h, hl]
    · simp [hl]
  · simp [hij]
theorem mwipe_get (env : MEnv) : ∀ (own : List Nat) (j : Nat), (MP.wipe own env)[j]? = if j ∈ own ∧ j < env.length then some none else env[j]?
  | [], j => by simp [MP.wipe]
  | i :: own, j => by
    have e : MP.wipe (i :: own) env = (MP.wipe own env).set i none := rfl
    have el : ∀ own : List Nat, (MP.wipe own env).length = env.length := fun own => by
      induction own with
      | nil => rfl
      | cons i r ih =>
        show ((MP.wipe r env).set i none).length = _
        rw [List.length_set]; exact ih
    rw [e, List.getElem?_set, mwipe_get env own j, el]
    by_cases hij : i = j
    · subst hij
      by_cases hl : i < env.length
      · simp [hl]
      · simp [hl]
    · have hji : ¬ j = i := fun e => hij e.symm
      simp [hij, hji]
theorem mwipe_len (env : MEnv) : ∀ own : List Nat, (MP.wipe own env).length = env.length
  | [] => rfl
  | i :: r => by
    show ((MP.wipe r env).set i none).length = _
    rw [List.length_set]; exact mwipe_len env r

section
variable {c : C} {X : Cx} {env : MEnv} {h : MHeap} {ml : List Addr} {G : Addr → Prop} {σ : L2.St} {H : Hp}
theorem SR.slots {env' : MEnv} {σ' : L2.St} (s : SR c env h ml G σ H) (el : env'.length ≤ σ'.length) (ev : ∀ (i : Nat) (v : Val), env'[i]? = some (some v) → ∃ x, σ'[i]? = some (some x) ∧ RV c H ml G v x) : SR c env' h ml G σ' H :=
  ⟨s.len, s.nd, s.mg, s.tr, s.obj, ev, el⟩
theorem SR.put {i : Nat} {v : Val} {x : V} (s : SR c env h ml G σ H) (r : RV c H ml G v x) : SR c (env.set i (some v)) h ml G (σ.set i (some x)) H := by
  refine s.slots (by rw [List.length_set, List.length_set]; exact s.el) fun j w e => ?_
  rw [List.getElem?_set] at e ⊢
  by_cases hij : i = j
  · subst hij
    rw [if_pos rfl] at e ⊢
    by_cases hl : i < env.length
    · rw [if_pos hl] at e
      cases e
      rw [if_pos (Nat.lt_of_lt_of_le hl s.el)]
      exact ⟨x, rfl, r⟩
    · rw [if_neg hl] at e; cases e
  · rw [if_neg hij] at e ⊢
    exact s.ev j w e
theorem SR.wiped (own : List Nat) (s : SR c env h ml G σ H) : SR c (MP.wipe own env) h ml G (L2.wipe σ own) H := by
  refine s.slots (by rw [mwipe_len, L2.wipe_length]; exact s.el) fun j w e => ?_
  rw [mwipe_get] at e
  rw [wipe_get]
  by_cases hj : j ∈ own
  · by_cases hl : j < env.length
    · rw [if_pos ⟨hj, hl⟩] at e; cases e
    · rw [if_neg (fun z => hl z.2)] at e
      rw [List.getElem?_eq_none (Nat.le_of_not_lt hl)] at e; cases e
  · rw [if_neg (fun z => hj z.1)] at e ⊢
    exact s.ev j w e
/-- a target's reading -/
def tgR (c : C) (tg : Tg) : TG := fun x σ H Q => ∃ (env : MEnv) (h : MHeap) (ml : List Addr) (G : Addr → Prop) (v : Val) (env' : MEnv), SR c env h ml G σ H ∧ RV c H ml G v x ∧ bindT tg v env = some env' ∧
  ∀ σ', SR c env' h ml G σ' H → (∀ own : List Nat, (∀ i ∈ tgs tg, i ∈ own) → L2.wipe σ' own = L2.wipe σ own) → Q σ' H
def tgsR (c : C) (tg : Tg) : TGs := fun xs σ H Q => ∃ (env : MEnv) (h : MHeap) (ml : List Addr) (G : Addr → Prop) (vs : List Val) (env' : MEnv), SR c env h ml G σ H ∧ RVs c H ml G vs xs ∧ bindTs tg vs env = some env' ∧
  ∀ σ', SR c env' h ml G σ' H → (∀ own : List Nat, (∀ i ∈ tgs tg, i ∈ own) → L2.wipe σ' own = L2.wipe σ own) → Q σ' H
theorem _root_.L2.PG.imp {X : Cx} {e : Expr} {t t' : TG} (h : PG X e t) (k : ∀ v σ H Q, t' v σ H Q → t v σ H Q) : PG X e t' := ⟨fun pins s σ H v u Q I r q => h.run pins s σ H v u Q I r (k v σ H Q q)⟩
theorem _root_.L2.PGs.imp {X : Cx} {e : List Expr} {t t' : TGs} (h : PGs X e t) (k : ∀ v σ H Q, t' v σ H Q → t v σ H Q) : PGs X e t' := ⟨fun pins s σ H v u Q I r q => h.run pins s σ H v u Q I r (k v σ H Q q)⟩
theorem _root_.L2.PG.or {X : Cx} {e : Expr} {t t' : TG} (h : PG X e t) (h' : PG X e t') : PG X e (fun v σ H Q => t v σ H Q ∨ t' v σ H Q) :=
  ⟨fun pins s σ H v u Q I r q => q.elim (h.run pins s σ H v u Q I r) (h'.run pins s σ H v u Q I r)⟩
theorem sG_n {i : Nat} {x : Str} {pos : Pos} (hX : Good c X) (hi : X.N[i]? = some x) (hx : Loc X.env.scope x) (hf : X.fn x = true ∨ X.env.scope.names.lookup x = some .local) : PG X (.Name x pos) (tgR c (.n i)) := by
  refine (pg_name hX.nd hi hx hf).imp fun v σ H Q q => ?_
  obtain ⟨env, h, ml, G, d, env', s, r, e, q⟩ := q
  simp only [bindT, Option.some.injEq] at e
  subst e
  exact q _ (s.put r) fun own ho => wipe_set (ho i (by simp [tgs]))
theorem sGs_nil : PGs X [] (tgsR c .nil) := by
  refine pgs_nil.imp fun xs σ H Q q => ?_
  obtain ⟨env, h, ml, G, vs, env', s, r, e, q⟩ := q
  cases vs with
  | nil =>
    simp only [bindTs, Option.some.injEq] at e
    subst e
    exact ⟨r.inv0, q σ s fun _ _ => rfl⟩
  | cons _ _ => simp [bindTs] at e
theorem asgEach {e : Expr} {es : List Expr} {en : PySem.Env} (h : isStar e = false) : assignEach (e :: es) en = (false, assign e en) :: assignEach es en := by
  cases e with
  | Starred _ _ => simp [isStar] at h
  | _ => rfl
theorem sGs_cons {a r : Tg} {e : Expr} {es : List Expr} (ha : PG X e (tgR c a)) (hr : PGs X es (tgsR c r)) (hs : isStar e = false) : PGs X (e :: es) (tgsR c (.cons a r)) := by
  refine (pgs_cons ha hr (by rw [asgEach hs]; rfl)).imp fun xs σ H Q q => ?_
  obtain ⟨env, h, ml, G, vs, env', s, rv, e, q⟩ := q
  cases vs with
  | nil => simp [bindTs] at e
  | cons v vs =>
    simp only [bindTs] at e
    obtain ⟨env1, e1, e2⟩ := Option.bind_eq_some_iff.mp e
    obtain ⟨x, xr, rfl, r1, r2⟩ := rv.inv
    refine ⟨x, xr, rfl, env, h, ml, G, v, env1, s, r1, e1, fun σ1 s1 w1 => ?_⟩
    refine ⟨env1, h, ml, G, vs, env', s1, r2, e2, fun σ2 s2 w2 => ?_⟩
    refine q σ2 s2 fun own ho => ?_
    rw [w2 own fun i hi => ho i (by simp [tgs, hi]), w1 own fun i hi => ho i (by simp [tgs, hi])]
/-- how many targets -/
def tgN : Tg → Nat
  | .cons _ r => tgN r + 1
  | _ => 0
theorem bindTs_n : ∀ {l : Tg} {vs : List Val} {env env' : MEnv}, bindTs l vs env = some env' → vs.length = tgN l
  | .nil, [], _, _, _ => rfl
  | .nil, _ :: _, _, _, h => by simp [bindTs] at h
  | .cons a r, [], _, _, h => by simp [bindTs] at h
  | .cons a r, v :: vs, env, env', h => by
    simp only [bindTs] at h
    obtain ⟨env1, e1, e2⟩ := Option.bind_eq_some_iff.mp h
    rw [List.length_cons, bindTs_n e2, tgN]
  | .n _, vs, _, _, h => by cases vs <;> simp [bindTs] at h
  | .t _, vs, _, _, h => by cases vs <;> simp [bindTs] at h
theorem sG_t {l : Tg} {es : List Expr} {k : Nat} {pos : Pos} (hX : Good c X) (ha : PGs X es (tgsR c l)) (hn : es.length = tgN l) (hs : es.all (fun e => !isStar e) = true) : PG X (.Tuple es k pos) (tgR c (.t l)) := by
  have hl : ∀ es : List Expr, es.all (fun e => !isStar e) = true → (assignEach es X.env).length = es.length ∧ (assignEach es X.env).findIdx? (·.1) = none := by
    intro es
    induction es with
    | nil => intro _; exact ⟨rfl, rfl⟩
    | cons e es ih =>
      intro h
      simp only [List.all_cons, Bool.and_eq_true, Bool.not_eq_true'] at h
      obtain ⟨i1, i2⟩ := ih (by simpa using h.2)
      rw [asgEach h.1]
      refine ⟨by rw [List.length_cons, List.length_cons, i1], ?_⟩
      simp [List.findIdx?_cons, i2]
  obtain ⟨h1, h2⟩ := hl es hs
  refine ((pg_tup hX.calm ha (h1.trans hn) h2).or (pg_unl hX.calm ha (h1.trans hn) h2)).imp fun x σ H Q q => ?_
  obtain ⟨env, h, ml, G, v, env', s, rv, e, q⟩ := q
  cases v with
  | tup vs =>
    simp only [bindT] at e
    obtain ⟨a, xs, rfl, sq, rs⟩ := rv.tup'
    refine .inl ⟨a, xs, rfl, hX.K ▸ sq, by rw [rs.length, bindTs_n e], env, h, ml, G, vs, env', s, rs, e, q⟩
  | lst vs =>
    simp only [bindT] at e
    obtain ⟨a, xs, rfl, ⟨sq, _⟩, rs⟩ := rv.lst'
    refine .inr ⟨a, xs, rfl, .inl (.inl sq), by rw [rs.length, bindTs_n e], env, h, ml, G, vs, env', s, rs, e, q⟩
  | _ => simp [bindT] at e
end
end MPS

namespace MPS
open PySem PySem.Spec L2 MP

section
variable {X : Cx} {tg : Expr}
def iSeq (K : PySem.W.Frag) (tl : TE) : TI := fun σ H R => tl σ H fun x H1 => ∃ a, x = .ref a ∧ (((∃ xs, SqL K H1 a xs) ∧ R (Itl K a) H1) ∨ ((∃ xs, SqT K H1 a xs) ∧ R (Itt K a) H1))
theorem pi_seq {l : Expr} {tl : TE} (hl : PE X l tl) : PI X tg l (iSeq X.K tl) := by
  refine ⟨fun pins s σ H R I0 q0 => thn (hl.run pins s σ H _ I0 q0) fun v s1 z => ?_⟩
  obtain ⟨x, H1, I1, r1, a, rfl, z⟩ := z
  cases r1
  rcases z with ⟨⟨xs, hq⟩, q⟩ | ⟨⟨xs, hq⟩, q⟩
  · obtain ⟨its, _, pl, _⟩ := I1.list hq
    exact wpAny_pyIter_list pl.isList (pi_one (tk := s1.toks) I1 _ (turn_list a _) ⟨_, Heap.get?_push_size _ rfl, rfl, rfl⟩ q)
  · obtain ⟨its, _, pl, _⟩ := I1.tuple hq
    exact wpAny_pyIter_tuple (show s1.heap.IsTuple a its.toArray from pl) (pi_one (tk := s1.toks) I1 _ (turn_tuple a _) ⟨_, Heap.get?_push_size _ rfl, rfl, rfl⟩ q)
end

/-- the iterator J gives these items, as long as what is walked stays -/
def Sv (c : C) (J : It) (its : Items) (h : MHeap) (ml : List Addr) (G : Addr → Prop) (H : Hp) : Prop :=
  ∀ (i : Nat) (env : MEnv) (σ : L2.St) (h2 : MHeap) (ml2 : List Addr) (G2 : Addr → Prop) (H2 : Hp), Grow ml G H ml2 G2 H2 → SR c env h2 ml2 G2 σ H2 → stays its.lock h h2 = true →
    (its.l.length ≤ i → J.stop i H2) ∧ ∀ v, its.l[i]? = some v → J.go i H2 ∧ ∀ x H3, J.yld i H2 x H3 → Grow ml2 G2 H2 ml2 G2 H3 ∧ (∀ b ∈ ml2, H3 b = H2 b) ∧ (∀ b, G2 b → H3 b = H2 b) ∧ RV c H3 ml2 G2 v x
def tI (c : C) (W : WX) (f : MEnv → M Items) : TI := fun σ H R => ∃ env h ml G, SR c env h ml G σ H ∧ Ok c W env σ (f env h) ml G H fun its h' ml' G' H' => SR c env h' ml' G' σ H' → ∀ J, Sv c J its h' ml' G' H' → R J H'
section
variable {c : C} {W : WX} {X : Cx} {tg a b d : Expr} {fa fb fc : MEnv → M Val} {pos p1 : Pos}
theorem sv_rngC {lo k : Int} {n : Nat} {h : MHeap} {ml : List Addr} {G : Addr → Prop} {H : Hp} {env0 : MEnv} {σ0 : L2.St} (s0 : SR c env0 h ml G σ0 H) : Sv c (Itc lo k n) ⟨rngItems lo k n, []⟩ h ml G H := by
  intro i env σ h2 ml2 G2 H2 g s _
  refine ⟨fun hi => (show n ≤ i by simpa [rngItems] using hi), fun v e => ?_⟩
  have hi : i < n := by
    have := (List.getElem?_eq_some_iff.mp e).1
    simpa [rngItems] using this
  have ev : v = .int (lo + (i : Int) * k) := by
    simp [rngItems, List.getElem?_map, List.getElem?_range hi] at e
    exact e.symm
  refine ⟨hi, fun x H3 y => ?_⟩
  obtain ⟨rfl, rfl⟩ := y
  subst ev
  exact ⟨s.refl, fun _ _ => rfl, fun _ _ => rfl, .int⟩
theorem sv_rng1 {lo : Int} {n : Nat} {h : MHeap} {ml : List Addr} {G : Addr → Prop} {H : Hp} : Sv c (Itr lo n) ⟨rngItems lo 1 n, []⟩ h ml G H := by
  intro i env σ h2 ml2 G2 H2 g s _
  refine ⟨fun hi => (show n ≤ i by simpa [rngItems] using hi), fun v e => ?_⟩
  have hi : i < n := by
    have := (List.getElem?_eq_some_iff.mp e).1
    simpa [rngItems] using this
  have ev : v = .int (lo + (i : Int)) := by
    simp [rngItems, List.getElem?_map, List.getElem?_range hi] at e
    exact e.symm
  refine ⟨hi, fun x H3 y => ?_⟩
  obtain ⟨rfl, rfl⟩ := y
  subst ev
  exact ⟨s.refl, fun _ _ => rfl, fun _ _ => rfl, .int⟩
theorem stay_at {n : Nat} {ns : List Nat} {h h2 : MHeap} (e : stays ns h h2 = true) (m : n ∈ ns) : h2[n]? = h[n]? := by
  have := List.all_eq_true.mp e n m
  exact of_decide_eq_true this
theorem seq_stay {v : Val} {ns : List Nat} {h h2 : MHeap} (e : stays ns h h2 = true) (m : ∀ n ∈ locksOf v, n ∈ ns) : seqV h2 v = seqV h v := by
  cases v with
  | loc n =>
    have := stay_at e (m n (by simp [locksOf]))
    simp only [seqV, this]
  | _ => rfl
theorem scr_stay {v : Val} {ns : List Nat} {h h2 : MHeap} (e : stays ns h h2 = true) (m : ∀ n ∈ locksOf v, n ∈ ns) : scrV h2 v = scrV h v := by
  cases v with
  | loc n =>
    have := stay_at e (m n (by simp [locksOf]))
    simp only [scrV, lstV, this]
  | _ => rfl
theorem sI_rng1 (hg : Gl X "range") (hm : X.mg "range" = none) (ha : PE X a (tE c W fa)) (hs : isStar a = false) : PI X tg (.Call (.Name "range" p1) [a] [] pos) (tI c W fun env => do let x ← fa env; lift (rngI1 x)) := by
  refine (pi_range1 hg hm (sA_one ha hs) (star_of a [] X.env hs)).imp fun σ H R q => ?_
  obtain ⟨env, h, ml, G, s, o⟩ := q
  refine tE.imp (tE.one (fa := fa) s o) fun x H1 ⟨v, h1, ml1, G1, s1, r1, o1⟩ => ?_
  obtain ⟨its, e, q⟩ := o1.lift s1
  unfold rngI1 at e
  split at e
  · rename_i n
    split at e
    · rename_i hr
      cases e
      simp only [inR, Bool.and_eq_true, decide_eq_true_eq] at hr
      exact ⟨n, by rw [r1.int'], hr.1, hr.2, q s1 _ sv_rng1⟩
    · cases e
  · cases e
theorem sI_rng2 (hg : Gl X "range") (hm : X.mg "range" = none) (ha : PE X a (tE c W fa)) (hb : PE X b (tE c W fb)) (hs : isStar a = false) (hs2 : isStar b = false) :
    PI X tg (.Call (.Name "range" p1) [a, b] [] pos) (tI c W fun env => do let x ← fa env; let y ← fb env; lift (rngI2 x y)) := by
  refine (pi_range2 hg hm (sA_two ha hb hs hs2) (by rw [star_of a [b] X.env hs, star_of b [] X.env hs2]; rfl) (star_of b [] X.env hs2)).imp fun σ H R q => ?_
  obtain ⟨env, h, ml, G, s, o⟩ := q
  refine tE.imp (tE.two (fa := fa) (fb := fb) s o) fun x H1 q1 => tE.imp q1 fun y H2 ⟨v, w, h2, ml2, G2, s2, r1, r2, o2⟩ => ?_
  obtain ⟨its, e, q⟩ := o2.lift s2
  unfold rngI2 at e
  split at e
  · rename_i i j
    split at e
    · rename_i hr
      cases e
      simp only [inR, Bool.and_eq_true, decide_eq_true_eq] at hr
      exact ⟨i, j, by rw [r1.int', r2.int'], ⟨hr.1.1, hr.1.2, hr.2.1, hr.2.2⟩, q s2 _ sv_rng1⟩
    · cases e
  · cases e
theorem sA_three (ha : PE X a (tE c W fa)) (hb : PE X b (tE c W fb)) (hd : PE X d (tE c W fc)) (hs : isStar a = false) (hs2 : isStar b = false) (hs3 : isStar d = false) :
    PA X [a, b, d] (fun σ H Q => tE c W fa σ H fun x H1 => tE c W fb σ H1 fun y H2 => tE c W fc σ H2 fun z H3 => Q [x, y, z] H3) :=
  (pa_cons ha (pa_cons hb (pa_cons hd pa_nil (star_of _ _ _ hs3)) (star_of _ _ _ hs2)) (star_of _ _ _ hs)).imp fun _ _ _ q => q
theorem rgC_of {i j k : Int} (h1 : -(2 ^ 62) ≤ i) (h2 : i < 2 ^ 62) (h3 : -(2 ^ 62) ≤ j) (h4 : j < 2 ^ 62) (h5 : k < 1073741824) (h6 : 0 < k) : RgC i j k (rngN i j k) := by
  have e : Builtin.Range.rangeSize i j k = (rngN i j k : Int) := by
    unfold Builtin.Range.rangeSize rngN
    rw [if_pos h6]
    by_cases h : i < j
    · rw [if_pos h, if_pos h]
      have : 0 ≤ (j - i - 1) / k := Int.ediv_nonneg (by omega) (by omega)
      omega
    · rw [if_neg h, if_neg h]; rfl
  have e2 : Builtin.Range.rangeSize i j k ≤ 2 ^ 63 - 1 ∧ 0 ≤ Builtin.Range.rangeSize i j k := by
    rw [e]
    unfold rngN
    by_cases h : i < j
    · rw [if_pos h]
      have h0 : 0 ≤ (j - i - 1) / k := Int.ediv_nonneg (by omega) (by omega)
      have h1 : (j - i - 1) / k ≤ j - i - 1 := Int.ediv_le_self _ (by omega)
      omega
    · rw [if_neg h]; decide
  refine ⟨by omega, by omega, ?_, e⟩
  unfold Builtin.Range.small
  rw [if_pos h6]
  simp only [Builtin.Range.rangeFitsLong, Bool.and_eq_true, Bool.or_eq_true, decide_eq_true_eq, beq_iff_eq]
  omega
theorem sI_rng3 (hg : Gl X "range") (hm : X.mg "range" = none) (ha : PE X a (tE c W fa)) (hb : PE X b (tE c W fb)) (hd : PE X d (tE c W fc)) (hs : isStar a = false) (hs2 : isStar b = false) (hs3 : isStar d = false) :
    PI X tg (.Call (.Name "range" p1) [a, b, d] [] pos) (tI c W fun env => do let x ← fa env; let y ← fb env; let z ← fc env; lift (rngI3 x y z)) := by
  refine (pi_range3 hg hm (sA_three ha hb hd hs hs2 hs3) (star_of a [b, d] X.env hs) (by rw [star_of b [d] X.env hs2, star_of d [] X.env hs3]; rfl)).imp fun σ H R q => ?_
  obtain ⟨env, h, ml, G, s, o⟩ := q
  refine tE.imp (tE.three (fa := fa) (fb := fb) (fc := fc) s o) fun x H1 q1 => tE.imp q1 fun y H2 q2 => tE.imp q2 fun z H3 ⟨v, w, u, h3, ml3, G3, s3, r1, r2, r3, o3⟩ => ?_
  obtain ⟨its, e, q⟩ := o3.lift s3
  unfold rngI3 at e
  split at e
  · rename_i i j k
    split at e
    · rename_i hr
      cases e
      simp only [inR, Bool.and_eq_true, decide_eq_true_eq] at hr
      exact ⟨i, j, k, _, by rw [r1.int', r2.int', r3.int'], rgC_of hr.1.1.1.1 hr.1.1.1.2 hr.1.1.2.1 hr.1.1.2.2 hr.1.2 hr.2, q s3 _ (sv_rngC s3)⟩
    · cases e
  · cases e
theorem seq_two {h : MHeap} {v : Val} {l : List Val} (e : seqV h v = some l) : v = .tup l ∨ scrV h v = some l := by
  cases v with
  | tup m => exact .inl (congrArg Val.tup (Option.some.inj e))
  | lst m => exact .inr e
  | scr m => exact .inr e
  | loc n => exact .inr e
  | _ => cases e
theorem sv_scr (hX : Good c X) {v : Val} {p : Addr} {h : MHeap} {ml : List Addr} {G : Addr → Prop} {H : Hp} {l : List Val} {lock : List Nat} (r : RV c H ml G v (.ref p)) (e : scrV h v = some l) (hl : ∀ n ∈ locksOf v, n ∈ lock)
    {h2 : MHeap} {env2 : MEnv} {σ2 : L2.St} {ml2 : List Addr} {G2 : Addr → Prop} {H2 : Hp} (g : Grow ml G H ml2 G2 H2) (s2 : SR c env2 h2 ml2 G2 σ2 H2) (st : stays lock h h2 = true) : ∃ ys, SqL X.K H2 p ys ∧ RVs c H2 ml2 G2 l ys := by
  have e2 : scrV h2 v = some l := by rw [scr_stay st hl]; exact e
  obtain ⟨p2, ys, ep, sq2, rs2⟩ := scr_at s2 (r.mono g) e2
  cases ep
  rw [← hX.K] at sq2
  exact ⟨ys, sq2, rs2⟩
theorem sv_tup (hX : Good c X) {p : Addr} {ml : List Addr} {G : Addr → Prop} {H : Hp} {l : List Val} (r : RV c H ml G (.tup l) (.ref p))
    {ml2 : List Addr} {G2 : Addr → Prop} {H2 : Hp} (g : Grow ml G H ml2 G2 H2) : ∃ ys, SqT X.K H2 p ys ∧ RVs c H2 ml2 G2 l ys := by
  obtain ⟨p2, ys, ep, sq2, rs2⟩ := (r.mono g).tup'
  cases ep
  rw [← hX.K] at sq2
  exact ⟨ys, sq2, rs2⟩
theorem sI_seq (hX : Good c X) (ha : PE X a (tE c W fa)) : PI X tg a (tI c W fun env => do let x ← fa env; let l ← liftH fun h => seqV h x; pure ⟨l, locksOf x⟩) := by
  refine (pi_seq ha).imp fun σ H R q => ?_
  obtain ⟨env, h, ml, G, s, o⟩ := q
  refine tE.imp (tE.one (fa := fa) s o) fun x H1 ⟨v, h1, ml1, G1, s1, r1, o1⟩ => ?_
  obtain ⟨l, e, o2⟩ := Ok.liftHB o1 s1
  have q := o2.pure s1 s1
  rcases seq_two e with rfl | e
  · obtain ⟨p, xs, rfl, sq, rs⟩ := r1.tup'
    refine ⟨p, rfl, .inr ⟨⟨xs, hX.K ▸ sq⟩, q _ fun i env2 σ2 h2 ml2 G2 H2 g s2 st => ?_⟩⟩
    obtain ⟨ys, sq2, rs2⟩ := sv_tup hX r1 g
    refine ⟨fun hi => ⟨ys, sq2, by rw [rs2.length]; exact hi⟩, fun u eu => ?_⟩
    obtain ⟨y, ey, ry⟩ := rs2.get eu
    refine ⟨⟨ys, y, sq2, ey⟩, fun x H3 yl => ?_⟩
    obtain ⟨rfl, yl⟩ := yl
    have := yl ys sq2
    rw [ey] at this
    cases this
    exact ⟨s2.refl, fun _ _ => rfl, fun _ _ => rfl, ry⟩
  · obtain ⟨p, xs, rfl, sq, rs⟩ := scr_at s1 r1 e
    refine ⟨p, rfl, .inl ⟨⟨xs, hX.K ▸ sq⟩, q _ fun i env2 σ2 h2 ml2 G2 H2 g s2 st => ?_⟩⟩
    obtain ⟨ys, sq2, rs2⟩ := sv_scr hX r1 e (fun _ z => z) g s2 st
    refine ⟨fun hi => ⟨ys, sq2, by rw [rs2.length]; exact hi⟩, fun u eu => ?_⟩
    obtain ⟨y, ey, ry⟩ := rs2.get eu
    refine ⟨⟨ys, y, sq2, ey⟩, fun x H3 yl => ?_⟩
    obtain ⟨rfl, yl⟩ := yl
    have := yl ys sq2
    rw [ey] at this
    cases this
    exact ⟨s2.refl, fun _ _ => rfl, fun _ _ => rfl, ry⟩
/-- a pair just laid -/
theorem pair_laid {env : MEnv} {h : MHeap} {ml : List Addr} {G : Addr → Prop} {σ : L2.St} {H : Hp} {T : Addr} {v w : Val} {x y : V} (s : SR c env h ml G σ H) (hT : H T = none) (r1 : RV c H ml G v x) (r2 : RV c H ml G w y) :
    Grow ml G H ml G (upd H T (.tup [x, y])) ∧ (∀ b ∈ ml, upd H T (.tup [x, y]) b = H b) ∧ (∀ b, G b → upd H T (.tup [x, y]) b = H b) ∧ RV c (upd H T (.tup [x, y])) ml G (.tup [v, w]) (.ref T) := by
  have g := s.fresh (.tup [x, y]) hT
  have ne : ∀ b, G b → upd H T (.tup [x, y]) b = H b := fun b hb => upd_ne fun z => s.tr b hb (by rw [z]; exact hT)
  exact ⟨g, fun b hb => ne b (s.mg b hb), ne, .tup (SqT.of upd_same) (.cons (r1.mono g) (.cons (r2.mono g) .nil))⟩
theorem enumItems_get : ∀ (l : List Val) (n i : Nat), (enumItems n l)[i]? = (l[i]?).map fun v => Val.tup [.int ((n + i : Nat) : Int), v]
  | [], n, i => by simp [enumItems]
  | v :: l, n, 0 => by simp [enumItems]
  | v :: l, n, i + 1 => by
    simp only [enumItems, List.getElem?_cons_succ]
    rw [enumItems_get l (n + 1) i]
    have : n + 1 + i = n + (i + 1) := by omega
    rw [this]
theorem enumItems_len : ∀ (l : List Val) (n : Nat), (enumItems n l).length = l.length
  | [], n => rfl
  | v :: l, n => by simp [enumItems, enumItems_len l (n + 1)]
theorem zipItems_get : ∀ (l m : List Val) (i : Nat), (zipItems l m)[i]? = (l[i]?).bind fun v => (m[i]?).map fun w => Val.tup [v, w]
  | [], _, i => by simp [zipItems]
  | v :: l, [], i => by cases h : (v :: l)[i]? <;> simp [zipItems]
  | v :: l, w :: m, 0 => by simp [zipItems]
  | v :: l, w :: m, i + 1 => by
    simp only [zipItems, List.getElem?_cons_succ]
    exact zipItems_get l m i
theorem zipItems_len : ∀ (l m : List Val), (zipItems l m).length = min l.length m.length
  | [], _ => by simp [zipItems]
  | v :: l, [] => by simp [zipItems]
  | v :: l, w :: m => by simp [zipItems, zipItems_len l m]
theorem sI_enum {elts : List Expr} {kk : Nat} {tpos : Pos} (hX : Good c X) (hg : Gl X "enumerate") (hm : X.mg "enumerate" = none) (ha : PE X a (tE c W fa)) (hs : isStar a = false) :
    PI X (.Tuple elts kk tpos) (.Call (.Name "enumerate" p1) [a] [] pos) (tI c W fun env => do let x ← fa env; let l ← liftH fun h => scrV h x; pure ⟨enumItems 0 l, locksOf x⟩) := by
  refine (pi_enum hg hm (sA_one ha hs) (star_of a [] X.env hs)).imp fun σ H R q => ?_
  obtain ⟨env, h, ml, G, s, o⟩ := q
  refine tE.imp (tE.one (fa := fa) s o) fun x H1 ⟨v, h1, ml1, G1, s1, r1, o1⟩ => ?_
  obtain ⟨l, e, o2⟩ := Ok.liftHB o1 s1
  have q := o2.pure s1 s1
  obtain ⟨p, xs, rfl, sq, rs⟩ := scr_at s1 r1 e
  refine ⟨p, xs, rfl, hX.K ▸ sq, q _ fun i env2 σ2 h2 ml2 G2 H2 g s2 st => ?_⟩
  obtain ⟨ys, sq2, rs2⟩ := sv_scr hX r1 e (fun _ z => z) g s2 st
  refine ⟨fun hi => ⟨ys, sq2, by rw [rs2.length, ← enumItems_len l 0]; exact hi⟩, fun u eu => ?_⟩
  have eu : (enumItems 0 l)[i]? = some u := eu
  rw [enumItems_get] at eu
  obtain ⟨w, ew, rfl⟩ := Option.map_eq_some_iff.mp eu
  obtain ⟨y, ey, ry⟩ := rs2.get ew
  refine ⟨⟨ys, y, sq2, ey⟩, fun x H3 yl => ?_⟩
  obtain ⟨T, y', rfl, hT, rfl, yl⟩ := yl
  have := yl ys sq2
  rw [ey] at this
  cases this
  have z : ((0 + i : Nat) : Int) = (i : Int) := by omega
  rw [z]
  exact pair_laid s2 hT .int ry
theorem sI_zip {elts : List Expr} {kk : Nat} {tpos : Pos} (hX : Good c X) (hg : Gl X "zip") (hm : X.mg "zip" = none) (ha : PE X a (tE c W fa)) (hb : PE X b (tE c W fb)) (hs : isStar a = false) (hs2 : isStar b = false) :
    PI X (.Tuple elts kk tpos) (.Call (.Name "zip" p1) [a, b] [] pos) (tI c W fun env => do
      let x ← fa env
      let y ← fb env
      let p ← liftH fun h => pairL h x y
      pure ⟨zipItems p.1 p.2, locksOf x ++ locksOf y⟩) := by
  refine (RZ.pi_zipA hg hm (sA_two ha hb hs hs2) (star_of a [b] X.env hs) (by rw [star_of b [] X.env hs2]; rfl)).imp fun σ H R q => ?_
  obtain ⟨env, h, ml, G, s, o⟩ := q
  refine tE.imp (tE.two (fa := fa) (fb := fb) s o) fun x H1 q1 => tE.imp q1 fun y H2 ⟨v, w, h2, ml2, G2, s2, r1, r2, o2⟩ => ?_
  obtain ⟨l, e, o3⟩ := Ok.liftHB o2 s2
  have q := o3.pure s2 s2
  have fin : ∀ {i : Nat} {u : Val}, (zipItems l.1 l.2)[i]? = some u → ∃ v w, l.1[i]? = some v ∧ l.2[i]? = some w ∧ u = .tup [v, w] := fun {i u} eu => by
    rw [zipItems_get] at eu
    obtain ⟨v, ev, eu⟩ := Option.bind_eq_some_iff.mp eu
    obtain ⟨w, ew, rfl⟩ := Option.map_eq_some_iff.mp eu
    exact ⟨v, w, ev, ew, rfl⟩
  by_cases ht : ∃ l1 l2, v = .tup l1 ∧ w = .tup l2
  · obtain ⟨l1, l2, rfl, rfl⟩ := ht
    cases e
    obtain ⟨p, xs, rfl, sq, rs⟩ := r1.tup'
    obtain ⟨p', ys, rfl, sq', rs'⟩ := r2.tup'
    refine ⟨p, p', xs, ys, rfl, .inr ⟨hX.K ▸ sq, hX.K ▸ sq', q _ fun i env2 σ2 h3 ml3 G3 H3 g s3 st => ?_⟩⟩
    obtain ⟨xs2, sqa, rsa⟩ := sv_tup hX r1 g
    obtain ⟨ys2, sqb, rsb⟩ := sv_tup hX r2 g
    refine ⟨fun hi => ⟨xs2, ys2, sqa, sqb, ?_⟩, fun u eu => ?_⟩
    · have hi : (zipItems l1 l2).length ≤ i := hi
      rw [zipItems_len] at hi
      rw [rsa.length, rsb.length]; omega
    · obtain ⟨v, w, ev, ew, rfl⟩ := fin eu
      obtain ⟨x, ex, rx⟩ := rsa.get ev
      obtain ⟨y, ey, ry⟩ := rsb.get ew
      refine ⟨⟨xs2, ys2, x, y, sqa, sqb, ex, ey⟩, fun z H4 yl => ?_⟩
      obtain ⟨T, x', y', rfl, hT, rfl, yl, yl2⟩ := yl
      have := yl xs2 sqa
      rw [ex] at this
      cases this
      have := yl2 ys2 sqb
      rw [ey] at this
      cases this
      exact pair_laid s3 hT rx ry
  · have e' : ∃ l1 l2, scrV h2 v = some l1 ∧ scrV h2 w = some l2 ∧ l = (l1, l2) := by
      unfold pairL at e
      split at e
      · rename_i a b
        exact absurd ⟨a, b, rfl, rfl⟩ ht
      · split at e
        · rename_i k1 k2
          cases e
          exact ⟨_, _, k1, k2, rfl⟩
        · cases e
    obtain ⟨l1, l2, k1, k2, rfl⟩ := e'
    obtain ⟨p, xs, rfl, sq, rs⟩ := scr_at s2 r1 k1
    obtain ⟨p', ys, rfl, sq', rs'⟩ := scr_at s2 r2 k2
    refine ⟨p, p', xs, ys, rfl, .inl ⟨hX.K ▸ sq, hX.K ▸ sq', q _ fun i env2 σ2 h3 ml3 G3 H3 g s3 st => ?_⟩⟩
    obtain ⟨xs2, sqa, rsa⟩ := sv_scr hX r1 k1 (fun _ z => List.mem_append_left _ z) g s3 st
    obtain ⟨ys2, sqb, rsb⟩ := sv_scr hX r2 k2 (fun _ z => List.mem_append_right _ z) g s3 st
    refine ⟨fun hi => ⟨xs2, ys2, sqa, sqb, ?_⟩, fun u eu => ?_⟩
    · have hi : (zipItems l1 l2).length ≤ i := hi
      rw [zipItems_len] at hi
      rw [rsa.length, rsb.length]; omega
    · obtain ⟨v, w, ev, ew, rfl⟩ := fin eu
      obtain ⟨x, ex, rx⟩ := rsa.get ev
      obtain ⟨y, ey, ry⟩ := rsb.get ew
      refine ⟨⟨xs2, ys2, x, y, sqa, sqb, ex, ey⟩, fun z H4 yl => ?_⟩
      obtain ⟨T, x', y', rfl, hT, rfl, yl, yl2⟩ := yl
      have := yl xs2 sqa
      rw [ex] at this
      cases this
      have := yl2 ys2 sqb
      rw [ey] at this
      cases this
      exact pair_laid s3 hT rx ry
end
end MPS

namespace MPS
open PySem PySem.Spec L2 MP

/-- a statement's outcome as the layer's ends wish it -/
def FlK (c : C) (D : Ends) (h : MHeap) (ml : List Addr) (G : Addr → Prop) (σ : L2.St) (H : Hp) : Fl → Prop
  | .nx env => SR c env h ml G σ H → D.nx σ H
  | .rt v => SR c [] h ml G σ H → ∀ x, RV c H ml G v x → D.rt x H
  | .bk env => SR c env h ml G σ H → D.bk σ H
  | .ct env => SR c env h ml G σ H → D.ct σ H
def OkS (c : C) (W : WX) (r : SRes) (ml : List Addr) (G : Addr → Prop) (H : Hp) (D : Ends) : Prop := match r with
  | .bad => False
  | .ok f h' => ∀ ml' G' H' σ', Grow ml G H ml' G' H' → FlK c D h' ml' G' σ' H' f
  | .exc e env' h' => ∀ ml' G' H' σ' cls d, Grow ml G H ml' G' H' → SR c env' h' ml' G' σ' H' → ExR c H' ml' G' e cls d → W cls d σ' H'
def tS (c : C) (W : WX) (f : MEnv → S) : TS := fun D σ H => ∃ env h ml G, SR c env h ml G σ H ∧ OkS c W (f env h) ml G H D
section
variable {c : C} {W : WX} {X : Cx} {e a b : Expr} {fa fb : MEnv → M Val} {pos : Pos} {ml ml' : List Addr} {G G' : Addr → Prop} {H H' : Hp} {D : Ends} {env : MEnv} {h : MHeap} {σ : L2.St}
theorem OkS.grow {r : SRes} (o : OkS c W r ml G H D) (g : Grow ml G H ml' G' H') : OkS c W r ml' G' H' D := by
  cases r with
  | bad => exact o
  | ok f h' => exact fun ml2 G2 H2 σ' g2 => o ml2 G2 H2 σ' (g.trans g2)
  | exc e env' h' => exact fun ml2 G2 H2 σ' cls d g2 => o ml2 G2 H2 σ' cls d (g.trans g2)
theorem OkS.nx (o : OkS c W (goOn env h) ml G H D) (s : SR c env h ml G σ H) : D.nx σ H := o ml G H σ s.refl s
theorem OkS.after {α : Type} {m : M α} {k : α → S} (o : OkS c W (andThen env m k h) ml G H D) : Ok c W env σ (m h) ml G H fun a h1 ml1 G1 H1 => OkS c W (k a h1) ml1 G1 H1 D := by
  unfold andThen at o
  unfold Ok
  cases e : m h with
  | bad => rw [e] at o; exact o
  | exc x h1 =>
    rw [e] at o
    exact fun ml' G' H' cls d g s ex => o ml' G' H' σ cls d g s ex
  | ok a h1 =>
    rw [e] at o
    exact fun ml' G' H' g _ => OkS.grow o g
theorem SR.drop (s : SR c env h ml G σ H) : SR c [] h ml G σ H := s.slots (Nat.zero_le _) fun i v e => by simp at e

theorem sS_pass : PS X (.Pass pos) (tS c W fun env => goOn env) := ps_pass.imp fun D σ H q => by
  obtain ⟨env, h, ml, G, s, o⟩ := q
  exact o.nx s
theorem sS_doc {x : Str} {j : Nat} {p1 p2 : Pos} : PS X (.Expr (.Constant (.str x) j p1) p2) (tS c W fun env => goOn env) := ps_doc.imp fun D σ H q => by
  obtain ⟨env, h, ml, G, s, o⟩ := q
  exact o.nx s
theorem sS_brk : PS X (.Break pos) (tS c W fun env => endS (.bk env)) := ps_break.imp fun D σ H q => by
  obtain ⟨env, h, ml, G, s, o⟩ := q
  exact o ml G H σ s.refl s
theorem sS_cont : PS X (.Continue pos) (tS c W fun env => endS (.ct env)) := ps_continue.imp fun D σ H q => by
  obtain ⟨env, h, ml, G, s, o⟩ := q
  exact o ml G H σ s.refl s
theorem sS_retN : PS X (.Return none pos) (tS c W fun _ => endS (.rt .non)) := ps_retN.imp fun D σ H q => by
  obtain ⟨env, h, ml, G, s, o⟩ := q
  exact o ml G H σ s.refl s.drop _ .non
theorem sS_ret (he : PE X e (tE c W fa)) : PS X (.Return (some e) pos) (tS c W fun env => andThen env (fa env) fun v => endS (.rt v)) := (ps_ret he).imp fun D σ H q => by
  obtain ⟨env, h, ml, G, s, o⟩ := q
  exact ⟨env, h, ml, G, s, (OkS.after o).imp fun v h1 ml1 G1 H1 g1 s1 o1 x r => o1 ml1 G1 H1 σ s1.refl s1.drop x r⟩
theorem sS_expr (he : PE X e (tE c W fa)) (hs : swapsWith e none pos.line X.env = pure false) : PS X (.Expr e pos) (tS c W fun env => andThen env (fa env) fun _ => goOn env) := (ps_expr he hs).imp fun D σ H q => by
  obtain ⟨env, h, ml, G, s, o⟩ := q
  exact ⟨env, h, ml, G, s, (OkS.after o).imp fun v h1 ml1 G1 H1 g1 s1 o1 x r => o1.nx s1⟩
/-- name = value, from the reading of the layer's own statement -/
theorem sS_set {i : Nat} {st : Stmt} (h : PS X st (tAsg (tE c W fa) (gName i))) : PS X st (tS c W fun env => andThen env (fa env) fun v => goOn (env.set i (some v))) := h.imp fun D σ H q => by
  obtain ⟨env, h, ml, G, s, o⟩ := q
  exact ⟨env, h, ml, G, s, (OkS.after o).imp fun v h1 ml1 G1 H1 g1 s1 o1 x r => o1.nx (s1.put r)⟩
theorem tAsg_imp {te te' : TE} {g : TG} {st : Stmt} (h : PS X st (tAsg te g)) (k : ∀ σ H Q, te' σ H Q → te σ H Q) : PS X st (tAsg te' g) := h.imp fun D σ H q => k _ _ _ q
theorem sS_setT {tg : Tg} {t : Expr} (he : PE X e (tE c W fa)) (hg : PG X t (tgR c tg)) (hs : swapsWithSole [t] e pos.line X.env = pure false) (hw : swappedStores [t] e X.env = pure none) (hst : isStar t = false) :
    PS X (.Assign [t] e pos) (tS c W fun env => andThen env (do let v ← fa env; lift (bindT tg v env)) fun e1 => goOn e1) := by
  refine (ps_asg he hg hs hw (by rw [asgEach hst]; rfl)).imp fun D σ H q => ?_
  obtain ⟨env, h, ml, G, s, o⟩ := q
  have o := OkS.after (σ := σ) o
  refine ⟨env, h, ml, G, s, (Ok.bind o).imp fun v h1 ml1 G1 H1 g1 s1 o1 x r => ?_⟩
  obtain ⟨env', e, o2⟩ := o1.liftG
  exact ⟨env, h1, ml1, G1, v, env', s1, r, e, fun σ' s' _ => (o2 ml1 G1 H1 s1.refl s1).nx s'⟩
theorem sS_if {cd : Expr} {ss tt : List Stmt} {ft : MEnv → M Bool} {f1 f2 : MEnv → S} (hc : PT X cd (tT c W ft)) (h1 : PSs X ss (tS c W f1)) (h2 : PSs X tt (tS c W f2)) :
    PS X (.If cd ss tt pos) (tS c W fun env => andThen env (ft env) fun t => if t then f1 env else f2 env) := (ps_if hc h1 h2).imp fun D σ H q => by
  obtain ⟨env, h, ml, G, s, o⟩ := q
  refine ⟨env, h, ml, G, s, (OkS.after o).imp fun t h1 ml1 G1 H1 g1 s1 o1 => ?_⟩
  cases t with
  | true => rw [if_pos rfl] at o1 ⊢; exact ⟨env, h1, ml1, G1, s1, o1⟩
  | false => rw [if_neg Bool.false_ne_true] at o1 ⊢; exact ⟨env, h1, ml1, G1, s1, o1⟩
theorem sSs_nil : PSs X [] (tS c W fun env => goOn env) := ⟨fun pins s σ H D I q => pss_nil.run pins s σ H D I (by
  obtain ⟨env, h, ml, G, s, o⟩ := q
  exact o.nx s)⟩
theorem sSs_cons {st : Stmt} {r : List Stmt} {f1 f2 : MEnv → S} (h1 : PS X st (tS c W f1)) (h2 : PSs X r (tS c W f2)) : PSs X (st :: r) (tS c W fun env h => match f1 env h with
    | .ok (.nx e) h1 => f2 e h1
    | x => x) := (pss_cons h1 h2).imp fun D σ H q => by
  obtain ⟨env, h, ml, G, s, o⟩ := q
  refine ⟨env, h, ml, G, s, ?_⟩
  dsimp only at o
  cases k : f1 env h with
  | bad => rw [k] at o; exact o
  | exc e env' h' => rw [k] at o; exact o
  | ok f h' =>
    cases f with
    | nx env' =>
      rw [k] at o
      exact fun ml' G' H' σ' g s' => ⟨env', h', ml', G', s', OkS.grow o g⟩
    | rt v => rw [k] at o; exact o
    | bk v => rw [k] at o; exact o
    | ct v => rw [k] at o; exact o
/-- never reached -/
theorem sS_bad {st : Stmt} {f : MEnv → S} (hf : ∀ env h, f env h = .bad) : PS X st (tS c W f) := ps_never.imp fun D σ H q => by
  obtain ⟨env, h, ml, G, s, o⟩ := q
  rw [hf] at o
  exact o

theorem sS_aug {i : Nat} {x : Str} {k : BK} {p : Pos} (hX : Good c X) (hi : X.N[i]? = some x) (hx : Loc X.env.scope x) (hf : X.fn x = true ∨ X.env.scope.names.lookup x = some .local) (he : PE X e (tE c W fa))
    (hp : PIp X (opB k) (fun x y H Q => ∃ i j z, x = .int i ∧ y = .int j ∧ binI k i j = some z ∧ Q (.int z) H)) :
    PS X (.AugAssign (.Name x p) (opB k) e pos) (tS c W fun env => andThen env (do let x ← lift (env[i]?.bind id); let y ← fa env; lift (augV k x y)) fun v => goOn (env.set i (some v))) := by
  refine (ps_aug hX.nd hi hx he hp hf).imp fun D σ H q => ?_
  obtain ⟨env, h, ml, G, s, o⟩ := q
  have o := OkS.after (σ := σ) o
  obtain ⟨v, e, o⟩ := Ok.liftB o s
  have e2 : env[i]? = some (some v) := by
    cases k : env[i]? with
    | none => rw [k] at e; cases e
    | some z => rw [k] at e; exact congrArg some e
  obtain ⟨y, ey, ry⟩ := s.ev i v e2
  refine ⟨y, ey, env, h, ml, G, s, (Ok.bind o).imp fun w h1 ml1 G1 H1 g1 s1 o1 z rz => ?_⟩
  obtain ⟨u, eu, o2⟩ := o1.lift s1
  have ry1 := ry.mono g1
  unfold augV at eu
  split at eu
  · rename_i a b
    cases hb : binI k a b with
    | none => rw [hb] at eu; cases eu
    | some m =>
      rw [hb] at eu
      cases eu
      exact ⟨a, b, m, ry1.int', rz.int', hb, o2.nx (s1.put .int)⟩
  · cases eu

theorem sS_for {tg : Tg} {t it : Expr} {body : List Stmt} {fi : MEnv → M Items} {bd : MEnv → S} (hX : Good c X) (hp : PassesOwn (model X.prog X.w) X.A X.env X.xe) (hi : PI X t it (tI c W fi)) (hg : PG X t (tgR c tg)) (hb : PSs X body (tS c W bd))
    (hs : ∀ x, foldedSetIterable it X.env x = pure x) : PS X (.For t it body [] pos) (tS c W fun env => andThen env (fi env) fun its h => forL bd tg its.lock h its.l env h) := by
  refine (ps_for hp hX.calm hi hg hb hs).imp fun D σ H q => ?_
  obtain ⟨env, h, ml, G, s, o⟩ := q
  refine ⟨env, h, ml, G, s, (OkS.after o).imp fun its h1 ml1 G1 H1 g1 s1 o1 s1' J sv => ?_⟩
  refine ⟨fun i m σ H => m = its.l.length - i ∧ i ≤ its.l.length ∧ ∃ env h ml G, Grow ml1 G1 H1 ml G H ∧ SR c env h ml G σ H ∧ stays its.lock h1 h = true ∧ OkS c W (forL bd tg its.lock h1 (its.l.drop i) env h) ml G H D,
    ⟨its.l.length, by simp, Nat.zero_le _, env, h1, ml1, G1, s1.refl, s1, by simp [stays], by simpa using o1⟩, ?_⟩
  rintro i m σ2 H2 ⟨rfl, hi, env2, h2, ml2, G2, g2, s2, st, o2⟩
  obtain ⟨k1, k2⟩ := sv i env2 σ2 h2 ml2 G2 H2 g2 s2 st
  by_cases hlt : i < its.l.length
  · have ed : its.l.drop i = its.l[i] :: its.l.drop (i + 1) := List.drop_eq_getElem_cons hlt
    rw [ed] at o2
    obtain ⟨go, yl⟩ := k2 its.l[i] (List.getElem?_eq_getElem hlt)
    refine .inr ⟨go, fun σ H => ∃ env h ml G, Grow ml1 G1 H1 ml G H ∧ SR c env h ml G σ H ∧ stays its.lock h1 h = true ∧ OkS c W (forL bd tg its.lock h1 (its.l.drop (i + 1)) env h) ml G H D,
      fun σ' H' n => ⟨its.l.length - (i + 1), by omega, rfl, hlt, n⟩, fun x H3 y => ?_⟩
    obtain ⟨g3, sm, smG, rx⟩ := yl x H3 y
    have s3 : SR c env2 h2 ml2 G2 σ2 H3 := s2.over g3 sm fun b hb => by rw [smG b hb]; exact s2.tr b hb
    unfold forL at o2
    cases eb : bindT tg its.l[i] env2 with
    | none => rw [eb] at o2; exact o2.elim
    | some env3 =>
      rw [eb] at o2
      refine ⟨env2, h2, ml2, G2, _, env3, s3, rx, eb, fun σ4 s4 _ => ⟨env3, h2, ml2, G2, s4, ?_⟩⟩
      simp only at o2
      cases ebd : bd env3 h2 with
      | bad => rw [ebd] at o2; exact o2
      | exc e env' h' => rw [ebd] at o2; exact OkS.grow (D := D) o2 g3
      | ok f h' =>
        rw [ebd] at o2
        cases f with
        | nx e =>
          simp only at o2
          intro ml5 G5 H5 σ5 g5 s5
          split at o2
          · rename_i hst
            exact ⟨e, h', ml5, G5, (g2.trans g3).trans g5, s5, hst, (OkS.grow o2 g3).grow g5⟩
          · exact o2.elim
        | ct e =>
          simp only at o2
          intro ml5 G5 H5 σ5 g5 s5
          split at o2
          · rename_i hst
            exact ⟨e, h', ml5, G5, (g2.trans g3).trans g5, s5, hst, (OkS.grow o2 g3).grow g5⟩
          · exact o2.elim
        | bk e =>
          intro ml5 G5 H5 σ5 g5 s5
          exact o2 ml5 G5 H5 σ5 (g3.trans g5) s5
        | rt v =>
          intro ml5 G5 H5 σ5 g5 s5
          exact o2 ml5 G5 H5 σ5 (g3.trans g5) s5
  · have ed : its.l.drop i = [] := List.drop_eq_nil_of_le (Nat.le_of_not_lt hlt)
    rw [ed] at o2
    exact .inl ⟨k1 (Nat.le_of_not_lt hlt), o2 ml2 G2 H2 σ2 s2.refl s2⟩
theorem sS_while {n : Nat} {cd : Expr} {body : List Stmt} {fc : MEnv → M Bool} {bd : MEnv → S} (hp : PassesOwn (model X.prog X.w) X.A X.env X.xe) (hc : PT X cd (tT c W fc)) (hb : PSs X body (tS c W bd)) :
    PS X (.While cd body [] pos) (tS c W fun env => whileL fc bd n env) := by
  refine (ps_while hp hc hb).imp fun D σ H q => ?_
  obtain ⟨env, h, ml, G, s, o⟩ := q
  refine ⟨fun m σ H => ∃ env h ml G, SR c env h ml G σ H ∧ OkS c W (whileL fc bd m env h) ml G H D, ⟨n, env, h, ml, G, s, o⟩, ?_⟩
  rintro m σ2 H2 ⟨env2, h2, ml2, G2, s2, o2⟩
  cases m with
  | zero => exact o2.elim
  | succ m =>
    refine ⟨env2, h2, ml2, G2, s2, ?_⟩
    unfold whileL at o2
    unfold Ok
    cases ec : fc env2 h2 with
    | bad => rw [ec] at o2; exact o2
    | exc e h' =>
      rw [ec] at o2
      exact fun ml' G' H' cls d g s ex => o2 ml' G' H' σ2 cls d g s ex
    | ok t h3 =>
      rw [ec] at o2
      intro ml3 G3 H3 g3 s3
      cases t with
      | false =>
        rw [if_neg Bool.false_ne_true]
        exact o2 ml3 G3 H3 σ2 g3 s3
      | true =>
        rw [if_pos rfl]
        refine ⟨fun σ H => ∃ env h ml G, SR c env h ml G σ H ∧ OkS c W (whileL fc bd m env h) ml G H D, fun σ' H' q => ⟨m, Nat.lt_succ_self m, q⟩, env2, h3, ml3, G3, s3, ?_⟩
        simp only at o2
        cases ebd : bd env2 h3 with
        | bad => rw [ebd] at o2; exact o2
        | exc e env' h' => rw [ebd] at o2; exact OkS.grow (D := D) o2 g3
        | ok f h' =>
          rw [ebd] at o2
          cases f with
          | nx e =>
            intro ml5 G5 H5 σ5 g5 s5
            exact ⟨e, h', ml5, G5, s5, (OkS.grow o2 g3).grow g5⟩
          | ct e =>
            intro ml5 G5 H5 σ5 g5 s5
            exact ⟨e, h', ml5, G5, s5, (OkS.grow o2 g3).grow g5⟩
          | bk e =>
            intro ml5 G5 H5 σ5 g5 s5
            exact o2 ml5 G5 H5 σ5 (g3.trans g5) s5
          | rt v =>
            intro ml5 G5 H5 σ5 g5 s5
            exact o2 ml5 G5 H5 σ5 (g3.trans g5) s5
end
end MPS

namespace MPS
open PySem PySem.Spec L2 MP
section
variable {c : C} {W : WX} {X : Cx} {e a b d o : Expr} {fa fb fc : MEnv → M Val} {pos p1 p2 : Pos}
/-- which op= are served -/
def augOk : BK → Bool
  | .pow => false
  | _ => true
theorem iop_bI {k : BK} (hk : augOk k = true) : PIp X (opB k) (rBI k) := by
  intro pins s σ H x y v u Q I rx ry h
  obtain ⟨i, j, z, rfl, rfl, e, q⟩ := h
  cases k with
  | pow => cases hk
  | add => cases e; exact iop_add pins s σ H _ _ v u Q I rx ry ⟨i, j, rfl, rfl, q⟩
  | sub => cases e; exact iop_sub pins s σ H _ _ v u Q I rx ry ⟨i, j, rfl, rfl, q⟩
  | mul =>
    simp only [binI] at e
    split at e
    · rename_i hs
      cases e
      refine iop_mul pins s σ H _ _ v u Q I rx ry ⟨i, j, rfl, rfl, ?_, q⟩
      rcases Bool.or_eq_true_iff.mp hs with hs | hs
      · exact .inl (small_iff hs)
      · exact .inr (small_iff hs)
    · cases e
  | fdiv =>
    simp only [binI, Bool.and_eq_true, decide_eq_true_eq] at e
    split at e
    · rename_i hs; cases e
      exact iop_fdiv pins s σ H _ _ v u Q I rx ry ⟨i, j, rfl, rfl, hs, q⟩
    · cases e
  | mod =>
    simp only [binI] at e
    split at e
    · rename_i hs; cases e
      exact iop_mod pins s σ H _ _ v u Q I rx ry ⟨i, j, rfl, rfl, hs, q⟩
    · cases e
  | shl =>
    simp only [binI, Bool.and_eq_true, decide_eq_true_eq] at e
    split at e
    · rename_i hs; cases e
      exact iop_shl pins s σ H _ _ v u Q I rx ry ⟨i, j, rfl, rfl, ⟨hs.1.1, hs.1.2, hs.2⟩, q⟩
    · cases e
  | shr =>
    simp only [binI] at e
    split at e
    · rename_i hs; cases e
      exact iop_shr pins s σ H _ _ v u Q I rx ry ⟨i, j, rfl, rfl, hs, q⟩
    · cases e
  | band =>
    simp only [binI, Bool.and_eq_true, decide_eq_true_eq] at e
    split at e
    · rename_i hs; cases e
      exact iop_and pins s σ H _ _ v u Q I rx ry ⟨i, j, rfl, rfl, by show Q (.int (Builtin.bitAnd i j)) H; rw [bitAnd_nat i j hs.1 hs.2]; exact q⟩
    · cases e
  | bor =>
    simp only [binI, Bool.and_eq_true, decide_eq_true_eq] at e
    split at e
    · rename_i hs; cases e
      exact iop_or pins s σ H _ _ v u Q I rx ry ⟨i, j, rfl, rfl, by show Q (.int (Builtin.bitOr i j)) H; rw [bitOr_nat i j hs.1 hs.2]; exact q⟩
    · cases e
  | bxor =>
    simp only [binI, Bool.and_eq_true, decide_eq_true_eq] at e
    split at e
    · rename_i hs; cases e
      exact iop_xor pins s σ H _ _ v u Q I rx ry ⟨i, j, rfl, rfl, by show Q (.int (Builtin.bitXor i j)) H; rw [bitXor_nat i j hs.1 hs.2]; exact q⟩
    · cases e

theorem sS_par2 {i j : Nat} {x y : Str} {px py pt pt2 : Pos} {kt k2 : Nat} {ga : MEnv → M (List Val)} (hX : Good c X) (hi : X.N[i]? = some x) (hj : X.N[j]? = some y) (hij : i ≠ j) (hx : X.env.scope.names.lookup x = some .local) (hy : X.env.scope.names.lookup y = some .local)
    (ha : PA X [a, b] (tA c W ga)) (hw : swappedStores [.Tuple [.Name x px, .Name y py] kt pt] (.Tuple [a, b] k2 pt2) X.env = pure (some [x, y])) :
    PS X (.Assign [.Tuple [.Name x px, .Name y py] kt pt] (.Tuple [a, b] k2 pt2) pos) (tS c W fun env => andThen env (do let vs ← ga env; lift (setAll [i, j] vs env)) fun e1 => goOn e1) := by
  refine (ps_par hX.calm hX.nd hi hj hij hx hy ha hw rfl).imp fun D σ H q => ?_
  obtain ⟨env, h, ml, G, s, o⟩ := q
  have o := OkS.after (σ := σ) o
  refine ⟨env, h, ml, G, s, (Ok.bind o).imp fun vs h1 ml1 G1 H1 g1 s1 o1 xs rs => ?_⟩
  obtain ⟨env', e, o2⟩ := o1.lift s1
  match vs, e, rs with
  | [v, w], e, rs =>
    cases e
    obtain ⟨x1, r, rfl, r1, rs⟩ := rs.inv
    obtain ⟨x2, r, rfl, r2, rs⟩ := rs.inv
    have := rs.inv0
    subst this
    exact ⟨x1, x2, rfl, o2.nx ((s1.put r1).put r2)⟩
  | [], e, _ => cases e
  | [_], e, _ => cases e
  | _ :: _ :: _ :: _, e, _ => cases e
theorem sS_par3 {i j l : Nat} {x y z : Str} {px py pz pt pt2 : Pos} {kt k2 : Nat} {ga : MEnv → M (List Val)} (hX : Good c X) (hi : X.N[i]? = some x) (hj : X.N[j]? = some y) (hl : X.N[l]? = some z) (hij : i ≠ j) (hil : i ≠ l) (hjl : j ≠ l)
    (hx : X.env.scope.names.lookup x = some .local) (hy : X.env.scope.names.lookup y = some .local) (hz : X.env.scope.names.lookup z = some .local)
    (ha : PA X [a, b, d] (tA c W ga)) (hw : swappedStores [.Tuple [.Name x px, .Name y py, .Name z pz] kt pt] (.Tuple [a, b, d] k2 pt2) X.env = pure (some [x, y, z])) :
    PS X (.Assign [.Tuple [.Name x px, .Name y py, .Name z pz] kt pt] (.Tuple [a, b, d] k2 pt2) pos) (tS c W fun env => andThen env (do let vs ← ga env; lift (setAll [i, j, l] vs env)) fun e1 => goOn e1) := by
  refine (ps_par3 hX.calm hX.nd hi hj hl hij hil hjl hx hy hz ha hw rfl).imp fun D σ H q => ?_
  obtain ⟨env, h, ml, G, s, o⟩ := q
  have o := OkS.after (σ := σ) o
  refine ⟨env, h, ml, G, s, (Ok.bind o).imp fun vs h1 ml1 G1 H1 g1 s1 o1 xs rs => ?_⟩
  obtain ⟨env', e, o2⟩ := o1.lift s1
  match vs, e, rs with
  | [v, w, u], e, rs =>
    cases e
    obtain ⟨x1, r, rfl, r1, rs⟩ := rs.inv
    obtain ⟨x2, r, rfl, r2, rs⟩ := rs.inv
    obtain ⟨x3, r, rfl, r3, rs⟩ := rs.inv
    have := rs.inv0
    subst this
    exact ⟨x1, x2, x3, rfl, o2.nx (((s1.put r1).put r2).put r3)⟩
  | [], e, _ => cases e
  | [_], e, _ => cases e
  | [_, _], e, _ => cases e
  | _ :: _ :: _ :: _ :: _, e, _ => cases e

def isNm : Expr → Bool
  | .Name _ _ => true
  | _ => false
theorem base_of {o : Expr} {name : Str} {en : PySem.Env} (h : isNm o = true) : attributeBase o name en (eval o en) = eval o en := by
  cases o with
  | Name _ _ => rfl
  | _ => cases h
theorem loc_ty (hX : Good c X) {n : Nat} {l : List Val} {x : V} {env : MEnv} {h : MHeap} {ml : List Addr} {G : Addr → Prop} {σ : L2.St} {H : Hp} (s : SR c env h ml G σ H) (r : RV c H ml G (.loc n) x) (e : h[n]? = some (.list l)) :
    ∃ p xs, ml[n]? = some p ∧ x = .ref p ∧ H p = some (.lst xs) ∧ RVs c H ml G l xs := by
  obtain ⟨p, em, rfl⟩ := r.loc'
  obtain ⟨xs, eH, rs⟩ := s.at e em
  exact ⟨p, xs, em, rfl, eH, rs⟩
theorem tyV_lst {K : PySem.W.Frag} {H : Hp} {p : Addr} {xs : List V} (h : H p = some (.lst xs)) : tyV K "list" (.ref p) H := .inl ⟨rfl, xs, .inl (.inl h)⟩
theorem sE_pop {apos : Pos} (hX : Good c X) (ho : PE X o (tE c W fa)) (hn : isNm o = true) (hl : (apos.endLine == pos.line) = true) : PE X (.Call (.Attribute o "pop" apos) [] [] pos) (tE c W fun env => do let x ← fa env; popL x) := by
  refine (pe_bm0 PySem.F.plainAttrs_list PySem.F.slot_list_pop PySem.F.type_list_pop mt_pop ho (base_of hn) hl).imp fun σ H Q q => ?_
  obtain ⟨env, h, ml, G, s, o⟩ := q
  refine tE.imp (tE.one (fa := fa) s o) fun x H1 ⟨v, h1, ml1, G1, s1, r1, o1⟩ => ?_
  unfold popL at o1
  unfold Ok at o1
  cases v with
  | loc n =>
    simp only at o1
    cases e : h1[n]? with
    | none => rw [e] at o1; exact o1.elim
    | some ob =>
      cases ob with
      | dict _ _ => rw [e] at o1; exact o1.elim
      | list l =>
        rw [e] at o1
        simp only at o1
        cases el : l.getLast? with
        | none => rw [el] at o1; exact o1.elim
        | some v =>
          rw [el] at o1
          simp only at o1
          obtain ⟨p, xs, em, rfl, eH, rs⟩ := loc_ty hX s1 r1 e
          have ei : l[l.length - 1]? = some v := by rw [← List.getLast?_eq_getElem?]; exact el
          obtain ⟨y, ey, ry⟩ := rs.get ei
          have rd : RVs c H1 ml1 G1 l.dropLast xs.dropLast := by
            rw [List.dropLast_eq_take, List.dropLast_eq_take, rs.length]
            exact rs.take _
          obtain ⟨g, s2⟩ := s1.chg e em rd
          exact ⟨tyV_lst eH, p, xs, y, rfl, rfl, eH, by rw [rs.length]; exact ey, o1 ml1 G1 _ g s2 y (ry.mono g)⟩
  | _ => exact o1.elim
theorem few_args {a : Expr} {en : PySem.Env} {cpos : Pos} (hs : isStar a = false) : ((backTo cpos (starEach [a] en)).all (fun x => !x.1) && (backToKw cpos (keywordEach [] en)).all (fun x => x.1.isSome)
      && decide ([a].length + ([] : List Keyword).length + (if ([] : List Keyword).isEmpty then 0 else 1) < 30)) = true := by
  rw [star_of a [] en hs]
  rfl
theorem back_nil {cpos : Pos} {en : PySem.Env} : (backTo cpos (starEach [] en)).any (·.1) = false := rfl
/-- the object's place is known, the argument is made, the list is as it stands then -/
theorem meth_one {k : Nat → Val → MHeap → Option MHeap} {r : V → List V → Hp → VK → Prop} {env : MEnv} {h : MHeap} {ml : List Addr} {G : Addr → Prop} {σ : L2.St} {H : Hp} {D : Ends} (hX : Good c X) (s : SR c env h ml G σ H)
    (o : OkS c W (andThen env (do let x ← fa env; let n ← lift (locV x); let v ← fb env; pure (n, v)) (fun p h => change env (k p.1 p.2 h)) h) ml G H D)
    (fin : ∀ (n : Nat) (p : Addr) (v : Val) (y : V) (h : MHeap) (ml : List Addr) (G : Addr → Prop) (H : Hp), SR c env h ml G σ H → ml[n]? = some p → RV c H ml G v y → OkS c W (change env (k n v h)) ml G H D → r (.ref p) [y] H fun _ H1 => D.nx σ H1) :
    tBM X.K "list" r (tE c W fa) (fun σ H Q => tE c W fb σ H fun x H1 => Q [x] H1) σ H fun _ H1 => D.nx σ H1 := by
  have o := OkS.after (σ := σ) o
  refine tE.imp (tE.one (fa := fa) s o) fun x H1 ⟨v, h1, ml1, G1, s1, r1, o1⟩ => ?_
  obtain ⟨n, e, o2⟩ := Ok.liftB o1 s1
  cases v with
  | loc m =>
    cases e
    obtain ⟨p, em, rfl⟩ := r1.loc'
    have hl : n < h1.length := by rw [← s1.len]; exact (List.getElem?_eq_some_iff.mp em).1
    have ho := List.getElem?_eq_getElem hl
    have q := s1.obj n _ p ho em
    refine ⟨?_, env, h1, ml1, G1, s1, (Ok.bind o2).imp fun w h2 ml2 G2 H2 g2 s2 o3 y r2 => ?_⟩
    · cases k : h1[n] with
      | list l => rw [k] at q; obtain ⟨xs, eH, _⟩ := q; exact tyV_lst eH
      | dict _ _ => rw [k] at q; exact q.elim
    · obtain ⟨new, e2, _⟩ := g2.pre
      have em2 : ml2[n]? = some p := by rw [e2, List.getElem?_append_left (List.getElem?_eq_some_iff.mp em).1]; exact em
      exact fin n p w y h2 ml2 G2 H2 s2 em2 r2 (o3.pure s2)
  | _ => cases e
theorem sS_app {apos epos : Pos} (hX : Good c X) (ho : PE X o (tE c W fa)) (he : PE X e (tE c W fb)) (hn : isNm o = true) (hs : isStar e = false) (hl : (apos.endLine == pos.line) = true) :
    PS X (.Expr (.Call (.Attribute o "append" apos) [e] [] pos) epos) (tS c W fun env => andThen env (do let x ← fa env; let n ← lift (locV x); let v ← fb env; pure (n, v)) fun p h => change env (appL p.1 p.2 h)) := by
  refine (ps_expr (pe_bm PySem.F.plainAttrs_list PySem.F.slot_list_append PySem.F.type_list_append mt_append ho (sA_one he hs) (base_of hn) (few_args hs) hl (star_of _ _ _ hs) back_nil) rfl).imp fun D σ H q => ?_
  obtain ⟨env, h, ml, G, s, o⟩ := q
  refine meth_one (k := appL) (r := rAppend) hX s o fun n p v y h ml G H s em r o => ?_
  unfold appL at o
  split at o
  · rename_i l e
    split at o
    · rename_i hz
      obtain ⟨xs, eH, rs⟩ := s.at e em
      obtain ⟨g, s2⟩ := s.chg e em (rs.append (.cons r .nil))
      exact ⟨p, xs, y, rfl, rfl, eH, by rw [rs.length, sizeSZ]; exact hz, o ml G _ σ g s2⟩
    · exact o.elim
  · exact o.elim
theorem sS_ext {apos epos : Pos} (hX : Good c X) (ho : PE X o (tE c W fa)) (he : PE X e (tE c W fb)) (hn : isNm o = true) (hs : isStar e = false) (hl : (apos.endLine == pos.line) = true) :
    PS X (.Expr (.Call (.Attribute o "extend" apos) [e] [] pos) epos) (tS c W fun env => andThen env (do let x ← fa env; let n ← lift (locV x); let v ← fb env; pure (n, v)) fun p h => change env (extL p.1 p.2 h)) := by
  refine (ps_expr (pe_bm PySem.F.plainAttrs_list PySem.F.slot_list_extend PySem.F.type_list_extend mt_extend ho (sA_one he hs) (base_of hn) (few_args hs) hl (star_of _ _ _ hs) back_nil) rfl).imp fun D σ H q => ?_
  obtain ⟨env, h, ml, G, s, o⟩ := q
  refine meth_one (k := extL) (r := rExtend) hX s o fun n p v y h ml G H s em r o => ?_
  unfold extL at o
  split at o
  · rename_i l m e e2
    split at o
    · rename_i hz
      obtain ⟨xs, eH, rs⟩ := s.at e em
      obtain ⟨p2, ys, rfl, q2, rs2⟩ := lst_at s r e2
      obtain ⟨g, s2⟩ := s.chg e em (rs.append rs2)
      exact ⟨p, p2, xs, ys, rfl, rfl, eH, q2, by rw [rs.length, rs2.length, sizeSZ]; exact hz, o ml G _ σ g s2⟩
    · exact o.elim
  · exact o.elim

theorem setI_ix (n : Nat) (i : Int) : L2.ixN n i = MP.ixN n i := rfl
theorem pg_item {i : Expr} {to ti : TE} (ho : PE X o to) (hi : PE X i ti) (hs : isSlice i = false) : PG X (.Subscript o i pos) (gSub to ti rSetL) := by
  refine pg_sub ho hi set_list fun v => ?_
  cases i with
  | Slice _ _ _ _ => simp [isSlice] at hs
  | _ => rfl
theorem sole_false {t e : Expr} {l : Nat} {en : PySem.Env} (h : isNm t = false) : swapsWithSole [t] e l en = pure false := by
  show swapsWith e (some t) l en = pure false
  unfold swapsWith
  cases e <;> first | rfl | (cases t <;> first | rfl | (simp [isNm] at h))
theorem sS_setI {i : Expr} {p3 : Pos} (hX : Good c X) (he : PE X e (tE c W fc)) (ho : PE X o (tE c W fa)) (hi : PE X i (tE c W fb)) (hs : isSlice i = false) :
    PS X (.Assign [.Subscript o i p3] e pos) (tS c W fun env => andThen env (do let v ← fc env; let x ← fa env; let j ← fb env; pure (v, x, j)) fun p h => change env (setIL p.2.1 p.2.2 p.1 h)) := by
  refine (ps_asg he (pg_item ho hi hs) (sole_false rfl) rfl rfl).imp fun D σ H q => ?_
  obtain ⟨env, h, ml, G, s, o⟩ := q
  have o := OkS.after (σ := σ) o
  refine tE.imp (tE.three (fa := fc) (fb := fa) (fc := fb) s o) fun v H1 q1 => tE.imp q1 fun x H2 q2 => tE.imp q2 fun j H3 ⟨v', x', j', h3, ml3, G3, s3, r1, r2, r3, o3⟩ => ?_
  have o3 := o3.pure s3
  simp only at o3
  unfold setIL at o3
  split at o3
  · rename_i n k
    split at o3
    · rename_i l e
      split at o3
      · rename_i m hm
        obtain ⟨p, xs, em, rfl, eH, rs⟩ := loc_ty hX s3 r2 e
        obtain ⟨g, s4⟩ := s3.chg e em (rs.set m r1)
        exact ⟨p, xs, _, m, rfl, r3.int', eH, by rw [rs.length]; exact hm, o3 ml3 G3 _ σ g s4⟩
      · exact o3.elim
    · exact o3.elim
  · exact o3.elim
end
end MPS

namespace MPS
open PySem PySem.Spec L2 MP

mutual
/-- a place that may change changes its items -/
theorem RV.chgD {c : C} {H : Hp} {ml : List Addr} {G : Addr → Prop} {D : Addr} {acc acc' : List V} (hG : G D) (hD : H D = some (.lst acc)) : ∀ (d : Val) (x : V), RV c H ml G d x → RV c (upd H D (.lst acc')) ml G d x
  | .non, x, h => by unfold RV at h ⊢; exact h
  | .bl _, x, h => by unfold RV at h ⊢; exact h
  | .int _, x, h => by unfold RV at h ⊢; exact h
  | .str _, x, h => by unfold RV at h ⊢; exact h
  | .tup l, x, h => by
    unfold RV at h ⊢
    obtain ⟨a, xs, e, hs, r⟩ := h
    refine ⟨a, xs, e, ?_, RVs.chgD hG hD l xs r⟩
    rcases hs with (hs | ⟨o, hs⟩) | hs
    · have ne : a ≠ D := fun z => by rw [z, hD] at hs; cases hs
      exact .inl (.inl (by rw [upd_ne ne]; exact hs))
    · have ne : a ≠ D := fun z => by rw [z, hD] at hs; cases hs
      exact .inl (.inr ⟨o, by rw [upd_ne ne]; exact hs⟩)
    · exact .inr hs
  | .lst l, x, h => by
    unfold RV at h ⊢
    obtain ⟨a, xs, e, ⟨hs, ng⟩, r⟩ := h
    have ne : a ≠ D := fun z => ng (z ▸ hG)
    exact ⟨a, xs, e, ⟨by rw [upd_ne ne]; exact hs, ng⟩, RVs.chgD hG hD l xs r⟩
  | .scr l, x, h => by
    unfold RV at h ⊢
    obtain ⟨a, xs, e, hs, r⟩ := h
    refine ⟨a, xs, e, ?_, RVs.chgD hG hD l xs r⟩
    rcases hs with ⟨o, hs⟩ | hs
    · have ne : a ≠ D := fun z => by rw [z, hD] at hs; cases hs
      exact .inl ⟨o, by rw [upd_ne ne]; exact hs⟩
    · exact .inr hs
  | .dct ks vs, x, h => by
    unfold RV at h ⊢
    obtain ⟨e1, e2, a, e, hs, ng⟩ := h
    have ne : a ≠ D := fun z => ng (z ▸ hG)
    exact ⟨e1, e2, a, e, by rw [upd_ne ne]; exact hs, ng⟩
  | .loc n, x, h => by unfold RV at h ⊢; exact h
  | .fn _, x, h => by unfold RV at h ⊢; exact h
  | .ty _, x, h => by unfold RV at h ⊢; exact h
theorem RVs.chgD {c : C} {H : Hp} {ml : List Addr} {G : Addr → Prop} {D : Addr} {acc acc' : List V} (hG : G D) (hD : H D = some (.lst acc)) : ∀ (ds : List Val) (xs : List V), RVs c H ml G ds xs → RVs c (upd H D (.lst acc')) ml G ds xs
  | [], xs, h => by unfold RVs at h ⊢; exact h
  | d :: ds, xs, h => by
    unfold RVs at h ⊢
    obtain ⟨x, r, e, h1, h2⟩ := h
    exact ⟨x, r, e, RV.chgD hG hD d x h1, RVs.chgD hG hD ds r h2⟩
end
section
variable {c : C} {W : WX} {X : Cx} {env : MEnv} {h : MHeap} {ml ml2 : List Addr} {G G2 : Addr → Prop} {σ : L2.St} {H H2 : Hp} {D : Addr} {acc acc' : List V}
theorem SR.chgD (s : SR c env h ml G σ H) (hG : G D) (hD : H D = some (.lst acc)) (hm : D ∉ ml) : SR c env h ml G σ (upd H D (.lst acc')) := by
  refine ⟨s.len, s.nd, s.mg, fun b hb => ?_, fun n o b e1 e2 => ?_, fun i v e => ?_, s.el⟩
  · by_cases hbd : b = D
    · rw [hbd, upd_same]; simp
    · rw [upd_ne hbd]; exact s.tr b hb
  · have q := s.obj n o b e1 e2
    have ne : b ≠ D := fun z => hm (z ▸ List.mem_of_getElem? e2)
    cases o with
    | list l =>
      obtain ⟨zs, e3, r3⟩ := q
      exact ⟨zs, by rw [upd_ne ne]; exact e3, RVs.chgD hG hD _ _ r3⟩
    | dict _ _ => exact q.elim
  · obtain ⟨x, e2, r⟩ := s.ev i v e
    exact ⟨x, e2, RV.chgD hG hD _ _ r⟩
theorem Grow.chgD {o : HO} (g : Grow ml G H ml2 G2 H2) (hn : H D = none) : Grow ml G H ml2 G2 (upd H2 D o) := by
  refine ⟨g.pre, g.gm, g.gn, fun a o' e hm => ?_, g.mg, g.ls, fun a ha => ?_⟩
  · have ne : a ≠ D := fun z => by rw [z, hn] at e; cases e
    rw [upd_ne ne]; exact g.fr a o' e hm
  · have ne : a ≠ D := fun z => by have q := g.ls a ha; rw [z, hn] at q; exact q
    rw [upd_ne ne]; exact g.ln a ha
theorem Grow.out {a : Addr} (g : Grow ml G H ml2 G2 H2) (ha : a ∉ ml) (hn : H a ≠ none) : a ∉ ml2 := by
  obtain ⟨new, e, f⟩ := g.pre
  rw [e]
  intro z
  rcases List.mem_append.mp z with z | z
  · exact ha z
  · exact hn (f a z)
theorem compL_exc {F : Val → M (Option Val)} {lock : List Nat} {h0 : MHeap} {e : Exc} {h' : MHeap} : ∀ {l : List Val} {h : MHeap}, compL F lock h0 l h ≠ .exc e h'
  | [], h => by intro z; unfold compL at z; cases z
  | x :: r, h => by
    intro z
    unfold compL at z
    split at z
    · split at z
      · split at z
        · cases z
        · cases z
      · cases z
    · cases z
def WF : WX := fun _ _ _ _ => False
/-- a turn of a comprehension -/
def turnL (own : List Nat) (tg : Tg) (ft : MEnv → M Bool) (fe : MEnv → M Val) (env : MEnv) (x : Val) : M (Option Val) := do
  let env1 ← lift (bindT tg x (MP.wipe own env))
  let t ← ft env1
  if t then do let v ← fe env1; pure (some v) else pure none
theorem turnL_ok {own : List Nat} {tg : Tg} {ft : MEnv → M Bool} {fe : MEnv → M Val} {x : Val} {y : Option Val} {h' : MHeap} (e : turnL own tg ft fe env x h = .ok y h') :
    ∃ env1 t h1, bindT tg x (MP.wipe own env) = some env1 ∧ ft env1 h = .ok t h1 ∧ ((t = true ∧ ∃ v, fe env1 h1 = .ok v h' ∧ y = some v) ∨ (t = false ∧ y = none ∧ h' = h1)) := by
  unfold turnL at e
  rw [bind_app, lift_app] at e
  cases k : bindT tg x (MP.wipe own env) with
  | none => rw [k] at e; cases e
  | some env1 =>
    rw [k] at e
    simp only at e
    rw [bind_app] at e
    cases k2 : ft env1 h with
    | bad => rw [k2] at e; cases e
    | exc _ _ => rw [k2] at e; cases e
    | ok t h1 =>
      rw [k2] at e
      simp only at e
      refine ⟨env1, t, h1, rfl, k2, ?_⟩
      cases t with
      | false =>
        rw [if_neg Bool.false_ne_true] at e
        cases e
        exact .inr ⟨rfl, rfl, rfl⟩
      | true =>
        rw [if_pos rfl, bind_app] at e
        cases k3 : fe env1 h1 with
        | bad => rw [k3] at e; cases e
        | exc _ _ => rw [k3] at e; cases e
        | ok v h2 =>
          rw [k3] at e
          cases e
          exact .inl ⟨rfl, v, rfl, rfl⟩
theorem wipe_idem (σ : L2.St) (own : List Nat) : L2.wipe (L2.wipe σ own) own = L2.wipe σ own := by
  apply List.ext_getElem?
  intro j
  rw [wipe_get, wipe_get, L2.wipe_length]
  by_cases hj : j ∈ own ∧ j < σ.length
  · simp [hj]
  · simp [hj]
theorem yesIf {A B : Prop} (a : A) : if true = true then A else B := (if_pos rfl).symm ▸ a
theorem noIf {A B : Prop} (b : B) : if false = true then A else B := (if_neg Bool.false_ne_true).symm ▸ b
theorem lc_imp {own : List Nat} {tg : Tg} {fi : MEnv → M Items} {ft : MEnv → M Bool} {fe : MEnv → M Val} (ht : ∀ i ∈ tgs tg, i ∈ own) {Q : VK}
    (q : tF c W (fun env => do let its ← fi env; let _ ← lift (few its.l); let h0 ← getH; compL (turnL own tg ft fe env) its.lock h0 its.l) σ H Q) : tLc (tI c W fi) (tgR c tg) (tT c WF ft) (tE c WF fe) own σ H Q := by
  obtain ⟨env, h, ml, G, s, o⟩ := q
  refine ⟨env, h, ml, G, s, (okF_exc o).imp fun its h1 ml1 G1 H1 g1 s1 o1 _ J sv => ?_⟩
  intro D hD
  have o2 := okF_exc o1
  obtain ⟨l', e, o2⟩ := o2.lift s1
  obtain ⟨rfl, hfew⟩ := few_of e
  have o3 : OkF c W env σ (compL (turnL own tg ft fe env) its.lock h1 its.l h1) ml1 G1 H1 Q := o2
  obtain ⟨l0, h0, e0⟩ : ∃ l0 h0, compL (turnL own tg ft fe env) its.lock h1 its.l h1 = .ok l0 h0 := by
    cases k : compL (turnL own tg ft fe env) its.lock h1 its.l h1 with
    | bad => rw [k] at o3; exact o3.elim
    | exc x h' => exact absurd k compL_exc
    | ok l0 h0 => exact ⟨l0, h0, rfl⟩
  rw [e0] at o3
  have gD : ∀ b, G1 b → b ≠ D := fun b hb z => s1.tr b hb (z ▸ hD)
  have g0 : Grow ml1 G1 H1 ml1 (fun b => G1 b ∨ b = D) (upd H1 D (.lst [])) := by
    have g := s1.fresh (.lst []) hD
    refine ⟨g.pre, fun b z => .inl z, fun b z => ?_, g.fr, g.mg, g.ls, g.ln⟩
    rcases z with z | z
    · exact .inl z
    · exact .inr (z ▸ hD)
  have s0 : SR c env h1 ml1 (fun b => G1 b ∨ b = D) σ (upd H1 D (.lst [])) := by
    refine s1.over g0 (fun b hb => upd_ne (gD b (s1.mg b hb))) fun b z => ?_
    by_cases hb : b = D
    · rw [hb, upd_same]; simp
    · rw [upd_ne hb]
      rcases z with z | z
      · exact s1.tr b z
      · exact absurd z hb
  refine ⟨fun i m H2 => m = its.l.length - i ∧ i ≤ its.l.length ∧ ∃ (h2 : MHeap) (ml2 : List Addr) (G2 : Addr → Prop) (acc : List V) (ys l' : List Val), Grow ml1 G1 H1 ml2 G2 H2 ∧ SR c (MP.wipe own env) h2 ml2 G2 (L2.wipe σ own) H2 ∧
      stays its.lock h1 h2 = true ∧ H2 D = some (.lst acc) ∧ G2 D ∧ D ∉ ml2 ∧ RVs c H2 ml2 G2 ys acc ∧ ys.length ≤ i ∧ compL (turnL own tg ft fe env) its.lock h1 (its.l.drop i) h2 = .ok l' h0 ∧ l0 = ys ++ l',
    ⟨its.l.length, by simp, Nat.zero_le _, h1, ml1, _, [], [], l0, g0, s0.wiped own, by simp [stays], upd_same, .inr rfl, fun z => gD D (s1.mg D z) rfl, .nil, Nat.le_refl _, by simpa using e0, rfl⟩, ?_⟩
  rintro i m H2 ⟨rfl, hi, h2, ml2, G2, acc, ys, l', g2, s2, st, eD, gG, nD, rys, hys, ec, el⟩
  obtain ⟨k1, k2⟩ := sv i _ _ h2 ml2 G2 H2 g2 s2 st
  by_cases hlt : i < its.l.length
  · have ed : its.l.drop i = its.l[i] :: its.l.drop (i + 1) := List.drop_eq_getElem_cons hlt
    rw [ed] at ec
    obtain ⟨go, yl⟩ := k2 its.l[i] (List.getElem?_eq_getElem hlt)
    unfold compL at ec
    cases kt : turnL own tg ft fe env its.l[i] h2 with
    | bad => rw [kt] at ec; cases ec
    | exc _ _ => rw [kt] at ec; cases ec
    | ok yo h3 =>
      rw [kt] at ec
      simp only at ec
      split at ec
      · rename_i hst
        cases kr : compL (turnL own tg ft fe env) its.lock h1 (its.l.drop (i + 1)) h3 with
        | bad => rw [kr] at ec; cases ec
        | exc _ _ => rw [kr] at ec; cases ec
        | ok l2 h4 =>
          rw [kr] at ec
          simp only at ec
          obtain ⟨e1, e2⟩ : consO yo l2 = l' ∧ h4 = h0 := by cases ec; exact ⟨rfl, rfl⟩
          subst e2
          obtain ⟨env1, t, h5, eb, eft, alt⟩ := turnL_ok kt
          refine .inr ⟨go, fun H2 => ∃ (h2 : MHeap) (ml2 : List Addr) (G2 : Addr → Prop) (acc : List V) (ys l' : List Val), Grow ml1 G1 H1 ml2 G2 H2 ∧ SR c (MP.wipe own env) h2 ml2 G2 (L2.wipe σ own) H2 ∧
            stays its.lock h1 h2 = true ∧ H2 D = some (.lst acc) ∧ G2 D ∧ D ∉ ml2 ∧ RVs c H2 ml2 G2 ys acc ∧ ys.length ≤ i + 1 ∧ compL (turnL own tg ft fe env) its.lock h1 (its.l.drop (i + 1)) h2 = .ok l' h4 ∧ l0 = ys ++ l',
            fun H' n => ⟨its.l.length - (i + 1), by omega, rfl, hlt, n⟩, fun x H3 y => ?_⟩
          obtain ⟨g3, sm, smG, rx⟩ := yl x H3 y
          have s3 : SR c (MP.wipe own env) h2 ml2 G2 (L2.wipe σ own) H3 := s2.over g3 sm fun b hb => by rw [smG b hb]; exact s2.tr b hb
          have eD3 : H3 D = some (.lst acc) := by rw [smG D gG]; exact eD
          refine ⟨MP.wipe own env, h2, ml2, G2, _, env1, s3, rx, eb, fun σ4 s4 w4 => ⟨by rw [w4 own ht, wipe_idem], env1, h2, ml2, G2, s4, ?_⟩⟩
          unfold Ok
          rw [eft]
          intro ml5 G5 H5 g5 s5
          have eD5 : H5 D = some (.lst acc) := g5.fr D _ eD3 nD
          have nD5 : D ∉ ml5 := g5.out nD (by rw [eD3]; simp)
          have g15 : Grow ml1 G1 H1 ml5 G5 H5 := (g2.trans g3).trans g5
          rcases alt with ⟨rfl, v, ev, rfl⟩ | ⟨rfl, rfl, rfl⟩
          · refine yesIf ?_
            refine ⟨env1, h5, ml5, G5, s5, ?_⟩
            unfold Ok
            rw [ev]
            intro ml6 G6 H6 g6 s6 z rz
            have eD6 : H6 D = some (.lst acc) := g6.fr D _ eD5 nD5
            have nD6 : D ∉ ml6 := g6.out nD5 (by rw [eD5]; simp)
            have gG6 : G6 D := g6.gm D (g5.gm D gG)
            have r6 : RVs c H6 ml6 G6 ys acc := ((rys.mono g3).mono g5).mono g6
            have gw : Grow ml2 G2 H2 ml6 G6 H6 := (g3.trans g5).trans g6
            have s6' : SR c (MP.wipe own env) h3 ml6 G6 (L2.wipe σ own) H6 := s6.slots s2.el (gw.envs s2.ev)
            refine ⟨acc, eD6, by rw [rys.length, sizeSZ]; omega, h3, ml6, G6, acc ++ [z], ys ++ [v], l2, (g15.trans g6).chgD hD, s6'.chgD gG6 eD6 nD6, hst, upd_same, gG6, nD6, RVs.chgD gG6 eD6 _ _ (r6.append (.cons rz .nil)), ?_, kr, ?_⟩
            · rw [List.length_append, List.length_singleton]; omega
            · rw [el, ← e1, List.append_assoc]; rfl
          · refine noIf ?_
            have gw : Grow ml2 G2 H2 ml5 G5 H5 := g3.trans g5
            exact ⟨h3, ml5, G5, acc, ys, l2, g15, s5.slots s2.el (gw.envs s2.ev), hst, eD5, g5.gm D gG, nD5, rys.mono gw, by omega, kr, by rw [el, ← e1]; rfl⟩
      · cases ec
  · have ed : its.l.drop i = [] := List.drop_eq_nil_of_le (Nat.le_of_not_lt hlt)
    rw [ed] at ec
    cases ec
    refine .inl ⟨k1 (Nat.le_of_not_lt hlt), ?_⟩
    have s2' : SR c env h0 ml2 G2 σ H2 := s2.slots s1.el (g2.envs s1.ev)
    rw [List.append_nil] at el
    subst el
    exact o3 ml2 G2 H2 D acc g2 s2' hD gG nD eD rys
end
end MPS

namespace MPS
open PySem PySem.Spec L2 MP

/-- the arguments as a callee gets them; M the places of those it may change -/
inductive Ent (c : C) (H : Hp) (M : List Addr) (G : Addr → Prop) : List Bool → List Val → List V → List Addr → Prop where
  | nil {bs : List Bool} : Ent c H M G bs [] [] []
  | io {bs : List Bool} {l : List Val} {vs : List Val} {xs ys : List V} {a : Addr} {as : List Addr} (e : H a = some (.lst ys)) (r : RVs c H M G l ys) (n : noLocL l = true) (t : Ent c H M G bs vs xs as) : Ent c H M G (true :: bs) (.lst l :: vs) (.ref a :: xs) (a :: as)
  | ro {bs : List Bool} {v : Val} {vs : List Val} {x : V} {xs : List V} {as : List Addr} (r : RV c H M G v x) (n : v.noLoc = true) (t : Ent c H M G bs vs xs as) : Ent c H M G (false :: bs) (v :: vs) (x :: xs) as
  | re {v : Val} {vs : List Val} {x : V} {xs : List V} {as : List Addr} (r : RV c H M G v x) (n : v.noLoc = true) (t : Ent c H M G [] vs xs as) : Ent c H M G [] (v :: vs) (x :: xs) as
theorem Ent.length {c : C} {H : Hp} {M : List Addr} {G : Addr → Prop} {io : List Bool} {ws : List Val} {xs : List V} {as : List Addr} (e : Ent c H M G io ws xs as) : xs.length = ws.length := by
  induction e with
  | nil => rfl
  | io _ _ _ _ ih => rw [List.length_cons, List.length_cons, ih]
  | ro _ _ _ ih => rw [List.length_cons, List.length_cons, ih]
  | re _ _ _ ih => rw [List.length_cons, List.length_cons, ih]
/-- what comes back -/
def RetV (c : C) (H H' : Hp) (ml' : List Addr) (G' : Addr → Prop) (o : Out) (x : V) : Prop :=
  (o.own = true ∧ ∃ (a : Addr) (l : List Val) (ys : List V), o.v = .lst l ∧ x = .ref a ∧ H a = none ∧ G' a ∧ H' a = some (.lst ys) ∧ RVs c H' ml' G' l ys ∧ noLocL l = true) ∨ (o.own = false ∧ RV c H' ml' G' o.v x ∧ o.v.noLoc = true)
/-- a def's promise -/
def SpM (c : C) (io : List Bool) (R : List Val → Ret) : Sp := fun xs H Q _ => ∃ (ws : List Val) (M : List Addr) (G : Addr → Prop) (o : Out), Ent c H M G io ws xs M ∧ M.Nodup ∧ (∀ a ∈ M, G a) ∧ (∀ a, G a → H a ≠ none) ∧ R ws = .ret o ∧
  ∀ (x : V) (H' : Hp) (ml' : List Addr) (G' : Addr → Prop) (h' : MHeap), Grow M G H ml' G' H' → SR c [] h' ml' G' [] H' → takeOuts M.length h' = some o.outs → RetV c H H' ml' G' o x → Q x H'

theorem enter_ok {c : C} {H : Hp} {M : List Addr} {G : Addr → Prop} {io : List Bool} {ws : List Val} {xs : List V} {as : List Addr} (e : Ent c H M G io ws xs as) :
    ∀ {pre : List Addr} {h0 h : MHeap} {env : MEnv}, M = pre ++ as → h0.length = pre.length → enter io ws h0 = some (env, h) → (∀ (k : Nat) (o : LObj) (a : Addr), h0[k]? = some o → M[k]? = some a → OR c H M G o a) →
      h.length = M.length ∧ (∀ (k : Nat) (o : LObj) (a : Addr), h[k]? = some o → M[k]? = some a → OR c H M G o a) ∧ env.length = xs.length ∧ ∀ (i : Nat) (v : Val), env[i]? = some (some v) → ∃ x, xs[i]? = some x ∧ RV c H M G v x := by
  have put : ∀ {r : Option (MEnv × MHeap)} {env : MEnv} {h : MHeap} {f : Option Val}, r.map (fun p => (f :: p.1, p.2)) = some (env, h) → ∃ env1, r = some (env1, h) ∧ env = f :: env1 := fun {r env h f} q => by
    obtain ⟨p, e1, e2⟩ := Option.map_eq_some_iff.mp q
    obtain ⟨p1, p2⟩ := p
    cases e2
    exact ⟨p1, e1, rfl⟩
  have env_at : ∀ {env1 : MEnv} {xs : List V} {x : V} {w : Val}, RV c H M G w x → (∀ (i : Nat) (v : Val), env1[i]? = some (some v) → ∃ x, xs[i]? = some x ∧ RV c H M G v x) →
      ∀ (i : Nat) (v : Val), (some w :: env1)[i]? = some (some v) → ∃ y, (x :: xs)[i]? = some y ∧ RV c H M G v y := fun {env1 xs x w} r q i v e => by
    cases i with
    | zero => simp at e; subst e; exact ⟨x, rfl, r⟩
    | succ i => simpa using q i v (by simpa using e)
  induction e with
  | nil =>
    intro pre h0 h env eM el ee ho
    simp only [enter, Option.some.injEq, Prod.mk.injEq] at ee
    obtain ⟨rfl, rfl⟩ := ee
    exact ⟨by rw [eM, List.append_nil]; exact el, ho, rfl, fun i v e => by simp at e⟩
  | @io bs l vs xs ys a as eH r n t ih =>
    intro pre h0 h env eM el ee ho
    simp only [enter] at ee
    obtain ⟨env1, e1, rfl⟩ := put ee
    have ea : M[h0.length]? = some a := by rw [eM, el]; simp
    obtain ⟨k1, k2, k3, k4⟩ := ih (pre := pre ++ [a]) (h0 := h0 ++ [.list l]) (by rw [eM, List.append_assoc]; rfl) (by rw [List.length_append, List.length_append, el]; rfl) e1 fun k o b e2 e3 => by
      by_cases hk : k < h0.length
      · rw [List.getElem?_append_left hk] at e2
        exact ho k o b e2 e3
      · rw [List.getElem?_append_right (Nat.le_of_not_lt hk)] at e2
        have hz : k - h0.length = 0 := by
          cases hz : k - h0.length with
          | zero => rfl
          | succ m => rw [hz] at e2; simp at e2
        have hk2 : k = h0.length := by omega
        rw [hz] at e2
        subst hk2
        simp at e2
        subst e2
        rw [ea] at e3
        cases e3
        exact ⟨ys, eH, r⟩
    exact ⟨k1, k2, by rw [List.length_cons, List.length_cons, k3], env_at (.loc ea) k4⟩
  | @ro bs v vs x xs as r n t ih =>
    intro pre h0 h env eM el ee ho
    simp only [enter] at ee
    obtain ⟨env1, e1, rfl⟩ := put ee
    obtain ⟨k1, k2, k3, k4⟩ := ih eM el e1 ho
    exact ⟨k1, k2, by rw [List.length_cons, List.length_cons, k3], env_at r k4⟩
  | @re v vs x xs as r n t ih =>
    intro pre h0 h env eM el ee ho
    simp only [enter] at ee
    obtain ⟨env1, e1, rfl⟩ := put ee
    obtain ⟨k1, k2, k3, k4⟩ := ih eM el e1 ho
    exact ⟨k1, k2, by rw [List.length_cons, List.length_cons, k3], env_at r k4⟩
theorem Ent.count {c : C} {H : Hp} {M : List Addr} {G : Addr → Prop} {io : List Bool} {ws : List Val} {xs : List V} {as : List Addr} (e : Ent c H M G io ws xs as) (hl : io.length ≤ ws.length) : as.length = countIo io := by
  induction e with
  | @nil bs => cases bs with
    | nil => rfl
    | cons _ _ => simp at hl
  | io _ _ _ _ ih => rw [List.length_cons, ih (by simpa using hl)]; rfl
  | ro _ _ _ ih => rw [ih (by simpa using hl)]; rfl
  | re _ _ _ ih => rw [ih (Nat.zero_le _)]
theorem callFn_len {T : List Val} {cb : CB} {fn : Fn} {ws : List Val} {o : Out} (h : callFn T cb fn ws = .ret o) : ws.length = fn.np := by
  unfold callFn at h
  split at h
  · assumption
  · cases h
theorem SR.bare {c : C} {env : MEnv} {h : MHeap} {ml : List Addr} {G : Addr → Prop} {σ : L2.St} {H : Hp} (s : SR c env h ml G σ H) : SR c [] h ml G [] H := s.slots (Nat.le_refl _) fun i v e => by simp at e
theorem leave_ok {c : C} {H H' : Hp} {M ml' : List Addr} {G G' : Addr → Prop} {h' : MHeap} {v : Val} {o : Out} {x : V} {Q : VK} (g : Grow M G H ml' G' H') (s : SR c [] h' ml' G' [] H') (r : RV c H' ml' G' v x) (e : leave M.length v h' = .ret o)
    (fin : takeOuts M.length h' = some o.outs → RetV c H H' ml' G' o x → Q x H') : Q x H' := by
  unfold leave at e
  cases k1 : takeOuts M.length h' with
  | none => rw [k1] at e; cases e
  | some outs =>
    cases k2 : leaveV M.length v h' with
    | none => rw [k1, k2] at e; cases e
    | some p =>
      rw [k1, k2] at e
      cases e
      refine fin k1 ?_
      unfold leaveV at k2
      split at k2
      · rename_i n
        split at k2
        · rename_i hn
          split at k2
          · rename_i l el
            split at k2
            · rename_i hl
              cases k2
              obtain ⟨a, em, rfl⟩ := r.loc'
              obtain ⟨ys, eH, rs⟩ := s.at el em
              obtain ⟨new, e3, f3⟩ := g.pre
              refine .inl ⟨rfl, a, l, ys, rfl, rfl, f3 a ?_, s.mg a (List.mem_of_getElem? em), eH, rs, hl⟩
              rw [e3, List.getElem?_append_right hn] at em
              exact List.mem_of_getElem? em
            · cases k2
          · cases k2
        · cases k2
      · split at k2
        · rename_i hl
          cases k2
          exact .inr ⟨rfl, r, hl⟩
        · cases k2
theorem body_ok {c : C} {T : List Val} {cb : CB} {fn : Fn} {N : List Str} {xs : List V} {H : Hp} {Q : VK} {E : XK} (hn : fn.ns = N.length) (hio : fn.io.length ≤ fn.np) (h : SpM c fn.io (callFn T cb fn) xs H Q E) :
    tS c WF (evalS T cb fn.body) { nx := fun _ H' => Q .non H', rt := Q } (L2.start N xs) H := by
  obtain ⟨ws, M, G, o, en, nd, mg, tr, e, fin⟩ := h
  have hl := callFn_len e
  unfold callFn at e
  rw [if_pos hl] at e
  cases k : enter fn.io ws [] with
  | none => rw [k] at e; cases e
  | some p =>
    obtain ⟨env, h⟩ := p
    rw [k] at e
    simp only at e
    obtain ⟨k1, k2, k3, k4⟩ := enter_ok en (pre := []) rfl rfl k fun k o a e1 => by simp at e1
    have hc : M.length = countIo fn.io := en.count (by omega)
    have hx : xs.length = fn.np := en.length.trans hl
    have s : SR c (env ++ List.replicate (fn.ns - fn.np) none) h M G (L2.start N xs) H := by
      refine ⟨k1.symm, nd, mg, tr, k2, fun i v e1 => ?_, ?_⟩
      · by_cases hi : i < env.length
        · rw [List.getElem?_append_left hi] at e1
          obtain ⟨x, ex, rx⟩ := k4 i v e1
          refine ⟨x, ?_, rx⟩
          unfold L2.start
          rw [List.getElem?_append_left (by rw [List.length_map, ← k3]; exact hi), List.getElem?_map, ex]; rfl
        · rw [List.getElem?_append_right (Nat.le_of_not_lt hi), List.getElem?_replicate] at e1
          split at e1 <;> cases e1
      · unfold L2.start
        rw [List.length_append, List.length_append, List.length_replicate, List.length_replicate, List.length_map, k3, hn, hx]
        exact Nat.le_refl _
    refine ⟨_, h, M, G, s, ?_⟩
    rw [← hc] at e
    unfold OkS
    cases kb : evalS T cb fn.body (env ++ List.replicate (fn.ns - fn.np) none) h with
    | bad => rw [kb] at e; cases e
    | exc x env' h' => rw [kb] at e; cases e
    | ok f h' =>
      rw [kb] at e
      intro ml' G' H' σ' g
      cases f with
      | nx env' => exact fun s' => leave_ok g s'.bare .non e fun t r => fin _ _ _ _ _ g s'.bare t r
      | rt v => exact fun s' x rx => leave_ok g s'.bare rx e fun t r => fin _ _ _ _ _ g s'.bare t r
      | bk _ => cases e
      | ct _ => cases e

theorem putBack_ok : ∀ {ns : List Nat} {ls : List (List Val)} {h h1 : MHeap}, putBack ns ls h = some h1 → distinct ns = true → (∀ n ∈ ns, n < h.length) →
    h1.length = h.length ∧ ∀ n, (n ∉ ns → h1[n]? = h[n]?) ∧ ∀ k : Nat, ns[k]? = some n → ∃ l, ls[k]? = some l ∧ h1[n]? = some (.list l)
  | [], [], h, h1, e, _, _ => by
    simp only [putBack, Option.some.injEq] at e
    subst e
    exact ⟨rfl, fun n => ⟨fun _ => rfl, fun k z => by simp at z⟩⟩
  | [], _ :: _, h, h1, e, _, _ => by simp [putBack] at e
  | _ :: _, [], h, h1, e, _, _ => by simp [putBack] at e
  | m :: ns, l :: ls, h, h1, e, d, hl => by
    simp only [putBack] at e
    simp only [distinct, Bool.and_eq_true, Bool.not_eq_true'] at d
    have hm : m ∉ ns := fun z => by have := d.1; simp [z] at this
    obtain ⟨k1, k2⟩ := putBack_ok e d.2 fun n hn => by rw [List.length_set]; exact hl n (List.mem_cons_of_mem _ hn)
    refine ⟨by rw [k1, List.length_set], fun n => ⟨fun hn => ?_, fun k z => ?_⟩⟩
    · rw [(k2 n).1 fun q => hn (List.mem_cons_of_mem _ q), List.getElem?_set_ne fun q : m = n => hn (by rw [← q]; exact List.mem_cons_self)]
    · cases k with
      | zero =>
        simp at z
        subst z
        refine ⟨l, rfl, ?_⟩
        rw [(k2 m).1 hm, List.getElem?_set_self (hl m List.mem_cons_self)]
      | succ k => simpa using (k2 n).2 k (by simpa using z)
theorem takeOuts_ok : ∀ {m : Nat} {h : MHeap} {outs : List (List Val)}, takeOuts m h = some outs → outs.length = m ∧ ∀ (k : Nat) (l : List Val), outs[k]? = some l → h[k]? = some (.list l) ∧ noLocL l = true
  | 0, h, outs, e => by
    simp only [takeOuts, Option.some.injEq] at e
    subst e
    exact ⟨rfl, fun k l z => by simp at z⟩
  | m + 1, [], outs, e => by simp [takeOuts] at e
  | m + 1, .dict _ _ :: r, outs, e => by simp [takeOuts] at e
  | m + 1, .list l :: r, outs, e => by
    simp only [takeOuts] at e
    split at e
    · rename_i hl
      obtain ⟨o1, e1, rfl⟩ := Option.map_eq_some_iff.mp e
      obtain ⟨k1, k2⟩ := takeOuts_ok e1
      refine ⟨by rw [List.length_cons, k1], fun k l2 z => ?_⟩
      cases k with
      | zero => simp at z; subst z; exact ⟨rfl, hl⟩
      | succ k => simpa using k2 k l2 (by simpa using z)
    · cases e
section
variable {c : C} {W : WX} {env : MEnv} {h : MHeap} {ml : List Addr} {G : Addr → Prop} {σ : L2.St} {H : Hp}
/-- what the callee may change: not what is only lent -/
def lent (ml : List Addr) (G : Addr → Prop) (RO : List Nat) : Addr → Prop := fun a => G a ∧ ∀ n ∈ RO, ml[n]? ≠ some a
theorem ro_mem {n : Nat} {bs : List Bool} {v : Val} {r : List Val} (hn : n ∈ locksOf v) : n ∈ roAt (false :: bs) (v :: r) ∧ n ∈ roAt [] (v :: r) := by
  cases v <;> simp [locksOf] at hn
  subst hn
  exact ⟨by simp [roAt], by simp [roAt]⟩
theorem ro_tail {n : Nat} {bs : List Bool} {v : Val} {r : List Val} : (n ∈ roAt bs r → n ∈ roAt (false :: bs) (v :: r)) ∧ (n ∈ roAt [] r → n ∈ roAt [] (v :: r)) := by
  cases v <;> refine ⟨fun hn => ?_, fun hn => ?_⟩ <;> simp [roAt, hn]
theorem io_tail {n : Nat} {bs : List Bool} {v : Val} {r : List Val} : ioAt (false :: bs) (v :: r) = ioAt bs r ∧ ioAt [] (v :: r) = [] := by
  cases v <;> exact ⟨by simp [ioAt], by simp [ioAt]⟩
theorem io_nil : ∀ r : List Val, ioAt [] r = []
  | [] => rfl
  | v :: r => io_tail (n := 0) (bs := []).2
theorem res_ok {M : List Addr} {RO : List Nat} {v w : Val} {x : V} (s : SR c env h ml G σ H) (r : RV c H ml G v x) (e : res h v = some w) (hr : ∀ n ∈ locksOf v, n ∈ RO) : RV c H M (lent ml G RO) w x ∧ w.noLoc = true := by
  have less : ∀ a, lent ml G RO a → G a := fun a z => z.1
  by_cases hv : ∃ n, v = .loc n
  · obtain ⟨n, rfl⟩ := hv
    obtain ⟨p, em, rfl⟩ := r.loc'
    simp only [res] at e
    split at e
    · rename_i l el
      split at e
      · rename_i hl
        cases e
        obtain ⟨ys, eH, rs⟩ := s.at el em
        exact ⟨.lst eH (fun z => z.2 n (hr n (by simp [locksOf])) em) (RVs.less less _ _ hl rs), by simpa [Val.noLoc] using hl⟩
      · cases e
    · cases e
  · have e' : w = v ∧ v.noLoc = true := by
      unfold res at e
      split at e
      · exact absurd ⟨_, rfl⟩ hv
      · split at e
        · rename_i hn
          cases e; exact ⟨rfl, hn⟩
        · cases e
    obtain ⟨rfl, hn⟩ := e'
    exact ⟨RV.less less _ _ hn r, hn⟩
theorem ent_of {RO : List Nat} (s : SR c env h ml G σ H) (M : List Addr) : ∀ {io : List Bool} {vs ws : List Val} {xs : List V}, RVs c H ml G vs xs → handOn h io vs = some ws → (∀ n ∈ roAt io vs, n ∈ RO) →
    Ent c H M (lent ml G RO) io ws xs ((ioAt io vs).filterMap (ml[·]?)) ∧ ∀ n ∈ ioAt io vs, ∃ a, ml[n]? = some a
  | io, [], ws, xs, rs, e, _ => by
    have := rs.inv0
    subst this
    have e1 : ws = [] := by cases io with
      | nil => simpa [handOn] using e.symm
      | cons b _ => cases b <;> simpa [handOn] using e.symm
    have e2 : ioAt io [] = [] := by cases io with
      | nil => rfl
      | cons b _ => cases b <;> rfl
    subst e1
    rw [e2]
    exact ⟨.nil, fun n z => by cases z⟩
  | true :: bs, v :: r, ws, xs, rs, e, hr => by
    obtain ⟨x, xr, rfl, r1, r2⟩ := rs.inv
    by_cases hv : ∃ n, v = .loc n
    · obtain ⟨n, rfl⟩ := hv
      obtain ⟨p, em, rfl⟩ := r1.loc'
      simp only [handOn] at e
      split at e
      · rename_i l el
        split at e
        · rename_i hl
          obtain ⟨w1, e1, rfl⟩ := Option.map_eq_some_iff.mp e
          obtain ⟨ys, eH, rl⟩ := s.at el em
          obtain ⟨k1, k2⟩ := ent_of s M r2 e1 fun n hn => hr n (by simpa [roAt] using hn)
          have ei : ioAt (true :: bs) (.loc n :: r) = n :: ioAt bs r := by simp [ioAt]
          rw [ei, List.filterMap_cons_some em]
          refine ⟨.io eH (RVs.less (fun a z => z.1) _ _ hl rl) hl k1, fun m hm => ?_⟩
          rcases List.mem_cons.mp hm with rfl | hm
          · exact ⟨p, em⟩
          · exact k2 m hm
        · cases e
      · cases e
    · exfalso
      cases v <;> first | (simp [handOn] at e; done) | exact hv ⟨_, rfl⟩
  | false :: bs, v :: r, ws, xs, rs, e, hr => by
    obtain ⟨x, xr, rfl, r1, r2⟩ := rs.inv
    simp only [handOn] at e
    obtain ⟨w, e1, e⟩ := Option.bind_eq_some_iff.mp e
    obtain ⟨w1, e2, rfl⟩ := Option.map_eq_some_iff.mp e
    obtain ⟨k1, k2⟩ := ent_of s M r2 e2 fun n hn => hr n (ro_tail.1 hn)
    obtain ⟨q1, q2⟩ := res_ok (M := M) s r1 e1 fun n hn => hr n (ro_mem hn).1
    rw [(io_tail (n := 0)).1]
    exact ⟨.ro q1 q2 k1, k2⟩
  | [], v :: r, ws, xs, rs, e, hr => by
    obtain ⟨x, xr, rfl, r1, r2⟩ := rs.inv
    simp only [handOn] at e
    obtain ⟨w, e1, e⟩ := Option.bind_eq_some_iff.mp e
    obtain ⟨w1, e2, rfl⟩ := Option.map_eq_some_iff.mp e
    obtain ⟨k1, k2⟩ := ent_of s M r2 e2 fun n hn => hr n (ro_tail (bs := []).2 hn)
    obtain ⟨q1, q2⟩ := res_ok (M := M) s r1 e1 fun n hn => hr n (ro_mem (bs := []) hn).2
    rw [io_nil] at k1 k2 ⊢
    exact ⟨.re q1 q2 k1, k2⟩
/-- the caller after a call -/
def CRes (c : C) (env : MEnv) (h1 : MHeap) (ml : List Addr) (G : Addr → Prop) (σ : L2.St) (H : Hp) (v : Val) (own : Bool) (x : V) (H' : Hp) : Prop :=
  ∃ G1 : Addr → Prop, Grow ml G H ml G1 H' ∧ SR c env h1 ml G1 σ H' ∧
    ((own = true ∧ ∃ (a : Addr) (l : List Val) (ys : List V), v = .lst l ∧ x = .ref a ∧ H a = none ∧ G1 a ∧ a ∉ ml ∧ H' a = some (.lst ys) ∧ RVs c H' ml G1 l ys) ∨ (own = false ∧ RV c H' ml G1 v x))
theorem nodup_at {ns : List Nat} (d : distinct ns = true) (hm : ∀ n ∈ ns, ∃ a, ml[n]? = some a) (nd : ml.Nodup) : (ns.filterMap (ml[·]?)).Nodup ∧ ∀ (k n : Nat), ns[k]? = some n → (ns.filterMap (ml[·]?))[k]? = ml[n]? := by
  induction ns with
  | nil => exact ⟨by simp, fun k n z => by simp at z⟩
  | cons n ns ih =>
    simp only [distinct, Bool.and_eq_true, Bool.not_eq_true'] at d
    have hn : n ∉ ns := fun z => by have := d.1; simp [z] at this
    obtain ⟨k1, k2⟩ := ih d.2 fun m hm' => hm m (List.mem_cons_of_mem _ hm')
    obtain ⟨a, ea⟩ := hm n List.mem_cons_self
    rw [List.filterMap_cons_some ea]
    refine ⟨List.nodup_cons.mpr ⟨fun z => ?_, k1⟩, fun k m z => ?_⟩
    · obtain ⟨m, hm', e⟩ := List.mem_filterMap.mp z
      have h1 := List.getElem?_eq_some_iff.mp e
      have h2 := List.getElem?_eq_some_iff.mp ea
      have : m = n := (List.getElem_inj nd).mp (h1.2.trans h2.2.symm)
      exact hn (this ▸ hm')
    · cases k with
      | zero => simp at z; subst z; simpa using ea.symm
      | succ k => simpa using k2 k m (by simpa using z)
theorem call_ok {cb : CB} {f : Nat} {io : List Bool} {vs : List Val} {xs : List V} {Q : VK} {E : XK} (s : SR c env h ml G σ H) (rs : RVs c H ml G vs xs) (r : Res (Val × Bool)) (er : doCall cb f io vs h = r) (ok : r ≠ .bad)
    (fin : ∀ (v : Val) (own : Bool) (h1 : MHeap) (x : V) (H' : Hp), r = .ok (v, own) h1 → CRes c env h1 ml G σ H v own x H' → Q x H') : SpM c io (cb f) xs H Q E := by
  unfold doCall at er
  cases k1 : handOn h io vs with
  | none => rw [k1] at er; exact absurd er.symm ok
  | some ws =>
    rw [k1] at er
    simp only at er
    split at er
    · rename_i hd
      simp only [Bool.and_eq_true, List.all_eq_true, Bool.not_eq_true'] at hd
      obtain ⟨hd, hro⟩ := hd
      cases k2 : cb f ws with
      | bad => rw [k2] at er; exact absurd er.symm ok
      | exc _ _ => rw [k2] at er; exact absurd er.symm ok
      | ret o =>
        rw [k2] at er
        simp only at er
        split at er
        · rename_i hcond
          cases k3 : putBack (ioAt io vs) o.outs h with
          | none => rw [k3] at er; exact absurd er.symm ok
          | some h1 =>
            rw [k3] at er
            simp only at er
            obtain ⟨en, hmem⟩ := ent_of (RO := roAt io vs) s ((ioAt io vs).filterMap (ml[·]?)) rs k1 fun n z => z
            obtain ⟨nd, hat⟩ := nodup_at hd hmem s.nd
            have sub : ∀ a ∈ (ioAt io vs).filterMap (ml[·]?), ∃ n ∈ ioAt io vs, ml[n]? = some a := fun a ha => by
              obtain ⟨n, hn, e⟩ := List.mem_filterMap.mp ha
              exact ⟨n, hn, e⟩
            have inml : ∀ a ∈ (ioAt io vs).filterMap (ml[·]?), a ∈ ml := fun a ha => by
              obtain ⟨n, _, e⟩ := sub a ha
              exact List.mem_of_getElem? e
            have hlt : ∀ n ∈ ioAt io vs, n < h.length := fun n hn => by
              obtain ⟨a, ea⟩ := hmem n hn
              rw [← s.len]; exact (List.getElem?_eq_some_iff.mp ea).1
            refine ⟨ws, _, _, o, en, nd, fun a ha => ⟨s.mg a (inml a ha), fun n hn e2 => ?_⟩, fun a z => s.tr a z.1, k2, fun x H' ml' G' h' g s' tk rv => fin o.v o.own h1 x H' er.symm ?_⟩
            · obtain ⟨m, hm, e⟩ := sub a ha
              have h1' := List.getElem?_eq_some_iff.mp e
              have h2' := List.getElem?_eq_some_iff.mp e2
              have : m = n := (List.getElem_inj s.nd).mp (h1'.2.trans h2'.2.symm)
              subst this
              have := hro m hm
              simp [hn] at this
            · obtain ⟨ol, ok2⟩ := takeOuts_ok tk
              obtain ⟨pl, pb⟩ := putBack_ok k3 hd hlt
              have gg : Grow ml G H ml (fun b => G b ∨ G' b) H' := by
                refine ⟨⟨[], by simp, fun _ z => by cases z⟩, fun b z => .inl z, fun b z => ?_, fun b ob e hb => g.fr b ob e fun z => hb (inml b z), s.mg, s.ls, fun b hb => ?_⟩
                · rcases z with z | z
                  · exact .inl z
                  · rcases g.gn b z with q | q
                    · exact .inl q.1
                    · exact .inr q
                · by_cases hbM : b ∈ (ioAt io vs).filterMap (ml[·]?)
                  · exact g.ln b hbM
                  · cases eb : H b with
                    | none => exact absurd eb (s.tr b (s.mg b hb))
                    | some ob => rw [g.fr b ob eb hbM]; simp
              -- what comes back, in the caller's eyes
              have back : ∀ (l : List Val) (ys : List V), noLocL l = true → (roAt io vs = [] ∨ noLstL l = true) → RVs c H' ml' G' l ys → RVs c H' ml (fun b => G b ∨ G' b) l ys := fun l ys n1 n2 q => by
                rcases n2 with n2 | n2
                · refine RVs.less (fun b z => ?_) _ _ n1 q
                  rcases z with z | z
                  · exact g.gm b ⟨z, fun n hn => by rw [n2] at hn; cases hn⟩
                  · exact z
                · exact RVs.any _ _ n2 q
              have cond : ∀ l ∈ o.outs, roAt io vs = [] ∨ noLstL l = true := fun l hl => by
                rcases Bool.or_eq_true_iff.mp hcond with q | q
                · exact .inl (List.isEmpty_iff.mp q)
                · rw [Bool.and_eq_true] at q
                  exact .inr (List.all_eq_true.mp q.2 l hl)
              have s1 : SR c env h1 ml (fun b => G b ∨ G' b) σ H' := by
                refine ⟨by rw [pl]; exact s.len, s.nd, fun a ha => .inl (s.mg a ha), fun a z => ?_, fun n ob a e1 e2 => ?_, gg.envs s.ev, s.el⟩
                · rcases z with z | z
                  · by_cases ham : a ∈ (ioAt io vs).filterMap (ml[·]?)
                    · exact g.ln a ham
                    · cases eb : H a with
                      | none => exact absurd eb (s.tr a z)
                      | some ob => rw [g.fr a ob eb ham]; simp
                  · exact s'.tr a z
                · by_cases hn : n ∈ ioAt io vs
                  · obtain ⟨k, hk⟩ := List.getElem?_of_mem hn
                    obtain ⟨l, el, eh⟩ := (pb n).2 k hk
                    rw [eh] at e1
                    cases e1
                    obtain ⟨eh', nl⟩ := ok2 k l el
                    have em : ml'[k]? = some a := by
                      obtain ⟨new, e3, _⟩ := g.pre
                      have e4 := hat k n hk
                      rw [e2] at e4
                      rw [e3, List.getElem?_append_left (List.getElem?_eq_some_iff.mp e4).1]
                      exact e4
                    obtain ⟨ys, eH, q⟩ := s'.obj k _ a eh' em
                    exact ⟨ys, eH, back l ys nl (cond l (List.mem_of_getElem? el)) q⟩
                  · rw [(pb n).1 hn] at e1
                    have ham : a ∉ (ioAt io vs).filterMap (ml[·]?) := fun z => by
                      obtain ⟨m, hm, e⟩ := sub a z
                      have h1' := List.getElem?_eq_some_iff.mp e
                      have h2' := List.getElem?_eq_some_iff.mp e2
                      have : m = n := (List.getElem_inj s.nd).mp (h1'.2.trans h2'.2.symm)
                      exact hn (this ▸ hm)
                    have q := s.obj n ob a e1 e2
                    cases ob with
                    | list l =>
                      obtain ⟨ys, eH, q⟩ := q
                      exact ⟨ys, g.fr a _ eH ham, q.mono gg⟩
                    | dict _ _ => exact q.elim
              refine ⟨_, gg, s1, ?_⟩
              rcases rv with ⟨ow, a, l, ys, ev, rfl, en', ga, eH, q, nl⟩ | ⟨ow, q, nl⟩
              · refine .inl ⟨ow, a, l, ys, ev, rfl, en', .inr ga, fun z => s.tr a (s.mg a z) en', eH, back l ys nl ?_ q⟩
                rcases Bool.or_eq_true_iff.mp hcond with q | q
                · exact .inl (List.isEmpty_iff.mp q)
                · rw [Bool.and_eq_true] at q
                  have := q.1
                  unfold noLstOut at this
                  rw [ow, ev] at this
                  exact .inr this
              · refine .inr ⟨ow, ?_⟩
                rcases Bool.or_eq_true_iff.mp hcond with q2 | q2
                · have q2 := List.isEmpty_iff.mp q2
                  refine RV.less (fun b z => ?_) _ _ nl q
                  rcases z with z | z
                  · exact g.gm b ⟨z, fun n hn => by rw [q2] at hn; cases hn⟩
                  · exact z
                · rw [Bool.and_eq_true] at q2
                  have := q2.1
                  unfold noLstOut at this
                  rw [ow] at this
                  exact RV.any _ _ this q
        · exact absurd er.symm ok
    · exact absurd er.symm ok
end
end MPS

namespace MPS
open PySem PySem.Spec L2 MP
section
variable {c : C} {W : WX} {X : Cx} {e : Expr} {es : List Expr} {ga gk : MEnv → M (List Val)} {pos p : Pos}
/-- what is known of a def where it is called -/
structure Cal (c : C) (X : Cx) (cb : CB) (io : List Bool) (n : Nat) (x : Str) (k : Nat) (fd : FuncData) (ps : List Str) : Prop where
  F : FnOk X.prog X.w X.K X.mg X.base CX0 k (c.fa n) fd ps (SpM c io (cb n))
  hr : Room k X.A
  hm : X.mg x = some (.ref (c.fa n))
  hk : PySem.W.keepIn X.K (.ref (c.fa n)) = true
  hb : Binds X.K fd ps []
theorem SR.sealed {env : MEnv} {h : MHeap} {ml ml0 : List Addr} {G G0 : Addr → Prop} {σ : L2.St} {H H0 : Hp} {a : Addr} (s1 : SR c env h ml G σ H) (g : Grow ml0 G0 H0 ml G H) (hn : H0 a = none) (gp : ¬ G0 a) (hm : a ∉ ml) :
    Grow ml0 G0 H0 ml (fun b => G b ∧ b ≠ a) H ∧ SR c env h ml (fun b => G b ∧ b ≠ a) σ H := by
  refine ⟨⟨g.pre, fun b z => ⟨g.gm b z, fun z' => gp (z' ▸ z)⟩, fun b z => g.gn b z.1, g.fr, g.mg, g.ls, g.ln⟩, ⟨s1.len, s1.nd, fun b hb => ⟨s1.mg b hb, fun z => hm (z ▸ hb)⟩, fun b z => s1.tr b z.1, fun n o b e1 e2 => ?_, fun i v e1 => ?_, s1.el⟩⟩
  · have q := s1.obj n o b e1 e2
    cases o with
    | list l2 =>
      obtain ⟨zs, e3, r3⟩ := q
      exact ⟨zs, e3, RVs.lessG (fun b z => z.1) _ _ r3⟩
    | dict _ _ => exact q.elim
  · obtain ⟨x, e2, r⟩ := s1.ev i v e1
    exact ⟨x, e2, RV.lessG (fun b z => z.1) _ _ r⟩
theorem back_of {pos : Pos} {en : PySem.Env} : ∀ {es : List Expr}, es.all (fun e => !isStar e) = true → (backTo pos (starEach es en)).any (·.1) = false
  | [], _ => rfl
  | e :: es, h => by
    simp only [List.all_cons, Bool.and_eq_true, Bool.not_eq_true'] at h
    rw [star_of e es en h.1]
    show (false || (backTo pos (starEach es en)).any (·.1)) = false
    rw [back_of (es := es) (by simpa using h.2)]
    rfl
/-- the value of a call, whoever made it -/
theorem call_val {cb : CB} {n : Nat} {io : List Bool} {env : MEnv} {h : MHeap} {ml : List Addr} {G : Addr → Prop} {σ : L2.St} {H : Hp} {vs : List Val} {xs : List V} {Q : VK} {E : XK} (s : SR c env h ml G σ H) (rs : RVs c H ml G vs xs)
    (o : Ok c W env σ ((do let r ← doCall cb n io vs; pure r.1) h) ml G H fun v _ ml' G' H' => ∀ x, RV c H' ml' G' v x → Q x H') : SpM c io (cb n) xs H Q E := by
  have o2 := Ok.bind o
  refine call_ok s rs _ rfl (fun z => ?_) fun v own h2 x H' er cr => ?_
  · unfold Ok at o2
    rw [z] at o2
    exact o2
  · unfold Ok at o2
    rw [er] at o2
    obtain ⟨G2, g2, s2, alt⟩ := cr
    rcases alt with ⟨_, a, l, ys, rfl, rfl, hn, ga, hm, eH, rl⟩ | ⟨_, r⟩
    · obtain ⟨g3, s3⟩ := s2.sealed g2 hn (fun z => s.tr a z hn) hm
      exact o2 ml _ H' g3 s3 ml _ H' s3.refl s3 _ (.lst eH (fun z => z.2 rfl) (RVs.lessG (fun b z => z.1) _ _ rl))
    · exact o2 ml G2 H' g2 s2 ml G2 H' s2.refl s2 _ r
theorem call_new {cb : CB} {n : Nat} {io : List Bool} {env : MEnv} {h : MHeap} {ml : List Addr} {G : Addr → Prop} {σ : L2.St} {H : Hp} {vs : List Val} {xs : List V} {Q : VK} {E : XK} (s : SR c env h ml G σ H) (rs : RVs c H ml G vs xs)
    (o : OkF c W env σ ((do let r ← doCall cb n io vs; lift (ownL r)) h) ml G H Q) : SpM c io (cb n) xs H Q E := by
  rw [bind_app] at o
  refine call_ok s rs _ rfl (fun z => ?_) fun v own h2 x H' er cr => ?_
  · rw [z] at o
    exact o
  · rw [er] at o
    simp only [lift_app] at o
    obtain ⟨G2, g2, s2, alt⟩ := cr
    cases e : ownL (v, own) with
    | none => rw [e] at o; exact o.elim
    | some l =>
      rw [e] at o
      unfold ownL at e
      split at e
      · rename_i l2 e2
        cases e
        cases e2
        rcases alt with ⟨_, a, l, ys, e3, rfl, hn, ga, hm, eH, rl⟩ | ⟨z, _⟩
        · cases e3
          exact o ml G2 H' a ys g2 s2 hn ga hm eH rl
        · cases z
      · cases e
theorem sE_call {cb : CB} {io : List Bool} {n k : Nat} {x : Str} {fd : FuncData} {ps : List Str} (K : Cal c X cb io n x k fd ps) (hg : Gl X x) (ha : PA X (e :: es) (tA c W ga)) (hs : (e :: es).all (fun e => !isStar e) = true) (hdb : (x == ("__debug__" : Str)) = false) :
    PE X (.Call (.Name x p) (e :: es) [] pos) (tE c W fun env => do let vs ← ga env; let r ← doCall cb n io vs; pure r.1) := by
  have h1 : isStar e = false := by simp only [List.all_cons, Bool.and_eq_true, Bool.not_eq_true'] at hs; exact hs.1
  have h2 : es.all (fun e => !isStar e) = true := by simp only [List.all_cons, Bool.and_eq_true] at hs; exact hs.2
  refine (pe_call K.F K.hr hg K.hm K.hk K.hb .nil pass0 ha hdb (star_of _ _ _ h1) (back_of h2)).imp fun σ H Q q => ?_
  obtain ⟨env, h, ml, G, s, o⟩ := q
  refine ⟨env, h, ml, G, s, (Ok.bind o).imp fun vs h1 ml1 G1 H1 g1 s1 o1 xs rs => ?_⟩
  show SpM c io (cb n) (xs ++ []) H1 Q _
  rw [List.append_nil]
  exact call_val s1 rs o1
theorem sF_call {cb : CB} {io : List Bool} {n k : Nat} {x : Str} {fd : FuncData} {ps : List Str} (K : Cal c X cb io n x k fd ps) (hg : Gl X x) (ha : PA X (e :: es) (tA c W ga)) (hs : (e :: es).all (fun e => !isStar e) = true) (hdb : (x == ("__debug__" : Str)) = false) :
    PE X (.Call (.Name x p) (e :: es) [] pos) (tF c W fun env => do let vs ← ga env; let r ← doCall cb n io vs; lift (ownL r)) := by
  have h1 : isStar e = false := by simp only [List.all_cons, Bool.and_eq_true, Bool.not_eq_true'] at hs; exact hs.1
  have h2 : es.all (fun e => !isStar e) = true := by simp only [List.all_cons, Bool.and_eq_true] at hs; exact hs.2
  refine (pe_call K.F K.hr hg K.hm K.hk K.hb .nil pass0 ha hdb (star_of _ _ _ h1) (back_of h2)).imp fun σ H Q q => ?_
  obtain ⟨env, h, ml, G, s, o⟩ := q
  refine ⟨env, h, ml, G, s, (okF_exc o).imp fun vs h1 ml1 G1 H1 g1 s1 o1 xs rs => ?_⟩
  show SpM c io (cb n) (xs ++ []) H1 Q _
  rw [List.append_nil]
  exact call_new s1 rs o1
theorem sE_call0 {cb : CB} {io : List Bool} {n k : Nat} {x : Str} {fd : FuncData} {ps : List Str} (K : Cal c X cb io n x k fd ps) (hg : Gl X x) (hdb : (x == ("__debug__" : Str)) = false) :
    PE X (.Call (.Name x p) [] [] pos) (tE c W fun env => do let vs ← pure []; let r ← doCall cb n io vs; pure r.1) := by
  refine (pe_call0 K.F K.hr hg K.hm K.hk K.hb .nil pass0 hdb).imp fun σ H Q q => ?_
  obtain ⟨env, h, ml, G, s, o⟩ := q
  exact call_val (E := E0) s .nil (Ok.pure (Ok.bind o) s)
theorem sF_call0 {cb : CB} {io : List Bool} {n k : Nat} {x : Str} {fd : FuncData} {ps : List Str} (K : Cal c X cb io n x k fd ps) (hg : Gl X x) (hdb : (x == ("__debug__" : Str)) = false) :
    PE X (.Call (.Name x p) [] [] pos) (tF c W fun env => do let vs ← pure []; let r ← doCall cb n io vs; lift (ownL r)) := by
  refine (pe_call0 K.F K.hr hg K.hm K.hk K.hb .nil pass0 hdb).imp fun σ H Q q => ?_
  obtain ⟨env, h, ml, G, s, o⟩ := q
  exact call_new (E := E0) s .nil (Ok.pure (okF_exc o) s)

/-- values put in another order -/
def arrG {α : Type} (ar : List Nat) (l : List α) : List α := ar.filterMap (l[·]?)
theorem vals_at : ∀ {vs : List V} {us : List Value}, Vals vs us → ∀ i : Nat, (vs[i]? = none ∧ us[i]? = none) ∨ ∃ v u, vs[i]? = some v ∧ us[i]? = some u ∧ RelV v u
  | _, _, .nil, i => .inl ⟨rfl, rfl⟩
  | _, _, .cons r t, 0 => .inr ⟨_, _, rfl, rfl, r⟩
  | _, _, .cons r t, i + 1 => by simpa using vals_at t i
theorem arrG_vals {vs : List V} {us : List Value} (h : Vals vs us) : ∀ ar : List Nat, Vals (arrG ar vs) (arrG ar us)
  | [] => .nil
  | i :: ar => by
    unfold arrG
    rcases vals_at h i with ⟨h1, h2⟩ | ⟨v, u, h1, h2, r⟩
    · rw [List.filterMap_cons_none h1, List.filterMap_cons_none h2]; exact arrG_vals h ar
    · rw [List.filterMap_cons_some h1, List.filterMap_cons_some h2]; exact .cons r (arrG_vals h ar)
theorem arrG_rvs {H : Hp} {ml : List Addr} {G : Addr → Prop} {vs : List Val} {xs : List V} (h : RVs c H ml G vs xs) : ∀ {ar : List Nat} {ws : List Val}, arrange vs ar = some ws → RVs c H ml G ws (arrG ar xs)
  | [], ws, e => by
    simp only [arrange, Option.some.injEq] at e
    subst e
    exact .nil
  | i :: ar, ws, e => by
    simp only [arrange] at e
    obtain ⟨v, ev, e⟩ := Option.bind_eq_some_iff.mp e
    obtain ⟨w1, e1, rfl⟩ := Option.map_eq_some_iff.mp e
    obtain ⟨x, ex, rx⟩ := h.get ev
    unfold arrG
    rw [List.filterMap_cons_some ex]
    exact .cons rx (arrG_rvs h e1)
/-- how keywords bind: ar the places among the positional values and the keywords' -/
structure CalK (c : C) (X : Cx) (cb : CB) (io : List Bool) (f : Nat) (x : Str) (k : Nat) (fd : FuncData) (ps : List Str) (n : Nat) (ks : List Str) (ar : List Nat) : Prop where
  F : FnOk X.prog X.w X.K X.mg X.base CX0 k (c.fa f) fd ps (SpM c io (cb f))
  hr : Room k X.A
  hm : X.mg x = some (.ref (c.fa f))
  hk : PySem.W.keepIn X.K (.ref (c.fa f)) = true
  hb : KBn X.K fd ps n ks (fun us ws => arrG ar (us ++ ws)) (fun vs zs => arrG ar (vs ++ zs))
theorem kbn_of {K : PySem.W.Frag} {fd : FuncData} {ps ks : List Str} {n : Nat} {ar : List Nat} (h : ∀ (us ws : List Value), us.length = n → ws.length = ks.length → bindArgs fd ⟨us, ks.zip ws⟩ = pure (ps.zip (arrG ar (us ++ ws)))) :
    KBn K fd ps n ks (fun us ws => arrG ar (us ++ ws)) (fun vs zs => arrG ar (vs ++ zs)) :=
  ⟨fun s us ws _ h1 h2 => .of_eq (h us ws h1 h2), fun r1 r2 => arrG_vals (r1.append r2) ar⟩
/-- the keywords' values, as MP reads them -/
theorem sK_nil : PK X [] (tA c W fun _ => pure []) := ⟨fun pos pins s σ H Q I q => pk_nil.run pos pins s σ H Q I (by
  obtain ⟨env, h, ml, G, s, o⟩ := q
  exact o.pure s _ .nil)⟩
theorem sK_cons {fa : MEnv → M Val} {kws : List Keyword} {nm : Option Str} {kpos : Pos} (ha : PE X e (tE c W fa)) (hr : PK X kws (tA c W ga)) : PK X (⟨nm, e, kpos⟩ :: kws) (tA c W fun env => do let x ← fa env; let xs ← ga env; pure (x :: xs)) :=
  ⟨fun pos pins s σ H Q I q => (pk_cons ha hr).run pos pins s σ H Q I (by
    obtain ⟨env, h, ml, G, s, o⟩ := q
    refine ⟨env, h, ml, G, s, (Ok.bind o).imp fun v h1 ml1 G1 H1 g1 s1 o1 x r => ⟨env, h1, ml1, G1, s1, (Ok.bind o1).imp fun vs h2 ml2 G2 H2 g2 s2 o2 xs rs => o2.pure s2 _ (.cons (r.mono g2) rs)⟩⟩)⟩
/-- f(k = v, ..) -/
theorem pe_callN0 {CX : CXT} {k : Nat} {f : Addr} {fd : FuncData} {ps ks : List Str} {sp : Sp} {E : XK} {x : Str} {kws : List Keyword} {tk : TA} {g : List Value → List Value → List Value} {gV : List V → List V → List V}
    (F : FnOk X.prog X.w X.K X.mg X.base CX k f fd ps sp) (hr : Room k X.A) (hg : Gl X x) (hm : X.mg x = some (.ref f)) (hk : PySem.W.keepIn X.K (.ref f) = true) (hb : KBn X.K fd ps 0 ks g gV) (hx : Passes CX X E)
    (hkw : PK X kws tk) (hall : (backToKw pos (keywordEach kws X.env)).all (·.1.isSome) = true) (hks : (backToKw pos (keywordEach kws X.env)).filterMap (·.1) = ks)
    (hdb : (x == ("__debug__" : Str)) = false) (hpl : ((backTo pos (starEach [] X.env)).any (·.1) || (backToKw pos (keywordEach kws X.env)).any (·.1.isNone)) = false) :
    PE X (.Call (.Name x p) [] kws pos) (fun σ H Q => tk σ H fun zs H2 => zs.length = ks.length ∧ sp (gV [] zs) H2 Q E) := by
  refine ⟨fun pins s σ H Q I0 q0 => wpAny_Call_Name_kw (ld_glob I0 hg hm ?_ hdb)⟩
  refine PySem.W.callWith_KW0 (h₀ := X.base) I0.ok.mod.kin hk hall (thn (hkw.run pos pins s σ H _ I0 q0) fun ws s2 z => ?_) hpl
  obtain ⟨zs, H2, I2, rz, l2, q2⟩ := z
  refine ⟨I2.kIn, ?_⟩
  rw [hks]
  exact run_fnN (us := []) (vs := []) F hr hb hx I2 .nil rz rfl l2 q2
theorem sE_callk0 {cb : CB} {io : List Bool} {f k m : Nat} {x : Str} {fd : FuncData} {ps ks : List Str} {ar : List Nat} {kws : List Keyword} (K : CalK c X cb io f x k fd ps 0 ks ar) (hg : Gl X x) (hkw : PK X kws (tA c W gk)) (hm : ks.length = m)
    (hall : (backToKw pos (keywordEach kws X.env)).all (·.1.isSome) = true) (hks : (backToKw pos (keywordEach kws X.env)).filterMap (·.1) = ks)
    (hdb : (x == ("__debug__" : Str)) = false) (hpl : ((backTo pos (starEach [] X.env)).any (·.1) || (backToKw pos (keywordEach kws X.env)).any (·.1.isNone)) = false) :
    PE X (.Call (.Name x p) [] kws pos) (tE c W fun env => do
      let vs ← pure []
      let ws ← gk env
      let xs ← lift (argsK 0 m ar vs ws)
      let r ← doCall cb f io xs
      pure r.1) := by
  refine (pe_callN0 K.F K.hr hg K.hm K.hk K.hb pass0 hkw hall hks hdb hpl).imp fun σ H Q q => ?_
  obtain ⟨env, h, ml, G, s, o⟩ := q
  have o := Ok.pure (Ok.bind o) s
  refine ⟨env, h, ml, G, s, (Ok.bind o).imp fun ws h1 ml1 G1 H1 g1 s1 o1 zs rz => ?_⟩
  obtain ⟨xs, e, o2⟩ := Ok.liftB o1 s1
  unfold argsK at e
  split at e
  · rename_i hl
    exact ⟨by rw [rz.length, hl.2, hm], call_val (E := E0) s1 (arrG_rvs (by simpa using rz) e) o2⟩
  · cases e
theorem sE_callk {cb : CB} {io : List Bool} {f k n m : Nat} {x : Str} {fd : FuncData} {ps ks : List Str} {ar : List Nat} {kws : List Keyword} (K : CalK c X cb io f x k fd ps n ks ar) (hg : Gl X x) (ha : PA X (e :: es) (tA c W ga)) (hs : (e :: es).all (fun e => !isStar e) = true)
    (hkw : PK X kws (tA c W gk)) (hm : ks.length = m)
    (hall : (backToKw pos (keywordEach kws X.env)).all (·.1.isSome) = true) (hks : (backToKw pos (keywordEach kws X.env)).filterMap (·.1) = ks)
    (hdb : (x == ("__debug__" : Str)) = false) (hpl : (backToKw pos (keywordEach kws X.env)).any (·.1.isNone) = false) :
    PE X (.Call (.Name x p) (e :: es) kws pos) (tE c W fun env => do
      let vs ← ga env
      let ws ← gk env
      let xs ← lift (argsK n m ar vs ws)
      let r ← doCall cb f io xs
      pure r.1) := by
  have h1 : isStar e = false := by simp only [List.all_cons, Bool.and_eq_true, Bool.not_eq_true'] at hs; exact hs.1
  refine (pe_callN K.F K.hr hg K.hm K.hk K.hb pass0 ha hkw hall hks hdb (star_of _ _ _ h1) (by rw [back_of hs, hpl]; rfl)).imp fun σ H Q q => ?_
  obtain ⟨env, h, ml, G, s, o⟩ := q
  refine ⟨env, h, ml, G, s, (Ok.bind o).imp fun vs h1 ml1 G1 H1 g1 s1 o1 xs rs => ⟨env, h1, ml1, G1, s1, (Ok.bind o1).imp fun ws h2 ml2 G2 H2 g2 s2 o2 zs rz => ?_⟩⟩
  obtain ⟨ys, e, o3⟩ := Ok.liftB o2 s2
  unfold argsK at e
  split at e
  · rename_i hl
    exact ⟨by rw [rs.length, hl.1], by rw [rz.length, hl.2, hm], call_val (E := E0) s2 (arrG_rvs ((rs.mono g2).append rz) e) o3⟩
  · cases e
end
end MPS

namespace MPS
open PySem PySem.Spec L2 MP

/-- what a module's name stands for -/
inductive GK where
  | fn (n : Nat) | cst (v : Val) | blt
  deriving DecidableEq
/-- what is known where a text stands -/
structure Inf where
  N : List Str
  sc : Scope
  raw : List (Str × NameKind)
  gl : List (Str × GK)
  io : List (List Bool)
  kc : List (Nat × Nat × List Str × List Nat)
def isGlob (I : Inf) (x : Str) : Bool := decide (I.sc.names.lookup x = some .globalImplicit) && !(x == ("__debug__" : Str))
def isBlt (I : Inf) (x : Str) : Bool := isGlob I x && decide (I.gl.lookup x = some .blt)
def isVis (I : Inf) (x : Str) : Bool := match I.sc.names.lookup x with
  | some .local => true
  | some .cell => true
  | some .free => true
  | _ => false
def isLoc (I : Inf) (x : Str) : Bool := match I.sc.names.lookup x with
  | some .local => true
  | some .cell => decide (I.raw.lookup x = some .cell)
  | _ => false
def isAnil : IE → Bool
  | .anil => true
  | _ => false
def isSet : Expr → Bool
  | .Set _ _ _ => true
  | _ => false
def isTup : Expr → Bool
  | .Tuple _ _ _ => true
  | _ => false
def isComp : Expr → Bool
  | .ListComp _ _ _ _ => true
  | .SetComp _ _ _ _ => true
  | .DictComp _ _ _ _ _ => true
  | _ => false
def kwNames : List Keyword → Option (List Str)
  | [] => some []
  | ⟨some x, _, _⟩ :: r => (kwNames r).map (x :: ·)
  | ⟨none, _, _⟩ :: _ => none
def blkI (I : Inf) (scope : Scope) : Inf := { I with sc := relS scope I.sc, raw := scope.names }
def ownP (I : Inf) (own : List Nat) : List (Str × Nat) := own.map fun i => (I.N.getD i "", i)
def tyNames : List String := ["int", "bool", "tuple", "str", "list", "dict"]
mutual
def mTg (I : Inf) : Tg → Expr → Bool
  | .n i, .Name x _ => decide (I.N[i]? = some x) && isLoc I x
  | .t l, .Tuple es _ _ => mTgs I l es && decide (es.length = tgN l) && es.all fun e => !isStar e
  | _, _ => false
def mTgs (I : Inf) : Tg → List Expr → Bool
  | .nil, [] => true
  | .cons a r, e :: es => mTg I a e && mTgs I r es && !isStar e
  | _, _ => false
end
mutual
def mE (I : Inf) : IE → Expr → Bool
  | .k v, e => match e with
    | .Constant .none _ _ => decide (v = .non)
    | .Constant (.bool z) _ _ => decide (v = .bl z)
    | .Constant (.int z) _ _ => decide (v = .int z)
    | .Constant (.str z) _ _ => decide (v = .str z)
    | .Name x _ => isGlob I x && decide (I.gl.lookup x = some (.cst v))
    | _ => false
  | .d0, e => match e with
    | .Dict [] [] _ => true
    | _ => false
  | .var i, e => match e with
    | .Name x _ => decide (I.N[i]? = some x) && isVis I x && !(x == ("__debug__" : Str)) && !(x == ("__classdict__" : Str))
    | _ => false
  | .bin o a b, e => match e with
    | .BinOp x p y _ => decide (p = opB o) && mE I a x && mE I b y
    | _ => false
  | .neg a, e => match e with
    | .UnaryOp .USub x _ => mE I a x
    | _ => false
  | .cmp o a b, e => match e with
    | .Compare x [p] [y] _ => decide (p = opC o) && !behindInMarks p y && mE I a x && mE I b y
    | _ => false
  | .cmp2 o o2 a b d, e => match e with
    | .Compare x [p, p2] [y, z] _ => decide (p = opC o) && decide (p2 = opC o2) && !lastMarks [p, p2] [y, z] && mE I a x && mE I b y && mE I d z
    | _ => false
  | .and a b, e => match e with
    | .BoolOp .And [x, y] _ => mE I a x && mE I b y
    | .BoolOp .And (x :: y :: z :: r) pos => mE I a x && mE I b (.BoolOp .And (y :: z :: r) pos)
    | _ => false
  | .or a b, e => match e with
    | .BoolOp .Or [x, y] _ => mE I a x && mE I b y
    | .BoolOp .Or (x :: y :: z :: r) pos => mE I a x && mE I b (.BoolOp .Or (y :: z :: r) pos)
    | _ => false
  | .not a, e => match e with
    | .UnaryOp .Not x _ => mE I a x
    | _ => false
  | .ite d a b, e => match e with
    | .IfExp t x y _ => mT I d t && mE I a x && mE I b y
    | _ => false
  | .tup es, e => match e with
    | .Tuple xs _ _ => mA I es xs
    | _ => false
  | .idx a i, e => match e with
    | .Subscript x y _ => !isSlice y && mE I a x && mE I i y
    | _ => false
  | .slc a lo hi, e => match e with
    | .Subscript x (.Slice l h none _) _ => mE I a x && mO I lo l && mO I hi h
    | _ => false
  | .call f io es, e => match e with
    | .Call (.Name x _) args [] _ => isGlob I x && decide (I.gl.lookup x = some (.fn f)) && decide (I.io[f]? = some io) && (args.all fun e => !isStar e) && mA I es args
    | _ => false
  | .callk f io n m es ks ar, e => match e with
    | .Call (.Name x _) args kws _ => isGlob I x && decide (I.gl.lookup x = some (.fn f)) && decide (I.io[f]? = some io) && (args.all fun e => !isStar e) && (match kwNames kws with
        | some names => decide (names.length = m) && decide ((f, n, names, ar) ∈ I.kc)
        | none => false) && (!args.isEmpty || decide (n = 0)) && mA I es args && mK I ks kws
    | _ => false
  | .b1 b a, e => match e with
    | .Call (.Name x _) [y] [] _ => decide (x = b1N b) && isBlt I x && !isStar y && mE I a y
    | _ => false
  | .b2 b a d, e => match e with
    | .Call (.Name x _) [y, z] [] _ => decide (x = b2N b) && isBlt I x && !isStar y && !isStar z && mE I a y && mE I d z
    | _ => false
  | .isi a t, e => match e with
    | .Call (.Name x _) [y, .Name z _] [] _ => decide (x = ("isinstance" : Str)) && isBlt I x && decide (z = Str.ofString t) && isBlt I z && tyNames.contains t && !isStar y && mE I a y
    | _ => false
  | .pop o, e => match e with
    | .Call (.Attribute x nm ap) [] [] cp => decide (nm = ("pop" : Str)) && isNm x && (ap.endLine == cp.line) && mE I o x
    | _ => false
  | .inl f, e => mF I f e
  | .mk f, e => mF I f e
  | _, _ => false
def mT (I : Inf) : IE → Expr → Bool
  | .and a b, e => match e with
    | .BoolOp .And [x, y] _ => mT I a x && mT I b y
    | .BoolOp .And (x :: y :: z :: r) pos => mT I a x && mW I b (.BoolOp .And (y :: z :: r) pos)
    | _ => false
  | .or a b, e => match e with
    | .BoolOp .Or [x, y] _ => mT I a x && mT I b y
    | .BoolOp .Or (x :: y :: z :: r) pos => mT I a x && mW I b (.BoolOp .Or (y :: z :: r) pos)
    | _ => false
  | .not a, e => match e with
    | .UnaryOp .Not x _ => mT I a x
    | _ => false
  | .cmp o a b, e => match e with
    | .Compare x [p] [y] _ => decide (p = opC o) && !behindInMarks p y && mE I a x && mE I b y
    | _ => false
  | .cmp2 o o2 a b d, e => match e with
    | .Compare x [p, p2] [y, z] _ => decide (p = opC o) && decide (p2 = opC o2) && !lastMarks [p, p2] [y, z] && mE I a x && mE I b y && mE I d z
    | _ => false
  | .tr a, e => plainTest e && mE I a e
  | _, _ => false
def mW (I : Inf) : IE → Expr → Bool
  | .and a b, e => match e with
    | .BoolOp .And [x, y] _ => mT I a x && mT I b y
    | .BoolOp .And (x :: y :: z :: r) pos => mT I a x && mW I b (.BoolOp .And (y :: z :: r) pos)
    | _ => false
  | .or a b, e => match e with
    | .BoolOp .Or [x, y] _ => mT I a x && mT I b y
    | .BoolOp .Or (x :: y :: z :: r) pos => mT I a x && mW I b (.BoolOp .Or (y :: z :: r) pos)
    | _ => false
  | _, _ => false
def mA (I : Inf) : IE → List Expr → Bool
  | .anil, [] => true
  | .acons a r, e :: es => mE I a e && mA I r es && !isStar e
  | _, _ => false
def mK (I : Inf) : IE → List Keyword → Bool
  | .anil, [] => true
  | .acons a r, ⟨_, e, _⟩ :: es => mE I a e && mK I r es
  | _, _ => false
def mO (I : Inf) : IE → Option Expr → Bool
  | .no, none => true
  | .part a, some e => mE I a e
  | _, _ => false
def mF (I : Inf) : IE → Expr → Bool
  | .fdisp es, e => match e with
    | .List xs _ => mA I es xs
    | _ => false
  | .fcat a b, e => match e with
    | .BinOp x .Add y _ => mE I a x && mE I b y
    | _ => false
  | .frep a b, e => match e with
    | .BinOp x .Mult y _ => mE I a x && mE I b y
    | _ => false
  | .fslc a lo hi, e => match e with
    | .Subscript x (.Slice l h none _) _ => mE I a x && mO I lo l && mO I hi h
    | _ => false
  | .flist a, e => match e with
    | .Call (.Name x _) [y] [] _ => decide (x = ("list" : Str)) && isBlt I x && !isStar y && mE I a y
    | _ => false
  | .call f io es, e => match e with
    | .Call (.Name x _) args [] _ => isGlob I x && decide (I.gl.lookup x = some (.fn f)) && decide (I.io[f]? = some io) && (args.all fun e => !isStar e) && mA I es args
    | _ => false
  | .fcomp own tg it cs x, e => match e with
    | .ListComp elt [⟨t, iter, ifs, 0⟩] scope _ => blkC I.N I.sc scope (ownP I own) && ((tgs tg).all fun i => own.contains i) && !isSet iter && mTg (blkI I scope) tg t && mI I it t iter && mC (blkI I scope) cs ifs && mE (blkI I scope) x elt
    | _ => false
  | _, _ => false
def mC (I : Inf) : IE → List Expr → Bool
  | .anil, [] => true
  | .acons a _, [e] => mT I a e
  | _, _ => false
def mI (I : Inf) : IE → Expr → Expr → Bool
  | .rng1 a, _, e => match e with
    | .Call (.Name x _) [y] [] _ => decide (x = ("range" : Str)) && isBlt I x && !isStar y && mE I a y
    | _ => false
  | .rng2 a b, _, e => match e with
    | .Call (.Name x _) [y, z] [] _ => decide (x = ("range" : Str)) && isBlt I x && !isStar y && !isStar z && mE I a y && mE I b z
    | _ => false
  | .rng3 a b d, _, e => match e with
    | .Call (.Name x _) [y, z, w] [] _ => decide (x = ("range" : Str)) && isBlt I x && !isStar y && !isStar z && !isStar w && mE I a y && mE I b z && mE I d w
    | _ => false
  | .enum a, t, e => match e with
    | .Call (.Name x _) [y] [] _ => decide (x = ("enumerate" : Str)) && isBlt I x && isTup t && !isStar y && mE I a y
    | _ => false
  | .zip a b, t, e => match e with
    | .Call (.Name x _) [y, z] [] _ => decide (x = ("zip" : Str)) && isBlt I x && isTup t && !isStar y && !isStar z && mE I a y && mE I b z
    | _ => false
  | .seq a, _, e => mE I a e
  | _, _, _ => false
end

/-- the place of a text -/
structure At (c : C) (X : Cx) (I : Inf) (cb : CB) : Prop where
  good : Good c X
  N : X.N = I.N
  sc : X.env.scope = I.sc
  fk : I.sc.kind = .function
  fn : ∀ x, I.raw.lookup x = some .cell → X.fn x = true
  xe : X.xe = fun _ _ => False
  gf : ∀ x n io, I.gl.lookup x = some (.fn n) → I.io[n]? = some io → ∃ k fd ps, Cal c X cb io n x k fd ps
  gc : ∀ x v, I.gl.lookup x = some (.cst v) → ∃ y u, X.mg x = some u ∧ RelV y u ∧ ∀ H ml G, RV c H ml G v y
  gb : ∀ x, I.gl.lookup x = some .blt → X.mg x = none
  kc : ∀ x f n ks ar io, I.gl.lookup x = some (.fn f) → (f, n, ks, ar) ∈ I.kc → I.io[f]? = some io → ∃ k fd ps, CalK c X cb io f x k fd ps n ks ar
section
variable {c : C} {X : Cx} {I : Inf} {cb : CB}
theorem At.glob (A : At c X I cb) {x : Str} (h : isGlob I x = true) : Gl X x ∧ (x == ("__debug__" : Str)) = false := by
  simp only [isGlob, Bool.and_eq_true, decide_eq_true_eq, Bool.not_eq_true'] at h
  refine ⟨?_, h.2⟩
  show X.env.scope.names.lookup x = _
  rw [A.sc]; exact h.1
theorem At.bltn (A : At c X I cb) {x : Str} (h : isBlt I x = true) : Gl X x ∧ X.mg x = none ∧ (x == ("__debug__" : Str)) = false := by
  simp only [isBlt, Bool.and_eq_true, decide_eq_true_eq] at h
  exact ⟨(A.glob h.1).1, A.gb x h.2, (A.glob h.1).2⟩
theorem At.vis (A : At c X I cb) {x : Str} (h : isVis I x = true) : Vis X.env.scope x := by
  unfold Vis
  rw [A.sc]
  unfold isVis at h
  split at h
  · exact .inl (by assumption)
  · exact .inr (.inl (by assumption))
  · exact .inr (.inr (by assumption))
  · cases h
theorem At.loc (A : At c X I cb) {x : Str} (h : isLoc I x = true) : Loc X.env.scope x ∧ (X.fn x = true ∨ X.env.scope.names.lookup x = some .local) := by
  unfold L2.Loc
  rw [A.sc]
  unfold isLoc at h
  split at h
  · rename_i e; exact ⟨.inl e, .inr e⟩
  · rename_i e; exact ⟨.inr e, .inl (A.fn x (of_decide_eq_true h))⟩
  · cases h
theorem At.slot (A : At c X I cb) {x : Str} {i : Nat} (h : I.N[i]? = some x) : X.N[i]? = some x := by rw [A.N]; exact h
theorem At.blk (A : At c X I cb) (s : Shared) (H : Hp) (scope : Scope) (C : Addr) (cl : List (Str × Addr)) (fp : List Addr) (hk : scope.kind = .function) : At c (X.blk s H scope (compEnvC scope cl C X.env) fp) (blkI I scope) cb := by
  refine ⟨⟨A.good.K, A.good.calm, A.good.un, A.good.nd⟩, A.N, ?_, hk, fun x e => ?_, rfl, fun x n io e1 e2 => ?_, A.gc, A.gb, fun x f n ks ar io e1 e2 e3 => ?_⟩
  · show relabel scope X.env = relS scope I.sc
    rw [← A.sc]; rfl
  · show (scope.names.lookup x == some .cell) = true
    have e : scope.names.lookup x = some .cell := e
    rw [e]; rfl
  · obtain ⟨k, fd, ps, q⟩ := A.gf x n io e1 e2
    exact ⟨k, fd, ps, ⟨q.F, q.hr, q.hm, q.hk, q.hb⟩⟩
  · obtain ⟨k, fd, ps, q⟩ := A.kc x f n ks ar io e1 e2 e3
    exact ⟨k, fd, ps, ⟨q.F, q.hr, q.hm, q.hk, q.hb⟩⟩
theorem mTg_ok (A : At c X I cb) : ∀ tg : Tg, (∀ e, mTg I tg e = true → PG X e (tgR c tg)) ∧ (∀ es, mTgs I tg es = true → PGs X es (tgsR c tg))
  | .n i => by
    refine ⟨fun e h => ?_, fun es h => by simp [mTgs] at h⟩
    cases e <;> simp only [mTg, Bool.and_eq_true, decide_eq_true_eq] at h
    all_goals first | (cases h; done) | skip
    obtain ⟨h1, h2⟩ := A.loc h.2
    exact sG_n A.good (A.slot h.1) h1 h2
  | .t l => by
    refine ⟨fun e h => ?_, fun es h => by simp [mTgs] at h⟩
    cases e <;> simp only [mTg, Bool.and_eq_true, decide_eq_true_eq] at h
    all_goals first | (cases h; done) | skip
    exact sG_t A.good ((mTg_ok A l).2 _ h.1.1) h.1.2 h.2
  | .nil => by
    refine ⟨fun e h => by simp [mTg] at h, fun es h => ?_⟩
    cases es with
    | nil => exact sGs_nil
    | cons _ _ => simp [mTgs] at h
  | .cons a r => by
    refine ⟨fun e h => by simp [mTg] at h, fun es h => ?_⟩
    cases es with
    | nil => simp [mTgs] at h
    | cons e es =>
      simp only [mTgs, Bool.and_eq_true, Bool.not_eq_true'] at h
      exact sGs_cons ((mTg_ok A a).1 e h.1.1) ((mTg_ok A r).2 es h.1.2) h.2
theorem folded {e : Expr} {en : PySem.Env} (h : isSet e = false) : ∀ x, foldedSetIterable e en x = pure x := by
  intro x
  cases e <;> first | rfl | (simp [isSet] at h)
theorem kw_all {kws : List Keyword} {pos : Pos} {en : PySem.Env} : ∀ {names : List Str}, kwNames kws = some names →
    (backToKw pos (keywordEach kws en)).all (·.1.isSome) = true ∧ (backToKw pos (keywordEach kws en)).filterMap (·.1) = names ∧ (backToKw pos (keywordEach kws en)).any (·.1.isNone) = false := by
  induction kws with
  | nil => intro names h; cases h; exact ⟨rfl, rfl, rfl⟩
  | cons k r ih =>
    intro names h
    obtain ⟨nm, e, kp⟩ := k
    cases nm with
    | none => simp [kwNames] at h
    | some x =>
      simp only [kwNames] at h
      obtain ⟨n2, h2, rfl⟩ := Option.map_eq_some_iff.mp h
      obtain ⟨i1, i2, i3⟩ := ih h2
      have e1 : backToKw pos (keywordEach (⟨some x, e, kp⟩ :: r) en) = (some x, do let v ← eval e en; standAt pos; pure v) :: backToKw pos (keywordEach r en) := rfl
      rw [e1]
      exact ⟨by simp [i1], by simp [i2], by simp [i3]⟩
theorem boot_ty {t : String} (h : tyNames.contains t = true) : bootBuiltins (Str.ofString t) = some (.type t) ∧ Str.ofString t ≠ ("__name__" : Str) := by
  simp only [tyNames, List.contains_cons, List.contains_nil, Bool.or_false, Bool.or_eq_true, beq_iff_eq] at h
  rcases h with rfl | rfl | rfl | rfl | rfl | rfl <;> exact ⟨rfl, by decide⟩
theorem sF_list {a : Expr} {fa : MEnv → M Val} {p1 pos : Pos} (hX : Good c X) (hg : Gl X "list") (hm : X.mg "list" = none) (ha : PE X a (tE c WF fa)) (hs : isStar a = false) : PE X (.Call (.Name "list" p1) [a] [] pos) (tF c WF fun env => do let x ← fa env; liftH fun h => seqV h x) := by
  refine (pe_callTy call_list_of hg hm rfl (sA_one ha hs) (by decide) (by decide) (star_of _ _ _ hs) rfl).imp fun σ H Q q => ?_
  obtain ⟨env, h, ml, G, s, o⟩ := q
  refine ⟨env, h, ml, G, s, (okF_exc o).imp fun v h1 ml1 G1 H1 g1 s1 o1 x r1 => ?_⟩
  obtain ⟨l, e, o2⟩ := OkF.liftH o1
  obtain ⟨p, xs, rfl, q, rs⟩ := seq_at s1 r1 e
  rw [← hX.K] at q
  exact ⟨p, xs, rfl, q, fun p' hp => okF_laid s1 o2 rs hp⟩
theorem sC_nil : PTs X [] (tT c WF fun _ => pure true) := ⟨fun pins s σ H Q I q => pts_nil.run pins s σ H Q I (by
  obtain ⟨env, h, ml, G, s, o⟩ := q
  exact o.pure s)⟩
end
end MPS

namespace MPS
open PySem PySem.Spec L2 MP
theorem boot_of {x y : Str} (h : x = y) : x = y := h
section
variable {c : C} {T : List Val} {cb : CB}
mutual
theorem eE : ∀ (ie : IE) {X : Cx} {I : Inf} (A : At c X I cb) (e : Expr), mE I ie e = true → PE X e (tE c WF fun env => evalE T cb env ie)
  | .k v, X, I, A, e, h => by
    simp only [mE] at h
    split at h
    · rw [of_decide_eq_true h]; exact sE_non
    · rw [of_decide_eq_true h]; exact sE_bl
    · rw [of_decide_eq_true h]; exact sE_int
    · rw [of_decide_eq_true h]; exact sE_str
    · simp only [Bool.and_eq_true, Bool.or_eq_true, decide_eq_true_eq, Bool.not_eq_true'] at h
      obtain ⟨k1, k2⟩ := A.glob h.1
      obtain ⟨y, u, h1, h2, h3⟩ := A.gc _ _ h.2
      exact sE_glob k1 h1 h2 h3 k2
    · cases h
  | .d0, X, I, A, e, h => by
    simp only [mE] at h
    split at h
    · exact sE_d0
    · cases h
  | .var i, X, I, A, e, h => by
    simp only [mE] at h
    split at h
    · simp only [Bool.and_eq_true, Bool.or_eq_true, decide_eq_true_eq, Bool.not_eq_true'] at h
      exact sE_var (A.slot h.1.1.1) (A.vis h.1.1.2) h.1.2 h.2
    · cases h
  | .bin o a b, X, I, A, e, h => by
    simp only [mE] at h
    split at h
    · simp only [Bool.and_eq_true, Bool.or_eq_true, decide_eq_true_eq, Bool.not_eq_true'] at h
      rw [h.1.1]
      exact sE_bin A.good (eE a A _ h.1.2) (eE b A _ h.2)
    · cases h
  | .neg a, X, I, A, e, h => by
    simp only [mE] at h
    split at h
    · exact sE_neg (eE a A _ h)
    · cases h
  | .cmp o a b, X, I, A, e, h => by
    simp only [mE] at h
    split at h
    · simp only [Bool.and_eq_true, Bool.or_eq_true, decide_eq_true_eq, Bool.not_eq_true'] at h
      have e1 := h.1.1.1
      subst e1
      exact sE_cmp A.good (eE a A _ h.1.2) (eE b A _ h.2) h.1.1.2
    · cases h
  | .cmp2 o o2 a b d, X, I, A, e, h => by
    simp only [mE] at h
    split at h
    · simp only [Bool.and_eq_true, Bool.or_eq_true, decide_eq_true_eq, Bool.not_eq_true'] at h
      have e1 := h.1.1.1.1.1
      have e2 := h.1.1.1.1.2
      subst e1; subst e2
      exact sE_cmp2 A.good (eE a A _ h.1.1.2) (eE b A _ h.1.2) (eE d A _ h.2) h.1.1.1.2
    · cases h
  | .and a b, X, I, A, e, h => by
    simp only [mE] at h
    split at h
    · simp only [Bool.and_eq_true, Bool.or_eq_true, decide_eq_true_eq, Bool.not_eq_true'] at h
      exact sE_and (eE a A _ h.1) (pe_one (eE b A _ h.2))
    · simp only [Bool.and_eq_true, Bool.or_eq_true, decide_eq_true_eq, Bool.not_eq_true'] at h
      exact sE_and (eE a A _ h.1) (eE b A _ h.2)
    · cases h
  | .or a b, X, I, A, e, h => by
    simp only [mE] at h
    split at h
    · simp only [Bool.and_eq_true, Bool.or_eq_true, decide_eq_true_eq, Bool.not_eq_true'] at h
      exact sE_or (eE a A _ h.1) (pe_one (eE b A _ h.2))
    · simp only [Bool.and_eq_true, Bool.or_eq_true, decide_eq_true_eq, Bool.not_eq_true'] at h
      exact sE_or (eE a A _ h.1) (eE b A _ h.2)
    · cases h
  | .not a, X, I, A, e, h => by
    simp only [mE] at h
    split at h
    · exact sE_not (eE a A _ h)
    · cases h
  | .ite d a b, X, I, A, e, h => by
    simp only [mE] at h
    split at h
    · simp only [Bool.and_eq_true, Bool.or_eq_true, decide_eq_true_eq, Bool.not_eq_true'] at h
      exact sE_ite (eT d A _ h.1.1) (eE a A _ h.1.2) (eE b A _ h.2)
    · cases h
  | .tup es, X, I, A, e, h => by
    simp only [mE] at h
    split at h
    · exact sE_tup (eA es A _ h)
    · cases h
  | .idx a i, X, I, A, e, h => by
    simp only [mE] at h
    split at h
    · simp only [Bool.and_eq_true, Bool.or_eq_true, decide_eq_true_eq, Bool.not_eq_true'] at h
      exact sE_idx A.good (eE a A _ h.1.2) (eE i A _ h.2) h.1.1
    · cases h
  | .slc a lo hi, X, I, A, e, h => by
    simp only [mE] at h
    split at h
    · simp only [Bool.and_eq_true, Bool.or_eq_true, decide_eq_true_eq, Bool.not_eq_true'] at h
      exact sE_slc A.good (eE a A _ h.1.1) (eO lo A _ h.1.2) (eO hi A _ h.2)
    · cases h
  | .call f io es, X, I, A, e, h => by
    simp only [mE] at h
    split at h
    · rename_i x _ args _
      simp only [Bool.and_eq_true, Bool.or_eq_true, decide_eq_true_eq, Bool.not_eq_true'] at h
      obtain ⟨k1, k2⟩ := A.glob h.1.1.1.1
      obtain ⟨k, fd, ps, K⟩ := A.gf _ _ _ h.1.1.1.2 h.1.1.2
      cases args with
      | nil =>
        have := eA es A _ h.2
        cases es with
        | anil => exact sE_call0 K k1 k2
        | _ => simp [mA] at h
      | cons e es2 => exact sE_call K k1 (eA es A _ h.2) h.1.2 k2
    · cases h
  | .callk f io n m es ks ar, X, I, A, e, h => by
    simp only [mE] at h
    split at h
    · rename_i x _ args kws _
      simp only [Bool.and_eq_true, Bool.or_eq_true, decide_eq_true_eq, Bool.not_eq_true'] at h
      obtain ⟨⟨⟨⟨⟨⟨⟨h1, h2⟩, h3⟩, h4⟩, h5⟩, h6⟩, h7⟩, h8⟩ := h
      obtain ⟨k1, k2⟩ := A.glob h1
      split at h5
      · rename_i names hn
        simp only [Bool.and_eq_true, Bool.or_eq_true, decide_eq_true_eq, Bool.not_eq_true'] at h5
        obtain ⟨k, fd, ps, K⟩ := A.kc _ _ _ _ _ _ h2 h5.2 h3
        obtain ⟨w1, w2, w3⟩ := kw_all (pos := _) (en := X.env) hn
        cases args with
        | nil =>
          have e0 : n = 0 := by simpa using h6
          subst e0
          cases es with
          | anil => exact sE_callk0 K k1 (eK ks A _ h8) h5.1 w1 w2 k2 (by rw [w3]; rfl)
          | _ => simp [mA] at h7
        | cons e es2 => exact sE_callk K k1 (eA es A _ h7) h4 (eK ks A _ h8) h5.1 w1 w2 k2 w3
      · cases h5
    · cases h
  | .b1 b a, X, I, A, e, h => by
    simp only [mE] at h
    split at h
    · simp only [Bool.and_eq_true, Bool.or_eq_true, decide_eq_true_eq, Bool.not_eq_true'] at h
      have e1 := h.1.1.1
      subst e1
      obtain ⟨k1, k2, _⟩ := A.bltn h.1.1.2
      exact sE_b1 A.good k1 k2 (eE a A _ h.2) h.1.2
    · cases h
  | .b2 b a d, X, I, A, e, h => by
    simp only [mE] at h
    split at h
    · simp only [Bool.and_eq_true, Bool.or_eq_true, decide_eq_true_eq, Bool.not_eq_true'] at h
      have e1 := h.1.1.1.1.1
      subst e1
      obtain ⟨k1, k2, _⟩ := A.bltn h.1.1.1.1.2
      exact sE_b2 A.good k1 k2 (eE a A _ h.1.2) (eE d A _ h.2) h.1.1.1.2 h.1.1.2
    · cases h
  | .isi a t, X, I, A, e, h => by
    simp only [mE] at h
    split at h
    · simp only [Bool.and_eq_true, Bool.or_eq_true, decide_eq_true_eq, Bool.not_eq_true'] at h
      obtain ⟨⟨⟨⟨⟨⟨h1, h2⟩, h3⟩, h4⟩, h5⟩, h6⟩, h7⟩ := h
      subst h1; subst h3
      obtain ⟨k1, k2, _⟩ := A.bltn h2
      obtain ⟨j1, j2, j3⟩ := A.bltn h4
      obtain ⟨b1, b2⟩ := boot_ty h5
      exact sE_isi A.good k1 k2 j1 j2 b1 b2 j3 (eE a A _ h7) h6
    · cases h
  | .pop o, X, I, A, e, h => by
    simp only [mE] at h
    split at h
    · simp only [Bool.and_eq_true, Bool.or_eq_true, decide_eq_true_eq, Bool.not_eq_true'] at h
      have e1 := h.1.1.1
      subst e1
      exact sE_pop A.good (eE o A _ h.2) h.1.1.2 h.1.2
    · cases h
  | .inl f, X, I, A, e, h => by
    simp only [mE] at h
    exact sE_inl (eF f A _ h)
  | .mk f, X, I, A, e, h => by
    simp only [mE] at h
    exact sE_mk (eF f A _ h)
  | .no, X, I, A, e, h => by simp [mE] at h
  | .g _, X, I, A, e, h => by simp [mE] at h
  | .tr _, X, I, A, e, h => by simp [mE] at h
  | .part _, X, I, A, e, h => by simp [mE] at h
  | .anil, X, I, A, e, h => by simp [mE] at h
  | .acons _ _, X, I, A, e, h => by simp [mE] at h
  | .fdisp _, X, I, A, e, h => by simp [mE] at h
  | .fcomp _ _ _ _ _, X, I, A, e, h => by simp [mE] at h
  | .fcat _ _, X, I, A, e, h => by simp [mE] at h
  | .frep _ _, X, I, A, e, h => by simp [mE] at h
  | .fslc _ _ _, X, I, A, e, h => by simp [mE] at h
  | .flist _, X, I, A, e, h => by simp [mE] at h
  | .rng1 _, X, I, A, e, h => by simp [mE] at h
  | .rng2 _ _, X, I, A, e, h => by simp [mE] at h
  | .rng3 _ _ _, X, I, A, e, h => by simp [mE] at h
  | .enum _, X, I, A, e, h => by simp [mE] at h
  | .zip _ _, X, I, A, e, h => by simp [mE] at h
  | .seq _, X, I, A, e, h => by simp [mE] at h
theorem eT : ∀ (ie : IE) {X : Cx} {I : Inf} (A : At c X I cb) (e : Expr), mT I ie e = true → PT X e (tT c WF fun env => evalT T cb env ie)
  | .and a b, X, I, A, e, h => by
    simp only [mT] at h
    split at h
    · simp only [Bool.and_eq_true, Bool.or_eq_true, decide_eq_true_eq, Bool.not_eq_true'] at h
      exact (sW_and (eT a A _ h.1) (pw_and1 (eT b A _ h.2))).pt
    · simp only [Bool.and_eq_true, Bool.or_eq_true, decide_eq_true_eq, Bool.not_eq_true'] at h
      exact (sW_and (eT a A _ h.1) (eW b A _ h.2)).pt
    · cases h
  | .or a b, X, I, A, e, h => by
    simp only [mT] at h
    split at h
    · simp only [Bool.and_eq_true, Bool.or_eq_true, decide_eq_true_eq, Bool.not_eq_true'] at h
      exact (sW_or (eT a A _ h.1) (pw_or1 (eT b A _ h.2))).pt
    · simp only [Bool.and_eq_true, Bool.or_eq_true, decide_eq_true_eq, Bool.not_eq_true'] at h
      exact (sW_or (eT a A _ h.1) (eW b A _ h.2)).pt
    · cases h
  | .not a, X, I, A, e, h => by
    simp only [mT] at h
    split at h
    · exact sT_not (eT a A _ h)
    · cases h
  | .cmp o a b, X, I, A, e, h => by
    simp only [mT] at h
    split at h
    · simp only [Bool.and_eq_true, Bool.or_eq_true, decide_eq_true_eq, Bool.not_eq_true'] at h
      have e1 := h.1.1.1
      subst e1
      exact sT_cmp A.good (eE a A _ h.1.2) (eE b A _ h.2) h.1.1.2
    · cases h
  | .cmp2 o o2 a b d, X, I, A, e, h => by
    simp only [mT] at h
    split at h
    · simp only [Bool.and_eq_true, Bool.or_eq_true, decide_eq_true_eq, Bool.not_eq_true'] at h
      have e1 := h.1.1.1.1.1
      have e2 := h.1.1.1.1.2
      subst e1; subst e2
      exact sT_cmp2 A.good (eE a A _ h.1.1.2) (eE b A _ h.1.2) (eE d A _ h.2) h.1.1.1.2
    · cases h
  | .tr a, X, I, A, e, h => by
    simp only [mT] at h
    simp only [Bool.and_eq_true, Bool.or_eq_true, decide_eq_true_eq, Bool.not_eq_true'] at h
    exact sT_tr A.good (eE a A _ h.2) h.1
  | .no, X, I, A, e, h => by simp [mT] at h
  | .d0, X, I, A, e, h => by simp [mT] at h
  | .k _, X, I, A, e, h => by simp [mT] at h
  | .var _, X, I, A, e, h => by simp [mT] at h
  | .g _, X, I, A, e, h => by simp [mT] at h
  | .bin _ _ _, X, I, A, e, h => by simp [mT] at h
  | .neg _, X, I, A, e, h => by simp [mT] at h
  | .ite _ _ _, X, I, A, e, h => by simp [mT] at h
  | .part _, X, I, A, e, h => by simp [mT] at h
  | .tup _, X, I, A, e, h => by simp [mT] at h
  | .anil, X, I, A, e, h => by simp [mT] at h
  | .acons _ _, X, I, A, e, h => by simp [mT] at h
  | .idx _ _, X, I, A, e, h => by simp [mT] at h
  | .slc _ _ _, X, I, A, e, h => by simp [mT] at h
  | .call _ _ _, X, I, A, e, h => by simp [mT] at h
  | .callk _ _ _ _ _ _ _, X, I, A, e, h => by simp [mT] at h
  | .b1 _ _, X, I, A, e, h => by simp [mT] at h
  | .b2 _ _ _, X, I, A, e, h => by simp [mT] at h
  | .isi _ _, X, I, A, e, h => by simp [mT] at h
  | .pop _, X, I, A, e, h => by simp [mT] at h
  | .inl _, X, I, A, e, h => by simp [mT] at h
  | .mk _, X, I, A, e, h => by simp [mT] at h
  | .fdisp _, X, I, A, e, h => by simp [mT] at h
  | .fcomp _ _ _ _ _, X, I, A, e, h => by simp [mT] at h
  | .fcat _ _, X, I, A, e, h => by simp [mT] at h
  | .frep _ _, X, I, A, e, h => by simp [mT] at h
  | .fslc _ _ _, X, I, A, e, h => by simp [mT] at h
  | .flist _, X, I, A, e, h => by simp [mT] at h
  | .rng1 _, X, I, A, e, h => by simp [mT] at h
  | .rng2 _ _, X, I, A, e, h => by simp [mT] at h
  | .rng3 _ _ _, X, I, A, e, h => by simp [mT] at h
  | .enum _, X, I, A, e, h => by simp [mT] at h
  | .zip _ _, X, I, A, e, h => by simp [mT] at h
  | .seq _, X, I, A, e, h => by simp [mT] at h
theorem eW : ∀ (ie : IE) {X : Cx} {I : Inf} (A : At c X I cb) (e : Expr), mW I ie e = true → PW X e (tT c WF fun env => evalT T cb env ie)
  | .and a b, X, I, A, e, h => by
    simp only [mW] at h
    split at h
    · simp only [Bool.and_eq_true, Bool.or_eq_true, decide_eq_true_eq, Bool.not_eq_true'] at h
      exact sW_and (eT a A _ h.1) (pw_and1 (eT b A _ h.2))
    · simp only [Bool.and_eq_true, Bool.or_eq_true, decide_eq_true_eq, Bool.not_eq_true'] at h
      exact sW_and (eT a A _ h.1) (eW b A _ h.2)
    · cases h
  | .or a b, X, I, A, e, h => by
    simp only [mW] at h
    split at h
    · simp only [Bool.and_eq_true, Bool.or_eq_true, decide_eq_true_eq, Bool.not_eq_true'] at h
      exact sW_or (eT a A _ h.1) (pw_or1 (eT b A _ h.2))
    · simp only [Bool.and_eq_true, Bool.or_eq_true, decide_eq_true_eq, Bool.not_eq_true'] at h
      exact sW_or (eT a A _ h.1) (eW b A _ h.2)
    · cases h
  | .no, X, I, A, e, h => by simp [mW] at h
  | .d0, X, I, A, e, h => by simp [mW] at h
  | .k _, X, I, A, e, h => by simp [mW] at h
  | .var _, X, I, A, e, h => by simp [mW] at h
  | .g _, X, I, A, e, h => by simp [mW] at h
  | .bin _ _ _, X, I, A, e, h => by simp [mW] at h
  | .neg _, X, I, A, e, h => by simp [mW] at h
  | .cmp _ _ _, X, I, A, e, h => by simp [mW] at h
  | .cmp2 _ _ _ _ _, X, I, A, e, h => by simp [mW] at h
  | .not _, X, I, A, e, h => by simp [mW] at h
  | .ite _ _ _, X, I, A, e, h => by simp [mW] at h
  | .tr _, X, I, A, e, h => by simp [mW] at h
  | .part _, X, I, A, e, h => by simp [mW] at h
  | .tup _, X, I, A, e, h => by simp [mW] at h
  | .anil, X, I, A, e, h => by simp [mW] at h
  | .acons _ _, X, I, A, e, h => by simp [mW] at h
  | .idx _ _, X, I, A, e, h => by simp [mW] at h
  | .slc _ _ _, X, I, A, e, h => by simp [mW] at h
  | .call _ _ _, X, I, A, e, h => by simp [mW] at h
  | .callk _ _ _ _ _ _ _, X, I, A, e, h => by simp [mW] at h
  | .b1 _ _, X, I, A, e, h => by simp [mW] at h
  | .b2 _ _ _, X, I, A, e, h => by simp [mW] at h
  | .isi _ _, X, I, A, e, h => by simp [mW] at h
  | .pop _, X, I, A, e, h => by simp [mW] at h
  | .inl _, X, I, A, e, h => by simp [mW] at h
  | .mk _, X, I, A, e, h => by simp [mW] at h
  | .fdisp _, X, I, A, e, h => by simp [mW] at h
  | .fcomp _ _ _ _ _, X, I, A, e, h => by simp [mW] at h
  | .fcat _ _, X, I, A, e, h => by simp [mW] at h
  | .frep _ _, X, I, A, e, h => by simp [mW] at h
  | .fslc _ _ _, X, I, A, e, h => by simp [mW] at h
  | .flist _, X, I, A, e, h => by simp [mW] at h
  | .rng1 _, X, I, A, e, h => by simp [mW] at h
  | .rng2 _ _, X, I, A, e, h => by simp [mW] at h
  | .rng3 _ _ _, X, I, A, e, h => by simp [mW] at h
  | .enum _, X, I, A, e, h => by simp [mW] at h
  | .zip _ _, X, I, A, e, h => by simp [mW] at h
  | .seq _, X, I, A, e, h => by simp [mW] at h
theorem eA : ∀ (ie : IE) {X : Cx} {I : Inf} (A : At c X I cb) (es : List Expr), mA I ie es = true → PA X es (tA c WF fun env => evalA T cb env ie)
  | .anil, X, I, A, es, h => by
    cases es with
    | nil => exact sA_nil
    | cons _ _ => simp [mA] at h
  | .acons a r, X, I, A, es, h => by
    cases es with
    | nil => simp [mA] at h
    | cons e es =>
      simp only [mA] at h
      simp only [Bool.and_eq_true, Bool.or_eq_true, decide_eq_true_eq, Bool.not_eq_true'] at h
      exact sA_cons (eE a A _ h.1.1) (eA r A _ h.1.2) h.2
  | .no, X, I, A, e, h => by simp [mA] at h
  | .d0, X, I, A, e, h => by simp [mA] at h
  | .k _, X, I, A, e, h => by simp [mA] at h
  | .var _, X, I, A, e, h => by simp [mA] at h
  | .g _, X, I, A, e, h => by simp [mA] at h
  | .bin _ _ _, X, I, A, e, h => by simp [mA] at h
  | .neg _, X, I, A, e, h => by simp [mA] at h
  | .cmp _ _ _, X, I, A, e, h => by simp [mA] at h
  | .cmp2 _ _ _ _ _, X, I, A, e, h => by simp [mA] at h
  | .and _ _, X, I, A, e, h => by simp [mA] at h
  | .or _ _, X, I, A, e, h => by simp [mA] at h
  | .not _, X, I, A, e, h => by simp [mA] at h
  | .ite _ _ _, X, I, A, e, h => by simp [mA] at h
  | .tr _, X, I, A, e, h => by simp [mA] at h
  | .part _, X, I, A, e, h => by simp [mA] at h
  | .tup _, X, I, A, e, h => by simp [mA] at h
  | .idx _ _, X, I, A, e, h => by simp [mA] at h
  | .slc _ _ _, X, I, A, e, h => by simp [mA] at h
  | .call _ _ _, X, I, A, e, h => by simp [mA] at h
  | .callk _ _ _ _ _ _ _, X, I, A, e, h => by simp [mA] at h
  | .b1 _ _, X, I, A, e, h => by simp [mA] at h
  | .b2 _ _ _, X, I, A, e, h => by simp [mA] at h
  | .isi _ _, X, I, A, e, h => by simp [mA] at h
  | .pop _, X, I, A, e, h => by simp [mA] at h
  | .inl _, X, I, A, e, h => by simp [mA] at h
  | .mk _, X, I, A, e, h => by simp [mA] at h
  | .fdisp _, X, I, A, e, h => by simp [mA] at h
  | .fcomp _ _ _ _ _, X, I, A, e, h => by simp [mA] at h
  | .fcat _ _, X, I, A, e, h => by simp [mA] at h
  | .frep _ _, X, I, A, e, h => by simp [mA] at h
  | .fslc _ _ _, X, I, A, e, h => by simp [mA] at h
  | .flist _, X, I, A, e, h => by simp [mA] at h
  | .rng1 _, X, I, A, e, h => by simp [mA] at h
  | .rng2 _ _, X, I, A, e, h => by simp [mA] at h
  | .rng3 _ _ _, X, I, A, e, h => by simp [mA] at h
  | .enum _, X, I, A, e, h => by simp [mA] at h
  | .zip _ _, X, I, A, e, h => by simp [mA] at h
  | .seq _, X, I, A, e, h => by simp [mA] at h
theorem eK : ∀ (ie : IE) {X : Cx} {I : Inf} (A : At c X I cb) (es : List Keyword), mK I ie es = true → PK X es (tA c WF fun env => evalA T cb env ie)
  | .anil, X, I, A, es, h => by
    cases es with
    | nil => exact sK_nil
    | cons _ _ => simp [mK] at h
  | .acons a r, X, I, A, es, h => by
    cases es with
    | nil => simp [mK] at h
    | cons e es =>
      obtain ⟨nm, e, kp⟩ := e
      simp only [mK] at h
      simp only [Bool.and_eq_true, Bool.or_eq_true, decide_eq_true_eq, Bool.not_eq_true'] at h
      exact sK_cons (eE a A _ h.1) (eK r A _ h.2)
  | .no, X, I, A, e, h => by simp [mK] at h
  | .d0, X, I, A, e, h => by simp [mK] at h
  | .k _, X, I, A, e, h => by simp [mK] at h
  | .var _, X, I, A, e, h => by simp [mK] at h
  | .g _, X, I, A, e, h => by simp [mK] at h
  | .bin _ _ _, X, I, A, e, h => by simp [mK] at h
  | .neg _, X, I, A, e, h => by simp [mK] at h
  | .cmp _ _ _, X, I, A, e, h => by simp [mK] at h
  | .cmp2 _ _ _ _ _, X, I, A, e, h => by simp [mK] at h
  | .and _ _, X, I, A, e, h => by simp [mK] at h
  | .or _ _, X, I, A, e, h => by simp [mK] at h
  | .not _, X, I, A, e, h => by simp [mK] at h
  | .ite _ _ _, X, I, A, e, h => by simp [mK] at h
  | .tr _, X, I, A, e, h => by simp [mK] at h
  | .part _, X, I, A, e, h => by simp [mK] at h
  | .tup _, X, I, A, e, h => by simp [mK] at h
  | .idx _ _, X, I, A, e, h => by simp [mK] at h
  | .slc _ _ _, X, I, A, e, h => by simp [mK] at h
  | .call _ _ _, X, I, A, e, h => by simp [mK] at h
  | .callk _ _ _ _ _ _ _, X, I, A, e, h => by simp [mK] at h
  | .b1 _ _, X, I, A, e, h => by simp [mK] at h
  | .b2 _ _ _, X, I, A, e, h => by simp [mK] at h
  | .isi _ _, X, I, A, e, h => by simp [mK] at h
  | .pop _, X, I, A, e, h => by simp [mK] at h
  | .inl _, X, I, A, e, h => by simp [mK] at h
  | .mk _, X, I, A, e, h => by simp [mK] at h
  | .fdisp _, X, I, A, e, h => by simp [mK] at h
  | .fcomp _ _ _ _ _, X, I, A, e, h => by simp [mK] at h
  | .fcat _ _, X, I, A, e, h => by simp [mK] at h
  | .frep _ _, X, I, A, e, h => by simp [mK] at h
  | .fslc _ _ _, X, I, A, e, h => by simp [mK] at h
  | .flist _, X, I, A, e, h => by simp [mK] at h
  | .rng1 _, X, I, A, e, h => by simp [mK] at h
  | .rng2 _ _, X, I, A, e, h => by simp [mK] at h
  | .rng3 _ _ _, X, I, A, e, h => by simp [mK] at h
  | .enum _, X, I, A, e, h => by simp [mK] at h
  | .zip _ _, X, I, A, e, h => by simp [mK] at h
  | .seq _, X, I, A, e, h => by simp [mK] at h
theorem eO : ∀ (ie : IE) {X : Cx} {I : Inf} (A : At c X I cb) (o : Option Expr), mO I ie o = true → PO X o (tO c WF fun env => evalO T cb env ie)
  | .no, X, I, A, o, h => by
    cases o with
    | none => exact sO_none
    | some _ => simp [mO] at h
  | .part a, X, I, A, o, h => by
    cases o with
    | none => simp [mO] at h
    | some e =>
      simp only [mO] at h
      exact sO_some (eE a A _ h)
  | .d0, X, I, A, e, h => by simp [mO] at h
  | .k _, X, I, A, e, h => by simp [mO] at h
  | .var _, X, I, A, e, h => by simp [mO] at h
  | .g _, X, I, A, e, h => by simp [mO] at h
  | .bin _ _ _, X, I, A, e, h => by simp [mO] at h
  | .neg _, X, I, A, e, h => by simp [mO] at h
  | .cmp _ _ _, X, I, A, e, h => by simp [mO] at h
  | .cmp2 _ _ _ _ _, X, I, A, e, h => by simp [mO] at h
  | .and _ _, X, I, A, e, h => by simp [mO] at h
  | .or _ _, X, I, A, e, h => by simp [mO] at h
  | .not _, X, I, A, e, h => by simp [mO] at h
  | .ite _ _ _, X, I, A, e, h => by simp [mO] at h
  | .tr _, X, I, A, e, h => by simp [mO] at h
  | .tup _, X, I, A, e, h => by simp [mO] at h
  | .anil, X, I, A, e, h => by simp [mO] at h
  | .acons _ _, X, I, A, e, h => by simp [mO] at h
  | .idx _ _, X, I, A, e, h => by simp [mO] at h
  | .slc _ _ _, X, I, A, e, h => by simp [mO] at h
  | .call _ _ _, X, I, A, e, h => by simp [mO] at h
  | .callk _ _ _ _ _ _ _, X, I, A, e, h => by simp [mO] at h
  | .b1 _ _, X, I, A, e, h => by simp [mO] at h
  | .b2 _ _ _, X, I, A, e, h => by simp [mO] at h
  | .isi _ _, X, I, A, e, h => by simp [mO] at h
  | .pop _, X, I, A, e, h => by simp [mO] at h
  | .inl _, X, I, A, e, h => by simp [mO] at h
  | .mk _, X, I, A, e, h => by simp [mO] at h
  | .fdisp _, X, I, A, e, h => by simp [mO] at h
  | .fcomp _ _ _ _ _, X, I, A, e, h => by simp [mO] at h
  | .fcat _ _, X, I, A, e, h => by simp [mO] at h
  | .frep _ _, X, I, A, e, h => by simp [mO] at h
  | .fslc _ _ _, X, I, A, e, h => by simp [mO] at h
  | .flist _, X, I, A, e, h => by simp [mO] at h
  | .rng1 _, X, I, A, e, h => by simp [mO] at h
  | .rng2 _ _, X, I, A, e, h => by simp [mO] at h
  | .rng3 _ _ _, X, I, A, e, h => by simp [mO] at h
  | .enum _, X, I, A, e, h => by simp [mO] at h
  | .zip _ _, X, I, A, e, h => by simp [mO] at h
  | .seq _, X, I, A, e, h => by simp [mO] at h
theorem eF : ∀ (ie : IE) {X : Cx} {I : Inf} (A : At c X I cb) (e : Expr), mF I ie e = true → PE X e (tF c WF fun env => evalF T cb env ie)
  | .fdisp es, X, I, A, e, h => by
    simp only [mF] at h
    split at h
    · exact sF_disp (eA es A _ h)
    · cases h
  | .fcat a b, X, I, A, e, h => by
    simp only [mF] at h
    split at h
    · simp only [Bool.and_eq_true, Bool.or_eq_true, decide_eq_true_eq, Bool.not_eq_true'] at h
      exact sF_cat (eE a A _ h.1) (eE b A _ h.2)
    · cases h
  | .frep a b, X, I, A, e, h => by
    simp only [mF] at h
    split at h
    · simp only [Bool.and_eq_true, Bool.or_eq_true, decide_eq_true_eq, Bool.not_eq_true'] at h
      exact sF_rep (eE a A _ h.1) (eE b A _ h.2)
    · cases h
  | .fslc a lo hi, X, I, A, e, h => by
    simp only [mF] at h
    split at h
    · simp only [Bool.and_eq_true, Bool.or_eq_true, decide_eq_true_eq, Bool.not_eq_true'] at h
      exact sF_slc A.good (eE a A _ h.1.1) (eO lo A _ h.1.2) (eO hi A _ h.2)
    · cases h
  | .flist a, X, I, A, e, h => by
    simp only [mF] at h
    split at h
    · simp only [Bool.and_eq_true, Bool.or_eq_true, decide_eq_true_eq, Bool.not_eq_true'] at h
      have e1 := h.1.1.1
      subst e1
      obtain ⟨k1, k2, _⟩ := A.bltn h.1.1.2
      exact sF_list A.good k1 k2 (eE a A _ h.2) h.1.2
    · cases h
  | .call f io es, X, I, A, e, h => by
    simp only [mF] at h
    split at h
    · rename_i x _ args _
      simp only [Bool.and_eq_true, Bool.or_eq_true, decide_eq_true_eq, Bool.not_eq_true'] at h
      obtain ⟨k1, k2⟩ := A.glob h.1.1.1.1
      obtain ⟨k, fd, ps, K⟩ := A.gf _ _ _ h.1.1.1.2 h.1.1.2
      cases args with
      | nil =>
        have := h.2
        cases es with
        | anil => exact sF_call0 K k1 k2
        | _ => simp [mA] at this
      | cons e es2 => exact sF_call K k1 (eA es A _ h.2) h.1.2 k2
    · cases h
  | .fcomp own tg it cs x, X, I, A, e, h => by
    simp only [mF] at h
    split at h
    · rename_i elt t iter ifs scope _
      simp only [Bool.and_eq_true, Bool.or_eq_true, decide_eq_true_eq, Bool.not_eq_true'] at h
      obtain ⟨⟨⟨⟨⟨⟨h1, h2⟩, h3⟩, h4⟩, h5⟩, h6⟩, h7⟩ := h
      have ok := blkOk_by h1
      have hk := ok.kind
      have eo : (ownP I own).map (·.2) = own := by simp [ownP, Function.comp_def]
      have ht : ∀ i ∈ tgs tg, i ∈ own := fun i hi => by simpa using List.all_eq_true.mp h2 i hi
      refine (pe_lc A.good.calm A.good.nd (eI it A t _ h5) (by rw [A.N, A.sc]; exact ok) (fun s H C cl fp => (mTg_ok (A.blk s H scope C cl fp hk) tg).1 _ h4)
        (fun s H C cl fp => eC cs (A.blk s H scope C cl fp hk) _ h6) (fun s H C cl fp => eE x (A.blk s H scope C cl fp hk) _ h7) (folded h3)).imp fun σ H Q q => ?_
      rw [eo]
      exact lc_imp ht q
    · cases h
  | .no, X, I, A, e, h => by simp [mF] at h
  | .d0, X, I, A, e, h => by simp [mF] at h
  | .k _, X, I, A, e, h => by simp [mF] at h
  | .var _, X, I, A, e, h => by simp [mF] at h
  | .g _, X, I, A, e, h => by simp [mF] at h
  | .bin _ _ _, X, I, A, e, h => by simp [mF] at h
  | .neg _, X, I, A, e, h => by simp [mF] at h
  | .cmp _ _ _, X, I, A, e, h => by simp [mF] at h
  | .cmp2 _ _ _ _ _, X, I, A, e, h => by simp [mF] at h
  | .and _ _, X, I, A, e, h => by simp [mF] at h
  | .or _ _, X, I, A, e, h => by simp [mF] at h
  | .not _, X, I, A, e, h => by simp [mF] at h
  | .ite _ _ _, X, I, A, e, h => by simp [mF] at h
  | .tr _, X, I, A, e, h => by simp [mF] at h
  | .part _, X, I, A, e, h => by simp [mF] at h
  | .tup _, X, I, A, e, h => by simp [mF] at h
  | .anil, X, I, A, e, h => by simp [mF] at h
  | .acons _ _, X, I, A, e, h => by simp [mF] at h
  | .idx _ _, X, I, A, e, h => by simp [mF] at h
  | .slc _ _ _, X, I, A, e, h => by simp [mF] at h
  | .callk _ _ _ _ _ _ _, X, I, A, e, h => by simp [mF] at h
  | .b1 _ _, X, I, A, e, h => by simp [mF] at h
  | .b2 _ _ _, X, I, A, e, h => by simp [mF] at h
  | .isi _ _, X, I, A, e, h => by simp [mF] at h
  | .pop _, X, I, A, e, h => by simp [mF] at h
  | .inl _, X, I, A, e, h => by simp [mF] at h
  | .mk _, X, I, A, e, h => by simp [mF] at h
  | .rng1 _, X, I, A, e, h => by simp [mF] at h
  | .rng2 _ _, X, I, A, e, h => by simp [mF] at h
  | .rng3 _ _ _, X, I, A, e, h => by simp [mF] at h
  | .enum _, X, I, A, e, h => by simp [mF] at h
  | .zip _ _, X, I, A, e, h => by simp [mF] at h
  | .seq _, X, I, A, e, h => by simp [mF] at h
theorem eC : ∀ (ie : IE) {X : Cx} {I : Inf} (A : At c X I cb) (es : List Expr), mC I ie es = true → PTs X es (tT c WF fun env => evalC T cb env ie)
  | .anil, X, I, A, es, h => by
    cases es with
    | nil => exact sC_nil
    | cons _ _ => simp [mC] at h
  | .acons a r, X, I, A, es, h => by
    match es, h with
    | [e], h => exact pts_one (eT a A _ (by simpa only [mC] using h))
    | [], h => simp [mC] at h
    | _ :: _ :: _, h => simp [mC] at h
  | .no, X, I, A, e, h => by simp [mC] at h
  | .d0, X, I, A, e, h => by simp [mC] at h
  | .k _, X, I, A, e, h => by simp [mC] at h
  | .var _, X, I, A, e, h => by simp [mC] at h
  | .g _, X, I, A, e, h => by simp [mC] at h
  | .bin _ _ _, X, I, A, e, h => by simp [mC] at h
  | .neg _, X, I, A, e, h => by simp [mC] at h
  | .cmp _ _ _, X, I, A, e, h => by simp [mC] at h
  | .cmp2 _ _ _ _ _, X, I, A, e, h => by simp [mC] at h
  | .and _ _, X, I, A, e, h => by simp [mC] at h
  | .or _ _, X, I, A, e, h => by simp [mC] at h
  | .not _, X, I, A, e, h => by simp [mC] at h
  | .ite _ _ _, X, I, A, e, h => by simp [mC] at h
  | .tr _, X, I, A, e, h => by simp [mC] at h
  | .part _, X, I, A, e, h => by simp [mC] at h
  | .tup _, X, I, A, e, h => by simp [mC] at h
  | .idx _ _, X, I, A, e, h => by simp [mC] at h
  | .slc _ _ _, X, I, A, e, h => by simp [mC] at h
  | .call _ _ _, X, I, A, e, h => by simp [mC] at h
  | .callk _ _ _ _ _ _ _, X, I, A, e, h => by simp [mC] at h
  | .b1 _ _, X, I, A, e, h => by simp [mC] at h
  | .b2 _ _ _, X, I, A, e, h => by simp [mC] at h
  | .isi _ _, X, I, A, e, h => by simp [mC] at h
  | .pop _, X, I, A, e, h => by simp [mC] at h
  | .inl _, X, I, A, e, h => by simp [mC] at h
  | .mk _, X, I, A, e, h => by simp [mC] at h
  | .fdisp _, X, I, A, e, h => by simp [mC] at h
  | .fcomp _ _ _ _ _, X, I, A, e, h => by simp [mC] at h
  | .fcat _ _, X, I, A, e, h => by simp [mC] at h
  | .frep _ _, X, I, A, e, h => by simp [mC] at h
  | .fslc _ _ _, X, I, A, e, h => by simp [mC] at h
  | .flist _, X, I, A, e, h => by simp [mC] at h
  | .rng1 _, X, I, A, e, h => by simp [mC] at h
  | .rng2 _ _, X, I, A, e, h => by simp [mC] at h
  | .rng3 _ _ _, X, I, A, e, h => by simp [mC] at h
  | .enum _, X, I, A, e, h => by simp [mC] at h
  | .zip _ _, X, I, A, e, h => by simp [mC] at h
  | .seq _, X, I, A, e, h => by simp [mC] at h
theorem eI : ∀ (ie : IE) {X : Cx} {I : Inf} (A : At c X I cb) (t e : Expr), mI I ie t e = true → PI X t e (tI c WF fun env => evalI T cb env ie)
  | .rng1 a, X, I, A, t, e, h => by
    simp only [mI] at h
    split at h
    · simp only [Bool.and_eq_true, Bool.or_eq_true, decide_eq_true_eq, Bool.not_eq_true'] at h
      have e1 := h.1.1.1
      subst e1
      obtain ⟨k1, k2, _⟩ := A.bltn h.1.1.2
      exact sI_rng1 k1 k2 (eE a A _ h.2) h.1.2
    · cases h
  | .rng2 a b, X, I, A, t, e, h => by
    simp only [mI] at h
    split at h
    · simp only [Bool.and_eq_true, Bool.or_eq_true, decide_eq_true_eq, Bool.not_eq_true'] at h
      have e1 := h.1.1.1.1.1
      subst e1
      obtain ⟨k1, k2, _⟩ := A.bltn h.1.1.1.1.2
      exact sI_rng2 k1 k2 (eE a A _ h.1.2) (eE b A _ h.2) h.1.1.1.2 h.1.1.2
    · cases h
  | .rng3 a b d, X, I, A, t, e, h => by
    simp only [mI] at h
    split at h
    · simp only [Bool.and_eq_true, Bool.or_eq_true, decide_eq_true_eq, Bool.not_eq_true'] at h
      obtain ⟨⟨⟨⟨⟨⟨⟨h1, h2⟩, h3⟩, h4⟩, h5⟩, h6⟩, h7⟩, h8⟩ := h
      subst h1
      obtain ⟨k1, k2, _⟩ := A.bltn h2
      exact sI_rng3 k1 k2 (eE a A _ h6) (eE b A _ h7) (eE d A _ h8) h3 h4 h5
    · cases h
  | .enum a, X, I, A, t, e, h => by
    simp only [mI] at h
    split at h
    · simp only [Bool.and_eq_true, Bool.or_eq_true, decide_eq_true_eq, Bool.not_eq_true'] at h
      obtain ⟨⟨⟨⟨h1, h2⟩, h3⟩, h4⟩, h5⟩ := h
      subst h1
      obtain ⟨k1, k2, _⟩ := A.bltn h2
      cases t with
      | Tuple _ _ _ => exact sI_enum A.good k1 k2 (eE a A _ h5) h4
      | _ => simp [isTup] at h3
    · cases h
  | .zip a b, X, I, A, t, e, h => by
    simp only [mI] at h
    split at h
    · simp only [Bool.and_eq_true, Bool.or_eq_true, decide_eq_true_eq, Bool.not_eq_true'] at h
      obtain ⟨⟨⟨⟨⟨⟨h1, h2⟩, h3⟩, h4⟩, h5⟩, h6⟩, h7⟩ := h
      subst h1
      obtain ⟨k1, k2, _⟩ := A.bltn h2
      cases t with
      | Tuple _ _ _ => exact sI_zip A.good k1 k2 (eE a A _ h6) (eE b A _ h7) h4 h5
      | _ => simp [isTup] at h3
    · cases h
  | .seq a, X, I, A, t, e, h => by
    simp only [mI] at h
    exact sI_seq A.good (eE a A _ h)
  | .no, X, I, A, t, e, h => by simp [mI] at h
  | .d0, X, I, A, t, e, h => by simp [mI] at h
  | .k _, X, I, A, t, e, h => by simp [mI] at h
  | .var _, X, I, A, t, e, h => by simp [mI] at h
  | .g _, X, I, A, t, e, h => by simp [mI] at h
  | .bin _ _ _, X, I, A, t, e, h => by simp [mI] at h
  | .neg _, X, I, A, t, e, h => by simp [mI] at h
  | .cmp _ _ _, X, I, A, t, e, h => by simp [mI] at h
  | .cmp2 _ _ _ _ _, X, I, A, t, e, h => by simp [mI] at h
  | .and _ _, X, I, A, t, e, h => by simp [mI] at h
  | .or _ _, X, I, A, t, e, h => by simp [mI] at h
  | .not _, X, I, A, t, e, h => by simp [mI] at h
  | .ite _ _ _, X, I, A, t, e, h => by simp [mI] at h
  | .tr _, X, I, A, t, e, h => by simp [mI] at h
  | .part _, X, I, A, t, e, h => by simp [mI] at h
  | .tup _, X, I, A, t, e, h => by simp [mI] at h
  | .anil, X, I, A, t, e, h => by simp [mI] at h
  | .acons _ _, X, I, A, t, e, h => by simp [mI] at h
  | .idx _ _, X, I, A, t, e, h => by simp [mI] at h
  | .slc _ _ _, X, I, A, t, e, h => by simp [mI] at h
  | .call _ _ _, X, I, A, t, e, h => by simp [mI] at h
  | .callk _ _ _ _ _ _ _, X, I, A, t, e, h => by simp [mI] at h
  | .b1 _ _, X, I, A, t, e, h => by simp [mI] at h
  | .b2 _ _ _, X, I, A, t, e, h => by simp [mI] at h
  | .isi _ _, X, I, A, t, e, h => by simp [mI] at h
  | .pop _, X, I, A, t, e, h => by simp [mI] at h
  | .inl _, X, I, A, t, e, h => by simp [mI] at h
  | .mk _, X, I, A, t, e, h => by simp [mI] at h
  | .fdisp _, X, I, A, t, e, h => by simp [mI] at h
  | .fcomp _ _ _ _ _, X, I, A, t, e, h => by simp [mI] at h
  | .fcat _ _, X, I, A, t, e, h => by simp [mI] at h
  | .frep _ _, X, I, A, t, e, h => by simp [mI] at h
  | .fslc _ _ _, X, I, A, t, e, h => by simp [mI] at h
  | .flist _, X, I, A, t, e, h => by simp [mI] at h
end
end
end MPS

namespace MPS
open PySem PySem.Spec L2 MP
/-- does name = [..] go straight into the name? -/
def swB (I : Inf) (scope : Scope) (y : Str) (l m : Nat) : Bool := decide (I.sc.names.lookup y = some .local) && (l == m) && !(scope.names.any fun (n, k) => n == y && (k == .local || k == .cell))
/-- are two (three) names stored from the right? -/
def parB (I : Inf) (es : List Expr) (xs : List Str) (ls : List Nat) : Bool :=
  (xs.all fun x => decide (I.sc.names.lookup x = some .local)) && (match ls with
    | l :: r => r.all (· == l)
    | [] => false) && (es.all fun e => !isStar e) && !es.all (foldedForSure 8) && !es.all (constantsAlone 8) && decide (xs.eraseDups.length = xs.length)
def mSet (I : Inf) : IE → Str → Pos → Nat → Expr → Bool
  | .mk (.fcomp own tg it cs x), y, py, l, e => match e with
    | .ListComp elt gs scope pos => mE I (.mk (.fcomp own tg it cs x)) e
    | _ => false
  | .inl (.fcomp own tg it cs x), y, py, l, e => match e with
    | .ListComp elt gs scope pos => mE I (.inl (.fcomp own tg it cs x)) e
    | _ => false
  | ie, _, _, _, e => !isComp e && mE I ie e
mutual
def mS (I : Inf) : IS → Stmt → Bool
  | .pass, s => match s with
    | .Pass _ => true
    | .Expr (.Constant (.str _) _ _) _ => true
    | _ => false
  | .bad, _ => true
  | .set i e, s => match s with
    | .Assign [.Name x p] v pos => decide (I.N[i]? = some x) && isLoc I x && mSet I e x p pos.line v
    | _ => false
  | .setT tg e, s => match s with
    | .Assign [t] v _ => isTup t && !isTup v && !isComp v && mTg I tg t && mE I e v
    | _ => false
  | .par is es, s => match is, s with
    | [i, j], .Assign [.Tuple [.Name x px, .Name y py] _ _] (.Tuple [a, b] _ _) _ => decide (I.N[i]? = some x) && decide (I.N[j]? = some y) && decide (i ≠ j) && parB I [a, b] [x, y] [px.line, py.line] && mA I es [a, b]
    | [i, j, l], .Assign [.Tuple [.Name x px, .Name y py, .Name z pz] _ _] (.Tuple [a, b, d] _ _) _ => decide (I.N[i]? = some x) && decide (I.N[j]? = some y) && decide (I.N[l]? = some z) && decide (i ≠ j) && decide (i ≠ l) && decide (j ≠ l) && parB I [a, b, d] [x, y, z] [px.line, py.line, pz.line] && mA I es [a, b, d]
    | _, _ => false
  | .aug i o e, s => match s with
    | .AugAssign (.Name x _) p v _ => decide (p = opB o) && augOk o && decide (I.N[i]? = some x) && isLoc I x && mE I e v
    | _ => false
  | .expr e, s => match s with
    | .Expr v _ => !isComp v && mE I e v
    | _ => false
  | .ret e, s => match s with
    | .Return (some v) _ => mE I e v
    | _ => false
  | .retN, s => match s with
    | .Return none _ => true
    | _ => false
  | .ite d a b, s => match s with
    | .If t xs ys _ => mT I d t && mSs I a xs && mSs I b ys
    | _ => false
  | .for_ tg it b, s => match s with
    | .For t iter body [] _ => mTg I tg t && mI I it t iter && !isSet iter && mSs I b body
    | _ => false
  | .while_ _ d b, s => match s with
    | .While t body [] _ => mT I d t && mSs I b body
    | _ => false
  | .app o e, s => match s with
    | .Expr (.Call (.Attribute x nm ap) [y] [] cp) _ => decide (nm = ("append" : Str)) && isNm x && !isStar y && (ap.endLine == cp.line) && mE I o x && mE I e y
    | _ => false
  | .ext o e, s => match s with
    | .Expr (.Call (.Attribute x nm ap) [y] [] cp) _ => decide (nm = ("extend" : Str)) && isNm x && !isStar y && (ap.endLine == cp.line) && mE I o x && mE I e y
    | _ => false
  | .setI o i e, s => match s with
    | .Assign [.Subscript x y _] v _ => !isSlice y && mE I e v && mE I o x && mE I i y
    | _ => false
  | .brk, s => match s with
    | .Break _ => true
    | _ => false
  | .cont, s => match s with
    | .Continue _ => true
    | _ => false
  | _, _ => false
def mSs (I : Inf) : IS → List Stmt → Bool
  | .nil, [] => true
  | .cons a r, s :: ss => mS I a s && mSs I r ss
  | _, _ => false
end
section
variable {c : C} {T : List Val} {cb : CB} {X : Cx} {I : Inf}
theorem noComp {e : Expr} {t : Option Expr} {l : Nat} {en : PySem.Env} (h : isComp e = false) : swapsWith e t l en = pure false := by
  unfold swapsWith
  cases e <;> first | rfl | (simp [isComp] at h)
theorem sw_eq {elt : Expr} {gs : List Comprehension} {scope : Scope} {pos py : Pos} {y : Str} {l : Nat} {en : PySem.Env} (hk : en.scope.kind = .function) :
    swapsWith (.ListComp elt gs scope pos) (some (.Name y py)) l en = pure (en.kindOf y == some .local && py.line == pos.line && !(scope.names.any fun (n, k) => n == y && (k == .local || k == .cell))) := by
  have hb : en.blockKind = .function := by unfold PySem.Env.blockKind; rw [hk]; rfl
  unfold swapsWith
  simp only [hb, Expr.pos]
  rfl
theorem set_comp {i : Nat} {y : Str} {py pos : Pos} {e : Expr} {fe : MEnv → M Val} {own : List Nat} {tg : Tg} {it cs x : IE} (A : At c X I cb) (hi : I.N[i]? = some y) (hl : isLoc I y = true) (h : mF I (.fcomp own tg it cs x) e = true)
    (k : ∀ (σ : L2.St) (H : Hp) (Q : VK), tE c WF fe σ H Q → tF c WF (fun env => evalF T cb env (.fcomp own tg it cs x)) σ H Q) : PS X (.Assign [.Name y py] e pos) (tAsg (tE c WF fe) (gName i)) := by
  have h' := h
  simp only [mF] at h
  split at h
  · rename_i elt t iter ifs scope p2
    simp only [Bool.and_eq_true, Bool.or_eq_true, decide_eq_true_eq, Bool.not_eq_true'] at h
    obtain ⟨⟨⟨⟨⟨⟨h1, h2⟩, h3⟩, h4⟩, h5⟩, h6⟩, h7⟩ := h
    have ok := blkOk_by h1
    have hk := ok.kind
    have eo : (ownP I own).map (·.2) = own := by simp [ownP, Function.comp_def]
    have ht : ∀ i ∈ tgs tg, i ∈ own := fun i hi => by simpa using List.all_eq_true.mp h2 i hi
    obtain ⟨l1, l2⟩ := A.loc hl
    have hkX : X.env.scope.kind = .function := by rw [A.sc]; exact A.fk
    by_cases sw : (X.env.kindOf y == some .local && py.line == p2.line && !(scope.names.any fun (n, k) => n == y && (k == .local || k == .cell))) = true
    · have hy : X.env.scope.names.lookup y = some .local := by
        simp only [Bool.and_eq_true, beq_iff_eq] at sw
        exact sw.1.1
      refine tAsg_imp (te := tLc _ _ _ _ own) ?_ (fun σ H Q q => lc_imp ht (k σ H Q q))
      have z := ps_setLc (spos := pos) (py := py) A.good.calm A.good.nd (A.slot hi) hy (by rw [sw_eq hkX, sw]) (eI (T := T) it A t _ h5) (by rw [A.N, A.sc]; exact ok) (fun s H C cl fp => (mTg_ok (A.blk s H scope C cl fp hk) tg).1 _ h4)
        (fun s H C cl fp => eC (T := T) cs (A.blk s H scope C cl fp hk) _ h6) (fun s H C cl fp => eE (T := T) x (A.blk s H scope C cl fp hk) _ h7) (folded h3)
      rw [eo] at z
      exact z
    · refine tAsg_imp (ps_set A.good.nd (A.slot hi) l1 (eF (T := T) (.fcomp own tg it cs x) A _ h') ?_ l2) k
      rw [sw_eq hkX]
      exact congrArg pure (Bool.eq_false_iff.mpr sw)
  · cases h
theorem set_ok {i : Nat} {y : Str} {py pos : Pos} {v : Expr} (ie : IE) (A : At c X I cb) (hi : I.N[i]? = some y) (hl : isLoc I y = true) (h : mSet I ie y py pos.line v = true) :
    PS X (.Assign [.Name y py] v pos) (tAsg (tE c WF fun env => evalE T cb env ie) (gName i)) := by
  obtain ⟨l1, l2⟩ := A.loc hl
  unfold mSet at h
  split at h
  · split at h
    · simp only [mE] at h
      exact set_comp A hi hl h fun σ H Q q => mk_imp q
    · cases h
  · split at h
    · simp only [mE] at h
      exact set_comp A hi hl h fun σ H Q q => inl_imp q
    · cases h
  · simp only [Bool.and_eq_true, Bool.not_eq_true'] at h
    exact ps_set A.good.nd (A.slot hi) l1 (eE _ A _ h.2) (noComp h.1) l2
theorem noSwap {t e : Expr} {en : PySem.Env} (h : isTup e = false) : swappedStores [t] e en = pure none := by
  unfold swappedStores
  cases e <;> first | (cases t <;> rfl) | (simp [isTup] at h)
def starM : Expr → Bool := fun
  | .Starred .. => true
  | _ => false
theorem notStarred (e : Expr) : isStar e = false → starM e = false := by
  intro h
  cases e <;> first | rfl | (simp [isStar] at h)
theorem par2_ok {a b : Expr} {x y : Str} {px py pt pt2 : Pos} {kt k2 : Nat} (A : At c X I cb) (h : parB I [a, b] [x, y] [px.line, py.line] = true) :
    X.env.scope.names.lookup x = some .local ∧ X.env.scope.names.lookup y = some .local ∧ swappedStores [.Tuple [.Name x px, .Name y py] kt pt] (.Tuple [a, b] k2 pt2) X.env = pure (some [x, y]) := by
  unfold parB at h
  simp only [Bool.and_eq_true, decide_eq_true_eq, Bool.not_eq_true'] at h
  obtain ⟨⟨⟨⟨⟨h1, h2⟩, h3⟩, h4⟩, h5⟩, h6⟩ := h
  simp only [List.all_cons, List.all_nil, Bool.and_true, Bool.and_eq_true, decide_eq_true_eq, beq_iff_eq] at h1 h2
  have hk : X.env.scope.kind = .function := by rw [A.sc]; exact A.fk
  have hb : X.env.blockKind = .function := by unfold PySem.Env.blockKind; rw [hk]; rfl
  have kx : X.env.kindOf x = some .local := by show X.env.scope.names.lookup x = _; rw [A.sc]; exact h1.1
  have ky : X.env.kindOf y = some .local := by show X.env.scope.names.lookup y = _; rw [A.sc]; exact h1.2
  refine ⟨kx, ky, ?_⟩
  simp only [List.all_cons, List.all_nil, Bool.and_true, Bool.and_eq_true, Bool.not_eq_true'] at h3
  unfold swappedStores
  simp only [hb, kx, ky, List.filterMap_cons, List.filterMap_nil, List.head?_cons, Option.map_some, Option.getD_some, Expr.pos]
  refine Eq.trans (if_neg (by simp)) ?_
  refine Eq.trans (if_neg (by
    simp only [List.any_cons, List.any_nil, Bool.or_false, Bool.or_eq_true, not_or, Bool.not_eq_true]
    exact ⟨notStarred _ h3.1, notStarred _ h3.2⟩)) ?_
  simp only [h2, beq_self_eq_true, Bool.and_self, if_true] at h6 ⊢
  refine Eq.trans (if_neg (by simp [h6])) ?_
  refine Eq.trans (if_neg (by rw [h4]; exact Bool.false_ne_true)) ?_
  exact if_neg (by rw [h5]; exact Bool.false_ne_true)
theorem par3_ok {a b d : Expr} {x y z : Str} {px py pz pt pt2 : Pos} {kt k2 : Nat} (A : At c X I cb) (h : parB I [a, b, d] [x, y, z] [px.line, py.line, pz.line] = true) :
    X.env.scope.names.lookup x = some .local ∧ X.env.scope.names.lookup y = some .local ∧ X.env.scope.names.lookup z = some .local ∧ swappedStores [.Tuple [.Name x px, .Name y py, .Name z pz] kt pt] (.Tuple [a, b, d] k2 pt2) X.env = pure (some [x, y, z]) := by
  unfold parB at h
  simp only [Bool.and_eq_true, decide_eq_true_eq, Bool.not_eq_true'] at h
  obtain ⟨⟨⟨⟨⟨h1, h2⟩, h3⟩, h4⟩, h5⟩, h6⟩ := h
  simp only [List.all_cons, List.all_nil, Bool.and_true, Bool.and_eq_true, decide_eq_true_eq, beq_iff_eq] at h1 h2
  have hk : X.env.scope.kind = .function := by rw [A.sc]; exact A.fk
  have hb : X.env.blockKind = .function := by unfold PySem.Env.blockKind; rw [hk]; rfl
  have kx : X.env.kindOf x = some .local := by show X.env.scope.names.lookup x = _; rw [A.sc]; exact h1.1
  have ky : X.env.kindOf y = some .local := by show X.env.scope.names.lookup y = _; rw [A.sc]; exact h1.2.1
  have kz : X.env.kindOf z = some .local := by show X.env.scope.names.lookup z = _; rw [A.sc]; exact h1.2.2
  refine ⟨kx, ky, kz, ?_⟩
  simp only [List.all_cons, List.all_nil, Bool.and_true, Bool.and_eq_true, Bool.not_eq_true'] at h3
  unfold swappedStores
  simp only [hb, kx, ky, kz, List.filterMap_cons, List.filterMap_nil, List.head?_cons, Option.map_some, Option.getD_some, Expr.pos]
  refine Eq.trans (if_neg (by simp)) ?_
  refine Eq.trans (if_neg (by
    simp only [List.any_cons, List.any_nil, Bool.or_false, Bool.or_eq_true, not_or, Bool.not_eq_true]
    exact ⟨notStarred _ h3.1, notStarred _ h3.2.1, notStarred _ h3.2.2⟩)) ?_
  simp only [h2.1, h2.2, beq_self_eq_true, Bool.and_self, if_true] at h6 ⊢
  refine Eq.trans (if_neg (by simp [h6])) ?_
  refine Eq.trans (if_neg (by rw [h4]; exact Bool.false_ne_true)) ?_
  exact if_neg (by rw [h5]; exact Bool.false_ne_true)
mutual
theorem sS : ∀ (is : IS) {X : Cx} {I : Inf} (A : At c X I cb) (s : Stmt), mS I is s = true → PS X s (tS c WF (evalS T cb is))
  | .pass, X, I, A, s, h => by
    simp only [mS] at h
    split at h
    · exact sS_pass
    · exact sS_doc
    · cases h
  | .bad, X, I, A, s, h => sS_bad fun _ _ => rfl
  | .set i e, X, I, A, s, h => by
    simp only [mS] at h
    split at h
    · simp only [Bool.and_eq_true, decide_eq_true_eq] at h
      exact sS_set (set_ok e A h.1.1 h.1.2 h.2)
    · cases h
  | .setT tg e, X, I, A, s, h => by
    simp only [mS] at h
    split at h
    · rename_i t v _
      simp only [Bool.and_eq_true, Bool.not_eq_true'] at h
      have ht : isStar t = false := by
        have := h.1.1.1.1
        cases t <;> first | rfl | (simp [isTup] at this)
      exact sS_setT (eE e A _ h.2) ((mTg_ok A tg).1 _ h.1.2) (noComp h.1.1.2) (noSwap h.1.1.1.2) ht
    · cases h
  | .par is es, X, I, A, s, h => by
    simp only [mS] at h
    split at h
    · simp only [Bool.and_eq_true, decide_eq_true_eq] at h
      obtain ⟨⟨⟨⟨h1, h2⟩, h3⟩, h4⟩, h5⟩ := h
      obtain ⟨k1, k2, k3⟩ := par2_ok A h4
      exact sS_par2 A.good (A.slot h1) (A.slot h2) h3 k1 k2 (eA es A _ h5) k3
    · simp only [Bool.and_eq_true, decide_eq_true_eq] at h
      obtain ⟨⟨⟨⟨⟨⟨⟨h1, h2⟩, h3⟩, h4⟩, h5⟩, h6⟩, h7⟩, h8⟩ := h
      obtain ⟨k1, k2, k3, k4⟩ := par3_ok A h7
      exact sS_par3 A.good (A.slot h1) (A.slot h2) (A.slot h3) h4 h5 h6 k1 k2 k3 (eA es A _ h8) k4
    · cases h
  | .aug i o e, X, I, A, s, h => by
    simp only [mS] at h
    split at h
    · simp only [Bool.and_eq_true, decide_eq_true_eq] at h
      obtain ⟨⟨⟨⟨h1, h2⟩, h3⟩, h4⟩, h5⟩ := h
      subst h1
      obtain ⟨l1, l2⟩ := A.loc h4
      exact sS_aug A.good (A.slot h3) l1 l2 (eE e A _ h5) (iop_bI h2)
    · cases h
  | .expr e, X, I, A, s, h => by
    simp only [mS] at h
    split at h
    · simp only [Bool.and_eq_true, Bool.not_eq_true'] at h
      exact sS_expr (eE e A _ h.2) (noComp h.1)
    · cases h
  | .ret e, X, I, A, s, h => by
    simp only [mS] at h
    split at h
    · exact sS_ret (eE e A _ h)
    · cases h
  | .retN, X, I, A, s, h => by
    simp only [mS] at h
    split at h
    · exact sS_retN
    · cases h
  | .ite d a b, X, I, A, s, h => by
    simp only [mS] at h
    split at h
    · simp only [Bool.and_eq_true] at h
      exact sS_if (eT d A _ h.1.1) (sSs a A _ h.1.2) (sSs b A _ h.2)
    · cases h
  | .for_ tg it b, X, I, A, s, h => by
    simp only [mS] at h
    split at h
    · simp only [Bool.and_eq_true, Bool.not_eq_true'] at h
      exact sS_for A.good (by rw [A.xe]; exact PassesOwn.never) (eI it A _ _ h.1.1.2) ((mTg_ok A tg).1 _ h.1.1.1) (sSs b A _ h.2) (folded h.1.2)
    · cases h
  | .while_ n d b, X, I, A, s, h => by
    simp only [mS] at h
    split at h
    · simp only [Bool.and_eq_true] at h
      exact sS_while (by rw [A.xe]; exact PassesOwn.never) (eT d A _ h.1) (sSs b A _ h.2)
    · cases h
  | .app o e, X, I, A, s, h => by
    simp only [mS] at h
    split at h
    · simp only [Bool.and_eq_true, decide_eq_true_eq, Bool.not_eq_true'] at h
      obtain ⟨⟨⟨⟨⟨h1, h2⟩, h3⟩, h4⟩, h5⟩, h6⟩ := h
      subst h1
      exact sS_app A.good (eE o A _ h5) (eE e A _ h6) h2 h3 h4
    · cases h
  | .ext o e, X, I, A, s, h => by
    simp only [mS] at h
    split at h
    · simp only [Bool.and_eq_true, decide_eq_true_eq, Bool.not_eq_true'] at h
      obtain ⟨⟨⟨⟨⟨h1, h2⟩, h3⟩, h4⟩, h5⟩, h6⟩ := h
      subst h1
      exact sS_ext A.good (eE o A _ h5) (eE e A _ h6) h2 h3 h4
    · cases h
  | .setI o i e, X, I, A, s, h => by
    simp only [mS] at h
    split at h
    · simp only [Bool.and_eq_true, Bool.not_eq_true'] at h
      exact sS_setI A.good (eE e A _ h.1.1.2) (eE o A _ h.1.2) (eE i A _ h.2) h.1.1.1
    · cases h
  | .brk, X, I, A, s, h => by
    simp only [mS] at h
    split at h
    · exact sS_brk
    · cases h
  | .cont, X, I, A, s, h => by
    simp only [mS] at h
    split at h
    · exact sS_cont
    · cases h
  | .nil, X, I, A, s, h => by simp [mS] at h
  | .cons _ _, X, I, A, s, h => by simp [mS] at h
  | .setS _ _ _ _, X, I, A, s, h => by simp [mS] at h
  | .raise _ _, X, I, A, s, h => by simp [mS] at h
theorem sSs : ∀ (is : IS) {X : Cx} {I : Inf} (A : At c X I cb) (ss : List Stmt), mSs I is ss = true → PSs X ss (tS c WF (evalS T cb is))
  | .nil, X, I, A, ss, h => by
    cases ss with
    | nil => exact sSs_nil
    | cons _ _ => simp [mSs] at h
  | .cons a r, X, I, A, ss, h => by
    cases ss with
    | nil => simp [mSs] at h
    | cons s ss =>
      simp only [mSs, Bool.and_eq_true] at h
      exact sSs_cons (sS a A _ h.1) (sSs r A _ h.2)
  | .pass, X, I, A, ss, h => by simp [mSs] at h
  | .bad, X, I, A, ss, h => by simp [mSs] at h
  | .set _ _, X, I, A, ss, h => by simp [mSs] at h
  | .setT _ _, X, I, A, ss, h => by simp [mSs] at h
  | .par _ _, X, I, A, ss, h => by simp [mSs] at h
  | .aug _ _ _, X, I, A, ss, h => by simp [mSs] at h
  | .expr _, X, I, A, ss, h => by simp [mSs] at h
  | .ret _, X, I, A, ss, h => by simp [mSs] at h
  | .retN, X, I, A, ss, h => by simp [mSs] at h
  | .ite _ _ _, X, I, A, ss, h => by simp [mSs] at h
  | .for_ _ _ _, X, I, A, ss, h => by simp [mSs] at h
  | .while_ _ _ _, X, I, A, ss, h => by simp [mSs] at h
  | .app _ _, X, I, A, ss, h => by simp [mSs] at h
  | .ext _ _, X, I, A, ss, h => by simp [mSs] at h
  | .setI _ _ _, X, I, A, ss, h => by simp [mSs] at h
  | .setS _ _ _ _, X, I, A, ss, h => by simp [mSs] at h
  | .brk, X, I, A, ss, h => by simp [mSs] at h
  | .cont, X, I, A, ss, h => by simp [mSs] at h
  | .raise _ _, X, I, A, ss, h => by simp [mSs] at h
end
end
end MPS

namespace MPS
open PySem PySem.Spec L2 MP
/-- a def of the text: its name, its qualified name, the statement, its slots, its parameters -/
structure DefR where
  x : Str
  qual : Str
  st : Stmt
  N : List Str
  ps : List Str
def infOf (P : MP.Prog) (gl : List (Str × GK)) (kc : List (Nat × Nat × List Str × List Nat)) (d : DefR) : Inf :=
  { N := d.N, sc := defScope d.st, raw := (defScope d.st).names, gl := gl, io := P.fns.map (·.io), kc := kc }
/-- what can be checked of the text alone -/
def rowB (P : MP.Prog) (gl : List (Str × GK)) (kc : List (Nat × Nat × List Str × List Nat)) (d : DefR) (fn : MP.Fn) : Bool :=
  decide (fn.np = d.ps.length) && decide (fn.ns = d.N.length) && decide (fn.io.length ≤ fn.np) && decide (d.N.Nodup) && decide (d.N.take d.ps.length = d.ps) &&
  (match (defScope d.st).kind with
    | .function => true
    | _ => false) && !(defScope d.st).isCoroutine && !(defScope d.st).isGenerator &&
  (d.ps.all fun x => match (defScope d.st).names.lookup x with
    | some .local => true
    | some .cell => true
    | _ => false) &&
  ((defScope d.st).names.all fun y => match y.2 with
    | .free => false
    | _ => true) &&
  mSs (infOf P gl kc d) fn.body (defBody d.st)
structure Row (K : PySem.W.Frag) (mg : Str → Option Value) (c : C) (fd : FuncData) (kc : List (Nat × Nat × List Str × List Nat)) (d : DefR) (i : Nat) : Prop where
  F : Fun K d.x d.qual d.st (c.fa i) fd
  hm : mg d.x = some (.ref (c.fa i))
  hb : Binds K fd d.ps []
  kw : ∀ n ks ar, (i, n, ks, ar) ∈ kc → KBn K fd d.ps n ks (fun us ws => arrG ar (us ++ ws)) (fun vs zs => arrG ar (vs ++ zs))
section
variable {prog : Program} {w : World} {K : PySem.W.Frag} {mg : Str → Option Value} {base : PySem.Heap} {c : C} {P : MP.Prog} {gl : List (Str × GK)} {kc : List (Nat × Nat × List Str × List Nat)} {D : List DefR} {fd : Nat → FuncData}
theorem scope_of {d : DefR} {fn : MP.Fn} (h : rowB P gl kc d fn = true) : FnScope d.N d.ps (defScope d.st) ∧ fn.np = d.ps.length ∧ fn.ns = d.N.length ∧ fn.io.length ≤ fn.np ∧ mSs (infOf P gl kc d) fn.body (defBody d.st) = true := by
  unfold rowB at h
  simp only [Bool.and_eq_true, decide_eq_true_eq, Bool.not_eq_true'] at h
  obtain ⟨⟨⟨⟨⟨⟨⟨⟨⟨⟨h1, h2⟩, h3⟩, h4⟩, h5⟩, h6⟩, h7⟩, h8⟩, h9⟩, h10⟩, h11⟩ := h
  refine ⟨⟨?_, h7, h8, h4, h5, fun x hx => ?_, fun y hy => ?_⟩, h1, h2, h3, h11⟩
  · split at h6
    · assumption
    · cases h6
  · have := List.all_eq_true.mp h9 x hx
    split at this
    · left; assumption
    · right; assumption
    · cases this
  · have := List.all_eq_true.mp h10 y hy
    intro e
    rw [e] at this
    cases this
theorem table_ok (hK : c.K = K) (rows : ∀ i d, D[i]? = some d → Row K mg c (fd i) kc d i) (hl : P.fns.length = D.length) (rb : ∀ (i : Nat) (d : DefR) (fn : MP.Fn), D[i]? = some d → P.fns[i]? = some fn → rowB P gl kc d fn = true)
    (glf : ∀ x i, gl.lookup x = some (.fn i) → ∃ d, D[i]? = some d ∧ d.x = x) (gc : ∀ x v, gl.lookup x = some (.cst v) → ∃ y u, mg x = some u ∧ RelV y u ∧ ∀ H ml G, RV c H ml G v y) (gb : ∀ x, gl.lookup x = some .blt → mg x = none) :
    ∀ (k i : Nat) (d : DefR) (fn : MP.Fn), D[i]? = some d → P.fns[i]? = some fn → FnOk prog w K mg base CX0 k (c.fa i) (fd i) d.ps (SpM c fn.io (MP.run P k i)) := by
  intro k
  induction k with
  | zero =>
    intro i d fn h1 h2
    refine ⟨fun vs H Q E h => ?_, fun A outer s H args us vs Q E _ _ _ _ h => ?_⟩
    · obtain ⟨ws, M, G, o, _, _, _, _, e, _⟩ := h
      cases e
    · obtain ⟨ws, M, G, o, _, _, _, _, e, _⟩ := h
      cases e
  | succ k ih =>
    intro i d fn h1 h2
    obtain ⟨S, np, ns, io, ok⟩ := scope_of (rb i d fn h1 h2)
    have R := rows i d h1
    have er : MP.run P (k + 1) i = callFn P.T (MP.run P k) fn := by
      funext xs
      show (match P.fns[i]? with
        | some fn => callFn P.T (MP.run P k) fn xs
        | none => Ret.bad) = _
      rw [h2]
    rw [er]
    refine R.F.ok S (fun vs H Q E h => ?_) fun cdv A outer s H vs Q E hr hsp => ?_
    · obtain ⟨ws, M, G, o, en, _, _, _, e, _⟩ := h
      rw [en.length, callFn_len e, np]
    · refine ⟨tS c WF (evalS P.T (MP.run P k) fn.body), sSs fn.body ?_ _ ok, body_ok ns io hsp⟩
      have cal : ∀ x n io, gl.lookup x = some (.fn n) → (P.fns.map (·.io))[n]? = some io → ∃ d2 fn2, D[n]? = some d2 ∧ d2.x = x ∧ P.fns[n]? = some fn2 ∧ io = fn2.io := fun x n io e1 e2 => by
        obtain ⟨d2, e3, e4⟩ := glf x n e1
        rw [List.getElem?_map] at e2
        obtain ⟨fn2, e5, e6⟩ := Option.map_eq_some_iff.mp e2
        exact ⟨d2, fn2, e3, e4, e5, e6.symm⟩
      refine ⟨⟨hK.symm, rfl, ?_, S.nd⟩, rfl, rfl, S.kind, fun x e => rfl, rfl, fun x n io e1 e2 => ?_, gc, gb, fun x f n ks ar io e1 e2 e3 => ?_⟩
      · have := hr.un
        show (A.deeper _).units + 100 < cLine
        omega
      · obtain ⟨d2, fn2, e3, e4, e5, rfl⟩ := cal x n io e1 e2
        have R2 := rows n d2 e3
        subst e4
        exact ⟨k, fd n, d2.ps, ⟨ih n d2 fn2 e3 e5, hr, R2.hm, R2.F.kp, R2.hb⟩⟩
      · obtain ⟨d2, fn2, e4, e5, e6, rfl⟩ := cal x f io e1 e3
        have R2 := rows f d2 e4
        subst e5
        exact ⟨k, fd f, d2.ps, ⟨ih f d2 fn2 e4 e6, hr, R2.hm, R2.F.kp, R2.kw n ks ar e2⟩⟩
/-- the law's promise -/
def spLaw (K : PySem.W.Frag) (n : Nat) : Sp := fun vs H Q _ => ∃ (a : Addr) (ns : List Int), vs = [.ref a] ∧ Only H ∧ SqL K H a (ns.map V.int) ∧ ns.length ≤ n ∧ ∀ H', Q (.bl true) H'
theorem law_ok {f : Addr} {fdl : FuncData} {x : Str} {i k n : Nat} (hK : c.K = K) (F : FnOk prog w K mg base CX0 k f fdl [x] (SpM c [] (MP.run P k i))) (h : ∀ ns : List Int, ns.length ≤ n → MP.run P k i [.scr (ns.map .int)] = .ret ⟨.bl true, false, []⟩) :
    FnOk prog w K mg base CX0 k f fdl [x] (spLaw K n) := by
  have imp : ∀ vs H Q E, spLaw K n vs H Q E → SpM c [] (MP.run P k i) vs H Q E := fun vs H Q E q => by
    obtain ⟨a, ns, rfl, ho, hs, hl, q⟩ := q
    have rs : ∀ (ml : List Addr) (G : Addr → Prop) (ns : List Int), RVs c H ml G (ns.map .int) (ns.map V.int) := fun ml G ns => by
      induction ns with
      | nil => exact .nil
      | cons m r ih => exact .cons .int ih
    have fl : FL c.K H a (ns.map V.int) := by
      rw [hK]
      rcases hs with (hs | hs) | hs
      · rcases ho a with z | ⟨o, xs, z⟩
        · rw [z] at hs; cases hs
        · rw [z] at hs; cases hs
      · exact .inl hs
      · exact .inr hs
    have nl : ∀ ns : List Int, noLocL (ns.map .int) = true := fun ns => by
      induction ns with
      | nil => rfl
      | cons m r ih => simp [noLocL, Val.noLoc, ih]
    have rv : RV c H [] (fun _ => False) (.scr (ns.map .int)) (.ref a) := by unfold RV; exact ⟨a, _, rfl, fl, rs _ _ ns⟩
    refine ⟨[.scr (ns.map .int)], [], fun _ => False, _, .re rv (by simpa [Val.noLoc] using nl ns) .nil, .nil, fun _ z => (List.not_mem_nil z).elim, fun _ (z : False) => False.elim z, h ns hl, fun y H' ml' G' h' _ _ _ rv => ?_⟩
    rcases rv with ⟨z, _⟩ | ⟨_, r, _⟩
    · cases z
    · rw [r.bl']; exact q H'
  exact ⟨fun vs H Q E q => F.len vs H Q E (imp vs H Q E q), fun A outer s H args us vs Q E h1 h2 h3 h4 q => F.run A outer s H args us vs Q E h1 h2 h3 h4 (imp vs H Q E q)⟩
def GlOk (mg : Str → Option Value) (c : C) (p : Str × GK) : Prop := match p.2 with
  | .fn _ => True
  | .cst v => ∃ y u, mg p.1 = some u ∧ RelV y u ∧ ∀ H ml G, RV c H ml G v y
  | .blt => mg p.1 = none
def GlAll (mg : Str → Option Value) (c : C) : List (Str × GK) → Prop
  | [] => True
  | p :: r => GlOk mg c p ∧ GlAll mg c r
theorem GlAll.at : ∀ {l : List (Str × GK)} {x : Str} {k : GK}, GlAll mg c l → l.lookup x = some k → GlOk mg c (x, k)
  | [], x, k, _, h => by cases h
  | (y, j) :: r, x, k, g, h => by
    rw [List.lookup_cons] at h
    cases e : x == y with
    | true =>
      rw [e] at h
      cases h
      have := eq_of_beq e
      subst this
      exact g.1
    | false =>
      rw [e] at h
      exact GlAll.at g.2 h
def RowsAll (K : PySem.W.Frag) (mg : Str → Option Value) (c : C) (kc : List (Nat × Nat × List Str × List Nat)) : Nat → List DefR → List FuncData → Prop
  | _, [], [] => True
  | i, d :: r, f :: s => Row K mg c f kc d i ∧ RowsAll K mg c kc (i + 1) r s
  | _, _, _ => False
theorem RowsAll.at : ∀ {D : List DefR} {fs : List FuncData} {i j : Nat} {d : DefR}, RowsAll K mg c kc i D fs → D[j]? = some d → ∃ f, fs[j]? = some f ∧ Row K mg c f kc d (i + j)
  | [], _, _, _, _, _, h => by simp at h
  | d :: r, [], _, _, _, g, _ => g.elim
  | d :: r, f :: s, i, 0, d2, g, h => by
    simp at h
    subst h
    exact ⟨f, rfl, g.1⟩
  | d :: r, f :: s, i, j + 1, d2, g, h => by
    obtain ⟨f2, e, q⟩ := RowsAll.at (j := j) g.2 (by simpa using h)
    have : i + 1 + j = i + (j + 1) := by omega
    rw [this] at q
    exact ⟨f2, by simpa using e, q⟩
/-- the text's checks, all at once -/
def textB (P : MP.Prog) (gl : List (Str × GK)) (kc : List (Nat × Nat × List Str × List Nat)) (D : List DefR) : Bool :=
  decide (P.fns.length = D.length) && ((D.zip P.fns).all fun p => rowB P gl kc p.1 p.2) && gl.all fun p => match p.2 with
    | .fn i => match D[i]? with
      | some d => decide (d.x = p.1)
      | none => false
    | _ => true
theorem look_mem : ∀ {l : List (Str × GK)} {x : Str} {k : GK}, l.lookup x = some k → (x, k) ∈ l
  | [], x, k, h => by cases h
  | (y, j) :: r, x, k, h => by
    rw [List.lookup_cons] at h
    cases e : x == y with
    | true =>
      rw [e] at h
      cases h
      have := eq_of_beq e
      subst this
      exact List.mem_cons_self
    | false =>
      rw [e] at h
      exact List.mem_cons_of_mem _ (look_mem h)
theorem all_ok {fs : List FuncData} (hK : c.K = K) (hB : textB P gl kc D = true) (rows : RowsAll K mg c kc 0 D fs) (g : GlAll mg c gl) (k : Nat) {i : Nat} {d : DefR} {fn : MP.Fn} {f : FuncData} (h1 : D[i]? = some d) (h2 : P.fns[i]? = some fn) (h3 : fs[i]? = some f) :
    FnOk prog w K mg base CX0 k (c.fa i) f d.ps (SpM c fn.io (MP.run P k i)) := by
  unfold textB at hB
  simp only [Bool.and_eq_true, decide_eq_true_eq] at hB
  obtain ⟨⟨hl, hr⟩, hg⟩ := hB
  have q := table_ok (kc := kc) (prog := prog) (w := w) (base := base) (fd := fun i => fs.getD i f) hK (fun i d e => ?_) hl (fun i d fn e1 e2 => ?_) (fun x i e => ?_) (fun x v e => g.at e) (fun x e => g.at e) k i d fn h1 h2
  · simpa [List.getD_eq_getElem?_getD, h3] using q
  · obtain ⟨f2, e2, R⟩ := rows.at e
    rw [Nat.zero_add] at R
    simpa [List.getD_eq_getElem?_getD, e2] using R
  · refine List.all_eq_true.mp hr (d, fn) ?_
    refine List.mem_of_getElem? (i := i) ?_
    rw [List.getElem?_zip_eq_some]
    exact ⟨e1, e2⟩
  · have := List.all_eq_true.mp hg _ (look_mem e)
    simp only at this
    split at this
    · rename_i d2 e2
      exact ⟨d2, e2, of_decide_eq_true this⟩
    · cases this
/-- an int of the module -/
theorem gl_int {x : Str} {i : Int} {t : Tok} (h : mg x = some (.int i t)) : GlOk mg c (x, .cst (.int i)) := ⟨.int i, _, h, ⟨t, rfl⟩, fun _ _ _ => .int⟩
end
end MPS

namespace K02
open PySem (Str)
open MP
def b__law_purse : IS := (.cons (.set 2 (.idx (.inl (.fcat (.inl (.fslc (.var 0) (.part (.var 1)) (.part (.bin .add (.var 1) (.k (.int (1))))))) (.inl (.fdisp (.acons (.k (.int (0))) .anil))))) (.k (.int (0))))) (.cons (.ite (.or (.cmp .ge (.var 2) (.bin .pow (.k (.int (10))) (.k (.int (18))))) (.cmp .lt (.var 2) (.k (.int (0))))) (.cons (.ret (.mk (.fdisp (.acons (.b2 .max (.var 2) (.bin .sub (.neg (.k (.int (1)))) (.var 2))) (.acons (.k (.int (0))) .anil))))) .nil) .nil) (.cons (.ret (.mk (.fdisp (.acons (.k (.int (0))) (.acons (.bin .add (.k (.int (1))) (.bin .mod (.bin .add (.bin .mul (.var 2) (.k (.int (48271)))) (.bin .mul (.bin .mul (.bin .add (.var 1) (.k (.int (1)))) (.k (.int (69621)))) (.bin .add (.var 1) (.k (.int (7)))))) (.k (.int (2147483629))))) .anil))))) .nil)))
def b__law_take : IS := (.cons (.ite (.cmp .eq (.idx (.var 0) (.k (.int (1)))) (.k (.int (0)))) (.cons (.set 2 (.bin .mod (.idx (.var 0) (.k (.int (0)))) (.var 1))) (.cons (.setI (.var 0) (.k (.int (0))) (.bin .fdiv (.idx (.var 0) (.k (.int (0)))) (.var 1))) (.cons (.ret (.var 2)) .nil))) .nil) (.cons (.setI (.var 0) (.k (.int (1))) (.bin .add (.k (.int (1))) (.bin .mod (.bin .add (.bin .mul (.idx (.var 0) (.k (.int (1)))) (.k (.int (39373)))) (.k (.int (7919)))) (.k (.int (2147483587)))))) (.cons (.ret (.bin .mod (.bin .fdiv (.bin .mod (.bin .mul (.idx (.var 0) (.k (.int (1)))) (.k (.int (30269)))) (.k (.int (2147483563)))) (.k (.int (11)))) (.var 1))) .nil)))
def b__law_thing : IS := (.cons (.par [2, 3] (.acons (.call 1 [true] (.acons (.var 0) (.acons (.k (.int (22))) .anil))) (.acons (.idx (.inl (.fdisp (.acons (.k (.bl true)) (.acons (.k (.bl false)) (.acons (.k .non) (.acons (.k (.str "8")) (.acons (.k (.str "")) (.acons (.tup (.acons (.k (.int (8))) .anil)) (.acons (.inl (.fdisp .anil)) (.acons .d0 (.acons (.tup (.acons (.inl (.fdisp .anil)) .anil)) .anil))))))))))) (.call 1 [true] (.acons (.var 0) (.acons (.k (.int (9))) .anil)))) .anil))) (.cons (.set 4 (.bin .shl (.k (.int (8))) (.call 1 [true] (.acons (.var 0) (.acons (.bin .sub (.var 1) (.k (.int (2)))) .anil))))) (.cons (.set 5 (.bin .mul (.call 1 [true] (.acons (.var 0) (.acons (.bin .fdiv (.bin .shl (.k (.int (1))) (.var 1)) (.var 4)) .anil))) (.var 4))) (.cons (.set 6 (.idx (.inl (.fdisp (.acons (.k (.int (1))) (.acons (.k (.int (4))) (.acons (.neg (.k (.int (1)))) (.acons (.var 4) (.acons (.neg (.var 4)) (.acons (.bin .shl (.k (.int (1))) (.var 1)) (.acons (.neg (.bin .shl (.k (.int (1))) (.var 1))) (.acons (.k (.int (8))) .anil)))))))))) (.call 1 [true] (.acons (.var 0) (.acons (.k (.int (8))) .anil))))) (.cons (.set 7 (.inl (.fdisp (.acons (.tup (.acons (.var 5) (.acons (.var 4) .anil))) (.acons (.tup (.acons (.bin .add (.var 5) (.var 6)) (.acons (.var 4) .anil))) (.acons (.tup (.acons (.var 5) (.acons (.bin .mul (.k (.int (2))) (.var 4)) .anil))) (.acons (.tup (.acons (.var 5) (.acons (.bin .fdiv (.var 4) (.k (.int (2)))) .anil))) (.acons (.tup (.acons (.var 5) (.acons (.bin .add (.var 4) (.var 6)) .anil))) .anil)))))))) (.cons (.set 7 (.inl (.fcat (.var 7) (.inl (.fdisp (.acons (.tup (.acons (.bin .shl (.k (.int (1))) (.var 1)) (.acons (.var 4) .anil))) (.acons (.tup (.acons (.var 5) (.acons (.k (.int (0))) .anil))) (.acons (.tup (.acons (.var 5) (.acons (.neg (.var 4)) .anil))) (.acons (.tup (.acons (.var 3) (.acons (.var 4) .anil))) (.acons (.tup (.acons (.var 5) (.acons (.var 3) .anil))) (.acons (.tup (.acons (.var 4) (.acons (.var 5) .anil))) .anil))))))))))) (.cons (.set 7 (.inl (.fcat (.var 7) (.inl (.fdisp (.acons (.inl (.fdisp (.acons (.var 5) (.acons (.var 4) .anil)))) (.acons (.tup (.acons (.var 5) .anil)) (.acons (.tup (.acons (.var 5) (.acons (.var 4) (.acons (.var 4) .anil)))) (.acons (.tup (.acons (.tup (.acons (.var 5) (.acons (.var 4) .anil))) .anil)) (.acons (.tup (.acons (.b1 .str (.var 5)) (.acons (.var 4) .anil))) (.acons (.var 3) (.acons (.var 5) .anil)))))))))))) (.cons (.ret (.idx (.inl (.fcat (.var 7) (.inl (.fdisp (.acons (.tup (.acons (.var 5) (.acons (.var 4) (.acons (.k (.bl true)) .anil)))) (.acons (.tup .anil) (.acons (.tup (.acons (.k (.int (0))) (.acons (.bin .pow (.k (.int (10))) (.k (.int (30)))) .anil))) (.acons (.tup (.acons (.bin .pow (.k (.int (10))) (.k (.int (30)))) (.acons (.k (.int (8))) .anil))) .anil)))))))) (.var 2))) .nil))))))))
def b_is_whole : IS := (.cons (.ret (.and (.isi (.var 0) "int") (.not (.isi (.var 0) "bool")))) .nil)
def b_is_within : IS := (.cons (.ret (.and (.call 3 [] (.acons (.var 0) .anil)) (.cmp2 .le .le (.var 1) (.var 0) (.var 2)))) .nil)
def b_check_height : IS := (.cons (.ite (.not (.tr (.call 4 [] (.acons (.var 0) (.acons (.k (.int (4))) (.acons (.k (.int (8))) .anil)))))) (.cons .bad .nil) .nil) .nil)
def b_all_sizes : IS := (.cons (.ret (.b1 .tuple (.inl (.fcomp [1] (.n 1) (.rng1 (.bin .sub (.var 0) (.k (.int (2))))) .anil (.bin .shl (.k (.int (8))) (.var 1)))))) .nil)
def b_wide : IS := (.cons (.ret (.bin .shl (.k (.int (1))) (.var 0))) .nil)
def b_is_one_room : IS := (.cons (.ite (.or (.not (.tr (.isi (.var 1) "tuple"))) (.or (.cmp .ne (.b1 .len (.var 1)) (.k (.int (2)))) (.not (.tr (.b1 .all (.inl (.fcomp [4] (.n 4) (.seq (.var 1)) .anil (.call 3 [] (.acons (.var 4) .anil))))))))) (.cons (.ret (.k (.bl false))) .nil) .nil) (.cons (.setT (.t (.cons (.n 2) (.cons (.n 3) .nil))) (.var 1)) (.cons (.ret (.and (.cmp .mem (.var 3) (.call 6 [] (.acons (.var 0) .anil))) (.and (.cmp2 .le .lt (.k (.int (0))) (.var 2) (.call 7 [] (.acons (.var 0) .anil))) (.cmp .eq (.bin .mod (.var 2) (.var 3)) (.k (.int (0))))))) .nil)))
def b_is_room : IS := (.cons (.expr (.call 5 [] (.acons (.var 0) .anil))) (.cons (.ret (.call 8 [] (.acons (.var 0) (.acons (.var 1) .anil)))) .nil))
def b__law_told : IS := (.cons (.set 3 (.inl (.fdisp (.acons (.call 9 [] (.acons (.var 0) (.acons (.var 1) .anil))) (.acons (.callk 9 [] 0 2 .anil (.acons (.var 1) (.acons (.var 0) .anil)) [1, 0]) .anil))))) (.cons (.ret (.b1 .all (.inl (.fcomp [4] (.n 4) (.seq (.var 3)) .anil (.and (.isi (.var 4) "bool") (.cmp .eq (.var 4) (.var 2))))))) .nil))
def b__law_whole : IS := (.cons (.ret (.and (.isi (.var 0) "int") (.not (.isi (.var 0) "bool")))) .nil)
def b__law_due : IS := (.cons (.ite (.or (.not (.tr (.isi (.var 1) "tuple"))) (.or (.cmp .ne (.b1 .len (.var 1)) (.k (.int (2)))) (.or (.not (.tr (.call 11 [] (.acons (.idx (.var 1) (.k (.int (0)))) .anil)))) (.not (.tr (.call 11 [] (.acons (.idx (.var 1) (.k (.int (1)))) .anil))))))) (.cons (.ret (.k (.bl false))) .nil) .nil) (.cons (.setT (.t (.cons (.n 2) (.cons (.n 3) .nil))) (.var 1)) (.cons (.set 4 (.inl (.fcomp [5] (.n 5) (.rng1 (.bin .sub (.var 0) (.k (.int (2))))) .anil (.bin .shl (.k (.int (8))) (.var 5))))) (.cons (.ret (.and (.cmp .mem (.var 3) (.var 4)) (.and (.cmp .ge (.var 2) (.k (.int (0)))) (.and (.cmp .lt (.var 2) (.bin .shl (.k (.int (1))) (.var 0))) (.cmp .eq (.bin .mul (.bin .fdiv (.var 2) (.var 3)) (.var 3)) (.var 2)))))) .nil))))
def b_law : IS := (.cons (.for_ (.n 1) (.rng1 (.b2 .max (.k (.int (2))) (.b2 .min (.b1 .len (.var 0)) (.k (.int (8)))))) (.cons (.set 2 (.mk (.call 0 [] (.acons (.var 0) (.acons (.var 1) .anil))))) (.cons (.set 3 (.idx (.inl (.fdisp (.acons (.k (.int (4))) (.acons (.k (.int (4))) (.acons (.k (.int (5))) (.acons (.k (.int (5))) (.acons (.k (.int (6))) (.acons (.k (.int (7))) (.acons (.k (.int (8))) .anil))))))))) (.call 1 [true] (.acons (.var 2) (.acons (.k (.int (7))) .anil))))) (.cons (.for_ (.n 4) (.rng1 (.k (.int (9)))) (.cons (.set 6 (.call 2 [true] (.acons (.var 2) (.acons (.var 3) .anil)))) (.cons (.ite (.not (.tr (.call 10 [] (.acons (.var 3) (.acons (.var 6) (.acons (.call 12 [] (.acons (.var 3) (.acons (.var 6) .anil))) .anil)))))) (.cons (.ret (.k (.bl false))) .nil) .nil) .nil))) (.cons (.set 5 (.bin .shl (.k (.int (8))) (.call 1 [true] (.acons (.var 2) (.acons (.bin .sub (.var 3) (.k (.int (2)))) .anil))))) (.cons (.for_ (.n 6) (.seq (.inl (.fdisp (.acons (.tup (.acons (.k (.int (0))) (.acons (.var 5) .anil))) (.acons (.tup (.acons (.k (.bl false)) (.acons (.var 5) .anil))) (.acons (.tup (.acons (.k (.int (0))) (.acons (.var 5) .anil))) (.acons (.tup (.acons (.k (.int (0))) (.acons (.bin .add (.var 5) (.k (.int (1)))) .anil))) (.acons (.tup (.acons (.k (.int (8))) (.acons (.k (.int (8))) .anil))) (.acons (.tup (.acons (.k (.int (8))) (.acons (.k (.bl true)) .anil))) (.acons (.tup (.acons (.k (.int (8))) (.acons (.k (.int (8))) .anil))) .anil)))))))))) (.cons (.ite (.not (.tr (.call 10 [] (.acons (.var 3) (.acons (.var 6) (.acons (.call 12 [] (.acons (.var 3) (.acons (.var 6) .anil))) .anil)))))) (.cons (.ret (.k (.bl false))) .nil) .nil) .nil)) (.cons (.for_ (.n 7) (.rng2 (.neg (.var 5)) (.bin .add (.bin .shl (.k (.int (1))) (.var 3)) (.k (.int (9))))) (.cons (.ite (.cmp .ne (.call 9 [] (.acons (.var 3) (.acons (.tup (.acons (.var 7) (.acons (.var 5) .anil))) .anil))) (.call 12 [] (.acons (.var 3) (.acons (.tup (.acons (.var 7) (.acons (.var 5) .anil))) .anil)))) (.cons (.ret (.k (.bl false))) .nil) .nil) .nil)) (.cons (.set 7 (.bin .mul (.call 1 [true] (.acons (.var 2) (.acons (.k (.int (4))) .anil))) (.k (.int (16))))) (.cons (.for_ (.n 8) (.rng2 (.neg (.k (.int (1)))) (.bin .add (.bin .mul (.k (.int (2))) (.bin .shl (.k (.int (1))) (.var 3))) (.k (.int (2))))) (.cons (.ite (.cmp .ne (.call 9 [] (.acons (.var 3) (.acons (.tup (.acons (.var 7) (.acons (.var 8) .anil))) .anil))) (.call 12 [] (.acons (.var 3) (.acons (.tup (.acons (.var 7) (.acons (.var 8) .anil))) .anil)))) (.cons (.ret (.k (.bl false))) .nil) .nil) .nil)) .nil))))))))) (.cons (.ret (.k (.bl true))) .nil))
def prog : MP.Prog := { T := [], fns := [⟨2, 3, [], b__law_purse⟩,
  ⟨2, 3, [true], b__law_take⟩,
  ⟨2, 8, [true], b__law_thing⟩,
  ⟨1, 1, [], b_is_whole⟩,
  ⟨3, 3, [], b_is_within⟩,
  ⟨1, 1, [], b_check_height⟩,
  ⟨1, 2, [], b_all_sizes⟩,
  ⟨1, 1, [], b_wide⟩,
  ⟨2, 5, [], b_is_one_room⟩,
  ⟨2, 2, [], b_is_room⟩,
  ⟨3, 5, [], b__law_told⟩,
  ⟨1, 1, [], b__law_whole⟩,
  ⟨2, 6, [], b__law_due⟩,
  ⟨1, 9, [], b_law⟩] }

abbrev rt (v : Val) : Ret := .ret ⟨v, false, []⟩
def isI : Val → Bool
  | .int _ => true
  | _ => false
/-- a plain value at a call's door -/
def okV : Val → Bool
  | .loc _ => false
  | .fn _ => false
  | .ty _ => false
  | _ => true
def Tall (t : Int) : Prop := t = 4 ∨ t = 5 ∨ t = 6 ∨ t = 7 ∨ t = 8
theorem whole (n : Nat) (v : Val) (h : okV v = true) : run prog (n + 1) 3 [v] = rt (.bl (isI v)) := by
  cases v <;> first | rfl | (simp [okV] at h)
theorem whole2 (n : Nat) (v : Val) (h : okV v = true) : run prog (n + 1) 11 [v] = rt (.bl (isI v)) := by
  cases v <;> first | rfl | (simp [okV] at h)
theorem check {t : Int} (n : Nat) (h : Tall t) : run prog (n + 3) 5 [.int t] = rt .non := by
  rcases h with rfl | rfl | rfl | rfl | rfl <;> rfl
theorem at8 (n : Nat) (xs : List Val) : run prog (n + 1) 8 xs = callFn [] (run prog n) ⟨2, 5, [], b_is_one_room⟩ xs := rfl
theorem at12 (n : Nat) (xs : List Val) : run prog (n + 1) 12 xs = callFn [] (run prog n) ⟨2, 6, [], b__law_due⟩ xs := rfl
def szs (t : Int) : List Val := (List.range (t - 2).toNat).map fun i => .int (8 * 2 ^ i)
theorem sizes {t : Int} (n : Nat) (h : Tall t) : run prog (n + 1) 6 [.int t] = rt (.tup (szs t)) := by
  rcases h with rfl | rfl | rfl | rfl | rfl <;> rfl
theorem wide {t : Int} (n : Nat) (h : Tall t) : run prog (n + 1) 7 [.int t] = rt (.int (2 ^ t.toNat)) := by
  rcases h with rfl | rfl | rfl | rfl | rfl <;> rfl
theorem pos_of {t b : Int} (ht : Tall t) (h : ((szs t).any fun y => y.eqv (.int b)) = true) : 0 < b ∧ b < 1073741824 := by
  rcases ht with rfl | rfl | rfl | rfl | rfl <;> (simp [szs, Val.eqv, List.range_succ] at h; omega)
theorem mem_szs {t b : Int} (h : Heap) (ht : Tall t) : cmpV h .mem (.int b) (.tup (szs t)) = some ((szs t).any fun y => y.eqv (.int b)) := by
  rcases ht with rfl | rfl | rfl | rfl | rfl <;> rfl
theorem mem_szs2 {t b : Int} (h : Heap) (ht : Tall t) : cmpV h .mem (.int b) (.lst (szs t)) = some ((szs t).any fun y => y.eqv (.int b)) := by
  rcases ht with rfl | rfl | rfl | rfl | rfl <;> rfl
def D (t s b : Int) : Bool := ((szs t).any fun y => y.eqv (.int b)) && ((decide (0 ≤ s) && decide (s < 2 ^ t.toNat)) && decide (s % b = 0))
theorem room_core {t : Int} (n : Nat) (ht : Tall t) (s b : Int) : run prog (n + 2) 8 [.int t, .tup [.int s, .int b]] = rt (.bl (D t s b)) := by
  rw [at8]
  refine call_rt (v := .bl (D t s b)) (h' := []) rfl rfl ?_ rfl
  refine s_cons (h1 := []) (s_ifF (h1 := []) ?_ s_nil) (s_cons (h1 := []) (s_setT (e_var rfl) rfl) (s_stop (s_ret ?_)))
  · exact t_or (r := false) (t_not (r := true) (t_tr (e_isi (e_var rfl) rfl rfl) rfl)) fun _ => t_or (r := false) (t_cmp (e_b1 (e_var rfl) rfl) e_k rfl) fun _ => t_not (r := true) (t_tr (e_b1 (e_inl (f_comp (g := fun x => .bl (isI x)) (i_seq (e_var rfl) rfl) (by show 2 ≤ SZ; decide) fun x hx => by
      have hx : x = .int s ∨ x = .int b := by simpa using hx
      rcases hx with rfl | rfl <;> exact ⟨_, rfl, e_call (a_cons (e_var rfl) a_nil) (d_call rfl rfl rfl (whole n _ rfl))⟩)) rfl) rfl)
  · refine e_and (e_cmp (e_var rfl) (e_call (a_cons (e_var rfl) a_nil) (d_call rfl rfl rfl (sizes n ht))) (mem_szs _ ht)) fun hb => ?_
    have hp := pos_of ht hb
    exact e_and (e_cmp2 e_k (e_var rfl) rfl fun _ => ⟨e_call (a_cons (e_var rfl) a_nil) (d_call rfl rfl rfl (wide n ht)), rfl⟩) fun _ => e_cmp (e_bin (z := .int (s % b)) (e_var rfl) (e_var rfl) (by simp [binV, binI, hp.1])) e_k rfl
theorem some_list {t : Int} {n : Nat} (ht : Tall t) {s b : Int} : evalF [] (run prog n) [some (.int t), some (.tup [.int s, .int b]), some (.int s), some (.int b), none, none] (.fcomp [5] (.n 5) (.rng1 (.bin .sub (.var 0) (.k (.int (2))))) .anil (.bin .shl (.k (.int (8))) (.var 5))) [] = .ok (szs t) [] := by
  rcases ht with rfl | rfl | rfl | rfl | rfl <;> rfl
theorem due_core {t : Int} (n : Nat) (ht : Tall t) (s b : Int) : run prog (n + 2) 12 [.int t, .tup [.int s, .int b]] = rt (.bl (D t s b)) := by
  rw [at12]
  have e : D t s b = (((szs t).any fun y => y.eqv (.int b)) && (decide (0 ≤ s) && (decide (s < 2 ^ t.toNat) && decide (s / b * b = s)))) := by
    unfold D
    cases h : (szs t).any fun y => y.eqv (.int b) with
    | false => rfl
    | true =>
      have hp := pos_of ht h
      have : decide (s % b = 0) = decide (s / b * b = s) := by
        have h1 := Int.mul_ediv_add_emod s b
        have h2 : b * (s / b) = s / b * b := Int.mul_comm _ _
        by_cases hz : s % b = 0
        · rw [decide_eq_true hz, decide_eq_true (by omega)]
        · rw [decide_eq_false hz, decide_eq_false (by omega)]
      rw [this, Bool.and_assoc]
  refine call_rt (v := .bl (D t s b)) (h' := []) rfl rfl ?_ rfl
  rw [e]
  refine s_cons (h1 := []) (s_ifF (h1 := []) ?_ s_nil) (s_cons (h1 := []) (s_setT (e_var rfl) rfl) (s_cons (h1 := []) (s_set (e_inl (some_list ht))) (s_stop (s_ret ?_))))
  · exact t_or (r := false) (t_not (r := true) (t_tr (e_isi (e_var rfl) rfl rfl) rfl)) fun _ => t_or (r := false) (t_cmp (e_b1 (e_var rfl) rfl) e_k rfl) fun _ =>
      t_or (r := false) (t_not (r := true) (t_tr (e_call (a_cons (e_idx (e_var rfl) e_k rfl) a_nil) (d_call rfl rfl rfl (whole2 n (.int s) rfl))) rfl)) fun _ =>
      t_not (r := true) (t_tr (e_call (a_cons (e_idx (e_var rfl) e_k rfl) a_nil) (d_call rfl rfl rfl (whole2 n (.int b) rfl))) rfl)
  · refine e_and (e_cmp (e_var rfl) (e_var rfl) (mem_szs2 _ ht)) fun hb => ?_
    have hp := pos_of ht hb
    refine e_and (e_cmp (e_var rfl) e_k rfl) fun _ => e_and (e_cmp (e_var rfl) (e_bin (z := .int (2 ^ t.toNat)) e_k (e_var rfl) (by rcases ht with rfl | rfl | rfl | rfl | rfl <;> rfl)) rfl) fun _ =>
      e_cmp (e_bin (z := .int (s / b * b)) (e_bin (z := .int (s / b)) (e_var rfl) (e_var rfl) (by simp [binV, binI, hp.1, hp.2])) (e_var rfl) ?_) (e_var rfl) rfl
    have hs : small b = true := by simp [small]; omega
    simp [binV, binI, hs]
/-- the law's word and the program's are one -/
def Good (t : Int) (v : Val) : Prop := okV v = true ∧ (∀ h, res h v = some v) ∧ ∃ b, (∀ n, run prog (n + 2) 12 [.int t, v] = rt (.bl b)) ∧ ∀ n, run prog (n + 2) 8 [.int t, v] = rt (.bl b)
theorem good_core {t : Int} (ht : Tall t) (s b : Int) : Good t (.tup [.int s, .int b]) := ⟨rfl, fun _ => rfl, D t s b, fun n => due_core n ht s b, fun n => room_core n ht s b⟩
theorem hand2 {t : Int} {v : Val} (h : Heap) (g : Good t v) : handOn h [] [.int t, v] = some [.int t, v] := by
  simp [handOn, g.2.1, show res h (.int t) = some (.int t) from rfl]
theorem ro2 {t : Int} {v : Val} (g : Good t v) : roAt [] [.int t, v] = [] := by
  have := g.1
  cases v <;> first | rfl | (simp [okV] at this)
theorem enter2 (x v : Val) (h : Heap) : enter [] [x, v] h = some ([some x, some v], h) := by simp [enter]
theorem enter3 (x v w : Val) (h : Heap) : enter [] [x, v, w] h = some ([some x, some v, some w], h) := by simp [enter]
theorem at9 (n : Nat) (xs : List Val) : run prog (n + 1) 9 xs = callFn [] (run prog n) ⟨2, 2, [], b_is_room⟩ xs := rfl
theorem room {t : Int} {v : Val} {b : Bool} (ht : Tall t) (g : Good t v) (hb : ∀ n, run prog (n + 2) 8 [.int t, v] = rt (.bl b)) (n : Nat) : run prog (n + 4) 9 [.int t, v] = rt (.bl b) := by
  rw [at9]
  refine call_rt (v := .bl b) (h' := []) rfl (enter2 _ _ _) ?_ rfl
  exact s_cons (h1 := []) (s_expr (e_call (a_cons (e_var rfl) a_nil) (d_call rfl rfl rfl (check n ht)))) (s_stop (s_ret (e_call (a_cons (e_var rfl) (a_cons (e_var rfl) a_nil)) (d_call (hand2 _ g) rfl (ro2 g) (hb (n + 1))))))
theorem at10 (n : Nat) (xs : List Val) : run prog (n + 1) 10 xs = callFn [] (run prog n) ⟨3, 5, [], b__law_told⟩ xs := rfl
theorem told {t : Int} {v : Val} {b : Bool} (ht : Tall t) (g : Good t v) (hb : ∀ n, run prog (n + 2) 8 [.int t, v] = rt (.bl b)) (n : Nat) : run prog (n + 5) 10 [.int t, v, .bl b] = rt (.bl true) := by
  rw [at10]
  have r := room ht g hb n
  refine call_rt (v := .bl true) (h' := []) rfl (enter3 _ _ _ _) ?_ rfl
  refine s_cons (h1 := []) (s_set (v := .lst [.bl b, .bl b]) (e_inl (f_disp (a_cons (e_call (a_cons (e_var rfl) (a_cons (e_var rfl) a_nil)) (d_call (hand2 _ g) rfl (ro2 g) r)) (a_cons (e_callk a_nil (a_cons (e_var rfl) (a_cons (e_var rfl) a_nil)) rfl (d_call (hand2 _ g) rfl (ro2 g) r)) a_nil)) (by show 2 ≤ SZ; decide)))) (s_stop (s_ret ?_))
  refine e_b1 (e_inl (f_comp (g := fun _ => .bl true) (i_seq (e_var rfl) rfl) (by show 2 ≤ SZ; decide) fun x hx => ?_)) rfl
  have hx : x = .bl b := by
    have : x = .bl b ∨ x = .bl b := by simpa using hx
    rcases this with h | h <;> exact h
  subst hx
  refine ⟨_, rfl, ?_⟩
  cases b with
  | true => exact e_and (r := true) (s := true) (e_isi (e_var rfl) rfl rfl) fun _ => e_cmp (e_var rfl) (e_var rfl) rfl
  | false => exact e_and (r := true) (s := true) (e_isi (e_var rfl) rfl rfl) fun _ => e_cmp (e_var rfl) (e_var rfl) rfl
/-- of no two whole numbers -/
theorem good_no {t : Int} (ht : Tall t) {v : Val} (h1 : okV v = true) (h2 : ∀ h, res h v = some v) (h3 : ∀ t, Tall t → ∀ n, run prog (n + 2) 12 [.int t, v] = rt (.bl false)) (h4 : ∀ t, Tall t → ∀ n, run prog (n + 2) 8 [.int t, v] = rt (.bl false)) : Good t v := ⟨h1, h2, false, h3 t ht, h4 t ht⟩
/-- the second things -/
def Sec (w : Val) : Prop := w ∈ [Val.bl true, .bl false, .non, .str "8", .str "", .tup [.int 8], .lst [], .dct [] [], .tup [.lst []]]
theorem sec_good {t : Int} (ht : Tall t) {w : Val} (hw : Sec w) (s b : Int) : Good t w ∧ Good t (.tup [w, .int b]) ∧ Good t (.tup [.int s, w]) := by
  simp only [Sec, List.mem_cons, List.not_mem_nil, or_false] at hw
  rcases hw with rfl | rfl | rfl | rfl | rfl | rfl | rfl | rfl | rfl <;>
    refine ⟨⟨rfl, fun _ => rfl, false, fun _ => rfl, fun _ => rfl⟩, ⟨rfl, fun _ => rfl, false, fun _ => rfl, fun _ => rfl⟩, ⟨rfl, fun _ => rfl, false, fun _ => rfl, fun _ => rfl⟩⟩
theorem int_good {t : Int} (s : Int) : Good t (.int s) := ⟨rfl, fun _ => rfl, false, fun _ => rfl, fun _ => rfl⟩
theorem one_good {t : Int} (s : Int) : Good t (.tup [.int s]) := ⟨rfl, fun _ => rfl, false, fun _ => rfl, fun _ => rfl⟩
theorem none_good {t : Int} : Good t (.tup []) := ⟨rfl, fun _ => rfl, false, fun _ => rfl, fun _ => rfl⟩
theorem three_good {t : Int} (s b d : Int) : Good t (.tup [.int s, .int b, .int d]) := ⟨rfl, fun _ => rfl, false, fun _ => rfl, fun _ => rfl⟩
theorem threeB_good {t : Int} (s b : Int) : Good t (.tup [.int s, .int b, .bl true]) := ⟨rfl, fun _ => rfl, false, fun _ => rfl, fun _ => rfl⟩
theorem lst_good {t : Int} (s b : Int) : Good t (.lst [.int s, .int b]) := ⟨rfl, fun _ => rfl, false, fun _ => rfl, fun _ => rfl⟩
theorem in_good {t : Int} (s b : Int) : Good t (.tup [.tup [.int s, .int b]]) := ⟨rfl, fun _ => rfl, false, fun _ => rfl, fun _ => rfl⟩
theorem str_good {t : Int} (s : Str) (b : Int) : Good t (.tup [.str s, .int b]) := ⟨rfl, fun _ => rfl, false, fun _ => rfl, fun _ => rfl⟩
theorem bl_good {t : Int} (s : Bool) (b : Int) : Good t (.tup [.bl s, .int b]) := ⟨rfl, fun _ => rfl, false, fun _ => rfl, fun _ => rfl⟩
theorem bl2_good {t : Int} (s : Bool) (b : Int) : Good t (.tup [.int b, .bl s]) := ⟨rfl, fun _ => rfl, false, fun _ => rfl, fun _ => rfl⟩
/-! ### the purse -/
theorem at1 (n : Nat) (xs : List Val) : run prog (n + 1) 1 xs = callFn [] (run prog n) ⟨2, 3, [true], b__law_take⟩ xs := rfl
theorem take (n : Nat) (a c m : Int) (h1 : 0 < m) (h2 : m < 1073741824) : ∃ r a2 c2 : Int, run prog (n + 1) 1 [.lst [.int a, .int c], .int m] = .ret ⟨.int r, false, [[.int a2, .int c2]]⟩ ∧ 0 ≤ r ∧ r < m := by
  by_cases hc : c = 0
  · subst hc
    refine ⟨a % m, a / m, 0, ?_, Int.emod_nonneg _ (by omega), Int.emod_lt_of_pos _ h1⟩
    rw [at1]
    refine call_rt (v := .int (a % m)) (h' := [.list [.int (a / m), .int 0]]) rfl rfl ?_ rfl
    refine s_stop (s_ifT (h1 := [.list [.int a, .int 0]]) (t_cmp (e_idx (e_var rfl) e_k rfl) e_k rfl) ?_)
    refine s_cons (h1 := [.list [.int a, .int 0]]) (s_set (v := .int (a % m)) (e_bin (e_idx (e_var rfl) e_k rfl) (e_var rfl) (by simp [binV, binI, h1]))) (s_cons (h1 := [.list [.int (a / m), .int 0]]) (s_setI (v := .int (a / m)) (e_bin (e_idx (e_var rfl) e_k rfl) (e_var rfl) (by simp [binV, binI, h1, h2])) (e_var rfl) e_k rfl) (s_stop (s_ret (e_var rfl))))
  · refine ⟨(1 + (c * 39373 + 7919) % 2147483587) * 30269 % 2147483563 / 11 % m, a, 1 + (c * 39373 + 7919) % 2147483587, ?_, Int.emod_nonneg _ (by omega), Int.emod_lt_of_pos _ h1⟩
    rw [at1]
    refine call_rt (v := .int ((1 + (c * 39373 + 7919) % 2147483587) * 30269 % 2147483563 / 11 % m)) (h' := [.list [.int a, .int (1 + (c * 39373 + 7919) % 2147483587)]]) rfl rfl ?_ rfl
    refine s_cons (h1 := [.list [.int a, .int c]]) (s_ifF (h1 := [.list [.int a, .int c]]) (t_cmp (e_idx (e_var rfl) e_k rfl) e_k (by simp [cmpV, eqV, res, Val.noLoc, hc])) s_nil) ?_
    have m1 : binV .mul (.int c) (.int 39373) = some (.int (c * 39373)) := by simp [binV, binI, small]
    have m2 : binV .mul (.int (1 + (c * 39373 + 7919) % 2147483587)) (.int 30269) = some (.int ((1 + (c * 39373 + 7919) % 2147483587) * 30269)) := by simp [binV, binI, small]
    refine s_cons (h1 := [.list [.int a, .int (1 + (c * 39373 + 7919) % 2147483587)]]) (s_setI (v := .int (1 + (c * 39373 + 7919) % 2147483587)) (e_bin e_k (e_bin (e_bin (e_bin (e_idx (e_var rfl) e_k rfl) e_k m1) e_k rfl) e_k rfl) rfl) (e_var rfl) e_k rfl) (s_stop (s_ret ?_))
    exact e_bin (e_bin (e_bin (e_bin (e_idx (e_var rfl) e_k rfl) e_k m2) e_k rfl) e_k rfl) (e_var rfl) (by simp [binV, binI, h1])
theorem at0 (n : Nat) (xs : List Val) : run prog (n + 1) 0 xs = callFn [] (run prog n) ⟨2, 3, [], b__law_purse⟩ xs := rfl
theorem purse (n : Nat) (ns : List Int) (hn : ns.length ≤ 63) (k : Int) (h1 : 0 ≤ k) (h2 : k < 8) : ∃ a c : Int, run prog (n + 1) 0 [.scr (ns.map .int), .int k] = .ret ⟨.lst [.int a, .int c], true, []⟩ := by
  have first : ∃ c : Int, idxV [] (.lst (cut (ns.map .int) (some k) (some (k + 1)) ++ [.int 0])) (.int 0) = some (.int c) := by
    have : ∃ l : List Int, cut (ns.map Val.int) (some k) (some (k + 1)) = l.map .int := by
      unfold cut
      dsimp only
      exact ⟨_, by rw [← List.map_drop, ← List.map_take]⟩
    obtain ⟨l, e⟩ := this
    rw [e]
    cases l with
    | nil => exact ⟨0, rfl⟩
    | cons c r => exact ⟨c, by simp [idxV, seqV, atI, ixN]⟩
  obtain ⟨c, hc⟩ := first
  have hl : (cut (ns.map Val.int) (some k) (some (k + 1))).length + [Val.int 0].length ≤ SZ := by
    unfold cut
    simp [SZ]
    omega
  have go : ∀ {f : Fl} {h' : Heap}, evalS [] (run prog n) (.cons (.ite (.or (.cmp .ge (.var 2) (.bin .pow (.k (.int (10))) (.k (.int (18))))) (.cmp .lt (.var 2) (.k (.int (0))))) (.cons (.ret (.mk (.fdisp (.acons (.b2 .max (.var 2) (.bin .sub (.neg (.k (.int (1)))) (.var 2))) (.acons (.k (.int (0))) .anil))))) .nil) .nil)
      (.cons (.ret (.mk (.fdisp (.acons (.k (.int (0))) (.acons (.bin .add (.k (.int (1))) (.bin .mod (.bin .add (.bin .mul (.var 2) (.k (.int (48271)))) (.bin .mul (.bin .mul (.bin .add (.var 1) (.k (.int (1)))) (.k (.int (69621)))) (.bin .add (.var 1) (.k (.int (7)))))) (.k (.int (2147483629))))) .anil))))) .nil)) [some (.scr (ns.map .int)), some (.int k), some (.int c)] [] = .ok f h' →
      evalS [] (run prog n) b__law_purse [some (.scr (ns.map .int)), some (.int k), none] [] = .ok f h' := fun {f h'} q => by
    refine s_cons (h1 := []) (s_set (v := .int c) (e_idx (e_inl (f_cat (e_inl (f_slc (e_var rfl) (o_part (e_var rfl)) (o_part (e_bin (e_var rfl) e_k rfl)) rfl)) (e_inl (f_disp (a_cons e_k a_nil) (by show 1 ≤ SZ; decide))) rfl rfl hl)) e_k hc)) q
  by_cases hb : (decide (10 ^ 18 ≤ c) || decide (c < 0)) = true
  · refine ⟨if -1 - c > c then -1 - c else c, 0, ?_⟩
    rw [at0]
    refine call_rt (v := .loc 0) (h' := [.list [.int (if -1 - c > c then -1 - c else c), .int 0]]) rfl (enter2 _ _ _) (go ?_) rfl
    refine s_stop (s_ifT (h1 := []) ?_ (s_stop (s_ret (e_mk (f_disp (a_cons (e_b2 (e_var rfl) (e_bin (e_neg e_k) (e_var rfl) rfl) rfl) (a_cons e_k a_nil)) (by show 2 ≤ SZ; decide))))))
    rw [← hb]
    exact t_or (t_cmp (e_var rfl) (e_bin e_k e_k rfl) rfl) fun _ => t_cmp (e_var rfl) e_k rfl
  · have hb : (decide (10 ^ 18 ≤ c) || decide (c < 0)) = false := by simpa using hb
    have m1 : binV .mul (.int c) (.int 48271) = some (.int (c * 48271)) := by simp [binV, binI, small]
    have m2 : binV .mul (.int (k + 1)) (.int 69621) = some (.int ((k + 1) * 69621)) := by simp [binV, binI, small]
    have m3 : binV .mul (.int ((k + 1) * 69621)) (.int (k + 7)) = some (.int ((k + 1) * 69621 * (k + 7))) := by
      have : small (k + 7) = true := by simp [small]; omega
      simp [binV, binI, this]
    refine ⟨0, 1 + (c * 48271 + (k + 1) * 69621 * (k + 7)) % 2147483629, ?_⟩
    rw [at0]
    refine call_rt (v := .loc 0) (h' := [.list [.int 0, .int (1 + (c * 48271 + (k + 1) * 69621 * (k + 7)) % 2147483629)]]) rfl (enter2 _ _ _) (go ?_) rfl
    refine s_cons (h1 := []) (s_ifF (h1 := []) ?_ s_nil) (s_stop (s_ret (e_mk (f_disp (a_cons e_k (a_cons (e_bin e_k (e_bin (e_bin (e_bin (e_var rfl) e_k m1) (e_bin (e_bin (e_bin (e_var rfl) e_k rfl) e_k m2) (e_bin (e_var rfl) e_k rfl) m3) rfl) e_k rfl) rfl) a_nil)) (by show 2 ≤ SZ; decide)))))
    rw [← hb]
    exact t_or (t_cmp (e_var rfl) (e_bin e_k e_k rfl) rfl) fun _ => t_cmp (e_var rfl) e_k rfl
/-! ### the things -/
theorem at2 (n : Nat) (xs : List Val) : run prog (n + 1) 2 xs = callFn [] (run prog n) ⟨2, 8, [true], b__law_thing⟩ xs := rfl
/-- an item of a list -/
theorem idx_mem {h : Heap} {l : List Val} {i : Int} (h1 : 0 ≤ i) (h2 : i < l.length) : ∃ v, idxV h (.lst l) (.int i) = some v ∧ v ∈ l := by
  have hi : i.toNat < l.length := by omega
  refine ⟨l[i.toNat], ?_, List.getElem_mem hi⟩
  simp [idxV, seqV, atI, ixN, h1, h2]
theorem take_in {env : Env} {n i : Nat} {a c m : Int} {e : IE} (h1 : 0 < m) (h2 : m < 1073741824) (hv : env[i]? = some (some (.loc 0))) (he : ∀ h, evalE [] (run prog (n + 1)) env e h = .ok (.int m) h) :
    ∃ r a2 c2 : Int, evalE [] (run prog (n + 1)) env (.call 1 [true] (.acons (.var i) (.acons e .anil))) [.list [.int a, .int c]] = .ok (.int r) [.list [.int a2, .int c2]] ∧ 0 ≤ r ∧ r < m := by
  obtain ⟨r, a2, c2, q, k1, k2⟩ := take n a c m h1 h2
  exact ⟨r, a2, c2, e_call (a_cons (e_var hv) (a_cons (he _) a_nil)) (d_call1 (n := 0) rfl rfl rfl q), k1, k2⟩
theorem shl1 {t : Int} (ht : Tall t) : binV .shl (.int 1) (.int t) = some (.int (2 ^ t.toNat)) := by
  rcases ht with rfl | rfl | rfl | rfl | rfl <;> rfl
theorem bulk_ok {t r : Int} (ht : Tall t) (h1 : 0 ≤ r) (h2 : r < t - 2) : binV .shl (.int 8) (.int r) = some (.int (8 * 2 ^ r.toNat)) ∧ 0 < (8 * 2 ^ r.toNat : Int) ∧ (8 * 2 ^ r.toNat : Int) ≤ 512 ∧ 0 < (2 ^ t.toNat / (8 * 2 ^ r.toNat) : Int) ∧ (2 ^ t.toNat / (8 * 2 ^ r.toNat) : Int) < 100 := by
  have : r = 0 ∨ r = 1 ∨ r = 2 ∨ r = 3 ∨ r = 4 ∨ r = 5 := by
    rcases ht with rfl | rfl | rfl | rfl | rfl <;> omega
  rcases this with rfl | rfl | rfl | rfl | rfl | rfl <;> rcases ht with rfl | rfl | rfl | rfl | rfl <;> first | (exfalso; omega) | decide
theorem few_bits {i : Int} (h1 : 0 ≤ i) (h2 : i < 100000) : i.natAbs.log2 < 1920 := by
  by_cases h : i.natAbs = 0
  · rw [h]; decide
  · rw [Nat.log2_lt h]
    have : i.natAbs < 2 ^ 17 := by have : (2 : Nat) ^ 17 = 131072 := by decide
                                   omega
    exact Nat.lt_of_lt_of_le this (Nat.pow_le_pow_right (Nat.succ_pos 1) (by decide : 17 ≤ 1920))
theorem str_ok {i : Int} {h : Heap} (h1 : 0 ≤ i) (h2 : i < 100000) : b1V h .str (.int i) = some (.str (Str.ofString (toString i))) := by
  have := few_bits h1 h2
  show (if i.natAbs.log2 < 1920 then some (Val.str (Str.ofString (toString i))) else none) = _
  exact if_pos this
theorem leave1 {v : Val} {l : List Val} (h1 : okV v = true) (h2 : ∀ h, res h v = some v) (h3 : noLocL l = true) : leave 1 v [.list l] = .ret ⟨v, false, [l]⟩ := by
  have h4 : v.noLoc = true := by
    have := h2 []
    cases v <;> first | (simp [okV] at h1; done) | (simp only [res] at this; split at this <;> first | assumption | cases this)
  unfold leave
  simp only [takeOuts, h3, if_true]
  cases v <;> first | (simp [okV] at h1; done) | (simp only [leaveV, h4, if_true]; rfl)
theorem tup2 {env : Env} {cb : CB} {h : Heap} {a b : IE} {x y : Val} (ea : evalE [] cb env a h = .ok x h) (eb : evalE [] cb env b h = .ok y h) : evalE [] cb env (.tup (.acons a (.acons b .anil))) h = .ok (.tup [x, y]) h :=
  e_tup (a_cons ea (a_cons eb a_nil)) (by show 2 ≤ SZ; decide)
theorem tup1 {env : Env} {cb : CB} {h : Heap} {a : IE} {x : Val} (ea : evalE [] cb env a h = .ok x h) : evalE [] cb env (.tup (.acons a .anil)) h = .ok (.tup [x]) h :=
  e_tup (a_cons ea a_nil) (by show 1 ≤ SZ; decide)
theorem tup3 {env : Env} {cb : CB} {h : Heap} {a b d : IE} {x y z : Val} (ea : evalE [] cb env a h = .ok x h) (eb : evalE [] cb env b h = .ok y h) (ed : evalE [] cb env d h = .ok z h) : evalE [] cb env (.tup (.acons a (.acons b (.acons d .anil)))) h = .ok (.tup [x, y, z]) h :=
  e_tup (a_cons ea (a_cons eb (a_cons ed a_nil))) (by show 3 ≤ SZ; decide)
theorem tup0 {env : Env} {cb : CB} {h : Heap} : evalE [] cb env (.tup .anil) h = .ok (.tup []) h := e_tup a_nil (by show 0 ≤ SZ; decide)
theorem mul_small {i j : Int} (h : -(2 ^ 64) < j ∧ j < 2 ^ 64) : binV .mul (.int i) (.int j) = some (.int (i * j)) := by
  have : small j = true := by simp [small]; omega
  simp [binV, binI, this]
theorem mul_small1 {i j : Int} (h : -(2 ^ 64) < i ∧ i < 2 ^ 64) : binV .mul (.int i) (.int j) = some (.int (i * j)) := by
  have : small i = true := by simp [small]; omega
  simp [binV, binI, this]
theorem fdiv_ok {i j : Int} (h : 0 < j ∧ j < 1073741824) : binV .fdiv (.int i) (.int j) = some (.int (i / j)) := by
  simp [binV, binI, h.1, h.2]
theorem thing (n : Nat) {t : Int} (ht : Tall t) (a c : Int) : ∃ (v : Val) (a2 c2 : Int), run prog (n + 2) 2 [.lst [.int a, .int c], .int t] = .ret ⟨v, false, [[.int a2, .int c2]]⟩ ∧ Good t v := by
  have tb : 4 ≤ t ∧ t ≤ 8 := by rcases ht with rfl | rfl | rfl | rfl | rfl <;> decide
  obtain ⟨r1, a1, c1, T1, p1, q1⟩ := take_in (n := n) (env := [some (.loc 0), some (.int t), none, none, none, none, none, none]) (i := 0) (a := a) (c := c) (m := 22) (e := .k (.int 22)) (by decide) (by decide) rfl (fun _ => e_k)
  obtain ⟨r2, a2, c2, T2, p2, q2⟩ := take_in (n := n) (env := [some (.loc 0), some (.int t), none, none, none, none, none, none]) (i := 0) (a := a1) (c := c1) (m := 9) (e := .k (.int 9)) (by decide) (by decide) rfl (fun _ => e_k)
  obtain ⟨w, ew, hw⟩ := idx_mem (h := [.list [.int a2, .int c2]]) (l := [Val.bl true, .bl false, .non, .str "8", .str "", .tup [.int 8], .lst [], .dct [] [], .tup [.lst []]]) p2 q2
  obtain ⟨r3, a3, c3, T3, p3, q3⟩ := take_in (n := n) (env := [some (.loc 0), some (.int t), some (.int r1), some w, none, none, none, none]) (i := 0) (a := a2) (c := c2) (m := t - 2) (e := .bin .sub (.var 1) (.k (.int (2)))) (by omega) (by omega) rfl (fun _ => e_bin (e_var rfl) e_k rfl)
  obtain ⟨b1, b2, b3, b4, b5⟩ := bulk_ok ht p3 q3
  generalize hB : (8 * 2 ^ r3.toNat : Int) = B at b1 b2 b3 b4 b5
  generalize hP : (2 ^ t.toNat : Int) = P at b4 b5
  have sP : binV .shl (.int 1) (.int t) = some (.int P) := by rw [shl1 ht, hP]
  obtain ⟨r4, a4, c4, T4, p4, q4⟩ := take_in (n := n) (env := [some (.loc 0), some (.int t), some (.int r1), some w, some (.int B), none, none, none]) (i := 0) (a := a3) (c := c3) (m := P / B) (e := .bin .fdiv (.bin .shl (.k (.int (1))) (.var 1)) (.var 4)) (by omega) (by omega) rfl
    (fun _ => e_bin (e_bin e_k (e_var rfl) sP) (e_var rfl) (fdiv_ok ⟨b2, by omega⟩))
  generalize hS : r4 * B = S
  have s1 : 0 ≤ S := by rw [← hS]; exact Int.mul_nonneg p4 (by omega)
  have s2 : S < 100000 := by
    rw [← hS]
    have : r4 * B ≤ 100 * 512 := Int.mul_le_mul (by omega) b3 (by omega) (by decide)
    omega
  obtain ⟨r5, a5, c5, T5, p5, q5⟩ := take_in (n := n) (env := [some (.loc 0), some (.int t), some (.int r1), some w, some (.int B), some (.int S), none, none]) (i := 0) (a := a4) (c := c4) (m := 8) (e := .k (.int 8)) (by decide) (by decide) rfl (fun _ => e_k)
  obtain ⟨d', ed, hd⟩ := idx_mem (h := [.list [.int a5, .int c5]]) (l := [Val.int 1, .int 4, .int (-1), .int B, .int (-B), .int P, .int (-P), .int 8]) p5 q5
  obtain ⟨d, rfl⟩ : ∃ d, d' = .int d := by
    simp only [List.mem_cons, List.not_mem_nil, or_false] at hd
    rcases hd with h | h | h | h | h | h | h | h <;> exact ⟨_, h⟩
  have LL : ∃ L : List Val, L = ([Val.tup [.int S, .int B], .tup [.int (S + d), .int B], .tup [.int S, .int (2 * B)], .tup [.int S, .int (B / 2)], .tup [.int S, .int (B + d)]] ++ [Val.tup [.int P, .int B], .tup [.int S, .int 0], .tup [.int S, .int (-B)], .tup [w, .int B], .tup [.int S, w], .tup [.int B, .int S]] ++
      [Val.lst [.int S, .int B], .tup [.int S], .tup [.int S, .int B, .int B], .tup [.tup [.int S, .int B]], .tup [.str (Str.ofString (toString S)), .int B], w, .int S]) ++ [Val.tup [.int S, .int B, .bl true], .tup [], .tup [.int 0, .int (10 ^ 30)], .tup [.int (10 ^ 30), .int 8]] := ⟨_, rfl⟩
  obtain ⟨L, hL⟩ := LL
  have hlen : L.length = 22 := by rw [hL]; rfl
  obtain ⟨v, ev, hv⟩ := idx_mem (h := [.list [.int a5, .int c5]]) (l := L) p1 (by rw [hlen]; exact q1)
  have g : Good t v := by
    have hs := sec_good ht hw
    rw [hL] at hv
    simp only [List.mem_append, List.mem_cons, List.not_mem_nil, or_false] at hv
    rcases hv with ((((h | h | h | h | h) | (h | h | h | h | h | h)) | (h | h | h | h | h | h | h)) | (h | h | h | h)) <;> subst h
    · exact good_core ht _ _
    · exact good_core ht _ _
    · exact good_core ht _ _
    · exact good_core ht _ _
    · exact good_core ht _ _
    · exact good_core ht _ _
    · exact good_core ht _ _
    · exact good_core ht _ _
    · exact (hs S B).2.1
    · exact (hs S B).2.2
    · exact good_core ht _ _
    · exact lst_good _ _
    · exact one_good _
    · exact three_good _ _ _
    · exact in_good _ _
    · exact str_good _ _
    · exact (hs S B).1
    · exact int_good _
    · exact threeB_good _ _
    · exact none_good
    · exact good_core ht _ _
    · exact good_core ht _ _
  refine ⟨v, a5, c5, ?_, g⟩
  · rw [at2]
    refine call_rt (v := v) (h' := [.list [.int a5, .int c5]]) rfl rfl ?_ ?_
    · refine s_cons (env1 := [some (.loc 0), some (.int t), some (.int r1), some w, none, none, none, none]) (h1 := [.list [.int a2, .int c2]]) (s_par (a_cons T1 (a_cons (e_idx (e_inl (f_disp (a_cons e_k (a_cons e_k (a_cons e_k (a_cons e_k (a_cons e_k (a_cons (tup1 e_k) (a_cons (e_inl (f_disp a_nil (by show 0 ≤ SZ; decide))) (a_cons e_d0 (a_cons (tup1 (e_inl (f_disp a_nil (by show 0 ≤ SZ; decide)))) a_nil))))))))) (by show 9 ≤ SZ; decide))) T2 ew) a_nil)) rfl) ?_
      refine s_cons (env1 := [some (.loc 0), some (.int t), some (.int r1), some w, some (.int B), none, none, none]) (h1 := [.list [.int a3, .int c3]]) (s_set (e_bin e_k T3 b1)) ?_
      refine s_cons (env1 := [some (.loc 0), some (.int t), some (.int r1), some w, some (.int B), some (.int S), none, none]) (h1 := [.list [.int a4, .int c4]]) (s_set (e_bin T4 (e_var rfl) (by rw [mul_small ⟨by omega, by omega⟩, hS]))) ?_
      refine s_cons (env1 := [some (.loc 0), some (.int t), some (.int r1), some w, some (.int B), some (.int S), some (.int d), none]) (h1 := [.list [.int a5, .int c5]]) (s_set (e_idx (e_inl (f_disp (a_cons e_k (a_cons e_k (a_cons (e_neg e_k) (a_cons (e_var rfl) (a_cons (e_neg (e_var rfl)) (a_cons (e_bin e_k (e_var rfl) sP) (a_cons (e_neg (e_bin e_k (e_var rfl) sP)) (a_cons e_k a_nil)))))))) (by show 8 ≤ SZ; decide))) T5 ed)) ?_
      refine s_cons (h1 := [.list [.int a5, .int c5]]) (s_set (e_inl (f_disp (a_cons (tup2 (e_var rfl) (e_var rfl)) (a_cons (tup2 (e_bin (e_var rfl) (e_var rfl) rfl) (e_var rfl)) (a_cons (tup2 (e_var rfl) (e_bin e_k (e_var rfl) (mul_small1 (by decide)))) (a_cons (tup2 (e_var rfl) (e_bin (e_var rfl) e_k (fdiv_ok (by decide)))) (a_cons (tup2 (e_var rfl) (e_bin (e_var rfl) (e_var rfl) rfl)) a_nil))))) (by show 5 ≤ SZ; decide)))) ?_
      refine s_cons (h1 := [.list [.int a5, .int c5]]) (s_set (e_inl (f_cat (e_var rfl) (e_inl (f_disp (a_cons (tup2 (e_bin e_k (e_var rfl) sP) (e_var rfl)) (a_cons (tup2 (e_var rfl) e_k) (a_cons (tup2 (e_var rfl) (e_neg (e_var rfl))) (a_cons (tup2 (e_var rfl) (e_var rfl)) (a_cons (tup2 (e_var rfl) (e_var rfl)) (a_cons (tup2 (e_var rfl) (e_var rfl)) a_nil)))))) (by show 6 ≤ SZ; decide))) rfl rfl (by show 5 + 6 ≤ SZ; decide)))) ?_
      refine s_cons (h1 := [.list [.int a5, .int c5]]) (s_set (e_inl (f_cat (e_var rfl) (e_inl (f_disp (a_cons (e_inl (f_disp (a_cons (e_var rfl) (a_cons (e_var rfl) a_nil)) (by show 2 ≤ SZ; decide))) (a_cons (tup1 (e_var rfl)) (a_cons (tup3 (e_var rfl) (e_var rfl) (e_var rfl)) (a_cons (tup1 (tup2 (e_var rfl) (e_var rfl))) (a_cons (tup2 (e_b1 (e_var rfl) (str_ok s1 s2)) (e_var rfl)) (a_cons (e_var rfl) (a_cons (e_var rfl) a_nil))))))) (by show 7 ≤ SZ; decide))) rfl rfl (by show 11 + 7 ≤ SZ; decide)))) ?_
      refine s_stop (s_ret (e_idx (x := .lst L) (e_inl ?_) (e_var rfl) ev))
      rw [hL]
      exact f_cat (e_var rfl) (e_inl (f_disp (a_cons (tup3 (e_var rfl) (e_var rfl) e_k) (a_cons tup0 (a_cons (tup2 e_k (e_bin e_k e_k rfl)) (a_cons (tup2 (e_bin e_k e_k rfl) e_k) a_nil)))) (by show 4 ≤ SZ; decide))) rfl rfl (by show 18 + 4 ≤ SZ; decide)
    · exact leave1 g.1 g.2.1 rfl
/-! ### the law -/
theorem at13 (n : Nat) (xs : List Val) : run prog (n + 1) 13 xs = callFn [] (run prog n) ⟨1, 9, [], b_law⟩ xs := rfl
theorem hand3 {t : Int} {v : Val} {b : Bool} (h : Heap) (g : Good t v) : handOn h [] [.int t, v, .bl b] = some [.int t, v, .bl b] := by
  simp [handOn, g.2.1, show res h (.int t) = some (.int t) from rfl, show res h (.bl b) = some (.bl b) from rfl]
theorem ro3 {t : Int} {v : Val} {b : Bool} (g : Good t v) : roAt [] [.int t, v, .bl b] = [] := by
  have := g.1
  cases v <;> first | rfl | (simp [okV] at this)
theorem nl (ns : List Int) : noLocL (ns.map .int) = true := by
  induction ns with
  | nil => rfl
  | cons m r ih => simp [noLocL, Val.noLoc, ih]
theorem at_end (h : Heap) (x : LObj) : (h ++ [x])[h.length]? = some x := by simp
theorem set_end (h : Heap) (x y : LObj) : (h ++ [x]).set h.length y = h ++ [y] := by simp
section
variable {env : Env} {h : Heap} {t a c : Int} {v : Val}
theorem take_at {m : Int} {i : Nat} {e : IE} (h1 : 0 < m) (h2 : m < 1073741824) (hv : env[i]? = some (some (.loc h.length))) (he : ∀ h, evalE [] (run prog 7) env e h = .ok (.int m) h) :
    ∃ r a2 c2 : Int, evalE [] (run prog 7) env (.call 1 [true] (.acons (.var i) (.acons e .anil))) (h ++ [.list [.int a, .int c]]) = .ok (.int r) (h ++ [.list [.int a2, .int c2]]) ∧ 0 ≤ r ∧ r < m := by
  obtain ⟨r, a2, c2, q, k1, k2⟩ := take 6 a c m h1 h2
  have d := d_call1 (cb := run prog 7) (f := 1) (h := h ++ [.list [.int a, .int c]]) (n := h.length) (io := [true]) (vs := [.loc h.length, .int m]) (by simp only [handOn, at_end]; rfl) rfl rfl q
  rw [set_end] at d
  exact ⟨r, a2, c2, e_call (a_cons (e_var hv) (a_cons (he _) a_nil)) d, k1, k2⟩
theorem thing_at {i j : Nat} (ht : Tall t) (hv : env[i]? = some (some (.loc h.length))) (hj : env[j]? = some (some (.int t))) :
    ∃ (v : Val) (a2 c2 : Int), evalE [] (run prog 7) env (.call 2 [true] (.acons (.var i) (.acons (.var j) .anil))) (h ++ [.list [.int a, .int c]]) = .ok v (h ++ [.list [.int a2, .int c2]]) ∧ Good t v := by
  obtain ⟨v, a2, c2, q, g⟩ := thing 5 ht a c
  have d := d_call1 (cb := run prog 7) (f := 2) (h := h ++ [.list [.int a, .int c]]) (n := h.length) (io := [true]) (vs := [.loc h.length, .int t]) (by simp only [handOn, at_end]; rfl) rfl rfl q
  rw [set_end] at d
  exact ⟨v, a2, c2, e_call (a_cons (e_var hv) (a_cons (e_var hj) a_nil)) d, g⟩
theorem told_at (ht : Tall t) (g : Good t v) (h3 : env[3]? = some (some (.int t))) (h6 : env[6]? = some (some v)) :
    evalT [] (run prog 7) env (.not (.tr (.call 10 [] (.acons (.var 3) (.acons (.var 6) (.acons (.call 12 [] (.acons (.var 3) (.acons (.var 6) .anil))) .anil)))))) h = .ok false h := by
  obtain ⟨g1, g2, b, gd, gr⟩ := id g
  exact t_not (r := true) (t_tr (e_call (a_cons (e_var h3) (a_cons (e_var h6) (a_cons (e_call (a_cons (e_var h3) (a_cons (e_var h6) a_nil)) (d_call (hand2 _ g) rfl (ro2 g) (gd 5))) a_nil))) (d_call (hand3 _ g) rfl (ro3 g) (told ht g gr 2))) rfl)
theorem ne_at {i j : Nat} {s b : Int} (ht : Tall t) (h3 : env[3]? = some (some (.int t))) (hi : env[i]? = some (some (.int s))) (hj : env[j]? = some (some (.int b))) :
    evalT [] (run prog 7) env (.cmp .ne (.call 9 [] (.acons (.var 3) (.acons (.tup (.acons (.var i) (.acons (.var j) .anil))) .anil))) (.call 12 [] (.acons (.var 3) (.acons (.tup (.acons (.var i) (.acons (.var j) .anil))) .anil)))) h = .ok false h := by
  have g := good_core ht s b
  refine t_cmp (e_call (a_cons (e_var h3) (a_cons (tup2 (e_var hi) (e_var hj)) a_nil)) (d_call (hand2 _ g) rfl (ro2 g) (room ht g (fun n => room_core n ht s b) 3))) (e_call (a_cons (e_var h3) (a_cons (tup2 (e_var hi) (e_var hj)) a_nil)) (d_call (hand2 _ g) rfl (ro2 g) (due_core 5 ht s b))) ?_
  cases D t s b <;> rfl
end
theorem rng_mem {lo : Int} {n : Nat} {x : Val} (h : x ∈ rngItems lo 1 n) : ∃ i : Int, x = .int i ∧ lo ≤ i ∧ i < lo + n := by
  simp only [rngItems, List.mem_map, List.mem_range] at h
  obtain ⟨j, hj, rfl⟩ := h
  exact ⟨lo + (j : Int) * 1, rfl, by omega, by omega⟩
theorem rng1_ok {n : Int} (h : -(2 ^ 62) ≤ n ∧ n < 2 ^ 62) : rngI1 (.int n) = some ⟨rngItems 0 1 n.toNat, []⟩ := by
  have : inR n = true := by simp [inR]; omega
  simp [rngI1, this]
theorem rng2_ok {i j : Int} (h : -(2 ^ 62) ≤ i ∧ i < 2 ^ 62) (h' : -(2 ^ 62) ≤ j ∧ j < 2 ^ 62) : rngI2 (.int i) (.int j) = some ⟨rngItems i 1 (j - i).toNat, []⟩ := by
  have h1 : inR i = true := by simp [inR]; omega
  have h2 : inR j = true := by simp [inR]; omega
  simp [rngI2, h1, h2]
theorem pow_ok {t : Int} (ht : Tall t) : 0 < (2 ^ t.toNat : Int) ∧ (2 ^ t.toNat : Int) ≤ 256 := by
  rcases ht with rfl | rfl | rfl | rfl | rfl <;> decide
/-- one turn of the law -/
def b_turn : IS := match b_law with
  | .cons (.for_ _ _ b) _ => b
  | _ => .nil
theorem turn_ok (ns : List Int) (hn : ns.length ≤ 63) (k : Int) (k1 : 0 ≤ k) (k2 : k < 8) (o2 o3 o4 o5 o6 o7 o8 : Option Val) (h : Heap) : ∃ (p2 p3 p4 p5 p6 p7 p8 : Option Val) (h' : Heap),
    evalS [] (run prog 7) b_turn [some (.scr (ns.map .int)), some (.int k), o2, o3, o4, o5, o6, o7, o8] h = .ok (.nx [some (.scr (ns.map .int)), some (.int k), p2, p3, p4, p5, p6, p7, p8]) h' := by
  obtain ⟨a0, c0, e0⟩ := purse 6 ns hn k k1 k2
  have hp : evalE [] (run prog 7) [some (.scr (ns.map .int)), some (.int k), o2, o3, o4, o5, o6, o7, o8] (.mk (.call 0 [] (.acons (.var 0) (.acons (.var 1) .anil)))) h = .ok (.loc h.length) (h ++ [.list [.int a0, .int c0]]) :=
    e_mk (f_call (a_cons (e_var rfl) (a_cons (e_var rfl) a_nil)) (d_call (by simp [handOn, res, Val.noLoc, nl]) rfl rfl e0))
  obtain ⟨r1, a1, c1, T1, p1, q1⟩ := take_at (h := h) (a := a0) (c := c0) (env := [some (.scr (ns.map .int)), some (.int k), some (.loc h.length), o3, o4, o5, o6, o7, o8]) (i := 2) (m := 7) (e := .k (.int (7))) (by decide) (by decide) rfl (fun _ => e_k)
  obtain ⟨t', et, ht'⟩ := idx_mem (h := h ++ [.list [.int a1, .int c1]]) (l := [Val.int 4, .int 4, .int 5, .int 5, .int 6, .int 7, .int 8]) p1 q1
  obtain ⟨t, rfl, ht⟩ : ∃ t, t' = .int t ∧ Tall t := by
    simp only [List.mem_cons, List.not_mem_nil, or_false] at ht'
    rcases ht' with h | h | h | h | h | h | h <;> exact ⟨_, h, by simp [Tall]⟩
  obtain ⟨P1, P2⟩ := pow_ok ht
  have tb : 4 ≤ t ∧ t ≤ 8 := by rcases ht with rfl | rfl | rfl | rfl | rfl <;> decide
  -- nine things
  obtain ⟨e1, h1, L1, ⟨u4, u6, a2, c2, rfl, rfl⟩⟩ := forL_inv (bd := fun e => evalS [] (run prog 7) (.cons (.set 6 (.call 2 [true] (.acons (.var 2) (.acons (.var 3) .anil)))) (.cons (.ite (.not (.tr (.call 10 [] (.acons (.var 3) (.acons (.var 6) (.acons (.call 12 [] (.acons (.var 3) (.acons (.var 6) .anil))) .anil)))))) (.cons (.ret (.k (.bl false))) .nil) .nil) .nil)) e)
    (tg := .n 4) (lock := []) (h0 := h ++ [.list [.int a1, .int c1]]) (l := rngItems 0 1 9)
    (fun env h' => ∃ (u4 u6 : Option Val) (a c : Int), env = [some (.scr (ns.map .int)), some (.int k), some (.loc h.length), some (.int t), u4, o5, u6, o7, o8] ∧ h' = h ++ [.list [.int a, .int c]]) (by
      rintro x hx env h' ⟨u4, u6, a, c, rfl, rfl⟩
      obtain ⟨v, a2, c2, ev, g⟩ := thing_at (h := h) (a := a) (c := c) (env := [some (.scr (ns.map .int)), some (.int k), some (.loc h.length), some (.int t), some x, o5, u6, o7, o8]) (i := 2) (j := 3) ht rfl rfl
      exact ⟨_, _, _, rfl, s_cons (s_set ev) (s_cons (s_ifF (told_at ht g rfl rfl) s_nil) s_nil), rfl, some x, some v, a2, c2, rfl, rfl⟩)
    [some (.scr (ns.map .int)), some (.int k), some (.loc h.length), some (.int t), o4, o5, o6, o7, o8] (h ++ [.list [.int a1, .int c1]]) ⟨o4, o6, a1, c1, rfl, rfl⟩
  obtain ⟨r3, a3, c3, T3, p3, q3⟩ := take_at (h := h) (a := a2) (c := c2) (env := [some (.scr (ns.map .int)), some (.int k), some (.loc h.length), some (.int t), u4, o5, u6, o7, o8]) (i := 2) (m := t - 2) (e := .bin .sub (.var 3) (.k (.int (2)))) (by omega) (by omega) rfl (fun _ => e_bin (e_var rfl) e_k rfl)
  obtain ⟨b1, b2, b3, _, _⟩ := bulk_ok ht p3 q3
  generalize hB : (8 * 2 ^ r3.toNat : Int) = B at b1 b2 b3
  -- the seven
  obtain ⟨e2, h2, L2, ⟨w6, rfl, rfl⟩⟩ := forL_inv (bd := fun e => evalS [] (run prog 7) (.cons (.ite (.not (.tr (.call 10 [] (.acons (.var 3) (.acons (.var 6) (.acons (.call 12 [] (.acons (.var 3) (.acons (.var 6) .anil))) .anil)))))) (.cons (.ret (.k (.bl false))) .nil) .nil) .nil) e)
    (tg := .n 6) (lock := []) (h0 := h ++ [.list [.int a3, .int c3]]) (l := [Val.tup [.int 0, .int B], .tup [.bl false, .int B], .tup [.int 0, .int B], .tup [.int 0, .int (B + 1)], .tup [.int 8, .int 8], .tup [.int 8, .bl true], .tup [.int 8, .int 8]])
    (fun env h' => ∃ (u6 : Option Val), env = [some (.scr (ns.map .int)), some (.int k), some (.loc h.length), some (.int t), u4, some (.int B), u6, o7, o8] ∧ h' = h ++ [.list [.int a3, .int c3]]) (by
      rintro x hx env h' ⟨u6, rfl, rfl⟩
      have g : Good t x := by
        simp only [List.mem_cons, List.not_mem_nil, or_false] at hx
        rcases hx with rfl | rfl | rfl | rfl | rfl | rfl | rfl
        · exact good_core ht _ _
        · exact bl_good _ _
        · exact good_core ht _ _
        · exact good_core ht _ _
        · exact good_core ht _ _
        · exact bl2_good _ _
        · exact good_core ht _ _
      exact ⟨_, _, _, rfl, s_cons (s_ifF (told_at ht g rfl rfl) s_nil) s_nil, rfl, some x, rfl, rfl⟩)
    [some (.scr (ns.map .int)), some (.int k), some (.loc h.length), some (.int t), u4, some (.int B), u6, o7, o8] (h ++ [.list [.int a3, .int c3]]) ⟨u6, rfl, rfl⟩
  -- all starts
  obtain ⟨e3, h3, L3, ⟨w7, rfl, rfl⟩⟩ := forL_inv (bd := fun e => evalS [] (run prog 7) (.cons (.ite (.cmp .ne (.call 9 [] (.acons (.var 3) (.acons (.tup (.acons (.var 7) (.acons (.var 5) .anil))) .anil))) (.call 12 [] (.acons (.var 3) (.acons (.tup (.acons (.var 7) (.acons (.var 5) .anil))) .anil)))) (.cons (.ret (.k (.bl false))) .nil) .nil) .nil) e)
    (tg := .n 7) (lock := []) (h0 := h ++ [.list [.int a3, .int c3]]) (l := rngItems (-B) 1 (2 ^ t.toNat + 9 - -B).toNat)
    (fun env h' => ∃ (u7 : Option Val), env = [some (.scr (ns.map .int)), some (.int k), some (.loc h.length), some (.int t), u4, some (.int B), w6, u7, o8] ∧ h' = h ++ [.list [.int a3, .int c3]]) (by
      rintro x hx env h' ⟨u7, rfl, rfl⟩
      obtain ⟨i, rfl, _, _⟩ := rng_mem hx
      exact ⟨_, _, _, rfl, s_cons (s_ifF (ne_at ht rfl rfl rfl) s_nil) s_nil, rfl, some (.int i), rfl, rfl⟩)
    [some (.scr (ns.map .int)), some (.int k), some (.loc h.length), some (.int t), u4, some (.int B), w6, o7, o8] (h ++ [.list [.int a3, .int c3]]) ⟨o7, rfl, rfl⟩
  obtain ⟨r5, a5, c5, T5, p5, q5⟩ := take_at (h := h) (a := a3) (c := c3) (env := [some (.scr (ns.map .int)), some (.int k), some (.loc h.length), some (.int t), u4, some (.int B), w6, w7, o8]) (i := 2) (m := 4) (e := .k (.int (4))) (by decide) (by decide) rfl (fun _ => e_k)
  -- all breadths
  obtain ⟨e4, h4, L4, ⟨w8, rfl, rfl⟩⟩ := forL_inv (bd := fun e => evalS [] (run prog 7) (.cons (.ite (.cmp .ne (.call 9 [] (.acons (.var 3) (.acons (.tup (.acons (.var 7) (.acons (.var 8) .anil))) .anil))) (.call 12 [] (.acons (.var 3) (.acons (.tup (.acons (.var 7) (.acons (.var 8) .anil))) .anil)))) (.cons (.ret (.k (.bl false))) .nil) .nil) .nil) e)
    (tg := .n 8) (lock := []) (h0 := h ++ [.list [.int a5, .int c5]]) (l := rngItems (-1) 1 (2 * 2 ^ t.toNat + 2 - -1).toNat)
    (fun env h' => ∃ (u8 : Option Val), env = [some (.scr (ns.map .int)), some (.int k), some (.loc h.length), some (.int t), u4, some (.int B), w6, some (.int (r5 * 16)), u8] ∧ h' = h ++ [.list [.int a5, .int c5]]) (by
      rintro x hx env h' ⟨u8, rfl, rfl⟩
      obtain ⟨i, rfl, _, _⟩ := rng_mem hx
      exact ⟨_, _, _, rfl, s_cons (s_ifF (ne_at ht rfl rfl rfl) s_nil) s_nil, rfl, some (.int i), rfl, rfl⟩)
    [some (.scr (ns.map .int)), some (.int k), some (.loc h.length), some (.int t), u4, some (.int B), w6, some (.int (r5 * 16)), o8] (h ++ [.list [.int a5, .int c5]]) ⟨o8, rfl, rfl⟩
  refine ⟨some (.loc h.length), some (.int t), u4, some (.int B), w6, some (.int (r5 * 16)), w8, h ++ [.list [.int a5, .int c5]], ?_⟩
  refine s_cons (env1 := [some (.scr (ns.map .int)), some (.int k), some (.loc h.length), o3, o4, o5, o6, o7, o8]) (h1 := h ++ [.list [.int a0, .int c0]]) (s_set hp) (s_cons (env1 := [some (.scr (ns.map .int)), some (.int k), some (.loc h.length), some (.int t), o4, o5, o6, o7, o8]) (s_set (e_idx (e_inl (f_disp (a_cons e_k (a_cons e_k (a_cons e_k (a_cons e_k (a_cons e_k (a_cons e_k (a_cons e_k a_nil))))))) (by show 7 ≤ SZ; decide))) T1 et)) ?_)
  refine s_cons (s_for (i_rng1 e_k rfl) L1) ?_
  refine s_cons (env1 := [some (.scr (ns.map .int)), some (.int k), some (.loc h.length), some (.int t), u4, some (.int B), u6, o7, o8]) (s_set (e_bin e_k T3 b1)) ?_
  refine s_cons (s_for (i_seq (e_inl (f_disp (a_cons (tup2 e_k (e_var rfl)) (a_cons (tup2 e_k (e_var rfl)) (a_cons (tup2 e_k (e_var rfl)) (a_cons (tup2 e_k (e_bin (e_var rfl) e_k rfl)) (a_cons (tup2 e_k e_k) (a_cons (tup2 e_k e_k) (a_cons (tup2 e_k e_k) a_nil))))))) (by show 7 ≤ SZ; decide))) rfl) L2) ?_
  refine s_cons (s_for (i_rng2 (e_neg (e_var rfl)) (e_bin (e_bin e_k (e_var rfl) (shl1 ht)) e_k rfl) (rng2_ok (by omega) (by omega))) L3) ?_
  refine s_cons (env1 := [some (.scr (ns.map .int)), some (.int k), some (.loc h.length), some (.int t), u4, some (.int B), w6, some (.int (r5 * 16)), o8]) (s_set (e_bin T5 e_k (mul_small (by decide)))) ?_
  exact s_cons (s_for (i_rng2 (e_neg e_k) (e_bin (e_bin e_k (e_bin e_k (e_var rfl) (shl1 ht)) (mul_small1 (by decide))) e_k rfl) (rng2_ok (by decide) (by omega))) L4) s_nil
theorem run_ok : ∀ ns : List Int, ns.length ≤ 63 → MP.run prog 8 13 [.scr (ns.map .int)] = .ret ⟨.bl true, false, []⟩ := by
  intro ns hn
  show run prog (7 + 1) 13 _ = _
  rw [at13]
  obtain ⟨e, h, L, _⟩ := forL_inv (bd := fun e => evalS [] (run prog 7) b_turn e) (tg := .n 1) (lock := []) (h0 := []) (l := rngItems 0 1 (max 2 (min (ns.length : Int) 8)).toNat)
    (fun env h => ∃ o1 o2 o3 o4 o5 o6 o7 o8 : Option Val, env = [some (.scr (ns.map .int)), o1, o2, o3, o4, o5, o6, o7, o8]) (by
      rintro x hx env h ⟨o1, o2, o3, o4, o5, o6, o7, o8, rfl⟩
      obtain ⟨k, rfl, k1, k2⟩ := rng_mem hx
      obtain ⟨p2, p3, p4, p5, p6, p7, p8, h', q⟩ := turn_ok ns hn k (by omega) (by omega) o2 o3 o4 o5 o6 o7 o8 h
      exact ⟨_, _, _, rfl, q, rfl, _, _, _, _, _, _, _, _, rfl⟩)
    [some (.scr (ns.map .int)), none, none, none, none, none, none, none, none] [] ⟨_, _, _, _, _, _, _, _, rfl⟩
  refine call_rt (v := .bl true) (h' := h) rfl (by rw [show enter [] [Val.scr (ns.map .int)] [] = some ([some (.scr (ns.map .int))], []) by simp [enter]]) ?_ ?_
  · refine s_cons (s_for (i_rng1 (x := .int (max 2 (min (ns.length : Int) 8))) (e_b2 e_k (e_b2 (y := .int 8) (z := .int (min (ns.length : Int) 8)) (e_b1 (z := .int (ns.length : Int)) (e_var rfl) (by simp [b1V, seqV])) e_k ?_) ?_) (rng1_ok (by omega))) L) (s_stop (s_ret e_k))
    · simp only [b2V]
      congr 2
      omega
    · simp only [b2V]
      congr 2
      omega
  · simp [leave, takeOuts, leaveV, countIo, Val.noLoc]

end K02
namespace K02
open PySem PySem.Spec L2 MP MPS
def top (i : Nat) : Stmt := PySem.Challenge.pw_roomhalves_k02_rooms_of_any_kind.main.body.getD i (.Pass ⟨0, 0, 0, 0⟩)
abbrev s__law_purse : Stmt := top 15
abbrev s__law_take : Stmt := top 16
abbrev s__law_thing : Stmt := top 19
abbrev s_is_whole : Stmt := top 7
abbrev s_is_within : Stmt := top 8
abbrev s_check_height : Stmt := top 9
abbrev s_all_sizes : Stmt := top 11
abbrev s_wide : Stmt := top 10
abbrev s_is_one_room : Stmt := top 12
abbrev s_is_room : Stmt := top 13
abbrev s__law_told : Stmt := top 20
abbrev s__law_whole : Stmt := top 17
abbrev s__law_due : Stmt := top 18
abbrev s_law : Stmt := top 21
def defs : List DefR := [⟨"_law_purse", "_law_purse", s__law_purse, ["_law_script", "_law_k", "_law_cell"], ["_law_script", "_law_k"]⟩,
  ⟨"_law_take", "_law_take", s__law_take, ["_law_purse_here", "_law_many", "_law_found"], ["_law_purse_here", "_law_many"]⟩,
  ⟨"_law_thing", "_law_thing", s__law_thing, ["_law_purse_here", "_law_tall", "_law_way", "_law_second", "_law_bulk", "_law_start", "_law_more", "_law_some"], ["_law_purse_here", "_law_tall"]⟩,
  ⟨"is_whole", "is_whole", s_is_whole, ["thing"], ["thing"]⟩,
  ⟨"is_within", "is_within", s_is_within, ["thing", "least", "most"], ["thing", "least", "most"]⟩,
  ⟨"check_height", "check_height", s_check_height, ["height"], ["height"]⟩,
  ⟨"all_sizes", "all_sizes", s_all_sizes, ["height", "more"], ["height"]⟩,
  ⟨"wide", "wide", s_wide, ["height"], ["height"]⟩,
  ⟨"is_one_room", "is_one_room", s_is_one_room, ["height", "thing", "start", "size", "part"], ["height", "thing"]⟩,
  ⟨"is_room", "is_room", s_is_room, ["height", "thing"], ["height", "thing"]⟩,
  ⟨"_law_told", "_law_told", s__law_told, ["_law_tall", "_law_matter", "_law_due_here", "_law_told_here", "_law_one"], ["_law_tall", "_law_matter", "_law_due_here"]⟩,
  ⟨"_law_whole", "_law_whole", s__law_whole, ["_law_matter"], ["_law_matter"]⟩,
  ⟨"_law_due", "_law_due", s__law_due, ["_law_tall", "_law_matter", "_law_start", "_law_bulk", "_law_some", "_law_more"], ["_law_tall", "_law_matter"]⟩,
  ⟨"law", "law", s_law, ["_law_script", "_law_k", "_law_purse_here", "_law_tall", "_law_turn", "_law_bulk", "_law_matter", "_law_start", "_law_broad"], ["_law_script"]⟩]
def gl : List (Str × GK) := [("_law_purse", .fn 0), ("_law_take", .fn 1), ("_law_thing", .fn 2), ("is_whole", .fn 3), ("is_within", .fn 4), ("check_height", .fn 5), ("all_sizes", .fn 6), ("wide", .fn 7), ("is_one_room", .fn 8), ("is_room", .fn 9), ("_law_told", .fn 10), ("_law_whole", .fn 11), ("_law_due", .fn 12), ("law", .fn 13), ("HIGHEST", .cst (.int (8))), ("LEAST", .cst (.int (8))), ("LOWEST", .cst (.int (4))), ("all", .blt), ("bool", .blt), ("int", .blt), ("isinstance", .blt), ("len", .blt), ("max", .blt), ("min", .blt), ("range", .blt), ("str", .blt), ("tuple", .blt)]
def kc : List (Nat × Nat × List Str × List Nat) := [(9, 0, ["thing", "height"], [1, 0])]
theorem text_ok : textB prog gl kc defs = true := by decide +kernel
theorem all_mk {l : PySem.W.OpenLaw} {w : World} {K : PySem.W.Frag} {h : PySem.Heap} {mg : Str → Option Value} {fa f0 f1 f2 f3 f4 f5 f6 f7 f8 f9 f10 f11 f12 f13 : Addr} (X : K.In h) (G : h.Ns mainGlobals mg) (hfa : mg "law" = some (.ref fa))
    {od0 od1 od2 od3 od4 od5 od6 od7 od8 od9 od10 od11 od12 od13 an0 an1 an2 an3 an4 an5 an6 an7 an8 an9 an10 an11 an12 an13 : Option Addr} {sl0 sl1 sl2 sl3 sl4 sl5 sl6 sl7 sl8 sl9 sl10 sl11 sl12 sl13 : Array (Option Value)} {oc0 oc1 oc2 oc3 oc4 oc5 oc6 oc7 oc8 oc9 oc10 oc11 oc12 oc13 kV0 kV1 kV2 kV3 kV4 kV5 kV6 kV7 kV8 kV9 kV10 kV11 kV12 kV13 dc0 dc1 dc2 dc3 dc4 dc5 dc6 dc7 dc8 dc9 dc10 dc11 dc12 dc13 pm0 pm1 pm2 pm3 pm4 pm5 pm6 pm7 pm8 pm9 pm10 pm11 pm12 pm13 cd0 cd1 cd2 cd3 cd4 cd5 cd6 cd7 cd8 cd9 cd10 cd11 cd12 cd13 ct0 ct1 ct2 ct3 ct4 ct5 ct6 ct7 ct8 ct9 ct10 ct11 ct12 ct13 : Value} {tk0 tk1 tk2 : Tok}
    (a0 : PySem.W.nsIn K mainGlobals "_law_purse" = some (some (.ref f0)))
    (l0 : K.lookup f0 = some ⟨oc0, od0, .func (PySem.W.fnOf "_law_purse" "_law_purse" (defArgs s__law_purse) (defBody s__law_purse) (defScope s__law_purse) .none kV0 dc0 pm0 an0 cd0 ct0), sl0⟩)
    (c0 : PySem.W.codeIn K cd0 "_law_purse" = true) (k0 : PySem.W.keepIn K (.ref f0) = true)
    (a1 : PySem.W.nsIn K mainGlobals "_law_take" = some (some (.ref f1)))
    (l1 : K.lookup f1 = some ⟨oc1, od1, .func (PySem.W.fnOf "_law_take" "_law_take" (defArgs s__law_take) (defBody s__law_take) (defScope s__law_take) .none kV1 dc1 pm1 an1 cd1 ct1), sl1⟩)
    (c1 : PySem.W.codeIn K cd1 "_law_take" = true) (k1 : PySem.W.keepIn K (.ref f1) = true)
    (a2 : PySem.W.nsIn K mainGlobals "_law_thing" = some (some (.ref f2)))
    (l2 : K.lookup f2 = some ⟨oc2, od2, .func (PySem.W.fnOf "_law_thing" "_law_thing" (defArgs s__law_thing) (defBody s__law_thing) (defScope s__law_thing) .none kV2 dc2 pm2 an2 cd2 ct2), sl2⟩)
    (c2 : PySem.W.codeIn K cd2 "_law_thing" = true) (k2 : PySem.W.keepIn K (.ref f2) = true)
    (a3 : PySem.W.nsIn K mainGlobals "is_whole" = some (some (.ref f3)))
    (l3 : K.lookup f3 = some ⟨oc3, od3, .func (PySem.W.fnOf "is_whole" "is_whole" (defArgs s_is_whole) (defBody s_is_whole) (defScope s_is_whole) .none kV3 dc3 pm3 an3 cd3 ct3), sl3⟩)
    (c3 : PySem.W.codeIn K cd3 "is_whole" = true) (k3 : PySem.W.keepIn K (.ref f3) = true)
    (a4 : PySem.W.nsIn K mainGlobals "is_within" = some (some (.ref f4)))
    (l4 : K.lookup f4 = some ⟨oc4, od4, .func (PySem.W.fnOf "is_within" "is_within" (defArgs s_is_within) (defBody s_is_within) (defScope s_is_within) .none kV4 dc4 pm4 an4 cd4 ct4), sl4⟩)
    (c4 : PySem.W.codeIn K cd4 "is_within" = true) (k4 : PySem.W.keepIn K (.ref f4) = true)
    (a5 : PySem.W.nsIn K mainGlobals "check_height" = some (some (.ref f5)))
    (l5 : K.lookup f5 = some ⟨oc5, od5, .func (PySem.W.fnOf "check_height" "check_height" (defArgs s_check_height) (defBody s_check_height) (defScope s_check_height) .none kV5 dc5 pm5 an5 cd5 ct5), sl5⟩)
    (c5 : PySem.W.codeIn K cd5 "check_height" = true) (k5 : PySem.W.keepIn K (.ref f5) = true)
    (a6 : PySem.W.nsIn K mainGlobals "all_sizes" = some (some (.ref f6)))
    (l6 : K.lookup f6 = some ⟨oc6, od6, .func (PySem.W.fnOf "all_sizes" "all_sizes" (defArgs s_all_sizes) (defBody s_all_sizes) (defScope s_all_sizes) .none kV6 dc6 pm6 an6 cd6 ct6), sl6⟩)
    (c6 : PySem.W.codeIn K cd6 "all_sizes" = true) (k6 : PySem.W.keepIn K (.ref f6) = true)
    (a7 : PySem.W.nsIn K mainGlobals "wide" = some (some (.ref f7)))
    (l7 : K.lookup f7 = some ⟨oc7, od7, .func (PySem.W.fnOf "wide" "wide" (defArgs s_wide) (defBody s_wide) (defScope s_wide) .none kV7 dc7 pm7 an7 cd7 ct7), sl7⟩)
    (c7 : PySem.W.codeIn K cd7 "wide" = true) (k7 : PySem.W.keepIn K (.ref f7) = true)
    (a8 : PySem.W.nsIn K mainGlobals "is_one_room" = some (some (.ref f8)))
    (l8 : K.lookup f8 = some ⟨oc8, od8, .func (PySem.W.fnOf "is_one_room" "is_one_room" (defArgs s_is_one_room) (defBody s_is_one_room) (defScope s_is_one_room) .none kV8 dc8 pm8 an8 cd8 ct8), sl8⟩)
    (c8 : PySem.W.codeIn K cd8 "is_one_room" = true) (k8 : PySem.W.keepIn K (.ref f8) = true)
    (a9 : PySem.W.nsIn K mainGlobals "is_room" = some (some (.ref f9)))
    (l9 : K.lookup f9 = some ⟨oc9, od9, .func (PySem.W.fnOf "is_room" "is_room" (defArgs s_is_room) (defBody s_is_room) (defScope s_is_room) .none kV9 dc9 pm9 an9 cd9 ct9), sl9⟩)
    (c9 : PySem.W.codeIn K cd9 "is_room" = true) (k9 : PySem.W.keepIn K (.ref f9) = true)
    (a10 : PySem.W.nsIn K mainGlobals "_law_told" = some (some (.ref f10)))
    (l10 : K.lookup f10 = some ⟨oc10, od10, .func (PySem.W.fnOf "_law_told" "_law_told" (defArgs s__law_told) (defBody s__law_told) (defScope s__law_told) .none kV10 dc10 pm10 an10 cd10 ct10), sl10⟩)
    (c10 : PySem.W.codeIn K cd10 "_law_told" = true) (k10 : PySem.W.keepIn K (.ref f10) = true)
    (a11 : PySem.W.nsIn K mainGlobals "_law_whole" = some (some (.ref f11)))
    (l11 : K.lookup f11 = some ⟨oc11, od11, .func (PySem.W.fnOf "_law_whole" "_law_whole" (defArgs s__law_whole) (defBody s__law_whole) (defScope s__law_whole) .none kV11 dc11 pm11 an11 cd11 ct11), sl11⟩)
    (c11 : PySem.W.codeIn K cd11 "_law_whole" = true) (k11 : PySem.W.keepIn K (.ref f11) = true)
    (a12 : PySem.W.nsIn K mainGlobals "_law_due" = some (some (.ref f12)))
    (l12 : K.lookup f12 = some ⟨oc12, od12, .func (PySem.W.fnOf "_law_due" "_law_due" (defArgs s__law_due) (defBody s__law_due) (defScope s__law_due) .none kV12 dc12 pm12 an12 cd12 ct12), sl12⟩)
    (c12 : PySem.W.codeIn K cd12 "_law_due" = true) (k12 : PySem.W.keepIn K (.ref f12) = true)
    (a13 : PySem.W.nsIn K mainGlobals "law" = some (some (.ref f13)))
    (l13 : K.lookup f13 = some ⟨oc13, od13, .func (PySem.W.fnOf "law" "law" (defArgs s_law) (defBody s_law) (defScope s_law) .none kV13 dc13 pm13 an13 cd13 ct13), sl13⟩)
    (c13 : PySem.W.codeIn K cd13 "law" = true) (k13 : PySem.W.keepIn K (.ref f13) = true)
    (qg0 : PySem.W.nsIn K mainGlobals "HIGHEST" = some (some (.int (8) tk0)))
    (qg1 : PySem.W.nsIn K mainGlobals "LEAST" = some (some (.int (8) tk1)))
    (qg2 : PySem.W.nsIn K mainGlobals "LOWEST" = some (some (.int (4) tk2)))
    (qz0 : PySem.W.nsIn K mainGlobals "all" = some none)
    (qz1 : PySem.W.nsIn K mainGlobals "bool" = some none)
    (qz2 : PySem.W.nsIn K mainGlobals "int" = some none)
    (qz3 : PySem.W.nsIn K mainGlobals "isinstance" = some none)
    (qz4 : PySem.W.nsIn K mainGlobals "len" = some none)
    (qz5 : PySem.W.nsIn K mainGlobals "max" = some none)
    (qz6 : PySem.W.nsIn K mainGlobals "min" = some none)
    (qz7 : PySem.W.nsIn K mainGlobals "range" = some none)
    (qz8 : PySem.W.nsIn K mainGlobals "str" = some none)
    (qz9 : PySem.W.nsIn K mainGlobals "tuple" = some none)
    (run : ∀ ns : List Int, ns.length ≤ 63 → MP.run prog 8 13 [.scr (ns.map .int)] = .ret ⟨.bl true, false, []⟩) :
    ∃ fd : FuncData, (∀ (s : Shared) (v : Value), BindsTo s fd ⟨[v], []⟩ [("_law_script", v)]) ∧ ∀ base : PySem.Heap, K.In base → base.Ns mainGlobals mg → FnOk l.prog w K mg base CX0 8 fa fd ["_law_script"] (MPS.spLaw K 63) := by
  have e := hfa.symm.trans (PySem.W.mg_of X G a13)
  cases e
  let c : C := ⟨K, fun n => [f0, f1, f2, f3, f4, f5, f6, f7, f8, f9, f10, f11, f12, fa].getD n 0, fun _ => 0, fun _ => none⟩
  have r0 : Row K mg c (PySem.W.fnOf "_law_purse" "_law_purse" (defArgs s__law_purse) (defBody s__law_purse) (defScope s__law_purse) .none kV0 dc0 pm0 an0 cd0 ct0) kc ⟨"_law_purse", "_law_purse", s__law_purse, ["_law_script", "_law_k", "_law_cell"], ["_law_script", "_law_k"]⟩ 0 := ⟨(fun_mk (st := s__law_purse) l0 c0 k0), PySem.W.mg_of X G a0, (fun_mk (st := s__law_purse) l0 c0 k0).binds (ps := ["_law_script", "_law_k"]) fun _ _ _ _ _ _ us hl => match us, hl with | [_, _], _ => rfl, fun n ks ar h => by simp [kc] at h⟩
  have r1 : Row K mg c (PySem.W.fnOf "_law_take" "_law_take" (defArgs s__law_take) (defBody s__law_take) (defScope s__law_take) .none kV1 dc1 pm1 an1 cd1 ct1) kc ⟨"_law_take", "_law_take", s__law_take, ["_law_purse_here", "_law_many", "_law_found"], ["_law_purse_here", "_law_many"]⟩ 1 := ⟨(fun_mk (st := s__law_take) l1 c1 k1), PySem.W.mg_of X G a1, (fun_mk (st := s__law_take) l1 c1 k1).binds (ps := ["_law_purse_here", "_law_many"]) fun _ _ _ _ _ _ us hl => match us, hl with | [_, _], _ => rfl, fun n ks ar h => by simp [kc] at h⟩
  have r2 : Row K mg c (PySem.W.fnOf "_law_thing" "_law_thing" (defArgs s__law_thing) (defBody s__law_thing) (defScope s__law_thing) .none kV2 dc2 pm2 an2 cd2 ct2) kc ⟨"_law_thing", "_law_thing", s__law_thing, ["_law_purse_here", "_law_tall", "_law_way", "_law_second", "_law_bulk", "_law_start", "_law_more", "_law_some"], ["_law_purse_here", "_law_tall"]⟩ 2 := ⟨(fun_mk (st := s__law_thing) l2 c2 k2), PySem.W.mg_of X G a2, (fun_mk (st := s__law_thing) l2 c2 k2).binds (ps := ["_law_purse_here", "_law_tall"]) fun _ _ _ _ _ _ us hl => match us, hl with | [_, _], _ => rfl, fun n ks ar h => by simp [kc] at h⟩
  have r3 : Row K mg c (PySem.W.fnOf "is_whole" "is_whole" (defArgs s_is_whole) (defBody s_is_whole) (defScope s_is_whole) .none kV3 dc3 pm3 an3 cd3 ct3) kc ⟨"is_whole", "is_whole", s_is_whole, ["thing"], ["thing"]⟩ 3 := ⟨(fun_mk (st := s_is_whole) l3 c3 k3), PySem.W.mg_of X G a3, (fun_mk (st := s_is_whole) l3 c3 k3).binds (ps := ["thing"]) fun _ _ _ _ _ _ us hl => match us, hl with | [_], _ => rfl, fun n ks ar h => by simp [kc] at h⟩
  have r4 : Row K mg c (PySem.W.fnOf "is_within" "is_within" (defArgs s_is_within) (defBody s_is_within) (defScope s_is_within) .none kV4 dc4 pm4 an4 cd4 ct4) kc ⟨"is_within", "is_within", s_is_within, ["thing", "least", "most"], ["thing", "least", "most"]⟩ 4 := ⟨(fun_mk (st := s_is_within) l4 c4 k4), PySem.W.mg_of X G a4, (fun_mk (st := s_is_within) l4 c4 k4).binds (ps := ["thing", "least", "most"]) fun _ _ _ _ _ _ us hl => match us, hl with | [_, _, _], _ => rfl, fun n ks ar h => by simp [kc] at h⟩
  have r5 : Row K mg c (PySem.W.fnOf "check_height" "check_height" (defArgs s_check_height) (defBody s_check_height) (defScope s_check_height) .none kV5 dc5 pm5 an5 cd5 ct5) kc ⟨"check_height", "check_height", s_check_height, ["height"], ["height"]⟩ 5 := ⟨(fun_mk (st := s_check_height) l5 c5 k5), PySem.W.mg_of X G a5, (fun_mk (st := s_check_height) l5 c5 k5).binds (ps := ["height"]) fun _ _ _ _ _ _ us hl => match us, hl with | [_], _ => rfl, fun n ks ar h => by simp [kc] at h⟩
  have r6 : Row K mg c (PySem.W.fnOf "all_sizes" "all_sizes" (defArgs s_all_sizes) (defBody s_all_sizes) (defScope s_all_sizes) .none kV6 dc6 pm6 an6 cd6 ct6) kc ⟨"all_sizes", "all_sizes", s_all_sizes, ["height", "more"], ["height"]⟩ 6 := ⟨(fun_mk (st := s_all_sizes) l6 c6 k6), PySem.W.mg_of X G a6, (fun_mk (st := s_all_sizes) l6 c6 k6).binds (ps := ["height"]) fun _ _ _ _ _ _ us hl => match us, hl with | [_], _ => rfl, fun n ks ar h => by simp [kc] at h⟩
  have r7 : Row K mg c (PySem.W.fnOf "wide" "wide" (defArgs s_wide) (defBody s_wide) (defScope s_wide) .none kV7 dc7 pm7 an7 cd7 ct7) kc ⟨"wide", "wide", s_wide, ["height"], ["height"]⟩ 7 := ⟨(fun_mk (st := s_wide) l7 c7 k7), PySem.W.mg_of X G a7, (fun_mk (st := s_wide) l7 c7 k7).binds (ps := ["height"]) fun _ _ _ _ _ _ us hl => match us, hl with | [_], _ => rfl, fun n ks ar h => by simp [kc] at h⟩
  have r8 : Row K mg c (PySem.W.fnOf "is_one_room" "is_one_room" (defArgs s_is_one_room) (defBody s_is_one_room) (defScope s_is_one_room) .none kV8 dc8 pm8 an8 cd8 ct8) kc ⟨"is_one_room", "is_one_room", s_is_one_room, ["height", "thing", "start", "size", "part"], ["height", "thing"]⟩ 8 := ⟨(fun_mk (st := s_is_one_room) l8 c8 k8), PySem.W.mg_of X G a8, (fun_mk (st := s_is_one_room) l8 c8 k8).binds (ps := ["height", "thing"]) fun _ _ _ _ _ _ us hl => match us, hl with | [_, _], _ => rfl, fun n ks ar h => by simp [kc] at h⟩
  have r9 : Row K mg c (PySem.W.fnOf "is_room" "is_room" (defArgs s_is_room) (defBody s_is_room) (defScope s_is_room) .none kV9 dc9 pm9 an9 cd9 ct9) kc ⟨"is_room", "is_room", s_is_room, ["height", "thing"], ["height", "thing"]⟩ 9 := ⟨(fun_mk (st := s_is_room) l9 c9 k9), PySem.W.mg_of X G a9, (fun_mk (st := s_is_room) l9 c9 k9).binds (ps := ["height", "thing"]) fun _ _ _ _ _ _ us hl => match us, hl with | [_, _], _ => rfl, fun n ks ar h => by
    simp [kc] at h
    obtain ⟨rfl, rfl, rfl⟩ := h
    exact kbn_of fun us ws h1 h2 => match us, ws, h1, h2 with | [], [_, _], _, _ => rfl⟩
  have r10 : Row K mg c (PySem.W.fnOf "_law_told" "_law_told" (defArgs s__law_told) (defBody s__law_told) (defScope s__law_told) .none kV10 dc10 pm10 an10 cd10 ct10) kc ⟨"_law_told", "_law_told", s__law_told, ["_law_tall", "_law_matter", "_law_due_here", "_law_told_here", "_law_one"], ["_law_tall", "_law_matter", "_law_due_here"]⟩ 10 := ⟨(fun_mk (st := s__law_told) l10 c10 k10), PySem.W.mg_of X G a10, (fun_mk (st := s__law_told) l10 c10 k10).binds (ps := ["_law_tall", "_law_matter", "_law_due_here"]) fun _ _ _ _ _ _ us hl => match us, hl with | [_, _, _], _ => rfl, fun n ks ar h => by simp [kc] at h⟩
  have r11 : Row K mg c (PySem.W.fnOf "_law_whole" "_law_whole" (defArgs s__law_whole) (defBody s__law_whole) (defScope s__law_whole) .none kV11 dc11 pm11 an11 cd11 ct11) kc ⟨"_law_whole", "_law_whole", s__law_whole, ["_law_matter"], ["_law_matter"]⟩ 11 := ⟨(fun_mk (st := s__law_whole) l11 c11 k11), PySem.W.mg_of X G a11, (fun_mk (st := s__law_whole) l11 c11 k11).binds (ps := ["_law_matter"]) fun _ _ _ _ _ _ us hl => match us, hl with | [_], _ => rfl, fun n ks ar h => by simp [kc] at h⟩
  have r12 : Row K mg c (PySem.W.fnOf "_law_due" "_law_due" (defArgs s__law_due) (defBody s__law_due) (defScope s__law_due) .none kV12 dc12 pm12 an12 cd12 ct12) kc ⟨"_law_due", "_law_due", s__law_due, ["_law_tall", "_law_matter", "_law_start", "_law_bulk", "_law_some", "_law_more"], ["_law_tall", "_law_matter"]⟩ 12 := ⟨(fun_mk (st := s__law_due) l12 c12 k12), PySem.W.mg_of X G a12, (fun_mk (st := s__law_due) l12 c12 k12).binds (ps := ["_law_tall", "_law_matter"]) fun _ _ _ _ _ _ us hl => match us, hl with | [_, _], _ => rfl, fun n ks ar h => by simp [kc] at h⟩
  have r13 : Row K mg c (PySem.W.fnOf "law" "law" (defArgs s_law) (defBody s_law) (defScope s_law) .none kV13 dc13 pm13 an13 cd13 ct13) kc ⟨"law", "law", s_law, ["_law_script", "_law_k", "_law_purse_here", "_law_tall", "_law_turn", "_law_bulk", "_law_matter", "_law_start", "_law_broad"], ["_law_script"]⟩ 13 := ⟨(fun_mk (st := s_law) l13 c13 k13), PySem.W.mg_of X G a13, (fun_mk (st := s_law) l13 c13 k13).binds (ps := ["_law_script"]) fun _ _ _ _ _ _ us hl => match us, hl with | [_], _ => rfl, fun n ks ar h => by simp [kc] at h⟩
  have gg : GlAll mg c gl := ⟨trivial, trivial, trivial, trivial, trivial, trivial, trivial, trivial, trivial, trivial, trivial, trivial, trivial, trivial, gl_int (PySem.W.mg_of X G qg0), gl_int (PySem.W.mg_of X G qg1), gl_int (PySem.W.mg_of X G qg2), PySem.W.mg_none_of X G qz0, PySem.W.mg_none_of X G qz1, PySem.W.mg_none_of X G qz2, PySem.W.mg_none_of X G qz3, PySem.W.mg_none_of X G qz4, PySem.W.mg_none_of X G qz5, PySem.W.mg_none_of X G qz6, PySem.W.mg_none_of X G qz7, PySem.W.mg_none_of X G qz8, PySem.W.mg_none_of X G qz9, trivial⟩
  have rr : RowsAll K mg c kc 0 defs [(PySem.W.fnOf "_law_purse" "_law_purse" (defArgs s__law_purse) (defBody s__law_purse) (defScope s__law_purse) .none kV0 dc0 pm0 an0 cd0 ct0), (PySem.W.fnOf "_law_take" "_law_take" (defArgs s__law_take) (defBody s__law_take) (defScope s__law_take) .none kV1 dc1 pm1 an1 cd1 ct1), (PySem.W.fnOf "_law_thing" "_law_thing" (defArgs s__law_thing) (defBody s__law_thing) (defScope s__law_thing) .none kV2 dc2 pm2 an2 cd2 ct2), (PySem.W.fnOf "is_whole" "is_whole" (defArgs s_is_whole) (defBody s_is_whole) (defScope s_is_whole) .none kV3 dc3 pm3 an3 cd3 ct3), (PySem.W.fnOf "is_within" "is_within" (defArgs s_is_within) (defBody s_is_within) (defScope s_is_within) .none kV4 dc4 pm4 an4 cd4 ct4), (PySem.W.fnOf "check_height" "check_height" (defArgs s_check_height) (defBody s_check_height) (defScope s_check_height) .none kV5 dc5 pm5 an5 cd5 ct5), (PySem.W.fnOf "all_sizes" "all_sizes" (defArgs s_all_sizes) (defBody s_all_sizes) (defScope s_all_sizes) .none kV6 dc6 pm6 an6 cd6 ct6), (PySem.W.fnOf "wide" "wide" (defArgs s_wide) (defBody s_wide) (defScope s_wide) .none kV7 dc7 pm7 an7 cd7 ct7), (PySem.W.fnOf "is_one_room" "is_one_room" (defArgs s_is_one_room) (defBody s_is_one_room) (defScope s_is_one_room) .none kV8 dc8 pm8 an8 cd8 ct8), (PySem.W.fnOf "is_room" "is_room" (defArgs s_is_room) (defBody s_is_room) (defScope s_is_room) .none kV9 dc9 pm9 an9 cd9 ct9), (PySem.W.fnOf "_law_told" "_law_told" (defArgs s__law_told) (defBody s__law_told) (defScope s__law_told) .none kV10 dc10 pm10 an10 cd10 ct10), (PySem.W.fnOf "_law_whole" "_law_whole" (defArgs s__law_whole) (defBody s__law_whole) (defScope s__law_whole) .none kV11 dc11 pm11 an11 cd11 ct11), (PySem.W.fnOf "_law_due" "_law_due" (defArgs s__law_due) (defBody s__law_due) (defScope s__law_due) .none kV12 dc12 pm12 an12 cd12 ct12), (PySem.W.fnOf "law" "law" (defArgs s_law) (defBody s_law) (defScope s_law) .none kV13 dc13 pm13 an13 cd13 ct13)] := ⟨r0, r1, r2, r3, r4, r5, r6, r7, r8, r9, r10, r11, r12, r13, trivial⟩
  refine ⟨(PySem.W.fnOf "law" "law" (defArgs s_law) (defBody s_law) (defScope s_law) .none kV13 dc13 pm13 an13 cd13 ct13), fun s v => .of_eq rfl, fun base _ _ => ?_⟩
  exact law_ok (c := c) rfl (all_ok (c := c) rfl text_ok rr gg 8 (i := 13) rfl rfl rfl) run
theorem walk {l : PySem.W.OpenLaw} {q : Program} {loose : List Str} {XP : (Str → Option Value) → PySem.Heap → Prop} {YP : World → PySem.Heap → Prop} {d : DefRec} {K : Params → PySem.W.Frag} (hn : l.most = some 63) (hdf : d.params.defaults = [])
    (hY : ∀ (w : World) (h : PySem.Heap), YP w h → (K w.params).In h)
    (F : ∀ (w : World) (mg : Str → Option Value) (fa : Addr) (h : PySem.Heap), (K w.params).In h → h.Ns mainGlobals mg → mg d.name = some (.ref fa) →
      ∃ fd : FuncData, (∀ (s : Shared) (u : Value), BindsTo s fd ⟨[u], []⟩ [("_law_script", u)]) ∧ ∀ base : PySem.Heap, (K w.params).In base → base.Ns mainGlobals mg → FnOk l.prog w (K w.params) mg base CX0 8 fa fd ["_law_script"] (MPS.spLaw (K w.params) 63)) :
    PySem.W.WalkO q loose XP YP l.row.toRowW d [] (fun f vs => PySem.call f vs) :=
  L2.walk_of (n := 63) (k := 8) (x := "_law_script") (CX := fun _ => CX0) (sp := fun w => MPS.spLaw (K w.params) 63) hn (by decide) hdf ⟨rfl, by decide, by decide⟩ hY F (fun _ _ a ns hl ho hS => ⟨a, ns, rfl, ho, hS, hl, fun _ => rfl⟩) fun _ _ _ _ _ z => z
end K02
open PySem PySem.W PyProof.Rows
set_option maxRecDepth 100000 in
set_option maxHeartbeats 0 in
theorem PySem.Challenge.cw_roomhalves_k02_rooms_of_any_kind_holds : PySem.Challenge.rw_roomhalves_k02_rooms_of_any_kind.Holds := by
  w_on; o_law; k_head; (case hw => w_witness2)
  k_fill
  refine K02.walk (l := PySem.Challenge.rw_roomhalves_k02_rooms_of_any_kind) rfl rfl (fun w h Y => PySem.W.kIn_of Y) ?F
  case F =>
    intro w mg fa h KX G hmg
    refine' K02.all_mk KX G hmg ?a0 ?l0 ?c0 ?k0 ?a1 ?l1 ?c1 ?k1 ?a2 ?l2 ?c2 ?k2 ?a3 ?l3 ?c3 ?k3 ?a4 ?l4 ?c4 ?k4 ?a5 ?l5 ?c5 ?k5 ?a6 ?l6 ?c6 ?k6 ?a7 ?l7 ?c7 ?k7 ?a8 ?l8 ?c8 ?k8 ?a9 ?l9 ?c9 ?k9 ?a10 ?l10 ?c10 ?k10 ?a11 ?l11 ?c11 ?k11 ?a12 ?l12 ?c12 ?k12 ?a13 ?l13 ?c13 ?k13 ?qg0 ?qg1 ?qg2 ?qz0 ?qz1 ?qz2 ?qz3 ?qz4 ?qz5 ?qz6 ?qz7 ?qz8 ?qz9 K02.run_ok
    (case a0 => k_is)
    (case l0 => k_is)
    (case c0 => k_is)
    (case k0 => k_is)
    (case a1 => k_is)
    (case l1 => k_is)
    (case c1 => k_is)
    (case k1 => k_is)
    (case a2 => k_is)
    (case l2 => k_is)
    (case c2 => k_is)
    (case k2 => k_is)
    (case a3 => k_is)
    (case l3 => k_is)
    (case c3 => k_is)
    (case k3 => k_is)
    (case a4 => k_is)
    (case l4 => k_is)
    (case c4 => k_is)
    (case k4 => k_is)
    (case a5 => k_is)
    (case l5 => k_is)
    (case c5 => k_is)
    (case k5 => k_is)
    (case a6 => k_is)
    (case l6 => k_is)
    (case c6 => k_is)
    (case k6 => k_is)
    (case a7 => k_is)
    (case l7 => k_is)
    (case c7 => k_is)
    (case k7 => k_is)
    (case a8 => k_is)
    (case l8 => k_is)
    (case c8 => k_is)
    (case k8 => k_is)
    (case a9 => k_is)
    (case l9 => k_is)
    (case c9 => k_is)
    (case k9 => k_is)
    (case a10 => k_is)
    (case l10 => k_is)
    (case c10 => k_is)
    (case k10 => k_is)
    (case a11 => k_is)
    (case l11 => k_is)
    (case c11 => k_is)
    (case k11 => k_is)
    (case a12 => k_is)
    (case l12 => k_is)
    (case c12 => k_is)
    (case k12 => k_is)
    (case a13 => k_is)
    (case l13 => k_is)
    (case c13 => k_is)
    (case k13 => k_is)
    (case qg0 => k_is)
    (case qg1 => k_is)
    (case qg2 => k_is)
    (case qz0 => k_is)
    (case qz1 => k_is)
    (case qz2 => k_is)
    (case qz3 => k_is)
    (case qz4 => k_is)
    (case qz5 => k_is)
    (case qz6 => k_is)
    (case qz7 => k_is)
    (case qz8 => k_is)
    (case qz9 => k_is)
